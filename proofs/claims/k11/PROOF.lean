import PyProof.Rows.All
import Wide.All
import OpenK.AllK
import Wide.FinOn
import HandS.CallSlots
import HandS.EndTab
import HandS.EndBits
import HandS.Words
import HandS.WordsExc
import HandS.HotCalls
import HandS.ExcCtx
import HandS.Lambda
import HandS.Comp
import KE.KExcIs
import KE.KTryMore
import HandS.IsInst
import HandS.ExcIs
import HandS.Codes
import HandS.Defaults
import HandS.TupMul
import HandS.SortKw
import HandS.FltList
import HandS.Iter
import KE.DataMinKey
import PyProof.WalkInts
import HandS.TupAny
import PyProof.SumAnyB
import PyProof.InstSpecial
import HandS.Rev
import HandS.MapObj
import HandS.MapJoin
import KE.DataMinMax
import HandS.List
import KE.SortData
import HandS.ForMost
import HandS.Exc
import HandS.ExcOwn
import HandS.Wide
import HandS.Style
import HandS.Conv
import HandS.More
import KE.KNestM
import HandS.WideBits
import HandS.Zip
import PyProof.StrLawsIn
import HandS.Dict
import PyProof.StrLawsRepr
import PyProof.FitsInt
import PyProof.Rows.RegStrFacts
import PyProof.ReprRoads
import HandS.ExcInit
import HandS.ExcField
import HandS.Strs
import HandS.Deep
import PyProof.P3In
import PyProof.TupleKey
import PyProof.DictRoadsH
import PyProof.DictKinds
import HandS.FStr
import KE.LtData
import KE.KSuperObj
import HandS.IntHex
import HandS.ReplaceLit
import PyProof.StrLawsReplace
import KE.GoesEnumKw
import PyProof.Rows.CountFlat
import PyProof.InstNe
import HandS.SlotsOwn
import KE.KCallOwn
import HandS.RaiseMore
import PyProof.EqKinds
import PyProof.FactsAll.bool_1
import PyProof.FactsAll.NoneType_1
import HandS.OwnEq
import PyProof.Rows.ReprOcc
import PySem.Challenge.RW_nearthrees_k11_fractions_and_forms_of_ro
set_option Elab.async false
set_option linter.all false
set_option maxRecDepth 100000
set_option maxHeartbeats 4000000
/-! Promises of defs that are called where nothing is being shown (repr): calls, bodies, the law's end. -/
namespace Hx
open PySem PySem.Spec PyProof.Rows L2
/-- room for k calls, and no repr is under way -/
structure RoomG (k : Nat) (A : Around) : Prop where
  rm : Room k A
  gd : A.guards = some []
section
variable {j k : Nat} {A : Around}
theorem RoomG.mono (r : RoomG k A) (h : j ≤ k) : RoomG j A := ⟨r.rm.mono h, r.gd⟩
theorem RoomG.deeper (r : RoomG (k + 1) A) (env : Env) : RoomG k (A.deeper env) := ⟨r.rm.deeper env, r.gd⟩
theorem RoomG.in1 (r : RoomG (k + 1) A) : RoomG k A.in1 := ⟨r.rm.in1, r.gd⟩
theorem RoomG.depth (r : RoomG k A) : A.depth < recursionLimit := r.rm.depth
theorem RoomG.units (r : RoomG k A) : A.units + 64 < cLine := r.rm.units
theorem RoomG.hd (r : RoomG k A) : A.handled = none := r.rm.hd
end
structure FnG (P : Program) (w : World) (K : PySem.W.Frag) (mg : Str → Option Value) (base : Heap) (CX : CXT) (k : Nat) (f : Addr) (fd : FuncData) (ps : List Str) (sp : Sp) : Prop where
  len : ∀ vs H Q E, sp vs H Q E → vs.length = ps.length
  run : ∀ (A : Around) (outer : List Env) (s : Shared) (H : Hp) (args : Args) (us : List Value) (vs : List V) (Q : VK) (E : XK), RoomG k A → Env0 P w K mg base A outer s H → BindsTo s fd args (ps.zip us) → Vals vs us → sp vs H Q E →
    codeAny (model P w) A (.call (.ref f) args) (CR CX outer P w H s Q E) s
section
variable {X : Cx} {CX : CXT} {k : Nat} {f : Addr} {fd : FuncData} {ps : List Str} {sp : Sp} {dvs : List V} {ds : List Value} {E : L2.St → XK} {x : Str} {p pos : Pos} {e : Expr} {es : List Expr} {t : TA}
theorem fnG_run {pins : List (Addr × Obj)} {σ : L2.St} {H : Hp} {s : Shared} {Q : VK} {us : List Value} {vs : List V} (F : FnG X.prog X.w X.K X.mg X.base CX k f fd ps sp) (hr : RoomG k X.A) (hb : Binds X.K fd ps ds) (hd : Vals dvs ds) (hx : PassesAt CX X σ (E σ))
    (I : Inv X pins σ H s) (r : Vals vs us) (h : sp (vs ++ dvs) H Q (E σ)) : wpAny (model X.prog X.w) X.A (call (.ref f) us) (EP X pins σ Q) X.xe s := by
  have all : Vals (vs ++ dvs) (us ++ ds) := r.append hd
  have bind := hb s us I.kIn (by rw [← all.length]; exact F.len _ _ _ _ h)
  refine wpAny_call (codeAny_mono (F.run X.A X.stack s H _ _ _ Q (E σ) hr I.env0 bind all h) fun out s' got => ?_)
  match out, got with
  | .error e, got => exact hx pins H s e s' I got
  | .ok (.ret u), got => exact I.after got
/-- f(e, ..) -/
theorem pe_callG (F : FnG X.prog X.w X.K X.mg X.base CX k f fd ps sp) (hr : RoomG k X.A) (hg : Gl X x) (hm : X.mg x = some (.ref f)) (hk : PySem.W.keepIn X.K (.ref f) = true) (hb : Binds X.K fd ps ds) (hd : Vals dvs ds) (hx : ∀ σ, PassesAt CX X σ (E σ))
    (ha : PA X (e :: es) t) (hdb : (x == ("__debug__" : Str)) = false := by decide) (he : starEach (e :: es) X.env = (false, eval e X.env) :: starEach es X.env := by rfl) (hpl : (backTo pos (starEach es X.env)).any (·.1) = false := by rfl) :
    PE X (.Call (.Name x p) (e :: es) [] pos) (tCallSD sp dvs E t) :=
  ⟨fun pins s σ H Q I h => wpAny_Call_Name_kw (ld_glob I hg hm (PySem.W.callWith_K (h₀ := X.base) I.ok.mod.kin hk (thn (ha.run pos pins s σ H _ I h) fun us s1 ⟨vs, H1, I1, r, q⟩ => ⟨I1.kIn, fnG_run F hr hb hd (hx σ) I1 r q⟩) he hpl) hdb)⟩
end
/-- a def by its body -/
theorem fnG_of {CX : CXT} {P : Program} {w : World} {K : PySem.W.Frag} {mg : Str → Option Value} {base : Heap} {k : Nat} {f : Addr} {x qual : Str} {st : Stmt} {fd : FuncData} {N ps : List Str} {sp : Sp} (F : L2.Fun K x qual st f fd) (S : FnScope N ps (defScope st)) (len : ∀ vs H Q E, sp vs H Q E → vs.length = ps.length)
    (body : ∀ (cdv : Value), cdv = fd.code → ∀ (A : Around) (outer : List Env) (s : Shared) (H : Hp) (vs : List V) (Q : VK) (E : XK), RoomG k (A.deeper (envOfC qual (defScope st) s.heap.objs.size f cdv)) → sp vs H Q E →
      ∃ t, PSs (cxOf CX P w K mg base N qual (defScope st) f cdv A outer s H E) (defBody st) t ∧ t { nx := fun _ H' => Q .non H', rt := Q } (L2.start N vs) H) : FnG P w K mg base CX (k + 1) f fd ps sp := by
  refine ⟨len, fun A outer s H args us vs Q E room e0 bind r q => ?_⟩
  obtain ⟨oc, od, kV, doc, pm, an, cdv, ct, osl, rfl, lk, code⟩ := F.ex
  have KX : K.In s.heap := e0.mod.kin.keeps fun b o e => (e0.bs b o e).1
  have lim : s.heap.NoLimit := e0.mod.nolimit.keeps fun b o e => (e0.bs b o e).1
  have known : ∀ y ∈ ps.zip us, (defScope st).names.lookup y.1 = some .local ∨ ((defScope st).names.lookup y.1 = some .cell ∧ ((cellsFrom (s.heap.objs.size + 1) (defScope st).names []).lookup y.1).isSome = true) := fun y hy =>
    (S.par y.1 (List.of_mem_zip (a := y.1) (b := y.2) hy).1).imp id fun z => ⟨z, PySem.W.cellsFrom_some _ _ _ (.inl z)⟩
  refine codeAny_call_function room.depth (KX _ _ lk) rfl S.co S.gen rfl (PySem.W.codeRec_of KX code) (bind _ _ _ _ (wpAny_newFunctionEnv_cells S.kind known fun env he s1 y => ?_))
  subst he
  obtain ⟨t, ht, hq⟩ := body cdv rfl A outer s H vs Q E (room.deeper _) q
  have I : Inv (cxOf CX P w K mg base N qual (defScope st) f cdv A outer s H E) [] (L2.start N vs) H s1 := inv_start S room.hd e0 (len _ _ _ _ q) r y
  refine ⟨lim.keeps y.toInCall.keep, codeAny_func (wpAny_mono (ht.run [] s1 _ H _ I hq) (fun fl s' z => ?_) fun e s' z => z)⟩
  match fl, z with
  | .ret u, ⟨v, σ', H', J, rv, z⟩ => exact ⟨v, H', J.os, J.bare, J.base, J.hok, rv, z⟩
  | .next, ⟨σ', H', J, z⟩ => exact ⟨.non, H', J.os, J.bare, J.base, J.hok, rfl, z⟩
  | .brk, ⟨_, _, _, z⟩ => exact z.elim
  | .cont, ⟨_, _, _, z⟩ => exact z.elim
/-! ### the law -/
section
variable {P : Program} {w : World} {K : PySem.W.Frag} {mg mb : Str → Option Value} {CX : CXT} {k : Nat} {fa a : Addr} {cs : List (Addr × Addr)} {fd : FuncData} {x : Str} {sp : Sp} {s : Shared} {vs : List Value} {ns : List Int}
abbrev tblO : Obj := { cls := .none, data := .fields #[] }
abbrev scrO (vs : List Value) : Obj := { cls := .type "list", data := .seq vs.toArray }
/-- the heap at the law's start: its tables, and the script where the written part has it not -/
def lawH (K : PySem.W.Frag) (cs : List (Addr × Addr)) (a : Addr) (vs : List Value) (ns : List Int) : Hp := fun b => if b ∈ cs.map (·.2) then some (.tbl #[]) else if b = a ∧ K.lookup a = none then some (.frz (scrO vs) (.lst (ns.map V.int))) else none
theorem lawH_tab {b : Addr} (h : b ∈ cs.map (·.2)) : lawH K cs a vs ns b = some (.tbl #[]) := if_pos h
theorem lawH_cases (b : Addr) : (b ∈ cs.map (·.2) ∧ lawH K cs a vs ns b = some (.tbl #[])) ∨ (b ∉ cs.map (·.2) ∧ (b = a ∧ K.lookup a = none) ∧ lawH K cs a vs ns b = some (.frz (scrO vs) (.lst (ns.map V.int)))) ∨ (b ∉ cs.map (·.2) ∧ ¬ (b = a ∧ K.lookup a = none) ∧ lawH K cs a vs ns b = none) := by
  unfold lawH
  by_cases h : b ∈ cs.map (·.2)
  · exact .inl ⟨h, if_pos h⟩
  · by_cases g : b = a ∧ K.lookup a = none
    · exact .inr (.inl ⟨h, g, (if_neg h).trans (if_pos g)⟩)
    · exact .inr (.inr ⟨h, g, (if_neg h).trans (if_neg g)⟩)
theorem lawG_call (KX : K.In s.heap) (hm : s.heap.Ns mainGlobals mg) (hb : s.heap.Ns builtinsNs mb) (hbo : ∀ x : Str, x ≠ "__name__" → mb x = bootBuiltins x) (hn : s.heap.NoLimit) (hgen : s.gens = #[])
    (hT : ∀ p ∈ cs, s.heap.get? p.2 = some tblO) (nT : ∀ p ∈ cs, K.lookup p.2 = none) (hC : ∀ p ∈ cs, PySem.W.CodeHd s.heap p.1 p.2)
    (hbm : ∃ (bm : Addr) (ob : Obj), mg "__builtins__" = some (.ref bm) ∧ bm ≠ builtinsNs ∧ s.heap.get? bm = some ob ∧ ob.cls = .type "module" ∧ ob.dict = some builtinsNs ∧ ob.data = .plain)
    (ha : s.heap.get? a = some (scrO vs)) (hi : IntsAre vs ns) (hl : ns.length ≤ sizeLine) (hr : RoomG k callerA)
    (F : ∀ base : Heap, K.In base → base.Ns mainGlobals mg → (∀ p ∈ cs, LamX.TabB base mg p.1 p.2) → FnG P w K mg base CX k fa fd [x] sp) (bind : ∀ (s : Shared) (u : Value), BindsTo s fd ⟨[u], []⟩ [(x, u)])
    (hsp : ∀ H : Hp, (∀ p ∈ cs, H p.2 = some (.tbl #[])) → SqL K H a (ns.map V.int) → sp [.ref a] H (fun v _ => v = .bl true) fun _ _ _ => False)
    (hCX : ∀ H e s', CX [] H s (fun _ _ _ => False) e s' → False) :
    codeAny (model P w) callerA (.call (.ref fa) ⟨[.ref a], []⟩) (fun r s' => r = .ok (.ret (.bool true)) ∧ OldK s.heap s'.heap ∧ s'.os = s.os ∧ AllBare s'.gens) s := by
  have tabAt : ∀ b, b ∈ cs.map (·.2) → s.heap.get? b = some tblO := fun b h => by
    obtain ⟨p, hp, e⟩ := List.mem_map.mp h
    exact e ▸ hT p hp
  have tabK : ∀ b, b ∈ cs.map (·.2) → K.lookup b = none := fun b h => by
    obtain ⟨p, hp, e⟩ := List.mem_map.mp h
    exact e ▸ nT p hp
  have inT : ∀ p ∈ cs, p.2 ∈ cs.map (·.2) := fun p hp => List.mem_map.mpr ⟨p, hp, rfl⟩
  have aT : a ∉ cs.map (·.2) := fun h => by
    have z := ha.symm.trans (tabAt a h)
    cases z
  -- what is neither a list nor an empty record isn't tracked
  have out : ∀ {b : Addr} {o : Obj}, s.heap.get? b = some o → (∀ us n, o.data ≠ .seq us n) → o.data ≠ .fields #[] → lawH K cs a vs ns b = none := fun {b o} e h1 h2 => by
    rcases lawH_cases (K := K) (cs := cs) (a := a) (vs := vs) (ns := ns) b with ⟨z, _⟩ | ⟨_, z, _⟩ | ⟨_, _, z⟩
    · rw [tabAt b z] at e
      cases e
      exact absurd rfl h2
    · rw [z.1, ha] at e
      cases e
      exact absurd rfl (h1 _ _)
    · exact z
  have seen : ∀ {b : Addr} {o : Obj}, s.heap.get? b = some o → (∀ us n, o.data ≠ .seq us n) → o.data ≠ .fields #[] → (hidT s.heap (lawH K cs a vs ns)).get? b = some o := fun e h1 h2 => hidT_get e (out e h1 h2)
  have space : ∀ {b : Addr} {m : Str → Option Value}, s.heap.Ns b m → (hidT s.heap (lawH K cs a vs ns)).Ns b m := fun ⟨o, es, ep, e, d, r⟩ => ⟨o, es, ep, seen e (fun us n z => by rw [d] at z; cases z) (fun z => by rw [d] at z; cases z), d, r⟩
  have KB : K.In (hidT s.heap (lawH K cs a vs ns)) := fun b o e => hidT_get (KX b o e) (by
    rcases lawH_cases (K := K) (cs := cs) (a := a) (vs := vs) (ns := ns) b with ⟨z, _⟩ | ⟨_, z, _⟩ | ⟨_, _, z⟩
    · rw [tabK b z] at e
      cases e
    · rw [z.1, z.2] at e
      cases e
    · exact z)
  have hmod : L2.Mod K mg (hidT s.heap (lawH K cs a vs ns)) := ⟨KB, space hm, ⟨mb, space hb, hbo⟩, hn.imp fun _ h => ⟨space h.1, h.2⟩⟩
  have TB : ∀ p ∈ cs, LamX.TabB (hidT s.heap (lawH K cs a vs ns)) mg p.1 p.2 := fun p hp => by
    have tp := hT p hp
    refine ⟨?_, ?_, fun z => ?_⟩
    · obtain ⟨o, us, c1, c2, c3, c4, c5, c6, c7, e1, r1, r2, r3, rest⟩ := hC p hp
      refine ⟨o, us, c1, c2, c3, c4, c5, c6, c7, seen e1 (fun vs n z => by rw [r2] at z; cases z) (fun z => ?_), r1, r2, r3, rest⟩
      rw [r2] at z
      cases z
      simp at r3
    · obtain ⟨bm, ob, b1, b2, b3, b4, b5, b6⟩ := hbm
      have n1 : bm ≠ mainGlobals := fun q => by
        obtain ⟨o, es, ep, e, d, _⟩ := hm
        rw [← q, b3] at e
        cases e
        rw [b6] at d
        cases d
      have n2 : bm ≠ p.2 := fun q => by
        rw [q, tp] at b3
        cases b3
        cases b6
      exact ⟨bm, ob, b1, b2, n1, n2, seen b3 (fun vs n z => by rw [b6] at z; cases z) (fun z => by rw [b6] at z; cases z), b4, b5, b6⟩
    · obtain ⟨o, es, ep, e, d, _⟩ := hm
      rw [z, tp] at e
      cases e
      cases d
  have hok : HOk P w (lawH K cs a vs ns) s.heap := fun b u e => by
    rcases lawH_cases (K := K) (cs := cs) (a := a) (vs := vs) (ns := ns) b with ⟨z, q⟩ | ⟨_, z, q⟩ | ⟨_, _, q⟩
    · cases q.symm.trans e
      exact tabAt b z
    · cases q.symm.trans e
      rw [z.1]
      exact ⟨ha, by rw [List.length_map]; exact hl, vs, _, vals_ints hi, ha⟩
    · cases q.symm.trans e
  have e0 : Env0 P w K mg (hidT s.heap (lawH K cs a vs ns)) callerA [] s (lawH K cs a vs ns) := ⟨rfl, hmod, fun b o e => of_hidT e, Nat.le_of_eq (hidT_size _ _), trivial, fun b z => (nomatch (show b ∈ ([] : List Addr) from z)), hok, .of_eq hgen⟩
  have list : SqL K (lawH K cs a vs ns) a (ns.map V.int) := by
    cases q : K.lookup a with
    | some o =>
      cases ha.symm.trans (KX a o q)
      exact .inr ⟨_, vs.toArray, _, q, rfl, rfl, rfl, by rw [List.size_toArray, hi.length]; exact hl, by simpa using vals_ints hi⟩
    | none => exact .inl (.inr ⟨scrO vs, (if_neg aT).trans (if_pos ⟨rfl, q⟩)⟩)
  refine codeAny_mono ((F _ KB (space hm) TB).run callerA [] s (lawH K cs a vs ns) ⟨[.ref a], []⟩ [.ref a] [.ref a] _ _ hr e0 (bind s (.ref a)) (.cons rfl .nil) (hsp _ (fun p hp => lawH_tab (inT p hp)) list)) fun r s' got => ?_
  match r, got with
  | .error e, got => exact (hCX _ e s' got).elim
  | .ok (.ret u), ⟨v, H', os, bare, un, hok', rv, q⟩ =>
    have q' : v = .bl true := q
    subst q'
    obtain rfl : u = Value.bool true := rv
    have kept : ∀ b o, b ∉ cs.map (·.2) → s.heap.get? b = some o → s'.heap.get? b = some o := fun b o nb e => by
      rcases lawH_cases (K := K) (cs := cs) (a := a) (vs := vs) (ns := ns) b with ⟨z, _⟩ | ⟨_, z, q⟩ | ⟨_, _, q⟩
      · exact absurd z nb
      · have h1 := (hok b _ q).1
        rw [e] at h1
        cases h1
        exact (hok' b _ (un.frzs b _ _ q)).1
      · exact un.keep b o e q (fun z => (nomatch (show b ∈ ([] : List Addr) from z))) (fun z => (nomatch z))
    have grown : ∀ p ∈ cs, ∃ more : Array Value, s'.heap.get? p.2 = some { cls := .none, data := .fields more } := fun p hp => by
      obtain ⟨more, z⟩ := un.tbls p.2 #[] (lawH_tab (inT p hp))
      exact ⟨_, hok' p.2 _ z⟩
    refine ⟨rfl, ⟨fun b o e => ?_, fun b o e => ?_⟩, os, bare⟩
    · by_cases hb : b ∈ cs.map (·.2)
      · obtain ⟨p, hp, rfl⟩ := List.mem_map.mp hb
        obtain ⟨more, hmo⟩ := grown p hp
        cases (hT p hp).symm.trans e
        exact .inr (.inl ⟨((hC p hp).tab (hT p hp)).isCodeTable, rfl, #[], more, rfl, by rw [Array.empty_append]; exact hmo⟩)
      · exact .inl (kept b o hb e)
    · by_cases hb : b ∈ cs.map (·.2)
      · obtain ⟨p, hp, rfl⟩ := List.mem_map.mp hb
        obtain ⟨more, hmo⟩ := grown p hp
        exact ⟨_, hmo⟩
      · exact ⟨o, kept b o hb e⟩
end
/-- what is known of the law at the head's heap -/
def LawG (l : PySem.W.OpenLaw) (w : World) (K : PySem.W.Frag) (CX : CXT) (k n : Nat) (x : Str) (mg : Str → Option Value) (fa : Addr) (h : Heap) : Prop :=
  ∃ (fd : FuncData) (cs : List (Addr × Addr)) (sp : Sp), (∀ p ∈ cs, h.get? p.2 = some tblO) ∧ (∀ p ∈ cs, K.lookup p.2 = none) ∧ (∀ p ∈ cs, PySem.W.CodeHd h p.1 p.2) ∧ (∀ (s : Shared) (u : Value), BindsTo s fd ⟨[u], []⟩ [(x, u)]) ∧
    (∀ (H : Hp) (a : Addr) (ns : List Int), ns.length ≤ n → (∀ z ∈ ns, Builtin.Int.intBits z ≤ 1048576) → (∀ p ∈ cs, H p.2 = some (.tbl #[])) → SqL K H a (ns.map V.int) → sp [.ref a] H (fun v _ => v = .bl true) fun _ _ _ => False) ∧
    ∀ base : Heap, K.In base → base.Ns mainGlobals mg → (∀ p ∈ cs, LamX.TabB base mg p.1 p.2) → FnG l.prog w K mg base CX k fa fd [x] sp
theorem lawG_end {l : PySem.W.OpenLaw} {n k : Nat} {q : Program} {loose : List Str} {XP : (Str → Option Value) → Heap → Prop} {YP : World → Heap → Prop} {d : DefRec} {K : Params → PySem.W.Frag} {CX : World → CXT} {x : Str}
    (hn : l.most = some n) (hn2 : n ≤ sizeLine) (hdf : d.params.defaults = []) (hr : RoomG k callerA) (hY : ∀ (w : World) (h : Heap), YP w h → (K w.params).In h)
    (F : ∀ (w : World) (mg : Str → Option Value) (fa : Addr) (h : Heap), YP w h → (K w.params).In h → h.Ns mainGlobals mg → mg d.name = some (.ref fa) → LawG l w (K w.params) (CX w) k n x mg fa h)
    (hCX : ∀ (w : World) (H : Hp) (s : Shared) (e : Value) (s' : Shared), CX w [] H s (fun _ _ _ => False) e s' → False) :
    PySem.W.WalkO q loose XP YP l.row.toRowW d [] (fun f vs => PySem.call f vs) :=
  Att.attach_callB hn hdf fun w s₀ s₁ mg mb fa o pm cd doc a vs ns G Y ho hd hcd hmg hobj hints hlen hbits hg =>
    let KX := hY w _ Y
    let ⟨_, _, _, hT, nT, hC, hb, hsp, hF⟩ := F w mg fa _ Y KX G.T.g hmg
    lawG_call KX G.T.g G.T.b G.T.builtins G.T.nolimit hg hT nT hC G.T.bmain hobj hints (Nat.le_trans hlen hn2) hr hF hb (fun H hH hS => hsp H a ns hlen hbits hH hS) fun H e s' => hCX w H s₁ e s'
end Hx

/-! loops and stores while an exception is handled -/
namespace Hx
open PySem PySem.Spec PyProof.Rows L2 HotX
section
variable {prog : Program} {w : World} {A : Around} {E : Value → Shared → Prop} {s : Shared}
/-- the end of an iterator, told by an exception of its own that nobody sees -/
theorem told_end {B : Around} {x1 : Addr} {Q : Option Value → Shared → Prop} (hot : HotAt B x1 s.heap)
    (k : ∀ h' : Heap, (∀ b o, s.heap.get? b = some o → h'.get? b = some o) → Q none { s with heap := h' }) {α : Type} {P : α → Shared → Prop} :
    wpAny (model prog w) B (newExc (.type "StopIteration") [] >>= fun e => (raiseNew e : Sem α)) P
      (fun e s' => wpAny (model prog w) A (do if ← isInstance e (.type "StopIteration") then pure none else throw e) Q E s') s := by
  obtain ⟨hh, o1, v1, g1, d1, c1⟩ := hot
  refine wpAny_bind ?_
  unfold newExc newTuple
  have g2 : ∀ (a c : Obj) (b : Addr) (o : Obj), s.heap.get? b = some o → ((s.heap.push a).push c).get? b = some o := fun a c b o e => Heap.get?_push_of_some _ (Heap.get?_push_of_some _ e)
  refine wpAny_bind (wpAny_newObj_type (wpAny_bind (m := firstArgMember _ _) (wpAny_of_eq (a := Value.none) (by first | rfl | (simp only [firstArgMember]; rfl)) (wpAny_newObj_type ?_ (by size_fits)))) (by size_fits))
  dsimp only
  generalize hv : (#[Value.ref s.heap.objs.size, Value.none, Value.none, Value.none, Value.bool false, Value.none] ++ ownMembersOf (Value.type "StopIteration") [] : Array Value) = vs
  have h2 : 2 < vs.size := by rw [← hv, Array.size_append]; simp; omega
  refine raiseNew_hot ⟨hh, o1, v1, g2 _ _ _ _ g1, d1, c1⟩ (Nat.ne_of_lt (Heap.lt_size (Heap.get?_push_of_some _ g1))) (Heap.get?_push_size _ rfl) rfl h2 ?_
  refine wpAny_bind (wpAny_isInstance (b := true) ⟨_, Heap.get?_update_self _ (Heap.get?_push_size _ rfl) rfl, rfl⟩ isSubtype_stop (wpAny_pure (k _ fun b o e => ?_)))
  have lt := Heap.lt_size (Heap.get?_push_of_some { cls := .type "tuple", data := .seq ([] : List Value).toArray } e)
  exact (Heap.get?_update_other _ _ (Nat.ne_of_gt lt)).trans (g2 _ _ _ _ e)
/-- the object of the handled exception is no iterator -/
theorem hot_ne {x1 it : Addr} {o : Obj} {a b : Value} (hot : HotAt A x1 s.heap) (ho : s.heap.get? it = some o) (hd : o.data = .fields #[a, b]) : it ≠ x1 := fun z => by
  obtain ⟨_, o1, v1, g1, d1, c1⟩ := hot
  subst z
  rw [ho] at g1
  cases g1
  rw [hd] at d1
  cases d1
  simp at c1
theorem hot_upd {x1 it : Addr} {f : Obj → Obj} (hot : HotAt A x1 s.heap) (ne : it ≠ x1) : HotAt A.in1 x1 (s.heap.update it f) := by
  obtain ⟨hh, o1, v1, g1, d1, c1⟩ := hot
  exact ⟨hh, o1, v1, (Heap.get?_update_other _ _ ne).trans g1, d1, c1⟩
theorem list_end_hot {it l x1 : Addr} {i : Nat} {items : Array Value} {Q : Option Value → Shared → Prop} (hot : HotAt A x1 s.heap) (hit : s.heap.IsListIter it l i) (hl : s.heap.IsList l items) (hx : items[i]? = none)
    (hQ : ∀ h', (∀ b o, b ≠ it → s.heap.get? b = some o → h'.get? b = some o) → Q none { s with heap := h' }) : wpAny (model prog w) A (pyNext (.ref it)) Q E s := by
  have hT := hit.typeIs
  obtain ⟨o, ho, hc, hd⟩ := hit
  obtain ⟨ol, hol, _, nl, hdl⟩ := hl
  unfold pyNext
  refine wpAny_bind (wpAny_attempt (wpAny_callSpecial?_slot (name := Str.ofString "__next__") hT slot_listiter_next (wpAny_call_entry slot_listiter_next hT entry_listiter_next ?_ (args_listiter_next _))))
  show wpAny _ _ (field (.ref it) 0 >>= _) _ _ s
  refine wpAny_bind (wpAny_field ho hd (x := .ref l) rfl ?_)
  have nn : ¬ ((Value.ref l == Value.none) = true) := Bool.false_ne_true
  refine (if_neg nn).symm ▸ (show wpAny _ _ (field (.ref it) 1 >>= _) _ _ s from wpAny_bind (wpAny_field ho hd (x := .int i 0) rfl ?_))
  refine (show wpAny _ _ (seqItems? (.ref l) >>= _) _ _ s from wpAny_bind (wpAny_seqItems hol hdl ?_))
  simp only [Int.toNat_natCast, hx]
  refine wpAny_bind (wpAny_rule (wpAny_bind (wpAny_setField ho hd (by simp) ?_)))
  refine told_end (prog := prog) (w := w) (A := A) (B := A.in1) (E := E) (Q := Q) (s := { s with heap := _ }) (hot_upd hot (hot_ne hot ho hd)) fun h' k => hQ h' fun b o ne e => k b o ?_
  exact (Heap.get?_update_other _ _ (Ne.symm ne)).trans e
theorem tuple_end_hot {it l x1 : Addr} {i : Nat} {items : Array Value} {Q : Option Value → Shared → Prop} (hot : HotAt A x1 s.heap) (hit : IsTupIter s.heap it l i) (hl : IsTup s.heap l items) (hx : items[i]? = none)
    (hQ : ∀ h', (∀ b o, b ≠ it → s.heap.get? b = some o → h'.get? b = some o) → Q none { s with heap := h' }) : wpAny (model prog w) A (pyNext (.ref it)) Q E s := by
  have hT := hit.typeIs
  obtain ⟨o, ho, hc, hd⟩ := hit
  obtain ⟨ol, hol, _, nl, hdl⟩ := hl
  unfold pyNext
  refine wpAny_bind (wpAny_attempt (wpAny_callSpecial?_slot (name := Str.ofString "__next__") hT slot_tupleiter_next (wpAny_call_entry slot_tupleiter_next hT entry_tupleiter_next ?_ (args_tupleiter_next _))))
  show wpAny _ _ (field (.ref it) 0 >>= _) _ _ s
  refine wpAny_bind (wpAny_field ho hd (x := .ref l) rfl ?_)
  have nn : ¬ ((Value.ref l == Value.none) = true) := Bool.false_ne_true
  refine (if_neg nn).symm ▸ (show wpAny _ _ (field (.ref it) 1 >>= _) _ _ s from wpAny_bind (wpAny_field ho hd (x := .int i 0) rfl ?_))
  refine (show wpAny _ _ (seqItems? (.ref l) >>= _) _ _ s from wpAny_bind (wpAny_seqItems hol hdl ?_))
  simp only [Int.toNat_natCast, hx]
  refine wpAny_bind (wpAny_rule (wpAny_bind (wpAny_setField ho hd (by simp) ?_)))
  refine told_end (prog := prog) (w := w) (A := A) (B := A.in1) (E := E) (Q := Q) (s := { s with heap := _ }) (hot_upd hot (hot_ne hot ho hd)) fun h' k => hQ h' fun b o ne e => k b o ?_
  exact (Heap.get?_update_other _ _ (Ne.symm ne)).trans e
/-- a, b, .. = t, t a tuple of so many -/
theorem unpack_hot {x1 t : Addr} {items : Array Value} {targets : List (Bool × (Value → Sem Unit))} {Q : Unit → Shared → Prop} (hot : HotAt A x1 s.heap) (ht : IsTup s.heap t items) (hn : targets.length = items.size) (hstar : targets.findIdx? (·.1) = none)
    (h : ∀ h', (∀ b o, s.heap.get? b = some o → h'.get? b = some o) → wpAny (model prog w) A (assignInOrder (targets.map (·.2)) items.toList) Q E { s with heap := h' }) : wpAny (model prog w) A (unpack (.ref t) targets) Q E s := by
  have lt : t < s.heap.objs.size := let ⟨_, e, _⟩ := ht; Heap.lt_size e
  have it0 : IsTupIter (s.heap.push { cls := .type "tuple_iterator", data := .fields #[.ref t, .int 0 0] }) s.heap.objs.size t 0 := ⟨_, Heap.get?_push_size _ rfl, rfl, rfl⟩
  have all : (items.toList.drop 0).take items.size = items.toList := List.take_of_length_le (by simp)
  unfold unpack unpackItems notIterableAtAll
  rw [hn, hstar]
  refine wpAny_bind (wpAny_holding (wpAny_bind (wpAny_bind (wpAny_specialOf ht.typeIs slot_tuple_iter.lookup (wpAny_pure ?_)))))
  rw [if_neg Bool.false_ne_true]
  refine wpAny_bind (wpAny_holding (iter_tuple ht (wpAny_bind (wpAny_holding (draw_tuple (Nat.ne_of_lt lt) items.size 0 _ _ it0 (ht.push _) (by omega) fun h1 it1 sb => ?_)))))
  have t1 : IsTup h1 t items := (ht.push _).extBut sb.extBut (Nat.ne_of_lt lt)
  have k1 : ∀ b o, s.heap.get? b = some o → h1.get? b = some o := fun b o e => sb.extBut b o (Nat.ne_of_lt (Heap.lt_size e)) (Heap.get?_push_of_some _ e)
  have hot1 : HotAt A x1 h1 := let ⟨hh, o1, v1, g1, d1, c1⟩ := hot; ⟨hh, o1, v1, k1 _ _ g1, d1, c1⟩
  rw [all, if_neg (by simp)]
  refine wpAny_bind (wpAny_holding (tuple_end_hot (s := { s with heap := h1 }) hot1 it1 t1 (by simp) fun h2 k2 => ?_))
  simp only [Option.isSome_none, Bool.false_eq_true, if_false]
  exact wpAny_pure (h h2 fun b o e => k2 b o (Nat.ne_of_lt (Heap.lt_size e)) (k1 b o e))
end
section
variable {X : Cx} {pos : Pos}
theorem pg_tupH {es : List Expr} {k : Nat} {t : TGs} {n : Nat} (hc : L2H.HotC X) (h : PGs X es t) (hn : (assignEach es X.env).length = n := by rfl) (hst : (assignEach es X.env).findIdx? (·.1) = none := by rfl) : PG X (.Tuple es k pos) (gTup X.K n t) :=
  ⟨fun pins s σ H v u Q I r ⟨a, xs, e, hq, hl, hw⟩ => by
    subst e
    obtain rfl : u = Value.ref a := r
    obtain ⟨its, rv, ht, _⟩ := I.tuple hq
    obtain ⟨x1, hot⟩ := hc.at I
    rw [assign_Tuple]
    refine wpAny_bind (wpAny_standAt (unpack_hot hot ht (by rw [hn, ← hl, rv.length]; simp) hst fun h' k => ?_))
    have I' : Inv X pins σ H { s with heap := h' } := I.kept (t' := s.toks) k
    simpa using h.run pins _ σ H xs _ Q I' (by simpa using rv) hw⟩
theorem turn_listH {P : Program} {w : World} {K : PySem.W.Frag} {tg : Expr} (a it : Addr) : L2H.TurnH P w K tg (Itl K a) [it] it (fun i h => h.IsListIter it a i) := by
  have T := turn_list (P := P) (w := w) (K := K) (tg := tg) a it
  refine ⟨T.mem, T.obj, T.keep, ?_, ?_, T.self⟩
  · intro X hP hw hK _ i pins s σ H E I hf st ⟨xs, x, hq, hx⟩
    subst hP hw hK
    obtain ⟨its, rv, p, _⟩ := I.list hq
    obtain ⟨u, hu, ru⟩ := rv.get hx
    obtain ⟨f0, f1, _, f3, f4, f5⟩ := hf it T.mem
    refine wpAny_pyNext_list_item st p.isList (x := u) (by simpa using hu) fun h' st' sb => ⟨u, rfl, ?_⟩
    obtain ⟨o, e, c, d⟩ := id st'
    refine go_of (s := { s with heap := h' }) e c d (by decide) ⟨x, H, ?_, ru, ⟨rfl, fun ys hy => ?_⟩, st', fun b hb => (hf b hb).1⟩
    · exact I.turned (t' := s.toks) (fun b o hb q => (sb.2 b hb).trans q) f0 f1 f3 f4 f5
    · rw [I.list_inj hy hq]
      exact hx
  · intro X hP hw hK hc i pins s σ H E I hf st ⟨xs, hq, hx⟩
    subst hP hw hK
    obtain ⟨its, rv, p, _⟩ := I.list hq
    obtain ⟨f0, f1, _, f3, f4, f5⟩ := hf it T.mem
    obtain ⟨x1, hot⟩ := hc.at I
    have hl := rv.length
    exact list_end_hot hot st p.isList (by simp; omega) fun h' k => ⟨rfl, I.turned (t' := s.toks) k f0 f1 f3 f4 f5⟩
def iLstH (K : PySem.W.Frag) (tl : TE) : TI := fun σ H R => tl σ H fun x H1 => ∃ a, x = .ref a ∧ (∃ xs, SqL K H1 a xs) ∧ R (Itl K a) H1
theorem pi_listH {tg l : Expr} {tl : TE} (hl : PE X l tl) : L2H.PIH X tg l (iLstH X.K tl) :=
  ⟨fun pins s σ H R I h => thn (hl.run pins s σ H _ I h) fun v s1 ⟨x, H1, I1, r1, a, ex, ⟨xs, hq⟩, q⟩ => by
    subst ex
    obtain rfl : v = Value.ref a := r1
    obtain ⟨_, _, p, _⟩ := I1.list hq
    refine wpAny_pyIter_list p.isList ⟨s1.heap.objs.size, [s1.heap.objs.size], _, Itl X.K a, H1, rfl, I1.kept (t' := s1.toks) fun b o e => Heap.get?_push_of_some _ e, turn_listH a _, ⟨_, Heap.get?_push_size _ rfl, rfl, rfl⟩, fun b hb => ?_, q⟩
    rw [List.mem_singleton.mp hb]
    exact I1.fpOk (Nat.le_refl _) (I1.hok.fresh (Nat.le_refl _))⟩
end
end Hx

/-! a comprehension while an exception is handled -/
namespace Hx
open PySem PySem.Spec PyProof.Rows L2 HotX
/-- a comprehension's block that bears the def's pins -/
abbrev blkP (X : Cx) (s : Shared) (H : Hp) (scope : Scope) (ce : Env) (fp : List Addr) : Cx := { X.blk s H scope ce fp with pn := X.pn }
section
variable {X : Cx} {pins : List (Addr × Obj)} {σ : L2.St} {H : Hp} {s : Shared}
theorem okP {scope : Scope} {ce : Env} {fp : List Addr} (k : (X.blk s H scope ce fp).Ok) : (blkP X s H scope ce fp).Ok := k.toTry X.pn _
theorem blkP_start {scope : Scope} {own : List (Str × Nat)} {fp : List Addr} (I : Inv X pins σ H s) (ok : BlkOk X.N X.env.scope scope own) (hN : X.N.Nodup) (hfp : ∀ b ∈ fp, FpOk X pins H b ∧ b < s.heap.objs.size) :
    Inv (blkP X s H scope (compEnvC scope (cellsFrom (s.heap.objs.size + 1) scope.names (cloFrom X.env.cells scope.names [])) s.heap.objs.size X.env) fp) [] (wipe σ (own.map (·.2))) H { s with heap := pushCells (s.heap.push { cls := .type "dict", data := .dict #[] }) scope.names } := by
  have B := block_start I ok hN hfp
  refine ⟨okP B.ok, B.os, B.bare, B.base, B.loc, B.cell, B.free, B.freeC, fun p hp => ?_, B.hok, B.len⟩
  rw [List.append_nil] at hp
  obtain ⟨p1, p2, p3, p4, p5⟩ := I.pin p (List.mem_append_left _ hp)
  refine ⟨pushCells_keeps _ _ _ _ (Heap.get?_push_of_some _ p1), p2, Nat.ne_of_lt (Heap.lt_size p1), fun z => ?_, p5⟩
  rcases List.mem_cons.mp (I.stkSub p.1 z) with e | e
  · exact p3 e
  · exact p4 e
/-- name = [elt for target in iter if ..], an exception being handled -/
theorem ps_setLcH {i : Nat} {y : Str} {py : Pos} {elt tg iter : Expr} {ifs : List Expr} {scope : Scope} {own : List (Str × Nat)} {pos spos : Pos} {wi : TI} {g : TG} {tt : TT} {te : TE} (hc : L2H.HotC X) (hN : X.N.Nodup) (hy : X.N[i]? = some y) (hyl : X.env.scope.names.lookup y = some .local)
    (hsw : swapsWith (.ListComp elt [⟨tg, iter, ifs, 0⟩] scope pos) (some (.Name y py)) spos.line X.env = pure true) (hi : L2H.PIH X tg iter wi) (ok : BlkOk X.N X.env.scope scope own)
    (hg : ∀ (s : Shared) (H : Hp) (C : Addr) (cl : List (Str × Addr)) (fp : List Addr), PG (blkP X s H scope (compEnvC scope cl C X.env) fp) tg g) (ht : ∀ (s : Shared) (H : Hp) (C : Addr) (cl : List (Str × Addr)) (fp : List Addr), PTs (blkP X s H scope (compEnvC scope cl C X.env) fp) ifs tt)
    (he : ∀ (s : Shared) (H : Hp) (C : Addr) (cl : List (Str × Addr)) (fp : List Addr), PE (blkP X s H scope (compEnvC scope cl C X.env) fp) elt te) (hs : ∀ x, foldedSetIterable iter X.env x = pure x := by intro _; rfl) :
    PS X (.Assign [.Name y py] (.ListComp elt [⟨tg, iter, ifs, 0⟩] scope pos) spos) (tAsg (tLc wi g tt te (own.map (·.2))) (gName i)) := by
  refine ⟨fun pins s σ H D I h => ?_⟩
  rw [exec_Assign_Name_used _ _ _ _ hsw]
  have hfree : ∀ z ∈ scope.names, z.2 = .free → ∃ c, X.env.cells.lookup z.1 = some c := fun z hz e => I.ok.has _ ((ok.free z hz e).imp id id)
  have fin0 : ∀ {v : Value} {s' : Shared}, SP X pins D .next s' → wpAny (model X.prog X.w) X.A (pure PUnit.unit) (fun _ s' => wpAny (model X.prog X.w) X.A (pure Flow.next) (SP X pins D) X.xe s') X.xe s' := fun q => wpAny_pure (wpAny_pure q)
  refine wpAny_bind (wpAny_standAt (wpAny_bind ?_))
  show wpAny _ X.A (do let _ ← comprehension (.ListComp elt [⟨tg, iter, ifs, 0⟩] scope pos) scope X.env (firstIterPos [⟨tg, iter, ifs, 0⟩] pos) (newList []) false (eval iter X.env) (some (assign (.Name y py) X.env))) _ _ s
  refine wpAny_bind (wpAny_mono ?_ (fun v s' q => fin0 (v := v) q) fun _ _ z => z)
  refine wpAny_comprehension_free (use := some (assign (.Name y py) X.env)) (Q := fun _ s' => SP X pins D .next s') rfl hs (closure_ok hfree) ok.kind (fun z hz e => by rw [ok.uniq z hz, e])
    (thn (hi.run pins s σ H _ I h) fun _ s1 hx => thn hx fun itv s2 ⟨it, fp, tn, J, H2, e, I2, T, st2, f2, q⟩ => ?_)
  subst e
  refine wpAny_newObj_type (newEnv_comp ?_) (Nat.zero_le _)
  -- the new list
  obtain ⟨L, hL⟩ : ∃ L, L = s2.heap.objs.size := ⟨_, rfl⟩
  obtain ⟨s3, h3⟩ : ∃ s3 : Shared, s3 = { s2 with heap := s2.heap.push { cls := .type "list", data := .seq ([] : List Value).toArray } } := ⟨_, rfl⟩
  have old : ∀ b o, s2.heap.get? b = some o → s3.heap.get? b = some o := fun b o e => by rw [h3]; exact Heap.get?_push_of_some _ e
  obtain ⟨W, ⟨m0, w0⟩, turn⟩ := q L (I2.hok.fresh (Nat.le_of_eq hL.symm))
  obtain ⟨H3, eH3⟩ : ∃ H3, H3 = upd H2 L (.lst []) := ⟨_, rfl⟩
  have I3 : Inv X pins σ H3 s3 := by
    rw [h3, eH3]
    exact I2.laid (t' := s2.toks) (fun b o e => Heap.get?_push_of_some _ e) (Nat.le_of_eq hL.symm) ⟨Nat.zero_le _, [], 0, .nil, by rw [hL]; exact Heap.get?_push_size _ rfl⟩
  have f3 : ∀ b ∈ fp, FpOk X pins H3 b ∧ b < s3.heap.objs.size := fun b hb => by
    obtain ⟨o, e, _⟩ := T.obj _ _ st2 b hb
    refine ⟨⟨?_, (f2 b hb).2⟩, Heap.lt_size (old b o e)⟩
    rw [eH3, upd_ne (by rw [hL]; exact Nat.ne_of_lt (Heap.lt_size e))]
    exact (f2 b hb).1
  have st3 := T.keep _ _ _ st2 fun b _ => old b
  have I4 := blkP_start I3 ok hN f3
  rw [← h3, ← hL]
  obtain ⟨C, hC⟩ : ∃ C, C = s3.heap.objs.size := ⟨_, rfl⟩
  rw [← hC] at I4 ⊢
  obtain ⟨cl, hcl⟩ : ∃ cl, cl = cellsFrom (C + 1) scope.names (cloFrom X.env.cells scope.names []) := ⟨_, rfl⟩
  rw [← hcl] at I4 ⊢
  have pg := hg s3 H3 C cl fp
  have pt := ht s3 H3 C cl fp
  have pe := he s3 H3 C cl fp
  have hot : L2H.HotC (blkP X s3 H3 scope (compEnvC scope cl C X.env) fp) := hc
  generalize hs4 : ({ s3 with heap := pushCells (s3.heap.push { cls := .type "dict", data := .dict #[] }) scope.names } : Shared) = s4 at I4 ⊢
  have st4 : tn 0 s4.heap := T.keep _ _ _ st3 fun b _ o e => by rw [← hs4]; exact pushCells_keeps _ _ _ _ (Heap.get?_push_of_some _ e)
  have stat : ∀ {σ' : L2.St} {H' : Hp} {s' : Shared}, Inv (blkP X s3 H3 scope (compEnvC scope cl C X.env) fp) [] σ' H' s' → (∀ b ∈ fp, H' b = none) → ∀ b ∈ fp, FpOk (blkP X s3 H3 scope (compEnvC scope cl C X.env) fp) [] H' b := fun I' hn b hb =>
    ⟨hn b hb, (I'.ok.exf b hb).1, I'.ok.exfs b hb, .inl hb, fun x c e => (I'.ok.exf b hb).2 x c e, fun p hp => (f3 b hb).1.2.2.2.2.2 p (List.mem_append_left _ (by simpa using hp))⟩
  have loop : codeAny (model X.prog X.w) X.A (.compLoop (.ListComp elt [⟨tg, iter, ifs, 0⟩] scope pos) 0 (.ref it) (.ref L) (compEnvC scope cl C X.env))
      (compPost (model X.prog X.w) X.A X.xe (some (assign (.Name y py) X.env)) (fun _ s' => SP X pins D .next s') (.ref L) C) s4 := by
    refine compLoop_any (fun n s' => ∃ j H', Inv (blkP X s3 H3 scope (compEnvC scope cl C X.env) fp) [] (wipe σ (own.map (·.2))) H' s' ∧ tn j s'.heap ∧ (∀ b ∈ fp, H' b = none) ∧ W j n H') ?_ m0 ⟨0, H3, I4, st4, fun b hb => (f3 b hb).1.1, by rw [eH3]; exact w0⟩
    rintro n s5 ⟨j, H5, I5, st5, n5, w5⟩
    rcases turn j n H5 w5 with ⟨stop, qq⟩ | ⟨go, Nx, hNx, step⟩
    · refine thnF (T.done (blkP X s3 H3 scope (compEnvC scope cl C X.env) fp) rfl rfl rfl hot j [] s5 _ H5 _ I5 (stat I5 n5) st5 stop) fun r s6 ⟨hr, I6⟩ => ?_
      subst hr
      have I7 : Inv X pins σ H5 s6 := I3.call' (ch := fp) I6.os I6.base I6.hok I6.bare fun b hb => let f := (f3 b hb).1.2; ⟨f.2.2.1, f.1, f.2.2.2.1, f.2.2.2.2⟩
      obtain ⟨m, hn, _⟩ := I6.loc
      have hn : s6.heap.Ns C m := hn
      have fC := I3.fpOk (b := C) (H' := H5) (Nat.le_of_eq hC.symm) I6.free
      show wpAny _ _ (assign (.Name y py) X.env (.ref L)) _ _ _
      refine wpAny_assign_Name (store_ok2 (v := V.ref L) I7 hN hy (.inl hyl) rfl (fun s8 I8 ⟨a, sb, ha⟩ => ?_) (.inr hyl))
      have ne : C ≠ a := by
        rcases ha with z | z
        · rw [z]; exact fC.2.1
        · exact fun e => fC.2.2.2.2.1 y a z e.symm
      refine ⟨m, hn.sameBut sb ne, fun h9 sb9 => ⟨_, H5, ?_, qq⟩⟩
      exact I8.turned (t' := s8.toks) (fun b o hb e => (sb9.2 b hb).trans e) fC.1 fC.2.1 fC.2.2.2.1 fC.2.2.2.2.1 fC.2.2.2.2.2
    · refine thnF (T.item (blkP X s3 H3 scope (compEnvC scope cl C X.env) fp) rfl rfl rfl hot j [] s5 _ H5 _ I5 (stat I5 n5) st5 go) fun r s6 ⟨u, hr, h6⟩ => ?_
      subst hr
      refine thnF h6 fun _ s7 ⟨x, H7, I7, r7, y7, st7, n7⟩ => ?_
      refine thnF (pg.run _ s7 _ H7 x u _ (I7.pinned (stat I7 n7) (T.obj _ _ st7)) r7 (step x H7 y7)) fun _ s8 ⟨σ8, H8, I8, hw8, q8⟩ => thnF (pt.run _ s8 σ8 H8 _ I8 q8) fun b s9 ⟨H9, I9, q9⟩ => ?_
      have fin : ∀ {s' : Shared} {H' : Hp}, Inv (blkP X s3 H3 scope (compEnvC scope cl C X.env) fp) ([] ++ pinsAt fp s7.heap) σ8 H' s' → Nx H' →
          ∃ m, m < n ∧ ∃ j H', Inv (blkP X s3 H3 scope (compEnvC scope cl C X.env) fp) [] (wipe σ (own.map (·.2))) H' s' ∧ tn j s'.heap ∧ (∀ b ∈ fp, H' b = none) ∧ W j m H' := fun {s' H'} I' nx => by
        obtain ⟨m', hm, w'⟩ := hNx H' nx
        have pin' : ∀ b ∈ fp, ∀ o, s7.heap.get? b = some o → s'.heap.get? b = some o ∧ H' b = none := fun b hb o e => (I'.pin (b, o) (List.mem_append_right _ (List.mem_append_right _ (mem_pinsAt hb e)))).imp id fun z => z.1
        refine ⟨m', hm, j + 1, H', (I'.unpinned (pins := [])).weak (by rw [← hw8, wipe_length]) (fun l v e => (wipe_some (by rw [hw8]; exact e)).1), T.keep _ _ _ st7 fun b hb o e => (pin' b hb o e).1, fun b hb => ?_, w'⟩
        obtain ⟨o, e, _⟩ := T.obj _ _ st7 b hb
        exact (pin' b hb o e).2
      cases b with
      | false =>
        rw [if_neg Bool.false_ne_true] at q9 ⊢
        exact fin I9 q9
      | true =>
        rw [if_pos rfl] at q9 ⊢
        refine thnF (pe.run _ s9 σ8 H9 _ I9 q9) fun z s10 ⟨yv, H10, I10, r10, acc, hD, hz, nx⟩ => ?_
        exact app_ok (X := blkP X s3 H3 scope (compEnvC scope cl C X.env) fp) I10 hD hz r10 fun s11 I11 => fin I11 nx
  exact codeAny_compStart_list loop (T.self X.A 0 _ _ _ st4 loop)
end
end Hx

/-! calls within an except suite; several clauses that name the exception; a lambda handed to a def -/
namespace Hx
open PySem PySem.Spec PyProof.Rows L2 HotX
/-! ### a def called within an except suite -/
theorem run_hot {CX : CXT} {P : Program} {w : World} {K : PySem.W.Frag} {mg : Str → Option Value} {base : Heap} {k : Nat} {f : Addr} {x qual : Str} {st : Stmt} {fd : FuncData} {N ps : List Str} (F : L2.Fun K x qual st f fd) (S : FnScope N ps (defScope st))
    {A : Around} {outer : List Env} {s : Shared} {H : Hp} {us : List Value} {vs : List V} {Q : VK} {E : XK} {p : Addr × Obj} (hr : L2H.RoomH (k + 1) A) (hpin : L2H.PinOk outer H s p) (e0 : Env0 P w K mg base A outer s H) (hb : BindsTo s fd ⟨us, []⟩ (ps.zip us)) (r : Vals vs us) (hl : vs.length = ps.length)
    (hbody : ∀ cdv : Value, L2H.RoomH k (A.deeper (envOfC qual (defScope st) s.heap.objs.size f cdv)) → ∃ t, PSs (L2H.cxH CX P w K mg base N qual (defScope st) f cdv A outer s H E p) (defBody st) t ∧ t { nx := fun _ H' => Q .non H', rt := Q } (L2.start N vs) H) :
    codeAny (model P w) A (.call (.ref f) ⟨us, []⟩) (CR CX outer P w H s Q E) s := by
  obtain ⟨oc, od, kV, doc, pm, an, cdv, ct, osl, rfl, lk, hcd⟩ := F.ex
  have KX : K.In s.heap := e0.mod.kin.keeps fun b o e => (e0.bs b o e).1
  have hk : ∀ y ∈ ps.zip us, (defScope st).names.lookup y.1 = some .local ∨ ((defScope st).names.lookup y.1 = some .cell ∧ ((cellsFrom (s.heap.objs.size + 1) (defScope st).names []).lookup y.1).isSome = true) := fun y hy =>
    (S.par y.1 (List.of_mem_zip (a := y.1) (b := y.2) hy).1).imp id fun q => ⟨q, PySem.W.cellsFrom_some _ _ _ (.inl q)⟩
  refine codeAny_call_function hr.depth (KX _ _ lk) rfl S.co S.gen rfl (PySem.W.codeRec_of KX hcd) (hb _ _ _ _ (wpAny_newFunctionEnv_cells S.kind hk fun env he s1 x => ?_))
  subst he
  obtain ⟨t, ht, hq⟩ := hbody cdv (hr.deeper _)
  have I := L2H.inv_startH (CX := CX) (w := w) (P := P) (K := K) (mg := mg) (base := base) (cd := cdv) (A := A) (outer := outer) (H := H) (E := E) S hpin e0 hl r x
  have lim : s.heap.NoLimit := e0.mod.nolimit.keeps fun b o e => (e0.bs b o e).1
  refine ⟨lim.keeps x.toInCall.keep, codeAny_func (wpAny_mono (ht.run [] s1 _ H _ I hq) (fun fl s' hs => ?_) fun e s' hs => hs)⟩
  match fl, hs with
  | .ret u, ⟨v, σ', H', J, rv, q⟩ => exact ⟨v, H', J.os, J.bare, J.base, J.hok, rv, q⟩
  | .next, ⟨σ', H', J, q⟩ => exact ⟨.non, H', J.os, J.bare, J.base, J.hok, rfl, q⟩
  | .brk, ⟨_, _, _, q⟩ => exact q.elim
  | .cont, ⟨_, _, _, q⟩ => exact q.elim
section
variable {X : Cx}
/-- f(e), e the exception that the suite holds; TW: what f makes of it -/
theorem pe_hot {a : Addr} {oe : Obj} {pn : List (Addr × Obj)} {f : Addr} {fd : FuncData} {x n : Str} {i k : Nat} {st : Stmt} {Ng : List Str} {pp : Str} {TW : Hp → VK → Prop} {q1 q2 pos : Pos} (F : L2.Fun X.K x x st f fd) (S : FnScope Ng [pp] (defScope st)) (hb : Binds X.K fd [pp] []) (hr : L2H.RoomH (k + 1) X.A)
    (hv : ∃ vs : Array Value, oe.data = .fields vs ∧ vs[2]? = some .none) (hg : Gl X x) (hm : X.mg x = some (.ref f)) (hN : X.N[i]? = some n) (hn : Vis X.env.scope n)
    (hbody : ∀ (A : Around) (outer : List Env) (s : Shared) (H : Hp) (Q : VK) (cdv : Value), L2H.RoomH k (A.deeper (envOfC x (defScope st) s.heap.objs.size f cdv)) → A.handled = some (.ref a) → TW H Q →
      ∃ t, PSs (L2H.cxH C8.CX0 X.prog X.w X.K X.mg X.base Ng x (defScope st) f cdv A outer s H C8.E0 (a, oe)) (defBody st) t ∧ t { nx := fun _ H' => Q .non H', rt := Q } (L2.start Ng [.ref a]) H)
    (hdb : (x == ("__debug__" : Str)) = false := by decide) (hd : (n == ("__debug__" : Str)) = false := by decide) (hcd : (n == ("__classdict__" : Str)) = false := by decide) :
    PE (X.suite a ((a, oe) :: pn)) (.Call (.Name x q1) [.Name n q2] [] pos) (fun σ H Q => σ[i]? = some (some (.ref a)) ∧ TW H Q) := by
  refine ⟨fun pins s σ H Q I ⟨hσ, h⟩ => ?_⟩
  have hp := I.pin (a, oe) (List.mem_append_left _ List.mem_cons_self)
  refine wpAny_Call_Name_kw (ld_glob (X := X.suite a ((a, oe) :: pn)) I hg hm ?_ hdb)
  have pa : PA (X.suite a ((a, oe) :: pn)) [.Name n q2] (tCons (fun σ H Q => ∃ v, σ[i]? = some (some v) ∧ Q v H) tNil) := pa_cons (pe_var (X := X.suite a ((a, oe) :: pn)) hN hn hd hcd) pa_nil
  refine PySem.W.callWith_K (h₀ := X.base) I.ok.mod.kin F.kp (thn (pa.run pos pins s σ H (fun vs H1 => vs = [.ref a] ∧ H1 = H) I ⟨_, hσ, rfl, rfl⟩) fun us s1 ⟨vs, H1, I1, r, ev, eH⟩ => ⟨I1.kIn, ?_⟩) rfl rfl
  subst ev
  rw [eH] at I1
  have P1 := I1.pin (a, oe) (List.mem_append_left _ List.mem_cons_self)
  have pin1 : L2H.PinOk X.stack H s1 (a, oe) := ⟨P1.1, P1.2.1, fun z => (List.mem_cons.mp (I1.stkSub a z)).elim P1.2.2.1 P1.2.2.2.1, P1.2.2.2.2⟩
  have hl : us.length = [pp].length := r.length.symm
  have b := hb s1 us I1.kIn (by rw [List.append_nil]; exact hl)
  rw [List.append_nil] at b
  refine wpAny_call (codeAny_mono (run_hot (CX := C8.CX0) (E := C8.E0) (Q := Q) F S (L2H.RoomH.mk hr.dp hr.un) pin1 I1.env0 b r rfl fun cdv hr' => hbody _ _ s1 H Q cdv hr' rfl h) fun rs s' hq => ?_)
  match rs, hq with
  | .ok (.ret u), hq => exact I1.after hq
  | .ok .next, hq => exact hq.elim
  | .ok .brk, hq => exact hq.elim
  | .ok .cont, hq => exact hq.elim
  | .error e, hq => exact (show False from hq).elim
/-- isinstance(e, c), e a pinned exception of an own class -/
def rIsW (K : PySem.W.Frag) (D a : Addr) (oe : Obj) : List V → Hp → VK → Prop := fun xs H Q => ∃ (c : V) (cv : Value) (b : Bool), xs = [.ref a, c] ∧ ClsV c cv ∧ (oe.dict = none ∨ ∃ dx fs, oe.dict = some dx ∧ H dx = some (.xd fs)) ∧ PySem.W.kitOne K (.ref D) cv = some b ∧ Q (.bl b) H
theorem call_isW {a D : Addr} {oe : Obj} (C : ExcC X.K D) (hp : (a, oe) ∈ X.pn) (hcls : oe.cls = .ref D) (hv : ∃ vs : Array Value, oe.data = .fields vs) : CallR X (.builtin "isinstance") (rIsW X.K D a oe) := by
  intro pins s σ H xs us Q I r ⟨c, cv, b, e0, k, hd, e, q⟩
  subst e0
  obtain ⟨u1, u2, rfl, r1, r2⟩ := vals2 r
  obtain rfl : u1 = Value.ref a := r1
  have e2 := k.eq r2
  subst e2
  have get := (I.pin (a, oe) (List.mem_append_left _ hp)).1
  obtain ⟨vs, hv⟩ := hv
  have hcl : (PySem.W.clsIn X.K D).isSome = true := let ⟨cd, h1, _⟩ := PySem.W.any_some C.hd; by rw [h1]; rfl
  have nc : PySem.W.notCls oe = true := by unfold PySem.W.notCls; rw [hv] <;> rfl
  obtain ⟨od, J⟩ : ∃ od, PySem.W.InstAt s.heap a oe D od := by
    rcases hd with h0 | ⟨dx, fs, h1, h2⟩
    · exact ⟨none, get, hcls, nc, by rw [h0]; trivial⟩
    · obtain ⟨mA, ⟨od, es, ep, g1, _⟩, _⟩ := I.hok dx _ h2
      exact ⟨some od, get, hcls, nc, by rw [h1]; exact g1⟩
  exact PySem.W.kia_one (PySem.W.kitx_exc hcl C.hg C.hk C.hs C.ha C.hn C.ht C.hm) I.kIn J e (fun z => nomatch z) fun tk => ⟨.bl b, H, I.kept (t' := tk) fun _ _ z => z, rfl, q⟩
end
end Hx

/-! try: several clauses, each of one class or of a tuple of classes, with a name or without -/
namespace Hx
open PySem PySem.Spec PyProof.Rows L2 HotX
/-! ### the tests -/
section
variable {M : Model} {K : PySem.W.Frag}
open PySem.W
theorem exm_each {cls : Value} : ∀ (cs : List Value) (b : Bool), exmAny K cls cs = some b → ∀ c ∈ cs, ∃ v, exmOne K cls c = some v
  | c :: r, b, h, d, hd => by
    obtain ⟨b1, d1, h1, h2, _⟩ := exmAny_cons h
    rcases List.mem_cons.mp hd with e | hd
    · exact ⟨b1, e ▸ h1⟩
    · exact exm_each r d1 h2 d hd
/-- a written tuple of classes, of any length -/
theorem exm_tuple {cs : List Value} {cls : Value} {tp e : Addr} {b : Bool} {h : Heap} (X : K.In h) (LT : Looks M h (typeOf (.ref e)) cls) (hp : h.get? tp = some { cls := .type "tuple", data := .seq cs.toArray }) (hx : exmAny K cls cs = some b) :
    Looks M h (excMatches (.ref e) (.ref tp)) b := by
  intro A Q E s k q
  have isT : Looks M s.heap (isInstance (.ref tp) (.type "tuple")) true := (((Looks.ld hp).andThen .now).andThen (Looks.of_pure isSubtype_tuple_tuple)).keeps k
  have LTs := LT.keeps k
  have one : ∀ c ∈ cs, ∀ v, exmOne K cls c = some v → Looks M s.heap (isExcClass c) true ∧ Looks M s.heap (isSubtype cls c) v := fun c _ v hv =>
    let ⟨h1, h2⟩ := exm_cls (M := M) X hv
    ⟨h1.keeps k, h2.keeps k⟩
  -- first all are seen to be classes of exceptions, then each is asked
  have pass1 : ∀ (l : List Value), (∀ c ∈ l, c ∈ cs) → ∀ {f : Value → PUnit → Sem (ForInStep PUnit)} {Q' : PUnit → Shared → Prop}, (∀ c ∈ cs, ∀ {R : ForInStep PUnit → Shared → Prop}, R (.yield ⟨⟩) s → wpAny M A (f c ⟨⟩) R E s) → Q' ⟨⟩ s → wpAny M A (forIn l PUnit.unit f) Q' E s := by
    intro l
    induction l with
    | nil => intro _ f Q' _ z; rw [List.forIn_nil]; exact wpAny_pure z
    | cons c r ih =>
      intro hm f Q' hf z
      rw [List.forIn_cons]
      exact wpAny_bind (hf c (hm c (.head _)) (ih (fun d hd => hm d (.tail _ hd)) hf z))
  have pass2 : ∀ (l : List Value) (v : Bool), (∀ c ∈ l, c ∈ cs) → exmAny K cls l = some v → ∀ {f : Value → (Option Bool × Unit) → Sem (ForInStep (Option Bool × Unit))} {Q' : (Option Bool × Unit) → Shared → Prop},
      (∀ c ∈ cs, ∀ u, exmOne K cls c = some u → ∀ {R : ForInStep (Option Bool × Unit) → Shared → Prop}, R (if u = true then .done (some true, ()) else .yield (none, ())) s → wpAny M A (f c (none, ())) R E s) →
      Q' (if v = true then (some true, ()) else (none, ())) s → wpAny M A (forIn l ((none : Option Bool), ()) f) Q' E s := by
    intro l
    induction l with
    | nil =>
      intro v _ hv f Q' _ z
      cases (show some false = some v from hv)
      rw [List.forIn_nil]
      exact wpAny_pure z
    | cons c r ih =>
      intro v hm hv f Q' hf z
      obtain ⟨u, d, h1, h2, rfl⟩ := exmAny_cons hv
      rw [List.forIn_cons]
      refine wpAny_bind (hf c (hm c (.head _)) u h1 ?_)
      cases u with
      | true => exact wpAny_pure z
      | false => exact ih d (fun d hd => hm d (.tail _ hd)) h2 hf z
  unfold excMatches
  refine wpAny_bind (isT.at ?_)
  dsimp only
  rw [if_pos rfl]
  have hp' := k _ _ hp
  first
    | refine wpAny_bind (wpAny_seqItems hp' rfl ?_)
    | refine wpAny_bind (wpAny_bind (wpAny_seqItems hp' rfl (wpAny_pure ?_)))
  dsimp only [Option.getD_some, Option.getD]
  refine wpAny_bind (wpAny_pure (wpAny_bind (pass1 cs (fun _ h => h) (fun c hc R z => ?_) ?_)))
  · obtain ⟨v, hv⟩ := exm_each cs b hx c hc
    refine wpAny_bind ((one c hc v hv).1.at ?_)
    rw [if_neg (by decide)]
    exact wpAny_pure z
  · refine wpAny_bind (LTs.at (wpAny_bind (pass2 cs b (fun _ h => h) hx (fun c hc u hu R z => ?_) ?_)))
    · refine wpAny_bind ((one c hc u hu).2.at ?_)
      cases u <;> exact wpAny_pure z
    · cases b <;> exact wpAny_pure q
end
/-- a clause's written classes -/
inductive Nms (X : Cx) : List Expr → List Value → Prop
  | nil : Nms X [] []
  | cons {x : Str} {p : Pos} {c : Value} {es : List Expr} {cs : List Value} (h : Names X x c) (r : Nms X es cs) : Nms X (.Name x p :: es) (c :: cs)
inductive Tst (X : Cx) : Expr → List Value → Prop
  | one {x : Str} {p : Pos} {c : Value} (h : Names X x c) : Tst X (.Name x p) [c]
  | many {es : List Expr} {cs : List Value} {k : Nat} {p : Pos} (h : Nms X es cs) (hz : cs.length ≤ 1000) : Tst X (.Tuple es k p) cs
section
variable {X : Cx} {a : Addr} {pn pins : List (Addr × Obj)} {σ : L2.St} {H : Hp} {s : Shared}
theorem name_in {x : Str} {p : Pos} {c : Value} {Q : Value → Shared → Prop} {E : Value → Shared → Prop} (S : Inv (X.suite a pn) pins σ H s) (h : Names X x c) (q : Q c s) : wpAny (model X.prog X.w) (X.A.mark (some (.ref a))) (eval (.Name x p) X.env) Q E s := by
  obtain ⟨hg, hd, hm | ⟨hm, hv, hn⟩⟩ := h
  · exact ld_glob (X := X.suite a pn) S hg hm q hd
  · exact ld_blt (X := X.suite a pn) S hg hm hv q hn hd
theorem names_in {E : Value → Shared → Prop} {pos : Pos} (S : Inv (X.suite a pn) pins σ H s) {es : List Expr} {cs : List Value} (h : Nms X es cs) : ∀ {Q : List Value → Shared → Prop}, Q cs s → wpAny (model X.prog X.w) (X.A.mark (some (.ref a))) (spliced (backTo pos (starEach es X.env))) Q E s := by
  induction h with
  | nil => intro Q q; exact Calls.spliced_nil q
  | cons hc _ ih => intro Q q; exact Calls.spliced_cons (name_in S hc (ih q))
/-- a clause's test: it changes nothing that was there -/
theorem tst_in {e : Expr} {cs : List Value} {cls : Value} {b : Bool} {oe : Obj} {Q : Bool → Shared → Prop} {E E2 : Value → Shared → Prop} (t : Tst X e cs) (S : Inv (X.suite a pn) pins σ H s) (get : s.heap.get? a = some oe) (hcls : oe.cls = cls) (hx : PySem.W.exmAny X.K cls cs = some b)
    (q : ∀ h' : Heap, (∀ c o, s.heap.get? c = some o → h'.get? c = some o) → Q b { s with heap := h' }) :
    wpAny (model X.prog X.w) (X.A.mark (some (.ref a))) (eval e X.env) (fun c s1 => wpAny (model X.prog X.w) (X.A.mark (some (.ref a))) (excMatches (.ref a) c) Q E2 s1) E s := by
  have look : ∀ (h : Heap), h.get? a = some oe → PySem.W.Looks (model X.prog X.w) h (typeOf (.ref a)) cls := fun h g A' Q' E' s' k z => wpAny_typeOf_ref (k _ _ g) (by rw [hcls]; exact z)
  cases t with
  | one hc =>
    obtain ⟨b1, d1, h1, h2, rfl⟩ := PySem.W.exmAny_cons hx
    cases (show some false = some d1 from h2)
    refine name_in S hc ((PySem.W.exm_one (M := model X.prog X.w) S.kIn (look _ get) h1).here ?_)
    have z := q s.heap fun _ _ z => z
    rw [Bool.or_false] at z
    exact z
  | many hc hz =>
    refine wpAny_Tuple_spliced (names_in S hc ⟨Nat.le_trans hz (by rw [sizeLine_eq]; decide), ?_⟩)
    have k : ∀ c o, s.heap.get? c = some o → (s.heap.push { cls := .type "tuple", data := .seq cs.toArray }).get? c = some o := fun c o z => Heap.get?_push_of_some _ z
    exact (exm_tuple (M := model X.prog X.w) (S.kIn.keeps k) (look _ (k _ _ get)) (Heap.get?_push_size _ rfl) hx).here (q _ k)
end
/-! ### the clauses -/
/-- behind a suite the name is gone -/
def goneN (n : Option (Str × Nat)) (D : Ends) : Ends := match n with
  | none => D
  | some (_, i) => { nx := fun σ H => D.nx (σ.set i none) H, rt := D.rt, bk := fun σ H => D.bk (σ.set i none) H, ct := fun σ H => D.ct (σ.set i none) H }
def bindN (n : Option (Str × Nat)) (a : Addr) (σ : L2.St) : L2.St := match n with
  | none => σ
  | some (_, i) => σ.set i (some (.ref a))
structure Cl where
  cs : List Value
  n : Option (Str × Nat)
  ts : Addr → Value → Option Addr → TS
/-- what the clauses wish of an exception, one after the other -/
def wCls (K : PySem.W.Frag) (Wout : WX) (D : Ends) : List Cl → WX
  | [] => Wout
  | c :: r => fun cls d σ H => ∃ b, PySem.W.exmAny K cls c.cs = some b ∧ (b = true → ∀ a, H a = none → c.ts a cls d (goneN c.n D) (bindN c.n a σ) H) ∧ (b = false → wCls K Wout D r cls d σ H)
def NmOk (X : Cx) : Option (Str × Nat) → Prop
  | none => True
  | some (n, i) => X.N.Nodup ∧ X.N[i]? = some n ∧ X.env.kindOf n = some .local
inductive Hds (X : Cx) : List ExceptHandler → List Cl → Prop
  | nil : Hds X [] []
  | cons {c : Cl} {e : Expr} {b₀ : Stmt} {suite : List Stmt} {pos : Pos} {hds : List ExceptHandler} {l : List Cl} (hn : NmOk X c.n) (ht : Tst X e c.cs)
      (hsu : ∀ (a : Addr) (oe : Obj) (cls : Value) (d : Option Addr) (pn : List (Addr × Obj)), L2N.Zn cls d oe → (∃ vs, oe.data = .fields vs) → PSs (X.suite a ((a, oe) :: pn)) (b₀ :: suite) (c.ts a cls d)) (r : Hds X hds l) :
      Hds X (.ExceptHandler (some e) (c.n.map (·.1)) (b₀ :: suite) pos :: hds) (c :: l)
section
variable {X : Cx} {Wout : WX} {a : Addr} {B : Heap} {pins : List (Addr × Obj)} {σ : L2.St} {H : Hp} {cls : Value} {d : Option Addr} {D : Ends} {sI s' : Shared}
/-- what stands of a caught exception -/
structure Cgt (X : Cx) (a : Addr) (B : Heap) (pins : List (Addr × Obj)) (σ : L2.St) (H : Hp) (cls : Value) (d : Option Addr) (sI s : Shared) : Prop where
  inv : Inv X pins σ H sI
  nb : ∀ b o, sI.heap.get? b = some o → b ∉ frs X.stack → B.get? b = some o
  up : sI.heap.UpToSlots s.heap
  fl : HandSPX.FlyingZ B X.stack a (L2N.Zn cls d) s.heap
  na : H a = none
  os : s.os = sI.os
  ag : AllBare s.gens
theorem Cgt.step {h' : Heap} (c : Cgt X a B pins σ H cls d sI s') (fl : HandSPX.FlyingZ B X.stack a (L2N.Zn cls d) h') (up : s'.heap.UpToSlots h') : Cgt X a B pins σ H cls d sI { s' with heap := h' } := ⟨c.inv, c.nb, c.up.trans up, fl, c.na, c.os, c.ag⟩
theorem Cgt.here (c : Cgt X a B pins σ H cls d sI s') : Inv X pins σ H s' := c.inv.landed c.nb c.fl.1 c.up c.os c.ag
theorem Cgt.obj (c : Cgt X a B pins σ H cls d sI s') (hs : X.stack = X.env :: X.outer) (hf : X.env.frame = some X.env.locals) : ∃ oe vs, s'.heap.get? a = some oe ∧ L2N.Zn cls d oe ∧ oe.data = .fields vs ∧ Inv (X.suite a ((a, oe) :: (X.pn ++ pins))) [] σ H s' := by
  obtain ⟨oe, vs, he, hz, hd⟩ := c.fl.there
  have nfr : a ∉ frs X.stack := fun hm => by
    obtain ⟨_, o, e, hnf⟩ := c.fl.2.2.1.mem hm
    rw [he] at e
    cases e
    exact hnf _ hd
  rw [hs] at nfr
  refine ⟨oe, vs, he, hz, hd, c.here.suite he hd c.na (fun z => nfr ?_) fun hm => nfr ?_⟩
  · exact List.mem_filterMap.mpr ⟨X.env, .head _, by rw [hf, z]⟩
  · obtain ⟨e, he, q⟩ := List.mem_filterMap.mp hm
    exact List.mem_filterMap.mpr ⟨e, .tail _ he, q⟩
theorem flying_new {fs : List Env} {Z : Obj → Prop} {h h' : Heap} (k : ∀ c o, h.get? c = some o → h'.get? c = some o) (fl : HandSPX.FlyingZ B fs a Z h) : HandSPX.FlyingZ B fs a Z h' := by
  obtain ⟨f1, f2, f3, oe, vs, T, oT, ts, g1, hz, hd, h1, hn, ne, g2, hT, h3⟩ := fl
  exact ⟨fun c o e => k c o (f1 c o e), f2, f3.of_keeps fun c o e _ => ⟨o, k c o e, rfl⟩, oe, vs, T, oT, ts, k _ _ g1, hz, hd, h1, hn, ne, k _ _ g2, hT, h3⟩
/-- the suite's end: the name goes, the def's own context is back -/
theorem suite_end {f : Flow} {oe : Obj} {n : Option (Str × Nat)} {pos : Pos} {s6 : Shared} (ok : X.Ok) (hn : NmOk X n) (q : SP (X.suite a ((a, oe) :: (X.pn ++ pins))) [] (goneN n D) f s6) :
    (match n.map (·.1) with
      | none => SP X pins D f s6
      | some m => wpAny (model X.prog X.w) X.A (do bindName X.env m .none; unbindBehindTheSuite X.env m pos) (fun _ s7 => SP X pins D f s7) X.xe s6) := by
  match n, hn, q with
  | none, _, q =>
    match f, q with
    | .next, ⟨σ6, H6, S6, q6⟩ => exact ⟨_, _, S6.unsuite ok, q6⟩
    | .brk, ⟨σ6, H6, S6, q6⟩ => exact ⟨_, _, S6.unsuite ok, q6⟩
    | .cont, ⟨σ6, H6, S6, q6⟩ => exact ⟨_, _, S6.unsuite ok, q6⟩
    | .ret u, ⟨v, σ6, H6, S6, r6, q6⟩ => exact ⟨_, _, _, S6.unsuite ok, r6, q6⟩
  | some (m, i), ⟨hN, hi, hl⟩, q =>
    match f, q with
    | .next, ⟨σ6, H6, S6, q6⟩ => exact gone_ok (S6.unsuite ok) hN hi hl fun s7 J => ⟨_, _, J, q6⟩
    | .brk, ⟨σ6, H6, S6, q6⟩ => exact gone_ok (S6.unsuite ok) hN hi hl fun s7 J => ⟨_, _, J, q6⟩
    | .cont, ⟨σ6, H6, S6, q6⟩ => exact gone_ok (S6.unsuite ok) hN hi hl fun s7 J => ⟨_, _, J, q6⟩
    | .ret u, ⟨v, σ6, H6, S6, r6, q6⟩ => exact gone_ok (S6.unsuite ok) hN hi hl fun s7 J => ⟨_, _, _, J, r6, q6⟩
theorem handle_ok (hs : X.stack = X.env :: X.outer) (hf : X.env.frame = some X.env.locals) (tk : L2N.Takes X Wout) {hds : List ExceptHandler} {l : List Cl} (hh : Hds X hds l) :
    ∀ s' : Shared, Cgt X a B pins σ H cls d sI s' → wCls X.K Wout D l cls d σ H → wpAny (model X.prog X.w) X.A (handleBy (.ref a) X.env hds) (SP X pins D) X.xe s' := by
  induction hh with
  | nil =>
    intro s' c w
    obtain ⟨_, _, _, oe, vs, T, oT, ts', he, hz, hd, h1, hr⟩ := id c.fl
    refine wpAny_handleBy_nil ?_
    unfold PySem.passOn
    refine wpAny_bind (wpAny_field he hd h1 ?_)
    rw [if_neg (show ¬ ((Value.ref T == Value.none) = true) from by simp)]
    have fin : wpAny (model X.prog X.w) X.A (setFlight (.ref a) X.env.frame) (fun _ s4 => wpAny (model X.prog X.w) X.A (throw (.ref a) : Sem Flow) (SP X pins D) X.xe s4) X.xe s' := by
      rw [hf]
      exact HandSPX.setFlight_upZ (s := s') c.fl fun h4 hh4 up4 => wpAny_throw (tk _ _ ⟨a, B, sI, pins, σ, H, cls, d, rfl, c.inv, c.nb, c.up.trans up4, .inr (.inr hh4), c.na, c.os, c.ag, w⟩)
    first
      | exact wpAny_bind (wpAny_pure (wpAny_bind fin))
      | exact wpAny_bind fin
  | @cons cl e b₀ suite pos hds l hn ht hsu r ih =>
    intro s' c ⟨b, hb, yes, no⟩
    obtain ⟨oe, vs, he, hz, hd, S⟩ := c.obj hs hf
    refine wpAny_handleBy_cons (codeAny_handlers_test (tst_in ht S he hz.1 hb fun h' k => ?_)) (by intro q; cases q)
    have c2 : Cgt X a B pins σ H cls d sI { s' with heap := h' } := c.step (flying_new k c.fl) (Heap.UpToSlots.of_keeps k)
    cases b with
    | false => exact ih _ c2 (no rfl)
    | true =>
      have ok := c.inv.ok
      obtain ⟨cs, n, ts⟩ := cl
      cases n with
      | none =>
        refine codeAny_handlers_suite (HandSPX.lands_againZ (s := { s' with heap := h' }) c2.fl fun h4 fl4 up4 => ?_)
        obtain ⟨oe4, vs4, he4, hz4, hd4, S4⟩ := (c2.step fl4 up4).obj hs hf
        exact wpAny_mono ((hsu a oe4 cls d (X.pn ++ pins) hz4 ⟨_, hd4⟩).run [] _ σ H _ S4 (yes rfl a c.na)) (fun f s6 q => suite_end (n := none) (pos := pos) ok trivial q) fun _ _ z => z.elim
      | some ni =>
        obtain ⟨nm, i⟩ := ni
        obtain ⟨hN, hi, hl⟩ := id hn
        refine codeAny_handlers_suite_as (HandSPX.lands_againZ (s := { s' with heap := h' }) c2.fl fun h4 fl4 up4 => ?_)
        obtain ⟨oe4, vs4, he4, hz4, hd4, S4⟩ := (c2.step fl4 up4).obj hs hf
        refine store_ok (X := X.suite a ((a, oe4) :: (X.pn ++ pins))) (v := .ref a) S4 hN hi (.inl hl) rfl (fun s5 S5 => ?_) (.inr hl)
        exact wpAny_mono ((hsu a oe4 cls d (X.pn ++ pins) hz4 ⟨_, hd4⟩).run [] s5 _ H _ S5 (yes rfl a c.na)) (fun f s6 q => suite_end (n := some (nm, i)) (pos := pos) ok hn q) fun _ _ z => z.elim
theorem ps_tryN {body : List Stmt} {h₀ : ExceptHandler} {hds : List ExceptHandler} {l : List Cl} {pos : Pos} {tb : WX → TS} (hs : X.stack = X.env :: X.outer) (hf : X.env.frame = some X.env.locals) (tk : L2N.Takes X Wout)
    (hb : ∀ (W : WX) (pn : List (Addr × Obj)) (xe : Value → Shared → Prop), L2N.Takes (X.tr pn xe) W → PassesOwn (model X.prog X.w) X.A X.env xe → PSs (X.tr pn xe) body (tb W)) (hh : Hds X (h₀ :: hds) l) :
    PS X (.Try body (h₀ :: hds) [] [] pos) (fun D σ H => tb (wCls X.K Wout D l) D σ H) := by
  refine ⟨fun pins s σ H D I h => wpAny_Try_except ?_⟩
  have fr : X.A.frames = some (X.env :: X.outer) := by rw [I.ok.frames, hs]
  have body' := hb (wCls X.K Wout D l) (X.pn ++ pins) (fun e s₁ => wpAny (model X.prog X.w) X.A (noteFrame e X.env) (fun _ s₂ => wpAny (model X.prog X.w) X.A (setFlight e none) (fun _ s₃ =>
    wpAny (model X.prog X.w) X.A (handleBy e X.env (h₀ :: hds)) (SP X pins D) X.xe s₃) X.xe s₂) X.xe s₁) (fun u s' ⟨a, B, sI, pins', σ', H', cls, d, e, J, nb, up, sky, na, os, ag, w⟩ => ?_) PassesOwn.looking
  · refine wpAny_mono (body'.run [] s σ H D (I.toTry _) h) (fun f s1 q => ?_) fun _ _ z => z
    match f, q with
    | .next, ⟨σ', H', J, q⟩ => exact wpAny_execs_nil ⟨σ', H', J.ofTry I.ok, q⟩
    | .brk, ⟨σ', H', J, q⟩ => exact ⟨σ', H', J.ofTry I.ok, q⟩
    | .cont, ⟨σ', H', J, q⟩ => exact ⟨σ', H', J.ofTry I.ok, q⟩
    | .ret u, ⟨v, σ', H', J, r, q⟩ => exact ⟨v, σ', H', J.ofTry I.ok, r, q⟩
  · subst e
    have sky' : Sky B (X.env :: X.outer) a (L2N.Zn cls d) X.env.locals s'.heap := hs ▸ sky
    refine L2N.Sky.land L2N.Zn.steady fr hf sky' fun h3 fl3 up3 => handle_ok hs hf tk hh { s' with heap := h3 } ⟨J.ofTry I.ok, nb, up.trans up3, by rw [hs]; exact fl3, na, os, ag⟩ w
end
end Hx

/-! a lambda without parameters handed to a def that calls it within a try -/
namespace Hx
open PySem PySem.Spec PyProof.Rows L2 HotX LamX
section
variable {X : Cx} {pins : List (Addr × Obj)} {σ : L2.St} {H HZ : Hp} {s : Shared}
/-- the lambda is made; of what is tracked its table alone grows -/
theorem lam_new {c P : Addr} {params : Arguments} {body : Expr} {scope : Scope} {pos : Pos} {E : Value → Shared → Prop} {Q : Value → Shared → Prop} (I : Inv X pins σ H s) (TB : TabB X.base X.mg c P) (hcode : X.env.code = .ref c) (hT : TabS H P (X.env.qual ++ "<lambda>"))
    (hdef : defaultsOf params X.env = ([], [])) (hfree : ∀ y ∈ scope.names, y.2 = .free → ∃ c, X.env.cells.lookup y.1 = some c)
    (h : ∀ (f c' : Addr) (pm ctv : Value) (H1 : Hp) (s' : Shared), Inv X pins σ H1 s' → (∀ b o, H b = some o → b ≠ P → H1 b = some o) → TabS H1 P (X.env.qual ++ "<lambda>") →
      s'.heap.get? f = some (PySem.W.kla_obj "<lambda>" (X.env.qual ++ "<lambda>") params body scope (cloFrom X.env.cells scope.names []) pm c' ctv) → H1 f = none → f ∉ frs X.stack → H1 c' = some (CodeO c' (X.env.qual ++ "<lambda>")) → Q (.ref f) s') :
    wpAny (model X.prog X.w) X.A (eval (.Lambda params body scope pos) X.env) Q E s := by
  obtain ⟨ps, hP, ht, told⟩ := hT
  have inP : s.heap.get? P = some { cls := .none, data := .fields ps } := I.hok P _ hP
  have bP := TB.bm.keeps I.bk
  have far : ∀ f, s.heap.objs.size ≤ f → f ∉ frs X.stack := fun f hf z => (List.mem_cons.mp (I.stkSub _ z)).elim (fun e => Nat.not_lt.mpr hf (e ▸ I.lt)) fun e => I.nofs hf e
  refine PySem.W.kla_eval hdef ?_
  cases hc : codeAmong pos ps.toList with
  | some cv =>
    obtain ⟨c', e, hco⟩ := told pos cv hc
    subst e
    exact PySem.W.kla_makeFunctionHit (mg := X.mg) (c := c) (P := P) (ps := ps) (closure_ok hfree) I.ok.glob (I.mod.glob.keeps I.bk) hcode (TB.code.keeps I.bk) inP ht hc bP fun ctv h' tk hx hsz =>
      h h'.objs.size c' _ ctv H _ (I.kept (h' := h'.push _) (t' := tk) fun b o e => Heap.get?_push_of_some _ (hx b o e)) (fun _ _ e _ => e) ⟨ps, hP, ht, told⟩ (Heap.get?_push_size _ rfl) (I.hok.fresh hsz) (far _ hsz) hco
  | none =>
    refine PySem.W.kla_makeFunction (mg := X.mg) (c := c) (P := P) (ps := ps) (closure_ok hfree) I.ok.glob (I.mod.glob.keeps I.bk) hcode (TB.code.keeps I.bk) inP ht hc TB.gP bP fun c' ctv h' tk hx hge hlt ⟨c2, oc, vs, t, e2, hoc, hd, hv⟩ htb => ?_
    cases e2
    have big : s.heap.objs.size ≤ h'.objs.size := Nat.le_trans hge (Nat.le_of_lt hlt)
    have nC : H c' = none := I.hok.fresh hge
    have nPC : P ≠ c' := ne_of_none hP nC
    have J := inv_table (q := X.env.qual ++ "<lambda>") (t' := tk) (more := #[rawInt pos.line, rawInt pos.col, .ref c']) (h' := h'.push (PySem.W.kla_obj "<lambda>" (X.env.qual ++ "<lambda>") params body scope (cloFrom X.env.cells scope.names []) ((X.mg "__name__").getD .none) c' ctv)) I hP
      (fun b o hb e => Heap.get?_push_of_some _ (hx b o hb e)) (Heap.get?_push_of_some _ htb) hge ⟨oc, vs, t, Heap.get?_push_of_some _ hoc, hd, hv⟩
    have same : ∀ b o, H b = some o → b ≠ P → upd (upd H P (.tbl (ps ++ #[rawInt pos.line, rawInt pos.col, .ref c']))) c' (CodeO c' (X.env.qual ++ "<lambda>")) b = some o := fun b o e nb => by
      rw [upd_ne (ne_of_none e nC), upd_ne nb]
      exact e
    have list_eq : (ps ++ #[rawInt pos.line, rawInt pos.col, .ref c']).toList = ps.toList ++ [rawInt pos.line, rawInt pos.col, .ref c'] := by simp
    refine h h'.objs.size c' _ ctv _ _ J same ⟨_, by rw [upd_ne nPC, upd_same], by rw [list_eq]; exact PySem.TriplesOk_snoc _ _ _ _ ht, fun p' cv hcv => ?_⟩ (Heap.get?_push_size _ rfl) ?_ (far _ big) upd_same
    · rw [list_eq] at hcv
      rcases among_app _ ht hcv with z | z
      · obtain ⟨c0, e1, e2⟩ := told p' cv z
        exact ⟨c0, e1, same _ _ e2 fun e => by rw [e, hP] at e2; exact codeO_ne ps (Option.some.inj e2).symm⟩
      · exact ⟨c', z, upd_same⟩
    · rw [upd_ne (Nat.ne_of_gt hlt), upd_ne (Nat.ne_of_gt (Nat.lt_of_lt_of_le (Heap.lt_size inP) big))]
      exact I.hok.fresh big
/-- the lambda's body's context -/
def lamN (X : Cx) (A : Around) (outer : List Env) (s : Shared) (H : Hp) (E : XK) (scope : Scope) (f c' : Addr) : Cx :=
  (lamCx X A outer s H E scope f c').wish fun e s' => wpAny (model X.prog X.w) (A.deeper (lamEnv X scope s.heap.objs.size f c')) (leaving (lamEnv X scope s.heap.objs.size f c') e) (fun _ s'' => L2N.CX X.prog X.w outer H s E e s'') (fun e' s'' => L2N.CX X.prog X.w outer H s E e' s'') s'
theorem Inv.wish' {E : Value → Shared → Prop} (I : Inv X pins σ H s) : Inv (X.wish E) pins σ H s := ⟨I.ok.wish E, I.os, I.bare, I.base, I.loc, I.cell, I.free, I.freeC, I.pin, I.hok, I.len⟩
/-- x(), in the def that got the lambda -/
theorem pe_actN {CXg : CXT} {Eg : XK} {Ng : List Str} {qg : Str} {sg : Scope} {g f c' : Addr} {cdg pm ctv : Value} {params : Arguments} {body : Expr} {scope : Scope} {k i : Nat} {a : Str} {pn : List (Addr × Obj)} {xe : Value → Shared → Prop} {W : WX} {E : XK} {tb : TE} {p1 p2 : Pos}
    (I : Inv X pins σ H s) (L : LamS X.env.scope scope) (hf : s.heap.get? f = some (PySem.W.kla_obj "<lambda>" (X.env.qual ++ "<lambda>") params body scope (cloFrom X.env.cells scope.names []) pm c' ctv)) (hfn : H f = none) (hfr : f ∉ frs X.stack)
    (hbind : bindArgs (PySem.W.kla_fn "<lambda>" (X.env.qual ++ "<lambda>") params body scope (cloFrom X.env.cells scope.names []) pm (.ref c') ctv) ⟨[], []⟩ = pure [])
    (tk : L2N.Takes ((cxOf CXg X.prog X.w X.K X.mg X.base Ng qg sg g cdg X.A X.stack s H Eg).tr pn xe) W) (hW : ∀ cls d (σ' : L2.St) H', σ'.length = Ng.length → E cls d H' → W cls d σ' H') (hr : RoomG (k + 1) (X.A.deeper (envOfC qg sg s.heap.objs.size g cdg)))
    (hbody : ∀ (A : Around) (outer : List Env) (s : Shared) (H : Hp), RoomG k (A.deeper (lamEnv X scope s.heap.objs.size f c')) → PE (lamN X A outer s H E scope f c') body tb)
    (hN : Ng[i]? = some a) (hv : Vis sg a) (hd : (a == ("__debug__" : Str)) = false := by decide) (hcd : (a == ("__classdict__" : Str)) = false := by decide) :
    PE ((cxOf CXg X.prog X.w X.K X.mg X.base Ng qg sg g cdg X.A X.stack s H Eg).tr pn xe) (.Call (.Name a p1) [] [] p2)
      (fun σZ HZ Q => σZ[i]? = some (some (.ref f)) ∧ HZ c' = some (CodeO c' (X.env.qual ++ "<lambda>")) ∧ tb σ HZ Q) := by
  refine ⟨fun pinsZ sZ σZ HZ Q IZ ⟨hs, hc, ht⟩ => ?_⟩
  have load := (pe_var (X := (cxOf CXg X.prog X.w X.K X.mg X.base Ng qg sg g cdg X.A X.stack s H Eg).tr pn xe) (pos := p1) (i := i) hN hv hd hcd).run pinsZ sZ σZ HZ (fun v H1 => v = .ref f ∧ H1 = HZ) IZ ⟨.ref f, hs, rfl, rfl⟩
  refine wpAny_Call_Name_kw (thn load fun u s1 ⟨v, H1, I1, r1, ev, eH⟩ => ?_)
  subst ev
  rw [eH] at I1
  obtain rfl : u = Value.ref f := r1
  have get := I1.base.keep f _ hf hfn hfr (fun z => nomatch (show f ∈ ([] : List Addr) from z))
  have un : Un (frs X.stack) [] H HZ s.heap s1.heap := I1.base
  obtain ⟨⟨oc, vs, t, hoc, hdc, hvc⟩, _, _⟩ := I1.hok c' _ hc
  refine PySem.W.callWith_F0 ⟨_, _, _, _, get⟩ (wpAny_call (codeAny_mono (R := CR (L2N.CX X.prog X.w) (envOfC qg sg s.heap.objs.size g cdg :: X.stack) X.prog X.w HZ s1 Q E) (PySem.W.kla_callFunE hr.depth get rfl L.co L.gen rfl ⟨c', oc, vs, t, rfl, hoc, hdc, hvc⟩ ?_) fun r s' hq => ?_))
  · rw [List.append_nil, hbind]
    refine wpAny_pure (wpAny_newFunctionEnv (fun y hy => (L.own y hy).2) (fun y hy => absurd hy (by simp)) (fun h₁ hns hsb => ⟨I1.nolimit.fresh _ hsb, ?_⟩) L.kind)
    have kp : ∀ b o, s1.heap.get? b = some o → h₁.get? b = some o := fun b o e => hsb.extBut b o (Nat.ne_of_lt (Heap.lt_size e)) (Heap.get?_push_of_some _ e)
    have J := lam_start2 (f := f) (c' := c') (E := E) (tk := s1.toks + ([] : List (Str × Value)).length) I L I1.env0 hr.hd un hns kp
    refine PySem.W.kla_codeExpr (wpAny_mono ((hbody _ _ s1 HZ (hr.deeper _)).run [] _ _ HZ Q (Inv.wish' J) ht) (fun v s' ⟨w', H', J', rv, q⟩ => ?_) fun e s' hq => hq)
    exact ⟨w', H', J'.os, J'.bare, J'.base, J'.hok, rv, q⟩
  · match r, hq with
    | .error e, hq => exact tk e s' (L2N.XE.of_call I1 (fun cls d H' h => hW cls d σZ H' I1.len h) hq)
    | .ok (.ret u), hq => exact I1.after hq
    | .ok .next, hq => exact hq.elim
    | .ok .brk, hq => exact hq.elim
    | .ok .cont, hq => exact hq.elim
/-- the def that calls what it got; TT: what it makes of the lambda's reading -/
def GivesN (X : Cx) (k : Nat) (Ng : List Str) (x : Str) (sg : Scope) (g : Addr) (cdg : Value) (bg : List Stmt) (a : Str) (q : Str) (TT : (XK → Hp → VK → Prop) → Hp → VK → Prop) : Prop :=
  ∀ (f c' : Addr) (s : Shared) (H : Hp) (Q : VK) (tl : XK → Hp → VK → Prop), RoomG k (X.A.deeper (envOfC x sg s.heap.objs.size g cdg)) →
    (∀ (W : WX) (pn : List (Addr × Obj)) (xe : Value → Shared → Prop) (E : XK) (p1 p2 : Pos), L2N.Takes ((cxOf C8.CX0 X.prog X.w X.K X.mg X.base Ng x sg g cdg X.A X.stack s H C8.E0).tr pn xe) W → (∀ cls d (σ' : L2.St) H', σ'.length = Ng.length → E cls d H' → W cls d σ' H') →
      PE ((cxOf C8.CX0 X.prog X.w X.K X.mg X.base Ng x sg g cdg X.A X.stack s H C8.E0).tr pn xe) (.Call (.Name a p1) [] [] p2) (fun σZ HZ Q => σZ[0]? = some (some (.ref f)) ∧ HZ c' = some (CodeO c' q) ∧ tl E HZ Q)) →
    H c' = some (CodeO c' q) → TT tl H Q →
    ∃ t, PSs (cxOf C8.CX0 X.prog X.w X.K X.mg X.base Ng x sg g cdg X.A X.stack s H C8.E0).nox bg t ∧ t { nx := fun _ H' => Q .non H', rt := Q } (L2.start Ng [.ref f]) H
def tLamN (P : Addr) (q : Str) (TT : (XK → Hp → VK → Prop) → Hp → VK → Prop) (t : XK → TE) : TE := fun σ H Q => TabS H P q ∧ ∀ H1, (∀ b o, H b = some o → b ≠ P → H1 b = some o) → TabS H1 P q → TT (fun E H' Q' => t E σ H' Q') H1 Q
/-- x(lambda: body) -/
theorem pe_lamN {TT : (XK → Hp → VK → Prop) → Hp → VK → Prop} {x a : Str} {g c P : Addr} {k : Nat} {st : Stmt} {fd : FuncData} {Ng : List Str} {params : Arguments} {body : Expr} {scope : Scope} {t : XK → TE} {p lpos pos : Pos} (F : L2.Fun X.K x x st g fd) (hb : L2.Binds X.K fd [a] []) (Sg : FnScope Ng [a] (defScope st))
    (hg : Gl X x) (hm : X.mg x = some (.ref g)) (hNg : Ng[0]? = some a) (hva : Vis (defScope st) a) (hG : ∀ cdv : Value, GivesN X (k + 1) Ng x (defScope st) g cdv (defBody st) a (X.env.qual ++ "<lambda>") TT)
    (TB : TabB X.base X.mg c P) (hcode : X.env.code = .ref c) (hr : RoomG (k + 2) X.A) (L : LamS X.env.scope scope) (hdef : defaultsOf params X.env = ([], []))
    (hbind : ∀ (q : Str) (cl : List (Str × Addr)) (pm cv ctv : Value), bindArgs (PySem.W.kla_fn "<lambda>" q params body scope cl pm cv ctv) ⟨[], []⟩ = pure [])
    (hbody : ∀ (A : Around) (outer : List Env) (s : Shared) (H : Hp) (E : XK) (f c' : Addr), RoomG k (A.deeper (lamEnv X scope s.heap.objs.size f c')) → PE (lamN X A outer s H E scope f c') body (t E))
    (hdb : (x == ("__debug__" : Str)) = false := by decide) (hd : (a == ("__debug__" : Str)) = false := by decide) (hcd : (a == ("__classdict__" : Str)) = false := by decide) :
    PE X (.Call (.Name x p) [.Lambda params body scope lpos] [] pos) (tLamN P (X.env.qual ++ "<lambda>") TT t) := by
  refine ⟨fun pins s σ H Q I ⟨hT, h⟩ => wpAny_Call_Name_kw (ld_glob I hg hm ?_ hdb)⟩
  obtain ⟨oc, od, kV, doc, pmg, an, cdv, ct, osl, rfl, lk, hcg⟩ := F.ex
  refine PySem.W.callWith_K (h₀ := X.base) I.ok.mod.kin F.kp ?_ (by rfl) (by rfl)
  refine (show wpAny _ _ (spliced ((false, eval (.Lambda params body scope lpos) X.env) :: backTo pos (starEach [] X.env))) _ _ s from Calls.spliced_cons (lam_new I TB hcode hT hdef (L.has I.ok) fun f c' pm' ctv H1 s' I1 same T1 hf hfn hfr hco => Calls.spliced_nil ⟨I1.kIn, ?_⟩))
  refine wpAny_call (codeAny_mono (R := CR C8.CX0 X.stack X.prog X.w H1 s' Q C8.E0) (run_ofS (N := Ng) (ps := [a]) (us := [.ref f]) (vs := [.ref f]) lk hcg Sg hr.rm I1.env0 (hb s' [.ref f] I1.kIn rfl) (.cons rfl .nil) rfl fun hr0 => ?_) fun r s2 hq => ?_)
  · have hr' : RoomG (k + 1) _ := ⟨hr0, hr.gd⟩
    obtain ⟨t', ht', hq'⟩ := hG cdv f c' s' H1 Q (fun E H' Q' => t E σ H' Q') hr' (fun W pn xe E p1 p2 tk hW => pe_actN (i := 0) I1 L hf hfn hfr (hbind _ _ _ _ _) tk hW hr' (fun A outer s H hr2 => hbody A outer s H E f c' hr2) hNg hva hd hcd) hco (h H1 same T1)
    exact ⟨t', ht'.nox, hq'⟩
  · match r, hq with
    | .error e, hq => exact (show False from hq).elim
    | .ok (.ret u), hq => exact I1.after hq
    | .ok .next, hq => exact hq.elim
    | .ok .brk, hq => exact hq.elim
    | .ok .cont, hq => exact hq.elim
end
end Hx

/-! A def called with keywords, where what it raises is wished for at the caller's slots. -/
namespace Hx
open PySem PySem.Spec PyProof.Rows L2
/-- the things at these places -/
def sel {α : Type} (idx : List Nat) (l : List α) : List α := idx.filterMap fun i => l[i]?
theorem paired_at {α β : Type} {R : α → β → Prop} : ∀ {xs : List α} {ys : List β}, Paired R xs ys → ∀ i : Nat, (xs[i]? = none ∧ ys[i]? = none) ∨ ∃ x y, xs[i]? = some x ∧ ys[i]? = some y ∧ R x y
  | _, _, .nil, i => .inl ⟨rfl, rfl⟩
  | _, _, .cons r t, 0 => .inr ⟨_, _, rfl, rfl, r⟩
  | _, _, .cons r t, i + 1 => paired_at t i
theorem paired_sel {α β : Type} {R : α → β → Prop} {xs : List α} {ys : List β} (h : Paired R xs ys) : ∀ idx : List Nat, Paired R (sel idx xs) (sel idx ys)
  | [] => .nil
  | i :: idx => by
    have t := paired_sel h idx
    unfold sel at t ⊢
    rcases paired_at h i with ⟨e1, e2⟩ | ⟨x, y, e1, e2, r⟩
    · rw [List.filterMap_cons_none e1, List.filterMap_cons_none e2]; exact t
    · rw [List.filterMap_cons_some e1, List.filterMap_cons_some e2]; exact .cons r t
/-- n things by place, then by these names; what lacks is the default's. idx: where each parameter's thing stands in the row of all -/
structure KSel (K : PySem.W.Frag) (fd : FuncData) (ps : List Str) (n : Nat) (ks : List Str) (idx : List Nat) (dvs : List V) : Prop where
  ex : ∃ its : List Value, Vals dvs its ∧ ∀ (s : Shared) (us ws : List Value), K.In s.heap → us.length = n → ws.length = ks.length → BindsTo s fd ⟨us, ks.zip ws⟩ (ps.zip (sel idx (us ++ ws ++ its)))
section
variable {X : Cx} {CX : CXT} {k n : Nat} {f : Addr} {fd : FuncData} {ps ks : List Str} {sp : Sp} {idx : List Nat} {dvs : List V} {E : L2.St → XK} {x : Str} {p pos : Pos} {e : Expr} {es : List Expr} {kws : List Keyword} {t tk : TA}
theorem kw_run {pins : List (Addr × Obj)} {σ : L2.St} {H : Hp} {s : Shared} {Q : VK} {us ws : List Value} {vs zs : List V} (F : FnG X.prog X.w X.K X.mg X.base CX k f fd ps sp) (hr : RoomG k X.A) (hb : KSel X.K fd ps n ks idx dvs) (hx : PassesAt CX X σ (E σ))
    (I : Inv X pins σ H s) (r : Vals vs us) (rz : Vals zs ws) (l1 : vs.length = n) (l2 : zs.length = ks.length) (h : sp (sel idx (vs ++ zs ++ dvs)) H Q (E σ)) : wpAny (model X.prog X.w) X.A (call (.ref f) us (ks.zip ws)) (EP X pins σ Q) X.xe s := by
  obtain ⟨its, rd, bind⟩ := hb.ex
  have all : Vals (sel idx (vs ++ zs ++ dvs)) (sel idx (us ++ ws ++ its)) := paired_sel ((r.append rz).append rd) idx
  have b := bind s us ws I.kIn (r.length.symm.trans l1) (rz.length.symm.trans l2)
  refine wpAny_call (codeAny_mono (F.run X.A X.stack s H _ _ _ Q (E σ) hr I.env0 b all h) fun out s' got => ?_)
  match out, got with
  | .error e, got => exact hx pins H s e s' I got
  | .ok (.ret u), got => exact I.after got
end
end Hx

/-! A tuple told once. -/
namespace Hx
open PySem PySem.Spec PyProof.Rows L2
theorem once_tuple (l : Addr) (items : Array Value) (n : Nat) (dd : Option Addr) (sl : Array (Option Value)) (u : Tok) :
    Meets (Builtin.«tuple.__mul__» ⟨[.ref l, .int 1 u], []⟩) (fun _ R s => s.heap.get? l = some { cls := .type "tuple", dict := dd, data := .seq items n, slots := sl } ∧ R (.ok (.ret (Value.ref l))) s) :=
  .of_wp fun prog w A R s h => by
    obtain ⟨hp, g, d, tk, os⟩ := s
    obtain ⟨hl, h⟩ := h
    have f1 := AutoSeq1.idx_int
    have c0 : (decide ((1 : Int) < -(2 ^ 63)) || decide ((1 : Int) ≥ 2 ^ 63)) = false := by decide
    have c1 : (items.isEmpty || (1 : Int) == 1) = true := by rw [show ((1 : Int) == 1) = true from rfl, Bool.or_true]
    wp_walk using wpAny_loadPart' hl
    repeat (first
      | (refine wpAny_ite_false (decide_eq_false (by rw [c0]; exact Bool.false_ne_true)) ?_; wp_walk using wpAny_loadPart' hl)
      | (refine wpAny_ite_true (decide_eq_true (by exact c1)) ?_; wp_walk using wpAny_loadPart' hl))
    exact ⟨_, rfl, h⟩
section
variable {X : Cx}
def rOnce (K : PySem.W.Frag) : R2 := fun x y H Q => ∃ l xs, x = .ref l ∧ y = .int 1 ∧ SqT K H l xs ∧ Q (.ref l) H
theorem op_once : OpR X (binaryOp .Mult) (rOnce X.K) := by
  intro pins s σ H x y v u Q I rx ry h
  obtain ⟨l, xs, rfl, rfl, hT, q⟩ := h
  cases rx
  obtain ⟨t, rfl⟩ := ry
  obtain ⟨its, r, ⟨⟨cls, dd, data, sl⟩, ho, hc, n, hd⟩, hs⟩ := I.tuple hT
  simp only at hc hd
  subst hc hd
  refine wpAny_binaryOp_repeat_ref (T := "tuple") (U := "int") (by decide) ⟨_, ho, rfl⟩ (fun s' => typeIs_int s' 1 t) noFill_tuple_mul F.fills_int_mul F.slot_int_rmul repeat_tuple F.slot_int_index.lookup
    (call_meets F.slot_int_rmul (typeIs_int s 1 t) F.entry_int_rmul (F.args_int_rmul_2 _ _) (int_rmul_tuple 1 t l its.toArray n dd sl)
      ⟨ho, rfl, ⟨_, ho, rfl⟩, call_meets F.slot_tuple_mul ⟨_, ho, rfl⟩ F.entry_tuple_mul (F.args_tuple_mul_2 _ _) (once_tuple l its.toArray n dd sl t) ⟨ho, ?_⟩⟩)
  exact ⟨.ref l, H, I, rfl, q⟩
end
end Hx

/-! max and min of a list by a def that tells an int of each. -/
namespace Hx
open PySem PySem.Spec PyProof.Rows L2
section
variable {X : Cx} {k : Nat} {f : Addr} {fd : FuncData} {p : Str} {sp : Sp} {pins : List (Addr × Obj)} {σ : L2.St}
end
end Hx
namespace Hx
open PySem PySem.Spec PyProof.Rows L2
/-! ### max, min of a list of ints -/
section
variable {X : Cx}
end
end Hx

/-! sum of a list of tuples, from a tuple on. -/
namespace Hx
open PySem PySem.Spec PyProof.Rows L2 HT
section
variable {X : Cx} {pins : List (Addr × Obj)} {σ : L2.St}
end
end Hx

/-! Own classes over promises of defs that are called where nothing is being shown: an instance is made, its methods are called. -/
namespace Hx
open PySem PySem.Spec PyProof.Rows L2
theorem RoomG.make {k : Nat} {A : Around} (r : RoomG (k + 1) A) (C : Addr) (us : List Value) (kw : List (Str × Value)) : RoomG k (A.under (.builtin "type.__call__" ⟨.ref C :: us, kw⟩)) := ⟨r.rm.make C us kw, r.gd⟩
/-- C(e, ..): what __init__ is handed is the new instance and the arguments -/
def tMakeS (C : Addr) (sp : Sp) (dvs : List V) (E : L2.St → XK) (t : TA) : TE := fun σ H Q => t σ H fun vs H1 => ∀ x dx, H1 x = none → H1 dx = none → dx ≠ x →
  sp (.ref x :: (vs ++ dvs)) (upd (upd H1 dx (.own x)) x (.ins C dx [])) (fun v H2 => v = .non ∧ Q (.ref x) H2) (E σ)
def tMethS (C : Addr) (m : Str) (sp : Sp) (dvs : List V) (E : L2.St → XK) (ta : TE) (t : TA) : TE := fun σ H Q => ta σ H fun x H1 => ∃ a dx fs, x = .ref a ∧ H1 a = some (.ins C dx fs) ∧ fs.lookup m = none ∧
  t σ H1 fun vs H2 => sp (x :: (vs ++ dvs)) H2 Q (E σ)
section
variable {X : Cx} {CX : CXT} {k : Nat} {f C : Addr} {fd : FuncData} {ps : List Str} {sp : Sp} {dvs : List V} {ds : List Value} {E : L2.St → XK} {x m : Str} {p pos apos : Pos} {o e : Expr} {es : List Expr} {t : TA} {ta : TE}
theorem makeG_run {pins : List (Addr × Obj)} {σ : L2.St} {H : Hp} {s : Shared} {Q : VK} {us : List Value} {vs : List V} (M : Mk X.K C f) (F : FnG X.prog X.w X.K X.mg X.base CX k f fd ps sp) (hr : RoomG (k + 1) X.A) (hb : Binds X.K fd ps ds) (hd : Vals dvs ds) (hx : PassesAt CX X σ (E σ))
    (I : Inv X pins σ H s) (r : Vals vs us)
    (h : ∀ x dx, H x = none → H dx = none → dx ≠ x → sp (.ref x :: (vs ++ dvs)) (upd (upd H dx (.own x)) x (.ins C dx [])) (fun v H2 => v = .non ∧ Q (.ref x) H2) (E σ)) :
    wpAny (model X.prog X.w) X.A (call (.ref C) us) (EP X pins σ Q) X.xe s := by
  have ready := Inv.made (C := C) I
  have spun := h (s.heap.objs.size + 1) s.heap.objs.size (I.hok.fresh (Nat.le_succ _)) (I.hok.fresh (Nat.le_refl _)) (Nat.ne_of_lt (Nat.lt_succ_self _))
  have all : Vals (V.ref (s.heap.objs.size + 1) :: (vs ++ dvs)) (Value.ref (s.heap.objs.size + 1) :: (us ++ ds)) := .cons rfl (r.append hd)
  have many : (Value.ref (s.heap.objs.size + 1) :: us ++ ds).length = ps.length := (show _ = _ from all.length.symm).trans (F.len _ _ _ _ spun)
  refine wpAny_call (make_map (f := f) I.kIn M.makes M.init (beq_iff_eq.mp M.fn) (codeAny_mono (F.run _ X.stack _ _ ⟨Value.ref (s.heap.objs.size + 1) :: us, []⟩ (Value.ref (s.heap.objs.size + 1) :: (us ++ ds)) _ _ (E σ) (hr.make C us [])
    (ready.env0.make C us []) (hb _ (Value.ref (s.heap.objs.size + 1) :: us) ready.kIn many) all spun) fun out s' got => ?_))
  match out, got with
  | .error e, got => exact hx pins _ _ e s' ready got
  | .ok (.ret u), got =>
    obtain ⟨v, H', J, rv, ev, q⟩ := ready.after got
    subst ev
    exact ⟨rv, V.ref (s.heap.objs.size + 1), H', J, rfl, q⟩
theorem pe_makeG (M : Mk X.K C f) (F : FnG X.prog X.w X.K X.mg X.base CX k f fd ps sp) (hr : RoomG (k + 1) X.A) (hg : Gl X x) (hm : X.mg x = some (.ref C)) (hb : Binds X.K fd ps ds) (hd : Vals dvs ds) (hx : ∀ σ, PassesAt CX X σ (E σ))
    (ha : PA X (e :: es) t) (hdb : (x == ("__debug__" : Str)) = false := by decide) (he : starEach (e :: es) X.env = (false, eval e X.env) :: starEach es X.env := by rfl) (hpl : (backTo pos (starEach es X.env)).any (·.1) = false := by rfl) :
    PE X (.Call (.Name x p) (e :: es) [] pos) (tMakeS C sp dvs E t) :=
  ⟨fun pins s σ H Q I h => wpAny_Call_Name_kw (ld_glob I hg hm (PySem.W.callWith_K (h₀ := X.base) I.ok.mod.kin M.kp (thn (ha.run pos pins s σ H _ I h) fun us s1 ⟨vs, H1, I1, r, q⟩ => ⟨I1.kIn, makeG_run M F hr hb hd (hx σ) I1 r q⟩) he hpl) hdb)⟩
/-- o.m(e, ..) -/
theorem pe_methG {pl : Sem Bool} (he : PE X o ta) (c : Cls X.K C) (hm : Meth X.K C m f) (F : FnG X.prog X.w X.K X.mg X.base CX k f fd ps sp) (hr : RoomG k X.A) (hb : Binds X.K fd ps ds) (hd : Vals dvs ds) (hx : ∀ σ, PassesAt CX X σ (E σ)) (ha : PA X (e :: es) t)
    (hst : starEach (e :: es) X.env = (false, eval e X.env) :: starEach es X.env := by rfl) (hpl : (backTo pos (starEach es X.env)).any (·.1) = false := by rfl)
    (ht : eval (.Call (.Attribute o m apos) (e :: es) [] pos) X.env = (do
      let ov ← eval o X.env
      standAt apos.atName
      let (f, first) ← holding [ov] (getMethod ov m pl)
      callWith pos f first (backTo pos (starEach (e :: es) X.env)) (backToKw pos (keywordEach [] X.env))) := by rfl) :
    PE X (.Call (.Attribute o m apos) (e :: es) [] pos) (tMethS C m sp dvs E ta t) := by
  refine ⟨fun pins s σ H Q I h => PySem.W.methodCall_KW (pl := pl) (thn (he.run pins s σ H _ I h) fun u s1 ⟨x, H1, I1, rx, a, dx, fs, ex, ea, l, q⟩ => ?_) ht⟩
  subst ex
  cases rx
  exact getmeth_ok I1 ea c hm l (PySem.W.callWith_K (first := [.ref a]) (h₀ := X.base) I.ok.mod.kin hm.kp (thn (ha.run pos pins s1 σ H1 _ I1 q) fun us s2 ⟨vs, H2, I2, r, q2⟩ => ⟨I2.kIn, fnG_run (us := .ref a :: us) (vs := .ref a :: vs) F hr hb hd (hx σ) I2 (.cons rfl r) q2⟩) hst hpl)
end
end Hx
namespace Hx
open PySem PySem.Spec PyProof.Rows L2
/-- o.m(k = e, ..): what the places idx of the instance and all that is handed in hold -/
def tMethKS (C : Addr) (m : Str) (sp : Sp) (nk : Nat) (idx : List Nat) (E : L2.St → XK) (ta : TE) (tk : TA) : TE := fun σ H Q => ta σ H fun x H1 => ∃ a dx fs, x = .ref a ∧ H1 a = some (.ins C dx fs) ∧ fs.lookup m = none ∧
  tk σ H1 fun zs H2 => zs.length = nk ∧ sp (sel idx (([x] ++ zs) ++ [])) H2 Q (E σ)
theorem pe_methKG {X : Cx} {CX : CXT} {k : Nat} {f C : Addr} {fd : FuncData} {ps ks : List Str} {sp : Sp} {idx : List Nat} {E : L2.St → XK} {m : Str} {pos apos : Pos} {o : Expr} {kws : List Keyword} {ta : TE} {tk : TA} {pl : Sem Bool} (he : PE X o ta) (c : Cls X.K C) (hm : Meth X.K C m f) (F : FnG X.prog X.w X.K X.mg X.base CX k f fd ps sp) (hr : RoomG k X.A)
    (hb : KSel X.K fd ps 1 ks idx []) (hx : ∀ σ, PassesAt CX X σ (E σ)) (hkw : PK X kws tk) (hall : (backToKw pos (keywordEach kws X.env)).all (·.1.isSome) = true := by rfl) (hks : (backToKw pos (keywordEach kws X.env)).filterMap (·.1) = ks := by rfl)
    (hpl : ((backTo pos (starEach [] X.env)).any (·.1) || (backToKw pos (keywordEach kws X.env)).any (·.1.isNone)) = false := by rfl)
    (ht : eval (.Call (.Attribute o m apos) [] kws pos) X.env = (do
      let ov ← eval o X.env
      standAt apos.atName
      let (f, first) ← holding [ov] (getMethod ov m pl)
      callWith pos f first (backTo pos (starEach [] X.env)) (backToKw pos (keywordEach kws X.env))) := by rfl) :
    PE X (.Call (.Attribute o m apos) [] kws pos) (tMethKS C m sp ks.length idx E ta tk) := by
  refine ⟨fun pins s σ H Q I h => PySem.W.methodCall_KW (pl := pl) (thn (he.run pins s σ H _ I h) fun u s1 ⟨x, H1, I1, rx, a, dx, fs, ex, ea, l, q⟩ => ?_) ht⟩
  subst ex
  cases rx
  refine getmeth_ok I1 ea c hm l (PySem.W.callWith_KW0 (first := [.ref a]) (h₀ := X.base) I.ok.mod.kin hm.kp hall (thn (hkw.run pos pins s1 σ H1 _ I1 q) fun ws s2 ⟨zs, H2, I2, rz, l2, q2⟩ => ⟨I2.kIn, ?_⟩) hpl)
  rw [hks]
  exact kw_run (us := [.ref a]) (vs := [.ref a]) F hr hb (hx σ) I2 (.cons rfl .nil) rz rfl l2 q2
end Hx

/-! Defs with defaults whose promises are called where nothing is being shown. -/
namespace Hx
open PySem PySem.Spec PyProof.Rows L2
/-- a def whose defaults are the items of the tuple at T -/
structure FunV (K : PySem.W.Frag) (x qual : Str) (st : Stmt) (f : Addr) (fd : FuncData) (T : Addr) (its : Array Value) : Prop where
  ex : ∃ (oc : Value) (od : Option Addr) (kV doc pm : Value) (an : Option Addr) (cdv ct : Value) (osl : Array (Option Value)),
    fd = PySem.W.fnOf x qual (defArgs st) (defBody st) (defScope st) (.ref T) kV doc pm an cdv ct ∧ K.lookup f = some ⟨oc, od, .func fd, osl⟩ ∧ PySem.W.codeIn K cdv qual = true
  dfl : ∃ (o : Obj) (n : Nat), K.lookup T = some o ∧ o.data = .seq its n
  kp : PySem.W.keepIn K (.ref f) = true
/-- what a call binds, where the defaults are looked at -/
theorem FunV.to {K : PySem.W.Frag} {x qual : Str} {st : Stmt} {f T : Addr} {its : Array Value} {fd : FuncData} {args : Args} {bs : List (Str × Value)} {s : Shared} (F : FunV K x qual st f fd T its) (X : K.In s.heap)
    (h : ∃ k, bindArgs fd args = seqItems? (.ref T) >>= k ∧ k (some its) = pure bs) : BindsTo s fd args bs := by
  obtain ⟨o, n, lT, oT⟩ := F.dfl
  obtain ⟨k, e1, e2⟩ := h
  refine BindsTo.of_looks fun M => ?_
  rw [e1]
  exact looks_items X lT oT (.of_pure e2)
end Hx

/-! len of an instance whose class has a __len__ of its own. -/
namespace Hx
open PySem PySem.Spec PyProof.Rows L2
open Builtin
end Hx

/-! sep.join(reversed(xs)), xs a list of texts -/
namespace Hx
open PySem PySem.Spec PyProof.Rows L2 Builtin Builtin.Str
section
variable {prog : Program} {w : World} {A : Around} {E : Value → Shared → Prop} {s : Shared}
end
section
variable {X : Cx}
end
end Hx

/-! min of four ints; min of a list of ints with default. -/
namespace Hx
open PySem PySem.Spec PyProof.Rows L2
section
variable {prog : Program} {w : World} {A : Around} {E : Value → Shared → Prop} {s : Shared}
end
section
variable {X : Cx}
end
end Hx

/-! sorted and min of a list of data of one make. -/
namespace Hx
open PySem PySem.Spec PyProof.Rows L2
section
variable {X : Cx}
end
end Hx

/-! A layer of readings by value over the hand layer: tuples, frozen lists, frozen instances are values; owned lists and instances stand in a store. -/
namespace Dv
open PySem L2

inductive D where
  | non | bl (b : Bool) | int (i : Int) | str (x : Str)
  | tup (xs : List D) | lst (xs : List D) | tupX (xs : List D)
  | inst (C : Str) (ns : List Str) (xs : List D)
  | obj (a : Addr) | ty (n : String)
  | exc (a : Addr) (od : Option Addr) (ns : List Str) (xs : List D)
  | fn (x : Str)

inductive SO where
  | lst (xs : List D)
  | ins (C : Str) (ns : List Str) (xs : List D)
  | tab (q : Str)

abbrev Sd := Addr → Option SO
def upS (S : Sd) (a : Addr) (o : SO) : Sd := fun b => if b = a then some o else S b
def del (S : Sd) (a : Addr) : Sd := fun b => if b = a then none else S b
theorem upS_same {S : Sd} {a : Addr} {o : SO} : upS S a o a = some o := by unfold upS; rw [if_pos rfl]
theorem upS_ne {S : Sd} {a b : Addr} {o : SO} (h : b ≠ a) : upS S a o b = S b := by unfold upS; rw [if_neg h]
theorem upS_upS {S : Sd} {a : Addr} {o u : SO} : upS (upS S a o) a u = upS S a u := by
  funext b; unfold upS; split <;> rfl
theorem del_same {S : Sd} {a : Addr} : del S a a = none := by unfold del; rw [if_pos rfl]
theorem del_ne {S : Sd} {a b : Addr} (h : b ≠ a) : del S a b = S b := by unfold del; rw [if_neg h]
theorem del_upS {S : Sd} {a : Addr} {o : SO} (h : S a = none) : del (upS S a o) a = S := by
  funext b
  by_cases e : b = a
  · rw [e, del_same, h]
  · rw [del_ne e, upS_ne e]

/-- a list of the written part -/
def KL (K : PySem.W.Frag) (a : Addr) (xs : List V) : Prop :=
  ∃ (o : Obj) (its : Array Value) (n : Nat), K.lookup a = some o ∧ o.cls = .type "list" ∧ o.dict = none ∧ o.data = .seq its n ∧ its.size ≤ sizeLine ∧ Vals xs its.toList

/-- the class that a global of the text names -/
def ClsAt (K : PySem.W.Frag) (n : Str) (C : Addr) : Prop := PySem.W.nsIn K mainGlobals n = some (some (.ref C))
theorem ClsAt.one {K : PySem.W.Frag} {n : Str} {C D : Addr} (h : ClsAt K n C) (g : ClsAt K n D) : C = D := by
  unfold ClsAt at h g
  rw [h] at g
  cases g
  rfl
mutual
def Rp (K : PySem.W.Frag) (H : Hp) (S : Sd) : D → V → Prop
  | .non, v => v = .non
  | .bl b, v => v = .bl b
  | .int i, v => v = .int i
  | .str x, v => v = .str x
  | .tup ds, v => ∃ a vs, v = .ref a ∧ SqT K H a vs ∧ RpL K H S ds vs
  | .lst ds, v => ∃ a vs, v = .ref a ∧ ((Rd H a (.lst vs) ∧ S a = none) ∨ KL K a vs) ∧ RpL K H S ds vs
  | .inst n ns ds, v => ∃ C a dx fs, ClsAt K n C ∧ v = .ref a ∧ H a = some (.ins C dx fs) ∧ S a = none ∧ fs.map Prod.fst = ns ∧ RpL K H S ds (fs.map Prod.snd)
  | .tupX ds, v => ∃ a o vs, v = .ref a ∧ H a = some (.frz o (.tup vs)) ∧ o.dict = none ∧ RpL K H S ds vs
  | .obj a, v => v = .ref a
  | .ty n, v => v = .ty n
  | .fn x, v => ∃ f, v = .ref f ∧ PySem.W.nsIn K mainGlobals x = some (some (.ref f))
  | .exc a od ns ds, v => v = .ref a ∧ (od = none → ns = []) ∧ (∀ dx, od = some dx → ∃ fs, H dx = some (.xd fs) ∧ S dx = none ∧ (ns = [] ∨ (fs.map Prod.fst = ns ∧ RpL K H S ds (fs.map Prod.snd))))
def RpL (K : PySem.W.Frag) (H : Hp) (S : Sd) : List D → List V → Prop
  | [], vs => vs = []
  | d :: ds, vs => ∃ v r, vs = v :: r ∧ Rp K H S d v ∧ RpL K H S ds r
end

def SoOk (K : PySem.W.Frag) (H : Hp) (S : Sd) (a : Addr) : SO → Prop
  | .lst ds => ∃ vs, H a = some (.lst vs) ∧ RpL K H S ds vs
  | .ins n ns ds => ∃ C dx fs, ClsAt K n C ∧ H a = some (.ins C dx fs) ∧ fs.map Prod.fst = ns ∧ RpL K H S ds (fs.map Prod.snd)
  | .tab q => LamX.TabS H a q
def RelS (K : PySem.W.Frag) (H : Hp) (S : Sd) : Prop := ∀ a o, S a = some o → SoOk K H S a o
/-- what is not owned stays, and stays not owned -/
def Step (H : Hp) (S : Sd) (H' : Hp) (S' : Sd) : Prop := ∀ a o, H a = some o → S a = none → H' a = some o ∧ S' a = none

section
variable {K : PySem.W.Frag} {H H' H2 : Hp} {S S' S2 : Sd} {a p : Addr} {ds es : List D} {vs ws : List V} {d : D} {v : V}

theorem RelS.some_h (R : RelS K H S) {o : SO} (h : S a = some o) : (∃ vs, H a = some (.lst vs)) ∨ (∃ C dx fs, H a = some (.ins C dx fs)) ∨ ∃ ps, H a = some (.tbl ps) := by
  have x := R a o h
  cases o with
  | lst ds => obtain ⟨vs, e, _⟩ := x; exact .inl ⟨vs, e⟩
  | ins C ns ds => obtain ⟨C, dx, fs, _, e, _⟩ := x; exact .inr (.inl ⟨C, dx, fs, e⟩)
  | tab q => obtain ⟨ps, e, _⟩ := x; exact .inr (.inr ⟨ps, e⟩)
theorem RelS.freeOf (R : RelS K H S) (h1 : ∀ vs, H a ≠ some (.lst vs)) (h2 : ∀ C dx fs, H a ≠ some (.ins C dx fs)) (h3 : ∀ ps, H a ≠ some (.tbl ps)) : S a = none := by
  cases e : S a with
  | none => rfl
  | some o =>
    rcases R.some_h e with ⟨vs, q⟩ | ⟨C, dx, fs, q⟩ | ⟨ps, q⟩
    · exact absurd q (h1 vs)
    · exact absurd q (h2 C dx fs)
    · exact absurd q (h3 ps)
theorem RelS.free (R : RelS K H S) (h : H a = none) : S a = none := R.freeOf (fun _ q => by rw [h] at q; cases q) (fun _ _ _ q => by rw [h] at q; cases q) fun _ q => by rw [h] at q; cases q
theorem RelS.tupFree (R : RelS K H S) (h : H a = some (.tup vs)) : S a = none := R.freeOf (fun _ q => by rw [h] at q; cases q) (fun _ _ _ q => by rw [h] at q; cases q) fun _ q => by rw [h] at q; cases q
theorem RelS.frzFree {o : Obj} {u : HO} (R : RelS K H S) (h : H a = some (.frz o u)) : S a = none := R.freeOf (fun _ q => by rw [h] at q; cases q) (fun _ _ _ q => by rw [h] at q; cases q) fun _ q => by rw [h] at q; cases q
theorem RelS.codeFree {q : Str} (R : RelS K H S) (h : H a = some (LamX.CodeO a q)) : S a = none := R.freeOf (fun _ z => by rw [h] at z; cases z) (fun _ _ _ z => by rw [h] at z; cases z) fun ps z => by rw [h] at z; exact LamX.codeO_ne ps (Option.some.inj z)

theorem Step.refl : Step H S H S := fun _ _ h1 h2 => ⟨h1, h2⟩
theorem Step.trans (s1 : Step H S H' S') (s2 : Step H' S' H2 S2) : Step H S H2 S2 := fun b o h1 h2 =>
  let ⟨q1, q2⟩ := s1 b o h1 h2
  s2 b o q1 q2
theorem step_rdT (R : RelS K H S) (s : Step H S H' S') (h : Rd H a (.tup vs)) : Rd H' a (.tup vs) := by
  rcases h with h | ⟨o, h⟩
  · exact .inl (s a _ h (R.tupFree h)).1
  · exact .inr ⟨o, (s a _ h (R.frzFree h)).1⟩
theorem step_sqT (R : RelS K H S) (s : Step H S H' S') (h : SqT K H a vs) : SqT K H' a vs := by
  rcases h with h | h
  · exact .inl (step_rdT R s h)
  · exact .inr h
theorem step_rdL (s : Step H S H' S') (h : Rd H a (.lst vs)) (n : S a = none) : Rd H' a (.lst vs) ∧ S' a = none := by
  rcases h with h | ⟨o, h⟩
  · exact ⟨.inl (s a _ h n).1, (s a _ h n).2⟩
  · exact ⟨.inr ⟨o, (s a _ h n).1⟩, (s a _ h n).2⟩

mutual
theorem rp_step (R : RelS K H S) (s : Step H S H' S') : ∀ (d : D) (v : V), Rp K H S d v → Rp K H' S' d v
  | .non, v, h => h
  | .bl _, v, h => h
  | .int _, v, h => h
  | .str _, v, h => h
  | .tup ds, v, h => by
    obtain ⟨a, vs, e, q, r⟩ := h
    exact ⟨a, vs, e, step_sqT R s q, rpL_step R s ds vs r⟩
  | .lst ds, v, h => by
    obtain ⟨a, vs, e, q, r⟩ := h
    refine ⟨a, vs, e, ?_, rpL_step R s ds vs r⟩
    rcases q with ⟨q, n⟩ | q
    · exact .inl (step_rdL s q n)
    · exact .inr q
  | .inst C ns ds, v, h => by
    obtain ⟨C, a, dx, fs, c, e, q, n, hn, r⟩ := h
    exact ⟨C, a, dx, fs, c, e, (s a _ q n).1, (s a _ q n).2, hn, rpL_step R s ds _ r⟩
  | .tupX ds, v, h => by
    obtain ⟨a, o, vs, e, q, n, r⟩ := h
    exact ⟨a, o, vs, e, (s a _ q (R.frzFree q)).1, n, rpL_step R s ds vs r⟩
  | .obj _, v, h => h
  | .ty _, v, h => h
  | .fn _, v, h => h
  | .exc a od ns ds, v, h => by
    obtain ⟨e, h0, h1⟩ := h
    refine ⟨e, h0, fun dx ed => ?_⟩
    obtain ⟨fs, q, n, r⟩ := h1 dx ed
    exact ⟨fs, (s dx _ q n).1, (s dx _ q n).2, r.imp id fun ⟨e1, r1⟩ => ⟨e1, rpL_step R s ds _ r1⟩⟩
theorem rpL_step (R : RelS K H S) (s : Step H S H' S') : ∀ (ds : List D) (vs : List V), RpL K H S ds vs → RpL K H' S' ds vs
  | [], vs, h => h
  | d :: ds, vs, h => by
    obtain ⟨v, r, e, h1, h2⟩ := h
    exact ⟨v, r, e, rp_step R s d v h1, rpL_step R s ds r h2⟩
end

theorem rpL_nil : RpL K H S [] [] := rfl
theorem rpL_cons (h : Rp K H S d v) (r : RpL K H S ds vs) : RpL K H S (d :: ds) (v :: vs) := ⟨v, vs, rfl, h, r⟩
theorem rpL_len : ∀ {ds : List D} {vs : List V}, RpL K H S ds vs → ds.length = vs.length
  | [], vs, h => by
    have e : vs = [] := h
    rw [e]; rfl
  | d :: ds, vs, h => by
    obtain ⟨v, r, e, _, h2⟩ := h
    rw [e, List.length_cons, List.length_cons, rpL_len h2]
theorem rpL_get : ∀ {ds : List D} {vs : List V} {i : Nat} {d : D}, RpL K H S ds vs → ds[i]? = some d → ∃ v, vs[i]? = some v ∧ Rp K H S d v
  | [], _, i, d, _, e => by simp at e
  | d0 :: ds, vs, 0, d, h, e => by
    obtain ⟨v, r, e1, h1, h2⟩ := h
    simp at e
    subst e e1
    exact ⟨v, by simp, h1⟩
  | d0 :: ds, vs, i + 1, d, h, e => by
    obtain ⟨v, r, e1, h1, h2⟩ := h
    subst e1
    obtain ⟨w, q1, q2⟩ := rpL_get (i := i) h2 (by simpa using e)
    exact ⟨w, by simpa using q1, q2⟩
theorem rpL_app : ∀ {ds : List D} {vs : List V}, RpL K H S ds vs → RpL K H S es ws → RpL K H S (ds ++ es) (vs ++ ws)
  | [], vs, h, k => by
    have e : vs = [] := h
    subst e
    exact k
  | d :: ds, vs, h, k => by
    obtain ⟨v, r, e, h1, h2⟩ := h
    subst e
    exact ⟨v, r ++ ws, rfl, h1, rpL_app h2 k⟩
theorem rpL_take : ∀ {ds : List D} {vs : List V} (n : Nat), RpL K H S ds vs → RpL K H S (ds.take n) (vs.take n)
  | [], vs, n, h => by
    have e : vs = [] := h
    subst e
    simp [RpL]
  | d :: ds, vs, 0, h => by simp [RpL]
  | d :: ds, vs, n + 1, h => by
    obtain ⟨v, r, e, h1, h2⟩ := h
    subst e
    exact ⟨v, r.take n, rfl, h1, rpL_take n h2⟩
theorem rpL_drop : ∀ {ds : List D} {vs : List V} (n : Nat), RpL K H S ds vs → RpL K H S (ds.drop n) (vs.drop n)
  | [], vs, n, h => by
    have e : vs = [] := h
    subst e
    simp [RpL]
  | d :: ds, vs, 0, h => h
  | d :: ds, vs, n + 1, h => by
    obtain ⟨v, r, e, h1, h2⟩ := h
    subst e
    exact rpL_drop n h2
theorem rpL_set : ∀ {ds : List D} {vs : List V} (n : Nat), RpL K H S ds vs → Rp K H S d v → RpL K H S (ds.set n d) (vs.set n v)
  | [], vs, n, h, k => by
    have e : vs = [] := h
    subst e
    simp [RpL]
  | d0 :: ds, vs, 0, h, k => by
    obtain ⟨w, r, e, h1, h2⟩ := h
    subst e
    exact ⟨v, r, rfl, k, h2⟩
  | d0 :: ds, vs, n + 1, h, k => by
    obtain ⟨w, r, e, h1, h2⟩ := h
    subst e
    exact ⟨w, r.set n v, rfl, h1, rpL_set n h2 k⟩
theorem rpL_rev : ∀ {ds : List D} {vs : List V}, RpL K H S ds vs → RpL K H S ds.reverse vs.reverse
  | [], vs, h => by
    have e : vs = [] := h
    subst e
    simp [RpL]
  | d :: ds, vs, h => by
    obtain ⟨v, r, e, h1, h2⟩ := h
    subst e
    rw [List.reverse_cons, List.reverse_cons]
    exact rpL_app (rpL_rev h2) (rpL_cons h1 rpL_nil)

theorem soOk_step (R : RelS K H S) (s : Step H S H' S') {o : SO} (h : SoOk K H S a o) (k : ∀ u, H a = some u → H' a = some u) : SoOk K H' S' a o := by
  cases o with
  | lst ds => obtain ⟨vs, e, r⟩ := h; exact ⟨vs, k _ e, rpL_step R s _ _ r⟩
  | ins C ns ds => obtain ⟨C, dx, fs, c, e, n, r⟩ := h; exact ⟨C, dx, fs, c, k _ e, n, rpL_step R s _ _ r⟩
  | tab q =>
    obtain ⟨ps, e, t, c⟩ := h
    refine ⟨ps, k _ e, t, fun pos cv hc => ?_⟩
    obtain ⟨c', e1, e2⟩ := c pos cv hc
    exact ⟨c', e1, (s c' _ e2 (R.codeFree e2)).1⟩

/-- a new object, not owned -/
theorem step_new {o : HO} (h : H p = none) : Step H S (upd H p o) S := fun b u h1 h2 => ⟨by rw [upd_ne (ne_of_none h1 h)]; exact h1, h2⟩
theorem rel_new {o : HO} (R : RelS K H S) (h : H p = none) : RelS K (upd H p o) S := fun b u e =>
  soOk_step R (step_new h) (R b u e) fun w hw => by rw [upd_ne (ne_of_none hw h)]; exact hw
/-- a new object, owned -/
theorem step_own {o : HO} {u : SO} (h : H p = none) : Step H S (upd H p o) (upS S p u) := fun b w h1 h2 => by
  have n := ne_of_none h1 h
  exact ⟨by rw [upd_ne n]; exact h1, by rw [upS_ne n]; exact h2⟩
theorem rel_own {o : HO} {u : SO} (R : RelS K H S) (h : H p = none) (k : SoOk K (upd H p o) (upS S p u) p u) : RelS K (upd H p o) (upS S p u) := fun b w e => by
  by_cases hb : b = p
  · subst hb
    rw [upS_same] at e
    cases e
    exact k
  · rw [upS_ne hb] at e
    exact soOk_step R (step_own h) (R b w e) fun x hx => by rw [upd_ne hb]; exact hx
/-- an owned object is changed -/
theorem step_set {o : HO} {u u0 : SO} (h : S a = some u0) : Step H S (upd H a o) (upS S a u) := fun b w h1 h2 => by
  have n : b ≠ a := fun e => by rw [e, h] at h2; cases h2
  exact ⟨by rw [upd_ne n]; exact h1, by rw [upS_ne n]; exact h2⟩
theorem rel_set {o : HO} {u u0 : SO} (R : RelS K H S) (h : S a = some u0) (k : SoOk K (upd H a o) (upS S a u) a u) : RelS K (upd H a o) (upS S a u) := fun b w e => by
  by_cases hb : b = a
  · subst hb
    rw [upS_same] at e
    cases e
    exact k
  · rw [upS_ne hb] at e
    exact soOk_step R (step_set h) (R b w e) fun x hx => by rw [upd_ne hb]; exact hx
/-- an owned object is let go -/
theorem step_del : Step H S H (del S a) := fun b w h1 h2 => ⟨h1, by
  by_cases e : b = a
  · rw [e]; exact del_same
  · rw [del_ne e]; exact h2⟩
theorem rel_del (R : RelS K H S) : RelS K H (del S a) := fun b w e => by
  by_cases hb : b = a
  · rw [hb, del_same] at e; cases e
  · rw [del_ne hb] at e
    exact soOk_step R step_del (R b w e) fun x hx => hx
theorem rp_frozen (R : RelS K H S) (h : S a = some (.lst ds)) : Rp K H (del S a) (.lst ds) (.ref a) := by
  obtain ⟨vs, e, r⟩ := R a _ h
  exact ⟨a, vs, rfl, .inl ⟨.inl e, del_same⟩, rpL_step R step_del _ _ r⟩
theorem rp_frozenI {C : Str} {ns : List Str} (R : RelS K H S) (h : S a = some (.ins C ns ds)) : Rp K H (del S a) (.inst C ns ds) (.ref a) := by
  obtain ⟨C, dx, fs, c, e, n, r⟩ := R a _ h
  exact ⟨C, a, dx, fs, c, rfl, e, del_same, n, rpL_step R step_del _ _ r⟩
end

/-! ### the state by values -/
abbrev Si := List (Option D)
abbrev DK := D → Sd → Prop
abbrev TED := Si → Sd → DK → Prop
abbrev TTD := Si → Sd → (Bool → Sd → Prop) → Prop
abbrev TAD := Si → Sd → (List D → Sd → Prop) → Prop
structure EndsD where
  nx : Si → Sd → Prop
  rt : DK
  bk : Si → Sd → Prop := fun _ _ => False
  ct : Si → Sd → Prop := fun _ _ => False
abbrev TSD := EndsD → Si → Sd → Prop
/-- an exception by values: its class, its own fields -/
structure Xd where
  cls : Str
  ns : List Str
  xs : List D
abbrev XKD := Xd → Sd → Prop
abbrev WXD := Xd → Si → Sd → Prop

structure Ok (K : PySem.W.Frag) (H : Hp) (S : Sd) (fr : List (V × D)) (σd : Si) (σ : L2.St) : Prop where
  rel : RelS K H S
  fr : ∀ p ∈ fr, Rp K H S p.2 p.1
  len : σd.length = σ.length
  si : ∀ (i : Nat) (d : D), σd[i]? = some (some d) → ∃ v, σ[i]? = some (some v) ∧ Rp K H S d v
/-- the exception's object: its class by the module's name, its own dict bears its fields -/
def RpX (K : PySem.W.Frag) (H : Hp) (S : Sd) (x : Xd) (cls : Value) (od : Option Addr) : Prop :=
  PySem.W.nsIn K mainGlobals x.cls = some (some cls) ∧ (od = none → x.ns = []) ∧ (∀ dx, od = some dx → ∃ fs, H dx = some (.xd fs) ∧ S dx = none ∧ (x.ns = [] ∨ (fs.map Prod.fst = x.ns ∧ RpL K H S x.xs (fs.map Prod.snd))))
/-- what is wished of exceptions: by the heap, by values -/
structure Wi where
  V : L2.WX
  D : WXD
abbrev W0 : Wi := ⟨fun _ _ _ _ => False, fun _ _ _ => False⟩
def Cl (K : PySem.W.Frag) (W : Wi) (fr : List (V × D)) : Prop := ∀ σd σ H S cls od x, Ok K H S fr σd σ → RpX K H S x cls od → W.D x σd S → W.V cls od σ H
theorem Cl.zero {K : PySem.W.Frag} {fr : List (V × D)} : Cl K W0 fr := fun _ _ _ _ _ _ _ _ _ h => h

section
variable {K : PySem.W.Frag} {H H' : Hp} {S S' : Sd} {fr : List (V × D)} {σd : Si} {σ : L2.St} {d : D} {v : V} {W : Wi}
theorem Ok.step (o : Ok K H S fr σd σ) (s : Step H S H' S') (r : RelS K H' S') : Ok K H' S' fr σd σ :=
  ⟨r, fun p hp => rp_step o.rel s _ _ (o.fr p hp), o.len, fun i d e => let ⟨v, h1, h2⟩ := o.si i d e; ⟨v, h1, rp_step o.rel s _ _ h2⟩⟩
theorem Ok.cons (o : Ok K H S fr σd σ) (h : Rp K H S d v) : Ok K H S ((v, d) :: fr) σd σ :=
  ⟨o.rel, fun p hp => by
    rcases List.mem_cons.mp hp with e | hp
    · rw [e]; exact h
    · exact o.fr p hp, o.len, o.si⟩
theorem Ok.tail {q : V × D} (o : Ok K H S (q :: fr) σd σ) : Ok K H S fr σd σ := ⟨o.rel, fun p hp => o.fr p (List.mem_cons_of_mem _ hp), o.len, o.si⟩
theorem Ok.head {q : V × D} (o : Ok K H S (q :: fr) σd σ) : Rp K H S q.2 q.1 := o.fr q List.mem_cons_self
theorem Ok.set (o : Ok K H S fr σd σ) (h : Rp K H S d v) (i : Nat) : Ok K H S fr (σd.set i (some d)) (σ.set i (some v)) := by
  refine ⟨o.rel, o.fr, by rw [List.length_set, List.length_set]; exact o.len, fun j e q => ?_⟩
  by_cases hj : i = j
  · subst hj
    have hl : i < σd.length := by
      rcases Nat.lt_or_ge i σd.length with z | z
      · exact z
      · have w : (σd.set i (some d))[i]? = none := List.getElem?_eq_none (by rw [List.length_set]; exact z)
        rw [w] at q; cases q
    rw [List.getElem?_set_self hl] at q
    cases q
    exact ⟨v, List.getElem?_set_self (by rw [← o.len]; exact hl), h⟩
  · rw [List.getElem?_set_ne hj] at q
    obtain ⟨w, h1, h2⟩ := o.si j e q
    exact ⟨w, by rw [List.getElem?_set_ne hj]; exact h1, h2⟩
theorem Ok.gone (o : Ok K H S fr σd σ) (i : Nat) (w : Option V) : Ok K H S fr (σd.set i none) (σ.set i w) := by
  refine ⟨o.rel, o.fr, by rw [List.length_set, List.length_set]; exact o.len, fun j e q => ?_⟩
  by_cases hj : i = j
  · subst hj
    rcases Nat.lt_or_ge i σd.length with z | z
    · rw [List.getElem?_set_self z] at q; cases q
    · have w : (σd.set i none)[i]? = none := List.getElem?_eq_none (by rw [List.length_set]; exact z)
      rw [w] at q; cases q
  · rw [List.getElem?_set_ne hj] at q
    obtain ⟨w, h1, h2⟩ := o.si j e q
    exact ⟨w, by rw [List.getElem?_set_ne hj]; exact h1, h2⟩
theorem Cl.tail {q : V × D} (c : Cl K W fr) : Cl K W (q :: fr) := fun σd σ H S cls od x o => c σd σ H S cls od x o.tail

/-! ### readings by values, lifted -/
def upE (K : PySem.W.Frag) (W : Wi) (t : TED) : TE := fun σ H Qv => ∃ σd S fr Qd, Ok K H S fr σd σ ∧ Cl K W fr ∧ t σd S Qd ∧ ∀ v d H' S', Ok K H' S' fr σd σ → Rp K H' S' d v → Qd d S' → Qv v H'
def upT (K : PySem.W.Frag) (W : Wi) (t : TTD) : TT := fun σ H Qv => ∃ σd S fr Qd, Ok K H S fr σd σ ∧ Cl K W fr ∧ t σd S Qd ∧ ∀ b H' S', Ok K H' S' fr σd σ → Qd b S' → Qv b H'
def upA (K : PySem.W.Frag) (W : Wi) (t : TAD) : TA := fun σ H Qv => ∃ σd S fr Qd, Ok K H S fr σd σ ∧ Cl K W fr ∧ t σd S Qd ∧ ∀ vs ds H' S', Ok K H' S' fr σd σ → RpL K H' S' ds vs → Qd ds S' → Qv vs H'
structure EndOk (K : PySem.W.Frag) (fr : List (V × D)) (Dd : EndsD) (D : Ends) : Prop where
  nx : ∀ σd σ H S, Ok K H S fr σd σ → Dd.nx σd S → D.nx σ H
  rt : ∀ v d σd σ H S, Ok K H S fr σd σ → Rp K H S d v → Dd.rt d S → D.rt v H
  bk : ∀ σd σ H S, Ok K H S fr σd σ → Dd.bk σd S → D.bk σ H
  ct : ∀ σd σ H S, Ok K H S fr σd σ → Dd.ct σd S → D.ct σ H
def upSt (K : PySem.W.Frag) (W : Wi) (t : TSD) : TS := fun D σ H => ∃ σd S fr Dd, Ok K H S fr σd σ ∧ Cl K W fr ∧ t Dd σd S ∧ EndOk K fr Dd D
end

theorem PE.imp {X : Cx} {e : Expr} {t t' : TE} (h : PE X e t) (k : ∀ σ H Q, t' σ H Q → t σ H Q) : PE X e t' := ⟨fun pins s σ H Q I q => h.run pins s σ H Q I (k _ _ _ q)⟩
theorem PT.imp {X : Cx} {e : Expr} {t t' : TT} (h : PT X e t) (k : ∀ σ H Q, t' σ H Q → t σ H Q) : PT X e t' := ⟨fun pins s σ H Q I q => h.run pins s σ H Q I (k _ _ _ q)⟩
theorem PW.imp {X : Cx} {e : Expr} {t t' : TT} (h : PW X e t) (k : ∀ σ H Q, t' σ H Q → t σ H Q) : PW X e t' := ⟨fun wh pins s σ H Q I q => h.run wh pins s σ H Q I (k _ _ _ q)⟩
theorem PA.imp {X : Cx} {e : List Expr} {t t' : TA} (h : PA X e t) (k : ∀ σ H Q, t' σ H Q → t σ H Q) : PA X e t' := ⟨fun pos pins s σ H Q I q => h.run pos pins s σ H Q I (k _ _ _ q)⟩
theorem PS.imp {X : Cx} {e : Stmt} {t t' : TS} (h : PS X e t) (k : ∀ D σ H, t' D σ H → t D σ H) : PS X e t' := ⟨fun pins s σ H D I q => h.run pins s σ H D I (k _ _ _ q)⟩
theorem PSs.imp {X : Cx} {e : List Stmt} {t t' : TS} (h : PSs X e t) (k : ∀ D σ H, t' D σ H → t D σ H) : PSs X e t' := ⟨fun pins s σ H D I q => h.run pins s σ H D I (k _ _ _ q)⟩

structure DE (X : Cx) (W : Wi) (e : Expr) (t : TED) : Prop where
  p : PE X e (upE X.K W t)
structure DT (X : Cx) (W : Wi) (e : Expr) (t : TTD) : Prop where
  p : PT X e (upT X.K W t)
structure DW (X : Cx) (W : Wi) (e : Expr) (t : TTD) : Prop where
  p : PW X e (upT X.K W t)
structure DA (X : Cx) (W : Wi) (es : List Expr) (t : TAD) : Prop where
  p : PA X es (upA X.K W t)
structure DS (X : Cx) (W : Wi) (s : Stmt) (t : TSD) : Prop where
  p : PS X s (upSt X.K W t)
structure DB (X : Cx) (W : Wi) (s : List Stmt) (t : TSD) : Prop where
  p : PSs X s (upSt X.K W t)
end Dv

/-! Readings by value, 1: expressions, tests, operators, displays, subscripts. -/
namespace Dv
open PySem L2 PyProof.Rows

theorem sl_eq : sizeLine = 16777216 := sizeLine_eq
theorem sz_le {n : Nat} (h : n ≤ 16777216) : n ≤ sizeLine := by rw [sl_eq]; exact h
theorem sz_lt' {n : Nat} (h : n < 16777216) : n < sizeLine := by rw [sl_eq]; exact h

section
variable {X : Cx} {W : Wi} {a b c e : Expr} {ta tb tc : TED} {tA tB : TTD} {pos : Pos} {es : List Expr}

/-! ### names, constants -/
def dVar (i : Nat) : TED := fun σ S Q => match σ[i]? with
  | some (some d) => Q d S
  | _ => False
theorem dVar_of {i : Nat} {σ : Si} {S : Sd} {Q : DK} {d : D} (h : σ[i]? = some (some d)) : dVar i σ S Q = Q d S := by unfold dVar; rw [h]
theorem dVar_inv {i : Nat} {σ : Si} {S : Sd} {Q : DK} (h : dVar i σ S Q) : ∃ d, σ[i]? = some (some d) ∧ Q d S := by
  unfold dVar at h
  split at h
  · exact ⟨_, by assumption, h⟩
  · exact h.elim
theorem dv (i : Nat) {x : Str} {pos : Pos} (hN : X.N[i]? = some x := by rfl) (hv : Vis X.env.scope x := by first | exact Or.inl rfl | exact Or.inr (Or.inl rfl) | exact Or.inr (Or.inr rfl)) (hd : (x == ("__debug__" : Str)) = false := by decide)
    (hcd : (x == ("__classdict__" : Str)) = false := by decide) : DE X W (.Name x pos) (dVar i) :=
  ⟨PE.imp (pe_var hN hv hd hcd) fun σ H Q ⟨σd, S, fr, Qd, ok, cl, h, k⟩ => by
    obtain ⟨d, e, q⟩ := dVar_inv h
    obtain ⟨v, e2, r⟩ := ok.si i d e
    exact ⟨v, e2, k v d H S ok r q⟩⟩
def dC (d : D) : TED := fun _ S Q => Q d S
theorem de_c {v : V} {d : D} (h : PE X e (tC v)) (r : ∀ H S, Rp X.K H S d v) : DE X W e (dC d) :=
  ⟨PE.imp h fun σ H Q ⟨σd, S, fr, Qd, ok, cl, q, k⟩ => k v d H S ok (r H S) q⟩
theorem de_int {i j pos} : DE X W (.Constant (.int i) j pos) (dC (.int i)) := de_c pe_int fun _ _ => rfl
theorem de_bl {i j pos} : DE X W (.Constant (.bool i) j pos) (dC (.bl i)) := de_c pe_bl fun _ _ => rfl
theorem de_non {j pos} : DE X W (.Constant .none j pos) (dC .non) := de_c pe_non fun _ _ => rfl
theorem de_str {x j pos} : DE X W (.Constant (.str x) j pos) (dC (.str x)) := de_c pe_str fun _ _ => rfl
/-- a module's constant -/
theorem de_k {x : Str} {v : V} {d : D} {u : Value} {pos : Pos} (hg : Gl X x) (hm : X.mg x = some u) (r : RelV v u) (kr : ∀ H S, Rp X.K H S d v) (hd : (x == ("__debug__" : Str)) = false := by decide) : DE X W (.Name x pos) (dC d) := de_c (pe_glob hg hm r hd) kr
/-- a built-in class as a value -/
theorem de_ty {x : Str} {n : String} {pos : Pos} (hg : Gl X x) (hm : X.mg x = none) (hv : bootBuiltins x = some (.type n)) (hn : x ≠ "__name__" := by decide) (hd : (x == ("__debug__" : Str)) = false := by decide) : DE X W (.Name x pos) (dC (.ty n)) :=
  de_c (pe_bltn (v := .ty n) hg hm hv rfl hn hd) fun _ _ => rfl

/-! ### operators -/
abbrev RD2 := D → D → Sd → DK → Prop
def Lift2 (K : PySem.W.Frag) (r : R2) (rd : RD2) : Prop := ∀ H S fr σd σ x y dx dy Qv Qd, Ok K H S fr σd σ → Rp K H S dx x → Rp K H S dy y → rd dx dy S Qd →
  (∀ v d H' S', Ok K H' S' fr σd σ → Rp K H' S' d v → Qd d S' → Qv v H') → r x y H Qv
def OpD (X : Cx) (f : Value → Value → Sem Value) (rd : RD2) : Prop := ∃ r : R2, OpR X f r ∧ Lift2 X.K r rd
def dOp (rd : RD2) (ta tb : TED) : TED := fun σ S Q => ta σ S fun x S1 => tb σ S1 fun y S2 => rd x y S2 Q
theorem op2_lift {r : R2} {rd : RD2} (l : Lift2 X.K r rd) (σ : L2.St) (H : Hp) (Q : VK) (h : upE X.K W (dOp rd ta tb) σ H Q) : tOp r (upE X.K W ta) (upE X.K W tb) σ H Q := by
  obtain ⟨σd, S, fr, Qd, ok, cl, h, k⟩ := h
  refine ⟨σd, S, fr, _, ok, cl, h, fun x dx H1 S1 ok1 r1 h1 => ?_⟩
  refine ⟨σd, S1, (x, dx) :: fr, _, ok1.cons r1, cl.tail, h1, fun y dy H2 S2 ok2 r2 h2 => ?_⟩
  exact l H2 S2 fr σd σ x y dx dy Q Qd ok2.tail ok2.head r2 h2 k
theorem de_op {op : Operator} {rd : RD2} (ho : OpD X (binaryOp op) rd) (ha : DE X W a ta) (hb : DE X W b tb) : DE X W (.BinOp a op b pos) (dOp rd ta tb) := by
  obtain ⟨r, ho, l⟩ := ho
  exact ⟨PE.imp (pe_op ho ha.p hb.p) (op2_lift l)⟩
theorem de_cmp {op : CmpOp} {rd : RD2} (ho : OpD X (compareOp op) rd) (ha : DE X W a ta) (hb : DE X W b tb) (hm : behindInMarks op b = false) : DE X W (.Compare a [op] [b] pos) (dOp rd ta tb) := by
  obtain ⟨r, ho, l⟩ := ho
  exact ⟨PE.imp (pe_cmpR ho ha.p hb.p hm) (op2_lift l)⟩
/-- a value that is a truth, as a test -/
def dTest (t : TED) : TTD := fun σ S Q => t σ S fun x S1 => match x with
  | .bl k => Q k S1
  | _ => False
theorem test_lift {t : TED} (σ : L2.St) (H : Hp) (Q : Bool → Hp → Prop) (h : upT X.K W (dTest t) σ H Q) : tTest (upE X.K W t) σ H Q := by
  obtain ⟨σd, S, fr, Qd, ok, cl, h, k⟩ := h
  refine ⟨σd, S, fr, _, ok, cl, h, fun x dx H1 S1 ok1 r1 h1 => ?_⟩
  cases dx with
  | bl b => exact ⟨b, r1, k b H1 S1 ok1 h1⟩
  | _ => exact (show False from h1).elim
theorem tTest_mono {t t' : TE} (h : ∀ σ H Q, t' σ H Q → t σ H Q) (σ : L2.St) (H : Hp) (Q : Bool → Hp → Prop) (q : tTest t' σ H Q) : tTest t σ H Q := h σ H _ q
theorem dt_cmp {op : CmpOp} {rd : RD2} (ho : OpD X (compareOp op) rd) (ha : DE X W a ta) (hb : DE X W b tb) (hm : behindInMarks op b = false) : DT X W (.Compare a [op] [b] pos) (dTest (dOp rd ta tb)) := by
  obtain ⟨r, ho, l⟩ := ho
  exact ⟨PT.imp (pt_cmpR ho ha.p hb.p hm) fun σ H Q h => tTest_mono (op2_lift l) σ H Q (test_lift σ H Q h)⟩
/-- an expression whose value is a truth, as a test -/
theorem dt_val {t : TED} (h : DE X W e t) (he : ∀ whole, isTrue e X.env whole = (do let v ← whole; standAt e.pos; holding [v] (truthy v)) := by intro _; rfl) : DT X W e (dTest t) :=
  ⟨PT.imp (pt_val h.p he) fun σ H Q q => test_lift σ H Q q⟩
def dUn (rd : D → Sd → DK → Prop) (ta : TED) : TED := fun σ S Q => ta σ S fun x S1 => rd x S1 Q
def Lift1 (K : PySem.W.Frag) (r : V → Hp → VK → Prop) (rd : D → Sd → DK → Prop) : Prop := ∀ H S fr σd σ x dx Qv Qd, Ok K H S fr σd σ → Rp K H S dx x → rd dx S Qd →
  (∀ v d H' S', Ok K H' S' fr σd σ → Rp K H' S' d v → Qd d S' → Qv v H') → r x H Qv
theorem de_un {op : UnaryOp} {r : V → Hp → VK → Prop} {rd : D → Sd → DK → Prop} (ho : UnR X (unaryOp op) r) (l : Lift1 X.K r rd) (ha : DE X W a ta) : DE X W (.UnaryOp op a pos) (dUn rd ta) :=
  ⟨PE.imp (pe_un ho ha.p) fun σ H Q ⟨σd, S, fr, Qd, ok, cl, h, k⟩ => ⟨σd, S, fr, _, ok, cl, h, fun x dx H1 S1 ok1 r1 h1 => l H1 S1 fr σd σ x dx Q Qd ok1 r1 h1 k⟩⟩
def rdNeg : D → Sd → DK → Prop
  | .int i, S, Q => Q (.int (-i)) S
  | _, _, _ => False
theorem de_neg (ha : DE X W a ta) : DE X W (.UnaryOp .USub a pos) (dUn rdNeg ta) := de_un un_neg (fun H S fr σd σ x dx Qv Qd ok r h k => by
  cases dx with
  | int i => exact ⟨i, r, k _ (.int (-i)) H S ok rfl h⟩
  | _ => exact (show False from h).elim) ha

/-! ### and, or, not -/
def dAndV (ta tb : TED) : TED := fun σ S Q => ta σ S fun x S1 => match x with
  | .bl k => if k = true then tb σ S1 Q else Q (.bl false) S1
  | _ => False
def dOrV (ta tb : TED) : TED := fun σ S Q => ta σ S fun x S1 => match x with
  | .bl k => if k = true then Q (.bl true) S1 else tb σ S1 Q
  | _ => False
def dNotV (ta : TED) : TED := fun σ S Q => ta σ S fun x S1 => match x with
  | .bl k => Q (.bl (!k)) S1
  | _ => False
theorem de_one {op : BoolOp} (h : DE X W a ta) : DE X W (.BoolOp op [a] pos) ta := ⟨pe_one h.p⟩
theorem de_and {rest : List Expr} (ha : DE X W a ta) (hb : DE X W (.BoolOp .And (b :: rest) pos) tb) : DE X W (.BoolOp .And (a :: b :: rest) pos) (dAndV ta tb) :=
  ⟨PE.imp (pe_and ha.p hb.p) fun σ H Q ⟨σd, S, fr, Qd, ok, cl, h, k⟩ => ⟨σd, S, fr, _, ok, cl, h, fun x dx H1 S1 ok1 r1 h1 => by
    cases dx with
    | bl b =>
      refine ⟨b, r1, ?_⟩
      cases b with
      | true => exact (if_pos rfl : _ = _) ▸ ⟨σd, S1, fr, Qd, ok1, cl, (show tb σd S1 Qd from by simpa using h1), k⟩
      | false => exact (show Q (.bl false) H1 from k _ (.bl false) H1 S1 ok1 rfl (by simpa using h1))
    | _ => exact (show False from h1).elim⟩⟩
theorem de_not (ha : DE X W a ta) : DE X W (.UnaryOp .Not a pos) (dNotV ta) :=
  ⟨PE.imp (pe_not ha.p) fun σ H Q ⟨σd, S, fr, Qd, ok, cl, h, k⟩ => ⟨σd, S, fr, _, ok, cl, h, fun x dx H1 S1 ok1 r1 h1 => by
    cases dx with
    | bl b => exact ⟨b, r1, k _ (.bl (!b)) H1 S1 ok1 rfl h1⟩
    | _ => exact (show False from h1).elim⟩⟩
def dAnd (t u : TTD) : TTD := fun σ S Q => t σ S fun k S1 => if k = true then u σ S1 Q else Q false S1
def dOr (t u : TTD) : TTD := fun σ S Q => t σ S fun k S1 => if k = true then Q true S1 else u σ S1 Q
def dNot (t : TTD) : TTD := fun σ S Q => t σ S fun k S1 => Q (!k) S1
theorem DW.pt (h : DW X W e tA) : DT X W e tA := ⟨h.p.pt⟩
theorem dw_and1 (ha : DT X W a tA) : DW X W (.BoolOp .And [a] pos) tA := ⟨pw_and1 ha.p⟩
theorem dw_or1 (ha : DT X W a tA) : DW X W (.BoolOp .Or [a] pos) tA := ⟨pw_or1 ha.p⟩
theorem dw_and {rest : List Expr} (ha : DT X W a tA) (hb : DW X W (.BoolOp .And (b :: rest) pos) tB) : DW X W (.BoolOp .And (a :: b :: rest) pos) (dAnd tA tB) :=
  ⟨PW.imp (pw_and ha.p hb.p) fun σ H Q ⟨σd, S, fr, Qd, ok, cl, h, k⟩ => ⟨σd, S, fr, _, ok, cl, h, fun c H1 S1 ok1 h1 => by
    cases c with
    | true => exact (show upT X.K W tB σ H1 Q from ⟨σd, S1, fr, Qd, ok1, cl, (show tB σd S1 Qd from by simpa using h1), k⟩)
    | false => exact (show Q false H1 from k false H1 S1 ok1 (by simpa using h1))⟩⟩
theorem dw_or {rest : List Expr} (ha : DT X W a tA) (hb : DW X W (.BoolOp .Or (b :: rest) pos) tB) : DW X W (.BoolOp .Or (a :: b :: rest) pos) (dOr tA tB) :=
  ⟨PW.imp (pw_or ha.p hb.p) fun σ H Q ⟨σd, S, fr, Qd, ok, cl, h, k⟩ => ⟨σd, S, fr, _, ok, cl, h, fun c H1 S1 ok1 h1 => by
    cases c with
    | false => exact (show upT X.K W tB σ H1 Q from ⟨σd, S1, fr, Qd, ok1, cl, (show tB σd S1 Qd from by simpa using h1), k⟩)
    | true => exact (show Q true H1 from k true H1 S1 ok1 (by simpa using h1))⟩⟩
theorem dt_not (ha : DT X W a tA) : DT X W (.UnaryOp .Not a pos) (dNot tA) :=
  ⟨PT.imp (pt_not ha.p) fun σ H Q ⟨σd, S, fr, Qd, ok, cl, h, k⟩ => ⟨σd, S, fr, _, ok, cl, h, fun c H1 S1 ok1 h1 => k (!c) H1 S1 ok1 h1⟩⟩
def dIf (t : TTD) (ta tb : TED) : TED := fun σ S Q => t σ S fun k S1 => if k = true then ta σ S1 Q else tb σ S1 Q
/-! ### arguments, displays -/
def dNil : TAD := fun _ S Q => Q [] S
def dCons (ta : TED) (tr : TAD) : TAD := fun σ S Q => ta σ S fun x S1 => tr σ S1 fun xs S2 => Q (x :: xs) S2
theorem da_nil : DA X W [] dNil := ⟨PA.imp pa_nil fun σ H Q ⟨σd, S, fr, Qd, ok, cl, h, k⟩ => k [] [] H S ok rfl h⟩
theorem da_cons {tr : TAD} (ha : DE X W a ta) (hr : DA X W es tr) (hs : starEach (a :: es) X.env = (false, eval a X.env) :: starEach es X.env := by rfl) : DA X W (a :: es) (dCons ta tr) :=
  ⟨PA.imp (pa_cons ha.p hr.p hs) fun σ H Q ⟨σd, S, fr, Qd, ok, cl, h, k⟩ => ⟨σd, S, fr, _, ok, cl, h, fun x dx H1 S1 ok1 r1 h1 =>
    ⟨σd, S1, (x, dx) :: fr, _, ok1.cons r1, cl.tail, h1, fun vs ds H2 S2 ok2 r2 h2 => k (x :: vs) (dx :: ds) H2 S2 ok2.tail (rpL_cons ok2.head r2) h2⟩⟩⟩
def dTup (t : TAD) : TED := fun σ S Q => t σ S fun ds S1 => ds.length ≤ 16777216 ∧ Q (.tup ds) S1
def dLst (t : TAD) : TED := fun σ S Q => t σ S fun ds S1 => ds.length ≤ 16777216 ∧ Q (.lst ds) S1
/-- an owned list -/
def dLstO (t : TAD) : TED := fun σ S Q => t σ S fun ds S1 => ds.length ≤ 16777216 ∧ ∀ p, S1 p = none → Q (.obj p) (upS S1 p (.lst ds))
theorem rp_tupNew {K : PySem.W.Frag} {H : Hp} {S : Sd} {p : Addr} {vs : List V} {ds : List D} (R : RelS K H S) (hp : H p = none) (r : RpL K H S ds vs) : Rp K (upd H p (.tup vs)) S (.tup ds) (.ref p) :=
  ⟨p, vs, rfl, SqT.of upd_same, rpL_step R (step_new hp) _ _ r⟩
theorem rp_lstNew {K : PySem.W.Frag} {H : Hp} {S : Sd} {p : Addr} {vs : List V} {ds : List D} (R : RelS K H S) (hp : H p = none) (r : RpL K H S ds vs) : Rp K (upd H p (.lst vs)) S (.lst ds) (.ref p) :=
  ⟨p, vs, rfl, .inl ⟨.inl upd_same, R.free hp⟩, rpL_step R (step_new hp) _ _ r⟩
theorem Ok.new {K : PySem.W.Frag} {H : Hp} {S : Sd} {fr : List (V × D)} {σd : Si} {σ : L2.St} {p : Addr} {o : HO} (ok : Ok K H S fr σd σ) (hp : H p = none) : Ok K (upd H p o) S fr σd σ := ok.step (step_new hp) (rel_new ok.rel hp)
theorem soOk_new {K : PySem.W.Frag} {H : Hp} {S : Sd} {p : Addr} {vs : List V} {ds : List D} (R : RelS K H S) (hp : H p = none) (r : RpL K H S ds vs) : SoOk K (upd H p (.lst vs)) (upS S p (.lst ds)) p (.lst ds) :=
  ⟨vs, upd_same, rpL_step R (step_own hp) _ _ r⟩
theorem Ok.own {K : PySem.W.Frag} {H : Hp} {S : Sd} {fr : List (V × D)} {σd : Si} {σ : L2.St} {p : Addr} {vs : List V} {ds : List D} (ok : Ok K H S fr σd σ) (hp : H p = none) (r : RpL K H S ds vs) :
    Ok K (upd H p (.lst vs)) (upS S p (.lst ds)) fr σd σ := ok.step (step_own hp) (rel_own ok.rel hp (soOk_new ok.rel hp r))
theorem de_tup {x1 : Nat} {t : TAD} (h : DA X W es t) : DE X W (.Tuple es x1 pos) (dTup t) :=
  ⟨PE.imp (pe_tup h.p) fun σ H Q ⟨σd, S, fr, Qd, ok, cl, h, k⟩ => ⟨σd, S, fr, _, ok, cl, h, fun vs ds H1 S1 ok1 r1 h1 => ⟨sz_le (by rw [← rpL_len r1]; exact h1.1), fun p hp =>
    k (.ref p) (.tup ds) _ S1 (ok1.new hp) (rp_tupNew ok1.rel hp r1) h1.2⟩⟩⟩
theorem de_lst {t : TAD} (h : DA X W es t) : DE X W (.List es pos) (dLst t) :=
  ⟨PE.imp (pe_lst h.p) fun σ H Q ⟨σd, S, fr, Qd, ok, cl, h, k⟩ => ⟨σd, S, fr, _, ok, cl, h, fun vs ds H1 S1 ok1 r1 h1 => ⟨sz_le (by rw [← rpL_len r1]; exact h1.1), fun p hp =>
    k (.ref p) (.lst ds) _ S1 (ok1.new hp) (rp_lstNew ok1.rel hp r1) h1.2⟩⟩⟩
theorem de_lstO {t : TAD} (h : DA X W es t) : DE X W (.List es pos) (dLstO t) :=
  ⟨PE.imp (pe_lst h.p) fun σ H Q ⟨σd, S, fr, Qd, ok, cl, h, k⟩ => ⟨σd, S, fr, _, ok, cl, h, fun vs ds H1 S1 ok1 r1 h1 => ⟨sz_le (by rw [← rpL_len r1]; exact h1.1), fun p hp =>
    k (.ref p) (.obj p) _ (upS S1 p (.lst ds)) (ok1.own hp r1) rfl (h1.2 p (ok1.rel.free hp))⟩⟩⟩
end

/-! ### the arithmetic operators -/
/-- the items of a sequence -/
def itemsD (S : Sd) : D → Option (List D)
  | .tup ds => some ds
  | .lst ds => some ds
  | .obj a => match S a with
    | some (.lst ds) => some ds
    | _ => none
  | _ => none
section
variable {K : PySem.W.Frag} {H : Hp} {S : Sd} {fr : List (V × D)} {σd : Si} {σ : L2.St} {d : D} {v : V} {ds : List D}
/-- a list's items by the heap -/
theorem rp_list (R : RelS K H S) (h : Rp K H S (.lst ds) v) : ∃ a vs, v = .ref a ∧ SqL K H a vs ∧ RpL K H S ds vs := by
  obtain ⟨a, vs, e, q, r⟩ := h
  refine ⟨a, vs, e, ?_, r⟩
  rcases q with ⟨q, _⟩ | q
  · exact .inl q
  · exact .inr q
theorem rp_obj (R : RelS K H S) {a : Addr} (e : S a = some (.lst ds)) : ∃ vs, H a = some (.lst vs) ∧ RpL K H S ds vs := R a _ e
theorem rp_items (R : RelS K H S) (h : Rp K H S d v) (e : itemsD S d = some ds) : ∃ a vs, v = .ref a ∧ (SqL K H a vs ∨ SqT K H a vs) ∧ RpL K H S ds vs := by
  cases d with
  | tup xs =>
    cases e
    obtain ⟨a, vs, e, q, r⟩ := h
    exact ⟨a, vs, e, .inr q, r⟩
  | lst xs =>
    cases e
    obtain ⟨a, vs, e, q, r⟩ := rp_list R h
    exact ⟨a, vs, e, .inl q, r⟩
  | obj a =>
    have e' : (match S a with | some (.lst ds) => some ds | _ => none) = some ds := e
    split at e'
    · rename_i xs q
      cases e'
      obtain ⟨vs, q1, q2⟩ := rp_obj R q
      exact ⟨a, vs, h, .inl (.inl (.inl q1)), q2⟩
    · cases e'
  | _ => cases e
end

/-- the items of a list -/
def lstD (S : Sd) : D → Option (List D)
  | .lst ds => some ds
  | .obj a => match S a with
    | some (.lst ds) => some ds
    | _ => none
  | _ => none
theorem rp_lstD {K : PySem.W.Frag} {H : Hp} {S : Sd} {d : D} {v : V} {ds : List D} (R : RelS K H S) (h : Rp K H S d v) (e : lstD S d = some ds) : ∃ a vs, v = .ref a ∧ SqL K H a vs ∧ RpL K H S ds vs := by
  cases d with
  | lst xs =>
    cases e
    exact rp_list R h
  | obj a =>
    have e' : (match S a with | some (.lst ds) => some ds | _ => none) = some ds := e
    split at e'
    · rename_i xs q
      cases e'
      obtain ⟨vs, q1, q2⟩ := rp_obj R q
      exact ⟨a, vs, h, .inl (.inl q1), q2⟩
    · cases e'
  | _ => cases e
def catD (Q : DK) (S : Sd) : Option (List D) → Option (List D) → Prop
  | some a, some b => a.length + b.length ≤ 16777216 ∧ Q (.lst (a ++ b)) S
  | _, _ => False
theorem catD_inv {Q : DK} {S : Sd} : ∀ {o u : Option (List D)}, catD Q S o u → ∃ a b, o = some a ∧ u = some b ∧ a.length + b.length ≤ 16777216 ∧ Q (.lst (a ++ b)) S
  | some a, some b, h => ⟨a, b, rfl, rfl, h.1, h.2⟩
  | none, _, h => h.elim
  | some _, none, h => h.elim
def rdAdd : RD2 := fun x y S Q => match x, y with
  | .int i, .int j => Q (.int (i + j)) S
  | .int i, .bl k => Q (.int (i + b2i k)) S
  | .str x, .str y => x.length + y.length ≤ 16777216 ∧ Q (.str (x ++ y)) S
  | .tup x, .tup y => x.length + y.length ≤ 16777216 ∧ Q (.tup (x ++ y)) S
  | x, y => catD Q S (lstD S x) (lstD S y)
def rdSub : RD2
  | .int i, .int j, S, Q => Q (.int (i - j)) S
  | _, _, _, _ => False
def rdFdiv : RD2
  | .int i, .int j, S, Q => (j ≠ 0 ∧ j.natAbs.log2 < 9000) ∧ Q (.int (i.fdiv j)) S
  | _, _, _, _ => False
def rdMod : RD2
  | .int i, .int j, S, Q => j ≠ 0 ∧ Q (.int (i.fmod j)) S
  | _, _, _, _ => False
def rdPow : RD2
  | .int i, .int j, S, Q => (0 ≤ j ∧ ((i.natAbs.log2 : Int) + 1) * j ≤ 134217728) ∧ Q (.int (i ^ j.toNat)) S
  | _, _, _, _ => False
section
variable {X : Cx}
theorem od_sub : OpD X (binaryOp .Sub) rdSub := ⟨_, op_sub, fun H S fr σd σ x y dx dy Qv Qd ok rx ry h k => by
  cases dx with
  | int i =>
    cases dy with
    | int j => exact ⟨i, j, rx, ry, k _ (.int (i - j)) H S ok rfl h⟩
    | _ => exact (show False from h).elim
  | _ => cases dy <;> exact (show False from h).elim⟩
theorem od_fdiv : OpD X (binaryOp .FloorDiv) rdFdiv := ⟨rI (fun _ j => j ≠ 0 ∧ j.natAbs.log2 < 9000) fun i j => .int (i.fdiv j), opI (fun i j t u s Q E hc q => floordiv_int hc.1 q (.inl (PyProof.noPylong_of_log2 hc.2))), fun H S fr σd σ x y dx dy Qv Qd ok rx ry h k => by
  cases dx with
  | int i =>
    cases dy with
    | int j => exact ⟨i, j, rx, ry, h.1, k _ (.int (i.fdiv j)) H S ok rfl h.2⟩
    | _ => exact (show False from h).elim
  | _ => cases dy <;> exact (show False from h).elim⟩
theorem od_mod : OpD X (binaryOp .Mod) rdMod := ⟨_, op_modN, fun H S fr σd σ x y dx dy Qv Qd ok rx ry h k => by
  cases dx with
  | int i =>
    cases dy with
    | int j => exact ⟨i, j, rx, ry, h.1, k _ (.int (i.fmod j)) H S ok rfl h.2⟩
    | _ => exact (show False from h).elim
  | _ => cases dy <;> exact (show False from h).elim⟩
theorem bits_le (x : Int) : Builtin.Int.intBits x ≤ x.natAbs.log2 + 1 := by
  unfold Builtin.Int.intBits
  split <;> omega
theorem od_pow : OpD X (binaryOp .Pow) rdPow := ⟨rI (fun i j => 0 ≤ j ∧ ((i.natAbs.log2 : Int) + 1) * j ≤ 134217728) fun i j => .int (i ^ j.toNat), opI (fun i j t u s Q E hc q => pow_int hc.1 (by
    have h1 := bits_le i
    have h2 : (Builtin.Int.intBits i : Int) * j ≤ ((i.natAbs.log2 : Int) + 1) * j := Int.mul_le_mul_of_nonneg_right (by omega) hc.1
    have h3 := hc.2
    have h4 : (2 : Int) ^ 27 = 134217728 := by decide
    omega) q), fun H S fr σd σ x y dx dy Qv Qd ok rx ry h k => by
  cases dx with
  | int i =>
    cases dy with
    | int j => exact ⟨i, j, rx, ry, h.1, k _ (.int (i ^ j.toNat)) H S ok rfl h.2⟩
    | _ => exact (show False from h).elim
  | _ => cases dy <;> exact (show False from h).elim⟩
/-- two lists, tracked or not -/
def rCatL (K : PySem.W.Frag) : R2 := fun x y H Q => ∃ l b xs zs, x = .ref l ∧ y = .ref b ∧ SqL K H l xs ∧ SqL K H b zs ∧ xs.length + zs.length ≤ sizeLine ∧ ∀ p, H p = none → Q (.ref p) (upd H p (.lst (xs ++ zs)))
theorem op_catL : OpR X (binaryOp .Add) (rCatL X.K) := by
  intro pins s σ H x y v u Q I rx ry h
  obtain ⟨l, b, xs, zs, rfl, rfl, hH, hB, hz, q⟩ := h
  cases rx
  cases ry
  obtain ⟨its, r, ⟨o1, n1, e1, c1, d1, f1⟩, z1⟩ := I.list hH
  obtain ⟨its2, r2, ⟨o2, n2, e2, c2, d2, f2⟩, z2⟩ := I.list hB
  obtain ⟨cls, dd, data, sl⟩ := o1
  obtain ⟨cls2, dd2, data2, sl2⟩ := o2
  simp only at c1 d1 f1 c2 d2 f2
  subst c1 d1 f1 c2 d2 f2
  have ea : its.toArray ++ its2.toArray = (its ++ its2).toArray := by simp
  have l1 := r.length
  have l2 := r2.length
  refine concat_meets ⟨_, e1, rfl⟩ ⟨_, e2, rfl⟩ noFill_list_add seq_list_add PySem.F.slot_list_add PySem.F.entry_list_add (PySem.F.args_list_add_2 _ _) (list_addW l b its.toArray its2.toArray n1 n2 none none sl sl2 (by simp only [List.size_toArray]; omega)) ⟨e1, e2, ?_⟩
  rw [ea]
  exact ⟨.ref _, _, I.lnew (t' := s.toks) (r.append r2) (by rw [List.length_append]; omega), rfl, q _ I.fresh⟩
theorem od_add : OpD X (binaryOp .Add) rdAdd := by
  refine ⟨_, (op_add (X := X)).or (op_add_ib.or (op_add_str.or (op_catA.or op_catL))), fun H S fr σd σ x y dx dy Qv Qd ok rx ry h k => ?_⟩
  have lists : catD Qd S (lstD S dx) (lstD S dy) → rCatL X.K x y H Qv := fun q => by
    obtain ⟨a, b, h1, h2, h3⟩ := catD_inv q
    obtain ⟨p, vs, e1, q1, r1⟩ := rp_lstD ok.rel rx h1
    obtain ⟨q, ws, e2, q2, r2⟩ := rp_lstD ok.rel ry h2
    exact ⟨p, q, vs, ws, e1, e2, q1, q2, by rw [← rpL_len r1, ← rpL_len r2, sl_eq]; exact h3.1, fun l hl => k _ (.lst (a ++ b)) _ S (ok.new hl) (rp_lstNew ok.rel hl (rpL_app r1 r2)) h3.2⟩
  cases dx with
  | int i =>
    cases dy with
    | int j => exact .inl ⟨i, j, rx, ry, k _ (.int (i + j)) H S ok rfl h⟩
    | bl j => exact .inr (.inl ⟨i, j, rx, ry, k _ (.int (i + b2i j)) H S ok rfl h⟩)
    | _ => exact (show False from h).elim
  | str i =>
    cases dy with
    | str j => exact .inr (.inr (.inl ⟨i, j, rx, ry, by rw [sl_eq]; exact h.1, k _ (.str (i ++ j)) H S ok rfl h.2⟩))
    | _ => exact (show False from h).elim
  | tup xs =>
    cases dy with
    | tup ys =>
      obtain ⟨p, vs, e1, q1, r1⟩ := rx
      obtain ⟨q, ws, e2, q2, r2⟩ := ry
      have h' : xs.length + ys.length ≤ 16777216 ∧ Qd (.tup (xs ++ ys)) S := h
      refine .inr (.inr (.inr (.inl ⟨p, q, vs, ws, e1, e2, q1, q2, by rw [← rpL_len r1, ← rpL_len r2, sl_eq]; exact h'.1, fun e => ?_, fun _ e => ?_, fun _ _ l hl => ?_⟩)))
      · subst e
        have e3 : xs = [] := List.length_eq_zero_iff.mp (rpL_len r1)
        subst e3
        exact k _ (.tup ys) H S ok ⟨q, ws, rfl, q2, r2⟩ h'.2
      · subst e
        have e3 : ys = [] := List.length_eq_zero_iff.mp (rpL_len r2)
        subst e3
        have q := h'.2
        rw [List.append_nil] at q
        exact k _ (.tup xs) H S ok ⟨p, vs, rfl, q1, r1⟩ q
      · exact k _ (.tup (xs ++ ys)) _ S (ok.new hl) (rp_tupNew ok.rel hl (rpL_app r1 r2)) h'.2
    | _ => exact (show False from h).elim
  | lst xs => exact .inr (.inr (.inr (.inr (lists (by cases dy <;> exact h)))))
  | obj p => exact .inr (.inr (.inr (.inr (lists (by cases dy <;> exact h)))))
  | non => exact (by cases dy <;> exact h : False).elim
  | bl b => exact (by cases dy <;> exact h : False).elim
  | tupX ds => exact (by cases dy <;> exact h : False).elim
  | inst C ns ds => exact (by cases dy <;> exact h : False).elim
  | ty n => exact (by cases dy <;> exact h : False).elim
  | exc a od ns xs => exact (by cases dy <;> exact h : False).elim
  | fn x => exact (by cases dy <;> exact h : False).elim
end
end Dv

/-! Readings by value, 2: equality, order, chains, in, subscripts, slices, calls, built-ins. -/
namespace Dv
open PySem L2 PyProof.Rows

/-! ### plain data -/
mutual
def isData : D → Bool
  | .non => true | .bl _ => true | .int _ => true | .str _ => true
  | .tup ds => isDataL ds
  | .lst ds => isDataL ds
  | _ => false
def isDataL : List D → Bool
  | [] => true
  | d :: ds => isData d && isDataL ds
end
mutual
def pd : D → PyData
  | .bl b => .bool b | .int i => .int i | .str x => .str x
  | .tup ds => .tuple (pdL ds)
  | .lst ds => .list (pdL ds)
  | _ => .none
def pdL : List D → List PyData
  | [] => []
  | d :: ds => pd d :: pdL ds
end
mutual
/-- == of data -/
def deq : D → D → Bool
  | .non, .non => true
  | .bl a, .bl b => a == b
  | .bl a, .int j => (if a then 1 else 0) == j
  | .int i, .bl b => i == (if b then 1 else 0)
  | .int i, .int j => i == j
  | .str x, .str y => x == y
  | .tup xs, .tup ys => deqL xs ys
  | .lst xs, .lst ys => deqL xs ys
  | _, _ => false
def deqL : List D → List D → Bool
  | [], [] => true
  | x :: xs, y :: ys => deq x y && deqL xs ys
  | _, _ => false
end
mutual
theorem eqv_pd : ∀ (x y : D), isData x = true → isData y = true → PyData.eqv (pd x) (pd y) = deq x y
  | .tup xs, y, hx, hy => by
    cases y with
    | tup ys =>
      have h1 : isDataL xs = true := hx
      have h2 : isDataL ys = true := hy
      show PyData.eqvAll (pdL xs) (pdL ys) = deqL xs ys
      exact eqv_pdL xs ys h1 h2
    | tupX _ => exact absurd (show false = true from hy) Bool.false_ne_true
    | inst _ _ _ => exact absurd (show false = true from hy) Bool.false_ne_true
    | obj _ => exact absurd (show false = true from hy) Bool.false_ne_true
    | ty _ => exact absurd (show false = true from hy) Bool.false_ne_true
    | exc _ _ _ _ => exact absurd (show false = true from hy) Bool.false_ne_true
    | fn _ => exact absurd (show false = true from hy) Bool.false_ne_true
    | _ => rfl
  | .lst xs, y, hx, hy => by
    cases y with
    | lst ys =>
      have h1 : isDataL xs = true := hx
      have h2 : isDataL ys = true := hy
      show PyData.eqvAll (pdL xs) (pdL ys) = deqL xs ys
      exact eqv_pdL xs ys h1 h2
    | tupX _ => exact absurd (show false = true from hy) Bool.false_ne_true
    | inst _ _ _ => exact absurd (show false = true from hy) Bool.false_ne_true
    | obj _ => exact absurd (show false = true from hy) Bool.false_ne_true
    | ty _ => exact absurd (show false = true from hy) Bool.false_ne_true
    | exc _ _ _ _ => exact absurd (show false = true from hy) Bool.false_ne_true
    | fn _ => exact absurd (show false = true from hy) Bool.false_ne_true
    | _ => rfl
  | .non, y, hx, hy => by
    cases y with
    | tupX _ => exact absurd (show false = true from hy) Bool.false_ne_true
    | inst _ _ _ => exact absurd (show false = true from hy) Bool.false_ne_true
    | obj _ => exact absurd (show false = true from hy) Bool.false_ne_true
    | ty _ => exact absurd (show false = true from hy) Bool.false_ne_true
    | exc _ _ _ _ => exact absurd (show false = true from hy) Bool.false_ne_true
    | fn _ => exact absurd (show false = true from hy) Bool.false_ne_true
    | _ => rfl
  | .bl _, y, hx, hy => by
    cases y with
    | tupX _ => exact absurd (show false = true from hy) Bool.false_ne_true
    | inst _ _ _ => exact absurd (show false = true from hy) Bool.false_ne_true
    | obj _ => exact absurd (show false = true from hy) Bool.false_ne_true
    | ty _ => exact absurd (show false = true from hy) Bool.false_ne_true
    | exc _ _ _ _ => exact absurd (show false = true from hy) Bool.false_ne_true
    | fn _ => exact absurd (show false = true from hy) Bool.false_ne_true
    | _ => rfl
  | .int _, y, hx, hy => by
    cases y with
    | tupX _ => exact absurd (show false = true from hy) Bool.false_ne_true
    | inst _ _ _ => exact absurd (show false = true from hy) Bool.false_ne_true
    | obj _ => exact absurd (show false = true from hy) Bool.false_ne_true
    | ty _ => exact absurd (show false = true from hy) Bool.false_ne_true
    | exc _ _ _ _ => exact absurd (show false = true from hy) Bool.false_ne_true
    | fn _ => exact absurd (show false = true from hy) Bool.false_ne_true
    | _ => rfl
  | .str _, y, hx, hy => by
    cases y with
    | tupX _ => exact absurd (show false = true from hy) Bool.false_ne_true
    | inst _ _ _ => exact absurd (show false = true from hy) Bool.false_ne_true
    | obj _ => exact absurd (show false = true from hy) Bool.false_ne_true
    | ty _ => exact absurd (show false = true from hy) Bool.false_ne_true
    | exc _ _ _ _ => exact absurd (show false = true from hy) Bool.false_ne_true
    | fn _ => exact absurd (show false = true from hy) Bool.false_ne_true
    | _ => rfl
  | .tupX _, y, hx, hy => absurd (show false = true from hx) Bool.false_ne_true
  | .inst _ _ _, y, hx, hy => absurd (show false = true from hx) Bool.false_ne_true
  | .obj _, y, hx, hy => absurd (show false = true from hx) Bool.false_ne_true
  | .ty _, y, hx, hy => absurd (show false = true from hx) Bool.false_ne_true
  | .exc _ _ _ _, y, hx, hy => absurd (show false = true from hx) Bool.false_ne_true
theorem eqv_pdL : ∀ (xs ys : List D), isDataL xs = true → isDataL ys = true → PyData.eqvAll (pdL xs) (pdL ys) = deqL xs ys
  | [], [], _, _ => rfl
  | [], y :: ys, _, _ => rfl
  | x :: xs, [], _, _ => rfl
  | x :: xs, y :: ys, hx, hy => by
    have h1 := Bool.and_eq_true_iff.mp (show (isData x && isDataL xs) = true from hx)
    have h2 := Bool.and_eq_true_iff.mp (show (isData y && isDataL ys) = true from hy)
    show (PyData.eqv (pd x) (pd y) && PyData.eqvAll (pdL xs) (pdL ys)) = (deq x y && deqL xs ys)
    rw [eqv_pd x y h1.1 h2.1, eqv_pdL xs ys h1.2 h2.2]
end
section
variable {K : PySem.W.Frag} {H : Hp} {S : Sd}
mutual
theorem dp_of (R : RelS K H S) : ∀ (d : D) (v : V), isData d = true → Rp K H S d v → Dp K H v (pd d)
  | .non, v, _, h => by
    have e : v = .non := h
    subst e; exact .non
  | .bl b, v, _, h => by
    have e : v = .bl b := h
    subst e; exact .bl b
  | .int i, v, _, h => by
    have e : v = .int i := h
    subst e; exact .int i
  | .str x, v, _, h => by
    have e : v = .str x := h
    subst e; exact .str x
  | .tup ds, v, k, h => by
    obtain ⟨a, vs, e, q, r⟩ := h
    subst e
    exact .tup q (dp_ofL R ds vs k r)
  | .lst ds, v, k, h => by
    obtain ⟨a, vs, e, q, r⟩ := rp_list R h
    subst e
    exact .lst q (dp_ofL R ds vs k r)
  | .tupX _, v, k, _ => absurd (show false = true from k) Bool.false_ne_true
  | .inst _ _ _, v, k, _ => absurd (show false = true from k) Bool.false_ne_true
  | .obj _, v, k, _ => absurd (show false = true from k) Bool.false_ne_true
  | .ty _, v, k, _ => absurd (show false = true from k) Bool.false_ne_true
  | .exc _ _ _ _, v, k, _ => absurd (show false = true from k) Bool.false_ne_true
theorem dp_ofL (R : RelS K H S) : ∀ (ds : List D) (vs : List V), isDataL ds = true → RpL K H S ds vs → DpAll K H vs (pdL ds)
  | [], vs, _, h => by
    have e : vs = [] := h
    subst e; exact .nil
  | d :: ds, vs, k, h => by
    obtain ⟨v, r, e, h1, h2⟩ := h
    subst e
    have k' := Bool.and_eq_true_iff.mp (show (isData d && isDataL ds) = true from k)
    exact .cons (dp_of R d v k'.1 h1) (dp_ofL R ds r k'.2 h2)
end
end
/-- what == may be asked of -/
def eqOk (d : D) : Bool := isData d && SeqAt.shaped (pd d)
def rdEq : RD2 := fun x y S Q => match x, y with
  | .int i, .int j => Q (.bl (decide (i = j))) S
  | .str i, .str j => Q (.bl (decide (i = j))) S
  | .bl i, .bl j => Q (.bl (decide (i = j))) S
  | x, y => (eqOk x = true ∧ eqOk y = true) ∧ Q (.bl (deq x y)) S
def rdNe : RD2 := fun x y S Q => match x, y with
  | .int i, .int j => Q (.bl (!decide (i = j))) S
  | .str i, .str j => Q (.bl (!decide (i = j))) S
  | .bl i, .bl j => Q (.bl (!decide (i = j))) S
  | x, y => (eqOk x = true ∧ eqOk y = true) ∧ Q (.bl (!deq x y)) S
def rdLt : RD2
  | .int i, .int j, S, Q => Q (.bl (decide (i < j))) S
  | _, _, _, _ => False
def rdLe : RD2
  | .int i, .int j, S, Q => Q (.bl (decide (i ≤ j))) S
  | _, _, _, _ => False
def rdGt : RD2
  | .int i, .int j, S, Q => Q (.bl (decide (j < i))) S
  | _, _, _, _ => False
def rdGe : RD2
  | .int i, .int j, S, Q => Q (.bl (decide (j ≤ i))) S
  | _, _, _, _ => False
def rdIsN : RD2
  | x, .non, S, Q => Q (.bl (match x with | .non => true | _ => false)) S
  | _, _, _, _ => False
def rdNotN : RD2
  | x, .non, S, Q => Q (.bl (match x with | .non => false | _ => true)) S
  | _, _, _, _ => False
section
variable {X : Cx}
theorem ordI {f : Value → Value → Sem Value} {g : Int → Int → Bool} {rd : RD2} (ho : OpR X f (rI0 fun i j => .bl (g i j))) (h : ∀ x y S Q, rd x y S Q → ∃ i j, x = .int i ∧ y = .int j ∧ Q (.bl (g i j)) S) : OpD X f rd :=
  ⟨_, ho, fun H S fr σd σ x y dx dy Qv Qd ok rx ry q k => by
    obtain ⟨i, j, rfl, rfl, q'⟩ := h dx dy S Qd q
    exact ⟨i, j, rx, ry, k _ (.bl (g i j)) H S ok rfl q'⟩⟩
theorem od_lt : OpD X (compareOp .Lt) rdLt := ordI op_lt fun x y S Q h => by
  cases x with
  | int i => cases y with
    | int j => exact ⟨i, j, rfl, rfl, h⟩
    | _ => exact (show False from h).elim
  | _ => cases y <;> exact (show False from h).elim
theorem od_le : OpD X (compareOp .LtE) rdLe := ordI op_le fun x y S Q h => by
  cases x with
  | int i => cases y with
    | int j => exact ⟨i, j, rfl, rfl, h⟩
    | _ => exact (show False from h).elim
  | _ => cases y <;> exact (show False from h).elim
theorem od_gt : OpD X (compareOp .Gt) rdGt := ordI op_gt fun x y S Q h => by
  cases x with
  | int i => cases y with
    | int j => exact ⟨i, j, rfl, rfl, h⟩
    | _ => exact (show False from h).elim
  | _ => cases y <;> exact (show False from h).elim
theorem od_ge : OpD X (compareOp .GtE) rdGe := ordI op_ge fun x y S Q h => by
  cases x with
  | int i => cases y with
    | int j => exact ⟨i, j, rfl, rfl, h⟩
    | _ => exact (show False from h).elim
  | _ => cases y <;> exact (show False from h).elim
theorem eq_lift {K : PySem.W.Frag} : Lift2 K (fun x y H Q => rEq x y H Q ∨ rEqD K x y H Q) rdEq := fun H S fr σd σ x y dx dy Qv Qd ok rx ry h k => by
  have gen : (eqOk dx = true ∧ eqOk dy = true) ∧ Qd (.bl (deq dx dy)) S → rEqD K x y H Qv := fun ⟨⟨h1, h2⟩, q⟩ => by
    have a1 := Bool.and_eq_true_iff.mp h1
    have a2 := Bool.and_eq_true_iff.mp h2
    refine ⟨pd dx, pd dy, dp_of ok.rel dx x a1.1 rx, dp_of ok.rel dy y a2.1 ry, a1.2, a2.2, ?_⟩
    rw [eqv_pd dx dy a1.1 a2.1]
    exact k _ (.bl (deq dx dy)) H S ok rfl q
  cases dx with
  | int i => cases dy with
    | int j =>
      have e1 : x = .int i := rx
      have e2 : y = .int j := ry
      subst e1 e2
      refine .inl ⟨rfl, ?_⟩
      refine k _ (.bl (decide (i = j))) H S ok ?_ h
      show V.bl _ = V.bl _
      congr 1
      simp
    | _ => exact .inr (gen h)
  | str i => cases dy with
    | str j =>
      have e1 : x = .str i := rx
      have e2 : y = .str j := ry
      subst e1 e2
      refine .inl ⟨rfl, ?_⟩
      refine k _ (.bl (decide (i = j))) H S ok ?_ h
      show V.bl _ = V.bl _
      congr 1
      simp
    | _ => exact .inr (gen h)
  | bl i => cases dy with
    | bl j =>
      have e1 : x = .bl i := rx
      have e2 : y = .bl j := ry
      subst e1 e2
      refine .inl ⟨rfl, ?_⟩
      refine k _ (.bl (decide (i = j))) H S ok ?_ h
      show V.bl _ = V.bl _
      congr 1
      simp
    | _ => exact .inr (gen h)
  | _ => exact .inr (gen (by cases dy <;> exact h))
theorem ne_lift {K : PySem.W.Frag} : Lift2 K (fun x y H Q => rNe x y H Q ∨ rNeD K x y H Q) rdNe := fun H S fr σd σ x y dx dy Qv Qd ok rx ry h k => by
  have gen : (eqOk dx = true ∧ eqOk dy = true) ∧ Qd (.bl (!deq dx dy)) S → rNeD K x y H Qv := fun ⟨⟨h1, h2⟩, q⟩ => by
    have a1 := Bool.and_eq_true_iff.mp h1
    have a2 := Bool.and_eq_true_iff.mp h2
    refine ⟨pd dx, pd dy, dp_of ok.rel dx x a1.1 rx, dp_of ok.rel dy y a2.1 ry, a1.2, a2.2, ?_⟩
    rw [eqv_pd dx dy a1.1 a2.1]
    exact k _ (.bl (!deq dx dy)) H S ok rfl q
  cases dx with
  | int i => cases dy with
    | int j =>
      have e1 : x = .int i := rx
      have e2 : y = .int j := ry
      subst e1 e2
      refine .inl ⟨rfl, ?_⟩
      refine k _ (.bl (!decide (i = j))) H S ok ?_ h
      show V.bl _ = V.bl _
      congr 1
      simp
    | _ => exact .inr (gen h)
  | str i => cases dy with
    | str j =>
      have e1 : x = .str i := rx
      have e2 : y = .str j := ry
      subst e1 e2
      refine .inl ⟨rfl, ?_⟩
      refine k _ (.bl (!decide (i = j))) H S ok ?_ h
      show V.bl _ = V.bl _
      congr 1
      simp
    | _ => exact .inr (gen h)
  | bl i => cases dy with
    | bl j =>
      have e1 : x = .bl i := rx
      have e2 : y = .bl j := ry
      subst e1 e2
      refine .inl ⟨rfl, ?_⟩
      refine k _ (.bl (!decide (i = j))) H S ok ?_ h
      show V.bl _ = V.bl _
      congr 1
      simp
    | _ => exact .inr (gen h)
  | _ => exact .inr (gen (by cases dy <;> exact h))
theorem od_eq (hu : X.A.units + 64 < cLine) : OpD X (compareOp .Eq) rdEq := ⟨_, op_eq.or (op_eqD hu), eq_lift⟩
theorem od_ne (hu : X.A.units + 64 < cLine) : OpD X (compareOp .NotEq) rdNe := ⟨_, op_ne.or (op_neD hu), ne_lift⟩
end

/-! ### chains of comparisons -/
section
variable {X : Cx} {W : Wi} {a b c d e : Expr} {ta tb tc td : TED} {pos : Pos}
def dChain (r r' : RD2) (ta tb tc : TED) : TED := fun σ S Q => ta σ S fun x S1 => tb σ S1 fun y S2 => r x y S2 fun z S3 => match z with
  | .bl k => if k = true then tc σ S3 fun w S4 => r' y w S4 Q else Q (.bl false) S3
  | _ => False
theorem chain_lift {r r' : R2} {rd rd' : RD2} (l : Lift2 X.K r rd) (l' : Lift2 X.K r' rd') (σ : L2.St) (H : Hp) (Q : VK) (h : upE X.K W (dChain rd rd' ta tb tc) σ H Q) : tChain r r' (upE X.K W ta) (upE X.K W tb) (upE X.K W tc) σ H Q := by
  obtain ⟨σd, S, fr, Qd, ok, cl, h, k⟩ := h
  refine ⟨σd, S, fr, _, ok, cl, h, fun x dx H1 S1 ok1 r1 h1 => ?_⟩
  refine ⟨σd, S1, (x, dx) :: fr, _, ok1.cons r1, cl.tail, h1, fun y dy H2 S2 ok2 r2 h2 => ?_⟩
  refine l H2 S2 ((y, dy) :: fr) σd σ x y dx dy _ _ (ok2.tail.cons r2) ok2.head r2 h2 fun z dz H3 S3 ok3 r3 h3 => ?_
  cases dz with
  | bl k0 =>
    refine ⟨k0, r3, ?_⟩
    cases k0 with
    | true =>
      exact (show upE X.K W tc σ H3 (fun w' H4 => r' y w' H4 Q) from ⟨σd, S3, (y, dy) :: fr, _, ok3, cl.tail, (show tc σd S3 _ from by simpa using h3), fun w dw H4 S4 ok4 r4 h4 =>
        l' H4 S4 fr σd σ y w dy dw Q Qd ok4.tail ok4.head r4 h4 k⟩)
    | false => exact (show Q (.bl false) H3 from k _ (.bl false) H3 S3 ok3.tail rfl (by simpa using h3))
  | _ => exact (show False from h3).elim
theorem de_chain {op op' : CmpOp} {rd rd' : RD2} (ho : OpD X (compareOp op) rd) (ho' : OpD X (compareOp op') rd') (ha : DE X W a ta) (hb : DE X W b tb) (hc : DE X W c tc)
    (hm : lastMarks [op, op'] [b, c] = false := by with_unfolding_all rfl) : DE X W (.Compare a [op, op'] [b, c] pos) (dChain rd rd' ta tb tc) := by
  obtain ⟨r, ho, l⟩ := ho
  obtain ⟨r', ho', l'⟩ := ho'
  exact ⟨PE.imp (pe_chain ho ho' ha.p hb.p hc.p hm) (chain_lift l l')⟩
theorem dt_chain {op op' : CmpOp} {rd rd' : RD2} (ho : OpD X (compareOp op) rd) (ho' : OpD X (compareOp op') rd') (ha : DE X W a ta) (hb : DE X W b tb) (hc : DE X W c tc)
    (hm : lastMarks [op, op'] [b, c] = false := by with_unfolding_all rfl) : DT X W (.Compare a [op, op'] [b, c] pos) (dTest (dChain rd rd' ta tb tc)) := by
  obtain ⟨r, ho, l⟩ := ho
  obtain ⟨r', ho', l'⟩ := ho'
  exact ⟨PT.imp (pt_chain ho ho' ha.p hb.p hc.p hm) fun σ H Q h => tTest_mono (chain_lift l l') σ H Q (test_lift σ H Q h)⟩
def dChain3 (r r' r2 : RD2) (ta tb tc td : TED) : TED := fun σ S Q => ta σ S fun x S1 => tb σ S1 fun y S2 => r x y S2 fun z S3 => match z with
  | .bl k => if k = true then tc σ S3 fun w S4 => r' y w S4 fun z2 S5 => match z2 with
      | .bl k2 => if k2 = true then td σ S5 fun w2 S6 => r2 w w2 S6 Q else Q (.bl false) S5
      | _ => False
    else Q (.bl false) S3
  | _ => False
end

/-! ### subscripts, slices -/
def ixQ (S : Sd) (Q : DK) : Option D → Prop
  | some d => Q d S
  | none => False
def ixS (S : Sd) (Q : DK) : Option Nat → Prop
  | some c => Q (.str ⟨#[c]⟩) S
  | none => False
def rdIx : RD2
  | .tup ds, .int i, S, Q => ixQ S Q (atI ds i)
  | .lst ds, .int i, S, Q => ixQ S Q (atI ds i)
  | .obj a, .int i, S, Q => match S a with
    | some (.lst ds) => ixQ S Q (atI ds i)
    | _ => False
  | .str z, .int i, S, Q => z.length ≤ 16777216 ∧ ixS S Q (atI z.cps.toList i)
  | _, _, _, _ => False
theorem ixQ_inv {S : Sd} {Q : DK} {o : Option D} (h : ixQ S Q o) : ∃ d, o = some d ∧ Q d S := by
  cases o with
  | none => exact h.elim
  | some d => exact ⟨d, rfl, h⟩
theorem atI_rp {K : PySem.W.Frag} {H : Hp} {S : Sd} {ds : List D} {vs : List V} {i : Int} {d : D} (r : RpL K H S ds vs) (h : atI ds i = some d) : ∃ v, atI vs i = some v ∧ Rp K H S d v := by
  unfold atI at h ⊢
  rw [← rpL_len r]
  cases e : ixN ds.length i with
  | none => rw [e] at h; cases h
  | some j =>
    rw [e] at h
    exact rpL_get r h
section
variable {X : Cx} {W : Wi} {a b e : Expr} {ta tb te : TED} {pos p2 : Pos}
theorem ix_lift {K : PySem.W.Frag} : Lift2 K (rIx K) rdIx := fun H S fr σd σ x y dx dy Qv Qd ok rx ry h k => by
  cases dy with
  | int i =>
    cases dx with
    | tup ds =>
      obtain ⟨d, e, q⟩ := ixQ_inv h
      obtain ⟨p, vs, e1, q1, r1⟩ := rx
      obtain ⟨v, e2, r2⟩ := atI_rp r1 e
      exact .inr (.inl ⟨p, vs, i, v, e1, ry, q1, e2, k v d H S ok r2 q⟩)
    | lst ds =>
      obtain ⟨d, e, q⟩ := ixQ_inv h
      obtain ⟨p, vs, e1, q1, r1⟩ := rp_list ok.rel rx
      obtain ⟨v, e2, r2⟩ := atI_rp r1 e
      exact .inl ⟨p, vs, i, v, e1, ry, q1, e2, k v d H S ok r2 q⟩
    | obj p =>
      have h' : (match S p with | some (.lst ds) => ixQ S Qd (atI ds i) | _ => False) := h
      split at h'
      · rename_i ds q0
        obtain ⟨d, e, q⟩ := ixQ_inv h'
        obtain ⟨vs, q1, r1⟩ := rp_obj ok.rel q0
        obtain ⟨v, e2, r2⟩ := atI_rp r1 e
        exact .inl ⟨p, vs, i, v, rx, ry, SqL.of q1, e2, k v d H S ok r2 q⟩
      · exact h'.elim
    | str z =>
      have h' : z.length ≤ 16777216 ∧ ixS S Qd (atI z.cps.toList i) := h
      cases e : atI z.cps.toList i with
      | none => rw [e] at h'; exact h'.2.elim
      | some c =>
        rw [e] at h'
        exact .inr (.inr ⟨z, i, c, rx, ry, sz_le h'.1, e, k _ (.str ⟨#[c]⟩) H S ok rfl h'.2⟩)
    | _ => exact (show False from h).elim
  | _ => cases dx <;> exact (show False from h).elim
theorem de_ix (ha : DE X W a ta) (hb : DE X W b tb) (hs : PlainIx b) : DE X W (.Subscript a b pos) (dOp rdIx ta tb) := ⟨PE.imp (pe_ix ix_seq ha.p hb.p hs) (op2_lift ix_lift)⟩
abbrev TOD := Si → Sd → (Option Int → Sd → Prop) → Prop
def upO (K : PySem.W.Frag) (W : Wi) (t : TOD) : TO := fun σ H Qv => ∃ σd S fr Qd, Ok K H S fr σd σ ∧ Cl K W fr ∧ t σd S Qd ∧ ∀ o H' S', Ok K H' S' fr σd σ → Qd o S' → Qv o H'
structure DO (X : Cx) (W : Wi) (e : Option Expr) (t : TOD) : Prop where
  p : PO X e (upO X.K W t)
def dNoPart : TOD := fun _ S Q => Q none S
def dPart (t : TED) : TOD := fun σ S Q => t σ S fun x S1 => match x with
  | .int i => Q (some i) S1
  | _ => False
theorem PO.imp {e : Option Expr} {t t' : TO} (h : PO X e t) (k : ∀ σ H Q, t' σ H Q → t σ H Q) : PO X e t' := ⟨fun pins s σ H Q I q => h.run pins s σ H Q I (k _ _ _ q)⟩
theorem do_none : DO X W none dNoPart := ⟨PO.imp po_none fun σ H Q ⟨σd, S, fr, Qd, ok, cl, h, k⟩ => k none H S ok h⟩
theorem do_some (h : DE X W e te) : DO X W (some e) (dPart te) := ⟨PO.imp (po_some h.p) fun σ H Q ⟨σd, S, fr, Qd, ok, cl, h, k⟩ => ⟨σd, S, fr, _, ok, cl, h, fun x dx H1 S1 ok1 r1 h1 => by
  cases dx with
  | int i => exact ⟨i, r1, k (some i) H1 S1 ok1 h1⟩
  | _ => exact (show False from h1).elim⟩⟩
def cutD (xs : List D) (lo hi : Option Int) : List D := (xs.drop (HT.sIx xs.length 0 lo)).take (HT.sIx xs.length xs.length hi - HT.sIx xs.length 0 lo)
def rdSl : D → Option Int → Option Int → Sd → DK → Prop
  | .tup ds, lo, hi, S, Q => Q (.tup (cutD ds lo hi)) S
  | .lst ds, lo, hi, S, Q => Q (.lst (cutD ds lo hi)) S
  | .obj a, lo, hi, S, Q => match S a with
    | some (.lst ds) => Q (.lst (cutD ds lo hi)) S
    | _ => False
  | .str z, lo, hi, S, Q => z.length ≤ 16777216 ∧ Q (.str (cutS z lo hi)) S
  | _, _, _, _, _ => False
def dSl (te : TED) (tl th : TOD) : TED := fun σ S Q => te σ S fun x S1 => tl σ S1 fun l S2 => th σ S2 fun u S3 => rdSl x l u S3 Q
theorem cut_rp {K : PySem.W.Frag} {H : Hp} {S : Sd} {ds : List D} {vs : List V} {lo hi : Option Int} (r : RpL K H S ds vs) : RpL K H S (cutD ds lo hi) (cutV vs lo hi) := by
  unfold cutD cutV
  rw [← rpL_len r]
  exact rpL_take _ (rpL_drop _ r)
theorem de_slice {lo hi : Option Expr} {tl th : TOD} (he : DE X W e te) (hl : DO X W lo tl) (hu : DO X W hi th) : DE X W (.Subscript e (.Slice lo hi none p2) pos) (dSl te tl th) :=
  ⟨PE.imp (pe_slice (sl_list.or (sl_tupA.or sl_str)) he.p hl.p hu.p) fun σ H Q ⟨σd, S, fr, Qd, ok, cl, h, k⟩ => ⟨σd, S, fr, _, ok, cl, h, fun x dx H1 S1 ok1 r1 h1 =>
    ⟨σd, S1, (x, dx) :: fr, _, ok1.cons r1, cl.tail, h1, fun l H2 S2 ok2 h2 => ⟨σd, S2, (x, dx) :: fr, _, ok2, cl.tail, h2, fun u H3 S3 ok3 h3 => by
      have rx := ok3.head
      have ok4 := ok3.tail
      cases dx with
      | lst ds =>
        obtain ⟨p, vs, e1, q1, r1⟩ := rp_list ok4.rel rx
        exact .inl ⟨p, vs, e1, q1, fun p hp => k _ (.lst (cutD ds l u)) _ S3 (ok4.new hp) (rp_lstNew ok4.rel hp (cut_rp r1)) h3⟩
      | obj p =>
        have h' : (match S3 p with | some (.lst ds) => Qd (.lst (cutD ds l u)) S3 | _ => False) := h3
        split at h'
        · rename_i ds q0
          obtain ⟨vs, q1, r1⟩ := rp_obj ok4.rel q0
          exact .inl ⟨p, vs, rx, SqL.of q1, fun p hp => k _ (.lst (cutD ds l u)) _ S3 (ok4.new hp) (rp_lstNew ok4.rel hp (cut_rp r1)) h'⟩
        · exact h'.elim
      | tup ds =>
        obtain ⟨p, vs, e1, q1, r1⟩ := rx
        refine .inr (.inl ⟨p, vs, e1, q1, fun hw => ?_, fun _ p hp => k _ (.tup (cutD ds l u)) _ S3 (ok4.new hp) (rp_tupNew ok4.rel hp (cut_rp r1)) h3⟩)
        have e2 : cutD ds l u = ds := by
          unfold cutD
          rw [rpL_len r1, hw.1, hw.2, List.drop_zero, Nat.sub_zero, ← rpL_len r1, List.take_length]
        have h' : Qd (.tup (cutD ds l u)) S3 := h3
        rw [e2] at h'
        exact k _ (.tup ds) H3 S3 ok4 ⟨p, vs, rfl, q1, r1⟩ h'
      | str z =>
        have h' : z.length ≤ 16777216 ∧ Qd (.str (cutS z l u)) S3 := h3
        exact .inr (.inr ⟨z, rx, sz_le h'.1, k _ (.str (cutS z l u)) H3 S3 ok4 rfl h'.2⟩)
      | _ => exact (show False from h3).elim⟩⟩⟩⟩
end
end Dv

/-! Readings by value, 3: calls, built-ins, statements, loops, comprehensions, defs. -/
namespace Dv
open PySem L2 PyProof.Rows

/-! ### the promise of a def, lifted -/
abbrev SpD := List D → Sd → DK → XKD → Prop
def FrOk (K : PySem.W.Frag) (H : Hp) (S : Sd) (fr : List (V × D)) : Prop := ∀ p ∈ fr, Rp K H S p.2 p.1
def upF (K : PySem.W.Frag) (sp : SpD) : Sp := fun vs H Qv E => ∃ ds S fr Qd Ed, RelS K H S ∧ FrOk K H S fr ∧ RpL K H S ds vs ∧ sp ds S Qd Ed ∧
  (∀ v d H' S', RelS K H' S' → FrOk K H' S' fr → Rp K H' S' d v → Qd d S' → Qv v H') ∧
  ∀ cls od x H' S', RelS K H' S' → FrOk K H' S' fr → RpX K H' S' x cls od → Ed x S' → E cls od H'
/-- the known slots, as pairs -/
def prs (σd : Si) (σ : L2.St) : List (V × D) := (σ.zip σd).filterMap fun p => match p with
  | (some v, some d) => some (v, d)
  | _ => none
theorem prs_mem {σd : Si} {σ : L2.St} {i : Nat} {v : V} {d : D} (h1 : σ[i]? = some (some v)) (h2 : σd[i]? = some (some d)) : (v, d) ∈ prs σd σ := by
  unfold prs
  refine List.mem_filterMap.mpr ⟨(some v, some d), ?_, rfl⟩
  refine List.mem_iff_getElem?.mpr ⟨i, ?_⟩
  rw [List.getElem?_zip_eq_some]
  exact ⟨h1, h2⟩
theorem prs_of {σd : Si} {σ : L2.St} {p : V × D} (h : p ∈ prs σd σ) : ∃ i : Nat, σ[i]? = some (some p.1) ∧ σd[i]? = some (some p.2) := by
  unfold prs at h
  obtain ⟨q, hq, e⟩ := List.mem_filterMap.mp h
  obtain ⟨i, hi⟩ := List.mem_iff_getElem?.mp hq
  rw [List.getElem?_zip_eq_some] at hi
  obtain ⟨q1, q2⟩ := q
  cases q1 with
  | none => cases e
  | some v => cases q2 with
    | none => cases e
    | some d =>
      cases e
      exact ⟨i, hi.1, hi.2⟩
section
variable {K : PySem.W.Frag} {H : Hp} {S : Sd} {fr : List (V × D)} {σd : Si} {σ : L2.St}
theorem Ok.out (ok : Ok K H S fr σd σ) : FrOk K H S (fr ++ prs σd σ) := fun p hp => by
  rcases List.mem_append.mp hp with h | h
  · exact ok.fr p h
  · obtain ⟨i, h1, h2⟩ := prs_of h
    obtain ⟨v, h3, r⟩ := ok.si i _ h2
    rw [h1] at h3
    cases h3
    exact r
theorem Ok.back {H' : Hp} {S' : Sd} (ok : Ok K H S fr σd σ) (R : RelS K H' S') (f : FrOk K H' S' (fr ++ prs σd σ)) : Ok K H' S' fr σd σ :=
  ⟨R, fun p hp => f p (List.mem_append_left _ hp), ok.len, fun i d e => by
    obtain ⟨v, h1, _⟩ := ok.si i d e
    exact ⟨v, h1, f (v, d) (List.mem_append_right _ (prs_mem h1 e))⟩⟩
end

section
variable {X : Cx} {W : Wi} {k : Nat} {f : Addr} {fd : FuncData} {ps : List Str} {sp : SpD} {ds : List Value} {dvs : List V} {dds : List D} {x : Str} {p pos : Pos} {e : Expr} {es : List Expr} {t : TAD}
def dCall (sp : SpD) (dds : List D) (WD : WXD) (t : TAD) : TED := fun σ S Q => t σ S fun xs S1 => sp (xs ++ dds) S1 Q fun y S2 => WD y σ S2
theorem call_lift (hdd : ∀ H S, RpL X.K H S dds dvs) (σ : L2.St) (H : Hp) (Q : VK) (h : upE X.K W (dCall sp dds W.D t) σ H Q) : tCallSD (upF X.K sp) dvs (WE W.V) (upA X.K W t) σ H Q := by
  obtain ⟨σd, S, fr, Qd, ok, cl, h, k⟩ := h
  refine ⟨σd, S, fr, _, ok, cl, h, fun vs ds H1 S1 ok1 r1 h1 => ?_⟩
  refine ⟨ds ++ dds, S1, fr ++ prs σd σ, Qd, _, ok1.rel, ok1.out, rpL_app r1 (hdd H1 S1), h1, fun v d H2 S2 R2 f2 r2 q2 => ?_, fun cls od x H2 S2 R2 f2 rx q2 => ?_⟩
  · exact k v d H2 S2 (ok1.back R2 f2) r2 q2
  · exact cl σd σ H2 S2 cls od x (ok1.back R2 f2) rx q2
theorem de_call (F : Hx.FnG X.prog X.w X.K X.mg X.base (L2N.CX X.prog X.w) k f fd ps (upF X.K sp)) (hr : Hx.RoomG k X.A) (hg : Gl X x) (hm : X.mg x = some (.ref f)) (hk : PySem.W.keepIn X.K (.ref f) = true) (hb : Binds X.K fd ps ds) (hd : Vals dvs ds)
    (hdd : ∀ H S, RpL X.K H S dds dvs) (tk : L2N.Takes X W.V) (ha : DA X W (e :: es) t) (hdb : (x == ("__debug__" : Str)) = false := by decide) (he : starEach (e :: es) X.env = (false, eval e X.env) :: starEach es X.env := by rfl)
    (hpl : (backTo pos (starEach es X.env)).any (·.1) = false := by rfl) : DE X W (.Call (.Name x p) (e :: es) [] pos) (dCall sp dds W.D t) :=
  ⟨PE.imp (Hx.pe_callG F hr hg hm hk hb hd (fun σ => L2N.passAt tk σ) ha.p hdb he hpl) (call_lift hdd)⟩

/-! ### built-ins -/
abbrev RDC := List D → Sd → DK → Prop
def LiftC (K : PySem.W.Frag) (r : List V → Hp → VK → Prop) (rd : RDC) : Prop := ∀ H S fr σd σ xs ds Qv Qd, Ok K H S fr σd σ → RpL K H S ds xs → rd ds S Qd →
  (∀ v d H' S', Ok K H' S' fr σd σ → Rp K H' S' d v → Qd d S' → Qv v H') → r xs H Qv
def CallD (X : Cx) (f : Value) (rd : RDC) : Prop := ∃ r, CallR X f r ∧ LiftC X.K r rd
def dCB (rd : RDC) (t : TAD) : TED := fun σ S Q => t σ S fun xs S1 => rd xs S1 Q
theorem cb_lift {r : List V → Hp → VK → Prop} {rd : RDC} (l : LiftC X.K r rd) (σ : L2.St) (H : Hp) (Q : VK) (h : upE X.K W (dCB rd t) σ H Q) : tCB r (upA X.K W t) σ H Q := by
  obtain ⟨σd, S, fr, Qd, ok, cl, h, k⟩ := h
  exact ⟨σd, S, fr, _, ok, cl, h, fun vs ds H1 S1 ok1 r1 h1 => l H1 S1 fr σd σ vs ds Q Qd ok1 r1 h1 k⟩
theorem de_callB {id : String} {rd : RDC} (hc : CallD X (.builtin id) rd) (hg : Gl X x) (hm : X.mg x = none) (hv : bootBuiltins x = some (.builtin id)) (ha : DA X W (e :: es) t) (hn : x ≠ "__name__" := by decide) (hdb : (x == ("__debug__" : Str)) = false := by decide)
    (he : starEach (e :: es) X.env = (false, eval e X.env) :: starEach es X.env := by rfl) (hpl : (backTo pos (starEach es X.env)).any (·.1) = false := by rfl) : DE X W (.Call (.Name x p) (e :: es) [] pos) (dCB rd t) := by
  obtain ⟨r, hc, l⟩ := hc
  exact ⟨PE.imp (pe_callB hc hg hm hv ha.p hn hdb he hpl) (cb_lift l)⟩
theorem de_callTy {T : String} {rd : RDC} (hc : CallD X (.type T) rd) (hg : Gl X x) (hm : X.mg x = none) (hv : bootBuiltins x = some (.type T)) (ha : DA X W (e :: es) t) (hn : x ≠ "__name__" := by decide) (hdb : (x == ("__debug__" : Str)) = false := by decide)
    (he : starEach (e :: es) X.env = (false, eval e X.env) :: starEach es X.env := by rfl) (hpl : (backTo pos (starEach es X.env)).any (·.1) = false := by rfl) : DE X W (.Call (.Name x p) (e :: es) [] pos) (dCB rd t) := by
  obtain ⟨r, hc, l⟩ := hc
  exact ⟨PE.imp (pe_callTy hc hg hm hv ha.p hn hdb he hpl) (cb_lift l)⟩
end
section
variable {K : PySem.W.Frag} {H : Hp} {S : Sd}
theorem rpL1 {d : D} {vs : List V} (h : RpL K H S [d] vs) : ∃ v, vs = [v] ∧ Rp K H S d v := by
  obtain ⟨v, r, e, h1, h2⟩ := h
  have e2 : r = [] := h2
  subst e2
  exact ⟨v, e, h1⟩
theorem rpL2 {c d : D} {vs : List V} (h : RpL K H S [c, d] vs) : ∃ v w, vs = [v, w] ∧ Rp K H S c v ∧ Rp K H S d w := by
  obtain ⟨v, r, e, h1, h2⟩ := h
  obtain ⟨w, e2, h3⟩ := rpL1 h2
  subst e2
  exact ⟨v, w, e, h1, h3⟩
theorem rpL_of_ints {ns : List Int} : RpL K H S (ns.map D.int) (ns.map V.int) := by
  induction ns with
  | nil => exact rfl
  | cons n r ih => exact ⟨_, _, rfl, rfl, ih⟩
theorem rpL_bls {ns : List Bool} : ∀ {vs : List V}, RpL K H S (ns.map D.bl) vs → vs = ns.map V.bl := by
  induction ns with
  | nil => intro vs h; exact h
  | cons n r ih =>
    intro vs h
    obtain ⟨v, s, e, h1, h2⟩ := h
    have e1 : v = .bl n := h1
    rw [e, e1, ih h2]
    rfl
end
def rdLen : RDC
  | [.str z], S, Q => z.length ≤ 16777216 ∧ Q (.int z.length) S
  | [d], S, Q => match itemsD S d with
    | some ds => Q (.int ds.length) S
    | none => False
  | _, _, _ => False
def rdAbs : RDC
  | [.int i], S, Q => Q (.int (if i < 0 then -i else i)) S
  | _, _, _ => False
def rdMax2 : RDC
  | [.int i, .int j], S, Q => Q (.int (if j > i then j else i)) S
  | _, _, _ => False
def rdMin2 : RDC
  | [.int i, .int j], S, Q => Q (.int (if j < i then j else i)) S
  | _, _, _ => False
def rdInt : RDC
  | [.int i], S, Q => Q (.int i) S
  | [.bl b], S, Q => Q (.int (if b then 1 else 0)) S
  | _, _, _ => False
def rdAll : RDC
  | [d], S, Q => ∃ bs : List Bool, lstD S d = some (bs.map D.bl) ∧ Q (.bl (bs.all id)) S
  | _, _, _ => False
def rdTupC : RDC
  | [d], S, Q => match itemsD S d with
    | some ds => Q (.tup ds) S
    | none => False
  | _, _, _ => False
def rdListC : RDC
  | [d], S, Q => match itemsD S d with
    | some ds => Q (.lst ds) S
    | none => False
  | _, _, _ => False
/-- a value's built-in type -/
def tyD : D → Option String
  | .non => some "NoneType" | .bl _ => some "bool" | .int _ => some "int" | .str _ => some "str" | .tup _ => some "tuple" | .lst _ => some "list" | _ => none
def isiD (d : D) (n : String) : Option Bool := match tyD d with
  | some t => kitB t n
  | none => none
def rdIsi : RDC
  | [d, .ty n], S, Q => match isiD d n with
    | some b => Q (.bl b) S
    | none => False
  | _, _, _ => False
section
variable {X : Cx}
theorem cd_len : CallD X (.builtin "len") rdLen := ⟨_, call_len, fun H S fr σd σ xs ds Qv Qd ok r h k => by
  match ds, r, h with
  | [d], r, h =>
    obtain ⟨v, rfl, r0⟩ := rpL1 r
    have r := r0
    have gen : (match itemsD S d with | some ds => Qd (.int ds.length) S | none => False) → ∃ x n, [v] = [x] ∧ LenV X.K x H n ∧ Qv (.int n) H := fun h => by
      cases e : itemsD S d with
      | none => rw [e] at h; exact h.elim
      | some ds =>
        rw [e] at h
        obtain ⟨a, vs, rfl, q, r2⟩ := rp_items ok.rel r e
        refine ⟨_, vs.length, rfl, ?_, k _ (.int ds.length) H S ok (by rw [rpL_len r2]; rfl) h⟩
        rcases q with q | q
        · exact .inl ⟨vs, q, rfl⟩
        · exact .inr ⟨vs, q, rfl⟩
    cases d with
    | str z =>
      have e : v = .str z := r
      subst e
      have h' : z.length ≤ 16777216 ∧ Qd (.int z.length) S := h
      exact ⟨_, z.length, rfl, ⟨sz_le h'.1, rfl⟩, k _ (.int z.length) H S ok rfl h'.2⟩
    | _ => exact gen h
  | [], _, h => exact (show False from h).elim
  | a :: _ :: _, _, h => exact (by cases a <;> exact h : False).elim⟩
theorem int1_lift {K : PySem.W.Frag} {g : Int → D} {gv : Int → V} {rd : RDC} (hg : ∀ i H S, Rp K H S (g i) (gv i)) (h1 : ∀ ds S Q, rd ds S Q → ∃ i, ds = [.int i] ∧ Q (g i) S) :
    LiftC K (fun xs H Q => ∃ i, xs = [.int i] ∧ Q (gv i) H) rd := fun H S fr σd σ xs ds Qv Qd ok r h k => by
  obtain ⟨i, rfl, q⟩ := h1 ds S Qd h
  obtain ⟨v, rfl, r0⟩ := rpL1 r
  have r := r0
  have e : v = .int i := r
  subst e
  exact ⟨i, rfl, k _ (g i) H S ok (hg i H S) q⟩
theorem inv_abs {ds : List D} {S : Sd} {Q : DK} (h : rdAbs ds S Q) : ∃ i, ds = [.int i] ∧ Q (.int (if i < 0 then -i else i)) S := by
  cases ds with
  | nil => exact h.elim
  | cons d t => cases t with
    | nil => cases d <;> first | exact ⟨_, rfl, h⟩ | exact (show False from h).elim
    | cons e r => cases d <;> exact (show False from h).elim
theorem inv_int {ds : List D} {S : Sd} {Q : DK} (h : rdInt ds S Q) : (∃ i, ds = [.int i] ∧ Q (.int i) S) ∨ ∃ b, ds = [.bl b] ∧ Q (.int (if b then 1 else 0)) S := by
  cases ds with
  | nil => exact h.elim
  | cons d t => cases t with
    | nil => cases d <;> first | exact .inl ⟨_, rfl, h⟩ | exact .inr ⟨_, rfl, h⟩ | exact (show False from h).elim
    | cons e r => cases d <;> exact (show False from h).elim
theorem inv_max2 {ds : List D} {S : Sd} {Q : DK} (h : rdMax2 ds S Q) : ∃ i j, ds = [.int i, .int j] ∧ Q (.int (if j > i then j else i)) S := by
  cases ds with
  | nil => exact h.elim
  | cons d t => cases t with
    | nil => cases d <;> exact (show False from h).elim
    | cons e r => cases r with
      | nil => cases d <;> cases e <;> first | exact ⟨_, _, rfl, h⟩ | exact (show False from h).elim
      | cons f r => cases d <;> cases e <;> exact (show False from h).elim
theorem inv_min2 {ds : List D} {S : Sd} {Q : DK} (h : rdMin2 ds S Q) : ∃ i j, ds = [.int i, .int j] ∧ Q (.int (if j < i then j else i)) S := by
  cases ds with
  | nil => exact h.elim
  | cons d t => cases t with
    | nil => cases d <;> exact (show False from h).elim
    | cons e r => cases r with
      | nil => cases d <;> cases e <;> first | exact ⟨_, _, rfl, h⟩ | exact (show False from h).elim
      | cons f r => cases d <;> cases e <;> exact (show False from h).elim
theorem inv_isi {ds : List D} {S : Sd} {Q : DK} (h : rdIsi ds S Q) : ∃ d n b, ds = [d, .ty n] ∧ isiD d n = some b ∧ Q (.bl b) S := by
  cases ds with
  | nil => exact h.elim
  | cons d t => cases t with
    | nil => exact (show False from h).elim
    | cons e r => cases r with
      | cons f r => cases e <;> exact (show False from h).elim
      | nil =>
        cases e with
        | ty n =>
          have h' : (match isiD d n with | some b => Q (.bl b) S | none => False) := h
          cases q : isiD d n with
          | none => rw [q] at h'; exact h'.elim
          | some b => rw [q] at h'; exact ⟨d, n, b, rfl, q, h'⟩
        | _ => exact (show False from h).elim
theorem cd_abs : CallD X (.builtin "abs") rdAbs := ⟨_, call_abs, int1_lift (g := fun i => .int (if i < 0 then -i else i)) (fun _ _ _ => rfl) fun ds S Q h => inv_abs h⟩
theorem int2_lift {K : PySem.W.Frag} {g : Int → Int → D} {gv : Int → Int → V} {rd : RDC} (hg : ∀ i j H S, Rp K H S (g i j) (gv i j)) (h1 : ∀ ds S Q, rd ds S Q → ∃ i j, ds = [.int i, .int j] ∧ Q (g i j) S) :
    LiftC K (fun xs H Q => ∃ i j, xs = [.int i, .int j] ∧ Q (gv i j) H) rd := fun H S fr σd σ xs ds Qv Qd ok r h k => by
  obtain ⟨i, j, rfl, q⟩ := h1 ds S Qd h
  obtain ⟨v, w, rfl, r1, r2⟩ := rpL2 r
  have e : v = .int i := r1
  have e2 : w = .int j := r2
  subst e e2
  exact ⟨i, j, rfl, k _ (g i j) H S ok (hg i j H S) q⟩
theorem cd_max2 (hc : X.calm = true) : CallD X (.builtin "max") rdMax2 := ⟨_, call_max2 hc, int2_lift (g := fun i j => .int (if j > i then j else i)) (fun _ _ _ _ => rfl) fun ds S Q h => inv_max2 h⟩
theorem cd_min2 (hc : X.calm = true) : CallD X (.builtin "min") rdMin2 := ⟨_, call_min2 hc, int2_lift (g := fun i j => .int (if j < i then j else i)) (fun _ _ _ _ => rfl) fun ds S Q h => inv_min2 h⟩
theorem cd_int : CallD X (.type "int") rdInt := ⟨_, call_int1, fun H S fr σd σ xs ds Qv Qd ok r h k => by
  rcases inv_int h with ⟨i, rfl, q⟩ | ⟨b, rfl, q⟩
  · obtain ⟨v, rfl, r0⟩ := rpL1 r
    have r := r0
    have e : v = .int i := r
    subst e
    exact .inl ⟨i, rfl, k _ (.int i) H S ok rfl q⟩
  · obtain ⟨v, rfl, r0⟩ := rpL1 r
    have r := r0
    have e : v = .bl b := r
    subst e
    exact .inr ⟨b, rfl, k _ (.int (if b then 1 else 0)) H S ok rfl q⟩⟩
theorem cd_all (hc : X.calm = true) : CallD X (.builtin "all") rdAll := ⟨_, cr_all hc, fun H S fr σd σ xs ds Qv Qd ok r h k => by
  match ds, r, h with
  | [], _, h => exact (show False from h).elim
  | _ :: _ :: _, _, h => exact (show False from h).elim
  | [d], r, h =>
    obtain ⟨v, rfl, r0⟩ := rpL1 r
    have r := r0
    obtain ⟨bs, e, q⟩ := h
    obtain ⟨a, vs, rfl, q1, r1⟩ := rp_lstD ok.rel r e
    rw [rpL_bls r1] at q1
    exact ⟨a, bs, rfl, q1, k _ (.bl (bs.all id)) H S ok rfl q⟩⟩
theorem cd_tuple : CallD X (.type "tuple") rdTupC := ⟨_, call_tuple_of, fun H S fr σd σ xs ds Qv Qd ok r h k => by
  match ds, r, h with
  | [], _, h => exact (show False from h).elim
  | _ :: _ :: _, _, h => exact (show False from h).elim
  | [d], r, h =>
    obtain ⟨v, rfl, r0⟩ := rpL1 r
    have r := r0
    have h' : (match itemsD S d with | some ds => Qd (.tup ds) S | none => False) := h
    cases e : itemsD S d with
    | none => rw [e] at h'; exact h'.elim
    | some ds =>
      rw [e] at h'
      obtain ⟨a, vs, rfl, q, r2⟩ := rp_items ok.rel r e
      refine ⟨a, vs, rfl, ?_⟩
      rcases q with q | q
      · exact .inl ⟨q, fun l hl => k _ (.tup ds) _ S (ok.new hl) (rp_tupNew ok.rel hl r2) h'⟩
      · exact .inr ⟨q, k _ (.tup ds) H S ok ⟨a, vs, rfl, q, r2⟩ h'⟩⟩
theorem cd_list : CallD X (.type "list") rdListC := ⟨_, call_list_of, fun H S fr σd σ xs ds Qv Qd ok r h k => by
  match ds, r, h with
  | [], _, h => exact (show False from h).elim
  | _ :: _ :: _, _, h => exact (show False from h).elim
  | [d], r, h =>
    obtain ⟨v, rfl, r0⟩ := rpL1 r
    have r := r0
    have h' : (match itemsD S d with | some ds => Qd (.lst ds) S | none => False) := h
    cases e : itemsD S d with
    | none => rw [e] at h'; exact h'.elim
    | some ds =>
      rw [e] at h'
      obtain ⟨a, vs, rfl, q, r2⟩ := rp_items ok.rel r e
      exact ⟨a, vs, rfl, q, fun l hl => k _ (.lst ds) _ S (ok.new hl) (rp_lstNew ok.rel hl r2) h'⟩⟩
theorem isi_ty {K : PySem.W.Frag} {H : Hp} {S : Sd} {d : D} {v : V} {t : String} (R : RelS K H S) (r : Rp K H S d v) (e : tyD d = some t) : TyX K H v (.type t) := by
  cases d with
  | non => cases e; have e : v = .non := r; subst e; exact .base .non
  | bl b => cases e; have e : v = .bl b := r; subst e; exact .base (.bl b)
  | int i => cases e; have e : v = .int i := r; subst e; exact .base (.int i)
  | str x => cases e; have e : v = .str x := r; subst e; exact .base (.str x)
  | tup ds =>
    cases e
    obtain ⟨a, vs, rfl, q, _⟩ := r
    rcases q with (q | ⟨o, q⟩) | ⟨o, its, n, h1, h2, _⟩
    · exact .base (.tup q)
    · exact .fTuple q
    · exact .kTuple h1 h2
  | lst ds =>
    cases e
    obtain ⟨a, vs, rfl, q, _⟩ := r
    rcases q with ⟨q | ⟨o, q⟩, _⟩ | ⟨o, its, n, h1, h2, _⟩
    · exact .base (.lst q)
    · exact .base (.frz q)
    · exact .kList h1 h2
  | _ => cases e
theorem cd_isi : CallD X (.builtin "isinstance") rdIsi := ⟨_, call_isi, fun H S fr σd σ xs ds Qv Qd ok r h k => by
  obtain ⟨d, n, b, rfl, e, q⟩ := inv_isi h
  obtain ⟨v, w, rfl, r1, r2⟩ := rpL2 r
  have e0 : w = .ty n := r2
  subst e0
  unfold isiD at e
  cases e2 : tyD d with
  | none => rw [e2] at e; cases e
  | some t =>
    rw [e2] at e
    exact ⟨v, .ty n, .type t, .type n, b, rfl, .ty n, isi_ty ok.rel r1 e2, kit_ty e, k _ (.bl b) H S ok rfl q⟩⟩
end
end Dv

/-! Readings by value, 4: statements, targets, loops, comprehensions, defs. -/
namespace Dv
open PySem L2 PyProof.Rows

section
variable {K : PySem.W.Frag} {H : Hp} {S : Sd} {fr : List (V × D)} {Dd : EndsD} {D0 : Ends} {σd : Si} {σ : L2.St} {W : Wi}
theorem Ok.pre {fr2 : List (V × D)} (o : Ok K H S (fr2 ++ fr) σd σ) : Ok K H S fr σd σ := ⟨o.rel, fun p hp => o.fr p (List.mem_append_right _ hp), o.len, o.si⟩
theorem Cl.pre {fr2 : List (V × D)} (c : Cl K W fr) : Cl K W (fr2 ++ fr) := fun σd σ H S cls od x o => c σd σ H S cls od x o.pre
end

section
variable {X : Cx} {W : Wi} {st : Stmt} {rest : List Stmt} {t u : TSD} {e c : Expr} {te : TED} {tc : TTD} {pos : Pos}
def dNext : TSD := fun D σ S => D.nx σ S
def dSeq (t u : TSD) : TSD := fun D σ S => t { D with nx := u D } σ S
theorem db_nil : DB X W [] dNext := ⟨PSs.imp pss_nil fun D σ H ⟨σd, S, fr, Dd, ok, cl, h, k⟩ => k.nx σd σ H S ok h⟩
theorem db_cons (h1 : DS X W st t) (h2 : DB X W rest u) : DB X W (st :: rest) (dSeq t u) :=
  ⟨PSs.imp (pss_cons h1.p h2.p) fun D σ H ⟨σd, S, fr, Dd, ok, cl, h, k⟩ => ⟨σd, S, fr, { Dd with nx := u Dd }, ok, cl, h,
    ⟨fun σd' σ' H' S' ok' q => ⟨σd', S', fr, Dd, ok', cl, q, k⟩, k.rt, k.bk, k.ct⟩⟩⟩
theorem db_one (h1 : DS X W st t) : DB X W [st] t := ⟨pss_one h1.p⟩
def dDrop (te : TED) : TSD := fun D σ S => te σ S fun _ S1 => D.nx σ S1
theorem ds_expr (he : DE X W e te) (hs : swapsWith e none pos.line X.env = pure false := by rfl) : DS X W (.Expr e pos) (dDrop te) :=
  ⟨PS.imp (ps_expr he.p hs) fun D σ H ⟨σd, S, fr, Dd, ok, cl, h, k⟩ => ⟨σd, S, fr, _, ok, cl, h, fun v d H' S' ok' r q => k.nx σd σ H' S' ok' q⟩⟩
def dRet (te : TED) : TSD := fun D σ S => te σ S D.rt
theorem ds_ret (he : DE X W e te) : DS X W (.Return (some e) pos) (dRet te) :=
  ⟨PS.imp (ps_ret he.p) fun D σ H ⟨σd, S, fr, Dd, ok, cl, h, k⟩ => ⟨σd, S, fr, _, ok, cl, h, fun v d H' S' ok' r q => k.rt v d σd σ H' S' ok' r q⟩⟩
def dIfS (c : TTD) (t u : TSD) : TSD := fun D σ S => c σ S fun b S1 => if b = true then t D σ S1 else u D σ S1
theorem ds_if {a b : List Stmt} (hc : DT X W c tc) (ha : DB X W a t) (hb : DB X W b u) : DS X W (.If c a b pos) (dIfS tc t u) :=
  ⟨PS.imp (ps_if hc.p ha.p hb.p) fun D σ H ⟨σd, S, fr, Dd, ok, cl, h, k⟩ => ⟨σd, S, fr, _, ok, cl, h, fun b H1 S1 ok1 h1 => by
    cases b with
    | true => exact (show upSt X.K W t D σ H1 from ⟨σd, S1, fr, Dd, ok1, cl, (show t Dd σd S1 from by simpa using h1), k⟩)
    | false => exact (show upSt X.K W u D σ H1 from ⟨σd, S1, fr, Dd, ok1, cl, (show u Dd σd S1 from by simpa using h1), k⟩)⟩⟩

/-! ### targets -/
abbrev TGD := D → Si → Sd → (Si → Sd → Prop) → Prop
abbrev TGsD := List D → Si → Sd → (Si → Sd → Prop) → Prop
/-- vs: slots that may change -/
def upG (K : PySem.W.Frag) (W : Wi) (vs : List Nat) (t : TGD) : TG := fun v σ H Q => ∃ σd S fr Qd d, Ok K H S fr σd σ ∧ Cl K W fr ∧ Rp K H S d v ∧ t d σd S Qd ∧
  ∀ σ' σd' H' S', Ok K H' S' fr σd' σ' → wipe σ' vs = wipe σ vs → Qd σd' S' → Q σ' H'
def upGs (K : PySem.W.Frag) (W : Wi) (vs : List Nat) (t : TGsD) : TGs := fun us σ H Q => ∃ σd S fr Qd ds, Ok K H S fr σd σ ∧ Cl K W fr ∧ RpL K H S ds us ∧ t ds σd S Qd ∧
  ∀ σ' σd' H' S', Ok K H' S' fr σd' σ' → wipe σ' vs = wipe σ vs → Qd σd' S' → Q σ' H'
structure DG (X : Cx) (W : Wi) (vs : List Nat) (e : Expr) (t : TGD) : Prop where
  p : PG X e (upG X.K W vs t)
structure DGs (X : Cx) (W : Wi) (vs : List Nat) (es : List Expr) (t : TGsD) : Prop where
  p : PGs X es (upGs X.K W vs t)
theorem PG.imp {e : Expr} {t t' : TG} (h : PG X e t) (k : ∀ v σ H Q, t' v σ H Q → t v σ H Q) : PG X e t' := ⟨fun pins s σ H v u Q I r q => h.run pins s σ H v u Q I r (k _ _ _ _ q)⟩
theorem PGs.imp {e : List Expr} {t t' : TGs} (h : PGs X e t) (k : ∀ v σ H Q, t' v σ H Q → t v σ H Q) : PGs X e t' := ⟨fun pins s σ H v u Q I r q => h.run pins s σ H v u Q I r (k _ _ _ _ q)⟩
theorem wipe_set {σ : L2.St} {i : Nat} {x : Option V} : ∀ {vs : List Nat}, i ∈ vs → wipe (σ.set i x) vs = wipe σ vs
  | v :: vs, h => by
    unfold wipe
    by_cases hv : i ∈ vs
    · rw [wipe_set hv]
    · have e : i = v := by
        rcases List.mem_cons.mp h with e | e
        · exact e
        · exact absurd e hv
      subst e
      have gen : ∀ (ws : List Nat), i ∉ ws → wipe (σ.set i x) ws = (wipe σ ws).set i x := by
        intro ws
        induction ws with
        | nil => intro _; rfl
        | cons w ws ih =>
          intro hm
          have h1 : i ≠ w := fun e => hm (by rw [e]; exact List.mem_cons_self)
          have h2 : i ∉ ws := fun e => hm (List.mem_cons_of_mem _ e)
          show (wipe (σ.set i x) ws).set w none = ((wipe σ ws).set w none).set i x
          rw [ih h2, List.set_comm _ _ h1]
      rw [gen vs hv, List.set_set]
def dName (i : Nat) : TGD := fun d σ S Q => Q (σ.set i (some d)) S
theorem dg_name {vs : List Nat} {i : Nat} {x : Str} (hN : X.N.Nodup) (hi : X.N[i]? = some x) (hx : Loc X.env.scope x) (hv : i ∈ vs) (hf : X.fn x = true ∨ X.env.scope.names.lookup x = some .local := by first | exact .inl rfl | exact .inr rfl | assumption) :
    DG X W vs (.Name x pos) (dName i) := ⟨PG.imp (pg_name hN hi hx hf) fun v σ H Q ⟨σd, S, fr, Qd, d, ok, cl, r, h, k⟩ => k _ _ H S (ok.set r i) (wipe_set hv) h⟩
def dGNil : TGsD := fun ds σ S Q => match ds with
  | [] => Q σ S
  | _ => False
def dGCons (t : TGD) (u : TGsD) : TGsD := fun ds σ S Q => match ds with
  | d :: r => t d σ S fun σ' S' => u r σ' S' Q
  | [] => False
theorem dgs_nil {vs : List Nat} : DGs X W vs [] dGNil := ⟨PGs.imp pgs_nil fun v σ H Q ⟨σd, S, fr, Qd, ds, ok, cl, r, h, k⟩ => by
  cases ds with
  | nil => exact ⟨r, k σ σd H S ok rfl h⟩
  | cons d s => exact (show False from h).elim⟩
theorem dgs_cons {vs : List Nat} {es : List Expr} {t : TGD} {u : TGsD} (h1 : DG X W vs e t) (h2 : DGs X W vs es u) (hs : (assignEach (e :: es) X.env).map (·.2) = assign e X.env :: (assignEach es X.env).map (·.2) := by rfl) : DGs X W vs (e :: es) (dGCons t u) :=
  ⟨PGs.imp (pgs_cons h1.p h2.p hs) fun us σ H Q ⟨σd, S, fr, Qd, ds, ok, cl, r, h, k⟩ => by
    cases ds with
    | nil => exact (show False from h).elim
    | cons d s =>
      obtain ⟨v, ur, e1, r1, r2⟩ := r
      refine ⟨v, ur, e1, σd, S, (ur.zip s) ++ fr, fun σ' S' => u s σ' S' Qd, d, ?_, cl.pre, r1, h, fun σ' σd' H' S' ok' hw q => ?_⟩
      · refine ⟨ok.rel, fun p hp => ?_, ok.len, ok.si⟩
        rcases List.mem_append.mp hp with hp | hp
        · obtain ⟨i, hi⟩ := List.mem_iff_getElem?.mp hp
          rw [List.getElem?_zip_eq_some] at hi
          obtain ⟨w, q1, q2⟩ := rpL_get r2 hi.2
          rw [hi.1] at q1
          cases q1
          exact q2
        · exact ok.fr p hp
      · refine ⟨σd', S', fr, Qd, s, ok'.pre, cl, ?_, q, fun σ2 σd2 H2 S2 ok2 hw2 q2 => k σ2 σd2 H2 S2 ok2 (hw2.trans hw) q2⟩
        have hl := rpL_len r2
        have gen : ∀ (s : List D) (ur : List V), s.length = ur.length → (∀ p ∈ ur.zip s, Rp X.K H' S' p.2 p.1) → RpL X.K H' S' s ur := by
          intro s
          induction s with
          | nil => intro ur hl _; exact List.length_eq_zero_iff.mp hl.symm
          | cons d s ih =>
            intro ur hl hz
            cases ur with
            | nil => cases hl
            | cons w ur =>
              refine ⟨w, ur, rfl, hz (w, d) (by simp), ih ur (by simpa using hl) fun p hp => hz p ?_⟩
              rw [List.zip_cons_cons]
              exact List.mem_cons_of_mem _ hp
        exact gen s ur hl fun p hp => ok'.fr p (List.mem_append_left _ hp)⟩
/-- (a, b, ..) = a tuple or a list of that length -/
def dTupG (n : Nat) (t : TGsD) : TGD := fun d σ S Q => match d with
  | .tup ds => ds.length = n ∧ t ds σ S Q
  | _ => False
theorem dg_tup {vs : List Nat} {es : List Expr} {k : Nat} {t : TGsD} {n : Nat} (hc : X.calm = true) (h : DGs X W vs es t) (hn : (assignEach es X.env).length = n := by rfl) (hst : (assignEach es X.env).findIdx? (·.1) = none := by rfl) :
    DG X W vs (.Tuple es k pos) (dTupG n t) := ⟨PG.imp (pg_tup hc h.p hn hst) fun v σ H Q ⟨σd, S, fr, Qd, d, ok, cl, r, q, k⟩ => by
  cases d with
  | tup ds =>
    obtain ⟨a, vs, e, q1, r1⟩ := r
    exact ⟨a, vs, e, q1, (rpL_len r1).symm.trans q.1, σd, S, fr, Qd, ds, ok, cl, r1, q.2, k⟩
  | _ => exact (show False from q).elim⟩
def dAsg (te : TED) (g : TGD) : TSD := fun D σ S => te σ S fun x S1 => g x σ S1 D.nx
theorem ds_asg {vs : List Nat} {tg : Expr} {g : TGD} (he : DE X W e te) (hg : DG X W vs tg g) (hs : swapsWithSole [tg] e pos.line X.env = pure false := by rfl) (hw : swappedStores [tg] e X.env = pure none := by rfl)
    (h1 : (assignEach [tg] X.env).map (·.2) = [assign tg X.env] := by rfl) : DS X W (.Assign [tg] e pos) (dAsg te g) :=
  ⟨PS.imp (ps_asg he.p hg.p hs hw h1) fun D σ H ⟨σd, S, fr, Dd, ok, cl, h, k⟩ => ⟨σd, S, fr, _, ok, cl, h, fun v d H1 S1 ok1 r1 q => ⟨σd, S1, fr, Dd.nx, d, ok1, cl, r1, q, fun σ' σd' H' S' ok' _ q' => k.nx σd' σ' H' S' ok' q'⟩⟩⟩
def dSet (i : Nat) (te : TED) : TSD := fun D σ S => te σ S fun x S1 => D.nx (σ.set i (some x)) S1
theorem ds_set (i : Nat) {x : Str} {pos' : Pos} (hN : X.N.Nodup) (hi : X.N[i]? = some x) (hx : Loc X.env.scope x) (he : DE X W e te) (hs : swapsWith e (some (.Name x pos')) pos.line X.env = pure false := by rfl)
    (hf : X.fn x = true ∨ X.env.scope.names.lookup x = some .local := by first | exact .inl rfl | exact .inr rfl | assumption) : DS X W (.Assign [.Name x pos'] e pos) (dSet i te) :=
  ⟨PS.imp (ps_set hN hi hx he.p hs hf) fun D σ H ⟨σd, S, fr, Dd, ok, cl, h, k⟩ => ⟨σd, S, fr, _, ok, cl, h, fun v d H1 S1 ok1 r1 q => k.nx _ _ H1 S1 (ok1.set r1 i) q⟩⟩
/-- a, b = x, y -/
def dPar (i j : Nat) (ta : TAD) : TSD := fun D σ S => ta σ S fun vs S1 => match vs with
  | [v, w] => D.nx ((σ.set i (some v)).set j (some w)) S1
  | _ => False
theorem ds_par (i j : Nat) {x y : Str} {a b : Expr} {ta : TAD} {px py pt : Pos} {kt k2 pt2} (hc : X.calm = true) (hN : X.N.Nodup) (hi : X.N[i]? = some x) (hj : X.N[j]? = some y) (hij : i ≠ j)
    (hx : X.env.scope.names.lookup x = some .local) (hy : X.env.scope.names.lookup y = some .local) (ha : DA X W [a, b] ta) (hw : swappedStores [.Tuple [.Name x px, .Name y py] kt pt] (.Tuple [a, b] k2 pt2) X.env = pure (some [x, y]))
    (hs : swapsWithSole [.Tuple [.Name x px, .Name y py] kt pt] (.Tuple [a, b] k2 pt2) pos.line X.env = pure false := by rfl) :
    DS X W (.Assign [.Tuple [.Name x px, .Name y py] kt pt] (.Tuple [a, b] k2 pt2) pos) (dPar i j ta) :=
  ⟨PS.imp (ps_par hc hN hi hj hij hx hy ha.p hw hs) fun D σ H ⟨σd, S, fr, Dd, ok, cl, h, k⟩ => ⟨σd, S, fr, _, ok, cl, h, fun vs ds H1 S1 ok1 r1 q => by
    cases ds with
    | nil => exact (show False from q).elim
    | cons d r => cases r with
      | nil => exact (show False from q).elim
      | cons d2 r => cases r with
        | cons _ _ => exact (show False from q).elim
        | nil =>
          obtain ⟨v, w, rfl, h1, h2⟩ := rpL2 r1
          exact ⟨v, w, rfl, k.nx _ _ H1 S1 ((ok1.set h1 i).set h2 j) q⟩⟩⟩
/-- l[k] = e, l an owned list -/
def setQ (S : Sd) (k : D) (v : D) (Q : Sd → Prop) : D → Prop
  | .obj a => match S a, k with
    | some (.lst ds), .int i => match ixN ds.length i with
      | some j => Q (upS S a (.lst (ds.set j v)))
      | none => False
    | _, _ => False
  | _ => False
theorem setQ_inv {S : Sd} {k v o : D} {Q : Sd → Prop} (h : setQ S k v Q o) : ∃ a ds i j, o = .obj a ∧ S a = some (.lst ds) ∧ k = .int i ∧ ixN ds.length i = some j ∧ Q (upS S a (.lst (ds.set j v))) := by
  cases o with
  | obj a =>
    unfold setQ at h
    dsimp only at h
    split at h
    · rename_i x y ds i e
      split at h
      · rename_i j ej
        exact ⟨a, ds, i, j, rfl, e, rfl, ej, h⟩
      · exact h.elim
    · exact h.elim
  | _ => exact (show False from h).elim
def dStore (to ti te : TED) : TSD := fun D σ S => te σ S fun v S1 => to σ S1 fun o S2 => ti σ S2 fun k S3 => setQ S3 k v (D.nx σ) o
theorem ds_store {o i : Expr} {to ti : TED} {spos : Pos} (ho : DE X W o to) (hi : DE X W i ti) (he : DE X W e te) (ha : ∀ v, assign (.Subscript o i spos) X.env v = (do
      let ov ← holding [v] (eval o X.env)
      let iv ← holding [v, ov] (eval i X.env)
      standAt spos
      holding [v, ov, iv] (setItem ov iv v)
      release [v, ov, iv] []) := by intro _; rfl) (hs : swapsWithSole [.Subscript o i spos] e pos.line X.env = pure false := by rfl) (hw : swappedStores [.Subscript o i spos] e X.env = pure none := by rfl)
    (h1 : (assignEach [.Subscript o i spos] X.env).map (·.2) = [assign (.Subscript o i spos) X.env] := by rfl) : DS X W (.Assign [.Subscript o i spos] e pos) (dStore to ti te) :=
  ⟨PS.imp (ps_asg he.p (pg_sub ho.p hi.p set_list ha) hs hw h1) fun D σ H ⟨σd, S, fr, Dd, ok, cl, h, k⟩ => ⟨σd, S, fr, _, ok, cl, h, fun v d H1 S1 ok1 r1 q =>
    ⟨σd, S1, (v, d) :: fr, _, ok1.cons r1, cl.tail, q, fun ov od H2 S2 ok2 r2 q => ⟨σd, S2, (ov, od) :: (v, d) :: fr, _, ok2.cons r2, cl.tail.tail, q, fun kv kd H3 S3 ok3 r3 q => by
      obtain ⟨a, ds, n, j, e1, e2, e3, e4, q5⟩ := setQ_inv q
      have ro := ok3.head
      have rv := ok3.tail.head
      have ok4 := ok3.tail.tail
      subst e1 e3
      obtain ⟨vs, hv, rl⟩ := rp_obj ok4.rel e2
      refine ⟨a, vs, n, j, ro, r3, hv, by rw [← rpL_len rl]; exact e4, ?_⟩
      have st : Step H3 S3 (upd H3 a (.lst (vs.set j v))) (upS S3 a (.lst (ds.set j d))) := step_set e2
      exact k.nx σd σ _ _ (ok4.step st (rel_set ok4.rel e2 ⟨_, upd_same, rpL_step ok4.rel st _ _ (rpL_set j rl rv)⟩)) q5⟩⟩⟩⟩
/-! ### methods of built-in types -/
def tyM (T : String) (d : D) (S : Sd) : Prop := match d with
  | .str _ => T = "str"
  | .int _ => T = "int"
  | .lst ds => T = "list"
  | .obj a => T = "list" ∧ ∃ ds, S a = some (.lst ds)
  | _ => False
abbrev RDM := D → List D → Sd → DK → Prop
def dBM (T : String) (rd : RDM) (to : TED) (t : TAD) : TED := fun σ S Q => to σ S fun o S1 => tyM T o S1 ∧ t σ S1 fun vs S2 => rd o vs S2 Q
def dBM0 (T : String) (rd : RDM) (to : TED) : TED := fun σ S Q => to σ S fun o S1 => tyM T o S1 ∧ rd o [] S1 Q
/-! ### what a loop walks -/
structure ItD (K : PySem.W.Frag) (J : It) (xs : List D) (fr : List (V × D)) : Prop where
  go : ∀ (i : Nat) (d : D), xs[i]? = some d → ∀ H S σd σ, Ok K H S fr σd σ → J.go i H ∧ ∀ x H', J.yld i H x H' → Ok K H' S fr σd σ ∧ Rp K H' S d x
  stop : ∀ H S σd σ, Ok K H S fr σd σ → J.stop xs.length H
abbrev TID := Si → Sd → (List D → Sd → Prop) → Prop
def upI (K : PySem.W.Frag) (W : Wi) (t : TID) : TI := fun σ H R => ∃ σd S fr Rd, Ok K H S fr σd σ ∧ Cl K W fr ∧ t σd S Rd ∧ ∀ J xs H' S' fr', Ok K H' S' (fr' ++ fr) σd σ → ItD K J xs (fr' ++ fr) → Rd xs S' → R J H'
structure DI (X : Cx) (W : Wi) (tg iter : Expr) (t : TID) : Prop where
  p : PI X tg iter (upI X.K W t)
theorem PI.imp {tg iter : Expr} {t t' : TI} (h : PI X tg iter t) (k : ∀ σ H Q, t' σ H Q → t σ H Q) : PI X tg iter t' := ⟨fun pins s σ H Q I q => h.run pins s σ H Q I (k _ _ _ q)⟩
theorem itd_list {K : PySem.W.Frag} {a : Addr} {ds : List D} {fr : List (V × D)} : ItD K (Itl K a) ds ((.ref a, .lst ds) :: fr) where
  go := fun i d e H S σd σ ok => by
    obtain ⟨a', vs, e1, q, r⟩ := rp_list ok.rel ok.head
    have e1' : V.ref a = .ref a' := e1
    cases e1'
    obtain ⟨v, h1, h2⟩ := rpL_get r e
    refine ⟨⟨vs, v, q, h1⟩, fun x H' y => ?_⟩
    obtain ⟨e2, y⟩ := y
    subst e2
    have h3 := y vs q
    rw [h1] at h3
    cases h3
    exact ⟨ok, h2⟩
  stop := fun H S σd σ ok => by
    obtain ⟨a', vs, e1, q, r⟩ := rp_list ok.rel ok.head
    have e1' : V.ref a = .ref a' := e1
    cases e1'
    exact ⟨vs, q, by rw [rpL_len r]; exact Nat.le_refl _⟩
theorem itd_tup {K : PySem.W.Frag} {a : Addr} {ds : List D} {fr : List (V × D)} : ItD K (Itt K a) ds ((.ref a, .tup ds) :: fr) where
  go := fun i d e H S σd σ ok => by
    obtain ⟨a', vs, e1, q, r⟩ := ok.head
    have e1' : V.ref a = .ref a' := e1
    cases e1'
    obtain ⟨v, h1, h2⟩ := rpL_get r e
    refine ⟨⟨vs, v, q, h1⟩, fun x H' y => ?_⟩
    obtain ⟨e2, y⟩ := y
    subst e2
    have h3 := y vs q
    rw [h1] at h3
    cases h3
    exact ⟨ok, h2⟩
  stop := fun H S σd σ ok => by
    obtain ⟨a', vs, e1, q, r⟩ := ok.head
    have e1' : V.ref a = .ref a' := e1
    cases e1'
    exact ⟨vs, q, by rw [rpL_len r]; exact Nat.le_refl _⟩
def rgD (lo : Int) (n : Nat) : List D := (List.range n).map fun (i : Nat) => D.int (lo + i)
theorem itd_rng {K : PySem.W.Frag} {lo : Int} {n : Nat} {fr : List (V × D)} : ItD K (Itr lo n) (rgD lo n) fr where
  go := fun i d e H S σd σ ok => by
    unfold rgD at e
    rw [List.getElem?_map] at e
    cases q : (List.range n)[i]? with
    | none => rw [q] at e; cases e
    | some j =>
      rw [q] at e
      cases e
      obtain ⟨h1, h2⟩ := List.getElem?_eq_some_iff.mp q
      rw [List.getElem_range] at h2
      subst h2
      refine ⟨show i < n by simpa using h1, fun x H' y => ?_⟩
      obtain ⟨e2, y⟩ := y
      subst e2
      subst y
      exact ⟨ok, rfl⟩
  stop := fun H S σd σ ok => by
    unfold rgD
    rw [List.length_map, List.length_range]
    exact Nat.le_refl n
/-- over a list or a tuple that stands still -/
def dIter (te : TED) : TID := fun σ S R => te σ S fun x S1 => match x with
  | .lst ds => R ds S1
  | _ => False
def dRng1 (ta : TAD) : TID := fun σ S R => ta σ S fun xs S1 => match xs with
  | [.int j] => (-(2 ^ 62) ≤ j ∧ j < 2 ^ 62) ∧ R (rgD 0 j.toNat) S1
  | _ => False
def dRng2 (ta : TAD) : TID := fun σ S R => ta σ S fun xs S1 => match xs with
  | [.int i, .int j] => (-(2 ^ 62) ≤ i ∧ i < 2 ^ 62 ∧ -(2 ^ 62) ≤ j ∧ j < 2 ^ 62) ∧ R (rgD i (j - i).toNat) S1
  | _ => False
theorem di_rng1 {a tg : Expr} {ta : TAD} {p pos : Pos} (hg : Gl X "range") (hm : X.mg "range" = none) (ha : DA X W [a] ta) (hs : starEach [a] X.env = [(false, eval a X.env)] := by rfl) : DI X W tg (.Call (.Name "range" p) [a] [] pos) (dRng1 ta) :=
  ⟨PI.imp (pi_range1 hg hm ha.p hs) fun σ H R ⟨σd, S, fr, Rd, ok, cl, h, k⟩ => ⟨σd, S, fr, _, ok, cl, h, fun vs ds H1 S1 ok1 r1 q => by
    cases ds with
    | nil => exact (show False from q).elim
    | cons d r => cases r with
      | cons _ _ => cases d <;> exact (show False from q).elim
      | nil => cases d with
        | int j =>
          obtain ⟨v, rfl, r2⟩ := rpL1 r1
          have e : v = .int j := r2
          subst e
          exact ⟨j, rfl, q.1.1, q.1.2, k _ _ H1 S1 [] ok1 itd_rng q.2⟩
        | _ => exact (show False from q).elim⟩⟩
theorem di_rng2 {a b tg : Expr} {ta : TAD} {p pos : Pos} (hg : Gl X "range") (hm : X.mg "range" = none) (ha : DA X W [a, b] ta) (hs : starEach [a, b] X.env = [(false, eval a X.env), (false, eval b X.env)] := by rfl) (hs2 : starEach [b] X.env = [(false, eval b X.env)] := by rfl) : DI X W tg (.Call (.Name "range" p) [a, b] [] pos) (dRng2 ta) :=
  ⟨PI.imp (pi_range2 hg hm ha.p hs hs2) fun σ H R ⟨σd, S, fr, Rd, ok, cl, h, k⟩ => ⟨σd, S, fr, _, ok, cl, h, fun vs ds H1 S1 ok1 r1 q => by
    cases ds with
    | nil => exact (show False from q).elim
    | cons d r => cases r with
      | nil => cases d <;> exact (show False from q).elim
      | cons d2 r => cases r with
        | cons _ _ => cases d <;> cases d2 <;> exact (show False from q).elim
        | nil => cases d with
          | int i => cases d2 with
            | int j =>
              obtain ⟨v, w, rfl, r2, r3⟩ := rpL2 r1
              have e : v = .int i := r2
              have e2 : w = .int j := r3
              subst e e2
              exact ⟨i, j, rfl, q.1, k _ _ H1 S1 [] ok1 itd_rng q.2⟩
            | _ => exact (show False from q).elim
          | _ => cases d2 <;> exact (show False from q).elim⟩⟩

/-! ### for -/
def dLoop (g : TGD) (tb : TSD) (D : EndsD) : List Dv.D → Si → Sd → Prop
  | [], σ, S => D.nx σ S
  | x :: r, σ, S => g x σ S fun σ2 S2 => tb { D with nx := dLoop g tb D r, ct := dLoop g tb D r, bk := D.nx } σ2 S2
def dFor (ti : TID) (g : TGD) (tb : TSD) : TSD := fun D σ S => ti σ S fun xs S1 => dLoop g tb D xs σ S1
theorem ds_for {vs : List Nat} {tg iter : Expr} {body : List Stmt} {ti : TID} {g : TGD} {tb : TSD} (hp : PassesOwn (model X.prog X.w) X.A X.env X.xe) (hc : X.calm = true) (hi : DI X W tg iter ti) (hg : DG X W vs tg g) (hb : DB X W body tb)
    (hs : ∀ x, foldedSetIterable iter X.env x = pure x := by intro _; rfl) : DS X W (.For tg iter body [] pos) (dFor ti g tb) :=
  ⟨PS.imp (ps_for hp hc hi.p hg.p hb.p hs) fun D σ H ⟨σd, S, fr, Dd, ok, cl, h, k⟩ => ⟨σd, S, fr, _, ok, cl, h, fun J xs H1 S1 fr' ok1 it q => by
    refine ⟨fun i m σ' H' => m = xs.length - i ∧ i ≤ xs.length ∧ ∃ σd' S', Ok X.K H' S' (fr' ++ fr) σd' σ' ∧ dLoop g tb Dd (xs.drop i) σd' S', ⟨_, rfl, Nat.zero_le _, σd, S1, ok1, by simpa using q⟩, ?_⟩
    rintro i m σ' H' ⟨rfl, hi, σd', S', ok', q'⟩
    by_cases hlt : i < xs.length
    · have ex : xs[i]? = some xs[i] := List.getElem?_eq_getElem hlt
      have dr : xs.drop i = xs[i] :: xs.drop (i + 1) := List.drop_eq_getElem_cons hlt
      rw [dr] at q'
      obtain ⟨g1, g2⟩ := it.go i _ ex H' S' σd' σ' ok'
      refine .inr ⟨g1, fun σ2 H2 => ∃ σd2 S2, Ok X.K H2 S2 (fr' ++ fr) σd2 σ2 ∧ dLoop g tb Dd (xs.drop (i + 1)) σd2 S2, fun σ2 H2 ⟨σd2, S2, h1, h2⟩ => ⟨_, by omega, rfl, hlt, σd2, S2, h1, h2⟩, fun x H2 y => ?_⟩
      obtain ⟨ok2, r2⟩ := g2 x H2 y
      refine ⟨σd', S', fr' ++ fr, _, xs[i], ok2, cl.pre, r2, q', fun σ3 σd3 H3 S3 ok3 _ q3 => ⟨σd3, S3, fr' ++ fr, _, ok3, cl.pre, q3, ?_⟩⟩
      exact ⟨fun σd4 σ4 H4 S4 ok4 q4 => ⟨σd4, S4, ok4, q4⟩, fun v d σd4 σ4 H4 S4 ok4 r4 q4 => k.rt v d σd4 σ4 H4 S4 ok4.pre r4 q4, fun σd4 σ4 H4 S4 ok4 q4 => k.nx σd4 σ4 H4 S4 ok4.pre q4, fun σd4 σ4 H4 S4 ok4 q4 => ⟨σd4, S4, ok4, q4⟩⟩
    · have e : i = xs.length := by omega
      subst e
      rw [List.drop_length] at q'
      exact .inl ⟨it.stop H' S' σd' σ' ok', k.nx σd' σ' H' S' ok'.pre q'⟩⟩⟩

/-! ### while -/
def dWhile (c : TTD) (tb : TSD) : TSD := fun D σ S => ∃ Wd : Nat → Si → Sd → Prop, (∃ m, Wd m σ S) ∧ ∀ m σ S, Wd m σ S →
  c σ S fun b S1 => if b = true then tb { D with nx := fun σ' S' => ∃ m', m' < m ∧ Wd m' σ' S', ct := fun σ' S' => ∃ m', m' < m ∧ Wd m' σ' S', bk := D.nx } σ S1 else D.nx σ S1
theorem ds_while {body : List Stmt} {tb : TSD} (hp : PassesOwn (model X.prog X.w) X.A X.env X.xe) (hc : DT X W c tc) (hb : DB X W body tb) : DS X W (.While c body [] pos) (dWhile tc tb) :=
  ⟨PS.imp (ps_while hp hc.p hb.p) fun D σ H ⟨σd, S, fr, Dd, ok, cl, ⟨Wd, ⟨m, w⟩, hw⟩, k⟩ =>
    ⟨fun m σ' H' => ∃ σd' S', Ok X.K H' S' fr σd' σ' ∧ Wd m σd' S', ⟨m, σd, S, ok, w⟩, fun m σ' H' ⟨σd', S', ok', w'⟩ => ⟨σd', S', fr, _, ok', cl, hw m σd' S' w', fun b H1 S1 ok1 q => by
      cases b with
      | true =>
        refine (show ∃ N : L2.St → Hp → Prop, _ from ⟨fun σ2 H2 => ∃ m' σd2 S2, m' < m ∧ Ok X.K H2 S2 fr σd2 σ2 ∧ Wd m' σd2 S2, fun σ2 H2 ⟨m', σd2, S2, h1, h2, h3⟩ => ⟨m', h1, σd2, S2, h2, h3⟩, σd', S1, fr, _, ok1, cl, (if_pos rfl : _ = _) ▸ q, ?_⟩)
        exact ⟨fun σd4 σ4 H4 S4 ok4 ⟨m', h1, h2⟩ => ⟨m', σd4, S4, h1, ok4, h2⟩, k.rt, k.nx, fun σd4 σ4 H4 S4 ok4 ⟨m', h1, h2⟩ => ⟨m', σd4, S4, h1, ok4, h2⟩⟩
      | false => exact (show D.nx σ' H1 from k.nx σd' σ' H1 S1 ok1 (by simpa using q))⟩⟩⟩
end
end Dv

/-! Readings by value, 5: comprehensions, defs, the law's end. -/
namespace Dv
open PySem L2 PyProof.Rows

def wipeD (σ : Si) : List Nat → Si
  | [] => σ
  | v :: vs => (wipeD σ vs).set v none
section
variable {K : PySem.W.Frag} {H : Hp} {S : Sd} {fr : List (V × D)} {σd : Si} {σ : L2.St}
theorem Ok.wipe (o : Ok K H S fr σd σ) : ∀ vs : List Nat, Ok K H S fr (wipeD σd vs) (L2.wipe σ vs)
  | [] => o
  | v :: vs => (Ok.wipe o vs).gone v none
theorem wipe_wipe (σ : L2.St) (vs : List Nat) : L2.wipe (L2.wipe σ vs) vs = L2.wipe σ vs := by
  have gen : ∀ (ws : List Nat), (∀ w ∈ ws, w ∈ vs) → L2.wipe (L2.wipe σ ws) vs = L2.wipe σ vs := by
    intro ws
    induction ws with
    | nil => intro _; rfl
    | cons w ws ih =>
      intro h
      show L2.wipe ((L2.wipe σ ws).set w none) vs = L2.wipe σ vs
      rw [wipe_set (h w List.mem_cons_self)]
      exact ih fun x hx => h x (List.mem_cons_of_mem _ hx)
  exact gen vs fun _ h => h
end

section
variable {X : Cx} {W : Wi} {pos : Pos}
structure DTs (X : Cx) (W : Wi) (ifs : List Expr) (t : TTD) : Prop where
  p : PTs X ifs (upT X.K W t)
theorem PTs.imp {ifs : List Expr} {t t' : TT} (h : PTs X ifs t) (k : ∀ σ H Q, t' σ H Q → t σ H Q) : PTs X ifs t' := ⟨fun pins s σ H Q I q => h.run pins s σ H Q I (k _ _ _ q)⟩
def dYes : TTD := fun _ S Q => Q true S
theorem dts_nil : DTs X W [] dYes := ⟨PTs.imp pts_nil fun σ H Q ⟨σd, S, fr, Qd, ok, cl, h, k⟩ => k true H S ok h⟩
theorem dts_one {c : Expr} {t : TTD} (h : DT X W c t) : DTs X W [c] t := ⟨pts_one h.p⟩
def dLcL (g : TGD) (tt : TTD) (te : TED) (p : Addr) (σw : Si) : List D → List D → Sd → (List D → Sd → Prop) → Prop
  | [], acc, S, Q => Q acc S
  | x :: r, acc, S, Q => g x σw S fun σ2 S2 => tt σ2 S2 fun b S3 => if b = true then te σ2 S3 fun y S4 => S4 p = some (.lst acc) ∧ acc.length < 16777216 ∧ dLcL g tt te p σw r (acc ++ [y]) (upS S4 p (.lst (acc ++ [y]))) Q
    else dLcL g tt te p σw r acc S3 Q
def dComp (ti : TID) (g : TGD) (tt : TTD) (te : TED) (vs : List Nat) : TED := fun σ S Q => ti σ S fun xs S1 => ∀ p, S1 p = none → dLcL g tt te p (wipeD σ vs) xs [] (upS S1 p (.lst [])) fun acc S2 => S2 p = some (.lst acc) ∧ Q (.lst acc) (del S2 p)
theorem lc_lift {K : PySem.W.Frag} {ti : TID} {g : TGD} {tt : TTD} {te : TED} {vs : List Nat} (σ : L2.St) (H : Hp) (Q : VK) (h : upE K W (dComp ti g tt te vs) σ H Q) :
    tLc (upI K W ti) (upG K W0 vs g) (upT K W0 tt) (upE K W0 te) vs σ H Q := by
  obtain ⟨σd, S, fr, Qd, ok, cl, h, k⟩ := h
  refine ⟨σd, S, fr, _, ok, cl, h, fun J xs H1 S1 fr' ok1 it q => ?_⟩
  intro Dl hD
  have q0 := q Dl (ok1.rel.free hD)
  have ok2 : Ok K (upd H1 Dl (.lst [])) (upS S1 Dl (.lst [])) (fr' ++ fr) σd σ := ok1.own hD rpL_nil
  have Fin : (List D → Sd → Prop) := fun acc S2 => S2 Dl = some (.lst acc) ∧ Qd (.lst acc) (del S2 Dl)
  refine ⟨fun i m H' => m = xs.length - i ∧ i ≤ xs.length ∧ ∃ S' acc, RelS K H' S' ∧ FrOk K H' S' ((fr' ++ fr) ++ prs σd σ) ∧ dLcL g tt te Dl (wipeD σd vs) (xs.drop i) acc S' (fun acc S2 => S2 Dl = some (.lst acc) ∧ Qd (.lst acc) (del S2 Dl)),
    ⟨_, rfl, Nat.zero_le _, _, [], ok2.rel, ok2.out, by simpa using q0⟩, ?_⟩
  rintro i m H' ⟨rfl, hi, S', acc, R', F', q'⟩
  have okp : Ok K H' S' ((fr' ++ fr) ++ prs σd σ) σd σ := ⟨R', F', ok.len, fun i d e => by
    obtain ⟨v, h1, _⟩ := ok.si i d e
    exact ⟨v, h1, F' (v, d) (List.mem_append_right _ (prs_mem h1 e))⟩⟩
  have ok' : Ok K H' S' (fr' ++ fr) σd σ := ⟨R', fun p hp => F' p (List.mem_append_left _ hp), okp.len, okp.si⟩
  by_cases hlt : i < xs.length
  · have ex : xs[i]? = some xs[i] := List.getElem?_eq_getElem hlt
    have dr : xs.drop i = xs[i] :: xs.drop (i + 1) := List.drop_eq_getElem_cons hlt
    rw [dr] at q'
    obtain ⟨g1, g2⟩ := it.go i _ ex H' S' σd σ ok'
    refine .inr ⟨g1, fun H2 => ∃ S2 acc2, RelS K H2 S2 ∧ FrOk K H2 S2 ((fr' ++ fr) ++ prs σd σ) ∧ dLcL g tt te Dl (wipeD σd vs) (xs.drop (i + 1)) acc2 S2 (fun acc S2 => S2 Dl = some (.lst acc) ∧ Qd (.lst acc) (del S2 Dl)), fun H2 ⟨S2, acc2, h1, h2, h3⟩ => ⟨_, by omega, rfl, hlt, S2, acc2, h1, h2, h3⟩, fun x H2 y => ?_⟩
    obtain ⟨ok3, _⟩ := g2 x H2 y
    obtain ⟨_, r2⟩ := (it.go i _ ex H' S' σd σ ok').2 x H2 y
    have okp3 : Ok K H2 S' ((fr' ++ fr) ++ prs σd σ) σd σ := ⟨ok3.rel, ok3.out, ok3.len, ok3.si⟩
    refine ⟨wipeD σd vs, S', (fr' ++ fr) ++ prs σd σ, _, xs[i], okp3.wipe vs, Cl.zero, r2, q', fun σ3 σd3 H3 S3 ok4 hw q3 => ⟨hw.trans (wipe_wipe σ vs), σd3, S3, (fr' ++ fr) ++ prs σd σ, _, ok4, Cl.zero, q3, fun b H4 S4 ok5 q4 => ?_⟩⟩
    cases b with
    | true =>
      refine (show upE K W0 te σ3 H4 _ from ⟨σd3, S4, (fr' ++ fr) ++ prs σd σ, _, ok5, Cl.zero, (by simpa using q4), fun y dy H5 S5 ok6 r6 q5 => ?_⟩)
      obtain ⟨p1, p2, p3⟩ := q5
      obtain ⟨ws, hv, rl⟩ := rp_obj ok6.rel p1
      have st : Step H5 S5 (upd H5 Dl (.lst (ws ++ [y]))) (upS S5 Dl (.lst (acc ++ [dy]))) := step_set p1
      have okf := ok6.step st (rel_set ok6.rel p1 ⟨_, upd_same, rpL_step ok6.rel st _ _ (rpL_app rl (rpL_cons r6 rpL_nil))⟩)
      exact ⟨ws, hv, by rw [← rpL_len rl]; exact sz_lt' p2, _, _, okf.rel, okf.fr, p3⟩
    | false => exact ⟨S4, acc, ok5.rel, ok5.fr, by simpa using q4⟩
  · have e : i = xs.length := by omega
    subst e
    rw [List.drop_length] at q'
    obtain ⟨p1, p2⟩ := q'
    exact .inl ⟨it.stop H' S' σd σ ok', k _ (.lst acc) H' _ (ok'.pre.step step_del (rel_del ok'.rel)) (rp_frozen ok'.rel p1) p2⟩
theorem de_lc {elt tg iter : Expr} {ifs : List Expr} {scope : Scope} {own : List (Str × Nat)} {ti : TID} {g : TGD} {tt : TTD} {te : TED} (hc : X.calm = true) (hN : X.N.Nodup) (hi : DI X W tg iter ti) (ok : BlkOk X.N X.env.scope scope own)
    (hg : ∀ (s : Shared) (H : Hp) (C : Addr) (cl : List (Str × Addr)) (fp : List Addr), DG (X.blk s H scope (compEnvC scope cl C X.env) fp) W0 (own.map (·.2)) tg g) (ht : ∀ (s : Shared) (H : Hp) (C : Addr) (cl : List (Str × Addr)) (fp : List Addr), DTs (X.blk s H scope (compEnvC scope cl C X.env) fp) W0 ifs tt)
    (he : ∀ (s : Shared) (H : Hp) (C : Addr) (cl : List (Str × Addr)) (fp : List Addr), DE (X.blk s H scope (compEnvC scope cl C X.env) fp) W0 elt te) (hs : ∀ x, foldedSetIterable iter X.env x = pure x := by intro _; rfl) :
    DE X W (.ListComp elt [⟨tg, iter, ifs, 0⟩] scope pos) (dComp ti g tt te (own.map (·.2))) :=
  ⟨PE.imp (pe_lc hc hN hi.p ok (fun s H C cl fp => (hg s H C cl fp).p) (fun s H C cl fp => (ht s H C cl fp).p) (fun s H C cl fp => (he s H C cl fp).p) hs) fun σ H Q h => lc_lift σ H Q h⟩
theorem ds_setLc (i : Nat) {y : Str} {py : Pos} {elt tg iter : Expr} {ifs : List Expr} {scope : Scope} {own : List (Str × Nat)} {spos : Pos} {ti : TID} {g : TGD} {tt : TTD} {te : TED} (hc : X.calm = true) (hN : X.N.Nodup) (hy : X.N[i]? = some y) (hyl : X.env.scope.names.lookup y = some .local)
    (hsw : swapsWith (.ListComp elt [⟨tg, iter, ifs, 0⟩] scope pos) (some (.Name y py)) spos.line X.env = pure true) (hi : DI X W tg iter ti) (ok : BlkOk X.N X.env.scope scope own)
    (hg : ∀ (s : Shared) (H : Hp) (C : Addr) (cl : List (Str × Addr)) (fp : List Addr), DG (X.blk s H scope (compEnvC scope cl C X.env) fp) W0 (own.map (·.2)) tg g) (ht : ∀ (s : Shared) (H : Hp) (C : Addr) (cl : List (Str × Addr)) (fp : List Addr), DTs (X.blk s H scope (compEnvC scope cl C X.env) fp) W0 ifs tt)
    (he : ∀ (s : Shared) (H : Hp) (C : Addr) (cl : List (Str × Addr)) (fp : List Addr), DE (X.blk s H scope (compEnvC scope cl C X.env) fp) W0 elt te) (hs : ∀ x, foldedSetIterable iter X.env x = pure x := by intro _; rfl) :
    DS X W (.Assign [.Name y py] (.ListComp elt [⟨tg, iter, ifs, 0⟩] scope pos) spos) (dSet i (dComp ti g tt te (own.map (·.2)))) :=
  ⟨PS.imp (ps_setLc hc hN hy hyl hsw hi.p ok (fun s H C cl fp => (hg s H C cl fp).p) (fun s H C cl fp => (ht s H C cl fp).p) (fun s H C cl fp => (he s H C cl fp).p) hs) fun D σ H ⟨σd, S, fr, Dd, ok, cl, h, k⟩ =>
    lc_lift (W := W) σ H _ ⟨σd, S, fr, _, ok, cl, h, fun v d H1 S1 ok1 r1 q => k.nx _ _ H1 S1 (ok1.set r1 i) q⟩⟩
end

/-! ### defs -/
def startD (N : List Str) (ds : List D) : Si := ds.map some ++ List.replicate (N.length - ds.length) none
theorem start_ok {K : PySem.W.Frag} {H : Hp} {S : Sd} {fr : List (V × D)} {N : List Str} {ds : List D} {vs : List V} (R : RelS K H S) (F : FrOk K H S fr) (r : RpL K H S ds vs) : Ok K H S fr (startD N ds) (L2.start N vs) := by
  have hl := rpL_len r
  refine ⟨R, F, by unfold startD L2.start; simp [hl], fun i d e => ?_⟩
  unfold startD at e
  unfold L2.start
  rcases Nat.lt_or_ge i ds.length with z | z
  · rw [List.getElem?_append_left (by simpa using z), List.getElem?_map] at e
    cases q : ds[i]? with
    | none => rw [q] at e; cases e
    | some d' =>
      rw [q] at e
      cases e
      obtain ⟨v, h1, h2⟩ := rpL_get r q
      exact ⟨v, by rw [List.getElem?_append_left (by simpa [← hl] using z), List.getElem?_map, h1]; rfl, h2⟩
  · rw [List.getElem?_append_right (by simpa using z), List.getElem?_replicate] at e
    split at e <;> cases e
/-- what a body is run in -/
abbrev bodyCx (P : Program) (w : World) (K : PySem.W.Frag) (mg : Str → Option Value) (base : Heap) (N : List Str) (qual : Str) (st : Stmt) (f : Addr) (cdv : Value) (A : Around) (outer : List Env) (s : Shared) (H : Hp) (E : XK) : Cx :=
  cxOf (L2N.CX P w) P w K mg base N qual (defScope st) f cdv A outer s H E
abbrev wiOf (E : XK) (Ed : XKD) : Wi := ⟨fun cls d _ H => E cls d H, fun x _ S => Ed x S⟩
theorem takesB {P : Program} {w : World} {K : PySem.W.Frag} {mg : Str → Option Value} {base : Heap} {N : List Str} {qual : Str} {st : Stmt} {f : Addr} {cdv : Value} {A : Around} {outer : List Env} {s : Shared} {H : Hp} {E : XK} {Ed : XKD} :
    L2N.Takes (bodyCx P w K mg base N qual st f cdv A outer s H E) (wiOf E Ed).V := L2N.takes_of rfl rfl rfl rfl
theorem passB {P : Program} {w : World} {K : PySem.W.Frag} {mg : Str → Option Value} {base : Heap} {N : List Str} {qual : Str} {st : Stmt} {f : Addr} {cdv : Value} {A : Around} {outer : List Env} {s : Shared} {H : Hp} {E : XK} :
    PassesOwn (model P w) (bodyCx P w K mg base N qual st f cdv A outer s H E).A (bodyCx P w K mg base N qual st f cdv A outer s H E).env (bodyCx P w K mg base N qual st f cdv A outer s H E).xe :=
  passes_of (X := bodyCx P w K mg base N qual st f cdv A outer s H E) rfl
section
variable {P : Program} {w : World} {K : PySem.W.Frag} {mg : Str → Option Value} {base : Heap}
/-- THE RULE for a def -/
theorem okD {x qual : Str} {st : Stmt} {f : Addr} {fd : FuncData} {N ps : List Str} {k : Nat} {sp : SpD} {t : XKD → TSD} (F : Fun K x qual st f fd) (Sc : FnScope N ps (defScope st)) (len : ∀ ds S Q E, sp ds S Q E → ds.length = ps.length)
    (hb : ∀ (cdv : Value) (A : Around) (outer : List Env) (s : Shared) (H : Hp) (E : XK) (Ed : XKD), Hx.RoomG k (A.deeper (envOfC qual (defScope st) s.heap.objs.size f cdv)) → DB (bodyCx P w K mg base N qual st f cdv A outer s H E) (wiOf E Ed) (defBody st) (t Ed))
    (hp : ∀ ds S Q Ed, sp ds S Q Ed → t Ed { nx := fun _ S' => Q .non S', rt := Q } (startD N ds) S) : Hx.FnG P w K mg base (L2N.CX P w) (k + 1) f fd ps (upF K sp) := by
  refine Hx.fnG_of F Sc (fun vs H Q E h => ?_) (fun cdv _ A outer s H vs Q E hr h => ?_)
  · obtain ⟨ds, S, fr, Qd, Ed, R, f, r, h, _⟩ := h
    rw [← rpL_len r]
    exact len ds S Qd Ed h
  · obtain ⟨ds, S, fr, Qd, Ed, R, f, r, h, hq, hx⟩ := h
    refine ⟨_, (hb cdv A outer s H E Ed hr).p, startD N ds, S, fr, { nx := fun _ S' => Qd .non S', rt := Qd }, start_ok R f r, fun σd σ H' S' cls od y o rx q => hx cls od y H' S' o.rel o.fr rx q, hp ds S Qd Ed h, ?_⟩
    exact ⟨fun σd σ H' S' o q => hq .non .non H' S' o.rel o.fr rfl q, fun v d σd σ H' S' o rv q => hq v d H' S' o.rel o.fr rv q, fun _ _ _ _ _ q => q.elim, fun _ _ _ _ _ q => q.elim⟩
end
theorem CX_no {P : Program} {w : World} {outer : List Env} {H : Hp} {s : Shared} {e : Value} {s' : Shared} (h : L2N.CX P w outer H s (fun _ _ _ => False) e s') : False := by
  obtain ⟨_, _, _, _, _, _, _, _, _, _, _, _, z⟩ := h
  exact z.elim
end Dv

/-! Readings by value, 6: more of the built-ins. -/
namespace PyProof.Rows
open PySem
section
variable {prog : Program} {w : World} {A : Around} {E : Value → Shared → Prop} {s : Shared}
end
end PyProof.Rows

namespace HT
open PySem PyProof.Rows
section
variable {prog : Program} {w : World} {A : Around} {E : Value → Shared → Prop} {s : Shared}
theorem fm_congr {α β : Type} {f g : α → Option β} : ∀ {l : List α}, (∀ x ∈ l, f x = g x) → l.filterMap f = l.filterMap g
  | [], _ => rfl
  | x :: l, h => by
    rw [List.filterMap_cons, List.filterMap_cons, h x List.mem_cons_self, fm_congr fun y hy => h y (List.mem_cons_of_mem _ hy)]
end
end HT

namespace Dv
open PySem L2 PyProof.Rows
section
variable {X : Cx}
/-! ### a text times an int -/
def repS (x : Str) (n : Nat) : Str := ⟨(List.replicate n x.cps).foldl (· ++ ·) #[]⟩
def rRepS : R2 := fun x y H Q => ∃ z k, x = .str z ∧ y = .int k ∧ 0 ≤ k ∧ (z.length : Int) * k ≤ 16777216 ∧ k ≤ 16777216 ∧ Q (.str (repS z k.toNat)) H
theorem fold_rep (x : Array Nat) : ∀ (n : Nat) (acc : Array Nat), ((List.replicate n x).foldl (· ++ ·) acc).toList = acc.toList ++ (List.replicate n x.toList).flatten
  | 0, acc => by simp
  | n + 1, acc => by
    rw [List.replicate_succ, List.foldl_cons, fold_rep x n (acc ++ x)]
    simp [List.replicate_succ]
theorem repS_list (x : Str) (n : Nat) : (repS x n).cps.toList = (List.replicate n x.cps.toList).flatten := by
  unfold repS
  rw [fold_rep]
  rfl
theorem str_ext {x y : Str} (h : x.cps.toList = y.cps.toList) : x = y := by
  cases x; cases y
  congr 1
  exact Array.toList_inj.mp h
theorem op_mulS : OpR X (binaryOp .Mult) rRepS := by
  intro pins s σ H x y v u Q I rx ry h
  obtain ⟨z, k, rfl, rfl, h0, hz, hk, q⟩ := h
  obtain ⟨t, rfl⟩ := rx
  obtain ⟨t', rfl⟩ := ry
  refine PySem.P.mul_str ?_ ?_ ?_ ?_
  · have h1 : ¬ k < -(2 ^ 63 : Int) := by omega
    have h2 : ¬ k ≥ 2 ^ 63 := by omega
    rw [decide_eq_false h1, decide_eq_false h2]; rfl
  · intro h1 h2 h3
    have p1 : (0 : Int) < k := by omega
    have e2 : ((2 ^ 63 - 1 : Int) / k + 1) * k > 2 ^ 63 - 1 := by
      have := Int.lt_ediv_add_one_mul_self (2 ^ 63 - 1 : Int) p1
      omega
    have e3 : (2 ^ 63 - 1 : Int) / k + 1 ≤ z.length := by omega
    have e4 : ((2 ^ 63 - 1 : Int) / k + 1) * k ≤ z.length * k := Int.mul_le_mul_of_nonneg_right e3 (by omega)
    omega
  · intro h1 h2
    have e : ((z.length * k.toNat : Nat) : Int) = z.length * k := by
      rw [Int.natCast_mul, Int.toNat_of_nonneg h0]
    refine decide_eq_false ?_
    rw [sl_eq]
    omega
  · by_cases h1 : k < 1
    · rw [if_pos h1]
      have e : k = 0 := by omega
      subst e
      exact ⟨by decide, ⟨.str (repS z 0), H, I.tok _, ⟨_, rfl⟩, q⟩⟩
    · rw [if_neg h1]
      by_cases h2 : (k == 1 || z.length == 0) = true
      · rw [if_pos h2]
        have e : repS z k.toNat = z := by
          refine str_ext ?_
          rw [repS_list]
          rcases Bool.or_eq_true_iff.mp h2 with e | e
          · have e1 : k = 1 := eq_of_beq e
            subst e1
            simp
          · have e1 : z.length = 0 := eq_of_beq e
            have e2 : z.cps.toList = [] := List.length_eq_zero_iff.mp (by simpa [Str.length] using e1)
            rw [e2]
            simp
        rw [e] at q
        exact ⟨.str z, H, I, ⟨_, rfl⟩, q⟩
      · rw [if_neg h2]
        have hl : (repS z k.toNat).length ≤ sizeLine := by
          have e : (repS z k.toNat).length = k.toNat * z.length := by
            have := congrArg List.length (repS_list z k.toNat)
            simpa [Str.length] using this
          have e2 : ((k.toNat * z.length : Nat) : Int) = k * z.length := by
            rw [Int.natCast_mul, Int.toNat_of_nonneg h0]
          have e3 : k * (z.length : Int) = z.length * k := Int.mul_comm _ _
          rw [e, sl_eq]
          omega
        exact ⟨hl, ⟨.str (repS z k.toNat), H, I.tok _, ⟨_, rfl⟩, q⟩⟩
def rdMul : RD2
  | .int i, .int j, S, Q => i.natAbs.log2 + j.natAbs.log2 < 1000000 ∧ Q (.int (i * j)) S
  | .str z, .int k, S, Q => (0 ≤ k ∧ (z.length : Int) * k ≤ 16777216 ∧ k ≤ 16777216) ∧ Q (.str (repS z k.toNat)) S
  | _, _, _, _ => False
end

/-! ### xs[::-1] -/
section
variable {X : Cx} {W : Wi} {e : Expr} {te : TED} {pos : Pos}
def revS (z : Str) : Str := ⟨z.cps.toList.reverse.toArray⟩
def dRev (te : TED) : TED := fun σ S Q => te σ S fun x S1 => match x with
  | .tup ds => Q (.tup ds.reverse) S1
  | .lst ds => Q (.lst ds.reverse) S1
  | .str z => z.length ≤ 16777216 ∧ Q (.str (revS z)) S1
  | .obj a => match S1 a with
    | some (.lst ds) => Q (.lst ds.reverse) S1
    | _ => False
  | _ => False
/-! ### for over a list, a tuple, a text -/
def iAny (K : PySem.W.Frag) (tl : TE) : TI := fun σ H R => tl σ H fun x H1 => (∃ a, x = .ref a ∧ (∃ xs, SqL K H1 a xs) ∧ R (Itl K a) H1) ∨ (∃ a, x = .ref a ∧ (∃ xs, SqT K H1 a xs) ∧ R (Itt K a) H1) ∨ (∃ z, x = .str z ∧ R (Its z) H1)
theorem pi_any {tg : Expr} {tl : TE} (hl : PE X e tl) : PI X tg e (iAny X.K tl) := by
  refine ⟨fun pins s σ H R I h => ?_⟩
  refine thn (hl.run pins s σ H _ I h) fun v s1 ⟨x, H1, I1, r1, q1⟩ => ?_
  rcases q1 with ⟨a, ex, ⟨xs, hq⟩, q⟩ | ⟨a, ex, ⟨xs, hq⟩, q⟩ | ⟨z, ex, q⟩
  · subst ex
    cases r1
    obtain ⟨its, rv, p, hz⟩ := I1.list hq
    refine wpAny_pyIter_list p.isList ?_
    refine ⟨s1.heap.objs.size, [s1.heap.objs.size], _, _, H1, rfl, I1.kept (t' := s1.toks) fun b o e => Heap.get?_push_of_some _ e, turn_list a _, ⟨_, Heap.get?_push_size _ rfl, rfl, rfl⟩, fun b hb => ?_, q⟩
    have e : b = s1.heap.objs.size := by simpa using hb
    subst e
    exact I1.fpOk (Nat.le_refl _) (I1.hok.fresh (Nat.le_refl _))
  · subst ex
    cases r1
    obtain ⟨its, rv, p, hz⟩ := I1.tuple hq
    refine wpAny_pyIter_tuple (show s1.heap.IsTuple a its.toArray from p) ?_
    refine ⟨s1.heap.objs.size, [s1.heap.objs.size], _, _, H1, rfl, I1.kept (t' := s1.toks) fun b o e => Heap.get?_push_of_some _ e, turn_tuple a _, ⟨_, Heap.get?_push_size _ rfl, rfl, rfl⟩, fun b hb => ?_, q⟩
    have e : b = s1.heap.objs.size := by simpa using hb
    subst e
    exact I1.fpOk (Nat.le_refl _) (I1.hok.fresh (Nat.le_refl _))
  · subst ex
    obtain ⟨t, rfl⟩ := r1
    cases ha : z.cps.all (· < 128)
    · exact wpAny_pyIter_wide ha (pi_one (tk := s1.toks) I1 _ (turn_str _ z t "str_iterator" (.inr rfl)) ⟨_, Heap.get?_push_size _ rfl, rfl, rfl⟩ q)
    · exact wpAny_pyIter_ascii ha (pi_one (tk := s1.toks) I1 _ (turn_str _ z t "str_ascii_iterator" (.inl rfl)) ⟨_, Heap.get?_push_size _ rfl, rfl, rfl⟩ q)
def sgD (z : Str) : List D := z.cps.toList.map fun c => D.str ⟨#[c]⟩
theorem itd_str {K : PySem.W.Frag} {z : Str} {fr : List (V × D)} : ItD K (Its z) (sgD z) fr where
  go := fun i d e H S σd σ ok => by
    unfold sgD at e
    rw [List.getElem?_map] at e
    cases q : z.cps.toList[i]? with
    | none => rw [q] at e; cases e
    | some c =>
      rw [q] at e
      cases e
      have q2 : z.cps[i]? = some c := by simpa using q
      refine ⟨(Array.getElem?_eq_some_iff.mp q2).1, fun x H' y => ?_⟩
      obtain ⟨e2, c', e3, y⟩ := y
      subst e2
      rw [q2] at e3
      cases e3
      subst y
      exact ⟨ok, rfl⟩
  stop := fun H S σd σ ok => by
    show z.cps.size ≤ (sgD z).length
    unfold sgD
    simp
def dItr (te : TED) : TID := fun σ S R => te σ S fun x S1 => match x with
  | .lst ds => R ds S1
  | .tup ds => R ds S1
  | .str z => R (sgD z) S1
  | _ => False
theorem di_any {tg : Expr} (hl : DE X W e te) : DI X W tg e (dItr te) := ⟨PI.imp (pi_any hl.p) fun σ H R ⟨σd, S, fr, Rd, ok, cl, h, k⟩ => ⟨σd, S, fr, _, ok, cl, h, fun x dx H1 S1 ok1 r1 q => by
  cases dx with
  | lst ds =>
    obtain ⟨a, vs, e, q1, r2⟩ := rp_list ok1.rel r1
    subst e
    exact .inl ⟨a, rfl, ⟨vs, q1⟩, k _ ds H1 S1 [(.ref a, .lst ds)] (ok1.cons r1) itd_list q⟩
  | tup ds =>
    obtain ⟨a, vs, e, q1, r2⟩ := id r1
    subst e
    exact .inr (.inl ⟨a, rfl, ⟨vs, q1⟩, k _ ds H1 S1 [(.ref a, .tup ds)] (ok1.cons r1) itd_tup q⟩)
  | str z => exact .inr (.inr ⟨z, r1, k _ (sgD z) H1 S1 [] ok1 itd_str q⟩)
  | _ => exact (show False from q).elim⟩⟩

/-! ### a, b, c = x, y, z -/
def dPar3 (i j l : Nat) (ta : TAD) : TSD := fun D σ S => ta σ S fun vs S1 => match vs with
  | [v, w, u] => D.nx (((σ.set i (some v)).set j (some w)).set l (some u)) S1
  | _ => False
end
end Dv

/-! Readings by value, x: the rows by which a reading is run. -/
namespace Dv
open PySem L2 PyProof.Rows
theorem isi_non_int  : isiD (.non) "int" = some false := by
  show kitB "NoneType" "int" = some false
  decide +kernel
theorem isi_non_bool  : isiD (.non) "bool" = some false := by
  show kitB "NoneType" "bool" = some false
  decide +kernel
theorem isi_non_str  : isiD (.non) "str" = some false := by
  show kitB "NoneType" "str" = some false
  decide +kernel
theorem isi_non_tuple  : isiD (.non) "tuple" = some false := by
  show kitB "NoneType" "tuple" = some false
  decide +kernel
theorem isi_non_list  : isiD (.non) "list" = some false := by
  show kitB "NoneType" "list" = some false
  decide +kernel
theorem isi_bl_int (b : Bool) : isiD (.bl b) "int" = some true := by
  show kitB "bool" "int" = some true
  decide +kernel
theorem isi_bl_bool (b : Bool) : isiD (.bl b) "bool" = some true := by
  show kitB "bool" "bool" = some true
  decide +kernel
theorem isi_bl_str (b : Bool) : isiD (.bl b) "str" = some false := by
  show kitB "bool" "str" = some false
  decide +kernel
theorem isi_bl_tuple (b : Bool) : isiD (.bl b) "tuple" = some false := by
  show kitB "bool" "tuple" = some false
  decide +kernel
theorem isi_bl_list (b : Bool) : isiD (.bl b) "list" = some false := by
  show kitB "bool" "list" = some false
  decide +kernel
theorem isi_int_int (i : Int) : isiD (.int i) "int" = some true := by
  show kitB "int" "int" = some true
  decide +kernel
theorem isi_int_bool (i : Int) : isiD (.int i) "bool" = some false := by
  show kitB "int" "bool" = some false
  decide +kernel
theorem isi_int_str (i : Int) : isiD (.int i) "str" = some false := by
  show kitB "int" "str" = some false
  decide +kernel
theorem isi_int_tuple (i : Int) : isiD (.int i) "tuple" = some false := by
  show kitB "int" "tuple" = some false
  decide +kernel
theorem isi_int_list (i : Int) : isiD (.int i) "list" = some false := by
  show kitB "int" "list" = some false
  decide +kernel
theorem isi_str_int (x : Str) : isiD (.str x) "int" = some false := by
  show kitB "str" "int" = some false
  decide +kernel
theorem isi_str_bool (x : Str) : isiD (.str x) "bool" = some false := by
  show kitB "str" "bool" = some false
  decide +kernel
theorem isi_str_str (x : Str) : isiD (.str x) "str" = some true := by
  show kitB "str" "str" = some true
  decide +kernel
theorem isi_str_tuple (x : Str) : isiD (.str x) "tuple" = some false := by
  show kitB "str" "tuple" = some false
  decide +kernel
theorem isi_str_list (x : Str) : isiD (.str x) "list" = some false := by
  show kitB "str" "list" = some false
  decide +kernel
theorem isi_tup_int (xs : List D) : isiD (.tup xs) "int" = some false := by
  show kitB "tuple" "int" = some false
  decide +kernel
theorem isi_tup_bool (xs : List D) : isiD (.tup xs) "bool" = some false := by
  show kitB "tuple" "bool" = some false
  decide +kernel
theorem isi_tup_str (xs : List D) : isiD (.tup xs) "str" = some false := by
  show kitB "tuple" "str" = some false
  decide +kernel
theorem isi_tup_tuple (xs : List D) : isiD (.tup xs) "tuple" = some true := by
  show kitB "tuple" "tuple" = some true
  decide +kernel
theorem isi_tup_list (xs : List D) : isiD (.tup xs) "list" = some false := by
  show kitB "tuple" "list" = some false
  decide +kernel
theorem isi_lst_int (xs : List D) : isiD (.lst xs) "int" = some false := by
  show kitB "list" "int" = some false
  decide +kernel
theorem isi_lst_bool (xs : List D) : isiD (.lst xs) "bool" = some false := by
  show kitB "list" "bool" = some false
  decide +kernel
theorem isi_lst_str (xs : List D) : isiD (.lst xs) "str" = some false := by
  show kitB "list" "str" = some false
  decide +kernel
theorem isi_lst_tuple (xs : List D) : isiD (.lst xs) "tuple" = some false := by
  show kitB "list" "tuple" = some false
  decide +kernel
theorem isi_lst_list (xs : List D) : isiD (.lst xs) "list" = some true := by
  show kitB "list" "list" = some true
  decide +kernel
section
variable {S : Sd} {Q : DK} {R : List D → Sd → Prop} {σ : Si}
theorem x_var0 {d : D} {r : Si} : dVar 0 (some d :: r) S Q = Q d S := rfl
theorem x_varS {o : Option D} {r : Si} {i : Nat} : dVar (i + 1) (o :: r) S Q = dVar i r S Q := rfl
theorem ite_tt {P R : Prop} : (if true = true then P else R) = P := if_pos rfl
theorem ite_ff {P R : Prop} : (if false = true then P else R) = R := if_neg Bool.false_ne_true
theorem x_len_tup {ds : List D} : rdLen [.tup ds] S Q = Q (.int ds.length) S := rfl
theorem x_len_lst {ds : List D} : rdLen [.lst ds] S Q = Q (.int ds.length) S := rfl
theorem x_len_str {z : Str} : rdLen [.str z] S Q = (z.length ≤ 16777216 ∧ Q (.int z.length) S) := rfl
theorem x_isi {d : D} {n : String} : rdIsi [d, .ty n] S Q = match isiD d n with | some b => Q (.bl b) S | none => False := rfl
theorem x_ixt {ds : List D} {i : Int} : rdIx (.tup ds) (.int i) S Q = ixQ S Q (atI ds i) := rfl
theorem x_ixl {ds : List D} {i : Int} : rdIx (.lst ds) (.int i) S Q = ixQ S Q (atI ds i) := rfl
theorem x_ixo {a : Addr} {ds : List D} {i : Int} (h : S a = some (.lst ds)) : rdIx (.obj a) (.int i) S Q = ixQ S Q (atI ds i) := by
  show (match S a with | some (.lst ds) => ixQ S Q (atI ds i) | _ => False) = _
  rw [h]
theorem x_set {a : Addr} {ds : List D} {i : Int} {j : Nat} {v : D} {Q : Sd → Prop} (h : S a = some (.lst ds)) (hj : ixN ds.length i = some j) : setQ S (.int i) v Q (.obj a) = Q (upS S a (.lst (ds.set j v))) := by
  show (match S a, (D.int i) with | some (.lst ds), .int i => (match ixN ds.length i with | some j => Q (upS S a (.lst (ds.set j v))) | none => False) | _, _ => False) = _
  rw [h]
  dsimp only
  rw [hj]
end
theorem ixN_nat {n : Nat} {j : Nat} (h : j < n) : ixN n (j : Int) = some j := by
  unfold ixN
  rw [if_pos (Int.natCast_nonneg j), if_pos (by omega)]
  simp
theorem atI_lt {ds : List D} {i : Int} (h0 : 0 ≤ i) (h1 : i < ds.length) : atI ds i = ds[i.toNat]? := by
  unfold atI ixN
  rw [if_pos h0, if_pos h1]
  rfl
theorem atI_some {ds : List D} {i : Int} (h0 : 0 ≤ i) (h1 : i < ds.length) : ∃ d, atI ds i = some d ∧ d ∈ ds := by
  rw [atI_lt h0 h1]
  have h2 : i.toNat < ds.length := by omega
  exact ⟨ds[i.toNat], List.getElem?_eq_getElem h2, List.getElem_mem h2⟩

section
variable {S : Sd} {Q : DK} {i j : Int} {k l : Bool} {x y : Str} {xs ys : List D}
theorem x_add_ii : rdAdd (.int i) (.int j) S Q = Q (.int (i + j)) S := rfl
theorem x_add_ib : rdAdd (.int i) (.bl k) S Q = Q (.int (i + b2i k)) S := rfl
theorem x_add_ss : rdAdd (.str x) (.str y) S Q = (x.length + y.length ≤ 16777216 ∧ Q (.str (x ++ y)) S) := rfl
theorem x_add_tt : rdAdd (.tup xs) (.tup ys) S Q = (xs.length + ys.length ≤ 16777216 ∧ Q (.tup (xs ++ ys)) S) := rfl
theorem x_add_ll : rdAdd (.lst xs) (.lst ys) S Q = (xs.length + ys.length ≤ 16777216 ∧ Q (.lst (xs ++ ys)) S) := rfl
theorem x_sub : rdSub (.int i) (.int j) S Q = Q (.int (i - j)) S := rfl
theorem x_mul : rdMul (.int i) (.int j) S Q = (i.natAbs.log2 + j.natAbs.log2 < 1000000 ∧ Q (.int (i * j)) S) := rfl
theorem x_mul_s : rdMul (.str x) (.int j) S Q = ((0 ≤ j ∧ (x.length : Int) * j ≤ 16777216 ∧ j ≤ 16777216) ∧ Q (.str (repS x j.toNat)) S) := rfl
theorem x_fdiv : rdFdiv (.int i) (.int j) S Q = ((j ≠ 0 ∧ j.natAbs.log2 < 9000) ∧ Q (.int (i.fdiv j)) S) := rfl
theorem x_mod : rdMod (.int i) (.int j) S Q = (j ≠ 0 ∧ Q (.int (i.fmod j)) S) := rfl
theorem x_pow : rdPow (.int i) (.int j) S Q = ((0 ≤ j ∧ ((i.natAbs.log2 : Int) + 1) * j ≤ 134217728) ∧ Q (.int (i ^ j.toNat)) S) := rfl
theorem x_neg : rdNeg (.int i) S Q = Q (.int (-i)) S := rfl
theorem x_lt : rdLt (.int i) (.int j) S Q = Q (.bl (decide (i < j))) S := rfl
theorem x_le : rdLe (.int i) (.int j) S Q = Q (.bl (decide (i ≤ j))) S := rfl
theorem x_gt : rdGt (.int i) (.int j) S Q = Q (.bl (decide (j < i))) S := rfl
theorem x_ge : rdGe (.int i) (.int j) S Q = Q (.bl (decide (j ≤ i))) S := rfl
theorem x_eq_ii : rdEq (.int i) (.int j) S Q = Q (.bl (decide (i = j))) S := rfl
theorem x_eq_ss : rdEq (.str x) (.str y) S Q = Q (.bl (decide (x = y))) S := rfl
theorem x_eq_bb : rdEq (.bl k) (.bl l) S Q = Q (.bl (decide (k = l))) S := rfl
theorem x_ne_ii : rdNe (.int i) (.int j) S Q = Q (.bl (!decide (i = j))) S := rfl
theorem x_ne_ss : rdNe (.str x) (.str y) S Q = Q (.bl (!decide (x = y))) S := rfl
theorem x_ne_bb : rdNe (.bl k) (.bl l) S Q = Q (.bl (!decide (k = l))) S := rfl
theorem x_abs : rdAbs [.int i] S Q = Q (.int (if i < 0 then -i else i)) S := rfl
theorem x_max2 : rdMax2 [.int i, .int j] S Q = Q (.int (if j > i then j else i)) S := rfl
theorem x_min2 : rdMin2 [.int i, .int j] S Q = Q (.int (if j < i then j else i)) S := rfl
theorem x_int_i : rdInt [.int i] S Q = Q (.int i) S := rfl
theorem x_int_b : rdInt [.bl k] S Q = Q (.int (if k then 1 else 0)) S := rfl
theorem x_sl_t {lo hi : Option Int} : rdSl (.tup xs) lo hi S Q = Q (.tup (cutD xs lo hi)) S := rfl
theorem x_sl_l {lo hi : Option Int} : rdSl (.lst xs) lo hi S Q = Q (.lst (cutD xs lo hi)) S := rfl
theorem x_sl_s {lo hi : Option Int} : rdSl (.str x) lo hi S Q = (x.length ≤ 16777216 ∧ Q (.str (cutS x lo hi)) S) := rfl
theorem x_ixs : rdIx (.str x) (.int i) S Q = (x.length ≤ 16777216 ∧ ixS S Q (atI x.cps.toList i)) := rfl
theorem x_allb {bs : List Bool} (e : xs = bs.map D.bl) (h : Q (.bl (bs.all id)) S) : rdAll [.lst xs] S Q := ⟨bs, by rw [e]; rfl, h⟩
end
theorem atI_0 {α : Type} {a : α} {r : List α} : atI (a :: r) 0 = some a := atI_nat (j := 0) rfl
theorem atI_1 {α : Type} {a b : α} {r : List α} : atI (a :: b :: r) 1 = some b := atI_nat (j := 1) rfl
theorem atI_2 {α : Type} {a b c : α} {r : List α} : atI (a :: b :: c :: r) 2 = some c := atI_nat (j := 2) rfl
theorem atI_3 {α : Type} {a b c d : α} {r : List α} : atI (a :: b :: c :: d :: r) 3 = some d := atI_nat (j := 3) rfl
theorem x_ixQ {S : Sd} {Q : DK} {d : D} : ixQ S Q (some d) = Q d S := rfl
theorem x_ixS {S : Sd} {Q : DK} {c : Nat} : ixS S Q (some c) = Q (.str ⟨#[c]⟩) S := rfl
theorem log2_lt {a : Int} {n : Nat} (h : a.natAbs < 2 ^ n) (h0 : 0 < n) : a.natAbs.log2 < n := PySem.Flt.log2_lt_of h0 h
/-! ### joints, loops -/
theorem seq_cut {t v : TSD} {E : EndsD} {σ : Si} {S : Sd} (Mid : Si → Sd → Prop) (h1 : ∀ N : Si → Sd → Prop, (∀ σ' S', Mid σ' S' → N σ' S') → t { E with nx := N } σ S) (h2 : ∀ σ' S', Mid σ' S' → v E σ' S') : dSeq t v E σ S := h1 (v E) h2
section
variable {g : TGD} {tb : TSD} {E : EndsD} {xs : List D}
theorem loop_pre (I : List D → Si → Sd → Prop) (hs : ∀ (p : List D) (x : D) (r : List D) (σ : Si) (S : Sd) (N : Si → Sd → Prop), xs = p ++ x :: r → I p σ S → (∀ σ' S', I (p ++ [x]) σ' S' → N σ' S') → g x σ S fun σ2 S2 => tb { E with nx := N, ct := N, bk := E.nx } σ2 S2)
    (hd : ∀ σ S, I xs σ S → E.nx σ S) : ∀ (r p : List D) (σ : Si) (S : Sd), xs = p ++ r → I p σ S → dLoop g tb E r σ S
  | [], p, σ, S, e, h => by
    rw [List.append_nil] at e
    rw [← e] at h
    exact hd σ S h
  | x :: r, p, σ, S, e, h => hs p x r σ S _ e h fun σ' S' h' => loop_pre I hs hd r (p ++ [x]) σ' S' (by rw [e]; simp) h'
theorem loop_all (I : List D → Si → Sd → Prop) {σ : Si} {S : Sd} (h0 : I [] σ S) (hs : ∀ (p : List D) (x : D) (r : List D) (σ : Si) (S : Sd) (N : Si → Sd → Prop), xs = p ++ x :: r → I p σ S → (∀ σ' S', I (p ++ [x]) σ' S' → N σ' S') → g x σ S fun σ2 S2 => tb { E with nx := N, ct := N, bk := E.nx } σ2 S2)
    (hd : ∀ σ S, I xs σ S → E.nx σ S) : dLoop g tb E xs σ S := loop_pre I hs hd xs [] σ S rfl h0
theorem rgD_len (lo : Int) (n : Nat) : (rgD lo n).length = n := by unfold rgD; rw [List.length_map, List.length_range]
theorem rgD_at {lo : Int} {n : Nat} {p r : List D} {x : D} (e : rgD lo n = p ++ x :: r) : x = .int (lo + p.length) ∧ p.length < n := by
  have h1 : (rgD lo n)[p.length]? = some x := by rw [e]; simp
  unfold rgD at h1
  rw [List.getElem?_map] at h1
  cases q : (List.range n)[p.length]? with
  | none => rw [q] at h1; cases h1
  | some j =>
    rw [q] at h1
    obtain ⟨h2, h3⟩ := List.getElem?_eq_some_iff.mp q
    rw [List.getElem_range] at h3
    subst h3
    exact ⟨(Option.some.inj h1).symm, by simpa using h2⟩
theorem loop_rng {lo : Int} {n : Nat} (I : Nat → Si → Sd → Prop) {σ : Si} {S : Sd} (h0 : I 0 σ S) (hs : ∀ (i : Nat) (σ : Si) (S : Sd) (N : Si → Sd → Prop), i < n → I i σ S → (∀ σ' S', I (i + 1) σ' S' → N σ' S') → g (.int (lo + i)) σ S fun σ2 S2 => tb { E with nx := N, ct := N, bk := E.nx } σ2 S2)
    (hd : ∀ σ S, I n σ S → E.nx σ S) : dLoop g tb E (rgD lo n) σ S :=
  loop_all (fun p σ S => I p.length σ S) h0 (fun p x r σ S N e h k => by
    obtain ⟨rfl, h1⟩ := rgD_at e
    exact hs p.length σ S N h1 h fun σ' S' h' => k σ' S' (by rw [List.length_append]; exact h')) fun σ S h => hd σ S (by rw [rgD_len] at h; exact h)
end
/-! ### comprehensions without a trace -/
theorem lcL_pure {te : TED} {p : Addr} {σw : Si} {i : Nat} {S : Sd} (f : D → D) : ∀ (xs acc : List D) (Q : List D → Sd → Prop), (∀ x ∈ xs, ∀ S' (Q' : DK), Q' (f x) S' → te (σw.set i (some x)) S' Q') → acc.length + xs.length ≤ 16777216 →
    Q (acc ++ xs.map f) (upS S p (.lst (acc ++ xs.map f))) → dLcL (dName i) dYes te p σw xs acc (upS S p (.lst acc)) Q
  | [], acc, Q, _, _, q => by
    rw [List.map_nil, List.append_nil] at q
    exact q
  | x :: r, acc, Q, h, hl, q => by
    rw [List.length_cons] at hl
    show (if true = true then te (σw.set i (some x)) (upS S p (.lst acc)) fun y S4 => S4 p = some (.lst acc) ∧ acc.length < 16777216 ∧ dLcL (dName i) dYes te p σw r (acc ++ [y]) (upS S4 p (.lst (acc ++ [y]))) Q else dLcL (dName i) dYes te p σw r acc (upS S p (.lst acc)) Q)
    rw [if_pos rfl]
    refine h x List.mem_cons_self _ _ ⟨upS_same, by omega, ?_⟩
    rw [upS_upS]
    refine lcL_pure f r (acc ++ [f x]) Q (fun y hy => h y (List.mem_cons_of_mem _ hy)) (by rw [List.length_append, List.length_singleton]; omega) ?_
    rw [List.append_assoc]
    exact q
theorem comp_pure {ti : TID} {te : TED} {i : Nat} {vs : List Nat} {σ : Si} {S : Sd} {Q : DK} (f : D → D) (xs : List D) (S1 : Sd) (hti : ∀ R : List D → Sd → Prop, R xs S1 → ti σ S R) (h : ∀ x ∈ xs, ∀ S' (Q' : DK), Q' (f x) S' → te ((wipeD σ vs).set i (some x)) S' Q') (hl : xs.length ≤ 16777216)
    (q : Q (.lst (xs.map f)) S1) : dComp ti (dName i) dYes te vs σ S Q := hti _ fun p hp => by
  refine lcL_pure f xs [] _ h (by simpa using hl) ⟨upS_same, ?_⟩
  rw [del_upS hp]
  exact q
end Dv

/-! Readings by value, y: texts, is, draws in a comprehension, loops with a measure. -/
namespace Dv
open PySem L2 PyProof.Rows
section
variable {X : Cx} {W : Wi}
/-! ### is -/
def rdIs : RD2 := fun x y S Q => match y with
  | .non => rdIsN x .non S Q
  | .bl b => (match x with | .bl a => Q (.bl (decide (a = b))) S | _ => False)
  | _ => False
def rdIsNot : RD2 := fun x y S Q => match y with
  | .non => rdNotN x .non S Q
  | .bl b => (match x with | .bl a => Q (.bl (!decide (a = b))) S | _ => False)
  | _ => False
/-! ### one sign in a text -/
def rdInS : RD2 := fun x y S Q => match x, y with
  | .str a, .str z => ∃ c, a = ⟨#[c]⟩ ∧ Q (.bl (decide (c ∈ z.cps.toList))) S
  | _, _ => False
/-! ### methods of texts -/
def rdCount : RDM := fun o vs S Q => match o, vs with
  | .str a, [.str b] => Q (.int (Txt.count a b)) S
  | _, _ => False
/-! ### list(text), tuple(text) -/
theorem vals_signs {z : Str} {us : List Value} (h : ItemsOf (SignAt z) us.toArray z.cps.size) : Vals (z.cps.toList.map fun c => V.str ⟨#[c]⟩) us := by
  obtain ⟨h1, h2⟩ := h
  refine vals_of_at (by simpa using h1.symm) fun j x u e1 e2 => ?_
  obtain ⟨c, t, e3, rfl⟩ := h2 j u (by simpa using e2)
  rw [List.getElem?_map] at e1
  have e4 : z.cps.toList[j]? = some c := by simpa using e3
  rw [e4] at e1
  cases e1
  exact ⟨t, rfl⟩
def rListS : List V → Hp → VK → Prop := fun xs H Q => ∃ z, xs = [.str z] ∧ z.length ≤ 16777216 ∧ ∀ p, H p = none → Q (.ref p) (upd H p (.lst (z.cps.toList.map fun c => V.str ⟨#[c]⟩)))
theorem call_listS (hc : X.calm = true) : CallR X (.type "list") rListS := by
  intro pins s σ H xs us Q I r h
  obtain ⟨z, rfl, hz, q⟩ := h
  obtain ⟨u, rfl, rx⟩ := vals1 r
  obtain ⟨t, rfl⟩ := (show ∃ t, u = .str z t from rx)
  have hz' : z.cps.size ≤ sizeLine := sz_le hz
  refine call_list_str (I.ok.hd hc) z t (fun h' tk acc c' hk e' hi => ?_) hz'
  refine ⟨.ref s.heap.objs.size, upd H s.heap.objs.size (.lst (z.cps.toList.map fun c => V.str ⟨#[c]⟩)), I.laid hk (Nat.le_refl _) (show ObjOk X.prog X.w _ _ _ (.lst _) from ⟨?_, acc.toList, c', vals_signs (by simpa using hi), ?_⟩), rfl, q _ (I.hok.fresh (Nat.le_refl _))⟩
  · rw [List.length_map, Array.length_toList]; exact hz'
  · simpa using e'
def rTupS : List V → Hp → VK → Prop := fun xs H Q => ∃ z, xs = [.str z] ∧ z.length ≤ 16777216 ∧ ∀ p, H p = none → Q (.ref p) (upd H p (.tup (z.cps.toList.map fun c => V.str ⟨#[c]⟩)))
theorem call_tupS (hc : X.calm = true) : CallR X (.type "tuple") rTupS := by
  intro pins s σ H xs us Q I r h
  obtain ⟨z, rfl, hz, q⟩ := h
  obtain ⟨u, rfl, rx⟩ := vals1 r
  obtain ⟨t, rfl⟩ := (show ∃ t, u = .str z t from rx)
  have hz' : z.cps.size ≤ sizeLine := sz_le hz
  refine call_tuple_str (I.ok.hd hc) z t (fun h' tk acc hk hi => ?_) hz'
  have I2 : Inv X pins σ H { s with heap := h', toks := tk } := I.kept hk
  refine ⟨.ref h'.objs.size, upd H h'.objs.size (.tup (z.cps.toList.map fun c => V.str ⟨#[c]⟩)), I2.laid (t' := tk) (fun c o e => Heap.get?_push_of_some _ e) (Nat.le_refl _) (show ObjOk X.prog X.w _ _ _ (.tup _) from ⟨?_, acc.toList, vals_signs (by simpa using hi), ?_⟩), rfl, q _ (I2.hok.fresh (Nat.le_refl _))⟩
  · rw [List.length_map, Array.length_toList]; exact hz'
  · rw [Array.toArray_toList]; exact IsTup.new _ _
theorem rpL_signs {K : PySem.W.Frag} {H : Hp} {S : Sd} {z : Str} : RpL K H S (sgD z) (z.cps.toList.map fun c => V.str ⟨#[c]⟩) := by
  unfold sgD
  induction z.cps.toList with
  | nil => exact rfl
  | cons n r ih => exact ⟨_, _, rfl, rfl, ih⟩
def rdListA : RDC := fun ds S Q => match ds with
  | [.str z] => z.length ≤ 16777216 ∧ Q (.lst (sgD z)) S
  | _ => rdListC ds S Q
def rdTupA : RDC := fun ds S Q => match ds with
  | [.str z] => z.length ≤ 16777216 ∧ Q (.tup (sgD z)) S
  | _ => rdTupC ds S Q
theorem one_str {ds : List D} : (∃ z, ds = [.str z]) ∨ ((∀ S Q, rdListA ds S Q → rdListC ds S Q) ∧ ∀ S Q, rdTupA ds S Q → rdTupC ds S Q) := by
  match ds with
  | [] => exact .inr ⟨fun _ _ h => h, fun _ _ h => h⟩
  | d :: e :: r => cases d <;> exact .inr ⟨fun _ _ h => h, fun _ _ h => h⟩
  | [d] => cases d with
    | str z => exact .inl ⟨z, rfl⟩
    | _ => exact .inr ⟨fun _ _ h => h, fun _ _ h => h⟩
theorem cd_listA (hc : X.calm = true) : CallD X (.type "list") rdListA := by
  obtain ⟨r, h, l⟩ := cd_list (X := X)
  refine ⟨_, h.or (call_listS hc), fun H S fr σd σ xs ds Qv Qd ok r0 q k => ?_⟩
  rcases one_str (ds := ds) with ⟨z, rfl⟩ | ⟨h1, h2⟩
  · obtain ⟨v, rfl, r1⟩ := rpL1 r0
    have e : v = .str z := r1
    subst e
    obtain ⟨q1, q2⟩ := (show z.length ≤ 16777216 ∧ Qd (.lst (sgD z)) S from q)
    exact .inr ⟨z, rfl, q1, fun p hp => k _ (.lst _) _ S (ok.new hp) (rp_lstNew ok.rel hp rpL_signs) q2⟩
  · exact .inl (l H S fr σd σ xs ds Qv Qd ok r0 (h1 _ _ q) k)
theorem cd_tupA (hc : X.calm = true) : CallD X (.type "tuple") rdTupA := by
  obtain ⟨r, h, l⟩ := cd_tuple (X := X)
  refine ⟨_, h.or (call_tupS hc), fun H S fr σd σ xs ds Qv Qd ok r0 q k => ?_⟩
  rcases one_str (ds := ds) with ⟨z, rfl⟩ | ⟨h1, h2⟩
  · obtain ⟨v, rfl, r1⟩ := rpL1 r0
    have e : v = .str z := r1
    subst e
    obtain ⟨q1, q2⟩ := (show z.length ≤ 16777216 ∧ Qd (.tup (sgD z)) S from q)
    exact .inr ⟨z, rfl, q1, fun p hp => k _ (.tup _) _ S (ok.new hp) (rp_tupNew ok.rel hp rpL_signs) q2⟩
  · exact .inl (l H S fr σd σ xs ds Qv Qd ok r0 (h2 _ _ q) k)
end
/-! ### rows -/
section
variable {S : Sd} {Q : DK} {x y z : Str} {k l : Bool} {ds : List D} {d : D}
theorem x_is_bb : rdIs (.bl k) (.bl l) S Q = Q (.bl (decide (k = l))) S := rfl
theorem x_isNot_bb : rdIsNot (.bl k) (.bl l) S Q = Q (.bl (!decide (k = l))) S := rfl
theorem x_is_n : rdIs d .non S Q = rdIsN d .non S Q := rfl
theorem x_isNot_n : rdIsNot d .non S Q = rdNotN d .non S Q := rfl
theorem x_inS {c : Nat} : rdInS (.str ⟨#[c]⟩) (.str z) S Q = Q (.bl (decide (c ∈ z.cps.toList))) S := by
  refine propext ⟨fun ⟨c', e, q⟩ => ?_, fun q => ⟨c, rfl, q⟩⟩
  injection e with e
  have e2 : c = c' := by simpa using e
  rw [e2]; exact q
theorem x_listA_s : rdListA [.str z] S Q = (z.length ≤ 16777216 ∧ Q (.lst (sgD z)) S) := rfl
theorem x_listA_t : rdListA [.tup ds] S Q = Q (.lst ds) S := rfl
theorem x_listA_l : rdListA [.lst ds] S Q = Q (.lst ds) S := rfl
theorem x_tupA_s : rdTupA [.str z] S Q = (z.length ≤ 16777216 ∧ Q (.tup (sgD z)) S) := rfl
theorem x_tupA_t : rdTupA [.tup ds] S Q = Q (.tup ds) S := rfl
theorem x_tupA_l : rdTupA [.lst ds] S Q = Q (.tup ds) S := rfl
theorem x_count : rdCount (.str x) [.str y] S Q = Q (.int (Txt.count x y)) S := rfl
end
/-! ### comprehensions that draw -/
theorem lcL_inv {te : TED} {p : Addr} {σw : Si} {i : Nat} {xs : List D} {Q : List D → Sd → Prop} (J : List D → Sd → Prop)
    (hs : ∀ (pre : List D) (x : D) (r acc : List D) (S : Sd) (Q' : DK), xs = pre ++ x :: r → acc.length = pre.length → J acc S → S p = some (.lst acc) → (∀ y S', S' p = some (.lst acc) → J (acc ++ [y]) (upS S' p (.lst (acc ++ [y]))) → Q' y S') → te (σw.set i (some x)) S Q')
    (hl : xs.length ≤ 16777216) (hd : ∀ acc S, acc.length = xs.length → J acc S → S p = some (.lst acc) → Q acc S) : ∀ (r pre acc : List D) (S : Sd), xs = pre ++ r → acc.length = pre.length → J acc S → S p = some (.lst acc) → dLcL (dName i) dYes te p σw r acc S Q
  | [], pre, acc, S, e, hn, j, hp => hd acc S (by rw [e, List.append_nil]; exact hn) j hp
  | x :: r, pre, acc, S, e, hn, j, hp => by
    show (if true = true then te (σw.set i (some x)) S fun y S4 => S4 p = some (.lst acc) ∧ acc.length < 16777216 ∧ dLcL (dName i) dYes te p σw r (acc ++ [y]) (upS S4 p (.lst (acc ++ [y]))) Q else dLcL (dName i) dYes te p σw r acc S Q)
    rw [if_pos rfl]
    refine hs pre x r acc S _ e hn j hp fun y S' h1 h2 => ⟨h1, ?_, ?_⟩
    · have := congrArg List.length e
      rw [List.length_append, List.length_cons] at this
      omega
    · exact lcL_inv J hs hl hd r (pre ++ [x]) (acc ++ [y]) _ (by rw [e]; simp) (by rw [List.length_append, List.length_append, hn]; rfl) h2 upS_same
theorem comp_inv {ti : TID} {te : TED} {i : Nat} {vs : List Nat} {σ : Si} {S : Sd} {Q : DK} (xs : List D) (S1 : Sd) (J : Addr → List D → Sd → Prop) (hti : ∀ R : List D → Sd → Prop, R xs S1 → ti σ S R) (h0 : ∀ p, S1 p = none → J p [] (upS S1 p (.lst [])))
    (hs : ∀ (p : Addr) (pre : List D) (x : D) (r acc : List D) (S : Sd) (Q' : DK), S1 p = none → xs = pre ++ x :: r → acc.length = pre.length → J p acc S → S p = some (.lst acc) → (∀ y S', S' p = some (.lst acc) → J p (acc ++ [y]) (upS S' p (.lst (acc ++ [y]))) → Q' y S') → te ((wipeD σ vs).set i (some x)) S Q')
    (hl : xs.length ≤ 16777216) (hd : ∀ p acc S, S1 p = none → acc.length = xs.length → J p acc S → S p = some (.lst acc) → Q (.lst acc) (del S p)) : dComp ti (dName i) dYes te vs σ S Q := hti _ fun p hp =>
  lcL_inv (J p) (fun pre x r acc S Q' => hs p pre x r acc S Q' hp) hl (fun acc S hn j e => ⟨e, hd p acc S hp hn j e⟩) xs [] [] _ rfl rfl (h0 p hp) upS_same
/-! ### while -/
theorem while_inv {c : TTD} {tb : TSD} {E : EndsD} {σ : Si} {S : Sd} (I : Nat → Si → Sd → Prop) (m : Nat) (h0 : I m σ S)
    (hs : ∀ (m : Nat) (σ : Si) (S : Sd) (N : Si → Sd → Prop), I m σ S → (∀ m' σ' S', m' < m → I m' σ' S' → N σ' S') → c σ S fun b S1 => if b = true then tb { E with nx := N, ct := N, bk := E.nx } σ S1 else E.nx σ S1) : dWhile c tb E σ S :=
  ⟨I, ⟨m, h0⟩, fun m σ S h => hs m σ S _ h fun m' σ' S' hm h' => ⟨m', hm, h'⟩⟩
end Dv

/-! Readings by value, u: statements that are never reached, +=, a written dict read by a text. -/
namespace Dv
open PySem L2 PyProof.Rows
section
variable {X : Cx} {W : Wi} {pos : Pos}
/-! ### a written dict read by a text -/
end
end Dv

/-! Readings by value: own errors raised, caught, asked. -/
namespace Dv
open PySem L2 PyProof.Rows Hx
/-! ### the module's own classes of errors -/
def ownBase : List (Str × List Str) := [("NoNumber", ["ArithmeticError"]), ("NoForm", ["ArithmeticError"]), ("OverNought", ["ZeroDivisionError", "ArithmeticError"]), ("TooMany", ["OverflowError", "ArithmeticError"]), ("NoKin", ["TypeError"]), ("NoPlace", ["IndexError", "LookupError"]), ("NoName", ["KeyError", "LookupError"]),
  ("NoTurn", ["LookupError"]), ("NoRow", ["RuntimeError"]), ("NoStair", ["ValueError"]), ("NoRing", ["ValueError"]), ("NoWord", ["ValueError"]), ("NoStep", ["ValueError"]), ("Uneven", ["ValueError"]), ("NoWay", ["ValueError"]), ("NoTable", ["ValueError"]), ("NoTriple", ["ValueError"])]
def ownCls : List Str := ownBase.map (·.1)
def bltCls : List Str := ["ArithmeticError", "ZeroDivisionError", "OverflowError", "TypeError", "IndexError", "KeyError", "LookupError", "RuntimeError", "ValueError"]
def excIs (n c : Str) : Bool := n == c || match ownBase.lookup n with
  | some bs => bs.contains c
  | none => false
def clsV (K : PySem.W.Frag) (x : Str) : Value := match PySem.W.nsIn K mainGlobals x with
  | some (some v) => v
  | _ => (bootBuiltins x).getD .none
/-- what is known of an own class of errors that is raised -/
structure WhF (K : PySem.W.Frag) (n : Str) (D : Addr) : Prop where
  at_ : PySem.W.nsIn K mainGlobals n = some (some (.ref D))
  exc : ExcC K D
  kit : ∀ c ∈ ownCls ++ bltCls, PySem.W.kitOne K (.ref D) (clsV K c) = some (excIs n c)
  exm : ∀ c ∈ ownCls, PySem.W.exmOne K (.ref D) (clsV K c) = some (excIs n c)
def excCB (K : PySem.W.Frag) (D : Addr) : Bool := decide (PySem.W.findIn K (.ref D) "__getattribute__" = some (some (.builtin "BaseException.__getattribute__"))) && (decide (PySem.W.findIn K (.ref D) "__getattr__" = some none) && (decide (PySem.W.subIn K (.ref D) (.type "BaseException") = some true) && (PySem.W.hasDictIn K D &&
  (decide (PySem.W.findIn K (.ref D) "__class__" = some (some (.builtin "object.__class__"))) && (decide (PySem.W.specialIn K (.builtin "object.__class__") "__get__" = some (some (.builtin "getset_descriptor.__get__"))) && (decide (PySem.W.takesIn K (.builtin "object.__class__") = some true) && decide (PySem.W.mroIn K D (.type "object") = some true)))))))
theorem and_b {a b : Bool} (h : (a && b) = true) : a = true ∧ b = true := Bool.and_eq_true_iff.mp h
theorem excCB_ok {K : PySem.W.Frag} {D : Addr} (h : excCB K D = true) : ExcC K D := by
  obtain ⟨h1, h⟩ := and_b h
  obtain ⟨h2, h⟩ := and_b h
  obtain ⟨h3, h⟩ := and_b h
  obtain ⟨h4, h⟩ := and_b h
  obtain ⟨h5, h⟩ := and_b h
  obtain ⟨h6, h⟩ := and_b h
  obtain ⟨h7, h8⟩ := and_b h
  exact ⟨of_decide_eq_true h1, of_decide_eq_true h2, of_decide_eq_true h3, h4, of_decide_eq_true h5, of_decide_eq_true h6, of_decide_eq_true h7, of_decide_eq_true h8⟩
def whB (K : PySem.W.Frag) (rs : List Str) : Bool := rs.all fun n => match PySem.W.nsIn K mainGlobals n with
  | some (some (.ref D)) => excCB K D && (((ownCls ++ bltCls).all fun c => decide (PySem.W.kitOne K (.ref D) (clsV K c) = some (excIs n c))) && ownCls.all fun c => decide (PySem.W.exmOne K (.ref D) (clsV K c) = some (excIs n c)))
  | _ => false
theorem whB_ok {K : PySem.W.Frag} {rs : List Str} (h : whB K rs = true) {n : Str} (hn : n ∈ rs) : ∃ D, WhF K n D := by
  have h1 := List.all_eq_true.mp h n hn
  split at h1
  · rename_i D e
    obtain ⟨a, b⟩ := and_b h1
    obtain ⟨b, c⟩ := and_b b
    exact ⟨D, e, excCB_ok a, fun c' hc => of_decide_eq_true (List.all_eq_true.mp b c' hc), fun c' hc => of_decide_eq_true (List.all_eq_true.mp c c' hc)⟩
  · cases h1
/-- the own classes stand as globals -/
def glB (K : PySem.W.Frag) : Bool := ownCls.all fun c => match PySem.W.nsIn K mainGlobals c with
  | some (some (.ref _)) => true
  | _ => false
theorem glB_ok {K : PySem.W.Frag} (h : glB K = true) {c : Str} (hc : c ∈ ownCls) : ∃ D, PySem.W.nsIn K mainGlobals c = some (some (.ref D)) ∧ clsV K c = .ref D := by
  have h1 := List.all_eq_true.mp h c hc
  unfold clsV
  split at h1
  · rename_i D e
    rw [e]
    exact ⟨D, rfl, rfl⟩
  · cases h1
/-- a simple own class: raised with a text -/
structure RsF (K : PySem.W.Frag) (n : Str) (bm : List Value) (newId : String) (C : Addr) : Prop where
  at_ : PySem.W.nsIn K mainGlobals n = some (some (.ref C))
  exc : PySem.W.excIn K C bm newId = true
  kp : PySem.W.keepIn K (.ref C) = true
  sub : PySem.W.subIn K (.ref C) (.type "BaseException") = some true
  ty : PySem.W.typeIn K (.ref C) = some (.type "type")
def rsB (K : PySem.W.Frag) (n : Str) (bm : List Value) (newId : String) : Bool := match PySem.W.nsIn K mainGlobals n with
  | some (some (.ref C)) => PySem.W.excIn K C bm newId && (PySem.W.keepIn K (.ref C) && (decide (PySem.W.subIn K (.ref C) (.type "BaseException") = some true) && decide (PySem.W.typeIn K (.ref C) = some (.type "type"))))
  | _ => false
theorem rsB_ok {K : PySem.W.Frag} {n : Str} {bm : List Value} {newId : String} (h : rsB K n bm newId = true) : ∃ C, RsF K n bm newId C := by
  unfold rsB at h
  split at h
  · rename_i C e
    obtain ⟨a, h⟩ := and_b h
    obtain ⟨b, h⟩ := and_b h
    obtain ⟨c, d⟩ := and_b h
    exact ⟨C, e, a, b, of_decide_eq_true c, of_decide_eq_true d⟩
  · cases h
/-! ### raise -/
section
variable {X : Cx} {W : Wi} {pos : Pos}
def dRaise (WD : WXD) (x : Xd) : TSD := fun _ σ S => WD x σ S
theorem ds_raiseC {n m : Str} {j : Nat} {p p2 pos' : Pos} {bm : List Value} {B newId initId : String} {C : Addr} (hc : X.calm = true) (tk : L2N.Takes X W.V) (F : ExcBaseFacts B newId initId bm) (R : RsF X.K n bm newId C) (gC : X.mg n = some (.ref C)) (hg : Gl X n) (hdb : (n == ("__debug__" : Str)) = false := by decide) :
    DS X W (.Raise (some (.Call (.Name n p) [.Constant (.str m) j p2] [] pos)) none pos') (dRaise W.D ⟨n, [], []⟩) :=
  ⟨PS.imp (L2N.ps_raise hc tk (L2N.pmk_own F R.exc gC R.kp (raises_own R.sub R.ty) hg hdb)) fun D σ H ⟨σd, S, fr, Dd, ok, cl, h, k⟩ => cl σd σ H S (.ref C) none _ ok ⟨R.at_, fun _ => rfl, fun _ z => nomatch z⟩ h⟩
end
/-! ### except suites -/
/-- what a suite knows of the exception that it holds -/
structure SuF (K : PySem.W.Frag) (oe : Obj) (od : Option Addr) (n : Str) : Prop where
  cls : ∃ D, WhF K n D ∧ oe.cls = .ref D
  dct : oe.dict = od
  dat : ∃ vs : Array Value, oe.data = .fields vs ∧ vs[2]? = some .none
section
variable {X : Cx} {W : Wi} {pos : Pos}
theorem exm_any {K : PySem.W.Frag} {n : Str} {D : Addr} (w : WhF K n D) : ∀ cs : List Str, (∀ z ∈ cs, z ∈ ownCls) → PySem.W.exmAny K (.ref D) (cs.map (clsV K)) = some (cs.any (excIs n))
  | [], _ => rfl
  | c :: r, h => by
    show PySem.W.exmAny K (.ref D) (clsV K c :: r.map (clsV K)) = some (excIs n c || r.any (excIs n))
    unfold PySem.W.exmAny
    rw [w.exm c (h c (.head _)), exm_any w r fun z hz => h z (.tail _ hz)]
end
end Dv

/-! Readings by value: a def that names an error's class; a refusal named. -/
namespace Dv
open PySem L2 PyProof.Rows Hx
section
variable {X : Cx} {W : Wi} {pos : Pos}
/-! ### while an exception is handled -/
structure DIH (X : Cx) (W : Wi) (tg iter : Expr) (t : TID) : Prop where
  p : L2H.PIH X tg iter (upI X.K W t)
theorem dih_list {tg l : Expr} {te : TED} (hl : DE X W l te) : DIH X W tg l (dIter te) :=
  ⟨⟨fun pins s σ H R I ⟨σd, S, fr, Rd, ok, cl, h, k⟩ => (pi_listH (tg := tg) hl.p).run pins s σ H R I ⟨σd, S, fr, _, ok, cl, h, fun x dx H1 S1 ok1 r1 q => by
    cases dx with
    | lst ds =>
      obtain ⟨a, vs, e, q1, r2⟩ := rp_list ok1.rel r1
      subst e
      exact ⟨a, rfl, ⟨vs, q1⟩, k _ ds H1 S1 [(.ref a, .lst ds)] (ok1.cons r1) itd_list q⟩
    | _ => exact (show False from q).elim⟩⟩⟩
theorem dg_tupH {vs : List Nat} {es : List Expr} {k : Nat} {t : TGsD} {n : Nat} (hc : L2H.HotC X) (h : DGs X W vs es t) (hn : (assignEach es X.env).length = n := by rfl) (hst : (assignEach es X.env).findIdx? (·.1) = none := by rfl) : DG X W vs (.Tuple es k pos) (dTupG n t) :=
  ⟨PG.imp (pg_tupH hc h.p hn hst) fun v σ H Q ⟨σd, S, fr, Qd, d, ok, cl, r, q, k⟩ => by
    cases d with
    | tup ds =>
      obtain ⟨a, vs, e, q1, r1⟩ := r
      exact ⟨a, vs, e, q1, (rpL_len r1).symm.trans q.1, σd, S, fr, Qd, ds, ok, cl, r1, q.2, k⟩
    | _ => exact (show False from q).elim⟩
theorem ds_setLcH (i : Nat) {y : Str} {py : Pos} {elt tg iter : Expr} {ifs : List Expr} {scope : Scope} {own : List (Str × Nat)} {spos : Pos} {ti : TID} {g : TGD} {tt : TTD} {te : TED} (hc : L2H.HotC X) (hN : X.N.Nodup) (hy : X.N[i]? = some y) (hyl : X.env.scope.names.lookup y = some .local)
    (hsw : swapsWith (.ListComp elt [⟨tg, iter, ifs, 0⟩] scope pos) (some (.Name y py)) spos.line X.env = pure true) (hi : DIH X W tg iter ti) (ok : BlkOk X.N X.env.scope scope own)
    (hg : ∀ (s : Shared) (H : Hp) (C : Addr) (cl : List (Str × Addr)) (fp : List Addr), DG (blkP X s H scope (compEnvC scope cl C X.env) fp) W0 (own.map (·.2)) tg g) (ht : ∀ (s : Shared) (H : Hp) (C : Addr) (cl : List (Str × Addr)) (fp : List Addr), DTs (blkP X s H scope (compEnvC scope cl C X.env) fp) W0 ifs tt)
    (he : ∀ (s : Shared) (H : Hp) (C : Addr) (cl : List (Str × Addr)) (fp : List Addr), DE (blkP X s H scope (compEnvC scope cl C X.env) fp) W0 elt te) (hs : ∀ x, foldedSetIterable iter X.env x = pure x := by intro _; rfl) :
    DS X W (.Assign [.Name y py] (.ListComp elt [⟨tg, iter, ifs, 0⟩] scope pos) spos) (dSet i (dComp ti g tt te (own.map (·.2)))) :=
  ⟨PS.imp (ps_setLcH hc hN hy hyl hsw hi.p ok (fun s H C cl fp => (hg s H C cl fp).p) (fun s H C cl fp => (ht s H C cl fp).p) (fun s H C cl fp => (he s H C cl fp).p) hs) fun D σ H ⟨σd, S, fr, Dd, ok, cl, h, k⟩ =>
    lc_lift (W := W) σ H _ ⟨σd, S, fr, _, ok, cl, h, fun v d H1 S1 ok1 r1 q => k.nx _ _ H1 S1 (ok1.set r1 i) q⟩⟩
/-- isinstance(e, c), e the exception that is handled -/
def dIsX (i : Nat) (a : Addr) (od : Option Addr) (b : Bool) : TED := fun σ S Q => (∃ ns xs, σ[i]? = some (some (.exc a od ns xs))) ∧ Q (.bl b) S
theorem de_isx {i : Nat} {a : Addr} {oe : Obj} {od : Option Addr} {n c e : Str} {p1 p2 p3 pos : Pos} {cv : V} (sf : SuF X.K oe od n) (hp : (a, oe) ∈ X.pn) (hgi : Gl X "isinstance") (hmi : X.mg "isinstance" = none) (hN : X.N[i]? = some e) (hv : Vis X.env.scope e) (hcv : PE X (.Name c p3) (tC cv)) (hcl : ClsV cv (clsV X.K c)) (hc : c ∈ ownCls ++ bltCls)
    (hd : (e == ("__debug__" : Str)) = false := by decide) (hcd : (e == ("__classdict__" : Str)) = false := by decide) : DE X W (.Call (.Name "isinstance" p1) [.Name e p2, .Name c p3] [] pos) (dIsX i a od (excIs n c)) := by
  obtain ⟨D, w, ec⟩ := sf.cls
  obtain ⟨vs, hd1, _⟩ := sf.dat
  refine ⟨PE.imp (pe_callB (call_isW w.exc hp ec ⟨vs, hd1⟩) hgi hmi (by decide +kernel) (pa_cons (pe_var (i := i) hN hv hd hcd) (pa_cons hcv pa_nil)) (by decide) (by decide)) fun σ H Q ⟨σd, S, fr, Qd, ok, cl, ⟨⟨ns, xs, e1⟩, q⟩, k⟩ => ?_⟩
  obtain ⟨v, e2, r⟩ := ok.si i _ e1
  obtain ⟨ev, h0, h1⟩ := r
  subst ev
  refine ⟨.ref a, e2, ⟨cv, clsV X.K c, excIs n c, rfl, hcl, ?_, w.kit c hc, k _ (.bl (excIs n c)) H S ok rfl q⟩⟩
  rw [sf.dct]
  cases od with
  | none => exact .inl rfl
  | some dx =>
    obtain ⟨fs, z, _⟩ := h1 dx rfl
    exact .inr ⟨dx, fs, rfl, z⟩
end
/-! ### a def that names an error's class -/
def TWh (K : PySem.W.Frag) (a : Addr) (od : Option Addr) (n : Str) (H : Hp) (Q : VK) : Prop := ∃ (S : Sd) (fr : List (V × D)) (Qd : Sd → Prop) (ns : List Str) (xs : List D), RelS K H S ∧ FrOk K H S fr ∧ Rp K H S (.exc a od ns xs) (.ref a) ∧ Qd S ∧ ∀ H' S', RelS K H' S' → FrOk K H' S' fr → Qd S' → Q (.str n) H'
def WhOk (P : Program) (w : World) (K : PySem.W.Frag) (mg : Str → Option Value) (base : Heap) (k : Nat) (f : Addr) (st : Stmt) (Ng : List Str) (x : Str) : Prop :=
  ∀ (a : Addr) (oe : Obj) (od : Option Addr) (n : Str), SuF K oe od n → n ∈ ownCls → ∀ (A : Around) (outer : List Env) (s : Shared) (H : Hp) (Q : VK) (cdv : Value), L2H.RoomH k (A.deeper (envOfC x (defScope st) s.heap.objs.size f cdv)) → A.handled = some (.ref a) → TWh K a od n H Q →
    ∃ t, PSs (L2H.cxH C8.CX0 P w K mg base Ng x (defScope st) f cdv A outer s H C8.E0 (a, oe)) (defBody st) t ∧ t { nx := fun _ H' => Q .non H', rt := Q } (L2.start Ng [.ref a]) H
section
variable {P : Program} {w : World} {K : PySem.W.Frag} {mg : Str → Option Value} {base : Heap}
theorem whOk {k : Nat} {f : Addr} {st : Stmt} {Ng : List Str} {x : Str} {t : Addr → Option Addr → Str → TSD}
    (hb : ∀ (a : Addr) (oe : Obj) (od : Option Addr) (n : Str), SuF K oe od n → ∀ (A : Around) (outer : List Env) (s : Shared) (H : Hp) (cdv : Value), L2H.RoomH k (A.deeper (envOfC x (defScope st) s.heap.objs.size f cdv)) → L2H.HotC (L2H.cxH C8.CX0 P w K mg base Ng x (defScope st) f cdv A outer s H C8.E0 (a, oe)) →
      DB (L2H.cxH C8.CX0 P w K mg base Ng x (defScope st) f cdv A outer s H C8.E0 (a, oe)) W0 (defBody st) (t a od n))
    (hp : ∀ (a : Addr) (od : Option Addr) (n : Str) (ns : List Str) (xs : List D) (S : Sd) (Q : DK), n ∈ ownCls → Q (.str n) S → t a od n { nx := fun _ S' => Q .non S', rt := Q } (startD Ng [.exc a od ns xs]) S) : WhOk P w K mg base k f st Ng x := by
  intro a oe od n sf hn A outer s H Q cdv hr hh ⟨S, fr, Qd, ns, xs, R, F, r, q, kq⟩
  obtain ⟨vs, d1, c1⟩ := sf.dat
  refine ⟨_, (hb a oe od n sf A outer s H cdv hr ⟨(a, oe), ⟨hh, vs, d1, c1⟩, .head _⟩).p, startD Ng [.exc a od ns xs], S, fr, { nx := fun _ _ => False, rt := fun d S' => d = .str n ∧ Qd S' }, start_ok R F (rpL_cons r rpL_nil), Cl.zero, ?_, ?_⟩
  · have z := hp a od n ns xs S (fun d S' => d = .str n ∧ Qd S') hn ⟨rfl, q⟩
    have e : (fun (_ : Si) (S' : Sd) => (D.non = D.str n ∧ Qd S')) = fun _ _ => False := by
      funext _ _
      exact propext ⟨fun z => (by cases z.1), fun z => z.elim⟩
    rw [e] at z
    exact z
  · refine ⟨fun _ _ _ _ _ z => z.elim, fun v d σd σ H' S' o rv ⟨ed, qd⟩ => ?_, fun _ _ _ _ _ z => z.elim, fun _ _ _ _ _ z => z.elim⟩
    subst ed
    have ev : v = .str n := rv
    subst ev
    exact kq H' S' o.rel o.fr qd
end
section
variable {X : Cx} {pos : Pos}
/-! ### a refusal, named -/
def ERef (K : PySem.W.Frag) (rs : List Str) (Q : VK) : XK := fun cls od H' => ∃ n Dn, n ∈ rs ∧ n ∈ ownCls ∧ cls = .ref Dn ∧ WhF K n Dn ∧ ∃ (S : Sd) (fr : List (V × D)) (Qd : Sd → Prop) (ns : List Str) (xs : List D), RelS K H' S ∧ FrOk K H' S fr ∧ (∀ a, Rp K H' S (.exc a od ns xs) (.ref a)) ∧ Qd S ∧ ∀ H2 S2, RelS K H2 S2 → FrOk K H2 S2 fr → Qd S2 → Q (.str n) H2
def TRef (K : PySem.W.Frag) (rs : List Str) : (XK → Hp → VK → Prop) → Hp → VK → Prop := fun tl H Q => tl (ERef K rs Q) H fun _ H' => Q (.str "none") H'
/-- try: x() / except (A, ..) as e: return f(e) / except (B, ..) as e: return f(e) / return 'none' -/
theorem gives_ref {k : Nat} {Ng Nw : List Str} {x a e wn pp q : Str} {sg : Scope} {g f : Addr} {cdg : Value} {stw : Stmt} {fdw : FuncData} {rs c1 c2 : List Str} {es1 es2 : List Expr} {k1 k2 j : Nat} {p1 p2 p3 p4 p5 p6 u1 u2 u3 u4 u5 u6 v1 v2 v3 v4 v5 v6 : Pos}
    (hrs : ∀ n ∈ rs, n ∈ ownCls → c1.any (excIs n) = true ∨ c2.any (excIs n) = true) (ho1 : ∀ z ∈ c1, z ∈ ownCls) (ho2 : ∀ z ∈ c2, z ∈ ownCls) (hz1 : c1.length ≤ 1000) (hz2 : c2.length ≤ 1000)
    (hw : WhOk X.prog X.w X.K X.mg X.base k f stw Nw wn) (F : L2.Fun X.K wn wn stw f fdw) (Sw : FnScope Nw [pp] (defScope stw)) (hb : Binds X.K fdw [pp] []) (hm : X.mg wn = some (.ref f)) (hN : Ng[1]? = some e) (hND : Ng.Nodup) (hle : sg.names.lookup e = some .local) (hgw : sg.names.lookup wn = some .globalImplicit)
    (hn1 : ∀ (cdv : Value) (s : Shared) (H : Hp), Nms (cxOf C8.CX0 X.prog X.w X.K X.mg X.base Ng x sg g cdv X.A X.stack s H C8.E0).nox es1 (c1.map (clsV X.K))) (hn2 : ∀ (cdv : Value) (s : Shared) (H : Hp), Nms (cxOf C8.CX0 X.prog X.w X.K X.mg X.base Ng x sg g cdv X.A X.stack s H C8.E0).nox es2 (c2.map (clsV X.K)))
    (h0 : ∀ f : Addr, (L2.start Ng [V.ref f])[0]? = some (some (V.ref f))) (h1 : 1 < Ng.length) (hde : (e == ("__debug__" : Str)) = false := by decide) (hce : (e == ("__classdict__" : Str)) = false := by decide) (hdw : (wn == ("__debug__" : Str)) = false := by decide) :
    GivesN X (k + 1) Ng x sg g cdg [.Try [.Expr (.Call (.Name a p1) [] [] p2) p3] [.ExceptHandler (some (.Tuple es1 k1 u1)) (some e) [.Return (some (.Call (.Name wn u2) [.Name e u3] [] u4)) u5] u6, .ExceptHandler (some (.Tuple es2 k2 v1)) (some e) [.Return (some (.Call (.Name wn v2) [.Name e v3] [] v4)) v5] v6] [] [] p4, .Return (some (.Constant (.str "none") j p5)) p6] a q (TRef X.K rs) := by
  intro f0 c' s H Q tl hr act hc h
  -- the suites
  let ts : Addr → Value → Option Addr → TS := fun a cls od D σ H => σ[1]? = some (some (.ref a)) ∧ ∃ n Dn, n ∈ ownCls ∧ cls = .ref Dn ∧ WhF X.K n Dn ∧ TWh X.K a od n H D.rt
  have suite : ∀ (b1 b2 b3 b4 : Pos) (a : Addr) (oe : Obj) (cls : Value) (d : Option Addr) (pn : List (Addr × Obj)), L2N.Zn cls d oe → (∃ vs, oe.data = .fields vs) →
      PSs ((cxOf C8.CX0 X.prog X.w X.K X.mg X.base Ng x sg g cdg X.A X.stack s H C8.E0).nox.suite a ((a, oe) :: pn)) [.Return (some (.Call (.Name wn b1) [.Name e b2] [] b3)) b4] (ts a cls d) := fun b1 b2 b3 b4 a oe cls d pn hz ⟨vs, hd⟩ => by
    refine pss_one ⟨fun pins s' σ H' D I ⟨e1, n, Dn, hn, ec, wf, tw⟩ => ?_⟩
    have sf : SuF X.K oe d n := ⟨⟨Dn, wf, hz.1.trans ec⟩, hz.2.1, vs, hd, hz.2.2 vs hd⟩
    have pe := pe_hot (X := (cxOf C8.CX0 X.prog X.w X.K X.mg X.base Ng x sg g cdg X.A X.stack s H C8.E0).nox) (a := a) (oe := oe) (pn := pn) (q1 := b1) (q2 := b2) (pos := b3) (i := 1) (n := e) (TW := TWh X.K a d n) F Sw hb (L2H.roomH_of hr.rm) sf.dat hgw hm hN (.inl hle) (fun A outer s H Q cdv hr' hh h => hw a oe d n sf hn A outer s H Q cdv hr' hh h) hdw hde hce
    exact (ps_ret pe).run pins s' σ H' D I ⟨e1, tw⟩
  have nm : NmOk (cxOf C8.CX0 X.prog X.w X.K X.mg X.base Ng x sg g cdg X.A X.stack s H C8.E0).nox (some (e, 1)) := ⟨hND, hN, hle⟩
  have hh : Hds (cxOf C8.CX0 X.prog X.w X.K X.mg X.base Ng x sg g cdg X.A X.stack s H C8.E0).nox [.ExceptHandler (some (.Tuple es1 k1 u1)) (some e) [.Return (some (.Call (.Name wn u2) [.Name e u3] [] u4)) u5] u6, .ExceptHandler (some (.Tuple es2 k2 v1)) (some e) [.Return (some (.Call (.Name wn v2) [.Name e v3] [] v4)) v5] v6] [⟨c1.map (clsV X.K), some (e, 1), ts⟩, ⟨c2.map (clsV X.K), some (e, 1), ts⟩] :=
    Hds.cons (c := ⟨c1.map (clsV X.K), some (e, 1), ts⟩) nm (.many (hn1 _ _ _) (by rw [List.length_map]; exact hz1)) (suite u2 u3 u4 u5) (Hds.cons (c := ⟨c2.map (clsV X.K), some (e, 1), ts⟩) nm (.many (hn2 _ _ _) (by rw [List.length_map]; exact hz2)) (suite v2 v3 v4 v5) .nil)
  have Lg : (cxOf C8.CX0 X.prog X.w X.K X.mg X.base Ng x sg g cdg X.A X.stack s H C8.E0).nox.N.length = Ng.length := rfl
  refine ⟨_, pss_cons (ps_tryN (X := (cxOf C8.CX0 X.prog X.w X.K X.mg X.base Ng x sg g cdg X.A X.stack s H C8.E0).nox) (Wout := fun _ _ _ _ => False) (tb := fun Wv D σ H => ∃ Ech : XK, (∀ cls d (σ' : L2.St) H', σ'.length = Ng.length → Ech cls d H' → Wv cls d σ' H') ∧ σ[0]? = some (some (.ref f0)) ∧ H c' = some (LamX.CodeO c' q) ∧ tl Ech H fun _ H' => D.nx σ H')
    rfl rfl (fun _ _ ⟨_, _, _, _, _, _, _, _, _, _, _, _, _, _, _, _, z⟩ => z.elim) (fun Wv pn xe tk _ => pss_one ⟨fun pins s' σ H' D I ⟨Ech, hW, e1, e2, e3⟩ => ?_⟩) hh) (pss_one (ps_ret pe_str)), ?_⟩
  · exact (ps_expr (pos := p3) (act Wv pn xe Ech p1 p2 tk hW)).run pins s' σ H' D I ⟨e1, e2, e3⟩
  · refine ⟨ERef X.K rs Q, fun cls d σ' H' hl ⟨n, Dn, hn, hno, ec, wf, S, fr, Qd, ns, xs, R, Fr, r, q, kq⟩ => ?_, h0 f0, hc, h⟩
    have tw : ∀ a, TWh X.K a d n H' Q := fun a => ⟨S, fr, Qd, ns, xs, R, Fr, r a, q, kq⟩
    have at1 : ∀ a : Addr, (σ'.set 1 (some (V.ref a)))[1]? = some (some (V.ref a)) := fun a => List.getElem?_set_self (by rw [hl]; exact h1)
    subst ec
    refine ⟨_, exm_any wf c1 ho1, fun _ a _ => ⟨at1 a, n, Dn, hno, rfl, wf, tw a⟩, fun b1 => ⟨_, exm_any wf c2 ho2, fun _ a _ => ⟨at1 a, n, Dn, hno, rfl, wf, tw a⟩, fun b2 => ?_⟩⟩
    rcases hrs n hn hno with z | z
    · rw [z] at b1; cases b1
    · rw [z] at b2; cases b2
/-- g(lambda: body), g such a def -/
def dRef (P : Addr) (q : Str) (rs : List Str) (te : XKD → TED) : TED := fun σ S Q => S P = some (.tab q) ∧ te (fun x S' => x.cls ∈ rs ∧ Q (.str x.cls) S') σ S fun _ S' => Q (.str "none") S'
theorem de_ref {W : Wi} {x a : Str} {g c P : Addr} {k : Nat} {st : Stmt} {fd : FuncData} {Ng : List Str} {params : Arguments} {body : Expr} {scope : Scope} {te : XKD → TED} {rs : List Str} {q0 : Str} {p lpos pos : Pos} (hwf : ∀ n ∈ rs, n ∈ ownCls ∧ ∃ D, WhF X.K n D) (F : L2.Fun X.K x x st g fd) (hb : L2.Binds X.K fd [a] []) (Sg : FnScope Ng [a] (defScope st))
    (hg : Gl X x) (hm : X.mg x = some (.ref g)) (hNg : Ng[0]? = some a) (hva : Vis (defScope st) a) (hG : ∀ cdv : Value, GivesN X (k + 1) Ng x (defScope st) g cdv (defBody st) a (X.env.qual ++ "<lambda>") (TRef X.K rs))
    (hq : X.env.qual ++ "<lambda>" = q0) (TB : LamX.TabB X.base X.mg c P) (hcode : X.env.code = .ref c) (hr : RoomG (k + 2) X.A) (L : LamX.LamS X.env.scope scope) (hdef : defaultsOf params X.env = ([], []))
    (hbind : ∀ (q : Str) (cl : List (Str × Addr)) (pm cv ctv : Value), bindArgs (PySem.W.kla_fn "<lambda>" q params body scope cl pm cv ctv) ⟨[], []⟩ = pure [])
    (hbody : ∀ (A : Around) (outer : List Env) (s : Shared) (H : Hp) (E : XK) (Ed : XKD) (f c' : Addr), RoomG k (A.deeper (LamX.lamEnv X scope s.heap.objs.size f c')) → DE (lamN X A outer s H E scope f c') (wiOf E Ed) body (te Ed))
    (hdb : (x == ("__debug__" : Str)) = false := by decide) (hd : (a == ("__debug__" : Str)) = false := by decide) (hcd : (a == ("__classdict__" : Str)) = false := by decide) :
    DE X W (.Call (.Name x p) [.Lambda params body scope lpos] [] pos) (dRef P q0 rs te) := by
  refine ⟨PE.imp (pe_lamN (t := fun E σ H Q => ∃ Ed, upE X.K (wiOf E Ed) (te Ed) σ H Q) F hb Sg hg hm hNg hva hG TB hcode hr L hdef hbind (fun A outer s H E f c' hr' => ⟨fun pins s' σ H' Q I ⟨Ed, h⟩ => ((hbody A outer s H E Ed f c' hr').p).run pins s' σ H' Q I h⟩) hdb hd hcd) fun σ H Q ⟨σd, S, fr, Qd, ok, cl, ⟨hS, h⟩, k⟩ => ?_⟩
  rw [hq]
  have tab := ok.rel P _ hS
  refine ⟨tab, fun H1 same T1 => ?_⟩
  have st : Step H S H1 S := fun b o h1 h2 => ⟨same b o h1 (fun e => (by rw [e, hS] at h2; cases h2)), h2⟩
  have R1 : RelS X.K H1 S := fun b o e => by
    by_cases hbP : b = P
    · rw [hbP, hS] at e
      cases e
      rw [hbP]
      exact T1
    · exact soOk_step ok.rel st (ok.rel b o e) fun u hu => same b u hu hbP
  have ok1 := ok.step st R1
  refine ⟨fun x S' => x.cls ∈ rs ∧ Qd (.str x.cls) S', σd, S, fr ++ prs σd σ, _, ⟨R1, ok1.out, ok1.len, ok1.si⟩, fun σd' σ' H' S' cls od x o rx ⟨hn, q⟩ => ?_, h, fun v d H' S' o r q => ?_⟩
  · obtain ⟨hno, Dn, wf⟩ := hwf _ hn
    have ec : cls = .ref Dn := by
      have z := rx.1
      rw [wf.at_] at z
      exact (Option.some.inj (Option.some.inj z)).symm
    refine ⟨x.cls, Dn, hn, hno, ec, wf, S', fr ++ prs σd σ, fun S2 => Qd (.str x.cls) S2, x.ns, x.xs, o.rel, o.fr, fun a => ⟨rfl, rx.2.1, rx.2.2⟩, q, fun H2 S2 R2 F2 q2 => k _ (.str x.cls) H2 S2 (ok1.back R2 F2) rfl q2⟩
  · exact k _ (.str "none") H' S' (ok1.back o.rel o.fr) rfl q
end
end Dv

/-! Readings by value: what the printed derivations lean on for errors and lambdas. -/
namespace Dv
open PySem L2 PyProof.Rows Hx
section
variable {X : Cx} {W : Wi} {pos : Pos}
theorem takes0N : L2N.Takes X W0.V := fun _ _ ⟨_, _, _, _, _, _, _, _, _, _, _, _, _, _, _, _, z⟩ => z.elim
theorem takesL {A : Around} {outer : List Env} {s : Shared} {H : Hp} {E : XK} {Ed : XKD} {scope : Scope} {f c' : Addr} : L2N.Takes (lamN X A outer s H E scope f c') (wiOf E Ed).V := L2N.takes_of rfl rfl rfl rfl
theorem de_isxO {i : Nat} {a : Addr} {oe : Obj} {od : Option Addr} {n c e : Str} {p1 p2 p3 pos : Pos} (own : ∃ Dn, X.mg c = some (.ref Dn) ∧ clsV X.K c = .ref Dn) (hgc : Gl X c) (hc : c ∈ ownCls ++ bltCls) (sf : SuF X.K oe od n) (hp : (a, oe) ∈ X.pn) (hgi : Gl X "isinstance") (hmi : X.mg "isinstance" = none) (hN : X.N[i]? = some e) (hv : Vis X.env.scope e)
    (hdc : (c == ("__debug__" : Str)) = false := by decide) (hd : (e == ("__debug__" : Str)) = false := by decide) (hcd : (e == ("__classdict__" : Str)) = false := by decide) : DE X W (.Call (.Name "isinstance" p1) [.Name e p2, .Name c p3] [] pos) (dIsX i a od (excIs n c)) := by
  obtain ⟨Dn, h1, h2⟩ := own
  exact de_isx (cv := .ref Dn) sf hp hgi hmi hN hv (pe_glob hgc h1 rfl hdc) (by rw [h2]; exact .own Dn) hc hd hcd
theorem de_isxB {i : Nat} {a : Addr} {oe : Obj} {od : Option Addr} {n e : Str} {c : Str} {ty : String} {p1 p2 p3 pos : Pos} (hz : PySem.W.nsIn X.K mainGlobals c = some none) (hm : X.mg c = none) (hv0 : bootBuiltins c = some (.type ty)) (hgc : Gl X c) (hc : c ∈ ownCls ++ bltCls) (sf : SuF X.K oe od n) (hp : (a, oe) ∈ X.pn) (hgi : Gl X "isinstance") (hmi : X.mg "isinstance" = none) (hN : X.N[i]? = some e) (hv : Vis X.env.scope e)
    (hnn : c ≠ "__name__" := by decide) (hdc : (c == ("__debug__" : Str)) = false := by decide) (hd : (e == ("__debug__" : Str)) = false := by decide) (hcd : (e == ("__classdict__" : Str)) = false := by decide) : DE X W (.Call (.Name "isinstance" p1) [.Name e p2, .Name c p3] [] pos) (dIsX i a od (excIs n c)) := by
  have h2 : clsV X.K c = .type ty := by
    unfold clsV
    rw [hz]
    show (bootBuiltins c).getD .none = .type ty
    rw [hv0]
    rfl
  exact de_isx (cv := .ty ty) sf hp hgi hmi hN hv (pe_bltn hgc hm hv0 rfl hnn hdc) (by rw [h2]; exact .ty ty) hc hd hcd
theorem nmsO {x : Str} {p : Pos} {es : List Expr} {cs : List Value} (own : ∃ Dn, X.mg x = some (.ref Dn) ∧ clsV X.K x = .ref Dn) (hg : Gl X x) (r : Nms X es cs) (hd : (x == ("__debug__" : Str)) = false := by decide) : Nms X (.Name x p :: es) (clsV X.K x :: cs) := by
  obtain ⟨Dn, h1, h2⟩ := own
  exact .cons ⟨hg, hd, .inl (by rw [h2]; exact h1)⟩ r
end
section
variable {P : Program} {w : World} {K : PySem.W.Frag} {mg : Str → Option Value} {base : Heap}
/-- a def whose body is told its code object -/
theorem okDc {x qual : Str} {st : Stmt} {f : Addr} {fd : FuncData} {N ps : List Str} {k : Nat} {sp : SpD} {t : XKD → TSD} (F : L2.Fun K x qual st f fd) (Sc : FnScope N ps (defScope st)) (len : ∀ ds S Q E, sp ds S Q E → ds.length = ps.length)
    (hb : ∀ (cdv : Value), cdv = fd.code → ∀ (A : Around) (outer : List Env) (s : Shared) (H : Hp) (E : XK) (Ed : XKD), RoomG k (A.deeper (envOfC qual (defScope st) s.heap.objs.size f cdv)) → DB (bodyCx P w K mg base N qual st f cdv A outer s H E) (wiOf E Ed) (defBody st) (t Ed))
    (hp : ∀ ds S Q Ed, sp ds S Q Ed → t Ed { nx := fun _ S' => Q .non S', rt := Q } (startD N ds) S) : FnG P w K mg base (L2N.CX P w) (k + 1) f fd ps (upF K sp) := by
  refine fnG_of F Sc (fun vs H Q E ⟨ds, S, fr, Qd, Ed, R, f, r, h, _⟩ => ?_) fun cdv code A outer s H vs Q E hr ⟨ds, S, fr, Qd, Ed, R, f, r, h, hq, hx⟩ => ?_
  · rw [← rpL_len r]
    exact len ds S Qd Ed h
  · refine ⟨_, (hb cdv code A outer s H E Ed hr).p, startD N ds, S, fr, { nx := fun _ S' => Qd .non S', rt := Qd }, start_ok R f r, fun σd σ H' S' cls od y o rx q => hx cls od y H' S' o.rel o.fr rx q, hp ds S Qd Ed h, ?_⟩
    exact ⟨fun σd σ H' S' o q => hq .non .non H' S' o.rel o.fr rfl q, fun v d σd σ H' S' o rv q => hq v d H' S' o.rel o.fr rv q, fun _ _ _ _ _ q => q.elim, fun _ _ _ _ _ q => q.elim⟩
end
theorem unitsH {k : Nat} {A : Around} (r : L2H.RoomH k A) : A.units + 64 < cLine := by have := r.un; omega
/-- one statement at a time: the rest stands still -/
theorem seq_step {t v : TSD} {E : EndsD} {σ : Si} {S : Sd} (h : ∀ r : TSD, r = v → dSeq t r E σ S) : dSeq t v E σ S := h v rfl
/-! ### divmod -/
def rdDivmod : RDC := fun ds S Q => match ds with
  | [.int i, .int j] => (0 < j ∧ j.natAbs.log2 < 9000) ∧ Q (.tup [.int (i / j), .int (i % j)]) S
  | _ => False
theorem x_divmod {i j : Int} {S : Sd} {Q : DK} : rdDivmod [.int i, .int j] S Q = ((0 < j ∧ j.natAbs.log2 < 9000) ∧ Q (.tup [.int (i / j), .int (i % j)]) S) := rfl
/-! ### law with tables -/
def lamQ (d : Str) : Str := d ++ ".<locals>.<lambda>"
def spLawT (tb : Str → Addr) (tn : List Str) : SpD := fun ds S Q _ => ∃ ns : List Int, ds = [.lst (ns.map D.int)] ∧ ns.length ≤ 63 ∧ (∀ d ∈ tn, S (tb d) = some (.tab (lamQ d))) ∧ ∀ S', Q (.bl true) S'
theorem law_startT {K : PySem.W.Frag} {H : Hp} {a : Addr} {ns : List Int} {tb : Str → Addr} {tn : List Str} (hT : ∀ d ∈ tn, H (tb d) = some (.tbl #[])) (inj : ∀ d ∈ tn, ∀ e ∈ tn, tb d = tb e → d = e) (h : SqL K H a (ns.map V.int)) (hl : ns.length ≤ 63) :
    upF K (spLawT tb tn) [.ref a] H (fun v _ => v = .bl true) fun _ _ _ => False := by
  have find : ∀ d ∈ tn, (tn.find? fun e => tb e == tb d) = some d := fun d hd => by
    cases q : tn.find? fun e => tb e == tb d with
    | none =>
      have z := List.find?_eq_none.mp q d hd
      simp at z
    | some e =>
      have h1 := List.find?_some q
      have h2 := List.mem_of_find?_eq_some q
      rw [inj e h2 d hd (by simpa using h1)]
  refine ⟨[.lst (ns.map D.int)], fun b => (tn.find? fun e => tb e == b).map fun d => .tab (lamQ d), [], fun d _ => d = .bl true, fun _ _ => False, fun b o e => ?_, fun p hp => (by cases hp), ?_, ⟨ns, rfl, hl, fun d hd => by dsimp only; rw [find d hd]; rfl, fun _ => rfl⟩, fun v d H' S' _ _ r e => ?_, fun _ _ _ _ _ _ _ _ q => q⟩
  · have e' : (tn.find? fun e => tb e == b).map (fun d => SO.tab (lamQ d)) = some o := e
    cases q : tn.find? fun e => tb e == b with
    | none => rw [q] at e'; cases e'
    | some d =>
      rw [q] at e'
      cases e'
      have h1 : tb d = b := by simpa using List.find?_some q
      have h2 := hT d (List.mem_of_find?_eq_some q)
      rw [h1] at h2
      exact LamX.TabS.nil h2
  · refine rpL_cons ⟨a, ns.map V.int, rfl, ?_, rpL_of_ints⟩ rpL_nil
    rcases h with h | h
    · refine .inl ⟨h, ?_⟩
      cases q : tn.find? fun e => tb e == a with
      | none => dsimp only; rw [q]; rfl
      | some d =>
        have h1 : tb d = a := by simpa using List.find?_some q
        have h2 := hT d (List.mem_of_find?_eq_some q)
        rw [h1] at h2
        rcases h with h | ⟨o, h⟩ <;> (rw [h2] at h; cases h)
    · exact .inr h
  · subst e
    exact r
end Dv

/-! Readings by value: calls with keywords. -/
namespace Dv
open PySem L2 PyProof.Rows Hx
theorem rpL_at {K : PySem.W.Frag} {H : Hp} {S : Sd} : ∀ {ds : List D} {vs : List V}, RpL K H S ds vs → ∀ i : Nat, (ds[i]? = none ∧ vs[i]? = none) ∨ ∃ d v, ds[i]? = some d ∧ vs[i]? = some v ∧ Rp K H S d v
  | [], vs, r, i => by
    have e : vs = [] := r
    subst e
    exact .inl ⟨rfl, rfl⟩
  | d :: ds, vs, r, i => by
    obtain ⟨v, w, rfl, r1, r2⟩ := r
    cases i with
    | zero => exact .inr ⟨d, v, rfl, rfl, r1⟩
    | succ i => exact rpL_at r2 i
theorem rpL_sel {K : PySem.W.Frag} {H : Hp} {S : Sd} {ds : List D} {vs : List V} (r : RpL K H S ds vs) : ∀ idx : List Nat, RpL K H S (sel idx ds) (sel idx vs)
  | [] => rpL_nil
  | i :: idx => by
    have t := rpL_sel r idx
    unfold sel at t ⊢
    rcases rpL_at r i with ⟨e1, e2⟩ | ⟨d, v, e1, e2, r1⟩
    · rw [List.filterMap_cons_none e1, List.filterMap_cons_none e2]; exact t
    · rw [List.filterMap_cons_some e1, List.filterMap_cons_some e2]; exact rpL_cons r1 t
structure DKw (X : Cx) (W : Wi) (kws : List Keyword) (t : TAD) : Prop where
  p : PK X kws (upA X.K W t)
section
variable {X : Cx} {W : Wi} {k n m : Nat} {f : Addr} {fd : FuncData} {ps ks : List Str} {sp : SpD} {idx : List Nat} {dvs : List V} {dds : List D} {x : Str} {p pos kpos : Pos} {a e : Expr} {es : List Expr} {kws : List Keyword} {ta : TED} {t tk : TAD} {nm : Option Str}
theorem pk_imp {t t' : TA} (h : PK X kws t) (i : ∀ σ H Q, t' σ H Q → t σ H Q) : PK X kws t' := ⟨fun pos pins s σ H Q I q => h.run pos pins s σ H Q I (i σ H Q q)⟩
theorem dk_nil : DKw X W [] dNil := ⟨pk_imp pk_nil fun σ H Q ⟨_, S, _, _, ok, _, h, k⟩ => k [] [] H S ok rfl h⟩
theorem dk_cons (ha : DE X W a ta) (hr : DKw X W kws tk) : DKw X W (⟨nm, a, kpos⟩ :: kws) (dCons ta tk) :=
  ⟨pk_imp (pk_cons ha.p hr.p) fun σ H Q ⟨σd, S, fr, Qd, ok, cl, h, k⟩ => ⟨σd, S, fr, _, ok, cl, h, fun x dx H1 S1 ok1 r1 h1 =>
    ⟨σd, S1, (x, dx) :: fr, _, ok1.cons r1, cl.tail, h1, fun vs ds H2 S2 ok2 r2 h2 => k (x :: vs) (dx :: ds) H2 S2 ok2.tail (rpL_cons ok2.head r2) h2⟩⟩⟩
/-- f(.., k = ..): what the places idx of all that is handed in hold, by the parameters -/
def dCallK (sp : SpD) (n m : Nat) (idx : List Nat) (dds : List D) (WD : WXD) (t tk : TAD) : TED := fun σ S Q => t σ S fun xs S1 => tk σ S1 fun zs S2 => (xs.length = n ∧ zs.length = m) ∧ sp (sel idx (xs ++ zs ++ dds)) S2 Q fun y S3 => WD y σ S3
end
/-! ### for x, y in zip(xs, ys) -/
def zipD (ds es : List D) : List D := (ds.zip es).map fun p => .tup [p.1, p.2]
def zipR (R : List D → Sd → Prop) (S : Sd) : List D → Prop
  | [.lst ds, .lst es] => R (zipD ds es) S
  | _ => False
def dZip (ta : TAD) : TID := fun σ S R => ta σ S fun xs S1 => zipR R S1 xs
/-! ### * of tuples too -/
def rdMulA : RD2
  | .int i, .int j, S, Q => i.natAbs.log2 + j.natAbs.log2 < 1000000 ∧ Q (.int (i * j)) S
  | .str z, .int k, S, Q => (0 ≤ k ∧ (z.length : Int) * k ≤ 16777216 ∧ k ≤ 16777216) ∧ Q (.str (repS z k.toNat)) S
  | .tup ds, .int k, S, Q => (ds ≠ [] ∧ 1 ≤ k ∧ k ≤ 1000 ∧ ds.length ≤ 1000) ∧ Q (.tup (List.replicate k.toNat ds).flatten) S
  | _, _, _, _ => False
theorem rpL_flat {K : PySem.W.Frag} {H : Hp} {S : Sd} {ds : List D} {vs : List V} (r : RpL K H S ds vs) : ∀ n : Nat, RpL K H S (List.replicate n ds).flatten (List.replicate n vs).flatten
  | 0 => rpL_nil
  | n + 1 => by
    rw [List.replicate_succ, List.replicate_succ, List.flatten_cons, List.flatten_cons]
    exact rpL_app r (rpL_flat r n)
theorem od_mulA {X : Cx} : OpD X (binaryOp .Mult) rdMulA := ⟨_, (op_mulW.or op_mulS).or (op_repT.or op_once), fun H S fr σd σ x y dx dy Qv Qd ok rx ry h k => by
  cases dx with
  | int i =>
    cases dy with
    | int j => exact .inl (.inl ⟨i, j, rx, ry, h.1, k _ (.int (i * j)) H S ok rfl h.2⟩)
    | _ => exact (show False from h).elim
  | str z =>
    cases dy with
    | int j => exact .inl (.inr ⟨z, j, rx, ry, h.1.1, h.1.2.1, h.1.2.2, k _ (.str (repS z j.toNat)) H S ok rfl h.2⟩)
    | _ => exact (show False from h).elim
  | tup ds =>
    cases dy with
    | int j =>
      obtain ⟨⟨h0, h1, h2, h3⟩, q⟩ := h
      obtain ⟨a, vs, rfl, q1, r⟩ := rx
      have hl := rpL_len r
      by_cases c : j = 1
      · subst c
        have e : (List.replicate (Int.toNat 1) ds).flatten = ds := by show (List.replicate 1 ds).flatten = ds; simp
        rw [e] at q
        exact .inr (.inr ⟨a, vs, rfl, ry, q1, k _ (.tup ds) H S ok ⟨a, vs, rfl, q1, r⟩ q⟩)
      · exact .inr (.inl ⟨a, j, vs, rfl, ry, q1, fun e => h0 (by rw [e] at hl; exact List.eq_nil_of_length_eq_zero hl), by omega, h2, by omega, fun p hp => k _ (.tup (List.replicate j.toNat ds).flatten) _ S (ok.new hp) (rp_tupNew ok.rel hp (rpL_flat r j.toNat)) q⟩)
    | _ => exact (show False from h).elim
  | _ => cases dy <;> exact (show False from h).elim⟩
section
variable {i j : Int} {x : Str} {ds : List D} {S : Sd} {Q : DK}
theorem x_mulA : rdMulA (.int i) (.int j) S Q = (i.natAbs.log2 + j.natAbs.log2 < 1000000 ∧ Q (.int (i * j)) S) := rfl
theorem x_mulA_s : rdMulA (.str x) (.int j) S Q = ((0 ≤ j ∧ (x.length : Int) * j ≤ 16777216 ∧ j ≤ 16777216) ∧ Q (.str (repS x j.toNat)) S) := rfl
theorem x_mulA_t : rdMulA (.tup ds) (.int j) S Q = ((ds ≠ [] ∧ 1 ≤ j ∧ j ≤ 1000 ∧ ds.length ≤ 1000) ∧ Q (.tup (List.replicate j.toNat ds).flatten) S) := rfl
end
theorem sel_n1 {a : D} : sel [0] ([] ++ [a]) = [a] := rfl
theorem sel_n2 {a b : D} : sel [0, 1] ([] ++ [a, b]) = [a, b] := rfl
theorem sel_x2 {a b : D} : sel [1, 0] ([] ++ [a, b]) = [b, a] := rfl
theorem sel_12 {a b : D} : sel [0, 1] ([a] ++ [b]) = [a, b] := rfl
end Dv

/-! Readings by value: max and min of a list, by a def's ints too. -/
namespace Dv
open PySem L2 PyProof.Rows Hx
/-- the place of the best of so many -/
def bestBy (up : Bool) (kf : Nat → Int) (n : Nat) : Nat := argBest (fun i j => if up then decide (kf i > kf j) else decide (kf i < kf j)) (n - 1)
def kfL (kf : Str → Int) (zs : List Str) (i : Nat) : Int := match zs[i]? with
  | some z => kf z
  | none => 0
def keyR (sp : SpD) (up : Bool) (S : Sd) (Q : DK) : D → Prop
  | .lst ds => ∃ (zs : List Str) (kf : Str → Int), ds = zs.map D.str ∧ 0 < zs.length ∧ (∀ z ∈ zs, ∀ Q' : DK, Q' (.int (kf z)) S → sp [.str z] S Q' fun _ _ => False) ∧ ∀ z, zs[bestBy up (kfL kf zs) zs.length]? = some z → Q (.str z) S
  | _ => False
def dKeyed (sp : SpD) (up : Bool) (t : TED) : TED := fun σ S Q => t σ S fun d S1 => keyR sp up S1 Q d
section
variable {X : Cx} {W : Wi} {k : Nat} {f : Addr} {fd : FuncData} {p fn : Str} {sp : SpD} {e : Expr} {t : TED} {p1 p2 p3 pos : Pos}
end
/-! ### a text within a text -/
def hasS (z a : Str) : Bool := !(Builtin.Str.occurrences z a 0 z.length 1).isEmpty
def rdInT : RD2 := fun x y S Q => match x, y with
  | .str a, .str z => Q (.bl (hasS z a)) S
  | _, _ => False
theorem x_inT {a z : Str} {S : Sd} {Q : DK} : rdInT (.str a) (.str z) S Q = Q (.bl (hasS z a)) S := rfl
/-! ### xs = [.. for ..], the list is kept for changes -/
def dCompO (ti : TID) (g : TGD) (tt : TTD) (te : TED) (vs : List Nat) : TED := fun σ S Q => ti σ S fun xs S1 => ∀ p, S1 p = none → dLcL g tt te p (wipeD σ vs) xs [] (upS S1 p (.lst [])) fun acc S2 => S2 p = some (.lst acc) ∧ Q (.obj p) S2
section
variable {X : Cx} {W : Wi} {pos : Pos}
theorem lc_liftO {K : PySem.W.Frag} {ti : TID} {g : TGD} {tt : TTD} {te : TED} {vs : List Nat} (σ : L2.St) (H : Hp) (Q : VK) (h : upE K W (dCompO ti g tt te vs) σ H Q) :
    tLc (upI K W ti) (upG K W0 vs g) (upT K W0 tt) (upE K W0 te) vs σ H Q := by
  obtain ⟨σd, S, fr, Qd, ok, cl, h, k⟩ := h
  refine ⟨σd, S, fr, _, ok, cl, h, fun J xs H1 S1 fr' ok1 it q => ?_⟩
  intro Dl hD
  have q0 := q Dl (ok1.rel.free hD)
  have ok2 : Ok K (upd H1 Dl (.lst [])) (upS S1 Dl (.lst [])) (fr' ++ fr) σd σ := ok1.own hD rpL_nil
  have Fin : (List D → Sd → Prop) := fun acc S2 => S2 Dl = some (.lst acc) ∧ Qd (.obj Dl) S2
  refine ⟨fun i m H' => m = xs.length - i ∧ i ≤ xs.length ∧ ∃ S' acc, RelS K H' S' ∧ FrOk K H' S' ((fr' ++ fr) ++ prs σd σ) ∧ dLcL g tt te Dl (wipeD σd vs) (xs.drop i) acc S' (fun acc S2 => S2 Dl = some (.lst acc) ∧ Qd (.obj Dl) S2),
    ⟨_, rfl, Nat.zero_le _, _, [], ok2.rel, ok2.out, by simpa using q0⟩, ?_⟩
  rintro i m H' ⟨rfl, hi, S', acc, R', F', q'⟩
  have okp : Ok K H' S' ((fr' ++ fr) ++ prs σd σ) σd σ := ⟨R', F', ok.len, fun i d e => by
    obtain ⟨v, h1, _⟩ := ok.si i d e
    exact ⟨v, h1, F' (v, d) (List.mem_append_right _ (prs_mem h1 e))⟩⟩
  have ok' : Ok K H' S' (fr' ++ fr) σd σ := ⟨R', fun p hp => F' p (List.mem_append_left _ hp), okp.len, okp.si⟩
  by_cases hlt : i < xs.length
  · have ex : xs[i]? = some xs[i] := List.getElem?_eq_getElem hlt
    have dr : xs.drop i = xs[i] :: xs.drop (i + 1) := List.drop_eq_getElem_cons hlt
    rw [dr] at q'
    obtain ⟨g1, g2⟩ := it.go i _ ex H' S' σd σ ok'
    refine .inr ⟨g1, fun H2 => ∃ S2 acc2, RelS K H2 S2 ∧ FrOk K H2 S2 ((fr' ++ fr) ++ prs σd σ) ∧ dLcL g tt te Dl (wipeD σd vs) (xs.drop (i + 1)) acc2 S2 (fun acc S2 => S2 Dl = some (.lst acc) ∧ Qd (.obj Dl) S2), fun H2 ⟨S2, acc2, h1, h2, h3⟩ => ⟨_, by omega, rfl, hlt, S2, acc2, h1, h2, h3⟩, fun x H2 y => ?_⟩
    obtain ⟨ok3, _⟩ := g2 x H2 y
    obtain ⟨_, r2⟩ := (it.go i _ ex H' S' σd σ ok').2 x H2 y
    have okp3 : Ok K H2 S' ((fr' ++ fr) ++ prs σd σ) σd σ := ⟨ok3.rel, ok3.out, ok3.len, ok3.si⟩
    refine ⟨wipeD σd vs, S', (fr' ++ fr) ++ prs σd σ, _, xs[i], okp3.wipe vs, Cl.zero, r2, q', fun σ3 σd3 H3 S3 ok4 hw q3 => ⟨hw.trans (wipe_wipe σ vs), σd3, S3, (fr' ++ fr) ++ prs σd σ, _, ok4, Cl.zero, q3, fun b H4 S4 ok5 q4 => ?_⟩⟩
    cases b with
    | true =>
      refine (show upE K W0 te σ3 H4 _ from ⟨σd3, S4, (fr' ++ fr) ++ prs σd σ, _, ok5, Cl.zero, (by simpa using q4), fun y dy H5 S5 ok6 r6 q5 => ?_⟩)
      obtain ⟨p1, p2, p3⟩ := q5
      obtain ⟨ws, hv, rl⟩ := rp_obj ok6.rel p1
      have st : Step H5 S5 (upd H5 Dl (.lst (ws ++ [y]))) (upS S5 Dl (.lst (acc ++ [dy]))) := step_set p1
      have okf := ok6.step st (rel_set ok6.rel p1 ⟨_, upd_same, rpL_step ok6.rel st _ _ (rpL_app rl (rpL_cons r6 rpL_nil))⟩)
      exact ⟨ws, hv, by rw [← rpL_len rl]; exact sz_lt' p2, _, _, okf.rel, okf.fr, p3⟩
    | false => exact ⟨S4, acc, ok5.rel, ok5.fr, by simpa using q4⟩
  · have e : i = xs.length := by omega
    subst e
    rw [List.drop_length] at q'
    obtain ⟨p1, p2⟩ := q'
    exact .inl ⟨it.stop H' S' σd σ ok', k _ (.obj Dl) H' S' ok'.pre rfl p2⟩
theorem ds_setLcO (i : Nat) {y : Str} {py : Pos} {elt tg iter : Expr} {ifs : List Expr} {scope : Scope} {own : List (Str × Nat)} {spos : Pos} {ti : TID} {g : TGD} {tt : TTD} {te : TED} (hc : X.calm = true) (hN : X.N.Nodup) (hy : X.N[i]? = some y) (hyl : X.env.scope.names.lookup y = some .local)
    (hsw : swapsWith (.ListComp elt [⟨tg, iter, ifs, 0⟩] scope pos) (some (.Name y py)) spos.line X.env = pure true) (hi : DI X W tg iter ti) (ok : BlkOk X.N X.env.scope scope own)
    (hg : ∀ (s : Shared) (H : Hp) (C : Addr) (cl : List (Str × Addr)) (fp : List Addr), DG (X.blk s H scope (compEnvC scope cl C X.env) fp) W0 (own.map (·.2)) tg g) (ht : ∀ (s : Shared) (H : Hp) (C : Addr) (cl : List (Str × Addr)) (fp : List Addr), DTs (X.blk s H scope (compEnvC scope cl C X.env) fp) W0 ifs tt)
    (he : ∀ (s : Shared) (H : Hp) (C : Addr) (cl : List (Str × Addr)) (fp : List Addr), DE (X.blk s H scope (compEnvC scope cl C X.env) fp) W0 elt te) (hs : ∀ x, foldedSetIterable iter X.env x = pure x := by intro _; rfl) :
    DS X W (.Assign [.Name y py] (.ListComp elt [⟨tg, iter, ifs, 0⟩] scope pos) spos) (dSet i (dCompO ti g tt te (own.map (·.2)))) :=
  ⟨PS.imp (ps_setLc hc hN hy hyl hsw hi.p ok (fun s H C cl fp => (hg s H C cl fp).p) (fun s H C cl fp => (ht s H C cl fp).p) (fun s H C cl fp => (he s H C cl fp).p) hs) fun D σ H ⟨σd, S, fr, Dd, ok, cl, h, k⟩ =>
    lc_liftO (W := W) σ H _ ⟨σd, S, fr, _, ok, cl, h, fun v d H1 S1 ok1 r1 q => k.nx _ _ H1 S1 (ok1.set r1 i) q⟩⟩
end
theorem comp_invO {ti : TID} {te : TED} {i : Nat} {vs : List Nat} {σ : Si} {S : Sd} {Q : DK} (xs : List D) (S1 : Sd) (J : Addr → List D → Sd → Prop) (hti : ∀ R : List D → Sd → Prop, R xs S1 → ti σ S R) (h0 : ∀ p, S1 p = none → J p [] (upS S1 p (.lst [])))
    (hs : ∀ (p : Addr) (pre : List D) (x : D) (r acc : List D) (S : Sd) (Q' : DK), S1 p = none → xs = pre ++ x :: r → acc.length = pre.length → J p acc S → S p = some (.lst acc) → (∀ y S', S' p = some (.lst acc) → J p (acc ++ [y]) (upS S' p (.lst (acc ++ [y]))) → Q' y S') → te ((wipeD σ vs).set i (some x)) S Q')
    (hl : xs.length ≤ 16777216) (hd : ∀ p acc S, S1 p = none → acc.length = xs.length → J p acc S → S p = some (.lst acc) → Q (.obj p) S) : dCompO ti (dName i) dYes te vs σ S Q := hti _ fun p hp =>
  lcL_inv (J p) (fun pre x r acc S Q' => hs p pre x r acc S Q' hp) hl (fun acc S hn j e => ⟨e, hd p acc S hp hn j e⟩) xs [] [] _ rfl rfl (h0 p hp) upS_same
end Dv

/-! Readings by value: sum of tuples. -/
namespace Dv
open PySem L2 PyProof.Rows Hx
section
variable {K : PySem.W.Frag} {H H' : Hp} {S : Sd}
end
def sumR (S : Sd) (Q : DK) : List D → List D → Prop
  | [.lst ds], [.tup []] => ∃ dss : List (List D), ds = dss.map D.tup ∧ (∀ n, (dss.take n).flatten.length ≤ 1000) ∧ Q (.tup dss.flatten) S
  | _, _ => False
def dSumT (t tk : TAD) : TED := fun σ S Q => t σ S fun xs S1 => tk σ S1 fun zs S2 => sumR S2 Q xs zs
section
variable {X : Cx} {W : Wi} {e : Expr} {t tk : TAD} {kws : List Keyword} {p pos : Pos}
end
end Dv

/-! Readings by value: a written dict of lists, subscripted at once; extend. -/
namespace Dv
open PySem L2 PyProof.Rows Hx
section
variable {X : Cx} {W : Wi} {k1 k2 x y : Str} {a b c d : Int} {i j : Nat} {m1 m2 m3 m4 m5 m6 : Nat} {q1 q2 q3 q4 q5 q6 u1 u2 dpos np yp pos apos cpos : Pos}
end
end Dv

/-! Readings by value: repr of data, == of tracked lists. -/
namespace Dv
open PySem L2 PyProof.Rows Hx
/-- a tracked list stands for its items -/
def valD (S : Sd) (d : D) : D := match d with
  | .obj a => match S a with
    | some (.lst ds) => .lst ds
    | _ => d
  | d => d
theorem dp_val {K : PySem.W.Frag} {H : Hp} {S : Sd} {d : D} {v : V} (R : RelS K H S) (h : isData (valD S d) = true) (r : Rp K H S d v) : Dp K H v (pd (valD S d)) := by
  cases d with
  | obj a =>
    have e : v = .ref a := r
    subst e
    unfold valD at h ⊢
    dsimp only at h ⊢
    split at h
    · rename_i ds q
      obtain ⟨vs, q1, q2⟩ := rp_obj R q
      exact .lst (.inl (.inl q1)) (dp_ofL R ds vs h q2)
    · exact absurd (show false = true from h) Bool.false_ne_true
  | _ => exact dp_of R _ v h r
/-! ### repr -/
/-! ### == where a tracked list may stand -/
def eqV_ (x y : D) (S : Sd) (Q : DK) : Prop := (eqOk (valD S x) = true ∧ eqOk (valD S y) = true) ∧ Q (.bl (deq (valD S x) (valD S y))) S
def neV_ (x y : D) (S : Sd) (Q : DK) : Prop := (eqOk (valD S x) = true ∧ eqOk (valD S y) = true) ∧ Q (.bl (!deq (valD S x) (valD S y))) S
def rdEqO : RD2 := fun x y S Q => match x, y with
  | .obj a, y => eqV_ (.obj a) y S Q
  | x, .obj b => eqV_ x (.obj b) S Q
  | x, y => rdEq x y S Q
def rdNeO : RD2 := fun x y S Q => match x, y with
  | .obj a, y => neV_ (.obj a) y S Q
  | x, .obj b => neV_ x (.obj b) S Q
  | x, y => rdNe x y S Q
theorem neO_inv {x y : D} {S : Sd} {Q : DK} (h : rdNeO x y S Q) : rdNe x y S Q ∨ neV_ x y S Q := by
  cases x with
  | obj a => exact .inr h
  | _ => cases y <;> first | exact .inr h | exact .inl h
theorem od_neO {X : Cx} (hu : X.A.units + 64 < cLine) : OpD X (compareOp .NotEq) rdNeO := ⟨_, op_ne.or (op_neD hu), fun H S fr σd σ x y dx dy Qv Qd ok rx ry h k => by
  rcases neO_inv h with h | ⟨⟨h1, h2⟩, q⟩
  · exact ne_lift H S fr σd σ x y dx dy Qv Qd ok rx ry h k
  · have a1 := Bool.and_eq_true_iff.mp h1
    have a2 := Bool.and_eq_true_iff.mp h2
    refine .inr ⟨_, _, dp_val ok.rel a1.1 rx, dp_val ok.rel a2.1 ry, a1.2, a2.2, ?_⟩
    rw [eqv_pd _ _ a1.1 a2.1]
    exact k _ (.bl _) H S ok rfl q⟩
section
variable {S : Sd} {Q : DK}
theorem x_eqO_ss {x y : Str} : rdEqO (.str x) (.str y) S Q = Q (.bl (decide (x = y))) S := rfl
theorem x_neO_ss {x y : Str} : rdNeO (.str x) (.str y) S Q = Q (.bl (!decide (x = y))) S := rfl
theorem x_val {a : Addr} {ds : List D} (h : S a = some (.lst ds)) : valD S (.obj a) = .lst ds := by
  unfold valD
  dsimp only
  rw [h]
end
/-! ### a list unpacked into names -/
def dTupL (n : Nat) (t : TGsD) : TGD := fun d σ S Q => match lstD S d with
  | some ds => ds.length = n ∧ t ds σ S Q
  | none => False
theorem x_tupL {n : Nat} {t : TGsD} {ds : List D} {σ : Si} {S : Sd} {Q : Si → Sd → Prop} : dTupL n t (.lst ds) σ S Q = (ds.length = n ∧ t ds σ S Q) := rfl
/-! ### a tracked list walked by a comprehension -/
section
variable {X : Cx} {W : Wi} {pos : Pos}
end
/-! ### isinstance, reverse of tracked lists -/
end Dv

/-! An own exception whose __init__ stores its arguments, over any built-in class of errors. -/
namespace Hx
open PySem PySem.Spec PyProof.Rows L2
/-- what the written part says of such a class; bm: its built-in class's mro -/
structure OexG (K : PySem.W.Frag) (C : Addr) (bm : List Value) (newId : String) : Prop where
  cls : ∃ nm q N bs sn sub ab col dd k0 k1 k2 k3 k5, K.lookup C = some (excClassObj nm q C N bs bm true sn sub ab col dd k0 k1 k2 k3 k5 newId)
  pass : ∀ self : Value, refuseLoop self "__setattr__" bm = pure ()
  top : bm.contains (.type "object") = true
  sa : PySem.W.findIn K (.ref C) "__setattr__" = some (some (.builtin "object.__setattr__"))
  exC : PySem.W.subIn K (.ref C) (.type "BaseException") = some true
  tyC : PySem.W.typeIn K (.ref C) = some (.type "type")
  kC : PySem.W.keepIn K (.ref C) = true
section
open Builtin Builtin.ObjectAttr PySem.Calls
variable {prog : Program} {w : World} {A : Around} {R : Result → Shared → Prop} {hp : Heap} {g : Array GenState} {d : Drawn} {t : Nat} {os : OsState} {K : PySem.W.Frag} {name : Str} {tk : Tok} {v : Value} {x C dx : Addr} {fv : Array Value} {cd : ClassData} {bm : List Value} {m0 : Str → Option Value} {nl : List Str}
theorem look_sub {o : Obj} {od : Option Obj} (X : K.In hp) (I : PySem.W.InstAt hp x o C od) (hcd : PySem.W.clsIn K C = some cd) (hm : cd.mro = .ref C :: bm) (top : bm.contains (.type "object") = true) : PySem.W.Looks (model prog w) hp (isInstance (.ref x) (.type "object")) true :=
  I.type.andThen (PySem.W.looks_mroIn X (by
    have e : cd.mro.contains (.type "object") = true := by rw [hm, List.contains_cons, top, Bool.or_true]
    unfold PySem.W.mroIn
    rw [hcd, Option.bind_some, if_neg (by rw [hm]; exact Bool.false_ne_true), e]))
/-- the first field: a dict is made -/
theorem put_first (X : K.In hp) (hx : hp.get? x = some { cls := .ref C, data := .fields fv }) (hcd : PySem.W.clsIn K C = some cd) (hm : cd.mro = .ref C :: bm) (pass : ∀ self : Value, refuseLoop self "__setattr__" bm = pure ()) (top : bm.contains (.type "object") = true) (hh : cd.hasDict = true) (free : PySem.W.findIn K (.ref C) name = some none)
    (fin : ∀ h' tk' dx, (∀ b o, b ≠ x → hp.get? b = some o → h'.get? b = some o) → hp.objs.size ≤ dx → dx ≠ x → h'.get? x = some { cls := .ref C, dict := some dx, data := .fields fv } → h'.Ns1 dx (fun y => if y = name then some v else none) → R (.ok (.ret .none)) ⟨h', g, d, tk', os⟩) :
    codeAny (model prog w) A (.call (.builtin "object.__setattr__") ⟨[.ref x, .str name tk, v], []⟩) R ⟨hp, g, d, t, os⟩ := by
  have SF := F.store_object
  have I : PySem.W.InstAt hp x { cls := .ref C, data := .fields fv } C none := ⟨hx, rfl, rfl, trivial⟩
  have apart : x ≠ hp.objs.size := Nat.ne_of_lt (Heap.lt_size hx)
  have seeC : PySem.W.Looks (model prog w) hp (classData C) cd := PySem.W.looks_clsIn X hcd
  have seeM : PySem.W.Looks (model prog w) hp (mroOf (.ref C)) cd.mro := seeC.andThen .now
  have seeT : PySem.W.Looks (model prog w) hp (storeTaker? none) none := .now
  refine codeAny_call_builtin SF.slot.plain SF.entry (@PySem.W.check_slot (model prog w) _ _ ⟨hp, g, d, t, os⟩ "object.__setattr__" "object" "__setattr__" (.ref x) [.str name tk, v] [] _ SF.kind SF.split (look_sub X I hcd hm top) (SF.args (.ref x) (.str name tk) v) ?_)
  rw [PySem.W.osa_eq, refuse_eq]
  refine wpAny_bind (wpAny_bind (I.type.at (wpAny_bind (seeM.at ?_))))
  rw [hm, refuseLoop_ref, pass]
  refine wpAny_pure (wpAny_bind (I.type.at (wpAny_bind ((PySem.W.looks_findIn X free).at (wpAny_bind (seeT.at (show wpAny _ _ (storeInOwnDict (.ref x) (.ref C) (.str name tk) name v false) _ _ _ from ?_)))))))
  cases cd
  dsimp only at hh
  subst hh
  unfold storeInOwnDict ownDictForStores
  repeat (first | with_reducible refine HandSPX.store_in_new ?_ ?_ | with_reducible refine wpAny_loadPart_at hx ?_ | with_reducible refine seeC.at ?_ | wp_step)
  · exact ⟨_, #[], _, (Heap.get?_update_ne _ _ _ _ apart.symm).trans (Heap.get?_push_at rfl rfl), rfl, fun e he => absurd he (by simp), fun _ => rfl⟩
  · intro h' tk' hn' hs
    refine fin h' tk' hp.objs.size (fun b o hb ho => ?_) (Nat.le_refl _) apart.symm ?_ hn'
    · exact (hs.2 b (Nat.ne_of_lt (Heap.lt_size ho))).trans ((Heap.get?_update_ne _ _ _ _ hb).trans (Heap.get?_push_of_some _ ho))
    · exact (hs.2 x apart).trans (Heap.get?_update_self _ (Heap.get?_push_of_some _ hx) rfl)
/-- a further field -/
theorem put_more (X : K.In hp) (hx : hp.get? x = some { cls := .ref C, dict := some dx, data := .fields fv }) (hns : hp.Ns1 dx m0) (hw : Within m0 nl) (hz : nl.length ≤ 1000) (hcd : PySem.W.clsIn K C = some cd) (hm : cd.mro = .ref C :: bm) (pass : ∀ self : Value, refuseLoop self "__setattr__" bm = pure ()) (top : bm.contains (.type "object") = true) (hh : cd.hasDict = true)
    (free : PySem.W.findIn K (.ref C) name = some none) (fin : ∀ h' tk', (∀ b o, b ≠ dx → hp.get? b = some o → h'.get? b = some o) → h'.Ns1 dx (fun y => if y = name then some v else m0 y) → R (.ok (.ret .none)) ⟨h', g, d, tk', os⟩) :
    codeAny (model prog w) A (.call (.builtin "object.__setattr__") ⟨[.ref x, .str name tk, v], []⟩) R ⟨hp, g, d, t, os⟩ := by
  have SF := F.store_object
  obtain ⟨oD, esD, epD, hoD, hdD, _⟩ := hns.count hw
  have I : PySem.W.InstAt hp x { cls := .ref C, dict := some dx, data := .fields fv } C (some oD) := ⟨hx, rfl, rfl, hoD⟩
  have seeC : PySem.W.Looks (model prog w) hp (classData C) cd := PySem.W.looks_clsIn X hcd
  have seeM : PySem.W.Looks (model prog w) hp (mroOf (.ref C)) cd.mro := seeC.andThen .now
  have seeT : PySem.W.Looks (model prog w) hp (storeTaker? none) none := .now
  refine codeAny_call_builtin SF.slot.plain SF.entry (@PySem.W.check_slot (model prog w) _ _ ⟨hp, g, d, t, os⟩ "object.__setattr__" "object" "__setattr__" (.ref x) [.str name tk, v] [] _ SF.kind SF.split (look_sub X I hcd hm top) (SF.args (.ref x) (.str name tk) v) ?_)
  rw [PySem.W.osa_eq, refuse_eq]
  refine wpAny_bind (wpAny_bind (I.type.at (wpAny_bind (seeM.at ?_))))
  rw [hm, refuseLoop_ref, pass]
  refine wpAny_pure (wpAny_bind (I.type.at (wpAny_bind ((PySem.W.looks_findIn X free).at (wpAny_bind (seeT.at (show wpAny _ _ (storeInOwnDict (.ref x) (.ref C) (.str name tk) name v false) _ _ _ from ?_)))))))
  cases cd
  dsimp only at hh
  subst hh
  unfold storeInOwnDict ownDictForStores
  repeat (first | with_reducible refine OEX.store_in_old hns hw hz ?_ | with_reducible refine wpAny_loadPart_at hx ?_ | with_reducible refine seeC.at ?_ | wp_step)
  exact fun h' tk' hn' hs => fin h' tk' (fun b o hb ho => (hs.2 b hb).trans ho) hn'
end
section
variable {X : Cx} {pins : List (Addr × Obj)} {σ : L2.St} {H : Hp} {s : Shared} {a C dx : Addr} {f : Str} {y : V} {u : Value} {fs : List (Str × V)} {Q : Unit → Shared → Prop} {E : Value → Shared → Prop} {A : Around} {bm : List Value} {newId : String}
theorem OexG.cd {K : PySem.W.Frag} (T : OexG K C bm newId) : ∃ cd, PySem.W.clsIn K C = some cd ∧ cd.mro = .ref C :: bm ∧ cd.hasDict = true := by
  obtain ⟨nm, q, N, bs, sn, sub, ab, col, dd, k0, k1, k2, k3, k5, hC⟩ := T.cls
  exact ⟨{ name := nm, bases := bs, mro := .ref C :: bm, ns := N, qualname := q, hasDict := true, slotNames := sn, subclasses := sub, abstract := ab, collection := col, hasDel := false }, by unfold PySem.W.clsIn; rw [hC] <;> rfl, rfl, rfl⟩
theorem set_first (T : OexG X.K C bm newId) (I : Inv X pins σ H s) (e : H a = some (exo a C none)) (free : PySem.W.findIn X.K (.ref C) f = some none) (ry : RelV y u)
    (fin : ∀ dx s', H dx = none → dx ≠ a → Inv X pins σ (upd (upd H dx (exd dx [(f, y)])) a (exo a C (some dx))) s' → Q () s') : wpAny (model X.prog X.w) A (setAttr (.ref a) f u) Q E s := by
  obtain ⟨cd, hcd, hm, hh⟩ := T.cd
  obtain ⟨t1, ho⟩ := exo_at I.hok e
  obtain ⟨hp, g, d, t, os⟩ := s
  refine PySem.W.set_plain I.kIn (ox := { cls := .ref C, dict := none, data := .fields #[.ref t1, .none, .none, .none, .bool false, .none] }) (od := none) ⟨ho, rfl, rfl, trivial⟩ T.sa ?_
  refine put_first I.kIn ho hcd hm T.pass T.top hh free fun h' tk' dx k dn dne hx hn => ?_
  have new : H dx = none := I.hok.fresh dn
  have old : ∀ {b : Addr} {o : Obj}, hp.get? b = some o → b ≠ dx := fun q => Nat.ne_of_lt (Nat.lt_of_lt_of_le (Heap.lt_size q) dn)
  have other : ∀ {b : Addr}, H b = none → b ≠ a := fun n z => by
    rw [z, e] at n
    cases n
  have still : ∀ {b : Addr} {o : HO}, H b = some o → b ≠ a → upd (upd H dx (exd dx [(f, y)])) a (exo a C (some dx)) b = some o := fun q h => by rw [upd_ne h, upd_ne (ne_of_none q new)]; exact q
  have un : Un X.fs [] H (upd (upd H dx (exd dx [(f, y)])) a (exo a C (some dx))) hp h' := {
    keep := fun b o q n _ _ => k b o (other n) q
    slot := fun b o q n _ _ => ⟨o.slots, k b o (other n) q⟩
    free := fun b o q n _ => by rw [upd_ne (other n), upd_ne (old q)]; exact n
    there := fun b o q _ => by
      by_cases hb : b = a
      · rw [hb]; exact ⟨_, hx⟩
      · exact ⟨o, k b o hb q⟩
    tups := fun b xs q => still q (at_ne e q exo_tup)
    frzs := fun b o v q => still q (at_ne e q exo_frz)
    tbls := fun b ps q => ⟨#[], by rw [still q (at_ne e q exo_tbl)]; simp⟩ }
  refine fin dx _ new dne (I.un (t' := tk') un fun b o q => ?_)
  by_cases hb : b = a
  · subst hb
    rw [upd_same] at q
    cases q
    exact exo_ok hx
  rw [upd_ne hb] at q
  by_cases hd : b = dx
  · subst hd
    rw [upd_same] at q
    cases q
    exact exd_ok hn (relO_put (fs := []) ry fun g => True.intro)
  rw [upd_ne hd] at q
  exact (I.hok b o q).stay (fun c v hc z => k c v (hc.elim (fun h => h ▸ hb) fun h => at_ne e h exo_own) z) (fun c hc => still hc (at_ne e hc exo_own)) fun c xs hc => still hc (at_ne e hc exo_tup)
theorem set_more (T : OexG X.K C bm newId) (I : Inv X pins σ H s) (e : H a = some (exo a C (some dx))) (ed : H dx = some (exd dx fs)) (hl : fs.length ≤ 900) (free : PySem.W.findIn X.K (.ref C) f = some none) (ry : RelV y u) (fin : ∀ s', Inv X pins σ (upd H dx (exd dx ((f, y) :: fs))) s' → Q () s') :
    wpAny (model X.prog X.w) A (setAttr (.ref a) f u) Q E s := by
  obtain ⟨cd, hcd, hm, hh⟩ := T.cd
  obtain ⟨t1, ho⟩ := exo_at I.hok e
  obtain ⟨mA, hns, rel⟩ := exd_at I.hok ed
  have hw := within_of rel
  obtain ⟨hp, g, d, t, os⟩ := s
  obtain ⟨oD, _, _, hoD, _, _⟩ := hns.count hw
  refine PySem.W.set_plain I.kIn (ox := { cls := .ref C, dict := some dx, data := .fields #[.ref t1, .none, .none, .none, .bool false, .none] }) (od := some oD) ⟨ho, rfl, rfl, hoD⟩ T.sa ?_
  refine put_more I.kIn ho hns hw (by rw [List.length_map]; omega) hcd hm T.pass T.top hh free fun h' tk' k hn => ?_
  obtain ⟨o, es, ep, ho', rest⟩ := id hn
  exact fin _ (I.write (t' := tk') (x := dx) (e := dx) (o := exd dx ((f, y) :: fs)) (by rw [ed]; exact True.intro) (.inl rfl) k ⟨o, ho'⟩ (exd_ok hn (relO_put ry rel)))
end
/-- self.f = e -/
def tPut (K : PySem.W.Frag) (bm : List Value) (newId : String) (f : Str) (to te : TE) : TS := fun D σ H => te σ H fun y H1 => to σ H1 fun x H2 => ∃ a C : Addr, x = .ref a ∧ OexG K C bm newId ∧ PySem.W.findIn K (.ref C) f = some none ∧
  ((H2 a = some (exo a C none) ∧ ∀ dx, H2 dx = none → dx ≠ a → D.nx σ (upd (upd H2 dx (exd dx [(f, y)])) a (exo a C (some dx)))) ∨ ∃ (dx : Addr) (fs : List (Str × V)), H2 a = some (exo a C (some dx)) ∧ H2 dx = some (exd dx fs) ∧ fs.length ≤ 900 ∧ D.nx σ (upd H2 dx (exd dx ((f, y) :: fs))))
section
variable {X : Cx} {o e : Expr} {es : List Expr} {to te : TE} {ta : TA} {f : Str} {p p' p1 p2 pos : Pos} {bm : List Value} {newId : String}
theorem ps_put (ho : PE X o to) (he : PE X e te) (hs : swapsWith e (some (.Attribute o f p')) pos.line X.env = pure false := by rfl) : PS X (.Assign [.Attribute o f p'] e pos) (tPut X.K bm newId f to te) :=
  ⟨fun pins s σ H D I h => plainObj_wpAny_Assign_Attribute (thn (he.run pins s σ H _ I h) fun v s1 ⟨y, H1, I1, r1, q1⟩ => thn (ho.run pins s1 σ H1 _ I1 q1) fun u s2 ⟨x, H2, I2, r2, a, C, ex, T, free, q⟩ => by
    subst ex
    obtain rfl : u = Value.ref a := r2
    rcases q with ⟨ea, q⟩ | ⟨dx, fs, ea, ed, hl, q⟩
    · exact set_first T I2 ea free r1 fun dx s' n ne J => ⟨σ, _, J, q dx n ne⟩
    · exact set_more T I2 ea ed hl free r1 fun s' J => ⟨σ, _, J, q⟩) hs⟩
/-- C(e, ..), its fields ready -/
def tMkG (C : Addr) (sp : Sp) (ta : TA) : L2.St → Hp → XK → Prop := fun σ H Q => ta σ H fun vs H1 => vs.length ≤ 1000 ∧ ∀ a, H1 a = none → sp (.ref a :: vs) (upd H1 a (exo a C none))
  (fun v H2 => v = .non ∧ ∃ (d : Addr) (fs : List (Str × V)), H2 a = some (exo a C (some d)) ∧ H2 d = some (exd d fs) ∧ H1 d = none ∧ Q (.ref C) (some d) (upd (L2.del H2 a) d (.xd fs))) (fun _ _ _ => False)
theorem noGuard {args : Args} : (Code.builtin "type.__call__" args).guards = [] := if_neg (by show ¬ (guardIds.contains "type.__call__" = true); decide)
theorem ctx_none {C : Addr} {d : Option Addr} {t0 : Addr} : L2N.Zn (.ref C) d ({ cls := .ref C, dict := d, data := .fields #[.ref t0, .none, .none, .none, .bool false, .none] } : Obj) := ⟨rfl, rfl, fun vs e => by cases e; rfl⟩
theorem pmk_G {B initId : String} {x : Str} {C fI : Addr} {k : Nat} {fd : FuncData} {ps : List Str} {sp : Sp} (FB : ExcBaseFacts B newId initId bm) (T : OexG X.K C bm newId) (iC : PySem.W.findIn X.K (.ref C) "__init__" = some (some (.ref fI))) (tI : PySem.W.typeIn X.K (.ref fI) = some (.type "function"))
    (F1 : FnG X.prog X.w X.K X.mg X.base (L2N.CX X.prog X.w) k fI fd ps sp) (hr : RoomG (k + 1) X.A) (hb : Binds X.K fd ps []) (hg : Gl X x) (hm : X.mg x = some (.ref C)) (ha : PA X (e :: es) ta)
    (hdb : (x == ("__debug__" : Str)) = false := by decide) (he : starEach (e :: es) X.env = (false, eval e X.env) :: starEach es X.env := by rfl) (hpl : (backTo pos (starEach es X.env)).any (·.1) = false := by rfl) :
    L2N.PMk X (.Call (.Name x p) (e :: es) [] pos) (tMkG C sp ta) := by
  intro pins s σ H Q I h
  obtain ⟨nm, q, N, bs, sn, sub, ab, col, dd, k0, k1, k2, k3, k5, hC⟩ := T.cls
  refine wpAny_Call_Name_kw (ld_glob I hg hm (PySem.W.callWith_K (h₀ := X.base) I.ok.mod.kin T.kC (thn (ha.run pos pins s σ H _ I h) fun us s1 ⟨vs, H1, I1, r1, hz, q1⟩ => ⟨I1.kIn, show wpAny _ _ (call (.ref C) us) _ _ _ from ?_⟩) he hpl) hdb)
  obtain ⟨hp, g, dr, tk, os⟩ := s1
  have above : hp.objs.size ≤ hp.objs.size + 1 := Nat.le_succ _
  have q2 := q1 (hp.objs.size + 1) (I1.hok.fresh above)
  have kept : ∀ b o, hp.get? b = some o → ((hp.push (PySem.W.kdv_tup us)).push (PySem.HandSPX.excO C hp.objs.size)).get? b = some o := fun b o z => Heap.get?_push_of_some _ (Heap.get?_push_of_some _ z)
  have I2 : Inv X pins σ (upd H1 (hp.objs.size + 1) (exo (hp.objs.size + 1) C none)) ⟨(hp.push (PySem.W.kdv_tup us)).push (PySem.HandSPX.excO C hp.objs.size), g, dr, tk, os⟩ :=
    I1.laid (t' := tk) (a := hp.objs.size + 1) (o := exo (hp.objs.size + 1) C none) (h' := (hp.push (PySem.W.kdv_tup us)).push (PySem.HandSPX.excO C hp.objs.size)) kept above (exo_ok (by heap_get))
  have r2 : Vals (V.ref (hp.objs.size + 1) :: vs) (Value.ref (hp.objs.size + 1) :: us) := .cons rfl r1
  have hl : (Value.ref (hp.objs.size + 1) :: us).length = ps.length := r2.length.symm.trans (F1.len _ _ _ _ q2)
  have few : us.length ≤ sizeLine := by rw [← Paired.length r1, sizeLine_eq]; omega
  have bind := hb _ (Value.ref (hp.objs.size + 1) :: us) I2.kIn (by rw [List.append_nil]; exact hl)
  rw [List.append_nil] at bind
  have room : RoomG k (X.A.under (.builtin "type.__call__" ⟨Value.ref C :: us, []⟩)) := ⟨hr.rm.make C us [], by
    unfold Around.under
    dsimp only
    rw [hr.gd, noGuard]
    rfl⟩
  refine wpAny_call (PySem.HandSPX.call_own FB (fun _ => rfl) (I1.kIn _ _ hC) (PySem.W.looks_findIn I1.kIn iC) (fun self => PySem.W.bind_fn I1.kIn self tI) few (codeAny_mono (F1.run _ X.stack _ _ ⟨Value.ref (hp.objs.size + 1) :: us, []⟩ _ _ _ (fun _ _ _ => False) room (I2.env0.make C us []) bind r2 q2) fun r s' got => ?_))
  match r, got with
  | .error er, got =>
    obtain ⟨_, _, _, _, _, _, _, _, _, _, _, _, z⟩ := (show L2N.CX X.prog X.w X.stack _ _ (fun _ _ _ => False) er s' from got)
    exact z.elim
  | .ok (.ret u), ⟨v, H2, os2, bare2, un2, hok2, rv, ev, d, fs, ea, ed, hd1, q3⟩ =>
    subst ev
    obtain ⟨h2, g2, d2, t2, os'⟩ := s'
    obtain ⟨t0, G, J, kG, ge, hoe, na⟩ := mk_end0 (d2 := d2) (t2 := t2) I1 above kept un2 hok2 os2 bare2 ea ed hd1
    exact ⟨rv, _, _, _, ⟨G, g2, d2, t2, os'⟩, _, .ref C, some d, rfl, J, kG, ge, hoe, ctx_none, rfl, rfl, na, rfl, bare2, raises_own T.exC T.tyC, q3⟩
end
/-! ### __init__ with one field, with two -/
def spI2 (C : Addr) (f g : Str) : Sp := fun vs H Q _ => ∃ (a : Addr) (v w : V), vs = [.ref a, v, w] ∧ H a = some (exo a C none) ∧ ∀ d, H d = none → d ≠ a → Q .non (upd (upd (upd H d (exd d [(f, v)])) a (exo a C (some d))) d (exd d [(g, w), (f, v)]))
section
variable {P : Program} {w : World} {K : PySem.W.Frag} {mg : Str → Option Value} {base : Heap} {x qual : Str} {st : Stmt} {fI C : Addr} {fd : FuncData} {bm : List Value} {newId : String} {s f g : Str} {p1 p2 p3 p4 q1 q2 q3 q4 : Pos}
theorem init2_ok (F : L2.Fun K x qual st fI fd) (Sc : FnScope [s, f, g] [s, f, g] (defScope st)) (T : OexG K C bm newId) (freeF : PySem.W.findIn K (.ref C) f = some none) (freeG : PySem.W.findIn K (.ref C) g = some none)
    (hb : defBody st = [.Assign [.Attribute (.Name s p1) f p2] (.Name f p3) p4, .Assign [.Attribute (.Name s q1) g q2] (.Name g q3) q4])
    (hs : ∀ env : Env, swapsWith (.Name f p3) (some (.Attribute (.Name s p1) f p2)) p4.line env = pure false := by intro _; rfl) (hs2 : ∀ env : Env, swapsWith (.Name g q3) (some (.Attribute (.Name s q1) g q2)) q4.line env = pure false := by intro _; rfl)
    (v1 : Vis (defScope st) s := by first | exact .inl rfl | exact .inr (.inl rfl)) (v2 : Vis (defScope st) f := by first | exact .inl rfl | exact .inr (.inl rfl)) (v3 : Vis (defScope st) g := by first | exact .inl rfl | exact .inr (.inl rfl)) (d1 : (s == ("__debug__" : Str)) = false := by decide) (c1 : (s == ("__classdict__" : Str)) = false := by decide)
    (d2 : (f == ("__debug__" : Str)) = false := by decide) (c2 : (f == ("__classdict__" : Str)) = false := by decide) (d3 : (g == ("__debug__" : Str)) = false := by decide) (c3 : (g == ("__classdict__" : Str)) = false := by decide) : FnG P w K mg base (L2N.CX P w) 1 fI fd [s, f, g] (spI2 C f g) := by
  refine fnG_of (k := 0) (N := [s, f, g]) F Sc (fun vs H Q E ⟨_, _, _, e, _⟩ => by rw [e]; rfl) fun cdv _ A outer sh H vs Q E hr ⟨a, v, w, e, ha, q⟩ => ?_
  subst e
  rw [hb]
  refine ⟨_, pss_cons (ps_put (bm := bm) (newId := newId) (pe_var (i := 0) rfl v1 d1 c1) (pe_var (i := 1) rfl v2 d2 c2) (hs _)) (pss_one (ps_put (bm := bm) (newId := newId) (pe_var (i := 0) rfl v1 d1 c1) (pe_var (i := 2) rfl v3 d3 c3) (hs2 _))), ?_⟩
  refine ⟨v, rfl, .ref a, rfl, a, C, rfl, T, freeF, .inl ⟨ha, fun d nd ne => ?_⟩⟩
  exact ⟨w, rfl, .ref a, rfl, a, C, rfl, T, freeG, .inr ⟨d, [(f, v)], upd_same, by rw [upd_ne ne, upd_same], by show 1 ≤ 900; decide, q d nd ne⟩⟩
end
end Hx

/-! Readings by value: own errors with fields raised, their fields read in a suite. -/
namespace Dv
open PySem L2 PyProof.Rows Hx
/-- such a class: its built-in class's mro bm, its fields fs, its __init__ at fI -/
structure FxF (K : PySem.W.Frag) (n : Str) (bm : List Value) (newId : String) (C fI : Addr) (fs : List Str) : Prop where
  at_ : PySem.W.nsIn K mainGlobals n = some (some (.ref C))
  ox : OexG K C bm newId
  free : ∀ f ∈ fs, PySem.W.findIn K (.ref C) f = some none
  ini : PySem.W.findIn K (.ref C) "__init__" = some (some (.ref fI))
  fn : PySem.W.typeIn K (.ref fI) = some (.type "function")
def oexB (K : PySem.W.Frag) (C : Addr) (bm : List Value) (newId : String) : Bool := match K.lookup C with
  | some ⟨.type "type", _, .cls cd, sl⟩ => (match cd.mro, sl.toList with
    | .ref C' :: bm', [_, _, _, _, some (.builtin n), _] => C' == C && (n == newId && (cd.hasDict && (!cd.hasDel && bm' == bm)))
    | _, _ => false)
  | _ => false
theorem oexB_ok {K : PySem.W.Frag} {C : Addr} {bm : List Value} {newId : String} (h : oexB K C bm newId = true) : ∃ nm q N bs sn sub ab col dd k0 k1 k2 k3 k5, K.lookup C = some (excClassObj nm q C N bs bm true sn sub ab col dd k0 k1 k2 k3 k5 newId) := by
  unfold oexB at h
  split at h
  · rename_i dd cd sl ho
    split at h
    · rename_i C' bm' k0 k1 k2 k3 n k5 hm hs
      simp only [Bool.and_eq_true, beq_iff_eq, Bool.not_eq_true'] at h
      obtain ⟨rfl, rfl, hdct, hdel, rfl⟩ := h
      obtain ⟨nm, bs, mro, ns, qn, hd, sn, sub, ab, col, del⟩ := cd
      dsimp only at hm hdel hdct
      subst hm hdel hdct
      have hsl : sl = #[k0, k1, k2, k3, some (.builtin n), k5] := by
        obtain ⟨l⟩ := sl
        simp only at hs
        rw [hs]
      subst hsl
      exact ⟨_, _, _, _, _, _, _, _, _, _, _, _, _, _, ho⟩
    · cases h
  · cases h
def fxB (K : PySem.W.Frag) (n : Str) (bm : List Value) (newId : String) (C fI : Addr) (fs : List Str) : Bool := decide (PySem.W.nsIn K mainGlobals n = some (some (.ref C))) && (oexB K C bm newId && (decide (PySem.W.findIn K (.ref C) "__setattr__" = some (some (.builtin "object.__setattr__"))) && (decide (PySem.W.subIn K (.ref C) (.type "BaseException") = some true) &&
  (decide (PySem.W.typeIn K (.ref C) = some (.type "type")) && (PySem.W.keepIn K (.ref C) && (fs.all (fun f => decide (PySem.W.findIn K (.ref C) f = some none)) && (decide (PySem.W.findIn K (.ref C) "__init__" = some (some (.ref fI))) && decide (PySem.W.typeIn K (.ref fI) = some (.type "function")))))))))
theorem fxB_ok {K : PySem.W.Frag} {n : Str} {bm : List Value} {newId : String} {C fI : Addr} {fs : List Str} (pass : ∀ self : Value, refuseLoop self "__setattr__" bm = pure ()) (top : bm.contains (.type "object") = true) (h : fxB K n bm newId C fI fs = true) : FxF K n bm newId C fI fs := by
  obtain ⟨h1, h⟩ := and_b h
  obtain ⟨h2, h⟩ := and_b h
  obtain ⟨h3, h⟩ := and_b h
  obtain ⟨h4, h⟩ := and_b h
  obtain ⟨h5, h⟩ := and_b h
  obtain ⟨h6, h⟩ := and_b h
  obtain ⟨h7, h⟩ := and_b h
  obtain ⟨h8, h9⟩ := and_b h
  exact ⟨of_decide_eq_true h1, ⟨oexB_ok h2, pass, top, of_decide_eq_true h3, of_decide_eq_true h4, of_decide_eq_true h5, h6⟩, fun f hf => of_decide_eq_true (List.all_eq_true.mp h7 f hf), of_decide_eq_true h8, of_decide_eq_true h9⟩
/-! ### raise C(e), raise C(e, e') -/
def dRaiseF2 (WD : WXD) (n f g : Str) (t : TAD) : TSD := fun _ σ S => t σ S fun ds S1 => match ds with
  | [a, b] => WD ⟨n, [g, f], [b, a]⟩ σ S1
  | _ => False
section
variable {X : Cx} {W : Wi} {pos pos' p : Pos} {n s f g : Str} {bm : List Value} {B newId initId : String} {C fI : Addr} {fs : List Str} {fd : FuncData} {e : Expr} {es : List Expr} {t : TAD}
theorem made_eq {H1 H2 : Hp} {a d : Addr} {v : List (Str × V)} (ha : H1 a = none) (hd : d ≠ a) (h : ∀ b, b ≠ a → b ≠ d → H2 b = H1 b) : upd (L2.del H2 a) d (.xd v) = upd H1 d (.xd v) := by
  funext b
  by_cases hb : b = d
  · rw [hb, upd_same, upd_same]
  · rw [upd_ne hb, upd_ne hb]
    by_cases hc : b = a
    · rw [hc, L2.del_same, ha]
    · rw [L2.del_ne hc, h b hc hb]
theorem ds_raiseF2 (hc : X.calm = true) (tk : L2N.Takes X W.V) (FB : ExcBaseFacts B newId initId bm) (Fx : FxF X.K n bm newId C fI fs) (F1 : FnG X.prog X.w X.K X.mg X.base (L2N.CX X.prog X.w) 1 fI fd [s, f, g] (spI2 C f g)) (hr : RoomG 2 X.A) (hb : Binds X.K fd [s, f, g] []) (gC : X.mg n = some (.ref C)) (hg : Gl X n) (ha : DA X W (e :: es) t)
    (hdb : (n == ("__debug__" : Str)) = false := by decide) (he : starEach (e :: es) X.env = (false, eval e X.env) :: starEach es X.env := by rfl) (hpl : (backTo pos (starEach es X.env)).any (·.1) = false := by rfl) :
    DS X W (.Raise (some (.Call (.Name n p) (e :: es) [] pos)) none pos') (dRaiseF2 W.D n f g t) :=
  ⟨PS.imp (L2N.ps_raise hc tk (pmk_G FB Fx.ox Fx.ini Fx.fn F1 hr hb hg gC ha.p hdb he hpl)) fun D σ H ⟨σd, S, fr, Dd, ok, cl, h, k⟩ => ⟨σd, S, fr, _, ok, cl, h, fun vs ds H1 S1 ok1 r1 q => by
    match ds, q with
    | [da, db], q =>
      obtain ⟨v, w, rfl, rv, rw'⟩ := rpL2 r1
      refine ⟨by show 2 ≤ 1000; decide, fun a na => ⟨a, v, w, rfl, upd_same, fun d nd ne => ⟨rfl, d, _, by rw [upd_ne (Ne.symm ne), upd_same], upd_same, by rw [upd_ne ne] at nd; exact nd, ?_⟩⟩⟩
      rw [upd_ne ne] at nd
      rw [made_eq na ne fun b hba hbd => by rw [upd_ne hbd, upd_ne hba, upd_ne hbd, upd_ne hba]]
      refine cl σd σ _ S1 (.ref C) (some d) ⟨n, [g, f], [db, da]⟩ (ok1.new nd) ⟨Fx.at_, (fun z => by cases z), fun dx ed => ?_⟩ q
      cases ed
      exact ⟨_, upd_same, ok1.rel.free nd, .inr ⟨rfl, rpL_step ok1.rel (step_new nd) [db, da] [w, v] (rpL_cons rw' (rpL_cons rv rpL_nil))⟩⟩⟩⟩
/-! ### e.f in a suite -/
def fldOf (ns : List Str) (xs : List D) (f : Str) : Option D := (ns.zip xs).lookup f
theorem rpL_lookup {K : PySem.W.Frag} {H : Hp} {S : Sd} : ∀ {xs : List D} {fs : List (Str × V)} {f : Str} {d : D}, RpL K H S xs (fs.map Prod.snd) → ((fs.map Prod.fst).zip xs).lookup f = some d → ∃ v, fs.lookup f = some v ∧ Rp K H S d v
  | [], fs, f, d, h, e => by simp at e
  | x :: xs, [], f, d, h, e => by simp at e
  | x :: xs, (g, v) :: fs, f, d, h, e => by
    obtain ⟨v', r, e1, h1, h2⟩ := h
    simp only [List.map_cons, List.cons.injEq] at e1
    obtain ⟨rfl, rfl⟩ := e1
    simp only [List.map_cons, List.zip_cons_cons, List.lookup_cons] at e
    rw [List.lookup_cons]
    cases c : f == g with
    | true =>
      rw [c] at e
      cases e
      exact ⟨v, rfl, h1⟩
    | false =>
      rw [c] at e
      exact rpL_lookup h2 e
end
theorem pass_IndexError (self : Value) : refuseLoop self "__setattr__" [.type "IndexError", .type "LookupError", .type "Exception", .type "BaseException", .type "object"] = pure () := by kernel_rfl
end Dv

/-! The place of a whole number in a tuple of whole numbers. -/
namespace Dv
open PySem L2 PyProof.Rows Hx
end Dv

/-! Instances of own classes by value: made, their fields, their methods. -/
namespace Dv
open PySem L2 PyProof.Rows Hx
/-- an own class with a plain __init__ -/
structure ClF (K : PySem.W.Frag) (n : Str) (C fI : Addr) : Prop where
  at_ : ClsAt K n C
  cls : Cls K C
  new : Mk K C fI
def clB (K : PySem.W.Frag) (n : Str) (C fI : Addr) : Bool := decide (PySem.W.nsIn K mainGlobals n = some (some (.ref C))) && (PySem.W.plainGet K C Str.empty && (PySem.W.hasDictIn K C && (PySem.W.plainOver K C && (decide (PySem.W.findIn K (.ref C) "__setattr__" = some (some (.builtin "object.__setattr__"))) &&
  (PySem.W.makesIn K C && (decide (PySem.W.findIn K (.ref C) "__init__" = some (some (.ref fI))) && (PySem.W.isFn K (.ref fI) && PySem.W.keepIn K (.ref C))))))))
theorem clB_ok {K : PySem.W.Frag} {n : Str} {C fI : Addr} (h : clB K n C fI = true) : ClF K n C fI := by
  unfold clB at h
  obtain ⟨a, h⟩ := and_b h
  obtain ⟨b, h⟩ := and_b h
  obtain ⟨c, h⟩ := and_b h
  obtain ⟨d, h⟩ := and_b h
  obtain ⟨e, h⟩ := and_b h
  obtain ⟨f, h⟩ := and_b h
  obtain ⟨g, h⟩ := and_b h
  obtain ⟨i, j⟩ := and_b h
  exact ⟨of_decide_eq_true (p := PySem.W.nsIn K mainGlobals n = some (some (.ref C))) a, ⟨b, c, d, of_decide_eq_true e⟩, ⟨f, of_decide_eq_true g, i, j⟩⟩
def noAttrB (K : PySem.W.Frag) (C : Addr) (fs : List Str) : Bool := fs.all fun f => decide (PySem.W.findIn K (.ref C) f = some none)
theorem noAttrB_ok {K : PySem.W.Frag} {C : Addr} {fs : List Str} (h : noAttrB K C fs = true) {f : Str} (hf : f ∈ fs) : NoAttr K C f := of_decide_eq_true (p := PySem.W.findIn K (.ref C) f = some none) (List.all_eq_true.mp h f hf)
def methB (K : PySem.W.Frag) (C : Addr) (m : Str) (f : Addr) : Bool := decide (PySem.W.findIn K (.ref C) m = some (some (.ref f))) && (PySem.W.isFn K (.ref f) && PySem.W.keepIn K (.ref f))
theorem methB_ok {K : PySem.W.Frag} {C : Addr} {m : Str} {f : Addr} (h : methB K C m f = true) : Meth K C m f := by
  unfold methB at h
  obtain ⟨a, h⟩ := and_b h
  obtain ⟨b, c⟩ := and_b h
  exact ⟨of_decide_eq_true a, b, c⟩
/-- C(..), then it is never stored into again -/
def dMake (n : Str) (sp : SpD) (dds : List D) (WD : WXD) (t : TAD) : TED := fun σ S Q => t σ S fun xs S1 => ∀ a, S1 a = none → sp (.obj a :: (xs ++ dds)) (upS S1 a (.ins n [] [])) (fun v S2 => v = .non ∧ ∃ ns ys, S2 a = some (.ins n ns ys) ∧ Q (.inst n ns ys) (del S2 a)) fun y S2 => WD y σ S2
/-- o.m(..) -/
def dMeth (n m : Str) (sp : SpD) (dds : List D) (WD : WXD) (to : TED) (t : TAD) : TED := fun σ S Q => to σ S fun o S1 => (∃ ns ys, o = .inst n ns ys ∧ m ∉ ns) ∧ t σ S1 fun xs S2 => sp (o :: (xs ++ dds)) S2 Q fun y S3 => WD y σ S3
/-- o.f, of what is stored into no more -/
def dFld (n f : Str) (to : TED) : TED := fun σ S Q => to σ S fun o S1 => ∃ ns ys d, o = .inst n ns ys ∧ fldOf ns ys f = some d ∧ Q d S1
theorem putF_new {f : Str} {v : V} : ∀ {fs : List (Str × V)}, f ∉ fs.map Prod.fst → putF f v fs = fs ++ [(f, v)]
  | [], _ => rfl
  | (g, x) :: r, h => by
    have h1 : g ≠ f := fun e => h (by rw [e]; simp)
    show (if g = f then (g, v) :: r else (g, x) :: putF f v r) = _
    rw [if_neg h1, putF_new fun z => h (List.mem_cons_of_mem _ z)]
    rfl
theorem lookup_not {f : Str} : ∀ {fs : List (Str × V)}, f ∉ fs.map Prod.fst → fs.lookup f = none
  | [], _ => rfl
  | (g, x) :: r, h => by
    have h1 : (f == g) = false := beq_false_of_ne fun e => h (by rw [e]; simp)
    rw [List.lookup_cons, h1]
    exact lookup_not fun z => h (List.mem_cons_of_mem _ z)
section
variable {X : Cx} {W : Wi} {k : Nat} {f C fI : Addr} {fd : FuncData} {ps : List Str} {sp : SpD} {ds : List Value} {dvs : List V} {dds : List D} {x n m g : Str} {p pos apos pos' : Pos} {o e : Expr} {es : List Expr} {to tv : TED} {t : TAD}
theorem step_made {H : Hp} {S : Sd} {x d : Addr} {u : HO} {w : HO} {o : SO} (hx : H x = none) (hd : H d = none) : Step H S (upd (upd H d w) x u) (upS S x o) := fun b z h1 h2 => by
  have b1 : b ≠ x := ne_of_none h1 hx
  have b2 : b ≠ d := ne_of_none h1 hd
  exact ⟨by rw [upd_ne b1, upd_ne b2]; exact h1, by rw [upS_ne b1]; exact h2⟩
theorem make_lift (c : ClsAt X.K n C) (hdd : ∀ H S, RpL X.K H S dds dvs) (σ : L2.St) (H : Hp) (Q : VK) (h : upE X.K W (dMake n sp dds W.D t) σ H Q) : tMakeS C (upF X.K sp) dvs (WE W.V) (upA X.K W t) σ H Q := by
  obtain ⟨σd, S, fr, Qd, ok, cl, h, k⟩ := h
  refine ⟨σd, S, fr, _, ok, cl, h, fun vs ds H1 S1 ok1 r1 h1 x dx hx hd hne => ?_⟩
  have st : Step H1 S1 (upd (upd H1 dx (.own x)) x (.ins C dx [])) (upS S1 x (.ins n [] [])) := step_made hx hd
  have sx : S1 x = none := ok1.rel.free hx
  have R2 : RelS X.K (upd (upd H1 dx (.own x)) x (.ins C dx [])) (upS S1 x (.ins n [] [])) := fun b w e => by
    by_cases hb : b = x
    · subst hb
      rw [upS_same] at e
      cases e
      exact ⟨C, dx, [], c, upd_same, rfl, rfl⟩
    · rw [upS_ne hb] at e
      exact soOk_step ok1.rel st (ok1.rel b w e) fun u hu => by rw [upd_ne hb, upd_ne (ne_of_none hu hd)]; exact hu
  have ok2 := ok1.step st R2
  refine ⟨.obj x :: (ds ++ dds), _, fr ++ prs σd σ, _, _, R2, ok2.out, rpL_cons rfl (rpL_app (rpL_step ok1.rel st _ _ r1) (hdd _ _)), h1 x sx, fun v d H3 S3 R3 f3 r3 q3 => ?_, fun cls od y H3 S3 R3 f3 ry q3 => ?_⟩
  · obtain ⟨e1, ns, ys, e2, q⟩ := q3
    subst e1
    refine ⟨r3, k (.ref x) _ H3 _ ((ok2.back R3 f3).step step_del (rel_del R3)) (rp_frozenI R3 e2) q⟩
  · exact cl σd σ H3 S3 cls od y (ok2.back R3 f3) ry q3
theorem de_make (Cf : ClF X.K n C fI) (F : FnG X.prog X.w X.K X.mg X.base (L2N.CX X.prog X.w) k fI fd ps (upF X.K sp)) (hr : RoomG (k + 1) X.A) (hg : Gl X n) (hm : X.mg n = some (.ref C)) (hb : Binds X.K fd ps ds) (hd : Vals dvs ds) (hdd : ∀ H S, RpL X.K H S dds dvs) (tk : L2N.Takes X W.V)
    (ha : DA X W (e :: es) t) (hdb : (n == ("__debug__" : Str)) = false := by decide) (he : starEach (e :: es) X.env = (false, eval e X.env) :: starEach es X.env := by rfl) (hpl : (backTo pos (starEach es X.env)).any (·.1) = false := by rfl) :
    DE X W (.Call (.Name n p) (e :: es) [] pos) (dMake n sp dds W.D t) :=
  ⟨PE.imp (pe_makeG Cf.new F hr hg hm hb hd (fun σ => L2N.passAt tk σ) ha.p hdb he hpl) (make_lift Cf.at_ hdd)⟩
theorem meth_lift (c : ClsAt X.K n C) (hdd : ∀ H S, RpL X.K H S dds dvs) (σ : L2.St) (H : Hp) (Q : VK) (h : upE X.K W (dMeth n m sp dds W.D to t) σ H Q) : tMethS C m (upF X.K sp) dvs (WE W.V) (upE X.K W to) (upA X.K W t) σ H Q := by
  obtain ⟨σd, S, fr, Qd, ok, cl, h, k⟩ := h
  refine ⟨σd, S, fr, _, ok, cl, h, fun x dx H1 S1 ok1 r1 ⟨⟨ns, ys, eo, hm⟩, h1⟩ => ?_⟩
  subst eo
  obtain ⟨C', a, d', fs, c', rfl, ha, sa, en, r⟩ := r1
  obtain rfl := c'.one c
  have r1 : Rp X.K H1 S1 (.inst n ns ys) (.ref a) := ⟨C', a, d', fs, c', rfl, ha, sa, en, r⟩
  refine ⟨a, d', fs, rfl, ha, lookup_not (by rw [en]; exact hm), σd, S1, (.ref a, .inst n ns ys) :: fr, _, ok1.cons r1, cl.tail, h1, fun vs ds H2 S2 ok2 r2 h2 => ?_⟩
  refine ⟨.inst n ns ys :: (ds ++ dds), S2, fr ++ prs σd σ, Qd, _, ok2.tail.rel, ok2.tail.out, rpL_cons ok2.head (rpL_app r2 (hdd H2 S2)), h2, fun v d H3 S3 R3 f3 r3 q3 => ?_, fun cls od y H3 S3 R3 f3 ry q3 => ?_⟩
  · exact k v d H3 S3 (ok2.tail.back R3 f3) r3 q3
  · exact cl σd σ H3 S3 cls od y (ok2.tail.back R3 f3) ry q3
theorem de_meth {pl : Sem Bool} (Cf : ClF X.K n C fI) (hM : Meth X.K C m f) (ho : DE X W o to) (F : FnG X.prog X.w X.K X.mg X.base (L2N.CX X.prog X.w) k f fd ps (upF X.K sp)) (hr : RoomG k X.A) (hb : Binds X.K fd ps ds) (hd : Vals dvs ds) (hdd : ∀ H S, RpL X.K H S dds dvs) (tk : L2N.Takes X W.V)
    (ha : DA X W (e :: es) t) (hst : starEach (e :: es) X.env = (false, eval e X.env) :: starEach es X.env := by rfl) (hpl : (backTo pos (starEach es X.env)).any (·.1) = false := by rfl)
    (ht : eval (.Call (.Attribute o m apos) (e :: es) [] pos) X.env = (do
      let ov ← eval o X.env
      standAt apos.atName
      let (f, first) ← holding [ov] (getMethod ov m pl)
      callWith pos f first (backTo pos (starEach (e :: es) X.env)) (backToKw pos (keywordEach [] X.env))) := by rfl) :
    DE X W (.Call (.Attribute o m apos) (e :: es) [] pos) (dMeth n m sp dds W.D to t) :=
  ⟨PE.imp (pe_methG (pl := pl) ho.p Cf.cls hM F hr hb hd (fun σ => L2N.passAt tk σ) ha.p hst hpl ht) (meth_lift Cf.at_ hdd)⟩
theorem de_fld (Cf : ClF X.K n C fI) (hn : NoAttr X.K C g) (ho : DE X W o to) (hb : attributeBase o g X.env (eval o X.env) = eval o X.env := by rfl) : DE X W (.Attribute o g pos) (dFld n g to) :=
  ⟨PE.imp (pe_fld ho.p hb) fun σ H Q ⟨σd, S, fr, Qd, ok, cl, h, k⟩ => ⟨σd, S, fr, _, ok, cl, h, fun x dx H1 S1 ok1 r1 ⟨ns, ys, d, eo, el, q⟩ => by
    subst eo
    obtain ⟨C', a, d', fs, c', rfl, ha, sa, en, r⟩ := r1
    obtain rfl := c'.one Cf.at_
    subst en
    obtain ⟨v, e1, e2⟩ := rpL_lookup r el
    exact ⟨a, C', d', fs, v, rfl, ha, Cf.cls, hn, e1, k v d H1 S1 ok1 e2 q⟩⟩⟩
end
/-- o.m(k = ..) -/
def dMethK (n m : Str) (sp : SpD) (nk : Nat) (idx : List Nat) (WD : WXD) (to : TED) (tk : TAD) : TED := fun σ S Q => to σ S fun o S1 => (∃ ns ys, o = .inst n ns ys ∧ m ∉ ns) ∧ tk σ S1 fun zs S2 => zs.length = nk ∧ sp (sel idx (o :: zs)) S2 Q fun y S3 => WD y σ S3
theorem de_methK {X : Cx} {W : Wi} {k : Nat} {f C fI : Addr} {fd : FuncData} {ps ks : List Str} {sp : SpD} {idx : List Nat} {n m : Str} {pos apos : Pos} {o : Expr} {kws : List Keyword} {to : TED} {tk : TAD} {pl : Sem Bool} (Cf : ClF X.K n C fI) (hM : Meth X.K C m f) (ho : DE X W o to) (F : FnG X.prog X.w X.K X.mg X.base (L2N.CX X.prog X.w) k f fd ps (upF X.K sp)) (hr : RoomG k X.A)
    (hb : KSel X.K fd ps 1 ks idx []) (tk' : L2N.Takes X W.V) (hkw : DKw X W kws tk) (hall : (backToKw pos (keywordEach kws X.env)).all (·.1.isSome) = true := by rfl) (hks : (backToKw pos (keywordEach kws X.env)).filterMap (·.1) = ks := by rfl)
    (hpl : ((backTo pos (starEach [] X.env)).any (·.1) || (backToKw pos (keywordEach kws X.env)).any (·.1.isNone)) = false := by rfl)
    (ht : eval (.Call (.Attribute o m apos) [] kws pos) X.env = (do
      let ov ← eval o X.env
      standAt apos.atName
      let (f, first) ← holding [ov] (getMethod ov m pl)
      callWith pos f first (backTo pos (starEach [] X.env)) (backToKw pos (keywordEach kws X.env))) := by rfl) : DE X W (.Call (.Attribute o m apos) [] kws pos) (dMethK n m sp ks.length idx W.D to tk) :=
  ⟨PE.imp (pe_methKG (pl := pl) ho.p Cf.cls hM F hr hb (fun σ => L2N.passAt tk' σ) hkw.p hall hks hpl ht) fun σ H Q ⟨σd, S, fr, Qd, ok, cl, h, kk⟩ => ⟨σd, S, fr, _, ok, cl, h, fun x dx H1 S1 ok1 r1 ⟨⟨ns, ys, eo, hm⟩, h1⟩ => by
    subst eo
    obtain ⟨C', a, d', fs, c', rfl, ha, sa, en, r⟩ := r1
    obtain rfl := c'.one Cf.at_
    have r1 : Rp X.K H1 S1 (.inst n ns ys) (.ref a) := ⟨C', a, d', fs, c', rfl, ha, sa, en, r⟩
    refine ⟨a, d', fs, rfl, ha, lookup_not (by rw [en]; exact hm), σd, S1, (.ref a, .inst n ns ys) :: fr, _, ok1.cons r1, cl.tail, h1, fun zs es H2 S2 ok2 r2 h2 => ?_⟩
    refine ⟨(rpL_len r2).symm.trans h2.1, sel idx (.inst n ns ys :: es), S2, fr ++ prs σd σ, Qd, _, ok2.tail.rel, ok2.tail.out, ?_, h2.2, fun v d H3 S3 R3 f3 r3 q3 => ?_, fun cls od y H3 S3 R3 f3 ry q3 => ?_⟩
    · rw [List.append_nil]
      exact rpL_sel (rpL_cons ok2.head r2) idx
    · exact kk v d H3 S3 (ok2.tail.back R3 f3) r3 q3
    · exact cl σd σ H3 S3 cls od y (ok2.tail.back R3 f3) ry q3⟩⟩
end Dv

/-! A list times a whole number; whether data stands in a list of data. -/
namespace Dv
open PySem L2 PyProof.Rows Hx
open AutoSeq1 (wpAny_loadPart')
def rdMulL : RD2 := fun x y S Q => match x, y with
  | .lst ds, .int k => (0 ≤ k ∧ k < 2 ^ 62 ∧ ds.length * k.toNat ≤ 16777216) ∧ Q (.lst (List.replicate k.toNat ds).flatten) S
  | _, _ => False
theorem x_mulL {ds : List D} {k : Int} {S : Sd} {Q : DK} : rdMulL (.lst ds) (.int k) S Q = ((0 ≤ k ∧ k < 2 ^ 62 ∧ ds.length * k.toNat ≤ 16777216) ∧ Q (.lst (List.replicate k.toNat ds).flatten) S) := rfl
/-! ### data in a list of data -/
end Dv

/-! Readings by value: defs with defaults; len of an instance. -/
namespace Dv
open PySem L2 PyProof.Rows Hx
section
variable {P : Program} {w : World} {K : PySem.W.Frag} {mg : Str → Option Value} {base : Heap}
end
end Dv
namespace Dv
open PySem L2 PyProof.Rows Hx
end Dv

/-! A tuple told at run time of which it is known that it has no dict: its method index. -/
namespace Dv
open PySem L2 PyProof.Rows Hx
def rdTupX : RDC := fun ds S Q => match ds with
  | [.lst ys] => Q (.tupX ys) S
  | _ => False
theorem x_tupX {ys : List D} {S : Sd} {Q : DK} : rdTupX [.lst ys] S Q = Q (.tupX ys) S := rfl
/-- the same as any tuple -/
def dPlain (t : TED) : TED := fun σ S Q => t σ S fun d S1 => match d with
  | .tupX ds => Q (.tup ds) S1
  | _ => False
section
variable {X : Cx} {W : Wi} {o e : Expr} {es : List Expr} {to : TED} {t : TAD} {apos cpos : Pos}
end
end Dv

/-! Readings by value: defs called while an exception is handled. -/
namespace Dv
open PySem PySem.Spec L2 PyProof.Rows Hx
section
variable {P : Program} {w : World} {K : PySem.W.Frag} {mg : Str → Option Value} {base : Heap}
end
section
variable {X : Cx} {k : Nat} {f : Addr} {fd : FuncData} {ps : List Str} {sp : SpD} {x : Str} {p pos : Pos} {e : Expr} {es : List Expr} {t : TAD}
end
end Dv

/-! Readings by value: sep.join(reversed(xs)). -/
namespace Dv
open PySem PySem.Spec L2 PyProof.Rows Hx
section
variable {X : Cx} {W : Wi}
end
end Dv
namespace Dv
open PySem PySem.Spec L2 PyProof.Rows Hx
end Dv

/-! Readings by value: data in a tuple of data. -/
namespace Dv
open PySem PySem.Spec L2 PyProof.Rows Hx
section
variable {X : Cx}
/-! ### steps by instances alone -/
theorem op_go {rd : RD2} {ta tb : TED} {σ : Si} {S : Sd} {Q : DK} (h : ta σ S fun x S1 => tb σ S1 fun y S2 => rd x y S2 Q) : dOp rd ta tb σ S Q := h
theorem c_go {d : D} {σ : Si} {S : Sd} {Q : DK} (h : Q d S) : dC d σ S Q := h
theorem cons_go {ta : TED} {tr : TAD} {σ : Si} {S : Sd} {Q : List D → Sd → Prop} (h : ta σ S fun x S1 => tr σ S1 fun xs S2 => Q (x :: xs) S2) : dCons ta tr σ S Q := h
theorem nil_go {σ : Si} {S : Sd} {Q : List D → Sd → Prop} (h : Q [] S) : dNil σ S Q := h
theorem call_go {sp : SpD} {WD : WXD} {t : TAD} {σ : Si} {S : Sd} {Q : DK} (h : t σ S fun xs S1 => sp xs S1 Q fun y S2 => WD y σ S2) : dCall sp [] WD t σ S Q := by
  unfold dCall
  simpa only [List.append_nil] using h
theorem var_go {i : Nat} {d : D} {σ : Si} {S : Sd} {Q : DK} (e : σ[i]? = some (some d)) (h : Q d S) : dVar i σ S Q := by rw [dVar_of e]; exact h
end
end Dv

/-! Readings by value: a written dict whose keys are tuples of whole numbers. -/
namespace Dv
open PySem PySem.Spec L2 PyProof.Rows Hx
abbrev TkE := List Int × Addr × Value
section
variable {X : Cx}
end
/-! ### by value -/
/-- the dict's entries as data -/
inductive TkV (K : PySem.W.Frag) : List TkE → List (List Int × D) → Prop
  | nil : TkV K [] []
  | cons {k : List Int} {b : Addr} {u : Value} {d : D} {v : V} {xs : List TkE} {tab : List (List Int × D)} : RelV v u → (∀ H S, Rp K H S d v) → TkV K xs tab → TkV K ((k, b, u) :: xs) ((k, d) :: tab)
def tkAt (tab : List (List Int × D)) (ks : List Int) : Option D := (tab.find? fun t => decide (t.1 = ks)).map (·.2)
theorem TkV.at {K : PySem.W.Frag} {ks : List Int} : ∀ {xs : List TkE} {tab : List (List Int × D)}, TkV K xs tab →
    (atKey xs ks).isSome = (tkAt tab ks).isSome ∧ ∀ d, tkAt tab ks = some d → ∃ b u v, atKey xs ks = some (b, u) ∧ RelV v u ∧ ∀ H S, Rp K H S d v
  | _, _, .nil => ⟨rfl, fun d h => by simp [tkAt] at h⟩
  | _, _, .cons (k := k) (b := b) (u := u) (d := d') (v := v) (xs := xs) (tab := tab) r p t => by
    by_cases c : k = ks
    · have e1 : atKey ((k, b, u) :: xs) ks = some (b, u) := by simp [atKey, c]
      have e2 : tkAt ((k, d') :: tab) ks = some d' := by simp [tkAt, c]
      rw [e1, e2]
      exact ⟨rfl, fun d h => by cases h; exact ⟨b, u, v, rfl, r, p⟩⟩
    · have e1 : atKey ((k, b, u) :: xs) ks = atKey xs ks := by simp [atKey, c]
      have e2 : tkAt ((k, d') :: tab) ks = tkAt tab ks := by simp [tkAt, c]
      rw [e1, e2]
      exact t.at
section
variable {X : Cx} {W : Wi} {pos : Pos}
end
end Dv

/-! Readings by value: a written dict of two tuples of whole numbers, asked at once; min of four ints; min with default. -/
namespace Dv
open PySem L2 PyProof.Rows Hx
/-! ### {"k1": (..), "k2": (..)}[x], {"k1": (..), "k2": (..)}.get(x), x a slot -/
section
variable {K : PySem.W.Frag} {W : Wi} {k1 k2 : Str} {ns ms : List Int} {i : Nat}
end
section
variable {X : Cx} {W : Wi} {k1 k2 x : Str} {ns ms : List Int} {i : Nat} {m1 m2 : Nat} {e1 e2 : Expr} {q1 q2 dpos np pos apos : Pos}
end
/-! ### min of four ints, min with default -/
section
variable {X : Cx} {W : Wi} {e : Expr} {t : TED} {d : Int} {j : Nat} {p1 p2 p3 pos : Pos}
end
end Dv

/-! Readings by value: a lambda handed to a def that calls it within a try with one clause; the suite and what stands behind are told by values. -/
namespace Dv
open PySem L2 PyProof.Rows Hx
section
variable {X : Cx} {pos : Pos}
/-- what is wished where the error leaves the lambda -/
def EG (K : PySem.W.Frag) (c : Str) (u : Addr → Option Addr → TSD) (Q : VK) : XK := fun cls od H' => ∃ Dn, cls = .ref Dn ∧ WhF K c Dn ∧ ∃ (S : Sd) (fr : List (V × D)) (Qd : DK) (ns : List Str) (xs : List D), RelS K H' S ∧ FrOk K H' S fr ∧ (∀ a, Rp K H' S (.exc a od ns xs) (.ref a)) ∧
  (∀ a, u a od { nx := fun _ _ => False, rt := Qd } [none, some (.exc a od ns xs)] S) ∧ ∀ w d H2 S2, RelS K H2 S2 → FrOk K H2 S2 fr → Rp K H2 S2 d w → Qd d S2 → Q w H2
/-- what is wished behind -/
def NG (K : PySem.W.Frag) (v : TSD) (Q : VK) (H' : Hp) : Prop := ∃ (S : Sd) (fr : List (V × D)) (Qd : DK), RelS K H' S ∧ FrOk K H' S fr ∧ v { nx := fun _ _ => False, rt := Qd } [none, none] S ∧ ∀ w d H2 S2, RelS K H2 S2 → FrOk K H2 S2 fr → Rp K H2 S2 d w → Qd d S2 → Q w H2
def TG (K : PySem.W.Frag) (c : Str) (u : Addr → Option Addr → TSD) (v : TSD) : (XK → Hp → VK → Prop) → Hp → VK → Prop := fun tl H Q => tl (EG K c u Q) H fun _ H' => NG K v Q H'
/-- g(lambda: body), g such a def -/
def dHT (P : Addr) (q c : Str) (u : Addr → Option Addr → TSD) (v : TSD) (te : XKD → TED) : TED := fun σ S Q => S P = some (.tab q) ∧ te (fun x S' => x.cls = c ∧ ∀ a od, u a od { nx := fun _ _ => False, rt := Q } [none, some (.exc a od x.ns x.xs)] S') σ S fun _ S' => v { nx := fun _ _ => False, rt := Q } [none, none] S'
end
end Dv

/-! Readings by value: a key in a dict of the module; a text not in a text. -/
namespace Dv
open PySem L2 PyProof.Rows Hx
def dKin (ks : List Str) (ta : TED) : TED := fun σ S Q => ta σ S fun x S1 => match x with
  | .str z => Q (.bl (decide (z ∈ ks))) S1
  | _ => False
section
variable {X : Cx} {W : Wi} {pos : Pos}
end
/-! ### a text not in a text -/
def rdNotInT : RD2 := fun x y S Q => match x, y with
  | .str a, .str z => Q (.bl (!hasS z a)) S
  | _, _ => False
theorem x_notInT {a z : Str} {S : Sd} {Q : DK} : rdNotInT (.str a) (.str z) S Q = Q (.bl (!hasS z a)) S := rfl
end Dv

/-! Readings by value: sorted and min of a list of data; range downward. -/
namespace Dv
open PySem L2 PyProof.Rows Hx
/-! ### range(a, b, -1) -/
end Dv

/-! Tuples made by +, a slice or *, of which it is known that they have no dict. -/
namespace Hx
open PySem PySem.Spec PyProof.Rows L2
section
variable {X : Cx}
end
end Hx
namespace Dv
open PySem L2 PyProof.Rows Hx
section
variable {X : Cx} {W : Wi} {o e : Expr} {es : List Expr} {to : TED} {t : TAD} {apos cpos : Pos}
end
end Dv
namespace Dv
open PySem L2 PyProof.Rows Hx
end Dv

/-! Methods of an instance that is still stored into. -/
namespace Dv
open PySem L2 PyProof.Rows Hx
/-- o.m(..), o is tracked -/
def dMethO (n m : Str) (sp : SpD) (dds : List D) (WD : WXD) (to : TED) (t : TAD) : TED := fun σ S Q => to σ S fun o S1 => (∃ a ns ys, o = .obj a ∧ S1 a = some (.ins n ns ys) ∧ m ∉ ns) ∧ t σ S1 fun xs S2 => sp (o :: (xs ++ dds)) S2 Q fun y S3 => WD y σ S3
section
variable {X : Cx} {W : Wi} {k : Nat} {f C fI : Addr} {fd : FuncData} {ps : List Str} {sp : SpD} {ds : List Value} {dvs : List V} {dds : List D} {x n m g : Str} {p pos apos pos' : Pos} {o e : Expr} {es : List Expr} {to tv : TED} {t : TAD}
theorem methO_lift (c : ClsAt X.K n C) (hdd : ∀ H S, RpL X.K H S dds dvs) (σ : L2.St) (H : Hp) (Q : VK) (h : upE X.K W (dMethO n m sp dds W.D to t) σ H Q) : tMethS C m (upF X.K sp) dvs (WE W.V) (upE X.K W to) (upA X.K W t) σ H Q := by
  obtain ⟨s0, S, fr, Qd, ok, cl, h, kq⟩ := h
  refine ⟨s0, S, fr, _, ok, cl, h, fun y dy H1 S1 ok1 ry ⟨⟨a, ns, ys, eo, es, hm⟩, h1⟩ => ?_⟩
  subst eo
  cases (show y = .ref a from ry)
  obtain ⟨C', dd, fs, c', ha, en, r⟩ := ok1.rel a _ es
  obtain rfl := c'.one c
  refine ⟨a, dd, fs, rfl, ha, lookup_not (by rw [en]; exact hm), s0, S1, (.ref a, .obj a) :: fr, _, ok1.cons rfl, cl.tail, h1, fun vs ds H2 S2 ok2 r2 h2 => ?_⟩
  refine ⟨.obj a :: (ds ++ dds), S2, fr ++ prs s0 σ, Qd, _, ok2.tail.rel, ok2.tail.out, rpL_cons ok2.head (rpL_app r2 (hdd H2 S2)), h2, fun u d H3 S3 R3 f3 r3 q3 => ?_, fun cls od z H3 S3 R3 f3 rz q3 => ?_⟩
  · exact kq u d H3 S3 (ok2.tail.back R3 f3) r3 q3
  · exact cl s0 σ H3 S3 cls od z (ok2.tail.back R3 f3) rz q3
theorem de_methO {pl : Sem Bool} (Cf : ClF X.K n C fI) (hM : Meth X.K C m f) (ho : DE X W o to) (F : FnG X.prog X.w X.K X.mg X.base (L2N.CX X.prog X.w) k f fd ps (upF X.K sp)) (hr : RoomG k X.A) (hb : Binds X.K fd ps ds) (hd : Vals dvs ds) (hdd : ∀ H S, RpL X.K H S dds dvs) (tk : L2N.Takes X W.V)
    (ha : DA X W (e :: es) t) (hst : starEach (e :: es) X.env = (false, eval e X.env) :: starEach es X.env := by rfl) (hpl : (backTo pos (starEach es X.env)).any (·.1) = false := by rfl)
    (ht : eval (.Call (.Attribute o m apos) (e :: es) [] pos) X.env = (do
      let ov ← eval o X.env
      standAt apos.atName
      let (f, first) ← holding [ov] (getMethod ov m pl)
      callWith pos f first (backTo pos (starEach (e :: es) X.env)) (backToKw pos (keywordEach [] X.env))) := by rfl) :
    DE X W (.Call (.Attribute o m apos) (e :: es) [] pos) (dMethO n m sp dds W.D to t) :=
  ⟨PE.imp (pe_methG (pl := pl) ho.p Cf.cls hM F hr hb hd (fun σ => L2N.passAt tk σ) ha.p hst hpl ht) (methO_lift Cf.at_ hdd)⟩
end
end Dv

/-! Texts with fields; repr of instances by a __repr__ of their own. -/
namespace Hx
open PySem PySem.Spec PyProof.Rows L2
/-! ### repr of an instance -/
end Hx
namespace Dv
open PySem L2 PyProof.Rows Hx
section
variable {X : Cx} {W : Wi} {e : Expr} {te : TED} {pos : Pos}
end
end Dv

/-! Own classes called by names. -/
namespace Hx
open PySem PySem.Spec PyProof.Rows L2
section
variable {X : Cx} {CX : CXT} {k n : Nat} {f C : Addr} {fd : FuncData} {ps ks : List Str} {sp : Sp} {idx : List Nat} {dvs : List V} {E : L2.St → XK} {x : Str} {p pos : Pos} {e : Expr} {es : List Expr} {kws : List Keyword} {t tk : TA}
end
end Hx
namespace Dv
open PySem L2 PyProof.Rows Hx
section
variable {X : Cx} {W : Wi} {k np : Nat} {f C fI : Addr} {fd : FuncData} {ps ks : List Str} {sp : SpD} {idx : List Nat} {dvs : List V} {dds : List D} {n : Str} {p pos : Pos} {e : Expr} {es : List Expr} {kws : List Keyword} {t tk : TAD}
end
end Dv

/-! min of a range by a bound method whose answers are data. -/
namespace Hx
open PySem PySem.Spec PyProof.Rows L2
/-- what stays while the best is sought: J j b k: of the first j things the one at b is the least so far, its key is k -/
structure MinRun (prog : Program) (w : World) (A : Around) (q T : Addr) (wr : List Addr) (G : Array GenState → Array GenState → Prop) (n : Nat) (P : Nat → Value → Prop) (St : Nat → Shared → Prop) (J0 : Shared → Prop) (J : Nat → Nat → Value → Shared → Prop) : Prop where
  keep0 : ∀ s s', J0 s → Moved (T :: wr) G s s' → J0 s'
  keep : ∀ j b k s s', J j b k s → Moved (T :: wr) G s s' → J j b k s'
  first : ∀ v (s : Shared) (o : Obj) (Q : Value → Shared → Prop) (E : Value → Shared → Prop), P 0 v → J0 s → St 1 s → s.heap.get? T = some o → (∀ k s', J 1 0 k s' → St 1 s' → s'.heap.get? T = some o → Q k s') → wpAny (model prog w) A (call (.ref q) [v]) Q E s
  turn : ∀ j b kb v (s : Shared) (o : Obj) (Q : Value → Shared → Prop) (E : Value → Shared → Prop), 1 ≤ j → j < n → P j v → J j b kb s → St (j + 1) s → s.heap.get? T = some o →
    (∀ k s', St (j + 1) s' → s'.heap.get? T = some o → (∀ (Q2 : Value → Shared → Prop) (E2 : Value → Shared → Prop), (J (j + 1) j k s' → Q2 (.bool true) s') → (J (j + 1) b kb s' → Q2 (.bool false) s') → wpAny (model prog w) A (richCompare .Lt k kb) Q2 E2 s') → Q k s') → wpAny (model prog w) A (call (.ref q) [v]) Q E s
section
variable {prog : Program} {w : World} {A : Around} {R : Result → Shared → Prop} {I q T : Addr} {fp wr : List Addr} {G : Array GenState → Array GenState → Prop} {n : Nat} {P : Nat → Value → Prop} {St : Nat → Shared → Prop} {J0 : Shared → Prop} {J : Nat → Nat → Value → Shared → Prop}
theorem min2_on (W : WalksS prog w A.in1 I fp wr G n P St) (hT : T ∉ fp) (M : MinRun prog w A.in1 q T wr G n P St J0 J) (kw : List (Str × Value)) : ∀ (m j b : Nat) (s : Shared) (best key : Value) (c : Nat), n - j = m → 1 ≤ j → j ≤ n → J j b key s → St j s → P b best →
    s.heap.get? T = some { cls := .type "list", dict := none, data := .seq #[best, key] c, slots := #[] } → (∀ v b k s', P b v → J n b k s' → R (.ok (.ret v)) s') → codeAny (model prog w) A (.builtin "min.loop" ⟨[.ref I, .ref q, .ref T], kw⟩) R s := by
  have apart : T ∉ wr := fun h => hT (W.sub T h)
  have within : ∀ b ∈ wr, b ∈ T :: wr := fun b hb => List.mem_cons_of_mem T hb
  have named : (toString "min" ++ toString ".loop" : String) = "min.loop" := by decide
  have other : ∀ {b : Addr}, b ∉ T :: wr → T ≠ b := fun hb h => hb (by rw [h]; exact List.mem_cons_self)
  intro m
  induction m with
  | zero =>
    intro j b s best key c hm j1 jn jj st hb eT fin
    obtain rfl : j = n := by omega
    refine codeAny_builtin F.entry_min_loop ?_
    rw [Around.under_plainId F.plain_min_loop ⟨[.ref I, .ref q, .ref T], kw⟩]
    refine wpAny_bind (m := seqItems? (.ref T)) (wpAny_seqItems eT rfl ?_)
    refine wpAny_bind (m := tryCatch (pyNext (.ref I)) _) (wpAny_tryCatch (W.done s _ _ st fun s1 mv => ?_))
    refine wpAny_bind (m := updateSeq T (fun _ => #[])) (wpAny_updateSeq (mv.heap T _ apart eT) rfl (wpAny_bind (wpAny_letGo (wpAny_pure ?_))))
    exact fin best b key _ hb (M.keep _ _ _ _ _ jj ((mv.mono within).then_heap (tk := s1.toks) (Nat.le_refl _) fun b o hb e => (Heap.get?_update_other _ _ (other hb)).trans e))
  | succ m ih =>
    intro j b s best key c hm j1 jn jj st hb eT fin
    have less : j < n := by omega
    refine codeAny_builtin F.entry_min_loop ?_
    rw [Around.under_plainId F.plain_min_loop ⟨[.ref I, .ref q, .ref T], kw⟩]
    refine wpAny_bind (m := seqItems? (.ref T)) (wpAny_seqItems eT rfl ?_)
    refine wpAny_bind (m := tryCatch (pyNext (.ref I)) _) (wpAny_tryCatch (W.item j s _ _ less st fun v s1 hv st1 mv => ?_))
    have eT1 := mv.heap T _ apart eT
    have jj1 := M.keep _ _ _ _ _ jj (mv.mono within)
    refine wpAny_bind (m := tryCatch (holding [v] (call (.ref q) [v])) _) (wpAny_tryCatch (wpAny_holding (M.turn j b key v s1 _ _ _ j1 less hv jj1 st1 eT1 fun kx s2 st2 eT2 cmp => ?_)))
    refine wpAny_bind (m := tryCatch (holding [v, kx] (richCompare .Lt kx key >>= _)) _) (wpAny_tryCatch (wpAny_holding (wpAny_bind (cmp _ _ (fun j2 => ?_) fun j2 => ?_))))
    · refine wpAny_bind (wpAny_holding (wpAny_truthy_bool (wpAny_bind (wpAny_letGo (wpAny_pure ?_)))))
      simp only [if_true]
      refine wpAny_bind (m := updateSeq T (fun _ => #[v, kx])) (wpAny_updateSeq eT2 rfl (wpAny_bind (wpAny_letGo ?_)))
      rw [named]
      have mv2 : Moved (T :: wr) G s2 { s2 with heap := s2.heap.update T (Obj.mapSeq fun _ => #[v, kx]), toks := s2.toks } := (Moved.refl W.grefl).then_heap (tk := s2.toks) (Nat.le_refl _) fun b o hb e => (Heap.get?_update_other _ _ (other hb)).trans e
      exact wpAny_pure ⟨plainId_quiet F.plain_min_loop _, ih (j + 1) j _ v kx _ (by omega) (by omega) less (M.keep _ _ _ _ _ j2 mv2) (W.frame _ s2 _ s2.toks st2 (Nat.le_refl _) fun b hbf o e => (Heap.get?_update_other _ _ (fun h : T = b => hT (by rw [h]; exact hbf))).trans e) hv (Heap.get?_update_self _ eT2 rfl) fin⟩
    · refine wpAny_bind (wpAny_holding (wpAny_truthy_bool (wpAny_bind (wpAny_letGo (wpAny_pure ?_)))))
      simp only [Bool.false_eq_true, if_false]
      refine wpAny_bind (wpAny_letGo ?_)
      rw [named]
      exact wpAny_pure ⟨plainId_quiet F.plain_min_loop _, ih (j + 1) b _ best key c (by omega) (by omega) less j2 st2 hb eT2 fin⟩
theorem min2_first (W : WalksS prog w A.in1 I fp wr G n P St) (hT : T ∉ fp) (M : MinRun prog w A.in1 q T wr G n P St J0 J) (kw : List (Str × Value)) (hn : 0 < n) {s : Shared} {c : Nat} (j0 : J0 s) (st : St 0 s)
    (eT : s.heap.get? T = some { cls := .type "list", dict := none, data := .seq #[] c, slots := #[] }) (fin : ∀ v b k s', P b v → J n b k s' → R (.ok (.ret v)) s') : codeAny (model prog w) A (.builtin "min.loop" ⟨[.ref I, .ref q, .ref T], kw⟩) R s := by
  have apart : T ∉ wr := fun h => hT (W.sub T h)
  have within : ∀ b ∈ wr, b ∈ T :: wr := fun b hb => List.mem_cons_of_mem T hb
  have named : (toString "min" ++ toString ".loop" : String) = "min.loop" := by decide
  have other : ∀ {b : Addr}, b ∉ T :: wr → T ≠ b := fun hb h => hb (by rw [h]; exact List.mem_cons_self)
  refine codeAny_builtin F.entry_min_loop ?_
  rw [Around.under_plainId F.plain_min_loop ⟨[.ref I, .ref q, .ref T], kw⟩]
  refine wpAny_bind (m := seqItems? (.ref T)) (wpAny_seqItems eT rfl ?_)
  refine wpAny_bind (m := tryCatch (pyNext (.ref I)) _) (wpAny_tryCatch (W.item 0 s _ _ hn st fun v s1 hv st1 mv => ?_))
  have eT1 := mv.heap T _ apart eT
  have j1 := M.keep0 _ _ j0 (mv.mono within)
  refine wpAny_bind (m := tryCatch (holding [v] (call (.ref q) [v])) _) (wpAny_tryCatch (wpAny_holding (M.first v s1 _ _ _ hv j1 st1 eT1 fun kx s2 j2 st2 eT2 => ?_)))
  refine wpAny_bind (m := updateSeq T (fun _ => #[v, kx])) (wpAny_updateSeq eT2 rfl ?_)
  rw [named]
  have mv2 : Moved (T :: wr) G s2 { s2 with heap := s2.heap.update T (Obj.mapSeq fun _ => #[v, kx]), toks := s2.toks } := (Moved.refl W.grefl).then_heap (tk := s2.toks) (Nat.le_refl _) fun b o hb e => (Heap.get?_update_other _ _ (other hb)).trans e
  exact wpAny_pure ⟨plainId_quiet F.plain_min_loop _, min2_on W hT M kw _ 1 0 _ v kx _ rfl (Nat.le_refl _) hn (M.keep _ _ _ _ _ j2 mv2) (W.frame _ s2 _ s2.toks st2 (Nat.le_refl _) fun b hbf o e => (Heap.get?_update_other _ _ (fun h : T = b => hT (by rw [h]; exact hbf))).trans e) hv (Heap.get?_update_self _ eT2 rfl) fin⟩
theorem call_min2 {E : Value → Shared → Prop} {s : Shared} {x : Value} {Q : Value → Shared → Prop}
    (h : wpAny (model prog w) A.in1 (pyIter x) (fun it s2 => ∃ I fp wr G n P St J0 J, it = .ref I ∧ WalksS prog w A.in1 I fp wr G n P St ∧ St 0 s2 ∧ (∀ b ∈ fp, b < s2.heap.objs.size) ∧ 0 < n ∧ MinRun prog w A.in1 q s2.heap.objs.size wr G n P St J0 J ∧ J0 s2 ∧ ∀ v b k s', P b v → J n b k s' → Q v s') E s) :
    wpAny (model prog w) A (call (.builtin "min") [x] [(Str.ofString "key", .ref q)]) Q E s := by
  have named : (toString "min" ++ toString ".loop" : String) = "min.loop" := by decide
  refine PyProof.Rows.kmk_tree F.kind_min F.plain_min F.entry_min (PyProof.Rows.kmk_min_key x (.ref q)) ?_
  refine wpAny_bind (m := Builtin.Builtins.bindParams "min" ["key", "default"] 0 ⟨[], [(Str.ofString "key", .ref q)]⟩) (wpAny_of_eq (show Builtin.Builtins.bindParams "min" ["key", "default"] 0 ⟨[], [(Str.ofString "key", .ref q)]⟩ = pure [some (.ref q), none] from rfl) (wpAny_bind (wpAny_pure ?_)))
  refine wpAny_bind (wpAny_mono h (fun it s2 got => ?_) fun _ _ e => e)
  obtain ⟨I, fp, wr, G, n, P, Z, J0, J, e, W, st, hfp, hn, M, j0, fin⟩ := got
  subst e
  refine wpAny_bind (wpAny_newObj_type ?_)
  rw [named]
  have hT : s2.heap.objs.size ∉ fp := fun hm => Nat.lt_irrefl _ (hfp _ hm)
  have mv : Moved (s2.heap.objs.size :: wr) G s2 { s2 with heap := s2.heap.push { cls := .type "list", data := .seq #[] 0 }, toks := s2.toks } := (Moved.refl W.grefl).then_heap (tk := s2.toks) (Nat.le_refl _) fun b o _ e => Heap.get?_push_of_some _ e
  exact wpAny_pure ⟨plainId_quiet F.plain_min_loop _, min2_first W hT M _ hn (M.keep0 _ _ j0 mv) (W.frame 0 s2 (s2.heap.push { cls := .type "list", data := .seq #[] 0 }) s2.toks st (Nat.le_refl _) fun b _ o e => Heap.get?_push_of_some _ e) (Heap.get?_push_size _ rfl) fin⟩
end
section
variable {X : Cx} {k : Nat} {f C : Addr} {fd : FuncData} {p1 p2 m : Str} {sp : Sp} {pins : List (Addr × Obj)} {σ : L2.St}
/-- what stays: the bound method, the walk's two objects, what is wished of the heap -/
structure JM (X : Cx) (pins : List (Addr × Obj)) (σ : L2.St) (T I b f a : Addr) (H : Hp) (s : Shared) : Prop where
  inv : Inv X pins σ H s
  ft : FpOk X pins H T
  fi : FpOk X pins H I
  fb : FpOk X pins H b
  at_ : s.heap.get? b = some (PySem.W.methodObj (.ref f) (.ref a))
theorem JM.keep {T I b f a : Addr} {H : Hp} {s s' : Shared} (h : JM X pins σ T I b f a H s) (hT : b ≠ T) (hI : b ≠ I) (mv : Moved [T, I] (fun a b => b = a) s s') : JM X pins σ T I b f a H s' := by
  obtain ⟨h1, g1, d1, t1, o1⟩ := s
  obtain ⟨h2, g2, d2, t2, o2⟩ := s'
  have e1 : g2 = g1 := mv.gens
  have e2 : d2 = d1 := mv.drawn
  have e3 : o2 = o1 := mv.os
  subst e1 e2 e3
  refine ⟨h.inv.turnedL (t' := t2) (ch := [T, I]) (fun c o hc e => mv.heap c o hc e) (fun c hc => ?_), h.ft, h.fi, h.fb, mv.heap b _ (by simp [hT, hI]) h.at_⟩
  simp only [List.mem_cons, List.not_mem_nil, or_false] at hc
  rcases hc with rfl | rfl
  · exact h.ft
  · exact h.fi
/-- one answer of the bound method -/
theorem JM.call {T I b a : Addr} {H : Hp} {s : Shared} {v : Value} {x : V} {R : V → Hp → Prop} (h : JM X pins σ T I b f a H s) (F : FnG X.prog X.w X.K X.mg X.base (L2N.CX X.prog X.w) k f fd [p1, p2] sp) (hr : RoomG (k + 1) X.A) (hb : Binds X.K fd [p1, p2] [])
    (rx : RelV x v) (hs : sp [.ref a, x] H R fun _ _ _ => False) {oT oI : Obj} (eT : s.heap.get? T = some oT) (eI : s.heap.get? I = some oI) {Q : Value → Shared → Prop} {E : Value → Shared → Prop}
    (hq : ∀ u y H' s', RelV y u → R y H' → JM X pins σ T I b f a H' s' → s'.heap.get? T = some oT → s'.heap.get? I = some oI → Q u s') : wpAny (model X.prog X.w) X.A.in1 (call (.ref b) [v]) Q E s := by
  have J := h.inv
  refine wpAny_call (PySem.W.method_call h.at_ (codeAny_mono (F.run X.A.in1 X.stack s H ⟨[.ref a, v], []⟩ [.ref a, v] [.ref a, x] R (fun _ _ _ => False) hr.in1 J.env0.in1 (hb s [.ref a, v] J.kIn rfl) (.cons rfl (.cons rx .nil)) hs) fun out s' got => ?_))
  match out, got with
  | .error e, got =>
    obtain ⟨_, _, _, _, _, _, _, _, _, _, _, _, z⟩ := (show L2N.CX X.prog X.w X.stack H s (fun _ _ _ => False) e s' from got)
    exact z.elim
  | .ok (.ret u), ⟨y, H', os, bare, un, hok, ry, q⟩ =>
    have J' := J.call' os un hok bare (ch := []) (fun b z => absurd z (by simp))
    have far : ∀ {c : Addr}, FpOk X pins H c → c ∉ frs X.stack := fun {c} hf hc' => by
      rcases List.mem_cons.mp (J.stkSub c hc') with e | e
      · exact hf.2.1 e
      · exact hf.2.2.1 e
    have stay : ∀ {c : Addr} {o : Obj}, FpOk X pins H c → s.heap.get? c = some o → s'.heap.get? c = some o ∧ FpOk X pins H' c := fun {c o} hf e =>
      ⟨un.keep c o e hf.1 (far hf) (by simp), ⟨un.free c o e hf.1 (by simp), hf.2⟩⟩
    exact hq u y H' s' ry q ⟨J', (stay h.ft eT).2, (stay h.fi eI).2, (stay h.fb h.at_).2, (stay h.fb h.at_).1⟩ (stay h.ft eT).1 (stay h.fi eI).1
end
end Hx

/-! Readings by value: min of a range by a bound method. -/
namespace Dv
open PySem L2 PyProof.Rows Hx
section
variable {X : Cx} {W : Wi} {k i : Nat} {f C fI : Addr} {fd : FuncData} {p1 p2 x c m : Str} {sp : SpD} {e : Expr} {te : TED}
end
end Dv

/-! "1" + e.replace(..).replace(..) and int(text, 2). -/
namespace Hx
open PySem PySem.Spec PyProof.Rows L2
section
variable {X : Cx}
end
section
open PySem.NumText PySem.Calls
end
section
open PySem.StrLaws
end
end Hx

/-! Readings by value: "1" + text.replace(..).replace(..), int(text, 2). -/
namespace Dv
open PySem PySem.Spec L2 PyProof.Rows Hx
section
variable {X : Cx} {W : Wi}
end
end Dv

/-! zip of two tuples of one length, strict=True. -/
namespace Hx
open PySem PySem.Spec PyProof.Rows L2 RZ
section
variable {prog : Program} {w : World} {A : Around} {E : Value → Shared → Prop} {s : Shared}
end
section
variable {prog : Program} {w : World} {A : Around} {E : Value → Shared → Prop} {s : Shared}
end
end Hx

/-! Readings by value: a local name that holds a def of the module; zip(.., .., strict=True) of two tuples; x.bit_length(). -/
namespace Dv
open PySem PySem.Spec L2 PyProof.Rows Hx
section
variable {X : Cx} {W : Wi} {k i : Nat} {x : Str} {p pos : Pos} {e : Expr} {es : List Expr} {t : TAD} {cs : List (Str × SpD)}
/-! ### zip, strict -/
/-! ### bit_length -/
/-! ### list(x), stored into later -/
end
end Dv

/-! Readings by value: the truth of an instance whose class has neither __bool__ nor __len__. -/
namespace Dv
open PySem PySem.Spec L2 PyProof.Rows Hx
section
variable {X : Cx} {W : Wi} {a : Expr} {ta : TE} {C fI : Addr} {n : Str}
end
/-! ### a tracked list that is changed no more: from here on a plain one -/
end Dv

/-! How often a truth stands in a list of truths. -/
namespace Dv
open PySem PySem.Spec L2 PyProof.Rows Hx
section
variable {X : Cx} {W : Wi} {o e : Expr} {es : List Expr} {to : TED} {t : TAD} {apos cpos : Pos}
end
end Dv

/-! == and != of an instance whose class has an __eq__ of its own and no __ne__. -/
namespace Hx
open PySem PySem.Spec PyProof.Rows L2
open Builtin
section
variable {prog : Program} {w : World} {A : Around} {E : Value → Shared → Prop} {s : Shared} {K : PySem.W.Frag} {x C f : Addr} {ox : Obj} {od : Option Obj} {b tb : Value}
end
end Hx

/-! ==, != and str of instances by value. -/
namespace Hx
open PySem PySem.Spec PyProof.Rows L2
end Hx
namespace Dv
open PySem L2 PyProof.Rows Hx
section
variable {X : Cx} {k : Nat} {n : Str} {ps : List Str} {C f fI : Addr} {fd : FuncData} {sp : SpD}
end
end Dv

/-! for i, x in enumerate(xs); isinstance by a class of the text. -/
namespace Dv
open PySem L2 PyProof.Rows Hx
/-! ### isinstance by a class of the text -/
end Dv

/-! str(whole number), str(text). -/
namespace Dv
open PySem L2 PyProof.Rows Hx
def rdStr : RDC := fun ds S Q => match ds with
  | [.int i] => i.natAbs.log2 < 1920 ∧ Q (.str (toString i)) S
  | [.str z] => Q (.str z) S
  | _ => False
theorem x_str_i {i : Int} {S : Sd} {Q : DK} : rdStr [.int i] S Q = (i.natAbs.log2 < 1920 ∧ Q (.str (toString i)) S) := rfl
theorem x_str_s {z : Str} {S : Sd} {Q : DK} : rdStr [.str z] S Q = Q (.str z) S := rfl
end Dv

/-! data == an instance: the data's own == declines, then the instance's __eq__ is asked. -/
namespace Hx
open PySem PySem.Spec PySem.SeqAt PyProof.Rows L2
open AutoSeq1 (wpAny_loadPart')
open Builtin
section
variable {prog : Program} {w : World} {A : Around} {E : Value → Shared → Prop} {s : Shared} {K : PySem.W.Frag} {y C f : Addr} {oy : Obj} {od : Option Obj} {a : Value} {Ta ida : String}
end
end Hx
namespace Dv
open PySem L2 PyProof.Rows Hx
section
variable {X : Cx} {k : Nat} {n : Str} {ps : List Str} {C f fI : Addr} {fd : FuncData} {sp : SpD}
end
end Dv

/-! an instance in [None, an instance]: by the class's own __eq__. -/
namespace Hx
open PySem PySem.Spec PySem.SeqAt PyProof.Rows L2
open AutoSeq1 (wpAny_loadPart')
open MeetsSeq MeetsSeq2 MeetsSeq3 SeqRoads2
open Builtin
section
variable {prog : Program} {w : World} {A : Around} {R : Result → Shared → Prop}
end
section
variable {X : Cx} {CX : CXT} {k : Nat} {C f : Addr} {fd : FuncData} {ps : List Str} {sp : Sp}
end
end Hx
namespace Dv
open PySem L2 PyProof.Rows Hx
end Dv

/-! "text" + x.replace(a, b). -/
namespace Dv
open PySem PySem.Spec L2 PyProof.Rows Hx
end Dv

/-! bool(x), x an instance whose class has a __len__ of its own and no __bool__. -/
namespace Hx
open PySem PySem.Spec PyProof.Rows L2
open Builtin
section
variable {prog : Program} {w : World} {A : Around} {E : Value → Shared → Prop} {s : Shared} {K : PySem.W.Frag} {a C f : Addr} {ox : Obj} {od : Option Obj}
end
end Hx

/-! Readings by value: bool of an instance by its own __len__; the place of data in a list of data. -/
namespace Dv
open PySem PySem.Spec L2 PyProof.Rows Hx
end Dv

/-! t[::-1] of a tuple, what is made being known whole. -/
namespace Dv
open PySem PySem.Spec PyProof.Rows L2 Hx
section
variable {X : Cx} {W : Wi} {e : Expr} {te : TED} {pos : Pos}
end
end Dv

/-! list(range(e)) by value; an expression that is never asked. -/
namespace Dv
open PySem PySem.Spec PyProof.Rows L2 Hx
section
variable {X : Cx} {W : Wi} {a e : Expr} {ta : TED}
end
end Dv

/-! A try whose body raises nothing. -/
namespace Hx
open PySem PySem.Spec PyProof.Rows L2
variable {X : Cx}
end Hx
namespace Dv
open PySem PySem.Spec PyProof.Rows L2 Hx
variable {X : Cx} {W : Wi} {pos : Pos}
end Dv

/-! An instance that is made and stored into again; a field that is stored anew; an instance handed out for good. -/
namespace Dv
open PySem PySem.Spec L2 PyProof.Rows Hx
section
variable {X : Cx} {W : Wi} {k : Nat} {f C fI : Addr} {fd : FuncData} {ps : List Str} {sp : SpD} {ds : List Value} {dvs : List V} {dds : List D} {x n m g : Str} {p pos apos pos' : Pos} {o e : Expr} {es : List Expr} {to tv : TED} {t : TAD}
/-- self.f = e, the first time or again -/
def dPutB (n f : Str) (to tv : TED) : TSD := fun D σ S => tv σ S fun y S1 => to σ S1 fun o S2 => ∃ a ns ys, o = .obj a ∧ S2 a = some (.ins n ns ys) ∧ ns.length < 1000 ∧ (f ∉ ns → D.nx σ (upS S2 a (.ins n (ns ++ [f]) (ys ++ [y])))) ∧ (∀ i, ns[i]? = some f → (∀ j, j < i → ns[j]? ≠ some f) → D.nx σ (upS S2 a (.ins n ns (ys.set i y))))
theorem putF_old {f : Str} {v : V} : ∀ {fs : List (Str × V)} {i : Nat}, (fs.map Prod.fst)[i]? = some f → (∀ j, j < i → (fs.map Prod.fst)[j]? ≠ some f) → (putF f v fs).map Prod.fst = fs.map Prod.fst ∧ (putF f v fs).map Prod.snd = (fs.map Prod.snd).set i v ∧ (putF f v fs).length = fs.length
  | [], i, h, _ => by cases i <;> cases h
  | (g, x) :: r, 0, h, _ => by
    have e : g = f := by injection h
    show (List.map Prod.fst (if g = f then (g, v) :: r else _) = _) ∧ (List.map Prod.snd (if g = f then (g, v) :: r else _) = _) ∧ (List.length (if g = f then (g, v) :: r else _) = _)
    rw [if_pos e]
    exact ⟨rfl, rfl, rfl⟩
  | (g, x) :: r, i + 1, h, hn => by
    have e : g ≠ f := fun e => hn 0 (Nat.succ_pos i) (by rw [← e]; rfl)
    obtain ⟨h1, h2, h3⟩ := putF_old (f := f) (v := v) (fs := r) (i := i) h fun j hj => hn (j + 1) (Nat.succ_lt_succ hj)
    show (List.map Prod.fst (if g = f then _ else (g, x) :: putF f v r) = _) ∧ (List.map Prod.snd (if g = f then _ else (g, x) :: putF f v r) = _) ∧ (List.length (if g = f then _ else (g, x) :: putF f v r) = _)
    rw [if_neg e]
    refine ⟨?_, ?_, ?_⟩
    · rw [List.map_cons, h1]; rfl
    · rw [List.map_cons, h2]; rfl
    · rw [List.length_cons, h3]; rfl
theorem ds_putB (Cf : ClF X.K n C fI) (hn : NoAttr X.K C g) (ho : DE X W o to) (hv : DE X W e tv) (hs : swapsWith e (some (.Attribute o g pos')) pos.line X.env = pure false) : DS X W (.Assign [.Attribute o g pos'] e pos) (dPutB n g to tv) :=
  ⟨PS.imp (ps_fld ho.p hv.p hs) fun D σ H ⟨σd, S, fr, Dd, ok, cl, h, k⟩ => ⟨σd, S, fr, _, ok, cl, h, fun y dy H1 S1 ok1 ry h1 => ⟨σd, S1, (y, dy) :: fr, _, ok1.cons ry, cl.tail, h1, fun x dx H2 S2 ok2 rx ⟨a, ns, ys, eo, es, hl, q1, q2⟩ => by
    subst eo
    cases (show x = .ref a from rx)
    obtain ⟨C', dd, fs, c', ha, en, r⟩ := ok2.rel a _ es
    obtain rfl := c'.one Cf.at_
    have lf : fs.length = ns.length := by rw [← en, List.length_map]
    refine ⟨a, C', dd, fs, rfl, ha, Cf.cls, hn, by omega, ?_⟩
    by_cases hg : g ∈ ns
    · obtain ⟨i, hi, hno⟩ : ∃ i, ns[i]? = some g ∧ ∀ j, j < i → ns[j]? ≠ some g := by
        obtain ⟨i, hlt, e⟩ := List.getElem_of_mem hg
        have h0 : ns[i]? = some g := by rw [List.getElem?_eq_getElem hlt, e]
        clear e hlt
        induction i using Nat.strongRecOn with
        | _ i ih =>
          by_cases c : ∃ j, j < i ∧ ns[j]? = some g
          · obtain ⟨j, hj, e⟩ := c
            exact ih j hj e
          · exact ⟨i, h0, fun j hj e => c ⟨j, hj, e⟩⟩
      obtain ⟨p1, p2, p3⟩ := putF_old (f := g) (v := y) (fs := fs) (i := i) (by rw [en]; exact hi) (by rw [en]; exact hno)
      have st : Step H2 S2 (upd H2 a (.ins C' dd (putF g y fs))) (upS S2 a (.ins n ns (ys.set i dy))) := step_set es
      refine k.nx σd σ _ _ (ok2.tail.step st (rel_set ok2.rel es ⟨C', dd, _, c', upd_same, by rw [p1, en], ?_⟩)) (q2 i hi hno)
      rw [p2]
      exact rpL_step ok2.rel st _ _ (rpL_set i r ok2.head)
    · have e1 : putF g y fs = fs ++ [(g, y)] := putF_new (by rw [en]; exact hg)
      rw [e1]
      have st : Step H2 S2 (upd H2 a (.ins C' dd (fs ++ [(g, y)]))) (upS S2 a (.ins n (ns ++ [g]) (ys ++ [dy]))) := step_set es
      refine k.nx σd σ _ _ (ok2.tail.step st (rel_set ok2.rel es ⟨C', dd, _, c', upd_same, by rw [List.map_append, en]; rfl, ?_⟩)) (q1 hg)
      rw [List.map_append]
      exact rpL_step ok2.rel st _ _ (rpL_app r (rpL_cons ok2.head rpL_nil))⟩⟩⟩
end
end Dv

/-! A method without arguments, called while an exception is handled. -/
namespace Dv
open PySem PySem.Spec L2 PyProof.Rows Hx
section
variable {X : Cx} {k : Nat} {f C fI : Addr} {fd : FuncData} {ps : List Str} {sp : SpD} {n m : Str} {pos apos : Pos} {o : Expr} {to : TED} {ta : TE}
end
end Dv

namespace Hx
open PySem PySem.Spec PyProof.Rows L2 HotX
section
variable {prog : Program} {w : World} {A : Around} {E : Value → Shared → Prop} {s : Shared}
end
section
variable {X : Cx} {pos : Pos}
end
end Hx
namespace Dv
open PySem PySem.Spec L2 PyProof.Rows Hx
end Dv

/-! str of a tuple; a dict of two written keys asked with a default; ==, != and isinstance of instances of other classes; an instance in a list of two. -/
namespace Hx
open PySem PySem.Spec PyProof.Rows L2
end Hx
namespace Dv
open PySem PySem.Spec L2 PyProof.Rows Hx
section
variable {K : PySem.W.Frag} {W : Wi} {z1 z2 : Str} {i : Nat}
end
section
variable {X : Cx} {W : Wi} {z1 z2 x : Str} {i : Nat} {m1 m2 m3 m4 : Nat} {q1 q2 q3 q4 q5 q6 dpos np np2 sp2 pos apos : Pos}
end
/-! ### instances of other classes -/
section
variable {X : Cx} {k : Nat} {n : Str} {ms ps : List Str} {C f fI : Addr} {fd : FuncData} {sp : SpD}
end
end Dv

/-! an instance in a list of two instances: by the class's own __eq__. -/
namespace Hx
open PySem PySem.Spec PySem.SeqAt PyProof.Rows L2
open AutoSeq1 (wpAny_loadPart')
open MeetsSeq MeetsSeq2 MeetsSeq3 SeqRoads2
open Builtin
section
variable {prog : Program} {w : World} {A : Around} {R : Result → Shared → Prop}
end
section
variable {X : Cx} {CX : CXT} {k : Nat} {C f : Addr} {fd : FuncData} {ps : List Str} {sp : Sp}
end
end Hx
namespace Dv
open PySem L2 PyProof.Rows Hx
end Dv

/-! xs[-2::-1] of a tuple: all but the last one, from behind. -/
namespace HT
open PySem PyProof.Rows
section
variable {prog : Program} {w : World} {A : Around} {E : Value → Shared → Prop} {s : Shared}
/-- where the walk from behind begins -/
def bkLo (n : Nat) : Int := max (-2 + (n : Int)) (-1)
theorem sliceApplied_bk {sl : Addr} {vl vu vk : Value} {n : Nat} {Q : Int × Int × Nat → Shared → Prop} (hs : s.heap.IsSliceOf sl vl vu vk) (pl : IsPart vl (some (-2))) (pu : IsPart vu none) (pk : IsPart vk (some (-1)))
    (h : Q (bkLo n, -1, n - 1) s) : wpAny (model prog w) A (Builtin.Slice.sliceApplied (.ref sl) (pure (n : Int))) Q E s := by
  obtain ⟨os, hos, hcs, hds⟩ := id hs
  unfold Builtin.Slice.sliceApplied Builtin.Slice.sliceFields
  refine wpAny_bind (wpAny_bind (wpAny_field hos hds (x := vl) rfl (wpAny_bind (wpAny_field hos hds (x := vu) rfl (wpAny_bind (wpAny_field hos hds (x := vk) rfl (wpAny_pure ?_)))))))
  refine wpAny_bind (slicePart_ pk ?_)
  show wpAny _ _ (if ((-1 : Int) == 0) = true then _ else _) _ _ s
  rw [if_neg (by decide)]
  refine wpAny_bind (slicePart_ pl (wpAny_bind (slicePart_ pu (wpAny_bind (wpAny_pure ?_)))))
  show wpAny _ _ (pure (bkLo n, (-1 : Int), Builtin.Slice.slicePlaces (bkLo n) (-1) (-1))) _ _ s
  have e : Builtin.Slice.slicePlaces (bkLo n) (-1) (-1) = n - 1 := by
    unfold Builtin.Slice.slicePlaces bkLo
    rw [if_neg (by decide)]
    by_cases h0 : max (-2 + (n : Int)) (-1) > -1
    · rw [if_pos h0]
      have e1 : (- -1 : Int) = 1 := by decide
      rw [e1, Int.ediv_one]
      omega
    · rw [if_neg h0]
      omega
  rw [e]
  exact wpAny_pure h
theorem pick_bk (xs : Array Value) : ((List.range (xs.size - 1)).filterMap fun (m : Nat) => xs[(bkLo xs.size + (m : Int) * -1).toNat]?).toArray = xs.toList.dropLast.reverse.toArray := by
  have e : ((List.range (xs.size - 1)).filterMap fun (m : Nat) => xs[(bkLo xs.size + (m : Int) * -1).toNat]?) = ((List.range (xs.size - 1)).map fun k => xs.size - 1 - 1 - k).filterMap (xs[·]?) := by
    rw [List.filterMap_map]
    refine fm_congr fun m hm => ?_
    have h := List.mem_range.mp hm
    have e2 : (bkLo xs.size + (m : Int) * -1).toNat = xs.size - 1 - 1 - m := by unfold bkLo; omega
    show xs[(bkLo xs.size + (m : Int) * -1).toNat]? = xs[xs.size - 1 - 1 - m]?
    rw [e2]
  rw [e, PySem.W.krv_range, List.filterMap_reverse]
  congr 2
  obtain ⟨L⟩ := xs
  show (List.range (L.toArray.size - 1)).filterMap (fun k => L.toArray[k]?) = L.toArray.toList.dropLast
  simp only [List.size_toArray, List.getElem?_toArray]
  have all : ∀ n, n ≤ L.length → (List.range n).filterMap (fun k => L[k]?) = L.take n := fun n => by
    induction n with
    | zero => intro _; rfl
    | succ n ih =>
      intro hn
      rw [List.range_succ, List.filterMap_append, ih (by omega), List.filterMap_cons, List.getElem?_eq_getElem (by omega), List.filterMap_nil, List.take_append_getElem (by omega)]
  rw [all _ (by omega), List.dropLast_eq_take]
theorem getItem_tuple_bk {t sl : Addr} {items : Array Value} {vl vu vk : Value} {Q : Value → Shared → Prop} (ht : IsTup s.heap t items) (hs : s.heap.IsSliceOf sl vl vu vk) (pl : IsPart vl (some (-2))) (pu : IsPart vu none) (pk : IsPart vk (some (-1)))
    (h : Q (.ref s.heap.objs.size) { s with heap := s.heap.push { cls := .type "tuple", data := .seq items.toList.dropLast.reverse.toArray } })
    (hsz : items.size ≤ sizeLine) : wpAny (model prog w) A (getItem (.ref t) (.ref sl)) Q E s := by
  have htake : sizeOk (.seq items.toList.dropLast.reverse.toArray) := by
    show items.toList.dropLast.reverse.toArray.size ≤ sizeLine
    rw [List.size_toArray, List.length_reverse, List.length_dropLast, Array.length_toList]
    omega
  obtain ⟨os, hos, hcs, hds⟩ := id hs
  have hTs : s.TypeIs (.ref sl) "slice" := ⟨os, hos, hcs⟩
  unfold getItem
  try with_reducible refine wpAny_holding ?_
  first | refine wpAny_bind (wpAny_pure ?_) | skip
  refine wpAny_bind (wpAny_sequenceKey ht.typeIs (by decide) ?_)
  refine wpAny_bind (wpAny_callSpecial?_slot (name := Str.ofString "__getitem__") ht.typeIs PyProof.Rows.slot_tuple_getitem
    (wpAny_call_entry PyProof.Rows.slot_tuple_getitem ht.typeIs entry_tuple_getitem ?_ (args_tuple_getitem _ _)))
  show wpAny _ _ (Builtin.Tuple.tupleItemsOf (.ref t) >>= _) _ _ s
  refine wpAny_bind (tupleItemsOf_ ht ?_)
  refine wpAny_bind (wpAny_typeOf hTs ?_)
  rw [if_pos (by decide)]
  refine wpAny_bind (sliceApplied_bk hs pl pu pk ?_)
  have hno : ¬ (((bkLo items.size) == 0 && (-1 : Int) == 1 && (items.size - 1) == items.size) = true) := by
    intro q
    rw [Bool.and_eq_true, Bool.and_eq_true] at q
    exact absurd q.1.2 (by decide)
  show wpAny _ _ (if ((bkLo items.size) == 0 && (-1 : Int) == 1 && (items.size - 1) == items.size) = true then _ else _) _ _ s
  rw [if_neg hno, pick_bk]
  first
    | exact wpAny_bind (m := Builtin.Tuple.tupleExact _) (wpAny_newObj_type (wpAny_pure ⟨_, rfl, wpAny_pure h⟩) htake)
    | exact wpAny_bind (m := Builtin.Tuple.tupleExact _) (wpAny_newObj_type (wpAny_bind (wpAny_pure (wpAny_pure ⟨_, rfl, wpAny_pure h⟩))) htake)
    | exact wpAny_bind (wpAny_bind (m := Builtin.Tuple.tupleExact _) (wpAny_newObj_type (wpAny_pure (wpAny_pure ⟨_, rfl, wpAny_pure h⟩)) htake))
    | exact wpAny_bind (wpAny_bind (m := Builtin.Tuple.tupleExact _) (wpAny_newObj_type (wpAny_pure ⟨_, rfl, wpAny_pure h⟩) htake))
end
end HT
namespace Dv
open PySem PySem.Spec L2 PyProof.Rows Hx HT
section
variable {X : Cx} {W : Wi} {e : Expr} {te : TED} {pos : Pos}
def tBk (K : PySem.W.Frag) (te : TE) : TE := fun σ H Q => te σ H fun x H1 => ∃ a xs, x = .ref a ∧ SqT K H1 a xs ∧ ∀ p, H1 p = none → Q (.ref p) (upd H1 p (.tup xs.dropLast.reverse))
theorem pe_bk {te : TE} {k1 k2 : Nat} {p1 p2 p3 p4 p5 : Pos} (he : PE X e te) : PE X (.Subscript e (.Slice (some (.UnaryOp .USub (.Constant (.int 2) k2 p4) p5)) none (some (.UnaryOp .USub (.Constant (.int 1) k1 p1) p2)) p3) pos) (tBk X.K te) := by
  refine ⟨fun pins s σ H Q I h => ?_⟩
  refine Subscript_ (thn (he.run pins s σ H _ I h) fun v s1 ⟨x, H1, I1, r1, q1⟩ => ?_)
  have hst : PO X (some (.UnaryOp .USub (.Constant (.int 1) k1 p1) p2)) (tPart (tUn (rU fun i => .int (-i)) (tC (.int 1)))) := po_some (pe_un un_neg pe_int)
  have hlo : PO X (some (.UnaryOp .USub (.Constant (.int 2) k2 p4) p5)) (tPart (tUn (rU fun i => .int (-i)) (tC (.int 2)))) := po_some (pe_un un_neg pe_int)
  refine wpAny_Slice (thn (hlo.run pins s1 σ H1 (fun o H2 => o = some (-2) ∧ H2 = H1) I1 ⟨2, rfl, -2, rfl, rfl, rfl⟩) fun vl s2 ⟨l, H2, I2, pl, el, e2⟩ => ?_)
  subst el e2
  refine thn (po_none.run pins s2 σ H2 (fun o H3 => o = none ∧ H3 = H2) I2 ⟨rfl, rfl⟩) fun vu s3 ⟨u, H3, I3, pu, eu, e3⟩ => ?_
  subst eu e3
  refine thn (hst.run pins s3 σ H3 (fun o H4 => o = some (-1) ∧ H4 = H3) I3 ⟨1, rfl, -1, rfl, rfl, rfl⟩) fun vs s4 ⟨o, H4, I4, ps, eo, e4⟩ => ?_
  subst eo e4
  have I5 : Inv X pins σ H4 { s4 with heap := s4.heap.push { cls := .type "slice", data := .fields #[vl, vu, vs] } } := I4.kept (t' := s4.toks) fun b ob q => Heap.get?_push_of_some _ q
  obtain ⟨a, xs, ex, hx, q⟩ := q1
  subst ex
  cases r1
  show wpAny (model X.prog X.w) X.A (subscriptTail e (.Slice (some (.UnaryOp .USub (.Constant (.int 2) k2 p4) p5)) none (some (.UnaryOp .USub (.Constant (.int 1) k1 p1) p2)) p3) (.ref a) (.ref s4.heap.objs.size)) (EP X pins σ Q) X.xe { s4 with heap := s4.heap.push { cls := .type "slice", data := .fields #[vl, vu, vs] } }
  obtain ⟨its, r, ht, hz⟩ := I5.tuple hx
  have hlen := r.length
  refine tail_any (ops := [.ref a, .ref s4.heap.objs.size]) ht.typeIs (PyProof.Rows.slot_tuple_getitem.lookup) ?_ (by with_unfolding_all rfl)
  refine HT.getItem_tuple_bk ht (Heap.IsSliceOf.new _ vl vu vs) pl pu ps ?_ (by rw [List.size_toArray]; omega)
  refine ⟨.ref _, _, I5.laid (t' := s4.toks) (o := .tup xs.dropLast.reverse) (fun b ob q => Heap.get?_push_of_some _ q) (Nat.le_refl _) ?_, rfl, q _ (I5.hok.fresh (Nat.le_refl _))⟩
  have drl : ∀ {xs : List V} {vs : List Value}, Vals xs vs → Vals xs.dropLast vs.dropLast := fun {xs vs} h => by
    induction h with
    | nil => exact .nil
    | cons h t ih =>
      cases t with
      | nil => exact .nil
      | cons h2 t2 => exact .cons h ih
  exact ⟨by rw [List.length_reverse, List.length_dropLast]; omega, its.dropLast.reverse, (drl r).reverse, _, Heap.get?_push_size _ rfl, rfl, 0, rfl⟩
/-- xs[-2::-1] -/
def dBk (te : TED) : TED := fun σ S Q => te σ S fun x S1 => match x with
  | .tup ds => Q (.tup ds.dropLast.reverse) S1
  | _ => False
theorem rpL_dl {K : PySem.W.Frag} {H : Hp} {S : Sd} : ∀ {ds : List D} {vs : List V}, RpL K H S ds vs → RpL K H S ds.dropLast vs.dropLast
  | [], vs, h => by cases vs with
    | nil => exact h
    | cons v vs => exact nomatch h
  | [d], vs, h => by
    obtain ⟨v, rfl, _⟩ := rpL1 h
    exact rpL_nil
  | d :: e :: ds, vs, h => by
    obtain ⟨v, r, rfl, h1, h2⟩ := h
    obtain ⟨v2, r2, rfl, h3, h4⟩ := id h2
    exact rpL_cons h1 (rpL_dl (ds := e :: ds) h2)
theorem de_bk {k1 k2 : Nat} {p1 p2 p3 p4 p5 : Pos} (he : DE X W e te) : DE X W (.Subscript e (.Slice (some (.UnaryOp .USub (.Constant (.int 2) k2 p4) p5)) none (some (.UnaryOp .USub (.Constant (.int 1) k1 p1) p2)) p3) pos) (dBk te) :=
  ⟨PE.imp (pe_bk he.p) fun σ H Q ⟨σd, S, fr, Qd, ok, cl, h, k⟩ => ⟨σd, S, fr, _, ok, cl, h, fun x dx H1 S1 ok1 r1 q => by
    cases dx with
    | tup ds =>
      obtain ⟨a, vs, e1, q1, r2⟩ := r1
      exact ⟨a, vs, e1, q1, fun p hp => k _ (.tup ds.dropLast.reverse) _ S1 (ok1.new hp) (rp_tupNew ok1.rel hp (rpL_rev (rpL_dl r2))) q⟩
    | _ => exact (show False from q).elim⟩⟩
end
end Dv

/-! Readings by value, z: urns, draws, small data, words. -/
namespace Dv
open PySem L2 PyProof.Rows
theorem mulOk {a b : Int} (m n : Nat) (ha : a.natAbs < 2 ^ m) (hb : b.natAbs < 2 ^ n) (h0 : 0 < m) (h1 : 0 < n) (h : m + n ≤ 1000000) : a.natAbs.log2 + b.natAbs.log2 < 1000000 := by
  have x := log2_lt ha h0
  have y := log2_lt hb h1
  omega
theorem powOk {a : Int} (m : Nat) (j : Int) (ha : a.natAbs < 2 ^ m) (h0 : 0 < m) (hj : 0 ≤ j) (h : (m : Int) * j ≤ 134217728) : 0 ≤ j ∧ ((a.natAbs.log2 : Int) + 1) * j ≤ 134217728 := by
  have x := log2_lt ha h0
  refine ⟨hj, Int.le_trans (Int.mul_le_mul_of_nonneg_right ?_ hj) h⟩
  omega
theorem fmod_in {a b : Int} (h : 0 < b) : 0 ≤ a.fmod b ∧ a.fmod b < b := by
  rw [Int.fmod_eq_emod_of_nonneg a (Int.le_of_lt h)]
  exact ⟨Int.emod_nonneg a (by omega), Int.emod_lt_of_pos a h⟩
theorem abs_lt_of {a : Int} {n : Nat} (h0 : 0 ≤ a) (h1 : a < 2 ^ n) : a.natAbs < 2 ^ n := by
  have e : ((2 ^ n : Nat) : Int) = 2 ^ n := by simp
  omega
def primes : List D := [.int 2147483647, .int 2147483629, .int 2147483587, .int 2147483579, .int 2147483563, .int 2147483549, .int 2147483543]
theorem primes_at {k : Int} (h0 : 0 ≤ k) (h1 : k < 7) : ∃ p, atI primes k = some (.int p) ∧ 2147483543 ≤ p ∧ p < 2147483648 := by
  have c : k = 0 ∨ k = 1 ∨ k = 2 ∨ k = 3 ∨ k = 4 ∨ k = 5 ∨ k = 6 := by omega
  rcases c with rfl | rfl | rfl | rfl | rfl | rfl | rfl
  · exact ⟨2147483647, atI_nat (j := 0) rfl, by decide, by decide⟩
  · exact ⟨2147483629, atI_nat (j := 1) rfl, by decide, by decide⟩
  · exact ⟨2147483587, atI_nat (j := 2) rfl, by decide, by decide⟩
  · exact ⟨2147483579, atI_nat (j := 3) rfl, by decide, by decide⟩
  · exact ⟨2147483563, atI_nat (j := 4) rfl, by decide, by decide⟩
  · exact ⟨2147483549, atI_nat (j := 5) rfl, by decide, by decide⟩
  · exact ⟨2147483543, atI_nat (j := 6) rfl, by decide, by decide⟩
theorem ixN_0 {n : Nat} (h : 0 < n) : ixN n 0 = some 0 := ixN_nat h
theorem ixN_2 {n : Nat} (h : 2 < n) : ixN n 2 = some 2 := ixN_nat h
/-! ### small data -/
def isWh : D → Bool
  | .int _ => true
  | _ => false
mutual
/-- ints below 2 ^ n, texts of at most 100000 signs -/
def sm (n : Nat) : D → Bool
  | .int i => decide (i.natAbs < 2 ^ n)
  | .str z => decide (z.length ≤ 100000)
  | .non => true | .bl _ => true
  | .tup ds => smL n ds
  | .lst ds => smL n ds
  | _ => false
def smL (n : Nat) : List D → Bool
  | [] => true
  | d :: ds => sm n d && smL n ds
end
theorem smL_iff {n : Nat} : ∀ {ds : List D}, smL n ds = true ↔ ∀ d ∈ ds, sm n d = true
  | [] => by simp [smL]
  | d :: ds => by
    have ih := smL_iff (n := n) (ds := ds)
    simp only [smL, Bool.and_eq_true, List.mem_cons, ih]
    constructor
    · rintro ⟨h1, h2⟩ x (rfl | hx)
      · exact h1
      · exact h2 x hx
    · intro h
      exact ⟨h d (.inl rfl), fun x hx => h x (.inr hx)⟩
mutual
theorem sm_data {n : Nat} : ∀ {d : D}, sm n d = true → isData d = true
  | .int _, _ => rfl
  | .non, _ => rfl
  | .bl _, _ => rfl
  | .str _, _ => rfl
  | .tup ds, h => smL_data (ds := ds) h
  | .lst ds, h => smL_data (ds := ds) h
  | .tupX _, h => absurd (show false = true from h) Bool.false_ne_true
  | .inst _ _ _, h => absurd (show false = true from h) Bool.false_ne_true
  | .obj _, h => absurd (show false = true from h) Bool.false_ne_true
  | .ty _, h => absurd (show false = true from h) Bool.false_ne_true
theorem smL_data {n : Nat} : ∀ {ds : List D}, smL n ds = true → isDataL ds = true
  | [], _ => rfl
  | d :: ds, h => by
    have h' := Bool.and_eq_true_iff.mp (show (sm n d && smL n ds) = true from h)
    show (isData d && isDataL ds) = true
    rw [sm_data h'.1, smL_data h'.2]
    rfl
end
theorem sm_int {n : Nat} {i : Int} : sm n (.int i) = true ↔ i.natAbs < 2 ^ n := by simp [sm]
theorem sm_str {n : Nat} {z : Str} : sm n (.str z) = true ↔ z.length ≤ 100000 := by simp [sm]
theorem smT {n : Nat} {ds : List D} : sm n (.tup ds) = true ↔ ∀ d ∈ ds, sm n d = true := smL_iff
theorem smLs {n : Nat} {ds : List D} : sm n (.lst ds) = true ↔ ∀ d ∈ ds, sm n d = true := smL_iff
/-! ### urns -/
def Urn (S : Sd) (u : Addr) (B : Int) : Prop := ∃ g c n, S u = some (.lst [.int g, .int c, .int n]) ∧ 0 ≤ g ∧ 0 ≤ c ∧ c < 2 ^ 70 ∧ 0 ≤ n ∧ n ≤ B
def Oth (S S' : Sd) (u : Addr) : Prop := ∀ a, a ≠ u → S' a = S a
theorem Oth.trans {S S1 S2 : Sd} {u : Addr} (h : Oth S S1 u) (k : Oth S1 S2 u) : Oth S S2 u := fun a ha => (k a ha).trans (h a ha)
theorem Oth.refl {S : Sd} {u : Addr} : Oth S S u := fun _ _ => rfl
theorem Urn.mono {S : Sd} {u : Addr} {B B' : Int} (h : Urn S u B) (hb : B ≤ B') : Urn S u B' := by
  obtain ⟨g, c, n, e, g0, c0, c1, n0, n1⟩ := h
  exact ⟨g, c, n, e, g0, c0, c1, n0, Int.le_trans n1 hb⟩
theorem Urn.oth {S S' : Sd} {p u : Addr} {B : Int} (h : Urn S u B) (ho : ∀ a, a ≠ p → S' a = S a) (hne : u ≠ p) : Urn S' u B := by
  obtain ⟨g, c, n, e, k⟩ := h
  exact ⟨g, c, n, (ho u hne).trans e, k⟩
theorem Urn.ne {S : Sd} {p u : Addr} {B : Int} (h : Urn S u B) (hp : S p = none) : u ≠ p := fun e => by
  obtain ⟨g, c, n, e2, _⟩ := h
  rw [e, hp] at e2
  cases e2
theorem Urn.up {S : Sd} {p u : Addr} {B : Int} {o : SO} (h : Urn S u B) (hne : u ≠ p) : Urn (upS S p o) u B := h.oth (fun a ha => upS_ne ha) hne
theorem Urn.del {S : Sd} {p u : Addr} {B : Int} (h : Urn S u B) (hne : u ≠ p) : Urn (del S p) u B := h.oth (fun a ha => del_ne ha) hne
theorem Oth.del {S S' : Sd} {p u : Addr} (h : ∀ a, a ≠ u → a ≠ p → S' a = S a) (hp : S p = none) : Oth S (del S' p) u := fun a ha => by
  by_cases e : a = p
  · rw [e, del_same, hp]
  · rw [del_ne e, h a ha e]
/-! ### parts -/
theorem cutD_mem {xs : List D} {lo hi : Option Int} {d : D} (h : d ∈ cutD xs lo hi) : d ∈ xs := List.mem_of_mem_drop (List.mem_of_mem_take h)
theorem cutD_len {xs : List D} {lo hi : Option Int} : (cutD xs lo hi).length ≤ xs.length := by
  unfold cutD
  rw [List.length_take, List.length_drop]
  omega
theorem sIx_lo {n : Nat} {i : Int} (h0 : 0 ≤ i) (h1 : i ≤ n) (b : Nat) : HT.sIx n b (some i) = i.toNat := by
  obtain ⟨k, rfl⟩ := Int.eq_ofNat_of_zero_le h0
  rw [HT.sIx_nat]
  show min k n = k
  omega
/-! ### words: a is 97, b is 98 -/
/-! ### of the functions that many laws share -/
theorem at_nat {ns : List Nat} {k : Int} (h0 : 0 ≤ k) (h1 : k < ns.length) : ∃ n : Nat, atI (ns.map fun (n : Nat) => D.int n) k = some (.int (n : Int)) ∧ n ∈ ns := by
  obtain ⟨d, ed, hd⟩ := atI_some (ds := ns.map fun (n : Nat) => D.int n) h0 (by simpa using h1)
  obtain ⟨n, hn, rfl⟩ := List.mem_map.mp hd
  exact ⟨n, ed, hn⟩
/-! ### tables -/
structure M2 where
  p : Int
  q : Int
  r : Int
  s : Int
  deriving DecidableEq
/-- sizes -/
def SzM (m : M2) (n : Nat) : Prop := m.p.natAbs < 2 ^ n ∧ m.q.natAbs < 2 ^ n ∧ m.r.natAbs < 2 ^ n ∧ m.s.natAbs < 2 ^ n
theorem SzM.mono {m : M2} {n k : Nat} (h : SzM m n) (hk : n ≤ k) : SzM m k := by
  have := Nat.pow_le_pow_right (n := 2) (by decide) hk
  exact ⟨Nat.lt_of_lt_of_le h.1 this, Nat.lt_of_lt_of_le h.2.1 this, Nat.lt_of_lt_of_le h.2.2.1 this, Nat.lt_of_lt_of_le h.2.2.2 this⟩
/-! ### == of data with itself -/
mutual
theorem deq_refl : ∀ {d : D}, isData d = true → deq d d = true
  | .int i, _ => beq_self_eq_true i
  | .non, _ => rfl
  | .bl b, _ => beq_self_eq_true b
  | .str z, _ => beq_self_eq_true z
  | .tup ds, h => deqL_refl (ds := ds) h
  | .lst ds, h => deqL_refl (ds := ds) h
  | .tupX _, h => absurd (show false = true from h) Bool.false_ne_true
  | .inst _ _ _, h => absurd (show false = true from h) Bool.false_ne_true
  | .obj _, h => absurd (show false = true from h) Bool.false_ne_true
  | .ty _, h => absurd (show false = true from h) Bool.false_ne_true
  | .exc _ _ _ _, h => absurd (show false = true from h) Bool.false_ne_true
theorem deqL_refl : ∀ {ds : List D}, isDataL ds = true → deqL ds ds = true
  | [], _ => rfl
  | d :: ds, h => by
    have h' := Bool.and_eq_true_iff.mp (show (isData d && isDataL ds) = true from h)
    show (deq d d && deqL ds ds) = true
    rw [deq_refl h'.1, deqL_refl h'.2]
    rfl
end
theorem eqOk_data {d : D} (h : eqOk d = true) : isData d = true := (Bool.and_eq_true_iff.mp h).1
theorem x_ne_self {d : D} {S : Sd} {Q : DK} (h : eqOk d = true) (q : Q (.bl false) S) : rdNe d d S Q := by
  have e := deq_refl (eqOk_data h)
  cases d with
  | int i => exact (show Q (.bl (!decide (i = i))) S from by rw [decide_eq_true rfl]; exact q)
  | str i => exact (show Q (.bl (!decide (i = i))) S from by rw [decide_eq_true rfl]; exact q)
  | bl i => exact (show Q (.bl (!decide (i = i))) S from by rw [decide_eq_true rfl]; exact q)
  | _ => exact ⟨⟨h, h⟩, by rw [e]; exact q⟩
/-- may be held against others, so many deep -/
def okD_ (k : Nat) (d : D) : Bool := isData d && ((pd d).canLay0 && decide ((pd d).depth ≤ k))
theorem okD_eqOk {k : Nat} {d : D} (h : okD_ k d = true) (hk : k ≤ 64) : eqOk d = true := by
  have h1 := Bool.and_eq_true_iff.mp h
  have h2 := Bool.and_eq_true_iff.mp h1.2
  have h3 := of_decide_eq_true h2.2
  show (isData d && ((pd d).canLay0 && decide ((pd d).depth ≤ 64))) = true
  rw [h1.1, h2.1, decide_eq_true (Nat.le_trans h3 hk)]
  rfl
theorem okD_list {k : Nat} : ∀ {ds : List D}, (∀ d ∈ ds, okD_ k d = true) → isDataL ds = true ∧ PyData.canLayAll0 (pdL ds) = true ∧ PyData.depthAll (pdL ds) ≤ k
  | [], _ => ⟨rfl, rfl, Nat.zero_le _⟩
  | d :: ds, h => by
    obtain ⟨i1, i2, i3⟩ := okD_list (ds := ds) fun x hx => h x (List.mem_cons_of_mem _ hx)
    have h1 := Bool.and_eq_true_iff.mp (h d (.head _))
    have h2 := Bool.and_eq_true_iff.mp h1.2
    have h3 := of_decide_eq_true h2.2
    refine ⟨?_, ?_, ?_⟩
    · show (isData d && isDataL ds) = true
      rw [h1.1, i1]; rfl
    · show ((pd d).canLay0 && PyData.canLayAll0 (pdL ds)) = true
      rw [h2.1, i2]; rfl
    · show max (pd d).depth (PyData.depthAll (pdL ds)) ≤ k
      omega
theorem okD_tup {k : Nat} {ds : List D} (h : ∀ d ∈ ds, okD_ k d = true) : okD_ (k + 1) (.tup ds) = true := by
  obtain ⟨h1, h2, h3⟩ := okD_list h
  show (isDataL ds && (PyData.canLayAll0 (pdL ds) && decide (PyData.depthAll (pdL ds) + 1 ≤ k + 1))) = true
  rw [h1, h2, decide_eq_true (by omega)]
  rfl
theorem okD_int {k : Nat} {i : Int} : okD_ k (.int i) = true := by
  show (true && (true && decide (0 ≤ k))) = true
  rw [decide_eq_true (Nat.zero_le _)]; rfl
theorem okD_ints (ns : List Int) : okD_ 1 (.tup (ns.map D.int)) = true := okD_tup fun d hd => by
  obtain ⟨n, _, rfl⟩ := List.mem_map.mp hd
  exact okD_int
theorem okD_intsL (ns : List Int) : okD_ 1 (.lst (ns.map D.int)) = true := okD_ints ns
/-- so many times a list -/
theorem times_len {α : Type} (L : List α) (n : Nat) : (List.replicate n L).flatten.length = n * L.length := by
  induction n with
  | zero => simp
  | succ n ih => rw [List.replicate_succ, List.flatten_cons, List.length_append, ih, Nat.succ_mul]; omega
end Dv

namespace K11
open PySem L2 Dv Hx
abbrev wd (Ed : XKD) : WXD := fun x _ S => Ed x S
abbrev wd0 : WXD := fun _ _ _ => False
/-! ### squares -/
open Classical in
noncomputable def isSqB (n : Int) : Bool := decide (∃ y : Int, 0 ≤ y ∧ y * y = n)
theorem isSqB_true {n y : Int} (y0 : 0 ≤ y) (h : y * y = n) : isSqB n = true := by
  unfold isSqB
  simp only [decide_eq_true_eq]
  exact ⟨y, y0, h⟩
theorem isSqB_false {n : Int} (h : ∀ y : Int, 0 ≤ y → y * y ≠ n) : isSqB n = false := by
  unfold isSqB
  simp only [decide_eq_false_iff_not]
  exact fun ⟨y, y0, e⟩ => h y y0 e
/-! ### parts -/
/-- four parts of a number, small enough -/
structure RtI (n : Nat) (T O q B : Int) : Prop where
  bT : T.natAbs < 2 ^ n
  bO : O.natAbs < 2 ^ n
  bq : q.natAbs < 2 ^ n
  bB : B.natAbs < 2 ^ n
  q2 : 2 ≤ q
  sq : isSqB q = false
  B1 : 1 ≤ B
abbrev ptD (T O q B : Int) : D := .tup [.int T, .int O, .int q, .int B]
theorem RtI.mono {n m : Nat} {T O q B : Int} (h : RtI n T O q B) (k : n ≤ m) : RtI m T O q B := by
  have p : (2 : Nat) ^ n ≤ 2 ^ m := Nat.pow_le_pow_right (by decide) k
  exact ⟨Nat.lt_of_lt_of_le h.bT p, Nat.lt_of_lt_of_le h.bO p, Nat.lt_of_lt_of_le h.bq p, Nat.lt_of_lt_of_le h.bB p, h.q2, h.sq, h.B1⟩
abbrev k_MOST_NUMBER : D := .int 999999
abbrev k_MOST_RING : D := .int 40
def ringD (L : List Int) : D := .tup (L.map D.int)
structure RowI (L : List Int) : Prop where
  el : ∀ a ∈ L, 1 ≤ a ∧ a ≤ 999999
  l0 : 1 ≤ L.length
  l1 : L.length ≤ 40
structure T4 where
  p : Int
  q : Int
  r : Int
  s : Int
def t4S (t : T4) (a : Int) : T4 := ⟨t.p * a + t.q, t.p, t.r * a + t.s, t.r⟩
def t4L (L : List Int) : T4 := L.foldl t4S ⟨1, 0, 0, 1⟩
theorem t4_snoc (L : List Int) (a : Int) : t4L (L ++ [a]) = t4S (t4L L) a := by unfold t4L; rw [List.foldl_append]; rfl
structure T4I (t : T4) (n : Nat) : Prop where
  p0 : 0 ≤ t.p
  q0 : 0 ≤ t.q
  r0 : 0 ≤ t.r
  s0 : 0 ≤ t.s
  rs : 1 ≤ t.r + t.s
  p1 : t.p ≤ 2 ^ (20 * n)
  q1 : t.q ≤ 2 ^ (20 * n)
  r1 : t.r ≤ 2 ^ (20 * n)
  s1 : t.s ≤ 2 ^ (20 * n)
theorem t4_up {m x y a : Int} (hx : 0 ≤ x) (x1 : x ≤ m) (y1 : y ≤ m) (ha : 1 ≤ a ∧ a ≤ 999999) : x * a + y ≤ m * 1048576 ∧ x ≤ x * a := by
  have h1 : x * a ≤ x * 999999 := Int.mul_le_mul_of_nonneg_left ha.2 hx
  have h2 : x * 1 ≤ x * a := Int.mul_le_mul_of_nonneg_left ha.1 hx
  omega
theorem T4I.step {t : T4} {n : Nat} (I : T4I t n) {a : Int} (ha : 1 ≤ a ∧ a ≤ 999999) : T4I (t4S t a) (n + 1) := by
  have e : (2 : Int) ^ (20 * (n + 1)) = 2 ^ (20 * n) * 1048576 := by rw [Nat.mul_succ, Int.pow_add]; rfl
  obtain ⟨p0, q0, r0, s0, rs, p1, q1, r1, s1⟩ := I
  have hp := t4_up p0 p1 q1 ha
  have hr := t4_up r0 r1 s1 ha
  generalize (2 : Int) ^ (20 * n) = m at *
  refine ⟨?_, ?_, ?_, ?_, ?_, ?_, ?_, ?_, ?_⟩ <;> (try rw [e]) <;> show _ ≤ _ <;> unfold t4S <;> simp only <;> omega
def upN (t : T4) : Int := (t.p - t.s) * (t.p - t.s) + 4 * t.q * t.r
def inD : D → Bool
  | .int a => decide (1 ≤ a ∧ a ≤ 999999)
  | _ => false
def isRingD : D → Bool
  | .tup xs => decide (1 ≤ xs.length ∧ xs.length ≤ 40) && xs.all inD
  | _ => false
theorem ring_is {L : List Int} (R : RowI L) : isRingD (ringD L) = true := by
  unfold isRingD ringD
  simp only [List.length_map, Bool.and_eq_true, decide_eq_true_eq, List.all_eq_true, List.mem_map]
  exact ⟨⟨R.l0, R.l1⟩, fun d ⟨a, ha, e⟩ => by rw [← e]; exact decide_eq_true (R.el a ha)⟩
theorem cutD_from {xs : List D} {i : Nat} (h : i ≤ xs.length) : cutD xs (some (i : Int)) none = xs.drop i := by
  unfold cutD
  rw [sIx_lo (by omega) (by omega)]
  show (xs.drop i).take (xs.length - i) = _
  rw [← List.length_drop, List.take_length]
theorem cutD_to {xs : List D} {i : Nat} (h : i ≤ xs.length) : cutD xs none (some (i : Int)) = xs.take i := by
  unfold cutD
  rw [sIx_lo (by omega) (by omega)]
  show (xs.drop 0).take (i - 0) = _
  rw [List.drop_zero, Nat.sub_zero]
/-! the tables of rings, turned, told often, turned about -/
/-- numbers of a table -/
structure Tb (t : T4) (n : Nat) : Prop where
  p0 : 1 ≤ t.p
  q0 : 0 ≤ t.q
  r0 : 0 ≤ t.r
  s0 : 0 ≤ t.s
  big : 2 ≤ n → 2 ≤ t.p ∧ 1 ≤ t.s
  one : 1 ≤ n → 1 ≤ t.r ∧ 1 ≤ t.q
/-- what lies between two squares is none -/
theorem no_sq {t y : Int} (t0 : 0 ≤ t) (h : t * t < y * y) (g : y * y < (t + 1) * (t + 1)) : False := by
  have key : ∀ y : Int, 0 ≤ y → t * t < y * y → y * y < (t + 1) * (t + 1) → False := fun y y0 h g => by
    rcases Int.lt_or_le t y with c | c
    · have : (t + 1) * (t + 1) ≤ y * y := Int.mul_le_mul c c (by omega) (by omega)
      omega
    · have : y * y ≤ t * t := Int.mul_le_mul c c (by omega) (by omega)
      omega
  rcases Int.le_total 0 y with c | c
  · exact key y c h g
  · exact key (-y) (by omega) (by rw [Int.neg_mul_neg]; exact h) (by rw [Int.neg_mul_neg]; exact g)
abbrev k_MOST_AHEAD : D := .int 20
/-! ### the shortest beginning that makes a row; stairs by the fewest numbers -/
def told (P : List Int) (m : Nat) : List Int := (List.replicate m P).flatten
theorem told_D (L : List Int) (m : Nat) : (List.replicate m (L.map D.int)).flatten = (told L m).map D.int := by
  unfold told
  rw [List.map_flatten, List.map_replicate]
theorem cutD_ring (L : List Int) {s : Nat} (h : s ≤ L.length) : cutD (L.map D.int) none (some (s : Int)) = (L.take s).map D.int := by
  rw [cutD_to (by rw [List.length_map]; exact h), List.map_take]
theorem deqL_ringE : ∀ {ns ms : List Int}, deqL (ns.map D.int) (ms.map D.int) = decide (ns = ms)
  | [], [] => by simp [deqL]
  | [], _ :: _ => by simp [deqL]
  | _ :: _, [] => by simp [deqL]
  | n :: ns, m :: ms => by
    show ((n == m) && deqL (ns.map D.int) (ms.map D.int)) = _
    rw [deqL_ringE, Bool.eq_iff_iff]
    simp
def sizeOk (L : List Int) (s : Nat) : Bool := decide (L.length % s = 0) && decide (told (L.take s) (L.length / s) = L)
/-- what the search from 1 on finds -/
def shS (L : List Int) : List Int := match (List.range (L.length - 1)).find? fun i => sizeOk L (i + 1) with
  | some i => L.take (i + 1)
  | none => L
theorem shS_first {L : List Int} {i : Nat} (h : i < L.length - 1) (hno : ∀ j, j < i → sizeOk L (j + 1) = false) (ho : sizeOk L (i + 1) = true) : shS L = L.take (i + 1) := by
  unfold shS
  have e : (List.range (L.length - 1)).find? (fun i => sizeOk L (i + 1)) = some i := by
    rw [List.find?_eq_some_iff_append]
    refine ⟨ho, List.range i, (List.range (L.length - 1 - (i + 1))).map (fun k => i + 1 + k), ?_, fun a ha => ?_⟩
    · conv => lhs; rw [show L.length - 1 = i + 1 + (L.length - 1 - (i + 1)) by omega, List.range_add, List.range_succ]
      simp
    · rw [hno a (List.mem_range.mp ha)]; rfl
  rw [e]
theorem shS_none {L : List Int} (hno : ∀ j, j < L.length - 1 → sizeOk L (j + 1) = false) : shS L = L := by
  unfold shS
  have e : (List.range (L.length - 1)).find? (fun i => sizeOk L (i + 1)) = none := by
    rw [List.find?_eq_none]
    intro a ha h
    exact absurd (h.symm.trans (hno a (List.mem_range.mp ha))) (by decide)
  rw [e]
theorem told_one (L : List Int) : told L 1 = L := by unfold told; simp
theorem size_self {L : List Int} (h : 1 ≤ L.length) : sizeOk L L.length = true := by
  unfold sizeOk
  rw [Nat.mod_self, Nat.div_self h, List.take_length, told_one]
  simp
/-- the least size -/
theorem shS_char {L : List Int} (h : 1 ≤ L.length) : ∃ s, 1 ≤ s ∧ s ≤ L.length ∧ sizeOk L s = true ∧ (∀ r, 1 ≤ r → r < s → sizeOk L r = false) ∧ shS L = L.take s := by
  by_cases c : ∃ i, i < L.length - 1 ∧ sizeOk L (i + 1) = true
  · obtain ⟨i, h1, h2, h3⟩ : ∃ i, i < L.length - 1 ∧ sizeOk L (i + 1) = true ∧ ∀ j, j < i → sizeOk L (j + 1) = false := by
      obtain ⟨i, h1, h2⟩ := c
      induction i using Nat.strongRecOn with
      | _ i ih =>
        by_cases e : ∃ j, j < i ∧ sizeOk L (j + 1) = true
        · obtain ⟨j, j1, j2⟩ := e
          exact ih j j1 (by omega) j2
        · exact ⟨i, h1, h2, fun j hj => by
            cases z : sizeOk L (j + 1) with
            | true => exact absurd ⟨j, hj, z⟩ e
            | false => rfl⟩
    exact ⟨i + 1, by omega, by omega, h2, fun r r1 r2 => by
      have := h3 (r - 1) (by omega)
      rwa [show r - 1 + 1 = r by omega] at this, shS_first h1 h3 h2⟩
  · have hno : ∀ j, j < L.length - 1 → sizeOk L (j + 1) = false := fun j hj => by
      cases z : sizeOk L (j + 1) with
      | true => exact absurd ⟨j, hj, z⟩ c
      | false => rfl
    refine ⟨L.length, h, Nat.le_refl _, size_self h, fun r r1 r2 => ?_, ?_⟩
    · have := hno (r - 1) (by omega)
      rwa [show r - 1 + 1 = r by omega] at this
    · rw [shS_none hno, List.take_length]
theorem shS_len {L : List Int} (h : 1 ≤ L.length) : 1 ≤ (shS L).length ∧ (shS L).length ≤ L.length := by
  obtain ⟨s, h1, h2, _, _, e⟩ := shS_char h
  rw [e, List.length_take]
  omega
/-- the last number comes to the front -/
def rotB (R : List Int) : List Int := R.drop (R.length - 1) ++ R.take (R.length - 1)
theorem rotB_len (R : List Int) : (rotB R).length = R.length := by unfold rotB; rw [List.length_append, List.length_drop, List.length_take]; omega
def fwR : List Int → List Int → List Int × List Int
  | [], R => ([], R)
  | a :: A, R => if R.getLast? = some a then fwR A (rotB R) else ((a :: A).reverse, R)
/-- ahead and ring by the fewest numbers -/
def fewest (A R : List Int) : List Int × List Int := fwR A.reverse (shS R)
/-- one round of the loop -/
theorem fwR_last {A R : List Int} {x : Int} (h : R.getLast? = some x) : fwR (A ++ [x]).reverse R = fwR A.reverse (rotB R) := by
  rw [List.reverse_append, List.reverse_singleton, List.singleton_append]
  show (if R.getLast? = some x then _ else _) = _
  rw [if_pos h]
theorem fwR_stop {A R : List Int} {x : Int} (h : R.getLast? ≠ some x) : fwR (A ++ [x]).reverse R = (A ++ [x], R) := by
  rw [List.reverse_append, List.reverse_singleton, List.singleton_append]
  show (if R.getLast? = some x then _ else _) = _
  rw [if_neg h, List.reverse_cons, List.reverse_reverse]
theorem last_at {R : List Int} {x : Int} : atI ((R ++ [x]).map D.int) (-1) = some (.int x) := by
  rw [List.map_append, List.map_singleton]
  generalize List.map D.int R = l
  unfold atI ixN
  rw [if_neg (by decide), List.length_append, List.length_singleton, if_pos (by omega)]
  have e : ((-1 : Int) + ((l.length + 1 : Nat) : Int)).toNat = l.length := by omega
  show (l ++ [D.int x])[((-1 : Int) + ((l.length + 1 : Nat) : Int)).toNat]? = _
  rw [e]
  simp
theorem cut_last {A : List Int} {x : Int} : cutD ((A ++ [x]).map D.int) none (some (-1)) = A.map D.int := by
  unfold cutD
  have e1 : HT.sIx ((A ++ [x]).map D.int).length ((A ++ [x]).map D.int).length (some (-1)) = A.length := by
    unfold HT.sIx
    simp
    try omega
  rw [e1, HT.sIx_none]
  simp
theorem cut_from_last {A : List Int} {x : Int} : cutD ((A ++ [x]).map D.int) (some (-1)) none = [.int x] := by
  unfold cutD
  have e1 : HT.sIx ((A ++ [x]).map D.int).length 0 (some (-1)) = A.length := by
    unfold HT.sIx
    simp
    try omega
  rw [e1, HT.sIx_none]
  simp
theorem split_last {R : List Int} (h : 1 ≤ R.length) : ∃ B x, R = B ++ [x] := by
  have hne : R ≠ [] := fun e => by rw [e] at h; exact absurd h (by decide)
  exact ⟨R.dropLast, R.getLast hne, (List.dropLast_concat_getLast hne).symm⟩
theorem rotB_last (B : List Int) (x : Int) : rotB (B ++ [x]) = x :: B := by
  unfold rotB
  rw [List.length_append, List.length_singleton, Nat.add_sub_cancel, List.drop_left, List.take_left]
  rfl

theorem cutD_first (xs : List D) (n : Nat) : cutD xs none (some (n : Int)) = xs.take n := by
  unfold cutD
  rw [HT.sIx_nat]
  show (xs.drop 0).take (min n xs.length - 0) = _
  rw [List.drop_zero, Nat.sub_zero]
  by_cases h : n ≤ xs.length
  · rw [Nat.min_eq_left h]
  · rw [Nat.min_eq_right (by omega), List.take_length, List.take_of_length_le (by omega)]
/-! ### a comprehension whose calls want the store to stand -/
/-! ### what stands behind two statements -/
/-! ### comprehensions with a test, without a trace -/
/-! ### signs -/
def abI (x : Int) : Int := if x < 0 then -x else x
def sgI (x : Int) : Int := (if 0 < x then 1 else 0) - (if x < 0 then 1 else 0)
def rtF (T O q : Int) : Int := T * abI T + q * O * abI O
theorem sg_mul {g x : Int} (h : 0 < g) : sgI (g * x) = sgI x := by
  unfold sgI
  rcases Int.lt_trichotomy x 0 with c | c | c
  · have := Int.mul_neg_of_pos_of_neg h c
    rw [if_neg (show ¬ 0 < g * x by omega), if_pos this, if_neg (show ¬ 0 < x by omega), if_pos c]
  · subst c; rw [Int.mul_zero]
  · have := Int.mul_pos h c
    rw [if_pos this, if_pos c, if_neg (show ¬ g * x < 0 by omega), if_neg (show ¬ x < 0 by omega)]
theorem ab_mul {g x : Int} (h : 0 < g) : abI (g * x) = g * abI x := by
  unfold abI
  rcases Int.lt_or_le x 0 with c | c
  · have := Int.mul_neg_of_pos_of_neg h c
    rw [if_pos this, if_pos c, Int.mul_neg]
  · have := Int.mul_nonneg (Int.le_of_lt h) c
    rw [if_neg (by omega), if_neg (by omega)]
theorem rtF_mul {g T O q : Int} (h : 0 < g) : rtF (g * T) (g * O) q = g * g * rtF T O q := by
  unfold rtF
  rw [ab_mul h, ab_mul h]
  grind
theorem sg_rt {g T O q : Int} (h : 0 < g) : sgI (rtF (g * T) (g * O) q) = sgI (rtF T O q) := by
  rw [rtF_mul h, sg_mul (Int.mul_pos h h)]
theorem no_root {x O q : Int} (h : isSqB q = false) (hO : O ≠ 0) : x * x ≠ O * O * q := fun e => by
  have d : O ∣ x := by
    have : O ^ 2 ∣ x ^ 2 := ⟨q, by grind⟩
    exact (Int.pow_dvd_pow_iff (by decide)).mp this
  obtain ⟨k, rfl⟩ := d
  have e2 : (O * O) * (k * k) = (O * O) * q := by grind
  have e3 := Int.eq_of_mul_eq_mul_left (Int.mul_ne_zero hO hO) e2
  rcases Int.le_total 0 k with c | c
  · rw [isSqB_true c e3] at h; cases h
  · rw [isSqB_true (y := -k) (by omega) (by rw [Int.neg_mul_neg]; exact e3)] at h; cases h
/-! ### numbers reckoned with -/
/-! ### numbers (t and the root of U) over b, walked number by number; s is the root's whole part -/
/-- above 1, its mate between -1 and 0 -/
def RedS (s t b : Int) : Prop := 0 < b ∧ b ≤ t + s ∧ t ≤ s ∧ s < t + b
/-- above 1 -/
def Gt1 (s t b : Int) : Prop := (0 < b ∧ b ≤ t + s) ∨ (b < 0 ∧ t + s < b)
/-- the number n and 1 over (t', b') -/
structure PvS (U n t' b' t b : Int) : Prop where
  eb : b * b' = U - t' * t'
  et : t = n * b - t'
/-! ### rows' tables and the numbers they lead to -/
theorem tw_fold (L : List Int) : ∀ x : T4, L.foldl t4S x = ⟨x.p * (t4L L).p + x.q * (t4L L).r, x.p * (t4L L).q + x.q * (t4L L).s, x.r * (t4L L).p + x.s * (t4L L).r, x.r * (t4L L).q + x.s * (t4L L).s⟩ := by
  induction L with
  | nil => intro x; obtain ⟨p, q, r, s⟩ := x; simp [t4L]
  | cons a L ih =>
    intro x
    have h1 : t4L (a :: L) = L.foldl t4S (t4S ⟨1, 0, 0, 1⟩ a) := rfl
    rw [List.foldl_cons, ih, h1, ih]
    unfold t4S
    simp only [T4.mk.injEq]
    refine ⟨?_, ?_, ?_, ?_⟩ <;> grind
theorem tw_cons (n : Int) (L : List Int) : t4L (n :: L) = ⟨n * (t4L L).p + (t4L L).r, n * (t4L L).q + (t4L L).s, (t4L L).p, (t4L L).q⟩ := by
  have h1 : t4L (n :: L) = L.foldl t4S (t4S ⟨1, 0, 0, 1⟩ n) := rfl
  rw [h1, tw_fold]
  unfold t4S
  simp only [T4.mk.injEq]
  refine ⟨?_, ?_, ?_, ?_⟩ <;> grind
theorem tw_last (n : Int) (L : List Int) : t4L (L ++ [n]) = ⟨(t4L L).p * n + (t4L L).q, (t4L L).p, (t4L L).r * n + (t4L L).s, (t4L L).r⟩ := by unfold t4L; rw [List.foldl_append]; rfl
structure TwN (t : T4) : Prop where
  q1 : 1 ≤ t.q
  r1 : 1 ≤ t.r
  s0 : 0 ≤ t.s
  pq : t.q ≤ t.p
  pr : t.r ≤ t.p
  qs : t.s ≤ t.q
  rs : t.s ≤ t.r
  d : t.p * t.s - t.q * t.r = 1 ∨ t.p * t.s - t.q * t.r = -1
theorem tw_row : ∀ L : List Int, (∀ a ∈ L, 1 ≤ a) → L ≠ [] → TwN (t4L L)
  | [], _, h => absurd rfl h
  | [n], h, _ => by
    have := h n (by simp)
    rw [tw_cons, show t4L [] = ⟨1, 0, 0, 1⟩ from rfl]
    refine ⟨?_, ?_, ?_, ?_, ?_, ?_, ?_, ?_⟩ <;> dsimp only <;> omega
  | n :: m :: L, h, _ => by
    have h1 := h n (by simp)
    obtain ⟨q1, r1, s0, pq, pr, qs, rs, d⟩ := tw_row (m :: L) (fun a ha => h a (List.mem_cons_of_mem _ ha)) (by simp)
    rw [tw_cons]
    generalize t4L (m :: L) = t at *
    have a1 := Int.mul_nonneg (show 0 ≤ n - 1 by omega) (show 0 ≤ t.p by omega)
    have a2 := Int.mul_nonneg (show 0 ≤ n - 1 by omega) (show 0 ≤ t.q by omega)
    have a3 := Int.mul_nonneg (show 0 ≤ n - 1 by omega) (show 0 ≤ t.p - t.q by omega)
    have e1 : (n - 1) * t.p = n * t.p - t.p := by grind
    have e2 : (n - 1) * t.q = n * t.q - t.q := by grind
    have e3 : (n - 1) * (t.p - t.q) = n * t.p - n * t.q - t.p + t.q := by grind
    have e4 : (n * t.p + t.r) * t.q - (n * t.q + t.s) * t.p = -(t.p * t.s - t.q * t.r) := by grind
    refine ⟨?_, ?_, ?_, ?_, ?_, ?_, ?_, ?_⟩ <;> dsimp only <;> omega
theorem TwN.st {t : T4} (h : TwN t) : t.r + t.s < t.p + t.q ∧ t.q + t.s < t.p + t.r := by
  obtain ⟨q1, r1, s0, pq, pr, qs, rs, d⟩ := h
  constructor
  · refine Decidable.byContradiction fun hc => ?_
    have e1 : t.p = t.r := by omega
    have e2 : t.q = t.s := by omega
    rw [e1, e2, Int.mul_comm] at d
    omega
  · refine Decidable.byContradiction fun hc => ?_
    have e1 : t.p = t.q := by omega
    have e2 : t.r = t.s := by omega
    rw [e1, e2] at d
    omega
/-- the number of a ring, k times as much -/
def rgS (k : Int) (R : List Int) : Int × Int := (k * ((t4L R).p - (t4L R).s), 2 * (k * (t4L R).r))
def rgU (k : Int) (R : List Int) : Int := k * k * upN (t4L R)
theorem rg_turn (k n : Int) (X : List Int) : rgU k (X ++ [n]) = rgU k (n :: X) := by
  unfold rgU upN
  rw [tw_cons, tw_last]
  dsimp only
  grind
theorem rg_pv (k n : Int) (X : List Int) : PvS (rgU k (n :: X)) n (rgS k (X ++ [n])).1 (rgS k (X ++ [n])).2 (rgS k (n :: X)).1 (rgS k (n :: X)).2 := by
  unfold rgU upN rgS
  rw [tw_cons, tw_last]
  dsimp only
  constructor <;> grind
theorem RedS.g {s t b : Int} (h : RedS s t b) : Gt1 s t b := .inl ⟨h.1, h.2.1⟩
/-! ### the walk as it is reckoned -/
/-- a ring's numbers, read on and on -/
def rwN : Nat → List Int → List Int
  | 0, _ => []
  | _ + 1, [] => []
  | n + 1, a :: X => a :: rwN n (X ++ [a])
def trn : Nat → List Int → List Int
  | 0, L => L
  | _ + 1, [] => []
  | n + 1, a :: X => trn n (X ++ [a])
theorem trn_app : ∀ (X Y : List Int), trn X.length (X ++ Y) = Y ++ X
  | [], Y => by simp [trn]
  | a :: X, Y => by
    show trn X.length (X ++ Y ++ [a]) = Y ++ a :: X
    rw [List.append_assoc, trn_app X]
    simp
theorem trn_len : ∀ (j : Nat) (L : List Int), (trn j L).length = L.length
  | 0, _ => rfl
  | _ + 1, [] => rfl
  | j + 1, a :: X => by
    show (trn j (X ++ [a])).length = _
    rw [trn_len j, List.length_append]
    rfl
theorem trn_take {j : Nat} {L : List Int} (h : j ≤ L.length) : trn j L = L.drop j ++ L.take j := by
  have := trn_app (L.take j) (L.drop j)
  rw [List.take_append_drop, List.length_take, Nat.min_eq_left h] at this
  exact this
theorem ne_len {L : List Int} (h : L ≠ []) : 0 < L.length := List.length_pos_iff.mpr h
/-- no turn but the whole is the ring -/
def Prm (R : List Int) : Prop := ∀ j, 0 < j → j < R.length → trn j R ≠ R
/-! ### the number of a stair, told by four parts, walks the stair -/
theorem tw_pos {L : List Int} (h : ∀ a ∈ L, 1 ≤ a) (h0 : L ≠ []) : 5 ≤ upN (t4L L) ∧ ∀ y : Int, y * y ≠ upN (t4L L) := by
  obtain ⟨q1, r1, s0, pq, pr, qs, rs, d⟩ := tw_row L h h0
  have e : upN (t4L L) = ((t4L L).p + (t4L L).s) * ((t4L L).p + (t4L L).s) - 4 * ((t4L L).p * (t4L L).s - (t4L L).q * (t4L L).r) := by unfold upN; grind
  rw [e]
  have qr : 1 ≤ (t4L L).q * (t4L L).r := by
    have := Int.mul_le_mul q1 r1 (by omega) (by omega)
    omega
  generalize (t4L L).p = p at *
  generalize (t4L L).q = q at *
  generalize (t4L L).r = r at *
  generalize (t4L L).s = s at *
  rcases d with d | d <;> rw [d]
  · have s1 : 1 ≤ s := by
      rcases Int.lt_or_le 0 s with c | c
      · exact c
      · rw [show s = 0 by omega, Int.mul_zero] at d
        omega
    have p2 : 2 ≤ p := by
      rcases Int.lt_or_le 1 p with c | c
      · exact c
      · rw [show p = 1 by omega, show s = 1 by omega] at d
        omega
    generalize ht : p + s = t at *
    have h9 : 3 * t ≤ t * t := Int.mul_le_mul_of_nonneg_right (by omega) (by omega)
    have e2 : (t - 1) * (t - 1) = t * t - 2 * t + 1 := by grind
    refine ⟨by omega, fun y hy => no_sq (t := t - 1) (y := y) (by omega) (by rw [hy]; omega) (by rw [hy, show t - 1 + 1 = t by omega]; omega)⟩
  · generalize ht : p + s = t at *
    have t1 : 1 ≤ t := by omega
    have h1 : 1 * t ≤ t * t := Int.mul_le_mul_of_nonneg_right t1 (by omega)
    refine ⟨by omega, fun y hy => ?_⟩
    by_cases c : 2 ≤ t
    · have e3 : (t + 1) * (t + 1) = t * t + 2 * t + 1 := by grind
      exact no_sq (t := t) (y := y) (by omega) (by omega) (by omega)
    · have : t = 1 := by omega
      subst this
      exact no_sq (t := 2) (y := y) (by omega) (by omega) (by omega)
/-- the number (T and O roots of D) over B is the one of a stair: its table's upper row over its lower one -/
structure NumS (A R : List Int) (T O B : Int) : Prop where
  e1 : T * (t4L A).r + O * ((t4L A).r * ((t4L R).p - (t4L R).s) + (t4L A).s * (2 * (t4L R).r)) = B * (t4L A).p
  e2 : T * ((t4L A).r * ((t4L R).p - (t4L R).s) + (t4L A).s * (2 * (t4L R).r)) + (t4L A).r * O * upN (t4L R) = B * ((t4L A).p * ((t4L R).p - (t4L R).s) + (t4L A).q * (2 * (t4L R).r))
theorem tw_det : ∀ A : List Int, (t4L A).p * (t4L A).s - (t4L A).q * (t4L A).r = 1 ∨ (t4L A).p * (t4L A).s - (t4L A).q * (t4L A).r = -1
  | [] => .inl rfl
  | a :: A => by
    have := tw_det A
    rw [tw_cons]
    dsimp only
    have e : (a * (t4L A).p + (t4L A).r) * (t4L A).q - (a * (t4L A).q + (t4L A).s) * (t4L A).p = -((t4L A).p * (t4L A).s - (t4L A).q * (t4L A).r) := by grind
    rw [e]
    omega
/-! ### rings that no turn but the whole leads to themselves; shortest parts -/
theorem trn_add (i j : Nat) : ∀ L : List Int, trn (i + j) L = trn j (trn i L) := by
  induction i with
  | zero => intro L; rw [Nat.zero_add]; rfl
  | succ i ih =>
    intro L
    rw [Nat.succ_add]
    match L with
    | [] =>
      show trn (i + j + 1) [] = trn j (trn (i + 1) [])
      have : ∀ n, trn n ([] : List Int) = [] := fun n => by cases n <;> rfl
      rw [this, this, this]
    | a :: X =>
      show trn (i + j) (X ++ [a]) = trn j (trn i (X ++ [a]))
      exact ih _
theorem trn_all (L : List Int) : trn L.length L = L := by
  have := trn_app L []
  simpa using this
theorem trn_com (i j : Nat) (L : List Int) : trn i (trn j L) = trn j (trn i L) := by rw [← trn_add, ← trn_add, Nat.add_comm]
theorem trn_mul {i : Nat} {L : List Int} (h : trn i L = L) : ∀ m, trn (i * m) L = L
  | 0 => rfl
  | m + 1 => by rw [Nat.mul_succ, trn_add, trn_mul h m, h]
theorem trn_gcd {L : List Int} : ∀ i j : Nat, trn i L = L → trn j L = L → trn (Nat.gcd i j) L = L := by
  intro i
  induction i using Nat.strongRecOn with
  | _ i ih =>
    intro j hi hj
    match i, hi, ih with
    | 0, _, _ => rw [Nat.gcd_zero_left]; exact hj
    | i + 1, hi, ih =>
      rw [Nat.gcd_rec]
      refine ih _ (Nat.mod_lt _ (Nat.succ_pos i)) _ ?_ hi
      have e := Nat.div_add_mod j (i + 1)
      rw [← e, trn_add, trn_mul hi] at hj
      exact hj
theorem told_succ (P : List Int) (m : Nat) : told P (m + 1) = P ++ told P m := by unfold told; rw [List.replicate_succ, List.flatten_cons]
theorem told_zero (P : List Int) : told P 0 = [] := rfl
theorem told_add (P : List Int) (a : Nat) : ∀ b, told P (b + a) = told P b ++ told P a
  | 0 => by rw [Nat.zero_add]; rfl
  | b + 1 => by rw [Nat.succ_add, told_succ, told_succ, told_add P a b, List.append_assoc]
theorem told_told (P : List Int) (a : Nat) : ∀ b, told (told P a) b = told P (a * b)
  | 0 => rfl
  | b + 1 => by rw [told_succ, told_told P a b, Nat.mul_succ, Nat.add_comm (a * b), told_add]
theorem told_len (P : List Int) : ∀ m, (told P m).length = m * P.length
  | 0 => by rw [Nat.zero_mul]; rfl
  | m + 1 => by rw [told_succ, List.length_append, told_len P m, Nat.succ_mul, Nat.add_comm]
theorem com_told {P : List Int} : ∀ (m : Nat) (X : List Int), X.length = m * P.length → P ++ X = X ++ P → X = told P m
  | 0, X, h, _ => by
    rw [Nat.zero_mul] at h
    exact List.length_eq_zero_iff.mp h
  | m + 1, X, h, e => by
    have h1 : P.length ≤ X.length := by rw [h, Nat.succ_mul]; exact Nat.le_add_left _ _
    have h2 : X.take P.length = P := by
      have := congrArg (List.take P.length) e
      rw [List.take_left', List.take_append_of_le_length h1] at this
      · exact this.symm
      · rfl
    have h3 : X = P ++ X.drop P.length := by conv => lhs; rw [← List.take_append_drop P.length X, h2]
    rw [told_succ, ← com_told m (X.drop P.length) (by rw [List.length_drop, h, Nat.succ_mul, Nat.add_sub_cancel]) ?_]
    · exact h3
    · rw [h3, List.append_assoc] at e
      have := List.append_cancel_left e
      exact this
theorem trn_told {L : List Int} {d : Nat} (h0 : L ≠ []) (hd : d ≤ L.length) (hn : L.length % d = 0) (h : trn d L = L) : L = told (L.take d) (L.length / d) := by
  rw [trn_take hd] at h
  have l0 := ne_len h0
  have d0 : 0 < d := Nat.pos_of_ne_zero fun e => by rw [e, Nat.mod_zero] at hn; omega
  have e1 : L.take d ++ L.drop d = L.drop d ++ L.take d := by rw [List.take_append_drop, h]
  obtain ⟨m, em⟩ := Nat.dvd_of_mod_eq_zero hn
  have m0 : 0 < m := Nat.pos_of_ne_zero fun e => by rw [e, Nat.mul_zero] at em; omega
  obtain ⟨k, rfl⟩ : ∃ k, m = k + 1 := ⟨m - 1, by omega⟩
  have lt : (L.take d).length = d := by rw [List.length_take]; omega
  have e2 := com_told k (L.drop d) (by rw [List.length_drop, lt, em, Nat.mul_succ, Nat.mul_comm]; omega) e1
  rw [em, Nat.mul_div_cancel_left _ d0, told_succ, ← e2, List.take_append_drop]
theorem trn_sizeOk {L : List Int} {d : Nat} (h0 : L ≠ []) (hd : d ≤ L.length) (hn : L.length % d = 0) (h : trn d L = L) : sizeOk L d = true := by
  unfold sizeOk
  rw [Bool.and_eq_true, decide_eq_true_iff, decide_eq_true_iff]
  exact ⟨hn, (trn_told h0 hd hn h).symm⟩
theorem trn_gcd_ok {L : List Int} {j : Nat} (h0 : L ≠ []) (j0 : 0 < j) (h : trn j L = L) : sizeOk L (Nat.gcd j L.length) = true ∧ 1 ≤ Nat.gcd j L.length ∧ Nat.gcd j L.length ≤ j ∧ Nat.gcd j L.length ∣ j := by
  have g := trn_gcd j L.length h (trn_all L)
  have l0 := ne_len h0
  have d1 := Nat.gcd_dvd_left j L.length
  have d2 := Nat.gcd_dvd_right j L.length
  exact ⟨trn_sizeOk h0 (Nat.le_of_dvd l0 d2) (Nat.mod_eq_zero_of_dvd d2) g, Nat.gcd_pos_of_pos_left _ j0, Nat.le_of_dvd j0 d1, d1⟩
theorem prm_sh {L : List Int} (h : 1 ≤ L.length) : Prm (shS L) ∧ shS L ≠ [] := by
  obtain ⟨s, s1, s2, ok, no, e⟩ := shS_char h
  have h0 : L ≠ [] := fun e => by rw [e] at h; exact absurd h (by decide)
  have lt : (L.take s).length = s := by rw [List.length_take]; omega
  have hne : L.take s ≠ [] := fun e => by rw [e] at lt; simp at lt; omega
  rw [e]
  refine ⟨fun j j0 j1 hj => ?_, hne⟩
  rw [lt] at j1
  obtain ⟨g1, g2, g3, _⟩ := trn_gcd_ok hne j0 hj
  rw [lt] at g1 g2 g3
  generalize hd : Nat.gcd j s = d at *
  have ds : d ∣ s := by rw [← hd]; exact Nat.gcd_dvd_right j s
  have n := no d g2 (by omega)
  unfold sizeOk at g1 ok
  rw [Bool.and_eq_true, decide_eq_true_iff, decide_eq_true_iff] at g1 ok
  rw [lt, List.take_take, Nat.min_eq_left (by omega)] at g1
  have : sizeOk L d = true := by
    unfold sizeOk
    rw [Bool.and_eq_true, decide_eq_true_iff, decide_eq_true_iff]
    have sn : s ∣ L.length := Nat.dvd_of_mod_eq_zero ok.1
    refine ⟨Nat.mod_eq_zero_of_dvd (Nat.dvd_trans ds sn), ?_⟩
    have e2 : told (told (L.take d) (s / d)) (L.length / s) = L := by rw [g1.2, ok.2]
    rw [told_told] at e2
    obtain ⟨x, rfl⟩ := ds
    obtain ⟨y, ey⟩ := sn
    have d0 : 0 < d := g2
    have x0 : 0 < x := Nat.pos_of_ne_zero fun e => by rw [e, Nat.mul_zero] at s1; omega
    rw [ey, Nat.mul_div_cancel_left _ d0, Nat.mul_div_cancel_left _ (Nat.mul_pos d0 x0)] at e2
    rw [ey, Nat.mul_assoc, Nat.mul_div_cancel_left _ d0]
    exact e2
  rw [this] at n
  cases n
theorem prm_trn {R : List Int} (h : Prm R) (j : Nat) : Prm (trn j R) := fun i i0 i1 e => by
  rw [trn_len] at i1
  refine h i i0 i1 ?_
  have h0 : R.length ≠ 0 := by omega
  -- lead on to a whole round
  have back : ∀ X : List Int, X.length = R.length → ∃ m, trn m (trn j X) = X := fun X hX => by
    refine ⟨j * R.length - j, ?_⟩
    rw [← trn_add, show j + (j * R.length - j) = R.length * j from by
      have : j * 1 ≤ j * R.length := Nat.mul_le_mul_left _ (by omega)
      rw [Nat.mul_comm R.length]
      omega]
    have := trn_mul (L := X) (trn_all X) j
    rw [hX] at this
    exact this
  have key : ∀ m, trn m (trn j R) = R → trn m (trn j (trn i R)) = trn i R := fun m hm => by
    rw [trn_com j i, trn_com m i, hm]
  obtain ⟨m, hm⟩ := back R rfl
  have := key m hm
  rw [trn_com j i, e, hm] at this
  exact this.symm
/-! ### a stair's number as the law reckons it -/
def lnT (R : List Int) : Int := (t4L R).p - (t4L R).s
def lnX (A R : List Int) : Int := (t4L A).p * lnT R + (t4L A).q * (2 * (t4L R).r)
def lnY (A R : List Int) : Int := (t4L A).r * lnT R + (t4L A).s * (2 * (t4L R).r)
def lnU (A R : List Int) : Int := lnY A R * lnY A R - (t4L A).r * (t4L A).r * upN (t4L R)
def lnO (A R : List Int) : Int := (t4L A).p * lnY A R - lnX A R * (t4L A).r
def lnN (A R : List Int) : Int := lnX A R * lnY A R - (t4L A).p * (t4L A).r * upN (t4L R)
def lnS (A R : List Int) : Int := if 0 < lnU A R then 1 else -1
theorem ln_o (A R : List Int) : lnO A R = ((t4L A).p * (t4L A).s - (t4L A).q * (t4L A).r) * (2 * (t4L R).r) := by
  unfold lnO lnX lnY
  generalize lnT R = x
  generalize (t4L R).r = y
  grind
theorem ln_u0 {A R : List Int} (h1 : ∀ a ∈ R, 1 ≤ a) (h0 : R ≠ []) : lnU A R ≠ 0 := fun e => by
  have up := (tw_pos h1 h0).2
  have r1 := (tw_row R h1 h0).r1
  have det := tw_det A
  unfold lnU at e
  by_cases c : (t4L A).r = 0
  · have ey : lnY A R = (t4L A).s * (2 * (t4L R).r) := by unfold lnY; rw [c]; omega
    rw [c, Int.mul_zero, Int.zero_mul, ey] at e
    rw [c, Int.mul_zero] at det
    have s0 : (t4L A).s ≠ 0 := fun h => by rw [h, Int.mul_zero] at det; omega
    have : (t4L A).s * (2 * (t4L R).r) ≠ 0 := Int.mul_ne_zero s0 (by omega)
    exact Int.mul_ne_zero this this (by omega)
  · generalize lnY A R = y at *
    have hd : (t4L A).r * (t4L A).r ∣ y * y := ⟨upN (t4L R), by omega⟩
    have hd2 : (t4L A).r ∣ y := by
      have := Int.pow_dvd_pow_iff (a := (t4L A).r) (b := y) (n := 2) (by decide)
      rw [Int.pow_succ, Int.pow_succ, Int.pow_zero, Int.one_mul, Int.pow_succ, Int.pow_succ, Int.pow_zero, Int.one_mul] at this
      exact this.mp hd
    obtain ⟨z, rfl⟩ := hd2
    refine up z ?_
    have : (t4L A).r * (t4L A).r * (z * z) = (t4L A).r * (t4L A).r * upN (t4L R) := by
      have : (t4L A).r * z * ((t4L A).r * z) = (t4L A).r * (t4L A).r * (z * z) := by grind
      omega
    exact Int.eq_of_mul_eq_mul_left (Int.mul_ne_zero c c) this
theorem ln_b {A R : List Int} (h1 : ∀ a ∈ R, 1 ≤ a) (h0 : R ≠ []) : 1 ≤ lnS A R * lnU A R ∧ lnS A R * lnO A R ≠ 0 := by
  have u := ln_u0 (A := A) h1 h0
  have r1 := (tw_row R h1 h0).r1
  have det := tw_det A
  have o : lnO A R ≠ 0 := by
    rw [ln_o]
    rcases det with d | d <;> rw [d] <;> omega
  unfold lnS
  constructor
  · split <;> omega
  · split <;> omega
theorem ln_num (A R : List Int) (g : Int) : NumS A R (g * lnN A R) (g * lnO A R) (g * lnU A R) := by
  have e0 : (t4L R).p - (t4L R).s = lnT R := rfl
  constructor
  · rw [e0]
    show g * lnN A R * (t4L A).r + g * lnO A R * lnY A R = g * lnU A R * (t4L A).p
    unfold lnN lnO lnU
    generalize lnX A R = x
    generalize lnY A R = y
    grind
  · rw [e0]
    show g * lnN A R * lnY A R + (t4L A).r * (g * lnO A R) * upN (t4L R) = g * lnU A R * lnX A R
    unfold lnN lnO lnU
    generalize lnX A R = x
    generalize lnY A R = y
    grind
/-- how great a row's table can be -/
theorem t4_wide {c : Nat} : ∀ {L : List Int}, (∀ a ∈ L, a.natAbs + 1 ≤ 2 ^ c) → (t4L L).p.natAbs ≤ 2 ^ (c * L.length) ∧ (t4L L).q.natAbs ≤ 2 ^ (c * L.length) ∧ (t4L L).r.natAbs ≤ 2 ^ (c * L.length) ∧ (t4L L).s.natAbs ≤ 2 ^ (c * L.length)
  | [], _ => by
    rw [show t4L [] = ⟨1, 0, 0, 1⟩ from rfl, List.length_nil, Nat.mul_zero]
    decide
  | a :: L, h => by
    obtain ⟨h1, h2, h3, h4⟩ := t4_wide (L := L) fun b hb => h b (List.mem_cons_of_mem _ hb)
    have ha := h a List.mem_cons_self
    rw [tw_cons, List.length_cons, Nat.mul_succ, Nat.pow_add]
    dsimp only
    generalize (2 : Nat) ^ (c * L.length) = m at *
    generalize (2 : Nat) ^ c = k at *
    have up : ∀ x y : Int, x.natAbs ≤ m → y.natAbs ≤ m → (a * x + y).natAbs ≤ m * k := fun x y hx hy => by
      have e := Int.natAbs_add_le (a * x) y
      have e2 : (a * x).natAbs ≤ a.natAbs * m := by rw [Int.natAbs_mul]; exact Nat.mul_le_mul_left _ hx
      have e3 : (a.natAbs + 1) * m ≤ k * m := Nat.mul_le_mul_right _ ha
      rw [Nat.mul_comm m k]
      rw [Nat.succ_mul] at e3
      omega
    have one : m ≤ m * k := Nat.le_mul_of_pos_right _ (by omega)
    exact ⟨up _ _ h1 h3, up _ _ h2 h4, by omega, by omega⟩

/-! ### the sign of a sum of two roots -/
theorem ab_sg (x : Int) : x * abI x = sgI x * (x * x) := by
  unfold abI sgI
  rcases Int.lt_trichotomy x 0 with c | c | c
  · rw [if_pos c, if_neg (by omega), if_pos c]; grind
  · subst c; simp
  · rw [if_neg (by omega), if_pos c, if_neg (by omega)]; grind
theorem rtF_sq (u f q : Int) : rtF u f q = sgI u * (u * u) + sgI f * (f * f * q) := by
  unfold rtF
  have e : q * f * abI f = q * (f * abI f) := by grind
  rw [e, ab_sg, ab_sg]
  grind
theorem sg_mul2 (x y : Int) : sgI (x * y) = sgI x * sgI y := by
  rcases Int.lt_trichotomy x 0 with c | c | c <;> rcases Int.lt_trichotomy y 0 with d | d | d
  · have := Int.mul_pos_of_neg_of_neg c d
    unfold sgI; rw [if_pos this, if_neg (by omega), if_neg (by omega), if_pos c, if_neg (by omega), if_pos d]; decide
  · subst d; simp [sgI]
  · have := Int.mul_neg_of_neg_of_pos c d
    unfold sgI; rw [if_neg (by omega), if_pos this, if_neg (by omega), if_pos c, if_pos d, if_neg (by omega)]; decide
  · subst c; simp [sgI]
  · subst c; simp [sgI]
  · subst c; simp [sgI]
  · have := Int.mul_neg_of_pos_of_neg c d
    unfold sgI; rw [if_neg (by omega), if_pos this, if_pos c, if_neg (by omega), if_neg (by omega), if_pos d]; decide
  · subst d; simp [sgI]
  · have := Int.mul_pos c d
    unfold sgI; rw [if_pos this, if_neg (by omega), if_pos c, if_neg (by omega), if_pos d, if_neg (by omega)]; decide
theorem sg_tri (x : Int) : (x < 0 ∧ sgI x = -1) ∨ (x = 0 ∧ sgI x = 0) ∨ (0 < x ∧ sgI x = 1) := by
  unfold sgI
  rcases Int.lt_trichotomy x 0 with c | c | c
  · exact .inl ⟨c, by rw [if_neg (by omega), if_pos c]; rfl⟩
  · exact .inr (.inl ⟨c, by subst c; rfl⟩)
  · exact .inr (.inr ⟨c, by rw [if_pos c, if_neg (by omega)]; rfl⟩)
theorem sg_one {x : Int} (h : 0 < x) : sgI x = 1 := by rcases sg_tri x with c | c | c <;> omega
theorem sg_mone {x : Int} (h : x < 0) : sgI x = -1 := by rcases sg_tri x with c | c | c <;> omega
theorem sg_opp (x : Int) : sgI (-x) = -sgI x := by rcases sg_tri x with c | c | c <;> rcases sg_tri (-x) with d | d | d <;> omega
/-- the sign of a√P + b√Q + c√R, by squares, the root of R set apart -/
def TT (a P b Q c R : Int) : Int := if 0 ≤ sgI (a * P + b * Q) * c then sgI (sgI (a * P + b * Q) + c) else sgI (a * P + b * Q) * sgI (sgI (P + Q - R) * ((P + Q - R) * (P + Q - R)) + a * b * (4 * (P * Q)))
def Sg (a P : Int) : Prop := a = -1 ∧ 0 < P ∨ a = 0 ∧ P = 0 ∨ a = 1 ∧ 0 < P
theorem sgsq (x : Int) : 0 ≤ x * x := by
  rcases Int.le_total 0 x with c | c
  · exact Int.mul_nonneg c c
  · have := Int.mul_nonneg (a := -x) (b := -x) (by omega) (by omega)
    rw [Int.neg_mul_neg] at this
    exact this
theorem sg_val (x : Int) : sgI x = -1 ∨ sgI x = 0 ∨ sgI x = 1 := by rcases sg_tri x with ⟨_, e⟩ | ⟨_, e⟩ | ⟨_, e⟩ <;> simp [e]
/-! ### the signs of the numbers m + n * (root of d) -/
def nmF (d m n : Int) : Int := m * m - n * n * d
theorem nm_mul (d a b c e : Int) : nmF d (a * c + b * e * d) (a * e + b * c) = nmF d a b * nmF d c e := by unfold nmF; grind
theorem nm_null {d m n : Int} (hd : isSqB d = false) (h : nmF d m n = 0) : m = 0 ∧ n = 0 := by
  unfold nmF at h
  have hn : n = 0 := Decidable.byContradiction fun c => no_root (x := m) hd c (by omega)
  subst hn
  have : m * m = 0 := by simpa using h
  exact ⟨by rcases Int.mul_eq_zero.mp this with c | c <;> exact c, rfl⟩
theorem sg_nmp {d m n : Int} (d0 : 0 ≤ d) (h : 0 < nmF d m n) : sgI (rtF m n d) = sgI m := by
  rw [rtF_sq]
  unfold nmF at h
  have h1 : 0 ≤ n * n * d := Int.mul_nonneg (sgsq n) d0
  generalize n * n * d = P at *
  generalize hM : m * m = M at *
  rcases sg_val n with e | e | e <;> rw [e] <;> rcases sg_tri m with ⟨c, e'⟩ | ⟨c, e'⟩ | ⟨c, e'⟩ <;> rw [e']
  all_goals first
    | (subst c; simp at hM; omega)
    | exact sg_mone (by omega)
    | exact sg_one (by omega)
theorem sg_nmn {d m n : Int} (h : nmF d m n < 0) : sgI (rtF m n d) = sgI n := by
  rw [rtF_sq]
  unfold nmF at h
  have h1 := sgsq m
  generalize hN : n * n * d = P at *
  generalize m * m = M at *
  rcases sg_val m with e | e | e <;> rw [e] <;> rcases sg_tri n with ⟨c, e'⟩ | ⟨c, e'⟩ | ⟨c, e'⟩ <;> rw [e']
  all_goals first
    | (subst c; simp at hN; omega)
    | exact sg_mone (by omega)
    | exact sg_one (by omega)
theorem sg_dom {A B : Int} (h : B * B < A * A) : sgI (A + B) = sgI A := by
  rcases sg_tri A with ⟨c, e⟩ | ⟨c, e⟩ | ⟨c, e⟩
  · rw [e]
    refine sg_mone ?_
    rcases Int.lt_or_le (A + B) 0 with g | g
    · exact g
    · have := Int.mul_le_mul (show -A ≤ B by omega) (show -A ≤ B by omega) (by omega) (by omega)
      rw [Int.neg_mul_neg] at this
      omega
  · subst c
    have := sgsq B
    simp at h
    omega
  · rw [e]
    refine sg_one ?_
    rcases Int.lt_or_le 0 (A + B) with g | g
    · exact g
    · have := Int.mul_le_mul (show A ≤ -B by omega) (show A ≤ -B by omega) (by omega) (by omega)
      rw [Int.neg_mul_neg] at this
      omega
theorem mul_lt2 {a b c e : Int} (a0 : 0 ≤ a) (h : a < b) (c0 : 0 ≤ c) (k : c < e) : a * c < b * e := by
  have h1 : a * c ≤ a * e := Int.mul_le_mul_of_nonneg_left (Int.le_of_lt k) a0
  have h2 : a * e < b * e := Int.mul_lt_mul_of_pos_right h (by omega)
  omega
theorem fl_cases {d : Int} (m n : Int) (hd : isSqB d = false) : (m = 0 ∧ n = 0) ∨ 0 < nmF d m n ∨ nmF d m n < 0 := by
  rcases Int.lt_trichotomy (nmF d m n) 0 with c | c | c
  · exact .inr (.inr c)
  · exact .inl (nm_null hd c)
  · exact .inr (.inl c)
theorem rtF_00 (d : Int) : rtF 0 0 d = 0 := by unfold rtF; simp
/-- signs of products -/
theorem sg_fmul {d : Int} (d0 : 0 < d) (hd : isSqB d = false) (a b c e : Int) : sgI (rtF (a * c + b * e * d) (a * e + b * c) d) = sgI (rtF a b d) * sgI (rtF c e d) := by
  have d0' := Int.le_of_lt d0
  have N := nm_mul d a b c e
  have s1 := Int.mul_nonneg (sgsq b) d0'
  have s2 := Int.mul_nonneg (sgsq e) d0'
  have s3 := sgsq a
  have s4 := sgsq c
  rcases fl_cases a b hd with ⟨rfl, rfl⟩ | h1 | h1
  · simp [rtF_00, show sgI 0 = 0 from rfl]
  · rcases fl_cases c e hd with ⟨rfl, rfl⟩ | h2 | h2
    · simp [rtF_00, show sgI 0 = 0 from rfl]
    · rw [sg_nmp d0' (by rw [N]; exact Int.mul_pos h1 h2), sg_nmp d0' h1, sg_nmp d0' h2, ← sg_mul2]
      refine sg_dom ?_
      have e1 : b * e * d * (b * e * d) = b * b * d * (e * e * d) := by ac_rfl
      have e2 : a * c * (a * c) = a * a * (c * c) := by ac_rfl
      unfold nmF at h1 h2
      rw [e1, e2]
      exact mul_lt2 s1 (by omega) s2 (by omega)
    · rw [sg_nmn (by rw [N]; exact Int.mul_neg_of_pos_of_neg h1 h2), sg_nmp d0' h1, sg_nmn h2, ← sg_mul2]
      refine sg_dom ?_
      unfold nmF at h1 h2
      have h3 := mul_lt2 s1 (show b * b * d < a * a by omega) s4 (show c * c < e * e * d by omega)
      have e1 : b * b * d * (c * c) = d * (b * c * (b * c)) := by ac_rfl
      have e2 : a * a * (e * e * d) = d * (a * e * (a * e)) := by ac_rfl
      rw [e1, e2] at h3
      exact Int.lt_of_mul_lt_mul_left h3 d0'
  · rcases fl_cases c e hd with ⟨rfl, rfl⟩ | h2 | h2
    · simp [rtF_00, show sgI 0 = 0 from rfl]
    · rw [sg_nmn (by rw [N]; exact Int.mul_neg_of_neg_of_pos h1 h2), sg_nmn h1, sg_nmp d0' h2, ← sg_mul2, Int.add_comm]
      refine sg_dom ?_
      unfold nmF at h1 h2
      have h3 := mul_lt2 s3 (show a * a < b * b * d by omega) s2 (show e * e * d < c * c by omega)
      have e1 : a * a * (e * e * d) = d * (a * e * (a * e)) := by ac_rfl
      have e2 : b * b * d * (c * c) = d * (b * c * (b * c)) := by ac_rfl
      rw [e1, e2] at h3
      exact Int.lt_of_mul_lt_mul_left h3 d0'
    · rw [sg_nmp d0' (by rw [N]; exact Int.mul_pos_of_neg_of_neg h1 h2), sg_nmn h1, sg_nmn h2, ← sg_mul2, Int.add_comm]
      have e0 : sgI (b * e * d) = sgI (b * e) := by rw [sg_mul2, sg_one d0, Int.mul_one]
      rw [← e0]
      refine sg_dom ?_
      have e1 : b * e * d * (b * e * d) = b * b * d * (e * e * d) := by ac_rfl
      have e2 : a * c * (a * c) = a * a * (c * c) := by ac_rfl
      unfold nmF at h1 h2
      rw [e1, e2]
      exact mul_lt2 s3 (by omega) s4 (by omega)
theorem ab_neg (x : Int) : abI (-x) = abI x := by unfold abI; split <;> split <;> omega
theorem rtF_neg (m n d : Int) : rtF (-m) (-n) d = -rtF m n d := by
  unfold rtF
  rw [ab_neg, ab_neg]
  grind
theorem sg_fneg (m n d : Int) : sgI (rtF (-m) (-n) d) = -sgI (rtF m n d) := by rw [rtF_neg, sg_opp]
/-! ### stairs of one row have one number -/
theorem t4_apx (A B : List Int) : t4L (A ++ B) = ⟨(t4L A).p * (t4L B).p + (t4L A).q * (t4L B).r, (t4L A).p * (t4L B).q + (t4L A).q * (t4L B).s, (t4L A).r * (t4L B).p + (t4L A).s * (t4L B).r, (t4L A).r * (t4L B).q + (t4L A).s * (t4L B).s⟩ := by
  have : t4L (A ++ B) = B.foldl t4S (t4L A) := by unfold t4L; rw [List.foldl_append]
  rw [this, tw_fold]
/-- a ring told often: its table is so many times the ring's, and some -/
theorem told_tab {P : List Int} (h1 : ∀ a ∈ P, 1 ≤ a) (h0 : P ≠ []) (m : Nat) : ∃ a b : Int, (t4L (told P (m + 1))).p = a * (t4L P).p + b ∧ (t4L (told P (m + 1))).q = a * (t4L P).q ∧ (t4L (told P (m + 1))).r = a * (t4L P).r ∧ (t4L (told P (m + 1))).s = a * (t4L P).s + b := by
  induction m with
  | zero =>
    refine ⟨1, 0, ?_⟩
    rw [told_succ, told_zero, List.append_nil]
    refine ⟨?_, ?_, ?_, ?_⟩ <;> omega
  | succ m ih =>
    obtain ⟨a, b, e1, e2, e3, e4⟩ := ih
    refine ⟨a * ((t4L P).p + (t4L P).s) + b, -(a * ((t4L P).p * (t4L P).s - (t4L P).q * (t4L P).r)), ?_⟩
    rw [told_succ, t4_apx]
    dsimp only
    rw [e1, e2, e3, e4]
    refine ⟨?_, ?_, ?_, ?_⟩ <;> grind
theorem told_mem {P : List Int} {m : Nat} {x : Int} (h : x ∈ told P m) : x ∈ P := by
  unfold told at h
  obtain ⟨l, hl, hx⟩ := List.mem_flatten.mp h
  rw [(List.mem_replicate.mp hl).2] at hx
  exact hx
/-- two stairs of one number -/
def SameN (A R A' R' : List Int) : Prop := ∃ f f' c c' : Int, f ≠ 0 ∧ f' ≠ 0 ∧ 1 ≤ c ∧ 1 ≤ c' ∧ f * (c' * c') * lnU A R = f' * (c * c) * lnU A' R' ∧ f * (c' * c') * lnN A R = f' * (c * c) * lnN A' R' ∧ f * c' * lnO A R = f' * c * lnO A' R' ∧ c' * c' * upN (t4L R) = c * c * upN (t4L R')
theorem SameN.refl (A R : List Int) : SameN A R A R := ⟨1, 1, 1, 1, by decide, by decide, by decide, by decide, rfl, rfl, rfl, rfl⟩
theorem SameN.symm {A R A' R' : List Int} (h : SameN A R A' R') : SameN A' R' A R := by
  obtain ⟨f, f', c, c', h1, h2, h3, h4, e1, e2, e3, e4⟩ := h
  exact ⟨f', f, c', c, h2, h1, h4, h3, e1.symm, e2.symm, e3.symm, e4.symm⟩
theorem trans_alg {f f' g g' c c' d d' u v w : Int} (h1 : f * (c' * c') * u = f' * (c * c) * v) (h2 : g * (d' * d') * v = g' * (d * d) * w) : f * g * ((c' * d') * (c' * d')) * u = f' * g' * ((c * d) * (c * d)) * w := by
  have e1 : f * g * ((c' * d') * (c' * d')) * u = g * (d' * d') * (f * (c' * c') * u) := by grind
  have e2 : f' * g' * ((c * d) * (c * d)) * w = f' * (c * c) * (g' * (d * d) * w) := by grind
  rw [e1, e2, h1, ← h2]
  grind
theorem trans_alg1 {f f' g g' c c' d d' u v w : Int} (h1 : f * c' * u = f' * c * v) (h2 : g * d' * v = g' * d * w) : f * g * (c' * d') * u = f' * g' * (c * d) * w := by
  have e1 : f * g * (c' * d') * u = g * d' * (f * c' * u) := by grind
  have e2 : f' * g' * (c * d) * w = f' * c * (g' * d * w) := by grind
  rw [e1, e2, h1, ← h2]
  grind
theorem trans_alg0 {c c' d d' u v w : Int} (h1 : c' * c' * u = c * c * v) (h2 : d' * d' * v = d * d * w) : (c' * d') * (c' * d') * u = (c * d) * (c * d) * w := by
  have e1 : (c' * d') * (c' * d') * u = d' * d' * (c' * c' * u) := by grind
  have e2 : (c * d) * (c * d) * w = c * c * (d * d * w) := by grind
  rw [e1, e2, h1, ← h2]
  grind
theorem SameN.trans {A R A1 R1 A2 R2 : List Int} (h : SameN A R A1 R1) (k : SameN A1 R1 A2 R2) : SameN A R A2 R2 := by
  obtain ⟨f, f', c, c', h1, h2, h3, h4, e1, e2, e3, e4⟩ := h
  obtain ⟨g, g', d, d', k1, k2, k3, k4, i1, i2, i3, i4⟩ := k
  have p : ∀ {x y : Int}, 1 ≤ x → 1 ≤ y → 1 ≤ x * y := fun hx hy => by
    have := Int.mul_le_mul hx hy (by omega) (by omega)
    omega
  exact ⟨f * g, f' * g', c * d, c' * d', Int.mul_ne_zero h1 k1, Int.mul_ne_zero h2 k2, p h3 k3, p h4 k4, trans_alg e1 i1, trans_alg e2 i2, trans_alg1 e3 i3, trans_alg0 e4 i4⟩
theorem same_turn {A X : List Int} {n : Int} (h1 : ∀ a ∈ n :: X, 1 ≤ a) : SameN (A ++ [n]) (X ++ [n]) A (n :: X) := by
  have P := rg_pv 1 n X
  have hU := rg_turn 1 n X
  have u1 : ∀ R, rgU 1 R = upN (t4L R) := fun R => by unfold rgU; omega
  rw [u1, u1] at hU
  obtain ⟨eb, et⟩ := P
  rw [u1] at eb
  have s1 : ∀ R, (rgS 1 R).1 = lnT R := fun R => by show 1 * _ = _; rw [Int.one_mul]; rfl
  have s2 : ∀ R, (rgS 1 R).2 = 2 * (t4L R).r := fun R => by show 2 * (1 * _) = _; rw [Int.one_mul]
  rw [s1, s1, s2] at et
  rw [s2, s2, s1] at eb
  have bx := (tw_row (n :: X) h1 (by simp)).r1
  have by1 := (tw_row (X ++ [n]) (fun a ha => h1 a (by simpa [or_comm] using ha)) (by simp)).r1
  have eA := tw_last n A
  generalize hb1 : 2 * (t4L (n :: X)).r = b1 at *
  generalize hb0 : 2 * (t4L (X ++ [n])).r = b0 at *
  generalize hD : upN (t4L (n :: X)) = D at *
  generalize ht0 : lnT (X ++ [n]) = t0 at *
  generalize ht1 : lnT (n :: X) = t1 at *
  have dX1 : lnX A (n :: X) = (t4L A).p * t1 + (t4L A).q * b1 := by unfold lnX; rw [ht1, hb1]
  have dY1 : lnY A (n :: X) = (t4L A).r * t1 + (t4L A).s * b1 := by unfold lnY; rw [ht1, hb1]
  have dX : b1 * lnX (A ++ [n]) (X ++ [n]) = t0 * lnX A (n :: X) + (t4L A).p * D := by
    unfold lnX; rw [ht0, hb0, ht1, hb1, eA]; dsimp only
    have : D = b1 * b0 + t0 * t0 := by omega
    rw [this, et]; grind
  have dY : b1 * lnY (A ++ [n]) (X ++ [n]) = t0 * lnY A (n :: X) + (t4L A).r * D := by
    unfold lnY; rw [ht0, hb0, ht1, hb1, eA]; dsimp only
    have : D = b1 * b0 + t0 * t0 := by omega
    rw [this, et]; grind
  have dp : b1 * (t4L (A ++ [n])).p = lnX A (n :: X) + t0 * (t4L A).p := by rw [dX1, eA]; dsimp only; rw [et]; grind
  have dr : b1 * (t4L (A ++ [n])).r = lnY A (n :: X) + t0 * (t4L A).r := by rw [dY1, eA]; dsimp only; rw [et]; grind
  have hb : t0 * t0 - D = -(b0 * b1) := by rw [Int.mul_comm b0]; omega
  have c1 : b1 * 1 ≠ 0 := by omega
  refine ⟨b1, -b0, 1, 1, by omega, by omega, by decide, by decide, ?_, ?_, ?_, by rw [hU, hD]⟩
  · refine Int.eq_of_mul_eq_mul_left (a := b1) (by omega) ?_
    unfold lnU
    rw [hU, hD]
    have e1 : b1 * (b1 * (1 * 1) * (lnY (A ++ [n]) (X ++ [n]) * lnY (A ++ [n]) (X ++ [n]) - (t4L (A ++ [n])).r * (t4L (A ++ [n])).r * D)) = (b1 * lnY (A ++ [n]) (X ++ [n])) * (b1 * lnY (A ++ [n]) (X ++ [n])) - (b1 * (t4L (A ++ [n])).r) * (b1 * (t4L (A ++ [n])).r) * D := by grind
    have e2 : b1 * (-b0 * (1 * 1) * (lnY A (n :: X) * lnY A (n :: X) - (t4L A).r * (t4L A).r * D)) = -(b0 * b1) * (lnY A (n :: X) * lnY A (n :: X) - (t4L A).r * (t4L A).r * D) := by grind
    rw [e1, e2, dY, dr, ← hb]
    grind
  · refine Int.eq_of_mul_eq_mul_left (a := b1) (by omega) ?_
    unfold lnN
    rw [hU, hD]
    have e1 : b1 * (b1 * (1 * 1) * (lnX (A ++ [n]) (X ++ [n]) * lnY (A ++ [n]) (X ++ [n]) - (t4L (A ++ [n])).p * (t4L (A ++ [n])).r * D)) = (b1 * lnX (A ++ [n]) (X ++ [n])) * (b1 * lnY (A ++ [n]) (X ++ [n])) - (b1 * (t4L (A ++ [n])).p) * (b1 * (t4L (A ++ [n])).r) * D := by grind
    have e2 : b1 * (-b0 * (1 * 1) * (lnX A (n :: X) * lnY A (n :: X) - (t4L A).p * (t4L A).r * D)) = -(b0 * b1) * (lnX A (n :: X) * lnY A (n :: X) - (t4L A).p * (t4L A).r * D) := by grind
    rw [e1, e2, dY, dX, dp, dr, ← hb]
    grind
  · refine Int.eq_of_mul_eq_mul_left (a := b1) (by omega) ?_
    unfold lnO
    have e1 : b1 * (b1 * 1 * ((t4L (A ++ [n])).p * lnY (A ++ [n]) (X ++ [n]) - lnX (A ++ [n]) (X ++ [n]) * (t4L (A ++ [n])).r)) = (b1 * (t4L (A ++ [n])).p) * (b1 * lnY (A ++ [n]) (X ++ [n])) - (b1 * lnX (A ++ [n]) (X ++ [n])) * (b1 * (t4L (A ++ [n])).r) := by grind
    have e2 : b1 * (-b0 * 1 * ((t4L A).p * lnY A (n :: X) - lnX A (n :: X) * (t4L A).r)) = -(b0 * b1) * ((t4L A).p * lnY A (n :: X) - lnX A (n :: X) * (t4L A).r) := by grind
    rw [e1, e2, dY, dX, dp, dr, ← hb]
    grind

/-! ### the endless row of a stair -/
def rowF (A R : List Int) (i : Nat) : Int := if i < A.length then A.getD i 0 else R.getD ((i - A.length) % R.length) 0
theorem gD_app1 {A B : List Int} {i : Nat} (h : i < A.length) : (A ++ B).getD i 0 = A.getD i 0 := by
  rw [List.getD_eq_getElem?_getD, List.getD_eq_getElem?_getD, List.getElem?_append_left h]
theorem gD_app2 {A B : List Int} {i : Nat} (h : A.length ≤ i) : (A ++ B).getD i 0 = B.getD (i - A.length) 0 := by
  rw [List.getD_eq_getElem?_getD, List.getD_eq_getElem?_getD, List.getElem?_append_right h]
theorem row_turn (A X : List Int) (n : Int) (i : Nat) : rowF (A ++ [n]) (X ++ [n]) i = rowF A (n :: X) i := by
  unfold rowF
  have l1 : (A ++ [n]).length = A.length + 1 := by simp
  have l2 : (X ++ [n]).length = X.length + 1 := by simp
  have l3 : (n :: X).length = X.length + 1 := rfl
  rw [l1, l2, l3]
  rcases Nat.lt_trichotomy i A.length with c | c | c
  · rw [if_pos (by omega), if_pos c, gD_app1 c]
  · subst c
    rw [if_pos (by omega), if_neg (by omega), gD_app2 (Nat.le_refl _), Nat.sub_self, Nat.zero_mod]
    rfl
  · rw [if_neg (by omega), if_neg (by omega)]
    obtain ⟨j, rfl⟩ : ∃ j, i = A.length + 1 + j := ⟨i - A.length - 1, by omega⟩
    rw [show A.length + 1 + j - (A.length + 1) = j by omega, show A.length + 1 + j - A.length = j + 1 by omega]
    have hk : j % (X.length + 1) < X.length + 1 := Nat.mod_lt _ (by omega)
    have hm := Nat.mod_add_div j (X.length + 1)
    by_cases c2 : j % (X.length + 1) = X.length
    · have e : (j + 1) % (X.length + 1) = 0 := by
        rw [Nat.add_mod, c2]
        by_cases c3 : X.length = 0
        · rw [c3]
        · rw [Nat.mod_eq_of_lt (show 1 < X.length + 1 by omega), Nat.mod_self]
      rw [e, c2, gD_app2 (Nat.le_refl _), Nat.sub_self]
      rfl
    · have e : (j + 1) % (X.length + 1) = j % (X.length + 1) + 1 := by
        rw [Nat.add_mod, Nat.mod_eq_of_lt (show 1 < X.length + 1 by omega), Nat.mod_eq_of_lt (by omega)]
      rw [e, gD_app1 (by omega)]
      rfl
theorem told_gD {P : List Int} (h0 : P ≠ []) : ∀ (m j : Nat), j < m * P.length → (told P m).getD j 0 = P.getD (j % P.length) 0
  | 0, j, h => by rw [Nat.zero_mul] at h; exact absurd h (Nat.not_lt_zero _)
  | m + 1, j, h => by
    have l0 := ne_len h0
    rw [told_succ]
    by_cases c : j < P.length
    · rw [gD_app1 c, Nat.mod_eq_of_lt c]
    · rw [gD_app2 (by omega), told_gD h0 m (j - P.length) (by rw [Nat.succ_mul] at h; omega), ← Nat.mod_eq_sub_mod (by omega)]
theorem row_told (A P : List Int) (h0 : P ≠ []) (m i : Nat) : rowF A (told P (m + 1)) i = rowF A P i := by
  unfold rowF
  split
  · rfl
  · have l0 := ne_len h0
    rw [told_len, told_gD h0 (m + 1) _ (Nat.mod_lt _ (Nat.mul_pos (by omega) l0)), Nat.mod_mul_left_mod]
theorem rwN_len : ∀ (n : Nat) (R : List Int), R ≠ [] → (rwN n R).length = n
  | 0, _, _ => rfl
  | n + 1, [], h => absurd rfl h
  | n + 1, a :: X, _ => by
    show (a :: rwN n (X ++ [a])).length = _
    rw [List.length_cons, rwN_len n _ (by simp)]
theorem same_roll : ∀ (n : Nat) (A R : List Int), (∀ a ∈ R, 1 ≤ a) → R ≠ [] → SameN A R (A ++ rwN n R) (trn n R) ∧ ∀ i, rowF (A ++ rwN n R) (trn n R) i = rowF A R i
  | 0, A, R, _, _ => by
    show SameN A R (A ++ []) R ∧ ∀ i, rowF (A ++ []) R i = rowF A R i
    rw [List.append_nil]
    exact ⟨SameN.refl A R, fun _ => rfl⟩
  | n + 1, A, [], _, h => absurd rfl h
  | n + 1, A, a :: X, h1, _ => by
    obtain ⟨i1, i2⟩ := same_roll n (A ++ [a]) (X ++ [a]) (fun x hx => h1 x (by simpa [or_comm] using hx)) (by simp)
    show SameN A (a :: X) (A ++ (a :: rwN n (X ++ [a]))) (trn n (X ++ [a])) ∧ ∀ i, rowF (A ++ (a :: rwN n (X ++ [a]))) (trn n (X ++ [a])) i = rowF A (a :: X) i
    rw [List.append_assoc] at i1 i2
    exact ⟨(same_turn h1).symm.trans i1, fun i => (i2 i).trans (row_turn A X a i)⟩
/-- what a stair is kept by -/
structure FewS (A R A' R' : List Int) : Prop where
  prm : Prm R'
  r0 : R' ≠ []
  rm : ∀ a ∈ R', a ∈ R
  rl : R'.length ≤ R.length
  at_ : ∃ k, A' = A.take k
  last : A' = [] ∨ A'.getLast? ≠ R'.getLast?
  row : ∀ i, rowF A' R' i = rowF A R i
theorem rotB_trn {R : List Int} (h0 : R ≠ []) : rotB R = trn (R.length - 1) R := by
  unfold rotB
  rw [trn_take (by omega)]
theorem fw_few : ∀ (A R : List Int), Prm R → R ≠ [] → FewS A.reverse R (fwR A R).1 (fwR A R).2
  | [], R, hp, h0 => ⟨hp, h0, fun _ h => h, Nat.le_refl _, ⟨0, rfl⟩, .inl rfl, fun _ => rfl⟩
  | a :: A, R, hp, h0 => by
    show FewS _ R (if R.getLast? = some a then fwR A (rotB R) else ((a :: A).reverse, R)).1 (if R.getLast? = some a then fwR A (rotB R) else ((a :: A).reverse, R)).2
    by_cases c : R.getLast? = some a
    · rw [if_pos c]
      obtain ⟨X, n, rfl⟩ : ∃ X n, R = X ++ [n] := ⟨_, _, (List.dropLast_concat_getLast h0).symm⟩
      rw [List.getLast?_concat] at c
      obtain rfl := Option.some.inj c
      have er : rotB (X ++ [n]) = n :: X := by unfold rotB; rw [List.length_append]; simp
      have ih := fw_few A (rotB (X ++ [n])) (by rw [rotB_trn h0]; exact prm_trn hp _) (by rw [er]; simp)
      rw [er] at ih ⊢
      obtain ⟨i1, i2, i3, i4, ⟨k, i5⟩, i6, i7⟩ := ih
      rw [List.reverse_cons]
      refine ⟨i1, i2, fun x hx => by have := i3 x hx; simpa [or_comm] using this, by rw [List.length_append]; exact i4, ⟨min k A.length, ?_⟩, i6, fun i => ?_⟩
      · rw [i5, List.take_append_of_le_length (by rw [List.length_reverse]; omega)]
        by_cases c : k ≤ A.length
        · rw [Nat.min_eq_left c]
        · rw [Nat.min_eq_right (by omega), List.take_of_length_le (by rw [List.length_reverse]; omega), List.take_of_length_le (by rw [List.length_reverse]; omega)]
      · rw [i7, row_turn]
    · rw [if_neg c]
      refine ⟨hp, h0, fun _ h => h, Nat.le_refl _, ⟨(a :: A).reverse.length, by rw [List.take_length]⟩, .inr ?_, fun _ => rfl⟩
      rw [List.reverse_cons, List.getLast?_concat]
      exact fun e => c e.symm
theorem few_few {A R : List Int} (h0 : R ≠ []) : FewS A R (fewest A R).1 (fewest A R).2 := by
  have l0 := ne_len h0
  obtain ⟨hp, hn⟩ := prm_sh (L := R) l0
  have f := fw_few A.reverse (shS R) hp hn
  rw [List.reverse_reverse] at f
  obtain ⟨i1, i2, i3, i4, i5, i6, i7⟩ := f
  obtain ⟨s, s1, s2, ok, _, e⟩ := shS_char (L := R) l0
  unfold sizeOk at ok
  rw [Bool.and_eq_true, decide_eq_true_iff, decide_eq_true_iff] at ok
  have q : 1 ≤ R.length / s := Nat.div_pos s2 s1
  obtain ⟨k, ek⟩ : ∃ k, R.length / s = k + 1 := ⟨R.length / s - 1, by omega⟩
  have eR : R = told (shS R) (k + 1) := by rw [e, ← ek]; exact ok.2.symm
  have ls : (shS R).length ≤ R.length := by rw [e, List.length_take]; omega
  refine ⟨i1, i2, fun a ha => ?_, Nat.le_trans i4 ls, i5, i6, fun i => ?_⟩
  · have := i3 a ha
    rw [e] at this
    exact List.mem_of_mem_take this
  · show rowF (fwR A.reverse (shS R)).1 (fwR A.reverse (shS R)).2 i = _
    rw [i7]
    conv => rhs; rw [eR]
    rw [row_told A (shS R) hn k i]

theorem le_mul2 {a b : Int} {m n k : Nat} (ha : a.natAbs ≤ 2 ^ m) (hb : b.natAbs ≤ 2 ^ n) (hk : m + n ≤ k) : (a * b).natAbs ≤ 2 ^ k := by
  rw [Int.natAbs_mul]
  refine Nat.le_trans (Nat.mul_le_mul ha hb) ?_
  rw [← Nat.pow_add]
  exact Nat.pow_le_pow_right (by decide) hk
theorem le_add2 {a b : Int} {n k : Nat} (ha : a.natAbs ≤ 2 ^ n) (hb : b.natAbs ≤ 2 ^ n) (hk : n + 1 ≤ k) : (a + b).natAbs ≤ 2 ^ k := by
  have h : 2 ^ (n + 1) ≤ 2 ^ k := Nat.pow_le_pow_right (by decide) hk
  rw [Nat.pow_succ] at h
  have := Int.natAbs_add_le a b
  omega
theorem le_sub2 {a b : Int} {n k : Nat} (ha : a.natAbs ≤ 2 ^ n) (hb : b.natAbs ≤ 2 ^ n) (hk : n + 1 ≤ k) : (a - b).natAbs ≤ 2 ^ k := by
  have := le_add2 ha (b := -b) (by rw [Int.natAbs_neg]; exact hb) hk
  rw [Int.sub_eq_add_neg]
  exact this
theorem le_up {a : Int} {n k : Nat} (ha : a.natAbs ≤ 2 ^ n) (hk : n ≤ k) : a.natAbs ≤ 2 ^ k := Nat.le_trans ha (Nat.pow_le_pow_right (by decide) hk)
structure T4B (t : T4) (m : Nat) : Prop where
  p : t.p.natAbs ≤ 2 ^ m
  q : t.q.natAbs ≤ 2 ^ m
  r : t.r.natAbs ≤ 2 ^ m
  s : t.s.natAbs ≤ 2 ^ m
theorem ln_sz {A R : List Int} {m n : Nat} (hR : T4B (t4L R) m) (hA : T4B (t4L A) n) :
    (lnT R).natAbs ≤ 2 ^ (m + 1) ∧ (upN (t4L R)).natAbs ≤ 2 ^ (2 * m + 3) ∧ (lnX A R).natAbs ≤ 2 ^ (n + m + 2) ∧ (lnY A R).natAbs ≤ 2 ^ (n + m + 2) ∧
    (lnU A R).natAbs ≤ 2 ^ (2 * n + 2 * m + 5) ∧ (lnO A R).natAbs ≤ 2 ^ (2 * n + m + 3) ∧ (lnN A R).natAbs ≤ 2 ^ (2 * n + 2 * m + 5) := by
  obtain ⟨p1, q1, r1, s1⟩ := hR
  obtain ⟨p2, q2, r2, s2⟩ := hA
  have hT : (lnT R).natAbs ≤ 2 ^ (m + 1) := le_sub2 p1 s1 (Nat.le_refl _)
  have four : (4 : Int).natAbs ≤ 2 ^ 2 := by decide
  have two : (2 : Int).natAbs ≤ 2 ^ 1 := by decide
  have hD : (upN (t4L R)).natAbs ≤ 2 ^ (2 * m + 3) := by
    unfold upN
    refine le_add2 (n := 2 * m + 2) ?_ ?_ (by omega)
    · exact le_mul2 hT hT (by omega)
    · exact le_mul2 (le_mul2 four q1 (Nat.le_refl _)) r1 (by omega)
  have hX : (lnX A R).natAbs ≤ 2 ^ (n + m + 2) := by
    unfold lnX
    exact le_add2 (n := n + m + 1) (le_mul2 p2 hT (by omega)) (le_mul2 q2 (le_mul2 two r1 (Nat.le_refl _)) (by omega)) (by omega)
  have hY : (lnY A R).natAbs ≤ 2 ^ (n + m + 2) := by
    unfold lnY
    exact le_add2 (n := n + m + 1) (le_mul2 r2 hT (by omega)) (le_mul2 s2 (le_mul2 two r1 (Nat.le_refl _)) (by omega)) (by omega)
  refine ⟨hT, hD, hX, hY, ?_, ?_, ?_⟩
  · unfold lnU
    exact le_sub2 (n := 2 * n + 2 * m + 4) (le_mul2 hY hY (by omega)) (le_mul2 (le_mul2 r2 r2 (Nat.le_refl _)) hD (by omega)) (by omega)
  · unfold lnO
    exact le_sub2 (n := 2 * n + m + 2) (le_mul2 p2 hY (by omega)) (le_mul2 hX r2 (by omega)) (by omega)
  · unfold lnN
    exact le_sub2 (n := 2 * n + 2 * m + 4) (le_mul2 hX hY (by omega)) (le_mul2 (le_mul2 p2 r2 (Nat.le_refl _)) hD (by omega)) (by omega)
theorem lnS_abs (A R : List Int) (x : Int) : (lnS A R * x).natAbs = x.natAbs := by unfold lnS; split <;> omega

/-- all that stood in a store stands in another one, too -/
def Ext (S S' : Sd) : Prop := ∀ x y, S x = some y → S' x = some y
theorem Ext.refl {S : Sd} : Ext S S := fun _ _ h => h
theorem Ext.trans {S S1 S2 : Sd} (h : Ext S S1) (k : Ext S1 S2) : Ext S S2 := fun x y e => k x y (h x y e)
theorem tup_at {S : Sd} {p : Addr} {ds : List D} {Q : DK} (h : S p = some (.lst ds)) (q : Q (.tup ds) S) : rdTupA [.obj p] S Q := by
  show (match itemsD S (.obj p) with | some ds => Q (.tup ds) S | none => False)
  have e : itemsD S (.obj p) = some ds := by
    show (match S p with | some (.lst ds) => some ds | _ => none) = _
    rw [h]
  rw [e]
  exact q
theorem mpI_split {L : List Int} {p r : List D} {x : D} (e : L.map D.int = p ++ x :: r) : ∃ (M : List Int) (a : Int) (R : List Int), L = M ++ a :: R ∧ x = .int a ∧ p = M.map D.int := by
  obtain ⟨M, T, rfl, h1, h2⟩ := List.map_eq_append_iff.mp e
  obtain ⟨a, R, rfl, h3, h4⟩ := List.map_eq_cons_iff.mp h2
  exact ⟨M, a, R, rfl, h3.symm, h1.symm⟩
theorem mpI_inj {L M : List Int} (h : L.map D.int = M.map D.int) : L = M := List.map_inj_right (fun _ _ h => by injection h) |>.mp h
theorem neO_nil {a : Addr} {l : List Int} {S : Sd} {Q : DK} (h : S a = some (.lst (l.map D.int))) (q : Q (.bl (!decide (l = []))) S) : rdNeO (.obj a) (.lst []) S Q := by
  show neV_ _ _ S Q
  unfold neV_
  rw [x_val h]
  refine ⟨⟨okD_eqOk (okD_intsL l) (by decide), rfl⟩, ?_⟩
  show Q (.bl (!deqL (l.map D.int) (([] : List Int).map D.int))) S
  rw [deqL_ringE]
  exact q
theorem ixN_last {n : Nat} (h : 0 < n) : ixN n (-1) = some (n - 1) := by
  unfold ixN
  rw [if_neg (by decide), if_pos (by omega)]
  congr 1
  omega

/-! fractions of a row: by turns below and above its number -/
theorem num_turn {A X : List Int} {n T O B : Int} (h1 : ∀ a ∈ n :: X, 1 ≤ a) (N : NumS A (n :: X) T O B) : NumS (A ++ [n]) (X ++ [n]) T O B := by
  obtain ⟨n1, n2⟩ := N
  have P := rg_pv 1 n X
  have hU := rg_turn 1 n X
  have u1 : ∀ R, rgU 1 R = upN (t4L R) := fun R => by unfold rgU; omega
  rw [u1, u1] at hU
  obtain ⟨eb, et⟩ := P
  rw [u1] at eb
  have s1 : ∀ R, (rgS 1 R).1 = lnT R := fun R => by show 1 * _ = _; rw [Int.one_mul]; rfl
  have s2 : ∀ R, (rgS 1 R).2 = 2 * (t4L R).r := fun R => by show 2 * (1 * _) = _; rw [Int.one_mul]
  rw [s1, s1, s2] at et
  rw [s2, s2, s1] at eb
  have bx := (tw_row (n :: X) h1 (by simp)).r1
  have eA := tw_last n A
  have tt : ∀ R, (t4L R).p - (t4L R).s = lnT R := fun R => rfl
  rw [tt] at n1 n2
  have m1 : T * (t4L (A ++ [n])).r + O * ((t4L (A ++ [n])).r * lnT (X ++ [n]) + (t4L (A ++ [n])).s * (2 * (t4L (X ++ [n])).r)) = B * (t4L (A ++ [n])).p ∧ T * ((t4L (A ++ [n])).r * lnT (X ++ [n]) + (t4L (A ++ [n])).s * (2 * (t4L (X ++ [n])).r)) + (t4L (A ++ [n])).r * O * upN (t4L (X ++ [n])) = B * ((t4L (A ++ [n])).p * lnT (X ++ [n]) + (t4L (A ++ [n])).q * (2 * (t4L (X ++ [n])).r)) := by
    rw [hU]
    generalize hb1 : 2 * (t4L (n :: X)).r = b1 at *
    generalize 2 * (t4L (X ++ [n])).r = b0 at *
    generalize upN (t4L (n :: X)) = D at *
    generalize lnT (X ++ [n]) = t0 at *
    generalize lnT (n :: X) = t1 at *
    rw [eA]
    dsimp only
    generalize (t4L A).p = p at *
    generalize (t4L A).q = q at *
    generalize (t4L A).r = r at *
    generalize (t4L A).s = s at *
    have hD : D = b1 * b0 + t0 * t0 := by omega
    have b10 : b1 ≠ 0 := by omega
    subst hD et
    constructor
    · refine Int.eq_of_mul_eq_mul_left (a := b1) b10 ?_
      grind
    · refine Int.eq_of_mul_eq_mul_left (a := b1) b10 ?_
      grind
  exact ⟨m1.1, m1.2⟩
theorem num_roll {T O B : Int} : ∀ (m : Nat) (A R : List Int), (∀ a ∈ R, 1 ≤ a) → NumS A R T O B → NumS (A ++ rwN m R) (trn m R) T O B
  | 0, A, R, _, N => by
    show NumS (A ++ []) R T O B
    rw [List.append_nil]
    exact N
  | m + 1, A, [], _, N => by
    show NumS (A ++ []) [] T O B
    rw [List.append_nil]
    exact N
  | m + 1, A, a :: X, h, N => by
    have k := num_roll m (A ++ [a]) (X ++ [a]) (fun x hx => h x (by simpa [or_comm] using hx)) (num_turn h N)
    rw [List.append_assoc] at k
    exact k
theorem tw_par : ∀ L : List Int, (t4L L).p * (t4L L).s - (t4L L).q * (t4L L).r = if L.length % 2 = 0 then 1 else -1
  | [] => rfl
  | a :: A => by
    have ih := tw_par A
    rw [tw_cons]
    dsimp only
    have e : (a * (t4L A).p + (t4L A).r) * (t4L A).q - (a * (t4L A).q + (t4L A).s) * (t4L A).p = -((t4L A).p * (t4L A).s - (t4L A).q * (t4L A).r) := by grind
    rw [e, ih, List.length_cons]
    by_cases c : A.length % 2 = 0
    · rw [if_pos c, if_neg (by omega)]
    · rw [if_neg c, if_pos (by omega)]; rfl
structure Tw0 (t : T4) : Prop where
  p : 1 ≤ t.p
  q : 0 ≤ t.q
  r : 0 ≤ t.r
  s : 0 ≤ t.s
  rs : 1 ≤ t.r + t.s
theorem tw_nn (L : List Int) (h : ∀ a ∈ L, 1 ≤ a) : Tw0 (t4L L) := by
  by_cases c : L = []
  · subst c
    exact ⟨by decide, by decide, by decide, by decide, by decide⟩
  · obtain ⟨q1, r1, s0, pq, pr, qs, rs, d⟩ := tw_row L h c
    exact ⟨by omega, by omega, by omega, by omega, by omega⟩
theorem rtF_one {y r d : Int} (hd : 0 < d) (h0 : 0 ≤ y) (h1 : 0 ≤ r) (h : 1 ≤ y ∨ 1 ≤ r) : sgI (rtF y r d) = 1 := by
  refine sg_one ?_
  unfold rtF abI
  rw [if_neg (by omega), if_neg (by omega)]
  have a1 : 0 ≤ y * y := Int.mul_nonneg h0 h0
  have a2 : 0 ≤ d * r * r := Int.mul_nonneg (Int.mul_nonneg (by omega) h1) h1
  rcases h with h | h
  · have := Int.mul_pos (show 0 < y by omega) (show 0 < y by omega); omega
  · have := Int.mul_pos (Int.mul_pos hd (show 0 < r by omega)) (show 0 < r by omega); omega
theorem conv_sign {P S R : List Int} {T O B : Int} (hR : ∀ a ∈ R, 1 ≤ a) (h0 : R ≠ []) (hP : ∀ a ∈ P.tail, 1 ≤ a) (P0 : P ≠ []) (hS : ∀ a ∈ S, 1 ≤ a) (hB : 1 ≤ B) (N : NumS (P ++ S) R T O B) :
    sgI (rtF (T * (t4L P).r - (t4L P).p * B) (O * (t4L P).r) (upN (t4L R))) = if P.length % 2 = 1 then 1 else -1 := by
  obtain ⟨n1, n2⟩ := N
  have up := tw_pos hR h0
  have sq : isSqB (upN (t4L R)) = false := isSqB_false fun y _ => up.2 y
  have d0 : 0 < upN (t4L R) := by omega
  have tr := tw_row R hR h0
  have t0 : 0 ≤ (t4L R).p - (t4L R).s := by have := tr.pq; have := tr.qs; omega
  have w0 : 2 ≤ 2 * (t4L R).r := by have := tr.r1; omega
  have k1 : 1 ≤ (t4L (P ++ S)).r ∧ 0 ≤ (t4L (P ++ S)).s := by
    cases P with
    | nil => exact absurd rfl P0
    | cons x P =>
      rw [List.cons_append, tw_cons]
      have := tw_nn (P ++ S) (fun a ha => by
        rcases List.mem_append.mp ha with h | h
        · exact hP a h
        · exact hS a h)
      exact ⟨this.p, this.q⟩
  have ks := tw_nn S hS
  have par := tw_par P
  have ap := t4_apx P S
  have Y0 : 0 ≤ (t4L (P ++ S)).r * ((t4L R).p - (t4L R).s) + (t4L (P ++ S)).s * (2 * (t4L R).r) := by
    have a1 := Int.mul_nonneg (show 0 ≤ (t4L (P ++ S)).r by omega) t0
    have a2 := Int.mul_nonneg k1.2 (show 0 ≤ 2 * (t4L R).r by omega)
    omega
  have Z0 : 0 ≤ (t4L S).r * ((t4L R).p - (t4L R).s) + (t4L S).s * (2 * (t4L R).r) := by
    have a1 := Int.mul_nonneg ks.r t0
    have a2 := Int.mul_nonneg ks.s (show 0 ≤ 2 * (t4L R).r by omega)
    omega
  have Z1 : 1 ≤ (t4L S).r * ((t4L R).p - (t4L R).s) + (t4L S).s * (2 * (t4L R).r) ∨ 1 ≤ (t4L S).r := by
    by_cases c : 1 ≤ (t4L S).r
    · exact .inr c
    · have := ks.rs
      have e : (t4L S).r = 0 := by have := ks.r; omega
      left
      rw [e, Int.zero_mul, Int.zero_add]
      have := Int.mul_pos (show 0 < (t4L S).s by omega) (show 0 < 2 * (t4L R).r by omega)
      omega
  have f1 := rtF_one d0 Y0 (show 0 ≤ (t4L (P ++ S)).r by omega) (.inr k1.1)
  have f2 := rtF_one d0 Z0 ks.r Z1
  have fm := sg_fmul d0 sq (T * (t4L P).r - (t4L P).p * B) (O * (t4L P).r) ((t4L (P ++ S)).r * ((t4L R).p - (t4L R).s) + (t4L (P ++ S)).s * (2 * (t4L R).r)) (t4L (P ++ S)).r
  rw [f1, Int.mul_one] at fm
  rw [← fm]
  generalize upN (t4L R) = U at *
  generalize 2 * (t4L R).r = w at *
  generalize (t4L R).p - (t4L R).s = t at *
  rw [ap] at n1 n2 ⊢
  dsimp only at n1 n2 ⊢
  clear fm f1 ap k1 Y0 Z1
  generalize (t4L S).p = p' at *
  generalize (t4L S).q = q' at *
  generalize hr' : (t4L S).r = r' at *
  generalize hs' : (t4L S).s = s' at *
  generalize (t4L P).p = p at *
  generalize (t4L P).q = q at *
  generalize (t4L P).r = r at *
  generalize (t4L P).s = s at *
  have e1 : (T * r - p * B) * ((r * p' + s * r') * t + (r * q' + s * s') * w) + O * r * (r * p' + s * r') * U = B * (-(p * s - q * r)) * (r' * t + s' * w) := by
    have : (T * r - p * B) * ((r * p' + s * r') * t + (r * q' + s * s') * w) + O * r * (r * p' + s * r') * U = r * (T * ((r * p' + s * r') * t + (r * q' + s * s') * w) + (r * p' + s * r') * O * U) - p * B * ((r * p' + s * r') * t + (r * q' + s * s') * w) := by grind
    rw [this, n2]
    grind
  have e2 : (T * r - p * B) * (r * p' + s * r') + O * r * ((r * p' + s * r') * t + (r * q' + s * s') * w) = B * (-(p * s - q * r)) * r' := by
    have : (T * r - p * B) * (r * p' + s * r') + O * r * ((r * p' + s * r') * t + (r * q' + s * s') * w) = r * (T * (r * p' + s * r') + O * ((r * p' + s * r') * t + (r * q' + s * s') * w)) - p * B * (r * p' + s * r') := by grind
    rw [this, n1]
    grind
  rw [e1, e2, par]
  by_cases c : P.length % 2 = 0
  · rw [if_pos c, if_neg (by omega)]
    have : ∀ x : Int, B * -1 * x = -(B * x) := fun x => by grind
    rw [this, this, sg_fneg, sg_rt (by omega), f2]
  · rw [if_neg c, if_pos (by omega)]
    have : ∀ x : Int, B * - -1 * x = B * x := fun x => by grind
    rw [this, this, sg_rt (by omega), f2]
theorem take_row {X : List Int} {n : Nat} {f : Nat → Int} (hl : n ≤ X.length) (h : ∀ i, i < n → X.getD i 0 = f i) : X.take n = (List.range n).map f := by
  refine List.ext_getElem (by simp; omega) (fun i h1 h2 => ?_)
  have hi : i < n := by simp at h1; omega
  rw [List.getElem_take, List.getElem_map, List.getElem_range]
  have := h i hi
  rw [List.getD_eq_getElem?_getD, List.getElem?_eq_getElem (by omega)] at this
  exact this
theorem told_take {A R : List Int} (h0 : R ≠ []) {n : Nat} (hn : n ≤ 100) : (A ++ told R 100).take n = (List.range n).map (rowF A R) := by
  have l1 : 1 ≤ R.length := by cases R with
    | nil => exact absurd rfl h0
    | cons a R => simp
  have l2 : (told R 100).length = 100 * R.length := told_len R 100
  refine take_row (by rw [List.length_append, l2]; omega) fun i hi => ?_
  by_cases c : i < A.length
  · rw [gD_app1 c]
    unfold rowF
    rw [if_pos c]
  · rw [gD_app2 (by omega), told_gD h0 100 _ (by omega)]
    unfold rowF
    rw [if_neg c]
theorem roll_take {A R : List Int} (h1 : ∀ a ∈ R, 1 ≤ a) (h0 : R ≠ []) (n : Nat) : (A ++ rwN n R).take n = (List.range n).map (rowF A R) := by
  have l2 : (rwN n R).length = n := rwN_len n R h0
  refine take_row (by rw [List.length_append, l2]; omega) fun i hi => ?_
  have e := (same_roll n A R h1 h0).2 i
  unfold rowF at e
  rw [if_pos (by rw [List.length_append, l2]; omega)] at e
  rw [e]
  rfl
theorem trn_up : ∀ (m : Nat) (R : List Int), upN (t4L (trn m R)) = upN (t4L R)
  | 0, _ => rfl
  | _ + 1, [] => rfl
  | m + 1, a :: X => by
    have hU := rg_turn 1 a X
    have u1 : ∀ R, rgU 1 R = upN (t4L R) := fun R => by unfold rgU; omega
    rw [u1, u1] at hU
    show upN (t4L (trn m (X ++ [a]))) = _
    rw [trn_up m, hU]
theorem trn_in : ∀ (m : Nat) (R : List Int) (a : Int), a ∈ trn m R → a ∈ R
  | 0, _, _, h => h
  | _ + 1, [], _, h => h
  | m + 1, b :: X, a, h => by
    have := trn_in m (X ++ [b]) a h
    simpa [or_comm] using this
theorem trn_nil : ∀ (m : Nat) (R : List Int), R ≠ [] → trn m R ≠ []
  | 0, _, h => h
  | _ + 1, [], h => absurd rfl h
  | m + 1, b :: X, _ => trn_nil m (X ++ [b]) (by simp)
theorem rwN_in : ∀ (m : Nat) (R : List Int) (a : Int), a ∈ rwN m R → a ∈ R
  | 0, _, _, h => by cases h
  | _ + 1, [], _, h => by cases h
  | m + 1, b :: X, a, h => by
    rcases List.mem_cons.mp (show a ∈ b :: rwN m (X ++ [b]) from h) with rfl | h
    · simp
    · have := rwN_in m (X ++ [b]) a h
      simpa [or_comm] using this
theorem row_tl {A R : List Int} (h1 : ∀ a ∈ R, 1 ≤ a) (h0 : R ≠ []) (hA : ∀ a ∈ A.tail, 1 ≤ a) (n : Nat) : ∀ a ∈ ((List.range n).map (rowF A R)).tail, 1 ≤ a := fun a ha => by
  rw [← roll_take h1 h0 n] at ha
  have all : ∀ a ∈ (A ++ rwN n R).tail, 1 ≤ a := fun a ha => by
    cases A with
    | nil => exact h1 a (rwN_in n R a (List.mem_of_mem_tail ha))
    | cons x A =>
      rcases List.mem_append.mp ha with h | h
      · exact hA a h
      · exact h1 a (rwN_in n R a h)
  cases hX : A ++ rwN n R with
  | nil => rw [hX] at ha; simp at ha
  | cons x X =>
    rw [hX] at ha all
    cases n with
    | zero => simp at ha
    | succ n =>
      rw [List.take_succ_cons, List.tail_cons] at ha
      exact all a (List.mem_of_mem_take ha)
/-- the first numbers' fraction lies by turns below and above the row's number -/
theorem conv_row {A R : List Int} {T O B : Int} (h1 : ∀ a ∈ R, 1 ≤ a) (h0 : R ≠ []) (hA : ∀ a ∈ A.tail, 1 ≤ a) (hB : 1 ≤ B) (N : NumS A R T O B) {n : Nat} (n1 : 1 ≤ n) :
    sgI (rtF (T * (t4L ((List.range n).map (rowF A R))).r - (t4L ((List.range n).map (rowF A R))).p * B) (O * (t4L ((List.range n).map (rowF A R))).r) (upN (t4L R))) = if n % 2 = 1 then 1 else -1 := by
  rw [← roll_take h1 h0 n, ← trn_up n R]
  have l2 : (rwN n R).length = n := rwN_len n R h0
  have ln : ((A ++ rwN n R).take n).length = n := by rw [List.length_take, List.length_append, l2]; omega
  have all : ∀ a ∈ (A ++ rwN n R).tail, 1 ≤ a := fun a ha => by
    cases A with
    | nil => exact h1 a (rwN_in n R a (List.mem_of_mem_tail ha))
    | cons x A =>
      rcases List.mem_append.mp ha with h | h
      · exact hA a h
      · exact h1 a (rwN_in n R a h)
  have NR := num_roll n A R h1 N
  rw [← List.take_append_drop n (A ++ rwN n R)] at NR
  have h := conv_sign (P := (A ++ rwN n R).take n) (S := (A ++ rwN n R).drop n) (fun a ha => h1 a (trn_in n R a ha)) (trn_nil n R h0) (fun a ha => all a ?_) (fun e => by rw [e] at ln; simp at ln; omega) (fun a ha => all a ?_) hB NR
  · rw [ln] at h
    exact h
  · cases hX : A ++ rwN n R with
    | nil => rw [hX] at ha; simp at ha
    | cons x X =>
      rw [hX] at ha
      match n, n1, ha with
      | n + 1, _, ha =>
        rw [List.take_succ_cons, List.tail_cons] at ha
        exact List.mem_of_mem_take ha
  · cases hX : A ++ rwN n R with
    | nil => rw [hX] at ha; simp at ha
    | cons x X =>
      rw [hX] at ha
      match n, n1, ha with
      | n + 1, _, ha =>
        rw [List.drop_succ_cons] at ha
        exact List.mem_of_mem_drop ha

structure RowB (A R : List Int) : Prop where
  r1 : ∀ a ∈ R, 1 ≤ a ∧ a ≤ 999999
  r0 : R ≠ []
  rl : R.length ≤ 40
  a2 : ∀ a ∈ A, a.natAbs + 1 ≤ 2 ^ 20
  al : A.length ≤ 20
theorem RowB.p1 {A R : List Int} (h : RowB A R) : ∀ a ∈ R, 1 ≤ a := fun a ha => (h.r1 a ha).1
theorem T4B.of {L : List Int} {c m : Nat} (h : ∀ a ∈ L, a.natAbs + 1 ≤ 2 ^ c) (hm : c * L.length ≤ m) : T4B (t4L L) m := by
  obtain ⟨h1, h2, h3, h4⟩ := t4_wide h
  exact ⟨le_up h1 hm, le_up h2 hm, le_up h3 hm, le_up h4 hm⟩
theorem RowB.tr {A R : List Int} (h : RowB A R) : T4B (t4L R) 800 := T4B.of (c := 20) (fun a ha => by have := h.r1 a ha; have e : (2 : Nat) ^ 20 = 1048576 := (by decide); omega) (by have := h.rl; omega)
theorem RowB.ta {A R : List Int} (h : RowB A R) : T4B (t4L A) 400 := T4B.of h.a2 (by have := h.al; omega)


def sp_is_whole : SpD := fun ds S Q _ => ∃ d, ds = [d] ∧ isData d = true ∧ Q (.bl (isWh d)) S
theorem len_is_whole : ∀ ds S Q E, sp_is_whole ds S Q E → ds.length = 1 := fun _ _ _ _ ⟨_, e, _⟩ => by rw [e]; rfl

def sp_shared_by : SpD := fun ds S Q _ => ∃ a b : Int, ds = [.int a, .int b] ∧ Q (.int (Int.gcd a b : Nat)) S
theorem len_shared_by : ∀ ds S Q E, sp_shared_by ds S Q E → ds.length = 2 := fun _ _ _ _ ⟨_, _, e, _⟩ => by rw [e]; rfl

def winD (lo hi : Int) : D → Bool
  | .int a => decide (lo ≤ a ∧ a ≤ hi)
  | _ => false
def sp_is_within : SpD := fun ds S Q _ => ∃ (d : D) (lo hi : Int), ds = [d, .int lo, .int hi] ∧ isData d = true ∧ Q (.bl (winD lo hi d)) S
theorem len_is_within : ∀ ds S Q E, sp_is_within ds S Q E → ds.length = 3 := fun _ _ _ _ ⟨_, _, _, e, _⟩ => by rw [e]; rfl

def rowD (lo hi : Int) : D → Bool
  | .tup xs => decide (lo ≤ (xs.length : Int) ∧ (xs.length : Int) ≤ hi) && xs.all (winD 1 999999)
  | _ => false
def sp_is_row : SpD := fun ds S Q _ => ∃ (d : D) (lo hi : Int) (n : Nat), ds = [d, .int lo, .int hi] ∧ sm n d = true ∧ hi ≤ 1000000 ∧ Q (.bl (rowD lo hi d)) S
theorem len_is_row : ∀ ds S Q E, sp_is_row ds S Q E → ds.length = 3 := fun _ _ _ _ ⟨_, _, _, _, e, _⟩ => by rw [e]; rfl

def sp_is_number_ring : SpD := fun ds S Q _ => ∃ (d : D) (n : Nat), ds = [d] ∧ sm n d = true ∧ Q (.bl (isRingD d)) S
theorem len_is_number_ring : ∀ ds S Q E, sp_is_number_ring ds S Q E → ds.length = 1 := fun _ _ _ _ ⟨_, _, e, _⟩ => by rw [e]; rfl
theorem win_in : ∀ d : D, winD 1 999999 d = inD d := fun d => by cases d <;> rfl
theorem row_ring (d : D) : rowD 1 40 d = isRingD d := by
  cases d with
  | tup xs =>
    show (decide ((1 : Int) ≤ (xs.length : Int) ∧ (xs.length : Int) ≤ 40) && xs.all (winD 1 999999)) = (decide (1 ≤ xs.length ∧ xs.length ≤ 40) && xs.all inD)
    rw [show winD 1 999999 = inD from funext win_in]
    congr 1
    rw [decide_eq_decide]
    omega
  | _ => rfl

def aheadD : D → Bool
  | .tup [] => true
  | .tup (x :: xs) => winD (-999999) 999999 x && rowD 0 19 (.tup xs)
  | _ => false
def sp_is_ahead : SpD := fun ds S Q _ => ∃ (d : D) (n : Nat), ds = [d] ∧ sm n d = true ∧ eqOk d = true ∧ Q (.bl (aheadD d)) S
theorem len_is_ahead : ∀ ds S Q E, sp_is_ahead ds S Q E → ds.length = 1 := fun _ _ _ _ ⟨_, _, e, _⟩ => by rw [e]; rfl

def sp_look_ring : SpD := fun ds S Q E => ∃ (d : D) (n : Nat), ds = [d] ∧ sm n d = true ∧ (isRingD d = true → Q .non S) ∧ (isRingD d = false → E ⟨"NoRing", [], []⟩ S)
theorem len_look_ring : ∀ ds S Q E, sp_look_ring ds S Q E → ds.length = 1 := fun _ _ _ _ ⟨_, _, e, _⟩ => by rw [e]; rfl

def sp_shortest_part : SpD := fun ds S Q _ => ∃ L : List Int, ds = [ringD L] ∧ 1 ≤ L.length ∧ L.length ≤ 1000 ∧ Q (ringD (shS L)) S
theorem len_shortest_part : ∀ ds S Q E, sp_shortest_part ds S Q E → ds.length = 1 := fun _ _ _ _ ⟨_, e, _⟩ => by rw [e]; rfl
theorem size_go {L : List Int} {s : Nat} {S : Sd} {Q : DK} (s1 : 1 ≤ s) (s2 : s ≤ L.length) (hd : L.length % s = 0) (l1 : L.length ≤ 1000) (q : Q (.bl (decide (told (L.take s) (L.length / s) = L))) S) :
    rdMulA (.tup (cutD (L.map D.int) none (some (s : Int)))) (.int (L.length / s : Nat)) S fun x S1 => rdEq x (ringD L) S1 Q := by
  have hq1 : 1 ≤ L.length / s := Nat.div_pos s2 (by omega)
  have hq2 : L.length / s ≤ L.length := Nat.div_le_self _ _
  rw [cutD_ring L s2]
  refine ⟨⟨fun e => ?_, by omega, by omega, by rw [List.length_map, List.length_take]; omega⟩, ?_⟩
  · have := congrArg List.length e
    rw [List.length_map, List.length_take, List.length_nil] at this
    omega
  rw [Int.toNat_natCast, told_D]
  refine ⟨⟨okD_eqOk (okD_ints _) (by decide), okD_eqOk (okD_ints _) (by decide)⟩, ?_⟩
  show Q (.bl (deqL ((told (L.take s) (L.length / s)).map D.int) (L.map D.int))) S
  rw [deqL_ringE]
  exact q
theorem nat_mod_div {n s : Nat} (s1 : 1 ≤ s) : (n : Int).fmod (s : Int) = ((n % s : Nat) : Int) ∧ (n : Int).fdiv (s : Int) = ((n / s : Nat) : Int) := by
  constructor
  · rw [Int.fmod_eq_emod_of_nonneg _ (by omega)]
    exact (Int.natCast_emod _ _).symm
  · rw [Int.fdiv_eq_ediv_of_nonneg _ (by omega)]
    exact (Int.natCast_ediv _ _).symm

def sp_table_of_row : SpD := fun ds S Q _ => ∃ (L : List Int) (c : Nat) (d : D), ds = [d] ∧ (d = ringD L ∨ d = .lst (L.map D.int)) ∧ (∀ a ∈ L, a.natAbs + 1 ≤ 2 ^ c) ∧ c ≤ 100 ∧ L.length ≤ 100 ∧ Q (.tup [.int (t4L L).p, .int (t4L L).q, .int (t4L L).r, .int (t4L L).s]) S
theorem len_table_of_row : ∀ ds S Q E, sp_table_of_row ds S Q E → ds.length = 1 := fun _ _ _ _ ⟨_, _, _, e, _⟩ => by rw [e]; rfl

def fmG (L : List Int) : Int := (Int.gcd (Int.gcd (t4L L).r ((t4L L).s - (t4L L).p) : Nat) (t4L L).q : Nat)
/-- the form of a ring -/
def frmD (L : List Int) : D := .tup [.int ((t4L L).r.fdiv (fmG L)), .int (((t4L L).s - (t4L L).p).fdiv (fmG L)), .int ((0 - (t4L L).q).fdiv (fmG L))]
def sp_form_of_row : SpD := fun ds S Q _ => ∃ L : List Int, ds = [ringD L] ∧ RowI L ∧ Q (frmD L) S
theorem len_form_of_row : ∀ ds S Q E, sp_form_of_row ds S Q E → ds.length = 1 := fun _ _ _ _ ⟨_, e, _⟩ => by rw [e]; rfl

def sp_ring_form : SpD := fun ds S Q E => ∃ (d : D) (n : Nat), ds = [d] ∧ sm n d = true ∧ (isRingD d = true → ∃ L, d = ringD L ∧ RowI L ∧ Q (frmD L) S) ∧ (isRingD d = false → E ⟨"NoRing", [], []⟩ S)
theorem len_ring_form : ∀ ds S Q E, sp_ring_form ds S Q E → ds.length = 1 := fun _ _ _ _ ⟨_, _, e, _⟩ => by rw [e]; rfl

def stD (A R : List Int) : D := .inst "Stair" ["held_ahead", "held_ring"] [ringD A, ringD R]
def stF (p : List Int × List Int) : D := stD p.1 p.2
def sp_Stair_keep_rows : SpD := fun ds S Q _ => ∃ (a : Addr) (A R : List Int), ds = [.obj a, ringD A, ringD R] ∧ A.length ≤ 1000 ∧ 1 ≤ R.length ∧ R.length ≤ 1000 ∧ (S a = some (.ins "Stair" [] []) ∨ ∃ x y, S a = some (.ins "Stair" ["held_ahead", "held_ring"] [x, y])) ∧ Q .non (upS S a (.ins "Stair" ["held_ahead", "held_ring"] [ringD (fewest A R).1, ringD (fewest A R).2]))
theorem len_Stair_keep_rows : ∀ ds S Q E, sp_Stair_keep_rows ds S Q E → ds.length = 3 := fun _ _ _ _ ⟨_, _, _, e, _⟩ => by rw [e]; rfl
theorem ne_nil {A : List Int} {S : Sd} {Q : DK} (q : Q (.bl (!decide (A = []))) S) : rdNe (ringD A) (.tup []) S Q := by
  refine ⟨⟨okD_eqOk (okD_ints _) (by decide), by decide⟩, ?_⟩
  have e : deq (ringD A) (.tup []) = decide (A = []) := by
    show deqL (A.map D.int) (([] : List Int).map D.int) = _
    rw [deqL_ringE]
  rw [e]
  exact q

def sp_Stair___init__ : SpD := fun ds S Q E => ∃ (a : Addr) (d1 d2 : D) (n : Nat), ds = [.obj a, d1, d2] ∧ sm n d1 = true ∧ sm n d2 = true ∧ eqOk d1 = true ∧ S a = some (.ins "Stair" [] []) ∧ ((aheadD d1 && isRingD d2) = false → E ⟨"NoStair", [], []⟩ S) ∧
  ((aheadD d1 && isRingD d2) = true → ∃ A R, d1 = ringD A ∧ d2 = ringD R ∧ A.length ≤ 20 ∧ RowI R ∧ Q .non (upS S a (.ins "Stair" ["held_ahead", "held_ring"] [ringD (fewest A R).1, ringD (fewest A R).2])))
theorem len_Stair___init__ : ∀ ds S Q E, sp_Stair___init__ ds S Q E → ds.length = 3 := fun _ _ _ _ ⟨_, _, _, _, e, _⟩ => by rw [e]; rfl

def atSt (A R : List Int) (p : Nat) : Int := if p < A.length then A.getD p 0 else R.getD ((p - A.length) % R.length) 0
def sp_Stair_at : SpD := fun ds S Q E => ∃ (A R : List Int) (p : Int), ds = [stD A R, .int p] ∧ 1 ≤ R.length ∧ R.length ≤ 1000 ∧ A.length ≤ 1000 ∧ (p < 0 → E ⟨"NoPlace", ["many", "place"], [.non, .int p]⟩ S) ∧ (0 ≤ p → Q (.int (atSt A R p.toNat)) S)
theorem len_Stair_at : ∀ ds S Q E, sp_Stair_at ds S Q E → ds.length = 2 := fun _ _ _ _ ⟨_, _, _, e, _⟩ => by rw [e]; rfl
theorem at_ints {A : List Int} {i : Nat} (h : i < A.length) : atI (A.map D.int) (i : Int) = some (.int (A.getD i 0)) := by
  refine atI_nat (j := i) ?_
  rw [List.getElem?_map, List.getD_eq_getElem?_getD, List.getElem?_eq_getElem h]
  rfl
theorem fld_a {A R : List Int} {S : Sd} {Q : DK} {to : TED} {σ : Si} (h : ∀ P : DK, P (stD A R) S → to σ S P) (q : Q (ringD A) S) : dFld "Stair" "held_ahead" to σ S Q := h _ ⟨_, _, _, rfl, rfl, q⟩
theorem fld_r {A R : List Int} {S : Sd} {Q : DK} {to : TED} {σ : Si} (h : ∀ P : DK, P (stD A R) S → to σ S P) (q : Q (ringD R) S) : dFld "Stair" "held_ring" to σ S Q := h _ ⟨_, _, _, rfl, rfl, q⟩

/-- the first numbers of a stair -/
def rwA (A R : List Int) (n : Nat) : List Int := (List.range n).map (atSt A R)
def sp_Stair_fraction : SpD := fun ds S Q _ => ∃ (A R : List Int) (n : Nat), ds = [stD A R, .int n] ∧ 1 ≤ R.length ∧ R.length ≤ 1000 ∧ A.length ≤ 1000 ∧ (∀ a ∈ A, a.natAbs + 1 ≤ 2 ^ 20) ∧ (∀ a ∈ R, a.natAbs + 1 ≤ 2 ^ 20) ∧ n ≤ 100 ∧ Q (.tup [.int (t4L (rwA A R n)).p, .int (t4L (rwA A R n)).r]) S
theorem len_Stair_fraction : ∀ ds S Q E, sp_Stair_fraction ds S Q E → ds.length = 2 := fun _ _ _ _ ⟨_, _, _, e, _⟩ => by rw [e]; rfl

def sp_law_urn : SpD := fun ds S Q _ => ∃ (ns : List Int) (at_ : Int), ds = [.lst (ns.map D.int), .int at_] ∧ 0 ≤ at_ ∧ at_ < 100 ∧ ∀ u S', S u = none → Urn S' u 0 → Oth S S' u → Q (.obj u) S'
theorem len_law_urn : ∀ ds S Q E, sp_law_urn ds S Q E → ds.length = 2 := fun _ _ _ _ ⟨_, _, e, _⟩ => by rw [e]; rfl

def sp_law_draw : SpD := fun ds S Q _ => ∃ u w B, ds = [.obj u, .int w] ∧ Urn S u B ∧ B ≤ 2 ^ 100 ∧ 0 < w ∧ w < 2 ^ 1000 ∧ ∀ n S', 0 ≤ n → n < w → Urn S' u (B + 1) → Oth S S' u → Q (.int n) S'
theorem len_law_draw : ∀ ds S Q E, sp_law_draw ds S Q E → ds.length = 2 := fun _ _ _ _ ⟨_, _, _, e, _⟩ => by rw [e]; rfl

def sp_law_whole : SpD := fun ds S Q _ => ∃ d, ds = [d] ∧ isData d = true ∧ Q (.bl (isWh d)) S
theorem len_law_whole : ∀ ds S Q E, sp_law_whole ds S Q E → ds.length = 1 := fun _ _ _ _ ⟨_, e, _⟩ => by rw [e]; rfl

def sp_law_shared : SpD := fun ds S Q _ => ∃ a b : Int, ds = [.int a, .int b] ∧ Q (.int (Int.gcd a b : Nat)) S
theorem len_law_shared : ∀ ds S Q E, sp_law_shared ds S Q E → ds.length = 2 := fun _ _ _ _ ⟨_, _, e, _⟩ => by rw [e]; rfl

def sp_law_low : SpD := fun ds S Q _ => ∃ a b : Int, ds = [.int a, .int b] ∧ Int.gcd a b = 1 ∧ Q (.tup [.int a, .int b]) S
theorem len_law_low : ∀ ds S Q E, sp_law_low ds S Q E → ds.length = 2 := fun _ _ _ _ ⟨_, _, e, _⟩ => by rw [e]; rfl

def sp_law_is_fraction : SpD := fun ds S Q _ => ∃ a b : Int, ds = [.tup [.int a, .int b]] ∧ 1 ≤ b ∧ Int.gcd a b = 1 ∧ Q (.bl true) S
theorem len_law_is_fraction : ∀ ds S Q E, sp_law_is_fraction ds S Q E → ds.length = 1 := fun _ _ _ _ ⟨_, _, e, _⟩ => by rw [e]; rfl

def sp_law_sign : SpD := fun ds S Q _ => ∃ T O q B : Int, ds = [ptD T O q B] ∧ T.natAbs < 2 ^ 5000 ∧ O.natAbs < 2 ^ 5000 ∧ q.natAbs < 2 ^ 5000 ∧ Q (.int (sgI (rtF T O q))) S
theorem len_law_sign : ∀ ds S Q E, sp_law_sign ds S Q E → ds.length = 1 := fun _ _ _ _ ⟨_, _, _, _, e, _⟩ => by rw [e]; rfl

def sp_law_below : SpD := fun ds S Q _ => ∃ p b T O q B : Int, ds = [.tup [.int p, .int 0, .int 2, .int b], ptD T O q B] ∧ p.natAbs < 2 ^ 2010 ∧ b.natAbs < 2 ^ 2010 ∧ T.natAbs < 2 ^ 2500 ∧ O.natAbs < 2 ^ 2500 ∧ q.natAbs < 2 ^ 2500 ∧ B.natAbs < 2 ^ 2500 ∧ Q (.bl (decide (0 < sgI (rtF (T * b - p * B) (O * b) q)))) S
theorem len_law_below : ∀ ds S Q E, sp_law_below ds S Q E → ds.length = 2 := fun _ _ _ _ ⟨_, _, _, _, _, _, e, _⟩ => by rw [e]; rfl

def sp_law_ring : SpD := fun ds S Q _ => ∃ (u : Addr) (B : Int), ds = [.obj u, .int 40] ∧ Urn S u B ∧ B ≤ 2 ^ 97 ∧ ∀ (L : List Int) S', RowI L → Urn S' u (B + 100) → Oth S S' u → Q (ringD L) S'
theorem len_law_ring : ∀ ds S Q E, sp_law_ring ds S Q E → ds.length = 2 := fun _ _ _ _ ⟨_, _, e, _⟩ => by rw [e]; rfl

def sp_law_ring_table : SpD := fun ds S Q _ => ∃ (L : List Int) (c : Nat), ds = [ringD L] ∧ (∀ a ∈ L, a.natAbs + 1 ≤ 2 ^ c) ∧ c ≤ 100 ∧ L.length ≤ 100 ∧ Q (.tup [.int (t4L L).p, .int (t4L L).q, .int (t4L L).r, .int (t4L L).s]) S
theorem len_law_ring_table : ∀ ds S Q E, sp_law_ring_table ds S Q E → ds.length = 1 := fun _ _ _ _ ⟨_, _, e, _⟩ => by rw [e]; rfl

def sp_law_ahead : SpD := fun ds S Q _ => ∃ (u : Addr) (B : Int), ds = [.obj u, .int 20] ∧ Urn S u B ∧ B ≤ 2 ^ 98 ∧
  ∀ (A : List Int) S', A.length ≤ 20 → (∀ a ∈ A, a.natAbs ≤ 999999) → (∀ a ∈ A.tail, 1 ≤ a) → Urn S' u (B + 100) → Ext (del S u) S' → Q (ringD A) S'
theorem len_law_ahead : ∀ ds S Q E, sp_law_ahead ds S Q E → ds.length = 2 := fun _ _ _ _ ⟨_, _, e, _⟩ => by rw [e]; rfl

def sp_law_number : SpD := fun ds S Q _ => ∃ A R : List Int, ds = [ringD A, ringD R] ∧ RowB A R ∧ Q (ptD (lnS A R * lnN A R) (lnS A R * lnO A R) (upN (t4L R)) (lnS A R * lnU A R)) S
theorem len_law_number : ∀ ds S Q E, sp_law_number ds S Q E → ds.length = 2 := fun _ _ _ _ ⟨_, _, e, _⟩ => by rw [e]; rfl

def sp_law_fraction : SpD := fun ds S Q _ => ∃ L : List Int, ds = [ringD L] ∧ L ≠ [] ∧ (∀ a ∈ L.tail, 1 ≤ a) ∧ (∀ a ∈ L, a.natAbs + 1 ≤ 2 ^ 20) ∧ L.length ≤ 100 ∧ Q (.tup [.int (t4L L).p, .int (t4L L).r]) S
theorem len_law_fraction : ∀ ds S Q E, sp_law_fraction ds S Q E → ds.length = 1 := fun _ _ _ _ ⟨_, e, _⟩ => by rw [e]; rfl

def sp_law_fractions_right : SpD := fun ds S Q _ => ∃ (u : Addr) (B : Int) (A R : List Int), ds = [.obj u, stF (fewest A R), ringD A, ringD R] ∧ RowB A R ∧ (∀ a ∈ A.tail, 1 ≤ a) ∧ Urn S u B ∧ B ≤ 2 ^ 96 ∧ ∀ S', Urn S' u (B + 10) → Oth S S' u → Q (.bl true) S'
theorem len_law_fractions_right : ∀ ds S Q E, sp_law_fractions_right ds S Q E → ds.length = 4 := fun _ _ _ _ ⟨_, _, _, _, e, _⟩ => by rw [e]; rfl

def sp_law_form_right : SpD := fun ds S Q _ => ∃ L : List Int, ds = [ringD L] ∧ RowI L ∧ Q (.bl true) S
theorem len_law_form_right : ∀ ds S Q E, sp_law_form_right ds S Q E → ds.length = 1 := fun _ _ _ _ ⟨_, e, _⟩ => by rw [e]; rfl

def sp_law_no_ring : SpD := fun ds S Q _ => ∃ (u : Addr) (B : Int) (L : List Int), ds = [.obj u, ringD L] ∧ RowI L ∧ Urn S u B ∧ B ≤ 2 ^ 96 ∧ ∀ d S', isRingD d = false → sm 30 d = true → Urn S' u (B + 10) → Oth S S' u → Q d S'
theorem len_law_no_ring : ∀ ds S Q E, sp_law_no_ring ds S Q E → ds.length = 2 := fun _ _ _ _ ⟨_, _, _, e, _⟩ => by rw [e]; rfl
theorem ring_not {xs : List D} (h : ∃ d ∈ xs, inD d = false) : isRingD (.tup xs) = false := by
  obtain ⟨d, hd, e⟩ := h
  show (decide (1 ≤ xs.length ∧ xs.length ≤ 40) && xs.all inD) = false
  have : xs.all inD = false := List.all_eq_false.mpr ⟨d, hd, by rw [e]; decide⟩
  rw [this, Bool.and_false]
theorem ring_long {xs : List D} (h : 40 < xs.length) : isRingD (.tup xs) = false := by
  show (decide (1 ≤ xs.length ∧ xs.length ≤ 40) && xs.all inD) = false
  rw [decide_eq_false (by omega), Bool.false_and]
def badL : List D := [.non, .bl true, .bl false, .int 0, .int (-1), .int 1000000, .str (Str.ofString "1"), .tup [.int 1], .tup [], .lst []]
theorem bad_all : ∀ d ∈ badL, inD d = false ∧ sm 30 d = true := by decide +kernel

/-! readings, printed by gen.py -/
def rsX : List Str := ["NoPlace", "NoRing", "NoStair"]
abbrev N_is_whole : List Str := ["thing"]
def t_is_whole (Ed : XKD) : TSD :=
  (dRet (dAndV (dCB rdIsi (dCons (dVar 0) (dCons (dC (.ty "int")) dNil))) (dNotV (dCB rdIsi (dCons (dVar 0) (dCons (dC (.ty "bool")) dNil))))))
theorem st_is_whole (a0 : D) : startD N_is_whole [a0] = [some a0] := rfl
abbrev N_shared_by : List Str := ["one", "other"]
def t_shared_by (Ed : XKD) : TSD :=
  (dSeq (dPar 0 1 (dCons (dCB rdAbs (dCons (dVar 0) dNil)) (dCons (dCB rdAbs (dCons (dVar 1) dNil)) dNil)))
  (dSeq (dWhile (dTest (dOp rdGt (dVar 1) (dC (.int 0))))
  (dPar 0 1 (dCons (dVar 1) (dCons (dOp rdMod (dVar 0) (dVar 1)) dNil))))
  (dRet (dVar 0))))
theorem st_shared_by (a0 a1 : D) : startD N_shared_by [a0, a1] = [some a0, some a1] := rfl
abbrev N_is_within : List Str := ["thing", "least", "most"]
def t_is_within (Ed : XKD) : TSD :=
  (dRet (dAndV (dCall sp_is_whole [] (wd Ed) (dCons (dVar 0) dNil)) (dChain rdLe rdLe (dVar 1) (dVar 0) (dVar 2))))
theorem st_is_within (a0 a1 a2 : D) : startD N_is_within [a0, a1, a2] = [some a0, some a1, some a2] := rfl
abbrev N_is_row : List Str := ["thing", "least", "most", "number"]
def t_is_row (Ed : XKD) : TSD :=
  (dSeq (dIfS (dOr (dNot (dTest (dCB rdIsi (dCons (dVar 0) (dCons (dC (.ty "tuple")) dNil))))) (dNot (dTest (dChain rdLe rdLe (dVar 1) (dCB rdLen (dCons (dVar 0) dNil)) (dVar 2))))) (dRet (dC (.bl false))) dNext)
  (dRet (dCB rdAll (dCons (dComp (dItr (dVar 0)) (dName 3) dYes (dCall sp_is_within [] wd0 (dCons (dVar 3) (dCons (dC (.int 1)) (dCons (dC k_MOST_NUMBER) dNil)))) [3]) dNil))))
theorem st_is_row (a0 a1 a2 : D) : startD N_is_row [a0, a1, a2] = [some a0, some a1, some a2, none] := rfl
abbrev N_is_number_ring : List Str := ["thing"]
def t_is_number_ring (Ed : XKD) : TSD :=
  (dRet (dCall sp_is_row [] (wd Ed) (dCons (dVar 0) (dCons (dC (.int 1)) (dCons (dC k_MOST_RING) dNil)))))
theorem st_is_number_ring (a0 : D) : startD N_is_number_ring [a0] = [some a0] := rfl
abbrev N_is_ahead : List Str := ["thing"]
def t_is_ahead (Ed : XKD) : TSD :=
  (dSeq (dIfS (dOr (dNot (dTest (dCB rdIsi (dCons (dVar 0) (dCons (dC (.ty "tuple")) dNil))))) (dTest (dOp rdEq (dCB rdLen (dCons (dVar 0) dNil)) (dC (.int 0))))) (dRet (dOp rdEq (dVar 0) (dTup dNil))) dNext)
  (dSeq (dIfS (dNot (dTest (dCall sp_is_within [] (wd Ed) (dCons (dOp rdIx (dVar 0) (dC (.int 0))) (dCons (dOp rdSub (dC (.int 0)) (dC k_MOST_NUMBER)) (dCons (dC k_MOST_NUMBER) dNil)))))) (dRet (dC (.bl false))) dNext)
  (dRet (dCall sp_is_row [] (wd Ed) (dCons (dSl (dVar 0) (dPart (dC (.int 1))) dNoPart) (dCons (dC (.int 0)) (dCons (dOp rdSub (dC k_MOST_AHEAD) (dC (.int 1))) dNil)))))))
theorem st_is_ahead (a0 : D) : startD N_is_ahead [a0] = [some a0] := rfl
abbrev N_look_ring : List Str := ["ring"]
def t_look_ring (Ed : XKD) : TSD :=
  (dIfS (dNot (dTest (dCall sp_is_number_ring [] (wd Ed) (dCons (dVar 0) dNil)))) (dRaise (wd Ed) ⟨"NoRing", [], []⟩) dNext)
theorem st_look_ring (a0 : D) : startD N_look_ring [a0] = [some a0] := rfl
abbrev N_shortest_part : List Str := ["parts", "many", "size"]
def t_shortest_part (Ed : XKD) : TSD :=
  (dSeq (dSet 1 (dCB rdLen (dCons (dVar 0) dNil)))
  (dSeq (dFor (dRng2 (dCons (dC (.int 1)) (dCons (dVar 1) dNil))) (dName 2)
  (dIfS (dAnd (dTest (dOp rdEq (dOp rdMod (dVar 1) (dVar 2)) (dC (.int 0)))) (dTest (dOp rdEq (dOp rdMulA (dSl (dVar 0) dNoPart (dPart (dVar 2))) (dOp rdFdiv (dVar 1) (dVar 2))) (dVar 0)))) (dRet (dSl (dVar 0) dNoPart (dPart (dVar 2)))) dNext))
  (dRet (dVar 0))))
theorem st_shortest_part (a0 : D) : startD N_shortest_part [a0] = [some a0, none, none] := rfl
abbrev N_table_of_row : List Str := ["row", "p", "q", "r", "s", "number"]
def t_table_of_row (Ed : XKD) : TSD :=
  (dSeq (dAsg (dTup (dCons (dC (.int 1)) (dCons (dC (.int 0)) (dCons (dC (.int 0)) (dCons (dC (.int 1)) dNil))))) (dTupG 4 (dGCons (dName 1) (dGCons (dName 2) (dGCons (dName 3) (dGCons (dName 4) dGNil))))))
  (dSeq (dFor (dItr (dVar 0)) (dName 5)
  (dSeq (dPar 1 2 (dCons (dOp rdAdd (dOp rdMulA (dVar 1) (dVar 5)) (dVar 2)) (dCons (dVar 1) dNil)))
  (dPar 3 4 (dCons (dOp rdAdd (dOp rdMulA (dVar 3) (dVar 5)) (dVar 4)) (dCons (dVar 3) dNil)))))
  (dRet (dTup (dCons (dVar 1) (dCons (dVar 2) (dCons (dVar 3) (dCons (dVar 4) dNil))))))))
theorem st_table_of_row (a0 : D) : startD N_table_of_row [a0] = [some a0, none, none, none, none, none] := rfl
abbrev N_form_of_row : List Str := ["row", "p", "q", "r", "s", "both"]
def t_form_of_row (Ed : XKD) : TSD :=
  (dSeq (dAsg (dCall sp_table_of_row [] (wd Ed) (dCons (dVar 0) dNil)) (dTupG 4 (dGCons (dName 1) (dGCons (dName 2) (dGCons (dName 3) (dGCons (dName 4) dGNil))))))
  (dSeq (dSet 5 (dCall sp_shared_by [] (wd Ed) (dCons (dCall sp_shared_by [] (wd Ed) (dCons (dVar 3) (dCons (dOp rdSub (dVar 4) (dVar 1)) dNil))) (dCons (dVar 2) dNil))))
  (dRet (dTup (dCons (dOp rdFdiv (dVar 3) (dVar 5)) (dCons (dOp rdFdiv (dOp rdSub (dVar 4) (dVar 1)) (dVar 5)) (dCons (dOp rdFdiv (dOp rdSub (dC (.int 0)) (dVar 2)) (dVar 5)) dNil)))))))
theorem st_form_of_row (a0 : D) : startD N_form_of_row [a0] = [some a0, none, none, none, none, none] := rfl
abbrev N_ring_form : List Str := ["ring"]
def t_ring_form (Ed : XKD) : TSD :=
  (dSeq (dDrop (dCall sp_look_ring [] (wd Ed) (dCons (dVar 0) dNil)))
  (dRet (dCall sp_form_of_row [] (wd Ed) (dCons (dVar 0) dNil))))
theorem st_ring_form (a0 : D) : startD N_ring_form [a0] = [some a0] := rfl
abbrev N_Stair_keep_rows : List Str := ["self", "ahead", "ring"]
def t_Stair_keep_rows (Ed : XKD) : TSD :=
  (dSeq (dSet 2 (dCall sp_shortest_part [] (wd Ed) (dCons (dVar 2) dNil)))
  (dSeq (dWhile (dAnd (dTest (dOp rdNe (dVar 1) (dTup dNil))) (dTest (dOp rdEq (dOp rdIx (dVar 1) (dUn rdNeg (dC (.int 1)))) (dOp rdIx (dVar 2) (dUn rdNeg (dC (.int 1)))))))
  (dSeq (dSet 1 (dSl (dVar 1) dNoPart (dPart (dUn rdNeg (dC (.int 1))))))
  (dSet 2 (dOp rdAdd (dSl (dVar 2) (dPart (dUn rdNeg (dC (.int 1)))) dNoPart) (dSl (dVar 2) dNoPart (dPart (dUn rdNeg (dC (.int 1)))))))))
  (dSeq (dPutB "Stair" "held_ahead" (dVar 0) (dVar 1))
  (dPutB "Stair" "held_ring" (dVar 0) (dVar 2)))))
theorem st_Stair_keep_rows (a0 a1 a2 : D) : startD N_Stair_keep_rows [a0, a1, a2] = [some a0, some a1, some a2] := rfl
abbrev N_Stair___init__ : List Str := ["self", "ahead", "ring"]
def t_Stair___init__ (Ed : XKD) : TSD :=
  (dSeq (dIfS (dOr (dNot (dTest (dCall sp_is_ahead [] (wd Ed) (dCons (dVar 1) dNil)))) (dNot (dTest (dCall sp_is_number_ring [] (wd Ed) (dCons (dVar 2) dNil))))) (dRaise (wd Ed) ⟨"NoStair", [], []⟩) dNext)
  (dDrop (dMethO "Stair" "keep_rows" sp_Stair_keep_rows [] (wd Ed) (dVar 0) (dCons (dVar 1) (dCons (dVar 2) dNil)))))
theorem st_Stair___init__ (a0 a1 a2 : D) : startD N_Stair___init__ [a0, a1, a2] = [some a0, some a1, some a2] := rfl
abbrev N_Stair_at : List Str := ["self", "place"]
def t_Stair_at (Ed : XKD) : TSD :=
  (dSeq (dIfS (dTest (dOp rdLt (dVar 1) (dC (.int 0)))) (dRaiseF2 (wd Ed) "NoPlace" "place" "many" (dCons (dVar 1) (dCons (dC .non) dNil))) dNext)
  (dSeq (dIfS (dTest (dOp rdLt (dVar 1) (dCB rdLen (dCons (dFld "Stair" "held_ahead" (dVar 0)) dNil)))) (dRet (dOp rdIx (dFld "Stair" "held_ahead" (dVar 0)) (dVar 1))) dNext)
  (dRet (dOp rdIx (dFld "Stair" "held_ring" (dVar 0)) (dOp rdMod (dOp rdSub (dVar 1) (dCB rdLen (dCons (dFld "Stair" "held_ahead" (dVar 0)) dNil))) (dCB rdLen (dCons (dFld "Stair" "held_ring" (dVar 0)) dNil)))))))
theorem st_Stair_at (a0 a1 : D) : startD N_Stair_at [a0, a1] = [some a0, some a1] := rfl
abbrev N_Stair_fraction : List Str := ["self", "many", "p", "q", "r", "s", "place"]
def t_Stair_fraction (Ed : XKD) : TSD :=
  (dSeq (dAsg (dCall sp_table_of_row [] (wd Ed) (dCons (dComp (dRng1 (dCons (dVar 1) dNil)) (dName 6) dYes (dMeth "Stair" "at" sp_Stair_at [] wd0 (dVar 0) (dCons (dVar 6) dNil)) [6]) dNil)) (dTupG 4 (dGCons (dName 2) (dGCons (dName 3) (dGCons (dName 4) (dGCons (dName 5) dGNil))))))
  (dRet (dTup (dCons (dVar 2) (dCons (dVar 4) dNil)))))
theorem st_Stair_fraction (a0 a1 : D) : startD N_Stair_fraction [a0, a1] = [some a0, some a1, none, none, none, none, none] := rfl
abbrev N_law_urn : List Str := ["_law_script", "_law_at", "_law_cell", "_law_great"]
def t_law_urn (Ed : XKD) : TSD :=
  (dSeq (dSet 2 (dC (.int 0)))
  (dSeq (dIfS (dTest (dOp rdLt (dVar 1) (dCB rdLen (dCons (dVar 0) dNil)))) (dSet 2 (dOp rdIx (dVar 0) (dVar 1))) dNext)
  (dSeq (dSet 3 (dCB rdAbs (dCons (dVar 2) dNil)))
  (dSeq (dIfS (dTest (dOp rdLt (dVar 3) (dOp rdPow (dC (.int 10)) (dC (.int 18))))) (dSet 3 (dC (.int 0))) dNext)
  (dRet (dLstO (dCons (dVar 3) (dCons (dOp rdAdd (dOp rdAdd (dOp rdAdd (dOp rdMod (dVar 2) (dC (.int 1000000000000000003))) (dOp rdMulA (dOp rdMulA (dC (.int 97)) (dVar 1)) (dVar 1))) (dOp rdMulA (dC (.int 31)) (dVar 1))) (dC (.int 1))) (dCons (dC (.int 0)) dNil)))))))))
theorem st_law_urn (a0 a1 : D) : startD N_law_urn [a0, a1] = [some a0, some a1, none, none] := rfl
abbrev N_law_draw : List Str := ["_law_urn_here", "_law_wide", "_law_digit", "_law_primes", "_law_step", "_law_base", "_law_mixed"]
def t_law_draw (Ed : XKD) : TSD :=
  (dSeq (dIfS (dTest (dOp rdGt (dOp rdIx (dVar 0) (dC (.int 0))) (dC (.int 0)))) (dSeq (dSet 2 (dOp rdMod (dOp rdIx (dVar 0) (dC (.int 0))) (dVar 1)))
  (dSeq (dStore (dVar 0) (dC (.int 0)) (dOp rdFdiv (dOp rdIx (dVar 0) (dC (.int 0))) (dVar 1)))
  (dRet (dVar 2)))) dNext)
  (dSeq (dSet 3 (dTup (dCons (dC (.int 2147483647)) (dCons (dC (.int 2147483629)) (dCons (dC (.int 2147483587)) (dCons (dC (.int 2147483579)) (dCons (dC (.int 2147483563)) (dCons (dC (.int 2147483549)) (dCons (dC (.int 2147483543)) dNil)))))))))
  (dSeq (dStore (dVar 0) (dC (.int 2)) (dOp rdAdd (dOp rdIx (dVar 0) (dC (.int 2))) (dC (.int 1))))
  (dSeq (dSet 4 (dOp rdIx (dVar 0) (dC (.int 2))))
  (dSeq (dSet 5 (dOp rdAdd (dOp rdAdd (dOp rdMulA (dOp rdIx (dVar 0) (dC (.int 1))) (dOp rdAdd (dOp rdMulA (dC (.int 2)) (dVar 4)) (dC (.int 1)))) (dOp rdMulA (dOp rdMulA (dC (.int 6007)) (dVar 4)) (dVar 4))) (dC (.int 53))))
  (dSeq (dSet 6 (dOp rdMod (dOp rdPow (dVar 5) (dC (.int 3))) (dOp rdIx (dVar 3) (dOp rdMod (dVar 4) (dC (.int 7))))))
  (dRet (dOp rdMod (dOp rdFdiv (dOp rdMod (dOp rdMulA (dVar 6) (dOp rdAdd (dOp rdFdiv (dVar 6) (dC (.int 8191))) (dVar 4))) (dOp rdIx (dVar 3) (dOp rdMod (dOp rdAdd (dVar 4) (dC (.int 3))) (dC (.int 7))))) (dC (.int 16))) (dVar 1)))))))))
theorem st_law_draw (a0 a1 : D) : startD N_law_draw [a0, a1] = [some a0, some a1, none, none, none, none, none] := rfl
abbrev N_law_whole : List Str := ["_law_thing"]
def t_law_whole (Ed : XKD) : TSD :=
  (dRet (dAndV (dCB rdIsi (dCons (dVar 0) (dCons (dC (.ty "int")) dNil))) (dNotV (dCB rdIsi (dCons (dVar 0) (dCons (dC (.ty "bool")) dNil))))))
theorem st_law_whole (a0 : D) : startD N_law_whole [a0] = [some a0] := rfl
abbrev N_law_shared : List Str := ["_law_one", "_law_other"]
def t_law_shared (Ed : XKD) : TSD :=
  (dSeq (dPar 0 1 (dCons (dCB rdAbs (dCons (dVar 0) dNil)) (dCons (dCB rdAbs (dCons (dVar 1) dNil)) dNil)))
  (dSeq (dWhile (dTest (dOp rdGt (dVar 1) (dC (.int 0))))
  (dPar 0 1 (dCons (dVar 1) (dCons (dOp rdMod (dVar 0) (dVar 1)) dNil))))
  (dRet (dVar 0))))
theorem st_law_shared (a0 a1 : D) : startD N_law_shared [a0, a1] = [some a0, some a1] := rfl
abbrev N_law_low : List Str := ["_law_upper", "_law_lower", "_law_both"]
def t_law_low (Ed : XKD) : TSD :=
  (dSeq (dSet 2 (dCall sp_law_shared [] (wd Ed) (dCons (dVar 0) (dCons (dVar 1) dNil))))
  (dRet (dTup (dCons (dOp rdFdiv (dVar 0) (dVar 2)) (dCons (dOp rdFdiv (dVar 1) (dVar 2)) dNil)))))
theorem st_law_low (a0 a1 : D) : startD N_law_low [a0, a1] = [some a0, some a1, none] := rfl
abbrev N_law_is_fraction : List Str := ["_law_thing"]
def t_law_is_fraction (Ed : XKD) : TSD :=
  (dSeq (dIfS (dOr (dNot (dTest (dCB rdIsi (dCons (dVar 0) (dCons (dC (.ty "tuple")) dNil))))) (dOr (dTest (dOp rdNe (dCB rdLen (dCons (dVar 0) dNil)) (dC (.int 2)))) (dOr (dNot (dTest (dCall sp_law_whole [] (wd Ed) (dCons (dOp rdIx (dVar 0) (dC (.int 0))) dNil)))) (dNot (dTest (dCall sp_law_whole [] (wd Ed) (dCons (dOp rdIx (dVar 0) (dC (.int 1))) dNil))))))) (dRet (dC (.bl false))) dNext)
  (dRet (dAndV (dOp rdGt (dOp rdIx (dVar 0) (dC (.int 1))) (dC (.int 0))) (dOp rdEq (dCall sp_law_shared [] (wd Ed) (dCons (dOp rdIx (dVar 0) (dC (.int 0))) (dCons (dOp rdIx (dVar 0) (dC (.int 1))) dNil))) (dC (.int 1))))))
theorem st_law_is_fraction (a0 : D) : startD N_law_is_fraction [a0] = [some a0] := rfl
abbrev N_law_sign : List Str := ["_law_parts", "_law_both"]
def t_law_sign (Ed : XKD) : TSD :=
  (dSeq (dSet 1 (dOp rdMulA (dOp rdIx (dVar 0) (dC (.int 0))) (dCB rdAbs (dCons (dOp rdIx (dVar 0) (dC (.int 0))) dNil))))
  (dSeq (dSet 1 (dOp rdAdd (dVar 1) (dOp rdMulA (dOp rdMulA (dOp rdIx (dVar 0) (dC (.int 2))) (dOp rdIx (dVar 0) (dC (.int 1)))) (dCB rdAbs (dCons (dOp rdIx (dVar 0) (dC (.int 1))) dNil)))))
  (dRet (dOp rdSub (dCB rdInt (dCons (dOp rdGt (dVar 1) (dC (.int 0))) dNil)) (dCB rdInt (dCons (dOp rdLt (dVar 1) (dC (.int 0))) dNil))))))
theorem st_law_sign (a0 : D) : startD N_law_sign [a0] = [some a0, none] := rfl
abbrev N_law_below : List Str := ["_law_one", "_law_other", "_law_first", "_law_second", "_law_upper", "_law_here", "_law_there", "_law_left"]
def t_law_below (Ed : XKD) : TSD :=
  (dSeq (dPar 2 3 (dCons (dOp rdMulA (dOp rdIx (dVar 1) (dC (.int 1))) (dOp rdIx (dVar 0) (dC (.int 3)))) (dCons (dOp rdSub (dC (.int 0)) (dOp rdMulA (dOp rdIx (dVar 0) (dC (.int 1))) (dOp rdIx (dVar 1) (dC (.int 3))))) dNil)))
  (dSeq (dSet 4 (dOp rdSub (dOp rdMulA (dOp rdIx (dVar 1) (dC (.int 0))) (dOp rdIx (dVar 0) (dC (.int 3)))) (dOp rdMulA (dOp rdIx (dVar 0) (dC (.int 0))) (dOp rdIx (dVar 1) (dC (.int 3))))))
  (dSeq (dSet 5 (dCall sp_law_sign [] (wd Ed) (dCons (dTup (dCons (dVar 4) (dCons (dVar 2) (dCons (dOp rdIx (dVar 1) (dC (.int 2))) (dCons (dC (.int 1)) dNil))))) dNil)))
  (dSeq (dSet 6 (dOp rdSub (dCB rdInt (dCons (dOp rdGt (dVar 3) (dC (.int 0))) dNil)) (dCB rdInt (dCons (dOp rdLt (dVar 3) (dC (.int 0))) dNil))))
  (dSeq (dIfS (dTest (dOp rdGe (dOp rdMulA (dVar 5) (dVar 6)) (dC (.int 0)))) (dRet (dOp rdGt (dOp rdAdd (dVar 5) (dVar 6)) (dC (.int 0)))) dNext)
  (dSeq (dSet 7 (dOp rdAdd (dOp rdMulA (dVar 4) (dVar 4)) (dOp rdMulA (dOp rdMulA (dVar 2) (dVar 2)) (dOp rdIx (dVar 1) (dC (.int 2))))))
  (dSeq (dSet 7 (dOp rdSub (dVar 7) (dOp rdMulA (dOp rdMulA (dVar 3) (dVar 3)) (dOp rdIx (dVar 0) (dC (.int 2))))))
  (dRet (dOp rdGt (dOp rdMulA (dCall sp_law_sign [] (wd Ed) (dCons (dTup (dCons (dVar 7) (dCons (dOp rdMulA (dOp rdMulA (dC (.int 2)) (dVar 4)) (dVar 2)) (dCons (dOp rdIx (dVar 1) (dC (.int 2))) (dCons (dC (.int 1)) dNil))))) dNil)) (dVar 5)) (dC (.int 0)))))))))))
theorem st_law_below (a0 a1 : D) : startD N_law_below [a0, a1] = [some a0, some a1, none, none, none, none, none, none] := rfl
abbrev N_law_which : List Str := ["_law_e", "_law_some", "_law_names", "_law_right", "_law_name", "_law_ours", "_law_theirs"]
def t_law_which (a : Addr) (od : Option Addr) (xc : Str) : TSD :=
  (dSeq (dSet 1 (dLst (dCons (dTup (dCons (dC (.str "NoNumber")) (dCons (dIsX 0 a od (excIs xc "NoNumber")) (dCons (dIsX 0 a od (excIs xc "ArithmeticError")) dNil)))) (dCons (dTup (dCons (dC (.str "NoForm")) (dCons (dIsX 0 a od (excIs xc "NoForm")) (dCons (dIsX 0 a od (excIs xc "ArithmeticError")) dNil)))) (dCons (dTup (dCons (dC (.str "OverNought")) (dCons (dIsX 0 a od (excIs xc "OverNought")) (dCons (dIsX 0 a od (excIs xc "ZeroDivisionError")) dNil)))) (dCons (dTup (dCons (dC (.str "TooMany")) (dCons (dIsX 0 a od (excIs xc "TooMany")) (dCons (dIsX 0 a od (excIs xc "OverflowError")) dNil)))) (dCons (dTup (dCons (dC (.str "NoKin")) (dCons (dIsX 0 a od (excIs xc "NoKin")) (dCons (dIsX 0 a od (excIs xc "TypeError")) dNil)))) (dCons (dTup (dCons (dC (.str "NoPlace")) (dCons (dIsX 0 a od (excIs xc "NoPlace")) (dCons (dIsX 0 a od (excIs xc "IndexError")) dNil)))) (dCons (dTup (dCons (dC (.str "NoName")) (dCons (dIsX 0 a od (excIs xc "NoName")) (dCons (dIsX 0 a od (excIs xc "KeyError")) dNil)))) (dCons (dTup (dCons (dC (.str "NoTurn")) (dCons (dIsX 0 a od (excIs xc "NoTurn")) (dCons (dIsX 0 a od (excIs xc "LookupError")) dNil)))) (dCons (dTup (dCons (dC (.str "NoRow")) (dCons (dIsX 0 a od (excIs xc "NoRow")) (dCons (dIsX 0 a od (excIs xc "RuntimeError")) dNil)))) (dCons (dTup (dCons (dC (.str "NoStair")) (dCons (dIsX 0 a od (excIs xc "NoStair")) (dCons (dIsX 0 a od (excIs xc "ValueError")) dNil)))) (dCons (dTup (dCons (dC (.str "NoRing")) (dCons (dIsX 0 a od (excIs xc "NoRing")) (dCons (dIsX 0 a od (excIs xc "ValueError")) dNil)))) (dCons (dTup (dCons (dC (.str "NoWord")) (dCons (dIsX 0 a od (excIs xc "NoWord")) (dCons (dIsX 0 a od (excIs xc "ValueError")) dNil)))) (dCons (dTup (dCons (dC (.str "NoStep")) (dCons (dIsX 0 a od (excIs xc "NoStep")) (dCons (dIsX 0 a od (excIs xc "ValueError")) dNil)))) (dCons (dTup (dCons (dC (.str "Uneven")) (dCons (dIsX 0 a od (excIs xc "Uneven")) (dCons (dIsX 0 a od (excIs xc "ValueError")) dNil)))) (dCons (dTup (dCons (dC (.str "NoWay")) (dCons (dIsX 0 a od (excIs xc "NoWay")) (dCons (dIsX 0 a od (excIs xc "ValueError")) dNil)))) (dCons (dTup (dCons (dC (.str "NoTable")) (dCons (dIsX 0 a od (excIs xc "NoTable")) (dCons (dIsX 0 a od (excIs xc "ValueError")) dNil)))) (dCons (dTup (dCons (dC (.str "NoTriple")) (dCons (dIsX 0 a od (excIs xc "NoTriple")) (dCons (dIsX 0 a od (excIs xc "ValueError")) dNil)))) dNil)))))))))))))))))))
  (dSeq (dSet 2 (dComp (dIter (dVar 1)) (dTupG 3 (dGCons (dName 4) (dGCons (dName 5) (dGCons (dName 6) dGNil)))) (dTest (dVar 5)) (dVar 4) [4, 5, 6]))
  (dSeq (dSet 3 (dComp (dIter (dVar 1)) (dTupG 3 (dGCons (dName 4) (dGCons (dName 5) (dGCons (dName 6) dGNil)))) (dAnd (dTest (dVar 5)) (dTest (dVar 6))) (dVar 4) [4, 5, 6]))
  (dSeq (dIfS (dAnd (dTest (dOp rdEq (dCB rdLen (dCons (dVar 2) dNil)) (dC (.int 1)))) (dTest (dOp rdEq (dVar 3) (dVar 2)))) (dRet (dOp rdIx (dVar 2) (dC (.int 0)))) dNext)
  (dRet (dC (.str "several")))))))
theorem st_law_which (a0 : D) : startD N_law_which [a0] = [some a0, none, none, none, none, none, none] := rfl
abbrev N_law_refused : List Str := ["_law_deed", "_law_e"]
abbrev N_law_ring : List Str := ["_law_urn_here", "_law_most", "_law_size", "_law_wide", "_law_k"]
def t_law_ring (Ed : XKD) : TSD :=
  (dSeq (dSet 2 (dOp rdIx (dLst (dCons (dC (.int 1)) (dCons (dC (.int 2)) (dCons (dC (.int 4)) (dCons (dC (.int 8)) (dCons (dC (.int 12)) (dCons (dC (.int 12)) (dCons (dC (.int 12)) (dCons (dVar 1) dNil))))))))) (dCall sp_law_draw [] (wd Ed) (dCons (dVar 0) (dCons (dC (.int 8)) dNil)))))
  (dSeq (dSet 3 (dOp rdIx (dLst (dCons (dC (.int 2)) (dCons (dC (.int 2)) (dCons (dC (.int 3)) (dCons (dC (.int 5)) (dCons (dC (.int 30)) (dCons (dC (.int 999999)) dNil))))))) (dCall sp_law_draw [] (wd Ed) (dCons (dVar 0) (dCons (dC (.int 6)) dNil)))))
  (dRet (dCB rdTupA (dCons (dComp (dRng1 (dCons (dOp rdAdd (dC (.int 1)) (dCall sp_law_draw [] (wd Ed) (dCons (dVar 0) (dCons (dVar 2) dNil)))) dNil)) (dName 4) dYes (dOp rdAdd (dC (.int 1)) (dCall sp_law_draw [] wd0 (dCons (dVar 0) (dCons (dVar 3) dNil)))) [4]) dNil)))))
theorem st_law_ring (a0 a1 : D) : startD N_law_ring [a0, a1] = [some a0, some a1, none, none, none] := rfl
abbrev N_law_ring_table : List Str := ["_law_row", "_law_p", "_law_q", "_law_r", "_law_s", "_law_one"]
def t_law_ring_table (Ed : XKD) : TSD :=
  (dSeq (dAsg (dTup (dCons (dC (.int 1)) (dCons (dC (.int 0)) (dCons (dC (.int 0)) (dCons (dC (.int 1)) dNil))))) (dTupG 4 (dGCons (dName 1) (dGCons (dName 2) (dGCons (dName 3) (dGCons (dName 4) dGNil))))))
  (dSeq (dFor (dItr (dVar 0)) (dName 5)
  (dSeq (dPar 1 2 (dCons (dOp rdAdd (dOp rdMulA (dVar 1) (dVar 5)) (dVar 2)) (dCons (dVar 1) dNil)))
  (dPar 3 4 (dCons (dOp rdAdd (dOp rdMulA (dVar 3) (dVar 5)) (dVar 4)) (dCons (dVar 3) dNil)))))
  (dRet (dTup (dCons (dVar 1) (dCons (dVar 2) (dCons (dVar 3) (dCons (dVar 4) dNil))))))))
theorem st_law_ring_table (a0 : D) : startD N_law_ring_table [a0] = [some a0, none, none, none, none, none] := rfl
abbrev N_law_ahead : List Str := ["_law_urn_here", "_law_most", "_law_wide", "_law_found", "_law_k"]
def t_law_ahead (Ed : XKD) : TSD :=
  (dSeq (dSet 2 (dOp rdIx (dLst (dCons (dC (.int 2)) (dCons (dC (.int 3)) (dCons (dC (.int 30)) (dCons (dC (.int 999999)) dNil))))) (dCall sp_law_draw [] (wd Ed) (dCons (dVar 0) (dCons (dC (.int 4)) dNil)))))
  (dSeq (dSet 3 (dCompO (dRng1 (dCons (dCall sp_law_draw [] (wd Ed) (dCons (dVar 0) (dCons (dOp rdIx (dLst (dCons (dC (.int 1)) (dCons (dC (.int 2)) (dCons (dC (.int 5)) (dCons (dOp rdAdd (dVar 1) (dC (.int 1))) dNil))))) (dCall sp_law_draw [] (wd Ed) (dCons (dVar 0) (dCons (dC (.int 4)) dNil)))) dNil))) dNil)) (dName 4) dYes (dOp rdAdd (dC (.int 1)) (dCall sp_law_draw [] wd0 (dCons (dVar 0) (dCons (dVar 2) dNil)))) [4]))
  (dSeq (dIfS (dAnd (dTest (dOp rdNeO (dVar 3) (dLst dNil))) (dTest (dOp rdEq (dCall sp_law_draw [] (wd Ed) (dCons (dVar 0) (dCons (dC (.int 2)) dNil))) (dC (.int 0))))) (dStore (dVar 3) (dC (.int 0)) (dOp rdSub (dCall sp_law_draw [] (wd Ed) (dCons (dVar 0) (dCons (dOp rdAdd (dOp rdMulA (dC (.int 2)) (dVar 2)) (dC (.int 1))) dNil))) (dVar 2))) dNext)
  (dRet (dCB rdTupA (dCons (dVar 3) dNil))))))
theorem st_law_ahead (a0 a1 : D) : startD N_law_ahead [a0, a1] = [some a0, some a1, none, none, none] := rfl
abbrev N_law_number : List Str := ["_law_ahead_here", "_law_ring_here", "_law_p", "_law_q", "_law_r", "_law_s", "_law_top", "_law_below_here", "_law_square", "_law_upper", "_law_lower", "_law_found", "_law_part"]
def t_law_number (Ed : XKD) : TSD :=
  (dSeq (dAsg (dCall sp_law_ring_table [] (wd Ed) (dCons (dVar 1) dNil)) (dTupG 4 (dGCons (dName 2) (dGCons (dName 3) (dGCons (dName 4) (dGCons (dName 5) dGNil))))))
  (dSeq (dPar 6 7 (dCons (dOp rdSub (dVar 2) (dVar 5)) (dCons (dOp rdMulA (dC (.int 2)) (dVar 4)) dNil)))
  (dSeq (dSet 8 (dOp rdAdd (dOp rdMulA (dVar 6) (dVar 6)) (dOp rdMulA (dOp rdMulA (dC (.int 4)) (dVar 3)) (dVar 4))))
  (dSeq (dAsg (dCall sp_law_ring_table [] (wd Ed) (dCons (dVar 0) dNil)) (dTupG 4 (dGCons (dName 2) (dGCons (dName 3) (dGCons (dName 4) (dGCons (dName 5) dGNil))))))
  (dSeq (dSet 9 (dOp rdAdd (dOp rdMulA (dVar 2) (dVar 6)) (dOp rdMulA (dVar 3) (dVar 7))))
  (dSeq (dSet 10 (dOp rdAdd (dOp rdMulA (dVar 4) (dVar 6)) (dOp rdMulA (dVar 5) (dVar 7))))
  (dSeq (dSet 11 (dLst (dCons (dOp rdSub (dOp rdMulA (dVar 9) (dVar 10)) (dOp rdMulA (dOp rdMulA (dVar 2) (dVar 4)) (dVar 8))) (dCons (dOp rdSub (dOp rdMulA (dVar 2) (dVar 10)) (dOp rdMulA (dVar 9) (dVar 4))) (dCons (dOp rdSub (dOp rdMulA (dVar 10) (dVar 10)) (dOp rdMulA (dOp rdMulA (dVar 4) (dVar 4)) (dVar 8))) dNil)))))
  (dSeq (dIfS (dTest (dOp rdLt (dOp rdIx (dVar 11) (dC (.int 2))) (dC (.int 0)))) (dSet 11 (dComp (dItr (dVar 11)) (dName 12) dYes (dOp rdSub (dC (.int 0)) (dVar 12)) [12])) dNext)
  (dRet (dTup (dCons (dOp rdIx (dVar 11) (dC (.int 0))) (dCons (dOp rdIx (dVar 11) (dC (.int 1))) (dCons (dVar 8) (dCons (dOp rdIx (dVar 11) (dC (.int 2))) dNil))))))))))))))
theorem st_law_number (a0 a1 : D) : startD N_law_number [a0, a1] = [some a0, some a1, none, none, none, none, none, none, none, none, none, none, none] := rfl
abbrev N_law_fraction : List Str := ["_law_row", "_law_top", "_law_bottom", "_law_number_here"]
def t_law_fraction (Ed : XKD) : TSD :=
  (dSeq (dPar 1 2 (dCons (dOp rdIx (dVar 0) (dUn rdNeg (dC (.int 1)))) (dCons (dC (.int 1)) dNil)))
  (dSeq (dFor (dItr (dBk (dVar 0))) (dName 3)
  (dPar 1 2 (dCons (dOp rdAdd (dOp rdMulA (dVar 3) (dVar 1)) (dVar 2)) (dCons (dVar 1) dNil))))
  (dRet (dCall sp_law_low [] (wd Ed) (dCons (dOp rdMulA (dVar 1) (dOp rdIx (dLst (dCons (dC (.int 1)) (dCons (dUn rdNeg (dC (.int 1))) dNil))) (dCB rdInt (dCons (dOp rdLt (dVar 2) (dC (.int 0))) dNil)))) (dCons (dCB rdAbs (dCons (dVar 2) dNil)) dNil))))))
theorem st_law_fraction (a0 : D) : startD N_law_fraction [a0] = [some a0, none, none, none] := rfl
abbrev N_law_fractions_right : List Str := ["_law_urn_here", "_law_stair", "_law_ahead_here", "_law_ring_here", "_law_parts", "_law_amount", "_law_told", "_law_whole_here"]
def t_law_fractions_right (Ed : XKD) : TSD :=
  (dSeq (dSet 4 (dCall sp_law_number [] (wd Ed) (dCons (dVar 2) (dCons (dVar 3) dNil))))
  (dSeq (dFor (dItr (dLst (dCons (dC (.int 1)) (dCons (dC (.int 2)) (dCons (dOp rdAdd (dC (.int 1)) (dCall sp_law_draw [] (wd Ed) (dCons (dVar 0) (dCons (dC (.int 12)) dNil)))) (dCons (dOp rdAdd (dC (.int 1)) (dCall sp_law_draw [] (wd Ed) (dCons (dVar 0) (dCons (dC (.int 100)) dNil)))) dNil)))))) (dName 5)
  (dSeq (dSet 6 (dMeth "Stair" "fraction" sp_Stair_fraction [] (wd Ed) (dVar 1) (dCons (dVar 5) dNil)))
  (dSeq (dIfS (dOr (dNot (dTest (dCall sp_law_is_fraction [] (wd Ed) (dCons (dVar 6) dNil)))) (dTest (dOp rdNe (dVar 6) (dCall sp_law_fraction [] (wd Ed) (dCons (dSl (dOp rdAdd (dVar 2) (dOp rdMulA (dVar 3) (dC (.int 100)))) dNoPart (dPart (dVar 5))) dNil))))) (dRet (dC (.bl false))) dNext)
  (dSeq (dSet 7 (dTup (dCons (dOp rdIx (dVar 6) (dC (.int 0))) (dCons (dC (.int 0)) (dCons (dC (.int 2)) (dCons (dOp rdIx (dVar 6) (dC (.int 1))) dNil))))))
  (dIfS (dOr (dTest (dOp rdNe (dCall sp_law_below [] (wd Ed) (dCons (dVar 7) (dCons (dVar 4) dNil))) (dOp rdEq (dOp rdMod (dVar 5) (dC (.int 2))) (dC (.int 1))))) (dTest (dOp rdNe (dMethK "Stair" "fraction" sp_Stair_fraction 1 [0, 1] (wd Ed) (dVar 1) (dCons (dVar 5) dNil)) (dVar 6)))) (dRet (dC (.bl false))) dNext)))))
  (dRet (dC (.bl true)))))
theorem st_law_fractions_right (a0 a1 a2 a3 : D) : startD N_law_fractions_right [a0, a1, a2, a3] = [some a0, some a1, some a2, some a3, none, none, none, none] := rfl
abbrev N_law_form_right : List Str := ["_law_ring_here", "_law_told", "_law_a", "_law_b", "_law_c", "_law_p", "_law_q", "_law_r", "_law_s", "_law_top", "_law_below_here", "_law_square", "_law_first", "_law_one"]
def t_law_form_right (Ed : XKD) : TSD :=
  (dSeq (dSet 1 (dCall sp_ring_form [] (wd Ed) (dCons (dVar 0) dNil)))
  (dSeq (dIfS (dOr (dNot (dTest (dCB rdIsi (dCons (dVar 1) (dCons (dC (.ty "tuple")) dNil))))) (dOr (dTest (dOp rdNe (dCB rdLen (dCons (dVar 1) dNil)) (dC (.int 3)))) (dNot (dTest (dCB rdAll (dCons (dComp (dItr (dVar 1)) (dName 13) dYes (dCall sp_law_whole [] wd0 (dCons (dVar 13) dNil)) [13]) dNil)))))) (dRet (dC (.bl false))) dNext)
  (dSeq (dAsg (dVar 1) (dTupG 3 (dGCons (dName 2) (dGCons (dName 3) (dGCons (dName 4) dGNil)))))
  (dSeq (dIfS (dOr (dTest (dOp rdLt (dVar 2) (dC (.int 1)))) (dTest (dOp rdNe (dCall sp_law_shared [] (wd Ed) (dCons (dCall sp_law_shared [] (wd Ed) (dCons (dVar 2) (dCons (dVar 3) dNil))) (dCons (dVar 4) dNil))) (dC (.int 1))))) (dRet (dC (.bl false))) dNext)
  (dSeq (dAsg (dCall sp_law_ring_table [] (wd Ed) (dCons (dVar 0) dNil)) (dTupG 4 (dGCons (dName 5) (dGCons (dName 6) (dGCons (dName 7) (dGCons (dName 8) dGNil))))))
  (dSeq (dPar 9 10 (dCons (dOp rdSub (dVar 5) (dVar 8)) (dCons (dOp rdMulA (dC (.int 2)) (dVar 7)) dNil)))
  (dSeq (dSet 11 (dOp rdAdd (dOp rdMulA (dVar 9) (dVar 9)) (dOp rdMulA (dOp rdMulA (dC (.int 4)) (dVar 6)) (dVar 7))))
  (dSeq (dSet 12 (dOp rdAdd (dOp rdMulA (dVar 2) (dOp rdAdd (dOp rdMulA (dVar 9) (dVar 9)) (dVar 11))) (dOp rdMulA (dOp rdMulA (dVar 3) (dVar 9)) (dVar 10))))
  (dRet (dAndV (dOp rdEq (dOp rdAdd (dOp rdMulA (dOp rdMulA (dC (.int 2)) (dVar 2)) (dVar 9)) (dOp rdMulA (dVar 3) (dVar 10))) (dC (.int 0))) (dOp rdEq (dOp rdAdd (dVar 12) (dOp rdMulA (dOp rdMulA (dVar 4) (dVar 10)) (dVar 10))) (dC (.int 0)))))))))))))
theorem st_law_form_right (a0 : D) : startD N_law_form_right [a0] = [some a0, none, none, none, none, none, none, none, none, none, none, none, none, none] := rfl
abbrev N_law_no_ring : List Str := ["_law_urn_here", "_law_ring_here", "_law_spot", "_law_part", "_law_some"]
def t_law_no_ring (Ed : XKD) : TSD :=
  (dSeq (dSet 2 (dCall sp_law_draw [] (wd Ed) (dCons (dVar 0) (dCons (dCB rdLen (dCons (dVar 1) dNil)) dNil))))
  (dSeq (dSet 3 (dOp rdIx (dLst (dCons (dC .non) (dCons (dC (.bl true)) (dCons (dC (.bl false)) (dCons (dC (.int 0)) (dCons (dUn rdNeg (dC (.int 1))) (dCons (dC (.int 1000000)) (dCons (dC (.str "1")) (dCons (dTup (dCons (dC (.int 1)) dNil)) (dCons (dTup dNil) (dCons (dLst dNil) dNil))))))))))) (dCall sp_law_draw [] (wd Ed) (dCons (dVar 0) (dCons (dC (.int 10)) dNil)))))
  (dSeq (dSet 4 (dLst (dCons (dOp rdAdd (dOp rdAdd (dSl (dVar 1) dNoPart (dPart (dVar 2))) (dTup (dCons (dVar 3) dNil))) (dSl (dVar 1) (dPart (dOp rdAdd (dVar 2) (dC (.int 1)))) dNoPart)) (dCons (dCB rdListA (dCons (dVar 1) dNil)) (dCons (dTup dNil) (dCons (dSl (dOp rdMulA (dVar 1) (dC (.int 41))) dNoPart (dPart (dOp rdAdd (dC (.int 41)) (dVar 2)))) (dCons (dC .non) (dCons (dC (.str "ab")) (dCons (dTup (dCons (dVar 1) dNil)) (dCons (dC (.int 3)) dNil))))))))))
  (dRet (dOp rdIx (dVar 4) (dCall sp_law_draw [] (wd Ed) (dCons (dVar 0) (dCons (dC (.int 8)) dNil))))))))
theorem st_law_no_ring (a0 a1 : D) : startD N_law_no_ring [a0, a1] = [some a0, some a1, none, none, none] := rfl
abbrev N_law : List Str := ["_law_script", "_law_at", "_law_urn_here", "_law_ahead_here", "_law_ring_here", "_law_stair", "_law_often", "_law_turn", "_law_bad"]
def t_law (tb : Str → Addr) (Ed : XKD) : TSD :=
  (dSeq (dFor (dRng1 (dCons (dCB rdMax2 (dCons (dC (.int 1)) (dCons (dCB rdMin2 (dCons (dC (.int 4)) (dCons (dCB rdLen (dCons (dVar 0) dNil)) dNil))) dNil))) dNil)) (dName 1)
  (dSeq (dSet 2 (dCall sp_law_urn [] (wd Ed) (dCons (dVar 0) (dCons (dVar 1) dNil))))
  (dSeq (dPar 3 4 (dCons (dCall sp_law_ahead [] (wd Ed) (dCons (dVar 2) (dCons (dC (.int 20)) dNil))) (dCons (dCall sp_law_ring [] (wd Ed) (dCons (dVar 2) (dCons (dC (.int 40)) dNil))) dNil)))
  (dSeq (dSet 5 (dMake "Stair" sp_Stair___init__ [] (wd Ed) (dCons (dVar 3) (dCons (dVar 4) dNil))))
  (dSeq (dIfS (dNot (dTest (dCall sp_law_fractions_right [] (wd Ed) (dCons (dVar 2) (dCons (dVar 5) (dCons (dVar 3) (dCons (dVar 4) dNil))))))) (dRet (dC (.bl false))) dNext)
  (dSeq (dSet 6 (dOp rdMulA (dVar 4) (dOp rdAdd (dC (.int 1)) (dCall sp_law_draw [] (wd Ed) (dCons (dVar 2) (dCons (dOp rdFdiv (dC (.int 40)) (dCB rdLen (dCons (dVar 4) dNil))) dNil))))))
  (dFor (dRng1 (dCons (dC (.int 2)) dNil)) (dName 7)
  (dSeq (dIfS (dOr (dNot (dTest (dCall sp_law_form_right [] (wd Ed) (dCons (dVar 4) dNil)))) (dOr (dNot (dTest (dCall sp_law_form_right [] (wd Ed) (dCons (dVar 6) dNil)))) (dTest (dOp rdNe (dCall sp_ring_form [] (wd Ed) (dCons (dVar 6) dNil)) (dCall sp_ring_form [] (wd Ed) (dCons (dVar 4) dNil)))))) (dRet (dC (.bl false))) dNext)
  (dSeq (dSet 8 (dCall sp_law_no_ring [] (wd Ed) (dCons (dVar 2) (dCons (dVar 4) dNil))))
  (dIfS (dTest (dOp rdNe (dRef (tb "law") "law.<locals>.<lambda>" rsX (fun Ed => (dCall sp_ring_form [] (wd Ed) (dCons (dVar 8) dNil)))) (dC (.str "NoRing")))) (dRet (dC (.bl false))) dNext))))))))))
  (dRet (dC (.bl true))))
theorem st_law (a0 : D) : startD N_law [a0] = [some a0, none, none, none, none, none, none, none, none] := rfl

local macro_rules | `(tactic| walk_at "dy") => `(tactic| simp only [dCall, List.append_nil, dSeq, dSet, dIfS, dRet, dNext, dTest, dOp, dCB, dCons, dNil, dC, x_var0, x_varS, dTup, dLst, dLstO, dAndV, dOrV, dNotV, dAnd, dOr, dNot, dIf, dChain, dChain3, dStore, dBM, dDrop, dAsg, dTupG, x_tupL, x_tupX, dPlain, x_mulL, x_eqO_ss, x_neO_ss, dBM0, dGCons, dGNil, dName, dUn, dPar, dPar3, dSl, dPart, dNoPart, dRev, dBk, dFor, dItr, dRng1, dRng2,
  x_add_ii, x_add_ib, x_add_ss, x_add_tt, x_add_ll, x_sub, x_mul, x_mul_s, x_mulA, x_mulA_s, x_mulA_t, dCallK, sel_n1, sel_n2, sel_x2, sel_12, dZip, zipR, x_fdiv, x_mod, x_pow, x_neg, x_lt, x_le, x_gt, x_ge, x_eq_ii, x_eq_ss, x_eq_bb, x_ne_ii, x_ne_ss, x_ne_bb, x_abs, x_str_i, x_str_s, x_divmod, x_max2, x_min2, x_int_i, x_int_b, x_tupA_l, x_tupA_t, x_tupA_s, x_listA_l, x_listA_t, x_listA_s, x_sl_t, x_sl_l, x_sl_s, x_ixs, x_ixQ, x_ixS, atI_0, atI_1, atI_2, atI_3, x_inS, x_inT, x_notInT, dKin, dHT, dKeyed, keyR, dSumT, x_is_bb, x_isNot_bb, x_is_n, x_isNot_n, x_count, tyM,
  x_len_tup, x_len_lst, x_len_str, x_ixt, x_ixl, x_isi, isi_non_int, isi_non_bool, isi_non_str, isi_non_tuple, isi_non_list, isi_bl_int, isi_bl_bool, isi_bl_str, isi_bl_tuple, isi_bl_list, isi_int_int, isi_int_bool, isi_int_str, isi_int_tuple, isi_int_list, isi_str_int, isi_str_bool, isi_str_str, isi_str_tuple, isi_str_list, isi_tup_int, isi_tup_bool, isi_tup_str, isi_tup_tuple, isi_tup_list, isi_lst_int, isi_lst_bool, isi_lst_str, isi_lst_tuple, isi_lst_list,
  List.set_cons_zero, List.set_cons_succ, ite_tt, ite_ff, Bool.not_true, Bool.not_false, List.length_cons, List.length_nil, true_and, and_true, Nat.reduceAdd, Nat.reduceLeDiff, decide_eq_true_eq, Bool.not_eq_true', decide_eq_false_iff_not, reduceCtorEq, eq_self, if_false, if_true])

theorem pure_is_whole : ∀ ds S Q Ed, sp_is_whole ds S Q Ed → t_is_whole Ed { nx := fun _ S' => Q .non S', rt := Q } (startD N_is_whole ds) S := by
  rintro ds S Q Ed ⟨d, rfl, hd, q⟩
  rw [st_is_whole]
  unfold t_is_whole
  cases d <;> first | (walk_at "dy"; exact q) | exact absurd (show false = true from hd) Bool.false_ne_true

theorem pure_shared_by : ∀ ds S Q Ed, sp_shared_by ds S Q Ed → t_shared_by Ed { nx := fun _ S' => Q .non S', rt := Q } (startD N_shared_by ds) S := by
  rintro ds S Q Ed ⟨a, b, rfl, q⟩
  rw [st_shared_by]
  unfold t_shared_by
  walk_at "dy"
  have ab : ∀ x : Int, (if x < 0 then -x else x) = (x.natAbs : Int) := fun x => by split <;> omega
  rw [ab, ab]
  refine while_inv (fun m σ S' => ∃ x y : Nat, σ = [some (.int x), some (.int y)] ∧ S' = S ∧ Nat.gcd x y = Int.gcd a b ∧ m = y) b.natAbs ⟨_, _, rfl, rfl, rfl, rfl⟩ ?_
  rintro m σ S' N ⟨x, y, rfl, rfl, e, rfl⟩ k
  walk_at "dy"
  by_cases c : 0 < (m : Int)
  · rw [if_pos c]
    refine ⟨by omega, ?_⟩
    have e2 : (x : Int).fmod (m : Int) = ((x % m : Nat) : Int) := by rw [Int.fmod_eq_emod_of_nonneg _ (by omega)]; rfl
    rw [e2]
    refine k (x % m) _ _ (Nat.mod_lt _ (by omega)) ⟨m, x % m, rfl, rfl, ?_, rfl⟩
    rw [← e, Nat.gcd_comm x m, Nat.gcd_rec m x, Nat.gcd_comm]
  · rw [if_neg c]
    have e3 : m = 0 := by omega
    subst e3
    rw [Nat.gcd_zero_right] at e
    rw [e]
    exact q

theorem pure_is_within : ∀ ds S Q Ed, sp_is_within ds S Q Ed → t_is_within Ed { nx := fun _ S' => Q .non S', rt := Q } (startD N_is_within ds) S := by
  rintro ds S Q Ed ⟨d, lo, hi, rfl, hd, q⟩
  rw [st_is_within]
  unfold t_is_within
  walk_at "dy"
  refine ⟨d, rfl, hd, ?_⟩
  cases d with
  | int a =>
    have e : isWh (.int a) = true := rfl
    rw [e]
    walk_at "dy"
    have e2 : winD lo hi (.int a) = decide (lo ≤ a ∧ a ≤ hi) := rfl
    rw [e2] at q
    by_cases c : lo ≤ a
    · rw [if_pos c]
      simp only [c, true_and] at q
      exact q
    · rw [if_neg c]
      rw [decide_eq_false (fun h => c h.1)] at q
      exact q
  | _ => exact q

theorem pure_is_row : ∀ ds S Q Ed, sp_is_row ds S Q Ed → t_is_row Ed { nx := fun _ S' => Q .non S', rt := Q } (startD N_is_row ds) S := by
  rintro ds S Q Ed ⟨d, lo, hi, n, rfl, hd, hh, q⟩
  rw [st_is_row]
  unfold t_is_row
  cases d with
  | tup xs =>
    walk_at "dy"
    have e0 : rowD lo hi (.tup xs) = (decide (lo ≤ (xs.length : Int) ∧ (xs.length : Int) ≤ hi) && xs.all (winD 1 999999)) := rfl
    rw [e0] at q
    by_cases c1 : lo ≤ (xs.length : Int)
    · rw [if_pos c1]
      by_cases c2 : (xs.length : Int) ≤ hi
      · rw [if_neg (fun h => h c2)]
        rw [decide_eq_true ⟨c1, c2⟩, Bool.true_and] at q
        refine comp_pure (fun d => .bl (winD 1 999999 d)) xs S (fun R hR => hR) (fun x hx S' Q' q' => ?_) (by omega) ?_
        · exact (⟨x, 1, 999999, rfl, sm_data (smT.mp hd x hx), q'⟩ : sp_is_within [x, .int 1, .int 999999] S' Q' (fun _ _ => False))
        · refine x_allb (bs := xs.map (winD 1 999999)) (by rw [List.map_map]; rfl) ?_
          rw [List.all_map]
          exact q
      · rw [if_pos c2]
        rw [decide_eq_false (fun h => c2 h.2)] at q
        exact q
    · rw [if_neg c1]
      try walk_at "dy"
      rw [decide_eq_false (fun h => c1 h.1)] at q
      exact q
  | _ => first | (walk_at "dy"; exact q) | exact absurd (show false = true from hd) Bool.false_ne_true

theorem pure_is_number_ring : ∀ ds S Q Ed, sp_is_number_ring ds S Q Ed → t_is_number_ring Ed { nx := fun _ S' => Q .non S', rt := Q } (startD N_is_number_ring ds) S := by
  rintro ds S Q Ed ⟨d, n, rfl, hd, q⟩
  rw [st_is_number_ring]
  unfold t_is_number_ring
  walk_at "dy"
  exact ⟨d, 1, 40, n, rfl, hd, by decide, by rw [row_ring]; exact q⟩

theorem pure_is_ahead : ∀ ds S Q Ed, sp_is_ahead ds S Q Ed → t_is_ahead Ed { nx := fun _ S' => Q .non S', rt := Q } (startD N_is_ahead ds) S := by
  rintro ds S Q Ed ⟨d, n, rfl, hd, hok, q⟩
  rw [st_is_ahead]
  unfold t_is_ahead
  refine seq_step fun r hr => ?_
  have he : eqOk (.tup []) = true := by decide
  cases d with
  | tup xs =>
    cases xs with
    | nil =>
      walk_at "dy"
      exact ⟨⟨hok, he⟩, q⟩
    | cons x xs =>
      walk_at "dy"
      rw [if_neg (by omega)]
      have hx := smT.mp hd x List.mem_cons_self
      have hxs : sm n (.tup xs) = true := smT.mpr fun y hy => smT.mp hd y (List.mem_cons_of_mem _ hy)
      subst hr
      refine seq_step fun r hr => ?_
      walk_at "dy"
      refine ⟨x, _, _, rfl, sm_data hx, ?_⟩
      have q' : Q (.bl (winD (-999999) 999999 x && rowD 0 19 (.tup xs))) S := q
      rw [show (0 : Int) - 999999 = -999999 by decide]
      cases c : winD (-999999) 999999 x with
      | false =>
        rw [c] at q'
        walk_at "dy"
        exact q'
      | true =>
        rw [c] at q'
        walk_at "dy"
        subst hr
        walk_at "dy"
        rw [show (1 : Int) = ((1 : Nat) : Int) from rfl, cutD_from (by rw [List.length_cons]; omega)]
        exact ⟨.tup xs, 0, 19, n, rfl, hxs, by decide, q'⟩
  | int i => walk_at "dy"; exact ⟨⟨hok, he⟩, q⟩
  | str z => walk_at "dy"; exact ⟨⟨hok, he⟩, q⟩
  | non => walk_at "dy"; exact ⟨⟨hok, he⟩, q⟩
  | bl b => walk_at "dy"; exact ⟨⟨hok, he⟩, q⟩
  | lst xs => walk_at "dy"; exact ⟨⟨hok, he⟩, q⟩
  | _ => exact absurd (show false = true from hd) Bool.false_ne_true

theorem pure_look_ring : ∀ ds S Q Ed, sp_look_ring ds S Q Ed → t_look_ring Ed { nx := fun _ S' => Q .non S', rt := Q } (startD N_look_ring ds) S := by
  rintro ds S Q Ed ⟨d, n, rfl, hd, q1, q2⟩
  rw [st_look_ring]
  unfold t_look_ring
  walk_at "dy"
  refine ⟨d, n, rfl, hd, ?_⟩
  cases e : isRingD d with
  | true =>
    walk_at "dy"
    exact q1 e
  | false =>
    walk_at "dy"
    exact q2 e

theorem pure_shortest_part : ∀ ds S Q Ed, sp_shortest_part ds S Q Ed → t_shortest_part Ed { nx := fun _ S' => Q .non S', rt := Q } (startD N_shortest_part ds) S := by
  rintro ds S Q Ed ⟨L, rfl, h1, h40, q⟩
  rw [st_shortest_part]
  unfold t_shortest_part
  refine seq_step fun r hr => ?_
  unfold ringD
  walk_at "dy"
  rw [List.length_map]
  subst hr
  refine seq_step fun r hr => ?_
  walk_at "dy"
  refine ⟨by omega, ?_⟩
  refine loop_rng (fun i σ S' => (∃ z, σ = [some (ringD L), some (.int L.length), z]) ∧ S' = S ∧ ∀ j, j < i → sizeOk L (j + 1) = false) ⟨⟨_, rfl⟩, rfl, fun j h => by omega⟩ ?_ ?_
  · rintro i σ S' N hi ⟨⟨z, rfl⟩, rfl, hno⟩ k
    have hi' : i < L.length - 1 := by omega
    unfold ringD
    walk_at "dy"
    refine ⟨by omega, ?_⟩
    have ei : (1 + (i : Int)) = ((i + 1 : Nat) : Int) := by omega
    obtain ⟨em, ed⟩ := nat_mod_div (n := L.length) (show 1 ≤ i + 1 by omega)
    rw [ei, em]
    have next : sizeOk L (i + 1) = false → N [some (ringD L), some (.int L.length), some (.int ((i + 1 : Nat) : Int))] S' := fun h => k _ _ ⟨⟨_, rfl⟩, rfl, fun j hj => by
      by_cases e : j = i
      · rw [e]; exact h
      · exact hno j (by omega)⟩
    by_cases c : L.length % (i + 1) = 0
    · rw [if_pos (by omega)]
      refine ⟨⟨by omega, ?_⟩, ?_⟩
      · have : (((i + 1 : Nat) : Int)).natAbs.log2 ≤ (i + 1) := by
          rw [Int.natAbs_natCast]
          exact Nat.log2_le_self _
        omega
      rw [ed]
      refine size_go (by omega) (by omega) c h40 ?_
      by_cases c2 : told (L.take (i + 1)) (L.length / (i + 1)) = L
      · have ho : sizeOk L (i + 1) = true := by unfold sizeOk; rw [decide_eq_true c, decide_eq_true c2]; rfl
        have e := shS_first hi' hno ho
        rw [e] at q
        rw [decide_eq_true c2]
        walk_at "dy"
        rw [cutD_ring L (by omega)]
        exact q
      · rw [decide_eq_false c2]
        walk_at "dy"
        exact next (by unfold sizeOk; rw [decide_eq_false c2, Bool.and_false])
    · rw [if_neg (by omega)]
      exact next (by unfold sizeOk; rw [decide_eq_false c]; rfl)
  · rintro σ S' ⟨⟨z, rfl⟩, rfl, hno⟩
    subst hr
    walk_at "dy"
    have e := shS_none (L := L) fun j hj => hno j (by omega)
    rw [e] at q
    exact q

theorem pure_table_of_row : ∀ ds S Q Ed, sp_table_of_row ds S Q Ed → t_table_of_row Ed { nx := fun _ S' => Q .non S', rt := Q } (startD N_table_of_row ds) S := by
  rintro ds S Q Ed ⟨L, c, d, rfl, hd, hL, hc, hl, q⟩
  rw [st_table_of_row]
  unfold t_table_of_row
  rcases hd with rfl | rfl
  · unfold ringD
    walk_at "dy"
    refine loop_all (fun p σ S' => ∃ (M : List Int) (z : Option D), p = M.map D.int ∧ σ = [some (.tup (L.map D.int)), some (.int (t4L M).p), some (.int (t4L M).q), some (.int (t4L M).r), some (.int (t4L M).s), z] ∧ S' = S) ⟨[], none, rfl, rfl, rfl⟩ ?_ ?_
    · rintro p x r σ S' N e ⟨M, z, hp, rfl, rfl⟩ k
      obtain ⟨M', a, R, eL, rfl, hp'⟩ := mpI_split e
      have eM : M = M' := mpI_inj (hp.symm.trans hp')
      subst eM
      have hM : ∀ b ∈ M, b.natAbs + 1 ≤ 2 ^ c := fun b hb => hL b (by rw [eL]; exact List.mem_append_left _ hb)
      have ha := hL a (by rw [eL]; simp)
      have lM : M.length ≤ 100 := by
        have := congrArg List.length eL
        rw [List.length_append] at this
        omega
      obtain ⟨b1, b2, b3, b4⟩ := t4_wide hM
      have e1 : c * M.length ≤ 10000 := Nat.le_trans (Nat.mul_le_mul hc lM) (by decide)
      have lt : ∀ x : Int, x.natAbs ≤ 2 ^ (c * M.length) → x.natAbs < 2 ^ 10001 := fun x h => Nat.lt_of_le_of_lt (Nat.le_trans h (Nat.pow_le_pow_right (by decide) e1)) (Nat.pow_lt_pow_right (by decide) (by decide))
      have ba : a.natAbs < 2 ^ 100 := Nat.lt_of_lt_of_le (by omega) (Nat.pow_le_pow_right (by decide) hc)
      walk_at "dy"
      refine ⟨mulOk 10001 100 (lt _ b1) ba (by decide) (by decide) (by decide), mulOk 10001 100 (lt _ b3) ba (by decide) (by decide) (by decide), ?_⟩
      refine k _ _ ⟨M ++ [a], some (.int a), ?_, ?_, rfl⟩
      · rw [hp, List.map_append]; rfl
      · rw [t4_snoc]; rfl
    · rintro σ S' ⟨M, z, hp, rfl, rfl⟩
      have eM : M = L := mpI_inj hp.symm
      subst eM
      walk_at "dy"
      exact q
  · skip
    walk_at "dy"
    refine loop_all (fun p σ S' => ∃ (M : List Int) (z : Option D), p = M.map D.int ∧ σ = [some (.lst (L.map D.int)), some (.int (t4L M).p), some (.int (t4L M).q), some (.int (t4L M).r), some (.int (t4L M).s), z] ∧ S' = S) ⟨[], none, rfl, rfl, rfl⟩ ?_ ?_
    · rintro p x r σ S' N e ⟨M, z, hp, rfl, rfl⟩ k
      obtain ⟨M', a, R, eL, rfl, hp'⟩ := mpI_split e
      have eM : M = M' := mpI_inj (hp.symm.trans hp')
      subst eM
      have hM : ∀ b ∈ M, b.natAbs + 1 ≤ 2 ^ c := fun b hb => hL b (by rw [eL]; exact List.mem_append_left _ hb)
      have ha := hL a (by rw [eL]; simp)
      have lM : M.length ≤ 100 := by
        have := congrArg List.length eL
        rw [List.length_append] at this
        omega
      obtain ⟨b1, b2, b3, b4⟩ := t4_wide hM
      have e1 : c * M.length ≤ 10000 := Nat.le_trans (Nat.mul_le_mul hc lM) (by decide)
      have lt : ∀ x : Int, x.natAbs ≤ 2 ^ (c * M.length) → x.natAbs < 2 ^ 10001 := fun x h => Nat.lt_of_le_of_lt (Nat.le_trans h (Nat.pow_le_pow_right (by decide) e1)) (Nat.pow_lt_pow_right (by decide) (by decide))
      have ba : a.natAbs < 2 ^ 100 := Nat.lt_of_lt_of_le (by omega) (Nat.pow_le_pow_right (by decide) hc)
      walk_at "dy"
      refine ⟨mulOk 10001 100 (lt _ b1) ba (by decide) (by decide) (by decide), mulOk 10001 100 (lt _ b3) ba (by decide) (by decide) (by decide), ?_⟩
      refine k _ _ ⟨M ++ [a], some (.int a), ?_, ?_, rfl⟩
      · rw [hp, List.map_append]; rfl
      · rw [t4_snoc]; rfl
    · rintro σ S' ⟨M, z, hp, rfl, rfl⟩
      have eM : M = L := mpI_inj hp.symm
      subst eM
      walk_at "dy"
      exact q

theorem ring_wide {L : List Int} (R : RowI L) : ∀ a ∈ L, a.natAbs + 1 ≤ 2 ^ 20 := fun a ha => by
  have := R.el a ha
  have e : (2 : Nat) ^ 20 = 1048576 := by decide
  omega
theorem ring_ne {L : List Int} (R : RowI L) : L ≠ [] := fun e => by have := R.l0; rw [e] at this; exact absurd this (by decide)
theorem fmG_pos {L : List Int} (R : RowI L) : 1 ≤ fmG L ∧ fmG L ≤ (t4L L).r := by
  have r1 := (tw_row L (fun a ha => (R.el a ha).1) (ring_ne R)).r1
  unfold fmG
  have d : (Int.gcd (Int.gcd (t4L L).r ((t4L L).s - (t4L L).p) : Nat) (t4L L).q : Nat) ∣ (t4L L).r.natAbs := by
    refine Nat.dvd_trans (Int.gcd_dvd_natAbs_left ..) ?_
    rw [Int.natAbs_natCast]
    exact Int.gcd_dvd_natAbs_left ..
  have h := Nat.le_of_dvd (by omega) d
  have n0 : (Int.gcd (Int.gcd (t4L L).r ((t4L L).s - (t4L L).p) : Nat) (t4L L).q : Nat) ≠ 0 := fun e => by
    rw [e] at d
    obtain ⟨c, hc⟩ := d
    omega
  omega
theorem pure_form_of_row : ∀ ds S Q Ed, sp_form_of_row ds S Q Ed → t_form_of_row Ed { nx := fun _ S' => Q .non S', rt := Q } (startD N_form_of_row ds) S := by
  rintro ds S Q Ed ⟨L, rfl, R, q⟩
  rw [st_form_of_row]
  unfold t_form_of_row
  have G := fmG_pos R
  have b := (t4_wide (ring_wide R)).2.2.1
  have gl : fmG L ≠ 0 ∧ (fmG L).natAbs.log2 < 9000 := by
    refine ⟨by omega, ?_⟩
    have h1 : (fmG L).natAbs ≤ (t4L L).r.natAbs := by omega
    have h2 : 20 * L.length ≤ 800 := by have := R.l1; omega
    have h3 := Nat.le_trans h1 (Nat.le_trans b (Nat.pow_le_pow_right (by decide) h2))
    have h4 : (fmG L).natAbs < 2 ^ 801 := Nat.lt_of_le_of_lt h3 (Nat.pow_lt_pow_right (by decide) (by decide))
    have := log2_lt h4 (by decide)
    omega
  refine seq_step fun r hr => ?_
  walk_at "dy"
  refine ⟨L, 20, _, rfl, .inl rfl, ring_wide R, by decide, by have := R.l1; omega, ?_⟩
  try walk_at "dy"
  subst hr
  refine seq_step fun r hr => ?_
  walk_at "dy"
  refine ⟨_, _, rfl, _, _, rfl, ?_⟩
  try walk_at "dy"
  have e : ((Int.gcd (Int.gcd (t4L L).r ((t4L L).s - (t4L L).p) : Nat) (t4L L).q : Nat) : Int) = fmG L := rfl
  rw [e]
  subst hr
  walk_at "dy"
  exact ⟨gl, gl, gl, q⟩

theorem pure_ring_form : ∀ ds S Q Ed, sp_ring_form ds S Q Ed → t_ring_form Ed { nx := fun _ S' => Q .non S', rt := Q } (startD N_ring_form ds) S := by
  rintro ds S Q Ed ⟨d, n, rfl, hd, q1, q2⟩
  rw [st_ring_form]
  unfold t_ring_form
  refine seq_step fun r hr => ?_
  walk_at "dy"
  refine ⟨d, n, rfl, hd, fun e => ?_, fun e => q2 e⟩
  obtain ⟨L, rfl, R, q⟩ := q1 e
  subst hr
  walk_at "dy"
  exact ⟨L, rfl, R, q⟩

theorem pure_Stair_keep_rows : ∀ ds S Q Ed, sp_Stair_keep_rows ds S Q Ed → t_Stair_keep_rows Ed { nx := fun _ S' => Q .non S', rt := Q } (startD N_Stair_keep_rows ds) S := by
  rintro ds S Q Ed ⟨a, A, R, rfl, hA, hR1, hR2, ha, q⟩
  rw [st_Stair_keep_rows]
  unfold t_Stair_keep_rows
  refine seq_step fun r hr => ?_
  walk_at "dy"
  refine ⟨R, rfl, hR1, hR2, ?_⟩
  try walk_at "dy"
  obtain ⟨s1, s2⟩ := shS_len hR1
  subst hr
  refine seq_step fun r hr => ?_
  refine while_inv (fun m σ S' => ∃ B T : List Int, σ = [some (.obj a), some (ringD B), some (ringD T)] ∧ S' = S ∧ fwR B.reverse T = fewest A R ∧ B.length ≤ 1000 ∧ 1 ≤ T.length ∧ T.length ≤ 1000 ∧ m = B.length) A.length ⟨A, shS R, rfl, rfl, rfl, hA, s1, by omega, rfl⟩ ?_
  rintro m σ S' N ⟨B, T, rfl, rfl, e, hB, t1, t2, rfl⟩ k
  have stop : fwR B.reverse T = (B, T) → r { nx := fun _ S' => Q .non S', rt := Q } [some (.obj a), some (ringD B), some (ringD T)] S' := fun h => by
    have hq : Q .non (upS S' a (.ins "Stair" ["held_ahead", "held_ring"] [ringD B, ringD T])) := by
      rw [h] at e
      rw [← e] at q
      exact q
    subst hr
    refine seq_step fun r hr => ?_
    unfold dPutB
    walk_at "dy"
    rcases ha with ha | ⟨x, y, ha⟩
    · refine ⟨a, [], [], rfl, ha, by decide, fun _ => ?_, fun i hi _ => by cases hi⟩
      subst hr
      unfold dPutB
      walk_at "dy"
      refine ⟨a, ["held_ahead"], [ringD B], rfl, upS_same, by decide, fun _ => ?_, fun i hi _ => ?_⟩
      · rw [upS_upS]
        exact hq
      · match i, hi with
        | 0, hi => exact absurd hi (by decide)
        | i + 1, hi => cases hi
    · refine ⟨a, ["held_ahead", "held_ring"], [x, y], rfl, ha, by decide, fun h => absurd h (by decide), fun i hi _ => ?_⟩
      match i, hi with
      | 1, hi => exact absurd hi (by decide)
      | i + 2, hi => cases hi
      | 0, hi =>
        subst hr
        unfold dPutB
        walk_at "dy"
        refine ⟨a, ["held_ahead", "held_ring"], [ringD B, y], rfl, upS_same, by decide, fun h => absurd h (by decide), fun i hi _ => ?_⟩
        match i, hi with
        | 0, hi => exact absurd hi (by decide)
        | i + 2, hi => cases hi
        | 1, hi =>
          rw [upS_upS]
          exact hq
  walk_at "dy"
  refine ne_nil ?_
  by_cases c : B = []
  · rw [decide_eq_true c]
    try walk_at "dy"
    exact stop (by rw [c]; rfl)
  rw [decide_eq_false c]
  try walk_at "dy"
  obtain ⟨C, x, rfl⟩ := split_last (R := B) (Nat.pos_of_ne_zero fun h => c (List.length_eq_zero_iff.mp h))
  obtain ⟨V, y, rfl⟩ := split_last t1
  have l1 : C.length + 1 ≤ 1000 := by rw [List.length_append] at hB; exact hB
  have l2 : V.length + 1 ≤ 1000 := by rw [List.length_append] at t2; exact t2
  unfold ringD
  try walk_at "dy"
  rw [last_at, last_at, x_ixQ, x_ixQ]
  try walk_at "dy"
  by_cases c2 : x = y
  · subst c2
    rw [if_pos rfl]
    try walk_at "dy"
    rw [cut_last, cut_last, cut_from_last]
    refine ⟨by show 1 + _ ≤ _; rw [List.length_map]; omega, ?_⟩
    refine k C.length _ _ (by rw [List.length_append]; exact Nat.lt_succ_self _) ⟨C, rotB (V ++ [x]), ?_, rfl, ?_, by omega, by rw [rotB_len, List.length_append]; exact Nat.succ_pos _, by rw [rotB_len, List.length_append]; exact l2, rfl⟩
    · rw [rotB_last]; rfl
    · rw [← e, fwR_last (by simp)]
  · rw [if_neg c2]
    exact stop (fwR_stop (by simp only [List.getLast?_append, List.getLast?_singleton, Option.some_or]; exact fun h => c2 (Option.some.inj h).symm))

theorem pure_Stair___init__ : ∀ ds S Q Ed, sp_Stair___init__ ds S Q Ed → t_Stair___init__ Ed { nx := fun _ S' => Q .non S', rt := Q } (startD N_Stair___init__ ds) S := by
  rintro ds S Q Ed ⟨a, d1, d2, n, rfl, h1, h2, hok, ha, q2, q1⟩
  rw [st_Stair___init__]
  unfold t_Stair___init__
  refine seq_step fun r hr => ?_
  walk_at "dy"
  refine ⟨d1, n, rfl, h1, hok, ?_⟩
  cases c1 : aheadD d1 with
  | false =>
    rw [c1] at q2
    try walk_at "dy"
    exact q2 rfl
  | true =>
    rw [c1] at q1 q2
    try walk_at "dy"
    refine ⟨d2, n, rfl, h2, ?_⟩
    cases c2 : isRingD d2 with
    | false =>
      rw [c2] at q2
      try walk_at "dy"
      exact q2 rfl
    | true =>
      rw [c2] at q1
      obtain ⟨A, R, rfl, rfl, hA, hR, q⟩ := q1 rfl
      try walk_at "dy"
      subst hr
      unfold dMethO
      walk_at "dy"
      have l1 := hR.l1
      exact ⟨⟨a, [], [], rfl, ha, by simp⟩, a, A, R, rfl, by omega, hR.l0, by omega, .inl ha, q⟩

theorem pure_Stair_at : ∀ ds S Q Ed, sp_Stair_at ds S Q Ed → t_Stair_at Ed { nx := fun _ S' => Q .non S', rt := Q } (startD N_Stair_at ds) S := by
  rintro ds S Q Ed ⟨A, R, p, rfl, r0, r1, a1, q2, q1⟩
  rw [st_Stair_at]
  unfold t_Stair_at
  refine seq_step fun r hr => ?_
  unfold dRaiseF2
  walk_at "dy"
  by_cases c0 : p < 0
  · rw [if_pos c0]
    try walk_at "dy"
    exact q2 c0
  rw [if_neg c0]
  try walk_at "dy"
  have q := q1 (by omega)
  obtain ⟨p, rfl⟩ := Int.eq_ofNat_of_zero_le (show 0 ≤ p by omega)
  rw [Int.toNat_natCast] at q
  unfold atSt at q
  have ga : ∀ (P : DK), P (ringD A) S → dFld "Stair" "held_ahead" (dVar 0) [some (stD A R), some (.int (p : Int))] S P := fun P h => fld_a (A := A) (R := R) (fun P h => by walk_at "dy"; exact h) h
  have gr : ∀ (P : DK), P (ringD R) S → dFld "Stair" "held_ring" (dVar 0) [some (stD A R), some (.int (p : Int))] S P := fun P h => fld_r (A := A) (R := R) (fun P h => by walk_at "dy"; exact h) h
  subst hr
  refine seq_step fun r hr => ?_
  walk_at "dy"
  refine ga _ ?_
  unfold ringD
  walk_at "dy"
  rw [List.length_map]
  by_cases c1 : p < A.length
  · rw [if_pos (by omega)]
    rw [if_pos c1] at q
    refine ga _ ?_
    unfold ringD
    try walk_at "dy"
    rw [at_ints c1]
    exact q
  · rw [if_neg (by omega)]
    rw [if_neg c1] at q
    subst hr
    try walk_at "dy"
    refine gr _ ?_
    refine ga _ ?_
    unfold ringD
    try walk_at "dy"
    refine gr _ ?_
    unfold ringD
    try walk_at "dy"
    rw [List.length_map, List.length_map]
    refine ⟨by omega, ?_⟩
    have e : ((p : Int) - (A.length : Int)).fmod (R.length : Int) = (((p - A.length) % R.length : Nat) : Int) := by
      rw [← Int.ofNat_sub (by omega), Int.fmod_eq_emod_of_nonneg _ (by omega)]
      exact (Int.natCast_emod _ _).symm
    rw [e, at_ints (Nat.mod_lt _ (by omega))]
    exact q

theorem at_mem {A R : List Int} (hR : 1 ≤ R.length) (i : Nat) : atSt A R i ∈ A ∨ atSt A R i ∈ R := by
  unfold atSt
  split
  · rename_i h
    rw [List.getD_eq_getElem?_getD, List.getElem?_eq_getElem h]
    exact .inl (List.getElem_mem h)
  · have h : (i - A.length) % R.length < R.length := Nat.mod_lt _ (by omega)
    rw [List.getD_eq_getElem?_getD, List.getElem?_eq_getElem h]
    exact .inr (List.getElem_mem h)
theorem pure_Stair_fraction : ∀ ds S Q Ed, sp_Stair_fraction ds S Q Ed → t_Stair_fraction Ed { nx := fun _ S' => Q .non S', rt := Q } (startD N_Stair_fraction ds) S := by
  rintro ds S Q Ed ⟨A, R, n, rfl, r1, r2, a1, hA, hR, hn, q⟩
  rw [st_Stair_fraction]
  unfold t_Stair_fraction
  refine seq_step fun r hr => ?_
  walk_at "dy"
  refine comp_pure (fun d => match d with | .int i => .int (atSt A R i.toNat) | d => d) (rgD 0 n) S (fun R' hR' => ?_) (fun x hx S' Q' q' => ?_) (by rw [rgD_len]; omega) ?_
  · walk_at "dy"
    exact ⟨by omega, by rw [Int.toNat_natCast]; exact hR'⟩
  · obtain ⟨j, hj, rfl⟩ := List.mem_map.mp hx
    have e : ((0 : Int) + (j : Int)).toNat = j := by omega
    dsimp only at q'
    rw [e] at q'
    unfold dMeth
    walk_at "dy"
    refine ⟨⟨_, _, rfl, by decide +kernel⟩, ?_⟩
    exact ⟨A, R, _, rfl, r1, r2, a1, fun h => by omega, fun _ => by rw [e]; exact q'⟩
  have em : (rgD 0 n).map (fun d => match d with | .int i => .int (atSt A R i.toNat) | d => d) = (rwA A R n).map D.int := by
    unfold rgD rwA
    rw [List.map_map, List.map_map]
    exact List.map_congr_left fun j _ => by
      show D.int (atSt A R (0 + (j : Int)).toNat) = D.int (atSt A R j)
      rw [Int.zero_add, Int.toNat_natCast]
  rw [em]
  refine ⟨rwA A R n, 20, _, rfl, .inr rfl, fun a ha => ?_, by decide, by unfold rwA; simp; omega, ?_⟩
  · obtain ⟨j, _, rfl⟩ := List.mem_map.mp ha
    rcases at_mem (A := A) r1 j with h | h
    · exact hA _ h
    · exact hR _ h
  subst hr
  try walk_at "dy"
  exact q

theorem pure_law_urn : ∀ ds S Q Ed, sp_law_urn ds S Q Ed → t_law_urn Ed { nx := fun _ S' => Q .non S', rt := Q } (startD N_law_urn ds) S := by
  rintro ds S Q Ed ⟨ns, at_, rfl, h0, h1, q⟩
  rw [st_law_urn]
  unfold t_law_urn
  walk_at "dy"
  have fin : ∀ (g c : Int), 0 ≤ g → ∀ p, S p = none → Q (.obj p) (upS S p (.lst [.int g, .int (c.fmod 1000000000000000003 + 97 * at_ * at_ + 31 * at_ + 1), .int 0])) := fun g c hg p hp => by
    have f := fmod_in (a := c) (b := 1000000000000000003) (by decide)
    have e1 : 0 ≤ 97 * at_ * at_ := Int.mul_nonneg (by omega) h0
    have e2 : 97 * at_ * at_ ≤ 9700 * 100 := Int.mul_le_mul (by omega) (by omega) h0 (by omega)
    exact q p _ hp ⟨g, _, 0, upS_same, hg, by omega, by omega, by decide, by decide⟩ fun a ha => upS_ne ha
  have m1 : (Int.natAbs 97).log2 + at_.natAbs.log2 < 1000000 := mulOk 7 7 (by decide) (by omega) (by decide) (by decide) (by decide)
  have m2 : (97 * at_).natAbs.log2 + at_.natAbs.log2 < 1000000 := mulOk 14 7 (by omega) (by omega) (by decide) (by decide) (by decide)
  have m3 : (Int.natAbs 31).log2 + at_.natAbs.log2 < 1000000 := mulOk 7 7 (by decide) (by omega) (by decide) (by decide) (by decide)
  by_cases c : at_ < ((ns.map D.int).length : Int)
  · rw [if_pos c, atI_lt h0 c, List.getElem?_map]
    rw [List.length_map] at c
    have e : ns[at_.toNat]? = some ns[at_.toNat] := List.getElem?_eq_getElem (by omega)
    rw [e]
    show ixQ S _ (some (D.int ns[at_.toNat]))
    walk_at "dy"
    refine ⟨by decide, ?_⟩
    generalize e2 : (if ns[at_.toNat] < 0 then -ns[at_.toNat] else ns[at_.toNat]) = g
    have hg : 0 ≤ g := by rw [← e2]; split <;> omega
    split
    · exact ⟨by decide, m1, m2, m3, fin _ _ (by decide)⟩
    · exact ⟨by decide, m1, m2, m3, fin _ _ hg⟩
  · rw [if_neg c]
    refine ⟨by decide, ?_⟩
    split
    · exact ⟨by decide, m1, m2, m3, fin _ _ (by decide)⟩
    · exact ⟨by decide, m1, m2, m3, fin _ _ (by decide)⟩

theorem pure_law_draw : ∀ ds S Q Ed, sp_law_draw ds S Q Ed → t_law_draw Ed { nx := fun _ S' => Q .non S', rt := Q } (startD N_law_draw ds) S := by
  rintro ds S Q Ed ⟨u, w, B, rfl, ⟨g, c, n, hu, g0, c0, c1, n0, n1⟩, hB, w0, w1, q⟩
  have lw : w.natAbs.log2 < 9000 := Nat.lt_of_lt_of_le (log2_lt (n := 1000) (abs_lt_of (by omega) w1) (by decide)) (by decide)
  rw [st_law_draw]
  unfold t_law_draw
  walk_at "dy"
  rw [x_ixo hu]
  walk_at "dy"
  by_cases cg : 0 < g
  · rw [if_pos cg, x_ixo hu]
    walk_at "dy"
    refine ⟨by omega, ?_⟩
    rw [x_ixo hu]
    walk_at "dy"
    refine ⟨⟨by omega, lw⟩, ?_⟩
    rw [x_set hu (ixN_0 (by simp))]
    walk_at "dy"
    have f := fmod_in (a := g) w0
    refine q _ _ f.1 f.2 ⟨g.fdiv w, c, n, upS_same, ?_, c0, c1, n0, by omega⟩ fun a ha => upS_ne ha
    rw [Int.fdiv_eq_ediv_of_nonneg g (by omega)]
    exact Int.ediv_nonneg g0 (by omega)
  · rw [if_neg cg]
    rw [x_ixo hu]
    walk_at "dy"
    rw [x_set hu (ixN_2 (by simp))]
    have hu2 : upS S u (.lst [.int g, .int c, .int (n + 1)]) u = some (.lst [.int g, .int c, .int (n + 1)]) := upS_same
    walk_at "dy"
    rw [x_ixo hu2]
    walk_at "dy"
    rw [x_ixo hu2]
    walk_at "dy"
    have hn : n < 2 ^ 100 + 1 := by omega
    have b1 : (n + 1).natAbs < 2 ^ 101 := abs_lt_of (by omega) (by omega)
    have b2 : (2 * (n + 1) + 1).natAbs < 2 ^ 103 := abs_lt_of (by omega) (by omega)
    have b3 : c.natAbs < 2 ^ 70 := abs_lt_of c0 c1
    have b4 : (c * (2 * (n + 1) + 1)).natAbs < 2 ^ (70 + 103) := wide_lt b3 b2
    have b5 : (6007 * (n + 1)).natAbs < 2 ^ (13 + 101) := wide_lt (by decide) b1
    have b6 : (6007 * (n + 1) * (n + 1)).natAbs < 2 ^ (13 + 101 + 101) := wide_lt b5 b1
    have b7 : (c * (2 * (n + 1) + 1) + 6007 * (n + 1) * (n + 1) + 53).natAbs < 2 ^ 220 := by
      have e1 : (2 : Nat) ^ (70 + 103) ≤ 2 ^ 216 := Nat.pow_le_pow_right (by decide) (by decide)
      have e2 : (2 : Nat) ^ (13 + 101 + 101) ≤ 2 ^ 216 := Nat.pow_le_pow_right (by decide) (by decide)
      omega
    refine ⟨mulOk 2 101 (by decide) b1 (by decide) (by decide) (by decide), mulOk 70 103 b3 b2 (by decide) (by decide) (by decide), mulOk 13 101 (by decide) b1 (by decide) (by decide) (by decide), mulOk (13 + 101) 101 b5 b1 (by decide) (by decide) (by decide), powOk 220 3 b7 (by decide) (by decide) (by decide), by decide, ?_⟩
    have f7 := fmod_in (a := n + 1) (b := 7) (by decide)
    obtain ⟨p, ep, p0, p1⟩ := primes_at f7.1 f7.2
    have f8 := fmod_in (a := n + 1 + 3) (b := 7) (by decide)
    obtain ⟨p', ep', p0', p1'⟩ := primes_at f8.1 f8.2
    unfold primes at ep ep'
    rw [ep]
    walk_at "dy"
    have fm := fmod_in (a := (c * (2 * (n + 1) + 1) + 6007 * (n + 1) * (n + 1) + 53) ^ Int.toNat 3) (b := p) (by omega)
    rw [ep']
    walk_at "dy"
    generalize (c * (2 * (n + 1) + 1) + 6007 * (n + 1) * (n + 1) + 53) ^ Int.toNat 3 = big at fm ⊢
    have fd : 0 ≤ (big.fmod p).fdiv 8191 ∧ (big.fmod p).fdiv 8191 < 2 ^ 31 := by
      rw [Int.fdiv_eq_ediv_of_nonneg _ (by decide)]
      omega
    refine ⟨by omega, ⟨by decide, by decide⟩, mulOk 31 102 (abs_lt_of fm.1 (by omega)) (abs_lt_of (by omega) (by omega)) (by decide) (by decide) (by decide), by decide, by omega, ⟨by decide, by decide⟩, by omega, ?_⟩
    exact q _ _ (fmod_in w0).1 (fmod_in w0).2 ⟨g, c, n + 1, upS_same, g0, c0, c1, by omega, by omega⟩ fun a ha => upS_ne ha

theorem pure_law_whole : ∀ ds S Q Ed, sp_law_whole ds S Q Ed → t_law_whole Ed { nx := fun _ S' => Q .non S', rt := Q } (startD N_law_whole ds) S := by
  rintro ds S Q Ed ⟨d, rfl, hd, q⟩
  rw [st_law_whole]
  unfold t_law_whole
  cases d <;> first | (walk_at "dy"; exact q) | exact absurd (show false = true from hd) Bool.false_ne_true

theorem pure_law_shared : ∀ ds S Q Ed, sp_law_shared ds S Q Ed → t_law_shared Ed { nx := fun _ S' => Q .non S', rt := Q } (startD N_law_shared ds) S := by
  rintro ds S Q Ed ⟨a, b, rfl, q⟩
  rw [st_law_shared]
  unfold t_law_shared
  walk_at "dy"
  have ab : ∀ x : Int, (if x < 0 then -x else x) = (x.natAbs : Int) := fun x => by split <;> omega
  rw [ab, ab]
  refine while_inv (fun m σ S' => ∃ x y : Nat, σ = [some (.int x), some (.int y)] ∧ S' = S ∧ Nat.gcd x y = Int.gcd a b ∧ m = y) b.natAbs ⟨_, _, rfl, rfl, rfl, rfl⟩ ?_
  rintro m σ S' N ⟨x, y, rfl, rfl, e, rfl⟩ k
  walk_at "dy"
  by_cases c : 0 < (m : Int)
  · rw [if_pos c]
    refine ⟨by omega, ?_⟩
    have e2 : (x : Int).fmod (m : Int) = ((x % m : Nat) : Int) := by rw [Int.fmod_eq_emod_of_nonneg _ (by omega)]; rfl
    rw [e2]
    refine k (x % m) _ _ (Nat.mod_lt _ (by omega)) ⟨m, x % m, rfl, rfl, ?_, rfl⟩
    rw [← e, Nat.gcd_comm x m, Nat.gcd_rec m x, Nat.gcd_comm]
  · rw [if_neg c]
    have e3 : m = 0 := by omega
    subst e3
    rw [Nat.gcd_zero_right] at e
    rw [e]
    exact q

theorem pure_law_low : ∀ ds S Q Ed, sp_law_low ds S Q Ed → t_law_low Ed { nx := fun _ S' => Q .non S', rt := Q } (startD N_law_low ds) S := by
  rintro ds S Q Ed ⟨a, b, rfl, hg, q⟩
  rw [st_law_low]
  unfold t_law_low
  refine seq_step fun r hr => ?_
  walk_at "dy"
  refine ⟨a, b, rfl, ?_⟩
  rw [hg]
  try walk_at "dy"
  subst hr
  walk_at "dy"
  have e : ∀ x : Int, x.fdiv ((1 : Nat) : Int) = x := fun x => by rw [Int.fdiv_eq_ediv_of_nonneg _ (by decide)]; omega
  rw [e, e]
  exact ⟨⟨by decide, by decide +kernel⟩, ⟨by decide, by decide +kernel⟩, q⟩

theorem pure_law_is_fraction : ∀ ds S Q Ed, sp_law_is_fraction ds S Q Ed → t_law_is_fraction Ed { nx := fun _ S' => Q .non S', rt := Q } (startD N_law_is_fraction ds) S := by
  rintro ds S Q Ed ⟨a, b, rfl, h0, hg, q⟩
  rw [st_law_is_fraction]
  unfold t_law_is_fraction
  walk_at "dy"
  rw [if_neg (by decide)]
  refine ⟨_, rfl, rfl, ?_⟩
  simp only [isWh]
  walk_at "dy"
  refine ⟨_, rfl, rfl, ?_⟩
  simp only [isWh]
  walk_at "dy"
  rw [if_pos (by omega)]
  refine ⟨a, b, rfl, ?_⟩
  walk_at "dy"
  rw [hg]
  exact q

theorem abG_abs {x : Int} {n : Nat} (h : x.natAbs < 2 ^ n) : (if x < 0 then -x else x).natAbs < 2 ^ n := by split <;> omega
theorem sg_dec (x : Int) : (if decide (x > 0) = true then (1 : Int) else 0) - (if decide (x < 0) = true then 1 else 0) = sgI x := by
  unfold sgI
  simp only [decide_eq_true_eq, gt_iff_lt]
theorem pure_law_sign : ∀ ds S Q Ed, sp_law_sign ds S Q Ed → t_law_sign Ed { nx := fun _ S' => Q .non S', rt := Q } (startD N_law_sign ds) S := by
  rintro ds S Q Ed ⟨T, O, q, B, rfl, bT, bO, bq, q'⟩
  rw [st_law_sign]
  unfold t_law_sign
  refine seq_step fun r hr => ?_
  walk_at "dy"
  refine ⟨mulOk 5000 5000 bT (abG_abs bT) (by decide) (by decide) (by decide), ?_⟩
  subst hr
  refine seq_step fun r hr => ?_
  walk_at "dy"
  refine ⟨mulOk 5000 5000 bq bO (by decide) (by decide) (by decide), mulOk (5000 + 5000) 5000 (wide_lt bq bO) (abG_abs bO) (by decide) (by decide) (by decide), ?_⟩
  have e : T * (if T < 0 then -T else T) + q * O * (if O < 0 then -O else O) = rtF T O q := rfl
  rw [e]
  generalize rtF T O q = x at *
  rw [← sg_dec] at q'
  simp only [decide_eq_true_eq] at q'
  subst hr
  walk_at "dy"
  exact q'

theorem pure_law_below : ∀ ds S Q Ed, sp_law_below ds S Q Ed → t_law_below Ed { nx := fun _ S' => Q .non S', rt := Q } (startD N_law_below ds) S := by
  rintro ds S Q Ed ⟨p, b, T, O, q, B, rfl, bp, bb, bT, bO, bq, bB, q'⟩
  rw [st_law_below]
  unfold t_law_below
  have up : ∀ {x : Int} {n : Nat}, x.natAbs < 2 ^ n → n ≤ 5000 → x.natAbs < 2 ^ 5000 := fun h k => Nat.lt_of_lt_of_le h (Nat.pow_le_pow_right (by decide) k)
  have z : (0 : Int).natAbs < 2 ^ 1 := by decide
  have Tb := wide_lt bT bb
  have pB := wide_lt bp bB
  have Ob := wide_lt bO bb
  have bu : (T * b - p * B).natAbs < 2 ^ 5000 := by
    have h1 : (2 : Nat) ^ (2500 + 2010) ≤ 2 ^ 4998 := Nat.pow_le_pow_right (by decide) (by decide)
    have h2 : (2 : Nat) ^ (2010 + 2500) ≤ 2 ^ 4998 := Nat.pow_le_pow_right (by decide) (by decide)
    have h3 : (2 : Nat) ^ 5000 = 4 * 2 ^ 4998 := by rw [show 5000 = 2 + 4998 from rfl, Nat.pow_add]
    omega
  refine seq_step fun r hr => ?_
  walk_at "dy"
  refine ⟨mulOk 2500 2010 bO bb (by decide) (by decide) (by decide), mulOk 1 2500 z bB (by decide) (by decide) (by decide), ?_⟩
  subst hr
  refine seq_step fun r hr => ?_
  walk_at "dy"
  refine ⟨mulOk 2500 2010 bT bb (by decide) (by decide) (by decide), mulOk 2010 2500 bp bB (by decide) (by decide) (by decide), ?_⟩
  subst hr
  refine seq_step fun r hr => ?_
  walk_at "dy"
  refine ⟨T * b - p * B, O * b, q, 1, rfl, bu, up Ob (by decide), up bq (by decide), ?_⟩
  generalize hS : sgI (rtF (T * b - p * B) (O * b) q) = s at *
  replace hS := hS.symm
  subst hr
  refine seq_step fun r hr => ?_
  walk_at "dy"
  rw [Int.zero_mul, if_neg (by decide), if_neg (by decide)]
  have hs : s.natAbs < 2 ^ 2 := by
    rw [hS]
    rcases sg_val (rtF (T * b - p * B) (O * b) q) with e | e | e <;> rw [e] <;> decide
  subst hr
  refine seq_step fun r hr => ?_
  walk_at "dy"
  refine ⟨mulOk 2 1 hs (by decide) (by decide) (by decide) (by decide), ?_⟩
  rw [show s * (0 - 0) = 0 by omega, if_pos (by decide), show s + (0 - 0) = s by omega]
  exact q'

theorem x_isx {a : Addr} {od : Option Addr} {b : Bool} {ns : List Str} {xs : List D} {r : Si} {S : Sd} {Q : DK} : dIsX 0 a od b (some (.exc a od ns xs) :: r) S Q = Q (.bl b) S := propext ⟨fun h => h.2, fun h => ⟨⟨ns, xs, rfl⟩, h⟩⟩
def tup3 (z : Str × Bool × Bool) : D := .tup [.str z.1, .bl z.2.1, .bl z.2.2]
theorem lc3 {tt : TTD} {te : TED} {p : Addr} {o0 o1 o2 o3 o4 o5 o6 : Option D} {S : Sd} {f : Bool → Bool → Bool} (ht : ∀ x b c S (Q' : Bool → Sd → Prop), Q' (f b c) S → tt [o0, o1, o2, o3, some (.str x), some (.bl b), some (.bl c)] S Q') (he : ∀ x b c S (Q' : DK), Q' (.str x) S → te [o0, o1, o2, o3, some (.str x), some (.bl b), some (.bl c)] S Q') :
    ∀ (L : List (Str × Bool × Bool)) (acc : List D) (Q : List D → Sd → Prop), acc.length + L.length ≤ 1000 → Q (acc ++ ((L.filter fun z => f z.2.1 z.2.2).map fun z => .str z.1)) (upS S p (.lst (acc ++ ((L.filter fun z => f z.2.1 z.2.2).map fun z => .str z.1)))) →
      dLcL (dTupG 3 (dGCons (dName 4) (dGCons (dName 5) (dGCons (dName 6) dGNil)))) tt te p [o0, o1, o2, o3, o4, o5, o6] (L.map tup3) acc (upS S p (.lst acc)) Q
  | [], acc, Q, _, q => by
    rw [List.filter_nil, List.map_nil, List.append_nil] at q
    exact q
  | (x, b, c) :: r, acc, Q, hl, q => by
    rw [List.length_cons] at hl
    refine ⟨rfl, ht x b c _ _ ?_⟩
    cases e : f b c with
    | true =>
      rw [List.filter_cons_of_pos (by exact e), List.map_cons] at q
      rw [if_pos rfl]
      refine he x b c _ _ ⟨upS_same, by omega, ?_⟩
      rw [upS_upS]
      refine lc3 ht he r (acc ++ [.str x]) Q (by rw [List.length_append, List.length_singleton]; omega) ?_
      rw [List.append_assoc]
      exact q
    | false =>
      rw [List.filter_cons_of_neg (by rw [e]; exact Bool.false_ne_true)] at q
      rw [if_neg Bool.false_ne_true]
      exact lc3 ht he r acc Q (by omega) q
def whL (n : Str) : List (Str × Bool × Bool) := [("NoNumber", excIs n "NoNumber", excIs n "ArithmeticError"), ("NoForm", excIs n "NoForm", excIs n "ArithmeticError"), ("OverNought", excIs n "OverNought", excIs n "ZeroDivisionError"), ("TooMany", excIs n "TooMany", excIs n "OverflowError"), ("NoKin", excIs n "NoKin", excIs n "TypeError"), ("NoPlace", excIs n "NoPlace", excIs n "IndexError"),
  ("NoName", excIs n "NoName", excIs n "KeyError"), ("NoTurn", excIs n "NoTurn", excIs n "LookupError"), ("NoRow", excIs n "NoRow", excIs n "RuntimeError"), ("NoStair", excIs n "NoStair", excIs n "ValueError"), ("NoRing", excIs n "NoRing", excIs n "ValueError"), ("NoWord", excIs n "NoWord", excIs n "ValueError"), ("NoStep", excIs n "NoStep", excIs n "ValueError"), ("Uneven", excIs n "Uneven", excIs n "ValueError"), ("NoWay", excIs n "NoWay", excIs n "ValueError"), ("NoTable", excIs n "NoTable", excIs n "ValueError"), ("NoTriple", excIs n "NoTriple", excIs n "ValueError")]
theorem whL1 : ∀ n ∈ ownCls, ((whL n).filter fun z => z.2.1) = [(n, true, true)] ∧ ((whL n).filter fun z => z.2.1 && z.2.2) = [(n, true, true)] := by decide +kernel
theorem comp_at {ti : TID} {g : TGD} {tt : TTD} {te : TED} {vs : List Nat} {σ : Si} {S : Sd} {Q : DK} (xs : List D) (S1 : Sd) (hti : ∀ R : List D → Sd → Prop, R xs S1 → ti σ S R) (h : ∀ p, S1 p = none → dLcL g tt te p (wipeD σ vs) xs [] (upS S1 p (.lst [])) fun acc S2 => S2 p = some (.lst acc) ∧ Q (.lst acc) (del S2 p)) : dComp ti g tt te vs σ S Q := hti _ h
theorem pure_law_which : ∀ (a : Addr) (od : Option Addr) (n : Str) (ns : List Str) (xs : List D) (S : Sd) (Q : DK), n ∈ ownCls → Q (.str n) S → t_law_which a od n { nx := fun _ S' => Q .non S', rt := Q } (startD N_law_which [.exc a od ns xs]) S := by
  intro a od n ns xs S Q hn q
  obtain ⟨h1, h2⟩ := whL1 n hn
  rw [st_law_which]
  unfold t_law_which
  simp only [dSeq, dSet, dLst, dTup, dCons, dNil, dC, x_isx, List.length_cons, List.length_nil, Nat.reduceAdd, Nat.reduceLeDiff, true_and, List.set_cons_zero, List.set_cons_succ]
  refine comp_at ((whL n).map tup3) S (fun R h => h) (fun p hp => ?_)
  refine lc3 (f := fun b _ => b) (fun x b c S Q' h => h) (fun x b c S Q' h => h) (whL n) [] _ (by show 0 + 17 ≤ 1000; decide) ⟨upS_same, ?_⟩
  rw [del_upS hp, h1]
  refine comp_at ((whL n).map tup3) S (fun R h => h) (fun p hp => ?_)
  refine lc3 (f := fun b c => b && c) (fun x b c S Q' h => by cases b <;> exact h) (fun x b c S Q' h => h) (whL n) [] _ (by show 0 + 17 ≤ 1000; decide) ⟨upS_same, ?_⟩
  rw [del_upS hp, h2]
  simp only [List.nil_append, List.map_cons, List.map_nil, List.set_cons_zero, List.set_cons_succ]
  walk_at "dy"
  have e1 : deq (.lst [.str n]) (.lst [.str n]) = true := by simp [deq, deqL]
  show (eqOk (.lst [.str n]) = true ∧ eqOk (.lst [.str n]) = true) ∧ _
  have e2 : eqOk (.lst [.str n]) = true := (by decide +kernel : ∀ n ∈ ownCls, eqOk (.lst [.str n]) = true) n hn
  refine ⟨⟨e2, e2⟩, ?_⟩
  rw [e1]
  exact q

theorem pure_law_ring : ∀ ds S Q Ed, sp_law_ring ds S Q Ed → t_law_ring Ed { nx := fun _ S' => Q .non S', rt := Q } (startD N_law_ring ds) S := by
  rintro ds S Q Ed ⟨u, B, rfl, hU, hB, q⟩
  rw [st_law_ring]
  unfold t_law_ring
  refine seq_step fun r hr => ?_
  walk_at "dy"
  refine ⟨u, 8, B, rfl, hU, by omega, by decide, by decide, fun k S1 k0 k1 hU1 ho1 => ?_⟩
  walk_at "dy"
  obtain ⟨n, en, hn⟩ := at_nat (ns := [1, 2, 4, 8, 12, 12, 12, 40]) k0 k1
  have n0 : 1 ≤ n ∧ n ≤ 40 := by
    simp only [List.mem_cons, List.not_mem_nil, or_false] at hn
    omega
  have en' : atI [D.int 1, D.int 2, D.int 4, D.int 8, D.int 12, D.int 12, D.int 12, D.int 40] k = some (.int (n : Int)) := en
  rw [en']
  walk_at "dy"
  subst hr
  refine seq_step fun r hr => ?_
  walk_at "dy"
  refine ⟨u, 6, _, rfl, hU1, by omega, by decide, by decide, fun j S2 j0 j1 hU2 ho2 => ?_⟩
  walk_at "dy"
  obtain ⟨w, ew, hw⟩ := at_nat (ns := [2, 2, 3, 5, 30, 999999]) j0 j1
  have w0 : 2 ≤ w ∧ w ≤ 999999 := by
    simp only [List.mem_cons, List.not_mem_nil, or_false] at hw
    omega
  have ew' : atI [D.int 2, D.int 2, D.int 3, D.int 5, D.int 30, D.int 999999] j = some (.int (w : Int)) := ew
  rw [ew']
  walk_at "dy"
  subst hr
  have ho12 : Oth S S2 u := ho1.trans ho2
  have hw5 : (w : Int) < 2 ^ 1000 := Int.lt_of_le_of_lt (b := 999999) (by omega) (by decide)
  have hn5 : (n : Int) < 2 ^ 1000 := Int.lt_of_le_of_lt (b := 40) (by omega) (by decide)
  simp only [dRet, dCB, dCons, dNil, dComp, dRng1, dOp, dC, dCall, List.append_nil, x_var0, x_varS]
  refine ⟨u, _, _, rfl, hU2, by omega, by omega, hn5, fun t S3 t0 t1 hU3 ho3 => ?_⟩
  walk_at "dy"
  refine ⟨by omega, ?_⟩
  obtain ⟨t, rfl⟩ := Int.eq_ofNat_of_zero_le t0
  have et : ((1 : Int) + (t : Int)).toNat = 1 + t := by omega
  rw [et]
  have T0 : 1 ≤ 1 + t ∧ 1 + t ≤ 40 := by omega
  generalize 1 + t = T at T0 ⊢
  have ho13 : Oth S S3 u := ho12.trans ho3
  show dComp (fun _ _ R => R (rgD 0 T) S3) (dName 4) dYes (dOp rdAdd (dC (.int 1)) (dCall sp_law_draw [] wd0 (dCons (dVar 0) (dCons (dVar 3) dNil)))) [4] [some (D.obj u), some (D.int 40), some (D.int n), some (D.int w), none] S3 (fun x S' => rdTupA [x] S' Q)
  refine comp_inv (rgD 0 T) S3 (fun p acc S' => ∃ l : List Int, acc = l.map D.int ∧ (∀ a ∈ l, 1 ≤ a ∧ a ≤ 999999) ∧ Urn S' u (B + 3 + acc.length) ∧ ∀ a, a ≠ u → a ≠ p → S' a = S3 a) (fun R hR => hR) (fun p hp => ⟨[], rfl, (fun a h => by cases h), (hU3.up (hU3.ne hp)).mono (by show _ ≤ B + 3 + (0 : Nat); omega), fun a _ ha => upS_ne ha⟩) ?_ (by rw [rgD_len]; omega) ?_
  · rintro p pre x r acc S4 Q' hp hx hlen ⟨l, rfl, hl, hU4, ho4⟩ hS4 kk
    have up := hU3.ne hp
    have hb : pre.length < T := by
      have := congrArg List.length hx
      rw [rgD_len, List.length_append, List.length_cons] at this
      omega
    rw [List.length_map] at hlen
    refine ⟨u, _, _, rfl, hU4, by rw [List.length_map]; omega, by omega, hw5, fun v S5 v0 v1 hU5 ho5 => ?_⟩
    rw [List.length_map] at hU5
    show Q' (.int (1 + v)) S5
    refine kk _ S5 ((ho5 p (Ne.symm up)).trans hS4) ⟨l ++ [1 + v], by rw [List.map_append]; rfl, fun a ha => ?_, (hU5.up up).mono ?_, fun a ha hb => ?_⟩
    · rcases List.mem_append.mp ha with ha | ha
      · exact hl a ha
      · rw [List.mem_singleton.mp ha]; omega
    · rw [List.length_append, List.length_singleton, List.length_map]; omega
    · rw [upS_ne hb, ho5 a ha, ho4 a ha hb]
  · rintro p acc S4 hp hlen ⟨l, rfl, hl, hU4, ho4⟩ hS4
    have up := hU3.ne hp
    rw [rgD_len, List.length_map] at hlen
    rw [List.length_map] at hU4
    show Q (ringD l) (del S4 p)
    exact q l _ ⟨hl, by omega, by omega⟩ ((hU4.del up).mono (by omega)) (ho13.trans (Oth.del ho4 hp))

theorem pure_law_ring_table : ∀ ds S Q Ed, sp_law_ring_table ds S Q Ed → t_law_ring_table Ed { nx := fun _ S' => Q .non S', rt := Q } (startD N_law_ring_table ds) S := by
  rintro ds S Q Ed ⟨L, c, rfl, hL, hc, hl, q⟩
  rw [st_law_ring_table]
  unfold t_law_ring_table ringD
  walk_at "dy"
  refine loop_all (fun p σ S' => ∃ (M : List Int) (z : Option D), p = M.map D.int ∧ σ = [some (.tup (L.map D.int)), some (.int (t4L M).p), some (.int (t4L M).q), some (.int (t4L M).r), some (.int (t4L M).s), z] ∧ S' = S) ⟨[], none, rfl, rfl, rfl⟩ ?_ ?_
  · rintro p x r σ S' N e ⟨M, z, hp, rfl, rfl⟩ k
    obtain ⟨M', a, R, eL, rfl, hp'⟩ := mpI_split e
    have eM : M = M' := mpI_inj (hp.symm.trans hp')
    subst eM
    have hM : ∀ b ∈ M, b.natAbs + 1 ≤ 2 ^ c := fun b hb => hL b (by rw [eL]; exact List.mem_append_left _ hb)
    have ha := hL a (by rw [eL]; simp)
    have lM : M.length ≤ 100 := by
      have := congrArg List.length eL
      rw [List.length_append] at this
      omega
    obtain ⟨b1, b2, b3, b4⟩ := t4_wide hM
    have e1 : c * M.length ≤ 10000 := Nat.le_trans (Nat.mul_le_mul hc lM) (by decide)
    have lt : ∀ x : Int, x.natAbs ≤ 2 ^ (c * M.length) → x.natAbs < 2 ^ 10001 := fun x h => Nat.lt_of_le_of_lt (Nat.le_trans h (Nat.pow_le_pow_right (by decide) e1)) (Nat.pow_lt_pow_right (by decide) (by decide))
    have ba : a.natAbs < 2 ^ 100 := Nat.lt_of_lt_of_le (by omega) (Nat.pow_le_pow_right (by decide) hc)
    walk_at "dy"
    refine ⟨mulOk 10001 100 (lt _ b1) ba (by decide) (by decide) (by decide), mulOk 10001 100 (lt _ b3) ba (by decide) (by decide) (by decide), ?_⟩
    refine k _ _ ⟨M ++ [a], some (.int a), ?_, ?_, rfl⟩
    · rw [hp, List.map_append]; rfl
    · rw [t4_snoc]; rfl
  · rintro σ S' ⟨M, z, hp, rfl, rfl⟩
    have eM : M = L := mpI_inj hp.symm
    subst eM
    walk_at "dy"
    exact q

theorem pure_law_ahead : ∀ ds S Q Ed, sp_law_ahead ds S Q Ed → t_law_ahead Ed { nx := fun _ S' => Q .non S', rt := Q } (startD N_law_ahead ds) S := by
  rintro ds S Q Ed ⟨u, B, rfl, hU, hB, q⟩
  rw [st_law_ahead]
  unfold t_law_ahead
  refine seq_step fun r hr => ?_
  walk_at "dy"
  refine ⟨u, 4, B, rfl, hU, Int.le_trans hB (by decide), by decide, by decide, fun k S1 k0 k1 hU1 ho1 => ?_⟩
  obtain ⟨w, ew, hw⟩ := at_nat (ns := [2, 3, 30, 999999]) k0 k1
  have w0 : 2 ≤ w ∧ w ≤ 999999 := by
    simp only [List.mem_cons, List.not_mem_nil, or_false] at hw
    omega
  have ew' : atI [D.int 2, D.int 3, D.int 30, D.int 999999] k = some (.int (w : Int)) := ew
  have hB2 : ∀ c : Int, c ≤ 100 → B + c ≤ 2 ^ 100 := fun c h => Int.le_trans (Int.add_le_add hB h) (by decide)
  walk_at "dy"
  rw [ew', x_ixQ]
  subst hr
  refine seq_step fun r hr => ?_
  walk_at "dy"
  have compO_draw : ∀ {ti : TID} {g : TGD} {tt : TTD} {te : TED} {vs : List Nat} {σ : Si} {S : Sd} {Q : DK}, (ti σ S fun xs S1 => dCompO (fun _ _ R => R xs S1) g tt te vs σ S1 Q) → dCompO ti g tt te vs σ S Q := fun h => h
  refine compO_draw ?_
  walk_at "dy"
  refine ⟨u, 4, _, rfl, hU1, hB2 _ (by decide), by decide, by decide, fun j S2 j0 j1 hU2 ho2 => ?_⟩
  obtain ⟨n, en, hn⟩ := at_nat (ns := [1, 2, 5, 21]) j0 j1
  have n0 : 1 ≤ n ∧ n ≤ 21 := by
    simp only [List.mem_cons, List.not_mem_nil, or_false] at hn
    omega
  have en' : atI [D.int 1, D.int 2, D.int 5, D.int 21] j = some (.int (n : Int)) := en
  walk_at "dy"
  show ixQ S2 _ (atI [D.int 1, D.int 2, D.int 5, D.int 21] j)
  rw [en', x_ixQ]
  refine ⟨u, n, _, rfl, hU2, by have := hB2 2 (by decide); omega, by omega, Int.lt_of_le_of_lt (b := 21) (by omega) (by decide), fun m S3 m0 m1 hU3 ho3 => ?_⟩
  dsimp only
  refine ⟨by omega, ?_⟩
  obtain ⟨m, rfl⟩ := Int.eq_ofNat_of_zero_le m0
  rw [Int.toNat_natCast]
  have hm : m ≤ 20 := by have : (m : Int) < n := m1; omega
  have ho : Oth S S3 u := (ho1.trans ho2).trans ho3
  have hw5 : (w : Int) < 2 ^ 1000 := Int.lt_of_le_of_lt (b := 999999) (by omega) (by decide)
  have hbc : ∀ c : Int, c ≤ 100 → B + 1 + 1 + 1 + c ≤ 2 ^ 100 := fun c h => by have := hB2 (c + 3); have := Int.le_trans (Int.add_le_add hB (show c + 3 ≤ 200 by omega)) (show (2 : Int) ^ 98 + 200 ≤ 2 ^ 100 by decide); omega
  refine comp_invO (rgD 0 m) S3 (fun p acc S' => ∃ l : List Int, acc = l.map D.int ∧ (∀ a ∈ l, 1 ≤ a ∧ a ≤ w) ∧ Urn S' u (B + 3 + acc.length) ∧ ∀ a, a ≠ u → a ≠ p → S' a = S3 a) (fun R hR => hR) (fun p hp => ⟨[], rfl, (fun a h => by cases h), (hU3.up (hU3.ne hp)).mono (by show _ ≤ B + 3 + (0 : Nat); omega), fun a _ ha => upS_ne ha⟩) ?_ (by rw [rgD_len]; omega) ?_
  · rintro p pre x r acc S4 Q' hp hx hlen ⟨l, rfl, hl, hU4, ho4⟩ hS4 kk
    have up := hU3.ne hp
    have hb : pre.length < m := by
      have := congrArg List.length hx
      rw [rgD_len, List.length_append, List.length_cons] at this
      omega
    rw [List.length_map] at hlen
    show dOp rdAdd (dC (.int 1)) (dCall sp_law_draw [] wd0 (dCons (dVar 0) (dCons (dVar 2) dNil))) [some (.obj u), some (.int 20), some (.int w), none, some x] S4 Q'
    walk_at "dy"
    refine ⟨u, w, _, rfl, hU4, by rw [List.length_map]; have := hbc (l.length); omega, by omega, hw5, fun v S5 v0 v1 hU5 ho5 => ?_⟩
    rw [List.length_map] at hU5
    try walk_at "dy"
    refine kk _ S5 ((ho5 p (Ne.symm up)).trans hS4) ⟨l ++ [1 + v], by rw [List.map_append]; rfl, fun a ha => ?_, (hU5.up up).mono ?_, fun a h1 h2 => ?_⟩
    · rcases List.mem_append.mp ha with ha | ha
      · exact hl a ha
      · rw [List.mem_singleton.mp ha]; omega
    · rw [List.length_append, List.length_map]
      show _ ≤ B + 3 + ((l.length + 1 : Nat) : Int)
      omega
    · rw [upS_ne h2, ho5 a h1, ho4 a h1 h2]
  · rintro p acc S4 hp hn' ⟨l, rfl, hl, hU4, ho4⟩ hS4
    rw [List.length_map, rgD_len] at hn'
    have up := hU3.ne hp
    rw [List.length_map] at hU4
    have ext : ∀ {S' : Sd}, (∀ a, a ≠ u → a ≠ p → S' a = S4 a) → Ext (Dv.del S u) S' := fun h x y e => by
      have xu : x ≠ u := fun e' => by rw [e', Dv.del_same] at e; cases e
      rw [Dv.del_ne xu] at e
      have xp : x ≠ p := fun e' => by
        have : S3 x = some y := (ho x xu).trans e
        rw [e', hp] at this
        cases this
      rw [h x xu xp, ho4 x xu xp, ho x xu]
      exact e
    have l20 : l.length ≤ 20 := by omega
    subst hr
    refine seq_step fun r hr => ?_
    have e20 : (2 : Nat) ^ 20 = 1048576 := (by decide)
    have fin : ∀ (A : List Int) (S' : Sd) (z : Option D), S' p = some (.lst (A.map D.int)) → A.length ≤ 20 → (∀ a ∈ A, a.natAbs ≤ 999999) → (∀ a ∈ A.tail, 1 ≤ a) → Urn S' u (B + 100) → (∀ a, a ≠ u → a ≠ p → S' a = S4 a) → r { nx := fun _ S' => Q .non S', rt := Q } [some (.obj u), some (.int 20), some (.int w), some (.obj p), z] S' := fun A S' z hS' h1 h2 h3 h4 h5 => by
      subst hr
      walk_at "dy"
      refine tup_at hS' ?_
      exact q A S' h1 h2 h3 h4 (ext h5)
    have ll : ∀ a ∈ l, a.natAbs ≤ 999999 := fun a ha => by have := hl a ha; omega
    have lt : ∀ a ∈ l.tail, 1 ≤ a := fun a ha => (hl a (List.mem_of_mem_tail ha)).1
    walk_at "dy"
    refine neO_nil hS4 ?_
    by_cases c : l = []
    · subst c
      rw [decide_eq_true rfl]
      try walk_at "dy"
      exact fin _ _ _ hS4 l20 ll lt (hU4.mono (by show B + 3 + ((0 : Nat) : Int) ≤ _; omega)) (fun _ _ _ => rfl)
    rw [decide_eq_false c]
    try walk_at "dy"
    refine ⟨u, 2, _, rfl, hU4, by have := hbc l.length (by omega); omega, by decide, by decide, fun v S5 v0 v1 hU5 ho5 => ?_⟩
    have hS5 : S5 p = some (.lst (l.map D.int)) := (ho5 p (Ne.symm up)).trans hS4
    try walk_at "dy"
    by_cases c2 : v = 0
    · rw [if_pos c2]
      refine ⟨mulOk 2 20 (by decide) (by rw [Int.natAbs_natCast]; omega) (by decide) (by decide) (by decide), ?_⟩
      refine ⟨u, _, _, rfl, hU5, by have := hbc (l.length + 1) (by omega); omega, by omega, Int.lt_of_le_of_lt (b := 2000001) (by omega) (by decide), fun v2 S6 v2a v2b hU6 ho6 => ?_⟩
      have hS6 : S6 p = some (.lst (l.map D.int)) := (ho6 p (Ne.symm up)).trans hS5
      obtain ⟨a, t, rfl⟩ : ∃ a t, l = a :: t := ⟨_, _, (List.cons_head_tail c).symm⟩
      try walk_at "dy"
      rw [x_set hS6 (ixN_0 (by simp))]
      refine fin ((v2 - w) :: t) _ _ upS_same l20 (fun b hb => ?_) lt ((hU6.up up).mono ?_) (fun x h1 h2 => by rw [upS_ne h2, ho6 x h1, ho5 x h1])
      · rcases List.mem_cons.mp hb with rfl | hb
        · omega
        · exact ll b (List.mem_cons_of_mem _ hb)
      · have : (a :: t).length ≤ 20 := l20
        omega
    · rw [if_neg c2]
      exact fin _ _ _ hS5 l20 ll lt (hU5.mono (by omega)) (fun x h1 _ => ho5 x h1)

theorem pure_law_number : ∀ ds S Q Ed, sp_law_number ds S Q Ed → t_law_number Ed { nx := fun _ S' => Q .non S', rt := Q } (startD N_law_number ds) S := by
  rintro ds S Q Ed ⟨A, R, rfl, H, q⟩
  rw [st_law_number]
  unfold t_law_number
  have tr := H.tr
  have ta := H.ta
  obtain ⟨s1, s2, s3, s4, s5, s6, s7⟩ := ln_sz tr ta
  have u0 := ln_u0 (A := A) H.p1 H.r0
  have lt : ∀ {x : Int} {k : Nat}, x.natAbs ≤ 2 ^ k → k < 3000 → x.natAbs < 2 ^ 3000 := fun h k => Nat.lt_of_le_of_lt h (Nat.pow_lt_pow_right (by decide) k)
  have mk : ∀ {a b : Int} {j k : Nat}, a.natAbs ≤ 2 ^ j → b.natAbs ≤ 2 ^ k → j < 3000 → k < 3000 → a.natAbs.log2 + b.natAbs.log2 < 1000000 := fun h1 h2 k1 k2 => mulOk 3000 3000 (lt h1 k1) (lt h2 k2) (by decide) (by decide) (by decide)
  have two : (2 : Int).natAbs ≤ 2 ^ 1 := by decide
  have four : (4 : Int).natAbs ≤ 2 ^ 2 := by decide
  have rg : ∀ a ∈ R, a.natAbs + 1 ≤ 2 ^ 20 := fun a ha => by
    have := H.r1 a ha
    have e : (2 : Nat) ^ 20 = 1048576 := (by decide)
    omega
  refine seq_step fun r hr => ?_
  walk_at "dy"
  refine ⟨R, 20, rfl, rg, by decide, by have := H.rl; omega, ?_⟩
  try walk_at "dy"
  subst hr
  refine seq_step fun r hr => ?_
  walk_at "dy"
  refine ⟨mk two tr.r (by decide) (by decide), ?_⟩
  subst hr
  refine seq_step fun r hr => ?_
  walk_at "dy"
  have hT : (t4L R).p - (t4L R).s = lnT R := rfl
  have hD : lnT R * lnT R + 4 * (t4L R).q * (t4L R).r = upN (t4L R) := rfl
  rw [hT]
  refine ⟨mk s1 s1 (by decide) (by decide), mk four tr.q (by decide) (by decide), mk (le_mul2 four tr.q (Nat.le_refl _)) tr.r (by decide) (by decide), ?_⟩
  rw [hD]
  subst hr
  refine seq_step fun r hr => ?_
  walk_at "dy"
  refine ⟨A, 20, rfl, H.a2, by decide, by have := H.al; omega, ?_⟩
  try walk_at "dy"
  subst hr
  have eX : (t4L A).p * lnT R + (t4L A).q * (2 * (t4L R).r) = lnX A R := rfl
  have eY : (t4L A).r * lnT R + (t4L A).s * (2 * (t4L R).r) = lnY A R := rfl
  have eU : lnY A R * lnY A R - (t4L A).r * (t4L A).r * upN (t4L R) = lnU A R := rfl
  have eO : (t4L A).p * lnY A R - lnX A R * (t4L A).r = lnO A R := rfl
  have eN : lnX A R * lnY A R - (t4L A).p * (t4L A).r * upN (t4L R) = lnN A R := rfl
  have twr := le_mul2 two tr.r (Nat.le_refl _)
  refine seq_step fun r hr => ?_
  walk_at "dy"
  refine ⟨mk ta.p s1 (by decide) (by decide), mk ta.q twr (by decide) (by decide), ?_⟩
  rw [eX]
  subst hr
  refine seq_step fun r hr => ?_
  walk_at "dy"
  refine ⟨mk ta.r s1 (by decide) (by decide), mk ta.s twr (by decide) (by decide), ?_⟩
  rw [eY]
  subst hr
  refine seq_step fun r hr => ?_
  walk_at "dy"
  refine ⟨mk s3 s4 (by decide) (by decide), mk ta.p ta.r (by decide) (by decide), mk (le_mul2 ta.p ta.r (Nat.le_refl _)) s2 (by decide) (by decide), mk ta.p s4 (by decide) (by decide), mk s3 ta.r (by decide) (by decide), mk s4 s4 (by decide) (by decide), mk ta.r ta.r (by decide) (by decide), mk (le_mul2 ta.r ta.r (Nat.le_refl _)) s2 (by decide) (by decide), ?_⟩
  rw [eU, eO, eN]
  have fin : r { nx := fun _ S' => Q .non S', rt := Q } [some (ringD A), some (ringD R), some (D.int (t4L A).p), some (D.int (t4L A).q), some (D.int (t4L A).r),
      some (D.int (t4L A).s), some (D.int (lnT R)), some (D.int (2 * (t4L R).r)), some (D.int (upN (t4L R))),
      some (D.int (lnX A R)), some (D.int (lnY A R)), some (D.lst [D.int (lnN A R), D.int (lnO A R), D.int (lnU A R)]),
      none] S := by
    subst hr
    refine seq_step fun r hr => ?_
    have fin : ∀ (a b c : Int) (z : Option D), a = lnS A R * lnN A R → b = lnS A R * lnO A R → c = lnS A R * lnU A R → r { nx := fun _ S' => Q .non S', rt := Q } [some (ringD A), some (ringD R), some (D.int (t4L A).p), some (D.int (t4L A).q), some (D.int (t4L A).r),
      some (D.int (t4L A).s), some (D.int (lnT R)), some (D.int (2 * (t4L R).r)), some (D.int (upN (t4L R))),
      some (D.int (lnX A R)), some (D.int (lnY A R)), some (D.lst [D.int a, D.int b, D.int c]), z] S := fun a b c z ea eb ec => by
      subst hr
      walk_at "dy"
      rw [ea, eb, ec]
      exact q
    walk_at "dy"
    by_cases c : lnU A R < 0
    · rw [if_pos c]
      have eg : lnS A R = -1 := by unfold lnS; rw [if_neg (by omega)]
      refine comp_pure (fun d => match d with | .int x => .int (0 - x) | d => d) [D.int (lnN A R), D.int (lnO A R), D.int (lnU A R)] S (fun R' hR => hR) (fun x hx S' Q' q' => ?_) (by show 3 ≤ 16777216; decide) ?_
      · simp only [List.mem_cons, List.not_mem_nil, or_false] at hx
        rcases hx with rfl | rfl | rfl <;> exact q'
      · exact fin _ _ _ _ (by rw [eg]; omega) (by rw [eg]; omega) (by rw [eg]; omega)
    · rw [if_neg c]
      have eg : lnS A R = 1 := by unfold lnS; rw [if_pos (by omega)]
      exact fin _ _ _ _ (by rw [eg, Int.one_mul]) (by rw [eg, Int.one_mul]) (by rw [eg, Int.one_mul])
  exact fin

theorem rev_take {A : List Int} {p r : List D} {x : D} (e : (A.map D.int).reverse = p ++ x :: r) : ∃ (n : Int) (W : List Int), x = .int n ∧ (W.map D.int).reverse = p ∧ ∃ Z, A = Z ++ n :: W := by
  have e2 : A.map D.int = (p ++ x :: r).reverse := by rw [← e, List.reverse_reverse]
  rw [List.reverse_append, List.reverse_cons, List.append_assoc, List.singleton_append] at e2
  obtain ⟨M, a, R, eA, ex, eM⟩ := mpI_split e2
  refine ⟨a, R, ex, ?_, M, eA⟩
  rw [eA] at e2
  rw [List.map_append, List.map_cons, eM, ← ex] at e2
  have := List.append_cancel_left e2
  injection this with _ h
  rw [h, List.reverse_reverse]
theorem tw_gcd (L : List Int) : Int.gcd (t4L L).p (t4L L).r = 1 := by
  have d := tw_det L
  have h : ((Int.gcd (t4L L).p (t4L L).r : Nat) : Int) ∣ 1 := by
    have h1 : ((Int.gcd (t4L L).p (t4L L).r : Nat) : Int) ∣ (t4L L).p := Int.gcd_dvd_left ..
    have h2 : ((Int.gcd (t4L L).p (t4L L).r : Nat) : Int) ∣ (t4L L).r := Int.gcd_dvd_right ..
    have h3 : ((Int.gcd (t4L L).p (t4L L).r : Nat) : Int) ∣ (t4L L).p * (t4L L).s - (t4L L).q * (t4L L).r := Int.dvd_sub (Int.dvd_mul_of_dvd_left h1) (Int.dvd_mul_of_dvd_right h2)
    rcases d with d | d <;> rw [d] at h3
    · exact h3
    · exact Int.dvd_neg.mp h3
  have := Int.natAbs_dvd_natAbs.mpr h
  simpa using this
theorem pure_law_fraction : ∀ ds S Q Ed, sp_law_fraction ds S Q Ed → t_law_fraction Ed { nx := fun _ S' => Q .non S', rt := Q } (startD N_law_fraction ds) S := by
  rintro ds S Q Ed ⟨L, rfl, h0, h1, hb, hl, q⟩
  rw [st_law_fraction]
  unfold t_law_fraction
  obtain ⟨Z, x, rfl⟩ : ∃ (Z : List Int) (x : Int), L = Z ++ [x] := ⟨L.dropLast, L.getLast h0, (List.dropLast_concat_getLast h0).symm⟩
  refine seq_step fun r hr => ?_
  walk_at "dy"
  have last_at : atI ((Z ++ [x]).map D.int) (-1) = some (.int x) := by
    rw [List.map_append]
    show atI (Z.map D.int ++ [D.int x]) (-1) = _
    unfold atI
    rw [ixN_last (by simp)]
    simp
  show ixQ S _ (atI ((Z ++ [x]).map D.int) (-1))
  rw [last_at]
  try walk_at "dy"
  subst hr
  refine seq_step fun r hr => ?_
  walk_at "dy"
  have eZ : ((Z ++ [x]).map D.int).dropLast.reverse = (Z.map D.int).reverse := by rw [List.map_append]; simp
  show dLoop _ _ _ ((Z ++ [x]).map D.int).dropLast.reverse _ _
  rw [eZ]
  refine loop_all (fun p σ S' => ∃ (W : List Int) (z : Option D), (W.map D.int).reverse = p ∧ σ = [some (ringD (Z ++ [x])), some (.int (t4L (W ++ [x])).p), some (.int (t4L (W ++ [x])).r), z] ∧ S' = S) ⟨[], none, rfl, ?_, rfl⟩ ?_ ?_
  · have e : t4L ([] ++ [x]) = ⟨x, 1, 1, 0⟩ := by
      show t4S ⟨1, 0, 0, 1⟩ x = _
      unfold t4S
      simp
    rw [e]
  · rintro p y rr σ S' N e ⟨W, z, hp, rfl, rfl⟩ k
    obtain ⟨n, W', rfl, hp', Z', eZ'⟩ := rev_take e
    have eW : W = W' := mpI_inj (List.reverse_inj.mp (hp.trans hp'.symm))
    subst eW
    walk_at "dy"
    have hn : n.natAbs < 2 ^ 20 := by
      have := hb n (by rw [eZ']; simp)
      omega
    have lW : (W ++ [x]).length ≤ 100 := by
      have := hl
      rw [eZ'] at this
      simp at this ⊢
      omega
    have bw := (t4_wide (c := 20) (L := W ++ [x]) fun a ha => hb a (by
      rw [eZ']
      rcases List.mem_append.mp ha with h | h
      · simp [h]
      · exact List.mem_append_right _ h)).1
    have bw2 : (t4L (W ++ [x])).p.natAbs < 2 ^ 2001 := Nat.lt_of_le_of_lt (Nat.le_trans bw (Nat.pow_le_pow_right (by decide) (show 20 * (W ++ [x]).length ≤ 2000 by omega))) (Nat.pow_lt_pow_right (by decide) (by decide))
    refine ⟨mulOk 20 2001 hn bw2 (by decide) (by decide) (by decide), ?_⟩
    exact k _ _ ⟨n :: W, some (.int n), by rw [List.map_cons, List.reverse_cons, hp'], by rw [List.cons_append, tw_cons], rfl⟩
  · rintro σ S' ⟨W, z, hp, rfl, rfl⟩
    have eW : W = Z := mpI_inj (List.reverse_inj.mp hp)
    subst eW
    subst hr
    walk_at "dy"
    have r0 : 0 ≤ (t4L (W ++ [x])).r := by
      cases W with
      | nil =>
        have e : t4L ([] ++ [x]) = ⟨x, 1, 1, 0⟩ := by
          show t4S ⟨1, 0, 0, 1⟩ x = _
          unfold t4S
          simp
        rw [e]
        show (0 : Int) ≤ 1
        decide
      | cons a W =>
        rw [List.cons_append, tw_cons]
        have := (tw_nn (W ++ [x]) h1).p
        show 0 ≤ (t4L (W ++ [x])).p
        omega
    have bw := (t4_wide (c := 20) hb).1
    have bw2 : (t4L (W ++ [x])).p.natAbs < 2 ^ 2001 := Nat.lt_of_le_of_lt (Nat.le_trans bw (Nat.pow_le_pow_right (by decide) (show 20 * (W ++ [x]).length ≤ 2000 by omega))) (Nat.pow_lt_pow_right (by decide) (by decide))
    rw [if_neg (by omega), if_neg (by omega)]
    have e1 : atI [D.int 1, D.int (-1)] 0 = some (.int 1) := rfl
    rw [e1]
    walk_at "dy"
    refine ⟨mulOk 2001 1 bw2 (by decide) (by decide) (by decide) (by decide), ?_⟩
    rw [Int.mul_one]
    exact ⟨_, _, rfl, tw_gcd _, q⟩

theorem for_lst_go {t : TAD} {g : TGD} {tb : TSD} {D : EndsD} {σ : Si} {S : Sd} (h : t σ S fun ds S1 => ds.length ≤ 16777216 ∧ dLoop g tb D ds σ S1) : dFor (dItr (dLst t)) g tb D σ S := h
theorem name_go {i : Nat} {x : D} {σ : Si} {S : Sd} {K : Si → Sd → Prop} (h : K (σ.set i (some x)) S) : dName i x σ S K := h
theorem add_go {i j : Int} {S : Sd} {Q : DK} (q : Q (.int (i + j)) S) : rdAdd (.int i) (.int j) S Q := q
theorem pure_law_fractions_right : ∀ ds S Q Ed, sp_law_fractions_right ds S Q Ed → t_law_fractions_right Ed { nx := fun _ S' => Q .non S', rt := Q } (startD N_law_fractions_right ds) S := by
  rintro ds S Q Ed ⟨u, B, A, R, rfl, H, hA, hU, hB, k⟩
  rw [st_law_fractions_right]
  unfold t_law_fractions_right
  refine seq_step fun r hr => ?_
  walk_at "dy"
  refine ⟨A, R, rfl, H, ?_⟩
  subst hr
  refine seq_step fun r hr => ?_
  refine for_lst_go ?_
  refine cons_go (c_go (cons_go (c_go (cons_go (op_go (c_go (call_go (cons_go (var_go rfl (cons_go (c_go (nil_go ?_))))))))))))
  refine ⟨u, 12, B, rfl, hU, by omega, by decide, by decide, fun w S1 w0 w1 hU1 ho1 => ?_⟩
  refine add_go ?_
  refine cons_go (op_go (c_go (call_go (cons_go (var_go rfl (cons_go (c_go (nil_go ?_))))))))
  refine ⟨u, 100, _, rfl, hU1, by omega, by decide, by decide, fun v S2 v0 v1 hU2 ho2 => ?_⟩
  refine add_go (nil_go ?_)
  refine ⟨by show 4 ≤ 16777216; decide, ?_⟩
  have ho := ho1.trans ho2
  have hn : ∀ y ∈ [D.int 1, .int 2, .int (1 + w), .int (1 + v)], ∃ n : Nat, y = .int (n : Int) ∧ 1 ≤ n ∧ n ≤ 100 := fun y hy => by
    simp only [List.mem_cons, List.not_mem_nil, or_false] at hy
    rcases hy with rfl | rfl | rfl | rfl
    · exact ⟨1, rfl, by decide, by decide⟩
    · exact ⟨2, rfl, by decide, by decide⟩
    · exact ⟨(1 + w).toNat, by congr 1; omega, by omega, by omega⟩
    · exact ⟨(1 + v).toNat, by congr 1; omega, by omega, by omega⟩
  generalize [D.int 1, .int 2, .int (1 + w), .int (1 + v)] = ns at *
  simp only [List.set_cons_zero, List.set_cons_succ]
  obtain ⟨fp, f0, fm, fl, fa, _, frow⟩ := few_few (A := A) H.r0
  have fa2 : ∀ a ∈ (fewest A R).1, a.natAbs + 1 ≤ 2 ^ 20 := fun a ha => by
    obtain ⟨m, e⟩ := fa
    rw [e] at ha
    exact H.a2 a (List.mem_of_mem_take ha)
  have fa3 : (fewest A R).1.length ≤ 1000 := by
    obtain ⟨m, e⟩ := fa
    rw [e, List.length_take]
    have := H.al
    omega
  have rw20 : ∀ a ∈ R, a.natAbs + 1 ≤ 2 ^ 20 := fun a ha => by
    have := H.r1 a ha
    have e : (2 : Nat) ^ 20 = 1048576 := by decide
    omega
  have fr1 : 1 ≤ (fewest A R).2.length := ne_len f0
  have fr2 : (fewest A R).2.length ≤ 1000 := by have := H.rl; omega
  have er : ∀ n, rwA (fewest A R).1 (fewest A R).2 n = (List.range n).map (rowF A R) := fun n => by
    unfold rwA
    exact List.map_congr_left fun i _ => frow i
  have hLen := H.rl
  have hLa := H.al
  have l0 := ne_len H.r0
  refine loop_all (fun pre σ S' => ∃ a b c, σ = [some (.obj u), some (stF (fewest A R)), some (ringD A), some (ringD R), some (ptD (lnS A R * lnN A R) (lnS A R * lnO A R) (upN (t4L R)) (lnS A R * lnU A R)), a, b, c] ∧ S' = S2) ⟨none, none, none, rfl, rfl⟩ ?_ ?_
  · rintro pre y rr σ S3 N e ⟨a, b, c, rfl, rfl⟩ kk
    obtain ⟨n, rfl, n1, n2⟩ := hn y (by rw [e]; simp)
    have eL := er n
    have h0 : (List.range n).map (rowF A R) ≠ [] := fun z => by
      have := congrArg List.length z
      simp at this
      omega
    have hl : ((List.range n).map (rowF A R)).length ≤ 100 := by simp; omega
    have wide : ∀ a ∈ (List.range n).map (rowF A R), a.natAbs + 1 ≤ 2 ^ 20 := fun a ha => by
      obtain ⟨i, _, rfl⟩ := List.mem_map.mp ha
      rcases at_mem (A := A) (R := R) (by omega) i with h | h
      · exact H.a2 _ h
      · exact rw20 _ h
    have tl := row_tl H.p1 H.r0 hA n
    have par := conv_row H.p1 H.r0 hA (T := lnS A R * lnN A R) (O := lnS A R * lnO A R) (B := lnS A R * lnU A R) (ln_b H.p1 H.r0).1 (ln_num A R _) n1
    have et := told_take (A := A) H.r0 n2
    generalize (List.range n).map (rowF A R) = L at *
    have r1 : 1 ≤ (t4L L).r := by
      cases L with
      | nil => exact absurd rfl h0
      | cons x L =>
        rw [tw_cons]
        exact (tw_nn L tl).p
    have bl : (t4L L).p.natAbs < 2 ^ 2010 ∧ (t4L L).r.natAbs < 2 ^ 2010 := by
      obtain ⟨b1, b2, b3, b4⟩ := t4_wide wide
      have hx : 2 ^ (20 * L.length) < 2 ^ 2010 := Nat.pow_lt_pow_right (by decide) (by omega)
      exact ⟨Nat.lt_of_le_of_lt b1 hx, Nat.lt_of_le_of_lt b3 hx⟩
    have fr20 : ∀ a ∈ (fewest A R).2, a.natAbs + 1 ≤ 2 ^ 20 := fun a ha => rw20 a (fm a ha)
    refine name_go ?_
    simp only [List.set_cons_zero, List.set_cons_succ]
    refine seq_step fun r2 hr2 => ?_
    unfold dMeth
    walk_at "dy"
    refine ⟨⟨_, _, rfl, by decide +kernel⟩, ?_⟩
    refine ⟨_, _, n, rfl, fr1, fr2, fa3, fa2, fr20, n2, ?_⟩
    rw [eL]
    try walk_at "dy"
    subst hr2
    refine seq_step fun r2 hr2 => ?_
    walk_at "dy"
    refine ⟨_, _, rfl, r1, tw_gcd L, ?_⟩
    dsimp only
    rw [if_neg (by decide)]
    have lt2 : (told R 100).length = 100 * R.length := told_len R 100
    refine ⟨⟨fun z => H.r0 (List.map_eq_nil_iff.mp z), by decide, by decide, by rw [List.length_map]; omega⟩, ?_⟩
    show rdAdd (.tup (A.map D.int)) (.tup (List.replicate 100 (R.map D.int)).flatten) S3 _
    rw [told_D]
    refine ⟨by rw [List.length_map, List.length_map, lt2]; omega, ?_⟩
    rw [← List.map_append]
    dsimp only
    rw [x_sl_t]
    try dsimp only
    rw [cutD_to (by rw [List.length_map, List.length_append, lt2]; omega), ← List.map_take, et]
    refine ⟨L, rfl, h0, tl, wide, hl, ?_⟩
    refine x_ne_self (okD_eqOk (okD_ints [_, _]) (by decide)) ?_
    dsimp only
    rw [if_neg (by decide)]
    subst hr2
    refine seq_step fun r2 hr2 => ?_
    walk_at "dy"
    subst hr2
    walk_at "dy"
    obtain ⟨s1, s2, s3, s4, s5, s6, s7⟩ := ln_sz H.tr H.ta
    have up : ∀ {x : Int} {k : Nat}, x.natAbs ≤ 2 ^ k → k < 2500 → x.natAbs < 2 ^ 2500 := fun h k => Nat.lt_of_le_of_lt h (Nat.pow_lt_pow_right (by decide) k)
    refine ⟨_, _, _, _, _, _, rfl, bl.1, bl.2, by rw [lnS_abs]; exact up s7 (by decide), by rw [lnS_abs]; exact up s6 (by decide), up s2 (by decide), by rw [lnS_abs]; exact up s5 (by decide), ?_⟩
    rw [par]
    have eb : decide ((0 : Int) < if n % 2 = 1 then 1 else -1) = decide ((n : Int).fmod 2 = 1) := by
      have em : (n : Int).fmod 2 = ((n % 2 : Nat) : Int) := by
        rw [Int.fmod_eq_emod_of_nonneg _ (by decide)]
        rfl
      rw [em]
      by_cases c : n % 2 = 1
      · rw [if_pos c, c]; rfl
      · rw [if_neg c, decide_eq_false (by decide), decide_eq_false (by omega)]
    rw [eb]
    dsimp only
    refine ⟨by decide, ?_⟩
    rw [x_ne_bb, decide_eq_true rfl]
    dsimp only
    rw [if_neg (by decide)]
    unfold dMethK
    walk_at "dy"
    refine ⟨⟨_, _, rfl, by decide +kernel⟩, ?_⟩
    refine ⟨_, _, n, rfl, fr1, fr2, fa3, fa2, fr20, n2, ?_⟩
    rw [eL]
    refine x_ne_self (okD_eqOk (okD_ints [_, _]) (by decide)) ?_
    dsimp only
    rw [if_neg (by decide)]
    exact kk _ _ ⟨_, _, _, rfl, rfl⟩
  · rintro σ S3 ⟨a, b, c, rfl, rfl⟩
    subst hr
    walk_at "dy"
    exact k _ (hU2.mono (by omega)) ho

theorem sm_ring {L : List Int} (R : RowI L) : sm 20 (ringD L) = true := smT.mpr fun d hd => by
  obtain ⟨a, ha, rfl⟩ := List.mem_map.mp hd
  have := R.el a ha
  exact sm_int.mpr (abs_lt_of (by omega) (by omega))
theorem mul_can {a b c : Int} (h : a ≠ 0) (e : a * b = a * c) : b = c := Int.eq_of_mul_eq_mul_left h e
theorem fm_parts {L : List Int} (R : RowI L) : ∃ a b c : Int, (t4L L).r.fdiv (fmG L) = a ∧ ((t4L L).s - (t4L L).p).fdiv (fmG L) = b ∧ (0 - (t4L L).q).fdiv (fmG L) = c ∧ (t4L L).r = fmG L * a ∧ (t4L L).s - (t4L L).p = fmG L * b ∧ 0 - (t4L L).q = fmG L * c ∧ 1 ≤ a ∧ Int.gcd (Int.gcd a b : Nat) c = 1 := by
  have G := fmG_pos R
  have g0 : fmG L ≠ 0 := by omega
  have dg : fmG L ∣ (Int.gcd (t4L L).r ((t4L L).s - (t4L L).p) : Nat) := by unfold fmG; exact Int.gcd_dvd_left ..
  have d3 : fmG L ∣ 0 - (t4L L).q := by rw [Int.zero_sub]; exact Int.dvd_neg.mpr (by unfold fmG; exact Int.gcd_dvd_right ..)
  have d1 : fmG L ∣ (t4L L).r := Int.dvd_trans dg (Int.gcd_dvd_left ..)
  have d2 : fmG L ∣ (t4L L).s - (t4L L).p := Int.dvd_trans dg (Int.gcd_dvd_right ..)
  have top : ∀ e : Int, e ∣ (t4L L).r → e ∣ (t4L L).s - (t4L L).p → e ∣ 0 - (t4L L).q → e ∣ fmG L := fun e h1 h2 h3 => by
    unfold fmG
    exact Int.dvd_coe_gcd (Int.dvd_coe_gcd h1 h2) (by rw [Int.zero_sub] at h3; exact Int.dvd_neg.mp h3)
  have r1 : 1 ≤ (t4L L).r := by omega
  generalize fmG L = g at *
  generalize (t4L L).r = r at *
  generalize (t4L L).s - (t4L L).p = t at *
  generalize 0 - (t4L L).q = q at *
  obtain ⟨a, rfl⟩ := d1
  obtain ⟨b, rfl⟩ := d2
  obtain ⟨c, rfl⟩ := d3
  refine ⟨a, b, c, Int.mul_fdiv_cancel_left _ g0, Int.mul_fdiv_cancel_left _ g0, Int.mul_fdiv_cancel_left _ g0, rfl, rfl, rfl, ?_, ?_⟩
  · rcases Int.lt_or_le 0 a with c | c
    · omega
    · have : g * a ≤ g * 0 := Int.mul_le_mul_of_nonneg_left c (by omega)
      omega
  · have hd : ((Int.gcd (Int.gcd a b : Nat) c : Nat) : Int) ∣ 1 := by
      have e1 : ((Int.gcd (Int.gcd a b : Nat) c : Nat) : Int) ∣ (Int.gcd a b : Nat) := Int.gcd_dvd_left ..
      have eC : ((Int.gcd (Int.gcd a b : Nat) c : Nat) : Int) ∣ c := Int.gcd_dvd_right ..
      have eA : ((Int.gcd (Int.gcd a b : Nat) c : Nat) : Int) ∣ a := Int.dvd_trans e1 (Int.gcd_dvd_left ..)
      have eB : ((Int.gcd (Int.gcd a b : Nat) c : Nat) : Int) ∣ b := Int.dvd_trans e1 (Int.gcd_dvd_right ..)
      generalize ((Int.gcd (Int.gcd a b : Nat) c : Nat) : Int) = d at *
      obtain ⟨k, hk⟩ := top (g * d) (Int.mul_dvd_mul_left g eA) (Int.mul_dvd_mul_left g eB) (Int.mul_dvd_mul_left g eC)
      refine ⟨k, ?_⟩
      have : g * 1 = g * (d * k) := by rw [← Int.mul_assoc, ← hk]; omega
      exact Int.eq_of_mul_eq_mul_left g0 this
    have h1 := Int.natAbs_dvd_natAbs.mpr hd
    simpa using h1
theorem pure_law_form_right : ∀ ds S Q Ed, sp_law_form_right ds S Q Ed → t_law_form_right Ed { nx := fun _ S' => Q .non S', rt := Q } (startD N_law_form_right ds) S := by
  rintro ds S Q Ed ⟨L, rfl, R, q⟩
  rw [st_law_form_right]
  unfold t_law_form_right
  have smR := sm_ring R
  refine seq_step fun r hr => ?_
  walk_at "dy"
  refine ⟨ringD L, 20, rfl, smR, fun _ => ⟨L, rfl, R, ?_⟩, fun h => by rw [ring_is R] at h; cases h⟩
  subst hr
  refine seq_step fun r hr => ?_
  unfold frmD
  walk_at "dy"
  rw [if_neg (by decide)]
  refine comp_pure (fun _ => .bl true) _ S (fun R' hR' => hR') (fun y hy S' Q' q' => ?_) (by show 3 ≤ 16777216; decide) ?_
  · simp only [List.mem_cons, List.not_mem_nil, or_false] at hy
    rcases hy with rfl | rfl | rfl <;> walk_at "dy" <;> exact ⟨_, rfl, rfl, q'⟩
  refine x_allb (bs := [true, true, true]) rfl ?_
  dsimp only
  rw [if_neg (by decide)]
  subst hr
  refine seq_step fun r hr => ?_
  walk_at "dy"
  obtain ⟨a, b, c, ea, eb, ec, fa, fb, fc, a1, hg⟩ := fm_parts R
  rw [ea, eb, ec]
  subst hr
  refine seq_step fun r hr => ?_
  walk_at "dy"
  rw [if_neg (by omega)]
  refine ⟨a, b, rfl, _, c, rfl, ?_⟩
  rw [hg]
  dsimp only
  rw [x_ne_ii, decide_eq_true (by rfl)]
  dsimp only
  rw [if_neg (by decide)]
  subst hr
  refine seq_step fun r hr => ?_
  walk_at "dy"
  refine ⟨L, 20, rfl, ring_wide R, by decide, by have := R.l1; omega, ?_⟩
  try walk_at "dy"
  obtain ⟨b1, b2, b3, b4⟩ := t4_wide (ring_wide R)
  have hl : 20 * L.length ≤ 800 := by have := R.l1; omega
  replace b1 := le_up b1 hl
  replace b2 := le_up b2 hl
  replace b3 := le_up b3 hl
  replace b4 := le_up b4 hl
  have mo : ∀ {x y : Int}, x.natAbs ≤ 2 ^ 4000 → y.natAbs ≤ 2 ^ 4000 → x.natAbs.log2 + y.natAbs.log2 < 1000000 := fun hx hy => by
    have lt : ∀ {x : Int}, x.natAbs ≤ 2 ^ 4000 → x.natAbs < 2 ^ 4001 := fun h => Nat.lt_of_le_of_lt h (Nat.pow_lt_pow_right (by decide) (by decide))
    exact mulOk 4001 4001 (lt hx) (lt hy) (by decide) (by decide) (by decide)
  have G := fmG_pos R
  have small : ∀ {x y : Int} {k : Nat}, y = fmG L * x → y.natAbs ≤ 2 ^ k → x.natAbs ≤ 2 ^ k := fun e h => by
    rw [e, Int.natAbs_mul] at h
    have h1 : 1 ≤ (fmG L).natAbs := by omega
    exact Nat.le_trans (Nat.le_trans (by omega) (Nat.mul_le_mul_right _ h1)) h
  have sp := le_sub2 b4 b1 (show 800 + 1 ≤ 801 by decide)
  have ps := le_sub2 b1 b4 (show 800 + 1 ≤ 801 by decide)
  have za := small fa b3
  have zb := small fb sp
  have zc := small fc (by rw [Int.zero_sub, Int.natAbs_neg]; exact b2)
  have m1 : 2 * a * ((t4L L).p - (t4L L).s) + b * (2 * (t4L L).r) = 0 := mul_can (a := fmG L) (c := 0) (by omega) (by
    rw [Int.mul_zero]
    have : fmG L * (2 * a * ((t4L L).p - (t4L L).s) + b * (2 * (t4L L).r)) = 2 * (fmG L * a) * ((t4L L).p - (t4L L).s) + (fmG L * b) * (2 * (t4L L).r) := by grind
    rw [this, ← fa, ← fb]
    grind)
  have m2 : a * (((t4L L).p - (t4L L).s) * ((t4L L).p - (t4L L).s) + (((t4L L).p - (t4L L).s) * ((t4L L).p - (t4L L).s) + 4 * (t4L L).q * (t4L L).r)) + b * ((t4L L).p - (t4L L).s) * (2 * (t4L L).r) + c * (2 * (t4L L).r) * (2 * (t4L L).r) = 0 := mul_can (a := fmG L) (c := 0) (by omega) (by
    rw [Int.mul_zero]
    have : fmG L * (a * (((t4L L).p - (t4L L).s) * ((t4L L).p - (t4L L).s) + (((t4L L).p - (t4L L).s) * ((t4L L).p - (t4L L).s) + 4 * (t4L L).q * (t4L L).r)) + b * ((t4L L).p - (t4L L).s) * (2 * (t4L L).r) + c * (2 * (t4L L).r) * (2 * (t4L L).r)) = (fmG L * a) * (((t4L L).p - (t4L L).s) * ((t4L L).p - (t4L L).s) + (((t4L L).p - (t4L L).s) * ((t4L L).p - (t4L L).s) + 4 * (t4L L).q * (t4L L).r)) + (fmG L * b) * ((t4L L).p - (t4L L).s) * (2 * (t4L L).r) + (fmG L * c) * (2 * (t4L L).r) * (2 * (t4L L).r) := by grind
    rw [this, ← fa, ← fb, ← fc]
    grind)
  clear fa fb fc ea eb ec sp small G
  generalize (t4L L).p = p at *
  generalize (t4L L).q = q0 at *
  generalize (t4L L).r = r0 at *
  generalize (t4L L).s = s0 at *
  have two : (2 : Int).natAbs ≤ 2 ^ 1 := by decide
  have four : (4 : Int).natAbs ≤ 2 ^ 2 := by decide
  have u : ∀ {x : Int} {k : Nat}, x.natAbs ≤ 2 ^ k → k ≤ 4000 → x.natAbs ≤ 2 ^ 4000 := fun h k => le_up h k
  subst hr
  refine seq_step fun r hr => ?_
  walk_at "dy"
  refine ⟨mo (u two (by decide)) (u b3 (by decide)), ?_⟩
  have w2 : (2 * r0).natAbs ≤ 2 ^ 801 := le_mul2 two b3 (by decide)
  generalize 2 * r0 = w at *
  generalize ht : p - s0 = t at *
  subst hr
  refine seq_step fun r hr => ?_
  walk_at "dy"
  have tt : (t * t).natAbs ≤ 2 ^ 1602 := le_mul2 ps ps (by decide)
  have f4 : (4 * q0).natAbs ≤ 2 ^ 802 := le_mul2 four b2 (by decide)
  have f5 : (4 * q0 * r0).natAbs ≤ 2 ^ 1602 := le_mul2 f4 b3 (by decide)
  have sq : (t * t + 4 * q0 * r0).natAbs ≤ 2 ^ 1603 := le_add2 tt f5 (by decide)
  have sq2 : (t * t + (t * t + 4 * q0 * r0)).natAbs ≤ 2 ^ 1604 := le_add2 (le_up tt (by decide)) sq (by decide)
  refine ⟨mo (u ps (by decide)) (u ps (by decide)), mo (u four (by decide)) (u b2 (by decide)), mo (u f4 (by decide)) (u b3 (by decide)), ?_⟩
  subst hr
  refine seq_step fun r hr => ?_
  walk_at "dy"
  have bt : (b * t).natAbs ≤ 2 ^ 1602 := le_mul2 zb ps (by decide)
  refine ⟨mo (u ps (by decide)) (u ps (by decide)), mo (u za (by decide)) (u sq2 (by decide)), mo (u zb (by decide)) (u ps (by decide)), mo (u bt (by decide)) (u w2 (by decide)), ?_⟩
  subst hr
  walk_at "dy"
  have a2 : (2 * a).natAbs ≤ 2 ^ 801 := le_mul2 two za (by decide)
  have cw : (c * w).natAbs ≤ 2 ^ 1601 := le_mul2 zc w2 (by decide)
  refine ⟨mo (u two (by decide)) (u za (by decide)), mo (u a2 (by decide)) (u ps (by decide)), mo (u zb (by decide)) (u w2 (by decide)), ?_⟩
  rw [m1, if_pos rfl]
  refine ⟨mo (u zc (by decide)) (u w2 (by decide)), mo (u cw (by decide)) (u w2 (by decide)), ?_⟩
  rw [m2, decide_eq_true rfl]
  exact q

theorem pure_law_no_ring : ∀ ds S Q Ed, sp_law_no_ring ds S Q Ed → t_law_no_ring Ed { nx := fun _ S' => Q .non S', rt := Q } (startD N_law_no_ring ds) S := by
  rintro ds S Q Ed ⟨u, B, L, rfl, R, hU, hB, q⟩
  rw [st_law_no_ring]
  unfold t_law_no_ring ringD
  have l0 := R.l0
  have l1 := R.l1
  have hln : (L.map D.int).length = L.length := List.length_map _
  have hn5 : (L.length : Int) < 2 ^ 1000 := Int.lt_of_le_of_lt (b := 40) (by omega) (by decide)
  refine seq_step fun r hr => ?_
  walk_at "dy"
  rw [hln]
  refine ⟨u, _, B, rfl, hU, by omega, by omega, hn5, fun i S1 i0 i1 hU1 ho1 => ?_⟩
  walk_at "dy"
  obtain ⟨i, rfl⟩ := Int.eq_ofNat_of_zero_le i0
  subst hr
  refine seq_step fun r hr => ?_
  walk_at "dy"
  refine ⟨u, 10, _, rfl, hU1, by omega, by decide, by decide, fun j S2 j0 j1 hU2 ho2 => ?_⟩
  walk_at "dy"
  obtain ⟨b, eb, hb⟩ := atI_some (ds := badL) (i := j) j0 j1
  unfold badL at eb
  rw [show (-1 : Int) = -1 from rfl, eb]
  walk_at "dy"
  obtain ⟨nb, sb⟩ := bad_all b hb
  subst hr
  have sml : ∀ d ∈ L.map D.int, sm 30 d = true := fun d hd => by
    obtain ⟨a, ha, rfl⟩ := List.mem_map.mp hd
    have := R.el a ha
    exact sm_int.mpr (abs_lt_of (by omega) (by omega))
  have hne : L.map D.int ≠ [] := fun e => by
    have := congrArg List.length e
    rw [hln] at this
    have h2 : L.length = 0 := this
    omega
  have c1 := cutD_len (xs := L.map D.int) (lo := none) (hi := some (i : Int))
  have c2 := cutD_len (xs := L.map D.int) (lo := some ((i : Int) + 1)) (hi := none)
  have m1 := fun (d : D) (h : d ∈ cutD (L.map D.int) none (some (i : Int))) => sml d (cutD_mem h)
  have m2 := fun (d : D) (h : d ∈ cutD (L.map D.int) (some ((i : Int) + 1)) none) => sml d (cutD_mem h)
  rw [hln] at c1 c2
  have hU3 : Urn S2 u (B + 5) := hU2.mono (by omega)
  have ho3 : Oth S S2 u := ho1.trans ho2
  refine seq_step fun r hr => ?_
  simp only [dSeq, dSet, dLst, dCons, x_var0, x_varS, dTup, dNil, dCB, dSl, dNoPart, dPart, dC, x_sl_t, dOp, x_add_ii, x_add_tt, x_mulA_t, x_listA_t, List.set_cons_zero, List.set_cons_succ]
  refine ⟨by show 1 ≤ 16777216; decide, by show _ + 1 ≤ _; omega, by rw [List.length_append]; show _ + 1 + _ ≤ _; omega, by show 0 ≤ 16777216; decide, ⟨hne, by decide, by decide, by omega⟩, by show 1 ≤ 16777216; decide, by show 8 ≤ 16777216; decide, ?_⟩
  have lf := times_len (L.map D.int) 41
  rw [hln] at lf
  have e41 : cutD (List.replicate (Int.toNat 41) (L.map D.int)).flatten none (some (41 + (i : Int))) = ((List.replicate 41 (L.map D.int)).flatten).take (41 + i) := by
    have := cutD_first (List.replicate 41 (L.map D.int)).flatten (41 + i)
    rw [Int.natCast_add] at this
    exact this
  rw [e41]
  have l41 : 40 < (((List.replicate 41 (L.map D.int)).flatten).take (41 + i)).length := by rw [List.length_take, lf]; omega
  have s41 : ∀ d ∈ ((List.replicate 41 (L.map D.int)).flatten).take (41 + i), sm 30 d = true := fun d hd => by
    obtain ⟨l, hl, hdl⟩ := List.mem_flatten.mp (List.mem_of_mem_take hd)
    rw [List.eq_of_mem_replicate hl] at hdl
    exact sml d hdl
  generalize ((List.replicate 41 (L.map D.int)).flatten).take (41 + i) = w41 at *
  generalize hA : cutD (L.map D.int) none (some (i : Int)) = A at *
  generalize hC : cutD (L.map D.int) (some ((i : Int) + 1)) none = C at *
  generalize hM0 : [D.tup (A ++ [b] ++ C), D.lst (L.map D.int), D.tup [], D.tup w41, D.non, D.str (Str.ofString "ab"), D.tup [D.tup (L.map D.int)], D.int 3] = M
  have hM : M.length = 8 := by rw [← hM0]; rfl
  have hMs : ∀ d ∈ M, isRingD d = false ∧ sm 30 d = true := by
    rw [← hM0]
    intro d hd
    simp only [List.mem_cons, List.not_mem_nil, or_false] at hd
    rcases hd with rfl | rfl | rfl | rfl | rfl | rfl | rfl | rfl
    · refine ⟨ring_not ⟨b, by simp, nb⟩, smT.mpr fun d h => ?_⟩
      rcases List.mem_append.mp h with h | h
      · rcases List.mem_append.mp h with h | h
        · exact m1 d h
        · rw [List.mem_singleton.mp h]; exact sb
      · exact m2 d h
    · exact ⟨rfl, smLs.mpr sml⟩
    · exact ⟨rfl, rfl⟩
    · exact ⟨ring_long l41, smT.mpr s41⟩
    · exact ⟨rfl, rfl⟩
    · exact ⟨rfl, sm_str.mpr (by decide +kernel)⟩
    · exact ⟨ring_not ⟨_, List.mem_singleton.mpr rfl, rfl⟩, smT.mpr fun d h => by rw [List.mem_singleton.mp h]; exact smT.mpr sml⟩
    · exact ⟨rfl, sm_int.mpr (by decide)⟩
  subst hr
  walk_at "dy"
  refine ⟨u, 8, _, rfl, hU2, by omega, by decide, by decide, fun k S3 k0 k1 hU4 ho4 => ?_⟩
  walk_at "dy"
  obtain ⟨d, ed, hd⟩ := atI_some (ds := M) (i := k) k0 (by omega)
  rw [ed]
  exact q d S3 (hMs d hd).1 (hMs d hd).2 (hU4.mono (by omega)) (ho3.trans ho4)

theorem len_law : ∀ tb ds S Q E, spLawT tb ["law"] ds S Q E → ds.length = 1 := fun _ _ _ _ _ ⟨_, e, _⟩ => by rw [e]; rfl
/-- a row that may be handed in -/
structure RowOk (A R : List Int) : Prop where
  b : RowB A R
  a9 : ∀ a ∈ A, a.natAbs ≤ 999999
  tl : ∀ a ∈ A.tail, 1 ≤ a
theorem sm_row {L : List Int} (h : ∀ a ∈ L, a.natAbs + 1 ≤ 2 ^ 20) : sm 20 (ringD L) = true := smT.mpr fun d hd => by
  obtain ⟨a, ha, rfl⟩ := List.mem_map.mp hd
  have := h a ha
  exact sm_int.mpr (by omega)
theorem RowOk.ahead {A R : List Int} (h : RowOk A R) : aheadD (ringD A) = true := by
  match A, h with
  | [], _ => rfl
  | x :: xs, h =>
    have h9 := h.a9
    have hx := h9 x List.mem_cons_self
    have l := h.b.al
    rw [List.length_cons] at l
    show (decide (-999999 ≤ x ∧ x ≤ 999999) && (decide ((0 : Int) ≤ ((xs.map D.int).length : Int) ∧ ((xs.map D.int).length : Int) ≤ 19) && (xs.map D.int).all (winD 1 999999))) = true
    rw [decide_eq_true (by omega), decide_eq_true (by rw [List.length_map]; omega), Bool.true_and, Bool.true_and, List.all_eq_true]
    intro d hd
    obtain ⟨a, ha, rfl⟩ := List.mem_map.mp hd
    have h1 := h.tl a ha
    have h2 := h9 a (List.mem_cons_of_mem _ ha)
    exact decide_eq_true (by omega)
theorem made {A R : List Int} (hA : aheadD (ringD A) = true) (hs : sm 20 (ringD A) = true) (hs2 : sm 20 (ringD R) = true) (lA : A.length ≤ 20) (hR : RowI R) {E : XKD} {S : Sd} {a : Addr} {P : List Str → List D → Sd → Prop}
    (q : P ["held_ahead", "held_ring"] [ringD (fewest A R).1, ringD (fewest A R).2] (upS S a (.ins "Stair" ["held_ahead", "held_ring"] [ringD (fewest A R).1, ringD (fewest A R).2]))) :
    sp_Stair___init__ [.obj a, ringD A, ringD R] (upS S a (.ins "Stair" [] [])) (fun v S2 => v = .non ∧ ∃ ns ys, S2 a = some (.ins "Stair" ns ys) ∧ P ns ys S2) E := by
  have r1 := ring_is hR
  refine ⟨a, _, _, 20, rfl, hs, hs2, okD_eqOk (okD_ints A) (by decide), upS_same, fun h => ?_, fun _ => ⟨A, R, rfl, rfl, lA, hR, rfl, _, _, upS_same, ?_⟩⟩
  · rw [hA, r1] at h; cases h
  · rw [upS_upS]; exact q
theorem up_gcd {a x y z : Int} (ha : 1 ≤ a) : ((Int.gcd (Int.gcd (a * x) (a * y) : Nat) (a * z) : Nat) : Int) = a * ((Int.gcd (Int.gcd x y : Nat) z : Nat) : Int) := by
  obtain ⟨n, rfl⟩ := Int.eq_ofNat_of_zero_le (show 0 ≤ a by omega)
  have e : ∀ u v : Int, (Int.gcd ((n : Int) * u) ((n : Int) * v) : Nat) = n * Int.gcd u v := fun u v => by
    rw [Int.gcd_mul_left]
    rfl
  rw [e, Int.natCast_mul, e, Int.natCast_mul]
/-- a ring told often has the ring's form -/
theorem form_told {L : List Int} (R : RowI L) (m : Nat) : frmD (told L (m + 1)) = frmD L := by
  have h1 : ∀ a ∈ L, 1 ≤ a := fun a ha => (R.el a ha).1
  obtain ⟨a, b, e1, e2, e3, e4⟩ := told_tab h1 (ring_ne R) m
  have r1 := (tw_row L h1 (ring_ne R)).r1
  have h2 : ∀ x ∈ told L (m + 1), 1 ≤ x := fun x hx => h1 x (told_mem hx)
  have n2 : told L (m + 1) ≠ [] := fun e => by
    have := congrArg List.length e
    rw [told_len, Nat.succ_mul, List.length_nil] at this
    have := R.l0
    omega
  have r2 := (tw_row _ h2 n2).r1
  have a1 : 1 ≤ a := by
    rcases Int.lt_or_le 0 a with c | c
    · omega
    · have := Int.mul_le_mul_of_nonneg_right c (show 0 ≤ (t4L L).r by omega)
      omega
  have G := fmG_pos R
  have es : (t4L (told L (m + 1))).s - (t4L (told L (m + 1))).p = a * ((t4L L).s - (t4L L).p) := by rw [e1, e4]; grind
  have eq : 0 - (t4L (told L (m + 1))).q = a * (0 - (t4L L).q) := by rw [e2]; grind
  have eg : fmG (told L (m + 1)) = a * fmG L := by
    unfold fmG
    rw [e2, e3, es, up_gcd a1]
  obtain ⟨x, y, z, f1, f2, f3, g1, g2, g3, _, _⟩ := fm_parts R
  have d : ∀ w : Int, (a * (fmG L * w)).fdiv (a * fmG L) = w := fun w => by
    rw [← Int.mul_assoc]
    exact Int.mul_fdiv_cancel_left _ (Int.mul_ne_zero (by omega) (by omega))
  unfold frmD
  rw [f1, f2, f3, es, eq, eg, e3, g1, g2, g3, d, d, d]
theorem told_row {L : List Int} (R : RowI L) {m : Nat} (h1 : 1 ≤ m) (h2 : m * L.length ≤ 40) : RowI (told L m) := by
  refine ⟨fun a ha => R.el a (told_mem ha), ?_, by rw [told_len]; exact h2⟩
  rw [told_len]
  have := R.l0
  exact Nat.mul_le_mul h1 this
theorem pure_law : ∀ tb ds S Q Ed, spLawT tb ["law"] ds S Q Ed → t_law tb Ed { nx := fun _ S' => Q .non S', rt := Q } (startD N_law ds) S := by
  rintro tb ds S Q Ed ⟨ns, rfl, hns, hT, q⟩
  have hT := hT "law" (by simp)
  rw [st_law]
  unfold t_law
  refine seq_cut (fun σ S' => True) (fun N hN => ?_) (fun σ S' h => by walk_at "dy"; exact q S')
  walk_at "dy"
  have hlen : (List.map D.int ns).length = ns.length := List.length_map _
  refine ⟨by rw [hlen]; constructor <;> (split <;> (try split) <;> omega), ?_⟩
  refine loop_rng (fun i σ S' => (∃ a b c d e f g h, σ = [some (.lst (ns.map D.int)), a, b, c, d, e, f, g, h]) ∧ S' (tb "law") = some (.tab (lamQ "law"))) ⟨⟨none, none, none, none, none, none, none, none, rfl⟩, hT⟩ ?_ (fun σ S' _ => hN σ S' trivial)
  rintro i σ S' N' hi ⟨⟨a, b, c, d, e, f, g, h, rfl⟩, hT'⟩ k
  have hl4 : (0 : Int) + i < 4 := by
    rw [hlen] at hi
    split at hi <;> (try split at hi) <;> omega
  show dSeq (dSet 2 _) _ _ [some (.lst (ns.map D.int)), some (.int (0 + i)), b, c, d, e, f, g, h] S'
  refine seq_step fun r hr => ?_
  walk_at "dy"
  refine ⟨ns, _, rfl, by omega, by omega, fun u S1 hu0 hU1 ho1 => ?_⟩
  have hne : tb "law" ≠ u := fun h => by rw [h, hu0] at hT'; cases hT'
  have keep : ∀ {A B : Sd}, A (tb "law") = some (.tab (lamQ "law")) → Oth A B u → B (tb "law") = some (.tab (lamQ "law")) := fun h1 h2 => (h2 _ hne).trans h1
  have t1 := keep hT' ho1
  try walk_at "dy"
  subst hr
  refine seq_step fun r hr => ?_
  walk_at "dy"
  refine ⟨u, _, rfl, hU1, by decide, fun A S2 al a9 at_ hU2 hE2 => ?_⟩
  refine ⟨u, _, rfl, hU2, by decide, fun L S3 RI hU3 ho3 => ?_⟩
  have t2 : S2 (tb "law") = some (.tab (lamQ "law")) := hE2 _ _ (by rw [Dv.del_ne hne]; exact t1)
  have t3 := keep t2 ho3
  have ok : RowOk A L := ⟨⟨RI.el, fun e => by have := RI.l0; rw [e] at this; exact absurd this (by decide), RI.l1, fun a ha => by have := a9 a ha; have e : (2 : Nat) ^ 20 = 1048576 := (by decide); omega, al⟩, a9, at_⟩
  try walk_at "dy"
  subst hr
  refine seq_step fun r hr => ?_
  unfold dMake
  walk_at "dy"
  intro p hp
  refine made (ok.ahead) (sm_row ok.b.a2) (sm_ring RI) al RI ?_
  rw [del_upS hp]
  subst hr
  refine seq_step fun r hr => ?_
  walk_at "dy"
  refine ⟨u, _, A, L, rfl, ok.b, ok.tl, hU3, by decide, fun S4 hU4 ho4 => ?_⟩
  have t4 := keep t3 ho4
  dsimp only
  rw [if_neg (by decide)]
  subst hr
  refine seq_step fun r hr => ?_
  walk_at "dy"
  have len_go : ∀ Q : DK, Q (.int L.length) S4 → rdLen [ringD L] S4 Q := fun Q h => by
    show Q (.int (L.map D.int).length) S4
    rw [List.length_map]
    exact h
  have l1 := RI.l0
  have l2 := RI.l1
  refine len_go _ ?_
  refine ⟨⟨by omega, ?_⟩, ?_⟩
  · have h6 : (L.length : Int).natAbs < 2 ^ 6 := by
      have e : (2 : Nat) ^ 6 = 64 := by decide
      omega
    have := log2_lt h6 (by decide)
    omega
  have ew : (40 : Int).fdiv (L.length : Int) = ((40 / L.length : Nat) : Int) := by
    rw [Int.fdiv_eq_ediv_of_nonneg _ (by omega)]
    rfl
  rw [ew]
  have w1 : 1 ≤ 40 / L.length := Nat.div_pos l2 l1
  have w2 : 40 / L.length ≤ 40 := Nat.div_le_self _ _
  refine ⟨u, _, _, rfl, hU4, by decide, by omega, Int.lt_of_le_of_lt (b := 40) (by omega) (by decide), fun v S5 v0 v1 hU5 ho5 => ?_⟩
  have t5 := keep t4 ho5
  refine add_go ?_
  obtain ⟨m, rfl⟩ := Int.eq_ofNat_of_zero_le v0
  refine ⟨⟨fun z => ring_ne RI (List.map_eq_nil_iff.mp z), by omega, by omega, by rw [List.length_map]; omega⟩, ?_⟩
  have em : ((1 : Int) + (m : Int)).toNat = m + 1 := by omega
  rw [em]
  have ht : D.tup (List.replicate (m + 1) (L.map D.int)).flatten = ringD (told L (m + 1)) := by rw [told_D]; rfl
  rw [ht]
  have hm : (m + 1) * L.length ≤ 40 := by
    have h1 : m + 1 ≤ 40 / L.length := by omega
    exact Nat.le_trans (Nat.mul_le_mul_right _ h1) (Nat.div_mul_le_self 40 L.length)
  have RT := told_row RI (show 1 ≤ m + 1 by omega) hm
  have ft := form_told RI m
  generalize told L (m + 1) = M at *
  subst hr
  walk_at "dy"
  refine ⟨by decide, ?_⟩
  refine loop_rng (fun j σ S' => (∃ a b, σ = [some (.lst (ns.map D.int)), some (.int (0 + i)), some (.obj u), some (ringD A), some (ringD L), some (.inst "Stair" ["held_ahead", "held_ring"] [ringD (fewest A L).1, ringD (fewest A L).2]), some (ringD M), a, b]) ∧ S' (tb "law") = some (.tab (lamQ "law")) ∧ Urn S' u (1000 + 10 * j)) ⟨⟨_, _, rfl⟩, t5, hU5.mono (by decide)⟩ ?_ ?_
  · rintro j σ S6 N6 hj ⟨⟨a, b, rfl⟩, t6, hU6⟩ k6
    have hj2 : j < 2 := hj
    refine name_go ?_
    simp only [List.set_cons_zero, List.set_cons_succ]
    refine seq_step fun r hr => ?_
    walk_at "dy"
    refine ⟨L, rfl, RI, ?_⟩
    dsimp only
    rw [if_neg (by decide)]
    refine ⟨M, rfl, RT, ?_⟩
    dsimp only
    rw [if_neg (by decide)]
    refine ⟨_, 20, rfl, sm_ring RT, fun _ => ⟨M, rfl, RT, ?_⟩, fun h => by rw [ring_is RT] at h; cases h⟩
    refine ⟨_, 20, rfl, sm_ring RI, fun _ => ⟨L, rfl, RI, ?_⟩, fun h => by rw [ring_is RI] at h; cases h⟩
    rw [ft]
    refine x_ne_self (okD_eqOk (okD_ints [_, _, _]) (by decide)) ?_
    dsimp only
    rw [if_neg (by decide)]
    subst hr
    refine seq_step fun r hr => ?_
    walk_at "dy"
    refine ⟨u, _, L, rfl, RI, hU6, Int.le_trans (b := 2000) (by omega) (by decide), fun d S7 nd sd hU7 ho7 => ?_⟩
    have t7 := keep t6 ho7
    try walk_at "dy"
    subst hr
    walk_at "dy"
    refine ⟨t7, d, 30, rfl, sd, fun h => ?_, fun h => ?_⟩
    · rw [nd] at h; cases h
    refine ⟨by decide, ?_⟩
    try walk_at "dy"
    rw [if_neg (by simp)]
    exact k6 _ _ ⟨⟨_, _, rfl⟩, t7, hU7.mono (by omega)⟩
  · rintro σ S6 ⟨⟨a, b, rfl⟩, t6, hU6⟩
    exact k _ _ ⟨⟨_, _, _, _, _, _, _, _, rfl⟩, t6⟩


/-! the text by places, derivations, printed by gen.py -/
def top (i : Nat) : Stmt := PySem.Challenge.pw_nearthrees_k11_fractions_and_forms_of_ro.main.body.getD i (.Pass ⟨0, 0, 0, 0⟩)
abbrev s_is_whole : Stmt := top 20
theorem sc_is_whole : FnScope N_is_whole ["thing"] (defScope s_is_whole) := ⟨rfl, rfl, rfl, by decide +kernel, rfl, by decide +kernel, by decide +kernel⟩
abbrev s_shared_by : Stmt := top 21
theorem sc_shared_by : FnScope N_shared_by ["one", "other"] (defScope s_shared_by) := ⟨rfl, rfl, rfl, by decide +kernel, rfl, by decide +kernel, by decide +kernel⟩
abbrev s_is_within : Stmt := top 40
theorem sc_is_within : FnScope N_is_within ["thing", "least", "most"] (defScope s_is_within) := ⟨rfl, rfl, rfl, by decide +kernel, rfl, by decide +kernel, by decide +kernel⟩
abbrev s_is_row : Stmt := top 41
theorem sc_is_row : FnScope N_is_row ["thing", "least", "most"] (defScope s_is_row) := ⟨rfl, rfl, rfl, by decide +kernel, rfl, by decide +kernel, by decide +kernel⟩
abbrev s_is_number_ring : Stmt := top 42
theorem sc_is_number_ring : FnScope N_is_number_ring ["thing"] (defScope s_is_number_ring) := ⟨rfl, rfl, rfl, by decide +kernel, rfl, by decide +kernel, by decide +kernel⟩
abbrev s_is_ahead : Stmt := top 43
theorem sc_is_ahead : FnScope N_is_ahead ["thing"] (defScope s_is_ahead) := ⟨rfl, rfl, rfl, by decide +kernel, rfl, by decide +kernel, by decide +kernel⟩
abbrev s_look_ring : Stmt := top 44
theorem sc_look_ring : FnScope N_look_ring ["ring"] (defScope s_look_ring) := ⟨rfl, rfl, rfl, by decide +kernel, rfl, by decide +kernel, by decide +kernel⟩
abbrev s_shortest_part : Stmt := top 45
theorem sc_shortest_part : FnScope N_shortest_part ["parts"] (defScope s_shortest_part) := ⟨rfl, rfl, rfl, by decide +kernel, rfl, by decide +kernel, by decide +kernel⟩
abbrev s_table_of_row : Stmt := top 46
theorem sc_table_of_row : FnScope N_table_of_row ["row"] (defScope s_table_of_row) := ⟨rfl, rfl, rfl, by decide +kernel, rfl, by decide +kernel, by decide +kernel⟩
abbrev s_form_of_row : Stmt := top 48
theorem sc_form_of_row : FnScope N_form_of_row ["row"] (defScope s_form_of_row) := ⟨rfl, rfl, rfl, by decide +kernel, rfl, by decide +kernel, by decide +kernel⟩
abbrev s_ring_form : Stmt := top 49
theorem sc_ring_form : FnScope N_ring_form ["ring"] (defScope s_ring_form) := ⟨rfl, rfl, rfl, by decide +kernel, rfl, by decide +kernel, by decide +kernel⟩
abbrev s_Stair_keep_rows : Stmt := inClass (top 50) 1
theorem sc_Stair_keep_rows : FnScope N_Stair_keep_rows ["self", "ahead", "ring"] (defScope s_Stair_keep_rows) := ⟨rfl, rfl, rfl, by decide +kernel, rfl, by decide +kernel, by decide +kernel⟩
abbrev s_Stair___init__ : Stmt := inClass (top 50) 0
theorem sc_Stair___init__ : FnScope N_Stair___init__ ["self", "ahead", "ring"] (defScope s_Stair___init__) := ⟨rfl, rfl, rfl, by decide +kernel, rfl, by decide +kernel, by decide +kernel⟩
abbrev s_Stair_at : Stmt := inClass (top 50) 8
theorem sc_Stair_at : FnScope N_Stair_at ["self", "place"] (defScope s_Stair_at) := ⟨rfl, rfl, rfl, by decide +kernel, rfl, by decide +kernel, by decide +kernel⟩
abbrev s_Stair_fraction : Stmt := inClass (top 50) 11
theorem sc_Stair_fraction : FnScope N_Stair_fraction ["self", "many"] (defScope s_Stair_fraction) := ⟨rfl, rfl, rfl, by decide +kernel, rfl, by decide +kernel, by decide +kernel⟩
abbrev s_law_urn : Stmt := top 52
theorem sc_law_urn : FnScope N_law_urn ["_law_script", "_law_at"] (defScope s_law_urn) := ⟨rfl, rfl, rfl, by decide +kernel, rfl, by decide +kernel, by decide +kernel⟩
abbrev s_law_draw : Stmt := top 53
theorem sc_law_draw : FnScope N_law_draw ["_law_urn_here", "_law_wide"] (defScope s_law_draw) := ⟨rfl, rfl, rfl, by decide +kernel, rfl, by decide +kernel, by decide +kernel⟩
abbrev s_law_whole : Stmt := top 54
theorem sc_law_whole : FnScope N_law_whole ["_law_thing"] (defScope s_law_whole) := ⟨rfl, rfl, rfl, by decide +kernel, rfl, by decide +kernel, by decide +kernel⟩
abbrev s_law_shared : Stmt := top 55
theorem sc_law_shared : FnScope N_law_shared ["_law_one", "_law_other"] (defScope s_law_shared) := ⟨rfl, rfl, rfl, by decide +kernel, rfl, by decide +kernel, by decide +kernel⟩
abbrev s_law_low : Stmt := top 56
theorem sc_law_low : FnScope N_law_low ["_law_upper", "_law_lower"] (defScope s_law_low) := ⟨rfl, rfl, rfl, by decide +kernel, rfl, by decide +kernel, by decide +kernel⟩
abbrev s_law_is_fraction : Stmt := top 57
theorem sc_law_is_fraction : FnScope N_law_is_fraction ["_law_thing"] (defScope s_law_is_fraction) := ⟨rfl, rfl, rfl, by decide +kernel, rfl, by decide +kernel, by decide +kernel⟩
abbrev s_law_sign : Stmt := top 58
theorem sc_law_sign : FnScope N_law_sign ["_law_parts"] (defScope s_law_sign) := ⟨rfl, rfl, rfl, by decide +kernel, rfl, by decide +kernel, by decide +kernel⟩
abbrev s_law_below : Stmt := top 59
theorem sc_law_below : FnScope N_law_below ["_law_one", "_law_other"] (defScope s_law_below) := ⟨rfl, rfl, rfl, by decide +kernel, rfl, by decide +kernel, by decide +kernel⟩
abbrev s_law_which : Stmt := top 60
theorem sc_law_which : FnScope N_law_which ["_law_e"] (defScope s_law_which) := ⟨rfl, rfl, rfl, by decide +kernel, rfl, by decide +kernel, by decide +kernel⟩
abbrev s_law_refused : Stmt := top 61
theorem sc_law_refused : FnScope N_law_refused ["_law_deed"] (defScope s_law_refused) := ⟨rfl, rfl, rfl, by decide +kernel, rfl, by decide +kernel, by decide +kernel⟩
abbrev s_law_ring : Stmt := top 62
theorem sc_law_ring : FnScope N_law_ring ["_law_urn_here", "_law_most"] (defScope s_law_ring) := ⟨rfl, rfl, rfl, by decide +kernel, rfl, by decide +kernel, by decide +kernel⟩
abbrev s_law_ring_table : Stmt := top 63
theorem sc_law_ring_table : FnScope N_law_ring_table ["_law_row"] (defScope s_law_ring_table) := ⟨rfl, rfl, rfl, by decide +kernel, rfl, by decide +kernel, by decide +kernel⟩
abbrev s_law_ahead : Stmt := top 64
theorem sc_law_ahead : FnScope N_law_ahead ["_law_urn_here", "_law_most"] (defScope s_law_ahead) := ⟨rfl, rfl, rfl, by decide +kernel, rfl, by decide +kernel, by decide +kernel⟩
abbrev s_law_number : Stmt := top 65
theorem sc_law_number : FnScope N_law_number ["_law_ahead_here", "_law_ring_here"] (defScope s_law_number) := ⟨rfl, rfl, rfl, by decide +kernel, rfl, by decide +kernel, by decide +kernel⟩
abbrev s_law_fraction : Stmt := top 66
theorem sc_law_fraction : FnScope N_law_fraction ["_law_row"] (defScope s_law_fraction) := ⟨rfl, rfl, rfl, by decide +kernel, rfl, by decide +kernel, by decide +kernel⟩
abbrev s_law_fractions_right : Stmt := top 67
theorem sc_law_fractions_right : FnScope N_law_fractions_right ["_law_urn_here", "_law_stair", "_law_ahead_here", "_law_ring_here"] (defScope s_law_fractions_right) := ⟨rfl, rfl, rfl, by decide +kernel, rfl, by decide +kernel, by decide +kernel⟩
abbrev s_law_form_right : Stmt := top 68
theorem sc_law_form_right : FnScope N_law_form_right ["_law_ring_here"] (defScope s_law_form_right) := ⟨rfl, rfl, rfl, by decide +kernel, rfl, by decide +kernel, by decide +kernel⟩
abbrev s_law_no_ring : Stmt := top 69
theorem sc_law_no_ring : FnScope N_law_no_ring ["_law_urn_here", "_law_ring_here"] (defScope s_law_no_ring) := ⟨rfl, rfl, rfl, by decide +kernel, rfl, by decide +kernel, by decide +kernel⟩
abbrev s_law : Stmt := top 70
theorem sc_law : FnScope N_law ["_law_script"] (defScope s_law) := ⟨rfl, rfl, rfl, by decide +kernel, rfl, by decide +kernel, by decide +kernel⟩
abbrev sI_NoPlace : Stmt := inClass (top 6) 0
theorem scI_NoPlace : FnScope ["self", "place", "many"] ["self", "place", "many"] (defScope sI_NoPlace) := ⟨rfl, rfl, rfl, by decide +kernel, rfl, by decide +kernel, by decide +kernel⟩
structure Txt (w : World) (K : PySem.W.Frag) (mg : Str → Option Value) (base : Heap) where
  C_Stair : Addr
  gc_Stair : mg "Stair" = some (.ref C_Stair)
  f_is_whole : Addr
  fd_is_whole : FuncData
  f_shared_by : Addr
  fd_shared_by : FuncData
  f_is_within : Addr
  fd_is_within : FuncData
  f_is_row : Addr
  fd_is_row : FuncData
  f_is_number_ring : Addr
  fd_is_number_ring : FuncData
  f_is_ahead : Addr
  fd_is_ahead : FuncData
  f_look_ring : Addr
  fd_look_ring : FuncData
  f_shortest_part : Addr
  fd_shortest_part : FuncData
  f_table_of_row : Addr
  fd_table_of_row : FuncData
  f_form_of_row : Addr
  fd_form_of_row : FuncData
  f_ring_form : Addr
  fd_ring_form : FuncData
  f_law_urn : Addr
  fd_law_urn : FuncData
  f_law_draw : Addr
  fd_law_draw : FuncData
  f_law_whole : Addr
  fd_law_whole : FuncData
  f_law_shared : Addr
  fd_law_shared : FuncData
  f_law_low : Addr
  fd_law_low : FuncData
  f_law_is_fraction : Addr
  fd_law_is_fraction : FuncData
  f_law_sign : Addr
  fd_law_sign : FuncData
  f_law_below : Addr
  fd_law_below : FuncData
  f_law_which : Addr
  fd_law_which : FuncData
  f_law_refused : Addr
  fd_law_refused : FuncData
  f_law_ring : Addr
  fd_law_ring : FuncData
  f_law_ring_table : Addr
  fd_law_ring_table : FuncData
  f_law_ahead : Addr
  fd_law_ahead : FuncData
  f_law_number : Addr
  fd_law_number : FuncData
  f_law_fraction : Addr
  fd_law_fraction : FuncData
  f_law_fractions_right : Addr
  fd_law_fractions_right : FuncData
  f_law_form_right : Addr
  fd_law_form_right : FuncData
  f_law_no_ring : Addr
  fd_law_no_ring : FuncData
  f_law : Addr
  fd_law : FuncData
  f_Stair_keep_rows : Addr
  fd_Stair_keep_rows : FuncData
  f_Stair___init__ : Addr
  fd_Stair___init__ : FuncData
  f_Stair_at : Addr
  fd_Stair_at : FuncData
  f_Stair_fraction : Addr
  fd_Stair_fraction : FuncData
  F_is_whole : Fun K "is_whole" "is_whole" s_is_whole f_is_whole fd_is_whole
  m_is_whole : mg "is_whole" = some (.ref f_is_whole)
  b_is_whole : Binds K fd_is_whole ["thing"] []
  F_shared_by : Fun K "shared_by" "shared_by" s_shared_by f_shared_by fd_shared_by
  m_shared_by : mg "shared_by" = some (.ref f_shared_by)
  b_shared_by : Binds K fd_shared_by ["one", "other"] []
  F_is_within : Fun K "is_within" "is_within" s_is_within f_is_within fd_is_within
  m_is_within : mg "is_within" = some (.ref f_is_within)
  b_is_within : Binds K fd_is_within ["thing", "least", "most"] []
  F_is_row : Fun K "is_row" "is_row" s_is_row f_is_row fd_is_row
  m_is_row : mg "is_row" = some (.ref f_is_row)
  b_is_row : Binds K fd_is_row ["thing", "least", "most"] []
  F_is_number_ring : Fun K "is_number_ring" "is_number_ring" s_is_number_ring f_is_number_ring fd_is_number_ring
  m_is_number_ring : mg "is_number_ring" = some (.ref f_is_number_ring)
  b_is_number_ring : Binds K fd_is_number_ring ["thing"] []
  F_is_ahead : Fun K "is_ahead" "is_ahead" s_is_ahead f_is_ahead fd_is_ahead
  m_is_ahead : mg "is_ahead" = some (.ref f_is_ahead)
  b_is_ahead : Binds K fd_is_ahead ["thing"] []
  F_look_ring : Fun K "look_ring" "look_ring" s_look_ring f_look_ring fd_look_ring
  m_look_ring : mg "look_ring" = some (.ref f_look_ring)
  b_look_ring : Binds K fd_look_ring ["ring"] []
  F_shortest_part : Fun K "shortest_part" "shortest_part" s_shortest_part f_shortest_part fd_shortest_part
  m_shortest_part : mg "shortest_part" = some (.ref f_shortest_part)
  b_shortest_part : Binds K fd_shortest_part ["parts"] []
  F_table_of_row : Fun K "table_of_row" "table_of_row" s_table_of_row f_table_of_row fd_table_of_row
  m_table_of_row : mg "table_of_row" = some (.ref f_table_of_row)
  b_table_of_row : Binds K fd_table_of_row ["row"] []
  F_form_of_row : Fun K "form_of_row" "form_of_row" s_form_of_row f_form_of_row fd_form_of_row
  m_form_of_row : mg "form_of_row" = some (.ref f_form_of_row)
  b_form_of_row : Binds K fd_form_of_row ["row"] []
  F_ring_form : Fun K "ring_form" "ring_form" s_ring_form f_ring_form fd_ring_form
  m_ring_form : mg "ring_form" = some (.ref f_ring_form)
  b_ring_form : Binds K fd_ring_form ["ring"] []
  F_law_urn : Fun K "_law_urn" "_law_urn" s_law_urn f_law_urn fd_law_urn
  m_law_urn : mg "_law_urn" = some (.ref f_law_urn)
  b_law_urn : Binds K fd_law_urn ["_law_script", "_law_at"] []
  F_law_draw : Fun K "_law_draw" "_law_draw" s_law_draw f_law_draw fd_law_draw
  m_law_draw : mg "_law_draw" = some (.ref f_law_draw)
  b_law_draw : Binds K fd_law_draw ["_law_urn_here", "_law_wide"] []
  F_law_whole : Fun K "_law_whole" "_law_whole" s_law_whole f_law_whole fd_law_whole
  m_law_whole : mg "_law_whole" = some (.ref f_law_whole)
  b_law_whole : Binds K fd_law_whole ["_law_thing"] []
  F_law_shared : Fun K "_law_shared" "_law_shared" s_law_shared f_law_shared fd_law_shared
  m_law_shared : mg "_law_shared" = some (.ref f_law_shared)
  b_law_shared : Binds K fd_law_shared ["_law_one", "_law_other"] []
  F_law_low : Fun K "_law_low" "_law_low" s_law_low f_law_low fd_law_low
  m_law_low : mg "_law_low" = some (.ref f_law_low)
  b_law_low : Binds K fd_law_low ["_law_upper", "_law_lower"] []
  F_law_is_fraction : Fun K "_law_is_fraction" "_law_is_fraction" s_law_is_fraction f_law_is_fraction fd_law_is_fraction
  m_law_is_fraction : mg "_law_is_fraction" = some (.ref f_law_is_fraction)
  b_law_is_fraction : Binds K fd_law_is_fraction ["_law_thing"] []
  F_law_sign : Fun K "_law_sign" "_law_sign" s_law_sign f_law_sign fd_law_sign
  m_law_sign : mg "_law_sign" = some (.ref f_law_sign)
  b_law_sign : Binds K fd_law_sign ["_law_parts"] []
  F_law_below : Fun K "_law_below" "_law_below" s_law_below f_law_below fd_law_below
  m_law_below : mg "_law_below" = some (.ref f_law_below)
  b_law_below : Binds K fd_law_below ["_law_one", "_law_other"] []
  F_law_which : Fun K "_law_which" "_law_which" s_law_which f_law_which fd_law_which
  m_law_which : mg "_law_which" = some (.ref f_law_which)
  b_law_which : Binds K fd_law_which ["_law_e"] []
  F_law_refused : Fun K "_law_refused" "_law_refused" s_law_refused f_law_refused fd_law_refused
  m_law_refused : mg "_law_refused" = some (.ref f_law_refused)
  b_law_refused : Binds K fd_law_refused ["_law_deed"] []
  F_law_ring : Fun K "_law_ring" "_law_ring" s_law_ring f_law_ring fd_law_ring
  m_law_ring : mg "_law_ring" = some (.ref f_law_ring)
  b_law_ring : Binds K fd_law_ring ["_law_urn_here", "_law_most"] []
  F_law_ring_table : Fun K "_law_ring_table" "_law_ring_table" s_law_ring_table f_law_ring_table fd_law_ring_table
  m_law_ring_table : mg "_law_ring_table" = some (.ref f_law_ring_table)
  b_law_ring_table : Binds K fd_law_ring_table ["_law_row"] []
  F_law_ahead : Fun K "_law_ahead" "_law_ahead" s_law_ahead f_law_ahead fd_law_ahead
  m_law_ahead : mg "_law_ahead" = some (.ref f_law_ahead)
  b_law_ahead : Binds K fd_law_ahead ["_law_urn_here", "_law_most"] []
  F_law_number : Fun K "_law_number" "_law_number" s_law_number f_law_number fd_law_number
  m_law_number : mg "_law_number" = some (.ref f_law_number)
  b_law_number : Binds K fd_law_number ["_law_ahead_here", "_law_ring_here"] []
  F_law_fraction : Fun K "_law_fraction" "_law_fraction" s_law_fraction f_law_fraction fd_law_fraction
  m_law_fraction : mg "_law_fraction" = some (.ref f_law_fraction)
  b_law_fraction : Binds K fd_law_fraction ["_law_row"] []
  F_law_fractions_right : Fun K "_law_fractions_right" "_law_fractions_right" s_law_fractions_right f_law_fractions_right fd_law_fractions_right
  m_law_fractions_right : mg "_law_fractions_right" = some (.ref f_law_fractions_right)
  b_law_fractions_right : Binds K fd_law_fractions_right ["_law_urn_here", "_law_stair", "_law_ahead_here", "_law_ring_here"] []
  F_law_form_right : Fun K "_law_form_right" "_law_form_right" s_law_form_right f_law_form_right fd_law_form_right
  m_law_form_right : mg "_law_form_right" = some (.ref f_law_form_right)
  b_law_form_right : Binds K fd_law_form_right ["_law_ring_here"] []
  F_law_no_ring : Fun K "_law_no_ring" "_law_no_ring" s_law_no_ring f_law_no_ring fd_law_no_ring
  m_law_no_ring : mg "_law_no_ring" = some (.ref f_law_no_ring)
  b_law_no_ring : Binds K fd_law_no_ring ["_law_urn_here", "_law_ring_here"] []
  F_law : Fun K "law" "law" s_law f_law fd_law
  m_law : mg "law" = some (.ref f_law)
  b_law : Binds K fd_law ["_law_script"] []
  F_Stair_keep_rows : Fun K "keep_rows" "Stair.keep_rows" s_Stair_keep_rows f_Stair_keep_rows fd_Stair_keep_rows
  M_Stair_keep_rows : Meth K C_Stair "keep_rows" f_Stair_keep_rows
  b_Stair_keep_rows : Binds K fd_Stair_keep_rows ["self", "ahead", "ring"] []
  F_Stair___init__ : Fun K "__init__" "Stair.__init__" s_Stair___init__ f_Stair___init__ fd_Stair___init__
  cl_Stair : ClF K "Stair" C_Stair f_Stair___init__
  na_Stair : noAttrB K C_Stair ["held_ahead", "held_ring"] = true
  b_Stair___init__ : Binds K fd_Stair___init__ ["self", "ahead", "ring"] []
  F_Stair_at : Fun K "at" "Stair.at" s_Stair_at f_Stair_at fd_Stair_at
  M_Stair_at : Meth K C_Stair "at" f_Stair_at
  b_Stair_at : Binds K fd_Stair_at ["self", "place"] []
  F_Stair_fraction : Fun K "fraction" "Stair.fraction" s_Stair_fraction f_Stair_fraction fd_Stair_fraction
  M_Stair_fraction : Meth K C_Stair "fraction" f_Stair_fraction
  b_Stair_fraction : Binds K fd_Stair_fraction ["self", "many"] []
  ks_Stair_fraction_1_many : Hx.KSel K fd_Stair_fraction ["self", "many"] 1 ["many"] [0, 1] []
  tb : Str → Addr
  c_law : Addr
  hc_law : fd_law.code = .ref c_law
  tbb_law : LamX.TabB base mg c_law (tb "law")
  own : ∀ c ∈ ownCls, ∃ Dn, mg c = some (.ref Dn) ∧ clsV K c = .ref Dn
  wf : ∀ n ∈ rsX, n ∈ ownCls ∧ ∃ Dn, WhF K n Dn
  C_NoPlace : Addr
  fI_NoPlace : Addr
  fdI_NoPlace : FuncData
  FI_NoPlace : Fun K "__init__" "NoPlace.__init__" sI_NoPlace fI_NoPlace fdI_NoPlace
  bI_NoPlace : Binds K fdI_NoPlace ["self", "place", "many"] []
  X_NoPlace : FxF K "NoPlace" [.type "IndexError", .type "LookupError", .type "Exception", .type "BaseException", .type "object"] "IndexError.__new__" C_NoPlace fI_NoPlace ["place", "many"]
  gc_NoPlace : mg "NoPlace" = some (.ref C_NoPlace)
  C_NoRing : Addr
  R_NoRing : RsF K "NoRing" [.type "ValueError", .type "Exception", .type "BaseException", .type "object"] "ValueError.__new__" C_NoRing
  gc_NoRing : mg "NoRing" = some (.ref C_NoRing)
  C_NoStair : Addr
  R_NoStair : RsF K "NoStair" [.type "ValueError", .type "Exception", .type "BaseException", .type "object"] "ValueError.__new__" C_NoStair
  gc_NoStair : mg "NoStair" = some (.ref C_NoStair)
  zn_ArithmeticError : PySem.W.nsIn K mainGlobals "ArithmeticError" = some none
  zn_IndexError : PySem.W.nsIn K mainGlobals "IndexError" = some none
  zn_KeyError : PySem.W.nsIn K mainGlobals "KeyError" = some none
  zn_LookupError : PySem.W.nsIn K mainGlobals "LookupError" = some none
  zn_OverflowError : PySem.W.nsIn K mainGlobals "OverflowError" = some none
  zn_RuntimeError : PySem.W.nsIn K mainGlobals "RuntimeError" = some none
  zn_TypeError : PySem.W.nsIn K mainGlobals "TypeError" = some none
  zn_ValueError : PySem.W.nsIn K mainGlobals "ValueError" = some none
  zn_ZeroDivisionError : PySem.W.nsIn K mainGlobals "ZeroDivisionError" = some none
  v_MOST_AHEAD : V
  u_MOST_AHEAD : Value
  m_MOST_AHEAD : mg "MOST_AHEAD" = some u_MOST_AHEAD
  r_MOST_AHEAD : RelV v_MOST_AHEAD u_MOST_AHEAD
  k_MOST_AHEAD : ∀ H S, Rp K H S (k_MOST_AHEAD) v_MOST_AHEAD
  v_MOST_NUMBER : V
  u_MOST_NUMBER : Value
  m_MOST_NUMBER : mg "MOST_NUMBER" = some u_MOST_NUMBER
  r_MOST_NUMBER : RelV v_MOST_NUMBER u_MOST_NUMBER
  k_MOST_NUMBER : ∀ H S, Rp K H S (k_MOST_NUMBER) v_MOST_NUMBER
  v_MOST_RING : V
  u_MOST_RING : Value
  m_MOST_RING : mg "MOST_RING" = some u_MOST_RING
  r_MOST_RING : RelV v_MOST_RING u_MOST_RING
  k_MOST_RING : ∀ H S, Rp K H S (k_MOST_RING) v_MOST_RING
  n_ArithmeticError : mg "ArithmeticError" = none
  n_IndexError : mg "IndexError" = none
  n_KeyError : mg "KeyError" = none
  n_LookupError : mg "LookupError" = none
  n_OverflowError : mg "OverflowError" = none
  n_RuntimeError : mg "RuntimeError" = none
  n_TypeError : mg "TypeError" = none
  n_ValueError : mg "ValueError" = none
  n_ZeroDivisionError : mg "ZeroDivisionError" = none
  n_abs : mg "abs" = none
  n_all : mg "all" = none
  n_bool : mg "bool" = none
  n_int : mg "int" = none
  n_isinstance : mg "isinstance" = none
  n_len : mg "len" = none
  n_list : mg "list" = none
  n_max : mg "max" = none
  n_min : mg "min" = none
  n_range : mg "range" = none
  n_tuple : mg "tuple" = none
section
variable {P : Program} {w : World} {K : PySem.W.Frag} {mg : Str → Option Value} {base : Heap}
theorem in_NoPlace (T : Txt w K mg base) : FnG P w K mg base (L2N.CX P w) 1 T.fI_NoPlace T.fdI_NoPlace ["self", "place", "many"] (spI2 T.C_NoPlace "place" "many") := init2_ok T.FI_NoPlace scI_NoPlace T.X_NoPlace.ox (T.X_NoPlace.free _ (by decide +kernel)) (T.X_NoPlace.free _ (by decide +kernel)) rfl
theorem ok_is_whole (T : Txt w K mg base) : FnG P w K mg base (L2N.CX P w) 1 T.f_is_whole T.fd_is_whole ["thing"] (upF K (sp_is_whole)) := by
  refine okD (k := 0) (t := fun Ed => t_is_whole Ed) T.F_is_whole sc_is_whole (len_is_whole) (fun cdv A outer s H E Ed hr => ?_) (pure_is_whole)
  exact (db_one (ds_ret (de_and (de_callB cd_isi (by rfl) T.n_isinstance (by decide +kernel) (da_cons (dv 0) (da_cons (de_ty (by rfl) T.n_int (by decide +kernel)) da_nil))) (de_one (de_not (de_callB cd_isi (by rfl) T.n_isinstance (by decide +kernel) (da_cons (dv 0) (da_cons (de_ty (by rfl) T.n_bool (by decide +kernel)) da_nil))))))))
theorem ok_shared_by (T : Txt w K mg base) : FnG P w K mg base (L2N.CX P w) 1 T.f_shared_by T.fd_shared_by ["one", "other"] (upF K (sp_shared_by)) := by
  refine okD (k := 0) (t := fun Ed => t_shared_by Ed) T.F_shared_by sc_shared_by (len_shared_by) (fun cdv A outer s H E Ed hr => ?_) (pure_shared_by)
  exact (db_cons (ds_par 0 1 rfl sc_shared_by.nd rfl rfl (by decide) rfl rfl (da_cons (de_callB cd_abs (by rfl) T.n_abs (by decide +kernel) (da_cons (dv 0) da_nil)) (da_cons (de_callB cd_abs (by rfl) T.n_abs (by decide +kernel) (da_cons (dv 1) da_nil)) da_nil)) (by rfl))
  (db_cons (ds_while passB (dt_cmp od_gt (dv 1) de_int (nomark _))
  (db_one (ds_par 0 1 rfl sc_shared_by.nd rfl rfl (by decide) rfl rfl (da_cons (dv 1) (da_cons (de_op od_mod (dv 0) (dv 1)) da_nil)) (by rfl))))
  (db_one (ds_ret (dv 0)))))
theorem ok_is_within (T : Txt w K mg base) : FnG P w K mg base (L2N.CX P w) 2 T.f_is_within T.fd_is_within ["thing", "least", "most"] (upF K (sp_is_within)) := by
  refine okD (k := 1) (t := fun Ed => t_is_within Ed) T.F_is_within sc_is_within (len_is_within) (fun cdv A outer s H E Ed hr => ?_) (pure_is_within)
  exact (db_one (ds_ret (de_and (de_call (ok_is_whole T) (hr.mono (by decide)) (by rfl) T.m_is_whole T.F_is_whole.kp T.b_is_whole .nil (fun _ _ => rpL_nil) takesB (da_cons (dv 0) da_nil)) (de_one (de_chain od_le od_le (dv 1) (dv 0) (dv 2))))))
theorem ok_is_row (T : Txt w K mg base) : FnG P w K mg base (L2N.CX P w) 3 T.f_is_row T.fd_is_row ["thing", "least", "most"] (upF K (sp_is_row)) := by
  refine okD (k := 2) (t := fun Ed => t_is_row Ed) T.F_is_row sc_is_row (len_is_row) (fun cdv A outer s H E Ed hr => ?_) (pure_is_row)
  exact (db_cons (ds_if (DW.pt (dw_or (dt_not (dt_val (de_callB cd_isi (by rfl) T.n_isinstance (by decide +kernel) (da_cons (dv 0) (da_cons (de_ty (by rfl) T.n_tuple (by decide +kernel)) da_nil))))) (dw_or1 (dt_not (dt_chain od_le od_le (dv 1) (de_callB cd_len (by rfl) T.n_len (by decide +kernel) (da_cons (dv 0) da_nil)) (dv 2)))))) (db_one (ds_ret de_bl)) db_nil)
  (db_one (ds_ret (de_callB (cd_all rfl) (by rfl) T.n_all (by decide +kernel) (da_cons (de_lc (own := [("number", 3)]) rfl sc_is_row.nd (di_any (dv 0)) (blkOk_by (own := [("number", 3)]) (N := N_is_row) (sc := defScope s_is_row) (by decide +kernel)) (fun _ _ _ _ _ => (dg_name (i := 3) sc_is_row.nd rfl (by first | exact Or.inl rfl | exact Or.inr rfl) (by decide))) (fun _ _ _ _ _ => dts_nil) (fun _ _ _ _ _ => (de_call (ok_is_within T) (hr.mono (by decide)) (by rfl) T.m_is_within T.F_is_within.kp T.b_is_within .nil (fun _ _ => rpL_nil) takes0N (da_cons (dv 3) (da_cons de_int (da_cons (de_k (by rfl) T.m_MOST_NUMBER T.r_MOST_NUMBER T.k_MOST_NUMBER) da_nil)))))) da_nil)))))
theorem ok_is_number_ring (T : Txt w K mg base) : FnG P w K mg base (L2N.CX P w) 4 T.f_is_number_ring T.fd_is_number_ring ["thing"] (upF K (sp_is_number_ring)) := by
  refine okD (k := 3) (t := fun Ed => t_is_number_ring Ed) T.F_is_number_ring sc_is_number_ring (len_is_number_ring) (fun cdv A outer s H E Ed hr => ?_) (pure_is_number_ring)
  exact (db_one (ds_ret (de_call (ok_is_row T) (hr.mono (by decide)) (by rfl) T.m_is_row T.F_is_row.kp T.b_is_row .nil (fun _ _ => rpL_nil) takesB (da_cons (dv 0) (da_cons de_int (da_cons (de_k (by rfl) T.m_MOST_RING T.r_MOST_RING T.k_MOST_RING) da_nil))))))
theorem ok_is_ahead (T : Txt w K mg base) : FnG P w K mg base (L2N.CX P w) 4 T.f_is_ahead T.fd_is_ahead ["thing"] (upF K (sp_is_ahead)) := by
  refine okD (k := 3) (t := fun Ed => t_is_ahead Ed) T.F_is_ahead sc_is_ahead (len_is_ahead) (fun cdv A outer s H E Ed hr => ?_) (pure_is_ahead)
  exact (db_cons (ds_if (DW.pt (dw_or (dt_not (dt_val (de_callB cd_isi (by rfl) T.n_isinstance (by decide +kernel) (da_cons (dv 0) (da_cons (de_ty (by rfl) T.n_tuple (by decide +kernel)) da_nil))))) (dw_or1 (dt_cmp (od_eq hr.units) (de_callB cd_len (by rfl) T.n_len (by decide +kernel) (da_cons (dv 0) da_nil)) de_int (nomark _))))) (db_one (ds_ret (de_cmp (od_eq hr.units) (dv 0) (de_tup da_nil) (nomark _)))) db_nil)
  (db_cons (ds_if (dt_not (dt_val (de_call (ok_is_within T) (hr.mono (by decide)) (by rfl) T.m_is_within T.F_is_within.kp T.b_is_within .nil (fun _ _ => rpL_nil) takesB (da_cons (de_ix (dv 0) de_int (fun _ _ => rfl)) (da_cons (de_op od_sub de_int (de_k (by rfl) T.m_MOST_NUMBER T.r_MOST_NUMBER T.k_MOST_NUMBER)) (da_cons (de_k (by rfl) T.m_MOST_NUMBER T.r_MOST_NUMBER T.k_MOST_NUMBER) da_nil)))))) (db_one (ds_ret de_bl)) db_nil)
  (db_one (ds_ret (de_call (ok_is_row T) (hr.mono (by decide)) (by rfl) T.m_is_row T.F_is_row.kp T.b_is_row .nil (fun _ _ => rpL_nil) takesB (da_cons (de_slice (dv 0) (do_some de_int) do_none) (da_cons de_int (da_cons (de_op od_sub (de_k (by rfl) T.m_MOST_AHEAD T.r_MOST_AHEAD T.k_MOST_AHEAD) de_int) da_nil))))))))
theorem ok_look_ring (T : Txt w K mg base) : FnG P w K mg base (L2N.CX P w) 5 T.f_look_ring T.fd_look_ring ["ring"] (upF K (sp_look_ring)) := by
  refine okD (k := 4) (t := fun Ed => t_look_ring Ed) T.F_look_ring sc_look_ring (len_look_ring) (fun cdv A outer s H E Ed hr => ?_) (pure_look_ring)
  exact (db_one (ds_if (dt_not (dt_val (de_call (ok_is_number_ring T) (hr.mono (by decide)) (by rfl) T.m_is_number_ring T.F_is_number_ring.kp T.b_is_number_ring .nil (fun _ _ => rpL_nil) takesB (da_cons (dv 0) da_nil)))) (db_one (ds_raiseC rfl takesB PySem.F.excBase_ValueError T.R_NoRing T.gc_NoRing (by rfl))) db_nil))
theorem ok_shortest_part (T : Txt w K mg base) : FnG P w K mg base (L2N.CX P w) 1 T.f_shortest_part T.fd_shortest_part ["parts"] (upF K (sp_shortest_part)) := by
  refine okD (k := 0) (t := fun Ed => t_shortest_part Ed) T.F_shortest_part sc_shortest_part (len_shortest_part) (fun cdv A outer s H E Ed hr => ?_) (pure_shortest_part)
  exact (db_cons (ds_set 1 sc_shortest_part.nd rfl (by first | exact .inl rfl | exact .inr rfl) (de_callB cd_len (by rfl) T.n_len (by decide +kernel) (da_cons (dv 0) da_nil)))
  (db_cons (ds_for (vs := [2]) passB rfl (di_rng2 (by rfl) T.n_range (da_cons de_int (da_cons (dv 1) da_nil))) (dg_name (i := 2) sc_shortest_part.nd rfl (by first | exact Or.inl rfl | exact Or.inr rfl) (by decide))
  (db_one (ds_if (DW.pt (dw_and (dt_cmp (od_eq hr.units) (de_op od_mod (dv 1) (dv 2)) de_int (nomark _)) (dw_and1 (dt_cmp (od_eq hr.units) (de_op od_mulA (de_slice (dv 0) do_none (do_some (dv 2))) (de_op od_fdiv (dv 1) (dv 2))) (dv 0) (nomark _))))) (db_one (ds_ret (de_slice (dv 0) do_none (do_some (dv 2))))) db_nil)))
  (db_one (ds_ret (dv 0)))))
theorem ok_table_of_row (T : Txt w K mg base) : FnG P w K mg base (L2N.CX P w) 1 T.f_table_of_row T.fd_table_of_row ["row"] (upF K (sp_table_of_row)) := by
  refine okD (k := 0) (t := fun Ed => t_table_of_row Ed) T.F_table_of_row sc_table_of_row (len_table_of_row) (fun cdv A outer s H E Ed hr => ?_) (pure_table_of_row)
  exact (db_cons (ds_asg (vs := [1, 2, 3, 4]) (de_tup (da_cons de_int (da_cons de_int (da_cons de_int (da_cons de_int da_nil))))) (dg_tup rfl (dgs_cons (dg_name (i := 1) sc_table_of_row.nd rfl (by first | exact Or.inl rfl | exact Or.inr rfl) (by decide)) (dgs_cons (dg_name (i := 2) sc_table_of_row.nd rfl (by first | exact Or.inl rfl | exact Or.inr rfl) (by decide)) (dgs_cons (dg_name (i := 3) sc_table_of_row.nd rfl (by first | exact Or.inl rfl | exact Or.inr rfl) (by decide)) (dgs_cons (dg_name (i := 4) sc_table_of_row.nd rfl (by first | exact Or.inl rfl | exact Or.inr rfl) (by decide)) dgs_nil))))))
  (db_cons (ds_for (vs := [5]) passB rfl (di_any (dv 0)) (dg_name (i := 5) sc_table_of_row.nd rfl (by first | exact Or.inl rfl | exact Or.inr rfl) (by decide))
  (db_cons (ds_par 1 2 rfl sc_table_of_row.nd rfl rfl (by decide) rfl rfl (da_cons (de_op od_add (de_op od_mulA (dv 1) (dv 5)) (dv 2)) (da_cons (dv 1) da_nil)) (by rfl))
  (db_one (ds_par 3 4 rfl sc_table_of_row.nd rfl rfl (by decide) rfl rfl (da_cons (de_op od_add (de_op od_mulA (dv 3) (dv 5)) (dv 4)) (da_cons (dv 3) da_nil)) (by rfl)))))
  (db_one (ds_ret (de_tup (da_cons (dv 1) (da_cons (dv 2) (da_cons (dv 3) (da_cons (dv 4) da_nil)))))))))
theorem ok_form_of_row (T : Txt w K mg base) : FnG P w K mg base (L2N.CX P w) 2 T.f_form_of_row T.fd_form_of_row ["row"] (upF K (sp_form_of_row)) := by
  refine okD (k := 1) (t := fun Ed => t_form_of_row Ed) T.F_form_of_row sc_form_of_row (len_form_of_row) (fun cdv A outer s H E Ed hr => ?_) (pure_form_of_row)
  exact (db_cons (ds_asg (vs := [1, 2, 3, 4]) (de_call (ok_table_of_row T) (hr.mono (by decide)) (by rfl) T.m_table_of_row T.F_table_of_row.kp T.b_table_of_row .nil (fun _ _ => rpL_nil) takesB (da_cons (dv 0) da_nil)) (dg_tup rfl (dgs_cons (dg_name (i := 1) sc_form_of_row.nd rfl (by first | exact Or.inl rfl | exact Or.inr rfl) (by decide)) (dgs_cons (dg_name (i := 2) sc_form_of_row.nd rfl (by first | exact Or.inl rfl | exact Or.inr rfl) (by decide)) (dgs_cons (dg_name (i := 3) sc_form_of_row.nd rfl (by first | exact Or.inl rfl | exact Or.inr rfl) (by decide)) (dgs_cons (dg_name (i := 4) sc_form_of_row.nd rfl (by first | exact Or.inl rfl | exact Or.inr rfl) (by decide)) dgs_nil))))))
  (db_cons (ds_set 5 sc_form_of_row.nd rfl (by first | exact .inl rfl | exact .inr rfl) (de_call (ok_shared_by T) (hr.mono (by decide)) (by rfl) T.m_shared_by T.F_shared_by.kp T.b_shared_by .nil (fun _ _ => rpL_nil) takesB (da_cons (de_call (ok_shared_by T) (hr.mono (by decide)) (by rfl) T.m_shared_by T.F_shared_by.kp T.b_shared_by .nil (fun _ _ => rpL_nil) takesB (da_cons (dv 3) (da_cons (de_op od_sub (dv 4) (dv 1)) da_nil))) (da_cons (dv 2) da_nil))))
  (db_one (ds_ret (de_tup (da_cons (de_op od_fdiv (dv 3) (dv 5)) (da_cons (de_op od_fdiv (de_op od_sub (dv 4) (dv 1)) (dv 5)) (da_cons (de_op od_fdiv (de_op od_sub de_int (dv 2)) (dv 5)) da_nil))))))))
theorem ok_ring_form (T : Txt w K mg base) : FnG P w K mg base (L2N.CX P w) 6 T.f_ring_form T.fd_ring_form ["ring"] (upF K (sp_ring_form)) := by
  refine okD (k := 5) (t := fun Ed => t_ring_form Ed) T.F_ring_form sc_ring_form (len_ring_form) (fun cdv A outer s H E Ed hr => ?_) (pure_ring_form)
  exact (db_cons (ds_expr (de_call (ok_look_ring T) (hr.mono (by decide)) (by rfl) T.m_look_ring T.F_look_ring.kp T.b_look_ring .nil (fun _ _ => rpL_nil) takesB (da_cons (dv 0) da_nil)))
  (db_one (ds_ret (de_call (ok_form_of_row T) (hr.mono (by decide)) (by rfl) T.m_form_of_row T.F_form_of_row.kp T.b_form_of_row .nil (fun _ _ => rpL_nil) takesB (da_cons (dv 0) da_nil)))))
theorem ok_Stair_keep_rows (T : Txt w K mg base) : FnG P w K mg base (L2N.CX P w) 2 T.f_Stair_keep_rows T.fd_Stair_keep_rows ["self", "ahead", "ring"] (upF K (sp_Stair_keep_rows)) := by
  refine okD (k := 1) (t := fun Ed => t_Stair_keep_rows Ed) T.F_Stair_keep_rows sc_Stair_keep_rows (len_Stair_keep_rows) (fun cdv A outer s H E Ed hr => ?_) (pure_Stair_keep_rows)
  exact (db_cons (ds_set 2 sc_Stair_keep_rows.nd rfl (by first | exact .inl rfl | exact .inr rfl) (de_call (ok_shortest_part T) (hr.mono (by decide)) (by rfl) T.m_shortest_part T.F_shortest_part.kp T.b_shortest_part .nil (fun _ _ => rpL_nil) takesB (da_cons (dv 2) da_nil)))
  (db_cons (ds_while passB (DW.pt (dw_and (dt_cmp (od_ne hr.units) (dv 1) (de_tup da_nil) (nomark _)) (dw_and1 (dt_cmp (od_eq hr.units) (de_ix (dv 1) (de_neg de_int) (fun _ _ => rfl)) (de_ix (dv 2) (de_neg de_int) (fun _ _ => rfl)) (nomark _)))))
  (db_cons (ds_set 1 sc_Stair_keep_rows.nd rfl (by first | exact .inl rfl | exact .inr rfl) (de_slice (dv 1) do_none (do_some (de_neg de_int))))
  (db_one (ds_set 2 sc_Stair_keep_rows.nd rfl (by first | exact .inl rfl | exact .inr rfl) (de_op od_add (de_slice (dv 2) (do_some (de_neg de_int)) do_none) (de_slice (dv 2) do_none (do_some (de_neg de_int))))))))
  (db_cons (ds_putB T.cl_Stair (noAttrB_ok T.na_Stair (by decide +kernel)) (dv 0) (dv 1) (by rfl))
  (db_one (ds_putB T.cl_Stair (noAttrB_ok T.na_Stair (by decide +kernel)) (dv 0) (dv 2) (by rfl))))))
theorem ok_Stair___init__ (T : Txt w K mg base) : FnG P w K mg base (L2N.CX P w) 5 T.f_Stair___init__ T.fd_Stair___init__ ["self", "ahead", "ring"] (upF K (sp_Stair___init__)) := by
  refine okD (k := 4) (t := fun Ed => t_Stair___init__ Ed) T.F_Stair___init__ sc_Stair___init__ (len_Stair___init__) (fun cdv A outer s H E Ed hr => ?_) (pure_Stair___init__)
  exact (db_cons (ds_if (DW.pt (dw_or (dt_not (dt_val (de_call (ok_is_ahead T) (hr.mono (by decide)) (by rfl) T.m_is_ahead T.F_is_ahead.kp T.b_is_ahead .nil (fun _ _ => rpL_nil) takesB (da_cons (dv 1) da_nil)))) (dw_or1 (dt_not (dt_val (de_call (ok_is_number_ring T) (hr.mono (by decide)) (by rfl) T.m_is_number_ring T.F_is_number_ring.kp T.b_is_number_ring .nil (fun _ _ => rpL_nil) takesB (da_cons (dv 2) da_nil))))))) (db_one (ds_raiseC rfl takesB PySem.F.excBase_ValueError T.R_NoStair T.gc_NoStair (by rfl))) db_nil)
  (db_one (ds_expr (de_methO T.cl_Stair T.M_Stair_keep_rows (dv 0) (ok_Stair_keep_rows T) (hr.mono (by decide)) T.b_Stair_keep_rows .nil (fun _ _ => rpL_nil) takesB (da_cons (dv 1) (da_cons (dv 2) da_nil))))))
theorem ok_Stair_at (T : Txt w K mg base) : FnG P w K mg base (L2N.CX P w) 3 T.f_Stair_at T.fd_Stair_at ["self", "place"] (upF K (sp_Stair_at)) := by
  refine okD (k := 2) (t := fun Ed => t_Stair_at Ed) T.F_Stair_at sc_Stair_at (len_Stair_at) (fun cdv A outer s H E Ed hr => ?_) (pure_Stair_at)
  exact (db_cons (ds_if (dt_cmp od_lt (dv 1) de_int (nomark _)) (db_one (ds_raiseF2 rfl takesB PySem.F.excBase_IndexError T.X_NoPlace (in_NoPlace T) (hr.mono (by decide)) T.bI_NoPlace T.gc_NoPlace (by rfl) (da_cons (dv 1) (da_cons de_non da_nil)))) db_nil)
  (db_cons (ds_if (dt_cmp od_lt (dv 1) (de_callB cd_len (by rfl) T.n_len (by decide +kernel) (da_cons (de_fld T.cl_Stair (noAttrB_ok T.na_Stair (by decide +kernel)) (dv 0)) da_nil)) (nomark _)) (db_one (ds_ret (de_ix (de_fld T.cl_Stair (noAttrB_ok T.na_Stair (by decide +kernel)) (dv 0)) (dv 1) (fun _ _ => rfl)))) db_nil)
  (db_one (ds_ret (de_ix (de_fld T.cl_Stair (noAttrB_ok T.na_Stair (by decide +kernel)) (dv 0)) (de_op od_mod (de_op od_sub (dv 1) (de_callB cd_len (by rfl) T.n_len (by decide +kernel) (da_cons (de_fld T.cl_Stair (noAttrB_ok T.na_Stair (by decide +kernel)) (dv 0)) da_nil))) (de_callB cd_len (by rfl) T.n_len (by decide +kernel) (da_cons (de_fld T.cl_Stair (noAttrB_ok T.na_Stair (by decide +kernel)) (dv 0)) da_nil))) (fun _ _ => rfl))))))
theorem ok_Stair_fraction (T : Txt w K mg base) : FnG P w K mg base (L2N.CX P w) 4 T.f_Stair_fraction T.fd_Stair_fraction ["self", "many"] (upF K (sp_Stair_fraction)) := by
  refine okD (k := 3) (t := fun Ed => t_Stair_fraction Ed) T.F_Stair_fraction sc_Stair_fraction (len_Stair_fraction) (fun cdv A outer s H E Ed hr => ?_) (pure_Stair_fraction)
  exact (db_cons (ds_asg (vs := [2, 3, 4, 5]) (de_call (ok_table_of_row T) (hr.mono (by decide)) (by rfl) T.m_table_of_row T.F_table_of_row.kp T.b_table_of_row .nil (fun _ _ => rpL_nil) takesB (da_cons (de_lc (own := [("place", 6)]) rfl sc_Stair_fraction.nd (di_rng1 (by rfl) T.n_range (da_cons (dv 1) da_nil)) (blkOk_by (own := [("place", 6)]) (N := N_Stair_fraction) (sc := defScope s_Stair_fraction) (by decide +kernel)) (fun _ _ _ _ _ => (dg_name (i := 6) sc_Stair_fraction.nd rfl (by first | exact Or.inl rfl | exact Or.inr rfl) (by decide))) (fun _ _ _ _ _ => dts_nil) (fun _ _ _ _ _ => (de_meth T.cl_Stair T.M_Stair_at (dv 0) (ok_Stair_at T) (hr.mono (by decide)) T.b_Stair_at .nil (fun _ _ => rpL_nil) takes0N (da_cons (dv 6) da_nil)))) da_nil)) (dg_tup rfl (dgs_cons (dg_name (i := 2) sc_Stair_fraction.nd rfl (by first | exact Or.inl rfl | exact Or.inr rfl) (by decide)) (dgs_cons (dg_name (i := 3) sc_Stair_fraction.nd rfl (by first | exact Or.inl rfl | exact Or.inr rfl) (by decide)) (dgs_cons (dg_name (i := 4) sc_Stair_fraction.nd rfl (by first | exact Or.inl rfl | exact Or.inr rfl) (by decide)) (dgs_cons (dg_name (i := 5) sc_Stair_fraction.nd rfl (by first | exact Or.inl rfl | exact Or.inr rfl) (by decide)) dgs_nil))))))
  (db_one (ds_ret (de_tup (da_cons (dv 2) (da_cons (dv 4) da_nil))))))
theorem ok_law_urn (T : Txt w K mg base) : FnG P w K mg base (L2N.CX P w) 1 T.f_law_urn T.fd_law_urn ["_law_script", "_law_at"] (upF K (sp_law_urn)) := by
  refine okD (k := 0) (t := fun Ed => t_law_urn Ed) T.F_law_urn sc_law_urn (len_law_urn) (fun cdv A outer s H E Ed hr => ?_) (pure_law_urn)
  exact (db_cons (ds_set 2 sc_law_urn.nd rfl (by first | exact .inl rfl | exact .inr rfl) de_int)
  (db_cons (ds_if (dt_cmp od_lt (dv 1) (de_callB cd_len (by rfl) T.n_len (by decide +kernel) (da_cons (dv 0) da_nil)) (nomark _)) (db_one (ds_set 2 sc_law_urn.nd rfl (by first | exact .inl rfl | exact .inr rfl) (de_ix (dv 0) (dv 1) (fun _ _ => rfl)))) db_nil)
  (db_cons (ds_set 3 sc_law_urn.nd rfl (by first | exact .inl rfl | exact .inr rfl) (de_callB cd_abs (by rfl) T.n_abs (by decide +kernel) (da_cons (dv 2) da_nil)))
  (db_cons (ds_if (dt_cmp od_lt (dv 3) (de_op od_pow de_int de_int) (nomark _)) (db_one (ds_set 3 sc_law_urn.nd rfl (by first | exact .inl rfl | exact .inr rfl) de_int)) db_nil)
  (db_one (ds_ret (de_lstO (da_cons (dv 3) (da_cons (de_op od_add (de_op od_add (de_op od_add (de_op od_mod (dv 2) de_int) (de_op od_mulA (de_op od_mulA de_int (dv 1)) (dv 1))) (de_op od_mulA de_int (dv 1))) de_int) (da_cons de_int da_nil))))))))))
theorem ok_law_draw (T : Txt w K mg base) : FnG P w K mg base (L2N.CX P w) 1 T.f_law_draw T.fd_law_draw ["_law_urn_here", "_law_wide"] (upF K (sp_law_draw)) := by
  refine okD (k := 0) (t := fun Ed => t_law_draw Ed) T.F_law_draw sc_law_draw (len_law_draw) (fun cdv A outer s H E Ed hr => ?_) (pure_law_draw)
  exact (db_cons (ds_if (dt_cmp od_gt (de_ix (dv 0) de_int (fun _ _ => rfl)) de_int (nomark _)) (db_cons (ds_set 2 sc_law_draw.nd rfl (by first | exact .inl rfl | exact .inr rfl) (de_op od_mod (de_ix (dv 0) de_int (fun _ _ => rfl)) (dv 1)))
  (db_cons (ds_store (dv 0) de_int (de_op od_fdiv (de_ix (dv 0) de_int (fun _ _ => rfl)) (dv 1)))
  (db_one (ds_ret (dv 2))))) db_nil)
  (db_cons (ds_set 3 sc_law_draw.nd rfl (by first | exact .inl rfl | exact .inr rfl) (de_tup (da_cons de_int (da_cons de_int (da_cons de_int (da_cons de_int (da_cons de_int (da_cons de_int (da_cons de_int da_nil)))))))))
  (db_cons (ds_store (dv 0) de_int (de_op od_add (de_ix (dv 0) de_int (fun _ _ => rfl)) de_int))
  (db_cons (ds_set 4 sc_law_draw.nd rfl (by first | exact .inl rfl | exact .inr rfl) (de_ix (dv 0) de_int (fun _ _ => rfl)))
  (db_cons (ds_set 5 sc_law_draw.nd rfl (by first | exact .inl rfl | exact .inr rfl) (de_op od_add (de_op od_add (de_op od_mulA (de_ix (dv 0) de_int (fun _ _ => rfl)) (de_op od_add (de_op od_mulA de_int (dv 4)) de_int)) (de_op od_mulA (de_op od_mulA de_int (dv 4)) (dv 4))) de_int))
  (db_cons (ds_set 6 sc_law_draw.nd rfl (by first | exact .inl rfl | exact .inr rfl) (de_op od_mod (de_op od_pow (dv 5) de_int) (de_ix (dv 3) (de_op od_mod (dv 4) de_int) (fun _ _ => rfl))))
  (db_one (ds_ret (de_op od_mod (de_op od_fdiv (de_op od_mod (de_op od_mulA (dv 6) (de_op od_add (de_op od_fdiv (dv 6) de_int) (dv 4))) (de_ix (dv 3) (de_op od_mod (de_op od_add (dv 4) de_int) de_int) (fun _ _ => rfl))) de_int) (dv 1))))))))))
theorem ok_law_whole (T : Txt w K mg base) : FnG P w K mg base (L2N.CX P w) 1 T.f_law_whole T.fd_law_whole ["_law_thing"] (upF K (sp_law_whole)) := by
  refine okD (k := 0) (t := fun Ed => t_law_whole Ed) T.F_law_whole sc_law_whole (len_law_whole) (fun cdv A outer s H E Ed hr => ?_) (pure_law_whole)
  exact (db_one (ds_ret (de_and (de_callB cd_isi (by rfl) T.n_isinstance (by decide +kernel) (da_cons (dv 0) (da_cons (de_ty (by rfl) T.n_int (by decide +kernel)) da_nil))) (de_one (de_not (de_callB cd_isi (by rfl) T.n_isinstance (by decide +kernel) (da_cons (dv 0) (da_cons (de_ty (by rfl) T.n_bool (by decide +kernel)) da_nil))))))))
theorem ok_law_shared (T : Txt w K mg base) : FnG P w K mg base (L2N.CX P w) 1 T.f_law_shared T.fd_law_shared ["_law_one", "_law_other"] (upF K (sp_law_shared)) := by
  refine okD (k := 0) (t := fun Ed => t_law_shared Ed) T.F_law_shared sc_law_shared (len_law_shared) (fun cdv A outer s H E Ed hr => ?_) (pure_law_shared)
  exact (db_cons (ds_par 0 1 rfl sc_law_shared.nd rfl rfl (by decide) rfl rfl (da_cons (de_callB cd_abs (by rfl) T.n_abs (by decide +kernel) (da_cons (dv 0) da_nil)) (da_cons (de_callB cd_abs (by rfl) T.n_abs (by decide +kernel) (da_cons (dv 1) da_nil)) da_nil)) (by rfl))
  (db_cons (ds_while passB (dt_cmp od_gt (dv 1) de_int (nomark _))
  (db_one (ds_par 0 1 rfl sc_law_shared.nd rfl rfl (by decide) rfl rfl (da_cons (dv 1) (da_cons (de_op od_mod (dv 0) (dv 1)) da_nil)) (by rfl))))
  (db_one (ds_ret (dv 0)))))
theorem ok_law_low (T : Txt w K mg base) : FnG P w K mg base (L2N.CX P w) 2 T.f_law_low T.fd_law_low ["_law_upper", "_law_lower"] (upF K (sp_law_low)) := by
  refine okD (k := 1) (t := fun Ed => t_law_low Ed) T.F_law_low sc_law_low (len_law_low) (fun cdv A outer s H E Ed hr => ?_) (pure_law_low)
  exact (db_cons (ds_set 2 sc_law_low.nd rfl (by first | exact .inl rfl | exact .inr rfl) (de_call (ok_law_shared T) (hr.mono (by decide)) (by rfl) T.m_law_shared T.F_law_shared.kp T.b_law_shared .nil (fun _ _ => rpL_nil) takesB (da_cons (dv 0) (da_cons (dv 1) da_nil))))
  (db_one (ds_ret (de_tup (da_cons (de_op od_fdiv (dv 0) (dv 2)) (da_cons (de_op od_fdiv (dv 1) (dv 2)) da_nil))))))
theorem ok_law_is_fraction (T : Txt w K mg base) : FnG P w K mg base (L2N.CX P w) 2 T.f_law_is_fraction T.fd_law_is_fraction ["_law_thing"] (upF K (sp_law_is_fraction)) := by
  refine okD (k := 1) (t := fun Ed => t_law_is_fraction Ed) T.F_law_is_fraction sc_law_is_fraction (len_law_is_fraction) (fun cdv A outer s H E Ed hr => ?_) (pure_law_is_fraction)
  exact (db_cons (ds_if (DW.pt (dw_or (dt_not (dt_val (de_callB cd_isi (by rfl) T.n_isinstance (by decide +kernel) (da_cons (dv 0) (da_cons (de_ty (by rfl) T.n_tuple (by decide +kernel)) da_nil))))) (dw_or (dt_cmp (od_ne hr.units) (de_callB cd_len (by rfl) T.n_len (by decide +kernel) (da_cons (dv 0) da_nil)) de_int (nomark _)) (dw_or (dt_not (dt_val (de_call (ok_law_whole T) (hr.mono (by decide)) (by rfl) T.m_law_whole T.F_law_whole.kp T.b_law_whole .nil (fun _ _ => rpL_nil) takesB (da_cons (de_ix (dv 0) de_int (fun _ _ => rfl)) da_nil)))) (dw_or1 (dt_not (dt_val (de_call (ok_law_whole T) (hr.mono (by decide)) (by rfl) T.m_law_whole T.F_law_whole.kp T.b_law_whole .nil (fun _ _ => rpL_nil) takesB (da_cons (de_ix (dv 0) de_int (fun _ _ => rfl)) da_nil))))))))) (db_one (ds_ret de_bl)) db_nil)
  (db_one (ds_ret (de_and (de_cmp od_gt (de_ix (dv 0) de_int (fun _ _ => rfl)) de_int (nomark _)) (de_one (de_cmp (od_eq hr.units) (de_call (ok_law_shared T) (hr.mono (by decide)) (by rfl) T.m_law_shared T.F_law_shared.kp T.b_law_shared .nil (fun _ _ => rpL_nil) takesB (da_cons (de_ix (dv 0) de_int (fun _ _ => rfl)) (da_cons (de_ix (dv 0) de_int (fun _ _ => rfl)) da_nil))) de_int (nomark _)))))))
theorem ok_law_sign (T : Txt w K mg base) : FnG P w K mg base (L2N.CX P w) 1 T.f_law_sign T.fd_law_sign ["_law_parts"] (upF K (sp_law_sign)) := by
  refine okD (k := 0) (t := fun Ed => t_law_sign Ed) T.F_law_sign sc_law_sign (len_law_sign) (fun cdv A outer s H E Ed hr => ?_) (pure_law_sign)
  exact (db_cons (ds_set 1 sc_law_sign.nd rfl (by first | exact .inl rfl | exact .inr rfl) (de_op od_mulA (de_ix (dv 0) de_int (fun _ _ => rfl)) (de_callB cd_abs (by rfl) T.n_abs (by decide +kernel) (da_cons (de_ix (dv 0) de_int (fun _ _ => rfl)) da_nil))))
  (db_cons (ds_set 1 sc_law_sign.nd rfl (by first | exact .inl rfl | exact .inr rfl) (de_op od_add (dv 1) (de_op od_mulA (de_op od_mulA (de_ix (dv 0) de_int (fun _ _ => rfl)) (de_ix (dv 0) de_int (fun _ _ => rfl))) (de_callB cd_abs (by rfl) T.n_abs (by decide +kernel) (da_cons (de_ix (dv 0) de_int (fun _ _ => rfl)) da_nil)))))
  (db_one (ds_ret (de_op od_sub (de_callTy cd_int (by rfl) T.n_int (by decide +kernel) (da_cons (de_cmp od_gt (dv 1) de_int (nomark _)) da_nil)) (de_callTy cd_int (by rfl) T.n_int (by decide +kernel) (da_cons (de_cmp od_lt (dv 1) de_int (nomark _)) da_nil)))))))
theorem ok_law_below (T : Txt w K mg base) : FnG P w K mg base (L2N.CX P w) 2 T.f_law_below T.fd_law_below ["_law_one", "_law_other"] (upF K (sp_law_below)) := by
  refine okD (k := 1) (t := fun Ed => t_law_below Ed) T.F_law_below sc_law_below (len_law_below) (fun cdv A outer s H E Ed hr => ?_) (pure_law_below)
  exact (db_cons (ds_par 2 3 rfl sc_law_below.nd rfl rfl (by decide) rfl rfl (da_cons (de_op od_mulA (de_ix (dv 1) de_int (fun _ _ => rfl)) (de_ix (dv 0) de_int (fun _ _ => rfl))) (da_cons (de_op od_sub de_int (de_op od_mulA (de_ix (dv 0) de_int (fun _ _ => rfl)) (de_ix (dv 1) de_int (fun _ _ => rfl)))) da_nil)) (by rfl))
  (db_cons (ds_set 4 sc_law_below.nd rfl (by first | exact .inl rfl | exact .inr rfl) (de_op od_sub (de_op od_mulA (de_ix (dv 1) de_int (fun _ _ => rfl)) (de_ix (dv 0) de_int (fun _ _ => rfl))) (de_op od_mulA (de_ix (dv 0) de_int (fun _ _ => rfl)) (de_ix (dv 1) de_int (fun _ _ => rfl)))))
  (db_cons (ds_set 5 sc_law_below.nd rfl (by first | exact .inl rfl | exact .inr rfl) (de_call (ok_law_sign T) (hr.mono (by decide)) (by rfl) T.m_law_sign T.F_law_sign.kp T.b_law_sign .nil (fun _ _ => rpL_nil) takesB (da_cons (de_tup (da_cons (dv 4) (da_cons (dv 2) (da_cons (de_ix (dv 1) de_int (fun _ _ => rfl)) (da_cons de_int da_nil))))) da_nil)))
  (db_cons (ds_set 6 sc_law_below.nd rfl (by first | exact .inl rfl | exact .inr rfl) (de_op od_sub (de_callTy cd_int (by rfl) T.n_int (by decide +kernel) (da_cons (de_cmp od_gt (dv 3) de_int (nomark _)) da_nil)) (de_callTy cd_int (by rfl) T.n_int (by decide +kernel) (da_cons (de_cmp od_lt (dv 3) de_int (nomark _)) da_nil))))
  (db_cons (ds_if (dt_cmp od_ge (de_op od_mulA (dv 5) (dv 6)) de_int (nomark _)) (db_one (ds_ret (de_cmp od_gt (de_op od_add (dv 5) (dv 6)) de_int (nomark _)))) db_nil)
  (db_cons (ds_set 7 sc_law_below.nd rfl (by first | exact .inl rfl | exact .inr rfl) (de_op od_add (de_op od_mulA (dv 4) (dv 4)) (de_op od_mulA (de_op od_mulA (dv 2) (dv 2)) (de_ix (dv 1) de_int (fun _ _ => rfl)))))
  (db_cons (ds_set 7 sc_law_below.nd rfl (by first | exact .inl rfl | exact .inr rfl) (de_op od_sub (dv 7) (de_op od_mulA (de_op od_mulA (dv 3) (dv 3)) (de_ix (dv 0) de_int (fun _ _ => rfl)))))
  (db_one (ds_ret (de_cmp od_gt (de_op od_mulA (de_call (ok_law_sign T) (hr.mono (by decide)) (by rfl) T.m_law_sign T.F_law_sign.kp T.b_law_sign .nil (fun _ _ => rpL_nil) takesB (da_cons (de_tup (da_cons (dv 7) (da_cons (de_op od_mulA (de_op od_mulA de_int (dv 4)) (dv 2)) (da_cons (de_ix (dv 1) de_int (fun _ _ => rfl)) (da_cons de_int da_nil))))) da_nil)) (dv 5)) de_int (nomark _)))))))))))
theorem wh_law_which (T : Txt w K mg base) {k : Nat} : WhOk P w K mg base k T.f_law_which s_law_which N_law_which "_law_which" :=
  whOk (t := fun a od xc => t_law_which a od xc) (fun a oe od xc sf A outer s H cdv hr hot => (db_cons (ds_set 1 sc_law_which.nd rfl (by first | exact .inl rfl | exact .inr rfl) (de_lst (da_cons (de_tup (da_cons de_str (da_cons (de_isxO (T.own _ (by decide +kernel)) (by rfl) (by decide +kernel) sf (.head _) (by rfl) T.n_isinstance (i := 0) rfl (by first | exact .inl rfl | exact .inr (.inl rfl))) (da_cons (de_isxB (ty := "ArithmeticError") T.zn_ArithmeticError T.n_ArithmeticError (by decide +kernel) (by rfl) (by decide +kernel) sf (.head _) (by rfl) T.n_isinstance (i := 0) rfl (by first | exact .inl rfl | exact .inr (.inl rfl))) da_nil)))) (da_cons (de_tup (da_cons de_str (da_cons (de_isxO (T.own _ (by decide +kernel)) (by rfl) (by decide +kernel) sf (.head _) (by rfl) T.n_isinstance (i := 0) rfl (by first | exact .inl rfl | exact .inr (.inl rfl))) (da_cons (de_isxB (ty := "ArithmeticError") T.zn_ArithmeticError T.n_ArithmeticError (by decide +kernel) (by rfl) (by decide +kernel) sf (.head _) (by rfl) T.n_isinstance (i := 0) rfl (by first | exact .inl rfl | exact .inr (.inl rfl))) da_nil)))) (da_cons (de_tup (da_cons de_str (da_cons (de_isxO (T.own _ (by decide +kernel)) (by rfl) (by decide +kernel) sf (.head _) (by rfl) T.n_isinstance (i := 0) rfl (by first | exact .inl rfl | exact .inr (.inl rfl))) (da_cons (de_isxB (ty := "ZeroDivisionError") T.zn_ZeroDivisionError T.n_ZeroDivisionError (by decide +kernel) (by rfl) (by decide +kernel) sf (.head _) (by rfl) T.n_isinstance (i := 0) rfl (by first | exact .inl rfl | exact .inr (.inl rfl))) da_nil)))) (da_cons (de_tup (da_cons de_str (da_cons (de_isxO (T.own _ (by decide +kernel)) (by rfl) (by decide +kernel) sf (.head _) (by rfl) T.n_isinstance (i := 0) rfl (by first | exact .inl rfl | exact .inr (.inl rfl))) (da_cons (de_isxB (ty := "OverflowError") T.zn_OverflowError T.n_OverflowError (by decide +kernel) (by rfl) (by decide +kernel) sf (.head _) (by rfl) T.n_isinstance (i := 0) rfl (by first | exact .inl rfl | exact .inr (.inl rfl))) da_nil)))) (da_cons (de_tup (da_cons de_str (da_cons (de_isxO (T.own _ (by decide +kernel)) (by rfl) (by decide +kernel) sf (.head _) (by rfl) T.n_isinstance (i := 0) rfl (by first | exact .inl rfl | exact .inr (.inl rfl))) (da_cons (de_isxB (ty := "TypeError") T.zn_TypeError T.n_TypeError (by decide +kernel) (by rfl) (by decide +kernel) sf (.head _) (by rfl) T.n_isinstance (i := 0) rfl (by first | exact .inl rfl | exact .inr (.inl rfl))) da_nil)))) (da_cons (de_tup (da_cons de_str (da_cons (de_isxO (T.own _ (by decide +kernel)) (by rfl) (by decide +kernel) sf (.head _) (by rfl) T.n_isinstance (i := 0) rfl (by first | exact .inl rfl | exact .inr (.inl rfl))) (da_cons (de_isxB (ty := "IndexError") T.zn_IndexError T.n_IndexError (by decide +kernel) (by rfl) (by decide +kernel) sf (.head _) (by rfl) T.n_isinstance (i := 0) rfl (by first | exact .inl rfl | exact .inr (.inl rfl))) da_nil)))) (da_cons (de_tup (da_cons de_str (da_cons (de_isxO (T.own _ (by decide +kernel)) (by rfl) (by decide +kernel) sf (.head _) (by rfl) T.n_isinstance (i := 0) rfl (by first | exact .inl rfl | exact .inr (.inl rfl))) (da_cons (de_isxB (ty := "KeyError") T.zn_KeyError T.n_KeyError (by decide +kernel) (by rfl) (by decide +kernel) sf (.head _) (by rfl) T.n_isinstance (i := 0) rfl (by first | exact .inl rfl | exact .inr (.inl rfl))) da_nil)))) (da_cons (de_tup (da_cons de_str (da_cons (de_isxO (T.own _ (by decide +kernel)) (by rfl) (by decide +kernel) sf (.head _) (by rfl) T.n_isinstance (i := 0) rfl (by first | exact .inl rfl | exact .inr (.inl rfl))) (da_cons (de_isxB (ty := "LookupError") T.zn_LookupError T.n_LookupError (by decide +kernel) (by rfl) (by decide +kernel) sf (.head _) (by rfl) T.n_isinstance (i := 0) rfl (by first | exact .inl rfl | exact .inr (.inl rfl))) da_nil)))) (da_cons (de_tup (da_cons de_str (da_cons (de_isxO (T.own _ (by decide +kernel)) (by rfl) (by decide +kernel) sf (.head _) (by rfl) T.n_isinstance (i := 0) rfl (by first | exact .inl rfl | exact .inr (.inl rfl))) (da_cons (de_isxB (ty := "RuntimeError") T.zn_RuntimeError T.n_RuntimeError (by decide +kernel) (by rfl) (by decide +kernel) sf (.head _) (by rfl) T.n_isinstance (i := 0) rfl (by first | exact .inl rfl | exact .inr (.inl rfl))) da_nil)))) (da_cons (de_tup (da_cons de_str (da_cons (de_isxO (T.own _ (by decide +kernel)) (by rfl) (by decide +kernel) sf (.head _) (by rfl) T.n_isinstance (i := 0) rfl (by first | exact .inl rfl | exact .inr (.inl rfl))) (da_cons (de_isxB (ty := "ValueError") T.zn_ValueError T.n_ValueError (by decide +kernel) (by rfl) (by decide +kernel) sf (.head _) (by rfl) T.n_isinstance (i := 0) rfl (by first | exact .inl rfl | exact .inr (.inl rfl))) da_nil)))) (da_cons (de_tup (da_cons de_str (da_cons (de_isxO (T.own _ (by decide +kernel)) (by rfl) (by decide +kernel) sf (.head _) (by rfl) T.n_isinstance (i := 0) rfl (by first | exact .inl rfl | exact .inr (.inl rfl))) (da_cons (de_isxB (ty := "ValueError") T.zn_ValueError T.n_ValueError (by decide +kernel) (by rfl) (by decide +kernel) sf (.head _) (by rfl) T.n_isinstance (i := 0) rfl (by first | exact .inl rfl | exact .inr (.inl rfl))) da_nil)))) (da_cons (de_tup (da_cons de_str (da_cons (de_isxO (T.own _ (by decide +kernel)) (by rfl) (by decide +kernel) sf (.head _) (by rfl) T.n_isinstance (i := 0) rfl (by first | exact .inl rfl | exact .inr (.inl rfl))) (da_cons (de_isxB (ty := "ValueError") T.zn_ValueError T.n_ValueError (by decide +kernel) (by rfl) (by decide +kernel) sf (.head _) (by rfl) T.n_isinstance (i := 0) rfl (by first | exact .inl rfl | exact .inr (.inl rfl))) da_nil)))) (da_cons (de_tup (da_cons de_str (da_cons (de_isxO (T.own _ (by decide +kernel)) (by rfl) (by decide +kernel) sf (.head _) (by rfl) T.n_isinstance (i := 0) rfl (by first | exact .inl rfl | exact .inr (.inl rfl))) (da_cons (de_isxB (ty := "ValueError") T.zn_ValueError T.n_ValueError (by decide +kernel) (by rfl) (by decide +kernel) sf (.head _) (by rfl) T.n_isinstance (i := 0) rfl (by first | exact .inl rfl | exact .inr (.inl rfl))) da_nil)))) (da_cons (de_tup (da_cons de_str (da_cons (de_isxO (T.own _ (by decide +kernel)) (by rfl) (by decide +kernel) sf (.head _) (by rfl) T.n_isinstance (i := 0) rfl (by first | exact .inl rfl | exact .inr (.inl rfl))) (da_cons (de_isxB (ty := "ValueError") T.zn_ValueError T.n_ValueError (by decide +kernel) (by rfl) (by decide +kernel) sf (.head _) (by rfl) T.n_isinstance (i := 0) rfl (by first | exact .inl rfl | exact .inr (.inl rfl))) da_nil)))) (da_cons (de_tup (da_cons de_str (da_cons (de_isxO (T.own _ (by decide +kernel)) (by rfl) (by decide +kernel) sf (.head _) (by rfl) T.n_isinstance (i := 0) rfl (by first | exact .inl rfl | exact .inr (.inl rfl))) (da_cons (de_isxB (ty := "ValueError") T.zn_ValueError T.n_ValueError (by decide +kernel) (by rfl) (by decide +kernel) sf (.head _) (by rfl) T.n_isinstance (i := 0) rfl (by first | exact .inl rfl | exact .inr (.inl rfl))) da_nil)))) (da_cons (de_tup (da_cons de_str (da_cons (de_isxO (T.own _ (by decide +kernel)) (by rfl) (by decide +kernel) sf (.head _) (by rfl) T.n_isinstance (i := 0) rfl (by first | exact .inl rfl | exact .inr (.inl rfl))) (da_cons (de_isxB (ty := "ValueError") T.zn_ValueError T.n_ValueError (by decide +kernel) (by rfl) (by decide +kernel) sf (.head _) (by rfl) T.n_isinstance (i := 0) rfl (by first | exact .inl rfl | exact .inr (.inl rfl))) da_nil)))) (da_cons (de_tup (da_cons de_str (da_cons (de_isxO (T.own _ (by decide +kernel)) (by rfl) (by decide +kernel) sf (.head _) (by rfl) T.n_isinstance (i := 0) rfl (by first | exact .inl rfl | exact .inr (.inl rfl))) (da_cons (de_isxB (ty := "ValueError") T.zn_ValueError T.n_ValueError (by decide +kernel) (by rfl) (by decide +kernel) sf (.head _) (by rfl) T.n_isinstance (i := 0) rfl (by first | exact .inl rfl | exact .inr (.inl rfl))) da_nil)))) da_nil)))))))))))))))))))
  (db_cons (ds_setLcH (own := [("_law_name", 4), ("_law_ours", 5), ("_law_theirs", 6)]) 2 hot sc_law_which.nd rfl rfl (sw_true rfl rfl rfl (by decide +kernel)) (dih_list (dv 1)) (blkOk_by (own := [("_law_name", 4), ("_law_ours", 5), ("_law_theirs", 6)]) (N := N_law_which) (sc := defScope s_law_which) (by decide +kernel)) (fun _ _ _ _ _ => (dg_tupH hot (dgs_cons (dg_name (i := 4) sc_law_which.nd rfl (by first | exact Or.inl rfl | exact Or.inr rfl) (by decide)) (dgs_cons (dg_name (i := 5) sc_law_which.nd rfl (by first | exact Or.inl rfl | exact Or.inr rfl) (by decide)) (dgs_cons (dg_name (i := 6) sc_law_which.nd rfl (by first | exact Or.inl rfl | exact Or.inr rfl) (by decide)) dgs_nil))))) (fun _ _ _ _ _ => (dts_one (dt_val (dv 5)))) (fun _ _ _ _ _ => (dv 4)))
  (db_cons (ds_setLcH (own := [("_law_name", 4), ("_law_ours", 5), ("_law_theirs", 6)]) 3 hot sc_law_which.nd rfl rfl (sw_true rfl rfl rfl (by decide +kernel)) (dih_list (dv 1)) (blkOk_by (own := [("_law_name", 4), ("_law_ours", 5), ("_law_theirs", 6)]) (N := N_law_which) (sc := defScope s_law_which) (by decide +kernel)) (fun _ _ _ _ _ => (dg_tupH hot (dgs_cons (dg_name (i := 4) sc_law_which.nd rfl (by first | exact Or.inl rfl | exact Or.inr rfl) (by decide)) (dgs_cons (dg_name (i := 5) sc_law_which.nd rfl (by first | exact Or.inl rfl | exact Or.inr rfl) (by decide)) (dgs_cons (dg_name (i := 6) sc_law_which.nd rfl (by first | exact Or.inl rfl | exact Or.inr rfl) (by decide)) dgs_nil))))) (fun _ _ _ _ _ => (dts_one (DW.pt (dw_and (dt_val (dv 5)) (dw_and1 (dt_val (dv 6))))))) (fun _ _ _ _ _ => (dv 4)))
  (db_cons (ds_if (DW.pt (dw_and (dt_cmp (od_eq (unitsH hr)) (de_callB cd_len (by rfl) T.n_len (by decide +kernel) (da_cons (dv 2) da_nil)) de_int (nomark _)) (dw_and1 (dt_cmp (od_eq (unitsH hr)) (dv 3) (dv 2) (nomark _))))) (db_one (ds_ret (de_ix (dv 2) de_int (fun _ _ => rfl)))) db_nil)
  (db_one (ds_ret de_str))))))) pure_law_which
def cX1 : List Str := ["NoNumber", "NoForm", "OverNought", "TooMany", "NoKin", "NoPlace", "NoName", "NoTurn", "NoRow", "NoStair", "NoRing"]
def cX2 : List Str := ["NoWord", "NoStep", "Uneven", "NoWay", "NoTable", "NoTriple"]
theorem gives_law_refused (T : Txt w K mg base) {k : Nat} {N : List Str} {qual q : Str} {st : Stmt} {f : Addr} {cdv0 cdv : Value} {A : Around} {outer : List Env} {s : Shared} {H : Hp} {E : XK} : Hx.GivesN (bodyCx P w K mg base N qual st f cdv0 A outer s H E) (k + 1) N_law_refused "_law_refused" (defScope s_law_refused) T.f_law_refused cdv (defBody s_law_refused) "_law_deed" q (TRef K rsX) :=
  gives_ref (X := bodyCx P w K mg base N qual st f cdv0 A outer s H E) (x := "_law_refused") (sg := defScope s_law_refused) (g := T.f_law_refused) (wn := "_law_which") (rs := rsX) (c1 := cX1) (c2 := cX2) (k := k) (fun n _ h => (by decide +kernel : ∀ n ∈ ownCls, cX1.any (excIs n) = true ∨ cX2.any (excIs n) = true) n h) (by decide +kernel) (by decide +kernel) (by decide) (by decide) (wh_law_which T) T.F_law_which sc_law_which T.b_law_which T.m_law_which rfl sc_law_refused.nd rfl rfl (fun _ _ _ => (nmsO (T.own _ (by decide +kernel)) rfl (nmsO (T.own _ (by decide +kernel)) rfl (nmsO (T.own _ (by decide +kernel)) rfl (nmsO (T.own _ (by decide +kernel)) rfl (nmsO (T.own _ (by decide +kernel)) rfl (nmsO (T.own _ (by decide +kernel)) rfl (nmsO (T.own _ (by decide +kernel)) rfl (nmsO (T.own _ (by decide +kernel)) rfl (nmsO (T.own _ (by decide +kernel)) rfl (nmsO (T.own _ (by decide +kernel)) rfl (nmsO (T.own _ (by decide +kernel)) rfl .nil)))))))))))) (fun _ _ _ => (nmsO (T.own _ (by decide +kernel)) rfl (nmsO (T.own _ (by decide +kernel)) rfl (nmsO (T.own _ (by decide +kernel)) rfl (nmsO (T.own _ (by decide +kernel)) rfl (nmsO (T.own _ (by decide +kernel)) rfl (nmsO (T.own _ (by decide +kernel)) rfl .nil))))))) (fun _ => rfl) (by decide)
theorem ok_law_ring (T : Txt w K mg base) : FnG P w K mg base (L2N.CX P w) 2 T.f_law_ring T.fd_law_ring ["_law_urn_here", "_law_most"] (upF K (sp_law_ring)) := by
  refine okD (k := 1) (t := fun Ed => t_law_ring Ed) T.F_law_ring sc_law_ring (len_law_ring) (fun cdv A outer s H E Ed hr => ?_) (pure_law_ring)
  exact (db_cons (ds_set 2 sc_law_ring.nd rfl (by first | exact .inl rfl | exact .inr rfl) (de_ix (de_lst (da_cons de_int (da_cons de_int (da_cons de_int (da_cons de_int (da_cons de_int (da_cons de_int (da_cons de_int (da_cons (dv 1) da_nil))))))))) (de_call (ok_law_draw T) (hr.mono (by decide)) (by rfl) T.m_law_draw T.F_law_draw.kp T.b_law_draw .nil (fun _ _ => rpL_nil) takesB (da_cons (dv 0) (da_cons de_int da_nil))) (fun _ _ => rfl)))
  (db_cons (ds_set 3 sc_law_ring.nd rfl (by first | exact .inl rfl | exact .inr rfl) (de_ix (de_lst (da_cons de_int (da_cons de_int (da_cons de_int (da_cons de_int (da_cons de_int (da_cons de_int da_nil))))))) (de_call (ok_law_draw T) (hr.mono (by decide)) (by rfl) T.m_law_draw T.F_law_draw.kp T.b_law_draw .nil (fun _ _ => rpL_nil) takesB (da_cons (dv 0) (da_cons de_int da_nil))) (fun _ _ => rfl)))
  (db_one (ds_ret (de_callTy (cd_tupA rfl) (by rfl) T.n_tuple (by decide +kernel) (da_cons (de_lc (own := [("_law_k", 4)]) rfl sc_law_ring.nd (di_rng1 (by rfl) T.n_range (da_cons (de_op od_add de_int (de_call (ok_law_draw T) (hr.mono (by decide)) (by rfl) T.m_law_draw T.F_law_draw.kp T.b_law_draw .nil (fun _ _ => rpL_nil) takesB (da_cons (dv 0) (da_cons (dv 2) da_nil)))) da_nil)) (blkOk_by (own := [("_law_k", 4)]) (N := N_law_ring) (sc := defScope s_law_ring) (by decide +kernel)) (fun _ _ _ _ _ => (dg_name (i := 4) sc_law_ring.nd rfl (by first | exact Or.inl rfl | exact Or.inr rfl) (by decide))) (fun _ _ _ _ _ => dts_nil) (fun _ _ _ _ _ => (de_op od_add de_int (de_call (ok_law_draw T) (hr.mono (by decide)) (by rfl) T.m_law_draw T.F_law_draw.kp T.b_law_draw .nil (fun _ _ => rpL_nil) takes0N (da_cons (dv 0) (da_cons (dv 3) da_nil)))))) da_nil))))))
theorem ok_law_ring_table (T : Txt w K mg base) : FnG P w K mg base (L2N.CX P w) 1 T.f_law_ring_table T.fd_law_ring_table ["_law_row"] (upF K (sp_law_ring_table)) := by
  refine okD (k := 0) (t := fun Ed => t_law_ring_table Ed) T.F_law_ring_table sc_law_ring_table (len_law_ring_table) (fun cdv A outer s H E Ed hr => ?_) (pure_law_ring_table)
  exact (db_cons (ds_asg (vs := [1, 2, 3, 4]) (de_tup (da_cons de_int (da_cons de_int (da_cons de_int (da_cons de_int da_nil))))) (dg_tup rfl (dgs_cons (dg_name (i := 1) sc_law_ring_table.nd rfl (by first | exact Or.inl rfl | exact Or.inr rfl) (by decide)) (dgs_cons (dg_name (i := 2) sc_law_ring_table.nd rfl (by first | exact Or.inl rfl | exact Or.inr rfl) (by decide)) (dgs_cons (dg_name (i := 3) sc_law_ring_table.nd rfl (by first | exact Or.inl rfl | exact Or.inr rfl) (by decide)) (dgs_cons (dg_name (i := 4) sc_law_ring_table.nd rfl (by first | exact Or.inl rfl | exact Or.inr rfl) (by decide)) dgs_nil))))))
  (db_cons (ds_for (vs := [5]) passB rfl (di_any (dv 0)) (dg_name (i := 5) sc_law_ring_table.nd rfl (by first | exact Or.inl rfl | exact Or.inr rfl) (by decide))
  (db_cons (ds_par 1 2 rfl sc_law_ring_table.nd rfl rfl (by decide) rfl rfl (da_cons (de_op od_add (de_op od_mulA (dv 1) (dv 5)) (dv 2)) (da_cons (dv 1) da_nil)) (by rfl))
  (db_one (ds_par 3 4 rfl sc_law_ring_table.nd rfl rfl (by decide) rfl rfl (da_cons (de_op od_add (de_op od_mulA (dv 3) (dv 5)) (dv 4)) (da_cons (dv 3) da_nil)) (by rfl)))))
  (db_one (ds_ret (de_tup (da_cons (dv 1) (da_cons (dv 2) (da_cons (dv 3) (da_cons (dv 4) da_nil)))))))))
theorem ok_law_ahead (T : Txt w K mg base) : FnG P w K mg base (L2N.CX P w) 2 T.f_law_ahead T.fd_law_ahead ["_law_urn_here", "_law_most"] (upF K (sp_law_ahead)) := by
  refine okD (k := 1) (t := fun Ed => t_law_ahead Ed) T.F_law_ahead sc_law_ahead (len_law_ahead) (fun cdv A outer s H E Ed hr => ?_) (pure_law_ahead)
  exact (db_cons (ds_set 2 sc_law_ahead.nd rfl (by first | exact .inl rfl | exact .inr rfl) (de_ix (de_lst (da_cons de_int (da_cons de_int (da_cons de_int (da_cons de_int da_nil))))) (de_call (ok_law_draw T) (hr.mono (by decide)) (by rfl) T.m_law_draw T.F_law_draw.kp T.b_law_draw .nil (fun _ _ => rpL_nil) takesB (da_cons (dv 0) (da_cons de_int da_nil))) (fun _ _ => rfl)))
  (db_cons (ds_setLcO (own := [("_law_k", 4)]) 3 rfl sc_law_ahead.nd rfl rfl (sw_true rfl rfl rfl (by decide +kernel)) (di_rng1 (by rfl) T.n_range (da_cons (de_call (ok_law_draw T) (hr.mono (by decide)) (by rfl) T.m_law_draw T.F_law_draw.kp T.b_law_draw .nil (fun _ _ => rpL_nil) takesB (da_cons (dv 0) (da_cons (de_ix (de_lst (da_cons de_int (da_cons de_int (da_cons de_int (da_cons (de_op od_add (dv 1) de_int) da_nil))))) (de_call (ok_law_draw T) (hr.mono (by decide)) (by rfl) T.m_law_draw T.F_law_draw.kp T.b_law_draw .nil (fun _ _ => rpL_nil) takesB (da_cons (dv 0) (da_cons de_int da_nil))) (fun _ _ => rfl)) da_nil))) da_nil)) (blkOk_by (own := [("_law_k", 4)]) (N := N_law_ahead) (sc := defScope s_law_ahead) (by decide +kernel)) (fun _ _ _ _ _ => (dg_name (i := 4) sc_law_ahead.nd rfl (by first | exact Or.inl rfl | exact Or.inr rfl) (by decide))) (fun _ _ _ _ _ => dts_nil) (fun _ _ _ _ _ => (de_op od_add de_int (de_call (ok_law_draw T) (hr.mono (by decide)) (by rfl) T.m_law_draw T.F_law_draw.kp T.b_law_draw .nil (fun _ _ => rpL_nil) takes0N (da_cons (dv 0) (da_cons (dv 2) da_nil))))))
  (db_cons (ds_if (DW.pt (dw_and (dt_cmp (od_neO hr.units) (dv 3) (de_lst da_nil) (nomark _)) (dw_and1 (dt_cmp (od_eq hr.units) (de_call (ok_law_draw T) (hr.mono (by decide)) (by rfl) T.m_law_draw T.F_law_draw.kp T.b_law_draw .nil (fun _ _ => rpL_nil) takesB (da_cons (dv 0) (da_cons de_int da_nil))) de_int (nomark _))))) (db_one (ds_store (dv 3) de_int (de_op od_sub (de_call (ok_law_draw T) (hr.mono (by decide)) (by rfl) T.m_law_draw T.F_law_draw.kp T.b_law_draw .nil (fun _ _ => rpL_nil) takesB (da_cons (dv 0) (da_cons (de_op od_add (de_op od_mulA de_int (dv 2)) de_int) da_nil))) (dv 2)))) db_nil)
  (db_one (ds_ret (de_callTy (cd_tupA rfl) (by rfl) T.n_tuple (by decide +kernel) (da_cons (dv 3) da_nil)))))))
theorem ok_law_number (T : Txt w K mg base) : FnG P w K mg base (L2N.CX P w) 2 T.f_law_number T.fd_law_number ["_law_ahead_here", "_law_ring_here"] (upF K (sp_law_number)) := by
  refine okD (k := 1) (t := fun Ed => t_law_number Ed) T.F_law_number sc_law_number (len_law_number) (fun cdv A outer s H E Ed hr => ?_) (pure_law_number)
  exact (db_cons (ds_asg (vs := [2, 3, 4, 5]) (de_call (ok_law_ring_table T) (hr.mono (by decide)) (by rfl) T.m_law_ring_table T.F_law_ring_table.kp T.b_law_ring_table .nil (fun _ _ => rpL_nil) takesB (da_cons (dv 1) da_nil)) (dg_tup rfl (dgs_cons (dg_name (i := 2) sc_law_number.nd rfl (by first | exact Or.inl rfl | exact Or.inr rfl) (by decide)) (dgs_cons (dg_name (i := 3) sc_law_number.nd rfl (by first | exact Or.inl rfl | exact Or.inr rfl) (by decide)) (dgs_cons (dg_name (i := 4) sc_law_number.nd rfl (by first | exact Or.inl rfl | exact Or.inr rfl) (by decide)) (dgs_cons (dg_name (i := 5) sc_law_number.nd rfl (by first | exact Or.inl rfl | exact Or.inr rfl) (by decide)) dgs_nil))))))
  (db_cons (ds_par 6 7 rfl sc_law_number.nd rfl rfl (by decide) rfl rfl (da_cons (de_op od_sub (dv 2) (dv 5)) (da_cons (de_op od_mulA de_int (dv 4)) da_nil)) (by rfl))
  (db_cons (ds_set 8 sc_law_number.nd rfl (by first | exact .inl rfl | exact .inr rfl) (de_op od_add (de_op od_mulA (dv 6) (dv 6)) (de_op od_mulA (de_op od_mulA de_int (dv 3)) (dv 4))))
  (db_cons (ds_asg (vs := [2, 3, 4, 5]) (de_call (ok_law_ring_table T) (hr.mono (by decide)) (by rfl) T.m_law_ring_table T.F_law_ring_table.kp T.b_law_ring_table .nil (fun _ _ => rpL_nil) takesB (da_cons (dv 0) da_nil)) (dg_tup rfl (dgs_cons (dg_name (i := 2) sc_law_number.nd rfl (by first | exact Or.inl rfl | exact Or.inr rfl) (by decide)) (dgs_cons (dg_name (i := 3) sc_law_number.nd rfl (by first | exact Or.inl rfl | exact Or.inr rfl) (by decide)) (dgs_cons (dg_name (i := 4) sc_law_number.nd rfl (by first | exact Or.inl rfl | exact Or.inr rfl) (by decide)) (dgs_cons (dg_name (i := 5) sc_law_number.nd rfl (by first | exact Or.inl rfl | exact Or.inr rfl) (by decide)) dgs_nil))))))
  (db_cons (ds_set 9 sc_law_number.nd rfl (by first | exact .inl rfl | exact .inr rfl) (de_op od_add (de_op od_mulA (dv 2) (dv 6)) (de_op od_mulA (dv 3) (dv 7))))
  (db_cons (ds_set 10 sc_law_number.nd rfl (by first | exact .inl rfl | exact .inr rfl) (de_op od_add (de_op od_mulA (dv 4) (dv 6)) (de_op od_mulA (dv 5) (dv 7))))
  (db_cons (ds_set 11 sc_law_number.nd rfl (by first | exact .inl rfl | exact .inr rfl) (de_lst (da_cons (de_op od_sub (de_op od_mulA (dv 9) (dv 10)) (de_op od_mulA (de_op od_mulA (dv 2) (dv 4)) (dv 8))) (da_cons (de_op od_sub (de_op od_mulA (dv 2) (dv 10)) (de_op od_mulA (dv 9) (dv 4))) (da_cons (de_op od_sub (de_op od_mulA (dv 10) (dv 10)) (de_op od_mulA (de_op od_mulA (dv 4) (dv 4)) (dv 8))) da_nil)))))
  (db_cons (ds_if (dt_cmp od_lt (de_ix (dv 11) de_int (fun _ _ => rfl)) de_int (nomark _)) (db_one (ds_setLc (own := [("_law_part", 12)]) 11 rfl sc_law_number.nd rfl rfl (sw_true rfl rfl rfl (by decide +kernel)) (di_any (dv 11)) (blkOk_by (own := [("_law_part", 12)]) (N := N_law_number) (sc := defScope s_law_number) (by decide +kernel)) (fun _ _ _ _ _ => (dg_name (i := 12) sc_law_number.nd rfl (by first | exact Or.inl rfl | exact Or.inr rfl) (by decide))) (fun _ _ _ _ _ => dts_nil) (fun _ _ _ _ _ => (de_op od_sub de_int (dv 12))))) db_nil)
  (db_one (ds_ret (de_tup (da_cons (de_ix (dv 11) de_int (fun _ _ => rfl)) (da_cons (de_ix (dv 11) de_int (fun _ _ => rfl)) (da_cons (dv 8) (da_cons (de_ix (dv 11) de_int (fun _ _ => rfl)) da_nil)))))))))))))))
theorem ok_law_fraction (T : Txt w K mg base) : FnG P w K mg base (L2N.CX P w) 3 T.f_law_fraction T.fd_law_fraction ["_law_row"] (upF K (sp_law_fraction)) := by
  refine okD (k := 2) (t := fun Ed => t_law_fraction Ed) T.F_law_fraction sc_law_fraction (len_law_fraction) (fun cdv A outer s H E Ed hr => ?_) (pure_law_fraction)
  exact (db_cons (ds_par 1 2 rfl sc_law_fraction.nd rfl rfl (by decide) rfl rfl (da_cons (de_ix (dv 0) (de_neg de_int) (fun _ _ => rfl)) (da_cons de_int da_nil)) (by rfl))
  (db_cons (ds_for (vs := [3]) passB rfl (di_any (de_bk (dv 0))) (dg_name (i := 3) sc_law_fraction.nd rfl (by first | exact Or.inl rfl | exact Or.inr rfl) (by decide))
  (db_one (ds_par 1 2 rfl sc_law_fraction.nd rfl rfl (by decide) rfl rfl (da_cons (de_op od_add (de_op od_mulA (dv 3) (dv 1)) (dv 2)) (da_cons (dv 1) da_nil)) (by rfl))))
  (db_one (ds_ret (de_call (ok_law_low T) (hr.mono (by decide)) (by rfl) T.m_law_low T.F_law_low.kp T.b_law_low .nil (fun _ _ => rpL_nil) takesB (da_cons (de_op od_mulA (dv 1) (de_ix (de_lst (da_cons de_int (da_cons (de_neg de_int) da_nil))) (de_callTy cd_int (by rfl) T.n_int (by decide +kernel) (da_cons (de_cmp od_lt (dv 2) de_int (nomark _)) da_nil)) (fun _ _ => rfl))) (da_cons (de_callB cd_abs (by rfl) T.n_abs (by decide +kernel) (da_cons (dv 2) da_nil)) da_nil)))))))
theorem ok_law_fractions_right (T : Txt w K mg base) : FnG P w K mg base (L2N.CX P w) 5 T.f_law_fractions_right T.fd_law_fractions_right ["_law_urn_here", "_law_stair", "_law_ahead_here", "_law_ring_here"] (upF K (sp_law_fractions_right)) := by
  refine okD (k := 4) (t := fun Ed => t_law_fractions_right Ed) T.F_law_fractions_right sc_law_fractions_right (len_law_fractions_right) (fun cdv A outer s H E Ed hr => ?_) (pure_law_fractions_right)
  exact (db_cons (ds_set 4 sc_law_fractions_right.nd rfl (by first | exact .inl rfl | exact .inr rfl) (de_call (ok_law_number T) (hr.mono (by decide)) (by rfl) T.m_law_number T.F_law_number.kp T.b_law_number .nil (fun _ _ => rpL_nil) takesB (da_cons (dv 2) (da_cons (dv 3) da_nil))))
  (db_cons (ds_for (vs := [5]) passB rfl (di_any (de_lst (da_cons de_int (da_cons de_int (da_cons (de_op od_add de_int (de_call (ok_law_draw T) (hr.mono (by decide)) (by rfl) T.m_law_draw T.F_law_draw.kp T.b_law_draw .nil (fun _ _ => rpL_nil) takesB (da_cons (dv 0) (da_cons de_int da_nil)))) (da_cons (de_op od_add de_int (de_call (ok_law_draw T) (hr.mono (by decide)) (by rfl) T.m_law_draw T.F_law_draw.kp T.b_law_draw .nil (fun _ _ => rpL_nil) takesB (da_cons (dv 0) (da_cons de_int da_nil)))) da_nil)))))) (dg_name (i := 5) sc_law_fractions_right.nd rfl (by first | exact Or.inl rfl | exact Or.inr rfl) (by decide))
  (db_cons (ds_set 6 sc_law_fractions_right.nd rfl (by first | exact .inl rfl | exact .inr rfl) (de_meth T.cl_Stair T.M_Stair_fraction (dv 1) (ok_Stair_fraction T) (hr.mono (by decide)) T.b_Stair_fraction .nil (fun _ _ => rpL_nil) takesB (da_cons (dv 5) da_nil)))
  (db_cons (ds_if (DW.pt (dw_or (dt_not (dt_val (de_call (ok_law_is_fraction T) (hr.mono (by decide)) (by rfl) T.m_law_is_fraction T.F_law_is_fraction.kp T.b_law_is_fraction .nil (fun _ _ => rpL_nil) takesB (da_cons (dv 6) da_nil)))) (dw_or1 (dt_cmp (od_ne hr.units) (dv 6) (de_call (ok_law_fraction T) (hr.mono (by decide)) (by rfl) T.m_law_fraction T.F_law_fraction.kp T.b_law_fraction .nil (fun _ _ => rpL_nil) takesB (da_cons (de_slice (de_op od_add (dv 2) (de_op od_mulA (dv 3) de_int)) do_none (do_some (dv 5))) da_nil)) (nomark _))))) (db_one (ds_ret de_bl)) db_nil)
  (db_cons (ds_set 7 sc_law_fractions_right.nd rfl (by first | exact .inl rfl | exact .inr rfl) (de_tup (da_cons (de_ix (dv 6) de_int (fun _ _ => rfl)) (da_cons de_int (da_cons de_int (da_cons (de_ix (dv 6) de_int (fun _ _ => rfl)) da_nil))))))
  (db_one (ds_if (DW.pt (dw_or (dt_cmp (od_ne hr.units) (de_call (ok_law_below T) (hr.mono (by decide)) (by rfl) T.m_law_below T.F_law_below.kp T.b_law_below .nil (fun _ _ => rpL_nil) takesB (da_cons (dv 7) (da_cons (dv 4) da_nil))) (de_cmp (od_eq hr.units) (de_op od_mod (dv 5) de_int) de_int (nomark _)) (nomark _)) (dw_or1 (dt_cmp (od_ne hr.units) (de_methK T.cl_Stair T.M_Stair_fraction (dv 1) (ok_Stair_fraction T) (hr.mono (by decide)) T.ks_Stair_fraction_1_many takesB (dk_cons (dv 5) dk_nil)) (dv 6) (nomark _))))) (db_one (ds_ret de_bl)) db_nil))))))
  (db_one (ds_ret de_bl))))
theorem ok_law_form_right (T : Txt w K mg base) : FnG P w K mg base (L2N.CX P w) 7 T.f_law_form_right T.fd_law_form_right ["_law_ring_here"] (upF K (sp_law_form_right)) := by
  refine okD (k := 6) (t := fun Ed => t_law_form_right Ed) T.F_law_form_right sc_law_form_right (len_law_form_right) (fun cdv A outer s H E Ed hr => ?_) (pure_law_form_right)
  exact (db_cons (ds_set 1 sc_law_form_right.nd rfl (by first | exact .inl rfl | exact .inr rfl) (de_call (ok_ring_form T) (hr.mono (by decide)) (by rfl) T.m_ring_form T.F_ring_form.kp T.b_ring_form .nil (fun _ _ => rpL_nil) takesB (da_cons (dv 0) da_nil)))
  (db_cons (ds_if (DW.pt (dw_or (dt_not (dt_val (de_callB cd_isi (by rfl) T.n_isinstance (by decide +kernel) (da_cons (dv 1) (da_cons (de_ty (by rfl) T.n_tuple (by decide +kernel)) da_nil))))) (dw_or (dt_cmp (od_ne hr.units) (de_callB cd_len (by rfl) T.n_len (by decide +kernel) (da_cons (dv 1) da_nil)) de_int (nomark _)) (dw_or1 (dt_not (dt_val (de_callB (cd_all rfl) (by rfl) T.n_all (by decide +kernel) (da_cons (de_lc (own := [("_law_one", 13)]) rfl sc_law_form_right.nd (di_any (dv 1)) (blkOk_by (own := [("_law_one", 13)]) (N := N_law_form_right) (sc := defScope s_law_form_right) (by decide +kernel)) (fun _ _ _ _ _ => (dg_name (i := 13) sc_law_form_right.nd rfl (by first | exact Or.inl rfl | exact Or.inr rfl) (by decide))) (fun _ _ _ _ _ => dts_nil) (fun _ _ _ _ _ => (de_call (ok_law_whole T) (hr.mono (by decide)) (by rfl) T.m_law_whole T.F_law_whole.kp T.b_law_whole .nil (fun _ _ => rpL_nil) takes0N (da_cons (dv 13) da_nil)))) da_nil)))))))) (db_one (ds_ret de_bl)) db_nil)
  (db_cons (ds_asg (vs := [2, 3, 4]) (dv 1) (dg_tup rfl (dgs_cons (dg_name (i := 2) sc_law_form_right.nd rfl (by first | exact Or.inl rfl | exact Or.inr rfl) (by decide)) (dgs_cons (dg_name (i := 3) sc_law_form_right.nd rfl (by first | exact Or.inl rfl | exact Or.inr rfl) (by decide)) (dgs_cons (dg_name (i := 4) sc_law_form_right.nd rfl (by first | exact Or.inl rfl | exact Or.inr rfl) (by decide)) dgs_nil)))))
  (db_cons (ds_if (DW.pt (dw_or (dt_cmp od_lt (dv 2) de_int (nomark _)) (dw_or1 (dt_cmp (od_ne hr.units) (de_call (ok_law_shared T) (hr.mono (by decide)) (by rfl) T.m_law_shared T.F_law_shared.kp T.b_law_shared .nil (fun _ _ => rpL_nil) takesB (da_cons (de_call (ok_law_shared T) (hr.mono (by decide)) (by rfl) T.m_law_shared T.F_law_shared.kp T.b_law_shared .nil (fun _ _ => rpL_nil) takesB (da_cons (dv 2) (da_cons (dv 3) da_nil))) (da_cons (dv 4) da_nil))) de_int (nomark _))))) (db_one (ds_ret de_bl)) db_nil)
  (db_cons (ds_asg (vs := [5, 6, 7, 8]) (de_call (ok_law_ring_table T) (hr.mono (by decide)) (by rfl) T.m_law_ring_table T.F_law_ring_table.kp T.b_law_ring_table .nil (fun _ _ => rpL_nil) takesB (da_cons (dv 0) da_nil)) (dg_tup rfl (dgs_cons (dg_name (i := 5) sc_law_form_right.nd rfl (by first | exact Or.inl rfl | exact Or.inr rfl) (by decide)) (dgs_cons (dg_name (i := 6) sc_law_form_right.nd rfl (by first | exact Or.inl rfl | exact Or.inr rfl) (by decide)) (dgs_cons (dg_name (i := 7) sc_law_form_right.nd rfl (by first | exact Or.inl rfl | exact Or.inr rfl) (by decide)) (dgs_cons (dg_name (i := 8) sc_law_form_right.nd rfl (by first | exact Or.inl rfl | exact Or.inr rfl) (by decide)) dgs_nil))))))
  (db_cons (ds_par 9 10 rfl sc_law_form_right.nd rfl rfl (by decide) rfl rfl (da_cons (de_op od_sub (dv 5) (dv 8)) (da_cons (de_op od_mulA de_int (dv 7)) da_nil)) (by rfl))
  (db_cons (ds_set 11 sc_law_form_right.nd rfl (by first | exact .inl rfl | exact .inr rfl) (de_op od_add (de_op od_mulA (dv 9) (dv 9)) (de_op od_mulA (de_op od_mulA de_int (dv 6)) (dv 7))))
  (db_cons (ds_set 12 sc_law_form_right.nd rfl (by first | exact .inl rfl | exact .inr rfl) (de_op od_add (de_op od_mulA (dv 2) (de_op od_add (de_op od_mulA (dv 9) (dv 9)) (dv 11))) (de_op od_mulA (de_op od_mulA (dv 3) (dv 9)) (dv 10))))
  (db_one (ds_ret (de_and (de_cmp (od_eq hr.units) (de_op od_add (de_op od_mulA (de_op od_mulA de_int (dv 2)) (dv 9)) (de_op od_mulA (dv 3) (dv 10))) de_int (nomark _)) (de_one (de_cmp (od_eq hr.units) (de_op od_add (dv 12) (de_op od_mulA (de_op od_mulA (dv 4) (dv 10)) (dv 10))) de_int (nomark _))))))))))))))
theorem ok_law_no_ring (T : Txt w K mg base) : FnG P w K mg base (L2N.CX P w) 2 T.f_law_no_ring T.fd_law_no_ring ["_law_urn_here", "_law_ring_here"] (upF K (sp_law_no_ring)) := by
  refine okD (k := 1) (t := fun Ed => t_law_no_ring Ed) T.F_law_no_ring sc_law_no_ring (len_law_no_ring) (fun cdv A outer s H E Ed hr => ?_) (pure_law_no_ring)
  exact (db_cons (ds_set 2 sc_law_no_ring.nd rfl (by first | exact .inl rfl | exact .inr rfl) (de_call (ok_law_draw T) (hr.mono (by decide)) (by rfl) T.m_law_draw T.F_law_draw.kp T.b_law_draw .nil (fun _ _ => rpL_nil) takesB (da_cons (dv 0) (da_cons (de_callB cd_len (by rfl) T.n_len (by decide +kernel) (da_cons (dv 1) da_nil)) da_nil))))
  (db_cons (ds_set 3 sc_law_no_ring.nd rfl (by first | exact .inl rfl | exact .inr rfl) (de_ix (de_lst (da_cons de_non (da_cons de_bl (da_cons de_bl (da_cons de_int (da_cons (de_neg de_int) (da_cons de_int (da_cons de_str (da_cons (de_tup (da_cons de_int da_nil)) (da_cons (de_tup da_nil) (da_cons (de_lst da_nil) da_nil))))))))))) (de_call (ok_law_draw T) (hr.mono (by decide)) (by rfl) T.m_law_draw T.F_law_draw.kp T.b_law_draw .nil (fun _ _ => rpL_nil) takesB (da_cons (dv 0) (da_cons de_int da_nil))) (fun _ _ => rfl)))
  (db_cons (ds_set 4 sc_law_no_ring.nd rfl (by first | exact .inl rfl | exact .inr rfl) (de_lst (da_cons (de_op od_add (de_op od_add (de_slice (dv 1) do_none (do_some (dv 2))) (de_tup (da_cons (dv 3) da_nil))) (de_slice (dv 1) (do_some (de_op od_add (dv 2) de_int)) do_none)) (da_cons (de_callTy (cd_listA rfl) (by rfl) T.n_list (by decide +kernel) (da_cons (dv 1) da_nil)) (da_cons (de_tup da_nil) (da_cons (de_slice (de_op od_mulA (dv 1) de_int) do_none (do_some (de_op od_add de_int (dv 2)))) (da_cons de_non (da_cons de_str (da_cons (de_tup (da_cons (dv 1) da_nil)) (da_cons de_int da_nil))))))))))
  (db_one (ds_ret (de_ix (dv 4) (de_call (ok_law_draw T) (hr.mono (by decide)) (by rfl) T.m_law_draw T.F_law_draw.kp T.b_law_draw .nil (fun _ _ => rpL_nil) takesB (da_cons (dv 0) (da_cons de_int da_nil))) (fun _ _ => rfl)))))))
theorem ok_law (T : Txt w K mg base) : FnG P w K mg base (L2N.CX P w) 9 T.f_law T.fd_law ["_law_script"] (upF K (spLawT T.tb ["law"])) := by
  refine okDc (k := 8) (t := fun Ed => t_law T.tb Ed) T.F_law sc_law (len_law T.tb) (fun cdv hcd A outer s H E Ed hr => ?_) (pure_law T.tb)
  exact (db_cons (ds_for (vs := [1]) passB rfl (di_rng1 (by rfl) T.n_range (da_cons (de_callB (cd_max2 rfl) (by rfl) T.n_max (by decide +kernel) (da_cons de_int (da_cons (de_callB (cd_min2 rfl) (by rfl) T.n_min (by decide +kernel) (da_cons de_int (da_cons (de_callB cd_len (by rfl) T.n_len (by decide +kernel) (da_cons (dv 0) da_nil)) da_nil))) da_nil))) da_nil)) (dg_name (i := 1) sc_law.nd rfl (by first | exact Or.inl rfl | exact Or.inr rfl) (by decide))
  (db_cons (ds_set 2 sc_law.nd rfl (by first | exact .inl rfl | exact .inr rfl) (de_call (ok_law_urn T) (hr.mono (by decide)) (by rfl) T.m_law_urn T.F_law_urn.kp T.b_law_urn .nil (fun _ _ => rpL_nil) takesB (da_cons (dv 0) (da_cons (dv 1) da_nil))))
  (db_cons (ds_par 3 4 rfl sc_law.nd rfl rfl (by decide) rfl rfl (da_cons (de_call (ok_law_ahead T) (hr.mono (by decide)) (by rfl) T.m_law_ahead T.F_law_ahead.kp T.b_law_ahead .nil (fun _ _ => rpL_nil) takesB (da_cons (dv 2) (da_cons de_int da_nil))) (da_cons (de_call (ok_law_ring T) (hr.mono (by decide)) (by rfl) T.m_law_ring T.F_law_ring.kp T.b_law_ring .nil (fun _ _ => rpL_nil) takesB (da_cons (dv 2) (da_cons de_int da_nil))) da_nil)) (by rfl))
  (db_cons (ds_set 5 sc_law.nd rfl (by first | exact .inl rfl | exact .inr rfl) (de_make T.cl_Stair (ok_Stair___init__ T) (hr.mono (by decide)) (by rfl) T.gc_Stair T.b_Stair___init__ .nil (fun _ _ => rpL_nil) takesB (da_cons (dv 3) (da_cons (dv 4) da_nil))))
  (db_cons (ds_if (dt_not (dt_val (de_call (ok_law_fractions_right T) (hr.mono (by decide)) (by rfl) T.m_law_fractions_right T.F_law_fractions_right.kp T.b_law_fractions_right .nil (fun _ _ => rpL_nil) takesB (da_cons (dv 2) (da_cons (dv 5) (da_cons (dv 3) (da_cons (dv 4) da_nil))))))) (db_one (ds_ret de_bl)) db_nil)
  (db_cons (ds_set 6 sc_law.nd rfl (by first | exact .inl rfl | exact .inr rfl) (de_op od_mulA (dv 4) (de_op od_add de_int (de_call (ok_law_draw T) (hr.mono (by decide)) (by rfl) T.m_law_draw T.F_law_draw.kp T.b_law_draw .nil (fun _ _ => rpL_nil) takesB (da_cons (dv 2) (da_cons (de_op od_fdiv de_int (de_callB cd_len (by rfl) T.n_len (by decide +kernel) (da_cons (dv 4) da_nil))) da_nil))))))
  (db_one (ds_for (vs := [7]) passB rfl (di_rng1 (by rfl) T.n_range (da_cons de_int da_nil)) (dg_name (i := 7) sc_law.nd rfl (by first | exact Or.inl rfl | exact Or.inr rfl) (by decide))
  (db_cons (ds_if (DW.pt (dw_or (dt_not (dt_val (de_call (ok_law_form_right T) (hr.mono (by decide)) (by rfl) T.m_law_form_right T.F_law_form_right.kp T.b_law_form_right .nil (fun _ _ => rpL_nil) takesB (da_cons (dv 4) da_nil)))) (dw_or (dt_not (dt_val (de_call (ok_law_form_right T) (hr.mono (by decide)) (by rfl) T.m_law_form_right T.F_law_form_right.kp T.b_law_form_right .nil (fun _ _ => rpL_nil) takesB (da_cons (dv 6) da_nil)))) (dw_or1 (dt_cmp (od_ne hr.units) (de_call (ok_ring_form T) (hr.mono (by decide)) (by rfl) T.m_ring_form T.F_ring_form.kp T.b_ring_form .nil (fun _ _ => rpL_nil) takesB (da_cons (dv 6) da_nil)) (de_call (ok_ring_form T) (hr.mono (by decide)) (by rfl) T.m_ring_form T.F_ring_form.kp T.b_ring_form .nil (fun _ _ => rpL_nil) takesB (da_cons (dv 4) da_nil)) (nomark _)))))) (db_one (ds_ret de_bl)) db_nil)
  (db_cons (ds_set 8 sc_law.nd rfl (by first | exact .inl rfl | exact .inr rfl) (de_call (ok_law_no_ring T) (hr.mono (by decide)) (by rfl) T.m_law_no_ring T.F_law_no_ring.kp T.b_law_no_ring .nil (fun _ _ => rpL_nil) takesB (da_cons (dv 2) (da_cons (dv 4) da_nil))))
  (db_one (ds_if (dt_cmp (od_ne hr.units) (de_ref (k := 6) T.wf T.F_law_refused T.b_law_refused sc_law_refused (by rfl) T.m_law_refused rfl (by first | exact .inl rfl | exact .inr (.inl rfl)) (fun cdv => gives_law_refused T) (by first | rfl | decide +kernel) T.tbb_law (hcd.trans T.hc_law) (hr.mono (by decide)) (LamX.lamS_by (sc := defScope s_law) (by decide +kernel)) rfl (fun _ _ _ _ _ => rfl) (fun A outer s H E Ed f c hr => (de_call (ok_ring_form T) (hr.mono (by decide)) (by rfl) T.m_ring_form T.F_ring_form.kp T.b_ring_form .nil (fun _ _ => rpL_nil) takesL (da_cons (dv 8) da_nil)))) de_str (nomark _)) (db_one (ds_ret de_bl)) db_nil))))))))))))
  (db_one (ds_ret de_bl)))
end
theorem all_mk {w : World} {K : PySem.W.Frag} {h : Heap} {mg : Str → Option Value} {fa : Addr} (X : K.In h) (G : h.Ns mainGlobals mg) (hfa : mg "law" = some (.ref fa))
    {f0 f1 f2 f3 f4 f5 f6 f7 f8 f9 f10 f11 f12 f13 f14 f15 f16 f17 f18 f19 f20 f21 f22 f23 f24 f25 f26 f27 f28 f29 f30 f31 f32 f33 : Addr} {od0 an0 od1 an1 od2 an2 od3 an3 od4 an4 od5 an5 od6 an6 od7 an7 od8 an8 od9 an9 od10 an10 od11 an11 od12 an12 od13 an13 od14 an14 od15 an15 od16 an16 od17 an17 od18 an18 od19 an19 od20 an20 od21 an21 od22 an22 od23 an23 od24 an24 od25 an25 od26 an26 od27 an27 od28 an28 od29 an29 od30 an30 od31 an31 od32 an32 od33 an33 : Option Addr} {sl0 sl1 sl2 sl3 sl4 sl5 sl6 sl7 sl8 sl9 sl10 sl11 sl12 sl13 sl14 sl15 sl16 sl17 sl18 sl19 sl20 sl21 sl22 sl23 sl24 sl25 sl26 sl27 sl28 sl29 sl30 sl31 sl32 sl33 : Array (Option Value)}
    {oc0 kV0 dc0 pm0 cd0 ct0 oc1 kV1 dc1 pm1 cd1 ct1 oc2 kV2 dc2 pm2 cd2 ct2 oc3 kV3 dc3 pm3 cd3 ct3 oc4 kV4 dc4 pm4 cd4 ct4 oc5 kV5 dc5 pm5 cd5 ct5 oc6 kV6 dc6 pm6 cd6 ct6 oc7 kV7 dc7 pm7 cd7 ct7 oc8 kV8 dc8 pm8 cd8 ct8 oc9 kV9 dc9 pm9 cd9 ct9 oc10 kV10 dc10 pm10 cd10 ct10 oc11 kV11 dc11 pm11 cd11 ct11 oc12 kV12 dc12 pm12 cd12 ct12 oc13 kV13 dc13 pm13 cd13 ct13 oc14 kV14 dc14 pm14 cd14 ct14 oc15 kV15 dc15 pm15 cd15 ct15 oc16 kV16 dc16 pm16 cd16 ct16 oc17 kV17 dc17 pm17 cd17 ct17 oc18 kV18 dc18 pm18 cd18 ct18 oc19 kV19 dc19 pm19 cd19 ct19 oc20 kV20 dc20 pm20 cd20 ct20 oc21 kV21 dc21 pm21 cd21 ct21 oc22 kV22 dc22 pm22 cd22 ct22 oc23 kV23 dc23 pm23 cd23 ct23 oc24 kV24 dc24 pm24 cd24 ct24 oc25 kV25 dc25 pm25 cd25 ct25 oc26 kV26 dc26 pm26 cd26 ct26 oc27 kV27 dc27 pm27 cd27 ct27 oc28 kV28 dc28 pm28 cd28 ct28 oc29 kV29 dc29 pm29 ct29 oc30 kV30 dc30 pm30 cd30 ct30 oc31 kV31 dc31 pm31 cd31 ct31 oc32 kV32 dc32 pm32 cd32 ct32 oc33 kV33 dc33 pm33 cd33 ct33 : Value}
    {tk_MOST_AHEAD : Tok}
    {tk_MOST_NUMBER : Tok}
    {tk_MOST_RING : Tok}
    {C_Stair : Addr}
    {C_NoPlace fI_NoPlace : Addr} {xod_NoPlace xan_NoPlace : Option Addr} {xsl_NoPlace : Array (Option Value)} {xoc_NoPlace xkV_NoPlace xdc_NoPlace xpm_NoPlace xcd_NoPlace xct_NoPlace : Value}
    {cc_law pp_law : Addr} {coc_law : Value} {cod_law : Option Addr} {cvs_law : Array Value} {csl_law : Array (Option Value)}
    (vg_Stair : PySem.W.nsIn K mainGlobals "Stair" = some (some (.ref C_Stair)))
    (a0 : PySem.W.nsIn K mainGlobals "is_whole" = some (some (.ref f0)))
    (l0 : K.lookup f0 = some ⟨oc0, od0, .func (PySem.W.fnOf "is_whole" "is_whole" (defArgs s_is_whole) (defBody s_is_whole) (defScope s_is_whole) .none kV0 dc0 pm0 an0 cd0 ct0), sl0⟩)
    (c0 : PySem.W.codeIn K cd0 "is_whole" = true)
    (k0 : PySem.W.keepIn K (.ref f0) = true)
    (a1 : PySem.W.nsIn K mainGlobals "shared_by" = some (some (.ref f1)))
    (l1 : K.lookup f1 = some ⟨oc1, od1, .func (PySem.W.fnOf "shared_by" "shared_by" (defArgs s_shared_by) (defBody s_shared_by) (defScope s_shared_by) .none kV1 dc1 pm1 an1 cd1 ct1), sl1⟩)
    (c1 : PySem.W.codeIn K cd1 "shared_by" = true)
    (k1 : PySem.W.keepIn K (.ref f1) = true)
    (a2 : PySem.W.nsIn K mainGlobals "is_within" = some (some (.ref f2)))
    (l2 : K.lookup f2 = some ⟨oc2, od2, .func (PySem.W.fnOf "is_within" "is_within" (defArgs s_is_within) (defBody s_is_within) (defScope s_is_within) .none kV2 dc2 pm2 an2 cd2 ct2), sl2⟩)
    (c2 : PySem.W.codeIn K cd2 "is_within" = true)
    (k2 : PySem.W.keepIn K (.ref f2) = true)
    (a3 : PySem.W.nsIn K mainGlobals "is_row" = some (some (.ref f3)))
    (l3 : K.lookup f3 = some ⟨oc3, od3, .func (PySem.W.fnOf "is_row" "is_row" (defArgs s_is_row) (defBody s_is_row) (defScope s_is_row) .none kV3 dc3 pm3 an3 cd3 ct3), sl3⟩)
    (c3 : PySem.W.codeIn K cd3 "is_row" = true)
    (k3 : PySem.W.keepIn K (.ref f3) = true)
    (a4 : PySem.W.nsIn K mainGlobals "is_number_ring" = some (some (.ref f4)))
    (l4 : K.lookup f4 = some ⟨oc4, od4, .func (PySem.W.fnOf "is_number_ring" "is_number_ring" (defArgs s_is_number_ring) (defBody s_is_number_ring) (defScope s_is_number_ring) .none kV4 dc4 pm4 an4 cd4 ct4), sl4⟩)
    (c4 : PySem.W.codeIn K cd4 "is_number_ring" = true)
    (k4 : PySem.W.keepIn K (.ref f4) = true)
    (a5 : PySem.W.nsIn K mainGlobals "is_ahead" = some (some (.ref f5)))
    (l5 : K.lookup f5 = some ⟨oc5, od5, .func (PySem.W.fnOf "is_ahead" "is_ahead" (defArgs s_is_ahead) (defBody s_is_ahead) (defScope s_is_ahead) .none kV5 dc5 pm5 an5 cd5 ct5), sl5⟩)
    (c5 : PySem.W.codeIn K cd5 "is_ahead" = true)
    (k5 : PySem.W.keepIn K (.ref f5) = true)
    (a6 : PySem.W.nsIn K mainGlobals "look_ring" = some (some (.ref f6)))
    (l6 : K.lookup f6 = some ⟨oc6, od6, .func (PySem.W.fnOf "look_ring" "look_ring" (defArgs s_look_ring) (defBody s_look_ring) (defScope s_look_ring) .none kV6 dc6 pm6 an6 cd6 ct6), sl6⟩)
    (c6 : PySem.W.codeIn K cd6 "look_ring" = true)
    (k6 : PySem.W.keepIn K (.ref f6) = true)
    (a7 : PySem.W.nsIn K mainGlobals "shortest_part" = some (some (.ref f7)))
    (l7 : K.lookup f7 = some ⟨oc7, od7, .func (PySem.W.fnOf "shortest_part" "shortest_part" (defArgs s_shortest_part) (defBody s_shortest_part) (defScope s_shortest_part) .none kV7 dc7 pm7 an7 cd7 ct7), sl7⟩)
    (c7 : PySem.W.codeIn K cd7 "shortest_part" = true)
    (k7 : PySem.W.keepIn K (.ref f7) = true)
    (a8 : PySem.W.nsIn K mainGlobals "table_of_row" = some (some (.ref f8)))
    (l8 : K.lookup f8 = some ⟨oc8, od8, .func (PySem.W.fnOf "table_of_row" "table_of_row" (defArgs s_table_of_row) (defBody s_table_of_row) (defScope s_table_of_row) .none kV8 dc8 pm8 an8 cd8 ct8), sl8⟩)
    (c8 : PySem.W.codeIn K cd8 "table_of_row" = true)
    (k8 : PySem.W.keepIn K (.ref f8) = true)
    (a9 : PySem.W.nsIn K mainGlobals "form_of_row" = some (some (.ref f9)))
    (l9 : K.lookup f9 = some ⟨oc9, od9, .func (PySem.W.fnOf "form_of_row" "form_of_row" (defArgs s_form_of_row) (defBody s_form_of_row) (defScope s_form_of_row) .none kV9 dc9 pm9 an9 cd9 ct9), sl9⟩)
    (c9 : PySem.W.codeIn K cd9 "form_of_row" = true)
    (k9 : PySem.W.keepIn K (.ref f9) = true)
    (a10 : PySem.W.nsIn K mainGlobals "ring_form" = some (some (.ref f10)))
    (l10 : K.lookup f10 = some ⟨oc10, od10, .func (PySem.W.fnOf "ring_form" "ring_form" (defArgs s_ring_form) (defBody s_ring_form) (defScope s_ring_form) .none kV10 dc10 pm10 an10 cd10 ct10), sl10⟩)
    (c10 : PySem.W.codeIn K cd10 "ring_form" = true)
    (k10 : PySem.W.keepIn K (.ref f10) = true)
    (a11 : PySem.W.nsIn K mainGlobals "_law_urn" = some (some (.ref f11)))
    (l11 : K.lookup f11 = some ⟨oc11, od11, .func (PySem.W.fnOf "_law_urn" "_law_urn" (defArgs s_law_urn) (defBody s_law_urn) (defScope s_law_urn) .none kV11 dc11 pm11 an11 cd11 ct11), sl11⟩)
    (c11 : PySem.W.codeIn K cd11 "_law_urn" = true)
    (k11 : PySem.W.keepIn K (.ref f11) = true)
    (a12 : PySem.W.nsIn K mainGlobals "_law_draw" = some (some (.ref f12)))
    (l12 : K.lookup f12 = some ⟨oc12, od12, .func (PySem.W.fnOf "_law_draw" "_law_draw" (defArgs s_law_draw) (defBody s_law_draw) (defScope s_law_draw) .none kV12 dc12 pm12 an12 cd12 ct12), sl12⟩)
    (c12 : PySem.W.codeIn K cd12 "_law_draw" = true)
    (k12 : PySem.W.keepIn K (.ref f12) = true)
    (a13 : PySem.W.nsIn K mainGlobals "_law_whole" = some (some (.ref f13)))
    (l13 : K.lookup f13 = some ⟨oc13, od13, .func (PySem.W.fnOf "_law_whole" "_law_whole" (defArgs s_law_whole) (defBody s_law_whole) (defScope s_law_whole) .none kV13 dc13 pm13 an13 cd13 ct13), sl13⟩)
    (c13 : PySem.W.codeIn K cd13 "_law_whole" = true)
    (k13 : PySem.W.keepIn K (.ref f13) = true)
    (a14 : PySem.W.nsIn K mainGlobals "_law_shared" = some (some (.ref f14)))
    (l14 : K.lookup f14 = some ⟨oc14, od14, .func (PySem.W.fnOf "_law_shared" "_law_shared" (defArgs s_law_shared) (defBody s_law_shared) (defScope s_law_shared) .none kV14 dc14 pm14 an14 cd14 ct14), sl14⟩)
    (c14 : PySem.W.codeIn K cd14 "_law_shared" = true)
    (k14 : PySem.W.keepIn K (.ref f14) = true)
    (a15 : PySem.W.nsIn K mainGlobals "_law_low" = some (some (.ref f15)))
    (l15 : K.lookup f15 = some ⟨oc15, od15, .func (PySem.W.fnOf "_law_low" "_law_low" (defArgs s_law_low) (defBody s_law_low) (defScope s_law_low) .none kV15 dc15 pm15 an15 cd15 ct15), sl15⟩)
    (c15 : PySem.W.codeIn K cd15 "_law_low" = true)
    (k15 : PySem.W.keepIn K (.ref f15) = true)
    (a16 : PySem.W.nsIn K mainGlobals "_law_is_fraction" = some (some (.ref f16)))
    (l16 : K.lookup f16 = some ⟨oc16, od16, .func (PySem.W.fnOf "_law_is_fraction" "_law_is_fraction" (defArgs s_law_is_fraction) (defBody s_law_is_fraction) (defScope s_law_is_fraction) .none kV16 dc16 pm16 an16 cd16 ct16), sl16⟩)
    (c16 : PySem.W.codeIn K cd16 "_law_is_fraction" = true)
    (k16 : PySem.W.keepIn K (.ref f16) = true)
    (a17 : PySem.W.nsIn K mainGlobals "_law_sign" = some (some (.ref f17)))
    (l17 : K.lookup f17 = some ⟨oc17, od17, .func (PySem.W.fnOf "_law_sign" "_law_sign" (defArgs s_law_sign) (defBody s_law_sign) (defScope s_law_sign) .none kV17 dc17 pm17 an17 cd17 ct17), sl17⟩)
    (c17 : PySem.W.codeIn K cd17 "_law_sign" = true)
    (k17 : PySem.W.keepIn K (.ref f17) = true)
    (a18 : PySem.W.nsIn K mainGlobals "_law_below" = some (some (.ref f18)))
    (l18 : K.lookup f18 = some ⟨oc18, od18, .func (PySem.W.fnOf "_law_below" "_law_below" (defArgs s_law_below) (defBody s_law_below) (defScope s_law_below) .none kV18 dc18 pm18 an18 cd18 ct18), sl18⟩)
    (c18 : PySem.W.codeIn K cd18 "_law_below" = true)
    (k18 : PySem.W.keepIn K (.ref f18) = true)
    (a19 : PySem.W.nsIn K mainGlobals "_law_which" = some (some (.ref f19)))
    (l19 : K.lookup f19 = some ⟨oc19, od19, .func (PySem.W.fnOf "_law_which" "_law_which" (defArgs s_law_which) (defBody s_law_which) (defScope s_law_which) .none kV19 dc19 pm19 an19 cd19 ct19), sl19⟩)
    (c19 : PySem.W.codeIn K cd19 "_law_which" = true)
    (k19 : PySem.W.keepIn K (.ref f19) = true)
    (a20 : PySem.W.nsIn K mainGlobals "_law_refused" = some (some (.ref f20)))
    (l20 : K.lookup f20 = some ⟨oc20, od20, .func (PySem.W.fnOf "_law_refused" "_law_refused" (defArgs s_law_refused) (defBody s_law_refused) (defScope s_law_refused) .none kV20 dc20 pm20 an20 cd20 ct20), sl20⟩)
    (c20 : PySem.W.codeIn K cd20 "_law_refused" = true)
    (k20 : PySem.W.keepIn K (.ref f20) = true)
    (a21 : PySem.W.nsIn K mainGlobals "_law_ring" = some (some (.ref f21)))
    (l21 : K.lookup f21 = some ⟨oc21, od21, .func (PySem.W.fnOf "_law_ring" "_law_ring" (defArgs s_law_ring) (defBody s_law_ring) (defScope s_law_ring) .none kV21 dc21 pm21 an21 cd21 ct21), sl21⟩)
    (c21 : PySem.W.codeIn K cd21 "_law_ring" = true)
    (k21 : PySem.W.keepIn K (.ref f21) = true)
    (a22 : PySem.W.nsIn K mainGlobals "_law_ring_table" = some (some (.ref f22)))
    (l22 : K.lookup f22 = some ⟨oc22, od22, .func (PySem.W.fnOf "_law_ring_table" "_law_ring_table" (defArgs s_law_ring_table) (defBody s_law_ring_table) (defScope s_law_ring_table) .none kV22 dc22 pm22 an22 cd22 ct22), sl22⟩)
    (c22 : PySem.W.codeIn K cd22 "_law_ring_table" = true)
    (k22 : PySem.W.keepIn K (.ref f22) = true)
    (a23 : PySem.W.nsIn K mainGlobals "_law_ahead" = some (some (.ref f23)))
    (l23 : K.lookup f23 = some ⟨oc23, od23, .func (PySem.W.fnOf "_law_ahead" "_law_ahead" (defArgs s_law_ahead) (defBody s_law_ahead) (defScope s_law_ahead) .none kV23 dc23 pm23 an23 cd23 ct23), sl23⟩)
    (c23 : PySem.W.codeIn K cd23 "_law_ahead" = true)
    (k23 : PySem.W.keepIn K (.ref f23) = true)
    (a24 : PySem.W.nsIn K mainGlobals "_law_number" = some (some (.ref f24)))
    (l24 : K.lookup f24 = some ⟨oc24, od24, .func (PySem.W.fnOf "_law_number" "_law_number" (defArgs s_law_number) (defBody s_law_number) (defScope s_law_number) .none kV24 dc24 pm24 an24 cd24 ct24), sl24⟩)
    (c24 : PySem.W.codeIn K cd24 "_law_number" = true)
    (k24 : PySem.W.keepIn K (.ref f24) = true)
    (a25 : PySem.W.nsIn K mainGlobals "_law_fraction" = some (some (.ref f25)))
    (l25 : K.lookup f25 = some ⟨oc25, od25, .func (PySem.W.fnOf "_law_fraction" "_law_fraction" (defArgs s_law_fraction) (defBody s_law_fraction) (defScope s_law_fraction) .none kV25 dc25 pm25 an25 cd25 ct25), sl25⟩)
    (c25 : PySem.W.codeIn K cd25 "_law_fraction" = true)
    (k25 : PySem.W.keepIn K (.ref f25) = true)
    (a26 : PySem.W.nsIn K mainGlobals "_law_fractions_right" = some (some (.ref f26)))
    (l26 : K.lookup f26 = some ⟨oc26, od26, .func (PySem.W.fnOf "_law_fractions_right" "_law_fractions_right" (defArgs s_law_fractions_right) (defBody s_law_fractions_right) (defScope s_law_fractions_right) .none kV26 dc26 pm26 an26 cd26 ct26), sl26⟩)
    (c26 : PySem.W.codeIn K cd26 "_law_fractions_right" = true)
    (k26 : PySem.W.keepIn K (.ref f26) = true)
    (a27 : PySem.W.nsIn K mainGlobals "_law_form_right" = some (some (.ref f27)))
    (l27 : K.lookup f27 = some ⟨oc27, od27, .func (PySem.W.fnOf "_law_form_right" "_law_form_right" (defArgs s_law_form_right) (defBody s_law_form_right) (defScope s_law_form_right) .none kV27 dc27 pm27 an27 cd27 ct27), sl27⟩)
    (c27 : PySem.W.codeIn K cd27 "_law_form_right" = true)
    (k27 : PySem.W.keepIn K (.ref f27) = true)
    (a28 : PySem.W.nsIn K mainGlobals "_law_no_ring" = some (some (.ref f28)))
    (l28 : K.lookup f28 = some ⟨oc28, od28, .func (PySem.W.fnOf "_law_no_ring" "_law_no_ring" (defArgs s_law_no_ring) (defBody s_law_no_ring) (defScope s_law_no_ring) .none kV28 dc28 pm28 an28 cd28 ct28), sl28⟩)
    (c28 : PySem.W.codeIn K cd28 "_law_no_ring" = true)
    (k28 : PySem.W.keepIn K (.ref f28) = true)
    (a29 : PySem.W.nsIn K mainGlobals "law" = some (some (.ref f29)))
    (l29 : K.lookup f29 = some ⟨oc29, od29, .func (PySem.W.fnOf "law" "law" (defArgs s_law) (defBody s_law) (defScope s_law) .none kV29 dc29 pm29 an29 (.ref cc_law) ct29), sl29⟩)
    (c29 : PySem.W.codeIn K (.ref cc_law) "law" = true)
    (k29 : PySem.W.keepIn K (.ref f29) = true)
    (a30 : PySem.W.findIn K (.ref C_Stair) "keep_rows" = some (some (.ref f30)))
    (l30 : K.lookup f30 = some ⟨oc30, od30, .func (PySem.W.fnOf "keep_rows" "Stair.keep_rows" (defArgs s_Stair_keep_rows) (defBody s_Stair_keep_rows) (defScope s_Stair_keep_rows) .none kV30 dc30 pm30 an30 cd30 ct30), sl30⟩)
    (c30 : PySem.W.codeIn K cd30 "Stair.keep_rows" = true)
    (k30 : PySem.W.keepIn K (.ref f30) = true)
    (vm30 : methB K C_Stair "keep_rows" f30 = true)
    (a31 : PySem.W.findIn K (.ref C_Stair) "__init__" = some (some (.ref f31)))
    (l31 : K.lookup f31 = some ⟨oc31, od31, .func (PySem.W.fnOf "__init__" "Stair.__init__" (defArgs s_Stair___init__) (defBody s_Stair___init__) (defScope s_Stair___init__) .none kV31 dc31 pm31 an31 cd31 ct31), sl31⟩)
    (c31 : PySem.W.codeIn K cd31 "Stair.__init__" = true)
    (k31 : PySem.W.keepIn K (.ref f31) = true)
    (vc_Stair : clB K "Stair" C_Stair f31 = true)
    (vn_Stair : noAttrB K C_Stair ["held_ahead", "held_ring"] = true)
    (a32 : PySem.W.findIn K (.ref C_Stair) "at" = some (some (.ref f32)))
    (l32 : K.lookup f32 = some ⟨oc32, od32, .func (PySem.W.fnOf "at" "Stair.at" (defArgs s_Stair_at) (defBody s_Stair_at) (defScope s_Stair_at) .none kV32 dc32 pm32 an32 cd32 ct32), sl32⟩)
    (c32 : PySem.W.codeIn K cd32 "Stair.at" = true)
    (k32 : PySem.W.keepIn K (.ref f32) = true)
    (vm32 : methB K C_Stair "at" f32 = true)
    (a33 : PySem.W.findIn K (.ref C_Stair) "fraction" = some (some (.ref f33)))
    (l33 : K.lookup f33 = some ⟨oc33, od33, .func (PySem.W.fnOf "fraction" "Stair.fraction" (defArgs s_Stair_fraction) (defBody s_Stair_fraction) (defScope s_Stair_fraction) .none kV33 dc33 pm33 an33 cd33 ct33), sl33⟩)
    (c33 : PySem.W.codeIn K cd33 "Stair.fraction" = true)
    (k33 : PySem.W.keepIn K (.ref f33) = true)
    (vm33 : methB K C_Stair "fraction" f33 = true)
    (q_law : K.lookup cc_law = some ⟨coc_law, cod_law, .fields cvs_law, csl_law⟩)
    (r_law : (cvs_law[11]? : Option Value) = some (.ref pp_law))
    (g_law : PySem.W.codeHdIn K cc_law pp_law = true)
    (n_law : K.lookup pp_law = none)
    (t_law : h.get? pp_law = some { cls := .none, data := .fields #[] })
    (gl : glB K = true)
    (wh : whB K rsX = true)
    (xg_NoPlace : PySem.W.nsIn K mainGlobals "NoPlace" = some (some (.ref C_NoPlace)))
    (xi_NoPlace : PySem.W.findIn K (.ref C_NoPlace) "__init__" = some (some (.ref fI_NoPlace)))
    (xl_NoPlace : K.lookup fI_NoPlace = some ⟨xoc_NoPlace, xod_NoPlace, .func (PySem.W.fnOf "__init__" "NoPlace.__init__" (defArgs sI_NoPlace) (defBody sI_NoPlace) (defScope sI_NoPlace) .none xkV_NoPlace xdc_NoPlace xpm_NoPlace xan_NoPlace xcd_NoPlace xct_NoPlace), xsl_NoPlace⟩)
    (xc_NoPlace : PySem.W.codeIn K xcd_NoPlace "NoPlace.__init__" = true)
    (xk_NoPlace : PySem.W.keepIn K (.ref fI_NoPlace) = true)
    (xf_NoPlace : fxB K "NoPlace" [.type "IndexError", .type "LookupError", .type "Exception", .type "BaseException", .type "object"] "IndexError.__new__" C_NoPlace fI_NoPlace ["place", "many"] = true)
    (rs_NoRing : rsB K "NoRing" [.type "ValueError", .type "Exception", .type "BaseException", .type "object"] "ValueError.__new__" = true)
    (rs_NoStair : rsB K "NoStair" [.type "ValueError", .type "Exception", .type "BaseException", .type "object"] "ValueError.__new__" = true)
    (g_MOST_AHEAD : PySem.W.nsIn K mainGlobals "MOST_AHEAD" = some (some (.int 20 tk_MOST_AHEAD)))
    (g_MOST_NUMBER : PySem.W.nsIn K mainGlobals "MOST_NUMBER" = some (some (.int 999999 tk_MOST_NUMBER)))
    (g_MOST_RING : PySem.W.nsIn K mainGlobals "MOST_RING" = some (some (.int 40 tk_MOST_RING)))
    (z_ArithmeticError : PySem.W.nsIn K mainGlobals "ArithmeticError" = some none)
    (z_IndexError : PySem.W.nsIn K mainGlobals "IndexError" = some none)
    (z_KeyError : PySem.W.nsIn K mainGlobals "KeyError" = some none)
    (z_LookupError : PySem.W.nsIn K mainGlobals "LookupError" = some none)
    (z_OverflowError : PySem.W.nsIn K mainGlobals "OverflowError" = some none)
    (z_RuntimeError : PySem.W.nsIn K mainGlobals "RuntimeError" = some none)
    (z_TypeError : PySem.W.nsIn K mainGlobals "TypeError" = some none)
    (z_ValueError : PySem.W.nsIn K mainGlobals "ValueError" = some none)
    (z_ZeroDivisionError : PySem.W.nsIn K mainGlobals "ZeroDivisionError" = some none)
    (z_abs : PySem.W.nsIn K mainGlobals "abs" = some none)
    (z_all : PySem.W.nsIn K mainGlobals "all" = some none)
    (z_bool : PySem.W.nsIn K mainGlobals "bool" = some none)
    (z_int : PySem.W.nsIn K mainGlobals "int" = some none)
    (z_isinstance : PySem.W.nsIn K mainGlobals "isinstance" = some none)
    (z_len : PySem.W.nsIn K mainGlobals "len" = some none)
    (z_list : PySem.W.nsIn K mainGlobals "list" = some none)
    (z_max : PySem.W.nsIn K mainGlobals "max" = some none)
    (z_min : PySem.W.nsIn K mainGlobals "min" = some none)
    (z_range : PySem.W.nsIn K mainGlobals "range" = some none)
    (z_tuple : PySem.W.nsIn K mainGlobals "tuple" = some none)
    : LawG PySem.Challenge.rw_nearthrees_k11_fractions_and_forms_of_ro w K (L2N.CX PySem.Challenge.rw_nearthrees_k11_fractions_and_forms_of_ro.prog w) 9 63 "_law_script" mg fa h := by
  have e := hfa.symm.trans (PySem.W.mg_of X G a29)
  cases e
  have F0 := fun_mk (st := s_is_whole) l0 c0 k0
  have b0 := F0.binds (ps := ["thing"]) fun _ _ _ _ _ _ us hl => match us, hl with | [_], _ => rfl
  have F1 := fun_mk (st := s_shared_by) l1 c1 k1
  have b1 := F1.binds (ps := ["one", "other"]) fun _ _ _ _ _ _ us hl => match us, hl with | [_, _], _ => rfl
  have F2 := fun_mk (st := s_is_within) l2 c2 k2
  have b2 := F2.binds (ps := ["thing", "least", "most"]) fun _ _ _ _ _ _ us hl => match us, hl with | [_, _, _], _ => rfl
  have F3 := fun_mk (st := s_is_row) l3 c3 k3
  have b3 := F3.binds (ps := ["thing", "least", "most"]) fun _ _ _ _ _ _ us hl => match us, hl with | [_, _, _], _ => rfl
  have F4 := fun_mk (st := s_is_number_ring) l4 c4 k4
  have b4 := F4.binds (ps := ["thing"]) fun _ _ _ _ _ _ us hl => match us, hl with | [_], _ => rfl
  have F5 := fun_mk (st := s_is_ahead) l5 c5 k5
  have b5 := F5.binds (ps := ["thing"]) fun _ _ _ _ _ _ us hl => match us, hl with | [_], _ => rfl
  have F6 := fun_mk (st := s_look_ring) l6 c6 k6
  have b6 := F6.binds (ps := ["ring"]) fun _ _ _ _ _ _ us hl => match us, hl with | [_], _ => rfl
  have F7 := fun_mk (st := s_shortest_part) l7 c7 k7
  have b7 := F7.binds (ps := ["parts"]) fun _ _ _ _ _ _ us hl => match us, hl with | [_], _ => rfl
  have F8 := fun_mk (st := s_table_of_row) l8 c8 k8
  have b8 := F8.binds (ps := ["row"]) fun _ _ _ _ _ _ us hl => match us, hl with | [_], _ => rfl
  have F9 := fun_mk (st := s_form_of_row) l9 c9 k9
  have b9 := F9.binds (ps := ["row"]) fun _ _ _ _ _ _ us hl => match us, hl with | [_], _ => rfl
  have F10 := fun_mk (st := s_ring_form) l10 c10 k10
  have b10 := F10.binds (ps := ["ring"]) fun _ _ _ _ _ _ us hl => match us, hl with | [_], _ => rfl
  have F11 := fun_mk (st := s_law_urn) l11 c11 k11
  have b11 := F11.binds (ps := ["_law_script", "_law_at"]) fun _ _ _ _ _ _ us hl => match us, hl with | [_, _], _ => rfl
  have F12 := fun_mk (st := s_law_draw) l12 c12 k12
  have b12 := F12.binds (ps := ["_law_urn_here", "_law_wide"]) fun _ _ _ _ _ _ us hl => match us, hl with | [_, _], _ => rfl
  have F13 := fun_mk (st := s_law_whole) l13 c13 k13
  have b13 := F13.binds (ps := ["_law_thing"]) fun _ _ _ _ _ _ us hl => match us, hl with | [_], _ => rfl
  have F14 := fun_mk (st := s_law_shared) l14 c14 k14
  have b14 := F14.binds (ps := ["_law_one", "_law_other"]) fun _ _ _ _ _ _ us hl => match us, hl with | [_, _], _ => rfl
  have F15 := fun_mk (st := s_law_low) l15 c15 k15
  have b15 := F15.binds (ps := ["_law_upper", "_law_lower"]) fun _ _ _ _ _ _ us hl => match us, hl with | [_, _], _ => rfl
  have F16 := fun_mk (st := s_law_is_fraction) l16 c16 k16
  have b16 := F16.binds (ps := ["_law_thing"]) fun _ _ _ _ _ _ us hl => match us, hl with | [_], _ => rfl
  have F17 := fun_mk (st := s_law_sign) l17 c17 k17
  have b17 := F17.binds (ps := ["_law_parts"]) fun _ _ _ _ _ _ us hl => match us, hl with | [_], _ => rfl
  have F18 := fun_mk (st := s_law_below) l18 c18 k18
  have b18 := F18.binds (ps := ["_law_one", "_law_other"]) fun _ _ _ _ _ _ us hl => match us, hl with | [_, _], _ => rfl
  have F19 := fun_mk (st := s_law_which) l19 c19 k19
  have b19 := F19.binds (ps := ["_law_e"]) fun _ _ _ _ _ _ us hl => match us, hl with | [_], _ => rfl
  have F20 := fun_mk (st := s_law_refused) l20 c20 k20
  have b20 := F20.binds (ps := ["_law_deed"]) fun _ _ _ _ _ _ us hl => match us, hl with | [_], _ => rfl
  have F21 := fun_mk (st := s_law_ring) l21 c21 k21
  have b21 := F21.binds (ps := ["_law_urn_here", "_law_most"]) fun _ _ _ _ _ _ us hl => match us, hl with | [_, _], _ => rfl
  have F22 := fun_mk (st := s_law_ring_table) l22 c22 k22
  have b22 := F22.binds (ps := ["_law_row"]) fun _ _ _ _ _ _ us hl => match us, hl with | [_], _ => rfl
  have F23 := fun_mk (st := s_law_ahead) l23 c23 k23
  have b23 := F23.binds (ps := ["_law_urn_here", "_law_most"]) fun _ _ _ _ _ _ us hl => match us, hl with | [_, _], _ => rfl
  have F24 := fun_mk (st := s_law_number) l24 c24 k24
  have b24 := F24.binds (ps := ["_law_ahead_here", "_law_ring_here"]) fun _ _ _ _ _ _ us hl => match us, hl with | [_, _], _ => rfl
  have F25 := fun_mk (st := s_law_fraction) l25 c25 k25
  have b25 := F25.binds (ps := ["_law_row"]) fun _ _ _ _ _ _ us hl => match us, hl with | [_], _ => rfl
  have F26 := fun_mk (st := s_law_fractions_right) l26 c26 k26
  have b26 := F26.binds (ps := ["_law_urn_here", "_law_stair", "_law_ahead_here", "_law_ring_here"]) fun _ _ _ _ _ _ us hl => match us, hl with | [_, _, _, _], _ => rfl
  have F27 := fun_mk (st := s_law_form_right) l27 c27 k27
  have b27 := F27.binds (ps := ["_law_ring_here"]) fun _ _ _ _ _ _ us hl => match us, hl with | [_], _ => rfl
  have F28 := fun_mk (st := s_law_no_ring) l28 c28 k28
  have b28 := F28.binds (ps := ["_law_urn_here", "_law_ring_here"]) fun _ _ _ _ _ _ us hl => match us, hl with | [_, _], _ => rfl
  have F29 := fun_mk (st := s_law) l29 c29 k29
  have b29 := F29.binds (ps := ["_law_script"]) fun _ _ _ _ _ _ us hl => match us, hl with | [_], _ => rfl
  have F30 := fun_mk (st := s_Stair_keep_rows) l30 c30 k30
  have b30 := F30.binds (ps := ["self", "ahead", "ring"]) fun _ _ _ _ _ _ us hl => match us, hl with | [_, _, _], _ => rfl
  have F31 := fun_mk (st := s_Stair___init__) l31 c31 k31
  have b31 := F31.binds (ps := ["self", "ahead", "ring"]) fun _ _ _ _ _ _ us hl => match us, hl with | [_, _, _], _ => rfl
  have F32 := fun_mk (st := s_Stair_at) l32 c32 k32
  have b32 := F32.binds (ps := ["self", "place"]) fun _ _ _ _ _ _ us hl => match us, hl with | [_, _], _ => rfl
  have F33 := fun_mk (st := s_Stair_fraction) l33 c33 k33
  have b33 := F33.binds (ps := ["self", "many"]) fun _ _ _ _ _ _ us hl => match us, hl with | [_, _], _ => rfl
  have ks_Stair_fraction_1_many : Hx.KSel K (PySem.W.fnOf "fraction" "Stair.fraction" (defArgs s_Stair_fraction) (defBody s_Stair_fraction) (defScope s_Stair_fraction) .none kV33 dc33 pm33 an33 cd33 ct33) ["self", "many"] 1 ["many"] [0, 1] [] := ⟨[], .nil, fun s us ws X l1 l2 => match us, ws, l1, l2 with | [_], [_], _, _ => .of_eq rfl⟩
  obtain ⟨C_NoRing, R_NoRing⟩ := rsB_ok rs_NoRing
  obtain ⟨C_NoStair, R_NoStair⟩ := rsB_ok rs_NoStair
  have FI_NoPlace := fun_mk (st := sI_NoPlace) xl_NoPlace xc_NoPlace xk_NoPlace
  have bI_NoPlace := FI_NoPlace.binds (ps := ["self", "place", "many"]) fun _ _ _ _ _ _ us hl => match us, hl with | [_, _, _], _ => rfl
  let tb : Str → Addr := (fun z => if z = "law" then pp_law else 0)
  have tb_law : tb "law" = pp_law := if_pos rfl
  let T : ∀ base : Heap, (∀ p ∈ [(cc_law, pp_law)], LamX.TabB base mg p.1 p.2) → Txt w K mg base := fun base TB => {
    C_Stair := C_Stair, gc_Stair := PySem.W.mg_of X G vg_Stair,
    f_is_whole := _, fd_is_whole := _, F_is_whole := F0, m_is_whole := PySem.W.mg_of X G a0, b_is_whole := b0,
    f_shared_by := _, fd_shared_by := _, F_shared_by := F1, m_shared_by := PySem.W.mg_of X G a1, b_shared_by := b1,
    f_is_within := _, fd_is_within := _, F_is_within := F2, m_is_within := PySem.W.mg_of X G a2, b_is_within := b2,
    f_is_row := _, fd_is_row := _, F_is_row := F3, m_is_row := PySem.W.mg_of X G a3, b_is_row := b3,
    f_is_number_ring := _, fd_is_number_ring := _, F_is_number_ring := F4, m_is_number_ring := PySem.W.mg_of X G a4, b_is_number_ring := b4,
    f_is_ahead := _, fd_is_ahead := _, F_is_ahead := F5, m_is_ahead := PySem.W.mg_of X G a5, b_is_ahead := b5,
    f_look_ring := _, fd_look_ring := _, F_look_ring := F6, m_look_ring := PySem.W.mg_of X G a6, b_look_ring := b6,
    f_shortest_part := _, fd_shortest_part := _, F_shortest_part := F7, m_shortest_part := PySem.W.mg_of X G a7, b_shortest_part := b7,
    f_table_of_row := _, fd_table_of_row := _, F_table_of_row := F8, m_table_of_row := PySem.W.mg_of X G a8, b_table_of_row := b8,
    f_form_of_row := _, fd_form_of_row := _, F_form_of_row := F9, m_form_of_row := PySem.W.mg_of X G a9, b_form_of_row := b9,
    f_ring_form := _, fd_ring_form := _, F_ring_form := F10, m_ring_form := PySem.W.mg_of X G a10, b_ring_form := b10,
    f_law_urn := _, fd_law_urn := _, F_law_urn := F11, m_law_urn := PySem.W.mg_of X G a11, b_law_urn := b11,
    f_law_draw := _, fd_law_draw := _, F_law_draw := F12, m_law_draw := PySem.W.mg_of X G a12, b_law_draw := b12,
    f_law_whole := _, fd_law_whole := _, F_law_whole := F13, m_law_whole := PySem.W.mg_of X G a13, b_law_whole := b13,
    f_law_shared := _, fd_law_shared := _, F_law_shared := F14, m_law_shared := PySem.W.mg_of X G a14, b_law_shared := b14,
    f_law_low := _, fd_law_low := _, F_law_low := F15, m_law_low := PySem.W.mg_of X G a15, b_law_low := b15,
    f_law_is_fraction := _, fd_law_is_fraction := _, F_law_is_fraction := F16, m_law_is_fraction := PySem.W.mg_of X G a16, b_law_is_fraction := b16,
    f_law_sign := _, fd_law_sign := _, F_law_sign := F17, m_law_sign := PySem.W.mg_of X G a17, b_law_sign := b17,
    f_law_below := _, fd_law_below := _, F_law_below := F18, m_law_below := PySem.W.mg_of X G a18, b_law_below := b18,
    f_law_which := _, fd_law_which := _, F_law_which := F19, m_law_which := PySem.W.mg_of X G a19, b_law_which := b19,
    f_law_refused := _, fd_law_refused := _, F_law_refused := F20, m_law_refused := PySem.W.mg_of X G a20, b_law_refused := b20,
    f_law_ring := _, fd_law_ring := _, F_law_ring := F21, m_law_ring := PySem.W.mg_of X G a21, b_law_ring := b21,
    f_law_ring_table := _, fd_law_ring_table := _, F_law_ring_table := F22, m_law_ring_table := PySem.W.mg_of X G a22, b_law_ring_table := b22,
    f_law_ahead := _, fd_law_ahead := _, F_law_ahead := F23, m_law_ahead := PySem.W.mg_of X G a23, b_law_ahead := b23,
    f_law_number := _, fd_law_number := _, F_law_number := F24, m_law_number := PySem.W.mg_of X G a24, b_law_number := b24,
    f_law_fraction := _, fd_law_fraction := _, F_law_fraction := F25, m_law_fraction := PySem.W.mg_of X G a25, b_law_fraction := b25,
    f_law_fractions_right := _, fd_law_fractions_right := _, F_law_fractions_right := F26, m_law_fractions_right := PySem.W.mg_of X G a26, b_law_fractions_right := b26,
    f_law_form_right := _, fd_law_form_right := _, F_law_form_right := F27, m_law_form_right := PySem.W.mg_of X G a27, b_law_form_right := b27,
    f_law_no_ring := _, fd_law_no_ring := _, F_law_no_ring := F28, m_law_no_ring := PySem.W.mg_of X G a28, b_law_no_ring := b28,
    f_law := _, fd_law := _, F_law := F29, m_law := PySem.W.mg_of X G a29, b_law := b29,
    f_Stair_keep_rows := _, fd_Stair_keep_rows := _, F_Stair_keep_rows := F30, M_Stair_keep_rows := methB_ok vm30, b_Stair_keep_rows := b30,
    f_Stair___init__ := _, fd_Stair___init__ := _, F_Stair___init__ := F31, cl_Stair := clB_ok vc_Stair, na_Stair := vn_Stair, b_Stair___init__ := b31,
    f_Stair_at := _, fd_Stair_at := _, F_Stair_at := F32, M_Stair_at := methB_ok vm32, b_Stair_at := b32,
    f_Stair_fraction := _, fd_Stair_fraction := _, F_Stair_fraction := F33, M_Stair_fraction := methB_ok vm33, b_Stair_fraction := b33,
    ks_Stair_fraction_1_many := ks_Stair_fraction_1_many,
    tb := tb,
    c_law := cc_law, hc_law := rfl, tbb_law := by rw [tb_law]; exact TB (cc_law, pp_law) (by simp),
    own := fun c hc => let ⟨Dn, h1, h2⟩ := glB_ok gl hc; ⟨Dn, PySem.W.mg_of X G h1, h2⟩, wf := fun n hn => ⟨(by decide +kernel : ∀ n ∈ rsX, n ∈ ownCls) n hn, whB_ok wh hn⟩,
    C_NoPlace := C_NoPlace, fI_NoPlace := fI_NoPlace, fdI_NoPlace := _, FI_NoPlace := FI_NoPlace, bI_NoPlace := bI_NoPlace, X_NoPlace := fxB_ok pass_IndexError (by decide +kernel) xf_NoPlace, gc_NoPlace := PySem.W.mg_of X G xg_NoPlace,
    C_NoRing := C_NoRing, R_NoRing := R_NoRing, gc_NoRing := PySem.W.mg_of X G R_NoRing.at_,
    C_NoStair := C_NoStair, R_NoStair := R_NoStair, gc_NoStair := PySem.W.mg_of X G R_NoStair.at_,
    zn_ArithmeticError := z_ArithmeticError,
    zn_IndexError := z_IndexError,
    zn_KeyError := z_KeyError,
    zn_LookupError := z_LookupError,
    zn_OverflowError := z_OverflowError,
    zn_RuntimeError := z_RuntimeError,
    zn_TypeError := z_TypeError,
    zn_ValueError := z_ValueError,
    zn_ZeroDivisionError := z_ZeroDivisionError,
    v_MOST_AHEAD := .int 20,
    u_MOST_AHEAD := _,
    m_MOST_AHEAD := PySem.W.mg_of X G g_MOST_AHEAD,
    r_MOST_AHEAD := ⟨_, rfl⟩,
    k_MOST_AHEAD := fun _ _ => rfl,
    v_MOST_NUMBER := .int 999999,
    u_MOST_NUMBER := _,
    m_MOST_NUMBER := PySem.W.mg_of X G g_MOST_NUMBER,
    r_MOST_NUMBER := ⟨_, rfl⟩,
    k_MOST_NUMBER := fun _ _ => rfl,
    v_MOST_RING := .int 40,
    u_MOST_RING := _,
    m_MOST_RING := PySem.W.mg_of X G g_MOST_RING,
    r_MOST_RING := ⟨_, rfl⟩,
    k_MOST_RING := fun _ _ => rfl,
    n_ArithmeticError := PySem.W.mg_none_of X G z_ArithmeticError,
    n_IndexError := PySem.W.mg_none_of X G z_IndexError,
    n_KeyError := PySem.W.mg_none_of X G z_KeyError,
    n_LookupError := PySem.W.mg_none_of X G z_LookupError,
    n_OverflowError := PySem.W.mg_none_of X G z_OverflowError,
    n_RuntimeError := PySem.W.mg_none_of X G z_RuntimeError,
    n_TypeError := PySem.W.mg_none_of X G z_TypeError,
    n_ValueError := PySem.W.mg_none_of X G z_ValueError,
    n_ZeroDivisionError := PySem.W.mg_none_of X G z_ZeroDivisionError,
    n_abs := PySem.W.mg_none_of X G z_abs,
    n_all := PySem.W.mg_none_of X G z_all,
    n_bool := PySem.W.mg_none_of X G z_bool,
    n_int := PySem.W.mg_none_of X G z_int,
    n_isinstance := PySem.W.mg_none_of X G z_isinstance,
    n_len := PySem.W.mg_none_of X G z_len,
    n_list := PySem.W.mg_none_of X G z_list,
    n_max := PySem.W.mg_none_of X G z_max,
    n_min := PySem.W.mg_none_of X G z_min,
    n_range := PySem.W.mg_none_of X G z_range,
    n_tuple := PySem.W.mg_none_of X G z_tuple
  }
  refine ⟨(PySem.W.fnOf "law" "law" (defArgs s_law) (defBody s_law) (defScope s_law) .none kV29 dc29 pm29 an29 (.ref cc_law) ct29), [(cc_law, pp_law)], upF K (spLawT tb ["law"]), ?_, ?_, ?_, ?_, fun H a ns hl _ hT hS => law_startT ?_ ?_ hS hl, fun base _ _ TB => ok_law (T base TB)⟩
  · exact List.forall_mem_cons.mpr ⟨t_law, fun _ h => nomatch h⟩
  · exact List.forall_mem_cons.mpr ⟨n_law, fun _ h => nomatch h⟩
  · exact List.forall_mem_cons.mpr ⟨PySem.W.codeHd_of_K X g_law, fun _ h => nomatch h⟩
  · exact fun s v => .of_eq rfl
  · exact List.forall_mem_cons.mpr ⟨(by rw [tb_law]; exact hT (cc_law, pp_law) (by simp)), fun _ h => nomatch h⟩
  · intro d hd e he _; rw [List.mem_singleton.mp hd, List.mem_singleton.mp he]

end K11
open PySem PySem.W PyProof.Rows
set_option maxRecDepth 100000 in
set_option maxHeartbeats 0 in
theorem PySem.Challenge.cw_nearthrees_k11_fractions_and_forms_of_ro_holds : PySem.Challenge.rw_nearthrees_k11_fractions_and_forms_of_ro.Holds := by
  w_on; o_law; k_head; (case hw => w_witness2)
  k_fill
  refine Hx.lawG_end (l := PySem.Challenge.rw_nearthrees_k11_fractions_and_forms_of_ro) (n := 63) (k := 9) (x := "_law_script") (CX := fun w => L2N.CX (PySem.Challenge.rw_nearthrees_k11_fractions_and_forms_of_ro).prog w) rfl (by decide) rfl ⟨⟨rfl, by decide, by decide⟩, rfl⟩ (fun w h Y => PySem.W.km_in_of Y) ?F fun _ _ _ _ _ z => Dv.CX_no z
  case F =>
    intro w mg fa h Y KX G hmg
    have hT := PySem.W.km_tabs_of Y
    refine' K11.all_mk KX G hmg ?vg_Stair ?a0 ?l0 ?c0 ?k0 ?a1 ?l1 ?c1 ?k1 ?a2 ?l2 ?c2 ?k2 ?a3 ?l3 ?c3 ?k3 ?a4 ?l4 ?c4 ?k4 ?a5 ?l5 ?c5 ?k5 ?a6 ?l6 ?c6 ?k6 ?a7 ?l7 ?c7 ?k7 ?a8 ?l8 ?c8 ?k8 ?a9 ?l9 ?c9 ?k9 ?a10 ?l10 ?c10 ?k10 ?a11 ?l11 ?c11 ?k11 ?a12 ?l12 ?c12 ?k12 ?a13 ?l13 ?c13 ?k13 ?a14 ?l14 ?c14 ?k14 ?a15 ?l15 ?c15 ?k15 ?a16 ?l16 ?c16 ?k16 ?a17 ?l17 ?c17 ?k17 ?a18 ?l18 ?c18 ?k18 ?a19 ?l19 ?c19 ?k19 ?a20 ?l20 ?c20 ?k20 ?a21 ?l21 ?c21 ?k21 ?a22 ?l22 ?c22 ?k22 ?a23 ?l23 ?c23 ?k23 ?a24 ?l24 ?c24 ?k24 ?a25 ?l25 ?c25 ?k25 ?a26 ?l26 ?c26 ?k26 ?a27 ?l27 ?c27 ?k27 ?a28 ?l28 ?c28 ?k28 ?a29 ?l29 ?c29 ?k29 ?a30 ?l30 ?c30 ?k30 ?vm30 ?a31 ?l31 ?c31 ?k31 ?vc_Stair ?vn_Stair ?a32 ?l32 ?c32 ?k32 ?vm32 ?a33 ?l33 ?c33 ?k33 ?vm33 ?q_law ?r_law ?g_law ?n_law ?t_law ?gl ?wh ?xg_NoPlace ?xi_NoPlace ?xl_NoPlace ?xc_NoPlace ?xk_NoPlace ?xf_NoPlace ?rs_NoRing ?rs_NoStair ?g_MOST_AHEAD ?g_MOST_NUMBER ?g_MOST_RING ?z_ArithmeticError ?z_IndexError ?z_KeyError ?z_LookupError ?z_OverflowError ?z_RuntimeError ?z_TypeError ?z_ValueError ?z_ZeroDivisionError ?z_abs ?z_all ?z_bool ?z_int ?z_isinstance ?z_len ?z_list ?z_max ?z_min ?z_range ?z_tuple
    (case vg_Stair => k_is)
    (case a0 => k_is)
    (case l0 => k_is)
    (case c0 => k_is)
    (case k0 => k_is)
    (case a1 => k_is)
    (case l1 => k_is)
    (case c1 => k_is)
    (case k1 => k_is)
    (case a2 => k_is)
    (case l2 => k_is)
    (case c2 => k_is)
    (case k2 => k_is)
    (case a3 => k_is)
    (case l3 => k_is)
    (case c3 => k_is)
    (case k3 => k_is)
    (case a4 => k_is)
    (case l4 => k_is)
    (case c4 => k_is)
    (case k4 => k_is)
    (case a5 => k_is)
    (case l5 => k_is)
    (case c5 => k_is)
    (case k5 => k_is)
    (case a6 => k_is)
    (case l6 => k_is)
    (case c6 => k_is)
    (case k6 => k_is)
    (case a7 => k_is)
    (case l7 => k_is)
    (case c7 => k_is)
    (case k7 => k_is)
    (case a8 => k_is)
    (case l8 => k_is)
    (case c8 => k_is)
    (case k8 => k_is)
    (case a9 => k_is)
    (case l9 => k_is)
    (case c9 => k_is)
    (case k9 => k_is)
    (case a10 => k_is)
    (case l10 => k_is)
    (case c10 => k_is)
    (case k10 => k_is)
    (case a11 => k_is)
    (case l11 => k_is)
    (case c11 => k_is)
    (case k11 => k_is)
    (case a12 => k_is)
    (case l12 => k_is)
    (case c12 => k_is)
    (case k12 => k_is)
    (case a13 => k_is)
    (case l13 => k_is)
    (case c13 => k_is)
    (case k13 => k_is)
    (case a14 => k_is)
    (case l14 => k_is)
    (case c14 => k_is)
    (case k14 => k_is)
    (case a15 => k_is)
    (case l15 => k_is)
    (case c15 => k_is)
    (case k15 => k_is)
    (case a16 => k_is)
    (case l16 => k_is)
    (case c16 => k_is)
    (case k16 => k_is)
    (case a17 => k_is)
    (case l17 => k_is)
    (case c17 => k_is)
    (case k17 => k_is)
    (case a18 => k_is)
    (case l18 => k_is)
    (case c18 => k_is)
    (case k18 => k_is)
    (case a19 => k_is)
    (case l19 => k_is)
    (case c19 => k_is)
    (case k19 => k_is)
    (case a20 => k_is)
    (case l20 => k_is)
    (case c20 => k_is)
    (case k20 => k_is)
    (case a21 => k_is)
    (case l21 => k_is)
    (case c21 => k_is)
    (case k21 => k_is)
    (case a22 => k_is)
    (case l22 => k_is)
    (case c22 => k_is)
    (case k22 => k_is)
    (case a23 => k_is)
    (case l23 => k_is)
    (case c23 => k_is)
    (case k23 => k_is)
    (case a24 => k_is)
    (case l24 => k_is)
    (case c24 => k_is)
    (case k24 => k_is)
    (case a25 => k_is)
    (case l25 => k_is)
    (case c25 => k_is)
    (case k25 => k_is)
    (case a26 => k_is)
    (case l26 => k_is)
    (case c26 => k_is)
    (case k26 => k_is)
    (case a27 => k_is)
    (case l27 => k_is)
    (case c27 => k_is)
    (case k27 => k_is)
    (case a28 => k_is)
    (case l28 => k_is)
    (case c28 => k_is)
    (case k28 => k_is)
    (case a29 => k_is)
    (case l29 => k_is)
    (case c29 => k_is)
    (case k29 => k_is)
    (case a30 => k_is)
    (case l30 => k_is)
    (case c30 => k_is)
    (case k30 => k_is)
    (case vm30 => kernel_rfl)
    (case a31 => k_is)
    (case l31 => k_is)
    (case c31 => k_is)
    (case k31 => k_is)
    (case vc_Stair => kernel_rfl)
    (case vn_Stair => kernel_rfl)
    (case a32 => k_is)
    (case l32 => k_is)
    (case c32 => k_is)
    (case k32 => k_is)
    (case vm32 => kernel_rfl)
    (case a33 => k_is)
    (case l33 => k_is)
    (case c33 => k_is)
    (case k33 => k_is)
    (case vm33 => kernel_rfl)
    (case q_law => k_is)
    (case r_law => rfl)
    (case g_law => kernel_rfl)
    (case n_law => kernel_rfl)
    (case t_law => exact hT _ (by simp))
    (case gl => kernel_rfl)
    (case wh => kernel_rfl)
    (case xg_NoPlace => k_is)
    (case xi_NoPlace => k_is)
    (case xl_NoPlace => k_is)
    (case xc_NoPlace => k_is)
    (case xk_NoPlace => k_is)
    (case xf_NoPlace => kernel_rfl)
    (case rs_NoRing => kernel_rfl)
    (case rs_NoStair => kernel_rfl)
    (case g_MOST_AHEAD => k_is)
    (case g_MOST_NUMBER => k_is)
    (case g_MOST_RING => k_is)
    (case z_ArithmeticError => k_is)
    (case z_IndexError => k_is)
    (case z_KeyError => k_is)
    (case z_LookupError => k_is)
    (case z_OverflowError => k_is)
    (case z_RuntimeError => k_is)
    (case z_TypeError => k_is)
    (case z_ValueError => k_is)
    (case z_ZeroDivisionError => k_is)
    (case z_abs => k_is)
    (case z_all => k_is)
    (case z_bool => k_is)
    (case z_int => k_is)
    (case z_isinstance => k_is)
    (case z_len => k_is)
    (case z_list => k_is)
    (case z_max => k_is)
    (case z_min => k_is)
    (case z_range => k_is)
    (case z_tuple => k_is)
#print axioms PySem.Challenge.cw_nearthrees_k11_fractions_and_forms_of_ro_holds
