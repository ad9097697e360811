import PyProof.Rows.All
import Wide.All
import OpenK.AllK
import Wide.FinOn
import HandS.CallSlots
import HandS.EndTab
import HandS.EndBits
import HandS.Words
import HandS.WordsExc
import HandS.HotCalls
import HandS.ExcCtx
import HandS.Lambda
import HandS.Comp
import KE.KExcIs
import KE.KTryMore
import HandS.IsInst
import HandS.ExcIs
import HandS.Codes
import HandS.Defaults
import HandS.TupMul
import HandS.SortKw
import HandS.FltList
import HandS.Iter
import KE.DataMinKey
import PyProof.WalkInts
import HandS.TupAny
import PyProof.SumAnyB
import PyProof.InstSpecial
import HandS.Rev
import HandS.MapObj
import HandS.MapJoin
import KE.DataMinMax
import HandS.List
import KE.SortData
import HandS.ForMost
import HandS.Exc
import HandS.ExcOwn
import HandS.Wide
import HandS.Style
import HandS.Conv
import HandS.More
import KE.KNestM
import HandS.WideBits
import HandS.Zip
import PyProof.StrLawsIn
import HandS.Dict
import PyProof.StrLawsRepr
import PyProof.FitsInt
import PyProof.Rows.RegStrFacts
import PyProof.ReprRoads
import HandS.ExcInit
import HandS.ExcField
import HandS.Strs
import HandS.Deep
import PyProof.P3In
import PyProof.TupleKey
import PyProof.DictRoadsH
import PyProof.DictKinds
import HandS.FStr
import KE.LtData
import KE.KSuperObj
import HandS.IntHex
import HandS.ReplaceLit
import PyProof.StrLawsReplace
import KE.GoesEnumKw
import PyProof.Rows.CountFlat
import PyProof.InstNe
import HandS.SlotsOwn
import KE.KCallOwn
import HandS.RaiseMore
import PyProof.EqKinds
import PyProof.FactsAll.bool_1
import PyProof.FactsAll.NoneType_1
import HandS.OwnEq
import PyProof.Rows.ReprOcc
import PyProof.SeqIndex
import KE.DataFind
import KE.HD2
import PySem.Challenge.RW_nearthrees_k57_papers_of_triples
set_option Elab.async false
set_option linter.all false
set_option maxRecDepth 100000
set_option maxHeartbeats 4000000
/-! Promises of defs that are called where nothing is being shown (repr): calls, bodies, the law's end. -/
namespace Hx
open PySem PySem.Spec PyProof.Rows L2
/-- room for k calls, and no repr is under way -/
structure RoomG (k : Nat) (A : Around) : Prop where
  rm : Room k A
  gd : A.guards = some []
section
variable {j k : Nat} {A : Around}
theorem RoomG.mono (r : RoomG k A) (h : j ≤ k) : RoomG j A := ⟨r.rm.mono h, r.gd⟩
theorem RoomG.deeper (r : RoomG (k + 1) A) (env : Env) : RoomG k (A.deeper env) := ⟨r.rm.deeper env, r.gd⟩
theorem RoomG.in1 (r : RoomG (k + 1) A) : RoomG k A.in1 := ⟨r.rm.in1, r.gd⟩
theorem RoomG.depth (r : RoomG k A) : A.depth < recursionLimit := r.rm.depth
theorem RoomG.units (r : RoomG k A) : A.units + 64 < cLine := r.rm.units
theorem RoomG.hd (r : RoomG k A) : A.handled = none := r.rm.hd
end
structure FnG (P : Program) (w : World) (K : PySem.W.Frag) (mg : Str → Option Value) (base : Heap) (CX : CXT) (k : Nat) (f : Addr) (fd : FuncData) (ps : List Str) (sp : Sp) : Prop where
  len : ∀ vs H Q E, sp vs H Q E → vs.length = ps.length
  run : ∀ (A : Around) (outer : List Env) (s : Shared) (H : Hp) (args : Args) (us : List Value) (vs : List V) (Q : VK) (E : XK), RoomG k A → Env0 P w K mg base A outer s H → BindsTo s fd args (ps.zip us) → Vals vs us → sp vs H Q E →
    codeAny (model P w) A (.call (.ref f) args) (CR CX outer P w H s Q E) s
section
variable {X : Cx} {CX : CXT} {k : Nat} {f : Addr} {fd : FuncData} {ps : List Str} {sp : Sp} {dvs : List V} {ds : List Value} {E : L2.St → XK} {x : Str} {p pos : Pos} {e : Expr} {es : List Expr} {t : TA}
theorem fnG_run {pins : List (Addr × Obj)} {σ : L2.St} {H : Hp} {s : Shared} {Q : VK} {us : List Value} {vs : List V} (F : FnG X.prog X.w X.K X.mg X.base CX k f fd ps sp) (hr : RoomG k X.A) (hb : Binds X.K fd ps ds) (hd : Vals dvs ds) (hx : PassesAt CX X σ (E σ))
    (I : Inv X pins σ H s) (r : Vals vs us) (h : sp (vs ++ dvs) H Q (E σ)) : wpAny (model X.prog X.w) X.A (call (.ref f) us) (EP X pins σ Q) X.xe s := by
  have all : Vals (vs ++ dvs) (us ++ ds) := r.append hd
  have bind := hb s us I.kIn (by rw [← all.length]; exact F.len _ _ _ _ h)
  refine wpAny_call (codeAny_mono (F.run X.A X.stack s H _ _ _ Q (E σ) hr I.env0 bind all h) fun out s' got => ?_)
  match out, got with
  | .error e, got => exact hx pins H s e s' I got
  | .ok (.ret u), got => exact I.after got
/-- f(e, ..) -/
theorem pe_callG (F : FnG X.prog X.w X.K X.mg X.base CX k f fd ps sp) (hr : RoomG k X.A) (hg : Gl X x) (hm : X.mg x = some (.ref f)) (hk : PySem.W.keepIn X.K (.ref f) = true) (hb : Binds X.K fd ps ds) (hd : Vals dvs ds) (hx : ∀ σ, PassesAt CX X σ (E σ))
    (ha : PA X (e :: es) t) (hdb : (x == ("__debug__" : Str)) = false := by decide) (he : starEach (e :: es) X.env = (false, eval e X.env) :: starEach es X.env := by rfl) (hpl : (backTo pos (starEach es X.env)).any (·.1) = false := by rfl) :
    PE X (.Call (.Name x p) (e :: es) [] pos) (tCallSD sp dvs E t) :=
  ⟨fun pins s σ H Q I h => wpAny_Call_Name_kw (ld_glob I hg hm (PySem.W.callWith_K (h₀ := X.base) I.ok.mod.kin hk (thn (ha.run pos pins s σ H _ I h) fun us s1 ⟨vs, H1, I1, r, q⟩ => ⟨I1.kIn, fnG_run F hr hb hd (hx σ) I1 r q⟩) he hpl) hdb)⟩
end
/-- a def by its body -/
theorem fnG_of {CX : CXT} {P : Program} {w : World} {K : PySem.W.Frag} {mg : Str → Option Value} {base : Heap} {k : Nat} {f : Addr} {x qual : Str} {st : Stmt} {fd : FuncData} {N ps : List Str} {sp : Sp} (F : L2.Fun K x qual st f fd) (S : FnScope N ps (defScope st)) (len : ∀ vs H Q E, sp vs H Q E → vs.length = ps.length)
    (body : ∀ (cdv : Value), cdv = fd.code → ∀ (A : Around) (outer : List Env) (s : Shared) (H : Hp) (vs : List V) (Q : VK) (E : XK), RoomG k (A.deeper (envOfC qual (defScope st) s.heap.objs.size f cdv)) → sp vs H Q E →
      ∃ t, PSs (cxOf CX P w K mg base N qual (defScope st) f cdv A outer s H E) (defBody st) t ∧ t { nx := fun _ H' => Q .non H', rt := Q } (L2.start N vs) H) : FnG P w K mg base CX (k + 1) f fd ps sp := by
  refine ⟨len, fun A outer s H args us vs Q E room e0 bind r q => ?_⟩
  obtain ⟨oc, od, kV, doc, pm, an, cdv, ct, osl, rfl, lk, code⟩ := F.ex
  have KX : K.In s.heap := e0.mod.kin.keeps fun b o e => (e0.bs b o e).1
  have lim : s.heap.NoLimit := e0.mod.nolimit.keeps fun b o e => (e0.bs b o e).1
  have known : ∀ y ∈ ps.zip us, (defScope st).names.lookup y.1 = some .local ∨ ((defScope st).names.lookup y.1 = some .cell ∧ ((cellsFrom (s.heap.objs.size + 1) (defScope st).names []).lookup y.1).isSome = true) := fun y hy =>
    (S.par y.1 (List.of_mem_zip (a := y.1) (b := y.2) hy).1).imp id fun z => ⟨z, PySem.W.cellsFrom_some _ _ _ (.inl z)⟩
  refine codeAny_call_function room.depth (KX _ _ lk) rfl S.co S.gen rfl (PySem.W.codeRec_of KX code) (bind _ _ _ _ (wpAny_newFunctionEnv_cells S.kind known fun env he s1 y => ?_))
  subst he
  obtain ⟨t, ht, hq⟩ := body cdv rfl A outer s H vs Q E (room.deeper _) q
  have I : Inv (cxOf CX P w K mg base N qual (defScope st) f cdv A outer s H E) [] (L2.start N vs) H s1 := inv_start S room.hd e0 (len _ _ _ _ q) r y
  refine ⟨lim.keeps y.toInCall.keep, codeAny_func (wpAny_mono (ht.run [] s1 _ H _ I hq) (fun fl s' z => ?_) fun e s' z => z)⟩
  match fl, z with
  | .ret u, ⟨v, σ', H', J, rv, z⟩ => exact ⟨v, H', J.os, J.bare, J.base, J.hok, rv, z⟩
  | .next, ⟨σ', H', J, z⟩ => exact ⟨.non, H', J.os, J.bare, J.base, J.hok, rfl, z⟩
  | .brk, ⟨_, _, _, z⟩ => exact z.elim
  | .cont, ⟨_, _, _, z⟩ => exact z.elim
/-! ### the law -/
section
variable {P : Program} {w : World} {K : PySem.W.Frag} {mg mb : Str → Option Value} {CX : CXT} {k : Nat} {fa a : Addr} {cs : List (Addr × Addr)} {fd : FuncData} {x : Str} {sp : Sp} {s : Shared} {vs : List Value} {ns : List Int}
abbrev tblO : Obj := { cls := .none, data := .fields #[] }
abbrev scrO (vs : List Value) : Obj := { cls := .type "list", data := .seq vs.toArray }
/-- the heap at the law's start: its tables, and the script where the written part has it not -/
def lawH (K : PySem.W.Frag) (cs : List (Addr × Addr)) (a : Addr) (vs : List Value) (ns : List Int) : Hp := fun b => if b ∈ cs.map (·.2) then some (.tbl #[]) else if b = a ∧ K.lookup a = none then some (.frz (scrO vs) (.lst (ns.map V.int))) else none
theorem lawH_tab {b : Addr} (h : b ∈ cs.map (·.2)) : lawH K cs a vs ns b = some (.tbl #[]) := if_pos h
theorem lawH_cases (b : Addr) : (b ∈ cs.map (·.2) ∧ lawH K cs a vs ns b = some (.tbl #[])) ∨ (b ∉ cs.map (·.2) ∧ (b = a ∧ K.lookup a = none) ∧ lawH K cs a vs ns b = some (.frz (scrO vs) (.lst (ns.map V.int)))) ∨ (b ∉ cs.map (·.2) ∧ ¬ (b = a ∧ K.lookup a = none) ∧ lawH K cs a vs ns b = none) := by
  unfold lawH
  by_cases h : b ∈ cs.map (·.2)
  · exact .inl ⟨h, if_pos h⟩
  · by_cases g : b = a ∧ K.lookup a = none
    · exact .inr (.inl ⟨h, g, (if_neg h).trans (if_pos g)⟩)
    · exact .inr (.inr ⟨h, g, (if_neg h).trans (if_neg g)⟩)
theorem lawG_call (KX : K.In s.heap) (hm : s.heap.Ns mainGlobals mg) (hb : s.heap.Ns builtinsNs mb) (hbo : ∀ x : Str, x ≠ "__name__" → mb x = bootBuiltins x) (hn : s.heap.NoLimit) (hgen : s.gens = #[])
    (hT : ∀ p ∈ cs, s.heap.get? p.2 = some tblO) (nT : ∀ p ∈ cs, K.lookup p.2 = none) (hC : ∀ p ∈ cs, PySem.W.CodeHd s.heap p.1 p.2)
    (hbm : ∃ (bm : Addr) (ob : Obj), mg "__builtins__" = some (.ref bm) ∧ bm ≠ builtinsNs ∧ s.heap.get? bm = some ob ∧ ob.cls = .type "module" ∧ ob.dict = some builtinsNs ∧ ob.data = .plain)
    (ha : s.heap.get? a = some (scrO vs)) (hi : IntsAre vs ns) (hl : ns.length ≤ sizeLine) (hr : RoomG k callerA)
    (F : ∀ base : Heap, K.In base → base.Ns mainGlobals mg → (∀ p ∈ cs, LamX.TabB base mg p.1 p.2) → FnG P w K mg base CX k fa fd [x] sp) (bind : ∀ (s : Shared) (u : Value), BindsTo s fd ⟨[u], []⟩ [(x, u)])
    (hsp : ∀ H : Hp, (∀ p ∈ cs, H p.2 = some (.tbl #[])) → SqL K H a (ns.map V.int) → sp [.ref a] H (fun v _ => v = .bl true) fun _ _ _ => False)
    (hCX : ∀ H e s', CX [] H s (fun _ _ _ => False) e s' → False) :
    codeAny (model P w) callerA (.call (.ref fa) ⟨[.ref a], []⟩) (fun r s' => r = .ok (.ret (.bool true)) ∧ OldK s.heap s'.heap ∧ s'.os = s.os ∧ AllBare s'.gens) s := by
  have tabAt : ∀ b, b ∈ cs.map (·.2) → s.heap.get? b = some tblO := fun b h => by
    obtain ⟨p, hp, e⟩ := List.mem_map.mp h
    exact e ▸ hT p hp
  have tabK : ∀ b, b ∈ cs.map (·.2) → K.lookup b = none := fun b h => by
    obtain ⟨p, hp, e⟩ := List.mem_map.mp h
    exact e ▸ nT p hp
  have inT : ∀ p ∈ cs, p.2 ∈ cs.map (·.2) := fun p hp => List.mem_map.mpr ⟨p, hp, rfl⟩
  have aT : a ∉ cs.map (·.2) := fun h => by
    have z := ha.symm.trans (tabAt a h)
    cases z
  -- what is neither a list nor an empty record isn't tracked
  have out : ∀ {b : Addr} {o : Obj}, s.heap.get? b = some o → (∀ us n, o.data ≠ .seq us n) → o.data ≠ .fields #[] → lawH K cs a vs ns b = none := fun {b o} e h1 h2 => by
    rcases lawH_cases (K := K) (cs := cs) (a := a) (vs := vs) (ns := ns) b with ⟨z, _⟩ | ⟨_, z, _⟩ | ⟨_, _, z⟩
    · rw [tabAt b z] at e
      cases e
      exact absurd rfl h2
    · rw [z.1, ha] at e
      cases e
      exact absurd rfl (h1 _ _)
    · exact z
  have seen : ∀ {b : Addr} {o : Obj}, s.heap.get? b = some o → (∀ us n, o.data ≠ .seq us n) → o.data ≠ .fields #[] → (hidT s.heap (lawH K cs a vs ns)).get? b = some o := fun e h1 h2 => hidT_get e (out e h1 h2)
  have space : ∀ {b : Addr} {m : Str → Option Value}, s.heap.Ns b m → (hidT s.heap (lawH K cs a vs ns)).Ns b m := fun ⟨o, es, ep, e, d, r⟩ => ⟨o, es, ep, seen e (fun us n z => by rw [d] at z; cases z) (fun z => by rw [d] at z; cases z), d, r⟩
  have KB : K.In (hidT s.heap (lawH K cs a vs ns)) := fun b o e => hidT_get (KX b o e) (by
    rcases lawH_cases (K := K) (cs := cs) (a := a) (vs := vs) (ns := ns) b with ⟨z, _⟩ | ⟨_, z, _⟩ | ⟨_, _, z⟩
    · rw [tabK b z] at e
      cases e
    · rw [z.1, z.2] at e
      cases e
    · exact z)
  have hmod : L2.Mod K mg (hidT s.heap (lawH K cs a vs ns)) := ⟨KB, space hm, ⟨mb, space hb, hbo⟩, hn.imp fun _ h => ⟨space h.1, h.2⟩⟩
  have TB : ∀ p ∈ cs, LamX.TabB (hidT s.heap (lawH K cs a vs ns)) mg p.1 p.2 := fun p hp => by
    have tp := hT p hp
    refine ⟨?_, ?_, fun z => ?_⟩
    · obtain ⟨o, us, c1, c2, c3, c4, c5, c6, c7, e1, r1, r2, r3, rest⟩ := hC p hp
      refine ⟨o, us, c1, c2, c3, c4, c5, c6, c7, seen e1 (fun vs n z => by rw [r2] at z; cases z) (fun z => ?_), r1, r2, r3, rest⟩
      rw [r2] at z
      cases z
      simp at r3
    · obtain ⟨bm, ob, b1, b2, b3, b4, b5, b6⟩ := hbm
      have n1 : bm ≠ mainGlobals := fun q => by
        obtain ⟨o, es, ep, e, d, _⟩ := hm
        rw [← q, b3] at e
        cases e
        rw [b6] at d
        cases d
      have n2 : bm ≠ p.2 := fun q => by
        rw [q, tp] at b3
        cases b3
        cases b6
      exact ⟨bm, ob, b1, b2, n1, n2, seen b3 (fun vs n z => by rw [b6] at z; cases z) (fun z => by rw [b6] at z; cases z), b4, b5, b6⟩
    · obtain ⟨o, es, ep, e, d, _⟩ := hm
      rw [z, tp] at e
      cases e
      cases d
  have hok : HOk P w (lawH K cs a vs ns) s.heap := fun b u e => by
    rcases lawH_cases (K := K) (cs := cs) (a := a) (vs := vs) (ns := ns) b with ⟨z, q⟩ | ⟨_, z, q⟩ | ⟨_, _, q⟩
    · cases q.symm.trans e
      exact tabAt b z
    · cases q.symm.trans e
      rw [z.1]
      exact ⟨ha, by rw [List.length_map]; exact hl, vs, _, vals_ints hi, ha⟩
    · cases q.symm.trans e
  have e0 : Env0 P w K mg (hidT s.heap (lawH K cs a vs ns)) callerA [] s (lawH K cs a vs ns) := ⟨rfl, hmod, fun b o e => of_hidT e, Nat.le_of_eq (hidT_size _ _), trivial, fun b z => (nomatch (show b ∈ ([] : List Addr) from z)), hok, .of_eq hgen⟩
  have list : SqL K (lawH K cs a vs ns) a (ns.map V.int) := by
    cases q : K.lookup a with
    | some o =>
      cases ha.symm.trans (KX a o q)
      exact .inr ⟨_, vs.toArray, _, q, rfl, rfl, rfl, by rw [List.size_toArray, hi.length]; exact hl, by simpa using vals_ints hi⟩
    | none => exact .inl (.inr ⟨scrO vs, (if_neg aT).trans (if_pos ⟨rfl, q⟩)⟩)
  refine codeAny_mono ((F _ KB (space hm) TB).run callerA [] s (lawH K cs a vs ns) ⟨[.ref a], []⟩ [.ref a] [.ref a] _ _ hr e0 (bind s (.ref a)) (.cons rfl .nil) (hsp _ (fun p hp => lawH_tab (inT p hp)) list)) fun r s' got => ?_
  match r, got with
  | .error e, got => exact (hCX _ e s' got).elim
  | .ok (.ret u), ⟨v, H', os, bare, un, hok', rv, q⟩ =>
    have q' : v = .bl true := q
    subst q'
    obtain rfl : u = Value.bool true := rv
    have kept : ∀ b o, b ∉ cs.map (·.2) → s.heap.get? b = some o → s'.heap.get? b = some o := fun b o nb e => by
      rcases lawH_cases (K := K) (cs := cs) (a := a) (vs := vs) (ns := ns) b with ⟨z, _⟩ | ⟨_, z, q⟩ | ⟨_, _, q⟩
      · exact absurd z nb
      · have h1 := (hok b _ q).1
        rw [e] at h1
        cases h1
        exact (hok' b _ (un.frzs b _ _ q)).1
      · exact un.keep b o e q (fun z => (nomatch (show b ∈ ([] : List Addr) from z))) (fun z => (nomatch z))
    have grown : ∀ p ∈ cs, ∃ more : Array Value, s'.heap.get? p.2 = some { cls := .none, data := .fields more } := fun p hp => by
      obtain ⟨more, z⟩ := un.tbls p.2 #[] (lawH_tab (inT p hp))
      exact ⟨_, hok' p.2 _ z⟩
    refine ⟨rfl, ⟨fun b o e => ?_, fun b o e => ?_⟩, os, bare⟩
    · by_cases hb : b ∈ cs.map (·.2)
      · obtain ⟨p, hp, rfl⟩ := List.mem_map.mp hb
        obtain ⟨more, hmo⟩ := grown p hp
        cases (hT p hp).symm.trans e
        exact .inr (.inl ⟨((hC p hp).tab (hT p hp)).isCodeTable, rfl, #[], more, rfl, by rw [Array.empty_append]; exact hmo⟩)
      · exact .inl (kept b o hb e)
    · by_cases hb : b ∈ cs.map (·.2)
      · obtain ⟨p, hp, rfl⟩ := List.mem_map.mp hb
        obtain ⟨more, hmo⟩ := grown p hp
        exact ⟨_, hmo⟩
      · exact ⟨o, kept b o hb e⟩
end
/-- what is known of the law at the head's heap -/
def LawG (l : PySem.W.OpenLaw) (w : World) (K : PySem.W.Frag) (CX : CXT) (k n : Nat) (x : Str) (mg : Str → Option Value) (fa : Addr) (h : Heap) : Prop :=
  ∃ (fd : FuncData) (cs : List (Addr × Addr)) (sp : Sp), (∀ p ∈ cs, h.get? p.2 = some tblO) ∧ (∀ p ∈ cs, K.lookup p.2 = none) ∧ (∀ p ∈ cs, PySem.W.CodeHd h p.1 p.2) ∧ (∀ (s : Shared) (u : Value), BindsTo s fd ⟨[u], []⟩ [(x, u)]) ∧
    (∀ (H : Hp) (a : Addr) (ns : List Int), ns.length ≤ n → (∀ z ∈ ns, Builtin.Int.intBits z ≤ 1048576) → (∀ p ∈ cs, H p.2 = some (.tbl #[])) → SqL K H a (ns.map V.int) → sp [.ref a] H (fun v _ => v = .bl true) fun _ _ _ => False) ∧
    ∀ base : Heap, K.In base → base.Ns mainGlobals mg → (∀ p ∈ cs, LamX.TabB base mg p.1 p.2) → FnG l.prog w K mg base CX k fa fd [x] sp
theorem lawG_end {l : PySem.W.OpenLaw} {n k : Nat} {q : Program} {loose : List Str} {XP : (Str → Option Value) → Heap → Prop} {YP : World → Heap → Prop} {d : DefRec} {K : Params → PySem.W.Frag} {CX : World → CXT} {x : Str}
    (hn : l.most = some n) (hn2 : n ≤ sizeLine) (hdf : d.params.defaults = []) (hr : RoomG k callerA) (hY : ∀ (w : World) (h : Heap), YP w h → (K w.params).In h)
    (F : ∀ (w : World) (mg : Str → Option Value) (fa : Addr) (h : Heap), YP w h → (K w.params).In h → h.Ns mainGlobals mg → mg d.name = some (.ref fa) → LawG l w (K w.params) (CX w) k n x mg fa h)
    (hCX : ∀ (w : World) (H : Hp) (s : Shared) (e : Value) (s' : Shared), CX w [] H s (fun _ _ _ => False) e s' → False) :
    PySem.W.WalkO q loose XP YP l.row.toRowW d [] (fun f vs => PySem.call f vs) :=
  Att.attach_callB hn hdf fun w s₀ s₁ mg mb fa o pm cd doc a vs ns G Y ho hd hcd hmg hobj hints hlen hbits hg =>
    let KX := hY w _ Y
    let ⟨_, _, _, hT, nT, hC, hb, hsp, hF⟩ := F w mg fa _ Y KX G.T.g hmg
    lawG_call KX G.T.g G.T.b G.T.builtins G.T.nolimit hg hT nT hC G.T.bmain hobj hints (Nat.le_trans hlen hn2) hr hF hb (fun H hH hS => hsp H a ns hlen hbits hH hS) fun H e s' => hCX w H s₁ e s'
end Hx

/-! loops and stores while an exception is handled -/
namespace Hx
open PySem PySem.Spec PyProof.Rows L2 HotX
section
variable {prog : Program} {w : World} {A : Around} {E : Value → Shared → Prop} {s : Shared}
end
section
variable {X : Cx} {pos : Pos}
end
end Hx

/-! a comprehension while an exception is handled -/
namespace Hx
open PySem PySem.Spec PyProof.Rows L2 HotX
section
variable {X : Cx} {pins : List (Addr × Obj)} {σ : L2.St} {H : Hp} {s : Shared}
end
end Hx

/-! calls within an except suite; several clauses that name the exception; a lambda handed to a def -/
namespace Hx
open PySem PySem.Spec PyProof.Rows L2 HotX
/-! ### a def called within an except suite -/
section
variable {X : Cx}
end
end Hx

/-! try: several clauses, each of one class or of a tuple of classes, with a name or without -/
namespace Hx
open PySem PySem.Spec PyProof.Rows L2 HotX
/-! ### the tests -/
section
variable {M : Model} {K : PySem.W.Frag}
open PySem.W
end
section
variable {X : Cx} {a : Addr} {pn pins : List (Addr × Obj)} {σ : L2.St} {H : Hp} {s : Shared}
end
/-! ### the clauses -/
structure Cl where
  cs : List Value
  n : Option (Str × Nat)
  ts : Addr → Value → Option Addr → TS
section
variable {X : Cx} {Wout : WX} {a : Addr} {B : Heap} {pins : List (Addr × Obj)} {σ : L2.St} {H : Hp} {cls : Value} {d : Option Addr} {D : Ends} {sI s' : Shared}
/-- what stands of a caught exception -/
structure Cgt (X : Cx) (a : Addr) (B : Heap) (pins : List (Addr × Obj)) (σ : L2.St) (H : Hp) (cls : Value) (d : Option Addr) (sI s : Shared) : Prop where
  inv : Inv X pins σ H sI
  nb : ∀ b o, sI.heap.get? b = some o → b ∉ frs X.stack → B.get? b = some o
  up : sI.heap.UpToSlots s.heap
  fl : HandSPX.FlyingZ B X.stack a (L2N.Zn cls d) s.heap
  na : H a = none
  os : s.os = sI.os
  ag : AllBare s.gens
theorem Cgt.step {h' : Heap} (c : Cgt X a B pins σ H cls d sI s') (fl : HandSPX.FlyingZ B X.stack a (L2N.Zn cls d) h') (up : s'.heap.UpToSlots h') : Cgt X a B pins σ H cls d sI { s' with heap := h' } := ⟨c.inv, c.nb, c.up.trans up, fl, c.na, c.os, c.ag⟩
theorem Cgt.here (c : Cgt X a B pins σ H cls d sI s') : Inv X pins σ H s' := c.inv.landed c.nb c.fl.1 c.up c.os c.ag
theorem Cgt.obj (c : Cgt X a B pins σ H cls d sI s') (hs : X.stack = X.env :: X.outer) (hf : X.env.frame = some X.env.locals) : ∃ oe vs, s'.heap.get? a = some oe ∧ L2N.Zn cls d oe ∧ oe.data = .fields vs ∧ Inv (X.suite a ((a, oe) :: (X.pn ++ pins))) [] σ H s' := by
  obtain ⟨oe, vs, he, hz, hd⟩ := c.fl.there
  have nfr : a ∉ frs X.stack := fun hm => by
    obtain ⟨_, o, e, hnf⟩ := c.fl.2.2.1.mem hm
    rw [he] at e
    cases e
    exact hnf _ hd
  rw [hs] at nfr
  refine ⟨oe, vs, he, hz, hd, c.here.suite he hd c.na (fun z => nfr ?_) fun hm => nfr ?_⟩
  · exact List.mem_filterMap.mpr ⟨X.env, .head _, by rw [hf, z]⟩
  · obtain ⟨e, he, q⟩ := List.mem_filterMap.mp hm
    exact List.mem_filterMap.mpr ⟨e, .tail _ he, q⟩
end
end Hx

/-! a lambda without parameters handed to a def that calls it within a try -/
namespace Hx
open PySem PySem.Spec PyProof.Rows L2 HotX LamX
section
variable {X : Cx} {pins : List (Addr × Obj)} {σ : L2.St} {H HZ : Hp} {s : Shared}
end
end Hx

/-! A def called with keywords, where what it raises is wished for at the caller's slots. -/
namespace Hx
open PySem PySem.Spec PyProof.Rows L2
/-- the things at these places -/
def sel {α : Type} (idx : List Nat) (l : List α) : List α := idx.filterMap fun i => l[i]?
theorem paired_at {α β : Type} {R : α → β → Prop} : ∀ {xs : List α} {ys : List β}, Paired R xs ys → ∀ i : Nat, (xs[i]? = none ∧ ys[i]? = none) ∨ ∃ x y, xs[i]? = some x ∧ ys[i]? = some y ∧ R x y
  | _, _, .nil, i => .inl ⟨rfl, rfl⟩
  | _, _, .cons r t, 0 => .inr ⟨_, _, rfl, rfl, r⟩
  | _, _, .cons r t, i + 1 => paired_at t i
theorem paired_sel {α β : Type} {R : α → β → Prop} {xs : List α} {ys : List β} (h : Paired R xs ys) : ∀ idx : List Nat, Paired R (sel idx xs) (sel idx ys)
  | [] => .nil
  | i :: idx => by
    have t := paired_sel h idx
    unfold sel at t ⊢
    rcases paired_at h i with ⟨e1, e2⟩ | ⟨x, y, e1, e2, r⟩
    · rw [List.filterMap_cons_none e1, List.filterMap_cons_none e2]; exact t
    · rw [List.filterMap_cons_some e1, List.filterMap_cons_some e2]; exact .cons r t
/-- n things by place, then by these names; what lacks is the default's. idx: where each parameter's thing stands in the row of all -/
structure KSel (K : PySem.W.Frag) (fd : FuncData) (ps : List Str) (n : Nat) (ks : List Str) (idx : List Nat) (dvs : List V) : Prop where
  ex : ∃ its : List Value, Vals dvs its ∧ ∀ (s : Shared) (us ws : List Value), K.In s.heap → us.length = n → ws.length = ks.length → BindsTo s fd ⟨us, ks.zip ws⟩ (ps.zip (sel idx (us ++ ws ++ its)))
def tCallKS (sp : Sp) (n m : Nat) (idx : List Nat) (dvs : List V) (E : L2.St → XK) (t tk : TA) : TE := fun σ H Q => t σ H fun vs H1 => tk σ H1 fun zs H2 => (vs.length = n ∧ zs.length = m) ∧ sp (sel idx (vs ++ zs ++ dvs)) H2 Q (E σ)
section
variable {X : Cx} {CX : CXT} {k n : Nat} {f : Addr} {fd : FuncData} {ps ks : List Str} {sp : Sp} {idx : List Nat} {dvs : List V} {E : L2.St → XK} {x : Str} {p pos : Pos} {e : Expr} {es : List Expr} {kws : List Keyword} {t tk : TA}
theorem kw_run {pins : List (Addr × Obj)} {σ : L2.St} {H : Hp} {s : Shared} {Q : VK} {us ws : List Value} {vs zs : List V} (F : FnG X.prog X.w X.K X.mg X.base CX k f fd ps sp) (hr : RoomG k X.A) (hb : KSel X.K fd ps n ks idx dvs) (hx : PassesAt CX X σ (E σ))
    (I : Inv X pins σ H s) (r : Vals vs us) (rz : Vals zs ws) (l1 : vs.length = n) (l2 : zs.length = ks.length) (h : sp (sel idx (vs ++ zs ++ dvs)) H Q (E σ)) : wpAny (model X.prog X.w) X.A (call (.ref f) us (ks.zip ws)) (EP X pins σ Q) X.xe s := by
  obtain ⟨its, rd, bind⟩ := hb.ex
  have all : Vals (sel idx (vs ++ zs ++ dvs)) (sel idx (us ++ ws ++ its)) := paired_sel ((r.append rz).append rd) idx
  have b := bind s us ws I.kIn (r.length.symm.trans l1) (rz.length.symm.trans l2)
  refine wpAny_call (codeAny_mono (F.run X.A X.stack s H _ _ _ Q (E σ) hr I.env0 b all h) fun out s' got => ?_)
  match out, got with
  | .error e, got => exact hx pins H s e s' I got
  | .ok (.ret u), got => exact I.after got
/-- by names alone -/
theorem pe_callKS0 (F : FnG X.prog X.w X.K X.mg X.base CX k f fd ps sp) (hr : RoomG k X.A) (hg : Gl X x) (hm : X.mg x = some (.ref f)) (hk : PySem.W.keepIn X.K (.ref f) = true) (hb : KSel X.K fd ps 0 ks idx dvs) (hx : ∀ σ, PassesAt CX X σ (E σ)) (hkw : PK X kws tk)
    (hall : (backToKw pos (keywordEach kws X.env)).all (·.1.isSome) = true := by rfl) (hks : (backToKw pos (keywordEach kws X.env)).filterMap (·.1) = ks := by rfl) (hdb : (x == ("__debug__" : Str)) = false := by decide)
    (hpl : ((backTo pos (starEach [] X.env)).any (·.1) || (backToKw pos (keywordEach kws X.env)).any (·.1.isNone)) = false := by rfl) : PE X (.Call (.Name x p) [] kws pos) (tCallKS sp 0 ks.length idx dvs E tNil tk) :=
  ⟨fun pins s σ H Q I h => wpAny_Call_Name_kw (ld_glob I hg hm (PySem.W.callWith_KW0 (h₀ := X.base) I.ok.mod.kin hk hall (thn (hkw.run pos pins s σ H _ I h) fun ws s2 ⟨zs, H2, I2, rz, ⟨l1, l2⟩, q⟩ => ⟨I2.kIn, by
    rw [hks]
    exact kw_run F hr hb (hx σ) I2 .nil rz l1 l2 q⟩) hpl) hdb)⟩
end
end Hx

/-! A tuple told once. -/
namespace Hx
open PySem PySem.Spec PyProof.Rows L2
theorem once_tuple (l : Addr) (items : Array Value) (n : Nat) (dd : Option Addr) (sl : Array (Option Value)) (u : Tok) :
    Meets (Builtin.«tuple.__mul__» ⟨[.ref l, .int 1 u], []⟩) (fun _ R s => s.heap.get? l = some { cls := .type "tuple", dict := dd, data := .seq items n, slots := sl } ∧ R (.ok (.ret (Value.ref l))) s) :=
  .of_wp fun prog w A R s h => by
    obtain ⟨hp, g, d, tk, os⟩ := s
    obtain ⟨hl, h⟩ := h
    have f1 := AutoSeq1.idx_int
    have c0 : (decide ((1 : Int) < -(2 ^ 63)) || decide ((1 : Int) ≥ 2 ^ 63)) = false := by decide
    have c1 : (items.isEmpty || (1 : Int) == 1) = true := by rw [show ((1 : Int) == 1) = true from rfl, Bool.or_true]
    wp_walk using wpAny_loadPart' hl
    repeat (first
      | (refine wpAny_ite_false (decide_eq_false (by rw [c0]; exact Bool.false_ne_true)) ?_; wp_walk using wpAny_loadPart' hl)
      | (refine wpAny_ite_true (decide_eq_true (by exact c1)) ?_; wp_walk using wpAny_loadPart' hl))
    exact ⟨_, rfl, h⟩
section
variable {X : Cx}
def rOnce (K : PySem.W.Frag) : R2 := fun x y H Q => ∃ l xs, x = .ref l ∧ y = .int 1 ∧ SqT K H l xs ∧ Q (.ref l) H
theorem op_once : OpR X (binaryOp .Mult) (rOnce X.K) := by
  intro pins s σ H x y v u Q I rx ry h
  obtain ⟨l, xs, rfl, rfl, hT, q⟩ := h
  cases rx
  obtain ⟨t, rfl⟩ := ry
  obtain ⟨its, r, ⟨⟨cls, dd, data, sl⟩, ho, hc, n, hd⟩, hs⟩ := I.tuple hT
  simp only at hc hd
  subst hc hd
  refine wpAny_binaryOp_repeat_ref (T := "tuple") (U := "int") (by decide) ⟨_, ho, rfl⟩ (fun s' => typeIs_int s' 1 t) noFill_tuple_mul F.fills_int_mul F.slot_int_rmul repeat_tuple F.slot_int_index.lookup
    (call_meets F.slot_int_rmul (typeIs_int s 1 t) F.entry_int_rmul (F.args_int_rmul_2 _ _) (int_rmul_tuple 1 t l its.toArray n dd sl)
      ⟨ho, rfl, ⟨_, ho, rfl⟩, call_meets F.slot_tuple_mul ⟨_, ho, rfl⟩ F.entry_tuple_mul (F.args_tuple_mul_2 _ _) (once_tuple l its.toArray n dd sl t) ⟨ho, ?_⟩⟩)
  exact ⟨.ref l, H, I, rfl, q⟩
end
end Hx

/-! max and min of a list by a def that tells an int of each. -/
namespace Hx
open PySem PySem.Spec PyProof.Rows L2
section
variable {X : Cx} {k : Nat} {f : Addr} {fd : FuncData} {p : Str} {sp : Sp} {pins : List (Addr × Obj)} {σ : L2.St}
end
end Hx
namespace Hx
open PySem PySem.Spec PyProof.Rows L2
/-! ### max, min of a list of ints -/
section
variable {X : Cx}
end
end Hx

/-! sum of a list of tuples, from a tuple on. -/
namespace Hx
open PySem PySem.Spec PyProof.Rows L2 HT
section
variable {X : Cx} {pins : List (Addr × Obj)} {σ : L2.St}
end
end Hx

/-! Own classes over promises of defs that are called where nothing is being shown: an instance is made, its methods are called. -/
namespace Hx
open PySem PySem.Spec PyProof.Rows L2
theorem RoomG.make {k : Nat} {A : Around} (r : RoomG (k + 1) A) (C : Addr) (us : List Value) (kw : List (Str × Value)) : RoomG k (A.under (.builtin "type.__call__" ⟨.ref C :: us, kw⟩)) := ⟨r.rm.make C us kw, r.gd⟩
section
variable {X : Cx} {CX : CXT} {k : Nat} {f C : Addr} {fd : FuncData} {ps : List Str} {sp : Sp} {dvs : List V} {ds : List Value} {E : L2.St → XK} {x m : Str} {p pos apos : Pos} {o e : Expr} {es : List Expr} {t : TA} {ta : TE}
end
end Hx
namespace Hx
open PySem PySem.Spec PyProof.Rows L2
end Hx

/-! Defs with defaults whose promises are called where nothing is being shown. -/
namespace Hx
open PySem PySem.Spec PyProof.Rows L2
/-- a def whose defaults are the items of the tuple at T -/
structure FunV (K : PySem.W.Frag) (x qual : Str) (st : Stmt) (f : Addr) (fd : FuncData) (T : Addr) (its : Array Value) : Prop where
  ex : ∃ (oc : Value) (od : Option Addr) (kV doc pm : Value) (an : Option Addr) (cdv ct : Value) (osl : Array (Option Value)),
    fd = PySem.W.fnOf x qual (defArgs st) (defBody st) (defScope st) (.ref T) kV doc pm an cdv ct ∧ K.lookup f = some ⟨oc, od, .func fd, osl⟩ ∧ PySem.W.codeIn K cdv qual = true
  dfl : ∃ (o : Obj) (n : Nat), K.lookup T = some o ∧ o.data = .seq its n
  kp : PySem.W.keepIn K (.ref f) = true
/-- what a call binds, where the defaults are looked at -/
theorem FunV.to {K : PySem.W.Frag} {x qual : Str} {st : Stmt} {f T : Addr} {its : Array Value} {fd : FuncData} {args : Args} {bs : List (Str × Value)} {s : Shared} (F : FunV K x qual st f fd T its) (X : K.In s.heap)
    (h : ∃ k, bindArgs fd args = seqItems? (.ref T) >>= k ∧ k (some its) = pure bs) : BindsTo s fd args bs := by
  obtain ⟨o, n, lT, oT⟩ := F.dfl
  obtain ⟨k, e1, e2⟩ := h
  refine BindsTo.of_looks fun M => ?_
  rw [e1]
  exact looks_items X lT oT (.of_pure e2)
end Hx

/-! len of an instance whose class has a __len__ of its own. -/
namespace Hx
open PySem PySem.Spec PyProof.Rows L2
open Builtin
end Hx

/-! sep.join(reversed(xs)), xs a list of texts -/
namespace Hx
open PySem PySem.Spec PyProof.Rows L2 Builtin Builtin.Str
section
variable {prog : Program} {w : World} {A : Around} {E : Value → Shared → Prop} {s : Shared}
end
section
variable {X : Cx}
end
end Hx

/-! min of four ints; min of a list of ints with default. -/
namespace Hx
open PySem PySem.Spec PyProof.Rows L2
section
variable {prog : Program} {w : World} {A : Around} {E : Value → Shared → Prop} {s : Shared}
end
section
variable {X : Cx}
end
end Hx

/-! sorted and min of a list of data of one make. -/
namespace Hx
open PySem PySem.Spec PyProof.Rows L2
section
variable {X : Cx}
end
end Hx

/-! A layer of readings by value over the hand layer: tuples, frozen lists, frozen instances are values; owned lists and instances stand in a store. -/
namespace Dv
open PySem L2

inductive D where
  | non | bl (b : Bool) | int (i : Int) | str (x : Str)
  | tup (xs : List D) | lst (xs : List D) | tupX (xs : List D)
  | inst (C : Str) (ns : List Str) (xs : List D)
  | obj (a : Addr) | ty (n : String)
  | exc (a : Addr) (od : Option Addr) (ns : List Str) (xs : List D)
  | fn (x : Str)
  | hob (o : HO)
  | dct (ks : List Key) (xs : List D)

inductive SO where
  | lst (xs : List D)
  | ins (C : Str) (ns : List Str) (xs : List D)
  | tab (q : Str)

abbrev Sd := Addr → Option SO
def upS (S : Sd) (a : Addr) (o : SO) : Sd := fun b => if b = a then some o else S b
def del (S : Sd) (a : Addr) : Sd := fun b => if b = a then none else S b
theorem upS_same {S : Sd} {a : Addr} {o : SO} : upS S a o a = some o := by unfold upS; rw [if_pos rfl]
theorem upS_ne {S : Sd} {a b : Addr} {o : SO} (h : b ≠ a) : upS S a o b = S b := by unfold upS; rw [if_neg h]
theorem upS_upS {S : Sd} {a : Addr} {o u : SO} : upS (upS S a o) a u = upS S a u := by
  funext b; unfold upS; split <;> rfl
theorem del_same {S : Sd} {a : Addr} : del S a a = none := by unfold del; rw [if_pos rfl]
theorem del_ne {S : Sd} {a b : Addr} (h : b ≠ a) : del S a b = S b := by unfold del; rw [if_neg h]
theorem del_upS {S : Sd} {a : Addr} {o : SO} (h : S a = none) : del (upS S a o) a = S := by
  funext b
  by_cases e : b = a
  · rw [e, del_same, h]
  · rw [del_ne e, upS_ne e]

/-- a list of the written part -/
def KL (K : PySem.W.Frag) (a : Addr) (xs : List V) : Prop :=
  ∃ (o : Obj) (its : Array Value) (n : Nat), K.lookup a = some o ∧ o.cls = .type "list" ∧ o.dict = none ∧ o.data = .seq its n ∧ its.size ≤ sizeLine ∧ Vals xs its.toList

/-- the class that a global of the text names -/
def ClsAt (K : PySem.W.Frag) (n : Str) (C : Addr) : Prop := PySem.W.nsIn K mainGlobals n = some (some (.ref C))
theorem ClsAt.one {K : PySem.W.Frag} {n : Str} {C D : Addr} (h : ClsAt K n C) (g : ClsAt K n D) : C = D := by
  unfold ClsAt at h g
  rw [h] at g
  cases g
  rfl
mutual
def Rp (K : PySem.W.Frag) (H : Hp) (S : Sd) : D → V → Prop
  | .non, v => v = .non
  | .bl b, v => v = .bl b
  | .int i, v => v = .int i
  | .str x, v => v = .str x
  | .tup ds, v => ∃ a vs, v = .ref a ∧ SqT K H a vs ∧ RpL K H S ds vs
  | .lst ds, v => ∃ a vs, v = .ref a ∧ ((Rd H a (.lst vs) ∧ S a = none) ∨ KL K a vs) ∧ RpL K H S ds vs
  | .inst n ns ds, v => ∃ C a dx fs, ClsAt K n C ∧ v = .ref a ∧ H a = some (.ins C dx fs) ∧ S a = none ∧ fs.map Prod.fst = ns ∧ RpL K H S ds (fs.map Prod.snd)
  | .tupX ds, v => ∃ a o vs, v = .ref a ∧ H a = some (.frz o (.tup vs)) ∧ o.dict = none ∧ RpL K H S ds vs
  | .obj a, v => v = .ref a
  | .ty n, v => v = .ty n
  | .fn x, v => ∃ f, v = .ref f ∧ PySem.W.nsIn K mainGlobals x = some (some (.ref f))
  | .hob o, v => ∃ a, v = .ref a ∧ H a = some o ∧ S a = none
  | .dct ks ds, v => ∃ a kvs, v = .ref a ∧ H a = some (.dK kvs) ∧ S a = none ∧ kvs.map Prod.fst = ks ∧ RpL K H S ds (kvs.map Prod.snd)
  | .exc a od ns ds, v => v = .ref a ∧ (od = none → ns = []) ∧ (∀ dx, od = some dx → ∃ fs, H dx = some (.xd fs) ∧ S dx = none ∧ (ns = [] ∨ (fs.map Prod.fst = ns ∧ RpL K H S ds (fs.map Prod.snd))))
def RpL (K : PySem.W.Frag) (H : Hp) (S : Sd) : List D → List V → Prop
  | [], vs => vs = []
  | d :: ds, vs => ∃ v r, vs = v :: r ∧ Rp K H S d v ∧ RpL K H S ds r
end

def SoOk (K : PySem.W.Frag) (H : Hp) (S : Sd) (a : Addr) : SO → Prop
  | .lst ds => ∃ vs, H a = some (.lst vs) ∧ RpL K H S ds vs
  | .ins n ns ds => ∃ C dx fs, ClsAt K n C ∧ H a = some (.ins C dx fs) ∧ fs.map Prod.fst = ns ∧ RpL K H S ds (fs.map Prod.snd)
  | .tab q => LamX.TabS H a q
def RelS (K : PySem.W.Frag) (H : Hp) (S : Sd) : Prop := ∀ a o, S a = some o → SoOk K H S a o
/-- what is not owned stays, and stays not owned -/
def Step (H : Hp) (S : Sd) (H' : Hp) (S' : Sd) : Prop := ∀ a o, H a = some o → S a = none → H' a = some o ∧ S' a = none

section
variable {K : PySem.W.Frag} {H H' H2 : Hp} {S S' S2 : Sd} {a p : Addr} {ds es : List D} {vs ws : List V} {d : D} {v : V}

theorem RelS.some_h (R : RelS K H S) {o : SO} (h : S a = some o) : (∃ vs, H a = some (.lst vs)) ∨ (∃ C dx fs, H a = some (.ins C dx fs)) ∨ ∃ ps, H a = some (.tbl ps) := by
  have x := R a o h
  cases o with
  | lst ds => obtain ⟨vs, e, _⟩ := x; exact .inl ⟨vs, e⟩
  | ins C ns ds => obtain ⟨C, dx, fs, _, e, _⟩ := x; exact .inr (.inl ⟨C, dx, fs, e⟩)
  | tab q => obtain ⟨ps, e, _⟩ := x; exact .inr (.inr ⟨ps, e⟩)
theorem RelS.freeOf (R : RelS K H S) (h1 : ∀ vs, H a ≠ some (.lst vs)) (h2 : ∀ C dx fs, H a ≠ some (.ins C dx fs)) (h3 : ∀ ps, H a ≠ some (.tbl ps)) : S a = none := by
  cases e : S a with
  | none => rfl
  | some o =>
    rcases R.some_h e with ⟨vs, q⟩ | ⟨C, dx, fs, q⟩ | ⟨ps, q⟩
    · exact absurd q (h1 vs)
    · exact absurd q (h2 C dx fs)
    · exact absurd q (h3 ps)
theorem RelS.free (R : RelS K H S) (h : H a = none) : S a = none := R.freeOf (fun _ q => by rw [h] at q; cases q) (fun _ _ _ q => by rw [h] at q; cases q) fun _ q => by rw [h] at q; cases q
theorem RelS.tupFree (R : RelS K H S) (h : H a = some (.tup vs)) : S a = none := R.freeOf (fun _ q => by rw [h] at q; cases q) (fun _ _ _ q => by rw [h] at q; cases q) fun _ q => by rw [h] at q; cases q
theorem RelS.frzFree {o : Obj} {u : HO} (R : RelS K H S) (h : H a = some (.frz o u)) : S a = none := R.freeOf (fun _ q => by rw [h] at q; cases q) (fun _ _ _ q => by rw [h] at q; cases q) fun _ q => by rw [h] at q; cases q
theorem RelS.codeFree {q : Str} (R : RelS K H S) (h : H a = some (LamX.CodeO a q)) : S a = none := R.freeOf (fun _ z => by rw [h] at z; cases z) (fun _ _ _ z => by rw [h] at z; cases z) fun ps z => by rw [h] at z; exact LamX.codeO_ne ps (Option.some.inj z)

theorem Step.refl : Step H S H S := fun _ _ h1 h2 => ⟨h1, h2⟩
theorem Step.trans (s1 : Step H S H' S') (s2 : Step H' S' H2 S2) : Step H S H2 S2 := fun b o h1 h2 =>
  let ⟨q1, q2⟩ := s1 b o h1 h2
  s2 b o q1 q2
theorem step_rdT (R : RelS K H S) (s : Step H S H' S') (h : Rd H a (.tup vs)) : Rd H' a (.tup vs) := by
  rcases h with h | ⟨o, h⟩
  · exact .inl (s a _ h (R.tupFree h)).1
  · exact .inr ⟨o, (s a _ h (R.frzFree h)).1⟩
theorem step_sqT (R : RelS K H S) (s : Step H S H' S') (h : SqT K H a vs) : SqT K H' a vs := by
  rcases h with h | h
  · exact .inl (step_rdT R s h)
  · exact .inr h
theorem step_rdL (s : Step H S H' S') (h : Rd H a (.lst vs)) (n : S a = none) : Rd H' a (.lst vs) ∧ S' a = none := by
  rcases h with h | ⟨o, h⟩
  · exact ⟨.inl (s a _ h n).1, (s a _ h n).2⟩
  · exact ⟨.inr ⟨o, (s a _ h n).1⟩, (s a _ h n).2⟩

mutual
theorem rp_step (R : RelS K H S) (s : Step H S H' S') : ∀ (d : D) (v : V), Rp K H S d v → Rp K H' S' d v
  | .non, v, h => h
  | .bl _, v, h => h
  | .int _, v, h => h
  | .str _, v, h => h
  | .tup ds, v, h => by
    obtain ⟨a, vs, e, q, r⟩ := h
    exact ⟨a, vs, e, step_sqT R s q, rpL_step R s ds vs r⟩
  | .lst ds, v, h => by
    obtain ⟨a, vs, e, q, r⟩ := h
    refine ⟨a, vs, e, ?_, rpL_step R s ds vs r⟩
    rcases q with ⟨q, n⟩ | q
    · exact .inl (step_rdL s q n)
    · exact .inr q
  | .inst C ns ds, v, h => by
    obtain ⟨C, a, dx, fs, c, e, q, n, hn, r⟩ := h
    exact ⟨C, a, dx, fs, c, e, (s a _ q n).1, (s a _ q n).2, hn, rpL_step R s ds _ r⟩
  | .tupX ds, v, h => by
    obtain ⟨a, o, vs, e, q, n, r⟩ := h
    exact ⟨a, o, vs, e, (s a _ q (R.frzFree q)).1, n, rpL_step R s ds vs r⟩
  | .obj _, v, h => h
  | .ty _, v, h => h
  | .fn _, v, h => h
  | .hob o, v, h => by
    obtain ⟨a, e, h1, h2⟩ := h
    exact ⟨a, e, s a _ h1 h2⟩
  | .dct ks ds, v, h => by
    obtain ⟨a, kvs, e, h1, h2, hn, r⟩ := h
    exact ⟨a, kvs, e, (s a _ h1 h2).1, (s a _ h1 h2).2, hn, rpL_step R s ds _ r⟩
  | .exc a od ns ds, v, h => by
    obtain ⟨e, h0, h1⟩ := h
    refine ⟨e, h0, fun dx ed => ?_⟩
    obtain ⟨fs, q, n, r⟩ := h1 dx ed
    exact ⟨fs, (s dx _ q n).1, (s dx _ q n).2, r.imp id fun ⟨e1, r1⟩ => ⟨e1, rpL_step R s ds _ r1⟩⟩
theorem rpL_step (R : RelS K H S) (s : Step H S H' S') : ∀ (ds : List D) (vs : List V), RpL K H S ds vs → RpL K H' S' ds vs
  | [], vs, h => h
  | d :: ds, vs, h => by
    obtain ⟨v, r, e, h1, h2⟩ := h
    exact ⟨v, r, e, rp_step R s d v h1, rpL_step R s ds r h2⟩
end

theorem rpL_nil : RpL K H S [] [] := rfl
theorem rpL_cons (h : Rp K H S d v) (r : RpL K H S ds vs) : RpL K H S (d :: ds) (v :: vs) := ⟨v, vs, rfl, h, r⟩
theorem rpL_len : ∀ {ds : List D} {vs : List V}, RpL K H S ds vs → ds.length = vs.length
  | [], vs, h => by
    have e : vs = [] := h
    rw [e]; rfl
  | d :: ds, vs, h => by
    obtain ⟨v, r, e, _, h2⟩ := h
    rw [e, List.length_cons, List.length_cons, rpL_len h2]
theorem rpL_get : ∀ {ds : List D} {vs : List V} {i : Nat} {d : D}, RpL K H S ds vs → ds[i]? = some d → ∃ v, vs[i]? = some v ∧ Rp K H S d v
  | [], _, i, d, _, e => by simp at e
  | d0 :: ds, vs, 0, d, h, e => by
    obtain ⟨v, r, e1, h1, h2⟩ := h
    simp at e
    subst e e1
    exact ⟨v, by simp, h1⟩
  | d0 :: ds, vs, i + 1, d, h, e => by
    obtain ⟨v, r, e1, h1, h2⟩ := h
    subst e1
    obtain ⟨w, q1, q2⟩ := rpL_get (i := i) h2 (by simpa using e)
    exact ⟨w, by simpa using q1, q2⟩
theorem rpL_app : ∀ {ds : List D} {vs : List V}, RpL K H S ds vs → RpL K H S es ws → RpL K H S (ds ++ es) (vs ++ ws)
  | [], vs, h, k => by
    have e : vs = [] := h
    subst e
    exact k
  | d :: ds, vs, h, k => by
    obtain ⟨v, r, e, h1, h2⟩ := h
    subst e
    exact ⟨v, r ++ ws, rfl, h1, rpL_app h2 k⟩
theorem rpL_take : ∀ {ds : List D} {vs : List V} (n : Nat), RpL K H S ds vs → RpL K H S (ds.take n) (vs.take n)
  | [], vs, n, h => by
    have e : vs = [] := h
    subst e
    simp [RpL]
  | d :: ds, vs, 0, h => by simp [RpL]
  | d :: ds, vs, n + 1, h => by
    obtain ⟨v, r, e, h1, h2⟩ := h
    subst e
    exact ⟨v, r.take n, rfl, h1, rpL_take n h2⟩
theorem rpL_drop : ∀ {ds : List D} {vs : List V} (n : Nat), RpL K H S ds vs → RpL K H S (ds.drop n) (vs.drop n)
  | [], vs, n, h => by
    have e : vs = [] := h
    subst e
    simp [RpL]
  | d :: ds, vs, 0, h => h
  | d :: ds, vs, n + 1, h => by
    obtain ⟨v, r, e, h1, h2⟩ := h
    subst e
    exact rpL_drop n h2
theorem rpL_set : ∀ {ds : List D} {vs : List V} (n : Nat), RpL K H S ds vs → Rp K H S d v → RpL K H S (ds.set n d) (vs.set n v)
  | [], vs, n, h, k => by
    have e : vs = [] := h
    subst e
    simp [RpL]
  | d0 :: ds, vs, 0, h, k => by
    obtain ⟨w, r, e, h1, h2⟩ := h
    subst e
    exact ⟨v, r, rfl, k, h2⟩
  | d0 :: ds, vs, n + 1, h, k => by
    obtain ⟨w, r, e, h1, h2⟩ := h
    subst e
    exact ⟨w, r.set n v, rfl, h1, rpL_set n h2 k⟩
theorem soOk_step (R : RelS K H S) (s : Step H S H' S') {o : SO} (h : SoOk K H S a o) (k : ∀ u, H a = some u → H' a = some u) : SoOk K H' S' a o := by
  cases o with
  | lst ds => obtain ⟨vs, e, r⟩ := h; exact ⟨vs, k _ e, rpL_step R s _ _ r⟩
  | ins C ns ds => obtain ⟨C, dx, fs, c, e, n, r⟩ := h; exact ⟨C, dx, fs, c, k _ e, n, rpL_step R s _ _ r⟩
  | tab q =>
    obtain ⟨ps, e, t, c⟩ := h
    refine ⟨ps, k _ e, t, fun pos cv hc => ?_⟩
    obtain ⟨c', e1, e2⟩ := c pos cv hc
    exact ⟨c', e1, (s c' _ e2 (R.codeFree e2)).1⟩

/-- a new object, not owned -/
theorem step_new {o : HO} (h : H p = none) : Step H S (upd H p o) S := fun b u h1 h2 => ⟨by rw [upd_ne (ne_of_none h1 h)]; exact h1, h2⟩
theorem rel_new {o : HO} (R : RelS K H S) (h : H p = none) : RelS K (upd H p o) S := fun b u e =>
  soOk_step R (step_new h) (R b u e) fun w hw => by rw [upd_ne (ne_of_none hw h)]; exact hw
/-- a new object, owned -/
theorem step_own {o : HO} {u : SO} (h : H p = none) : Step H S (upd H p o) (upS S p u) := fun b w h1 h2 => by
  have n := ne_of_none h1 h
  exact ⟨by rw [upd_ne n]; exact h1, by rw [upS_ne n]; exact h2⟩
theorem rel_own {o : HO} {u : SO} (R : RelS K H S) (h : H p = none) (k : SoOk K (upd H p o) (upS S p u) p u) : RelS K (upd H p o) (upS S p u) := fun b w e => by
  by_cases hb : b = p
  · subst hb
    rw [upS_same] at e
    cases e
    exact k
  · rw [upS_ne hb] at e
    exact soOk_step R (step_own h) (R b w e) fun x hx => by rw [upd_ne hb]; exact hx
/-- an owned object is changed -/
theorem step_set {o : HO} {u u0 : SO} (h : S a = some u0) : Step H S (upd H a o) (upS S a u) := fun b w h1 h2 => by
  have n : b ≠ a := fun e => by rw [e, h] at h2; cases h2
  exact ⟨by rw [upd_ne n]; exact h1, by rw [upS_ne n]; exact h2⟩
theorem rel_set {o : HO} {u u0 : SO} (R : RelS K H S) (h : S a = some u0) (k : SoOk K (upd H a o) (upS S a u) a u) : RelS K (upd H a o) (upS S a u) := fun b w e => by
  by_cases hb : b = a
  · subst hb
    rw [upS_same] at e
    cases e
    exact k
  · rw [upS_ne hb] at e
    exact soOk_step R (step_set h) (R b w e) fun x hx => by rw [upd_ne hb]; exact hx
/-- an owned object is let go -/
theorem step_del : Step H S H (del S a) := fun b w h1 h2 => ⟨h1, by
  by_cases e : b = a
  · rw [e]; exact del_same
  · rw [del_ne e]; exact h2⟩
theorem rel_del (R : RelS K H S) : RelS K H (del S a) := fun b w e => by
  by_cases hb : b = a
  · rw [hb, del_same] at e; cases e
  · rw [del_ne hb] at e
    exact soOk_step R step_del (R b w e) fun x hx => hx
theorem rp_frozen (R : RelS K H S) (h : S a = some (.lst ds)) : Rp K H (del S a) (.lst ds) (.ref a) := by
  obtain ⟨vs, e, r⟩ := R a _ h
  exact ⟨a, vs, rfl, .inl ⟨.inl e, del_same⟩, rpL_step R step_del _ _ r⟩
end

/-! ### the state by values -/
abbrev Si := List (Option D)
abbrev DK := D → Sd → Prop
abbrev TED := Si → Sd → DK → Prop
abbrev TTD := Si → Sd → (Bool → Sd → Prop) → Prop
abbrev TAD := Si → Sd → (List D → Sd → Prop) → Prop
structure EndsD where
  nx : Si → Sd → Prop
  rt : DK
  bk : Si → Sd → Prop := fun _ _ => False
  ct : Si → Sd → Prop := fun _ _ => False
abbrev TSD := EndsD → Si → Sd → Prop
/-- an exception by values: its class, its own fields -/
structure Xd where
  cls : Str
  ns : List Str
  xs : List D
abbrev XKD := Xd → Sd → Prop
abbrev WXD := Xd → Si → Sd → Prop

structure Ok (K : PySem.W.Frag) (H : Hp) (S : Sd) (fr : List (V × D)) (σd : Si) (σ : L2.St) : Prop where
  rel : RelS K H S
  fr : ∀ p ∈ fr, Rp K H S p.2 p.1
  len : σd.length = σ.length
  si : ∀ (i : Nat) (d : D), σd[i]? = some (some d) → ∃ v, σ[i]? = some (some v) ∧ Rp K H S d v
/-- the exception's object: its class by the module's name, its own dict bears its fields -/
def RpX (K : PySem.W.Frag) (H : Hp) (S : Sd) (x : Xd) (cls : Value) (od : Option Addr) : Prop :=
  PySem.W.nsIn K mainGlobals x.cls = some (some cls) ∧ (od = none → x.ns = []) ∧ (∀ dx, od = some dx → ∃ fs, H dx = some (.xd fs) ∧ S dx = none ∧ (x.ns = [] ∨ (fs.map Prod.fst = x.ns ∧ RpL K H S x.xs (fs.map Prod.snd))))
/-- what is wished of exceptions: by the heap, by values -/
structure Wi where
  V : L2.WX
  D : WXD
abbrev W0 : Wi := ⟨fun _ _ _ _ => False, fun _ _ _ => False⟩
def Cl (K : PySem.W.Frag) (W : Wi) (fr : List (V × D)) : Prop := ∀ σd σ H S cls od x, Ok K H S fr σd σ → RpX K H S x cls od → W.D x σd S → W.V cls od σ H
theorem Cl.zero {K : PySem.W.Frag} {fr : List (V × D)} : Cl K W0 fr := fun _ _ _ _ _ _ _ _ _ h => h

section
variable {K : PySem.W.Frag} {H H' : Hp} {S S' : Sd} {fr : List (V × D)} {σd : Si} {σ : L2.St} {d : D} {v : V} {W : Wi}
theorem Ok.step (o : Ok K H S fr σd σ) (s : Step H S H' S') (r : RelS K H' S') : Ok K H' S' fr σd σ :=
  ⟨r, fun p hp => rp_step o.rel s _ _ (o.fr p hp), o.len, fun i d e => let ⟨v, h1, h2⟩ := o.si i d e; ⟨v, h1, rp_step o.rel s _ _ h2⟩⟩
theorem Ok.cons (o : Ok K H S fr σd σ) (h : Rp K H S d v) : Ok K H S ((v, d) :: fr) σd σ :=
  ⟨o.rel, fun p hp => by
    rcases List.mem_cons.mp hp with e | hp
    · rw [e]; exact h
    · exact o.fr p hp, o.len, o.si⟩
theorem Ok.tail {q : V × D} (o : Ok K H S (q :: fr) σd σ) : Ok K H S fr σd σ := ⟨o.rel, fun p hp => o.fr p (List.mem_cons_of_mem _ hp), o.len, o.si⟩
theorem Ok.head {q : V × D} (o : Ok K H S (q :: fr) σd σ) : Rp K H S q.2 q.1 := o.fr q List.mem_cons_self
theorem Ok.set (o : Ok K H S fr σd σ) (h : Rp K H S d v) (i : Nat) : Ok K H S fr (σd.set i (some d)) (σ.set i (some v)) := by
  refine ⟨o.rel, o.fr, by rw [List.length_set, List.length_set]; exact o.len, fun j e q => ?_⟩
  by_cases hj : i = j
  · subst hj
    have hl : i < σd.length := by
      rcases Nat.lt_or_ge i σd.length with z | z
      · exact z
      · have w : (σd.set i (some d))[i]? = none := List.getElem?_eq_none (by rw [List.length_set]; exact z)
        rw [w] at q; cases q
    rw [List.getElem?_set_self hl] at q
    cases q
    exact ⟨v, List.getElem?_set_self (by rw [← o.len]; exact hl), h⟩
  · rw [List.getElem?_set_ne hj] at q
    obtain ⟨w, h1, h2⟩ := o.si j e q
    exact ⟨w, by rw [List.getElem?_set_ne hj]; exact h1, h2⟩
theorem Ok.gone (o : Ok K H S fr σd σ) (i : Nat) (w : Option V) : Ok K H S fr (σd.set i none) (σ.set i w) := by
  refine ⟨o.rel, o.fr, by rw [List.length_set, List.length_set]; exact o.len, fun j e q => ?_⟩
  by_cases hj : i = j
  · subst hj
    rcases Nat.lt_or_ge i σd.length with z | z
    · rw [List.getElem?_set_self z] at q; cases q
    · have w : (σd.set i none)[i]? = none := List.getElem?_eq_none (by rw [List.length_set]; exact z)
      rw [w] at q; cases q
  · rw [List.getElem?_set_ne hj] at q
    obtain ⟨w, h1, h2⟩ := o.si j e q
    exact ⟨w, by rw [List.getElem?_set_ne hj]; exact h1, h2⟩
theorem Cl.tail {q : V × D} (c : Cl K W fr) : Cl K W (q :: fr) := fun σd σ H S cls od x o => c σd σ H S cls od x o.tail

/-! ### readings by values, lifted -/
def upE (K : PySem.W.Frag) (W : Wi) (t : TED) : TE := fun σ H Qv => ∃ σd S fr Qd, Ok K H S fr σd σ ∧ Cl K W fr ∧ t σd S Qd ∧ ∀ v d H' S', Ok K H' S' fr σd σ → Rp K H' S' d v → Qd d S' → Qv v H'
def upT (K : PySem.W.Frag) (W : Wi) (t : TTD) : TT := fun σ H Qv => ∃ σd S fr Qd, Ok K H S fr σd σ ∧ Cl K W fr ∧ t σd S Qd ∧ ∀ b H' S', Ok K H' S' fr σd σ → Qd b S' → Qv b H'
def upA (K : PySem.W.Frag) (W : Wi) (t : TAD) : TA := fun σ H Qv => ∃ σd S fr Qd, Ok K H S fr σd σ ∧ Cl K W fr ∧ t σd S Qd ∧ ∀ vs ds H' S', Ok K H' S' fr σd σ → RpL K H' S' ds vs → Qd ds S' → Qv vs H'
structure EndOk (K : PySem.W.Frag) (fr : List (V × D)) (Dd : EndsD) (D : Ends) : Prop where
  nx : ∀ σd σ H S, Ok K H S fr σd σ → Dd.nx σd S → D.nx σ H
  rt : ∀ v d σd σ H S, Ok K H S fr σd σ → Rp K H S d v → Dd.rt d S → D.rt v H
  bk : ∀ σd σ H S, Ok K H S fr σd σ → Dd.bk σd S → D.bk σ H
  ct : ∀ σd σ H S, Ok K H S fr σd σ → Dd.ct σd S → D.ct σ H
def upSt (K : PySem.W.Frag) (W : Wi) (t : TSD) : TS := fun D σ H => ∃ σd S fr Dd, Ok K H S fr σd σ ∧ Cl K W fr ∧ t Dd σd S ∧ EndOk K fr Dd D
end

theorem PE.imp {X : Cx} {e : Expr} {t t' : TE} (h : PE X e t) (k : ∀ σ H Q, t' σ H Q → t σ H Q) : PE X e t' := ⟨fun pins s σ H Q I q => h.run pins s σ H Q I (k _ _ _ q)⟩
theorem PT.imp {X : Cx} {e : Expr} {t t' : TT} (h : PT X e t) (k : ∀ σ H Q, t' σ H Q → t σ H Q) : PT X e t' := ⟨fun pins s σ H Q I q => h.run pins s σ H Q I (k _ _ _ q)⟩
theorem PW.imp {X : Cx} {e : Expr} {t t' : TT} (h : PW X e t) (k : ∀ σ H Q, t' σ H Q → t σ H Q) : PW X e t' := ⟨fun wh pins s σ H Q I q => h.run wh pins s σ H Q I (k _ _ _ q)⟩
theorem PA.imp {X : Cx} {e : List Expr} {t t' : TA} (h : PA X e t) (k : ∀ σ H Q, t' σ H Q → t σ H Q) : PA X e t' := ⟨fun pos pins s σ H Q I q => h.run pos pins s σ H Q I (k _ _ _ q)⟩
theorem PS.imp {X : Cx} {e : Stmt} {t t' : TS} (h : PS X e t) (k : ∀ D σ H, t' D σ H → t D σ H) : PS X e t' := ⟨fun pins s σ H D I q => h.run pins s σ H D I (k _ _ _ q)⟩
theorem PSs.imp {X : Cx} {e : List Stmt} {t t' : TS} (h : PSs X e t) (k : ∀ D σ H, t' D σ H → t D σ H) : PSs X e t' := ⟨fun pins s σ H D I q => h.run pins s σ H D I (k _ _ _ q)⟩

structure DE (X : Cx) (W : Wi) (e : Expr) (t : TED) : Prop where
  p : PE X e (upE X.K W t)
structure DT (X : Cx) (W : Wi) (e : Expr) (t : TTD) : Prop where
  p : PT X e (upT X.K W t)
structure DW (X : Cx) (W : Wi) (e : Expr) (t : TTD) : Prop where
  p : PW X e (upT X.K W t)
structure DA (X : Cx) (W : Wi) (es : List Expr) (t : TAD) : Prop where
  p : PA X es (upA X.K W t)
structure DS (X : Cx) (W : Wi) (s : Stmt) (t : TSD) : Prop where
  p : PS X s (upSt X.K W t)
structure DB (X : Cx) (W : Wi) (s : List Stmt) (t : TSD) : Prop where
  p : PSs X s (upSt X.K W t)
end Dv

/-! Readings by value, 1: expressions, tests, operators, displays, subscripts. -/
namespace Dv
open PySem L2 PyProof.Rows

theorem sl_eq : sizeLine = 16777216 := sizeLine_eq
theorem sz_le {n : Nat} (h : n ≤ 16777216) : n ≤ sizeLine := by rw [sl_eq]; exact h
theorem sz_lt' {n : Nat} (h : n < 16777216) : n < sizeLine := by rw [sl_eq]; exact h

section
variable {X : Cx} {W : Wi} {a b c e : Expr} {ta tb tc : TED} {tA tB : TTD} {pos : Pos} {es : List Expr}

/-! ### names, constants -/
def dVar (i : Nat) : TED := fun σ S Q => match σ[i]? with
  | some (some d) => Q d S
  | _ => False
theorem dVar_of {i : Nat} {σ : Si} {S : Sd} {Q : DK} {d : D} (h : σ[i]? = some (some d)) : dVar i σ S Q = Q d S := by unfold dVar; rw [h]
theorem dVar_inv {i : Nat} {σ : Si} {S : Sd} {Q : DK} (h : dVar i σ S Q) : ∃ d, σ[i]? = some (some d) ∧ Q d S := by
  unfold dVar at h
  split at h
  · exact ⟨_, by assumption, h⟩
  · exact h.elim
theorem dv (i : Nat) {x : Str} {pos : Pos} (hN : X.N[i]? = some x := by rfl) (hv : Vis X.env.scope x := by first | exact Or.inl rfl | exact Or.inr (Or.inl rfl) | exact Or.inr (Or.inr rfl)) (hd : (x == ("__debug__" : Str)) = false := by decide)
    (hcd : (x == ("__classdict__" : Str)) = false := by decide) : DE X W (.Name x pos) (dVar i) :=
  ⟨PE.imp (pe_var hN hv hd hcd) fun σ H Q ⟨σd, S, fr, Qd, ok, cl, h, k⟩ => by
    obtain ⟨d, e, q⟩ := dVar_inv h
    obtain ⟨v, e2, r⟩ := ok.si i d e
    exact ⟨v, e2, k v d H S ok r q⟩⟩
def dC (d : D) : TED := fun _ S Q => Q d S
theorem de_c {v : V} {d : D} (h : PE X e (tC v)) (r : ∀ H S, Rp X.K H S d v) : DE X W e (dC d) :=
  ⟨PE.imp h fun σ H Q ⟨σd, S, fr, Qd, ok, cl, q, k⟩ => k v d H S ok (r H S) q⟩
theorem de_int {i j pos} : DE X W (.Constant (.int i) j pos) (dC (.int i)) := de_c pe_int fun _ _ => rfl
theorem de_bl {i j pos} : DE X W (.Constant (.bool i) j pos) (dC (.bl i)) := de_c pe_bl fun _ _ => rfl
theorem de_non {j pos} : DE X W (.Constant .none j pos) (dC .non) := de_c pe_non fun _ _ => rfl
theorem de_str {x j pos} : DE X W (.Constant (.str x) j pos) (dC (.str x)) := de_c pe_str fun _ _ => rfl
/-- a module's constant -/
theorem de_k {x : Str} {v : V} {d : D} {u : Value} {pos : Pos} (hg : Gl X x) (hm : X.mg x = some u) (r : RelV v u) (kr : ∀ H S, Rp X.K H S d v) (hd : (x == ("__debug__" : Str)) = false := by decide) : DE X W (.Name x pos) (dC d) := de_c (pe_glob hg hm r hd) kr
/-- a built-in class as a value -/
theorem de_ty {x : Str} {n : String} {pos : Pos} (hg : Gl X x) (hm : X.mg x = none) (hv : bootBuiltins x = some (.type n)) (hn : x ≠ "__name__" := by decide) (hd : (x == ("__debug__" : Str)) = false := by decide) : DE X W (.Name x pos) (dC (.ty n)) :=
  de_c (pe_bltn (v := .ty n) hg hm hv rfl hn hd) fun _ _ => rfl

/-! ### operators -/
abbrev RD2 := D → D → Sd → DK → Prop
def Lift2 (K : PySem.W.Frag) (r : R2) (rd : RD2) : Prop := ∀ H S fr σd σ x y dx dy Qv Qd, Ok K H S fr σd σ → Rp K H S dx x → Rp K H S dy y → rd dx dy S Qd →
  (∀ v d H' S', Ok K H' S' fr σd σ → Rp K H' S' d v → Qd d S' → Qv v H') → r x y H Qv
def OpD (X : Cx) (f : Value → Value → Sem Value) (rd : RD2) : Prop := ∃ r : R2, OpR X f r ∧ Lift2 X.K r rd
def dOp (rd : RD2) (ta tb : TED) : TED := fun σ S Q => ta σ S fun x S1 => tb σ S1 fun y S2 => rd x y S2 Q
theorem op2_lift {r : R2} {rd : RD2} (l : Lift2 X.K r rd) (σ : L2.St) (H : Hp) (Q : VK) (h : upE X.K W (dOp rd ta tb) σ H Q) : tOp r (upE X.K W ta) (upE X.K W tb) σ H Q := by
  obtain ⟨σd, S, fr, Qd, ok, cl, h, k⟩ := h
  refine ⟨σd, S, fr, _, ok, cl, h, fun x dx H1 S1 ok1 r1 h1 => ?_⟩
  refine ⟨σd, S1, (x, dx) :: fr, _, ok1.cons r1, cl.tail, h1, fun y dy H2 S2 ok2 r2 h2 => ?_⟩
  exact l H2 S2 fr σd σ x y dx dy Q Qd ok2.tail ok2.head r2 h2 k
theorem de_op {op : Operator} {rd : RD2} (ho : OpD X (binaryOp op) rd) (ha : DE X W a ta) (hb : DE X W b tb) : DE X W (.BinOp a op b pos) (dOp rd ta tb) := by
  obtain ⟨r, ho, l⟩ := ho
  exact ⟨PE.imp (pe_op ho ha.p hb.p) (op2_lift l)⟩
theorem de_cmp {op : CmpOp} {rd : RD2} (ho : OpD X (compareOp op) rd) (ha : DE X W a ta) (hb : DE X W b tb) (hm : behindInMarks op b = false) : DE X W (.Compare a [op] [b] pos) (dOp rd ta tb) := by
  obtain ⟨r, ho, l⟩ := ho
  exact ⟨PE.imp (pe_cmpR ho ha.p hb.p hm) (op2_lift l)⟩
/-- a value that is a truth, as a test -/
def dTest (t : TED) : TTD := fun σ S Q => t σ S fun x S1 => match x with
  | .bl k => Q k S1
  | _ => False
theorem test_lift {t : TED} (σ : L2.St) (H : Hp) (Q : Bool → Hp → Prop) (h : upT X.K W (dTest t) σ H Q) : tTest (upE X.K W t) σ H Q := by
  obtain ⟨σd, S, fr, Qd, ok, cl, h, k⟩ := h
  refine ⟨σd, S, fr, _, ok, cl, h, fun x dx H1 S1 ok1 r1 h1 => ?_⟩
  cases dx with
  | bl b => exact ⟨b, r1, k b H1 S1 ok1 h1⟩
  | _ => exact (show False from h1).elim
theorem tTest_mono {t t' : TE} (h : ∀ σ H Q, t' σ H Q → t σ H Q) (σ : L2.St) (H : Hp) (Q : Bool → Hp → Prop) (q : tTest t' σ H Q) : tTest t σ H Q := h σ H _ q
theorem dt_cmp {op : CmpOp} {rd : RD2} (ho : OpD X (compareOp op) rd) (ha : DE X W a ta) (hb : DE X W b tb) (hm : behindInMarks op b = false) : DT X W (.Compare a [op] [b] pos) (dTest (dOp rd ta tb)) := by
  obtain ⟨r, ho, l⟩ := ho
  exact ⟨PT.imp (pt_cmpR ho ha.p hb.p hm) fun σ H Q h => tTest_mono (op2_lift l) σ H Q (test_lift σ H Q h)⟩
/-- an expression whose value is a truth, as a test -/
theorem dt_val {t : TED} (h : DE X W e t) (he : ∀ whole, isTrue e X.env whole = (do let v ← whole; standAt e.pos; holding [v] (truthy v)) := by intro _; rfl) : DT X W e (dTest t) :=
  ⟨PT.imp (pt_val h.p he) fun σ H Q q => test_lift σ H Q q⟩
def dUn (rd : D → Sd → DK → Prop) (ta : TED) : TED := fun σ S Q => ta σ S fun x S1 => rd x S1 Q
def Lift1 (K : PySem.W.Frag) (r : V → Hp → VK → Prop) (rd : D → Sd → DK → Prop) : Prop := ∀ H S fr σd σ x dx Qv Qd, Ok K H S fr σd σ → Rp K H S dx x → rd dx S Qd →
  (∀ v d H' S', Ok K H' S' fr σd σ → Rp K H' S' d v → Qd d S' → Qv v H') → r x H Qv
theorem de_un {op : UnaryOp} {r : V → Hp → VK → Prop} {rd : D → Sd → DK → Prop} (ho : UnR X (unaryOp op) r) (l : Lift1 X.K r rd) (ha : DE X W a ta) : DE X W (.UnaryOp op a pos) (dUn rd ta) :=
  ⟨PE.imp (pe_un ho ha.p) fun σ H Q ⟨σd, S, fr, Qd, ok, cl, h, k⟩ => ⟨σd, S, fr, _, ok, cl, h, fun x dx H1 S1 ok1 r1 h1 => l H1 S1 fr σd σ x dx Q Qd ok1 r1 h1 k⟩⟩
def rdNeg : D → Sd → DK → Prop
  | .int i, S, Q => Q (.int (-i)) S
  | _, _, _ => False
theorem de_neg (ha : DE X W a ta) : DE X W (.UnaryOp .USub a pos) (dUn rdNeg ta) := de_un un_neg (fun H S fr σd σ x dx Qv Qd ok r h k => by
  cases dx with
  | int i => exact ⟨i, r, k _ (.int (-i)) H S ok rfl h⟩
  | _ => exact (show False from h).elim) ha

/-! ### and, or, not -/
def dAndV (ta tb : TED) : TED := fun σ S Q => ta σ S fun x S1 => match x with
  | .bl k => if k = true then tb σ S1 Q else Q (.bl false) S1
  | _ => False
def dOrV (ta tb : TED) : TED := fun σ S Q => ta σ S fun x S1 => match x with
  | .bl k => if k = true then Q (.bl true) S1 else tb σ S1 Q
  | _ => False
def dNotV (ta : TED) : TED := fun σ S Q => ta σ S fun x S1 => match x with
  | .bl k => Q (.bl (!k)) S1
  | _ => False
theorem de_one {op : BoolOp} (h : DE X W a ta) : DE X W (.BoolOp op [a] pos) ta := ⟨pe_one h.p⟩
theorem de_and {rest : List Expr} (ha : DE X W a ta) (hb : DE X W (.BoolOp .And (b :: rest) pos) tb) : DE X W (.BoolOp .And (a :: b :: rest) pos) (dAndV ta tb) :=
  ⟨PE.imp (pe_and ha.p hb.p) fun σ H Q ⟨σd, S, fr, Qd, ok, cl, h, k⟩ => ⟨σd, S, fr, _, ok, cl, h, fun x dx H1 S1 ok1 r1 h1 => by
    cases dx with
    | bl b =>
      refine ⟨b, r1, ?_⟩
      cases b with
      | true => exact (if_pos rfl : _ = _) ▸ ⟨σd, S1, fr, Qd, ok1, cl, (show tb σd S1 Qd from by simpa using h1), k⟩
      | false => exact (show Q (.bl false) H1 from k _ (.bl false) H1 S1 ok1 rfl (by simpa using h1))
    | _ => exact (show False from h1).elim⟩⟩
theorem de_not (ha : DE X W a ta) : DE X W (.UnaryOp .Not a pos) (dNotV ta) :=
  ⟨PE.imp (pe_not ha.p) fun σ H Q ⟨σd, S, fr, Qd, ok, cl, h, k⟩ => ⟨σd, S, fr, _, ok, cl, h, fun x dx H1 S1 ok1 r1 h1 => by
    cases dx with
    | bl b => exact ⟨b, r1, k _ (.bl (!b)) H1 S1 ok1 rfl h1⟩
    | _ => exact (show False from h1).elim⟩⟩
def dAnd (t u : TTD) : TTD := fun σ S Q => t σ S fun k S1 => if k = true then u σ S1 Q else Q false S1
def dOr (t u : TTD) : TTD := fun σ S Q => t σ S fun k S1 => if k = true then Q true S1 else u σ S1 Q
def dNot (t : TTD) : TTD := fun σ S Q => t σ S fun k S1 => Q (!k) S1
theorem DW.pt (h : DW X W e tA) : DT X W e tA := ⟨h.p.pt⟩
theorem dw_and1 (ha : DT X W a tA) : DW X W (.BoolOp .And [a] pos) tA := ⟨pw_and1 ha.p⟩
theorem dw_or1 (ha : DT X W a tA) : DW X W (.BoolOp .Or [a] pos) tA := ⟨pw_or1 ha.p⟩
theorem dw_and {rest : List Expr} (ha : DT X W a tA) (hb : DW X W (.BoolOp .And (b :: rest) pos) tB) : DW X W (.BoolOp .And (a :: b :: rest) pos) (dAnd tA tB) :=
  ⟨PW.imp (pw_and ha.p hb.p) fun σ H Q ⟨σd, S, fr, Qd, ok, cl, h, k⟩ => ⟨σd, S, fr, _, ok, cl, h, fun c H1 S1 ok1 h1 => by
    cases c with
    | true => exact (show upT X.K W tB σ H1 Q from ⟨σd, S1, fr, Qd, ok1, cl, (show tB σd S1 Qd from by simpa using h1), k⟩)
    | false => exact (show Q false H1 from k false H1 S1 ok1 (by simpa using h1))⟩⟩
theorem dw_or {rest : List Expr} (ha : DT X W a tA) (hb : DW X W (.BoolOp .Or (b :: rest) pos) tB) : DW X W (.BoolOp .Or (a :: b :: rest) pos) (dOr tA tB) :=
  ⟨PW.imp (pw_or ha.p hb.p) fun σ H Q ⟨σd, S, fr, Qd, ok, cl, h, k⟩ => ⟨σd, S, fr, _, ok, cl, h, fun c H1 S1 ok1 h1 => by
    cases c with
    | false => exact (show upT X.K W tB σ H1 Q from ⟨σd, S1, fr, Qd, ok1, cl, (show tB σd S1 Qd from by simpa using h1), k⟩)
    | true => exact (show Q true H1 from k true H1 S1 ok1 (by simpa using h1))⟩⟩
theorem dt_not (ha : DT X W a tA) : DT X W (.UnaryOp .Not a pos) (dNot tA) :=
  ⟨PT.imp (pt_not ha.p) fun σ H Q ⟨σd, S, fr, Qd, ok, cl, h, k⟩ => ⟨σd, S, fr, _, ok, cl, h, fun c H1 S1 ok1 h1 => k (!c) H1 S1 ok1 h1⟩⟩
def dIf (t : TTD) (ta tb : TED) : TED := fun σ S Q => t σ S fun k S1 => if k = true then ta σ S1 Q else tb σ S1 Q
/-! ### arguments, displays -/
def dNil : TAD := fun _ S Q => Q [] S
def dCons (ta : TED) (tr : TAD) : TAD := fun σ S Q => ta σ S fun x S1 => tr σ S1 fun xs S2 => Q (x :: xs) S2
theorem da_nil : DA X W [] dNil := ⟨PA.imp pa_nil fun σ H Q ⟨σd, S, fr, Qd, ok, cl, h, k⟩ => k [] [] H S ok rfl h⟩
theorem da_cons {tr : TAD} (ha : DE X W a ta) (hr : DA X W es tr) (hs : starEach (a :: es) X.env = (false, eval a X.env) :: starEach es X.env := by rfl) : DA X W (a :: es) (dCons ta tr) :=
  ⟨PA.imp (pa_cons ha.p hr.p hs) fun σ H Q ⟨σd, S, fr, Qd, ok, cl, h, k⟩ => ⟨σd, S, fr, _, ok, cl, h, fun x dx H1 S1 ok1 r1 h1 =>
    ⟨σd, S1, (x, dx) :: fr, _, ok1.cons r1, cl.tail, h1, fun vs ds H2 S2 ok2 r2 h2 => k (x :: vs) (dx :: ds) H2 S2 ok2.tail (rpL_cons ok2.head r2) h2⟩⟩⟩
def dTup (t : TAD) : TED := fun σ S Q => t σ S fun ds S1 => ds.length ≤ 16777216 ∧ Q (.tup ds) S1
def dLst (t : TAD) : TED := fun σ S Q => t σ S fun ds S1 => ds.length ≤ 16777216 ∧ Q (.lst ds) S1
/-- an owned list -/
def dLstO (t : TAD) : TED := fun σ S Q => t σ S fun ds S1 => ds.length ≤ 16777216 ∧ ∀ p, S1 p = none → Q (.obj p) (upS S1 p (.lst ds))
theorem rp_tupNew {K : PySem.W.Frag} {H : Hp} {S : Sd} {p : Addr} {vs : List V} {ds : List D} (R : RelS K H S) (hp : H p = none) (r : RpL K H S ds vs) : Rp K (upd H p (.tup vs)) S (.tup ds) (.ref p) :=
  ⟨p, vs, rfl, SqT.of upd_same, rpL_step R (step_new hp) _ _ r⟩
theorem rp_lstNew {K : PySem.W.Frag} {H : Hp} {S : Sd} {p : Addr} {vs : List V} {ds : List D} (R : RelS K H S) (hp : H p = none) (r : RpL K H S ds vs) : Rp K (upd H p (.lst vs)) S (.lst ds) (.ref p) :=
  ⟨p, vs, rfl, .inl ⟨.inl upd_same, R.free hp⟩, rpL_step R (step_new hp) _ _ r⟩
theorem Ok.new {K : PySem.W.Frag} {H : Hp} {S : Sd} {fr : List (V × D)} {σd : Si} {σ : L2.St} {p : Addr} {o : HO} (ok : Ok K H S fr σd σ) (hp : H p = none) : Ok K (upd H p o) S fr σd σ := ok.step (step_new hp) (rel_new ok.rel hp)
theorem soOk_new {K : PySem.W.Frag} {H : Hp} {S : Sd} {p : Addr} {vs : List V} {ds : List D} (R : RelS K H S) (hp : H p = none) (r : RpL K H S ds vs) : SoOk K (upd H p (.lst vs)) (upS S p (.lst ds)) p (.lst ds) :=
  ⟨vs, upd_same, rpL_step R (step_own hp) _ _ r⟩
theorem Ok.own {K : PySem.W.Frag} {H : Hp} {S : Sd} {fr : List (V × D)} {σd : Si} {σ : L2.St} {p : Addr} {vs : List V} {ds : List D} (ok : Ok K H S fr σd σ) (hp : H p = none) (r : RpL K H S ds vs) :
    Ok K (upd H p (.lst vs)) (upS S p (.lst ds)) fr σd σ := ok.step (step_own hp) (rel_own ok.rel hp (soOk_new ok.rel hp r))
theorem de_tup {x1 : Nat} {t : TAD} (h : DA X W es t) : DE X W (.Tuple es x1 pos) (dTup t) :=
  ⟨PE.imp (pe_tup h.p) fun σ H Q ⟨σd, S, fr, Qd, ok, cl, h, k⟩ => ⟨σd, S, fr, _, ok, cl, h, fun vs ds H1 S1 ok1 r1 h1 => ⟨sz_le (by rw [← rpL_len r1]; exact h1.1), fun p hp =>
    k (.ref p) (.tup ds) _ S1 (ok1.new hp) (rp_tupNew ok1.rel hp r1) h1.2⟩⟩⟩
theorem de_lst {t : TAD} (h : DA X W es t) : DE X W (.List es pos) (dLst t) :=
  ⟨PE.imp (pe_lst h.p) fun σ H Q ⟨σd, S, fr, Qd, ok, cl, h, k⟩ => ⟨σd, S, fr, _, ok, cl, h, fun vs ds H1 S1 ok1 r1 h1 => ⟨sz_le (by rw [← rpL_len r1]; exact h1.1), fun p hp =>
    k (.ref p) (.lst ds) _ S1 (ok1.new hp) (rp_lstNew ok1.rel hp r1) h1.2⟩⟩⟩
theorem de_lstO {t : TAD} (h : DA X W es t) : DE X W (.List es pos) (dLstO t) :=
  ⟨PE.imp (pe_lst h.p) fun σ H Q ⟨σd, S, fr, Qd, ok, cl, h, k⟩ => ⟨σd, S, fr, _, ok, cl, h, fun vs ds H1 S1 ok1 r1 h1 => ⟨sz_le (by rw [← rpL_len r1]; exact h1.1), fun p hp =>
    k (.ref p) (.obj p) _ (upS S1 p (.lst ds)) (ok1.own hp r1) rfl (h1.2 p (ok1.rel.free hp))⟩⟩⟩
end

/-! ### the arithmetic operators -/
/-- the items of a sequence -/
def itemsD (S : Sd) : D → Option (List D)
  | .tup ds => some ds
  | .lst ds => some ds
  | .obj a => match S a with
    | some (.lst ds) => some ds
    | _ => none
  | _ => none
section
variable {K : PySem.W.Frag} {H : Hp} {S : Sd} {fr : List (V × D)} {σd : Si} {σ : L2.St} {d : D} {v : V} {ds : List D}
/-- a list's items by the heap -/
theorem rp_list (R : RelS K H S) (h : Rp K H S (.lst ds) v) : ∃ a vs, v = .ref a ∧ SqL K H a vs ∧ RpL K H S ds vs := by
  obtain ⟨a, vs, e, q, r⟩ := h
  refine ⟨a, vs, e, ?_, r⟩
  rcases q with ⟨q, _⟩ | q
  · exact .inl q
  · exact .inr q
theorem rp_obj (R : RelS K H S) {a : Addr} (e : S a = some (.lst ds)) : ∃ vs, H a = some (.lst vs) ∧ RpL K H S ds vs := R a _ e
theorem rp_items (R : RelS K H S) (h : Rp K H S d v) (e : itemsD S d = some ds) : ∃ a vs, v = .ref a ∧ (SqL K H a vs ∨ SqT K H a vs) ∧ RpL K H S ds vs := by
  cases d with
  | tup xs =>
    cases e
    obtain ⟨a, vs, e, q, r⟩ := h
    exact ⟨a, vs, e, .inr q, r⟩
  | lst xs =>
    cases e
    obtain ⟨a, vs, e, q, r⟩ := rp_list R h
    exact ⟨a, vs, e, .inl q, r⟩
  | obj a =>
    have e' : (match S a with | some (.lst ds) => some ds | _ => none) = some ds := e
    split at e'
    · rename_i xs q
      cases e'
      obtain ⟨vs, q1, q2⟩ := rp_obj R q
      exact ⟨a, vs, h, .inl (.inl (.inl q1)), q2⟩
    · cases e'
  | _ => cases e
end

/-- the items of a list -/
def lstD (S : Sd) : D → Option (List D)
  | .lst ds => some ds
  | .obj a => match S a with
    | some (.lst ds) => some ds
    | _ => none
  | _ => none
theorem rp_lstD {K : PySem.W.Frag} {H : Hp} {S : Sd} {d : D} {v : V} {ds : List D} (R : RelS K H S) (h : Rp K H S d v) (e : lstD S d = some ds) : ∃ a vs, v = .ref a ∧ SqL K H a vs ∧ RpL K H S ds vs := by
  cases d with
  | lst xs =>
    cases e
    exact rp_list R h
  | obj a =>
    have e' : (match S a with | some (.lst ds) => some ds | _ => none) = some ds := e
    split at e'
    · rename_i xs q
      cases e'
      obtain ⟨vs, q1, q2⟩ := rp_obj R q
      exact ⟨a, vs, h, .inl (.inl q1), q2⟩
    · cases e'
  | _ => cases e
def catD (Q : DK) (S : Sd) : Option (List D) → Option (List D) → Prop
  | some a, some b => a.length + b.length ≤ 16777216 ∧ Q (.lst (a ++ b)) S
  | _, _ => False
theorem catD_inv {Q : DK} {S : Sd} : ∀ {o u : Option (List D)}, catD Q S o u → ∃ a b, o = some a ∧ u = some b ∧ a.length + b.length ≤ 16777216 ∧ Q (.lst (a ++ b)) S
  | some a, some b, h => ⟨a, b, rfl, rfl, h.1, h.2⟩
  | none, _, h => h.elim
  | some _, none, h => h.elim
def rdAdd : RD2 := fun x y S Q => match x, y with
  | .int i, .int j => Q (.int (i + j)) S
  | .int i, .bl k => Q (.int (i + b2i k)) S
  | .str x, .str y => x.length + y.length ≤ 16777216 ∧ Q (.str (x ++ y)) S
  | .tup x, .tup y => x.length + y.length ≤ 16777216 ∧ Q (.tup (x ++ y)) S
  | x, y => catD Q S (lstD S x) (lstD S y)
def rdSub : RD2
  | .int i, .int j, S, Q => Q (.int (i - j)) S
  | _, _, _, _ => False
def rdFdiv : RD2
  | .int i, .int j, S, Q => (j ≠ 0 ∧ j.natAbs.log2 < 9000) ∧ Q (.int (i.fdiv j)) S
  | _, _, _, _ => False
def rdMod : RD2
  | .int i, .int j, S, Q => j ≠ 0 ∧ Q (.int (i.fmod j)) S
  | _, _, _, _ => False
def rdPow : RD2
  | .int i, .int j, S, Q => (0 ≤ j ∧ ((i.natAbs.log2 : Int) + 1) * j ≤ 134217728) ∧ Q (.int (i ^ j.toNat)) S
  | _, _, _, _ => False
section
variable {X : Cx}
theorem od_sub : OpD X (binaryOp .Sub) rdSub := ⟨_, op_sub, fun H S fr σd σ x y dx dy Qv Qd ok rx ry h k => by
  cases dx with
  | int i =>
    cases dy with
    | int j => exact ⟨i, j, rx, ry, k _ (.int (i - j)) H S ok rfl h⟩
    | _ => exact (show False from h).elim
  | _ => cases dy <;> exact (show False from h).elim⟩
theorem od_fdiv : OpD X (binaryOp .FloorDiv) rdFdiv := ⟨rI (fun _ j => j ≠ 0 ∧ j.natAbs.log2 < 9000) fun i j => .int (i.fdiv j), opI (fun i j t u s Q E hc q => floordiv_int hc.1 q (.inl (PyProof.noPylong_of_log2 hc.2))), fun H S fr σd σ x y dx dy Qv Qd ok rx ry h k => by
  cases dx with
  | int i =>
    cases dy with
    | int j => exact ⟨i, j, rx, ry, h.1, k _ (.int (i.fdiv j)) H S ok rfl h.2⟩
    | _ => exact (show False from h).elim
  | _ => cases dy <;> exact (show False from h).elim⟩
theorem od_mod : OpD X (binaryOp .Mod) rdMod := ⟨_, op_modN, fun H S fr σd σ x y dx dy Qv Qd ok rx ry h k => by
  cases dx with
  | int i =>
    cases dy with
    | int j => exact ⟨i, j, rx, ry, h.1, k _ (.int (i.fmod j)) H S ok rfl h.2⟩
    | _ => exact (show False from h).elim
  | _ => cases dy <;> exact (show False from h).elim⟩
theorem bits_le (x : Int) : Builtin.Int.intBits x ≤ x.natAbs.log2 + 1 := by
  unfold Builtin.Int.intBits
  split <;> omega
theorem od_pow : OpD X (binaryOp .Pow) rdPow := ⟨rI (fun i j => 0 ≤ j ∧ ((i.natAbs.log2 : Int) + 1) * j ≤ 134217728) fun i j => .int (i ^ j.toNat), opI (fun i j t u s Q E hc q => pow_int hc.1 (by
    have h1 := bits_le i
    have h2 : (Builtin.Int.intBits i : Int) * j ≤ ((i.natAbs.log2 : Int) + 1) * j := Int.mul_le_mul_of_nonneg_right (by omega) hc.1
    have h3 := hc.2
    have h4 : (2 : Int) ^ 27 = 134217728 := by decide
    omega) q), fun H S fr σd σ x y dx dy Qv Qd ok rx ry h k => by
  cases dx with
  | int i =>
    cases dy with
    | int j => exact ⟨i, j, rx, ry, h.1, k _ (.int (i ^ j.toNat)) H S ok rfl h.2⟩
    | _ => exact (show False from h).elim
  | _ => cases dy <;> exact (show False from h).elim⟩
/-- two lists, tracked or not -/
def rCatL (K : PySem.W.Frag) : R2 := fun x y H Q => ∃ l b xs zs, x = .ref l ∧ y = .ref b ∧ SqL K H l xs ∧ SqL K H b zs ∧ xs.length + zs.length ≤ sizeLine ∧ ∀ p, H p = none → Q (.ref p) (upd H p (.lst (xs ++ zs)))
theorem op_catL : OpR X (binaryOp .Add) (rCatL X.K) := by
  intro pins s σ H x y v u Q I rx ry h
  obtain ⟨l, b, xs, zs, rfl, rfl, hH, hB, hz, q⟩ := h
  cases rx
  cases ry
  obtain ⟨its, r, ⟨o1, n1, e1, c1, d1, f1⟩, z1⟩ := I.list hH
  obtain ⟨its2, r2, ⟨o2, n2, e2, c2, d2, f2⟩, z2⟩ := I.list hB
  obtain ⟨cls, dd, data, sl⟩ := o1
  obtain ⟨cls2, dd2, data2, sl2⟩ := o2
  simp only at c1 d1 f1 c2 d2 f2
  subst c1 d1 f1 c2 d2 f2
  have ea : its.toArray ++ its2.toArray = (its ++ its2).toArray := by simp
  have l1 := r.length
  have l2 := r2.length
  refine concat_meets ⟨_, e1, rfl⟩ ⟨_, e2, rfl⟩ noFill_list_add seq_list_add PySem.F.slot_list_add PySem.F.entry_list_add (PySem.F.args_list_add_2 _ _) (list_addW l b its.toArray its2.toArray n1 n2 none none sl sl2 (by simp only [List.size_toArray]; omega)) ⟨e1, e2, ?_⟩
  rw [ea]
  exact ⟨.ref _, _, I.lnew (t' := s.toks) (r.append r2) (by rw [List.length_append]; omega), rfl, q _ I.fresh⟩
theorem od_add : OpD X (binaryOp .Add) rdAdd := by
  refine ⟨_, (op_add (X := X)).or (op_add_ib.or (op_add_str.or (op_catA.or op_catL))), fun H S fr σd σ x y dx dy Qv Qd ok rx ry h k => ?_⟩
  have lists : catD Qd S (lstD S dx) (lstD S dy) → rCatL X.K x y H Qv := fun q => by
    obtain ⟨a, b, h1, h2, h3⟩ := catD_inv q
    obtain ⟨p, vs, e1, q1, r1⟩ := rp_lstD ok.rel rx h1
    obtain ⟨q, ws, e2, q2, r2⟩ := rp_lstD ok.rel ry h2
    exact ⟨p, q, vs, ws, e1, e2, q1, q2, by rw [← rpL_len r1, ← rpL_len r2, sl_eq]; exact h3.1, fun l hl => k _ (.lst (a ++ b)) _ S (ok.new hl) (rp_lstNew ok.rel hl (rpL_app r1 r2)) h3.2⟩
  cases dx with
  | int i =>
    cases dy with
    | int j => exact .inl ⟨i, j, rx, ry, k _ (.int (i + j)) H S ok rfl h⟩
    | bl j => exact .inr (.inl ⟨i, j, rx, ry, k _ (.int (i + b2i j)) H S ok rfl h⟩)
    | _ => exact (show False from h).elim
  | str i =>
    cases dy with
    | str j => exact .inr (.inr (.inl ⟨i, j, rx, ry, by rw [sl_eq]; exact h.1, k _ (.str (i ++ j)) H S ok rfl h.2⟩))
    | _ => exact (show False from h).elim
  | tup xs =>
    cases dy with
    | tup ys =>
      obtain ⟨p, vs, e1, q1, r1⟩ := rx
      obtain ⟨q, ws, e2, q2, r2⟩ := ry
      have h' : xs.length + ys.length ≤ 16777216 ∧ Qd (.tup (xs ++ ys)) S := h
      refine .inr (.inr (.inr (.inl ⟨p, q, vs, ws, e1, e2, q1, q2, by rw [← rpL_len r1, ← rpL_len r2, sl_eq]; exact h'.1, fun e => ?_, fun _ e => ?_, fun _ _ l hl => ?_⟩)))
      · subst e
        have e3 : xs = [] := List.length_eq_zero_iff.mp (rpL_len r1)
        subst e3
        exact k _ (.tup ys) H S ok ⟨q, ws, rfl, q2, r2⟩ h'.2
      · subst e
        have e3 : ys = [] := List.length_eq_zero_iff.mp (rpL_len r2)
        subst e3
        have q := h'.2
        rw [List.append_nil] at q
        exact k _ (.tup xs) H S ok ⟨p, vs, rfl, q1, r1⟩ q
      · exact k _ (.tup (xs ++ ys)) _ S (ok.new hl) (rp_tupNew ok.rel hl (rpL_app r1 r2)) h'.2
    | _ => exact (show False from h).elim
  | lst xs => exact .inr (.inr (.inr (.inr (lists (by cases dy <;> exact h)))))
  | obj p => exact .inr (.inr (.inr (.inr (lists (by cases dy <;> exact h)))))
  | non => exact (by cases dy <;> exact h : False).elim
  | bl b => exact (by cases dy <;> exact h : False).elim
  | tupX ds => exact (by cases dy <;> exact h : False).elim
  | inst C ns ds => exact (by cases dy <;> exact h : False).elim
  | ty n => exact (by cases dy <;> exact h : False).elim
  | exc a od ns xs => exact (by cases dy <;> exact h : False).elim
  | fn x => exact (by cases dy <;> exact h : False).elim
  | hob x => exact (by cases dy <;> exact h : False).elim
  | dct ks xs => exact (by cases dy <;> exact h : False).elim
end
end Dv

/-! Readings by value, 2: equality, order, chains, in, subscripts, slices, calls, built-ins. -/
namespace Dv
open PySem L2 PyProof.Rows

/-! ### plain data -/
mutual
def isData : D → Bool
  | .non => true | .bl _ => true | .int _ => true | .str _ => true
  | .tup ds => isDataL ds
  | .lst ds => isDataL ds
  | _ => false
def isDataL : List D → Bool
  | [] => true
  | d :: ds => isData d && isDataL ds
end
mutual
def pd : D → PyData
  | .bl b => .bool b | .int i => .int i | .str x => .str x
  | .tup ds => .tuple (pdL ds)
  | .lst ds => .list (pdL ds)
  | _ => .none
def pdL : List D → List PyData
  | [] => []
  | d :: ds => pd d :: pdL ds
end
mutual
/-- == of data -/
def deq : D → D → Bool
  | .non, .non => true
  | .bl a, .bl b => a == b
  | .bl a, .int j => (if a then 1 else 0) == j
  | .int i, .bl b => i == (if b then 1 else 0)
  | .int i, .int j => i == j
  | .str x, .str y => x == y
  | .tup xs, .tup ys => deqL xs ys
  | .lst xs, .lst ys => deqL xs ys
  | _, _ => false
def deqL : List D → List D → Bool
  | [], [] => true
  | x :: xs, y :: ys => deq x y && deqL xs ys
  | _, _ => false
end
mutual
theorem eqv_pd : ∀ (x y : D), isData x = true → isData y = true → PyData.eqv (pd x) (pd y) = deq x y
  | .tup xs, y, hx, hy => by
    cases y with
    | tup ys =>
      have h1 : isDataL xs = true := hx
      have h2 : isDataL ys = true := hy
      show PyData.eqvAll (pdL xs) (pdL ys) = deqL xs ys
      exact eqv_pdL xs ys h1 h2
    | tupX _ => exact absurd (show false = true from hy) Bool.false_ne_true
    | inst _ _ _ => exact absurd (show false = true from hy) Bool.false_ne_true
    | obj _ => exact absurd (show false = true from hy) Bool.false_ne_true
    | ty _ => exact absurd (show false = true from hy) Bool.false_ne_true
    | exc _ _ _ _ => exact absurd (show false = true from hy) Bool.false_ne_true
    | fn _ => exact absurd (show false = true from hy) Bool.false_ne_true
    | hob _ => exact absurd (show false = true from hy) Bool.false_ne_true
    | dct _ _ => exact absurd (show false = true from hy) Bool.false_ne_true
    | _ => rfl
  | .lst xs, y, hx, hy => by
    cases y with
    | lst ys =>
      have h1 : isDataL xs = true := hx
      have h2 : isDataL ys = true := hy
      show PyData.eqvAll (pdL xs) (pdL ys) = deqL xs ys
      exact eqv_pdL xs ys h1 h2
    | tupX _ => exact absurd (show false = true from hy) Bool.false_ne_true
    | inst _ _ _ => exact absurd (show false = true from hy) Bool.false_ne_true
    | obj _ => exact absurd (show false = true from hy) Bool.false_ne_true
    | ty _ => exact absurd (show false = true from hy) Bool.false_ne_true
    | exc _ _ _ _ => exact absurd (show false = true from hy) Bool.false_ne_true
    | fn _ => exact absurd (show false = true from hy) Bool.false_ne_true
    | hob _ => exact absurd (show false = true from hy) Bool.false_ne_true
    | dct _ _ => exact absurd (show false = true from hy) Bool.false_ne_true
    | _ => rfl
  | .non, y, hx, hy => by
    cases y with
    | tupX _ => exact absurd (show false = true from hy) Bool.false_ne_true
    | inst _ _ _ => exact absurd (show false = true from hy) Bool.false_ne_true
    | obj _ => exact absurd (show false = true from hy) Bool.false_ne_true
    | ty _ => exact absurd (show false = true from hy) Bool.false_ne_true
    | exc _ _ _ _ => exact absurd (show false = true from hy) Bool.false_ne_true
    | fn _ => exact absurd (show false = true from hy) Bool.false_ne_true
    | hob _ => exact absurd (show false = true from hy) Bool.false_ne_true
    | dct _ _ => exact absurd (show false = true from hy) Bool.false_ne_true
    | _ => rfl
  | .bl _, y, hx, hy => by
    cases y with
    | tupX _ => exact absurd (show false = true from hy) Bool.false_ne_true
    | inst _ _ _ => exact absurd (show false = true from hy) Bool.false_ne_true
    | obj _ => exact absurd (show false = true from hy) Bool.false_ne_true
    | ty _ => exact absurd (show false = true from hy) Bool.false_ne_true
    | exc _ _ _ _ => exact absurd (show false = true from hy) Bool.false_ne_true
    | fn _ => exact absurd (show false = true from hy) Bool.false_ne_true
    | hob _ => exact absurd (show false = true from hy) Bool.false_ne_true
    | dct _ _ => exact absurd (show false = true from hy) Bool.false_ne_true
    | _ => rfl
  | .int _, y, hx, hy => by
    cases y with
    | tupX _ => exact absurd (show false = true from hy) Bool.false_ne_true
    | inst _ _ _ => exact absurd (show false = true from hy) Bool.false_ne_true
    | obj _ => exact absurd (show false = true from hy) Bool.false_ne_true
    | ty _ => exact absurd (show false = true from hy) Bool.false_ne_true
    | exc _ _ _ _ => exact absurd (show false = true from hy) Bool.false_ne_true
    | fn _ => exact absurd (show false = true from hy) Bool.false_ne_true
    | hob _ => exact absurd (show false = true from hy) Bool.false_ne_true
    | dct _ _ => exact absurd (show false = true from hy) Bool.false_ne_true
    | _ => rfl
  | .str _, y, hx, hy => by
    cases y with
    | tupX _ => exact absurd (show false = true from hy) Bool.false_ne_true
    | inst _ _ _ => exact absurd (show false = true from hy) Bool.false_ne_true
    | obj _ => exact absurd (show false = true from hy) Bool.false_ne_true
    | ty _ => exact absurd (show false = true from hy) Bool.false_ne_true
    | exc _ _ _ _ => exact absurd (show false = true from hy) Bool.false_ne_true
    | fn _ => exact absurd (show false = true from hy) Bool.false_ne_true
    | hob _ => exact absurd (show false = true from hy) Bool.false_ne_true
    | dct _ _ => exact absurd (show false = true from hy) Bool.false_ne_true
    | _ => rfl
  | .tupX _, y, hx, hy => absurd (show false = true from hx) Bool.false_ne_true
  | .inst _ _ _, y, hx, hy => absurd (show false = true from hx) Bool.false_ne_true
  | .obj _, y, hx, hy => absurd (show false = true from hx) Bool.false_ne_true
  | .ty _, y, hx, hy => absurd (show false = true from hx) Bool.false_ne_true
  | .exc _ _ _ _, y, hx, hy => absurd (show false = true from hx) Bool.false_ne_true
theorem eqv_pdL : ∀ (xs ys : List D), isDataL xs = true → isDataL ys = true → PyData.eqvAll (pdL xs) (pdL ys) = deqL xs ys
  | [], [], _, _ => rfl
  | [], y :: ys, _, _ => rfl
  | x :: xs, [], _, _ => rfl
  | x :: xs, y :: ys, hx, hy => by
    have h1 := Bool.and_eq_true_iff.mp (show (isData x && isDataL xs) = true from hx)
    have h2 := Bool.and_eq_true_iff.mp (show (isData y && isDataL ys) = true from hy)
    show (PyData.eqv (pd x) (pd y) && PyData.eqvAll (pdL xs) (pdL ys)) = (deq x y && deqL xs ys)
    rw [eqv_pd x y h1.1 h2.1, eqv_pdL xs ys h1.2 h2.2]
end
section
variable {K : PySem.W.Frag} {H : Hp} {S : Sd}
mutual
theorem dp_of (R : RelS K H S) : ∀ (d : D) (v : V), isData d = true → Rp K H S d v → Dp K H v (pd d)
  | .non, v, _, h => by
    have e : v = .non := h
    subst e; exact .non
  | .bl b, v, _, h => by
    have e : v = .bl b := h
    subst e; exact .bl b
  | .int i, v, _, h => by
    have e : v = .int i := h
    subst e; exact .int i
  | .str x, v, _, h => by
    have e : v = .str x := h
    subst e; exact .str x
  | .tup ds, v, k, h => by
    obtain ⟨a, vs, e, q, r⟩ := h
    subst e
    exact .tup q (dp_ofL R ds vs k r)
  | .lst ds, v, k, h => by
    obtain ⟨a, vs, e, q, r⟩ := rp_list R h
    subst e
    exact .lst q (dp_ofL R ds vs k r)
  | .tupX _, v, k, _ => absurd (show false = true from k) Bool.false_ne_true
  | .inst _ _ _, v, k, _ => absurd (show false = true from k) Bool.false_ne_true
  | .obj _, v, k, _ => absurd (show false = true from k) Bool.false_ne_true
  | .ty _, v, k, _ => absurd (show false = true from k) Bool.false_ne_true
  | .exc _ _ _ _, v, k, _ => absurd (show false = true from k) Bool.false_ne_true
theorem dp_ofL (R : RelS K H S) : ∀ (ds : List D) (vs : List V), isDataL ds = true → RpL K H S ds vs → DpAll K H vs (pdL ds)
  | [], vs, _, h => by
    have e : vs = [] := h
    subst e; exact .nil
  | d :: ds, vs, k, h => by
    obtain ⟨v, r, e, h1, h2⟩ := h
    subst e
    have k' := Bool.and_eq_true_iff.mp (show (isData d && isDataL ds) = true from k)
    exact .cons (dp_of R d v k'.1 h1) (dp_ofL R ds r k'.2 h2)
end
end
/-- what == may be asked of -/
def eqOk (d : D) : Bool := isData d && SeqAt.shaped (pd d)
def rdEq : RD2 := fun x y S Q => match x, y with
  | .int i, .int j => Q (.bl (decide (i = j))) S
  | .str i, .str j => Q (.bl (decide (i = j))) S
  | .bl i, .bl j => Q (.bl (decide (i = j))) S
  | x, y => (eqOk x = true ∧ eqOk y = true) ∧ Q (.bl (deq x y)) S
def rdNe : RD2 := fun x y S Q => match x, y with
  | .int i, .int j => Q (.bl (!decide (i = j))) S
  | .str i, .str j => Q (.bl (!decide (i = j))) S
  | .bl i, .bl j => Q (.bl (!decide (i = j))) S
  | x, y => (eqOk x = true ∧ eqOk y = true) ∧ Q (.bl (!deq x y)) S
def rdLt : RD2
  | .int i, .int j, S, Q => Q (.bl (decide (i < j))) S
  | _, _, _, _ => False
def rdLe : RD2
  | .int i, .int j, S, Q => Q (.bl (decide (i ≤ j))) S
  | _, _, _, _ => False
def rdGt : RD2
  | .int i, .int j, S, Q => Q (.bl (decide (j < i))) S
  | _, _, _, _ => False
def rdGe : RD2
  | .int i, .int j, S, Q => Q (.bl (decide (j ≤ i))) S
  | _, _, _, _ => False
def rdIsN : RD2
  | x, .non, S, Q => Q (.bl (match x with | .non => true | _ => false)) S
  | _, _, _, _ => False
def rdNotN : RD2
  | x, .non, S, Q => Q (.bl (match x with | .non => false | _ => true)) S
  | _, _, _, _ => False
section
variable {X : Cx}
theorem ordI {f : Value → Value → Sem Value} {g : Int → Int → Bool} {rd : RD2} (ho : OpR X f (rI0 fun i j => .bl (g i j))) (h : ∀ x y S Q, rd x y S Q → ∃ i j, x = .int i ∧ y = .int j ∧ Q (.bl (g i j)) S) : OpD X f rd :=
  ⟨_, ho, fun H S fr σd σ x y dx dy Qv Qd ok rx ry q k => by
    obtain ⟨i, j, rfl, rfl, q'⟩ := h dx dy S Qd q
    exact ⟨i, j, rx, ry, k _ (.bl (g i j)) H S ok rfl q'⟩⟩
theorem od_lt : OpD X (compareOp .Lt) rdLt := ordI op_lt fun x y S Q h => by
  cases x with
  | int i => cases y with
    | int j => exact ⟨i, j, rfl, rfl, h⟩
    | _ => exact (show False from h).elim
  | _ => cases y <;> exact (show False from h).elim
theorem od_le : OpD X (compareOp .LtE) rdLe := ordI op_le fun x y S Q h => by
  cases x with
  | int i => cases y with
    | int j => exact ⟨i, j, rfl, rfl, h⟩
    | _ => exact (show False from h).elim
  | _ => cases y <;> exact (show False from h).elim
theorem od_gt : OpD X (compareOp .Gt) rdGt := ordI op_gt fun x y S Q h => by
  cases x with
  | int i => cases y with
    | int j => exact ⟨i, j, rfl, rfl, h⟩
    | _ => exact (show False from h).elim
  | _ => cases y <;> exact (show False from h).elim
theorem eq_lift {K : PySem.W.Frag} : Lift2 K (fun x y H Q => rEq x y H Q ∨ rEqD K x y H Q) rdEq := fun H S fr σd σ x y dx dy Qv Qd ok rx ry h k => by
  have gen : (eqOk dx = true ∧ eqOk dy = true) ∧ Qd (.bl (deq dx dy)) S → rEqD K x y H Qv := fun ⟨⟨h1, h2⟩, q⟩ => by
    have a1 := Bool.and_eq_true_iff.mp h1
    have a2 := Bool.and_eq_true_iff.mp h2
    refine ⟨pd dx, pd dy, dp_of ok.rel dx x a1.1 rx, dp_of ok.rel dy y a2.1 ry, a1.2, a2.2, ?_⟩
    rw [eqv_pd dx dy a1.1 a2.1]
    exact k _ (.bl (deq dx dy)) H S ok rfl q
  cases dx with
  | int i => cases dy with
    | int j =>
      have e1 : x = .int i := rx
      have e2 : y = .int j := ry
      subst e1 e2
      refine .inl ⟨rfl, ?_⟩
      refine k _ (.bl (decide (i = j))) H S ok ?_ h
      show V.bl _ = V.bl _
      congr 1
      simp
    | _ => exact .inr (gen h)
  | str i => cases dy with
    | str j =>
      have e1 : x = .str i := rx
      have e2 : y = .str j := ry
      subst e1 e2
      refine .inl ⟨rfl, ?_⟩
      refine k _ (.bl (decide (i = j))) H S ok ?_ h
      show V.bl _ = V.bl _
      congr 1
      simp
    | _ => exact .inr (gen h)
  | bl i => cases dy with
    | bl j =>
      have e1 : x = .bl i := rx
      have e2 : y = .bl j := ry
      subst e1 e2
      refine .inl ⟨rfl, ?_⟩
      refine k _ (.bl (decide (i = j))) H S ok ?_ h
      show V.bl _ = V.bl _
      congr 1
      simp
    | _ => exact .inr (gen h)
  | _ => exact .inr (gen (by cases dy <;> exact h))
theorem ne_lift {K : PySem.W.Frag} : Lift2 K (fun x y H Q => rNe x y H Q ∨ rNeD K x y H Q) rdNe := fun H S fr σd σ x y dx dy Qv Qd ok rx ry h k => by
  have gen : (eqOk dx = true ∧ eqOk dy = true) ∧ Qd (.bl (!deq dx dy)) S → rNeD K x y H Qv := fun ⟨⟨h1, h2⟩, q⟩ => by
    have a1 := Bool.and_eq_true_iff.mp h1
    have a2 := Bool.and_eq_true_iff.mp h2
    refine ⟨pd dx, pd dy, dp_of ok.rel dx x a1.1 rx, dp_of ok.rel dy y a2.1 ry, a1.2, a2.2, ?_⟩
    rw [eqv_pd dx dy a1.1 a2.1]
    exact k _ (.bl (!deq dx dy)) H S ok rfl q
  cases dx with
  | int i => cases dy with
    | int j =>
      have e1 : x = .int i := rx
      have e2 : y = .int j := ry
      subst e1 e2
      refine .inl ⟨rfl, ?_⟩
      refine k _ (.bl (!decide (i = j))) H S ok ?_ h
      show V.bl _ = V.bl _
      congr 1
      simp
    | _ => exact .inr (gen h)
  | str i => cases dy with
    | str j =>
      have e1 : x = .str i := rx
      have e2 : y = .str j := ry
      subst e1 e2
      refine .inl ⟨rfl, ?_⟩
      refine k _ (.bl (!decide (i = j))) H S ok ?_ h
      show V.bl _ = V.bl _
      congr 1
      simp
    | _ => exact .inr (gen h)
  | bl i => cases dy with
    | bl j =>
      have e1 : x = .bl i := rx
      have e2 : y = .bl j := ry
      subst e1 e2
      refine .inl ⟨rfl, ?_⟩
      refine k _ (.bl (!decide (i = j))) H S ok ?_ h
      show V.bl _ = V.bl _
      congr 1
      simp
    | _ => exact .inr (gen h)
  | _ => exact .inr (gen (by cases dy <;> exact h))
theorem od_eq (hu : X.A.units + 64 < cLine) : OpD X (compareOp .Eq) rdEq := ⟨_, op_eq.or (op_eqD hu), eq_lift⟩
theorem od_ne (hu : X.A.units + 64 < cLine) : OpD X (compareOp .NotEq) rdNe := ⟨_, op_ne.or (op_neD hu), ne_lift⟩
end

/-! ### chains of comparisons -/
section
variable {X : Cx} {W : Wi} {a b c d e : Expr} {ta tb tc td : TED} {pos : Pos}
def dChain (r r' : RD2) (ta tb tc : TED) : TED := fun σ S Q => ta σ S fun x S1 => tb σ S1 fun y S2 => r x y S2 fun z S3 => match z with
  | .bl k => if k = true then tc σ S3 fun w S4 => r' y w S4 Q else Q (.bl false) S3
  | _ => False
theorem chain_lift {r r' : R2} {rd rd' : RD2} (l : Lift2 X.K r rd) (l' : Lift2 X.K r' rd') (σ : L2.St) (H : Hp) (Q : VK) (h : upE X.K W (dChain rd rd' ta tb tc) σ H Q) : tChain r r' (upE X.K W ta) (upE X.K W tb) (upE X.K W tc) σ H Q := by
  obtain ⟨σd, S, fr, Qd, ok, cl, h, k⟩ := h
  refine ⟨σd, S, fr, _, ok, cl, h, fun x dx H1 S1 ok1 r1 h1 => ?_⟩
  refine ⟨σd, S1, (x, dx) :: fr, _, ok1.cons r1, cl.tail, h1, fun y dy H2 S2 ok2 r2 h2 => ?_⟩
  refine l H2 S2 ((y, dy) :: fr) σd σ x y dx dy _ _ (ok2.tail.cons r2) ok2.head r2 h2 fun z dz H3 S3 ok3 r3 h3 => ?_
  cases dz with
  | bl k0 =>
    refine ⟨k0, r3, ?_⟩
    cases k0 with
    | true =>
      exact (show upE X.K W tc σ H3 (fun w' H4 => r' y w' H4 Q) from ⟨σd, S3, (y, dy) :: fr, _, ok3, cl.tail, (show tc σd S3 _ from by simpa using h3), fun w dw H4 S4 ok4 r4 h4 =>
        l' H4 S4 fr σd σ y w dy dw Q Qd ok4.tail ok4.head r4 h4 k⟩)
    | false => exact (show Q (.bl false) H3 from k _ (.bl false) H3 S3 ok3.tail rfl (by simpa using h3))
  | _ => exact (show False from h3).elim
theorem dt_chain {op op' : CmpOp} {rd rd' : RD2} (ho : OpD X (compareOp op) rd) (ho' : OpD X (compareOp op') rd') (ha : DE X W a ta) (hb : DE X W b tb) (hc : DE X W c tc)
    (hm : lastMarks [op, op'] [b, c] = false := by with_unfolding_all rfl) : DT X W (.Compare a [op, op'] [b, c] pos) (dTest (dChain rd rd' ta tb tc)) := by
  obtain ⟨r, ho, l⟩ := ho
  obtain ⟨r', ho', l'⟩ := ho'
  exact ⟨PT.imp (pt_chain ho ho' ha.p hb.p hc.p hm) fun σ H Q h => tTest_mono (chain_lift l l') σ H Q (test_lift σ H Q h)⟩
/-- three comparisons -/
def tChain3 (r r' r2 : R2) (ta tb tc td : TE) : TE := fun σ H Q => ta σ H fun x H1 => tb σ H1 fun y H2 => r x y H2 fun z H3 => ∃ k, z = .bl k ∧
  (if k = true then tc σ H3 fun w H4 => r' y w H4 fun z2 H5 => ∃ k2, z2 = .bl k2 ∧ (if k2 = true then td σ H5 fun w2 H6 => r2 w w2 H6 Q else Q (.bl false) H5) else Q (.bl false) H3)
theorem pe_chain3 {op op' op2 : CmpOp} {r r' r2 : R2} {ta tb tc td : TE} (ho : OpR X (compareOp op) r) (ho' : OpR X (compareOp op') r') (ho2 : OpR X (compareOp op2) r2) (ha : PE X a ta) (hb : PE X b tb) (hc : PE X c tc) (hd : PE X d td)
    (hm : lastMarks [op, op', op2] [b, c, d] = false := by with_unfolding_all rfl) : PE X (.Compare a [op, op', op2] [b, c, d] pos) (tChain3 r r' r2 ta tb tc td) := by
  refine ⟨fun pins s σ H Q I h => ?_⟩
  refine Compare_chain (thn (ha.run pins s σ H _ I h) fun v s1 ⟨x, H1, I1, r1, q1⟩ => chain_link (thn (hb.run pins s1 σ H1 _ I1 q1) fun u s2 ⟨y, H2, I2, r2, q2⟩ =>
    thn (ho pins s2 σ H2 x y v u _ I2 r1 r2 q2) fun d s3 ⟨z, H3, I3, r3, k, e, q3⟩ => ?_)) hm
  subst e
  cases r3
  refine wpAny_truthy_bool ?_
  cases k with
  | false => exact ite_ff ⟨.bl false, H3, I3, rfl, q3⟩
  | true =>
    refine ite_tt (chain_link (thn (hc.run pins s3 σ H3 _ I3 q3) fun w' s4 ⟨z', H4, I4, r4, q4⟩ => thn (ho' pins s4 σ H4 y z' u w' _ I4 r2 r4 q4) fun d5 s5 ⟨z5, H5, I5, r5, k5, e5, q5⟩ => ?_))
    subst e5
    cases r5
    refine wpAny_truthy_bool ?_
    cases k5 with
    | false => exact ite_ff ⟨.bl false, H5, I5, rfl, q5⟩
    | true => exact ite_tt (chain_last (thn (hd.run pins s5 σ H5 _ I5 q5) fun w6 s6 ⟨z6, H6, I6, r6, q6⟩ => ho2 pins s6 σ H6 z' z6 w' w6 Q I6 r4 r6 q6))
def dChain3 (r r' r2 : RD2) (ta tb tc td : TED) : TED := fun σ S Q => ta σ S fun x S1 => tb σ S1 fun y S2 => r x y S2 fun z S3 => match z with
  | .bl k => if k = true then tc σ S3 fun w S4 => r' y w S4 fun z2 S5 => match z2 with
      | .bl k2 => if k2 = true then td σ S5 fun w2 S6 => r2 w w2 S6 Q else Q (.bl false) S5
      | _ => False
    else Q (.bl false) S3
  | _ => False
theorem de_chain3 {op op' op2 : CmpOp} {rd rd' rd2 : RD2} (ho : OpD X (compareOp op) rd) (ho' : OpD X (compareOp op') rd') (ho2 : OpD X (compareOp op2) rd2) (ha : DE X W a ta) (hb : DE X W b tb) (hc : DE X W c tc) (hd : DE X W d td)
    (hm : lastMarks [op, op', op2] [b, c, d] = false := by with_unfolding_all rfl) : DE X W (.Compare a [op, op', op2] [b, c, d] pos) (dChain3 rd rd' rd2 ta tb tc td) := by
  obtain ⟨r, ho, l⟩ := ho
  obtain ⟨r', ho', l'⟩ := ho'
  obtain ⟨r2, ho2, l2⟩ := ho2
  refine ⟨PE.imp (pe_chain3 ho ho' ho2 ha.p hb.p hc.p hd.p hm) fun σ H Q h => ?_⟩
  obtain ⟨σd, S, fr, Qd, ok, cl, h, k⟩ := h
  refine ⟨σd, S, fr, _, ok, cl, h, fun x dx H1 S1 ok1 r1 h1 => ?_⟩
  refine ⟨σd, S1, (x, dx) :: fr, _, ok1.cons r1, cl.tail, h1, fun y dy H2 S2 ok2 r2 h2 => ?_⟩
  refine l H2 S2 ((y, dy) :: fr) σd σ x y dx dy _ _ (ok2.tail.cons r2) ok2.head r2 h2 fun z dz H3 S3 ok3 r3 h3 => ?_
  cases dz with
  | bl k0 =>
    refine ⟨k0, r3, ?_⟩
    cases k0 with
    | true =>
      refine (show upE X.K W tc σ H3 _ from ⟨σd, S3, (y, dy) :: fr, _, ok3, cl.tail, (show tc σd S3 _ from (by simpa using h3)), fun w dw H4 S4 ok4 r4 h4 => ?_⟩)
      refine l' H4 S4 ((w, dw) :: fr) σd σ y w dy dw _ _ (ok4.tail.cons r4) ok4.head r4 h4 fun z2 dz2 H5 S5 ok5 r5 h5 => ?_
      cases dz2 with
      | bl k2 =>
        refine ⟨k2, r5, ?_⟩
        cases k2 with
        | true =>
          exact (show upE X.K W td σ H5 _ from ⟨σd, S5, (w, dw) :: fr, _, ok5, cl.tail, (show td σd S5 _ from (by simpa using h5)), fun w2 dw2 H6 S6 ok6 r6 h6 =>
            l2 H6 S6 fr σd σ w w2 dw dw2 Q Qd ok6.tail ok6.head r6 h6 k⟩)
        | false => exact (show Q (.bl false) H5 from k _ (.bl false) H5 S5 ok5.tail rfl (by simpa using h5))
      | _ => exact (show False from h5).elim
    | false => exact (show Q (.bl false) H3 from k _ (.bl false) H3 S3 ok3.tail rfl (by simpa using h3))
  | _ => exact (show False from h3).elim
end

/-! ### subscripts, slices -/
def ixQ (S : Sd) (Q : DK) : Option D → Prop
  | some d => Q d S
  | none => False
def ixS (S : Sd) (Q : DK) : Option Nat → Prop
  | some c => Q (.str ⟨#[c]⟩) S
  | none => False
def rdIx : RD2
  | .tup ds, .int i, S, Q => ixQ S Q (atI ds i)
  | .lst ds, .int i, S, Q => ixQ S Q (atI ds i)
  | .obj a, .int i, S, Q => match S a with
    | some (.lst ds) => ixQ S Q (atI ds i)
    | _ => False
  | .str z, .int i, S, Q => z.length ≤ 16777216 ∧ ixS S Q (atI z.cps.toList i)
  | _, _, _, _ => False
theorem ixQ_inv {S : Sd} {Q : DK} {o : Option D} (h : ixQ S Q o) : ∃ d, o = some d ∧ Q d S := by
  cases o with
  | none => exact h.elim
  | some d => exact ⟨d, rfl, h⟩
theorem atI_rp {K : PySem.W.Frag} {H : Hp} {S : Sd} {ds : List D} {vs : List V} {i : Int} {d : D} (r : RpL K H S ds vs) (h : atI ds i = some d) : ∃ v, atI vs i = some v ∧ Rp K H S d v := by
  unfold atI at h ⊢
  rw [← rpL_len r]
  cases e : ixN ds.length i with
  | none => rw [e] at h; cases h
  | some j =>
    rw [e] at h
    exact rpL_get r h
section
variable {X : Cx} {W : Wi} {a b e : Expr} {ta tb te : TED} {pos p2 : Pos}
theorem ix_lift {K : PySem.W.Frag} : Lift2 K (rIx K) rdIx := fun H S fr σd σ x y dx dy Qv Qd ok rx ry h k => by
  cases dy with
  | int i =>
    cases dx with
    | tup ds =>
      obtain ⟨d, e, q⟩ := ixQ_inv h
      obtain ⟨p, vs, e1, q1, r1⟩ := rx
      obtain ⟨v, e2, r2⟩ := atI_rp r1 e
      exact .inr (.inl ⟨p, vs, i, v, e1, ry, q1, e2, k v d H S ok r2 q⟩)
    | lst ds =>
      obtain ⟨d, e, q⟩ := ixQ_inv h
      obtain ⟨p, vs, e1, q1, r1⟩ := rp_list ok.rel rx
      obtain ⟨v, e2, r2⟩ := atI_rp r1 e
      exact .inl ⟨p, vs, i, v, e1, ry, q1, e2, k v d H S ok r2 q⟩
    | obj p =>
      have h' : (match S p with | some (.lst ds) => ixQ S Qd (atI ds i) | _ => False) := h
      split at h'
      · rename_i ds q0
        obtain ⟨d, e, q⟩ := ixQ_inv h'
        obtain ⟨vs, q1, r1⟩ := rp_obj ok.rel q0
        obtain ⟨v, e2, r2⟩ := atI_rp r1 e
        exact .inl ⟨p, vs, i, v, rx, ry, SqL.of q1, e2, k v d H S ok r2 q⟩
      · exact h'.elim
    | str z =>
      have h' : z.length ≤ 16777216 ∧ ixS S Qd (atI z.cps.toList i) := h
      cases e : atI z.cps.toList i with
      | none => rw [e] at h'; exact h'.2.elim
      | some c =>
        rw [e] at h'
        exact .inr (.inr ⟨z, i, c, rx, ry, sz_le h'.1, e, k _ (.str ⟨#[c]⟩) H S ok rfl h'.2⟩)
    | _ => exact (show False from h).elim
  | _ => cases dx <;> exact (show False from h).elim
theorem de_ix (ha : DE X W a ta) (hb : DE X W b tb) (hs : PlainIx b) : DE X W (.Subscript a b pos) (dOp rdIx ta tb) := ⟨PE.imp (pe_ix ix_seq ha.p hb.p hs) (op2_lift ix_lift)⟩
abbrev TOD := Si → Sd → (Option Int → Sd → Prop) → Prop
def upO (K : PySem.W.Frag) (W : Wi) (t : TOD) : TO := fun σ H Qv => ∃ σd S fr Qd, Ok K H S fr σd σ ∧ Cl K W fr ∧ t σd S Qd ∧ ∀ o H' S', Ok K H' S' fr σd σ → Qd o S' → Qv o H'
structure DO (X : Cx) (W : Wi) (e : Option Expr) (t : TOD) : Prop where
  p : PO X e (upO X.K W t)
def dNoPart : TOD := fun _ S Q => Q none S
def dPart (t : TED) : TOD := fun σ S Q => t σ S fun x S1 => match x with
  | .int i => Q (some i) S1
  | _ => False
theorem PO.imp {e : Option Expr} {t t' : TO} (h : PO X e t) (k : ∀ σ H Q, t' σ H Q → t σ H Q) : PO X e t' := ⟨fun pins s σ H Q I q => h.run pins s σ H Q I (k _ _ _ q)⟩
theorem do_none : DO X W none dNoPart := ⟨PO.imp po_none fun σ H Q ⟨σd, S, fr, Qd, ok, cl, h, k⟩ => k none H S ok h⟩
theorem do_some (h : DE X W e te) : DO X W (some e) (dPart te) := ⟨PO.imp (po_some h.p) fun σ H Q ⟨σd, S, fr, Qd, ok, cl, h, k⟩ => ⟨σd, S, fr, _, ok, cl, h, fun x dx H1 S1 ok1 r1 h1 => by
  cases dx with
  | int i => exact ⟨i, r1, k (some i) H1 S1 ok1 h1⟩
  | _ => exact (show False from h1).elim⟩⟩
def cutD (xs : List D) (lo hi : Option Int) : List D := (xs.drop (HT.sIx xs.length 0 lo)).take (HT.sIx xs.length xs.length hi - HT.sIx xs.length 0 lo)
def rdSl : D → Option Int → Option Int → Sd → DK → Prop
  | .tup ds, lo, hi, S, Q => Q (.tup (cutD ds lo hi)) S
  | .lst ds, lo, hi, S, Q => Q (.lst (cutD ds lo hi)) S
  | .obj a, lo, hi, S, Q => match S a with
    | some (.lst ds) => Q (.lst (cutD ds lo hi)) S
    | _ => False
  | .str z, lo, hi, S, Q => z.length ≤ 16777216 ∧ Q (.str (cutS z lo hi)) S
  | _, _, _, _, _ => False
def dSl (te : TED) (tl th : TOD) : TED := fun σ S Q => te σ S fun x S1 => tl σ S1 fun l S2 => th σ S2 fun u S3 => rdSl x l u S3 Q
theorem cut_rp {K : PySem.W.Frag} {H : Hp} {S : Sd} {ds : List D} {vs : List V} {lo hi : Option Int} (r : RpL K H S ds vs) : RpL K H S (cutD ds lo hi) (cutV vs lo hi) := by
  unfold cutD cutV
  rw [← rpL_len r]
  exact rpL_take _ (rpL_drop _ r)
theorem de_slice {lo hi : Option Expr} {tl th : TOD} (he : DE X W e te) (hl : DO X W lo tl) (hu : DO X W hi th) : DE X W (.Subscript e (.Slice lo hi none p2) pos) (dSl te tl th) :=
  ⟨PE.imp (pe_slice (sl_list.or (sl_tupA.or sl_str)) he.p hl.p hu.p) fun σ H Q ⟨σd, S, fr, Qd, ok, cl, h, k⟩ => ⟨σd, S, fr, _, ok, cl, h, fun x dx H1 S1 ok1 r1 h1 =>
    ⟨σd, S1, (x, dx) :: fr, _, ok1.cons r1, cl.tail, h1, fun l H2 S2 ok2 h2 => ⟨σd, S2, (x, dx) :: fr, _, ok2, cl.tail, h2, fun u H3 S3 ok3 h3 => by
      have rx := ok3.head
      have ok4 := ok3.tail
      cases dx with
      | lst ds =>
        obtain ⟨p, vs, e1, q1, r1⟩ := rp_list ok4.rel rx
        exact .inl ⟨p, vs, e1, q1, fun p hp => k _ (.lst (cutD ds l u)) _ S3 (ok4.new hp) (rp_lstNew ok4.rel hp (cut_rp r1)) h3⟩
      | obj p =>
        have h' : (match S3 p with | some (.lst ds) => Qd (.lst (cutD ds l u)) S3 | _ => False) := h3
        split at h'
        · rename_i ds q0
          obtain ⟨vs, q1, r1⟩ := rp_obj ok4.rel q0
          exact .inl ⟨p, vs, rx, SqL.of q1, fun p hp => k _ (.lst (cutD ds l u)) _ S3 (ok4.new hp) (rp_lstNew ok4.rel hp (cut_rp r1)) h'⟩
        · exact h'.elim
      | tup ds =>
        obtain ⟨p, vs, e1, q1, r1⟩ := rx
        refine .inr (.inl ⟨p, vs, e1, q1, fun hw => ?_, fun _ p hp => k _ (.tup (cutD ds l u)) _ S3 (ok4.new hp) (rp_tupNew ok4.rel hp (cut_rp r1)) h3⟩)
        have e2 : cutD ds l u = ds := by
          unfold cutD
          rw [rpL_len r1, hw.1, hw.2, List.drop_zero, Nat.sub_zero, ← rpL_len r1, List.take_length]
        have h' : Qd (.tup (cutD ds l u)) S3 := h3
        rw [e2] at h'
        exact k _ (.tup ds) H3 S3 ok4 ⟨p, vs, rfl, q1, r1⟩ h'
      | str z =>
        have h' : z.length ≤ 16777216 ∧ Qd (.str (cutS z l u)) S3 := h3
        exact .inr (.inr ⟨z, rx, sz_le h'.1, k _ (.str (cutS z l u)) H3 S3 ok4 rfl h'.2⟩)
      | _ => exact (show False from h3).elim⟩⟩⟩⟩
end
end Dv

/-! Readings by value, 3: calls, built-ins, statements, loops, comprehensions, defs. -/
namespace Dv
open PySem L2 PyProof.Rows

/-! ### the promise of a def, lifted -/
abbrev SpD := List D → Sd → DK → XKD → Prop
def FrOk (K : PySem.W.Frag) (H : Hp) (S : Sd) (fr : List (V × D)) : Prop := ∀ p ∈ fr, Rp K H S p.2 p.1
def upF (K : PySem.W.Frag) (sp : SpD) : Sp := fun vs H Qv E => ∃ ds S fr Qd Ed, RelS K H S ∧ FrOk K H S fr ∧ RpL K H S ds vs ∧ sp ds S Qd Ed ∧
  (∀ v d H' S', RelS K H' S' → FrOk K H' S' fr → Rp K H' S' d v → Qd d S' → Qv v H') ∧
  ∀ cls od x H' S', RelS K H' S' → FrOk K H' S' fr → RpX K H' S' x cls od → Ed x S' → E cls od H'
/-- the known slots, as pairs -/
def prs (σd : Si) (σ : L2.St) : List (V × D) := (σ.zip σd).filterMap fun p => match p with
  | (some v, some d) => some (v, d)
  | _ => none
theorem prs_mem {σd : Si} {σ : L2.St} {i : Nat} {v : V} {d : D} (h1 : σ[i]? = some (some v)) (h2 : σd[i]? = some (some d)) : (v, d) ∈ prs σd σ := by
  unfold prs
  refine List.mem_filterMap.mpr ⟨(some v, some d), ?_, rfl⟩
  refine List.mem_iff_getElem?.mpr ⟨i, ?_⟩
  rw [List.getElem?_zip_eq_some]
  exact ⟨h1, h2⟩
theorem prs_of {σd : Si} {σ : L2.St} {p : V × D} (h : p ∈ prs σd σ) : ∃ i : Nat, σ[i]? = some (some p.1) ∧ σd[i]? = some (some p.2) := by
  unfold prs at h
  obtain ⟨q, hq, e⟩ := List.mem_filterMap.mp h
  obtain ⟨i, hi⟩ := List.mem_iff_getElem?.mp hq
  rw [List.getElem?_zip_eq_some] at hi
  obtain ⟨q1, q2⟩ := q
  cases q1 with
  | none => cases e
  | some v => cases q2 with
    | none => cases e
    | some d =>
      cases e
      exact ⟨i, hi.1, hi.2⟩
section
variable {K : PySem.W.Frag} {H : Hp} {S : Sd} {fr : List (V × D)} {σd : Si} {σ : L2.St}
theorem Ok.out (ok : Ok K H S fr σd σ) : FrOk K H S (fr ++ prs σd σ) := fun p hp => by
  rcases List.mem_append.mp hp with h | h
  · exact ok.fr p h
  · obtain ⟨i, h1, h2⟩ := prs_of h
    obtain ⟨v, h3, r⟩ := ok.si i _ h2
    rw [h1] at h3
    cases h3
    exact r
theorem Ok.back {H' : Hp} {S' : Sd} (ok : Ok K H S fr σd σ) (R : RelS K H' S') (f : FrOk K H' S' (fr ++ prs σd σ)) : Ok K H' S' fr σd σ :=
  ⟨R, fun p hp => f p (List.mem_append_left _ hp), ok.len, fun i d e => by
    obtain ⟨v, h1, _⟩ := ok.si i d e
    exact ⟨v, h1, f (v, d) (List.mem_append_right _ (prs_mem h1 e))⟩⟩
end

section
variable {X : Cx} {W : Wi} {k : Nat} {f : Addr} {fd : FuncData} {ps : List Str} {sp : SpD} {ds : List Value} {dvs : List V} {dds : List D} {x : Str} {p pos : Pos} {e : Expr} {es : List Expr} {t : TAD}
def dCall (sp : SpD) (dds : List D) (WD : WXD) (t : TAD) : TED := fun σ S Q => t σ S fun xs S1 => sp (xs ++ dds) S1 Q fun y S2 => WD y σ S2
theorem call_lift (hdd : ∀ H S, RpL X.K H S dds dvs) (σ : L2.St) (H : Hp) (Q : VK) (h : upE X.K W (dCall sp dds W.D t) σ H Q) : tCallSD (upF X.K sp) dvs (WE W.V) (upA X.K W t) σ H Q := by
  obtain ⟨σd, S, fr, Qd, ok, cl, h, k⟩ := h
  refine ⟨σd, S, fr, _, ok, cl, h, fun vs ds H1 S1 ok1 r1 h1 => ?_⟩
  refine ⟨ds ++ dds, S1, fr ++ prs σd σ, Qd, _, ok1.rel, ok1.out, rpL_app r1 (hdd H1 S1), h1, fun v d H2 S2 R2 f2 r2 q2 => ?_, fun cls od x H2 S2 R2 f2 rx q2 => ?_⟩
  · exact k v d H2 S2 (ok1.back R2 f2) r2 q2
  · exact cl σd σ H2 S2 cls od x (ok1.back R2 f2) rx q2
theorem de_call (F : Hx.FnG X.prog X.w X.K X.mg X.base (L2N.CX X.prog X.w) k f fd ps (upF X.K sp)) (hr : Hx.RoomG k X.A) (hg : Gl X x) (hm : X.mg x = some (.ref f)) (hk : PySem.W.keepIn X.K (.ref f) = true) (hb : Binds X.K fd ps ds) (hd : Vals dvs ds)
    (hdd : ∀ H S, RpL X.K H S dds dvs) (tk : L2N.Takes X W.V) (ha : DA X W (e :: es) t) (hdb : (x == ("__debug__" : Str)) = false := by decide) (he : starEach (e :: es) X.env = (false, eval e X.env) :: starEach es X.env := by rfl)
    (hpl : (backTo pos (starEach es X.env)).any (·.1) = false := by rfl) : DE X W (.Call (.Name x p) (e :: es) [] pos) (dCall sp dds W.D t) :=
  ⟨PE.imp (Hx.pe_callG F hr hg hm hk hb hd (fun σ => L2N.passAt tk σ) ha.p hdb he hpl) (call_lift hdd)⟩

/-! ### built-ins -/
abbrev RDC := List D → Sd → DK → Prop
def LiftC (K : PySem.W.Frag) (r : List V → Hp → VK → Prop) (rd : RDC) : Prop := ∀ H S fr σd σ xs ds Qv Qd, Ok K H S fr σd σ → RpL K H S ds xs → rd ds S Qd →
  (∀ v d H' S', Ok K H' S' fr σd σ → Rp K H' S' d v → Qd d S' → Qv v H') → r xs H Qv
def CallD (X : Cx) (f : Value) (rd : RDC) : Prop := ∃ r, CallR X f r ∧ LiftC X.K r rd
def dCB (rd : RDC) (t : TAD) : TED := fun σ S Q => t σ S fun xs S1 => rd xs S1 Q
theorem cb_lift {r : List V → Hp → VK → Prop} {rd : RDC} (l : LiftC X.K r rd) (σ : L2.St) (H : Hp) (Q : VK) (h : upE X.K W (dCB rd t) σ H Q) : tCB r (upA X.K W t) σ H Q := by
  obtain ⟨σd, S, fr, Qd, ok, cl, h, k⟩ := h
  exact ⟨σd, S, fr, _, ok, cl, h, fun vs ds H1 S1 ok1 r1 h1 => l H1 S1 fr σd σ vs ds Q Qd ok1 r1 h1 k⟩
theorem de_callB {id : String} {rd : RDC} (hc : CallD X (.builtin id) rd) (hg : Gl X x) (hm : X.mg x = none) (hv : bootBuiltins x = some (.builtin id)) (ha : DA X W (e :: es) t) (hn : x ≠ "__name__" := by decide) (hdb : (x == ("__debug__" : Str)) = false := by decide)
    (he : starEach (e :: es) X.env = (false, eval e X.env) :: starEach es X.env := by rfl) (hpl : (backTo pos (starEach es X.env)).any (·.1) = false := by rfl) : DE X W (.Call (.Name x p) (e :: es) [] pos) (dCB rd t) := by
  obtain ⟨r, hc, l⟩ := hc
  exact ⟨PE.imp (pe_callB hc hg hm hv ha.p hn hdb he hpl) (cb_lift l)⟩
theorem de_callTy {T : String} {rd : RDC} (hc : CallD X (.type T) rd) (hg : Gl X x) (hm : X.mg x = none) (hv : bootBuiltins x = some (.type T)) (ha : DA X W (e :: es) t) (hn : x ≠ "__name__" := by decide) (hdb : (x == ("__debug__" : Str)) = false := by decide)
    (he : starEach (e :: es) X.env = (false, eval e X.env) :: starEach es X.env := by rfl) (hpl : (backTo pos (starEach es X.env)).any (·.1) = false := by rfl) : DE X W (.Call (.Name x p) (e :: es) [] pos) (dCB rd t) := by
  obtain ⟨r, hc, l⟩ := hc
  exact ⟨PE.imp (pe_callTy hc hg hm hv ha.p hn hdb he hpl) (cb_lift l)⟩
end
section
variable {K : PySem.W.Frag} {H : Hp} {S : Sd}
theorem rpL1 {d : D} {vs : List V} (h : RpL K H S [d] vs) : ∃ v, vs = [v] ∧ Rp K H S d v := by
  obtain ⟨v, r, e, h1, h2⟩ := h
  have e2 : r = [] := h2
  subst e2
  exact ⟨v, e, h1⟩
theorem rpL2 {c d : D} {vs : List V} (h : RpL K H S [c, d] vs) : ∃ v w, vs = [v, w] ∧ Rp K H S c v ∧ Rp K H S d w := by
  obtain ⟨v, r, e, h1, h2⟩ := h
  obtain ⟨w, e2, h3⟩ := rpL1 h2
  subst e2
  exact ⟨v, w, e, h1, h3⟩
theorem rpL_ints {ns : List Int} : ∀ {vs : List V}, RpL K H S (ns.map D.int) vs → vs = ns.map V.int := by
  induction ns with
  | nil => intro vs h; exact h
  | cons n r ih =>
    intro vs h
    obtain ⟨v, s, e, h1, h2⟩ := h
    have e1 : v = .int n := h1
    rw [e, e1, ih h2]
    rfl
theorem rpL_of_ints {ns : List Int} : RpL K H S (ns.map D.int) (ns.map V.int) := by
  induction ns with
  | nil => exact rfl
  | cons n r ih => exact ⟨_, _, rfl, rfl, ih⟩
theorem rpL_bls {ns : List Bool} : ∀ {vs : List V}, RpL K H S (ns.map D.bl) vs → vs = ns.map V.bl := by
  induction ns with
  | nil => intro vs h; exact h
  | cons n r ih =>
    intro vs h
    obtain ⟨v, s, e, h1, h2⟩ := h
    have e1 : v = .bl n := h1
    rw [e, e1, ih h2]
    rfl
end
def rdLen : RDC
  | [.str z], S, Q => z.length ≤ 16777216 ∧ Q (.int z.length) S
  | [d], S, Q => match itemsD S d with
    | some ds => Q (.int ds.length) S
    | none => False
  | _, _, _ => False
def rdAbs : RDC
  | [.int i], S, Q => Q (.int (if i < 0 then -i else i)) S
  | _, _, _ => False
def rdMax2 : RDC
  | [.int i, .int j], S, Q => Q (.int (if j > i then j else i)) S
  | _, _, _ => False
def rdMin2 : RDC
  | [.int i, .int j], S, Q => Q (.int (if j < i then j else i)) S
  | _, _, _ => False
def rdInt : RDC
  | [.int i], S, Q => Q (.int i) S
  | [.bl b], S, Q => Q (.int (if b then 1 else 0)) S
  | _, _, _ => False
def rdAll : RDC
  | [d], S, Q => ∃ bs : List Bool, lstD S d = some (bs.map D.bl) ∧ Q (.bl (bs.all id)) S
  | _, _, _ => False
def rdTupC : RDC
  | [d], S, Q => match itemsD S d with
    | some ds => Q (.tup ds) S
    | none => False
  | _, _, _ => False
def rdListC : RDC
  | [d], S, Q => match itemsD S d with
    | some ds => Q (.lst ds) S
    | none => False
  | _, _, _ => False
def rdSorted : RDC
  | [d], S, Q => ∃ ns : List Int, itemsD S d = some (ns.map D.int) ∧ ns.length < 64 ∧ ∀ ns' : List Int, ns'.Perm ns → ns'.Pairwise (· ≤ ·) → Q (.lst (ns'.map D.int)) S
  | _, _, _ => False
/-- a value's built-in type -/
def tyD : D → Option String
  | .non => some "NoneType" | .bl _ => some "bool" | .int _ => some "int" | .str _ => some "str" | .tup _ => some "tuple" | .lst _ => some "list" | _ => none
def isiD (d : D) (n : String) : Option Bool := match tyD d with
  | some t => kitB t n
  | none => none
def rdIsi : RDC
  | [d, .ty n], S, Q => match isiD d n with
    | some b => Q (.bl b) S
    | none => False
  | _, _, _ => False
section
variable {X : Cx}
theorem cd_len : CallD X (.builtin "len") rdLen := ⟨_, call_len, fun H S fr σd σ xs ds Qv Qd ok r h k => by
  match ds, r, h with
  | [d], r, h =>
    obtain ⟨v, rfl, r0⟩ := rpL1 r
    have r := r0
    have gen : (match itemsD S d with | some ds => Qd (.int ds.length) S | none => False) → ∃ x n, [v] = [x] ∧ LenV X.K x H n ∧ Qv (.int n) H := fun h => by
      cases e : itemsD S d with
      | none => rw [e] at h; exact h.elim
      | some ds =>
        rw [e] at h
        obtain ⟨a, vs, rfl, q, r2⟩ := rp_items ok.rel r e
        refine ⟨_, vs.length, rfl, ?_, k _ (.int ds.length) H S ok (by rw [rpL_len r2]; rfl) h⟩
        rcases q with q | q
        · exact .inl ⟨vs, q, rfl⟩
        · exact .inr ⟨vs, q, rfl⟩
    cases d with
    | str z =>
      have e : v = .str z := r
      subst e
      have h' : z.length ≤ 16777216 ∧ Qd (.int z.length) S := h
      exact ⟨_, z.length, rfl, ⟨sz_le h'.1, rfl⟩, k _ (.int z.length) H S ok rfl h'.2⟩
    | _ => exact gen h
  | [], _, h => exact (show False from h).elim
  | a :: _ :: _, _, h => exact (by cases a <;> exact h : False).elim⟩
theorem int1_lift {K : PySem.W.Frag} {g : Int → D} {gv : Int → V} {rd : RDC} (hg : ∀ i H S, Rp K H S (g i) (gv i)) (h1 : ∀ ds S Q, rd ds S Q → ∃ i, ds = [.int i] ∧ Q (g i) S) :
    LiftC K (fun xs H Q => ∃ i, xs = [.int i] ∧ Q (gv i) H) rd := fun H S fr σd σ xs ds Qv Qd ok r h k => by
  obtain ⟨i, rfl, q⟩ := h1 ds S Qd h
  obtain ⟨v, rfl, r0⟩ := rpL1 r
  have r := r0
  have e : v = .int i := r
  subst e
  exact ⟨i, rfl, k _ (g i) H S ok (hg i H S) q⟩
theorem inv_abs {ds : List D} {S : Sd} {Q : DK} (h : rdAbs ds S Q) : ∃ i, ds = [.int i] ∧ Q (.int (if i < 0 then -i else i)) S := by
  cases ds with
  | nil => exact h.elim
  | cons d t => cases t with
    | nil => cases d <;> first | exact ⟨_, rfl, h⟩ | exact (show False from h).elim
    | cons e r => cases d <;> exact (show False from h).elim
theorem inv_int {ds : List D} {S : Sd} {Q : DK} (h : rdInt ds S Q) : (∃ i, ds = [.int i] ∧ Q (.int i) S) ∨ ∃ b, ds = [.bl b] ∧ Q (.int (if b then 1 else 0)) S := by
  cases ds with
  | nil => exact h.elim
  | cons d t => cases t with
    | nil => cases d <;> first | exact .inl ⟨_, rfl, h⟩ | exact .inr ⟨_, rfl, h⟩ | exact (show False from h).elim
    | cons e r => cases d <;> exact (show False from h).elim
theorem inv_max2 {ds : List D} {S : Sd} {Q : DK} (h : rdMax2 ds S Q) : ∃ i j, ds = [.int i, .int j] ∧ Q (.int (if j > i then j else i)) S := by
  cases ds with
  | nil => exact h.elim
  | cons d t => cases t with
    | nil => cases d <;> exact (show False from h).elim
    | cons e r => cases r with
      | nil => cases d <;> cases e <;> first | exact ⟨_, _, rfl, h⟩ | exact (show False from h).elim
      | cons f r => cases d <;> cases e <;> exact (show False from h).elim
theorem inv_min2 {ds : List D} {S : Sd} {Q : DK} (h : rdMin2 ds S Q) : ∃ i j, ds = [.int i, .int j] ∧ Q (.int (if j < i then j else i)) S := by
  cases ds with
  | nil => exact h.elim
  | cons d t => cases t with
    | nil => cases d <;> exact (show False from h).elim
    | cons e r => cases r with
      | nil => cases d <;> cases e <;> first | exact ⟨_, _, rfl, h⟩ | exact (show False from h).elim
      | cons f r => cases d <;> cases e <;> exact (show False from h).elim
theorem inv_isi {ds : List D} {S : Sd} {Q : DK} (h : rdIsi ds S Q) : ∃ d n b, ds = [d, .ty n] ∧ isiD d n = some b ∧ Q (.bl b) S := by
  cases ds with
  | nil => exact h.elim
  | cons d t => cases t with
    | nil => exact (show False from h).elim
    | cons e r => cases r with
      | cons f r => cases e <;> exact (show False from h).elim
      | nil =>
        cases e with
        | ty n =>
          have h' : (match isiD d n with | some b => Q (.bl b) S | none => False) := h
          cases q : isiD d n with
          | none => rw [q] at h'; exact h'.elim
          | some b => rw [q] at h'; exact ⟨d, n, b, rfl, q, h'⟩
        | _ => exact (show False from h).elim
theorem cd_abs : CallD X (.builtin "abs") rdAbs := ⟨_, call_abs, int1_lift (g := fun i => .int (if i < 0 then -i else i)) (fun _ _ _ => rfl) fun ds S Q h => inv_abs h⟩
theorem int2_lift {K : PySem.W.Frag} {g : Int → Int → D} {gv : Int → Int → V} {rd : RDC} (hg : ∀ i j H S, Rp K H S (g i j) (gv i j)) (h1 : ∀ ds S Q, rd ds S Q → ∃ i j, ds = [.int i, .int j] ∧ Q (g i j) S) :
    LiftC K (fun xs H Q => ∃ i j, xs = [.int i, .int j] ∧ Q (gv i j) H) rd := fun H S fr σd σ xs ds Qv Qd ok r h k => by
  obtain ⟨i, j, rfl, q⟩ := h1 ds S Qd h
  obtain ⟨v, w, rfl, r1, r2⟩ := rpL2 r
  have e : v = .int i := r1
  have e2 : w = .int j := r2
  subst e e2
  exact ⟨i, j, rfl, k _ (g i j) H S ok (hg i j H S) q⟩
theorem cd_max2 (hc : X.calm = true) : CallD X (.builtin "max") rdMax2 := ⟨_, call_max2 hc, int2_lift (g := fun i j => .int (if j > i then j else i)) (fun _ _ _ _ => rfl) fun ds S Q h => inv_max2 h⟩
theorem cd_min2 (hc : X.calm = true) : CallD X (.builtin "min") rdMin2 := ⟨_, call_min2 hc, int2_lift (g := fun i j => .int (if j < i then j else i)) (fun _ _ _ _ => rfl) fun ds S Q h => inv_min2 h⟩
theorem cd_int : CallD X (.type "int") rdInt := ⟨_, call_int1, fun H S fr σd σ xs ds Qv Qd ok r h k => by
  rcases inv_int h with ⟨i, rfl, q⟩ | ⟨b, rfl, q⟩
  · obtain ⟨v, rfl, r0⟩ := rpL1 r
    have r := r0
    have e : v = .int i := r
    subst e
    exact .inl ⟨i, rfl, k _ (.int i) H S ok rfl q⟩
  · obtain ⟨v, rfl, r0⟩ := rpL1 r
    have r := r0
    have e : v = .bl b := r
    subst e
    exact .inr ⟨b, rfl, k _ (.int (if b then 1 else 0)) H S ok rfl q⟩⟩
theorem cd_all (hc : X.calm = true) : CallD X (.builtin "all") rdAll := ⟨_, cr_all hc, fun H S fr σd σ xs ds Qv Qd ok r h k => by
  match ds, r, h with
  | [], _, h => exact (show False from h).elim
  | _ :: _ :: _, _, h => exact (show False from h).elim
  | [d], r, h =>
    obtain ⟨v, rfl, r0⟩ := rpL1 r
    have r := r0
    obtain ⟨bs, e, q⟩ := h
    obtain ⟨a, vs, rfl, q1, r1⟩ := rp_lstD ok.rel r e
    rw [rpL_bls r1] at q1
    exact ⟨a, bs, rfl, q1, k _ (.bl (bs.all id)) H S ok rfl q⟩⟩
theorem cd_tuple : CallD X (.type "tuple") rdTupC := ⟨_, call_tuple_of, fun H S fr σd σ xs ds Qv Qd ok r h k => by
  match ds, r, h with
  | [], _, h => exact (show False from h).elim
  | _ :: _ :: _, _, h => exact (show False from h).elim
  | [d], r, h =>
    obtain ⟨v, rfl, r0⟩ := rpL1 r
    have r := r0
    have h' : (match itemsD S d with | some ds => Qd (.tup ds) S | none => False) := h
    cases e : itemsD S d with
    | none => rw [e] at h'; exact h'.elim
    | some ds =>
      rw [e] at h'
      obtain ⟨a, vs, rfl, q, r2⟩ := rp_items ok.rel r e
      refine ⟨a, vs, rfl, ?_⟩
      rcases q with q | q
      · exact .inl ⟨q, fun l hl => k _ (.tup ds) _ S (ok.new hl) (rp_tupNew ok.rel hl r2) h'⟩
      · exact .inr ⟨q, k _ (.tup ds) H S ok ⟨a, vs, rfl, q, r2⟩ h'⟩⟩
theorem cd_list : CallD X (.type "list") rdListC := ⟨_, call_list_of, fun H S fr σd σ xs ds Qv Qd ok r h k => by
  match ds, r, h with
  | [], _, h => exact (show False from h).elim
  | _ :: _ :: _, _, h => exact (show False from h).elim
  | [d], r, h =>
    obtain ⟨v, rfl, r0⟩ := rpL1 r
    have r := r0
    have h' : (match itemsD S d with | some ds => Qd (.lst ds) S | none => False) := h
    cases e : itemsD S d with
    | none => rw [e] at h'; exact h'.elim
    | some ds =>
      rw [e] at h'
      obtain ⟨a, vs, rfl, q, r2⟩ := rp_items ok.rel r e
      exact ⟨a, vs, rfl, q, fun l hl => k _ (.lst ds) _ S (ok.new hl) (rp_lstNew ok.rel hl r2) h'⟩⟩
theorem isi_ty {K : PySem.W.Frag} {H : Hp} {S : Sd} {d : D} {v : V} {t : String} (R : RelS K H S) (r : Rp K H S d v) (e : tyD d = some t) : TyX K H v (.type t) := by
  cases d with
  | non => cases e; have e : v = .non := r; subst e; exact .base .non
  | bl b => cases e; have e : v = .bl b := r; subst e; exact .base (.bl b)
  | int i => cases e; have e : v = .int i := r; subst e; exact .base (.int i)
  | str x => cases e; have e : v = .str x := r; subst e; exact .base (.str x)
  | tup ds =>
    cases e
    obtain ⟨a, vs, rfl, q, _⟩ := r
    rcases q with (q | ⟨o, q⟩) | ⟨o, its, n, h1, h2, _⟩
    · exact .base (.tup q)
    · exact .fTuple q
    · exact .kTuple h1 h2
  | lst ds =>
    cases e
    obtain ⟨a, vs, rfl, q, _⟩ := r
    rcases q with ⟨q | ⟨o, q⟩, _⟩ | ⟨o, its, n, h1, h2, _⟩
    · exact .base (.lst q)
    · exact .base (.frz q)
    · exact .kList h1 h2
  | _ => cases e
theorem cd_isi : CallD X (.builtin "isinstance") rdIsi := ⟨_, call_isi, fun H S fr σd σ xs ds Qv Qd ok r h k => by
  obtain ⟨d, n, b, rfl, e, q⟩ := inv_isi h
  obtain ⟨v, w, rfl, r1, r2⟩ := rpL2 r
  have e0 : w = .ty n := r2
  subst e0
  unfold isiD at e
  cases e2 : tyD d with
  | none => rw [e2] at e; cases e
  | some t =>
    rw [e2] at e
    exact ⟨v, .ty n, .type t, .type n, b, rfl, .ty n, isi_ty ok.rel r1 e2, kit_ty e, k _ (.bl b) H S ok rfl q⟩⟩
end
end Dv

/-! Readings by value, 4: statements, targets, loops, comprehensions, defs. -/
namespace Dv
open PySem L2 PyProof.Rows

section
variable {K : PySem.W.Frag} {H : Hp} {S : Sd} {fr : List (V × D)} {Dd : EndsD} {D0 : Ends} {σd : Si} {σ : L2.St} {W : Wi}
theorem Ok.pre {fr2 : List (V × D)} (o : Ok K H S (fr2 ++ fr) σd σ) : Ok K H S fr σd σ := ⟨o.rel, fun p hp => o.fr p (List.mem_append_right _ hp), o.len, o.si⟩
theorem Cl.pre {fr2 : List (V × D)} (c : Cl K W fr) : Cl K W (fr2 ++ fr) := fun σd σ H S cls od x o => c σd σ H S cls od x o.pre
end

section
variable {X : Cx} {W : Wi} {st : Stmt} {rest : List Stmt} {t u : TSD} {e c : Expr} {te : TED} {tc : TTD} {pos : Pos}
def dNext : TSD := fun D σ S => D.nx σ S
def dSeq (t u : TSD) : TSD := fun D σ S => t { D with nx := u D } σ S
theorem db_nil : DB X W [] dNext := ⟨PSs.imp pss_nil fun D σ H ⟨σd, S, fr, Dd, ok, cl, h, k⟩ => k.nx σd σ H S ok h⟩
theorem db_cons (h1 : DS X W st t) (h2 : DB X W rest u) : DB X W (st :: rest) (dSeq t u) :=
  ⟨PSs.imp (pss_cons h1.p h2.p) fun D σ H ⟨σd, S, fr, Dd, ok, cl, h, k⟩ => ⟨σd, S, fr, { Dd with nx := u Dd }, ok, cl, h,
    ⟨fun σd' σ' H' S' ok' q => ⟨σd', S', fr, Dd, ok', cl, q, k⟩, k.rt, k.bk, k.ct⟩⟩⟩
theorem db_one (h1 : DS X W st t) : DB X W [st] t := ⟨pss_one h1.p⟩
def dDrop (te : TED) : TSD := fun D σ S => te σ S fun _ S1 => D.nx σ S1
theorem ds_expr (he : DE X W e te) (hs : swapsWith e none pos.line X.env = pure false := by rfl) : DS X W (.Expr e pos) (dDrop te) :=
  ⟨PS.imp (ps_expr he.p hs) fun D σ H ⟨σd, S, fr, Dd, ok, cl, h, k⟩ => ⟨σd, S, fr, _, ok, cl, h, fun v d H' S' ok' r q => k.nx σd σ H' S' ok' q⟩⟩
def dRet (te : TED) : TSD := fun D σ S => te σ S D.rt
theorem ds_ret (he : DE X W e te) : DS X W (.Return (some e) pos) (dRet te) :=
  ⟨PS.imp (ps_ret he.p) fun D σ H ⟨σd, S, fr, Dd, ok, cl, h, k⟩ => ⟨σd, S, fr, _, ok, cl, h, fun v d H' S' ok' r q => k.rt v d σd σ H' S' ok' r q⟩⟩
def dIfS (c : TTD) (t u : TSD) : TSD := fun D σ S => c σ S fun b S1 => if b = true then t D σ S1 else u D σ S1
theorem ds_if {a b : List Stmt} (hc : DT X W c tc) (ha : DB X W a t) (hb : DB X W b u) : DS X W (.If c a b pos) (dIfS tc t u) :=
  ⟨PS.imp (ps_if hc.p ha.p hb.p) fun D σ H ⟨σd, S, fr, Dd, ok, cl, h, k⟩ => ⟨σd, S, fr, _, ok, cl, h, fun b H1 S1 ok1 h1 => by
    cases b with
    | true => exact (show upSt X.K W t D σ H1 from ⟨σd, S1, fr, Dd, ok1, cl, (show t Dd σd S1 from by simpa using h1), k⟩)
    | false => exact (show upSt X.K W u D σ H1 from ⟨σd, S1, fr, Dd, ok1, cl, (show u Dd σd S1 from by simpa using h1), k⟩)⟩⟩

/-! ### targets -/
abbrev TGD := D → Si → Sd → (Si → Sd → Prop) → Prop
abbrev TGsD := List D → Si → Sd → (Si → Sd → Prop) → Prop
/-- vs: slots that may change -/
def upG (K : PySem.W.Frag) (W : Wi) (vs : List Nat) (t : TGD) : TG := fun v σ H Q => ∃ σd S fr Qd d, Ok K H S fr σd σ ∧ Cl K W fr ∧ Rp K H S d v ∧ t d σd S Qd ∧
  ∀ σ' σd' H' S', Ok K H' S' fr σd' σ' → wipe σ' vs = wipe σ vs → Qd σd' S' → Q σ' H'
def upGs (K : PySem.W.Frag) (W : Wi) (vs : List Nat) (t : TGsD) : TGs := fun us σ H Q => ∃ σd S fr Qd ds, Ok K H S fr σd σ ∧ Cl K W fr ∧ RpL K H S ds us ∧ t ds σd S Qd ∧
  ∀ σ' σd' H' S', Ok K H' S' fr σd' σ' → wipe σ' vs = wipe σ vs → Qd σd' S' → Q σ' H'
structure DG (X : Cx) (W : Wi) (vs : List Nat) (e : Expr) (t : TGD) : Prop where
  p : PG X e (upG X.K W vs t)
structure DGs (X : Cx) (W : Wi) (vs : List Nat) (es : List Expr) (t : TGsD) : Prop where
  p : PGs X es (upGs X.K W vs t)
theorem PG.imp {e : Expr} {t t' : TG} (h : PG X e t) (k : ∀ v σ H Q, t' v σ H Q → t v σ H Q) : PG X e t' := ⟨fun pins s σ H v u Q I r q => h.run pins s σ H v u Q I r (k _ _ _ _ q)⟩
theorem PGs.imp {e : List Expr} {t t' : TGs} (h : PGs X e t) (k : ∀ v σ H Q, t' v σ H Q → t v σ H Q) : PGs X e t' := ⟨fun pins s σ H v u Q I r q => h.run pins s σ H v u Q I r (k _ _ _ _ q)⟩
theorem wipe_set {σ : L2.St} {i : Nat} {x : Option V} : ∀ {vs : List Nat}, i ∈ vs → wipe (σ.set i x) vs = wipe σ vs
  | v :: vs, h => by
    unfold wipe
    by_cases hv : i ∈ vs
    · rw [wipe_set hv]
    · have e : i = v := by
        rcases List.mem_cons.mp h with e | e
        · exact e
        · exact absurd e hv
      subst e
      have gen : ∀ (ws : List Nat), i ∉ ws → wipe (σ.set i x) ws = (wipe σ ws).set i x := by
        intro ws
        induction ws with
        | nil => intro _; rfl
        | cons w ws ih =>
          intro hm
          have h1 : i ≠ w := fun e => hm (by rw [e]; exact List.mem_cons_self)
          have h2 : i ∉ ws := fun e => hm (List.mem_cons_of_mem _ e)
          show (wipe (σ.set i x) ws).set w none = ((wipe σ ws).set w none).set i x
          rw [ih h2, List.set_comm _ _ h1]
      rw [gen vs hv, List.set_set]
def dName (i : Nat) : TGD := fun d σ S Q => Q (σ.set i (some d)) S
theorem dg_name {vs : List Nat} {i : Nat} {x : Str} (hN : X.N.Nodup) (hi : X.N[i]? = some x) (hx : Loc X.env.scope x) (hv : i ∈ vs) (hf : X.fn x = true ∨ X.env.scope.names.lookup x = some .local := by first | exact .inl rfl | exact .inr rfl | assumption) :
    DG X W vs (.Name x pos) (dName i) := ⟨PG.imp (pg_name hN hi hx hf) fun v σ H Q ⟨σd, S, fr, Qd, d, ok, cl, r, h, k⟩ => k _ _ H S (ok.set r i) (wipe_set hv) h⟩
def dGNil : TGsD := fun ds σ S Q => match ds with
  | [] => Q σ S
  | _ => False
def dGCons (t : TGD) (u : TGsD) : TGsD := fun ds σ S Q => match ds with
  | d :: r => t d σ S fun σ' S' => u r σ' S' Q
  | [] => False
theorem dgs_nil {vs : List Nat} : DGs X W vs [] dGNil := ⟨PGs.imp pgs_nil fun v σ H Q ⟨σd, S, fr, Qd, ds, ok, cl, r, h, k⟩ => by
  cases ds with
  | nil => exact ⟨r, k σ σd H S ok rfl h⟩
  | cons d s => exact (show False from h).elim⟩
theorem dgs_cons {vs : List Nat} {es : List Expr} {t : TGD} {u : TGsD} (h1 : DG X W vs e t) (h2 : DGs X W vs es u) (hs : (assignEach (e :: es) X.env).map (·.2) = assign e X.env :: (assignEach es X.env).map (·.2) := by rfl) : DGs X W vs (e :: es) (dGCons t u) :=
  ⟨PGs.imp (pgs_cons h1.p h2.p hs) fun us σ H Q ⟨σd, S, fr, Qd, ds, ok, cl, r, h, k⟩ => by
    cases ds with
    | nil => exact (show False from h).elim
    | cons d s =>
      obtain ⟨v, ur, e1, r1, r2⟩ := r
      refine ⟨v, ur, e1, σd, S, (ur.zip s) ++ fr, fun σ' S' => u s σ' S' Qd, d, ?_, cl.pre, r1, h, fun σ' σd' H' S' ok' hw q => ?_⟩
      · refine ⟨ok.rel, fun p hp => ?_, ok.len, ok.si⟩
        rcases List.mem_append.mp hp with hp | hp
        · obtain ⟨i, hi⟩ := List.mem_iff_getElem?.mp hp
          rw [List.getElem?_zip_eq_some] at hi
          obtain ⟨w, q1, q2⟩ := rpL_get r2 hi.2
          rw [hi.1] at q1
          cases q1
          exact q2
        · exact ok.fr p hp
      · refine ⟨σd', S', fr, Qd, s, ok'.pre, cl, ?_, q, fun σ2 σd2 H2 S2 ok2 hw2 q2 => k σ2 σd2 H2 S2 ok2 (hw2.trans hw) q2⟩
        have hl := rpL_len r2
        have gen : ∀ (s : List D) (ur : List V), s.length = ur.length → (∀ p ∈ ur.zip s, Rp X.K H' S' p.2 p.1) → RpL X.K H' S' s ur := by
          intro s
          induction s with
          | nil => intro ur hl _; exact List.length_eq_zero_iff.mp hl.symm
          | cons d s ih =>
            intro ur hl hz
            cases ur with
            | nil => cases hl
            | cons w ur =>
              refine ⟨w, ur, rfl, hz (w, d) (by simp), ih ur (by simpa using hl) fun p hp => hz p ?_⟩
              rw [List.zip_cons_cons]
              exact List.mem_cons_of_mem _ hp
        exact gen s ur hl fun p hp => ok'.fr p (List.mem_append_left _ hp)⟩
/-- (a, b, ..) = a tuple or a list of that length -/
def dTupG (n : Nat) (t : TGsD) : TGD := fun d σ S Q => match d with
  | .tup ds => ds.length = n ∧ t ds σ S Q
  | _ => False
theorem dg_tup {vs : List Nat} {es : List Expr} {k : Nat} {t : TGsD} {n : Nat} (hc : X.calm = true) (h : DGs X W vs es t) (hn : (assignEach es X.env).length = n := by rfl) (hst : (assignEach es X.env).findIdx? (·.1) = none := by rfl) :
    DG X W vs (.Tuple es k pos) (dTupG n t) := ⟨PG.imp (pg_tup hc h.p hn hst) fun v σ H Q ⟨σd, S, fr, Qd, d, ok, cl, r, q, k⟩ => by
  cases d with
  | tup ds =>
    obtain ⟨a, vs, e, q1, r1⟩ := r
    exact ⟨a, vs, e, q1, (rpL_len r1).symm.trans q.1, σd, S, fr, Qd, ds, ok, cl, r1, q.2, k⟩
  | _ => exact (show False from q).elim⟩
def dAsg (te : TED) (g : TGD) : TSD := fun D σ S => te σ S fun x S1 => g x σ S1 D.nx
theorem ds_asg {vs : List Nat} {tg : Expr} {g : TGD} (he : DE X W e te) (hg : DG X W vs tg g) (hs : swapsWithSole [tg] e pos.line X.env = pure false := by rfl) (hw : swappedStores [tg] e X.env = pure none := by rfl)
    (h1 : (assignEach [tg] X.env).map (·.2) = [assign tg X.env] := by rfl) : DS X W (.Assign [tg] e pos) (dAsg te g) :=
  ⟨PS.imp (ps_asg he.p hg.p hs hw h1) fun D σ H ⟨σd, S, fr, Dd, ok, cl, h, k⟩ => ⟨σd, S, fr, _, ok, cl, h, fun v d H1 S1 ok1 r1 q => ⟨σd, S1, fr, Dd.nx, d, ok1, cl, r1, q, fun σ' σd' H' S' ok' _ q' => k.nx σd' σ' H' S' ok' q'⟩⟩⟩
def dSet (i : Nat) (te : TED) : TSD := fun D σ S => te σ S fun x S1 => D.nx (σ.set i (some x)) S1
theorem ds_set (i : Nat) {x : Str} {pos' : Pos} (hN : X.N.Nodup) (hi : X.N[i]? = some x) (hx : Loc X.env.scope x) (he : DE X W e te) (hs : swapsWith e (some (.Name x pos')) pos.line X.env = pure false := by rfl)
    (hf : X.fn x = true ∨ X.env.scope.names.lookup x = some .local := by first | exact .inl rfl | exact .inr rfl | assumption) : DS X W (.Assign [.Name x pos'] e pos) (dSet i te) :=
  ⟨PS.imp (ps_set hN hi hx he.p hs hf) fun D σ H ⟨σd, S, fr, Dd, ok, cl, h, k⟩ => ⟨σd, S, fr, _, ok, cl, h, fun v d H1 S1 ok1 r1 q => k.nx _ _ H1 S1 (ok1.set r1 i) q⟩⟩
/-- a, b = x, y -/
def dPar (i j : Nat) (ta : TAD) : TSD := fun D σ S => ta σ S fun vs S1 => match vs with
  | [v, w] => D.nx ((σ.set i (some v)).set j (some w)) S1
  | _ => False
theorem ds_par (i j : Nat) {x y : Str} {a b : Expr} {ta : TAD} {px py pt : Pos} {kt k2 pt2} (hc : X.calm = true) (hN : X.N.Nodup) (hi : X.N[i]? = some x) (hj : X.N[j]? = some y) (hij : i ≠ j)
    (hx : X.env.scope.names.lookup x = some .local) (hy : X.env.scope.names.lookup y = some .local) (ha : DA X W [a, b] ta) (hw : swappedStores [.Tuple [.Name x px, .Name y py] kt pt] (.Tuple [a, b] k2 pt2) X.env = pure (some [x, y]))
    (hs : swapsWithSole [.Tuple [.Name x px, .Name y py] kt pt] (.Tuple [a, b] k2 pt2) pos.line X.env = pure false := by rfl) :
    DS X W (.Assign [.Tuple [.Name x px, .Name y py] kt pt] (.Tuple [a, b] k2 pt2) pos) (dPar i j ta) :=
  ⟨PS.imp (ps_par hc hN hi hj hij hx hy ha.p hw hs) fun D σ H ⟨σd, S, fr, Dd, ok, cl, h, k⟩ => ⟨σd, S, fr, _, ok, cl, h, fun vs ds H1 S1 ok1 r1 q => by
    cases ds with
    | nil => exact (show False from q).elim
    | cons d r => cases r with
      | nil => exact (show False from q).elim
      | cons d2 r => cases r with
        | cons _ _ => exact (show False from q).elim
        | nil =>
          obtain ⟨v, w, rfl, h1, h2⟩ := rpL2 r1
          exact ⟨v, w, rfl, k.nx _ _ H1 S1 ((ok1.set h1 i).set h2 j) q⟩⟩⟩
/-- l[k] = e, l an owned list -/
def setQ (S : Sd) (k : D) (v : D) (Q : Sd → Prop) : D → Prop
  | .obj a => match S a, k with
    | some (.lst ds), .int i => match ixN ds.length i with
      | some j => Q (upS S a (.lst (ds.set j v)))
      | none => False
    | _, _ => False
  | _ => False
theorem setQ_inv {S : Sd} {k v o : D} {Q : Sd → Prop} (h : setQ S k v Q o) : ∃ a ds i j, o = .obj a ∧ S a = some (.lst ds) ∧ k = .int i ∧ ixN ds.length i = some j ∧ Q (upS S a (.lst (ds.set j v))) := by
  cases o with
  | obj a =>
    unfold setQ at h
    dsimp only at h
    split at h
    · rename_i x y ds i e
      split at h
      · rename_i j ej
        exact ⟨a, ds, i, j, rfl, e, rfl, ej, h⟩
      · exact h.elim
    · exact h.elim
  | _ => exact (show False from h).elim
def dStore (to ti te : TED) : TSD := fun D σ S => te σ S fun v S1 => to σ S1 fun o S2 => ti σ S2 fun k S3 => setQ S3 k v (D.nx σ) o
theorem ds_store {o i : Expr} {to ti : TED} {spos : Pos} (ho : DE X W o to) (hi : DE X W i ti) (he : DE X W e te) (ha : ∀ v, assign (.Subscript o i spos) X.env v = (do
      let ov ← holding [v] (eval o X.env)
      let iv ← holding [v, ov] (eval i X.env)
      standAt spos
      holding [v, ov, iv] (setItem ov iv v)
      release [v, ov, iv] []) := by intro _; rfl) (hs : swapsWithSole [.Subscript o i spos] e pos.line X.env = pure false := by rfl) (hw : swappedStores [.Subscript o i spos] e X.env = pure none := by rfl)
    (h1 : (assignEach [.Subscript o i spos] X.env).map (·.2) = [assign (.Subscript o i spos) X.env] := by rfl) : DS X W (.Assign [.Subscript o i spos] e pos) (dStore to ti te) :=
  ⟨PS.imp (ps_asg he.p (pg_sub ho.p hi.p set_list ha) hs hw h1) fun D σ H ⟨σd, S, fr, Dd, ok, cl, h, k⟩ => ⟨σd, S, fr, _, ok, cl, h, fun v d H1 S1 ok1 r1 q =>
    ⟨σd, S1, (v, d) :: fr, _, ok1.cons r1, cl.tail, q, fun ov od H2 S2 ok2 r2 q => ⟨σd, S2, (ov, od) :: (v, d) :: fr, _, ok2.cons r2, cl.tail.tail, q, fun kv kd H3 S3 ok3 r3 q => by
      obtain ⟨a, ds, n, j, e1, e2, e3, e4, q5⟩ := setQ_inv q
      have ro := ok3.head
      have rv := ok3.tail.head
      have ok4 := ok3.tail.tail
      subst e1 e3
      obtain ⟨vs, hv, rl⟩ := rp_obj ok4.rel e2
      refine ⟨a, vs, n, j, ro, r3, hv, by rw [← rpL_len rl]; exact e4, ?_⟩
      have st : Step H3 S3 (upd H3 a (.lst (vs.set j v))) (upS S3 a (.lst (ds.set j d))) := step_set e2
      exact k.nx σd σ _ _ (ok4.step st (rel_set ok4.rel e2 ⟨_, upd_same, rpL_step ok4.rel st _ _ (rpL_set j rl rv)⟩)) q5⟩⟩⟩⟩
/-- l.append(e), l an owned list -/
def appQ (S : Sd) (v : D) (Q : DK) : D → Prop
  | .obj a => match S a with
    | some (.lst ds) => ds.length < 16777216 ∧ Q .non (upS S a (.lst (ds ++ [v])))
    | _ => False
  | _ => False
theorem appQ_inv {S : Sd} {v o : D} {Q : DK} (h : appQ S v Q o) : ∃ a ds, o = .obj a ∧ S a = some (.lst ds) ∧ ds.length < 16777216 ∧ Q .non (upS S a (.lst (ds ++ [v]))) := by
  cases o with
  | obj a =>
    unfold appQ at h
    dsimp only at h
    split at h
    · rename_i ds e
      exact ⟨a, ds, rfl, e, h.1, h.2⟩
    · exact h.elim
  | _ => exact (show False from h).elim
/-! ### methods of built-in types -/
def tyM (T : String) (d : D) (S : Sd) : Prop := match d with
  | .str _ => T = "str"
  | .int _ => T = "int"
  | .lst ds => T = "list"
  | .obj a => T = "list" ∧ ∃ ds, S a = some (.lst ds)
  | _ => False
theorem tyM_V {K : PySem.W.Frag} {H : Hp} {S : Sd} {d : D} {v : V} {T : String} (R : RelS K H S) (r : Rp K H S d v) (t : tyM T d S) : tyV K T v H := by
  cases d with
  | str x => have e : v = .str x := r; subst e; exact t
  | int x => have e : v = .int x := r; subst e; exact t
  | lst ds =>
    obtain ⟨a, vs, rfl, q, _⟩ := rp_list R r
    exact .inl ⟨t, vs, q⟩
  | obj a =>
    obtain ⟨t, ds, e⟩ := t
    obtain ⟨vs, q, _⟩ := rp_obj R e
    have e : v = .ref a := r
    subst e
    exact .inl ⟨t, vs, SqL.of q⟩
  | _ => exact (show False from t).elim
abbrev RDM := D → List D → Sd → DK → Prop
def LiftM (K : PySem.W.Frag) (r : V → List V → Hp → VK → Prop) (rd : RDM) : Prop := ∀ H S fr σd σ x dx xs ds Qv Qd, Ok K H S fr σd σ → Rp K H S dx x → RpL K H S ds xs → rd dx ds S Qd →
  (∀ v d H' S', Ok K H' S' fr σd σ → Rp K H' S' d v → Qd d S' → Qv v H') → r x xs H Qv
def dBM (T : String) (rd : RDM) (to : TED) (t : TAD) : TED := fun σ S Q => to σ S fun o S1 => tyM T o S1 ∧ t σ S1 fun vs S2 => rd o vs S2 Q
def dBM0 (T : String) (rd : RDM) (to : TED) : TED := fun σ S Q => to σ S fun o S1 => tyM T o S1 ∧ rd o [] S1 Q
theorem de_bm {o : Expr} {to : TED} {es : List Expr} {t : TAD} {T id : String} {name : Str} {apos cpos : Pos} {r : V → List V → Hp → VK → Prop} {rd : RDM} (pa : PlainAttrs T) (slot : Slot T name id) (hty : typeOf (.builtin id) = pure (.type "method_descriptor")) (hm : MtR X id r) (l : LiftM X.K r rd)
    (ho : DE X W o to) (ha : DA X W (e :: es) t) (hbase : attributeBase o name X.env (eval o X.env) = eval o X.env := by rfl)
    (hfew : ((backTo cpos (starEach (e :: es) X.env)).all (fun x => !x.1) && (backToKw cpos (keywordEach [] X.env)).all (fun x => x.1.isSome)
      && decide ((e :: es).length + ([] : List Keyword).length + (if ([] : List Keyword).isEmpty then 0 else 1) < 30)) = true := by rfl)
    (hline : (apos.endLine == cpos.line) = true := by rfl) (hs : starEach (e :: es) X.env = (false, eval e X.env) :: starEach es X.env := by rfl) (hplain : (backTo cpos (starEach es X.env)).any (·.1) = false := by rfl) :
    DE X W (.Call (.Attribute o name apos) (e :: es) [] cpos) (dBM T rd to t) :=
  ⟨PE.imp (pe_bm pa slot hty hm ho.p ha.p hbase hfew hline hs hplain) fun σ H Q ⟨σd, S, fr, Qd, ok, cl, h, k⟩ =>
    ⟨σd, S, fr, _, ok, cl, h, fun x dx H1 S1 ok1 r1 q => ⟨tyM_V ok1.rel r1 q.1, σd, S1, (x, dx) :: fr, _, ok1.cons r1, cl.tail, q.2, fun vs ds H2 S2 ok2 r2 q2 =>
      l H2 S2 fr σd σ x dx vs ds Q Qd ok2.tail ok2.head r2 q2 k⟩⟩⟩
def rdApp : RDM := fun o vs S Q => match vs with
  | [v] => appQ S v Q o
  | _ => False
theorem app_lift {K : PySem.W.Frag} : LiftM K rAppend rdApp := fun H S fr σd σ x dx xs ds Qv Qd ok rx rs h k => by
  cases ds with
  | nil => exact (show False from h).elim
  | cons d r => cases r with
    | cons _ _ => exact (show False from h).elim
    | nil =>
      obtain ⟨a, ds, e1, e2, hl, q⟩ := appQ_inv (show appQ S d Qd dx from h)
      subst e1
      obtain ⟨v, rfl, r1⟩ := rpL1 rs
      obtain ⟨vs, hv, rl⟩ := rp_obj ok.rel e2
      have st : Step H S (upd H a (.lst (vs ++ [v]))) (upS S a (.lst (ds ++ [d]))) := step_set e2
      exact ⟨a, vs, v, rx, rfl, hv, by rw [← rpL_len rl]; exact sz_lt' hl, k _ .non _ _ (ok.step st (rel_set ok.rel e2 ⟨_, upd_same, rpL_step ok.rel st _ _ (rpL_app rl (rpL_cons r1 rpL_nil))⟩)) rfl q⟩
theorem de_app {o : Expr} {to : TED} {es : List Expr} {t : TAD} {apos cpos : Pos} (ho : DE X W o to) (ha : DA X W (e :: es) t) (hbase : attributeBase o "append" X.env (eval o X.env) = eval o X.env := by rfl)
    (hfew : ((backTo cpos (starEach (e :: es) X.env)).all (fun x => !x.1) && (backToKw cpos (keywordEach [] X.env)).all (fun x => x.1.isSome)
      && decide ((e :: es).length + ([] : List Keyword).length + (if ([] : List Keyword).isEmpty then 0 else 1) < 30)) = true := by rfl)
    (hline : (apos.endLine == cpos.line) = true := by rfl) (hs : starEach (e :: es) X.env = (false, eval e X.env) :: starEach es X.env := by rfl) (hplain : (backTo cpos (starEach es X.env)).any (·.1) = false := by rfl) :
    DE X W (.Call (.Attribute o "append" apos) (e :: es) [] cpos) (dBM "list" rdApp to t) :=
  de_bm PySem.F.plainAttrs_list PySem.F.slot_list_append PySem.F.type_list_append mt_append app_lift ho ha hbase hfew hline hs hplain

/-! ### what a loop walks -/
structure ItD (K : PySem.W.Frag) (J : It) (xs : List D) (fr : List (V × D)) : Prop where
  go : ∀ (i : Nat) (d : D), xs[i]? = some d → ∀ H S σd σ, Ok K H S fr σd σ → J.go i H ∧ ∀ x H', J.yld i H x H' → Ok K H' S fr σd σ ∧ Rp K H' S d x
  stop : ∀ H S σd σ, Ok K H S fr σd σ → J.stop xs.length H
abbrev TID := Si → Sd → (List D → Sd → Prop) → Prop
def upI (K : PySem.W.Frag) (W : Wi) (t : TID) : TI := fun σ H R => ∃ σd S fr Rd, Ok K H S fr σd σ ∧ Cl K W fr ∧ t σd S Rd ∧ ∀ J xs H' S' fr', Ok K H' S' (fr' ++ fr) σd σ → ItD K J xs (fr' ++ fr) → Rd xs S' → R J H'
structure DI (X : Cx) (W : Wi) (tg iter : Expr) (t : TID) : Prop where
  p : PI X tg iter (upI X.K W t)
theorem PI.imp {tg iter : Expr} {t t' : TI} (h : PI X tg iter t) (k : ∀ σ H Q, t' σ H Q → t σ H Q) : PI X tg iter t' := ⟨fun pins s σ H Q I q => h.run pins s σ H Q I (k _ _ _ q)⟩
theorem itd_list {K : PySem.W.Frag} {a : Addr} {ds : List D} {fr : List (V × D)} : ItD K (Itl K a) ds ((.ref a, .lst ds) :: fr) where
  go := fun i d e H S σd σ ok => by
    obtain ⟨a', vs, e1, q, r⟩ := rp_list ok.rel ok.head
    have e1' : V.ref a = .ref a' := e1
    cases e1'
    obtain ⟨v, h1, h2⟩ := rpL_get r e
    refine ⟨⟨vs, v, q, h1⟩, fun x H' y => ?_⟩
    obtain ⟨e2, y⟩ := y
    subst e2
    have h3 := y vs q
    rw [h1] at h3
    cases h3
    exact ⟨ok, h2⟩
  stop := fun H S σd σ ok => by
    obtain ⟨a', vs, e1, q, r⟩ := rp_list ok.rel ok.head
    have e1' : V.ref a = .ref a' := e1
    cases e1'
    exact ⟨vs, q, by rw [rpL_len r]; exact Nat.le_refl _⟩
theorem itd_tup {K : PySem.W.Frag} {a : Addr} {ds : List D} {fr : List (V × D)} : ItD K (Itt K a) ds ((.ref a, .tup ds) :: fr) where
  go := fun i d e H S σd σ ok => by
    obtain ⟨a', vs, e1, q, r⟩ := ok.head
    have e1' : V.ref a = .ref a' := e1
    cases e1'
    obtain ⟨v, h1, h2⟩ := rpL_get r e
    refine ⟨⟨vs, v, q, h1⟩, fun x H' y => ?_⟩
    obtain ⟨e2, y⟩ := y
    subst e2
    have h3 := y vs q
    rw [h1] at h3
    cases h3
    exact ⟨ok, h2⟩
  stop := fun H S σd σ ok => by
    obtain ⟨a', vs, e1, q, r⟩ := ok.head
    have e1' : V.ref a = .ref a' := e1
    cases e1'
    exact ⟨vs, q, by rw [rpL_len r]; exact Nat.le_refl _⟩
def rgD (lo : Int) (n : Nat) : List D := (List.range n).map fun (i : Nat) => D.int (lo + i)
theorem itd_rng {K : PySem.W.Frag} {lo : Int} {n : Nat} {fr : List (V × D)} : ItD K (Itr lo n) (rgD lo n) fr where
  go := fun i d e H S σd σ ok => by
    unfold rgD at e
    rw [List.getElem?_map] at e
    cases q : (List.range n)[i]? with
    | none => rw [q] at e; cases e
    | some j =>
      rw [q] at e
      cases e
      obtain ⟨h1, h2⟩ := List.getElem?_eq_some_iff.mp q
      rw [List.getElem_range] at h2
      subst h2
      refine ⟨show i < n by simpa using h1, fun x H' y => ?_⟩
      obtain ⟨e2, y⟩ := y
      subst e2
      subst y
      exact ⟨ok, rfl⟩
  stop := fun H S σd σ ok => by
    unfold rgD
    rw [List.length_map, List.length_range]
    exact Nat.le_refl n
def dRng1 (ta : TAD) : TID := fun σ S R => ta σ S fun xs S1 => match xs with
  | [.int j] => (-(2 ^ 62) ≤ j ∧ j < 2 ^ 62) ∧ R (rgD 0 j.toNat) S1
  | _ => False
def dRng2 (ta : TAD) : TID := fun σ S R => ta σ S fun xs S1 => match xs with
  | [.int i, .int j] => (-(2 ^ 62) ≤ i ∧ i < 2 ^ 62 ∧ -(2 ^ 62) ≤ j ∧ j < 2 ^ 62) ∧ R (rgD i (j - i).toNat) S1
  | _ => False
theorem di_rng1 {a tg : Expr} {ta : TAD} {p pos : Pos} (hg : Gl X "range") (hm : X.mg "range" = none) (ha : DA X W [a] ta) (hs : starEach [a] X.env = [(false, eval a X.env)] := by rfl) : DI X W tg (.Call (.Name "range" p) [a] [] pos) (dRng1 ta) :=
  ⟨PI.imp (pi_range1 hg hm ha.p hs) fun σ H R ⟨σd, S, fr, Rd, ok, cl, h, k⟩ => ⟨σd, S, fr, _, ok, cl, h, fun vs ds H1 S1 ok1 r1 q => by
    cases ds with
    | nil => exact (show False from q).elim
    | cons d r => cases r with
      | cons _ _ => cases d <;> exact (show False from q).elim
      | nil => cases d with
        | int j =>
          obtain ⟨v, rfl, r2⟩ := rpL1 r1
          have e : v = .int j := r2
          subst e
          exact ⟨j, rfl, q.1.1, q.1.2, k _ _ H1 S1 [] ok1 itd_rng q.2⟩
        | _ => exact (show False from q).elim⟩⟩
/-! ### for -/
def dLoop (g : TGD) (tb : TSD) (D : EndsD) : List Dv.D → Si → Sd → Prop
  | [], σ, S => D.nx σ S
  | x :: r, σ, S => g x σ S fun σ2 S2 => tb { D with nx := dLoop g tb D r, ct := dLoop g tb D r, bk := D.nx } σ2 S2
def dFor (ti : TID) (g : TGD) (tb : TSD) : TSD := fun D σ S => ti σ S fun xs S1 => dLoop g tb D xs σ S1
theorem ds_for {vs : List Nat} {tg iter : Expr} {body : List Stmt} {ti : TID} {g : TGD} {tb : TSD} (hp : PassesOwn (model X.prog X.w) X.A X.env X.xe) (hc : X.calm = true) (hi : DI X W tg iter ti) (hg : DG X W vs tg g) (hb : DB X W body tb)
    (hs : ∀ x, foldedSetIterable iter X.env x = pure x := by intro _; rfl) : DS X W (.For tg iter body [] pos) (dFor ti g tb) :=
  ⟨PS.imp (ps_for hp hc hi.p hg.p hb.p hs) fun D σ H ⟨σd, S, fr, Dd, ok, cl, h, k⟩ => ⟨σd, S, fr, _, ok, cl, h, fun J xs H1 S1 fr' ok1 it q => by
    refine ⟨fun i m σ' H' => m = xs.length - i ∧ i ≤ xs.length ∧ ∃ σd' S', Ok X.K H' S' (fr' ++ fr) σd' σ' ∧ dLoop g tb Dd (xs.drop i) σd' S', ⟨_, rfl, Nat.zero_le _, σd, S1, ok1, by simpa using q⟩, ?_⟩
    rintro i m σ' H' ⟨rfl, hi, σd', S', ok', q'⟩
    by_cases hlt : i < xs.length
    · have ex : xs[i]? = some xs[i] := List.getElem?_eq_getElem hlt
      have dr : xs.drop i = xs[i] :: xs.drop (i + 1) := List.drop_eq_getElem_cons hlt
      rw [dr] at q'
      obtain ⟨g1, g2⟩ := it.go i _ ex H' S' σd' σ' ok'
      refine .inr ⟨g1, fun σ2 H2 => ∃ σd2 S2, Ok X.K H2 S2 (fr' ++ fr) σd2 σ2 ∧ dLoop g tb Dd (xs.drop (i + 1)) σd2 S2, fun σ2 H2 ⟨σd2, S2, h1, h2⟩ => ⟨_, by omega, rfl, hlt, σd2, S2, h1, h2⟩, fun x H2 y => ?_⟩
      obtain ⟨ok2, r2⟩ := g2 x H2 y
      refine ⟨σd', S', fr' ++ fr, _, xs[i], ok2, cl.pre, r2, q', fun σ3 σd3 H3 S3 ok3 _ q3 => ⟨σd3, S3, fr' ++ fr, _, ok3, cl.pre, q3, ?_⟩⟩
      exact ⟨fun σd4 σ4 H4 S4 ok4 q4 => ⟨σd4, S4, ok4, q4⟩, fun v d σd4 σ4 H4 S4 ok4 r4 q4 => k.rt v d σd4 σ4 H4 S4 ok4.pre r4 q4, fun σd4 σ4 H4 S4 ok4 q4 => k.nx σd4 σ4 H4 S4 ok4.pre q4, fun σd4 σ4 H4 S4 ok4 q4 => ⟨σd4, S4, ok4, q4⟩⟩
    · have e : i = xs.length := by omega
      subst e
      rw [List.drop_length] at q'
      exact .inl ⟨it.stop H' S' σd' σ' ok', k.nx σd' σ' H' S' ok'.pre q'⟩⟩⟩

/-! ### while -/
def dWhile (c : TTD) (tb : TSD) : TSD := fun D σ S => ∃ Wd : Nat → Si → Sd → Prop, (∃ m, Wd m σ S) ∧ ∀ m σ S, Wd m σ S →
  c σ S fun b S1 => if b = true then tb { D with nx := fun σ' S' => ∃ m', m' < m ∧ Wd m' σ' S', ct := fun σ' S' => ∃ m', m' < m ∧ Wd m' σ' S', bk := D.nx } σ S1 else D.nx σ S1
theorem ds_while {body : List Stmt} {tb : TSD} (hp : PassesOwn (model X.prog X.w) X.A X.env X.xe) (hc : DT X W c tc) (hb : DB X W body tb) : DS X W (.While c body [] pos) (dWhile tc tb) :=
  ⟨PS.imp (ps_while hp hc.p hb.p) fun D σ H ⟨σd, S, fr, Dd, ok, cl, ⟨Wd, ⟨m, w⟩, hw⟩, k⟩ =>
    ⟨fun m σ' H' => ∃ σd' S', Ok X.K H' S' fr σd' σ' ∧ Wd m σd' S', ⟨m, σd, S, ok, w⟩, fun m σ' H' ⟨σd', S', ok', w'⟩ => ⟨σd', S', fr, _, ok', cl, hw m σd' S' w', fun b H1 S1 ok1 q => by
      cases b with
      | true =>
        refine (show ∃ N : L2.St → Hp → Prop, _ from ⟨fun σ2 H2 => ∃ m' σd2 S2, m' < m ∧ Ok X.K H2 S2 fr σd2 σ2 ∧ Wd m' σd2 S2, fun σ2 H2 ⟨m', σd2, S2, h1, h2, h3⟩ => ⟨m', h1, σd2, S2, h2, h3⟩, σd', S1, fr, _, ok1, cl, (if_pos rfl : _ = _) ▸ q, ?_⟩)
        exact ⟨fun σd4 σ4 H4 S4 ok4 ⟨m', h1, h2⟩ => ⟨m', σd4, S4, h1, ok4, h2⟩, k.rt, k.nx, fun σd4 σ4 H4 S4 ok4 ⟨m', h1, h2⟩ => ⟨m', σd4, S4, h1, ok4, h2⟩⟩
      | false => exact (show D.nx σ' H1 from k.nx σd' σ' H1 S1 ok1 (by simpa using q))⟩⟩⟩
end
end Dv

/-! Readings by value, 5: comprehensions, defs, the law's end. -/
namespace Dv
open PySem L2 PyProof.Rows

def wipeD (σ : Si) : List Nat → Si
  | [] => σ
  | v :: vs => (wipeD σ vs).set v none
section
variable {K : PySem.W.Frag} {H : Hp} {S : Sd} {fr : List (V × D)} {σd : Si} {σ : L2.St}
theorem Ok.wipe (o : Ok K H S fr σd σ) : ∀ vs : List Nat, Ok K H S fr (wipeD σd vs) (L2.wipe σ vs)
  | [] => o
  | v :: vs => (Ok.wipe o vs).gone v none
theorem wipe_wipe (σ : L2.St) (vs : List Nat) : L2.wipe (L2.wipe σ vs) vs = L2.wipe σ vs := by
  have gen : ∀ (ws : List Nat), (∀ w ∈ ws, w ∈ vs) → L2.wipe (L2.wipe σ ws) vs = L2.wipe σ vs := by
    intro ws
    induction ws with
    | nil => intro _; rfl
    | cons w ws ih =>
      intro h
      show L2.wipe ((L2.wipe σ ws).set w none) vs = L2.wipe σ vs
      rw [wipe_set (h w List.mem_cons_self)]
      exact ih fun x hx => h x (List.mem_cons_of_mem _ hx)
  exact gen vs fun _ h => h
end

section
variable {X : Cx} {W : Wi} {pos : Pos}
structure DTs (X : Cx) (W : Wi) (ifs : List Expr) (t : TTD) : Prop where
  p : PTs X ifs (upT X.K W t)
theorem PTs.imp {ifs : List Expr} {t t' : TT} (h : PTs X ifs t) (k : ∀ σ H Q, t' σ H Q → t σ H Q) : PTs X ifs t' := ⟨fun pins s σ H Q I q => h.run pins s σ H Q I (k _ _ _ q)⟩
def dYes : TTD := fun _ S Q => Q true S
theorem dts_nil : DTs X W [] dYes := ⟨PTs.imp pts_nil fun σ H Q ⟨σd, S, fr, Qd, ok, cl, h, k⟩ => k true H S ok h⟩
def dLcL (g : TGD) (tt : TTD) (te : TED) (p : Addr) (σw : Si) : List D → List D → Sd → (List D → Sd → Prop) → Prop
  | [], acc, S, Q => Q acc S
  | x :: r, acc, S, Q => g x σw S fun σ2 S2 => tt σ2 S2 fun b S3 => if b = true then te σ2 S3 fun y S4 => S4 p = some (.lst acc) ∧ acc.length < 16777216 ∧ dLcL g tt te p σw r (acc ++ [y]) (upS S4 p (.lst (acc ++ [y]))) Q
    else dLcL g tt te p σw r acc S3 Q
def dComp (ti : TID) (g : TGD) (tt : TTD) (te : TED) (vs : List Nat) : TED := fun σ S Q => ti σ S fun xs S1 => ∀ p, S1 p = none → dLcL g tt te p (wipeD σ vs) xs [] (upS S1 p (.lst [])) fun acc S2 => S2 p = some (.lst acc) ∧ Q (.lst acc) (del S2 p)
theorem lc_lift {K : PySem.W.Frag} {ti : TID} {g : TGD} {tt : TTD} {te : TED} {vs : List Nat} (σ : L2.St) (H : Hp) (Q : VK) (h : upE K W (dComp ti g tt te vs) σ H Q) :
    tLc (upI K W ti) (upG K W0 vs g) (upT K W0 tt) (upE K W0 te) vs σ H Q := by
  obtain ⟨σd, S, fr, Qd, ok, cl, h, k⟩ := h
  refine ⟨σd, S, fr, _, ok, cl, h, fun J xs H1 S1 fr' ok1 it q => ?_⟩
  intro Dl hD
  have q0 := q Dl (ok1.rel.free hD)
  have ok2 : Ok K (upd H1 Dl (.lst [])) (upS S1 Dl (.lst [])) (fr' ++ fr) σd σ := ok1.own hD rpL_nil
  have Fin : (List D → Sd → Prop) := fun acc S2 => S2 Dl = some (.lst acc) ∧ Qd (.lst acc) (del S2 Dl)
  refine ⟨fun i m H' => m = xs.length - i ∧ i ≤ xs.length ∧ ∃ S' acc, RelS K H' S' ∧ FrOk K H' S' ((fr' ++ fr) ++ prs σd σ) ∧ dLcL g tt te Dl (wipeD σd vs) (xs.drop i) acc S' (fun acc S2 => S2 Dl = some (.lst acc) ∧ Qd (.lst acc) (del S2 Dl)),
    ⟨_, rfl, Nat.zero_le _, _, [], ok2.rel, ok2.out, by simpa using q0⟩, ?_⟩
  rintro i m H' ⟨rfl, hi, S', acc, R', F', q'⟩
  have okp : Ok K H' S' ((fr' ++ fr) ++ prs σd σ) σd σ := ⟨R', F', ok.len, fun i d e => by
    obtain ⟨v, h1, _⟩ := ok.si i d e
    exact ⟨v, h1, F' (v, d) (List.mem_append_right _ (prs_mem h1 e))⟩⟩
  have ok' : Ok K H' S' (fr' ++ fr) σd σ := ⟨R', fun p hp => F' p (List.mem_append_left _ hp), okp.len, okp.si⟩
  by_cases hlt : i < xs.length
  · have ex : xs[i]? = some xs[i] := List.getElem?_eq_getElem hlt
    have dr : xs.drop i = xs[i] :: xs.drop (i + 1) := List.drop_eq_getElem_cons hlt
    rw [dr] at q'
    obtain ⟨g1, g2⟩ := it.go i _ ex H' S' σd σ ok'
    refine .inr ⟨g1, fun H2 => ∃ S2 acc2, RelS K H2 S2 ∧ FrOk K H2 S2 ((fr' ++ fr) ++ prs σd σ) ∧ dLcL g tt te Dl (wipeD σd vs) (xs.drop (i + 1)) acc2 S2 (fun acc S2 => S2 Dl = some (.lst acc) ∧ Qd (.lst acc) (del S2 Dl)), fun H2 ⟨S2, acc2, h1, h2, h3⟩ => ⟨_, by omega, rfl, hlt, S2, acc2, h1, h2, h3⟩, fun x H2 y => ?_⟩
    obtain ⟨ok3, _⟩ := g2 x H2 y
    obtain ⟨_, r2⟩ := (it.go i _ ex H' S' σd σ ok').2 x H2 y
    have okp3 : Ok K H2 S' ((fr' ++ fr) ++ prs σd σ) σd σ := ⟨ok3.rel, ok3.out, ok3.len, ok3.si⟩
    refine ⟨wipeD σd vs, S', (fr' ++ fr) ++ prs σd σ, _, xs[i], okp3.wipe vs, Cl.zero, r2, q', fun σ3 σd3 H3 S3 ok4 hw q3 => ⟨hw.trans (wipe_wipe σ vs), σd3, S3, (fr' ++ fr) ++ prs σd σ, _, ok4, Cl.zero, q3, fun b H4 S4 ok5 q4 => ?_⟩⟩
    cases b with
    | true =>
      refine (show upE K W0 te σ3 H4 _ from ⟨σd3, S4, (fr' ++ fr) ++ prs σd σ, _, ok5, Cl.zero, (by simpa using q4), fun y dy H5 S5 ok6 r6 q5 => ?_⟩)
      obtain ⟨p1, p2, p3⟩ := q5
      obtain ⟨ws, hv, rl⟩ := rp_obj ok6.rel p1
      have st : Step H5 S5 (upd H5 Dl (.lst (ws ++ [y]))) (upS S5 Dl (.lst (acc ++ [dy]))) := step_set p1
      have okf := ok6.step st (rel_set ok6.rel p1 ⟨_, upd_same, rpL_step ok6.rel st _ _ (rpL_app rl (rpL_cons r6 rpL_nil))⟩)
      exact ⟨ws, hv, by rw [← rpL_len rl]; exact sz_lt' p2, _, _, okf.rel, okf.fr, p3⟩
    | false => exact ⟨S4, acc, ok5.rel, ok5.fr, by simpa using q4⟩
  · have e : i = xs.length := by omega
    subst e
    rw [List.drop_length] at q'
    obtain ⟨p1, p2⟩ := q'
    exact .inl ⟨it.stop H' S' σd σ ok', k _ (.lst acc) H' _ (ok'.pre.step step_del (rel_del ok'.rel)) (rp_frozen ok'.rel p1) p2⟩
theorem de_lc {elt tg iter : Expr} {ifs : List Expr} {scope : Scope} {own : List (Str × Nat)} {ti : TID} {g : TGD} {tt : TTD} {te : TED} (hc : X.calm = true) (hN : X.N.Nodup) (hi : DI X W tg iter ti) (ok : BlkOk X.N X.env.scope scope own)
    (hg : ∀ (s : Shared) (H : Hp) (C : Addr) (cl : List (Str × Addr)) (fp : List Addr), DG (X.blk s H scope (compEnvC scope cl C X.env) fp) W0 (own.map (·.2)) tg g) (ht : ∀ (s : Shared) (H : Hp) (C : Addr) (cl : List (Str × Addr)) (fp : List Addr), DTs (X.blk s H scope (compEnvC scope cl C X.env) fp) W0 ifs tt)
    (he : ∀ (s : Shared) (H : Hp) (C : Addr) (cl : List (Str × Addr)) (fp : List Addr), DE (X.blk s H scope (compEnvC scope cl C X.env) fp) W0 elt te) (hs : ∀ x, foldedSetIterable iter X.env x = pure x := by intro _; rfl) :
    DE X W (.ListComp elt [⟨tg, iter, ifs, 0⟩] scope pos) (dComp ti g tt te (own.map (·.2))) :=
  ⟨PE.imp (pe_lc hc hN hi.p ok (fun s H C cl fp => (hg s H C cl fp).p) (fun s H C cl fp => (ht s H C cl fp).p) (fun s H C cl fp => (he s H C cl fp).p) hs) fun σ H Q h => lc_lift σ H Q h⟩
end

/-! ### defs -/
def startD (N : List Str) (ds : List D) : Si := ds.map some ++ List.replicate (N.length - ds.length) none
theorem start_ok {K : PySem.W.Frag} {H : Hp} {S : Sd} {fr : List (V × D)} {N : List Str} {ds : List D} {vs : List V} (R : RelS K H S) (F : FrOk K H S fr) (r : RpL K H S ds vs) : Ok K H S fr (startD N ds) (L2.start N vs) := by
  have hl := rpL_len r
  refine ⟨R, F, by unfold startD L2.start; simp [hl], fun i d e => ?_⟩
  unfold startD at e
  unfold L2.start
  rcases Nat.lt_or_ge i ds.length with z | z
  · rw [List.getElem?_append_left (by simpa using z), List.getElem?_map] at e
    cases q : ds[i]? with
    | none => rw [q] at e; cases e
    | some d' =>
      rw [q] at e
      cases e
      obtain ⟨v, h1, h2⟩ := rpL_get r q
      exact ⟨v, by rw [List.getElem?_append_left (by simpa [← hl] using z), List.getElem?_map, h1]; rfl, h2⟩
  · rw [List.getElem?_append_right (by simpa using z), List.getElem?_replicate] at e
    split at e <;> cases e
/-- what a body is run in -/
abbrev bodyCx (P : Program) (w : World) (K : PySem.W.Frag) (mg : Str → Option Value) (base : Heap) (N : List Str) (qual : Str) (st : Stmt) (f : Addr) (cdv : Value) (A : Around) (outer : List Env) (s : Shared) (H : Hp) (E : XK) : Cx :=
  cxOf (L2N.CX P w) P w K mg base N qual (defScope st) f cdv A outer s H E
abbrev wiOf (E : XK) (Ed : XKD) : Wi := ⟨fun cls d _ H => E cls d H, fun x _ S => Ed x S⟩
theorem takesB {P : Program} {w : World} {K : PySem.W.Frag} {mg : Str → Option Value} {base : Heap} {N : List Str} {qual : Str} {st : Stmt} {f : Addr} {cdv : Value} {A : Around} {outer : List Env} {s : Shared} {H : Hp} {E : XK} {Ed : XKD} :
    L2N.Takes (bodyCx P w K mg base N qual st f cdv A outer s H E) (wiOf E Ed).V := L2N.takes_of rfl rfl rfl rfl
theorem passB {P : Program} {w : World} {K : PySem.W.Frag} {mg : Str → Option Value} {base : Heap} {N : List Str} {qual : Str} {st : Stmt} {f : Addr} {cdv : Value} {A : Around} {outer : List Env} {s : Shared} {H : Hp} {E : XK} :
    PassesOwn (model P w) (bodyCx P w K mg base N qual st f cdv A outer s H E).A (bodyCx P w K mg base N qual st f cdv A outer s H E).env (bodyCx P w K mg base N qual st f cdv A outer s H E).xe :=
  passes_of (X := bodyCx P w K mg base N qual st f cdv A outer s H E) rfl
section
variable {P : Program} {w : World} {K : PySem.W.Frag} {mg : Str → Option Value} {base : Heap}
/-- THE RULE for a def -/
theorem okD {x qual : Str} {st : Stmt} {f : Addr} {fd : FuncData} {N ps : List Str} {k : Nat} {sp : SpD} {t : XKD → TSD} (F : Fun K x qual st f fd) (Sc : FnScope N ps (defScope st)) (len : ∀ ds S Q E, sp ds S Q E → ds.length = ps.length)
    (hb : ∀ (cdv : Value) (A : Around) (outer : List Env) (s : Shared) (H : Hp) (E : XK) (Ed : XKD), Hx.RoomG k (A.deeper (envOfC qual (defScope st) s.heap.objs.size f cdv)) → DB (bodyCx P w K mg base N qual st f cdv A outer s H E) (wiOf E Ed) (defBody st) (t Ed))
    (hp : ∀ ds S Q Ed, sp ds S Q Ed → t Ed { nx := fun _ S' => Q .non S', rt := Q } (startD N ds) S) : Hx.FnG P w K mg base (L2N.CX P w) (k + 1) f fd ps (upF K sp) := by
  refine Hx.fnG_of F Sc (fun vs H Q E h => ?_) (fun cdv _ A outer s H vs Q E hr h => ?_)
  · obtain ⟨ds, S, fr, Qd, Ed, R, f, r, h, _⟩ := h
    rw [← rpL_len r]
    exact len ds S Qd Ed h
  · obtain ⟨ds, S, fr, Qd, Ed, R, f, r, h, hq, hx⟩ := h
    refine ⟨_, (hb cdv A outer s H E Ed hr).p, startD N ds, S, fr, { nx := fun _ S' => Qd .non S', rt := Qd }, start_ok R f r, fun σd σ H' S' cls od y o rx q => hx cls od y H' S' o.rel o.fr rx q, hp ds S Qd Ed h, ?_⟩
    exact ⟨fun σd σ H' S' o q => hq .non .non H' S' o.rel o.fr rfl q, fun v d σd σ H' S' o rv q => hq v d H' S' o.rel o.fr rv q, fun _ _ _ _ _ q => q.elim, fun _ _ _ _ _ q => q.elim⟩
end
/-- law's promise -/
def spLawD : SpD := fun ds S Q _ => ∃ ns : List Int, ds = [.lst (ns.map D.int)] ∧ ns.length ≤ 63 ∧ (∀ S', Q (.bl true) S')
theorem law_start {K : PySem.W.Frag} {H : Hp} {a : Addr} {ns : List Int} (h : SqL K H a (ns.map V.int)) (hl : ns.length ≤ 63) : upF K spLawD [.ref a] H (fun v _ => v = .bl true) fun _ _ _ => False := by
  refine ⟨[.lst (ns.map D.int)], fun _ => none, [], fun d _ => d = .bl true, fun _ _ => False, fun a o e => (by cases e), fun p hp => (by cases hp), ?_, ⟨ns, rfl, hl, fun _ => rfl⟩, fun v d H' S' _ _ r e => ?_, fun _ _ _ _ _ _ _ _ q => q⟩
  · refine rpL_cons ⟨a, ns.map V.int, rfl, ?_, rpL_of_ints⟩ rpL_nil
    rcases h with h | h
    · exact .inl ⟨h, rfl⟩
    · exact .inr h
  · subst e
    exact r
theorem CX_no {P : Program} {w : World} {outer : List Env} {H : Hp} {s : Shared} {e : Value} {s' : Shared} (h : L2N.CX P w outer H s (fun _ _ _ => False) e s') : False := by
  obtain ⟨_, _, _, _, _, _, _, _, _, _, _, _, z⟩ := h
  exact z.elim
end Dv

/-! Readings by value, 6: more of the built-ins. -/
namespace PyProof.Rows
open PySem
section
variable {prog : Program} {w : World} {A : Around} {E : Value → Shared → Prop} {s : Shared}
theorem collect_tup {l : Addr} {vs : List Value} {Q : List Value → Shared → Prop} (hl : IsTup s.heap l vs.toArray)
    (h : Q vs { s with heap := (s.heap.push (seqObj "list" #[] 0)).update s.heap.objs.size (Obj.mapSeq (· ++ vs.toArray)) }) (hsz : vs.length ≤ sizeLine) :
    wpAny (model prog w) A (collect (.ref l)) Q E s := by
  obtain ⟨o, ho, hc, n, hd⟩ := id hl
  unfold collect
  refine wpAny_bind (wpAny_runValue (codeAny_builtin entry_proto_collect' ?_))
  show wpAny _ _ (do again (.builtin "list.__iadd__" ⟨[← newList [], .ref l], []⟩)) _ _ s
  refine wpAny_bind (wpAny_newList (wpAny_pure ⟨Code.quiet_builtin _ (by decide +kernel), codeAny_builtin entry_list_iadd' ?_⟩))
  show wpAny _ _ (Builtin.List.listExtendWith (.ref s.heap.objs.size) (.ref l) (.ref s.heap.objs.size)) _ _ { s with heap := s.heap.push (seqObj "list" #[] 0) }
  unfold Builtin.List.listExtendWith
  have ho' : (s.heap.push (seqObj "list" #[] 0)).get? l = some o := Heap.get?_push_of_some _ ho
  refine wpAny_bind (wpAny_typeOf (T := "tuple") ⟨o, ho', hc⟩ ?_)
  have ht : (Value.type "tuple" == Value.type "tuple") = true := by rfl
  rw [if_pos (by rw [ht]; simp)]
  refine wpAny_bind (listItems_at ho' hd ?_)
  refine wpAny_bind (listItems_at (xs := #[]) (n := 0) (Heap.get?_push_size _ rfl) rfl ?_)
  rw [if_neg (by simp)]
  refine wpAny_bind (listUpdate_at (xs := #[]) (n := 0) (Heap.get?_push_size _ rfl) rfl ?_ (Nat.zero_le _) (by show (#[] ++ vs.toArray).size ≤ sizeLine + 1; simp only [Array.size_append, List.size_toArray, List.length_nil]; omega))
  refine wpAny_pure ?_
  show wpAny (model prog w) A (do
      let o ← load s.heap.objs.size
      match o.data with
      | .seq xs _ => pure xs.toList
      | _ => unsupported "internal:collect") Q E { s with heap := (s.heap.push (seqObj "list" #[] 0)).update s.heap.objs.size (Obj.mapSeq (· ++ vs.toArray)) }
  refine wpAny_bind (wpAny_load (get?_update_seq (Heap.get?_push_size _ rfl) _) ?_)
  show wpAny _ _ (pure ((#[] : Array Value) ++ vs.toArray).toList) Q E _
  rw [show ((#[] : Array Value) ++ vs.toArray).toList = vs by simp]
  exact wpAny_pure h
theorem sorted_tupInts {l : Addr} {vs : List Value} {ns : List Int} {Q : Value → Shared → Prop} (hl : IsTup s.heap l vs.toArray) (hI : IntsAre vs ns) (h64 : vs.length < 64)
    (h : ∀ (out : Array Value) (ns' : List Int), IntsAre out.toList ns' → ns'.Perm ns → ns'.Pairwise (· ≤ ·) → Q (.ref (s.heap.objs.size + 1)) { s with heap := sortedAll s.heap vs out }) :
    wpAny (model prog w) A (call (.builtin "sorted") [.ref l]) Q E s := by
  refine Calls.call_function_entry kind_sorted plain_sorted entry_sorted (args_sorted1 _) ?_
  unfold Builtin.«sorted»
  refine wpAny_bind (m := checkCount "sorted" 1 1 _) (wpAny_pure ?_)
  refine wpAny_bind (collect_tup hl ?_ (by rw [sizeLine_eq]; omega))
  refine wpAny_bind (wpAny_newList ?_)
  have hsz : ((s.heap.push (seqObj "list" #[] 0)).update s.heap.objs.size (Obj.mapSeq (· ++ vs.toArray))).objs.size = s.heap.objs.size + 1 := by
    rw [Heap.size_update, size_push']
  have hoL : (((s.heap.push (seqObj "list" #[] 0)).update s.heap.objs.size (Obj.mapSeq (· ++ vs.toArray))).push (seqObj "list" vs.toArray 0)).get? (s.heap.objs.size + 1) = some (seqObj "list" vs.toArray 0) := by
    rw [← hsz]; exact Heap.get?_push_size _ rfl
  show wpAny _ _ _ _ _ { s with heap := ((s.heap.push (seqObj "list" #[] 0)).update s.heap.objs.size (Obj.mapSeq (· ++ vs.toArray))).push (seqObj "list" vs.toArray 0) }
  rw [hsz]
  refine wpAny_bind (wpAny_holding (wpAny_call_entry slot_list_sort ⟨_, hoL, rfl⟩ entry_list_sort (list_sort_tree hoL hI h64 fun out ns' a1 a2 a3 => ⟨_, rfl, ?_⟩) (args_list_sort _)))
  exact wpAny_pure ⟨_, rfl, h out ns' a1 a2 a3⟩
end
end PyProof.Rows

namespace HT
open PySem PyProof.Rows
section
variable {prog : Program} {w : World} {A : Around} {E : Value → Shared → Prop} {s : Shared}
end
end HT

namespace Dv
open PySem L2 PyProof.Rows
section
variable {X : Cx}
def rSortedT (K : PySem.W.Frag) : List V → Hp → VK → Prop := fun vs H Q => ∃ (a : Addr) (ns : List Int), vs = [V.ref a] ∧ SqT K H a (ns.map V.int) ∧ ns.length < 64 ∧
  ∀ (ns' : List Int) (p : Addr), ns'.Perm ns → ns'.Pairwise (· ≤ ·) → H p = none → Q (.ref p) (upd H p (.lst (ns'.map V.int)))
theorem cr_sortedT : CallR X (.builtin "sorted") (rSortedT X.K) := by
  intro pins s σ H vs us Q I r h
  obtain ⟨a, ns, rfl, hs, h64, q⟩ := h
  obtain ⟨its, rv, hl, _⟩ := I.tuple hs
  rw [Vals.ref1 r]
  have hi := rv.ints
  refine PyProof.Rows.sorted_tupInts hl hi (by rw [hi.length]; exact h64) fun out ns' h1 h2 h3 => ?_
  obtain ⟨ep, he'⟩ := PyProof.Rows.sortedAll_at s.heap its out
  have hlen : (ns'.map V.int).length ≤ sizeLine := by rw [List.length_map, h2.length_eq]; exact small64 h64
  exact ⟨.ref _, upd H (s.heap.objs.size + 1) (.lst (ns'.map V.int)), I.laid (t' := s.toks) (fun _ _ => PyProof.Rows.sortedAll_old) (Nat.le_succ _) ⟨hlen, out.toList, ep, vals_of_ints h1, he'⟩, rfl, q ns' _ h2 h3 (I.hok.fresh (Nat.le_succ _))⟩
theorem cd_sorted : CallD X (.builtin "sorted") rdSorted := ⟨_, cr_sorted.or cr_sortedT, fun H S fr σd σ xs ds Qv Qd ok r h k => by
  match ds, r, h with
  | [], _, h => exact (show False from h).elim
  | _ :: _ :: _, _, h => exact (show False from h).elim
  | [d], r, h =>
    obtain ⟨v, rfl, r0⟩ := rpL1 r
    obtain ⟨ns, e, h64, q⟩ := h
    obtain ⟨a, vs, rfl, q1, r1⟩ := rp_items ok.rel r0 e
    have e2 := rpL_ints r1
    subst e2
    rcases q1 with q1 | q1
    · exact .inl ⟨a, ns, rfl, q1, h64, fun ns' p h1 h2 hp => k _ (.lst (ns'.map D.int)) _ S (ok.new hp) (rp_lstNew ok.rel hp rpL_of_ints) (q ns' h1 h2)⟩
    · exact .inr ⟨a, ns, rfl, q1, h64, fun ns' p h1 h2 hp => k _ (.lst (ns'.map D.int)) _ S (ok.new hp) (rp_lstNew ok.rel hp rpL_of_ints) (q ns' h1 h2)⟩⟩

/-! ### a text times an int -/
def repS (x : Str) (n : Nat) : Str := ⟨(List.replicate n x.cps).foldl (· ++ ·) #[]⟩
def rRepS : R2 := fun x y H Q => ∃ z k, x = .str z ∧ y = .int k ∧ 0 ≤ k ∧ (z.length : Int) * k ≤ 16777216 ∧ k ≤ 16777216 ∧ Q (.str (repS z k.toNat)) H
theorem fold_rep (x : Array Nat) : ∀ (n : Nat) (acc : Array Nat), ((List.replicate n x).foldl (· ++ ·) acc).toList = acc.toList ++ (List.replicate n x.toList).flatten
  | 0, acc => by simp
  | n + 1, acc => by
    rw [List.replicate_succ, List.foldl_cons, fold_rep x n (acc ++ x)]
    simp [List.replicate_succ]
theorem repS_list (x : Str) (n : Nat) : (repS x n).cps.toList = (List.replicate n x.cps.toList).flatten := by
  unfold repS
  rw [fold_rep]
  rfl
theorem str_ext {x y : Str} (h : x.cps.toList = y.cps.toList) : x = y := by
  cases x; cases y
  congr 1
  exact Array.toList_inj.mp h
theorem op_mulS : OpR X (binaryOp .Mult) rRepS := by
  intro pins s σ H x y v u Q I rx ry h
  obtain ⟨z, k, rfl, rfl, h0, hz, hk, q⟩ := h
  obtain ⟨t, rfl⟩ := rx
  obtain ⟨t', rfl⟩ := ry
  refine PySem.P.mul_str ?_ ?_ ?_ ?_
  · have h1 : ¬ k < -(2 ^ 63 : Int) := by omega
    have h2 : ¬ k ≥ 2 ^ 63 := by omega
    rw [decide_eq_false h1, decide_eq_false h2]; rfl
  · intro h1 h2 h3
    have p1 : (0 : Int) < k := by omega
    have e2 : ((2 ^ 63 - 1 : Int) / k + 1) * k > 2 ^ 63 - 1 := by
      have := Int.lt_ediv_add_one_mul_self (2 ^ 63 - 1 : Int) p1
      omega
    have e3 : (2 ^ 63 - 1 : Int) / k + 1 ≤ z.length := by omega
    have e4 : ((2 ^ 63 - 1 : Int) / k + 1) * k ≤ z.length * k := Int.mul_le_mul_of_nonneg_right e3 (by omega)
    omega
  · intro h1 h2
    have e : ((z.length * k.toNat : Nat) : Int) = z.length * k := by
      rw [Int.natCast_mul, Int.toNat_of_nonneg h0]
    refine decide_eq_false ?_
    rw [sl_eq]
    omega
  · by_cases h1 : k < 1
    · rw [if_pos h1]
      have e : k = 0 := by omega
      subst e
      exact ⟨by decide, ⟨.str (repS z 0), H, I.tok _, ⟨_, rfl⟩, q⟩⟩
    · rw [if_neg h1]
      by_cases h2 : (k == 1 || z.length == 0) = true
      · rw [if_pos h2]
        have e : repS z k.toNat = z := by
          refine str_ext ?_
          rw [repS_list]
          rcases Bool.or_eq_true_iff.mp h2 with e | e
          · have e1 : k = 1 := eq_of_beq e
            subst e1
            simp
          · have e1 : z.length = 0 := eq_of_beq e
            have e2 : z.cps.toList = [] := List.length_eq_zero_iff.mp (by simpa [Str.length] using e1)
            rw [e2]
            simp
        rw [e] at q
        exact ⟨.str z, H, I, ⟨_, rfl⟩, q⟩
      · rw [if_neg h2]
        have hl : (repS z k.toNat).length ≤ sizeLine := by
          have e : (repS z k.toNat).length = k.toNat * z.length := by
            have := congrArg List.length (repS_list z k.toNat)
            simpa [Str.length] using this
          have e2 : ((k.toNat * z.length : Nat) : Int) = k * z.length := by
            rw [Int.natCast_mul, Int.toNat_of_nonneg h0]
          have e3 : k * (z.length : Int) = z.length * k := Int.mul_comm _ _
          rw [e, sl_eq]
          omega
        exact ⟨hl, ⟨.str (repS z k.toNat), H, I.tok _, ⟨_, rfl⟩, q⟩⟩
def rdMul : RD2
  | .int i, .int j, S, Q => i.natAbs.log2 + j.natAbs.log2 < 1000000 ∧ Q (.int (i * j)) S
  | .str z, .int k, S, Q => (0 ≤ k ∧ (z.length : Int) * k ≤ 16777216 ∧ k ≤ 16777216) ∧ Q (.str (repS z k.toNat)) S
  | _, _, _, _ => False
end

/-! ### xs[::-1] -/
section
variable {X : Cx} {W : Wi} {e : Expr} {te : TED} {pos : Pos}
def revS (z : Str) : Str := ⟨z.cps.toList.reverse.toArray⟩
def dRev (te : TED) : TED := fun σ S Q => te σ S fun x S1 => match x with
  | .tup ds => Q (.tup ds.reverse) S1
  | .lst ds => Q (.lst ds.reverse) S1
  | .str z => z.length ≤ 16777216 ∧ Q (.str (revS z)) S1
  | .obj a => match S1 a with
    | some (.lst ds) => Q (.lst ds.reverse) S1
    | _ => False
  | _ => False
/-! ### for over a list, a tuple, a text -/
def iAny (K : PySem.W.Frag) (tl : TE) : TI := fun σ H R => tl σ H fun x H1 => (∃ a, x = .ref a ∧ (∃ xs, SqL K H1 a xs) ∧ R (Itl K a) H1) ∨ (∃ a, x = .ref a ∧ (∃ xs, SqT K H1 a xs) ∧ R (Itt K a) H1) ∨ (∃ z, x = .str z ∧ R (Its z) H1)
theorem pi_any {tg : Expr} {tl : TE} (hl : PE X e tl) : PI X tg e (iAny X.K tl) := by
  refine ⟨fun pins s σ H R I h => ?_⟩
  refine thn (hl.run pins s σ H _ I h) fun v s1 ⟨x, H1, I1, r1, q1⟩ => ?_
  rcases q1 with ⟨a, ex, ⟨xs, hq⟩, q⟩ | ⟨a, ex, ⟨xs, hq⟩, q⟩ | ⟨z, ex, q⟩
  · subst ex
    cases r1
    obtain ⟨its, rv, p, hz⟩ := I1.list hq
    refine wpAny_pyIter_list p.isList ?_
    refine ⟨s1.heap.objs.size, [s1.heap.objs.size], _, _, H1, rfl, I1.kept (t' := s1.toks) fun b o e => Heap.get?_push_of_some _ e, turn_list a _, ⟨_, Heap.get?_push_size _ rfl, rfl, rfl⟩, fun b hb => ?_, q⟩
    have e : b = s1.heap.objs.size := by simpa using hb
    subst e
    exact I1.fpOk (Nat.le_refl _) (I1.hok.fresh (Nat.le_refl _))
  · subst ex
    cases r1
    obtain ⟨its, rv, p, hz⟩ := I1.tuple hq
    refine wpAny_pyIter_tuple (show s1.heap.IsTuple a its.toArray from p) ?_
    refine ⟨s1.heap.objs.size, [s1.heap.objs.size], _, _, H1, rfl, I1.kept (t' := s1.toks) fun b o e => Heap.get?_push_of_some _ e, turn_tuple a _, ⟨_, Heap.get?_push_size _ rfl, rfl, rfl⟩, fun b hb => ?_, q⟩
    have e : b = s1.heap.objs.size := by simpa using hb
    subst e
    exact I1.fpOk (Nat.le_refl _) (I1.hok.fresh (Nat.le_refl _))
  · subst ex
    obtain ⟨t, rfl⟩ := r1
    cases ha : z.cps.all (· < 128)
    · exact wpAny_pyIter_wide ha (pi_one (tk := s1.toks) I1 _ (turn_str _ z t "str_iterator" (.inr rfl)) ⟨_, Heap.get?_push_size _ rfl, rfl, rfl⟩ q)
    · exact wpAny_pyIter_ascii ha (pi_one (tk := s1.toks) I1 _ (turn_str _ z t "str_ascii_iterator" (.inl rfl)) ⟨_, Heap.get?_push_size _ rfl, rfl, rfl⟩ q)
def sgD (z : Str) : List D := z.cps.toList.map fun c => D.str ⟨#[c]⟩
theorem itd_str {K : PySem.W.Frag} {z : Str} {fr : List (V × D)} : ItD K (Its z) (sgD z) fr where
  go := fun i d e H S σd σ ok => by
    unfold sgD at e
    rw [List.getElem?_map] at e
    cases q : z.cps.toList[i]? with
    | none => rw [q] at e; cases e
    | some c =>
      rw [q] at e
      cases e
      have q2 : z.cps[i]? = some c := by simpa using q
      refine ⟨(Array.getElem?_eq_some_iff.mp q2).1, fun x H' y => ?_⟩
      obtain ⟨e2, c', e3, y⟩ := y
      subst e2
      rw [q2] at e3
      cases e3
      subst y
      exact ⟨ok, rfl⟩
  stop := fun H S σd σ ok => by
    show z.cps.size ≤ (sgD z).length
    unfold sgD
    simp
def dItr (te : TED) : TID := fun σ S R => te σ S fun x S1 => match x with
  | .lst ds => R ds S1
  | .tup ds => R ds S1
  | .str z => R (sgD z) S1
  | _ => False
theorem di_any {tg : Expr} (hl : DE X W e te) : DI X W tg e (dItr te) := ⟨PI.imp (pi_any hl.p) fun σ H R ⟨σd, S, fr, Rd, ok, cl, h, k⟩ => ⟨σd, S, fr, _, ok, cl, h, fun x dx H1 S1 ok1 r1 q => by
  cases dx with
  | lst ds =>
    obtain ⟨a, vs, e, q1, r2⟩ := rp_list ok1.rel r1
    subst e
    exact .inl ⟨a, rfl, ⟨vs, q1⟩, k _ ds H1 S1 [(.ref a, .lst ds)] (ok1.cons r1) itd_list q⟩
  | tup ds =>
    obtain ⟨a, vs, e, q1, r2⟩ := id r1
    subst e
    exact .inr (.inl ⟨a, rfl, ⟨vs, q1⟩, k _ ds H1 S1 [(.ref a, .tup ds)] (ok1.cons r1) itd_tup q⟩)
  | str z => exact .inr (.inr ⟨z, r1, k _ (sgD z) H1 S1 [] ok1 itd_str q⟩)
  | _ => exact (show False from q).elim⟩⟩

/-! ### a, b, c = x, y, z -/
def dPar3 (i j l : Nat) (ta : TAD) : TSD := fun D σ S => ta σ S fun vs S1 => match vs with
  | [v, w, u] => D.nx (((σ.set i (some v)).set j (some w)).set l (some u)) S1
  | _ => False
theorem ds_par3 (i j l : Nat) {x y z : Str} {a b c : Expr} {ta : TAD} {px py pz pt : Pos} {kt k2 pt2} (hc : X.calm = true) (hN : X.N.Nodup) (hi : X.N[i]? = some x) (hj : X.N[j]? = some y) (hl : X.N[l]? = some z) (hij : i ≠ j) (hil : i ≠ l) (hjl : j ≠ l)
    (hx : X.env.scope.names.lookup x = some .local) (hy : X.env.scope.names.lookup y = some .local) (hz : X.env.scope.names.lookup z = some .local) (ha : DA X W [a, b, c] ta)
    (hw : swappedStores [.Tuple [.Name x px, .Name y py, .Name z pz] kt pt] (.Tuple [a, b, c] k2 pt2) X.env = pure (some [x, y, z]))
    (hs : swapsWithSole [.Tuple [.Name x px, .Name y py, .Name z pz] kt pt] (.Tuple [a, b, c] k2 pt2) pos.line X.env = pure false := by rfl) :
    DS X W (.Assign [.Tuple [.Name x px, .Name y py, .Name z pz] kt pt] (.Tuple [a, b, c] k2 pt2) pos) (dPar3 i j l ta) :=
  ⟨PS.imp (ps_par3 hc hN hi hj hl hij hil hjl hx hy hz ha.p hw hs) fun D σ H ⟨σd, S, fr, Dd, ok, cl, h, k⟩ => ⟨σd, S, fr, _, ok, cl, h, fun vs ds H1 S1 ok1 r1 q => by
    cases ds with
    | nil => exact (show False from q).elim
    | cons d r => cases r with
      | nil => exact (show False from q).elim
      | cons d2 r => cases r with
        | nil => exact (show False from q).elim
        | cons d3 r => cases r with
          | cons _ _ => exact (show False from q).elim
          | nil =>
            obtain ⟨v, s, rfl, h1, h2⟩ := r1
            obtain ⟨w, u, rfl, h3, h4⟩ := rpL2 h2
            exact ⟨v, w, u, rfl, k.nx _ _ H1 S1 (((ok1.set h1 i).set h3 j).set h4 l) q⟩⟩⟩
end
end Dv

/-! Readings by value, x: the rows by which a reading is run. -/
namespace Dv
open PySem L2 PyProof.Rows
theorem isi_non_int  : isiD (.non) "int" = some false := by
  show kitB "NoneType" "int" = some false
  decide +kernel
theorem isi_non_bool  : isiD (.non) "bool" = some false := by
  show kitB "NoneType" "bool" = some false
  decide +kernel
theorem isi_non_str  : isiD (.non) "str" = some false := by
  show kitB "NoneType" "str" = some false
  decide +kernel
theorem isi_non_tuple  : isiD (.non) "tuple" = some false := by
  show kitB "NoneType" "tuple" = some false
  decide +kernel
theorem isi_non_list  : isiD (.non) "list" = some false := by
  show kitB "NoneType" "list" = some false
  decide +kernel
theorem isi_bl_int (b : Bool) : isiD (.bl b) "int" = some true := by
  show kitB "bool" "int" = some true
  decide +kernel
theorem isi_bl_bool (b : Bool) : isiD (.bl b) "bool" = some true := by
  show kitB "bool" "bool" = some true
  decide +kernel
theorem isi_bl_str (b : Bool) : isiD (.bl b) "str" = some false := by
  show kitB "bool" "str" = some false
  decide +kernel
theorem isi_bl_tuple (b : Bool) : isiD (.bl b) "tuple" = some false := by
  show kitB "bool" "tuple" = some false
  decide +kernel
theorem isi_bl_list (b : Bool) : isiD (.bl b) "list" = some false := by
  show kitB "bool" "list" = some false
  decide +kernel
theorem isi_int_int (i : Int) : isiD (.int i) "int" = some true := by
  show kitB "int" "int" = some true
  decide +kernel
theorem isi_int_bool (i : Int) : isiD (.int i) "bool" = some false := by
  show kitB "int" "bool" = some false
  decide +kernel
theorem isi_int_str (i : Int) : isiD (.int i) "str" = some false := by
  show kitB "int" "str" = some false
  decide +kernel
theorem isi_int_tuple (i : Int) : isiD (.int i) "tuple" = some false := by
  show kitB "int" "tuple" = some false
  decide +kernel
theorem isi_int_list (i : Int) : isiD (.int i) "list" = some false := by
  show kitB "int" "list" = some false
  decide +kernel
theorem isi_str_int (x : Str) : isiD (.str x) "int" = some false := by
  show kitB "str" "int" = some false
  decide +kernel
theorem isi_str_bool (x : Str) : isiD (.str x) "bool" = some false := by
  show kitB "str" "bool" = some false
  decide +kernel
theorem isi_str_str (x : Str) : isiD (.str x) "str" = some true := by
  show kitB "str" "str" = some true
  decide +kernel
theorem isi_str_tuple (x : Str) : isiD (.str x) "tuple" = some false := by
  show kitB "str" "tuple" = some false
  decide +kernel
theorem isi_str_list (x : Str) : isiD (.str x) "list" = some false := by
  show kitB "str" "list" = some false
  decide +kernel
theorem isi_tup_int (xs : List D) : isiD (.tup xs) "int" = some false := by
  show kitB "tuple" "int" = some false
  decide +kernel
theorem isi_tup_bool (xs : List D) : isiD (.tup xs) "bool" = some false := by
  show kitB "tuple" "bool" = some false
  decide +kernel
theorem isi_tup_str (xs : List D) : isiD (.tup xs) "str" = some false := by
  show kitB "tuple" "str" = some false
  decide +kernel
theorem isi_tup_tuple (xs : List D) : isiD (.tup xs) "tuple" = some true := by
  show kitB "tuple" "tuple" = some true
  decide +kernel
theorem isi_tup_list (xs : List D) : isiD (.tup xs) "list" = some false := by
  show kitB "tuple" "list" = some false
  decide +kernel
theorem isi_lst_int (xs : List D) : isiD (.lst xs) "int" = some false := by
  show kitB "list" "int" = some false
  decide +kernel
theorem isi_lst_bool (xs : List D) : isiD (.lst xs) "bool" = some false := by
  show kitB "list" "bool" = some false
  decide +kernel
theorem isi_lst_str (xs : List D) : isiD (.lst xs) "str" = some false := by
  show kitB "list" "str" = some false
  decide +kernel
theorem isi_lst_tuple (xs : List D) : isiD (.lst xs) "tuple" = some false := by
  show kitB "list" "tuple" = some false
  decide +kernel
theorem isi_lst_list (xs : List D) : isiD (.lst xs) "list" = some true := by
  show kitB "list" "list" = some true
  decide +kernel
section
variable {S : Sd} {Q : DK} {R : List D → Sd → Prop} {σ : Si}
theorem x_var0 {d : D} {r : Si} : dVar 0 (some d :: r) S Q = Q d S := rfl
theorem x_varS {o : Option D} {r : Si} {i : Nat} : dVar (i + 1) (o :: r) S Q = dVar i r S Q := rfl
theorem ite_tt {P R : Prop} : (if true = true then P else R) = P := if_pos rfl
theorem ite_ff {P R : Prop} : (if false = true then P else R) = R := if_neg Bool.false_ne_true
theorem x_len_tup {ds : List D} : rdLen [.tup ds] S Q = Q (.int ds.length) S := rfl
theorem x_len_lst {ds : List D} : rdLen [.lst ds] S Q = Q (.int ds.length) S := rfl
theorem x_len_str {z : Str} : rdLen [.str z] S Q = (z.length ≤ 16777216 ∧ Q (.int z.length) S) := rfl
theorem x_isi {d : D} {n : String} : rdIsi [d, .ty n] S Q = match isiD d n with | some b => Q (.bl b) S | none => False := rfl
theorem x_ixt {ds : List D} {i : Int} : rdIx (.tup ds) (.int i) S Q = ixQ S Q (atI ds i) := rfl
theorem x_ixl {ds : List D} {i : Int} : rdIx (.lst ds) (.int i) S Q = ixQ S Q (atI ds i) := rfl
theorem x_ixo {a : Addr} {ds : List D} {i : Int} (h : S a = some (.lst ds)) : rdIx (.obj a) (.int i) S Q = ixQ S Q (atI ds i) := by
  show (match S a with | some (.lst ds) => ixQ S Q (atI ds i) | _ => False) = _
  rw [h]
theorem x_set {a : Addr} {ds : List D} {i : Int} {j : Nat} {v : D} {Q : Sd → Prop} (h : S a = some (.lst ds)) (hj : ixN ds.length i = some j) : setQ S (.int i) v Q (.obj a) = Q (upS S a (.lst (ds.set j v))) := by
  show (match S a, (D.int i) with | some (.lst ds), .int i => (match ixN ds.length i with | some j => Q (upS S a (.lst (ds.set j v))) | none => False) | _, _ => False) = _
  rw [h]
  dsimp only
  rw [hj]
theorem x_app {a : Addr} {ds : List D} {v : D} (h : S a = some (.lst ds)) : appQ S v Q (.obj a) = (ds.length < 16777216 ∧ Q .non (upS S a (.lst (ds ++ [v])))) := by
  show (match S a with | some (.lst ds) => ds.length < 16777216 ∧ Q .non (upS S a (.lst (ds ++ [v]))) | _ => False) = _
  rw [h]
end
theorem ixN_nat {n : Nat} {j : Nat} (h : j < n) : ixN n (j : Int) = some j := by
  unfold ixN
  rw [if_pos (Int.natCast_nonneg j), if_pos (by omega)]
  simp
theorem atI_lt {ds : List D} {i : Int} (h0 : 0 ≤ i) (h1 : i < ds.length) : atI ds i = ds[i.toNat]? := by
  unfold atI ixN
  rw [if_pos h0, if_pos h1]
  rfl
theorem atI_some {ds : List D} {i : Int} (h0 : 0 ≤ i) (h1 : i < ds.length) : ∃ d, atI ds i = some d ∧ d ∈ ds := by
  rw [atI_lt h0 h1]
  have h2 : i.toNat < ds.length := by omega
  exact ⟨ds[i.toNat], List.getElem?_eq_getElem h2, List.getElem_mem h2⟩

section
variable {S : Sd} {Q : DK} {i j : Int} {k l : Bool} {x y : Str} {xs ys : List D}
theorem x_add_ii : rdAdd (.int i) (.int j) S Q = Q (.int (i + j)) S := rfl
theorem x_add_ib : rdAdd (.int i) (.bl k) S Q = Q (.int (i + b2i k)) S := rfl
theorem x_add_ss : rdAdd (.str x) (.str y) S Q = (x.length + y.length ≤ 16777216 ∧ Q (.str (x ++ y)) S) := rfl
theorem x_add_tt : rdAdd (.tup xs) (.tup ys) S Q = (xs.length + ys.length ≤ 16777216 ∧ Q (.tup (xs ++ ys)) S) := rfl
theorem x_add_ll : rdAdd (.lst xs) (.lst ys) S Q = (xs.length + ys.length ≤ 16777216 ∧ Q (.lst (xs ++ ys)) S) := rfl
theorem x_sub : rdSub (.int i) (.int j) S Q = Q (.int (i - j)) S := rfl
theorem x_mul : rdMul (.int i) (.int j) S Q = (i.natAbs.log2 + j.natAbs.log2 < 1000000 ∧ Q (.int (i * j)) S) := rfl
theorem x_mul_s : rdMul (.str x) (.int j) S Q = ((0 ≤ j ∧ (x.length : Int) * j ≤ 16777216 ∧ j ≤ 16777216) ∧ Q (.str (repS x j.toNat)) S) := rfl
theorem x_fdiv : rdFdiv (.int i) (.int j) S Q = ((j ≠ 0 ∧ j.natAbs.log2 < 9000) ∧ Q (.int (i.fdiv j)) S) := rfl
theorem x_mod : rdMod (.int i) (.int j) S Q = (j ≠ 0 ∧ Q (.int (i.fmod j)) S) := rfl
theorem x_pow : rdPow (.int i) (.int j) S Q = ((0 ≤ j ∧ ((i.natAbs.log2 : Int) + 1) * j ≤ 134217728) ∧ Q (.int (i ^ j.toNat)) S) := rfl
theorem x_neg : rdNeg (.int i) S Q = Q (.int (-i)) S := rfl
theorem x_lt : rdLt (.int i) (.int j) S Q = Q (.bl (decide (i < j))) S := rfl
theorem x_le : rdLe (.int i) (.int j) S Q = Q (.bl (decide (i ≤ j))) S := rfl
theorem x_gt : rdGt (.int i) (.int j) S Q = Q (.bl (decide (j < i))) S := rfl
theorem x_ge : rdGe (.int i) (.int j) S Q = Q (.bl (decide (j ≤ i))) S := rfl
theorem x_eq_ii : rdEq (.int i) (.int j) S Q = Q (.bl (decide (i = j))) S := rfl
theorem x_eq_ss : rdEq (.str x) (.str y) S Q = Q (.bl (decide (x = y))) S := rfl
theorem x_eq_bb : rdEq (.bl k) (.bl l) S Q = Q (.bl (decide (k = l))) S := rfl
theorem x_ne_ii : rdNe (.int i) (.int j) S Q = Q (.bl (!decide (i = j))) S := rfl
theorem x_ne_ss : rdNe (.str x) (.str y) S Q = Q (.bl (!decide (x = y))) S := rfl
theorem x_ne_bb : rdNe (.bl k) (.bl l) S Q = Q (.bl (!decide (k = l))) S := rfl
theorem x_abs : rdAbs [.int i] S Q = Q (.int (if i < 0 then -i else i)) S := rfl
theorem x_max2 : rdMax2 [.int i, .int j] S Q = Q (.int (if j > i then j else i)) S := rfl
theorem x_min2 : rdMin2 [.int i, .int j] S Q = Q (.int (if j < i then j else i)) S := rfl
theorem x_int_i : rdInt [.int i] S Q = Q (.int i) S := rfl
theorem x_int_b : rdInt [.bl k] S Q = Q (.int (if k then 1 else 0)) S := rfl
theorem x_sl_t {lo hi : Option Int} : rdSl (.tup xs) lo hi S Q = Q (.tup (cutD xs lo hi)) S := rfl
theorem x_sl_l {lo hi : Option Int} : rdSl (.lst xs) lo hi S Q = Q (.lst (cutD xs lo hi)) S := rfl
theorem x_sl_s {lo hi : Option Int} : rdSl (.str x) lo hi S Q = (x.length ≤ 16777216 ∧ Q (.str (cutS x lo hi)) S) := rfl
theorem x_ixs : rdIx (.str x) (.int i) S Q = (x.length ≤ 16777216 ∧ ixS S Q (atI x.cps.toList i)) := rfl
theorem x_allb {bs : List Bool} (e : xs = bs.map D.bl) (h : Q (.bl (bs.all id)) S) : rdAll [.lst xs] S Q := ⟨bs, by rw [e]; rfl, h⟩
end
theorem atI_0 {α : Type} {a : α} {r : List α} : atI (a :: r) 0 = some a := atI_nat (j := 0) rfl
theorem atI_1 {α : Type} {a b : α} {r : List α} : atI (a :: b :: r) 1 = some b := atI_nat (j := 1) rfl
theorem atI_2 {α : Type} {a b c : α} {r : List α} : atI (a :: b :: c :: r) 2 = some c := atI_nat (j := 2) rfl
theorem atI_3 {α : Type} {a b c d : α} {r : List α} : atI (a :: b :: c :: d :: r) 3 = some d := atI_nat (j := 3) rfl
theorem x_ixQ {S : Sd} {Q : DK} {d : D} : ixQ S Q (some d) = Q d S := rfl
theorem x_ixS {S : Sd} {Q : DK} {c : Nat} : ixS S Q (some c) = Q (.str ⟨#[c]⟩) S := rfl
theorem log2_lt {a : Int} {n : Nat} (h : a.natAbs < 2 ^ n) (h0 : 0 < n) : a.natAbs.log2 < n := PySem.Flt.log2_lt_of h0 h
/-! ### joints, loops -/
theorem seq_cut {t v : TSD} {E : EndsD} {σ : Si} {S : Sd} (Mid : Si → Sd → Prop) (h1 : ∀ N : Si → Sd → Prop, (∀ σ' S', Mid σ' S' → N σ' S') → t { E with nx := N } σ S) (h2 : ∀ σ' S', Mid σ' S' → v E σ' S') : dSeq t v E σ S := h1 (v E) h2
section
variable {g : TGD} {tb : TSD} {E : EndsD} {xs : List D}
theorem loop_pre (I : List D → Si → Sd → Prop) (hs : ∀ (p : List D) (x : D) (r : List D) (σ : Si) (S : Sd) (N : Si → Sd → Prop), xs = p ++ x :: r → I p σ S → (∀ σ' S', I (p ++ [x]) σ' S' → N σ' S') → g x σ S fun σ2 S2 => tb { E with nx := N, ct := N, bk := E.nx } σ2 S2)
    (hd : ∀ σ S, I xs σ S → E.nx σ S) : ∀ (r p : List D) (σ : Si) (S : Sd), xs = p ++ r → I p σ S → dLoop g tb E r σ S
  | [], p, σ, S, e, h => by
    rw [List.append_nil] at e
    rw [← e] at h
    exact hd σ S h
  | x :: r, p, σ, S, e, h => hs p x r σ S _ e h fun σ' S' h' => loop_pre I hs hd r (p ++ [x]) σ' S' (by rw [e]; simp) h'
theorem loop_all (I : List D → Si → Sd → Prop) {σ : Si} {S : Sd} (h0 : I [] σ S) (hs : ∀ (p : List D) (x : D) (r : List D) (σ : Si) (S : Sd) (N : Si → Sd → Prop), xs = p ++ x :: r → I p σ S → (∀ σ' S', I (p ++ [x]) σ' S' → N σ' S') → g x σ S fun σ2 S2 => tb { E with nx := N, ct := N, bk := E.nx } σ2 S2)
    (hd : ∀ σ S, I xs σ S → E.nx σ S) : dLoop g tb E xs σ S := loop_pre I hs hd xs [] σ S rfl h0
theorem rgD_len (lo : Int) (n : Nat) : (rgD lo n).length = n := by unfold rgD; rw [List.length_map, List.length_range]
theorem rgD_at {lo : Int} {n : Nat} {p r : List D} {x : D} (e : rgD lo n = p ++ x :: r) : x = .int (lo + p.length) ∧ p.length < n := by
  have h1 : (rgD lo n)[p.length]? = some x := by rw [e]; simp
  unfold rgD at h1
  rw [List.getElem?_map] at h1
  cases q : (List.range n)[p.length]? with
  | none => rw [q] at h1; cases h1
  | some j =>
    rw [q] at h1
    obtain ⟨h2, h3⟩ := List.getElem?_eq_some_iff.mp q
    rw [List.getElem_range] at h3
    subst h3
    exact ⟨(Option.some.inj h1).symm, by simpa using h2⟩
theorem loop_rng {lo : Int} {n : Nat} (I : Nat → Si → Sd → Prop) {σ : Si} {S : Sd} (h0 : I 0 σ S) (hs : ∀ (i : Nat) (σ : Si) (S : Sd) (N : Si → Sd → Prop), i < n → I i σ S → (∀ σ' S', I (i + 1) σ' S' → N σ' S') → g (.int (lo + i)) σ S fun σ2 S2 => tb { E with nx := N, ct := N, bk := E.nx } σ2 S2)
    (hd : ∀ σ S, I n σ S → E.nx σ S) : dLoop g tb E (rgD lo n) σ S :=
  loop_all (fun p σ S => I p.length σ S) h0 (fun p x r σ S N e h k => by
    obtain ⟨rfl, h1⟩ := rgD_at e
    exact hs p.length σ S N h1 h fun σ' S' h' => k σ' S' (by rw [List.length_append]; exact h')) fun σ S h => hd σ S (by rw [rgD_len] at h; exact h)
theorem sgD_at {z : Str} {p r : List D} {x : D} (e : sgD z = p ++ x :: r) : ∃ (q : List Nat) (c : Nat) (s : List Nat), z.cps.toList = q ++ c :: s ∧ x = .str ⟨#[c]⟩ ∧ p = q.map (fun c => D.str ⟨#[c]⟩) := by
  unfold sgD at e
  obtain ⟨q, t, e1, e2, e3⟩ := List.map_eq_append_iff.mp e
  obtain ⟨c, s, e4, e5, e6⟩ := List.map_eq_cons_iff.mp e3
  exact ⟨q, c, s, by rw [e1, e4], e5.symm, e2.symm⟩
theorem map_str_inj : ∀ {a b : List Nat}, a.map (fun c => D.str ⟨#[c]⟩) = b.map (fun c => D.str ⟨#[c]⟩) → a = b
  | [], [], _ => rfl
  | [], _ :: _, h => by cases h
  | _ :: _, [], h => by cases h
  | x :: a, y :: b, h => by
    rw [List.map_cons, List.map_cons] at h
    injection h with h1 h2
    injection h1 with h3
    injection h3 with h4
    have h5 : x = y := by simpa using h4
    rw [h5, map_str_inj h2]
theorem loop_str {z : Str} (I : List Nat → Si → Sd → Prop) {σ : Si} {S : Sd} (h0 : I [] σ S) (hs : ∀ (p : List Nat) (c : Nat) (r : List Nat) (σ : Si) (S : Sd) (N : Si → Sd → Prop), z.cps.toList = p ++ c :: r → I p σ S → (∀ σ' S', I (p ++ [c]) σ' S' → N σ' S') → g (.str ⟨#[c]⟩) σ S fun σ2 S2 => tb { E with nx := N, ct := N, bk := E.nx } σ2 S2)
    (hd : ∀ σ S, I z.cps.toList σ S → E.nx σ S) : dLoop g tb E (sgD z) σ S :=
  loop_all (fun p σ S => ∃ q : List Nat, p = q.map (fun c => D.str ⟨#[c]⟩) ∧ I q σ S) ⟨[], rfl, h0⟩ (fun p x r σ S N e ⟨q, eq, h⟩ k => by
    obtain ⟨q2, c, s, e1, rfl, e3⟩ := sgD_at e
    have e4 : q = q2 := map_str_inj (eq.symm.trans e3)
    subst e4
    exact hs q c s σ S N e1 h fun σ' S' h' => k σ' S' ⟨q ++ [c], by rw [List.map_append, eq]; rfl, h'⟩) fun σ S ⟨q, eq, h⟩ => hd σ S (by
      have e : z.cps.toList = q := map_str_inj eq
      rw [e]; exact h)
end
/-! ### comprehensions without a trace -/
theorem lcL_pure {te : TED} {p : Addr} {σw : Si} {i : Nat} {S : Sd} (f : D → D) : ∀ (xs acc : List D) (Q : List D → Sd → Prop), (∀ x ∈ xs, ∀ S' (Q' : DK), Q' (f x) S' → te (σw.set i (some x)) S' Q') → acc.length + xs.length ≤ 16777216 →
    Q (acc ++ xs.map f) (upS S p (.lst (acc ++ xs.map f))) → dLcL (dName i) dYes te p σw xs acc (upS S p (.lst acc)) Q
  | [], acc, Q, _, _, q => by
    rw [List.map_nil, List.append_nil] at q
    exact q
  | x :: r, acc, Q, h, hl, q => by
    rw [List.length_cons] at hl
    show (if true = true then te (σw.set i (some x)) (upS S p (.lst acc)) fun y S4 => S4 p = some (.lst acc) ∧ acc.length < 16777216 ∧ dLcL (dName i) dYes te p σw r (acc ++ [y]) (upS S4 p (.lst (acc ++ [y]))) Q else dLcL (dName i) dYes te p σw r acc (upS S p (.lst acc)) Q)
    rw [if_pos rfl]
    refine h x List.mem_cons_self _ _ ⟨upS_same, by omega, ?_⟩
    rw [upS_upS]
    refine lcL_pure f r (acc ++ [f x]) Q (fun y hy => h y (List.mem_cons_of_mem _ hy)) (by rw [List.length_append, List.length_singleton]; omega) ?_
    rw [List.append_assoc]
    exact q
theorem comp_pure {ti : TID} {te : TED} {i : Nat} {vs : List Nat} {σ : Si} {S : Sd} {Q : DK} (f : D → D) (xs : List D) (S1 : Sd) (hti : ∀ R : List D → Sd → Prop, R xs S1 → ti σ S R) (h : ∀ x ∈ xs, ∀ S' (Q' : DK), Q' (f x) S' → te ((wipeD σ vs).set i (some x)) S' Q') (hl : xs.length ≤ 16777216)
    (q : Q (.lst (xs.map f)) S1) : dComp ti (dName i) dYes te vs σ S Q := hti _ fun p hp => by
  refine lcL_pure f xs [] _ h (by simpa using hl) ⟨upS_same, ?_⟩
  rw [del_upS hp]
  exact q
end Dv

/-! Readings by value, y: texts, is, draws in a comprehension, loops with a measure. -/
namespace Dv
open PySem L2 PyProof.Rows
section
variable {X : Cx} {W : Wi}
/-! ### is -/
def rdIs : RD2 := fun x y S Q => match y with
  | .non => rdIsN x .non S Q
  | .bl b => (match x with | .bl a => Q (.bl (decide (a = b))) S | _ => False)
  | _ => False
def rdIsNot : RD2 := fun x y S Q => match y with
  | .non => rdNotN x .non S Q
  | .bl b => (match x with | .bl a => Q (.bl (!decide (a = b))) S | _ => False)
  | _ => False
/-! ### one sign in a text -/
def rdInS : RD2 := fun x y S Q => match x, y with
  | .str a, .str z => ∃ c, a = ⟨#[c]⟩ ∧ Q (.bl (decide (c ∈ z.cps.toList))) S
  | _, _ => False
/-! ### methods of texts -/
def rdCount : RDM := fun o vs S Q => match o, vs with
  | .str a, [.str b] => Q (.int (Txt.count a b)) S
  | _, _ => False
/-! ### list(text), tuple(text) -/
theorem vals_signs {z : Str} {us : List Value} (h : ItemsOf (SignAt z) us.toArray z.cps.size) : Vals (z.cps.toList.map fun c => V.str ⟨#[c]⟩) us := by
  obtain ⟨h1, h2⟩ := h
  refine vals_of_at (by simpa using h1.symm) fun j x u e1 e2 => ?_
  obtain ⟨c, t, e3, rfl⟩ := h2 j u (by simpa using e2)
  rw [List.getElem?_map] at e1
  have e4 : z.cps.toList[j]? = some c := by simpa using e3
  rw [e4] at e1
  cases e1
  exact ⟨t, rfl⟩
def rListS : List V → Hp → VK → Prop := fun xs H Q => ∃ z, xs = [.str z] ∧ z.length ≤ 16777216 ∧ ∀ p, H p = none → Q (.ref p) (upd H p (.lst (z.cps.toList.map fun c => V.str ⟨#[c]⟩)))
theorem call_listS (hc : X.calm = true) : CallR X (.type "list") rListS := by
  intro pins s σ H xs us Q I r h
  obtain ⟨z, rfl, hz, q⟩ := h
  obtain ⟨u, rfl, rx⟩ := vals1 r
  obtain ⟨t, rfl⟩ := (show ∃ t, u = .str z t from rx)
  have hz' : z.cps.size ≤ sizeLine := sz_le hz
  refine call_list_str (I.ok.hd hc) z t (fun h' tk acc c' hk e' hi => ?_) hz'
  refine ⟨.ref s.heap.objs.size, upd H s.heap.objs.size (.lst (z.cps.toList.map fun c => V.str ⟨#[c]⟩)), I.laid hk (Nat.le_refl _) (show ObjOk X.prog X.w _ _ _ (.lst _) from ⟨?_, acc.toList, c', vals_signs (by simpa using hi), ?_⟩), rfl, q _ (I.hok.fresh (Nat.le_refl _))⟩
  · rw [List.length_map, Array.length_toList]; exact hz'
  · simpa using e'
def rTupS : List V → Hp → VK → Prop := fun xs H Q => ∃ z, xs = [.str z] ∧ z.length ≤ 16777216 ∧ ∀ p, H p = none → Q (.ref p) (upd H p (.tup (z.cps.toList.map fun c => V.str ⟨#[c]⟩)))
theorem call_tupS (hc : X.calm = true) : CallR X (.type "tuple") rTupS := by
  intro pins s σ H xs us Q I r h
  obtain ⟨z, rfl, hz, q⟩ := h
  obtain ⟨u, rfl, rx⟩ := vals1 r
  obtain ⟨t, rfl⟩ := (show ∃ t, u = .str z t from rx)
  have hz' : z.cps.size ≤ sizeLine := sz_le hz
  refine call_tuple_str (I.ok.hd hc) z t (fun h' tk acc hk hi => ?_) hz'
  have I2 : Inv X pins σ H { s with heap := h', toks := tk } := I.kept hk
  refine ⟨.ref h'.objs.size, upd H h'.objs.size (.tup (z.cps.toList.map fun c => V.str ⟨#[c]⟩)), I2.laid (t' := tk) (fun c o e => Heap.get?_push_of_some _ e) (Nat.le_refl _) (show ObjOk X.prog X.w _ _ _ (.tup _) from ⟨?_, acc.toList, vals_signs (by simpa using hi), ?_⟩), rfl, q _ (I2.hok.fresh (Nat.le_refl _))⟩
  · rw [List.length_map, Array.length_toList]; exact hz'
  · rw [Array.toArray_toList]; exact IsTup.new _ _
theorem rpL_signs {K : PySem.W.Frag} {H : Hp} {S : Sd} {z : Str} : RpL K H S (sgD z) (z.cps.toList.map fun c => V.str ⟨#[c]⟩) := by
  unfold sgD
  induction z.cps.toList with
  | nil => exact rfl
  | cons n r ih => exact ⟨_, _, rfl, rfl, ih⟩
def rdListA : RDC := fun ds S Q => match ds with
  | [.str z] => z.length ≤ 16777216 ∧ Q (.lst (sgD z)) S
  | _ => rdListC ds S Q
def rdTupA : RDC := fun ds S Q => match ds with
  | [.str z] => z.length ≤ 16777216 ∧ Q (.tup (sgD z)) S
  | _ => rdTupC ds S Q
theorem one_str {ds : List D} : (∃ z, ds = [.str z]) ∨ ((∀ S Q, rdListA ds S Q → rdListC ds S Q) ∧ ∀ S Q, rdTupA ds S Q → rdTupC ds S Q) := by
  match ds with
  | [] => exact .inr ⟨fun _ _ h => h, fun _ _ h => h⟩
  | d :: e :: r => cases d <;> exact .inr ⟨fun _ _ h => h, fun _ _ h => h⟩
  | [d] => cases d with
    | str z => exact .inl ⟨z, rfl⟩
    | _ => exact .inr ⟨fun _ _ h => h, fun _ _ h => h⟩
theorem cd_listA (hc : X.calm = true) : CallD X (.type "list") rdListA := by
  obtain ⟨r, h, l⟩ := cd_list (X := X)
  refine ⟨_, h.or (call_listS hc), fun H S fr σd σ xs ds Qv Qd ok r0 q k => ?_⟩
  rcases one_str (ds := ds) with ⟨z, rfl⟩ | ⟨h1, h2⟩
  · obtain ⟨v, rfl, r1⟩ := rpL1 r0
    have e : v = .str z := r1
    subst e
    obtain ⟨q1, q2⟩ := (show z.length ≤ 16777216 ∧ Qd (.lst (sgD z)) S from q)
    exact .inr ⟨z, rfl, q1, fun p hp => k _ (.lst _) _ S (ok.new hp) (rp_lstNew ok.rel hp rpL_signs) q2⟩
  · exact .inl (l H S fr σd σ xs ds Qv Qd ok r0 (h1 _ _ q) k)
theorem cd_tupA (hc : X.calm = true) : CallD X (.type "tuple") rdTupA := by
  obtain ⟨r, h, l⟩ := cd_tuple (X := X)
  refine ⟨_, h.or (call_tupS hc), fun H S fr σd σ xs ds Qv Qd ok r0 q k => ?_⟩
  rcases one_str (ds := ds) with ⟨z, rfl⟩ | ⟨h1, h2⟩
  · obtain ⟨v, rfl, r1⟩ := rpL1 r0
    have e : v = .str z := r1
    subst e
    obtain ⟨q1, q2⟩ := (show z.length ≤ 16777216 ∧ Qd (.tup (sgD z)) S from q)
    exact .inr ⟨z, rfl, q1, fun p hp => k _ (.tup _) _ S (ok.new hp) (rp_tupNew ok.rel hp rpL_signs) q2⟩
  · exact .inl (l H S fr σd σ xs ds Qv Qd ok r0 (h2 _ _ q) k)
end
/-! ### rows -/
section
variable {S : Sd} {Q : DK} {x y z : Str} {k l : Bool} {ds : List D} {d : D}
theorem x_is_bb : rdIs (.bl k) (.bl l) S Q = Q (.bl (decide (k = l))) S := rfl
theorem x_isNot_bb : rdIsNot (.bl k) (.bl l) S Q = Q (.bl (!decide (k = l))) S := rfl
theorem x_is_n : rdIs d .non S Q = rdIsN d .non S Q := rfl
theorem x_isNot_n : rdIsNot d .non S Q = rdNotN d .non S Q := rfl
theorem x_inS {c : Nat} : rdInS (.str ⟨#[c]⟩) (.str z) S Q = Q (.bl (decide (c ∈ z.cps.toList))) S := by
  refine propext ⟨fun ⟨c', e, q⟩ => ?_, fun q => ⟨c, rfl, q⟩⟩
  injection e with e
  have e2 : c = c' := by simpa using e
  rw [e2]; exact q
theorem x_listA_s : rdListA [.str z] S Q = (z.length ≤ 16777216 ∧ Q (.lst (sgD z)) S) := rfl
theorem x_listA_t : rdListA [.tup ds] S Q = Q (.lst ds) S := rfl
theorem x_listA_l : rdListA [.lst ds] S Q = Q (.lst ds) S := rfl
theorem x_tupA_s : rdTupA [.str z] S Q = (z.length ≤ 16777216 ∧ Q (.tup (sgD z)) S) := rfl
theorem x_tupA_t : rdTupA [.tup ds] S Q = Q (.tup ds) S := rfl
theorem x_tupA_l : rdTupA [.lst ds] S Q = Q (.tup ds) S := rfl
theorem x_count : rdCount (.str x) [.str y] S Q = Q (.int (Txt.count x y)) S := rfl
end
/-- a text of signs -/
def ofL (l : List Nat) : Str := ⟨l.toArray⟩
theorem ofL_cps (l : List Nat) : (ofL l).cps.toList = l := rfl
theorem ofL_len (l : List Nat) : (ofL l).length = l.length := by show l.toArray.size = _; simp
theorem ofL_app (a b : List Nat) : ofL a ++ ofL b = ofL (a ++ b) := str_ext (by show (a.toArray ++ b.toArray).toList = _; simp [ofL])
theorem ofL_inj {a b : List Nat} : ofL a = ofL b ↔ a = b := ⟨fun h => by have := congrArg (fun z : Str => z.cps.toList) h; simpa [ofL] using this, fun h => by rw [h]⟩
/-! ### comprehensions that draw -/
/-! ### while -/
theorem while_inv {c : TTD} {tb : TSD} {E : EndsD} {σ : Si} {S : Sd} (I : Nat → Si → Sd → Prop) (m : Nat) (h0 : I m σ S)
    (hs : ∀ (m : Nat) (σ : Si) (S : Sd) (N : Si → Sd → Prop), I m σ S → (∀ m' σ' S', m' < m → I m' σ' S' → N σ' S') → c σ S fun b S1 => if b = true then tb { E with nx := N, ct := N, bk := E.nx } σ S1 else E.nx σ S1) : dWhile c tb E σ S :=
  ⟨I, ⟨m, h0⟩, fun m σ S h => hs m σ S _ h fun m' σ' S' hm h' => ⟨m', hm, h'⟩⟩
end Dv

/-! Readings by value, u: statements that are never reached, +=, a written dict read by a text. -/
namespace Dv
open PySem L2 PyProof.Rows
section
variable {X : Cx} {W : Wi} {pos : Pos}
def dNever : TSD := fun _ _ _ => False
theorem ds_never {s : Stmt} : DS X W s dNever := ⟨⟨fun pins sh σ H D I ⟨_, _, _, _, _, _, h, _⟩ => (show False from h).elim⟩⟩
/-! ### a written dict read by a text -/
def dKix (tab : Str → Option D) (tb : TED) : TED := fun σ S Q => tb σ S fun y S1 => match y with
  | .str z => (match tab z with | some d => Q d S1 | none => False)
  | _ => False
theorem de_kix {x : Str} {a : Addr} {b : Expr} {tb : TED} {p : Pos} {tab : Str → Option D} (hg : Gl X x) (hm : X.mg x = some (.ref a)) (ht : ∀ z d, tab z = some d → ∃ v, KDct X.K X.w a z v ∧ ∀ H S, Rp X.K H S d v) (hb : DE X W b tb) (hs : PlainIx b)
    (hd : (x == ("__debug__" : Str)) = false := by decide) : DE X W (.Subscript (.Name x p) b pos) (dKix tab tb) :=
  ⟨PE.imp (pe_ix ix_kdict (pe_glob (v := .ref a) hg hm rfl hd) hb.p hs) fun σ H Q ⟨σd, S, fr, Qd, ok, cl, h, k⟩ =>
    ⟨σd, S, fr, _, ok, cl, h, fun y dy H1 S1 ok1 ry q => by
      cases dy with
      | str z =>
        have q' : (match tab z with | some d => Qd d S1 | none => False) := q
        cases e : tab z with
        | none => rw [e] at q'; exact q'.elim
        | some d =>
          rw [e] at q'
          obtain ⟨v, h1, h2⟩ := ht z d e
          exact ⟨a, z, v, rfl, ry, h1, k v d H1 S1 ok1 (h2 _ _) q'⟩
      | _ => exact (show False from q).elim⟩⟩
theorem rp_ktup {K : PySem.W.Frag} {H : Hp} {S : Sd} {a : Addr} {its : Array Value} {n : Nat} {od : Option Addr} {sl : Array (Option Value)} {vs : List V} {ds : List D} (hl : K.lookup a = some ⟨.type "tuple", od, .seq its n, sl⟩) (hz : its.size ≤ 1000) (hv : Vals vs its.toList) (r : RpL K H S ds vs) : Rp K H S (.tup ds) (.ref a) :=
  ⟨a, vs, rfl, .inr ⟨_, its, n, hl, rfl, rfl, sz_le (Nat.le_trans hz (by decide)), hv⟩, r⟩
end
end Dv

/-! Readings by value: own errors raised, caught, asked. -/
namespace Dv
open PySem L2 PyProof.Rows Hx
/-! ### the module's own classes of errors -/
def ownBase : List (Str × List Str) := [("NoNumber", ["ArithmeticError"]), ("NoForm", ["ArithmeticError"]), ("OverNought", ["ZeroDivisionError", "ArithmeticError"]), ("TooMany", ["OverflowError", "ArithmeticError"]), ("NoKin", ["TypeError"]), ("NoPlace", ["IndexError", "LookupError"]), ("NoName", ["KeyError", "LookupError"]),
  ("NoTurn", ["LookupError"]), ("NoRow", ["RuntimeError"]), ("NoStair", ["ValueError"]), ("NoRing", ["ValueError"]), ("NoWord", ["ValueError"]), ("NoStep", ["ValueError"]), ("Uneven", ["ValueError"]), ("NoWay", ["ValueError"]), ("NoTable", ["ValueError"]), ("NoTriple", ["ValueError"])]
def ownCls : List Str := ownBase.map (·.1)
def bltCls : List Str := ["ArithmeticError", "ZeroDivisionError", "OverflowError", "TypeError", "IndexError", "KeyError", "LookupError", "RuntimeError", "ValueError"]
def excIs (n c : Str) : Bool := n == c || match ownBase.lookup n with
  | some bs => bs.contains c
  | none => false
def clsV (K : PySem.W.Frag) (x : Str) : Value := match PySem.W.nsIn K mainGlobals x with
  | some (some v) => v
  | _ => (bootBuiltins x).getD .none
/-- what is known of an own class of errors that is raised -/
structure WhF (K : PySem.W.Frag) (n : Str) (D : Addr) : Prop where
  at_ : PySem.W.nsIn K mainGlobals n = some (some (.ref D))
  exc : ExcC K D
  kit : ∀ c ∈ ownCls ++ bltCls, PySem.W.kitOne K (.ref D) (clsV K c) = some (excIs n c)
  exm : ∀ c ∈ ownCls, PySem.W.exmOne K (.ref D) (clsV K c) = some (excIs n c)
theorem and_b {a b : Bool} (h : (a && b) = true) : a = true ∧ b = true := Bool.and_eq_true_iff.mp h
/-- a simple own class: raised with a text -/
structure RsF (K : PySem.W.Frag) (n : Str) (bm : List Value) (newId : String) (C : Addr) : Prop where
  at_ : PySem.W.nsIn K mainGlobals n = some (some (.ref C))
  exc : PySem.W.excIn K C bm newId = true
  kp : PySem.W.keepIn K (.ref C) = true
  sub : PySem.W.subIn K (.ref C) (.type "BaseException") = some true
  ty : PySem.W.typeIn K (.ref C) = some (.type "type")
def rsB (K : PySem.W.Frag) (n : Str) (bm : List Value) (newId : String) : Bool := match PySem.W.nsIn K mainGlobals n with
  | some (some (.ref C)) => PySem.W.excIn K C bm newId && (PySem.W.keepIn K (.ref C) && (decide (PySem.W.subIn K (.ref C) (.type "BaseException") = some true) && decide (PySem.W.typeIn K (.ref C) = some (.type "type"))))
  | _ => false
theorem rsB_ok {K : PySem.W.Frag} {n : Str} {bm : List Value} {newId : String} (h : rsB K n bm newId = true) : ∃ C, RsF K n bm newId C := by
  unfold rsB at h
  split at h
  · rename_i C e
    obtain ⟨a, h⟩ := and_b h
    obtain ⟨b, h⟩ := and_b h
    obtain ⟨c, d⟩ := and_b h
    exact ⟨C, e, a, b, of_decide_eq_true c, of_decide_eq_true d⟩
  · cases h
/-! ### raise -/
section
variable {X : Cx} {W : Wi} {pos : Pos}
def dRaise (WD : WXD) (x : Xd) : TSD := fun _ σ S => WD x σ S
theorem ds_raiseC {n m : Str} {j : Nat} {p p2 pos' : Pos} {bm : List Value} {B newId initId : String} {C : Addr} (hc : X.calm = true) (tk : L2N.Takes X W.V) (F : ExcBaseFacts B newId initId bm) (R : RsF X.K n bm newId C) (gC : X.mg n = some (.ref C)) (hg : Gl X n) (hdb : (n == ("__debug__" : Str)) = false := by decide) :
    DS X W (.Raise (some (.Call (.Name n p) [.Constant (.str m) j p2] [] pos)) none pos') (dRaise W.D ⟨n, [], []⟩) :=
  ⟨PS.imp (L2N.ps_raise hc tk (L2N.pmk_own F R.exc gC R.kp (raises_own R.sub R.ty) hg hdb)) fun D σ H ⟨σd, S, fr, Dd, ok, cl, h, k⟩ => cl σd σ H S (.ref C) none _ ok ⟨R.at_, fun _ => rfl, fun _ z => nomatch z⟩ h⟩
end
/-! ### except suites -/
section
variable {X : Cx} {W : Wi} {pos : Pos}
end
end Dv

/-! Readings by value: a def that names an error's class; a refusal named. -/
namespace Dv
open PySem L2 PyProof.Rows Hx
section
variable {X : Cx} {W : Wi} {pos : Pos}
/-! ### while an exception is handled -/
end
/-! ### a def that names an error's class -/
section
variable {P : Program} {w : World} {K : PySem.W.Frag} {mg : Str → Option Value} {base : Heap}
end
section
variable {X : Cx} {pos : Pos}
/-! ### a refusal, named -/
end
end Dv

/-! Readings by value: what the printed derivations lean on for errors and lambdas. -/
namespace Dv
open PySem L2 PyProof.Rows Hx
section
variable {X : Cx} {W : Wi} {pos : Pos}
theorem takes0N : L2N.Takes X W0.V := fun _ _ ⟨_, _, _, _, _, _, _, _, _, _, _, _, _, _, _, _, z⟩ => z.elim
end
section
variable {P : Program} {w : World} {K : PySem.W.Frag} {mg : Str → Option Value} {base : Heap}
end
/-- one statement at a time: the rest stands still -/
theorem seq_step {t v : TSD} {E : EndsD} {σ : Si} {S : Sd} (h : ∀ r : TSD, r = v → dSeq t r E σ S) : dSeq t v E σ S := h v rfl
/-- one assignment, by instances alone: the kernel has nothing to unfold -/
theorem seq_set {i : Nat} {t : TED} {v : TSD} {E : EndsD} {σ : Si} {S : Sd} (h : t σ S fun x S1 => v E (σ.set i (some x)) S1) : dSeq (dSet i t) v E σ S := h
/-! ### divmod -/
def rdDivmod : RDC := fun ds S Q => match ds with
  | [.int i, .int j] => (0 < j ∧ j.natAbs.log2 < 9000) ∧ Q (.tup [.int (i / j), .int (i % j)]) S
  | _ => False
theorem x_divmod {i j : Int} {S : Sd} {Q : DK} : rdDivmod [.int i, .int j] S Q = ((0 < j ∧ j.natAbs.log2 < 9000) ∧ Q (.tup [.int (i / j), .int (i % j)]) S) := rfl
/-! ### law with tables -/
end Dv

/-! Readings by value: calls with keywords. -/
namespace Dv
open PySem L2 PyProof.Rows Hx
theorem okL {K : PySem.W.Frag} {H : Hp} {S : Sd} {fr : List (V × D)} {σd : Si} {σ : L2.St} : ∀ {ds : List D} {vs : List V}, Ok K H S fr σd σ → RpL K H S ds vs → Ok K H S (vs.zip ds ++ fr) σd σ
  | [], vs, o, r => by
    have e : vs = [] := r
    subst e
    exact o
  | d :: ds, vs, o, r => by
    obtain ⟨v, w, rfl, r1, r2⟩ := r
    exact (okL o r2).cons r1
theorem okL_drop {K : PySem.W.Frag} {H H' : Hp} {S S' : Sd} {fr : List (V × D)} {σd : Si} {σ : L2.St} : ∀ {ds : List D} {vs : List V}, RpL K H S ds vs → Ok K H' S' (vs.zip ds ++ fr) σd σ → Ok K H' S' fr σd σ ∧ RpL K H' S' ds vs
  | [], vs, r, o => by
    have e : vs = [] := r
    subst e
    exact ⟨o, rpL_nil⟩
  | d :: ds, vs, r, o => by
    obtain ⟨v, w, rfl, _, r2⟩ := r
    have o' : Ok K H' S' ((v, d) :: (w.zip ds ++ fr)) σd σ := o
    have t := okL_drop r2 o'.tail
    exact ⟨t.1, rpL_cons o'.head t.2⟩
theorem cl_drop {K : PySem.W.Frag} {W : Wi} {fr : List (V × D)} (c : Cl K W fr) : ∀ l : List (V × D), Cl K W (l ++ fr)
  | [] => c
  | _ :: l => (cl_drop c l).tail
theorem rpL_at {K : PySem.W.Frag} {H : Hp} {S : Sd} : ∀ {ds : List D} {vs : List V}, RpL K H S ds vs → ∀ i : Nat, (ds[i]? = none ∧ vs[i]? = none) ∨ ∃ d v, ds[i]? = some d ∧ vs[i]? = some v ∧ Rp K H S d v
  | [], vs, r, i => by
    have e : vs = [] := r
    subst e
    exact .inl ⟨rfl, rfl⟩
  | d :: ds, vs, r, i => by
    obtain ⟨v, w, rfl, r1, r2⟩ := r
    cases i with
    | zero => exact .inr ⟨d, v, rfl, rfl, r1⟩
    | succ i => exact rpL_at r2 i
theorem rpL_sel {K : PySem.W.Frag} {H : Hp} {S : Sd} {ds : List D} {vs : List V} (r : RpL K H S ds vs) : ∀ idx : List Nat, RpL K H S (sel idx ds) (sel idx vs)
  | [] => rpL_nil
  | i :: idx => by
    have t := rpL_sel r idx
    unfold sel at t ⊢
    rcases rpL_at r i with ⟨e1, e2⟩ | ⟨d, v, e1, e2, r1⟩
    · rw [List.filterMap_cons_none e1, List.filterMap_cons_none e2]; exact t
    · rw [List.filterMap_cons_some e1, List.filterMap_cons_some e2]; exact rpL_cons r1 t
structure DKw (X : Cx) (W : Wi) (kws : List Keyword) (t : TAD) : Prop where
  p : PK X kws (upA X.K W t)
section
variable {X : Cx} {W : Wi} {k n m : Nat} {f : Addr} {fd : FuncData} {ps ks : List Str} {sp : SpD} {idx : List Nat} {dvs : List V} {dds : List D} {x : Str} {p pos kpos : Pos} {a e : Expr} {es : List Expr} {kws : List Keyword} {ta : TED} {t tk : TAD} {nm : Option Str}
theorem pk_imp {t t' : TA} (h : PK X kws t) (i : ∀ σ H Q, t' σ H Q → t σ H Q) : PK X kws t' := ⟨fun pos pins s σ H Q I q => h.run pos pins s σ H Q I (i σ H Q q)⟩
theorem dk_nil : DKw X W [] dNil := ⟨pk_imp pk_nil fun σ H Q ⟨_, S, _, _, ok, _, h, k⟩ => k [] [] H S ok rfl h⟩
theorem dk_cons (ha : DE X W a ta) (hr : DKw X W kws tk) : DKw X W (⟨nm, a, kpos⟩ :: kws) (dCons ta tk) :=
  ⟨pk_imp (pk_cons ha.p hr.p) fun σ H Q ⟨σd, S, fr, Qd, ok, cl, h, k⟩ => ⟨σd, S, fr, _, ok, cl, h, fun x dx H1 S1 ok1 r1 h1 =>
    ⟨σd, S1, (x, dx) :: fr, _, ok1.cons r1, cl.tail, h1, fun vs ds H2 S2 ok2 r2 h2 => k (x :: vs) (dx :: ds) H2 S2 ok2.tail (rpL_cons ok2.head r2) h2⟩⟩⟩
/-- f(.., k = ..): what the places idx of all that is handed in hold, by the parameters -/
def dCallK (sp : SpD) (n m : Nat) (idx : List Nat) (dds : List D) (WD : WXD) (t tk : TAD) : TED := fun σ S Q => t σ S fun xs S1 => tk σ S1 fun zs S2 => (xs.length = n ∧ zs.length = m) ∧ sp (sel idx (xs ++ zs ++ dds)) S2 Q fun y S3 => WD y σ S3
theorem callK_lift (hdd : ∀ H S, RpL X.K H S dds dvs) (σ : L2.St) (H : Hp) (Q : VK) (h : upE X.K W (dCallK sp n m idx dds W.D t tk) σ H Q) : tCallKS (upF X.K sp) n m idx dvs (WE W.V) (upA X.K W t) (upA X.K W tk) σ H Q := by
  obtain ⟨σd, S, fr, Qd, ok, cl, h, k⟩ := h
  refine ⟨σd, S, fr, _, ok, cl, h, fun vs ds H1 S1 ok1 r1 h1 => ⟨σd, S1, vs.zip ds ++ fr, _, okL ok1 r1, cl_drop cl _, h1, fun zs es H2 S2 ok2 r2 h2 => ?_⟩⟩
  obtain ⟨ok3, r3⟩ := okL_drop r1 ok2
  refine ⟨⟨(rpL_len r3).symm.trans h2.1.1, (rpL_len r2).symm.trans h2.1.2⟩, ?_⟩
  refine ⟨sel idx (ds ++ es ++ dds), S2, fr ++ prs σd σ, Qd, _, ok3.rel, ok3.out, rpL_sel (rpL_app (rpL_app r3 r2) (hdd H2 S2)) idx, h2.2, fun v d H4 S4 R4 f4 r4 q4 => ?_, fun cls od x H4 S4 R4 f4 rx q4 => ?_⟩
  · exact k v d H4 S4 (ok3.back R4 f4) r4 q4
  · exact cl σd σ H4 S4 cls od x (ok3.back R4 f4) rx q4
theorem de_callK0 (F : FnG X.prog X.w X.K X.mg X.base (L2N.CX X.prog X.w) k f fd ps (upF X.K sp)) (hr : RoomG k X.A) (hg : Gl X x) (hm : X.mg x = some (.ref f)) (hk : PySem.W.keepIn X.K (.ref f) = true) (hb : KSel X.K fd ps 0 ks idx dvs) (hdd : ∀ H S, RpL X.K H S dds dvs) (tk' : L2N.Takes X W.V) (hkw : DKw X W kws tk)
    (hall : (backToKw pos (keywordEach kws X.env)).all (·.1.isSome) = true := by rfl) (hks : (backToKw pos (keywordEach kws X.env)).filterMap (·.1) = ks := by rfl) (hdb : (x == ("__debug__" : Str)) = false := by decide)
    (hpl : ((backTo pos (starEach [] X.env)).any (·.1) || (backToKw pos (keywordEach kws X.env)).any (·.1.isNone)) = false := by rfl) : DE X W (.Call (.Name x p) [] kws pos) (dCallK sp 0 ks.length idx dds W.D dNil tk) :=
  ⟨PE.imp (pe_callKS0 F hr hg hm hk hb (fun σ => L2N.passAt tk' σ) hkw.p hall hks hdb hpl) fun σ H Q h => by
    obtain ⟨σd, S, fr, Qd, ok, cl, h, k⟩ := callK_lift hdd σ H Q h
    exact k [] [] H S ok rfl h⟩
end
/-! ### for x, y in zip(xs, ys) -/
def zipD (ds es : List D) : List D := (ds.zip es).map fun p => .tup [p.1, p.2]
theorem itd_zip {K : PySem.W.Frag} {a b : Addr} {ds es : List D} {fr : List (V × D)} : ItD K (Itz K a b) (zipD ds es) ((.ref a, .lst ds) :: (.ref b, .lst es) :: fr) where
  go := fun i d e H S σd σ ok => by
    obtain ⟨a', vs, e1, q1, r1⟩ := rp_list ok.rel ok.head
    obtain ⟨b', ws, e2, q2, r2⟩ := rp_list ok.rel ok.tail.head
    cases (show V.ref a = .ref a' from e1)
    cases (show V.ref b = .ref b' from e2)
    unfold zipD at e
    rw [List.getElem?_map] at e
    obtain ⟨p, hp, rfl⟩ := Option.map_eq_some_iff.mp e
    obtain ⟨h1, h2⟩ := List.getElem?_zip_eq_some.mp hp
    obtain ⟨v, v1, v2⟩ := rpL_get r1 h1
    obtain ⟨w, w1, w2⟩ := rpL_get r2 h2
    refine ⟨⟨vs, ws, v, w, q1, q2, v1, w1⟩, fun x H' y => ?_⟩
    obtain ⟨T, x', y', rfl, hT, rfl, g1, g2⟩ := y
    have e3 := g1 vs q1
    have e4 := g2 ws q2
    rw [v1] at e3
    rw [w1] at e4
    cases e3
    cases e4
    exact ⟨ok.new hT, rp_tupNew ok.rel hT (rpL_cons v2 (rpL_cons w2 rpL_nil))⟩
  stop := fun H S σd σ ok => by
    obtain ⟨a', vs, e1, q1, r1⟩ := rp_list ok.rel ok.head
    obtain ⟨b', ws, e2, q2, r2⟩ := rp_list ok.rel ok.tail.head
    cases (show V.ref a = .ref a' from e1)
    cases (show V.ref b = .ref b' from e2)
    refine ⟨vs, ws, q1, q2, ?_⟩
    have l1 := rpL_len r1
    have l2 := rpL_len r2
    have l3 : (zipD ds es).length = min ds.length es.length := by unfold zipD; rw [List.length_map, List.length_zip]
    rw [l3]
    omega
def zipR (R : List D → Sd → Prop) (S : Sd) : List D → Prop
  | [.lst ds, .lst es] => R (zipD ds es) S
  | _ => False
theorem zipR_inv {R : List D → Sd → Prop} {S : Sd} {ds : List D} (h : zipR R S ds) : ∃ xs ys, ds = [.lst xs, .lst ys] ∧ R (zipD xs ys) S := by
  unfold zipR at h
  split at h
  · exact ⟨_, _, rfl, h⟩
  · exact h.elim
def dZip (ta : TAD) : TID := fun σ S R => ta σ S fun xs S1 => zipR R S1 xs
theorem di_zip {X : Cx} {W : Wi} {a b : Expr} {ta : TAD} {p pos tpos : Pos} {elts : List Expr} {kk : Nat} (hg : Gl X "zip") (hm : X.mg "zip" = none) (ha : DA X W [a, b] ta) (hs : starEach [a, b] X.env = (false, eval a X.env) :: starEach [b] X.env := by rfl) (hpl : (backTo pos (starEach [b] X.env)).any (·.1) = false := by rfl) :
    DI X W (.Tuple elts kk tpos) (.Call (.Name "zip" p) [a, b] [] pos) (dZip ta) :=
  ⟨PI.imp (pi_zip hg hm ha.p hs hpl) fun σ H R ⟨σd, S, fr, Rd, ok, cl, h, k⟩ => ⟨σd, S, fr, _, ok, cl, h, fun vs ds H1 S1 ok1 r1 q => by
    obtain ⟨xs, ys, rfl, q⟩ := zipR_inv q
    obtain ⟨v, w, rfl, t1, t2⟩ := rpL2 r1
    obtain ⟨a', us, e1, q1, _⟩ := rp_list ok1.rel t1
    obtain ⟨b', ws, e2, q2, _⟩ := rp_list ok1.rel t2
    subst e1 e2
    exact ⟨a', b', us, ws, rfl, q1, q2, k _ _ H1 S1 [(.ref a', .lst xs), (.ref b', .lst ys)] ((ok1.cons t2).cons t1) itd_zip q⟩⟩⟩
/-! ### * of tuples too -/
def rdMulA : RD2
  | .int i, .int j, S, Q => i.natAbs.log2 + j.natAbs.log2 < 1000000 ∧ Q (.int (i * j)) S
  | .str z, .int k, S, Q => (0 ≤ k ∧ (z.length : Int) * k ≤ 16777216 ∧ k ≤ 16777216) ∧ Q (.str (repS z k.toNat)) S
  | .tup ds, .int k, S, Q => (ds ≠ [] ∧ 1 ≤ k ∧ k ≤ 1000 ∧ ds.length ≤ 1000) ∧ Q (.tup (List.replicate k.toNat ds).flatten) S
  | _, _, _, _ => False
theorem rpL_flat {K : PySem.W.Frag} {H : Hp} {S : Sd} {ds : List D} {vs : List V} (r : RpL K H S ds vs) : ∀ n : Nat, RpL K H S (List.replicate n ds).flatten (List.replicate n vs).flatten
  | 0 => rpL_nil
  | n + 1 => by
    rw [List.replicate_succ, List.replicate_succ, List.flatten_cons, List.flatten_cons]
    exact rpL_app r (rpL_flat r n)
theorem od_mulA {X : Cx} : OpD X (binaryOp .Mult) rdMulA := ⟨_, (op_mulW.or op_mulS).or (op_repT.or op_once), fun H S fr σd σ x y dx dy Qv Qd ok rx ry h k => by
  cases dx with
  | int i =>
    cases dy with
    | int j => exact .inl (.inl ⟨i, j, rx, ry, h.1, k _ (.int (i * j)) H S ok rfl h.2⟩)
    | _ => exact (show False from h).elim
  | str z =>
    cases dy with
    | int j => exact .inl (.inr ⟨z, j, rx, ry, h.1.1, h.1.2.1, h.1.2.2, k _ (.str (repS z j.toNat)) H S ok rfl h.2⟩)
    | _ => exact (show False from h).elim
  | tup ds =>
    cases dy with
    | int j =>
      obtain ⟨⟨h0, h1, h2, h3⟩, q⟩ := h
      obtain ⟨a, vs, rfl, q1, r⟩ := rx
      have hl := rpL_len r
      by_cases c : j = 1
      · subst c
        have e : (List.replicate (Int.toNat 1) ds).flatten = ds := by show (List.replicate 1 ds).flatten = ds; simp
        rw [e] at q
        exact .inr (.inr ⟨a, vs, rfl, ry, q1, k _ (.tup ds) H S ok ⟨a, vs, rfl, q1, r⟩ q⟩)
      · exact .inr (.inl ⟨a, j, vs, rfl, ry, q1, fun e => h0 (by rw [e] at hl; exact List.eq_nil_of_length_eq_zero hl), by omega, h2, by omega, fun p hp => k _ (.tup (List.replicate j.toNat ds).flatten) _ S (ok.new hp) (rp_tupNew ok.rel hp (rpL_flat r j.toNat)) q⟩)
    | _ => exact (show False from h).elim
  | _ => cases dy <;> exact (show False from h).elim⟩
section
variable {i j : Int} {x : Str} {ds : List D} {S : Sd} {Q : DK}
theorem x_mulA : rdMulA (.int i) (.int j) S Q = (i.natAbs.log2 + j.natAbs.log2 < 1000000 ∧ Q (.int (i * j)) S) := rfl
theorem x_mulA_s : rdMulA (.str x) (.int j) S Q = ((0 ≤ j ∧ (x.length : Int) * j ≤ 16777216 ∧ j ≤ 16777216) ∧ Q (.str (repS x j.toNat)) S) := rfl
theorem x_mulA_t : rdMulA (.tup ds) (.int j) S Q = ((ds ≠ [] ∧ 1 ≤ j ∧ j ≤ 1000 ∧ ds.length ≤ 1000) ∧ Q (.tup (List.replicate j.toNat ds).flatten) S) := rfl
end
theorem sel_n1 {a : D} : sel [0] ([] ++ [a]) = [a] := rfl
theorem sel_n2 {a b : D} : sel [0, 1] ([] ++ [a, b]) = [a, b] := rfl
theorem sel_x2 {a b : D} : sel [1, 0] ([] ++ [a, b]) = [b, a] := rfl
theorem sel_12 {a b : D} : sel [0, 1] ([a] ++ [b]) = [a, b] := rfl
end Dv

/-! Readings by value: max and min of a list, by a def's ints too. -/
namespace Dv
open PySem L2 PyProof.Rows Hx
/-- the place of the best of so many -/
def bestBy (up : Bool) (kf : Nat → Int) (n : Nat) : Nat := argBest (fun i j => if up then decide (kf i > kf j) else decide (kf i < kf j)) (n - 1)
def kfL (kf : Str → Int) (zs : List Str) (i : Nat) : Int := match zs[i]? with
  | some z => kf z
  | none => 0
def keyR (sp : SpD) (up : Bool) (S : Sd) (Q : DK) : D → Prop
  | .lst ds => ∃ (zs : List Str) (kf : Str → Int), ds = zs.map D.str ∧ 0 < zs.length ∧ (∀ z ∈ zs, ∀ Q' : DK, Q' (.int (kf z)) S → sp [.str z] S Q' fun _ _ => False) ∧ ∀ z, zs[bestBy up (kfL kf zs) zs.length]? = some z → Q (.str z) S
  | _ => False
def dKeyed (sp : SpD) (up : Bool) (t : TED) : TED := fun σ S Q => t σ S fun d S1 => keyR sp up S1 Q d
section
variable {X : Cx} {W : Wi} {k : Nat} {f : Addr} {fd : FuncData} {p fn : Str} {sp : SpD} {e : Expr} {t : TED} {p1 p2 p3 pos : Pos}
end
/-! ### a text within a text -/
def hasS (z a : Str) : Bool := !(Builtin.Str.occurrences z a 0 z.length 1).isEmpty
def rdInT : RD2 := fun x y S Q => match x, y with
  | .str a, .str z => Q (.bl (hasS z a)) S
  | _, _ => False
theorem x_inT {a z : Str} {S : Sd} {Q : DK} : rdInT (.str a) (.str z) S Q = Q (.bl (hasS z a)) S := rfl
/-! ### xs = [.. for ..], the list is kept for changes -/
section
variable {X : Cx} {W : Wi} {pos : Pos}
end
end Dv

/-! Readings by value: sum of tuples. -/
namespace Dv
open PySem L2 PyProof.Rows Hx
section
variable {K : PySem.W.Frag} {H H' : Hp} {S : Sd}
end
def sumR (S : Sd) (Q : DK) : List D → List D → Prop
  | [.lst ds], [.tup []] => ∃ dss : List (List D), ds = dss.map D.tup ∧ (∀ n, (dss.take n).flatten.length ≤ 1000) ∧ Q (.tup dss.flatten) S
  | _, _ => False
def dSumT (t tk : TAD) : TED := fun σ S Q => t σ S fun xs S1 => tk σ S1 fun zs S2 => sumR S2 Q xs zs
section
variable {X : Cx} {W : Wi} {e : Expr} {t tk : TAD} {kws : List Keyword} {p pos : Pos}
end
end Dv

/-! Readings by value: a written dict of lists, subscripted at once; extend. -/
namespace Dv
open PySem L2 PyProof.Rows Hx
section
variable {X : Cx} {W : Wi} {k1 k2 x y : Str} {a b c d : Int} {i j : Nat} {m1 m2 m3 m4 m5 m6 : Nat} {q1 q2 q3 q4 q5 q6 u1 u2 dpos np yp pos apos cpos : Pos}
end
end Dv

/-! Readings by value: repr of data, == of tracked lists. -/
namespace Dv
open PySem L2 PyProof.Rows Hx
/-- a tracked list stands for its items -/
def valD (S : Sd) (d : D) : D := match d with
  | .obj a => match S a with
    | some (.lst ds) => .lst ds
    | _ => d
  | d => d
mutual
/-- what can be shown: ints below 2 ^ 1920, texts of code points -/
def shOk : D → Bool
  | .non => true | .bl _ => true
  | .int i => decide (i.natAbs.log2 < 1920)
  | .str z => PyData.strOk z
  | .tup ds => shOkL ds
  | .lst ds => shOkL ds
  | _ => false
def shOkL : List D → Bool
  | [] => true
  | d :: ds => shOk d && shOkL ds
end
mutual
/-- a bound of how long the text is -/
def shL : D → Nat
  | .int _ => 1921
  | .str z => 10 * z.length + 2
  | .tup ds => shLL ds + 3
  | .lst ds => shLL ds + 2
  | _ => 5
def shLL : List D → Nat
  | [] => 0
  | d :: ds => shL d + 2 + shLL ds
end
mutual
theorem shOk_data : ∀ {d : D}, shOk d = true → isData d = true
  | .int _, _ => rfl
  | .non, _ => rfl
  | .bl _, _ => rfl
  | .str _, _ => rfl
  | .tup ds, h => shOkL_data (ds := ds) h
  | .lst ds, h => shOkL_data (ds := ds) h
  | .tupX _, h => absurd (show false = true from h) Bool.false_ne_true
  | .inst _ _ _, h => absurd (show false = true from h) Bool.false_ne_true
  | .obj _, h => absurd (show false = true from h) Bool.false_ne_true
  | .ty _, h => absurd (show false = true from h) Bool.false_ne_true
  | .exc _ _ _ _, h => absurd (show false = true from h) Bool.false_ne_true
theorem shOkL_data : ∀ {ds : List D}, shOkL ds = true → isDataL ds = true
  | [], _ => rfl
  | d :: ds, h => by
    have h' := Bool.and_eq_true_iff.mp (show (shOk d && shOkL ds) = true from h)
    show (isData d && isDataL ds) = true
    rw [shOk_data h'.1, shOkL_data h'.2]
    rfl
end
mutual
theorem shOk_show : ∀ {d : D}, shOk d = true → (pd d).showable = true
  | .int i, h => h
  | .non, _ => rfl
  | .bl _, _ => rfl
  | .str _, _ => rfl
  | .tup ds, h => shOkL_show (ds := ds) h
  | .lst ds, h => shOkL_show (ds := ds) h
  | .tupX _, h => absurd (show false = true from h) Bool.false_ne_true
  | .inst _ _ _, h => absurd (show false = true from h) Bool.false_ne_true
  | .obj _, h => absurd (show false = true from h) Bool.false_ne_true
  | .ty _, h => absurd (show false = true from h) Bool.false_ne_true
  | .exc _ _ _ _, h => absurd (show false = true from h) Bool.false_ne_true
theorem shOkL_show : ∀ {ds : List D}, shOkL ds = true → PyData.showableAll (pdL ds) = true
  | [], _ => rfl
  | d :: ds, h => by
    have h' := Bool.and_eq_true_iff.mp (show (shOk d && shOkL ds) = true from h)
    show ((pd d).showable && PyData.showableAll (pdL ds)) = true
    rw [shOk_show h'.1, shOkL_show h'.2]
    rfl
end
mutual
theorem pd_noDict : ∀ (d : D), (pd d).hasDict = false
  | .int _ => rfl
  | .non => rfl
  | .bl _ => rfl
  | .str _ => rfl
  | .tup ds => pdL_noDict ds
  | .lst ds => pdL_noDict ds
  | .tupX _ => rfl
  | .inst _ _ _ => rfl
  | .obj _ => rfl
  | .ty _ => rfl
  | .exc _ _ _ _ => rfl
  | .fn _ => rfl
  | .hob _ => rfl
  | .dct _ _ => rfl
theorem pdL_noDict : ∀ (ds : List D), PyData.hasDictAll (pdL ds) = false
  | [] => rfl
  | d :: ds => by
    show ((pd d).hasDict || PyData.hasDictAll (pdL ds)) = false
    rw [pd_noDict d, pdL_noDict ds]
    rfl
end
theorem join_len (ts : List Str) : (Str.join ", " ts).length ≤ piled ts := by
  cases ts with
  | nil => show 0 ≤ _; omega
  | cons t r => have := join_length_add (t :: r) (by simp); omega
theorem textFrom_piled : ∀ (ts : List Str) (k : Nat) (acc : Str), (textFrom k acc ts).length ≤ acc.length + piled ts
  | [], k, acc => by show acc.length ≤ acc.length + _; omega
  | t :: r, k, acc => by
    have ih := textFrom_piled r (k + 1) (acc ++ (if k > 0 then ", " else "" : String) ++ t)
    have e : (acc ++ (if k > 0 then ", " else "" : String) ++ t).length = acc.length + (if k > 0 then 2 else 0) + t.length := by
      rw [strLen_append, strLen_append]
      split <;> rfl
    rw [e] at ih
    rw [piled_cons]
    show (textFrom (k + 1) (acc ++ (if k > 0 then ", " else "" : String) ++ t) r).length ≤ _
    have h2 : (if k > 0 then 2 else 0) ≤ 2 := by split <;> omega
    omega
mutual
theorem shown_len : ∀ {d : D}, shOk d = true → (pd d).shown.length ≤ shL d
  | .int i, h => int_text_len_1921 (of_decide_eq_true h)
  | .non, _ => by show 4 ≤ 5; omega
  | .bl b, _ => by cases b <;> decide
  | .str z, h => PySem.StrLaws.reprText_len z fun c hc => by
    have h1 := Array.all_eq_true'.mp (show z.cps.all (· < 0x110000) = true from h) c (by simpa using hc)
    have h2 := of_decide_eq_true h1
    omega
  | .tup ds, h => by
    have ih := shownL_len (ds := ds) h
    show (tupleText (PyData.shownAll (pdL ds))).length ≤ shLL ds + 3
    unfold tupleText
    rw [strLen_append, strLen_append]
    have := join_len (PyData.shownAll (pdL ds))
    have e1 : (("(" : String) : Str).length = 1 := rfl
    have e2 : ((if (PyData.shownAll (pdL ds)).length == 1 then ",)" else ")" : String) : Str).length ≤ 2 := by split <;> decide
    omega
  | .lst ds, h => by
    have ih := shownL_len (ds := ds) h
    show (listText (PyData.shownAll (pdL ds))).length ≤ shLL ds + 2
    unfold listText
    rw [strLen_append]
    have := textFrom_piled (PyData.shownAll (pdL ds)) 0 ("[" : String)
    have e1 : (("[" : String) : Str).length = 1 := rfl
    have e2 : (("]" : String) : Str).length = 1 := rfl
    omega
  | .tupX _, h => absurd (show false = true from h) Bool.false_ne_true
  | .inst _ _ _, h => absurd (show false = true from h) Bool.false_ne_true
  | .obj _, h => absurd (show false = true from h) Bool.false_ne_true
  | .ty _, h => absurd (show false = true from h) Bool.false_ne_true
  | .exc _ _ _ _, h => absurd (show false = true from h) Bool.false_ne_true
theorem shownL_len : ∀ {ds : List D}, shOkL ds = true → piled (PyData.shownAll (pdL ds)) ≤ shLL ds
  | [], _ => Nat.le_refl _
  | d :: ds, h => by
    have h' := Bool.and_eq_true_iff.mp (show (shOk d && shOkL ds) = true from h)
    have h1 := shown_len h'.1
    have h2 := shownL_len h'.2
    show piled ((pd d).shown :: PyData.shownAll (pdL ds)) ≤ shL d + 2 + shLL ds
    rw [piled_cons]
    omega
end
theorem dp_val {K : PySem.W.Frag} {H : Hp} {S : Sd} {d : D} {v : V} (R : RelS K H S) (h : isData (valD S d) = true) (r : Rp K H S d v) : Dp K H v (pd (valD S d)) := by
  cases d with
  | obj a =>
    have e : v = .ref a := r
    subst e
    unfold valD at h ⊢
    dsimp only at h ⊢
    split at h
    · rename_i ds q
      obtain ⟨vs, q1, q2⟩ := rp_obj R q
      exact .lst (.inl (.inl q1)) (dp_ofL R ds vs h q2)
    · exact absurd (show false = true from h) Bool.false_ne_true
  | _ => exact dp_of R _ v h r
/-! ### repr -/
def rRepr (K : PySem.W.Frag) : List V → Hp → VK → Prop := fun xs H Q => ∃ v p, xs = [v] ∧ Dp K H v p ∧ p.showable = true ∧ p.hasDict = false ∧ p.depth ≤ 60 ∧ p.shown.length ≤ sizeLine ∧ Q (.str p.shown) H
theorem call_reprD {X : Cx} (hg : X.A.guards = some []) (hu : X.A.units + 64 < cLine) : CallR X (.builtin "repr") (rRepr X.K) := by
  intro pins s σ H xs us Q I r ⟨v, p, e, hd, hs, hn, hp, hz, q⟩
  subst e
  obtain ⟨u, rfl, rv⟩ := vals1 r
  have big : ∀ {a : Addr}, v = .ref a → wpAny (model X.prog X.w) X.A (call (.builtin "repr") [u]) (EP X pins σ Q) X.xe s := fun {a} e => by
    obtain ⟨as, rd⟩ := Dp.reads I p v u hd rv
    subst e
    obtain rfl : u = Value.ref a := rv
    exact PySem.repr_of_reads' rd hs (fun z => by rw [hn] at z; cases z) hg (by omega) (fun _ _ z => z) (fun h' t tk hk => ⟨.str _, H, I.kept hk, ⟨t, rfl⟩, q⟩) hz
  cases hd with
  | non =>
    obtain rfl : u = Value.none := rv
    exact PySem.P.repr_of_none ⟨.str _, H, I.tok _, ⟨_, rfl⟩, q⟩
  | bl b =>
    obtain rfl : u = Value.bool b := rv
    exact PySem.P.repr_of_bool ⟨.str _, H, I.tok _, ⟨_, rfl⟩, q⟩
  | int i =>
    obtain ⟨t, rfl⟩ := (show ∃ t, u = .int i t from rv)
    exact PySem.P.repr_of_int (of_decide_eq_true hs) ⟨.str _, H, I.tok _, ⟨_, rfl⟩, q⟩
  | str z =>
    obtain ⟨t, rfl⟩ := (show ∃ t, u = .str z t from rv)
    exact PySem.P.repr_of_str ⟨.str _, H, I.tok _, ⟨_, rfl⟩, q⟩ hz
  | lst _ _ => exact big rfl
  | tup _ _ => exact big rfl
/-- may be shown -/
def shD (d : D) : Prop := shOk d = true ∧ shL d ≤ 16777216 ∧ (pd d).depth ≤ 60
def shownD (d : D) : Str := (pd d).shown
def rdRepr : RDC := fun ds S Q => match ds with
  | [d] => shD (valD S d) ∧ Q (.str (shownD (valD S d))) S
  | _ => False
theorem cd_repr {X : Cx} (hg : X.A.guards = some []) (hu : X.A.units + 64 < cLine) : CallD X (.builtin "repr") rdRepr := ⟨_, call_reprD hg hu, fun H S fr σd σ xs ds Qv Qd ok r h k => by
  cases ds with
  | nil => exact h.elim
  | cons d t => cases t with
    | cons _ _ => exact h.elim
    | nil =>
      obtain ⟨v, rfl, r0⟩ := rpL1 r
      obtain ⟨⟨h1, h2, h3⟩, q⟩ := h
      exact ⟨v, _, rfl, dp_val ok.rel (shOk_data h1) r0, shOk_show h1, pd_noDict _, h3, by rw [sl_eq]; exact Nat.le_trans (shown_len h1) h2, k _ (.str _) H S ok rfl q⟩⟩
theorem x_repr {d : D} {S : Sd} {Q : DK} : rdRepr [d] S Q = (shD (valD S d) ∧ Q (.str (shownD (valD S d))) S) := rfl
/-! ### == where a tracked list may stand -/
def eqV_ (x y : D) (S : Sd) (Q : DK) : Prop := (eqOk (valD S x) = true ∧ eqOk (valD S y) = true) ∧ Q (.bl (deq (valD S x) (valD S y))) S
def neV_ (x y : D) (S : Sd) (Q : DK) : Prop := (eqOk (valD S x) = true ∧ eqOk (valD S y) = true) ∧ Q (.bl (!deq (valD S x) (valD S y))) S
def rdEqO : RD2 := fun x y S Q => match x, y with
  | .obj a, y => eqV_ (.obj a) y S Q
  | x, .obj b => eqV_ x (.obj b) S Q
  | x, y => rdEq x y S Q
def rdNeO : RD2 := fun x y S Q => match x, y with
  | .obj a, y => neV_ (.obj a) y S Q
  | x, .obj b => neV_ x (.obj b) S Q
  | x, y => rdNe x y S Q
section
variable {S : Sd} {Q : DK}
theorem x_eqO_ss {x y : Str} : rdEqO (.str x) (.str y) S Q = Q (.bl (decide (x = y))) S := rfl
theorem x_neO_ss {x y : Str} : rdNeO (.str x) (.str y) S Q = Q (.bl (!decide (x = y))) S := rfl
end
/-! ### a list unpacked into names -/
def dTupL (n : Nat) (t : TGsD) : TGD := fun d σ S Q => match lstD S d with
  | some ds => ds.length = n ∧ t ds σ S Q
  | none => False
theorem x_tupL {n : Nat} {t : TGsD} {ds : List D} {σ : Si} {S : Sd} {Q : Si → Sd → Prop} : dTupL n t (.lst ds) σ S Q = (ds.length = n ∧ t ds σ S Q) := rfl
/-! ### a tracked list walked by a comprehension -/
section
variable {X : Cx} {W : Wi} {pos : Pos}
end
/-! ### isinstance, reverse of tracked lists -/
end Dv

/-! An own exception whose __init__ stores its arguments, over any built-in class of errors. -/
namespace Hx
open PySem PySem.Spec PyProof.Rows L2
/-- what the written part says of such a class; bm: its built-in class's mro -/
structure OexG (K : PySem.W.Frag) (C : Addr) (bm : List Value) (newId : String) : Prop where
  cls : ∃ nm q N bs sn sub ab col dd k0 k1 k2 k3 k5, K.lookup C = some (excClassObj nm q C N bs bm true sn sub ab col dd k0 k1 k2 k3 k5 newId)
  pass : ∀ self : Value, refuseLoop self "__setattr__" bm = pure ()
  top : bm.contains (.type "object") = true
  sa : PySem.W.findIn K (.ref C) "__setattr__" = some (some (.builtin "object.__setattr__"))
  exC : PySem.W.subIn K (.ref C) (.type "BaseException") = some true
  tyC : PySem.W.typeIn K (.ref C) = some (.type "type")
  kC : PySem.W.keepIn K (.ref C) = true
section
open Builtin Builtin.ObjectAttr PySem.Calls
variable {prog : Program} {w : World} {A : Around} {R : Result → Shared → Prop} {hp : Heap} {g : Array GenState} {d : Drawn} {t : Nat} {os : OsState} {K : PySem.W.Frag} {name : Str} {tk : Tok} {v : Value} {x C dx : Addr} {fv : Array Value} {cd : ClassData} {bm : List Value} {m0 : Str → Option Value} {nl : List Str}
theorem look_sub {o : Obj} {od : Option Obj} (X : K.In hp) (I : PySem.W.InstAt hp x o C od) (hcd : PySem.W.clsIn K C = some cd) (hm : cd.mro = .ref C :: bm) (top : bm.contains (.type "object") = true) : PySem.W.Looks (model prog w) hp (isInstance (.ref x) (.type "object")) true :=
  I.type.andThen (PySem.W.looks_mroIn X (by
    have e : cd.mro.contains (.type "object") = true := by rw [hm, List.contains_cons, top, Bool.or_true]
    unfold PySem.W.mroIn
    rw [hcd, Option.bind_some, if_neg (by rw [hm]; exact Bool.false_ne_true), e]))
/-- the first field: a dict is made -/
theorem put_first (X : K.In hp) (hx : hp.get? x = some { cls := .ref C, data := .fields fv }) (hcd : PySem.W.clsIn K C = some cd) (hm : cd.mro = .ref C :: bm) (pass : ∀ self : Value, refuseLoop self "__setattr__" bm = pure ()) (top : bm.contains (.type "object") = true) (hh : cd.hasDict = true) (free : PySem.W.findIn K (.ref C) name = some none)
    (fin : ∀ h' tk' dx, (∀ b o, b ≠ x → hp.get? b = some o → h'.get? b = some o) → hp.objs.size ≤ dx → dx ≠ x → h'.get? x = some { cls := .ref C, dict := some dx, data := .fields fv } → h'.Ns1 dx (fun y => if y = name then some v else none) → R (.ok (.ret .none)) ⟨h', g, d, tk', os⟩) :
    codeAny (model prog w) A (.call (.builtin "object.__setattr__") ⟨[.ref x, .str name tk, v], []⟩) R ⟨hp, g, d, t, os⟩ := by
  have SF := F.store_object
  have I : PySem.W.InstAt hp x { cls := .ref C, data := .fields fv } C none := ⟨hx, rfl, rfl, trivial⟩
  have apart : x ≠ hp.objs.size := Nat.ne_of_lt (Heap.lt_size hx)
  have seeC : PySem.W.Looks (model prog w) hp (classData C) cd := PySem.W.looks_clsIn X hcd
  have seeM : PySem.W.Looks (model prog w) hp (mroOf (.ref C)) cd.mro := seeC.andThen .now
  have seeT : PySem.W.Looks (model prog w) hp (storeTaker? none) none := .now
  refine codeAny_call_builtin SF.slot.plain SF.entry (@PySem.W.check_slot (model prog w) _ _ ⟨hp, g, d, t, os⟩ "object.__setattr__" "object" "__setattr__" (.ref x) [.str name tk, v] [] _ SF.kind SF.split (look_sub X I hcd hm top) (SF.args (.ref x) (.str name tk) v) ?_)
  rw [PySem.W.osa_eq, refuse_eq]
  refine wpAny_bind (wpAny_bind (I.type.at (wpAny_bind (seeM.at ?_))))
  rw [hm, refuseLoop_ref, pass]
  refine wpAny_pure (wpAny_bind (I.type.at (wpAny_bind ((PySem.W.looks_findIn X free).at (wpAny_bind (seeT.at (show wpAny _ _ (storeInOwnDict (.ref x) (.ref C) (.str name tk) name v false) _ _ _ from ?_)))))))
  cases cd
  dsimp only at hh
  subst hh
  unfold storeInOwnDict ownDictForStores
  repeat (first | with_reducible refine HandSPX.store_in_new ?_ ?_ | with_reducible refine wpAny_loadPart_at hx ?_ | with_reducible refine seeC.at ?_ | wp_step)
  · exact ⟨_, #[], _, (Heap.get?_update_ne _ _ _ _ apart.symm).trans (Heap.get?_push_at rfl rfl), rfl, fun e he => absurd he (by simp), fun _ => rfl⟩
  · intro h' tk' hn' hs
    refine fin h' tk' hp.objs.size (fun b o hb ho => ?_) (Nat.le_refl _) apart.symm ?_ hn'
    · exact (hs.2 b (Nat.ne_of_lt (Heap.lt_size ho))).trans ((Heap.get?_update_ne _ _ _ _ hb).trans (Heap.get?_push_of_some _ ho))
    · exact (hs.2 x apart).trans (Heap.get?_update_self _ (Heap.get?_push_of_some _ hx) rfl)
/-- a further field -/
theorem put_more (X : K.In hp) (hx : hp.get? x = some { cls := .ref C, dict := some dx, data := .fields fv }) (hns : hp.Ns1 dx m0) (hw : Within m0 nl) (hz : nl.length ≤ 1000) (hcd : PySem.W.clsIn K C = some cd) (hm : cd.mro = .ref C :: bm) (pass : ∀ self : Value, refuseLoop self "__setattr__" bm = pure ()) (top : bm.contains (.type "object") = true) (hh : cd.hasDict = true)
    (free : PySem.W.findIn K (.ref C) name = some none) (fin : ∀ h' tk', (∀ b o, b ≠ dx → hp.get? b = some o → h'.get? b = some o) → h'.Ns1 dx (fun y => if y = name then some v else m0 y) → R (.ok (.ret .none)) ⟨h', g, d, tk', os⟩) :
    codeAny (model prog w) A (.call (.builtin "object.__setattr__") ⟨[.ref x, .str name tk, v], []⟩) R ⟨hp, g, d, t, os⟩ := by
  have SF := F.store_object
  obtain ⟨oD, esD, epD, hoD, hdD, _⟩ := hns.count hw
  have I : PySem.W.InstAt hp x { cls := .ref C, dict := some dx, data := .fields fv } C (some oD) := ⟨hx, rfl, rfl, hoD⟩
  have seeC : PySem.W.Looks (model prog w) hp (classData C) cd := PySem.W.looks_clsIn X hcd
  have seeM : PySem.W.Looks (model prog w) hp (mroOf (.ref C)) cd.mro := seeC.andThen .now
  have seeT : PySem.W.Looks (model prog w) hp (storeTaker? none) none := .now
  refine codeAny_call_builtin SF.slot.plain SF.entry (@PySem.W.check_slot (model prog w) _ _ ⟨hp, g, d, t, os⟩ "object.__setattr__" "object" "__setattr__" (.ref x) [.str name tk, v] [] _ SF.kind SF.split (look_sub X I hcd hm top) (SF.args (.ref x) (.str name tk) v) ?_)
  rw [PySem.W.osa_eq, refuse_eq]
  refine wpAny_bind (wpAny_bind (I.type.at (wpAny_bind (seeM.at ?_))))
  rw [hm, refuseLoop_ref, pass]
  refine wpAny_pure (wpAny_bind (I.type.at (wpAny_bind ((PySem.W.looks_findIn X free).at (wpAny_bind (seeT.at (show wpAny _ _ (storeInOwnDict (.ref x) (.ref C) (.str name tk) name v false) _ _ _ from ?_)))))))
  cases cd
  dsimp only at hh
  subst hh
  unfold storeInOwnDict ownDictForStores
  repeat (first | with_reducible refine OEX.store_in_old hns hw hz ?_ | with_reducible refine wpAny_loadPart_at hx ?_ | with_reducible refine seeC.at ?_ | wp_step)
  exact fun h' tk' hn' hs => fin h' tk' (fun b o hb ho => (hs.2 b hb).trans ho) hn'
end
section
variable {X : Cx} {pins : List (Addr × Obj)} {σ : L2.St} {H : Hp} {s : Shared} {a C dx : Addr} {f : Str} {y : V} {u : Value} {fs : List (Str × V)} {Q : Unit → Shared → Prop} {E : Value → Shared → Prop} {A : Around} {bm : List Value} {newId : String}
theorem OexG.cd {K : PySem.W.Frag} (T : OexG K C bm newId) : ∃ cd, PySem.W.clsIn K C = some cd ∧ cd.mro = .ref C :: bm ∧ cd.hasDict = true := by
  obtain ⟨nm, q, N, bs, sn, sub, ab, col, dd, k0, k1, k2, k3, k5, hC⟩ := T.cls
  exact ⟨{ name := nm, bases := bs, mro := .ref C :: bm, ns := N, qualname := q, hasDict := true, slotNames := sn, subclasses := sub, abstract := ab, collection := col, hasDel := false }, by unfold PySem.W.clsIn; rw [hC] <;> rfl, rfl, rfl⟩
theorem set_first (T : OexG X.K C bm newId) (I : Inv X pins σ H s) (e : H a = some (exo a C none)) (free : PySem.W.findIn X.K (.ref C) f = some none) (ry : RelV y u)
    (fin : ∀ dx s', H dx = none → dx ≠ a → Inv X pins σ (upd (upd H dx (exd dx [(f, y)])) a (exo a C (some dx))) s' → Q () s') : wpAny (model X.prog X.w) A (setAttr (.ref a) f u) Q E s := by
  obtain ⟨cd, hcd, hm, hh⟩ := T.cd
  obtain ⟨t1, ho⟩ := exo_at I.hok e
  obtain ⟨hp, g, d, t, os⟩ := s
  refine PySem.W.set_plain I.kIn (ox := { cls := .ref C, dict := none, data := .fields #[.ref t1, .none, .none, .none, .bool false, .none] }) (od := none) ⟨ho, rfl, rfl, trivial⟩ T.sa ?_
  refine put_first I.kIn ho hcd hm T.pass T.top hh free fun h' tk' dx k dn dne hx hn => ?_
  have new : H dx = none := I.hok.fresh dn
  have old : ∀ {b : Addr} {o : Obj}, hp.get? b = some o → b ≠ dx := fun q => Nat.ne_of_lt (Nat.lt_of_lt_of_le (Heap.lt_size q) dn)
  have other : ∀ {b : Addr}, H b = none → b ≠ a := fun n z => by
    rw [z, e] at n
    cases n
  have still : ∀ {b : Addr} {o : HO}, H b = some o → b ≠ a → upd (upd H dx (exd dx [(f, y)])) a (exo a C (some dx)) b = some o := fun q h => by rw [upd_ne h, upd_ne (ne_of_none q new)]; exact q
  have un : Un X.fs [] H (upd (upd H dx (exd dx [(f, y)])) a (exo a C (some dx))) hp h' := {
    keep := fun b o q n _ _ => k b o (other n) q
    slot := fun b o q n _ _ => ⟨o.slots, k b o (other n) q⟩
    free := fun b o q n _ => by rw [upd_ne (other n), upd_ne (old q)]; exact n
    there := fun b o q _ => by
      by_cases hb : b = a
      · rw [hb]; exact ⟨_, hx⟩
      · exact ⟨o, k b o hb q⟩
    tups := fun b xs q => still q (at_ne e q exo_tup)
    frzs := fun b o v q => still q (at_ne e q exo_frz)
    tbls := fun b ps q => ⟨#[], by rw [still q (at_ne e q exo_tbl)]; simp⟩ }
  refine fin dx _ new dne (I.un (t' := tk') un fun b o q => ?_)
  by_cases hb : b = a
  · subst hb
    rw [upd_same] at q
    cases q
    exact exo_ok hx
  rw [upd_ne hb] at q
  by_cases hd : b = dx
  · subst hd
    rw [upd_same] at q
    cases q
    exact exd_ok hn (relO_put (fs := []) ry fun g => True.intro)
  rw [upd_ne hd] at q
  exact (I.hok b o q).stay (fun c v hc z => k c v (hc.elim (fun h => h ▸ hb) fun h => at_ne e h exo_own) z) (fun c hc => still hc (at_ne e hc exo_own)) fun c xs hc => still hc (at_ne e hc exo_tup)
theorem set_more (T : OexG X.K C bm newId) (I : Inv X pins σ H s) (e : H a = some (exo a C (some dx))) (ed : H dx = some (exd dx fs)) (hl : fs.length ≤ 900) (free : PySem.W.findIn X.K (.ref C) f = some none) (ry : RelV y u) (fin : ∀ s', Inv X pins σ (upd H dx (exd dx ((f, y) :: fs))) s' → Q () s') :
    wpAny (model X.prog X.w) A (setAttr (.ref a) f u) Q E s := by
  obtain ⟨cd, hcd, hm, hh⟩ := T.cd
  obtain ⟨t1, ho⟩ := exo_at I.hok e
  obtain ⟨mA, hns, rel⟩ := exd_at I.hok ed
  have hw := within_of rel
  obtain ⟨hp, g, d, t, os⟩ := s
  obtain ⟨oD, _, _, hoD, _, _⟩ := hns.count hw
  refine PySem.W.set_plain I.kIn (ox := { cls := .ref C, dict := some dx, data := .fields #[.ref t1, .none, .none, .none, .bool false, .none] }) (od := some oD) ⟨ho, rfl, rfl, hoD⟩ T.sa ?_
  refine put_more I.kIn ho hns hw (by rw [List.length_map]; omega) hcd hm T.pass T.top hh free fun h' tk' k hn => ?_
  obtain ⟨o, es, ep, ho', rest⟩ := id hn
  exact fin _ (I.write (t' := tk') (x := dx) (e := dx) (o := exd dx ((f, y) :: fs)) (by rw [ed]; exact True.intro) (.inl rfl) k ⟨o, ho'⟩ (exd_ok hn (relO_put ry rel)))
end
/-- self.f = e -/
def tPut (K : PySem.W.Frag) (bm : List Value) (newId : String) (f : Str) (to te : TE) : TS := fun D σ H => te σ H fun y H1 => to σ H1 fun x H2 => ∃ a C : Addr, x = .ref a ∧ OexG K C bm newId ∧ PySem.W.findIn K (.ref C) f = some none ∧
  ((H2 a = some (exo a C none) ∧ ∀ dx, H2 dx = none → dx ≠ a → D.nx σ (upd (upd H2 dx (exd dx [(f, y)])) a (exo a C (some dx)))) ∨ ∃ (dx : Addr) (fs : List (Str × V)), H2 a = some (exo a C (some dx)) ∧ H2 dx = some (exd dx fs) ∧ fs.length ≤ 900 ∧ D.nx σ (upd H2 dx (exd dx ((f, y) :: fs))))
section
variable {X : Cx} {o e : Expr} {es : List Expr} {to te : TE} {ta : TA} {f : Str} {p p' p1 p2 pos : Pos} {bm : List Value} {newId : String}
theorem ps_put (ho : PE X o to) (he : PE X e te) (hs : swapsWith e (some (.Attribute o f p')) pos.line X.env = pure false := by rfl) : PS X (.Assign [.Attribute o f p'] e pos) (tPut X.K bm newId f to te) :=
  ⟨fun pins s σ H D I h => plainObj_wpAny_Assign_Attribute (thn (he.run pins s σ H _ I h) fun v s1 ⟨y, H1, I1, r1, q1⟩ => thn (ho.run pins s1 σ H1 _ I1 q1) fun u s2 ⟨x, H2, I2, r2, a, C, ex, T, free, q⟩ => by
    subst ex
    obtain rfl : u = Value.ref a := r2
    rcases q with ⟨ea, q⟩ | ⟨dx, fs, ea, ed, hl, q⟩
    · exact set_first T I2 ea free r1 fun dx s' n ne J => ⟨σ, _, J, q dx n ne⟩
    · exact set_more T I2 ea ed hl free r1 fun s' J => ⟨σ, _, J, q⟩) hs⟩
/-- C(e, ..), its fields ready -/
def tMkG (C : Addr) (sp : Sp) (ta : TA) : L2.St → Hp → XK → Prop := fun σ H Q => ta σ H fun vs H1 => vs.length ≤ 1000 ∧ ∀ a, H1 a = none → sp (.ref a :: vs) (upd H1 a (exo a C none))
  (fun v H2 => v = .non ∧ ∃ (d : Addr) (fs : List (Str × V)), H2 a = some (exo a C (some d)) ∧ H2 d = some (exd d fs) ∧ H1 d = none ∧ Q (.ref C) (some d) (upd (L2.del H2 a) d (.xd fs))) (fun _ _ _ => False)
theorem noGuard {args : Args} : (Code.builtin "type.__call__" args).guards = [] := if_neg (by show ¬ (guardIds.contains "type.__call__" = true); decide)
theorem ctx_none {C : Addr} {d : Option Addr} {t0 : Addr} : L2N.Zn (.ref C) d ({ cls := .ref C, dict := d, data := .fields #[.ref t0, .none, .none, .none, .bool false, .none] } : Obj) := ⟨rfl, rfl, fun vs e => by cases e; rfl⟩
theorem pmk_G {B initId : String} {x : Str} {C fI : Addr} {k : Nat} {fd : FuncData} {ps : List Str} {sp : Sp} (FB : ExcBaseFacts B newId initId bm) (T : OexG X.K C bm newId) (iC : PySem.W.findIn X.K (.ref C) "__init__" = some (some (.ref fI))) (tI : PySem.W.typeIn X.K (.ref fI) = some (.type "function"))
    (F1 : FnG X.prog X.w X.K X.mg X.base (L2N.CX X.prog X.w) k fI fd ps sp) (hr : RoomG (k + 1) X.A) (hb : Binds X.K fd ps []) (hg : Gl X x) (hm : X.mg x = some (.ref C)) (ha : PA X (e :: es) ta)
    (hdb : (x == ("__debug__" : Str)) = false := by decide) (he : starEach (e :: es) X.env = (false, eval e X.env) :: starEach es X.env := by rfl) (hpl : (backTo pos (starEach es X.env)).any (·.1) = false := by rfl) :
    L2N.PMk X (.Call (.Name x p) (e :: es) [] pos) (tMkG C sp ta) := by
  intro pins s σ H Q I h
  obtain ⟨nm, q, N, bs, sn, sub, ab, col, dd, k0, k1, k2, k3, k5, hC⟩ := T.cls
  refine wpAny_Call_Name_kw (ld_glob I hg hm (PySem.W.callWith_K (h₀ := X.base) I.ok.mod.kin T.kC (thn (ha.run pos pins s σ H _ I h) fun us s1 ⟨vs, H1, I1, r1, hz, q1⟩ => ⟨I1.kIn, show wpAny _ _ (call (.ref C) us) _ _ _ from ?_⟩) he hpl) hdb)
  obtain ⟨hp, g, dr, tk, os⟩ := s1
  have above : hp.objs.size ≤ hp.objs.size + 1 := Nat.le_succ _
  have q2 := q1 (hp.objs.size + 1) (I1.hok.fresh above)
  have kept : ∀ b o, hp.get? b = some o → ((hp.push (PySem.W.kdv_tup us)).push (PySem.HandSPX.excO C hp.objs.size)).get? b = some o := fun b o z => Heap.get?_push_of_some _ (Heap.get?_push_of_some _ z)
  have I2 : Inv X pins σ (upd H1 (hp.objs.size + 1) (exo (hp.objs.size + 1) C none)) ⟨(hp.push (PySem.W.kdv_tup us)).push (PySem.HandSPX.excO C hp.objs.size), g, dr, tk, os⟩ :=
    I1.laid (t' := tk) (a := hp.objs.size + 1) (o := exo (hp.objs.size + 1) C none) (h' := (hp.push (PySem.W.kdv_tup us)).push (PySem.HandSPX.excO C hp.objs.size)) kept above (exo_ok (by heap_get))
  have r2 : Vals (V.ref (hp.objs.size + 1) :: vs) (Value.ref (hp.objs.size + 1) :: us) := .cons rfl r1
  have hl : (Value.ref (hp.objs.size + 1) :: us).length = ps.length := r2.length.symm.trans (F1.len _ _ _ _ q2)
  have few : us.length ≤ sizeLine := by rw [← Paired.length r1, sizeLine_eq]; omega
  have bind := hb _ (Value.ref (hp.objs.size + 1) :: us) I2.kIn (by rw [List.append_nil]; exact hl)
  rw [List.append_nil] at bind
  have room : RoomG k (X.A.under (.builtin "type.__call__" ⟨Value.ref C :: us, []⟩)) := ⟨hr.rm.make C us [], by
    unfold Around.under
    dsimp only
    rw [hr.gd, noGuard]
    rfl⟩
  refine wpAny_call (PySem.HandSPX.call_own FB (fun _ => rfl) (I1.kIn _ _ hC) (PySem.W.looks_findIn I1.kIn iC) (fun self => PySem.W.bind_fn I1.kIn self tI) few (codeAny_mono (F1.run _ X.stack _ _ ⟨Value.ref (hp.objs.size + 1) :: us, []⟩ _ _ _ (fun _ _ _ => False) room (I2.env0.make C us []) bind r2 q2) fun r s' got => ?_))
  match r, got with
  | .error er, got =>
    obtain ⟨_, _, _, _, _, _, _, _, _, _, _, _, z⟩ := (show L2N.CX X.prog X.w X.stack _ _ (fun _ _ _ => False) er s' from got)
    exact z.elim
  | .ok (.ret u), ⟨v, H2, os2, bare2, un2, hok2, rv, ev, d, fs, ea, ed, hd1, q3⟩ =>
    subst ev
    obtain ⟨h2, g2, d2, t2, os'⟩ := s'
    obtain ⟨t0, G, J, kG, ge, hoe, na⟩ := mk_end0 (d2 := d2) (t2 := t2) I1 above kept un2 hok2 os2 bare2 ea ed hd1
    exact ⟨rv, _, _, _, ⟨G, g2, d2, t2, os'⟩, _, .ref C, some d, rfl, J, kG, ge, hoe, ctx_none, rfl, rfl, na, rfl, bare2, raises_own T.exC T.tyC, q3⟩
end
/-! ### __init__ with one field, with two -/
def spI2 (C : Addr) (f g : Str) : Sp := fun vs H Q _ => ∃ (a : Addr) (v w : V), vs = [.ref a, v, w] ∧ H a = some (exo a C none) ∧ ∀ d, H d = none → d ≠ a → Q .non (upd (upd (upd H d (exd d [(f, v)])) a (exo a C (some d))) d (exd d [(g, w), (f, v)]))
section
variable {P : Program} {w : World} {K : PySem.W.Frag} {mg : Str → Option Value} {base : Heap} {x qual : Str} {st : Stmt} {fI C : Addr} {fd : FuncData} {bm : List Value} {newId : String} {s f g : Str} {p1 p2 p3 p4 q1 q2 q3 q4 : Pos}
theorem init2_ok (F : L2.Fun K x qual st fI fd) (Sc : FnScope [s, f, g] [s, f, g] (defScope st)) (T : OexG K C bm newId) (freeF : PySem.W.findIn K (.ref C) f = some none) (freeG : PySem.W.findIn K (.ref C) g = some none)
    (hb : defBody st = [.Assign [.Attribute (.Name s p1) f p2] (.Name f p3) p4, .Assign [.Attribute (.Name s q1) g q2] (.Name g q3) q4])
    (hs : ∀ env : Env, swapsWith (.Name f p3) (some (.Attribute (.Name s p1) f p2)) p4.line env = pure false := by intro _; rfl) (hs2 : ∀ env : Env, swapsWith (.Name g q3) (some (.Attribute (.Name s q1) g q2)) q4.line env = pure false := by intro _; rfl)
    (v1 : Vis (defScope st) s := by first | exact .inl rfl | exact .inr (.inl rfl)) (v2 : Vis (defScope st) f := by first | exact .inl rfl | exact .inr (.inl rfl)) (v3 : Vis (defScope st) g := by first | exact .inl rfl | exact .inr (.inl rfl)) (d1 : (s == ("__debug__" : Str)) = false := by decide) (c1 : (s == ("__classdict__" : Str)) = false := by decide)
    (d2 : (f == ("__debug__" : Str)) = false := by decide) (c2 : (f == ("__classdict__" : Str)) = false := by decide) (d3 : (g == ("__debug__" : Str)) = false := by decide) (c3 : (g == ("__classdict__" : Str)) = false := by decide) : FnG P w K mg base (L2N.CX P w) 1 fI fd [s, f, g] (spI2 C f g) := by
  refine fnG_of (k := 0) (N := [s, f, g]) F Sc (fun vs H Q E ⟨_, _, _, e, _⟩ => by rw [e]; rfl) fun cdv _ A outer sh H vs Q E hr ⟨a, v, w, e, ha, q⟩ => ?_
  subst e
  rw [hb]
  refine ⟨_, pss_cons (ps_put (bm := bm) (newId := newId) (pe_var (i := 0) rfl v1 d1 c1) (pe_var (i := 1) rfl v2 d2 c2) (hs _)) (pss_one (ps_put (bm := bm) (newId := newId) (pe_var (i := 0) rfl v1 d1 c1) (pe_var (i := 2) rfl v3 d3 c3) (hs2 _))), ?_⟩
  refine ⟨v, rfl, .ref a, rfl, a, C, rfl, T, freeF, .inl ⟨ha, fun d nd ne => ?_⟩⟩
  exact ⟨w, rfl, .ref a, rfl, a, C, rfl, T, freeG, .inr ⟨d, [(f, v)], upd_same, by rw [upd_ne ne, upd_same], by show 1 ≤ 900; decide, q d nd ne⟩⟩
end
end Hx

/-! Readings by value: own errors with fields raised, their fields read in a suite. -/
namespace Dv
open PySem L2 PyProof.Rows Hx
/-- such a class: its built-in class's mro bm, its fields fs, its __init__ at fI -/
structure FxF (K : PySem.W.Frag) (n : Str) (bm : List Value) (newId : String) (C fI : Addr) (fs : List Str) : Prop where
  at_ : PySem.W.nsIn K mainGlobals n = some (some (.ref C))
  ox : OexG K C bm newId
  free : ∀ f ∈ fs, PySem.W.findIn K (.ref C) f = some none
  ini : PySem.W.findIn K (.ref C) "__init__" = some (some (.ref fI))
  fn : PySem.W.typeIn K (.ref fI) = some (.type "function")
def oexB (K : PySem.W.Frag) (C : Addr) (bm : List Value) (newId : String) : Bool := match K.lookup C with
  | some ⟨.type "type", _, .cls cd, sl⟩ => (match cd.mro, sl.toList with
    | .ref C' :: bm', [_, _, _, _, some (.builtin n), _] => C' == C && (n == newId && (cd.hasDict && (!cd.hasDel && bm' == bm)))
    | _, _ => false)
  | _ => false
theorem oexB_ok {K : PySem.W.Frag} {C : Addr} {bm : List Value} {newId : String} (h : oexB K C bm newId = true) : ∃ nm q N bs sn sub ab col dd k0 k1 k2 k3 k5, K.lookup C = some (excClassObj nm q C N bs bm true sn sub ab col dd k0 k1 k2 k3 k5 newId) := by
  unfold oexB at h
  split at h
  · rename_i dd cd sl ho
    split at h
    · rename_i C' bm' k0 k1 k2 k3 n k5 hm hs
      simp only [Bool.and_eq_true, beq_iff_eq, Bool.not_eq_true'] at h
      obtain ⟨rfl, rfl, hdct, hdel, rfl⟩ := h
      obtain ⟨nm, bs, mro, ns, qn, hd, sn, sub, ab, col, del⟩ := cd
      dsimp only at hm hdel hdct
      subst hm hdel hdct
      have hsl : sl = #[k0, k1, k2, k3, some (.builtin n), k5] := by
        obtain ⟨l⟩ := sl
        simp only at hs
        rw [hs]
      subst hsl
      exact ⟨_, _, _, _, _, _, _, _, _, _, _, _, _, _, ho⟩
    · cases h
  · cases h
def fxB (K : PySem.W.Frag) (n : Str) (bm : List Value) (newId : String) (C fI : Addr) (fs : List Str) : Bool := decide (PySem.W.nsIn K mainGlobals n = some (some (.ref C))) && (oexB K C bm newId && (decide (PySem.W.findIn K (.ref C) "__setattr__" = some (some (.builtin "object.__setattr__"))) && (decide (PySem.W.subIn K (.ref C) (.type "BaseException") = some true) &&
  (decide (PySem.W.typeIn K (.ref C) = some (.type "type")) && (PySem.W.keepIn K (.ref C) && (fs.all (fun f => decide (PySem.W.findIn K (.ref C) f = some none)) && (decide (PySem.W.findIn K (.ref C) "__init__" = some (some (.ref fI))) && decide (PySem.W.typeIn K (.ref fI) = some (.type "function")))))))))
theorem fxB_ok {K : PySem.W.Frag} {n : Str} {bm : List Value} {newId : String} {C fI : Addr} {fs : List Str} (pass : ∀ self : Value, refuseLoop self "__setattr__" bm = pure ()) (top : bm.contains (.type "object") = true) (h : fxB K n bm newId C fI fs = true) : FxF K n bm newId C fI fs := by
  obtain ⟨h1, h⟩ := and_b h
  obtain ⟨h2, h⟩ := and_b h
  obtain ⟨h3, h⟩ := and_b h
  obtain ⟨h4, h⟩ := and_b h
  obtain ⟨h5, h⟩ := and_b h
  obtain ⟨h6, h⟩ := and_b h
  obtain ⟨h7, h⟩ := and_b h
  obtain ⟨h8, h9⟩ := and_b h
  exact ⟨of_decide_eq_true h1, ⟨oexB_ok h2, pass, top, of_decide_eq_true h3, of_decide_eq_true h4, of_decide_eq_true h5, h6⟩, fun f hf => of_decide_eq_true (List.all_eq_true.mp h7 f hf), of_decide_eq_true h8, of_decide_eq_true h9⟩
/-! ### raise C(e), raise C(e, e') -/
def dRaiseF2 (WD : WXD) (n f g : Str) (t : TAD) : TSD := fun _ σ S => t σ S fun ds S1 => match ds with
  | [a, b] => WD ⟨n, [g, f], [b, a]⟩ σ S1
  | _ => False
section
variable {X : Cx} {W : Wi} {pos pos' p : Pos} {n s f g : Str} {bm : List Value} {B newId initId : String} {C fI : Addr} {fs : List Str} {fd : FuncData} {e : Expr} {es : List Expr} {t : TAD}
theorem made_eq {H1 H2 : Hp} {a d : Addr} {v : List (Str × V)} (ha : H1 a = none) (hd : d ≠ a) (h : ∀ b, b ≠ a → b ≠ d → H2 b = H1 b) : upd (L2.del H2 a) d (.xd v) = upd H1 d (.xd v) := by
  funext b
  by_cases hb : b = d
  · rw [hb, upd_same, upd_same]
  · rw [upd_ne hb, upd_ne hb]
    by_cases hc : b = a
    · rw [hc, L2.del_same, ha]
    · rw [L2.del_ne hc, h b hc hb]
theorem ds_raiseF2 (hc : X.calm = true) (tk : L2N.Takes X W.V) (FB : ExcBaseFacts B newId initId bm) (Fx : FxF X.K n bm newId C fI fs) (F1 : FnG X.prog X.w X.K X.mg X.base (L2N.CX X.prog X.w) 1 fI fd [s, f, g] (spI2 C f g)) (hr : RoomG 2 X.A) (hb : Binds X.K fd [s, f, g] []) (gC : X.mg n = some (.ref C)) (hg : Gl X n) (ha : DA X W (e :: es) t)
    (hdb : (n == ("__debug__" : Str)) = false := by decide) (he : starEach (e :: es) X.env = (false, eval e X.env) :: starEach es X.env := by rfl) (hpl : (backTo pos (starEach es X.env)).any (·.1) = false := by rfl) :
    DS X W (.Raise (some (.Call (.Name n p) (e :: es) [] pos)) none pos') (dRaiseF2 W.D n f g t) :=
  ⟨PS.imp (L2N.ps_raise hc tk (pmk_G FB Fx.ox Fx.ini Fx.fn F1 hr hb hg gC ha.p hdb he hpl)) fun D σ H ⟨σd, S, fr, Dd, ok, cl, h, k⟩ => ⟨σd, S, fr, _, ok, cl, h, fun vs ds H1 S1 ok1 r1 q => by
    match ds, q with
    | [da, db], q =>
      obtain ⟨v, w, rfl, rv, rw'⟩ := rpL2 r1
      refine ⟨by show 2 ≤ 1000; decide, fun a na => ⟨a, v, w, rfl, upd_same, fun d nd ne => ⟨rfl, d, _, by rw [upd_ne (Ne.symm ne), upd_same], upd_same, by rw [upd_ne ne] at nd; exact nd, ?_⟩⟩⟩
      rw [upd_ne ne] at nd
      rw [made_eq na ne fun b hba hbd => by rw [upd_ne hbd, upd_ne hba, upd_ne hbd, upd_ne hba]]
      refine cl σd σ _ S1 (.ref C) (some d) ⟨n, [g, f], [db, da]⟩ (ok1.new nd) ⟨Fx.at_, (fun z => by cases z), fun dx ed => ?_⟩ q
      cases ed
      exact ⟨_, upd_same, ok1.rel.free nd, .inr ⟨rfl, rpL_step ok1.rel (step_new nd) [db, da] [w, v] (rpL_cons rw' (rpL_cons rv rpL_nil))⟩⟩⟩⟩
/-! ### e.f in a suite -/
end
theorem pass_IndexError (self : Value) : refuseLoop self "__setattr__" [.type "IndexError", .type "LookupError", .type "Exception", .type "BaseException", .type "object"] = pure () := by kernel_rfl
end Dv

/-! The place of a whole number in a tuple of whole numbers. -/
namespace Dv
open PySem L2 PyProof.Rows Hx
end Dv

/-! Instances of own classes by value: made, their fields, their methods. -/
namespace Dv
open PySem L2 PyProof.Rows Hx
section
variable {X : Cx} {W : Wi} {k : Nat} {f C fI : Addr} {fd : FuncData} {ps : List Str} {sp : SpD} {ds : List Value} {dvs : List V} {dds : List D} {x n m g : Str} {p pos apos pos' : Pos} {o e : Expr} {es : List Expr} {to tv : TED} {t : TAD}
end
end Dv

/-! A list times a whole number; whether data stands in a list of data. -/
namespace Dv
open PySem L2 PyProof.Rows Hx
open AutoSeq1 (wpAny_loadPart')
def rdMulL : RD2 := fun x y S Q => match x, y with
  | .lst ds, .int k => (0 ≤ k ∧ k < 2 ^ 62 ∧ ds.length * k.toNat ≤ 16777216) ∧ Q (.lst (List.replicate k.toNat ds).flatten) S
  | _, _ => False
theorem x_mulL {ds : List D} {k : Int} {S : Sd} {Q : DK} : rdMulL (.lst ds) (.int k) S Q = ((0 ≤ k ∧ k < 2 ^ 62 ∧ ds.length * k.toNat ≤ 16777216) ∧ Q (.lst (List.replicate k.toNat ds).flatten) S) := rfl
/-! ### data in a list of data -/
def rdInD (neg : Bool) : RD2 := fun x y S Q => match y with
  | .lst ds => (isData x = true ∧ isDataL ds = true ∧ SeqAt.shaped (pd x) = true ∧ SeqAt.shaped (.list (pdL ds)) = true) ∧ Q (.bl (ds.any (fun z => deq z x) != neg)) S
  | _ => False
theorem any_deq {x : D} (hx : isData x = true) : ∀ {ds : List D}, isDataL ds = true → (pdL ds).any (fun z => PyData.eqv z (pd x)) = ds.any fun z => deq z x
  | [], _ => rfl
  | d :: ds, h => by
    have h2 := Bool.and_eq_true_iff.mp (show (isData d && isDataL ds) = true from h)
    show (PyData.eqv (pd d) (pd x) || (pdL ds).any _) = (deq d x || ds.any _)
    rw [eqv_pd d x h2.1 hx, any_deq hx h2.2]
theorem od_inD {X : Cx} (hu' : X.A.units + 65 < cLine) : OpD X (compareOp .In) (rdInD false) := ⟨_, op_inD hu', fun H S fr σd σ x y dx dy Qv Qd ok rx ry h k => by
  cases dy with
  | lst ds =>
    obtain ⟨⟨h1, h2, h3, h4⟩, q⟩ := h
    refine ⟨_, _, dp_of ok.rel dx x h1 rx, dp_of ok.rel (.lst ds) y h2 ry, h3, h4, ?_⟩
    rw [any_deq h1 h2]
    refine k _ (.bl _) H S ok rfl ?_
    simpa using q
  | _ => exact (show False from h).elim⟩
theorem units65 {k : Nat} {A : Around} (r : RoomG k A) : A.units + 65 < cLine := by have := r.rm.un; omega
end Dv

/-! Readings by value: defs with defaults; len of an instance. -/
namespace Dv
open PySem L2 PyProof.Rows Hx
section
variable {P : Program} {w : World} {K : PySem.W.Frag} {mg : Str → Option Value} {base : Heap}
end
end Dv
namespace Dv
open PySem L2 PyProof.Rows Hx
end Dv

/-! A tuple told at run time of which it is known that it has no dict: its method index. -/
namespace Dv
open PySem L2 PyProof.Rows Hx
def rdTupX : RDC := fun ds S Q => match ds with
  | [.lst ys] => Q (.tupX ys) S
  | _ => False
theorem x_tupX {ys : List D} {S : Sd} {Q : DK} : rdTupX [.lst ys] S Q = Q (.tupX ys) S := rfl
/-- the same as any tuple -/
def dPlain (t : TED) : TED := fun σ S Q => t σ S fun d S1 => match d with
  | .tupX ds => Q (.tup ds) S1
  | _ => False
section
variable {X : Cx} {W : Wi} {o e : Expr} {es : List Expr} {to : TED} {t : TAD} {apos cpos : Pos}
end
end Dv

/-! Readings by value: defs called while an exception is handled. -/
namespace Dv
open PySem PySem.Spec L2 PyProof.Rows Hx
section
variable {P : Program} {w : World} {K : PySem.W.Frag} {mg : Str → Option Value} {base : Heap}
end
section
variable {X : Cx} {k : Nat} {f : Addr} {fd : FuncData} {ps : List Str} {sp : SpD} {x : Str} {p pos : Pos} {e : Expr} {es : List Expr} {t : TAD}
end
end Dv

/-! Readings by value: sep.join(reversed(xs)). -/
namespace Dv
open PySem PySem.Spec L2 PyProof.Rows Hx
section
variable {X : Cx} {W : Wi}
end
end Dv
namespace Dv
open PySem PySem.Spec L2 PyProof.Rows Hx
/-- a promise that is never asked -/
theorem fnG_none {P : Program} {w : World} {K : PySem.W.Frag} {mg : Str → Option Value} {base : Heap} {CX : CXT} {k : Nat} {f : Addr} {fd : FuncData} {ps : List Str} {sp : SpD} (len : ∀ ds S Q E, sp ds S Q E → ds.length = ps.length) (no : ∀ ds S Q E, ¬ sp ds S Q E) : FnG P w K mg base CX k f fd ps (upF K sp) :=
  ⟨fun vs H Q E ⟨ds, S, _, Qd, Ed, _, _, _, h, _⟩ => absurd h (no ds S Qd Ed), fun A outer s H args us vs Q E _ _ _ _ ⟨ds, S, _, Qd, Ed, _, _, _, h, _⟩ => absurd h (no ds S Qd Ed)⟩
end Dv

/-! Readings by value: data in a tuple of data. -/
namespace Dv
open PySem PySem.Spec L2 PyProof.Rows Hx
section
variable {X : Cx}
/-! ### steps by instances alone -/
theorem op_go {rd : RD2} {ta tb : TED} {σ : Si} {S : Sd} {Q : DK} (h : ta σ S fun x S1 => tb σ S1 fun y S2 => rd x y S2 Q) : dOp rd ta tb σ S Q := h
theorem c_go {d : D} {σ : Si} {S : Sd} {Q : DK} (h : Q d S) : dC d σ S Q := h
theorem lst_go {t : TAD} {σ : Si} {S : Sd} {Q : DK} (h : t σ S fun ds S1 => ds.length ≤ 16777216 ∧ Q (.lst ds) S1) : dLst t σ S Q := h
theorem tup_go {t : TAD} {σ : Si} {S : Sd} {Q : DK} (h : t σ S fun ds S1 => ds.length ≤ 16777216 ∧ Q (.tup ds) S1) : dTup t σ S Q := h
theorem cons_go {ta : TED} {tr : TAD} {σ : Si} {S : Sd} {Q : List D → Sd → Prop} (h : ta σ S fun x S1 => tr σ S1 fun xs S2 => Q (x :: xs) S2) : dCons ta tr σ S Q := h
theorem nil_go {σ : Si} {S : Sd} {Q : List D → Sd → Prop} (h : Q [] S) : dNil σ S Q := h
theorem call_go {sp : SpD} {WD : WXD} {t : TAD} {σ : Si} {S : Sd} {Q : DK} (h : t σ S fun xs S1 => sp xs S1 Q fun y S2 => WD y σ S2) : dCall sp [] WD t σ S Q := by
  unfold dCall
  simpa only [List.append_nil] using h
theorem var_go {i : Nat} {d : D} {σ : Si} {S : Sd} {Q : DK} (e : σ[i]? = some (some d)) (h : Q d S) : dVar i σ S Q := by rw [dVar_of e]; exact h
end
end Dv

/-! Readings by value: a written dict whose keys are tuples of whole numbers. -/
namespace Dv
open PySem PySem.Spec L2 PyProof.Rows Hx
abbrev TkE := List Int × Addr × Value
section
variable {X : Cx}
end
/-! ### by value -/
/-- the dict's entries as data -/
inductive TkV (K : PySem.W.Frag) : List TkE → List (List Int × D) → Prop
  | nil : TkV K [] []
  | cons {k : List Int} {b : Addr} {u : Value} {d : D} {v : V} {xs : List TkE} {tab : List (List Int × D)} : RelV v u → (∀ H S, Rp K H S d v) → TkV K xs tab → TkV K ((k, b, u) :: xs) ((k, d) :: tab)
def tkAt (tab : List (List Int × D)) (ks : List Int) : Option D := (tab.find? fun t => decide (t.1 = ks)).map (·.2)
theorem TkV.at {K : PySem.W.Frag} {ks : List Int} : ∀ {xs : List TkE} {tab : List (List Int × D)}, TkV K xs tab →
    (atKey xs ks).isSome = (tkAt tab ks).isSome ∧ ∀ d, tkAt tab ks = some d → ∃ b u v, atKey xs ks = some (b, u) ∧ RelV v u ∧ ∀ H S, Rp K H S d v
  | _, _, .nil => ⟨rfl, fun d h => by simp [tkAt] at h⟩
  | _, _, .cons (k := k) (b := b) (u := u) (d := d') (v := v) (xs := xs) (tab := tab) r p t => by
    by_cases c : k = ks
    · have e1 : atKey ((k, b, u) :: xs) ks = some (b, u) := by simp [atKey, c]
      have e2 : tkAt ((k, d') :: tab) ks = some d' := by simp [tkAt, c]
      rw [e1, e2]
      exact ⟨rfl, fun d h => by cases h; exact ⟨b, u, v, rfl, r, p⟩⟩
    · have e1 : atKey ((k, b, u) :: xs) ks = atKey xs ks := by simp [atKey, c]
      have e2 : tkAt ((k, d') :: tab) ks = tkAt tab ks := by simp [tkAt, c]
      rw [e1, e2]
      exact t.at
section
variable {X : Cx} {W : Wi} {pos : Pos}
end
end Dv

/-! Readings by value: a written dict of two tuples of whole numbers, asked at once; min of four ints; min with default. -/
namespace Dv
open PySem L2 PyProof.Rows Hx
/-! ### {"k1": (..), "k2": (..)}[x], {"k1": (..), "k2": (..)}.get(x), x a slot -/
section
variable {K : PySem.W.Frag} {W : Wi} {k1 k2 : Str} {ns ms : List Int} {i : Nat}
end
section
variable {X : Cx} {W : Wi} {k1 k2 x : Str} {ns ms : List Int} {i : Nat} {m1 m2 : Nat} {e1 e2 : Expr} {q1 q2 dpos np pos apos : Pos}
end
/-! ### min of four ints, min with default -/
section
variable {X : Cx} {W : Wi} {e : Expr} {t : TED} {d : Int} {j : Nat} {p1 p2 p3 pos : Pos}
end
end Dv

/-! Readings by value: a lambda handed to a def that calls it within a try with one clause; the suite and what stands behind are told by values. -/
namespace Dv
open PySem L2 PyProof.Rows Hx
section
variable {X : Cx} {pos : Pos}
/-- what is wished where the error leaves the lambda -/
def EG (K : PySem.W.Frag) (c : Str) (u : Addr → Option Addr → TSD) (Q : VK) : XK := fun cls od H' => ∃ Dn, cls = .ref Dn ∧ WhF K c Dn ∧ ∃ (S : Sd) (fr : List (V × D)) (Qd : DK) (ns : List Str) (xs : List D), RelS K H' S ∧ FrOk K H' S fr ∧ (∀ a, Rp K H' S (.exc a od ns xs) (.ref a)) ∧
  (∀ a, u a od { nx := fun _ _ => False, rt := Qd } [none, some (.exc a od ns xs)] S) ∧ ∀ w d H2 S2, RelS K H2 S2 → FrOk K H2 S2 fr → Rp K H2 S2 d w → Qd d S2 → Q w H2
/-- what is wished behind -/
def NG (K : PySem.W.Frag) (v : TSD) (Q : VK) (H' : Hp) : Prop := ∃ (S : Sd) (fr : List (V × D)) (Qd : DK), RelS K H' S ∧ FrOk K H' S fr ∧ v { nx := fun _ _ => False, rt := Qd } [none, none] S ∧ ∀ w d H2 S2, RelS K H2 S2 → FrOk K H2 S2 fr → Rp K H2 S2 d w → Qd d S2 → Q w H2
def TG (K : PySem.W.Frag) (c : Str) (u : Addr → Option Addr → TSD) (v : TSD) : (XK → Hp → VK → Prop) → Hp → VK → Prop := fun tl H Q => tl (EG K c u Q) H fun _ H' => NG K v Q H'
/-- g(lambda: body), g such a def -/
def dHT (P : Addr) (q c : Str) (u : Addr → Option Addr → TSD) (v : TSD) (te : XKD → TED) : TED := fun σ S Q => S P = some (.tab q) ∧ te (fun x S' => x.cls = c ∧ ∀ a od, u a od { nx := fun _ _ => False, rt := Q } [none, some (.exc a od x.ns x.xs)] S') σ S fun _ S' => v { nx := fun _ _ => False, rt := Q } [none, none] S'
end
end Dv

/-! Readings by value: a key in a dict of the module; a text not in a text. -/
namespace Dv
open PySem L2 PyProof.Rows Hx
def skey (e : DictEntry) : Option Str := match e.key with
  | .str x _ => some x
  | _ => none
theorem isStr_key {e : DictEntry} {z x : Str} (h : skey e = some x) : e.key.isStr z = decide (x = z) := by
  unfold skey at h
  cases q : e.key with
  | str y t =>
    rw [q] at h
    have e1 : y = x := by injection h
    subst e1
    show (y == z) = _
    by_cases c : y = z
    · subst c; simp
    · rw [decide_eq_false c]; exact beq_false_of_ne c
  | _ => rw [q] at h; cases h
theorem noRef_key {e : DictEntry} {x : Str} (h : skey e = some x) : e.refKey = false := by
  unfold skey at h
  unfold DictEntry.refKey
  cases q : e.key with
  | str y t => rfl
  | _ => first | rfl | (rw [q] at h; cases h)
theorem ns_str {K : PySem.W.Frag} {a : Addr} {c : Value} {d : Option Addr} {es : Array DictEntry} {n : Nat} {sl : Array (Option Value)} (hl : K.lookup a = some ⟨c, d, .dict es n, sl⟩) {ks : List Str} (hk : es.toList.map skey = ks.map some) (z : Str) : ∃ r, PySem.W.nsIn K a z = some r ∧ r.isSome = decide (z ∈ ks) := by
  have all : ∀ e ∈ es.toList, ∃ x, skey e = some x ∧ x ∈ ks := fun e he => by
    have h : skey e ∈ ks.map some := by rw [← hk]; exact List.mem_map_of_mem he
    obtain ⟨x, hx, e2⟩ := List.mem_map.mp h
    exact ⟨x, e2.symm, hx⟩
  have none_ : es.toList.any (·.refKey) = false := List.any_eq_false.mpr fun e he => by
    obtain ⟨x, hx, _⟩ := all e he
    rw [noRef_key hx]
    exact Bool.false_ne_true
  unfold PySem.W.nsIn
  rw [hl]
  dsimp only
  cases q : es.toList.find? (·.key.isStr z) with
  | some e =>
    refine ⟨some e.val, rfl, ?_⟩
    obtain ⟨x, hx, hm⟩ := all e (List.mem_of_find?_eq_some q)
    have hi := List.find?_some q
    rw [isStr_key hx] at hi
    have : x = z := of_decide_eq_true hi
    rw [← this, decide_eq_true hm]
    rfl
  | none =>
    dsimp only
    rw [none_]
    refine ⟨none, rfl, ?_⟩
    have hn := List.find?_eq_none.mp q
    have : ¬ z ∈ ks := fun h => by
      have h2 : some z ∈ es.toList.map skey := by rw [hk]; exact List.mem_map_of_mem h
      obtain ⟨e, he, e2⟩ := List.mem_map.mp h2
      refine hn e he ?_
      rw [isStr_key e2]
      exact decide_eq_true rfl
    rw [decide_eq_false this]
    rfl
/-- a dict of the module with these keys -/
def KdK (K : PySem.W.Frag) (w : World) (a : Addr) (ks : List Str) : Prop := ∃ es n, KDict K w a es n ∧ es.toList.map skey = ks.map some
def dKin (ks : List Str) (ta : TED) : TED := fun σ S Q => ta σ S fun x S1 => match x with
  | .str z => Q (.bl (decide (z ∈ ks))) S1
  | _ => False
section
variable {X : Cx} {W : Wi} {pos : Pos}
theorem kin_lift {a : Addr} {ta : TED} {ks : List Str} (ht : KdK X.K X.w a ks) (σ : L2.St) (H : Hp) (Q : VK) (h0 : upE X.K W (dKin ks ta) σ H Q) : tOp (fun x y H Q => ∃ (z : Str) (r : Option Value), x = .str z ∧ y = .ref a ∧ PySem.W.nsIn X.K a z = some r ∧ Q (.bl r.isSome) H) (upE X.K W ta) (tC (.ref a)) σ H Q := by
  obtain ⟨σd, S, fr, Qd, ok, cl, h, k⟩ := h0
  exact ⟨σd, S, fr, _, ok, cl, h, fun y dy H1 S1 ok1 ry q => by
    cases dy with
    | str z =>
      obtain ⟨es, n, D, hk⟩ := ht
      obtain ⟨r, e1, e2⟩ := ns_str D.at_ hk z
      refine ⟨z, r, ry, rfl, e1, ?_⟩
      rw [e2]
      exact k _ (.bl _) H1 S1 ok1 rfl q
    | _ => exact (show False from q).elim⟩
theorem dt_kin {x : Str} {a : Addr} {ea : Expr} {ta : TED} {p : Pos} {ks : List Str} (hg : Gl X x) (hm : X.mg x = some (.ref a)) (ht : KdK X.K X.w a ks) (ha : DE X W ea ta) (hb : behindInMarks .In (.Name x p) = false)
    (hd : (x == ("__debug__" : Str)) = false := by decide) : DT X W (.Compare ea [.In] [.Name x p] pos) (dTest (dKin ks ta)) := by
  obtain ⟨es, n, D, hk⟩ := ht
  exact ⟨PT.imp (pt_cmpR (op_in_kd D) ha.p (pe_glob (v := .ref a) hg hm rfl hd) hb) fun σ H Q h => tTest_mono (kin_lift ⟨es, n, D, hk⟩) σ H Q (test_lift σ H Q h)⟩
end
/-! ### a text not in a text -/
def rdNotInT : RD2 := fun x y S Q => match x, y with
  | .str a, .str z => Q (.bl (!hasS z a)) S
  | _, _ => False
theorem x_notInT {a z : Str} {S : Sd} {Q : DK} : rdNotInT (.str a) (.str z) S Q = Q (.bl (!hasS z a)) S := rfl
end Dv

/-! Readings by value: sorted and min of a list of data; range downward. -/
namespace Dv
open PySem L2 PyProof.Rows Hx
/-! ### range(a, b, -1) -/
end Dv

/-! Tuples made by +, a slice or *, of which it is known that they have no dict. -/
namespace Hx
open PySem PySem.Spec PyProof.Rows L2
section
variable {X : Cx}
end
end Hx
namespace Dv
open PySem L2 PyProof.Rows Hx
section
variable {X : Cx} {W : Wi} {o e : Expr} {es : List Expr} {to : TED} {t : TAD} {apos cpos : Pos}
end
end Dv
namespace Dv
open PySem L2 PyProof.Rows Hx
end Dv

/-! Methods of an instance that is still stored into. -/
namespace Dv
open PySem L2 PyProof.Rows Hx
section
variable {X : Cx} {W : Wi} {k : Nat} {f C fI : Addr} {fd : FuncData} {ps : List Str} {sp : SpD} {ds : List Value} {dvs : List V} {dds : List D} {x n m g : Str} {p pos apos pos' : Pos} {o e : Expr} {es : List Expr} {to tv : TED} {t : TAD}
end
end Dv

/-! Texts with fields; repr of instances by a __repr__ of their own. -/
namespace Hx
open PySem PySem.Spec PyProof.Rows L2
/-! ### repr of an instance -/
end Hx
namespace Dv
open PySem L2 PyProof.Rows Hx
section
variable {X : Cx} {W : Wi} {e : Expr} {te : TED} {pos : Pos}
end
end Dv

/-! Own classes called by names. -/
namespace Hx
open PySem PySem.Spec PyProof.Rows L2
section
variable {X : Cx} {CX : CXT} {k n : Nat} {f C : Addr} {fd : FuncData} {ps ks : List Str} {sp : Sp} {idx : List Nat} {dvs : List V} {E : L2.St → XK} {x : Str} {p pos : Pos} {e : Expr} {es : List Expr} {kws : List Keyword} {t tk : TA}
end
end Hx
namespace Dv
open PySem L2 PyProof.Rows Hx
section
variable {X : Cx} {W : Wi} {k np : Nat} {f C fI : Addr} {fd : FuncData} {ps ks : List Str} {sp : SpD} {idx : List Nat} {dvs : List V} {dds : List D} {n : Str} {p pos : Pos} {e : Expr} {es : List Expr} {kws : List Keyword} {t tk : TAD}
end
end Dv

/-! min of a range by a bound method whose answers are data. -/
namespace Hx
open PySem PySem.Spec PyProof.Rows L2
/-- what stays while the best is sought: J j b k: of the first j things the one at b is the least so far, its key is k -/
structure MinRun (prog : Program) (w : World) (A : Around) (q T : Addr) (wr : List Addr) (G : Array GenState → Array GenState → Prop) (n : Nat) (P : Nat → Value → Prop) (St : Nat → Shared → Prop) (J0 : Shared → Prop) (J : Nat → Nat → Value → Shared → Prop) : Prop where
  keep0 : ∀ s s', J0 s → Moved (T :: wr) G s s' → J0 s'
  keep : ∀ j b k s s', J j b k s → Moved (T :: wr) G s s' → J j b k s'
  first : ∀ v (s : Shared) (o : Obj) (Q : Value → Shared → Prop) (E : Value → Shared → Prop), P 0 v → J0 s → St 1 s → s.heap.get? T = some o → (∀ k s', J 1 0 k s' → St 1 s' → s'.heap.get? T = some o → Q k s') → wpAny (model prog w) A (call (.ref q) [v]) Q E s
  turn : ∀ j b kb v (s : Shared) (o : Obj) (Q : Value → Shared → Prop) (E : Value → Shared → Prop), 1 ≤ j → j < n → P j v → J j b kb s → St (j + 1) s → s.heap.get? T = some o →
    (∀ k s', St (j + 1) s' → s'.heap.get? T = some o → (∀ (Q2 : Value → Shared → Prop) (E2 : Value → Shared → Prop), (J (j + 1) j k s' → Q2 (.bool true) s') → (J (j + 1) b kb s' → Q2 (.bool false) s') → wpAny (model prog w) A (richCompare .Lt k kb) Q2 E2 s') → Q k s') → wpAny (model prog w) A (call (.ref q) [v]) Q E s
section
variable {prog : Program} {w : World} {A : Around} {R : Result → Shared → Prop} {I q T : Addr} {fp wr : List Addr} {G : Array GenState → Array GenState → Prop} {n : Nat} {P : Nat → Value → Prop} {St : Nat → Shared → Prop} {J0 : Shared → Prop} {J : Nat → Nat → Value → Shared → Prop}
theorem min2_on (W : WalksS prog w A.in1 I fp wr G n P St) (hT : T ∉ fp) (M : MinRun prog w A.in1 q T wr G n P St J0 J) (kw : List (Str × Value)) : ∀ (m j b : Nat) (s : Shared) (best key : Value) (c : Nat), n - j = m → 1 ≤ j → j ≤ n → J j b key s → St j s → P b best →
    s.heap.get? T = some { cls := .type "list", dict := none, data := .seq #[best, key] c, slots := #[] } → (∀ v b k s', P b v → J n b k s' → R (.ok (.ret v)) s') → codeAny (model prog w) A (.builtin "min.loop" ⟨[.ref I, .ref q, .ref T], kw⟩) R s := by
  have apart : T ∉ wr := fun h => hT (W.sub T h)
  have within : ∀ b ∈ wr, b ∈ T :: wr := fun b hb => List.mem_cons_of_mem T hb
  have named : (toString "min" ++ toString ".loop" : String) = "min.loop" := by decide
  have other : ∀ {b : Addr}, b ∉ T :: wr → T ≠ b := fun hb h => hb (by rw [h]; exact List.mem_cons_self)
  intro m
  induction m with
  | zero =>
    intro j b s best key c hm j1 jn jj st hb eT fin
    obtain rfl : j = n := by omega
    refine codeAny_builtin F.entry_min_loop ?_
    rw [Around.under_plainId F.plain_min_loop ⟨[.ref I, .ref q, .ref T], kw⟩]
    refine wpAny_bind (m := seqItems? (.ref T)) (wpAny_seqItems eT rfl ?_)
    refine wpAny_bind (m := tryCatch (pyNext (.ref I)) _) (wpAny_tryCatch (W.done s _ _ st fun s1 mv => ?_))
    refine wpAny_bind (m := updateSeq T (fun _ => #[])) (wpAny_updateSeq (mv.heap T _ apart eT) rfl (wpAny_bind (wpAny_letGo (wpAny_pure ?_))))
    exact fin best b key _ hb (M.keep _ _ _ _ _ jj ((mv.mono within).then_heap (tk := s1.toks) (Nat.le_refl _) fun b o hb e => (Heap.get?_update_other _ _ (other hb)).trans e))
  | succ m ih =>
    intro j b s best key c hm j1 jn jj st hb eT fin
    have less : j < n := by omega
    refine codeAny_builtin F.entry_min_loop ?_
    rw [Around.under_plainId F.plain_min_loop ⟨[.ref I, .ref q, .ref T], kw⟩]
    refine wpAny_bind (m := seqItems? (.ref T)) (wpAny_seqItems eT rfl ?_)
    refine wpAny_bind (m := tryCatch (pyNext (.ref I)) _) (wpAny_tryCatch (W.item j s _ _ less st fun v s1 hv st1 mv => ?_))
    have eT1 := mv.heap T _ apart eT
    have jj1 := M.keep _ _ _ _ _ jj (mv.mono within)
    refine wpAny_bind (m := tryCatch (holding [v] (call (.ref q) [v])) _) (wpAny_tryCatch (wpAny_holding (M.turn j b key v s1 _ _ _ j1 less hv jj1 st1 eT1 fun kx s2 st2 eT2 cmp => ?_)))
    refine wpAny_bind (m := tryCatch (holding [v, kx] (richCompare .Lt kx key >>= _)) _) (wpAny_tryCatch (wpAny_holding (wpAny_bind (cmp _ _ (fun j2 => ?_) fun j2 => ?_))))
    · refine wpAny_bind (wpAny_holding (wpAny_truthy_bool (wpAny_bind (wpAny_letGo (wpAny_pure ?_)))))
      simp only [if_true]
      refine wpAny_bind (m := updateSeq T (fun _ => #[v, kx])) (wpAny_updateSeq eT2 rfl (wpAny_bind (wpAny_letGo ?_)))
      rw [named]
      have mv2 : Moved (T :: wr) G s2 { s2 with heap := s2.heap.update T (Obj.mapSeq fun _ => #[v, kx]), toks := s2.toks } := (Moved.refl W.grefl).then_heap (tk := s2.toks) (Nat.le_refl _) fun b o hb e => (Heap.get?_update_other _ _ (other hb)).trans e
      exact wpAny_pure ⟨plainId_quiet F.plain_min_loop _, ih (j + 1) j _ v kx _ (by omega) (by omega) less (M.keep _ _ _ _ _ j2 mv2) (W.frame _ s2 _ s2.toks st2 (Nat.le_refl _) fun b hbf o e => (Heap.get?_update_other _ _ (fun h : T = b => hT (by rw [h]; exact hbf))).trans e) hv (Heap.get?_update_self _ eT2 rfl) fin⟩
    · refine wpAny_bind (wpAny_holding (wpAny_truthy_bool (wpAny_bind (wpAny_letGo (wpAny_pure ?_)))))
      simp only [Bool.false_eq_true, if_false]
      refine wpAny_bind (wpAny_letGo ?_)
      rw [named]
      exact wpAny_pure ⟨plainId_quiet F.plain_min_loop _, ih (j + 1) b _ best key c (by omega) (by omega) less j2 st2 hb eT2 fin⟩
theorem min2_first (W : WalksS prog w A.in1 I fp wr G n P St) (hT : T ∉ fp) (M : MinRun prog w A.in1 q T wr G n P St J0 J) (kw : List (Str × Value)) (hn : 0 < n) {s : Shared} {c : Nat} (j0 : J0 s) (st : St 0 s)
    (eT : s.heap.get? T = some { cls := .type "list", dict := none, data := .seq #[] c, slots := #[] }) (fin : ∀ v b k s', P b v → J n b k s' → R (.ok (.ret v)) s') : codeAny (model prog w) A (.builtin "min.loop" ⟨[.ref I, .ref q, .ref T], kw⟩) R s := by
  have apart : T ∉ wr := fun h => hT (W.sub T h)
  have within : ∀ b ∈ wr, b ∈ T :: wr := fun b hb => List.mem_cons_of_mem T hb
  have named : (toString "min" ++ toString ".loop" : String) = "min.loop" := by decide
  have other : ∀ {b : Addr}, b ∉ T :: wr → T ≠ b := fun hb h => hb (by rw [h]; exact List.mem_cons_self)
  refine codeAny_builtin F.entry_min_loop ?_
  rw [Around.under_plainId F.plain_min_loop ⟨[.ref I, .ref q, .ref T], kw⟩]
  refine wpAny_bind (m := seqItems? (.ref T)) (wpAny_seqItems eT rfl ?_)
  refine wpAny_bind (m := tryCatch (pyNext (.ref I)) _) (wpAny_tryCatch (W.item 0 s _ _ hn st fun v s1 hv st1 mv => ?_))
  have eT1 := mv.heap T _ apart eT
  have j1 := M.keep0 _ _ j0 (mv.mono within)
  refine wpAny_bind (m := tryCatch (holding [v] (call (.ref q) [v])) _) (wpAny_tryCatch (wpAny_holding (M.first v s1 _ _ _ hv j1 st1 eT1 fun kx s2 j2 st2 eT2 => ?_)))
  refine wpAny_bind (m := updateSeq T (fun _ => #[v, kx])) (wpAny_updateSeq eT2 rfl ?_)
  rw [named]
  have mv2 : Moved (T :: wr) G s2 { s2 with heap := s2.heap.update T (Obj.mapSeq fun _ => #[v, kx]), toks := s2.toks } := (Moved.refl W.grefl).then_heap (tk := s2.toks) (Nat.le_refl _) fun b o hb e => (Heap.get?_update_other _ _ (other hb)).trans e
  exact wpAny_pure ⟨plainId_quiet F.plain_min_loop _, min2_on W hT M kw _ 1 0 _ v kx _ rfl (Nat.le_refl _) hn (M.keep _ _ _ _ _ j2 mv2) (W.frame _ s2 _ s2.toks st2 (Nat.le_refl _) fun b hbf o e => (Heap.get?_update_other _ _ (fun h : T = b => hT (by rw [h]; exact hbf))).trans e) hv (Heap.get?_update_self _ eT2 rfl) fin⟩
theorem call_min2 {E : Value → Shared → Prop} {s : Shared} {x : Value} {Q : Value → Shared → Prop}
    (h : wpAny (model prog w) A.in1 (pyIter x) (fun it s2 => ∃ I fp wr G n P St J0 J, it = .ref I ∧ WalksS prog w A.in1 I fp wr G n P St ∧ St 0 s2 ∧ (∀ b ∈ fp, b < s2.heap.objs.size) ∧ 0 < n ∧ MinRun prog w A.in1 q s2.heap.objs.size wr G n P St J0 J ∧ J0 s2 ∧ ∀ v b k s', P b v → J n b k s' → Q v s') E s) :
    wpAny (model prog w) A (call (.builtin "min") [x] [(Str.ofString "key", .ref q)]) Q E s := by
  have named : (toString "min" ++ toString ".loop" : String) = "min.loop" := by decide
  refine PyProof.Rows.kmk_tree F.kind_min F.plain_min F.entry_min (PyProof.Rows.kmk_min_key x (.ref q)) ?_
  refine wpAny_bind (m := Builtin.Builtins.bindParams "min" ["key", "default"] 0 ⟨[], [(Str.ofString "key", .ref q)]⟩) (wpAny_of_eq (show Builtin.Builtins.bindParams "min" ["key", "default"] 0 ⟨[], [(Str.ofString "key", .ref q)]⟩ = pure [some (.ref q), none] from rfl) (wpAny_bind (wpAny_pure ?_)))
  refine wpAny_bind (wpAny_mono h (fun it s2 got => ?_) fun _ _ e => e)
  obtain ⟨I, fp, wr, G, n, P, Z, J0, J, e, W, st, hfp, hn, M, j0, fin⟩ := got
  subst e
  refine wpAny_bind (wpAny_newObj_type ?_)
  rw [named]
  have hT : s2.heap.objs.size ∉ fp := fun hm => Nat.lt_irrefl _ (hfp _ hm)
  have mv : Moved (s2.heap.objs.size :: wr) G s2 { s2 with heap := s2.heap.push { cls := .type "list", data := .seq #[] 0 }, toks := s2.toks } := (Moved.refl W.grefl).then_heap (tk := s2.toks) (Nat.le_refl _) fun b o _ e => Heap.get?_push_of_some _ e
  exact wpAny_pure ⟨plainId_quiet F.plain_min_loop _, min2_first W hT M _ hn (M.keep0 _ _ j0 mv) (W.frame 0 s2 (s2.heap.push { cls := .type "list", data := .seq #[] 0 }) s2.toks st (Nat.le_refl _) fun b _ o e => Heap.get?_push_of_some _ e) (Heap.get?_push_size _ rfl) fin⟩
end
section
variable {X : Cx} {k : Nat} {f C : Addr} {fd : FuncData} {p1 p2 m : Str} {sp : Sp} {pins : List (Addr × Obj)} {σ : L2.St}
/-- what stays: the bound method, the walk's two objects, what is wished of the heap -/
structure JM (X : Cx) (pins : List (Addr × Obj)) (σ : L2.St) (T I b f a : Addr) (H : Hp) (s : Shared) : Prop where
  inv : Inv X pins σ H s
  ft : FpOk X pins H T
  fi : FpOk X pins H I
  fb : FpOk X pins H b
  at_ : s.heap.get? b = some (PySem.W.methodObj (.ref f) (.ref a))
theorem JM.keep {T I b f a : Addr} {H : Hp} {s s' : Shared} (h : JM X pins σ T I b f a H s) (hT : b ≠ T) (hI : b ≠ I) (mv : Moved [T, I] (fun a b => b = a) s s') : JM X pins σ T I b f a H s' := by
  obtain ⟨h1, g1, d1, t1, o1⟩ := s
  obtain ⟨h2, g2, d2, t2, o2⟩ := s'
  have e1 : g2 = g1 := mv.gens
  have e2 : d2 = d1 := mv.drawn
  have e3 : o2 = o1 := mv.os
  subst e1 e2 e3
  refine ⟨h.inv.turnedL (t' := t2) (ch := [T, I]) (fun c o hc e => mv.heap c o hc e) (fun c hc => ?_), h.ft, h.fi, h.fb, mv.heap b _ (by simp [hT, hI]) h.at_⟩
  simp only [List.mem_cons, List.not_mem_nil, or_false] at hc
  rcases hc with rfl | rfl
  · exact h.ft
  · exact h.fi
/-- one answer of the bound method -/
theorem JM.call {T I b a : Addr} {H : Hp} {s : Shared} {v : Value} {x : V} {R : V → Hp → Prop} (h : JM X pins σ T I b f a H s) (F : FnG X.prog X.w X.K X.mg X.base (L2N.CX X.prog X.w) k f fd [p1, p2] sp) (hr : RoomG (k + 1) X.A) (hb : Binds X.K fd [p1, p2] [])
    (rx : RelV x v) (hs : sp [.ref a, x] H R fun _ _ _ => False) {oT oI : Obj} (eT : s.heap.get? T = some oT) (eI : s.heap.get? I = some oI) {Q : Value → Shared → Prop} {E : Value → Shared → Prop}
    (hq : ∀ u y H' s', RelV y u → R y H' → JM X pins σ T I b f a H' s' → s'.heap.get? T = some oT → s'.heap.get? I = some oI → Q u s') : wpAny (model X.prog X.w) X.A.in1 (call (.ref b) [v]) Q E s := by
  have J := h.inv
  refine wpAny_call (PySem.W.method_call h.at_ (codeAny_mono (F.run X.A.in1 X.stack s H ⟨[.ref a, v], []⟩ [.ref a, v] [.ref a, x] R (fun _ _ _ => False) hr.in1 J.env0.in1 (hb s [.ref a, v] J.kIn rfl) (.cons rfl (.cons rx .nil)) hs) fun out s' got => ?_))
  match out, got with
  | .error e, got =>
    obtain ⟨_, _, _, _, _, _, _, _, _, _, _, _, z⟩ := (show L2N.CX X.prog X.w X.stack H s (fun _ _ _ => False) e s' from got)
    exact z.elim
  | .ok (.ret u), ⟨y, H', os, bare, un, hok, ry, q⟩ =>
    have J' := J.call' os un hok bare (ch := []) (fun b z => absurd z (by simp))
    have far : ∀ {c : Addr}, FpOk X pins H c → c ∉ frs X.stack := fun {c} hf hc' => by
      rcases List.mem_cons.mp (J.stkSub c hc') with e | e
      · exact hf.2.1 e
      · exact hf.2.2.1 e
    have stay : ∀ {c : Addr} {o : Obj}, FpOk X pins H c → s.heap.get? c = some o → s'.heap.get? c = some o ∧ FpOk X pins H' c := fun {c o} hf e =>
      ⟨un.keep c o e hf.1 (far hf) (by simp), ⟨un.free c o e hf.1 (by simp), hf.2⟩⟩
    exact hq u y H' s' ry q ⟨J', (stay h.ft eT).2, (stay h.fi eI).2, (stay h.fb h.at_).2, (stay h.fb h.at_).1⟩ (stay h.ft eT).1 (stay h.fi eI).1
end
end Hx

/-! Readings by value: min of a range by a bound method. -/
namespace Dv
open PySem L2 PyProof.Rows Hx
section
variable {X : Cx} {W : Wi} {k i : Nat} {f C fI : Addr} {fd : FuncData} {p1 p2 x c m : Str} {sp : SpD} {e : Expr} {te : TED}
end
end Dv

/-! "1" + e.replace(..).replace(..) and int(text, 2). -/
namespace Hx
open PySem PySem.Spec PyProof.Rows L2
section
variable {X : Cx}
end
section
open PySem.NumText PySem.Calls
end
section
open PySem.StrLaws
end
end Hx

/-! Readings by value: "1" + text.replace(..).replace(..), int(text, 2). -/
namespace Dv
open PySem PySem.Spec L2 PyProof.Rows Hx
section
variable {X : Cx} {W : Wi}
end
end Dv

/-! zip of two tuples of one length, strict=True. -/
namespace Hx
open PySem PySem.Spec PyProof.Rows L2 RZ
section
variable {prog : Program} {w : World} {A : Around} {E : Value → Shared → Prop} {s : Shared}
end
section
variable {prog : Program} {w : World} {A : Around} {E : Value → Shared → Prop} {s : Shared}
end
end Hx

/-! Readings by value: a local name that holds a def of the module; zip(.., .., strict=True) of two tuples; x.bit_length(). -/
namespace Dv
open PySem PySem.Spec L2 PyProof.Rows Hx
/-- the def of the module by this name keeps this promise -/
structure FnW (X : Cx) (k : Nat) (x : Str) (sp : SpD) : Prop where
  ex : ∃ (f : Addr) (fd : FuncData) (ps : List Str) (k' : Nat), PySem.W.nsIn X.K mainGlobals x = some (some (.ref f)) ∧ k' ≤ k ∧ Hx.FnG X.prog X.w X.K X.mg X.base (L2N.CX X.prog X.w) k' f fd ps (upF X.K sp) ∧ PySem.W.keepIn X.K (.ref f) = true ∧ Binds X.K fd ps []
def dCallV (i : Nat) (cs : List (Str × SpD)) (WD : WXD) (t : TAD) : TED := fun σ S Q => ∃ x sp, σ[i]? = some (some (.fn x)) ∧ (x, sp) ∈ cs ∧ dCall sp [] WD t σ S Q
section
variable {X : Cx} {W : Wi} {k i : Nat} {x : Str} {p pos : Pos} {e : Expr} {es : List Expr} {t : TAD} {cs : List (Str × SpD)}
theorem fnW_mk {f : Addr} {fd : FuncData} {ps : List Str} {k' : Nat} {sp : SpD} (F : Hx.FnG X.prog X.w X.K X.mg X.base (L2N.CX X.prog X.w) k' f fd ps (upF X.K sp)) (hn : PySem.W.nsIn X.K mainGlobals x = some (some (.ref f))) (hk : PySem.W.keepIn X.K (.ref f) = true) (hb : Binds X.K fd ps [])
    (hl : k' ≤ k := by decide) : FnW X k x sp := ⟨f, fd, ps, k', hn, hl, F, hk, hb⟩
theorem fnW_nil : ∀ q ∈ ([] : List (Str × SpD)), FnW X k q.1 q.2 := fun q h => by cases h
theorem fnW_cons {sp : SpD} (h : FnW X k x sp) (hr : ∀ q ∈ cs, FnW X k q.1 q.2) : ∀ q ∈ (x, sp) :: cs, FnW X k q.1 q.2 := fun q hq => by
  rcases List.mem_cons.mp hq with rfl | hq
  · exact h
  · exact hr q hq
theorem de_callV (A : ∀ q ∈ cs, FnW X k q.1 q.2) (hr : Hx.RoomG k X.A) (hN : X.N[i]? = some x) (hv : Vis X.env.scope x) (tk : L2N.Takes X W.V) (ha : DA X W (e :: es) t)
    (hdb : (x == ("__debug__" : Str)) = false := by decide) (hcd : (x == ("__classdict__" : Str)) = false := by decide)
    (he : starEach (e :: es) X.env = (false, eval e X.env) :: starEach es X.env := by rfl) (hpl : (backTo pos (starEach es X.env)).any (·.1) = false := by rfl) : DE X W (.Call (.Name x p) (e :: es) [] pos) (dCallV i cs W.D t) := by
  refine ⟨⟨fun pins s σ H Q I h => ?_⟩⟩
  obtain ⟨σd, S, fr, Qd, ok, cl, ⟨n, sp, hs, hm, ht⟩, kk⟩ := h
  obtain ⟨v, hv', f, rfl, hf⟩ := ok.si i _ hs
  obtain ⟨f', fd, ps, k', hf', hk', F, hkp, hb⟩ := (A _ hm).ex
  have ef : f' = f := by
    have e1 := hf.symm.trans hf'
    injection e1 with e1
    injection e1 with e1
    injection e1 with e1
    exact e1.symm
  subst ef
  have lift := call_lift (dvs := []) (fun _ _ => rpL_nil) σ H Q ⟨σd, S, fr, Qd, ok, cl, ht, kk⟩
  refine wpAny_Call_Name_kw (thn ((pe_var (pos := p) hN hv hdb hcd).run pins s σ H (fun v H1 => v = .ref f' ∧ H1 = H) I ⟨.ref f', hv', rfl, rfl⟩) fun u s1 ⟨v, H1, I1, r1, q1⟩ => ?_)
  obtain ⟨rfl, rfl⟩ := q1
  cases r1
  refine PySem.W.callWith_K (h₀ := X.base) I.ok.mod.kin hkp (thn (ha.p.run pos pins s1 σ _ _ I1 lift) fun us s2 ⟨vs, H2, I2, r, q⟩ => ⟨I2.kIn, ?_⟩) he hpl
  exact fnG_run F (hr.mono hk') hb .nil (L2N.passAt tk σ) I2 r q
/-! ### zip, strict -/
/-! ### bit_length -/
/-! ### list(x), stored into later -/
def rdListO : RDC
  | [d], S, Q => ∃ xs, itemsD S d = some xs ∧ ∀ a, S a = none → Q (.obj a) (upS S a (.lst xs))
  | _, _, _ => False
theorem cd_listO : CallD X (.type "list") rdListO := ⟨_, call_list_of, fun H S fr σd σ xs ds Qv Qd ok r h k => by
  match ds, r, h with
  | [], _, h => exact (show False from h).elim
  | _ :: _ :: _, _, h => exact (show False from h).elim
  | [d], r, h =>
    obtain ⟨v, rfl, r0⟩ := rpL1 r
    obtain ⟨xs, e, q⟩ := (show ∃ xs, itemsD S d = some xs ∧ ∀ a, S a = none → Qd (.obj a) (upS S a (.lst xs)) from h)
    obtain ⟨a, vs, rfl, hq, r2⟩ := rp_items ok.rel r0 e
    exact ⟨a, vs, rfl, hq, fun l hl => k (.ref l) (.obj l) _ (upS S l (.lst xs)) (ok.own hl r2) rfl (q l (ok.rel.free hl))⟩⟩
end
end Dv

/-! Readings by value: the truth of an instance whose class has neither __bool__ nor __len__. -/
namespace Dv
open PySem PySem.Spec L2 PyProof.Rows Hx
section
variable {X : Cx} {W : Wi} {a : Expr} {ta : TE} {C fI : Addr} {n : Str}
end
/-! ### a tracked list that is changed no more: from here on a plain one -/
def dFrzV (i : Nat) (t : TSD) : TSD := fun D σ S => ∃ a ds, σ[i]? = some (some (.obj a)) ∧ S a = some (.lst ds) ∧ t D (σ.set i (some (.lst ds))) (del S a)
theorem set_self {α : Type} : ∀ {l : List α} {i : Nat} {x : α}, l[i]? = some x → l.set i x = l
  | [], _, _, h => by simp at h
  | a :: l, 0, x, h => by simp at h; simp [h]
  | a :: l, i + 1, x, h => by
    rw [List.getElem?_cons_succ] at h
    rw [List.set_cons_succ, set_self h]
theorem ds_frzV {X : Cx} {W : Wi} {s : Stmt} {t : TSD} (i : Nat) (h : DS X W s t) : DS X W s (dFrzV i t) :=
  ⟨PS.imp h.p fun D σ H ⟨σd, S, fr, Dd, ok, cl, ⟨a, ds, e1, e2, ht⟩, k⟩ => by
    obtain ⟨v, ev, rv⟩ := ok.si i _ e1
    have ev2 : v = .ref a := rv
    subst ev2
    have ok2 := (ok.step step_del (rel_del ok.rel)).set (rp_frozen ok.rel e2) i
    rw [set_self ev] at ok2
    exact ⟨σd.set i (some (.lst ds)), del S a, fr, Dd, ok2, cl, ht, k⟩⟩
end Dv

/-! How often a truth stands in a list of truths. -/
namespace Dv
open PySem PySem.Spec L2 PyProof.Rows Hx
section
variable {X : Cx} {W : Wi} {o e : Expr} {es : List Expr} {to : TED} {t : TAD} {apos cpos : Pos}
end
end Dv

/-! == and != of an instance whose class has an __eq__ of its own and no __ne__. -/
namespace Hx
open PySem PySem.Spec PyProof.Rows L2
open Builtin
section
variable {prog : Program} {w : World} {A : Around} {E : Value → Shared → Prop} {s : Shared} {K : PySem.W.Frag} {x C f : Addr} {ox : Obj} {od : Option Obj} {b tb : Value}
end
end Hx

/-! ==, != and str of instances by value. -/
namespace Hx
open PySem PySem.Spec PyProof.Rows L2
end Hx
namespace Dv
open PySem L2 PyProof.Rows Hx
section
variable {X : Cx} {k : Nat} {n : Str} {ps : List Str} {C f fI : Addr} {fd : FuncData} {sp : SpD}
end
end Dv

/-! for i, x in enumerate(xs); isinstance by a class of the text. -/
namespace Dv
open PySem L2 PyProof.Rows Hx
/-! ### isinstance by a class of the text -/
end Dv

/-! str(whole number), str(text). -/
namespace Dv
open PySem L2 PyProof.Rows Hx
def rdStr : RDC := fun ds S Q => match ds with
  | [.int i] => i.natAbs.log2 < 1920 ∧ Q (.str (toString i)) S
  | [.str z] => Q (.str z) S
  | _ => False
theorem cd_str {X : Cx} : CallD X (.type "str") rdStr := ⟨_, CallR.or call_str_int SkE.call_str_str, fun H S fr σd σ xs ds Qv Qd ok r h k => by
  match ds, h with
  | [.int i], h =>
    obtain ⟨v, rfl, r1⟩ := rpL1 r
    have e : v = .int i := r1
    subst e
    exact .inl ⟨i, rfl, h.1, k _ (.str _) H S ok rfl h.2⟩
  | [.str z], h =>
    obtain ⟨v, rfl, r1⟩ := rpL1 r
    have e : v = .str z := r1
    subst e
    exact .inr ⟨z, rfl, k _ (.str z) H S ok rfl h⟩⟩
theorem x_str_i {i : Int} {S : Sd} {Q : DK} : rdStr [.int i] S Q = (i.natAbs.log2 < 1920 ∧ Q (.str (toString i)) S) := rfl
theorem x_str_s {z : Str} {S : Sd} {Q : DK} : rdStr [.str z] S Q = Q (.str z) S := rfl
end Dv

/-! data == an instance: the data's own == declines, then the instance's __eq__ is asked. -/
namespace Hx
open PySem PySem.Spec PySem.SeqAt PyProof.Rows L2
open AutoSeq1 (wpAny_loadPart')
open Builtin
section
variable {prog : Program} {w : World} {A : Around} {E : Value → Shared → Prop} {s : Shared} {K : PySem.W.Frag} {y C f : Addr} {oy : Obj} {od : Option Obj} {a : Value} {Ta ida : String}
end
end Hx
namespace Dv
open PySem L2 PyProof.Rows Hx
section
variable {X : Cx} {k : Nat} {n : Str} {ps : List Str} {C f fI : Addr} {fd : FuncData} {sp : SpD}
end
end Dv

/-! an instance in [None, an instance]: by the class's own __eq__. -/
namespace Hx
open PySem PySem.Spec PySem.SeqAt PyProof.Rows L2
open AutoSeq1 (wpAny_loadPart')
open MeetsSeq MeetsSeq2 MeetsSeq3 SeqRoads2
open Builtin
section
variable {prog : Program} {w : World} {A : Around} {R : Result → Shared → Prop}
end
section
variable {X : Cx} {CX : CXT} {k : Nat} {C f : Addr} {fd : FuncData} {ps : List Str} {sp : Sp}
end
end Hx
namespace Dv
open PySem L2 PyProof.Rows Hx
end Dv

/-! "text" + x.replace(a, b). -/
namespace Dv
open PySem PySem.Spec L2 PyProof.Rows Hx
end Dv

/-! bool(x), x an instance whose class has a __len__ of its own and no __bool__. -/
namespace Hx
open PySem PySem.Spec PyProof.Rows L2
open Builtin
section
variable {prog : Program} {w : World} {A : Around} {E : Value → Shared → Prop} {s : Shared} {K : PySem.W.Frag} {a C f : Addr} {ox : Obj} {od : Option Obj}
end
end Hx

/-! Readings by value: bool of an instance by its own __len__; the place of data in a list of data. -/
namespace Dv
open PySem PySem.Spec L2 PyProof.Rows Hx
end Dv

/-! t[::-1] of a tuple, what is made being known whole. -/
namespace Dv
open PySem PySem.Spec PyProof.Rows L2 Hx
section
variable {X : Cx} {W : Wi} {e : Expr} {te : TED} {pos : Pos}
end
end Dv

/-! list(range(e)) by value; an expression that is never asked. -/
namespace Dv
open PySem PySem.Spec PyProof.Rows L2 Hx
section
variable {X : Cx} {W : Wi} {a e : Expr} {ta : TED}
end
end Dv

/-! A try whose body raises nothing. -/
namespace Hx
open PySem PySem.Spec PyProof.Rows L2
variable {X : Cx}
end Hx
namespace Dv
open PySem PySem.Spec PyProof.Rows L2 Hx
variable {X : Cx} {W : Wi} {pos : Pos}
end Dv

/-! An instance that is made and stored into again; a field that is stored anew; an instance handed out for good. -/
namespace Dv
open PySem PySem.Spec L2 PyProof.Rows Hx
section
variable {X : Cx} {W : Wi} {k : Nat} {f C fI : Addr} {fd : FuncData} {ps : List Str} {sp : SpD} {ds : List Value} {dvs : List V} {dds : List D} {x n m g : Str} {p pos apos pos' : Pos} {o e : Expr} {es : List Expr} {to tv : TED} {t : TAD}
end
end Dv

/-! A method without arguments, called while an exception is handled. -/
namespace Dv
open PySem PySem.Spec L2 PyProof.Rows Hx
section
variable {X : Cx} {k : Nat} {f C fI : Addr} {fd : FuncData} {ps : List Str} {sp : SpD} {n m : Str} {pos apos : Pos} {o : Expr} {to : TED} {ta : TE}
end
end Dv

namespace Hx
open PySem PySem.Spec PyProof.Rows L2 HotX
section
variable {prog : Program} {w : World} {A : Around} {E : Value → Shared → Prop} {s : Shared}
end
section
variable {X : Cx} {pos : Pos}
end
end Hx
namespace Dv
open PySem PySem.Spec L2 PyProof.Rows Hx
end Dv

/-! str of a tuple; a dict of two written keys asked with a default; ==, != and isinstance of instances of other classes; an instance in a list of two. -/
namespace Hx
open PySem PySem.Spec PyProof.Rows L2
end Hx
namespace Dv
open PySem PySem.Spec L2 PyProof.Rows Hx
section
variable {K : PySem.W.Frag} {W : Wi} {z1 z2 : Str} {i : Nat}
end
section
variable {X : Cx} {W : Wi} {z1 z2 x : Str} {i : Nat} {m1 m2 m3 m4 : Nat} {q1 q2 q3 q4 q5 q6 dpos np np2 sp2 pos apos : Pos}
end
/-! ### instances of other classes -/
section
variable {X : Cx} {k : Nat} {n : Str} {ms ps : List Str} {C f fI : Addr} {fd : FuncData} {sp : SpD}
end
end Dv

/-! an instance in a list of two instances: by the class's own __eq__. -/
namespace Hx
open PySem PySem.Spec PySem.SeqAt PyProof.Rows L2
open AutoSeq1 (wpAny_loadPart')
open MeetsSeq MeetsSeq2 MeetsSeq3 SeqRoads2
open Builtin
section
variable {prog : Program} {w : World} {A : Around} {R : Result → Shared → Prop}
end
section
variable {X : Cx} {CX : CXT} {k : Nat} {C f : Addr} {fd : FuncData} {ps : List Str} {sp : Sp}
end
end Hx
namespace Dv
open PySem L2 PyProof.Rows Hx
end Dv

/-! xs[-2::-1] of a tuple: all but the last one, from behind. -/
namespace HT
open PySem PyProof.Rows
section
variable {prog : Program} {w : World} {A : Around} {E : Value → Shared → Prop} {s : Shared}
end
end HT
namespace Dv
open PySem PySem.Spec L2 PyProof.Rows Hx HT
section
variable {X : Cx} {W : Wi} {e : Expr} {te : TED} {pos : Pos}
/-- xs[-2::-1] -/
def dBk (te : TED) : TED := fun σ S Q => te σ S fun x S1 => match x with
  | .tup ds => Q (.tup ds.dropLast.reverse) S1
  | _ => False
end
end Dv

/-! while an exception is handled: a comprehension within an expression, range in it, min of a list of data. -/
namespace Hx
open PySem PySem.Spec PyProof.Rows L2 HotX
section
variable {prog : Program} {w : World} {A : Around} {E : Value → Shared → Prop} {s : Shared}
end
section
variable {X : Cx}
end
section
variable {X : Cx} {pins : List (Addr × Obj)} {σ : L2.St} {H : Hp} {s : Shared}
end
end Hx
namespace Dv
open PySem PySem.Spec L2 PyProof.Rows Hx
section
variable {X : Cx} {W : Wi} {pos : Pos}
end
end Dv

/-! list.extend by a tuple or by a list that nobody changes; list.pop. -/
namespace Hx
open PySem PySem.Spec PySem.SeqAt PyProof.Rows L2
open AutoSeq1
open MeetsSeq MeetsSeq2 MeetsSeq3 SeqRoads2
section
variable {X : Cx}
end
end Hx
namespace Dv
open PySem PySem.Spec L2 PyProof.Rows Hx
section
variable {X : Cx} {W : Wi} {e : Expr}
end
end Dv
/-! the truth of an instance by its class's own __len__ -/
namespace Hx
open PySem PySem.Spec PyProof.Rows L2
section
variable {X : Cx} {CX : CXT} {k : Nat} {C f : Addr} {fd : FuncData} {y : Str} {sp : Sp} {a : Expr} {ta : TE}
end
end Hx
namespace Dv
open PySem PySem.Spec L2 PyProof.Rows Hx
end Dv
/-! a part of a list, kept for storing -/
namespace Dv
open PySem PySem.Spec L2 PyProof.Rows Hx
section
variable {X : Cx} {W : Wi} {e : Expr} {te : TED} {pos p2 : Pos}
end
end Dv

/-! l.index(x, from): the first place of an equal one, from a place on. -/
namespace L2
open PySem PySem.Spec PyProof.Rows
section
variable {X : Cx}
end
end L2
namespace Dv
open PySem L2 PyProof.Rows Hx
end Dv

/-! A written tuple, known whole. -/
namespace Dv
open PySem PySem.Spec PyProof.Rows L2 Hx
section
variable {X : Cx} {W : Wi} {es : List Expr} {pos : Pos}
end
end Dv

/-! A lambda of one parameter as a value; min by it. -/
namespace Hx
open PySem PySem.Spec PyProof.Rows L2 HotX LamX
section
variable {X : Cx} {pins : List (Addr × Obj)} {σ : L2.St} {H HZ : Hp} {s : Shared}
end
end Hx

/-! Readings by value: min by a lambda of one parameter. -/
namespace Dv
open PySem L2 PyProof.Rows Hx
section
variable {X : Cx} {W : Wi} {k : Nat} {c P : Addr} {p : Str} {e : Expr} {te : TED} {params : Arguments} {body : Expr} {scope : Scope} {p1 lpos p3 pos : Pos}
end
end Dv

/-! l.remove(x), l.pop(), l.pop(i) of a tracked list. -/
namespace L2
open PySem PySem.Spec PyProof.Rows
section
variable {X : Cx}
end
end L2
namespace Dv
open PySem L2 PyProof.Rows Hx
section
variable {K : PySem.W.Frag} {H : Hp} {S : Sd}
end
end Dv

/-! Dicts by value: dict(list of pairs), d[key], key in d, list(d). -/
namespace Dv
open PySem L2 PyProof.Rows Hx
section
variable {K : PySem.W.Frag} {H : Hp} {S : Sd}
end
end Dv

/-! isinstance(x, (A, B, ..)) of data, A, B built-in classes. -/
namespace Dv
open PySem PySem.Spec PyProof.Rows L2
theorem sqT_heap {X : Cx} {pins : List (Addr × Obj)} {σ : L2.St} {H : Hp} {s : Shared} {a : Addr} {vs : List V} (I : Inv X pins σ H s) (h : SqT X.K H a vs) : ∃ (us : List Value) (od : Option Addr) (n : Nat) (sl : Array (Option Value)), s.heap.get? a = some ⟨.type "tuple", od, .seq us.toArray n, sl⟩ ∧ Vals vs us := by
  rcases h with (h | ⟨ob, h⟩) | ⟨o, its, n, h1, h2, h3, _, rv⟩
  · obtain ⟨_, its, rv, o, h1, h2, n, h3⟩ := (show ObjOk X.prog X.w H s.heap a (.tup vs) from I.hok a _ h)
    obtain ⟨oc, od, dt, sl⟩ := o
    simp only at h2 h3
    subst h2 h3
    exact ⟨_, od, n, sl, h1, rv⟩
  · obtain ⟨_, _, its, rv, o, h1, h2, n, h3⟩ := (show ObjOk X.prog X.w H s.heap a (.frz ob (.tup vs)) from I.hok a _ h)
    obtain ⟨oc, od, dt, sl⟩ := o
    simp only at h2 h3
    subst h2 h3
    exact ⟨_, od, n, sl, h1, rv⟩
  · obtain ⟨oc, od, dt, sl⟩ := o
    cases (show oc = _ from h2)
    cases (show dt = _ from h3)
    exact ⟨its.toList, od, n, sl, by simpa using I.kIn _ _ h1, rv⟩
def rIsiS (K : PySem.W.Frag) : List V → Hp → VK → Prop := fun xs H Q => ∃ (x : V) (tp : Addr) (cs : List V) (t : Value) (us : List Value) (b : Bool), xs = [x, .ref tp] ∧ SqT K H tp cs ∧ Paired ClsV cs us ∧ TyX K H x t ∧ PySem.W.kitAny K t us = some b ∧ Q (.bl b) H
theorem call_isiS {X : Cx} : CallR X (.builtin "isinstance") (rIsiS X.K) := by
  intro pins s σ H xs us Q I r h
  obtain ⟨x, tp, cs, t, ws, b, rfl, hT, k, ty, e, q⟩ := h
  obtain ⟨u1, u2, rfl, r1, r2⟩ := vals2 r
  cases (show u2 = Value.ref tp from r2)
  obtain ⟨P, Z, p, hx⟩ := kit_of I r1 ty
  obtain ⟨its, od, n, sl, h1, rv⟩ := sqT_heap I hT
  have e3 := ClsV.all k rv
  subst e3
  exact PySem.W.kia_tup Z I.kIn p h1 e hx fun tk => ⟨.bl b, H, I.tok tk, rfl, q⟩
def isiTD (d : D) : List D → Option Bool
  | [] => some false
  | .ty n :: r => match isiD d n, isiTD d r with
    | some a, some b => some (a || b)
    | _, _ => none
  | _ => none
def rdIsiTp : RDC := fun ds S Q => match ds with
  | [d, .tup ts] => match isiTD d ts with
    | some b => (tyD d).isSome = true ∧ Q (.bl b) S
    | none => False
  | _ => False
theorem isiT_kit {K : PySem.W.Frag} {H : Hp} {S : Sd} {d : D} {t : String} (e0 : tyD d = some t) : ∀ (ts : List D) (vs : List V) (b : Bool), RpL K H S ts vs → isiTD d ts = some b → ∃ us, Paired ClsV vs us ∧ PySem.W.kitAny K (.type t) us = some b
  | [], vs, b, r, e => by
    cases (show vs = [] from r)
    cases e
    exact ⟨[], .nil, kitAny_nil⟩
  | x :: r, vs, b, rr, e => by
    obtain ⟨v, w, rfl, r1, r2⟩ := rr
    cases x with
    | ty n =>
      have e1 : v = .ty n := r1
      subst e1
      unfold isiTD at e
      cases e2 : isiD d n with
      | none => rw [e2] at e; cases e
      | some c =>
        have e3 : kitB t n = some c := by
          unfold isiD at e2
          rw [e0] at e2
          exact e2
        rw [e2] at e
        cases e4 : isiTD d r with
        | none => rw [e4] at e; cases e
        | some c2 =>
          rw [e4] at e
          cases e
          obtain ⟨us, p, k⟩ := isiT_kit e0 r w c2 r2 e4
          exact ⟨.type n :: us, .cons (.ty n) p, kitAny_cons (kit_ty e3) (fun h => by rw [h, Bool.false_or]; exact k) (fun h => by rw [h]; rfl)⟩
    | _ => cases e
theorem cd_isiTp {X : Cx} : CallD X (.builtin "isinstance") rdIsiTp := ⟨_, call_isiS, fun H S fr σd σ xs ds Qv Qd ok r h k => by
  match ds, h with
  | [d, .tup ts], h =>
    obtain ⟨v, w, rfl, r1, r2⟩ := rpL2 r
    obtain ⟨p, vs, rfl, hq, r3⟩ := r2
    have h : (match isiTD d ts with | some b => (tyD d).isSome = true ∧ Qd (.bl b) S | none => False) := h
    cases e : isiTD d ts with
    | none => rw [e] at h; exact h.elim
    | some b =>
      rw [e] at h
      obtain ⟨t, et⟩ := Option.isSome_iff_exists.mp h.1
      obtain ⟨us, pr, kk⟩ := isiT_kit et ts vs b r3 e
      exact ⟨v, p, vs, .type t, us, b, rfl, hq, pr, isi_ty ok.rel r1 et, kk, k _ (.bl b) H S ok rfl h.2⟩⟩
section
variable {S : Sd} {Q : DK}
theorem x_isi3_non : rdIsiTp [.non, .tup [.ty "str", .ty "tuple", .ty "list"]] S Q = Q (.bl false) S := by unfold rdIsiTp isiTD isiTD isiTD isiTD; simp only [isi_non_str, isi_non_tuple, isi_non_list]; simp [tyD]
theorem x_isi3_bl {b : Bool} : rdIsiTp [.bl b, .tup [.ty "str", .ty "tuple", .ty "list"]] S Q = Q (.bl false) S := by unfold rdIsiTp isiTD isiTD isiTD isiTD; simp only [isi_bl_str, isi_bl_tuple, isi_bl_list]; simp [tyD]
theorem x_isi3_str {b : Str} : rdIsiTp [.str b, .tup [.ty "str", .ty "tuple", .ty "list"]] S Q = Q (.bl true) S := by unfold rdIsiTp isiTD isiTD isiTD isiTD; simp only [isi_str_str, isi_str_tuple, isi_str_list]; simp [tyD]
theorem x_isi3_tup {b : List D} : rdIsiTp [.tup b, .tup [.ty "str", .ty "tuple", .ty "list"]] S Q = Q (.bl true) S := by unfold rdIsiTp isiTD isiTD isiTD isiTD; simp only [isi_tup_str, isi_tup_tuple, isi_tup_list]; simp [tyD]
theorem x_isi3_lst {b : List D} : rdIsiTp [.lst b, .tup [.ty "str", .ty "tuple", .ty "list"]] S Q = Q (.bl true) S := by unfold rdIsiTp isiTD isiTD isiTD isiTD; simp only [isi_lst_str, isi_lst_tuple, isi_lst_list]; simp [tyD]
end
end Dv

/-! Readings by value, z: urns, draws, small data, words. -/
namespace Dv
open PySem L2 PyProof.Rows
theorem mulOk {a b : Int} (m n : Nat) (ha : a.natAbs < 2 ^ m) (hb : b.natAbs < 2 ^ n) (h0 : 0 < m) (h1 : 0 < n) (h : m + n ≤ 1000000) : a.natAbs.log2 + b.natAbs.log2 < 1000000 := by
  have x := log2_lt ha h0
  have y := log2_lt hb h1
  omega
theorem powOk {a : Int} (m : Nat) (j : Int) (ha : a.natAbs < 2 ^ m) (h0 : 0 < m) (hj : 0 ≤ j) (h : (m : Int) * j ≤ 134217728) : 0 ≤ j ∧ ((a.natAbs.log2 : Int) + 1) * j ≤ 134217728 := by
  have x := log2_lt ha h0
  refine ⟨hj, Int.le_trans (Int.mul_le_mul_of_nonneg_right ?_ hj) h⟩
  omega
theorem fmod_in {a b : Int} (h : 0 < b) : 0 ≤ a.fmod b ∧ a.fmod b < b := by
  rw [Int.fmod_eq_emod_of_nonneg a (Int.le_of_lt h)]
  exact ⟨Int.emod_nonneg a (by omega), Int.emod_lt_of_pos a h⟩
theorem abs_lt_of {a : Int} {n : Nat} (h0 : 0 ≤ a) (h1 : a < 2 ^ n) : a.natAbs < 2 ^ n := by
  have e : ((2 ^ n : Nat) : Int) = 2 ^ n := by simp
  omega
def primes : List D := [.int 2147483647, .int 2147483629, .int 2147483587, .int 2147483579, .int 2147483563, .int 2147483549, .int 2147483543]
theorem primes_at {k : Int} (h0 : 0 ≤ k) (h1 : k < 7) : ∃ p, atI primes k = some (.int p) ∧ 2147483543 ≤ p ∧ p < 2147483648 := by
  have c : k = 0 ∨ k = 1 ∨ k = 2 ∨ k = 3 ∨ k = 4 ∨ k = 5 ∨ k = 6 := by omega
  rcases c with rfl | rfl | rfl | rfl | rfl | rfl | rfl
  · exact ⟨2147483647, atI_nat (j := 0) rfl, by decide, by decide⟩
  · exact ⟨2147483629, atI_nat (j := 1) rfl, by decide, by decide⟩
  · exact ⟨2147483587, atI_nat (j := 2) rfl, by decide, by decide⟩
  · exact ⟨2147483579, atI_nat (j := 3) rfl, by decide, by decide⟩
  · exact ⟨2147483563, atI_nat (j := 4) rfl, by decide, by decide⟩
  · exact ⟨2147483549, atI_nat (j := 5) rfl, by decide, by decide⟩
  · exact ⟨2147483543, atI_nat (j := 6) rfl, by decide, by decide⟩
theorem ixN_0 {n : Nat} (h : 0 < n) : ixN n 0 = some 0 := ixN_nat h
theorem ixN_2 {n : Nat} (h : 2 < n) : ixN n 2 = some 2 := ixN_nat h
/-! ### small data -/
def isWh : D → Bool
  | .int _ => true
  | _ => false
theorem isWh_int {d : D} (h : isWh d = true) : ∃ i, d = .int i := by
  cases d <;> first | exact ⟨_, rfl⟩ | exact absurd (show false = true from h) Bool.false_ne_true
mutual
/-- ints below 2 ^ n, texts of at most 100000 signs -/
def sm (n : Nat) : D → Bool
  | .int i => decide (i.natAbs < 2 ^ n)
  | .str z => decide (z.length ≤ 100000)
  | .non => true | .bl _ => true
  | .tup ds => smL n ds
  | .lst ds => smL n ds
  | _ => false
def smL (n : Nat) : List D → Bool
  | [] => true
  | d :: ds => sm n d && smL n ds
end
theorem smL_iff {n : Nat} : ∀ {ds : List D}, smL n ds = true ↔ ∀ d ∈ ds, sm n d = true
  | [] => by simp [smL]
  | d :: ds => by
    have ih := smL_iff (n := n) (ds := ds)
    simp only [smL, Bool.and_eq_true, List.mem_cons, ih]
    constructor
    · rintro ⟨h1, h2⟩ x (rfl | hx)
      · exact h1
      · exact h2 x hx
    · intro h
      exact ⟨h d (.inl rfl), fun x hx => h x (.inr hx)⟩
mutual
theorem sm_data {n : Nat} : ∀ {d : D}, sm n d = true → isData d = true
  | .int _, _ => rfl
  | .non, _ => rfl
  | .bl _, _ => rfl
  | .str _, _ => rfl
  | .tup ds, h => smL_data (ds := ds) h
  | .lst ds, h => smL_data (ds := ds) h
  | .tupX _, h => absurd (show false = true from h) Bool.false_ne_true
  | .inst _ _ _, h => absurd (show false = true from h) Bool.false_ne_true
  | .obj _, h => absurd (show false = true from h) Bool.false_ne_true
  | .ty _, h => absurd (show false = true from h) Bool.false_ne_true
theorem smL_data {n : Nat} : ∀ {ds : List D}, smL n ds = true → isDataL ds = true
  | [], _ => rfl
  | d :: ds, h => by
    have h' := Bool.and_eq_true_iff.mp (show (sm n d && smL n ds) = true from h)
    show (isData d && isDataL ds) = true
    rw [sm_data h'.1, smL_data h'.2]
    rfl
end
theorem sm_int {n : Nat} {i : Int} : sm n (.int i) = true ↔ i.natAbs < 2 ^ n := by simp [sm]
theorem sm_str {n : Nat} {z : Str} : sm n (.str z) = true ↔ z.length ≤ 100000 := by simp [sm]
mutual
theorem sm_mono {n m : Nat} (h : n ≤ m) : ∀ {d : D}, sm n d = true → sm m d = true
  | .int _, k => sm_int.mpr (Nat.lt_of_lt_of_le (sm_int.mp k) (Nat.pow_le_pow_right (by decide) h))
  | .str _, k => sm_str.mpr (sm_str.mp k)
  | .non, _ => rfl
  | .bl _, _ => rfl
  | .tup ds, k => smL_mono h (ds := ds) k
  | .lst ds, k => smL_mono h (ds := ds) k
  | .tupX _, h => absurd (show false = true from h) Bool.false_ne_true
  | .inst _ _ _, h => absurd (show false = true from h) Bool.false_ne_true
  | .obj _, h => absurd (show false = true from h) Bool.false_ne_true
  | .ty _, h => absurd (show false = true from h) Bool.false_ne_true
theorem smL_mono {n m : Nat} (h : n ≤ m) : ∀ {ds : List D}, smL n ds = true → smL m ds = true
  | [], _ => rfl
  | d :: ds, k => by
    have k' := Bool.and_eq_true_iff.mp (show (sm n d && smL n ds) = true from k)
    show (sm m d && smL m ds) = true
    rw [sm_mono h k'.1, smL_mono h k'.2]
    rfl
end
theorem smT {n : Nat} {ds : List D} : sm n (.tup ds) = true ↔ ∀ d ∈ ds, sm n d = true := smL_iff
theorem smLs {n : Nat} {ds : List D} : sm n (.lst ds) = true ↔ ∀ d ∈ ds, sm n d = true := smL_iff
/-! ### urns -/
def Urn (S : Sd) (u : Addr) (B : Int) : Prop := ∃ g c n, S u = some (.lst [.int g, .int c, .int n]) ∧ 0 ≤ g ∧ 0 ≤ c ∧ c < 2 ^ 70 ∧ 0 ≤ n ∧ n ≤ B
def Oth (S S' : Sd) (u : Addr) : Prop := ∀ a, a ≠ u → S' a = S a
theorem Oth.trans {S S1 S2 : Sd} {u : Addr} (h : Oth S S1 u) (k : Oth S1 S2 u) : Oth S S2 u := fun a ha => (k a ha).trans (h a ha)
theorem Oth.refl {S : Sd} {u : Addr} : Oth S S u := fun _ _ => rfl
theorem Urn.mono {S : Sd} {u : Addr} {B B' : Int} (h : Urn S u B) (hb : B ≤ B') : Urn S u B' := by
  obtain ⟨g, c, n, e, g0, c0, c1, n0, n1⟩ := h
  exact ⟨g, c, n, e, g0, c0, c1, n0, Int.le_trans n1 hb⟩
theorem Urn.oth {S S' : Sd} {p u : Addr} {B : Int} (h : Urn S u B) (ho : ∀ a, a ≠ p → S' a = S a) (hne : u ≠ p) : Urn S' u B := by
  obtain ⟨g, c, n, e, k⟩ := h
  exact ⟨g, c, n, (ho u hne).trans e, k⟩
theorem Urn.ne {S : Sd} {p u : Addr} {B : Int} (h : Urn S u B) (hp : S p = none) : u ≠ p := fun e => by
  obtain ⟨g, c, n, e2, _⟩ := h
  rw [e, hp] at e2
  cases e2
theorem Urn.up {S : Sd} {p u : Addr} {B : Int} {o : SO} (h : Urn S u B) (hne : u ≠ p) : Urn (upS S p o) u B := h.oth (fun a ha => upS_ne ha) hne
theorem Urn.del {S : Sd} {p u : Addr} {B : Int} (h : Urn S u B) (hne : u ≠ p) : Urn (del S p) u B := h.oth (fun a ha => del_ne ha) hne
theorem Oth.del {S S' : Sd} {p u : Addr} (h : ∀ a, a ≠ u → a ≠ p → S' a = S a) (hp : S p = none) : Oth S (del S' p) u := fun a ha => by
  by_cases e : a = p
  · rw [e, del_same, hp]
  · rw [del_ne e, h a ha e]
/-! ### parts -/
theorem app_toList (x y : Str) : (x ++ y).cps.toList = x.cps.toList ++ y.cps.toList := by
  show (x.cps ++ y.cps).toList = _
  simp
theorem sIx_lo {n : Nat} {i : Int} (h0 : 0 ≤ i) (h1 : i ≤ n) (b : Nat) : HT.sIx n b (some i) = i.toNat := by
  obtain ⟨k, rfl⟩ := Int.eq_ofNat_of_zero_le h0
  rw [HT.sIx_nat]
  show min k n = k
  omega
theorem cutS_take {l : List Nat} {i : Int} (h0 : 0 ≤ i) (h1 : i ≤ l.length) : cutS (ofL l) none (some i) = ofL (l.take i.toNat) := by
  refine str_ext ?_
  show (((ofL l).cps.toList.drop (HT.sIx (ofL l).length 0 none)).take (HT.sIx (ofL l).length (ofL l).length (some i) - HT.sIx (ofL l).length 0 none)) = _
  rw [ofL_len, sIx_lo h0 h1]
  show (l.drop 0).take (i.toNat - 0) = _
  rfl
theorem cutS_drop {l : List Nat} {i : Int} (h0 : 0 ≤ i) (h1 : i ≤ l.length) : cutS (ofL l) (some i) none = ofL (l.drop i.toNat) := by
  refine str_ext ?_
  show (((ofL l).cps.toList.drop (HT.sIx (ofL l).length 0 (some i))).take (HT.sIx (ofL l).length (ofL l).length none - HT.sIx (ofL l).length 0 (some i))) = _
  rw [ofL_len, sIx_lo h0 h1]
  show (l.drop i.toNat).take (l.length - i.toNat) = _
  rw [List.take_of_length_le (by rw [List.length_drop]; omega)]
  rfl
/-! ### words: a is 97, b is 98 -/
/-! ### of the functions that many laws share -/
theorem at_nat {ns : List Nat} {k : Int} (h0 : 0 ≤ k) (h1 : k < ns.length) : ∃ n : Nat, atI (ns.map fun (n : Nat) => D.int n) k = some (.int (n : Int)) ∧ n ∈ ns := by
  obtain ⟨d, ed, hd⟩ := atI_some (ds := ns.map fun (n : Nat) => D.int n) h0 (by simpa using h1)
  obtain ⟨n, hn, rfl⟩ := List.mem_map.mp hd
  exact ⟨n, ed, hn⟩
/-! ### tables -/
structure M2 where
  p : Int
  q : Int
  r : Int
  s : Int
  deriving DecidableEq
/-- sizes -/
def SzM (m : M2) (n : Nat) : Prop := m.p.natAbs < 2 ^ n ∧ m.q.natAbs < 2 ^ n ∧ m.r.natAbs < 2 ^ n ∧ m.s.natAbs < 2 ^ n
theorem SzM.mono {m : M2} {n k : Nat} (h : SzM m n) (hk : n ≤ k) : SzM m k := by
  have := Nat.pow_le_pow_right (n := 2) (by decide) hk
  exact ⟨Nat.lt_of_lt_of_le h.1 this, Nat.lt_of_lt_of_le h.2.1 this, Nat.lt_of_lt_of_le h.2.2.1 this, Nat.lt_of_lt_of_le h.2.2.2 this⟩
/-! ### == of data with itself -/
mutual
theorem deq_refl : ∀ {d : D}, isData d = true → deq d d = true
  | .int i, _ => beq_self_eq_true i
  | .non, _ => rfl
  | .bl b, _ => beq_self_eq_true b
  | .str z, _ => beq_self_eq_true z
  | .tup ds, h => deqL_refl (ds := ds) h
  | .lst ds, h => deqL_refl (ds := ds) h
  | .tupX _, h => absurd (show false = true from h) Bool.false_ne_true
  | .inst _ _ _, h => absurd (show false = true from h) Bool.false_ne_true
  | .obj _, h => absurd (show false = true from h) Bool.false_ne_true
  | .ty _, h => absurd (show false = true from h) Bool.false_ne_true
  | .exc _ _ _ _, h => absurd (show false = true from h) Bool.false_ne_true
theorem deqL_refl : ∀ {ds : List D}, isDataL ds = true → deqL ds ds = true
  | [], _ => rfl
  | d :: ds, h => by
    have h' := Bool.and_eq_true_iff.mp (show (isData d && isDataL ds) = true from h)
    show (deq d d && deqL ds ds) = true
    rw [deq_refl h'.1, deqL_refl h'.2]
    rfl
end
theorem eqOk_data {d : D} (h : eqOk d = true) : isData d = true := (Bool.and_eq_true_iff.mp h).1
theorem x_eq_self {d : D} {S : Sd} {Q : DK} (h : eqOk d = true) (q : Q (.bl true) S) : rdEq d d S Q := by
  have e := deq_refl (eqOk_data h)
  cases d with
  | int i => exact (show Q (.bl (decide (i = i))) S from by rw [decide_eq_true rfl]; exact q)
  | str i => exact (show Q (.bl (decide (i = i))) S from by rw [decide_eq_true rfl]; exact q)
  | bl i => exact (show Q (.bl (decide (i = i))) S from by rw [decide_eq_true rfl]; exact q)
  | _ => exact ⟨⟨h, h⟩, by rw [e]; exact q⟩
/-- may be held against others, so many deep -/
def okD_ (k : Nat) (d : D) : Bool := isData d && ((pd d).canLay0 && decide ((pd d).depth ≤ k))
theorem okD_eqOk {k : Nat} {d : D} (h : okD_ k d = true) (hk : k ≤ 64) : eqOk d = true := by
  have h1 := Bool.and_eq_true_iff.mp h
  have h2 := Bool.and_eq_true_iff.mp h1.2
  have h3 := of_decide_eq_true h2.2
  show (isData d && ((pd d).canLay0 && decide ((pd d).depth ≤ 64))) = true
  rw [h1.1, h2.1, decide_eq_true (Nat.le_trans h3 hk)]
  rfl
theorem okD_list {k : Nat} : ∀ {ds : List D}, (∀ d ∈ ds, okD_ k d = true) → isDataL ds = true ∧ PyData.canLayAll0 (pdL ds) = true ∧ PyData.depthAll (pdL ds) ≤ k
  | [], _ => ⟨rfl, rfl, Nat.zero_le _⟩
  | d :: ds, h => by
    obtain ⟨i1, i2, i3⟩ := okD_list (ds := ds) fun x hx => h x (List.mem_cons_of_mem _ hx)
    have h1 := Bool.and_eq_true_iff.mp (h d (.head _))
    have h2 := Bool.and_eq_true_iff.mp h1.2
    have h3 := of_decide_eq_true h2.2
    refine ⟨?_, ?_, ?_⟩
    · show (isData d && isDataL ds) = true
      rw [h1.1, i1]; rfl
    · show ((pd d).canLay0 && PyData.canLayAll0 (pdL ds)) = true
      rw [h2.1, i2]; rfl
    · show max (pd d).depth (PyData.depthAll (pdL ds)) ≤ k
      omega
theorem okD_tup {k : Nat} {ds : List D} (h : ∀ d ∈ ds, okD_ k d = true) : okD_ (k + 1) (.tup ds) = true := by
  obtain ⟨h1, h2, h3⟩ := okD_list h
  show (isDataL ds && (PyData.canLayAll0 (pdL ds) && decide (PyData.depthAll (pdL ds) + 1 ≤ k + 1))) = true
  rw [h1, h2, decide_eq_true (by omega)]
  rfl
theorem okD_lst {k : Nat} {ds : List D} (h : ∀ d ∈ ds, okD_ k d = true) : okD_ (k + 1) (.lst ds) = true := okD_tup h
theorem okD_int {k : Nat} {i : Int} : okD_ k (.int i) = true := by
  show (true && (true && decide (0 ≤ k))) = true
  rw [decide_eq_true (Nat.zero_le _)]; rfl
theorem okD_str {k : Nat} {z : Str} (h : PyData.strOk z = true) : okD_ k (.str z) = true := by
  show (true && (PyData.strOk z && decide (0 ≤ k))) = true
  rw [h, decide_eq_true (Nat.zero_le _)]; rfl
theorem okD_ints (ns : List Int) : okD_ 1 (.tup (ns.map D.int)) = true := okD_tup fun d hd => by
  obtain ⟨n, _, rfl⟩ := List.mem_map.mp hd
  exact okD_int
end Dv

namespace K57
open PySem L2 Dv Hx
abbrev wd (Ed : XKD) : WXD := fun x _ S => Ed x S
abbrev wd0 : WXD := fun _ _ _ => False
abbrev k_MANY : D := .int 3
def isTriD : D → Bool
  | .tup [.int x, .int y, .int z] => decide (1 ≤ x ∧ x ≤ y ∧ y ≤ z ∧ x * x + y * y + z * z = 3 * x * y * z)
  | _ => false
def thS (t : Int × Int × Int) (c : Nat) : Int × Int × Int := if c = 108 then (t.1, t.2.2, 3 * t.1 * t.2.2 - t.2.1) else (t.2.2, t.2.1, 3 * t.2.2 * t.2.1 - t.1)
def cnS (p : Nat × Nat) (c : Nat) : Nat × Nat := if c = 108 then (p.1, p.1 + p.2) else (p.1 + p.2, p.2)
def thL (l : List Nat) : Int × Int × Int := l.foldl thS (1, 2, 5)
def cnL (l : List Nat) : Nat × Nat := l.foldl cnS (1, 1)
def cnW (l : List Nat) : Nat := (cnL l).1 + (cnL l).2
/-- the three numbers of a way -/
structure MkI (u v w : Int) (f s : Nat) : Prop where
  u1 : 1 ≤ u
  v1 : 1 ≤ v
  uw : u ≤ w
  vw : v ≤ w
  eq : u * u + v * v + w * w = 3 * u * v * w
  c1 : ∀ d : Int, d ∣ u → d ∣ v → d ∣ 1
  c2 : ∀ d : Int, d ∣ u → d ∣ w → d ∣ 1
  c3 : ∀ d : Int, d ∣ v → d ∣ w → d ∣ 1
  b1 : 3 * u ≤ 8 ^ f
  b2 : 3 * v ≤ 8 ^ s
  b3 : 3 * w ≤ 8 ^ (f + s)
structure TrP (x y z : Int) : Prop where
  x1 : 1 ≤ x
  xy : x ≤ y
  yz : y ≤ z
  eq : x * x + y * y + z * z = 3 * x * y * z
  cp : ∀ d : Int, d ∣ y → d ∣ z → d ∣ 1
  sz : z < 2 ^ 1000
theorem str_l : (Str.ofString "l") = ⟨#[108]⟩ := by decide +kernel
theorem cnL_snoc (l : List Nat) (c : Nat) : cnL (l ++ [c]) = cnS (cnL l) c := by unfold cnL; rw [List.foldl_append]; rfl
/-! ### the three numbers of a way -/
theorem MkI.first : MkI 1 2 5 1 1 := ⟨by decide, by decide, by decide, by decide, by decide, fun d h _ => h, fun d h _ => h, fun d h1 h2 => by
  obtain ⟨k1, e1⟩ := h1
  obtain ⟨k2, e2⟩ := h2
  exact ⟨k2 - 2 * k1, by grind⟩, by decide, by decide, by decide⟩
theorem MkI.left {u v w : Int} {f s : Nat} (I : MkI u v w f s) : MkI u w (3 * u * w - v) f (f + s) := by
  have e := I.eq
  have w1 : 1 ≤ w := by have := I.u1; have := I.uw; omega
  have h1 : 3 * 1 * w ≤ 3 * u * w := Int.mul_le_mul_of_nonneg_right (by have := I.u1; omega) (by omega)
  refine ⟨I.u1, w1, ?_, ?_, ?_, I.c2, fun d g1 g2 => I.c1 d g1 ?_, fun d g1 g2 => I.c3 d ?_ g1, I.b1, I.b3, ?_⟩
  · have := I.uw; have := I.vw; omega
  · have := I.vw; omega
  · grind
  · obtain ⟨k1, e1⟩ := g1
    obtain ⟨k2, e2⟩ := g2
    exact ⟨3 * k1 * w - k2, by grind⟩
  · obtain ⟨k1, e1⟩ := g1
    obtain ⟨k2, e2⟩ := g2
    exact ⟨3 * u * k1 - k2, by grind⟩
  · have p : (0 : Int) ≤ 8 ^ f := Int.pow_nonneg (by decide)
    have h2 : 3 * u * (3 * w) ≤ 8 ^ f * 8 ^ (f + s) := Int.mul_le_mul I.b1 I.b3 (by omega) p
    rw [← Int.pow_add] at h2
    have h3 : 3 * u * (3 * w) = 3 * (3 * u * w) := by grind
    have := I.v1
    omega
theorem MkI.right {u v w : Int} {f s : Nat} (I : MkI u v w f s) : MkI w v (3 * w * v - u) (f + s) s := by
  have e := I.eq
  have w1 : 1 ≤ w := by have := I.u1; have := I.uw; omega
  have h1 : 3 * w * 1 ≤ 3 * w * v := Int.mul_le_mul_of_nonneg_left I.v1 (by omega)
  refine ⟨w1, I.v1, ?_, ?_, ?_, fun d g1 g2 => I.c3 d g2 g1, fun d g1 g2 => I.c2 d ?_ g1, fun d g1 g2 => I.c1 d ?_ g1, I.b3, I.b2, ?_⟩
  · have := I.uw; omega
  · have := I.uw; have := I.vw; omega
  · grind
  · obtain ⟨k1, e1⟩ := g1
    obtain ⟨k2, e2⟩ := g2
    exact ⟨3 * k1 * v - k2, by grind⟩
  · obtain ⟨k1, e1⟩ := g1
    obtain ⟨k2, e2⟩ := g2
    exact ⟨3 * w * k1 - k2, by grind⟩
  · have p : (0 : Int) ≤ 8 ^ (f + s) := Int.pow_nonneg (by decide)
    have h2 : 3 * w * (3 * v) ≤ 8 ^ (f + s) * 8 ^ s := Int.mul_le_mul I.b3 I.b2 (by have := I.v1; omega) p
    rw [← Int.pow_add] at h2
    have h3 : 3 * w * (3 * v) = 3 * (3 * w * v) := by grind
    have := I.u1
    omega
theorem MkI.step {t : Int × Int × Int} {p : Nat × Nat} (c : Nat) (I : MkI t.1 t.2.1 t.2.2 p.1 p.2) : MkI (thS t c).1 (thS t c).2.1 (thS t c).2.2 (cnS p c).1 (cnS p c).2 := by
  unfold thS cnS
  split
  · exact I.left
  · exact I.right
theorem mkI_of : ∀ l : List Nat, MkI (thL l).1 (thL l).2.1 (thL l).2.2 (cnL l).1 (cnL l).2 := by
  have go : ∀ (l : List Nat) (t : Int × Int × Int) (p : Nat × Nat), MkI t.1 t.2.1 t.2.2 p.1 p.2 → MkI (l.foldl thS t).1 (l.foldl thS t).2.1 (l.foldl thS t).2.2 (l.foldl cnS p).1 (l.foldl cnS p).2 := by
    intro l
    induction l with
    | nil => exact fun _ _ h => h
    | cons c l ih => exact fun t p h => ih _ _ (h.step c)
  exact fun l => go l _ _ MkI.first
theorem thL_snoc (l : List Nat) (c : Nat) : thL (l ++ [c]) = thS (thL l) c := by unfold thL; rw [List.foldl_append]; rfl
theorem cnS_le (p : Nat × Nat) (c : Nat) : p.1 ≤ (cnS p c).1 ∧ p.2 ≤ (cnS p c).2 := by
  unfold cnS
  split
  · exact ⟨Nat.le_refl _, Nat.le_add_left _ _⟩
  · exact ⟨Nat.le_add_right _ _, Nat.le_refl _⟩
theorem cnW_le (l r : List Nat) : cnW l ≤ cnW (l ++ r) := by
  have go : ∀ (r : List Nat) (p : Nat × Nat), p.1 ≤ (r.foldl cnS p).1 ∧ p.2 ≤ (r.foldl cnS p).2 := by
    intro r
    induction r with
    | nil => exact fun _ => ⟨Nat.le_refl _, Nat.le_refl _⟩
    | cons c r ih => exact fun p => ⟨Nat.le_trans (cnS_le p c).1 (ih _).1, Nat.le_trans (cnS_le p c).2 (ih _).2⟩
  have h := go r (cnL l)
  have e : r.foldl cnS (cnL l) = cnL (l ++ r) := by unfold cnL; rw [List.foldl_append]
  rw [e] at h
  exact Nat.add_le_add h.1 h.2
theorem MkI.smallN {u v w : Int} {f s : Nat} (N : Nat) (I : MkI u v w f s) (h : f + s ≤ N) : u.natAbs < 2 ^ (3 * N) ∧ v.natAbs < 2 ^ (3 * N) ∧ w.natAbs < 2 ^ (3 * N) := by
  have p : (8 : Int) ^ (f + s) ≤ 8 ^ N := by exact_mod_cast Nat.pow_le_pow_right (by decide : 0 < 8) h
  have e : (8 : Int) ^ N = ((2 ^ (3 * N) : Nat) : Int) := by rw [Nat.pow_mul]; norm_cast
  rw [e] at p
  have b3 := I.b3
  have u1 := I.u1
  have v1 := I.v1
  have uw := I.uw
  have vw := I.vw
  exact ⟨by omega, by omega, by omega⟩
theorem MkI.small7 {u v w : Int} {f s : Nat} (I : MkI u v w f s) (h : f + s ≤ 700) : u.natAbs < 2 ^ 2100 ∧ v.natAbs < 2 ^ 2100 ∧ w.natAbs < 2 ^ 2100 := I.smallN 700 h
/-! ### comprehensions with a test, without a trace -/
/-! ### step words and their cuts -/
/-! ### ways: the two words of a way, by their counts -/
theorem cnS_mono (p : Nat × Nat) (c : Nat) : p.1 ≤ (cnS p c).1 ∧ p.2 ≤ (cnS p c).2 := by
  unfold cnS
  split <;> constructor <;> dsimp only <;> omega
theorem cnW_len (w : List Nat) : w.length + 2 ≤ cnW w := by
  have h : ∀ (r : List Nat) (p : Nat × Nat), 1 ≤ p.1 → 1 ≤ p.2 → r.length + (p.1 + p.2) ≤ (r.foldl cnS p).1 + (r.foldl cnS p).2 := fun r => by
    induction r with
    | nil => intro p _ _; simp
    | cons c r ih =>
      intro p h1 h2
      rw [List.foldl_cons, List.length_cons]
      have hm := cnS_mono p c
      have := ih (cnS p c) (by omega) (by omega)
      have hs : p.1 + p.2 + 1 ≤ (cnS p c).1 + (cnS p c).2 := by unfold cnS; split <;> dsimp only <;> omega
      omega
  exact h w (1, 1) (by decide) (by decide)
/-! ### texts told often -/
/-! ### texts of words shown -/
theorem strOk_iff {z : Str} : PyData.strOk z = true ↔ ∀ c ∈ z.cps.toList, c < 1114112 := by
  show z.cps.all (· < 0x110000) = true ↔ _
  rw [Array.all_eq_true']
  simp
theorem strOk_app {x y : Str} (hx : PyData.strOk x = true) (hy : PyData.strOk y = true) : PyData.strOk (x ++ y) = true := strOk_iff.mpr fun c hc => by
  rw [app_toList] at hc
  rcases List.mem_append.mp hc with h | h
  · exact strOk_iff.mp hx c h
  · exact strOk_iff.mp hy c h
theorem quote_cases (z : Str) : reprQuote z = 39 ∨ reprQuote z = 34 := by
  unfold reprQuote
  split
  · exact .inr rfl
  · exact .inl rfl
/-! ### a way's three led down -/
def swp (t : Int × Int × Int) : Int × Int × Int := (t.2.1, t.1, t.2.2)
def trI (t : Int × Int × Int) : D := .tup [.int t.1, .int t.2.1, .int t.2.2]
structure MkS (t : Int × Int × Int) : Prop where
  u1 : 1 ≤ t.1
  v1 : 1 ≤ t.2.1
  uw : t.1 < t.2.2
  vw : t.2.1 < t.2.2
  w5 : 5 ≤ t.2.2
theorem MkS.step {t : Int × Int × Int} (h : MkS t) (c : Nat) : MkS (thS t c) ∧ t.2.2 < (thS t c).2.2 := by
  obtain ⟨u, v, w⟩ := t
  obtain ⟨u1, v1, uw, vw, w5⟩ := h
  simp only at u1 v1 uw vw w5
  have h1 : 3 * 1 * w ≤ 3 * u * w := Int.mul_le_mul_of_nonneg_right (by omega) (by omega)
  have h2 : 3 * w * 1 ≤ 3 * w * v := Int.mul_le_mul_of_nonneg_left v1 (by omega)
  unfold thS
  split
  · exact ⟨⟨u1, by show 1 ≤ w; omega, by show u < 3 * u * w - v; omega, by show w < 3 * u * w - v; omega, by show 5 ≤ 3 * u * w - v; omega⟩, by show w < 3 * u * w - v; omega⟩
  · exact ⟨⟨by show 1 ≤ w; omega, v1, by show w < 3 * w * v - u; omega, by show v < 3 * w * v - u; omega, by show 5 ≤ 3 * w * v - u; omega⟩, by show w < 3 * w * v - u; omega⟩
theorem mkS_fold : ∀ (l : List Nat) (t : Int × Int × Int), MkS t → MkS (l.foldl thS t)
  | [], _, h => h
  | c :: l, _, h => mkS_fold l _ (h.step c).1
theorem mkS_of (l : List Nat) : MkS (thL l) := mkS_fold l _ ⟨by decide, by decide, by decide, by decide, by decide⟩
def stT (b : Bool) (t : Int × Int × Int) : Int × Int × Int := if b then swp t else t
theorem stT_w (b : Bool) (t : Int × Int × Int) : (stT b t).2.2 = t.2.2 := by cases b <;> rfl
theorem stT_sm {b : Bool} {t : Int × Int × Int} {N : Nat} (h1 : t.1.natAbs < 2 ^ N) (h2 : t.2.1.natAbs < 2 ^ N) (h3 : t.2.2.natAbs < 2 ^ N) : (stT b t).1.natAbs < 2 ^ N ∧ (stT b t).2.1.natAbs < 2 ^ N ∧ (stT b t).2.2.natAbs < 2 ^ N := by
  cases b
  · exact ⟨h1, h2, h3⟩
  · exact ⟨h2, h1, h3⟩
/-- rising: as it stands, or the lesser two exchanged -/
def upB (t : Int × Int × Int) : Bool := decide (t.2.1 < t.1)
theorem up_sorted {t : Int × Int × Int} (h : MkS t) : (stT (upB t) t).1 ≤ (stT (upB t) t).2.1 ∧ (stT (upB t) t).2.1 ≤ (stT (upB t) t).2.2 := by
  obtain ⟨u, v, w⟩ := t
  have uw := h.uw
  have vw := h.vw
  simp only at uw vw
  unfold upB
  by_cases c : v < u
  · rw [decide_eq_true (show (u, v, w).2.1 < (u, v, w).1 from c)]
    exact ⟨by show v ≤ u; omega, by show u ≤ w; omega⟩
  · rw [decide_eq_false (show ¬ (u, v, w).2.1 < (u, v, w).1 from c)]
    exact ⟨by show u ≤ v; omega, by show v ≤ w; omega⟩
theorem up_perm (t : Int × Int × Int) (b : Bool) : [t.1, t.2.1, t.2.2].Perm [(stT b t).1, (stT b t).2.1, (stT b t).2.2] := by
  cases b
  · exact List.Perm.refl _
  · exact List.Perm.swap _ _ _
theorem up_one {t : Int × Int × Int} (h : MkS t) {ns : List Int} (hp : ns.Perm [t.1, t.2.1, t.2.2]) (hs : ns.Pairwise (· ≤ ·)) : ns = [(stT (upB t) t).1, (stT (upB t) t).2.1, (stT (upB t) t).2.2] := by
  obtain ⟨h1, h2⟩ := up_sorted h
  refine (hp.trans (up_perm t (upB t))).eq_of_pairwise (fun a b _ _ h1 h2 => Int.le_antisymm h1 h2) hs ?_
  simp only [List.pairwise_cons, List.mem_cons, List.not_mem_nil, or_false, forall_eq_or_imp, forall_eq]
  refine ⟨⟨h1, by omega⟩, h2, ?_⟩
  simp
theorem up_tri (l : List Nat) : isTriD (trI (stT (upB (thL l)) (thL l))) = true := by
  have h := mkS_of l
  have I := mkI_of l
  obtain ⟨h1, h2⟩ := up_sorted h
  have e := I.eq
  generalize upB (thL l) = b at *
  generalize thL l = t at *
  obtain ⟨u, v, w⟩ := t
  simp only at e
  refine decide_eq_true ⟨?_, h1, h2, ?_⟩
  · cases b
    · exact h.u1
    · exact h.v1
  · cases b
    · exact e
    · show v * v + u * u + w * w = 3 * v * u * w
      grind
abbrev k_ONES : D := .tup [.int 1, .int 1, .int 1]

/-- three right numbers -/
structure TrQ (x y z : Int) : Prop where
  x1 : 1 ≤ x
  xy : x ≤ y
  yz : y ≤ z
  eq : x * x + y * y + z * z = 3 * x * y * z
theorem TrP.q {x y z : Int} (T : TrP x y z) : TrQ x y z := ⟨T.x1, T.xy, T.yz, T.eq⟩
theorem TrQ.ones {x y z : Int} (T : TrQ x y z) (h : z ≤ 1) : x = 1 ∧ y = 1 ∧ z = 1 := by
  have := T.x1; have := T.xy; have := T.yz
  omega
theorem TrQ.down {x y z : Int} (T : TrQ x y z) (h : 1 < z) : 1 ≤ 3 * x * y - z ∧ 3 * x * y - z ≤ y ∧ 2 * y ≤ z ∧ x * x + y * y + (3 * x * y - z) * (3 * x * y - z) = 3 * x * y * (3 * x * y - z) := by
  obtain ⟨x1, xy, yz, e⟩ := T
  have hw : z * (3 * x * y - z) = x * x + y * y := by grind
  have xx : 0 < x * x := Int.mul_pos (by omega) (by omega)
  have yy : 0 < y * y := Int.mul_pos (by omega) (by omega)
  have w1 : 0 < 3 * x * y - z := Int.pos_of_mul_pos_right (a := z) (by omega) (by omega)
  have e2 : x * x + y * y + (3 * x * y - z) * (3 * x * y - z) = 3 * x * y * (3 * x * y - z) := by grind
  generalize 3 * x * y - z = w at *
  -- y stands between both
  have hf : (z - y) * (w - y) ≤ 0 := by
    have f : (z - y) * (w - y) = x * x + 2 * (y * y) - 3 * x * (y * y) := by
      have k : (z - y) * (w - y) = z * w - y * (z + w) + y * y := by grind
      have s : z * (z + w) = z * (3 * x * y) := by grind
      have s2 : z + w = 3 * x * y := Int.eq_of_mul_eq_mul_left (by omega) s
      rw [k, hw, s2]
      grind
    have g : 3 * 1 * (y * y) ≤ 3 * x * (y * y) := Int.mul_le_mul_of_nonneg_right (by omega) (by omega)
    have g2 : x * x ≤ y * y := Int.mul_le_mul xy xy (by omega) (by omega)
    omega
  have s : z * (z + w) = z * (3 * x * y) := by grind
  have s2 : z + w = 3 * x * y := Int.eq_of_mul_eq_mul_left (by omega) s
  have ny : y < z := by
    rcases Int.lt_or_eq_of_le yz with c | c
    · exact c
    · exfalso
      subst c
      have g : x * x + 2 * (y * y) = 3 * x * (y * y) := by grind
      have g1 : x * x ≤ x * y := Int.mul_le_mul_of_nonneg_left xy (by omega)
      have g2 : x * x ≤ y * y := Int.mul_le_mul xy xy (by omega) (by omega)
      by_cases c1 : x = 1
      · subst c1
        have : y * y = 1 := by omega
        have : 2 * 2 ≤ y * y := Int.mul_le_mul (by omega) (by omega) (by omega) (by omega)
        omega
      · have : 3 * 2 * (y * y) ≤ 3 * x * (y * y) := Int.mul_le_mul_of_nonneg_right (by omega) (by omega)
        omega
  have wy : w ≤ y := by
    rcases Int.lt_or_le y w with c | c
    · have : 0 < (z - y) * (w - y) := Int.mul_pos (by omega) (by omega)
      omega
    · exact c
  refine ⟨by omega, wy, ?_, e2⟩
  have g : 3 * 1 * y ≤ 3 * x * y := Int.mul_le_mul_of_nonneg_right (by omega) (by omega)
  omega
/-- the next three -/
def nxD (t : Int × Int × Int) : Int × Int × Int := if 3 * t.1 * t.2.1 - t.2.2 ≤ t.1 then (3 * t.1 * t.2.1 - t.2.2, t.1, t.2.1) else (t.1, 3 * t.1 * t.2.1 - t.2.2, t.2.1)
def TQ (t : Int × Int × Int) : Prop := TrQ t.1 t.2.1 t.2.2
theorem TQ.down {t : Int × Int × Int} (T : TQ t) (h : 1 < t.2.2) : TQ (nxD t) ∧ 2 * (nxD t).2.2 ≤ t.2.2 := by
  obtain ⟨x, y, z⟩ := t
  obtain ⟨w1, wy, hy, e⟩ := TrQ.down T h
  have x1 : 1 ≤ x := T.x1
  have xy : x ≤ y := T.xy
  unfold nxD TQ
  dsimp only at *
  split
  · exact ⟨⟨w1, by assumption, xy, by dsimp only; grind⟩, hy⟩
  · exact ⟨⟨x1, by dsimp only; omega, wy, by dsimp only; grind⟩, hy⟩
def itN : Nat → Int × Int × Int → Int × Int × Int
  | 0, t => t
  | n + 1, t => nxD (itN n t)
def Stop (t : Int × Int × Int) (n : Nat) : Prop := (∀ j, j < n → 1 < (itN j t).2.2) ∧ (itN n t).2.2 ≤ 1
theorem Stop.uniq {t : Int × Int × Int} {n m : Nat} (h : Stop t n) (g : Stop t m) : n = m := by
  rcases Nat.lt_trichotomy n m with c | c | c
  · have := g.1 n c; have := h.2; omega
  · exact c
  · have := h.1 m c; have := g.2; omega
theorem itN_tq {t : Int × Int × Int} (T : TQ t) : ∀ n : Nat, (∀ j, j < n → 1 < (itN j t).2.2) → TQ (itN n t) ∧ 2 ^ n * (itN n t).2.2 ≤ t.2.2 ∧ (itN n t).2.2 ≤ t.2.2
  | 0, _ => ⟨T, by show 1 * t.2.2 ≤ t.2.2; omega, Int.le_refl _⟩
  | n + 1, h => by
    obtain ⟨i1, i2, i3⟩ := itN_tq T n fun j hj => h j (by omega)
    obtain ⟨k1, k2⟩ := TQ.down i1 (h n (by omega))
    have p : (0 : Int) ≤ 2 ^ n := Int.pow_nonneg (by decide)
    refine ⟨k1, ?_, ?_⟩
    · show 2 ^ (n + 1) * (nxD (itN n t)).2.2 ≤ t.2.2
      have e : (2 : Int) ^ (n + 1) * (nxD (itN n t)).2.2 = 2 ^ n * (2 * (nxD (itN n t)).2.2) := by rw [Int.pow_succ]; grind
      rw [e]
      exact Int.le_trans (Int.mul_le_mul_of_nonneg_left k2 p) i2
    · show (nxD (itN n t)).2.2 ≤ t.2.2
      have := k1.x1; have := k1.xy; have := k1.yz
      omega
theorem itN_few {t : Int × Int × Int} (T : TQ t) (hz : t.2.2 < 2 ^ 2200) {n : Nat} (h : ∀ j, j < n → 1 < (itN j t).2.2) : n < 2200 := by
  obtain ⟨i1, i2, i3⟩ := itN_tq T n h
  rcases Nat.lt_or_ge n 2200 with c | c
  · exact c
  · exfalso
    have p : (2 : Int) ^ 2200 ≤ 2 ^ n := by exact_mod_cast Nat.pow_le_pow_right (by decide : 0 < 2) c
    have z1 : 1 ≤ (itN n t).2.2 := by have := i1.x1; have := i1.xy; have := i1.yz; omega
    have p0 : (0 : Int) ≤ 2 ^ n := Int.pow_nonneg (by decide)
    have : 2 ^ n * 1 ≤ 2 ^ n * (itN n t).2.2 := Int.mul_le_mul_of_nonneg_left z1 p0
    omega
def trD (t : Int × Int × Int) : D := .tup [.int t.1, .int t.2.1, .int t.2.2]
def lsD (n : Nat) (t : Int × Int × Int) : List D := (List.range (n + 1)).map fun i => trD (itN i t)
theorem lsD_succ (n : Nat) (t : Int × Int × Int) : lsD (n + 1) t = lsD n t ++ [trD (itN (n + 1) t)] := by
  unfold lsD
  rw [List.range_succ, List.map_append]
  rfl
theorem lsD_len (n : Nat) (t : Int × Int × Int) : (lsD n t).length = n + 1 := by unfold lsD; rw [List.length_map, List.length_range]
theorem atI_last {l : List D} {x : D} : atI (l ++ [x]) (-1) = some x := by
  unfold atI ixN
  rw [if_neg (by decide), List.length_append, List.length_singleton, if_pos (by omega)]
  have e : ((-1 : Int) + ((l.length + 1 : Nat) : Int)).toNat = l.length := by omega
  show (l ++ [x])[((-1 : Int) + ((l.length + 1 : Nat) : Int)).toNat]? = some x
  rw [e]
  simp
theorem lsD_last (n : Nat) (t : Int × Int × Int) : atI (lsD n t) (-1) = some (trD (itN n t)) := by
  cases n with
  | zero => exact atI_last (l := []) (x := trD t)
  | succ n => rw [lsD_succ]; exact atI_last
theorem trD_ok (t : Int × Int × Int) : okD_ 1 (trD t) = true := okD_ints [t.1, t.2.1, t.2.2]
theorem x_ne_ones {t : Int × Int × Int} {S : Sd} {Q : DK} (T : TQ t) : rdNe (trD t) k_ONES S Q = Q (.bl (decide (1 < t.2.2))) S := by
  have e : (!deq (trD t) k_ONES) = decide (1 < t.2.2) := by
    have h : deq (trD t) k_ONES = ((t.1 == 1) && ((t.2.1 == 1) && ((t.2.2 == 1) && true))) := rfl
    rw [h]
    by_cases c : 1 < t.2.2
    · rw [decide_eq_true c, show (t.2.2 == 1) = false from beq_false_of_ne (by omega)]
      simp
    · obtain ⟨h1, h2, h3⟩ := TrQ.ones T (by omega)
      rw [decide_eq_false c, h1, h2, h3]
      rfl
  show ((eqOk (trD t) = true ∧ eqOk k_ONES = true) ∧ Q (.bl (!deq (trD t) k_ONES)) S) = _
  rw [e, okD_eqOk (trD_ok t) (by decide), show eqOk k_ONES = true from okD_eqOk (okD_ints [1, 1, 1]) (by decide)]
  simp
def ex (p : Int) (t : Int × Int × Int) : List Int :=
  if p = 0 then [t.2.1, t.2.2, 3 * t.2.1 * t.2.2 - t.1] else if p = 1 then [t.1, t.2.2, 3 * t.1 * t.2.2 - t.2.1] else [t.1, t.2.1, 3 * t.1 * t.2.1 - t.2.2]

theorem itN_shift (t : Int × Int × Int) : ∀ n : Nat, itN (n + 1) t = itN n (nxD t)
  | 0 => rfl
  | n + 1 => by show nxD (itN (n + 1) t) = nxD (itN n (nxD t)); rw [itN_shift t n]
theorem Stop.cons {t : Int × Int × Int} {n : Nat} (h1 : 1 < t.2.2) (h : Stop (nxD t) n) : Stop t (n + 1) := ⟨fun j hj => by
  cases j with
  | zero => exact h1
  | succ j => rw [itN_shift]; exact h.1 j (by omega), by rw [itN_shift]; exact h.2⟩
def upT (v : List Nat) : Int × Int × Int := stT (upB (thL v)) (thL v)
theorem upT_nx (v : List Nat) {c : Nat} (hc : c = 108 ∨ c = 114) : nxD (upT (v ++ [c])) = upT v := by
  unfold upT
  rw [thL_snoc]
  have h := mkS_of v
  generalize thL v = t at *
  obtain ⟨u, v, w⟩ := t
  have uw := h.uw
  have vw := h.vw
  dsimp only at uw vw
  rcases hc with rfl | rfl
  · have e : thS (u, v, w) 108 = (u, w, 3 * u * w - v) := rfl
    have e2 : 3 * u * w - (3 * u * w - v) = v := by omega
    rw [e]
    unfold upB
    dsimp only
    rw [decide_eq_false (by omega)]
    show nxD (u, w, 3 * u * w - v) = _
    unfold nxD
    dsimp only
    rw [e2]
    by_cases c : v < u
    · rw [if_pos (by omega), decide_eq_true c]; rfl
    · rw [decide_eq_false c]
      by_cases c2 : v ≤ u
      · have : v = u := by omega
        subst this
        rw [if_pos (by omega)]; rfl
      · rw [if_neg c2]; rfl
  · have e : thS (u, v, w) 114 = (w, v, 3 * w * v - u) := rfl
    have e2 : 3 * v * w - (3 * w * v - u) = u := by grind
    rw [e]
    unfold upB
    dsimp only
    rw [decide_eq_true (by omega)]
    show nxD (v, w, 3 * w * v - u) = _
    unfold nxD
    dsimp only
    rw [e2]
    by_cases c : v < u
    · rw [if_neg (by omega), decide_eq_true c]; rfl
    · rw [decide_eq_false c]
      rw [if_pos (by omega)]; rfl
theorem upT_tq (v : List Nat) : TQ (upT v) := by
  have h := up_tri v
  have h2 := of_decide_eq_true (show decide (1 ≤ (upT v).1 ∧ (upT v).1 ≤ (upT v).2.1 ∧ (upT v).2.1 ≤ (upT v).2.2 ∧ (upT v).1 * (upT v).1 + (upT v).2.1 * (upT v).2.1 + (upT v).2.2 * (upT v).2.2 = 3 * (upT v).1 * (upT v).2.1 * (upT v).2.2) = true from h)
  exact ⟨h2.1, h2.2.1, h2.2.2.1, h2.2.2.2⟩
/-! ### a comprehension whose calls want the store to stand -/
/-- any target -/
theorem lcL_pureG {g : TGD} {te : TED} {p : Addr} {σw : Si} {S : Sd} (f : D → D) : ∀ (xs acc : List D) (Q : List D → Sd → Prop), (∀ x ∈ xs, ∀ S' (Q' : DK), Q' (f x) S' → g x σw S' fun σ2 S2 => te σ2 S2 Q') → acc.length + xs.length ≤ 16777216 →
    Q (acc ++ xs.map f) (upS S p (.lst (acc ++ xs.map f))) → dLcL g dYes te p σw xs acc (upS S p (.lst acc)) Q
  | [], acc, Q, _, _, q => by
    rw [List.map_nil, List.append_nil] at q
    exact q
  | x :: r, acc, Q, h, hl, q => by
    rw [List.length_cons] at hl
    refine h x List.mem_cons_self _ (fun y S4 => S4 p = some (.lst acc) ∧ acc.length < 16777216 ∧ dLcL g dYes te p σw r (acc ++ [y]) (upS S4 p (.lst (acc ++ [y]))) Q) ⟨upS_same, by omega, ?_⟩
    rw [upS_upS]
    refine lcL_pureG f r (acc ++ [f x]) Q (fun y hy => h y (List.mem_cons_of_mem _ hy)) (by rw [List.length_append, List.length_singleton]; omega) ?_
    rw [List.append_assoc]
    exact q
theorem comp_pureG {ti : TID} {g : TGD} {te : TED} {vs : List Nat} {σ : Si} {S : Sd} {Q : DK} (f : D → D) (xs : List D) (S1 : Sd) (hti : ∀ R : List D → Sd → Prop, R xs S1 → ti σ S R) (h : ∀ x ∈ xs, ∀ S' (Q' : DK), Q' (f x) S' → g x (wipeD σ vs) S' fun σ2 S2 => te σ2 S2 Q') (hl : xs.length ≤ 16777216)
    (q : Q (.lst (xs.map f)) S1) : dComp ti g dYes te vs σ S Q := hti _ fun p hp => by
  refine lcL_pureG f xs [] _ h (by simpa using hl) ⟨upS_same, ?_⟩
  rw [del_upS hp]
  exact q
/-! ### what stands behind two statements -/
/-! ### tame data: small whole numbers, texts, and what holds them; it may be shown and held against other things -/
theorem chr_lt (c : Char) : c.toNat < 1114112 := by
  have h := c.valid
  have h' : c.toNat < 55296 ∨ (57343 < c.toNat ∧ c.toNat < 1114112) := h
  omega
theorem strOk_ofS (s : String) : PyData.strOk (Str.ofString s) = true := strOk_iff.mpr fun c hc => by
  rw [Str.ofString_eq_toList] at hc
  obtain ⟨d, _, rfl⟩ := List.mem_map.mp (show c ∈ s.toList.map Char.toNat by simpa using hc)
  exact chr_lt d
theorem reprChar_lt {q c : Nat} (hc : c < 1114112) : ∀ d ∈ PySem.Builtin.Str.reprChar q c, d < 1114112 := by
  intro d hd
  have hex : ∀ w, d ∈ (List.replicate (w - ((Nat.toDigits 16 c).map Char.toNat).length) 48 ++ (Nat.toDigits 16 c).map Char.toNat) → d < 1114112 := fun w h => by
    rcases List.mem_append.mp h with h | h
    · rw [(List.mem_replicate.mp h).2]; decide
    · obtain ⟨e, _, rfl⟩ := List.mem_map.mp h
      exact chr_lt e
  unfold PySem.Builtin.Str.reprChar at hd
  dsimp only at hd
  have two : ∀ {a b : Nat} {l : List Nat}, a < 1114112 → b < 1114112 → d ∈ [a, b] ++ l → d < 1114112 ∨ d ∈ l := fun {a b l} ha hb h => by
    rcases List.mem_append.mp h with h | h
    · simp only [List.mem_cons, List.not_mem_nil, or_false] at h
      rcases h with rfl | rfl
      · exact .inl ha
      · exact .inl hb
    · exact .inr h
  have pair : ∀ {a b : Nat}, a < 1114112 → b < 1114112 → d ∈ [a, b] → d < 1114112 := fun {a b} ha hb h => by
    simp only [List.mem_cons, List.not_mem_nil, or_false] at h
    rcases h with rfl | rfl <;> assumption
  split at hd
  · exact pair (by decide) hc hd
  split at hd
  · exact pair (by decide) (by decide) hd
  split at hd
  · exact pair (by decide) (by decide) hd
  split at hd
  · exact pair (by decide) (by decide) hd
  split at hd
  · rw [List.mem_singleton.mp hd]; exact hc
  split at hd
  · rcases two (by decide) (by decide) hd with h | h
    · exact h
    · exact hex 2 h
  split at hd
  · rcases two (by decide) (by decide) hd with h | h
    · exact h
    · exact hex 4 h
  · rcases two (by decide) (by decide) hd with h | h
    · exact h
    · exact hex 8 h
theorem strOk_repr {z : Str} (h : PyData.strOk z = true) : PyData.strOk (reprText z) = true := strOk_iff.mpr fun c hc => by
  unfold reprText at hc
  have hq := quote_cases z
  generalize reprQuote z = q at hc hq
  rw [Array.toList_push, ← Array.foldl_toList] at hc
  have hl : ∀ (m : List Nat) (acc : Array Nat), (∀ d ∈ acc.toList, d < 1114112) → (∀ c ∈ m, c < 1114112) → ∀ d ∈ (m.foldl (fun out c => out ++ (PySem.Builtin.Str.reprChar q c).toArray) acc).toList, d < 1114112 := fun m => by
    induction m with
    | nil => intro acc ha _ d hd; exact ha d hd
    | cons c r ih =>
      intro acc ha hm d hd
      refine ih (acc ++ (PySem.Builtin.Str.reprChar q c).toArray) (fun e he => ?_) (fun x hx => hm x (List.mem_cons_of_mem _ hx)) d hd
      rw [Array.toList_append] at he
      rcases List.mem_append.mp he with he | he
      · exact ha e he
      · exact reprChar_lt (hm c List.mem_cons_self) e (by simpa using he)
  rcases List.mem_append.mp hc with hc | hc
  · exact hl z.cps.toList #[q] (fun d hd => by simp at hd; omega) (strOk_iff.mp h) c hc
  · rw [List.mem_singleton.mp hc]; omega
mutual
def tmD (n : Nat) : D → Bool
  | .int i => decide (i.natAbs < 2 ^ n)
  | .str z => decide (z.length ≤ 100000) && PyData.strOk z
  | .non => true | .bl _ => true
  | .tup ds => tmL n ds
  | .lst ds => tmL n ds
  | _ => false
def tmL (n : Nat) : List D → Bool
  | [] => true
  | d :: ds => tmD n d && tmL n ds
end
theorem tmL_iff {n : Nat} : ∀ {ds : List D}, tmL n ds = true ↔ ∀ d ∈ ds, tmD n d = true
  | [] => by simp [tmL]
  | d :: ds => by
    have ih := tmL_iff (n := n) (ds := ds)
    simp only [tmL, Bool.and_eq_true, List.mem_cons, ih]
    constructor
    · rintro ⟨h1, h2⟩ x (rfl | h)
      · exact h1
      · exact h2 x h
    · exact fun h => ⟨h d (.inl rfl), fun x hx => h x (.inr hx)⟩
mutual
theorem tm_ind {n : Nat} {P : D → Prop} (hi : ∀ i : Int, i.natAbs < 2 ^ n → P (.int i)) (hs : ∀ z : Str, z.length ≤ 100000 → PyData.strOk z = true → P (.str z)) (hn : P .non) (hb : ∀ b, P (.bl b)) (ht : ∀ ds, tmL n ds = true → (∀ d ∈ ds, P d) → P (.tup ds)) (hl : ∀ ds, tmL n ds = true → (∀ d ∈ ds, P d) → P (.lst ds)) : ∀ d, tmD n d = true → P d
  | .int i, h => hi i (of_decide_eq_true h)
  | .str z, h => by
    have h' := Bool.and_eq_true_iff.mp (show (decide (z.length ≤ 100000) && PyData.strOk z) = true from h)
    exact hs z (of_decide_eq_true h'.1) h'.2
  | .non, _ => hn
  | .bl b, _ => hb b
  | .tup ds, h => ht ds h (tm_indL hi hs hn hb ht hl ds h)
  | .lst ds, h => hl ds h (tm_indL hi hs hn hb ht hl ds h)
  | .tupX _, h => absurd (show false = true from h) Bool.false_ne_true
  | .inst _ _ _, h => absurd (show false = true from h) Bool.false_ne_true
  | .obj _, h => absurd (show false = true from h) Bool.false_ne_true
  | .ty _, h => absurd (show false = true from h) Bool.false_ne_true
  | .exc _ _ _ _, h => absurd (show false = true from h) Bool.false_ne_true
  | .fn _, h => absurd (show false = true from h) Bool.false_ne_true
  | .hob _, h => absurd (show false = true from h) Bool.false_ne_true
  | .dct _ _, h => absurd (show false = true from h) Bool.false_ne_true
theorem tm_indL {n : Nat} {P : D → Prop} (hi : ∀ i : Int, i.natAbs < 2 ^ n → P (.int i)) (hs : ∀ z : Str, z.length ≤ 100000 → PyData.strOk z = true → P (.str z)) (hn : P .non) (hb : ∀ b, P (.bl b)) (ht : ∀ ds, tmL n ds = true → (∀ d ∈ ds, P d) → P (.tup ds)) (hl : ∀ ds, tmL n ds = true → (∀ d ∈ ds, P d) → P (.lst ds)) : ∀ ds, tmL n ds = true → ∀ d ∈ ds, P d
  | [], _ => fun _ h => nomatch h
  | d :: ds, h => by
    have h' := Bool.and_eq_true_iff.mp (show (tmD n d && tmL n ds) = true from h)
    exact List.forall_mem_cons.mpr ⟨tm_ind hi hs hn hb ht hl d h'.1, tm_indL hi hs hn hb ht hl ds h'.2⟩
end
theorem tm_sm {n : Nat} {d : D} (h : tmD n d = true) : sm n d = true := tm_ind (P := fun d => sm n d = true) (fun i h => sm_int.mpr h) (fun z h _ => sm_str.mpr h) rfl (fun _ => rfl) (fun ds _ h => smT.mpr h) (fun ds _ h => smLs.mpr h) d h
theorem shOkL_iff : ∀ {ds : List D}, (∀ d ∈ ds, shOk d = true) → shOkL ds = true
  | [], _ => rfl
  | d :: ds, h => by
    show (shOk d && shOkL ds) = true
    rw [h d (.head _), shOkL_iff fun x hx => h x (.tail _ hx)]; rfl
theorem tm_shOk {n : Nat} {d : D} (hn : n ≤ 1900) (h : tmD n d = true) : shOk d = true := tm_ind (P := fun d => shOk d = true) (fun i h => decide_eq_true (Nat.lt_of_lt_of_le (log2_lt (n := 1900) (Nat.lt_of_lt_of_le h (Nat.pow_le_pow_right (by decide) hn)) (by decide)) (by decide))) (fun z _ h => h) rfl (fun _ => rfl) (fun ds _ h => shOkL_iff h) (fun ds _ h => shOkL_iff h) d h
theorem layL : ∀ {ds : List D}, (∀ d ∈ ds, isData d = true ∧ (pd d).canLay0 = true) → isDataL ds = true ∧ PyData.canLayAll0 (pdL ds) = true
  | [], _ => ⟨rfl, rfl⟩
  | d :: ds, h => by
    have ih := layL (ds := ds) fun x hx => h x (.tail _ hx)
    have h1 := h d (.head _)
    exact ⟨by show (isData d && isDataL ds) = true; rw [h1.1, ih.1]; rfl, by show ((pd d).canLay0 && PyData.canLayAll0 (pdL ds)) = true; rw [h1.2, ih.2]; rfl⟩
theorem tm_lay {n : Nat} {d : D} (h : tmD n d = true) : isData d = true ∧ (pd d).canLay0 = true := tm_ind (P := fun d => isData d = true ∧ (pd d).canLay0 = true) (fun i h => ⟨rfl, rfl⟩) (fun z _ h => ⟨rfl, h⟩) ⟨rfl, rfl⟩ (fun _ => ⟨rfl, rfl⟩) (fun ds _ h => layL h) (fun ds _ h => layL h) d h
theorem shownAll_map : ∀ ds : List D, PyData.shownAll (pdL ds) = ds.map shownD
  | [] => rfl
  | d :: ds => by
    show (pd d).shown :: PyData.shownAll (pdL ds) = _
    rw [shownAll_map ds]; rfl
theorem strOk_join : ∀ ts : List Str, (∀ t ∈ ts, PyData.strOk t = true) → PyData.strOk (Str.join ", " ts) = true
  | [], _ => by decide +kernel
  | [x], h => h x (.head _)
  | x :: y :: r, h => strOk_app (strOk_app (h x (.head _)) (by decide +kernel)) (strOk_join (y :: r) fun t ht => h t (.tail _ ht))
theorem strOk_from : ∀ (ts : List Str) (k : Nat) (acc : Str), PyData.strOk acc = true → (∀ t ∈ ts, PyData.strOk t = true) → PyData.strOk (textFrom k acc ts) = true
  | [], _, _, h, _ => h
  | t :: r, k, acc, h, ht => strOk_from r (k + 1) _ (strOk_app (strOk_app h (by split <;> decide +kernel)) (ht t (.head _))) fun x hx => ht x (.tail _ hx)
theorem tm_shown {n : Nat} {d : D} (h : tmD n d = true) : PyData.strOk (shownD d) = true := tm_ind (P := fun d => PyData.strOk (shownD d) = true) (fun i _ => strOk_ofS _) (fun z _ h => strOk_repr h) (by decide +kernel) (fun b => by cases b <;> decide +kernel)
  (fun ds _ h => by
    show PyData.strOk (tupleText (PyData.shownAll (pdL ds))) = true
    rw [shownAll_map]
    unfold tupleText
    refine strOk_app (strOk_app (by decide +kernel) (strOk_join _ fun t ht => ?_)) (by split <;> decide +kernel)
    obtain ⟨d, hd, rfl⟩ := List.mem_map.mp ht
    exact h d hd)
  (fun ds _ h => by
    show PyData.strOk (listText (PyData.shownAll (pdL ds))) = true
    rw [shownAll_map]
    unfold listText
    refine strOk_app (strOk_from _ _ _ (by decide +kernel) fun t ht => ?_) (by decide +kernel)
    obtain ⟨d, hd, rfl⟩ := List.mem_map.mp ht
    exact h d hd) d h
/-- tame, so many deep, so long when it is shown -/
structure Tm (n k B : Nat) (d : D) : Prop where
  t : tmD n d = true
  dp : (pd d).depth ≤ k
  sh : shL d ≤ B
theorem Tm.eqOk {n k B : Nat} {d : D} (h : Tm n k B d) (hk : k ≤ 60) : eqOk d = true := by
  have l := tm_lay h.t
  show (isData d && ((pd d).canLay0 && decide ((pd d).depth ≤ 64))) = true
  have := h.dp
  rw [l.1, l.2, decide_eq_true (by omega)]
  rfl
theorem Tm.shD {n k B : Nat} {d : D} (h : Tm n k B d) (hn : n ≤ 1900) (hk : k ≤ 60) (hB : B ≤ 16777216) : shD d := ⟨tm_shOk hn h.t, Nat.le_trans h.sh hB, Nat.le_trans h.dp hk⟩

/-! ### depth and length of what holds others -/
theorem dpL_mem : ∀ {ds : List D} {d : D}, d ∈ ds → (pd d).depth ≤ PyData.depthAll (pdL ds)
  | x :: r, d, h => by
    show _ ≤ max (pd x).depth (PyData.depthAll (pdL r))
    rcases List.mem_cons.mp h with rfl | h
    · omega
    · have := dpL_mem h; omega
theorem dpL_le : ∀ {ds : List D} {k : Nat}, (∀ d ∈ ds, (pd d).depth ≤ k) → PyData.depthAll (pdL ds) ≤ k
  | [], _, _ => Nat.zero_le _
  | x :: r, k, h => by
    show max (pd x).depth (PyData.depthAll (pdL r)) ≤ k
    have := h x (.head _)
    have := dpL_le (ds := r) fun d hd => h d (.tail _ hd)
    omega
theorem dp_tup (ds : List D) : (pd (.tup ds)).depth = PyData.depthAll (pdL ds) + 1 := rfl
theorem dp_lst (ds : List D) : (pd (.lst ds)).depth = PyData.depthAll (pdL ds) + 1 := rfl
theorem sh_pos (d : D) : 2 ≤ shL d := by
  cases d <;> simp only [shL] <;> omega
theorem shLL_mem : ∀ {ds : List D} {d : D}, d ∈ ds → shL d + 2 ≤ shLL ds
  | x :: r, d, h => by
    show _ ≤ shL x + 2 + shLL r
    rcases List.mem_cons.mp h with rfl | h
    · omega
    · have := shLL_mem h; omega
theorem shLL_len : ∀ ds : List D, 4 * ds.length ≤ shLL ds
  | [] => Nat.zero_le _
  | x :: r => by
    have := shLL_len r
    have := sh_pos x
    show 4 * (r.length + 1) ≤ shL x + 2 + shLL r
    omega
theorem shLL_app : ∀ (xs ys : List D), shLL (xs ++ ys) = shLL xs + shLL ys
  | [], ys => by show shLL ys = 0 + shLL ys; omega
  | x :: r, ys => by
    have := shLL_app r ys
    show shL x + 2 + shLL (r ++ ys) = shL x + 2 + shLL r + shLL ys
    omega
theorem shLL_cut (xs : List D) (k : Nat) : shLL (xs.take k) + shLL (xs.drop k) = shLL xs := by rw [← shLL_app, List.take_append_drop]
theorem shLL_set : ∀ (xs : List D) (k : Nat) (e e' : D), xs[k]? = some e → shLL (xs.set k e') + shL e = shLL xs + shL e'
  | x :: r, 0, e, e', h => by
    obtain rfl := Option.some.inj (show some x = some e from h)
    show shL e' + 2 + shLL r + shL x = shL x + 2 + shLL r + shL e'
    omega
  | x :: r, k + 1, e, e', h => by
    have := shLL_set r k e e' (by simpa using h)
    show shL x + 2 + shLL (r.set k e') + shL e = shL x + 2 + shLL r + shL e'
    omega
theorem Tm.elT {n k B : Nat} {ds : List D} (h : Tm n k B (.tup ds)) {d : D} (hd : d ∈ ds) : Tm n k B d ∧ (pd d).depth < (pd (.tup ds)).depth := by
  have h1 := dpL_mem hd
  have h2 := h.dp
  have h3 := shLL_mem hd
  have h4 : shLL ds + 3 ≤ B := h.sh
  rw [dp_tup] at h2 ⊢
  exact ⟨⟨tmL_iff.mp h.t d hd, by omega, by omega⟩, by omega⟩
theorem Tm.elL {n k B : Nat} {ds : List D} (h : Tm n k B (.lst ds)) {d : D} (hd : d ∈ ds) : Tm n k B d ∧ (pd d).depth < (pd (.lst ds)).depth := by
  have h1 := dpL_mem hd
  have h2 := h.dp
  have h3 := shLL_mem hd
  have h4 : shLL ds + 2 ≤ B := h.sh
  rw [dp_lst] at h2 ⊢
  exact ⟨⟨tmL_iff.mp h.t d hd, by omega, by omega⟩, by omega⟩
theorem Tm.lenT {n k B : Nat} {ds : List D} (h : Tm n k B (.tup ds)) : 4 * ds.length ≤ B := by
  have := shLL_len ds
  have : shLL ds + 3 ≤ B := h.sh
  omega
theorem Tm.lenL {n k B : Nat} {ds : List D} (h : Tm n k B (.lst ds)) : 4 * ds.length ≤ B := by
  have := shLL_len ds
  have : shLL ds + 2 ≤ B := h.sh
  omega
theorem tm_str {n : Nat} {z : Str} : tmD n (.str z) = true ↔ z.length ≤ 100000 ∧ PyData.strOk z = true := by
  show (decide (z.length ≤ 100000) && PyData.strOk z) = true ↔ _
  rw [Bool.and_eq_true, decide_eq_true_eq]
theorem tm_strL {n : Nat} {l : List Nat} : tmD n (.str (ofL l)) = true ↔ l.length ≤ 100000 ∧ ∀ c ∈ l, c < 1114112 := by
  rw [tm_str, ofL_len, strOk_iff]
  exact Iff.rfl
theorem tm_int {n : Nat} {i : Int} : tmD n (.int i) = true ↔ i.natAbs < 2 ^ n := by
  show decide _ = true ↔ _
  rw [decide_eq_true_eq]
theorem tmT_iff {n : Nat} {ds : List D} : tmD n (.tup ds) = true ↔ ∀ d ∈ ds, tmD n d = true := tmL_iff
theorem tmLs_iff {n : Nat} {ds : List D} : tmD n (.lst ds) = true ↔ ∀ d ∈ ds, tmD n d = true := tmL_iff
theorem tm_mono {n m : Nat} (hm : n ≤ m) {d : D} (h : tmD n d = true) : tmD m d = true := tm_ind (P := fun d => tmD m d = true) (fun i h => tm_int.mpr (Nat.lt_of_lt_of_le h (Nat.pow_le_pow_right (by decide) hm))) (fun z h1 h2 => tm_str.mpr ⟨h1, h2⟩) rfl (fun _ => rfl) (fun ds _ h => tmT_iff.mpr h) (fun ds _ h => tmLs_iff.mpr h) d h
theorem str_ofL (z : Str) : ∃ l, z = ofL l := ⟨z.cps.toList, str_ext (by show z.cps.toList = z.cps.toList.toArray.toList; simp)⟩
/-! ### a thing with one part put otherwise -/
def cons10 : List D := [.non, .bl true, .bl false, .int 0, .int 1, .str "", .str "a", .tup [], .lst [], .str "1"]
def cons4 : List D := [.int 1, .str "b", .tup [.tup []], .non]
def whs (i : Int) : List D := [.int (i + 1), .int (i - 1), .int (0 - i), .int (i * 2), .str (toString i), .tup [.int i], .bl (decide (i = 1))]
def seqless : D → Bool
  | .str z => decide (z.length = 0)
  | .tup xs => decide (xs.length = 0)
  | .lst xs => decide (xs.length = 0)
  | _ => true
inductive Bent : D → D → Prop
  | c0 (d x : D) (h : x ∈ cons10) : Bent d x
  | wh (i : Int) (x : D) (h : x ∈ whs i) : Bent (.int i) x
  | no (d x : D) (hd : seqless d = true) (h : x ∈ cons4) : Bent d x
  | cutT (xs : List D) (k : Nat) (hk : k < xs.length) : Bent (.tup xs) (.tup (xs.take k ++ xs.drop (k + 1)))
  | cutL (xs : List D) (k : Nat) (hk : k < xs.length) : Bent (.lst xs) (.lst (xs.take k ++ xs.drop (k + 1)))
  | cutS (l : List Nat) (k : Nat) (hk : k < l.length) : Bent (.str (ofL l)) (.str (ofL (l.take k ++ l.drop (k + 1))))
  | twT (xs : List D) (k : Nat) (hk : k < xs.length) : Bent (.tup xs) (.tup (xs.take (k + 1) ++ xs.drop k))
  | twL (xs : List D) (k : Nat) (hk : k < xs.length) : Bent (.lst xs) (.lst (xs.take (k + 1) ++ xs.drop k))
  | twS (l : List Nat) (k : Nat) (hk : k < l.length) : Bent (.str (ofL l)) (.str (ofL (l.take (k + 1) ++ l.drop k)))
  | sg (l : List Nat) (k c : Nat) (hk : k < l.length) (hc : c ∈ [97, 98, 99, 108, 114]) : Bent (.str (ofL l)) (.str (ofL (l.take k ++ [c] ++ l.drop (k + 1))))
  | flT (xs : List D) : Bent (.tup xs) (.lst xs)
  | flL (xs : List D) : Bent (.lst xs) (.tup xs)
  | inT (xs : List D) (k : Nat) (e e' : D) (hk : xs[k]? = some e) (h : Bent e e') : Bent (.tup xs) (.tup (xs.set k e'))
  | inL (xs : List D) (k : Nat) (e e' : D) (hk : xs[k]? = some e) (h : Bent e e') : Bent (.lst xs) (.lst (xs.set k e'))
theorem mem_cutk {α : Type} {xs : List α} {a b : Nat} {x : α} (h : x ∈ xs.take a ++ xs.drop b) : x ∈ xs := by
  rcases List.mem_append.mp h with h | h
  · exact List.mem_of_mem_take h
  · exact List.mem_of_mem_drop h
theorem shLL_cuts (xs : List D) (a b : Nat) : shLL (xs.take a ++ xs.drop b) ≤ 2 * shLL xs := by
  rw [shLL_app]
  have := shLL_cut xs a
  have := shLL_cut xs b
  omega
/-- what a bent thing is like -/
theorem Bent.tm {n : Nat} (hn : n ≤ 1800) (n1 : 1 ≤ n) {d d' : D} (h : Bent d d') : tmD n d = true → shL d ≤ 900000 → tmD (n + 1) d' = true ∧ (pd d').depth ≤ (pd d).depth + 2 ∧ shL d' ≤ 2 * shL d + 20000 := by
  have p2 : 2 ≤ 2 ^ n := Nat.le_trans (by decide) (Nat.pow_le_pow_right (n := 2) (by decide) n1)
  have ps : (2 : Nat) ^ (n + 1) = 2 * 2 ^ n := by rw [Nat.pow_succ]; omega
  have c10 : ∀ x ∈ cons10, tmD 1 x = true ∧ (pd x).depth ≤ 2 ∧ shL x ≤ 20000 := by decide +kernel
  have c4 : ∀ x ∈ cons4, tmD 1 x = true ∧ (pd x).depth ≤ 2 ∧ shL x ≤ 20000 := by decide +kernel
  induction h with
  | c0 d x h =>
    intro _ _
    obtain ⟨h1, h2, h3⟩ := c10 x h
    exact ⟨tm_mono (by omega) h1, by omega, by omega⟩
  | no d x hd h =>
    intro _ _
    obtain ⟨h1, h2, h3⟩ := c4 x h
    exact ⟨tm_mono (by omega) h1, by omega, by omega⟩
  | wh i x h =>
    intro ht _
    have hi := tm_int.mp ht
    have tl : (toString i : String) = toString i := rfl
    have l1 : i.natAbs.log2 < 1920 := Nat.lt_of_lt_of_le (log2_lt (n := 1800) (Nat.lt_of_lt_of_le hi (Nat.pow_le_pow_right (by decide) hn)) (by decide)) (by decide)
    have l2 := PyProof.Rows.int_text_len_1921 l1
    have e0 : shL (.int i) = 1921 := rfl
    have iv : ∀ j : Int, j.natAbs < 2 ^ (n + 1) → tmD (n + 1) (.int j) = true ∧ (pd (.int j)).depth ≤ (pd (.int i)).depth + 2 ∧ shL (.int j) ≤ 2 * shL (.int i) + 20000 := fun j hj => ⟨tm_int.mpr hj, Nat.zero_le _, by rw [e0]; show 1921 ≤ _; omega⟩
    simp only [whs, List.mem_cons, List.not_mem_nil, or_false] at h
    rcases h with rfl | rfl | rfl | rfl | rfl | rfl | rfl
    · exact iv _ (by omega)
    · exact iv _ (by omega)
    · exact iv _ (by omega)
    · exact iv _ (by omega)
    · refine ⟨tm_str.mpr ⟨by omega, strOk_ofS _⟩, Nat.zero_le _, ?_⟩
      rw [e0]
      show 10 * (Str.ofString (toString i)).length + 2 ≤ _
      omega
    · refine ⟨tmT_iff.mpr fun d hd => ?_, by show 1 ≤ 0 + 2; decide, by rw [e0]; show 1921 + 2 + 0 + 3 ≤ _; omega⟩
      rw [List.mem_singleton.mp hd]
      exact tm_int.mpr (by omega)
    · exact ⟨rfl, Nat.zero_le _, by rw [e0]; show 5 ≤ _; omega⟩
  | cutT xs k hk =>
    intro ht _
    refine ⟨tmT_iff.mpr fun d hd => tm_mono (by omega) (tmT_iff.mp ht d (mem_cutk hd)), ?_, ?_⟩
    · have := dpL_le (ds := xs.take k ++ xs.drop (k + 1)) fun d hd => dpL_mem (mem_cutk hd)
      rw [dp_tup, dp_tup]; omega
    · have := shLL_cuts xs k (k + 1)
      show shLL _ + 3 ≤ 2 * (shLL xs + 3) + 20000
      omega
  | twT xs k hk =>
    intro ht _
    refine ⟨tmT_iff.mpr fun d hd => tm_mono (by omega) (tmT_iff.mp ht d (mem_cutk hd)), ?_, ?_⟩
    · have := dpL_le (ds := xs.take (k + 1) ++ xs.drop k) fun d hd => dpL_mem (mem_cutk hd)
      rw [dp_tup, dp_tup]; omega
    · have := shLL_cuts xs (k + 1) k
      show shLL _ + 3 ≤ 2 * (shLL xs + 3) + 20000
      omega
  | cutL xs k hk =>
    intro ht _
    refine ⟨tmLs_iff.mpr fun d hd => tm_mono (by omega) (tmLs_iff.mp ht d (mem_cutk hd)), ?_, ?_⟩
    · have := dpL_le (ds := xs.take k ++ xs.drop (k + 1)) fun d hd => dpL_mem (mem_cutk hd)
      rw [dp_lst, dp_lst]; omega
    · have := shLL_cuts xs k (k + 1)
      show shLL _ + 2 ≤ 2 * (shLL xs + 2) + 20000
      omega
  | twL xs k hk =>
    intro ht _
    refine ⟨tmLs_iff.mpr fun d hd => tm_mono (by omega) (tmLs_iff.mp ht d (mem_cutk hd)), ?_, ?_⟩
    · have := dpL_le (ds := xs.take (k + 1) ++ xs.drop k) fun d hd => dpL_mem (mem_cutk hd)
      rw [dp_lst, dp_lst]; omega
    · have := shLL_cuts xs (k + 1) k
      show shLL _ + 2 ≤ 2 * (shLL xs + 2) + 20000
      omega
  | cutS l k hk =>
    intro ht _
    obtain ⟨h1, h2⟩ := tm_strL.mp ht
    have e : (l.take k ++ l.drop (k + 1)).length + 1 = l.length := by rw [List.length_append, List.length_take, List.length_drop]; omega
    refine ⟨tm_strL.mpr ⟨by omega, fun c hc => h2 c (mem_cutk hc)⟩, Nat.zero_le _, ?_⟩
    show 10 * (ofL _).length + 2 ≤ 2 * (10 * (ofL l).length + 2) + 20000
    rw [ofL_len, ofL_len]; omega
  | twS l k hk =>
    intro ht hs
    obtain ⟨h1, h2⟩ := tm_strL.mp ht
    have e : (l.take (k + 1) ++ l.drop k).length = l.length + 1 := by rw [List.length_append, List.length_take, List.length_drop]; omega
    have hs : 10 * (ofL l).length + 2 ≤ 900000 := hs
    rw [ofL_len] at hs
    refine ⟨tm_strL.mpr ⟨by omega, fun c hc => h2 c (mem_cutk hc)⟩, Nat.zero_le _, ?_⟩
    show 10 * (ofL _).length + 2 ≤ 2 * (10 * (ofL l).length + 2) + 20000
    rw [ofL_len, ofL_len]; omega
  | sg l k c hk hc =>
    intro ht _
    obtain ⟨h1, h2⟩ := tm_strL.mp ht
    have e : (l.take k ++ [c] ++ l.drop (k + 1)).length = l.length := by rw [List.length_append, List.length_append, List.length_take, List.length_drop, List.length_singleton]; omega
    have hc' : c < 1114112 := by
      simp only [List.mem_cons, List.not_mem_nil, or_false] at hc
      omega
    refine ⟨tm_strL.mpr ⟨by omega, fun d hd => ?_⟩, Nat.zero_le _, ?_⟩
    · rcases List.mem_append.mp hd with hd | hd
      · rcases List.mem_append.mp hd with hd | hd
        · exact h2 d (List.mem_of_mem_take hd)
        · rw [List.mem_singleton.mp hd]; exact hc'
      · exact h2 d (List.mem_of_mem_drop hd)
    · show 10 * (ofL _).length + 2 ≤ 2 * (10 * (ofL l).length + 2) + 20000
      rw [ofL_len, ofL_len]; omega
  | flT xs =>
    intro ht _
    exact ⟨tmLs_iff.mpr fun d hd => tm_mono (by omega) (tmT_iff.mp ht d hd), by rw [dp_tup, dp_lst]; omega, by show shLL xs + 2 ≤ 2 * (shLL xs + 3) + 20000; omega⟩
  | flL xs =>
    intro ht _
    exact ⟨tmT_iff.mpr fun d hd => tm_mono (by omega) (tmLs_iff.mp ht d hd), by rw [dp_tup, dp_lst]; omega, by show shLL xs + 3 ≤ 2 * (shLL xs + 2) + 20000; omega⟩
  | inT xs k e e' hk h ih =>
    intro ht hs
    have he : e ∈ xs := List.mem_of_getElem? hk
    have h3 := shLL_mem he
    have h4 : shLL xs + 3 ≤ 900000 := hs
    obtain ⟨i1, i2, i3⟩ := ih (tmT_iff.mp ht e he) (by omega)
    have h5 := shLL_set xs k e e' hk
    refine ⟨tmT_iff.mpr fun d hd => ?_, ?_, ?_⟩
    · rcases List.mem_or_eq_of_mem_set hd with hd | rfl
      · exact tm_mono (by omega) (tmT_iff.mp ht d hd)
      · exact i1
    · have := dpL_mem he
      have := dpL_le (ds := xs.set k e') (k := PyData.depthAll (pdL xs) + 2) fun d hd => by
        rcases List.mem_or_eq_of_mem_set hd with hd | rfl
        · have := dpL_mem hd; omega
        · omega
      rw [dp_tup, dp_tup]; omega
    · show shLL _ + 3 ≤ 2 * (shLL xs + 3) + 20000
      omega
  | inL xs k e e' hk h ih =>
    intro ht hs
    have he : e ∈ xs := List.mem_of_getElem? hk
    have h3 := shLL_mem he
    have h4 : shLL xs + 2 ≤ 900000 := hs
    obtain ⟨i1, i2, i3⟩ := ih (tmLs_iff.mp ht e he) (by omega)
    have h5 := shLL_set xs k e e' hk
    refine ⟨tmLs_iff.mpr fun d hd => ?_, ?_, ?_⟩
    · rcases List.mem_or_eq_of_mem_set hd with hd | rfl
      · exact tm_mono (by omega) (tmLs_iff.mp ht d hd)
      · exact i1
    · have := dpL_mem he
      have := dpL_le (ds := xs.set k e') (k := PyData.depthAll (pdL xs) + 2) fun d hd => by
        rcases List.mem_or_eq_of_mem_set hd with hd | rfl
        · have := dpL_mem hd; omega
        · omega
      rw [dp_lst, dp_lst]; omega
    · show shLL _ + 2 ≤ 2 * (shLL xs + 2) + 20000
      omega

def Kept (S S' : Sd) (u : Addr) : Prop := ∀ a o, a ≠ u → S a = some o → S' a = some o
theorem Kept.of {S S' : Sd} {u : Addr} (h : Oth S S' u) : Kept S S' u := fun a o ha e => (h a ha).trans e
theorem Kept.all {S S' : Sd} {u : Addr} (h : ∀ a o, S a = some o → S' a = some o) : Kept S S' u := fun a o _ e => h a o e
theorem Kept.trans {S S1 S2 : Sd} {u : Addr} (h : Kept S S1 u) (k : Kept S1 S2 u) : Kept S S2 u := fun a o ha e => k a o ha (h a o ha e)
theorem Urn.kept {S S' : Sd} {u : Addr} {B : Int} (h : Urn S u B) (k : ∀ a o, S a = some o → S' a = some o) : Urn S' u B := by
  obtain ⟨g, c, n, e, r⟩ := h
  exact ⟨g, c, n, k _ _ e, r⟩

def claimB (z : Str) (n : Int) : D → Bool
  | .tup (.str y :: r) => decide ((r.length : Int) + 1 = n) && decide (y = z)
  | _ => false

/-! ### a triple's row down, told -/
def unD : D → Int × Int × Int
  | .tup [.int x, .int y, .int z] => (x, y, z)
  | _ => (0, 0, 0)
def lsT (n : Nat) (t : Int × Int × Int) : List (Int × Int × Int) := (List.range (n + 1)).map fun i => itN i t
theorem lsT_D (n : Nat) (t : Int × Int × Int) : lsD n t = (lsT n t).map trD := by
  unfold lsD lsT
  rw [List.map_map]; rfl
theorem lsT_cons (n : Nat) (t : Int × Int × Int) : lsT (n + 1) t = t :: lsT n (nxD t) := by
  unfold lsT
  rw [List.range_succ_eq_map, List.map_cons, List.map_map]
  congr 1
  exact List.map_congr_left fun i _ => by show itN (i + 1) t = _; rw [itN_shift]
def stN (t : Int × Int × Int) : Nat := ((List.range 2300).find? fun m => decide ((itN m t).2.2 ≤ 1)).getD 0
theorem stop_stN {t : Int × Int × Int} (T : TQ t) (hz : t.2.2 < 2 ^ 2200) : Stop t (stN t) := by
  unfold stN
  cases e : (List.range 2300).find? fun m => decide ((itN m t).2.2 ≤ 1) with
  | none =>
    have h := List.find?_eq_none.mp e
    have := itN_few T hz (n := 2299) fun j hj => by
      have := h j (List.mem_range.mpr (by omega))
      simp only [decide_eq_true_eq] at this
      omega
    omega
  | some m =>
    obtain ⟨h1, h2, h3⟩ := List.find?_range_eq_some.mp e
    refine ⟨fun j hj => ?_, of_decide_eq_true h1⟩
    have := h3 j hj
    simp only [Bool.not_eq_true', decide_eq_false_iff_not] at this
    show 1 < (itN j t).2.2
    omega
def rowB (t : Int × Int × Int) (ts : List (Int × Int × Int)) : Bool := decide (ts = lsT (stN t) t)
def Row : Int × Int × Int → List (Int × Int × Int) → Prop
  | _, [] => False
  | t, [a] => a = t ∧ t.2.2 ≤ 1
  | t, a :: b :: r => a = t ∧ 1 < t.2.2 ∧ Row (nxD t) (b :: r)
theorem row_ls : ∀ (ts : List (Int × Int × Int)) (t : Int × Int × Int), Row t ts → ∃ m, Stop t m ∧ ts = lsT m t
  | [], _, h => h.elim
  | [a], t, h => by
    obtain ⟨rfl, h2⟩ := h
    exact ⟨0, ⟨fun j hj => absurd hj (by omega), h2⟩, rfl⟩
  | a :: b :: r, t, h => by
    obtain ⟨rfl, h1, h2⟩ := h
    obtain ⟨m, s, e⟩ := row_ls (b :: r) _ h2
    exact ⟨m + 1, .cons h1 s, by rw [lsT_cons, ← e]⟩
theorem ls_row : ∀ (m : Nat) (t : Int × Int × Int), Stop t m → Row t (lsT m t)
  | 0, t, s => ⟨rfl, s.2⟩
  | m + 1, t, s => by
    have s2 : Stop (nxD t) m := ⟨fun j hj => by rw [← itN_shift]; exact s.1 (j + 1) (by omega), by rw [← itN_shift]; exact s.2⟩
    have h := ls_row m _ s2
    rw [lsT_cons]
    cases e : lsT m (nxD t) with
    | nil => rw [e] at h; exact h.elim
    | cons b r => rw [e] at h; exact ⟨rfl, s.1 0 (by omega), h⟩
theorem rowB_iff {t : Int × Int × Int} {ts : List (Int × Int × Int)} (T : TQ t) (hz : t.2.2 < 2 ^ 2200) : rowB t ts = true ↔ Row t ts := by
  unfold rowB
  rw [decide_eq_true_eq]
  have s := stop_stN T hz
  constructor
  · intro e
    rw [e]
    exact ls_row _ _ s
  · intro h
    obtain ⟨m, s2, e⟩ := row_ls ts t h
    rw [e, Stop.uniq s s2]
/-- told by its parts -/
def Chn : List (Int × Int × Int) → Prop
  | a :: b :: r => nxD a = b ∧ Chn (b :: r)
  | _ => True
theorem row_parts : ∀ (ts : List (Int × Int × Int)) (a t : Int × Int × Int), Row t (a :: ts) ↔ a = t ∧ ((a :: ts).getLast (by simp)).2.2 ≤ 1 ∧ (∀ x ∈ (a :: ts).dropLast, 1 < x.2.2) ∧ Chn (a :: ts)
  | [], a, t => by
    constructor
    · rintro ⟨rfl, h⟩
      exact ⟨rfl, h, (fun _ h => nomatch h), True.intro⟩
    · rintro ⟨rfl, h, _, _⟩
      exact ⟨rfl, h⟩
  | b :: r, a, t => by
    have ih := row_parts r b (nxD t)
    constructor
    · rintro ⟨rfl, h1, h2⟩
      obtain ⟨e, i1, i2, i3⟩ := ih.mp h2
      refine ⟨rfl, i1, fun x hx => ?_, e.symm, i3⟩
      rcases List.mem_cons.mp (show x ∈ a :: (b :: r).dropLast from hx) with rfl | hx
      · exact h1
      · exact i2 x hx
    · rintro ⟨rfl, h1, h2, h3, h4⟩
      exact ⟨rfl, h2 a (by show a ∈ a :: (b :: r).dropLast; exact .head _), ih.mpr ⟨h3.symm, h1, fun x hx => h2 x (by show x ∈ a :: (b :: r).dropLast; exact .tail _ hx), h4⟩⟩
theorem isTriD_inv {d : D} (h : isTriD d = true) : ∃ t, d = trD t ∧ TQ t := by
  unfold isTriD at h
  split at h
  · rename_i x y z
    have h2 := of_decide_eq_true h
    exact ⟨(x, y, z), rfl, ⟨h2.1, h2.2.1, h2.2.2.1, h2.2.2.2⟩⟩
  · cases h
theorem tris_inv : ∀ {ps : List D}, ps.all isTriD = true → ∃ ts : List (Int × Int × Int), ps = ts.map trD ∧ ∀ t ∈ ts, TQ t
  | [], _ => ⟨[], rfl, fun _ h => nomatch h⟩
  | d :: ps, h => by
    rw [List.all_cons, Bool.and_eq_true] at h
    obtain ⟨t, rfl, T⟩ := isTriD_inv h.1
    obtain ⟨ts, rfl, Ts⟩ := tris_inv h.2
    exact ⟨t :: ts, rfl, List.forall_mem_cons.mpr ⟨T, Ts⟩⟩
theorem un_map (ts : List (Int × Int × Int)) : (ts.map trD).map unD = ts := by
  rw [List.map_map]
  exact (List.map_congr_left fun t _ => rfl).trans (List.map_id ts)
/-- what is due of a list of triples -/
def tripB (x y z p : D) : Bool := isTriD (.tup [x, y, z]) && (match p with | .lst ps => ps.all isTriD && rowB (unD (.tup [x, y, z])) (ps.map unD) | _ => false)
def evB : D → D → Bool
  | .tup [.str s, x, y, z], p => if s = "triple" then tripB x y z p else false
  | _, _ => false
/-- no claim of another kind -/
def clean (c _p : D) : Prop := match c with
  | .tup (.str z :: r) => (r.length = 1 → z ≠ "even" ∧ z ≠ "uneven" ∧ z ≠ "below" ∧ z ≠ "above") ∧ (r.length = 2 → z ≠ "same") ∧ (r.length = 3 → z ≠ "form below" ∧ z ≠ "form above")
  | _ => True
theorem trD_deq (a b : Int × Int × Int) : deq (trD a) (trD b) = decide (a = b) := by
  have h : deq (trD a) (trD b) = ((a.1 == b.1) && ((a.2.1 == b.2.1) && ((a.2.2 == b.2.2) && true))) := rfl
  rw [h]
  obtain ⟨a1, a2, a3⟩ := a
  obtain ⟨b1, b2, b3⟩ := b
  by_cases e : ((a1, a2, a3) : Int × Int × Int) = (b1, b2, b3)
  · rw [decide_eq_true e]
    obtain ⟨rfl, e2⟩ := Prod.mk.inj e
    obtain ⟨rfl, rfl⟩ := Prod.mk.inj e2
    simp
  · rw [decide_eq_false e]
    simp only [Bool.and_true]
    by_cases h1 : a1 = b1
    · by_cases h2 : a2 = b2
      · by_cases h3 : a3 = b3
        · exact absurd (by rw [h1, h2, h3]) e
        · simp [h3]
      · simp [h2]
    · simp [h1]
theorem deqL_tr : ∀ a b : List (Int × Int × Int), deqL (a.map trD) (b.map trD) = decide (a = b)
  | [], [] => rfl
  | [], _ :: _ => by simp [deqL]
  | _ :: _, [] => by simp [deqL]
  | a :: r, b :: s => by
    show (deq (trD a) (trD b) && deqL (r.map trD) (s.map trD)) = _
    rw [trD_deq, deqL_tr r s]
    by_cases h : a = b
    · by_cases h2 : r = s
      · simp [h, h2]
      · simp [h2]
    · simp [h]
theorem nx_ex2 {t : Int × Int × Int} (T : TQ t) (h : 1 < t.2.2) {ns : List Int} (hp : ns.Perm (ex 2 t)) (hs : ns.Pairwise (· ≤ ·)) : D.tup (ns.map D.int) = trD (nxD t) := by
  obtain ⟨w1, wy, _, _⟩ := TrQ.down T h
  have xy := T.xy
  obtain ⟨x, y, z⟩ := t
  have hp : ns.Perm [x, y, 3 * x * y - z] := hp
  have xy : x ≤ y := xy
  have wy : 3 * x * y - z ≤ y := wy
  have e : ns = [(nxD (x, y, z)).1, (nxD (x, y, z)).2.1, (nxD (x, y, z)).2.2] := by
    unfold nxD
    dsimp only
    split
    · refine (hp.trans ?_).eq_of_pairwise (fun a b _ _ h1 h2 => Int.le_antisymm h1 h2) hs ?_
      · exact (List.Perm.cons x (List.Perm.swap _ _ [])).trans (List.Perm.swap _ _ _)
      · simp only [List.pairwise_cons, List.mem_cons, List.not_mem_nil, or_false, forall_eq_or_imp, forall_eq, false_implies, implies_true, List.Pairwise.nil, and_true]
        omega
    · refine (hp.trans ?_).eq_of_pairwise (fun a b _ _ h1 h2 => Int.le_antisymm h1 h2) hs ?_
      · exact List.Perm.cons x (List.Perm.swap _ _ [])
      · simp only [List.pairwise_cons, List.mem_cons, List.not_mem_nil, or_false, forall_eq_or_imp, forall_eq, false_implies, implies_true, List.Pairwise.nil, and_true]
        omega
  rw [e]
  rfl

def k_HOLD (z : Str) : Option D := if z = "even" then some (.fn "even_holds") else if z = "uneven" then some (.fn "uneven_holds") else if z = "below" then some (.fn "below_holds") else if z = "above" then some (.fn "above_holds") else none
def k_HOLD_SAME (z : Str) : Option D := if z = "same" then some (.fn "same_holds") else none
def k_HOLD_OF_THREE (z : Str) : Option D := if z = "triple" then some (.fn "triple_holds") else if z = "form below" then some (.fn "form_below_holds") else if z = "form above" then some (.fn "form_above_holds") else none

def sp_is_whole : SpD := fun ds S Q _ => ∃ d, ds = [d] ∧ isData d = true ∧ Q (.bl (isWh d)) S
theorem len_is_whole : ∀ ds S Q E, sp_is_whole ds S Q E → ds.length = 1 := fun _ _ _ _ ⟨_, e, _⟩ => by rw [e]; rfl

def sp_are_wholes : SpD := fun ds S Q _ => ∃ xs n, ds = [.tup xs] ∧ sm n (.tup xs) = true ∧ xs.length ≤ 100000 ∧ Q (.bl (xs.all isWh)) S
theorem len_are_wholes : ∀ ds S Q E, sp_are_wholes ds S Q E → ds.length = 1 := fun _ _ _ _ ⟨_, _, e, _⟩ => by rw [e]; rfl

def sp_is_triple : SpD := fun ds S Q _ => ∃ d n, ds = [d] ∧ sm n d = true ∧ 1 ≤ n ∧ n ≤ 3000 ∧ Q (.bl (isTriD d)) S
theorem len_is_triple : ∀ ds S Q E, sp_is_triple ds S Q E → ds.length = 1 := fun _ _ _ _ ⟨_, _, e, _⟩ => by rw [e]; rfl

def sp_look_triple : SpD := fun ds S Q E => ∃ d n, ds = [d] ∧ sm n d = true ∧ 1 ≤ n ∧ n ≤ 3000 ∧ (isTriD d = true → Q .non S) ∧ (isTriD d = false → E ⟨"NoTriple", [], []⟩ S)
theorem len_look_triple : ∀ ds S Q E, sp_look_triple ds S Q E → ds.length = 1 := fun _ _ _ _ ⟨_, _, e, _⟩ => by rw [e]; rfl

def sp_exchanged : SpD := fun ds S Q E => ∃ d p n, ds = [d, .int p] ∧ sm n d = true ∧ 1 ≤ n ∧ n ≤ 3000 ∧ (isTriD d = false → E ⟨"NoTriple", [], []⟩ S) ∧ (isTriD d = true → ¬ (0 ≤ p ∧ p < 3) → E ⟨"NoPlace", ["many", "place"], [.int 3, .int p]⟩ S) ∧
  (isTriD d = true → 0 ≤ p → p < 3 → ∃ t, d = trD t ∧ ∀ ns : List Int, ns.Perm (ex p t) → ns.Pairwise (· ≤ ·) → Q (.tup (ns.map D.int)) S)
theorem len_exchanged : ∀ ds S Q E, sp_exchanged ds S Q E → ds.length = 2 := fun _ _ _ _ ⟨_, _, _, e, _⟩ => by rw [e]; rfl

def sp_triple_holds : SpD := fun ds S Q _ => ∃ (x y z p : D) (m : Nat), ds = [x, y, z, p] ∧ m ≤ 900 ∧ sm m x = true ∧ sm m y = true ∧ sm m z = true ∧ sm m p = true ∧ (∀ ps, p = .lst ps → ps.length ≤ 16000000) ∧ Q (.bl (tripB x y z p)) S
theorem len_triple_holds : ∀ ds S Q E, sp_triple_holds ds S Q E → ds.length = 4 := fun _ _ _ _ ⟨_, _, _, _, _, e, _⟩ => by rw [e]; rfl
def chnF : D → D
  | .tup [a, b] => .bl (decide (nxD (unD a) = unD b))
  | _ => .non
theorem chn_all : ∀ (ts : List (Int × Int × Int)), Chn ts ↔ ∀ q ∈ ts.zip (ts.drop 1), nxD q.1 = q.2
  | [] => ⟨(fun _ _ h => nomatch h), fun _ => True.intro⟩
  | [a] => ⟨(fun _ _ h => nomatch h), fun _ => True.intro⟩
  | a :: b :: r => by
    have ih := chn_all (b :: r)
    constructor
    · rintro ⟨h1, h2⟩ q hq
      rcases List.mem_cons.mp (show q ∈ (a, b) :: (b :: r).zip r from hq) with rfl | hq
      · exact h1
      · exact ih.mp h2 q hq
    · intro h
      exact ⟨h (a, b) (by show (a, b) ∈ (a, b) :: (b :: r).zip r; exact .head _), ih.mpr fun q hq => h q (by show q ∈ (a, b) :: (b :: r).zip r; exact .tail _ hq)⟩
theorem atI_last3 {l : List D} {x : D} : atI (l ++ [x]) (-1) = some x := by
  unfold atI ixN
  rw [if_neg (by decide), List.length_append, List.length_singleton, if_pos (by omega)]
  have e : ((-1 : Int) + ((l.length + 1 : Nat) : Int)).toNat = l.length := by omega
  show (l ++ [x])[((-1 : Int) + ((l.length + 1 : Nat) : Int)).toNat]? = some x
  rw [e]
  simp
theorem cut_init (xs : List D) : cutD xs none (some (-1)) = xs.dropLast := by
  unfold cutD
  rw [show HT.sIx xs.length 0 none = 0 from rfl, List.drop_zero, Nat.sub_zero, List.dropLast_eq_take]
  congr 1
  unfold HT.sIx
  dsimp only
  rw [if_pos (by decide)]
  omega
theorem zip_init {v w : Int × Int × Int} : ∀ (l : List (Int × Int × Int)) (a : Int × Int × Int), (v, w) ∈ (a :: l).zip l → v ∈ (a :: l).dropLast
  | [], _, h => nomatch h
  | b :: r, a, h => by
    rcases List.mem_cons.mp (show (v, w) ∈ (a, b) :: (b :: r).zip r from h) with e | h
    · obtain ⟨rfl, _⟩ := Prod.mk.inj e
      show v ∈ v :: (b :: r).dropLast
      exact .head _
    · show v ∈ a :: (b :: r).dropLast
      exact .tail _ (zip_init r b h)

def sp_holds : SpD := fun ds S Q E => ∃ (c p : D) (m k B : Nat), ds = [c, p] ∧ Tm m k B c ∧ Tm m k B p ∧ m ≤ 900 ∧ B ≤ 16777216 ∧ clean c p ∧ Q (.bl (evB c p)) S
theorem len_holds : ∀ ds S Q E, sp_holds ds S Q E → ds.length = 2 := fun _ _ _ _ ⟨_, _, _, _, _, e, _⟩ => by rw [e]; rfl

def sp_law_urn : SpD := fun ds S Q _ => ∃ (ns : List Int) (at_ : Int), ds = [.lst (ns.map D.int), .int at_] ∧ 0 ≤ at_ ∧ at_ < 100 ∧ ∀ u S', S u = none → Urn S' u 0 → Oth S S' u → Q (.obj u) S'
theorem len_law_urn : ∀ ds S Q E, sp_law_urn ds S Q E → ds.length = 2 := fun _ _ _ _ ⟨_, _, e, _⟩ => by rw [e]; rfl

def sp_law_draw : SpD := fun ds S Q _ => ∃ u w B, ds = [.obj u, .int w] ∧ Urn S u B ∧ B ≤ 2 ^ 100 ∧ 0 < w ∧ w < 2 ^ 1000 ∧ ∀ n S', 0 ≤ n → n < w → Urn S' u (B + 1) → Oth S S' u → Q (.int n) S'
theorem len_law_draw : ∀ ds S Q E, sp_law_draw ds S Q E → ds.length = 2 := fun _ _ _ _ ⟨_, _, _, e, _⟩ => by rw [e]; rfl

def sp_law_whole : SpD := fun ds S Q _ => ∃ d, ds = [d] ∧ isData d = true ∧ Q (.bl (isWh d)) S
theorem len_law_whole : ∀ ds S Q E, sp_law_whole ds S Q E → ds.length = 1 := fun _ _ _ _ ⟨_, e, _⟩ => by rw [e]; rfl

def sp_law_way : SpD := fun ds S Q _ => ∃ (u : Addr) (B : Int), ds = [.obj u, .int 60] ∧ Urn S u B ∧ B ≤ 2 ^ 97 ∧ ∀ (l : List Nat) S', (∀ c ∈ l, c = 108 ∨ c = 114) → cnW l ≤ 60 → Urn S' u (B + 200) → Oth S S' u → Q (.str (ofL l)) S'
theorem len_law_way : ∀ ds S Q E, sp_law_way ds S Q E → ds.length = 2 := fun _ _ _ _ ⟨_, _, e, _⟩ => by rw [e]; rfl

def sp_law_three : SpD := fun ds S Q _ => ∃ l, ds = [.str (ofL l)] ∧ cnW l ≤ 700 ∧ (∀ c ∈ l, c = 108 ∨ c = 114) ∧ Q (.tup [.int (thL l).1, .int (thL l).2.1, .int (thL l).2.2]) S
theorem len_law_three : ∀ ds S Q E, sp_law_three ds S Q E → ds.length = 1 := fun _ _ _ _ ⟨_, e, _⟩ => by rw [e]; rfl

def sp_law_bent (n : Nat) : SpD := fun ds S Q _ => ∃ (u : Addr) (d : D) (m k B : Nat) (U : Int), ds = [.obj u, d] ∧ Urn S u U ∧ U + 4 * n ≤ 2 ^ 100 ∧ Tm m k B d ∧ m ≤ 1800 ∧ B ≤ 900000 ∧ (pd d).depth < n ∧ ∀ d' S', Bent d d' → Urn S' u (U + 4 * n) → Oth S S' u → Q d' S'
theorem len_law_bent : ∀ n ds S Q E, sp_law_bent n ds S Q E → ds.length = 2 := fun _ _ _ _ _ ⟨_, _, _, _, _, _, e, _⟩ => by rw [e]; rfl
theorem none_law_bent : ∀ ds S Q E, ¬ sp_law_bent 0 ds S Q E := fun _ _ _ _ ⟨_, _, _, _, _, _, _, _, _, _, _, _, h, _⟩ => by omega
theorem atI_ex {l : List D} {i : Int} (h0 : 0 ≤ i) (h1 : i < l.length) : ∃ x, x ∈ l ∧ atI l i = some x := by
  obtain ⟨d, e, h⟩ := atI_some h0 h1
  exact ⟨d, h, e⟩

def sp_law_is_claim : SpD := fun ds S Q _ => ∃ (d : D) (z : Str) (n : Nat) (m : Nat), ds = [d, .str z, .int n] ∧ sm m d = true ∧ 1 ≤ n ∧ Q (.bl (claimB z n d)) S
theorem len_law_is_claim : ∀ ds S Q E, sp_law_is_claim ds S Q E → ds.length = 3 := fun _ _ _ _ ⟨_, _, _, _, e, _⟩ => by rw [e]; rfl

def sp_law_copied (n : Nat) : SpD := fun ds S Q _ => ∃ (d : D) (m k B : Nat), ds = [d] ∧ Tm m k B d ∧ B ≤ 16777216 ∧ (pd d).depth < n ∧ Q d S
theorem len_law_copied : ∀ n ds S Q E, sp_law_copied n ds S Q E → ds.length = 1 := fun _ _ _ _ _ ⟨_, _, _, _, e, _⟩ => by rw [e]; rfl
theorem none_law_copied : ∀ ds S Q E, ¬ sp_law_copied 0 ds S Q E := fun _ _ _ _ ⟨_, _, _, _, _, _, _, h, _⟩ => by omega

def sp_law_down : SpD := fun ds S Q _ => ∃ t : Int × Int × Int, ds = [trD t] ∧ TQ t ∧ t.2.2 < 2 ^ 950 ∧ Q (.lst ((lsT (stN t) t).map trD)) S
theorem len_law_down : ∀ ds S Q E, sp_law_down ds S Q E → ds.length = 1 := fun _ _ _ _ ⟨_, e, _⟩ => by rw [e]; rfl

def sp_law_is_triple : SpD := fun ds S Q _ => ∃ (d : D) (n : Nat), ds = [d] ∧ sm n d = true ∧ n ≤ 900 ∧ Q (.bl (isTriD d)) S
theorem len_law_is_triple : ∀ ds S Q E, sp_law_is_triple ds S Q E → ds.length = 1 := fun _ _ _ _ ⟨_, _, e, _⟩ => by rw [e]; rfl
theorem isTri_none {d : D} (h : ∀ x y z : Int, d ≠ .tup [.int x, .int y, .int z]) : isTriD d = false := by
  unfold isTriD
  split
  · exact absurd rfl (h _ _ _)
  · rfl

def sp_law_due : SpD := fun ds S Q _ => ∃ (c p : D) (m k B : Nat), ds = [c, p] ∧ Tm m k B c ∧ Tm m k B p ∧ m ≤ 900 ∧ B ≤ 16777216 ∧ ∀ S', (∀ a o, S a = some o → S' a = some o) → Q (.bl (evB c p)) S'
theorem len_law_due : ∀ ds S Q E, sp_law_due ds S Q E → ds.length = 2 := fun _ _ _ _ ⟨_, _, _, _, _, e, _⟩ => by rw [e]; rfl
theorem claimB_inv {z : Str} {n : Nat} {d : D} (h : claimB z n d = true) : ∃ r, d = .tup (.str z :: r) ∧ r.length + 1 = n := by
  match d, h with
  | .tup (.str y :: r), h =>
    obtain ⟨h1, h2⟩ := Bool.and_eq_true_iff.mp (show (decide ((r.length : Int) + 1 = n) && decide (y = z)) = true from h)
    have h1 := of_decide_eq_true h1
    obtain rfl := of_decide_eq_true h2
    exact ⟨r, rfl, by omega⟩
theorem claimB_four {z : Str} {d : D} (h : claimB z 4 d = true) : ∃ x y w, d = .tup [.str z, x, y, w] := by
  obtain ⟨r, e, hl⟩ := claimB_inv (n := 4) h
  match r, hl, e with
  | [x, y, w], _, e => exact ⟨x, y, w, e⟩

def sp_law_looked_right : SpD := fun ds S Q _ => ∃ (c p : D) (m k B : Nat), ds = [c, p] ∧ Tm m k B c ∧ Tm m k B p ∧ m ≤ 900 ∧ k ≤ 60 ∧ B ≤ 16777216 ∧ clean c p ∧ ∀ S', (∀ a o, S a = some o → S' a = some o) → Q (.bl true) S'
theorem len_law_looked_right : ∀ ds S Q E, sp_law_looked_right ds S Q E → ds.length = 2 := fun _ _ _ _ ⟨_, _, _, _, _, e, _⟩ => by rw [e]; rfl
theorem x_repr_tm {n k B : Nat} {d : D} {S : Sd} {Q : DK} (h : Tm n k B d) (hn : n ≤ 1900) (hk : k ≤ 60) (hB : B ≤ 16777216) (q : Q (.str (shownD d)) S) : rdRepr [d] S Q := by
  rw [x_repr]
  have e : valD S d = d := by
    have := tm_lay h.t
    cases d <;> first | rfl | cases this.1
  rw [e]
  exact ⟨h.shD hn hk hB, q⟩

def sp_law_all_looked_right : SpD := fun ds S Q _ => ∃ (u : Addr) (c p : D) (m k B : Nat) (U : Int), ds = [.obj u, c, p] ∧ Urn S u U ∧ U ≤ 2 ^ 90 ∧ Tm m k B c ∧ Tm m k B p ∧ 1 ≤ m ∧ m ≤ 800 ∧ k ≤ 3 ∧ B ≤ 900000 ∧ clean c p ∧ clean p c ∧ (∀ c', Bent c c' → clean c' p) ∧ (∀ p', Bent p p' → clean c p') ∧ (∀ c' p', Bent c c' → Bent p p' → clean c' p') ∧
  ∀ S', (∀ a o, a ≠ u → S a = some o → S' a = some o) → Urn S' u (U + 200) → Q (.bl true) S'
theorem len_law_all_looked_right : ∀ ds S Q E, sp_law_all_looked_right ds S Q E → ds.length = 3 := fun _ _ _ _ ⟨_, _, _, _, _, _, _, e, _⟩ => by rw [e]; rfl
theorem for_lst_gB {t : TAD} {g : TGD} {tb : TSD} {D : EndsD} {σ : Si} {S : Sd} (h : t σ S fun ds S1 => ds.length ≤ 16777216 ∧ dLoop g tb D ds σ S1) : dFor (dItr (dLst t)) g tb D σ S := h
theorem ix0_gB {a b : D} {S : Sd} {Q : DK} (q : Q a S) : rdIx (.tup [a, b]) (.int 0) S Q := by rw [x_ixt, atI_0]; exact q
theorem ix1_gB {a b : D} {S : Sd} {Q : DK} (q : Q b S) : rdIx (.tup [a, b]) (.int 1) S Q := by rw [x_ixt, atI_1]; exact q
theorem Tm.wide {m k B m' k' B' : Nat} {d : D} (h : Tm m k B d) (hm : m ≤ m') (hk : k ≤ k') (hB : B ≤ B') : Tm m' k' B' d := ⟨tm_mono hm h.t, Nat.le_trans h.dp hk, Nat.le_trans h.sh hB⟩
theorem Bent.Tm {m k B : Nat} {d d' : D} (h : Bent d d') (t : Tm m k B d) (m1 : 1 ≤ m) (hm : m ≤ 1800) (hB : B ≤ 900000) : Tm (m + 1) (k + 2) (2 * B + 20000) d' := by
  obtain ⟨h1, h2, h3⟩ := Bent.tm hm m1 h t.t (Nat.le_trans t.sh hB)
  have := t.dp
  have := t.sh
  exact ⟨h1, by omega, by omega⟩

/-! readings, printed by gen.py -/
abbrev N_is_whole : List Str := ["thing"]
def t_is_whole (Ed : XKD) : TSD :=
  (dRet (dAndV (dCB rdIsi (dCons (dVar 0) (dCons (dC (.ty "int")) dNil))) (dNotV (dCB rdIsi (dCons (dVar 0) (dCons (dC (.ty "bool")) dNil))))))
theorem st_is_whole (a0 : D) : startD N_is_whole [a0] = [some a0] := rfl
abbrev N_are_wholes : List Str := ["things", "thing"]
def t_are_wholes (Ed : XKD) : TSD :=
  (dRet (dCB rdAll (dCons (dComp (dItr (dVar 0)) (dName 1) dYes (dCall sp_is_whole [] wd0 (dCons (dVar 1) dNil)) [1]) dNil)))
theorem st_are_wholes (a0 : D) : startD N_are_wholes [a0] = [some a0, none] := rfl
abbrev N_is_triple : List Str := ["thing", "x", "y", "z", "one"]
def t_is_triple (Ed : XKD) : TSD :=
  (dSeq (dIfS (dOr (dNot (dTest (dCB rdIsi (dCons (dVar 0) (dCons (dC (.ty "tuple")) dNil))))) (dOr (dTest (dOp rdNe (dCB rdLen (dCons (dVar 0) dNil)) (dC k_MANY))) (dNot (dTest (dCB rdAll (dCons (dComp (dItr (dVar 0)) (dName 4) dYes (dCall sp_is_whole [] wd0 (dCons (dVar 4) dNil)) [4]) dNil)))))) (dRet (dC (.bl false))) dNext)
  (dSeq (dAsg (dVar 0) (dTupG 3 (dGCons (dName 1) (dGCons (dName 2) (dGCons (dName 3) dGNil)))))
  (dRet (dAndV (dChain3 rdLe rdLe rdLe (dC (.int 1)) (dVar 1) (dVar 2) (dVar 3)) (dOp rdEq (dOp rdAdd (dOp rdAdd (dOp rdPow (dVar 1) (dC (.int 2))) (dOp rdPow (dVar 2) (dC (.int 2)))) (dOp rdPow (dVar 3) (dC (.int 2)))) (dOp rdMulA (dOp rdMulA (dOp rdMulA (dC k_MANY) (dVar 1)) (dVar 2)) (dVar 3)))))))
theorem st_is_triple (a0 : D) : startD N_is_triple [a0] = [some a0, none, none, none, none] := rfl
abbrev N_look_triple : List Str := ["thing"]
def t_look_triple (Ed : XKD) : TSD :=
  (dIfS (dNot (dTest (dCall sp_is_triple [] (wd Ed) (dCons (dVar 0) dNil)))) (dRaise (wd Ed) ⟨"NoTriple", [], []⟩) dNext)
theorem st_look_triple (a0 : D) : startD N_look_triple [a0] = [some a0] := rfl
abbrev N_exchanged : List Str := ["triple", "place", "one", "other"]
def t_exchanged (Ed : XKD) : TSD :=
  (dSeq (dDrop (dCall sp_look_triple [] (wd Ed) (dCons (dVar 0) dNil)))
  (dSeq (dIfS (dNot (dTest (dChain rdLe rdLt (dC (.int 0)) (dVar 1) (dC k_MANY)))) (dRaiseF2 (wd Ed) "NoPlace" "place" "many" (dCons (dVar 1) (dCons (dC k_MANY) dNil))) dNext)
  (dSeq (dAsg (dOp rdAdd (dSl (dVar 0) dNoPart (dPart (dVar 1))) (dSl (dVar 0) (dPart (dOp rdAdd (dVar 1) (dC (.int 1)))) dNoPart)) (dTupG 2 (dGCons (dName 2) (dGCons (dName 3) dGNil))))
  (dRet (dCB rdTupA (dCons (dCB rdSorted (dCons (dLst (dCons (dVar 2) (dCons (dVar 3) (dCons (dOp rdSub (dOp rdMulA (dOp rdMulA (dC k_MANY) (dVar 2)) (dVar 3)) (dOp rdIx (dVar 0) (dVar 1))) dNil)))) dNil)) dNil))))))
theorem st_exchanged (a0 a1 : D) : startD N_exchanged [a0, a1] = [some a0, some a1, none, none] := rfl
abbrev N_triple_holds : List Str := ["x", "y", "z", "paper", "one", "other"]
def t_triple_holds (Ed : XKD) : TSD :=
  (dSeq (dIfS (dOr (dNot (dTest (dCB rdIsi (dCons (dVar 3) (dCons (dC (.ty "list")) dNil))))) (dOr (dTest (dOp rdEq (dCB rdLen (dCons (dVar 3) dNil)) (dC (.int 0)))) (dNot (dTest (dCB rdAll (dCons (dComp (dItr (dVar 3)) (dName 4) dYes (dCall sp_is_triple [] wd0 (dCons (dVar 4) dNil)) [4]) dNil)))))) (dRet (dC (.bl false))) dNext)
  (dSeq (dIfS (dOr (dNot (dTest (dCall sp_are_wholes [] (wd Ed) (dCons (dTup (dCons (dVar 0) (dCons (dVar 1) (dCons (dVar 2) dNil)))) dNil)))) (dOr (dTest (dOp rdNe (dOp rdIx (dVar 3) (dC (.int 0))) (dTup (dCons (dVar 0) (dCons (dVar 1) (dCons (dVar 2) dNil)))))) (dOr (dTest (dOp rdNe (dOp rdIx (dVar 3) (dUn rdNeg (dC (.int 1)))) (dC k_ONES))) (dTest (dOp (rdInD false) (dC k_ONES) (dSl (dVar 3) dNoPart (dPart (dUn rdNeg (dC (.int 1)))))))))) (dRet (dC (.bl false))) dNext)
  (dRet (dCB rdAll (dCons (dComp (dZip (dCons (dVar 3) (dCons (dSl (dVar 3) (dPart (dC (.int 1))) dNoPart) dNil))) (dTupG 2 (dGCons (dName 4) (dGCons (dName 5) dGNil))) dYes (dOp rdEq (dCall sp_exchanged [] wd0 (dCons (dVar 4) (dCons (dC (.int 2)) dNil))) (dVar 5)) [4, 5]) dNil)))))
theorem st_triple_holds (a0 a1 a2 a3 : D) : startD N_triple_holds [a0, a1, a2, a3] = [some a0, some a1, some a2, some a3, none, none] := rfl
abbrev N_holds : List Str := ["claim", "paper", "word", "many", "look"]
def t_holds (Ed : XKD) : TSD :=
  (dSeq (dIfS (dOr (dNot (dTest (dCB rdIsi (dCons (dVar 0) (dCons (dC (.ty "tuple")) dNil))))) (dOr (dTest (dOp rdEq (dCB rdLen (dCons (dVar 0) dNil)) (dC (.int 0)))) (dNot (dTest (dCB rdIsi (dCons (dOp rdIx (dVar 0) (dC (.int 0))) (dCons (dC (.ty "str")) dNil))))))) (dRet (dC (.bl false))) dNext)
  (dSeq (dPar 2 3 (dCons (dOp rdIx (dVar 0) (dC (.int 0))) (dCons (dOp rdSub (dCB rdLen (dCons (dVar 0) dNil)) (dC (.int 1))) dNil)))
  (dSeq (dIfS (dAnd (dTest (dOp rdEq (dVar 3) (dC (.int 1)))) (dTest (dKin ["even", "uneven", "below", "above"] (dVar 2)))) (dSeq dNever
  dNever) dNext)
  (dSeq (dIfS (dAnd (dTest (dOp rdEq (dVar 3) (dC (.int 2)))) (dTest (dKin ["same"] (dVar 2)))) (dSeq dNever
  dNever) dNext)
  (dSeq (dIfS (dAnd (dTest (dOp rdEq (dVar 3) (dC (.int 3)))) (dTest (dKin ["triple", "form below", "form above"] (dVar 2)))) (dSeq (dSet 4 (dKix k_HOLD_OF_THREE (dVar 2)))
  (dRet (dCallV 4 [("triple_holds", sp_triple_holds)] (wd Ed) (dCons (dOp rdIx (dVar 0) (dC (.int 1))) (dCons (dOp rdIx (dVar 0) (dC (.int 2))) (dCons (dOp rdIx (dVar 0) (dC (.int 3))) (dCons (dVar 1) dNil))))))) dNext)
  (dRet (dC (.bl false))))))))
theorem st_holds (a0 a1 : D) : startD N_holds [a0, a1] = [some a0, some a1, none, none, none] := rfl
abbrev N_law_urn : List Str := ["_law_script", "_law_at", "_law_cell", "_law_great"]
def t_law_urn (Ed : XKD) : TSD :=
  (dSeq (dSet 2 (dC (.int 0)))
  (dSeq (dIfS (dTest (dOp rdLt (dVar 1) (dCB rdLen (dCons (dVar 0) dNil)))) (dSet 2 (dOp rdIx (dVar 0) (dVar 1))) dNext)
  (dSeq (dSet 3 (dCB rdAbs (dCons (dVar 2) dNil)))
  (dSeq (dIfS (dTest (dOp rdLt (dVar 3) (dOp rdPow (dC (.int 10)) (dC (.int 18))))) (dSet 3 (dC (.int 0))) dNext)
  (dRet (dLstO (dCons (dVar 3) (dCons (dOp rdAdd (dOp rdAdd (dOp rdAdd (dOp rdMod (dVar 2) (dC (.int 1000000000000000003))) (dOp rdMulA (dOp rdMulA (dC (.int 97)) (dVar 1)) (dVar 1))) (dOp rdMulA (dC (.int 31)) (dVar 1))) (dC (.int 1))) (dCons (dC (.int 0)) dNil)))))))))
theorem st_law_urn (a0 a1 : D) : startD N_law_urn [a0, a1] = [some a0, some a1, none, none] := rfl
abbrev N_law_draw : List Str := ["_law_urn_here", "_law_wide", "_law_digit", "_law_primes", "_law_step", "_law_base", "_law_mixed"]
def t_law_draw (Ed : XKD) : TSD :=
  (dSeq (dIfS (dTest (dOp rdGt (dOp rdIx (dVar 0) (dC (.int 0))) (dC (.int 0)))) (dSeq (dSet 2 (dOp rdMod (dOp rdIx (dVar 0) (dC (.int 0))) (dVar 1)))
  (dSeq (dStore (dVar 0) (dC (.int 0)) (dOp rdFdiv (dOp rdIx (dVar 0) (dC (.int 0))) (dVar 1)))
  (dRet (dVar 2)))) dNext)
  (dSeq (dSet 3 (dTup (dCons (dC (.int 2147483647)) (dCons (dC (.int 2147483629)) (dCons (dC (.int 2147483587)) (dCons (dC (.int 2147483579)) (dCons (dC (.int 2147483563)) (dCons (dC (.int 2147483549)) (dCons (dC (.int 2147483543)) dNil)))))))))
  (dSeq (dStore (dVar 0) (dC (.int 2)) (dOp rdAdd (dOp rdIx (dVar 0) (dC (.int 2))) (dC (.int 1))))
  (dSeq (dSet 4 (dOp rdIx (dVar 0) (dC (.int 2))))
  (dSeq (dSet 5 (dOp rdAdd (dOp rdAdd (dOp rdMulA (dOp rdIx (dVar 0) (dC (.int 1))) (dOp rdAdd (dOp rdMulA (dC (.int 2)) (dVar 4)) (dC (.int 1)))) (dOp rdMulA (dOp rdMulA (dC (.int 6007)) (dVar 4)) (dVar 4))) (dC (.int 53))))
  (dSeq (dSet 6 (dOp rdMod (dOp rdPow (dVar 5) (dC (.int 3))) (dOp rdIx (dVar 3) (dOp rdMod (dVar 4) (dC (.int 7))))))
  (dRet (dOp rdMod (dOp rdFdiv (dOp rdMod (dOp rdMulA (dVar 6) (dOp rdAdd (dOp rdFdiv (dVar 6) (dC (.int 8191))) (dVar 4))) (dOp rdIx (dVar 3) (dOp rdMod (dOp rdAdd (dVar 4) (dC (.int 3))) (dC (.int 7))))) (dC (.int 16))) (dVar 1)))))))))
theorem st_law_draw (a0 a1 : D) : startD N_law_draw [a0, a1] = [some a0, some a1, none, none, none, none, none] := rfl
abbrev N_law_whole : List Str := ["_law_thing"]
def t_law_whole (Ed : XKD) : TSD :=
  (dRet (dAndV (dCB rdIsi (dCons (dVar 0) (dCons (dC (.ty "int")) dNil))) (dNotV (dCB rdIsi (dCons (dVar 0) (dCons (dC (.ty "bool")) dNil))))))
theorem st_law_whole (a0 : D) : startD N_law_whole [a0] = [some a0] := rfl
abbrev N_law_way : List Str := ["_law_urn_here", "_law_most", "_law_kind", "_law_long", "_law_first", "_law_second", "_law_found", "_law_k", "_law_letter"]
def t_law_way (Ed : XKD) : TSD :=
  (dSeq (dSet 2 (dCall sp_law_draw [] (wd Ed) (dCons (dVar 0) (dCons (dC (.int 4)) dNil))))
  (dSeq (dSet 3 (dCall sp_law_draw [] (wd Ed) (dCons (dVar 0) (dCons (dOp rdIx (dLst (dCons (dC (.int 4)) (dCons (dC (.int 9)) (dCons (dC (.int 20)) (dCons (dC (.int 60)) dNil))))) (dCall sp_law_draw [] (wd Ed) (dCons (dVar 0) (dCons (dC (.int 4)) dNil)))) dNil))))
  (dSeq (dAsg (dTup (dCons (dC (.int 1)) (dCons (dC (.int 1)) dNil))) (dTupG 2 (dGCons (dName 4) (dGCons (dName 5) dGNil))))
  (dSeq (dSet 6 (dC (.str "")))
  (dSeq (dFor (dRng1 (dCons (dVar 3) dNil)) (dName 7)
  (dSeq (dSet 8 (dOp rdIx (dC (.str "lr")) (dOp rdIx (dLst (dCons (dCall sp_law_draw [] (wd Ed) (dCons (dVar 0) (dCons (dC (.int 2)) dNil))) (dCons (dOp rdMod (dVar 7) (dC (.int 2))) (dCons (dC (.int 0)) (dCons (dCB rdInt (dCons (dOp rdEq (dCall sp_law_draw [] (wd Ed) (dCons (dVar 0) (dCons (dC (.int 5)) dNil))) (dC (.int 0))) dNil)) dNil))))) (dVar 2))))
  (dSeq (dIfS (dTest (dOp rdEq (dVar 8) (dC (.str "l")))) (dSet 5 (dOp rdAdd (dVar 4) (dVar 5))) (dSet 4 (dOp rdAdd (dVar 4) (dVar 5))))
  (dSeq (dIfS (dTest (dOp rdGt (dOp rdAdd (dVar 4) (dVar 5)) (dVar 1))) (dRet (dVar 6)) dNext)
  (dSet 6 (dOp rdAdd (dVar 6) (dVar 8)))))))
  (dRet (dVar 6)))))))
theorem st_law_way (a0 a1 : D) : startD N_law_way [a0, a1] = [some a0, some a1, none, none, none, none, none, none, none] := rfl
abbrev N_law_three : List Str := ["_law_way_here", "_law_u", "_law_v", "_law_w", "_law_letter"]
def t_law_three (Ed : XKD) : TSD :=
  (dSeq (dAsg (dTup (dCons (dC (.int 1)) (dCons (dC (.int 2)) (dCons (dC (.int 5)) dNil)))) (dTupG 3 (dGCons (dName 1) (dGCons (dName 2) (dGCons (dName 3) dGNil)))))
  (dSeq (dFor (dItr (dVar 0)) (dName 4)
  (dIfS (dTest (dOp rdEq (dVar 4) (dC (.str "l")))) (dPar3 1 2 3 (dCons (dVar 1) (dCons (dVar 3) (dCons (dOp rdSub (dOp rdMulA (dOp rdMulA (dC (.int 3)) (dVar 1)) (dVar 3)) (dVar 2)) dNil)))) (dPar3 1 2 3 (dCons (dVar 3) (dCons (dVar 2) (dCons (dOp rdSub (dOp rdMulA (dOp rdMulA (dC (.int 3)) (dVar 3)) (dVar 2)) (dVar 1)) dNil))))))
  (dRet (dTup (dCons (dVar 1) (dCons (dVar 2) (dCons (dVar 3) dNil)))))))
theorem st_law_three (a0 : D) : startD N_law_three [a0] = [some a0, none, none, none, none] := rfl
abbrev N_law_bent : List Str := ["_law_urn_here", "_law_thing", "_law_way_here", "_law_at", "_law_some"]
def t_law_bent (n : Nat) (Ed : XKD) : TSD :=
  (dSeq (dSet 2 (dCall sp_law_draw [] (wd Ed) (dCons (dVar 0) (dCons (dC (.int 8)) dNil))))
  (dSeq (dIfS (dTest (dOp rdEq (dVar 2) (dC (.int 0)))) (dRet (dOp rdIx (dLst (dCons (dC .non) (dCons (dC (.bl true)) (dCons (dC (.bl false)) (dCons (dC (.int 0)) (dCons (dC (.int 1)) (dCons (dC (.str "")) (dCons (dC (.str "a")) (dCons (dTup dNil) (dCons (dLst dNil) (dCons (dC (.str "1")) dNil))))))))))) (dCall sp_law_draw [] (wd Ed) (dCons (dVar 0) (dCons (dC (.int 10)) dNil))))) dNext)
  (dSeq (dIfS (dTest (dCall sp_law_whole [] (wd Ed) (dCons (dVar 1) dNil))) (dRet (dOp rdIx (dLst (dCons (dOp rdAdd (dVar 1) (dC (.int 1))) (dCons (dOp rdSub (dVar 1) (dC (.int 1))) (dCons (dOp rdSub (dC (.int 0)) (dVar 1)) (dCons (dOp rdMulA (dVar 1) (dC (.int 2))) (dCons (dCB rdStr (dCons (dVar 1) dNil)) (dCons (dTup (dCons (dVar 1) dNil)) (dCons (dOp rdEq (dVar 1) (dC (.int 1))) dNil)))))))) (dCall sp_law_draw [] (wd Ed) (dCons (dVar 0) (dCons (dC (.int 7)) dNil))))) dNext)
  (dSeq (dIfS (dOr (dNot (dTest (dCB rdIsiTp (dCons (dVar 1) (dCons (dTup (dCons (dC (.ty "str")) (dCons (dC (.ty "tuple")) (dCons (dC (.ty "list")) dNil)))) dNil))))) (dTest (dOp rdEq (dCB rdLen (dCons (dVar 1) dNil)) (dC (.int 0))))) (dRet (dOp rdIx (dLst (dCons (dC (.int 1)) (dCons (dC (.str "b")) (dCons (dTup (dCons (dTup dNil) dNil)) (dCons (dC .non) dNil))))) (dCall sp_law_draw [] (wd Ed) (dCons (dVar 0) (dCons (dC (.int 4)) dNil))))) dNext)
  (dSeq (dSet 3 (dCall sp_law_draw [] (wd Ed) (dCons (dVar 0) (dCons (dCB rdLen (dCons (dVar 1) dNil)) dNil))))
  (dSeq (dIfS (dTest (dOp rdEq (dVar 2) (dC (.int 1)))) (dRet (dOp rdAdd (dSl (dVar 1) dNoPart (dPart (dVar 3))) (dSl (dVar 1) (dPart (dOp rdAdd (dVar 3) (dC (.int 1)))) dNoPart))) dNext)
  (dSeq (dIfS (dTest (dOp rdEq (dVar 2) (dC (.int 2)))) (dRet (dOp rdAdd (dSl (dVar 1) dNoPart (dPart (dOp rdAdd (dVar 3) (dC (.int 1))))) (dSl (dVar 1) (dPart (dVar 3)) dNoPart))) dNext)
  (dSeq (dIfS (dTest (dCB rdIsi (dCons (dVar 1) (dCons (dC (.ty "str")) dNil)))) (dRet (dOp rdAdd (dOp rdAdd (dSl (dVar 1) dNoPart (dPart (dVar 3))) (dOp rdIx (dC (.str "abclr")) (dCall sp_law_draw [] (wd Ed) (dCons (dVar 0) (dCons (dC (.int 5)) dNil))))) (dSl (dVar 1) (dPart (dOp rdAdd (dVar 3) (dC (.int 1)))) dNoPart))) dNext)
  (dSeq (dIfS (dTest (dOp rdEq (dVar 2) (dC (.int 3)))) (dRet (dOp rdIx (dLst (dCons (dCB rdListA (dCons (dVar 1) dNil)) (dCons (dCB rdTupA (dCons (dVar 1) dNil)) dNil))) (dCB rdInt (dCons (dCB rdIsi (dCons (dVar 1) (dCons (dC (.ty "list")) dNil))) dNil)))) dNext)
  (dSeq (dSet 4 (dCB rdListO (dCons (dVar 1) dNil)))
  (dSeq (dStore (dVar 4) (dVar 3) (dCall (sp_law_bent n) [] (wd Ed) (dCons (dVar 0) (dCons (dOp rdIx (dVar 4) (dVar 3)) dNil))))
  (dSeq (dIfS (dTest (dCB rdIsi (dCons (dVar 1) (dCons (dC (.ty "list")) dNil)))) (dFrzV 4 (dRet (dVar 4))) dNext)
  (dFrzV 4 (dRet (dCB rdTupA (dCons (dVar 4) dNil))))))))))))))))
theorem st_law_bent (a0 a1 : D) : startD N_law_bent [a0, a1] = [some a0, some a1, none, none, none] := rfl
abbrev N_law_is_claim : List Str := ["_law_thing", "_law_word", "_law_many"]
def t_law_is_claim (Ed : XKD) : TSD :=
  (dRet (dAndV (dCB rdIsi (dCons (dVar 0) (dCons (dC (.ty "tuple")) dNil))) (dAndV (dOp rdEq (dCB rdLen (dCons (dVar 0) dNil)) (dVar 2)) (dAndV (dCB rdIsi (dCons (dOp rdIx (dVar 0) (dC (.int 0))) (dCons (dC (.ty "str")) dNil))) (dOp rdEq (dOp rdIx (dVar 0) (dC (.int 0))) (dVar 1))))))
theorem st_law_is_claim (a0 a1 a2 : D) : startD N_law_is_claim [a0, a1, a2] = [some a0, some a1, some a2] := rfl
abbrev N_law_copied : List Str := ["_law_thing", "_law_one"]
def t_law_copied (n : Nat) (Ed : XKD) : TSD :=
  (dSeq (dIfS (dTest (dCB rdIsi (dCons (dVar 0) (dCons (dC (.ty "list")) dNil)))) (dRet (dComp (dItr (dVar 0)) (dName 1) dYes (dCall (sp_law_copied n) [] wd0 (dCons (dVar 1) dNil)) [1])) dNext)
  (dSeq (dIfS (dTest (dCB rdIsi (dCons (dVar 0) (dCons (dC (.ty "tuple")) dNil)))) (dRet (dCB rdTupA (dCons (dComp (dItr (dVar 0)) (dName 1) dYes (dCall (sp_law_copied n) [] wd0 (dCons (dVar 1) dNil)) [1]) dNil))) dNext)
  (dRet (dVar 0))))
theorem st_law_copied (a0 : D) : startD N_law_copied [a0] = [some a0, none] := rfl
abbrev N_law_down : List Str := ["_law_triple", "_law_found", "_law_x", "_law_y", "_law_z"]
def t_law_down (Ed : XKD) : TSD :=
  (dSeq (dSet 1 (dLstO (dCons (dVar 0) dNil)))
  (dSeq (dWhile (dTest (dOp rdNe (dOp rdIx (dVar 1) (dUn rdNeg (dC (.int 1)))) (dTup (dCons (dC (.int 1)) (dCons (dC (.int 1)) (dCons (dC (.int 1)) dNil))))))
  (dSeq (dAsg (dOp rdIx (dVar 1) (dUn rdNeg (dC (.int 1)))) (dTupG 3 (dGCons (dName 2) (dGCons (dName 3) (dGCons (dName 4) dGNil)))))
  (dDrop (dBM "list" rdApp (dVar 1) (dCons (dCB rdTupA (dCons (dCB rdSorted (dCons (dLst (dCons (dVar 2) (dCons (dVar 3) (dCons (dOp rdSub (dOp rdMulA (dOp rdMulA (dC (.int 3)) (dVar 2)) (dVar 3)) (dVar 4)) dNil)))) dNil)) dNil)) dNil)))))
  (dFrzV 1 (dRet (dVar 1)))))
theorem st_law_down (a0 : D) : startD N_law_down [a0] = [some a0, none, none, none, none] := rfl
abbrev N_law_is_triple : List Str := ["_law_thing", "_law_x", "_law_y", "_law_z", "_law_one"]
def t_law_is_triple (Ed : XKD) : TSD :=
  (dSeq (dIfS (dOr (dNot (dTest (dCB rdIsi (dCons (dVar 0) (dCons (dC (.ty "tuple")) dNil))))) (dOr (dTest (dOp rdNe (dCB rdLen (dCons (dVar 0) dNil)) (dC (.int 3)))) (dNot (dTest (dCB rdAll (dCons (dComp (dItr (dVar 0)) (dName 4) dYes (dCall sp_law_whole [] wd0 (dCons (dVar 4) dNil)) [4]) dNil)))))) (dRet (dC (.bl false))) dNext)
  (dSeq (dAsg (dVar 0) (dTupG 3 (dGCons (dName 1) (dGCons (dName 2) (dGCons (dName 3) dGNil)))))
  (dRet (dAndV (dChain3 rdLe rdLe rdLe (dC (.int 1)) (dVar 1) (dVar 2) (dVar 3)) (dOp rdEq (dOp rdAdd (dOp rdAdd (dOp rdMulA (dVar 1) (dVar 1)) (dOp rdMulA (dVar 2) (dVar 2))) (dOp rdMulA (dVar 3) (dVar 3))) (dOp rdMulA (dOp rdMulA (dOp rdMulA (dC (.int 3)) (dVar 1)) (dVar 2)) (dVar 3)))))))
theorem st_law_is_triple (a0 : D) : startD N_law_is_triple [a0] = [some a0, none, none, none, none] := rfl
abbrev N_law_due : List Str := ["_law_saying", "_law_sheet", "_law_one"]
def t_law_due (Ed : XKD) : TSD :=
  (dSeq (dIfS (dOr (dNot (dTest (dCall sp_law_is_claim [] (wd Ed) (dCons (dVar 0) (dCons (dC (.str "triple")) (dCons (dC (.int 4)) dNil)))))) (dNot (dTest (dCall sp_law_is_triple [] (wd Ed) (dCons (dSl (dVar 0) (dPart (dC (.int 1))) dNoPart) dNil))))) (dRet (dC (.bl false))) dNext)
  (dSeq (dIfS (dOr (dNot (dTest (dCB rdIsi (dCons (dVar 1) (dCons (dC (.ty "list")) dNil))))) (dNot (dTest (dCB rdAll (dCons (dComp (dItr (dVar 1)) (dName 2) dYes (dCall sp_law_is_triple [] wd0 (dCons (dVar 2) dNil)) [2]) dNil))))) (dRet (dC (.bl false))) dNext)
  (dRet (dOp rdEq (dVar 1) (dCall sp_law_down [] (wd Ed) (dCons (dSl (dVar 0) (dPart (dC (.int 1))) dNoPart) dNil))))))
theorem st_law_due (a0 a1 : D) : startD N_law_due [a0, a1] = [some a0, some a1, none] := rfl
abbrev N_law_looked_right : List Str := ["_law_saying", "_law_sheet", "_law_kept", "_law_told"]
def t_law_looked_right (Ed : XKD) : TSD :=
  (dSeq (dSet 2 (dTup (dCons (dCB rdRepr (dCons (dVar 0) dNil)) (dCons (dCB rdRepr (dCons (dVar 1) dNil)) dNil))))
  (dSeq (dSet 3 (dCall sp_holds [] (wd Ed) (dCons (dVar 0) (dCons (dVar 1) dNil))))
  (dSeq (dIfS (dOr (dNot (dTest (dCB rdIsi (dCons (dVar 3) (dCons (dC (.ty "bool")) dNil))))) (dOr (dTest (dOp rdNe (dVar 3) (dCall sp_law_due [] (wd Ed) (dCons (dVar 0) (dCons (dVar 1) dNil))))) (dTest (dOp rdNe (dCallK sp_holds 0 2 [1, 0] [] (wd Ed) dNil (dCons (dVar 1) (dCons (dVar 0) dNil))) (dVar 3))))) (dRet (dC (.bl false))) dNext)
  (dRet (dOp rdEq (dTup (dCons (dCB rdRepr (dCons (dVar 0) dNil)) (dCons (dCB rdRepr (dCons (dVar 1) dNil)) dNil))) (dVar 2))))))
theorem st_law_looked_right (a0 a1 : D) : startD N_law_looked_right [a0, a1] = [some a0, some a1, none, none] := rfl
abbrev N_law_all_looked_right : List Str := ["_law_urn_here", "_law_saying", "_law_sheet", "_law_turn", "_law_bent_here", "_law_one", "_law_other"]
def t_law_all_looked_right (Ed : XKD) : TSD :=
  (dSeq (dFor (dRng1 (dCons (dC (.int 3)) dNil)) (dName 3)
  (dSeq (dSet 4 (dTup (dCons (dCall (sp_law_bent 6) [] (wd Ed) (dCons (dVar 0) (dCons (dVar 1) dNil))) (dCons (dCall (sp_law_bent 6) [] (wd Ed) (dCons (dVar 0) (dCons (dVar 2) dNil))) dNil))))
  (dFor (dItr (dLst (dCons (dTup (dCons (dVar 1) (dCons (dVar 2) dNil))) (dCons (dTup (dCons (dOp rdIx (dVar 4) (dC (.int 0))) (dCons (dVar 2) dNil))) (dCons (dTup (dCons (dVar 1) (dCons (dOp rdIx (dVar 4) (dC (.int 1))) dNil))) (dCons (dVar 4) (dCons (dTup (dCons (dVar 2) (dCons (dVar 1) dNil))) dNil))))))) (dTupG 2 (dGCons (dName 5) (dGCons (dName 6) dGNil)))
  (dIfS (dNot (dTest (dCall sp_law_looked_right [] (wd Ed) (dCons (dCall (sp_law_copied 6) [] (wd Ed) (dCons (dVar 5) dNil)) (dCons (dCall (sp_law_copied 6) [] (wd Ed) (dCons (dVar 6) dNil)) dNil))))) (dRet (dC (.bl false))) dNext))))
  (dRet (dC (.bl true))))
theorem st_law_all_looked_right (a0 a1 a2 : D) : startD N_law_all_looked_right [a0, a1, a2] = [some a0, some a1, some a2, none, none, none, none] := rfl
abbrev N_law : List Str := ["_law_script", "_law_at", "_law_urn_here", "_law_triple", "_law_sheet", "_law_saying", "_law_cut", "_law_other"]
def t_law (Ed : XKD) : TSD :=
  (dSeq (dFor (dRng1 (dCons (dCB rdMax2 (dCons (dC (.int 1)) (dCons (dCB rdMin2 (dCons (dC (.int 4)) (dCons (dCB rdLen (dCons (dVar 0) dNil)) dNil))) dNil))) dNil)) (dName 1)
  (dSeq (dSet 2 (dCall sp_law_urn [] (wd Ed) (dCons (dVar 0) (dCons (dVar 1) dNil))))
  (dSeq (dSet 3 (dCB rdTupA (dCons (dCB rdSorted (dCons (dCall sp_law_three [] (wd Ed) (dCons (dCall sp_law_way [] (wd Ed) (dCons (dVar 2) (dCons (dC (.int 60)) dNil))) dNil)) dNil)) dNil)))
  (dSeq (dSet 3 (dOp rdIx (dLst (dCons (dVar 3) (dCons (dVar 3) (dCons (dVar 3) (dCons (dVar 3) (dCons (dVar 3) (dCons (dVar 3) (dCons (dTup (dCons (dC (.int 1)) (dCons (dC (.int 1)) (dCons (dC (.int 1)) dNil)))) (dCons (dTup (dCons (dC (.int 1)) (dCons (dC (.int 1)) (dCons (dC (.int 2)) dNil)))) dNil))))))))) (dCall sp_law_draw [] (wd Ed) (dCons (dVar 2) (dCons (dC (.int 8)) dNil)))))
  (dSeq (dSet 4 (dCall sp_law_down [] (wd Ed) (dCons (dVar 3) dNil)))
  (dSeq (dSet 5 (dTup (dCons (dC (.str "triple")) (dCons (dOp rdIx (dVar 3) (dC (.int 0))) (dCons (dOp rdIx (dVar 3) (dC (.int 1))) (dCons (dOp rdIx (dVar 3) (dC (.int 2))) dNil))))))
  (dSeq (dIfS (dNot (dTest (dCall sp_law_all_looked_right [] (wd Ed) (dCons (dVar 2) (dCons (dVar 5) (dCons (dVar 4) dNil)))))) (dRet (dC (.bl false))) dNext)
  (dSeq (dSet 6 (dCall sp_law_draw [] (wd Ed) (dCons (dVar 2) (dCons (dCB rdLen (dCons (dVar 4) dNil)) dNil))))
  (dFor (dItr (dLst (dCons (dSl (dVar 4) dNoPart (dPart (dVar 6))) (dCons (dSl (dVar 4) (dPart (dVar 6)) dNoPart) (dCons (dOp rdAdd (dVar 4) (dLst (dCons (dTup (dCons (dC (.int 1)) (dCons (dC (.int 1)) (dCons (dC (.int 2)) dNil)))) (dCons (dTup (dCons (dC (.int 1)) (dCons (dC (.int 1)) (dCons (dC (.int 1)) dNil)))) dNil)))) (dCons (dOp rdAdd (dVar 4) (dLst (dCons (dTup (dCons (dC (.int 1)) (dCons (dC (.int 1)) (dCons (dC (.int 1)) dNil)))) dNil))) (dCons (dCB rdTupA (dCons (dVar 4) dNil)) dNil))))))) (dName 7)
  (dIfS (dNot (dTest (dCall sp_law_looked_right [] (wd Ed) (dCons (dVar 5) (dCons (dVar 7) dNil))))) (dRet (dC (.bl false))) dNext))))))))))
  (dRet (dC (.bl true))))
theorem st_law (a0 : D) : startD N_law [a0] = [some a0, none, none, none, none, none, none, none] := rfl

local macro_rules | `(tactic| walk_at "dy") => `(tactic| simp only [dCall, List.append_nil, dSeq, dSet, dIfS, dRet, dNext, dTest, dOp, dCB, dCons, dNil, dC, x_var0, x_varS, dTup, dLst, dLstO, dAndV, dOrV, dNotV, dAnd, dOr, dNot, dIf, dChain, dChain3, dStore, dBM, dDrop, dAsg, dTupG, x_tupL, x_tupX, dPlain, x_mulL, x_eqO_ss, x_neO_ss, dBM0, dGCons, dGNil, dName, dUn, dPar, dPar3, dSl, dPart, dNoPart, dRev, dBk, dFor, dItr, dRng1, dRng2,
  x_add_ii, x_add_ib, x_add_ss, x_add_tt, x_add_ll, x_sub, x_mul, x_mul_s, x_mulA, x_mulA_s, x_mulA_t, dCallK, sel_n1, sel_n2, sel_x2, sel_12, dZip, zipR, x_fdiv, x_mod, x_pow, x_neg, x_lt, x_le, x_gt, x_ge, x_eq_ii, x_eq_ss, x_eq_bb, x_ne_ii, x_ne_ss, x_ne_bb, x_abs, x_str_i, x_str_s, x_divmod, x_max2, x_min2, x_int_i, x_int_b, x_tupA_l, x_tupA_t, x_tupA_s, x_listA_l, x_listA_t, x_listA_s, x_sl_t, x_sl_l, x_sl_s, x_ixs, x_ixQ, x_ixS, atI_0, atI_1, atI_2, atI_3, x_inS, x_inT, x_notInT, dKin, dHT, dKeyed, keyR, dSumT, x_is_bb, x_isNot_bb, x_is_n, x_isNot_n, x_count, tyM,
  x_len_tup, x_len_lst, x_len_str, x_ixt, x_ixl, x_isi, isi_non_int, isi_non_bool, isi_non_str, isi_non_tuple, isi_non_list, isi_bl_int, isi_bl_bool, isi_bl_str, isi_bl_tuple, isi_bl_list, isi_int_int, isi_int_bool, isi_int_str, isi_int_tuple, isi_int_list, isi_str_int, isi_str_bool, isi_str_str, isi_str_tuple, isi_str_list, isi_tup_int, isi_tup_bool, isi_tup_str, isi_tup_tuple, isi_tup_list, isi_lst_int, isi_lst_bool, isi_lst_str, isi_lst_tuple, isi_lst_list,
  List.set_cons_zero, List.set_cons_succ, ite_tt, ite_ff, Bool.not_true, Bool.not_false, List.length_cons, List.length_nil, true_and, and_true, Nat.reduceAdd, Nat.reduceLeDiff, decide_eq_true_eq, Bool.not_eq_true', decide_eq_false_iff_not, reduceCtorEq, eq_self, if_false, if_true])

theorem pure_is_whole : ∀ ds S Q Ed, sp_is_whole ds S Q Ed → t_is_whole Ed { nx := fun _ S' => Q .non S', rt := Q } (startD N_is_whole ds) S := by
  rintro ds S Q Ed ⟨d, rfl, hd, q⟩
  rw [st_is_whole]
  unfold t_is_whole
  cases d <;> first | (walk_at "dy"; exact q) | exact absurd (show false = true from hd) Bool.false_ne_true

theorem pure_are_wholes : ∀ ds S Q Ed, sp_are_wholes ds S Q Ed → t_are_wholes Ed { nx := fun _ S' => Q .non S', rt := Q } (startD N_are_wholes ds) S := by
  rintro ds S Q Ed ⟨xs, n, rfl, hd, hl, q⟩
  rw [st_are_wholes]
  unfold t_are_wholes
  walk_at "dy"
  refine comp_pure (fun d => .bl (isWh d)) xs S (fun R hR => hR) (fun x hx S' Q' q' => ?_) (by omega) ?_
  · exact (⟨x, rfl, sm_data (smT.mp hd x hx), q'⟩ : sp_is_whole [x] S' Q' (fun _ _ => False))
  · refine x_allb (bs := xs.map isWh) (by rw [List.map_map]; rfl) ?_
    rw [List.all_map]
    exact q

theorem isTriD_wh {a b c : D} (h : isTriD (.tup [a, b, c]) = true) : isWh a = true ∧ isWh b = true ∧ isWh c = true := by
  unfold isTriD at h
  split at h
  · rename_i e
    injection e with e
    injection e with e1 e
    injection e with e2 e
    injection e with e3 e
    subst e1 e2 e3
    exact ⟨rfl, rfl, rfl⟩
  · cases h
theorem isTriD_len {xs : List D} (h : isTriD (.tup xs) = true) : ∃ a b c, xs = [a, b, c] := by
  unfold isTriD at h
  split at h
  · rename_i e
    injection e with e
    exact ⟨_, _, _, e⟩
  · cases h
theorem sm_ints {n : Nat} {x y z : Int} (h : sm n (.tup [.int x, .int y, .int z]) = true) : x.natAbs < 2 ^ n ∧ y.natAbs < 2 ^ n ∧ z.natAbs < 2 ^ n :=
  have k := smT.mp h
  ⟨sm_int.mp (k _ (by simp)), sm_int.mp (k _ (by simp)), sm_int.mp (k _ (by simp))⟩
theorem isTriD_at (x y z : Int) : isTriD (.tup [.int x, .int y, .int z]) = decide (1 ≤ x ∧ x ≤ y ∧ y ≤ z ∧ x * x + y * y + z * z = 3 * x * y * z) := rfl
theorem mul3_ok {n : Nat} {x y z : Int} (n0 : 1 ≤ n) (n1 : n ≤ 3000) (hx : x.natAbs < 2 ^ n) (hy : y.natAbs < 2 ^ n) (hz : z.natAbs < 2 ^ n) :
    Nat.log2 (Int.natAbs 3) + x.natAbs.log2 < 1000000 ∧ (3 * x).natAbs.log2 + y.natAbs.log2 < 1000000 ∧ (3 * x * y).natAbs.log2 + z.natAbs.log2 < 1000000 := by
  have b1 : (3 * x).natAbs < 2 ^ (2 + n) := wide_lt (by decide) hx
  have b2 : (3 * x * y).natAbs < 2 ^ (2 + n + n) := wide_lt b1 hy
  exact ⟨mulOk 2 n (by decide) hx (by decide) n0 (by omega), mulOk (2 + n) n b1 hy (by omega) n0 (by omega), mulOk (2 + n + n) n b2 hz (by omega) n0 (by omega)⟩
theorem pure_is_triple : ∀ ds S Q Ed, sp_is_triple ds S Q Ed → t_is_triple Ed { nx := fun _ S' => Q .non S', rt := Q } (startD N_is_triple ds) S := by
  rintro ds S Q Ed ⟨d, n, rfl, hd, n0, n1, q⟩
  rw [st_is_triple]
  unfold t_is_triple
  cases d with
  | tup xs =>
    walk_at "dy"
    by_cases c0 : (xs.length : Int) = 3
    · rw [if_neg (by simpa using c0)]
      obtain ⟨a, b, c, rfl⟩ : ∃ a b c, xs = [a, b, c] := by
        match xs, c0 with
        | [a, b, c], _ => exact ⟨a, b, c, rfl⟩
        | [], h => simp at h
        | [_], h => simp at h
        | [_, _], h => simp at h
        | _ :: _ :: _ :: _ :: _, h => simp only [List.length_cons] at h; omega
      have hk := smT.mp hd
      refine comp_pure (fun d => .bl (isWh d)) [a, b, c] S (fun R hR => hR) (fun x hx S' Q' q' => ?_) (by show 3 ≤ 16777216; decide) ?_
      · exact (⟨x, rfl, sm_data (hk x hx), q'⟩ : sp_is_whole [x] S' Q' (fun _ _ => False))
      · refine x_allb (bs := [isWh a, isWh b, isWh c]) rfl ?_
        cases e : List.all [isWh a, isWh b, isWh c] id with
        | false =>
          have e2 : isTriD (.tup [a, b, c]) = false := by
            cases e3 : isTriD (.tup [a, b, c]) with
            | false => rfl
            | true =>
              obtain ⟨h1, h2, h3⟩ := isTriD_wh e3
              rw [h1, h2, h3] at e
              exact absurd e (by decide)
          rw [e2] at q
          exact q
        | true =>
          simp only [List.all_cons, List.all_nil, id, Bool.and_true, Bool.and_eq_true] at e
          obtain ⟨x, rfl⟩ := isWh_int e.1
          obtain ⟨y, rfl⟩ := isWh_int e.2.1
          obtain ⟨z, rfl⟩ := isWh_int e.2.2
          obtain ⟨hx, hy, hz⟩ := sm_ints hd
          rw [isTriD_at] at q
          walk_at "dy"
          by_cases c1 : 1 ≤ x
          · rw [if_pos c1]
            by_cases c2 : x ≤ y
            · rw [if_pos c2]
              by_cases c3 : y ≤ z
              · rw [if_pos c3]
                have m3 := mul3_ok n0 n1 hx hy hz
                have p : ∀ {v : Int}, v.natAbs < 2 ^ n → 0 ≤ (2 : Int) ∧ ((v.natAbs.log2 : Int) + 1) * 2 ≤ 134217728 := fun h => powOk n 2 h n0 (by decide) (by omega)
                refine ⟨p hx, p hy, p hz, m3.1, m3.2.1, m3.2.2, ?_⟩
                have e4 : ∀ v : Int, v ^ Int.toNat 2 = v * v := fun v => by rw [show Int.toNat 2 = 2 from rfl, Int.pow_succ, Int.pow_succ, Int.pow_zero, Int.one_mul]
                rw [e4, e4, e4]
                simp only [c1, c2, c3, true_and] at q
                exact q
              · rw [if_neg c3]
                rw [decide_eq_false (fun h => c3 h.2.2.1)] at q
                exact q
            · rw [if_neg c2]
              rw [decide_eq_false (fun h => c2 h.2.1)] at q
              exact q
          · rw [if_neg c1]
            rw [decide_eq_false (fun h => c1 h.1)] at q
            exact q
    · rw [if_pos (by simpa using c0)]
      have e2 : isTriD (.tup xs) = false := by
        cases e3 : isTriD (.tup xs) with
        | false => rfl
        | true =>
          obtain ⟨a, b, c, rfl⟩ := isTriD_len e3
          exact absurd rfl c0
      rw [e2] at q
      exact q
  | _ => first | (walk_at "dy"; exact q) | exact absurd (show false = true from hd) Bool.false_ne_true

theorem pure_look_triple : ∀ ds S Q Ed, sp_look_triple ds S Q Ed → t_look_triple Ed { nx := fun _ S' => Q .non S', rt := Q } (startD N_look_triple ds) S := by
  rintro ds S Q Ed ⟨d, n, rfl, hd, n0, n1, q1, q2⟩
  rw [st_look_triple]
  unfold t_look_triple
  walk_at "dy"
  refine ⟨d, n, rfl, hd, n0, n1, ?_⟩
  cases e : isTriD d with
  | true =>
    walk_at "dy"
    exact q1 e
  | false =>
    walk_at "dy"
    exact q2 e

theorem sm_trD {n : Nat} {t : Int × Int × Int} : sm n (trD t) = true ↔ t.1.natAbs < 2 ^ n ∧ t.2.1.natAbs < 2 ^ n ∧ t.2.2.natAbs < 2 ^ n := by
  refine ⟨fun h => sm_ints h, fun ⟨h1, h2, h3⟩ => smT.mpr fun d hd => ?_⟩
  simp only [List.mem_cons, List.not_mem_nil, or_false] at hd
  rcases hd with rfl | rfl | rfl
  · exact sm_int.mpr h1
  · exact sm_int.mpr h2
  · exact sm_int.mpr h3
theorem pure_exchanged : ∀ ds S Q Ed, sp_exchanged ds S Q Ed → t_exchanged Ed { nx := fun _ S' => Q .non S', rt := Q } (startD N_exchanged ds) S := by
  rintro ds S Q Ed ⟨d, p, n, rfl, hd, n0, n1, q1, q2, q3⟩
  rw [st_exchanged]
  unfold t_exchanged
  refine seq_step fun r hr => ?_
  walk_at "dy"
  refine ⟨d, n, rfl, hd, n0, n1, fun e => ?_, q1⟩
  have q2 := q2 e
  have q3 := q3 e
  subst hr
  refine seq_step fun r hr => ?_
  unfold dRaiseF2
  walk_at "dy"
  by_cases c : 0 ≤ p ∧ p < 3
  rotate_left
  · have h := q2 c
    by_cases c0 : 0 ≤ p
    · have c3 : ¬ p < 3 := fun h => c ⟨c0, h⟩
      simp only [c0, c3, decide_true, decide_false, if_true, if_false, not_true, not_false_iff]
      try exact h
    · simp only [c0, decide_true, decide_false, if_true, if_false, not_true, not_false_iff]
      try exact h
  obtain ⟨t, rfl, q⟩ := q3 c.1 c.2
  obtain ⟨x, y, z⟩ := t
  obtain ⟨bx, by', bz⟩ := sm_trD.mp hd
  simp only [c.1, c.2, decide_true, if_true, not_true, if_false]
  try walk_at "dy"
  subst hr
  unfold trD
  have p3 : p = 0 ∨ p = 1 ∨ p = 2 := by omega
  rcases p3 with rfl | rfl | rfl
  · refine seq_step fun r hr => ?_
    have c1 : cutD [D.int x, D.int y, D.int z] none (some 0) = [] := rfl
    have c2 : cutD [D.int x, D.int y, D.int z] (some (0 + 1)) none = [D.int y, D.int z] := rfl
    walk_at "dy"
    rw [c1, c2]
    refine ⟨by show 2 ≤ 16777216; decide, ?_⟩
    try simp only [List.nil_append, List.cons_append]
    try walk_at "dy"
    subst hr
    walk_at "dy"
    have m1 := mul3_ok n0 n1 by' bz bx
    refine ⟨m1.1, m1.2.1, ?_⟩
    try walk_at "dy"
    exact ⟨[y, z, 3 * y * z - x], rfl, by show 3 < 64; decide, fun ns h1 h2 => by walk_at "dy"; exact q ns h1 h2⟩
  · refine seq_step fun r hr => ?_
    have c1 : cutD [D.int x, D.int y, D.int z] none (some 1) = [D.int x] := rfl
    have c2 : cutD [D.int x, D.int y, D.int z] (some (1 + 1)) none = [D.int z] := rfl
    walk_at "dy"
    rw [c1, c2]
    refine ⟨by show 2 ≤ 16777216; decide, ?_⟩
    try simp only [List.nil_append, List.cons_append]
    try walk_at "dy"
    subst hr
    walk_at "dy"
    have m1 := mul3_ok n0 n1 bx bz by'
    refine ⟨m1.1, m1.2.1, ?_⟩
    try walk_at "dy"
    exact ⟨[x, z, 3 * x * z - y], rfl, by show 3 < 64; decide, fun ns h1 h2 => by walk_at "dy"; exact q ns h1 h2⟩
  · refine seq_step fun r hr => ?_
    have c1 : cutD [D.int x, D.int y, D.int z] none (some 2) = [D.int x, D.int y] := rfl
    have c2 : cutD [D.int x, D.int y, D.int z] (some (2 + 1)) none = [] := rfl
    walk_at "dy"
    rw [c1, c2]
    refine ⟨by show 2 ≤ 16777216; decide, ?_⟩
    try simp only [List.nil_append, List.cons_append]
    try walk_at "dy"
    subst hr
    walk_at "dy"
    have m1 := mul3_ok n0 n1 bx by' bz
    refine ⟨m1.1, m1.2.1, ?_⟩
    try walk_at "dy"
    exact ⟨[x, y, 3 * x * y - z], rfl, by show 3 < 64; decide, fun ns h1 h2 => by walk_at "dy"; exact q ns h1 h2⟩

theorem pure_triple_holds : ∀ ds S Q Ed, sp_triple_holds ds S Q Ed → t_triple_holds Ed { nx := fun _ S' => Q .non S', rt := Q } (startD N_triple_holds ds) S := by
  rintro ds S Q Ed ⟨x, y, z, p, m, rfl, hm, hx, hy, hz, hp, hlp, q⟩
  rw [st_triple_holds]
  unfold t_triple_holds
  refine seq_step fun r hr => ?_
  cases p with
  | lst ps =>
    have hlp := hlp ps rfl
    have q : Q (.bl (isTriD (.tup [x, y, z]) && (ps.all isTriD && rowB (unD (.tup [x, y, z])) (ps.map unD)))) S := q
    have no : (ps.all isTriD && rowB (unD (.tup [x, y, z])) (ps.map unD)) = false → Q (.bl false) S := fun h => by rw [h, Bool.and_false] at q; exact q
    have no2 : isTriD (.tup [x, y, z]) = false → Q (.bl false) S := fun h => by rw [h, Bool.false_and] at q; exact q
    walk_at "dy"
    by_cases c0 : ps.length = 0
    · rw [if_pos (by simpa using c0)]
      have : ps = [] := List.length_eq_zero_iff.mp c0
      subst this
      refine no ?_
      rw [show ([] : List D).all isTriD = true from rfl, Bool.true_and]
      refine decide_eq_false fun h => ?_
      have := congrArg List.length (show ([] : List (Int × Int × Int)) = lsT _ _ from h)
      unfold lsT at this
      simp at this
    rw [if_neg (by simpa using c0)]
    refine comp_pureG (fun d => .bl (isTriD d)) ps S (fun R hR => by walk_at "dy"; exact hR) (fun d hd S' Q' q' => ?_) (by omega) ?_
    · refine (show dName 4 d [some x, some y, some z, some (.lst ps), none, none] S' _ from ?_)
      walk_at "dy"
      exact ⟨d, m + 1, rfl, sm_mono (by omega) (smLs.mp hp d hd), by omega, by omega, q'⟩
    refine x_allb (bs := ps.map isTriD) (by rw [List.map_map]; rfl) ?_
    rw [List.all_map, show ps.all (id ∘ isTriD) = ps.all isTriD from rfl]
    cases ea : ps.all isTriD with
    | false =>
      try walk_at "dy"
      try rw [if_pos (by simp)]
      exact no (by rw [ea]; rfl)
    | true =>
      try walk_at "dy"
      try rw [if_neg (by simp)]
      obtain ⟨ts, rfl, Ts⟩ := tris_inv ea
      subst hr
      refine seq_step fun r hr => ?_
      walk_at "dy"
      refine ⟨[x, y, z], m, rfl, smT.mpr (by simpa using ⟨hx, hy, hz⟩), by show 3 ≤ 100000; decide, ?_⟩
      cases ew : [x, y, z].all isWh with
      | false =>
        try walk_at "dy"
        refine no2 ?_
        cases ht : isTriD (.tup [x, y, z]) with
        | false => rfl
        | true =>
          obtain ⟨t, e, _⟩ := isTriD_inv ht
          unfold trD at e
          simp only [D.tup.injEq, List.cons.injEq, and_true] at e
          obtain ⟨rfl, rfl, rfl⟩ := e
          exact absurd ew (by simp [isWh])
      | true =>
        try walk_at "dy"
        have hi : ∃ t : Int × Int × Int, x = .int t.1 ∧ y = .int t.2.1 ∧ z = .int t.2.2 := by
          simp only [List.all_cons, List.all_nil, Bool.and_true, Bool.and_eq_true] at ew
          obtain ⟨a, rfl⟩ := isWh_int ew.1
          obtain ⟨b, rfl⟩ := isWh_int ew.2.1
          obtain ⟨c, rfl⟩ := isWh_int ew.2.2
          exact ⟨(a, b, c), rfl, rfl, rfl⟩
        obtain ⟨t, rfl, rfl, rfl⟩ := hi
        have q : Q (.bl (isTriD (trD t) && ((ts.map trD).all isTriD && rowB t ((ts.map trD).map unD)))) S := q
        rw [ea, Bool.true_and, un_map] at q
        rw [show D.tup [.int t.1, .int t.2.1, .int t.2.2] = trD t from rfl]
        have hts : ts ≠ [] := fun h => c0 (by rw [h]; rfl)
        obtain ⟨a, rs, rfl⟩ := List.exists_cons_of_ne_nil hts
        have hz2 : t.2.2 < 2 ^ 2200 := by
          have h1 : t.2.2.natAbs < 2 ^ 900 := Nat.lt_of_lt_of_le (sm_int.mp hz) (Nat.pow_le_pow_right (by decide) hm)
          have h2 : (t.2.2.natAbs : Int) < (2 ^ 900 : Nat) := by exact_mod_cast h1
          refine Int.lt_of_lt_of_le (b := ((2 ^ 900 : Nat) : Int)) (by omega) ?_
          exact_mod_cast Nat.pow_le_pow_right (by decide : 0 < 2) (by decide : 900 ≤ 2200)
        -- what the parts say
        have fin : ∀ b : Bool, (b = true ↔ Row t (a :: rs)) → TQ t → Q (.bl b) S := fun b h T => by
          have e1 : isTriD (trD t) = true := decide_eq_true ⟨T.x1, T.xy, T.yz, T.eq⟩
          have e2 : rowB t (a :: rs) = b := by
            cases h1 : rowB t (a :: rs) with
            | true => exact (h.mpr ((rowB_iff T hz2).mp h1)).symm
            | false =>
              cases b with
              | false => rfl
              | true => exact absurd ((rowB_iff T hz2).mpr (h.mp rfl)) (by rw [h1]; decide)
          rw [e1, e2, Bool.true_and] at q
          exact q
        have tqa : TQ a := Ts a (.head _)
        rw [show atI ((a :: rs).map trD) 0 = some (trD a) from atI_0]
        unfold ixQ
        dsimp only
        refine (show (eqOk (trD a) = true ∧ eqOk (trD t) = true) ∧ _ from ⟨⟨okD_eqOk (trD_ok a) (by decide), okD_eqOk (trD_ok t) (by decide)⟩, ?_⟩)
        rw [trD_deq]
        by_cases ca : a = t
        · subst ca
          rw [decide_eq_true rfl]
          try walk_at "dy"
          try rw [if_neg (by simp)]
          have hla : atI ((a :: rs).map trD) (-1) = some (trD ((a :: rs).getLast (by simp))) := by
            have e : (a :: rs).map trD = ((a :: rs).dropLast.map trD) ++ [trD ((a :: rs).getLast (by simp))] := by
              rw [← List.map_singleton (f := trD), ← List.map_append, List.dropLast_concat_getLast]
            rw [e]
            exact atI_last3
          have hcut : cutD ((a :: rs).map trD) none (some (-1)) = (a :: rs).dropLast.map trD := by
            rw [cut_init, List.map_dropLast]
          have tql : TQ ((a :: rs).getLast (by simp)) := Ts _ (List.getLast_mem _)
          rw [hla, hcut]
          dsimp only
          rw [x_ne_ones tql]
          by_cases cl : 1 < ((a :: rs).getLast (by simp)).2.2
          · rw [decide_eq_true cl]
            try walk_at "dy"
            try rw [if_pos (by simp)]
            exact fin false ⟨fun h => (nomatch h), fun h => by have := ((row_parts rs a a).mp h).2.1; omega⟩ tqa
          rw [decide_eq_false cl]
          try walk_at "dy"
          try rw [if_neg (by simp)]
          have okl : eqOk (.lst ((a :: rs).dropLast.map trD)) = true := okD_eqOk (k := 2) (okD_lst fun d hd => by
            obtain ⟨t, _, rfl⟩ := List.mem_map.mp hd
            exact trD_ok t) (by decide)
          have sh1 := Bool.and_eq_true_iff.mp (show (isDataL ((a :: rs).dropLast.map trD) && SeqAt.shaped (.list (pdL ((a :: rs).dropLast.map trD)))) = true from okl)
          have sh0 := Bool.and_eq_true_iff.mp (show (isData k_ONES && SeqAt.shaped (pd k_ONES)) = true from okD_eqOk (okD_ints [1, 1, 1]) (by decide))
          refine ⟨⟨sh0.1, sh1.1, sh0.2, sh1.2⟩, ?_⟩
          have eo : k_ONES = trD (1, 1, 1) := rfl
          cases hb : ((a :: rs).dropLast.map trD).any (fun z => deq z k_ONES) with
          | true =>
            try walk_at "dy"
            try rw [if_pos (by simp)]
            obtain ⟨d, hd, e⟩ := List.any_eq_true.mp hb
            obtain ⟨t, ht, rfl⟩ := List.mem_map.mp hd
            rw [eo, trD_deq] at e
            obtain rfl := of_decide_eq_true e
            exact fin false ⟨fun h => (nomatch h), fun h => by have := ((row_parts rs a a).mp h).2.2.1 _ ht; exact absurd this (by decide)⟩ tqa
          | false =>
            try walk_at "dy"
            try rw [if_neg (by simp)]
            have hin : ∀ t ∈ (a :: rs).dropLast, 1 < t.2.2 := fun t ht => by
              rcases Int.lt_or_le 1 t.2.2 with h | h
              · exact h
              · exfalso
                obtain ⟨h1, h2, h3⟩ := TrQ.ones (Ts t (List.mem_of_mem_take (by rw [← List.dropLast_eq_take]; exact ht))) h
                have e1 : t = (1, 1, 1) := by
                  obtain ⟨x, y, z⟩ := t
                  have h1 : x = 1 := h1
                  have h2 : y = 1 := h2
                  have h3 : z = 1 := h3
                  rw [h1, h2, h3]
                have := List.any_eq_false.mp hb (trD t) (List.mem_map.mpr ⟨t, ht, rfl⟩)
                rw [eo, trD_deq, e1, decide_eq_true rfl] at this
                exact this rfl
            subst hr
            walk_at "dy"
            have hdr : cutD ((a :: rs).map trD) (some 1) none = rs.map trD := by
              unfold cutD
              rw [show (1 : Int) = ((1 : Nat) : Int) from rfl, HT.sIx_nat]
              show (((a :: rs).map trD).drop (min 1 ((a :: rs).map trD).length)).take (((a :: rs).map trD).length - min 1 ((a :: rs).map trD).length) = _
              rw [show ((a :: rs).map trD).length = rs.length + 1 by simp, Nat.min_eq_left (by omega)]
              show (rs.map trD).take _ = _
              rw [List.take_of_length_le (by rw [List.length_map]; omega)]
            have lr : rs.length ≤ 16000000 := by
              rw [List.length_map, List.length_cons] at hlp
              omega
            have mem : ∀ d ∈ zipD ((a :: rs).map trD) (rs.map trD), ∃ v w, d = .tup [trD v, trD w] ∧ (v, w) ∈ (a :: rs).zip rs := fun d hd => by
              unfold zipD at hd
              obtain ⟨⟨dv, dw⟩, hq, rfl⟩ := List.mem_map.mp hd
              rw [List.zip_map] at hq
              obtain ⟨⟨v, w⟩, hvw, e⟩ := List.mem_map.mp hq
              obtain ⟨rfl, rfl⟩ := Prod.mk.inj e
              exact ⟨v, w, rfl, hvw⟩
            have zl : (zipD ((a :: rs).map trD) (rs.map trD)).length ≤ 16000000 := by
              unfold zipD
              rw [List.length_map, List.length_zip, List.length_map, List.length_map]
              omega
            refine comp_pureG chnF (zipD ((a :: rs).map trD) (rs.map trD)) S (fun R hR => ?_) (fun d hd S' Q' q' => ?_) (by omega) ?_
            · walk_at "dy"
              rw [hdr]
              exact hR
            · obtain ⟨v, w, rfl, hvw⟩ := mem d hd
              have hv : v ∈ (a :: rs) := (List.of_mem_zip hvw).1
              have hv1 : 1 < v.2.2 := hin v (zip_init rs a hvw)
              have Tv := Ts v hv
              have q' : Q' (.bl (decide (nxD v = w))) S' := q'
              refine (show dTupG 2 (dGCons (dName 4) (dGCons (dName 5) dGNil)) (.tup [trD v, trD w]) [some (D.int a.fst), some (D.int a.snd.fst), some (D.int a.snd.snd), some (D.lst (List.map trD (a :: rs))), none, none] S' _ from ?_)
              walk_at "dy"
              refine ⟨trD v, 2, 900, rfl, ?_, by decide, by decide, fun h => ?_, fun _ h => absurd ⟨by decide, by decide⟩ h, fun _ _ _ => ⟨v, rfl, fun ns hp hs => ?_⟩⟩
              · exact sm_mono hm (smLs.mp hp _ (List.mem_map.mpr ⟨v, hv, rfl⟩))
              · have : isTriD (trD v) = true := decide_eq_true ⟨Tv.x1, Tv.xy, Tv.yz, Tv.eq⟩
                exact absurd (h.symm.trans this) (by decide)
              · rw [nx_ex2 Tv hv1 hp hs]
                refine (show (eqOk (trD (nxD v)) = true ∧ eqOk (trD w) = true) ∧ _ from ⟨⟨okD_eqOk (trD_ok _) (by decide), okD_eqOk (trD_ok _) (by decide)⟩, ?_⟩)
                rw [trD_deq]
                exact q'
            have ez : (zipD ((a :: rs).map trD) (rs.map trD)).map chnF = (((a :: rs).zip rs).map fun q => decide (nxD q.1 = q.2)).map D.bl := by
              unfold zipD
              rw [List.zip_map, List.map_map, List.map_map, List.map_map]
              rfl
            rw [ez]
            refine x_allb rfl ?_
            refine fin _ ⟨fun h => ?_, fun h => ?_⟩ tqa
            · refine (row_parts rs a a).mpr ⟨rfl, by omega, hin, (chn_all (a :: rs)).mpr fun q hq => ?_⟩
              have := List.all_eq_true.mp h (decide (nxD q.1 = q.2)) (List.mem_map.mpr ⟨q, hq, rfl⟩)
              exact of_decide_eq_true this
            · have hc := (chn_all (a :: rs)).mp ((row_parts rs a a).mp h).2.2.2
              refine List.all_eq_true.mpr fun b hb => ?_
              obtain ⟨q, hq, rfl⟩ := List.mem_map.mp hb
              exact decide_eq_true (hc q hq)
        · rw [decide_eq_false ca]
          try walk_at "dy"
          try rw [if_pos (by simp)]
          by_cases T : TQ t
          · exact fin false ⟨fun h => (nomatch h), fun h => absurd ((row_parts rs a t).mp h).1 ca⟩ T
          · have : isTriD (trD t) = false := by
              cases h : isTriD (trD t) with
              | false => rfl
              | true =>
                obtain ⟨t', e, T'⟩ := isTriD_inv h
                have : t = t' := by
                  have := congrArg unD e
                  exact this
                rw [this] at T
                exact absurd T' T
            rw [this, Bool.false_and] at q
            exact q
  | _ => first | (walk_at "dy"; first | exact q | (unfold tripB at q; rw [Bool.and_false] at q; exact q)) | exact absurd (show false = true from hp) Bool.false_ne_true

theorem pure_holds : ∀ ds S Q Ed, sp_holds ds S Q Ed → t_holds Ed { nx := fun _ S' => Q .non S', rt := Q } (startD N_holds ds) S := by
  rintro ds S Q Ed ⟨c, p, m, k, B, rfl, tc, tp, hm, hB, cl, q⟩
  have hc := tm_sm tc.t
  have hp := tm_sm tp.t
  rw [st_holds]
  unfold t_holds
  cases c with
  | tup xs =>
    cases xs with
    | nil => walk_at "dy"; exact q
    | cons x r =>
      have hx := smT.mp hc x (.head _)
      refine seq_step fun r1 hr => ?_
      walk_at "dy"
      rw [if_neg (by omega)]
      cases x with
      | str z =>
        simp only [isi_str_str, if_true]
        try walk_at "dy"
        subst hr
        refine seq_step fun r1 hr => ?_
        walk_at "dy"
        subst hr
        refine seq_step fun r1 hr => ?_
        walk_at "dy"
        have e1 : ((r.length + 1 : Nat) : Int) - 1 = (r.length : Int) := by omega
        rw [e1]
        have three : r1 { nx := fun _ S' => Q .non S', rt := Q } [some (.tup (.str z :: r)), some p, some (.str z), some (.int (r.length : Int)), none] S := by
          subst hr
          refine seq_step fun r1 hr => ?_
          have th : r1 { nx := fun _ S' => Q .non S', rt := Q } [some (.tup (.str z :: r)), some p, some (.str z), some (.int (r.length : Int)), none] S := by
            subst hr
            refine seq_step fun r1 hr => ?_
            have rest : (r.length = 3 → z ≠ "triple") → r1 { nx := fun _ S' => Q .non S', rt := Q } [some (.tup (.str z :: r)), some p, some (.str z), some (.int (r.length : Int)), none] S := fun hne => by
              have eq0 : evB (.tup (.str z :: r)) p = false := by
                unfold evB
                split
                · rename_i z' a' b' c' p' h
                  simp only [D.tup.injEq, List.cons.injEq, D.str.injEq] at h
                  obtain ⟨rfl, rfl⟩ := h
                  rw [if_neg (hne rfl)]
                · rfl
              rw [eq0] at q
              subst hr
              walk_at "dy"
              exact q
            walk_at "dy"
            by_cases c1 : (r.length : Int) = 3
            · rw [if_pos c1]
              obtain ⟨a, b, d, rfl⟩ : ∃ a b d, r = [a, b, d] := by
                match r, c1 with
                | [a, b, d], _ => exact ⟨a, b, d, rfl⟩
                | [], h => simp at h
                | [_], h => simp at h
                | [_, _], h => simp at h
                | _ :: _ :: _ :: _ :: _, h => simp at h; omega
              have ha := smT.mp hc a (by simp)
              have hb := smT.mp hc b (by simp)
              have hd := smT.mp hc d (by simp)
              obtain ⟨n1, n2⟩ := cl.2.2 rfl
              by_cases ze : z = "triple"
              · subst ze
                rw [if_pos (by simp)]
                have e : k_HOLD_OF_THREE "triple" = some (.fn "triple_holds") := by unfold k_HOLD_OF_THREE; rw [if_pos rfl]
                unfold dKix
                rw [dVar_of rfl]
                dsimp only
                rw [e]
                dsimp only
                refine ⟨"triple_holds", sp_triple_holds, rfl, by simp, ?_⟩
                walk_at "dy"
                have e3 : evB (.tup [.str "triple", a, b, d]) p = tripB a b d p := by
                  unfold evB
                  dsimp only
                  rw [if_pos rfl]
                rw [e3] at q
                exact ⟨a, b, d, p, m, rfl, hm, ha, hb, hd, hp, fun ps e => by subst e; have := tp.lenL; omega, q⟩
              rw [if_neg (by simp only [List.mem_cons, List.not_mem_nil, or_false, not_or]; exact ⟨ze, n1, n2⟩)]
              exact rest fun _ => ze
            · rw [if_neg c1]
              exact rest fun h => absurd h (by omega)
          walk_at "dy"
          by_cases c2 : (r.length : Int) = 2
          · rw [if_pos c2]
            rw [if_neg (by simp only [List.mem_cons, List.not_mem_nil, or_false]; exact cl.2.1 (by omega))]
            exact th
          · rw [if_neg c2]
            exact th
        by_cases c0 : (r.length : Int) = 1
        · rw [if_pos c0]
          obtain ⟨n1, n2, n3, n4⟩ := cl.1 (by omega)
          rw [if_neg (by simp only [List.mem_cons, List.not_mem_nil, or_false, not_or]; exact ⟨n1, n2, n3, n4⟩)]
          exact three
        · rw [if_neg c0]
          exact three
      | non => simp only [isi_non_str]; try walk_at "dy"
               exact q
      | bl b => simp only [isi_bl_str]; try walk_at "dy"
                exact q
      | int b => simp only [isi_int_str]; try walk_at "dy"
                 exact q
      | tup b => simp only [isi_tup_str]; try walk_at "dy"
                 exact q
      | lst b => simp only [isi_lst_str]; try walk_at "dy"
                 exact q
      | _ => unfold sm at hx; cases hx
  | _ => first | (walk_at "dy"; exact q) | exact absurd (show false = true from hc) Bool.false_ne_true

theorem pure_law_urn : ∀ ds S Q Ed, sp_law_urn ds S Q Ed → t_law_urn Ed { nx := fun _ S' => Q .non S', rt := Q } (startD N_law_urn ds) S := by
  rintro ds S Q Ed ⟨ns, at_, rfl, h0, h1, q⟩
  rw [st_law_urn]
  unfold t_law_urn
  walk_at "dy"
  have fin : ∀ (g c : Int), 0 ≤ g → ∀ p, S p = none → Q (.obj p) (upS S p (.lst [.int g, .int (c.fmod 1000000000000000003 + 97 * at_ * at_ + 31 * at_ + 1), .int 0])) := fun g c hg p hp => by
    have f := fmod_in (a := c) (b := 1000000000000000003) (by decide)
    have e1 : 0 ≤ 97 * at_ * at_ := Int.mul_nonneg (by omega) h0
    have e2 : 97 * at_ * at_ ≤ 9700 * 100 := Int.mul_le_mul (by omega) (by omega) h0 (by omega)
    exact q p _ hp ⟨g, _, 0, upS_same, hg, by omega, by omega, by decide, by decide⟩ fun a ha => upS_ne ha
  have m1 : (Int.natAbs 97).log2 + at_.natAbs.log2 < 1000000 := mulOk 7 7 (by decide) (by omega) (by decide) (by decide) (by decide)
  have m2 : (97 * at_).natAbs.log2 + at_.natAbs.log2 < 1000000 := mulOk 14 7 (by omega) (by omega) (by decide) (by decide) (by decide)
  have m3 : (Int.natAbs 31).log2 + at_.natAbs.log2 < 1000000 := mulOk 7 7 (by decide) (by omega) (by decide) (by decide) (by decide)
  by_cases c : at_ < ((ns.map D.int).length : Int)
  · rw [if_pos c, atI_lt h0 c, List.getElem?_map]
    rw [List.length_map] at c
    have e : ns[at_.toNat]? = some ns[at_.toNat] := List.getElem?_eq_getElem (by omega)
    rw [e]
    show ixQ S _ (some (D.int ns[at_.toNat]))
    walk_at "dy"
    refine ⟨by decide, ?_⟩
    generalize e2 : (if ns[at_.toNat] < 0 then -ns[at_.toNat] else ns[at_.toNat]) = g
    have hg : 0 ≤ g := by rw [← e2]; split <;> omega
    split
    · exact ⟨by decide, m1, m2, m3, fin _ _ (by decide)⟩
    · exact ⟨by decide, m1, m2, m3, fin _ _ hg⟩
  · rw [if_neg c]
    refine ⟨by decide, ?_⟩
    split
    · exact ⟨by decide, m1, m2, m3, fin _ _ (by decide)⟩
    · exact ⟨by decide, m1, m2, m3, fin _ _ (by decide)⟩

theorem pure_law_draw : ∀ ds S Q Ed, sp_law_draw ds S Q Ed → t_law_draw Ed { nx := fun _ S' => Q .non S', rt := Q } (startD N_law_draw ds) S := by
  rintro ds S Q Ed ⟨u, w, B, rfl, ⟨g, c, n, hu, g0, c0, c1, n0, n1⟩, hB, w0, w1, q⟩
  have lw : w.natAbs.log2 < 9000 := Nat.lt_of_lt_of_le (log2_lt (n := 1000) (abs_lt_of (by omega) w1) (by decide)) (by decide)
  rw [st_law_draw]
  unfold t_law_draw
  walk_at "dy"
  rw [x_ixo hu]
  walk_at "dy"
  by_cases cg : 0 < g
  · rw [if_pos cg, x_ixo hu]
    walk_at "dy"
    refine ⟨by omega, ?_⟩
    rw [x_ixo hu]
    walk_at "dy"
    refine ⟨⟨by omega, lw⟩, ?_⟩
    rw [x_set hu (ixN_0 (by simp))]
    walk_at "dy"
    have f := fmod_in (a := g) w0
    refine q _ _ f.1 f.2 ⟨g.fdiv w, c, n, upS_same, ?_, c0, c1, n0, by omega⟩ fun a ha => upS_ne ha
    rw [Int.fdiv_eq_ediv_of_nonneg g (by omega)]
    exact Int.ediv_nonneg g0 (by omega)
  · rw [if_neg cg]
    rw [x_ixo hu]
    walk_at "dy"
    rw [x_set hu (ixN_2 (by simp))]
    have hu2 : upS S u (.lst [.int g, .int c, .int (n + 1)]) u = some (.lst [.int g, .int c, .int (n + 1)]) := upS_same
    walk_at "dy"
    rw [x_ixo hu2]
    walk_at "dy"
    rw [x_ixo hu2]
    walk_at "dy"
    have hn : n < 2 ^ 100 + 1 := by omega
    have b1 : (n + 1).natAbs < 2 ^ 101 := abs_lt_of (by omega) (by omega)
    have b2 : (2 * (n + 1) + 1).natAbs < 2 ^ 103 := abs_lt_of (by omega) (by omega)
    have b3 : c.natAbs < 2 ^ 70 := abs_lt_of c0 c1
    have b4 : (c * (2 * (n + 1) + 1)).natAbs < 2 ^ (70 + 103) := wide_lt b3 b2
    have b5 : (6007 * (n + 1)).natAbs < 2 ^ (13 + 101) := wide_lt (by decide) b1
    have b6 : (6007 * (n + 1) * (n + 1)).natAbs < 2 ^ (13 + 101 + 101) := wide_lt b5 b1
    have b7 : (c * (2 * (n + 1) + 1) + 6007 * (n + 1) * (n + 1) + 53).natAbs < 2 ^ 220 := by
      have e1 : (2 : Nat) ^ (70 + 103) ≤ 2 ^ 216 := Nat.pow_le_pow_right (by decide) (by decide)
      have e2 : (2 : Nat) ^ (13 + 101 + 101) ≤ 2 ^ 216 := Nat.pow_le_pow_right (by decide) (by decide)
      omega
    refine ⟨mulOk 2 101 (by decide) b1 (by decide) (by decide) (by decide), mulOk 70 103 b3 b2 (by decide) (by decide) (by decide), mulOk 13 101 (by decide) b1 (by decide) (by decide) (by decide), mulOk (13 + 101) 101 b5 b1 (by decide) (by decide) (by decide), powOk 220 3 b7 (by decide) (by decide) (by decide), by decide, ?_⟩
    have f7 := fmod_in (a := n + 1) (b := 7) (by decide)
    obtain ⟨p, ep, p0, p1⟩ := primes_at f7.1 f7.2
    have f8 := fmod_in (a := n + 1 + 3) (b := 7) (by decide)
    obtain ⟨p', ep', p0', p1'⟩ := primes_at f8.1 f8.2
    unfold primes at ep ep'
    rw [ep]
    walk_at "dy"
    have fm := fmod_in (a := (c * (2 * (n + 1) + 1) + 6007 * (n + 1) * (n + 1) + 53) ^ Int.toNat 3) (b := p) (by omega)
    rw [ep']
    walk_at "dy"
    generalize (c * (2 * (n + 1) + 1) + 6007 * (n + 1) * (n + 1) + 53) ^ Int.toNat 3 = big at fm ⊢
    have fd : 0 ≤ (big.fmod p).fdiv 8191 ∧ (big.fmod p).fdiv 8191 < 2 ^ 31 := by
      rw [Int.fdiv_eq_ediv_of_nonneg _ (by decide)]
      omega
    refine ⟨by omega, ⟨by decide, by decide⟩, mulOk 31 102 (abs_lt_of fm.1 (by omega)) (abs_lt_of (by omega) (by omega)) (by decide) (by decide) (by decide), by decide, by omega, ⟨by decide, by decide⟩, by omega, ?_⟩
    exact q _ _ (fmod_in w0).1 (fmod_in w0).2 ⟨g, c, n + 1, upS_same, g0, c0, c1, by omega, by omega⟩ fun a ha => upS_ne ha

theorem pure_law_whole : ∀ ds S Q Ed, sp_law_whole ds S Q Ed → t_law_whole Ed { nx := fun _ S' => Q .non S', rt := Q } (startD N_law_whole ds) S := by
  rintro ds S Q Ed ⟨d, rfl, hd, q⟩
  rw [st_law_whole]
  unfold t_law_whole
  cases d <;> first | (walk_at "dy"; exact q) | exact absurd (show false = true from hd) Bool.false_ne_true

theorem lr_cps : (Str.ofString "lr").cps.toList = [108, 114] := by decide +kernel
theorem lr_len : (Str.ofString "lr").length ≤ 16777216 := by decide +kernel
theorem pure_law_way : ∀ ds S Q Ed, sp_law_way ds S Q Ed → t_law_way Ed { nx := fun _ S' => Q .non S', rt := Q } (startD N_law_way ds) S := by
  rintro ds S Q Ed ⟨u, B, rfl, hU, hB, q⟩
  rw [st_law_way]
  unfold t_law_way
  walk_at "dy"
  refine ⟨u, 4, B, rfl, hU, by omega, by decide, by decide, fun kd S1 k0 k1 hU1 ho1 => ?_⟩
  walk_at "dy"
  refine ⟨u, 4, _, rfl, hU1, by omega, by decide, by decide, fun j S2 j0 j1 hU2 ho2 => ?_⟩
  walk_at "dy"
  obtain ⟨w, ew, hw⟩ := at_nat (ns := [4, 9, 20, 60]) j0 j1
  have w0 : 4 ≤ w ∧ w ≤ 60 := by
    simp only [List.mem_cons, List.not_mem_nil, or_false] at hw
    omega
  have ew' : atI [D.int 4, D.int 9, D.int 20, D.int 60] j = some (.int (w : Int)) := ew
  rw [ew']
  walk_at "dy"
  have hw5 : (w : Int) < 2 ^ 1000 := Int.lt_of_le_of_lt (b := 60) (by omega) (by decide)
  refine ⟨u, _, _, rfl, hU2, by omega, by omega, hw5, fun n S3 n0 n1 hU3 ho3 => ?_⟩
  walk_at "dy"
  refine ⟨by omega, ?_⟩
  obtain ⟨n, rfl⟩ := Int.eq_ofNat_of_zero_le n0
  have en : ((n : Nat) : Int).toNat = n := Int.toNat_natCast n
  refine loop_rng (fun i σ S' => ∃ (l : List Nat) (kk lt : Option D), σ = [some (.obj u), some (.int 60), some (.int kd), some (.int (n : Int)), some (.int ((cnL l).1 : Nat)), some (.int ((cnL l).2 : Nat)), some (.str (ofL l)), kk, lt] ∧ (∀ c ∈ l, c = 108 ∨ c = 114) ∧ l.length = i ∧ cnW l ≤ 60 ∧ Urn S' u (B + 3 + 2 * i) ∧ Oth S S' u) ⟨[], none, none, rfl, (fun c h => by cases h), rfl, (by show 2 ≤ 60; decide), hU3.mono (by omega), (ho1.trans ho2).trans ho3⟩ ?_ ?_
  · rintro i σ S4 N hi ⟨l, kk, lt, rfl, hl, hli, hlw, hU4, ho4⟩ k
    have hi' : i < n := by omega
    walk_at "dy"
    refine ⟨u, 2, _, rfl, hU4, by omega, by decide, by decide, fun a S5 a0 a1 hU5 ho5 => ?_⟩
    walk_at "dy"
    refine ⟨by decide, ?_⟩
    refine ⟨u, 5, _, rfl, hU5, by omega, by decide, by decide, fun b S6 b0 b1 hU6 ho6 => ?_⟩
    walk_at "dy"
    have f2 := fmod_in (a := (0 : Int) + i) (b := 2) (by decide)
    obtain ⟨g, eg, g0, g1⟩ : ∃ g : Int, atI [D.int a, D.int (((0 : Int) + i).fmod 2), D.int 0, D.int (if b = 0 then 1 else 0)] kd = some (.int g) ∧ 0 ≤ g ∧ g < 2 := by
      have h4 : kd = 0 ∨ kd = 1 ∨ kd = 2 ∨ kd = 3 := by omega
      rcases h4 with rfl | rfl | rfl | rfl
      · exact ⟨a, atI_0, a0, a1⟩
      · exact ⟨_, atI_1, f2.1, f2.2⟩
      · exact ⟨0, atI_2, by decide, by decide⟩
      · exact ⟨_, atI_3, by split <;> decide, by split <;> decide⟩
    have eb : (if decide (b = 0) = true then (1 : Int) else 0) = if b = 0 then 1 else 0 := by by_cases hb : b = 0 <;> simp [hb]
    rw [eg]
    walk_at "dy"
    refine ⟨lr_len, ?_⟩
    rw [lr_cps]
    have hU7 : Urn S6 u (B + 3 + 2 * ((i + 1 : Nat) : Int)) := hU6.mono (by omega)
    have ho7 : Oth S S6 u := (ho4.trans ho5).trans ho6
    have hq : Q (.str (ofL l)) S6 := q l S6 hl hlw (hU7.mono (by omega)) ho7
    have g2 : g = 0 ∨ g = 1 := by omega
    rcases g2 with rfl | rfl
    · have e1 : cnL (l ++ [108]) = ((cnL l).1, (cnL l).1 + (cnL l).2) := by rw [cnL_snoc]; rfl
      rw [atI_0]
      walk_at "dy"
      rw [str_l, if_pos rfl]
      by_cases hb : (60 : Int) < ((cnL l).1 : Nat) + (((cnL l).1 : Nat) + ((cnL l).2 : Nat) : Int)
      · rw [if_pos hb]; exact hq
      · rw [if_neg hb]
        refine ⟨by rw [ofL_len, hli]; show i + 1 ≤ _; omega, k _ _ ⟨l ++ [108], some (.int (0 + i)), some (.str ⟨#[108]⟩), ?_, fun c h => ?_, by rw [List.length_append, hli]; rfl, ?_, hU7, ho7⟩⟩
        · rw [e1, ← ofL_app, Int.natCast_add]; rfl
        · rcases List.mem_append.mp h with h | h
          · exact hl c h
          · exact .inl (List.mem_singleton.mp h)
        · unfold cnW; rw [e1]; show (cnL l).1 + ((cnL l).1 + (cnL l).2) ≤ 60; omega
    · have e1 : cnL (l ++ [114]) = ((cnL l).1 + (cnL l).2, (cnL l).2) := by rw [cnL_snoc]; rfl
      rw [atI_1]
      walk_at "dy"
      rw [str_l, if_neg (by decide)]
      by_cases hb : (60 : Int) < (((cnL l).1 : Nat) + ((cnL l).2 : Nat) : Int) + ((cnL l).2 : Nat)
      · rw [if_pos hb]; exact hq
      · rw [if_neg hb]
        refine ⟨by rw [ofL_len, hli]; show i + 1 ≤ _; omega, k _ _ ⟨l ++ [114], some (.int (0 + i)), some (.str ⟨#[114]⟩), ?_, fun c h => ?_, by rw [List.length_append, hli]; rfl, ?_, hU7, ho7⟩⟩
        · rw [e1, ← ofL_app, Int.natCast_add]; rfl
        · rcases List.mem_append.mp h with h | h
          · exact hl c h
          · exact .inr (List.mem_singleton.mp h)
        · unfold cnW; rw [e1]; show (cnL l).1 + (cnL l).2 + (cnL l).2 ≤ 60; omega
  · rintro σ S4 ⟨l, kk, lt, rfl, hl, hli, hlw, hU4, ho4⟩
    walk_at "dy"
    exact q l S4 hl hlw (hU4.mono (by omega)) ho4

theorem pure_law_three : ∀ ds S Q Ed, sp_law_three ds S Q Ed → t_law_three Ed { nx := fun _ S' => Q .non S', rt := Q } (startD N_law_three ds) S := by
  rintro ds S Q Ed ⟨l, rfl, hc, hl, q⟩
  rw [st_law_three]
  unfold t_law_three
  walk_at "dy"
  refine loop_str (fun p σ S' => ∃ z, σ = [some (.str (ofL l)), some (.int (thL p).1), some (.int (thL p).2.1), some (.int (thL p).2.2), z] ∧ S' = S) ⟨_, rfl, rfl⟩ ?_ ?_
  · rintro p c r σ S' N e ⟨z, rfl, rfl⟩ k
    rw [ofL_cps] at e
    have I := mkI_of p
    have hp : cnW p ≤ 700 := by
      have := cnW_le p (c :: r)
      rw [← e] at this
      omega
    obtain ⟨g1, g2, g3⟩ := I.small7 hp
    have m : ∀ {a b : Int}, a.natAbs < 2 ^ 2100 → b.natAbs < 2 ^ 2100 → Nat.log2 (Int.natAbs 3) + a.natAbs.log2 < 1000000 ∧ (3 * a).natAbs.log2 + b.natAbs.log2 < 1000000 := fun ha hb =>
      ⟨mulOk 2 2100 (by decide) ha (by decide) (by decide) (by decide), mulOk (2 + 2100) 2100 (wide_lt (by decide) ha) hb (by decide) (by decide) (by decide)⟩
    have kk := k [some (.str (ofL l)), some (.int (thL (p ++ [c])).1), some (.int (thL (p ++ [c])).2.1), some (.int (thL (p ++ [c])).2.2), some (.str ⟨#[c]⟩)] S' ⟨_, rfl, rfl⟩
    rw [thL_snoc] at kk
    unfold thS at kk
    walk_at "dy"
    rw [str_l]
    by_cases c1 : c = 108
    · subst c1
      rw [if_pos rfl] at kk
      rw [if_pos rfl]
      exact ⟨(m g1 g3).1, (m g1 g3).2, kk⟩
    · rw [if_neg c1] at kk
      rw [if_neg (fun h => c1 (by injection h with h; injection h with h; injection h))]
      exact ⟨(m g3 g2).1, (m g3 g2).2, kk⟩
  · rintro σ S' ⟨z, rfl, rfl⟩
    walk_at "dy"
    exact q

theorem pure_law_bent : ∀ n ds S Q Ed, sp_law_bent (n + 1) ds S Q Ed → t_law_bent n Ed { nx := fun _ S' => Q .non S', rt := Q } (startD N_law_bent ds) S := by
  rintro n ds S Q Ed ⟨u, d, m, k_, B, U, rfl, hU, hb, T, hm, hB, hd, q⟩
  rw [st_law_bent]
  unfold t_law_bent
  have hsm := tm_sm T.t
  refine seq_step fun r hr => ?_
  walk_at "dy"
  refine ⟨u, _, _, rfl, hU, by omega, by decide, by decide, fun w S1 w0 w1 hU1 ho1 => ?_⟩
  try walk_at "dy"
  subst hr
  refine seq_step fun r hr => ?_
  by_cases c0 : w = 0
  · subst c0
    walk_at "dy"
    refine ⟨u, _, _, rfl, hU1, by omega, by decide, by decide, fun i S2 i0 i1 hU2 ho2 => ?_⟩
    try walk_at "dy"
    obtain ⟨x, hx, ex⟩ := atI_ex (l := cons10) i0 i1
    unfold cons10 at ex
    rw [ex]
    exact q _ _ (.c0 _ _ hx) (hU2.mono (by omega)) (ho1.trans ho2)
  walk_at "dy"
  try rw [if_neg (by simpa using c0)]
  subst hr
  refine seq_step fun r hr => ?_
  walk_at "dy"
  refine ⟨d, rfl, sm_data hsm, ?_⟩
  cases ew : isWh d with
  | true =>
    obtain ⟨i, rfl⟩ := isWh_int ew
    have hi := tm_int.mp T.t
    have l1 : i.natAbs.log2 < 1800 := log2_lt (n := 1800) (Nat.lt_of_lt_of_le hi (Nat.pow_le_pow_right (by decide) hm)) (by decide)
    try walk_at "dy"
    refine ⟨by have : (Int.natAbs 2).log2 ≤ 3 := by decide
               omega, by omega, u, _, _, rfl, hU1, by omega, by decide, by decide, fun j S2 j0 j1 hU2 ho2 => ?_⟩
    try walk_at "dy"
    obtain ⟨x, hx, ex⟩ := atI_ex (l := whs i) j0 j1
    unfold whs at ex
    rw [ex]
    exact q _ _ (.wh i x hx) (hU2.mono (by omega)) (ho1.trans ho2)
  | false =>
    try walk_at "dy"
    subst hr
    have none4 : seqless d = true → ∀ (σ : Si) (Q' : DK) (E : XKD), (∀ x S2, Q' x S2 = Q x S2) → sp_law_draw [.obj u, .int 4] S1 (fun y S2 => rdIx (.lst [D.int 1, .str "b", .tup [.tup []], .non]) y S2 Q') E := fun hs σ Q' E hq => by
      refine ⟨u, _, _, rfl, hU1, by omega, by decide, by decide, fun j S2 j0 j1 hU2 ho2 => ?_⟩
      obtain ⟨x, hx, ex⟩ := atI_ex (l := cons4) j0 j1
      unfold cons4 at ex
      show ixQ S2 Q' (atI [D.int 1, .str "b", .tup [.tup []], .non] j)
      rw [ex]
      show Q' x S2
      rw [hq]
      exact q _ _ (.no _ x hs hx) (hU2.mono (by omega)) (ho1.trans ho2)
    refine seq_step fun r hr => ?_
    have go : seqless d = false → r { nx := fun _ S' => Q .non S', rt := Q } [some (.obj u), some d, some (.int w), none, none] S1 := fun hs => by
      subst hr
      have eb : ∀ (k : Nat), (k : Int) + 1 = ((k + 1 : Nat) : Int) := fun _ => rfl
      have ct : ∀ (xs : List D) (k : Nat), k ≤ xs.length → cutD xs none (some (k : Int)) = xs.take k := fun xs k hk => by
        unfold cutD
        rw [HT.sIx_nat, show HT.sIx xs.length 0 none = 0 from rfl, Nat.min_eq_left hk]
        rfl
      have cd : ∀ (xs : List D) (k : Nat), k ≤ xs.length → cutD xs (some (k : Int)) none = xs.drop k := fun xs k hk => by
        unfold cutD
        rw [HT.sIx_nat, Nat.min_eq_left hk]
        show (xs.drop k).take (xs.length - k) = xs.drop k
        rw [List.take_of_length_le (by rw [List.length_drop]; omega)]
      refine seq_step fun r hr => ?_
      cases d with
      | str z =>
        obtain ⟨l, rfl⟩ := str_ofL z
        have hz := sm_str.mp hsm
        rw [ofL_len] at hz
        have hl : 0 < l.length := by
          have := of_decide_eq_false hs
          rw [ofL_len] at this
          omega
        have st : ∀ k : Nat, k ≤ l.length → cutS (ofL l) none (some (k : Int)) = ofL (l.take k) := fun k hk => by
          rw [cutS_take (by omega) (by omega)]; rfl
        have sd : ∀ k : Nat, k ≤ l.length → cutS (ofL l) (some (k : Int)) none = ofL (l.drop k) := fun k hk => by
          rw [cutS_drop (by omega) (by omega)]; rfl
        walk_at "dy"
        rw [ofL_len]
        refine ⟨by omega, u, _, _, rfl, hU1, by omega, by omega, ?_, fun k S2 k0 k1 hU2 ho2 => ?_⟩
        · exact Int.lt_of_le_of_lt (b := 100000) (by omega) (by decide)
        obtain ⟨k, rfl⟩ := Int.eq_ofNat_of_zero_le k0
        have hk : k < l.length := by omega
        have hU3 := hU2.mono (show U + 1 + 1 ≤ U + 4 * ((n + 1 : Nat) : Int) by omega)
        have ho3 := ho1.trans ho2
        try walk_at "dy"
        subst hr
        refine seq_step fun r hr => ?_
        by_cases c1 : w = 1
        · subst c1
          walk_at "dy"
          try simp only [eb]
          rw [st k (by omega), sd (k + 1) (by omega), ofL_len, ofL_len, ofL_app]
          refine ⟨by omega, by omega, ?_, ?_⟩
          · simp only [ofL_len, List.length_take, List.length_drop]; omega
          exact q _ _ (.cutS l k hk) hU3 ho3
        walk_at "dy"
        try rw [if_neg (by simpa using c1)]
        subst hr
        refine seq_step fun r hr => ?_
        by_cases c2 : w = 2
        · subst c2
          walk_at "dy"
          try simp only [eb]
          rw [st (k + 1) (by omega), sd k (by omega), ofL_len, ofL_len, ofL_app]
          refine ⟨by omega, by omega, ?_, ?_⟩
          · simp only [ofL_len, List.length_take, List.length_drop]; omega
          exact q _ _ (.twS l k hk) hU3 ho3
        walk_at "dy"
        try rw [if_neg (by simpa using c2)]
        subst hr
        refine seq_step fun r hr => ?_
        walk_at "dy"
        refine ⟨by rw [ofL_len]; omega, u, _, _, rfl, hU2, by omega, by decide, by decide, fun i S3 i0 i1 hU4 ho4 => ?_⟩
        obtain ⟨i, rfl⟩ := Int.eq_ofNat_of_zero_le i0
        have ea : (Str.ofString "abclr").cps.toList = [97, 98, 99, 108, 114] := by decide +kernel
        obtain ⟨c, hc, ec⟩ : ∃ c, c ∈ [97, 98, 99, 108, 114] ∧ [97, 98, 99, 108, 114][i]? = some c := ⟨_, List.getElem_mem (show i < 5 by omega), List.getElem?_eq_getElem (show i < 5 by omega)⟩
        rw [x_ixs, ea, atI_nat ec]
        refine ⟨by decide +kernel, ?_⟩
        unfold ixS
        dsimp only
        rw [show D.str ⟨#[c]⟩ = D.str (ofL [c]) from rfl]
        try simp only [eb]
        rw [st k (by omega), sd (k + 1) (by omega)]
        try walk_at "dy"
        refine ⟨?_, by rw [ofL_len]; omega, ?_⟩
        · simp only [ofL_len, List.length_take, List.length_singleton]; omega
        rw [ofL_app]
        try walk_at "dy"
        refine ⟨?_, ?_⟩
        · simp only [ofL_len, List.length_append, List.length_take, List.length_drop, List.length_singleton]; omega
        rw [ofL_app]
        exact q _ _ (.sg l k c hk hc) (hU4.mono (by omega)) (ho3.trans ho4)
      | tup xs =>
        have hl := T.lenT
        have h0 : 0 < xs.length := Nat.pos_of_ne_zero (of_decide_eq_false hs)
        walk_at "dy"
        refine ⟨u, _, _, rfl, hU1, by omega, by omega, ?_, fun k S2 k0 k1 hU2 ho2 => ?_⟩
        · exact Int.lt_of_le_of_lt (b := 900000) (by omega) (by decide)
        obtain ⟨k, rfl⟩ := Int.eq_ofNat_of_zero_le k0
        have hk : k < xs.length := by omega
        have hU3 := hU2.mono (show U + 1 + 1 ≤ U + 4 * ((n + 1 : Nat) : Int) by omega)
        have ho3 := ho1.trans ho2
        try walk_at "dy"
        subst hr
        refine seq_step fun r hr => ?_
        by_cases c1 : w = 1
        · subst c1
          walk_at "dy"
          try simp only [eb]
          rw [ct xs k (by omega), cd xs (k + 1) (by omega)]
          refine ⟨?_, ?_⟩
          · simp only [List.length_take, List.length_drop]; omega
          exact q _ _ (.cutT xs k hk) hU3 ho3
        walk_at "dy"
        try rw [if_neg (by simpa using c1)]
        subst hr
        refine seq_step fun r hr => ?_
        by_cases c2 : w = 2
        · subst c2
          walk_at "dy"
          try simp only [eb]
          rw [ct xs (k + 1) (by omega), cd xs k (by omega)]
          refine ⟨?_, ?_⟩
          · simp only [List.length_take, List.length_drop]; omega
          exact q _ _ (.twT xs k hk) hU3 ho3
        walk_at "dy"
        try rw [if_neg (by simpa using c2)]
        subst hr
        refine seq_step fun r hr => ?_
        walk_at "dy"
        subst hr
        refine seq_step fun r hr => ?_
        by_cases c3 : w = 3
        · subst c3
          walk_at "dy"
          exact q _ _ (.flT xs) hU3 ho3
        walk_at "dy"
        try rw [if_neg (by simpa using c3)]
        subst hr
        refine seq_step fun r hr => ?_
        walk_at "dy"
        refine ⟨xs, rfl, fun p hp => ?_⟩
        have hup : u ≠ p := hU2.ne hp
        try walk_at "dy"
        subst hr
        refine seq_step fun r hr => ?_
        walk_at "dy"
        have ek : xs[k]? = some xs[k] := List.getElem?_eq_getElem hk
        rw [x_ixo upS_same, atI_nat ek]
        unfold ixQ
        dsimp only
        have he : xs[k] ∈ xs := List.getElem_mem hk
        have hde := (T.elT he).2
        refine ⟨u, xs[k], m, k_, B, U + 1 + 1, rfl, hU2.up hup, by omega, (T.elT he).1, hm, hB, by omega, fun e' S5 hbe hU5 ho5 => ?_⟩
        have hp5 : S5 p = some (.lst xs) := (ho5 p (Ne.symm hup)).trans upS_same
        try walk_at "dy"
        rw [x_set hp5 (Dv.ixN_nat hk)]
        subst hr
        refine seq_step fun r hr => ?_
        have fin : Oth S (del (upS S5 p (.lst (xs.set k e'))) p) u := fun a ha => by
          by_cases hap : a = p
          · rw [hap, Dv.del_same, ← ho3 p (Ne.symm hup), hp]
          · rw [Dv.del_ne hap, upS_ne hap, ho5 a ha, upS_ne hap]
            exact ho3 a ha
        have hU6 : Urn (del (upS S5 p (.lst (xs.set k e'))) p) u (U + 4 * ((n + 1 : Nat) : Int)) := ((hU5.up hup).del hup).mono (by omega)
        have res := q _ _ (.inT xs k _ e' ek hbe) hU6 fin
        generalize hT : upS S5 p (.lst (xs.set k e')) = S6 at *
        have hp6 : S6 p = some (.lst (xs.set k e')) := by rw [← hT]; exact upS_same
        walk_at "dy"
        subst hr
        refine ⟨p, _, rfl, hp6, ?_⟩
        walk_at "dy"
        exact res
      | lst xs =>
        have hl := T.lenL
        have h0 : 0 < xs.length := Nat.pos_of_ne_zero (of_decide_eq_false hs)
        walk_at "dy"
        refine ⟨u, _, _, rfl, hU1, by omega, by omega, ?_, fun k S2 k0 k1 hU2 ho2 => ?_⟩
        · exact Int.lt_of_le_of_lt (b := 900000) (by omega) (by decide)
        obtain ⟨k, rfl⟩ := Int.eq_ofNat_of_zero_le k0
        have hk : k < xs.length := by omega
        have hU3 := hU2.mono (show U + 1 + 1 ≤ U + 4 * ((n + 1 : Nat) : Int) by omega)
        have ho3 := ho1.trans ho2
        try walk_at "dy"
        subst hr
        refine seq_step fun r hr => ?_
        by_cases c1 : w = 1
        · subst c1
          walk_at "dy"
          try simp only [eb]
          rw [ct xs k (by omega), cd xs (k + 1) (by omega)]
          refine ⟨?_, ?_⟩
          · simp only [List.length_take, List.length_drop]; omega
          exact q _ _ (.cutL xs k hk) hU3 ho3
        walk_at "dy"
        try rw [if_neg (by simpa using c1)]
        subst hr
        refine seq_step fun r hr => ?_
        by_cases c2 : w = 2
        · subst c2
          walk_at "dy"
          try simp only [eb]
          rw [ct xs (k + 1) (by omega), cd xs k (by omega)]
          refine ⟨?_, ?_⟩
          · simp only [List.length_take, List.length_drop]; omega
          exact q _ _ (.twL xs k hk) hU3 ho3
        walk_at "dy"
        try rw [if_neg (by simpa using c2)]
        subst hr
        refine seq_step fun r hr => ?_
        walk_at "dy"
        subst hr
        refine seq_step fun r hr => ?_
        by_cases c3 : w = 3
        · subst c3
          walk_at "dy"
          exact q _ _ (.flL xs) hU3 ho3
        walk_at "dy"
        try rw [if_neg (by simpa using c3)]
        subst hr
        refine seq_step fun r hr => ?_
        walk_at "dy"
        refine ⟨xs, rfl, fun p hp => ?_⟩
        have hup : u ≠ p := hU2.ne hp
        try walk_at "dy"
        subst hr
        refine seq_step fun r hr => ?_
        walk_at "dy"
        have ek : xs[k]? = some xs[k] := List.getElem?_eq_getElem hk
        rw [x_ixo upS_same, atI_nat ek]
        unfold ixQ
        dsimp only
        have he : xs[k] ∈ xs := List.getElem_mem hk
        have hde := (T.elL he).2
        refine ⟨u, xs[k], m, k_, B, U + 1 + 1, rfl, hU2.up hup, by omega, (T.elL he).1, hm, hB, by omega, fun e' S5 hbe hU5 ho5 => ?_⟩
        have hp5 : S5 p = some (.lst xs) := (ho5 p (Ne.symm hup)).trans upS_same
        try walk_at "dy"
        rw [x_set hp5 (Dv.ixN_nat hk)]
        subst hr
        refine seq_step fun r hr => ?_
        have fin : Oth S (del (upS S5 p (.lst (xs.set k e'))) p) u := fun a ha => by
          by_cases hap : a = p
          · rw [hap, Dv.del_same, ← ho3 p (Ne.symm hup), hp]
          · rw [Dv.del_ne hap, upS_ne hap, ho5 a ha, upS_ne hap]
            exact ho3 a ha
        have hU6 : Urn (del (upS S5 p (.lst (xs.set k e'))) p) u (U + 4 * ((n + 1 : Nat) : Int)) := ((hU5.up hup).del hup).mono (by omega)
        have res := q _ _ (.inL xs k _ e' ek hbe) hU6 fin
        generalize hT : upS S5 p (.lst (xs.set k e')) = S6 at *
        have hp6 : S6 p = some (.lst (xs.set k e')) := by rw [← hT]; exact upS_same
        walk_at "dy"
        refine ⟨p, _, rfl, hp6, ?_⟩
        walk_at "dy"
        exact res
      | _ => cases hs
    cases d with
    | int i => cases ew
    | non =>
      walk_at "dy"
      rw [x_isi3_non]
      try walk_at "dy"
      exact none4 rfl [] _ _ fun _ _ => rfl
    | bl b =>
      walk_at "dy"
      rw [x_isi3_bl]
      try walk_at "dy"
      exact none4 rfl [] _ _ fun _ _ => rfl
    | str z =>
      have hz := sm_str.mp hsm
      walk_at "dy"
      rw [x_isi3_str]
      try walk_at "dy"
      by_cases c : z.length = 0
      · rw [if_pos (by simpa using c)]
        exact ⟨by omega, none4 (decide_eq_true c) [] _ _ fun _ _ => rfl⟩
      · rw [if_neg (by simpa using c)]
        exact ⟨by omega, go (decide_eq_false c)⟩
    | tup xs =>
      walk_at "dy"
      rw [x_isi3_tup]
      try walk_at "dy"
      by_cases c : xs.length = 0
      · rw [if_pos (by simpa using c)]
        exact none4 (decide_eq_true c) [] _ _ fun _ _ => rfl
      · rw [if_neg (by simpa using c)]
        exact go (decide_eq_false c)
    | lst xs =>
      walk_at "dy"
      rw [x_isi3_lst]
      try walk_at "dy"
      by_cases c : xs.length = 0
      · rw [if_pos (by simpa using c)]
        exact none4 (decide_eq_true c) [] _ _ fun _ _ => rfl
      · rw [if_neg (by simpa using c)]
        exact go (decide_eq_false c)
    | _ => unfold sm at hsm; cases hsm

theorem pure_law_is_claim : ∀ ds S Q Ed, sp_law_is_claim ds S Q Ed → t_law_is_claim Ed { nx := fun _ S' => Q .non S', rt := Q } (startD N_law_is_claim ds) S := by
  rintro ds S Q Ed ⟨d, z, n, m, rfl, hd, n1, q⟩
  rw [st_law_is_claim]
  unfold t_law_is_claim
  cases d with
  | tup xs =>
    cases xs with
    | nil =>
      walk_at "dy"
      have e : ((0 : Nat) : Int) ≠ (n : Int) := by omega
      try simp only [List.length_nil] at *
      try rw [if_neg (by omega)]
      exact q
    | cons x r =>
      have hx := smT.mp hd x (.head _)
      walk_at "dy"
      by_cases c : (((r.length + 1 : Nat) : Int) = (n : Int))
      · rw [if_pos c]
        have c' : (r.length : Int) + 1 = (n : Int) := by omega
        cases x with
        | str y =>
          have q : Q (.bl (decide ((r.length : Int) + 1 = (n : Int)) && decide (y = z))) S := q
          rw [decide_eq_true c', Bool.true_and] at q
          simp only [isi_str_str, if_true]
          exact q
        | non => simp only [isi_non_str]; exact q
        | bl b => simp only [isi_bl_str]; exact q
        | int b => simp only [isi_int_str]; exact q
        | tup b => simp only [isi_tup_str]; exact q
        | lst b => simp only [isi_lst_str]; exact q
        | _ => unfold sm at hx; cases hx
      · rw [if_neg c]
        have c' : ¬ (r.length : Int) + 1 = (n : Int) := by omega
        cases x with
        | str y =>
          have q : Q (.bl (decide ((r.length : Int) + 1 = (n : Int)) && decide (y = z))) S := q
          rw [decide_eq_false c', Bool.false_and] at q
          exact q
        | _ => exact q
  | _ => first | (walk_at "dy"; exact q) | exact absurd (show false = true from hd) Bool.false_ne_true

theorem pure_law_copied : ∀ n ds S Q Ed, sp_law_copied (n + 1) ds S Q Ed → t_law_copied n Ed { nx := fun _ S' => Q .non S', rt := Q } (startD N_law_copied ds) S := by
  rintro n ds S Q Ed ⟨d, m, k, B, rfl, T, hB, hd, q⟩
  rw [st_law_copied]
  unfold t_law_copied
  have hsm := tm_sm T.t
  cases d with
  | lst xs =>
    have hl := T.lenL
    refine seq_step fun r hr => ?_
    walk_at "dy"
    refine comp_pureG (fun x => x) xs S (fun R hR => by walk_at "dy"; exact hR) (fun x hx S' Q' q' => ?_) (by omega) (by rw [List.map_id']; exact q)
    walk_at "dy"
    have := (T.elL hx).2
    exact ⟨x, m, k, B, rfl, (T.elL hx).1, hB, by omega, q'⟩
  | tup xs =>
    have hl := T.lenT
    refine seq_step fun r hr => ?_
    walk_at "dy"
    subst hr
    refine seq_step fun r hr => ?_
    walk_at "dy"
    refine comp_pureG (fun x => x) xs S (fun R hR => by walk_at "dy"; exact hR) (fun x hx S' Q' q' => ?_) (by omega) ?_
    · walk_at "dy"
      have := (T.elT hx).2
      exact ⟨x, m, k, B, rfl, (T.elT hx).1, hB, by omega, q'⟩
    rw [List.map_id']
    walk_at "dy"
    exact q
  | non => walk_at "dy"; exact q
  | bl b => walk_at "dy"; exact q
  | int i => walk_at "dy"; exact q
  | str z => walk_at "dy"; exact q
  | _ => unfold sm at hsm; cases hsm

theorem pure_law_down : ∀ ds S Q Ed, sp_law_down ds S Q Ed → t_law_down Ed { nx := fun _ S' => Q .non S', rt := Q } (startD N_law_down ds) S := by
  rintro ds S Q Ed ⟨t, rfl, T, hz, q⟩
  rw [st_law_down]
  unfold t_law_down
  have hz2 : t.2.2 < 2 ^ 2200 := Int.lt_trans hz (by
    have : (2 : Nat) ^ 950 < 2 ^ 2200 := Nat.pow_lt_pow_right (by decide) (by decide)
    exact_mod_cast this)
  have stp := stop_stN T hz2
  refine seq_step fun r hr => ?_
  walk_at "dy"
  intro p hp
  subst hr
  refine seq_step fun r hr => ?_
  have sz : ∀ i, (∀ j, j < i → 1 < (itN j t).2.2) → (itN i t).1.natAbs < 2 ^ 950 ∧ (itN i t).2.1.natAbs < 2 ^ 950 ∧ (itN i t).2.2.natAbs < 2 ^ 950 := fun i hj => by
    obtain ⟨i1, i2, i3⟩ := itN_tq T i hj
    have := i1.x1; have := i1.xy; have := i1.yz
    exact ⟨abs_lt_of (by omega) (by omega), abs_lt_of (by omega) (by omega), abs_lt_of (by omega) (by omega)⟩
  refine while_inv (fun m σ S' => ∃ i b c d, σ = [some (trD t), some (.obj p), b, c, d] ∧ m = 2300 - i ∧ S' = upS S p (.lst (lsD i t)) ∧ ∀ j, j < i → 1 < (itN j t).2.2) 2300 ⟨0, none, none, none, rfl, rfl, rfl, fun j hj => absurd hj (by omega)⟩ ?_
  rintro m σ S' N ⟨i, b, c, d, rfl, rfl, rfl, hj⟩ k
  obtain ⟨i1, i2, i3⟩ := itN_tq T i hj
  have few := itN_few T hz2 hj
  obtain ⟨bx, by', bz⟩ := sz i hj
  walk_at "dy"
  rw [x_ixo upS_same, lsD_last]
  unfold ixQ
  dsimp only
  rw [x_ne_ones i1]
  by_cases c1 : 1 < (itN i t).2.2
  · rw [decide_eq_true c1]
    try walk_at "dy"
    try rw [if_pos (by simp)]
    rw [x_ixo upS_same, lsD_last]
    unfold ixQ trD
    dsimp only
    try walk_at "dy"
    obtain ⟨w1, wy, _, _⟩ := TrQ.down i1 c1
    have m1 := mul3_ok (n := 950) (by decide) (by decide) bx by' bz
    have few2 := itN_few T hz2 (n := i + 1) fun j h => by
      rcases Nat.lt_succ_iff_lt_or_eq.mp h with h | h
      · exact hj j h
      · rw [h]; exact c1
    refine ⟨⟨_, upS_same⟩, m1.1, m1.2.1, ?_⟩
    refine ⟨[(itN i t).1, (itN i t).2.1, 3 * (itN i t).1 * (itN i t).2.1 - (itN i t).2.2], rfl, by show 3 < 64; decide, fun ns h1 h2 => ?_⟩
    have hs := nx_ex2 i1 c1 h1 h2
    have hs2 : ns.map D.int = [D.int (nxD (itN i t)).1, D.int (nxD (itN i t)).2.1, D.int (nxD (itN i t)).2.2] := by injection hs
    rw [hs2]
    walk_at "dy"
    have app : ∀ (v : D) (S' : Sd) (Q : DK), appQ S' v Q (.obj p) → rdApp (.obj p) [v] S' Q := fun _ _ _ h => h
    refine app _ _ _ ?_
    rw [x_app upS_same, lsD_len, upS_upS]
    refine ⟨by omega, ?_⟩
    refine k (2300 - (i + 1)) _ _ (by omega) ⟨i + 1, _, _, _, rfl, rfl, ?_, fun j h => ?_⟩
    · rw [lsD_succ]; rfl
    · rcases Nat.lt_succ_iff_lt_or_eq.mp h with h | h
      · exact hj j h
      · rw [h]; exact c1
  · rw [decide_eq_false c1]
    try walk_at "dy"
    try rw [if_neg (by simp)]
    subst hr
    refine ⟨p, _, rfl, upS_same, ?_⟩
    walk_at "dy"
    have e : i = stN t := Stop.uniq ⟨hj, by omega⟩ stp
    rw [e, lsT_D, del_upS hp]
    exact q

theorem pure_law_is_triple : ∀ ds S Q Ed, sp_law_is_triple ds S Q Ed → t_law_is_triple Ed { nx := fun _ S' => Q .non S', rt := Q } (startD N_law_is_triple ds) S := by
  rintro ds S Q Ed ⟨d, n, rfl, hd, hn, q⟩
  rw [st_law_is_triple]
  unfold t_law_is_triple
  have no : (∀ x y z : Int, d ≠ .tup [.int x, .int y, .int z]) → Q (.bl false) S := fun h => by rw [isTri_none h] at q; exact q
  refine seq_step fun r hr => ?_
  cases d with
  | tup xs =>
    walk_at "dy"
    by_cases c : xs.length = 3
    · match xs, c, hd, no, q with
      | [x, y, z], _, hd, no, q =>
        have hx := smT.mp hd x (by simp)
        have hy := smT.mp hd y (by simp)
        have hz := smT.mp hd z (by simp)
        try rw [if_neg (by simp)]
        try walk_at "dy"
        refine comp_pureG (fun d => .bl (isWh d)) [x, y, z] S (fun R hR => by walk_at "dy"; exact hR) (fun d hd' S' Q' q' => ?_) (by show 3 ≤ 16777216; decide) ?_
        · refine (show dName 4 d [some (D.tup [x, y, z]), none, none, none, none] S' _ from ?_)
          walk_at "dy"
          exact ⟨d, rfl, sm_data (smT.mp hd d hd'), q'⟩
        refine x_allb (bs := [isWh x, isWh y, isWh z]) rfl ?_
        cases ew : ([isWh x, isWh y, isWh z].all id) with
        | false =>
          try walk_at "dy"
          try rw [if_pos (by simp)]
          refine no fun a b c e => ?_
          simp only [D.tup.injEq, List.cons.injEq, and_true] at e
          obtain ⟨rfl, rfl, rfl⟩ := e
          exact absurd ew (by simp [isWh])
        | true =>
          simp only [List.all_cons, List.all_nil, Bool.and_true, Bool.and_eq_true, id] at ew
          obtain ⟨a, rfl⟩ := isWh_int ew.1
          obtain ⟨b, rfl⟩ := isWh_int ew.2.1
          obtain ⟨c, rfl⟩ := isWh_int ew.2.2
          try walk_at "dy"
          try rw [if_neg (by simp)]
          subst hr
          refine seq_step fun r hr => ?_
          walk_at "dy"
          subst hr
          walk_at "dy"
          have q : Q (.bl (decide (1 ≤ a ∧ a ≤ b ∧ b ≤ c ∧ a * a + b * b + c * c = 3 * a * b * c))) S := q
          have up : ∀ {i : Int}, sm n (.int i) = true → i.natAbs < 2 ^ 900 := fun h => Nat.lt_of_lt_of_le (sm_int.mp h) (Nat.pow_le_pow_right (by decide) hn)
          have bx := up hx
          have by' := up hy
          have bz := up hz
          have m1 := mul3_ok (n := 900) (by decide) (by decide) bx by' bz
          have la : a.natAbs.log2 < 900 := log2_lt bx (by decide)
          have lb : b.natAbs.log2 < 900 := log2_lt by' (by decide)
          have lc : c.natAbs.log2 < 900 := log2_lt bz (by decide)
          by_cases c1 : 1 ≤ a
          · by_cases c2 : a ≤ b
            · by_cases c3 : b ≤ c
              · rw [if_pos c1, if_pos c2, if_pos c3]
                refine ⟨by omega, by omega, by omega, m1.1, m1.2.1, m1.2.2, ?_⟩
                rw [show decide (1 ≤ a ∧ a ≤ b ∧ b ≤ c ∧ a * a + b * b + c * c = 3 * a * b * c) = decide (a * a + b * b + c * c = 3 * a * b * c) from decide_eq_decide.mpr ⟨fun h => h.2.2.2, fun h => ⟨c1, c2, c3, h⟩⟩] at q
                exact q
              · rw [if_pos c1, if_pos c2, if_neg c3]
                rw [decide_eq_false (fun h => c3 h.2.2.1)] at q
                exact q
            · rw [if_pos c1, if_neg c2]
              rw [decide_eq_false (fun h => c2 h.2.1)] at q
              exact q
          · rw [if_neg c1]
            rw [decide_eq_false (fun h => c1 h.1)] at q
            exact q
    · try rw [if_pos (by omega)]
      exact no fun a b c' e => c (by cases e; rfl)
  | _ => first | (walk_at "dy"; exact q) | exact absurd (show false = true from hd) Bool.false_ne_true

theorem pure_law_due : ∀ ds S Q Ed, sp_law_due ds S Q Ed → t_law_due Ed { nx := fun _ S' => Q .non S', rt := Q } (startD N_law_due ds) S := by
  rintro ds S Q Ed ⟨c, p, m, k, B, rfl, tc, tp, hm, hB, q0⟩
  have q := q0 S fun _ _ h => h
  have hc := tm_sm tc.t
  have hp := tm_sm tp.t
  rw [st_law_due]
  unfold t_law_due
  refine seq_step fun r hr => ?_
  walk_at "dy"
  refine ⟨c, "triple", 4, m, rfl, hc, by decide, ?_⟩
  cases e1 : claimB "triple" 4 c with
  | false =>
    try walk_at "dy"
    have n1 : ∀ x y w, c ≠ .tup [.str "triple", x, y, w] := fun x y w h => by rw [h] at e1; revert e1; unfold claimB; simp
    have e0 : evB c p = false := by
      unfold evB
      split
      · rename_i z x y w
        rw [if_neg (fun h => n1 _ _ _ (by rw [h]))]
      · rfl
    rw [e0] at q
    exact q
  | true =>
    obtain ⟨x, y, w, rfl⟩ := claimB_four e1
    have hx := smT.mp hc x (by simp)
    have hy := smT.mp hc y (by simp)
    have hw := smT.mp hc w (by simp)
    have ep : evB (.tup [.str "triple", x, y, w]) p = tripB x y w p := by
      unfold evB
      dsimp only
      rw [if_pos rfl]
    rw [ep] at q
    have ecut : cutD [D.str "triple", x, y, w] (some 1) none = [x, y, w] := rfl
    try walk_at "dy"
    rw [ecut]
    refine ⟨_, m, rfl, smT.mpr (by simpa using ⟨hx, hy, hw⟩), hm, ?_⟩
    cases et : isTriD (.tup [x, y, w]) with
    | false =>
      try walk_at "dy"
      unfold tripB at q
      rw [et, Bool.false_and] at q
      exact q
    | true =>
      obtain ⟨t, e, T⟩ := isTriD_inv et
      unfold trD at e
      simp only [D.tup.injEq, List.cons.injEq, and_true] at e
      obtain ⟨rfl, rfl, rfl⟩ := e
      unfold tripB at q
      rw [et, Bool.true_and] at q
      have hz : t.2.2 < 2 ^ 950 := by
        have h1 : t.2.2.natAbs < 2 ^ 900 := Nat.lt_of_lt_of_le (sm_int.mp hw) (Nat.pow_le_pow_right (by decide) hm)
        have h2 : (t.2.2.natAbs : Int) < (2 ^ 900 : Nat) := by exact_mod_cast h1
        refine Int.lt_of_lt_of_le (b := ((2 ^ 900 : Nat) : Int)) (by omega) ?_
        exact_mod_cast Nat.pow_le_pow_right (by decide : 0 < 2) (by decide : 900 ≤ 950)
      try walk_at "dy"
      subst hr
      refine seq_step fun r hr => ?_
      cases p with
      | lst ps =>
        have q : Q (.bl (ps.all isTriD && rowB t (ps.map unD))) S := q
        have hl := tp.lenL
        walk_at "dy"
        refine comp_pureG (fun d => .bl (isTriD d)) ps S (fun R hR => by walk_at "dy"; exact hR) (fun d hd S' Q' q' => ?_) (by omega) ?_
        · refine (show dName 2 d [some (.tup [.str "triple", .int t.1, .int t.2.1, .int t.2.2]), some (.lst ps), none] S' _ from ?_)
          walk_at "dy"
          exact ⟨d, m, rfl, smLs.mp hp d hd, hm, q'⟩
        refine x_allb (bs := ps.map isTriD) (by rw [List.map_map]; rfl) ?_
        rw [List.all_map, show ps.all (id ∘ isTriD) = ps.all isTriD from rfl]
        cases ea : ps.all isTriD with
        | false =>
          rw [ea, Bool.false_and] at q
          try walk_at "dy"
          try rw [if_pos (by simp)]
          exact q
        | true =>
          obtain ⟨ts, rfl, Ts⟩ := tris_inv ea
          rw [ea, Bool.true_and, un_map] at q
          try walk_at "dy"
          try rw [if_neg (by simp)]
          subst hr
          walk_at "dy"
          rw [ecut]
          refine ⟨t, rfl, T, hz, ?_⟩
          have okl : ∀ us : List (Int × Int × Int), eqOk (.lst (us.map trD)) = true := fun us => okD_eqOk (k := 2) (okD_lst fun d hd => by
            obtain ⟨t, _, rfl⟩ := List.mem_map.mp hd
            exact trD_ok t) (by decide)
          refine (show (eqOk (.lst (ts.map trD)) = true ∧ eqOk (.lst ((lsT (stN t) t).map trD)) = true) ∧ _ from ⟨⟨okl _, okl _⟩, ?_⟩)
          show Q (.bl (deqL (ts.map trD) ((lsT (stN t) t).map trD))) S
          rw [deqL_tr]
          exact q
      | _ => first | (walk_at "dy"; exact q) | exact absurd (show false = true from hp) Bool.false_ne_true

theorem pure_law_looked_right : ∀ ds S Q Ed, sp_law_looked_right ds S Q Ed → t_law_looked_right Ed { nx := fun _ S' => Q .non S', rt := Q } (startD N_law_looked_right ds) S := by
  rintro ds S Q Ed ⟨c, p, m, k, B, rfl, tc, tp, hm, hk, hB, cl, q⟩
  rw [st_law_looked_right]
  unfold t_law_looked_right
  refine seq_step fun r hr => ?_
  walk_at "dy"
  refine x_repr_tm tc (by omega) hk hB ?_
  try walk_at "dy"
  refine x_repr_tm tp (by omega) hk hB ?_
  try walk_at "dy"
  subst hr
  refine seq_step fun r hr => ?_
  walk_at "dy"
  refine ⟨c, p, m, k, B, rfl, tc, tp, hm, hB, cl, ?_⟩
  try walk_at "dy"
  subst hr
  refine seq_step fun r hr => ?_
  walk_at "dy"
  refine ⟨c, p, m, k, B, rfl, tc, tp, hm, hB, fun S' hk' => ?_⟩
  try walk_at "dy"
  try rw [if_neg (by simp)]
  refine ⟨c, p, m, k, B, rfl, tc, tp, hm, hB, cl, ?_⟩
  try walk_at "dy"
  try rw [if_neg (by simp)]
  subst hr
  walk_at "dy"
  refine x_repr_tm tc (by omega) hk hB ?_
  try walk_at "dy"
  refine x_repr_tm tp (by omega) hk hB ?_
  try walk_at "dy"
  refine x_eq_self (okD_eqOk (k := 1) (okD_tup (k := 0) fun d hd => ?_) (by decide)) (q S' hk')
  simp only [List.mem_cons, List.not_mem_nil, or_false] at hd
  rcases hd with rfl | rfl
  · exact okD_str (tm_shown tc.t)
  · exact okD_str (tm_shown tp.t)

theorem pure_law_all_looked_right : ∀ ds S Q Ed, sp_law_all_looked_right ds S Q Ed → t_law_all_looked_right Ed { nx := fun _ S' => Q .non S', rt := Q } (startD N_law_all_looked_right ds) S := by
  rintro ds S Q Ed ⟨u, c, p, m, k, B, U, rfl, hU, hb, tc, tp, m1, hm, hk, hB, c0, c1, c2, c3, c4, q⟩
  rw [st_law_all_looked_right]
  unfold t_law_all_looked_right
  refine seq_step fun r hr => ?_
  walk_at "dy"
  refine ⟨by decide, ?_⟩
  refine loop_rng (fun i σ S' => (∃ a b d e, σ = [some (.obj u), some c, some p, a, b, d, e]) ∧ Urn S' u (U + 60 * i) ∧ ∀ a o, a ≠ u → S a = some o → S' a = some o) ⟨⟨_, _, _, _, rfl⟩, hU.mono (by omega), fun _ _ _ h => h⟩ ?_ ?_
  · rintro i σ S1 N hi ⟨⟨a, b, d, e, rfl⟩, hU1, k1⟩ kk
    have hi3 : i < 3 := hi
    show dSeq (dSet 4 _) _ _ [some (.obj u), some c, some p, some (.int (0 + (i : Int))), b, d, e] S1
    refine seq_step fun r2 hr2 => ?_
    walk_at "dy"
    have := tc.dp
    have := tp.dp
    refine ⟨u, c, m, k, B, _, rfl, hU1, by omega, tc, by omega, hB, by omega, fun c' S2 hc' hU2 ho2 => ?_⟩
    refine ⟨u, p, m, k, B, _, rfl, hU2, by omega, tp, by omega, hB, by omega, fun p' S3 hp' hU3 ho3 => ?_⟩
    try walk_at "dy"
    subst hr2
    have Tc := tc.wide (show m ≤ m + 1 by omega) (show k ≤ k + 2 by omega) (show B ≤ 2 * B + 20000 by omega)
    have Tp := tp.wide (show m ≤ m + 1 by omega) (show k ≤ k + 2 by omega) (show B ≤ 2 * B + 20000 by omega)
    have Tc' := hc'.Tm tc m1 (by omega) hB
    have Tp' := hp'.Tm tp m1 (by omega) hB
    have l2 : ∀ a b : D, [a, b].length ≤ 16777216 := fun _ _ => by show 2 ≤ 16777216; decide
    refine for_lst_gB (cons_go (tup_go (cons_go (var_go rfl (cons_go (var_go rfl (nil_go ⟨l2 _ _, ?_⟩)))))))
    refine cons_go (tup_go (cons_go (op_go (var_go rfl (c_go (ix0_gB (cons_go (var_go rfl (nil_go ⟨l2 _ _, ?_⟩)))))))))
    refine cons_go (tup_go (cons_go (var_go rfl (cons_go (op_go (var_go rfl (c_go (ix1_gB (nil_go ⟨l2 _ _, ?_⟩)))))))))
    refine cons_go (var_go rfl (cons_go (tup_go (cons_go (var_go rfl (cons_go (var_go rfl (nil_go ⟨l2 _ _, nil_go ⟨by show 5 ≤ 16777216; decide, ?_⟩⟩))))))))
    have all : ∀ y ∈ [D.tup [c, p], D.tup [c', p], D.tup [c, p'], D.tup [c', p'], D.tup [p, c]], ∃ a b, y = .tup [a, b] ∧ Tm (m + 1) (k + 2) (2 * B + 20000) a ∧ Tm (m + 1) (k + 2) (2 * B + 20000) b ∧ clean a b := fun y hy => by
      simp only [List.mem_cons, List.not_mem_nil, or_false] at hy
      rcases hy with rfl | rfl | rfl | rfl | rfl
      · exact ⟨_, _, rfl, Tc, Tp, c0⟩
      · exact ⟨_, _, rfl, Tc', Tp, c2 _ hc'⟩
      · exact ⟨_, _, rfl, Tc, Tp', c3 _ hp'⟩
      · exact ⟨_, _, rfl, Tc', Tp', c4 _ _ hc' hp'⟩
      · exact ⟨_, _, rfl, Tp, Tc, c1⟩
    generalize [D.tup [c, p], D.tup [c', p], D.tup [c, p'], D.tup [c', p'], D.tup [p, c]] = ys at *
    refine loop_all (fun _ σ S4 => (∃ d e, σ = [some (.obj u), some c, some p, some (.int (0 + (i : Int))), some (.tup [c', p']), d, e]) ∧ ∀ a o, S3 a = some o → S4 a = some o) ⟨⟨_, _, rfl⟩, fun _ _ h => h⟩ ?_ ?_
    · rintro pre y rr σ S4 N4 ex ⟨⟨d, e, rfl⟩, k4⟩ kn
      obtain ⟨x, y', rfl, tx, ty, cxy⟩ := all y (by rw [ex]; simp)
      walk_at "dy"
      have := tx.dp
      have := ty.dp
      refine ⟨x, m + 1, k + 2, _, rfl, tx, by omega, by omega, ?_⟩
      refine ⟨y', m + 1, k + 2, _, rfl, ty, by omega, by omega, ?_⟩
      refine ⟨x, y', m + 1, k + 2, _, rfl, tx, ty, by omega, by omega, by omega, cxy, fun S5 k5 => ?_⟩
      try walk_at "dy"
      exact kn _ _ ⟨⟨_, _, rfl⟩, fun a o h => k5 a o (k4 a o h)⟩
    · rintro σ S4 ⟨⟨d, e, rfl⟩, k4⟩
      have hU4 := Urn.kept hU3 k4
      exact kk _ _ ⟨⟨_, _, _, _, rfl⟩, Urn.mono hU4 (by omega), fun a o ha h => k4 a o (by rw [ho3 a ha, ho2 a ha]; exact k1 a o ha h)⟩
  · intro σ S1 h
    obtain ⟨⟨a, b, d, e, rfl⟩, hU1, k1⟩ := h
    subst hr
    walk_at "dy"
    exact q _ k1 (hU1.mono (by show U + 60 * ((3 : Nat) : Int) ≤ U + 200; omega))

theorem len_law : ∀ ds S Q E, spLawD ds S Q E → ds.length = 1 := fun _ _ _ _ ⟨_, e, _⟩ => by rw [e]; rfl
def tripL : List Nat := [116, 114, 105, 112, 108, 101]
theorem trip_eq : (Str.ofString "triple") = ofL tripL := by decide +kernel
theorem trip_names : ofL tripL ≠ "even" ∧ ofL tripL ≠ "uneven" ∧ ofL tripL ≠ "below" ∧ ofL tripL ≠ "above" ∧ ofL tripL ≠ "same" ∧ ofL tripL ≠ "form below" ∧ ofL tripL ≠ "form above" := by
  rw [← trip_eq]; decide +kernel
/-- a bent text -/
theorem bent_str {d d' : D} (h : Bent d d') : ∀ l : List Nat, l ≠ [] → d = .str (ofL l) → ∀ z : Str, d' = .str z → d' ∈ cons10 ∨ ∃ k, k < l.length ∧ (z = ofL (l.take k ++ l.drop (k + 1)) ∨ z = ofL (l.take (k + 1) ++ l.drop k) ∨ ∃ c, c ∈ [97, 98, 99, 108, 114] ∧ z = ofL (l.take k ++ [c] ++ l.drop (k + 1))) := by
  cases h with
  | c0 _ _ h => exact fun _ _ _ _ _ => .inl h
  | wh i x h => exact fun _ _ e => nomatch e
  | no _ _ hd h =>
    intro l hl e z _
    subst e
    have := of_decide_eq_true (show decide ((ofL l).length = 0) = true from hd)
    rw [ofL_len] at this
    exact absurd (List.length_eq_zero_iff.mp this) hl
  | cutS l' k hk =>
    intro l hl e z ez
    obtain rfl := ofL_inj.mp (by injection e)
    exact .inr ⟨k, hk, .inl (by injection ez with ez; exact ez.symm)⟩
  | twS l' k hk =>
    intro l hl e z ez
    obtain rfl := ofL_inj.mp (by injection e)
    exact .inr ⟨k, hk, .inr (.inl (by injection ez with ez; exact ez.symm))⟩
  | sg l' k c hk hc =>
    intro l hl e z ez
    obtain rfl := ofL_inj.mp (by injection e)
    exact .inr ⟨k, hk, .inr (.inr ⟨c, hc, by injection ez with ez; exact ez.symm⟩)⟩
  | cutT _ _ _ => exact fun _ _ e => nomatch e
  | cutL _ _ _ => exact fun _ _ e => nomatch e
  | twT _ _ _ => exact fun _ _ e => nomatch e
  | twL _ _ _ => exact fun _ _ e => nomatch e
  | flT _ => exact fun _ _ e => nomatch e
  | flL _ => exact fun _ _ e => nomatch e
  | inT _ _ _ _ _ _ => exact fun _ _ e => nomatch e
  | inL _ _ _ _ _ _ => exact fun _ _ e => nomatch e
theorem fb_eq : (Str.ofString "form below") = ofL [102, 111, 114, 109, 32, 98, 101, 108, 111, 119] := by decide +kernel
theorem fa_eq : (Str.ofString "form above") = ofL [102, 111, 114, 109, 32, 97, 98, 111, 118, 101] := by decide +kernel
theorem bent_name {z : Str} (h : Bent (.str (ofL tripL)) (.str z)) : z ≠ "form below" ∧ z ≠ "form above" := by
  rcases bent_str h tripL (by decide) rfl z rfl with h | ⟨k, hk, h⟩
  · have : ∀ x ∈ cons10, x ≠ .str "form below" ∧ x ≠ .str "form above" := by
      intro x hx
      simp only [cons10, List.mem_cons, List.not_mem_nil, or_false] at hx
      have n : ∀ {a b : String}, (Str.ofString a) ≠ (Str.ofString b) → D.str (Str.ofString a) ≠ D.str (Str.ofString b) := fun h e => h (by injection e)
      rcases hx with rfl | rfl | rfl | rfl | rfl | rfl | rfl | rfl | rfl | rfl
      all_goals first
        | exact ⟨(fun h => nomatch h), (fun h => nomatch h)⟩
        | exact ⟨n (by decide +kernel), n (by decide +kernel)⟩
    obtain ⟨h1, h2⟩ := this _ h
    exact ⟨fun e => h1 (by rw [e]), fun e => h2 (by rw [e])⟩
  · rw [fb_eq, fa_eq]
    have hk : k < 6 := hk
    have ln : ∀ l : List Nat, l.length ≤ 7 → ofL l ≠ ofL [102, 111, 114, 109, 32, 98, 101, 108, 111, 119] ∧ ofL l ≠ ofL [102, 111, 114, 109, 32, 97, 98, 111, 118, 101] := fun l hl => by
      constructor <;> intro e <;> have := congrArg List.length (ofL_inj.mp e) <;> simp only [List.length_cons, List.length_nil] at this <;> omega
    have l6 : tripL.length = 6 := rfl
    rcases h with rfl | rfl | ⟨c, hc, rfl⟩
    · exact ln _ (by rw [List.length_append, List.length_take, List.length_drop]; omega)
    · exact ln _ (by rw [List.length_append, List.length_take, List.length_drop]; omega)
    · exact ln _ (by rw [List.length_append, List.length_append, List.length_take, List.length_drop, List.length_singleton]; omega)
theorem clean_say (x y w p : D) : clean (.tup [.str (ofL tripL), x, y, w]) p := by
  obtain ⟨n1, n2, n3, n4, n5, n6, n7⟩ := trip_names
  exact ⟨(fun h => nomatch h), (fun h => nomatch h), fun _ => ⟨n6, n7⟩⟩
theorem clean_bent {a b c : Int} {p : D} {c' : D} (h : Bent (.tup [.str (ofL tripL), .int a, .int b, .int c]) c') : clean c' p := by
  obtain ⟨n1, n2, n3, n4, n5, n6, n7⟩ := trip_names
  generalize hd : D.tup [.str (ofL tripL), .int a, .int b, .int c] = d at h
  have own : ∀ r : List D, clean (.tup (.str (ofL tripL) :: r)) p := fun r => ⟨fun _ => ⟨n1, n2, n3, n4⟩, fun _ => n5, fun _ => ⟨n6, n7⟩⟩
  cases h with
  | c0 _ _ h =>
    simp only [cons10, List.mem_cons, List.not_mem_nil, or_false] at h
    rcases h with rfl | rfl | rfl | rfl | rfl | rfl | rfl | rfl | rfl | rfl <;> exact True.intro
  | wh i x h => cases hd
  | no _ _ h0 h => subst hd; cases h0
  | cutT xs k hk =>
    obtain rfl : [.str (ofL tripL), .int a, .int b, .int c] = xs := by injection hd
    have hk2 : k < 4 := hk
    rcases (show k = 0 ∨ k = 1 ∨ k = 2 ∨ k = 3 by omega) with rfl | rfl | rfl | rfl
    · exact True.intro
    · exact own [.int b, .int c]
    · exact own [.int a, .int c]
    · exact own [.int a, .int b]
  | twT xs k hk =>
    obtain rfl : [.str (ofL tripL), .int a, .int b, .int c] = xs := by injection hd
    have hk2 : k < 4 := hk
    rcases (show k = 0 ∨ k = 1 ∨ k = 2 ∨ k = 3 by omega) with rfl | rfl | rfl | rfl
    · exact own [.str (ofL tripL), .int a, .int b, .int c]
    · exact own [.int a, .int a, .int b, .int c]
    · exact own [.int a, .int b, .int b, .int c]
    · exact own [.int a, .int b, .int c, .int c]
  | flT xs => exact True.intro
  | inT xs k e e' hk h =>
    obtain rfl : [.str (ofL tripL), .int a, .int b, .int c] = xs := by injection hd
    match k, hk with
    | 0, hk =>
      obtain rfl : D.str (ofL tripL) = e := Option.some.inj hk
      cases e' with
      | str z => exact ⟨(fun h => nomatch h), (fun h => nomatch h), fun _ => bent_name h⟩
      | _ => exact True.intro
    | 1, hk => exact own [e', .int b, .int c]
    | 2, hk => exact own [.int a, e', .int c]
    | 3, hk => exact own [.int a, .int b, e']
  | cutL _ _ _ => exact nomatch hd
  | twL _ _ _ => exact nomatch hd
  | cutS _ _ _ => exact nomatch hd
  | twS _ _ _ => exact nomatch hd
  | sg _ _ _ _ _ => exact nomatch hd
  | flL _ => exact nomatch hd
  | inL _ _ _ _ _ _ => exact nomatch hd
/-- a list of so few small triples -/
theorem Tm_tr {t : Int × Int × Int} (h1 : t.1.natAbs < 2 ^ 200) (h2 : t.2.1.natAbs < 2 ^ 200) (h3 : t.2.2.natAbs < 2 ^ 200) : tmD 200 (trD t) = true ∧ (pd (trD t)).depth = 1 ∧ shL (trD t) = 5772 := by
  refine ⟨tmT_iff.mpr fun d hd => ?_, rfl, rfl⟩
  simp only [List.mem_cons, List.not_mem_nil, or_false] at hd
  rcases hd with rfl | rfl | rfl
  · exact tm_int.mpr h1
  · exact tm_int.mpr h2
  · exact tm_int.mpr h3
theorem shLL_le {k : Nat} : ∀ {ds : List D}, (∀ d ∈ ds, shL d ≤ k) → shLL ds ≤ ds.length * (k + 2)
  | [], _ => by show 0 ≤ _; omega
  | d :: ds, h => by
    have h1 := h d (.head _)
    have h2 := shLL_le fun x hx => h x (List.mem_cons_of_mem _ hx)
    show shL d + 2 + shLL ds ≤ (ds.length + 1) * (k + 2)
    rw [Nat.succ_mul]
    omega
def SmT (t : Int × Int × Int) : Prop := t.1.natAbs < 2 ^ 200 ∧ t.2.1.natAbs < 2 ^ 200 ∧ t.2.2.natAbs < 2 ^ 200
theorem Tm_trs {ts : List (Int × Int × Int)} (h : ∀ t ∈ ts, SmT t) (hl : ts.length ≤ 150) : Tm 200 3 900000 (.lst (ts.map trD)) := by
  have el : ∀ d ∈ ts.map trD, tmD 200 d = true ∧ (pd d).depth = 1 ∧ shL d = 5772 := fun d hd => by
    obtain ⟨t, ht, rfl⟩ := List.mem_map.mp hd
    obtain ⟨h1, h2, h3⟩ := h t ht
    exact Tm_tr h1 h2 h3
  refine ⟨tmLs_iff.mpr fun d hd => (el d hd).1, ?_, ?_⟩
  · rw [dp_lst]
    have := dpL_le (ds := ts.map trD) (k := 1) fun d hd => by rw [(el d hd).2.1]; exact Nat.le_refl _
    omega
  · have := shLL_le (k := 5772) (ds := ts.map trD) fun d hd => by rw [(el d hd).2.2]; exact Nat.le_refl _
    rw [List.length_map] at this
    have h2 : ts.length * (5772 + 2) ≤ 150 * (5772 + 2) := Nat.mul_le_mul_right _ hl
    show shLL _ + 2 ≤ 900000
    omega
theorem stop_way : ∀ (n : Nat) (l : List Nat), l.length = n → (∀ c ∈ l, c = 108 ∨ c = 114) → Stop (upT l) (n + 2)
  | 0, l, e, _ => by
    rw [List.length_eq_zero_iff.mp e]
    exact Stop.cons (by decide) (Stop.cons (by decide) ⟨(fun j hj => absurd hj (by omega)), by decide⟩)
  | n + 1, l, e, h => by
    rcases List.eq_nil_or_concat l with rfl | ⟨v, c, rfl⟩
    · cases e
    rw [List.concat_eq_append] at *
    have hc := h c (by simp)
    have h5 := (mkS_of (v ++ [c])).w5
    rw [← stT_w (upB (thL (v ++ [c]))) (thL (v ++ [c]))] at h5
    have s := stop_way n v (by rw [List.length_append, List.length_singleton] at e; omega) fun d hd => h d (List.mem_append_left _ hd)
    refine Stop.cons (n := n + 2) ?_ (by rw [upT_nx v hc]; exact s)
    show 1 < (upT (v ++ [c])).2.2
    unfold upT
    omega
theorem for_lst7 {t : TAD} {g : TGD} {tb : TSD} {D : EndsD} {σ : Si} {S : Sd} (h : t σ S fun ds S1 => ds.length ≤ 16777216 ∧ dLoop g tb D ds σ S1) : dFor (dItr (dLst t)) g tb D σ S := h
theorem cb_go7 {rd : RDC} {t : TAD} {σ : Si} {S : Sd} {Q : DK} (h : t σ S fun xs S1 => rd xs S1 Q) : dCB rd t σ S Q := h
theorem sl_hi7 {i j : Nat} {xs : List D} {k : Nat} {σ : Si} {S : Sd} {Q : DK} (e1 : σ[i]? = some (some (.lst xs))) (e2 : σ[j]? = some (some (.int (k : Nat)))) (q : Q (.lst (xs.take k)) S) : dSl (dVar i) dNoPart (dPart (dVar j)) σ S Q := by
  have e : cutD xs none (some (k : Int)) = xs.take k := by
    unfold cutD
    rw [HT.sIx_nat, show HT.sIx xs.length 0 none = 0 from rfl]
    show (xs.drop 0).take (min k xs.length - 0) = _
    rw [List.drop_zero, Nat.sub_zero]
    rcases Nat.le_total k xs.length with h | h
    · rw [Nat.min_eq_left h]
    · rw [Nat.min_eq_right h, List.take_of_length_le (Nat.le_refl _), List.take_of_length_le h]
  unfold dSl dPart dNoPart
  simp only [dVar_of e1, dVar_of e2]
  rw [x_sl_l, e]
  exact q
theorem sl_lo7 {i j : Nat} {xs : List D} {k : Nat} {σ : Si} {S : Sd} {Q : DK} (e1 : σ[i]? = some (some (.lst xs))) (e2 : σ[j]? = some (some (.int (k : Nat)))) (q : Q (.lst (xs.drop k)) S) : dSl (dVar i) (dPart (dVar j)) dNoPart σ S Q := by
  have e : cutD xs (some (k : Int)) none = xs.drop k := by
    unfold cutD
    rw [HT.sIx_nat]
    show (xs.drop (min k xs.length)).take (xs.length - min k xs.length) = xs.drop k
    rcases Nat.le_total k xs.length with h | h
    · rw [Nat.min_eq_left h, List.take_of_length_le (by rw [List.length_drop]; omega)]
    · rw [Nat.min_eq_right h, List.drop_of_length_le h, List.drop_of_length_le (Nat.le_refl _), List.take_nil]
  unfold dSl dPart dNoPart
  simp only [dVar_of e1, dVar_of e2]
  rw [x_sl_l, e]
  exact q
theorem addl7 {xs ys : List D} {S : Sd} {Q : DK} (h : xs.length + ys.length ≤ 16777216) (q : Q (.lst (xs ++ ys)) S) : rdAdd (.lst xs) (.lst ys) S Q := ⟨h, q⟩
theorem tupA7 {xs : List D} {S : Sd} {Q : DK} (q : Q (.tup xs) S) : rdTupA [.lst xs] S Q := q
theorem pure_law : ∀ ds S Q Ed, spLawD ds S Q Ed → t_law Ed { nx := fun _ S' => Q .non S', rt := Q } (startD N_law ds) S := by
  rintro ds S Q Ed ⟨ns, rfl, hns, q⟩
  rw [st_law]
  unfold t_law
  refine seq_cut (fun σ S' => True) (fun N hN => ?_) (fun σ S' h => by walk_at "dy"; exact q S')
  walk_at "dy"
  have hlen : (List.map D.int ns).length = ns.length := List.length_map _
  refine ⟨by rw [hlen]; constructor <;> (split <;> (try split) <;> omega), ?_⟩
  refine loop_rng (fun i σ S' => (∃ a b c d e f g, σ = [some (.lst (ns.map D.int)), a, b, c, d, e, f, g])) ⟨none, none, none, none, none, none, none, rfl⟩ ?_ (fun σ S' _ => hN σ S' trivial)
  rintro i σ S' N' hi ⟨a, b, c, d, e, f, g, rfl⟩ k
  have hl4 : (0 : Int) + i < 4 := by
    rw [hlen] at hi
    split at hi <;> (try split at hi) <;> omega
  show dSeq (dSet 2 _) _ _ [some (.lst (ns.map D.int)), some (.int (0 + i)), b, c, d, e, f, g] S'
  refine seq_step fun r hr => ?_
  walk_at "dy"
  refine ⟨ns, _, rfl, by omega, by omega, fun u S1 hu0 hU1 ho1 => ?_⟩
  try walk_at "dy"
  subst hr
  refine seq_step fun r hr => ?_
  walk_at "dy"
  refine ⟨u, _, rfl, hU1, by decide, fun l S2 hab l60 hU2 ho2 => ?_⟩
  try walk_at "dy"
  refine ⟨l, rfl, by omega, hab, ?_⟩
  try walk_at "dy"
  refine ⟨[(thL l).1, (thL l).2.1, (thL l).2.2], rfl, by show 3 < 64; decide, fun ns' hp hs => ?_⟩
  rw [up_one (mkS_of l) hp hs]
  show rdTupA [D.lst (List.map D.int [(stT (upB (thL l)) (thL l)).1, (stT (upB (thL l)) (thL l)).2.1, (stT (upB (thL l)) (thL l)).2.2])] S2 _
  rw [x_tupA_l, show D.tup ([(stT (upB (thL l)) (thL l)).1, (stT (upB (thL l)) (thL l)).2.1, (stT (upB (thL l)) (thL l)).2.2].map D.int) = trD (upT l) from rfl]
  have low : ∃ n, Stop (upT l) n ∧ n ≤ 100 := by
    refine ⟨l.length + 2, stop_way _ l rfl hab, ?_⟩
    have := cnW_len l
    omega
  have T : TQ (upT l) := upT_tq l
  have sm : SmT (upT l) := by
    obtain ⟨g1, g2, g3⟩ := (mkI_of l).smallN 60 l60
    have up : ∀ {i : Int}, i.natAbs < 2 ^ (3 * 60) → i.natAbs < 2 ^ 200 := fun h => Nat.lt_of_lt_of_le h (Nat.pow_le_pow_right (by decide) (by decide))
    obtain ⟨s1, s2, s3⟩ := stT_sm (b := upB (thL l)) (up g1) (up g2) (up g3)
    exact ⟨s1, s2, s3⟩
  generalize upT l = t at *
  subst hr
  refine seq_step fun r hr => ?_
  have l3 : ∀ a b c : D, [a, b, c].length ≤ 16777216 := fun _ _ _ => by show 3 ≤ 16777216; decide
  refine seq_set (op_go (lst_go (cons_go (var_go rfl (cons_go (var_go rfl (cons_go (var_go rfl (cons_go (var_go rfl (cons_go (var_go rfl (cons_go (var_go rfl ?_))))))))))))))
  refine cons_go (tup_go (cons_go (c_go (cons_go (c_go (cons_go (c_go (nil_go ⟨l3 _ _ _, ?_⟩))))))))
  refine cons_go (tup_go (cons_go (c_go (cons_go (c_go (cons_go (c_go (nil_go ⟨l3 _ _ _, nil_go ⟨by show 8 ≤ 16777216; decide, ?_⟩⟩))))))))
  refine call_go (cons_go (var_go rfl (cons_go (c_go (nil_go ?_)))))
  refine ⟨u, _, _, rfl, hU2, by decide, by decide, by decide, fun j S3 j0 j1 hU3 ho3 => ?_⟩
  have pick : ∃ v : Int × Int × Int, atI [trD t, trD t, trD t, trD t, trD t, trD t, .tup [.int 1, .int 1, .int 1], .tup [.int 1, .int 1, .int 2]] j = some (trD v) ∧ TQ v ∧ SmT v ∧ stN v ≤ 100 := by
    have hz : ∀ {v : Int × Int × Int}, SmT v → v.2.2 < 2 ^ 2200 := fun {v} h => by
      have h2 : (v.2.2.natAbs : Int) < (2 ^ 200 : Nat) := by exact_mod_cast h.2.2
      refine Int.lt_of_lt_of_le (b := ((2 ^ 200 : Nat) : Int)) (by omega) ?_
      exact_mod_cast Nat.pow_le_pow_right (by decide : 0 < 2) (by decide : 200 ≤ 2200)
    obtain ⟨n, st, hn⟩ := low
    have l1 : stN t ≤ 100 := by rw [Stop.uniq (stop_stN T (hz sm)) st]; exact hn
    have T1 : TQ (1, 1, 1) := ⟨by decide, by decide, by decide, by decide⟩
    have T2 : TQ (1, 1, 2) := ⟨by decide, by decide, by decide, by decide⟩
    have s1 : SmT (1, 1, 1) := ⟨by decide, by decide, by decide⟩
    have s2 : SmT (1, 1, 2) := ⟨by decide, by decide, by decide⟩
    have n1 : stN (1, 1, 1) ≤ 100 := by rw [Stop.uniq (stop_stN T1 (hz s1)) (m := 0) ⟨(fun j hj => absurd hj (by omega)), by decide⟩]; decide
    have n2 : stN (1, 1, 2) ≤ 100 := by rw [Stop.uniq (stop_stN T2 (hz s2)) (Stop.cons (by decide) (n := 0) ⟨(fun j hj => absurd hj (by omega)), by decide⟩)]; decide
    rcases (show j = 0 ∨ j = 1 ∨ j = 2 ∨ j = 3 ∨ j = 4 ∨ j = 5 ∨ j = 6 ∨ j = 7 by omega) with rfl | rfl | rfl | rfl | rfl | rfl | rfl | rfl
    · exact ⟨t, atI_nat (j := 0) rfl, T, sm, l1⟩
    · exact ⟨t, atI_nat (j := 1) rfl, T, sm, l1⟩
    · exact ⟨t, atI_nat (j := 2) rfl, T, sm, l1⟩
    · exact ⟨t, atI_nat (j := 3) rfl, T, sm, l1⟩
    · exact ⟨t, atI_nat (j := 4) rfl, T, sm, l1⟩
    · exact ⟨t, atI_nat (j := 5) rfl, T, sm, l1⟩
    · exact ⟨(1, 1, 1), atI_nat (j := 6) rfl, T1, s1, n1⟩
    · exact ⟨(1, 1, 2), atI_nat (j := 7) rfl, T2, s2, n2⟩
  obtain ⟨v, ev, Tv, sv, lv⟩ := pick
  show rdIx (D.lst [trD t, trD t, trD t, trD t, trD t, trD t, .tup [.int 1, .int 1, .int 1], .tup [.int 1, .int 1, .int 2]]) (.int j) S3 _
  rw [x_ixl, ev]
  unfold ixQ
  dsimp only
  try simp only [List.set_cons_zero, List.set_cons_succ]
  subst hr
  refine seq_step fun r hr => ?_
  have hz9 : v.2.2 < 2 ^ 950 := by
    have h2 : (v.2.2.natAbs : Int) < (2 ^ 200 : Nat) := by exact_mod_cast sv.2.2
    refine Int.lt_of_lt_of_le (b := ((2 ^ 200 : Nat) : Int)) (by omega) ?_
    exact_mod_cast Nat.pow_le_pow_right (by decide : 0 < 2) (by decide : 200 ≤ 950)
  have hz22 : v.2.2 < 2 ^ 2200 := Int.lt_trans hz9 (by
    have : (2 : Nat) ^ 950 < 2 ^ 2200 := Nat.pow_lt_pow_right (by decide) (by decide)
    exact_mod_cast this)
  have sts : ∀ w ∈ lsT (stN v) v, SmT w := fun w hw => by
    unfold lsT at hw
    obtain ⟨m, hm, rfl⟩ := List.mem_map.mp hw
    have hm := List.mem_range.mp hm
    have st := stop_stN Tv hz22
    obtain ⟨i1, i2, i3⟩ := itN_tq Tv m fun a ha => st.1 a (by omega)
    have := i1.x1; have := i1.xy; have := i1.yz
    have b := sv.2.2
    refine ⟨?_, ?_, ?_⟩ <;> generalize (2 : Nat) ^ 200 = X at * <;> omega
  have lts : (lsT (stN v) v).length = stN v + 1 := by unfold lsT; rw [List.length_map, List.length_range]
  walk_at "dy"
  refine ⟨v, rfl, Tv, hz9, ?_⟩
  generalize lsT (stN v) v = ts at *
  try walk_at "dy"
  subst hr
  refine seq_step fun r hr => ?_
  walk_at "dy"
  rw [show trD v = D.tup [.int v.1, .int v.2.1, .int v.2.2] from rfl]
  try walk_at "dy"
  have Tsay : Tm 200 3 900000 (.tup [.str (ofL tripL), .int v.1, .int v.2.1, .int v.2.2]) := by
    refine ⟨tmT_iff.mpr fun d hd => ?_, ?_, ?_⟩
    · simp only [List.mem_cons, List.not_mem_nil, or_false] at hd
      rcases hd with rfl | rfl | rfl | rfl
      · exact tm_strL.mpr ⟨by decide, by decide⟩
      · exact tm_int.mpr sv.1
      · exact tm_int.mpr sv.2.1
      · exact tm_int.mpr sv.2.2
    · show max 0 (max 0 (max 0 (max 0 0))) + 1 ≤ 3; decide
    · show 10 * 6 + 2 + 2 + (1921 + 2 + (1921 + 2 + (1921 + 2 + 0))) + 3 ≤ 900000; decide
  have Tsh := Tm_trs sts (by omega)
  rw [show D.tup [.str (Str.ofString "triple"), .int v.1, .int v.2.1, .int v.2.2] = .tup [.str (ofL tripL), .int v.1, .int v.2.1, .int v.2.2] by rw [trip_eq]]
  have csay : ∀ p, clean (.tup [.str (ofL tripL), .int v.1, .int v.2.1, .int v.2.2]) p := fun p => clean_say _ _ _ p
  have cbent : ∀ c' p, Bent (.tup [.str (ofL tripL), .int v.1, .int v.2.1, .int v.2.2]) c' → clean c' p := fun c' p h => clean_bent h
  generalize D.tup [.str (ofL tripL), .int v.1, .int v.2.1, .int v.2.2] = say at *
  subst hr
  refine seq_step fun r hr => ?_
  walk_at "dy"
  refine ⟨u, _, _, 200, 3, 900000, _, rfl, hU3, by decide, Tsay, Tsh, by decide, by decide, by decide, by decide, csay _, True.intro, fun c' h => cbent _ _ h, fun p' h => csay _, fun c' p' h _ => cbent _ _ h, fun S7 hk7 hU7 => ?_⟩
  try walk_at "dy"
  subst hr
  refine seq_step fun r hr => ?_
  walk_at "dy"
  rw [List.length_map]
  refine ⟨u, _, _, rfl, hU7, by decide, by omega, Int.lt_of_le_of_lt (b := 200) (by omega) (by decide), fun y S8 y0 y1 hU8 ho8 => ?_⟩
  obtain ⟨y, rfl⟩ := Int.eq_ofNat_of_zero_le y0
  try walk_at "dy"
  subst hr
  have e112 : D.tup [.int 1, .int 1, .int 2] = trD (1, 1, 2) := rfl
  have e111 : D.tup [.int 1, .int 1, .int 1] = trD (1, 1, 1) := rfl
  have lm : (ts.map trD).length = ts.length := List.length_map _
  refine for_lst7 (cons_go (sl_hi7 rfl rfl (cons_go (sl_lo7 rfl rfl (cons_go (op_go (var_go rfl (lst_go (cons_go (tup_go (cons_go (c_go (cons_go (c_go (cons_go (c_go (nil_go ⟨l3 _ _ _, ?_⟩)))))))))))))))))
  refine cons_go (tup_go (cons_go (c_go (cons_go (c_go (cons_go (c_go (nil_go ⟨l3 _ _ _, nil_go ⟨by show 2 ≤ 16777216; decide, addl7 (by rw [lm]; show _ + 2 ≤ _; omega) ?_⟩⟩))))))))
  refine cons_go (op_go (var_go rfl (lst_go (cons_go (tup_go (cons_go (c_go (cons_go (c_go (cons_go (c_go (nil_go ⟨l3 _ _ _, nil_go ⟨by show 1 ≤ 16777216; decide, addl7 (by rw [lm]; show _ + 1 ≤ _; omega) ?_⟩⟩))))))))))))
  refine cons_go (cb_go7 (cons_go (var_go rfl (nil_go (tupA7 (nil_go ⟨by show 5 ≤ 16777216; decide, ?_⟩))))))
  rw [e112, e111]
  have s1 : SmT (1, 1, 1) := ⟨by decide, by decide, by decide⟩
  have s2 : SmT (1, 1, 2) := ⟨by decide, by decide, by decide⟩
  have all5 : ∀ x ∈ [D.lst ((ts.map trD).take y), .lst ((ts.map trD).drop y), .lst (ts.map trD ++ [trD (1, 1, 2), trD (1, 1, 1)]), .lst (ts.map trD ++ [trD (1, 1, 1)]), .tup (ts.map trD)], Tm 200 3 16777216 x := fun x hx => by
    have w : ∀ {us : List (Int × Int × Int)}, (∀ t ∈ us, SmT t) → us.length ≤ 150 → Tm 200 3 16777216 (.lst (us.map trD)) := fun h hl => (Tm_trs h hl).wide (Nat.le_refl _) (Nat.le_refl _) (by decide)
    simp only [List.mem_cons, List.not_mem_nil, or_false] at hx
    rcases hx with rfl | rfl | rfl | rfl | rfl
    · rw [← List.map_take]
      exact w (fun t ht => sts t (List.mem_of_mem_take ht)) (by rw [List.length_take]; omega)
    · rw [← List.map_drop]
      exact w (fun t ht => sts t (List.mem_of_mem_drop ht)) (by rw [List.length_drop]; omega)
    · have : ts.map trD ++ [trD (1, 1, 2), trD (1, 1, 1)] = (ts ++ [(1, 1, 2), (1, 1, 1)]).map trD := by rw [List.map_append]; rfl
      rw [this]
      refine w (fun t ht => ?_) (by rw [List.length_append]; show _ + 2 ≤ _; omega)
      rcases List.mem_append.mp ht with ht | ht
      · exact sts t ht
      · simp only [List.mem_cons, List.not_mem_nil, or_false] at ht
        rcases ht with rfl | rfl
        · exact s2
        · exact s1
    · have : ts.map trD ++ [trD (1, 1, 1)] = (ts ++ [(1, 1, 1)]).map trD := by rw [List.map_append]; rfl
      rw [this]
      refine w (fun t ht => ?_) (by rw [List.length_append]; show _ + 1 ≤ _; omega)
      rcases List.mem_append.mp ht with ht | ht
      · exact sts t ht
      · rw [List.mem_singleton.mp ht]; exact s1
    · have t0 := Tm_trs sts (by omega)
      refine ⟨tmT_iff.mpr (tmLs_iff.mp t0.t), t0.dp, ?_⟩
      have : shLL (ts.map trD) + 2 ≤ 900000 := t0.sh
      show shLL (ts.map trD) + 3 ≤ 16777216
      omega
  generalize [D.lst ((ts.map trD).take y), .lst ((ts.map trD).drop y), .lst (ts.map trD ++ [trD (1, 1, 2), trD (1, 1, 1)]), .lst (ts.map trD ++ [trD (1, 1, 1)]), .tup (ts.map trD)] = zs at *
  have Tsay2 : Tm 200 3 16777216 say := Tsay.wide (Nat.le_refl _) (Nat.le_refl _) (by decide)
  have hlast : ∀ (g : Option D) (S9 : Sd), N' [some (.lst (ns.map D.int)), some (.int (0 + i)), some (.obj u), some (trD v), some (.lst (ts.map trD)), some say, some (.int (y : Nat)), g] S9 := fun g S9 => k _ _ ⟨_, _, _, _, _, _, _, rfl⟩
  refine loop_all (fun _ σ S9 => ∃ g, σ = [some (.lst (ns.map D.int)), some (.int (0 + i)), some (.obj u), some (trD v), some (.lst (ts.map trD)), some say, some (.int (y : Nat)), g]) ⟨_, rfl⟩ ?_ ?_
  · rintro p3 x rr3 σ S12 N12 ex3 ⟨g, rfl⟩ kn3
    have hx := all5 x (by rw [ex3]; simp)
    walk_at "dy"
    refine ⟨_, _, 200, 3, 16777216, rfl, Tsay2, hx, by decide, by decide, by decide, csay _, fun S13 hk13 => ?_⟩
    try walk_at "dy"
    exact kn3 _ _ ⟨_, rfl⟩
  rintro σ S12 ⟨g, rfl⟩
  exact hlast _ _


/-! the text by places, derivations, printed by gen.py -/
def top (i : Nat) : Stmt := PySem.Challenge.pw_nearthrees_k57_papers_of_triples.main.body.getD i (.Pass ⟨0, 0, 0, 0⟩)
abbrev s_is_whole : Stmt := top 13
theorem sc_is_whole : FnScope N_is_whole ["thing"] (defScope s_is_whole) := ⟨rfl, rfl, rfl, by decide +kernel, rfl, by decide +kernel, by decide +kernel⟩
abbrev s_are_wholes : Stmt := top 14
theorem sc_are_wholes : FnScope N_are_wholes ["things"] (defScope s_are_wholes) := ⟨rfl, rfl, rfl, by decide +kernel, rfl, by decide +kernel, by decide +kernel⟩
abbrev s_is_triple : Stmt := top 72
theorem sc_is_triple : FnScope N_is_triple ["thing"] (defScope s_is_triple) := ⟨rfl, rfl, rfl, by decide +kernel, rfl, by decide +kernel, by decide +kernel⟩
abbrev s_look_triple : Stmt := top 73
theorem sc_look_triple : FnScope N_look_triple ["thing"] (defScope s_look_triple) := ⟨rfl, rfl, rfl, by decide +kernel, rfl, by decide +kernel, by decide +kernel⟩
abbrev s_exchanged : Stmt := top 74
theorem sc_exchanged : FnScope N_exchanged ["triple", "place"] (defScope s_exchanged) := ⟨rfl, rfl, rfl, by decide +kernel, rfl, by decide +kernel, by decide +kernel⟩
abbrev s_triple_holds : Stmt := top 99
theorem sc_triple_holds : FnScope N_triple_holds ["x", "y", "z", "paper"] (defScope s_triple_holds) := ⟨rfl, rfl, rfl, by decide +kernel, rfl, by decide +kernel, by decide +kernel⟩
abbrev s_holds : Stmt := top 108
theorem sc_holds : FnScope N_holds ["claim", "paper"] (defScope s_holds) := ⟨rfl, rfl, rfl, by decide +kernel, rfl, by decide +kernel, by decide +kernel⟩
abbrev s_law_urn : Stmt := top 110
theorem sc_law_urn : FnScope N_law_urn ["_law_script", "_law_at"] (defScope s_law_urn) := ⟨rfl, rfl, rfl, by decide +kernel, rfl, by decide +kernel, by decide +kernel⟩
abbrev s_law_draw : Stmt := top 111
theorem sc_law_draw : FnScope N_law_draw ["_law_urn_here", "_law_wide"] (defScope s_law_draw) := ⟨rfl, rfl, rfl, by decide +kernel, rfl, by decide +kernel, by decide +kernel⟩
abbrev s_law_whole : Stmt := top 112
theorem sc_law_whole : FnScope N_law_whole ["_law_thing"] (defScope s_law_whole) := ⟨rfl, rfl, rfl, by decide +kernel, rfl, by decide +kernel, by decide +kernel⟩
abbrev s_law_way : Stmt := top 113
theorem sc_law_way : FnScope N_law_way ["_law_urn_here", "_law_most"] (defScope s_law_way) := ⟨rfl, rfl, rfl, by decide +kernel, rfl, by decide +kernel, by decide +kernel⟩
abbrev s_law_three : Stmt := top 114
theorem sc_law_three : FnScope N_law_three ["_law_way_here"] (defScope s_law_three) := ⟨rfl, rfl, rfl, by decide +kernel, rfl, by decide +kernel, by decide +kernel⟩
abbrev s_law_bent : Stmt := top 115
theorem sc_law_bent : FnScope N_law_bent ["_law_urn_here", "_law_thing"] (defScope s_law_bent) := ⟨rfl, rfl, rfl, by decide +kernel, rfl, by decide +kernel, by decide +kernel⟩
abbrev s_law_is_claim : Stmt := top 116
theorem sc_law_is_claim : FnScope N_law_is_claim ["_law_thing", "_law_word", "_law_many"] (defScope s_law_is_claim) := ⟨rfl, rfl, rfl, by decide +kernel, rfl, by decide +kernel, by decide +kernel⟩
abbrev s_law_copied : Stmt := top 117
theorem sc_law_copied : FnScope N_law_copied ["_law_thing"] (defScope s_law_copied) := ⟨rfl, rfl, rfl, by decide +kernel, rfl, by decide +kernel, by decide +kernel⟩
abbrev s_law_down : Stmt := top 121
theorem sc_law_down : FnScope N_law_down ["_law_triple"] (defScope s_law_down) := ⟨rfl, rfl, rfl, by decide +kernel, rfl, by decide +kernel, by decide +kernel⟩
abbrev s_law_is_triple : Stmt := top 120
theorem sc_law_is_triple : FnScope N_law_is_triple ["_law_thing"] (defScope s_law_is_triple) := ⟨rfl, rfl, rfl, by decide +kernel, rfl, by decide +kernel, by decide +kernel⟩
abbrev s_law_due : Stmt := top 122
theorem sc_law_due : FnScope N_law_due ["_law_saying", "_law_sheet"] (defScope s_law_due) := ⟨rfl, rfl, rfl, by decide +kernel, rfl, by decide +kernel, by decide +kernel⟩
abbrev s_law_looked_right : Stmt := top 118
theorem sc_law_looked_right : FnScope N_law_looked_right ["_law_saying", "_law_sheet"] (defScope s_law_looked_right) := ⟨rfl, rfl, rfl, by decide +kernel, rfl, by decide +kernel, by decide +kernel⟩
abbrev s_law_all_looked_right : Stmt := top 119
theorem sc_law_all_looked_right : FnScope N_law_all_looked_right ["_law_urn_here", "_law_saying", "_law_sheet"] (defScope s_law_all_looked_right) := ⟨rfl, rfl, rfl, by decide +kernel, rfl, by decide +kernel, by decide +kernel⟩
abbrev s_law : Stmt := top 123
theorem sc_law : FnScope N_law ["_law_script"] (defScope s_law) := ⟨rfl, rfl, rfl, by decide +kernel, rfl, by decide +kernel, by decide +kernel⟩
abbrev sI_NoPlace : Stmt := inClass (top 5) 0
theorem scI_NoPlace : FnScope ["self", "place", "many"] ["self", "place", "many"] (defScope sI_NoPlace) := ⟨rfl, rfl, rfl, by decide +kernel, rfl, by decide +kernel, by decide +kernel⟩
structure Txt (w : World) (K : PySem.W.Frag) (mg : Str → Option Value) (base : Heap) where
  f_is_whole : Addr
  fd_is_whole : FuncData
  f_are_wholes : Addr
  fd_are_wholes : FuncData
  f_is_triple : Addr
  fd_is_triple : FuncData
  f_look_triple : Addr
  fd_look_triple : FuncData
  f_exchanged : Addr
  fd_exchanged : FuncData
  f_triple_holds : Addr
  fd_triple_holds : FuncData
  f_holds : Addr
  fd_holds : FuncData
  f_law_urn : Addr
  fd_law_urn : FuncData
  f_law_draw : Addr
  fd_law_draw : FuncData
  f_law_whole : Addr
  fd_law_whole : FuncData
  f_law_way : Addr
  fd_law_way : FuncData
  f_law_three : Addr
  fd_law_three : FuncData
  f_law_bent : Addr
  fd_law_bent : FuncData
  f_law_is_claim : Addr
  fd_law_is_claim : FuncData
  f_law_copied : Addr
  fd_law_copied : FuncData
  f_law_down : Addr
  fd_law_down : FuncData
  f_law_is_triple : Addr
  fd_law_is_triple : FuncData
  f_law_due : Addr
  fd_law_due : FuncData
  f_law_looked_right : Addr
  fd_law_looked_right : FuncData
  f_law_all_looked_right : Addr
  fd_law_all_looked_right : FuncData
  f_law : Addr
  fd_law : FuncData
  F_is_whole : Fun K "is_whole" "is_whole" s_is_whole f_is_whole fd_is_whole
  m_is_whole : mg "is_whole" = some (.ref f_is_whole)
  b_is_whole : Binds K fd_is_whole ["thing"] []
  F_are_wholes : Fun K "are_wholes" "are_wholes" s_are_wholes f_are_wholes fd_are_wholes
  m_are_wholes : mg "are_wholes" = some (.ref f_are_wholes)
  b_are_wholes : Binds K fd_are_wholes ["things"] []
  F_is_triple : Fun K "is_triple" "is_triple" s_is_triple f_is_triple fd_is_triple
  m_is_triple : mg "is_triple" = some (.ref f_is_triple)
  b_is_triple : Binds K fd_is_triple ["thing"] []
  F_look_triple : Fun K "look_triple" "look_triple" s_look_triple f_look_triple fd_look_triple
  m_look_triple : mg "look_triple" = some (.ref f_look_triple)
  b_look_triple : Binds K fd_look_triple ["thing"] []
  F_exchanged : Fun K "exchanged" "exchanged" s_exchanged f_exchanged fd_exchanged
  m_exchanged : mg "exchanged" = some (.ref f_exchanged)
  b_exchanged : Binds K fd_exchanged ["triple", "place"] []
  F_triple_holds : Fun K "triple_holds" "triple_holds" s_triple_holds f_triple_holds fd_triple_holds
  gn_triple_holds : PySem.W.nsIn K mainGlobals "triple_holds" = some (some (.ref f_triple_holds))
  m_triple_holds : mg "triple_holds" = some (.ref f_triple_holds)
  b_triple_holds : Binds K fd_triple_holds ["x", "y", "z", "paper"] []
  F_holds : Fun K "holds" "holds" s_holds f_holds fd_holds
  m_holds : mg "holds" = some (.ref f_holds)
  b_holds : Binds K fd_holds ["claim", "paper"] []
  F_law_urn : Fun K "_law_urn" "_law_urn" s_law_urn f_law_urn fd_law_urn
  m_law_urn : mg "_law_urn" = some (.ref f_law_urn)
  b_law_urn : Binds K fd_law_urn ["_law_script", "_law_at"] []
  F_law_draw : Fun K "_law_draw" "_law_draw" s_law_draw f_law_draw fd_law_draw
  m_law_draw : mg "_law_draw" = some (.ref f_law_draw)
  b_law_draw : Binds K fd_law_draw ["_law_urn_here", "_law_wide"] []
  F_law_whole : Fun K "_law_whole" "_law_whole" s_law_whole f_law_whole fd_law_whole
  m_law_whole : mg "_law_whole" = some (.ref f_law_whole)
  b_law_whole : Binds K fd_law_whole ["_law_thing"] []
  F_law_way : Fun K "_law_way" "_law_way" s_law_way f_law_way fd_law_way
  m_law_way : mg "_law_way" = some (.ref f_law_way)
  b_law_way : Binds K fd_law_way ["_law_urn_here", "_law_most"] []
  F_law_three : Fun K "_law_three" "_law_three" s_law_three f_law_three fd_law_three
  m_law_three : mg "_law_three" = some (.ref f_law_three)
  b_law_three : Binds K fd_law_three ["_law_way_here"] []
  F_law_bent : Fun K "_law_bent" "_law_bent" s_law_bent f_law_bent fd_law_bent
  m_law_bent : mg "_law_bent" = some (.ref f_law_bent)
  b_law_bent : Binds K fd_law_bent ["_law_urn_here", "_law_thing"] []
  F_law_is_claim : Fun K "_law_is_claim" "_law_is_claim" s_law_is_claim f_law_is_claim fd_law_is_claim
  m_law_is_claim : mg "_law_is_claim" = some (.ref f_law_is_claim)
  b_law_is_claim : Binds K fd_law_is_claim ["_law_thing", "_law_word", "_law_many"] []
  F_law_copied : Fun K "_law_copied" "_law_copied" s_law_copied f_law_copied fd_law_copied
  m_law_copied : mg "_law_copied" = some (.ref f_law_copied)
  b_law_copied : Binds K fd_law_copied ["_law_thing"] []
  F_law_down : Fun K "_law_down" "_law_down" s_law_down f_law_down fd_law_down
  m_law_down : mg "_law_down" = some (.ref f_law_down)
  b_law_down : Binds K fd_law_down ["_law_triple"] []
  F_law_is_triple : Fun K "_law_is_triple" "_law_is_triple" s_law_is_triple f_law_is_triple fd_law_is_triple
  m_law_is_triple : mg "_law_is_triple" = some (.ref f_law_is_triple)
  b_law_is_triple : Binds K fd_law_is_triple ["_law_thing"] []
  F_law_due : Fun K "_law_due" "_law_due" s_law_due f_law_due fd_law_due
  m_law_due : mg "_law_due" = some (.ref f_law_due)
  b_law_due : Binds K fd_law_due ["_law_saying", "_law_sheet"] []
  F_law_looked_right : Fun K "_law_looked_right" "_law_looked_right" s_law_looked_right f_law_looked_right fd_law_looked_right
  m_law_looked_right : mg "_law_looked_right" = some (.ref f_law_looked_right)
  b_law_looked_right : Binds K fd_law_looked_right ["_law_saying", "_law_sheet"] []
  F_law_all_looked_right : Fun K "_law_all_looked_right" "_law_all_looked_right" s_law_all_looked_right f_law_all_looked_right fd_law_all_looked_right
  m_law_all_looked_right : mg "_law_all_looked_right" = some (.ref f_law_all_looked_right)
  b_law_all_looked_right : Binds K fd_law_all_looked_right ["_law_urn_here", "_law_saying", "_law_sheet"] []
  F_law : Fun K "law" "law" s_law f_law fd_law
  m_law : mg "law" = some (.ref f_law)
  b_law : Binds K fd_law ["_law_script"] []
  ks_holds_0_paper_claim : Hx.KSel K fd_holds ["claim", "paper"] 0 ["paper", "claim"] [1, 0] []
  C_NoPlace : Addr
  fI_NoPlace : Addr
  fdI_NoPlace : FuncData
  FI_NoPlace : Fun K "__init__" "NoPlace.__init__" sI_NoPlace fI_NoPlace fdI_NoPlace
  bI_NoPlace : Binds K fdI_NoPlace ["self", "place", "many"] []
  X_NoPlace : FxF K "NoPlace" [.type "IndexError", .type "LookupError", .type "Exception", .type "BaseException", .type "object"] "IndexError.__new__" C_NoPlace fI_NoPlace ["place", "many"]
  gc_NoPlace : mg "NoPlace" = some (.ref C_NoPlace)
  C_NoTriple : Addr
  R_NoTriple : RsF K "NoTriple" [.type "ValueError", .type "Exception", .type "BaseException", .type "object"] "ValueError.__new__" C_NoTriple
  gc_NoTriple : mg "NoTriple" = some (.ref C_NoTriple)
  a_HOLD : Addr
  m_HOLD : mg "HOLD" = some (.ref a_HOLD)
  k_HOLD : ∀ z d, k_HOLD z = some d → ∃ v, KDct K w a_HOLD z v ∧ ∀ H S, Rp K H S d v
  q_HOLD : KdK K w a_HOLD ["even", "uneven", "below", "above"]
  a_HOLD_OF_THREE : Addr
  m_HOLD_OF_THREE : mg "HOLD_OF_THREE" = some (.ref a_HOLD_OF_THREE)
  k_HOLD_OF_THREE : ∀ z d, k_HOLD_OF_THREE z = some d → ∃ v, KDct K w a_HOLD_OF_THREE z v ∧ ∀ H S, Rp K H S d v
  q_HOLD_OF_THREE : KdK K w a_HOLD_OF_THREE ["triple", "form below", "form above"]
  a_HOLD_SAME : Addr
  m_HOLD_SAME : mg "HOLD_SAME" = some (.ref a_HOLD_SAME)
  k_HOLD_SAME : ∀ z d, k_HOLD_SAME z = some d → ∃ v, KDct K w a_HOLD_SAME z v ∧ ∀ H S, Rp K H S d v
  q_HOLD_SAME : KdK K w a_HOLD_SAME ["same"]
  v_MANY : V
  u_MANY : Value
  m_MANY : mg "MANY" = some u_MANY
  r_MANY : RelV v_MANY u_MANY
  k_MANY : ∀ H S, Rp K H S (k_MANY) v_MANY
  v_ONES : V
  u_ONES : Value
  m_ONES : mg "ONES" = some u_ONES
  r_ONES : RelV v_ONES u_ONES
  k_ONES : ∀ H S, Rp K H S (k_ONES) v_ONES
  n_abs : mg "abs" = none
  n_all : mg "all" = none
  n_bool : mg "bool" = none
  n_int : mg "int" = none
  n_isinstance : mg "isinstance" = none
  n_len : mg "len" = none
  n_list : mg "list" = none
  n_max : mg "max" = none
  n_min : mg "min" = none
  n_range : mg "range" = none
  n_repr : mg "repr" = none
  n_sorted : mg "sorted" = none
  n_str : mg "str" = none
  n_tuple : mg "tuple" = none
  n_zip : mg "zip" = none
section
variable {P : Program} {w : World} {K : PySem.W.Frag} {mg : Str → Option Value} {base : Heap}
theorem in_NoPlace (T : Txt w K mg base) : FnG P w K mg base (L2N.CX P w) 1 T.fI_NoPlace T.fdI_NoPlace ["self", "place", "many"] (spI2 T.C_NoPlace "place" "many") := init2_ok T.FI_NoPlace scI_NoPlace T.X_NoPlace.ox (T.X_NoPlace.free _ (by decide +kernel)) (T.X_NoPlace.free _ (by decide +kernel)) rfl
theorem ok_is_whole (T : Txt w K mg base) : FnG P w K mg base (L2N.CX P w) 1 T.f_is_whole T.fd_is_whole ["thing"] (upF K (sp_is_whole)) := by
  refine okD (k := 0) (t := fun Ed => t_is_whole Ed) T.F_is_whole sc_is_whole (len_is_whole) (fun cdv A outer s H E Ed hr => ?_) (pure_is_whole)
  exact (db_one (ds_ret (de_and (de_callB cd_isi (by rfl) T.n_isinstance (by decide +kernel) (da_cons (dv 0) (da_cons (de_ty (by rfl) T.n_int (by decide +kernel)) da_nil))) (de_one (de_not (de_callB cd_isi (by rfl) T.n_isinstance (by decide +kernel) (da_cons (dv 0) (da_cons (de_ty (by rfl) T.n_bool (by decide +kernel)) da_nil))))))))
theorem ok_are_wholes (T : Txt w K mg base) : FnG P w K mg base (L2N.CX P w) 2 T.f_are_wholes T.fd_are_wholes ["things"] (upF K (sp_are_wholes)) := by
  refine okD (k := 1) (t := fun Ed => t_are_wholes Ed) T.F_are_wholes sc_are_wholes (len_are_wholes) (fun cdv A outer s H E Ed hr => ?_) (pure_are_wholes)
  exact (db_one (ds_ret (de_callB (cd_all rfl) (by rfl) T.n_all (by decide +kernel) (da_cons (de_lc (own := [("thing", 1)]) rfl sc_are_wholes.nd (di_any (dv 0)) (blkOk_by (own := [("thing", 1)]) (N := N_are_wholes) (sc := defScope s_are_wholes) (by decide +kernel)) (fun _ _ _ _ _ => (dg_name (i := 1) sc_are_wholes.nd rfl (by first | exact Or.inl rfl | exact Or.inr rfl) (by decide))) (fun _ _ _ _ _ => dts_nil) (fun _ _ _ _ _ => (de_call (ok_is_whole T) (hr.mono (by decide)) (by rfl) T.m_is_whole T.F_is_whole.kp T.b_is_whole .nil (fun _ _ => rpL_nil) takes0N (da_cons (dv 1) da_nil)))) da_nil))))
theorem ok_is_triple (T : Txt w K mg base) : FnG P w K mg base (L2N.CX P w) 2 T.f_is_triple T.fd_is_triple ["thing"] (upF K (sp_is_triple)) := by
  refine okD (k := 1) (t := fun Ed => t_is_triple Ed) T.F_is_triple sc_is_triple (len_is_triple) (fun cdv A outer s H E Ed hr => ?_) (pure_is_triple)
  exact (db_cons (ds_if (DW.pt (dw_or (dt_not (dt_val (de_callB cd_isi (by rfl) T.n_isinstance (by decide +kernel) (da_cons (dv 0) (da_cons (de_ty (by rfl) T.n_tuple (by decide +kernel)) da_nil))))) (dw_or (dt_cmp (od_ne hr.units) (de_callB cd_len (by rfl) T.n_len (by decide +kernel) (da_cons (dv 0) da_nil)) (de_k (by rfl) T.m_MANY T.r_MANY T.k_MANY) (nomark _)) (dw_or1 (dt_not (dt_val (de_callB (cd_all rfl) (by rfl) T.n_all (by decide +kernel) (da_cons (de_lc (own := [("one", 4)]) rfl sc_is_triple.nd (di_any (dv 0)) (blkOk_by (own := [("one", 4)]) (N := N_is_triple) (sc := defScope s_is_triple) (by decide +kernel)) (fun _ _ _ _ _ => (dg_name (i := 4) sc_is_triple.nd rfl (by first | exact Or.inl rfl | exact Or.inr rfl) (by decide))) (fun _ _ _ _ _ => dts_nil) (fun _ _ _ _ _ => (de_call (ok_is_whole T) (hr.mono (by decide)) (by rfl) T.m_is_whole T.F_is_whole.kp T.b_is_whole .nil (fun _ _ => rpL_nil) takes0N (da_cons (dv 4) da_nil)))) da_nil)))))))) (db_one (ds_ret de_bl)) db_nil)
  (db_cons (ds_asg (vs := [1, 2, 3]) (dv 0) (dg_tup rfl (dgs_cons (dg_name (i := 1) sc_is_triple.nd rfl (by first | exact Or.inl rfl | exact Or.inr rfl) (by decide)) (dgs_cons (dg_name (i := 2) sc_is_triple.nd rfl (by first | exact Or.inl rfl | exact Or.inr rfl) (by decide)) (dgs_cons (dg_name (i := 3) sc_is_triple.nd rfl (by first | exact Or.inl rfl | exact Or.inr rfl) (by decide)) dgs_nil)))))
  (db_one (ds_ret (de_and (de_chain3 od_le od_le od_le de_int (dv 1) (dv 2) (dv 3)) (de_one (de_cmp (od_eq hr.units) (de_op od_add (de_op od_add (de_op od_pow (dv 1) de_int) (de_op od_pow (dv 2) de_int)) (de_op od_pow (dv 3) de_int)) (de_op od_mulA (de_op od_mulA (de_op od_mulA (de_k (by rfl) T.m_MANY T.r_MANY T.k_MANY) (dv 1)) (dv 2)) (dv 3)) (nomark _))))))))
theorem ok_look_triple (T : Txt w K mg base) : FnG P w K mg base (L2N.CX P w) 3 T.f_look_triple T.fd_look_triple ["thing"] (upF K (sp_look_triple)) := by
  refine okD (k := 2) (t := fun Ed => t_look_triple Ed) T.F_look_triple sc_look_triple (len_look_triple) (fun cdv A outer s H E Ed hr => ?_) (pure_look_triple)
  exact (db_one (ds_if (dt_not (dt_val (de_call (ok_is_triple T) (hr.mono (by decide)) (by rfl) T.m_is_triple T.F_is_triple.kp T.b_is_triple .nil (fun _ _ => rpL_nil) takesB (da_cons (dv 0) da_nil)))) (db_one (ds_raiseC rfl takesB PySem.F.excBase_ValueError T.R_NoTriple T.gc_NoTriple (by rfl))) db_nil))
theorem ok_exchanged (T : Txt w K mg base) : FnG P w K mg base (L2N.CX P w) 4 T.f_exchanged T.fd_exchanged ["triple", "place"] (upF K (sp_exchanged)) := by
  refine okD (k := 3) (t := fun Ed => t_exchanged Ed) T.F_exchanged sc_exchanged (len_exchanged) (fun cdv A outer s H E Ed hr => ?_) (pure_exchanged)
  exact (db_cons (ds_expr (de_call (ok_look_triple T) (hr.mono (by decide)) (by rfl) T.m_look_triple T.F_look_triple.kp T.b_look_triple .nil (fun _ _ => rpL_nil) takesB (da_cons (dv 0) da_nil)))
  (db_cons (ds_if (dt_not (dt_chain od_le od_lt de_int (dv 1) (de_k (by rfl) T.m_MANY T.r_MANY T.k_MANY))) (db_one (ds_raiseF2 rfl takesB PySem.F.excBase_IndexError T.X_NoPlace (in_NoPlace T) (hr.mono (by decide)) T.bI_NoPlace T.gc_NoPlace (by rfl) (da_cons (dv 1) (da_cons (de_k (by rfl) T.m_MANY T.r_MANY T.k_MANY) da_nil)))) db_nil)
  (db_cons (ds_asg (vs := [2, 3]) (de_op od_add (de_slice (dv 0) do_none (do_some (dv 1))) (de_slice (dv 0) (do_some (de_op od_add (dv 1) de_int)) do_none)) (dg_tup rfl (dgs_cons (dg_name (i := 2) sc_exchanged.nd rfl (by first | exact Or.inl rfl | exact Or.inr rfl) (by decide)) (dgs_cons (dg_name (i := 3) sc_exchanged.nd rfl (by first | exact Or.inl rfl | exact Or.inr rfl) (by decide)) dgs_nil))))
  (db_one (ds_ret (de_callTy (cd_tupA rfl) (by rfl) T.n_tuple (by decide +kernel) (da_cons (de_callB cd_sorted (by rfl) T.n_sorted (by decide +kernel) (da_cons (de_lst (da_cons (dv 2) (da_cons (dv 3) (da_cons (de_op od_sub (de_op od_mulA (de_op od_mulA (de_k (by rfl) T.m_MANY T.r_MANY T.k_MANY) (dv 2)) (dv 3)) (de_ix (dv 0) (dv 1) (fun _ _ => rfl))) da_nil)))) da_nil)) da_nil)))))))
theorem ok_triple_holds (T : Txt w K mg base) : FnG P w K mg base (L2N.CX P w) 5 T.f_triple_holds T.fd_triple_holds ["x", "y", "z", "paper"] (upF K (sp_triple_holds)) := by
  refine okD (k := 4) (t := fun Ed => t_triple_holds Ed) T.F_triple_holds sc_triple_holds (len_triple_holds) (fun cdv A outer s H E Ed hr => ?_) (pure_triple_holds)
  exact (db_cons (ds_if (DW.pt (dw_or (dt_not (dt_val (de_callB cd_isi (by rfl) T.n_isinstance (by decide +kernel) (da_cons (dv 3) (da_cons (de_ty (by rfl) T.n_list (by decide +kernel)) da_nil))))) (dw_or (dt_cmp (od_eq hr.units) (de_callB cd_len (by rfl) T.n_len (by decide +kernel) (da_cons (dv 3) da_nil)) de_int (nomark _)) (dw_or1 (dt_not (dt_val (de_callB (cd_all rfl) (by rfl) T.n_all (by decide +kernel) (da_cons (de_lc (own := [("one", 4)]) rfl sc_triple_holds.nd (di_any (dv 3)) (blkOk_by (own := [("one", 4)]) (N := N_triple_holds) (sc := defScope s_triple_holds) (by decide +kernel)) (fun _ _ _ _ _ => (dg_name (i := 4) sc_triple_holds.nd rfl (by first | exact Or.inl rfl | exact Or.inr rfl) (by decide))) (fun _ _ _ _ _ => dts_nil) (fun _ _ _ _ _ => (de_call (ok_is_triple T) (hr.mono (by decide)) (by rfl) T.m_is_triple T.F_is_triple.kp T.b_is_triple .nil (fun _ _ => rpL_nil) takes0N (da_cons (dv 4) da_nil)))) da_nil)))))))) (db_one (ds_ret de_bl)) db_nil)
  (db_cons (ds_if (DW.pt (dw_or (dt_not (dt_val (de_call (ok_are_wholes T) (hr.mono (by decide)) (by rfl) T.m_are_wholes T.F_are_wholes.kp T.b_are_wholes .nil (fun _ _ => rpL_nil) takesB (da_cons (de_tup (da_cons (dv 0) (da_cons (dv 1) (da_cons (dv 2) da_nil)))) da_nil)))) (dw_or (dt_cmp (od_ne hr.units) (de_ix (dv 3) de_int (fun _ _ => rfl)) (de_tup (da_cons (dv 0) (da_cons (dv 1) (da_cons (dv 2) da_nil)))) (nomark _)) (dw_or (dt_cmp (od_ne hr.units) (de_ix (dv 3) (de_neg de_int) (fun _ _ => rfl)) (de_k (by rfl) T.m_ONES T.r_ONES T.k_ONES) (nomark _)) (dw_or1 (dt_cmp (od_inD (units65 hr)) (de_k (by rfl) T.m_ONES T.r_ONES T.k_ONES) (de_slice (dv 3) do_none (do_some (de_neg de_int))) (by with_unfolding_all rfl))))))) (db_one (ds_ret de_bl)) db_nil)
  (db_one (ds_ret (de_callB (cd_all rfl) (by rfl) T.n_all (by decide +kernel) (da_cons (de_lc (own := [("one", 4), ("other", 5)]) rfl sc_triple_holds.nd (di_zip (by rfl) T.n_zip (da_cons (dv 3) (da_cons (de_slice (dv 3) (do_some de_int) do_none) da_nil))) (blkOk_by (own := [("one", 4), ("other", 5)]) (N := N_triple_holds) (sc := defScope s_triple_holds) (by decide +kernel)) (fun _ _ _ _ _ => (dg_tup rfl (dgs_cons (dg_name (i := 4) sc_triple_holds.nd rfl (by first | exact Or.inl rfl | exact Or.inr rfl) (by decide)) (dgs_cons (dg_name (i := 5) sc_triple_holds.nd rfl (by first | exact Or.inl rfl | exact Or.inr rfl) (by decide)) dgs_nil)))) (fun _ _ _ _ _ => dts_nil) (fun _ _ _ _ _ => (de_cmp (od_eq hr.units) (de_call (ok_exchanged T) (hr.mono (by decide)) (by rfl) T.m_exchanged T.F_exchanged.kp T.b_exchanged .nil (fun _ _ => rpL_nil) takes0N (da_cons (dv 4) (da_cons de_int da_nil))) (dv 5) (nomark _)))) da_nil))))))
theorem ok_holds (T : Txt w K mg base) : FnG P w K mg base (L2N.CX P w) 6 T.f_holds T.fd_holds ["claim", "paper"] (upF K (sp_holds)) := by
  refine okD (k := 5) (t := fun Ed => t_holds Ed) T.F_holds sc_holds (len_holds) (fun cdv A outer s H E Ed hr => ?_) (pure_holds)
  exact (db_cons (ds_if (DW.pt (dw_or (dt_not (dt_val (de_callB cd_isi (by rfl) T.n_isinstance (by decide +kernel) (da_cons (dv 0) (da_cons (de_ty (by rfl) T.n_tuple (by decide +kernel)) da_nil))))) (dw_or (dt_cmp (od_eq hr.units) (de_callB cd_len (by rfl) T.n_len (by decide +kernel) (da_cons (dv 0) da_nil)) de_int (nomark _)) (dw_or1 (dt_not (dt_val (de_callB cd_isi (by rfl) T.n_isinstance (by decide +kernel) (da_cons (de_ix (dv 0) de_int (fun _ _ => rfl)) (da_cons (de_ty (by rfl) T.n_str (by decide +kernel)) da_nil))))))))) (db_one (ds_ret de_bl)) db_nil)
  (db_cons (ds_par 2 3 rfl sc_holds.nd rfl rfl (by decide) rfl rfl (da_cons (de_ix (dv 0) de_int (fun _ _ => rfl)) (da_cons (de_op od_sub (de_callB cd_len (by rfl) T.n_len (by decide +kernel) (da_cons (dv 0) da_nil)) de_int) da_nil)) (by rfl))
  (db_cons (ds_if (DW.pt (dw_and (dt_cmp (od_eq hr.units) (dv 3) de_int (nomark _)) (dw_and1 (dt_kin (by rfl) T.m_HOLD T.q_HOLD (dv 2) (by with_unfolding_all rfl))))) (db_cons ds_never
  (db_one ds_never)) db_nil)
  (db_cons (ds_if (DW.pt (dw_and (dt_cmp (od_eq hr.units) (dv 3) de_int (nomark _)) (dw_and1 (dt_kin (by rfl) T.m_HOLD_SAME T.q_HOLD_SAME (dv 2) (by with_unfolding_all rfl))))) (db_cons ds_never
  (db_one ds_never)) db_nil)
  (db_cons (ds_if (DW.pt (dw_and (dt_cmp (od_eq hr.units) (dv 3) de_int (nomark _)) (dw_and1 (dt_kin (by rfl) T.m_HOLD_OF_THREE T.q_HOLD_OF_THREE (dv 2) (by with_unfolding_all rfl))))) (db_cons (ds_set 4 sc_holds.nd rfl (by first | exact .inl rfl | exact .inr rfl) (de_kix (by rfl) T.m_HOLD_OF_THREE T.k_HOLD_OF_THREE (dv 2) (fun _ _ => rfl)))
  (db_one (ds_ret (de_callV (k := 5) (i := 4) (cs := [("triple_holds", sp_triple_holds)]) (fnW_cons (fnW_mk (ok_triple_holds T) T.gn_triple_holds T.F_triple_holds.kp T.b_triple_holds) fnW_nil) (hr.mono (by decide)) rfl (by first | exact Or.inl rfl | exact Or.inr (Or.inl rfl) | exact Or.inr (Or.inr rfl)) takesB (da_cons (de_ix (dv 0) de_int (fun _ _ => rfl)) (da_cons (de_ix (dv 0) de_int (fun _ _ => rfl)) (da_cons (de_ix (dv 0) de_int (fun _ _ => rfl)) (da_cons (dv 1) da_nil)))))))) db_nil)
  (db_one (ds_ret de_bl)))))))
theorem ok_law_urn (T : Txt w K mg base) : FnG P w K mg base (L2N.CX P w) 1 T.f_law_urn T.fd_law_urn ["_law_script", "_law_at"] (upF K (sp_law_urn)) := by
  refine okD (k := 0) (t := fun Ed => t_law_urn Ed) T.F_law_urn sc_law_urn (len_law_urn) (fun cdv A outer s H E Ed hr => ?_) (pure_law_urn)
  exact (db_cons (ds_set 2 sc_law_urn.nd rfl (by first | exact .inl rfl | exact .inr rfl) de_int)
  (db_cons (ds_if (dt_cmp od_lt (dv 1) (de_callB cd_len (by rfl) T.n_len (by decide +kernel) (da_cons (dv 0) da_nil)) (nomark _)) (db_one (ds_set 2 sc_law_urn.nd rfl (by first | exact .inl rfl | exact .inr rfl) (de_ix (dv 0) (dv 1) (fun _ _ => rfl)))) db_nil)
  (db_cons (ds_set 3 sc_law_urn.nd rfl (by first | exact .inl rfl | exact .inr rfl) (de_callB cd_abs (by rfl) T.n_abs (by decide +kernel) (da_cons (dv 2) da_nil)))
  (db_cons (ds_if (dt_cmp od_lt (dv 3) (de_op od_pow de_int de_int) (nomark _)) (db_one (ds_set 3 sc_law_urn.nd rfl (by first | exact .inl rfl | exact .inr rfl) de_int)) db_nil)
  (db_one (ds_ret (de_lstO (da_cons (dv 3) (da_cons (de_op od_add (de_op od_add (de_op od_add (de_op od_mod (dv 2) de_int) (de_op od_mulA (de_op od_mulA de_int (dv 1)) (dv 1))) (de_op od_mulA de_int (dv 1))) de_int) (da_cons de_int da_nil))))))))))
theorem ok_law_draw (T : Txt w K mg base) : FnG P w K mg base (L2N.CX P w) 1 T.f_law_draw T.fd_law_draw ["_law_urn_here", "_law_wide"] (upF K (sp_law_draw)) := by
  refine okD (k := 0) (t := fun Ed => t_law_draw Ed) T.F_law_draw sc_law_draw (len_law_draw) (fun cdv A outer s H E Ed hr => ?_) (pure_law_draw)
  exact (db_cons (ds_if (dt_cmp od_gt (de_ix (dv 0) de_int (fun _ _ => rfl)) de_int (nomark _)) (db_cons (ds_set 2 sc_law_draw.nd rfl (by first | exact .inl rfl | exact .inr rfl) (de_op od_mod (de_ix (dv 0) de_int (fun _ _ => rfl)) (dv 1)))
  (db_cons (ds_store (dv 0) de_int (de_op od_fdiv (de_ix (dv 0) de_int (fun _ _ => rfl)) (dv 1)))
  (db_one (ds_ret (dv 2))))) db_nil)
  (db_cons (ds_set 3 sc_law_draw.nd rfl (by first | exact .inl rfl | exact .inr rfl) (de_tup (da_cons de_int (da_cons de_int (da_cons de_int (da_cons de_int (da_cons de_int (da_cons de_int (da_cons de_int da_nil)))))))))
  (db_cons (ds_store (dv 0) de_int (de_op od_add (de_ix (dv 0) de_int (fun _ _ => rfl)) de_int))
  (db_cons (ds_set 4 sc_law_draw.nd rfl (by first | exact .inl rfl | exact .inr rfl) (de_ix (dv 0) de_int (fun _ _ => rfl)))
  (db_cons (ds_set 5 sc_law_draw.nd rfl (by first | exact .inl rfl | exact .inr rfl) (de_op od_add (de_op od_add (de_op od_mulA (de_ix (dv 0) de_int (fun _ _ => rfl)) (de_op od_add (de_op od_mulA de_int (dv 4)) de_int)) (de_op od_mulA (de_op od_mulA de_int (dv 4)) (dv 4))) de_int))
  (db_cons (ds_set 6 sc_law_draw.nd rfl (by first | exact .inl rfl | exact .inr rfl) (de_op od_mod (de_op od_pow (dv 5) de_int) (de_ix (dv 3) (de_op od_mod (dv 4) de_int) (fun _ _ => rfl))))
  (db_one (ds_ret (de_op od_mod (de_op od_fdiv (de_op od_mod (de_op od_mulA (dv 6) (de_op od_add (de_op od_fdiv (dv 6) de_int) (dv 4))) (de_ix (dv 3) (de_op od_mod (de_op od_add (dv 4) de_int) de_int) (fun _ _ => rfl))) de_int) (dv 1))))))))))
theorem ok_law_whole (T : Txt w K mg base) : FnG P w K mg base (L2N.CX P w) 1 T.f_law_whole T.fd_law_whole ["_law_thing"] (upF K (sp_law_whole)) := by
  refine okD (k := 0) (t := fun Ed => t_law_whole Ed) T.F_law_whole sc_law_whole (len_law_whole) (fun cdv A outer s H E Ed hr => ?_) (pure_law_whole)
  exact (db_one (ds_ret (de_and (de_callB cd_isi (by rfl) T.n_isinstance (by decide +kernel) (da_cons (dv 0) (da_cons (de_ty (by rfl) T.n_int (by decide +kernel)) da_nil))) (de_one (de_not (de_callB cd_isi (by rfl) T.n_isinstance (by decide +kernel) (da_cons (dv 0) (da_cons (de_ty (by rfl) T.n_bool (by decide +kernel)) da_nil))))))))
theorem ok_law_way (T : Txt w K mg base) : FnG P w K mg base (L2N.CX P w) 2 T.f_law_way T.fd_law_way ["_law_urn_here", "_law_most"] (upF K (sp_law_way)) := by
  refine okD (k := 1) (t := fun Ed => t_law_way Ed) T.F_law_way sc_law_way (len_law_way) (fun cdv A outer s H E Ed hr => ?_) (pure_law_way)
  exact (db_cons (ds_set 2 sc_law_way.nd rfl (by first | exact .inl rfl | exact .inr rfl) (de_call (ok_law_draw T) (hr.mono (by decide)) (by rfl) T.m_law_draw T.F_law_draw.kp T.b_law_draw .nil (fun _ _ => rpL_nil) takesB (da_cons (dv 0) (da_cons de_int da_nil))))
  (db_cons (ds_set 3 sc_law_way.nd rfl (by first | exact .inl rfl | exact .inr rfl) (de_call (ok_law_draw T) (hr.mono (by decide)) (by rfl) T.m_law_draw T.F_law_draw.kp T.b_law_draw .nil (fun _ _ => rpL_nil) takesB (da_cons (dv 0) (da_cons (de_ix (de_lst (da_cons de_int (da_cons de_int (da_cons de_int (da_cons de_int da_nil))))) (de_call (ok_law_draw T) (hr.mono (by decide)) (by rfl) T.m_law_draw T.F_law_draw.kp T.b_law_draw .nil (fun _ _ => rpL_nil) takesB (da_cons (dv 0) (da_cons de_int da_nil))) (fun _ _ => rfl)) da_nil))))
  (db_cons (ds_asg (vs := [4, 5]) (de_tup (da_cons de_int (da_cons de_int da_nil))) (dg_tup rfl (dgs_cons (dg_name (i := 4) sc_law_way.nd rfl (by first | exact Or.inl rfl | exact Or.inr rfl) (by decide)) (dgs_cons (dg_name (i := 5) sc_law_way.nd rfl (by first | exact Or.inl rfl | exact Or.inr rfl) (by decide)) dgs_nil))))
  (db_cons (ds_set 6 sc_law_way.nd rfl (by first | exact .inl rfl | exact .inr rfl) de_str)
  (db_cons (ds_for (vs := [7]) passB rfl (di_rng1 (by rfl) T.n_range (da_cons (dv 3) da_nil)) (dg_name (i := 7) sc_law_way.nd rfl (by first | exact Or.inl rfl | exact Or.inr rfl) (by decide))
  (db_cons (ds_set 8 sc_law_way.nd rfl (by first | exact .inl rfl | exact .inr rfl) (de_ix de_str (de_ix (de_lst (da_cons (de_call (ok_law_draw T) (hr.mono (by decide)) (by rfl) T.m_law_draw T.F_law_draw.kp T.b_law_draw .nil (fun _ _ => rpL_nil) takesB (da_cons (dv 0) (da_cons de_int da_nil))) (da_cons (de_op od_mod (dv 7) de_int) (da_cons de_int (da_cons (de_callTy cd_int (by rfl) T.n_int (by decide +kernel) (da_cons (de_cmp (od_eq hr.units) (de_call (ok_law_draw T) (hr.mono (by decide)) (by rfl) T.m_law_draw T.F_law_draw.kp T.b_law_draw .nil (fun _ _ => rpL_nil) takesB (da_cons (dv 0) (da_cons de_int da_nil))) de_int (nomark _)) da_nil)) da_nil))))) (dv 2) (fun _ _ => rfl)) (fun _ _ => rfl)))
  (db_cons (ds_if (dt_cmp (od_eq hr.units) (dv 8) de_str (nomark _)) (db_one (ds_set 5 sc_law_way.nd rfl (by first | exact .inl rfl | exact .inr rfl) (de_op od_add (dv 4) (dv 5)))) (db_one (ds_set 4 sc_law_way.nd rfl (by first | exact .inl rfl | exact .inr rfl) (de_op od_add (dv 4) (dv 5)))))
  (db_cons (ds_if (dt_cmp od_gt (de_op od_add (dv 4) (dv 5)) (dv 1) (nomark _)) (db_one (ds_ret (dv 6))) db_nil)
  (db_one (ds_set 6 sc_law_way.nd rfl (by first | exact .inl rfl | exact .inr rfl) (de_op od_add (dv 6) (dv 8))))))))
  (db_one (ds_ret (dv 6))))))))
theorem ok_law_three (T : Txt w K mg base) : FnG P w K mg base (L2N.CX P w) 1 T.f_law_three T.fd_law_three ["_law_way_here"] (upF K (sp_law_three)) := by
  refine okD (k := 0) (t := fun Ed => t_law_three Ed) T.F_law_three sc_law_three (len_law_three) (fun cdv A outer s H E Ed hr => ?_) (pure_law_three)
  exact (db_cons (ds_asg (vs := [1, 2, 3]) (de_tup (da_cons de_int (da_cons de_int (da_cons de_int da_nil)))) (dg_tup rfl (dgs_cons (dg_name (i := 1) sc_law_three.nd rfl (by first | exact Or.inl rfl | exact Or.inr rfl) (by decide)) (dgs_cons (dg_name (i := 2) sc_law_three.nd rfl (by first | exact Or.inl rfl | exact Or.inr rfl) (by decide)) (dgs_cons (dg_name (i := 3) sc_law_three.nd rfl (by first | exact Or.inl rfl | exact Or.inr rfl) (by decide)) dgs_nil)))))
  (db_cons (ds_for (vs := [4]) passB rfl (di_any (dv 0)) (dg_name (i := 4) sc_law_three.nd rfl (by first | exact Or.inl rfl | exact Or.inr rfl) (by decide))
  (db_one (ds_if (dt_cmp (od_eq hr.units) (dv 4) de_str (nomark _)) (db_one (ds_par3 1 2 3 rfl sc_law_three.nd rfl rfl rfl (by decide) (by decide) (by decide) rfl rfl rfl (da_cons (dv 1) (da_cons (dv 3) (da_cons (de_op od_sub (de_op od_mulA (de_op od_mulA de_int (dv 1)) (dv 3)) (dv 2)) da_nil))) (by rfl))) (db_one (ds_par3 1 2 3 rfl sc_law_three.nd rfl rfl rfl (by decide) (by decide) (by decide) rfl rfl rfl (da_cons (dv 3) (da_cons (dv 2) (da_cons (de_op od_sub (de_op od_mulA (de_op od_mulA de_int (dv 3)) (dv 2)) (dv 1)) da_nil))) (by rfl))))))
  (db_one (ds_ret (de_tup (da_cons (dv 1) (da_cons (dv 2) (da_cons (dv 3) da_nil))))))))
theorem okr_law_bent (T : Txt w K mg base) (n : Nat) (h_law_bent : FnG P w K mg base (L2N.CX P w) (1 + n) T.f_law_bent T.fd_law_bent ["_law_urn_here", "_law_thing"] (upF K (sp_law_bent (n)))) : FnG P w K mg base (L2N.CX P w) (1 + n + 1) T.f_law_bent T.fd_law_bent ["_law_urn_here", "_law_thing"] (upF K (sp_law_bent (n + 1))) := by
  refine okD (k := 1 + n) (t := fun Ed => t_law_bent n Ed) T.F_law_bent sc_law_bent (len_law_bent (n + 1)) (fun cdv A outer s H E Ed hr => ?_) (pure_law_bent n)
  exact (db_cons (ds_set 2 sc_law_bent.nd rfl (by first | exact .inl rfl | exact .inr rfl) (de_call (ok_law_draw T) (hr.mono (by omega)) (by rfl) T.m_law_draw T.F_law_draw.kp T.b_law_draw .nil (fun _ _ => rpL_nil) takesB (da_cons (dv 0) (da_cons de_int da_nil))))
  (db_cons (ds_if (dt_cmp (od_eq hr.units) (dv 2) de_int (nomark _)) (db_one (ds_ret (de_ix (de_lst (da_cons de_non (da_cons de_bl (da_cons de_bl (da_cons de_int (da_cons de_int (da_cons de_str (da_cons de_str (da_cons (de_tup da_nil) (da_cons (de_lst da_nil) (da_cons de_str da_nil))))))))))) (de_call (ok_law_draw T) (hr.mono (by omega)) (by rfl) T.m_law_draw T.F_law_draw.kp T.b_law_draw .nil (fun _ _ => rpL_nil) takesB (da_cons (dv 0) (da_cons de_int da_nil))) (fun _ _ => rfl)))) db_nil)
  (db_cons (ds_if (dt_val (de_call (ok_law_whole T) (hr.mono (by omega)) (by rfl) T.m_law_whole T.F_law_whole.kp T.b_law_whole .nil (fun _ _ => rpL_nil) takesB (da_cons (dv 1) da_nil))) (db_one (ds_ret (de_ix (de_lst (da_cons (de_op od_add (dv 1) de_int) (da_cons (de_op od_sub (dv 1) de_int) (da_cons (de_op od_sub de_int (dv 1)) (da_cons (de_op od_mulA (dv 1) de_int) (da_cons (de_callTy cd_str (by rfl) T.n_str (by decide +kernel) (da_cons (dv 1) da_nil)) (da_cons (de_tup (da_cons (dv 1) da_nil)) (da_cons (de_cmp (od_eq hr.units) (dv 1) de_int (nomark _)) da_nil)))))))) (de_call (ok_law_draw T) (hr.mono (by omega)) (by rfl) T.m_law_draw T.F_law_draw.kp T.b_law_draw .nil (fun _ _ => rpL_nil) takesB (da_cons (dv 0) (da_cons de_int da_nil))) (fun _ _ => rfl)))) db_nil)
  (db_cons (ds_if (DW.pt (dw_or (dt_not (dt_val (de_callB cd_isiTp (by rfl) T.n_isinstance (by decide +kernel) (da_cons (dv 1) (da_cons (de_tup (da_cons (de_ty (by rfl) T.n_str (by decide +kernel)) (da_cons (de_ty (by rfl) T.n_tuple (by decide +kernel)) (da_cons (de_ty (by rfl) T.n_list (by decide +kernel)) da_nil)))) da_nil))))) (dw_or1 (dt_cmp (od_eq hr.units) (de_callB cd_len (by rfl) T.n_len (by decide +kernel) (da_cons (dv 1) da_nil)) de_int (nomark _))))) (db_one (ds_ret (de_ix (de_lst (da_cons de_int (da_cons de_str (da_cons (de_tup (da_cons (de_tup da_nil) da_nil)) (da_cons de_non da_nil))))) (de_call (ok_law_draw T) (hr.mono (by omega)) (by rfl) T.m_law_draw T.F_law_draw.kp T.b_law_draw .nil (fun _ _ => rpL_nil) takesB (da_cons (dv 0) (da_cons de_int da_nil))) (fun _ _ => rfl)))) db_nil)
  (db_cons (ds_set 3 sc_law_bent.nd rfl (by first | exact .inl rfl | exact .inr rfl) (de_call (ok_law_draw T) (hr.mono (by omega)) (by rfl) T.m_law_draw T.F_law_draw.kp T.b_law_draw .nil (fun _ _ => rpL_nil) takesB (da_cons (dv 0) (da_cons (de_callB cd_len (by rfl) T.n_len (by decide +kernel) (da_cons (dv 1) da_nil)) da_nil))))
  (db_cons (ds_if (dt_cmp (od_eq hr.units) (dv 2) de_int (nomark _)) (db_one (ds_ret (de_op od_add (de_slice (dv 1) do_none (do_some (dv 3))) (de_slice (dv 1) (do_some (de_op od_add (dv 3) de_int)) do_none)))) db_nil)
  (db_cons (ds_if (dt_cmp (od_eq hr.units) (dv 2) de_int (nomark _)) (db_one (ds_ret (de_op od_add (de_slice (dv 1) do_none (do_some (de_op od_add (dv 3) de_int))) (de_slice (dv 1) (do_some (dv 3)) do_none)))) db_nil)
  (db_cons (ds_if (dt_val (de_callB cd_isi (by rfl) T.n_isinstance (by decide +kernel) (da_cons (dv 1) (da_cons (de_ty (by rfl) T.n_str (by decide +kernel)) da_nil)))) (db_one (ds_ret (de_op od_add (de_op od_add (de_slice (dv 1) do_none (do_some (dv 3))) (de_ix de_str (de_call (ok_law_draw T) (hr.mono (by omega)) (by rfl) T.m_law_draw T.F_law_draw.kp T.b_law_draw .nil (fun _ _ => rpL_nil) takesB (da_cons (dv 0) (da_cons de_int da_nil))) (fun _ _ => rfl))) (de_slice (dv 1) (do_some (de_op od_add (dv 3) de_int)) do_none)))) db_nil)
  (db_cons (ds_if (dt_cmp (od_eq hr.units) (dv 2) de_int (nomark _)) (db_one (ds_ret (de_ix (de_lst (da_cons (de_callTy (cd_listA rfl) (by rfl) T.n_list (by decide +kernel) (da_cons (dv 1) da_nil)) (da_cons (de_callTy (cd_tupA rfl) (by rfl) T.n_tuple (by decide +kernel) (da_cons (dv 1) da_nil)) da_nil))) (de_callTy cd_int (by rfl) T.n_int (by decide +kernel) (da_cons (de_callB cd_isi (by rfl) T.n_isinstance (by decide +kernel) (da_cons (dv 1) (da_cons (de_ty (by rfl) T.n_list (by decide +kernel)) da_nil))) da_nil)) (fun _ _ => rfl)))) db_nil)
  (db_cons (ds_set 4 sc_law_bent.nd rfl (by first | exact .inl rfl | exact .inr rfl) (de_callTy cd_listO (by rfl) T.n_list (by decide +kernel) (da_cons (dv 1) da_nil)))
  (db_cons (ds_store (dv 4) (dv 3) (de_call h_law_bent (hr.mono (by omega)) (by rfl) T.m_law_bent T.F_law_bent.kp T.b_law_bent .nil (fun _ _ => rpL_nil) takesB (da_cons (dv 0) (da_cons (de_ix (dv 4) (dv 3) (fun _ _ => rfl)) da_nil))))
  (db_cons (ds_if (dt_val (de_callB cd_isi (by rfl) T.n_isinstance (by decide +kernel) (da_cons (dv 1) (da_cons (de_ty (by rfl) T.n_list (by decide +kernel)) da_nil)))) (db_one (ds_frzV 4 (ds_ret (dv 4)))) db_nil)
  (db_one (ds_frzV 4 (ds_ret (de_callTy (cd_tupA rfl) (by rfl) T.n_tuple (by decide +kernel) (da_cons (dv 4) da_nil)))))))))))))))))
theorem in_law_bent (T : Txt w K mg base) : ∀ n, FnG P w K mg base (L2N.CX P w) (1 + n) T.f_law_bent T.fd_law_bent ["_law_urn_here", "_law_thing"] (upF K (sp_law_bent (n))) := by
  intro n
  induction n with
  | zero => exact fnG_none (len_law_bent 0) none_law_bent
  | succ n ih => exact okr_law_bent T n ih
theorem ok_law_bent (T : Txt w K mg base) : FnG P w K mg base (L2N.CX P w) (7) T.f_law_bent T.fd_law_bent ["_law_urn_here", "_law_thing"] (upF K (sp_law_bent (6))) := in_law_bent T 6
theorem ok_law_is_claim (T : Txt w K mg base) : FnG P w K mg base (L2N.CX P w) 1 T.f_law_is_claim T.fd_law_is_claim ["_law_thing", "_law_word", "_law_many"] (upF K (sp_law_is_claim)) := by
  refine okD (k := 0) (t := fun Ed => t_law_is_claim Ed) T.F_law_is_claim sc_law_is_claim (len_law_is_claim) (fun cdv A outer s H E Ed hr => ?_) (pure_law_is_claim)
  exact (db_one (ds_ret (de_and (de_callB cd_isi (by rfl) T.n_isinstance (by decide +kernel) (da_cons (dv 0) (da_cons (de_ty (by rfl) T.n_tuple (by decide +kernel)) da_nil))) (de_and (de_cmp (od_eq hr.units) (de_callB cd_len (by rfl) T.n_len (by decide +kernel) (da_cons (dv 0) da_nil)) (dv 2) (nomark _)) (de_and (de_callB cd_isi (by rfl) T.n_isinstance (by decide +kernel) (da_cons (de_ix (dv 0) de_int (fun _ _ => rfl)) (da_cons (de_ty (by rfl) T.n_str (by decide +kernel)) da_nil))) (de_one (de_cmp (od_eq hr.units) (de_ix (dv 0) de_int (fun _ _ => rfl)) (dv 1) (nomark _))))))))
theorem okr_law_copied (T : Txt w K mg base) (n : Nat) (h_law_copied : FnG P w K mg base (L2N.CX P w) (0 + n) T.f_law_copied T.fd_law_copied ["_law_thing"] (upF K (sp_law_copied (n)))) : FnG P w K mg base (L2N.CX P w) (0 + n + 1) T.f_law_copied T.fd_law_copied ["_law_thing"] (upF K (sp_law_copied (n + 1))) := by
  refine okD (k := 0 + n) (t := fun Ed => t_law_copied n Ed) T.F_law_copied sc_law_copied (len_law_copied (n + 1)) (fun cdv A outer s H E Ed hr => ?_) (pure_law_copied n)
  exact (db_cons (ds_if (dt_val (de_callB cd_isi (by rfl) T.n_isinstance (by decide +kernel) (da_cons (dv 0) (da_cons (de_ty (by rfl) T.n_list (by decide +kernel)) da_nil)))) (db_one (ds_ret (de_lc (own := [("_law_one", 1)]) rfl sc_law_copied.nd (di_any (dv 0)) (blkOk_by (own := [("_law_one", 1)]) (N := N_law_copied) (sc := defScope s_law_copied) (by decide +kernel)) (fun _ _ _ _ _ => (dg_name (i := 1) sc_law_copied.nd rfl (by first | exact Or.inl rfl | exact Or.inr rfl) (by decide))) (fun _ _ _ _ _ => dts_nil) (fun _ _ _ _ _ => (de_call h_law_copied (hr.mono (by omega)) (by rfl) T.m_law_copied T.F_law_copied.kp T.b_law_copied .nil (fun _ _ => rpL_nil) takes0N (da_cons (dv 1) da_nil)))))) db_nil)
  (db_cons (ds_if (dt_val (de_callB cd_isi (by rfl) T.n_isinstance (by decide +kernel) (da_cons (dv 0) (da_cons (de_ty (by rfl) T.n_tuple (by decide +kernel)) da_nil)))) (db_one (ds_ret (de_callTy (cd_tupA rfl) (by rfl) T.n_tuple (by decide +kernel) (da_cons (de_lc (own := [("_law_one", 1)]) rfl sc_law_copied.nd (di_any (dv 0)) (blkOk_by (own := [("_law_one", 1)]) (N := N_law_copied) (sc := defScope s_law_copied) (by decide +kernel)) (fun _ _ _ _ _ => (dg_name (i := 1) sc_law_copied.nd rfl (by first | exact Or.inl rfl | exact Or.inr rfl) (by decide))) (fun _ _ _ _ _ => dts_nil) (fun _ _ _ _ _ => (de_call h_law_copied (hr.mono (by omega)) (by rfl) T.m_law_copied T.F_law_copied.kp T.b_law_copied .nil (fun _ _ => rpL_nil) takes0N (da_cons (dv 1) da_nil)))) da_nil)))) db_nil)
  (db_one (ds_ret (dv 0)))))
theorem in_law_copied (T : Txt w K mg base) : ∀ n, FnG P w K mg base (L2N.CX P w) (0 + n) T.f_law_copied T.fd_law_copied ["_law_thing"] (upF K (sp_law_copied (n))) := by
  intro n
  induction n with
  | zero => exact fnG_none (len_law_copied 0) none_law_copied
  | succ n ih => exact okr_law_copied T n ih
theorem ok_law_copied (T : Txt w K mg base) : FnG P w K mg base (L2N.CX P w) (6) T.f_law_copied T.fd_law_copied ["_law_thing"] (upF K (sp_law_copied (6))) := in_law_copied T 6
theorem ok_law_down (T : Txt w K mg base) : FnG P w K mg base (L2N.CX P w) 1 T.f_law_down T.fd_law_down ["_law_triple"] (upF K (sp_law_down)) := by
  refine okD (k := 0) (t := fun Ed => t_law_down Ed) T.F_law_down sc_law_down (len_law_down) (fun cdv A outer s H E Ed hr => ?_) (pure_law_down)
  exact (db_cons (ds_set 1 sc_law_down.nd rfl (by first | exact .inl rfl | exact .inr rfl) (de_lstO (da_cons (dv 0) da_nil)))
  (db_cons (ds_while passB (dt_cmp (od_ne hr.units) (de_ix (dv 1) (de_neg de_int) (fun _ _ => rfl)) (de_tup (da_cons de_int (da_cons de_int (da_cons de_int da_nil)))) (nomark _))
  (db_cons (ds_asg (vs := [2, 3, 4]) (de_ix (dv 1) (de_neg de_int) (fun _ _ => rfl)) (dg_tup rfl (dgs_cons (dg_name (i := 2) sc_law_down.nd rfl (by first | exact Or.inl rfl | exact Or.inr rfl) (by decide)) (dgs_cons (dg_name (i := 3) sc_law_down.nd rfl (by first | exact Or.inl rfl | exact Or.inr rfl) (by decide)) (dgs_cons (dg_name (i := 4) sc_law_down.nd rfl (by first | exact Or.inl rfl | exact Or.inr rfl) (by decide)) dgs_nil)))))
  (db_one (ds_expr (de_app (dv 1) (da_cons (de_callTy (cd_tupA rfl) (by rfl) T.n_tuple (by decide +kernel) (da_cons (de_callB cd_sorted (by rfl) T.n_sorted (by decide +kernel) (da_cons (de_lst (da_cons (dv 2) (da_cons (dv 3) (da_cons (de_op od_sub (de_op od_mulA (de_op od_mulA de_int (dv 2)) (dv 3)) (dv 4)) da_nil)))) da_nil)) da_nil)) da_nil))))))
  (db_one (ds_frzV 1 (ds_ret (dv 1))))))
theorem ok_law_is_triple (T : Txt w K mg base) : FnG P w K mg base (L2N.CX P w) 2 T.f_law_is_triple T.fd_law_is_triple ["_law_thing"] (upF K (sp_law_is_triple)) := by
  refine okD (k := 1) (t := fun Ed => t_law_is_triple Ed) T.F_law_is_triple sc_law_is_triple (len_law_is_triple) (fun cdv A outer s H E Ed hr => ?_) (pure_law_is_triple)
  exact (db_cons (ds_if (DW.pt (dw_or (dt_not (dt_val (de_callB cd_isi (by rfl) T.n_isinstance (by decide +kernel) (da_cons (dv 0) (da_cons (de_ty (by rfl) T.n_tuple (by decide +kernel)) da_nil))))) (dw_or (dt_cmp (od_ne hr.units) (de_callB cd_len (by rfl) T.n_len (by decide +kernel) (da_cons (dv 0) da_nil)) de_int (nomark _)) (dw_or1 (dt_not (dt_val (de_callB (cd_all rfl) (by rfl) T.n_all (by decide +kernel) (da_cons (de_lc (own := [("_law_one", 4)]) rfl sc_law_is_triple.nd (di_any (dv 0)) (blkOk_by (own := [("_law_one", 4)]) (N := N_law_is_triple) (sc := defScope s_law_is_triple) (by decide +kernel)) (fun _ _ _ _ _ => (dg_name (i := 4) sc_law_is_triple.nd rfl (by first | exact Or.inl rfl | exact Or.inr rfl) (by decide))) (fun _ _ _ _ _ => dts_nil) (fun _ _ _ _ _ => (de_call (ok_law_whole T) (hr.mono (by decide)) (by rfl) T.m_law_whole T.F_law_whole.kp T.b_law_whole .nil (fun _ _ => rpL_nil) takes0N (da_cons (dv 4) da_nil)))) da_nil)))))))) (db_one (ds_ret de_bl)) db_nil)
  (db_cons (ds_asg (vs := [1, 2, 3]) (dv 0) (dg_tup rfl (dgs_cons (dg_name (i := 1) sc_law_is_triple.nd rfl (by first | exact Or.inl rfl | exact Or.inr rfl) (by decide)) (dgs_cons (dg_name (i := 2) sc_law_is_triple.nd rfl (by first | exact Or.inl rfl | exact Or.inr rfl) (by decide)) (dgs_cons (dg_name (i := 3) sc_law_is_triple.nd rfl (by first | exact Or.inl rfl | exact Or.inr rfl) (by decide)) dgs_nil)))))
  (db_one (ds_ret (de_and (de_chain3 od_le od_le od_le de_int (dv 1) (dv 2) (dv 3)) (de_one (de_cmp (od_eq hr.units) (de_op od_add (de_op od_add (de_op od_mulA (dv 1) (dv 1)) (de_op od_mulA (dv 2) (dv 2))) (de_op od_mulA (dv 3) (dv 3))) (de_op od_mulA (de_op od_mulA (de_op od_mulA de_int (dv 1)) (dv 2)) (dv 3)) (nomark _))))))))
theorem ok_law_due (T : Txt w K mg base) : FnG P w K mg base (L2N.CX P w) 3 T.f_law_due T.fd_law_due ["_law_saying", "_law_sheet"] (upF K (sp_law_due)) := by
  refine okD (k := 2) (t := fun Ed => t_law_due Ed) T.F_law_due sc_law_due (len_law_due) (fun cdv A outer s H E Ed hr => ?_) (pure_law_due)
  exact (db_cons (ds_if (DW.pt (dw_or (dt_not (dt_val (de_call (ok_law_is_claim T) (hr.mono (by decide)) (by rfl) T.m_law_is_claim T.F_law_is_claim.kp T.b_law_is_claim .nil (fun _ _ => rpL_nil) takesB (da_cons (dv 0) (da_cons de_str (da_cons de_int da_nil)))))) (dw_or1 (dt_not (dt_val (de_call (ok_law_is_triple T) (hr.mono (by decide)) (by rfl) T.m_law_is_triple T.F_law_is_triple.kp T.b_law_is_triple .nil (fun _ _ => rpL_nil) takesB (da_cons (de_slice (dv 0) (do_some de_int) do_none) da_nil))))))) (db_one (ds_ret de_bl)) db_nil)
  (db_cons (ds_if (DW.pt (dw_or (dt_not (dt_val (de_callB cd_isi (by rfl) T.n_isinstance (by decide +kernel) (da_cons (dv 1) (da_cons (de_ty (by rfl) T.n_list (by decide +kernel)) da_nil))))) (dw_or1 (dt_not (dt_val (de_callB (cd_all rfl) (by rfl) T.n_all (by decide +kernel) (da_cons (de_lc (own := [("_law_one", 2)]) rfl sc_law_due.nd (di_any (dv 1)) (blkOk_by (own := [("_law_one", 2)]) (N := N_law_due) (sc := defScope s_law_due) (by decide +kernel)) (fun _ _ _ _ _ => (dg_name (i := 2) sc_law_due.nd rfl (by first | exact Or.inl rfl | exact Or.inr rfl) (by decide))) (fun _ _ _ _ _ => dts_nil) (fun _ _ _ _ _ => (de_call (ok_law_is_triple T) (hr.mono (by decide)) (by rfl) T.m_law_is_triple T.F_law_is_triple.kp T.b_law_is_triple .nil (fun _ _ => rpL_nil) takes0N (da_cons (dv 2) da_nil)))) da_nil))))))) (db_one (ds_ret de_bl)) db_nil)
  (db_one (ds_ret (de_cmp (od_eq hr.units) (dv 1) (de_call (ok_law_down T) (hr.mono (by decide)) (by rfl) T.m_law_down T.F_law_down.kp T.b_law_down .nil (fun _ _ => rpL_nil) takesB (da_cons (de_slice (dv 0) (do_some de_int) do_none) da_nil)) (nomark _))))))
theorem ok_law_looked_right (T : Txt w K mg base) : FnG P w K mg base (L2N.CX P w) 7 T.f_law_looked_right T.fd_law_looked_right ["_law_saying", "_law_sheet"] (upF K (sp_law_looked_right)) := by
  refine okD (k := 6) (t := fun Ed => t_law_looked_right Ed) T.F_law_looked_right sc_law_looked_right (len_law_looked_right) (fun cdv A outer s H E Ed hr => ?_) (pure_law_looked_right)
  exact (db_cons (ds_set 2 sc_law_looked_right.nd rfl (by first | exact .inl rfl | exact .inr rfl) (de_tup (da_cons (de_callB (cd_repr hr.gd hr.units) (by rfl) T.n_repr (by decide +kernel) (da_cons (dv 0) da_nil)) (da_cons (de_callB (cd_repr hr.gd hr.units) (by rfl) T.n_repr (by decide +kernel) (da_cons (dv 1) da_nil)) da_nil))))
  (db_cons (ds_set 3 sc_law_looked_right.nd rfl (by first | exact .inl rfl | exact .inr rfl) (de_call (ok_holds T) (hr.mono (by decide)) (by rfl) T.m_holds T.F_holds.kp T.b_holds .nil (fun _ _ => rpL_nil) takesB (da_cons (dv 0) (da_cons (dv 1) da_nil))))
  (db_cons (ds_if (DW.pt (dw_or (dt_not (dt_val (de_callB cd_isi (by rfl) T.n_isinstance (by decide +kernel) (da_cons (dv 3) (da_cons (de_ty (by rfl) T.n_bool (by decide +kernel)) da_nil))))) (dw_or (dt_cmp (od_ne hr.units) (dv 3) (de_call (ok_law_due T) (hr.mono (by decide)) (by rfl) T.m_law_due T.F_law_due.kp T.b_law_due .nil (fun _ _ => rpL_nil) takesB (da_cons (dv 0) (da_cons (dv 1) da_nil))) (nomark _)) (dw_or1 (dt_cmp (od_ne hr.units) (de_callK0 (ok_holds T) (hr.mono (by decide)) (by rfl) T.m_holds T.F_holds.kp T.ks_holds_0_paper_claim (fun _ _ => rpL_nil) takesB (dk_cons (dv 1) (dk_cons (dv 0) dk_nil))) (dv 3) (nomark _)))))) (db_one (ds_ret de_bl)) db_nil)
  (db_one (ds_ret (de_cmp (od_eq hr.units) (de_tup (da_cons (de_callB (cd_repr hr.gd hr.units) (by rfl) T.n_repr (by decide +kernel) (da_cons (dv 0) da_nil)) (da_cons (de_callB (cd_repr hr.gd hr.units) (by rfl) T.n_repr (by decide +kernel) (da_cons (dv 1) da_nil)) da_nil))) (dv 2) (nomark _)))))))
theorem ok_law_all_looked_right (T : Txt w K mg base) : FnG P w K mg base (L2N.CX P w) 8 T.f_law_all_looked_right T.fd_law_all_looked_right ["_law_urn_here", "_law_saying", "_law_sheet"] (upF K (sp_law_all_looked_right)) := by
  refine okD (k := 7) (t := fun Ed => t_law_all_looked_right Ed) T.F_law_all_looked_right sc_law_all_looked_right (len_law_all_looked_right) (fun cdv A outer s H E Ed hr => ?_) (pure_law_all_looked_right)
  exact (db_cons (ds_for (vs := [3]) passB rfl (di_rng1 (by rfl) T.n_range (da_cons de_int da_nil)) (dg_name (i := 3) sc_law_all_looked_right.nd rfl (by first | exact Or.inl rfl | exact Or.inr rfl) (by decide))
  (db_cons (ds_set 4 sc_law_all_looked_right.nd rfl (by first | exact .inl rfl | exact .inr rfl) (de_tup (da_cons (de_call (ok_law_bent T) (hr.mono (by decide)) (by rfl) T.m_law_bent T.F_law_bent.kp T.b_law_bent .nil (fun _ _ => rpL_nil) takesB (da_cons (dv 0) (da_cons (dv 1) da_nil))) (da_cons (de_call (ok_law_bent T) (hr.mono (by decide)) (by rfl) T.m_law_bent T.F_law_bent.kp T.b_law_bent .nil (fun _ _ => rpL_nil) takesB (da_cons (dv 0) (da_cons (dv 2) da_nil))) da_nil))))
  (db_one (ds_for (vs := [5, 6]) passB rfl (di_any (de_lst (da_cons (de_tup (da_cons (dv 1) (da_cons (dv 2) da_nil))) (da_cons (de_tup (da_cons (de_ix (dv 4) de_int (fun _ _ => rfl)) (da_cons (dv 2) da_nil))) (da_cons (de_tup (da_cons (dv 1) (da_cons (de_ix (dv 4) de_int (fun _ _ => rfl)) da_nil))) (da_cons (dv 4) (da_cons (de_tup (da_cons (dv 2) (da_cons (dv 1) da_nil))) da_nil))))))) (dg_tup rfl (dgs_cons (dg_name (i := 5) sc_law_all_looked_right.nd rfl (by first | exact Or.inl rfl | exact Or.inr rfl) (by decide)) (dgs_cons (dg_name (i := 6) sc_law_all_looked_right.nd rfl (by first | exact Or.inl rfl | exact Or.inr rfl) (by decide)) dgs_nil)))
  (db_one (ds_if (dt_not (dt_val (de_call (ok_law_looked_right T) (hr.mono (by decide)) (by rfl) T.m_law_looked_right T.F_law_looked_right.kp T.b_law_looked_right .nil (fun _ _ => rpL_nil) takesB (da_cons (de_call (ok_law_copied T) (hr.mono (by decide)) (by rfl) T.m_law_copied T.F_law_copied.kp T.b_law_copied .nil (fun _ _ => rpL_nil) takesB (da_cons (dv 5) da_nil)) (da_cons (de_call (ok_law_copied T) (hr.mono (by decide)) (by rfl) T.m_law_copied T.F_law_copied.kp T.b_law_copied .nil (fun _ _ => rpL_nil) takesB (da_cons (dv 6) da_nil)) da_nil))))) (db_one (ds_ret de_bl)) db_nil))))))
  (db_one (ds_ret de_bl)))
theorem ok_law (T : Txt w K mg base) : FnG P w K mg base (L2N.CX P w) 9 T.f_law T.fd_law ["_law_script"] (upF K spLawD) := by
  refine okD (k := 8) (t := fun Ed => t_law Ed) T.F_law sc_law (len_law) (fun cdv A outer s H E Ed hr => ?_) (pure_law)
  exact (db_cons (ds_for (vs := [1]) passB rfl (di_rng1 (by rfl) T.n_range (da_cons (de_callB (cd_max2 rfl) (by rfl) T.n_max (by decide +kernel) (da_cons de_int (da_cons (de_callB (cd_min2 rfl) (by rfl) T.n_min (by decide +kernel) (da_cons de_int (da_cons (de_callB cd_len (by rfl) T.n_len (by decide +kernel) (da_cons (dv 0) da_nil)) da_nil))) da_nil))) da_nil)) (dg_name (i := 1) sc_law.nd rfl (by first | exact Or.inl rfl | exact Or.inr rfl) (by decide))
  (db_cons (ds_set 2 sc_law.nd rfl (by first | exact .inl rfl | exact .inr rfl) (de_call (ok_law_urn T) (hr.mono (by decide)) (by rfl) T.m_law_urn T.F_law_urn.kp T.b_law_urn .nil (fun _ _ => rpL_nil) takesB (da_cons (dv 0) (da_cons (dv 1) da_nil))))
  (db_cons (ds_set 3 sc_law.nd rfl (by first | exact .inl rfl | exact .inr rfl) (de_callTy (cd_tupA rfl) (by rfl) T.n_tuple (by decide +kernel) (da_cons (de_callB cd_sorted (by rfl) T.n_sorted (by decide +kernel) (da_cons (de_call (ok_law_three T) (hr.mono (by decide)) (by rfl) T.m_law_three T.F_law_three.kp T.b_law_three .nil (fun _ _ => rpL_nil) takesB (da_cons (de_call (ok_law_way T) (hr.mono (by decide)) (by rfl) T.m_law_way T.F_law_way.kp T.b_law_way .nil (fun _ _ => rpL_nil) takesB (da_cons (dv 2) (da_cons de_int da_nil))) da_nil)) da_nil)) da_nil)))
  (db_cons (ds_set 3 sc_law.nd rfl (by first | exact .inl rfl | exact .inr rfl) (de_ix (de_lst (da_cons (dv 3) (da_cons (dv 3) (da_cons (dv 3) (da_cons (dv 3) (da_cons (dv 3) (da_cons (dv 3) (da_cons (de_tup (da_cons de_int (da_cons de_int (da_cons de_int da_nil)))) (da_cons (de_tup (da_cons de_int (da_cons de_int (da_cons de_int da_nil)))) da_nil))))))))) (de_call (ok_law_draw T) (hr.mono (by decide)) (by rfl) T.m_law_draw T.F_law_draw.kp T.b_law_draw .nil (fun _ _ => rpL_nil) takesB (da_cons (dv 2) (da_cons de_int da_nil))) (fun _ _ => rfl)))
  (db_cons (ds_set 4 sc_law.nd rfl (by first | exact .inl rfl | exact .inr rfl) (de_call (ok_law_down T) (hr.mono (by decide)) (by rfl) T.m_law_down T.F_law_down.kp T.b_law_down .nil (fun _ _ => rpL_nil) takesB (da_cons (dv 3) da_nil)))
  (db_cons (ds_set 5 sc_law.nd rfl (by first | exact .inl rfl | exact .inr rfl) (de_tup (da_cons de_str (da_cons (de_ix (dv 3) de_int (fun _ _ => rfl)) (da_cons (de_ix (dv 3) de_int (fun _ _ => rfl)) (da_cons (de_ix (dv 3) de_int (fun _ _ => rfl)) da_nil))))))
  (db_cons (ds_if (dt_not (dt_val (de_call (ok_law_all_looked_right T) (hr.mono (by decide)) (by rfl) T.m_law_all_looked_right T.F_law_all_looked_right.kp T.b_law_all_looked_right .nil (fun _ _ => rpL_nil) takesB (da_cons (dv 2) (da_cons (dv 5) (da_cons (dv 4) da_nil)))))) (db_one (ds_ret de_bl)) db_nil)
  (db_cons (ds_set 6 sc_law.nd rfl (by first | exact .inl rfl | exact .inr rfl) (de_call (ok_law_draw T) (hr.mono (by decide)) (by rfl) T.m_law_draw T.F_law_draw.kp T.b_law_draw .nil (fun _ _ => rpL_nil) takesB (da_cons (dv 2) (da_cons (de_callB cd_len (by rfl) T.n_len (by decide +kernel) (da_cons (dv 4) da_nil)) da_nil))))
  (db_one (ds_for (vs := [7]) passB rfl (di_any (de_lst (da_cons (de_slice (dv 4) do_none (do_some (dv 6))) (da_cons (de_slice (dv 4) (do_some (dv 6)) do_none) (da_cons (de_op od_add (dv 4) (de_lst (da_cons (de_tup (da_cons de_int (da_cons de_int (da_cons de_int da_nil)))) (da_cons (de_tup (da_cons de_int (da_cons de_int (da_cons de_int da_nil)))) da_nil)))) (da_cons (de_op od_add (dv 4) (de_lst (da_cons (de_tup (da_cons de_int (da_cons de_int (da_cons de_int da_nil)))) da_nil))) (da_cons (de_callTy (cd_tupA rfl) (by rfl) T.n_tuple (by decide +kernel) (da_cons (dv 4) da_nil)) da_nil))))))) (dg_name (i := 7) sc_law.nd rfl (by first | exact Or.inl rfl | exact Or.inr rfl) (by decide))
  (db_one (ds_if (dt_not (dt_val (de_call (ok_law_looked_right T) (hr.mono (by decide)) (by rfl) T.m_law_looked_right T.F_law_looked_right.kp T.b_law_looked_right .nil (fun _ _ => rpL_nil) takesB (da_cons (dv 5) (da_cons (dv 7) da_nil))))) (db_one (ds_ret de_bl)) db_nil))))))))))))
  (db_one (ds_ret de_bl)))
end
theorem all_mk {w : World} {K : PySem.W.Frag} {h : Heap} {mg : Str → Option Value} {fa : Addr} (X : K.In h) (G : h.Ns mainGlobals mg) (hfa : mg "law" = some (.ref fa))
    {f0 f1 f2 f3 f4 f5 f6 f7 f8 f9 f10 f11 f12 f13 f14 f15 f16 f17 f18 f19 f20 : Addr} {od0 an0 od1 an1 od2 an2 od3 an3 od4 an4 od5 an5 od6 an6 od7 an7 od8 an8 od9 an9 od10 an10 od11 an11 od12 an12 od13 an13 od14 an14 od15 an15 od16 an16 od17 an17 od18 an18 od19 an19 od20 an20 : Option Addr} {sl0 sl1 sl2 sl3 sl4 sl5 sl6 sl7 sl8 sl9 sl10 sl11 sl12 sl13 sl14 sl15 sl16 sl17 sl18 sl19 sl20 : Array (Option Value)}
    {oc0 kV0 dc0 pm0 cd0 ct0 oc1 kV1 dc1 pm1 cd1 ct1 oc2 kV2 dc2 pm2 cd2 ct2 oc3 kV3 dc3 pm3 cd3 ct3 oc4 kV4 dc4 pm4 cd4 ct4 oc5 kV5 dc5 pm5 cd5 ct5 oc6 kV6 dc6 pm6 cd6 ct6 oc7 kV7 dc7 pm7 cd7 ct7 oc8 kV8 dc8 pm8 cd8 ct8 oc9 kV9 dc9 pm9 cd9 ct9 oc10 kV10 dc10 pm10 cd10 ct10 oc11 kV11 dc11 pm11 cd11 ct11 oc12 kV12 dc12 pm12 cd12 ct12 oc13 kV13 dc13 pm13 cd13 ct13 oc14 kV14 dc14 pm14 cd14 ct14 oc15 kV15 dc15 pm15 cd15 ct15 oc16 kV16 dc16 pm16 cd16 ct16 oc17 kV17 dc17 pm17 cd17 ct17 oc18 kV18 dc18 pm18 cd18 ct18 oc19 kV19 dc19 pm19 cd19 ct19 oc20 kV20 dc20 pm20 cd20 ct20 : Value}
    {p_HOLD : Addr} {es_HOLD : Array DictEntry} {n_HOLD : Nat}
    {fx_even_holds : Addr}
    {fx_uneven_holds : Addr}
    {fx_below_holds : Addr}
    {fx_above_holds : Addr}
    {p_HOLD_OF_THREE : Addr} {es_HOLD_OF_THREE : Array DictEntry} {n_HOLD_OF_THREE : Nat}
    {fx_form_below_holds : Addr}
    {fx_form_above_holds : Addr}
    {p_HOLD_SAME : Addr} {es_HOLD_SAME : Array DictEntry} {n_HOLD_SAME : Nat}
    {fx_same_holds : Addr}
    {tk_MANY : Tok}
    {tk_ONES_0 : Tok}
    {tk_ONES_1 : Tok}
    {tk_ONES_2 : Tok}
    {p_ONES : Addr} {np_ONES : Nat} {odp_ONES : Option Addr} {slp_ONES : Array (Option Value)}
    {C_NoPlace fI_NoPlace : Addr} {xod_NoPlace xan_NoPlace : Option Addr} {xsl_NoPlace : Array (Option Value)} {xoc_NoPlace xkV_NoPlace xdc_NoPlace xpm_NoPlace xcd_NoPlace xct_NoPlace : Value}
    (a0 : PySem.W.nsIn K mainGlobals "is_whole" = some (some (.ref f0)))
    (l0 : K.lookup f0 = some ⟨oc0, od0, .func (PySem.W.fnOf "is_whole" "is_whole" (defArgs s_is_whole) (defBody s_is_whole) (defScope s_is_whole) .none kV0 dc0 pm0 an0 cd0 ct0), sl0⟩)
    (c0 : PySem.W.codeIn K cd0 "is_whole" = true)
    (k0 : PySem.W.keepIn K (.ref f0) = true)
    (a1 : PySem.W.nsIn K mainGlobals "are_wholes" = some (some (.ref f1)))
    (l1 : K.lookup f1 = some ⟨oc1, od1, .func (PySem.W.fnOf "are_wholes" "are_wholes" (defArgs s_are_wholes) (defBody s_are_wholes) (defScope s_are_wholes) .none kV1 dc1 pm1 an1 cd1 ct1), sl1⟩)
    (c1 : PySem.W.codeIn K cd1 "are_wholes" = true)
    (k1 : PySem.W.keepIn K (.ref f1) = true)
    (a2 : PySem.W.nsIn K mainGlobals "is_triple" = some (some (.ref f2)))
    (l2 : K.lookup f2 = some ⟨oc2, od2, .func (PySem.W.fnOf "is_triple" "is_triple" (defArgs s_is_triple) (defBody s_is_triple) (defScope s_is_triple) .none kV2 dc2 pm2 an2 cd2 ct2), sl2⟩)
    (c2 : PySem.W.codeIn K cd2 "is_triple" = true)
    (k2 : PySem.W.keepIn K (.ref f2) = true)
    (a3 : PySem.W.nsIn K mainGlobals "look_triple" = some (some (.ref f3)))
    (l3 : K.lookup f3 = some ⟨oc3, od3, .func (PySem.W.fnOf "look_triple" "look_triple" (defArgs s_look_triple) (defBody s_look_triple) (defScope s_look_triple) .none kV3 dc3 pm3 an3 cd3 ct3), sl3⟩)
    (c3 : PySem.W.codeIn K cd3 "look_triple" = true)
    (k3 : PySem.W.keepIn K (.ref f3) = true)
    (a4 : PySem.W.nsIn K mainGlobals "exchanged" = some (some (.ref f4)))
    (l4 : K.lookup f4 = some ⟨oc4, od4, .func (PySem.W.fnOf "exchanged" "exchanged" (defArgs s_exchanged) (defBody s_exchanged) (defScope s_exchanged) .none kV4 dc4 pm4 an4 cd4 ct4), sl4⟩)
    (c4 : PySem.W.codeIn K cd4 "exchanged" = true)
    (k4 : PySem.W.keepIn K (.ref f4) = true)
    (a5 : PySem.W.nsIn K mainGlobals "triple_holds" = some (some (.ref f5)))
    (l5 : K.lookup f5 = some ⟨oc5, od5, .func (PySem.W.fnOf "triple_holds" "triple_holds" (defArgs s_triple_holds) (defBody s_triple_holds) (defScope s_triple_holds) .none kV5 dc5 pm5 an5 cd5 ct5), sl5⟩)
    (c5 : PySem.W.codeIn K cd5 "triple_holds" = true)
    (k5 : PySem.W.keepIn K (.ref f5) = true)
    (a6 : PySem.W.nsIn K mainGlobals "holds" = some (some (.ref f6)))
    (l6 : K.lookup f6 = some ⟨oc6, od6, .func (PySem.W.fnOf "holds" "holds" (defArgs s_holds) (defBody s_holds) (defScope s_holds) .none kV6 dc6 pm6 an6 cd6 ct6), sl6⟩)
    (c6 : PySem.W.codeIn K cd6 "holds" = true)
    (k6 : PySem.W.keepIn K (.ref f6) = true)
    (a7 : PySem.W.nsIn K mainGlobals "_law_urn" = some (some (.ref f7)))
    (l7 : K.lookup f7 = some ⟨oc7, od7, .func (PySem.W.fnOf "_law_urn" "_law_urn" (defArgs s_law_urn) (defBody s_law_urn) (defScope s_law_urn) .none kV7 dc7 pm7 an7 cd7 ct7), sl7⟩)
    (c7 : PySem.W.codeIn K cd7 "_law_urn" = true)
    (k7 : PySem.W.keepIn K (.ref f7) = true)
    (a8 : PySem.W.nsIn K mainGlobals "_law_draw" = some (some (.ref f8)))
    (l8 : K.lookup f8 = some ⟨oc8, od8, .func (PySem.W.fnOf "_law_draw" "_law_draw" (defArgs s_law_draw) (defBody s_law_draw) (defScope s_law_draw) .none kV8 dc8 pm8 an8 cd8 ct8), sl8⟩)
    (c8 : PySem.W.codeIn K cd8 "_law_draw" = true)
    (k8 : PySem.W.keepIn K (.ref f8) = true)
    (a9 : PySem.W.nsIn K mainGlobals "_law_whole" = some (some (.ref f9)))
    (l9 : K.lookup f9 = some ⟨oc9, od9, .func (PySem.W.fnOf "_law_whole" "_law_whole" (defArgs s_law_whole) (defBody s_law_whole) (defScope s_law_whole) .none kV9 dc9 pm9 an9 cd9 ct9), sl9⟩)
    (c9 : PySem.W.codeIn K cd9 "_law_whole" = true)
    (k9 : PySem.W.keepIn K (.ref f9) = true)
    (a10 : PySem.W.nsIn K mainGlobals "_law_way" = some (some (.ref f10)))
    (l10 : K.lookup f10 = some ⟨oc10, od10, .func (PySem.W.fnOf "_law_way" "_law_way" (defArgs s_law_way) (defBody s_law_way) (defScope s_law_way) .none kV10 dc10 pm10 an10 cd10 ct10), sl10⟩)
    (c10 : PySem.W.codeIn K cd10 "_law_way" = true)
    (k10 : PySem.W.keepIn K (.ref f10) = true)
    (a11 : PySem.W.nsIn K mainGlobals "_law_three" = some (some (.ref f11)))
    (l11 : K.lookup f11 = some ⟨oc11, od11, .func (PySem.W.fnOf "_law_three" "_law_three" (defArgs s_law_three) (defBody s_law_three) (defScope s_law_three) .none kV11 dc11 pm11 an11 cd11 ct11), sl11⟩)
    (c11 : PySem.W.codeIn K cd11 "_law_three" = true)
    (k11 : PySem.W.keepIn K (.ref f11) = true)
    (a12 : PySem.W.nsIn K mainGlobals "_law_bent" = some (some (.ref f12)))
    (l12 : K.lookup f12 = some ⟨oc12, od12, .func (PySem.W.fnOf "_law_bent" "_law_bent" (defArgs s_law_bent) (defBody s_law_bent) (defScope s_law_bent) .none kV12 dc12 pm12 an12 cd12 ct12), sl12⟩)
    (c12 : PySem.W.codeIn K cd12 "_law_bent" = true)
    (k12 : PySem.W.keepIn K (.ref f12) = true)
    (a13 : PySem.W.nsIn K mainGlobals "_law_is_claim" = some (some (.ref f13)))
    (l13 : K.lookup f13 = some ⟨oc13, od13, .func (PySem.W.fnOf "_law_is_claim" "_law_is_claim" (defArgs s_law_is_claim) (defBody s_law_is_claim) (defScope s_law_is_claim) .none kV13 dc13 pm13 an13 cd13 ct13), sl13⟩)
    (c13 : PySem.W.codeIn K cd13 "_law_is_claim" = true)
    (k13 : PySem.W.keepIn K (.ref f13) = true)
    (a14 : PySem.W.nsIn K mainGlobals "_law_copied" = some (some (.ref f14)))
    (l14 : K.lookup f14 = some ⟨oc14, od14, .func (PySem.W.fnOf "_law_copied" "_law_copied" (defArgs s_law_copied) (defBody s_law_copied) (defScope s_law_copied) .none kV14 dc14 pm14 an14 cd14 ct14), sl14⟩)
    (c14 : PySem.W.codeIn K cd14 "_law_copied" = true)
    (k14 : PySem.W.keepIn K (.ref f14) = true)
    (a15 : PySem.W.nsIn K mainGlobals "_law_down" = some (some (.ref f15)))
    (l15 : K.lookup f15 = some ⟨oc15, od15, .func (PySem.W.fnOf "_law_down" "_law_down" (defArgs s_law_down) (defBody s_law_down) (defScope s_law_down) .none kV15 dc15 pm15 an15 cd15 ct15), sl15⟩)
    (c15 : PySem.W.codeIn K cd15 "_law_down" = true)
    (k15 : PySem.W.keepIn K (.ref f15) = true)
    (a16 : PySem.W.nsIn K mainGlobals "_law_is_triple" = some (some (.ref f16)))
    (l16 : K.lookup f16 = some ⟨oc16, od16, .func (PySem.W.fnOf "_law_is_triple" "_law_is_triple" (defArgs s_law_is_triple) (defBody s_law_is_triple) (defScope s_law_is_triple) .none kV16 dc16 pm16 an16 cd16 ct16), sl16⟩)
    (c16 : PySem.W.codeIn K cd16 "_law_is_triple" = true)
    (k16 : PySem.W.keepIn K (.ref f16) = true)
    (a17 : PySem.W.nsIn K mainGlobals "_law_due" = some (some (.ref f17)))
    (l17 : K.lookup f17 = some ⟨oc17, od17, .func (PySem.W.fnOf "_law_due" "_law_due" (defArgs s_law_due) (defBody s_law_due) (defScope s_law_due) .none kV17 dc17 pm17 an17 cd17 ct17), sl17⟩)
    (c17 : PySem.W.codeIn K cd17 "_law_due" = true)
    (k17 : PySem.W.keepIn K (.ref f17) = true)
    (a18 : PySem.W.nsIn K mainGlobals "_law_looked_right" = some (some (.ref f18)))
    (l18 : K.lookup f18 = some ⟨oc18, od18, .func (PySem.W.fnOf "_law_looked_right" "_law_looked_right" (defArgs s_law_looked_right) (defBody s_law_looked_right) (defScope s_law_looked_right) .none kV18 dc18 pm18 an18 cd18 ct18), sl18⟩)
    (c18 : PySem.W.codeIn K cd18 "_law_looked_right" = true)
    (k18 : PySem.W.keepIn K (.ref f18) = true)
    (a19 : PySem.W.nsIn K mainGlobals "_law_all_looked_right" = some (some (.ref f19)))
    (l19 : K.lookup f19 = some ⟨oc19, od19, .func (PySem.W.fnOf "_law_all_looked_right" "_law_all_looked_right" (defArgs s_law_all_looked_right) (defBody s_law_all_looked_right) (defScope s_law_all_looked_right) .none kV19 dc19 pm19 an19 cd19 ct19), sl19⟩)
    (c19 : PySem.W.codeIn K cd19 "_law_all_looked_right" = true)
    (k19 : PySem.W.keepIn K (.ref f19) = true)
    (a20 : PySem.W.nsIn K mainGlobals "law" = some (some (.ref f20)))
    (l20 : K.lookup f20 = some ⟨oc20, od20, .func (PySem.W.fnOf "law" "law" (defArgs s_law) (defBody s_law) (defScope s_law) .none kV20 dc20 pm20 an20 cd20 ct20), sl20⟩)
    (c20 : PySem.W.codeIn K cd20 "law" = true)
    (k20 : PySem.W.keepIn K (.ref f20) = true)
    (xg_NoPlace : PySem.W.nsIn K mainGlobals "NoPlace" = some (some (.ref C_NoPlace)))
    (xi_NoPlace : PySem.W.findIn K (.ref C_NoPlace) "__init__" = some (some (.ref fI_NoPlace)))
    (xl_NoPlace : K.lookup fI_NoPlace = some ⟨xoc_NoPlace, xod_NoPlace, .func (PySem.W.fnOf "__init__" "NoPlace.__init__" (defArgs sI_NoPlace) (defBody sI_NoPlace) (defScope sI_NoPlace) .none xkV_NoPlace xdc_NoPlace xpm_NoPlace xan_NoPlace xcd_NoPlace xct_NoPlace), xsl_NoPlace⟩)
    (xc_NoPlace : PySem.W.codeIn K xcd_NoPlace "NoPlace.__init__" = true)
    (xk_NoPlace : PySem.W.keepIn K (.ref fI_NoPlace) = true)
    (xf_NoPlace : fxB K "NoPlace" [.type "IndexError", .type "LookupError", .type "Exception", .type "BaseException", .type "object"] "IndexError.__new__" C_NoPlace fI_NoPlace ["place", "many"] = true)
    (rs_NoTriple : rsB K "NoTriple" [.type "ValueError", .type "Exception", .type "BaseException", .type "object"] "ValueError.__new__" = true)
    (g_HOLD : PySem.W.nsIn K mainGlobals "HOLD" = some (some (.ref p_HOLD)))
    (l_HOLD : K.lookup p_HOLD = some ⟨.type "dict", none, .dict es_HOLD n_HOLD, #[]⟩)
    (y_HOLD : PySem.W.KeysLit w.params es_HOLD.toList)
    (e0_HOLD : PySem.W.nsIn K p_HOLD "even" = some (some (.ref fx_even_holds)))
    (fa_even_holds : PySem.W.nsIn K mainGlobals "even_holds" = some (some (.ref fx_even_holds)))
    (e1_HOLD : PySem.W.nsIn K p_HOLD "uneven" = some (some (.ref fx_uneven_holds)))
    (fa_uneven_holds : PySem.W.nsIn K mainGlobals "uneven_holds" = some (some (.ref fx_uneven_holds)))
    (e2_HOLD : PySem.W.nsIn K p_HOLD "below" = some (some (.ref fx_below_holds)))
    (fa_below_holds : PySem.W.nsIn K mainGlobals "below_holds" = some (some (.ref fx_below_holds)))
    (e3_HOLD : PySem.W.nsIn K p_HOLD "above" = some (some (.ref fx_above_holds)))
    (fa_above_holds : PySem.W.nsIn K mainGlobals "above_holds" = some (some (.ref fx_above_holds)))
    (s_HOLD : (p_HOLD == sysModules) = false)
    (sk_HOLD : es_HOLD.toList.map skey = (["even", "uneven", "below", "above"] : List PySem.Str).map some)
    (g_HOLD_OF_THREE : PySem.W.nsIn K mainGlobals "HOLD_OF_THREE" = some (some (.ref p_HOLD_OF_THREE)))
    (l_HOLD_OF_THREE : K.lookup p_HOLD_OF_THREE = some ⟨.type "dict", none, .dict es_HOLD_OF_THREE n_HOLD_OF_THREE, #[]⟩)
    (y_HOLD_OF_THREE : PySem.W.KeysLit w.params es_HOLD_OF_THREE.toList)
    (e0_HOLD_OF_THREE : PySem.W.nsIn K p_HOLD_OF_THREE "triple" = some (some (.ref f5)))
    (e1_HOLD_OF_THREE : PySem.W.nsIn K p_HOLD_OF_THREE "form below" = some (some (.ref fx_form_below_holds)))
    (fa_form_below_holds : PySem.W.nsIn K mainGlobals "form_below_holds" = some (some (.ref fx_form_below_holds)))
    (e2_HOLD_OF_THREE : PySem.W.nsIn K p_HOLD_OF_THREE "form above" = some (some (.ref fx_form_above_holds)))
    (fa_form_above_holds : PySem.W.nsIn K mainGlobals "form_above_holds" = some (some (.ref fx_form_above_holds)))
    (s_HOLD_OF_THREE : (p_HOLD_OF_THREE == sysModules) = false)
    (sk_HOLD_OF_THREE : es_HOLD_OF_THREE.toList.map skey = (["triple", "form below", "form above"] : List PySem.Str).map some)
    (g_HOLD_SAME : PySem.W.nsIn K mainGlobals "HOLD_SAME" = some (some (.ref p_HOLD_SAME)))
    (l_HOLD_SAME : K.lookup p_HOLD_SAME = some ⟨.type "dict", none, .dict es_HOLD_SAME n_HOLD_SAME, #[]⟩)
    (y_HOLD_SAME : PySem.W.KeysLit w.params es_HOLD_SAME.toList)
    (e0_HOLD_SAME : PySem.W.nsIn K p_HOLD_SAME "same" = some (some (.ref fx_same_holds)))
    (fa_same_holds : PySem.W.nsIn K mainGlobals "same_holds" = some (some (.ref fx_same_holds)))
    (s_HOLD_SAME : (p_HOLD_SAME == sysModules) = false)
    (sk_HOLD_SAME : es_HOLD_SAME.toList.map skey = (["same"] : List PySem.Str).map some)
    (g_MANY : PySem.W.nsIn K mainGlobals "MANY" = some (some (.int 3 tk_MANY)))
    (g_ONES : PySem.W.nsIn K mainGlobals "ONES" = some (some (.ref p_ONES)))
    (lp_ONES : K.lookup p_ONES = some ⟨.type "tuple", odp_ONES, .seq #[.int 1 tk_ONES_0, .int 1 tk_ONES_1, .int 1 tk_ONES_2] np_ONES, slp_ONES⟩)
    (z_abs : PySem.W.nsIn K mainGlobals "abs" = some none)
    (z_all : PySem.W.nsIn K mainGlobals "all" = some none)
    (z_bool : PySem.W.nsIn K mainGlobals "bool" = some none)
    (z_int : PySem.W.nsIn K mainGlobals "int" = some none)
    (z_isinstance : PySem.W.nsIn K mainGlobals "isinstance" = some none)
    (z_len : PySem.W.nsIn K mainGlobals "len" = some none)
    (z_list : PySem.W.nsIn K mainGlobals "list" = some none)
    (z_max : PySem.W.nsIn K mainGlobals "max" = some none)
    (z_min : PySem.W.nsIn K mainGlobals "min" = some none)
    (z_range : PySem.W.nsIn K mainGlobals "range" = some none)
    (z_repr : PySem.W.nsIn K mainGlobals "repr" = some none)
    (z_sorted : PySem.W.nsIn K mainGlobals "sorted" = some none)
    (z_str : PySem.W.nsIn K mainGlobals "str" = some none)
    (z_tuple : PySem.W.nsIn K mainGlobals "tuple" = some none)
    (z_zip : PySem.W.nsIn K mainGlobals "zip" = some none)
    : LawG PySem.Challenge.rw_nearthrees_k57_papers_of_triples w K (L2N.CX PySem.Challenge.rw_nearthrees_k57_papers_of_triples.prog w) 9 63 "_law_script" mg fa h := by
  have e := hfa.symm.trans (PySem.W.mg_of X G a20)
  cases e
  have F0 := fun_mk (st := s_is_whole) l0 c0 k0
  have b0 := F0.binds (ps := ["thing"]) fun _ _ _ _ _ _ us hl => match us, hl with | [_], _ => rfl
  have F1 := fun_mk (st := s_are_wholes) l1 c1 k1
  have b1 := F1.binds (ps := ["things"]) fun _ _ _ _ _ _ us hl => match us, hl with | [_], _ => rfl
  have F2 := fun_mk (st := s_is_triple) l2 c2 k2
  have b2 := F2.binds (ps := ["thing"]) fun _ _ _ _ _ _ us hl => match us, hl with | [_], _ => rfl
  have F3 := fun_mk (st := s_look_triple) l3 c3 k3
  have b3 := F3.binds (ps := ["thing"]) fun _ _ _ _ _ _ us hl => match us, hl with | [_], _ => rfl
  have F4 := fun_mk (st := s_exchanged) l4 c4 k4
  have b4 := F4.binds (ps := ["triple", "place"]) fun _ _ _ _ _ _ us hl => match us, hl with | [_, _], _ => rfl
  have F5 := fun_mk (st := s_triple_holds) l5 c5 k5
  have b5 := F5.binds (ps := ["x", "y", "z", "paper"]) fun _ _ _ _ _ _ us hl => match us, hl with | [_, _, _, _], _ => rfl
  have F6 := fun_mk (st := s_holds) l6 c6 k6
  have b6 := F6.binds (ps := ["claim", "paper"]) fun _ _ _ _ _ _ us hl => match us, hl with | [_, _], _ => rfl
  have F7 := fun_mk (st := s_law_urn) l7 c7 k7
  have b7 := F7.binds (ps := ["_law_script", "_law_at"]) fun _ _ _ _ _ _ us hl => match us, hl with | [_, _], _ => rfl
  have F8 := fun_mk (st := s_law_draw) l8 c8 k8
  have b8 := F8.binds (ps := ["_law_urn_here", "_law_wide"]) fun _ _ _ _ _ _ us hl => match us, hl with | [_, _], _ => rfl
  have F9 := fun_mk (st := s_law_whole) l9 c9 k9
  have b9 := F9.binds (ps := ["_law_thing"]) fun _ _ _ _ _ _ us hl => match us, hl with | [_], _ => rfl
  have F10 := fun_mk (st := s_law_way) l10 c10 k10
  have b10 := F10.binds (ps := ["_law_urn_here", "_law_most"]) fun _ _ _ _ _ _ us hl => match us, hl with | [_, _], _ => rfl
  have F11 := fun_mk (st := s_law_three) l11 c11 k11
  have b11 := F11.binds (ps := ["_law_way_here"]) fun _ _ _ _ _ _ us hl => match us, hl with | [_], _ => rfl
  have F12 := fun_mk (st := s_law_bent) l12 c12 k12
  have b12 := F12.binds (ps := ["_law_urn_here", "_law_thing"]) fun _ _ _ _ _ _ us hl => match us, hl with | [_, _], _ => rfl
  have F13 := fun_mk (st := s_law_is_claim) l13 c13 k13
  have b13 := F13.binds (ps := ["_law_thing", "_law_word", "_law_many"]) fun _ _ _ _ _ _ us hl => match us, hl with | [_, _, _], _ => rfl
  have F14 := fun_mk (st := s_law_copied) l14 c14 k14
  have b14 := F14.binds (ps := ["_law_thing"]) fun _ _ _ _ _ _ us hl => match us, hl with | [_], _ => rfl
  have F15 := fun_mk (st := s_law_down) l15 c15 k15
  have b15 := F15.binds (ps := ["_law_triple"]) fun _ _ _ _ _ _ us hl => match us, hl with | [_], _ => rfl
  have F16 := fun_mk (st := s_law_is_triple) l16 c16 k16
  have b16 := F16.binds (ps := ["_law_thing"]) fun _ _ _ _ _ _ us hl => match us, hl with | [_], _ => rfl
  have F17 := fun_mk (st := s_law_due) l17 c17 k17
  have b17 := F17.binds (ps := ["_law_saying", "_law_sheet"]) fun _ _ _ _ _ _ us hl => match us, hl with | [_, _], _ => rfl
  have F18 := fun_mk (st := s_law_looked_right) l18 c18 k18
  have b18 := F18.binds (ps := ["_law_saying", "_law_sheet"]) fun _ _ _ _ _ _ us hl => match us, hl with | [_, _], _ => rfl
  have F19 := fun_mk (st := s_law_all_looked_right) l19 c19 k19
  have b19 := F19.binds (ps := ["_law_urn_here", "_law_saying", "_law_sheet"]) fun _ _ _ _ _ _ us hl => match us, hl with | [_, _, _], _ => rfl
  have F20 := fun_mk (st := s_law) l20 c20 k20
  have b20 := F20.binds (ps := ["_law_script"]) fun _ _ _ _ _ _ us hl => match us, hl with | [_], _ => rfl
  have ks_holds_0_paper_claim : Hx.KSel K (PySem.W.fnOf "holds" "holds" (defArgs s_holds) (defBody s_holds) (defScope s_holds) .none kV6 dc6 pm6 an6 cd6 ct6) ["claim", "paper"] 0 ["paper", "claim"] [1, 0] [] := ⟨[], .nil, fun s us ws X l1 l2 => match us, ws, l1, l2 with | [], [_, _], _, _ => .of_eq rfl⟩
  obtain ⟨C_NoTriple, R_NoTriple⟩ := rsB_ok rs_NoTriple
  have FI_NoPlace := fun_mk (st := sI_NoPlace) xl_NoPlace xc_NoPlace xk_NoPlace
  have bI_NoPlace := FI_NoPlace.binds (ps := ["self", "place", "many"]) fun _ _ _ _ _ _ us hl => match us, hl with | [_, _, _], _ => rfl
  let T : ∀ base : Heap, Txt w K mg base := fun base => {
    f_is_whole := _, fd_is_whole := _, F_is_whole := F0, m_is_whole := PySem.W.mg_of X G a0, b_is_whole := b0,
    f_are_wholes := _, fd_are_wholes := _, F_are_wholes := F1, m_are_wholes := PySem.W.mg_of X G a1, b_are_wholes := b1,
    f_is_triple := _, fd_is_triple := _, F_is_triple := F2, m_is_triple := PySem.W.mg_of X G a2, b_is_triple := b2,
    f_look_triple := _, fd_look_triple := _, F_look_triple := F3, m_look_triple := PySem.W.mg_of X G a3, b_look_triple := b3,
    f_exchanged := _, fd_exchanged := _, F_exchanged := F4, m_exchanged := PySem.W.mg_of X G a4, b_exchanged := b4,
    gn_triple_holds := a5,
    f_triple_holds := _, fd_triple_holds := _, F_triple_holds := F5, m_triple_holds := PySem.W.mg_of X G a5, b_triple_holds := b5,
    f_holds := _, fd_holds := _, F_holds := F6, m_holds := PySem.W.mg_of X G a6, b_holds := b6,
    f_law_urn := _, fd_law_urn := _, F_law_urn := F7, m_law_urn := PySem.W.mg_of X G a7, b_law_urn := b7,
    f_law_draw := _, fd_law_draw := _, F_law_draw := F8, m_law_draw := PySem.W.mg_of X G a8, b_law_draw := b8,
    f_law_whole := _, fd_law_whole := _, F_law_whole := F9, m_law_whole := PySem.W.mg_of X G a9, b_law_whole := b9,
    f_law_way := _, fd_law_way := _, F_law_way := F10, m_law_way := PySem.W.mg_of X G a10, b_law_way := b10,
    f_law_three := _, fd_law_three := _, F_law_three := F11, m_law_three := PySem.W.mg_of X G a11, b_law_three := b11,
    f_law_bent := _, fd_law_bent := _, F_law_bent := F12, m_law_bent := PySem.W.mg_of X G a12, b_law_bent := b12,
    f_law_is_claim := _, fd_law_is_claim := _, F_law_is_claim := F13, m_law_is_claim := PySem.W.mg_of X G a13, b_law_is_claim := b13,
    f_law_copied := _, fd_law_copied := _, F_law_copied := F14, m_law_copied := PySem.W.mg_of X G a14, b_law_copied := b14,
    f_law_down := _, fd_law_down := _, F_law_down := F15, m_law_down := PySem.W.mg_of X G a15, b_law_down := b15,
    f_law_is_triple := _, fd_law_is_triple := _, F_law_is_triple := F16, m_law_is_triple := PySem.W.mg_of X G a16, b_law_is_triple := b16,
    f_law_due := _, fd_law_due := _, F_law_due := F17, m_law_due := PySem.W.mg_of X G a17, b_law_due := b17,
    f_law_looked_right := _, fd_law_looked_right := _, F_law_looked_right := F18, m_law_looked_right := PySem.W.mg_of X G a18, b_law_looked_right := b18,
    f_law_all_looked_right := _, fd_law_all_looked_right := _, F_law_all_looked_right := F19, m_law_all_looked_right := PySem.W.mg_of X G a19, b_law_all_looked_right := b19,
    f_law := _, fd_law := _, F_law := F20, m_law := PySem.W.mg_of X G a20, b_law := b20,
    ks_holds_0_paper_claim := ks_holds_0_paper_claim,
    C_NoPlace := C_NoPlace, fI_NoPlace := fI_NoPlace, fdI_NoPlace := _, FI_NoPlace := FI_NoPlace, bI_NoPlace := bI_NoPlace, X_NoPlace := fxB_ok pass_IndexError (by decide +kernel) xf_NoPlace, gc_NoPlace := PySem.W.mg_of X G xg_NoPlace,
    C_NoTriple := C_NoTriple, R_NoTriple := R_NoTriple, gc_NoTriple := PySem.W.mg_of X G R_NoTriple.at_,
    a_HOLD := p_HOLD,
    m_HOLD := PySem.W.mg_of X G g_HOLD,
    k_HOLD := fun z d e => by
      unfold k_HOLD at e
      split at e
      · rename_i hz
        rw [← Option.some.inj e, hz]
        exact ⟨.ref fx_even_holds, ⟨_, _, _, l_HOLD, y_HOLD, e0_HOLD, rfl⟩, fun H S => ⟨_, rfl, fa_even_holds⟩⟩
      split at e
      · rename_i hz
        rw [← Option.some.inj e, hz]
        exact ⟨.ref fx_uneven_holds, ⟨_, _, _, l_HOLD, y_HOLD, e1_HOLD, rfl⟩, fun H S => ⟨_, rfl, fa_uneven_holds⟩⟩
      split at e
      · rename_i hz
        rw [← Option.some.inj e, hz]
        exact ⟨.ref fx_below_holds, ⟨_, _, _, l_HOLD, y_HOLD, e2_HOLD, rfl⟩, fun H S => ⟨_, rfl, fa_below_holds⟩⟩
      split at e
      · rename_i hz
        rw [← Option.some.inj e, hz]
        exact ⟨.ref fx_above_holds, ⟨_, _, _, l_HOLD, y_HOLD, e3_HOLD, rfl⟩, fun H S => ⟨_, rfl, fa_above_holds⟩⟩
      exact absurd e (by simp),
    q_HOLD := ⟨_, _, ⟨l_HOLD, y_HOLD, s_HOLD⟩, sk_HOLD⟩,
    a_HOLD_OF_THREE := p_HOLD_OF_THREE,
    m_HOLD_OF_THREE := PySem.W.mg_of X G g_HOLD_OF_THREE,
    k_HOLD_OF_THREE := fun z d e => by
      unfold k_HOLD_OF_THREE at e
      split at e
      · rename_i hz
        rw [← Option.some.inj e, hz]
        exact ⟨.ref f5, ⟨_, _, _, l_HOLD_OF_THREE, y_HOLD_OF_THREE, e0_HOLD_OF_THREE, rfl⟩, fun H S => ⟨_, rfl, a5⟩⟩
      split at e
      · rename_i hz
        rw [← Option.some.inj e, hz]
        exact ⟨.ref fx_form_below_holds, ⟨_, _, _, l_HOLD_OF_THREE, y_HOLD_OF_THREE, e1_HOLD_OF_THREE, rfl⟩, fun H S => ⟨_, rfl, fa_form_below_holds⟩⟩
      split at e
      · rename_i hz
        rw [← Option.some.inj e, hz]
        exact ⟨.ref fx_form_above_holds, ⟨_, _, _, l_HOLD_OF_THREE, y_HOLD_OF_THREE, e2_HOLD_OF_THREE, rfl⟩, fun H S => ⟨_, rfl, fa_form_above_holds⟩⟩
      exact absurd e (by simp),
    q_HOLD_OF_THREE := ⟨_, _, ⟨l_HOLD_OF_THREE, y_HOLD_OF_THREE, s_HOLD_OF_THREE⟩, sk_HOLD_OF_THREE⟩,
    a_HOLD_SAME := p_HOLD_SAME,
    m_HOLD_SAME := PySem.W.mg_of X G g_HOLD_SAME,
    k_HOLD_SAME := fun z d e => by
      unfold k_HOLD_SAME at e
      split at e
      · rename_i hz
        rw [← Option.some.inj e, hz]
        exact ⟨.ref fx_same_holds, ⟨_, _, _, l_HOLD_SAME, y_HOLD_SAME, e0_HOLD_SAME, rfl⟩, fun H S => ⟨_, rfl, fa_same_holds⟩⟩
      exact absurd e (by simp),
    q_HOLD_SAME := ⟨_, _, ⟨l_HOLD_SAME, y_HOLD_SAME, s_HOLD_SAME⟩, sk_HOLD_SAME⟩,
    v_MANY := .int 3,
    u_MANY := _,
    m_MANY := PySem.W.mg_of X G g_MANY,
    r_MANY := ⟨_, rfl⟩,
    k_MANY := fun _ _ => rfl,
    v_ONES := .ref p_ONES,
    u_ONES := _,
    m_ONES := PySem.W.mg_of X G g_ONES,
    r_ONES := rfl,
    k_ONES := fun _ _ => (rp_ktup (vs := [.int 1, .int 1, .int 1]) lp_ONES (by show 3 ≤ 1000; decide) (.cons ⟨_, rfl⟩ (.cons ⟨_, rfl⟩ (.cons ⟨_, rfl⟩ .nil))) (rpL_cons rfl (rpL_cons rfl (rpL_cons rfl rpL_nil)))),
    n_abs := PySem.W.mg_none_of X G z_abs,
    n_all := PySem.W.mg_none_of X G z_all,
    n_bool := PySem.W.mg_none_of X G z_bool,
    n_int := PySem.W.mg_none_of X G z_int,
    n_isinstance := PySem.W.mg_none_of X G z_isinstance,
    n_len := PySem.W.mg_none_of X G z_len,
    n_list := PySem.W.mg_none_of X G z_list,
    n_max := PySem.W.mg_none_of X G z_max,
    n_min := PySem.W.mg_none_of X G z_min,
    n_range := PySem.W.mg_none_of X G z_range,
    n_repr := PySem.W.mg_none_of X G z_repr,
    n_sorted := PySem.W.mg_none_of X G z_sorted,
    n_str := PySem.W.mg_none_of X G z_str,
    n_tuple := PySem.W.mg_none_of X G z_tuple,
    n_zip := PySem.W.mg_none_of X G z_zip
  }
  exact ⟨(PySem.W.fnOf "law" "law" (defArgs s_law) (defBody s_law) (defScope s_law) .none kV20 dc20 pm20 an20 cd20 ct20), [], upF K spLawD, (fun _ h => nomatch h), (fun _ h => nomatch h), (fun _ h => nomatch h), fun s v => .of_eq rfl, fun H a ns hl _ _ hS => law_start hS hl, fun base _ _ _ => ok_law (T base)⟩

end K57
open PySem PySem.W PyProof.Rows
namespace HeadQ
open PySem PySem.W PySem.Calls PyProof.Rows HeadRun
abbrev R : OpenRow := OpenLaw.row PySem.Challenge.rw_nearthrees_k57_papers_of_triples
/-- what the walk sees of the top: the law alone -/
abbrev qv : Program := view R.prog [123]
def nm : List PySem.Str := (["_wall", "__name__", "NoNumber", "NoKin", "OverNought", "NoPlace", "NoWord", "NoStep", "Uneven", "NoTable", "NoTriple", "NoForm", "is_whole", "are_wholes", "shared_by", "sign_in", "side_of", "is_square", "lowest_terms", "LEAST_SQUARE", "PARTS", "is_under_root", "is_bottom", "LOOKS", "look_parts", "Root", "contrary_of", "root_text", "sum_text", "MOST_RING"] : List PySem.Str) ++ (["MOST_NUMBER", "is_within", "is_row", "is_number_ring", "table_of_row", "form_of_row", "LETTERS", "MOST_LETTERS", "is_word", "look_word", "how_many_b", "uneven_pair", "is_even", "UNIT", "LETTER_TABLES", "is_pair_of", "is_table", "size_of", "is_turning", "look_turning", "joined", "corners", "table_by", "table_of", "Form", "even_word", "is_step_word", "look_step", "look_step_steps", "cut_by"] : List PySem.Str) ++ (["cut_of", "ONES", "TWO", "MANY", "is_triple", "look_triple", "exchanged", "THIRD", "ALONE", "look_step_joins", "number_of", "triple_of", "turned_row", "square_at", "is_greater", "WALL", "NUMBERS", "row_of_word", "form_by", "is_tuple_of", "is_place_of", "is_part_of", "even_holds", "uneven_holds", "same_holds", "triple_holds", "below_holds", "above_holds", "form_in", "form_below_holds"] : List PySem.Str) ++ (["form_above_holds", "HOLD", "HOLD_SAME", "HOLD_OF_THREE", "holds", "_law_urn", "_law_draw", "_law_whole", "_law_way", "_law_three", "_law_bent", "_law_is_claim", "_law_copied", "_law_looked_right", "_law_all_looked_right", "_law_is_triple", "_law_down", "_law_due"] : List PySem.Str)
def Xq : Shared → Bool := fun s => xlAt qv [] s && recOk (RowW.records R.toRowW) s
theorem run_join {α β : Type} {x : Option SharedT} {f : SharedT → Bool} {g : SharedT → α} {h : SharedT → β} {a : Bool} {b : α} {c : β} (h1 : x.map f = some a) (h2 : x.map g = some b) (h3 : x.map h = some c) : x.map (fun s => (f s, g s, h s)) = some (a, b, c) := by
  cases x with
  | none => cases h1
  | some s =>
    obtain rfl : f s = a := Option.some.inj h1
    obtain rfl : g s = b := Option.some.inj h2
    obtain rfl : h s = c := Option.some.inj h3
    rfl
abbrev Wb (b : Bool) (w : World) : World := w.withFollow "special-get-raises" b
/-- more than the steps of the top -/
def M9 : Nat := 60000
noncomputable abbrev endR (w : World) (os : OsState) : Option SharedT := endF (stepQ (denQ tabQ) R.prog w) M9 R.prog w os
theorem run_a0 (w : World) (os : OsState) : (endR (Wb false w) os).map (fun s => looksF R.prog (boot_heap (Wb false w).params) s.abs) = some true := by kernel_rfl
theorem run_a1 (w : World) (os : OsState) : (endR (Wb true w) os).map (fun s => looksF R.prog (boot_heap (Wb true w).params) s.abs) = some true := by kernel_rfl
theorem run_b0 (w : World) (os : OsState) : (endR (Wb false w) os).map (fun s => seenQ qv nm (importedModules R.prog.main.body) Xq s.abs) = some (openGood qv nm) := by kernel_rfl
theorem run_b1 (w : World) (os : OsState) : (endR (Wb true w) os).map (fun s => seenQ qv nm (importedModules R.prog.main.body) Xq s.abs) = some (openGood qv nm) := by kernel_rfl
theorem left_any {β : Type} {Yf : Shared → β} {Ya : World → β} {N : Nat} (yf : SharedT → β) (ey : ∀ s : SharedT, yf s = Yf s.abs)
    (e : opening R.prog = plainProg R.prog.main.scope.names) (hN : Nat.ble 600 N = true) (f : ∀ s, fenceModules? R.prog s = some s) (le : Nat.ble M9 N = true)
    (r : ∀ (b : Bool) (w : World) (os : OsState), (endR (Wb b w) os).map yf = some (Ya (Wb b w))) : LeftO R.prog qv nm Xq Yf Ya N true :=
  left_one (M := M9) e hN f le fun w os => by
    have z := byRow2 "special-get-raises" (P := fun w => ∀ os : OsState, (endR w os).map (fun s => (looksF R.prog (boot_heap w.params) s.abs, seenQ qv nm (importedModules R.prog.main.body) Xq s.abs, yf s)) = some (true, openGood qv nm, Ya w)) (fun w os => run_join (run_a0 w os) (run_b0 w os) (r false w os)) (fun w os => run_join (run_a1 w os) (run_b1 w os) (r true w os)) w os
    have eo : yf = fun s => Yf s.abs := funext ey
    rw [eo] at z
    simp only [endQ_eq, seenQ_eq]
    exact z
/-- the objects that the walk reads, their places, the makers' tables: told once, so that each run is a declaration of its own -/
def grab {K : Params → Frag} {as : List Addr} {e : ∀ P, as = (K P).map (·.1)} {H : Hook} (_ : H = kHook K as e) : (Params → Frag) × List Addr × List Addr := (K, as, [])
end HeadQ
section
local macro_rules | `(tactic| o_head $H) => `(tactic| (assumption; exact HeadQ.grab (H := $H) rfl))
set_option maxRecDepth 100000 in
set_option maxHeartbeats 0 in
noncomputable def HeadQ.kall : (PySem.Params → PySem.W.Frag) × List PySem.Addr × List PySem.Addr := by
  refine (fun (_ : HeadQ.R.Holds → HeadQ.R.Holds) (t : (PySem.Params → PySem.W.Frag) × List PySem.Addr × List PySem.Addr) => t) ?a ?t
  intro h
  k_head
end
namespace HeadQ
open PySem PySem.W PySem.Calls PyProof.Rows HeadRun
/-- the objects, off the tree, and the tables -/
def RunT (K : Params → Frag) (as ts : List Addr) (b : Bool) : Prop := ∀ (w : World) (os : OsState), (endR (Wb b w) os).map (fun s => (as.map (getT s), ts.map (getT s))) = some ((K (Wb b w).params).map fun x => some x.2, ts.map fun _ => some (tabObj #[]))
set_option maxRecDepth 100000 in
theorem run_t0 : RunT kall.1 kall.2.1 kall.2.2 false := by
  intro w os
  kernel_rfl
set_option maxRecDepth 100000 in
theorem run_t1 : RunT kall.1 kall.2.1 kall.2.2 true := by
  intro w os
  kernel_rfl
theorem fst_run {α β : Type} {x : Option SharedT} {f : SharedT → α} {g : SharedT → β} {a : α} {b : β} (h : x.map (fun s => (f s, g s)) = some (a, b)) : x.map f = some a := by
  cases x with
  | none => cases h
  | some s =>
    have h' : (f s, g s) = (a, b) := Option.some.inj h
    exact congrArg some (Prod.mk.inj h').1
theorem left_two {K : Params → Frag} {as : List Addr} {ek : ∀ P, as = (K P).map (·.1)} {N : Nat}
    (e : opening R.prog = plainProg R.prog.main.scope.names) (hN : Nat.ble 600 N = true) (f : ∀ s, fenceModules? R.prog s = some s) (le : Nat.ble M9 N = true) (r0 : RunT K as [] false) (r1 : RunT K as [] true) :
    LeftO R.prog qv nm Xq (Hook.obs (kHook K as ek)) (Hook.val (kHook K as ek)) N true :=
  left_any (fun s => as.map (getT s)) (fun s => List.map_congr_left fun a _ => getT_eq s a) e hN f le fun b w os => by cases b; exact fst_run (r0 w os); exact fst_run (r1 w os)
end HeadQ
local macro_rules | `(tactic| o_head $H) => `(tactic| (
  refine holds_open (r := HeadQ.R) (q := HeadQ.qv) (loose := HeadQ.nm) (Xt := HeadQ.Xq) (XP := XL HeadQ.qv []) (Yf := Hook.obs $H) (Ya := Hook.val $H) (YP := Hook.says $H) (N := 70000) ?hl (Hook.of $H) (Hook.keeps $H) (fun s e => xl_of s (Bool.and_eq_true_iff.mp e).1) XL.keeps (by rfl) (by rfl) (by rfl) (fun s e => recFacts_of (Bool.and_eq_true_iff.mp e).2) (by rfl) (by first | assumption | decide +kernel) (by decide +kernel) ⟨rfl, rfl, rfl, rfl, rfl, by decide +kernel⟩ ?hw ?hc
  case hl =>
    (refine HeadQ.left_two (by kernel_rfl) (by rfl) (fun s => by kernel_rfl) (by rfl) ?r0 ?r1
     (case r0 => exact HeadQ.run_t0)
     (case r1 => exact HeadQ.run_t1))))
set_option maxRecDepth 100000 in
set_option maxHeartbeats 0 in
theorem PySem.Challenge.cw_nearthrees_k57_papers_of_triples_holds : PySem.Challenge.rw_nearthrees_k57_papers_of_triples.Holds := by
  w_on; o_law; k_head; (case hw => w_witness2)
  k_fill
  refine Hx.lawG_end (l := PySem.Challenge.rw_nearthrees_k57_papers_of_triples) (n := 63) (k := 9) (x := "_law_script") (CX := fun w => L2N.CX (PySem.Challenge.rw_nearthrees_k57_papers_of_triples).prog w) rfl (by decide) rfl ⟨⟨rfl, by decide, by decide⟩, rfl⟩ (fun w h Y => PySem.W.kIn_of Y) ?F fun _ _ _ _ _ z => Dv.CX_no z
  case F =>
    intro w mg fa h Y KX G hmg
    refine' K57.all_mk KX G hmg ?a0 ?l0 ?c0 ?k0 ?a1 ?l1 ?c1 ?k1 ?a2 ?l2 ?c2 ?k2 ?a3 ?l3 ?c3 ?k3 ?a4 ?l4 ?c4 ?k4 ?a5 ?l5 ?c5 ?k5 ?a6 ?l6 ?c6 ?k6 ?a7 ?l7 ?c7 ?k7 ?a8 ?l8 ?c8 ?k8 ?a9 ?l9 ?c9 ?k9 ?a10 ?l10 ?c10 ?k10 ?a11 ?l11 ?c11 ?k11 ?a12 ?l12 ?c12 ?k12 ?a13 ?l13 ?c13 ?k13 ?a14 ?l14 ?c14 ?k14 ?a15 ?l15 ?c15 ?k15 ?a16 ?l16 ?c16 ?k16 ?a17 ?l17 ?c17 ?k17 ?a18 ?l18 ?c18 ?k18 ?a19 ?l19 ?c19 ?k19 ?a20 ?l20 ?c20 ?k20 ?xg_NoPlace ?xi_NoPlace ?xl_NoPlace ?xc_NoPlace ?xk_NoPlace ?xf_NoPlace ?rs_NoTriple ?g_HOLD ?l_HOLD ?y_HOLD ?e0_HOLD ?fa_even_holds ?e1_HOLD ?fa_uneven_holds ?e2_HOLD ?fa_below_holds ?e3_HOLD ?fa_above_holds ?s_HOLD ?sk_HOLD ?g_HOLD_OF_THREE ?l_HOLD_OF_THREE ?y_HOLD_OF_THREE ?e0_HOLD_OF_THREE ?e1_HOLD_OF_THREE ?fa_form_below_holds ?e2_HOLD_OF_THREE ?fa_form_above_holds ?s_HOLD_OF_THREE ?sk_HOLD_OF_THREE ?g_HOLD_SAME ?l_HOLD_SAME ?y_HOLD_SAME ?e0_HOLD_SAME ?fa_same_holds ?s_HOLD_SAME ?sk_HOLD_SAME ?g_MANY ?g_ONES ?lp_ONES ?z_abs ?z_all ?z_bool ?z_int ?z_isinstance ?z_len ?z_list ?z_max ?z_min ?z_range ?z_repr ?z_sorted ?z_str ?z_tuple ?z_zip
    (case a0 => k_is)
    (case l0 => k_is)
    (case c0 => k_is)
    (case k0 => k_is)
    (case a1 => k_is)
    (case l1 => k_is)
    (case c1 => k_is)
    (case k1 => k_is)
    (case a2 => k_is)
    (case l2 => k_is)
    (case c2 => k_is)
    (case k2 => k_is)
    (case a3 => k_is)
    (case l3 => k_is)
    (case c3 => k_is)
    (case k3 => k_is)
    (case a4 => k_is)
    (case l4 => k_is)
    (case c4 => k_is)
    (case k4 => k_is)
    (case a5 => k_is)
    (case l5 => k_is)
    (case c5 => k_is)
    (case k5 => k_is)
    (case a6 => k_is)
    (case l6 => k_is)
    (case c6 => k_is)
    (case k6 => k_is)
    (case a7 => k_is)
    (case l7 => k_is)
    (case c7 => k_is)
    (case k7 => k_is)
    (case a8 => k_is)
    (case l8 => k_is)
    (case c8 => k_is)
    (case k8 => k_is)
    (case a9 => k_is)
    (case l9 => k_is)
    (case c9 => k_is)
    (case k9 => k_is)
    (case a10 => k_is)
    (case l10 => k_is)
    (case c10 => k_is)
    (case k10 => k_is)
    (case a11 => k_is)
    (case l11 => k_is)
    (case c11 => k_is)
    (case k11 => k_is)
    (case a12 => k_is)
    (case l12 => k_is)
    (case c12 => k_is)
    (case k12 => k_is)
    (case a13 => k_is)
    (case l13 => k_is)
    (case c13 => k_is)
    (case k13 => k_is)
    (case a14 => k_is)
    (case l14 => k_is)
    (case c14 => k_is)
    (case k14 => k_is)
    (case a15 => k_is)
    (case l15 => k_is)
    (case c15 => k_is)
    (case k15 => k_is)
    (case a16 => k_is)
    (case l16 => k_is)
    (case c16 => k_is)
    (case k16 => k_is)
    (case a17 => k_is)
    (case l17 => k_is)
    (case c17 => k_is)
    (case k17 => k_is)
    (case a18 => k_is)
    (case l18 => k_is)
    (case c18 => k_is)
    (case k18 => k_is)
    (case a19 => k_is)
    (case l19 => k_is)
    (case c19 => k_is)
    (case k19 => k_is)
    (case a20 => k_is)
    (case l20 => k_is)
    (case c20 => k_is)
    (case k20 => k_is)
    (case xg_NoPlace => k_is)
    (case xi_NoPlace => k_is)
    (case xl_NoPlace => k_is)
    (case xc_NoPlace => k_is)
    (case xk_NoPlace => k_is)
    (case xf_NoPlace => kernel_rfl)
    (case rs_NoTriple => kernel_rfl)
    (case g_HOLD => k_is)
    (case l_HOLD => k_is)
    (case y_HOLD => exact ⟨⟨_, _, rfl, rfl⟩, ⟨_, _, rfl, rfl⟩, ⟨_, _, rfl, rfl⟩, ⟨_, _, rfl, rfl⟩, trivial⟩)
    (case e0_HOLD => k_is)
    (case fa_even_holds => k_is)
    (case e1_HOLD => k_is)
    (case fa_uneven_holds => k_is)
    (case e2_HOLD => k_is)
    (case fa_below_holds => k_is)
    (case e3_HOLD => k_is)
    (case fa_above_holds => k_is)
    (case s_HOLD => first | rfl | kernel_rfl | decide +kernel)
    (case sk_HOLD => first | rfl | kernel_rfl)
    (case g_HOLD_OF_THREE => k_is)
    (case l_HOLD_OF_THREE => k_is)
    (case y_HOLD_OF_THREE => exact ⟨⟨_, _, rfl, rfl⟩, ⟨_, _, rfl, rfl⟩, ⟨_, _, rfl, rfl⟩, trivial⟩)
    (case e0_HOLD_OF_THREE => k_is)
    (case e1_HOLD_OF_THREE => k_is)
    (case fa_form_below_holds => k_is)
    (case e2_HOLD_OF_THREE => k_is)
    (case fa_form_above_holds => k_is)
    (case s_HOLD_OF_THREE => first | rfl | kernel_rfl | decide +kernel)
    (case sk_HOLD_OF_THREE => first | rfl | kernel_rfl)
    (case g_HOLD_SAME => k_is)
    (case l_HOLD_SAME => k_is)
    (case y_HOLD_SAME => exact ⟨⟨_, _, rfl, rfl⟩, trivial⟩)
    (case e0_HOLD_SAME => k_is)
    (case fa_same_holds => k_is)
    (case s_HOLD_SAME => first | rfl | kernel_rfl | decide +kernel)
    (case sk_HOLD_SAME => first | rfl | kernel_rfl)
    (case g_MANY => k_is)
    (case g_ONES => k_is)
    (case lp_ONES => k_is)
    (case z_abs => k_is)
    (case z_all => k_is)
    (case z_bool => k_is)
    (case z_int => k_is)
    (case z_isinstance => k_is)
    (case z_len => k_is)
    (case z_list => k_is)
    (case z_max => k_is)
    (case z_min => k_is)
    (case z_range => k_is)
    (case z_repr => k_is)
    (case z_sorted => k_is)
    (case z_str => k_is)
    (case z_tuple => k_is)
    (case z_zip => k_is)
#print axioms PySem.Challenge.cw_nearthrees_k57_papers_of_triples_holds
