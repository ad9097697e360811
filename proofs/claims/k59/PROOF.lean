import PyProof.Rows.All
import Wide.All
import OpenK.AllK
import Wide.FinOn
import HandS.CallSlots
import HandS.EndTab
import HandS.EndBits
import HandS.Words
import HandS.WordsExc
import HandS.HotCalls
import HandS.ExcCtx
import HandS.Lambda
import HandS.Comp
import KE.KExcIs
import KE.KTryMore
import HandS.IsInst
import HandS.ExcIs
import HandS.Codes
import HandS.Defaults
import HandS.TupMul
import HandS.SortKw
import HandS.FltList
import HandS.Iter
import KE.DataMinKey
import PyProof.WalkInts
import HandS.TupAny
import PyProof.SumAnyB
import PyProof.InstSpecial
import HandS.Rev
import HandS.MapObj
import HandS.MapJoin
import KE.DataMinMax
import HandS.List
import KE.SortData
import HandS.ForMost
import HandS.Exc
import HandS.ExcOwn
import HandS.Wide
import HandS.Style
import HandS.Conv
import HandS.More
import KE.KNestM
import HandS.WideBits
import HandS.Zip
import PyProof.StrLawsIn
import HandS.Dict
import PyProof.StrLawsRepr
import PyProof.FitsInt
import PyProof.Rows.RegStrFacts
import PyProof.ReprRoads
import HandS.ExcInit
import HandS.ExcField
import HandS.Strs
import HandS.Deep
import PyProof.P3In
import PyProof.TupleKey
import PyProof.DictRoadsH
import PyProof.DictKinds
import HandS.FStr
import KE.LtData
import KE.KSuperObj
import HandS.IntHex
import HandS.ReplaceLit
import PyProof.StrLawsReplace
import KE.GoesEnumKw
import PyProof.Rows.CountFlat
import PyProof.InstNe
import HandS.SlotsOwn
import KE.KCallOwn
import HandS.RaiseMore
import PyProof.EqKinds
import PyProof.FactsAll.bool_1
import PyProof.FactsAll.NoneType_1
import HandS.OwnEq
import PyProof.Rows.ReprOcc
import PyProof.SeqIndex
import KE.DataFind
import HandS.TupSets
import HandS.SetKeys
import PyProof.WalksMore
import KE.HD2
import PySem.Challenge.RW_nearthrees_k59_papers_of_forms
set_option Elab.async false
set_option linter.all false
set_option maxRecDepth 100000
set_option maxHeartbeats 4000000
/-! Promises of defs that are called where nothing is being shown (repr): calls, bodies, the law's end. -/
namespace Hx
open PySem PySem.Spec PyProof.Rows L2
/-- room for k calls, and no repr is under way -/
structure RoomG (k : Nat) (A : Around) : Prop where
  rm : Room k A
  gd : A.guards = some []
section
variable {j k : Nat} {A : Around}
theorem RoomG.mono (r : RoomG k A) (h : j ≤ k) : RoomG j A := ⟨r.rm.mono h, r.gd⟩
theorem RoomG.deeper (r : RoomG (k + 1) A) (env : Env) : RoomG k (A.deeper env) := ⟨r.rm.deeper env, r.gd⟩
theorem RoomG.in1 (r : RoomG (k + 1) A) : RoomG k A.in1 := ⟨r.rm.in1, r.gd⟩
theorem RoomG.depth (r : RoomG k A) : A.depth < recursionLimit := r.rm.depth
theorem RoomG.units (r : RoomG k A) : A.units + 64 < cLine := r.rm.units
theorem RoomG.hd (r : RoomG k A) : A.handled = none := r.rm.hd
end
structure FnG (P : Program) (w : World) (K : PySem.W.Frag) (mg : Str → Option Value) (base : Heap) (CX : CXT) (k : Nat) (f : Addr) (fd : FuncData) (ps : List Str) (sp : Sp) : Prop where
  len : ∀ vs H Q E, sp vs H Q E → vs.length = ps.length
  run : ∀ (A : Around) (outer : List Env) (s : Shared) (H : Hp) (args : Args) (us : List Value) (vs : List V) (Q : VK) (E : XK), RoomG k A → Env0 P w K mg base A outer s H → BindsTo s fd args (ps.zip us) → Vals vs us → sp vs H Q E →
    codeAny (model P w) A (.call (.ref f) args) (CR CX outer P w H s Q E) s
section
variable {X : Cx} {CX : CXT} {k : Nat} {f : Addr} {fd : FuncData} {ps : List Str} {sp : Sp} {dvs : List V} {ds : List Value} {E : L2.St → XK} {x : Str} {p pos : Pos} {e : Expr} {es : List Expr} {t : TA}
theorem fnG_run {pins : List (Addr × Obj)} {σ : L2.St} {H : Hp} {s : Shared} {Q : VK} {us : List Value} {vs : List V} (F : FnG X.prog X.w X.K X.mg X.base CX k f fd ps sp) (hr : RoomG k X.A) (hb : Binds X.K fd ps ds) (hd : Vals dvs ds) (hx : PassesAt CX X σ (E σ))
    (I : Inv X pins σ H s) (r : Vals vs us) (h : sp (vs ++ dvs) H Q (E σ)) : wpAny (model X.prog X.w) X.A (call (.ref f) us) (EP X pins σ Q) X.xe s := by
  have all : Vals (vs ++ dvs) (us ++ ds) := r.append hd
  have bind := hb s us I.kIn (by rw [← all.length]; exact F.len _ _ _ _ h)
  refine wpAny_call (codeAny_mono (F.run X.A X.stack s H _ _ _ Q (E σ) hr I.env0 bind all h) fun out s' got => ?_)
  match out, got with
  | .error e, got => exact hx pins H s e s' I got
  | .ok (.ret u), got => exact I.after got
/-- f(e, ..) -/
theorem pe_callG (F : FnG X.prog X.w X.K X.mg X.base CX k f fd ps sp) (hr : RoomG k X.A) (hg : Gl X x) (hm : X.mg x = some (.ref f)) (hk : PySem.W.keepIn X.K (.ref f) = true) (hb : Binds X.K fd ps ds) (hd : Vals dvs ds) (hx : ∀ σ, PassesAt CX X σ (E σ))
    (ha : PA X (e :: es) t) (hdb : (x == ("__debug__" : Str)) = false := by decide) (he : starEach (e :: es) X.env = (false, eval e X.env) :: starEach es X.env := by rfl) (hpl : (backTo pos (starEach es X.env)).any (·.1) = false := by rfl) :
    PE X (.Call (.Name x p) (e :: es) [] pos) (tCallSD sp dvs E t) :=
  ⟨fun pins s σ H Q I h => wpAny_Call_Name_kw (ld_glob I hg hm (PySem.W.callWith_K (h₀ := X.base) I.ok.mod.kin hk (thn (ha.run pos pins s σ H _ I h) fun us s1 ⟨vs, H1, I1, r, q⟩ => ⟨I1.kIn, fnG_run F hr hb hd (hx σ) I1 r q⟩) he hpl) hdb)⟩
end
/-- a def by its body -/
theorem fnG_of {CX : CXT} {P : Program} {w : World} {K : PySem.W.Frag} {mg : Str → Option Value} {base : Heap} {k : Nat} {f : Addr} {x qual : Str} {st : Stmt} {fd : FuncData} {N ps : List Str} {sp : Sp} (F : L2.Fun K x qual st f fd) (S : FnScope N ps (defScope st)) (len : ∀ vs H Q E, sp vs H Q E → vs.length = ps.length)
    (body : ∀ (cdv : Value), cdv = fd.code → ∀ (A : Around) (outer : List Env) (s : Shared) (H : Hp) (vs : List V) (Q : VK) (E : XK), RoomG k (A.deeper (envOfC qual (defScope st) s.heap.objs.size f cdv)) → sp vs H Q E →
      ∃ t, PSs (cxOf CX P w K mg base N qual (defScope st) f cdv A outer s H E) (defBody st) t ∧ t { nx := fun _ H' => Q .non H', rt := Q } (L2.start N vs) H) : FnG P w K mg base CX (k + 1) f fd ps sp := by
  refine ⟨len, fun A outer s H args us vs Q E room e0 bind r q => ?_⟩
  obtain ⟨oc, od, kV, doc, pm, an, cdv, ct, osl, rfl, lk, code⟩ := F.ex
  have KX : K.In s.heap := e0.mod.kin.keeps fun b o e => (e0.bs b o e).1
  have lim : s.heap.NoLimit := e0.mod.nolimit.keeps fun b o e => (e0.bs b o e).1
  have known : ∀ y ∈ ps.zip us, (defScope st).names.lookup y.1 = some .local ∨ ((defScope st).names.lookup y.1 = some .cell ∧ ((cellsFrom (s.heap.objs.size + 1) (defScope st).names []).lookup y.1).isSome = true) := fun y hy =>
    (S.par y.1 (List.of_mem_zip (a := y.1) (b := y.2) hy).1).imp id fun z => ⟨z, PySem.W.cellsFrom_some _ _ _ (.inl z)⟩
  refine codeAny_call_function room.depth (KX _ _ lk) rfl S.co S.gen rfl (PySem.W.codeRec_of KX code) (bind _ _ _ _ (wpAny_newFunctionEnv_cells S.kind known fun env he s1 y => ?_))
  subst he
  obtain ⟨t, ht, hq⟩ := body cdv rfl A outer s H vs Q E (room.deeper _) q
  have I : Inv (cxOf CX P w K mg base N qual (defScope st) f cdv A outer s H E) [] (L2.start N vs) H s1 := inv_start S room.hd e0 (len _ _ _ _ q) r y
  refine ⟨lim.keeps y.toInCall.keep, codeAny_func (wpAny_mono (ht.run [] s1 _ H _ I hq) (fun fl s' z => ?_) fun e s' z => z)⟩
  match fl, z with
  | .ret u, ⟨v, σ', H', J, rv, z⟩ => exact ⟨v, H', J.os, J.bare, J.base, J.hok, rv, z⟩
  | .next, ⟨σ', H', J, z⟩ => exact ⟨.non, H', J.os, J.bare, J.base, J.hok, rfl, z⟩
  | .brk, ⟨_, _, _, z⟩ => exact z.elim
  | .cont, ⟨_, _, _, z⟩ => exact z.elim
/-! ### the law -/
section
variable {P : Program} {w : World} {K : PySem.W.Frag} {mg mb : Str → Option Value} {CX : CXT} {k : Nat} {fa a : Addr} {cs : List (Addr × Addr)} {fd : FuncData} {x : Str} {sp : Sp} {s : Shared} {vs : List Value} {ns : List Int}
abbrev tblO : Obj := { cls := .none, data := .fields #[] }
abbrev scrO (vs : List Value) : Obj := { cls := .type "list", data := .seq vs.toArray }
/-- the heap at the law's start: its tables, and the script where the written part has it not -/
def lawH (K : PySem.W.Frag) (cs : List (Addr × Addr)) (a : Addr) (vs : List Value) (ns : List Int) : Hp := fun b => if b ∈ cs.map (·.2) then some (.tbl #[]) else if b = a ∧ K.lookup a = none then some (.frz (scrO vs) (.lst (ns.map V.int))) else none
theorem lawH_tab {b : Addr} (h : b ∈ cs.map (·.2)) : lawH K cs a vs ns b = some (.tbl #[]) := if_pos h
theorem lawH_cases (b : Addr) : (b ∈ cs.map (·.2) ∧ lawH K cs a vs ns b = some (.tbl #[])) ∨ (b ∉ cs.map (·.2) ∧ (b = a ∧ K.lookup a = none) ∧ lawH K cs a vs ns b = some (.frz (scrO vs) (.lst (ns.map V.int)))) ∨ (b ∉ cs.map (·.2) ∧ ¬ (b = a ∧ K.lookup a = none) ∧ lawH K cs a vs ns b = none) := by
  unfold lawH
  by_cases h : b ∈ cs.map (·.2)
  · exact .inl ⟨h, if_pos h⟩
  · by_cases g : b = a ∧ K.lookup a = none
    · exact .inr (.inl ⟨h, g, (if_neg h).trans (if_pos g)⟩)
    · exact .inr (.inr ⟨h, g, (if_neg h).trans (if_neg g)⟩)
theorem lawG_call (KX : K.In s.heap) (hm : s.heap.Ns mainGlobals mg) (hb : s.heap.Ns builtinsNs mb) (hbo : ∀ x : Str, x ≠ "__name__" → mb x = bootBuiltins x) (hn : s.heap.NoLimit) (hgen : s.gens = #[])
    (hT : ∀ p ∈ cs, s.heap.get? p.2 = some tblO) (nT : ∀ p ∈ cs, K.lookup p.2 = none) (hC : ∀ p ∈ cs, PySem.W.CodeHd s.heap p.1 p.2)
    (hbm : ∃ (bm : Addr) (ob : Obj), mg "__builtins__" = some (.ref bm) ∧ bm ≠ builtinsNs ∧ s.heap.get? bm = some ob ∧ ob.cls = .type "module" ∧ ob.dict = some builtinsNs ∧ ob.data = .plain)
    (ha : s.heap.get? a = some (scrO vs)) (hi : IntsAre vs ns) (hl : ns.length ≤ sizeLine) (hr : RoomG k callerA)
    (F : ∀ base : Heap, K.In base → base.Ns mainGlobals mg → (∀ p ∈ cs, LamX.TabB base mg p.1 p.2) → FnG P w K mg base CX k fa fd [x] sp) (bind : ∀ (s : Shared) (u : Value), BindsTo s fd ⟨[u], []⟩ [(x, u)])
    (hsp : ∀ H : Hp, (∀ p ∈ cs, H p.2 = some (.tbl #[])) → SqL K H a (ns.map V.int) → sp [.ref a] H (fun v _ => v = .bl true) fun _ _ _ => False)
    (hCX : ∀ H e s', CX [] H s (fun _ _ _ => False) e s' → False) :
    codeAny (model P w) callerA (.call (.ref fa) ⟨[.ref a], []⟩) (fun r s' => r = .ok (.ret (.bool true)) ∧ OldK s.heap s'.heap ∧ s'.os = s.os ∧ AllBare s'.gens) s := by
  have tabAt : ∀ b, b ∈ cs.map (·.2) → s.heap.get? b = some tblO := fun b h => by
    obtain ⟨p, hp, e⟩ := List.mem_map.mp h
    exact e ▸ hT p hp
  have tabK : ∀ b, b ∈ cs.map (·.2) → K.lookup b = none := fun b h => by
    obtain ⟨p, hp, e⟩ := List.mem_map.mp h
    exact e ▸ nT p hp
  have inT : ∀ p ∈ cs, p.2 ∈ cs.map (·.2) := fun p hp => List.mem_map.mpr ⟨p, hp, rfl⟩
  have aT : a ∉ cs.map (·.2) := fun h => by
    have z := ha.symm.trans (tabAt a h)
    cases z
  -- what is neither a list nor an empty record isn't tracked
  have out : ∀ {b : Addr} {o : Obj}, s.heap.get? b = some o → (∀ us n, o.data ≠ .seq us n) → o.data ≠ .fields #[] → lawH K cs a vs ns b = none := fun {b o} e h1 h2 => by
    rcases lawH_cases (K := K) (cs := cs) (a := a) (vs := vs) (ns := ns) b with ⟨z, _⟩ | ⟨_, z, _⟩ | ⟨_, _, z⟩
    · rw [tabAt b z] at e
      cases e
      exact absurd rfl h2
    · rw [z.1, ha] at e
      cases e
      exact absurd rfl (h1 _ _)
    · exact z
  have seen : ∀ {b : Addr} {o : Obj}, s.heap.get? b = some o → (∀ us n, o.data ≠ .seq us n) → o.data ≠ .fields #[] → (hidT s.heap (lawH K cs a vs ns)).get? b = some o := fun e h1 h2 => hidT_get e (out e h1 h2)
  have space : ∀ {b : Addr} {m : Str → Option Value}, s.heap.Ns b m → (hidT s.heap (lawH K cs a vs ns)).Ns b m := fun ⟨o, es, ep, e, d, r⟩ => ⟨o, es, ep, seen e (fun us n z => by rw [d] at z; cases z) (fun z => by rw [d] at z; cases z), d, r⟩
  have KB : K.In (hidT s.heap (lawH K cs a vs ns)) := fun b o e => hidT_get (KX b o e) (by
    rcases lawH_cases (K := K) (cs := cs) (a := a) (vs := vs) (ns := ns) b with ⟨z, _⟩ | ⟨_, z, _⟩ | ⟨_, _, z⟩
    · rw [tabK b z] at e
      cases e
    · rw [z.1, z.2] at e
      cases e
    · exact z)
  have hmod : L2.Mod K mg (hidT s.heap (lawH K cs a vs ns)) := ⟨KB, space hm, ⟨mb, space hb, hbo⟩, hn.imp fun _ h => ⟨space h.1, h.2⟩⟩
  have TB : ∀ p ∈ cs, LamX.TabB (hidT s.heap (lawH K cs a vs ns)) mg p.1 p.2 := fun p hp => by
    have tp := hT p hp
    refine ⟨?_, ?_, fun z => ?_⟩
    · obtain ⟨o, us, c1, c2, c3, c4, c5, c6, c7, e1, r1, r2, r3, rest⟩ := hC p hp
      refine ⟨o, us, c1, c2, c3, c4, c5, c6, c7, seen e1 (fun vs n z => by rw [r2] at z; cases z) (fun z => ?_), r1, r2, r3, rest⟩
      rw [r2] at z
      cases z
      simp at r3
    · obtain ⟨bm, ob, b1, b2, b3, b4, b5, b6⟩ := hbm
      have n1 : bm ≠ mainGlobals := fun q => by
        obtain ⟨o, es, ep, e, d, _⟩ := hm
        rw [← q, b3] at e
        cases e
        rw [b6] at d
        cases d
      have n2 : bm ≠ p.2 := fun q => by
        rw [q, tp] at b3
        cases b3
        cases b6
      exact ⟨bm, ob, b1, b2, n1, n2, seen b3 (fun vs n z => by rw [b6] at z; cases z) (fun z => by rw [b6] at z; cases z), b4, b5, b6⟩
    · obtain ⟨o, es, ep, e, d, _⟩ := hm
      rw [z, tp] at e
      cases e
      cases d
  have hok : HOk P w (lawH K cs a vs ns) s.heap := fun b u e => by
    rcases lawH_cases (K := K) (cs := cs) (a := a) (vs := vs) (ns := ns) b with ⟨z, q⟩ | ⟨_, z, q⟩ | ⟨_, _, q⟩
    · cases q.symm.trans e
      exact tabAt b z
    · cases q.symm.trans e
      rw [z.1]
      exact ⟨ha, by rw [List.length_map]; exact hl, vs, _, vals_ints hi, ha⟩
    · cases q.symm.trans e
  have e0 : Env0 P w K mg (hidT s.heap (lawH K cs a vs ns)) callerA [] s (lawH K cs a vs ns) := ⟨rfl, hmod, fun b o e => of_hidT e, Nat.le_of_eq (hidT_size _ _), trivial, fun b z => (nomatch (show b ∈ ([] : List Addr) from z)), hok, .of_eq hgen⟩
  have list : SqL K (lawH K cs a vs ns) a (ns.map V.int) := by
    cases q : K.lookup a with
    | some o =>
      cases ha.symm.trans (KX a o q)
      exact .inr ⟨_, vs.toArray, _, q, rfl, rfl, rfl, by rw [List.size_toArray, hi.length]; exact hl, by simpa using vals_ints hi⟩
    | none => exact .inl (.inr ⟨scrO vs, (if_neg aT).trans (if_pos ⟨rfl, q⟩)⟩)
  refine codeAny_mono ((F _ KB (space hm) TB).run callerA [] s (lawH K cs a vs ns) ⟨[.ref a], []⟩ [.ref a] [.ref a] _ _ hr e0 (bind s (.ref a)) (.cons rfl .nil) (hsp _ (fun p hp => lawH_tab (inT p hp)) list)) fun r s' got => ?_
  match r, got with
  | .error e, got => exact (hCX _ e s' got).elim
  | .ok (.ret u), ⟨v, H', os, bare, un, hok', rv, q⟩ =>
    have q' : v = .bl true := q
    subst q'
    obtain rfl : u = Value.bool true := rv
    have kept : ∀ b o, b ∉ cs.map (·.2) → s.heap.get? b = some o → s'.heap.get? b = some o := fun b o nb e => by
      rcases lawH_cases (K := K) (cs := cs) (a := a) (vs := vs) (ns := ns) b with ⟨z, _⟩ | ⟨_, z, q⟩ | ⟨_, _, q⟩
      · exact absurd z nb
      · have h1 := (hok b _ q).1
        rw [e] at h1
        cases h1
        exact (hok' b _ (un.frzs b _ _ q)).1
      · exact un.keep b o e q (fun z => (nomatch (show b ∈ ([] : List Addr) from z))) (fun z => (nomatch z))
    have grown : ∀ p ∈ cs, ∃ more : Array Value, s'.heap.get? p.2 = some { cls := .none, data := .fields more } := fun p hp => by
      obtain ⟨more, z⟩ := un.tbls p.2 #[] (lawH_tab (inT p hp))
      exact ⟨_, hok' p.2 _ z⟩
    refine ⟨rfl, ⟨fun b o e => ?_, fun b o e => ?_⟩, os, bare⟩
    · by_cases hb : b ∈ cs.map (·.2)
      · obtain ⟨p, hp, rfl⟩ := List.mem_map.mp hb
        obtain ⟨more, hmo⟩ := grown p hp
        cases (hT p hp).symm.trans e
        exact .inr (.inl ⟨((hC p hp).tab (hT p hp)).isCodeTable, rfl, #[], more, rfl, by rw [Array.empty_append]; exact hmo⟩)
      · exact .inl (kept b o hb e)
    · by_cases hb : b ∈ cs.map (·.2)
      · obtain ⟨p, hp, rfl⟩ := List.mem_map.mp hb
        obtain ⟨more, hmo⟩ := grown p hp
        exact ⟨_, hmo⟩
      · exact ⟨o, kept b o hb e⟩
end
/-- what is known of the law at the head's heap -/
def LawG (l : PySem.W.OpenLaw) (w : World) (K : PySem.W.Frag) (CX : CXT) (k n : Nat) (x : Str) (mg : Str → Option Value) (fa : Addr) (h : Heap) : Prop :=
  ∃ (fd : FuncData) (cs : List (Addr × Addr)) (sp : Sp), (∀ p ∈ cs, h.get? p.2 = some tblO) ∧ (∀ p ∈ cs, K.lookup p.2 = none) ∧ (∀ p ∈ cs, PySem.W.CodeHd h p.1 p.2) ∧ (∀ (s : Shared) (u : Value), BindsTo s fd ⟨[u], []⟩ [(x, u)]) ∧
    (∀ (H : Hp) (a : Addr) (ns : List Int), ns.length ≤ n → (∀ z ∈ ns, Builtin.Int.intBits z ≤ 1048576) → (∀ p ∈ cs, H p.2 = some (.tbl #[])) → SqL K H a (ns.map V.int) → sp [.ref a] H (fun v _ => v = .bl true) fun _ _ _ => False) ∧
    ∀ base : Heap, K.In base → base.Ns mainGlobals mg → (∀ p ∈ cs, LamX.TabB base mg p.1 p.2) → FnG l.prog w K mg base CX k fa fd [x] sp
theorem lawG_end {l : PySem.W.OpenLaw} {n k : Nat} {q : Program} {loose : List Str} {XP : (Str → Option Value) → Heap → Prop} {YP : World → Heap → Prop} {d : DefRec} {K : Params → PySem.W.Frag} {CX : World → CXT} {x : Str}
    (hn : l.most = some n) (hn2 : n ≤ sizeLine) (hdf : d.params.defaults = []) (hr : RoomG k callerA) (hY : ∀ (w : World) (h : Heap), YP w h → (K w.params).In h)
    (F : ∀ (w : World) (mg : Str → Option Value) (fa : Addr) (h : Heap), YP w h → (K w.params).In h → h.Ns mainGlobals mg → mg d.name = some (.ref fa) → LawG l w (K w.params) (CX w) k n x mg fa h)
    (hCX : ∀ (w : World) (H : Hp) (s : Shared) (e : Value) (s' : Shared), CX w [] H s (fun _ _ _ => False) e s' → False) :
    PySem.W.WalkO q loose XP YP l.row.toRowW d [] (fun f vs => PySem.call f vs) :=
  Att.attach_callB hn hdf fun w s₀ s₁ mg mb fa o pm cd doc a vs ns G Y ho hd hcd hmg hobj hints hlen hbits hg =>
    let KX := hY w _ Y
    let ⟨_, _, _, hT, nT, hC, hb, hsp, hF⟩ := F w mg fa _ Y KX G.T.g hmg
    lawG_call KX G.T.g G.T.b G.T.builtins G.T.nolimit hg hT nT hC G.T.bmain hobj hints (Nat.le_trans hlen hn2) hr hF hb (fun H hH hS => hsp H a ns hlen hbits hH hS) fun H e s' => hCX w H s₁ e s'
end Hx

/-! loops and stores while an exception is handled -/
namespace Hx
open PySem PySem.Spec PyProof.Rows L2 HotX
section
variable {prog : Program} {w : World} {A : Around} {E : Value → Shared → Prop} {s : Shared}
end
section
variable {X : Cx} {pos : Pos}
end
end Hx

/-! a comprehension while an exception is handled -/
namespace Hx
open PySem PySem.Spec PyProof.Rows L2 HotX
section
variable {X : Cx} {pins : List (Addr × Obj)} {σ : L2.St} {H : Hp} {s : Shared}
end
end Hx

/-! calls within an except suite; several clauses that name the exception; a lambda handed to a def -/
namespace Hx
open PySem PySem.Spec PyProof.Rows L2 HotX
/-! ### a def called within an except suite -/
section
variable {X : Cx}
end
end Hx

/-! try: several clauses, each of one class or of a tuple of classes, with a name or without -/
namespace Hx
open PySem PySem.Spec PyProof.Rows L2 HotX
/-! ### the tests -/
section
variable {M : Model} {K : PySem.W.Frag}
open PySem.W
theorem exm_each {cls : Value} : ∀ (cs : List Value) (b : Bool), exmAny K cls cs = some b → ∀ c ∈ cs, ∃ v, exmOne K cls c = some v
  | c :: r, b, h, d, hd => by
    obtain ⟨b1, d1, h1, h2, _⟩ := exmAny_cons h
    rcases List.mem_cons.mp hd with e | hd
    · exact ⟨b1, e ▸ h1⟩
    · exact exm_each r d1 h2 d hd
/-- a written tuple of classes, of any length -/
theorem exm_tuple {cs : List Value} {cls : Value} {tp e : Addr} {b : Bool} {h : Heap} (X : K.In h) (LT : Looks M h (typeOf (.ref e)) cls) (hp : h.get? tp = some { cls := .type "tuple", data := .seq cs.toArray }) (hx : exmAny K cls cs = some b) :
    Looks M h (excMatches (.ref e) (.ref tp)) b := by
  intro A Q E s k q
  have isT : Looks M s.heap (isInstance (.ref tp) (.type "tuple")) true := (((Looks.ld hp).andThen .now).andThen (Looks.of_pure isSubtype_tuple_tuple)).keeps k
  have LTs := LT.keeps k
  have one : ∀ c ∈ cs, ∀ v, exmOne K cls c = some v → Looks M s.heap (isExcClass c) true ∧ Looks M s.heap (isSubtype cls c) v := fun c _ v hv =>
    let ⟨h1, h2⟩ := exm_cls (M := M) X hv
    ⟨h1.keeps k, h2.keeps k⟩
  -- first all are seen to be classes of exceptions, then each is asked
  have pass1 : ∀ (l : List Value), (∀ c ∈ l, c ∈ cs) → ∀ {f : Value → PUnit → Sem (ForInStep PUnit)} {Q' : PUnit → Shared → Prop}, (∀ c ∈ cs, ∀ {R : ForInStep PUnit → Shared → Prop}, R (.yield ⟨⟩) s → wpAny M A (f c ⟨⟩) R E s) → Q' ⟨⟩ s → wpAny M A (forIn l PUnit.unit f) Q' E s := by
    intro l
    induction l with
    | nil => intro _ f Q' _ z; rw [List.forIn_nil]; exact wpAny_pure z
    | cons c r ih =>
      intro hm f Q' hf z
      rw [List.forIn_cons]
      exact wpAny_bind (hf c (hm c (.head _)) (ih (fun d hd => hm d (.tail _ hd)) hf z))
  have pass2 : ∀ (l : List Value) (v : Bool), (∀ c ∈ l, c ∈ cs) → exmAny K cls l = some v → ∀ {f : Value → (Option Bool × Unit) → Sem (ForInStep (Option Bool × Unit))} {Q' : (Option Bool × Unit) → Shared → Prop},
      (∀ c ∈ cs, ∀ u, exmOne K cls c = some u → ∀ {R : ForInStep (Option Bool × Unit) → Shared → Prop}, R (if u = true then .done (some true, ()) else .yield (none, ())) s → wpAny M A (f c (none, ())) R E s) →
      Q' (if v = true then (some true, ()) else (none, ())) s → wpAny M A (forIn l ((none : Option Bool), ()) f) Q' E s := by
    intro l
    induction l with
    | nil =>
      intro v _ hv f Q' _ z
      cases (show some false = some v from hv)
      rw [List.forIn_nil]
      exact wpAny_pure z
    | cons c r ih =>
      intro v hm hv f Q' hf z
      obtain ⟨u, d, h1, h2, rfl⟩ := exmAny_cons hv
      rw [List.forIn_cons]
      refine wpAny_bind (hf c (hm c (.head _)) u h1 ?_)
      cases u with
      | true => exact wpAny_pure z
      | false => exact ih d (fun d hd => hm d (.tail _ hd)) h2 hf z
  unfold excMatches
  refine wpAny_bind (isT.at ?_)
  dsimp only
  rw [if_pos rfl]
  have hp' := k _ _ hp
  first
    | refine wpAny_bind (wpAny_seqItems hp' rfl ?_)
    | refine wpAny_bind (wpAny_bind (wpAny_seqItems hp' rfl (wpAny_pure ?_)))
  dsimp only [Option.getD_some, Option.getD]
  refine wpAny_bind (wpAny_pure (wpAny_bind (pass1 cs (fun _ h => h) (fun c hc R z => ?_) ?_)))
  · obtain ⟨v, hv⟩ := exm_each cs b hx c hc
    refine wpAny_bind ((one c hc v hv).1.at ?_)
    rw [if_neg (by decide)]
    exact wpAny_pure z
  · refine wpAny_bind (LTs.at (wpAny_bind (pass2 cs b (fun _ h => h) hx (fun c hc u hu R z => ?_) ?_)))
    · refine wpAny_bind ((one c hc u hu).2.at ?_)
      cases u <;> exact wpAny_pure z
    · cases b <;> exact wpAny_pure q
end
/-- a clause's written classes -/
inductive Nms (X : Cx) : List Expr → List Value → Prop
  | nil : Nms X [] []
  | cons {x : Str} {p : Pos} {c : Value} {es : List Expr} {cs : List Value} (h : Names X x c) (r : Nms X es cs) : Nms X (.Name x p :: es) (c :: cs)
inductive Tst (X : Cx) : Expr → List Value → Prop
  | one {x : Str} {p : Pos} {c : Value} (h : Names X x c) : Tst X (.Name x p) [c]
  | many {es : List Expr} {cs : List Value} {k : Nat} {p : Pos} (h : Nms X es cs) (hz : cs.length ≤ 1000) : Tst X (.Tuple es k p) cs
section
variable {X : Cx} {a : Addr} {pn pins : List (Addr × Obj)} {σ : L2.St} {H : Hp} {s : Shared}
theorem name_in {x : Str} {p : Pos} {c : Value} {Q : Value → Shared → Prop} {E : Value → Shared → Prop} (S : Inv (X.suite a pn) pins σ H s) (h : Names X x c) (q : Q c s) : wpAny (model X.prog X.w) (X.A.mark (some (.ref a))) (eval (.Name x p) X.env) Q E s := by
  obtain ⟨hg, hd, hm | ⟨hm, hv, hn⟩⟩ := h
  · exact ld_glob (X := X.suite a pn) S hg hm q hd
  · exact ld_blt (X := X.suite a pn) S hg hm hv q hn hd
theorem names_in {E : Value → Shared → Prop} {pos : Pos} (S : Inv (X.suite a pn) pins σ H s) {es : List Expr} {cs : List Value} (h : Nms X es cs) : ∀ {Q : List Value → Shared → Prop}, Q cs s → wpAny (model X.prog X.w) (X.A.mark (some (.ref a))) (spliced (backTo pos (starEach es X.env))) Q E s := by
  induction h with
  | nil => intro Q q; exact Calls.spliced_nil q
  | cons hc _ ih => intro Q q; exact Calls.spliced_cons (name_in S hc (ih q))
/-- a clause's test: it changes nothing that was there -/
theorem tst_in {e : Expr} {cs : List Value} {cls : Value} {b : Bool} {oe : Obj} {Q : Bool → Shared → Prop} {E E2 : Value → Shared → Prop} (t : Tst X e cs) (S : Inv (X.suite a pn) pins σ H s) (get : s.heap.get? a = some oe) (hcls : oe.cls = cls) (hx : PySem.W.exmAny X.K cls cs = some b)
    (q : ∀ h' : Heap, (∀ c o, s.heap.get? c = some o → h'.get? c = some o) → Q b { s with heap := h' }) :
    wpAny (model X.prog X.w) (X.A.mark (some (.ref a))) (eval e X.env) (fun c s1 => wpAny (model X.prog X.w) (X.A.mark (some (.ref a))) (excMatches (.ref a) c) Q E2 s1) E s := by
  have look : ∀ (h : Heap), h.get? a = some oe → PySem.W.Looks (model X.prog X.w) h (typeOf (.ref a)) cls := fun h g A' Q' E' s' k z => wpAny_typeOf_ref (k _ _ g) (by rw [hcls]; exact z)
  cases t with
  | one hc =>
    obtain ⟨b1, d1, h1, h2, rfl⟩ := PySem.W.exmAny_cons hx
    cases (show some false = some d1 from h2)
    refine name_in S hc ((PySem.W.exm_one (M := model X.prog X.w) S.kIn (look _ get) h1).here ?_)
    have z := q s.heap fun _ _ z => z
    rw [Bool.or_false] at z
    exact z
  | many hc hz =>
    refine wpAny_Tuple_spliced (names_in S hc ⟨Nat.le_trans hz (by rw [sizeLine_eq]; decide), ?_⟩)
    have k : ∀ c o, s.heap.get? c = some o → (s.heap.push { cls := .type "tuple", data := .seq cs.toArray }).get? c = some o := fun c o z => Heap.get?_push_of_some _ z
    exact (exm_tuple (M := model X.prog X.w) (S.kIn.keeps k) (look _ (k _ _ get)) (Heap.get?_push_size _ rfl) hx).here (q _ k)
end
/-! ### the clauses -/
/-- behind a suite the name is gone -/
def goneN (n : Option (Str × Nat)) (D : Ends) : Ends := match n with
  | none => D
  | some (_, i) => { nx := fun σ H => D.nx (σ.set i none) H, rt := D.rt, bk := fun σ H => D.bk (σ.set i none) H, ct := fun σ H => D.ct (σ.set i none) H }
def bindN (n : Option (Str × Nat)) (a : Addr) (σ : L2.St) : L2.St := match n with
  | none => σ
  | some (_, i) => σ.set i (some (.ref a))
structure Cl where
  cs : List Value
  n : Option (Str × Nat)
  ts : Addr → Value → Option Addr → TS
/-- what the clauses wish of an exception, one after the other -/
def wCls (K : PySem.W.Frag) (Wout : WX) (D : Ends) : List Cl → WX
  | [] => Wout
  | c :: r => fun cls d σ H => ∃ b, PySem.W.exmAny K cls c.cs = some b ∧ (b = true → ∀ a, H a = none → c.ts a cls d (goneN c.n D) (bindN c.n a σ) H) ∧ (b = false → wCls K Wout D r cls d σ H)
def NmOk (X : Cx) : Option (Str × Nat) → Prop
  | none => True
  | some (n, i) => X.N.Nodup ∧ X.N[i]? = some n ∧ X.env.kindOf n = some .local
inductive Hds (X : Cx) : List ExceptHandler → List Cl → Prop
  | nil : Hds X [] []
  | cons {c : Cl} {e : Expr} {b₀ : Stmt} {suite : List Stmt} {pos : Pos} {hds : List ExceptHandler} {l : List Cl} (hn : NmOk X c.n) (ht : Tst X e c.cs)
      (hsu : ∀ (a : Addr) (oe : Obj) (cls : Value) (d : Option Addr) (pn : List (Addr × Obj)), L2N.Zn cls d oe → (∃ vs, oe.data = .fields vs) → PSs (X.suite a ((a, oe) :: pn)) (b₀ :: suite) (c.ts a cls d)) (r : Hds X hds l) :
      Hds X (.ExceptHandler (some e) (c.n.map (·.1)) (b₀ :: suite) pos :: hds) (c :: l)
section
variable {X : Cx} {Wout : WX} {a : Addr} {B : Heap} {pins : List (Addr × Obj)} {σ : L2.St} {H : Hp} {cls : Value} {d : Option Addr} {D : Ends} {sI s' : Shared}
/-- what stands of a caught exception -/
structure Cgt (X : Cx) (a : Addr) (B : Heap) (pins : List (Addr × Obj)) (σ : L2.St) (H : Hp) (cls : Value) (d : Option Addr) (sI s : Shared) : Prop where
  inv : Inv X pins σ H sI
  nb : ∀ b o, sI.heap.get? b = some o → b ∉ frs X.stack → B.get? b = some o
  up : sI.heap.UpToSlots s.heap
  fl : HandSPX.FlyingZ B X.stack a (L2N.Zn cls d) s.heap
  na : H a = none
  os : s.os = sI.os
  ag : AllBare s.gens
theorem Cgt.step {h' : Heap} (c : Cgt X a B pins σ H cls d sI s') (fl : HandSPX.FlyingZ B X.stack a (L2N.Zn cls d) h') (up : s'.heap.UpToSlots h') : Cgt X a B pins σ H cls d sI { s' with heap := h' } := ⟨c.inv, c.nb, c.up.trans up, fl, c.na, c.os, c.ag⟩
theorem Cgt.here (c : Cgt X a B pins σ H cls d sI s') : Inv X pins σ H s' := c.inv.landed c.nb c.fl.1 c.up c.os c.ag
theorem Cgt.obj (c : Cgt X a B pins σ H cls d sI s') (hs : X.stack = X.env :: X.outer) (hf : X.env.frame = some X.env.locals) : ∃ oe vs, s'.heap.get? a = some oe ∧ L2N.Zn cls d oe ∧ oe.data = .fields vs ∧ Inv (X.suite a ((a, oe) :: (X.pn ++ pins))) [] σ H s' := by
  obtain ⟨oe, vs, he, hz, hd⟩ := c.fl.there
  have nfr : a ∉ frs X.stack := fun hm => by
    obtain ⟨_, o, e, hnf⟩ := c.fl.2.2.1.mem hm
    rw [he] at e
    cases e
    exact hnf _ hd
  rw [hs] at nfr
  refine ⟨oe, vs, he, hz, hd, c.here.suite he hd c.na (fun z => nfr ?_) fun hm => nfr ?_⟩
  · exact List.mem_filterMap.mpr ⟨X.env, .head _, by rw [hf, z]⟩
  · obtain ⟨e, he, q⟩ := List.mem_filterMap.mp hm
    exact List.mem_filterMap.mpr ⟨e, .tail _ he, q⟩
theorem flying_new {fs : List Env} {Z : Obj → Prop} {h h' : Heap} (k : ∀ c o, h.get? c = some o → h'.get? c = some o) (fl : HandSPX.FlyingZ B fs a Z h) : HandSPX.FlyingZ B fs a Z h' := by
  obtain ⟨f1, f2, f3, oe, vs, T, oT, ts, g1, hz, hd, h1, hn, ne, g2, hT, h3⟩ := fl
  exact ⟨fun c o e => k c o (f1 c o e), f2, f3.of_keeps fun c o e _ => ⟨o, k c o e, rfl⟩, oe, vs, T, oT, ts, k _ _ g1, hz, hd, h1, hn, ne, k _ _ g2, hT, h3⟩
/-- the suite's end: the name goes, the def's own context is back -/
theorem suite_end {f : Flow} {oe : Obj} {n : Option (Str × Nat)} {pos : Pos} {s6 : Shared} (ok : X.Ok) (hn : NmOk X n) (q : SP (X.suite a ((a, oe) :: (X.pn ++ pins))) [] (goneN n D) f s6) :
    (match n.map (·.1) with
      | none => SP X pins D f s6
      | some m => wpAny (model X.prog X.w) X.A (do bindName X.env m .none; unbindBehindTheSuite X.env m pos) (fun _ s7 => SP X pins D f s7) X.xe s6) := by
  match n, hn, q with
  | none, _, q =>
    match f, q with
    | .next, ⟨σ6, H6, S6, q6⟩ => exact ⟨_, _, S6.unsuite ok, q6⟩
    | .brk, ⟨σ6, H6, S6, q6⟩ => exact ⟨_, _, S6.unsuite ok, q6⟩
    | .cont, ⟨σ6, H6, S6, q6⟩ => exact ⟨_, _, S6.unsuite ok, q6⟩
    | .ret u, ⟨v, σ6, H6, S6, r6, q6⟩ => exact ⟨_, _, _, S6.unsuite ok, r6, q6⟩
  | some (m, i), ⟨hN, hi, hl⟩, q =>
    match f, q with
    | .next, ⟨σ6, H6, S6, q6⟩ => exact gone_ok (S6.unsuite ok) hN hi hl fun s7 J => ⟨_, _, J, q6⟩
    | .brk, ⟨σ6, H6, S6, q6⟩ => exact gone_ok (S6.unsuite ok) hN hi hl fun s7 J => ⟨_, _, J, q6⟩
    | .cont, ⟨σ6, H6, S6, q6⟩ => exact gone_ok (S6.unsuite ok) hN hi hl fun s7 J => ⟨_, _, J, q6⟩
    | .ret u, ⟨v, σ6, H6, S6, r6, q6⟩ => exact gone_ok (S6.unsuite ok) hN hi hl fun s7 J => ⟨_, _, _, J, r6, q6⟩
theorem handle_ok (hs : X.stack = X.env :: X.outer) (hf : X.env.frame = some X.env.locals) (tk : L2N.Takes X Wout) {hds : List ExceptHandler} {l : List Cl} (hh : Hds X hds l) :
    ∀ s' : Shared, Cgt X a B pins σ H cls d sI s' → wCls X.K Wout D l cls d σ H → wpAny (model X.prog X.w) X.A (handleBy (.ref a) X.env hds) (SP X pins D) X.xe s' := by
  induction hh with
  | nil =>
    intro s' c w
    obtain ⟨_, _, _, oe, vs, T, oT, ts', he, hz, hd, h1, hr⟩ := id c.fl
    refine wpAny_handleBy_nil ?_
    unfold PySem.passOn
    refine wpAny_bind (wpAny_field he hd h1 ?_)
    rw [if_neg (show ¬ ((Value.ref T == Value.none) = true) from by simp)]
    have fin : wpAny (model X.prog X.w) X.A (setFlight (.ref a) X.env.frame) (fun _ s4 => wpAny (model X.prog X.w) X.A (throw (.ref a) : Sem Flow) (SP X pins D) X.xe s4) X.xe s' := by
      rw [hf]
      exact HandSPX.setFlight_upZ (s := s') c.fl fun h4 hh4 up4 => wpAny_throw (tk _ _ ⟨a, B, sI, pins, σ, H, cls, d, rfl, c.inv, c.nb, c.up.trans up4, .inr (.inr hh4), c.na, c.os, c.ag, w⟩)
    first
      | exact wpAny_bind (wpAny_pure (wpAny_bind fin))
      | exact wpAny_bind fin
  | @cons cl e b₀ suite pos hds l hn ht hsu r ih =>
    intro s' c ⟨b, hb, yes, no⟩
    obtain ⟨oe, vs, he, hz, hd, S⟩ := c.obj hs hf
    refine wpAny_handleBy_cons (codeAny_handlers_test (tst_in ht S he hz.1 hb fun h' k => ?_)) (by intro q; cases q)
    have c2 : Cgt X a B pins σ H cls d sI { s' with heap := h' } := c.step (flying_new k c.fl) (Heap.UpToSlots.of_keeps k)
    cases b with
    | false => exact ih _ c2 (no rfl)
    | true =>
      have ok := c.inv.ok
      obtain ⟨cs, n, ts⟩ := cl
      cases n with
      | none =>
        refine codeAny_handlers_suite (HandSPX.lands_againZ (s := { s' with heap := h' }) c2.fl fun h4 fl4 up4 => ?_)
        obtain ⟨oe4, vs4, he4, hz4, hd4, S4⟩ := (c2.step fl4 up4).obj hs hf
        exact wpAny_mono ((hsu a oe4 cls d (X.pn ++ pins) hz4 ⟨_, hd4⟩).run [] _ σ H _ S4 (yes rfl a c.na)) (fun f s6 q => suite_end (n := none) (pos := pos) ok trivial q) fun _ _ z => z.elim
      | some ni =>
        obtain ⟨nm, i⟩ := ni
        obtain ⟨hN, hi, hl⟩ := id hn
        refine codeAny_handlers_suite_as (HandSPX.lands_againZ (s := { s' with heap := h' }) c2.fl fun h4 fl4 up4 => ?_)
        obtain ⟨oe4, vs4, he4, hz4, hd4, S4⟩ := (c2.step fl4 up4).obj hs hf
        refine store_ok (X := X.suite a ((a, oe4) :: (X.pn ++ pins))) (v := .ref a) S4 hN hi (.inl hl) rfl (fun s5 S5 => ?_) (.inr hl)
        exact wpAny_mono ((hsu a oe4 cls d (X.pn ++ pins) hz4 ⟨_, hd4⟩).run [] s5 _ H _ S5 (yes rfl a c.na)) (fun f s6 q => suite_end (n := some (nm, i)) (pos := pos) ok hn q) fun _ _ z => z.elim
theorem ps_tryN {body : List Stmt} {h₀ : ExceptHandler} {hds : List ExceptHandler} {l : List Cl} {pos : Pos} {tb : WX → TS} (hs : X.stack = X.env :: X.outer) (hf : X.env.frame = some X.env.locals) (tk : L2N.Takes X Wout)
    (hb : ∀ (W : WX) (pn : List (Addr × Obj)) (xe : Value → Shared → Prop), L2N.Takes (X.tr pn xe) W → PassesOwn (model X.prog X.w) X.A X.env xe → PSs (X.tr pn xe) body (tb W)) (hh : Hds X (h₀ :: hds) l) :
    PS X (.Try body (h₀ :: hds) [] [] pos) (fun D σ H => tb (wCls X.K Wout D l) D σ H) := by
  refine ⟨fun pins s σ H D I h => wpAny_Try_except ?_⟩
  have fr : X.A.frames = some (X.env :: X.outer) := by rw [I.ok.frames, hs]
  have body' := hb (wCls X.K Wout D l) (X.pn ++ pins) (fun e s₁ => wpAny (model X.prog X.w) X.A (noteFrame e X.env) (fun _ s₂ => wpAny (model X.prog X.w) X.A (setFlight e none) (fun _ s₃ =>
    wpAny (model X.prog X.w) X.A (handleBy e X.env (h₀ :: hds)) (SP X pins D) X.xe s₃) X.xe s₂) X.xe s₁) (fun u s' ⟨a, B, sI, pins', σ', H', cls, d, e, J, nb, up, sky, na, os, ag, w⟩ => ?_) PassesOwn.looking
  · refine wpAny_mono (body'.run [] s σ H D (I.toTry _) h) (fun f s1 q => ?_) fun _ _ z => z
    match f, q with
    | .next, ⟨σ', H', J, q⟩ => exact wpAny_execs_nil ⟨σ', H', J.ofTry I.ok, q⟩
    | .brk, ⟨σ', H', J, q⟩ => exact ⟨σ', H', J.ofTry I.ok, q⟩
    | .cont, ⟨σ', H', J, q⟩ => exact ⟨σ', H', J.ofTry I.ok, q⟩
    | .ret u, ⟨v, σ', H', J, r, q⟩ => exact ⟨v, σ', H', J.ofTry I.ok, r, q⟩
  · subst e
    have sky' : Sky B (X.env :: X.outer) a (L2N.Zn cls d) X.env.locals s'.heap := hs ▸ sky
    refine L2N.Sky.land L2N.Zn.steady fr hf sky' fun h3 fl3 up3 => handle_ok hs hf tk hh { s' with heap := h3 } ⟨J.ofTry I.ok, nb, up.trans up3, by rw [hs]; exact fl3, na, os, ag⟩ w
end
end Hx

/-! a lambda without parameters handed to a def that calls it within a try -/
namespace Hx
open PySem PySem.Spec PyProof.Rows L2 HotX LamX
section
variable {X : Cx} {pins : List (Addr × Obj)} {σ : L2.St} {H HZ : Hp} {s : Shared}
end
end Hx

/-! A def called with keywords, where what it raises is wished for at the caller's slots. -/
namespace Hx
open PySem PySem.Spec PyProof.Rows L2
/-- the things at these places -/
def sel {α : Type} (idx : List Nat) (l : List α) : List α := idx.filterMap fun i => l[i]?
theorem paired_at {α β : Type} {R : α → β → Prop} : ∀ {xs : List α} {ys : List β}, Paired R xs ys → ∀ i : Nat, (xs[i]? = none ∧ ys[i]? = none) ∨ ∃ x y, xs[i]? = some x ∧ ys[i]? = some y ∧ R x y
  | _, _, .nil, i => .inl ⟨rfl, rfl⟩
  | _, _, .cons r t, 0 => .inr ⟨_, _, rfl, rfl, r⟩
  | _, _, .cons r t, i + 1 => paired_at t i
theorem paired_sel {α β : Type} {R : α → β → Prop} {xs : List α} {ys : List β} (h : Paired R xs ys) : ∀ idx : List Nat, Paired R (sel idx xs) (sel idx ys)
  | [] => .nil
  | i :: idx => by
    have t := paired_sel h idx
    unfold sel at t ⊢
    rcases paired_at h i with ⟨e1, e2⟩ | ⟨x, y, e1, e2, r⟩
    · rw [List.filterMap_cons_none e1, List.filterMap_cons_none e2]; exact t
    · rw [List.filterMap_cons_some e1, List.filterMap_cons_some e2]; exact .cons r t
/-- n things by place, then by these names; what lacks is the default's. idx: where each parameter's thing stands in the row of all -/
structure KSel (K : PySem.W.Frag) (fd : FuncData) (ps : List Str) (n : Nat) (ks : List Str) (idx : List Nat) (dvs : List V) : Prop where
  ex : ∃ its : List Value, Vals dvs its ∧ ∀ (s : Shared) (us ws : List Value), K.In s.heap → us.length = n → ws.length = ks.length → BindsTo s fd ⟨us, ks.zip ws⟩ (ps.zip (sel idx (us ++ ws ++ its)))
def tCallKS (sp : Sp) (n m : Nat) (idx : List Nat) (dvs : List V) (E : L2.St → XK) (t tk : TA) : TE := fun σ H Q => t σ H fun vs H1 => tk σ H1 fun zs H2 => (vs.length = n ∧ zs.length = m) ∧ sp (sel idx (vs ++ zs ++ dvs)) H2 Q (E σ)
section
variable {X : Cx} {CX : CXT} {k n : Nat} {f : Addr} {fd : FuncData} {ps ks : List Str} {sp : Sp} {idx : List Nat} {dvs : List V} {E : L2.St → XK} {x : Str} {p pos : Pos} {e : Expr} {es : List Expr} {kws : List Keyword} {t tk : TA}
theorem kw_run {pins : List (Addr × Obj)} {σ : L2.St} {H : Hp} {s : Shared} {Q : VK} {us ws : List Value} {vs zs : List V} (F : FnG X.prog X.w X.K X.mg X.base CX k f fd ps sp) (hr : RoomG k X.A) (hb : KSel X.K fd ps n ks idx dvs) (hx : PassesAt CX X σ (E σ))
    (I : Inv X pins σ H s) (r : Vals vs us) (rz : Vals zs ws) (l1 : vs.length = n) (l2 : zs.length = ks.length) (h : sp (sel idx (vs ++ zs ++ dvs)) H Q (E σ)) : wpAny (model X.prog X.w) X.A (call (.ref f) us (ks.zip ws)) (EP X pins σ Q) X.xe s := by
  obtain ⟨its, rd, bind⟩ := hb.ex
  have all : Vals (sel idx (vs ++ zs ++ dvs)) (sel idx (us ++ ws ++ its)) := paired_sel ((r.append rz).append rd) idx
  have b := bind s us ws I.kIn (r.length.symm.trans l1) (rz.length.symm.trans l2)
  refine wpAny_call (codeAny_mono (F.run X.A X.stack s H _ _ _ Q (E σ) hr I.env0 b all h) fun out s' got => ?_)
  match out, got with
  | .error e, got => exact hx pins H s e s' I got
  | .ok (.ret u), got => exact I.after got
/-- by names alone -/
theorem pe_callKS0 (F : FnG X.prog X.w X.K X.mg X.base CX k f fd ps sp) (hr : RoomG k X.A) (hg : Gl X x) (hm : X.mg x = some (.ref f)) (hk : PySem.W.keepIn X.K (.ref f) = true) (hb : KSel X.K fd ps 0 ks idx dvs) (hx : ∀ σ, PassesAt CX X σ (E σ)) (hkw : PK X kws tk)
    (hall : (backToKw pos (keywordEach kws X.env)).all (·.1.isSome) = true := by rfl) (hks : (backToKw pos (keywordEach kws X.env)).filterMap (·.1) = ks := by rfl) (hdb : (x == ("__debug__" : Str)) = false := by decide)
    (hpl : ((backTo pos (starEach [] X.env)).any (·.1) || (backToKw pos (keywordEach kws X.env)).any (·.1.isNone)) = false := by rfl) : PE X (.Call (.Name x p) [] kws pos) (tCallKS sp 0 ks.length idx dvs E tNil tk) :=
  ⟨fun pins s σ H Q I h => wpAny_Call_Name_kw (ld_glob I hg hm (PySem.W.callWith_KW0 (h₀ := X.base) I.ok.mod.kin hk hall (thn (hkw.run pos pins s σ H _ I h) fun ws s2 ⟨zs, H2, I2, rz, ⟨l1, l2⟩, q⟩ => ⟨I2.kIn, by
    rw [hks]
    exact kw_run F hr hb (hx σ) I2 .nil rz l1 l2 q⟩) hpl) hdb)⟩
end
end Hx

/-! A tuple told once. -/
namespace Hx
open PySem PySem.Spec PyProof.Rows L2
theorem once_tuple (l : Addr) (items : Array Value) (n : Nat) (dd : Option Addr) (sl : Array (Option Value)) (u : Tok) :
    Meets (Builtin.«tuple.__mul__» ⟨[.ref l, .int 1 u], []⟩) (fun _ R s => s.heap.get? l = some { cls := .type "tuple", dict := dd, data := .seq items n, slots := sl } ∧ R (.ok (.ret (Value.ref l))) s) :=
  .of_wp fun prog w A R s h => by
    obtain ⟨hp, g, d, tk, os⟩ := s
    obtain ⟨hl, h⟩ := h
    have f1 := AutoSeq1.idx_int
    have c0 : (decide ((1 : Int) < -(2 ^ 63)) || decide ((1 : Int) ≥ 2 ^ 63)) = false := by decide
    have c1 : (items.isEmpty || (1 : Int) == 1) = true := by rw [show ((1 : Int) == 1) = true from rfl, Bool.or_true]
    wp_walk using wpAny_loadPart' hl
    repeat (first
      | (refine wpAny_ite_false (decide_eq_false (by rw [c0]; exact Bool.false_ne_true)) ?_; wp_walk using wpAny_loadPart' hl)
      | (refine wpAny_ite_true (decide_eq_true (by exact c1)) ?_; wp_walk using wpAny_loadPart' hl))
    exact ⟨_, rfl, h⟩
section
variable {X : Cx}
def rOnce (K : PySem.W.Frag) : R2 := fun x y H Q => ∃ l xs, x = .ref l ∧ y = .int 1 ∧ SqT K H l xs ∧ Q (.ref l) H
theorem op_once : OpR X (binaryOp .Mult) (rOnce X.K) := by
  intro pins s σ H x y v u Q I rx ry h
  obtain ⟨l, xs, rfl, rfl, hT, q⟩ := h
  cases rx
  obtain ⟨t, rfl⟩ := ry
  obtain ⟨its, r, ⟨⟨cls, dd, data, sl⟩, ho, hc, n, hd⟩, hs⟩ := I.tuple hT
  simp only at hc hd
  subst hc hd
  refine wpAny_binaryOp_repeat_ref (T := "tuple") (U := "int") (by decide) ⟨_, ho, rfl⟩ (fun s' => typeIs_int s' 1 t) noFill_tuple_mul F.fills_int_mul F.slot_int_rmul repeat_tuple F.slot_int_index.lookup
    (call_meets F.slot_int_rmul (typeIs_int s 1 t) F.entry_int_rmul (F.args_int_rmul_2 _ _) (int_rmul_tuple 1 t l its.toArray n dd sl)
      ⟨ho, rfl, ⟨_, ho, rfl⟩, call_meets F.slot_tuple_mul ⟨_, ho, rfl⟩ F.entry_tuple_mul (F.args_tuple_mul_2 _ _) (once_tuple l its.toArray n dd sl t) ⟨ho, ?_⟩⟩)
  exact ⟨.ref l, H, I, rfl, q⟩
end
end Hx

/-! max and min of a list by a def that tells an int of each. -/
namespace Hx
open PySem PySem.Spec PyProof.Rows L2
/-- where a list's iterator stands; the list's things are told by what they stand for -/
def StV (l I : Addr) (xs : List V) (i : Nat) (s : Shared) : Prop := s.heap.IsListIter I l i ∧ ∃ its : List Value, Vals xs its ∧ s.heap.IsList l its.toArray
def PV (xs : List V) (i : Nat) (v : Value) : Prop := ∃ x, xs[i]? = some x ∧ RelV x v
theorem vals_at : ∀ {xs : List V} {its : List Value}, Vals xs its → ∀ {i : Nat} {v : Value}, its.toArray[i]? = some v → PV xs i v := fun {xs its} r {i v} h => by
  have h' : its[i]? = some v := by simpa using h
  clear h
  induction r generalizing i with
  | nil => simp at h'
  | cons r t ih =>
    cases i with
    | zero =>
      simp at h'
      subst h'
      exact ⟨_, rfl, r⟩
    | succ i =>
      obtain ⟨x, hx, rx⟩ := ih (i := i) (by simpa using h')
      exact ⟨x, by simpa using hx, rx⟩
theorem walksV {prog : Program} {w : World} {A : Around} (hh : A.handled = none) (l I : Addr) (hne : l ≠ I) (xs : List V) : WalksS prog w A I [I, l] [I] (fun a b => b = a) xs.length (PV xs) (StV l I xs) where
  sub := fun b hb => by simp at hb; simp [hb]
  grefl := fun _ => rfl
  gtrans := fun _ _ _ h1 h2 => h2.trans h1
  frame := fun i s h' tk ⟨⟨o, e, a, b⟩, its, r, o2, e2, c, d⟩ _ hk => ⟨⟨o, hk I (by simp) o e, a, b⟩, its, r, o2, hk l (by simp) o2 e2, c, d⟩
  item := fun i s Q E hi ⟨st, its, r, hl⟩ hQ => by
    have W := (Walks.list (prog := prog) (w := w) (A := A) hh I l hne its.toArray).toS
    have hn : its.toArray.size = xs.length := by rw [List.size_toArray]; exact r.length.symm
    exact W.item i s Q E (by omega) ⟨st, hl⟩ fun v s' hP st' m => hQ v s' (vals_at r hP) ⟨st'.1, its, r, st'.2⟩ m
  done := fun s Q E ⟨st, its, r, hl⟩ hQ => by
    have W := (Walks.list (prog := prog) (w := w) (A := A) hh I l hne its.toArray).toS
    have hn : its.toArray.size = xs.length := by rw [List.size_toArray]; exact r.length.symm
    exact W.done s Q E ⟨by rw [hn]; exact st, hl⟩ hQ
  self := fun i s Q E ⟨st, its, r, hl⟩ h => by
    have W := (Walks.list (prog := prog) (w := w) (A := A) hh I l hne its.toArray).toS
    exact W.self i s Q E ⟨st, hl⟩ h
section
variable {X : Cx} {k : Nat} {f : Addr} {fd : FuncData} {p : Str} {sp : Sp} {pins : List (Addr × Obj)} {σ : L2.St}
end
end Hx
namespace Hx
open PySem PySem.Spec PyProof.Rows L2
/-! ### max, min of a list of ints -/
section
variable {X : Cx}
end
end Hx

/-! sum of a list of tuples, from a tuple on. -/
namespace Hx
open PySem PySem.Spec PyProof.Rows L2 HT
/-- the tuples that a list holds -/
def TupsAt (K : PySem.W.Frag) (H : Hp) (xs : List V) (vss : List (List V)) : Prop := xs.length = vss.length ∧ ∀ (i : Nat) (x : V) (vs : List V), xs[i]? = some x → vss[i]? = some vs → ∃ t : Addr, x = V.ref t ∧ SqT K H t vs
theorem rd_new {H : Hp} {p t : Addr} {o u : HO} (h : Rd H t o) (hp : H p = none) : Rd (upd H p u) t o := by
  have n : ∀ {v : HO}, H t = some v → upd H p u t = some v := fun {v} e => by rw [upd_ne (fun z => by rw [z, hp] at e; cases e)]; exact e
  rcases h with h | ⟨z, h⟩
  · exact .inl (n h)
  · exact .inr ⟨z, n h⟩
theorem sqT_new {K : PySem.W.Frag} {H : Hp} {p t : Addr} {vs ws : List V} (h : SqT K H t vs) (hp : H p = none) : SqT K (upd H p (.tup ws)) t vs := by
  rcases h with h | h
  · exact .inl (rd_new h hp)
  · exact .inr h
theorem sqL_new {K : PySem.W.Frag} {H : Hp} {p t : Addr} {vs ws : List V} (h : SqL K H t vs) (hp : H p = none) : SqL K (upd H p (.tup ws)) t vs := by
  rcases h with h | h
  · exact .inl (rd_new h hp)
  · exact .inr h
theorem tupsAt_new {K : PySem.W.Frag} {H : Hp} {p : Addr} {xs : List V} {vss : List (List V)} {ws : List V} (h : TupsAt K H xs vss) (hp : H p = none) : TupsAt K (upd H p (.tup ws)) xs vss :=
  ⟨h.1, fun i x vs h1 h2 => by
    obtain ⟨t, e, q⟩ := h.2 i x vs h1 h2
    exact ⟨t, e, sqT_new q hp⟩⟩
section
variable {X : Cx} {pins : List (Addr × Obj)} {σ : L2.St}
/-- two tuples put together, whatever stands around -/
theorem cat_any {A : Around} {E : Value → Shared → Prop} {H : Hp} {s : Shared} {t b : Addr} {vs ws : List V} {Q : Value → Shared → Prop} (J : Inv X pins σ H s) (ht : SqT X.K H t vs) (hb : SqT X.K H b ws) (hz : vs.length + ws.length ≤ sizeLine)
    (q : ∀ (p : Addr) (H' : Hp) (s' : Shared), Inv X pins σ H' s' → SqT X.K H' p (vs ++ ws) → (H' = H ∨ ∃ us, H s.heap.objs.size = none ∧ H' = upd H s.heap.objs.size (.tup us)) → (∀ c o, s.heap.get? c = some o → s'.heap.get? c = some o) → Q (.ref p) s') : wpAny (model X.prog X.w) A (binaryOp .Add (.ref t) (.ref b)) Q E s := by
  obtain ⟨its, r1, pl1, _⟩ := J.tuple ht
  obtain ⟨its2, r2, pl2, _⟩ := J.tuple hb
  have l1 := r1.length
  have l2 := r2.length
  by_cases hv : its = []
  · subst hv
    have e : vs = [] := List.eq_nil_of_length_eq_zero l1
    subst e
    exact cat_tup0 pl1 pl2 (q b H s J hb (.inl rfl) fun _ _ h => h)
  · refine cat_tup pl1 pl2 hv (fun hw => ?_) (fun hw => ?_) (by omega)
    · subst hw
      have e : ws = [] := List.eq_nil_of_length_eq_zero l2
      subst e
      refine q t H s J ?_ (.inl rfl) fun _ _ h => h
      rw [List.append_nil]
      exact ht
    · have hn : H s.heap.objs.size = none := J.hok.fresh (Nat.le_refl _)
      refine q s.heap.objs.size (upd H s.heap.objs.size (.tup (vs ++ ws))) _ (J.laid (t' := s.toks) (o := .tup (vs ++ ws)) (fun c o h => Heap.get?_push_of_some _ h) (Nat.le_refl _) ⟨?_, _, r1.append r2, IsTup.new _ _⟩) (.inl (.inl upd_same)) (.inr ⟨_, hn, rfl⟩) fun c o h => Heap.get?_push_of_some _ h
      rw [List.length_append]
      exact hz
theorem sum_loop {l I S : Addr} {xs : List V} {vss : List (List V)} {R : Result → Shared → Prop} {H0 : Hp} (hc : X.calm = true) (hSl : S ≠ l) (hSI : S ≠ I) (hli : l ≠ I) (hw : ∀ n, (vss.take n).flatten.length ≤ 1000) :
    ∀ (k i : Nat) (s : Shared) (H : Hp) (a : Addr) (c : Nat), xs.length - i = k → i ≤ xs.length → (∀ b o, H0 b = some o → H b = some o) → Inv X pins σ H s → FpOk X pins H S → FpOk X pins H I → SqL X.K H l xs → TupsAt X.K H xs vss → SqT X.K H a (vss.take i).flatten → s.heap.IsListIter I l i →
      s.heap.get? S = some { cls := .type "list", dict := none, data := .seq #[.ref a] c, slots := #[] } →
      (∀ p H' s', (∀ b o, H0 b = some o → H' b = some o) → Inv X pins σ H' s' → SqT X.K H' p vss.flatten → R (.ok (.ret (.ref p))) s') → codeAny (model X.prog X.w) X.A (.builtin "sum.loop" ⟨[.ref I, .ref S, rawInt 2, rawInt 0], []⟩) R s := by
  intro k
  induction k with
  | zero =>
    intro i s H a c hk hi hx0 J fS fI hL hT ha hit hS hR
    have hin : i = xs.length := by omega
    subst hin
    obtain ⟨its, rv, pl, _⟩ := J.list hL
    refine codeAny_builtin F.entry_sum_loop ?_
    rw [Around.under_plainId F.plain_sum_loop _]
    show wpAny _ X.A.in1 (seqItems? (.ref S) >>= _) _ _ s
    refine wpAny_bind (wpAny_seqItems hS rfl ?_)
    show wpAny _ X.A.in1 (tryCatch (pyNext (.ref I)) _ >>= _) _ _ s
    refine wpAny_bind (wpAny_tryCatch ((walksV (A := X.A.in1) (J.ok.hd hc) l I hli xs).done s _ _ ⟨hit, its, rv, pl.isList⟩ fun s' hm => ?_))
    refine wpAny_pure (hR a H s' hx0 ?_ ?_)
    · obtain ⟨h1, g1, d1, t1, o1⟩ := s
      obtain ⟨h2, g2, d2, t2, o2⟩ := s'
      have e1 : g2 = g1 := hm.gens
      have e2 : d2 = d1 := hm.drawn
      have e3 : o2 = o1 := hm.os
      subst e1 e2 e3
      exact J.turnedL (t' := t2) (ch := [I]) (fun b o hb e => hm.heap b o hb e) (fun b hb => by rw [List.mem_singleton.mp hb]; exact fI)
    · rw [hT.1, List.take_length] at ha
      exact ha
  | succ k ih =>
    intro i s H a c hk hi hx0 J fS fI hL hT ha hit hS hR
    have hlt : i < xs.length := by omega
    obtain ⟨its, rv, pl, _⟩ := J.list hL
    refine codeAny_builtin F.entry_sum_loop ?_
    rw [Around.under_plainId F.plain_sum_loop _]
    show wpAny _ X.A.in1 (seqItems? (.ref S) >>= _) _ _ s
    refine wpAny_bind (wpAny_seqItems hS rfl ?_)
    show wpAny _ X.A.in1 (tryCatch (pyNext (.ref I)) _ >>= _) _ _ s
    refine wpAny_bind (wpAny_tryCatch ((walksV (A := X.A.in1) (J.ok.hd hc) l I hli xs).item i s _ _ hlt ⟨hit, its, rv, pl.isList⟩ fun v s' ⟨x, hx, rx⟩ st' hm => ?_))
    have hlt2 : i < vss.length := by rw [← hT.1]; exact hlt
    obtain ⟨t, rfl, hTt⟩ := hT.2 i x vss[i] hx (List.getElem?_eq_getElem hlt2)
    cases rx
    have J1 : Inv X pins σ H s' := by
      obtain ⟨h1, g1, d1, t1, o1⟩ := s
      obtain ⟨h2, g2, d2, t2, o2⟩ := s'
      have e1 : g2 = g1 := hm.gens
      have e2 : d2 = d1 := hm.drawn
      have e3 : o2 = o1 := hm.os
      subst e1 e2 e3
      exact J.turnedL (t' := t2) (ch := [I]) (fun b o hb e => hm.heap b o hb e) (fun b hb => by rw [List.mem_singleton.mp hb]; exact fI)
    have hS1 := hm.heap S _ (by simpa using hSI) hS
    have et0 : vss.take (i + 1) = vss.take i ++ [vss[i]] := by rw [List.take_succ, List.getElem?_eq_getElem hlt2]; rfl
    have et : (vss.take (i + 1)).flatten = (vss.take i).flatten ++ vss[i] := by rw [et0, List.flatten_append, List.flatten_cons, List.flatten_nil, List.append_nil]
    have hz : (vss.take i).flatten.length + vss[i].length ≤ sizeLine := by
      have := hw (i + 1)
      rw [et, List.length_append] at this
      rw [sizeLine_eq]
      omega
    show wpAny _ X.A.in1 ((holding [Value.ref t] (binaryOp .Add (.ref a) (.ref t))).attempt >>= _) _ _ _
    refine wpAny_bind (wpAny_attempt (wpAny_holding (cat_any J1 ha hTt hz fun p H2 s2 J2 hp he kp => ?_)))
    show wpAny _ X.A.in1 (updateSeq S (fun _ => #[.ref p]) >>= _) _ _ _
    have hS2 := kp S _ hS1
    obtain ⟨oI, eI, cI, dI⟩ := st'.1
    have hI2 := kp I _ eI
    have new : (FpOk X pins H2 S ∧ FpOk X pins H2 I) ∧ SqL X.K H2 l xs ∧ TupsAt X.K H2 xs vss := by
      rcases he with rfl | ⟨us, hr, rfl⟩
      · exact ⟨⟨fS, fI⟩, hL, hT⟩
      · have key : ∀ {b : Addr} {o : Obj}, FpOk X pins H b → s'.heap.get? b = some o → FpOk X pins (upd H s'.heap.objs.size (.tup us)) b := fun {b o} fb ho => ⟨by rw [upd_ne (Nat.ne_of_lt (Heap.lt_size ho))]; exact fb.1, fb.2⟩
        exact ⟨⟨key fS hS1, key fI eI⟩, sqL_new hL hr, tupsAt_new hT hr⟩
    refine wpAny_bind (wpAny_updateSeq hS2 rfl ?_)
    have hS3 := Heap.get?_update_self (Obj.mapSeq fun _ => #[Value.ref p]) hS2 rfl
    refine wpAny_bind (wpAny_letGo ?_)
    refine wpAny_bind (wpAny_updateSeq hS3 rfl (wpAny_pure ⟨plainId_quiet F.plain_sum_loop _, ?_⟩))
    have oth : ∀ {h : Heap} {f : Obj → Obj} {b : Addr} {o : Obj}, b ≠ S → h.get? b = some o → (h.update S f).get? b = some o := fun hb e => (Heap.get?_update_other _ _ (fun h => hb h.symm)).trans e
    have hx2 : ∀ b o, H0 b = some o → H2 b = some o := fun b o h => by
      have h1 := hx0 b o h
      rcases he with rfl | ⟨us, hr, rfl⟩
      · exact h1
      · rw [upd_ne (fun z => by rw [z, hr] at h1; cases h1)]; exact h1
    have J3 : Inv X pins σ H2 { s2 with heap := s2.heap.update S (Obj.mapSeq fun _ => #[Value.ref p]) } := J2.turnedL (t' := s2.toks) (ch := [S]) (fun b o hb e => oth (fun h => hb (by rw [h]; exact List.mem_singleton.mpr rfl)) e) (fun b hb => by rw [List.mem_singleton.mp hb]; exact new.1.1)
    refine ih (i + 1) _ H2 p _ (by omega) hlt hx2 (J3.turnedL (t' := s2.toks) (ch := [S]) (fun b o hb e => oth (fun h => hb (by rw [h]; exact List.mem_singleton.mpr rfl)) e) (fun b hb => by rw [List.mem_singleton.mp hb]; exact new.1.1)) new.1.1 new.1.2 new.2.1 new.2.2 (by rw [et]; exact hp) ⟨oI, oth (Ne.symm hSI) (oth (Ne.symm hSI) hI2), cI, dI⟩ (Heap.get?_update_self _ hS3 rfl) hR

theorem args_sumStart (a b : Value) : argsOk "sum" ⟨[a], [(Str.ofString "start", b)]⟩ := by unfold argsOk; kernel_rfl
/-- sum(xs, start=t): the tuples of a list put together -/
def rSumT (K : PySem.W.Frag) : List V → List V → Hp → VK → Prop := fun vs zs H Q => ∃ (l a : Addr) (xs : List V) (vss : List (List V)), vs = [.ref l] ∧ zs = [.ref a] ∧ SqL K H l xs ∧ TupsAt K H xs vss ∧ SqT K H a [] ∧ (∀ n, (vss.take n).flatten.length ≤ 1000) ∧
  ∀ p H', (∀ b o, H b = some o → H' b = some o) → SqT K H' p vss.flatten → Q (.ref p) H'
theorem cr_sumT (hc : X.calm = true) : CallRK X (.builtin "sum") [Str.ofString "start"] (rSumT X.K) := by
  intro pins s σ H vs zs us ws Q J r1 r2 ⟨l, a, xs, vss, e1, e2, hL, hT, ha, hw, q⟩
  subst e1 e2
  rw [Vals.ref1 r1, Vals.ref1 r2]
  obtain ⟨its, rv, pl, _⟩ := J.list hL
  obtain ⟨ita, ra, pa, _⟩ := J.tuple ha
  refine PyProof.Rows.kmk_tree F.kind_sum F.plain_sum F.entry_sum (args_sumStart _ _) ?_
  unfold Builtin.«sum»
  rw [if_neg (by show ¬ (1 + 1 > 2); decide)]
  refine wpAny_bind (wpAny_of_eq (show Builtin.Builtins.bindParams "sum" ["start"] 0 ⟨[], [(Str.ofString "start", Value.ref a)]⟩ = pure [some (.ref a)] from rfl) ?_)
  refine wpAny_bind (iter_anyList pl.isList fun s₂ e st hfp hlI => ?_)
  subst e
  refine wpAny_bind (wpAny_pure ?_)
  have kk : ∀ b o, s.heap.get? b = some o → (s.heap.push ({ cls := .type "list_iterator", data := .fields #[.ref l, .int 0 0] } : Obj)).get? b = some o := fun b o e => Heap.get?_push_of_some _ e
  have J2 := J.kept (t' := s.toks) kk
  obtain ⟨oA, hoA, cA, _⟩ := pa
  have tyA : ({ s with heap := s.heap.push ({ cls := .type "list_iterator", data := .fields #[.ref l, .int 0 0] } : Obj) } : Shared).TypeIs (.ref a) "tuple" := ⟨oA, kk _ _ hoA, cA⟩
  simp only [List.forIn_cons, List.forIn_nil]
  refine wpAny_bind (wpAny_bind (wpAny_bind (wpAny_isInstance (T := "tuple") (b := false) tyA PySem.F.sub_tuple_str ?_)))
  simp only [Bool.false_eq_true, if_false]
  refine wpAny_pure (wpAny_bind (wpAny_bind (wpAny_isInstance (T := "tuple") (b := false) tyA PySem.F.sub_tuple_bytes ?_)))
  simp only [Bool.false_eq_true, if_false]
  refine wpAny_pure (wpAny_bind (wpAny_bind (wpAny_isInstance (T := "tuple") (b := false) tyA PySem.F.sub_tuple_bytearray ?_)))
  simp only [Bool.false_eq_true, if_false]
  refine wpAny_pure (wpAny_pure ?_)
  refine wpAny_bind (wpAny_newObj_type ?_)
  have hsz : (s.heap.push ({ cls := .type "list_iterator", data := .fields #[.ref l, .int 0 0] } : Obj)).objs.size = s.heap.objs.size + 1 := Heap.size_push ..
  have nI : H s.heap.objs.size = none := J.hok.fresh (Nat.le_refl _)
  have fI : FpOk X pins H s.heap.objs.size := J.fpOk (Nat.le_refl _) nI
  have fS : FpOk X pins H (s.heap.push ({ cls := .type "list_iterator", data := .fields #[.ref l, .int 0 0] } : Obj)).objs.size := J2.fpOk (Nat.le_refl _) (J2.hok.fresh (Nat.le_refl _))
  have hlt : l < s.heap.objs.size := by obtain ⟨_, e, _⟩ := pl.isList; exact Heap.lt_size e
  refine wpAny_pure ⟨plainId_quiet F.plain_sum_loop _, sum_loop (xs := xs) (vss := vss) (H0 := H) hc ?_ ?_ hlI hw xs.length 0 _ H a 0 (by omega) (Nat.zero_le _) (fun _ _ h => h) (J2.kept (t' := s.toks) fun b o e => Heap.get?_push_of_some _ e) fS fI hL hT (by rw [List.take_zero, List.flatten_nil]; exact ha) ?_ (Heap.get?_push_size _ rfl) fun p H' s' hx J' hp => ⟨.ref p, H', J', rfl, q p H' hx hp⟩⟩
  · show (s.heap.push _).objs.size ≠ l
    rw [hsz]; exact Nat.ne_of_gt (Nat.lt_succ_of_lt hlt)
  · show (s.heap.push _).objs.size ≠ s.heap.objs.size
    rw [hsz]; exact Nat.succ_ne_self _
  · obtain ⟨o, e1, e2, e3⟩ := st.1
    exact ⟨o, Heap.get?_push_of_some _ e1, e2, e3⟩
end
end Hx

/-! Own classes over promises of defs that are called where nothing is being shown: an instance is made, its methods are called. -/
namespace Hx
open PySem PySem.Spec PyProof.Rows L2
theorem RoomG.make {k : Nat} {A : Around} (r : RoomG (k + 1) A) (C : Addr) (us : List Value) (kw : List (Str × Value)) : RoomG k (A.under (.builtin "type.__call__" ⟨.ref C :: us, kw⟩)) := ⟨r.rm.make C us kw, r.gd⟩
/-- C(e, ..): what __init__ is handed is the new instance and the arguments -/
def tMakeS (C : Addr) (sp : Sp) (dvs : List V) (E : L2.St → XK) (t : TA) : TE := fun σ H Q => t σ H fun vs H1 => ∀ x dx, H1 x = none → H1 dx = none → dx ≠ x →
  sp (.ref x :: (vs ++ dvs)) (upd (upd H1 dx (.own x)) x (.ins C dx [])) (fun v H2 => v = .non ∧ Q (.ref x) H2) (E σ)
def tMethS (C : Addr) (m : Str) (sp : Sp) (dvs : List V) (E : L2.St → XK) (ta : TE) (t : TA) : TE := fun σ H Q => ta σ H fun x H1 => ∃ a dx fs, x = .ref a ∧ H1 a = some (.ins C dx fs) ∧ fs.lookup m = none ∧
  t σ H1 fun vs H2 => sp (x :: (vs ++ dvs)) H2 Q (E σ)
section
variable {X : Cx} {CX : CXT} {k : Nat} {f C : Addr} {fd : FuncData} {ps : List Str} {sp : Sp} {dvs : List V} {ds : List Value} {E : L2.St → XK} {x m : Str} {p pos apos : Pos} {o e : Expr} {es : List Expr} {t : TA} {ta : TE}
theorem makeG_run {pins : List (Addr × Obj)} {σ : L2.St} {H : Hp} {s : Shared} {Q : VK} {us : List Value} {vs : List V} (M : Mk X.K C f) (F : FnG X.prog X.w X.K X.mg X.base CX k f fd ps sp) (hr : RoomG (k + 1) X.A) (hb : Binds X.K fd ps ds) (hd : Vals dvs ds) (hx : PassesAt CX X σ (E σ))
    (I : Inv X pins σ H s) (r : Vals vs us)
    (h : ∀ x dx, H x = none → H dx = none → dx ≠ x → sp (.ref x :: (vs ++ dvs)) (upd (upd H dx (.own x)) x (.ins C dx [])) (fun v H2 => v = .non ∧ Q (.ref x) H2) (E σ)) :
    wpAny (model X.prog X.w) X.A (call (.ref C) us) (EP X pins σ Q) X.xe s := by
  have ready := Inv.made (C := C) I
  have spun := h (s.heap.objs.size + 1) s.heap.objs.size (I.hok.fresh (Nat.le_succ _)) (I.hok.fresh (Nat.le_refl _)) (Nat.ne_of_lt (Nat.lt_succ_self _))
  have all : Vals (V.ref (s.heap.objs.size + 1) :: (vs ++ dvs)) (Value.ref (s.heap.objs.size + 1) :: (us ++ ds)) := .cons rfl (r.append hd)
  have many : (Value.ref (s.heap.objs.size + 1) :: us ++ ds).length = ps.length := (show _ = _ from all.length.symm).trans (F.len _ _ _ _ spun)
  refine wpAny_call (make_map (f := f) I.kIn M.makes M.init (beq_iff_eq.mp M.fn) (codeAny_mono (F.run _ X.stack _ _ ⟨Value.ref (s.heap.objs.size + 1) :: us, []⟩ (Value.ref (s.heap.objs.size + 1) :: (us ++ ds)) _ _ (E σ) (hr.make C us [])
    (ready.env0.make C us []) (hb _ (Value.ref (s.heap.objs.size + 1) :: us) ready.kIn many) all spun) fun out s' got => ?_))
  match out, got with
  | .error e, got => exact hx pins _ _ e s' ready got
  | .ok (.ret u), got =>
    obtain ⟨v, H', J, rv, ev, q⟩ := ready.after got
    subst ev
    exact ⟨rv, V.ref (s.heap.objs.size + 1), H', J, rfl, q⟩
theorem pe_makeG (M : Mk X.K C f) (F : FnG X.prog X.w X.K X.mg X.base CX k f fd ps sp) (hr : RoomG (k + 1) X.A) (hg : Gl X x) (hm : X.mg x = some (.ref C)) (hb : Binds X.K fd ps ds) (hd : Vals dvs ds) (hx : ∀ σ, PassesAt CX X σ (E σ))
    (ha : PA X (e :: es) t) (hdb : (x == ("__debug__" : Str)) = false := by decide) (he : starEach (e :: es) X.env = (false, eval e X.env) :: starEach es X.env := by rfl) (hpl : (backTo pos (starEach es X.env)).any (·.1) = false := by rfl) :
    PE X (.Call (.Name x p) (e :: es) [] pos) (tMakeS C sp dvs E t) :=
  ⟨fun pins s σ H Q I h => wpAny_Call_Name_kw (ld_glob I hg hm (PySem.W.callWith_K (h₀ := X.base) I.ok.mod.kin M.kp (thn (ha.run pos pins s σ H _ I h) fun us s1 ⟨vs, H1, I1, r, q⟩ => ⟨I1.kIn, makeG_run M F hr hb hd (hx σ) I1 r q⟩) he hpl) hdb)⟩
/-- o.m(e, ..) -/
theorem pe_methG {pl : Sem Bool} (he : PE X o ta) (c : Cls X.K C) (hm : Meth X.K C m f) (F : FnG X.prog X.w X.K X.mg X.base CX k f fd ps sp) (hr : RoomG k X.A) (hb : Binds X.K fd ps ds) (hd : Vals dvs ds) (hx : ∀ σ, PassesAt CX X σ (E σ)) (ha : PA X (e :: es) t)
    (hst : starEach (e :: es) X.env = (false, eval e X.env) :: starEach es X.env := by rfl) (hpl : (backTo pos (starEach es X.env)).any (·.1) = false := by rfl)
    (ht : eval (.Call (.Attribute o m apos) (e :: es) [] pos) X.env = (do
      let ov ← eval o X.env
      standAt apos.atName
      let (f, first) ← holding [ov] (getMethod ov m pl)
      callWith pos f first (backTo pos (starEach (e :: es) X.env)) (backToKw pos (keywordEach [] X.env))) := by rfl) :
    PE X (.Call (.Attribute o m apos) (e :: es) [] pos) (tMethS C m sp dvs E ta t) := by
  refine ⟨fun pins s σ H Q I h => PySem.W.methodCall_KW (pl := pl) (thn (he.run pins s σ H _ I h) fun u s1 ⟨x, H1, I1, rx, a, dx, fs, ex, ea, l, q⟩ => ?_) ht⟩
  subst ex
  cases rx
  exact getmeth_ok I1 ea c hm l (PySem.W.callWith_K (first := [.ref a]) (h₀ := X.base) I.ok.mod.kin hm.kp (thn (ha.run pos pins s1 σ H1 _ I1 q) fun us s2 ⟨vs, H2, I2, r, q2⟩ => ⟨I2.kIn, fnG_run (us := .ref a :: us) (vs := .ref a :: vs) F hr hb hd (hx σ) I2 (.cons rfl r) q2⟩) hst hpl)
/-- o.m() -/
theorem pe_methG0 {pl : Sem Bool} (he : PE X o ta) (c : Cls X.K C) (hm : Meth X.K C m f) (F : FnG X.prog X.w X.K X.mg X.base CX k f fd ps sp) (hr : RoomG k X.A) (hb : Binds X.K fd ps ds) (hd : Vals dvs ds) (hx : ∀ σ, PassesAt CX X σ (E σ))
    (ht : eval (.Call (.Attribute o m apos) [] [] pos) X.env = (do
      let ov ← eval o X.env
      standAt apos.atName
      let (f, first) ← holding [ov] (getMethod ov m pl)
      callWith pos f first (backTo pos (starEach [] X.env)) (backToKw pos (keywordEach [] X.env))) := by rfl) :
    PE X (.Call (.Attribute o m apos) [] [] pos) (tMethS C m sp dvs E ta tNil) := by
  refine ⟨fun pins s σ H Q I h => PySem.W.methodCall_KW (pl := pl) (thn (he.run pins s σ H _ I h) fun u s1 ⟨x, H1, I1, rx, a, dx, fs, ex, ea, l, q⟩ => ?_) ht⟩
  subst ex
  cases rx
  exact getmeth_ok I1 ea c hm l (PySem.W.callWith_K0 (first := [.ref a]) I1.kIn hm.kp (fnG_run (us := [.ref a]) (vs := [.ref a]) F hr hb hd (hx σ) I1 (.cons rfl .nil) q))
end
end Hx
namespace Hx
open PySem PySem.Spec PyProof.Rows L2
end Hx

/-! Defs with defaults whose promises are called where nothing is being shown. -/
namespace Hx
open PySem PySem.Spec PyProof.Rows L2
/-- a def whose defaults are the items of the tuple at T -/
structure FunV (K : PySem.W.Frag) (x qual : Str) (st : Stmt) (f : Addr) (fd : FuncData) (T : Addr) (its : Array Value) : Prop where
  ex : ∃ (oc : Value) (od : Option Addr) (kV doc pm : Value) (an : Option Addr) (cdv ct : Value) (osl : Array (Option Value)),
    fd = PySem.W.fnOf x qual (defArgs st) (defBody st) (defScope st) (.ref T) kV doc pm an cdv ct ∧ K.lookup f = some ⟨oc, od, .func fd, osl⟩ ∧ PySem.W.codeIn K cdv qual = true
  dfl : ∃ (o : Obj) (n : Nat), K.lookup T = some o ∧ o.data = .seq its n
  kp : PySem.W.keepIn K (.ref f) = true
/-- what a call binds, where the defaults are looked at -/
theorem FunV.to {K : PySem.W.Frag} {x qual : Str} {st : Stmt} {f T : Addr} {its : Array Value} {fd : FuncData} {args : Args} {bs : List (Str × Value)} {s : Shared} (F : FunV K x qual st f fd T its) (X : K.In s.heap)
    (h : ∃ k, bindArgs fd args = seqItems? (.ref T) >>= k ∧ k (some its) = pure bs) : BindsTo s fd args bs := by
  obtain ⟨o, n, lT, oT⟩ := F.dfl
  obtain ⟨k, e1, e2⟩ := h
  refine BindsTo.of_looks fun M => ?_
  rw [e1]
  exact looks_items X lT oT (.of_pure e2)
end Hx

/-! len of an instance whose class has a __len__ of its own. -/
namespace Hx
open PySem PySem.Spec PyProof.Rows L2
open Builtin
end Hx

/-! sep.join(reversed(xs)), xs a list of texts -/
namespace Hx
open PySem PySem.Spec PyProof.Rows L2 Builtin Builtin.Str
section
variable {prog : Program} {w : World} {A : Around} {E : Value → Shared → Prop} {s : Shared}
end
section
variable {X : Cx}
end
end Hx

/-! min of four ints; min of a list of ints with default. -/
namespace Hx
open PySem PySem.Spec PyProof.Rows L2
section
variable {prog : Program} {w : World} {A : Around} {E : Value → Shared → Prop} {s : Shared}
end
section
variable {X : Cx}
end
end Hx

/-! sorted and min of a list of data of one make. -/
namespace Hx
open PySem PySem.Spec PyProof.Rows L2
section
variable {X : Cx}
end
end Hx

/-! A layer of readings by value over the hand layer: tuples, frozen lists, frozen instances are values; owned lists and instances stand in a store. -/
namespace Dv
open PySem L2

inductive D where
  | non | bl (b : Bool) | int (i : Int) | str (x : Str)
  | tup (xs : List D) | lst (xs : List D) | tupX (xs : List D)
  | inst (C : Str) (ns : List Str) (xs : List D)
  | obj (a : Addr) | ty (n : String)
  | exc (a : Addr) (od : Option Addr) (ns : List Str) (xs : List D)
  | fn (x : Str)
  | hob (o : HO)
  | dct (ks : List Key) (xs : List D)

inductive SO where
  | lst (xs : List D)
  | ins (C : Str) (ns : List Str) (xs : List D)
  | tab (q : Str)

abbrev Sd := Addr → Option SO
def upS (S : Sd) (a : Addr) (o : SO) : Sd := fun b => if b = a then some o else S b
def del (S : Sd) (a : Addr) : Sd := fun b => if b = a then none else S b
theorem upS_same {S : Sd} {a : Addr} {o : SO} : upS S a o a = some o := by unfold upS; rw [if_pos rfl]
theorem upS_ne {S : Sd} {a b : Addr} {o : SO} (h : b ≠ a) : upS S a o b = S b := by unfold upS; rw [if_neg h]
theorem upS_upS {S : Sd} {a : Addr} {o u : SO} : upS (upS S a o) a u = upS S a u := by
  funext b; unfold upS; split <;> rfl
theorem del_same {S : Sd} {a : Addr} : del S a a = none := by unfold del; rw [if_pos rfl]
theorem del_ne {S : Sd} {a b : Addr} (h : b ≠ a) : del S a b = S b := by unfold del; rw [if_neg h]
theorem del_upS {S : Sd} {a : Addr} {o : SO} (h : S a = none) : del (upS S a o) a = S := by
  funext b
  by_cases e : b = a
  · rw [e, del_same, h]
  · rw [del_ne e, upS_ne e]

/-- a list of the written part -/
def KL (K : PySem.W.Frag) (a : Addr) (xs : List V) : Prop :=
  ∃ (o : Obj) (its : Array Value) (n : Nat), K.lookup a = some o ∧ o.cls = .type "list" ∧ o.dict = none ∧ o.data = .seq its n ∧ its.size ≤ sizeLine ∧ Vals xs its.toList

/-- the class that a global of the text names -/
def ClsAt (K : PySem.W.Frag) (n : Str) (C : Addr) : Prop := PySem.W.nsIn K mainGlobals n = some (some (.ref C))
theorem ClsAt.one {K : PySem.W.Frag} {n : Str} {C D : Addr} (h : ClsAt K n C) (g : ClsAt K n D) : C = D := by
  unfold ClsAt at h g
  rw [h] at g
  cases g
  rfl
mutual
def Rp (K : PySem.W.Frag) (H : Hp) (S : Sd) : D → V → Prop
  | .non, v => v = .non
  | .bl b, v => v = .bl b
  | .int i, v => v = .int i
  | .str x, v => v = .str x
  | .tup ds, v => ∃ a vs, v = .ref a ∧ SqT K H a vs ∧ RpL K H S ds vs
  | .lst ds, v => ∃ a vs, v = .ref a ∧ ((Rd H a (.lst vs) ∧ S a = none) ∨ KL K a vs) ∧ RpL K H S ds vs
  | .inst n ns ds, v => ∃ C a dx fs, ClsAt K n C ∧ v = .ref a ∧ H a = some (.ins C dx fs) ∧ S a = none ∧ fs.map Prod.fst = ns ∧ RpL K H S ds (fs.map Prod.snd)
  | .tupX ds, v => ∃ a o vs, v = .ref a ∧ H a = some (.frz o (.tup vs)) ∧ o.dict = none ∧ RpL K H S ds vs
  | .obj a, v => v = .ref a
  | .ty n, v => v = .ty n
  | .fn x, v => ∃ f, v = .ref f ∧ PySem.W.nsIn K mainGlobals x = some (some (.ref f))
  | .hob o, v => ∃ a, v = .ref a ∧ H a = some o ∧ S a = none
  | .dct ks ds, v => ∃ a kvs, v = .ref a ∧ H a = some (.dK kvs) ∧ S a = none ∧ kvs.map Prod.fst = ks ∧ RpL K H S ds (kvs.map Prod.snd)
  | .exc a od ns ds, v => v = .ref a ∧ (od = none → ns = []) ∧ (∀ dx, od = some dx → ∃ fs, H dx = some (.xd fs) ∧ S dx = none ∧ (ns = [] ∨ (fs.map Prod.fst = ns ∧ RpL K H S ds (fs.map Prod.snd))))
def RpL (K : PySem.W.Frag) (H : Hp) (S : Sd) : List D → List V → Prop
  | [], vs => vs = []
  | d :: ds, vs => ∃ v r, vs = v :: r ∧ Rp K H S d v ∧ RpL K H S ds r
end

def SoOk (K : PySem.W.Frag) (H : Hp) (S : Sd) (a : Addr) : SO → Prop
  | .lst ds => ∃ vs, H a = some (.lst vs) ∧ RpL K H S ds vs
  | .ins n ns ds => ∃ C dx fs, ClsAt K n C ∧ H a = some (.ins C dx fs) ∧ fs.map Prod.fst = ns ∧ RpL K H S ds (fs.map Prod.snd)
  | .tab q => LamX.TabS H a q
def RelS (K : PySem.W.Frag) (H : Hp) (S : Sd) : Prop := ∀ a o, S a = some o → SoOk K H S a o
/-- what is not owned stays, and stays not owned -/
def Step (H : Hp) (S : Sd) (H' : Hp) (S' : Sd) : Prop := ∀ a o, H a = some o → S a = none → H' a = some o ∧ S' a = none

section
variable {K : PySem.W.Frag} {H H' H2 : Hp} {S S' S2 : Sd} {a p : Addr} {ds es : List D} {vs ws : List V} {d : D} {v : V}

theorem RelS.some_h (R : RelS K H S) {o : SO} (h : S a = some o) : (∃ vs, H a = some (.lst vs)) ∨ (∃ C dx fs, H a = some (.ins C dx fs)) ∨ ∃ ps, H a = some (.tbl ps) := by
  have x := R a o h
  cases o with
  | lst ds => obtain ⟨vs, e, _⟩ := x; exact .inl ⟨vs, e⟩
  | ins C ns ds => obtain ⟨C, dx, fs, _, e, _⟩ := x; exact .inr (.inl ⟨C, dx, fs, e⟩)
  | tab q => obtain ⟨ps, e, _⟩ := x; exact .inr (.inr ⟨ps, e⟩)
theorem RelS.freeOf (R : RelS K H S) (h1 : ∀ vs, H a ≠ some (.lst vs)) (h2 : ∀ C dx fs, H a ≠ some (.ins C dx fs)) (h3 : ∀ ps, H a ≠ some (.tbl ps)) : S a = none := by
  cases e : S a with
  | none => rfl
  | some o =>
    rcases R.some_h e with ⟨vs, q⟩ | ⟨C, dx, fs, q⟩ | ⟨ps, q⟩
    · exact absurd q (h1 vs)
    · exact absurd q (h2 C dx fs)
    · exact absurd q (h3 ps)
theorem RelS.free (R : RelS K H S) (h : H a = none) : S a = none := R.freeOf (fun _ q => by rw [h] at q; cases q) (fun _ _ _ q => by rw [h] at q; cases q) fun _ q => by rw [h] at q; cases q
theorem RelS.tupFree (R : RelS K H S) (h : H a = some (.tup vs)) : S a = none := R.freeOf (fun _ q => by rw [h] at q; cases q) (fun _ _ _ q => by rw [h] at q; cases q) fun _ q => by rw [h] at q; cases q
theorem RelS.frzFree {o : Obj} {u : HO} (R : RelS K H S) (h : H a = some (.frz o u)) : S a = none := R.freeOf (fun _ q => by rw [h] at q; cases q) (fun _ _ _ q => by rw [h] at q; cases q) fun _ q => by rw [h] at q; cases q
theorem RelS.codeFree {q : Str} (R : RelS K H S) (h : H a = some (LamX.CodeO a q)) : S a = none := R.freeOf (fun _ z => by rw [h] at z; cases z) (fun _ _ _ z => by rw [h] at z; cases z) fun ps z => by rw [h] at z; exact LamX.codeO_ne ps (Option.some.inj z)

theorem Step.refl : Step H S H S := fun _ _ h1 h2 => ⟨h1, h2⟩
theorem Step.trans (s1 : Step H S H' S') (s2 : Step H' S' H2 S2) : Step H S H2 S2 := fun b o h1 h2 =>
  let ⟨q1, q2⟩ := s1 b o h1 h2
  s2 b o q1 q2
theorem step_rdT (R : RelS K H S) (s : Step H S H' S') (h : Rd H a (.tup vs)) : Rd H' a (.tup vs) := by
  rcases h with h | ⟨o, h⟩
  · exact .inl (s a _ h (R.tupFree h)).1
  · exact .inr ⟨o, (s a _ h (R.frzFree h)).1⟩
theorem step_sqT (R : RelS K H S) (s : Step H S H' S') (h : SqT K H a vs) : SqT K H' a vs := by
  rcases h with h | h
  · exact .inl (step_rdT R s h)
  · exact .inr h
theorem step_rdL (s : Step H S H' S') (h : Rd H a (.lst vs)) (n : S a = none) : Rd H' a (.lst vs) ∧ S' a = none := by
  rcases h with h | ⟨o, h⟩
  · exact ⟨.inl (s a _ h n).1, (s a _ h n).2⟩
  · exact ⟨.inr ⟨o, (s a _ h n).1⟩, (s a _ h n).2⟩

mutual
theorem rp_step (R : RelS K H S) (s : Step H S H' S') : ∀ (d : D) (v : V), Rp K H S d v → Rp K H' S' d v
  | .non, v, h => h
  | .bl _, v, h => h
  | .int _, v, h => h
  | .str _, v, h => h
  | .tup ds, v, h => by
    obtain ⟨a, vs, e, q, r⟩ := h
    exact ⟨a, vs, e, step_sqT R s q, rpL_step R s ds vs r⟩
  | .lst ds, v, h => by
    obtain ⟨a, vs, e, q, r⟩ := h
    refine ⟨a, vs, e, ?_, rpL_step R s ds vs r⟩
    rcases q with ⟨q, n⟩ | q
    · exact .inl (step_rdL s q n)
    · exact .inr q
  | .inst C ns ds, v, h => by
    obtain ⟨C, a, dx, fs, c, e, q, n, hn, r⟩ := h
    exact ⟨C, a, dx, fs, c, e, (s a _ q n).1, (s a _ q n).2, hn, rpL_step R s ds _ r⟩
  | .tupX ds, v, h => by
    obtain ⟨a, o, vs, e, q, n, r⟩ := h
    exact ⟨a, o, vs, e, (s a _ q (R.frzFree q)).1, n, rpL_step R s ds vs r⟩
  | .obj _, v, h => h
  | .ty _, v, h => h
  | .fn _, v, h => h
  | .hob o, v, h => by
    obtain ⟨a, e, h1, h2⟩ := h
    exact ⟨a, e, s a _ h1 h2⟩
  | .dct ks ds, v, h => by
    obtain ⟨a, kvs, e, h1, h2, hn, r⟩ := h
    exact ⟨a, kvs, e, (s a _ h1 h2).1, (s a _ h1 h2).2, hn, rpL_step R s ds _ r⟩
  | .exc a od ns ds, v, h => by
    obtain ⟨e, h0, h1⟩ := h
    refine ⟨e, h0, fun dx ed => ?_⟩
    obtain ⟨fs, q, n, r⟩ := h1 dx ed
    exact ⟨fs, (s dx _ q n).1, (s dx _ q n).2, r.imp id fun ⟨e1, r1⟩ => ⟨e1, rpL_step R s ds _ r1⟩⟩
theorem rpL_step (R : RelS K H S) (s : Step H S H' S') : ∀ (ds : List D) (vs : List V), RpL K H S ds vs → RpL K H' S' ds vs
  | [], vs, h => h
  | d :: ds, vs, h => by
    obtain ⟨v, r, e, h1, h2⟩ := h
    exact ⟨v, r, e, rp_step R s d v h1, rpL_step R s ds r h2⟩
end

theorem rpL_nil : RpL K H S [] [] := rfl
theorem rpL_cons (h : Rp K H S d v) (r : RpL K H S ds vs) : RpL K H S (d :: ds) (v :: vs) := ⟨v, vs, rfl, h, r⟩
theorem rpL_len : ∀ {ds : List D} {vs : List V}, RpL K H S ds vs → ds.length = vs.length
  | [], vs, h => by
    have e : vs = [] := h
    rw [e]; rfl
  | d :: ds, vs, h => by
    obtain ⟨v, r, e, _, h2⟩ := h
    rw [e, List.length_cons, List.length_cons, rpL_len h2]
theorem rpL_get : ∀ {ds : List D} {vs : List V} {i : Nat} {d : D}, RpL K H S ds vs → ds[i]? = some d → ∃ v, vs[i]? = some v ∧ Rp K H S d v
  | [], _, i, d, _, e => by simp at e
  | d0 :: ds, vs, 0, d, h, e => by
    obtain ⟨v, r, e1, h1, h2⟩ := h
    simp at e
    subst e e1
    exact ⟨v, by simp, h1⟩
  | d0 :: ds, vs, i + 1, d, h, e => by
    obtain ⟨v, r, e1, h1, h2⟩ := h
    subst e1
    obtain ⟨w, q1, q2⟩ := rpL_get (i := i) h2 (by simpa using e)
    exact ⟨w, by simpa using q1, q2⟩
theorem rpL_app : ∀ {ds : List D} {vs : List V}, RpL K H S ds vs → RpL K H S es ws → RpL K H S (ds ++ es) (vs ++ ws)
  | [], vs, h, k => by
    have e : vs = [] := h
    subst e
    exact k
  | d :: ds, vs, h, k => by
    obtain ⟨v, r, e, h1, h2⟩ := h
    subst e
    exact ⟨v, r ++ ws, rfl, h1, rpL_app h2 k⟩
theorem rpL_take : ∀ {ds : List D} {vs : List V} (n : Nat), RpL K H S ds vs → RpL K H S (ds.take n) (vs.take n)
  | [], vs, n, h => by
    have e : vs = [] := h
    subst e
    simp [RpL]
  | d :: ds, vs, 0, h => by simp [RpL]
  | d :: ds, vs, n + 1, h => by
    obtain ⟨v, r, e, h1, h2⟩ := h
    subst e
    exact ⟨v, r.take n, rfl, h1, rpL_take n h2⟩
theorem rpL_drop : ∀ {ds : List D} {vs : List V} (n : Nat), RpL K H S ds vs → RpL K H S (ds.drop n) (vs.drop n)
  | [], vs, n, h => by
    have e : vs = [] := h
    subst e
    simp [RpL]
  | d :: ds, vs, 0, h => h
  | d :: ds, vs, n + 1, h => by
    obtain ⟨v, r, e, h1, h2⟩ := h
    subst e
    exact rpL_drop n h2
theorem rpL_set : ∀ {ds : List D} {vs : List V} (n : Nat), RpL K H S ds vs → Rp K H S d v → RpL K H S (ds.set n d) (vs.set n v)
  | [], vs, n, h, k => by
    have e : vs = [] := h
    subst e
    simp [RpL]
  | d0 :: ds, vs, 0, h, k => by
    obtain ⟨w, r, e, h1, h2⟩ := h
    subst e
    exact ⟨v, r, rfl, k, h2⟩
  | d0 :: ds, vs, n + 1, h, k => by
    obtain ⟨w, r, e, h1, h2⟩ := h
    subst e
    exact ⟨w, r.set n v, rfl, h1, rpL_set n h2 k⟩
theorem soOk_step (R : RelS K H S) (s : Step H S H' S') {o : SO} (h : SoOk K H S a o) (k : ∀ u, H a = some u → H' a = some u) : SoOk K H' S' a o := by
  cases o with
  | lst ds => obtain ⟨vs, e, r⟩ := h; exact ⟨vs, k _ e, rpL_step R s _ _ r⟩
  | ins C ns ds => obtain ⟨C, dx, fs, c, e, n, r⟩ := h; exact ⟨C, dx, fs, c, k _ e, n, rpL_step R s _ _ r⟩
  | tab q =>
    obtain ⟨ps, e, t, c⟩ := h
    refine ⟨ps, k _ e, t, fun pos cv hc => ?_⟩
    obtain ⟨c', e1, e2⟩ := c pos cv hc
    exact ⟨c', e1, (s c' _ e2 (R.codeFree e2)).1⟩

/-- a new object, not owned -/
theorem step_new {o : HO} (h : H p = none) : Step H S (upd H p o) S := fun b u h1 h2 => ⟨by rw [upd_ne (ne_of_none h1 h)]; exact h1, h2⟩
theorem rel_new {o : HO} (R : RelS K H S) (h : H p = none) : RelS K (upd H p o) S := fun b u e =>
  soOk_step R (step_new h) (R b u e) fun w hw => by rw [upd_ne (ne_of_none hw h)]; exact hw
/-- a new object, owned -/
theorem step_own {o : HO} {u : SO} (h : H p = none) : Step H S (upd H p o) (upS S p u) := fun b w h1 h2 => by
  have n := ne_of_none h1 h
  exact ⟨by rw [upd_ne n]; exact h1, by rw [upS_ne n]; exact h2⟩
theorem rel_own {o : HO} {u : SO} (R : RelS K H S) (h : H p = none) (k : SoOk K (upd H p o) (upS S p u) p u) : RelS K (upd H p o) (upS S p u) := fun b w e => by
  by_cases hb : b = p
  · subst hb
    rw [upS_same] at e
    cases e
    exact k
  · rw [upS_ne hb] at e
    exact soOk_step R (step_own h) (R b w e) fun x hx => by rw [upd_ne hb]; exact hx
/-- an owned object is changed -/
theorem step_set {o : HO} {u u0 : SO} (h : S a = some u0) : Step H S (upd H a o) (upS S a u) := fun b w h1 h2 => by
  have n : b ≠ a := fun e => by rw [e, h] at h2; cases h2
  exact ⟨by rw [upd_ne n]; exact h1, by rw [upS_ne n]; exact h2⟩
theorem rel_set {o : HO} {u u0 : SO} (R : RelS K H S) (h : S a = some u0) (k : SoOk K (upd H a o) (upS S a u) a u) : RelS K (upd H a o) (upS S a u) := fun b w e => by
  by_cases hb : b = a
  · subst hb
    rw [upS_same] at e
    cases e
    exact k
  · rw [upS_ne hb] at e
    exact soOk_step R (step_set h) (R b w e) fun x hx => by rw [upd_ne hb]; exact hx
/-- an owned object is let go -/
theorem step_del : Step H S H (del S a) := fun b w h1 h2 => ⟨h1, by
  by_cases e : b = a
  · rw [e]; exact del_same
  · rw [del_ne e]; exact h2⟩
theorem rel_del (R : RelS K H S) : RelS K H (del S a) := fun b w e => by
  by_cases hb : b = a
  · rw [hb, del_same] at e; cases e
  · rw [del_ne hb] at e
    exact soOk_step R step_del (R b w e) fun x hx => hx
theorem rp_frozen (R : RelS K H S) (h : S a = some (.lst ds)) : Rp K H (del S a) (.lst ds) (.ref a) := by
  obtain ⟨vs, e, r⟩ := R a _ h
  exact ⟨a, vs, rfl, .inl ⟨.inl e, del_same⟩, rpL_step R step_del _ _ r⟩
theorem rp_frozenI {C : Str} {ns : List Str} (R : RelS K H S) (h : S a = some (.ins C ns ds)) : Rp K H (del S a) (.inst C ns ds) (.ref a) := by
  obtain ⟨C, dx, fs, c, e, n, r⟩ := R a _ h
  exact ⟨C, a, dx, fs, c, rfl, e, del_same, n, rpL_step R step_del _ _ r⟩
end

/-! ### the state by values -/
abbrev Si := List (Option D)
abbrev DK := D → Sd → Prop
abbrev TED := Si → Sd → DK → Prop
abbrev TTD := Si → Sd → (Bool → Sd → Prop) → Prop
abbrev TAD := Si → Sd → (List D → Sd → Prop) → Prop
structure EndsD where
  nx : Si → Sd → Prop
  rt : DK
  bk : Si → Sd → Prop := fun _ _ => False
  ct : Si → Sd → Prop := fun _ _ => False
abbrev TSD := EndsD → Si → Sd → Prop
/-- an exception by values: its class, its own fields -/
structure Xd where
  cls : Str
  ns : List Str
  xs : List D
abbrev XKD := Xd → Sd → Prop
abbrev WXD := Xd → Si → Sd → Prop

structure Ok (K : PySem.W.Frag) (H : Hp) (S : Sd) (fr : List (V × D)) (σd : Si) (σ : L2.St) : Prop where
  rel : RelS K H S
  fr : ∀ p ∈ fr, Rp K H S p.2 p.1
  len : σd.length = σ.length
  si : ∀ (i : Nat) (d : D), σd[i]? = some (some d) → ∃ v, σ[i]? = some (some v) ∧ Rp K H S d v
/-- the exception's object: its class by the module's name, its own dict bears its fields -/
def RpX (K : PySem.W.Frag) (H : Hp) (S : Sd) (x : Xd) (cls : Value) (od : Option Addr) : Prop :=
  PySem.W.nsIn K mainGlobals x.cls = some (some cls) ∧ (od = none → x.ns = []) ∧ (∀ dx, od = some dx → ∃ fs, H dx = some (.xd fs) ∧ S dx = none ∧ (x.ns = [] ∨ (fs.map Prod.fst = x.ns ∧ RpL K H S x.xs (fs.map Prod.snd))))
/-- what is wished of exceptions: by the heap, by values -/
structure Wi where
  V : L2.WX
  D : WXD
abbrev W0 : Wi := ⟨fun _ _ _ _ => False, fun _ _ _ => False⟩
def Cl (K : PySem.W.Frag) (W : Wi) (fr : List (V × D)) : Prop := ∀ σd σ H S cls od x, Ok K H S fr σd σ → RpX K H S x cls od → W.D x σd S → W.V cls od σ H
theorem Cl.zero {K : PySem.W.Frag} {fr : List (V × D)} : Cl K W0 fr := fun _ _ _ _ _ _ _ _ _ h => h

section
variable {K : PySem.W.Frag} {H H' : Hp} {S S' : Sd} {fr : List (V × D)} {σd : Si} {σ : L2.St} {d : D} {v : V} {W : Wi}
theorem Ok.step (o : Ok K H S fr σd σ) (s : Step H S H' S') (r : RelS K H' S') : Ok K H' S' fr σd σ :=
  ⟨r, fun p hp => rp_step o.rel s _ _ (o.fr p hp), o.len, fun i d e => let ⟨v, h1, h2⟩ := o.si i d e; ⟨v, h1, rp_step o.rel s _ _ h2⟩⟩
theorem Ok.cons (o : Ok K H S fr σd σ) (h : Rp K H S d v) : Ok K H S ((v, d) :: fr) σd σ :=
  ⟨o.rel, fun p hp => by
    rcases List.mem_cons.mp hp with e | hp
    · rw [e]; exact h
    · exact o.fr p hp, o.len, o.si⟩
theorem Ok.tail {q : V × D} (o : Ok K H S (q :: fr) σd σ) : Ok K H S fr σd σ := ⟨o.rel, fun p hp => o.fr p (List.mem_cons_of_mem _ hp), o.len, o.si⟩
theorem Ok.head {q : V × D} (o : Ok K H S (q :: fr) σd σ) : Rp K H S q.2 q.1 := o.fr q List.mem_cons_self
theorem Ok.set (o : Ok K H S fr σd σ) (h : Rp K H S d v) (i : Nat) : Ok K H S fr (σd.set i (some d)) (σ.set i (some v)) := by
  refine ⟨o.rel, o.fr, by rw [List.length_set, List.length_set]; exact o.len, fun j e q => ?_⟩
  by_cases hj : i = j
  · subst hj
    have hl : i < σd.length := by
      rcases Nat.lt_or_ge i σd.length with z | z
      · exact z
      · have w : (σd.set i (some d))[i]? = none := List.getElem?_eq_none (by rw [List.length_set]; exact z)
        rw [w] at q; cases q
    rw [List.getElem?_set_self hl] at q
    cases q
    exact ⟨v, List.getElem?_set_self (by rw [← o.len]; exact hl), h⟩
  · rw [List.getElem?_set_ne hj] at q
    obtain ⟨w, h1, h2⟩ := o.si j e q
    exact ⟨w, by rw [List.getElem?_set_ne hj]; exact h1, h2⟩
theorem Ok.gone (o : Ok K H S fr σd σ) (i : Nat) (w : Option V) : Ok K H S fr (σd.set i none) (σ.set i w) := by
  refine ⟨o.rel, o.fr, by rw [List.length_set, List.length_set]; exact o.len, fun j e q => ?_⟩
  by_cases hj : i = j
  · subst hj
    rcases Nat.lt_or_ge i σd.length with z | z
    · rw [List.getElem?_set_self z] at q; cases q
    · have w : (σd.set i none)[i]? = none := List.getElem?_eq_none (by rw [List.length_set]; exact z)
      rw [w] at q; cases q
  · rw [List.getElem?_set_ne hj] at q
    obtain ⟨w, h1, h2⟩ := o.si j e q
    exact ⟨w, by rw [List.getElem?_set_ne hj]; exact h1, h2⟩
theorem Cl.tail {q : V × D} (c : Cl K W fr) : Cl K W (q :: fr) := fun σd σ H S cls od x o => c σd σ H S cls od x o.tail

/-! ### readings by values, lifted -/
def upE (K : PySem.W.Frag) (W : Wi) (t : TED) : TE := fun σ H Qv => ∃ σd S fr Qd, Ok K H S fr σd σ ∧ Cl K W fr ∧ t σd S Qd ∧ ∀ v d H' S', Ok K H' S' fr σd σ → Rp K H' S' d v → Qd d S' → Qv v H'
def upT (K : PySem.W.Frag) (W : Wi) (t : TTD) : TT := fun σ H Qv => ∃ σd S fr Qd, Ok K H S fr σd σ ∧ Cl K W fr ∧ t σd S Qd ∧ ∀ b H' S', Ok K H' S' fr σd σ → Qd b S' → Qv b H'
def upA (K : PySem.W.Frag) (W : Wi) (t : TAD) : TA := fun σ H Qv => ∃ σd S fr Qd, Ok K H S fr σd σ ∧ Cl K W fr ∧ t σd S Qd ∧ ∀ vs ds H' S', Ok K H' S' fr σd σ → RpL K H' S' ds vs → Qd ds S' → Qv vs H'
structure EndOk (K : PySem.W.Frag) (fr : List (V × D)) (Dd : EndsD) (D : Ends) : Prop where
  nx : ∀ σd σ H S, Ok K H S fr σd σ → Dd.nx σd S → D.nx σ H
  rt : ∀ v d σd σ H S, Ok K H S fr σd σ → Rp K H S d v → Dd.rt d S → D.rt v H
  bk : ∀ σd σ H S, Ok K H S fr σd σ → Dd.bk σd S → D.bk σ H
  ct : ∀ σd σ H S, Ok K H S fr σd σ → Dd.ct σd S → D.ct σ H
def upSt (K : PySem.W.Frag) (W : Wi) (t : TSD) : TS := fun D σ H => ∃ σd S fr Dd, Ok K H S fr σd σ ∧ Cl K W fr ∧ t Dd σd S ∧ EndOk K fr Dd D
end

theorem PE.imp {X : Cx} {e : Expr} {t t' : TE} (h : PE X e t) (k : ∀ σ H Q, t' σ H Q → t σ H Q) : PE X e t' := ⟨fun pins s σ H Q I q => h.run pins s σ H Q I (k _ _ _ q)⟩
theorem PT.imp {X : Cx} {e : Expr} {t t' : TT} (h : PT X e t) (k : ∀ σ H Q, t' σ H Q → t σ H Q) : PT X e t' := ⟨fun pins s σ H Q I q => h.run pins s σ H Q I (k _ _ _ q)⟩
theorem PW.imp {X : Cx} {e : Expr} {t t' : TT} (h : PW X e t) (k : ∀ σ H Q, t' σ H Q → t σ H Q) : PW X e t' := ⟨fun wh pins s σ H Q I q => h.run wh pins s σ H Q I (k _ _ _ q)⟩
theorem PA.imp {X : Cx} {e : List Expr} {t t' : TA} (h : PA X e t) (k : ∀ σ H Q, t' σ H Q → t σ H Q) : PA X e t' := ⟨fun pos pins s σ H Q I q => h.run pos pins s σ H Q I (k _ _ _ q)⟩
theorem PS.imp {X : Cx} {e : Stmt} {t t' : TS} (h : PS X e t) (k : ∀ D σ H, t' D σ H → t D σ H) : PS X e t' := ⟨fun pins s σ H D I q => h.run pins s σ H D I (k _ _ _ q)⟩
theorem PSs.imp {X : Cx} {e : List Stmt} {t t' : TS} (h : PSs X e t) (k : ∀ D σ H, t' D σ H → t D σ H) : PSs X e t' := ⟨fun pins s σ H D I q => h.run pins s σ H D I (k _ _ _ q)⟩

structure DE (X : Cx) (W : Wi) (e : Expr) (t : TED) : Prop where
  p : PE X e (upE X.K W t)
structure DT (X : Cx) (W : Wi) (e : Expr) (t : TTD) : Prop where
  p : PT X e (upT X.K W t)
structure DW (X : Cx) (W : Wi) (e : Expr) (t : TTD) : Prop where
  p : PW X e (upT X.K W t)
structure DA (X : Cx) (W : Wi) (es : List Expr) (t : TAD) : Prop where
  p : PA X es (upA X.K W t)
structure DS (X : Cx) (W : Wi) (s : Stmt) (t : TSD) : Prop where
  p : PS X s (upSt X.K W t)
structure DB (X : Cx) (W : Wi) (s : List Stmt) (t : TSD) : Prop where
  p : PSs X s (upSt X.K W t)
end Dv

/-! Readings by value, 1: expressions, tests, operators, displays, subscripts. -/
namespace Dv
open PySem L2 PyProof.Rows

theorem sl_eq : sizeLine = 16777216 := sizeLine_eq
theorem sz_le {n : Nat} (h : n ≤ 16777216) : n ≤ sizeLine := by rw [sl_eq]; exact h
theorem sz_lt' {n : Nat} (h : n < 16777216) : n < sizeLine := by rw [sl_eq]; exact h

section
variable {X : Cx} {W : Wi} {a b c e : Expr} {ta tb tc : TED} {tA tB : TTD} {pos : Pos} {es : List Expr}

/-! ### names, constants -/
def dVar (i : Nat) : TED := fun σ S Q => match σ[i]? with
  | some (some d) => Q d S
  | _ => False
theorem dVar_of {i : Nat} {σ : Si} {S : Sd} {Q : DK} {d : D} (h : σ[i]? = some (some d)) : dVar i σ S Q = Q d S := by unfold dVar; rw [h]
theorem dVar_inv {i : Nat} {σ : Si} {S : Sd} {Q : DK} (h : dVar i σ S Q) : ∃ d, σ[i]? = some (some d) ∧ Q d S := by
  unfold dVar at h
  split at h
  · exact ⟨_, by assumption, h⟩
  · exact h.elim
theorem dv (i : Nat) {x : Str} {pos : Pos} (hN : X.N[i]? = some x := by rfl) (hv : Vis X.env.scope x := by first | exact Or.inl rfl | exact Or.inr (Or.inl rfl) | exact Or.inr (Or.inr rfl)) (hd : (x == ("__debug__" : Str)) = false := by decide)
    (hcd : (x == ("__classdict__" : Str)) = false := by decide) : DE X W (.Name x pos) (dVar i) :=
  ⟨PE.imp (pe_var hN hv hd hcd) fun σ H Q ⟨σd, S, fr, Qd, ok, cl, h, k⟩ => by
    obtain ⟨d, e, q⟩ := dVar_inv h
    obtain ⟨v, e2, r⟩ := ok.si i d e
    exact ⟨v, e2, k v d H S ok r q⟩⟩
def dC (d : D) : TED := fun _ S Q => Q d S
theorem de_c {v : V} {d : D} (h : PE X e (tC v)) (r : ∀ H S, Rp X.K H S d v) : DE X W e (dC d) :=
  ⟨PE.imp h fun σ H Q ⟨σd, S, fr, Qd, ok, cl, q, k⟩ => k v d H S ok (r H S) q⟩
theorem de_int {i j pos} : DE X W (.Constant (.int i) j pos) (dC (.int i)) := de_c pe_int fun _ _ => rfl
theorem de_bl {i j pos} : DE X W (.Constant (.bool i) j pos) (dC (.bl i)) := de_c pe_bl fun _ _ => rfl
theorem de_non {j pos} : DE X W (.Constant .none j pos) (dC .non) := de_c pe_non fun _ _ => rfl
theorem de_str {x j pos} : DE X W (.Constant (.str x) j pos) (dC (.str x)) := de_c pe_str fun _ _ => rfl
/-- a module's constant -/
theorem de_k {x : Str} {v : V} {d : D} {u : Value} {pos : Pos} (hg : Gl X x) (hm : X.mg x = some u) (r : RelV v u) (kr : ∀ H S, Rp X.K H S d v) (hd : (x == ("__debug__" : Str)) = false := by decide) : DE X W (.Name x pos) (dC d) := de_c (pe_glob hg hm r hd) kr
/-- a built-in class as a value -/
theorem de_ty {x : Str} {n : String} {pos : Pos} (hg : Gl X x) (hm : X.mg x = none) (hv : bootBuiltins x = some (.type n)) (hn : x ≠ "__name__" := by decide) (hd : (x == ("__debug__" : Str)) = false := by decide) : DE X W (.Name x pos) (dC (.ty n)) :=
  de_c (pe_bltn (v := .ty n) hg hm hv rfl hn hd) fun _ _ => rfl

/-! ### operators -/
abbrev RD2 := D → D → Sd → DK → Prop
def Lift2 (K : PySem.W.Frag) (r : R2) (rd : RD2) : Prop := ∀ H S fr σd σ x y dx dy Qv Qd, Ok K H S fr σd σ → Rp K H S dx x → Rp K H S dy y → rd dx dy S Qd →
  (∀ v d H' S', Ok K H' S' fr σd σ → Rp K H' S' d v → Qd d S' → Qv v H') → r x y H Qv
def OpD (X : Cx) (f : Value → Value → Sem Value) (rd : RD2) : Prop := ∃ r : R2, OpR X f r ∧ Lift2 X.K r rd
def dOp (rd : RD2) (ta tb : TED) : TED := fun σ S Q => ta σ S fun x S1 => tb σ S1 fun y S2 => rd x y S2 Q
theorem op2_lift {r : R2} {rd : RD2} (l : Lift2 X.K r rd) (σ : L2.St) (H : Hp) (Q : VK) (h : upE X.K W (dOp rd ta tb) σ H Q) : tOp r (upE X.K W ta) (upE X.K W tb) σ H Q := by
  obtain ⟨σd, S, fr, Qd, ok, cl, h, k⟩ := h
  refine ⟨σd, S, fr, _, ok, cl, h, fun x dx H1 S1 ok1 r1 h1 => ?_⟩
  refine ⟨σd, S1, (x, dx) :: fr, _, ok1.cons r1, cl.tail, h1, fun y dy H2 S2 ok2 r2 h2 => ?_⟩
  exact l H2 S2 fr σd σ x y dx dy Q Qd ok2.tail ok2.head r2 h2 k
theorem de_op {op : Operator} {rd : RD2} (ho : OpD X (binaryOp op) rd) (ha : DE X W a ta) (hb : DE X W b tb) : DE X W (.BinOp a op b pos) (dOp rd ta tb) := by
  obtain ⟨r, ho, l⟩ := ho
  exact ⟨PE.imp (pe_op ho ha.p hb.p) (op2_lift l)⟩
theorem de_cmp {op : CmpOp} {rd : RD2} (ho : OpD X (compareOp op) rd) (ha : DE X W a ta) (hb : DE X W b tb) (hm : behindInMarks op b = false) : DE X W (.Compare a [op] [b] pos) (dOp rd ta tb) := by
  obtain ⟨r, ho, l⟩ := ho
  exact ⟨PE.imp (pe_cmpR ho ha.p hb.p hm) (op2_lift l)⟩
/-- a value that is a truth, as a test -/
def dTest (t : TED) : TTD := fun σ S Q => t σ S fun x S1 => match x with
  | .bl k => Q k S1
  | _ => False
theorem test_lift {t : TED} (σ : L2.St) (H : Hp) (Q : Bool → Hp → Prop) (h : upT X.K W (dTest t) σ H Q) : tTest (upE X.K W t) σ H Q := by
  obtain ⟨σd, S, fr, Qd, ok, cl, h, k⟩ := h
  refine ⟨σd, S, fr, _, ok, cl, h, fun x dx H1 S1 ok1 r1 h1 => ?_⟩
  cases dx with
  | bl b => exact ⟨b, r1, k b H1 S1 ok1 h1⟩
  | _ => exact (show False from h1).elim
theorem tTest_mono {t t' : TE} (h : ∀ σ H Q, t' σ H Q → t σ H Q) (σ : L2.St) (H : Hp) (Q : Bool → Hp → Prop) (q : tTest t' σ H Q) : tTest t σ H Q := h σ H _ q
theorem dt_cmp {op : CmpOp} {rd : RD2} (ho : OpD X (compareOp op) rd) (ha : DE X W a ta) (hb : DE X W b tb) (hm : behindInMarks op b = false) : DT X W (.Compare a [op] [b] pos) (dTest (dOp rd ta tb)) := by
  obtain ⟨r, ho, l⟩ := ho
  exact ⟨PT.imp (pt_cmpR ho ha.p hb.p hm) fun σ H Q h => tTest_mono (op2_lift l) σ H Q (test_lift σ H Q h)⟩
/-- an expression whose value is a truth, as a test -/
theorem dt_val {t : TED} (h : DE X W e t) (he : ∀ whole, isTrue e X.env whole = (do let v ← whole; standAt e.pos; holding [v] (truthy v)) := by intro _; rfl) : DT X W e (dTest t) :=
  ⟨PT.imp (pt_val h.p he) fun σ H Q q => test_lift σ H Q q⟩
def dUn (rd : D → Sd → DK → Prop) (ta : TED) : TED := fun σ S Q => ta σ S fun x S1 => rd x S1 Q
def Lift1 (K : PySem.W.Frag) (r : V → Hp → VK → Prop) (rd : D → Sd → DK → Prop) : Prop := ∀ H S fr σd σ x dx Qv Qd, Ok K H S fr σd σ → Rp K H S dx x → rd dx S Qd →
  (∀ v d H' S', Ok K H' S' fr σd σ → Rp K H' S' d v → Qd d S' → Qv v H') → r x H Qv
theorem de_un {op : UnaryOp} {r : V → Hp → VK → Prop} {rd : D → Sd → DK → Prop} (ho : UnR X (unaryOp op) r) (l : Lift1 X.K r rd) (ha : DE X W a ta) : DE X W (.UnaryOp op a pos) (dUn rd ta) :=
  ⟨PE.imp (pe_un ho ha.p) fun σ H Q ⟨σd, S, fr, Qd, ok, cl, h, k⟩ => ⟨σd, S, fr, _, ok, cl, h, fun x dx H1 S1 ok1 r1 h1 => l H1 S1 fr σd σ x dx Q Qd ok1 r1 h1 k⟩⟩
def rdNeg : D → Sd → DK → Prop
  | .int i, S, Q => Q (.int (-i)) S
  | _, _, _ => False
theorem de_neg (ha : DE X W a ta) : DE X W (.UnaryOp .USub a pos) (dUn rdNeg ta) := de_un un_neg (fun H S fr σd σ x dx Qv Qd ok r h k => by
  cases dx with
  | int i => exact ⟨i, r, k _ (.int (-i)) H S ok rfl h⟩
  | _ => exact (show False from h).elim) ha

/-! ### and, or, not -/
def dAndV (ta tb : TED) : TED := fun σ S Q => ta σ S fun x S1 => match x with
  | .bl k => if k = true then tb σ S1 Q else Q (.bl false) S1
  | _ => False
def dOrV (ta tb : TED) : TED := fun σ S Q => ta σ S fun x S1 => match x with
  | .bl k => if k = true then Q (.bl true) S1 else tb σ S1 Q
  | _ => False
def dNotV (ta : TED) : TED := fun σ S Q => ta σ S fun x S1 => match x with
  | .bl k => Q (.bl (!k)) S1
  | _ => False
theorem de_one {op : BoolOp} (h : DE X W a ta) : DE X W (.BoolOp op [a] pos) ta := ⟨pe_one h.p⟩
theorem de_and {rest : List Expr} (ha : DE X W a ta) (hb : DE X W (.BoolOp .And (b :: rest) pos) tb) : DE X W (.BoolOp .And (a :: b :: rest) pos) (dAndV ta tb) :=
  ⟨PE.imp (pe_and ha.p hb.p) fun σ H Q ⟨σd, S, fr, Qd, ok, cl, h, k⟩ => ⟨σd, S, fr, _, ok, cl, h, fun x dx H1 S1 ok1 r1 h1 => by
    cases dx with
    | bl b =>
      refine ⟨b, r1, ?_⟩
      cases b with
      | true => exact (if_pos rfl : _ = _) ▸ ⟨σd, S1, fr, Qd, ok1, cl, (show tb σd S1 Qd from by simpa using h1), k⟩
      | false => exact (show Q (.bl false) H1 from k _ (.bl false) H1 S1 ok1 rfl (by simpa using h1))
    | _ => exact (show False from h1).elim⟩⟩
theorem de_not (ha : DE X W a ta) : DE X W (.UnaryOp .Not a pos) (dNotV ta) :=
  ⟨PE.imp (pe_not ha.p) fun σ H Q ⟨σd, S, fr, Qd, ok, cl, h, k⟩ => ⟨σd, S, fr, _, ok, cl, h, fun x dx H1 S1 ok1 r1 h1 => by
    cases dx with
    | bl b => exact ⟨b, r1, k _ (.bl (!b)) H1 S1 ok1 rfl h1⟩
    | _ => exact (show False from h1).elim⟩⟩
def dAnd (t u : TTD) : TTD := fun σ S Q => t σ S fun k S1 => if k = true then u σ S1 Q else Q false S1
def dOr (t u : TTD) : TTD := fun σ S Q => t σ S fun k S1 => if k = true then Q true S1 else u σ S1 Q
def dNot (t : TTD) : TTD := fun σ S Q => t σ S fun k S1 => Q (!k) S1
theorem DW.pt (h : DW X W e tA) : DT X W e tA := ⟨h.p.pt⟩
theorem dw_and1 (ha : DT X W a tA) : DW X W (.BoolOp .And [a] pos) tA := ⟨pw_and1 ha.p⟩
theorem dw_or1 (ha : DT X W a tA) : DW X W (.BoolOp .Or [a] pos) tA := ⟨pw_or1 ha.p⟩
theorem dw_and {rest : List Expr} (ha : DT X W a tA) (hb : DW X W (.BoolOp .And (b :: rest) pos) tB) : DW X W (.BoolOp .And (a :: b :: rest) pos) (dAnd tA tB) :=
  ⟨PW.imp (pw_and ha.p hb.p) fun σ H Q ⟨σd, S, fr, Qd, ok, cl, h, k⟩ => ⟨σd, S, fr, _, ok, cl, h, fun c H1 S1 ok1 h1 => by
    cases c with
    | true => exact (show upT X.K W tB σ H1 Q from ⟨σd, S1, fr, Qd, ok1, cl, (show tB σd S1 Qd from by simpa using h1), k⟩)
    | false => exact (show Q false H1 from k false H1 S1 ok1 (by simpa using h1))⟩⟩
theorem dw_or {rest : List Expr} (ha : DT X W a tA) (hb : DW X W (.BoolOp .Or (b :: rest) pos) tB) : DW X W (.BoolOp .Or (a :: b :: rest) pos) (dOr tA tB) :=
  ⟨PW.imp (pw_or ha.p hb.p) fun σ H Q ⟨σd, S, fr, Qd, ok, cl, h, k⟩ => ⟨σd, S, fr, _, ok, cl, h, fun c H1 S1 ok1 h1 => by
    cases c with
    | false => exact (show upT X.K W tB σ H1 Q from ⟨σd, S1, fr, Qd, ok1, cl, (show tB σd S1 Qd from by simpa using h1), k⟩)
    | true => exact (show Q true H1 from k true H1 S1 ok1 (by simpa using h1))⟩⟩
theorem dt_not (ha : DT X W a tA) : DT X W (.UnaryOp .Not a pos) (dNot tA) :=
  ⟨PT.imp (pt_not ha.p) fun σ H Q ⟨σd, S, fr, Qd, ok, cl, h, k⟩ => ⟨σd, S, fr, _, ok, cl, h, fun c H1 S1 ok1 h1 => k (!c) H1 S1 ok1 h1⟩⟩
def dIf (t : TTD) (ta tb : TED) : TED := fun σ S Q => t σ S fun k S1 => if k = true then ta σ S1 Q else tb σ S1 Q
/-! ### arguments, displays -/
def dNil : TAD := fun _ S Q => Q [] S
def dCons (ta : TED) (tr : TAD) : TAD := fun σ S Q => ta σ S fun x S1 => tr σ S1 fun xs S2 => Q (x :: xs) S2
theorem da_nil : DA X W [] dNil := ⟨PA.imp pa_nil fun σ H Q ⟨σd, S, fr, Qd, ok, cl, h, k⟩ => k [] [] H S ok rfl h⟩
theorem da_cons {tr : TAD} (ha : DE X W a ta) (hr : DA X W es tr) (hs : starEach (a :: es) X.env = (false, eval a X.env) :: starEach es X.env := by rfl) : DA X W (a :: es) (dCons ta tr) :=
  ⟨PA.imp (pa_cons ha.p hr.p hs) fun σ H Q ⟨σd, S, fr, Qd, ok, cl, h, k⟩ => ⟨σd, S, fr, _, ok, cl, h, fun x dx H1 S1 ok1 r1 h1 =>
    ⟨σd, S1, (x, dx) :: fr, _, ok1.cons r1, cl.tail, h1, fun vs ds H2 S2 ok2 r2 h2 => k (x :: vs) (dx :: ds) H2 S2 ok2.tail (rpL_cons ok2.head r2) h2⟩⟩⟩
def dTup (t : TAD) : TED := fun σ S Q => t σ S fun ds S1 => ds.length ≤ 16777216 ∧ Q (.tup ds) S1
def dLst (t : TAD) : TED := fun σ S Q => t σ S fun ds S1 => ds.length ≤ 16777216 ∧ Q (.lst ds) S1
/-- an owned list -/
def dLstO (t : TAD) : TED := fun σ S Q => t σ S fun ds S1 => ds.length ≤ 16777216 ∧ ∀ p, S1 p = none → Q (.obj p) (upS S1 p (.lst ds))
theorem rp_tupNew {K : PySem.W.Frag} {H : Hp} {S : Sd} {p : Addr} {vs : List V} {ds : List D} (R : RelS K H S) (hp : H p = none) (r : RpL K H S ds vs) : Rp K (upd H p (.tup vs)) S (.tup ds) (.ref p) :=
  ⟨p, vs, rfl, SqT.of upd_same, rpL_step R (step_new hp) _ _ r⟩
theorem rp_lstNew {K : PySem.W.Frag} {H : Hp} {S : Sd} {p : Addr} {vs : List V} {ds : List D} (R : RelS K H S) (hp : H p = none) (r : RpL K H S ds vs) : Rp K (upd H p (.lst vs)) S (.lst ds) (.ref p) :=
  ⟨p, vs, rfl, .inl ⟨.inl upd_same, R.free hp⟩, rpL_step R (step_new hp) _ _ r⟩
theorem Ok.new {K : PySem.W.Frag} {H : Hp} {S : Sd} {fr : List (V × D)} {σd : Si} {σ : L2.St} {p : Addr} {o : HO} (ok : Ok K H S fr σd σ) (hp : H p = none) : Ok K (upd H p o) S fr σd σ := ok.step (step_new hp) (rel_new ok.rel hp)
theorem soOk_new {K : PySem.W.Frag} {H : Hp} {S : Sd} {p : Addr} {vs : List V} {ds : List D} (R : RelS K H S) (hp : H p = none) (r : RpL K H S ds vs) : SoOk K (upd H p (.lst vs)) (upS S p (.lst ds)) p (.lst ds) :=
  ⟨vs, upd_same, rpL_step R (step_own hp) _ _ r⟩
theorem Ok.own {K : PySem.W.Frag} {H : Hp} {S : Sd} {fr : List (V × D)} {σd : Si} {σ : L2.St} {p : Addr} {vs : List V} {ds : List D} (ok : Ok K H S fr σd σ) (hp : H p = none) (r : RpL K H S ds vs) :
    Ok K (upd H p (.lst vs)) (upS S p (.lst ds)) fr σd σ := ok.step (step_own hp) (rel_own ok.rel hp (soOk_new ok.rel hp r))
theorem de_tup {x1 : Nat} {t : TAD} (h : DA X W es t) : DE X W (.Tuple es x1 pos) (dTup t) :=
  ⟨PE.imp (pe_tup h.p) fun σ H Q ⟨σd, S, fr, Qd, ok, cl, h, k⟩ => ⟨σd, S, fr, _, ok, cl, h, fun vs ds H1 S1 ok1 r1 h1 => ⟨sz_le (by rw [← rpL_len r1]; exact h1.1), fun p hp =>
    k (.ref p) (.tup ds) _ S1 (ok1.new hp) (rp_tupNew ok1.rel hp r1) h1.2⟩⟩⟩
theorem de_lst {t : TAD} (h : DA X W es t) : DE X W (.List es pos) (dLst t) :=
  ⟨PE.imp (pe_lst h.p) fun σ H Q ⟨σd, S, fr, Qd, ok, cl, h, k⟩ => ⟨σd, S, fr, _, ok, cl, h, fun vs ds H1 S1 ok1 r1 h1 => ⟨sz_le (by rw [← rpL_len r1]; exact h1.1), fun p hp =>
    k (.ref p) (.lst ds) _ S1 (ok1.new hp) (rp_lstNew ok1.rel hp r1) h1.2⟩⟩⟩
theorem de_lstO {t : TAD} (h : DA X W es t) : DE X W (.List es pos) (dLstO t) :=
  ⟨PE.imp (pe_lst h.p) fun σ H Q ⟨σd, S, fr, Qd, ok, cl, h, k⟩ => ⟨σd, S, fr, _, ok, cl, h, fun vs ds H1 S1 ok1 r1 h1 => ⟨sz_le (by rw [← rpL_len r1]; exact h1.1), fun p hp =>
    k (.ref p) (.obj p) _ (upS S1 p (.lst ds)) (ok1.own hp r1) rfl (h1.2 p (ok1.rel.free hp))⟩⟩⟩
end

/-! ### the arithmetic operators -/
/-- the items of a sequence -/
def itemsD (S : Sd) : D → Option (List D)
  | .tup ds => some ds
  | .lst ds => some ds
  | .obj a => match S a with
    | some (.lst ds) => some ds
    | _ => none
  | _ => none
section
variable {K : PySem.W.Frag} {H : Hp} {S : Sd} {fr : List (V × D)} {σd : Si} {σ : L2.St} {d : D} {v : V} {ds : List D}
/-- a list's items by the heap -/
theorem rp_list (R : RelS K H S) (h : Rp K H S (.lst ds) v) : ∃ a vs, v = .ref a ∧ SqL K H a vs ∧ RpL K H S ds vs := by
  obtain ⟨a, vs, e, q, r⟩ := h
  refine ⟨a, vs, e, ?_, r⟩
  rcases q with ⟨q, _⟩ | q
  · exact .inl q
  · exact .inr q
theorem rp_obj (R : RelS K H S) {a : Addr} (e : S a = some (.lst ds)) : ∃ vs, H a = some (.lst vs) ∧ RpL K H S ds vs := R a _ e
theorem rp_items (R : RelS K H S) (h : Rp K H S d v) (e : itemsD S d = some ds) : ∃ a vs, v = .ref a ∧ (SqL K H a vs ∨ SqT K H a vs) ∧ RpL K H S ds vs := by
  cases d with
  | tup xs =>
    cases e
    obtain ⟨a, vs, e, q, r⟩ := h
    exact ⟨a, vs, e, .inr q, r⟩
  | lst xs =>
    cases e
    obtain ⟨a, vs, e, q, r⟩ := rp_list R h
    exact ⟨a, vs, e, .inl q, r⟩
  | obj a =>
    have e' : (match S a with | some (.lst ds) => some ds | _ => none) = some ds := e
    split at e'
    · rename_i xs q
      cases e'
      obtain ⟨vs, q1, q2⟩ := rp_obj R q
      exact ⟨a, vs, h, .inl (.inl (.inl q1)), q2⟩
    · cases e'
  | _ => cases e
end

/-- the items of a list -/
def lstD (S : Sd) : D → Option (List D)
  | .lst ds => some ds
  | .obj a => match S a with
    | some (.lst ds) => some ds
    | _ => none
  | _ => none
theorem rp_lstD {K : PySem.W.Frag} {H : Hp} {S : Sd} {d : D} {v : V} {ds : List D} (R : RelS K H S) (h : Rp K H S d v) (e : lstD S d = some ds) : ∃ a vs, v = .ref a ∧ SqL K H a vs ∧ RpL K H S ds vs := by
  cases d with
  | lst xs =>
    cases e
    exact rp_list R h
  | obj a =>
    have e' : (match S a with | some (.lst ds) => some ds | _ => none) = some ds := e
    split at e'
    · rename_i xs q
      cases e'
      obtain ⟨vs, q1, q2⟩ := rp_obj R q
      exact ⟨a, vs, h, .inl (.inl q1), q2⟩
    · cases e'
  | _ => cases e
def catD (Q : DK) (S : Sd) : Option (List D) → Option (List D) → Prop
  | some a, some b => a.length + b.length ≤ 16777216 ∧ Q (.lst (a ++ b)) S
  | _, _ => False
theorem catD_inv {Q : DK} {S : Sd} : ∀ {o u : Option (List D)}, catD Q S o u → ∃ a b, o = some a ∧ u = some b ∧ a.length + b.length ≤ 16777216 ∧ Q (.lst (a ++ b)) S
  | some a, some b, h => ⟨a, b, rfl, rfl, h.1, h.2⟩
  | none, _, h => h.elim
  | some _, none, h => h.elim
def rdAdd : RD2 := fun x y S Q => match x, y with
  | .int i, .int j => Q (.int (i + j)) S
  | .int i, .bl k => Q (.int (i + b2i k)) S
  | .str x, .str y => x.length + y.length ≤ 16777216 ∧ Q (.str (x ++ y)) S
  | .tup x, .tup y => x.length + y.length ≤ 16777216 ∧ Q (.tup (x ++ y)) S
  | x, y => catD Q S (lstD S x) (lstD S y)
def rdSub : RD2
  | .int i, .int j, S, Q => Q (.int (i - j)) S
  | _, _, _, _ => False
def rdFdiv : RD2
  | .int i, .int j, S, Q => (j ≠ 0 ∧ j.natAbs.log2 < 9000) ∧ Q (.int (i.fdiv j)) S
  | _, _, _, _ => False
def rdMod : RD2
  | .int i, .int j, S, Q => j ≠ 0 ∧ Q (.int (i.fmod j)) S
  | _, _, _, _ => False
def rdPow : RD2
  | .int i, .int j, S, Q => (0 ≤ j ∧ ((i.natAbs.log2 : Int) + 1) * j ≤ 134217728) ∧ Q (.int (i ^ j.toNat)) S
  | _, _, _, _ => False
def rdShl : RD2
  | .int i, .int j, S, Q => (0 ≤ j ∧ j ≤ 1000000 ∧ i.natAbs < 2 ^ 64) ∧ Q (.int (i * 2 ^ j.toNat)) S
  | _, _, _, _ => False
section
variable {X : Cx}
theorem od_sub : OpD X (binaryOp .Sub) rdSub := ⟨_, op_sub, fun H S fr σd σ x y dx dy Qv Qd ok rx ry h k => by
  cases dx with
  | int i =>
    cases dy with
    | int j => exact ⟨i, j, rx, ry, k _ (.int (i - j)) H S ok rfl h⟩
    | _ => exact (show False from h).elim
  | _ => cases dy <;> exact (show False from h).elim⟩
theorem od_fdiv : OpD X (binaryOp .FloorDiv) rdFdiv := ⟨rI (fun _ j => j ≠ 0 ∧ j.natAbs.log2 < 9000) fun i j => .int (i.fdiv j), opI (fun i j t u s Q E hc q => floordiv_int hc.1 q (.inl (PyProof.noPylong_of_log2 hc.2))), fun H S fr σd σ x y dx dy Qv Qd ok rx ry h k => by
  cases dx with
  | int i =>
    cases dy with
    | int j => exact ⟨i, j, rx, ry, h.1, k _ (.int (i.fdiv j)) H S ok rfl h.2⟩
    | _ => exact (show False from h).elim
  | _ => cases dy <;> exact (show False from h).elim⟩
theorem od_mod : OpD X (binaryOp .Mod) rdMod := ⟨_, op_modN, fun H S fr σd σ x y dx dy Qv Qd ok rx ry h k => by
  cases dx with
  | int i =>
    cases dy with
    | int j => exact ⟨i, j, rx, ry, h.1, k _ (.int (i.fmod j)) H S ok rfl h.2⟩
    | _ => exact (show False from h).elim
  | _ => cases dy <;> exact (show False from h).elim⟩
theorem bits_le (x : Int) : Builtin.Int.intBits x ≤ x.natAbs.log2 + 1 := by
  unfold Builtin.Int.intBits
  split <;> omega
theorem od_pow : OpD X (binaryOp .Pow) rdPow := ⟨rI (fun i j => 0 ≤ j ∧ ((i.natAbs.log2 : Int) + 1) * j ≤ 134217728) fun i j => .int (i ^ j.toNat), opI (fun i j t u s Q E hc q => pow_int hc.1 (by
    have h1 := bits_le i
    have h2 : (Builtin.Int.intBits i : Int) * j ≤ ((i.natAbs.log2 : Int) + 1) * j := Int.mul_le_mul_of_nonneg_right (by omega) hc.1
    have h3 := hc.2
    have h4 : (2 : Int) ^ 27 = 134217728 := by decide
    omega) q), fun H S fr σd σ x y dx dy Qv Qd ok rx ry h k => by
  cases dx with
  | int i =>
    cases dy with
    | int j => exact ⟨i, j, rx, ry, h.1, k _ (.int (i ^ j.toNat)) H S ok rfl h.2⟩
    | _ => exact (show False from h).elim
  | _ => cases dy <;> exact (show False from h).elim⟩
theorem od_shl : OpD X (binaryOp .LShift) rdShl := ⟨_, op_shl, fun H S fr σd σ x y dx dy Qv Qd ok rx ry h k => by
  cases dx with
  | int i =>
    cases dy with
    | int j => exact ⟨i, j, rx, ry, h.1, k _ (.int (i * 2 ^ j.toNat)) H S ok rfl h.2⟩
    | _ => exact (show False from h).elim
  | _ => cases dy <;> exact (show False from h).elim⟩
/-- two lists, tracked or not -/
def rCatL (K : PySem.W.Frag) : R2 := fun x y H Q => ∃ l b xs zs, x = .ref l ∧ y = .ref b ∧ SqL K H l xs ∧ SqL K H b zs ∧ xs.length + zs.length ≤ sizeLine ∧ ∀ p, H p = none → Q (.ref p) (upd H p (.lst (xs ++ zs)))
theorem op_catL : OpR X (binaryOp .Add) (rCatL X.K) := by
  intro pins s σ H x y v u Q I rx ry h
  obtain ⟨l, b, xs, zs, rfl, rfl, hH, hB, hz, q⟩ := h
  cases rx
  cases ry
  obtain ⟨its, r, ⟨o1, n1, e1, c1, d1, f1⟩, z1⟩ := I.list hH
  obtain ⟨its2, r2, ⟨o2, n2, e2, c2, d2, f2⟩, z2⟩ := I.list hB
  obtain ⟨cls, dd, data, sl⟩ := o1
  obtain ⟨cls2, dd2, data2, sl2⟩ := o2
  simp only at c1 d1 f1 c2 d2 f2
  subst c1 d1 f1 c2 d2 f2
  have ea : its.toArray ++ its2.toArray = (its ++ its2).toArray := by simp
  have l1 := r.length
  have l2 := r2.length
  refine concat_meets ⟨_, e1, rfl⟩ ⟨_, e2, rfl⟩ noFill_list_add seq_list_add PySem.F.slot_list_add PySem.F.entry_list_add (PySem.F.args_list_add_2 _ _) (list_addW l b its.toArray its2.toArray n1 n2 none none sl sl2 (by simp only [List.size_toArray]; omega)) ⟨e1, e2, ?_⟩
  rw [ea]
  exact ⟨.ref _, _, I.lnew (t' := s.toks) (r.append r2) (by rw [List.length_append]; omega), rfl, q _ I.fresh⟩
theorem od_add : OpD X (binaryOp .Add) rdAdd := by
  refine ⟨_, (op_add (X := X)).or (op_add_ib.or (op_add_str.or (op_catA.or op_catL))), fun H S fr σd σ x y dx dy Qv Qd ok rx ry h k => ?_⟩
  have lists : catD Qd S (lstD S dx) (lstD S dy) → rCatL X.K x y H Qv := fun q => by
    obtain ⟨a, b, h1, h2, h3⟩ := catD_inv q
    obtain ⟨p, vs, e1, q1, r1⟩ := rp_lstD ok.rel rx h1
    obtain ⟨q, ws, e2, q2, r2⟩ := rp_lstD ok.rel ry h2
    exact ⟨p, q, vs, ws, e1, e2, q1, q2, by rw [← rpL_len r1, ← rpL_len r2, sl_eq]; exact h3.1, fun l hl => k _ (.lst (a ++ b)) _ S (ok.new hl) (rp_lstNew ok.rel hl (rpL_app r1 r2)) h3.2⟩
  cases dx with
  | int i =>
    cases dy with
    | int j => exact .inl ⟨i, j, rx, ry, k _ (.int (i + j)) H S ok rfl h⟩
    | bl j => exact .inr (.inl ⟨i, j, rx, ry, k _ (.int (i + b2i j)) H S ok rfl h⟩)
    | _ => exact (show False from h).elim
  | str i =>
    cases dy with
    | str j => exact .inr (.inr (.inl ⟨i, j, rx, ry, by rw [sl_eq]; exact h.1, k _ (.str (i ++ j)) H S ok rfl h.2⟩))
    | _ => exact (show False from h).elim
  | tup xs =>
    cases dy with
    | tup ys =>
      obtain ⟨p, vs, e1, q1, r1⟩ := rx
      obtain ⟨q, ws, e2, q2, r2⟩ := ry
      have h' : xs.length + ys.length ≤ 16777216 ∧ Qd (.tup (xs ++ ys)) S := h
      refine .inr (.inr (.inr (.inl ⟨p, q, vs, ws, e1, e2, q1, q2, by rw [← rpL_len r1, ← rpL_len r2, sl_eq]; exact h'.1, fun e => ?_, fun _ e => ?_, fun _ _ l hl => ?_⟩)))
      · subst e
        have e3 : xs = [] := List.length_eq_zero_iff.mp (rpL_len r1)
        subst e3
        exact k _ (.tup ys) H S ok ⟨q, ws, rfl, q2, r2⟩ h'.2
      · subst e
        have e3 : ys = [] := List.length_eq_zero_iff.mp (rpL_len r2)
        subst e3
        have q := h'.2
        rw [List.append_nil] at q
        exact k _ (.tup xs) H S ok ⟨p, vs, rfl, q1, r1⟩ q
      · exact k _ (.tup (xs ++ ys)) _ S (ok.new hl) (rp_tupNew ok.rel hl (rpL_app r1 r2)) h'.2
    | _ => exact (show False from h).elim
  | lst xs => exact .inr (.inr (.inr (.inr (lists (by cases dy <;> exact h)))))
  | obj p => exact .inr (.inr (.inr (.inr (lists (by cases dy <;> exact h)))))
  | non => exact (by cases dy <;> exact h : False).elim
  | bl b => exact (by cases dy <;> exact h : False).elim
  | tupX ds => exact (by cases dy <;> exact h : False).elim
  | inst C ns ds => exact (by cases dy <;> exact h : False).elim
  | ty n => exact (by cases dy <;> exact h : False).elim
  | exc a od ns xs => exact (by cases dy <;> exact h : False).elim
  | fn x => exact (by cases dy <;> exact h : False).elim
  | hob x => exact (by cases dy <;> exact h : False).elim
  | dct ks xs => exact (by cases dy <;> exact h : False).elim
end
end Dv

/-! Readings by value, 2: equality, order, chains, in, subscripts, slices, calls, built-ins. -/
namespace Dv
open PySem L2 PyProof.Rows

/-! ### plain data -/
mutual
def isData : D → Bool
  | .non => true | .bl _ => true | .int _ => true | .str _ => true
  | .tup ds => isDataL ds
  | .lst ds => isDataL ds
  | _ => false
def isDataL : List D → Bool
  | [] => true
  | d :: ds => isData d && isDataL ds
end
mutual
def pd : D → PyData
  | .bl b => .bool b | .int i => .int i | .str x => .str x
  | .tup ds => .tuple (pdL ds)
  | .lst ds => .list (pdL ds)
  | _ => .none
def pdL : List D → List PyData
  | [] => []
  | d :: ds => pd d :: pdL ds
end
mutual
/-- == of data -/
def deq : D → D → Bool
  | .non, .non => true
  | .bl a, .bl b => a == b
  | .bl a, .int j => (if a then 1 else 0) == j
  | .int i, .bl b => i == (if b then 1 else 0)
  | .int i, .int j => i == j
  | .str x, .str y => x == y
  | .tup xs, .tup ys => deqL xs ys
  | .lst xs, .lst ys => deqL xs ys
  | _, _ => false
def deqL : List D → List D → Bool
  | [], [] => true
  | x :: xs, y :: ys => deq x y && deqL xs ys
  | _, _ => false
end
mutual
theorem eqv_pd : ∀ (x y : D), isData x = true → isData y = true → PyData.eqv (pd x) (pd y) = deq x y
  | .tup xs, y, hx, hy => by
    cases y with
    | tup ys =>
      have h1 : isDataL xs = true := hx
      have h2 : isDataL ys = true := hy
      show PyData.eqvAll (pdL xs) (pdL ys) = deqL xs ys
      exact eqv_pdL xs ys h1 h2
    | tupX _ => exact absurd (show false = true from hy) Bool.false_ne_true
    | inst _ _ _ => exact absurd (show false = true from hy) Bool.false_ne_true
    | obj _ => exact absurd (show false = true from hy) Bool.false_ne_true
    | ty _ => exact absurd (show false = true from hy) Bool.false_ne_true
    | exc _ _ _ _ => exact absurd (show false = true from hy) Bool.false_ne_true
    | fn _ => exact absurd (show false = true from hy) Bool.false_ne_true
    | hob _ => exact absurd (show false = true from hy) Bool.false_ne_true
    | dct _ _ => exact absurd (show false = true from hy) Bool.false_ne_true
    | _ => rfl
  | .lst xs, y, hx, hy => by
    cases y with
    | lst ys =>
      have h1 : isDataL xs = true := hx
      have h2 : isDataL ys = true := hy
      show PyData.eqvAll (pdL xs) (pdL ys) = deqL xs ys
      exact eqv_pdL xs ys h1 h2
    | tupX _ => exact absurd (show false = true from hy) Bool.false_ne_true
    | inst _ _ _ => exact absurd (show false = true from hy) Bool.false_ne_true
    | obj _ => exact absurd (show false = true from hy) Bool.false_ne_true
    | ty _ => exact absurd (show false = true from hy) Bool.false_ne_true
    | exc _ _ _ _ => exact absurd (show false = true from hy) Bool.false_ne_true
    | fn _ => exact absurd (show false = true from hy) Bool.false_ne_true
    | hob _ => exact absurd (show false = true from hy) Bool.false_ne_true
    | dct _ _ => exact absurd (show false = true from hy) Bool.false_ne_true
    | _ => rfl
  | .non, y, hx, hy => by
    cases y with
    | tupX _ => exact absurd (show false = true from hy) Bool.false_ne_true
    | inst _ _ _ => exact absurd (show false = true from hy) Bool.false_ne_true
    | obj _ => exact absurd (show false = true from hy) Bool.false_ne_true
    | ty _ => exact absurd (show false = true from hy) Bool.false_ne_true
    | exc _ _ _ _ => exact absurd (show false = true from hy) Bool.false_ne_true
    | fn _ => exact absurd (show false = true from hy) Bool.false_ne_true
    | hob _ => exact absurd (show false = true from hy) Bool.false_ne_true
    | dct _ _ => exact absurd (show false = true from hy) Bool.false_ne_true
    | _ => rfl
  | .bl _, y, hx, hy => by
    cases y with
    | tupX _ => exact absurd (show false = true from hy) Bool.false_ne_true
    | inst _ _ _ => exact absurd (show false = true from hy) Bool.false_ne_true
    | obj _ => exact absurd (show false = true from hy) Bool.false_ne_true
    | ty _ => exact absurd (show false = true from hy) Bool.false_ne_true
    | exc _ _ _ _ => exact absurd (show false = true from hy) Bool.false_ne_true
    | fn _ => exact absurd (show false = true from hy) Bool.false_ne_true
    | hob _ => exact absurd (show false = true from hy) Bool.false_ne_true
    | dct _ _ => exact absurd (show false = true from hy) Bool.false_ne_true
    | _ => rfl
  | .int _, y, hx, hy => by
    cases y with
    | tupX _ => exact absurd (show false = true from hy) Bool.false_ne_true
    | inst _ _ _ => exact absurd (show false = true from hy) Bool.false_ne_true
    | obj _ => exact absurd (show false = true from hy) Bool.false_ne_true
    | ty _ => exact absurd (show false = true from hy) Bool.false_ne_true
    | exc _ _ _ _ => exact absurd (show false = true from hy) Bool.false_ne_true
    | fn _ => exact absurd (show false = true from hy) Bool.false_ne_true
    | hob _ => exact absurd (show false = true from hy) Bool.false_ne_true
    | dct _ _ => exact absurd (show false = true from hy) Bool.false_ne_true
    | _ => rfl
  | .str _, y, hx, hy => by
    cases y with
    | tupX _ => exact absurd (show false = true from hy) Bool.false_ne_true
    | inst _ _ _ => exact absurd (show false = true from hy) Bool.false_ne_true
    | obj _ => exact absurd (show false = true from hy) Bool.false_ne_true
    | ty _ => exact absurd (show false = true from hy) Bool.false_ne_true
    | exc _ _ _ _ => exact absurd (show false = true from hy) Bool.false_ne_true
    | fn _ => exact absurd (show false = true from hy) Bool.false_ne_true
    | hob _ => exact absurd (show false = true from hy) Bool.false_ne_true
    | dct _ _ => exact absurd (show false = true from hy) Bool.false_ne_true
    | _ => rfl
  | .tupX _, y, hx, hy => absurd (show false = true from hx) Bool.false_ne_true
  | .inst _ _ _, y, hx, hy => absurd (show false = true from hx) Bool.false_ne_true
  | .obj _, y, hx, hy => absurd (show false = true from hx) Bool.false_ne_true
  | .ty _, y, hx, hy => absurd (show false = true from hx) Bool.false_ne_true
  | .exc _ _ _ _, y, hx, hy => absurd (show false = true from hx) Bool.false_ne_true
theorem eqv_pdL : ∀ (xs ys : List D), isDataL xs = true → isDataL ys = true → PyData.eqvAll (pdL xs) (pdL ys) = deqL xs ys
  | [], [], _, _ => rfl
  | [], y :: ys, _, _ => rfl
  | x :: xs, [], _, _ => rfl
  | x :: xs, y :: ys, hx, hy => by
    have h1 := Bool.and_eq_true_iff.mp (show (isData x && isDataL xs) = true from hx)
    have h2 := Bool.and_eq_true_iff.mp (show (isData y && isDataL ys) = true from hy)
    show (PyData.eqv (pd x) (pd y) && PyData.eqvAll (pdL xs) (pdL ys)) = (deq x y && deqL xs ys)
    rw [eqv_pd x y h1.1 h2.1, eqv_pdL xs ys h1.2 h2.2]
end
section
variable {K : PySem.W.Frag} {H : Hp} {S : Sd}
mutual
theorem dp_of (R : RelS K H S) : ∀ (d : D) (v : V), isData d = true → Rp K H S d v → Dp K H v (pd d)
  | .non, v, _, h => by
    have e : v = .non := h
    subst e; exact .non
  | .bl b, v, _, h => by
    have e : v = .bl b := h
    subst e; exact .bl b
  | .int i, v, _, h => by
    have e : v = .int i := h
    subst e; exact .int i
  | .str x, v, _, h => by
    have e : v = .str x := h
    subst e; exact .str x
  | .tup ds, v, k, h => by
    obtain ⟨a, vs, e, q, r⟩ := h
    subst e
    exact .tup q (dp_ofL R ds vs k r)
  | .lst ds, v, k, h => by
    obtain ⟨a, vs, e, q, r⟩ := rp_list R h
    subst e
    exact .lst q (dp_ofL R ds vs k r)
  | .tupX _, v, k, _ => absurd (show false = true from k) Bool.false_ne_true
  | .inst _ _ _, v, k, _ => absurd (show false = true from k) Bool.false_ne_true
  | .obj _, v, k, _ => absurd (show false = true from k) Bool.false_ne_true
  | .ty _, v, k, _ => absurd (show false = true from k) Bool.false_ne_true
  | .exc _ _ _ _, v, k, _ => absurd (show false = true from k) Bool.false_ne_true
theorem dp_ofL (R : RelS K H S) : ∀ (ds : List D) (vs : List V), isDataL ds = true → RpL K H S ds vs → DpAll K H vs (pdL ds)
  | [], vs, _, h => by
    have e : vs = [] := h
    subst e; exact .nil
  | d :: ds, vs, k, h => by
    obtain ⟨v, r, e, h1, h2⟩ := h
    subst e
    have k' := Bool.and_eq_true_iff.mp (show (isData d && isDataL ds) = true from k)
    exact .cons (dp_of R d v k'.1 h1) (dp_ofL R ds r k'.2 h2)
end
end
/-- what == may be asked of -/
def eqOk (d : D) : Bool := isData d && SeqAt.shaped (pd d)
def rdEq : RD2 := fun x y S Q => match x, y with
  | .int i, .int j => Q (.bl (decide (i = j))) S
  | .str i, .str j => Q (.bl (decide (i = j))) S
  | .bl i, .bl j => Q (.bl (decide (i = j))) S
  | x, y => (eqOk x = true ∧ eqOk y = true) ∧ Q (.bl (deq x y)) S
def rdNe : RD2 := fun x y S Q => match x, y with
  | .int i, .int j => Q (.bl (!decide (i = j))) S
  | .str i, .str j => Q (.bl (!decide (i = j))) S
  | .bl i, .bl j => Q (.bl (!decide (i = j))) S
  | x, y => (eqOk x = true ∧ eqOk y = true) ∧ Q (.bl (!deq x y)) S
def rdLt : RD2
  | .int i, .int j, S, Q => Q (.bl (decide (i < j))) S
  | _, _, _, _ => False
def rdLe : RD2
  | .int i, .int j, S, Q => Q (.bl (decide (i ≤ j))) S
  | _, _, _, _ => False
def rdGt : RD2
  | .int i, .int j, S, Q => Q (.bl (decide (j < i))) S
  | _, _, _, _ => False
def rdGe : RD2
  | .int i, .int j, S, Q => Q (.bl (decide (j ≤ i))) S
  | _, _, _, _ => False
def rdIsN : RD2
  | x, .non, S, Q => Q (.bl (match x with | .non => true | _ => false)) S
  | _, _, _, _ => False
def rdNotN : RD2
  | x, .non, S, Q => Q (.bl (match x with | .non => false | _ => true)) S
  | _, _, _, _ => False
theorem rp_non {K : PySem.W.Frag} {H : Hp} {S : Sd} {d : D} {v : V} (h : Rp K H S d v) : decide (v = .non) = (match d with | .non => true | _ => false) := by
  cases d with
  | non => have e : v = .non := h; subst e; rfl
  | bl b => have e : v = .bl b := h; subst e; rfl
  | int b => have e : v = .int b := h; subst e; rfl
  | str b => have e : v = .str b := h; subst e; rfl
  | tup ds => obtain ⟨a, vs, e, _⟩ := h; subst e; rfl
  | lst ds => obtain ⟨a, vs, e, _⟩ := h; subst e; rfl
  | tupX ds => obtain ⟨a, o, vs, e, _⟩ := h; subst e; rfl
  | inst C ns ds => obtain ⟨C2, a, dx, fs, c, e, _⟩ := h; subst e; rfl
  | obj a => have e : v = .ref a := h; subst e; rfl
  | ty n => have e : v = .ty n := h; subst e; rfl
  | exc a od ns xs => obtain ⟨e, _⟩ := h; subst e; rfl
  | fn x => obtain ⟨f, e, _⟩ := h; subst e; rfl
  | hob x => obtain ⟨f, e, _⟩ := h; subst e; rfl
  | dct ks xs => obtain ⟨f, g, e, _⟩ := h; subst e; rfl
section
variable {X : Cx}
theorem ordI {f : Value → Value → Sem Value} {g : Int → Int → Bool} {rd : RD2} (ho : OpR X f (rI0 fun i j => .bl (g i j))) (h : ∀ x y S Q, rd x y S Q → ∃ i j, x = .int i ∧ y = .int j ∧ Q (.bl (g i j)) S) : OpD X f rd :=
  ⟨_, ho, fun H S fr σd σ x y dx dy Qv Qd ok rx ry q k => by
    obtain ⟨i, j, rfl, rfl, q'⟩ := h dx dy S Qd q
    exact ⟨i, j, rx, ry, k _ (.bl (g i j)) H S ok rfl q'⟩⟩
theorem od_lt : OpD X (compareOp .Lt) rdLt := ordI op_lt fun x y S Q h => by
  cases x with
  | int i => cases y with
    | int j => exact ⟨i, j, rfl, rfl, h⟩
    | _ => exact (show False from h).elim
  | _ => cases y <;> exact (show False from h).elim
theorem od_le : OpD X (compareOp .LtE) rdLe := ordI op_le fun x y S Q h => by
  cases x with
  | int i => cases y with
    | int j => exact ⟨i, j, rfl, rfl, h⟩
    | _ => exact (show False from h).elim
  | _ => cases y <;> exact (show False from h).elim
theorem od_gt : OpD X (compareOp .Gt) rdGt := ordI op_gt fun x y S Q h => by
  cases x with
  | int i => cases y with
    | int j => exact ⟨i, j, rfl, rfl, h⟩
    | _ => exact (show False from h).elim
  | _ => cases y <;> exact (show False from h).elim
theorem od_ge : OpD X (compareOp .GtE) rdGe := ordI op_ge fun x y S Q h => by
  cases x with
  | int i => cases y with
    | int j => exact ⟨i, j, rfl, rfl, h⟩
    | _ => exact (show False from h).elim
  | _ => cases y <;> exact (show False from h).elim
theorem eq_lift {K : PySem.W.Frag} : Lift2 K (fun x y H Q => rEq x y H Q ∨ rEqD K x y H Q) rdEq := fun H S fr σd σ x y dx dy Qv Qd ok rx ry h k => by
  have gen : (eqOk dx = true ∧ eqOk dy = true) ∧ Qd (.bl (deq dx dy)) S → rEqD K x y H Qv := fun ⟨⟨h1, h2⟩, q⟩ => by
    have a1 := Bool.and_eq_true_iff.mp h1
    have a2 := Bool.and_eq_true_iff.mp h2
    refine ⟨pd dx, pd dy, dp_of ok.rel dx x a1.1 rx, dp_of ok.rel dy y a2.1 ry, a1.2, a2.2, ?_⟩
    rw [eqv_pd dx dy a1.1 a2.1]
    exact k _ (.bl (deq dx dy)) H S ok rfl q
  cases dx with
  | int i => cases dy with
    | int j =>
      have e1 : x = .int i := rx
      have e2 : y = .int j := ry
      subst e1 e2
      refine .inl ⟨rfl, ?_⟩
      refine k _ (.bl (decide (i = j))) H S ok ?_ h
      show V.bl _ = V.bl _
      congr 1
      simp
    | _ => exact .inr (gen h)
  | str i => cases dy with
    | str j =>
      have e1 : x = .str i := rx
      have e2 : y = .str j := ry
      subst e1 e2
      refine .inl ⟨rfl, ?_⟩
      refine k _ (.bl (decide (i = j))) H S ok ?_ h
      show V.bl _ = V.bl _
      congr 1
      simp
    | _ => exact .inr (gen h)
  | bl i => cases dy with
    | bl j =>
      have e1 : x = .bl i := rx
      have e2 : y = .bl j := ry
      subst e1 e2
      refine .inl ⟨rfl, ?_⟩
      refine k _ (.bl (decide (i = j))) H S ok ?_ h
      show V.bl _ = V.bl _
      congr 1
      simp
    | _ => exact .inr (gen h)
  | _ => exact .inr (gen (by cases dy <;> exact h))
theorem ne_lift {K : PySem.W.Frag} : Lift2 K (fun x y H Q => rNe x y H Q ∨ rNeD K x y H Q) rdNe := fun H S fr σd σ x y dx dy Qv Qd ok rx ry h k => by
  have gen : (eqOk dx = true ∧ eqOk dy = true) ∧ Qd (.bl (!deq dx dy)) S → rNeD K x y H Qv := fun ⟨⟨h1, h2⟩, q⟩ => by
    have a1 := Bool.and_eq_true_iff.mp h1
    have a2 := Bool.and_eq_true_iff.mp h2
    refine ⟨pd dx, pd dy, dp_of ok.rel dx x a1.1 rx, dp_of ok.rel dy y a2.1 ry, a1.2, a2.2, ?_⟩
    rw [eqv_pd dx dy a1.1 a2.1]
    exact k _ (.bl (!deq dx dy)) H S ok rfl q
  cases dx with
  | int i => cases dy with
    | int j =>
      have e1 : x = .int i := rx
      have e2 : y = .int j := ry
      subst e1 e2
      refine .inl ⟨rfl, ?_⟩
      refine k _ (.bl (!decide (i = j))) H S ok ?_ h
      show V.bl _ = V.bl _
      congr 1
      simp
    | _ => exact .inr (gen h)
  | str i => cases dy with
    | str j =>
      have e1 : x = .str i := rx
      have e2 : y = .str j := ry
      subst e1 e2
      refine .inl ⟨rfl, ?_⟩
      refine k _ (.bl (!decide (i = j))) H S ok ?_ h
      show V.bl _ = V.bl _
      congr 1
      simp
    | _ => exact .inr (gen h)
  | bl i => cases dy with
    | bl j =>
      have e1 : x = .bl i := rx
      have e2 : y = .bl j := ry
      subst e1 e2
      refine .inl ⟨rfl, ?_⟩
      refine k _ (.bl (!decide (i = j))) H S ok ?_ h
      show V.bl _ = V.bl _
      congr 1
      simp
    | _ => exact .inr (gen h)
  | _ => exact .inr (gen (by cases dy <;> exact h))
theorem od_eq (hu : X.A.units + 64 < cLine) : OpD X (compareOp .Eq) rdEq := ⟨_, op_eq.or (op_eqD hu), eq_lift⟩
theorem od_ne (hu : X.A.units + 64 < cLine) : OpD X (compareOp .NotEq) rdNe := ⟨_, op_ne.or (op_neD hu), ne_lift⟩
theorem od_isN : OpD X (compareOp .Is) rdIsN := ⟨_, op_isN, fun H S fr σd σ x y dx dy Qv Qd ok rx ry h k => by
  cases dy with
  | non =>
    refine ⟨ry, ?_⟩
    rw [rp_non rx]
    cases dx <;> exact k _ (.bl _) H S ok rfl h
  | _ => cases dx <;> exact (show False from h).elim⟩
end

/-! ### chains of comparisons -/
section
variable {X : Cx} {W : Wi} {a b c d e : Expr} {ta tb tc td : TED} {pos : Pos}
def dChain (r r' : RD2) (ta tb tc : TED) : TED := fun σ S Q => ta σ S fun x S1 => tb σ S1 fun y S2 => r x y S2 fun z S3 => match z with
  | .bl k => if k = true then tc σ S3 fun w S4 => r' y w S4 Q else Q (.bl false) S3
  | _ => False
theorem chain_lift {r r' : R2} {rd rd' : RD2} (l : Lift2 X.K r rd) (l' : Lift2 X.K r' rd') (σ : L2.St) (H : Hp) (Q : VK) (h : upE X.K W (dChain rd rd' ta tb tc) σ H Q) : tChain r r' (upE X.K W ta) (upE X.K W tb) (upE X.K W tc) σ H Q := by
  obtain ⟨σd, S, fr, Qd, ok, cl, h, k⟩ := h
  refine ⟨σd, S, fr, _, ok, cl, h, fun x dx H1 S1 ok1 r1 h1 => ?_⟩
  refine ⟨σd, S1, (x, dx) :: fr, _, ok1.cons r1, cl.tail, h1, fun y dy H2 S2 ok2 r2 h2 => ?_⟩
  refine l H2 S2 ((y, dy) :: fr) σd σ x y dx dy _ _ (ok2.tail.cons r2) ok2.head r2 h2 fun z dz H3 S3 ok3 r3 h3 => ?_
  cases dz with
  | bl k0 =>
    refine ⟨k0, r3, ?_⟩
    cases k0 with
    | true =>
      exact (show upE X.K W tc σ H3 (fun w' H4 => r' y w' H4 Q) from ⟨σd, S3, (y, dy) :: fr, _, ok3, cl.tail, (show tc σd S3 _ from by simpa using h3), fun w dw H4 S4 ok4 r4 h4 =>
        l' H4 S4 fr σd σ y w dy dw Q Qd ok4.tail ok4.head r4 h4 k⟩)
    | false => exact (show Q (.bl false) H3 from k _ (.bl false) H3 S3 ok3.tail rfl (by simpa using h3))
  | _ => exact (show False from h3).elim
theorem de_chain {op op' : CmpOp} {rd rd' : RD2} (ho : OpD X (compareOp op) rd) (ho' : OpD X (compareOp op') rd') (ha : DE X W a ta) (hb : DE X W b tb) (hc : DE X W c tc)
    (hm : lastMarks [op, op'] [b, c] = false := by with_unfolding_all rfl) : DE X W (.Compare a [op, op'] [b, c] pos) (dChain rd rd' ta tb tc) := by
  obtain ⟨r, ho, l⟩ := ho
  obtain ⟨r', ho', l'⟩ := ho'
  exact ⟨PE.imp (pe_chain ho ho' ha.p hb.p hc.p hm) (chain_lift l l')⟩
theorem dt_chain {op op' : CmpOp} {rd rd' : RD2} (ho : OpD X (compareOp op) rd) (ho' : OpD X (compareOp op') rd') (ha : DE X W a ta) (hb : DE X W b tb) (hc : DE X W c tc)
    (hm : lastMarks [op, op'] [b, c] = false := by with_unfolding_all rfl) : DT X W (.Compare a [op, op'] [b, c] pos) (dTest (dChain rd rd' ta tb tc)) := by
  obtain ⟨r, ho, l⟩ := ho
  obtain ⟨r', ho', l'⟩ := ho'
  exact ⟨PT.imp (pt_chain ho ho' ha.p hb.p hc.p hm) fun σ H Q h => tTest_mono (chain_lift l l') σ H Q (test_lift σ H Q h)⟩
def dChain3 (r r' r2 : RD2) (ta tb tc td : TED) : TED := fun σ S Q => ta σ S fun x S1 => tb σ S1 fun y S2 => r x y S2 fun z S3 => match z with
  | .bl k => if k = true then tc σ S3 fun w S4 => r' y w S4 fun z2 S5 => match z2 with
      | .bl k2 => if k2 = true then td σ S5 fun w2 S6 => r2 w w2 S6 Q else Q (.bl false) S5
      | _ => False
    else Q (.bl false) S3
  | _ => False
end

/-! ### subscripts, slices -/
def ixQ (S : Sd) (Q : DK) : Option D → Prop
  | some d => Q d S
  | none => False
def ixS (S : Sd) (Q : DK) : Option Nat → Prop
  | some c => Q (.str ⟨#[c]⟩) S
  | none => False
def rdIx : RD2
  | .tup ds, .int i, S, Q => ixQ S Q (atI ds i)
  | .lst ds, .int i, S, Q => ixQ S Q (atI ds i)
  | .obj a, .int i, S, Q => match S a with
    | some (.lst ds) => ixQ S Q (atI ds i)
    | _ => False
  | .str z, .int i, S, Q => z.length ≤ 16777216 ∧ ixS S Q (atI z.cps.toList i)
  | _, _, _, _ => False
theorem ixQ_inv {S : Sd} {Q : DK} {o : Option D} (h : ixQ S Q o) : ∃ d, o = some d ∧ Q d S := by
  cases o with
  | none => exact h.elim
  | some d => exact ⟨d, rfl, h⟩
theorem atI_rp {K : PySem.W.Frag} {H : Hp} {S : Sd} {ds : List D} {vs : List V} {i : Int} {d : D} (r : RpL K H S ds vs) (h : atI ds i = some d) : ∃ v, atI vs i = some v ∧ Rp K H S d v := by
  unfold atI at h ⊢
  rw [← rpL_len r]
  cases e : ixN ds.length i with
  | none => rw [e] at h; cases h
  | some j =>
    rw [e] at h
    exact rpL_get r h
section
variable {X : Cx} {W : Wi} {a b e : Expr} {ta tb te : TED} {pos p2 : Pos}
theorem ix_lift {K : PySem.W.Frag} : Lift2 K (rIx K) rdIx := fun H S fr σd σ x y dx dy Qv Qd ok rx ry h k => by
  cases dy with
  | int i =>
    cases dx with
    | tup ds =>
      obtain ⟨d, e, q⟩ := ixQ_inv h
      obtain ⟨p, vs, e1, q1, r1⟩ := rx
      obtain ⟨v, e2, r2⟩ := atI_rp r1 e
      exact .inr (.inl ⟨p, vs, i, v, e1, ry, q1, e2, k v d H S ok r2 q⟩)
    | lst ds =>
      obtain ⟨d, e, q⟩ := ixQ_inv h
      obtain ⟨p, vs, e1, q1, r1⟩ := rp_list ok.rel rx
      obtain ⟨v, e2, r2⟩ := atI_rp r1 e
      exact .inl ⟨p, vs, i, v, e1, ry, q1, e2, k v d H S ok r2 q⟩
    | obj p =>
      have h' : (match S p with | some (.lst ds) => ixQ S Qd (atI ds i) | _ => False) := h
      split at h'
      · rename_i ds q0
        obtain ⟨d, e, q⟩ := ixQ_inv h'
        obtain ⟨vs, q1, r1⟩ := rp_obj ok.rel q0
        obtain ⟨v, e2, r2⟩ := atI_rp r1 e
        exact .inl ⟨p, vs, i, v, rx, ry, SqL.of q1, e2, k v d H S ok r2 q⟩
      · exact h'.elim
    | str z =>
      have h' : z.length ≤ 16777216 ∧ ixS S Qd (atI z.cps.toList i) := h
      cases e : atI z.cps.toList i with
      | none => rw [e] at h'; exact h'.2.elim
      | some c =>
        rw [e] at h'
        exact .inr (.inr ⟨z, i, c, rx, ry, sz_le h'.1, e, k _ (.str ⟨#[c]⟩) H S ok rfl h'.2⟩)
    | _ => exact (show False from h).elim
  | _ => cases dx <;> exact (show False from h).elim
theorem de_ix (ha : DE X W a ta) (hb : DE X W b tb) (hs : PlainIx b) : DE X W (.Subscript a b pos) (dOp rdIx ta tb) := ⟨PE.imp (pe_ix ix_seq ha.p hb.p hs) (op2_lift ix_lift)⟩
abbrev TOD := Si → Sd → (Option Int → Sd → Prop) → Prop
def upO (K : PySem.W.Frag) (W : Wi) (t : TOD) : TO := fun σ H Qv => ∃ σd S fr Qd, Ok K H S fr σd σ ∧ Cl K W fr ∧ t σd S Qd ∧ ∀ o H' S', Ok K H' S' fr σd σ → Qd o S' → Qv o H'
structure DO (X : Cx) (W : Wi) (e : Option Expr) (t : TOD) : Prop where
  p : PO X e (upO X.K W t)
def dNoPart : TOD := fun _ S Q => Q none S
def dPart (t : TED) : TOD := fun σ S Q => t σ S fun x S1 => match x with
  | .int i => Q (some i) S1
  | _ => False
theorem PO.imp {e : Option Expr} {t t' : TO} (h : PO X e t) (k : ∀ σ H Q, t' σ H Q → t σ H Q) : PO X e t' := ⟨fun pins s σ H Q I q => h.run pins s σ H Q I (k _ _ _ q)⟩
theorem do_none : DO X W none dNoPart := ⟨PO.imp po_none fun σ H Q ⟨σd, S, fr, Qd, ok, cl, h, k⟩ => k none H S ok h⟩
theorem do_some (h : DE X W e te) : DO X W (some e) (dPart te) := ⟨PO.imp (po_some h.p) fun σ H Q ⟨σd, S, fr, Qd, ok, cl, h, k⟩ => ⟨σd, S, fr, _, ok, cl, h, fun x dx H1 S1 ok1 r1 h1 => by
  cases dx with
  | int i => exact ⟨i, r1, k (some i) H1 S1 ok1 h1⟩
  | _ => exact (show False from h1).elim⟩⟩
def cutD (xs : List D) (lo hi : Option Int) : List D := (xs.drop (HT.sIx xs.length 0 lo)).take (HT.sIx xs.length xs.length hi - HT.sIx xs.length 0 lo)
def rdSl : D → Option Int → Option Int → Sd → DK → Prop
  | .tup ds, lo, hi, S, Q => Q (.tup (cutD ds lo hi)) S
  | .lst ds, lo, hi, S, Q => Q (.lst (cutD ds lo hi)) S
  | .obj a, lo, hi, S, Q => match S a with
    | some (.lst ds) => Q (.lst (cutD ds lo hi)) S
    | _ => False
  | .str z, lo, hi, S, Q => z.length ≤ 16777216 ∧ Q (.str (cutS z lo hi)) S
  | _, _, _, _, _ => False
def dSl (te : TED) (tl th : TOD) : TED := fun σ S Q => te σ S fun x S1 => tl σ S1 fun l S2 => th σ S2 fun u S3 => rdSl x l u S3 Q
theorem cut_rp {K : PySem.W.Frag} {H : Hp} {S : Sd} {ds : List D} {vs : List V} {lo hi : Option Int} (r : RpL K H S ds vs) : RpL K H S (cutD ds lo hi) (cutV vs lo hi) := by
  unfold cutD cutV
  rw [← rpL_len r]
  exact rpL_take _ (rpL_drop _ r)
theorem de_slice {lo hi : Option Expr} {tl th : TOD} (he : DE X W e te) (hl : DO X W lo tl) (hu : DO X W hi th) : DE X W (.Subscript e (.Slice lo hi none p2) pos) (dSl te tl th) :=
  ⟨PE.imp (pe_slice (sl_list.or (sl_tupA.or sl_str)) he.p hl.p hu.p) fun σ H Q ⟨σd, S, fr, Qd, ok, cl, h, k⟩ => ⟨σd, S, fr, _, ok, cl, h, fun x dx H1 S1 ok1 r1 h1 =>
    ⟨σd, S1, (x, dx) :: fr, _, ok1.cons r1, cl.tail, h1, fun l H2 S2 ok2 h2 => ⟨σd, S2, (x, dx) :: fr, _, ok2, cl.tail, h2, fun u H3 S3 ok3 h3 => by
      have rx := ok3.head
      have ok4 := ok3.tail
      cases dx with
      | lst ds =>
        obtain ⟨p, vs, e1, q1, r1⟩ := rp_list ok4.rel rx
        exact .inl ⟨p, vs, e1, q1, fun p hp => k _ (.lst (cutD ds l u)) _ S3 (ok4.new hp) (rp_lstNew ok4.rel hp (cut_rp r1)) h3⟩
      | obj p =>
        have h' : (match S3 p with | some (.lst ds) => Qd (.lst (cutD ds l u)) S3 | _ => False) := h3
        split at h'
        · rename_i ds q0
          obtain ⟨vs, q1, r1⟩ := rp_obj ok4.rel q0
          exact .inl ⟨p, vs, rx, SqL.of q1, fun p hp => k _ (.lst (cutD ds l u)) _ S3 (ok4.new hp) (rp_lstNew ok4.rel hp (cut_rp r1)) h'⟩
        · exact h'.elim
      | tup ds =>
        obtain ⟨p, vs, e1, q1, r1⟩ := rx
        refine .inr (.inl ⟨p, vs, e1, q1, fun hw => ?_, fun _ p hp => k _ (.tup (cutD ds l u)) _ S3 (ok4.new hp) (rp_tupNew ok4.rel hp (cut_rp r1)) h3⟩)
        have e2 : cutD ds l u = ds := by
          unfold cutD
          rw [rpL_len r1, hw.1, hw.2, List.drop_zero, Nat.sub_zero, ← rpL_len r1, List.take_length]
        have h' : Qd (.tup (cutD ds l u)) S3 := h3
        rw [e2] at h'
        exact k _ (.tup ds) H3 S3 ok4 ⟨p, vs, rfl, q1, r1⟩ h'
      | str z =>
        have h' : z.length ≤ 16777216 ∧ Qd (.str (cutS z l u)) S3 := h3
        exact .inr (.inr ⟨z, rx, sz_le h'.1, k _ (.str (cutS z l u)) H3 S3 ok4 rfl h'.2⟩)
      | _ => exact (show False from h3).elim⟩⟩⟩⟩
end
end Dv

/-! Readings by value, 3: calls, built-ins, statements, loops, comprehensions, defs. -/
namespace Dv
open PySem L2 PyProof.Rows

/-! ### the promise of a def, lifted -/
abbrev SpD := List D → Sd → DK → XKD → Prop
def FrOk (K : PySem.W.Frag) (H : Hp) (S : Sd) (fr : List (V × D)) : Prop := ∀ p ∈ fr, Rp K H S p.2 p.1
def upF (K : PySem.W.Frag) (sp : SpD) : Sp := fun vs H Qv E => ∃ ds S fr Qd Ed, RelS K H S ∧ FrOk K H S fr ∧ RpL K H S ds vs ∧ sp ds S Qd Ed ∧
  (∀ v d H' S', RelS K H' S' → FrOk K H' S' fr → Rp K H' S' d v → Qd d S' → Qv v H') ∧
  ∀ cls od x H' S', RelS K H' S' → FrOk K H' S' fr → RpX K H' S' x cls od → Ed x S' → E cls od H'
/-- the known slots, as pairs -/
def prs (σd : Si) (σ : L2.St) : List (V × D) := (σ.zip σd).filterMap fun p => match p with
  | (some v, some d) => some (v, d)
  | _ => none
theorem prs_mem {σd : Si} {σ : L2.St} {i : Nat} {v : V} {d : D} (h1 : σ[i]? = some (some v)) (h2 : σd[i]? = some (some d)) : (v, d) ∈ prs σd σ := by
  unfold prs
  refine List.mem_filterMap.mpr ⟨(some v, some d), ?_, rfl⟩
  refine List.mem_iff_getElem?.mpr ⟨i, ?_⟩
  rw [List.getElem?_zip_eq_some]
  exact ⟨h1, h2⟩
theorem prs_of {σd : Si} {σ : L2.St} {p : V × D} (h : p ∈ prs σd σ) : ∃ i : Nat, σ[i]? = some (some p.1) ∧ σd[i]? = some (some p.2) := by
  unfold prs at h
  obtain ⟨q, hq, e⟩ := List.mem_filterMap.mp h
  obtain ⟨i, hi⟩ := List.mem_iff_getElem?.mp hq
  rw [List.getElem?_zip_eq_some] at hi
  obtain ⟨q1, q2⟩ := q
  cases q1 with
  | none => cases e
  | some v => cases q2 with
    | none => cases e
    | some d =>
      cases e
      exact ⟨i, hi.1, hi.2⟩
section
variable {K : PySem.W.Frag} {H : Hp} {S : Sd} {fr : List (V × D)} {σd : Si} {σ : L2.St}
theorem Ok.out (ok : Ok K H S fr σd σ) : FrOk K H S (fr ++ prs σd σ) := fun p hp => by
  rcases List.mem_append.mp hp with h | h
  · exact ok.fr p h
  · obtain ⟨i, h1, h2⟩ := prs_of h
    obtain ⟨v, h3, r⟩ := ok.si i _ h2
    rw [h1] at h3
    cases h3
    exact r
theorem Ok.back {H' : Hp} {S' : Sd} (ok : Ok K H S fr σd σ) (R : RelS K H' S') (f : FrOk K H' S' (fr ++ prs σd σ)) : Ok K H' S' fr σd σ :=
  ⟨R, fun p hp => f p (List.mem_append_left _ hp), ok.len, fun i d e => by
    obtain ⟨v, h1, _⟩ := ok.si i d e
    exact ⟨v, h1, f (v, d) (List.mem_append_right _ (prs_mem h1 e))⟩⟩
end

section
variable {X : Cx} {W : Wi} {k : Nat} {f : Addr} {fd : FuncData} {ps : List Str} {sp : SpD} {ds : List Value} {dvs : List V} {dds : List D} {x : Str} {p pos : Pos} {e : Expr} {es : List Expr} {t : TAD}
def dCall (sp : SpD) (dds : List D) (WD : WXD) (t : TAD) : TED := fun σ S Q => t σ S fun xs S1 => sp (xs ++ dds) S1 Q fun y S2 => WD y σ S2
theorem call_lift (hdd : ∀ H S, RpL X.K H S dds dvs) (σ : L2.St) (H : Hp) (Q : VK) (h : upE X.K W (dCall sp dds W.D t) σ H Q) : tCallSD (upF X.K sp) dvs (WE W.V) (upA X.K W t) σ H Q := by
  obtain ⟨σd, S, fr, Qd, ok, cl, h, k⟩ := h
  refine ⟨σd, S, fr, _, ok, cl, h, fun vs ds H1 S1 ok1 r1 h1 => ?_⟩
  refine ⟨ds ++ dds, S1, fr ++ prs σd σ, Qd, _, ok1.rel, ok1.out, rpL_app r1 (hdd H1 S1), h1, fun v d H2 S2 R2 f2 r2 q2 => ?_, fun cls od x H2 S2 R2 f2 rx q2 => ?_⟩
  · exact k v d H2 S2 (ok1.back R2 f2) r2 q2
  · exact cl σd σ H2 S2 cls od x (ok1.back R2 f2) rx q2
theorem de_call (F : Hx.FnG X.prog X.w X.K X.mg X.base (L2N.CX X.prog X.w) k f fd ps (upF X.K sp)) (hr : Hx.RoomG k X.A) (hg : Gl X x) (hm : X.mg x = some (.ref f)) (hk : PySem.W.keepIn X.K (.ref f) = true) (hb : Binds X.K fd ps ds) (hd : Vals dvs ds)
    (hdd : ∀ H S, RpL X.K H S dds dvs) (tk : L2N.Takes X W.V) (ha : DA X W (e :: es) t) (hdb : (x == ("__debug__" : Str)) = false := by decide) (he : starEach (e :: es) X.env = (false, eval e X.env) :: starEach es X.env := by rfl)
    (hpl : (backTo pos (starEach es X.env)).any (·.1) = false := by rfl) : DE X W (.Call (.Name x p) (e :: es) [] pos) (dCall sp dds W.D t) :=
  ⟨PE.imp (Hx.pe_callG F hr hg hm hk hb hd (fun σ => L2N.passAt tk σ) ha.p hdb he hpl) (call_lift hdd)⟩

/-! ### built-ins -/
abbrev RDC := List D → Sd → DK → Prop
def LiftC (K : PySem.W.Frag) (r : List V → Hp → VK → Prop) (rd : RDC) : Prop := ∀ H S fr σd σ xs ds Qv Qd, Ok K H S fr σd σ → RpL K H S ds xs → rd ds S Qd →
  (∀ v d H' S', Ok K H' S' fr σd σ → Rp K H' S' d v → Qd d S' → Qv v H') → r xs H Qv
def CallD (X : Cx) (f : Value) (rd : RDC) : Prop := ∃ r, CallR X f r ∧ LiftC X.K r rd
def dCB (rd : RDC) (t : TAD) : TED := fun σ S Q => t σ S fun xs S1 => rd xs S1 Q
theorem cb_lift {r : List V → Hp → VK → Prop} {rd : RDC} (l : LiftC X.K r rd) (σ : L2.St) (H : Hp) (Q : VK) (h : upE X.K W (dCB rd t) σ H Q) : tCB r (upA X.K W t) σ H Q := by
  obtain ⟨σd, S, fr, Qd, ok, cl, h, k⟩ := h
  exact ⟨σd, S, fr, _, ok, cl, h, fun vs ds H1 S1 ok1 r1 h1 => l H1 S1 fr σd σ vs ds Q Qd ok1 r1 h1 k⟩
theorem de_callB {id : String} {rd : RDC} (hc : CallD X (.builtin id) rd) (hg : Gl X x) (hm : X.mg x = none) (hv : bootBuiltins x = some (.builtin id)) (ha : DA X W (e :: es) t) (hn : x ≠ "__name__" := by decide) (hdb : (x == ("__debug__" : Str)) = false := by decide)
    (he : starEach (e :: es) X.env = (false, eval e X.env) :: starEach es X.env := by rfl) (hpl : (backTo pos (starEach es X.env)).any (·.1) = false := by rfl) : DE X W (.Call (.Name x p) (e :: es) [] pos) (dCB rd t) := by
  obtain ⟨r, hc, l⟩ := hc
  exact ⟨PE.imp (pe_callB hc hg hm hv ha.p hn hdb he hpl) (cb_lift l)⟩
theorem de_callTy {T : String} {rd : RDC} (hc : CallD X (.type T) rd) (hg : Gl X x) (hm : X.mg x = none) (hv : bootBuiltins x = some (.type T)) (ha : DA X W (e :: es) t) (hn : x ≠ "__name__" := by decide) (hdb : (x == ("__debug__" : Str)) = false := by decide)
    (he : starEach (e :: es) X.env = (false, eval e X.env) :: starEach es X.env := by rfl) (hpl : (backTo pos (starEach es X.env)).any (·.1) = false := by rfl) : DE X W (.Call (.Name x p) (e :: es) [] pos) (dCB rd t) := by
  obtain ⟨r, hc, l⟩ := hc
  exact ⟨PE.imp (pe_callTy hc hg hm hv ha.p hn hdb he hpl) (cb_lift l)⟩
end
section
variable {K : PySem.W.Frag} {H : Hp} {S : Sd}
theorem rpL1 {d : D} {vs : List V} (h : RpL K H S [d] vs) : ∃ v, vs = [v] ∧ Rp K H S d v := by
  obtain ⟨v, r, e, h1, h2⟩ := h
  have e2 : r = [] := h2
  subst e2
  exact ⟨v, e, h1⟩
theorem rpL2 {c d : D} {vs : List V} (h : RpL K H S [c, d] vs) : ∃ v w, vs = [v, w] ∧ Rp K H S c v ∧ Rp K H S d w := by
  obtain ⟨v, r, e, h1, h2⟩ := h
  obtain ⟨w, e2, h3⟩ := rpL1 h2
  subst e2
  exact ⟨v, w, e, h1, h3⟩
theorem rpL_of_ints {ns : List Int} : RpL K H S (ns.map D.int) (ns.map V.int) := by
  induction ns with
  | nil => exact rfl
  | cons n r ih => exact ⟨_, _, rfl, rfl, ih⟩
theorem rpL_bls {ns : List Bool} : ∀ {vs : List V}, RpL K H S (ns.map D.bl) vs → vs = ns.map V.bl := by
  induction ns with
  | nil => intro vs h; exact h
  | cons n r ih =>
    intro vs h
    obtain ⟨v, s, e, h1, h2⟩ := h
    have e1 : v = .bl n := h1
    rw [e, e1, ih h2]
    rfl
theorem rpL_strs {ns : List Str} : ∀ {vs : List V}, RpL K H S (ns.map D.str) vs → vs = ns.map V.str := by
  induction ns with
  | nil => intro vs h; exact h
  | cons n r ih =>
    intro vs h
    obtain ⟨v, s, e, h1, h2⟩ := h
    have e1 : v = .str n := h1
    rw [e, e1, ih h2]
    rfl
end
def rdLen : RDC
  | [.str z], S, Q => z.length ≤ 16777216 ∧ Q (.int z.length) S
  | [d], S, Q => match itemsD S d with
    | some ds => Q (.int ds.length) S
    | none => False
  | _, _, _ => False
def rdAbs : RDC
  | [.int i], S, Q => Q (.int (if i < 0 then -i else i)) S
  | _, _, _ => False
def rdMax2 : RDC
  | [.int i, .int j], S, Q => Q (.int (if j > i then j else i)) S
  | _, _, _ => False
def rdMin2 : RDC
  | [.int i, .int j], S, Q => Q (.int (if j < i then j else i)) S
  | _, _, _ => False
def rdInt : RDC
  | [.int i], S, Q => Q (.int i) S
  | [.bl b], S, Q => Q (.int (if b then 1 else 0)) S
  | _, _, _ => False
def rdAll : RDC
  | [d], S, Q => ∃ bs : List Bool, lstD S d = some (bs.map D.bl) ∧ Q (.bl (bs.all id)) S
  | _, _, _ => False
def rdTupC : RDC
  | [d], S, Q => match itemsD S d with
    | some ds => Q (.tup ds) S
    | none => False
  | _, _, _ => False
def rdListC : RDC
  | [d], S, Q => match itemsD S d with
    | some ds => Q (.lst ds) S
    | none => False
  | _, _, _ => False
/-- a value's built-in type -/
def tyD : D → Option String
  | .non => some "NoneType" | .bl _ => some "bool" | .int _ => some "int" | .str _ => some "str" | .tup _ => some "tuple" | .lst _ => some "list" | _ => none
def isiD (d : D) (n : String) : Option Bool := match tyD d with
  | some t => kitB t n
  | none => none
def rdIsi : RDC
  | [d, .ty n], S, Q => match isiD d n with
    | some b => Q (.bl b) S
    | none => False
  | _, _, _ => False
section
variable {X : Cx}
theorem cd_len : CallD X (.builtin "len") rdLen := ⟨_, call_len, fun H S fr σd σ xs ds Qv Qd ok r h k => by
  match ds, r, h with
  | [d], r, h =>
    obtain ⟨v, rfl, r0⟩ := rpL1 r
    have r := r0
    have gen : (match itemsD S d with | some ds => Qd (.int ds.length) S | none => False) → ∃ x n, [v] = [x] ∧ LenV X.K x H n ∧ Qv (.int n) H := fun h => by
      cases e : itemsD S d with
      | none => rw [e] at h; exact h.elim
      | some ds =>
        rw [e] at h
        obtain ⟨a, vs, rfl, q, r2⟩ := rp_items ok.rel r e
        refine ⟨_, vs.length, rfl, ?_, k _ (.int ds.length) H S ok (by rw [rpL_len r2]; rfl) h⟩
        rcases q with q | q
        · exact .inl ⟨vs, q, rfl⟩
        · exact .inr ⟨vs, q, rfl⟩
    cases d with
    | str z =>
      have e : v = .str z := r
      subst e
      have h' : z.length ≤ 16777216 ∧ Qd (.int z.length) S := h
      exact ⟨_, z.length, rfl, ⟨sz_le h'.1, rfl⟩, k _ (.int z.length) H S ok rfl h'.2⟩
    | _ => exact gen h
  | [], _, h => exact (show False from h).elim
  | a :: _ :: _, _, h => exact (by cases a <;> exact h : False).elim⟩
theorem int1_lift {K : PySem.W.Frag} {g : Int → D} {gv : Int → V} {rd : RDC} (hg : ∀ i H S, Rp K H S (g i) (gv i)) (h1 : ∀ ds S Q, rd ds S Q → ∃ i, ds = [.int i] ∧ Q (g i) S) :
    LiftC K (fun xs H Q => ∃ i, xs = [.int i] ∧ Q (gv i) H) rd := fun H S fr σd σ xs ds Qv Qd ok r h k => by
  obtain ⟨i, rfl, q⟩ := h1 ds S Qd h
  obtain ⟨v, rfl, r0⟩ := rpL1 r
  have r := r0
  have e : v = .int i := r
  subst e
  exact ⟨i, rfl, k _ (g i) H S ok (hg i H S) q⟩
theorem inv_abs {ds : List D} {S : Sd} {Q : DK} (h : rdAbs ds S Q) : ∃ i, ds = [.int i] ∧ Q (.int (if i < 0 then -i else i)) S := by
  cases ds with
  | nil => exact h.elim
  | cons d t => cases t with
    | nil => cases d <;> first | exact ⟨_, rfl, h⟩ | exact (show False from h).elim
    | cons e r => cases d <;> exact (show False from h).elim
theorem inv_int {ds : List D} {S : Sd} {Q : DK} (h : rdInt ds S Q) : (∃ i, ds = [.int i] ∧ Q (.int i) S) ∨ ∃ b, ds = [.bl b] ∧ Q (.int (if b then 1 else 0)) S := by
  cases ds with
  | nil => exact h.elim
  | cons d t => cases t with
    | nil => cases d <;> first | exact .inl ⟨_, rfl, h⟩ | exact .inr ⟨_, rfl, h⟩ | exact (show False from h).elim
    | cons e r => cases d <;> exact (show False from h).elim
theorem inv_max2 {ds : List D} {S : Sd} {Q : DK} (h : rdMax2 ds S Q) : ∃ i j, ds = [.int i, .int j] ∧ Q (.int (if j > i then j else i)) S := by
  cases ds with
  | nil => exact h.elim
  | cons d t => cases t with
    | nil => cases d <;> exact (show False from h).elim
    | cons e r => cases r with
      | nil => cases d <;> cases e <;> first | exact ⟨_, _, rfl, h⟩ | exact (show False from h).elim
      | cons f r => cases d <;> cases e <;> exact (show False from h).elim
theorem inv_min2 {ds : List D} {S : Sd} {Q : DK} (h : rdMin2 ds S Q) : ∃ i j, ds = [.int i, .int j] ∧ Q (.int (if j < i then j else i)) S := by
  cases ds with
  | nil => exact h.elim
  | cons d t => cases t with
    | nil => cases d <;> exact (show False from h).elim
    | cons e r => cases r with
      | nil => cases d <;> cases e <;> first | exact ⟨_, _, rfl, h⟩ | exact (show False from h).elim
      | cons f r => cases d <;> cases e <;> exact (show False from h).elim
theorem inv_isi {ds : List D} {S : Sd} {Q : DK} (h : rdIsi ds S Q) : ∃ d n b, ds = [d, .ty n] ∧ isiD d n = some b ∧ Q (.bl b) S := by
  cases ds with
  | nil => exact h.elim
  | cons d t => cases t with
    | nil => exact (show False from h).elim
    | cons e r => cases r with
      | cons f r => cases e <;> exact (show False from h).elim
      | nil =>
        cases e with
        | ty n =>
          have h' : (match isiD d n with | some b => Q (.bl b) S | none => False) := h
          cases q : isiD d n with
          | none => rw [q] at h'; exact h'.elim
          | some b => rw [q] at h'; exact ⟨d, n, b, rfl, q, h'⟩
        | _ => exact (show False from h).elim
theorem cd_abs : CallD X (.builtin "abs") rdAbs := ⟨_, call_abs, int1_lift (g := fun i => .int (if i < 0 then -i else i)) (fun _ _ _ => rfl) fun ds S Q h => inv_abs h⟩
theorem int2_lift {K : PySem.W.Frag} {g : Int → Int → D} {gv : Int → Int → V} {rd : RDC} (hg : ∀ i j H S, Rp K H S (g i j) (gv i j)) (h1 : ∀ ds S Q, rd ds S Q → ∃ i j, ds = [.int i, .int j] ∧ Q (g i j) S) :
    LiftC K (fun xs H Q => ∃ i j, xs = [.int i, .int j] ∧ Q (gv i j) H) rd := fun H S fr σd σ xs ds Qv Qd ok r h k => by
  obtain ⟨i, j, rfl, q⟩ := h1 ds S Qd h
  obtain ⟨v, w, rfl, r1, r2⟩ := rpL2 r
  have e : v = .int i := r1
  have e2 : w = .int j := r2
  subst e e2
  exact ⟨i, j, rfl, k _ (g i j) H S ok (hg i j H S) q⟩
theorem cd_max2 (hc : X.calm = true) : CallD X (.builtin "max") rdMax2 := ⟨_, call_max2 hc, int2_lift (g := fun i j => .int (if j > i then j else i)) (fun _ _ _ _ => rfl) fun ds S Q h => inv_max2 h⟩
theorem cd_min2 (hc : X.calm = true) : CallD X (.builtin "min") rdMin2 := ⟨_, call_min2 hc, int2_lift (g := fun i j => .int (if j < i then j else i)) (fun _ _ _ _ => rfl) fun ds S Q h => inv_min2 h⟩
theorem cd_int : CallD X (.type "int") rdInt := ⟨_, call_int1, fun H S fr σd σ xs ds Qv Qd ok r h k => by
  rcases inv_int h with ⟨i, rfl, q⟩ | ⟨b, rfl, q⟩
  · obtain ⟨v, rfl, r0⟩ := rpL1 r
    have r := r0
    have e : v = .int i := r
    subst e
    exact .inl ⟨i, rfl, k _ (.int i) H S ok rfl q⟩
  · obtain ⟨v, rfl, r0⟩ := rpL1 r
    have r := r0
    have e : v = .bl b := r
    subst e
    exact .inr ⟨b, rfl, k _ (.int (if b then 1 else 0)) H S ok rfl q⟩⟩
theorem cd_all (hc : X.calm = true) : CallD X (.builtin "all") rdAll := ⟨_, cr_all hc, fun H S fr σd σ xs ds Qv Qd ok r h k => by
  match ds, r, h with
  | [], _, h => exact (show False from h).elim
  | _ :: _ :: _, _, h => exact (show False from h).elim
  | [d], r, h =>
    obtain ⟨v, rfl, r0⟩ := rpL1 r
    have r := r0
    obtain ⟨bs, e, q⟩ := h
    obtain ⟨a, vs, rfl, q1, r1⟩ := rp_lstD ok.rel r e
    rw [rpL_bls r1] at q1
    exact ⟨a, bs, rfl, q1, k _ (.bl (bs.all id)) H S ok rfl q⟩⟩
theorem cd_tuple : CallD X (.type "tuple") rdTupC := ⟨_, call_tuple_of, fun H S fr σd σ xs ds Qv Qd ok r h k => by
  match ds, r, h with
  | [], _, h => exact (show False from h).elim
  | _ :: _ :: _, _, h => exact (show False from h).elim
  | [d], r, h =>
    obtain ⟨v, rfl, r0⟩ := rpL1 r
    have r := r0
    have h' : (match itemsD S d with | some ds => Qd (.tup ds) S | none => False) := h
    cases e : itemsD S d with
    | none => rw [e] at h'; exact h'.elim
    | some ds =>
      rw [e] at h'
      obtain ⟨a, vs, rfl, q, r2⟩ := rp_items ok.rel r e
      refine ⟨a, vs, rfl, ?_⟩
      rcases q with q | q
      · exact .inl ⟨q, fun l hl => k _ (.tup ds) _ S (ok.new hl) (rp_tupNew ok.rel hl r2) h'⟩
      · exact .inr ⟨q, k _ (.tup ds) H S ok ⟨a, vs, rfl, q, r2⟩ h'⟩⟩
theorem cd_list : CallD X (.type "list") rdListC := ⟨_, call_list_of, fun H S fr σd σ xs ds Qv Qd ok r h k => by
  match ds, r, h with
  | [], _, h => exact (show False from h).elim
  | _ :: _ :: _, _, h => exact (show False from h).elim
  | [d], r, h =>
    obtain ⟨v, rfl, r0⟩ := rpL1 r
    have r := r0
    have h' : (match itemsD S d with | some ds => Qd (.lst ds) S | none => False) := h
    cases e : itemsD S d with
    | none => rw [e] at h'; exact h'.elim
    | some ds =>
      rw [e] at h'
      obtain ⟨a, vs, rfl, q, r2⟩ := rp_items ok.rel r e
      exact ⟨a, vs, rfl, q, fun l hl => k _ (.lst ds) _ S (ok.new hl) (rp_lstNew ok.rel hl r2) h'⟩⟩
theorem isi_ty {K : PySem.W.Frag} {H : Hp} {S : Sd} {d : D} {v : V} {t : String} (R : RelS K H S) (r : Rp K H S d v) (e : tyD d = some t) : TyX K H v (.type t) := by
  cases d with
  | non => cases e; have e : v = .non := r; subst e; exact .base .non
  | bl b => cases e; have e : v = .bl b := r; subst e; exact .base (.bl b)
  | int i => cases e; have e : v = .int i := r; subst e; exact .base (.int i)
  | str x => cases e; have e : v = .str x := r; subst e; exact .base (.str x)
  | tup ds =>
    cases e
    obtain ⟨a, vs, rfl, q, _⟩ := r
    rcases q with (q | ⟨o, q⟩) | ⟨o, its, n, h1, h2, _⟩
    · exact .base (.tup q)
    · exact .fTuple q
    · exact .kTuple h1 h2
  | lst ds =>
    cases e
    obtain ⟨a, vs, rfl, q, _⟩ := r
    rcases q with ⟨q | ⟨o, q⟩, _⟩ | ⟨o, its, n, h1, h2, _⟩
    · exact .base (.lst q)
    · exact .base (.frz q)
    · exact .kList h1 h2
  | _ => cases e
theorem cd_isi : CallD X (.builtin "isinstance") rdIsi := ⟨_, call_isi, fun H S fr σd σ xs ds Qv Qd ok r h k => by
  obtain ⟨d, n, b, rfl, e, q⟩ := inv_isi h
  obtain ⟨v, w, rfl, r1, r2⟩ := rpL2 r
  have e0 : w = .ty n := r2
  subst e0
  unfold isiD at e
  cases e2 : tyD d with
  | none => rw [e2] at e; cases e
  | some t =>
    rw [e2] at e
    exact ⟨v, .ty n, .type t, .type n, b, rfl, .ty n, isi_ty ok.rel r1 e2, kit_ty e, k _ (.bl b) H S ok rfl q⟩⟩
end
end Dv

/-! Readings by value, 4: statements, targets, loops, comprehensions, defs. -/
namespace Dv
open PySem L2 PyProof.Rows

section
variable {K : PySem.W.Frag} {H : Hp} {S : Sd} {fr : List (V × D)} {Dd : EndsD} {D0 : Ends} {σd : Si} {σ : L2.St} {W : Wi}
theorem Ok.pre {fr2 : List (V × D)} (o : Ok K H S (fr2 ++ fr) σd σ) : Ok K H S fr σd σ := ⟨o.rel, fun p hp => o.fr p (List.mem_append_right _ hp), o.len, o.si⟩
theorem Cl.pre {fr2 : List (V × D)} (c : Cl K W fr) : Cl K W (fr2 ++ fr) := fun σd σ H S cls od x o => c σd σ H S cls od x o.pre
end

section
variable {X : Cx} {W : Wi} {st : Stmt} {rest : List Stmt} {t u : TSD} {e c : Expr} {te : TED} {tc : TTD} {pos : Pos}
def dNext : TSD := fun D σ S => D.nx σ S
def dSeq (t u : TSD) : TSD := fun D σ S => t { D with nx := u D } σ S
theorem db_nil : DB X W [] dNext := ⟨PSs.imp pss_nil fun D σ H ⟨σd, S, fr, Dd, ok, cl, h, k⟩ => k.nx σd σ H S ok h⟩
theorem db_cons (h1 : DS X W st t) (h2 : DB X W rest u) : DB X W (st :: rest) (dSeq t u) :=
  ⟨PSs.imp (pss_cons h1.p h2.p) fun D σ H ⟨σd, S, fr, Dd, ok, cl, h, k⟩ => ⟨σd, S, fr, { Dd with nx := u Dd }, ok, cl, h,
    ⟨fun σd' σ' H' S' ok' q => ⟨σd', S', fr, Dd, ok', cl, q, k⟩, k.rt, k.bk, k.ct⟩⟩⟩
theorem db_one (h1 : DS X W st t) : DB X W [st] t := ⟨pss_one h1.p⟩
def dDrop (te : TED) : TSD := fun D σ S => te σ S fun _ S1 => D.nx σ S1
theorem ds_expr (he : DE X W e te) (hs : swapsWith e none pos.line X.env = pure false := by rfl) : DS X W (.Expr e pos) (dDrop te) :=
  ⟨PS.imp (ps_expr he.p hs) fun D σ H ⟨σd, S, fr, Dd, ok, cl, h, k⟩ => ⟨σd, S, fr, _, ok, cl, h, fun v d H' S' ok' r q => k.nx σd σ H' S' ok' q⟩⟩
def dRet (te : TED) : TSD := fun D σ S => te σ S D.rt
theorem ds_ret (he : DE X W e te) : DS X W (.Return (some e) pos) (dRet te) :=
  ⟨PS.imp (ps_ret he.p) fun D σ H ⟨σd, S, fr, Dd, ok, cl, h, k⟩ => ⟨σd, S, fr, _, ok, cl, h, fun v d H' S' ok' r q => k.rt v d σd σ H' S' ok' r q⟩⟩
def dIfS (c : TTD) (t u : TSD) : TSD := fun D σ S => c σ S fun b S1 => if b = true then t D σ S1 else u D σ S1
theorem ds_if {a b : List Stmt} (hc : DT X W c tc) (ha : DB X W a t) (hb : DB X W b u) : DS X W (.If c a b pos) (dIfS tc t u) :=
  ⟨PS.imp (ps_if hc.p ha.p hb.p) fun D σ H ⟨σd, S, fr, Dd, ok, cl, h, k⟩ => ⟨σd, S, fr, _, ok, cl, h, fun b H1 S1 ok1 h1 => by
    cases b with
    | true => exact (show upSt X.K W t D σ H1 from ⟨σd, S1, fr, Dd, ok1, cl, (show t Dd σd S1 from by simpa using h1), k⟩)
    | false => exact (show upSt X.K W u D σ H1 from ⟨σd, S1, fr, Dd, ok1, cl, (show u Dd σd S1 from by simpa using h1), k⟩)⟩⟩

/-! ### targets -/
abbrev TGD := D → Si → Sd → (Si → Sd → Prop) → Prop
abbrev TGsD := List D → Si → Sd → (Si → Sd → Prop) → Prop
/-- vs: slots that may change -/
def upG (K : PySem.W.Frag) (W : Wi) (vs : List Nat) (t : TGD) : TG := fun v σ H Q => ∃ σd S fr Qd d, Ok K H S fr σd σ ∧ Cl K W fr ∧ Rp K H S d v ∧ t d σd S Qd ∧
  ∀ σ' σd' H' S', Ok K H' S' fr σd' σ' → wipe σ' vs = wipe σ vs → Qd σd' S' → Q σ' H'
def upGs (K : PySem.W.Frag) (W : Wi) (vs : List Nat) (t : TGsD) : TGs := fun us σ H Q => ∃ σd S fr Qd ds, Ok K H S fr σd σ ∧ Cl K W fr ∧ RpL K H S ds us ∧ t ds σd S Qd ∧
  ∀ σ' σd' H' S', Ok K H' S' fr σd' σ' → wipe σ' vs = wipe σ vs → Qd σd' S' → Q σ' H'
structure DG (X : Cx) (W : Wi) (vs : List Nat) (e : Expr) (t : TGD) : Prop where
  p : PG X e (upG X.K W vs t)
structure DGs (X : Cx) (W : Wi) (vs : List Nat) (es : List Expr) (t : TGsD) : Prop where
  p : PGs X es (upGs X.K W vs t)
theorem PG.imp {e : Expr} {t t' : TG} (h : PG X e t) (k : ∀ v σ H Q, t' v σ H Q → t v σ H Q) : PG X e t' := ⟨fun pins s σ H v u Q I r q => h.run pins s σ H v u Q I r (k _ _ _ _ q)⟩
theorem PGs.imp {e : List Expr} {t t' : TGs} (h : PGs X e t) (k : ∀ v σ H Q, t' v σ H Q → t v σ H Q) : PGs X e t' := ⟨fun pins s σ H v u Q I r q => h.run pins s σ H v u Q I r (k _ _ _ _ q)⟩
theorem wipe_set {σ : L2.St} {i : Nat} {x : Option V} : ∀ {vs : List Nat}, i ∈ vs → wipe (σ.set i x) vs = wipe σ vs
  | v :: vs, h => by
    unfold wipe
    by_cases hv : i ∈ vs
    · rw [wipe_set hv]
    · have e : i = v := by
        rcases List.mem_cons.mp h with e | e
        · exact e
        · exact absurd e hv
      subst e
      have gen : ∀ (ws : List Nat), i ∉ ws → wipe (σ.set i x) ws = (wipe σ ws).set i x := by
        intro ws
        induction ws with
        | nil => intro _; rfl
        | cons w ws ih =>
          intro hm
          have h1 : i ≠ w := fun e => hm (by rw [e]; exact List.mem_cons_self)
          have h2 : i ∉ ws := fun e => hm (List.mem_cons_of_mem _ e)
          show (wipe (σ.set i x) ws).set w none = ((wipe σ ws).set w none).set i x
          rw [ih h2, List.set_comm _ _ h1]
      rw [gen vs hv, List.set_set]
def dName (i : Nat) : TGD := fun d σ S Q => Q (σ.set i (some d)) S
theorem dg_name {vs : List Nat} {i : Nat} {x : Str} (hN : X.N.Nodup) (hi : X.N[i]? = some x) (hx : Loc X.env.scope x) (hv : i ∈ vs) (hf : X.fn x = true ∨ X.env.scope.names.lookup x = some .local := by first | exact .inl rfl | exact .inr rfl | assumption) :
    DG X W vs (.Name x pos) (dName i) := ⟨PG.imp (pg_name hN hi hx hf) fun v σ H Q ⟨σd, S, fr, Qd, d, ok, cl, r, h, k⟩ => k _ _ H S (ok.set r i) (wipe_set hv) h⟩
def dGNil : TGsD := fun ds σ S Q => match ds with
  | [] => Q σ S
  | _ => False
def dGCons (t : TGD) (u : TGsD) : TGsD := fun ds σ S Q => match ds with
  | d :: r => t d σ S fun σ' S' => u r σ' S' Q
  | [] => False
theorem dgs_nil {vs : List Nat} : DGs X W vs [] dGNil := ⟨PGs.imp pgs_nil fun v σ H Q ⟨σd, S, fr, Qd, ds, ok, cl, r, h, k⟩ => by
  cases ds with
  | nil => exact ⟨r, k σ σd H S ok rfl h⟩
  | cons d s => exact (show False from h).elim⟩
theorem dgs_cons {vs : List Nat} {es : List Expr} {t : TGD} {u : TGsD} (h1 : DG X W vs e t) (h2 : DGs X W vs es u) (hs : (assignEach (e :: es) X.env).map (·.2) = assign e X.env :: (assignEach es X.env).map (·.2) := by rfl) : DGs X W vs (e :: es) (dGCons t u) :=
  ⟨PGs.imp (pgs_cons h1.p h2.p hs) fun us σ H Q ⟨σd, S, fr, Qd, ds, ok, cl, r, h, k⟩ => by
    cases ds with
    | nil => exact (show False from h).elim
    | cons d s =>
      obtain ⟨v, ur, e1, r1, r2⟩ := r
      refine ⟨v, ur, e1, σd, S, (ur.zip s) ++ fr, fun σ' S' => u s σ' S' Qd, d, ?_, cl.pre, r1, h, fun σ' σd' H' S' ok' hw q => ?_⟩
      · refine ⟨ok.rel, fun p hp => ?_, ok.len, ok.si⟩
        rcases List.mem_append.mp hp with hp | hp
        · obtain ⟨i, hi⟩ := List.mem_iff_getElem?.mp hp
          rw [List.getElem?_zip_eq_some] at hi
          obtain ⟨w, q1, q2⟩ := rpL_get r2 hi.2
          rw [hi.1] at q1
          cases q1
          exact q2
        · exact ok.fr p hp
      · refine ⟨σd', S', fr, Qd, s, ok'.pre, cl, ?_, q, fun σ2 σd2 H2 S2 ok2 hw2 q2 => k σ2 σd2 H2 S2 ok2 (hw2.trans hw) q2⟩
        have hl := rpL_len r2
        have gen : ∀ (s : List D) (ur : List V), s.length = ur.length → (∀ p ∈ ur.zip s, Rp X.K H' S' p.2 p.1) → RpL X.K H' S' s ur := by
          intro s
          induction s with
          | nil => intro ur hl _; exact List.length_eq_zero_iff.mp hl.symm
          | cons d s ih =>
            intro ur hl hz
            cases ur with
            | nil => cases hl
            | cons w ur =>
              refine ⟨w, ur, rfl, hz (w, d) (by simp), ih ur (by simpa using hl) fun p hp => hz p ?_⟩
              rw [List.zip_cons_cons]
              exact List.mem_cons_of_mem _ hp
        exact gen s ur hl fun p hp => ok'.fr p (List.mem_append_left _ hp)⟩
/-- (a, b, ..) = a tuple or a list of that length -/
def dTupG (n : Nat) (t : TGsD) : TGD := fun d σ S Q => match d with
  | .tup ds => ds.length = n ∧ t ds σ S Q
  | _ => False
theorem dg_tup {vs : List Nat} {es : List Expr} {k : Nat} {t : TGsD} {n : Nat} (hc : X.calm = true) (h : DGs X W vs es t) (hn : (assignEach es X.env).length = n := by rfl) (hst : (assignEach es X.env).findIdx? (·.1) = none := by rfl) :
    DG X W vs (.Tuple es k pos) (dTupG n t) := ⟨PG.imp (pg_tup hc h.p hn hst) fun v σ H Q ⟨σd, S, fr, Qd, d, ok, cl, r, q, k⟩ => by
  cases d with
  | tup ds =>
    obtain ⟨a, vs, e, q1, r1⟩ := r
    exact ⟨a, vs, e, q1, (rpL_len r1).symm.trans q.1, σd, S, fr, Qd, ds, ok, cl, r1, q.2, k⟩
  | _ => exact (show False from q).elim⟩
def dAsg (te : TED) (g : TGD) : TSD := fun D σ S => te σ S fun x S1 => g x σ S1 D.nx
theorem ds_asg {vs : List Nat} {tg : Expr} {g : TGD} (he : DE X W e te) (hg : DG X W vs tg g) (hs : swapsWithSole [tg] e pos.line X.env = pure false := by rfl) (hw : swappedStores [tg] e X.env = pure none := by rfl)
    (h1 : (assignEach [tg] X.env).map (·.2) = [assign tg X.env] := by rfl) : DS X W (.Assign [tg] e pos) (dAsg te g) :=
  ⟨PS.imp (ps_asg he.p hg.p hs hw h1) fun D σ H ⟨σd, S, fr, Dd, ok, cl, h, k⟩ => ⟨σd, S, fr, _, ok, cl, h, fun v d H1 S1 ok1 r1 q => ⟨σd, S1, fr, Dd.nx, d, ok1, cl, r1, q, fun σ' σd' H' S' ok' _ q' => k.nx σd' σ' H' S' ok' q'⟩⟩⟩
def dSet (i : Nat) (te : TED) : TSD := fun D σ S => te σ S fun x S1 => D.nx (σ.set i (some x)) S1
theorem ds_set (i : Nat) {x : Str} {pos' : Pos} (hN : X.N.Nodup) (hi : X.N[i]? = some x) (hx : Loc X.env.scope x) (he : DE X W e te) (hs : swapsWith e (some (.Name x pos')) pos.line X.env = pure false := by rfl)
    (hf : X.fn x = true ∨ X.env.scope.names.lookup x = some .local := by first | exact .inl rfl | exact .inr rfl | assumption) : DS X W (.Assign [.Name x pos'] e pos) (dSet i te) :=
  ⟨PS.imp (ps_set hN hi hx he.p hs hf) fun D σ H ⟨σd, S, fr, Dd, ok, cl, h, k⟩ => ⟨σd, S, fr, _, ok, cl, h, fun v d H1 S1 ok1 r1 q => k.nx _ _ H1 S1 (ok1.set r1 i) q⟩⟩
/-- a, b = x, y -/
def dPar (i j : Nat) (ta : TAD) : TSD := fun D σ S => ta σ S fun vs S1 => match vs with
  | [v, w] => D.nx ((σ.set i (some v)).set j (some w)) S1
  | _ => False
theorem ds_par (i j : Nat) {x y : Str} {a b : Expr} {ta : TAD} {px py pt : Pos} {kt k2 pt2} (hc : X.calm = true) (hN : X.N.Nodup) (hi : X.N[i]? = some x) (hj : X.N[j]? = some y) (hij : i ≠ j)
    (hx : X.env.scope.names.lookup x = some .local) (hy : X.env.scope.names.lookup y = some .local) (ha : DA X W [a, b] ta) (hw : swappedStores [.Tuple [.Name x px, .Name y py] kt pt] (.Tuple [a, b] k2 pt2) X.env = pure (some [x, y]))
    (hs : swapsWithSole [.Tuple [.Name x px, .Name y py] kt pt] (.Tuple [a, b] k2 pt2) pos.line X.env = pure false := by rfl) :
    DS X W (.Assign [.Tuple [.Name x px, .Name y py] kt pt] (.Tuple [a, b] k2 pt2) pos) (dPar i j ta) :=
  ⟨PS.imp (ps_par hc hN hi hj hij hx hy ha.p hw hs) fun D σ H ⟨σd, S, fr, Dd, ok, cl, h, k⟩ => ⟨σd, S, fr, _, ok, cl, h, fun vs ds H1 S1 ok1 r1 q => by
    cases ds with
    | nil => exact (show False from q).elim
    | cons d r => cases r with
      | nil => exact (show False from q).elim
      | cons d2 r => cases r with
        | cons _ _ => exact (show False from q).elim
        | nil =>
          obtain ⟨v, w, rfl, h1, h2⟩ := rpL2 r1
          exact ⟨v, w, rfl, k.nx _ _ H1 S1 ((ok1.set h1 i).set h2 j) q⟩⟩⟩
/-- l[k] = e, l an owned list -/
def setQ (S : Sd) (k : D) (v : D) (Q : Sd → Prop) : D → Prop
  | .obj a => match S a, k with
    | some (.lst ds), .int i => match ixN ds.length i with
      | some j => Q (upS S a (.lst (ds.set j v)))
      | none => False
    | _, _ => False
  | _ => False
theorem setQ_inv {S : Sd} {k v o : D} {Q : Sd → Prop} (h : setQ S k v Q o) : ∃ a ds i j, o = .obj a ∧ S a = some (.lst ds) ∧ k = .int i ∧ ixN ds.length i = some j ∧ Q (upS S a (.lst (ds.set j v))) := by
  cases o with
  | obj a =>
    unfold setQ at h
    dsimp only at h
    split at h
    · rename_i x y ds i e
      split at h
      · rename_i j ej
        exact ⟨a, ds, i, j, rfl, e, rfl, ej, h⟩
      · exact h.elim
    · exact h.elim
  | _ => exact (show False from h).elim
def dStore (to ti te : TED) : TSD := fun D σ S => te σ S fun v S1 => to σ S1 fun o S2 => ti σ S2 fun k S3 => setQ S3 k v (D.nx σ) o
theorem ds_store {o i : Expr} {to ti : TED} {spos : Pos} (ho : DE X W o to) (hi : DE X W i ti) (he : DE X W e te) (ha : ∀ v, assign (.Subscript o i spos) X.env v = (do
      let ov ← holding [v] (eval o X.env)
      let iv ← holding [v, ov] (eval i X.env)
      standAt spos
      holding [v, ov, iv] (setItem ov iv v)
      release [v, ov, iv] []) := by intro _; rfl) (hs : swapsWithSole [.Subscript o i spos] e pos.line X.env = pure false := by rfl) (hw : swappedStores [.Subscript o i spos] e X.env = pure none := by rfl)
    (h1 : (assignEach [.Subscript o i spos] X.env).map (·.2) = [assign (.Subscript o i spos) X.env] := by rfl) : DS X W (.Assign [.Subscript o i spos] e pos) (dStore to ti te) :=
  ⟨PS.imp (ps_asg he.p (pg_sub ho.p hi.p set_list ha) hs hw h1) fun D σ H ⟨σd, S, fr, Dd, ok, cl, h, k⟩ => ⟨σd, S, fr, _, ok, cl, h, fun v d H1 S1 ok1 r1 q =>
    ⟨σd, S1, (v, d) :: fr, _, ok1.cons r1, cl.tail, q, fun ov od H2 S2 ok2 r2 q => ⟨σd, S2, (ov, od) :: (v, d) :: fr, _, ok2.cons r2, cl.tail.tail, q, fun kv kd H3 S3 ok3 r3 q => by
      obtain ⟨a, ds, n, j, e1, e2, e3, e4, q5⟩ := setQ_inv q
      have ro := ok3.head
      have rv := ok3.tail.head
      have ok4 := ok3.tail.tail
      subst e1 e3
      obtain ⟨vs, hv, rl⟩ := rp_obj ok4.rel e2
      refine ⟨a, vs, n, j, ro, r3, hv, by rw [← rpL_len rl]; exact e4, ?_⟩
      have st : Step H3 S3 (upd H3 a (.lst (vs.set j v))) (upS S3 a (.lst (ds.set j d))) := step_set e2
      exact k.nx σd σ _ _ (ok4.step st (rel_set ok4.rel e2 ⟨_, upd_same, rpL_step ok4.rel st _ _ (rpL_set j rl rv)⟩)) q5⟩⟩⟩⟩
/-! ### methods of built-in types -/
def tyM (T : String) (d : D) (S : Sd) : Prop := match d with
  | .str _ => T = "str"
  | .int _ => T = "int"
  | .lst ds => T = "list"
  | .obj a => T = "list" ∧ ∃ ds, S a = some (.lst ds)
  | _ => False
theorem tyM_V {K : PySem.W.Frag} {H : Hp} {S : Sd} {d : D} {v : V} {T : String} (R : RelS K H S) (r : Rp K H S d v) (t : tyM T d S) : tyV K T v H := by
  cases d with
  | str x => have e : v = .str x := r; subst e; exact t
  | int x => have e : v = .int x := r; subst e; exact t
  | lst ds =>
    obtain ⟨a, vs, rfl, q, _⟩ := rp_list R r
    exact .inl ⟨t, vs, q⟩
  | obj a =>
    obtain ⟨t, ds, e⟩ := t
    obtain ⟨vs, q, _⟩ := rp_obj R e
    have e : v = .ref a := r
    subst e
    exact .inl ⟨t, vs, SqL.of q⟩
  | _ => exact (show False from t).elim
abbrev RDM := D → List D → Sd → DK → Prop
def LiftM (K : PySem.W.Frag) (r : V → List V → Hp → VK → Prop) (rd : RDM) : Prop := ∀ H S fr σd σ x dx xs ds Qv Qd, Ok K H S fr σd σ → Rp K H S dx x → RpL K H S ds xs → rd dx ds S Qd →
  (∀ v d H' S', Ok K H' S' fr σd σ → Rp K H' S' d v → Qd d S' → Qv v H') → r x xs H Qv
def dBM (T : String) (rd : RDM) (to : TED) (t : TAD) : TED := fun σ S Q => to σ S fun o S1 => tyM T o S1 ∧ t σ S1 fun vs S2 => rd o vs S2 Q
def dBM0 (T : String) (rd : RDM) (to : TED) : TED := fun σ S Q => to σ S fun o S1 => tyM T o S1 ∧ rd o [] S1 Q
theorem de_bm {o : Expr} {to : TED} {es : List Expr} {t : TAD} {T id : String} {name : Str} {apos cpos : Pos} {r : V → List V → Hp → VK → Prop} {rd : RDM} (pa : PlainAttrs T) (slot : Slot T name id) (hty : typeOf (.builtin id) = pure (.type "method_descriptor")) (hm : MtR X id r) (l : LiftM X.K r rd)
    (ho : DE X W o to) (ha : DA X W (e :: es) t) (hbase : attributeBase o name X.env (eval o X.env) = eval o X.env := by rfl)
    (hfew : ((backTo cpos (starEach (e :: es) X.env)).all (fun x => !x.1) && (backToKw cpos (keywordEach [] X.env)).all (fun x => x.1.isSome)
      && decide ((e :: es).length + ([] : List Keyword).length + (if ([] : List Keyword).isEmpty then 0 else 1) < 30)) = true := by rfl)
    (hline : (apos.endLine == cpos.line) = true := by rfl) (hs : starEach (e :: es) X.env = (false, eval e X.env) :: starEach es X.env := by rfl) (hplain : (backTo cpos (starEach es X.env)).any (·.1) = false := by rfl) :
    DE X W (.Call (.Attribute o name apos) (e :: es) [] cpos) (dBM T rd to t) :=
  ⟨PE.imp (pe_bm pa slot hty hm ho.p ha.p hbase hfew hline hs hplain) fun σ H Q ⟨σd, S, fr, Qd, ok, cl, h, k⟩ =>
    ⟨σd, S, fr, _, ok, cl, h, fun x dx H1 S1 ok1 r1 q => ⟨tyM_V ok1.rel r1 q.1, σd, S1, (x, dx) :: fr, _, ok1.cons r1, cl.tail, q.2, fun vs ds H2 S2 ok2 r2 q2 =>
      l H2 S2 fr σd σ x dx vs ds Q Qd ok2.tail ok2.head r2 q2 k⟩⟩⟩
/-! ### what a loop walks -/
structure ItD (K : PySem.W.Frag) (J : It) (xs : List D) (fr : List (V × D)) : Prop where
  go : ∀ (i : Nat) (d : D), xs[i]? = some d → ∀ H S σd σ, Ok K H S fr σd σ → J.go i H ∧ ∀ x H', J.yld i H x H' → Ok K H' S fr σd σ ∧ Rp K H' S d x
  stop : ∀ H S σd σ, Ok K H S fr σd σ → J.stop xs.length H
abbrev TID := Si → Sd → (List D → Sd → Prop) → Prop
def upI (K : PySem.W.Frag) (W : Wi) (t : TID) : TI := fun σ H R => ∃ σd S fr Rd, Ok K H S fr σd σ ∧ Cl K W fr ∧ t σd S Rd ∧ ∀ J xs H' S' fr', Ok K H' S' (fr' ++ fr) σd σ → ItD K J xs (fr' ++ fr) → Rd xs S' → R J H'
structure DI (X : Cx) (W : Wi) (tg iter : Expr) (t : TID) : Prop where
  p : PI X tg iter (upI X.K W t)
theorem PI.imp {tg iter : Expr} {t t' : TI} (h : PI X tg iter t) (k : ∀ σ H Q, t' σ H Q → t σ H Q) : PI X tg iter t' := ⟨fun pins s σ H Q I q => h.run pins s σ H Q I (k _ _ _ q)⟩
theorem itd_list {K : PySem.W.Frag} {a : Addr} {ds : List D} {fr : List (V × D)} : ItD K (Itl K a) ds ((.ref a, .lst ds) :: fr) where
  go := fun i d e H S σd σ ok => by
    obtain ⟨a', vs, e1, q, r⟩ := rp_list ok.rel ok.head
    have e1' : V.ref a = .ref a' := e1
    cases e1'
    obtain ⟨v, h1, h2⟩ := rpL_get r e
    refine ⟨⟨vs, v, q, h1⟩, fun x H' y => ?_⟩
    obtain ⟨e2, y⟩ := y
    subst e2
    have h3 := y vs q
    rw [h1] at h3
    cases h3
    exact ⟨ok, h2⟩
  stop := fun H S σd σ ok => by
    obtain ⟨a', vs, e1, q, r⟩ := rp_list ok.rel ok.head
    have e1' : V.ref a = .ref a' := e1
    cases e1'
    exact ⟨vs, q, by rw [rpL_len r]; exact Nat.le_refl _⟩
theorem itd_tup {K : PySem.W.Frag} {a : Addr} {ds : List D} {fr : List (V × D)} : ItD K (Itt K a) ds ((.ref a, .tup ds) :: fr) where
  go := fun i d e H S σd σ ok => by
    obtain ⟨a', vs, e1, q, r⟩ := ok.head
    have e1' : V.ref a = .ref a' := e1
    cases e1'
    obtain ⟨v, h1, h2⟩ := rpL_get r e
    refine ⟨⟨vs, v, q, h1⟩, fun x H' y => ?_⟩
    obtain ⟨e2, y⟩ := y
    subst e2
    have h3 := y vs q
    rw [h1] at h3
    cases h3
    exact ⟨ok, h2⟩
  stop := fun H S σd σ ok => by
    obtain ⟨a', vs, e1, q, r⟩ := ok.head
    have e1' : V.ref a = .ref a' := e1
    cases e1'
    exact ⟨vs, q, by rw [rpL_len r]; exact Nat.le_refl _⟩
def rgD (lo : Int) (n : Nat) : List D := (List.range n).map fun (i : Nat) => D.int (lo + i)
theorem itd_rng {K : PySem.W.Frag} {lo : Int} {n : Nat} {fr : List (V × D)} : ItD K (Itr lo n) (rgD lo n) fr where
  go := fun i d e H S σd σ ok => by
    unfold rgD at e
    rw [List.getElem?_map] at e
    cases q : (List.range n)[i]? with
    | none => rw [q] at e; cases e
    | some j =>
      rw [q] at e
      cases e
      obtain ⟨h1, h2⟩ := List.getElem?_eq_some_iff.mp q
      rw [List.getElem_range] at h2
      subst h2
      refine ⟨show i < n by simpa using h1, fun x H' y => ?_⟩
      obtain ⟨e2, y⟩ := y
      subst e2
      subst y
      exact ⟨ok, rfl⟩
  stop := fun H S σd σ ok => by
    unfold rgD
    rw [List.length_map, List.length_range]
    exact Nat.le_refl n
def dRng1 (ta : TAD) : TID := fun σ S R => ta σ S fun xs S1 => match xs with
  | [.int j] => (-(2 ^ 62) ≤ j ∧ j < 2 ^ 62) ∧ R (rgD 0 j.toNat) S1
  | _ => False
def dRng2 (ta : TAD) : TID := fun σ S R => ta σ S fun xs S1 => match xs with
  | [.int i, .int j] => (-(2 ^ 62) ≤ i ∧ i < 2 ^ 62 ∧ -(2 ^ 62) ≤ j ∧ j < 2 ^ 62) ∧ R (rgD i (j - i).toNat) S1
  | _ => False
theorem di_rng1 {a tg : Expr} {ta : TAD} {p pos : Pos} (hg : Gl X "range") (hm : X.mg "range" = none) (ha : DA X W [a] ta) (hs : starEach [a] X.env = [(false, eval a X.env)] := by rfl) : DI X W tg (.Call (.Name "range" p) [a] [] pos) (dRng1 ta) :=
  ⟨PI.imp (pi_range1 hg hm ha.p hs) fun σ H R ⟨σd, S, fr, Rd, ok, cl, h, k⟩ => ⟨σd, S, fr, _, ok, cl, h, fun vs ds H1 S1 ok1 r1 q => by
    cases ds with
    | nil => exact (show False from q).elim
    | cons d r => cases r with
      | cons _ _ => cases d <;> exact (show False from q).elim
      | nil => cases d with
        | int j =>
          obtain ⟨v, rfl, r2⟩ := rpL1 r1
          have e : v = .int j := r2
          subst e
          exact ⟨j, rfl, q.1.1, q.1.2, k _ _ H1 S1 [] ok1 itd_rng q.2⟩
        | _ => exact (show False from q).elim⟩⟩
theorem di_rng2 {a b tg : Expr} {ta : TAD} {p pos : Pos} (hg : Gl X "range") (hm : X.mg "range" = none) (ha : DA X W [a, b] ta) (hs : starEach [a, b] X.env = [(false, eval a X.env), (false, eval b X.env)] := by rfl) (hs2 : starEach [b] X.env = [(false, eval b X.env)] := by rfl) : DI X W tg (.Call (.Name "range" p) [a, b] [] pos) (dRng2 ta) :=
  ⟨PI.imp (pi_range2 hg hm ha.p hs hs2) fun σ H R ⟨σd, S, fr, Rd, ok, cl, h, k⟩ => ⟨σd, S, fr, _, ok, cl, h, fun vs ds H1 S1 ok1 r1 q => by
    cases ds with
    | nil => exact (show False from q).elim
    | cons d r => cases r with
      | nil => cases d <;> exact (show False from q).elim
      | cons d2 r => cases r with
        | cons _ _ => cases d <;> cases d2 <;> exact (show False from q).elim
        | nil => cases d with
          | int i => cases d2 with
            | int j =>
              obtain ⟨v, w, rfl, r2, r3⟩ := rpL2 r1
              have e : v = .int i := r2
              have e2 : w = .int j := r3
              subst e e2
              exact ⟨i, j, rfl, q.1, k _ _ H1 S1 [] ok1 itd_rng q.2⟩
            | _ => exact (show False from q).elim
          | _ => cases d2 <;> exact (show False from q).elim⟩⟩

/-! ### for -/
def dLoop (g : TGD) (tb : TSD) (D : EndsD) : List Dv.D → Si → Sd → Prop
  | [], σ, S => D.nx σ S
  | x :: r, σ, S => g x σ S fun σ2 S2 => tb { D with nx := dLoop g tb D r, ct := dLoop g tb D r, bk := D.nx } σ2 S2
def dFor (ti : TID) (g : TGD) (tb : TSD) : TSD := fun D σ S => ti σ S fun xs S1 => dLoop g tb D xs σ S1
theorem ds_for {vs : List Nat} {tg iter : Expr} {body : List Stmt} {ti : TID} {g : TGD} {tb : TSD} (hp : PassesOwn (model X.prog X.w) X.A X.env X.xe) (hc : X.calm = true) (hi : DI X W tg iter ti) (hg : DG X W vs tg g) (hb : DB X W body tb)
    (hs : ∀ x, foldedSetIterable iter X.env x = pure x := by intro _; rfl) : DS X W (.For tg iter body [] pos) (dFor ti g tb) :=
  ⟨PS.imp (ps_for hp hc hi.p hg.p hb.p hs) fun D σ H ⟨σd, S, fr, Dd, ok, cl, h, k⟩ => ⟨σd, S, fr, _, ok, cl, h, fun J xs H1 S1 fr' ok1 it q => by
    refine ⟨fun i m σ' H' => m = xs.length - i ∧ i ≤ xs.length ∧ ∃ σd' S', Ok X.K H' S' (fr' ++ fr) σd' σ' ∧ dLoop g tb Dd (xs.drop i) σd' S', ⟨_, rfl, Nat.zero_le _, σd, S1, ok1, by simpa using q⟩, ?_⟩
    rintro i m σ' H' ⟨rfl, hi, σd', S', ok', q'⟩
    by_cases hlt : i < xs.length
    · have ex : xs[i]? = some xs[i] := List.getElem?_eq_getElem hlt
      have dr : xs.drop i = xs[i] :: xs.drop (i + 1) := List.drop_eq_getElem_cons hlt
      rw [dr] at q'
      obtain ⟨g1, g2⟩ := it.go i _ ex H' S' σd' σ' ok'
      refine .inr ⟨g1, fun σ2 H2 => ∃ σd2 S2, Ok X.K H2 S2 (fr' ++ fr) σd2 σ2 ∧ dLoop g tb Dd (xs.drop (i + 1)) σd2 S2, fun σ2 H2 ⟨σd2, S2, h1, h2⟩ => ⟨_, by omega, rfl, hlt, σd2, S2, h1, h2⟩, fun x H2 y => ?_⟩
      obtain ⟨ok2, r2⟩ := g2 x H2 y
      refine ⟨σd', S', fr' ++ fr, _, xs[i], ok2, cl.pre, r2, q', fun σ3 σd3 H3 S3 ok3 _ q3 => ⟨σd3, S3, fr' ++ fr, _, ok3, cl.pre, q3, ?_⟩⟩
      exact ⟨fun σd4 σ4 H4 S4 ok4 q4 => ⟨σd4, S4, ok4, q4⟩, fun v d σd4 σ4 H4 S4 ok4 r4 q4 => k.rt v d σd4 σ4 H4 S4 ok4.pre r4 q4, fun σd4 σ4 H4 S4 ok4 q4 => k.nx σd4 σ4 H4 S4 ok4.pre q4, fun σd4 σ4 H4 S4 ok4 q4 => ⟨σd4, S4, ok4, q4⟩⟩
    · have e : i = xs.length := by omega
      subst e
      rw [List.drop_length] at q'
      exact .inl ⟨it.stop H' S' σd' σ' ok', k.nx σd' σ' H' S' ok'.pre q'⟩⟩⟩

/-! ### while -/
def dWhile (c : TTD) (tb : TSD) : TSD := fun D σ S => ∃ Wd : Nat → Si → Sd → Prop, (∃ m, Wd m σ S) ∧ ∀ m σ S, Wd m σ S →
  c σ S fun b S1 => if b = true then tb { D with nx := fun σ' S' => ∃ m', m' < m ∧ Wd m' σ' S', ct := fun σ' S' => ∃ m', m' < m ∧ Wd m' σ' S', bk := D.nx } σ S1 else D.nx σ S1
theorem ds_while {body : List Stmt} {tb : TSD} (hp : PassesOwn (model X.prog X.w) X.A X.env X.xe) (hc : DT X W c tc) (hb : DB X W body tb) : DS X W (.While c body [] pos) (dWhile tc tb) :=
  ⟨PS.imp (ps_while hp hc.p hb.p) fun D σ H ⟨σd, S, fr, Dd, ok, cl, ⟨Wd, ⟨m, w⟩, hw⟩, k⟩ =>
    ⟨fun m σ' H' => ∃ σd' S', Ok X.K H' S' fr σd' σ' ∧ Wd m σd' S', ⟨m, σd, S, ok, w⟩, fun m σ' H' ⟨σd', S', ok', w'⟩ => ⟨σd', S', fr, _, ok', cl, hw m σd' S' w', fun b H1 S1 ok1 q => by
      cases b with
      | true =>
        refine (show ∃ N : L2.St → Hp → Prop, _ from ⟨fun σ2 H2 => ∃ m' σd2 S2, m' < m ∧ Ok X.K H2 S2 fr σd2 σ2 ∧ Wd m' σd2 S2, fun σ2 H2 ⟨m', σd2, S2, h1, h2, h3⟩ => ⟨m', h1, σd2, S2, h2, h3⟩, σd', S1, fr, _, ok1, cl, (if_pos rfl : _ = _) ▸ q, ?_⟩)
        exact ⟨fun σd4 σ4 H4 S4 ok4 ⟨m', h1, h2⟩ => ⟨m', σd4, S4, h1, ok4, h2⟩, k.rt, k.nx, fun σd4 σ4 H4 S4 ok4 ⟨m', h1, h2⟩ => ⟨m', σd4, S4, h1, ok4, h2⟩⟩
      | false => exact (show D.nx σ' H1 from k.nx σd' σ' H1 S1 ok1 (by simpa using q))⟩⟩⟩
end
end Dv

/-! Readings by value, 5: comprehensions, defs, the law's end. -/
namespace Dv
open PySem L2 PyProof.Rows

def wipeD (σ : Si) : List Nat → Si
  | [] => σ
  | v :: vs => (wipeD σ vs).set v none
section
variable {K : PySem.W.Frag} {H : Hp} {S : Sd} {fr : List (V × D)} {σd : Si} {σ : L2.St}
theorem Ok.wipe (o : Ok K H S fr σd σ) : ∀ vs : List Nat, Ok K H S fr (wipeD σd vs) (L2.wipe σ vs)
  | [] => o
  | v :: vs => (Ok.wipe o vs).gone v none
theorem wipe_wipe (σ : L2.St) (vs : List Nat) : L2.wipe (L2.wipe σ vs) vs = L2.wipe σ vs := by
  have gen : ∀ (ws : List Nat), (∀ w ∈ ws, w ∈ vs) → L2.wipe (L2.wipe σ ws) vs = L2.wipe σ vs := by
    intro ws
    induction ws with
    | nil => intro _; rfl
    | cons w ws ih =>
      intro h
      show L2.wipe ((L2.wipe σ ws).set w none) vs = L2.wipe σ vs
      rw [wipe_set (h w List.mem_cons_self)]
      exact ih fun x hx => h x (List.mem_cons_of_mem _ hx)
  exact gen vs fun _ h => h
end

section
variable {X : Cx} {W : Wi} {pos : Pos}
structure DTs (X : Cx) (W : Wi) (ifs : List Expr) (t : TTD) : Prop where
  p : PTs X ifs (upT X.K W t)
theorem PTs.imp {ifs : List Expr} {t t' : TT} (h : PTs X ifs t) (k : ∀ σ H Q, t' σ H Q → t σ H Q) : PTs X ifs t' := ⟨fun pins s σ H Q I q => h.run pins s σ H Q I (k _ _ _ q)⟩
def dYes : TTD := fun _ S Q => Q true S
theorem dts_nil : DTs X W [] dYes := ⟨PTs.imp pts_nil fun σ H Q ⟨σd, S, fr, Qd, ok, cl, h, k⟩ => k true H S ok h⟩
def dLcL (g : TGD) (tt : TTD) (te : TED) (p : Addr) (σw : Si) : List D → List D → Sd → (List D → Sd → Prop) → Prop
  | [], acc, S, Q => Q acc S
  | x :: r, acc, S, Q => g x σw S fun σ2 S2 => tt σ2 S2 fun b S3 => if b = true then te σ2 S3 fun y S4 => S4 p = some (.lst acc) ∧ acc.length < 16777216 ∧ dLcL g tt te p σw r (acc ++ [y]) (upS S4 p (.lst (acc ++ [y]))) Q
    else dLcL g tt te p σw r acc S3 Q
def dComp (ti : TID) (g : TGD) (tt : TTD) (te : TED) (vs : List Nat) : TED := fun σ S Q => ti σ S fun xs S1 => ∀ p, S1 p = none → dLcL g tt te p (wipeD σ vs) xs [] (upS S1 p (.lst [])) fun acc S2 => S2 p = some (.lst acc) ∧ Q (.lst acc) (del S2 p)
theorem lc_lift {K : PySem.W.Frag} {ti : TID} {g : TGD} {tt : TTD} {te : TED} {vs : List Nat} (σ : L2.St) (H : Hp) (Q : VK) (h : upE K W (dComp ti g tt te vs) σ H Q) :
    tLc (upI K W ti) (upG K W0 vs g) (upT K W0 tt) (upE K W0 te) vs σ H Q := by
  obtain ⟨σd, S, fr, Qd, ok, cl, h, k⟩ := h
  refine ⟨σd, S, fr, _, ok, cl, h, fun J xs H1 S1 fr' ok1 it q => ?_⟩
  intro Dl hD
  have q0 := q Dl (ok1.rel.free hD)
  have ok2 : Ok K (upd H1 Dl (.lst [])) (upS S1 Dl (.lst [])) (fr' ++ fr) σd σ := ok1.own hD rpL_nil
  have Fin : (List D → Sd → Prop) := fun acc S2 => S2 Dl = some (.lst acc) ∧ Qd (.lst acc) (del S2 Dl)
  refine ⟨fun i m H' => m = xs.length - i ∧ i ≤ xs.length ∧ ∃ S' acc, RelS K H' S' ∧ FrOk K H' S' ((fr' ++ fr) ++ prs σd σ) ∧ dLcL g tt te Dl (wipeD σd vs) (xs.drop i) acc S' (fun acc S2 => S2 Dl = some (.lst acc) ∧ Qd (.lst acc) (del S2 Dl)),
    ⟨_, rfl, Nat.zero_le _, _, [], ok2.rel, ok2.out, by simpa using q0⟩, ?_⟩
  rintro i m H' ⟨rfl, hi, S', acc, R', F', q'⟩
  have okp : Ok K H' S' ((fr' ++ fr) ++ prs σd σ) σd σ := ⟨R', F', ok.len, fun i d e => by
    obtain ⟨v, h1, _⟩ := ok.si i d e
    exact ⟨v, h1, F' (v, d) (List.mem_append_right _ (prs_mem h1 e))⟩⟩
  have ok' : Ok K H' S' (fr' ++ fr) σd σ := ⟨R', fun p hp => F' p (List.mem_append_left _ hp), okp.len, okp.si⟩
  by_cases hlt : i < xs.length
  · have ex : xs[i]? = some xs[i] := List.getElem?_eq_getElem hlt
    have dr : xs.drop i = xs[i] :: xs.drop (i + 1) := List.drop_eq_getElem_cons hlt
    rw [dr] at q'
    obtain ⟨g1, g2⟩ := it.go i _ ex H' S' σd σ ok'
    refine .inr ⟨g1, fun H2 => ∃ S2 acc2, RelS K H2 S2 ∧ FrOk K H2 S2 ((fr' ++ fr) ++ prs σd σ) ∧ dLcL g tt te Dl (wipeD σd vs) (xs.drop (i + 1)) acc2 S2 (fun acc S2 => S2 Dl = some (.lst acc) ∧ Qd (.lst acc) (del S2 Dl)), fun H2 ⟨S2, acc2, h1, h2, h3⟩ => ⟨_, by omega, rfl, hlt, S2, acc2, h1, h2, h3⟩, fun x H2 y => ?_⟩
    obtain ⟨ok3, _⟩ := g2 x H2 y
    obtain ⟨_, r2⟩ := (it.go i _ ex H' S' σd σ ok').2 x H2 y
    have okp3 : Ok K H2 S' ((fr' ++ fr) ++ prs σd σ) σd σ := ⟨ok3.rel, ok3.out, ok3.len, ok3.si⟩
    refine ⟨wipeD σd vs, S', (fr' ++ fr) ++ prs σd σ, _, xs[i], okp3.wipe vs, Cl.zero, r2, q', fun σ3 σd3 H3 S3 ok4 hw q3 => ⟨hw.trans (wipe_wipe σ vs), σd3, S3, (fr' ++ fr) ++ prs σd σ, _, ok4, Cl.zero, q3, fun b H4 S4 ok5 q4 => ?_⟩⟩
    cases b with
    | true =>
      refine (show upE K W0 te σ3 H4 _ from ⟨σd3, S4, (fr' ++ fr) ++ prs σd σ, _, ok5, Cl.zero, (by simpa using q4), fun y dy H5 S5 ok6 r6 q5 => ?_⟩)
      obtain ⟨p1, p2, p3⟩ := q5
      obtain ⟨ws, hv, rl⟩ := rp_obj ok6.rel p1
      have st : Step H5 S5 (upd H5 Dl (.lst (ws ++ [y]))) (upS S5 Dl (.lst (acc ++ [dy]))) := step_set p1
      have okf := ok6.step st (rel_set ok6.rel p1 ⟨_, upd_same, rpL_step ok6.rel st _ _ (rpL_app rl (rpL_cons r6 rpL_nil))⟩)
      exact ⟨ws, hv, by rw [← rpL_len rl]; exact sz_lt' p2, _, _, okf.rel, okf.fr, p3⟩
    | false => exact ⟨S4, acc, ok5.rel, ok5.fr, by simpa using q4⟩
  · have e : i = xs.length := by omega
    subst e
    rw [List.drop_length] at q'
    obtain ⟨p1, p2⟩ := q'
    exact .inl ⟨it.stop H' S' σd σ ok', k _ (.lst acc) H' _ (ok'.pre.step step_del (rel_del ok'.rel)) (rp_frozen ok'.rel p1) p2⟩
theorem de_lc {elt tg iter : Expr} {ifs : List Expr} {scope : Scope} {own : List (Str × Nat)} {ti : TID} {g : TGD} {tt : TTD} {te : TED} (hc : X.calm = true) (hN : X.N.Nodup) (hi : DI X W tg iter ti) (ok : BlkOk X.N X.env.scope scope own)
    (hg : ∀ (s : Shared) (H : Hp) (C : Addr) (cl : List (Str × Addr)) (fp : List Addr), DG (X.blk s H scope (compEnvC scope cl C X.env) fp) W0 (own.map (·.2)) tg g) (ht : ∀ (s : Shared) (H : Hp) (C : Addr) (cl : List (Str × Addr)) (fp : List Addr), DTs (X.blk s H scope (compEnvC scope cl C X.env) fp) W0 ifs tt)
    (he : ∀ (s : Shared) (H : Hp) (C : Addr) (cl : List (Str × Addr)) (fp : List Addr), DE (X.blk s H scope (compEnvC scope cl C X.env) fp) W0 elt te) (hs : ∀ x, foldedSetIterable iter X.env x = pure x := by intro _; rfl) :
    DE X W (.ListComp elt [⟨tg, iter, ifs, 0⟩] scope pos) (dComp ti g tt te (own.map (·.2))) :=
  ⟨PE.imp (pe_lc hc hN hi.p ok (fun s H C cl fp => (hg s H C cl fp).p) (fun s H C cl fp => (ht s H C cl fp).p) (fun s H C cl fp => (he s H C cl fp).p) hs) fun σ H Q h => lc_lift σ H Q h⟩
theorem ds_setLc (i : Nat) {y : Str} {py : Pos} {elt tg iter : Expr} {ifs : List Expr} {scope : Scope} {own : List (Str × Nat)} {spos : Pos} {ti : TID} {g : TGD} {tt : TTD} {te : TED} (hc : X.calm = true) (hN : X.N.Nodup) (hy : X.N[i]? = some y) (hyl : X.env.scope.names.lookup y = some .local)
    (hsw : swapsWith (.ListComp elt [⟨tg, iter, ifs, 0⟩] scope pos) (some (.Name y py)) spos.line X.env = pure true) (hi : DI X W tg iter ti) (ok : BlkOk X.N X.env.scope scope own)
    (hg : ∀ (s : Shared) (H : Hp) (C : Addr) (cl : List (Str × Addr)) (fp : List Addr), DG (X.blk s H scope (compEnvC scope cl C X.env) fp) W0 (own.map (·.2)) tg g) (ht : ∀ (s : Shared) (H : Hp) (C : Addr) (cl : List (Str × Addr)) (fp : List Addr), DTs (X.blk s H scope (compEnvC scope cl C X.env) fp) W0 ifs tt)
    (he : ∀ (s : Shared) (H : Hp) (C : Addr) (cl : List (Str × Addr)) (fp : List Addr), DE (X.blk s H scope (compEnvC scope cl C X.env) fp) W0 elt te) (hs : ∀ x, foldedSetIterable iter X.env x = pure x := by intro _; rfl) :
    DS X W (.Assign [.Name y py] (.ListComp elt [⟨tg, iter, ifs, 0⟩] scope pos) spos) (dSet i (dComp ti g tt te (own.map (·.2)))) :=
  ⟨PS.imp (ps_setLc hc hN hy hyl hsw hi.p ok (fun s H C cl fp => (hg s H C cl fp).p) (fun s H C cl fp => (ht s H C cl fp).p) (fun s H C cl fp => (he s H C cl fp).p) hs) fun D σ H ⟨σd, S, fr, Dd, ok, cl, h, k⟩ =>
    lc_lift (W := W) σ H _ ⟨σd, S, fr, _, ok, cl, h, fun v d H1 S1 ok1 r1 q => k.nx _ _ H1 S1 (ok1.set r1 i) q⟩⟩
end

/-! ### defs -/
def startD (N : List Str) (ds : List D) : Si := ds.map some ++ List.replicate (N.length - ds.length) none
theorem start_ok {K : PySem.W.Frag} {H : Hp} {S : Sd} {fr : List (V × D)} {N : List Str} {ds : List D} {vs : List V} (R : RelS K H S) (F : FrOk K H S fr) (r : RpL K H S ds vs) : Ok K H S fr (startD N ds) (L2.start N vs) := by
  have hl := rpL_len r
  refine ⟨R, F, by unfold startD L2.start; simp [hl], fun i d e => ?_⟩
  unfold startD at e
  unfold L2.start
  rcases Nat.lt_or_ge i ds.length with z | z
  · rw [List.getElem?_append_left (by simpa using z), List.getElem?_map] at e
    cases q : ds[i]? with
    | none => rw [q] at e; cases e
    | some d' =>
      rw [q] at e
      cases e
      obtain ⟨v, h1, h2⟩ := rpL_get r q
      exact ⟨v, by rw [List.getElem?_append_left (by simpa [← hl] using z), List.getElem?_map, h1]; rfl, h2⟩
  · rw [List.getElem?_append_right (by simpa using z), List.getElem?_replicate] at e
    split at e <;> cases e
/-- what a body is run in -/
abbrev bodyCx (P : Program) (w : World) (K : PySem.W.Frag) (mg : Str → Option Value) (base : Heap) (N : List Str) (qual : Str) (st : Stmt) (f : Addr) (cdv : Value) (A : Around) (outer : List Env) (s : Shared) (H : Hp) (E : XK) : Cx :=
  cxOf (L2N.CX P w) P w K mg base N qual (defScope st) f cdv A outer s H E
abbrev wiOf (E : XK) (Ed : XKD) : Wi := ⟨fun cls d _ H => E cls d H, fun x _ S => Ed x S⟩
theorem takesB {P : Program} {w : World} {K : PySem.W.Frag} {mg : Str → Option Value} {base : Heap} {N : List Str} {qual : Str} {st : Stmt} {f : Addr} {cdv : Value} {A : Around} {outer : List Env} {s : Shared} {H : Hp} {E : XK} {Ed : XKD} :
    L2N.Takes (bodyCx P w K mg base N qual st f cdv A outer s H E) (wiOf E Ed).V := L2N.takes_of rfl rfl rfl rfl
theorem passB {P : Program} {w : World} {K : PySem.W.Frag} {mg : Str → Option Value} {base : Heap} {N : List Str} {qual : Str} {st : Stmt} {f : Addr} {cdv : Value} {A : Around} {outer : List Env} {s : Shared} {H : Hp} {E : XK} :
    PassesOwn (model P w) (bodyCx P w K mg base N qual st f cdv A outer s H E).A (bodyCx P w K mg base N qual st f cdv A outer s H E).env (bodyCx P w K mg base N qual st f cdv A outer s H E).xe :=
  passes_of (X := bodyCx P w K mg base N qual st f cdv A outer s H E) rfl
section
variable {P : Program} {w : World} {K : PySem.W.Frag} {mg : Str → Option Value} {base : Heap}
/-- THE RULE for a def -/
theorem okD {x qual : Str} {st : Stmt} {f : Addr} {fd : FuncData} {N ps : List Str} {k : Nat} {sp : SpD} {t : XKD → TSD} (F : Fun K x qual st f fd) (Sc : FnScope N ps (defScope st)) (len : ∀ ds S Q E, sp ds S Q E → ds.length = ps.length)
    (hb : ∀ (cdv : Value) (A : Around) (outer : List Env) (s : Shared) (H : Hp) (E : XK) (Ed : XKD), Hx.RoomG k (A.deeper (envOfC qual (defScope st) s.heap.objs.size f cdv)) → DB (bodyCx P w K mg base N qual st f cdv A outer s H E) (wiOf E Ed) (defBody st) (t Ed))
    (hp : ∀ ds S Q Ed, sp ds S Q Ed → t Ed { nx := fun _ S' => Q .non S', rt := Q } (startD N ds) S) : Hx.FnG P w K mg base (L2N.CX P w) (k + 1) f fd ps (upF K sp) := by
  refine Hx.fnG_of F Sc (fun vs H Q E h => ?_) (fun cdv _ A outer s H vs Q E hr h => ?_)
  · obtain ⟨ds, S, fr, Qd, Ed, R, f, r, h, _⟩ := h
    rw [← rpL_len r]
    exact len ds S Qd Ed h
  · obtain ⟨ds, S, fr, Qd, Ed, R, f, r, h, hq, hx⟩ := h
    refine ⟨_, (hb cdv A outer s H E Ed hr).p, startD N ds, S, fr, { nx := fun _ S' => Qd .non S', rt := Qd }, start_ok R f r, fun σd σ H' S' cls od y o rx q => hx cls od y H' S' o.rel o.fr rx q, hp ds S Qd Ed h, ?_⟩
    exact ⟨fun σd σ H' S' o q => hq .non .non H' S' o.rel o.fr rfl q, fun v d σd σ H' S' o rv q => hq v d H' S' o.rel o.fr rv q, fun _ _ _ _ _ q => q.elim, fun _ _ _ _ _ q => q.elim⟩
end
/-- law's promise -/
def spLawD : SpD := fun ds S Q _ => ∃ ns : List Int, ds = [.lst (ns.map D.int)] ∧ ns.length ≤ 63 ∧ (∀ S', Q (.bl true) S')
theorem law_start {K : PySem.W.Frag} {H : Hp} {a : Addr} {ns : List Int} (h : SqL K H a (ns.map V.int)) (hl : ns.length ≤ 63) : upF K spLawD [.ref a] H (fun v _ => v = .bl true) fun _ _ _ => False := by
  refine ⟨[.lst (ns.map D.int)], fun _ => none, [], fun d _ => d = .bl true, fun _ _ => False, fun a o e => (by cases e), fun p hp => (by cases hp), ?_, ⟨ns, rfl, hl, fun _ => rfl⟩, fun v d H' S' _ _ r e => ?_, fun _ _ _ _ _ _ _ _ q => q⟩
  · refine rpL_cons ⟨a, ns.map V.int, rfl, ?_, rpL_of_ints⟩ rpL_nil
    rcases h with h | h
    · exact .inl ⟨h, rfl⟩
    · exact .inr h
  · subst e
    exact r
theorem CX_no {P : Program} {w : World} {outer : List Env} {H : Hp} {s : Shared} {e : Value} {s' : Shared} (h : L2N.CX P w outer H s (fun _ _ _ => False) e s') : False := by
  obtain ⟨_, _, _, _, _, _, _, _, _, _, _, _, z⟩ := h
  exact z.elim
end Dv

/-! Readings by value, 6: more of the built-ins. -/
namespace PyProof.Rows
open PySem
section
variable {prog : Program} {w : World} {A : Around} {E : Value → Shared → Prop} {s : Shared}
end
end PyProof.Rows

namespace HT
open PySem PyProof.Rows
section
variable {prog : Program} {w : World} {A : Around} {E : Value → Shared → Prop} {s : Shared}
end
end HT

namespace Dv
open PySem L2 PyProof.Rows
section
variable {X : Cx}
/-! ### a text times an int -/
def repS (x : Str) (n : Nat) : Str := ⟨(List.replicate n x.cps).foldl (· ++ ·) #[]⟩
def rRepS : R2 := fun x y H Q => ∃ z k, x = .str z ∧ y = .int k ∧ 0 ≤ k ∧ (z.length : Int) * k ≤ 16777216 ∧ k ≤ 16777216 ∧ Q (.str (repS z k.toNat)) H
theorem fold_rep (x : Array Nat) : ∀ (n : Nat) (acc : Array Nat), ((List.replicate n x).foldl (· ++ ·) acc).toList = acc.toList ++ (List.replicate n x.toList).flatten
  | 0, acc => by simp
  | n + 1, acc => by
    rw [List.replicate_succ, List.foldl_cons, fold_rep x n (acc ++ x)]
    simp [List.replicate_succ]
theorem repS_list (x : Str) (n : Nat) : (repS x n).cps.toList = (List.replicate n x.cps.toList).flatten := by
  unfold repS
  rw [fold_rep]
  rfl
theorem str_ext {x y : Str} (h : x.cps.toList = y.cps.toList) : x = y := by
  cases x; cases y
  congr 1
  exact Array.toList_inj.mp h
theorem op_mulS : OpR X (binaryOp .Mult) rRepS := by
  intro pins s σ H x y v u Q I rx ry h
  obtain ⟨z, k, rfl, rfl, h0, hz, hk, q⟩ := h
  obtain ⟨t, rfl⟩ := rx
  obtain ⟨t', rfl⟩ := ry
  refine PySem.P.mul_str ?_ ?_ ?_ ?_
  · have h1 : ¬ k < -(2 ^ 63 : Int) := by omega
    have h2 : ¬ k ≥ 2 ^ 63 := by omega
    rw [decide_eq_false h1, decide_eq_false h2]; rfl
  · intro h1 h2 h3
    have p1 : (0 : Int) < k := by omega
    have e2 : ((2 ^ 63 - 1 : Int) / k + 1) * k > 2 ^ 63 - 1 := by
      have := Int.lt_ediv_add_one_mul_self (2 ^ 63 - 1 : Int) p1
      omega
    have e3 : (2 ^ 63 - 1 : Int) / k + 1 ≤ z.length := by omega
    have e4 : ((2 ^ 63 - 1 : Int) / k + 1) * k ≤ z.length * k := Int.mul_le_mul_of_nonneg_right e3 (by omega)
    omega
  · intro h1 h2
    have e : ((z.length * k.toNat : Nat) : Int) = z.length * k := by
      rw [Int.natCast_mul, Int.toNat_of_nonneg h0]
    refine decide_eq_false ?_
    rw [sl_eq]
    omega
  · by_cases h1 : k < 1
    · rw [if_pos h1]
      have e : k = 0 := by omega
      subst e
      exact ⟨by decide, ⟨.str (repS z 0), H, I.tok _, ⟨_, rfl⟩, q⟩⟩
    · rw [if_neg h1]
      by_cases h2 : (k == 1 || z.length == 0) = true
      · rw [if_pos h2]
        have e : repS z k.toNat = z := by
          refine str_ext ?_
          rw [repS_list]
          rcases Bool.or_eq_true_iff.mp h2 with e | e
          · have e1 : k = 1 := eq_of_beq e
            subst e1
            simp
          · have e1 : z.length = 0 := eq_of_beq e
            have e2 : z.cps.toList = [] := List.length_eq_zero_iff.mp (by simpa [Str.length] using e1)
            rw [e2]
            simp
        rw [e] at q
        exact ⟨.str z, H, I, ⟨_, rfl⟩, q⟩
      · rw [if_neg h2]
        have hl : (repS z k.toNat).length ≤ sizeLine := by
          have e : (repS z k.toNat).length = k.toNat * z.length := by
            have := congrArg List.length (repS_list z k.toNat)
            simpa [Str.length] using this
          have e2 : ((k.toNat * z.length : Nat) : Int) = k * z.length := by
            rw [Int.natCast_mul, Int.toNat_of_nonneg h0]
          have e3 : k * (z.length : Int) = z.length * k := Int.mul_comm _ _
          rw [e, sl_eq]
          omega
        exact ⟨hl, ⟨.str (repS z k.toNat), H, I.tok _, ⟨_, rfl⟩, q⟩⟩
def rdMul : RD2
  | .int i, .int j, S, Q => i.natAbs.log2 + j.natAbs.log2 < 1000000 ∧ Q (.int (i * j)) S
  | .str z, .int k, S, Q => (0 ≤ k ∧ (z.length : Int) * k ≤ 16777216 ∧ k ≤ 16777216) ∧ Q (.str (repS z k.toNat)) S
  | _, _, _, _ => False
end

/-! ### xs[::-1] -/
section
variable {X : Cx} {W : Wi} {e : Expr} {te : TED} {pos : Pos}
def revS (z : Str) : Str := ⟨z.cps.toList.reverse.toArray⟩
def dRev (te : TED) : TED := fun σ S Q => te σ S fun x S1 => match x with
  | .tup ds => Q (.tup ds.reverse) S1
  | .lst ds => Q (.lst ds.reverse) S1
  | .str z => z.length ≤ 16777216 ∧ Q (.str (revS z)) S1
  | .obj a => match S1 a with
    | some (.lst ds) => Q (.lst ds.reverse) S1
    | _ => False
  | _ => False
/-! ### for over a list, a tuple, a text -/
def iAny (K : PySem.W.Frag) (tl : TE) : TI := fun σ H R => tl σ H fun x H1 => (∃ a, x = .ref a ∧ (∃ xs, SqL K H1 a xs) ∧ R (Itl K a) H1) ∨ (∃ a, x = .ref a ∧ (∃ xs, SqT K H1 a xs) ∧ R (Itt K a) H1) ∨ (∃ z, x = .str z ∧ R (Its z) H1)
theorem pi_any {tg : Expr} {tl : TE} (hl : PE X e tl) : PI X tg e (iAny X.K tl) := by
  refine ⟨fun pins s σ H R I h => ?_⟩
  refine thn (hl.run pins s σ H _ I h) fun v s1 ⟨x, H1, I1, r1, q1⟩ => ?_
  rcases q1 with ⟨a, ex, ⟨xs, hq⟩, q⟩ | ⟨a, ex, ⟨xs, hq⟩, q⟩ | ⟨z, ex, q⟩
  · subst ex
    cases r1
    obtain ⟨its, rv, p, hz⟩ := I1.list hq
    refine wpAny_pyIter_list p.isList ?_
    refine ⟨s1.heap.objs.size, [s1.heap.objs.size], _, _, H1, rfl, I1.kept (t' := s1.toks) fun b o e => Heap.get?_push_of_some _ e, turn_list a _, ⟨_, Heap.get?_push_size _ rfl, rfl, rfl⟩, fun b hb => ?_, q⟩
    have e : b = s1.heap.objs.size := by simpa using hb
    subst e
    exact I1.fpOk (Nat.le_refl _) (I1.hok.fresh (Nat.le_refl _))
  · subst ex
    cases r1
    obtain ⟨its, rv, p, hz⟩ := I1.tuple hq
    refine wpAny_pyIter_tuple (show s1.heap.IsTuple a its.toArray from p) ?_
    refine ⟨s1.heap.objs.size, [s1.heap.objs.size], _, _, H1, rfl, I1.kept (t' := s1.toks) fun b o e => Heap.get?_push_of_some _ e, turn_tuple a _, ⟨_, Heap.get?_push_size _ rfl, rfl, rfl⟩, fun b hb => ?_, q⟩
    have e : b = s1.heap.objs.size := by simpa using hb
    subst e
    exact I1.fpOk (Nat.le_refl _) (I1.hok.fresh (Nat.le_refl _))
  · subst ex
    obtain ⟨t, rfl⟩ := r1
    cases ha : z.cps.all (· < 128)
    · exact wpAny_pyIter_wide ha (pi_one (tk := s1.toks) I1 _ (turn_str _ z t "str_iterator" (.inr rfl)) ⟨_, Heap.get?_push_size _ rfl, rfl, rfl⟩ q)
    · exact wpAny_pyIter_ascii ha (pi_one (tk := s1.toks) I1 _ (turn_str _ z t "str_ascii_iterator" (.inl rfl)) ⟨_, Heap.get?_push_size _ rfl, rfl, rfl⟩ q)
def sgD (z : Str) : List D := z.cps.toList.map fun c => D.str ⟨#[c]⟩
theorem itd_str {K : PySem.W.Frag} {z : Str} {fr : List (V × D)} : ItD K (Its z) (sgD z) fr where
  go := fun i d e H S σd σ ok => by
    unfold sgD at e
    rw [List.getElem?_map] at e
    cases q : z.cps.toList[i]? with
    | none => rw [q] at e; cases e
    | some c =>
      rw [q] at e
      cases e
      have q2 : z.cps[i]? = some c := by simpa using q
      refine ⟨(Array.getElem?_eq_some_iff.mp q2).1, fun x H' y => ?_⟩
      obtain ⟨e2, c', e3, y⟩ := y
      subst e2
      rw [q2] at e3
      cases e3
      subst y
      exact ⟨ok, rfl⟩
  stop := fun H S σd σ ok => by
    show z.cps.size ≤ (sgD z).length
    unfold sgD
    simp
def dItr (te : TED) : TID := fun σ S R => te σ S fun x S1 => match x with
  | .lst ds => R ds S1
  | .tup ds => R ds S1
  | .str z => R (sgD z) S1
  | _ => False
theorem di_any {tg : Expr} (hl : DE X W e te) : DI X W tg e (dItr te) := ⟨PI.imp (pi_any hl.p) fun σ H R ⟨σd, S, fr, Rd, ok, cl, h, k⟩ => ⟨σd, S, fr, _, ok, cl, h, fun x dx H1 S1 ok1 r1 q => by
  cases dx with
  | lst ds =>
    obtain ⟨a, vs, e, q1, r2⟩ := rp_list ok1.rel r1
    subst e
    exact .inl ⟨a, rfl, ⟨vs, q1⟩, k _ ds H1 S1 [(.ref a, .lst ds)] (ok1.cons r1) itd_list q⟩
  | tup ds =>
    obtain ⟨a, vs, e, q1, r2⟩ := id r1
    subst e
    exact .inr (.inl ⟨a, rfl, ⟨vs, q1⟩, k _ ds H1 S1 [(.ref a, .tup ds)] (ok1.cons r1) itd_tup q⟩)
  | str z => exact .inr (.inr ⟨z, r1, k _ (sgD z) H1 S1 [] ok1 itd_str q⟩)
  | _ => exact (show False from q).elim⟩⟩

/-! ### a, b, c = x, y, z -/
def dPar3 (i j l : Nat) (ta : TAD) : TSD := fun D σ S => ta σ S fun vs S1 => match vs with
  | [v, w, u] => D.nx (((σ.set i (some v)).set j (some w)).set l (some u)) S1
  | _ => False
end
end Dv

/-! Readings by value, x: the rows by which a reading is run. -/
namespace Dv
open PySem L2 PyProof.Rows
theorem isi_non_int  : isiD (.non) "int" = some false := by
  show kitB "NoneType" "int" = some false
  decide +kernel
theorem isi_non_bool  : isiD (.non) "bool" = some false := by
  show kitB "NoneType" "bool" = some false
  decide +kernel
theorem isi_non_str  : isiD (.non) "str" = some false := by
  show kitB "NoneType" "str" = some false
  decide +kernel
theorem isi_non_tuple  : isiD (.non) "tuple" = some false := by
  show kitB "NoneType" "tuple" = some false
  decide +kernel
theorem isi_non_list  : isiD (.non) "list" = some false := by
  show kitB "NoneType" "list" = some false
  decide +kernel
theorem isi_bl_int (b : Bool) : isiD (.bl b) "int" = some true := by
  show kitB "bool" "int" = some true
  decide +kernel
theorem isi_bl_bool (b : Bool) : isiD (.bl b) "bool" = some true := by
  show kitB "bool" "bool" = some true
  decide +kernel
theorem isi_bl_str (b : Bool) : isiD (.bl b) "str" = some false := by
  show kitB "bool" "str" = some false
  decide +kernel
theorem isi_bl_tuple (b : Bool) : isiD (.bl b) "tuple" = some false := by
  show kitB "bool" "tuple" = some false
  decide +kernel
theorem isi_bl_list (b : Bool) : isiD (.bl b) "list" = some false := by
  show kitB "bool" "list" = some false
  decide +kernel
theorem isi_int_int (i : Int) : isiD (.int i) "int" = some true := by
  show kitB "int" "int" = some true
  decide +kernel
theorem isi_int_bool (i : Int) : isiD (.int i) "bool" = some false := by
  show kitB "int" "bool" = some false
  decide +kernel
theorem isi_int_str (i : Int) : isiD (.int i) "str" = some false := by
  show kitB "int" "str" = some false
  decide +kernel
theorem isi_int_tuple (i : Int) : isiD (.int i) "tuple" = some false := by
  show kitB "int" "tuple" = some false
  decide +kernel
theorem isi_int_list (i : Int) : isiD (.int i) "list" = some false := by
  show kitB "int" "list" = some false
  decide +kernel
theorem isi_str_int (x : Str) : isiD (.str x) "int" = some false := by
  show kitB "str" "int" = some false
  decide +kernel
theorem isi_str_bool (x : Str) : isiD (.str x) "bool" = some false := by
  show kitB "str" "bool" = some false
  decide +kernel
theorem isi_str_str (x : Str) : isiD (.str x) "str" = some true := by
  show kitB "str" "str" = some true
  decide +kernel
theorem isi_str_tuple (x : Str) : isiD (.str x) "tuple" = some false := by
  show kitB "str" "tuple" = some false
  decide +kernel
theorem isi_str_list (x : Str) : isiD (.str x) "list" = some false := by
  show kitB "str" "list" = some false
  decide +kernel
theorem isi_tup_int (xs : List D) : isiD (.tup xs) "int" = some false := by
  show kitB "tuple" "int" = some false
  decide +kernel
theorem isi_tup_bool (xs : List D) : isiD (.tup xs) "bool" = some false := by
  show kitB "tuple" "bool" = some false
  decide +kernel
theorem isi_tup_str (xs : List D) : isiD (.tup xs) "str" = some false := by
  show kitB "tuple" "str" = some false
  decide +kernel
theorem isi_tup_tuple (xs : List D) : isiD (.tup xs) "tuple" = some true := by
  show kitB "tuple" "tuple" = some true
  decide +kernel
theorem isi_tup_list (xs : List D) : isiD (.tup xs) "list" = some false := by
  show kitB "tuple" "list" = some false
  decide +kernel
theorem isi_lst_int (xs : List D) : isiD (.lst xs) "int" = some false := by
  show kitB "list" "int" = some false
  decide +kernel
theorem isi_lst_bool (xs : List D) : isiD (.lst xs) "bool" = some false := by
  show kitB "list" "bool" = some false
  decide +kernel
theorem isi_lst_str (xs : List D) : isiD (.lst xs) "str" = some false := by
  show kitB "list" "str" = some false
  decide +kernel
theorem isi_lst_tuple (xs : List D) : isiD (.lst xs) "tuple" = some false := by
  show kitB "list" "tuple" = some false
  decide +kernel
theorem isi_lst_list (xs : List D) : isiD (.lst xs) "list" = some true := by
  show kitB "list" "list" = some true
  decide +kernel
section
variable {S : Sd} {Q : DK} {R : List D → Sd → Prop} {σ : Si}
theorem x_var0 {d : D} {r : Si} : dVar 0 (some d :: r) S Q = Q d S := rfl
theorem x_varS {o : Option D} {r : Si} {i : Nat} : dVar (i + 1) (o :: r) S Q = dVar i r S Q := rfl
theorem ite_tt {P R : Prop} : (if true = true then P else R) = P := if_pos rfl
theorem ite_ff {P R : Prop} : (if false = true then P else R) = R := if_neg Bool.false_ne_true
theorem x_len_tup {ds : List D} : rdLen [.tup ds] S Q = Q (.int ds.length) S := rfl
theorem x_len_lst {ds : List D} : rdLen [.lst ds] S Q = Q (.int ds.length) S := rfl
theorem x_len_str {z : Str} : rdLen [.str z] S Q = (z.length ≤ 16777216 ∧ Q (.int z.length) S) := rfl
theorem x_isi {d : D} {n : String} : rdIsi [d, .ty n] S Q = match isiD d n with | some b => Q (.bl b) S | none => False := rfl
theorem x_ixt {ds : List D} {i : Int} : rdIx (.tup ds) (.int i) S Q = ixQ S Q (atI ds i) := rfl
theorem x_ixl {ds : List D} {i : Int} : rdIx (.lst ds) (.int i) S Q = ixQ S Q (atI ds i) := rfl
theorem x_ixo {a : Addr} {ds : List D} {i : Int} (h : S a = some (.lst ds)) : rdIx (.obj a) (.int i) S Q = ixQ S Q (atI ds i) := by
  show (match S a with | some (.lst ds) => ixQ S Q (atI ds i) | _ => False) = _
  rw [h]
theorem x_set {a : Addr} {ds : List D} {i : Int} {j : Nat} {v : D} {Q : Sd → Prop} (h : S a = some (.lst ds)) (hj : ixN ds.length i = some j) : setQ S (.int i) v Q (.obj a) = Q (upS S a (.lst (ds.set j v))) := by
  show (match S a, (D.int i) with | some (.lst ds), .int i => (match ixN ds.length i with | some j => Q (upS S a (.lst (ds.set j v))) | none => False) | _, _ => False) = _
  rw [h]
  dsimp only
  rw [hj]
end
theorem ixN_nat {n : Nat} {j : Nat} (h : j < n) : ixN n (j : Int) = some j := by
  unfold ixN
  rw [if_pos (Int.natCast_nonneg j), if_pos (by omega)]
  simp
theorem atI_lt {ds : List D} {i : Int} (h0 : 0 ≤ i) (h1 : i < ds.length) : atI ds i = ds[i.toNat]? := by
  unfold atI ixN
  rw [if_pos h0, if_pos h1]
  rfl
theorem atI_some {ds : List D} {i : Int} (h0 : 0 ≤ i) (h1 : i < ds.length) : ∃ d, atI ds i = some d ∧ d ∈ ds := by
  rw [atI_lt h0 h1]
  have h2 : i.toNat < ds.length := by omega
  exact ⟨ds[i.toNat], List.getElem?_eq_getElem h2, List.getElem_mem h2⟩

section
variable {S : Sd} {Q : DK} {i j : Int} {k l : Bool} {x y : Str} {xs ys : List D}
theorem x_add_ii : rdAdd (.int i) (.int j) S Q = Q (.int (i + j)) S := rfl
theorem x_add_ib : rdAdd (.int i) (.bl k) S Q = Q (.int (i + b2i k)) S := rfl
theorem x_add_ss : rdAdd (.str x) (.str y) S Q = (x.length + y.length ≤ 16777216 ∧ Q (.str (x ++ y)) S) := rfl
theorem x_add_tt : rdAdd (.tup xs) (.tup ys) S Q = (xs.length + ys.length ≤ 16777216 ∧ Q (.tup (xs ++ ys)) S) := rfl
theorem x_add_ll : rdAdd (.lst xs) (.lst ys) S Q = (xs.length + ys.length ≤ 16777216 ∧ Q (.lst (xs ++ ys)) S) := rfl
theorem x_sub : rdSub (.int i) (.int j) S Q = Q (.int (i - j)) S := rfl
theorem x_mul : rdMul (.int i) (.int j) S Q = (i.natAbs.log2 + j.natAbs.log2 < 1000000 ∧ Q (.int (i * j)) S) := rfl
theorem x_mul_s : rdMul (.str x) (.int j) S Q = ((0 ≤ j ∧ (x.length : Int) * j ≤ 16777216 ∧ j ≤ 16777216) ∧ Q (.str (repS x j.toNat)) S) := rfl
theorem x_fdiv : rdFdiv (.int i) (.int j) S Q = ((j ≠ 0 ∧ j.natAbs.log2 < 9000) ∧ Q (.int (i.fdiv j)) S) := rfl
theorem x_mod : rdMod (.int i) (.int j) S Q = (j ≠ 0 ∧ Q (.int (i.fmod j)) S) := rfl
theorem x_pow : rdPow (.int i) (.int j) S Q = ((0 ≤ j ∧ ((i.natAbs.log2 : Int) + 1) * j ≤ 134217728) ∧ Q (.int (i ^ j.toNat)) S) := rfl
theorem x_neg : rdNeg (.int i) S Q = Q (.int (-i)) S := rfl
theorem x_lt : rdLt (.int i) (.int j) S Q = Q (.bl (decide (i < j))) S := rfl
theorem x_le : rdLe (.int i) (.int j) S Q = Q (.bl (decide (i ≤ j))) S := rfl
theorem x_gt : rdGt (.int i) (.int j) S Q = Q (.bl (decide (j < i))) S := rfl
theorem x_ge : rdGe (.int i) (.int j) S Q = Q (.bl (decide (j ≤ i))) S := rfl
theorem x_eq_ii : rdEq (.int i) (.int j) S Q = Q (.bl (decide (i = j))) S := rfl
theorem x_eq_ss : rdEq (.str x) (.str y) S Q = Q (.bl (decide (x = y))) S := rfl
theorem x_eq_bb : rdEq (.bl k) (.bl l) S Q = Q (.bl (decide (k = l))) S := rfl
theorem x_ne_ii : rdNe (.int i) (.int j) S Q = Q (.bl (!decide (i = j))) S := rfl
theorem x_ne_ss : rdNe (.str x) (.str y) S Q = Q (.bl (!decide (x = y))) S := rfl
theorem x_ne_bb : rdNe (.bl k) (.bl l) S Q = Q (.bl (!decide (k = l))) S := rfl
theorem x_abs : rdAbs [.int i] S Q = Q (.int (if i < 0 then -i else i)) S := rfl
theorem x_max2 : rdMax2 [.int i, .int j] S Q = Q (.int (if j > i then j else i)) S := rfl
theorem x_min2 : rdMin2 [.int i, .int j] S Q = Q (.int (if j < i then j else i)) S := rfl
theorem x_int_i : rdInt [.int i] S Q = Q (.int i) S := rfl
theorem x_int_b : rdInt [.bl k] S Q = Q (.int (if k then 1 else 0)) S := rfl
theorem x_sl_t {lo hi : Option Int} : rdSl (.tup xs) lo hi S Q = Q (.tup (cutD xs lo hi)) S := rfl
theorem x_sl_l {lo hi : Option Int} : rdSl (.lst xs) lo hi S Q = Q (.lst (cutD xs lo hi)) S := rfl
theorem x_sl_s {lo hi : Option Int} : rdSl (.str x) lo hi S Q = (x.length ≤ 16777216 ∧ Q (.str (cutS x lo hi)) S) := rfl
theorem x_ixs : rdIx (.str x) (.int i) S Q = (x.length ≤ 16777216 ∧ ixS S Q (atI x.cps.toList i)) := rfl
theorem x_allb {bs : List Bool} (e : xs = bs.map D.bl) (h : Q (.bl (bs.all id)) S) : rdAll [.lst xs] S Q := ⟨bs, by rw [e]; rfl, h⟩
end
theorem atI_0 {α : Type} {a : α} {r : List α} : atI (a :: r) 0 = some a := atI_nat (j := 0) rfl
theorem atI_1 {α : Type} {a b : α} {r : List α} : atI (a :: b :: r) 1 = some b := atI_nat (j := 1) rfl
theorem atI_2 {α : Type} {a b c : α} {r : List α} : atI (a :: b :: c :: r) 2 = some c := atI_nat (j := 2) rfl
theorem atI_3 {α : Type} {a b c d : α} {r : List α} : atI (a :: b :: c :: d :: r) 3 = some d := atI_nat (j := 3) rfl
theorem x_ixQ {S : Sd} {Q : DK} {d : D} : ixQ S Q (some d) = Q d S := rfl
theorem x_ixS {S : Sd} {Q : DK} {c : Nat} : ixS S Q (some c) = Q (.str ⟨#[c]⟩) S := rfl
theorem log2_lt {a : Int} {n : Nat} (h : a.natAbs < 2 ^ n) (h0 : 0 < n) : a.natAbs.log2 < n := PySem.Flt.log2_lt_of h0 h
/-! ### joints, loops -/
theorem seq_cut {t v : TSD} {E : EndsD} {σ : Si} {S : Sd} (Mid : Si → Sd → Prop) (h1 : ∀ N : Si → Sd → Prop, (∀ σ' S', Mid σ' S' → N σ' S') → t { E with nx := N } σ S) (h2 : ∀ σ' S', Mid σ' S' → v E σ' S') : dSeq t v E σ S := h1 (v E) h2
section
variable {g : TGD} {tb : TSD} {E : EndsD} {xs : List D}
theorem loop_pre (I : List D → Si → Sd → Prop) (hs : ∀ (p : List D) (x : D) (r : List D) (σ : Si) (S : Sd) (N : Si → Sd → Prop), xs = p ++ x :: r → I p σ S → (∀ σ' S', I (p ++ [x]) σ' S' → N σ' S') → g x σ S fun σ2 S2 => tb { E with nx := N, ct := N, bk := E.nx } σ2 S2)
    (hd : ∀ σ S, I xs σ S → E.nx σ S) : ∀ (r p : List D) (σ : Si) (S : Sd), xs = p ++ r → I p σ S → dLoop g tb E r σ S
  | [], p, σ, S, e, h => by
    rw [List.append_nil] at e
    rw [← e] at h
    exact hd σ S h
  | x :: r, p, σ, S, e, h => hs p x r σ S _ e h fun σ' S' h' => loop_pre I hs hd r (p ++ [x]) σ' S' (by rw [e]; simp) h'
theorem loop_all (I : List D → Si → Sd → Prop) {σ : Si} {S : Sd} (h0 : I [] σ S) (hs : ∀ (p : List D) (x : D) (r : List D) (σ : Si) (S : Sd) (N : Si → Sd → Prop), xs = p ++ x :: r → I p σ S → (∀ σ' S', I (p ++ [x]) σ' S' → N σ' S') → g x σ S fun σ2 S2 => tb { E with nx := N, ct := N, bk := E.nx } σ2 S2)
    (hd : ∀ σ S, I xs σ S → E.nx σ S) : dLoop g tb E xs σ S := loop_pre I hs hd xs [] σ S rfl h0
theorem rgD_len (lo : Int) (n : Nat) : (rgD lo n).length = n := by unfold rgD; rw [List.length_map, List.length_range]
theorem rgD_at {lo : Int} {n : Nat} {p r : List D} {x : D} (e : rgD lo n = p ++ x :: r) : x = .int (lo + p.length) ∧ p.length < n := by
  have h1 : (rgD lo n)[p.length]? = some x := by rw [e]; simp
  unfold rgD at h1
  rw [List.getElem?_map] at h1
  cases q : (List.range n)[p.length]? with
  | none => rw [q] at h1; cases h1
  | some j =>
    rw [q] at h1
    obtain ⟨h2, h3⟩ := List.getElem?_eq_some_iff.mp q
    rw [List.getElem_range] at h3
    subst h3
    exact ⟨(Option.some.inj h1).symm, by simpa using h2⟩
theorem loop_rng {lo : Int} {n : Nat} (I : Nat → Si → Sd → Prop) {σ : Si} {S : Sd} (h0 : I 0 σ S) (hs : ∀ (i : Nat) (σ : Si) (S : Sd) (N : Si → Sd → Prop), i < n → I i σ S → (∀ σ' S', I (i + 1) σ' S' → N σ' S') → g (.int (lo + i)) σ S fun σ2 S2 => tb { E with nx := N, ct := N, bk := E.nx } σ2 S2)
    (hd : ∀ σ S, I n σ S → E.nx σ S) : dLoop g tb E (rgD lo n) σ S :=
  loop_all (fun p σ S => I p.length σ S) h0 (fun p x r σ S N e h k => by
    obtain ⟨rfl, h1⟩ := rgD_at e
    exact hs p.length σ S N h1 h fun σ' S' h' => k σ' S' (by rw [List.length_append]; exact h')) fun σ S h => hd σ S (by rw [rgD_len] at h; exact h)
theorem sgD_at {z : Str} {p r : List D} {x : D} (e : sgD z = p ++ x :: r) : ∃ (q : List Nat) (c : Nat) (s : List Nat), z.cps.toList = q ++ c :: s ∧ x = .str ⟨#[c]⟩ ∧ p = q.map (fun c => D.str ⟨#[c]⟩) := by
  unfold sgD at e
  obtain ⟨q, t, e1, e2, e3⟩ := List.map_eq_append_iff.mp e
  obtain ⟨c, s, e4, e5, e6⟩ := List.map_eq_cons_iff.mp e3
  exact ⟨q, c, s, by rw [e1, e4], e5.symm, e2.symm⟩
theorem map_str_inj : ∀ {a b : List Nat}, a.map (fun c => D.str ⟨#[c]⟩) = b.map (fun c => D.str ⟨#[c]⟩) → a = b
  | [], [], _ => rfl
  | [], _ :: _, h => by cases h
  | _ :: _, [], h => by cases h
  | x :: a, y :: b, h => by
    rw [List.map_cons, List.map_cons] at h
    injection h with h1 h2
    injection h1 with h3
    injection h3 with h4
    have h5 : x = y := by simpa using h4
    rw [h5, map_str_inj h2]
theorem loop_str {z : Str} (I : List Nat → Si → Sd → Prop) {σ : Si} {S : Sd} (h0 : I [] σ S) (hs : ∀ (p : List Nat) (c : Nat) (r : List Nat) (σ : Si) (S : Sd) (N : Si → Sd → Prop), z.cps.toList = p ++ c :: r → I p σ S → (∀ σ' S', I (p ++ [c]) σ' S' → N σ' S') → g (.str ⟨#[c]⟩) σ S fun σ2 S2 => tb { E with nx := N, ct := N, bk := E.nx } σ2 S2)
    (hd : ∀ σ S, I z.cps.toList σ S → E.nx σ S) : dLoop g tb E (sgD z) σ S :=
  loop_all (fun p σ S => ∃ q : List Nat, p = q.map (fun c => D.str ⟨#[c]⟩) ∧ I q σ S) ⟨[], rfl, h0⟩ (fun p x r σ S N e ⟨q, eq, h⟩ k => by
    obtain ⟨q2, c, s, e1, rfl, e3⟩ := sgD_at e
    have e4 : q = q2 := map_str_inj (eq.symm.trans e3)
    subst e4
    exact hs q c s σ S N e1 h fun σ' S' h' => k σ' S' ⟨q ++ [c], by rw [List.map_append, eq]; rfl, h'⟩) fun σ S ⟨q, eq, h⟩ => hd σ S (by
      have e : z.cps.toList = q := map_str_inj eq
      rw [e]; exact h)
end
/-! ### comprehensions without a trace -/
theorem lcL_pure {te : TED} {p : Addr} {σw : Si} {i : Nat} {S : Sd} (f : D → D) : ∀ (xs acc : List D) (Q : List D → Sd → Prop), (∀ x ∈ xs, ∀ S' (Q' : DK), Q' (f x) S' → te (σw.set i (some x)) S' Q') → acc.length + xs.length ≤ 16777216 →
    Q (acc ++ xs.map f) (upS S p (.lst (acc ++ xs.map f))) → dLcL (dName i) dYes te p σw xs acc (upS S p (.lst acc)) Q
  | [], acc, Q, _, _, q => by
    rw [List.map_nil, List.append_nil] at q
    exact q
  | x :: r, acc, Q, h, hl, q => by
    rw [List.length_cons] at hl
    show (if true = true then te (σw.set i (some x)) (upS S p (.lst acc)) fun y S4 => S4 p = some (.lst acc) ∧ acc.length < 16777216 ∧ dLcL (dName i) dYes te p σw r (acc ++ [y]) (upS S4 p (.lst (acc ++ [y]))) Q else dLcL (dName i) dYes te p σw r acc (upS S p (.lst acc)) Q)
    rw [if_pos rfl]
    refine h x List.mem_cons_self _ _ ⟨upS_same, by omega, ?_⟩
    rw [upS_upS]
    refine lcL_pure f r (acc ++ [f x]) Q (fun y hy => h y (List.mem_cons_of_mem _ hy)) (by rw [List.length_append, List.length_singleton]; omega) ?_
    rw [List.append_assoc]
    exact q
theorem comp_pure {ti : TID} {te : TED} {i : Nat} {vs : List Nat} {σ : Si} {S : Sd} {Q : DK} (f : D → D) (xs : List D) (S1 : Sd) (hti : ∀ R : List D → Sd → Prop, R xs S1 → ti σ S R) (h : ∀ x ∈ xs, ∀ S' (Q' : DK), Q' (f x) S' → te ((wipeD σ vs).set i (some x)) S' Q') (hl : xs.length ≤ 16777216)
    (q : Q (.lst (xs.map f)) S1) : dComp ti (dName i) dYes te vs σ S Q := hti _ fun p hp => by
  refine lcL_pure f xs [] _ h (by simpa using hl) ⟨upS_same, ?_⟩
  rw [del_upS hp]
  exact q
end Dv

/-! Readings by value, y: texts, is, draws in a comprehension, loops with a measure. -/
namespace Dv
open PySem L2 PyProof.Rows
section
variable {X : Cx} {W : Wi}
/-! ### is -/
def rdIs : RD2 := fun x y S Q => match y with
  | .non => rdIsN x .non S Q
  | .bl b => (match x with | .bl a => Q (.bl (decide (a = b))) S | _ => False)
  | _ => False
def rdIsNot : RD2 := fun x y S Q => match y with
  | .non => rdNotN x .non S Q
  | .bl b => (match x with | .bl a => Q (.bl (!decide (a = b))) S | _ => False)
  | _ => False
theorem od_is : OpD X (compareOp .Is) rdIs := by
  obtain ⟨r, h, l⟩ := od_isN (X := X)
  refine ⟨_, h.or op_isBl, fun H S fr σd σ x y dx dy Qv Qd ok rx ry q k => ?_⟩
  cases dy with
  | non => exact .inl (l H S fr σd σ x y dx .non Qv Qd ok rx ry q k)
  | bl b =>
    cases dx with
    | bl a =>
      refine .inr ⟨a, b, rx, ry, k _ (.bl _) H S ok rfl q⟩
    | _ => exact (show False from q).elim
  | _ => exact (show False from q).elim
/-! ### one sign in a text -/
def rdInS : RD2 := fun x y S Q => match x, y with
  | .str a, .str z => ∃ c, a = ⟨#[c]⟩ ∧ Q (.bl (decide (c ∈ z.cps.toList))) S
  | _, _ => False
theorem od_inS : OpD X (compareOp .In) rdInS := ⟨_, op_in_sign, fun H S fr σd σ x y dx dy Qv Qd ok rx ry q k => by
  cases dx with
  | str a => cases dy with
    | str z =>
      obtain ⟨c, rfl, q2⟩ := (show ∃ c, a = ⟨#[c]⟩ ∧ _ from q)
      exact ⟨c, z, rx, ry, k _ (.bl _) H S ok rfl q2⟩
    | _ => exact (show False from q).elim
  | _ => exact (show False from q).elim⟩
/-! ### methods of texts -/
def rdJoin : RDM := fun o vs S Q => match o, vs with
  | .str a, [d] => ∃ ys : List Str, itemsD S d = some (ys.map D.str) ∧ (ys.map (·.length)).sum + ys.length * a.length ≤ 16777216 ∧ Q (.str (Txt.join a ys)) S
  | _, _ => False
theorem join_lift : LiftM X.K (fun x xs H Q => ∃ a p, ∃ ys : List Str, x = .str a ∧ xs = [.ref p] ∧ (SqL X.K H p (ys.map V.str) ∨ SqT X.K H p (ys.map V.str)) ∧
    (ys.map (·.length)).sum + ys.length * a.length ≤ 16777216 ∧ Q (.str (Txt.join a ys)) H) rdJoin := fun H S fr σd σ x dx xs ds Qv Qd ok rx rs h k => by
  match dx, ds, h with
  | .str a, [d], h =>
    obtain ⟨ys, e, hl, q⟩ := (show ∃ ys : List Str, itemsD S d = some (ys.map D.str) ∧ _ from h)
    obtain ⟨v, rfl, r1⟩ := rpL1 rs
    obtain ⟨p, vs, rfl, hq, r2⟩ := rp_items ok.rel r1 e
    cases rpL_strs r2
    exact ⟨a, p, ys, rx, rfl, hq, hl, k _ (.str _) H S ok rfl q⟩
def rdCount : RDM := fun o vs S Q => match o, vs with
  | .str a, [.str b] => Q (.int (Txt.count a b)) S
  | _, _ => False
theorem count_lift {K : PySem.W.Frag} : LiftM K (fun x xs H Q => ∃ a b, x = .str a ∧ xs = [.str b] ∧ Q (.int (Txt.count a b)) H) rdCount := fun H S fr σd σ x dx xs ds Qv Qd ok rx rs h k => by
  match dx, ds, h with
  | .str a, [.str b], h =>
    obtain ⟨v, rfl, r1⟩ := rpL1 rs
    have e : v = .str b := r1
    subst e
    exact ⟨a, b, rx, rfl, k _ (.int _) H S ok rfl h⟩
theorem de_join {o : Expr} {to : TED} {es : List Expr} {e : Expr} {t : TAD} {apos cpos : Pos} (ho : DE X W o to) (ha : DA X W (e :: es) t) (hbase : attributeBase o "join" X.env (eval o X.env) = eval o X.env := by rfl)
    (hfew : ((backTo cpos (starEach (e :: es) X.env)).all (fun x => !x.1) && (backToKw cpos (keywordEach [] X.env)).all (fun x => x.1.isSome)
      && decide ((e :: es).length + ([] : List Keyword).length + (if ([] : List Keyword).isEmpty then 0 else 1) < 30)) = true := by rfl)
    (hline : (apos.endLine == cpos.line) = true := by rfl) (hs : starEach (e :: es) X.env = (false, eval e X.env) :: starEach es X.env := by rfl) (hplain : (backTo cpos (starEach es X.env)).any (·.1) = false := by rfl) :
    DE X W (.Call (.Attribute o "join" apos) (e :: es) [] cpos) (dBM "str" rdJoin to t) :=
  de_bm PySem.F.plainAttrs_str PySem.F.slot_str_join PySem.F.type_str_join mt_join join_lift ho ha hbase hfew hline hs hplain
theorem de_count {o : Expr} {to : TED} {es : List Expr} {e : Expr} {t : TAD} {apos cpos : Pos} (ho : DE X W o to) (ha : DA X W (e :: es) t) (hbase : attributeBase o "count" X.env (eval o X.env) = eval o X.env := by rfl)
    (hfew : ((backTo cpos (starEach (e :: es) X.env)).all (fun x => !x.1) && (backToKw cpos (keywordEach [] X.env)).all (fun x => x.1.isSome)
      && decide ((e :: es).length + ([] : List Keyword).length + (if ([] : List Keyword).isEmpty then 0 else 1) < 30)) = true := by rfl)
    (hline : (apos.endLine == cpos.line) = true := by rfl) (hs : starEach (e :: es) X.env = (false, eval e X.env) :: starEach es X.env := by rfl) (hplain : (backTo cpos (starEach es X.env)).any (·.1) = false := by rfl) :
    DE X W (.Call (.Attribute o "count" apos) (e :: es) [] cpos) (dBM "str" rdCount to t) :=
  de_bm PySem.F.plainAttrs_str PySem.F.slot_str_count PySem.F.type_str_count mt_count count_lift ho ha hbase hfew hline hs hplain
/-! ### list(text), tuple(text) -/
theorem vals_signs {z : Str} {us : List Value} (h : ItemsOf (SignAt z) us.toArray z.cps.size) : Vals (z.cps.toList.map fun c => V.str ⟨#[c]⟩) us := by
  obtain ⟨h1, h2⟩ := h
  refine vals_of_at (by simpa using h1.symm) fun j x u e1 e2 => ?_
  obtain ⟨c, t, e3, rfl⟩ := h2 j u (by simpa using e2)
  rw [List.getElem?_map] at e1
  have e4 : z.cps.toList[j]? = some c := by simpa using e3
  rw [e4] at e1
  cases e1
  exact ⟨t, rfl⟩
def rListS : List V → Hp → VK → Prop := fun xs H Q => ∃ z, xs = [.str z] ∧ z.length ≤ 16777216 ∧ ∀ p, H p = none → Q (.ref p) (upd H p (.lst (z.cps.toList.map fun c => V.str ⟨#[c]⟩)))
theorem call_listS (hc : X.calm = true) : CallR X (.type "list") rListS := by
  intro pins s σ H xs us Q I r h
  obtain ⟨z, rfl, hz, q⟩ := h
  obtain ⟨u, rfl, rx⟩ := vals1 r
  obtain ⟨t, rfl⟩ := (show ∃ t, u = .str z t from rx)
  have hz' : z.cps.size ≤ sizeLine := sz_le hz
  refine call_list_str (I.ok.hd hc) z t (fun h' tk acc c' hk e' hi => ?_) hz'
  refine ⟨.ref s.heap.objs.size, upd H s.heap.objs.size (.lst (z.cps.toList.map fun c => V.str ⟨#[c]⟩)), I.laid hk (Nat.le_refl _) (show ObjOk X.prog X.w _ _ _ (.lst _) from ⟨?_, acc.toList, c', vals_signs (by simpa using hi), ?_⟩), rfl, q _ (I.hok.fresh (Nat.le_refl _))⟩
  · rw [List.length_map, Array.length_toList]; exact hz'
  · simpa using e'
def rTupS : List V → Hp → VK → Prop := fun xs H Q => ∃ z, xs = [.str z] ∧ z.length ≤ 16777216 ∧ ∀ p, H p = none → Q (.ref p) (upd H p (.tup (z.cps.toList.map fun c => V.str ⟨#[c]⟩)))
theorem call_tupS (hc : X.calm = true) : CallR X (.type "tuple") rTupS := by
  intro pins s σ H xs us Q I r h
  obtain ⟨z, rfl, hz, q⟩ := h
  obtain ⟨u, rfl, rx⟩ := vals1 r
  obtain ⟨t, rfl⟩ := (show ∃ t, u = .str z t from rx)
  have hz' : z.cps.size ≤ sizeLine := sz_le hz
  refine call_tuple_str (I.ok.hd hc) z t (fun h' tk acc hk hi => ?_) hz'
  have I2 : Inv X pins σ H { s with heap := h', toks := tk } := I.kept hk
  refine ⟨.ref h'.objs.size, upd H h'.objs.size (.tup (z.cps.toList.map fun c => V.str ⟨#[c]⟩)), I2.laid (t' := tk) (fun c o e => Heap.get?_push_of_some _ e) (Nat.le_refl _) (show ObjOk X.prog X.w _ _ _ (.tup _) from ⟨?_, acc.toList, vals_signs (by simpa using hi), ?_⟩), rfl, q _ (I2.hok.fresh (Nat.le_refl _))⟩
  · rw [List.length_map, Array.length_toList]; exact hz'
  · rw [Array.toArray_toList]; exact IsTup.new _ _
theorem rpL_signs {K : PySem.W.Frag} {H : Hp} {S : Sd} {z : Str} : RpL K H S (sgD z) (z.cps.toList.map fun c => V.str ⟨#[c]⟩) := by
  unfold sgD
  induction z.cps.toList with
  | nil => exact rfl
  | cons n r ih => exact ⟨_, _, rfl, rfl, ih⟩
def rdListA : RDC := fun ds S Q => match ds with
  | [.str z] => z.length ≤ 16777216 ∧ Q (.lst (sgD z)) S
  | _ => rdListC ds S Q
def rdTupA : RDC := fun ds S Q => match ds with
  | [.str z] => z.length ≤ 16777216 ∧ Q (.tup (sgD z)) S
  | _ => rdTupC ds S Q
theorem one_str {ds : List D} : (∃ z, ds = [.str z]) ∨ ((∀ S Q, rdListA ds S Q → rdListC ds S Q) ∧ ∀ S Q, rdTupA ds S Q → rdTupC ds S Q) := by
  match ds with
  | [] => exact .inr ⟨fun _ _ h => h, fun _ _ h => h⟩
  | d :: e :: r => cases d <;> exact .inr ⟨fun _ _ h => h, fun _ _ h => h⟩
  | [d] => cases d with
    | str z => exact .inl ⟨z, rfl⟩
    | _ => exact .inr ⟨fun _ _ h => h, fun _ _ h => h⟩
theorem cd_listA (hc : X.calm = true) : CallD X (.type "list") rdListA := by
  obtain ⟨r, h, l⟩ := cd_list (X := X)
  refine ⟨_, h.or (call_listS hc), fun H S fr σd σ xs ds Qv Qd ok r0 q k => ?_⟩
  rcases one_str (ds := ds) with ⟨z, rfl⟩ | ⟨h1, h2⟩
  · obtain ⟨v, rfl, r1⟩ := rpL1 r0
    have e : v = .str z := r1
    subst e
    obtain ⟨q1, q2⟩ := (show z.length ≤ 16777216 ∧ Qd (.lst (sgD z)) S from q)
    exact .inr ⟨z, rfl, q1, fun p hp => k _ (.lst _) _ S (ok.new hp) (rp_lstNew ok.rel hp rpL_signs) q2⟩
  · exact .inl (l H S fr σd σ xs ds Qv Qd ok r0 (h1 _ _ q) k)
theorem cd_tupA (hc : X.calm = true) : CallD X (.type "tuple") rdTupA := by
  obtain ⟨r, h, l⟩ := cd_tuple (X := X)
  refine ⟨_, h.or (call_tupS hc), fun H S fr σd σ xs ds Qv Qd ok r0 q k => ?_⟩
  rcases one_str (ds := ds) with ⟨z, rfl⟩ | ⟨h1, h2⟩
  · obtain ⟨v, rfl, r1⟩ := rpL1 r0
    have e : v = .str z := r1
    subst e
    obtain ⟨q1, q2⟩ := (show z.length ≤ 16777216 ∧ Qd (.tup (sgD z)) S from q)
    exact .inr ⟨z, rfl, q1, fun p hp => k _ (.tup _) _ S (ok.new hp) (rp_tupNew ok.rel hp rpL_signs) q2⟩
  · exact .inl (l H S fr σd σ xs ds Qv Qd ok r0 (h2 _ _ q) k)
end
/-! ### rows -/
section
variable {S : Sd} {Q : DK} {x y z : Str} {k l : Bool} {ds : List D} {d : D}
theorem x_is_bb : rdIs (.bl k) (.bl l) S Q = Q (.bl (decide (k = l))) S := rfl
theorem x_isNot_bb : rdIsNot (.bl k) (.bl l) S Q = Q (.bl (!decide (k = l))) S := rfl
theorem x_is_n : rdIs d .non S Q = rdIsN d .non S Q := rfl
theorem x_isNot_n : rdIsNot d .non S Q = rdNotN d .non S Q := rfl
theorem x_inS {c : Nat} : rdInS (.str ⟨#[c]⟩) (.str z) S Q = Q (.bl (decide (c ∈ z.cps.toList))) S := by
  refine propext ⟨fun ⟨c', e, q⟩ => ?_, fun q => ⟨c, rfl, q⟩⟩
  injection e with e
  have e2 : c = c' := by simpa using e
  rw [e2]; exact q
theorem x_listA_s : rdListA [.str z] S Q = (z.length ≤ 16777216 ∧ Q (.lst (sgD z)) S) := rfl
theorem x_listA_t : rdListA [.tup ds] S Q = Q (.lst ds) S := rfl
theorem x_listA_l : rdListA [.lst ds] S Q = Q (.lst ds) S := rfl
theorem x_tupA_s : rdTupA [.str z] S Q = (z.length ≤ 16777216 ∧ Q (.tup (sgD z)) S) := rfl
theorem x_tupA_t : rdTupA [.tup ds] S Q = Q (.tup ds) S := rfl
theorem x_tupA_l : rdTupA [.lst ds] S Q = Q (.tup ds) S := rfl
theorem x_count : rdCount (.str x) [.str y] S Q = Q (.int (Txt.count x y)) S := rfl
theorem x_len_strL : z.length = z.cps.toList.length := by show z.cps.size = _; simp
end
/-- joined by nothing -/
theorem join_e (ys : List Str) : (Txt.join "" ys).cps.toList = (ys.map fun y => y.cps.toList).flatten := by
  rw [TL.join_eq]
  induction ys with
  | nil => rfl
  | cons y r ih =>
    cases r with
    | nil => show y.cps.toList = _; simp
    | cons z r =>
      show (y ++ ("" : Str) ++ Str.join "" (z :: r)).cps.toList = _
      have e : ∀ a b : Str, (a ++ b).cps.toList = a.cps.toList ++ b.cps.toList := fun a b => by
        show (a.cps ++ b.cps).toList = _
        simp
      rw [e, e, ih]
      have e0 : ("" : Str).cps.toList = [] := by decide +kernel
      rw [e0, List.append_nil]
      rfl
theorem x_join {S : Sd} {Q : DK} {d : D} {a : Str} (ys : List Str) (e : itemsD S d = some (ys.map D.str)) (h : (ys.map (·.length)).sum + ys.length * a.length ≤ 16777216) (q : Q (.str (Txt.join a ys)) S) : rdJoin (.str a) [d] S Q := ⟨ys, e, h, q⟩
/-- a text of signs -/
def ofL (l : List Nat) : Str := ⟨l.toArray⟩
theorem ofL_cps (l : List Nat) : (ofL l).cps.toList = l := rfl
theorem ofL_len (l : List Nat) : (ofL l).length = l.length := by show l.toArray.size = _; simp
theorem ofL_of (z : Str) : z = ofL z.cps.toList := str_ext rfl
theorem ofL_app (a b : List Nat) : ofL a ++ ofL b = ofL (a ++ b) := str_ext (by show (a.toArray ++ b.toArray).toList = _; simp [ofL])
theorem ofL_inj {a b : List Nat} : ofL a = ofL b ↔ a = b := ⟨fun h => by have := congrArg (fun z : Str => z.cps.toList) h; simpa [ofL] using this, fun h => by rw [h]⟩
theorem join_ones (l : List Nat) : Txt.join "" (l.map fun c => (⟨#[c]⟩ : Str)) = ofL l := str_ext (by
  rw [join_e, List.map_map]
  show ((l.map fun c => [c]).flatten) = l
  induction l with
  | nil => rfl
  | cons c r ih => rw [List.map_cons, List.flatten_cons, ih]; rfl)
/-! ### comprehensions that draw -/
theorem lcL_inv {te : TED} {p : Addr} {σw : Si} {i : Nat} {xs : List D} {Q : List D → Sd → Prop} (J : List D → Sd → Prop)
    (hs : ∀ (pre : List D) (x : D) (r acc : List D) (S : Sd) (Q' : DK), xs = pre ++ x :: r → acc.length = pre.length → J acc S → S p = some (.lst acc) → (∀ y S', S' p = some (.lst acc) → J (acc ++ [y]) (upS S' p (.lst (acc ++ [y]))) → Q' y S') → te (σw.set i (some x)) S Q')
    (hl : xs.length ≤ 16777216) (hd : ∀ acc S, acc.length = xs.length → J acc S → S p = some (.lst acc) → Q acc S) : ∀ (r pre acc : List D) (S : Sd), xs = pre ++ r → acc.length = pre.length → J acc S → S p = some (.lst acc) → dLcL (dName i) dYes te p σw r acc S Q
  | [], pre, acc, S, e, hn, j, hp => hd acc S (by rw [e, List.append_nil]; exact hn) j hp
  | x :: r, pre, acc, S, e, hn, j, hp => by
    show (if true = true then te (σw.set i (some x)) S fun y S4 => S4 p = some (.lst acc) ∧ acc.length < 16777216 ∧ dLcL (dName i) dYes te p σw r (acc ++ [y]) (upS S4 p (.lst (acc ++ [y]))) Q else dLcL (dName i) dYes te p σw r acc S Q)
    rw [if_pos rfl]
    refine hs pre x r acc S _ e hn j hp fun y S' h1 h2 => ⟨h1, ?_, ?_⟩
    · have := congrArg List.length e
      rw [List.length_append, List.length_cons] at this
      omega
    · exact lcL_inv J hs hl hd r (pre ++ [x]) (acc ++ [y]) _ (by rw [e]; simp) (by rw [List.length_append, List.length_append, hn]; rfl) h2 upS_same
theorem comp_inv {ti : TID} {te : TED} {i : Nat} {vs : List Nat} {σ : Si} {S : Sd} {Q : DK} (xs : List D) (S1 : Sd) (J : Addr → List D → Sd → Prop) (hti : ∀ R : List D → Sd → Prop, R xs S1 → ti σ S R) (h0 : ∀ p, S1 p = none → J p [] (upS S1 p (.lst [])))
    (hs : ∀ (p : Addr) (pre : List D) (x : D) (r acc : List D) (S : Sd) (Q' : DK), S1 p = none → xs = pre ++ x :: r → acc.length = pre.length → J p acc S → S p = some (.lst acc) → (∀ y S', S' p = some (.lst acc) → J p (acc ++ [y]) (upS S' p (.lst (acc ++ [y]))) → Q' y S') → te ((wipeD σ vs).set i (some x)) S Q')
    (hl : xs.length ≤ 16777216) (hd : ∀ p acc S, S1 p = none → acc.length = xs.length → J p acc S → S p = some (.lst acc) → Q (.lst acc) (del S p)) : dComp ti (dName i) dYes te vs σ S Q := hti _ fun p hp =>
  lcL_inv (J p) (fun pre x r acc S Q' => hs p pre x r acc S Q' hp) hl (fun acc S hn j e => ⟨e, hd p acc S hp hn j e⟩) xs [] [] _ rfl rfl (h0 p hp) upS_same
/-! ### while -/
theorem while_inv {c : TTD} {tb : TSD} {E : EndsD} {σ : Si} {S : Sd} (I : Nat → Si → Sd → Prop) (m : Nat) (h0 : I m σ S)
    (hs : ∀ (m : Nat) (σ : Si) (S : Sd) (N : Si → Sd → Prop), I m σ S → (∀ m' σ' S', m' < m → I m' σ' S' → N σ' S') → c σ S fun b S1 => if b = true then tb { E with nx := N, ct := N, bk := E.nx } σ S1 else E.nx σ S1) : dWhile c tb E σ S :=
  ⟨I, ⟨m, h0⟩, fun m σ S h => hs m σ S _ h fun m' σ' S' hm h' => ⟨m', hm, h'⟩⟩
end Dv

/-! Readings by value, u: statements that are never reached, +=, a written dict read by a text. -/
namespace Dv
open PySem L2 PyProof.Rows
section
variable {X : Cx} {W : Wi} {pos : Pos}
def dNever : TSD := fun _ _ _ => False
theorem ds_never {s : Stmt} : DS X W s dNever := ⟨⟨fun pins sh σ H D I ⟨_, _, _, _, _, _, h, _⟩ => (show False from h).elim⟩⟩
/-! ### a written dict read by a text -/
def dKix (tab : Str → Option D) (tb : TED) : TED := fun σ S Q => tb σ S fun y S1 => match y with
  | .str z => (match tab z with | some d => Q d S1 | none => False)
  | _ => False
theorem de_kix {x : Str} {a : Addr} {b : Expr} {tb : TED} {p : Pos} {tab : Str → Option D} (hg : Gl X x) (hm : X.mg x = some (.ref a)) (ht : ∀ z d, tab z = some d → ∃ v, KDct X.K X.w a z v ∧ ∀ H S, Rp X.K H S d v) (hb : DE X W b tb) (hs : PlainIx b)
    (hd : (x == ("__debug__" : Str)) = false := by decide) : DE X W (.Subscript (.Name x p) b pos) (dKix tab tb) :=
  ⟨PE.imp (pe_ix ix_kdict (pe_glob (v := .ref a) hg hm rfl hd) hb.p hs) fun σ H Q ⟨σd, S, fr, Qd, ok, cl, h, k⟩ =>
    ⟨σd, S, fr, _, ok, cl, h, fun y dy H1 S1 ok1 ry q => by
      cases dy with
      | str z =>
        have q' : (match tab z with | some d => Qd d S1 | none => False) := q
        cases e : tab z with
        | none => rw [e] at q'; exact q'.elim
        | some d =>
          rw [e] at q'
          obtain ⟨v, h1, h2⟩ := ht z d e
          exact ⟨a, z, v, rfl, ry, h1, k v d H1 S1 ok1 (h2 _ _) q'⟩
      | _ => exact (show False from q).elim⟩⟩
theorem rp_ktup {K : PySem.W.Frag} {H : Hp} {S : Sd} {a : Addr} {its : Array Value} {n : Nat} {od : Option Addr} {sl : Array (Option Value)} {vs : List V} {ds : List D} (hl : K.lookup a = some ⟨.type "tuple", od, .seq its n, sl⟩) (hz : its.size ≤ 1000) (hv : Vals vs its.toList) (r : RpL K H S ds vs) : Rp K H S (.tup ds) (.ref a) :=
  ⟨a, vs, rfl, .inr ⟨_, its, n, hl, rfl, rfl, sz_le (Nat.le_trans hz (by decide)), hv⟩, r⟩
end
end Dv

/-! Readings by value: own errors raised, caught, asked. -/
namespace Dv
open PySem L2 PyProof.Rows Hx
/-! ### the module's own classes of errors -/
def ownBase : List (Str × List Str) := [("NoNumber", ["ArithmeticError"]), ("NoForm", ["ArithmeticError"]), ("OverNought", ["ZeroDivisionError", "ArithmeticError"]), ("NoKin", ["TypeError"]), ("NoPlace", ["IndexError", "LookupError"]), ("NoWord", ["ValueError"]), ("NoStep", ["ValueError"]), ("Uneven", ["ValueError"]), ("NoTable", ["ValueError"]), ("NoTriple", ["ValueError"])]
def ownCls : List Str := ownBase.map (·.1)
def bltCls : List Str := ["ArithmeticError", "ZeroDivisionError", "OverflowError", "TypeError", "IndexError", "KeyError", "LookupError", "RuntimeError", "ValueError"]
def excIs (n c : Str) : Bool := n == c || match ownBase.lookup n with
  | some bs => bs.contains c
  | none => false
def clsV (K : PySem.W.Frag) (x : Str) : Value := match PySem.W.nsIn K mainGlobals x with
  | some (some v) => v
  | _ => (bootBuiltins x).getD .none
/-- what is known of an own class of errors that is raised -/
structure WhF (K : PySem.W.Frag) (n : Str) (D : Addr) : Prop where
  at_ : PySem.W.nsIn K mainGlobals n = some (some (.ref D))
  exc : ExcC K D
  kit : ∀ c ∈ ownCls ++ bltCls, PySem.W.kitOne K (.ref D) (clsV K c) = some (excIs n c)
  exm : ∀ c ∈ ownCls, PySem.W.exmOne K (.ref D) (clsV K c) = some (excIs n c)
def excCB (K : PySem.W.Frag) (D : Addr) : Bool := decide (PySem.W.findIn K (.ref D) "__getattribute__" = some (some (.builtin "BaseException.__getattribute__"))) && (decide (PySem.W.findIn K (.ref D) "__getattr__" = some none) && (decide (PySem.W.subIn K (.ref D) (.type "BaseException") = some true) && (PySem.W.hasDictIn K D &&
  (decide (PySem.W.findIn K (.ref D) "__class__" = some (some (.builtin "object.__class__"))) && (decide (PySem.W.specialIn K (.builtin "object.__class__") "__get__" = some (some (.builtin "getset_descriptor.__get__"))) && (decide (PySem.W.takesIn K (.builtin "object.__class__") = some true) && decide (PySem.W.mroIn K D (.type "object") = some true)))))))
theorem and_b {a b : Bool} (h : (a && b) = true) : a = true ∧ b = true := Bool.and_eq_true_iff.mp h
theorem excCB_ok {K : PySem.W.Frag} {D : Addr} (h : excCB K D = true) : ExcC K D := by
  obtain ⟨h1, h⟩ := and_b h
  obtain ⟨h2, h⟩ := and_b h
  obtain ⟨h3, h⟩ := and_b h
  obtain ⟨h4, h⟩ := and_b h
  obtain ⟨h5, h⟩ := and_b h
  obtain ⟨h6, h⟩ := and_b h
  obtain ⟨h7, h8⟩ := and_b h
  exact ⟨of_decide_eq_true h1, of_decide_eq_true h2, of_decide_eq_true h3, h4, of_decide_eq_true h5, of_decide_eq_true h6, of_decide_eq_true h7, of_decide_eq_true h8⟩
def whB (K : PySem.W.Frag) (rs : List Str) : Bool := rs.all fun n => match PySem.W.nsIn K mainGlobals n with
  | some (some (.ref D)) => excCB K D && (((ownCls ++ bltCls).all fun c => decide (PySem.W.kitOne K (.ref D) (clsV K c) = some (excIs n c))) && ownCls.all fun c => decide (PySem.W.exmOne K (.ref D) (clsV K c) = some (excIs n c)))
  | _ => false
theorem whB_ok {K : PySem.W.Frag} {rs : List Str} (h : whB K rs = true) {n : Str} (hn : n ∈ rs) : ∃ D, WhF K n D := by
  have h1 := List.all_eq_true.mp h n hn
  split at h1
  · rename_i D e
    obtain ⟨a, b⟩ := and_b h1
    obtain ⟨b, c⟩ := and_b b
    exact ⟨D, e, excCB_ok a, fun c' hc => of_decide_eq_true (List.all_eq_true.mp b c' hc), fun c' hc => of_decide_eq_true (List.all_eq_true.mp c c' hc)⟩
  · cases h1
/-- the own classes stand as globals -/
def glB (K : PySem.W.Frag) : Bool := ownCls.all fun c => match PySem.W.nsIn K mainGlobals c with
  | some (some (.ref _)) => true
  | _ => false
theorem glB_ok {K : PySem.W.Frag} (h : glB K = true) {c : Str} (hc : c ∈ ownCls) : ∃ D, PySem.W.nsIn K mainGlobals c = some (some (.ref D)) ∧ clsV K c = .ref D := by
  have h1 := List.all_eq_true.mp h c hc
  unfold clsV
  split at h1
  · rename_i D e
    rw [e]
    exact ⟨D, rfl, rfl⟩
  · cases h1
/-- a simple own class: raised with a text -/
structure RsF (K : PySem.W.Frag) (n : Str) (bm : List Value) (newId : String) (C : Addr) : Prop where
  at_ : PySem.W.nsIn K mainGlobals n = some (some (.ref C))
  exc : PySem.W.excIn K C bm newId = true
  kp : PySem.W.keepIn K (.ref C) = true
  sub : PySem.W.subIn K (.ref C) (.type "BaseException") = some true
  ty : PySem.W.typeIn K (.ref C) = some (.type "type")
def rsB (K : PySem.W.Frag) (n : Str) (bm : List Value) (newId : String) : Bool := match PySem.W.nsIn K mainGlobals n with
  | some (some (.ref C)) => PySem.W.excIn K C bm newId && (PySem.W.keepIn K (.ref C) && (decide (PySem.W.subIn K (.ref C) (.type "BaseException") = some true) && decide (PySem.W.typeIn K (.ref C) = some (.type "type"))))
  | _ => false
theorem rsB_ok {K : PySem.W.Frag} {n : Str} {bm : List Value} {newId : String} (h : rsB K n bm newId = true) : ∃ C, RsF K n bm newId C := by
  unfold rsB at h
  split at h
  · rename_i C e
    obtain ⟨a, h⟩ := and_b h
    obtain ⟨b, h⟩ := and_b h
    obtain ⟨c, d⟩ := and_b h
    exact ⟨C, e, a, b, of_decide_eq_true c, of_decide_eq_true d⟩
  · cases h
/-! ### raise -/
section
variable {X : Cx} {W : Wi} {pos : Pos}
def dRaise (WD : WXD) (x : Xd) : TSD := fun _ σ S => WD x σ S
theorem ds_raiseC {n m : Str} {j : Nat} {p p2 pos' : Pos} {bm : List Value} {B newId initId : String} {C : Addr} (hc : X.calm = true) (tk : L2N.Takes X W.V) (F : ExcBaseFacts B newId initId bm) (R : RsF X.K n bm newId C) (gC : X.mg n = some (.ref C)) (hg : Gl X n) (hdb : (n == ("__debug__" : Str)) = false := by decide) :
    DS X W (.Raise (some (.Call (.Name n p) [.Constant (.str m) j p2] [] pos)) none pos') (dRaise W.D ⟨n, [], []⟩) :=
  ⟨PS.imp (L2N.ps_raise hc tk (L2N.pmk_own F R.exc gC R.kp (raises_own R.sub R.ty) hg hdb)) fun D σ H ⟨σd, S, fr, Dd, ok, cl, h, k⟩ => cl σd σ H S (.ref C) none _ ok ⟨R.at_, fun _ => rfl, fun _ z => nomatch z⟩ h⟩
end
/-! ### except suites -/
/-- what a suite knows of the exception that it holds -/
structure SuF (K : PySem.W.Frag) (oe : Obj) (od : Option Addr) (n : Str) : Prop where
  cls : ∃ D, WhF K n D ∧ oe.cls = .ref D
  dct : oe.dict = od
  dat : ∃ vs : Array Value, oe.data = .fields vs ∧ vs[2]? = some .none
structure DCl where
  cs : List Str
  n : Option Nat
  ts : Addr → Option Addr → Xd → TSD
def goneD (n : Option Nat) (D : EndsD) : EndsD := match n with
  | none => D
  | some i => { nx := fun σ S => D.nx (σ.set i none) S, rt := D.rt, bk := fun σ S => D.bk (σ.set i none) S, ct := fun σ S => D.ct (σ.set i none) S }
def bindD (n : Option Nat) (a : Addr) (od : Option Addr) (x : Xd) (σ : Si) : Si := match n with
  | none => σ
  | some i => σ.set i (some (.exc a od x.ns x.xs))
/-- what the clauses wish of an exception; rs: the own classes that may come -/
def wDCl (rs : List Str) (Wout : WXD) (D : EndsD) : List DCl → WXD
  | [] => Wout
  | c :: r => fun x σ S => x.cls ∈ rs ∧ if c.cs.any (excIs x.cls) = true then ∀ a od, S a = none → c.ts a od x (goneD c.n D) (bindD c.n a od x σ) S else wDCl rs Wout D r x σ S
def dTry (rs : List Str) (tb : WXD → TSD) (l : List DCl) (WD : WXD) : TSD := fun D σ S => tb (wDCl rs WD D l) D σ S
section
variable {X : Cx} {W : Wi} {pos : Pos}
def nmOf (X : Cx) (n : Option Nat) (m : Option (Str × Nat)) : Prop := m.map (·.2) = n ∧ NmOk X m
inductive DHds (X : Cx) : List ExceptHandler → List DCl → Prop
  | nil : DHds X [] []
  | cons {c : DCl} {m : Option (Str × Nat)} {e : Expr} {b₀ : Stmt} {suite : List Stmt} {pos : Pos} {hds : List ExceptHandler} {l : List DCl} (hn : nmOf X c.n m) (ht : Tst X e (c.cs.map (clsV X.K))) (ho : ∀ z ∈ c.cs, z ∈ ownCls)
      (hsu : ∀ (a : Addr) (oe : Obj) (od : Option Addr) (x : Xd) (pn : List (Addr × Obj)), SuF X.K oe od x.cls → DB (X.suite a ((a, oe) :: pn)) W0 (b₀ :: suite) (c.ts a od x)) (r : DHds X hds l) :
      DHds X (.ExceptHandler (some e) (m.map (·.1)) (b₀ :: suite) pos :: hds) (c :: l)
theorem exm_any {K : PySem.W.Frag} {n : Str} {D : Addr} (w : WhF K n D) : ∀ cs : List Str, (∀ z ∈ cs, z ∈ ownCls) → PySem.W.exmAny K (.ref D) (cs.map (clsV K)) = some (cs.any (excIs n))
  | [], _ => rfl
  | c :: r, h => by
    show PySem.W.exmAny K (.ref D) (clsV K c :: r.map (clsV K)) = some (excIs n c || r.any (excIs n))
    unfold PySem.W.exmAny
    rw [w.exm c (h c (.head _)), exm_any w r fun z hz => h z (.tail _ hz)]
def liftTs (K : PySem.W.Frag) (ts : Addr → Option Addr → Xd → TSD) : Addr → Value → Option Addr → TS := fun a cls od D σ H => ∃ x, (∃ Dx, WhF K x.cls Dx ∧ cls = .ref Dx) ∧ upSt K W0 (ts a od x) D σ H
def liftCl (K : PySem.W.Frag) : DCl → Option (Str × Nat) → Hx.Cl := fun c m => ⟨c.cs.map (clsV K), m, liftTs K c.ts⟩
theorem hds_lift {hds : List ExceptHandler} {l : List DCl} (h : DHds X hds l) : ∃ l' : List Hx.Cl, Hds X hds l' ∧ ∀ (rs : List Str), (∀ n ∈ rs, ∃ D, WhF X.K n D) → ∀ (fr : List (V × D)) (Dd : EndsD) (D : Ends), EndOk X.K fr Dd D → Cl X.K W fr →
    Dv.Cl X.K ⟨wCls X.K W.V D l', wDCl rs W.D Dd l⟩ fr := by
  induction h with
  | nil => exact ⟨[], .nil, fun rs _ fr Dd D _ cl => cl⟩
  | @cons c m e b₀ suite pos hds l hn ht ho hsu r ih =>
    obtain ⟨l', h1, h2⟩ := ih
    refine ⟨liftCl X.K c m :: l', ?_, ?_⟩
    · refine Hds.cons (c := liftCl X.K c m) hn.2 ht (fun a oe cls d pn hz hd => ⟨fun pins s σ H D I ⟨x, ⟨Dx, hw, ec⟩, h⟩ => ?_⟩) h1
      obtain ⟨vs, hd⟩ := hd
      exact ((hsu a oe d x pn ⟨⟨Dx, hw, hz.1.trans ec⟩, hz.2.1, vs, hd, hz.2.2 vs hd⟩).p).run pins s σ H D I h
    · intro rs hrs fr Dd D eo cl σd σ H S cls od x ok rx h
      obtain ⟨hn1, h⟩ := h
      obtain ⟨Dx, hw⟩ := hrs _ hn1
      have ec : cls = .ref Dx := by
        have z := rx.1
        rw [hw.at_] at z
        exact (Option.some.inj (Option.some.inj z)).symm
      refine ⟨_, by rw [ec]; exact exm_any hw c.cs ho, fun hb a na => ?_, fun hb => ?_⟩
      · rw [if_pos hb] at h
        refine ⟨x, ⟨Dx, hw, ec⟩, bindD c.n a od x σd, S, fr, goneD c.n Dd, ?_, Cl.zero, h a od (ok.rel.free na), ?_⟩
        · have rexc : Rp X.K H S (.exc a od x.ns x.xs) (.ref a) := ⟨rfl, rx.2.1, rx.2.2⟩
          have e1 := hn.1
          cases m with
          | none =>
            have e2 : c.n = none := e1.symm
            show Ok X.K H S fr (bindD c.n a od x σd) (bindN none a σ)
            rw [e2]
            exact ok
          | some mi =>
            have e2 : c.n = some mi.2 := e1.symm
            show Ok X.K H S fr (bindD c.n a od x σd) (bindN (some mi) a σ)
            rw [e2]
            exact ok.set rexc mi.2
        · have e1 := hn.1
          cases m with
          | none =>
            have e2 : c.n = none := e1.symm
            show EndOk X.K fr (goneD c.n Dd) (goneN none D)
            rw [e2]
            exact eo
          | some mi =>
            have e2 : c.n = some mi.2 := e1.symm
            show EndOk X.K fr (goneD c.n Dd) (goneN (some mi) D)
            rw [e2]
            exact ⟨fun σd σ H S o q => eo.nx _ _ H S (o.gone mi.2 none) q, eo.rt, fun σd σ H S o q => eo.bk _ _ H S (o.gone mi.2 none) q, fun σd σ H S o q => eo.ct _ _ H S (o.gone mi.2 none) q⟩
      · rw [if_neg (by rw [hb]; exact Bool.false_ne_true)] at h
        exact h2 rs hrs fr Dd D eo cl σd σ H S cls od x ok rx h
theorem ds_try {body : List Stmt} {h₀ : ExceptHandler} {hds : List ExceptHandler} {l : List DCl} {rs : List Str} {tb : WXD → TSD} (hs : X.stack = X.env :: X.outer) (hf : X.env.frame = some X.env.locals) (tk : L2N.Takes X W.V) (hrs : ∀ n ∈ rs, ∃ D, WhF X.K n D)
    (hb : ∀ (W' : Wi) (pn : List (Addr × Obj)) (xe : Value → Shared → Prop), L2N.Takes (X.tr pn xe) W'.V → PassesOwn (model X.prog X.w) X.A X.env xe → DB (X.tr pn xe) W' body (tb W'.D)) (hh : DHds X (h₀ :: hds) l) :
    DS X W (.Try body (h₀ :: hds) [] [] pos) (dTry rs tb l W.D) := by
  obtain ⟨l', h1, h2⟩ := hds_lift (W := W) hh
  refine ⟨PS.imp (ps_tryN (tb := fun WV D σ H => ∃ WD, upSt X.K ⟨WV, WD⟩ (tb WD) D σ H) hs hf tk (fun WV pn xe tk' pass => ⟨fun pins s σ H D I ⟨WD, h⟩ => ?_⟩) h1) fun D σ H ⟨σd, S, fr, Dd, ok, cl, h, k⟩ => ?_⟩
  · exact ((hb ⟨WV, WD⟩ pn xe tk' pass).p).run pins s σ H D I h
  · exact ⟨_, σd, S, fr, Dd, ok, h2 rs hrs fr Dd D k cl, h, k⟩
end
end Dv

/-! Readings by value: a def that names an error's class; a refusal named. -/
namespace Dv
open PySem L2 PyProof.Rows Hx
section
variable {X : Cx} {W : Wi} {pos : Pos}
/-! ### while an exception is handled -/
end
/-! ### a def that names an error's class -/
section
variable {P : Program} {w : World} {K : PySem.W.Frag} {mg : Str → Option Value} {base : Heap}
end
section
variable {X : Cx} {pos : Pos}
/-! ### a refusal, named -/
end
end Dv

/-! Readings by value: what the printed derivations lean on for errors and lambdas. -/
namespace Dv
open PySem L2 PyProof.Rows Hx
section
variable {X : Cx} {W : Wi} {pos : Pos}
theorem takes0N : L2N.Takes X W0.V := fun _ _ ⟨_, _, _, _, _, _, _, _, _, _, _, _, _, _, _, _, z⟩ => z.elim
theorem nmO {x : Str} (own : ∃ Dn, X.mg x = some (.ref Dn) ∧ clsV X.K x = .ref Dn) (hg : Gl X x) (hd : (x == ("__debug__" : Str)) = false := by decide) : Names X x (clsV X.K x) := by
  obtain ⟨Dn, h1, h2⟩ := own
  exact ⟨hg, hd, .inl (by rw [h2]; exact h1)⟩
end
section
variable {P : Program} {w : World} {K : PySem.W.Frag} {mg : Str → Option Value} {base : Heap}
end
/-- one statement at a time: the rest stands still -/
theorem seq_step {t v : TSD} {E : EndsD} {σ : Si} {S : Sd} (h : ∀ r : TSD, r = v → dSeq t r E σ S) : dSeq t v E σ S := h v rfl
/-- one assignment, by instances alone: the kernel has nothing to unfold -/
theorem seq_set {i : Nat} {t : TED} {v : TSD} {E : EndsD} {σ : Si} {S : Sd} (h : t σ S fun x S1 => v E (σ.set i (some x)) S1) : dSeq (dSet i t) v E σ S := h
/-! ### divmod -/
def rdDivmod : RDC := fun ds S Q => match ds with
  | [.int i, .int j] => (0 < j ∧ j.natAbs.log2 < 9000) ∧ Q (.tup [.int (i / j), .int (i % j)]) S
  | _ => False
theorem x_divmod {i j : Int} {S : Sd} {Q : DK} : rdDivmod [.int i, .int j] S Q = ((0 < j ∧ j.natAbs.log2 < 9000) ∧ Q (.tup [.int (i / j), .int (i % j)]) S) := rfl
/-! ### law with tables -/
end Dv

/-! Readings by value: calls with keywords. -/
namespace Dv
open PySem L2 PyProof.Rows Hx
theorem okL {K : PySem.W.Frag} {H : Hp} {S : Sd} {fr : List (V × D)} {σd : Si} {σ : L2.St} : ∀ {ds : List D} {vs : List V}, Ok K H S fr σd σ → RpL K H S ds vs → Ok K H S (vs.zip ds ++ fr) σd σ
  | [], vs, o, r => by
    have e : vs = [] := r
    subst e
    exact o
  | d :: ds, vs, o, r => by
    obtain ⟨v, w, rfl, r1, r2⟩ := r
    exact (okL o r2).cons r1
theorem okL_drop {K : PySem.W.Frag} {H H' : Hp} {S S' : Sd} {fr : List (V × D)} {σd : Si} {σ : L2.St} : ∀ {ds : List D} {vs : List V}, RpL K H S ds vs → Ok K H' S' (vs.zip ds ++ fr) σd σ → Ok K H' S' fr σd σ ∧ RpL K H' S' ds vs
  | [], vs, r, o => by
    have e : vs = [] := r
    subst e
    exact ⟨o, rpL_nil⟩
  | d :: ds, vs, r, o => by
    obtain ⟨v, w, rfl, _, r2⟩ := r
    have o' : Ok K H' S' ((v, d) :: (w.zip ds ++ fr)) σd σ := o
    have t := okL_drop r2 o'.tail
    exact ⟨t.1, rpL_cons o'.head t.2⟩
theorem cl_drop {K : PySem.W.Frag} {W : Wi} {fr : List (V × D)} (c : Cl K W fr) : ∀ l : List (V × D), Cl K W (l ++ fr)
  | [] => c
  | _ :: l => (cl_drop c l).tail
theorem rpL_at {K : PySem.W.Frag} {H : Hp} {S : Sd} : ∀ {ds : List D} {vs : List V}, RpL K H S ds vs → ∀ i : Nat, (ds[i]? = none ∧ vs[i]? = none) ∨ ∃ d v, ds[i]? = some d ∧ vs[i]? = some v ∧ Rp K H S d v
  | [], vs, r, i => by
    have e : vs = [] := r
    subst e
    exact .inl ⟨rfl, rfl⟩
  | d :: ds, vs, r, i => by
    obtain ⟨v, w, rfl, r1, r2⟩ := r
    cases i with
    | zero => exact .inr ⟨d, v, rfl, rfl, r1⟩
    | succ i => exact rpL_at r2 i
theorem rpL_sel {K : PySem.W.Frag} {H : Hp} {S : Sd} {ds : List D} {vs : List V} (r : RpL K H S ds vs) : ∀ idx : List Nat, RpL K H S (sel idx ds) (sel idx vs)
  | [] => rpL_nil
  | i :: idx => by
    have t := rpL_sel r idx
    unfold sel at t ⊢
    rcases rpL_at r i with ⟨e1, e2⟩ | ⟨d, v, e1, e2, r1⟩
    · rw [List.filterMap_cons_none e1, List.filterMap_cons_none e2]; exact t
    · rw [List.filterMap_cons_some e1, List.filterMap_cons_some e2]; exact rpL_cons r1 t
structure DKw (X : Cx) (W : Wi) (kws : List Keyword) (t : TAD) : Prop where
  p : PK X kws (upA X.K W t)
section
variable {X : Cx} {W : Wi} {k n m : Nat} {f : Addr} {fd : FuncData} {ps ks : List Str} {sp : SpD} {idx : List Nat} {dvs : List V} {dds : List D} {x : Str} {p pos kpos : Pos} {a e : Expr} {es : List Expr} {kws : List Keyword} {ta : TED} {t tk : TAD} {nm : Option Str}
theorem pk_imp {t t' : TA} (h : PK X kws t) (i : ∀ σ H Q, t' σ H Q → t σ H Q) : PK X kws t' := ⟨fun pos pins s σ H Q I q => h.run pos pins s σ H Q I (i σ H Q q)⟩
theorem dk_nil : DKw X W [] dNil := ⟨pk_imp pk_nil fun σ H Q ⟨_, S, _, _, ok, _, h, k⟩ => k [] [] H S ok rfl h⟩
theorem dk_cons (ha : DE X W a ta) (hr : DKw X W kws tk) : DKw X W (⟨nm, a, kpos⟩ :: kws) (dCons ta tk) :=
  ⟨pk_imp (pk_cons ha.p hr.p) fun σ H Q ⟨σd, S, fr, Qd, ok, cl, h, k⟩ => ⟨σd, S, fr, _, ok, cl, h, fun x dx H1 S1 ok1 r1 h1 =>
    ⟨σd, S1, (x, dx) :: fr, _, ok1.cons r1, cl.tail, h1, fun vs ds H2 S2 ok2 r2 h2 => k (x :: vs) (dx :: ds) H2 S2 ok2.tail (rpL_cons ok2.head r2) h2⟩⟩⟩
/-- f(.., k = ..): what the places idx of all that is handed in hold, by the parameters -/
def dCallK (sp : SpD) (n m : Nat) (idx : List Nat) (dds : List D) (WD : WXD) (t tk : TAD) : TED := fun σ S Q => t σ S fun xs S1 => tk σ S1 fun zs S2 => (xs.length = n ∧ zs.length = m) ∧ sp (sel idx (xs ++ zs ++ dds)) S2 Q fun y S3 => WD y σ S3
theorem callK_lift (hdd : ∀ H S, RpL X.K H S dds dvs) (σ : L2.St) (H : Hp) (Q : VK) (h : upE X.K W (dCallK sp n m idx dds W.D t tk) σ H Q) : tCallKS (upF X.K sp) n m idx dvs (WE W.V) (upA X.K W t) (upA X.K W tk) σ H Q := by
  obtain ⟨σd, S, fr, Qd, ok, cl, h, k⟩ := h
  refine ⟨σd, S, fr, _, ok, cl, h, fun vs ds H1 S1 ok1 r1 h1 => ⟨σd, S1, vs.zip ds ++ fr, _, okL ok1 r1, cl_drop cl _, h1, fun zs es H2 S2 ok2 r2 h2 => ?_⟩⟩
  obtain ⟨ok3, r3⟩ := okL_drop r1 ok2
  refine ⟨⟨(rpL_len r3).symm.trans h2.1.1, (rpL_len r2).symm.trans h2.1.2⟩, ?_⟩
  refine ⟨sel idx (ds ++ es ++ dds), S2, fr ++ prs σd σ, Qd, _, ok3.rel, ok3.out, rpL_sel (rpL_app (rpL_app r3 r2) (hdd H2 S2)) idx, h2.2, fun v d H4 S4 R4 f4 r4 q4 => ?_, fun cls od x H4 S4 R4 f4 rx q4 => ?_⟩
  · exact k v d H4 S4 (ok3.back R4 f4) r4 q4
  · exact cl σd σ H4 S4 cls od x (ok3.back R4 f4) rx q4
theorem de_callK0 (F : FnG X.prog X.w X.K X.mg X.base (L2N.CX X.prog X.w) k f fd ps (upF X.K sp)) (hr : RoomG k X.A) (hg : Gl X x) (hm : X.mg x = some (.ref f)) (hk : PySem.W.keepIn X.K (.ref f) = true) (hb : KSel X.K fd ps 0 ks idx dvs) (hdd : ∀ H S, RpL X.K H S dds dvs) (tk' : L2N.Takes X W.V) (hkw : DKw X W kws tk)
    (hall : (backToKw pos (keywordEach kws X.env)).all (·.1.isSome) = true := by rfl) (hks : (backToKw pos (keywordEach kws X.env)).filterMap (·.1) = ks := by rfl) (hdb : (x == ("__debug__" : Str)) = false := by decide)
    (hpl : ((backTo pos (starEach [] X.env)).any (·.1) || (backToKw pos (keywordEach kws X.env)).any (·.1.isNone)) = false := by rfl) : DE X W (.Call (.Name x p) [] kws pos) (dCallK sp 0 ks.length idx dds W.D dNil tk) :=
  ⟨PE.imp (pe_callKS0 F hr hg hm hk hb (fun σ => L2N.passAt tk' σ) hkw.p hall hks hdb hpl) fun σ H Q h => by
    obtain ⟨σd, S, fr, Qd, ok, cl, h, k⟩ := callK_lift hdd σ H Q h
    exact k [] [] H S ok rfl h⟩
end
/-! ### for x, y in zip(xs, ys) -/
def zipD (ds es : List D) : List D := (ds.zip es).map fun p => .tup [p.1, p.2]
def zipR (R : List D → Sd → Prop) (S : Sd) : List D → Prop
  | [.lst ds, .lst es] => R (zipD ds es) S
  | _ => False
def dZip (ta : TAD) : TID := fun σ S R => ta σ S fun xs S1 => zipR R S1 xs
/-! ### * of tuples too -/
def rdMulA : RD2
  | .int i, .int j, S, Q => i.natAbs.log2 + j.natAbs.log2 < 1000000 ∧ Q (.int (i * j)) S
  | .str z, .int k, S, Q => (0 ≤ k ∧ (z.length : Int) * k ≤ 16777216 ∧ k ≤ 16777216) ∧ Q (.str (repS z k.toNat)) S
  | .tup ds, .int k, S, Q => (ds ≠ [] ∧ 1 ≤ k ∧ k ≤ 1000 ∧ ds.length ≤ 1000) ∧ Q (.tup (List.replicate k.toNat ds).flatten) S
  | _, _, _, _ => False
theorem rpL_flat {K : PySem.W.Frag} {H : Hp} {S : Sd} {ds : List D} {vs : List V} (r : RpL K H S ds vs) : ∀ n : Nat, RpL K H S (List.replicate n ds).flatten (List.replicate n vs).flatten
  | 0 => rpL_nil
  | n + 1 => by
    rw [List.replicate_succ, List.replicate_succ, List.flatten_cons, List.flatten_cons]
    exact rpL_app r (rpL_flat r n)
theorem od_mulA {X : Cx} : OpD X (binaryOp .Mult) rdMulA := ⟨_, (op_mulW.or op_mulS).or (op_repT.or op_once), fun H S fr σd σ x y dx dy Qv Qd ok rx ry h k => by
  cases dx with
  | int i =>
    cases dy with
    | int j => exact .inl (.inl ⟨i, j, rx, ry, h.1, k _ (.int (i * j)) H S ok rfl h.2⟩)
    | _ => exact (show False from h).elim
  | str z =>
    cases dy with
    | int j => exact .inl (.inr ⟨z, j, rx, ry, h.1.1, h.1.2.1, h.1.2.2, k _ (.str (repS z j.toNat)) H S ok rfl h.2⟩)
    | _ => exact (show False from h).elim
  | tup ds =>
    cases dy with
    | int j =>
      obtain ⟨⟨h0, h1, h2, h3⟩, q⟩ := h
      obtain ⟨a, vs, rfl, q1, r⟩ := rx
      have hl := rpL_len r
      by_cases c : j = 1
      · subst c
        have e : (List.replicate (Int.toNat 1) ds).flatten = ds := by show (List.replicate 1 ds).flatten = ds; simp
        rw [e] at q
        exact .inr (.inr ⟨a, vs, rfl, ry, q1, k _ (.tup ds) H S ok ⟨a, vs, rfl, q1, r⟩ q⟩)
      · exact .inr (.inl ⟨a, j, vs, rfl, ry, q1, fun e => h0 (by rw [e] at hl; exact List.eq_nil_of_length_eq_zero hl), by omega, h2, by omega, fun p hp => k _ (.tup (List.replicate j.toNat ds).flatten) _ S (ok.new hp) (rp_tupNew ok.rel hp (rpL_flat r j.toNat)) q⟩)
    | _ => exact (show False from h).elim
  | _ => cases dy <;> exact (show False from h).elim⟩
section
variable {i j : Int} {x : Str} {ds : List D} {S : Sd} {Q : DK}
theorem x_mulA : rdMulA (.int i) (.int j) S Q = (i.natAbs.log2 + j.natAbs.log2 < 1000000 ∧ Q (.int (i * j)) S) := rfl
theorem x_mulA_s : rdMulA (.str x) (.int j) S Q = ((0 ≤ j ∧ (x.length : Int) * j ≤ 16777216 ∧ j ≤ 16777216) ∧ Q (.str (repS x j.toNat)) S) := rfl
theorem x_mulA_t : rdMulA (.tup ds) (.int j) S Q = ((ds ≠ [] ∧ 1 ≤ j ∧ j ≤ 1000 ∧ ds.length ≤ 1000) ∧ Q (.tup (List.replicate j.toNat ds).flatten) S) := rfl
end
theorem sel_n1 {a : D} : sel [0] ([] ++ [a]) = [a] := rfl
theorem sel_n2 {a b : D} : sel [0, 1] ([] ++ [a, b]) = [a, b] := rfl
theorem sel_x2 {a b : D} : sel [1, 0] ([] ++ [a, b]) = [b, a] := rfl
theorem sel_12 {a b : D} : sel [0, 1] ([a] ++ [b]) = [a, b] := rfl
end Dv

/-! Readings by value: max and min of a list, by a def's ints too. -/
namespace Dv
open PySem L2 PyProof.Rows Hx
/-- the place of the best of so many -/
def bestBy (up : Bool) (kf : Nat → Int) (n : Nat) : Nat := argBest (fun i j => if up then decide (kf i > kf j) else decide (kf i < kf j)) (n - 1)
def kfL (kf : Str → Int) (zs : List Str) (i : Nat) : Int := match zs[i]? with
  | some z => kf z
  | none => 0
def keyR (sp : SpD) (up : Bool) (S : Sd) (Q : DK) : D → Prop
  | .lst ds => ∃ (zs : List Str) (kf : Str → Int), ds = zs.map D.str ∧ 0 < zs.length ∧ (∀ z ∈ zs, ∀ Q' : DK, Q' (.int (kf z)) S → sp [.str z] S Q' fun _ _ => False) ∧ ∀ z, zs[bestBy up (kfL kf zs) zs.length]? = some z → Q (.str z) S
  | _ => False
def dKeyed (sp : SpD) (up : Bool) (t : TED) : TED := fun σ S Q => t σ S fun d S1 => keyR sp up S1 Q d
section
variable {X : Cx} {W : Wi} {k : Nat} {f : Addr} {fd : FuncData} {p fn : Str} {sp : SpD} {e : Expr} {t : TED} {p1 p2 p3 pos : Pos}
end
/-! ### a text within a text -/
def hasS (z a : Str) : Bool := !(Builtin.Str.occurrences z a 0 z.length 1).isEmpty
def rdInT : RD2 := fun x y S Q => match x, y with
  | .str a, .str z => Q (.bl (hasS z a)) S
  | _, _ => False
theorem x_inT {a z : Str} {S : Sd} {Q : DK} : rdInT (.str a) (.str z) S Q = Q (.bl (hasS z a)) S := rfl
/-! ### xs = [.. for ..], the list is kept for changes -/
section
variable {X : Cx} {W : Wi} {pos : Pos}
end
end Dv

/-! Readings by value: sum of tuples. -/
namespace Dv
open PySem L2 PyProof.Rows Hx
section
variable {K : PySem.W.Frag} {H H' : Hp} {S : Sd}
theorem rel_ext (R : RelS K H S) (h : ∀ b o, H b = some o → H' b = some o) : RelS K H' S := fun a o e => by
  have st : Step H S H' S := fun b o h1 h2 => ⟨h b o h1, h2⟩
  have z := R a o e
  cases o with
  | lst ds =>
    obtain ⟨vs, h1, h2⟩ := z
    exact ⟨vs, h a _ h1, rpL_step R st _ _ h2⟩
  | ins C ns ds =>
    obtain ⟨C, dx, fs, h0, h1, h2, h3⟩ := z
    exact ⟨C, dx, fs, h0, h a _ h1, h2, rpL_step R st _ _ h3⟩
  | tab q =>
    obtain ⟨ps, h1, h2, h3⟩ := z
    exact ⟨ps, h a _ h1, h2, fun pos cv e => let ⟨c, e1, e2⟩ := h3 pos cv e; ⟨c, e1, h c _ e2⟩⟩
theorem okExt {fr : List (V × D)} {σd : Si} {σ : L2.St} (ok : Ok K H S fr σd σ) (h : ∀ b o, H b = some o → H' b = some o) : Ok K H' S fr σd σ := ok.step (fun b o h1 h2 => ⟨h b o h1, h2⟩) (rel_ext ok.rel h)
/-- the tuples of a list, over V -/
theorem tups_of : ∀ {dss : List (List D)} {us : List V}, RpL K H S (dss.map D.tup) us → ∃ vss : List (List V), TupsAt K H us vss ∧ RpL K H S dss.flatten vss.flatten ∧ ∀ n, (vss.take n).flatten.length = (dss.take n).flatten.length
  | [], us, r => by
    have e : us = [] := r
    subst e
    exact ⟨[], ⟨rfl, fun i x vs h => by simp at h⟩, rpL_nil, fun n => by simp⟩
  | ds :: dss, us, r => by
    obtain ⟨u, us, rfl, r1, r2⟩ := r
    obtain ⟨t, vs, rfl, q, r3⟩ := r1
    obtain ⟨vss, h1, h2, h3⟩ := tups_of r2
    refine ⟨vs :: vss, ⟨by rw [List.length_cons, List.length_cons, h1.1], fun i x ws e1 e2 => ?_⟩, by rw [List.flatten_cons, List.flatten_cons]; exact rpL_app r3 h2, fun n => ?_⟩
    · cases i with
      | zero =>
        cases e1
        cases e2
        exact ⟨t, rfl, q⟩
      | succ i => exact h1.2 i x ws e1 e2
    · cases n with
      | zero => simp
      | succ n =>
        rw [List.take_succ_cons, List.take_succ_cons, List.flatten_cons, List.flatten_cons, List.length_append, List.length_append, h3 n, rpL_len r3]
end
def sumR (S : Sd) (Q : DK) : List D → List D → Prop
  | [.lst ds], [.tup []] => ∃ dss : List (List D), ds = dss.map D.tup ∧ (∀ n, (dss.take n).flatten.length ≤ 1000) ∧ Q (.tup dss.flatten) S
  | _, _ => False
theorem sumR_inv {S : Sd} {Q : DK} {xs zs : List D} (h : sumR S Q xs zs) : ∃ dss : List (List D), xs = [.lst (dss.map D.tup)] ∧ zs = [.tup []] ∧ (∀ n, (dss.take n).flatten.length ≤ 1000) ∧ Q (.tup dss.flatten) S := by
  unfold sumR at h
  split at h
  · obtain ⟨dss, rfl, h1, h2⟩ := h
    exact ⟨dss, rfl, rfl, h1, h2⟩
  · exact h.elim
def dSumT (t tk : TAD) : TED := fun σ S Q => t σ S fun xs S1 => tk σ S1 fun zs S2 => sumR S2 Q xs zs
section
variable {X : Cx} {W : Wi} {e : Expr} {t tk : TAD} {kws : List Keyword} {p pos : Pos}
theorem sumT_lift (σ : L2.St) (H : Hp) (Q : VK) (h : upE X.K W (dSumT t tk) σ H Q) : tCKw (rSumT X.K) (upA X.K W t) (upA X.K W tk) σ H Q := by
  obtain ⟨σd, S, fr, Qd, ok, cl, h, k⟩ := h
  refine ⟨σd, S, fr, _, ok, cl, h, fun vs ds H1 S1 ok1 r1 h1 => ⟨σd, S1, vs.zip ds ++ fr, _, okL ok1 r1, cl_drop cl _, h1, fun zs es H2 S2 ok2 r2 h2 => ?_⟩⟩
  obtain ⟨ok3, r3⟩ := okL_drop r1 ok2
  obtain ⟨dss, rfl, rfl, hw, q⟩ := sumR_inv h2
  obtain ⟨v, rfl, t1⟩ := rpL1 r3
  obtain ⟨z, rfl, t2⟩ := rpL1 r2
  obtain ⟨l, us, rfl, q1, r4⟩ := rp_list ok3.rel t1
  obtain ⟨a, ws, rfl, q2, r5⟩ := t2
  have ew : ws = [] := r5
  subst ew
  obtain ⟨vss, g1, g2, g3⟩ := tups_of r4
  refine ⟨l, a, us, vss, rfl, rfl, q1, g1, q2, fun n => by rw [g3 n]; exact hw n, fun p H' hx hp => ?_⟩
  exact k _ (.tup dss.flatten) H' S2 (okExt ok3 hx) ⟨p, _, rfl, hp, rpL_step ok3.rel (fun b o h1 h2 => ⟨hx b o h1, h2⟩) _ _ g2⟩ q
theorem de_sumT (hc : X.calm = true) (hg : Gl X "sum") (hm : X.mg "sum" = none) (hv : bootBuiltins "sum" = some (.builtin "sum")) (ha : DA X W [e] t) (hk : DKw X W kws tk)
    (he : backTo pos (starEach [e] X.env) = (false, eval e X.env) :: backTo pos (starEach [] X.env) := by rfl) (hpl : (backTo pos (starEach [e] X.env)).any (·.1) = false := by rfl)
    (hall : (backToKw pos (keywordEach kws X.env)).all (·.1.isSome) = true := by rfl) (hnone : (backToKw pos (keywordEach kws X.env)).any (·.1.isNone) = false := by rfl) (hks : (backToKw pos (keywordEach kws X.env)).filterMap (·.1) = [Str.ofString "start"] := by rfl) :
    DE X W (.Call (.Name "sum" p) [e] kws pos) (dSumT t tk) :=
  ⟨PE.imp (pe_callBK (cr_sumT hc) hg hm hv ha.p hk.p (he := he) (hpl := hpl) (hall := hall) (hnone := hnone) (hks := hks)) sumT_lift⟩
end
end Dv

/-! Readings by value: a written dict of lists, subscripted at once; extend. -/
namespace Dv
open PySem L2 PyProof.Rows Hx
def tL2 (a b : Int) : TE := tLst (tCons (tC (.int a)) (tCons (tC (.int b)) tNil))
/-- over V: the answer is a list of its own; all else stays -/
theorem pick2_V {k1 k2 : Str} {a b c d : Int} {i : Nat} {σ : L2.St} {H : Hp} {Q : VK} {z : Str} (hk : k1 ≠ k2) (ev : σ[i]? = some (some (.str z))) (hz : z = k1 ∨ z = k2)
    (q : ∀ (r : Addr) (H4 : Hp), (∀ x o, H x = some o → H4 x = some o) → H r = none → H4 r = some (.lst (if z = k1 then [V.int a, V.int b] else [V.int c, V.int d])) → Q (.ref r) H4) : tDGet (tDisp [(tC (.str k1), tL2 a b), (tC (.str k2), tL2 c d)]) (tVar i) σ H Q := by
  intro p hp
  refine ⟨by rw [sizeLine_eq]; show 2 ≤ _; decide, fun q1 hq1 => ?_⟩
  refine ⟨by rw [sizeLine_eq]; show 2 ≤ _; decide, fun q2 hq2 => ?_⟩
  have n1 : q1 ≠ p := fun e => by rw [e, upd_same] at hq1; cases hq1
  have n2 : q2 ≠ q1 := fun e => by rw [e, upd_same] at hq2; cases hq2
  have n3 : q2 ≠ p := fun e => by rw [e, upd_ne (Ne.symm n1), upd_same] at hq2; cases hq2
  have h1 : H q1 = none := by rw [upd_ne n1] at hq1; exact hq1
  have h2 : H q2 = none := by rw [upd_ne n2, upd_ne n3] at hq2; exact hq2
  refine ⟨by rw [upd_ne (Ne.symm n3), upd_ne (Ne.symm n1), upd_same], [(.inr k1, .ref q1), (.inr k2, .ref q2)], rfl, by show 2 ≤ 15; decide, ?_⟩
  generalize hH4 : upd (upd (upd (upd H p (.dK [])) q1 (.lst [V.int a, V.int b])) q2 (.lst [V.int c, V.int d])) p (.dK (mergeK [] [(Sum.inr k1, V.ref q1), (Sum.inr k2, V.ref q2)])) = H4
  have ext : ∀ x o, H x = some o → H4 x = some o := fun x o e => by
    rw [← hH4, upd_ne (fun z => by rw [z, hp] at e; cases e), upd_ne (fun z => by rw [z, h2] at e; cases e), upd_ne (fun z => by rw [z, h1] at e; cases e), upd_ne (fun z => by rw [z, hp] at e; cases e)]
    exact e
  have a1 : H4 q1 = some (.lst [V.int a, V.int b]) := by rw [← hH4, upd_ne n1, upd_ne (Ne.symm n2), upd_same]
  have a2 : H4 q2 = some (.lst [V.int c, V.int d]) := by rw [← hH4, upd_ne n3, upd_same]
  have a3 : H4 p = some (.dK (mergeK [] [(Sum.inr k1, V.ref q1), (Sum.inr k2, V.ref q2)])) := by rw [← hH4, upd_same]
  have m1 : valV (mergeK [] [(Sum.inr k1, V.ref q1), (Sum.inr k2, V.ref q2)]) (Sum.inr k1 : Key) = some (V.ref q1) := by simp [mergeK, putK, valV, hk]
  have m2 : valV (mergeK [] [(Sum.inr k1, V.ref q1), (Sum.inr k2, V.ref q2)]) (Sum.inr k2 : Key) = some (V.ref q2) := by simp [mergeK, putK, valV, hk]
  show tVar i σ H4 _
  rcases hz with rfl | rfl
  · exact ⟨.str z, ev, p, .ref q1, rfl, .inl ⟨_, .inr z, .inl a3, rfl, m1.symm⟩, q q1 H4 ext h1 (by rw [if_pos rfl]; exact a1)⟩
  · exact ⟨.str z, ev, p, .ref q2, rfl, .inl ⟨_, .inr z, .inl a3, rfl, m2.symm⟩, q q2 H4 ext h2 (by rw [if_neg (Ne.symm hk)]; exact a2)⟩
/-- xs.extend({"k1": [a, b], "k2": [c, d]}[x]), xs (an owned list) and x in slots -/
def dExtPick (j : Nat) (k1 : Str) (a b : Int) (k2 : Str) (c d : Int) (i : Nat) : TED := fun σ S Q => ∃ (p : Addr) (ds : List D) (z : Str), σ[j]? = some (some (.obj p)) ∧ S p = some (.lst ds) ∧ ds.length + 2 ≤ 16777216 ∧ σ[i]? = some (some (.str z)) ∧ (z = k1 ∨ z = k2) ∧
  Q .non (upS S p (.lst (ds ++ if z = k1 then [.int a, .int b] else [.int c, .int d])))
theorem extPick_lift {K : PySem.W.Frag} {W : Wi} {k1 k2 : Str} {a b c d : Int} {i j : Nat} (hk : k1 ≠ k2) (σ : L2.St) (H : Hp) (Q : VK) (h : upE K W (dExtPick j k1 a b k2 c d i) σ H Q) : tBM K "list" rExtend (tVar j) (tCons (tDGet (tDisp [(tC (.str k1), tL2 a b), (tC (.str k2), tL2 c d)]) (tVar i)) tNil) σ H Q := by
  obtain ⟨σd, S, fr, Qd, ok, cl, ⟨p, ds, z, hj, hS, hl, hi, hz, q⟩, k⟩ := h
  obtain ⟨v, ev, rv⟩ := ok.si i _ hi
  have e0 : v = .str z := rv
  subst e0
  obtain ⟨u, eu, ru⟩ := ok.si j _ hj
  have e1 : u = .ref p := ru
  subst e1
  obtain ⟨vs, hv, rl⟩ := rp_obj ok.rel hS
  refine ⟨.ref p, eu, ?_, pick2_V hk ev hz fun r H4 ext hr h4 => ?_⟩
  · exact .inl ⟨rfl, vs, .inl (.inl hv)⟩
  · have ok4 := okExt ok ext
    have hv4 := ext p _ hv
    obtain ⟨vs4, hv5, rl4⟩ := rp_obj ok4.rel hS
    rw [hv4] at hv5
    cases hv5
    have st : ∀ ws : List V, ∀ es : List D, Step H4 S (upd H4 p (.lst (vs ++ ws))) (upS S p (.lst (ds ++ es))) := fun ws es => step_set hS
    have ll := rpL_len rl4
    show rExtend (.ref p) [.ref r] H4 Q
    by_cases c1 : z = k1
    · rw [if_pos c1] at h4 q
      exact ⟨p, r, vs, _, rfl, rfl, hv4, h4, by rw [sizeLine_eq]; show vs.length + 2 ≤ _; omega, k _ .non _ _ (ok4.step (st [V.int a, V.int b] [.int a, .int b]) (rel_set ok4.rel hS ⟨_, upd_same, rpL_step ok4.rel (st [V.int a, V.int b] [.int a, .int b]) _ _ (rpL_app rl4 (rpL_cons rfl (rpL_cons rfl rpL_nil)))⟩)) rfl q⟩
    · rw [if_neg c1] at h4 q
      exact ⟨p, r, vs, _, rfl, rfl, hv4, h4, by rw [sizeLine_eq]; show vs.length + 2 ≤ _; omega, k _ .non _ _ (ok4.step (st [V.int c, V.int d] [.int c, .int d]) (rel_set ok4.rel hS ⟨_, upd_same, rpL_step ok4.rel (st [V.int c, V.int d] [.int c, .int d]) _ _ (rpL_app rl4 (rpL_cons rfl (rpL_cons rfl rpL_nil)))⟩)) rfl q⟩
section
variable {X : Cx} {W : Wi} {k1 k2 x y : Str} {a b c d : Int} {i j : Nat} {m1 m2 m3 m4 m5 m6 : Nat} {q1 q2 q3 q4 q5 q6 u1 u2 dpos np yp pos apos cpos : Pos}
theorem de_extPick (hu : X.A.units + 64 < cLine) (hk : k1 ≠ k2) (hN : X.N[i]? = some x) (hv : Vis X.env.scope x) (hNj : X.N[j]? = some y) (hvj : Vis X.env.scope y) (hs : NoSl (.Name x np)) (hd : (x == ("__debug__" : Str)) = false := by decide) (hcd : (x == ("__classdict__" : Str)) = false := by decide) (hdj : (y == ("__debug__" : Str)) = false := by decide) (hcdj : (y == ("__classdict__" : Str)) = false := by decide)
    (hbase : attributeBase (.Name y yp) "extend" X.env (eval (.Name y yp) X.env) = eval (.Name y yp) X.env := by rfl) (hline : (apos.endLine == cpos.line) = true := by rfl) :
    DE X W (.Call (.Attribute (.Name y yp) "extend" apos) [.Subscript (.Dict [some (.Constant (.str k1) m1 q1), some (.Constant (.str k2) m2 q2)] [.List [.Constant (.int a) m3 q3, .Constant (.int b) m4 q4] u1, .List [.Constant (.int c) m5 q5, .Constant (.int d) m6 q6] u2] dpos) (.Name x np) pos] [] cpos) (dExtPick j k1 a b k2 c d i) := by
  have pd := pe_disp (pos := dpos) (pps_cons (pos := dpos) (pe_str (X := X) (x := k1) (j := m1) (pos := q1)) (pe_lst (pos := u1) (pa_cons (pe_int (X := X) (i := a) (j := m3) (pos := q3)) (pa_cons (pe_int (X := X) (i := b) (j := m4) (pos := q4)) pa_nil rfl) rfl)) (pps_cons (pe_str (X := X) (x := k2) (j := m2) (pos := q2)) (pe_lst (pos := u2) (pa_cons (pe_int (X := X) (i := c) (j := m5) (pos := q5)) (pa_cons (pe_int (X := X) (i := d) (j := m6) (pos := q6)) pa_nil rfl) rfl)) pps_nil)) rfl rfl (by simp) (by show 2 ≤ 15; decide)
  have pg := pe_dget (pos := pos) (by omega) pd (pe_var (pos := np) hN hv hd hcd) hs
  exact ⟨PE.imp (pe_bm PySem.F.plainAttrs_list PySem.F.slot_list_extend PySem.F.type_list_extend mt_extend (pe_var hNj hvj hdj hcdj) (pa_cons pg pa_nil rfl) hbase rfl hline rfl rfl) (extPick_lift hk)⟩
end
end Dv

/-! Readings by value: repr of data, == of tracked lists. -/
namespace Dv
open PySem L2 PyProof.Rows Hx
/-- a tracked list stands for its items -/
def valD (S : Sd) (d : D) : D := match d with
  | .obj a => match S a with
    | some (.lst ds) => .lst ds
    | _ => d
  | d => d
mutual
/-- what can be shown: ints below 2 ^ 1920, texts of code points -/
def shOk : D → Bool
  | .non => true | .bl _ => true
  | .int i => decide (i.natAbs.log2 < 1920)
  | .str z => PyData.strOk z
  | .tup ds => shOkL ds
  | .lst ds => shOkL ds
  | _ => false
def shOkL : List D → Bool
  | [] => true
  | d :: ds => shOk d && shOkL ds
end
mutual
/-- a bound of how long the text is -/
def shL : D → Nat
  | .int _ => 1921
  | .str z => 10 * z.length + 2
  | .tup ds => shLL ds + 3
  | .lst ds => shLL ds + 2
  | _ => 5
def shLL : List D → Nat
  | [] => 0
  | d :: ds => shL d + 2 + shLL ds
end
mutual
theorem shOk_data : ∀ {d : D}, shOk d = true → isData d = true
  | .int _, _ => rfl
  | .non, _ => rfl
  | .bl _, _ => rfl
  | .str _, _ => rfl
  | .tup ds, h => shOkL_data (ds := ds) h
  | .lst ds, h => shOkL_data (ds := ds) h
  | .tupX _, h => absurd (show false = true from h) Bool.false_ne_true
  | .inst _ _ _, h => absurd (show false = true from h) Bool.false_ne_true
  | .obj _, h => absurd (show false = true from h) Bool.false_ne_true
  | .ty _, h => absurd (show false = true from h) Bool.false_ne_true
  | .exc _ _ _ _, h => absurd (show false = true from h) Bool.false_ne_true
theorem shOkL_data : ∀ {ds : List D}, shOkL ds = true → isDataL ds = true
  | [], _ => rfl
  | d :: ds, h => by
    have h' := Bool.and_eq_true_iff.mp (show (shOk d && shOkL ds) = true from h)
    show (isData d && isDataL ds) = true
    rw [shOk_data h'.1, shOkL_data h'.2]
    rfl
end
mutual
theorem shOk_show : ∀ {d : D}, shOk d = true → (pd d).showable = true
  | .int i, h => h
  | .non, _ => rfl
  | .bl _, _ => rfl
  | .str _, _ => rfl
  | .tup ds, h => shOkL_show (ds := ds) h
  | .lst ds, h => shOkL_show (ds := ds) h
  | .tupX _, h => absurd (show false = true from h) Bool.false_ne_true
  | .inst _ _ _, h => absurd (show false = true from h) Bool.false_ne_true
  | .obj _, h => absurd (show false = true from h) Bool.false_ne_true
  | .ty _, h => absurd (show false = true from h) Bool.false_ne_true
  | .exc _ _ _ _, h => absurd (show false = true from h) Bool.false_ne_true
theorem shOkL_show : ∀ {ds : List D}, shOkL ds = true → PyData.showableAll (pdL ds) = true
  | [], _ => rfl
  | d :: ds, h => by
    have h' := Bool.and_eq_true_iff.mp (show (shOk d && shOkL ds) = true from h)
    show ((pd d).showable && PyData.showableAll (pdL ds)) = true
    rw [shOk_show h'.1, shOkL_show h'.2]
    rfl
end
mutual
theorem pd_noDict : ∀ (d : D), (pd d).hasDict = false
  | .int _ => rfl
  | .non => rfl
  | .bl _ => rfl
  | .str _ => rfl
  | .tup ds => pdL_noDict ds
  | .lst ds => pdL_noDict ds
  | .tupX _ => rfl
  | .inst _ _ _ => rfl
  | .obj _ => rfl
  | .ty _ => rfl
  | .exc _ _ _ _ => rfl
  | .fn _ => rfl
  | .hob _ => rfl
  | .dct _ _ => rfl
theorem pdL_noDict : ∀ (ds : List D), PyData.hasDictAll (pdL ds) = false
  | [] => rfl
  | d :: ds => by
    show ((pd d).hasDict || PyData.hasDictAll (pdL ds)) = false
    rw [pd_noDict d, pdL_noDict ds]
    rfl
end
theorem join_len (ts : List Str) : (Str.join ", " ts).length ≤ piled ts := by
  cases ts with
  | nil => show 0 ≤ _; omega
  | cons t r => have := join_length_add (t :: r) (by simp); omega
theorem textFrom_piled : ∀ (ts : List Str) (k : Nat) (acc : Str), (textFrom k acc ts).length ≤ acc.length + piled ts
  | [], k, acc => by show acc.length ≤ acc.length + _; omega
  | t :: r, k, acc => by
    have ih := textFrom_piled r (k + 1) (acc ++ (if k > 0 then ", " else "" : String) ++ t)
    have e : (acc ++ (if k > 0 then ", " else "" : String) ++ t).length = acc.length + (if k > 0 then 2 else 0) + t.length := by
      rw [strLen_append, strLen_append]
      split <;> rfl
    rw [e] at ih
    rw [piled_cons]
    show (textFrom (k + 1) (acc ++ (if k > 0 then ", " else "" : String) ++ t) r).length ≤ _
    have h2 : (if k > 0 then 2 else 0) ≤ 2 := by split <;> omega
    omega
mutual
theorem shown_len : ∀ {d : D}, shOk d = true → (pd d).shown.length ≤ shL d
  | .int i, h => int_text_len_1921 (of_decide_eq_true h)
  | .non, _ => by show 4 ≤ 5; omega
  | .bl b, _ => by cases b <;> decide
  | .str z, h => PySem.StrLaws.reprText_len z fun c hc => by
    have h1 := Array.all_eq_true'.mp (show z.cps.all (· < 0x110000) = true from h) c (by simpa using hc)
    have h2 := of_decide_eq_true h1
    omega
  | .tup ds, h => by
    have ih := shownL_len (ds := ds) h
    show (tupleText (PyData.shownAll (pdL ds))).length ≤ shLL ds + 3
    unfold tupleText
    rw [strLen_append, strLen_append]
    have := join_len (PyData.shownAll (pdL ds))
    have e1 : (("(" : String) : Str).length = 1 := rfl
    have e2 : ((if (PyData.shownAll (pdL ds)).length == 1 then ",)" else ")" : String) : Str).length ≤ 2 := by split <;> decide
    omega
  | .lst ds, h => by
    have ih := shownL_len (ds := ds) h
    show (listText (PyData.shownAll (pdL ds))).length ≤ shLL ds + 2
    unfold listText
    rw [strLen_append]
    have := textFrom_piled (PyData.shownAll (pdL ds)) 0 ("[" : String)
    have e1 : (("[" : String) : Str).length = 1 := rfl
    have e2 : (("]" : String) : Str).length = 1 := rfl
    omega
  | .tupX _, h => absurd (show false = true from h) Bool.false_ne_true
  | .inst _ _ _, h => absurd (show false = true from h) Bool.false_ne_true
  | .obj _, h => absurd (show false = true from h) Bool.false_ne_true
  | .ty _, h => absurd (show false = true from h) Bool.false_ne_true
  | .exc _ _ _ _, h => absurd (show false = true from h) Bool.false_ne_true
theorem shownL_len : ∀ {ds : List D}, shOkL ds = true → piled (PyData.shownAll (pdL ds)) ≤ shLL ds
  | [], _ => Nat.le_refl _
  | d :: ds, h => by
    have h' := Bool.and_eq_true_iff.mp (show (shOk d && shOkL ds) = true from h)
    have h1 := shown_len h'.1
    have h2 := shownL_len h'.2
    show piled ((pd d).shown :: PyData.shownAll (pdL ds)) ≤ shL d + 2 + shLL ds
    rw [piled_cons]
    omega
end
theorem dp_val {K : PySem.W.Frag} {H : Hp} {S : Sd} {d : D} {v : V} (R : RelS K H S) (h : isData (valD S d) = true) (r : Rp K H S d v) : Dp K H v (pd (valD S d)) := by
  cases d with
  | obj a =>
    have e : v = .ref a := r
    subst e
    unfold valD at h ⊢
    dsimp only at h ⊢
    split at h
    · rename_i ds q
      obtain ⟨vs, q1, q2⟩ := rp_obj R q
      exact .lst (.inl (.inl q1)) (dp_ofL R ds vs h q2)
    · exact absurd (show false = true from h) Bool.false_ne_true
  | _ => exact dp_of R _ v h r
/-! ### repr -/
def rRepr (K : PySem.W.Frag) : List V → Hp → VK → Prop := fun xs H Q => ∃ v p, xs = [v] ∧ Dp K H v p ∧ p.showable = true ∧ p.hasDict = false ∧ p.depth ≤ 60 ∧ p.shown.length ≤ sizeLine ∧ Q (.str p.shown) H
theorem call_reprD {X : Cx} (hg : X.A.guards = some []) (hu : X.A.units + 64 < cLine) : CallR X (.builtin "repr") (rRepr X.K) := by
  intro pins s σ H xs us Q I r ⟨v, p, e, hd, hs, hn, hp, hz, q⟩
  subst e
  obtain ⟨u, rfl, rv⟩ := vals1 r
  have big : ∀ {a : Addr}, v = .ref a → wpAny (model X.prog X.w) X.A (call (.builtin "repr") [u]) (EP X pins σ Q) X.xe s := fun {a} e => by
    obtain ⟨as, rd⟩ := Dp.reads I p v u hd rv
    subst e
    obtain rfl : u = Value.ref a := rv
    exact PySem.repr_of_reads' rd hs (fun z => by rw [hn] at z; cases z) hg (by omega) (fun _ _ z => z) (fun h' t tk hk => ⟨.str _, H, I.kept hk, ⟨t, rfl⟩, q⟩) hz
  cases hd with
  | non =>
    obtain rfl : u = Value.none := rv
    exact PySem.P.repr_of_none ⟨.str _, H, I.tok _, ⟨_, rfl⟩, q⟩
  | bl b =>
    obtain rfl : u = Value.bool b := rv
    exact PySem.P.repr_of_bool ⟨.str _, H, I.tok _, ⟨_, rfl⟩, q⟩
  | int i =>
    obtain ⟨t, rfl⟩ := (show ∃ t, u = .int i t from rv)
    exact PySem.P.repr_of_int (of_decide_eq_true hs) ⟨.str _, H, I.tok _, ⟨_, rfl⟩, q⟩
  | str z =>
    obtain ⟨t, rfl⟩ := (show ∃ t, u = .str z t from rv)
    exact PySem.P.repr_of_str ⟨.str _, H, I.tok _, ⟨_, rfl⟩, q⟩ hz
  | lst _ _ => exact big rfl
  | tup _ _ => exact big rfl
/-- may be shown -/
def shD (d : D) : Prop := shOk d = true ∧ shL d ≤ 16777216 ∧ (pd d).depth ≤ 60
def shownD (d : D) : Str := (pd d).shown
def rdRepr : RDC := fun ds S Q => match ds with
  | [d] => shD (valD S d) ∧ Q (.str (shownD (valD S d))) S
  | _ => False
theorem cd_repr {X : Cx} (hg : X.A.guards = some []) (hu : X.A.units + 64 < cLine) : CallD X (.builtin "repr") rdRepr := ⟨_, call_reprD hg hu, fun H S fr σd σ xs ds Qv Qd ok r h k => by
  cases ds with
  | nil => exact h.elim
  | cons d t => cases t with
    | cons _ _ => exact h.elim
    | nil =>
      obtain ⟨v, rfl, r0⟩ := rpL1 r
      obtain ⟨⟨h1, h2, h3⟩, q⟩ := h
      exact ⟨v, _, rfl, dp_val ok.rel (shOk_data h1) r0, shOk_show h1, pd_noDict _, h3, by rw [sl_eq]; exact Nat.le_trans (shown_len h1) h2, k _ (.str _) H S ok rfl q⟩⟩
theorem x_repr {d : D} {S : Sd} {Q : DK} : rdRepr [d] S Q = (shD (valD S d) ∧ Q (.str (shownD (valD S d))) S) := rfl
/-! ### == where a tracked list may stand -/
def eqV_ (x y : D) (S : Sd) (Q : DK) : Prop := (eqOk (valD S x) = true ∧ eqOk (valD S y) = true) ∧ Q (.bl (deq (valD S x) (valD S y))) S
def neV_ (x y : D) (S : Sd) (Q : DK) : Prop := (eqOk (valD S x) = true ∧ eqOk (valD S y) = true) ∧ Q (.bl (!deq (valD S x) (valD S y))) S
def rdEqO : RD2 := fun x y S Q => match x, y with
  | .obj a, y => eqV_ (.obj a) y S Q
  | x, .obj b => eqV_ x (.obj b) S Q
  | x, y => rdEq x y S Q
def rdNeO : RD2 := fun x y S Q => match x, y with
  | .obj a, y => neV_ (.obj a) y S Q
  | x, .obj b => neV_ x (.obj b) S Q
  | x, y => rdNe x y S Q
section
variable {S : Sd} {Q : DK}
theorem x_eqO_ss {x y : Str} : rdEqO (.str x) (.str y) S Q = Q (.bl (decide (x = y))) S := rfl
theorem x_neO_ss {x y : Str} : rdNeO (.str x) (.str y) S Q = Q (.bl (!decide (x = y))) S := rfl
end
/-! ### a list unpacked into names -/
def dTupL (n : Nat) (t : TGsD) : TGD := fun d σ S Q => match lstD S d with
  | some ds => ds.length = n ∧ t ds σ S Q
  | none => False
theorem x_tupL {n : Nat} {t : TGsD} {ds : List D} {σ : Si} {S : Sd} {Q : Si → Sd → Prop} : dTupL n t (.lst ds) σ S Q = (ds.length = n ∧ t ds σ S Q) := rfl
/-! ### a tracked list walked by a comprehension -/
section
variable {X : Cx} {W : Wi} {pos : Pos}
end
/-! ### isinstance, reverse of tracked lists -/
end Dv

/-! An own exception whose __init__ stores its arguments, over any built-in class of errors. -/
namespace Hx
open PySem PySem.Spec PyProof.Rows L2
/-- what the written part says of such a class; bm: its built-in class's mro -/
structure OexG (K : PySem.W.Frag) (C : Addr) (bm : List Value) (newId : String) : Prop where
  cls : ∃ nm q N bs sn sub ab col dd k0 k1 k2 k3 k5, K.lookup C = some (excClassObj nm q C N bs bm true sn sub ab col dd k0 k1 k2 k3 k5 newId)
  pass : ∀ self : Value, refuseLoop self "__setattr__" bm = pure ()
  top : bm.contains (.type "object") = true
  sa : PySem.W.findIn K (.ref C) "__setattr__" = some (some (.builtin "object.__setattr__"))
  exC : PySem.W.subIn K (.ref C) (.type "BaseException") = some true
  tyC : PySem.W.typeIn K (.ref C) = some (.type "type")
  kC : PySem.W.keepIn K (.ref C) = true
section
open Builtin Builtin.ObjectAttr PySem.Calls
variable {prog : Program} {w : World} {A : Around} {R : Result → Shared → Prop} {hp : Heap} {g : Array GenState} {d : Drawn} {t : Nat} {os : OsState} {K : PySem.W.Frag} {name : Str} {tk : Tok} {v : Value} {x C dx : Addr} {fv : Array Value} {cd : ClassData} {bm : List Value} {m0 : Str → Option Value} {nl : List Str}
theorem look_sub {o : Obj} {od : Option Obj} (X : K.In hp) (I : PySem.W.InstAt hp x o C od) (hcd : PySem.W.clsIn K C = some cd) (hm : cd.mro = .ref C :: bm) (top : bm.contains (.type "object") = true) : PySem.W.Looks (model prog w) hp (isInstance (.ref x) (.type "object")) true :=
  I.type.andThen (PySem.W.looks_mroIn X (by
    have e : cd.mro.contains (.type "object") = true := by rw [hm, List.contains_cons, top, Bool.or_true]
    unfold PySem.W.mroIn
    rw [hcd, Option.bind_some, if_neg (by rw [hm]; exact Bool.false_ne_true), e]))
/-- the first field: a dict is made -/
theorem put_first (X : K.In hp) (hx : hp.get? x = some { cls := .ref C, data := .fields fv }) (hcd : PySem.W.clsIn K C = some cd) (hm : cd.mro = .ref C :: bm) (pass : ∀ self : Value, refuseLoop self "__setattr__" bm = pure ()) (top : bm.contains (.type "object") = true) (hh : cd.hasDict = true) (free : PySem.W.findIn K (.ref C) name = some none)
    (fin : ∀ h' tk' dx, (∀ b o, b ≠ x → hp.get? b = some o → h'.get? b = some o) → hp.objs.size ≤ dx → dx ≠ x → h'.get? x = some { cls := .ref C, dict := some dx, data := .fields fv } → h'.Ns1 dx (fun y => if y = name then some v else none) → R (.ok (.ret .none)) ⟨h', g, d, tk', os⟩) :
    codeAny (model prog w) A (.call (.builtin "object.__setattr__") ⟨[.ref x, .str name tk, v], []⟩) R ⟨hp, g, d, t, os⟩ := by
  have SF := F.store_object
  have I : PySem.W.InstAt hp x { cls := .ref C, data := .fields fv } C none := ⟨hx, rfl, rfl, trivial⟩
  have apart : x ≠ hp.objs.size := Nat.ne_of_lt (Heap.lt_size hx)
  have seeC : PySem.W.Looks (model prog w) hp (classData C) cd := PySem.W.looks_clsIn X hcd
  have seeM : PySem.W.Looks (model prog w) hp (mroOf (.ref C)) cd.mro := seeC.andThen .now
  have seeT : PySem.W.Looks (model prog w) hp (storeTaker? none) none := .now
  refine codeAny_call_builtin SF.slot.plain SF.entry (@PySem.W.check_slot (model prog w) _ _ ⟨hp, g, d, t, os⟩ "object.__setattr__" "object" "__setattr__" (.ref x) [.str name tk, v] [] _ SF.kind SF.split (look_sub X I hcd hm top) (SF.args (.ref x) (.str name tk) v) ?_)
  rw [PySem.W.osa_eq, refuse_eq]
  refine wpAny_bind (wpAny_bind (I.type.at (wpAny_bind (seeM.at ?_))))
  rw [hm, refuseLoop_ref, pass]
  refine wpAny_pure (wpAny_bind (I.type.at (wpAny_bind ((PySem.W.looks_findIn X free).at (wpAny_bind (seeT.at (show wpAny _ _ (storeInOwnDict (.ref x) (.ref C) (.str name tk) name v false) _ _ _ from ?_)))))))
  cases cd
  dsimp only at hh
  subst hh
  unfold storeInOwnDict ownDictForStores
  repeat (first | with_reducible refine HandSPX.store_in_new ?_ ?_ | with_reducible refine wpAny_loadPart_at hx ?_ | with_reducible refine seeC.at ?_ | wp_step)
  · exact ⟨_, #[], _, (Heap.get?_update_ne _ _ _ _ apart.symm).trans (Heap.get?_push_at rfl rfl), rfl, fun e he => absurd he (by simp), fun _ => rfl⟩
  · intro h' tk' hn' hs
    refine fin h' tk' hp.objs.size (fun b o hb ho => ?_) (Nat.le_refl _) apart.symm ?_ hn'
    · exact (hs.2 b (Nat.ne_of_lt (Heap.lt_size ho))).trans ((Heap.get?_update_ne _ _ _ _ hb).trans (Heap.get?_push_of_some _ ho))
    · exact (hs.2 x apart).trans (Heap.get?_update_self _ (Heap.get?_push_of_some _ hx) rfl)
/-- a further field -/
theorem put_more (X : K.In hp) (hx : hp.get? x = some { cls := .ref C, dict := some dx, data := .fields fv }) (hns : hp.Ns1 dx m0) (hw : Within m0 nl) (hz : nl.length ≤ 1000) (hcd : PySem.W.clsIn K C = some cd) (hm : cd.mro = .ref C :: bm) (pass : ∀ self : Value, refuseLoop self "__setattr__" bm = pure ()) (top : bm.contains (.type "object") = true) (hh : cd.hasDict = true)
    (free : PySem.W.findIn K (.ref C) name = some none) (fin : ∀ h' tk', (∀ b o, b ≠ dx → hp.get? b = some o → h'.get? b = some o) → h'.Ns1 dx (fun y => if y = name then some v else m0 y) → R (.ok (.ret .none)) ⟨h', g, d, tk', os⟩) :
    codeAny (model prog w) A (.call (.builtin "object.__setattr__") ⟨[.ref x, .str name tk, v], []⟩) R ⟨hp, g, d, t, os⟩ := by
  have SF := F.store_object
  obtain ⟨oD, esD, epD, hoD, hdD, _⟩ := hns.count hw
  have I : PySem.W.InstAt hp x { cls := .ref C, dict := some dx, data := .fields fv } C (some oD) := ⟨hx, rfl, rfl, hoD⟩
  have seeC : PySem.W.Looks (model prog w) hp (classData C) cd := PySem.W.looks_clsIn X hcd
  have seeM : PySem.W.Looks (model prog w) hp (mroOf (.ref C)) cd.mro := seeC.andThen .now
  have seeT : PySem.W.Looks (model prog w) hp (storeTaker? none) none := .now
  refine codeAny_call_builtin SF.slot.plain SF.entry (@PySem.W.check_slot (model prog w) _ _ ⟨hp, g, d, t, os⟩ "object.__setattr__" "object" "__setattr__" (.ref x) [.str name tk, v] [] _ SF.kind SF.split (look_sub X I hcd hm top) (SF.args (.ref x) (.str name tk) v) ?_)
  rw [PySem.W.osa_eq, refuse_eq]
  refine wpAny_bind (wpAny_bind (I.type.at (wpAny_bind (seeM.at ?_))))
  rw [hm, refuseLoop_ref, pass]
  refine wpAny_pure (wpAny_bind (I.type.at (wpAny_bind ((PySem.W.looks_findIn X free).at (wpAny_bind (seeT.at (show wpAny _ _ (storeInOwnDict (.ref x) (.ref C) (.str name tk) name v false) _ _ _ from ?_)))))))
  cases cd
  dsimp only at hh
  subst hh
  unfold storeInOwnDict ownDictForStores
  repeat (first | with_reducible refine OEX.store_in_old hns hw hz ?_ | with_reducible refine wpAny_loadPart_at hx ?_ | with_reducible refine seeC.at ?_ | wp_step)
  exact fun h' tk' hn' hs => fin h' tk' (fun b o hb ho => (hs.2 b hb).trans ho) hn'
end
section
variable {X : Cx} {pins : List (Addr × Obj)} {σ : L2.St} {H : Hp} {s : Shared} {a C dx : Addr} {f : Str} {y : V} {u : Value} {fs : List (Str × V)} {Q : Unit → Shared → Prop} {E : Value → Shared → Prop} {A : Around} {bm : List Value} {newId : String}
theorem OexG.cd {K : PySem.W.Frag} (T : OexG K C bm newId) : ∃ cd, PySem.W.clsIn K C = some cd ∧ cd.mro = .ref C :: bm ∧ cd.hasDict = true := by
  obtain ⟨nm, q, N, bs, sn, sub, ab, col, dd, k0, k1, k2, k3, k5, hC⟩ := T.cls
  exact ⟨{ name := nm, bases := bs, mro := .ref C :: bm, ns := N, qualname := q, hasDict := true, slotNames := sn, subclasses := sub, abstract := ab, collection := col, hasDel := false }, by unfold PySem.W.clsIn; rw [hC] <;> rfl, rfl, rfl⟩
theorem set_first (T : OexG X.K C bm newId) (I : Inv X pins σ H s) (e : H a = some (exo a C none)) (free : PySem.W.findIn X.K (.ref C) f = some none) (ry : RelV y u)
    (fin : ∀ dx s', H dx = none → dx ≠ a → Inv X pins σ (upd (upd H dx (exd dx [(f, y)])) a (exo a C (some dx))) s' → Q () s') : wpAny (model X.prog X.w) A (setAttr (.ref a) f u) Q E s := by
  obtain ⟨cd, hcd, hm, hh⟩ := T.cd
  obtain ⟨t1, ho⟩ := exo_at I.hok e
  obtain ⟨hp, g, d, t, os⟩ := s
  refine PySem.W.set_plain I.kIn (ox := { cls := .ref C, dict := none, data := .fields #[.ref t1, .none, .none, .none, .bool false, .none] }) (od := none) ⟨ho, rfl, rfl, trivial⟩ T.sa ?_
  refine put_first I.kIn ho hcd hm T.pass T.top hh free fun h' tk' dx k dn dne hx hn => ?_
  have new : H dx = none := I.hok.fresh dn
  have old : ∀ {b : Addr} {o : Obj}, hp.get? b = some o → b ≠ dx := fun q => Nat.ne_of_lt (Nat.lt_of_lt_of_le (Heap.lt_size q) dn)
  have other : ∀ {b : Addr}, H b = none → b ≠ a := fun n z => by
    rw [z, e] at n
    cases n
  have still : ∀ {b : Addr} {o : HO}, H b = some o → b ≠ a → upd (upd H dx (exd dx [(f, y)])) a (exo a C (some dx)) b = some o := fun q h => by rw [upd_ne h, upd_ne (ne_of_none q new)]; exact q
  have un : Un X.fs [] H (upd (upd H dx (exd dx [(f, y)])) a (exo a C (some dx))) hp h' := {
    keep := fun b o q n _ _ => k b o (other n) q
    slot := fun b o q n _ _ => ⟨o.slots, k b o (other n) q⟩
    free := fun b o q n _ => by rw [upd_ne (other n), upd_ne (old q)]; exact n
    there := fun b o q _ => by
      by_cases hb : b = a
      · rw [hb]; exact ⟨_, hx⟩
      · exact ⟨o, k b o hb q⟩
    tups := fun b xs q => still q (at_ne e q exo_tup)
    frzs := fun b o v q => still q (at_ne e q exo_frz)
    tbls := fun b ps q => ⟨#[], by rw [still q (at_ne e q exo_tbl)]; simp⟩ }
  refine fin dx _ new dne (I.un (t' := tk') un fun b o q => ?_)
  by_cases hb : b = a
  · subst hb
    rw [upd_same] at q
    cases q
    exact exo_ok hx
  rw [upd_ne hb] at q
  by_cases hd : b = dx
  · subst hd
    rw [upd_same] at q
    cases q
    exact exd_ok hn (relO_put (fs := []) ry fun g => True.intro)
  rw [upd_ne hd] at q
  exact (I.hok b o q).stay (fun c v hc z => k c v (hc.elim (fun h => h ▸ hb) fun h => at_ne e h exo_own) z) (fun c hc => still hc (at_ne e hc exo_own)) fun c xs hc => still hc (at_ne e hc exo_tup)
theorem set_more (T : OexG X.K C bm newId) (I : Inv X pins σ H s) (e : H a = some (exo a C (some dx))) (ed : H dx = some (exd dx fs)) (hl : fs.length ≤ 900) (free : PySem.W.findIn X.K (.ref C) f = some none) (ry : RelV y u) (fin : ∀ s', Inv X pins σ (upd H dx (exd dx ((f, y) :: fs))) s' → Q () s') :
    wpAny (model X.prog X.w) A (setAttr (.ref a) f u) Q E s := by
  obtain ⟨cd, hcd, hm, hh⟩ := T.cd
  obtain ⟨t1, ho⟩ := exo_at I.hok e
  obtain ⟨mA, hns, rel⟩ := exd_at I.hok ed
  have hw := within_of rel
  obtain ⟨hp, g, d, t, os⟩ := s
  obtain ⟨oD, _, _, hoD, _, _⟩ := hns.count hw
  refine PySem.W.set_plain I.kIn (ox := { cls := .ref C, dict := some dx, data := .fields #[.ref t1, .none, .none, .none, .bool false, .none] }) (od := some oD) ⟨ho, rfl, rfl, hoD⟩ T.sa ?_
  refine put_more I.kIn ho hns hw (by rw [List.length_map]; omega) hcd hm T.pass T.top hh free fun h' tk' k hn => ?_
  obtain ⟨o, es, ep, ho', rest⟩ := id hn
  exact fin _ (I.write (t' := tk') (x := dx) (e := dx) (o := exd dx ((f, y) :: fs)) (by rw [ed]; exact True.intro) (.inl rfl) k ⟨o, ho'⟩ (exd_ok hn (relO_put ry rel)))
end
/-- self.f = e -/
def tPut (K : PySem.W.Frag) (bm : List Value) (newId : String) (f : Str) (to te : TE) : TS := fun D σ H => te σ H fun y H1 => to σ H1 fun x H2 => ∃ a C : Addr, x = .ref a ∧ OexG K C bm newId ∧ PySem.W.findIn K (.ref C) f = some none ∧
  ((H2 a = some (exo a C none) ∧ ∀ dx, H2 dx = none → dx ≠ a → D.nx σ (upd (upd H2 dx (exd dx [(f, y)])) a (exo a C (some dx)))) ∨ ∃ (dx : Addr) (fs : List (Str × V)), H2 a = some (exo a C (some dx)) ∧ H2 dx = some (exd dx fs) ∧ fs.length ≤ 900 ∧ D.nx σ (upd H2 dx (exd dx ((f, y) :: fs))))
section
variable {X : Cx} {o e : Expr} {es : List Expr} {to te : TE} {ta : TA} {f : Str} {p p' p1 p2 pos : Pos} {bm : List Value} {newId : String}
theorem ps_put (ho : PE X o to) (he : PE X e te) (hs : swapsWith e (some (.Attribute o f p')) pos.line X.env = pure false := by rfl) : PS X (.Assign [.Attribute o f p'] e pos) (tPut X.K bm newId f to te) :=
  ⟨fun pins s σ H D I h => plainObj_wpAny_Assign_Attribute (thn (he.run pins s σ H _ I h) fun v s1 ⟨y, H1, I1, r1, q1⟩ => thn (ho.run pins s1 σ H1 _ I1 q1) fun u s2 ⟨x, H2, I2, r2, a, C, ex, T, free, q⟩ => by
    subst ex
    obtain rfl : u = Value.ref a := r2
    rcases q with ⟨ea, q⟩ | ⟨dx, fs, ea, ed, hl, q⟩
    · exact set_first T I2 ea free r1 fun dx s' n ne J => ⟨σ, _, J, q dx n ne⟩
    · exact set_more T I2 ea ed hl free r1 fun s' J => ⟨σ, _, J, q⟩) hs⟩
/-- C(e, ..), its fields ready -/
def tMkG (C : Addr) (sp : Sp) (ta : TA) : L2.St → Hp → XK → Prop := fun σ H Q => ta σ H fun vs H1 => vs.length ≤ 1000 ∧ ∀ a, H1 a = none → sp (.ref a :: vs) (upd H1 a (exo a C none))
  (fun v H2 => v = .non ∧ ∃ (d : Addr) (fs : List (Str × V)), H2 a = some (exo a C (some d)) ∧ H2 d = some (exd d fs) ∧ H1 d = none ∧ Q (.ref C) (some d) (upd (L2.del H2 a) d (.xd fs))) (fun _ _ _ => False)
theorem noGuard {args : Args} : (Code.builtin "type.__call__" args).guards = [] := if_neg (by show ¬ (guardIds.contains "type.__call__" = true); decide)
theorem ctx_none {C : Addr} {d : Option Addr} {t0 : Addr} : L2N.Zn (.ref C) d ({ cls := .ref C, dict := d, data := .fields #[.ref t0, .none, .none, .none, .bool false, .none] } : Obj) := ⟨rfl, rfl, fun vs e => by cases e; rfl⟩
theorem pmk_G {B initId : String} {x : Str} {C fI : Addr} {k : Nat} {fd : FuncData} {ps : List Str} {sp : Sp} (FB : ExcBaseFacts B newId initId bm) (T : OexG X.K C bm newId) (iC : PySem.W.findIn X.K (.ref C) "__init__" = some (some (.ref fI))) (tI : PySem.W.typeIn X.K (.ref fI) = some (.type "function"))
    (F1 : FnG X.prog X.w X.K X.mg X.base (L2N.CX X.prog X.w) k fI fd ps sp) (hr : RoomG (k + 1) X.A) (hb : Binds X.K fd ps []) (hg : Gl X x) (hm : X.mg x = some (.ref C)) (ha : PA X (e :: es) ta)
    (hdb : (x == ("__debug__" : Str)) = false := by decide) (he : starEach (e :: es) X.env = (false, eval e X.env) :: starEach es X.env := by rfl) (hpl : (backTo pos (starEach es X.env)).any (·.1) = false := by rfl) :
    L2N.PMk X (.Call (.Name x p) (e :: es) [] pos) (tMkG C sp ta) := by
  intro pins s σ H Q I h
  obtain ⟨nm, q, N, bs, sn, sub, ab, col, dd, k0, k1, k2, k3, k5, hC⟩ := T.cls
  refine wpAny_Call_Name_kw (ld_glob I hg hm (PySem.W.callWith_K (h₀ := X.base) I.ok.mod.kin T.kC (thn (ha.run pos pins s σ H _ I h) fun us s1 ⟨vs, H1, I1, r1, hz, q1⟩ => ⟨I1.kIn, show wpAny _ _ (call (.ref C) us) _ _ _ from ?_⟩) he hpl) hdb)
  obtain ⟨hp, g, dr, tk, os⟩ := s1
  have above : hp.objs.size ≤ hp.objs.size + 1 := Nat.le_succ _
  have q2 := q1 (hp.objs.size + 1) (I1.hok.fresh above)
  have kept : ∀ b o, hp.get? b = some o → ((hp.push (PySem.W.kdv_tup us)).push (PySem.HandSPX.excO C hp.objs.size)).get? b = some o := fun b o z => Heap.get?_push_of_some _ (Heap.get?_push_of_some _ z)
  have I2 : Inv X pins σ (upd H1 (hp.objs.size + 1) (exo (hp.objs.size + 1) C none)) ⟨(hp.push (PySem.W.kdv_tup us)).push (PySem.HandSPX.excO C hp.objs.size), g, dr, tk, os⟩ :=
    I1.laid (t' := tk) (a := hp.objs.size + 1) (o := exo (hp.objs.size + 1) C none) (h' := (hp.push (PySem.W.kdv_tup us)).push (PySem.HandSPX.excO C hp.objs.size)) kept above (exo_ok (by heap_get))
  have r2 : Vals (V.ref (hp.objs.size + 1) :: vs) (Value.ref (hp.objs.size + 1) :: us) := .cons rfl r1
  have hl : (Value.ref (hp.objs.size + 1) :: us).length = ps.length := r2.length.symm.trans (F1.len _ _ _ _ q2)
  have few : us.length ≤ sizeLine := by rw [← Paired.length r1, sizeLine_eq]; omega
  have bind := hb _ (Value.ref (hp.objs.size + 1) :: us) I2.kIn (by rw [List.append_nil]; exact hl)
  rw [List.append_nil] at bind
  have room : RoomG k (X.A.under (.builtin "type.__call__" ⟨Value.ref C :: us, []⟩)) := ⟨hr.rm.make C us [], by
    unfold Around.under
    dsimp only
    rw [hr.gd, noGuard]
    rfl⟩
  refine wpAny_call (PySem.HandSPX.call_own FB (fun _ => rfl) (I1.kIn _ _ hC) (PySem.W.looks_findIn I1.kIn iC) (fun self => PySem.W.bind_fn I1.kIn self tI) few (codeAny_mono (F1.run _ X.stack _ _ ⟨Value.ref (hp.objs.size + 1) :: us, []⟩ _ _ _ (fun _ _ _ => False) room (I2.env0.make C us []) bind r2 q2) fun r s' got => ?_))
  match r, got with
  | .error er, got =>
    obtain ⟨_, _, _, _, _, _, _, _, _, _, _, _, z⟩ := (show L2N.CX X.prog X.w X.stack _ _ (fun _ _ _ => False) er s' from got)
    exact z.elim
  | .ok (.ret u), ⟨v, H2, os2, bare2, un2, hok2, rv, ev, d, fs, ea, ed, hd1, q3⟩ =>
    subst ev
    obtain ⟨h2, g2, d2, t2, os'⟩ := s'
    obtain ⟨t0, G, J, kG, ge, hoe, na⟩ := mk_end0 (d2 := d2) (t2 := t2) I1 above kept un2 hok2 os2 bare2 ea ed hd1
    exact ⟨rv, _, _, _, ⟨G, g2, d2, t2, os'⟩, _, .ref C, some d, rfl, J, kG, ge, hoe, ctx_none, rfl, rfl, na, rfl, bare2, raises_own T.exC T.tyC, q3⟩
end
/-! ### __init__ with one field, with two -/
def spI1 (C : Addr) (f : Str) : Sp := fun vs H Q _ => ∃ (a : Addr) (v : V), vs = [.ref a, v] ∧ H a = some (exo a C none) ∧ ∀ d, H d = none → d ≠ a → Q .non (upd (upd H d (exd d [(f, v)])) a (exo a C (some d)))
section
variable {P : Program} {w : World} {K : PySem.W.Frag} {mg : Str → Option Value} {base : Heap} {x qual : Str} {st : Stmt} {fI C : Addr} {fd : FuncData} {bm : List Value} {newId : String} {s f g : Str} {p1 p2 p3 p4 q1 q2 q3 q4 : Pos}
theorem init1_ok (F : L2.Fun K x qual st fI fd) (Sc : FnScope [s, f] [s, f] (defScope st)) (T : OexG K C bm newId) (free : PySem.W.findIn K (.ref C) f = some none) (hb : defBody st = [.Assign [.Attribute (.Name s p1) f p2] (.Name f p3) p4])
    (hs : ∀ env : Env, swapsWith (.Name f p3) (some (.Attribute (.Name s p1) f p2)) p4.line env = pure false := by intro _; rfl)
    (v1 : Vis (defScope st) s := by first | exact .inl rfl | exact .inr (.inl rfl)) (v2 : Vis (defScope st) f := by first | exact .inl rfl | exact .inr (.inl rfl)) (d1 : (s == ("__debug__" : Str)) = false := by decide) (c1 : (s == ("__classdict__" : Str)) = false := by decide) (d2 : (f == ("__debug__" : Str)) = false := by decide) (c2 : (f == ("__classdict__" : Str)) = false := by decide) :
    FnG P w K mg base (L2N.CX P w) 1 fI fd [s, f] (spI1 C f) := by
  refine fnG_of (k := 0) (N := [s, f]) F Sc (fun vs H Q E ⟨_, _, e, _⟩ => by rw [e]; rfl) fun cdv _ A outer sh H vs Q E hr ⟨a, v, e, ha, q⟩ => ?_
  subst e
  rw [hb]
  refine ⟨_, pss_one (ps_put (bm := bm) (newId := newId) (pe_var (i := 0) rfl v1 d1 c1) (pe_var (i := 1) rfl v2 d2 c2) (hs _)), ?_⟩
  exact ⟨v, rfl, .ref a, rfl, a, C, rfl, T, free, .inl ⟨ha, q⟩⟩
end
end Hx

/-! Readings by value: own errors with fields raised, their fields read in a suite. -/
namespace Dv
open PySem L2 PyProof.Rows Hx
/-- such a class: its built-in class's mro bm, its fields fs, its __init__ at fI -/
structure FxF (K : PySem.W.Frag) (n : Str) (bm : List Value) (newId : String) (C fI : Addr) (fs : List Str) : Prop where
  at_ : PySem.W.nsIn K mainGlobals n = some (some (.ref C))
  ox : OexG K C bm newId
  free : ∀ f ∈ fs, PySem.W.findIn K (.ref C) f = some none
  ini : PySem.W.findIn K (.ref C) "__init__" = some (some (.ref fI))
  fn : PySem.W.typeIn K (.ref fI) = some (.type "function")
def oexB (K : PySem.W.Frag) (C : Addr) (bm : List Value) (newId : String) : Bool := match K.lookup C with
  | some ⟨.type "type", _, .cls cd, sl⟩ => (match cd.mro, sl.toList with
    | .ref C' :: bm', [_, _, _, _, some (.builtin n), _] => C' == C && (n == newId && (cd.hasDict && (!cd.hasDel && bm' == bm)))
    | _, _ => false)
  | _ => false
theorem oexB_ok {K : PySem.W.Frag} {C : Addr} {bm : List Value} {newId : String} (h : oexB K C bm newId = true) : ∃ nm q N bs sn sub ab col dd k0 k1 k2 k3 k5, K.lookup C = some (excClassObj nm q C N bs bm true sn sub ab col dd k0 k1 k2 k3 k5 newId) := by
  unfold oexB at h
  split at h
  · rename_i dd cd sl ho
    split at h
    · rename_i C' bm' k0 k1 k2 k3 n k5 hm hs
      simp only [Bool.and_eq_true, beq_iff_eq, Bool.not_eq_true'] at h
      obtain ⟨rfl, rfl, hdct, hdel, rfl⟩ := h
      obtain ⟨nm, bs, mro, ns, qn, hd, sn, sub, ab, col, del⟩ := cd
      dsimp only at hm hdel hdct
      subst hm hdel hdct
      have hsl : sl = #[k0, k1, k2, k3, some (.builtin n), k5] := by
        obtain ⟨l⟩ := sl
        simp only at hs
        rw [hs]
      subst hsl
      exact ⟨_, _, _, _, _, _, _, _, _, _, _, _, _, _, ho⟩
    · cases h
  · cases h
def fxB (K : PySem.W.Frag) (n : Str) (bm : List Value) (newId : String) (C fI : Addr) (fs : List Str) : Bool := decide (PySem.W.nsIn K mainGlobals n = some (some (.ref C))) && (oexB K C bm newId && (decide (PySem.W.findIn K (.ref C) "__setattr__" = some (some (.builtin "object.__setattr__"))) && (decide (PySem.W.subIn K (.ref C) (.type "BaseException") = some true) &&
  (decide (PySem.W.typeIn K (.ref C) = some (.type "type")) && (PySem.W.keepIn K (.ref C) && (fs.all (fun f => decide (PySem.W.findIn K (.ref C) f = some none)) && (decide (PySem.W.findIn K (.ref C) "__init__" = some (some (.ref fI))) && decide (PySem.W.typeIn K (.ref fI) = some (.type "function")))))))))
theorem fxB_ok {K : PySem.W.Frag} {n : Str} {bm : List Value} {newId : String} {C fI : Addr} {fs : List Str} (pass : ∀ self : Value, refuseLoop self "__setattr__" bm = pure ()) (top : bm.contains (.type "object") = true) (h : fxB K n bm newId C fI fs = true) : FxF K n bm newId C fI fs := by
  obtain ⟨h1, h⟩ := and_b h
  obtain ⟨h2, h⟩ := and_b h
  obtain ⟨h3, h⟩ := and_b h
  obtain ⟨h4, h⟩ := and_b h
  obtain ⟨h5, h⟩ := and_b h
  obtain ⟨h6, h⟩ := and_b h
  obtain ⟨h7, h⟩ := and_b h
  obtain ⟨h8, h9⟩ := and_b h
  exact ⟨of_decide_eq_true h1, ⟨oexB_ok h2, pass, top, of_decide_eq_true h3, of_decide_eq_true h4, of_decide_eq_true h5, h6⟩, fun f hf => of_decide_eq_true (List.all_eq_true.mp h7 f hf), of_decide_eq_true h8, of_decide_eq_true h9⟩
/-! ### raise C(e), raise C(e, e') -/
def dRaiseF1 (WD : WXD) (n f : Str) (t : TAD) : TSD := fun _ σ S => t σ S fun ds S1 => match ds with
  | [a] => WD ⟨n, [f], [a]⟩ σ S1
  | _ => False
section
variable {X : Cx} {W : Wi} {pos pos' p : Pos} {n s f g : Str} {bm : List Value} {B newId initId : String} {C fI : Addr} {fs : List Str} {fd : FuncData} {e : Expr} {es : List Expr} {t : TAD}
theorem made_eq {H1 H2 : Hp} {a d : Addr} {v : List (Str × V)} (ha : H1 a = none) (hd : d ≠ a) (h : ∀ b, b ≠ a → b ≠ d → H2 b = H1 b) : upd (L2.del H2 a) d (.xd v) = upd H1 d (.xd v) := by
  funext b
  by_cases hb : b = d
  · rw [hb, upd_same, upd_same]
  · rw [upd_ne hb, upd_ne hb]
    by_cases hc : b = a
    · rw [hc, L2.del_same, ha]
    · rw [L2.del_ne hc, h b hc hb]
theorem ds_raiseF1 (hc : X.calm = true) (tk : L2N.Takes X W.V) (FB : ExcBaseFacts B newId initId bm) (Fx : FxF X.K n bm newId C fI fs) (F1 : FnG X.prog X.w X.K X.mg X.base (L2N.CX X.prog X.w) 1 fI fd [s, f] (spI1 C f)) (hr : RoomG 2 X.A) (hb : Binds X.K fd [s, f] []) (gC : X.mg n = some (.ref C)) (hg : Gl X n) (ha : DA X W (e :: es) t)
    (hdb : (n == ("__debug__" : Str)) = false := by decide) (he : starEach (e :: es) X.env = (false, eval e X.env) :: starEach es X.env := by rfl) (hpl : (backTo pos (starEach es X.env)).any (·.1) = false := by rfl) :
    DS X W (.Raise (some (.Call (.Name n p) (e :: es) [] pos)) none pos') (dRaiseF1 W.D n f t) :=
  ⟨PS.imp (L2N.ps_raise hc tk (pmk_G FB Fx.ox Fx.ini Fx.fn F1 hr hb hg gC ha.p hdb he hpl)) fun D σ H ⟨σd, S, fr, Dd, ok, cl, h, k⟩ => ⟨σd, S, fr, _, ok, cl, h, fun vs ds H1 S1 ok1 r1 q => by
    match ds, q with
    | [da], q =>
      obtain ⟨v, rfl, rv⟩ := rpL1 r1
      refine ⟨by show 1 ≤ 1000; decide, fun a na => ⟨a, v, rfl, upd_same, fun d nd ne => ⟨rfl, d, _, upd_same, by rw [upd_ne ne, upd_same], by rw [upd_ne ne] at nd; exact nd, ?_⟩⟩⟩
      rw [upd_ne ne] at nd
      rw [made_eq na ne fun b hba hbd => by rw [upd_ne hba, upd_ne hbd, upd_ne hba]]
      refine cl σd σ _ S1 (.ref C) (some d) ⟨n, [f], [da]⟩ (ok1.new nd) ⟨Fx.at_, (fun z => by cases z), fun dx ed => ?_⟩ q
      cases ed
      exact ⟨_, upd_same, ok1.rel.free nd, .inr ⟨rfl, rpL_step ok1.rel (step_new nd) [da] [v] (rpL_cons rv rpL_nil)⟩⟩⟩⟩
/-! ### e.f in a suite -/
def fldOf (ns : List Str) (xs : List D) (f : Str) : Option D := (ns.zip xs).lookup f
theorem rpL_lookup {K : PySem.W.Frag} {H : Hp} {S : Sd} : ∀ {xs : List D} {fs : List (Str × V)} {f : Str} {d : D}, RpL K H S xs (fs.map Prod.snd) → ((fs.map Prod.fst).zip xs).lookup f = some d → ∃ v, fs.lookup f = some v ∧ Rp K H S d v
  | [], fs, f, d, h, e => by simp at e
  | x :: xs, [], f, d, h, e => by simp at e
  | x :: xs, (g, v) :: fs, f, d, h, e => by
    obtain ⟨v', r, e1, h1, h2⟩ := h
    simp only [List.map_cons, List.cons.injEq] at e1
    obtain ⟨rfl, rfl⟩ := e1
    simp only [List.map_cons, List.zip_cons_cons, List.lookup_cons] at e
    rw [List.lookup_cons]
    cases c : f == g with
    | true =>
      rw [c] at e
      cases e
      exact ⟨v, rfl, h1⟩
    | false =>
      rw [c] at e
      exact rpL_lookup h2 e
/-- a suite whose clause is of one class -/
theorem db_cls {b : List Stmt} {u : TSD} {m k : Str} {Y : Cx} (h : m = k → DB Y W b u) : DB Y W b fun D σ S => m = k ∧ u D σ S := by
  by_cases e : m = k
  · exact ⟨⟨fun pins s σ H D I ⟨σd, S, fr, Dd, ok, cl, ⟨_, h1⟩, kk⟩ => ((h e).p).run pins s σ H D I ⟨σd, S, fr, Dd, ok, cl, h1, kk⟩⟩⟩
  · exact ⟨⟨fun pins s σ H D I ⟨σd, S, fr, Dd, ok, cl, ⟨h1, _⟩, kk⟩ => absurd h1 e⟩⟩
end
theorem pass_ArithmeticError (self : Value) : refuseLoop self "__setattr__" [.type "ArithmeticError", .type "Exception", .type "BaseException", .type "object"] = pure () := by kernel_rfl
end Dv

/-! The place of a whole number in a tuple of whole numbers. -/
namespace Dv
open PySem L2 PyProof.Rows Hx
end Dv

/-! Instances of own classes by value: made, their fields, their methods. -/
namespace Dv
open PySem L2 PyProof.Rows Hx
/-- an own class with a plain __init__ -/
structure ClF (K : PySem.W.Frag) (n : Str) (C fI : Addr) : Prop where
  at_ : ClsAt K n C
  cls : Cls K C
  new : Mk K C fI
def clB (K : PySem.W.Frag) (n : Str) (C fI : Addr) : Bool := decide (PySem.W.nsIn K mainGlobals n = some (some (.ref C))) && (PySem.W.plainGet K C Str.empty && (PySem.W.hasDictIn K C && (PySem.W.plainOver K C && (decide (PySem.W.findIn K (.ref C) "__setattr__" = some (some (.builtin "object.__setattr__"))) &&
  (PySem.W.makesIn K C && (decide (PySem.W.findIn K (.ref C) "__init__" = some (some (.ref fI))) && (PySem.W.isFn K (.ref fI) && PySem.W.keepIn K (.ref C))))))))
theorem clB_ok {K : PySem.W.Frag} {n : Str} {C fI : Addr} (h : clB K n C fI = true) : ClF K n C fI := by
  unfold clB at h
  obtain ⟨a, h⟩ := and_b h
  obtain ⟨b, h⟩ := and_b h
  obtain ⟨c, h⟩ := and_b h
  obtain ⟨d, h⟩ := and_b h
  obtain ⟨e, h⟩ := and_b h
  obtain ⟨f, h⟩ := and_b h
  obtain ⟨g, h⟩ := and_b h
  obtain ⟨i, j⟩ := and_b h
  exact ⟨of_decide_eq_true (p := PySem.W.nsIn K mainGlobals n = some (some (.ref C))) a, ⟨b, c, d, of_decide_eq_true e⟩, ⟨f, of_decide_eq_true g, i, j⟩⟩
def noAttrB (K : PySem.W.Frag) (C : Addr) (fs : List Str) : Bool := fs.all fun f => decide (PySem.W.findIn K (.ref C) f = some none)
theorem noAttrB_ok {K : PySem.W.Frag} {C : Addr} {fs : List Str} (h : noAttrB K C fs = true) {f : Str} (hf : f ∈ fs) : NoAttr K C f := of_decide_eq_true (p := PySem.W.findIn K (.ref C) f = some none) (List.all_eq_true.mp h f hf)
def methB (K : PySem.W.Frag) (C : Addr) (m : Str) (f : Addr) : Bool := decide (PySem.W.findIn K (.ref C) m = some (some (.ref f))) && (PySem.W.isFn K (.ref f) && PySem.W.keepIn K (.ref f))
theorem methB_ok {K : PySem.W.Frag} {C : Addr} {m : Str} {f : Addr} (h : methB K C m f = true) : Meth K C m f := by
  unfold methB at h
  obtain ⟨a, h⟩ := and_b h
  obtain ⟨b, c⟩ := and_b h
  exact ⟨of_decide_eq_true a, b, c⟩
/-- C(..), then it is never stored into again -/
def dMake (n : Str) (sp : SpD) (dds : List D) (WD : WXD) (t : TAD) : TED := fun σ S Q => t σ S fun xs S1 => ∀ a, S1 a = none → sp (.obj a :: (xs ++ dds)) (upS S1 a (.ins n [] [])) (fun v S2 => v = .non ∧ ∃ ns ys, S2 a = some (.ins n ns ys) ∧ Q (.inst n ns ys) (del S2 a)) fun y S2 => WD y σ S2
/-- o.m(..) -/
def dMeth (n m : Str) (sp : SpD) (dds : List D) (WD : WXD) (to : TED) (t : TAD) : TED := fun σ S Q => to σ S fun o S1 => (∃ ns ys, o = .inst n ns ys ∧ m ∉ ns) ∧ t σ S1 fun xs S2 => sp (o :: (xs ++ dds)) S2 Q fun y S3 => WD y σ S3
/-- o.f, of what is stored into no more -/
def dFld (n f : Str) (to : TED) : TED := fun σ S Q => to σ S fun o S1 => ∃ ns ys d, o = .inst n ns ys ∧ fldOf ns ys f = some d ∧ Q d S1
/-- self.f = e, the first time -/
def dPut (n f : Str) (to tv : TED) : TSD := fun D σ S => tv σ S fun y S1 => to σ S1 fun o S2 => ∃ a ns ys, o = .obj a ∧ S2 a = some (.ins n ns ys) ∧ f ∉ ns ∧ ns.length < 1000 ∧ D.nx σ (upS S2 a (.ins n (ns ++ [f]) (ys ++ [y])))
theorem putF_new {f : Str} {v : V} : ∀ {fs : List (Str × V)}, f ∉ fs.map Prod.fst → putF f v fs = fs ++ [(f, v)]
  | [], _ => rfl
  | (g, x) :: r, h => by
    have h1 : g ≠ f := fun e => h (by rw [e]; simp)
    show (if g = f then (g, v) :: r else (g, x) :: putF f v r) = _
    rw [if_neg h1, putF_new fun z => h (List.mem_cons_of_mem _ z)]
    rfl
theorem lookup_not {f : Str} : ∀ {fs : List (Str × V)}, f ∉ fs.map Prod.fst → fs.lookup f = none
  | [], _ => rfl
  | (g, x) :: r, h => by
    have h1 : (f == g) = false := beq_false_of_ne fun e => h (by rw [e]; simp)
    rw [List.lookup_cons, h1]
    exact lookup_not fun z => h (List.mem_cons_of_mem _ z)
section
variable {X : Cx} {W : Wi} {k : Nat} {f C fI : Addr} {fd : FuncData} {ps : List Str} {sp : SpD} {ds : List Value} {dvs : List V} {dds : List D} {x n m g : Str} {p pos apos pos' : Pos} {o e : Expr} {es : List Expr} {to tv : TED} {t : TAD}
theorem step_made {H : Hp} {S : Sd} {x d : Addr} {u : HO} {w : HO} {o : SO} (hx : H x = none) (hd : H d = none) : Step H S (upd (upd H d w) x u) (upS S x o) := fun b z h1 h2 => by
  have b1 : b ≠ x := ne_of_none h1 hx
  have b2 : b ≠ d := ne_of_none h1 hd
  exact ⟨by rw [upd_ne b1, upd_ne b2]; exact h1, by rw [upS_ne b1]; exact h2⟩
theorem make_lift (c : ClsAt X.K n C) (hdd : ∀ H S, RpL X.K H S dds dvs) (σ : L2.St) (H : Hp) (Q : VK) (h : upE X.K W (dMake n sp dds W.D t) σ H Q) : tMakeS C (upF X.K sp) dvs (WE W.V) (upA X.K W t) σ H Q := by
  obtain ⟨σd, S, fr, Qd, ok, cl, h, k⟩ := h
  refine ⟨σd, S, fr, _, ok, cl, h, fun vs ds H1 S1 ok1 r1 h1 x dx hx hd hne => ?_⟩
  have st : Step H1 S1 (upd (upd H1 dx (.own x)) x (.ins C dx [])) (upS S1 x (.ins n [] [])) := step_made hx hd
  have sx : S1 x = none := ok1.rel.free hx
  have R2 : RelS X.K (upd (upd H1 dx (.own x)) x (.ins C dx [])) (upS S1 x (.ins n [] [])) := fun b w e => by
    by_cases hb : b = x
    · subst hb
      rw [upS_same] at e
      cases e
      exact ⟨C, dx, [], c, upd_same, rfl, rfl⟩
    · rw [upS_ne hb] at e
      exact soOk_step ok1.rel st (ok1.rel b w e) fun u hu => by rw [upd_ne hb, upd_ne (ne_of_none hu hd)]; exact hu
  have ok2 := ok1.step st R2
  refine ⟨.obj x :: (ds ++ dds), _, fr ++ prs σd σ, _, _, R2, ok2.out, rpL_cons rfl (rpL_app (rpL_step ok1.rel st _ _ r1) (hdd _ _)), h1 x sx, fun v d H3 S3 R3 f3 r3 q3 => ?_, fun cls od y H3 S3 R3 f3 ry q3 => ?_⟩
  · obtain ⟨e1, ns, ys, e2, q⟩ := q3
    subst e1
    refine ⟨r3, k (.ref x) _ H3 _ ((ok2.back R3 f3).step step_del (rel_del R3)) (rp_frozenI R3 e2) q⟩
  · exact cl σd σ H3 S3 cls od y (ok2.back R3 f3) ry q3
theorem de_make (Cf : ClF X.K n C fI) (F : FnG X.prog X.w X.K X.mg X.base (L2N.CX X.prog X.w) k fI fd ps (upF X.K sp)) (hr : RoomG (k + 1) X.A) (hg : Gl X n) (hm : X.mg n = some (.ref C)) (hb : Binds X.K fd ps ds) (hd : Vals dvs ds) (hdd : ∀ H S, RpL X.K H S dds dvs) (tk : L2N.Takes X W.V)
    (ha : DA X W (e :: es) t) (hdb : (n == ("__debug__" : Str)) = false := by decide) (he : starEach (e :: es) X.env = (false, eval e X.env) :: starEach es X.env := by rfl) (hpl : (backTo pos (starEach es X.env)).any (·.1) = false := by rfl) :
    DE X W (.Call (.Name n p) (e :: es) [] pos) (dMake n sp dds W.D t) :=
  ⟨PE.imp (pe_makeG Cf.new F hr hg hm hb hd (fun σ => L2N.passAt tk σ) ha.p hdb he hpl) (make_lift Cf.at_ hdd)⟩
theorem meth_lift (c : ClsAt X.K n C) (hdd : ∀ H S, RpL X.K H S dds dvs) (σ : L2.St) (H : Hp) (Q : VK) (h : upE X.K W (dMeth n m sp dds W.D to t) σ H Q) : tMethS C m (upF X.K sp) dvs (WE W.V) (upE X.K W to) (upA X.K W t) σ H Q := by
  obtain ⟨σd, S, fr, Qd, ok, cl, h, k⟩ := h
  refine ⟨σd, S, fr, _, ok, cl, h, fun x dx H1 S1 ok1 r1 ⟨⟨ns, ys, eo, hm⟩, h1⟩ => ?_⟩
  subst eo
  obtain ⟨C', a, d', fs, c', rfl, ha, sa, en, r⟩ := r1
  obtain rfl := c'.one c
  have r1 : Rp X.K H1 S1 (.inst n ns ys) (.ref a) := ⟨C', a, d', fs, c', rfl, ha, sa, en, r⟩
  refine ⟨a, d', fs, rfl, ha, lookup_not (by rw [en]; exact hm), σd, S1, (.ref a, .inst n ns ys) :: fr, _, ok1.cons r1, cl.tail, h1, fun vs ds H2 S2 ok2 r2 h2 => ?_⟩
  refine ⟨.inst n ns ys :: (ds ++ dds), S2, fr ++ prs σd σ, Qd, _, ok2.tail.rel, ok2.tail.out, rpL_cons ok2.head (rpL_app r2 (hdd H2 S2)), h2, fun v d H3 S3 R3 f3 r3 q3 => ?_, fun cls od y H3 S3 R3 f3 ry q3 => ?_⟩
  · exact k v d H3 S3 (ok2.tail.back R3 f3) r3 q3
  · exact cl σd σ H3 S3 cls od y (ok2.tail.back R3 f3) ry q3
theorem de_meth {pl : Sem Bool} (Cf : ClF X.K n C fI) (hM : Meth X.K C m f) (ho : DE X W o to) (F : FnG X.prog X.w X.K X.mg X.base (L2N.CX X.prog X.w) k f fd ps (upF X.K sp)) (hr : RoomG k X.A) (hb : Binds X.K fd ps ds) (hd : Vals dvs ds) (hdd : ∀ H S, RpL X.K H S dds dvs) (tk : L2N.Takes X W.V)
    (ha : DA X W (e :: es) t) (hst : starEach (e :: es) X.env = (false, eval e X.env) :: starEach es X.env := by rfl) (hpl : (backTo pos (starEach es X.env)).any (·.1) = false := by rfl)
    (ht : eval (.Call (.Attribute o m apos) (e :: es) [] pos) X.env = (do
      let ov ← eval o X.env
      standAt apos.atName
      let (f, first) ← holding [ov] (getMethod ov m pl)
      callWith pos f first (backTo pos (starEach (e :: es) X.env)) (backToKw pos (keywordEach [] X.env))) := by rfl) :
    DE X W (.Call (.Attribute o m apos) (e :: es) [] pos) (dMeth n m sp dds W.D to t) :=
  ⟨PE.imp (pe_methG (pl := pl) ho.p Cf.cls hM F hr hb hd (fun σ => L2N.passAt tk σ) ha.p hst hpl ht) (meth_lift Cf.at_ hdd)⟩
theorem de_meth0 {pl : Sem Bool} (Cf : ClF X.K n C fI) (hM : Meth X.K C m f) (ho : DE X W o to) (F : FnG X.prog X.w X.K X.mg X.base (L2N.CX X.prog X.w) k f fd ps (upF X.K sp)) (hr : RoomG k X.A) (hb : Binds X.K fd ps ds) (hd : Vals dvs ds) (hdd : ∀ H S, RpL X.K H S dds dvs) (tk : L2N.Takes X W.V)
    (ht : eval (.Call (.Attribute o m apos) [] [] pos) X.env = (do
      let ov ← eval o X.env
      standAt apos.atName
      let (f, first) ← holding [ov] (getMethod ov m pl)
      callWith pos f first (backTo pos (starEach [] X.env)) (backToKw pos (keywordEach [] X.env))) := by rfl) :
    DE X W (.Call (.Attribute o m apos) [] [] pos) (dMeth n m sp dds W.D to dNil) :=
  ⟨PE.imp (pe_methG0 (pl := pl) ho.p Cf.cls hM F hr hb hd (fun σ => L2N.passAt tk σ) ht) fun σ H Q h => by
    obtain ⟨σd, S, fr, Qd, ok, cl, h, k⟩ := meth_lift (t := dNil) Cf.at_ hdd σ H Q h
    refine ⟨σd, S, fr, _, ok, cl, h, fun x dx H1 S1 ok1 r1 q => ?_⟩
    obtain ⟨a, d', fs, e1, e2, e3, σd', S', fr', Qd', ok', cl', h', k'⟩ := k x dx H1 S1 ok1 r1 q
    exact ⟨a, d', fs, e1, e2, e3, k' [] [] H1 S' ok' rfl h'⟩⟩
theorem de_fld (Cf : ClF X.K n C fI) (hn : NoAttr X.K C g) (ho : DE X W o to) (hb : attributeBase o g X.env (eval o X.env) = eval o X.env := by rfl) : DE X W (.Attribute o g pos) (dFld n g to) :=
  ⟨PE.imp (pe_fld ho.p hb) fun σ H Q ⟨σd, S, fr, Qd, ok, cl, h, k⟩ => ⟨σd, S, fr, _, ok, cl, h, fun x dx H1 S1 ok1 r1 ⟨ns, ys, d, eo, el, q⟩ => by
    subst eo
    obtain ⟨C', a, d', fs, c', rfl, ha, sa, en, r⟩ := r1
    obtain rfl := c'.one Cf.at_
    subst en
    obtain ⟨v, e1, e2⟩ := rpL_lookup r el
    exact ⟨a, C', d', fs, v, rfl, ha, Cf.cls, hn, e1, k v d H1 S1 ok1 e2 q⟩⟩⟩
theorem ds_put (Cf : ClF X.K n C fI) (hn : NoAttr X.K C g) (ho : DE X W o to) (hv : DE X W e tv) (hs : swapsWith e (some (.Attribute o g pos')) pos.line X.env = pure false) : DS X W (.Assign [.Attribute o g pos'] e pos) (dPut n g to tv) :=
  ⟨PS.imp (ps_fld ho.p hv.p hs) fun D σ H ⟨σd, S, fr, Dd, ok, cl, h, k⟩ => ⟨σd, S, fr, _, ok, cl, h, fun y dy H1 S1 ok1 ry h1 => ⟨σd, S1, (y, dy) :: fr, _, ok1.cons ry, cl.tail, h1, fun x dx H2 S2 ok2 rx ⟨a, ns, ys, eo, es, hg, hl, q⟩ => by
    subst eo
    cases (show x = .ref a from rx)
    obtain ⟨C', dd, fs, c', ha, en, r⟩ := ok2.rel a _ es
    obtain rfl := c'.one Cf.at_
    have lf : fs.length = ns.length := by rw [← en, List.length_map]
    have st : Step H2 S2 (upd H2 a (.ins C' dd (fs ++ [(g, y)]))) (upS S2 a (.ins n (ns ++ [g]) (ys ++ [dy]))) := step_set es
    refine ⟨a, C', dd, fs, rfl, ha, Cf.cls, hn, by omega, ?_⟩
    rw [putF_new (by rw [en]; exact hg)]
    refine k.nx σd σ _ _ (ok2.tail.step st (rel_set ok2.rel es ⟨C', dd, _, c', upd_same, by rw [List.map_append, en]; rfl, ?_⟩)) q
    rw [List.map_append]
    exact rpL_step ok2.rel st _ _ (rpL_app r (rpL_cons ok2.head rpL_nil))⟩⟩⟩
end
end Dv

/-! A list times a whole number; whether data stands in a list of data. -/
namespace Dv
open PySem L2 PyProof.Rows Hx
open AutoSeq1 (wpAny_loadPart')
def rdMulL : RD2 := fun x y S Q => match x, y with
  | .lst ds, .int k => (0 ≤ k ∧ k < 2 ^ 62 ∧ ds.length * k.toNat ≤ 16777216) ∧ Q (.lst (List.replicate k.toNat ds).flatten) S
  | _, _ => False
theorem x_mulL {ds : List D} {k : Int} {S : Sd} {Q : DK} : rdMulL (.lst ds) (.int k) S Q = ((0 ≤ k ∧ k < 2 ^ 62 ∧ ds.length * k.toNat ≤ 16777216) ∧ Q (.lst (List.replicate k.toNat ds).flatten) S) := rfl
/-! ### data in a list of data -/
def rdInD (neg : Bool) : RD2 := fun x y S Q => match y with
  | .lst ds => (isData x = true ∧ isDataL ds = true ∧ SeqAt.shaped (pd x) = true ∧ SeqAt.shaped (.list (pdL ds)) = true) ∧ Q (.bl (ds.any (fun z => deq z x) != neg)) S
  | _ => False
theorem any_deq {x : D} (hx : isData x = true) : ∀ {ds : List D}, isDataL ds = true → (pdL ds).any (fun z => PyData.eqv z (pd x)) = ds.any fun z => deq z x
  | [], _ => rfl
  | d :: ds, h => by
    have h2 := Bool.and_eq_true_iff.mp (show (isData d && isDataL ds) = true from h)
    show (PyData.eqv (pd d) (pd x) || (pdL ds).any _) = (deq d x || ds.any _)
    rw [eqv_pd d x h2.1 hx, any_deq hx h2.2]
theorem od_notInD {X : Cx} (hu' : X.A.units + 65 < cLine) : OpD X (compareOp .NotIn) (rdInD true) := ⟨_, op_notInD hu', fun H S fr σd σ x y dx dy Qv Qd ok rx ry h k => by
  cases dy with
  | lst ds =>
    obtain ⟨⟨h1, h2, h3, h4⟩, q⟩ := h
    refine ⟨_, _, dp_of ok.rel dx x h1 rx, dp_of ok.rel (.lst ds) y h2 ry, h3, h4, ?_⟩
    rw [any_deq h1 h2]
    refine k _ (.bl _) H S ok rfl ?_
    simpa using q
  | _ => exact (show False from h).elim⟩
theorem units65 {k : Nat} {A : Around} (r : RoomG k A) : A.units + 65 < cLine := by have := r.rm.un; omega
end Dv

/-! Readings by value: defs with defaults; len of an instance. -/
namespace Dv
open PySem L2 PyProof.Rows Hx
section
variable {P : Program} {w : World} {K : PySem.W.Frag} {mg : Str → Option Value} {base : Heap}
end
end Dv
namespace Dv
open PySem L2 PyProof.Rows Hx
end Dv

/-! A tuple told at run time of which it is known that it has no dict: its method index. -/
namespace Dv
open PySem L2 PyProof.Rows Hx
def rdTupX : RDC := fun ds S Q => match ds with
  | [.lst ys] => Q (.tupX ys) S
  | _ => False
theorem x_tupX {ys : List D} {S : Sd} {Q : DK} : rdTupX [.lst ys] S Q = Q (.tupX ys) S := rfl
/-- the same as any tuple -/
def dPlain (t : TED) : TED := fun σ S Q => t σ S fun d S1 => match d with
  | .tupX ds => Q (.tup ds) S1
  | _ => False
section
variable {X : Cx} {W : Wi} {o e : Expr} {es : List Expr} {to : TED} {t : TAD} {apos cpos : Pos}
end
end Dv

/-! Readings by value: defs called while an exception is handled. -/
namespace Dv
open PySem PySem.Spec L2 PyProof.Rows Hx
section
variable {P : Program} {w : World} {K : PySem.W.Frag} {mg : Str → Option Value} {base : Heap}
end
section
variable {X : Cx} {k : Nat} {f : Addr} {fd : FuncData} {ps : List Str} {sp : SpD} {x : Str} {p pos : Pos} {e : Expr} {es : List Expr} {t : TAD}
end
end Dv

/-! Readings by value: sep.join(reversed(xs)). -/
namespace Dv
open PySem PySem.Spec L2 PyProof.Rows Hx
section
variable {X : Cx} {W : Wi}
end
end Dv
namespace Dv
open PySem PySem.Spec L2 PyProof.Rows Hx
/-- a promise that is never asked -/
theorem fnG_none {P : Program} {w : World} {K : PySem.W.Frag} {mg : Str → Option Value} {base : Heap} {CX : CXT} {k : Nat} {f : Addr} {fd : FuncData} {ps : List Str} {sp : SpD} (len : ∀ ds S Q E, sp ds S Q E → ds.length = ps.length) (no : ∀ ds S Q E, ¬ sp ds S Q E) : FnG P w K mg base CX k f fd ps (upF K sp) :=
  ⟨fun vs H Q E ⟨ds, S, _, Qd, Ed, _, _, _, h, _⟩ => absurd h (no ds S Qd Ed), fun A outer s H args us vs Q E _ _ _ _ ⟨ds, S, _, Qd, Ed, _, _, _, h, _⟩ => absurd h (no ds S Qd Ed)⟩
end Dv

/-! Readings by value: data in a tuple of data. -/
namespace Dv
open PySem PySem.Spec L2 PyProof.Rows Hx
section
variable {X : Cx}
/-! ### steps by instances alone -/
theorem op_go {rd : RD2} {ta tb : TED} {σ : Si} {S : Sd} {Q : DK} (h : ta σ S fun x S1 => tb σ S1 fun y S2 => rd x y S2 Q) : dOp rd ta tb σ S Q := h
theorem c_go {d : D} {σ : Si} {S : Sd} {Q : DK} (h : Q d S) : dC d σ S Q := h
theorem tup_go {t : TAD} {σ : Si} {S : Sd} {Q : DK} (h : t σ S fun ds S1 => ds.length ≤ 16777216 ∧ Q (.tup ds) S1) : dTup t σ S Q := h
theorem cons_go {ta : TED} {tr : TAD} {σ : Si} {S : Sd} {Q : List D → Sd → Prop} (h : ta σ S fun x S1 => tr σ S1 fun xs S2 => Q (x :: xs) S2) : dCons ta tr σ S Q := h
theorem nil_go {σ : Si} {S : Sd} {Q : List D → Sd → Prop} (h : Q [] S) : dNil σ S Q := h
theorem var_go {i : Nat} {d : D} {σ : Si} {S : Sd} {Q : DK} (e : σ[i]? = some (some d)) (h : Q d S) : dVar i σ S Q := by rw [dVar_of e]; exact h
end
end Dv

/-! Readings by value: a written dict whose keys are tuples of whole numbers. -/
namespace Dv
open PySem PySem.Spec L2 PyProof.Rows Hx
abbrev TkE := List Int × Addr × Value
section
variable {X : Cx}
end
/-! ### by value -/
/-- the dict's entries as data -/
inductive TkV (K : PySem.W.Frag) : List TkE → List (List Int × D) → Prop
  | nil : TkV K [] []
  | cons {k : List Int} {b : Addr} {u : Value} {d : D} {v : V} {xs : List TkE} {tab : List (List Int × D)} : RelV v u → (∀ H S, Rp K H S d v) → TkV K xs tab → TkV K ((k, b, u) :: xs) ((k, d) :: tab)
def tkAt (tab : List (List Int × D)) (ks : List Int) : Option D := (tab.find? fun t => decide (t.1 = ks)).map (·.2)
theorem TkV.at {K : PySem.W.Frag} {ks : List Int} : ∀ {xs : List TkE} {tab : List (List Int × D)}, TkV K xs tab →
    (atKey xs ks).isSome = (tkAt tab ks).isSome ∧ ∀ d, tkAt tab ks = some d → ∃ b u v, atKey xs ks = some (b, u) ∧ RelV v u ∧ ∀ H S, Rp K H S d v
  | _, _, .nil => ⟨rfl, fun d h => by simp [tkAt] at h⟩
  | _, _, .cons (k := k) (b := b) (u := u) (d := d') (v := v) (xs := xs) (tab := tab) r p t => by
    by_cases c : k = ks
    · have e1 : atKey ((k, b, u) :: xs) ks = some (b, u) := by simp [atKey, c]
      have e2 : tkAt ((k, d') :: tab) ks = some d' := by simp [tkAt, c]
      rw [e1, e2]
      exact ⟨rfl, fun d h => by cases h; exact ⟨b, u, v, rfl, r, p⟩⟩
    · have e1 : atKey ((k, b, u) :: xs) ks = atKey xs ks := by simp [atKey, c]
      have e2 : tkAt ((k, d') :: tab) ks = tkAt tab ks := by simp [tkAt, c]
      rw [e1, e2]
      exact t.at
section
variable {X : Cx} {W : Wi} {pos : Pos}
end
end Dv

/-! Readings by value: a written dict of two tuples of whole numbers, asked at once; min of four ints; min with default. -/
namespace Dv
open PySem L2 PyProof.Rows Hx
/-! ### {"k1": (..), "k2": (..)}[x], {"k1": (..), "k2": (..)}.get(x), x a slot -/
section
variable {K : PySem.W.Frag} {W : Wi} {k1 k2 : Str} {ns ms : List Int} {i : Nat}
end
section
variable {X : Cx} {W : Wi} {k1 k2 x : Str} {ns ms : List Int} {i : Nat} {m1 m2 : Nat} {e1 e2 : Expr} {q1 q2 dpos np pos apos : Pos}
end
/-! ### min of four ints, min with default -/
section
variable {X : Cx} {W : Wi} {e : Expr} {t : TED} {d : Int} {j : Nat} {p1 p2 p3 pos : Pos}
end
end Dv

/-! Readings by value: a lambda handed to a def that calls it within a try with one clause; the suite and what stands behind are told by values. -/
namespace Dv
open PySem L2 PyProof.Rows Hx
section
variable {X : Cx} {pos : Pos}
/-- what is wished where the error leaves the lambda -/
def EG (K : PySem.W.Frag) (c : Str) (u : Addr → Option Addr → TSD) (Q : VK) : XK := fun cls od H' => ∃ Dn, cls = .ref Dn ∧ WhF K c Dn ∧ ∃ (S : Sd) (fr : List (V × D)) (Qd : DK) (ns : List Str) (xs : List D), RelS K H' S ∧ FrOk K H' S fr ∧ (∀ a, Rp K H' S (.exc a od ns xs) (.ref a)) ∧
  (∀ a, u a od { nx := fun _ _ => False, rt := Qd } [none, some (.exc a od ns xs)] S) ∧ ∀ w d H2 S2, RelS K H2 S2 → FrOk K H2 S2 fr → Rp K H2 S2 d w → Qd d S2 → Q w H2
/-- what is wished behind -/
def NG (K : PySem.W.Frag) (v : TSD) (Q : VK) (H' : Hp) : Prop := ∃ (S : Sd) (fr : List (V × D)) (Qd : DK), RelS K H' S ∧ FrOk K H' S fr ∧ v { nx := fun _ _ => False, rt := Qd } [none, none] S ∧ ∀ w d H2 S2, RelS K H2 S2 → FrOk K H2 S2 fr → Rp K H2 S2 d w → Qd d S2 → Q w H2
def TG (K : PySem.W.Frag) (c : Str) (u : Addr → Option Addr → TSD) (v : TSD) : (XK → Hp → VK → Prop) → Hp → VK → Prop := fun tl H Q => tl (EG K c u Q) H fun _ H' => NG K v Q H'
/-- g(lambda: body), g such a def -/
def dHT (P : Addr) (q c : Str) (u : Addr → Option Addr → TSD) (v : TSD) (te : XKD → TED) : TED := fun σ S Q => S P = some (.tab q) ∧ te (fun x S' => x.cls = c ∧ ∀ a od, u a od { nx := fun _ _ => False, rt := Q } [none, some (.exc a od x.ns x.xs)] S') σ S fun _ S' => v { nx := fun _ _ => False, rt := Q } [none, none] S'
end
end Dv

/-! Readings by value: a key in a dict of the module; a text not in a text. -/
namespace Dv
open PySem L2 PyProof.Rows Hx
def skey (e : DictEntry) : Option Str := match e.key with
  | .str x _ => some x
  | _ => none
theorem isStr_key {e : DictEntry} {z x : Str} (h : skey e = some x) : e.key.isStr z = decide (x = z) := by
  unfold skey at h
  cases q : e.key with
  | str y t =>
    rw [q] at h
    have e1 : y = x := by injection h
    subst e1
    show (y == z) = _
    by_cases c : y = z
    · subst c; simp
    · rw [decide_eq_false c]; exact beq_false_of_ne c
  | _ => rw [q] at h; cases h
theorem noRef_key {e : DictEntry} {x : Str} (h : skey e = some x) : e.refKey = false := by
  unfold skey at h
  unfold DictEntry.refKey
  cases q : e.key with
  | str y t => rfl
  | _ => first | rfl | (rw [q] at h; cases h)
theorem ns_str {K : PySem.W.Frag} {a : Addr} {c : Value} {d : Option Addr} {es : Array DictEntry} {n : Nat} {sl : Array (Option Value)} (hl : K.lookup a = some ⟨c, d, .dict es n, sl⟩) {ks : List Str} (hk : es.toList.map skey = ks.map some) (z : Str) : ∃ r, PySem.W.nsIn K a z = some r ∧ r.isSome = decide (z ∈ ks) := by
  have all : ∀ e ∈ es.toList, ∃ x, skey e = some x ∧ x ∈ ks := fun e he => by
    have h : skey e ∈ ks.map some := by rw [← hk]; exact List.mem_map_of_mem he
    obtain ⟨x, hx, e2⟩ := List.mem_map.mp h
    exact ⟨x, e2.symm, hx⟩
  have none_ : es.toList.any (·.refKey) = false := List.any_eq_false.mpr fun e he => by
    obtain ⟨x, hx, _⟩ := all e he
    rw [noRef_key hx]
    exact Bool.false_ne_true
  unfold PySem.W.nsIn
  rw [hl]
  dsimp only
  cases q : es.toList.find? (·.key.isStr z) with
  | some e =>
    refine ⟨some e.val, rfl, ?_⟩
    obtain ⟨x, hx, hm⟩ := all e (List.mem_of_find?_eq_some q)
    have hi := List.find?_some q
    rw [isStr_key hx] at hi
    have : x = z := of_decide_eq_true hi
    rw [← this, decide_eq_true hm]
    rfl
  | none =>
    dsimp only
    rw [none_]
    refine ⟨none, rfl, ?_⟩
    have hn := List.find?_eq_none.mp q
    have : ¬ z ∈ ks := fun h => by
      have h2 : some z ∈ es.toList.map skey := by rw [hk]; exact List.mem_map_of_mem h
      obtain ⟨e, he, e2⟩ := List.mem_map.mp h2
      refine hn e he ?_
      rw [isStr_key e2]
      exact decide_eq_true rfl
    rw [decide_eq_false this]
    rfl
/-- a dict of the module with these keys -/
def KdK (K : PySem.W.Frag) (w : World) (a : Addr) (ks : List Str) : Prop := ∃ es n, KDict K w a es n ∧ es.toList.map skey = ks.map some
def dKin (ks : List Str) (ta : TED) : TED := fun σ S Q => ta σ S fun x S1 => match x with
  | .str z => Q (.bl (decide (z ∈ ks))) S1
  | _ => False
section
variable {X : Cx} {W : Wi} {pos : Pos}
theorem kin_lift {a : Addr} {ta : TED} {ks : List Str} (ht : KdK X.K X.w a ks) (σ : L2.St) (H : Hp) (Q : VK) (h0 : upE X.K W (dKin ks ta) σ H Q) : tOp (fun x y H Q => ∃ (z : Str) (r : Option Value), x = .str z ∧ y = .ref a ∧ PySem.W.nsIn X.K a z = some r ∧ Q (.bl r.isSome) H) (upE X.K W ta) (tC (.ref a)) σ H Q := by
  obtain ⟨σd, S, fr, Qd, ok, cl, h, k⟩ := h0
  exact ⟨σd, S, fr, _, ok, cl, h, fun y dy H1 S1 ok1 ry q => by
    cases dy with
    | str z =>
      obtain ⟨es, n, D, hk⟩ := ht
      obtain ⟨r, e1, e2⟩ := ns_str D.at_ hk z
      refine ⟨z, r, ry, rfl, e1, ?_⟩
      rw [e2]
      exact k _ (.bl _) H1 S1 ok1 rfl q
    | _ => exact (show False from q).elim⟩
theorem dt_kin {x : Str} {a : Addr} {ea : Expr} {ta : TED} {p : Pos} {ks : List Str} (hg : Gl X x) (hm : X.mg x = some (.ref a)) (ht : KdK X.K X.w a ks) (ha : DE X W ea ta) (hb : behindInMarks .In (.Name x p) = false)
    (hd : (x == ("__debug__" : Str)) = false := by decide) : DT X W (.Compare ea [.In] [.Name x p] pos) (dTest (dKin ks ta)) := by
  obtain ⟨es, n, D, hk⟩ := ht
  exact ⟨PT.imp (pt_cmpR (op_in_kd D) ha.p (pe_glob (v := .ref a) hg hm rfl hd) hb) fun σ H Q h => tTest_mono (kin_lift ⟨es, n, D, hk⟩) σ H Q (test_lift σ H Q h)⟩
end
/-! ### a text not in a text -/
def rdNotInT : RD2 := fun x y S Q => match x, y with
  | .str a, .str z => Q (.bl (!hasS z a)) S
  | _, _ => False
theorem x_notInT {a z : Str} {S : Sd} {Q : DK} : rdNotInT (.str a) (.str z) S Q = Q (.bl (!hasS z a)) S := rfl
end Dv

/-! Readings by value: sorted and min of a list of data; range downward. -/
namespace Dv
open PySem L2 PyProof.Rows Hx
/-! ### range(a, b, -1) -/
end Dv

/-! Tuples made by +, a slice or *, of which it is known that they have no dict. -/
namespace Hx
open PySem PySem.Spec PyProof.Rows L2
section
variable {X : Cx}
end
end Hx
namespace Dv
open PySem L2 PyProof.Rows Hx
section
variable {X : Cx} {W : Wi} {o e : Expr} {es : List Expr} {to : TED} {t : TAD} {apos cpos : Pos}
end
end Dv
namespace Dv
open PySem L2 PyProof.Rows Hx
end Dv

/-! Methods of an instance that is still stored into. -/
namespace Dv
open PySem L2 PyProof.Rows Hx
section
variable {X : Cx} {W : Wi} {k : Nat} {f C fI : Addr} {fd : FuncData} {ps : List Str} {sp : SpD} {ds : List Value} {dvs : List V} {dds : List D} {x n m g : Str} {p pos apos pos' : Pos} {o e : Expr} {es : List Expr} {to tv : TED} {t : TAD}
end
end Dv

/-! Texts with fields; repr of instances by a __repr__ of their own. -/
namespace Hx
open PySem PySem.Spec PyProof.Rows L2
/-! ### repr of an instance -/
end Hx
namespace Dv
open PySem L2 PyProof.Rows Hx
section
variable {X : Cx} {W : Wi} {e : Expr} {te : TED} {pos : Pos}
end
end Dv

/-! Own classes called by names. -/
namespace Hx
open PySem PySem.Spec PyProof.Rows L2
section
variable {X : Cx} {CX : CXT} {k n : Nat} {f C : Addr} {fd : FuncData} {ps ks : List Str} {sp : Sp} {idx : List Nat} {dvs : List V} {E : L2.St → XK} {x : Str} {p pos : Pos} {e : Expr} {es : List Expr} {kws : List Keyword} {t tk : TA}
end
end Hx
namespace Dv
open PySem L2 PyProof.Rows Hx
section
variable {X : Cx} {W : Wi} {k np : Nat} {f C fI : Addr} {fd : FuncData} {ps ks : List Str} {sp : SpD} {idx : List Nat} {dvs : List V} {dds : List D} {n : Str} {p pos : Pos} {e : Expr} {es : List Expr} {kws : List Keyword} {t tk : TAD}
end
end Dv

/-! min of a range by a bound method whose answers are data. -/
namespace Hx
open PySem PySem.Spec PyProof.Rows L2
/-- what stays while the best is sought: J j b k: of the first j things the one at b is the least so far, its key is k -/
structure MinRun (prog : Program) (w : World) (A : Around) (q T : Addr) (wr : List Addr) (G : Array GenState → Array GenState → Prop) (n : Nat) (P : Nat → Value → Prop) (St : Nat → Shared → Prop) (J0 : Shared → Prop) (J : Nat → Nat → Value → Shared → Prop) : Prop where
  keep0 : ∀ s s', J0 s → Moved (T :: wr) G s s' → J0 s'
  keep : ∀ j b k s s', J j b k s → Moved (T :: wr) G s s' → J j b k s'
  first : ∀ v (s : Shared) (o : Obj) (Q : Value → Shared → Prop) (E : Value → Shared → Prop), P 0 v → J0 s → St 1 s → s.heap.get? T = some o → (∀ k s', J 1 0 k s' → St 1 s' → s'.heap.get? T = some o → Q k s') → wpAny (model prog w) A (call (.ref q) [v]) Q E s
  turn : ∀ j b kb v (s : Shared) (o : Obj) (Q : Value → Shared → Prop) (E : Value → Shared → Prop), 1 ≤ j → j < n → P j v → J j b kb s → St (j + 1) s → s.heap.get? T = some o →
    (∀ k s', St (j + 1) s' → s'.heap.get? T = some o → (∀ (Q2 : Value → Shared → Prop) (E2 : Value → Shared → Prop), (J (j + 1) j k s' → Q2 (.bool true) s') → (J (j + 1) b kb s' → Q2 (.bool false) s') → wpAny (model prog w) A (richCompare .Lt k kb) Q2 E2 s') → Q k s') → wpAny (model prog w) A (call (.ref q) [v]) Q E s
section
variable {prog : Program} {w : World} {A : Around} {R : Result → Shared → Prop} {I q T : Addr} {fp wr : List Addr} {G : Array GenState → Array GenState → Prop} {n : Nat} {P : Nat → Value → Prop} {St : Nat → Shared → Prop} {J0 : Shared → Prop} {J : Nat → Nat → Value → Shared → Prop}
theorem min2_on (W : WalksS prog w A.in1 I fp wr G n P St) (hT : T ∉ fp) (M : MinRun prog w A.in1 q T wr G n P St J0 J) (kw : List (Str × Value)) : ∀ (m j b : Nat) (s : Shared) (best key : Value) (c : Nat), n - j = m → 1 ≤ j → j ≤ n → J j b key s → St j s → P b best →
    s.heap.get? T = some { cls := .type "list", dict := none, data := .seq #[best, key] c, slots := #[] } → (∀ v b k s', P b v → J n b k s' → R (.ok (.ret v)) s') → codeAny (model prog w) A (.builtin "min.loop" ⟨[.ref I, .ref q, .ref T], kw⟩) R s := by
  have apart : T ∉ wr := fun h => hT (W.sub T h)
  have within : ∀ b ∈ wr, b ∈ T :: wr := fun b hb => List.mem_cons_of_mem T hb
  have named : (toString "min" ++ toString ".loop" : String) = "min.loop" := by decide
  have other : ∀ {b : Addr}, b ∉ T :: wr → T ≠ b := fun hb h => hb (by rw [h]; exact List.mem_cons_self)
  intro m
  induction m with
  | zero =>
    intro j b s best key c hm j1 jn jj st hb eT fin
    obtain rfl : j = n := by omega
    refine codeAny_builtin F.entry_min_loop ?_
    rw [Around.under_plainId F.plain_min_loop ⟨[.ref I, .ref q, .ref T], kw⟩]
    refine wpAny_bind (m := seqItems? (.ref T)) (wpAny_seqItems eT rfl ?_)
    refine wpAny_bind (m := tryCatch (pyNext (.ref I)) _) (wpAny_tryCatch (W.done s _ _ st fun s1 mv => ?_))
    refine wpAny_bind (m := updateSeq T (fun _ => #[])) (wpAny_updateSeq (mv.heap T _ apart eT) rfl (wpAny_bind (wpAny_letGo (wpAny_pure ?_))))
    exact fin best b key _ hb (M.keep _ _ _ _ _ jj ((mv.mono within).then_heap (tk := s1.toks) (Nat.le_refl _) fun b o hb e => (Heap.get?_update_other _ _ (other hb)).trans e))
  | succ m ih =>
    intro j b s best key c hm j1 jn jj st hb eT fin
    have less : j < n := by omega
    refine codeAny_builtin F.entry_min_loop ?_
    rw [Around.under_plainId F.plain_min_loop ⟨[.ref I, .ref q, .ref T], kw⟩]
    refine wpAny_bind (m := seqItems? (.ref T)) (wpAny_seqItems eT rfl ?_)
    refine wpAny_bind (m := tryCatch (pyNext (.ref I)) _) (wpAny_tryCatch (W.item j s _ _ less st fun v s1 hv st1 mv => ?_))
    have eT1 := mv.heap T _ apart eT
    have jj1 := M.keep _ _ _ _ _ jj (mv.mono within)
    refine wpAny_bind (m := tryCatch (holding [v] (call (.ref q) [v])) _) (wpAny_tryCatch (wpAny_holding (M.turn j b key v s1 _ _ _ j1 less hv jj1 st1 eT1 fun kx s2 st2 eT2 cmp => ?_)))
    refine wpAny_bind (m := tryCatch (holding [v, kx] (richCompare .Lt kx key >>= _)) _) (wpAny_tryCatch (wpAny_holding (wpAny_bind (cmp _ _ (fun j2 => ?_) fun j2 => ?_))))
    · refine wpAny_bind (wpAny_holding (wpAny_truthy_bool (wpAny_bind (wpAny_letGo (wpAny_pure ?_)))))
      simp only [if_true]
      refine wpAny_bind (m := updateSeq T (fun _ => #[v, kx])) (wpAny_updateSeq eT2 rfl (wpAny_bind (wpAny_letGo ?_)))
      rw [named]
      have mv2 : Moved (T :: wr) G s2 { s2 with heap := s2.heap.update T (Obj.mapSeq fun _ => #[v, kx]), toks := s2.toks } := (Moved.refl W.grefl).then_heap (tk := s2.toks) (Nat.le_refl _) fun b o hb e => (Heap.get?_update_other _ _ (other hb)).trans e
      exact wpAny_pure ⟨plainId_quiet F.plain_min_loop _, ih (j + 1) j _ v kx _ (by omega) (by omega) less (M.keep _ _ _ _ _ j2 mv2) (W.frame _ s2 _ s2.toks st2 (Nat.le_refl _) fun b hbf o e => (Heap.get?_update_other _ _ (fun h : T = b => hT (by rw [h]; exact hbf))).trans e) hv (Heap.get?_update_self _ eT2 rfl) fin⟩
    · refine wpAny_bind (wpAny_holding (wpAny_truthy_bool (wpAny_bind (wpAny_letGo (wpAny_pure ?_)))))
      simp only [Bool.false_eq_true, if_false]
      refine wpAny_bind (wpAny_letGo ?_)
      rw [named]
      exact wpAny_pure ⟨plainId_quiet F.plain_min_loop _, ih (j + 1) b _ best key c (by omega) (by omega) less j2 st2 hb eT2 fin⟩
theorem min2_first (W : WalksS prog w A.in1 I fp wr G n P St) (hT : T ∉ fp) (M : MinRun prog w A.in1 q T wr G n P St J0 J) (kw : List (Str × Value)) (hn : 0 < n) {s : Shared} {c : Nat} (j0 : J0 s) (st : St 0 s)
    (eT : s.heap.get? T = some { cls := .type "list", dict := none, data := .seq #[] c, slots := #[] }) (fin : ∀ v b k s', P b v → J n b k s' → R (.ok (.ret v)) s') : codeAny (model prog w) A (.builtin "min.loop" ⟨[.ref I, .ref q, .ref T], kw⟩) R s := by
  have apart : T ∉ wr := fun h => hT (W.sub T h)
  have within : ∀ b ∈ wr, b ∈ T :: wr := fun b hb => List.mem_cons_of_mem T hb
  have named : (toString "min" ++ toString ".loop" : String) = "min.loop" := by decide
  have other : ∀ {b : Addr}, b ∉ T :: wr → T ≠ b := fun hb h => hb (by rw [h]; exact List.mem_cons_self)
  refine codeAny_builtin F.entry_min_loop ?_
  rw [Around.under_plainId F.plain_min_loop ⟨[.ref I, .ref q, .ref T], kw⟩]
  refine wpAny_bind (m := seqItems? (.ref T)) (wpAny_seqItems eT rfl ?_)
  refine wpAny_bind (m := tryCatch (pyNext (.ref I)) _) (wpAny_tryCatch (W.item 0 s _ _ hn st fun v s1 hv st1 mv => ?_))
  have eT1 := mv.heap T _ apart eT
  have j1 := M.keep0 _ _ j0 (mv.mono within)
  refine wpAny_bind (m := tryCatch (holding [v] (call (.ref q) [v])) _) (wpAny_tryCatch (wpAny_holding (M.first v s1 _ _ _ hv j1 st1 eT1 fun kx s2 j2 st2 eT2 => ?_)))
  refine wpAny_bind (m := updateSeq T (fun _ => #[v, kx])) (wpAny_updateSeq eT2 rfl ?_)
  rw [named]
  have mv2 : Moved (T :: wr) G s2 { s2 with heap := s2.heap.update T (Obj.mapSeq fun _ => #[v, kx]), toks := s2.toks } := (Moved.refl W.grefl).then_heap (tk := s2.toks) (Nat.le_refl _) fun b o hb e => (Heap.get?_update_other _ _ (other hb)).trans e
  exact wpAny_pure ⟨plainId_quiet F.plain_min_loop _, min2_on W hT M kw _ 1 0 _ v kx _ rfl (Nat.le_refl _) hn (M.keep _ _ _ _ _ j2 mv2) (W.frame _ s2 _ s2.toks st2 (Nat.le_refl _) fun b hbf o e => (Heap.get?_update_other _ _ (fun h : T = b => hT (by rw [h]; exact hbf))).trans e) hv (Heap.get?_update_self _ eT2 rfl) fin⟩
theorem call_min2 {E : Value → Shared → Prop} {s : Shared} {x : Value} {Q : Value → Shared → Prop}
    (h : wpAny (model prog w) A.in1 (pyIter x) (fun it s2 => ∃ I fp wr G n P St J0 J, it = .ref I ∧ WalksS prog w A.in1 I fp wr G n P St ∧ St 0 s2 ∧ (∀ b ∈ fp, b < s2.heap.objs.size) ∧ 0 < n ∧ MinRun prog w A.in1 q s2.heap.objs.size wr G n P St J0 J ∧ J0 s2 ∧ ∀ v b k s', P b v → J n b k s' → Q v s') E s) :
    wpAny (model prog w) A (call (.builtin "min") [x] [(Str.ofString "key", .ref q)]) Q E s := by
  have named : (toString "min" ++ toString ".loop" : String) = "min.loop" := by decide
  refine PyProof.Rows.kmk_tree F.kind_min F.plain_min F.entry_min (PyProof.Rows.kmk_min_key x (.ref q)) ?_
  refine wpAny_bind (m := Builtin.Builtins.bindParams "min" ["key", "default"] 0 ⟨[], [(Str.ofString "key", .ref q)]⟩) (wpAny_of_eq (show Builtin.Builtins.bindParams "min" ["key", "default"] 0 ⟨[], [(Str.ofString "key", .ref q)]⟩ = pure [some (.ref q), none] from rfl) (wpAny_bind (wpAny_pure ?_)))
  refine wpAny_bind (wpAny_mono h (fun it s2 got => ?_) fun _ _ e => e)
  obtain ⟨I, fp, wr, G, n, P, Z, J0, J, e, W, st, hfp, hn, M, j0, fin⟩ := got
  subst e
  refine wpAny_bind (wpAny_newObj_type ?_)
  rw [named]
  have hT : s2.heap.objs.size ∉ fp := fun hm => Nat.lt_irrefl _ (hfp _ hm)
  have mv : Moved (s2.heap.objs.size :: wr) G s2 { s2 with heap := s2.heap.push { cls := .type "list", data := .seq #[] 0 }, toks := s2.toks } := (Moved.refl W.grefl).then_heap (tk := s2.toks) (Nat.le_refl _) fun b o _ e => Heap.get?_push_of_some _ e
  exact wpAny_pure ⟨plainId_quiet F.plain_min_loop _, min2_first W hT M _ hn (M.keep0 _ _ j0 mv) (W.frame 0 s2 (s2.heap.push { cls := .type "list", data := .seq #[] 0 }) s2.toks st (Nat.le_refl _) fun b _ o e => Heap.get?_push_of_some _ e) (Heap.get?_push_size _ rfl) fin⟩
end
section
variable {X : Cx} {k : Nat} {f C : Addr} {fd : FuncData} {p1 p2 m : Str} {sp : Sp} {pins : List (Addr × Obj)} {σ : L2.St}
/-- what stays: the bound method, the walk's two objects, what is wished of the heap -/
structure JM (X : Cx) (pins : List (Addr × Obj)) (σ : L2.St) (T I b f a : Addr) (H : Hp) (s : Shared) : Prop where
  inv : Inv X pins σ H s
  ft : FpOk X pins H T
  fi : FpOk X pins H I
  fb : FpOk X pins H b
  at_ : s.heap.get? b = some (PySem.W.methodObj (.ref f) (.ref a))
theorem JM.keep {T I b f a : Addr} {H : Hp} {s s' : Shared} (h : JM X pins σ T I b f a H s) (hT : b ≠ T) (hI : b ≠ I) (mv : Moved [T, I] (fun a b => b = a) s s') : JM X pins σ T I b f a H s' := by
  obtain ⟨h1, g1, d1, t1, o1⟩ := s
  obtain ⟨h2, g2, d2, t2, o2⟩ := s'
  have e1 : g2 = g1 := mv.gens
  have e2 : d2 = d1 := mv.drawn
  have e3 : o2 = o1 := mv.os
  subst e1 e2 e3
  refine ⟨h.inv.turnedL (t' := t2) (ch := [T, I]) (fun c o hc e => mv.heap c o hc e) (fun c hc => ?_), h.ft, h.fi, h.fb, mv.heap b _ (by simp [hT, hI]) h.at_⟩
  simp only [List.mem_cons, List.not_mem_nil, or_false] at hc
  rcases hc with rfl | rfl
  · exact h.ft
  · exact h.fi
/-- one answer of the bound method -/
theorem JM.call {T I b a : Addr} {H : Hp} {s : Shared} {v : Value} {x : V} {R : V → Hp → Prop} (h : JM X pins σ T I b f a H s) (F : FnG X.prog X.w X.K X.mg X.base (L2N.CX X.prog X.w) k f fd [p1, p2] sp) (hr : RoomG (k + 1) X.A) (hb : Binds X.K fd [p1, p2] [])
    (rx : RelV x v) (hs : sp [.ref a, x] H R fun _ _ _ => False) {oT oI : Obj} (eT : s.heap.get? T = some oT) (eI : s.heap.get? I = some oI) {Q : Value → Shared → Prop} {E : Value → Shared → Prop}
    (hq : ∀ u y H' s', RelV y u → R y H' → JM X pins σ T I b f a H' s' → s'.heap.get? T = some oT → s'.heap.get? I = some oI → Q u s') : wpAny (model X.prog X.w) X.A.in1 (call (.ref b) [v]) Q E s := by
  have J := h.inv
  refine wpAny_call (PySem.W.method_call h.at_ (codeAny_mono (F.run X.A.in1 X.stack s H ⟨[.ref a, v], []⟩ [.ref a, v] [.ref a, x] R (fun _ _ _ => False) hr.in1 J.env0.in1 (hb s [.ref a, v] J.kIn rfl) (.cons rfl (.cons rx .nil)) hs) fun out s' got => ?_))
  match out, got with
  | .error e, got =>
    obtain ⟨_, _, _, _, _, _, _, _, _, _, _, _, z⟩ := (show L2N.CX X.prog X.w X.stack H s (fun _ _ _ => False) e s' from got)
    exact z.elim
  | .ok (.ret u), ⟨y, H', os, bare, un, hok, ry, q⟩ =>
    have J' := J.call' os un hok bare (ch := []) (fun b z => absurd z (by simp))
    have far : ∀ {c : Addr}, FpOk X pins H c → c ∉ frs X.stack := fun {c} hf hc' => by
      rcases List.mem_cons.mp (J.stkSub c hc') with e | e
      · exact hf.2.1 e
      · exact hf.2.2.1 e
    have stay : ∀ {c : Addr} {o : Obj}, FpOk X pins H c → s.heap.get? c = some o → s'.heap.get? c = some o ∧ FpOk X pins H' c := fun {c o} hf e =>
      ⟨un.keep c o e hf.1 (far hf) (by simp), ⟨un.free c o e hf.1 (by simp), hf.2⟩⟩
    exact hq u y H' s' ry q ⟨J', (stay h.ft eT).2, (stay h.fi eI).2, (stay h.fb h.at_).2, (stay h.fb h.at_).1⟩ (stay h.ft eT).1 (stay h.fi eI).1
end
end Hx

/-! Readings by value: min of a range by a bound method. -/
namespace Dv
open PySem L2 PyProof.Rows Hx
section
variable {X : Cx} {W : Wi} {k i : Nat} {f C fI : Addr} {fd : FuncData} {p1 p2 x c m : Str} {sp : SpD} {e : Expr} {te : TED}
end
end Dv

/-! "1" + e.replace(..).replace(..) and int(text, 2). -/
namespace Hx
open PySem PySem.Spec PyProof.Rows L2
section
variable {X : Cx}
end
section
open PySem.NumText PySem.Calls
end
section
open PySem.StrLaws
end
end Hx

/-! Readings by value: "1" + text.replace(..).replace(..), int(text, 2). -/
namespace Dv
open PySem PySem.Spec L2 PyProof.Rows Hx
section
variable {X : Cx} {W : Wi}
end
end Dv

/-! zip of two tuples of one length, strict=True. -/
namespace Hx
open PySem PySem.Spec PyProof.Rows L2 RZ
abbrev IsZipS (h : Heap) (z TI TO : Addr) (f0 : Value) : Prop :=
  h.get? z = some { cls := .type "zip", dict := none, data := .fields #[f0, .bool false, .bool true, .ref TI, .ref TO], slots := #[] }
section
variable {prog : Program} {w : World} {A : Around} {E : Value → Shared → Prop} {s : Shared}
theorem goS {elts : List Expr} {x1} {pos : Pos} {z TI TO T : Addr} {Q : Unit → Shared → Prop} (hz : IsZipS s.heap z TI TO (rawInt T))
    (hQ : ∀ h', IsZipS h' z TI TO .none → Heap.SameBut z s.heap h' → Q () { s with heap := h' }) :
    wpAny (model prog w) A (letOwnedTupleGo (.Tuple elts x1 pos) (.ref z) (.ref T)) Q E s := by
  unfold letOwnedTupleGo
  refine wpAny_bind (wpAny_load hz ?_)
  show wpAny _ _ (if (["enumerate", "zip", "dict_itemiterator", "dict_reverseitemiterator", "odict_iterator", "itertools.zip_longest", "itertools.pairwise"].contains "zip" &&
      (#[rawInt T, .bool false, .bool true, .ref TI, .ref TO] : Array Value)[0]? == some (rawInt T)) = true then _ else _) Q E s
  rw [if_pos (by simp)]
  refine wpAny_bind (wpAny_rule ?_)
  show wpAny _ _ (setField (.ref z) 0 .none) Q E s
  exact wpAny_setField_rec hz (by simp) fun h' hz' hs' => hQ h' hz' hs'
end
section
variable {prog : Program} {w : World} {A : Around} {E : Value → Shared → Prop} {s : Shared}
end
end Hx

/-! Readings by value: a local name that holds a def of the module; zip(.., .., strict=True) of two tuples; x.bit_length(). -/
namespace Dv
open PySem PySem.Spec L2 PyProof.Rows Hx
/-- the def of the module by this name keeps this promise -/
structure FnW (X : Cx) (k : Nat) (x : Str) (sp : SpD) : Prop where
  ex : ∃ (f : Addr) (fd : FuncData) (ps : List Str) (k' : Nat), PySem.W.nsIn X.K mainGlobals x = some (some (.ref f)) ∧ k' ≤ k ∧ Hx.FnG X.prog X.w X.K X.mg X.base (L2N.CX X.prog X.w) k' f fd ps (upF X.K sp) ∧ PySem.W.keepIn X.K (.ref f) = true ∧ Binds X.K fd ps []
def dCallV (i : Nat) (cs : List (Str × SpD)) (WD : WXD) (t : TAD) : TED := fun σ S Q => ∃ x sp, σ[i]? = some (some (.fn x)) ∧ (x, sp) ∈ cs ∧ dCall sp [] WD t σ S Q
section
variable {X : Cx} {W : Wi} {k i : Nat} {x : Str} {p pos : Pos} {e : Expr} {es : List Expr} {t : TAD} {cs : List (Str × SpD)}
theorem fnW_mk {f : Addr} {fd : FuncData} {ps : List Str} {k' : Nat} {sp : SpD} (F : Hx.FnG X.prog X.w X.K X.mg X.base (L2N.CX X.prog X.w) k' f fd ps (upF X.K sp)) (hn : PySem.W.nsIn X.K mainGlobals x = some (some (.ref f))) (hk : PySem.W.keepIn X.K (.ref f) = true) (hb : Binds X.K fd ps [])
    (hl : k' ≤ k := by decide) : FnW X k x sp := ⟨f, fd, ps, k', hn, hl, F, hk, hb⟩
theorem fnW_nil : ∀ q ∈ ([] : List (Str × SpD)), FnW X k q.1 q.2 := fun q h => by cases h
theorem fnW_cons {sp : SpD} (h : FnW X k x sp) (hr : ∀ q ∈ cs, FnW X k q.1 q.2) : ∀ q ∈ (x, sp) :: cs, FnW X k q.1 q.2 := fun q hq => by
  rcases List.mem_cons.mp hq with rfl | hq
  · exact h
  · exact hr q hq
theorem de_callV (A : ∀ q ∈ cs, FnW X k q.1 q.2) (hr : Hx.RoomG k X.A) (hN : X.N[i]? = some x) (hv : Vis X.env.scope x) (tk : L2N.Takes X W.V) (ha : DA X W (e :: es) t)
    (hdb : (x == ("__debug__" : Str)) = false := by decide) (hcd : (x == ("__classdict__" : Str)) = false := by decide)
    (he : starEach (e :: es) X.env = (false, eval e X.env) :: starEach es X.env := by rfl) (hpl : (backTo pos (starEach es X.env)).any (·.1) = false := by rfl) : DE X W (.Call (.Name x p) (e :: es) [] pos) (dCallV i cs W.D t) := by
  refine ⟨⟨fun pins s σ H Q I h => ?_⟩⟩
  obtain ⟨σd, S, fr, Qd, ok, cl, ⟨n, sp, hs, hm, ht⟩, kk⟩ := h
  obtain ⟨v, hv', f, rfl, hf⟩ := ok.si i _ hs
  obtain ⟨f', fd, ps, k', hf', hk', F, hkp, hb⟩ := (A _ hm).ex
  have ef : f' = f := by
    have e1 := hf.symm.trans hf'
    injection e1 with e1
    injection e1 with e1
    injection e1 with e1
    exact e1.symm
  subst ef
  have lift := call_lift (dvs := []) (fun _ _ => rpL_nil) σ H Q ⟨σd, S, fr, Qd, ok, cl, ht, kk⟩
  refine wpAny_Call_Name_kw (thn ((pe_var (pos := p) hN hv hdb hcd).run pins s σ H (fun v H1 => v = .ref f' ∧ H1 = H) I ⟨.ref f', hv', rfl, rfl⟩) fun u s1 ⟨v, H1, I1, r1, q1⟩ => ?_)
  obtain ⟨rfl, rfl⟩ := q1
  cases r1
  refine PySem.W.callWith_K (h₀ := X.base) I.ok.mod.kin hkp (thn (ha.p.run pos pins s1 σ _ _ I1 lift) fun us s2 ⟨vs, H2, I2, r, q⟩ => ⟨I2.kIn, ?_⟩) he hpl
  exact fnG_run F (hr.mono hk') hb .nil (L2N.passAt tk σ) I2 r q
/-! ### zip, strict -/
/-! ### bit_length -/
def bitsQ (S : Sd) (Q : DK) : D → Prop
  | .int i => Q (.int (Builtin.Int.intBits i : Nat)) S
  | _ => False
def dBits (to : TED) : TED := fun σ S Q => to σ S fun d S1 => bitsQ S1 Q d
theorem de_bits {o : Expr} {to : TED} {apos : Pos} (ho : DE X W o to) (hbase : attributeBase o "bit_length" X.env (eval o X.env) = eval o X.env := by rfl) (hline : (apos.endLine == pos.line) = true := by rfl) :
    DE X W (.Call (.Attribute o "bit_length" apos) [] [] pos) (dBits to) :=
  ⟨PE.imp (pe_bits ho.p hbase hline) fun σ H Q ⟨σd, S, fr, Qd, ok, cl, h, k⟩ => ⟨σd, S, fr, _, ok, cl, h, fun v x H1 S1 ok1 r1 q1 => by
    cases x with
    | int i => exact ⟨i, r1, k _ (.int _) H1 S1 ok1 rfl q1⟩
    | _ => exact (show False from q1).elim⟩⟩
/-! ### list(x), stored into later -/
def rdListO : RDC
  | [d], S, Q => ∃ xs, itemsD S d = some xs ∧ ∀ a, S a = none → Q (.obj a) (upS S a (.lst xs))
  | _, _, _ => False
theorem cd_listO : CallD X (.type "list") rdListO := ⟨_, call_list_of, fun H S fr σd σ xs ds Qv Qd ok r h k => by
  match ds, r, h with
  | [], _, h => exact (show False from h).elim
  | _ :: _ :: _, _, h => exact (show False from h).elim
  | [d], r, h =>
    obtain ⟨v, rfl, r0⟩ := rpL1 r
    obtain ⟨xs, e, q⟩ := (show ∃ xs, itemsD S d = some xs ∧ ∀ a, S a = none → Qd (.obj a) (upS S a (.lst xs)) from h)
    obtain ⟨a, vs, rfl, hq, r2⟩ := rp_items ok.rel r0 e
    exact ⟨a, vs, rfl, hq, fun l hl => k (.ref l) (.obj l) _ (upS S l (.lst xs)) (ok.own hl r2) rfl (q l (ok.rel.free hl))⟩⟩
end
end Dv

/-! Readings by value: the truth of an instance whose class has neither __bool__ nor __len__. -/
namespace Dv
open PySem PySem.Spec L2 PyProof.Rows Hx
section
variable {X : Cx} {W : Wi} {a : Expr} {ta : TE} {C fI : Addr} {n : Str}
end
/-! ### a tracked list that is changed no more: from here on a plain one -/
def dFrzV (i : Nat) (t : TSD) : TSD := fun D σ S => ∃ a ds, σ[i]? = some (some (.obj a)) ∧ S a = some (.lst ds) ∧ t D (σ.set i (some (.lst ds))) (del S a)
theorem set_self {α : Type} : ∀ {l : List α} {i : Nat} {x : α}, l[i]? = some x → l.set i x = l
  | [], _, _, h => by simp at h
  | a :: l, 0, x, h => by simp at h; simp [h]
  | a :: l, i + 1, x, h => by
    rw [List.getElem?_cons_succ] at h
    rw [List.set_cons_succ, set_self h]
theorem ds_frzV {X : Cx} {W : Wi} {s : Stmt} {t : TSD} (i : Nat) (h : DS X W s t) : DS X W s (dFrzV i t) :=
  ⟨PS.imp h.p fun D σ H ⟨σd, S, fr, Dd, ok, cl, ⟨a, ds, e1, e2, ht⟩, k⟩ => by
    obtain ⟨v, ev, rv⟩ := ok.si i _ e1
    have ev2 : v = .ref a := rv
    subst ev2
    have ok2 := (ok.step step_del (rel_del ok.rel)).set (rp_frozen ok.rel e2) i
    rw [set_self ev] at ok2
    exact ⟨σd.set i (some (.lst ds)), del S a, fr, Dd, ok2, cl, ht, k⟩⟩
end Dv

/-! How often a truth stands in a list of truths. -/
namespace Dv
open PySem PySem.Spec L2 PyProof.Rows Hx
section
variable {X : Cx} {W : Wi} {o e : Expr} {es : List Expr} {to : TED} {t : TAD} {apos cpos : Pos}
end
end Dv

/-! == and != of an instance whose class has an __eq__ of its own and no __ne__. -/
namespace Hx
open PySem PySem.Spec PyProof.Rows L2
open Builtin
section
variable {prog : Program} {w : World} {A : Around} {E : Value → Shared → Prop} {s : Shared} {K : PySem.W.Frag} {x C f : Addr} {ox : Obj} {od : Option Obj} {b tb : Value}
end
end Hx

/-! ==, != and str of instances by value. -/
namespace Hx
open PySem PySem.Spec PyProof.Rows L2
end Hx
namespace Dv
open PySem L2 PyProof.Rows Hx
section
variable {X : Cx} {k : Nat} {n : Str} {ps : List Str} {C f fI : Addr} {fd : FuncData} {sp : SpD}
end
end Dv

/-! for i, x in enumerate(xs); isinstance by a class of the text. -/
namespace Dv
open PySem L2 PyProof.Rows Hx
/-! ### isinstance by a class of the text -/
end Dv

/-! str(whole number), str(text). -/
namespace Dv
open PySem L2 PyProof.Rows Hx
def rdStr : RDC := fun ds S Q => match ds with
  | [.int i] => i.natAbs.log2 < 1920 ∧ Q (.str (toString i)) S
  | [.str z] => Q (.str z) S
  | _ => False
theorem cd_str {X : Cx} : CallD X (.type "str") rdStr := ⟨_, CallR.or call_str_int SkE.call_str_str, fun H S fr σd σ xs ds Qv Qd ok r h k => by
  match ds, h with
  | [.int i], h =>
    obtain ⟨v, rfl, r1⟩ := rpL1 r
    have e : v = .int i := r1
    subst e
    exact .inl ⟨i, rfl, h.1, k _ (.str _) H S ok rfl h.2⟩
  | [.str z], h =>
    obtain ⟨v, rfl, r1⟩ := rpL1 r
    have e : v = .str z := r1
    subst e
    exact .inr ⟨z, rfl, k _ (.str z) H S ok rfl h⟩⟩
theorem x_str_i {i : Int} {S : Sd} {Q : DK} : rdStr [.int i] S Q = (i.natAbs.log2 < 1920 ∧ Q (.str (toString i)) S) := rfl
theorem x_str_s {z : Str} {S : Sd} {Q : DK} : rdStr [.str z] S Q = Q (.str z) S := rfl
end Dv

/-! data == an instance: the data's own == declines, then the instance's __eq__ is asked. -/
namespace Hx
open PySem PySem.Spec PySem.SeqAt PyProof.Rows L2
open AutoSeq1 (wpAny_loadPart')
open Builtin
section
variable {prog : Program} {w : World} {A : Around} {E : Value → Shared → Prop} {s : Shared} {K : PySem.W.Frag} {y C f : Addr} {oy : Obj} {od : Option Obj} {a : Value} {Ta ida : String}
end
end Hx
namespace Dv
open PySem L2 PyProof.Rows Hx
section
variable {X : Cx} {k : Nat} {n : Str} {ps : List Str} {C f fI : Addr} {fd : FuncData} {sp : SpD}
end
end Dv

/-! an instance in [None, an instance]: by the class's own __eq__. -/
namespace Hx
open PySem PySem.Spec PySem.SeqAt PyProof.Rows L2
open AutoSeq1 (wpAny_loadPart')
open MeetsSeq MeetsSeq2 MeetsSeq3 SeqRoads2
open Builtin
section
variable {prog : Program} {w : World} {A : Around} {R : Result → Shared → Prop}
end
section
variable {X : Cx} {CX : CXT} {k : Nat} {C f : Addr} {fd : FuncData} {ps : List Str} {sp : Sp}
end
end Hx
namespace Dv
open PySem L2 PyProof.Rows Hx
end Dv

/-! "text" + x.replace(a, b). -/
namespace Dv
open PySem PySem.Spec L2 PyProof.Rows Hx
end Dv

/-! bool(x), x an instance whose class has a __len__ of its own and no __bool__. -/
namespace Hx
open PySem PySem.Spec PyProof.Rows L2
open Builtin
section
variable {prog : Program} {w : World} {A : Around} {E : Value → Shared → Prop} {s : Shared} {K : PySem.W.Frag} {a C f : Addr} {ox : Obj} {od : Option Obj}
end
end Hx

/-! Readings by value: bool of an instance by its own __len__; the place of data in a list of data. -/
namespace Dv
open PySem PySem.Spec L2 PyProof.Rows Hx
end Dv

/-! t[::-1] of a tuple, what is made being known whole. -/
namespace Dv
open PySem PySem.Spec PyProof.Rows L2 Hx
section
variable {X : Cx} {W : Wi} {e : Expr} {te : TED} {pos : Pos}
end
end Dv

/-! list(range(e)) by value; an expression that is never asked. -/
namespace Dv
open PySem PySem.Spec PyProof.Rows L2 Hx
section
variable {X : Cx} {W : Wi} {a e : Expr} {ta : TED}
end
end Dv

/-! A try whose body raises nothing. -/
namespace Hx
open PySem PySem.Spec PyProof.Rows L2
variable {X : Cx}
end Hx
namespace Dv
open PySem PySem.Spec PyProof.Rows L2 Hx
variable {X : Cx} {W : Wi} {pos : Pos}
end Dv

/-! An instance that is made and stored into again; a field that is stored anew; an instance handed out for good. -/
namespace Dv
open PySem PySem.Spec L2 PyProof.Rows Hx
section
variable {X : Cx} {W : Wi} {k : Nat} {f C fI : Addr} {fd : FuncData} {ps : List Str} {sp : SpD} {ds : List Value} {dvs : List V} {dds : List D} {x n m g : Str} {p pos apos pos' : Pos} {o e : Expr} {es : List Expr} {to tv : TED} {t : TAD}
end
end Dv

/-! A method without arguments, called while an exception is handled. -/
namespace Dv
open PySem PySem.Spec L2 PyProof.Rows Hx
section
variable {X : Cx} {k : Nat} {f C fI : Addr} {fd : FuncData} {ps : List Str} {sp : SpD} {n m : Str} {pos apos : Pos} {o : Expr} {to : TED} {ta : TE}
end
end Dv

namespace Hx
open PySem PySem.Spec PyProof.Rows L2 HotX
section
variable {prog : Program} {w : World} {A : Around} {E : Value → Shared → Prop} {s : Shared}
end
section
variable {X : Cx} {pos : Pos}
end
end Hx
namespace Dv
open PySem PySem.Spec L2 PyProof.Rows Hx
end Dv

/-! str of a tuple; a dict of two written keys asked with a default; ==, != and isinstance of instances of other classes; an instance in a list of two. -/
namespace Hx
open PySem PySem.Spec PyProof.Rows L2
end Hx
namespace Dv
open PySem PySem.Spec L2 PyProof.Rows Hx
section
variable {K : PySem.W.Frag} {W : Wi} {z1 z2 : Str} {i : Nat}
end
section
variable {X : Cx} {W : Wi} {z1 z2 x : Str} {i : Nat} {m1 m2 m3 m4 : Nat} {q1 q2 q3 q4 q5 q6 dpos np np2 sp2 pos apos : Pos}
end
/-! ### instances of other classes -/
section
variable {X : Cx} {k : Nat} {n : Str} {ms ps : List Str} {C f fI : Addr} {fd : FuncData} {sp : SpD}
end
end Dv

/-! an instance in a list of two instances: by the class's own __eq__. -/
namespace Hx
open PySem PySem.Spec PySem.SeqAt PyProof.Rows L2
open AutoSeq1 (wpAny_loadPart')
open MeetsSeq MeetsSeq2 MeetsSeq3 SeqRoads2
open Builtin
section
variable {prog : Program} {w : World} {A : Around} {R : Result → Shared → Prop}
end
section
variable {X : Cx} {CX : CXT} {k : Nat} {C f : Addr} {fd : FuncData} {ps : List Str} {sp : Sp}
end
end Hx
namespace Dv
open PySem L2 PyProof.Rows Hx
end Dv

/-! xs[-2::-1] of a tuple: all but the last one, from behind. -/
namespace HT
open PySem PyProof.Rows
section
variable {prog : Program} {w : World} {A : Around} {E : Value → Shared → Prop} {s : Shared}
end
end HT
namespace Dv
open PySem PySem.Spec L2 PyProof.Rows Hx HT
section
variable {X : Cx} {W : Wi} {e : Expr} {te : TED} {pos : Pos}
/-- xs[-2::-1] -/
def dBk (te : TED) : TED := fun σ S Q => te σ S fun x S1 => match x with
  | .tup ds => Q (.tup ds.dropLast.reverse) S1
  | _ => False
end
end Dv

/-! while an exception is handled: a comprehension within an expression, range in it, min of a list of data. -/
namespace Hx
open PySem PySem.Spec PyProof.Rows L2 HotX
section
variable {prog : Program} {w : World} {A : Around} {E : Value → Shared → Prop} {s : Shared}
end
section
variable {X : Cx}
end
section
variable {X : Cx} {pins : List (Addr × Obj)} {σ : L2.St} {H : Hp} {s : Shared}
end
end Hx
namespace Dv
open PySem PySem.Spec L2 PyProof.Rows Hx
section
variable {X : Cx} {W : Wi} {pos : Pos}
end
end Dv

/-! list.extend by a tuple or by a list that nobody changes; list.pop. -/
namespace Hx
open PySem PySem.Spec PySem.SeqAt PyProof.Rows L2
open AutoSeq1
open MeetsSeq MeetsSeq2 MeetsSeq3 SeqRoads2
section
variable {X : Cx}
end
end Hx
namespace Dv
open PySem PySem.Spec L2 PyProof.Rows Hx
section
variable {X : Cx} {W : Wi} {e : Expr}
end
end Dv
/-! the truth of an instance by its class's own __len__ -/
namespace Hx
open PySem PySem.Spec PyProof.Rows L2
section
variable {X : Cx} {CX : CXT} {k : Nat} {C f : Addr} {fd : FuncData} {y : Str} {sp : Sp} {a : Expr} {ta : TE}
end
end Hx
namespace Dv
open PySem PySem.Spec L2 PyProof.Rows Hx
end Dv
/-! a part of a list, kept for storing -/
namespace Dv
open PySem PySem.Spec L2 PyProof.Rows Hx
section
variable {X : Cx} {W : Wi} {e : Expr} {te : TED} {pos p2 : Pos}
end
end Dv

/-! l.index(x, from): the first place of an equal one, from a place on. -/
namespace L2
open PySem PySem.Spec PyProof.Rows
section
variable {X : Cx}
end
end L2
namespace Dv
open PySem L2 PyProof.Rows Hx
end Dv

/-! A written tuple, known whole. -/
namespace Dv
open PySem PySem.Spec PyProof.Rows L2 Hx
section
variable {X : Cx} {W : Wi} {es : List Expr} {pos : Pos}
end
end Dv

/-! A lambda of one parameter as a value; min by it. -/
namespace Hx
open PySem PySem.Spec PyProof.Rows L2 HotX LamX
section
variable {X : Cx} {pins : List (Addr × Obj)} {σ : L2.St} {H HZ : Hp} {s : Shared}
end
end Hx

/-! Readings by value: min by a lambda of one parameter. -/
namespace Dv
open PySem L2 PyProof.Rows Hx
section
variable {X : Cx} {W : Wi} {k : Nat} {c P : Addr} {p : Str} {e : Expr} {te : TED} {params : Arguments} {body : Expr} {scope : Scope} {p1 lpos p3 pos : Pos}
end
end Dv

/-! l.remove(x), l.pop(), l.pop(i) of a tracked list. -/
namespace L2
open PySem PySem.Spec PyProof.Rows
section
variable {X : Cx}
end
end L2
namespace Dv
open PySem L2 PyProof.Rows Hx
section
variable {K : PySem.W.Frag} {H : Hp} {S : Sd}
end
end Dv

/-! Dicts by value: dict(list of pairs), d[key], key in d, list(d). -/
namespace Dv
open PySem L2 PyProof.Rows Hx
section
variable {K : PySem.W.Frag} {H : Hp} {S : Sd}
end
end Dv

/-! isinstance(x, (A, B, ..)) of data, A, B built-in classes. -/
namespace Dv
open PySem PySem.Spec PyProof.Rows L2
theorem sqT_heap {X : Cx} {pins : List (Addr × Obj)} {σ : L2.St} {H : Hp} {s : Shared} {a : Addr} {vs : List V} (I : Inv X pins σ H s) (h : SqT X.K H a vs) : ∃ (us : List Value) (od : Option Addr) (n : Nat) (sl : Array (Option Value)), s.heap.get? a = some ⟨.type "tuple", od, .seq us.toArray n, sl⟩ ∧ Vals vs us := by
  rcases h with (h | ⟨ob, h⟩) | ⟨o, its, n, h1, h2, h3, _, rv⟩
  · obtain ⟨_, its, rv, o, h1, h2, n, h3⟩ := (show ObjOk X.prog X.w H s.heap a (.tup vs) from I.hok a _ h)
    obtain ⟨oc, od, dt, sl⟩ := o
    simp only at h2 h3
    subst h2 h3
    exact ⟨_, od, n, sl, h1, rv⟩
  · obtain ⟨_, _, its, rv, o, h1, h2, n, h3⟩ := (show ObjOk X.prog X.w H s.heap a (.frz ob (.tup vs)) from I.hok a _ h)
    obtain ⟨oc, od, dt, sl⟩ := o
    simp only at h2 h3
    subst h2 h3
    exact ⟨_, od, n, sl, h1, rv⟩
  · obtain ⟨oc, od, dt, sl⟩ := o
    cases (show oc = _ from h2)
    cases (show dt = _ from h3)
    exact ⟨its.toList, od, n, sl, by simpa using I.kIn _ _ h1, rv⟩
def rIsiS (K : PySem.W.Frag) : List V → Hp → VK → Prop := fun xs H Q => ∃ (x : V) (tp : Addr) (cs : List V) (t : Value) (us : List Value) (b : Bool), xs = [x, .ref tp] ∧ SqT K H tp cs ∧ Paired ClsV cs us ∧ TyX K H x t ∧ PySem.W.kitAny K t us = some b ∧ Q (.bl b) H
theorem call_isiS {X : Cx} : CallR X (.builtin "isinstance") (rIsiS X.K) := by
  intro pins s σ H xs us Q I r h
  obtain ⟨x, tp, cs, t, ws, b, rfl, hT, k, ty, e, q⟩ := h
  obtain ⟨u1, u2, rfl, r1, r2⟩ := vals2 r
  cases (show u2 = Value.ref tp from r2)
  obtain ⟨P, Z, p, hx⟩ := kit_of I r1 ty
  obtain ⟨its, od, n, sl, h1, rv⟩ := sqT_heap I hT
  have e3 := ClsV.all k rv
  subst e3
  exact PySem.W.kia_tup Z I.kIn p h1 e hx fun tk => ⟨.bl b, H, I.tok tk, rfl, q⟩
def isiTD (d : D) : List D → Option Bool
  | [] => some false
  | .ty n :: r => match isiD d n, isiTD d r with
    | some a, some b => some (a || b)
    | _, _ => none
  | _ => none
def rdIsiTp : RDC := fun ds S Q => match ds with
  | [d, .tup ts] => match isiTD d ts with
    | some b => (tyD d).isSome = true ∧ Q (.bl b) S
    | none => False
  | _ => False
theorem isiT_kit {K : PySem.W.Frag} {H : Hp} {S : Sd} {d : D} {t : String} (e0 : tyD d = some t) : ∀ (ts : List D) (vs : List V) (b : Bool), RpL K H S ts vs → isiTD d ts = some b → ∃ us, Paired ClsV vs us ∧ PySem.W.kitAny K (.type t) us = some b
  | [], vs, b, r, e => by
    cases (show vs = [] from r)
    cases e
    exact ⟨[], .nil, kitAny_nil⟩
  | x :: r, vs, b, rr, e => by
    obtain ⟨v, w, rfl, r1, r2⟩ := rr
    cases x with
    | ty n =>
      have e1 : v = .ty n := r1
      subst e1
      unfold isiTD at e
      cases e2 : isiD d n with
      | none => rw [e2] at e; cases e
      | some c =>
        have e3 : kitB t n = some c := by
          unfold isiD at e2
          rw [e0] at e2
          exact e2
        rw [e2] at e
        cases e4 : isiTD d r with
        | none => rw [e4] at e; cases e
        | some c2 =>
          rw [e4] at e
          cases e
          obtain ⟨us, p, k⟩ := isiT_kit e0 r w c2 r2 e4
          exact ⟨.type n :: us, .cons (.ty n) p, kitAny_cons (kit_ty e3) (fun h => by rw [h, Bool.false_or]; exact k) (fun h => by rw [h]; rfl)⟩
    | _ => cases e
theorem cd_isiTp {X : Cx} : CallD X (.builtin "isinstance") rdIsiTp := ⟨_, call_isiS, fun H S fr σd σ xs ds Qv Qd ok r h k => by
  match ds, h with
  | [d, .tup ts], h =>
    obtain ⟨v, w, rfl, r1, r2⟩ := rpL2 r
    obtain ⟨p, vs, rfl, hq, r3⟩ := r2
    have h : (match isiTD d ts with | some b => (tyD d).isSome = true ∧ Qd (.bl b) S | none => False) := h
    cases e : isiTD d ts with
    | none => rw [e] at h; exact h.elim
    | some b =>
      rw [e] at h
      obtain ⟨t, et⟩ := Option.isSome_iff_exists.mp h.1
      obtain ⟨us, pr, kk⟩ := isiT_kit et ts vs b r3 e
      exact ⟨v, p, vs, .type t, us, b, rfl, hq, pr, isi_ty ok.rel r1 et, kk, k _ (.bl b) H S ok rfl h.2⟩⟩
section
variable {S : Sd} {Q : DK}
theorem x_isi3_non : rdIsiTp [.non, .tup [.ty "str", .ty "tuple", .ty "list"]] S Q = Q (.bl false) S := by unfold rdIsiTp isiTD isiTD isiTD isiTD; simp only [isi_non_str, isi_non_tuple, isi_non_list]; simp [tyD]
theorem x_isi3_bl {b : Bool} : rdIsiTp [.bl b, .tup [.ty "str", .ty "tuple", .ty "list"]] S Q = Q (.bl false) S := by unfold rdIsiTp isiTD isiTD isiTD isiTD; simp only [isi_bl_str, isi_bl_tuple, isi_bl_list]; simp [tyD]
theorem x_isi3_str {b : Str} : rdIsiTp [.str b, .tup [.ty "str", .ty "tuple", .ty "list"]] S Q = Q (.bl true) S := by unfold rdIsiTp isiTD isiTD isiTD isiTD; simp only [isi_str_str, isi_str_tuple, isi_str_list]; simp [tyD]
theorem x_isi3_tup {b : List D} : rdIsiTp [.tup b, .tup [.ty "str", .ty "tuple", .ty "list"]] S Q = Q (.bl true) S := by unfold rdIsiTp isiTD isiTD isiTD isiTD; simp only [isi_tup_str, isi_tup_tuple, isi_tup_list]; simp [tyD]
theorem x_isi3_lst {b : List D} : rdIsiTp [.lst b, .tup [.ty "str", .ty "tuple", .ty "list"]] S Q = Q (.bl true) S := by unfold rdIsiTp isiTD isiTD isiTD isiTD; simp only [isi_lst_str, isi_lst_tuple, isi_lst_list]; simp [tyD]
end
end Dv

/-! set(list) of different values of any one kind -/
namespace Hx
open PySem PySem.Spec PyProof.Rows L2
section
variable {P : Program} {w : World} {B : Around} {Rz : Result → Shared → Prop} {it : Addr} {fp wr : List Addr} {Gz : Array GenState → Array GenState → Prop} {n : Nat} {Pv : Nat → Value → Prop} {Sv : Nat → Shared → Prop}
end
section
variable {P : Program} {w : World} {B : Around} {E : Value → Shared → Prop} {s : Shared}
end
end Hx

/-! Readings by value: sorted(set(tuples of ints)), len(set(ints)), len(set(texts)). -/
namespace Dv
open PySem L2 PyProof.Rows Hx
section
variable {X : Cx} {W : Wi} {e : Expr} {te : TED} {p p2 q pos : Pos}
end
end Dv

/-! sum of a tuple of ints -/
namespace Hx
open PySem PySem.Spec PyProof.Rows L2
section
variable {P : Program} {w : World} {B : Around} {E : Value → Shared → Prop} {s : Shared}
end
end Hx

/-! Readings by value: sum of a tuple of ints. -/
namespace Dv
open PySem L2 PyProof.Rows Hx
end Dv

/-! Readings by value, z: urns, draws, small data, words. -/
namespace Dv
open PySem L2 PyProof.Rows
theorem mulOk {a b : Int} (m n : Nat) (ha : a.natAbs < 2 ^ m) (hb : b.natAbs < 2 ^ n) (h0 : 0 < m) (h1 : 0 < n) (h : m + n ≤ 1000000) : a.natAbs.log2 + b.natAbs.log2 < 1000000 := by
  have x := log2_lt ha h0
  have y := log2_lt hb h1
  omega
theorem powOk {a : Int} (m : Nat) (j : Int) (ha : a.natAbs < 2 ^ m) (h0 : 0 < m) (hj : 0 ≤ j) (h : (m : Int) * j ≤ 134217728) : 0 ≤ j ∧ ((a.natAbs.log2 : Int) + 1) * j ≤ 134217728 := by
  have x := log2_lt ha h0
  refine ⟨hj, Int.le_trans (Int.mul_le_mul_of_nonneg_right ?_ hj) h⟩
  omega
theorem fmod_in {a b : Int} (h : 0 < b) : 0 ≤ a.fmod b ∧ a.fmod b < b := by
  rw [Int.fmod_eq_emod_of_nonneg a (Int.le_of_lt h)]
  exact ⟨Int.emod_nonneg a (by omega), Int.emod_lt_of_pos a h⟩
theorem abs_lt_of {a : Int} {n : Nat} (h0 : 0 ≤ a) (h1 : a < 2 ^ n) : a.natAbs < 2 ^ n := by
  have e : ((2 ^ n : Nat) : Int) = 2 ^ n := by simp
  omega
def primes : List D := [.int 2147483647, .int 2147483629, .int 2147483587, .int 2147483579, .int 2147483563, .int 2147483549, .int 2147483543]
theorem primes_at {k : Int} (h0 : 0 ≤ k) (h1 : k < 7) : ∃ p, atI primes k = some (.int p) ∧ 2147483543 ≤ p ∧ p < 2147483648 := by
  have c : k = 0 ∨ k = 1 ∨ k = 2 ∨ k = 3 ∨ k = 4 ∨ k = 5 ∨ k = 6 := by omega
  rcases c with rfl | rfl | rfl | rfl | rfl | rfl | rfl
  · exact ⟨2147483647, atI_nat (j := 0) rfl, by decide, by decide⟩
  · exact ⟨2147483629, atI_nat (j := 1) rfl, by decide, by decide⟩
  · exact ⟨2147483587, atI_nat (j := 2) rfl, by decide, by decide⟩
  · exact ⟨2147483579, atI_nat (j := 3) rfl, by decide, by decide⟩
  · exact ⟨2147483563, atI_nat (j := 4) rfl, by decide, by decide⟩
  · exact ⟨2147483549, atI_nat (j := 5) rfl, by decide, by decide⟩
  · exact ⟨2147483543, atI_nat (j := 6) rfl, by decide, by decide⟩
theorem ixN_0 {n : Nat} (h : 0 < n) : ixN n 0 = some 0 := ixN_nat h
theorem ixN_2 {n : Nat} (h : 2 < n) : ixN n 2 = some 2 := ixN_nat h
/-! ### small data -/
def isWh : D → Bool
  | .int _ => true
  | _ => false
theorem isWh_int {d : D} (h : isWh d = true) : ∃ i, d = .int i := by
  cases d <;> first | exact ⟨_, rfl⟩ | exact absurd (show false = true from h) Bool.false_ne_true
mutual
/-- ints below 2 ^ n, texts of at most 100000 signs -/
def sm (n : Nat) : D → Bool
  | .int i => decide (i.natAbs < 2 ^ n)
  | .str z => decide (z.length ≤ 100000)
  | .non => true | .bl _ => true
  | .tup ds => smL n ds
  | .lst ds => smL n ds
  | _ => false
def smL (n : Nat) : List D → Bool
  | [] => true
  | d :: ds => sm n d && smL n ds
end
theorem smL_iff {n : Nat} : ∀ {ds : List D}, smL n ds = true ↔ ∀ d ∈ ds, sm n d = true
  | [] => by simp [smL]
  | d :: ds => by
    have ih := smL_iff (n := n) (ds := ds)
    simp only [smL, Bool.and_eq_true, List.mem_cons, ih]
    constructor
    · rintro ⟨h1, h2⟩ x (rfl | hx)
      · exact h1
      · exact h2 x hx
    · intro h
      exact ⟨h d (.inl rfl), fun x hx => h x (.inr hx)⟩
mutual
theorem sm_data {n : Nat} : ∀ {d : D}, sm n d = true → isData d = true
  | .int _, _ => rfl
  | .non, _ => rfl
  | .bl _, _ => rfl
  | .str _, _ => rfl
  | .tup ds, h => smL_data (ds := ds) h
  | .lst ds, h => smL_data (ds := ds) h
  | .tupX _, h => absurd (show false = true from h) Bool.false_ne_true
  | .inst _ _ _, h => absurd (show false = true from h) Bool.false_ne_true
  | .obj _, h => absurd (show false = true from h) Bool.false_ne_true
  | .ty _, h => absurd (show false = true from h) Bool.false_ne_true
theorem smL_data {n : Nat} : ∀ {ds : List D}, smL n ds = true → isDataL ds = true
  | [], _ => rfl
  | d :: ds, h => by
    have h' := Bool.and_eq_true_iff.mp (show (sm n d && smL n ds) = true from h)
    show (isData d && isDataL ds) = true
    rw [sm_data h'.1, smL_data h'.2]
    rfl
end
theorem sm_int {n : Nat} {i : Int} : sm n (.int i) = true ↔ i.natAbs < 2 ^ n := by simp [sm]
theorem sm_str {n : Nat} {z : Str} : sm n (.str z) = true ↔ z.length ≤ 100000 := by simp [sm]
mutual
theorem sm_mono {n m : Nat} (h : n ≤ m) : ∀ {d : D}, sm n d = true → sm m d = true
  | .int _, k => sm_int.mpr (Nat.lt_of_lt_of_le (sm_int.mp k) (Nat.pow_le_pow_right (by decide) h))
  | .str _, k => sm_str.mpr (sm_str.mp k)
  | .non, _ => rfl
  | .bl _, _ => rfl
  | .tup ds, k => smL_mono h (ds := ds) k
  | .lst ds, k => smL_mono h (ds := ds) k
  | .tupX _, h => absurd (show false = true from h) Bool.false_ne_true
  | .inst _ _ _, h => absurd (show false = true from h) Bool.false_ne_true
  | .obj _, h => absurd (show false = true from h) Bool.false_ne_true
  | .ty _, h => absurd (show false = true from h) Bool.false_ne_true
theorem smL_mono {n m : Nat} (h : n ≤ m) : ∀ {ds : List D}, smL n ds = true → smL m ds = true
  | [], _ => rfl
  | d :: ds, k => by
    have k' := Bool.and_eq_true_iff.mp (show (sm n d && smL n ds) = true from k)
    show (sm m d && smL m ds) = true
    rw [sm_mono h k'.1, smL_mono h k'.2]
    rfl
end
theorem smT {n : Nat} {ds : List D} : sm n (.tup ds) = true ↔ ∀ d ∈ ds, sm n d = true := smL_iff
theorem smLs {n : Nat} {ds : List D} : sm n (.lst ds) = true ↔ ∀ d ∈ ds, sm n d = true := smL_iff
/-! ### urns -/
def Urn (S : Sd) (u : Addr) (B : Int) : Prop := ∃ g c n, S u = some (.lst [.int g, .int c, .int n]) ∧ 0 ≤ g ∧ 0 ≤ c ∧ c < 2 ^ 70 ∧ 0 ≤ n ∧ n ≤ B
def Oth (S S' : Sd) (u : Addr) : Prop := ∀ a, a ≠ u → S' a = S a
theorem Oth.trans {S S1 S2 : Sd} {u : Addr} (h : Oth S S1 u) (k : Oth S1 S2 u) : Oth S S2 u := fun a ha => (k a ha).trans (h a ha)
theorem Oth.refl {S : Sd} {u : Addr} : Oth S S u := fun _ _ => rfl
theorem Urn.mono {S : Sd} {u : Addr} {B B' : Int} (h : Urn S u B) (hb : B ≤ B') : Urn S u B' := by
  obtain ⟨g, c, n, e, g0, c0, c1, n0, n1⟩ := h
  exact ⟨g, c, n, e, g0, c0, c1, n0, Int.le_trans n1 hb⟩
theorem Urn.oth {S S' : Sd} {p u : Addr} {B : Int} (h : Urn S u B) (ho : ∀ a, a ≠ p → S' a = S a) (hne : u ≠ p) : Urn S' u B := by
  obtain ⟨g, c, n, e, k⟩ := h
  exact ⟨g, c, n, (ho u hne).trans e, k⟩
theorem Urn.ne {S : Sd} {p u : Addr} {B : Int} (h : Urn S u B) (hp : S p = none) : u ≠ p := fun e => by
  obtain ⟨g, c, n, e2, _⟩ := h
  rw [e, hp] at e2
  cases e2
theorem Urn.up {S : Sd} {p u : Addr} {B : Int} {o : SO} (h : Urn S u B) (hne : u ≠ p) : Urn (upS S p o) u B := h.oth (fun a ha => upS_ne ha) hne
theorem Urn.del {S : Sd} {p u : Addr} {B : Int} (h : Urn S u B) (hne : u ≠ p) : Urn (del S p) u B := h.oth (fun a ha => del_ne ha) hne
theorem Oth.del {S S' : Sd} {p u : Addr} (h : ∀ a, a ≠ u → a ≠ p → S' a = S a) (hp : S p = none) : Oth S (del S' p) u := fun a ha => by
  by_cases e : a = p
  · rw [e, del_same, hp]
  · rw [del_ne e, h a ha e]
/-! ### parts -/
theorem app_toList (x y : Str) : (x ++ y).cps.toList = x.cps.toList ++ y.cps.toList := by
  show (x.cps ++ y.cps).toList = _
  simp
theorem sIx_lo {n : Nat} {i : Int} (h0 : 0 ≤ i) (h1 : i ≤ n) (b : Nat) : HT.sIx n b (some i) = i.toNat := by
  obtain ⟨k, rfl⟩ := Int.eq_ofNat_of_zero_le h0
  rw [HT.sIx_nat]
  show min k n = k
  omega
theorem cutS_take {l : List Nat} {i : Int} (h0 : 0 ≤ i) (h1 : i ≤ l.length) : cutS (ofL l) none (some i) = ofL (l.take i.toNat) := by
  refine str_ext ?_
  show (((ofL l).cps.toList.drop (HT.sIx (ofL l).length 0 none)).take (HT.sIx (ofL l).length (ofL l).length (some i) - HT.sIx (ofL l).length 0 none)) = _
  rw [ofL_len, sIx_lo h0 h1]
  show (l.drop 0).take (i.toNat - 0) = _
  rfl
theorem cutS_drop {l : List Nat} {i : Int} (h0 : 0 ≤ i) (h1 : i ≤ l.length) : cutS (ofL l) (some i) none = ofL (l.drop i.toNat) := by
  refine str_ext ?_
  show (((ofL l).cps.toList.drop (HT.sIx (ofL l).length 0 (some i))).take (HT.sIx (ofL l).length (ofL l).length none - HT.sIx (ofL l).length 0 (some i))) = _
  rw [ofL_len, sIx_lo h0 h1]
  show (l.drop i.toNat).take (l.length - i.toNat) = _
  rw [List.take_of_length_le (by rw [List.length_drop]; omega)]
  rfl
/-! ### words: a is 97, b is 98 -/
def isAB (l : List Nat) : Bool := l.all fun c => decide (c = 97 ∨ c = 98)
theorem isAB_iff {l : List Nat} : isAB l = true ↔ ∀ c ∈ l, c = 97 ∨ c = 98 := by simp [isAB]
/-- the even word of b signs b among n -/
def evF (b n : Nat) : List Nat := (List.range n).map fun k => if (k + 1) * b / n = k * b / n then 97 else 98
theorem evF_len (b n : Nat) : (evF b n).length = n := by unfold evF; rw [List.length_map, List.length_range]
theorem evF_ab (b n : Nat) : isAB (evF b n) = true := isAB_iff.mpr fun c hc => by
  unfold evF at hc
  obtain ⟨k, _, rfl⟩ := List.mem_map.mp hc
  split
  · exact .inl rfl
  · exact .inr rfl
/-- the next step of a floor -/
theorem floor_step {b n k : Nat} (hb : b ≤ n) (hn : 0 < n) : (k + 1) * b / n = (if k * b % n + b < n then k * b / n else k * b / n + 1) ∧ (k + 1) * b % n = (if k * b % n + b < n then k * b % n + b else k * b % n + b - n) := by
  rw [Nat.succ_mul]
  generalize k * b = w
  have h1 := Nat.div_add_mod w n
  have h2 := Nat.mod_lt w hn
  generalize w / n = q at h1 ⊢
  generalize w % n = r at h1 h2 ⊢
  subst h1
  rw [Nat.add_assoc]
  split
  · rename_i h
    rw [Nat.mul_add_div hn, Nat.mul_add_mod, Nat.div_eq_of_lt h, Nat.mod_eq_of_lt h]
    exact ⟨rfl, rfl⟩
  · rename_i h
    have e2 : n * q + (r + b) = n * (q + 1) + (r + b - n) := by rw [Nat.mul_succ]; omega
    rw [e2, Nat.mul_add_div hn, Nat.mul_add_mod, Nat.div_eq_of_lt (by omega), Nat.mod_eq_of_lt (by omega)]
    exact ⟨rfl, rfl⟩
theorem count_eq (z : Str) (c : Nat) : Txt.count z ⟨#[c]⟩ = (z.cps.toList.count c : Nat) := by
  rw [PyProof.Rows.count_cnt]
  induction z.cps.toList with
  | nil => rfl
  | cons d r ih =>
    rw [PyProof.Rows.cnt_cons, ih, List.count_cons]
    by_cases h : d = c
    · subst h; simp; omega
    · have : (d == c) = false := by simpa using h
      simp [h, this]
theorem str_b : (Str.ofString "b") = ⟨#[98]⟩ := by decide +kernel
theorem str_a : (Str.ofString "a") = ⟨#[97]⟩ := by decide +kernel
theorem count_b (l : List Nat) : Txt.count (ofL l) "b" = (l.count 98 : Nat) := count_eq _ _
/-! ### of the functions that many laws share -/
def isWordD : D → Bool
  | .str z => decide (1 ≤ z.length ∧ z.length ≤ 60) && isAB z.cps.toList
  | _ => false
/-- a text's signs, held against a and b -/
def abD : D → D
  | .str z => .bl (isAB z.cps.toList)
  | _ => .non
theorem ab_cps : (Str.ofString "ab").cps.toList = [97, 98] := by decide +kernel
theorem abD_comp {i : Nat} {te : TED} {vs : List Nat} {σ : Si} {S : Sd} {Q : DK} {z : Str} (hte : ∀ c S' (Q' : DK), Q' (.bl (decide (c ∈ [97, 98]))) S' → te ((wipeD σ vs).set i (some (.str ⟨#[c]⟩))) S' Q') (hl : z.length ≤ 100000)
    (ti : TID) (hti : ∀ R : List D → Sd → Prop, R (sgD z) S → ti σ S R) (q : Q (.bl (isAB z.cps.toList)) S) : dComp ti (dName i) dYes te vs σ S fun x S1 => rdAll [x] S1 Q := by
  refine comp_pure abD (sgD z) S hti (fun x hx S' Q' q' => ?_) (by unfold sgD; rw [List.length_map]; show z.cps.toList.length ≤ _; rw [← x_len_strL]; omega) ?_
  · obtain ⟨c, _, rfl⟩ := List.mem_map.mp hx
    refine hte c S' Q' ?_
    have e : abD (.str ⟨#[c]⟩) = .bl (decide (c ∈ [97, 98])) := by
      show D.bl (isAB [c]) = _
      simp [isAB]
    rw [← e]; exact q'
  · refine x_allb (bs := z.cps.toList.map fun c => isAB [c]) ?_ ?_
    · unfold sgD
      rw [List.map_map, List.map_map]
      rfl
    · have e : (z.cps.toList.map fun c => isAB [c]).all id = isAB z.cps.toList := by
        rw [List.all_map]
        unfold isAB
        congr 1
        funext c
        simp
      rw [e]; exact q
/-- the letter at a place counted from 1 -/
def evD (b n : Nat) : D → D
  | .int i => .str ⟨#[if i.toNat * b / n = (i.toNat - 1) * b / n then 97 else 98]⟩
  | _ => .non
theorem evD_map (b n m : Nat) : (rgD 1 m).map (evD b n) = ((List.range m).map fun k => (⟨#[if (k + 1) * b / n = k * b / n then 97 else 98]⟩ : Str)).map D.str := by
  unfold rgD
  rw [List.map_map, List.map_map]
  refine List.map_congr_left fun k _ => ?_
  show D.str ⟨#[if (1 + (k : Int)).toNat * b / n = ((1 + (k : Int)).toNat - 1) * b / n then 97 else 98]⟩ = _
  rw [show (1 + (k : Int)).toNat = k + 1 by omega]
  rfl
theorem sum_ones {α : Type} (f : α → Str) (h : ∀ a, (f a).length = 1) (l : List α) : ((l.map f).map (·.length)).sum = l.length := by
  induction l with
  | nil => rfl
  | cons a r ih => rw [List.map_cons, List.map_cons, List.sum_cons, ih, h, List.length_cons]; omega
def isStepL (l : List Nat) : Bool := decide (Nat.gcd (l.count 98) l.length = 1) && decide (l = evF (l.count 98) l.length)
def isStepD : D → Bool
  | .str z => isWordD (.str z) && isStepL z.cps.toList
  | _ => false
theorem isWordD_str {d : D} (h : isWordD d = true) : ∃ l, d = .str (ofL l) ∧ 1 ≤ l.length ∧ l.length ≤ 60 ∧ isAB l = true := by
  cases d with
  | str z =>
    have h' := Bool.and_eq_true_iff.mp (show (decide (1 ≤ z.length ∧ z.length ≤ 60) && isAB z.cps.toList) = true from h)
    have h1 := of_decide_eq_true h'.1
    exact ⟨z.cps.toList, by rw [← ofL_of], by rw [← x_len_strL]; exact h1.1, by rw [← x_len_strL]; exact h1.2, h'.2⟩
  | _ => exact absurd (show false = true from h) Bool.false_ne_true
theorem step_tail {l : List Nat} {k1 k2 : Bool} (h1 : k1 = decide (Nat.gcd (l.count 98) l.length = 1)) (h2 : k2 = decide (l = evF (l.count 98) l.length)) : isStepL l = (k1 && k2) := by
  rw [h1, h2]; rfl
/-- the first letters of an even word -/
def evP (b n i : Nat) : List Nat := (List.range i).map fun k => if (k + 1) * b / n = k * b / n then 97 else 98
theorem evP_len (b n i : Nat) : (evP b n i).length = i := by unfold evP; rw [List.length_map, List.length_range]
theorem evP_succ (b n i : Nat) : evP b n (i + 1) = evP b n i ++ [if (i + 1) * b / n = i * b / n then 97 else 98] := by
  unfold evP
  rw [List.range_succ, List.map_append]
  rfl
theorem ab_cpsL : (Str.ofString "ab").cps.toList = [97, 98] := by decide +kernel
theorem at_nat {ns : List Nat} {k : Int} (h0 : 0 ≤ k) (h1 : k < ns.length) : ∃ n : Nat, atI (ns.map fun (n : Nat) => D.int n) k = some (.int (n : Int)) ∧ n ∈ ns := by
  obtain ⟨d, ed, hd⟩ := atI_some (ds := ns.map fun (n : Nat) => D.int n) h0 (by simpa using h1)
  obtain ⟨n, hn, rfl⟩ := List.mem_map.mp hd
  exact ⟨n, ed, hn⟩
theorem isAB_app {a b : List Nat} (ha : isAB a = true) (hb : isAB b = true) : isAB (a ++ b) = true := isAB_iff.mpr fun c hc => (List.mem_append.mp hc).elim (isAB_iff.mp ha c) (isAB_iff.mp hb c)
/-! ### tables -/
structure M2 where
  p : Int
  q : Int
  r : Int
  s : Int
  deriving DecidableEq
def tbD (m : M2) : D := .tup [.tup [.int m.p, .int m.q], .tup [.int m.r, .int m.s]]
def detM (m : M2) : Int := m.p * m.s - m.q * m.r
/-- sizes -/
def SzM (m : M2) (n : Nat) : Prop := m.p.natAbs < 2 ^ n ∧ m.q.natAbs < 2 ^ n ∧ m.r.natAbs < 2 ^ n ∧ m.s.natAbs < 2 ^ n
theorem SzM.mono {m : M2} {n k : Nat} (h : SzM m n) (hk : n ≤ k) : SzM m k := by
  have := Nat.pow_le_pow_right (n := 2) (by decide) hk
  exact ⟨Nat.lt_of_lt_of_le h.1 this, Nat.lt_of_lt_of_le h.2.1 this, Nat.lt_of_lt_of_le h.2.2.1 this, Nat.lt_of_lt_of_le h.2.2.2 this⟩
theorem sm_tb {n : Nat} {m : M2} : sm n (tbD m) = true ↔ SzM m n := by
  unfold tbD SzM
  simp only [sm, smL, Bool.and_eq_true, decide_eq_true_eq, and_true, and_assoc]
/-- what is a table, a turning -/
def isPairD : D → Bool
  | .tup [_, _] => true
  | _ => false
def isTabD : D → Bool
  | .tup [.tup [.int _, .int _], .tup [.int _, .int _]] => true
  | _ => false
theorem isTabD_of {d : D} (h : isTabD d = true) : ∃ m, d = tbD m := by
  unfold isTabD at h
  split at h
  · exact ⟨⟨_, _, _, _⟩, rfl⟩
  · cases h
def isTurnD : D → Bool
  | .tup [.tup [.int p, .int q], .tup [.int r, .int s]] => decide ((p * s - q * r).natAbs = 1)
  | _ => false
theorem isTurnD_tb {m : M2} : isTurnD (tbD m) = decide ((detM m).natAbs = 1) := rfl
/-! ### == of data with itself -/
mutual
theorem deq_refl : ∀ {d : D}, isData d = true → deq d d = true
  | .int i, _ => beq_self_eq_true i
  | .non, _ => rfl
  | .bl b, _ => beq_self_eq_true b
  | .str z, _ => beq_self_eq_true z
  | .tup ds, h => deqL_refl (ds := ds) h
  | .lst ds, h => deqL_refl (ds := ds) h
  | .tupX _, h => absurd (show false = true from h) Bool.false_ne_true
  | .inst _ _ _, h => absurd (show false = true from h) Bool.false_ne_true
  | .obj _, h => absurd (show false = true from h) Bool.false_ne_true
  | .ty _, h => absurd (show false = true from h) Bool.false_ne_true
  | .exc _ _ _ _, h => absurd (show false = true from h) Bool.false_ne_true
theorem deqL_refl : ∀ {ds : List D}, isDataL ds = true → deqL ds ds = true
  | [], _ => rfl
  | d :: ds, h => by
    have h' := Bool.and_eq_true_iff.mp (show (isData d && isDataL ds) = true from h)
    show (deq d d && deqL ds ds) = true
    rw [deq_refl h'.1, deqL_refl h'.2]
    rfl
end
theorem eqOk_data {d : D} (h : eqOk d = true) : isData d = true := (Bool.and_eq_true_iff.mp h).1
theorem x_eq_self {d : D} {S : Sd} {Q : DK} (h : eqOk d = true) (q : Q (.bl true) S) : rdEq d d S Q := by
  have e := deq_refl (eqOk_data h)
  cases d with
  | int i => exact (show Q (.bl (decide (i = i))) S from by rw [decide_eq_true rfl]; exact q)
  | str i => exact (show Q (.bl (decide (i = i))) S from by rw [decide_eq_true rfl]; exact q)
  | bl i => exact (show Q (.bl (decide (i = i))) S from by rw [decide_eq_true rfl]; exact q)
  | _ => exact ⟨⟨h, h⟩, by rw [e]; exact q⟩
/-- may be held against others, so many deep -/
def okD_ (k : Nat) (d : D) : Bool := isData d && ((pd d).canLay0 && decide ((pd d).depth ≤ k))
theorem okD_eqOk {k : Nat} {d : D} (h : okD_ k d = true) (hk : k ≤ 64) : eqOk d = true := by
  have h1 := Bool.and_eq_true_iff.mp h
  have h2 := Bool.and_eq_true_iff.mp h1.2
  have h3 := of_decide_eq_true h2.2
  show (isData d && ((pd d).canLay0 && decide ((pd d).depth ≤ 64))) = true
  rw [h1.1, h2.1, decide_eq_true (Nat.le_trans h3 hk)]
  rfl
theorem okD_list {k : Nat} : ∀ {ds : List D}, (∀ d ∈ ds, okD_ k d = true) → isDataL ds = true ∧ PyData.canLayAll0 (pdL ds) = true ∧ PyData.depthAll (pdL ds) ≤ k
  | [], _ => ⟨rfl, rfl, Nat.zero_le _⟩
  | d :: ds, h => by
    obtain ⟨i1, i2, i3⟩ := okD_list (ds := ds) fun x hx => h x (List.mem_cons_of_mem _ hx)
    have h1 := Bool.and_eq_true_iff.mp (h d (.head _))
    have h2 := Bool.and_eq_true_iff.mp h1.2
    have h3 := of_decide_eq_true h2.2
    refine ⟨?_, ?_, ?_⟩
    · show (isData d && isDataL ds) = true
      rw [h1.1, i1]; rfl
    · show ((pd d).canLay0 && PyData.canLayAll0 (pdL ds)) = true
      rw [h2.1, i2]; rfl
    · show max (pd d).depth (PyData.depthAll (pdL ds)) ≤ k
      omega
theorem okD_tup {k : Nat} {ds : List D} (h : ∀ d ∈ ds, okD_ k d = true) : okD_ (k + 1) (.tup ds) = true := by
  obtain ⟨h1, h2, h3⟩ := okD_list h
  show (isDataL ds && (PyData.canLayAll0 (pdL ds) && decide (PyData.depthAll (pdL ds) + 1 ≤ k + 1))) = true
  rw [h1, h2, decide_eq_true (by omega)]
  rfl
theorem okD_int {k : Nat} {i : Int} : okD_ k (.int i) = true := by
  show (true && (true && decide (0 ≤ k))) = true
  rw [decide_eq_true (Nat.zero_le _)]; rfl
theorem okD_str {k : Nat} {z : Str} (h : PyData.strOk z = true) : okD_ k (.str z) = true := by
  show (true && (PyData.strOk z && decide (0 ≤ k))) = true
  rw [h, decide_eq_true (Nat.zero_le _)]; rfl
end Dv

namespace K59
open PySem L2 Dv Hx
abbrev wd (Ed : XKD) : WXD := fun x _ S => Ed x S
abbrev wd0 : WXD := fun _ _ _ => False
theorem turn_of {d : D} (h : isTurnD d = true) : ∃ m, d = tbD m ∧ (detM m).natAbs = 1 := by
  unfold isTurnD at h
  split at h
  · rename_i p q r s
    exact ⟨⟨p, q, r, s⟩, rfl, of_decide_eq_true h⟩
  · cases h

/-! ### a comprehension whose calls want the store to stand -/
/-- what is walked over is drawn -/
theorem comp_draw {ti : TID} {g : TGD} {tt : TTD} {te : TED} {vs : List Nat} {σ : Si} {S : Sd} {Q : DK} (h : ti σ S fun xs S1 => dComp (fun _ _ R => R xs S1) g tt te vs σ S1 Q) : dComp ti g tt te vs σ S Q := h
/-- any target -/
theorem lcL_pureG {g : TGD} {te : TED} {p : Addr} {σw : Si} {S : Sd} (f : D → D) : ∀ (xs acc : List D) (Q : List D → Sd → Prop), (∀ x ∈ xs, ∀ S' (Q' : DK), Q' (f x) S' → g x σw S' fun σ2 S2 => te σ2 S2 Q') → acc.length + xs.length ≤ 16777216 →
    Q (acc ++ xs.map f) (upS S p (.lst (acc ++ xs.map f))) → dLcL g dYes te p σw xs acc (upS S p (.lst acc)) Q
  | [], acc, Q, _, _, q => by
    rw [List.map_nil, List.append_nil] at q
    exact q
  | x :: r, acc, Q, h, hl, q => by
    rw [List.length_cons] at hl
    refine h x List.mem_cons_self _ (fun y S4 => S4 p = some (.lst acc) ∧ acc.length < 16777216 ∧ dLcL g dYes te p σw r (acc ++ [y]) (upS S4 p (.lst (acc ++ [y]))) Q) ⟨upS_same, by omega, ?_⟩
    rw [upS_upS]
    refine lcL_pureG f r (acc ++ [f x]) Q (fun y hy => h y (List.mem_cons_of_mem _ hy)) (by rw [List.length_append, List.length_singleton]; omega) ?_
    rw [List.append_assoc]
    exact q
theorem comp_pureG {ti : TID} {g : TGD} {te : TED} {vs : List Nat} {σ : Si} {S : Sd} {Q : DK} (f : D → D) (xs : List D) (S1 : Sd) (hti : ∀ R : List D → Sd → Prop, R xs S1 → ti σ S R) (h : ∀ x ∈ xs, ∀ S' (Q' : DK), Q' (f x) S' → g x (wipeD σ vs) S' fun σ2 S2 => te σ2 S2 Q') (hl : xs.length ≤ 16777216)
    (q : Q (.lst (xs.map f)) S1) : dComp ti g dYes te vs σ S Q := hti _ fun p hp => by
  refine lcL_pureG f xs [] _ h (by simpa using hl) ⟨upS_same, ?_⟩
  rw [del_upS hp]
  exact q
/-! ### what stands behind two statements -/
/-! ### squares -/
open Classical in
noncomputable def isSqB (n : Int) : Bool := decide (∃ y : Int, 0 ≤ y ∧ y * y = n)
theorem isSqB_true {n y : Int} (y0 : 0 ≤ y) (h : y * y = n) : isSqB n = true := by
  unfold isSqB
  simp only [decide_eq_true_eq]
  exact ⟨y, y0, h⟩
theorem isSqB_false {n : Int} (h : ∀ y : Int, 0 ≤ y → y * y ≠ n) : isSqB n = false := by
  unfold isSqB
  simp only [decide_eq_false_iff_not]
  exact fun ⟨y, y0, e⟩ => h y y0 e
theorem sq_between {n r : Int} (r0 : 0 ≤ r) (h1 : r * r < n) (h2 : n < (r + 1) * (r + 1)) (y : Int) (y0 : 0 ≤ y) : y * y ≠ n := fun e => by
  rcases Int.lt_or_le r y with c | c
  · have : (r + 1) * (r + 1) ≤ y * y := Int.mul_le_mul c c (by omega) (by omega)
    omega
  · have : y * y ≤ r * r := Int.mul_le_mul c c y0 r0
    omega
theorem root_one {x y z : Int} (y0 : 0 ≤ y) (z0 : 0 ≤ z) (h1 : y * y ≤ x) (h2 : x < (y + 1) * (y + 1)) (g1 : z * z ≤ x) (g2 : x < (z + 1) * (z + 1)) : y = z := by
  have key : ∀ {y z : Int}, 0 ≤ y → 0 ≤ z → x < (y + 1) * (y + 1) → z * z ≤ x → z ≤ y := fun {y z} y0 z0 h g => by
    rcases Int.lt_or_le y z with c | c
    · have : (y + 1) * (y + 1) ≤ z * z := Int.mul_le_mul c c (by omega) (by omega)
      omega
    · exact c
  exact Int.le_antisymm (key z0 y0 g2 h1) (key y0 z0 h2 g1)
theorem root_ex : ∀ x : Nat, ∃ r : Nat, r * r ≤ x ∧ x < (r + 1) * (r + 1)
  | 0 => ⟨0, by decide, by decide⟩
  | x + 1 => by
    obtain ⟨r, h1, h2⟩ := root_ex x
    by_cases c : x + 1 < (r + 1) * (r + 1)
    · exact ⟨r, by omega, c⟩
    · exact ⟨r + 1, by omega, by
        have e : (r + 1 + 1) * (r + 1 + 1) = (r + 1) * (r + 1) + 2 * (r + 1) + 1 := by grind
        omega⟩
/-- Heron's step never falls below the root -/
theorem heron_le {x s r : Int} (s1 : 1 ≤ s) (r0 : 0 ≤ r) (h : r * r ≤ x) : r ≤ (s + x / s) / 2 := by
  have h1 : x / s * s ≤ x := Int.ediv_mul_le x (by omega)
  have h2 : x < (x / s + 1) * s := Int.lt_ediv_add_one_mul_self x (by omega)
  generalize x / s = q at *
  have h3 : 2 * r ≤ s + q := by
    rcases Int.lt_or_le (s + q) (2 * r) with c | c
    · exfalso
      have e1 : q + 1 ≤ 2 * r - s := by omega
      have e2 : (q + 1) * s ≤ (2 * r - s) * s := Int.mul_le_mul_of_nonneg_right e1 (by omega)
      have e3 : 0 ≤ (r - s) * (r - s) := by
        rcases Int.le_total 0 (r - s) with c | c
        · exact Int.mul_nonneg c c
        · have := Int.mul_nonneg (a := -(r - s)) (b := -(r - s)) (by omega) (by omega)
          grind
      have e4 : (2 * r - s) * s = r * r - (r - s) * (r - s) := by grind
      omega
    · exact c
  omega
theorem heron_stop {x s : Int} (s1 : 1 ≤ s) (h : s ≤ (s + x / s) / 2) : s * s ≤ x := by
  have h1 : x / s * s ≤ x := Int.ediv_mul_le x (by omega)
  generalize x / s = q at *
  have e : s ≤ q := by omega
  have : s * s ≤ q * s := Int.mul_le_mul_of_nonneg_right e (by omega)
  omega
/-! ### parts -/
/-- four parts of a number, small enough -/
structure RtI (n : Nat) (T O q B : Int) : Prop where
  bT : T.natAbs < 2 ^ n
  bO : O.natAbs < 2 ^ n
  bq : q.natAbs < 2 ^ n
  bB : B.natAbs < 2 ^ n
  q2 : 2 ≤ q
  sq : isSqB q = false
  B1 : 1 ≤ B
theorem RtI.mono {n m : Nat} {T O q B : Int} (h : RtI n T O q B) (k : n ≤ m) : RtI m T O q B := by
  have p : (2 : Nat) ^ n ≤ 2 ^ m := Nat.pow_le_pow_right (by decide) k
  exact ⟨Nat.lt_of_lt_of_le h.bT p, Nat.lt_of_lt_of_le h.bO p, Nat.lt_of_lt_of_le h.bq p, Nat.lt_of_lt_of_le h.bB p, h.q2, h.sq, h.B1⟩
/-! ### forms -/
def undF (A B C : Int) : Int := B * B - 4 * A * C
noncomputable def okF (A B C : Int) : Bool := decide (1 ≤ undF A B C) && !isSqB (undF A B C)
def valF (A B C x y : Int) : Int := A * (x * x) + B * x * y + C * (y * y)
abbrev tri3 (A B C : Int) : D := .tup [.int A, .int B, .int C]
abbrev fmD (A B C : Int) : D := .inst "Form" ["held", "held_under"] [tri3 A B C, .int (undF A B C)]
def trB (A B C : Int) (m : M2) : Int := 2 * A * m.p * m.q + B * (m.p * m.s + m.q * m.r) + 2 * C * m.r * m.s
theorem und_tr (A B C : Int) (m : M2) : undF (valF A B C m.p m.r) (trB A B C m) (valF A B C m.q m.s) = undF A B C * (detM m * detM m) := by
  unfold undF valF trB detM
  grind
theorem und_tr1 {A B C : Int} {m : M2} (h : (detM m).natAbs = 1) : undF (valF A B C m.p m.r) (trB A B C m) (valF A B C m.q m.s) = undF A B C := by
  rw [und_tr]
  have : detM m * detM m = 1 := by
    have e : detM m = 1 ∨ detM m = -1 := by omega
    rcases e with e | e <;> rw [e] <;> rfl
  rw [this, Int.mul_one]
theorem okF_und {A B C A' B' C' : Int} (h : undF A' B' C' = undF A B C) : okF A' B' C' = okF A B C := by
  unfold okF
  rw [h]
theorem pow3 (n : Nat) : (2 : Nat) ^ (n + 3) = 8 * 2 ^ n := by rw [Nat.pow_add, Nat.mul_comm]
theorem val_sz {A B C x y : Int} {n k : Nat} (hA : A.natAbs < 2 ^ n) (hB : B.natAbs < 2 ^ n) (hC : C.natAbs < 2 ^ n) (hx : x.natAbs < 2 ^ k) (hy : y.natAbs < 2 ^ k) : (valF A B C x y).natAbs < 2 ^ (n + (k + k) + 3) := by
  have h1 := wide_lt hA (wide_lt hx hx)
  have h2 := wide_lt (wide_lt hB hx) hy
  have h3 := wide_lt hC (wide_lt hy hy)
  rw [Nat.add_assoc n k k] at h2
  rw [pow3]
  unfold valF
  omega
theorem trB_sz {A B C : Int} {m : M2} {n k : Nat} (hA : A.natAbs < 2 ^ n) (hB : B.natAbs < 2 ^ n) (hC : C.natAbs < 2 ^ n) (hm : SzM m k) : (trB A B C m).natAbs < 2 ^ (n + (k + k) + 3) := by
  obtain ⟨p, q, r, s⟩ := hm
  have h1 := wide_lt (wide_lt hA p) q
  have h2 := wide_lt hB (wide_lt p s)
  have h3 := wide_lt hB (wide_lt q r)
  have h4 := wide_lt (wide_lt hC r) s
  rw [Nat.add_assoc n k k] at h1 h4
  rw [pow3]
  unfold trB
  have e1 : 2 * A * m.p * m.q = 2 * (A * m.p * m.q) := by grind
  have e2 : 2 * C * m.r * m.s = 2 * (C * m.r * m.s) := by grind
  have e3 : B * (m.p * m.s + m.q * m.r) = B * (m.p * m.s) + B * (m.q * m.r) := by grind
  rw [e1, e2, e3]
  omega
theorem und_sz {A B C : Int} {n : Nat} (hA : A.natAbs < 2 ^ n) (hB : B.natAbs < 2 ^ n) (hC : C.natAbs < 2 ^ n) : (undF A B C).natAbs < 2 ^ (n + n + 3) := by
  have h1 := wide_lt hB hB
  have h2 := wide_lt hA hC
  have e : 4 * A * C = 4 * (A * C) := Int.mul_assoc 4 A C
  rw [pow3]
  unfold undF
  rw [e]
  omega
theorem tbD_inj {a b : M2} (h : tbD a = tbD b) : a = b := by
  cases a; cases b
  simp only [tbD, D.tup.injEq, List.cons.injEq, D.int.injEq, and_true] at h
  obtain ⟨⟨h1, h2⟩, h3, h4⟩ := h
  subst h1 h2 h3 h4
  rfl


abbrev k_LETTERS : D := .str "ab"
abbrev k_MOST_LETTERS : D := .int 60
def ringD (L : List Int) : D := .tup (L.map D.int)
structure T4 where
  p : Int
  q : Int
  r : Int
  s : Int
def t4S (t : T4) (a : Int) : T4 := ⟨t.p * a + t.q, t.p, t.r * a + t.s, t.r⟩
def t4L (L : List Int) : T4 := L.foldl t4S ⟨1, 0, 0, 1⟩
theorem t4_snoc (L : List Int) (a : Int) : t4L (L ++ [a]) = t4S (t4L L) a := by unfold t4L; rw [List.foldl_append]; rfl
structure T4I (t : T4) (n : Nat) : Prop where
  p0 : 0 ≤ t.p
  q0 : 0 ≤ t.q
  r0 : 0 ≤ t.r
  s0 : 0 ≤ t.s
  rs : 1 ≤ t.r + t.s
  p1 : t.p ≤ 2 ^ (20 * n)
  q1 : t.q ≤ 2 ^ (20 * n)
  r1 : t.r ≤ 2 ^ (20 * n)
  s1 : t.s ≤ 2 ^ (20 * n)
theorem t4_up {m x y a : Int} (hx : 0 ≤ x) (x1 : x ≤ m) (y1 : y ≤ m) (ha : 1 ≤ a ∧ a ≤ 999999) : x * a + y ≤ m * 1048576 ∧ x ≤ x * a := by
  have h1 : x * a ≤ x * 999999 := Int.mul_le_mul_of_nonneg_left ha.2 hx
  have h2 : x * 1 ≤ x * a := Int.mul_le_mul_of_nonneg_left ha.1 hx
  omega
theorem T4I.step {t : T4} {n : Nat} (I : T4I t n) {a : Int} (ha : 1 ≤ a ∧ a ≤ 999999) : T4I (t4S t a) (n + 1) := by
  have e : (2 : Int) ^ (20 * (n + 1)) = 2 ^ (20 * n) * 1048576 := by rw [Nat.mul_succ, Int.pow_add]; rfl
  obtain ⟨p0, q0, r0, s0, rs, p1, q1, r1, s1⟩ := I
  have hp := t4_up p0 p1 q1 ha
  have hr := t4_up r0 r1 s1 ha
  generalize (2 : Int) ^ (20 * n) = m at *
  refine ⟨?_, ?_, ?_, ?_, ?_, ?_, ?_, ?_, ?_⟩ <;> (try rw [e]) <;> show _ ≤ _ <;> unfold t4S <;> simp only <;> omega
def upN (t : T4) : Int := (t.p - t.s) * (t.p - t.s) + 4 * t.q * t.r
/-! the tables of rings, turned, told often, turned about -/
/-- what lies between two squares is none -/
theorem no_sq {t y : Int} (t0 : 0 ≤ t) (h : t * t < y * y) (g : y * y < (t + 1) * (t + 1)) : False := by
  have key : ∀ y : Int, 0 ≤ y → t * t < y * y → y * y < (t + 1) * (t + 1) → False := fun y y0 h g => by
    rcases Int.lt_or_le t y with c | c
    · have : (t + 1) * (t + 1) ≤ y * y := Int.mul_le_mul c c (by omega) (by omega)
      omega
    · have : y * y ≤ t * t := Int.mul_le_mul c c (by omega) (by omega)
      omega
  rcases Int.le_total 0 y with c | c
  · exact key y c h g
  · exact key (-y) (by omega) (by rw [Int.neg_mul_neg]; exact h) (by rw [Int.neg_mul_neg]; exact g)
abbrev k_WALL : D := .tup [.int 9, .int 1]
def k_NUMBERS (z : Str) : Option D := if z = "a" then some (.tup [.int 1, .int 1]) else if z = "b" then some (.tup [.int 2, .int 2]) else none
def nuC (c : Nat) : List Int := if c = 97 then [1, 1] else [2, 2]
def nuL (l : List Nat) : List Int := (l.map nuC).flatten
theorem nuC_len (c : Nat) : (nuC c).length = 2 := by unfold nuC; split <;> rfl
theorem nuL_len (l : List Nat) : (nuL l).length = 2 * l.length := by
  unfold nuL
  induction l with
  | nil => rfl
  | cons c l ih => rw [List.map_cons, List.flatten_cons, List.length_append, ih, nuC_len, List.length_cons]; omega
theorem nuL_snoc (l : List Nat) (c : Nat) : nuL (l ++ [c]) = nuL l ++ nuC c := by unfold nuL; rw [List.map_append, List.flatten_append]; simp
def nuD (l : List Nat) : D := .tup ((nuL l).map D.int)
theorem nu_flat (l : List Nat) : (l.map fun c => (nuC c).map D.int).flatten = (nuL l).map D.int := by
  unfold nuL
  rw [List.map_flatten, List.map_map]
  rfl
theorem k_num {c : Nat} (h : c = 97 ∨ c = 98) : k_NUMBERS ⟨#[c]⟩ = some (.tup ((nuC c).map D.int)) := by
  rcases h with rfl | rfl
  · unfold k_NUMBERS; rw [str_a, if_pos rfl]; rfl
  · unfold k_NUMBERS; rw [str_a, str_b, if_neg (by decide), if_pos rfl]; rfl

/-! ### texts told often -/
/-! ### the shortest beginning that makes a row; stairs by the fewest numbers -/
/-! ### comprehensions with a test, without a trace -/
/-! ### signs -/
def sgI (x : Int) : Int := (if 0 < x then 1 else 0) - (if x < 0 then 1 else 0)
/-! ### the sign of a sum of two roots -/
/-- the sign of a√P + b√Q + c√R, by squares, the root of R set apart -/
def TT (a P b Q c R : Int) : Int := if 0 ≤ sgI (a * P + b * Q) * c then sgI (sgI (a * P + b * Q) + c) else sgI (a * P + b * Q) * sgI (sgI (P + Q - R) * ((P + Q - R) * (P + Q - R)) + a * b * (4 * (P * Q)))
/-! ### numbers reckoned with -/
/-! ### numbers (t and the root of U) over b, walked number by number; s is the root's whole part -/
/-- above 1, its mate between -1 and 0 -/
def RedS (s t b : Int) : Prop := 0 < b ∧ b ≤ t + s ∧ t ≤ s ∧ s < t + b
/-- above 1 -/
def Gt1 (s t b : Int) : Prop := (0 < b ∧ b ≤ t + s) ∨ (b < 0 ∧ t + s < b)
/-! ### rows' tables and the numbers they lead to -/
theorem tw_fold (L : List Int) : ∀ x : T4, L.foldl t4S x = ⟨x.p * (t4L L).p + x.q * (t4L L).r, x.p * (t4L L).q + x.q * (t4L L).s, x.r * (t4L L).p + x.s * (t4L L).r, x.r * (t4L L).q + x.s * (t4L L).s⟩ := by
  induction L with
  | nil => intro x; obtain ⟨p, q, r, s⟩ := x; simp [t4L]
  | cons a L ih =>
    intro x
    have h1 : t4L (a :: L) = L.foldl t4S (t4S ⟨1, 0, 0, 1⟩ a) := rfl
    rw [List.foldl_cons, ih, h1, ih]
    unfold t4S
    simp only [T4.mk.injEq]
    refine ⟨?_, ?_, ?_, ?_⟩ <;> grind
theorem tw_cons (n : Int) (L : List Int) : t4L (n :: L) = ⟨n * (t4L L).p + (t4L L).r, n * (t4L L).q + (t4L L).s, (t4L L).p, (t4L L).q⟩ := by
  have h1 : t4L (n :: L) = L.foldl t4S (t4S ⟨1, 0, 0, 1⟩ n) := rfl
  rw [h1, tw_fold]
  unfold t4S
  simp only [T4.mk.injEq]
  refine ⟨?_, ?_, ?_, ?_⟩ <;> grind
structure TwN (t : T4) : Prop where
  q1 : 1 ≤ t.q
  r1 : 1 ≤ t.r
  s0 : 0 ≤ t.s
  pq : t.q ≤ t.p
  pr : t.r ≤ t.p
  qs : t.s ≤ t.q
  rs : t.s ≤ t.r
  d : t.p * t.s - t.q * t.r = 1 ∨ t.p * t.s - t.q * t.r = -1
theorem tw_row : ∀ L : List Int, (∀ a ∈ L, 1 ≤ a) → L ≠ [] → TwN (t4L L)
  | [], _, h => absurd rfl h
  | [n], h, _ => by
    have := h n (by simp)
    rw [tw_cons, show t4L [] = ⟨1, 0, 0, 1⟩ from rfl]
    refine ⟨?_, ?_, ?_, ?_, ?_, ?_, ?_, ?_⟩ <;> dsimp only <;> omega
  | n :: m :: L, h, _ => by
    have h1 := h n (by simp)
    obtain ⟨q1, r1, s0, pq, pr, qs, rs, d⟩ := tw_row (m :: L) (fun a ha => h a (List.mem_cons_of_mem _ ha)) (by simp)
    rw [tw_cons]
    generalize t4L (m :: L) = t at *
    have a1 := Int.mul_nonneg (show 0 ≤ n - 1 by omega) (show 0 ≤ t.p by omega)
    have a2 := Int.mul_nonneg (show 0 ≤ n - 1 by omega) (show 0 ≤ t.q by omega)
    have a3 := Int.mul_nonneg (show 0 ≤ n - 1 by omega) (show 0 ≤ t.p - t.q by omega)
    have e1 : (n - 1) * t.p = n * t.p - t.p := by grind
    have e2 : (n - 1) * t.q = n * t.q - t.q := by grind
    have e3 : (n - 1) * (t.p - t.q) = n * t.p - n * t.q - t.p + t.q := by grind
    have e4 : (n * t.p + t.r) * t.q - (n * t.q + t.s) * t.p = -(t.p * t.s - t.q * t.r) := by grind
    refine ⟨?_, ?_, ?_, ?_, ?_, ?_, ?_, ?_⟩ <;> dsimp only <;> omega
theorem TwN.st {t : T4} (h : TwN t) : t.r + t.s < t.p + t.q ∧ t.q + t.s < t.p + t.r := by
  obtain ⟨q1, r1, s0, pq, pr, qs, rs, d⟩ := h
  constructor
  · refine Decidable.byContradiction fun hc => ?_
    have e1 : t.p = t.r := by omega
    have e2 : t.q = t.s := by omega
    rw [e1, e2, Int.mul_comm] at d
    omega
  · refine Decidable.byContradiction fun hc => ?_
    have e1 : t.p = t.q := by omega
    have e2 : t.r = t.s := by omega
    rw [e1, e2] at d
    omega
theorem RedS.g {s t b : Int} (h : RedS s t b) : Gt1 s t b := .inl ⟨h.1, h.2.1⟩
/-! ### the walk as it is reckoned -/
/-! ### the number of a stair, told by four parts, walks the stair -/
theorem tw_pos {L : List Int} (h : ∀ a ∈ L, 1 ≤ a) (h0 : L ≠ []) : 5 ≤ upN (t4L L) ∧ ∀ y : Int, y * y ≠ upN (t4L L) := by
  obtain ⟨q1, r1, s0, pq, pr, qs, rs, d⟩ := tw_row L h h0
  have e : upN (t4L L) = ((t4L L).p + (t4L L).s) * ((t4L L).p + (t4L L).s) - 4 * ((t4L L).p * (t4L L).s - (t4L L).q * (t4L L).r) := by unfold upN; grind
  rw [e]
  have qr : 1 ≤ (t4L L).q * (t4L L).r := by
    have := Int.mul_le_mul q1 r1 (by omega) (by omega)
    omega
  generalize (t4L L).p = p at *
  generalize (t4L L).q = q at *
  generalize (t4L L).r = r at *
  generalize (t4L L).s = s at *
  rcases d with d | d <;> rw [d]
  · have s1 : 1 ≤ s := by
      rcases Int.lt_or_le 0 s with c | c
      · exact c
      · rw [show s = 0 by omega, Int.mul_zero] at d
        omega
    have p2 : 2 ≤ p := by
      rcases Int.lt_or_le 1 p with c | c
      · exact c
      · rw [show p = 1 by omega, show s = 1 by omega] at d
        omega
    generalize ht : p + s = t at *
    have h9 : 3 * t ≤ t * t := Int.mul_le_mul_of_nonneg_right (by omega) (by omega)
    have e2 : (t - 1) * (t - 1) = t * t - 2 * t + 1 := by grind
    refine ⟨by omega, fun y hy => no_sq (t := t - 1) (y := y) (by omega) (by rw [hy]; omega) (by rw [hy, show t - 1 + 1 = t by omega]; omega)⟩
  · generalize ht : p + s = t at *
    have t1 : 1 ≤ t := by omega
    have h1 : 1 * t ≤ t * t := Int.mul_le_mul_of_nonneg_right t1 (by omega)
    refine ⟨by omega, fun y hy => ?_⟩
    by_cases c : 2 ≤ t
    · have e3 : (t + 1) * (t + 1) = t * t + 2 * t + 1 := by grind
      exact no_sq (t := t) (y := y) (by omega) (by omega) (by omega)
    · have : t = 1 := by omega
      subst this
      exact no_sq (t := 2) (y := y) (by omega) (by omega) (by omega)
/-! ### rings that no turn but the whole leads to themselves; shortest parts -/
/-! ### a stair's number as the law reckons it -/
/-- how great a row's table can be -/
theorem t4_wide {c : Nat} : ∀ {L : List Int}, (∀ a ∈ L, a.natAbs + 1 ≤ 2 ^ c) → (t4L L).p.natAbs ≤ 2 ^ (c * L.length) ∧ (t4L L).q.natAbs ≤ 2 ^ (c * L.length) ∧ (t4L L).r.natAbs ≤ 2 ^ (c * L.length) ∧ (t4L L).s.natAbs ≤ 2 ^ (c * L.length)
  | [], _ => by
    rw [show t4L [] = ⟨1, 0, 0, 1⟩ from rfl, List.length_nil, Nat.mul_zero]
    decide
  | a :: L, h => by
    obtain ⟨h1, h2, h3, h4⟩ := t4_wide (L := L) fun b hb => h b (List.mem_cons_of_mem _ hb)
    have ha := h a List.mem_cons_self
    rw [tw_cons, List.length_cons, Nat.mul_succ, Nat.pow_add]
    dsimp only
    generalize (2 : Nat) ^ (c * L.length) = m at *
    generalize (2 : Nat) ^ c = k at *
    have up : ∀ x y : Int, x.natAbs ≤ m → y.natAbs ≤ m → (a * x + y).natAbs ≤ m * k := fun x y hx hy => by
      have e := Int.natAbs_add_le (a * x) y
      have e2 : (a * x).natAbs ≤ a.natAbs * m := by rw [Int.natAbs_mul]; exact Nat.mul_le_mul_left _ hx
      have e3 : (a.natAbs + 1) * m ≤ k * m := Nat.mul_le_mul_right _ ha
      rw [Nat.mul_comm m k]
      rw [Nat.succ_mul] at e3
      omega
    have one : m ≤ m * k := Nat.le_mul_of_pos_right _ (by omega)
    exact ⟨up _ _ h1 h3, up _ _ h2 h4, by omega, by omega⟩

/-! ### a form's root -/
theorem nuL_two (l : List Nat) : ∀ a ∈ nuL l, 1 ≤ a ∧ a ≤ 2 := fun a ha => by
  unfold nuL at ha
  obtain ⟨L, hL, h⟩ := List.mem_flatten.mp ha
  obtain ⟨c, _, rfl⟩ := List.mem_map.mp hL
  unfold nuC at h
  split at h <;> simp at h <;> omega
theorem nuL_ne {l : List Nat} (h : l ≠ []) : nuL l ≠ [] := fun e => by
  have := nuL_len l
  rw [e, List.length_nil] at this
  have : l.length = 0 := by omega
  exact h (List.length_eq_zero_iff.mp this)

/-! ### the form of a row: its numbers, its walk, the row turned -/
def fmG (L : List Int) : Int := (Int.gcd (Int.gcd (t4L L).r ((t4L L).s - (t4L L).p) : Nat) (t4L L).q : Nat)
/-- the form of a row -/
def fmA (L : List Int) : Int := (t4L L).r.fdiv (fmG L)
def fmB (L : List Int) : Int := ((t4L L).s - (t4L L).p).fdiv (fmG L)
def fmC (L : List Int) : Int := (0 - (t4L L).q).fdiv (fmG L)
abbrev frmD (L : List Int) : D := .tup [.int (fmA L), .int (fmB L), .int (fmC L)]
theorem fmG_pos {L : List Int} (h1 : ∀ a ∈ L, 1 ≤ a) (h0 : L ≠ []) : 1 ≤ fmG L ∧ fmG L ≤ (t4L L).r := by
  have r1 := (tw_row L h1 h0).r1
  unfold fmG
  have d : (Int.gcd (Int.gcd (t4L L).r ((t4L L).s - (t4L L).p) : Nat) (t4L L).q : Nat) ∣ (t4L L).r.natAbs := by
    refine Nat.dvd_trans (Int.gcd_dvd_natAbs_left ..) ?_
    rw [Int.natAbs_natCast]
    exact Int.gcd_dvd_natAbs_left ..
  have h := Nat.le_of_dvd (by omega) d
  have n0 : (Int.gcd (Int.gcd (t4L L).r ((t4L L).s - (t4L L).p) : Nat) (t4L L).q : Nat) ≠ 0 := fun e => by
    rw [e] at d
    obtain ⟨c, hc⟩ := d
    omega
  omega
theorem fm_dvd (L : List Int) : fmG L ∣ (t4L L).r ∧ fmG L ∣ (t4L L).s - (t4L L).p ∧ fmG L ∣ (t4L L).q := by
  have dg : fmG L ∣ (Int.gcd (t4L L).r ((t4L L).s - (t4L L).p) : Nat) := by unfold fmG; exact Int.gcd_dvd_left ..
  exact ⟨Int.dvd_trans dg (Int.gcd_dvd_left ..), Int.dvd_trans dg (Int.gcd_dvd_right ..), by unfold fmG; exact Int.gcd_dvd_right ..⟩
/-- the form times its divisor is the row's -/
theorem fm_eq {L : List Int} (h1 : ∀ a ∈ L, 1 ≤ a) (h0 : L ≠ []) : fmG L * fmA L = (t4L L).r ∧ fmG L * fmB L = (t4L L).s - (t4L L).p ∧ fmG L * fmC L = -(t4L L).q := by
  obtain ⟨d1, d2, d3⟩ := fm_dvd L
  have g := (fmG_pos h1 h0).1
  have fd : ∀ {x : Int}, fmG L ∣ x → fmG L * x.fdiv (fmG L) = x := fun {x} h => by
    obtain ⟨y, rfl⟩ := h
    rw [Int.mul_fdiv_cancel_left _ (by omega)]
  refine ⟨fd d1, fd d2, ?_⟩
  have := fd (x := 0 - (t4L L).q) (by rw [Int.zero_sub]; exact (Int.dvd_neg).mpr d3)
  unfold fmC
  omega
theorem fm_und {L : List Int} (h1 : ∀ a ∈ L, 1 ≤ a) (h0 : L ≠ []) : fmG L * fmG L * undF (fmA L) (fmB L) (fmC L) = upN (t4L L) := by
  obtain ⟨e1, e2, e3⟩ := fm_eq h1 h0
  have : fmG L * fmG L * undF (fmA L) (fmB L) (fmC L) = (fmG L * fmB L) * (fmG L * fmB L) - 4 * (fmG L * fmA L) * (fmG L * fmC L) := by unfold undF; grind
  rw [this, e1, e2, e3]
  unfold upN
  grind
theorem fm_ok {L : List Int} (h1 : ∀ a ∈ L, 1 ≤ a) (h0 : L ≠ []) : okF (fmA L) (fmB L) (fmC L) = true := by
  have e := fm_und h1 h0
  have g := (fmG_pos h1 h0).1
  obtain ⟨u5, up⟩ := tw_pos h1 h0
  have gg : 1 ≤ fmG L * fmG L := by have := Int.mul_le_mul g g (by omega) (by omega); omega
  unfold okF
  rw [Bool.and_eq_true, decide_eq_true_iff]
  refine ⟨?_, ?_⟩
  · rcases Int.lt_or_le 0 (undF (fmA L) (fmB L) (fmC L)) with c | c
    · omega
    · have := Int.mul_le_mul_of_nonneg_left c (show 0 ≤ fmG L * fmG L by omega)
      omega
  · rw [isSqB_false fun y _ => ?_]
    · rfl
    · intro h
      refine up (fmG L * y) ?_
      rw [← e, ← h]; grind
theorem fm_sz {L : List Int} {c : Nat} (h1 : ∀ a ∈ L, 1 ≤ a ∧ a.natAbs + 1 ≤ 2 ^ c) (h0 : L ≠ []) : (fmA L).natAbs ≤ 2 ^ (c * L.length + 1) ∧ (fmB L).natAbs ≤ 2 ^ (c * L.length + 1) ∧ (fmC L).natAbs ≤ 2 ^ (c * L.length + 1) := by
  obtain ⟨e1, e2, e3⟩ := fm_eq (fun a ha => (h1 a ha).1) h0
  have g := (fmG_pos (fun a ha => (h1 a ha).1) h0).1
  obtain ⟨b1, b2, b3, b4⟩ := t4_wide fun a ha => (h1 a ha).2
  have le : ∀ {x y : Int}, fmG L * x = y → x.natAbs ≤ y.natAbs := fun {x y} e => by
    rw [← e, Int.natAbs_mul]
    exact Nat.le_mul_of_pos_left _ (by omega)
  have k1 := le e1
  have k2 := le e2
  have k3 := le e3
  rw [Nat.pow_succ]
  omega
theorem fmG_log {L : List Int} {c : Nat} (h1 : ∀ a ∈ L, 1 ≤ a ∧ a.natAbs + 1 ≤ 2 ^ c) (h0 : L ≠ []) (hc : c * L.length ≤ 4000) : fmG L ≠ 0 ∧ (fmG L).natAbs.log2 < 9000 := by
  have G := fmG_pos (fun a ha => (h1 a ha).1) h0
  have b := (t4_wide fun a ha => (h1 a ha).2).2.2.1
  refine ⟨by omega, ?_⟩
  have g1 : (fmG L).natAbs ≤ (t4L L).r.natAbs := by omega
  have g3 := Nat.le_trans g1 (Nat.le_trans b (Nat.pow_le_pow_right (by decide) hc))
  have g4 : (fmG L).natAbs < 2 ^ 4001 := Nat.lt_of_le_of_lt g3 (Nat.pow_lt_pow_right (by decide) (by decide))
  have := log2_lt g4 (by decide)
  omega

/-! ### texts of words shown -/
theorem strOk_iff {z : Str} : PyData.strOk z = true ↔ ∀ c ∈ z.cps.toList, c < 1114112 := by
  show z.cps.all (· < 0x110000) = true ↔ _
  rw [Array.all_eq_true']
  simp
theorem strOk_app {x y : Str} (hx : PyData.strOk x = true) (hy : PyData.strOk y = true) : PyData.strOk (x ++ y) = true := strOk_iff.mpr fun c hc => by
  rw [app_toList] at hc
  rcases List.mem_append.mp hc with h | h
  · exact strOk_iff.mp hx c h
  · exact strOk_iff.mp hy c h
theorem quote_cases (z : Str) : reprQuote z = 39 ∨ reprQuote z = 34 := by
  unfold reprQuote
  split
  · exact .inr rfl
  · exact .inl rfl
/-! ### tame data: small whole numbers, texts, and what holds them; it may be shown and held against other things -/
theorem chr_lt (c : Char) : c.toNat < 1114112 := by
  have h := c.valid
  have h' : c.toNat < 55296 ∨ (57343 < c.toNat ∧ c.toNat < 1114112) := h
  omega
theorem strOk_ofS (s : String) : PyData.strOk (Str.ofString s) = true := strOk_iff.mpr fun c hc => by
  rw [Str.ofString_eq_toList] at hc
  obtain ⟨d, _, rfl⟩ := List.mem_map.mp (show c ∈ s.toList.map Char.toNat by simpa using hc)
  exact chr_lt d
theorem reprChar_lt {q c : Nat} (hc : c < 1114112) : ∀ d ∈ PySem.Builtin.Str.reprChar q c, d < 1114112 := by
  intro d hd
  have hex : ∀ w, d ∈ (List.replicate (w - ((Nat.toDigits 16 c).map Char.toNat).length) 48 ++ (Nat.toDigits 16 c).map Char.toNat) → d < 1114112 := fun w h => by
    rcases List.mem_append.mp h with h | h
    · rw [(List.mem_replicate.mp h).2]; decide
    · obtain ⟨e, _, rfl⟩ := List.mem_map.mp h
      exact chr_lt e
  unfold PySem.Builtin.Str.reprChar at hd
  dsimp only at hd
  have two : ∀ {a b : Nat} {l : List Nat}, a < 1114112 → b < 1114112 → d ∈ [a, b] ++ l → d < 1114112 ∨ d ∈ l := fun {a b l} ha hb h => by
    rcases List.mem_append.mp h with h | h
    · simp only [List.mem_cons, List.not_mem_nil, or_false] at h
      rcases h with rfl | rfl
      · exact .inl ha
      · exact .inl hb
    · exact .inr h
  have pair : ∀ {a b : Nat}, a < 1114112 → b < 1114112 → d ∈ [a, b] → d < 1114112 := fun {a b} ha hb h => by
    simp only [List.mem_cons, List.not_mem_nil, or_false] at h
    rcases h with rfl | rfl <;> assumption
  split at hd
  · exact pair (by decide) hc hd
  split at hd
  · exact pair (by decide) (by decide) hd
  split at hd
  · exact pair (by decide) (by decide) hd
  split at hd
  · exact pair (by decide) (by decide) hd
  split at hd
  · rw [List.mem_singleton.mp hd]; exact hc
  split at hd
  · rcases two (by decide) (by decide) hd with h | h
    · exact h
    · exact hex 2 h
  split at hd
  · rcases two (by decide) (by decide) hd with h | h
    · exact h
    · exact hex 4 h
  · rcases two (by decide) (by decide) hd with h | h
    · exact h
    · exact hex 8 h
theorem strOk_repr {z : Str} (h : PyData.strOk z = true) : PyData.strOk (reprText z) = true := strOk_iff.mpr fun c hc => by
  unfold reprText at hc
  have hq := quote_cases z
  generalize reprQuote z = q at hc hq
  rw [Array.toList_push, ← Array.foldl_toList] at hc
  have hl : ∀ (m : List Nat) (acc : Array Nat), (∀ d ∈ acc.toList, d < 1114112) → (∀ c ∈ m, c < 1114112) → ∀ d ∈ (m.foldl (fun out c => out ++ (PySem.Builtin.Str.reprChar q c).toArray) acc).toList, d < 1114112 := fun m => by
    induction m with
    | nil => intro acc ha _ d hd; exact ha d hd
    | cons c r ih =>
      intro acc ha hm d hd
      refine ih (acc ++ (PySem.Builtin.Str.reprChar q c).toArray) (fun e he => ?_) (fun x hx => hm x (List.mem_cons_of_mem _ hx)) d hd
      rw [Array.toList_append] at he
      rcases List.mem_append.mp he with he | he
      · exact ha e he
      · exact reprChar_lt (hm c List.mem_cons_self) e (by simpa using he)
  rcases List.mem_append.mp hc with hc | hc
  · exact hl z.cps.toList #[q] (fun d hd => by simp at hd; omega) (strOk_iff.mp h) c hc
  · rw [List.mem_singleton.mp hc]; omega
mutual
def tmD (n : Nat) : D → Bool
  | .int i => decide (i.natAbs < 2 ^ n)
  | .str z => decide (z.length ≤ 100000) && PyData.strOk z
  | .non => true | .bl _ => true
  | .tup ds => tmL n ds
  | .lst ds => tmL n ds
  | _ => false
def tmL (n : Nat) : List D → Bool
  | [] => true
  | d :: ds => tmD n d && tmL n ds
end
theorem tmL_iff {n : Nat} : ∀ {ds : List D}, tmL n ds = true ↔ ∀ d ∈ ds, tmD n d = true
  | [] => by simp [tmL]
  | d :: ds => by
    have ih := tmL_iff (n := n) (ds := ds)
    simp only [tmL, Bool.and_eq_true, List.mem_cons, ih]
    constructor
    · rintro ⟨h1, h2⟩ x (rfl | h)
      · exact h1
      · exact h2 x h
    · exact fun h => ⟨h d (.inl rfl), fun x hx => h x (.inr hx)⟩
mutual
theorem tm_ind {n : Nat} {P : D → Prop} (hi : ∀ i : Int, i.natAbs < 2 ^ n → P (.int i)) (hs : ∀ z : Str, z.length ≤ 100000 → PyData.strOk z = true → P (.str z)) (hn : P .non) (hb : ∀ b, P (.bl b)) (ht : ∀ ds, tmL n ds = true → (∀ d ∈ ds, P d) → P (.tup ds)) (hl : ∀ ds, tmL n ds = true → (∀ d ∈ ds, P d) → P (.lst ds)) : ∀ d, tmD n d = true → P d
  | .int i, h => hi i (of_decide_eq_true h)
  | .str z, h => by
    have h' := Bool.and_eq_true_iff.mp (show (decide (z.length ≤ 100000) && PyData.strOk z) = true from h)
    exact hs z (of_decide_eq_true h'.1) h'.2
  | .non, _ => hn
  | .bl b, _ => hb b
  | .tup ds, h => ht ds h (tm_indL hi hs hn hb ht hl ds h)
  | .lst ds, h => hl ds h (tm_indL hi hs hn hb ht hl ds h)
  | .tupX _, h => absurd (show false = true from h) Bool.false_ne_true
  | .inst _ _ _, h => absurd (show false = true from h) Bool.false_ne_true
  | .obj _, h => absurd (show false = true from h) Bool.false_ne_true
  | .ty _, h => absurd (show false = true from h) Bool.false_ne_true
  | .exc _ _ _ _, h => absurd (show false = true from h) Bool.false_ne_true
  | .fn _, h => absurd (show false = true from h) Bool.false_ne_true
  | .hob _, h => absurd (show false = true from h) Bool.false_ne_true
  | .dct _ _, h => absurd (show false = true from h) Bool.false_ne_true
theorem tm_indL {n : Nat} {P : D → Prop} (hi : ∀ i : Int, i.natAbs < 2 ^ n → P (.int i)) (hs : ∀ z : Str, z.length ≤ 100000 → PyData.strOk z = true → P (.str z)) (hn : P .non) (hb : ∀ b, P (.bl b)) (ht : ∀ ds, tmL n ds = true → (∀ d ∈ ds, P d) → P (.tup ds)) (hl : ∀ ds, tmL n ds = true → (∀ d ∈ ds, P d) → P (.lst ds)) : ∀ ds, tmL n ds = true → ∀ d ∈ ds, P d
  | [], _ => fun _ h => nomatch h
  | d :: ds, h => by
    have h' := Bool.and_eq_true_iff.mp (show (tmD n d && tmL n ds) = true from h)
    exact List.forall_mem_cons.mpr ⟨tm_ind hi hs hn hb ht hl d h'.1, tm_indL hi hs hn hb ht hl ds h'.2⟩
end
theorem tm_sm {n : Nat} {d : D} (h : tmD n d = true) : sm n d = true := tm_ind (P := fun d => sm n d = true) (fun i h => sm_int.mpr h) (fun z h _ => sm_str.mpr h) rfl (fun _ => rfl) (fun ds _ h => smT.mpr h) (fun ds _ h => smLs.mpr h) d h
theorem shOkL_iff : ∀ {ds : List D}, (∀ d ∈ ds, shOk d = true) → shOkL ds = true
  | [], _ => rfl
  | d :: ds, h => by
    show (shOk d && shOkL ds) = true
    rw [h d (.head _), shOkL_iff fun x hx => h x (.tail _ hx)]; rfl
theorem tm_shOk {n : Nat} {d : D} (hn : n ≤ 1900) (h : tmD n d = true) : shOk d = true := tm_ind (P := fun d => shOk d = true) (fun i h => decide_eq_true (Nat.lt_of_lt_of_le (log2_lt (n := 1900) (Nat.lt_of_lt_of_le h (Nat.pow_le_pow_right (by decide) hn)) (by decide)) (by decide))) (fun z _ h => h) rfl (fun _ => rfl) (fun ds _ h => shOkL_iff h) (fun ds _ h => shOkL_iff h) d h
theorem layL : ∀ {ds : List D}, (∀ d ∈ ds, isData d = true ∧ (pd d).canLay0 = true) → isDataL ds = true ∧ PyData.canLayAll0 (pdL ds) = true
  | [], _ => ⟨rfl, rfl⟩
  | d :: ds, h => by
    have ih := layL (ds := ds) fun x hx => h x (.tail _ hx)
    have h1 := h d (.head _)
    exact ⟨by show (isData d && isDataL ds) = true; rw [h1.1, ih.1]; rfl, by show ((pd d).canLay0 && PyData.canLayAll0 (pdL ds)) = true; rw [h1.2, ih.2]; rfl⟩
theorem tm_lay {n : Nat} {d : D} (h : tmD n d = true) : isData d = true ∧ (pd d).canLay0 = true := tm_ind (P := fun d => isData d = true ∧ (pd d).canLay0 = true) (fun i h => ⟨rfl, rfl⟩) (fun z _ h => ⟨rfl, h⟩) ⟨rfl, rfl⟩ (fun _ => ⟨rfl, rfl⟩) (fun ds _ h => layL h) (fun ds _ h => layL h) d h
theorem shownAll_map : ∀ ds : List D, PyData.shownAll (pdL ds) = ds.map shownD
  | [] => rfl
  | d :: ds => by
    show (pd d).shown :: PyData.shownAll (pdL ds) = _
    rw [shownAll_map ds]; rfl
theorem strOk_join : ∀ ts : List Str, (∀ t ∈ ts, PyData.strOk t = true) → PyData.strOk (Str.join ", " ts) = true
  | [], _ => by decide +kernel
  | [x], h => h x (.head _)
  | x :: y :: r, h => strOk_app (strOk_app (h x (.head _)) (by decide +kernel)) (strOk_join (y :: r) fun t ht => h t (.tail _ ht))
theorem strOk_from : ∀ (ts : List Str) (k : Nat) (acc : Str), PyData.strOk acc = true → (∀ t ∈ ts, PyData.strOk t = true) → PyData.strOk (textFrom k acc ts) = true
  | [], _, _, h, _ => h
  | t :: r, k, acc, h, ht => strOk_from r (k + 1) _ (strOk_app (strOk_app h (by split <;> decide +kernel)) (ht t (.head _))) fun x hx => ht x (.tail _ hx)
theorem tm_shown {n : Nat} {d : D} (h : tmD n d = true) : PyData.strOk (shownD d) = true := tm_ind (P := fun d => PyData.strOk (shownD d) = true) (fun i _ => strOk_ofS _) (fun z _ h => strOk_repr h) (by decide +kernel) (fun b => by cases b <;> decide +kernel)
  (fun ds _ h => by
    show PyData.strOk (tupleText (PyData.shownAll (pdL ds))) = true
    rw [shownAll_map]
    unfold tupleText
    refine strOk_app (strOk_app (by decide +kernel) (strOk_join _ fun t ht => ?_)) (by split <;> decide +kernel)
    obtain ⟨d, hd, rfl⟩ := List.mem_map.mp ht
    exact h d hd)
  (fun ds _ h => by
    show PyData.strOk (listText (PyData.shownAll (pdL ds))) = true
    rw [shownAll_map]
    unfold listText
    refine strOk_app (strOk_from _ _ _ (by decide +kernel) fun t ht => ?_) (by decide +kernel)
    obtain ⟨d, hd, rfl⟩ := List.mem_map.mp ht
    exact h d hd) d h
/-- tame, so many deep, so long when it is shown -/
structure Tm (n k B : Nat) (d : D) : Prop where
  t : tmD n d = true
  dp : (pd d).depth ≤ k
  sh : shL d ≤ B
theorem Tm.eqOk {n k B : Nat} {d : D} (h : Tm n k B d) (hk : k ≤ 60) : eqOk d = true := by
  have l := tm_lay h.t
  show (isData d && ((pd d).canLay0 && decide ((pd d).depth ≤ 64))) = true
  have := h.dp
  rw [l.1, l.2, decide_eq_true (by omega)]
  rfl
theorem Tm.shD {n k B : Nat} {d : D} (h : Tm n k B d) (hn : n ≤ 1900) (hk : k ≤ 60) (hB : B ≤ 16777216) : shD d := ⟨tm_shOk hn h.t, Nat.le_trans h.sh hB, Nat.le_trans h.dp hk⟩

/-! ### depth and length of what holds others -/
theorem dpL_mem : ∀ {ds : List D} {d : D}, d ∈ ds → (pd d).depth ≤ PyData.depthAll (pdL ds)
  | x :: r, d, h => by
    show _ ≤ max (pd x).depth (PyData.depthAll (pdL r))
    rcases List.mem_cons.mp h with rfl | h
    · omega
    · have := dpL_mem h; omega
theorem dpL_le : ∀ {ds : List D} {k : Nat}, (∀ d ∈ ds, (pd d).depth ≤ k) → PyData.depthAll (pdL ds) ≤ k
  | [], _, _ => Nat.zero_le _
  | x :: r, k, h => by
    show max (pd x).depth (PyData.depthAll (pdL r)) ≤ k
    have := h x (.head _)
    have := dpL_le (ds := r) fun d hd => h d (.tail _ hd)
    omega
theorem dp_tup (ds : List D) : (pd (.tup ds)).depth = PyData.depthAll (pdL ds) + 1 := rfl
theorem dp_lst (ds : List D) : (pd (.lst ds)).depth = PyData.depthAll (pdL ds) + 1 := rfl
theorem sh_pos (d : D) : 2 ≤ shL d := by
  cases d <;> simp only [shL] <;> omega
theorem shLL_mem : ∀ {ds : List D} {d : D}, d ∈ ds → shL d + 2 ≤ shLL ds
  | x :: r, d, h => by
    show _ ≤ shL x + 2 + shLL r
    rcases List.mem_cons.mp h with rfl | h
    · omega
    · have := shLL_mem h; omega
theorem shLL_len : ∀ ds : List D, 4 * ds.length ≤ shLL ds
  | [] => Nat.zero_le _
  | x :: r => by
    have := shLL_len r
    have := sh_pos x
    show 4 * (r.length + 1) ≤ shL x + 2 + shLL r
    omega
theorem shLL_app : ∀ (xs ys : List D), shLL (xs ++ ys) = shLL xs + shLL ys
  | [], ys => by show shLL ys = 0 + shLL ys; omega
  | x :: r, ys => by
    have := shLL_app r ys
    show shL x + 2 + shLL (r ++ ys) = shL x + 2 + shLL r + shLL ys
    omega
theorem shLL_cut (xs : List D) (k : Nat) : shLL (xs.take k) + shLL (xs.drop k) = shLL xs := by rw [← shLL_app, List.take_append_drop]
theorem shLL_set : ∀ (xs : List D) (k : Nat) (e e' : D), xs[k]? = some e → shLL (xs.set k e') + shL e = shLL xs + shL e'
  | x :: r, 0, e, e', h => by
    obtain rfl := Option.some.inj (show some x = some e from h)
    show shL e' + 2 + shLL r + shL x = shL x + 2 + shLL r + shL e'
    omega
  | x :: r, k + 1, e, e', h => by
    have := shLL_set r k e e' (by simpa using h)
    show shL x + 2 + shLL (r.set k e') + shL e = shL x + 2 + shLL r + shL e'
    omega
theorem Tm.elT {n k B : Nat} {ds : List D} (h : Tm n k B (.tup ds)) {d : D} (hd : d ∈ ds) : Tm n k B d ∧ (pd d).depth < (pd (.tup ds)).depth := by
  have h1 := dpL_mem hd
  have h2 := h.dp
  have h3 := shLL_mem hd
  have h4 : shLL ds + 3 ≤ B := h.sh
  rw [dp_tup] at h2 ⊢
  exact ⟨⟨tmL_iff.mp h.t d hd, by omega, by omega⟩, by omega⟩
theorem Tm.elL {n k B : Nat} {ds : List D} (h : Tm n k B (.lst ds)) {d : D} (hd : d ∈ ds) : Tm n k B d ∧ (pd d).depth < (pd (.lst ds)).depth := by
  have h1 := dpL_mem hd
  have h2 := h.dp
  have h3 := shLL_mem hd
  have h4 : shLL ds + 2 ≤ B := h.sh
  rw [dp_lst] at h2 ⊢
  exact ⟨⟨tmL_iff.mp h.t d hd, by omega, by omega⟩, by omega⟩
theorem Tm.lenT {n k B : Nat} {ds : List D} (h : Tm n k B (.tup ds)) : 4 * ds.length ≤ B := by
  have := shLL_len ds
  have : shLL ds + 3 ≤ B := h.sh
  omega
theorem Tm.lenL {n k B : Nat} {ds : List D} (h : Tm n k B (.lst ds)) : 4 * ds.length ≤ B := by
  have := shLL_len ds
  have : shLL ds + 2 ≤ B := h.sh
  omega
theorem tm_str {n : Nat} {z : Str} : tmD n (.str z) = true ↔ z.length ≤ 100000 ∧ PyData.strOk z = true := by
  show (decide (z.length ≤ 100000) && PyData.strOk z) = true ↔ _
  rw [Bool.and_eq_true, decide_eq_true_eq]
theorem tm_strL {n : Nat} {l : List Nat} : tmD n (.str (ofL l)) = true ↔ l.length ≤ 100000 ∧ ∀ c ∈ l, c < 1114112 := by
  rw [tm_str, ofL_len, strOk_iff]
  exact Iff.rfl
theorem tm_int {n : Nat} {i : Int} : tmD n (.int i) = true ↔ i.natAbs < 2 ^ n := by
  show decide _ = true ↔ _
  rw [decide_eq_true_eq]
theorem tmT_iff {n : Nat} {ds : List D} : tmD n (.tup ds) = true ↔ ∀ d ∈ ds, tmD n d = true := tmL_iff
theorem tmLs_iff {n : Nat} {ds : List D} : tmD n (.lst ds) = true ↔ ∀ d ∈ ds, tmD n d = true := tmL_iff
theorem tm_mono {n m : Nat} (hm : n ≤ m) {d : D} (h : tmD n d = true) : tmD m d = true := tm_ind (P := fun d => tmD m d = true) (fun i h => tm_int.mpr (Nat.lt_of_lt_of_le h (Nat.pow_le_pow_right (by decide) hm))) (fun z h1 h2 => tm_str.mpr ⟨h1, h2⟩) rfl (fun _ => rfl) (fun ds _ h => tmT_iff.mpr h) (fun ds _ h => tmLs_iff.mpr h) d h
theorem str_ofL (z : Str) : ∃ l, z = ofL l := ⟨z.cps.toList, str_ext (by show z.cps.toList = z.cps.toList.toArray.toList; simp)⟩
/-! ### a thing with one part put otherwise -/
def cons10 : List D := [.non, .bl true, .bl false, .int 0, .int 1, .str "", .str "a", .tup [], .lst [], .str "1"]
def cons4 : List D := [.int 1, .str "b", .tup [.tup []], .non]
def whs (i : Int) : List D := [.int (i + 1), .int (i - 1), .int (0 - i), .int (i * 2), .str (toString i), .tup [.int i], .bl (decide (i = 1))]
def seqless : D → Bool
  | .str z => decide (z.length = 0)
  | .tup xs => decide (xs.length = 0)
  | .lst xs => decide (xs.length = 0)
  | _ => true
inductive Bent : D → D → Prop
  | c0 (d x : D) (h : x ∈ cons10) : Bent d x
  | wh (i : Int) (x : D) (h : x ∈ whs i) : Bent (.int i) x
  | no (d x : D) (hd : seqless d = true) (h : x ∈ cons4) : Bent d x
  | cutT (xs : List D) (k : Nat) (hk : k < xs.length) : Bent (.tup xs) (.tup (xs.take k ++ xs.drop (k + 1)))
  | cutL (xs : List D) (k : Nat) (hk : k < xs.length) : Bent (.lst xs) (.lst (xs.take k ++ xs.drop (k + 1)))
  | cutS (l : List Nat) (k : Nat) (hk : k < l.length) : Bent (.str (ofL l)) (.str (ofL (l.take k ++ l.drop (k + 1))))
  | twT (xs : List D) (k : Nat) (hk : k < xs.length) : Bent (.tup xs) (.tup (xs.take (k + 1) ++ xs.drop k))
  | twL (xs : List D) (k : Nat) (hk : k < xs.length) : Bent (.lst xs) (.lst (xs.take (k + 1) ++ xs.drop k))
  | twS (l : List Nat) (k : Nat) (hk : k < l.length) : Bent (.str (ofL l)) (.str (ofL (l.take (k + 1) ++ l.drop k)))
  | sg (l : List Nat) (k c : Nat) (hk : k < l.length) (hc : c ∈ [97, 98, 99, 108, 114]) : Bent (.str (ofL l)) (.str (ofL (l.take k ++ [c] ++ l.drop (k + 1))))
  | flT (xs : List D) : Bent (.tup xs) (.lst xs)
  | flL (xs : List D) : Bent (.lst xs) (.tup xs)
  | inT (xs : List D) (k : Nat) (e e' : D) (hk : xs[k]? = some e) (h : Bent e e') : Bent (.tup xs) (.tup (xs.set k e'))
  | inL (xs : List D) (k : Nat) (e e' : D) (hk : xs[k]? = some e) (h : Bent e e') : Bent (.lst xs) (.lst (xs.set k e'))
theorem mem_cutk {α : Type} {xs : List α} {a b : Nat} {x : α} (h : x ∈ xs.take a ++ xs.drop b) : x ∈ xs := by
  rcases List.mem_append.mp h with h | h
  · exact List.mem_of_mem_take h
  · exact List.mem_of_mem_drop h
theorem shLL_cuts (xs : List D) (a b : Nat) : shLL (xs.take a ++ xs.drop b) ≤ 2 * shLL xs := by
  rw [shLL_app]
  have := shLL_cut xs a
  have := shLL_cut xs b
  omega
/-- what a bent thing is like -/
theorem Bent.tm {n : Nat} (hn : n ≤ 1800) (n1 : 1 ≤ n) {d d' : D} (h : Bent d d') : tmD n d = true → shL d ≤ 900000 → tmD (n + 1) d' = true ∧ (pd d').depth ≤ (pd d).depth + 2 ∧ shL d' ≤ 2 * shL d + 20000 := by
  have p2 : 2 ≤ 2 ^ n := Nat.le_trans (by decide) (Nat.pow_le_pow_right (n := 2) (by decide) n1)
  have ps : (2 : Nat) ^ (n + 1) = 2 * 2 ^ n := by rw [Nat.pow_succ]; omega
  have c10 : ∀ x ∈ cons10, tmD 1 x = true ∧ (pd x).depth ≤ 2 ∧ shL x ≤ 20000 := by decide +kernel
  have c4 : ∀ x ∈ cons4, tmD 1 x = true ∧ (pd x).depth ≤ 2 ∧ shL x ≤ 20000 := by decide +kernel
  induction h with
  | c0 d x h =>
    intro _ _
    obtain ⟨h1, h2, h3⟩ := c10 x h
    exact ⟨tm_mono (by omega) h1, by omega, by omega⟩
  | no d x hd h =>
    intro _ _
    obtain ⟨h1, h2, h3⟩ := c4 x h
    exact ⟨tm_mono (by omega) h1, by omega, by omega⟩
  | wh i x h =>
    intro ht _
    have hi := tm_int.mp ht
    have tl : (toString i : String) = toString i := rfl
    have l1 : i.natAbs.log2 < 1920 := Nat.lt_of_lt_of_le (log2_lt (n := 1800) (Nat.lt_of_lt_of_le hi (Nat.pow_le_pow_right (by decide) hn)) (by decide)) (by decide)
    have l2 := PyProof.Rows.int_text_len_1921 l1
    have e0 : shL (.int i) = 1921 := rfl
    have iv : ∀ j : Int, j.natAbs < 2 ^ (n + 1) → tmD (n + 1) (.int j) = true ∧ (pd (.int j)).depth ≤ (pd (.int i)).depth + 2 ∧ shL (.int j) ≤ 2 * shL (.int i) + 20000 := fun j hj => ⟨tm_int.mpr hj, Nat.zero_le _, by rw [e0]; show 1921 ≤ _; omega⟩
    simp only [whs, List.mem_cons, List.not_mem_nil, or_false] at h
    rcases h with rfl | rfl | rfl | rfl | rfl | rfl | rfl
    · exact iv _ (by omega)
    · exact iv _ (by omega)
    · exact iv _ (by omega)
    · exact iv _ (by omega)
    · refine ⟨tm_str.mpr ⟨by omega, strOk_ofS _⟩, Nat.zero_le _, ?_⟩
      rw [e0]
      show 10 * (Str.ofString (toString i)).length + 2 ≤ _
      omega
    · refine ⟨tmT_iff.mpr fun d hd => ?_, by show 1 ≤ 0 + 2; decide, by rw [e0]; show 1921 + 2 + 0 + 3 ≤ _; omega⟩
      rw [List.mem_singleton.mp hd]
      exact tm_int.mpr (by omega)
    · exact ⟨rfl, Nat.zero_le _, by rw [e0]; show 5 ≤ _; omega⟩
  | cutT xs k hk =>
    intro ht _
    refine ⟨tmT_iff.mpr fun d hd => tm_mono (by omega) (tmT_iff.mp ht d (mem_cutk hd)), ?_, ?_⟩
    · have := dpL_le (ds := xs.take k ++ xs.drop (k + 1)) fun d hd => dpL_mem (mem_cutk hd)
      rw [dp_tup, dp_tup]; omega
    · have := shLL_cuts xs k (k + 1)
      show shLL _ + 3 ≤ 2 * (shLL xs + 3) + 20000
      omega
  | twT xs k hk =>
    intro ht _
    refine ⟨tmT_iff.mpr fun d hd => tm_mono (by omega) (tmT_iff.mp ht d (mem_cutk hd)), ?_, ?_⟩
    · have := dpL_le (ds := xs.take (k + 1) ++ xs.drop k) fun d hd => dpL_mem (mem_cutk hd)
      rw [dp_tup, dp_tup]; omega
    · have := shLL_cuts xs (k + 1) k
      show shLL _ + 3 ≤ 2 * (shLL xs + 3) + 20000
      omega
  | cutL xs k hk =>
    intro ht _
    refine ⟨tmLs_iff.mpr fun d hd => tm_mono (by omega) (tmLs_iff.mp ht d (mem_cutk hd)), ?_, ?_⟩
    · have := dpL_le (ds := xs.take k ++ xs.drop (k + 1)) fun d hd => dpL_mem (mem_cutk hd)
      rw [dp_lst, dp_lst]; omega
    · have := shLL_cuts xs k (k + 1)
      show shLL _ + 2 ≤ 2 * (shLL xs + 2) + 20000
      omega
  | twL xs k hk =>
    intro ht _
    refine ⟨tmLs_iff.mpr fun d hd => tm_mono (by omega) (tmLs_iff.mp ht d (mem_cutk hd)), ?_, ?_⟩
    · have := dpL_le (ds := xs.take (k + 1) ++ xs.drop k) fun d hd => dpL_mem (mem_cutk hd)
      rw [dp_lst, dp_lst]; omega
    · have := shLL_cuts xs (k + 1) k
      show shLL _ + 2 ≤ 2 * (shLL xs + 2) + 20000
      omega
  | cutS l k hk =>
    intro ht _
    obtain ⟨h1, h2⟩ := tm_strL.mp ht
    have e : (l.take k ++ l.drop (k + 1)).length + 1 = l.length := by rw [List.length_append, List.length_take, List.length_drop]; omega
    refine ⟨tm_strL.mpr ⟨by omega, fun c hc => h2 c (mem_cutk hc)⟩, Nat.zero_le _, ?_⟩
    show 10 * (ofL _).length + 2 ≤ 2 * (10 * (ofL l).length + 2) + 20000
    rw [ofL_len, ofL_len]; omega
  | twS l k hk =>
    intro ht hs
    obtain ⟨h1, h2⟩ := tm_strL.mp ht
    have e : (l.take (k + 1) ++ l.drop k).length = l.length + 1 := by rw [List.length_append, List.length_take, List.length_drop]; omega
    have hs : 10 * (ofL l).length + 2 ≤ 900000 := hs
    rw [ofL_len] at hs
    refine ⟨tm_strL.mpr ⟨by omega, fun c hc => h2 c (mem_cutk hc)⟩, Nat.zero_le _, ?_⟩
    show 10 * (ofL _).length + 2 ≤ 2 * (10 * (ofL l).length + 2) + 20000
    rw [ofL_len, ofL_len]; omega
  | sg l k c hk hc =>
    intro ht _
    obtain ⟨h1, h2⟩ := tm_strL.mp ht
    have e : (l.take k ++ [c] ++ l.drop (k + 1)).length = l.length := by rw [List.length_append, List.length_append, List.length_take, List.length_drop, List.length_singleton]; omega
    have hc' : c < 1114112 := by
      simp only [List.mem_cons, List.not_mem_nil, or_false] at hc
      omega
    refine ⟨tm_strL.mpr ⟨by omega, fun d hd => ?_⟩, Nat.zero_le _, ?_⟩
    · rcases List.mem_append.mp hd with hd | hd
      · rcases List.mem_append.mp hd with hd | hd
        · exact h2 d (List.mem_of_mem_take hd)
        · rw [List.mem_singleton.mp hd]; exact hc'
      · exact h2 d (List.mem_of_mem_drop hd)
    · show 10 * (ofL _).length + 2 ≤ 2 * (10 * (ofL l).length + 2) + 20000
      rw [ofL_len, ofL_len]; omega
  | flT xs =>
    intro ht _
    exact ⟨tmLs_iff.mpr fun d hd => tm_mono (by omega) (tmT_iff.mp ht d hd), by rw [dp_tup, dp_lst]; omega, by show shLL xs + 2 ≤ 2 * (shLL xs + 3) + 20000; omega⟩
  | flL xs =>
    intro ht _
    exact ⟨tmT_iff.mpr fun d hd => tm_mono (by omega) (tmLs_iff.mp ht d hd), by rw [dp_tup, dp_lst]; omega, by show shLL xs + 3 ≤ 2 * (shLL xs + 2) + 20000; omega⟩
  | inT xs k e e' hk h ih =>
    intro ht hs
    have he : e ∈ xs := List.mem_of_getElem? hk
    have h3 := shLL_mem he
    have h4 : shLL xs + 3 ≤ 900000 := hs
    obtain ⟨i1, i2, i3⟩ := ih (tmT_iff.mp ht e he) (by omega)
    have h5 := shLL_set xs k e e' hk
    refine ⟨tmT_iff.mpr fun d hd => ?_, ?_, ?_⟩
    · rcases List.mem_or_eq_of_mem_set hd with hd | rfl
      · exact tm_mono (by omega) (tmT_iff.mp ht d hd)
      · exact i1
    · have := dpL_mem he
      have := dpL_le (ds := xs.set k e') (k := PyData.depthAll (pdL xs) + 2) fun d hd => by
        rcases List.mem_or_eq_of_mem_set hd with hd | rfl
        · have := dpL_mem hd; omega
        · omega
      rw [dp_tup, dp_tup]; omega
    · show shLL _ + 3 ≤ 2 * (shLL xs + 3) + 20000
      omega
  | inL xs k e e' hk h ih =>
    intro ht hs
    have he : e ∈ xs := List.mem_of_getElem? hk
    have h3 := shLL_mem he
    have h4 : shLL xs + 2 ≤ 900000 := hs
    obtain ⟨i1, i2, i3⟩ := ih (tmLs_iff.mp ht e he) (by omega)
    have h5 := shLL_set xs k e e' hk
    refine ⟨tmLs_iff.mpr fun d hd => ?_, ?_, ?_⟩
    · rcases List.mem_or_eq_of_mem_set hd with hd | rfl
      · exact tm_mono (by omega) (tmLs_iff.mp ht d hd)
      · exact i1
    · have := dpL_mem he
      have := dpL_le (ds := xs.set k e') (k := PyData.depthAll (pdL xs) + 2) fun d hd => by
        rcases List.mem_or_eq_of_mem_set hd with hd | rfl
        · have := dpL_mem hd; omega
        · omega
      rw [dp_lst, dp_lst]; omega
    · show shLL _ + 2 ≤ 2 * (shLL xs + 2) + 20000
      omega

def Kept (S S' : Sd) (u : Addr) : Prop := ∀ a o, a ≠ u → S a = some o → S' a = some o
theorem Kept.of {S S' : Sd} {u : Addr} (h : Oth S S' u) : Kept S S' u := fun a o ha e => (h a ha).trans e
theorem Kept.all {S S' : Sd} {u : Addr} (h : ∀ a o, S a = some o → S' a = some o) : Kept S S' u := fun a o _ e => h a o e
theorem Kept.trans {S S1 S2 : Sd} {u : Addr} (h : Kept S S1 u) (k : Kept S1 S2 u) : Kept S S2 u := fun a o ha e => k a o ha (h a o ha e)
theorem Urn.kept {S S' : Sd} {u : Addr} {B : Int} (h : Urn S u B) (k : ∀ a o, S a = some o → S' a = some o) : Urn S' u B := by
  obtain ⟨g, c, n, e, r⟩ := h
  exact ⟨g, c, n, k _ _ e, r⟩

def claimB (z : Str) (n : Int) : D → Bool
  | .tup (.str y :: r) => decide ((r.length : Int) + 1 = n) && decide (y = z)
  | _ => false

/-! ### what is due of claims about forms -/
def aboveF (A B C : Int) (p : D) : Bool := match p with
  | .tup [.int x, .int y] => !(decide (x = 0) && decide (y = 0)) && decide (9 * (valF A B C x y * valF A B C x y) ≤ undF A B C)
  | _ => false
def turT (A B C : Int) (t : D) : D := match t with
  | .tup [.tup [.int p, .int q], .tup [.int r, .int s]] => tri3 (valF A B C p r) (trB A B C ⟨p, q, r, s⟩) (valF A B C q s)
  | _ => .non
def wfT (w : D) (n : Int) : D := match w with
  | .str z => tri3 (n * fmA (nuL z.cps.toList)) (n * fmB (nuL z.cps.toList)) (n * fmC (nuL z.cps.toList))
  | _ => .non
def belowF (A B C : Int) (p : D) : Bool := match p with
  | .tup [w, t, .int n] => isStepD w && (isTurnD t && (!decide (n = 0) && deq (turT A B C t) (wfT w n)))
  | _ => false
noncomputable def formB (f : Int → Int → Int → D → Bool) (a b c p : D) : Bool := match a, b, c with
  | .int A, .int B, .int C => okF A B C && f A B C p
  | _, _, _ => false
noncomputable def evB (c p : D) : Bool := match c with
  | .tup [.str z, a, b, d] => if z = "form below" then formB belowF a b d p else if z = "form above" then formB aboveF a b d p else false
  | _ => false
/-- no claim of another kind -/
def clean (c _p : D) : Prop := match c with
  | .tup (.str z :: r) => (r.length = 1 → z ≠ "even" ∧ z ≠ "uneven" ∧ z ≠ "below" ∧ z ≠ "above") ∧ (r.length = 2 → z ≠ "same") ∧ (r.length = 3 → z ≠ "triple")
  | _ => True
theorem turT_tb (A B C : Int) (m : M2) : turT A B C (tbD m) = tri3 (valF A B C m.p m.r) (trB A B C m) (valF A B C m.q m.s) := rfl
theorem wfT_of (l : List Nat) (n : Int) : wfT (.str (ofL l)) n = tri3 (n * fmA (nuL l)) (n * fmB (nuL l)) (n * fmC (nuL l)) := by
  show tri3 (n * fmA (nuL l.toArray.toList)) (n * fmB (nuL l.toArray.toList)) (n * fmC (nuL l.toArray.toList)) = _
  simp
/-- a form, or None -/
noncomputable def formIn (a b c : D) : D := match a, b, c with
  | .int A, .int B, .int C => if okF A B C = true then fmD A B C else .non
  | _, _, _ => .non
theorem formIn_wh {a b c : D} (h : (isWh a && (isWh b && isWh c)) = false) : formIn a b c = .non ∧ ∀ f p, formB f a b c p = false := by
  cases a <;> cases b <;> cases c <;> first | exact ⟨rfl, fun _ _ => rfl⟩ | cases h
theorem ev_below (a b d p : D) : evB (.tup [.str "form below", a, b, d]) p = formB belowF a b d p := by
  unfold evB
  dsimp only
  rw [if_pos rfl]
theorem ev_above (a b d p : D) : evB (.tup [.str "form above", a, b, d]) p = formB aboveF a b d p := by
  unfold evB
  dsimp only
  rw [if_neg (show (Str.ofString "form above") ≠ "form below" by decide +kernel), if_pos rfl]
theorem mpI_split {L : List Int} {p r : List D} {x : D} (e : L.map D.int = p ++ x :: r) : ∃ (M : List Int) (a : Int) (R : List Int), L = M ++ a :: R ∧ x = .int a ∧ p = M.map D.int := by
  obtain ⟨M, T, rfl, h1, h2⟩ := List.map_eq_append_iff.mp e
  obtain ⟨a, R, rfl, h3, h4⟩ := List.map_eq_cons_iff.mp h2
  exact ⟨M, a, R, rfl, h3.symm, h1.symm⟩
theorem mpI_inj {L M : List Int} (h : L.map D.int = M.map D.int) : L = M := List.map_inj_right (fun _ _ h => by injection h) |>.mp h

def k_HOLD (z : Str) : Option D := if z = "even" then some (.fn "even_holds") else if z = "uneven" then some (.fn "uneven_holds") else if z = "below" then some (.fn "below_holds") else if z = "above" then some (.fn "above_holds") else none
def k_HOLD_SAME (z : Str) : Option D := if z = "same" then some (.fn "same_holds") else none
def k_HOLD_OF_THREE (z : Str) : Option D := if z = "triple" then some (.fn "triple_holds") else if z = "form below" then some (.fn "form_below_holds") else if z = "form above" then some (.fn "form_above_holds") else none

def sp_is_whole : SpD := fun ds S Q _ => ∃ d, ds = [d] ∧ isData d = true ∧ Q (.bl (isWh d)) S
theorem len_is_whole : ∀ ds S Q E, sp_is_whole ds S Q E → ds.length = 1 := fun _ _ _ _ ⟨_, e, _⟩ => by rw [e]; rfl

def sp_are_wholes : SpD := fun ds S Q _ => ∃ xs n, ds = [.tup xs] ∧ sm n (.tup xs) = true ∧ xs.length ≤ 100000 ∧ Q (.bl (xs.all isWh)) S
theorem len_are_wholes : ∀ ds S Q E, sp_are_wholes ds S Q E → ds.length = 1 := fun _ _ _ _ ⟨_, _, e, _⟩ => by rw [e]; rfl

def sp_shared_by : SpD := fun ds S Q _ => ∃ a b : Int, ds = [.int a, .int b] ∧ Q (.int (Int.gcd a b : Nat)) S
theorem len_shared_by : ∀ ds S Q E, sp_shared_by ds S Q E → ds.length = 2 := fun _ _ _ _ ⟨_, _, e, _⟩ => by rw [e]; rfl

def sp_side_of : SpD := fun ds S Q _ => ∃ x : Int, ds = [.int x] ∧ 0 ≤ x ∧ x.natAbs < 2 ^ 8500 ∧ ∀ y : Int, 0 ≤ y → y * y ≤ x → x < (y + 1) * (y + 1) → Q (.int y) S
theorem len_side_of : ∀ ds S Q E, sp_side_of ds S Q E → ds.length = 1 := fun _ _ _ _ ⟨_, e, _⟩ => by rw [e]; rfl

def sp_is_square : SpD := fun ds S Q _ => ∃ x : Int, ds = [.int x] ∧ x.natAbs < 2 ^ 3400 ∧ Q (.bl (isSqB x)) S
theorem len_is_square : ∀ ds S Q E, sp_is_square ds S Q E → ds.length = 1 := fun _ _ _ _ ⟨_, e, _⟩ => by rw [e]; rfl

def sp_table_of_row : SpD := fun ds S Q _ => ∃ (L : List Int) (c : Nat) (d : D), ds = [d] ∧ (d = ringD L ∨ d = .lst (L.map D.int)) ∧ (∀ a ∈ L, a.natAbs + 1 ≤ 2 ^ c) ∧ c ≤ 100 ∧ L.length ≤ 200 ∧ Q (.tup [.int (t4L L).p, .int (t4L L).q, .int (t4L L).r, .int (t4L L).s]) S
theorem len_table_of_row : ∀ ds S Q E, sp_table_of_row ds S Q E → ds.length = 1 := fun _ _ _ _ ⟨_, _, _, e, _⟩ => by rw [e]; rfl

def sp_form_of_row : SpD := fun ds S Q _ => ∃ (L : List Int) (c : Nat), ds = [ringD L] ∧ (∀ a ∈ L, 1 ≤ a ∧ a.natAbs + 1 ≤ 2 ^ c) ∧ L ≠ [] ∧ c ≤ 100 ∧ L.length ≤ 200 ∧ c * L.length ≤ 4000 ∧ Q (frmD L) S
theorem len_form_of_row : ∀ ds S Q E, sp_form_of_row ds S Q E → ds.length = 1 := fun _ _ _ _ ⟨_, _, e, _⟩ => by rw [e]; rfl

def sp_is_word : SpD := fun ds S Q _ => ∃ d n, ds = [d] ∧ sm n d = true ∧ Q (.bl (isWordD d)) S
theorem len_is_word : ∀ ds S Q E, sp_is_word ds S Q E → ds.length = 1 := fun _ _ _ _ ⟨_, _, e, _⟩ => by rw [e]; rfl

def sp_is_pair_of : SpD := fun ds S Q _ => ∃ d, ds = [d] ∧ isData d = true ∧ Q (.bl (isPairD d)) S
theorem len_is_pair_of : ∀ ds S Q E, sp_is_pair_of ds S Q E → ds.length = 1 := fun _ _ _ _ ⟨_, e, _⟩ => by rw [e]; rfl

def sp_is_table : SpD := fun ds S Q _ => ∃ d n, ds = [d] ∧ sm n d = true ∧ Q (.bl (isTabD d)) S
theorem len_is_table : ∀ ds S Q E, sp_is_table ds S Q E → ds.length = 1 := fun _ _ _ _ ⟨_, _, e, _⟩ => by rw [e]; rfl

def sp_size_of : SpD := fun ds S Q _ => ∃ m n, ds = [tbD m] ∧ SzM m n ∧ 1 ≤ n ∧ n ≤ 100000 ∧ Q (.int (detM m)) S
theorem len_size_of : ∀ ds S Q E, sp_size_of ds S Q E → ds.length = 1 := fun _ _ _ _ ⟨_, _, e, _⟩ => by rw [e]; rfl

def sp_is_turning : SpD := fun ds S Q _ => ∃ d n, ds = [d] ∧ sm n d = true ∧ 1 ≤ n ∧ n ≤ 100000 ∧ Q (.bl (isTurnD d)) S
theorem len_is_turning : ∀ ds S Q E, sp_is_turning ds S Q E → ds.length = 1 := fun _ _ _ _ ⟨_, _, e, _⟩ => by rw [e]; rfl

def sp_look_turning : SpD := fun ds S Q E => ∃ d n, ds = [d] ∧ sm n d = true ∧ 1 ≤ n ∧ n ≤ 30000 ∧ (isTurnD d = true → Q .non S) ∧ (isTurnD d = false → E ⟨"NoTable", [], []⟩ S)
theorem len_look_turning : ∀ ds S Q E, sp_look_turning ds S Q E → ds.length = 1 := fun _ _ _ _ ⟨_, _, e, _⟩ => by rw [e]; rfl

def sp_Form___init__ : SpD := fun ds S Q E => ∃ (p : Addr) (a b c : D) (n : Nat), ds = [.obj p, a, b, c] ∧ sm n a = true ∧ sm n b = true ∧ sm n c = true ∧ 1 ≤ n ∧ n ≤ 9000 ∧ S p = some (.ins "Form" [] []) ∧
  (∀ A B C : Int, a = .int A → b = .int B → c = .int C → (undF A B C).natAbs < 2 ^ 3400 ∧ (okF A B C = true → Q .non (upS S p (.ins "Form" ["held", "held_under"] [tri3 A B C, .int (undF A B C)]))) ∧ (okF A B C = false → E ⟨"NoForm", ["under"], [.int (undF A B C)]⟩ S)) ∧
  ((isWh a && (isWh b && isWh c)) = false → E ⟨"NoForm", ["under"], [.non]⟩ S)
theorem len_Form___init__ : ∀ ds S Q E, sp_Form___init__ ds S Q E → ds.length = 4 := fun _ _ _ _ ⟨_, _, _, _, _, e, _⟩ => by rw [e]; rfl

def sp_Form_parts : SpD := fun ds S Q _ => ∃ d u : D, ds = [.inst "Form" ["held", "held_under"] [d, u]] ∧ Q d S
theorem len_Form_parts : ∀ ds S Q E, sp_Form_parts ds S Q E → ds.length = 1 := fun _ _ _ _ ⟨_, _, e, _⟩ => by rw [e]; rfl

def sp_Form_under_root : SpD := fun ds S Q _ => ∃ d u : D, ds = [.inst "Form" ["held", "held_under"] [d, u]] ∧ Q u S
theorem len_Form_under_root : ∀ ds S Q E, sp_Form_under_root ds S Q E → ds.length = 1 := fun _ _ _ _ ⟨_, _, e, _⟩ => by rw [e]; rfl

def sp_Form_value : SpD := fun ds S Q _ => ∃ (A B C x y : Int) (u : D) (n : Nat), ds = [.inst "Form" ["held", "held_under"] [tri3 A B C, u], .int x, .int y] ∧ A.natAbs < 2 ^ n ∧ B.natAbs < 2 ^ n ∧ C.natAbs < 2 ^ n ∧ x.natAbs < 2 ^ n ∧ y.natAbs < 2 ^ n ∧ 1 ≤ n ∧ n ≤ 9000 ∧ Q (.int (valF A B C x y)) S
theorem len_Form_value : ∀ ds S Q E, sp_Form_value ds S Q E → ds.length = 3 := fun _ _ _ _ ⟨_, _, _, _, _, _, _, e, _⟩ => by rw [e]; rfl

def sp_Form_turned : SpD := fun ds S Q E => ∃ (A B C : Int) (u d : D), ds = [.inst "Form" ["held", "held_under"] [tri3 A B C, u], d] ∧ A.natAbs < 2 ^ 1500 ∧ B.natAbs < 2 ^ 1500 ∧ C.natAbs < 2 ^ 1500 ∧ okF A B C = true ∧ sm 600 d = true ∧
  (∀ m, d = tbD m → (detM m).natAbs = 1 → Q (fmD (valF A B C m.p m.r) (trB A B C m) (valF A B C m.q m.s)) S) ∧ (isTurnD d = false → E ⟨"NoTable", [], []⟩ S)
theorem len_Form_turned : ∀ ds S Q E, sp_Form_turned ds S Q E → ds.length = 2 := fun _ _ _ _ ⟨_, _, _, _, _, e, _⟩ => by rw [e]; rfl

def sp_even_word : SpD := fun ds S Q _ => ∃ b a : Nat, ds = [.int b, .int a] ∧ b + a ≤ 1000000 ∧ Q (.str (ofL (evF b (b + a)))) S
theorem len_even_word : ∀ ds S Q E, sp_even_word ds S Q E → ds.length = 2 := fun _ _ _ _ ⟨_, _, e, _⟩ => by rw [e]; rfl

def sp_is_step_word : SpD := fun ds S Q _ => ∃ d n, ds = [d] ∧ sm n d = true ∧ Q (.bl (isStepD d)) S
theorem len_is_step_word : ∀ ds S Q E, sp_is_step_word ds S Q E → ds.length = 1 := fun _ _ _ _ ⟨_, _, e, _⟩ => by rw [e]; rfl

def sp_row_of_word : SpD := fun ds S Q _ => ∃ l : List Nat, ds = [.str (ofL l)] ∧ isAB l = true ∧ l.length ≤ 60 ∧ Q (nuD l) S
theorem len_row_of_word : ∀ ds S Q E, sp_row_of_word ds S Q E → ds.length = 1 := fun _ _ _ _ ⟨_, e, _⟩ => by rw [e]; rfl

/-- the numbers of a word's letters -/
def sp_form_by : SpD := fun ds S Q _ => ∃ l : List Nat, ds = [.str (ofL l)] ∧ isAB l = true ∧ l ≠ [] ∧ l.length ≤ 60 ∧ Q (fmD (fmA (nuL l)) (fmB (nuL l)) (fmC (nuL l))) S
theorem len_form_by : ∀ ds S Q E, sp_form_by ds S Q E → ds.length = 1 := fun _ _ _ _ ⟨_, e, _⟩ => by rw [e]; rfl

def tupOfB : D → Int → Bool
  | .tup xs, n => decide ((xs.length : Int) = n)
  | _, _ => false
def sp_is_tuple_of : SpD := fun ds S Q _ => ∃ (d : D) (n : Int) (m : Nat), ds = [d, .int n] ∧ sm m d = true ∧ Q (.bl (tupOfB d n)) S
theorem len_is_tuple_of : ∀ ds S Q E, sp_is_tuple_of ds S Q E → ds.length = 2 := fun _ _ _ _ ⟨_, _, _, e, _⟩ => by rw [e]; rfl

def sp_form_in : SpD := fun ds S Q _ => ∃ (a b c : D) (m : Nat), ds = [a, b, c] ∧ 1 ≤ m ∧ m ≤ 1000 ∧ sm m a = true ∧ sm m b = true ∧ sm m c = true ∧ ∀ S', (∀ a o, S a = some o → S' a = some o) → Q (formIn a b c) S'
theorem len_form_in : ∀ ds S Q E, sp_form_in ds S Q E → ds.length = 3 := fun _ _ _ _ ⟨_, _, _, _, e, _⟩ => by rw [e]; rfl

def sp_form_below_holds : SpD := fun ds S Q _ => ∃ (a b c p : D) (m k B : Nat), ds = [a, b, c, p] ∧ 1 ≤ m ∧ m ≤ 600 ∧ sm m a = true ∧ sm m b = true ∧ sm m c = true ∧ Tm m k B p ∧ ∀ S', (∀ a o, S a = some o → S' a = some o) → Q (.bl (formB belowF a b c p)) S'
theorem len_form_below_holds : ∀ ds S Q E, sp_form_below_holds ds S Q E → ds.length = 4 := fun _ _ _ _ ⟨_, _, _, _, _, _, _, e, _⟩ => by rw [e]; rfl
theorem formIn_none {a b c : D} (h : formIn a b c = .non) : ∀ f p, formB f a b c p = false := by
  cases a with
  | int A => cases b with
    | int B => cases c with
      | int C =>
        intro f p
        have h : (if okF A B C = true then fmD A B C else .non) = .non := h
        have : okF A B C = false := by
          cases e : okF A B C with
          | false => rfl
          | true => rw [if_pos e] at h; cases h
        show (okF A B C && _) = false
        rw [this, Bool.false_and]
      | _ => exact fun _ _ => rfl
    | _ => exact fun _ _ => rfl
  | _ => exact fun _ _ => rfl
theorem formIn_form {a b c : D} (h : formIn a b c ≠ .non) : ∃ A B C : Int, a = .int A ∧ b = .int B ∧ c = .int C ∧ okF A B C = true ∧ formIn a b c = fmD A B C := by
  cases a with
  | int A => cases b with
    | int B => cases c with
      | int C =>
        have e0 : formIn (.int A) (.int B) (.int C) = if okF A B C = true then fmD A B C else .non := rfl
        cases e : okF A B C with
        | false => rw [e0, if_neg (by rw [e]; decide)] at h; exact absurd rfl h
        | true => exact ⟨A, B, C, rfl, rfl, rfl, e, by rw [e0, if_pos e]⟩
      | _ => exact absurd rfl h
    | _ => exact absurd rfl h
  | _ => exact absurd rfl h
theorem tup_three {p : D} (h : tupOfB p 3 = true) : ∃ a b c, p = .tup [a, b, c] := by
  match p, h with
  | .tup [a, b, c], _ => exact ⟨a, b, c, rfl⟩
  | .tup [], h => exact absurd (show decide (((0 : Nat) : Int) = 3) = true from h) (by decide)
  | .tup [_], h => exact absurd (show decide (((1 : Nat) : Int) = 3) = true from h) (by decide)
  | .tup [_, _], h => exact absurd (show decide (((2 : Nat) : Int) = 3) = true from h) (by decide)
  | .tup (_ :: _ :: _ :: _ :: r), h =>
    have := of_decide_eq_true (show decide (((r.length + 1 + 1 + 1 + 1 : Nat) : Int) = 3) = true from h)
    omega
theorem step_word {w : D} (h : isStepD w = true) : isWordD w = true := by
  cases w with
  | str z => exact (Bool.and_eq_true_iff.mp (show (isWordD (.str z) && isStepL z.cps.toList) = true from h)).1
  | _ => exact absurd (show false = true from h) (by decide)

def sp_form_above_holds : SpD := fun ds S Q _ => ∃ (a b c p : D) (m k B : Nat), ds = [a, b, c, p] ∧ 1 ≤ m ∧ m ≤ 600 ∧ sm m a = true ∧ sm m b = true ∧ sm m c = true ∧ Tm m k B p ∧ B ≤ 16777216 ∧ ∀ S', (∀ a o, S a = some o → S' a = some o) → Q (.bl (formB aboveF a b c p)) S'
theorem len_form_above_holds : ∀ ds S Q E, sp_form_above_holds ds S Q E → ds.length = 4 := fun _ _ _ _ ⟨_, _, _, _, _, _, _, e, _⟩ => by rw [e]; rfl
theorem tup_two {p : D} (h : tupOfB p 2 = true) : ∃ a b, p = .tup [a, b] := by
  match p, h with
  | .tup [a, b], _ => exact ⟨a, b, rfl⟩
  | .tup [], h => exact absurd (show decide (((0 : Nat) : Int) = 2) = true from h) (by decide)
  | .tup [_], h => exact absurd (show decide (((1 : Nat) : Int) = 2) = true from h) (by decide)
  | .tup (_ :: _ :: _ :: r), h =>
    have := of_decide_eq_true (show decide (((r.length + 1 + 1 + 1 : Nat) : Int) = 2) = true from h)
    omega

def sp_holds : SpD := fun ds S Q E => ∃ (c p : D) (m k B : Nat), ds = [c, p] ∧ Tm m k B c ∧ Tm m k B p ∧ 1 ≤ m ∧ m ≤ 600 ∧ B ≤ 16777216 ∧ clean c p ∧ ∀ S', (∀ a o, S a = some o → S' a = some o) → Q (.bl (evB c p)) S'
theorem len_holds : ∀ ds S Q E, sp_holds ds S Q E → ds.length = 2 := fun _ _ _ _ ⟨_, _, _, _, _, e, _⟩ => by rw [e]; rfl

def sp_law_urn : SpD := fun ds S Q _ => ∃ (ns : List Int) (at_ : Int), ds = [.lst (ns.map D.int), .int at_] ∧ 0 ≤ at_ ∧ at_ < 100 ∧ ∀ u S', S u = none → Urn S' u 0 → Oth S S' u → Q (.obj u) S'
theorem len_law_urn : ∀ ds S Q E, sp_law_urn ds S Q E → ds.length = 2 := fun _ _ _ _ ⟨_, _, e, _⟩ => by rw [e]; rfl

def sp_law_draw : SpD := fun ds S Q _ => ∃ u w B, ds = [.obj u, .int w] ∧ Urn S u B ∧ B ≤ 2 ^ 100 ∧ 0 < w ∧ w < 2 ^ 1000 ∧ ∀ n S', 0 ≤ n → n < w → Urn S' u (B + 1) → Oth S S' u → Q (.int n) S'
theorem len_law_draw : ∀ ds S Q E, sp_law_draw ds S Q E → ds.length = 2 := fun _ _ _ _ ⟨_, _, _, e, _⟩ => by rw [e]; rfl

def sp_law_whole : SpD := fun ds S Q _ => ∃ d, ds = [d] ∧ isData d = true ∧ Q (.bl (isWh d)) S
theorem len_law_whole : ∀ ds S Q E, sp_law_whole ds S Q E → ds.length = 1 := fun _ _ _ _ ⟨_, e, _⟩ => by rw [e]; rfl

def sp_law_shared : SpD := fun ds S Q _ => ∃ a b : Int, ds = [.int a, .int b] ∧ Q (.int (Int.gcd a b : Nat)) S
theorem len_law_shared : ∀ ds S Q E, sp_law_shared ds S Q E → ds.length = 2 := fun _ _ _ _ ⟨_, _, e, _⟩ => by rw [e]; rfl

def sp_law_side : SpD := fun ds S Q _ => ∃ x : Int, ds = [.int x] ∧ 0 ≤ x ∧ x.natAbs < 2 ^ 3400 ∧ ∀ y : Int, 0 ≤ y → y * y ≤ x → x < (y + 1) * (y + 1) → Q (.int y) S
theorem len_law_side : ∀ ds S Q E, sp_law_side ds S Q E → ds.length = 1 := fun _ _ _ _ ⟨_, e, _⟩ => by rw [e]; rfl

def sp_law_is_square : SpD := fun ds S Q _ => ∃ x : Int, ds = [.int x] ∧ x.natAbs < 2 ^ 3400 ∧ Q (.bl (isSqB x)) S
theorem len_law_is_square : ∀ ds S Q E, sp_law_is_square ds S Q E → ds.length = 1 := fun _ _ _ _ ⟨_, e, _⟩ => by rw [e]; rfl

def sp_law_even_word : SpD := fun ds S Q _ => ∃ b a : Nat, ds = [.int b, .int a] ∧ b + a ≤ 1000000 ∧ Q (.str (ofL (evF b (b + a)))) S
theorem len_law_even_word : ∀ ds S Q E, sp_law_even_word ds S Q E → ds.length = 2 := fun _ _ _ _ ⟨_, _, e, _⟩ => by rw [e]; rfl

def sp_law_counts : SpD := fun ds S Q _ => ∃ (u : Addr) (B : Int) (most : Nat), ds = [.obj u, .int most] ∧ Urn S u B ∧ B ≤ 2 ^ 97 ∧ 1 ≤ most ∧ most ≤ 1000 ∧ ∀ (b a : Nat) S', 1 ≤ b + a → b + a ≤ most → Nat.gcd b (b + a) = 1 → Urn S' u (B + 10) → Oth S S' u → Q (.tup [.int b, .int a]) S'
theorem len_law_counts : ∀ ds S Q E, sp_law_counts ds S Q E → ds.length = 2 := fun _ _ _ _ ⟨_, _, _, e, _⟩ => by rw [e]; rfl

def sp_law_numbers : SpD := fun ds S Q _ => ∃ l : List Nat, ds = [.str (ofL l)] ∧ isAB l = true ∧ l.length ≤ 60 ∧ ∀ S', (∀ a o, S a = some o → S' a = some o) → Q (nuD l) S'
theorem len_law_numbers : ∀ ds S Q E, sp_law_numbers ds S Q E → ds.length = 1 := fun _ _ _ _ ⟨_, e, _⟩ => by rw [e]; rfl

def sp_law_ring_table : SpD := fun ds S Q _ => ∃ (L : List Int) (c : Nat), ds = [ringD L] ∧ (∀ a ∈ L, a.natAbs + 1 ≤ 2 ^ c) ∧ c ≤ 100 ∧ L.length ≤ 200 ∧ Q (.tup [.int (t4L L).p, .int (t4L L).q, .int (t4L L).r, .int (t4L L).s]) S
theorem len_law_ring_table : ∀ ds S Q E, sp_law_ring_table ds S Q E → ds.length = 1 := fun _ _ _ _ ⟨_, _, e, _⟩ => by rw [e]; rfl

def sp_law_bent (n : Nat) : SpD := fun ds S Q _ => ∃ (u : Addr) (d : D) (m k B : Nat) (U : Int), ds = [.obj u, d] ∧ Urn S u U ∧ U + 4 * n ≤ 2 ^ 100 ∧ Tm m k B d ∧ m ≤ 1800 ∧ B ≤ 900000 ∧ (pd d).depth < n ∧ ∀ d' S', Bent d d' → Urn S' u (U + 4 * n) → Oth S S' u → Q d' S'
theorem len_law_bent : ∀ n ds S Q E, sp_law_bent n ds S Q E → ds.length = 2 := fun _ _ _ _ _ ⟨_, _, _, _, _, _, e, _⟩ => by rw [e]; rfl
theorem none_law_bent : ∀ ds S Q E, ¬ sp_law_bent 0 ds S Q E := fun _ _ _ _ ⟨_, _, _, _, _, _, _, _, _, _, _, _, h, _⟩ => by omega
theorem atI_ex {l : List D} {i : Int} (h0 : 0 ≤ i) (h1 : i < l.length) : ∃ x, x ∈ l ∧ atI l i = some x := by
  obtain ⟨d, e, h⟩ := atI_some h0 h1
  exact ⟨d, h, e⟩

def sp_law_is_word : SpD := fun ds S Q _ => ∃ (d : D) (n : Nat), ds = [d] ∧ sm n d = true ∧ Q (.bl (isWordD d)) S
theorem len_law_is_word : ∀ ds S Q E, sp_law_is_word ds S Q E → ds.length = 1 := fun _ _ _ _ ⟨_, _, e, _⟩ => by rw [e]; rfl
theorem cnt_ab : ∀ l : List Nat, decide ((l.count 97 : Int) + (l.count 98 : Int) = (l.length : Int)) = isAB l
  | [] => rfl
  | c :: l => by
    have ih := cnt_ab l
    have h1 := List.count_le_length (a := 97) (l := l)
    have h2 : l.count 97 + l.count 98 ≤ l.length := cnt_le l
    rw [show isAB (c :: l) = (decide (c = 97 ∨ c = 98) && isAB l) from rfl, ← ih, List.count_cons, List.count_cons, List.length_cons]
    by_cases a : c = 97
    · subst a
      simp
      omega
    · by_cases b : c = 98
      · subst b
        simp
        omega
      · simp [a, b]
        omega
where cnt_le : ∀ l : List Nat, l.count 97 + l.count 98 ≤ l.length
  | [] => Nat.le_refl _
  | c :: l => by
    have := cnt_le l
    rw [List.count_cons, List.count_cons, List.length_cons]
    by_cases a : c = 97
    · subst a; simp; omega
    · by_cases b : c = 98
      · subst b; simp; omega
      · simp [a, b]; omega

def sp_law_is_claim : SpD := fun ds S Q _ => ∃ (d : D) (z : Str) (n : Nat) (m : Nat), ds = [d, .str z, .int n] ∧ sm m d = true ∧ 1 ≤ n ∧ Q (.bl (claimB z n d)) S
theorem len_law_is_claim : ∀ ds S Q E, sp_law_is_claim ds S Q E → ds.length = 3 := fun _ _ _ _ ⟨_, _, _, _, e, _⟩ => by rw [e]; rfl

def sp_law_copied (n : Nat) : SpD := fun ds S Q _ => ∃ (d : D) (m k B : Nat), ds = [d] ∧ Tm m k B d ∧ B ≤ 16777216 ∧ (pd d).depth < n ∧ Q d S
theorem len_law_copied : ∀ n ds S Q E, sp_law_copied n ds S Q E → ds.length = 1 := fun _ _ _ _ _ ⟨_, _, _, _, e, _⟩ => by rw [e]; rfl
theorem none_law_copied : ∀ ds S Q E, ¬ sp_law_copied 0 ds S Q E := fun _ _ _ _ ⟨_, _, _, _, _, _, _, h, _⟩ => by omega

/-- whether three things are a form's numbers -/
noncomputable def formTD (a b c : D) : Bool := match a, b, c with
  | .int A, .int B, .int C => okF A B C
  | _, _, _ => false
def sp_law_is_form : SpD := fun ds S Q _ => ∃ (a b c : D) (n : Nat), ds = [.tup [a, b, c]] ∧ sm n a = true ∧ sm n b = true ∧ sm n c = true ∧ 1 ≤ n ∧ n ≤ 1000 ∧ Q (.bl (formTD a b c)) S
theorem len_law_is_form : ∀ ds S Q E, sp_law_is_form ds S Q E → ds.length = 1 := fun _ _ _ _ ⟨_, _, _, _, e, _⟩ => by rw [e]; rfl

def sp_law_is_step : SpD := fun ds S Q _ => ∃ l : List Nat, ds = [.str (ofL l)] ∧ l.length ≤ 100000 ∧ Q (.bl (isStepL l)) S
theorem len_law_is_step : ∀ ds S Q E, sp_law_is_step ds S Q E → ds.length = 1 := fun _ _ _ _ ⟨_, e, _⟩ => by rw [e]; rfl

def sp_law_is_turning : SpD := fun ds S Q _ => ∃ d n, ds = [d] ∧ sm n d = true ∧ 1 ≤ n ∧ n ≤ 1000 ∧ Q (.bl (isTurnD d)) S
theorem len_law_is_turning : ∀ ds S Q E, sp_law_is_turning ds S Q E → ds.length = 1 := fun _ _ _ _ ⟨_, _, e, _⟩ => by rw [e]; rfl
def rowW (d : D) : Bool := match d with
  | .tup [a, b] => isWh a && isWh b
  | _ => false
theorem turn_rows {a b : D} : isTurnD (.tup [a, b]) = true → rowW a = true ∧ rowW b = true := fun h => by
  obtain ⟨m, e, _⟩ := turn_of h
  unfold tbD at e
  injection e with e
  injection e with e1 e2
  injection e2 with e2 _
  subst e1 e2
  exact ⟨rfl, rfl⟩
theorem rowW_inv {d : D} (h : rowW d = true) : ∃ i j : Int, d = .tup [.int i, .int j] := by
  unfold rowW at h
  split at h
  · rename_i a b
    obtain ⟨h1, h2⟩ := Bool.and_eq_true_iff.mp h
    obtain ⟨i, rfl⟩ := isWh_int h1
    obtain ⟨j, rfl⟩ := isWh_int h2
    exact ⟨i, j, rfl⟩
  · cases h

def sp_law_turned_form : SpD := fun ds S Q _ => ∃ (A B C : Int) (m : M2) (n : Nat), ds = [tri3 A B C, tbD m] ∧ A.natAbs < 2 ^ n ∧ B.natAbs < 2 ^ n ∧ C.natAbs < 2 ^ n ∧ SzM m n ∧ n ≤ 1000 ∧ Q (tri3 (valF A B C m.p m.r) (trB A B C m) (valF A B C m.q m.s)) S
theorem len_law_turned_form : ∀ ds S Q E, sp_law_turned_form ds S Q E → ds.length = 2 := fun _ _ _ _ ⟨_, _, _, _, _, e, _⟩ => by rw [e]; rfl

def sp_law_word_form : SpD := fun ds S Q _ => ∃ l : List Nat, ds = [.str (ofL l)] ∧ isAB l = true ∧ l ≠ [] ∧ l.length ≤ 60 ∧ ∀ S', (∀ a o, S a = some o → S' a = some o) → Q (tri3 (fmA (nuL l)) (fmB (nuL l)) (fmC (nuL l))) S'
theorem len_law_word_form : ∀ ds S Q E, sp_law_word_form ds S Q E → ds.length = 1 := fun _ _ _ _ ⟨_, e, _⟩ => by rw [e]; rfl

def sp_law_due : SpD := fun ds S Q _ => ∃ (c p : D) (m k B : Nat), ds = [c, p] ∧ Tm m k B c ∧ Tm m k B p ∧ 1 ≤ m ∧ m ≤ 600 ∧ B ≤ 16777216 ∧ ∀ S', (∀ a o, S a = some o → S' a = some o) → Q (.bl (evB c p)) S'
theorem len_law_due : ∀ ds S Q E, sp_law_due ds S Q E → ds.length = 2 := fun _ _ _ _ ⟨_, _, _, _, _, e, _⟩ => by rw [e]; rfl
theorem claimB_inv {z : Str} {n : Nat} {d : D} (h : claimB z n d = true) : ∃ r, d = .tup (.str z :: r) ∧ r.length + 1 = n := by
  match d, h with
  | .tup (.str y :: r), h =>
    obtain ⟨h1, h2⟩ := Bool.and_eq_true_iff.mp (show (decide ((r.length : Int) + 1 = n) && decide (y = z)) = true from h)
    have h1 := of_decide_eq_true h1
    obtain rfl := of_decide_eq_true h2
    exact ⟨r, rfl, by omega⟩
theorem claimB_four {z : Str} {d : D} (h : claimB z 4 d = true) : ∃ x y w, d = .tup [.str z, x, y, w] := by
  obtain ⟨r, e, hl⟩ := claimB_inv (n := 4) h
  match r, hl, e with
  | [x, y, w], _, e => exact ⟨x, y, w, e⟩
theorem formTD_no {a b c : D} (h : formTD a b c = false) : ∀ f p, formB f a b c p = false := by
  intro f p
  cases a <;> first | rfl | (rename_i A; cases b <;> first | rfl | (rename_i B; cases c <;> first | rfl | (rename_i C; show (okF A B C && _) = false; rw [show okF A B C = false from h, Bool.false_and])))
theorem formTD_yes {a b c : D} (h : formTD a b c = true) : ∃ A B C : Int, a = .int A ∧ b = .int B ∧ c = .int C ∧ okF A B C = true ∧ ∀ f p, formB f a b c p = f A B C p := by
  unfold formTD at h
  split at h
  · rename_i A B C
    exact ⟨A, B, C, rfl, rfl, rfl, h, fun f p => by show (okF A B C && f A B C p) = _; rw [h, Bool.true_and]⟩
  · cases h

def sp_law_looked_right : SpD := fun ds S Q _ => ∃ (c p : D) (m k B : Nat), ds = [c, p] ∧ Tm m k B c ∧ Tm m k B p ∧ 1 ≤ m ∧ m ≤ 600 ∧ k ≤ 60 ∧ B ≤ 16777216 ∧ clean c p ∧ ∀ S', (∀ a o, S a = some o → S' a = some o) → Q (.bl true) S'
theorem len_law_looked_right : ∀ ds S Q E, sp_law_looked_right ds S Q E → ds.length = 2 := fun _ _ _ _ ⟨_, _, _, _, _, e, _⟩ => by rw [e]; rfl
theorem x_repr_tm {n k B : Nat} {d : D} {S : Sd} {Q : DK} (h : Tm n k B d) (hn : n ≤ 1900) (hk : k ≤ 60) (hB : B ≤ 16777216) (q : Q (.str (shownD d)) S) : rdRepr [d] S Q := by
  rw [x_repr]
  have e : valD S d = d := by
    have := tm_lay h.t
    cases d <;> first | rfl | cases this.1
  rw [e]
  exact ⟨h.shD hn hk hB, q⟩

def sp_law_all_looked_right : SpD := fun ds S Q _ => ∃ (u : Addr) (c p : D) (m k B : Nat) (U : Int), ds = [.obj u, c, p] ∧ Urn S u U ∧ U ≤ 2 ^ 90 ∧ Tm m k B c ∧ Tm m k B p ∧ 1 ≤ m ∧ m ≤ 500 ∧ k ≤ 3 ∧ B ≤ 900000 ∧ clean c p ∧ clean p c ∧ (∀ c', Bent c c' → clean c' p) ∧ (∀ p', Bent p p' → clean c p') ∧ (∀ c' p', Bent c c' → Bent p p' → clean c' p') ∧
  ∀ S', (∀ a o, a ≠ u → S a = some o → S' a = some o) → Urn S' u (U + 200) → Q (.bl true) S'
theorem len_law_all_looked_right : ∀ ds S Q E, sp_law_all_looked_right ds S Q E → ds.length = 3 := fun _ _ _ _ ⟨_, _, _, _, _, _, _, e, _⟩ => by rw [e]; rfl
theorem for_lst_gB {t : TAD} {g : TGD} {tb : TSD} {D : EndsD} {σ : Si} {S : Sd} (h : t σ S fun ds S1 => ds.length ≤ 16777216 ∧ dLoop g tb D ds σ S1) : dFor (dItr (dLst t)) g tb D σ S := h
theorem ix0_gB {a b : D} {S : Sd} {Q : DK} (q : Q a S) : rdIx (.tup [a, b]) (.int 0) S Q := by rw [x_ixt, atI_0]; exact q
theorem ix1_gB {a b : D} {S : Sd} {Q : DK} (q : Q b S) : rdIx (.tup [a, b]) (.int 1) S Q := by rw [x_ixt, atI_1]; exact q
theorem Tm.wide {m k B m' k' B' : Nat} {d : D} (h : Tm m k B d) (hm : m ≤ m') (hk : k ≤ k') (hB : B ≤ B') : Tm m' k' B' d := ⟨tm_mono hm h.t, Nat.le_trans h.dp hk, Nat.le_trans h.sh hB⟩
theorem Bent.Tm {m k B : Nat} {d d' : D} (h : Bent d d') (t : Tm m k B d) (m1 : 1 ≤ m) (hm : m ≤ 1800) (hB : B ≤ 900000) : Tm (m + 1) (k + 2) (2 * B + 20000) d' := by
  obtain ⟨h1, h2, h3⟩ := Bent.tm hm m1 h t.t (Nat.le_trans t.sh hB)
  have := t.dp
  have := t.sh
  exact ⟨h1, by omega, by omega⟩

def sp_law_turning : SpD := fun ds S Q _ => ∃ (u : Addr) (B : Int), ds = [.obj u] ∧ Urn S u B ∧ B ≤ 2 ^ 97 ∧ ∀ (m m' : M2) S', SzM m 40 → SzM m' 40 → Urn S' u (B + 20) → Oth S S' u → Q (.tup [tbD m, tbD m']) S'
theorem len_law_turning : ∀ ds S Q E, sp_law_turning ds S Q E → ds.length = 1 := fun _ _ _ _ ⟨_, _, e, _⟩ => by rw [e]; rfl

/-! readings, printed by gen.py -/
def rsX : List Str := ["NoForm", "NoTable"]
abbrev N_is_whole : List Str := ["thing"]
def t_is_whole (Ed : XKD) : TSD :=
  (dRet (dAndV (dCB rdIsi (dCons (dVar 0) (dCons (dC (.ty "int")) dNil))) (dNotV (dCB rdIsi (dCons (dVar 0) (dCons (dC (.ty "bool")) dNil))))))
theorem st_is_whole (a0 : D) : startD N_is_whole [a0] = [some a0] := rfl
abbrev N_are_wholes : List Str := ["things", "thing"]
def t_are_wholes (Ed : XKD) : TSD :=
  (dRet (dCB rdAll (dCons (dComp (dItr (dVar 0)) (dName 1) dYes (dCall sp_is_whole [] wd0 (dCons (dVar 1) dNil)) [1]) dNil)))
theorem st_are_wholes (a0 : D) : startD N_are_wholes [a0] = [some a0, none] := rfl
abbrev N_shared_by : List Str := ["one", "other"]
def t_shared_by (Ed : XKD) : TSD :=
  (dSeq (dPar 0 1 (dCons (dCB rdAbs (dCons (dVar 0) dNil)) (dCons (dCB rdAbs (dCons (dVar 1) dNil)) dNil)))
  (dSeq (dWhile (dTest (dOp rdGt (dVar 1) (dC (.int 0))))
  (dPar 0 1 (dCons (dVar 1) (dCons (dOp rdMod (dVar 0) (dVar 1)) dNil))))
  (dRet (dVar 0))))
theorem st_shared_by (a0 a1 : D) : startD N_shared_by [a0, a1] = [some a0, some a1] := rfl
abbrev N_side_of : List Str := ["square", "side", "closer"]
def t_side_of (Ed : XKD) : TSD :=
  (dSeq (dIfS (dTest (dOp rdLt (dVar 0) (dC (.int 2)))) (dRet (dVar 0)) dNext)
  (dSeq (dSet 1 (dOp rdShl (dC (.int 1)) (dOp rdFdiv (dOp rdAdd (dBits (dVar 0)) (dC (.int 1))) (dC (.int 2)))))
  (dSeq (dSet 2 (dOp rdFdiv (dOp rdAdd (dVar 1) (dOp rdFdiv (dVar 0) (dVar 1))) (dC (.int 2))))
  (dSeq (dWhile (dTest (dOp rdLt (dVar 2) (dVar 1)))
  (dSeq (dSet 1 (dVar 2))
  (dSet 2 (dOp rdFdiv (dOp rdAdd (dVar 1) (dOp rdFdiv (dVar 0) (dVar 1))) (dC (.int 2))))))
  (dRet (dVar 1))))))
theorem st_side_of (a0 : D) : startD N_side_of [a0] = [some a0, none, none] := rfl
abbrev N_is_square : List Str := ["number"]
def t_is_square (Ed : XKD) : TSD :=
  (dRet (dAndV (dOp rdGe (dVar 0) (dC (.int 0))) (dOp rdEq (dOp rdPow (dCall sp_side_of [] (wd Ed) (dCons (dVar 0) dNil)) (dC (.int 2))) (dVar 0))))
theorem st_is_square (a0 : D) : startD N_is_square [a0] = [some a0] := rfl
abbrev N_table_of_row : List Str := ["row", "p", "q", "r", "s", "number"]
def t_table_of_row (Ed : XKD) : TSD :=
  (dSeq (dAsg (dTup (dCons (dC (.int 1)) (dCons (dC (.int 0)) (dCons (dC (.int 0)) (dCons (dC (.int 1)) dNil))))) (dTupG 4 (dGCons (dName 1) (dGCons (dName 2) (dGCons (dName 3) (dGCons (dName 4) dGNil))))))
  (dSeq (dFor (dItr (dVar 0)) (dName 5)
  (dSeq (dPar 1 2 (dCons (dOp rdAdd (dOp rdMulA (dVar 1) (dVar 5)) (dVar 2)) (dCons (dVar 1) dNil)))
  (dPar 3 4 (dCons (dOp rdAdd (dOp rdMulA (dVar 3) (dVar 5)) (dVar 4)) (dCons (dVar 3) dNil)))))
  (dRet (dTup (dCons (dVar 1) (dCons (dVar 2) (dCons (dVar 3) (dCons (dVar 4) dNil))))))))
theorem st_table_of_row (a0 : D) : startD N_table_of_row [a0] = [some a0, none, none, none, none, none] := rfl
abbrev N_form_of_row : List Str := ["row", "p", "q", "r", "s", "both"]
def t_form_of_row (Ed : XKD) : TSD :=
  (dSeq (dAsg (dCall sp_table_of_row [] (wd Ed) (dCons (dVar 0) dNil)) (dTupG 4 (dGCons (dName 1) (dGCons (dName 2) (dGCons (dName 3) (dGCons (dName 4) dGNil))))))
  (dSeq (dSet 5 (dCall sp_shared_by [] (wd Ed) (dCons (dCall sp_shared_by [] (wd Ed) (dCons (dVar 3) (dCons (dOp rdSub (dVar 4) (dVar 1)) dNil))) (dCons (dVar 2) dNil))))
  (dRet (dTup (dCons (dOp rdFdiv (dVar 3) (dVar 5)) (dCons (dOp rdFdiv (dOp rdSub (dVar 4) (dVar 1)) (dVar 5)) (dCons (dOp rdFdiv (dOp rdSub (dC (.int 0)) (dVar 2)) (dVar 5)) dNil)))))))
theorem st_form_of_row (a0 : D) : startD N_form_of_row [a0] = [some a0, none, none, none, none, none] := rfl
abbrev N_is_word : List Str := ["thing", "letter"]
def t_is_word (Ed : XKD) : TSD :=
  (dSeq (dIfS (dOr (dNot (dTest (dCB rdIsi (dCons (dVar 0) (dCons (dC (.ty "str")) dNil))))) (dNot (dTest (dChain rdLe rdLe (dC (.int 1)) (dCB rdLen (dCons (dVar 0) dNil)) (dC k_MOST_LETTERS))))) (dRet (dC (.bl false))) dNext)
  (dRet (dCB rdAll (dCons (dComp (dItr (dVar 0)) (dName 1) dYes (dOp rdInS (dVar 1) (dC k_LETTERS)) [1]) dNil))))
theorem st_is_word (a0 : D) : startD N_is_word [a0] = [some a0, none] := rfl
abbrev N_is_pair_of : List Str := ["thing"]
def t_is_pair_of (Ed : XKD) : TSD :=
  (dRet (dAndV (dCB rdIsi (dCons (dVar 0) (dCons (dC (.ty "tuple")) dNil))) (dOp rdEq (dCB rdLen (dCons (dVar 0) dNil)) (dC (.int 2)))))
theorem st_is_pair_of (a0 : D) : startD N_is_pair_of [a0] = [some a0] := rfl
abbrev N_is_table : List Str := ["thing", "row"]
def t_is_table (Ed : XKD) : TSD :=
  (dRet (dAndV (dCall sp_is_pair_of [] (wd Ed) (dCons (dVar 0) dNil)) (dCB rdAll (dCons (dComp (dItr (dVar 0)) (dName 1) dYes (dAndV (dCall sp_is_pair_of [] wd0 (dCons (dVar 1) dNil)) (dCall sp_are_wholes [] wd0 (dCons (dVar 1) dNil))) [1]) dNil))))
theorem st_is_table (a0 : D) : startD N_is_table [a0] = [some a0, none] := rfl
abbrev N_size_of : List Str := ["table", "p", "q", "r", "s"]
def t_size_of (Ed : XKD) : TSD :=
  (dSeq (dAsg (dVar 0) (dTupG 2 (dGCons (dTupG 2 (dGCons (dName 1) (dGCons (dName 2) dGNil))) (dGCons (dTupG 2 (dGCons (dName 3) (dGCons (dName 4) dGNil))) dGNil))))
  (dRet (dOp rdSub (dOp rdMulA (dVar 1) (dVar 4)) (dOp rdMulA (dVar 2) (dVar 3)))))
theorem st_size_of (a0 : D) : startD N_size_of [a0] = [some a0, none, none, none, none] := rfl
abbrev N_is_turning : List Str := ["thing"]
def t_is_turning (Ed : XKD) : TSD :=
  (dRet (dAndV (dCall sp_is_table [] (wd Ed) (dCons (dVar 0) dNil)) (dOp rdEq (dCB rdAbs (dCons (dCall sp_size_of [] (wd Ed) (dCons (dVar 0) dNil)) dNil)) (dC (.int 1)))))
theorem st_is_turning (a0 : D) : startD N_is_turning [a0] = [some a0] := rfl
abbrev N_look_turning : List Str := ["thing"]
def t_look_turning (Ed : XKD) : TSD :=
  (dIfS (dNot (dTest (dCall sp_is_turning [] (wd Ed) (dCons (dVar 0) dNil)))) (dRaise (wd Ed) ⟨"NoTable", [], []⟩) dNext)
theorem st_look_turning (a0 : D) : startD N_look_turning [a0] = [some a0] := rfl
abbrev N_Form___init__ : List Str := ["self", "a", "b", "c", "under"]
def t_Form___init__ (Ed : XKD) : TSD :=
  (dSeq (dIfS (dNot (dTest (dCall sp_are_wholes [] (wd Ed) (dCons (dTup (dCons (dVar 1) (dCons (dVar 2) (dCons (dVar 3) dNil)))) dNil)))) (dRaiseF1 (wd Ed) "NoForm" "under" (dCons (dC .non) dNil)) dNext)
  (dSeq (dSet 4 (dOp rdSub (dOp rdPow (dVar 2) (dC (.int 2))) (dOp rdMulA (dOp rdMulA (dC (.int 4)) (dVar 1)) (dVar 3))))
  (dSeq (dIfS (dOr (dTest (dOp rdLt (dVar 4) (dC (.int 1)))) (dTest (dCall sp_is_square [] (wd Ed) (dCons (dVar 4) dNil)))) (dRaiseF1 (wd Ed) "NoForm" "under" (dCons (dVar 4) dNil)) dNext)
  (dSeq (dPut "Form" "held" (dVar 0) (dTup (dCons (dVar 1) (dCons (dVar 2) (dCons (dVar 3) dNil)))))
  (dPut "Form" "held_under" (dVar 0) (dVar 4))))))
theorem st_Form___init__ (a0 a1 a2 a3 : D) : startD N_Form___init__ [a0, a1, a2, a3] = [some a0, some a1, some a2, some a3, none] := rfl
abbrev N_Form_parts : List Str := ["self"]
def t_Form_parts (Ed : XKD) : TSD :=
  (dRet (dFld "Form" "held" (dVar 0)))
theorem st_Form_parts (a0 : D) : startD N_Form_parts [a0] = [some a0] := rfl
abbrev N_Form_under_root : List Str := ["self"]
def t_Form_under_root (Ed : XKD) : TSD :=
  (dRet (dFld "Form" "held_under" (dVar 0)))
theorem st_Form_under_root (a0 : D) : startD N_Form_under_root [a0] = [some a0] := rfl
abbrev N_Form_value : List Str := ["self", "x", "y", "a", "b", "c"]
def t_Form_value (Ed : XKD) : TSD :=
  (dSeq (dAsg (dFld "Form" "held" (dVar 0)) (dTupG 3 (dGCons (dName 3) (dGCons (dName 4) (dGCons (dName 5) dGNil)))))
  (dRet (dOp rdAdd (dOp rdAdd (dOp rdMulA (dVar 3) (dOp rdPow (dVar 1) (dC (.int 2)))) (dOp rdMulA (dOp rdMulA (dVar 4) (dVar 1)) (dVar 2))) (dOp rdMulA (dVar 5) (dOp rdPow (dVar 2) (dC (.int 2)))))))
theorem st_Form_value (a0 a1 a2 : D) : startD N_Form_value [a0, a1, a2] = [some a0, some a1, some a2, none, none, none] := rfl
abbrev N_Form_turned : List Str := ["self", "by", "p", "q", "r", "s", "a", "b", "c", "middle"]
def t_Form_turned (Ed : XKD) : TSD :=
  (dSeq (dDrop (dCall sp_look_turning [] (wd Ed) (dCons (dVar 1) dNil)))
  (dSeq (dAsg (dVar 1) (dTupG 2 (dGCons (dTupG 2 (dGCons (dName 2) (dGCons (dName 3) dGNil))) (dGCons (dTupG 2 (dGCons (dName 4) (dGCons (dName 5) dGNil))) dGNil))))
  (dSeq (dAsg (dFld "Form" "held" (dVar 0)) (dTupG 3 (dGCons (dName 6) (dGCons (dName 7) (dGCons (dName 8) dGNil)))))
  (dSeq (dSet 9 (dOp rdAdd (dOp rdAdd (dOp rdMulA (dOp rdMulA (dOp rdMulA (dC (.int 2)) (dVar 6)) (dVar 2)) (dVar 3)) (dOp rdMulA (dVar 7) (dOp rdAdd (dOp rdMulA (dVar 2) (dVar 5)) (dOp rdMulA (dVar 3) (dVar 4))))) (dOp rdMulA (dOp rdMulA (dOp rdMulA (dC (.int 2)) (dVar 8)) (dVar 4)) (dVar 5))))
  (dRet (dMake "Form" sp_Form___init__ [] (wd Ed) (dCons (dMeth "Form" "value" sp_Form_value [] (wd Ed) (dVar 0) (dCons (dVar 2) (dCons (dVar 4) dNil))) (dCons (dVar 9) (dCons (dMeth "Form" "value" sp_Form_value [] (wd Ed) (dVar 0) (dCons (dVar 3) (dCons (dVar 5) dNil))) dNil)))))))))
theorem st_Form_turned (a0 a1 : D) : startD N_Form_turned [a0, a1] = [some a0, some a1, none, none, none, none, none, none, none, none] := rfl
abbrev N_even_word : List Str := ["many_b", "many_a", "many", "place"]
def t_even_word (Ed : XKD) : TSD :=
  (dSeq (dSet 2 (dOp rdAdd (dVar 0) (dVar 1)))
  (dRet (dBM "str" rdJoin (dC (.str "")) (dCons (dComp (dRng2 (dCons (dC (.int 1)) (dCons (dOp rdAdd (dVar 2) (dC (.int 1))) dNil))) (dName 3) dYes (dOp rdIx (dC (.str "ab")) (dOp rdSub (dOp rdFdiv (dOp rdMulA (dVar 3) (dVar 0)) (dVar 2)) (dOp rdFdiv (dOp rdMulA (dOp rdSub (dVar 3) (dC (.int 1))) (dVar 0)) (dVar 2)))) [3]) dNil))))
theorem st_even_word (a0 a1 : D) : startD N_even_word [a0, a1] = [some a0, some a1, none, none] := rfl
abbrev N_is_step_word : List Str := ["thing", "many_b"]
def t_is_step_word (Ed : XKD) : TSD :=
  (dSeq (dIfS (dNot (dTest (dCall sp_is_word [] (wd Ed) (dCons (dVar 0) dNil)))) (dRet (dC (.bl false))) dNext)
  (dSeq (dSet 1 (dBM "str" rdCount (dVar 0) (dCons (dC (.str "b")) dNil)))
  (dRet (dAndV (dOp rdEq (dCall sp_shared_by [] (wd Ed) (dCons (dVar 1) (dCons (dCB rdLen (dCons (dVar 0) dNil)) dNil))) (dC (.int 1))) (dOp rdEq (dVar 0) (dCall sp_even_word [] (wd Ed) (dCons (dVar 1) (dCons (dOp rdSub (dCB rdLen (dCons (dVar 0) dNil)) (dVar 1)) dNil))))))))
theorem st_is_step_word (a0 : D) : startD N_is_step_word [a0] = [some a0, none] := rfl
abbrev N_row_of_word : List Str := ["word", "letter"]
def t_row_of_word (Ed : XKD) : TSD :=
  (dRet (dSumT (dCons (dComp (dItr (dVar 0)) (dName 1) dYes (dKix k_NUMBERS (dVar 1)) [1]) dNil) (dCons (dTup dNil) dNil)))
theorem st_row_of_word (a0 : D) : startD N_row_of_word [a0] = [some a0, none] := rfl
abbrev N_form_by : List Str := ["word", "a", "b", "c"]
def t_form_by (Ed : XKD) : TSD :=
  (dSeq (dAsg (dCall sp_form_of_row [] (wd Ed) (dCons (dCall sp_row_of_word [] (wd Ed) (dCons (dVar 0) dNil)) dNil)) (dTupG 3 (dGCons (dName 1) (dGCons (dName 2) (dGCons (dName 3) dGNil)))))
  (dRet (dMake "Form" sp_Form___init__ [] (wd Ed) (dCons (dVar 1) (dCons (dVar 2) (dCons (dVar 3) dNil))))))
theorem st_form_by (a0 : D) : startD N_form_by [a0] = [some a0, none, none, none] := rfl
abbrev N_is_tuple_of : List Str := ["thing", "many"]
def t_is_tuple_of (Ed : XKD) : TSD :=
  (dRet (dAndV (dCB rdIsi (dCons (dVar 0) (dCons (dC (.ty "tuple")) dNil))) (dOp rdEq (dCB rdLen (dCons (dVar 0) dNil)) (dVar 1))))
theorem st_is_tuple_of (a0 a1 : D) : startD N_is_tuple_of [a0, a1] = [some a0, some a1] := rfl
abbrev N_form_in : List Str := ["a", "b", "c"]
def t_form_in (Ed : XKD) : TSD :=
  (dTry rsX (fun Wd => (dRet (dMake "Form" sp_Form___init__ [] Wd (dCons (dVar 0) (dCons (dVar 1) (dCons (dVar 2) dNil)))))) [⟨["NoForm"], none, fun a od x => (fun D σ S => x.cls = "NoForm" ∧ (dRet (dC .non)) D σ S)⟩] (wd Ed))
theorem st_form_in (a0 a1 a2 : D) : startD N_form_in [a0, a1, a2] = [some a0, some a1, some a2] := rfl
abbrev N_form_below_holds : List Str := ["a", "b", "c", "paper", "form", "word", "turning", "times", "number"]
def t_form_below_holds (Ed : XKD) : TSD :=
  (dSeq (dSet 4 (dCall sp_form_in [] (wd Ed) (dCons (dVar 0) (dCons (dVar 1) (dCons (dVar 2) dNil)))))
  (dSeq (dIfS (dOr (dTest (dOp rdIs (dVar 4) (dC .non))) (dNot (dTest (dCall sp_is_tuple_of [] (wd Ed) (dCons (dVar 3) (dCons (dC (.int 3)) dNil)))))) (dRet (dC (.bl false))) dNext)
  (dSeq (dAsg (dVar 3) (dTupG 3 (dGCons (dName 5) (dGCons (dName 6) (dGCons (dName 7) dGNil)))))
  (dSeq (dIfS (dOr (dNot (dTest (dCall sp_is_step_word [] (wd Ed) (dCons (dVar 5) dNil)))) (dOr (dNot (dTest (dCall sp_is_turning [] (wd Ed) (dCons (dVar 6) dNil)))) (dOr (dNot (dTest (dCall sp_is_whole [] (wd Ed) (dCons (dVar 7) dNil)))) (dTest (dOp rdEq (dVar 7) (dC (.int 0))))))) (dRet (dC (.bl false))) dNext)
  (dRet (dOp rdEq (dMeth "Form" "parts" sp_Form_parts [] (wd Ed) (dMeth "Form" "turned" sp_Form_turned [] (wd Ed) (dVar 4) (dCons (dVar 6) dNil)) dNil) (dCB rdTupA (dCons (dComp (dItr (dMeth "Form" "parts" sp_Form_parts [] (wd Ed) (dCall sp_form_by [] (wd Ed) (dCons (dVar 5) dNil)) dNil)) (dName 8) dYes (dOp rdMulA (dVar 7) (dVar 8)) [8]) dNil))))))))
theorem st_form_below_holds (a0 a1 a2 a3 : D) : startD N_form_below_holds [a0, a1, a2, a3] = [some a0, some a1, some a2, some a3, none, none, none, none, none] := rfl
abbrev N_form_above_holds : List Str := ["a", "b", "c", "paper", "form"]
def t_form_above_holds (Ed : XKD) : TSD :=
  (dSeq (dSet 4 (dCall sp_form_in [] (wd Ed) (dCons (dVar 0) (dCons (dVar 1) (dCons (dVar 2) dNil)))))
  (dSeq (dIfS (dOr (dTest (dOp rdIs (dVar 4) (dC .non))) (dOr (dNot (dTest (dCall sp_is_tuple_of [] (wd Ed) (dCons (dVar 3) (dCons (dC (.int 2)) dNil))))) (dOr (dNot (dTest (dCall sp_are_wholes [] (wd Ed) (dCons (dVar 3) dNil)))) (dTest (dOp rdEq (dVar 3) (dTup (dCons (dC (.int 0)) (dCons (dC (.int 0)) dNil)))))))) (dRet (dC (.bl false))) dNext)
  (dRet (dOp rdLe (dOp rdMulA (dOp rdIx (dC k_WALL) (dC (.int 0))) (dOp rdPow (dMeth "Form" "value" sp_Form_value [] (wd Ed) (dVar 4) (dCons (dOp rdIx (dVar 3) (dC (.int 0))) (dCons (dOp rdIx (dVar 3) (dC (.int 1))) dNil))) (dC (.int 2)))) (dMeth "Form" "under_root" sp_Form_under_root [] (wd Ed) (dVar 4) dNil)))))
theorem st_form_above_holds (a0 a1 a2 a3 : D) : startD N_form_above_holds [a0, a1, a2, a3] = [some a0, some a1, some a2, some a3, none] := rfl
abbrev N_holds : List Str := ["claim", "paper", "word", "many", "look"]
def t_holds (Ed : XKD) : TSD :=
  (dSeq (dIfS (dOr (dNot (dTest (dCB rdIsi (dCons (dVar 0) (dCons (dC (.ty "tuple")) dNil))))) (dOr (dTest (dOp rdEq (dCB rdLen (dCons (dVar 0) dNil)) (dC (.int 0)))) (dNot (dTest (dCB rdIsi (dCons (dOp rdIx (dVar 0) (dC (.int 0))) (dCons (dC (.ty "str")) dNil))))))) (dRet (dC (.bl false))) dNext)
  (dSeq (dPar 2 3 (dCons (dOp rdIx (dVar 0) (dC (.int 0))) (dCons (dOp rdSub (dCB rdLen (dCons (dVar 0) dNil)) (dC (.int 1))) dNil)))
  (dSeq (dIfS (dAnd (dTest (dOp rdEq (dVar 3) (dC (.int 1)))) (dTest (dKin ["even", "uneven", "below", "above"] (dVar 2)))) (dSeq dNever
  dNever) dNext)
  (dSeq (dIfS (dAnd (dTest (dOp rdEq (dVar 3) (dC (.int 2)))) (dTest (dKin ["same"] (dVar 2)))) (dSeq dNever
  dNever) dNext)
  (dSeq (dIfS (dAnd (dTest (dOp rdEq (dVar 3) (dC (.int 3)))) (dTest (dKin ["triple", "form below", "form above"] (dVar 2)))) (dSeq (dSet 4 (dKix k_HOLD_OF_THREE (dVar 2)))
  (dRet (dCallV 4 [("form_below_holds", sp_form_below_holds), ("form_above_holds", sp_form_above_holds)] (wd Ed) (dCons (dOp rdIx (dVar 0) (dC (.int 1))) (dCons (dOp rdIx (dVar 0) (dC (.int 2))) (dCons (dOp rdIx (dVar 0) (dC (.int 3))) (dCons (dVar 1) dNil))))))) dNext)
  (dRet (dC (.bl false))))))))
theorem st_holds (a0 a1 : D) : startD N_holds [a0, a1] = [some a0, some a1, none, none, none] := rfl
abbrev N_law_urn : List Str := ["_law_script", "_law_at", "_law_cell", "_law_great"]
def t_law_urn (Ed : XKD) : TSD :=
  (dSeq (dSet 2 (dC (.int 0)))
  (dSeq (dIfS (dTest (dOp rdLt (dVar 1) (dCB rdLen (dCons (dVar 0) dNil)))) (dSet 2 (dOp rdIx (dVar 0) (dVar 1))) dNext)
  (dSeq (dSet 3 (dCB rdAbs (dCons (dVar 2) dNil)))
  (dSeq (dIfS (dTest (dOp rdLt (dVar 3) (dOp rdPow (dC (.int 10)) (dC (.int 18))))) (dSet 3 (dC (.int 0))) dNext)
  (dRet (dLstO (dCons (dVar 3) (dCons (dOp rdAdd (dOp rdAdd (dOp rdAdd (dOp rdMod (dVar 2) (dC (.int 1000000000000000003))) (dOp rdMulA (dOp rdMulA (dC (.int 97)) (dVar 1)) (dVar 1))) (dOp rdMulA (dC (.int 31)) (dVar 1))) (dC (.int 1))) (dCons (dC (.int 0)) dNil)))))))))
theorem st_law_urn (a0 a1 : D) : startD N_law_urn [a0, a1] = [some a0, some a1, none, none] := rfl
abbrev N_law_draw : List Str := ["_law_urn_here", "_law_wide", "_law_digit", "_law_primes", "_law_step", "_law_base", "_law_mixed"]
def t_law_draw (Ed : XKD) : TSD :=
  (dSeq (dIfS (dTest (dOp rdGt (dOp rdIx (dVar 0) (dC (.int 0))) (dC (.int 0)))) (dSeq (dSet 2 (dOp rdMod (dOp rdIx (dVar 0) (dC (.int 0))) (dVar 1)))
  (dSeq (dStore (dVar 0) (dC (.int 0)) (dOp rdFdiv (dOp rdIx (dVar 0) (dC (.int 0))) (dVar 1)))
  (dRet (dVar 2)))) dNext)
  (dSeq (dSet 3 (dTup (dCons (dC (.int 2147483647)) (dCons (dC (.int 2147483629)) (dCons (dC (.int 2147483587)) (dCons (dC (.int 2147483579)) (dCons (dC (.int 2147483563)) (dCons (dC (.int 2147483549)) (dCons (dC (.int 2147483543)) dNil)))))))))
  (dSeq (dStore (dVar 0) (dC (.int 2)) (dOp rdAdd (dOp rdIx (dVar 0) (dC (.int 2))) (dC (.int 1))))
  (dSeq (dSet 4 (dOp rdIx (dVar 0) (dC (.int 2))))
  (dSeq (dSet 5 (dOp rdAdd (dOp rdAdd (dOp rdMulA (dOp rdIx (dVar 0) (dC (.int 1))) (dOp rdAdd (dOp rdMulA (dC (.int 2)) (dVar 4)) (dC (.int 1)))) (dOp rdMulA (dOp rdMulA (dC (.int 6007)) (dVar 4)) (dVar 4))) (dC (.int 53))))
  (dSeq (dSet 6 (dOp rdMod (dOp rdPow (dVar 5) (dC (.int 3))) (dOp rdIx (dVar 3) (dOp rdMod (dVar 4) (dC (.int 7))))))
  (dRet (dOp rdMod (dOp rdFdiv (dOp rdMod (dOp rdMulA (dVar 6) (dOp rdAdd (dOp rdFdiv (dVar 6) (dC (.int 8191))) (dVar 4))) (dOp rdIx (dVar 3) (dOp rdMod (dOp rdAdd (dVar 4) (dC (.int 3))) (dC (.int 7))))) (dC (.int 16))) (dVar 1)))))))))
theorem st_law_draw (a0 a1 : D) : startD N_law_draw [a0, a1] = [some a0, some a1, none, none, none, none, none] := rfl
abbrev N_law_whole : List Str := ["_law_thing"]
def t_law_whole (Ed : XKD) : TSD :=
  (dRet (dAndV (dCB rdIsi (dCons (dVar 0) (dCons (dC (.ty "int")) dNil))) (dNotV (dCB rdIsi (dCons (dVar 0) (dCons (dC (.ty "bool")) dNil))))))
theorem st_law_whole (a0 : D) : startD N_law_whole [a0] = [some a0] := rfl
abbrev N_law_shared : List Str := ["_law_one", "_law_other"]
def t_law_shared (Ed : XKD) : TSD :=
  (dSeq (dPar 0 1 (dCons (dCB rdAbs (dCons (dVar 0) dNil)) (dCons (dCB rdAbs (dCons (dVar 1) dNil)) dNil)))
  (dSeq (dWhile (dTest (dOp rdGt (dVar 1) (dC (.int 0))))
  (dPar 0 1 (dCons (dVar 1) (dCons (dOp rdMod (dVar 0) (dVar 1)) dNil))))
  (dRet (dVar 0))))
theorem st_law_shared (a0 a1 : D) : startD N_law_shared [a0, a1] = [some a0, some a1] := rfl
abbrev N_law_side : List Str := ["_law_under", "_law_low", "_law_high", "_law_middle"]
def t_law_side (Ed : XKD) : TSD :=
  (dSeq (dAsg (dTup (dCons (dC (.int 0)) (dCons (dC (.int 1)) dNil))) (dTupG 2 (dGCons (dName 1) (dGCons (dName 2) dGNil))))
  (dSeq (dWhile (dTest (dOp rdLe (dOp rdMulA (dVar 2) (dVar 2)) (dVar 0)))
  (dSet 2 (dOp rdMulA (dVar 2) (dC (.int 2)))))
  (dSeq (dWhile (dTest (dOp rdGt (dOp rdSub (dVar 2) (dVar 1)) (dC (.int 1))))
  (dSeq (dSet 3 (dOp rdFdiv (dOp rdAdd (dVar 1) (dVar 2)) (dC (.int 2))))
  (dIfS (dTest (dOp rdLe (dOp rdMulA (dVar 3) (dVar 3)) (dVar 0))) (dSet 1 (dVar 3)) (dSet 2 (dVar 3)))))
  (dRet (dVar 1)))))
theorem st_law_side (a0 : D) : startD N_law_side [a0] = [some a0, none, none, none] := rfl
abbrev N_law_is_square : List Str := ["_law_under"]
def t_law_is_square (Ed : XKD) : TSD :=
  (dRet (dAndV (dOp rdGe (dVar 0) (dC (.int 0))) (dOp rdEq (dOp rdMulA (dCall sp_law_side [] (wd Ed) (dCons (dVar 0) dNil)) (dCall sp_law_side [] (wd Ed) (dCons (dVar 0) dNil))) (dVar 0))))
theorem st_law_is_square (a0 : D) : startD N_law_is_square [a0] = [some a0] := rfl
abbrev N_law_even_word : List Str := ["_law_bs", "_law_others", "_law_found", "_law_rest", "_law_k"]
def t_law_even_word (Ed : XKD) : TSD :=
  (dSeq (dSet 2 (dC (.str "")))
  (dSeq (dSet 3 (dC (.int 0)))
  (dSeq (dFor (dRng1 (dCons (dOp rdAdd (dVar 0) (dVar 1)) dNil)) (dName 4)
  (dSeq (dSet 3 (dOp rdAdd (dVar 3) (dVar 0)))
  (dSeq (dSet 2 (dOp rdAdd (dVar 2) (dOp rdIx (dC (.str "ab")) (dCB rdInt (dCons (dOp rdGe (dVar 3) (dOp rdAdd (dVar 0) (dVar 1))) dNil)))))
  (dIfS (dTest (dOp rdGe (dVar 3) (dOp rdAdd (dVar 0) (dVar 1)))) (dSet 3 (dOp rdSub (dOp rdSub (dVar 3) (dVar 0)) (dVar 1))) dNext))))
  (dRet (dVar 2)))))
theorem st_law_even_word (a0 a1 : D) : startD N_law_even_word [a0, a1] = [some a0, some a1, none, none, none] := rfl
abbrev N_law_counts : List Str := ["_law_urn_here", "_law_most", "_law_size", "_law_together", "_law_bs", "_law_both"]
def t_law_counts (Ed : XKD) : TSD :=
  (dSeq (dSet 2 (dOp rdIx (dLst (dCons (dC (.int 2)) (dCons (dC (.int 3)) (dCons (dC (.int 5)) (dCons (dC (.int 8)) (dCons (dC (.int 13)) (dCons (dVar 1) (dCons (dVar 1) (dCons (dVar 1) dNil))))))))) (dCall sp_law_draw [] (wd Ed) (dCons (dVar 0) (dCons (dC (.int 8)) dNil)))))
  (dSeq (dSet 3 (dOp rdAdd (dC (.int 1)) (dCall sp_law_draw [] (wd Ed) (dCons (dVar 0) (dCons (dCB rdMin2 (dCons (dVar 2) (dCons (dVar 1) dNil))) dNil)))))
  (dSeq (dSet 4 (dCall sp_law_draw [] (wd Ed) (dCons (dVar 0) (dCons (dOp rdAdd (dVar 3) (dC (.int 1))) dNil))))
  (dSeq (dSet 5 (dCall sp_law_shared [] (wd Ed) (dCons (dVar 4) (dCons (dVar 3) dNil))))
  (dRet (dTup (dCons (dOp rdFdiv (dVar 4) (dVar 5)) (dCons (dOp rdFdiv (dOp rdSub (dVar 3) (dVar 4)) (dVar 5)) dNil))))))))
theorem st_law_counts (a0 a1 : D) : startD N_law_counts [a0, a1] = [some a0, some a1, none, none, none, none] := rfl
abbrev N_law_numbers : List Str := ["_law_word", "_law_found", "_law_letter"]
def t_law_numbers (Ed : XKD) : TSD :=
  (dSeq (dSet 1 (dLstO dNil))
  (dSeq (dFor (dItr (dVar 0)) (dName 2)
  (dDrop (dExtPick 1 "a" 1 1 "b" 2 2 2)))
  (dRet (dCB rdTupA (dCons (dVar 1) dNil)))))
theorem st_law_numbers (a0 : D) : startD N_law_numbers [a0] = [some a0, none, none] := rfl
abbrev N_law_ring_table : List Str := ["_law_row", "_law_p", "_law_q", "_law_r", "_law_s", "_law_one"]
def t_law_ring_table (Ed : XKD) : TSD :=
  (dSeq (dAsg (dTup (dCons (dC (.int 1)) (dCons (dC (.int 0)) (dCons (dC (.int 0)) (dCons (dC (.int 1)) dNil))))) (dTupG 4 (dGCons (dName 1) (dGCons (dName 2) (dGCons (dName 3) (dGCons (dName 4) dGNil))))))
  (dSeq (dFor (dItr (dVar 0)) (dName 5)
  (dSeq (dPar 1 2 (dCons (dOp rdAdd (dOp rdMulA (dVar 1) (dVar 5)) (dVar 2)) (dCons (dVar 1) dNil)))
  (dPar 3 4 (dCons (dOp rdAdd (dOp rdMulA (dVar 3) (dVar 5)) (dVar 4)) (dCons (dVar 3) dNil)))))
  (dRet (dTup (dCons (dVar 1) (dCons (dVar 2) (dCons (dVar 3) (dCons (dVar 4) dNil))))))))
theorem st_law_ring_table (a0 : D) : startD N_law_ring_table [a0] = [some a0, none, none, none, none, none] := rfl
abbrev N_law_bent : List Str := ["_law_urn_here", "_law_thing", "_law_way", "_law_at", "_law_some"]
def t_law_bent (n : Nat) (Ed : XKD) : TSD :=
  (dSeq (dSet 2 (dCall sp_law_draw [] (wd Ed) (dCons (dVar 0) (dCons (dC (.int 8)) dNil))))
  (dSeq (dIfS (dTest (dOp rdEq (dVar 2) (dC (.int 0)))) (dRet (dOp rdIx (dLst (dCons (dC .non) (dCons (dC (.bl true)) (dCons (dC (.bl false)) (dCons (dC (.int 0)) (dCons (dC (.int 1)) (dCons (dC (.str "")) (dCons (dC (.str "a")) (dCons (dTup dNil) (dCons (dLst dNil) (dCons (dC (.str "1")) dNil))))))))))) (dCall sp_law_draw [] (wd Ed) (dCons (dVar 0) (dCons (dC (.int 10)) dNil))))) dNext)
  (dSeq (dIfS (dTest (dCall sp_law_whole [] (wd Ed) (dCons (dVar 1) dNil))) (dRet (dOp rdIx (dLst (dCons (dOp rdAdd (dVar 1) (dC (.int 1))) (dCons (dOp rdSub (dVar 1) (dC (.int 1))) (dCons (dOp rdSub (dC (.int 0)) (dVar 1)) (dCons (dOp rdMulA (dVar 1) (dC (.int 2))) (dCons (dCB rdStr (dCons (dVar 1) dNil)) (dCons (dTup (dCons (dVar 1) dNil)) (dCons (dOp rdEq (dVar 1) (dC (.int 1))) dNil)))))))) (dCall sp_law_draw [] (wd Ed) (dCons (dVar 0) (dCons (dC (.int 7)) dNil))))) dNext)
  (dSeq (dIfS (dOr (dNot (dTest (dCB rdIsiTp (dCons (dVar 1) (dCons (dTup (dCons (dC (.ty "str")) (dCons (dC (.ty "tuple")) (dCons (dC (.ty "list")) dNil)))) dNil))))) (dTest (dOp rdEq (dCB rdLen (dCons (dVar 1) dNil)) (dC (.int 0))))) (dRet (dOp rdIx (dLst (dCons (dC (.int 1)) (dCons (dC (.str "b")) (dCons (dTup (dCons (dTup dNil) dNil)) (dCons (dC .non) dNil))))) (dCall sp_law_draw [] (wd Ed) (dCons (dVar 0) (dCons (dC (.int 4)) dNil))))) dNext)
  (dSeq (dSet 3 (dCall sp_law_draw [] (wd Ed) (dCons (dVar 0) (dCons (dCB rdLen (dCons (dVar 1) dNil)) dNil))))
  (dSeq (dIfS (dTest (dOp rdEq (dVar 2) (dC (.int 1)))) (dRet (dOp rdAdd (dSl (dVar 1) dNoPart (dPart (dVar 3))) (dSl (dVar 1) (dPart (dOp rdAdd (dVar 3) (dC (.int 1)))) dNoPart))) dNext)
  (dSeq (dIfS (dTest (dOp rdEq (dVar 2) (dC (.int 2)))) (dRet (dOp rdAdd (dSl (dVar 1) dNoPart (dPart (dOp rdAdd (dVar 3) (dC (.int 1))))) (dSl (dVar 1) (dPart (dVar 3)) dNoPart))) dNext)
  (dSeq (dIfS (dTest (dCB rdIsi (dCons (dVar 1) (dCons (dC (.ty "str")) dNil)))) (dRet (dOp rdAdd (dOp rdAdd (dSl (dVar 1) dNoPart (dPart (dVar 3))) (dOp rdIx (dC (.str "abclr")) (dCall sp_law_draw [] (wd Ed) (dCons (dVar 0) (dCons (dC (.int 5)) dNil))))) (dSl (dVar 1) (dPart (dOp rdAdd (dVar 3) (dC (.int 1)))) dNoPart))) dNext)
  (dSeq (dIfS (dTest (dOp rdEq (dVar 2) (dC (.int 3)))) (dRet (dOp rdIx (dLst (dCons (dCB rdListA (dCons (dVar 1) dNil)) (dCons (dCB rdTupA (dCons (dVar 1) dNil)) dNil))) (dCB rdInt (dCons (dCB rdIsi (dCons (dVar 1) (dCons (dC (.ty "list")) dNil))) dNil)))) dNext)
  (dSeq (dSet 4 (dCB rdListO (dCons (dVar 1) dNil)))
  (dSeq (dStore (dVar 4) (dVar 3) (dCall (sp_law_bent n) [] (wd Ed) (dCons (dVar 0) (dCons (dOp rdIx (dVar 4) (dVar 3)) dNil))))
  (dSeq (dIfS (dTest (dCB rdIsi (dCons (dVar 1) (dCons (dC (.ty "list")) dNil)))) (dFrzV 4 (dRet (dVar 4))) dNext)
  (dFrzV 4 (dRet (dCB rdTupA (dCons (dVar 4) dNil))))))))))))))))
theorem st_law_bent (a0 a1 : D) : startD N_law_bent [a0, a1] = [some a0, some a1, none, none, none] := rfl
abbrev N_law_is_word : List Str := ["_law_thing"]
def t_law_is_word (Ed : XKD) : TSD :=
  (dRet (dAndV (dCB rdIsi (dCons (dVar 0) (dCons (dC (.ty "str")) dNil))) (dAndV (dChain rdLe rdLe (dC (.int 1)) (dCB rdLen (dCons (dVar 0) dNil)) (dC (.int 60))) (dOp rdEq (dOp rdAdd (dBM "str" rdCount (dVar 0) (dCons (dC (.str "a")) dNil)) (dBM "str" rdCount (dVar 0) (dCons (dC (.str "b")) dNil))) (dCB rdLen (dCons (dVar 0) dNil))))))
theorem st_law_is_word (a0 : D) : startD N_law_is_word [a0] = [some a0] := rfl
abbrev N_law_is_claim : List Str := ["_law_thing", "_law_word", "_law_many"]
def t_law_is_claim (Ed : XKD) : TSD :=
  (dRet (dAndV (dCB rdIsi (dCons (dVar 0) (dCons (dC (.ty "tuple")) dNil))) (dAndV (dOp rdEq (dCB rdLen (dCons (dVar 0) dNil)) (dVar 2)) (dAndV (dCB rdIsi (dCons (dOp rdIx (dVar 0) (dC (.int 0))) (dCons (dC (.ty "str")) dNil))) (dOp rdEq (dOp rdIx (dVar 0) (dC (.int 0))) (dVar 1))))))
theorem st_law_is_claim (a0 a1 a2 : D) : startD N_law_is_claim [a0, a1, a2] = [some a0, some a1, some a2] := rfl
abbrev N_law_copied : List Str := ["_law_thing", "_law_one"]
def t_law_copied (n : Nat) (Ed : XKD) : TSD :=
  (dSeq (dIfS (dTest (dCB rdIsi (dCons (dVar 0) (dCons (dC (.ty "list")) dNil)))) (dRet (dComp (dItr (dVar 0)) (dName 1) dYes (dCall (sp_law_copied n) [] wd0 (dCons (dVar 1) dNil)) [1])) dNext)
  (dSeq (dIfS (dTest (dCB rdIsi (dCons (dVar 0) (dCons (dC (.ty "tuple")) dNil)))) (dRet (dCB rdTupA (dCons (dComp (dItr (dVar 0)) (dName 1) dYes (dCall (sp_law_copied n) [] wd0 (dCons (dVar 1) dNil)) [1]) dNil))) dNext)
  (dRet (dVar 0))))
theorem st_law_copied (a0 : D) : startD N_law_copied [a0] = [some a0, none] := rfl
abbrev N_law_is_form : List Str := ["_law_thing", "_law_under", "_law_one"]
def t_law_is_form (Ed : XKD) : TSD :=
  (dSeq (dIfS (dNot (dTest (dCB rdAll (dCons (dComp (dItr (dVar 0)) (dName 2) dYes (dCall sp_law_whole [] wd0 (dCons (dVar 2) dNil)) [2]) dNil)))) (dRet (dC (.bl false))) dNext)
  (dSeq (dSet 1 (dOp rdSub (dOp rdMulA (dOp rdIx (dVar 0) (dC (.int 1))) (dOp rdIx (dVar 0) (dC (.int 1)))) (dOp rdMulA (dOp rdMulA (dC (.int 4)) (dOp rdIx (dVar 0) (dC (.int 0)))) (dOp rdIx (dVar 0) (dC (.int 2))))))
  (dRet (dAndV (dOp rdGt (dVar 1) (dC (.int 0))) (dNotV (dCall sp_law_is_square [] (wd Ed) (dCons (dVar 1) dNil)))))))
theorem st_law_is_form (a0 : D) : startD N_law_is_form [a0] = [some a0, none, none] := rfl
abbrev N_law_is_step : List Str := ["_law_word", "_law_many_b"]
def t_law_is_step (Ed : XKD) : TSD :=
  (dSeq (dSet 1 (dBM "str" rdCount (dVar 0) (dCons (dC (.str "b")) dNil)))
  (dRet (dAndV (dOp rdEq (dCall sp_law_shared [] (wd Ed) (dCons (dVar 1) (dCons (dCB rdLen (dCons (dVar 0) dNil)) dNil))) (dC (.int 1))) (dOp rdEq (dVar 0) (dCall sp_law_even_word [] (wd Ed) (dCons (dVar 1) (dCons (dOp rdSub (dCB rdLen (dCons (dVar 0) dNil)) (dVar 1)) dNil)))))))
theorem st_law_is_step (a0 : D) : startD N_law_is_step [a0] = [some a0, none] := rfl
abbrev N_law_is_turning : List Str := ["_law_thing", "_law_row", "_law_one"]
def t_law_is_turning (Ed : XKD) : TSD :=
  (dSeq (dIfS (dOr (dNot (dTest (dCB rdIsi (dCons (dVar 0) (dCons (dC (.ty "tuple")) dNil))))) (dTest (dOp rdNe (dCB rdLen (dCons (dVar 0) dNil)) (dC (.int 2))))) (dRet (dC (.bl false))) dNext)
  (dSeq (dFor (dItr (dVar 0)) (dName 1)
  (dIfS (dOr (dNot (dTest (dCB rdIsi (dCons (dVar 1) (dCons (dC (.ty "tuple")) dNil))))) (dOr (dTest (dOp rdNe (dCB rdLen (dCons (dVar 1) dNil)) (dC (.int 2)))) (dNot (dTest (dCB rdAll (dCons (dComp (dItr (dVar 1)) (dName 2) dYes (dCall sp_law_whole [] wd0 (dCons (dVar 2) dNil)) [2]) dNil)))))) (dRet (dC (.bl false))) dNext))
  (dRet (dOp rdEq (dCB rdAbs (dCons (dOp rdSub (dOp rdMulA (dOp rdIx (dOp rdIx (dVar 0) (dC (.int 0))) (dC (.int 0))) (dOp rdIx (dOp rdIx (dVar 0) (dC (.int 1))) (dC (.int 1)))) (dOp rdMulA (dOp rdIx (dOp rdIx (dVar 0) (dC (.int 0))) (dC (.int 1))) (dOp rdIx (dOp rdIx (dVar 0) (dC (.int 1))) (dC (.int 0))))) dNil)) (dC (.int 1))))))
theorem st_law_is_turning (a0 : D) : startD N_law_is_turning [a0] = [some a0, none, none] := rfl
abbrev N_law_turned_form : List Str := ["_law_form", "_law_table", "_law_a", "_law_b", "_law_c", "_law_p", "_law_q", "_law_r", "_law_s", "_law_first", "_law_middle"]
def t_law_turned_form (Ed : XKD) : TSD :=
  (dSeq (dAsg (dVar 0) (dTupG 3 (dGCons (dName 2) (dGCons (dName 3) (dGCons (dName 4) dGNil)))))
  (dSeq (dAsg (dVar 1) (dTupG 2 (dGCons (dTupG 2 (dGCons (dName 5) (dGCons (dName 6) dGNil))) (dGCons (dTupG 2 (dGCons (dName 7) (dGCons (dName 8) dGNil))) dGNil))))
  (dSeq (dSet 9 (dOp rdAdd (dOp rdAdd (dOp rdMulA (dOp rdMulA (dVar 2) (dVar 5)) (dVar 5)) (dOp rdMulA (dOp rdMulA (dVar 3) (dVar 5)) (dVar 7))) (dOp rdMulA (dOp rdMulA (dVar 4) (dVar 7)) (dVar 7))))
  (dSeq (dSet 10 (dOp rdAdd (dOp rdMulA (dOp rdMulA (dOp rdMulA (dC (.int 2)) (dVar 2)) (dVar 5)) (dVar 6)) (dOp rdMulA (dOp rdMulA (dOp rdMulA (dC (.int 2)) (dVar 4)) (dVar 7)) (dVar 8))))
  (dSeq (dSet 10 (dOp rdAdd (dVar 10) (dOp rdMulA (dVar 3) (dOp rdAdd (dOp rdMulA (dVar 5) (dVar 8)) (dOp rdMulA (dVar 6) (dVar 7))))))
  (dRet (dTup (dCons (dVar 9) (dCons (dVar 10) (dCons (dOp rdAdd (dOp rdAdd (dOp rdMulA (dOp rdMulA (dVar 2) (dVar 6)) (dVar 6)) (dOp rdMulA (dOp rdMulA (dVar 3) (dVar 6)) (dVar 8))) (dOp rdMulA (dOp rdMulA (dVar 4) (dVar 8)) (dVar 8))) dNil))))))))))
theorem st_law_turned_form (a0 a1 : D) : startD N_law_turned_form [a0, a1] = [some a0, some a1, none, none, none, none, none, none, none, none, none] := rfl
abbrev N_law_word_form : List Str := ["_law_word", "_law_p", "_law_q", "_law_r", "_law_s", "_law_both"]
def t_law_word_form (Ed : XKD) : TSD :=
  (dSeq (dAsg (dCall sp_law_ring_table [] (wd Ed) (dCons (dCall sp_law_numbers [] (wd Ed) (dCons (dVar 0) dNil)) dNil)) (dTupG 4 (dGCons (dName 1) (dGCons (dName 2) (dGCons (dName 3) (dGCons (dName 4) dGNil))))))
  (dSeq (dSet 5 (dCall sp_law_shared [] (wd Ed) (dCons (dCall sp_law_shared [] (wd Ed) (dCons (dVar 3) (dCons (dOp rdSub (dVar 4) (dVar 1)) dNil))) (dCons (dVar 2) dNil))))
  (dRet (dTup (dCons (dOp rdFdiv (dVar 3) (dVar 5)) (dCons (dOp rdFdiv (dOp rdSub (dVar 4) (dVar 1)) (dVar 5)) (dCons (dOp rdFdiv (dOp rdSub (dC (.int 0)) (dVar 2)) (dVar 5)) dNil)))))))
theorem st_law_word_form (a0 : D) : startD N_law_word_form [a0] = [some a0, none, none, none, none, none] := rfl
abbrev N_law_due : List Str := ["_law_saying", "_law_sheet", "_law_words", "_law_form", "_law_x", "_law_y", "_law_value", "_law_one"]
def t_law_due (Ed : XKD) : TSD :=
  (dSeq (dSet 2 (dLst (dCons (dCall sp_law_is_claim [] (wd Ed) (dCons (dVar 0) (dCons (dC (.str "form below")) (dCons (dC (.int 4)) dNil)))) (dCons (dCall sp_law_is_claim [] (wd Ed) (dCons (dVar 0) (dCons (dC (.str "form above")) (dCons (dC (.int 4)) dNil)))) dNil))))
  (dSeq (dIfS (dOr (dTest (dOp (rdInD true) (dC (.bl true)) (dVar 2))) (dOr (dNot (dTest (dCall sp_law_is_form [] (wd Ed) (dCons (dSl (dVar 0) (dPart (dC (.int 1))) dNoPart) dNil)))) (dNot (dTest (dCB rdIsi (dCons (dVar 1) (dCons (dC (.ty "tuple")) dNil))))))) (dRet (dC (.bl false))) dNext)
  (dSeq (dSet 3 (dSl (dVar 0) (dPart (dC (.int 1))) dNoPart))
  (dSeq (dIfS (dTest (dOp rdIx (dVar 2) (dC (.int 1)))) (dSeq (dIfS (dOr (dTest (dOp rdNe (dCB rdLen (dCons (dVar 1) dNil)) (dC (.int 2)))) (dOr (dNot (dTest (dCB rdAll (dCons (dComp (dItr (dVar 1)) (dName 7) dYes (dCall sp_law_whole [] wd0 (dCons (dVar 7) dNil)) [7]) dNil)))) (dTest (dOp rdEq (dVar 1) (dTup (dCons (dC (.int 0)) (dCons (dC (.int 0)) dNil))))))) (dRet (dC (.bl false))) dNext)
  (dSeq (dAsg (dVar 1) (dTupG 2 (dGCons (dName 4) (dGCons (dName 5) dGNil))))
  (dSeq (dSet 6 (dOp rdAdd (dOp rdAdd (dOp rdMulA (dOp rdMulA (dOp rdIx (dVar 3) (dC (.int 0))) (dVar 4)) (dVar 4)) (dOp rdMulA (dOp rdMulA (dOp rdIx (dVar 3) (dC (.int 1))) (dVar 4)) (dVar 5))) (dOp rdMulA (dOp rdMulA (dOp rdIx (dVar 3) (dC (.int 2))) (dVar 5)) (dVar 5))))
  (dRet (dOp rdLe (dOp rdMulA (dOp rdMulA (dC (.int 9)) (dVar 6)) (dVar 6)) (dOp rdSub (dOp rdMulA (dOp rdIx (dVar 3) (dC (.int 1))) (dOp rdIx (dVar 3) (dC (.int 1)))) (dOp rdMulA (dOp rdMulA (dC (.int 4)) (dOp rdIx (dVar 3) (dC (.int 0)))) (dOp rdIx (dVar 3) (dC (.int 2)))))))))) dNext)
  (dSeq (dIfS (dOr (dTest (dOp rdNe (dCB rdLen (dCons (dVar 1) dNil)) (dC (.int 3)))) (dOr (dNot (dTest (dCall sp_law_is_word [] (wd Ed) (dCons (dOp rdIx (dVar 1) (dC (.int 0))) dNil)))) (dOr (dNot (dTest (dCall sp_law_is_step [] (wd Ed) (dCons (dOp rdIx (dVar 1) (dC (.int 0))) dNil)))) (dNot (dTest (dCall sp_law_is_turning [] (wd Ed) (dCons (dOp rdIx (dVar 1) (dC (.int 1))) dNil))))))) (dRet (dC (.bl false))) dNext)
  (dSeq (dIfS (dOr (dNot (dTest (dCall sp_law_whole [] (wd Ed) (dCons (dOp rdIx (dVar 1) (dC (.int 2))) dNil)))) (dTest (dOp rdEq (dOp rdIx (dVar 1) (dC (.int 2))) (dC (.int 0))))) (dRet (dC (.bl false))) dNext)
  (dRet (dOp rdEq (dCall sp_law_turned_form [] (wd Ed) (dCons (dVar 3) (dCons (dOp rdIx (dVar 1) (dC (.int 1))) dNil))) (dCB rdTupA (dCons (dComp (dItr (dCall sp_law_word_form [] (wd Ed) (dCons (dOp rdIx (dVar 1) (dC (.int 0))) dNil))) (dName 7) dYes (dOp rdMulA (dOp rdIx (dVar 1) (dC (.int 2))) (dVar 7)) [7]) dNil))))))))))
theorem st_law_due (a0 a1 : D) : startD N_law_due [a0, a1] = [some a0, some a1, none, none, none, none, none, none] := rfl
abbrev N_law_looked_right : List Str := ["_law_saying", "_law_sheet", "_law_kept", "_law_told"]
def t_law_looked_right (Ed : XKD) : TSD :=
  (dSeq (dSet 2 (dTup (dCons (dCB rdRepr (dCons (dVar 0) dNil)) (dCons (dCB rdRepr (dCons (dVar 1) dNil)) dNil))))
  (dSeq (dSet 3 (dCall sp_holds [] (wd Ed) (dCons (dVar 0) (dCons (dVar 1) dNil))))
  (dSeq (dIfS (dOr (dNot (dTest (dCB rdIsi (dCons (dVar 3) (dCons (dC (.ty "bool")) dNil))))) (dOr (dTest (dOp rdNe (dVar 3) (dCall sp_law_due [] (wd Ed) (dCons (dVar 0) (dCons (dVar 1) dNil))))) (dTest (dOp rdNe (dCallK sp_holds 0 2 [1, 0] [] (wd Ed) dNil (dCons (dVar 1) (dCons (dVar 0) dNil))) (dVar 3))))) (dRet (dC (.bl false))) dNext)
  (dRet (dOp rdEq (dTup (dCons (dCB rdRepr (dCons (dVar 0) dNil)) (dCons (dCB rdRepr (dCons (dVar 1) dNil)) dNil))) (dVar 2))))))
theorem st_law_looked_right (a0 a1 : D) : startD N_law_looked_right [a0, a1] = [some a0, some a1, none, none] := rfl
abbrev N_law_all_looked_right : List Str := ["_law_urn_here", "_law_saying", "_law_sheet", "_law_turn", "_law_bent_here", "_law_one", "_law_other"]
def t_law_all_looked_right (Ed : XKD) : TSD :=
  (dSeq (dFor (dRng1 (dCons (dC (.int 3)) dNil)) (dName 3)
  (dSeq (dSet 4 (dTup (dCons (dCall (sp_law_bent 6) [] (wd Ed) (dCons (dVar 0) (dCons (dVar 1) dNil))) (dCons (dCall (sp_law_bent 6) [] (wd Ed) (dCons (dVar 0) (dCons (dVar 2) dNil))) dNil))))
  (dFor (dItr (dLst (dCons (dTup (dCons (dVar 1) (dCons (dVar 2) dNil))) (dCons (dTup (dCons (dOp rdIx (dVar 4) (dC (.int 0))) (dCons (dVar 2) dNil))) (dCons (dTup (dCons (dVar 1) (dCons (dOp rdIx (dVar 4) (dC (.int 1))) dNil))) (dCons (dVar 4) (dCons (dTup (dCons (dVar 2) (dCons (dVar 1) dNil))) dNil))))))) (dTupG 2 (dGCons (dName 5) (dGCons (dName 6) dGNil)))
  (dIfS (dNot (dTest (dCall sp_law_looked_right [] (wd Ed) (dCons (dCall (sp_law_copied 6) [] (wd Ed) (dCons (dVar 5) dNil)) (dCons (dCall (sp_law_copied 6) [] (wd Ed) (dCons (dVar 6) dNil)) dNil))))) (dRet (dC (.bl false))) dNext))))
  (dRet (dC (.bl true))))
theorem st_law_all_looked_right (a0 a1 a2 : D) : startD N_law_all_looked_right [a0, a1, a2] = [some a0, some a1, some a2, none, none, none, none] := rfl
abbrev N_law_turning : List Str := ["_law_urn_here", "_law_p", "_law_q", "_law_r", "_law_s", "_law_step", "_law_way", "_law_some", "_law_size"]
def t_law_turning (Ed : XKD) : TSD :=
  (dSeq (dAsg (dTup (dCons (dC (.int 1)) (dCons (dC (.int 0)) (dCons (dC (.int 0)) (dCons (dC (.int 1)) dNil))))) (dTupG 4 (dGCons (dName 1) (dGCons (dName 2) (dGCons (dName 3) (dGCons (dName 4) dGNil))))))
  (dSeq (dFor (dRng1 (dCons (dCall sp_law_draw [] (wd Ed) (dCons (dVar 0) (dCons (dC (.int 13)) dNil))) dNil)) (dName 5)
  (dSeq (dSet 6 (dCall sp_law_draw [] (wd Ed) (dCons (dVar 0) (dCons (dC (.int 4)) dNil))))
  (dSeq (dSet 7 (dLst (dCons (dTup (dCons (dVar 1) (dCons (dOp rdAdd (dVar 1) (dVar 2)) (dCons (dVar 3) (dCons (dOp rdAdd (dVar 3) (dVar 4)) dNil))))) (dCons (dTup (dCons (dOp rdAdd (dVar 1) (dVar 2)) (dCons (dVar 2) (dCons (dOp rdAdd (dVar 3) (dVar 4)) (dCons (dVar 4) dNil))))) dNil))))
  (dSeq (dSet 7 (dOp rdAdd (dVar 7) (dLst (dCons (dTup (dCons (dVar 2) (dCons (dVar 1) (dCons (dVar 4) (dCons (dVar 3) dNil))))) (dCons (dTup (dCons (dVar 1) (dCons (dOp rdSub (dVar 2) (dVar 1)) (dCons (dVar 3) (dCons (dOp rdSub (dVar 4) (dVar 3)) dNil))))) dNil)))))
  (dAsg (dOp rdIx (dVar 7) (dVar 6)) (dTupG 4 (dGCons (dName 1) (dGCons (dName 2) (dGCons (dName 3) (dGCons (dName 4) dGNil))))))))))
  (dSeq (dSet 8 (dOp rdSub (dOp rdMulA (dVar 1) (dVar 4)) (dOp rdMulA (dVar 2) (dVar 3))))
  (dRet (dTup (dCons (dTup (dCons (dTup (dCons (dVar 1) (dCons (dVar 2) dNil))) (dCons (dTup (dCons (dVar 3) (dCons (dVar 4) dNil))) dNil))) (dCons (dTup (dCons (dTup (dCons (dOp rdMulA (dVar 4) (dVar 8)) (dCons (dOp rdSub (dC (.int 0)) (dOp rdMulA (dVar 2) (dVar 8))) dNil))) (dCons (dTup (dCons (dOp rdSub (dC (.int 0)) (dOp rdMulA (dVar 3) (dVar 8))) (dCons (dOp rdMulA (dVar 1) (dVar 8)) dNil))) dNil))) dNil)))))))
theorem st_law_turning (a0 : D) : startD N_law_turning [a0] = [some a0, none, none, none, none, none, none, none, none] := rfl
abbrev N_law : List Str := ["_law_script", "_law_at", "_law_urn_here", "_law_many_b", "_law_many_a", "_law_word", "_law_turning_here", "_law_back", "_law_times", "_law_a", "_law_b", "_law_c", "_law_wide", "_law_far", "_law_spot", "_law_one", "_law_k"]
def t_law (Ed : XKD) : TSD :=
  (dSeq (dFor (dRng1 (dCons (dCB rdMax2 (dCons (dC (.int 1)) (dCons (dCB rdMin2 (dCons (dC (.int 4)) (dCons (dCB rdLen (dCons (dVar 0) dNil)) dNil))) dNil))) dNil)) (dName 1)
  (dSeq (dSet 2 (dCall sp_law_urn [] (wd Ed) (dCons (dVar 0) (dCons (dVar 1) dNil))))
  (dSeq (dAsg (dCall sp_law_counts [] (wd Ed) (dCons (dVar 2) (dCons (dOp rdIx (dLst (dCons (dC (.int 10)) (dCons (dC (.int 10)) (dCons (dC (.int 20)) (dCons (dC (.int 60)) dNil))))) (dCall sp_law_draw [] (wd Ed) (dCons (dVar 2) (dCons (dC (.int 4)) dNil)))) dNil))) (dTupG 2 (dGCons (dName 3) (dGCons (dName 4) dGNil))))
  (dSeq (dSet 5 (dCall sp_law_even_word [] (wd Ed) (dCons (dVar 3) (dCons (dVar 4) dNil))))
  (dSeq (dAsg (dCall sp_law_turning [] (wd Ed) (dCons (dVar 2) dNil)) (dTupG 2 (dGCons (dName 6) (dGCons (dName 7) dGNil))))
  (dSeq (dSet 8 (dOp rdIx (dLst (dCons (dOp rdAdd (dCall sp_law_draw [] (wd Ed) (dCons (dVar 2) (dCons (dC (.int 9)) dNil))) (dC (.int 1))) (dCons (dOp rdSub (dOp rdSub (dC (.int 0)) (dCall sp_law_draw [] (wd Ed) (dCons (dVar 2) (dCons (dC (.int 9)) dNil)))) (dC (.int 1))) dNil))) (dCall sp_law_draw [] (wd Ed) (dCons (dVar 2) (dCons (dC (.int 2)) dNil)))))
  (dSeq (dAsg (dCall sp_law_turned_form [] (wd Ed) (dCons (dCB rdTupA (dCons (dComp (dItr (dCall sp_law_word_form [] (wd Ed) (dCons (dVar 5) dNil))) (dName 15) dYes (dOp rdMulA (dVar 8) (dVar 15)) [15]) dNil)) (dCons (dVar 7) dNil))) (dTupG 3 (dGCons (dName 9) (dGCons (dName 10) (dGCons (dName 11) dGNil)))))
  (dSeq (dIfS (dNot (dTest (dCall sp_law_all_looked_right [] (wd Ed) (dCons (dVar 2) (dCons (dTup (dCons (dC (.str "form below")) (dCons (dVar 9) (dCons (dVar 10) (dCons (dVar 11) dNil))))) (dCons (dTup (dCons (dVar 5) (dCons (dVar 6) (dCons (dVar 8) dNil)))) dNil)))))) (dRet (dC (.bl false))) dNext)
  (dSeq (dIfS (dNot (dTest (dCall sp_law_looked_right [] (wd Ed) (dCons (dTup (dCons (dC (.str "form below")) (dCons (dVar 9) (dCons (dVar 10) (dCons (dVar 11) dNil))))) (dCons (dTup (dCons (dOp rdAdd (dVar 5) (dVar 5)) (dCons (dVar 6) (dCons (dVar 8) dNil)))) dNil))))) (dRet (dC (.bl false))) dNext)
  (dSeq (dAsg (dCB rdTupA (dCons (dComp (dItr (dCall sp_law_word_form [] (wd Ed) (dCons (dVar 5) dNil))) (dName 15) dYes (dOp rdMulA (dVar 8) (dVar 15)) [15]) dNil)) (dTupG 3 (dGCons (dName 9) (dGCons (dName 10) (dGCons (dName 11) dGNil)))))
  (dSeq (dIfS (dNot (dTest (dCall sp_law_looked_right [] (wd Ed) (dCons (dTup (dCons (dC (.str "form below")) (dCons (dVar 9) (dCons (dVar 10) (dCons (dVar 11) dNil))))) (dCons (dTup (dCons (dVar 5) (dCons (dTup (dCons (dTup (dCons (dC (.int 2)) (dCons (dC (.int 0)) dNil))) (dCons (dTup (dCons (dC (.int 0)) (dCons (dC (.int 2)) dNil))) dNil))) (dCons (dOp rdMulA (dC (.int 4)) (dVar 8)) dNil)))) dNil))))) (dRet (dC (.bl false))) dNext)
  (dSeq (dSet 12 (dOp rdIx (dLst (dCons (dC (.int 5)) (dCons (dC (.int 30)) (dCons (dOp rdPow (dC (.int 10)) (dC (.int 6))) dNil)))) (dCall sp_law_draw [] (wd Ed) (dCons (dVar 2) (dCons (dC (.int 3)) dNil)))))
  (dSeq (dSet 13 (dComp (dRng1 (dCons (dC (.int 3)) dNil)) (dName 16) dYes (dOp rdSub (dCall sp_law_draw [] wd0 (dCons (dVar 2) (dCons (dOp rdAdd (dOp rdMulA (dC (.int 2)) (dVar 12)) (dC (.int 1))) dNil))) (dVar 12)) [16]))
  (dSeq (dSet 14 (dTup (dCons (dOp rdSub (dCall sp_law_draw [] (wd Ed) (dCons (dVar 2) (dCons (dC (.int 9)) dNil))) (dC (.int 4))) (dCons (dOp rdSub (dCall sp_law_draw [] (wd Ed) (dCons (dVar 2) (dCons (dC (.int 9)) dNil))) (dC (.int 4))) dNil))))
  (dSeq (dIfS (dNot (dTest (dCall sp_law_all_looked_right [] (wd Ed) (dCons (dVar 2) (dCons (dTup (dCons (dC (.str "form above")) (dCons (dOp rdIx (dVar 13) (dC (.int 0))) (dCons (dOp rdIx (dVar 13) (dC (.int 1))) (dCons (dOp rdIx (dVar 13) (dC (.int 2))) dNil))))) (dCons (dVar 14) dNil)))))) (dRet (dC (.bl false))) dNext)
  (dSeq (dIfS (dNot (dTest (dCall sp_law_looked_right [] (wd Ed) (dCons (dTup (dCons (dC (.str "form above")) (dCons (dVar 9) (dCons (dVar 10) (dCons (dVar 11) dNil))))) (dCons (dVar 14) dNil))))) (dRet (dC (.bl false))) dNext)
  (dIfS (dNot (dTest (dCall sp_law_looked_right [] (wd Ed) (dCons (dTup (dCons (dC (.str "form below")) (dCons (dOp rdIx (dVar 13) (dC (.int 0))) (dCons (dOp rdIx (dVar 13) (dC (.int 1))) (dCons (dOp rdIx (dVar 13) (dC (.int 2))) dNil))))) (dCons (dTup (dCons (dVar 5) (dCons (dVar 6) (dCons (dVar 8) dNil)))) dNil))))) (dRet (dC (.bl false))) dNext)))))))))))))))))
  (dSeq (dIfS (dTest (dCall sp_holds [] (wd Ed) (dCons (dTup (dCons (dC (.str "form below")) (dCons (dC (.int 1)) (dCons (dUn rdNeg (dC (.int 2))) (dCons (dUn rdNeg (dC (.int 4))) dNil))))) (dCons (dTup (dCons (dC (.str "a")) (dCons (dTup (dCons (dTup (dCons (dC (.int 2)) (dCons (dC (.int 0)) dNil))) (dCons (dTup (dCons (dC (.int 0)) (dCons (dC (.int 1)) dNil))) dNil))) (dCons (dC (.int 4)) dNil)))) dNil)))) (dRet (dC (.bl false))) dNext)
  (dRet (dNotV (dCall sp_holds [] (wd Ed) (dCons (dTup (dCons (dC (.str "form below")) (dCons (dC (.int 1)) (dCons (dUn rdNeg (dC (.int 4))) (dCons (dUn rdNeg (dC (.int 4))) dNil))))) (dCons (dTup (dCons (dC (.str "b")) (dCons (dTup (dCons (dTup (dCons (dC (.int 2)) (dCons (dC (.int 0)) dNil))) (dCons (dTup (dCons (dC (.int 0)) (dCons (dC (.int 1)) dNil))) dNil))) (dCons (dC (.int 4)) dNil)))) dNil)))))))
theorem st_law (a0 : D) : startD N_law [a0] = [some a0, none, none, none, none, none, none, none, none, none, none, none, none, none, none, none, none] := rfl

local macro_rules | `(tactic| walk_at "dy") => `(tactic| simp only [dCall, List.append_nil, dSeq, dSet, dIfS, dRet, dNext, dTest, dOp, dCB, dCons, dNil, dC, x_var0, x_varS, dTup, dLst, dLstO, dAndV, dOrV, dNotV, dAnd, dOr, dNot, dIf, dChain, dChain3, dStore, dBM, dDrop, dAsg, dTupG, x_tupL, x_tupX, dPlain, x_mulL, x_eqO_ss, x_neO_ss, dBM0, dGCons, dGNil, dName, dUn, dPar, dPar3, dSl, dPart, dNoPart, dRev, dBk, dFor, dItr, dRng1, dRng2,
  x_add_ii, x_add_ib, x_add_ss, x_add_tt, x_add_ll, x_sub, x_mul, x_mul_s, x_mulA, x_mulA_s, x_mulA_t, dCallK, sel_n1, sel_n2, sel_x2, sel_12, dZip, zipR, x_fdiv, x_mod, x_pow, x_neg, x_lt, x_le, x_gt, x_ge, x_eq_ii, x_eq_ss, x_eq_bb, x_ne_ii, x_ne_ss, x_ne_bb, x_abs, x_str_i, x_str_s, x_divmod, x_max2, x_min2, x_int_i, x_int_b, x_tupA_l, x_tupA_t, x_tupA_s, x_listA_l, x_listA_t, x_listA_s, x_sl_t, x_sl_l, x_sl_s, x_ixs, x_ixQ, x_ixS, atI_0, atI_1, atI_2, atI_3, x_inS, x_inT, x_notInT, dKin, dHT, dKeyed, keyR, dSumT, x_is_bb, x_isNot_bb, x_is_n, x_isNot_n, x_count, tyM,
  x_len_tup, x_len_lst, x_len_str, x_ixt, x_ixl, x_isi, isi_non_int, isi_non_bool, isi_non_str, isi_non_tuple, isi_non_list, isi_bl_int, isi_bl_bool, isi_bl_str, isi_bl_tuple, isi_bl_list, isi_int_int, isi_int_bool, isi_int_str, isi_int_tuple, isi_int_list, isi_str_int, isi_str_bool, isi_str_str, isi_str_tuple, isi_str_list, isi_tup_int, isi_tup_bool, isi_tup_str, isi_tup_tuple, isi_tup_list, isi_lst_int, isi_lst_bool, isi_lst_str, isi_lst_tuple, isi_lst_list,
  List.set_cons_zero, List.set_cons_succ, ite_tt, ite_ff, Bool.not_true, Bool.not_false, List.length_cons, List.length_nil, true_and, and_true, Nat.reduceAdd, Nat.reduceLeDiff, decide_eq_true_eq, Bool.not_eq_true', decide_eq_false_iff_not, reduceCtorEq, eq_self, if_false, if_true])

theorem pure_is_whole : ∀ ds S Q Ed, sp_is_whole ds S Q Ed → t_is_whole Ed { nx := fun _ S' => Q .non S', rt := Q } (startD N_is_whole ds) S := by
  rintro ds S Q Ed ⟨d, rfl, hd, q⟩
  rw [st_is_whole]
  unfold t_is_whole
  cases d <;> first | (walk_at "dy"; exact q) | exact absurd (show false = true from hd) Bool.false_ne_true

theorem pure_are_wholes : ∀ ds S Q Ed, sp_are_wholes ds S Q Ed → t_are_wholes Ed { nx := fun _ S' => Q .non S', rt := Q } (startD N_are_wholes ds) S := by
  rintro ds S Q Ed ⟨xs, n, rfl, hd, hl, q⟩
  rw [st_are_wholes]
  unfold t_are_wholes
  walk_at "dy"
  refine comp_pure (fun d => .bl (isWh d)) xs S (fun R hR => hR) (fun x hx S' Q' q' => ?_) (by omega) ?_
  · exact (⟨x, rfl, sm_data (smT.mp hd x hx), q'⟩ : sp_is_whole [x] S' Q' (fun _ _ => False))
  · refine x_allb (bs := xs.map isWh) (by rw [List.map_map]; rfl) ?_
    rw [List.all_map]
    exact q

theorem pure_shared_by : ∀ ds S Q Ed, sp_shared_by ds S Q Ed → t_shared_by Ed { nx := fun _ S' => Q .non S', rt := Q } (startD N_shared_by ds) S := by
  rintro ds S Q Ed ⟨a, b, rfl, q⟩
  rw [st_shared_by]
  unfold t_shared_by
  walk_at "dy"
  have ab : ∀ x : Int, (if x < 0 then -x else x) = (x.natAbs : Int) := fun x => by split <;> omega
  rw [ab, ab]
  refine while_inv (fun m σ S' => ∃ x y : Nat, σ = [some (.int x), some (.int y)] ∧ S' = S ∧ Nat.gcd x y = Int.gcd a b ∧ m = y) b.natAbs ⟨_, _, rfl, rfl, rfl, rfl⟩ ?_
  rintro m σ S' N ⟨x, y, rfl, rfl, e, rfl⟩ k
  walk_at "dy"
  by_cases c : 0 < (m : Int)
  · rw [if_pos c]
    refine ⟨by omega, ?_⟩
    have e2 : (x : Int).fmod (m : Int) = ((x % m : Nat) : Int) := by rw [Int.fmod_eq_emod_of_nonneg _ (by omega)]; rfl
    rw [e2]
    refine k (x % m) _ _ (Nat.mod_lt _ (by omega)) ⟨m, x % m, rfl, rfl, ?_, rfl⟩
    rw [← e, Nat.gcd_comm x m, Nat.gcd_rec m x, Nat.gcd_comm]
  · rw [if_neg c]
    have e3 : m = 0 := by omega
    subst e3
    rw [Nat.gcd_zero_right] at e
    rw [e]
    exact q

theorem bits_root {x : Int} (h2 : 2 ≤ x) (hx : x.natAbs < 2 ^ 8500) : ∃ h : Nat, ((Builtin.Int.intBits x : Nat) + 1 : Int).fdiv 2 = (h : Int) ∧ h ≤ 4251 ∧ x < 2 ^ h * 2 ^ h := by
  have e : Builtin.Int.intBits x = x.natAbs.log2 + 1 := by
    unfold Builtin.Int.intBits
    rw [if_neg (by simp; omega)]
  refine ⟨(x.natAbs.log2 + 1 + 1) / 2, ?_, ?_, ?_⟩
  · rw [e, Int.fdiv_eq_ediv_of_nonneg _ (by decide)]
    omega
  · have := (Nat.log2_lt (show x.natAbs ≠ 0 by omega)).mpr hx
    omega
  · have l := Nat.lt_log2_self (n := x.natAbs)
    have m : 2 ^ (x.natAbs.log2 + 1) ≤ 2 ^ ((x.natAbs.log2 + 1 + 1) / 2 + (x.natAbs.log2 + 1 + 1) / 2) := Nat.pow_le_pow_right (by decide) (by omega)
    rw [Nat.pow_add 2 ((x.natAbs.log2 + 1 + 1) / 2)] at m
    have n : x.natAbs < 2 ^ ((x.natAbs.log2 + 1 + 1) / 2) * 2 ^ ((x.natAbs.log2 + 1 + 1) / 2) := Nat.lt_of_lt_of_le l m
    generalize (x.natAbs.log2 + 1 + 1) / 2 = h at n
    have e2 : ((2 ^ h * 2 ^ h : Nat) : Int) = 2 ^ h * 2 ^ h := by simp
    omega
theorem pure_side_of : ∀ ds S Q Ed, sp_side_of ds S Q Ed → t_side_of Ed { nx := fun _ S' => Q .non S', rt := Q } (startD N_side_of ds) S := by
  rintro ds S Q Ed ⟨x, rfl, x0, hx, q⟩
  rw [st_side_of]
  unfold t_side_of
  refine seq_step fun r hr => ?_
  walk_at "dy"
  by_cases c : x < 2
  · rw [if_pos c]
    have : x = 0 ∨ x = 1 := by omega
    rcases this with rfl | rfl
    · exact q 0 (by decide) (by decide) (by decide)
    · exact q 1 (by decide) (by decide) (by decide)
  rw [if_neg c]
  have x2 : 2 ≤ x := by omega
  obtain ⟨r0, ra, rb⟩ := root_ex x.toNat
  have ra' : ((r0 : Nat) : Int) * r0 ≤ x := by
    have : ((r0 * r0 : Nat) : Int) ≤ x := by omega
    rw [Int.natCast_mul] at this
    exact this
  have rb' : x < ((r0 : Nat) + 1 : Int) * ((r0 : Nat) + 1) := by
    have : x < (((r0 + 1) * (r0 + 1) : Nat) : Int) := by omega
    rw [Int.natCast_mul, Int.natCast_add] at this
    exact this
  obtain ⟨h, eh, h1, h2⟩ := bits_root x2 hx
  subst hr
  refine seq_step fun r hr => ?_
  walk_at "dy"
  unfold dBits
  walk_at "dy"
  simp only [bitsQ]
  walk_at "dy"
  refine ⟨⟨by decide, by decide⟩, ?_⟩
  rw [eh]
  have p1 : (1 : Int) ≤ 2 ^ h := by
    have : (1 : Nat) ≤ 2 ^ h := Nat.one_le_two_pow
    have e : ((2 ^ h : Nat) : Int) = 2 ^ h := by simp
    omega
  have p2 : (2 : Int) ^ h ≤ 2 ^ 4251 := by
    have : (2 : Nat) ^ h ≤ 2 ^ 4251 := Nat.pow_le_pow_right (by decide) h1
    have e : ((2 ^ h : Nat) : Int) = 2 ^ h := by simp
    have e2 : ((2 ^ 4251 : Nat) : Int) = 2 ^ 4251 := by simp
    rw [← e, ← e2]
    exact Int.ofNat_le.mpr this
  have goS : ∀ (Q' : DK), Q' (.int (2 ^ h)) S → rdShl (.int 1) (.int (h : Nat)) S Q' := fun Q' q' => by
    refine ⟨⟨by omega, by omega, by decide⟩, ?_⟩
    rw [Int.toNat_natCast, Int.one_mul]
    exact q'
  refine goS _ ?_
  generalize hs : (2 : Int) ^ h = s0 at *
  have sb : ∀ s : Int, 1 ≤ s → s ≤ 2 ^ 4251 → s.natAbs.log2 < 9000 := fun s s1 s2 => by
    have e2 : ((2 ^ 4251 : Nat) : Int) = 2 ^ 4251 := by simp
    have : s.natAbs < 2 ^ 4252 := by
      have : (2 : Nat) ^ 4252 = 2 * 2 ^ 4251 := by rw [show 4252 = 1 + 4251 from rfl, Nat.pow_add]
      have p0 : 0 < (2 : Nat) ^ 4251 := Nat.pow_pos (by decide)
      omega
    have := log2_lt this (by decide)
    omega
  have rs : ((r0 : Nat) : Int) ≤ s0 := by
    rcases Int.lt_or_le s0 (r0 : Nat) with c | c
    · have : s0 * s0 ≤ ((r0 : Nat) : Int) * r0 := Int.mul_le_mul (by omega) (by omega) (by omega) (by omega)
      omega
    · exact c
  subst hr
  refine seq_step fun r hr => ?_
  walk_at "dy"
  refine ⟨⟨by omega, sb s0 p1 p2⟩, ⟨by decide, by decide⟩, ?_⟩
  rw [Int.fdiv_eq_ediv_of_nonneg x (by omega : (0 : Int) ≤ s0), Int.fdiv_eq_ediv_of_nonneg _ (by decide : (0 : Int) ≤ 2)]
  subst hr
  refine seq_step fun r hr => ?_
  refine while_inv (fun m σ S' => ∃ s : Int, σ = [some (.int x), some (.int s), some (.int ((s + x / s) / 2))] ∧ S' = S ∧ 1 ≤ s ∧ s ≤ 2 ^ 4251 ∧ ((r0 : Nat) : Int) ≤ s ∧ m = s.toNat) s0.toNat ⟨s0, rfl, rfl, p1, p2, rs, rfl⟩ ?_
  rintro m σ S' N ⟨s, rfl, rfl, s1, s2, rs', rfl⟩ k
  walk_at "dy"
  have hl := heron_le s1 (by omega : (0 : Int) ≤ (r0 : Nat)) ra'
  have r1 : (1 : Int) ≤ (r0 : Nat) := by
    rcases Nat.eq_zero_or_pos r0 with c | c
    · subst c
      simp at rb'
      omega
    · omega
  by_cases c2 : (s + x / s) / 2 < s
  · rw [if_pos c2]
    generalize ht : (s + x / s) / 2 = t at c2 hl ⊢
    refine ⟨⟨by omega, sb t (by omega) (by omega)⟩, ⟨by decide, by decide⟩, ?_⟩
    rw [Int.fdiv_eq_ediv_of_nonneg x (by omega : (0 : Int) ≤ t), Int.fdiv_eq_ediv_of_nonneg _ (by decide : (0 : Int) ≤ 2)]
    exact k _ _ _ (by omega) ⟨t, rfl, rfl, by omega, by omega, hl, rfl⟩
  · rw [if_neg c2]
    subst hr
    walk_at "dy"
    have hs2 := heron_stop (x := x) s1 (by omega)
    have e : s = (r0 : Nat) := by
      rcases Int.lt_or_le (r0 : Nat) s with c | c
      · have : ((r0 : Nat) + 1 : Int) * ((r0 : Nat) + 1) ≤ s * s := Int.mul_le_mul (by omega) (by omega) (by omega) (by omega)
        omega
      · omega
    rw [e]
    exact q (r0 : Nat) (by omega) ra' rb'

theorem isSqB_root {x y : Int} (y0 : 0 ≤ y) (h1 : y * y ≤ x) (h2 : x < (y + 1) * (y + 1)) : isSqB x = decide (y * y = x) := by
  by_cases c : y * y = x
  · rw [isSqB_true y0 c, decide_eq_true c]
  · rw [decide_eq_false c]
    exact isSqB_false (sq_between y0 (by omega) h2)
theorem pure_is_square : ∀ ds S Q Ed, sp_is_square ds S Q Ed → t_is_square Ed { nx := fun _ S' => Q .non S', rt := Q } (startD N_is_square ds) S := by
  rintro ds S Q Ed ⟨x, rfl, hx, q⟩
  rw [st_is_square]
  unfold t_is_square
  walk_at "dy"
  by_cases x0 : 0 ≤ x
  · simp only [x0, decide_true, if_true]
    try walk_at "dy"
    refine ⟨x, rfl, x0, Nat.lt_of_lt_of_le hx (Nat.pow_le_pow_right (by decide) (by decide)), fun y y0 h1 h2 => ?_⟩
    rw [isSqB_root y0 h1 h2] at q
    try walk_at "dy"
    have yx : y ≤ x + 1 := by
      rcases Int.lt_or_le y 1 with c | c
      · omega
      · have : y * 1 ≤ y * y := Int.mul_le_mul_of_nonneg_left c (by omega)
        omega
    have yb : y.natAbs.log2 < 3402 := by
      have : y.natAbs < 2 ^ 3402 := by
        have e : (2 : Nat) ^ 3402 = 4 * 2 ^ 3400 := by rw [show 3402 = 2 + 3400 from rfl, Nat.pow_add]
        have p : 0 < (2 : Nat) ^ 3400 := Nat.pow_pos (by decide)
        omega
      exact log2_lt this (by decide)
    refine ⟨⟨by decide, by omega⟩, ?_⟩
    rw [show y ^ (2 : Int).toNat = y * y by show y ^ 2 = y * y; grind]
    exact q
  · simp only [x0, decide_false]
    try walk_at "dy"
    rw [isSqB_false (fun y y0 e => by have := Int.mul_nonneg y0 y0; omega)] at q
    exact q

theorem pure_table_of_row : ∀ ds S Q Ed, sp_table_of_row ds S Q Ed → t_table_of_row Ed { nx := fun _ S' => Q .non S', rt := Q } (startD N_table_of_row ds) S := by
  rintro ds S Q Ed ⟨L, c, d, rfl, hd, hL, hc, hl, q⟩
  rw [st_table_of_row]
  unfold t_table_of_row
  rcases hd with rfl | rfl
  · unfold ringD
    walk_at "dy"
    refine loop_all (fun p σ S' => ∃ (M : List Int) (z : Option D), p = M.map D.int ∧ σ = [some (.tup (L.map D.int)), some (.int (t4L M).p), some (.int (t4L M).q), some (.int (t4L M).r), some (.int (t4L M).s), z] ∧ S' = S) ⟨[], none, rfl, rfl, rfl⟩ ?_ ?_
    · rintro p x r σ S' N e ⟨M, z, hp, rfl, rfl⟩ k
      obtain ⟨M', a, R, eL, rfl, hp'⟩ := mpI_split e
      have eM : M = M' := mpI_inj (hp.symm.trans hp')
      subst eM
      have hM : ∀ b ∈ M, b.natAbs + 1 ≤ 2 ^ c := fun b hb => hL b (by rw [eL]; exact List.mem_append_left _ hb)
      have ha := hL a (by rw [eL]; simp)
      have lM : M.length ≤ 200 := by
        have := congrArg List.length eL
        rw [List.length_append] at this
        omega
      obtain ⟨b1, b2, b3, b4⟩ := t4_wide hM
      have e1 : c * M.length ≤ 20000 := Nat.le_trans (Nat.mul_le_mul hc lM) (by decide)
      have lt : ∀ x : Int, x.natAbs ≤ 2 ^ (c * M.length) → x.natAbs < 2 ^ 20001 := fun x h => Nat.lt_of_le_of_lt (Nat.le_trans h (Nat.pow_le_pow_right (by decide) e1)) (Nat.pow_lt_pow_right (by decide) (by decide))
      have ba : a.natAbs < 2 ^ 100 := Nat.lt_of_lt_of_le (by omega) (Nat.pow_le_pow_right (by decide) hc)
      walk_at "dy"
      refine ⟨mulOk 20001 100 (lt _ b1) ba (by decide) (by decide) (by decide), mulOk 20001 100 (lt _ b3) ba (by decide) (by decide) (by decide), ?_⟩
      refine k _ _ ⟨M ++ [a], some (.int a), ?_, ?_, rfl⟩
      · rw [hp, List.map_append]; rfl
      · rw [t4_snoc]; rfl
    · rintro σ S' ⟨M, z, hp, rfl, rfl⟩
      have eM : M = L := mpI_inj hp.symm
      subst eM
      walk_at "dy"
      exact q
  · skip
    walk_at "dy"
    refine loop_all (fun p σ S' => ∃ (M : List Int) (z : Option D), p = M.map D.int ∧ σ = [some (.lst (L.map D.int)), some (.int (t4L M).p), some (.int (t4L M).q), some (.int (t4L M).r), some (.int (t4L M).s), z] ∧ S' = S) ⟨[], none, rfl, rfl, rfl⟩ ?_ ?_
    · rintro p x r σ S' N e ⟨M, z, hp, rfl, rfl⟩ k
      obtain ⟨M', a, R, eL, rfl, hp'⟩ := mpI_split e
      have eM : M = M' := mpI_inj (hp.symm.trans hp')
      subst eM
      have hM : ∀ b ∈ M, b.natAbs + 1 ≤ 2 ^ c := fun b hb => hL b (by rw [eL]; exact List.mem_append_left _ hb)
      have ha := hL a (by rw [eL]; simp)
      have lM : M.length ≤ 200 := by
        have := congrArg List.length eL
        rw [List.length_append] at this
        omega
      obtain ⟨b1, b2, b3, b4⟩ := t4_wide hM
      have e1 : c * M.length ≤ 20000 := Nat.le_trans (Nat.mul_le_mul hc lM) (by decide)
      have lt : ∀ x : Int, x.natAbs ≤ 2 ^ (c * M.length) → x.natAbs < 2 ^ 20001 := fun x h => Nat.lt_of_le_of_lt (Nat.le_trans h (Nat.pow_le_pow_right (by decide) e1)) (Nat.pow_lt_pow_right (by decide) (by decide))
      have ba : a.natAbs < 2 ^ 100 := Nat.lt_of_lt_of_le (by omega) (Nat.pow_le_pow_right (by decide) hc)
      walk_at "dy"
      refine ⟨mulOk 20001 100 (lt _ b1) ba (by decide) (by decide) (by decide), mulOk 20001 100 (lt _ b3) ba (by decide) (by decide) (by decide), ?_⟩
      refine k _ _ ⟨M ++ [a], some (.int a), ?_, ?_, rfl⟩
      · rw [hp, List.map_append]; rfl
      · rw [t4_snoc]; rfl
    · rintro σ S' ⟨M, z, hp, rfl, rfl⟩
      have eM : M = L := mpI_inj hp.symm
      subst eM
      walk_at "dy"
      exact q

theorem pure_form_of_row : ∀ ds S Q Ed, sp_form_of_row ds S Q Ed → t_form_of_row Ed { nx := fun _ S' => Q .non S', rt := Q } (startD N_form_of_row ds) S := by
  rintro ds S Q Ed ⟨L, c, rfl, h1, h0, hc, hl, hcl, q⟩
  rw [st_form_of_row]
  unfold t_form_of_row
  have gl := fmG_log h1 h0 hcl
  refine seq_step fun r hr => ?_
  walk_at "dy"
  refine ⟨L, c, _, rfl, .inl rfl, fun a ha => (h1 a ha).2, hc, hl, ?_⟩
  try walk_at "dy"
  subst hr
  refine seq_step fun r hr => ?_
  walk_at "dy"
  refine ⟨_, _, rfl, _, _, rfl, ?_⟩
  try walk_at "dy"
  have e : ((Int.gcd (Int.gcd (t4L L).r ((t4L L).s - (t4L L).p) : Nat) (t4L L).q : Nat) : Int) = fmG L := rfl
  rw [e]
  subst hr
  walk_at "dy"
  exact ⟨gl, gl, gl, q⟩

theorem pure_is_word : ∀ ds S Q Ed, sp_is_word ds S Q Ed → t_is_word Ed { nx := fun _ S' => Q .non S', rt := Q } (startD N_is_word ds) S := by
  rintro ds S Q Ed ⟨d, n, rfl, hd, q⟩
  rw [st_is_word]
  unfold t_is_word
  cases d with
  | str z =>
    walk_at "dy"
    have hz := sm_str.mp hd
    refine ⟨by omega, ?_⟩
    by_cases c1 : 1 ≤ (z.length : Int)
    · rw [if_pos c1]
      by_cases c2 : (z.length : Int) ≤ 60
      · rw [if_neg (by simp [c2])]
        refine abD_comp (fun c S' Q' q' => ?_) hz _ (fun R hR => hR) ?_
        · show rdInS (.str ⟨#[c]⟩) (.str "ab") S' Q'
          rw [x_inS, ab_cps]
          exact q'
        · have e : isWordD (.str z) = isAB z.cps.toList := by
            show (decide (1 ≤ z.length ∧ z.length ≤ 60) && _) = _
            rw [decide_eq_true ⟨by omega, by omega⟩]
            rfl
          rw [← e]; exact q
      · rw [if_pos (by simp; omega)]
        have e : isWordD (.str z) = false := by
          show (decide (1 ≤ z.length ∧ z.length ≤ 60) && _) = _
          rw [decide_eq_false (by omega)]
          rfl
        rw [← e]; exact q
    · rw [if_neg c1]
      have e : isWordD (.str z) = false := by
        show (decide (1 ≤ z.length ∧ z.length ≤ 60) && _) = _
        rw [decide_eq_false (by omega)]
        rfl
      rw [← e]; exact q
  | _ => first | (walk_at "dy"; exact q) | exact absurd (show false = true from hd) Bool.false_ne_true

theorem isPairD_len {xs : List D} : isPairD (.tup xs) = decide ((xs.length : Int) = 2) := by
  match xs with
  | [] => rfl
  | [a] => rfl
  | [a, b] => rfl
  | a :: b :: c :: r =>
    show false = _
    rw [decide_eq_false (by simp only [List.length_cons]; omega)]
theorem pure_is_pair_of : ∀ ds S Q Ed, sp_is_pair_of ds S Q Ed → t_is_pair_of Ed { nx := fun _ S' => Q .non S', rt := Q } (startD N_is_pair_of ds) S := by
  rintro ds S Q Ed ⟨d, rfl, hd, q⟩
  rw [st_is_pair_of]
  unfold t_is_pair_of
  cases d with
  | tup xs =>
    walk_at "dy"
    rw [isPairD_len] at q
    exact q
  | _ => first | (walk_at "dy"; exact q) | exact absurd (show false = true from hd) Bool.false_ne_true

def rowOk (d : D) : Bool := isPairD d && (match d with | .tup xs => xs.all isWh | _ => false)
theorem isTabD_rows {a b : D} : isTabD (.tup [a, b]) = (rowOk a && (rowOk b && true)) := by
  have row : ∀ d, rowOk d = true → ∃ i j, d = .tup [.int i, .int j] := fun d h => by
    have h' := Bool.and_eq_true_iff.mp h
    unfold isPairD at h'
    cases d with
    | tup xs =>
      match xs, h' with
      | [x, y], h' =>
        simp only [List.all_cons, List.all_nil, Bool.and_true, Bool.and_eq_true] at h'
        obtain ⟨i, rfl⟩ := isWh_int h'.2.1
        obtain ⟨j, rfl⟩ := isWh_int h'.2.2
        exact ⟨i, j, rfl⟩
      | [], h' => exact absurd h'.1 (by simp)
      | [x], h' => exact absurd h'.1 (by simp)
      | x :: y :: z :: r, h' => exact absurd h'.1 (by simp)
    | _ => exact absurd h'.1 (by simp)
  have back : ∀ d e, isTabD (.tup [d, e]) = true → rowOk d = true ∧ rowOk e = true := fun d e h => by
    obtain ⟨m, hm⟩ := isTabD_of h
    unfold tbD at hm
    injection hm with hm
    injection hm with h1 h2
    injection h2 with h2 _
    subst h1 h2
    exact ⟨rfl, rfl⟩
  rw [Bool.and_true, Bool.eq_iff_iff, Bool.and_eq_true]
  constructor
  · exact back a b
  · rintro ⟨h1, h2⟩
    obtain ⟨i, j, rfl⟩ := row a h1
    obtain ⟨k, l, rfl⟩ := row b h2
    rfl
theorem isTabD_pair {d : D} (h : isPairD d = false) : isTabD d = false := by
  cases e : isTabD d with
  | false => rfl
  | true =>
    obtain ⟨m, rfl⟩ := isTabD_of e
    exact absurd (show true = false from h) (by decide)
theorem pure_is_table : ∀ ds S Q Ed, sp_is_table ds S Q Ed → t_is_table Ed { nx := fun _ S' => Q .non S', rt := Q } (startD N_is_table ds) S := by
  rintro ds S Q Ed ⟨d, n, rfl, hd, q⟩
  rw [st_is_table]
  unfold t_is_table
  walk_at "dy"
  refine ⟨d, rfl, sm_data hd, ?_⟩
  walk_at "dy"
  cases e : isPairD d with
  | false =>
    walk_at "dy"
    rw [isTabD_pair e] at q
    exact q
  | true =>
    obtain ⟨a, b, rfl⟩ : ∃ a b, d = .tup [a, b] := by
      unfold isPairD at e
      split at e
      · exact ⟨_, _, rfl⟩
      · cases e
    walk_at "dy"
    have hab := smT.mp hd
    refine comp_pure (fun d => .bl (rowOk d)) [a, b] S (fun R hR => hR) (fun x hx S' Q' q' => ?_) (by show 2 ≤ 16777216; decide) ?_
    · have hx' := hab x hx
      show dAndV _ _ [some (D.tup [a, b]), some x] S' Q'
      walk_at "dy"
      refine ⟨x, rfl, sm_data hx', ?_⟩
      walk_at "dy"
      cases e2 : isPairD x with
      | false =>
        walk_at "dy"
        have e3 : rowOk x = false := by unfold rowOk; rw [e2]; rfl
        rw [e3] at q'
        exact q'
      | true =>
        obtain ⟨a', b', rfl⟩ : ∃ a b, x = .tup [a, b] := by
          unfold isPairD at e2
          split at e2
          · exact ⟨_, _, rfl⟩
          · cases e2
        walk_at "dy"
        refine ⟨[a', b'], n, rfl, hx', by show 2 ≤ 100000; decide, ?_⟩
        exact q'
    · refine x_allb (bs := [rowOk a, rowOk b]) rfl ?_
      have e4 : List.all [rowOk a, rowOk b] id = isTabD (.tup [a, b]) := by rw [isTabD_rows]; rfl
      rw [e4]
      exact q

theorem pure_size_of : ∀ ds S Q Ed, sp_size_of ds S Q Ed → t_size_of Ed { nx := fun _ S' => Q .non S', rt := Q } (startD N_size_of ds) S := by
  rintro ds S Q Ed ⟨m, n, rfl, h, n0, n1, q⟩
  rw [st_size_of]
  unfold t_size_of tbD
  walk_at "dy"
  exact ⟨mulOk n n h.1 h.2.2.2 n0 n0 (by omega), mulOk n n h.2.1 h.2.2.1 n0 n0 (by omega), q⟩

theorem pure_is_turning : ∀ ds S Q Ed, sp_is_turning ds S Q Ed → t_is_turning Ed { nx := fun _ S' => Q .non S', rt := Q } (startD N_is_turning ds) S := by
  rintro ds S Q Ed ⟨d, n, rfl, hd, n0, n1, q⟩
  rw [st_is_turning]
  unfold t_is_turning
  walk_at "dy"
  refine ⟨d, n, rfl, hd, ?_⟩
  walk_at "dy"
  cases e : isTabD d with
  | false =>
    walk_at "dy"
    have e2 : isTurnD d = false := by
      unfold isTurnD
      split
      · exact absurd e (by simp [isTabD])
      · rfl
    rw [e2] at q
    exact q
  | true =>
    obtain ⟨m, rfl⟩ := isTabD_of e
    walk_at "dy"
    refine ⟨m, n, rfl, sm_tb.mp hd, n0, n1, ?_⟩
    walk_at "dy"
    rw [isTurnD_tb] at q
    have e3 : decide ((if detM m < 0 then -detM m else detM m) = 1) = decide ((detM m).natAbs = 1) := by
      rw [decide_eq_decide]
      split <;> omega
    rw [e3]
    exact q

theorem pure_look_turning : ∀ ds S Q Ed, sp_look_turning ds S Q Ed → t_look_turning Ed { nx := fun _ S' => Q .non S', rt := Q } (startD N_look_turning ds) S := by
  rintro ds S Q Ed ⟨d, n, rfl, hd, n0, n1, q1, q2⟩
  rw [st_look_turning]
  unfold t_look_turning
  walk_at "dy"
  refine ⟨d, n, rfl, hd, n0, by omega, ?_⟩
  cases e : isTurnD d with
  | true =>
    walk_at "dy"
    exact q1 e
  | false =>
    walk_at "dy"
    exact q2 e

/-- a new form -/
theorem fm_make {P : List Str → List D → Sd → Prop} {A B C : Int} {n : Nat} {S : Sd} {E : XKD} {p : Addr} (hA : A.natAbs < 2 ^ n) (hB : B.natAbs < 2 ^ n) (hC : C.natAbs < 2 ^ n) (n0 : 1 ≤ n) (n1 : n ≤ 9000) (hu : (undF A B C).natAbs < 2 ^ 3400) (ho : okF A B C = true) (ha : S p = none)
    (k : ∀ S2, Dv.del S2 p = S → P ["held", "held_under"] [tri3 A B C, .int (undF A B C)] S2) :
    sp_Form___init__ [.obj p, .int A, .int B, .int C] (upS S p (.ins "Form" [] [])) (fun v S2 => v = .non ∧ ∃ ns ys, S2 p = some (.ins "Form" ns ys) ∧ P ns ys S2) E := by
  refine ⟨p, _, _, _, n, rfl, sm_int.mpr hA, sm_int.mpr hB, sm_int.mpr hC, n0, n1, upS_same, fun A' B' C' e1 e2 e3 => ?_, fun h => by cases h⟩
  cases e1
  cases e2
  cases e3
  exact ⟨hu, fun _ => ⟨rfl, _, _, upS_same, k _ (by rw [upS_upS, del_upS ha])⟩, fun h => by rw [ho] at h; cases h⟩
theorem pure_Form___init__ : ∀ ds S Q Ed, sp_Form___init__ ds S Q Ed → t_Form___init__ Ed { nx := fun _ S' => Q .non S', rt := Q } (startD N_Form___init__ ds) S := by
  rintro ds S Q Ed ⟨p, a, b, c, n, rfl, ha, hb, hc, n0, n1, hp, q1, q2⟩
  rw [st_Form___init__]
  unfold t_Form___init__
  refine seq_step fun r hr => ?_
  walk_at "dy"
  refine ⟨[a, b, c], n, rfl, ?_, by show 3 ≤ 100000; decide, ?_⟩
  · rw [smT]
    intro d hd
    simp only [List.mem_cons, List.not_mem_nil, or_false] at hd
    rcases hd with rfl | rfl | rfl <;> assumption
  have ea : [a, b, c].all isWh = (isWh a && (isWh b && isWh c)) := by simp only [List.all_cons, List.all_nil, Bool.and_true]
  rw [ea]
  cases hw : (isWh a && (isWh b && isWh c)) with
  | false =>
    try walk_at "dy"
    exact q2 hw
  | true =>
    obtain ⟨w1, w2⟩ := Bool.and_eq_true_iff.mp hw
    obtain ⟨w2, w3⟩ := Bool.and_eq_true_iff.mp w2
    obtain ⟨A, rfl⟩ := isWh_int w1
    obtain ⟨B, rfl⟩ := isWh_int w2
    obtain ⟨C, rfl⟩ := isWh_int w3
    obtain ⟨hu, q1, q3⟩ := q1 A B C rfl rfl rfl
    clear q2
    have bA := sm_int.mp ha
    have bB := sm_int.mp hb
    have bC := sm_int.mp hc
    have mk : ∀ {x y : Int} {i j : Nat}, x.natAbs < 2 ^ i → y.natAbs < 2 ^ j → i ≤ 20000 → j ≤ 20000 → x.natAbs.log2 + y.natAbs.log2 < 1000000 := fun h k hi hj => mulOk 20000 20000 (Nat.lt_of_lt_of_le h (Nat.pow_le_pow_right (by decide) hi)) (Nat.lt_of_lt_of_le k (Nat.pow_le_pow_right (by decide) hj)) (by decide) (by decide) (by decide)
    have lB : B.natAbs.log2 < 9001 := by have := log2_lt bB (by omega); omega
    have b4 : (4 : Int).natAbs < 2 ^ 3 := by decide
    try walk_at "dy"
    subst hr
    refine seq_step fun r hr => ?_
    walk_at "dy"
    refine ⟨⟨by decide, by omega⟩, mk b4 bA (by decide) (by omega), mk (wide_lt b4 bA) bC (by omega) (by omega), ?_⟩
    have eu : B ^ (2 : Int).toNat - 4 * A * C = undF A B C := by
      show B ^ 2 - 4 * A * C = B * B - 4 * A * C
      rw [show B ^ 2 = B * B by grind]
    rw [eu]
    unfold okF at q1 q3
    generalize undF A B C = u at *
    subst hr
    refine seq_step fun r hr => ?_
    walk_at "dy"
    by_cases c1 : u < 1
    · have e1 : decide (1 ≤ u) = false := decide_eq_false (by omega)
      rw [e1, Bool.false_and] at q3
      simp only [c1, decide_true, if_true]
      try walk_at "dy"
      exact q3 rfl
    · have e1 : decide (1 ≤ u) = true := decide_eq_true (by omega)
      rw [e1, Bool.true_and] at q1 q3
      simp only [c1, decide_false, Bool.false_eq_true, if_false]
      try walk_at "dy"
      refine ⟨u, rfl, hu, ?_⟩
      cases e : isSqB u with
      | true =>
        rw [e] at q3
        try walk_at "dy"
        exact q3 rfl
      | false =>
        rw [e] at q1
        try walk_at "dy"
        subst hr
        refine seq_step fun r hr => ?_
        unfold dPut
        walk_at "dy"
        refine ⟨p, [], [], rfl, hp, by simp, by decide, ?_⟩
        subst hr
        unfold dPut
        walk_at "dy"
        refine ⟨p, _, _, rfl, upS_same, by decide +kernel, by decide, ?_⟩
        rw [upS_upS]
        exact q1 rfl

theorem pure_Form_parts : ∀ ds S Q Ed, sp_Form_parts ds S Q Ed → t_Form_parts Ed { nx := fun _ S' => Q .non S', rt := Q } (startD N_Form_parts ds) S := by
  rintro ds S Q Ed ⟨d, u, rfl, q⟩
  rw [st_Form_parts]
  unfold t_Form_parts
  exact ⟨_, _, _, rfl, rfl, q⟩

theorem pure_Form_under_root : ∀ ds S Q Ed, sp_Form_under_root ds S Q Ed → t_Form_under_root Ed { nx := fun _ S' => Q .non S', rt := Q } (startD N_Form_under_root ds) S := by
  rintro ds S Q Ed ⟨d, u, rfl, q⟩
  rw [st_Form_under_root]
  unfold t_Form_under_root
  exact ⟨_, _, _, rfl, rfl, q⟩

theorem pure_Form_value : ∀ ds S Q Ed, sp_Form_value ds S Q Ed → t_Form_value Ed { nx := fun _ S' => Q .non S', rt := Q } (startD N_Form_value ds) S := by
  rintro ds S Q Ed ⟨A, B, C, x, y, u, n, rfl, bA, bB, bC, bx, bY, n0, n1, q⟩
  rw [st_Form_value]
  unfold t_Form_value
  have mk : ∀ {x y : Int} {i j : Nat}, x.natAbs < 2 ^ i → y.natAbs < 2 ^ j → i ≤ 20000 → j ≤ 20000 → x.natAbs.log2 + y.natAbs.log2 < 1000000 := fun h k hi hj => mulOk 20000 20000 (Nat.lt_of_lt_of_le h (Nat.pow_le_pow_right (by decide) hi)) (Nat.lt_of_lt_of_le k (Nat.pow_le_pow_right (by decide) hj)) (by decide) (by decide) (by decide)
  have lx : x.natAbs.log2 < 9001 := by have := log2_lt bx (by omega); omega
  have ly : y.natAbs.log2 < 9001 := by have := log2_lt bY (by omega); omega
  have e2 : ∀ x : Int, x ^ (2 : Int).toNat = x * x := fun x => by show x ^ 2 = x * x; grind
  refine seq_step fun r hr => ?_
  refine ⟨_, _, _, rfl, rfl, ?_⟩
  walk_at "dy"
  subst hr
  walk_at "dy"
  refine ⟨⟨by decide, by omega⟩, ?_⟩
  rw [e2]
  refine ⟨mk bA (wide_lt bx bx) (by omega) (by omega), mk bB bx (by omega) (by omega), mk (wide_lt bB bx) bY (by omega) (by omega), ⟨by decide, by omega⟩, ?_⟩
  rw [e2]
  exact ⟨mk bC (wide_lt bY bY) (by omega) (by omega), q⟩

theorem pure_Form_turned : ∀ ds S Q Ed, sp_Form_turned ds S Q Ed → t_Form_turned Ed { nx := fun _ S' => Q .non S', rt := Q } (startD N_Form_turned ds) S := by
  rintro ds S Q Ed ⟨A, B, C, u, d, rfl, bA, bB, bC, ho, hd, q1, q2⟩
  rw [st_Form_turned]
  unfold t_Form_turned
  refine seq_step fun r hr => ?_
  walk_at "dy"
  refine ⟨d, 600, rfl, hd, by decide, by decide, fun ht => ?_, q2⟩
  obtain ⟨m, rfl, dm⟩ := turn_of ht
  have q1 := q1 m rfl dm
  obtain ⟨bp, bq, br, bs⟩ := sm_tb.mp hd
  have sz : SzM m 600 := ⟨bp, bq, br, bs⟩
  have mk : ∀ {x y : Int} {i j : Nat}, x.natAbs < 2 ^ i → y.natAbs < 2 ^ j → i ≤ 20000 → j ≤ 20000 → x.natAbs.log2 + y.natAbs.log2 < 1000000 := fun h k hi hj => mulOk 20000 20000 (Nat.lt_of_lt_of_le h (Nat.pow_le_pow_right (by decide) hi)) (Nat.lt_of_lt_of_le k (Nat.pow_le_pow_right (by decide) hj)) (by decide) (by decide) (by decide)
  have b2 : (2 : Int).natAbs < 2 ^ 2 := by decide
  have up : ∀ {x : Int} {n : Nat}, x.natAbs < 2 ^ n → n ≤ 3000 → x.natAbs < 2 ^ 3000 := fun h k => Nat.lt_of_lt_of_le h (Nat.pow_le_pow_right (by decide) k)
  subst hr
  refine seq_step fun r hr => ?_
  unfold tbD
  walk_at "dy"
  subst hr
  refine seq_step fun r hr => ?_
  refine ⟨_, _, _, rfl, rfl, ?_⟩
  walk_at "dy"
  subst hr
  refine seq_step fun r hr => ?_
  walk_at "dy"
  have s1 : (m.p * m.s + m.q * m.r).natAbs < 2 ^ 1300 := by
    have h1 := wide_lt bp bs
    have h2 := wide_lt bq br
    have p1 : (2 : Nat) ^ 1300 = 2 ^ 100 * 2 ^ (600 + 600) := by rw [← Nat.pow_add]
    have p2 : 4 * 2 ^ (600 + 600) ≤ (2 : Nat) ^ 100 * 2 ^ (600 + 600) := Nat.mul_le_mul_right _ (by decide)
    omega
  refine ⟨mk b2 bA (by decide) (by decide), mk (wide_lt b2 bA) bp (by decide) (by decide), mk (wide_lt (wide_lt b2 bA) bp) bq (by decide) (by decide), mk bp bs (by decide) (by decide), mk bq br (by decide) (by decide), mk bB s1 (by decide) (by decide), mk b2 bC (by decide) (by decide), mk (wide_lt b2 bC) br (by decide) (by decide), mk (wide_lt (wide_lt b2 bC) br) bs (by decide) (by decide), ?_⟩
  have et : 2 * A * m.p * m.q + B * (m.p * m.s + m.q * m.r) + 2 * C * m.r * m.s = trB A B C m := rfl
  rw [et]
  subst hr
  unfold dMake dMeth
  walk_at "dy"
  refine ⟨⟨_, _, rfl, by decide +kernel⟩, ?_⟩
  refine ⟨A, B, C, m.p, m.r, u, 3000, rfl, up bA (by decide), up bB (by decide), up bC (by decide), up bp (by decide), up br (by decide), by decide, by decide, ?_⟩
  refine ⟨⟨_, _, rfl, by decide +kernel⟩, ?_⟩
  refine ⟨A, B, C, m.q, m.s, u, 3000, rfl, up bA (by decide), up bB (by decide), up bC (by decide), up bq (by decide), up bs (by decide), by decide, by decide, ?_⟩
  have v1 := val_sz bA bB bC bp br
  have v2 := val_sz bA bB bC bq bs
  have v3 := trB_sz bA bB bC sz
  have eu := und_tr1 (A := A) (B := B) (C := C) dm
  intro p hp
  refine fm_make (n := 3000) (up v1 (by decide)) (up v3 (by decide)) (up v2 (by decide)) (by decide) (by decide) ?_ ?_ hp fun S2 e2 => ?_
  · rw [eu]
    exact Nat.lt_of_lt_of_le (und_sz bA bB bC) (Nat.pow_le_pow_right (by decide) (by decide))
  · rw [okF_und eu]
    exact ho
  · rw [e2]
    exact q1

theorem pure_even_word : ∀ ds S Q Ed, sp_even_word ds S Q Ed → t_even_word Ed { nx := fun _ S' => Q .non S', rt := Q } (startD N_even_word ds) S := by
  rintro ds S Q Ed ⟨b, a, rfl, hl, q⟩
  rw [st_even_word]
  unfold t_even_word
  walk_at "dy"
  have en : ((b : Int) + (a : Int)) = ((b + a : Nat) : Int) := by omega
  rw [en]
  generalize hn : b + a = n at *
  have hb : b ≤ n := by omega
  refine comp_pure (evD b n) (rgD 1 n) S (fun R hR => ?_) (fun x hx S' Q' q' => ?_) (by rw [rgD_len]; omega) ?_
  · walk_at "dy"
    refine ⟨by omega, ?_⟩
    rw [show ((n : Int) + 1 - 1).toNat = n by omega]
    exact hR
  · obtain ⟨k, hk, rfl⟩ := List.mem_map.mp hx
    have hk' := List.mem_range.mp hk
    show (dOp rdIx _ _ ([some (D.int b), some (D.int a), some (D.int n), some (D.int (1 + (k : Int)))]) S' Q')
    walk_at "dy"
    have hn0 : (n : Int) ≠ 0 := by omega
    have l1 : ∀ {x : Int}, 0 ≤ x → x ≤ 1000000 → x.natAbs < 2 ^ 20 := fun h0 h1 => by omega
    have hlog : (n : Int).natAbs.log2 < 9000 := Nat.lt_of_lt_of_le (log2_lt (n := 20) (l1 (by omega) (by omega)) (by decide)) (by decide)
    refine ⟨mulOk 20 20 (l1 (by omega) (by omega)) (l1 (by omega) (by omega)) (by decide) (by decide) (by decide), ⟨hn0, hlog⟩, mulOk 20 20 (l1 (by omega) (by omega)) (l1 (by omega) (by omega)) (by decide) (by decide) (by decide), ⟨hn0, hlog⟩, ?_⟩
    have e1 : ((1 + (k : Int)) * b).fdiv n = (((k + 1) * b / n : Nat) : Int) := by
      rw [Int.fdiv_eq_ediv_of_nonneg _ (by omega), show (1 + (k : Int)) = ((k + 1 : Nat) : Int) by omega]
      rfl
    have e2 : ((1 + (k : Int) - 1) * b).fdiv n = ((k * b / n : Nat) : Int) := by
      rw [Int.fdiv_eq_ediv_of_nonneg _ (by omega), show (1 + (k : Int) - 1) = (k : Int) by omega]
      rfl
    rw [e1, e2, ab_cps]
    refine ⟨by decide +kernel, ?_⟩
    have f := (floor_step (k := k) hb (by omega)).1
    have q2 : Q' (.str ⟨#[if (k + 1) * b / n = k * b / n then 97 else 98]⟩) S' := by
      have e3 : evD b n (.int (1 + (k : Int))) = .str ⟨#[if (k + 1) * b / n = k * b / n then 97 else 98]⟩ := by
        show D.str ⟨#[if (1 + (k : Int)).toNat * b / n = ((1 + (k : Int)).toNat - 1) * b / n then 97 else 98]⟩ = _
        rw [show (1 + (k : Int)).toNat = k + 1 by omega]
        rfl
      rw [← e3]; exact q'
    by_cases c : k * b % n + b < n
    · rw [if_pos c] at f
      rw [f] at q2 ⊢
      rw [if_pos rfl] at q2
      rw [Int.sub_self, atI_0]
      exact q2
    · rw [if_neg c] at f
      rw [f] at q2 ⊢
      rw [if_neg (Nat.succ_ne_self _)] at q2
      rw [show (((k * b / n + 1 : Nat) : Int) - ((k * b / n : Nat) : Int)) = 1 by omega, atI_1]
      exact q2
  · rw [evD_map]
    refine x_join ((List.range n).map fun k => (⟨#[if (k + 1) * b / n = k * b / n then 97 else 98]⟩ : Str)) rfl ?_ ?_
    · rw [sum_ones _ (fun _ => rfl), List.length_range]
      show n + _ * 0 ≤ _
      omega
    · have e : ((List.range n).map fun k => (⟨#[if (k + 1) * b / n = k * b / n then 97 else 98]⟩ : Str)) = (evF b n).map fun c => (⟨#[c]⟩ : Str) := by
        unfold evF
        rw [List.map_map]
        rfl
      rw [e, join_ones]
      exact q

theorem pure_is_step_word : ∀ ds S Q Ed, sp_is_step_word ds S Q Ed → t_is_step_word Ed { nx := fun _ S' => Q .non S', rt := Q } (startD N_is_step_word ds) S := by
  rintro ds S Q Ed ⟨d, n, rfl, hd, q⟩
  rw [st_is_step_word]
  unfold t_is_step_word
  walk_at "dy"
  refine ⟨d, n, rfl, hd, ?_⟩
  walk_at "dy"
  cases cw : isWordD d with
  | false =>
    walk_at "dy"
    have e : isStepD d = false := by
      cases d <;> first | rfl | skip
      show (isWordD _ && _) = false
      rw [cw]; rfl
    rw [e] at q
    exact q
  | true =>
    obtain ⟨l, rfl, l0, l1, la⟩ := isWordD_str cw
    have e : isStepD (.str (ofL l)) = isStepL l := by
      show (isWordD _ && _) = _
      rw [cw]; rfl
    rw [e] at q
    walk_at "dy"
    rw [count_b, ofL_len]
    refine ⟨by omega, ?_⟩
    refine ⟨_, _, rfl, ?_⟩
    walk_at "dy"
    rw [Int.gcd_natCast_natCast]
    have cl : l.count 98 ≤ l.length := List.count_le_length
    by_cases c : Nat.gcd (l.count 98) l.length = 1
    · rw [if_pos (show ((Nat.gcd (l.count 98) l.length : Nat) : Int) = 1 by omega)]
      refine ⟨by omega, ?_⟩
      refine ⟨l.count 98, l.length - l.count 98, by rw [Int.ofNat_sub cl], by omega, ?_⟩
      walk_at "dy"
      rw [show l.count 98 + (l.length - l.count 98) = l.length by omega]
      rw [step_tail (k1 := true) (decide_eq_true c).symm rfl] at q
      have e3 : decide (ofL l = ofL (evF (l.count 98) l.length)) = decide (l = evF (l.count 98) l.length) := by
        rw [decide_eq_decide]; exact ofL_inj
      rw [e3]
      exact q
    · rw [if_neg (show ¬ ((Nat.gcd (l.count 98) l.length : Nat) : Int) = 1 by omega)]
      rw [step_tail (k1 := false) (decide_eq_false c).symm rfl] at q
      exact q

def nuF : D → D
  | .str z => match k_NUMBERS z with
    | some d => d
    | none => .non
  | d => d
theorem pure_row_of_word : ∀ ds S Q Ed, sp_row_of_word ds S Q Ed → t_row_of_word Ed { nx := fun _ S' => Q .non S', rt := Q } (startD N_row_of_word ds) S := by
  rintro ds S Q Ed ⟨l, rfl, hab, hl, q⟩
  rw [st_row_of_word]
  unfold t_row_of_word
  show dSumT _ _ _ S _
  simp only [dSumT, dCons, dNil]
  refine comp_pure nuF (sgD (ofL l)) S (fun R hR => hR) (fun x hx S' Q' q' => ?_) (by unfold sgD; rw [List.length_map, ofL_cps]; omega) ?_
  · obtain ⟨c, hc, rfl⟩ := List.mem_map.mp hx
    have e := k_num (isAB_iff.mp hab c hc)
    have e2 : nuF (.str ⟨#[c]⟩) = .tup ((nuC c).map D.int) := by
      show (match k_NUMBERS ⟨#[c]⟩ with | some d => d | none => .non) = _
      rw [e]
    rw [e2] at q'
    show (match k_NUMBERS ⟨#[c]⟩ with | some d => Q' d S' | none => False)
    rw [e]
    exact q'
  · walk_at "dy"
    refine ⟨l.map fun c => (nuC c).map D.int, ?_, fun n => ?_, ?_⟩
    · unfold sgD
      rw [List.map_map, List.map_map, ofL_cps]
      refine List.map_congr_left fun c hc => ?_
      show (match k_NUMBERS ⟨#[c]⟩ with | some d => d | none => D.non) = _
      rw [k_num (isAB_iff.mp hab c hc)]
      rfl
    · rw [← List.map_take, nu_flat, List.length_map, nuL_len, List.length_take]; omega
    · rw [nu_flat]; exact q

theorem pure_form_by : ∀ ds S Q Ed, sp_form_by ds S Q Ed → t_form_by Ed { nx := fun _ S' => Q .non S', rt := Q } (startD N_form_by ds) S := by
  rintro ds S Q Ed ⟨l, rfl, hab, h0, hl, q⟩
  rw [st_form_by]
  unfold t_form_by
  refine seq_step fun r hr => ?_
  walk_at "dy"
  refine ⟨l, rfl, hab, hl, ?_⟩
  try walk_at "dy"
  have nu1 := nuL_two l
  have nl := nuL_len l
  have n0 := nuL_ne h0
  refine ⟨nuL l, 2, rfl, fun a ha => ⟨(nu1 a ha).1, by have := nu1 a ha; omega⟩, n0, by decide, by omega, by omega, ?_⟩
  try walk_at "dy"
  subst hr
  unfold dMake
  walk_at "dy"
  intro p hp
  obtain ⟨sA, sB, sC⟩ := fm_sz (c := 2) (fun a ha => ⟨(nu1 a ha).1, by have := nu1 a ha; omega⟩) n0
  have up : ∀ {x : Int}, x.natAbs ≤ 2 ^ (2 * (nuL l).length + 1) → x.natAbs < 2 ^ 250 := fun h => Nat.lt_of_le_of_lt h (Nat.pow_lt_pow_right (by decide) (by omega))
  refine fm_make (n := 250) (up sA) (up sB) (up sC) (by decide) (by decide) (Nat.lt_of_lt_of_le (und_sz (up sA) (up sB) (up sC)) (Nat.pow_le_pow_right (by decide) (by decide))) (fm_ok (fun a ha => (nu1 a ha).1) n0) hp fun S2 e2 => ?_
  rw [e2]
  exact q

theorem pure_is_tuple_of : ∀ ds S Q Ed, sp_is_tuple_of ds S Q Ed → t_is_tuple_of Ed { nx := fun _ S' => Q .non S', rt := Q } (startD N_is_tuple_of ds) S := by
  rintro ds S Q Ed ⟨d, n, m, rfl, hs, q⟩
  rw [st_is_tuple_of]
  unfold t_is_tuple_of
  cases d with
  | tup xs => walk_at "dy"; exact q
  | non => walk_at "dy"; exact q
  | bl b => walk_at "dy"; exact q
  | int i => walk_at "dy"; exact q
  | str x => walk_at "dy"; exact q
  | lst xs => walk_at "dy"; exact q
  | _ => unfold sm at hs; cases hs

theorem pure_form_in : ∀ ds S Q Ed, sp_form_in ds S Q Ed → t_form_in Ed { nx := fun _ S' => Q .non S', rt := Q } (startD N_form_in ds) S := by
  rintro ds S Q Ed ⟨a, b, c, m, rfl, m1, hm, ha, hb, hc, q0⟩
  rw [st_form_in]
  unfold t_form_in dTry dMake
  walk_at "dy"
  intro p hp
  have q := q0 S fun _ _ h => h
  have er : ∀ y : Xd, y.cls = "NoForm" → Q .non (upS S p (.ins "Form" [] [])) → wDCl rsX (wd Ed) { nx := fun _ S' => Q .non S', rt := Q } [⟨["NoForm"], none, fun a od x => (fun D σ S => x.cls = "NoForm" ∧ (dRet (dC .non)) D σ S)⟩] y [some a, some b, some c] (upS S p (.ins "Form" [] [])) := fun y e q => by
    unfold wDCl
    rw [e]
    refine ⟨show (Str.ofString "NoForm") ∈ rsX by decide +kernel, ?_⟩
    rw [if_pos (show ([Str.ofString "NoForm"] : List Str).any (excIs (Str.ofString "NoForm")) = true by decide +kernel)]
    intro a od ha
    refine ⟨e, ?_⟩
    exact q
  have kp : ∀ a o, S a = some o → upS S p (.ins "Form" [] []) a = some o := fun a o h => by rw [upS_ne (fun e => by subst e; rw [hp] at h; cases h)]; exact h
  refine ⟨p, a, b, c, m, rfl, ha, hb, hc, m1, by omega, upS_same, fun A B C e1 e2 e3 => ?_, fun h => ?_⟩
  · subst e1 e2 e3
    have q : Q (if okF A B C = true then fmD A B C else .non) S := q
    refine ⟨Nat.lt_of_lt_of_le (und_sz (sm_int.mp ha) (sm_int.mp hb) (sm_int.mp hc)) (Nat.pow_le_pow_right (by decide) (by omega)), fun ho => ?_, fun ho => ?_⟩
    · rw [if_pos ho] at q
      refine ⟨rfl, _, _, upS_same, ?_⟩
      rw [upS_upS, del_upS hp]
      exact q
    · have q := q0 _ kp
      rw [show formIn (.int A) (.int B) (.int C) = .non from if_neg (by rw [ho]; decide)] at q
      exact er _ rfl q
  · have q := q0 _ kp
    rw [(formIn_wh h).1] at q
    exact er _ rfl q

theorem pure_form_below_holds : ∀ ds S Q Ed, sp_form_below_holds ds S Q Ed → t_form_below_holds Ed { nx := fun _ S' => Q .non S', rt := Q } (startD N_form_below_holds ds) S := by
  rintro ds S Q Ed ⟨a, b, c, p, m, k, B, rfl, m1, hm, ha, hb, hc, tp, q⟩
  have hp := tm_sm tp.t
  rw [st_form_below_holds]
  unfold t_form_below_holds
  refine seq_step fun r hr => ?_
  walk_at "dy"
  refine ⟨a, b, c, m, rfl, m1, by omega, ha, hb, hc, fun S1 k1 => ?_⟩
  try walk_at "dy"
  subst hr
  refine seq_step fun r hr => ?_
  by_cases hn : formIn a b c = .non
  · have q := q S1 k1
    rw [formIn_none hn] at q
    rw [hn]
    walk_at "dy"
    exact q
  obtain ⟨A, B', C, rfl, rfl, rfl, ok, ef⟩ := formIn_form hn
  rw [ef]
  clear hn ef
  walk_at "dy"
  refine ⟨p, 3, m, rfl, hp, ?_⟩
  have q : ∀ S', (∀ a o, S a = some o → S' a = some o) → Q (.bl (belowF A B' C p)) S' := fun S' h => by
    have q := q S' h
    rw [show formB belowF (.int A) (.int B') (.int C) p = (okF A B' C && belowF A B' C p) from rfl, ok, Bool.true_and] at q
    exact q
  have nt : tupOfB p 3 = false → belowF A B' C p = false := fun h => by
    unfold belowF
    split
    · exact absurd (show decide (((3 : Nat) : Int) = 3) = false from h) (by decide)
    · rfl
  cases e3 : tupOfB p 3 with
  | false =>
    try walk_at "dy"
    have q := q S1 k1
    rw [nt e3] at q
    exact q
  | true =>
    obtain ⟨w, t, n, rfl⟩ := tup_three e3
    try walk_at "dy"
    have hw := smT.mp hp w (by simp)
    have ht := smT.mp hp t (by simp)
    have hn := smT.mp hp n (by simp)
    subst hr
    refine seq_step fun r hr => ?_
    walk_at "dy"
    subst hr
    refine seq_step fun r hr => ?_
    walk_at "dy"
    refine ⟨w, m, rfl, hw, ?_⟩
    cases e1 : isStepD w with
    | false =>
      try walk_at "dy"
      have q := q S1 k1
      have e : belowF A B' C (.tup [w, t, n]) = false := by
        cases n <;> first | rfl | (show (isStepD w && _) = false; rw [e1, Bool.false_and])
      rw [e] at q
      exact q
    | true =>
      try walk_at "dy"
      refine ⟨t, m, rfl, ht, m1, by omega, ?_⟩
      cases e2 : isTurnD t with
      | false =>
        try walk_at "dy"
        have q := q S1 k1
        have e : belowF A B' C (.tup [w, t, n]) = false := by
          cases n <;> first | rfl | (show (isStepD w && (isTurnD t && _)) = false; rw [e2, Bool.false_and, Bool.and_false])
        rw [e] at q
        exact q
      | true =>
        try walk_at "dy"
        refine ⟨n, rfl, sm_data hn, ?_⟩
        cases e4 : isWh n with
        | false =>
          try walk_at "dy"
          have q := q S1 k1
          have e : belowF A B' C (.tup [w, t, n]) = false := by
            cases n <;> first | rfl | cases e4
          rw [e] at q
          exact q
        | true =>
          obtain ⟨n, rfl⟩ := isWh_int e4
          have q : Q (.bl (!decide (n = 0) && deq (turT A B' C t) (wfT w n))) S1 := by
            have q := q S1 k1
            rw [show belowF A B' C (.tup [w, t, .int n]) = (isStepD w && (isTurnD t && (!decide (n = 0) && deq (turT A B' C t) (wfT w n)))) from rfl, e1, e2, Bool.true_and, Bool.true_and] at q
            exact q
          try walk_at "dy"
          by_cases n0 : n = 0
          · rw [decide_eq_true n0] at q
            simp only [n0, decide_true, if_true]
            exact q
          · rw [decide_eq_false n0] at q
            simp only [n0, decide_false, Bool.false_eq_true, if_false]
            subst hr
            obtain ⟨m', rfl, dm⟩ := turn_of e2
            rw [turT_tb] at q
            unfold dMeth
            walk_at "dy"
            obtain ⟨l, rfl, l1, l60, hab⟩ := isWordD_str (step_word e1)
            rw [wfT_of] at q
            have lne : l ≠ [] := fun e => by rw [e] at l1; exact absurd l1 (by decide)
            have bA := sm_int.mp ha
            have bB := sm_int.mp hb
            have bC := sm_int.mp hc
            have bn := sm_int.mp hn
            have up : ∀ {x : Int}, x.natAbs < 2 ^ m → x.natAbs < 2 ^ 1500 := fun h => Nat.lt_of_lt_of_le h (Nat.pow_le_pow_right (by decide) (by omega))
            refine ⟨⟨_, _, rfl, by decide +kernel⟩, A, B', C, _, _, rfl, up bA, up bB, up bC, ok, sm_mono (by omega) ht, fun m2 e2 dm2 => ?_, fun h => absurd (h.symm.trans e2) (by decide)⟩
            obtain rfl := tbD_inj e2
            refine ⟨⟨_, _, rfl, by decide +kernel⟩, _, _, rfl, ?_⟩
            have nu1 := nuL_two l
            have nl := nuL_len l
            have n0' := nuL_ne lne
            obtain ⟨sA, sB, sC⟩ := fm_sz (c := 2) (fun a ha => ⟨(nu1 a ha).1, by have := nu1 a ha; omega⟩) n0'
            have up2 : ∀ {x : Int}, x.natAbs ≤ 2 ^ (2 * (nuL l).length + 1) → x.natAbs < 2 ^ 250 := fun h => Nat.lt_of_le_of_lt h (Nat.pow_lt_pow_right (by decide) (by omega))
            replace sA := up2 sA
            replace sB := up2 sB
            replace sC := up2 sC
            have ln : ∀ {x : Int}, x.natAbs < 2 ^ 250 → n.natAbs.log2 + x.natAbs.log2 < 1000000 := fun h => mulOk 20000 20000 (Nat.lt_of_lt_of_le bn (Nat.pow_le_pow_right (by decide) (by omega))) (Nat.lt_of_lt_of_le h (Nat.pow_le_pow_right (by decide) (by decide))) (by decide) (by decide) (by decide)
            have eqI : ∀ a b c a' b' c' : Int, eqOk (tri3 a b c) = true ∧ eqOk (tri3 a' b' c') = true := fun a b c a' b' c' => by
              have : ∀ a b c : Int, eqOk (tri3 a b c) = true := fun a b c => okD_eqOk (k := 1) (okD_tup (k := 0) fun d hd => by
                simp only [List.mem_cons, List.not_mem_nil, or_false] at hd
                rcases hd with rfl | rfl | rfl <;> exact okD_int) (by decide)
              exact ⟨this _ _ _, this _ _ _⟩
            have step : ∀ (a b c : Int) (k : Q (.bl (deq (tri3 a b c) (tri3 (n * fmA (nuL l)) (n * fmB (nuL l)) (n * fmC (nuL l))))) S1), (fun x S1 => dComp (dItr fun σ S Q => dVar 5 σ S fun x S1 => sp_form_by [x] S1 (fun o S1 => (∃ ns ys, o = D.inst "Form" ns ys ∧ ¬ (Str.ofString "parts") ∈ ns) ∧ sp_Form_parts [o] S1 Q fun y S3 => wd Ed y σ S3) fun y S3 => wd Ed y σ S3) (dName 8) dYes (dOp rdMulA (dVar 7) (dVar 8)) [8] [some (D.int A), some (D.int B'), some (D.int C), some (D.tup [D.str (ofL l), tbD m', D.int n]), some (fmD A B' C), some (D.str (ofL l)), some (tbD m'), some (D.int n), none] S1 fun x_1 S1 => rdTupA [x_1] S1 fun y S2 => rdEq x y S2 Q) (tri3 a b c) S1 := fun a b c k => by
              dsimp only
              refine comp_pure (fun d => match d with | .int x => .int (n * x) | _ => .non) [.int (fmA (nuL l)), .int (fmB (nuL l)), .int (fmC (nuL l))] S1 (fun R hR => ?_) (fun x hx S' Q' q' => ?_) (by show 3 ≤ _; decide) ?_
              · walk_at "dy"
                refine ⟨l, rfl, hab, lne, l60, ⟨_, _, rfl, by decide +kernel⟩, _, _, rfl, ?_⟩
                walk_at "dy"
                exact hR
              · simp only [List.mem_cons, List.not_mem_nil, or_false] at hx
                rcases hx with rfl | rfl | rfl
                · walk_at "dy"; exact ⟨ln sA, q'⟩
                · walk_at "dy"; exact ⟨ln sB, q'⟩
                · walk_at "dy"; exact ⟨ln sC, q'⟩
              · exact (show (eqOk (tri3 a b c) = true ∧ eqOk (tri3 (n * fmA (nuL l)) (n * fmB (nuL l)) (n * fmC (nuL l))) = true) ∧ Q (.bl (deq (tri3 a b c) (tri3 (n * fmA (nuL l)) (n * fmB (nuL l)) (n * fmC (nuL l))))) S1 from ⟨eqI _ _ _ _ _ _, k⟩)
            exact step _ _ _ q

theorem pure_form_above_holds : ∀ ds S Q Ed, sp_form_above_holds ds S Q Ed → t_form_above_holds Ed { nx := fun _ S' => Q .non S', rt := Q } (startD N_form_above_holds ds) S := by
  rintro ds S Q Ed ⟨a, b, c, p, m, k, B, rfl, m1, hm, ha, hb, hc, tp, hB, q⟩
  have hp := tm_sm tp.t
  rw [st_form_above_holds]
  unfold t_form_above_holds
  refine seq_step fun r hr => ?_
  walk_at "dy"
  refine ⟨a, b, c, m, rfl, m1, by omega, ha, hb, hc, fun S1 k1 => ?_⟩
  try walk_at "dy"
  subst hr
  refine seq_step fun r hr => ?_
  by_cases hn : formIn a b c = .non
  · have q := q S1 k1
    rw [formIn_none hn] at q
    rw [hn]
    walk_at "dy"
    exact q
  obtain ⟨A, B', C, rfl, rfl, rfl, ok, ef⟩ := formIn_form hn
  rw [ef]
  clear hn ef
  have q : ∀ S', (∀ a o, S a = some o → S' a = some o) → Q (.bl (aboveF A B' C p)) S' := fun S' h => by
    have q := q S' h
    rw [show formB aboveF (.int A) (.int B') (.int C) p = (okF A B' C && aboveF A B' C p) from rfl, ok, Bool.true_and] at q
    exact q
  have q := q S1 k1
  have nt : tupOfB p 2 = false → aboveF A B' C p = false := fun h => by
    unfold aboveF
    split
    · exact absurd (show decide (((2 : Nat) : Int) = 2) = false from h) (by decide)
    · rfl
  walk_at "dy"
  refine ⟨p, 2, m, rfl, hp, ?_⟩
  cases e3 : tupOfB p 2 with
  | false =>
    try walk_at "dy"
    rw [nt e3] at q
    exact q
  | true =>
    obtain ⟨x, y, rfl⟩ := tup_two e3
    try walk_at "dy"
    refine ⟨[x, y], m, rfl, hp, by show 2 ≤ 100000; decide, ?_⟩
    try walk_at "dy"
    cases ew : [x, y].all isWh with
    | false =>
      have e : aboveF A B' C (.tup [x, y]) = false := by
        unfold aboveF
        split
        · rename_i h
          simp only [D.tup.injEq, List.cons.injEq] at h
          obtain ⟨rfl, rfl, _⟩ := h
          exact absurd (show true = false from ew) (by decide)
        · rfl
      rw [e] at q
      rw [if_pos rfl]
      exact q
    | true =>
      rw [if_neg (by decide)]
      rw [List.all_cons, List.all_cons, List.all_nil, Bool.and_true] at ew
      obtain ⟨w1, w2⟩ := Bool.and_eq_true_iff.mp ew
      obtain ⟨x, rfl⟩ := isWh_int w1
      obtain ⟨y, rfl⟩ := isWh_int w2
      clear w1 w2 ew e3
      rw [show aboveF A B' C (.tup [.int x, .int y]) = (!(decide (x = 0) && decide (y = 0)) && decide (9 * (valF A B' C x y * valF A B' C x y) ≤ undF A B' C)) from rfl] at q
      refine (show (eqOk (.tup [.int x, .int y]) = true ∧ eqOk (.tup [.int 0, .int 0]) = true) ∧ _ from ⟨⟨okD_eqOk (k := 1) (okD_tup (k := 0) fun d hd => ?_) (by decide), by decide⟩, ?_⟩)
      · simp only [List.mem_cons, List.not_mem_nil, or_false] at hd
        rcases hd with rfl | rfl <;> exact okD_int
      have ez : deq (.tup [.int x, .int y]) (.tup [.int 0, .int 0]) = (decide (x = 0) && decide (y = 0)) := by
        show ((x == 0) && ((y == 0) && true)) = _
        rw [Bool.and_true]; rfl
      rw [ez]
      cases ezz : (decide (x = 0) && decide (y = 0)) with
      | true =>
        rw [ezz] at q
        try walk_at "dy"
        exact q
      | false =>
        rw [ezz] at q
        try walk_at "dy"
        subst hr
        unfold dMeth
        walk_at "dy"
        have bA := sm_int.mp ha
        have bB := sm_int.mp hb
        have bC := sm_int.mp hc
        have bx := sm_int.mp (smT.mp hp (.int x) (by simp))
        have by' := sm_int.mp (smT.mp hp (.int y) (by simp))
        refine ⟨⟨_, _, rfl, by decide +kernel⟩, A, B', C, x, y, _, m, rfl, bA, bB, bC, bx, by', m1, by omega, ?_⟩
        have bv := val_sz bA bB bC bx by'
        generalize valF A B' C x y = v at *
        have lv : v.natAbs.log2 < 3000 := log2_lt (Nat.lt_of_lt_of_le bv (Nat.pow_le_pow_right (by decide) (by omega))) (by decide)
        try walk_at "dy"
        refine ⟨⟨by decide, by omega⟩, ?_⟩
        have e2 : v ^ (2 : Int).toNat = v * v := by show v ^ 2 = v * v; grind
        rw [e2]
        refine ⟨mulOk 20000 20000 (by decide) (Nat.lt_of_lt_of_le (wide_lt bv bv) (Nat.pow_le_pow_right (by decide) (by omega))) (by decide) (by decide) (by decide), ?_⟩
        refine ⟨⟨_, _, rfl, by decide +kernel⟩, _, _, rfl, ?_⟩
        try walk_at "dy"
        exact q

theorem pure_holds : ∀ ds S Q Ed, sp_holds ds S Q Ed → t_holds Ed { nx := fun _ S' => Q .non S', rt := Q } (startD N_holds ds) S := by
  rintro ds S Q Ed ⟨c, p, m, k, B, rfl, tc, tp, m1, hm, hB, cl, q0⟩
  have q := q0 S fun _ _ h => h
  have hc := tm_sm tc.t
  have hp := tm_sm tp.t
  rw [st_holds]
  unfold t_holds
  cases c with
  | tup xs =>
    cases xs with
    | nil => walk_at "dy"; exact q
    | cons x r =>
      have hx := smT.mp hc x (.head _)
      refine seq_step fun r1 hr => ?_
      walk_at "dy"
      rw [if_neg (by omega)]
      cases x with
      | str z =>
        simp only [isi_str_str, if_true]
        try walk_at "dy"
        subst hr
        refine seq_step fun r1 hr => ?_
        walk_at "dy"
        subst hr
        refine seq_step fun r1 hr => ?_
        walk_at "dy"
        have e1 : ((r.length + 1 : Nat) : Int) - 1 = (r.length : Int) := by omega
        rw [e1]
        have three : r1 { nx := fun _ S' => Q .non S', rt := Q } [some (.tup (.str z :: r)), some p, some (.str z), some (.int (r.length : Int)), none] S := by
          subst hr
          refine seq_step fun r1 hr => ?_
          have th : r1 { nx := fun _ S' => Q .non S', rt := Q } [some (.tup (.str z :: r)), some p, some (.str z), some (.int (r.length : Int)), none] S := by
            subst hr
            refine seq_step fun r1 hr => ?_
            have rest : (r.length = 3 → z ≠ "form below" ∧ z ≠ "form above") → r1 { nx := fun _ S' => Q .non S', rt := Q } [some (.tup (.str z :: r)), some p, some (.str z), some (.int (r.length : Int)), none] S := fun hne => by
              have eq0 : evB (.tup (.str z :: r)) p = false := by
                unfold evB
                split
                · rename_i z' a' b' c' h
                  simp only [D.tup.injEq, List.cons.injEq, D.str.injEq] at h
                  obtain ⟨rfl, rfl⟩ := h
                  rw [if_neg (hne rfl).1, if_neg (hne rfl).2]
                · rfl
              rw [eq0] at q
              subst hr
              walk_at "dy"
              exact q
            walk_at "dy"
            by_cases c1 : (r.length : Int) = 3
            · rw [if_pos c1]
              obtain ⟨a, b, d, rfl⟩ : ∃ a b d, r = [a, b, d] := by
                match r, c1 with
                | [a, b, d], _ => exact ⟨a, b, d, rfl⟩
                | [], h => simp at h
                | [_], h => simp at h
                | [_, _], h => simp at h
                | _ :: _ :: _ :: _ :: _, h => simp at h; omega
              have ha := smT.mp hc a (by simp)
              have hb := smT.mp hc b (by simp)
              have hd := smT.mp hc d (by simp)
              have n1 := cl.2.2 rfl
              by_cases ze : z = "form below"
              · subst ze
                rw [if_pos (by simp)]
                have e : k_HOLD_OF_THREE "form below" = some (.fn "form_below_holds") := by
                  unfold k_HOLD_OF_THREE
                  rw [if_neg (show (Str.ofString "form below") ≠ "triple" by decide +kernel), if_pos rfl]
                unfold dKix
                rw [dVar_of rfl]
                dsimp only
                rw [e]
                dsimp only
                refine ⟨"form_below_holds", sp_form_below_holds, rfl, by simp, ?_⟩
                walk_at "dy"
                refine ⟨a, b, d, p, m, k, B, rfl, m1, hm, ha, hb, hd, tp, fun S' h => ?_⟩
                have q := q0 S' h
                rw [ev_below] at q
                exact q
              by_cases zf : z = "form above"
              · subst zf
                rw [if_pos (by simp)]
                have e : k_HOLD_OF_THREE "form above" = some (.fn "form_above_holds") := by
                  unfold k_HOLD_OF_THREE
                  rw [if_neg (show (Str.ofString "form above") ≠ "triple" by decide +kernel), if_neg (show (Str.ofString "form above") ≠ "form below" by decide +kernel), if_pos rfl]
                unfold dKix
                rw [dVar_of rfl]
                dsimp only
                rw [e]
                dsimp only
                refine ⟨"form_above_holds", sp_form_above_holds, rfl, by simp, ?_⟩
                walk_at "dy"
                refine ⟨a, b, d, p, m, k, B, rfl, m1, hm, ha, hb, hd, tp, hB, fun S' h => ?_⟩
                have q := q0 S' h
                rw [ev_above] at q
                exact q
              rw [if_neg (by simp only [List.mem_cons, List.not_mem_nil, or_false, not_or]; exact ⟨n1, ze, zf⟩)]
              exact rest fun _ => ⟨ze, zf⟩
            · rw [if_neg c1]
              exact rest fun h => absurd h (by omega)
          walk_at "dy"
          by_cases c2 : (r.length : Int) = 2
          · rw [if_pos c2]
            rw [if_neg (by simp only [List.mem_cons, List.not_mem_nil, or_false]; exact cl.2.1 (by omega))]
            exact th
          · rw [if_neg c2]
            exact th
        by_cases c0 : (r.length : Int) = 1
        · rw [if_pos c0]
          obtain ⟨n1, n2, n3, n4⟩ := cl.1 (by omega)
          rw [if_neg (by simp only [List.mem_cons, List.not_mem_nil, or_false, not_or]; exact ⟨n1, n2, n3, n4⟩)]
          exact three
        · rw [if_neg c0]
          exact three
      | non => simp only [isi_non_str]; try walk_at "dy"
               exact q
      | bl b => simp only [isi_bl_str]; try walk_at "dy"
                exact q
      | int b => simp only [isi_int_str]; try walk_at "dy"
                 exact q
      | tup b => simp only [isi_tup_str]; try walk_at "dy"
                 exact q
      | lst b => simp only [isi_lst_str]; try walk_at "dy"
                 exact q
      | _ => unfold sm at hx; cases hx
  | _ => first | (walk_at "dy"; exact q) | exact absurd (show false = true from hc) Bool.false_ne_true

theorem pure_law_urn : ∀ ds S Q Ed, sp_law_urn ds S Q Ed → t_law_urn Ed { nx := fun _ S' => Q .non S', rt := Q } (startD N_law_urn ds) S := by
  rintro ds S Q Ed ⟨ns, at_, rfl, h0, h1, q⟩
  rw [st_law_urn]
  unfold t_law_urn
  walk_at "dy"
  have fin : ∀ (g c : Int), 0 ≤ g → ∀ p, S p = none → Q (.obj p) (upS S p (.lst [.int g, .int (c.fmod 1000000000000000003 + 97 * at_ * at_ + 31 * at_ + 1), .int 0])) := fun g c hg p hp => by
    have f := fmod_in (a := c) (b := 1000000000000000003) (by decide)
    have e1 : 0 ≤ 97 * at_ * at_ := Int.mul_nonneg (by omega) h0
    have e2 : 97 * at_ * at_ ≤ 9700 * 100 := Int.mul_le_mul (by omega) (by omega) h0 (by omega)
    exact q p _ hp ⟨g, _, 0, upS_same, hg, by omega, by omega, by decide, by decide⟩ fun a ha => upS_ne ha
  have m1 : (Int.natAbs 97).log2 + at_.natAbs.log2 < 1000000 := mulOk 7 7 (by decide) (by omega) (by decide) (by decide) (by decide)
  have m2 : (97 * at_).natAbs.log2 + at_.natAbs.log2 < 1000000 := mulOk 14 7 (by omega) (by omega) (by decide) (by decide) (by decide)
  have m3 : (Int.natAbs 31).log2 + at_.natAbs.log2 < 1000000 := mulOk 7 7 (by decide) (by omega) (by decide) (by decide) (by decide)
  by_cases c : at_ < ((ns.map D.int).length : Int)
  · rw [if_pos c, atI_lt h0 c, List.getElem?_map]
    rw [List.length_map] at c
    have e : ns[at_.toNat]? = some ns[at_.toNat] := List.getElem?_eq_getElem (by omega)
    rw [e]
    show ixQ S _ (some (D.int ns[at_.toNat]))
    walk_at "dy"
    refine ⟨by decide, ?_⟩
    generalize e2 : (if ns[at_.toNat] < 0 then -ns[at_.toNat] else ns[at_.toNat]) = g
    have hg : 0 ≤ g := by rw [← e2]; split <;> omega
    split
    · exact ⟨by decide, m1, m2, m3, fin _ _ (by decide)⟩
    · exact ⟨by decide, m1, m2, m3, fin _ _ hg⟩
  · rw [if_neg c]
    refine ⟨by decide, ?_⟩
    split
    · exact ⟨by decide, m1, m2, m3, fin _ _ (by decide)⟩
    · exact ⟨by decide, m1, m2, m3, fin _ _ (by decide)⟩

theorem pure_law_draw : ∀ ds S Q Ed, sp_law_draw ds S Q Ed → t_law_draw Ed { nx := fun _ S' => Q .non S', rt := Q } (startD N_law_draw ds) S := by
  rintro ds S Q Ed ⟨u, w, B, rfl, ⟨g, c, n, hu, g0, c0, c1, n0, n1⟩, hB, w0, w1, q⟩
  have lw : w.natAbs.log2 < 9000 := Nat.lt_of_lt_of_le (log2_lt (n := 1000) (abs_lt_of (by omega) w1) (by decide)) (by decide)
  rw [st_law_draw]
  unfold t_law_draw
  walk_at "dy"
  rw [x_ixo hu]
  walk_at "dy"
  by_cases cg : 0 < g
  · rw [if_pos cg, x_ixo hu]
    walk_at "dy"
    refine ⟨by omega, ?_⟩
    rw [x_ixo hu]
    walk_at "dy"
    refine ⟨⟨by omega, lw⟩, ?_⟩
    rw [x_set hu (ixN_0 (by simp))]
    walk_at "dy"
    have f := fmod_in (a := g) w0
    refine q _ _ f.1 f.2 ⟨g.fdiv w, c, n, upS_same, ?_, c0, c1, n0, by omega⟩ fun a ha => upS_ne ha
    rw [Int.fdiv_eq_ediv_of_nonneg g (by omega)]
    exact Int.ediv_nonneg g0 (by omega)
  · rw [if_neg cg]
    rw [x_ixo hu]
    walk_at "dy"
    rw [x_set hu (ixN_2 (by simp))]
    have hu2 : upS S u (.lst [.int g, .int c, .int (n + 1)]) u = some (.lst [.int g, .int c, .int (n + 1)]) := upS_same
    walk_at "dy"
    rw [x_ixo hu2]
    walk_at "dy"
    rw [x_ixo hu2]
    walk_at "dy"
    have hn : n < 2 ^ 100 + 1 := by omega
    have b1 : (n + 1).natAbs < 2 ^ 101 := abs_lt_of (by omega) (by omega)
    have b2 : (2 * (n + 1) + 1).natAbs < 2 ^ 103 := abs_lt_of (by omega) (by omega)
    have b3 : c.natAbs < 2 ^ 70 := abs_lt_of c0 c1
    have b4 : (c * (2 * (n + 1) + 1)).natAbs < 2 ^ (70 + 103) := wide_lt b3 b2
    have b5 : (6007 * (n + 1)).natAbs < 2 ^ (13 + 101) := wide_lt (by decide) b1
    have b6 : (6007 * (n + 1) * (n + 1)).natAbs < 2 ^ (13 + 101 + 101) := wide_lt b5 b1
    have b7 : (c * (2 * (n + 1) + 1) + 6007 * (n + 1) * (n + 1) + 53).natAbs < 2 ^ 220 := by
      have e1 : (2 : Nat) ^ (70 + 103) ≤ 2 ^ 216 := Nat.pow_le_pow_right (by decide) (by decide)
      have e2 : (2 : Nat) ^ (13 + 101 + 101) ≤ 2 ^ 216 := Nat.pow_le_pow_right (by decide) (by decide)
      omega
    refine ⟨mulOk 2 101 (by decide) b1 (by decide) (by decide) (by decide), mulOk 70 103 b3 b2 (by decide) (by decide) (by decide), mulOk 13 101 (by decide) b1 (by decide) (by decide) (by decide), mulOk (13 + 101) 101 b5 b1 (by decide) (by decide) (by decide), powOk 220 3 b7 (by decide) (by decide) (by decide), by decide, ?_⟩
    have f7 := fmod_in (a := n + 1) (b := 7) (by decide)
    obtain ⟨p, ep, p0, p1⟩ := primes_at f7.1 f7.2
    have f8 := fmod_in (a := n + 1 + 3) (b := 7) (by decide)
    obtain ⟨p', ep', p0', p1'⟩ := primes_at f8.1 f8.2
    unfold primes at ep ep'
    rw [ep]
    walk_at "dy"
    have fm := fmod_in (a := (c * (2 * (n + 1) + 1) + 6007 * (n + 1) * (n + 1) + 53) ^ Int.toNat 3) (b := p) (by omega)
    rw [ep']
    walk_at "dy"
    generalize (c * (2 * (n + 1) + 1) + 6007 * (n + 1) * (n + 1) + 53) ^ Int.toNat 3 = big at fm ⊢
    have fd : 0 ≤ (big.fmod p).fdiv 8191 ∧ (big.fmod p).fdiv 8191 < 2 ^ 31 := by
      rw [Int.fdiv_eq_ediv_of_nonneg _ (by decide)]
      omega
    refine ⟨by omega, ⟨by decide, by decide⟩, mulOk 31 102 (abs_lt_of fm.1 (by omega)) (abs_lt_of (by omega) (by omega)) (by decide) (by decide) (by decide), by decide, by omega, ⟨by decide, by decide⟩, by omega, ?_⟩
    exact q _ _ (fmod_in w0).1 (fmod_in w0).2 ⟨g, c, n + 1, upS_same, g0, c0, c1, by omega, by omega⟩ fun a ha => upS_ne ha

theorem pure_law_whole : ∀ ds S Q Ed, sp_law_whole ds S Q Ed → t_law_whole Ed { nx := fun _ S' => Q .non S', rt := Q } (startD N_law_whole ds) S := by
  rintro ds S Q Ed ⟨d, rfl, hd, q⟩
  rw [st_law_whole]
  unfold t_law_whole
  cases d <;> first | (walk_at "dy"; exact q) | exact absurd (show false = true from hd) Bool.false_ne_true

theorem pure_law_shared : ∀ ds S Q Ed, sp_law_shared ds S Q Ed → t_law_shared Ed { nx := fun _ S' => Q .non S', rt := Q } (startD N_law_shared ds) S := by
  rintro ds S Q Ed ⟨a, b, rfl, q⟩
  rw [st_law_shared]
  unfold t_law_shared
  walk_at "dy"
  have ab : ∀ x : Int, (if x < 0 then -x else x) = (x.natAbs : Int) := fun x => by split <;> omega
  rw [ab, ab]
  refine while_inv (fun m σ S' => ∃ x y : Nat, σ = [some (.int x), some (.int y)] ∧ S' = S ∧ Nat.gcd x y = Int.gcd a b ∧ m = y) b.natAbs ⟨_, _, rfl, rfl, rfl, rfl⟩ ?_
  rintro m σ S' N ⟨x, y, rfl, rfl, e, rfl⟩ k
  walk_at "dy"
  by_cases c : 0 < (m : Int)
  · rw [if_pos c]
    refine ⟨by omega, ?_⟩
    have e2 : (x : Int).fmod (m : Int) = ((x % m : Nat) : Int) := by rw [Int.fmod_eq_emod_of_nonneg _ (by omega)]; rfl
    rw [e2]
    refine k (x % m) _ _ (Nat.mod_lt _ (by omega)) ⟨m, x % m, rfl, rfl, ?_, rfl⟩
    rw [← e, Nat.gcd_comm x m, Nat.gcd_rec m x, Nat.gcd_comm]
  · rw [if_neg c]
    have e3 : m = 0 := by omega
    subst e3
    rw [Nat.gcd_zero_right] at e
    rw [e]
    exact q

theorem side_ok {x v : Int} (h : x.natAbs < 2 ^ 3400) (v0 : 0 ≤ v) (v1 : v ≤ 2 * x + 2) : v.natAbs < 2 ^ 3402 := by
  have e : (2 : Nat) ^ 3402 = 4 * 2 ^ 3400 := by rw [show 3402 = 2 + 3400 from rfl, Nat.pow_add]
  have p : 0 < (2 : Nat) ^ 3400 := Nat.pow_pos (by decide)
  have p2 : 2 ≤ (2 : Nat) ^ 3400 := by
    have : (2 : Nat) ^ 1 ≤ 2 ^ 3400 := Nat.pow_le_pow_right (by decide) (by decide)
    omega
  omega
theorem side_mul {x v : Int} (h : x.natAbs < 2 ^ 3400) (v0 : 0 ≤ v) (v1 : v ≤ 2 * x + 2) : v.natAbs.log2 + v.natAbs.log2 < 1000000 := mulOk 3402 3402 (side_ok h v0 v1) (side_ok h v0 v1) (by decide) (by decide) (by decide)
theorem le_sq {v : Int} (h : 1 ≤ v) : v ≤ v * v := by
  have : v * 1 ≤ v * v := Int.mul_le_mul_of_nonneg_left h (by omega)
  omega
theorem pure_law_side : ∀ ds S Q Ed, sp_law_side ds S Q Ed → t_law_side Ed { nx := fun _ S' => Q .non S', rt := Q } (startD N_law_side ds) S := by
  rintro ds S Q Ed ⟨x, rfl, x0, hx, q⟩
  rw [st_law_side]
  unfold t_law_side
  refine seq_step fun r hr => ?_
  walk_at "dy"
  subst hr
  refine seq_step fun r hr => ?_
  refine while_inv (fun m σ S' => ∃ v : Int, σ = [some (.int x), some (.int 0), some (.int v), none] ∧ S' = S ∧ 1 ≤ v ∧ v ≤ 2 * x + 2 ∧ m = (2 * x + 2 - v).toNat) (2 * x + 1).toNat ⟨1, rfl, rfl, by decide, by omega, by omega⟩ ?_
  rintro m σ S' N ⟨v, rfl, rfl, v1, v2, rfl⟩ k
  walk_at "dy"
  refine ⟨side_mul hx (by omega) v2, ?_⟩
  have ls := le_sq v1
  by_cases c : v * v ≤ x
  · rw [if_pos c]
    refine ⟨mulOk 3402 2 (side_ok hx (by omega) v2) (by decide) (by decide) (by decide) (by decide), ?_⟩
    exact k _ _ _ (by omega) ⟨v * 2, rfl, rfl, by omega, by omega, rfl⟩
  · rw [if_neg c]
    subst hr
    refine seq_step fun r hr => ?_
    refine while_inv (fun m σ T => ∃ (a b : Int) (o : Option D), σ = [some (.int x), some (.int a), some (.int b), o] ∧ T = S' ∧ 0 ≤ a ∧ a < b ∧ b ≤ 2 * x + 2 ∧ a * a ≤ x ∧ x < b * b ∧ m = (b - a).toNat) v.toNat ⟨0, v, none, rfl, rfl, by decide, by omega, v2, by omega, by omega, by omega⟩ ?_
    rintro m σ S' N ⟨a, b, o, rfl, rfl, a0, ab, b2, ha, hb, rfl⟩ k
    walk_at "dy"
    by_cases c2 : 1 < b - a
    · rw [if_pos c2]
      refine ⟨⟨by decide, by decide⟩, ?_⟩
      have ef : (a + b).fdiv 2 = (a + b) / 2 := Int.fdiv_eq_ediv_of_nonneg _ (by decide)
      rw [ef]
      have m0 : 0 ≤ (a + b) / 2 := by omega
      have m1 : (a + b) / 2 ≤ 2 * x + 2 := by omega
      have am : a < (a + b) / 2 := by omega
      have mb : (a + b) / 2 < b := by omega
      generalize (a + b) / 2 = w at *
      refine ⟨side_mul hx m0 m1, ?_⟩
      by_cases c3 : w * w ≤ x
      · rw [if_pos c3]
        exact k _ _ _ (by omega) ⟨w, b, _, rfl, rfl, m0, mb, b2, c3, hb, rfl⟩
      · rw [if_neg c3]
        exact k _ _ _ (by omega) ⟨a, w, _, rfl, rfl, a0, am, m1, ha, by omega, rfl⟩
    · rw [if_neg c2]
      subst hr
      walk_at "dy"
      have e : b = a + 1 := by omega
      subst e
      exact q a a0 ha hb

theorem isSqB_root2 {x y : Int} (y0 : 0 ≤ y) (h1 : y * y ≤ x) (h2 : x < (y + 1) * (y + 1)) : isSqB x = decide (y * y = x) := by
  by_cases c : y * y = x
  · rw [isSqB_true y0 c, decide_eq_true c]
  · rw [decide_eq_false c]
    exact isSqB_false (sq_between y0 (by omega) h2)
theorem pure_law_is_square : ∀ ds S Q Ed, sp_law_is_square ds S Q Ed → t_law_is_square Ed { nx := fun _ S' => Q .non S', rt := Q } (startD N_law_is_square ds) S := by
  rintro ds S Q Ed ⟨x, rfl, hx, q⟩
  rw [st_law_is_square]
  unfold t_law_is_square
  walk_at "dy"
  by_cases x0 : 0 ≤ x
  · simp only [x0, decide_true, if_true]
    try walk_at "dy"
    refine ⟨x, rfl, x0, hx, fun y y0 h1 h2 => ?_⟩
    refine ⟨x, rfl, x0, hx, fun z z0 g1 g2 => ?_⟩
    obtain rfl := root_one y0 z0 h1 h2 g1 g2
    try walk_at "dy"
    have yx : y ≤ 2 * x + 2 := by
      rcases Int.lt_or_le y 1 with c | c
      · omega
      · have := le_sq c
        omega
    refine ⟨side_mul hx y0 yx, ?_⟩
    rw [← isSqB_root2 y0 h1 h2]
    exact q
  · simp only [x0, decide_false]
    try walk_at "dy"
    rw [isSqB_false (fun y y0 e => by have := Int.mul_nonneg y0 y0; omega)] at q
    exact q

theorem pure_law_even_word : ∀ ds S Q Ed, sp_law_even_word ds S Q Ed → t_law_even_word Ed { nx := fun _ S' => Q .non S', rt := Q } (startD N_law_even_word ds) S := by
  rintro ds S Q Ed ⟨b, a, rfl, hl, q⟩
  rw [st_law_even_word]
  unfold t_law_even_word
  walk_at "dy"
  refine ⟨by omega, ?_⟩
  have en : ((b : Int) + (a : Int)).toNat = b + a := by omega
  rw [en]
  refine loop_rng (fun i σ S' => ∃ kk, σ = [some (.int b), some (.int a), some (.str (ofL (evP b (b + a) i))), some (.int ((i * b % (b + a) : Nat) : Int)), kk] ∧ S' = S) ⟨none, by rw [Nat.zero_mul, Nat.zero_mod]; rfl, rfl⟩ ?_ ?_
  · rintro i σ S' N hi ⟨kk, rfl, rfl⟩ k
    walk_at "dy"
    rw [ab_cpsL]
    refine ⟨by decide +kernel, ?_⟩
    have f := floor_step (k := i) (b := b) (n := b + a) (by omega) (by omega)
    have hs := evP_succ b (b + a) i
    by_cases c : i * b % (b + a) + b < b + a
    · rw [if_pos c, if_pos c] at f
      rw [f.1, if_pos rfl] at hs
      rw [if_neg (by omega), atI_0]
      walk_at "dy"
      refine ⟨by rw [ofL_len, evP_len]; show i + 1 ≤ _; omega, ?_⟩
      rw [if_neg (by omega)]
      refine k _ _ ⟨some (.int (0 + i)), ?_, rfl⟩
      rw [hs, f.2, ← ofL_app]
      rfl
    · rw [if_neg c, if_neg c] at f
      rw [f.1, if_neg (Nat.succ_ne_self _)] at hs
      rw [if_pos (by omega), atI_1]
      walk_at "dy"
      refine ⟨by rw [ofL_len, evP_len]; show i + 1 ≤ _; omega, ?_⟩
      rw [if_pos (by omega)]
      refine k _ _ ⟨some (.int (0 + i)), ?_, rfl⟩
      rw [hs, f.2, ← ofL_app]
      rw [show ((i * b % (b + a) : Nat) : Int) + (b : Int) - (b : Int) - (a : Int) = ((i * b % (b + a) + b - (b + a) : Nat) : Int) by omega]
      rfl
  · rintro σ S' ⟨kk, rfl, rfl⟩
    walk_at "dy"
    exact q

theorem pure_law_counts : ∀ ds S Q Ed, sp_law_counts ds S Q Ed → t_law_counts Ed { nx := fun _ S' => Q .non S', rt := Q } (startD N_law_counts ds) S := by
  rintro ds S Q Ed ⟨u, B, most, rfl, hU, hB, m0, m1, q⟩
  rw [st_law_counts]
  unfold t_law_counts
  walk_at "dy"
  refine ⟨u, 8, B, rfl, hU, by omega, by decide, by decide, fun k S1 k0 k1 hU1 ho1 => ?_⟩
  walk_at "dy"
  obtain ⟨n, en, hn⟩ := at_nat (ns := [2, 3, 5, 8, 13, most, most, most]) k0 k1
  have n0 : 1 ≤ n := by
    simp only [List.mem_cons, List.not_mem_nil, or_false] at hn
    omega
  have en' : atI [D.int 2, D.int 3, D.int 5, D.int 8, D.int 13, D.int most, D.int most, D.int most] k = some (.int (n : Int)) := en
  rw [en']
  walk_at "dy"
  have hw : (if (most : Int) < n then (most : Int) else n) < 2 ^ 1000 := Int.lt_of_le_of_lt (b := 1000) (by split <;> omega) (by decide)
  refine ⟨u, _, _, rfl, hU1, by omega, (by split <;> omega), hw, fun t S2 t0 t1 hU2 ho2 => ?_⟩
  have t2 : t < most := by split at t1 <;> omega
  walk_at "dy"
  have hw2 : 1 + t + 1 < 2 ^ 1000 := Int.lt_of_le_of_lt (b := 1001) (by omega) (by decide)
  refine ⟨u, _, _, rfl, hU2, by omega, by omega, hw2, fun b S3 b0 b1 hU3 ho3 => ?_⟩
  walk_at "dy"
  refine ⟨_, _, rfl, ?_⟩
  walk_at "dy"
  obtain ⟨t, rfl⟩ := Int.eq_ofNat_of_zero_le t0
  obtain ⟨b, rfl⟩ := Int.eq_ofNat_of_zero_le b0
  rw [show (1 + (t : Int)) = ((1 + t : Nat) : Int) by omega, Int.gcd_natCast_natCast]
  have tb : b ≤ 1 + t := by omega
  have gl : Nat.gcd b (1 + t) ∣ (1 + t) := Nat.gcd_dvd_right _ _
  have gb : Nat.gcd b (1 + t) ∣ b := Nat.gcd_dvd_left _ _
  have gp : 0 < Nat.gcd b (1 + t) := Nat.gcd_pos_of_pos_right _ (by omega)
  have gle : Nat.gcd b (1 + t) ≤ 1 + t := Nat.le_of_dvd (by omega) gl
  have co := Nat.gcd_div gb gl
  rw [Nat.div_self gp] at co
  generalize hg : Nat.gcd b (1 + t) = g at *
  have lg : (g : Int).natAbs.log2 < 9000 := Nat.lt_of_lt_of_le (log2_lt (n := 10) (by show g < 1024; omega) (by decide)) (by decide)
  refine ⟨⟨by omega, lg⟩, ⟨by omega, lg⟩, ?_⟩
  have e1 : (b : Int).fdiv (g : Int) = ((b / g : Nat) : Int) := by rw [Int.fdiv_eq_ediv_of_nonneg _ (by omega)]; rfl
  have e2 : (((1 + t : Nat) : Int) - (b : Int)).fdiv (g : Int) = (((1 + t - b) / g : Nat) : Int) := by
    rw [Int.fdiv_eq_ediv_of_nonneg _ (by omega), ← Int.ofNat_sub tb]; rfl
  have es : b / g + (1 + t - b) / g = (1 + t) / g := by
    obtain ⟨x, hx⟩ := gb
    obtain ⟨y, hy⟩ := gl
    have hxy : x ≤ y := Nat.le_of_mul_le_mul_left (by omega : g * x ≤ g * y) gp
    rw [hy, hx, ← Nat.mul_sub, Nat.mul_div_cancel_left _ gp, Nat.mul_div_cancel_left _ gp, Nat.mul_div_cancel_left _ gp]
    omega
  rw [e1, e2]
  refine q _ _ S3 ?_ ?_ ?_ (hU3.mono (by omega)) ((ho1.trans ho2).trans ho3)
  · rw [es]; exact Nat.div_pos gle gp
  · rw [es]; exact Nat.le_trans (Nat.div_le_self _ _) (by omega)
  · rw [es]; exact co

theorem pure_law_numbers : ∀ ds S Q Ed, sp_law_numbers ds S Q Ed → t_law_numbers Ed { nx := fun _ S' => Q .non S', rt := Q } (startD N_law_numbers ds) S := by
  rintro ds S Q Ed ⟨l, rfl, hab, hl, q⟩
  rw [st_law_numbers]
  unfold t_law_numbers
  refine seq_step fun r hr => ?_
  try walk_at "dy"
  intro p hp
  subst hr
  refine seq_step fun r hr => ?_
  try walk_at "dy"
  refine loop_str (fun pre σ S' => ∃ z, σ = [some (.str (ofL l)), some (.obj p), z] ∧ S' p = some (.lst ((nuL pre).map D.int)) ∧ ∀ a, a ≠ p → S' a = S a) ⟨_, rfl, upS_same, fun a h => upS_ne h⟩ ?_ ?_
  · rintro pre c rr σ S' N e ⟨z, rfl, hS, ho⟩ k
    rw [ofL_cps] at e
    have lp : pre.length ≤ 60 := by
      have := congrArg List.length e
      rw [List.length_append] at this
      omega
    have hc := isAB_iff.mp hab c (by rw [e]; simp)
    refine ⟨p, _, _, rfl, hS, by rw [List.length_map, nuL_len]; omega, rfl, ?_, ?_⟩
    · rcases hc with rfl | rfl
      · exact .inl str_a.symm
      · exact .inr str_b.symm
    · refine k _ _ ⟨_, rfl, ?_, fun a h => by rw [upS_ne h]; exact ho a h⟩
      rw [upS_same, nuL_snoc, List.map_append]
      rcases hc with rfl | rfl
      · rw [if_pos str_a.symm]; rfl
      · rw [if_neg (by rw [str_a]; decide)]; rfl
  · rintro σ S' ⟨z, rfl, hS, ho⟩
    rw [ofL_cps] at hS
    subst hr
    have e : rdTupA [.obj p] S' Q = Q (nuD l) S' := by
      show (match itemsD S' (.obj p) with | some ds => Q (.tup ds) S' | none => False) = _
      have e2 : itemsD S' (.obj p) = some ((nuL l).map D.int) := by
        show (match S' p with | some (.lst ds) => some ds | _ => none) = _
        rw [hS]
      rw [e2]
      rfl
    show rdTupA [.obj p] S' Q
    rw [e]
    exact q S' fun a o h => by
      rw [ho a (fun z => by rw [z, hp] at h; cases h)]; exact h

theorem pure_law_ring_table : ∀ ds S Q Ed, sp_law_ring_table ds S Q Ed → t_law_ring_table Ed { nx := fun _ S' => Q .non S', rt := Q } (startD N_law_ring_table ds) S := by
  rintro ds S Q Ed ⟨L, c, rfl, hL, hc, hl, q⟩
  rw [st_law_ring_table]
  unfold t_law_ring_table ringD
  walk_at "dy"
  refine loop_all (fun p σ S' => ∃ (M : List Int) (z : Option D), p = M.map D.int ∧ σ = [some (.tup (L.map D.int)), some (.int (t4L M).p), some (.int (t4L M).q), some (.int (t4L M).r), some (.int (t4L M).s), z] ∧ S' = S) ⟨[], none, rfl, rfl, rfl⟩ ?_ ?_
  · rintro p x r σ S' N e ⟨M, z, hp, rfl, rfl⟩ k
    obtain ⟨M', a, R, eL, rfl, hp'⟩ := mpI_split e
    have eM : M = M' := mpI_inj (hp.symm.trans hp')
    subst eM
    have hM : ∀ b ∈ M, b.natAbs + 1 ≤ 2 ^ c := fun b hb => hL b (by rw [eL]; exact List.mem_append_left _ hb)
    have ha := hL a (by rw [eL]; simp)
    have lM : M.length ≤ 200 := by
      have := congrArg List.length eL
      rw [List.length_append] at this
      omega
    obtain ⟨b1, b2, b3, b4⟩ := t4_wide hM
    have e1 : c * M.length ≤ 20000 := Nat.le_trans (Nat.mul_le_mul hc lM) (by decide)
    have lt : ∀ x : Int, x.natAbs ≤ 2 ^ (c * M.length) → x.natAbs < 2 ^ 20001 := fun x h => Nat.lt_of_le_of_lt (Nat.le_trans h (Nat.pow_le_pow_right (by decide) e1)) (Nat.pow_lt_pow_right (by decide) (by decide))
    have ba : a.natAbs < 2 ^ 100 := Nat.lt_of_lt_of_le (by omega) (Nat.pow_le_pow_right (by decide) hc)
    walk_at "dy"
    refine ⟨mulOk 20001 100 (lt _ b1) ba (by decide) (by decide) (by decide), mulOk 20001 100 (lt _ b3) ba (by decide) (by decide) (by decide), ?_⟩
    refine k _ _ ⟨M ++ [a], some (.int a), ?_, ?_, rfl⟩
    · rw [hp, List.map_append]; rfl
    · rw [t4_snoc]; rfl
  · rintro σ S' ⟨M, z, hp, rfl, rfl⟩
    have eM : M = L := mpI_inj hp.symm
    subst eM
    walk_at "dy"
    exact q

theorem pure_law_bent : ∀ n ds S Q Ed, sp_law_bent (n + 1) ds S Q Ed → t_law_bent n Ed { nx := fun _ S' => Q .non S', rt := Q } (startD N_law_bent ds) S := by
  rintro n ds S Q Ed ⟨u, d, m, k_, B, U, rfl, hU, hb, T, hm, hB, hd, q⟩
  rw [st_law_bent]
  unfold t_law_bent
  have hsm := tm_sm T.t
  refine seq_step fun r hr => ?_
  walk_at "dy"
  refine ⟨u, _, _, rfl, hU, by omega, by decide, by decide, fun w S1 w0 w1 hU1 ho1 => ?_⟩
  try walk_at "dy"
  subst hr
  refine seq_step fun r hr => ?_
  by_cases c0 : w = 0
  · subst c0
    walk_at "dy"
    refine ⟨u, _, _, rfl, hU1, by omega, by decide, by decide, fun i S2 i0 i1 hU2 ho2 => ?_⟩
    try walk_at "dy"
    obtain ⟨x, hx, ex⟩ := atI_ex (l := cons10) i0 i1
    unfold cons10 at ex
    rw [ex]
    exact q _ _ (.c0 _ _ hx) (hU2.mono (by omega)) (ho1.trans ho2)
  walk_at "dy"
  try rw [if_neg (by simpa using c0)]
  subst hr
  refine seq_step fun r hr => ?_
  walk_at "dy"
  refine ⟨d, rfl, sm_data hsm, ?_⟩
  cases ew : isWh d with
  | true =>
    obtain ⟨i, rfl⟩ := isWh_int ew
    have hi := tm_int.mp T.t
    have l1 : i.natAbs.log2 < 1800 := log2_lt (n := 1800) (Nat.lt_of_lt_of_le hi (Nat.pow_le_pow_right (by decide) hm)) (by decide)
    try walk_at "dy"
    refine ⟨by have : (Int.natAbs 2).log2 ≤ 3 := by decide
               omega, by omega, u, _, _, rfl, hU1, by omega, by decide, by decide, fun j S2 j0 j1 hU2 ho2 => ?_⟩
    try walk_at "dy"
    obtain ⟨x, hx, ex⟩ := atI_ex (l := whs i) j0 j1
    unfold whs at ex
    rw [ex]
    exact q _ _ (.wh i x hx) (hU2.mono (by omega)) (ho1.trans ho2)
  | false =>
    try walk_at "dy"
    subst hr
    have none4 : seqless d = true → ∀ (σ : Si) (Q' : DK) (E : XKD), (∀ x S2, Q' x S2 = Q x S2) → sp_law_draw [.obj u, .int 4] S1 (fun y S2 => rdIx (.lst [D.int 1, .str "b", .tup [.tup []], .non]) y S2 Q') E := fun hs σ Q' E hq => by
      refine ⟨u, _, _, rfl, hU1, by omega, by decide, by decide, fun j S2 j0 j1 hU2 ho2 => ?_⟩
      obtain ⟨x, hx, ex⟩ := atI_ex (l := cons4) j0 j1
      unfold cons4 at ex
      show ixQ S2 Q' (atI [D.int 1, .str "b", .tup [.tup []], .non] j)
      rw [ex]
      show Q' x S2
      rw [hq]
      exact q _ _ (.no _ x hs hx) (hU2.mono (by omega)) (ho1.trans ho2)
    refine seq_step fun r hr => ?_
    have go : seqless d = false → r { nx := fun _ S' => Q .non S', rt := Q } [some (.obj u), some d, some (.int w), none, none] S1 := fun hs => by
      subst hr
      have eb : ∀ (k : Nat), (k : Int) + 1 = ((k + 1 : Nat) : Int) := fun _ => rfl
      have ct : ∀ (xs : List D) (k : Nat), k ≤ xs.length → cutD xs none (some (k : Int)) = xs.take k := fun xs k hk => by
        unfold cutD
        rw [HT.sIx_nat, show HT.sIx xs.length 0 none = 0 from rfl, Nat.min_eq_left hk]
        rfl
      have cd : ∀ (xs : List D) (k : Nat), k ≤ xs.length → cutD xs (some (k : Int)) none = xs.drop k := fun xs k hk => by
        unfold cutD
        rw [HT.sIx_nat, Nat.min_eq_left hk]
        show (xs.drop k).take (xs.length - k) = xs.drop k
        rw [List.take_of_length_le (by rw [List.length_drop]; omega)]
      refine seq_step fun r hr => ?_
      cases d with
      | str z =>
        obtain ⟨l, rfl⟩ := str_ofL z
        have hz := sm_str.mp hsm
        rw [ofL_len] at hz
        have hl : 0 < l.length := by
          have := of_decide_eq_false hs
          rw [ofL_len] at this
          omega
        have st : ∀ k : Nat, k ≤ l.length → cutS (ofL l) none (some (k : Int)) = ofL (l.take k) := fun k hk => by
          rw [cutS_take (by omega) (by omega)]; rfl
        have sd : ∀ k : Nat, k ≤ l.length → cutS (ofL l) (some (k : Int)) none = ofL (l.drop k) := fun k hk => by
          rw [cutS_drop (by omega) (by omega)]; rfl
        walk_at "dy"
        rw [ofL_len]
        refine ⟨by omega, u, _, _, rfl, hU1, by omega, by omega, ?_, fun k S2 k0 k1 hU2 ho2 => ?_⟩
        · exact Int.lt_of_le_of_lt (b := 100000) (by omega) (by decide)
        obtain ⟨k, rfl⟩ := Int.eq_ofNat_of_zero_le k0
        have hk : k < l.length := by omega
        have hU3 := hU2.mono (show U + 1 + 1 ≤ U + 4 * ((n + 1 : Nat) : Int) by omega)
        have ho3 := ho1.trans ho2
        try walk_at "dy"
        subst hr
        refine seq_step fun r hr => ?_
        by_cases c1 : w = 1
        · subst c1
          walk_at "dy"
          try simp only [eb]
          rw [st k (by omega), sd (k + 1) (by omega), ofL_len, ofL_len, ofL_app]
          refine ⟨by omega, by omega, ?_, ?_⟩
          · simp only [ofL_len, List.length_take, List.length_drop]; omega
          exact q _ _ (.cutS l k hk) hU3 ho3
        walk_at "dy"
        try rw [if_neg (by simpa using c1)]
        subst hr
        refine seq_step fun r hr => ?_
        by_cases c2 : w = 2
        · subst c2
          walk_at "dy"
          try simp only [eb]
          rw [st (k + 1) (by omega), sd k (by omega), ofL_len, ofL_len, ofL_app]
          refine ⟨by omega, by omega, ?_, ?_⟩
          · simp only [ofL_len, List.length_take, List.length_drop]; omega
          exact q _ _ (.twS l k hk) hU3 ho3
        walk_at "dy"
        try rw [if_neg (by simpa using c2)]
        subst hr
        refine seq_step fun r hr => ?_
        walk_at "dy"
        refine ⟨by rw [ofL_len]; omega, u, _, _, rfl, hU2, by omega, by decide, by decide, fun i S3 i0 i1 hU4 ho4 => ?_⟩
        obtain ⟨i, rfl⟩ := Int.eq_ofNat_of_zero_le i0
        have ea : (Str.ofString "abclr").cps.toList = [97, 98, 99, 108, 114] := by decide +kernel
        obtain ⟨c, hc, ec⟩ : ∃ c, c ∈ [97, 98, 99, 108, 114] ∧ [97, 98, 99, 108, 114][i]? = some c := ⟨_, List.getElem_mem (show i < 5 by omega), List.getElem?_eq_getElem (show i < 5 by omega)⟩
        rw [x_ixs, ea, atI_nat ec]
        refine ⟨by decide +kernel, ?_⟩
        unfold ixS
        dsimp only
        rw [show D.str ⟨#[c]⟩ = D.str (ofL [c]) from rfl]
        try simp only [eb]
        rw [st k (by omega), sd (k + 1) (by omega)]
        try walk_at "dy"
        refine ⟨?_, by rw [ofL_len]; omega, ?_⟩
        · simp only [ofL_len, List.length_take, List.length_singleton]; omega
        rw [ofL_app]
        try walk_at "dy"
        refine ⟨?_, ?_⟩
        · simp only [ofL_len, List.length_append, List.length_take, List.length_drop, List.length_singleton]; omega
        rw [ofL_app]
        exact q _ _ (.sg l k c hk hc) (hU4.mono (by omega)) (ho3.trans ho4)
      | tup xs =>
        have hl := T.lenT
        have h0 : 0 < xs.length := Nat.pos_of_ne_zero (of_decide_eq_false hs)
        walk_at "dy"
        refine ⟨u, _, _, rfl, hU1, by omega, by omega, ?_, fun k S2 k0 k1 hU2 ho2 => ?_⟩
        · exact Int.lt_of_le_of_lt (b := 900000) (by omega) (by decide)
        obtain ⟨k, rfl⟩ := Int.eq_ofNat_of_zero_le k0
        have hk : k < xs.length := by omega
        have hU3 := hU2.mono (show U + 1 + 1 ≤ U + 4 * ((n + 1 : Nat) : Int) by omega)
        have ho3 := ho1.trans ho2
        try walk_at "dy"
        subst hr
        refine seq_step fun r hr => ?_
        by_cases c1 : w = 1
        · subst c1
          walk_at "dy"
          try simp only [eb]
          rw [ct xs k (by omega), cd xs (k + 1) (by omega)]
          refine ⟨?_, ?_⟩
          · simp only [List.length_take, List.length_drop]; omega
          exact q _ _ (.cutT xs k hk) hU3 ho3
        walk_at "dy"
        try rw [if_neg (by simpa using c1)]
        subst hr
        refine seq_step fun r hr => ?_
        by_cases c2 : w = 2
        · subst c2
          walk_at "dy"
          try simp only [eb]
          rw [ct xs (k + 1) (by omega), cd xs k (by omega)]
          refine ⟨?_, ?_⟩
          · simp only [List.length_take, List.length_drop]; omega
          exact q _ _ (.twT xs k hk) hU3 ho3
        walk_at "dy"
        try rw [if_neg (by simpa using c2)]
        subst hr
        refine seq_step fun r hr => ?_
        walk_at "dy"
        subst hr
        refine seq_step fun r hr => ?_
        by_cases c3 : w = 3
        · subst c3
          walk_at "dy"
          exact q _ _ (.flT xs) hU3 ho3
        walk_at "dy"
        try rw [if_neg (by simpa using c3)]
        subst hr
        refine seq_step fun r hr => ?_
        walk_at "dy"
        refine ⟨xs, rfl, fun p hp => ?_⟩
        have hup : u ≠ p := hU2.ne hp
        try walk_at "dy"
        subst hr
        refine seq_step fun r hr => ?_
        walk_at "dy"
        have ek : xs[k]? = some xs[k] := List.getElem?_eq_getElem hk
        rw [x_ixo upS_same, atI_nat ek]
        unfold ixQ
        dsimp only
        have he : xs[k] ∈ xs := List.getElem_mem hk
        have hde := (T.elT he).2
        refine ⟨u, xs[k], m, k_, B, U + 1 + 1, rfl, hU2.up hup, by omega, (T.elT he).1, hm, hB, by omega, fun e' S5 hbe hU5 ho5 => ?_⟩
        have hp5 : S5 p = some (.lst xs) := (ho5 p (Ne.symm hup)).trans upS_same
        try walk_at "dy"
        rw [x_set hp5 (Dv.ixN_nat hk)]
        subst hr
        refine seq_step fun r hr => ?_
        have fin : Oth S (del (upS S5 p (.lst (xs.set k e'))) p) u := fun a ha => by
          by_cases hap : a = p
          · rw [hap, Dv.del_same, ← ho3 p (Ne.symm hup), hp]
          · rw [Dv.del_ne hap, upS_ne hap, ho5 a ha, upS_ne hap]
            exact ho3 a ha
        have hU6 : Urn (del (upS S5 p (.lst (xs.set k e'))) p) u (U + 4 * ((n + 1 : Nat) : Int)) := ((hU5.up hup).del hup).mono (by omega)
        have res := q _ _ (.inT xs k _ e' ek hbe) hU6 fin
        generalize hT : upS S5 p (.lst (xs.set k e')) = S6 at *
        have hp6 : S6 p = some (.lst (xs.set k e')) := by rw [← hT]; exact upS_same
        walk_at "dy"
        subst hr
        refine ⟨p, _, rfl, hp6, ?_⟩
        walk_at "dy"
        exact res
      | lst xs =>
        have hl := T.lenL
        have h0 : 0 < xs.length := Nat.pos_of_ne_zero (of_decide_eq_false hs)
        walk_at "dy"
        refine ⟨u, _, _, rfl, hU1, by omega, by omega, ?_, fun k S2 k0 k1 hU2 ho2 => ?_⟩
        · exact Int.lt_of_le_of_lt (b := 900000) (by omega) (by decide)
        obtain ⟨k, rfl⟩ := Int.eq_ofNat_of_zero_le k0
        have hk : k < xs.length := by omega
        have hU3 := hU2.mono (show U + 1 + 1 ≤ U + 4 * ((n + 1 : Nat) : Int) by omega)
        have ho3 := ho1.trans ho2
        try walk_at "dy"
        subst hr
        refine seq_step fun r hr => ?_
        by_cases c1 : w = 1
        · subst c1
          walk_at "dy"
          try simp only [eb]
          rw [ct xs k (by omega), cd xs (k + 1) (by omega)]
          refine ⟨?_, ?_⟩
          · simp only [List.length_take, List.length_drop]; omega
          exact q _ _ (.cutL xs k hk) hU3 ho3
        walk_at "dy"
        try rw [if_neg (by simpa using c1)]
        subst hr
        refine seq_step fun r hr => ?_
        by_cases c2 : w = 2
        · subst c2
          walk_at "dy"
          try simp only [eb]
          rw [ct xs (k + 1) (by omega), cd xs k (by omega)]
          refine ⟨?_, ?_⟩
          · simp only [List.length_take, List.length_drop]; omega
          exact q _ _ (.twL xs k hk) hU3 ho3
        walk_at "dy"
        try rw [if_neg (by simpa using c2)]
        subst hr
        refine seq_step fun r hr => ?_
        walk_at "dy"
        subst hr
        refine seq_step fun r hr => ?_
        by_cases c3 : w = 3
        · subst c3
          walk_at "dy"
          exact q _ _ (.flL xs) hU3 ho3
        walk_at "dy"
        try rw [if_neg (by simpa using c3)]
        subst hr
        refine seq_step fun r hr => ?_
        walk_at "dy"
        refine ⟨xs, rfl, fun p hp => ?_⟩
        have hup : u ≠ p := hU2.ne hp
        try walk_at "dy"
        subst hr
        refine seq_step fun r hr => ?_
        walk_at "dy"
        have ek : xs[k]? = some xs[k] := List.getElem?_eq_getElem hk
        rw [x_ixo upS_same, atI_nat ek]
        unfold ixQ
        dsimp only
        have he : xs[k] ∈ xs := List.getElem_mem hk
        have hde := (T.elL he).2
        refine ⟨u, xs[k], m, k_, B, U + 1 + 1, rfl, hU2.up hup, by omega, (T.elL he).1, hm, hB, by omega, fun e' S5 hbe hU5 ho5 => ?_⟩
        have hp5 : S5 p = some (.lst xs) := (ho5 p (Ne.symm hup)).trans upS_same
        try walk_at "dy"
        rw [x_set hp5 (Dv.ixN_nat hk)]
        subst hr
        refine seq_step fun r hr => ?_
        have fin : Oth S (del (upS S5 p (.lst (xs.set k e'))) p) u := fun a ha => by
          by_cases hap : a = p
          · rw [hap, Dv.del_same, ← ho3 p (Ne.symm hup), hp]
          · rw [Dv.del_ne hap, upS_ne hap, ho5 a ha, upS_ne hap]
            exact ho3 a ha
        have hU6 : Urn (del (upS S5 p (.lst (xs.set k e'))) p) u (U + 4 * ((n + 1 : Nat) : Int)) := ((hU5.up hup).del hup).mono (by omega)
        have res := q _ _ (.inL xs k _ e' ek hbe) hU6 fin
        generalize hT : upS S5 p (.lst (xs.set k e')) = S6 at *
        have hp6 : S6 p = some (.lst (xs.set k e')) := by rw [← hT]; exact upS_same
        walk_at "dy"
        refine ⟨p, _, rfl, hp6, ?_⟩
        walk_at "dy"
        exact res
      | _ => cases hs
    cases d with
    | int i => cases ew
    | non =>
      walk_at "dy"
      rw [x_isi3_non]
      try walk_at "dy"
      exact none4 rfl [] _ _ fun _ _ => rfl
    | bl b =>
      walk_at "dy"
      rw [x_isi3_bl]
      try walk_at "dy"
      exact none4 rfl [] _ _ fun _ _ => rfl
    | str z =>
      have hz := sm_str.mp hsm
      walk_at "dy"
      rw [x_isi3_str]
      try walk_at "dy"
      by_cases c : z.length = 0
      · rw [if_pos (by simpa using c)]
        exact ⟨by omega, none4 (decide_eq_true c) [] _ _ fun _ _ => rfl⟩
      · rw [if_neg (by simpa using c)]
        exact ⟨by omega, go (decide_eq_false c)⟩
    | tup xs =>
      walk_at "dy"
      rw [x_isi3_tup]
      try walk_at "dy"
      by_cases c : xs.length = 0
      · rw [if_pos (by simpa using c)]
        exact none4 (decide_eq_true c) [] _ _ fun _ _ => rfl
      · rw [if_neg (by simpa using c)]
        exact go (decide_eq_false c)
    | lst xs =>
      walk_at "dy"
      rw [x_isi3_lst]
      try walk_at "dy"
      by_cases c : xs.length = 0
      · rw [if_pos (by simpa using c)]
        exact none4 (decide_eq_true c) [] _ _ fun _ _ => rfl
      · rw [if_neg (by simpa using c)]
        exact go (decide_eq_false c)
    | _ => unfold sm at hsm; cases hsm

theorem pure_law_is_word : ∀ ds S Q Ed, sp_law_is_word ds S Q Ed → t_law_is_word Ed { nx := fun _ S' => Q .non S', rt := Q } (startD N_law_is_word ds) S := by
  rintro ds S Q Ed ⟨d, n, rfl, hd, q⟩
  rw [st_law_is_word]
  unfold t_law_is_word
  cases d with
  | str z =>
    obtain ⟨l, rfl⟩ := str_ofL z
    have q : Q (.bl (decide (1 ≤ (ofL l).length ∧ (ofL l).length ≤ 60) && isAB l)) S := q
    have hz := sm_str.mp hd
    walk_at "dy"
    rw [ofL_len] at q hz ⊢
    by_cases c1 : 1 ≤ (l.length : Int)
    · rw [if_pos c1]
      by_cases c2 : (l.length : Int) ≤ 60
      · rw [decide_eq_true (show 1 ≤ l.length ∧ l.length ≤ 60 by omega), Bool.true_and] at q
        try rw [if_pos (by simpa using c2)]
        rw [show Txt.count (ofL l) "a" = (l.count 97 : Nat) from count_eq _ _, count_b]
        have e := cnt_ab l
        rw [← e] at q
        exact ⟨by omega, by omega, q⟩
      · rw [decide_eq_false (show ¬ (1 ≤ l.length ∧ l.length ≤ 60) by omega), Bool.false_and] at q
        try rw [if_neg (by simpa using c2)]
        exact ⟨by omega, q⟩
    · rw [decide_eq_false (show ¬ (1 ≤ l.length ∧ l.length ≤ 60) by omega), Bool.false_and] at q
      try rw [if_neg c1]
      exact ⟨by omega, q⟩
  | _ => first | (walk_at "dy"; exact q) | exact absurd (show false = true from hd) Bool.false_ne_true

theorem pure_law_is_claim : ∀ ds S Q Ed, sp_law_is_claim ds S Q Ed → t_law_is_claim Ed { nx := fun _ S' => Q .non S', rt := Q } (startD N_law_is_claim ds) S := by
  rintro ds S Q Ed ⟨d, z, n, m, rfl, hd, n1, q⟩
  rw [st_law_is_claim]
  unfold t_law_is_claim
  cases d with
  | tup xs =>
    cases xs with
    | nil =>
      walk_at "dy"
      have e : ((0 : Nat) : Int) ≠ (n : Int) := by omega
      try simp only [List.length_nil] at *
      try rw [if_neg (by omega)]
      exact q
    | cons x r =>
      have hx := smT.mp hd x (.head _)
      walk_at "dy"
      by_cases c : (((r.length + 1 : Nat) : Int) = (n : Int))
      · rw [if_pos c]
        have c' : (r.length : Int) + 1 = (n : Int) := by omega
        cases x with
        | str y =>
          have q : Q (.bl (decide ((r.length : Int) + 1 = (n : Int)) && decide (y = z))) S := q
          rw [decide_eq_true c', Bool.true_and] at q
          simp only [isi_str_str, if_true]
          exact q
        | non => simp only [isi_non_str]; exact q
        | bl b => simp only [isi_bl_str]; exact q
        | int b => simp only [isi_int_str]; exact q
        | tup b => simp only [isi_tup_str]; exact q
        | lst b => simp only [isi_lst_str]; exact q
        | _ => unfold sm at hx; cases hx
      · rw [if_neg c]
        have c' : ¬ (r.length : Int) + 1 = (n : Int) := by omega
        cases x with
        | str y =>
          have q : Q (.bl (decide ((r.length : Int) + 1 = (n : Int)) && decide (y = z))) S := q
          rw [decide_eq_false c', Bool.false_and] at q
          exact q
        | _ => exact q
  | _ => first | (walk_at "dy"; exact q) | exact absurd (show false = true from hd) Bool.false_ne_true

theorem pure_law_copied : ∀ n ds S Q Ed, sp_law_copied (n + 1) ds S Q Ed → t_law_copied n Ed { nx := fun _ S' => Q .non S', rt := Q } (startD N_law_copied ds) S := by
  rintro n ds S Q Ed ⟨d, m, k, B, rfl, T, hB, hd, q⟩
  rw [st_law_copied]
  unfold t_law_copied
  have hsm := tm_sm T.t
  cases d with
  | lst xs =>
    have hl := T.lenL
    refine seq_step fun r hr => ?_
    walk_at "dy"
    refine comp_pureG (fun x => x) xs S (fun R hR => by walk_at "dy"; exact hR) (fun x hx S' Q' q' => ?_) (by omega) (by rw [List.map_id']; exact q)
    walk_at "dy"
    have := (T.elL hx).2
    exact ⟨x, m, k, B, rfl, (T.elL hx).1, hB, by omega, q'⟩
  | tup xs =>
    have hl := T.lenT
    refine seq_step fun r hr => ?_
    walk_at "dy"
    subst hr
    refine seq_step fun r hr => ?_
    walk_at "dy"
    refine comp_pureG (fun x => x) xs S (fun R hR => by walk_at "dy"; exact hR) (fun x hx S' Q' q' => ?_) (by omega) ?_
    · walk_at "dy"
      have := (T.elT hx).2
      exact ⟨x, m, k, B, rfl, (T.elT hx).1, hB, by omega, q'⟩
    rw [List.map_id']
    walk_at "dy"
    exact q
  | non => walk_at "dy"; exact q
  | bl b => walk_at "dy"; exact q
  | int i => walk_at "dy"; exact q
  | str z => walk_at "dy"; exact q
  | _ => unfold sm at hsm; cases hsm

theorem pure_law_is_form : ∀ ds S Q Ed, sp_law_is_form ds S Q Ed → t_law_is_form Ed { nx := fun _ S' => Q .non S', rt := Q } (startD N_law_is_form ds) S := by
  rintro ds S Q Ed ⟨a, b, c, n, rfl, ha, hb, hc, n1, hn, q⟩
  rw [st_law_is_form]
  unfold t_law_is_form
  refine seq_step fun r hr => ?_
  walk_at "dy"
  refine comp_pure (fun d => .bl (isWh d)) [a, b, c] S (fun R hR => by walk_at "dy"; exact hR) (fun d hd S' Q' q' => ?_) (by show 3 ≤ _; decide) ?_
  · refine (show dCall sp_law_whole [] wd0 (dCons (dVar 2) dNil) [some (.tup [a, b, c]), none, some d] S' Q' from ?_)
    walk_at "dy"
    refine ⟨d, rfl, ?_, q'⟩
    simp only [List.mem_cons, List.not_mem_nil, or_false] at hd
    rcases hd with rfl | rfl | rfl
    · exact sm_data ha
    · exact sm_data hb
    · exact sm_data hc
  refine x_allb (bs := [a, b, c].map isWh) (by rw [List.map_map]; rfl) ?_
  rw [show ([a, b, c].map isWh).all id = (isWh a && (isWh b && isWh c)) by simp only [List.map_cons, List.map_nil, List.all_cons, List.all_nil, Bool.and_true, id]]
  cases hw : (isWh a && (isWh b && isWh c)) with
  | false =>
    have e : formTD a b c = false := by cases a <;> cases b <;> cases c <;> first | rfl | cases hw
    rw [e] at q
    try walk_at "dy"
    try rw [if_pos (by simp)]
    exact q
  | true =>
    obtain ⟨w1, w2⟩ := Bool.and_eq_true_iff.mp hw
    obtain ⟨w2, w3⟩ := Bool.and_eq_true_iff.mp w2
    obtain ⟨A, rfl⟩ := isWh_int w1
    obtain ⟨B, rfl⟩ := isWh_int w2
    obtain ⟨C, rfl⟩ := isWh_int w3
    have q : Q (.bl (okF A B C)) S := q
    have bA := sm_int.mp ha
    have bB := sm_int.mp hb
    have bC := sm_int.mp hc
    have mk : ∀ {x y : Int} {i j : Nat}, x.natAbs < 2 ^ i → y.natAbs < 2 ^ j → i ≤ 20000 → j ≤ 20000 → x.natAbs.log2 + y.natAbs.log2 < 1000000 := fun h k hi hj => mulOk 20000 20000 (Nat.lt_of_lt_of_le h (Nat.pow_le_pow_right (by decide) hi)) (Nat.lt_of_lt_of_le k (Nat.pow_le_pow_right (by decide) hj)) (by decide) (by decide) (by decide)
    have b4 : (4 : Int).natAbs < 2 ^ 3 := by decide
    try walk_at "dy"
    try rw [if_neg (by simp)]
    subst hr
    refine seq_step fun r hr => ?_
    walk_at "dy"
    refine ⟨mk bB bB (by omega) (by omega), mk b4 bA (by decide) (by omega), mk (wide_lt b4 bA) bC (by omega) (by omega), ?_⟩
    rw [show B * B - 4 * A * C = undF A B C from rfl]
    have hu : (undF A B C).natAbs < 2 ^ 3400 := Nat.lt_of_lt_of_le (und_sz bA bB bC) (Nat.pow_le_pow_right (by decide) (by omega))
    unfold okF at q
    generalize undF A B C = u at *
    subst hr
    walk_at "dy"
    by_cases c1 : 1 ≤ u
    · have c2 : u > 0 := by omega
      rw [decide_eq_true c1, Bool.true_and] at q
      simp only [c2, decide_true, if_true]
      try walk_at "dy"
      refine ⟨u, rfl, hu, ?_⟩
      try walk_at "dy"
      exact q
    · have c2 : ¬ u > 0 := by omega
      rw [decide_eq_false c1, Bool.false_and] at q
      simp only [c2, decide_false, Bool.false_eq_true, if_false]
      exact q

theorem pure_law_is_step : ∀ ds S Q Ed, sp_law_is_step ds S Q Ed → t_law_is_step Ed { nx := fun _ S' => Q .non S', rt := Q } (startD N_law_is_step ds) S := by
  rintro ds S Q Ed ⟨l, rfl, l1, q⟩
  rw [st_law_is_step]
  unfold t_law_is_step
  walk_at "dy"
  rw [count_b, ofL_len]
  refine ⟨by omega, ?_⟩
  refine ⟨_, _, rfl, ?_⟩
  walk_at "dy"
  rw [Int.gcd_natCast_natCast]
  have cl : l.count 98 ≤ l.length := List.count_le_length
  by_cases c : Nat.gcd (l.count 98) l.length = 1
  · rw [if_pos (show ((Nat.gcd (l.count 98) l.length : Nat) : Int) = 1 by omega)]
    refine ⟨by omega, ?_⟩
    refine ⟨l.count 98, l.length - l.count 98, by rw [Int.ofNat_sub cl], by omega, ?_⟩
    walk_at "dy"
    rw [show l.count 98 + (l.length - l.count 98) = l.length by omega]
    rw [step_tail (k1 := true) (decide_eq_true c).symm rfl] at q
    have e3 : decide (ofL l = ofL (evF (l.count 98) l.length)) = decide (l = evF (l.count 98) l.length) := by
      rw [decide_eq_decide]; exact ofL_inj
    rw [e3]
    exact q
  · rw [if_neg (show ¬ ((Nat.gcd (l.count 98) l.length : Nat) : Int) = 1 by omega)]
    rw [step_tail (k1 := false) (decide_eq_false c).symm rfl] at q
    exact q

theorem pure_law_is_turning : ∀ ds S Q Ed, sp_law_is_turning ds S Q Ed → t_law_is_turning Ed { nx := fun _ S' => Q .non S', rt := Q } (startD N_law_is_turning ds) S := by
  rintro ds S Q Ed ⟨d, n, rfl, hd, n1, hn, q⟩
  rw [st_law_is_turning]
  unfold t_law_is_turning
  refine seq_step fun r hr => ?_
  cases d with
  | tup xs =>
    walk_at "dy"
    by_cases e2 : (xs.length : Int) = 2
    · obtain ⟨a, b, rfl⟩ : ∃ a b, xs = [a, b] := by
        match xs, e2 with
        | [a, b], _ => exact ⟨a, b, rfl⟩
        | [], h => simp at h
        | [_], h => simp at h
        | _ :: _ :: _ :: _, h => simp at h; omega
      rw [if_neg (by rw [e2]; decide)]
      subst hr
      refine seq_step fun r hr => ?_
      walk_at "dy"
      refine loop_all (fun p σ S' => (∃ z, σ = [some (.tup [a, b]), z, none]) ∧ (∀ x ∈ p, rowW x = true) ∧ S' = S) ⟨⟨_, rfl⟩, (fun _ h => nomatch h), rfl⟩ ?_ ?_
      · rintro p x rr σ S' N e ⟨⟨z, rfl⟩, hp, hS⟩ k
        subst hS
        have hx : x ∈ [a, b] := by rw [e]; simp
        have bad : rowW x = false → Q (.bl false) S' := fun h => by
          cases et : isTurnD (.tup [a, b]) with
          | false => rw [et] at q; exact q
          | true =>
            obtain ⟨h1, h2⟩ := turn_rows et
            simp only [List.mem_cons, List.not_mem_nil, or_false] at hx
            rcases hx with rfl | rfl
            · rw [h1] at h; cases h
            · rw [h2] at h; cases h
        have hsx := smT.mp hd x hx
        cases x with
        | tup ys =>
          walk_at "dy"
          by_cases e3 : (ys.length : Int) = 2
          · obtain ⟨c, d, rfl⟩ : ∃ c d, ys = [c, d] := by
              match ys, e3 with
              | [c, d], _ => exact ⟨c, d, rfl⟩
              | [], h => simp at h
              | [_], h => simp at h
              | _ :: _ :: _ :: _, h => simp at h; omega
            rw [if_neg (by rw [e3]; decide)]
            refine comp_pure (fun d => .bl (isWh d)) [c, d] S' (fun R hR => by walk_at "dy"; exact hR) (fun x hx S' Q' q' => ?_) (by show 2 ≤ _; decide) ?_
            · refine (show dCall sp_law_whole [] wd0 (dCons (dVar 2) dNil) [some (.tup [a, b]), some (.tup [c, d]), some x] S' Q' from ?_)
              walk_at "dy"
              exact ⟨x, rfl, sm_data (smT.mp hsx x hx), q'⟩
            refine x_allb (bs := [c, d].map isWh) (by rw [List.map_map]; rfl) ?_
            rw [show ([c, d].map isWh).all id = (isWh c && isWh d) by simp only [List.map_cons, List.map_nil, List.all_cons, List.all_nil, Bool.and_true, id]]
            cases hw : (isWh c && isWh d) with
            | false =>
              try walk_at "dy"
              try rw [if_pos (by simp)]
              exact bad hw
            | true =>
              try walk_at "dy"
              try rw [if_neg (by simp)]
              exact k _ _ ⟨⟨_, rfl⟩, fun y hy => (List.mem_append.mp hy).elim (hp y) fun h => by rw [List.mem_singleton.mp h]; exact hw, rfl⟩
          · rw [if_pos e3]
            refine bad ?_
            unfold rowW
            split
            · rename_i h
              injection h with h
              subst h
              exact absurd rfl e3
            · rfl
        | non => walk_at "dy"; exact bad rfl
        | bl b => walk_at "dy"; exact bad rfl
        | int b => walk_at "dy"; exact bad rfl
        | str b => walk_at "dy"; exact bad rfl
        | lst b => walk_at "dy"; exact bad rfl
        | _ => unfold sm at hsx; cases hsx
      · rintro σ S' ⟨⟨z, rfl⟩, hp, hS⟩
        subst hS
        obtain ⟨i1, j1, rfl⟩ := rowW_inv (hp a (by simp))
        obtain ⟨i2, j2, rfl⟩ := rowW_inv (hp b (by simp))
        have s1 := smT.mp hd _ (.head _)
        have s2 := smT.mp hd _ (.tail _ (.head _))
        have b1 := sm_int.mp (smT.mp s1 (.int i1) (by simp))
        have b2 := sm_int.mp (smT.mp s1 (.int j1) (by simp))
        have b3 := sm_int.mp (smT.mp s2 (.int i2) (by simp))
        have b4 := sm_int.mp (smT.mp s2 (.int j2) (by simp))
        have mk : ∀ {x y : Int}, x.natAbs < 2 ^ n → y.natAbs < 2 ^ n → x.natAbs.log2 + y.natAbs.log2 < 1000000 := fun h k => mulOk 20000 20000 (Nat.lt_of_lt_of_le h (Nat.pow_le_pow_right (by decide) (by omega))) (Nat.lt_of_lt_of_le k (Nat.pow_le_pow_right (by decide) (by omega))) (by decide) (by decide) (by decide)
        subst hr
        walk_at "dy"
        refine ⟨mk b1 b4, mk b2 b3, ?_⟩
        rw [show isTurnD (.tup [.tup [.int i1, .int j1], .tup [.int i2, .int j2]]) = decide ((i1 * j2 - j1 * i2).natAbs = 1) from rfl] at q
        have e3 : decide ((if i1 * j2 - j1 * i2 < 0 then -(i1 * j2 - j1 * i2) else i1 * j2 - j1 * i2) = 1) = decide ((i1 * j2 - j1 * i2).natAbs = 1) := by
          rw [decide_eq_decide]
          split <;> omega
        rw [e3]
        exact q
    · rw [if_pos e2]
      have e : isTurnD (.tup xs) = false := by
        unfold isTurnD
        split
        · rename_i h
          injection h with h
          subst h
          exact absurd rfl e2
        · rfl
      rw [e] at q
      exact q
  | non => walk_at "dy"; exact q
  | bl b => walk_at "dy"; exact q
  | int b => walk_at "dy"; exact q
  | str b => walk_at "dy"; exact q
  | lst b => walk_at "dy"; exact q
  | _ => unfold sm at hd; cases hd

theorem pure_law_turned_form : ∀ ds S Q Ed, sp_law_turned_form ds S Q Ed → t_law_turned_form Ed { nx := fun _ S' => Q .non S', rt := Q } (startD N_law_turned_form ds) S := by
  rintro ds S Q Ed ⟨A, B, C, m, n, rfl, bA, bB, bC, ⟨bp, bq, br, bs⟩, hn, q⟩
  rw [st_law_turned_form]
  unfold t_law_turned_form
  have mk : ∀ {x y : Int} {i j : Nat}, x.natAbs < 2 ^ i → y.natAbs < 2 ^ j → i ≤ 20000 → j ≤ 20000 → x.natAbs.log2 + y.natAbs.log2 < 1000000 := fun h k hi hj => mulOk 20000 20000 (Nat.lt_of_lt_of_le h (Nat.pow_le_pow_right (by decide) hi)) (Nat.lt_of_lt_of_le k (Nat.pow_le_pow_right (by decide) hj)) (by decide) (by decide) (by decide)
  have b2 : (2 : Int).natAbs < 2 ^ 2 := by decide
  refine seq_step fun r hr => ?_
  walk_at "dy"
  subst hr
  refine seq_step fun r hr => ?_
  unfold tbD
  walk_at "dy"
  have three : ∀ {a x y : Int}, a.natAbs < 2 ^ n → x.natAbs < 2 ^ n → y.natAbs < 2 ^ n → a.natAbs.log2 + x.natAbs.log2 < 1000000 ∧ (a * x).natAbs.log2 + y.natAbs.log2 < 1000000 := fun ha hx hy => ⟨mk ha hx (by omega) (by omega), mk (wide_lt ha hx) hy (by omega) (by omega)⟩
  subst hr
  refine seq_step fun r hr => ?_
  walk_at "dy"
  refine ⟨(three bA bp bp).1, (three bA bp bp).2, (three bB bp br).1, (three bB bp br).2, (three bC br br).1, (three bC br br).2, ?_⟩
  rw [show A * m.p * m.p + B * m.p * m.r + C * m.r * m.r = valF A B C m.p m.r by unfold valF; grind]
  subst hr
  refine seq_step fun r hr => ?_
  walk_at "dy"
  refine ⟨mk b2 bA (by decide) (by omega), mk (wide_lt b2 bA) bp (by omega) (by omega), mk (wide_lt (wide_lt b2 bA) bp) bq (by omega) (by omega), mk b2 bC (by decide) (by omega), mk (wide_lt b2 bC) br (by omega) (by omega), mk (wide_lt (wide_lt b2 bC) br) bs (by omega) (by omega), ?_⟩
  subst hr
  refine seq_step fun r hr => ?_
  walk_at "dy"
  have s1 : (m.p * m.s + m.q * m.r).natAbs < 2 ^ (n + n + 1) := by
    have h1 := wide_lt bp bs
    have h2 := wide_lt bq br
    have p1 : (2 : Nat) ^ (n + n + 1) = 2 * 2 ^ (n + n) := by rw [Nat.pow_succ, Nat.mul_comm]
    omega
  refine ⟨mk bp bs (by omega) (by omega), mk bq br (by omega) (by omega), mk bB s1 (by omega) (by omega), ?_⟩
  rw [show 2 * A * m.p * m.q + 2 * C * m.r * m.s + B * (m.p * m.s + m.q * m.r) = trB A B C m by unfold trB; grind]
  subst hr
  walk_at "dy"
  refine ⟨(three bA bq bq).1, (three bA bq bq).2, (three bB bq bs).1, (three bB bq bs).2, (three bC bs bs).1, (three bC bs bs).2, ?_⟩
  rw [show A * m.q * m.q + B * m.q * m.s + C * m.s * m.s = valF A B C m.q m.s by unfold valF; grind]
  exact q

theorem pure_law_word_form : ∀ ds S Q Ed, sp_law_word_form ds S Q Ed → t_law_word_form Ed { nx := fun _ S' => Q .non S', rt := Q } (startD N_law_word_form ds) S := by
  rintro ds S Q Ed ⟨l, rfl, hab, h0, hl, q⟩
  rw [st_law_word_form]
  unfold t_law_word_form
  have nu1 := nuL_two l
  have nl := nuL_len l
  have n0 := nuL_ne h0
  have h1 : ∀ a ∈ nuL l, 1 ≤ a ∧ a.natAbs + 1 ≤ 2 ^ 2 := fun a ha => ⟨(nu1 a ha).1, by have := nu1 a ha; omega⟩
  have gl := fmG_log (c := 2) h1 n0 (by omega)
  refine seq_step fun r hr => ?_
  walk_at "dy"
  refine ⟨l, rfl, hab, hl, fun S1 k1 => ?_⟩
  try walk_at "dy"
  refine ⟨nuL l, 2, rfl, fun a ha => (h1 a ha).2, by decide, by omega, ?_⟩
  try walk_at "dy"
  subst hr
  refine seq_step fun r hr => ?_
  walk_at "dy"
  refine ⟨_, _, rfl, _, _, rfl, ?_⟩
  try walk_at "dy"
  have e : ((Int.gcd (Int.gcd (t4L (nuL l)).r ((t4L (nuL l)).s - (t4L (nuL l)).p) : Nat) (t4L (nuL l)).q : Nat) : Int) = fmG (nuL l) := rfl
  rw [e]
  subst hr
  walk_at "dy"
  exact ⟨gl, gl, gl, q S1 k1⟩

theorem pure_law_due : ∀ ds S Q Ed, sp_law_due ds S Q Ed → t_law_due Ed { nx := fun _ S' => Q .non S', rt := Q } (startD N_law_due ds) S := by
  rintro ds S Q Ed ⟨c, p, m, k, B, rfl, tc, tp, m1, hm, hB, q0⟩
  have q := q0 S fun _ _ h => h
  have hc := tm_sm tc.t
  have hp := tm_sm tp.t
  rw [st_law_due]
  unfold t_law_due
  refine seq_step fun r hr => ?_
  walk_at "dy"
  refine ⟨c, "form below", 4, m, rfl, hc, by decide, ?_⟩
  try walk_at "dy"
  refine ⟨c, "form above", 4, m, rfl, hc, by decide, ?_⟩
  try walk_at "dy"
  subst hr
  refine seq_step fun r hr => ?_
  walk_at "dy"
  refine ⟨⟨rfl, rfl, rfl, by cases claimB "form below" 4 c <;> cases claimB "form above" 4 c <;> decide⟩, ?_⟩
  cases e1 : claimB "form below" 4 c with
  | false =>
    cases e2 : claimB "form above" 4 c with
    | false =>
      try walk_at "dy"
      have n : ∀ {z : Str} {x y w : D}, claimB z 4 c = false → c ≠ .tup [.str z, x, y, w] := fun h e => by rw [e] at h; revert h; unfold claimB; simp
      have e0 : evB c p = false := by
        unfold evB
        split
        · rename_i z x y w
          rw [if_neg (fun h => n e1 (by rw [h])), if_neg (fun h => n e2 (by rw [h]))]
        · rfl
      rw [e0] at q
      rw [if_pos (by first | decide | decide +kernel)]
      exact q
    | true =>
      obtain ⟨x, y, w, rfl⟩ := claimB_four e2
      have hx := smT.mp hc x (by simp)
      have hy := smT.mp hc y (by simp)
      have hw := smT.mp hc w (by simp)
      have ecut : cutD [D.str "form above", x, y, w] (some 1) none = [x, y, w] := rfl
      rw [ev_above] at q
      try walk_at "dy"
      rw [if_neg (by first | decide | decide +kernel), ecut]
      refine ⟨x, y, w, m, rfl, hx, hy, hw, m1, by omega, ?_⟩
      cases et : formTD x y w with
      | false =>
        try walk_at "dy"
        rw [formTD_no et] at q
        exact q
      | true =>
        obtain ⟨A, B', C, rfl, rfl, rfl, ok, ef⟩ := formTD_yes et
        rw [ef] at q
        have bA := sm_int.mp hx
        have bB := sm_int.mp hy
        have bC := sm_int.mp hw
        have mk : ∀ {x y : Int} {i j : Nat}, x.natAbs < 2 ^ i → y.natAbs < 2 ^ j → i ≤ 20000 → j ≤ 20000 → x.natAbs.log2 + y.natAbs.log2 < 1000000 := fun h k hi hj => mulOk 20000 20000 (Nat.lt_of_lt_of_le h (Nat.pow_le_pow_right (by decide) hi)) (Nat.lt_of_lt_of_le k (Nat.pow_le_pow_right (by decide) hj)) (by decide) (by decide) (by decide)
        have b4 : (4 : Int).natAbs < 2 ^ 3 := by decide
        have b9 : (9 : Int).natAbs < 2 ^ 4 := by decide
        cases p with
        | tup ps =>
          try walk_at "dy"
          subst hr
          refine seq_step fun r hr => ?_
          walk_at "dy"
          rw [ecut]
          subst hr
          refine seq_step fun r hr => ?_
          walk_at "dy"
          by_cases e3 : (ps.length : Int) = 2
          · obtain ⟨a, b, rfl⟩ : ∃ a b, ps = [a, b] := by
              match ps, e3 with
              | [a, b], _ => exact ⟨a, b, rfl⟩
              | [], h => simp at h
              | [_], h => simp at h
              | _ :: _ :: _ :: _, h => simp at h; omega
            rw [if_neg (by rw [e3]; decide)]
            refine comp_pure (fun d => .bl (isWh d)) [a, b] S (fun R hR => by walk_at "dy"; exact hR) (fun x hx S' Q' q' => ?_) (by show 2 ≤ _; decide) ?_
            · refine (show dCall sp_law_whole [] wd0 (dCons (dVar 7) dNil) ((wipeD _ [7]).set 7 (some x)) S' Q' from ?_)
              walk_at "dy"
              exact ⟨x, rfl, sm_data (smT.mp hp x hx), q'⟩
            refine x_allb (bs := [a, b].map isWh) (by rw [List.map_map]; rfl) ?_
            rw [show ([a, b].map isWh).all id = (isWh a && isWh b) by simp only [List.map_cons, List.map_nil, List.all_cons, List.all_nil, Bool.and_true, id]]
            cases hwh : (isWh a && isWh b) with
            | false =>
              try walk_at "dy"
              try rw [if_pos (by simp)]
              have e : aboveF A B' C (.tup [a, b]) = false := by
                cases a <;> first | rfl | (cases b <;> first | rfl | cases hwh)
              rw [e] at q
              exact q
            | true =>
              obtain ⟨w1, w2⟩ := Bool.and_eq_true_iff.mp hwh
              obtain ⟨x, rfl⟩ := isWh_int w1
              obtain ⟨y, rfl⟩ := isWh_int w2
              have bx := sm_int.mp (smT.mp hp (.int x) (by simp))
              have by' := sm_int.mp (smT.mp hp (.int y) (by simp))
              try walk_at "dy"
              try rw [if_neg (by simp)]
              refine (show (eqOk (.tup [.int x, .int y]) = true ∧ eqOk (.tup [.int 0, .int 0]) = true) ∧ _ from ⟨⟨okD_eqOk (k := 1) (okD_tup (k := 0) fun d hd => ?_) (by decide), by decide⟩, ?_⟩)
              · simp only [List.mem_cons, List.not_mem_nil, or_false] at hd
                rcases hd with rfl | rfl <;> exact okD_int
              have ez : deq (.tup [.int x, .int y]) (.tup [.int 0, .int 0]) = (decide (x = 0) && decide (y = 0)) := by
                show ((x == 0) && ((y == 0) && true)) = _
                rw [Bool.and_true]; rfl
              rw [ez]
              rw [show aboveF A B' C (.tup [.int x, .int y]) = (!(decide (x = 0) && decide (y = 0)) && decide (9 * (valF A B' C x y * valF A B' C x y) ≤ undF A B' C)) from rfl] at q
              cases ezz : (decide (x = 0) && decide (y = 0)) with
              | true =>
                rw [ezz] at q
                try walk_at "dy"
                exact q
              | false =>
                rw [ezz] at q
                try walk_at "dy"
                have up : ∀ {x : Int}, x.natAbs < 2 ^ m → x.natAbs < 2 ^ 600 := fun h => Nat.lt_of_lt_of_le h (Nat.pow_le_pow_right (by decide) hm)
                have bv := val_sz (up bA) (up bB) (up bC) (up bx) (up by')
                refine ⟨mk bA bx (by omega) (by omega), mk (wide_lt bA bx) bx (by omega) (by omega), mk bB bx (by omega) (by omega), mk (wide_lt bB bx) by' (by omega) (by omega), mk bC by' (by omega) (by omega), mk (wide_lt bC by') by' (by omega) (by omega), ?_⟩
                rw [show A * x * x + B' * x * y + C * y * y = valF A B' C x y by unfold valF; grind]
                generalize valF A B' C x y = v at *
                try walk_at "dy"
                refine ⟨mk b9 bv (by decide) (by decide), mk (wide_lt b9 bv) bv (by decide) (by decide), mk bB bB (by omega) (by omega), mk b4 bA (by decide) (by omega), mk (wide_lt b4 bA) bC (by omega) (by omega), ?_⟩
                rw [show 9 * v * v = 9 * (v * v) by grind]
                exact q
          · rw [if_pos e3]
            have e : aboveF A B' C (.tup ps) = false := by
              unfold aboveF
              split
              · rename_i h
                injection h with h
                subst h
                exact absurd rfl e3
              · rfl
            rw [e] at q
            exact q
        | _ => first | exact absurd (show false = true from hp) Bool.false_ne_true | (try walk_at "dy"; exact q)
  | true =>
    obtain ⟨x, y, w, rfl⟩ := claimB_four e1
    have hx := smT.mp hc x (by simp)
    have hy := smT.mp hc y (by simp)
    have hw := smT.mp hc w (by simp)
    have e2 : claimB "form above" ((4 : Nat) : Int) (.tup [.str "form below", x, y, w]) = false := by
      unfold claimB
      dsimp only
      rw [decide_eq_false (show ¬ (Str.ofString "form below") = "form above" by decide +kernel), Bool.and_false]
    rw [e2]
    have ecut : cutD [D.str "form below", x, y, w] (some 1) none = [x, y, w] := rfl
    simp only [ev_below] at q0 q
    try walk_at "dy"
    try rw [if_neg (by first | decide | decide +kernel)]
    rw [ecut]
    refine ⟨x, y, w, m, rfl, hx, hy, hw, m1, by omega, ?_⟩
    cases et : formTD x y w with
    | false =>
      try walk_at "dy"
      rw [formTD_no et] at q
      exact q
    | true =>
      obtain ⟨A, B', C, rfl, rfl, rfl, ok, ef⟩ := formTD_yes et
      simp only [ef] at q0 q
      have bA := sm_int.mp hx
      have bB := sm_int.mp hy
      have bC := sm_int.mp hw
      cases p with
      | tup ps =>
        try walk_at "dy"
        subst hr
        refine seq_step fun r hr => ?_
        walk_at "dy"
        rw [ecut]
        subst hr
        refine seq_step fun r hr => ?_
        walk_at "dy"
        subst hr
        refine seq_step fun r hr => ?_
        walk_at "dy"
        by_cases e3 : (ps.length : Int) = 3
        · obtain ⟨w, t, n, rfl⟩ : ∃ a b c, ps = [a, b, c] := by
            match ps, e3 with
            | [a, b, c], _ => exact ⟨a, b, c, rfl⟩
            | [], h => simp at h
            | [_], h => simp at h
            | [_, _], h => simp at h
            | _ :: _ :: _ :: _ :: _, h => simp at h; omega
          rw [if_neg (by rw [e3]; decide)]
          have hw := smT.mp hp w (by simp)
          have ht := smT.mp hp t (by simp)
          have hn := smT.mp hp n (by simp)
          try walk_at "dy"
          refine ⟨w, m, rfl, hw, ?_⟩
          have bf : ∀ h : isStepD w = false, belowF A B' C (.tup [w, t, n]) = false := fun h => by
            cases n <;> first | rfl | (show (isStepD w && _) = false; rw [h, Bool.false_and])
          cases ew : isWordD w with
          | false =>
            try walk_at "dy"
            rw [bf (by cases e : isStepD w with
              | false => rfl
              | true => rw [step_word e] at ew; cases ew)] at q
            exact q
          | true =>
            obtain ⟨l, rfl, l1, l60, hab⟩ := isWordD_str ew
            have lne : l ≠ [] := fun e => by rw [e] at l1; exact absurd l1 (by decide)
            have es : isStepD (.str (ofL l)) = isStepL l := by
              have : isStepD (.str (ofL l)) = (isWordD (.str (ofL l)) && isStepL l.toArray.toList) := rfl
              rw [this, ew, Bool.true_and]
            try walk_at "dy"
            refine ⟨l, rfl, by omega, ?_⟩
            cases e5 : isStepL l with
            | false =>
              try walk_at "dy"
              rw [bf (es.trans e5)] at q
              exact q
            | true =>
              have e1' := es.trans e5
              try walk_at "dy"
              refine ⟨t, m, rfl, ht, m1, by omega, ?_⟩
              cases e6 : isTurnD t with
              | false =>
                have e : belowF A B' C (.tup [.str (ofL l), t, n]) = false := by
                  cases n <;> first | rfl | (show (_ && (isTurnD t && _)) = false; rw [e6, Bool.false_and, Bool.and_false])
                try walk_at "dy"
                rw [e] at q
                exact q
              | true =>
                obtain ⟨m', rfl, dm⟩ := turn_of e6
                try walk_at "dy"
                subst hr
                refine seq_step fun r hr => ?_
                walk_at "dy"
                refine ⟨n, rfl, sm_data hn, ?_⟩
                cases e7 : isWh n with
                | false =>
                  have e : belowF A B' C (.tup [.str (ofL l), tbD m', n]) = false := by
                    cases n <;> first | rfl | cases e7
                  try walk_at "dy"
                  rw [e] at q
                  exact q
                | true =>
                  obtain ⟨n, rfl⟩ := isWh_int e7
                  have eb : belowF A B' C (.tup [.str (ofL l), tbD m', .int n]) = (!decide (n = 0) && deq (tri3 (valF A B' C m'.p m'.r) (trB A B' C m') (valF A B' C m'.q m'.s)) (tri3 (n * fmA (nuL l)) (n * fmB (nuL l)) (n * fmC (nuL l)))) := by
                    rw [show belowF A B' C (.tup [.str (ofL l), tbD m', .int n]) = (isStepD (.str (ofL l)) && (isTurnD (tbD m') && (!decide (n = 0) && deq (turT A B' C (tbD m')) (wfT (.str (ofL l)) n)))) from rfl, e1', e6, Bool.true_and, Bool.true_and, turT_tb, wfT_of]
                  simp only [eb] at q0 q
                  clear eb bf ef
                  try walk_at "dy"
                  by_cases n0 : n = 0
                  · rw [decide_eq_true n0] at q
                    simp only [n0, decide_true, if_true]
                    exact q
                  · simp only [decide_eq_false n0, Bool.not_false, Bool.true_and] at q0
                    clear q
                    simp only [n0, decide_false, Bool.false_eq_true, if_false]
                    subst hr
                    obtain ⟨bp, bq, br, bs⟩ := sm_tb.mp ht
                    have bn := sm_int.mp hn
                    walk_at "dy"
                    refine ⟨A, B', C, m', m, rfl, bA, bB, bC, ⟨bp, bq, br, bs⟩, by omega, ?_⟩
                    try walk_at "dy"
                    have nu1 := nuL_two l
                    have nl := nuL_len l
                    have n0' := nuL_ne lne
                    obtain ⟨sA, sB, sC⟩ := fm_sz (c := 2) (fun a ha => ⟨(nu1 a ha).1, by have := nu1 a ha; omega⟩) n0'
                    have up2 : ∀ {x : Int}, x.natAbs ≤ 2 ^ (2 * (nuL l).length + 1) → x.natAbs < 2 ^ 250 := fun h => Nat.lt_of_le_of_lt h (Nat.pow_lt_pow_right (by decide) (by omega))
                    replace sA := up2 sA
                    replace sB := up2 sB
                    replace sC := up2 sC
                    have ln : ∀ {x : Int}, x.natAbs < 2 ^ 250 → n.natAbs.log2 + x.natAbs.log2 < 1000000 := fun h => mulOk 20000 20000 (Nat.lt_of_lt_of_le bn (Nat.pow_le_pow_right (by decide) (by omega))) (Nat.lt_of_lt_of_le h (Nat.pow_le_pow_right (by decide) (by decide))) (by decide) (by decide) (by decide)
                    have eq3 : ∀ a b c : Int, eqOk (tri3 a b c) = true := fun a b c => okD_eqOk (k := 1) (okD_tup (k := 0) fun d hd => by
                        simp only [List.mem_cons, List.not_mem_nil, or_false] at hd
                        rcases hd with rfl | rfl | rfl <;> exact okD_int) (by decide)
                    generalize valF A B' C m'.p m'.r = X1 at *
                    generalize trB A B' C m' = X2 at *
                    generalize valF A B' C m'.q m'.s = X3 at *
                    refine comp_draw ?_
                    walk_at "dy"
                    refine ⟨l, rfl, hab, lne, l60, fun S2 k2 => ?_⟩
                    refine comp_pure (fun d => match d with | .int x => .int (n * x) | _ => .non) [.int (fmA (nuL l)), .int (fmB (nuL l)), .int (fmC (nuL l))] S2 (fun R hR => hR) (fun x hx S' Q' q' => ?_) (by show 3 ≤ _; decide) ?_
                    · simp only [List.mem_cons, List.not_mem_nil, or_false] at hx
                      rcases hx with rfl | rfl | rfl
                      · walk_at "dy"; exact ⟨ln sA, q'⟩
                      · walk_at "dy"; exact ⟨ln sB, q'⟩
                      · walk_at "dy"; exact ⟨ln sC, q'⟩
                    · exact (show (eqOk (tri3 X1 X2 X3) = true ∧ eqOk (tri3 (n * fmA (nuL l)) (n * fmB (nuL l)) (n * fmC (nuL l))) = true) ∧ Q (.bl (deq (tri3 X1 X2 X3) (tri3 (n * fmA (nuL l)) (n * fmB (nuL l)) (n * fmC (nuL l))))) S2 from ⟨⟨eq3 _ _ _, eq3 _ _ _⟩, q0 S2 k2⟩)
        · rw [if_pos e3]
          have e : belowF A B' C (.tup ps) = false := by
            unfold belowF
            split
            · rename_i h
              injection h with h
              subst h
              exact absurd rfl e3
            · rfl
          rw [e] at q
          exact q
      | _ => first | exact absurd (show false = true from hp) Bool.false_ne_true | (try walk_at "dy"; exact q)

theorem pure_law_looked_right : ∀ ds S Q Ed, sp_law_looked_right ds S Q Ed → t_law_looked_right Ed { nx := fun _ S' => Q .non S', rt := Q } (startD N_law_looked_right ds) S := by
  rintro ds S Q Ed ⟨c, p, m, k, B, rfl, tc, tp, m1, hm, hk, hB, cl, q⟩
  rw [st_law_looked_right]
  unfold t_law_looked_right
  refine seq_step fun r hr => ?_
  walk_at "dy"
  refine x_repr_tm tc (by omega) hk hB ?_
  try walk_at "dy"
  refine x_repr_tm tp (by omega) hk hB ?_
  try walk_at "dy"
  subst hr
  refine seq_step fun r hr => ?_
  walk_at "dy"
  refine ⟨c, p, m, k, B, rfl, tc, tp, m1, hm, hB, cl, fun S1 k1 => ?_⟩
  try walk_at "dy"
  subst hr
  refine seq_step fun r hr => ?_
  walk_at "dy"
  refine ⟨c, p, m, k, B, rfl, tc, tp, m1, hm, hB, fun S2 k2 => ?_⟩
  try walk_at "dy"
  try rw [if_neg (by simp)]
  refine ⟨c, p, m, k, B, rfl, tc, tp, m1, hm, hB, cl, fun S3 k3 => ?_⟩
  try walk_at "dy"
  try rw [if_neg (by simp)]
  subst hr
  walk_at "dy"
  refine x_repr_tm tc (by omega) hk hB ?_
  try walk_at "dy"
  refine x_repr_tm tp (by omega) hk hB ?_
  try walk_at "dy"
  refine x_eq_self (okD_eqOk (k := 1) (okD_tup (k := 0) fun d hd => ?_) (by decide)) (q S3 fun a o h => k3 a o (k2 a o (k1 a o h)))
  simp only [List.mem_cons, List.not_mem_nil, or_false] at hd
  rcases hd with rfl | rfl
  · exact okD_str (tm_shown tc.t)
  · exact okD_str (tm_shown tp.t)

theorem pure_law_all_looked_right : ∀ ds S Q Ed, sp_law_all_looked_right ds S Q Ed → t_law_all_looked_right Ed { nx := fun _ S' => Q .non S', rt := Q } (startD N_law_all_looked_right ds) S := by
  rintro ds S Q Ed ⟨u, c, p, m, k, B, U, rfl, hU, hb, tc, tp, m1, hm, hk, hB, c0, c1, c2, c3, c4, q⟩
  rw [st_law_all_looked_right]
  unfold t_law_all_looked_right
  refine seq_step fun r hr => ?_
  walk_at "dy"
  refine ⟨by decide, ?_⟩
  refine loop_rng (fun i σ S' => (∃ a b d e, σ = [some (.obj u), some c, some p, a, b, d, e]) ∧ Urn S' u (U + 60 * i) ∧ ∀ a o, a ≠ u → S a = some o → S' a = some o) ⟨⟨_, _, _, _, rfl⟩, hU.mono (by omega), fun _ _ _ h => h⟩ ?_ ?_
  · rintro i σ S1 N hi ⟨⟨a, b, d, e, rfl⟩, hU1, k1⟩ kk
    have hi3 : i < 3 := hi
    show dSeq (dSet 4 _) _ _ [some (.obj u), some c, some p, some (.int (0 + (i : Int))), b, d, e] S1
    refine seq_step fun r2 hr2 => ?_
    walk_at "dy"
    have := tc.dp
    have := tp.dp
    refine ⟨u, c, m, k, B, _, rfl, hU1, by omega, tc, by omega, hB, by omega, fun c' S2 hc' hU2 ho2 => ?_⟩
    refine ⟨u, p, m, k, B, _, rfl, hU2, by omega, tp, by omega, hB, by omega, fun p' S3 hp' hU3 ho3 => ?_⟩
    try walk_at "dy"
    subst hr2
    have Tc := tc.wide (show m ≤ m + 1 by omega) (show k ≤ k + 2 by omega) (show B ≤ 2 * B + 20000 by omega)
    have Tp := tp.wide (show m ≤ m + 1 by omega) (show k ≤ k + 2 by omega) (show B ≤ 2 * B + 20000 by omega)
    have Tc' := hc'.Tm tc m1 (by omega) hB
    have Tp' := hp'.Tm tp m1 (by omega) hB
    have l2 : ∀ a b : D, [a, b].length ≤ 16777216 := fun _ _ => by show 2 ≤ 16777216; decide
    refine for_lst_gB (cons_go (tup_go (cons_go (var_go rfl (cons_go (var_go rfl (nil_go ⟨l2 _ _, ?_⟩)))))))
    refine cons_go (tup_go (cons_go (op_go (var_go rfl (c_go (ix0_gB (cons_go (var_go rfl (nil_go ⟨l2 _ _, ?_⟩)))))))))
    refine cons_go (tup_go (cons_go (var_go rfl (cons_go (op_go (var_go rfl (c_go (ix1_gB (nil_go ⟨l2 _ _, ?_⟩)))))))))
    refine cons_go (var_go rfl (cons_go (tup_go (cons_go (var_go rfl (cons_go (var_go rfl (nil_go ⟨l2 _ _, nil_go ⟨by show 5 ≤ 16777216; decide, ?_⟩⟩))))))))
    have all : ∀ y ∈ [D.tup [c, p], D.tup [c', p], D.tup [c, p'], D.tup [c', p'], D.tup [p, c]], ∃ a b, y = .tup [a, b] ∧ Tm (m + 1) (k + 2) (2 * B + 20000) a ∧ Tm (m + 1) (k + 2) (2 * B + 20000) b ∧ clean a b := fun y hy => by
      simp only [List.mem_cons, List.not_mem_nil, or_false] at hy
      rcases hy with rfl | rfl | rfl | rfl | rfl
      · exact ⟨_, _, rfl, Tc, Tp, c0⟩
      · exact ⟨_, _, rfl, Tc', Tp, c2 _ hc'⟩
      · exact ⟨_, _, rfl, Tc, Tp', c3 _ hp'⟩
      · exact ⟨_, _, rfl, Tc', Tp', c4 _ _ hc' hp'⟩
      · exact ⟨_, _, rfl, Tp, Tc, c1⟩
    generalize [D.tup [c, p], D.tup [c', p], D.tup [c, p'], D.tup [c', p'], D.tup [p, c]] = ys at *
    refine loop_all (fun _ σ S4 => (∃ d e, σ = [some (.obj u), some c, some p, some (.int (0 + (i : Int))), some (.tup [c', p']), d, e]) ∧ ∀ a o, S3 a = some o → S4 a = some o) ⟨⟨_, _, rfl⟩, fun _ _ h => h⟩ ?_ ?_
    · rintro pre y rr σ S4 N4 ex ⟨⟨d, e, rfl⟩, k4⟩ kn
      obtain ⟨x, y', rfl, tx, ty, cxy⟩ := all y (by rw [ex]; simp)
      walk_at "dy"
      have := tx.dp
      have := ty.dp
      refine ⟨x, m + 1, k + 2, _, rfl, tx, by omega, by omega, ?_⟩
      refine ⟨y', m + 1, k + 2, _, rfl, ty, by omega, by omega, ?_⟩
      refine ⟨x, y', m + 1, k + 2, _, rfl, tx, ty, by omega, by omega, by omega, by omega, cxy, fun S5 k5 => ?_⟩
      try walk_at "dy"
      exact kn _ _ ⟨⟨_, _, rfl⟩, fun a o h => k5 a o (k4 a o h)⟩
    · rintro σ S4 ⟨⟨d, e, rfl⟩, k4⟩
      have hU4 := Urn.kept hU3 k4
      exact kk _ _ ⟨⟨_, _, _, _, rfl⟩, Urn.mono hU4 (by omega), fun a o ha h => k4 a o (by rw [ho3 a ha, ho2 a ha]; exact k1 a o ha h)⟩
  · intro σ S1 h
    obtain ⟨⟨a, b, d, e, rfl⟩, hU1, k1⟩ := h
    subst hr
    walk_at "dy"
    exact q _ k1 (hU1.mono (by show U + 60 * ((3 : Nat) : Int) ≤ U + 200; omega))

theorem pure_law_turning : ∀ ds S Q Ed, sp_law_turning ds S Q Ed → t_law_turning Ed { nx := fun _ S' => Q .non S', rt := Q } (startD N_law_turning ds) S := by
  rintro ds S Q Ed ⟨u, B, rfl, hU, hB, q⟩
  rw [st_law_turning]
  unfold t_law_turning
  refine seq_step fun r hr => ?_
  walk_at "dy"
  subst hr
  refine seq_step fun r hr => ?_
  walk_at "dy"
  refine ⟨u, _, _, rfl, hU, by omega, by decide, by decide, fun n S1 n0 n13 hU1 ho1 => ?_⟩
  try walk_at "dy"
  refine ⟨by omega, ?_⟩
  refine loop_rng (fun i σ S' => (∃ (p q r s : Int) (a b c : Option D), σ = [some (.obj u), some (.int p), some (.int q), some (.int r), some (.int s), a, b, c, none] ∧ p.natAbs ≤ 2 ^ i ∧ q.natAbs ≤ 2 ^ i ∧ r.natAbs ≤ 2 ^ i ∧ s.natAbs ≤ 2 ^ i) ∧ Urn S' u (B + 1 + i) ∧ Oth S S' u) ⟨⟨1, 0, 0, 1, _, _, _, rfl, by decide, by decide, by decide, by decide⟩, hU1.mono (by omega), ho1⟩ ?_ ?_
  · rintro i σ S2 N hi ⟨⟨p, q', r', s, a, b, c, rfl, h1, h2, h3, h4⟩, hU2, ho2⟩ k
    have hi3 : (i : Int) < 13 := by omega
    have e2 : (2 : Nat) ^ (i + 1) = 2 * 2 ^ i := by rw [Nat.pow_succ, Nat.mul_comm]
    refine (show dSeq (dSet 6 _) _ _ [some (.obj u), some (.int p), some (.int q'), some (.int r'), some (.int s), some (.int (0 + (i : Int))), b, c, none] S2 from ?_)
    refine seq_step fun r2 hr2 => ?_
    walk_at "dy"
    refine ⟨u, _, _, rfl, hU2, by omega, by decide, by decide, fun j S3 j0 j4 hU3 ho3 => ?_⟩
    try walk_at "dy"
    subst hr2
    refine seq_step fun r2 hr2 => ?_
    walk_at "dy"
    subst hr2
    refine seq_step fun r2 hr2 => ?_
    walk_at "dy"
    subst hr2
    simp only [List.cons_append, List.nil_append]
    have hU4 : Urn S3 u (B + 1 + ((i + 1 : Nat) : Int)) := hU3.mono (by omega)
    have ho4 : Oth S S3 u := fun a ha => (ho3 a ha).trans (ho2 a ha)
    rcases (show j = 0 ∨ j = 1 ∨ j = 2 ∨ j = 3 by omega) with rfl | rfl | rfl | rfl
    · walk_at "dy"
      exact k _ _ ⟨⟨_, _, _, _, _, _, _, rfl, by omega, by omega, by omega, by omega⟩, hU4, ho4⟩
    · walk_at "dy"
      exact k _ _ ⟨⟨_, _, _, _, _, _, _, rfl, by omega, by omega, by omega, by omega⟩, hU4, ho4⟩
    · walk_at "dy"
      exact k _ _ ⟨⟨_, _, _, _, _, _, _, rfl, by omega, by omega, by omega, by omega⟩, hU4, ho4⟩
    · walk_at "dy"
      exact k _ _ ⟨⟨_, _, _, _, _, _, _, rfl, by omega, by omega, by omega, by omega⟩, hU4, ho4⟩
  · rintro σ S2 ⟨⟨p, q', r', s, a, b, c, rfl, h1, h2, h3, h4⟩, hU2, ho2⟩
    have hp : (2 : Nat) ^ n.toNat ≤ 2 ^ 12 := Nat.pow_le_pow_right (by decide) (by omega)
    have hp2 : (2 : Nat) ^ 12 < 2 ^ 13 := by decide
    generalize (2 : Nat) ^ n.toNat = X at *
    have b1 : p.natAbs < 2 ^ 13 := by omega
    have b2 : q'.natAbs < 2 ^ 13 := by omega
    have b3 : r'.natAbs < 2 ^ 13 := by omega
    have b4 : s.natAbs < 2 ^ 13 := by omega
    have mk : ∀ {x y : Int} {i j : Nat}, x.natAbs < 2 ^ i → y.natAbs < 2 ^ j → i ≤ 20000 → j ≤ 20000 → x.natAbs.log2 + y.natAbs.log2 < 1000000 := fun h k hi hj => mulOk 20000 20000 (Nat.lt_of_lt_of_le h (Nat.pow_le_pow_right (by decide) hi)) (Nat.lt_of_lt_of_le k (Nat.pow_le_pow_right (by decide) hj)) (by decide) (by decide) (by decide)
    have z1 := wide_lt b1 b4
    have z2 := wide_lt b2 b3
    have bz : (p * s - q' * r').natAbs < 2 ^ 27 := by
      have : (2 : Nat) ^ 27 = 2 * 2 ^ (13 + 13) := by decide
      omega
    subst hr
    dsimp only
    refine seq_step fun r hr => ?_
    walk_at "dy"
    refine ⟨mk b1 b4 (by decide) (by decide), mk b2 b3 (by decide) (by decide), ?_⟩
    generalize p * s - q' * r' = z at *
    subst hr
    walk_at "dy"
    refine ⟨mk b4 bz (by decide) (by decide), mk b2 bz (by decide) (by decide), mk b3 bz (by decide) (by decide), mk b1 bz (by decide) (by decide), ?_⟩
    have up : ∀ {x : Int}, x.natAbs < 2 ^ 13 → x.natAbs < 2 ^ 40 := fun h => Nat.lt_of_lt_of_le h (by decide)
    have w1 := wide_lt b4 bz
    have w2 := wide_lt b2 bz
    have w3 := wide_lt b3 bz
    have w4 := wide_lt b1 bz
    exact q ⟨p, q', r', s⟩ ⟨s * z, 0 - q' * z, 0 - r' * z, p * z⟩ S2 ⟨up b1, up b2, up b3, up b4⟩ ⟨w1, by show (0 - q' * z).natAbs < _; rw [show (0 - q' * z).natAbs = (q' * z).natAbs by omega]; exact w2, by show (0 - r' * z).natAbs < _; rw [show (0 - r' * z).natAbs = (r' * z).natAbs by omega]; exact w3, w4⟩ (hU2.mono (by omega)) ho2

theorem len_law : ∀ ds S Q E, spLawD ds S Q E → ds.length = 1 := fun _ _ _ _ ⟨_, e, _⟩ => by rw [e]; rfl
def fbL : List Nat := [102, 111, 114, 109, 32, 98, 101, 108, 111, 119]
def faL : List Nat := [102, 111, 114, 109, 32, 97, 98, 111, 118, 101]
theorem fb_eq : (Str.ofString "form below") = ofL fbL := by decide +kernel
theorem fa_eq : (Str.ofString "form above") = ofL faL := by decide +kernel
theorem fo_names {L : List Nat} (h : L = fbL ∨ L = faL) : L.length = 10 ∧ ofL L ≠ "even" ∧ ofL L ≠ "uneven" ∧ ofL L ≠ "below" ∧ ofL L ≠ "above" ∧ ofL L ≠ "same" ∧ ofL L ≠ "triple" := by
  rcases h with rfl | rfl
  · refine ⟨rfl, ?_⟩
    rw [← fb_eq]; decide +kernel
  · refine ⟨rfl, ?_⟩
    rw [← fa_eq]; decide +kernel
/-- a bent text -/
theorem bent_str {d d' : D} (h : Bent d d') : ∀ l : List Nat, l ≠ [] → d = .str (ofL l) → ∀ z : Str, d' = .str z → d' ∈ cons10 ∨ ∃ k, k < l.length ∧ (z = ofL (l.take k ++ l.drop (k + 1)) ∨ z = ofL (l.take (k + 1) ++ l.drop k) ∨ ∃ c, c ∈ [97, 98, 99, 108, 114] ∧ z = ofL (l.take k ++ [c] ++ l.drop (k + 1))) := by
  cases h with
  | c0 _ _ h => exact fun _ _ _ _ _ => .inl h
  | wh i x h => exact fun _ _ e => nomatch e
  | no _ _ hd h =>
    intro l hl e z _
    subst e
    have := of_decide_eq_true (show decide ((ofL l).length = 0) = true from hd)
    rw [ofL_len] at this
    exact absurd (List.length_eq_zero_iff.mp this) hl
  | cutS l' k hk =>
    intro l hl e z ez
    obtain rfl := ofL_inj.mp (by injection e)
    exact .inr ⟨k, hk, .inl (by injection ez with ez; exact ez.symm)⟩
  | twS l' k hk =>
    intro l hl e z ez
    obtain rfl := ofL_inj.mp (by injection e)
    exact .inr ⟨k, hk, .inr (.inl (by injection ez with ez; exact ez.symm))⟩
  | sg l' k c hk hc =>
    intro l hl e z ez
    obtain rfl := ofL_inj.mp (by injection e)
    exact .inr ⟨k, hk, .inr (.inr ⟨c, hc, by injection ez with ez; exact ez.symm⟩)⟩
  | cutT _ _ _ => exact fun _ _ e => nomatch e
  | cutL _ _ _ => exact fun _ _ e => nomatch e
  | twT _ _ _ => exact fun _ _ e => nomatch e
  | twL _ _ _ => exact fun _ _ e => nomatch e
  | flT _ => exact fun _ _ e => nomatch e
  | flL _ => exact fun _ _ e => nomatch e
  | inT _ _ _ _ _ _ => exact fun _ _ e => nomatch e
  | inL _ _ _ _ _ _ => exact fun _ _ e => nomatch e
theorem tr_eq : (Str.ofString "triple") = ofL [116, 114, 105, 112, 108, 101] := by decide +kernel
theorem bent_name {L : List Nat} (hL : L.length = 10) {z : Str} (h : Bent (.str (ofL L)) (.str z)) : z ≠ "triple" := by
  rcases bent_str h L (fun e => by rw [e] at hL; cases hL) rfl z rfl with h | ⟨k, hk, h⟩
  · have : ∀ x ∈ cons10, x ≠ .str "triple" := by
      intro x hx
      simp only [cons10, List.mem_cons, List.not_mem_nil, or_false] at hx
      have n : ∀ {a b : String}, (Str.ofString a) ≠ (Str.ofString b) → D.str (Str.ofString a) ≠ D.str (Str.ofString b) := fun h e => h (by injection e)
      rcases hx with rfl | rfl | rfl | rfl | rfl | rfl | rfl | rfl | rfl | rfl
      all_goals first
        | exact (fun h => nomatch h)
        | exact n (by decide +kernel)
    exact fun e => this _ h (by rw [e])
  · rw [tr_eq]
    have ln : ∀ l : List Nat, 9 ≤ l.length → ofL l ≠ ofL [116, 114, 105, 112, 108, 101] := fun l hl e => by
      have := congrArg List.length (ofL_inj.mp e)
      simp only [List.length_cons, List.length_nil] at this
      omega
    rcases h with rfl | rfl | ⟨c, hc, rfl⟩
    · exact ln _ (by rw [List.length_append, List.length_take, List.length_drop]; omega)
    · exact ln _ (by rw [List.length_append, List.length_take, List.length_drop]; omega)
    · exact ln _ (by rw [List.length_append, List.length_append, List.length_take, List.length_drop, List.length_singleton]; omega)
theorem clean_bent {L : List Nat} (hL : L = fbL ∨ L = faL) {a b c : Int} {p : D} {c' : D} (h : Bent (.tup [.str (ofL L), .int a, .int b, .int c]) c') : clean c' p := by
  obtain ⟨l10, n1, n2, n3, n4, n5, n6⟩ := fo_names hL
  generalize hd : D.tup [.str (ofL L), .int a, .int b, .int c] = d at h
  have own : ∀ r : List D, clean (.tup (.str (ofL L) :: r)) p := fun r => ⟨fun _ => ⟨n1, n2, n3, n4⟩, fun _ => n5, fun _ => n6⟩
  cases h with
  | c0 _ _ h =>
    simp only [cons10, List.mem_cons, List.not_mem_nil, or_false] at h
    rcases h with rfl | rfl | rfl | rfl | rfl | rfl | rfl | rfl | rfl | rfl <;> exact True.intro
  | wh i x h => cases hd
  | no _ _ h0 h => subst hd; cases h0
  | cutT xs k hk =>
    obtain rfl : [.str (ofL L), .int a, .int b, .int c] = xs := by injection hd
    have hk2 : k < 4 := hk
    rcases (show k = 0 ∨ k = 1 ∨ k = 2 ∨ k = 3 by omega) with rfl | rfl | rfl | rfl
    · exact True.intro
    · exact own [.int b, .int c]
    · exact own [.int a, .int c]
    · exact own [.int a, .int b]
  | twT xs k hk =>
    obtain rfl : [.str (ofL L), .int a, .int b, .int c] = xs := by injection hd
    have hk2 : k < 4 := hk
    rcases (show k = 0 ∨ k = 1 ∨ k = 2 ∨ k = 3 by omega) with rfl | rfl | rfl | rfl
    · exact own [.str (ofL L), .int a, .int b, .int c]
    · exact own [.int a, .int a, .int b, .int c]
    · exact own [.int a, .int b, .int b, .int c]
    · exact own [.int a, .int b, .int c, .int c]
  | flT xs => exact True.intro
  | inT xs k e e' hk h =>
    obtain rfl : [.str (ofL L), .int a, .int b, .int c] = xs := by injection hd
    match k, hk with
    | 0, hk =>
      obtain rfl : D.str (ofL L) = e := Option.some.inj hk
      cases e' with
      | str z => exact ⟨(fun h => nomatch h), (fun h => nomatch h), fun _ => bent_name l10 h⟩
      | _ => exact True.intro
    | 1, hk => exact own [e', .int b, .int c]
    | 2, hk => exact own [.int a, e', .int c]
    | 3, hk => exact own [.int a, .int b, e']
  | cutL _ _ _ => exact nomatch hd
  | twL _ _ _ => exact nomatch hd
  | cutS _ _ _ => exact nomatch hd
  | twS _ _ _ => exact nomatch hd
  | sg _ _ _ _ _ => exact nomatch hd
  | flL _ => exact nomatch hd
  | inL _ _ _ _ _ _ => exact nomatch hd
structure Say (d : D) : Prop where
  t : Tm 400 3 20000 d
  c : ∀ p, clean d p
  b : ∀ c' p, Bent d c' → clean c' p
theorem say_of {L : List Nat} (hL : L = fbL ∨ L = faL) {a b c : Int} (ha : a.natAbs < 2 ^ 400) (hb : b.natAbs < 2 ^ 400) (hc : c.natAbs < 2 ^ 400) : Say (.tup [.str (ofL L), .int a, .int b, .int c]) := by
  obtain ⟨l10, n1, n2, n3, n4, n5, n6⟩ := fo_names hL
  refine ⟨⟨tmT_iff.mpr fun d hd => ?_, ?_, ?_⟩, fun p => ⟨(fun h => nomatch h), (fun h => nomatch h), fun _ => n6⟩, fun c' p h => clean_bent hL h⟩
  · simp only [List.mem_cons, List.not_mem_nil, or_false] at hd
    rcases hd with rfl | rfl | rfl | rfl
    · exact tm_strL.mpr (by rcases hL with rfl | rfl <;> exact ⟨by decide, by decide⟩)
    · exact tm_int.mpr ha
    · exact tm_int.mpr hb
    · exact tm_int.mpr hc
  · show max 0 (max 0 (max 0 (max 0 0))) + 1 ≤ 3; decide
  · show shL (.str (ofL L)) + 2 + (1921 + 2 + (1921 + 2 + (1921 + 2 + 0))) + 3 ≤ 20000
    show 10 * (ofL L).length + 2 + 2 + (1921 + 2 + (1921 + 2 + (1921 + 2 + 0))) + 3 ≤ 20000
    rw [ofL_len, l10]
    decide
theorem same_eq : (Str.ofString "same") = ofL [115, 97, 109, 101] := by decide +kernel
theorem pap_of {l : List Nat} {m : M2} {n : Int} (hab : isAB l = true) (ll : l.length ≤ 120) (hm : SzM m 400) (hn : n.natAbs < 2 ^ 400) : Tm 400 3 20000 (.tup [.str (ofL l), tbD m, .int n]) ∧ ∀ p, clean (.tup [.str (ofL l), tbD m, .int n]) p := by
  obtain ⟨b1, b2, b3, b4⟩ := hm
  refine ⟨⟨tmT_iff.mpr fun d hd => ?_, ?_, ?_⟩, fun p => ⟨(fun h => nomatch h), fun _ e => ?_, fun h => nomatch h⟩⟩
  · simp only [List.mem_cons, List.not_mem_nil, or_false] at hd
    rcases hd with rfl | rfl | rfl
    · exact tm_strL.mpr ⟨by omega, fun c hc => by have := isAB_iff.mp hab c hc; omega⟩
    · refine tmT_iff.mpr fun d hd => ?_
      simp only [List.mem_cons, List.not_mem_nil, or_false] at hd
      rcases hd with rfl | rfl
      · refine tmT_iff.mpr fun d hd => ?_
        simp only [List.mem_cons, List.not_mem_nil, or_false] at hd
        rcases hd with rfl | rfl
        · exact tm_int.mpr b1
        · exact tm_int.mpr b2
      · refine tmT_iff.mpr fun d hd => ?_
        simp only [List.mem_cons, List.not_mem_nil, or_false] at hd
        rcases hd with rfl | rfl
        · exact tm_int.mpr b3
        · exact tm_int.mpr b4
    · exact tm_int.mpr hn
  · show max 0 (max (max (max 0 (max 0 0) + 1) (max (max 0 (max 0 0) + 1) 0) + 1) (max 0 0)) + 1 ≤ 3
    decide
  · show 10 * (ofL l).length + 2 + 2 + (7705 + 2 + (1921 + 2 + 0)) + 3 ≤ 20000
    rw [ofL_len]
    omega
  · rw [same_eq] at e
    obtain rfl := ofL_inj.mp e
    exact absurd hab (by decide)
theorem spot_of {x y : Int} (hx : x.natAbs < 2 ^ 400) (hy : y.natAbs < 2 ^ 400) : Tm 400 3 20000 (.tup [.int x, .int y]) := by
  refine ⟨tmT_iff.mpr fun d hd => ?_, ?_, ?_⟩
  · simp only [List.mem_cons, List.not_mem_nil, or_false] at hd
    rcases hd with rfl | rfl
    · exact tm_int.mpr hx
    · exact tm_int.mpr hy
  · show max 0 (max 0 0) + 1 ≤ 3; decide
  · show 1921 + 2 + (1921 + 2 + 0) + 3 ≤ 20000; decide
theorem no_turn (A B C : Int) (w : D) (n : Int) {t : D} (h : isTurnD t = false) : evB (.tup [.str "form below", .int A, .int B, .int C]) (.tup [w, t, .int n]) = false := by
  rw [ev_below]
  show (okF A B C && (isStepD w && (isTurnD t && _))) = false
  rw [h, Bool.false_and, Bool.and_false, Bool.and_false]
theorem pure_law : ∀ ds S Q Ed, spLawD ds S Q Ed → t_law Ed { nx := fun _ S' => Q .non S', rt := Q } (startD N_law ds) S := by
  rintro ds S Q Ed ⟨ns, rfl, hns, q⟩
  rw [st_law]
  unfold t_law
  refine seq_cut (fun σ S' => True) (fun N hN => ?_) (fun σ S' h => ?_)
  rotate_left
  · have b1 : (1 : Int).natAbs < 2 ^ 400 := Nat.lt_of_lt_of_le (by decide : _ < 2 ^ 3) (Nat.pow_le_pow_right (by decide) (by decide))
    have b2 : (-2 : Int).natAbs < 2 ^ 400 := Nat.lt_of_lt_of_le (by decide : _ < 2 ^ 3) (Nat.pow_le_pow_right (by decide) (by decide))
    have b4 : (-4 : Int).natAbs < 2 ^ 400 := Nat.lt_of_lt_of_le (by decide : _ < 2 ^ 3) (Nat.pow_le_pow_right (by decide) (by decide))
    have c4 : (4 : Int).natAbs < 2 ^ 400 := Nat.lt_of_lt_of_le (by decide : _ < 2 ^ 3) (Nat.pow_le_pow_right (by decide) (by decide))
    have c0 : (0 : Int).natAbs < 2 ^ 400 := Nat.lt_of_lt_of_le (by decide : _ < 2 ^ 3) (Nat.pow_le_pow_right (by decide) (by decide))
    have c2 : (2 : Int).natAbs < 2 ^ 400 := Nat.lt_of_lt_of_le (by decide : _ < 2 ^ 3) (Nat.pow_le_pow_right (by decide) (by decide))
    have sA := say_of (L := fbL) (.inl rfl) b1 b2 b4
    have sB := say_of (L := fbL) (.inl rfl) b1 b4 b4
    have pA := pap_of (l := [97]) (m := ⟨2, 0, 0, 1⟩) (n := 4) rfl (by decide) ⟨c2, c0, c0, b1⟩ c4
    have pB := pap_of (l := [98]) (m := ⟨2, 0, 0, 1⟩) (n := 4) rfl (by decide) ⟨c2, c0, c0, b1⟩ c4
    have ea : (Str.ofString "a") = ofL [97] := by decide +kernel
    have eb : (Str.ofString "b") = ofL [98] := by decide +kernel
    refine seq_step fun r hr => ?_
    walk_at "dy"
    rw [← fb_eq] at sA sB
    rw [← ea] at pA
    rw [← eb] at pB
    refine ⟨_, _, 400, 3, 20000, rfl, sA.t, pA.1, by decide, by decide, by decide, sA.c _, fun S1 k1 => ?_⟩
    rw [show D.tup [.tup [.int 2, .int 0], .tup [.int 0, .int 1]] = tbD ⟨2, 0, 0, 1⟩ from rfl, no_turn _ _ _ _ _ (show isTurnD (tbD ⟨2, 0, 0, 1⟩) = false by decide)]
    try walk_at "dy"
    subst hr
    walk_at "dy"
    refine ⟨_, _, 400, 3, 20000, rfl, sB.t, pB.1, by decide, by decide, by decide, sB.c _, fun S2 k2 => ?_⟩
    rw [show D.tup [.tup [.int 2, .int 0], .tup [.int 0, .int 1]] = tbD ⟨2, 0, 0, 1⟩ from rfl, no_turn _ _ _ _ _ (show isTurnD (tbD ⟨2, 0, 0, 1⟩) = false by decide)]
    try walk_at "dy"
    exact q _
  walk_at "dy"
  have hlen : (List.map D.int ns).length = ns.length := List.length_map _
  refine ⟨by rw [hlen]; constructor <;> (split <;> (try split) <;> omega), ?_⟩
  refine loop_rng (fun i σ S' => (∃ a b c d e f g h j k l m n o p q, σ = [some (.lst (ns.map D.int)), a, b, c, d, e, f, g, h, j, k, l, m, n, o, p, q])) ⟨none, none, none, none, none, none, none, none, none, none, none, none, none, none, none, none, rfl⟩ ?_ (fun σ S' _ => hN σ S' trivial)
  rintro i σ S' N' hi ⟨a, b, c, d, e, f, g, h, j, kz, l, m, n, o, p, qz, rfl⟩ k
  have hl4 : (0 : Int) + i < 4 := by
    rw [hlen] at hi
    split at hi <;> (try split at hi) <;> omega
  show dSeq (dSet 2 _) _ _ [some (.lst (ns.map D.int)), some (.int (0 + i)), b, c, d, e, f, g, h, j, kz, l, m, n, o, p, qz] S'
  refine seq_step fun r hr => ?_
  walk_at "dy"
  refine ⟨ns, _, rfl, by omega, by omega, fun u S1 hu0 hU1 ho1 => ?_⟩
  try walk_at "dy"
  subst hr
  refine seq_step fun r hr => ?_
  walk_at "dy"
  refine ⟨u, _, _, rfl, hU1, by decide, by decide, by decide, fun j1 S2 j0 j4 hU2 ho2 => ?_⟩
  obtain ⟨most, em, hm⟩ := at_nat (ns := [10, 10, 20, 60]) j0 j4
  have em : atI [D.int 10, .int 10, .int 20, .int 60] j1 = some (.int (most : Nat)) := em
  have hm : 1 ≤ most ∧ most ≤ 60 := by
    simp only [List.mem_cons, List.not_mem_nil, or_false] at hm
    omega
  try walk_at "dy"
  rw [em]
  try walk_at "dy"
  refine ⟨u, _, most, rfl, hU2, by decide, by omega, by omega, fun nb na S3 l1 l2 _ hU3 ho3 => ?_⟩
  try walk_at "dy"
  subst hr
  refine seq_step fun r hr => ?_
  walk_at "dy"
  refine ⟨nb, na, rfl, by omega, ?_⟩
  have hab := evF_ab nb (nb + na)
  have ll := evF_len nb (nb + na)
  generalize evF nb (nb + na) = l at *
  have lne : l ≠ [] := fun e => by rw [e] at ll; simp at ll; omega
  try walk_at "dy"
  subst hr
  refine seq_step fun r hr => ?_
  walk_at "dy"
  refine ⟨u, _, rfl, hU3, by decide, fun m m' S4 hm1 hm2 hU4 ho4 => ?_⟩
  try walk_at "dy"
  subst hr
  refine seq_step fun r hr => ?_
  walk_at "dy"
  refine ⟨u, _, _, rfl, hU4, by decide, by decide, by decide, fun x S5 x0 x9 hU5 ho5 => ?_⟩
  try walk_at "dy"
  refine ⟨u, _, _, rfl, hU5, by decide, by decide, by decide, fun y S6 y0 y9 hU6 ho6 => ?_⟩
  try walk_at "dy"
  refine ⟨u, _, _, rfl, hU6, by decide, by decide, by decide, fun z S7 z0 z2 hU7 ho7 => ?_⟩
  have pick : ∃ t : Int, atI [D.int (x + 1), .int (0 - y - 1)] z = some (.int t) ∧ t.natAbs ≤ 9 := by
    rcases (show z = 0 ∨ z = 1 by omega) with rfl | rfl
    · exact ⟨_, atI_0, by omega⟩
    · exact ⟨_, atI_1, by omega⟩
  obtain ⟨t, et, ht⟩ := pick
  try walk_at "dy"
  rw [et]
  unfold ixQ
  dsimp only
  have bt : t.natAbs < 2 ^ 4 := by omega
  have nu1 := nuL_two l
  have nl := nuL_len l
  have n0' := nuL_ne lne
  obtain ⟨sA, sB, sC⟩ := fm_sz (c := 2) (fun a ha => ⟨(nu1 a ha).1, by have := nu1 a ha; omega⟩) n0'
  have up2 : ∀ {x : Int}, x.natAbs ≤ 2 ^ (2 * (nuL l).length + 1) → x.natAbs < 2 ^ 250 := fun h => Nat.lt_of_le_of_lt h (Nat.pow_lt_pow_right (by decide) (by omega))
  replace sA := up2 sA
  replace sB := up2 sB
  replace sC := up2 sC
  have ln : ∀ {x : Int}, x.natAbs < 2 ^ 250 → t.natAbs.log2 + x.natAbs.log2 < 1000000 := fun h => mulOk 4 250 bt h (by decide) (by decide) (by decide)
  have w1 := wide_lt bt sA
  have w2 := wide_lt bt sB
  have w3 := wide_lt bt sC
  have up4 : ∀ {x : Int} {i : Nat}, x.natAbs < 2 ^ i → i ≤ 400 → x.natAbs < 2 ^ 400 := fun h k => Nat.lt_of_lt_of_le h (Nat.pow_le_pow_right (by decide) k)
  have up3 : ∀ {x : Int} {i : Nat}, x.natAbs < 2 ^ i → i ≤ 300 → x.natAbs < 2 ^ 300 := fun h k => Nat.lt_of_lt_of_le h (Nat.pow_le_pow_right (by decide) k)
  subst hr
  refine seq_step fun r hr => ?_
  walk_at "dy"
  refine comp_draw ?_
  walk_at "dy"
  refine ⟨l, rfl, hab, lne, by omega, fun S8 k8 => ?_⟩
  refine comp_pure (fun d => match d with | .int x => .int (t * x) | _ => .non) [.int (fmA (nuL l)), .int (fmB (nuL l)), .int (fmC (nuL l))] S8 (fun R hR => hR) (fun x hx S' Q' q' => ?_) (by show 3 ≤ _; decide) ?_
  · simp only [List.mem_cons, List.not_mem_nil, or_false] at hx
    rcases hx with rfl | rfl | rfl
    · walk_at "dy"; exact ⟨ln sA, q'⟩
    · walk_at "dy"; exact ⟨ln sB, q'⟩
    · walk_at "dy"; exact ⟨ln sC, q'⟩
  have hU8 := Urn.kept hU7 k8
  simp only [List.map_cons, List.map_nil]
  try walk_at "dy"
  refine ⟨t * fmA (nuL l), t * fmB (nuL l), t * fmC (nuL l), m', 300, rfl, up3 w1 (by decide), up3 w2 (by decide), up3 w3 (by decide), ⟨up3 hm2.1 (by decide), up3 hm2.2.1 (by decide), up3 hm2.2.2.1 (by decide), up3 hm2.2.2.2 (by decide)⟩, by decide, ?_⟩
  have bX := up4 (val_sz w1 w2 w3 hm2.1 hm2.2.2.1) (by decide)
  have bY := up4 (trB_sz w1 w2 w3 hm2) (by decide)
  have bZ := up4 (val_sz w1 w2 w3 hm2.2.1 hm2.2.2.2) (by decide)
  generalize valF (t * fmA (nuL l)) (t * fmB (nuL l)) (t * fmC (nuL l)) m'.p m'.r = X at *
  generalize trB (t * fmA (nuL l)) (t * fmB (nuL l)) (t * fmC (nuL l)) m' = Y at *
  generalize valF (t * fmA (nuL l)) (t * fmB (nuL l)) (t * fmC (nuL l)) m'.q m'.s = Z at *
  try walk_at "dy"
  have sg1 := say_of (L := fbL) (.inl rfl) bX bY bZ
  have pg1 := pap_of (l := l) (m := m) (n := t) hab (by omega) ⟨up4 hm1.1 (by decide), up4 hm1.2.1 (by decide), up4 hm1.2.2.1 (by decide), up4 hm1.2.2.2 (by decide)⟩ (up4 bt (by decide))
  have pg2 := pap_of (l := l ++ l) (m := m) (n := t) (isAB_app hab hab) (by rw [List.length_append]; omega) ⟨up4 hm1.1 (by decide), up4 hm1.2.1 (by decide), up4 hm1.2.2.1 (by decide), up4 hm1.2.2.2 (by decide)⟩ (up4 bt (by decide))
  subst hr
  refine seq_step fun r hr => ?_
  walk_at "dy"
  rw [fb_eq]
  refine ⟨u, _, _, 400, 3, 20000, _, rfl, hU8, by decide, sg1.t, pg1.1, by decide, by decide, by decide, by decide, sg1.c _, pg1.2 _, fun c' h => sg1.b _ _ h, fun p' h => sg1.c _, fun c' p' h _ => sg1.b _ _ h, fun S9 k9 hU9 => ?_⟩
  try walk_at "dy"
  subst hr
  refine seq_step fun r hr => ?_
  walk_at "dy"
  refine ⟨by rw [ofL_len]; omega, ?_⟩
  rw [ofL_app]
  try walk_at "dy"
  rw [fb_eq]
  refine ⟨_, _, 400, 3, 20000, rfl, sg1.t, pg2.1, by decide, by decide, by decide, by decide, sg1.c _, fun S10 k10 => ?_⟩
  have hU10 := Urn.kept hU9 k10
  try walk_at "dy"
  subst hr
  refine seq_step fun r hr => ?_
  walk_at "dy"
  refine comp_draw ?_
  walk_at "dy"
  refine ⟨l, rfl, hab, lne, by omega, fun S11 k11 => ?_⟩
  refine comp_pure (fun d => match d with | .int x => .int (t * x) | _ => .non) [.int (fmA (nuL l)), .int (fmB (nuL l)), .int (fmC (nuL l))] S11 (fun R hR => hR) (fun x hx S' Q' q' => ?_) (by show 3 ≤ _; decide) ?_
  · simp only [List.mem_cons, List.not_mem_nil, or_false] at hx
    rcases hx with rfl | rfl | rfl
    · walk_at "dy"; exact ⟨ln sA, q'⟩
    · walk_at "dy"; exact ⟨ln sB, q'⟩
    · walk_at "dy"; exact ⟨ln sC, q'⟩
  have hU11 := Urn.kept hU10 k11
  simp only [List.map_cons, List.map_nil]
  try walk_at "dy"
  replace w1 := up4 w1 (by decide)
  replace w2 := up4 w2 (by decide)
  replace w3 := up4 w3 (by decide)
  generalize t * fmA (nuL l) = A at *
  generalize t * fmB (nuL l) = B at *
  generalize t * fmC (nuL l) = C at *
  have sg2 := say_of (L := fbL) (.inl rfl) w1 w2 w3
  have sg3 := say_of (L := faL) (.inr rfl) w1 w2 w3
  have s2 : (2 : Int).natAbs < 2 ^ 400 := up4 (i := 4) (by decide) (by decide)
  have s0 : (0 : Int).natAbs < 2 ^ 400 := up4 (i := 4) (by decide) (by decide)
  have pg3 := pap_of (l := l) (m := ⟨2, 0, 0, 2⟩) (n := 4 * t) hab (by omega) ⟨s2, s0, s0, s2⟩ (up4 (i := 8) (by omega) (by decide))
  subst hr
  refine seq_step fun r hr => ?_
  walk_at "dy"
  refine ⟨mulOk 4 4 (by decide) bt (by decide) (by decide) (by decide), ?_⟩
  try walk_at "dy"
  rw [fb_eq]
  refine ⟨_, _, 400, 3, 20000, rfl, sg2.t, pg3.1, by decide, by decide, by decide, by decide, sg2.c _, fun S12 k12 => ?_⟩
  have hU12 := Urn.kept hU11 k12
  try walk_at "dy"
  subst hr
  refine seq_step fun r hr => ?_
  walk_at "dy"
  refine ⟨⟨by decide, by decide⟩, ?_⟩
  rw [show (10 : Int) ^ (6 : Int).toNat = 1000000 by decide]
  refine ⟨u, _, _, rfl, hU12, by decide, by decide, by decide, fun v S13 v0 v3 hU13 ho13 => ?_⟩
  obtain ⟨wide, ew, hw⟩ := at_nat (ns := [5, 30, 1000000]) v0 v3
  have ew : atI [D.int 5, .int 30, .int 1000000] v = some (.int (wide : Nat)) := ew
  have hw : 5 ≤ wide ∧ wide ≤ 1000000 := by
    simp only [List.mem_cons, List.not_mem_nil, or_false] at hw
    omega
  try walk_at "dy"
  rw [ew]
  unfold ixQ
  dsimp only
  obtain ⟨U, hUb, hU13⟩ : ∃ U : Int, U ≤ 100000 ∧ Urn S13 u U := ⟨_, by decide, hU13⟩
  have p100 : (100000 : Int) + 10 ≤ 2 ^ 90 := by decide
  subst hr
  refine seq_step fun r hr => ?_
  refine seq_set ?_
  refine comp_inv (rgD 0 3) S13 (fun p acc S' => ∃ l : List Int, acc = l.map D.int ∧ (∀ a ∈ l, a.natAbs < 2 ^ 400) ∧ Urn S' u (U + acc.length) ∧ ∀ a, a ≠ u → a ≠ p → S' a = S13 a) (fun R hR => ⟨by decide, hR⟩) (fun p hp => ⟨[], rfl, (fun a h => by cases h), (hU13.up (hU13.ne hp)).mono (by show _ ≤ U + ((0 : Nat) : Int); omega), fun a _ ha => upS_ne ha⟩) ?_ (by rw [rgD_len]; decide) ?_
  · rintro p pre x rr acc S4 Q' hp hx hlen ⟨lf, rfl, hl, hU4, ho4⟩ hS4 kk
    have up := hU13.ne hp
    have hb : pre.length < 3 := by
      have := congrArg List.length hx
      rw [rgD_len, List.length_append, List.length_cons] at this
      omega
    rw [List.length_map] at hlen
    rw [List.length_map] at hU4
    walk_at "dy"
    refine ⟨mulOk 2 21 (by decide) (by omega) (by decide) (by decide) (by decide), ?_⟩
    refine ⟨u, _, _, rfl, hU4, by omega, by omega, Int.lt_of_le_of_lt (b := 3000000) (by omega) (by decide), fun v S5 v0 v1 hU5 ho5 => ?_⟩
    try walk_at "dy"
    refine kk _ S5 ((ho5 p (Ne.symm up)).trans hS4) ⟨lf ++ [v - wide], by rw [List.map_append]; rfl, fun a ha => ?_, (hU5.up up).mono ?_, fun a ha hb => ?_⟩
    · rcases List.mem_append.mp ha with ha | ha
      · exact hl a ha
      · rw [List.mem_singleton.mp ha]
        exact up4 (i := 30) (by omega) (by decide)
    · rw [List.length_append, List.length_map, List.length_singleton]
      omega
    · rw [upS_ne hb, ho5 a ha, ho4 a ha hb]
  rintro p acc S14 hp hlen14 ⟨lf, rfl, hlf, hU14, ho14⟩ hS14
  rw [List.length_map, rgD_len] at hlen14
  have hU15 : Urn (Dv.del S14 p) u (U + 3) := (hU14.del (hU13.ne hp)).mono (by rw [List.length_map, hlen14]; omega)
  generalize Dv.del S14 p = S15 at *
  obtain ⟨f0, f1, f2, rfl⟩ : ∃ a b c, lf = [a, b, c] := by
    match lf, hlen14 with
    | [a, b, c], _ => exact ⟨a, b, c, rfl⟩
  have h0 := hlf f0 (by simp)
  have h1 := hlf f1 (by simp)
  have h2 := hlf f2 (by simp)
  have sg4 := say_of (L := faL) (.inr rfl) h0 h1 h2
  have sg5 := say_of (L := fbL) (.inl rfl) h0 h1 h2
  try simp only [List.set_cons_zero, List.set_cons_succ, List.map_cons, List.map_nil]
  subst hr
  refine seq_step fun r hr => ?_
  walk_at "dy"
  refine ⟨u, _, _, rfl, hU15, by omega, by decide, by decide, fun sx S16 sx0 sx9 hU16 ho16 => ?_⟩
  try walk_at "dy"
  refine ⟨u, _, _, rfl, hU16, by omega, by decide, by decide, fun sy S17 sy0 sy9 hU17 ho17 => ?_⟩
  try walk_at "dy"
  have sp := spot_of (x := sx - 4) (y := sy - 4) (up4 (i := 8) (by omega) (by decide)) (up4 (i := 8) (by omega) (by decide))
  subst hr
  refine seq_step fun r hr => ?_
  walk_at "dy"
  rw [fa_eq]
  refine ⟨u, _, _, 400, 3, 20000, _, rfl, hU17, by omega, sg4.t, sp, by decide, by decide, by decide, by decide, sg4.c _, True.intro, fun c' h => sg4.b _ _ h, fun p' h => sg4.c _, fun c' p' h _ => sg4.b _ _ h, fun S18 k18 hU18 => ?_⟩
  try walk_at "dy"
  subst hr
  refine seq_step fun r hr => ?_
  walk_at "dy"
  rw [fa_eq]
  refine ⟨_, _, 400, 3, 20000, rfl, sg3.t, sp, by decide, by decide, by decide, by decide, sg3.c _, fun S19 k19 => ?_⟩
  try walk_at "dy"
  subst hr
  walk_at "dy"
  rw [fb_eq]
  refine ⟨_, _, 400, 3, 20000, rfl, sg5.t, pg1.1, by decide, by decide, by decide, by decide, sg5.c _, fun S20 k20 => ?_⟩
  try walk_at "dy"
  exact k _ _ ⟨_, _, _, _, _, _, _, _, _, _, _, _, _, _, _, _, rfl⟩


/-! the text by places, derivations, printed by gen.py -/
def top (i : Nat) : Stmt := PySem.Challenge.pw_nearthrees_k59_papers_of_forms.main.body.getD i (.Pass ⟨0, 0, 0, 0⟩)
abbrev s_is_whole : Stmt := top 13
theorem sc_is_whole : FnScope N_is_whole ["thing"] (defScope s_is_whole) := ⟨rfl, rfl, rfl, by decide +kernel, rfl, by decide +kernel, by decide +kernel⟩
abbrev s_are_wholes : Stmt := top 14
theorem sc_are_wholes : FnScope N_are_wholes ["things"] (defScope s_are_wholes) := ⟨rfl, rfl, rfl, by decide +kernel, rfl, by decide +kernel, by decide +kernel⟩
abbrev s_shared_by : Stmt := top 15
theorem sc_shared_by : FnScope N_shared_by ["one", "other"] (defScope s_shared_by) := ⟨rfl, rfl, rfl, by decide +kernel, rfl, by decide +kernel, by decide +kernel⟩
abbrev s_side_of : Stmt := top 17
theorem sc_side_of : FnScope N_side_of ["square"] (defScope s_side_of) := ⟨rfl, rfl, rfl, by decide +kernel, rfl, by decide +kernel, by decide +kernel⟩
abbrev s_is_square : Stmt := top 18
theorem sc_is_square : FnScope N_is_square ["number"] (defScope s_is_square) := ⟨rfl, rfl, rfl, by decide +kernel, rfl, by decide +kernel, by decide +kernel⟩
abbrev s_table_of_row : Stmt := top 37
theorem sc_table_of_row : FnScope N_table_of_row ["row"] (defScope s_table_of_row) := ⟨rfl, rfl, rfl, by decide +kernel, rfl, by decide +kernel, by decide +kernel⟩
abbrev s_form_of_row : Stmt := top 38
theorem sc_form_of_row : FnScope N_form_of_row ["row"] (defScope s_form_of_row) := ⟨rfl, rfl, rfl, by decide +kernel, rfl, by decide +kernel, by decide +kernel⟩
abbrev s_is_word : Stmt := top 42
theorem sc_is_word : FnScope N_is_word ["thing"] (defScope s_is_word) := ⟨rfl, rfl, rfl, by decide +kernel, rfl, by decide +kernel, by decide +kernel⟩
abbrev s_is_pair_of : Stmt := top 50
theorem sc_is_pair_of : FnScope N_is_pair_of ["thing"] (defScope s_is_pair_of) := ⟨rfl, rfl, rfl, by decide +kernel, rfl, by decide +kernel, by decide +kernel⟩
abbrev s_is_table : Stmt := top 51
theorem sc_is_table : FnScope N_is_table ["thing"] (defScope s_is_table) := ⟨rfl, rfl, rfl, by decide +kernel, rfl, by decide +kernel, by decide +kernel⟩
abbrev s_size_of : Stmt := top 52
theorem sc_size_of : FnScope N_size_of ["table"] (defScope s_size_of) := ⟨rfl, rfl, rfl, by decide +kernel, rfl, by decide +kernel, by decide +kernel⟩
abbrev s_is_turning : Stmt := top 53
theorem sc_is_turning : FnScope N_is_turning ["thing"] (defScope s_is_turning) := ⟨rfl, rfl, rfl, by decide +kernel, rfl, by decide +kernel, by decide +kernel⟩
abbrev s_look_turning : Stmt := top 54
theorem sc_look_turning : FnScope N_look_turning ["thing"] (defScope s_look_turning) := ⟨rfl, rfl, rfl, by decide +kernel, rfl, by decide +kernel, by decide +kernel⟩
abbrev s_Form___init__ : Stmt := inClass (top 60) 0
theorem sc_Form___init__ : FnScope N_Form___init__ ["self", "a", "b", "c"] (defScope s_Form___init__) := ⟨rfl, rfl, rfl, by decide +kernel, rfl, by decide +kernel, by decide +kernel⟩
abbrev s_Form_parts : Stmt := inClass (top 60) 1
theorem sc_Form_parts : FnScope N_Form_parts ["self"] (defScope s_Form_parts) := ⟨rfl, rfl, rfl, by decide +kernel, rfl, by decide +kernel, by decide +kernel⟩
abbrev s_Form_under_root : Stmt := inClass (top 60) 2
theorem sc_Form_under_root : FnScope N_Form_under_root ["self"] (defScope s_Form_under_root) := ⟨rfl, rfl, rfl, by decide +kernel, rfl, by decide +kernel, by decide +kernel⟩
abbrev s_Form_value : Stmt := inClass (top 60) 3
theorem sc_Form_value : FnScope N_Form_value ["self", "x", "y"] (defScope s_Form_value) := ⟨rfl, rfl, rfl, by decide +kernel, rfl, by decide +kernel, by decide +kernel⟩
abbrev s_Form_turned : Stmt := inClass (top 60) 5
theorem sc_Form_turned : FnScope N_Form_turned ["self", "by"] (defScope s_Form_turned) := ⟨rfl, rfl, rfl, by decide +kernel, rfl, by decide +kernel, by decide +kernel⟩
abbrev s_even_word : Stmt := top 62
theorem sc_even_word : FnScope N_even_word ["many_b", "many_a"] (defScope s_even_word) := ⟨rfl, rfl, rfl, by decide +kernel, rfl, by decide +kernel, by decide +kernel⟩
abbrev s_is_step_word : Stmt := top 63
theorem sc_is_step_word : FnScope N_is_step_word ["thing"] (defScope s_is_step_word) := ⟨rfl, rfl, rfl, by decide +kernel, rfl, by decide +kernel, by decide +kernel⟩
abbrev s_row_of_word : Stmt := top 89
theorem sc_row_of_word : FnScope N_row_of_word ["word"] (defScope s_row_of_word) := ⟨rfl, rfl, rfl, by decide +kernel, rfl, by decide +kernel, by decide +kernel⟩
abbrev s_form_by : Stmt := top 91
theorem sc_form_by : FnScope N_form_by ["word"] (defScope s_form_by) := ⟨rfl, rfl, rfl, by decide +kernel, rfl, by decide +kernel, by decide +kernel⟩
abbrev s_is_tuple_of : Stmt := top 93
theorem sc_is_tuple_of : FnScope N_is_tuple_of ["thing", "many"] (defScope s_is_tuple_of) := ⟨rfl, rfl, rfl, by decide +kernel, rfl, by decide +kernel, by decide +kernel⟩
abbrev s_form_in : Stmt := top 102
theorem sc_form_in : FnScope N_form_in ["a", "b", "c"] (defScope s_form_in) := ⟨rfl, rfl, rfl, by decide +kernel, rfl, by decide +kernel, by decide +kernel⟩
abbrev s_form_below_holds : Stmt := top 103
theorem sc_form_below_holds : FnScope N_form_below_holds ["a", "b", "c", "paper"] (defScope s_form_below_holds) := ⟨rfl, rfl, rfl, by decide +kernel, rfl, by decide +kernel, by decide +kernel⟩
abbrev s_form_above_holds : Stmt := top 104
theorem sc_form_above_holds : FnScope N_form_above_holds ["a", "b", "c", "paper"] (defScope s_form_above_holds) := ⟨rfl, rfl, rfl, by decide +kernel, rfl, by decide +kernel, by decide +kernel⟩
abbrev s_holds : Stmt := top 108
theorem sc_holds : FnScope N_holds ["claim", "paper"] (defScope s_holds) := ⟨rfl, rfl, rfl, by decide +kernel, rfl, by decide +kernel, by decide +kernel⟩
abbrev s_law_urn : Stmt := top 110
theorem sc_law_urn : FnScope N_law_urn ["_law_script", "_law_at"] (defScope s_law_urn) := ⟨rfl, rfl, rfl, by decide +kernel, rfl, by decide +kernel, by decide +kernel⟩
abbrev s_law_draw : Stmt := top 111
theorem sc_law_draw : FnScope N_law_draw ["_law_urn_here", "_law_wide"] (defScope s_law_draw) := ⟨rfl, rfl, rfl, by decide +kernel, rfl, by decide +kernel, by decide +kernel⟩
abbrev s_law_whole : Stmt := top 112
theorem sc_law_whole : FnScope N_law_whole ["_law_thing"] (defScope s_law_whole) := ⟨rfl, rfl, rfl, by decide +kernel, rfl, by decide +kernel, by decide +kernel⟩
abbrev s_law_shared : Stmt := top 113
theorem sc_law_shared : FnScope N_law_shared ["_law_one", "_law_other"] (defScope s_law_shared) := ⟨rfl, rfl, rfl, by decide +kernel, rfl, by decide +kernel, by decide +kernel⟩
abbrev s_law_side : Stmt := top 114
theorem sc_law_side : FnScope N_law_side ["_law_under"] (defScope s_law_side) := ⟨rfl, rfl, rfl, by decide +kernel, rfl, by decide +kernel, by decide +kernel⟩
abbrev s_law_is_square : Stmt := top 115
theorem sc_law_is_square : FnScope N_law_is_square ["_law_under"] (defScope s_law_is_square) := ⟨rfl, rfl, rfl, by decide +kernel, rfl, by decide +kernel, by decide +kernel⟩
abbrev s_law_even_word : Stmt := top 116
theorem sc_law_even_word : FnScope N_law_even_word ["_law_bs", "_law_others"] (defScope s_law_even_word) := ⟨rfl, rfl, rfl, by decide +kernel, rfl, by decide +kernel, by decide +kernel⟩
abbrev s_law_counts : Stmt := top 117
theorem sc_law_counts : FnScope N_law_counts ["_law_urn_here", "_law_most"] (defScope s_law_counts) := ⟨rfl, rfl, rfl, by decide +kernel, rfl, by decide +kernel, by decide +kernel⟩
abbrev s_law_numbers : Stmt := top 118
theorem sc_law_numbers : FnScope N_law_numbers ["_law_word"] (defScope s_law_numbers) := ⟨rfl, rfl, rfl, by decide +kernel, rfl, by decide +kernel, by decide +kernel⟩
abbrev s_law_ring_table : Stmt := top 119
theorem sc_law_ring_table : FnScope N_law_ring_table ["_law_row"] (defScope s_law_ring_table) := ⟨rfl, rfl, rfl, by decide +kernel, rfl, by decide +kernel, by decide +kernel⟩
abbrev s_law_bent : Stmt := top 120
theorem sc_law_bent : FnScope N_law_bent ["_law_urn_here", "_law_thing"] (defScope s_law_bent) := ⟨rfl, rfl, rfl, by decide +kernel, rfl, by decide +kernel, by decide +kernel⟩
abbrev s_law_is_word : Stmt := top 121
theorem sc_law_is_word : FnScope N_law_is_word ["_law_thing"] (defScope s_law_is_word) := ⟨rfl, rfl, rfl, by decide +kernel, rfl, by decide +kernel, by decide +kernel⟩
abbrev s_law_is_claim : Stmt := top 122
theorem sc_law_is_claim : FnScope N_law_is_claim ["_law_thing", "_law_word", "_law_many"] (defScope s_law_is_claim) := ⟨rfl, rfl, rfl, by decide +kernel, rfl, by decide +kernel, by decide +kernel⟩
abbrev s_law_copied : Stmt := top 123
theorem sc_law_copied : FnScope N_law_copied ["_law_thing"] (defScope s_law_copied) := ⟨rfl, rfl, rfl, by decide +kernel, rfl, by decide +kernel, by decide +kernel⟩
abbrev s_law_is_form : Stmt := top 130
theorem sc_law_is_form : FnScope N_law_is_form ["_law_thing"] (defScope s_law_is_form) := ⟨rfl, rfl, rfl, by decide +kernel, rfl, by decide +kernel, by decide +kernel⟩
abbrev s_law_is_step : Stmt := top 126
theorem sc_law_is_step : FnScope N_law_is_step ["_law_word"] (defScope s_law_is_step) := ⟨rfl, rfl, rfl, by decide +kernel, rfl, by decide +kernel, by decide +kernel⟩
abbrev s_law_is_turning : Stmt := top 129
theorem sc_law_is_turning : FnScope N_law_is_turning ["_law_thing"] (defScope s_law_is_turning) := ⟨rfl, rfl, rfl, by decide +kernel, rfl, by decide +kernel, by decide +kernel⟩
abbrev s_law_turned_form : Stmt := top 128
theorem sc_law_turned_form : FnScope N_law_turned_form ["_law_form", "_law_table"] (defScope s_law_turned_form) := ⟨rfl, rfl, rfl, by decide +kernel, rfl, by decide +kernel, by decide +kernel⟩
abbrev s_law_word_form : Stmt := top 127
theorem sc_law_word_form : FnScope N_law_word_form ["_law_word"] (defScope s_law_word_form) := ⟨rfl, rfl, rfl, by decide +kernel, rfl, by decide +kernel, by decide +kernel⟩
abbrev s_law_due : Stmt := top 131
theorem sc_law_due : FnScope N_law_due ["_law_saying", "_law_sheet"] (defScope s_law_due) := ⟨rfl, rfl, rfl, by decide +kernel, rfl, by decide +kernel, by decide +kernel⟩
abbrev s_law_looked_right : Stmt := top 124
theorem sc_law_looked_right : FnScope N_law_looked_right ["_law_saying", "_law_sheet"] (defScope s_law_looked_right) := ⟨rfl, rfl, rfl, by decide +kernel, rfl, by decide +kernel, by decide +kernel⟩
abbrev s_law_all_looked_right : Stmt := top 125
theorem sc_law_all_looked_right : FnScope N_law_all_looked_right ["_law_urn_here", "_law_saying", "_law_sheet"] (defScope s_law_all_looked_right) := ⟨rfl, rfl, rfl, by decide +kernel, rfl, by decide +kernel, by decide +kernel⟩
abbrev s_law_turning : Stmt := top 132
theorem sc_law_turning : FnScope N_law_turning ["_law_urn_here"] (defScope s_law_turning) := ⟨rfl, rfl, rfl, by decide +kernel, rfl, by decide +kernel, by decide +kernel⟩
abbrev s_law : Stmt := top 133
theorem sc_law : FnScope N_law ["_law_script"] (defScope s_law) := ⟨rfl, rfl, rfl, by decide +kernel, rfl, by decide +kernel, by decide +kernel⟩
abbrev sI_NoForm : Stmt := inClass (top 11) 0
theorem scI_NoForm : FnScope ["self", "under"] ["self", "under"] (defScope sI_NoForm) := ⟨rfl, rfl, rfl, by decide +kernel, rfl, by decide +kernel, by decide +kernel⟩
structure Txt (w : World) (K : PySem.W.Frag) (mg : Str → Option Value) (base : Heap) where
  C_Form : Addr
  gc_Form : mg "Form" = some (.ref C_Form)
  f_is_whole : Addr
  fd_is_whole : FuncData
  f_are_wholes : Addr
  fd_are_wholes : FuncData
  f_shared_by : Addr
  fd_shared_by : FuncData
  f_side_of : Addr
  fd_side_of : FuncData
  f_is_square : Addr
  fd_is_square : FuncData
  f_table_of_row : Addr
  fd_table_of_row : FuncData
  f_form_of_row : Addr
  fd_form_of_row : FuncData
  f_is_word : Addr
  fd_is_word : FuncData
  f_is_pair_of : Addr
  fd_is_pair_of : FuncData
  f_is_table : Addr
  fd_is_table : FuncData
  f_size_of : Addr
  fd_size_of : FuncData
  f_is_turning : Addr
  fd_is_turning : FuncData
  f_look_turning : Addr
  fd_look_turning : FuncData
  f_even_word : Addr
  fd_even_word : FuncData
  f_is_step_word : Addr
  fd_is_step_word : FuncData
  f_row_of_word : Addr
  fd_row_of_word : FuncData
  f_form_by : Addr
  fd_form_by : FuncData
  f_is_tuple_of : Addr
  fd_is_tuple_of : FuncData
  f_form_in : Addr
  fd_form_in : FuncData
  f_form_below_holds : Addr
  fd_form_below_holds : FuncData
  f_form_above_holds : Addr
  fd_form_above_holds : FuncData
  f_holds : Addr
  fd_holds : FuncData
  f_law_urn : Addr
  fd_law_urn : FuncData
  f_law_draw : Addr
  fd_law_draw : FuncData
  f_law_whole : Addr
  fd_law_whole : FuncData
  f_law_shared : Addr
  fd_law_shared : FuncData
  f_law_side : Addr
  fd_law_side : FuncData
  f_law_is_square : Addr
  fd_law_is_square : FuncData
  f_law_even_word : Addr
  fd_law_even_word : FuncData
  f_law_counts : Addr
  fd_law_counts : FuncData
  f_law_numbers : Addr
  fd_law_numbers : FuncData
  f_law_ring_table : Addr
  fd_law_ring_table : FuncData
  f_law_bent : Addr
  fd_law_bent : FuncData
  f_law_is_word : Addr
  fd_law_is_word : FuncData
  f_law_is_claim : Addr
  fd_law_is_claim : FuncData
  f_law_copied : Addr
  fd_law_copied : FuncData
  f_law_is_form : Addr
  fd_law_is_form : FuncData
  f_law_is_step : Addr
  fd_law_is_step : FuncData
  f_law_is_turning : Addr
  fd_law_is_turning : FuncData
  f_law_turned_form : Addr
  fd_law_turned_form : FuncData
  f_law_word_form : Addr
  fd_law_word_form : FuncData
  f_law_due : Addr
  fd_law_due : FuncData
  f_law_looked_right : Addr
  fd_law_looked_right : FuncData
  f_law_all_looked_right : Addr
  fd_law_all_looked_right : FuncData
  f_law_turning : Addr
  fd_law_turning : FuncData
  f_law : Addr
  fd_law : FuncData
  f_Form___init__ : Addr
  fd_Form___init__ : FuncData
  f_Form_parts : Addr
  fd_Form_parts : FuncData
  f_Form_under_root : Addr
  fd_Form_under_root : FuncData
  f_Form_value : Addr
  fd_Form_value : FuncData
  f_Form_turned : Addr
  fd_Form_turned : FuncData
  F_is_whole : Fun K "is_whole" "is_whole" s_is_whole f_is_whole fd_is_whole
  m_is_whole : mg "is_whole" = some (.ref f_is_whole)
  b_is_whole : Binds K fd_is_whole ["thing"] []
  F_are_wholes : Fun K "are_wholes" "are_wholes" s_are_wholes f_are_wholes fd_are_wholes
  m_are_wholes : mg "are_wholes" = some (.ref f_are_wholes)
  b_are_wholes : Binds K fd_are_wholes ["things"] []
  F_shared_by : Fun K "shared_by" "shared_by" s_shared_by f_shared_by fd_shared_by
  m_shared_by : mg "shared_by" = some (.ref f_shared_by)
  b_shared_by : Binds K fd_shared_by ["one", "other"] []
  F_side_of : Fun K "side_of" "side_of" s_side_of f_side_of fd_side_of
  m_side_of : mg "side_of" = some (.ref f_side_of)
  b_side_of : Binds K fd_side_of ["square"] []
  F_is_square : Fun K "is_square" "is_square" s_is_square f_is_square fd_is_square
  m_is_square : mg "is_square" = some (.ref f_is_square)
  b_is_square : Binds K fd_is_square ["number"] []
  F_table_of_row : Fun K "table_of_row" "table_of_row" s_table_of_row f_table_of_row fd_table_of_row
  m_table_of_row : mg "table_of_row" = some (.ref f_table_of_row)
  b_table_of_row : Binds K fd_table_of_row ["row"] []
  F_form_of_row : Fun K "form_of_row" "form_of_row" s_form_of_row f_form_of_row fd_form_of_row
  m_form_of_row : mg "form_of_row" = some (.ref f_form_of_row)
  b_form_of_row : Binds K fd_form_of_row ["row"] []
  F_is_word : Fun K "is_word" "is_word" s_is_word f_is_word fd_is_word
  m_is_word : mg "is_word" = some (.ref f_is_word)
  b_is_word : Binds K fd_is_word ["thing"] []
  F_is_pair_of : Fun K "is_pair_of" "is_pair_of" s_is_pair_of f_is_pair_of fd_is_pair_of
  m_is_pair_of : mg "is_pair_of" = some (.ref f_is_pair_of)
  b_is_pair_of : Binds K fd_is_pair_of ["thing"] []
  F_is_table : Fun K "is_table" "is_table" s_is_table f_is_table fd_is_table
  m_is_table : mg "is_table" = some (.ref f_is_table)
  b_is_table : Binds K fd_is_table ["thing"] []
  F_size_of : Fun K "size_of" "size_of" s_size_of f_size_of fd_size_of
  m_size_of : mg "size_of" = some (.ref f_size_of)
  b_size_of : Binds K fd_size_of ["table"] []
  F_is_turning : Fun K "is_turning" "is_turning" s_is_turning f_is_turning fd_is_turning
  m_is_turning : mg "is_turning" = some (.ref f_is_turning)
  b_is_turning : Binds K fd_is_turning ["thing"] []
  F_look_turning : Fun K "look_turning" "look_turning" s_look_turning f_look_turning fd_look_turning
  m_look_turning : mg "look_turning" = some (.ref f_look_turning)
  b_look_turning : Binds K fd_look_turning ["thing"] []
  F_even_word : Fun K "even_word" "even_word" s_even_word f_even_word fd_even_word
  m_even_word : mg "even_word" = some (.ref f_even_word)
  b_even_word : Binds K fd_even_word ["many_b", "many_a"] []
  F_is_step_word : Fun K "is_step_word" "is_step_word" s_is_step_word f_is_step_word fd_is_step_word
  m_is_step_word : mg "is_step_word" = some (.ref f_is_step_word)
  b_is_step_word : Binds K fd_is_step_word ["thing"] []
  F_row_of_word : Fun K "row_of_word" "row_of_word" s_row_of_word f_row_of_word fd_row_of_word
  m_row_of_word : mg "row_of_word" = some (.ref f_row_of_word)
  b_row_of_word : Binds K fd_row_of_word ["word"] []
  F_form_by : Fun K "form_by" "form_by" s_form_by f_form_by fd_form_by
  m_form_by : mg "form_by" = some (.ref f_form_by)
  b_form_by : Binds K fd_form_by ["word"] []
  F_is_tuple_of : Fun K "is_tuple_of" "is_tuple_of" s_is_tuple_of f_is_tuple_of fd_is_tuple_of
  m_is_tuple_of : mg "is_tuple_of" = some (.ref f_is_tuple_of)
  b_is_tuple_of : Binds K fd_is_tuple_of ["thing", "many"] []
  F_form_in : Fun K "form_in" "form_in" s_form_in f_form_in fd_form_in
  m_form_in : mg "form_in" = some (.ref f_form_in)
  b_form_in : Binds K fd_form_in ["a", "b", "c"] []
  F_form_below_holds : Fun K "form_below_holds" "form_below_holds" s_form_below_holds f_form_below_holds fd_form_below_holds
  gn_form_below_holds : PySem.W.nsIn K mainGlobals "form_below_holds" = some (some (.ref f_form_below_holds))
  m_form_below_holds : mg "form_below_holds" = some (.ref f_form_below_holds)
  b_form_below_holds : Binds K fd_form_below_holds ["a", "b", "c", "paper"] []
  F_form_above_holds : Fun K "form_above_holds" "form_above_holds" s_form_above_holds f_form_above_holds fd_form_above_holds
  gn_form_above_holds : PySem.W.nsIn K mainGlobals "form_above_holds" = some (some (.ref f_form_above_holds))
  m_form_above_holds : mg "form_above_holds" = some (.ref f_form_above_holds)
  b_form_above_holds : Binds K fd_form_above_holds ["a", "b", "c", "paper"] []
  F_holds : Fun K "holds" "holds" s_holds f_holds fd_holds
  m_holds : mg "holds" = some (.ref f_holds)
  b_holds : Binds K fd_holds ["claim", "paper"] []
  F_law_urn : Fun K "_law_urn" "_law_urn" s_law_urn f_law_urn fd_law_urn
  m_law_urn : mg "_law_urn" = some (.ref f_law_urn)
  b_law_urn : Binds K fd_law_urn ["_law_script", "_law_at"] []
  F_law_draw : Fun K "_law_draw" "_law_draw" s_law_draw f_law_draw fd_law_draw
  m_law_draw : mg "_law_draw" = some (.ref f_law_draw)
  b_law_draw : Binds K fd_law_draw ["_law_urn_here", "_law_wide"] []
  F_law_whole : Fun K "_law_whole" "_law_whole" s_law_whole f_law_whole fd_law_whole
  m_law_whole : mg "_law_whole" = some (.ref f_law_whole)
  b_law_whole : Binds K fd_law_whole ["_law_thing"] []
  F_law_shared : Fun K "_law_shared" "_law_shared" s_law_shared f_law_shared fd_law_shared
  m_law_shared : mg "_law_shared" = some (.ref f_law_shared)
  b_law_shared : Binds K fd_law_shared ["_law_one", "_law_other"] []
  F_law_side : Fun K "_law_side" "_law_side" s_law_side f_law_side fd_law_side
  m_law_side : mg "_law_side" = some (.ref f_law_side)
  b_law_side : Binds K fd_law_side ["_law_under"] []
  F_law_is_square : Fun K "_law_is_square" "_law_is_square" s_law_is_square f_law_is_square fd_law_is_square
  m_law_is_square : mg "_law_is_square" = some (.ref f_law_is_square)
  b_law_is_square : Binds K fd_law_is_square ["_law_under"] []
  F_law_even_word : Fun K "_law_even_word" "_law_even_word" s_law_even_word f_law_even_word fd_law_even_word
  m_law_even_word : mg "_law_even_word" = some (.ref f_law_even_word)
  b_law_even_word : Binds K fd_law_even_word ["_law_bs", "_law_others"] []
  F_law_counts : Fun K "_law_counts" "_law_counts" s_law_counts f_law_counts fd_law_counts
  m_law_counts : mg "_law_counts" = some (.ref f_law_counts)
  b_law_counts : Binds K fd_law_counts ["_law_urn_here", "_law_most"] []
  F_law_numbers : Fun K "_law_numbers" "_law_numbers" s_law_numbers f_law_numbers fd_law_numbers
  m_law_numbers : mg "_law_numbers" = some (.ref f_law_numbers)
  b_law_numbers : Binds K fd_law_numbers ["_law_word"] []
  F_law_ring_table : Fun K "_law_ring_table" "_law_ring_table" s_law_ring_table f_law_ring_table fd_law_ring_table
  m_law_ring_table : mg "_law_ring_table" = some (.ref f_law_ring_table)
  b_law_ring_table : Binds K fd_law_ring_table ["_law_row"] []
  F_law_bent : Fun K "_law_bent" "_law_bent" s_law_bent f_law_bent fd_law_bent
  m_law_bent : mg "_law_bent" = some (.ref f_law_bent)
  b_law_bent : Binds K fd_law_bent ["_law_urn_here", "_law_thing"] []
  F_law_is_word : Fun K "_law_is_word" "_law_is_word" s_law_is_word f_law_is_word fd_law_is_word
  m_law_is_word : mg "_law_is_word" = some (.ref f_law_is_word)
  b_law_is_word : Binds K fd_law_is_word ["_law_thing"] []
  F_law_is_claim : Fun K "_law_is_claim" "_law_is_claim" s_law_is_claim f_law_is_claim fd_law_is_claim
  m_law_is_claim : mg "_law_is_claim" = some (.ref f_law_is_claim)
  b_law_is_claim : Binds K fd_law_is_claim ["_law_thing", "_law_word", "_law_many"] []
  F_law_copied : Fun K "_law_copied" "_law_copied" s_law_copied f_law_copied fd_law_copied
  m_law_copied : mg "_law_copied" = some (.ref f_law_copied)
  b_law_copied : Binds K fd_law_copied ["_law_thing"] []
  F_law_is_form : Fun K "_law_is_form" "_law_is_form" s_law_is_form f_law_is_form fd_law_is_form
  m_law_is_form : mg "_law_is_form" = some (.ref f_law_is_form)
  b_law_is_form : Binds K fd_law_is_form ["_law_thing"] []
  F_law_is_step : Fun K "_law_is_step" "_law_is_step" s_law_is_step f_law_is_step fd_law_is_step
  m_law_is_step : mg "_law_is_step" = some (.ref f_law_is_step)
  b_law_is_step : Binds K fd_law_is_step ["_law_word"] []
  F_law_is_turning : Fun K "_law_is_turning" "_law_is_turning" s_law_is_turning f_law_is_turning fd_law_is_turning
  m_law_is_turning : mg "_law_is_turning" = some (.ref f_law_is_turning)
  b_law_is_turning : Binds K fd_law_is_turning ["_law_thing"] []
  F_law_turned_form : Fun K "_law_turned_form" "_law_turned_form" s_law_turned_form f_law_turned_form fd_law_turned_form
  m_law_turned_form : mg "_law_turned_form" = some (.ref f_law_turned_form)
  b_law_turned_form : Binds K fd_law_turned_form ["_law_form", "_law_table"] []
  F_law_word_form : Fun K "_law_word_form" "_law_word_form" s_law_word_form f_law_word_form fd_law_word_form
  m_law_word_form : mg "_law_word_form" = some (.ref f_law_word_form)
  b_law_word_form : Binds K fd_law_word_form ["_law_word"] []
  F_law_due : Fun K "_law_due" "_law_due" s_law_due f_law_due fd_law_due
  m_law_due : mg "_law_due" = some (.ref f_law_due)
  b_law_due : Binds K fd_law_due ["_law_saying", "_law_sheet"] []
  F_law_looked_right : Fun K "_law_looked_right" "_law_looked_right" s_law_looked_right f_law_looked_right fd_law_looked_right
  m_law_looked_right : mg "_law_looked_right" = some (.ref f_law_looked_right)
  b_law_looked_right : Binds K fd_law_looked_right ["_law_saying", "_law_sheet"] []
  F_law_all_looked_right : Fun K "_law_all_looked_right" "_law_all_looked_right" s_law_all_looked_right f_law_all_looked_right fd_law_all_looked_right
  m_law_all_looked_right : mg "_law_all_looked_right" = some (.ref f_law_all_looked_right)
  b_law_all_looked_right : Binds K fd_law_all_looked_right ["_law_urn_here", "_law_saying", "_law_sheet"] []
  F_law_turning : Fun K "_law_turning" "_law_turning" s_law_turning f_law_turning fd_law_turning
  m_law_turning : mg "_law_turning" = some (.ref f_law_turning)
  b_law_turning : Binds K fd_law_turning ["_law_urn_here"] []
  F_law : Fun K "law" "law" s_law f_law fd_law
  m_law : mg "law" = some (.ref f_law)
  b_law : Binds K fd_law ["_law_script"] []
  F_Form___init__ : Fun K "__init__" "Form.__init__" s_Form___init__ f_Form___init__ fd_Form___init__
  cl_Form : ClF K "Form" C_Form f_Form___init__
  na_Form : noAttrB K C_Form ["held", "held_under"] = true
  b_Form___init__ : Binds K fd_Form___init__ ["self", "a", "b", "c"] []
  F_Form_parts : Fun K "parts" "Form.parts" s_Form_parts f_Form_parts fd_Form_parts
  M_Form_parts : Meth K C_Form "parts" f_Form_parts
  b_Form_parts : Binds K fd_Form_parts ["self"] []
  F_Form_under_root : Fun K "under_root" "Form.under_root" s_Form_under_root f_Form_under_root fd_Form_under_root
  M_Form_under_root : Meth K C_Form "under_root" f_Form_under_root
  b_Form_under_root : Binds K fd_Form_under_root ["self"] []
  F_Form_value : Fun K "value" "Form.value" s_Form_value f_Form_value fd_Form_value
  M_Form_value : Meth K C_Form "value" f_Form_value
  b_Form_value : Binds K fd_Form_value ["self", "x", "y"] []
  F_Form_turned : Fun K "turned" "Form.turned" s_Form_turned f_Form_turned fd_Form_turned
  M_Form_turned : Meth K C_Form "turned" f_Form_turned
  b_Form_turned : Binds K fd_Form_turned ["self", "by"] []
  ks_holds_0_paper_claim : Hx.KSel K fd_holds ["claim", "paper"] 0 ["paper", "claim"] [1, 0] []
  own : ∀ c ∈ ownCls, ∃ Dn, mg c = some (.ref Dn) ∧ clsV K c = .ref Dn
  wf : ∀ n ∈ rsX, n ∈ ownCls ∧ ∃ Dn, WhF K n Dn
  C_NoForm : Addr
  fI_NoForm : Addr
  fdI_NoForm : FuncData
  FI_NoForm : Fun K "__init__" "NoForm.__init__" sI_NoForm fI_NoForm fdI_NoForm
  bI_NoForm : Binds K fdI_NoForm ["self", "under"] []
  X_NoForm : FxF K "NoForm" [.type "ArithmeticError", .type "Exception", .type "BaseException", .type "object"] "ArithmeticError.__new__" C_NoForm fI_NoForm ["under"]
  gc_NoForm : mg "NoForm" = some (.ref C_NoForm)
  C_NoTable : Addr
  R_NoTable : RsF K "NoTable" [.type "ValueError", .type "Exception", .type "BaseException", .type "object"] "ValueError.__new__" C_NoTable
  gc_NoTable : mg "NoTable" = some (.ref C_NoTable)
  a_HOLD : Addr
  m_HOLD : mg "HOLD" = some (.ref a_HOLD)
  k_HOLD : ∀ z d, k_HOLD z = some d → ∃ v, KDct K w a_HOLD z v ∧ ∀ H S, Rp K H S d v
  q_HOLD : KdK K w a_HOLD ["even", "uneven", "below", "above"]
  a_HOLD_OF_THREE : Addr
  m_HOLD_OF_THREE : mg "HOLD_OF_THREE" = some (.ref a_HOLD_OF_THREE)
  k_HOLD_OF_THREE : ∀ z d, k_HOLD_OF_THREE z = some d → ∃ v, KDct K w a_HOLD_OF_THREE z v ∧ ∀ H S, Rp K H S d v
  q_HOLD_OF_THREE : KdK K w a_HOLD_OF_THREE ["triple", "form below", "form above"]
  a_HOLD_SAME : Addr
  m_HOLD_SAME : mg "HOLD_SAME" = some (.ref a_HOLD_SAME)
  k_HOLD_SAME : ∀ z d, k_HOLD_SAME z = some d → ∃ v, KDct K w a_HOLD_SAME z v ∧ ∀ H S, Rp K H S d v
  q_HOLD_SAME : KdK K w a_HOLD_SAME ["same"]
  v_LETTERS : V
  u_LETTERS : Value
  m_LETTERS : mg "LETTERS" = some u_LETTERS
  r_LETTERS : RelV v_LETTERS u_LETTERS
  k_LETTERS : ∀ H S, Rp K H S (k_LETTERS) v_LETTERS
  v_MOST_LETTERS : V
  u_MOST_LETTERS : Value
  m_MOST_LETTERS : mg "MOST_LETTERS" = some u_MOST_LETTERS
  r_MOST_LETTERS : RelV v_MOST_LETTERS u_MOST_LETTERS
  k_MOST_LETTERS : ∀ H S, Rp K H S (k_MOST_LETTERS) v_MOST_LETTERS
  a_NUMBERS : Addr
  m_NUMBERS : mg "NUMBERS" = some (.ref a_NUMBERS)
  k_NUMBERS : ∀ z d, k_NUMBERS z = some d → ∃ v, KDct K w a_NUMBERS z v ∧ ∀ H S, Rp K H S d v
  v_WALL : V
  u_WALL : Value
  m_WALL : mg "WALL" = some u_WALL
  r_WALL : RelV v_WALL u_WALL
  k_WALL : ∀ H S, Rp K H S (k_WALL) v_WALL
  n_abs : mg "abs" = none
  n_all : mg "all" = none
  n_bool : mg "bool" = none
  n_int : mg "int" = none
  n_isinstance : mg "isinstance" = none
  n_len : mg "len" = none
  n_list : mg "list" = none
  n_max : mg "max" = none
  n_min : mg "min" = none
  n_range : mg "range" = none
  n_repr : mg "repr" = none
  n_str : mg "str" = none
  n_sum : mg "sum" = none
  n_tuple : mg "tuple" = none
section
variable {P : Program} {w : World} {K : PySem.W.Frag} {mg : Str → Option Value} {base : Heap}
theorem in_NoForm (T : Txt w K mg base) : FnG P w K mg base (L2N.CX P w) 1 T.fI_NoForm T.fdI_NoForm ["self", "under"] (spI1 T.C_NoForm "under") := init1_ok T.FI_NoForm scI_NoForm T.X_NoForm.ox (T.X_NoForm.free _ (by decide +kernel)) rfl
theorem ok_is_whole (T : Txt w K mg base) : FnG P w K mg base (L2N.CX P w) 1 T.f_is_whole T.fd_is_whole ["thing"] (upF K (sp_is_whole)) := by
  refine okD (k := 0) (t := fun Ed => t_is_whole Ed) T.F_is_whole sc_is_whole (len_is_whole) (fun cdv A outer s H E Ed hr => ?_) (pure_is_whole)
  exact (db_one (ds_ret (de_and (de_callB cd_isi (by rfl) T.n_isinstance (by decide +kernel) (da_cons (dv 0) (da_cons (de_ty (by rfl) T.n_int (by decide +kernel)) da_nil))) (de_one (de_not (de_callB cd_isi (by rfl) T.n_isinstance (by decide +kernel) (da_cons (dv 0) (da_cons (de_ty (by rfl) T.n_bool (by decide +kernel)) da_nil))))))))
theorem ok_are_wholes (T : Txt w K mg base) : FnG P w K mg base (L2N.CX P w) 2 T.f_are_wholes T.fd_are_wholes ["things"] (upF K (sp_are_wholes)) := by
  refine okD (k := 1) (t := fun Ed => t_are_wholes Ed) T.F_are_wholes sc_are_wholes (len_are_wholes) (fun cdv A outer s H E Ed hr => ?_) (pure_are_wholes)
  exact (db_one (ds_ret (de_callB (cd_all rfl) (by rfl) T.n_all (by decide +kernel) (da_cons (de_lc (own := [("thing", 1)]) rfl sc_are_wholes.nd (di_any (dv 0)) (blkOk_by (own := [("thing", 1)]) (N := N_are_wholes) (sc := defScope s_are_wholes) (by decide +kernel)) (fun _ _ _ _ _ => (dg_name (i := 1) sc_are_wholes.nd rfl (by first | exact Or.inl rfl | exact Or.inr rfl) (by decide))) (fun _ _ _ _ _ => dts_nil) (fun _ _ _ _ _ => (de_call (ok_is_whole T) (hr.mono (by decide)) (by rfl) T.m_is_whole T.F_is_whole.kp T.b_is_whole .nil (fun _ _ => rpL_nil) takes0N (da_cons (dv 1) da_nil)))) da_nil))))
theorem ok_shared_by (T : Txt w K mg base) : FnG P w K mg base (L2N.CX P w) 1 T.f_shared_by T.fd_shared_by ["one", "other"] (upF K (sp_shared_by)) := by
  refine okD (k := 0) (t := fun Ed => t_shared_by Ed) T.F_shared_by sc_shared_by (len_shared_by) (fun cdv A outer s H E Ed hr => ?_) (pure_shared_by)
  exact (db_cons (ds_par 0 1 rfl sc_shared_by.nd rfl rfl (by decide) rfl rfl (da_cons (de_callB cd_abs (by rfl) T.n_abs (by decide +kernel) (da_cons (dv 0) da_nil)) (da_cons (de_callB cd_abs (by rfl) T.n_abs (by decide +kernel) (da_cons (dv 1) da_nil)) da_nil)) (by rfl))
  (db_cons (ds_while passB (dt_cmp od_gt (dv 1) de_int (nomark _))
  (db_one (ds_par 0 1 rfl sc_shared_by.nd rfl rfl (by decide) rfl rfl (da_cons (dv 1) (da_cons (de_op od_mod (dv 0) (dv 1)) da_nil)) (by rfl))))
  (db_one (ds_ret (dv 0)))))
theorem ok_side_of (T : Txt w K mg base) : FnG P w K mg base (L2N.CX P w) 1 T.f_side_of T.fd_side_of ["square"] (upF K (sp_side_of)) := by
  refine okD (k := 0) (t := fun Ed => t_side_of Ed) T.F_side_of sc_side_of (len_side_of) (fun cdv A outer s H E Ed hr => ?_) (pure_side_of)
  exact (db_cons (ds_if (dt_cmp od_lt (dv 0) de_int (nomark _)) (db_one (ds_ret (dv 0))) db_nil)
  (db_cons (ds_set 1 sc_side_of.nd rfl (by first | exact .inl rfl | exact .inr rfl) (de_op od_shl de_int (de_op od_fdiv (de_op od_add (de_bits (dv 0)) de_int) de_int)))
  (db_cons (ds_set 2 sc_side_of.nd rfl (by first | exact .inl rfl | exact .inr rfl) (de_op od_fdiv (de_op od_add (dv 1) (de_op od_fdiv (dv 0) (dv 1))) de_int))
  (db_cons (ds_while passB (dt_cmp od_lt (dv 2) (dv 1) (nomark _))
  (db_cons (ds_set 1 sc_side_of.nd rfl (by first | exact .inl rfl | exact .inr rfl) (dv 2))
  (db_one (ds_set 2 sc_side_of.nd rfl (by first | exact .inl rfl | exact .inr rfl) (de_op od_fdiv (de_op od_add (dv 1) (de_op od_fdiv (dv 0) (dv 1))) de_int)))))
  (db_one (ds_ret (dv 1)))))))
theorem ok_is_square (T : Txt w K mg base) : FnG P w K mg base (L2N.CX P w) 2 T.f_is_square T.fd_is_square ["number"] (upF K (sp_is_square)) := by
  refine okD (k := 1) (t := fun Ed => t_is_square Ed) T.F_is_square sc_is_square (len_is_square) (fun cdv A outer s H E Ed hr => ?_) (pure_is_square)
  exact (db_one (ds_ret (de_and (de_cmp od_ge (dv 0) de_int (nomark _)) (de_one (de_cmp (od_eq hr.units) (de_op od_pow (de_call (ok_side_of T) (hr.mono (by decide)) (by rfl) T.m_side_of T.F_side_of.kp T.b_side_of .nil (fun _ _ => rpL_nil) takesB (da_cons (dv 0) da_nil)) de_int) (dv 0) (nomark _))))))
theorem ok_table_of_row (T : Txt w K mg base) : FnG P w K mg base (L2N.CX P w) 1 T.f_table_of_row T.fd_table_of_row ["row"] (upF K (sp_table_of_row)) := by
  refine okD (k := 0) (t := fun Ed => t_table_of_row Ed) T.F_table_of_row sc_table_of_row (len_table_of_row) (fun cdv A outer s H E Ed hr => ?_) (pure_table_of_row)
  exact (db_cons (ds_asg (vs := [1, 2, 3, 4]) (de_tup (da_cons de_int (da_cons de_int (da_cons de_int (da_cons de_int da_nil))))) (dg_tup rfl (dgs_cons (dg_name (i := 1) sc_table_of_row.nd rfl (by first | exact Or.inl rfl | exact Or.inr rfl) (by decide)) (dgs_cons (dg_name (i := 2) sc_table_of_row.nd rfl (by first | exact Or.inl rfl | exact Or.inr rfl) (by decide)) (dgs_cons (dg_name (i := 3) sc_table_of_row.nd rfl (by first | exact Or.inl rfl | exact Or.inr rfl) (by decide)) (dgs_cons (dg_name (i := 4) sc_table_of_row.nd rfl (by first | exact Or.inl rfl | exact Or.inr rfl) (by decide)) dgs_nil))))))
  (db_cons (ds_for (vs := [5]) passB rfl (di_any (dv 0)) (dg_name (i := 5) sc_table_of_row.nd rfl (by first | exact Or.inl rfl | exact Or.inr rfl) (by decide))
  (db_cons (ds_par 1 2 rfl sc_table_of_row.nd rfl rfl (by decide) rfl rfl (da_cons (de_op od_add (de_op od_mulA (dv 1) (dv 5)) (dv 2)) (da_cons (dv 1) da_nil)) (by rfl))
  (db_one (ds_par 3 4 rfl sc_table_of_row.nd rfl rfl (by decide) rfl rfl (da_cons (de_op od_add (de_op od_mulA (dv 3) (dv 5)) (dv 4)) (da_cons (dv 3) da_nil)) (by rfl)))))
  (db_one (ds_ret (de_tup (da_cons (dv 1) (da_cons (dv 2) (da_cons (dv 3) (da_cons (dv 4) da_nil)))))))))
theorem ok_form_of_row (T : Txt w K mg base) : FnG P w K mg base (L2N.CX P w) 2 T.f_form_of_row T.fd_form_of_row ["row"] (upF K (sp_form_of_row)) := by
  refine okD (k := 1) (t := fun Ed => t_form_of_row Ed) T.F_form_of_row sc_form_of_row (len_form_of_row) (fun cdv A outer s H E Ed hr => ?_) (pure_form_of_row)
  exact (db_cons (ds_asg (vs := [1, 2, 3, 4]) (de_call (ok_table_of_row T) (hr.mono (by decide)) (by rfl) T.m_table_of_row T.F_table_of_row.kp T.b_table_of_row .nil (fun _ _ => rpL_nil) takesB (da_cons (dv 0) da_nil)) (dg_tup rfl (dgs_cons (dg_name (i := 1) sc_form_of_row.nd rfl (by first | exact Or.inl rfl | exact Or.inr rfl) (by decide)) (dgs_cons (dg_name (i := 2) sc_form_of_row.nd rfl (by first | exact Or.inl rfl | exact Or.inr rfl) (by decide)) (dgs_cons (dg_name (i := 3) sc_form_of_row.nd rfl (by first | exact Or.inl rfl | exact Or.inr rfl) (by decide)) (dgs_cons (dg_name (i := 4) sc_form_of_row.nd rfl (by first | exact Or.inl rfl | exact Or.inr rfl) (by decide)) dgs_nil))))))
  (db_cons (ds_set 5 sc_form_of_row.nd rfl (by first | exact .inl rfl | exact .inr rfl) (de_call (ok_shared_by T) (hr.mono (by decide)) (by rfl) T.m_shared_by T.F_shared_by.kp T.b_shared_by .nil (fun _ _ => rpL_nil) takesB (da_cons (de_call (ok_shared_by T) (hr.mono (by decide)) (by rfl) T.m_shared_by T.F_shared_by.kp T.b_shared_by .nil (fun _ _ => rpL_nil) takesB (da_cons (dv 3) (da_cons (de_op od_sub (dv 4) (dv 1)) da_nil))) (da_cons (dv 2) da_nil))))
  (db_one (ds_ret (de_tup (da_cons (de_op od_fdiv (dv 3) (dv 5)) (da_cons (de_op od_fdiv (de_op od_sub (dv 4) (dv 1)) (dv 5)) (da_cons (de_op od_fdiv (de_op od_sub de_int (dv 2)) (dv 5)) da_nil))))))))
theorem ok_is_word (T : Txt w K mg base) : FnG P w K mg base (L2N.CX P w) 1 T.f_is_word T.fd_is_word ["thing"] (upF K (sp_is_word)) := by
  refine okD (k := 0) (t := fun Ed => t_is_word Ed) T.F_is_word sc_is_word (len_is_word) (fun cdv A outer s H E Ed hr => ?_) (pure_is_word)
  exact (db_cons (ds_if (DW.pt (dw_or (dt_not (dt_val (de_callB cd_isi (by rfl) T.n_isinstance (by decide +kernel) (da_cons (dv 0) (da_cons (de_ty (by rfl) T.n_str (by decide +kernel)) da_nil))))) (dw_or1 (dt_not (dt_chain od_le od_le de_int (de_callB cd_len (by rfl) T.n_len (by decide +kernel) (da_cons (dv 0) da_nil)) (de_k (by rfl) T.m_MOST_LETTERS T.r_MOST_LETTERS T.k_MOST_LETTERS)))))) (db_one (ds_ret de_bl)) db_nil)
  (db_one (ds_ret (de_callB (cd_all rfl) (by rfl) T.n_all (by decide +kernel) (da_cons (de_lc (own := [("letter", 1)]) rfl sc_is_word.nd (di_any (dv 0)) (blkOk_by (own := [("letter", 1)]) (N := N_is_word) (sc := defScope s_is_word) (by decide +kernel)) (fun _ _ _ _ _ => (dg_name (i := 1) sc_is_word.nd rfl (by first | exact Or.inl rfl | exact Or.inr rfl) (by decide))) (fun _ _ _ _ _ => dts_nil) (fun _ _ _ _ _ => (de_cmp od_inS (dv 1) (de_k (by rfl) T.m_LETTERS T.r_LETTERS T.k_LETTERS) (by with_unfolding_all rfl)))) da_nil)))))
theorem ok_is_pair_of (T : Txt w K mg base) : FnG P w K mg base (L2N.CX P w) 1 T.f_is_pair_of T.fd_is_pair_of ["thing"] (upF K (sp_is_pair_of)) := by
  refine okD (k := 0) (t := fun Ed => t_is_pair_of Ed) T.F_is_pair_of sc_is_pair_of (len_is_pair_of) (fun cdv A outer s H E Ed hr => ?_) (pure_is_pair_of)
  exact (db_one (ds_ret (de_and (de_callB cd_isi (by rfl) T.n_isinstance (by decide +kernel) (da_cons (dv 0) (da_cons (de_ty (by rfl) T.n_tuple (by decide +kernel)) da_nil))) (de_one (de_cmp (od_eq hr.units) (de_callB cd_len (by rfl) T.n_len (by decide +kernel) (da_cons (dv 0) da_nil)) de_int (nomark _))))))
theorem ok_is_table (T : Txt w K mg base) : FnG P w K mg base (L2N.CX P w) 3 T.f_is_table T.fd_is_table ["thing"] (upF K (sp_is_table)) := by
  refine okD (k := 2) (t := fun Ed => t_is_table Ed) T.F_is_table sc_is_table (len_is_table) (fun cdv A outer s H E Ed hr => ?_) (pure_is_table)
  exact (db_one (ds_ret (de_and (de_call (ok_is_pair_of T) (hr.mono (by decide)) (by rfl) T.m_is_pair_of T.F_is_pair_of.kp T.b_is_pair_of .nil (fun _ _ => rpL_nil) takesB (da_cons (dv 0) da_nil)) (de_one (de_callB (cd_all rfl) (by rfl) T.n_all (by decide +kernel) (da_cons (de_lc (own := [("row", 1)]) rfl sc_is_table.nd (di_any (dv 0)) (blkOk_by (own := [("row", 1)]) (N := N_is_table) (sc := defScope s_is_table) (by decide +kernel)) (fun _ _ _ _ _ => (dg_name (i := 1) sc_is_table.nd rfl (by first | exact Or.inl rfl | exact Or.inr rfl) (by decide))) (fun _ _ _ _ _ => dts_nil) (fun _ _ _ _ _ => (de_and (de_call (ok_is_pair_of T) (hr.mono (by decide)) (by rfl) T.m_is_pair_of T.F_is_pair_of.kp T.b_is_pair_of .nil (fun _ _ => rpL_nil) takes0N (da_cons (dv 1) da_nil)) (de_one (de_call (ok_are_wholes T) (hr.mono (by decide)) (by rfl) T.m_are_wholes T.F_are_wholes.kp T.b_are_wholes .nil (fun _ _ => rpL_nil) takes0N (da_cons (dv 1) da_nil)))))) da_nil))))))
theorem ok_size_of (T : Txt w K mg base) : FnG P w K mg base (L2N.CX P w) 1 T.f_size_of T.fd_size_of ["table"] (upF K (sp_size_of)) := by
  refine okD (k := 0) (t := fun Ed => t_size_of Ed) T.F_size_of sc_size_of (len_size_of) (fun cdv A outer s H E Ed hr => ?_) (pure_size_of)
  exact (db_cons (ds_asg (vs := [1, 2, 3, 4]) (dv 0) (dg_tup rfl (dgs_cons (dg_tup rfl (dgs_cons (dg_name (i := 1) sc_size_of.nd rfl (by first | exact Or.inl rfl | exact Or.inr rfl) (by decide)) (dgs_cons (dg_name (i := 2) sc_size_of.nd rfl (by first | exact Or.inl rfl | exact Or.inr rfl) (by decide)) dgs_nil))) (dgs_cons (dg_tup rfl (dgs_cons (dg_name (i := 3) sc_size_of.nd rfl (by first | exact Or.inl rfl | exact Or.inr rfl) (by decide)) (dgs_cons (dg_name (i := 4) sc_size_of.nd rfl (by first | exact Or.inl rfl | exact Or.inr rfl) (by decide)) dgs_nil))) dgs_nil))))
  (db_one (ds_ret (de_op od_sub (de_op od_mulA (dv 1) (dv 4)) (de_op od_mulA (dv 2) (dv 3))))))
theorem ok_is_turning (T : Txt w K mg base) : FnG P w K mg base (L2N.CX P w) 4 T.f_is_turning T.fd_is_turning ["thing"] (upF K (sp_is_turning)) := by
  refine okD (k := 3) (t := fun Ed => t_is_turning Ed) T.F_is_turning sc_is_turning (len_is_turning) (fun cdv A outer s H E Ed hr => ?_) (pure_is_turning)
  exact (db_one (ds_ret (de_and (de_call (ok_is_table T) (hr.mono (by decide)) (by rfl) T.m_is_table T.F_is_table.kp T.b_is_table .nil (fun _ _ => rpL_nil) takesB (da_cons (dv 0) da_nil)) (de_one (de_cmp (od_eq hr.units) (de_callB cd_abs (by rfl) T.n_abs (by decide +kernel) (da_cons (de_call (ok_size_of T) (hr.mono (by decide)) (by rfl) T.m_size_of T.F_size_of.kp T.b_size_of .nil (fun _ _ => rpL_nil) takesB (da_cons (dv 0) da_nil)) da_nil)) de_int (nomark _))))))
theorem ok_look_turning (T : Txt w K mg base) : FnG P w K mg base (L2N.CX P w) 5 T.f_look_turning T.fd_look_turning ["thing"] (upF K (sp_look_turning)) := by
  refine okD (k := 4) (t := fun Ed => t_look_turning Ed) T.F_look_turning sc_look_turning (len_look_turning) (fun cdv A outer s H E Ed hr => ?_) (pure_look_turning)
  exact (db_one (ds_if (dt_not (dt_val (de_call (ok_is_turning T) (hr.mono (by decide)) (by rfl) T.m_is_turning T.F_is_turning.kp T.b_is_turning .nil (fun _ _ => rpL_nil) takesB (da_cons (dv 0) da_nil)))) (db_one (ds_raiseC rfl takesB PySem.F.excBase_ValueError T.R_NoTable T.gc_NoTable (by rfl))) db_nil))
theorem ok_Form___init__ (T : Txt w K mg base) : FnG P w K mg base (L2N.CX P w) 3 T.f_Form___init__ T.fd_Form___init__ ["self", "a", "b", "c"] (upF K (sp_Form___init__)) := by
  refine okD (k := 2) (t := fun Ed => t_Form___init__ Ed) T.F_Form___init__ sc_Form___init__ (len_Form___init__) (fun cdv A outer s H E Ed hr => ?_) (pure_Form___init__)
  exact (db_cons (ds_if (dt_not (dt_val (de_call (ok_are_wholes T) (hr.mono (by decide)) (by rfl) T.m_are_wholes T.F_are_wholes.kp T.b_are_wholes .nil (fun _ _ => rpL_nil) takesB (da_cons (de_tup (da_cons (dv 1) (da_cons (dv 2) (da_cons (dv 3) da_nil)))) da_nil)))) (db_one (ds_raiseF1 rfl takesB PySem.F.excBase_ArithmeticError T.X_NoForm (in_NoForm T) (hr.mono (by decide)) T.bI_NoForm T.gc_NoForm (by rfl) (da_cons de_non da_nil))) db_nil)
  (db_cons (ds_set 4 sc_Form___init__.nd rfl (by first | exact .inl rfl | exact .inr rfl) (de_op od_sub (de_op od_pow (dv 2) de_int) (de_op od_mulA (de_op od_mulA de_int (dv 1)) (dv 3))))
  (db_cons (ds_if (DW.pt (dw_or (dt_cmp od_lt (dv 4) de_int (nomark _)) (dw_or1 (dt_val (de_call (ok_is_square T) (hr.mono (by decide)) (by rfl) T.m_is_square T.F_is_square.kp T.b_is_square .nil (fun _ _ => rpL_nil) takesB (da_cons (dv 4) da_nil)))))) (db_one (ds_raiseF1 rfl takesB PySem.F.excBase_ArithmeticError T.X_NoForm (in_NoForm T) (hr.mono (by decide)) T.bI_NoForm T.gc_NoForm (by rfl) (da_cons (dv 4) da_nil))) db_nil)
  (db_cons (ds_put T.cl_Form (noAttrB_ok T.na_Form (by decide +kernel)) (dv 0) (de_tup (da_cons (dv 1) (da_cons (dv 2) (da_cons (dv 3) da_nil)))) (by rfl))
  (db_one (ds_put T.cl_Form (noAttrB_ok T.na_Form (by decide +kernel)) (dv 0) (dv 4) (by rfl)))))))
theorem ok_Form_parts (T : Txt w K mg base) : FnG P w K mg base (L2N.CX P w) 1 T.f_Form_parts T.fd_Form_parts ["self"] (upF K (sp_Form_parts)) := by
  refine okD (k := 0) (t := fun Ed => t_Form_parts Ed) T.F_Form_parts sc_Form_parts (len_Form_parts) (fun cdv A outer s H E Ed hr => ?_) (pure_Form_parts)
  exact (db_one (ds_ret (de_fld T.cl_Form (noAttrB_ok T.na_Form (by decide +kernel)) (dv 0))))
theorem ok_Form_under_root (T : Txt w K mg base) : FnG P w K mg base (L2N.CX P w) 1 T.f_Form_under_root T.fd_Form_under_root ["self"] (upF K (sp_Form_under_root)) := by
  refine okD (k := 0) (t := fun Ed => t_Form_under_root Ed) T.F_Form_under_root sc_Form_under_root (len_Form_under_root) (fun cdv A outer s H E Ed hr => ?_) (pure_Form_under_root)
  exact (db_one (ds_ret (de_fld T.cl_Form (noAttrB_ok T.na_Form (by decide +kernel)) (dv 0))))
theorem ok_Form_value (T : Txt w K mg base) : FnG P w K mg base (L2N.CX P w) 1 T.f_Form_value T.fd_Form_value ["self", "x", "y"] (upF K (sp_Form_value)) := by
  refine okD (k := 0) (t := fun Ed => t_Form_value Ed) T.F_Form_value sc_Form_value (len_Form_value) (fun cdv A outer s H E Ed hr => ?_) (pure_Form_value)
  exact (db_cons (ds_asg (vs := [3, 4, 5]) (de_fld T.cl_Form (noAttrB_ok T.na_Form (by decide +kernel)) (dv 0)) (dg_tup rfl (dgs_cons (dg_name (i := 3) sc_Form_value.nd rfl (by first | exact Or.inl rfl | exact Or.inr rfl) (by decide)) (dgs_cons (dg_name (i := 4) sc_Form_value.nd rfl (by first | exact Or.inl rfl | exact Or.inr rfl) (by decide)) (dgs_cons (dg_name (i := 5) sc_Form_value.nd rfl (by first | exact Or.inl rfl | exact Or.inr rfl) (by decide)) dgs_nil)))))
  (db_one (ds_ret (de_op od_add (de_op od_add (de_op od_mulA (dv 3) (de_op od_pow (dv 1) de_int)) (de_op od_mulA (de_op od_mulA (dv 4) (dv 1)) (dv 2))) (de_op od_mulA (dv 5) (de_op od_pow (dv 2) de_int))))))
theorem ok_Form_turned (T : Txt w K mg base) : FnG P w K mg base (L2N.CX P w) 6 T.f_Form_turned T.fd_Form_turned ["self", "by"] (upF K (sp_Form_turned)) := by
  refine okD (k := 5) (t := fun Ed => t_Form_turned Ed) T.F_Form_turned sc_Form_turned (len_Form_turned) (fun cdv A outer s H E Ed hr => ?_) (pure_Form_turned)
  exact (db_cons (ds_expr (de_call (ok_look_turning T) (hr.mono (by decide)) (by rfl) T.m_look_turning T.F_look_turning.kp T.b_look_turning .nil (fun _ _ => rpL_nil) takesB (da_cons (dv 1) da_nil)))
  (db_cons (ds_asg (vs := [2, 3, 4, 5]) (dv 1) (dg_tup rfl (dgs_cons (dg_tup rfl (dgs_cons (dg_name (i := 2) sc_Form_turned.nd rfl (by first | exact Or.inl rfl | exact Or.inr rfl) (by decide)) (dgs_cons (dg_name (i := 3) sc_Form_turned.nd rfl (by first | exact Or.inl rfl | exact Or.inr rfl) (by decide)) dgs_nil))) (dgs_cons (dg_tup rfl (dgs_cons (dg_name (i := 4) sc_Form_turned.nd rfl (by first | exact Or.inl rfl | exact Or.inr rfl) (by decide)) (dgs_cons (dg_name (i := 5) sc_Form_turned.nd rfl (by first | exact Or.inl rfl | exact Or.inr rfl) (by decide)) dgs_nil))) dgs_nil))))
  (db_cons (ds_asg (vs := [6, 7, 8]) (de_fld T.cl_Form (noAttrB_ok T.na_Form (by decide +kernel)) (dv 0)) (dg_tup rfl (dgs_cons (dg_name (i := 6) sc_Form_turned.nd rfl (by first | exact Or.inl rfl | exact Or.inr rfl) (by decide)) (dgs_cons (dg_name (i := 7) sc_Form_turned.nd rfl (by first | exact Or.inl rfl | exact Or.inr rfl) (by decide)) (dgs_cons (dg_name (i := 8) sc_Form_turned.nd rfl (by first | exact Or.inl rfl | exact Or.inr rfl) (by decide)) dgs_nil)))))
  (db_cons (ds_set 9 sc_Form_turned.nd rfl (by first | exact .inl rfl | exact .inr rfl) (de_op od_add (de_op od_add (de_op od_mulA (de_op od_mulA (de_op od_mulA de_int (dv 6)) (dv 2)) (dv 3)) (de_op od_mulA (dv 7) (de_op od_add (de_op od_mulA (dv 2) (dv 5)) (de_op od_mulA (dv 3) (dv 4))))) (de_op od_mulA (de_op od_mulA (de_op od_mulA de_int (dv 8)) (dv 4)) (dv 5))))
  (db_one (ds_ret (de_make T.cl_Form (ok_Form___init__ T) (hr.mono (by decide)) (by rfl) T.gc_Form T.b_Form___init__ .nil (fun _ _ => rpL_nil) takesB (da_cons (de_meth T.cl_Form T.M_Form_value (dv 0) (ok_Form_value T) (hr.mono (by decide)) T.b_Form_value .nil (fun _ _ => rpL_nil) takesB (da_cons (dv 2) (da_cons (dv 4) da_nil))) (da_cons (dv 9) (da_cons (de_meth T.cl_Form T.M_Form_value (dv 0) (ok_Form_value T) (hr.mono (by decide)) T.b_Form_value .nil (fun _ _ => rpL_nil) takesB (da_cons (dv 3) (da_cons (dv 5) da_nil))) da_nil))))))))))
theorem ok_even_word (T : Txt w K mg base) : FnG P w K mg base (L2N.CX P w) 1 T.f_even_word T.fd_even_word ["many_b", "many_a"] (upF K (sp_even_word)) := by
  refine okD (k := 0) (t := fun Ed => t_even_word Ed) T.F_even_word sc_even_word (len_even_word) (fun cdv A outer s H E Ed hr => ?_) (pure_even_word)
  exact (db_cons (ds_set 2 sc_even_word.nd rfl (by first | exact .inl rfl | exact .inr rfl) (de_op od_add (dv 0) (dv 1)))
  (db_one (ds_ret (de_join de_str (da_cons (de_lc (own := [("place", 3)]) rfl sc_even_word.nd (di_rng2 (by rfl) T.n_range (da_cons de_int (da_cons (de_op od_add (dv 2) de_int) da_nil))) (blkOk_by (own := [("place", 3)]) (N := N_even_word) (sc := defScope s_even_word) (by decide +kernel)) (fun _ _ _ _ _ => (dg_name (i := 3) sc_even_word.nd rfl (by first | exact Or.inl rfl | exact Or.inr rfl) (by decide))) (fun _ _ _ _ _ => dts_nil) (fun _ _ _ _ _ => (de_ix de_str (de_op od_sub (de_op od_fdiv (de_op od_mulA (dv 3) (dv 0)) (dv 2)) (de_op od_fdiv (de_op od_mulA (de_op od_sub (dv 3) de_int) (dv 0)) (dv 2))) (fun _ _ => rfl)))) da_nil)))))
theorem ok_is_step_word (T : Txt w K mg base) : FnG P w K mg base (L2N.CX P w) 2 T.f_is_step_word T.fd_is_step_word ["thing"] (upF K (sp_is_step_word)) := by
  refine okD (k := 1) (t := fun Ed => t_is_step_word Ed) T.F_is_step_word sc_is_step_word (len_is_step_word) (fun cdv A outer s H E Ed hr => ?_) (pure_is_step_word)
  exact (db_cons (ds_if (dt_not (dt_val (de_call (ok_is_word T) (hr.mono (by decide)) (by rfl) T.m_is_word T.F_is_word.kp T.b_is_word .nil (fun _ _ => rpL_nil) takesB (da_cons (dv 0) da_nil)))) (db_one (ds_ret de_bl)) db_nil)
  (db_cons (ds_set 1 sc_is_step_word.nd rfl (by first | exact .inl rfl | exact .inr rfl) (de_count (dv 0) (da_cons de_str da_nil)))
  (db_one (ds_ret (de_and (de_cmp (od_eq hr.units) (de_call (ok_shared_by T) (hr.mono (by decide)) (by rfl) T.m_shared_by T.F_shared_by.kp T.b_shared_by .nil (fun _ _ => rpL_nil) takesB (da_cons (dv 1) (da_cons (de_callB cd_len (by rfl) T.n_len (by decide +kernel) (da_cons (dv 0) da_nil)) da_nil))) de_int (nomark _)) (de_one (de_cmp (od_eq hr.units) (dv 0) (de_call (ok_even_word T) (hr.mono (by decide)) (by rfl) T.m_even_word T.F_even_word.kp T.b_even_word .nil (fun _ _ => rpL_nil) takesB (da_cons (dv 1) (da_cons (de_op od_sub (de_callB cd_len (by rfl) T.n_len (by decide +kernel) (da_cons (dv 0) da_nil)) (dv 1)) da_nil))) (nomark _))))))))
theorem ok_row_of_word (T : Txt w K mg base) : FnG P w K mg base (L2N.CX P w) 1 T.f_row_of_word T.fd_row_of_word ["word"] (upF K (sp_row_of_word)) := by
  refine okD (k := 0) (t := fun Ed => t_row_of_word Ed) T.F_row_of_word sc_row_of_word (len_row_of_word) (fun cdv A outer s H E Ed hr => ?_) (pure_row_of_word)
  exact (db_one (ds_ret (de_sumT rfl (by rfl) T.n_sum (by decide +kernel) (da_cons (de_lc (own := [("letter", 1)]) rfl sc_row_of_word.nd (di_any (dv 0)) (blkOk_by (own := [("letter", 1)]) (N := N_row_of_word) (sc := defScope s_row_of_word) (by decide +kernel)) (fun _ _ _ _ _ => (dg_name (i := 1) sc_row_of_word.nd rfl (by first | exact Or.inl rfl | exact Or.inr rfl) (by decide))) (fun _ _ _ _ _ => dts_nil) (fun _ _ _ _ _ => (de_kix (by rfl) T.m_NUMBERS T.k_NUMBERS (dv 1) (fun _ _ => rfl)))) da_nil) (dk_cons (de_tup da_nil) dk_nil))))
theorem ok_form_by (T : Txt w K mg base) : FnG P w K mg base (L2N.CX P w) 5 T.f_form_by T.fd_form_by ["word"] (upF K (sp_form_by)) := by
  refine okD (k := 4) (t := fun Ed => t_form_by Ed) T.F_form_by sc_form_by (len_form_by) (fun cdv A outer s H E Ed hr => ?_) (pure_form_by)
  exact (db_cons (ds_asg (vs := [1, 2, 3]) (de_call (ok_form_of_row T) (hr.mono (by decide)) (by rfl) T.m_form_of_row T.F_form_of_row.kp T.b_form_of_row .nil (fun _ _ => rpL_nil) takesB (da_cons (de_call (ok_row_of_word T) (hr.mono (by decide)) (by rfl) T.m_row_of_word T.F_row_of_word.kp T.b_row_of_word .nil (fun _ _ => rpL_nil) takesB (da_cons (dv 0) da_nil)) da_nil)) (dg_tup rfl (dgs_cons (dg_name (i := 1) sc_form_by.nd rfl (by first | exact Or.inl rfl | exact Or.inr rfl) (by decide)) (dgs_cons (dg_name (i := 2) sc_form_by.nd rfl (by first | exact Or.inl rfl | exact Or.inr rfl) (by decide)) (dgs_cons (dg_name (i := 3) sc_form_by.nd rfl (by first | exact Or.inl rfl | exact Or.inr rfl) (by decide)) dgs_nil)))))
  (db_one (ds_ret (de_make T.cl_Form (ok_Form___init__ T) (hr.mono (by decide)) (by rfl) T.gc_Form T.b_Form___init__ .nil (fun _ _ => rpL_nil) takesB (da_cons (dv 1) (da_cons (dv 2) (da_cons (dv 3) da_nil)))))))
theorem ok_is_tuple_of (T : Txt w K mg base) : FnG P w K mg base (L2N.CX P w) 1 T.f_is_tuple_of T.fd_is_tuple_of ["thing", "many"] (upF K (sp_is_tuple_of)) := by
  refine okD (k := 0) (t := fun Ed => t_is_tuple_of Ed) T.F_is_tuple_of sc_is_tuple_of (len_is_tuple_of) (fun cdv A outer s H E Ed hr => ?_) (pure_is_tuple_of)
  exact (db_one (ds_ret (de_and (de_callB cd_isi (by rfl) T.n_isinstance (by decide +kernel) (da_cons (dv 0) (da_cons (de_ty (by rfl) T.n_tuple (by decide +kernel)) da_nil))) (de_one (de_cmp (od_eq hr.units) (de_callB cd_len (by rfl) T.n_len (by decide +kernel) (da_cons (dv 0) da_nil)) (dv 1) (nomark _))))))
theorem ok_form_in (T : Txt w K mg base) : FnG P w K mg base (L2N.CX P w) 5 T.f_form_in T.fd_form_in ["a", "b", "c"] (upF K (sp_form_in)) := by
  refine okD (k := 4) (t := fun Ed => t_form_in Ed) T.F_form_in sc_form_in (len_form_in) (fun cdv A outer s H E Ed hr => ?_) (pure_form_in)
  exact (db_one (ds_try (rs := rsX) (tb := fun Wd => (dRet (dMake "Form" sp_Form___init__ [] Wd (dCons (dVar 0) (dCons (dVar 1) (dCons (dVar 2) dNil)))))) rfl rfl takesB (fun n h => (T.wf n h).2) (fun W' pn xe tk' passB => (db_one (ds_ret (de_make T.cl_Form (ok_Form___init__ T) (hr.mono (by decide)) (by rfl) T.gc_Form T.b_Form___init__ .nil (fun _ _ => rpL_nil) tk' (da_cons (dv 0) (da_cons (dv 1) (da_cons (dv 2) da_nil)))))))
  (.cons (m := none) ⟨rfl, True.intro⟩ (.one (nmO (T.own _ (by decide +kernel)) (by rfl))) (by decide +kernel) (fun a oe od x pn sf => (db_cls fun hx => (db_one (ds_ret de_non))))
  .nil)))
theorem ok_form_below_holds (T : Txt w K mg base) : FnG P w K mg base (L2N.CX P w) 7 T.f_form_below_holds T.fd_form_below_holds ["a", "b", "c", "paper"] (upF K (sp_form_below_holds)) := by
  refine okD (k := 6) (t := fun Ed => t_form_below_holds Ed) T.F_form_below_holds sc_form_below_holds (len_form_below_holds) (fun cdv A outer s H E Ed hr => ?_) (pure_form_below_holds)
  exact (db_cons (ds_set 4 sc_form_below_holds.nd rfl (by first | exact .inl rfl | exact .inr rfl) (de_call (ok_form_in T) (hr.mono (by decide)) (by rfl) T.m_form_in T.F_form_in.kp T.b_form_in .nil (fun _ _ => rpL_nil) takesB (da_cons (dv 0) (da_cons (dv 1) (da_cons (dv 2) da_nil)))))
  (db_cons (ds_if (DW.pt (dw_or (dt_cmp od_is (dv 4) de_non (nomark _)) (dw_or1 (dt_not (dt_val (de_call (ok_is_tuple_of T) (hr.mono (by decide)) (by rfl) T.m_is_tuple_of T.F_is_tuple_of.kp T.b_is_tuple_of .nil (fun _ _ => rpL_nil) takesB (da_cons (dv 3) (da_cons de_int da_nil)))))))) (db_one (ds_ret de_bl)) db_nil)
  (db_cons (ds_asg (vs := [5, 6, 7]) (dv 3) (dg_tup rfl (dgs_cons (dg_name (i := 5) sc_form_below_holds.nd rfl (by first | exact Or.inl rfl | exact Or.inr rfl) (by decide)) (dgs_cons (dg_name (i := 6) sc_form_below_holds.nd rfl (by first | exact Or.inl rfl | exact Or.inr rfl) (by decide)) (dgs_cons (dg_name (i := 7) sc_form_below_holds.nd rfl (by first | exact Or.inl rfl | exact Or.inr rfl) (by decide)) dgs_nil)))))
  (db_cons (ds_if (DW.pt (dw_or (dt_not (dt_val (de_call (ok_is_step_word T) (hr.mono (by decide)) (by rfl) T.m_is_step_word T.F_is_step_word.kp T.b_is_step_word .nil (fun _ _ => rpL_nil) takesB (da_cons (dv 5) da_nil)))) (dw_or (dt_not (dt_val (de_call (ok_is_turning T) (hr.mono (by decide)) (by rfl) T.m_is_turning T.F_is_turning.kp T.b_is_turning .nil (fun _ _ => rpL_nil) takesB (da_cons (dv 6) da_nil)))) (dw_or (dt_not (dt_val (de_call (ok_is_whole T) (hr.mono (by decide)) (by rfl) T.m_is_whole T.F_is_whole.kp T.b_is_whole .nil (fun _ _ => rpL_nil) takesB (da_cons (dv 7) da_nil)))) (dw_or1 (dt_cmp (od_eq hr.units) (dv 7) de_int (nomark _))))))) (db_one (ds_ret de_bl)) db_nil)
  (db_one (ds_ret (de_cmp (od_eq hr.units) (de_meth0 T.cl_Form T.M_Form_parts (de_meth T.cl_Form T.M_Form_turned (dv 4) (ok_Form_turned T) (hr.mono (by decide)) T.b_Form_turned .nil (fun _ _ => rpL_nil) takesB (da_cons (dv 6) da_nil)) (ok_Form_parts T) (hr.mono (by decide)) T.b_Form_parts .nil (fun _ _ => rpL_nil) takesB) (de_callTy (cd_tupA rfl) (by rfl) T.n_tuple (by decide +kernel) (da_cons (de_lc (own := [("number", 8)]) rfl sc_form_below_holds.nd (di_any (de_meth0 T.cl_Form T.M_Form_parts (de_call (ok_form_by T) (hr.mono (by decide)) (by rfl) T.m_form_by T.F_form_by.kp T.b_form_by .nil (fun _ _ => rpL_nil) takesB (da_cons (dv 5) da_nil)) (ok_Form_parts T) (hr.mono (by decide)) T.b_Form_parts .nil (fun _ _ => rpL_nil) takesB)) (blkOk_by (own := [("number", 8)]) (N := N_form_below_holds) (sc := defScope s_form_below_holds) (by decide +kernel)) (fun _ _ _ _ _ => (dg_name (i := 8) sc_form_below_holds.nd rfl (by first | exact Or.inl rfl | exact Or.inr rfl) (by decide))) (fun _ _ _ _ _ => dts_nil) (fun _ _ _ _ _ => (de_op od_mulA (dv 7) (dv 8)))) da_nil)) (nomark _))))))))
theorem ok_form_above_holds (T : Txt w K mg base) : FnG P w K mg base (L2N.CX P w) 6 T.f_form_above_holds T.fd_form_above_holds ["a", "b", "c", "paper"] (upF K (sp_form_above_holds)) := by
  refine okD (k := 5) (t := fun Ed => t_form_above_holds Ed) T.F_form_above_holds sc_form_above_holds (len_form_above_holds) (fun cdv A outer s H E Ed hr => ?_) (pure_form_above_holds)
  exact (db_cons (ds_set 4 sc_form_above_holds.nd rfl (by first | exact .inl rfl | exact .inr rfl) (de_call (ok_form_in T) (hr.mono (by decide)) (by rfl) T.m_form_in T.F_form_in.kp T.b_form_in .nil (fun _ _ => rpL_nil) takesB (da_cons (dv 0) (da_cons (dv 1) (da_cons (dv 2) da_nil)))))
  (db_cons (ds_if (DW.pt (dw_or (dt_cmp od_is (dv 4) de_non (nomark _)) (dw_or (dt_not (dt_val (de_call (ok_is_tuple_of T) (hr.mono (by decide)) (by rfl) T.m_is_tuple_of T.F_is_tuple_of.kp T.b_is_tuple_of .nil (fun _ _ => rpL_nil) takesB (da_cons (dv 3) (da_cons de_int da_nil))))) (dw_or (dt_not (dt_val (de_call (ok_are_wholes T) (hr.mono (by decide)) (by rfl) T.m_are_wholes T.F_are_wholes.kp T.b_are_wholes .nil (fun _ _ => rpL_nil) takesB (da_cons (dv 3) da_nil)))) (dw_or1 (dt_cmp (od_eq hr.units) (dv 3) (de_tup (da_cons de_int (da_cons de_int da_nil))) (nomark _))))))) (db_one (ds_ret de_bl)) db_nil)
  (db_one (ds_ret (de_cmp od_le (de_op od_mulA (de_ix (de_k (by rfl) T.m_WALL T.r_WALL T.k_WALL) de_int (fun _ _ => rfl)) (de_op od_pow (de_meth T.cl_Form T.M_Form_value (dv 4) (ok_Form_value T) (hr.mono (by decide)) T.b_Form_value .nil (fun _ _ => rpL_nil) takesB (da_cons (de_ix (dv 3) de_int (fun _ _ => rfl)) (da_cons (de_ix (dv 3) de_int (fun _ _ => rfl)) da_nil))) de_int)) (de_meth0 T.cl_Form T.M_Form_under_root (dv 4) (ok_Form_under_root T) (hr.mono (by decide)) T.b_Form_under_root .nil (fun _ _ => rpL_nil) takesB) (nomark _))))))
theorem ok_holds (T : Txt w K mg base) : FnG P w K mg base (L2N.CX P w) 8 T.f_holds T.fd_holds ["claim", "paper"] (upF K (sp_holds)) := by
  refine okD (k := 7) (t := fun Ed => t_holds Ed) T.F_holds sc_holds (len_holds) (fun cdv A outer s H E Ed hr => ?_) (pure_holds)
  exact (db_cons (ds_if (DW.pt (dw_or (dt_not (dt_val (de_callB cd_isi (by rfl) T.n_isinstance (by decide +kernel) (da_cons (dv 0) (da_cons (de_ty (by rfl) T.n_tuple (by decide +kernel)) da_nil))))) (dw_or (dt_cmp (od_eq hr.units) (de_callB cd_len (by rfl) T.n_len (by decide +kernel) (da_cons (dv 0) da_nil)) de_int (nomark _)) (dw_or1 (dt_not (dt_val (de_callB cd_isi (by rfl) T.n_isinstance (by decide +kernel) (da_cons (de_ix (dv 0) de_int (fun _ _ => rfl)) (da_cons (de_ty (by rfl) T.n_str (by decide +kernel)) da_nil))))))))) (db_one (ds_ret de_bl)) db_nil)
  (db_cons (ds_par 2 3 rfl sc_holds.nd rfl rfl (by decide) rfl rfl (da_cons (de_ix (dv 0) de_int (fun _ _ => rfl)) (da_cons (de_op od_sub (de_callB cd_len (by rfl) T.n_len (by decide +kernel) (da_cons (dv 0) da_nil)) de_int) da_nil)) (by rfl))
  (db_cons (ds_if (DW.pt (dw_and (dt_cmp (od_eq hr.units) (dv 3) de_int (nomark _)) (dw_and1 (dt_kin (by rfl) T.m_HOLD T.q_HOLD (dv 2) (by with_unfolding_all rfl))))) (db_cons ds_never
  (db_one ds_never)) db_nil)
  (db_cons (ds_if (DW.pt (dw_and (dt_cmp (od_eq hr.units) (dv 3) de_int (nomark _)) (dw_and1 (dt_kin (by rfl) T.m_HOLD_SAME T.q_HOLD_SAME (dv 2) (by with_unfolding_all rfl))))) (db_cons ds_never
  (db_one ds_never)) db_nil)
  (db_cons (ds_if (DW.pt (dw_and (dt_cmp (od_eq hr.units) (dv 3) de_int (nomark _)) (dw_and1 (dt_kin (by rfl) T.m_HOLD_OF_THREE T.q_HOLD_OF_THREE (dv 2) (by with_unfolding_all rfl))))) (db_cons (ds_set 4 sc_holds.nd rfl (by first | exact .inl rfl | exact .inr rfl) (de_kix (by rfl) T.m_HOLD_OF_THREE T.k_HOLD_OF_THREE (dv 2) (fun _ _ => rfl)))
  (db_one (ds_ret (de_callV (k := 7) (i := 4) (cs := [("form_below_holds", sp_form_below_holds), ("form_above_holds", sp_form_above_holds)]) (fnW_cons (fnW_mk (ok_form_below_holds T) T.gn_form_below_holds T.F_form_below_holds.kp T.b_form_below_holds) (fnW_cons (fnW_mk (ok_form_above_holds T) T.gn_form_above_holds T.F_form_above_holds.kp T.b_form_above_holds) fnW_nil)) (hr.mono (by decide)) rfl (by first | exact Or.inl rfl | exact Or.inr (Or.inl rfl) | exact Or.inr (Or.inr rfl)) takesB (da_cons (de_ix (dv 0) de_int (fun _ _ => rfl)) (da_cons (de_ix (dv 0) de_int (fun _ _ => rfl)) (da_cons (de_ix (dv 0) de_int (fun _ _ => rfl)) (da_cons (dv 1) da_nil)))))))) db_nil)
  (db_one (ds_ret de_bl)))))))
theorem ok_law_urn (T : Txt w K mg base) : FnG P w K mg base (L2N.CX P w) 1 T.f_law_urn T.fd_law_urn ["_law_script", "_law_at"] (upF K (sp_law_urn)) := by
  refine okD (k := 0) (t := fun Ed => t_law_urn Ed) T.F_law_urn sc_law_urn (len_law_urn) (fun cdv A outer s H E Ed hr => ?_) (pure_law_urn)
  exact (db_cons (ds_set 2 sc_law_urn.nd rfl (by first | exact .inl rfl | exact .inr rfl) de_int)
  (db_cons (ds_if (dt_cmp od_lt (dv 1) (de_callB cd_len (by rfl) T.n_len (by decide +kernel) (da_cons (dv 0) da_nil)) (nomark _)) (db_one (ds_set 2 sc_law_urn.nd rfl (by first | exact .inl rfl | exact .inr rfl) (de_ix (dv 0) (dv 1) (fun _ _ => rfl)))) db_nil)
  (db_cons (ds_set 3 sc_law_urn.nd rfl (by first | exact .inl rfl | exact .inr rfl) (de_callB cd_abs (by rfl) T.n_abs (by decide +kernel) (da_cons (dv 2) da_nil)))
  (db_cons (ds_if (dt_cmp od_lt (dv 3) (de_op od_pow de_int de_int) (nomark _)) (db_one (ds_set 3 sc_law_urn.nd rfl (by first | exact .inl rfl | exact .inr rfl) de_int)) db_nil)
  (db_one (ds_ret (de_lstO (da_cons (dv 3) (da_cons (de_op od_add (de_op od_add (de_op od_add (de_op od_mod (dv 2) de_int) (de_op od_mulA (de_op od_mulA de_int (dv 1)) (dv 1))) (de_op od_mulA de_int (dv 1))) de_int) (da_cons de_int da_nil))))))))))
theorem ok_law_draw (T : Txt w K mg base) : FnG P w K mg base (L2N.CX P w) 1 T.f_law_draw T.fd_law_draw ["_law_urn_here", "_law_wide"] (upF K (sp_law_draw)) := by
  refine okD (k := 0) (t := fun Ed => t_law_draw Ed) T.F_law_draw sc_law_draw (len_law_draw) (fun cdv A outer s H E Ed hr => ?_) (pure_law_draw)
  exact (db_cons (ds_if (dt_cmp od_gt (de_ix (dv 0) de_int (fun _ _ => rfl)) de_int (nomark _)) (db_cons (ds_set 2 sc_law_draw.nd rfl (by first | exact .inl rfl | exact .inr rfl) (de_op od_mod (de_ix (dv 0) de_int (fun _ _ => rfl)) (dv 1)))
  (db_cons (ds_store (dv 0) de_int (de_op od_fdiv (de_ix (dv 0) de_int (fun _ _ => rfl)) (dv 1)))
  (db_one (ds_ret (dv 2))))) db_nil)
  (db_cons (ds_set 3 sc_law_draw.nd rfl (by first | exact .inl rfl | exact .inr rfl) (de_tup (da_cons de_int (da_cons de_int (da_cons de_int (da_cons de_int (da_cons de_int (da_cons de_int (da_cons de_int da_nil)))))))))
  (db_cons (ds_store (dv 0) de_int (de_op od_add (de_ix (dv 0) de_int (fun _ _ => rfl)) de_int))
  (db_cons (ds_set 4 sc_law_draw.nd rfl (by first | exact .inl rfl | exact .inr rfl) (de_ix (dv 0) de_int (fun _ _ => rfl)))
  (db_cons (ds_set 5 sc_law_draw.nd rfl (by first | exact .inl rfl | exact .inr rfl) (de_op od_add (de_op od_add (de_op od_mulA (de_ix (dv 0) de_int (fun _ _ => rfl)) (de_op od_add (de_op od_mulA de_int (dv 4)) de_int)) (de_op od_mulA (de_op od_mulA de_int (dv 4)) (dv 4))) de_int))
  (db_cons (ds_set 6 sc_law_draw.nd rfl (by first | exact .inl rfl | exact .inr rfl) (de_op od_mod (de_op od_pow (dv 5) de_int) (de_ix (dv 3) (de_op od_mod (dv 4) de_int) (fun _ _ => rfl))))
  (db_one (ds_ret (de_op od_mod (de_op od_fdiv (de_op od_mod (de_op od_mulA (dv 6) (de_op od_add (de_op od_fdiv (dv 6) de_int) (dv 4))) (de_ix (dv 3) (de_op od_mod (de_op od_add (dv 4) de_int) de_int) (fun _ _ => rfl))) de_int) (dv 1))))))))))
theorem ok_law_whole (T : Txt w K mg base) : FnG P w K mg base (L2N.CX P w) 1 T.f_law_whole T.fd_law_whole ["_law_thing"] (upF K (sp_law_whole)) := by
  refine okD (k := 0) (t := fun Ed => t_law_whole Ed) T.F_law_whole sc_law_whole (len_law_whole) (fun cdv A outer s H E Ed hr => ?_) (pure_law_whole)
  exact (db_one (ds_ret (de_and (de_callB cd_isi (by rfl) T.n_isinstance (by decide +kernel) (da_cons (dv 0) (da_cons (de_ty (by rfl) T.n_int (by decide +kernel)) da_nil))) (de_one (de_not (de_callB cd_isi (by rfl) T.n_isinstance (by decide +kernel) (da_cons (dv 0) (da_cons (de_ty (by rfl) T.n_bool (by decide +kernel)) da_nil))))))))
theorem ok_law_shared (T : Txt w K mg base) : FnG P w K mg base (L2N.CX P w) 1 T.f_law_shared T.fd_law_shared ["_law_one", "_law_other"] (upF K (sp_law_shared)) := by
  refine okD (k := 0) (t := fun Ed => t_law_shared Ed) T.F_law_shared sc_law_shared (len_law_shared) (fun cdv A outer s H E Ed hr => ?_) (pure_law_shared)
  exact (db_cons (ds_par 0 1 rfl sc_law_shared.nd rfl rfl (by decide) rfl rfl (da_cons (de_callB cd_abs (by rfl) T.n_abs (by decide +kernel) (da_cons (dv 0) da_nil)) (da_cons (de_callB cd_abs (by rfl) T.n_abs (by decide +kernel) (da_cons (dv 1) da_nil)) da_nil)) (by rfl))
  (db_cons (ds_while passB (dt_cmp od_gt (dv 1) de_int (nomark _))
  (db_one (ds_par 0 1 rfl sc_law_shared.nd rfl rfl (by decide) rfl rfl (da_cons (dv 1) (da_cons (de_op od_mod (dv 0) (dv 1)) da_nil)) (by rfl))))
  (db_one (ds_ret (dv 0)))))
theorem ok_law_side (T : Txt w K mg base) : FnG P w K mg base (L2N.CX P w) 1 T.f_law_side T.fd_law_side ["_law_under"] (upF K (sp_law_side)) := by
  refine okD (k := 0) (t := fun Ed => t_law_side Ed) T.F_law_side sc_law_side (len_law_side) (fun cdv A outer s H E Ed hr => ?_) (pure_law_side)
  exact (db_cons (ds_asg (vs := [1, 2]) (de_tup (da_cons de_int (da_cons de_int da_nil))) (dg_tup rfl (dgs_cons (dg_name (i := 1) sc_law_side.nd rfl (by first | exact Or.inl rfl | exact Or.inr rfl) (by decide)) (dgs_cons (dg_name (i := 2) sc_law_side.nd rfl (by first | exact Or.inl rfl | exact Or.inr rfl) (by decide)) dgs_nil))))
  (db_cons (ds_while passB (dt_cmp od_le (de_op od_mulA (dv 2) (dv 2)) (dv 0) (nomark _))
  (db_one (ds_set 2 sc_law_side.nd rfl (by first | exact .inl rfl | exact .inr rfl) (de_op od_mulA (dv 2) de_int))))
  (db_cons (ds_while passB (dt_cmp od_gt (de_op od_sub (dv 2) (dv 1)) de_int (nomark _))
  (db_cons (ds_set 3 sc_law_side.nd rfl (by first | exact .inl rfl | exact .inr rfl) (de_op od_fdiv (de_op od_add (dv 1) (dv 2)) de_int))
  (db_one (ds_if (dt_cmp od_le (de_op od_mulA (dv 3) (dv 3)) (dv 0) (nomark _)) (db_one (ds_set 1 sc_law_side.nd rfl (by first | exact .inl rfl | exact .inr rfl) (dv 3))) (db_one (ds_set 2 sc_law_side.nd rfl (by first | exact .inl rfl | exact .inr rfl) (dv 3)))))))
  (db_one (ds_ret (dv 1))))))
theorem ok_law_is_square (T : Txt w K mg base) : FnG P w K mg base (L2N.CX P w) 2 T.f_law_is_square T.fd_law_is_square ["_law_under"] (upF K (sp_law_is_square)) := by
  refine okD (k := 1) (t := fun Ed => t_law_is_square Ed) T.F_law_is_square sc_law_is_square (len_law_is_square) (fun cdv A outer s H E Ed hr => ?_) (pure_law_is_square)
  exact (db_one (ds_ret (de_and (de_cmp od_ge (dv 0) de_int (nomark _)) (de_one (de_cmp (od_eq hr.units) (de_op od_mulA (de_call (ok_law_side T) (hr.mono (by decide)) (by rfl) T.m_law_side T.F_law_side.kp T.b_law_side .nil (fun _ _ => rpL_nil) takesB (da_cons (dv 0) da_nil)) (de_call (ok_law_side T) (hr.mono (by decide)) (by rfl) T.m_law_side T.F_law_side.kp T.b_law_side .nil (fun _ _ => rpL_nil) takesB (da_cons (dv 0) da_nil))) (dv 0) (nomark _))))))
theorem ok_law_even_word (T : Txt w K mg base) : FnG P w K mg base (L2N.CX P w) 1 T.f_law_even_word T.fd_law_even_word ["_law_bs", "_law_others"] (upF K (sp_law_even_word)) := by
  refine okD (k := 0) (t := fun Ed => t_law_even_word Ed) T.F_law_even_word sc_law_even_word (len_law_even_word) (fun cdv A outer s H E Ed hr => ?_) (pure_law_even_word)
  exact (db_cons (ds_set 2 sc_law_even_word.nd rfl (by first | exact .inl rfl | exact .inr rfl) de_str)
  (db_cons (ds_set 3 sc_law_even_word.nd rfl (by first | exact .inl rfl | exact .inr rfl) de_int)
  (db_cons (ds_for (vs := [4]) passB rfl (di_rng1 (by rfl) T.n_range (da_cons (de_op od_add (dv 0) (dv 1)) da_nil)) (dg_name (i := 4) sc_law_even_word.nd rfl (by first | exact Or.inl rfl | exact Or.inr rfl) (by decide))
  (db_cons (ds_set 3 sc_law_even_word.nd rfl (by first | exact .inl rfl | exact .inr rfl) (de_op od_add (dv 3) (dv 0)))
  (db_cons (ds_set 2 sc_law_even_word.nd rfl (by first | exact .inl rfl | exact .inr rfl) (de_op od_add (dv 2) (de_ix de_str (de_callTy cd_int (by rfl) T.n_int (by decide +kernel) (da_cons (de_cmp od_ge (dv 3) (de_op od_add (dv 0) (dv 1)) (nomark _)) da_nil)) (fun _ _ => rfl))))
  (db_one (ds_if (dt_cmp od_ge (dv 3) (de_op od_add (dv 0) (dv 1)) (nomark _)) (db_one (ds_set 3 sc_law_even_word.nd rfl (by first | exact .inl rfl | exact .inr rfl) (de_op od_sub (de_op od_sub (dv 3) (dv 0)) (dv 1)))) db_nil)))))
  (db_one (ds_ret (dv 2))))))
theorem ok_law_counts (T : Txt w K mg base) : FnG P w K mg base (L2N.CX P w) 2 T.f_law_counts T.fd_law_counts ["_law_urn_here", "_law_most"] (upF K (sp_law_counts)) := by
  refine okD (k := 1) (t := fun Ed => t_law_counts Ed) T.F_law_counts sc_law_counts (len_law_counts) (fun cdv A outer s H E Ed hr => ?_) (pure_law_counts)
  exact (db_cons (ds_set 2 sc_law_counts.nd rfl (by first | exact .inl rfl | exact .inr rfl) (de_ix (de_lst (da_cons de_int (da_cons de_int (da_cons de_int (da_cons de_int (da_cons de_int (da_cons (dv 1) (da_cons (dv 1) (da_cons (dv 1) da_nil))))))))) (de_call (ok_law_draw T) (hr.mono (by decide)) (by rfl) T.m_law_draw T.F_law_draw.kp T.b_law_draw .nil (fun _ _ => rpL_nil) takesB (da_cons (dv 0) (da_cons de_int da_nil))) (fun _ _ => rfl)))
  (db_cons (ds_set 3 sc_law_counts.nd rfl (by first | exact .inl rfl | exact .inr rfl) (de_op od_add de_int (de_call (ok_law_draw T) (hr.mono (by decide)) (by rfl) T.m_law_draw T.F_law_draw.kp T.b_law_draw .nil (fun _ _ => rpL_nil) takesB (da_cons (dv 0) (da_cons (de_callB (cd_min2 rfl) (by rfl) T.n_min (by decide +kernel) (da_cons (dv 2) (da_cons (dv 1) da_nil))) da_nil)))))
  (db_cons (ds_set 4 sc_law_counts.nd rfl (by first | exact .inl rfl | exact .inr rfl) (de_call (ok_law_draw T) (hr.mono (by decide)) (by rfl) T.m_law_draw T.F_law_draw.kp T.b_law_draw .nil (fun _ _ => rpL_nil) takesB (da_cons (dv 0) (da_cons (de_op od_add (dv 3) de_int) da_nil))))
  (db_cons (ds_set 5 sc_law_counts.nd rfl (by first | exact .inl rfl | exact .inr rfl) (de_call (ok_law_shared T) (hr.mono (by decide)) (by rfl) T.m_law_shared T.F_law_shared.kp T.b_law_shared .nil (fun _ _ => rpL_nil) takesB (da_cons (dv 4) (da_cons (dv 3) da_nil))))
  (db_one (ds_ret (de_tup (da_cons (de_op od_fdiv (dv 4) (dv 5)) (da_cons (de_op od_fdiv (de_op od_sub (dv 3) (dv 4)) (dv 5)) da_nil)))))))))
theorem ok_law_numbers (T : Txt w K mg base) : FnG P w K mg base (L2N.CX P w) 1 T.f_law_numbers T.fd_law_numbers ["_law_word"] (upF K (sp_law_numbers)) := by
  refine okD (k := 0) (t := fun Ed => t_law_numbers Ed) T.F_law_numbers sc_law_numbers (len_law_numbers) (fun cdv A outer s H E Ed hr => ?_) (pure_law_numbers)
  exact (db_cons (ds_set 1 sc_law_numbers.nd rfl (by first | exact .inl rfl | exact .inr rfl) (de_lstO da_nil))
  (db_cons (ds_for (vs := [2]) passB rfl (di_any (dv 0)) (dg_name (i := 2) sc_law_numbers.nd rfl (by first | exact Or.inl rfl | exact Or.inr rfl) (by decide))
  (db_one (ds_expr (de_extPick (i := 2) (j := 1) hr.units (by decide) rfl (by first | exact Or.inl rfl | exact Or.inr (Or.inl rfl) | exact Or.inr (Or.inr rfl)) rfl (by first | exact Or.inl rfl | exact Or.inr (Or.inl rfl) | exact Or.inr (Or.inr rfl)) (fun _ _ => rfl)))))
  (db_one (ds_ret (de_callTy (cd_tupA rfl) (by rfl) T.n_tuple (by decide +kernel) (da_cons (dv 1) da_nil))))))
theorem ok_law_ring_table (T : Txt w K mg base) : FnG P w K mg base (L2N.CX P w) 1 T.f_law_ring_table T.fd_law_ring_table ["_law_row"] (upF K (sp_law_ring_table)) := by
  refine okD (k := 0) (t := fun Ed => t_law_ring_table Ed) T.F_law_ring_table sc_law_ring_table (len_law_ring_table) (fun cdv A outer s H E Ed hr => ?_) (pure_law_ring_table)
  exact (db_cons (ds_asg (vs := [1, 2, 3, 4]) (de_tup (da_cons de_int (da_cons de_int (da_cons de_int (da_cons de_int da_nil))))) (dg_tup rfl (dgs_cons (dg_name (i := 1) sc_law_ring_table.nd rfl (by first | exact Or.inl rfl | exact Or.inr rfl) (by decide)) (dgs_cons (dg_name (i := 2) sc_law_ring_table.nd rfl (by first | exact Or.inl rfl | exact Or.inr rfl) (by decide)) (dgs_cons (dg_name (i := 3) sc_law_ring_table.nd rfl (by first | exact Or.inl rfl | exact Or.inr rfl) (by decide)) (dgs_cons (dg_name (i := 4) sc_law_ring_table.nd rfl (by first | exact Or.inl rfl | exact Or.inr rfl) (by decide)) dgs_nil))))))
  (db_cons (ds_for (vs := [5]) passB rfl (di_any (dv 0)) (dg_name (i := 5) sc_law_ring_table.nd rfl (by first | exact Or.inl rfl | exact Or.inr rfl) (by decide))
  (db_cons (ds_par 1 2 rfl sc_law_ring_table.nd rfl rfl (by decide) rfl rfl (da_cons (de_op od_add (de_op od_mulA (dv 1) (dv 5)) (dv 2)) (da_cons (dv 1) da_nil)) (by rfl))
  (db_one (ds_par 3 4 rfl sc_law_ring_table.nd rfl rfl (by decide) rfl rfl (da_cons (de_op od_add (de_op od_mulA (dv 3) (dv 5)) (dv 4)) (da_cons (dv 3) da_nil)) (by rfl)))))
  (db_one (ds_ret (de_tup (da_cons (dv 1) (da_cons (dv 2) (da_cons (dv 3) (da_cons (dv 4) da_nil)))))))))
theorem okr_law_bent (T : Txt w K mg base) (n : Nat) (h_law_bent : FnG P w K mg base (L2N.CX P w) (1 + n) T.f_law_bent T.fd_law_bent ["_law_urn_here", "_law_thing"] (upF K (sp_law_bent (n)))) : FnG P w K mg base (L2N.CX P w) (1 + n + 1) T.f_law_bent T.fd_law_bent ["_law_urn_here", "_law_thing"] (upF K (sp_law_bent (n + 1))) := by
  refine okD (k := 1 + n) (t := fun Ed => t_law_bent n Ed) T.F_law_bent sc_law_bent (len_law_bent (n + 1)) (fun cdv A outer s H E Ed hr => ?_) (pure_law_bent n)
  exact (db_cons (ds_set 2 sc_law_bent.nd rfl (by first | exact .inl rfl | exact .inr rfl) (de_call (ok_law_draw T) (hr.mono (by omega)) (by rfl) T.m_law_draw T.F_law_draw.kp T.b_law_draw .nil (fun _ _ => rpL_nil) takesB (da_cons (dv 0) (da_cons de_int da_nil))))
  (db_cons (ds_if (dt_cmp (od_eq hr.units) (dv 2) de_int (nomark _)) (db_one (ds_ret (de_ix (de_lst (da_cons de_non (da_cons de_bl (da_cons de_bl (da_cons de_int (da_cons de_int (da_cons de_str (da_cons de_str (da_cons (de_tup da_nil) (da_cons (de_lst da_nil) (da_cons de_str da_nil))))))))))) (de_call (ok_law_draw T) (hr.mono (by omega)) (by rfl) T.m_law_draw T.F_law_draw.kp T.b_law_draw .nil (fun _ _ => rpL_nil) takesB (da_cons (dv 0) (da_cons de_int da_nil))) (fun _ _ => rfl)))) db_nil)
  (db_cons (ds_if (dt_val (de_call (ok_law_whole T) (hr.mono (by omega)) (by rfl) T.m_law_whole T.F_law_whole.kp T.b_law_whole .nil (fun _ _ => rpL_nil) takesB (da_cons (dv 1) da_nil))) (db_one (ds_ret (de_ix (de_lst (da_cons (de_op od_add (dv 1) de_int) (da_cons (de_op od_sub (dv 1) de_int) (da_cons (de_op od_sub de_int (dv 1)) (da_cons (de_op od_mulA (dv 1) de_int) (da_cons (de_callTy cd_str (by rfl) T.n_str (by decide +kernel) (da_cons (dv 1) da_nil)) (da_cons (de_tup (da_cons (dv 1) da_nil)) (da_cons (de_cmp (od_eq hr.units) (dv 1) de_int (nomark _)) da_nil)))))))) (de_call (ok_law_draw T) (hr.mono (by omega)) (by rfl) T.m_law_draw T.F_law_draw.kp T.b_law_draw .nil (fun _ _ => rpL_nil) takesB (da_cons (dv 0) (da_cons de_int da_nil))) (fun _ _ => rfl)))) db_nil)
  (db_cons (ds_if (DW.pt (dw_or (dt_not (dt_val (de_callB cd_isiTp (by rfl) T.n_isinstance (by decide +kernel) (da_cons (dv 1) (da_cons (de_tup (da_cons (de_ty (by rfl) T.n_str (by decide +kernel)) (da_cons (de_ty (by rfl) T.n_tuple (by decide +kernel)) (da_cons (de_ty (by rfl) T.n_list (by decide +kernel)) da_nil)))) da_nil))))) (dw_or1 (dt_cmp (od_eq hr.units) (de_callB cd_len (by rfl) T.n_len (by decide +kernel) (da_cons (dv 1) da_nil)) de_int (nomark _))))) (db_one (ds_ret (de_ix (de_lst (da_cons de_int (da_cons de_str (da_cons (de_tup (da_cons (de_tup da_nil) da_nil)) (da_cons de_non da_nil))))) (de_call (ok_law_draw T) (hr.mono (by omega)) (by rfl) T.m_law_draw T.F_law_draw.kp T.b_law_draw .nil (fun _ _ => rpL_nil) takesB (da_cons (dv 0) (da_cons de_int da_nil))) (fun _ _ => rfl)))) db_nil)
  (db_cons (ds_set 3 sc_law_bent.nd rfl (by first | exact .inl rfl | exact .inr rfl) (de_call (ok_law_draw T) (hr.mono (by omega)) (by rfl) T.m_law_draw T.F_law_draw.kp T.b_law_draw .nil (fun _ _ => rpL_nil) takesB (da_cons (dv 0) (da_cons (de_callB cd_len (by rfl) T.n_len (by decide +kernel) (da_cons (dv 1) da_nil)) da_nil))))
  (db_cons (ds_if (dt_cmp (od_eq hr.units) (dv 2) de_int (nomark _)) (db_one (ds_ret (de_op od_add (de_slice (dv 1) do_none (do_some (dv 3))) (de_slice (dv 1) (do_some (de_op od_add (dv 3) de_int)) do_none)))) db_nil)
  (db_cons (ds_if (dt_cmp (od_eq hr.units) (dv 2) de_int (nomark _)) (db_one (ds_ret (de_op od_add (de_slice (dv 1) do_none (do_some (de_op od_add (dv 3) de_int))) (de_slice (dv 1) (do_some (dv 3)) do_none)))) db_nil)
  (db_cons (ds_if (dt_val (de_callB cd_isi (by rfl) T.n_isinstance (by decide +kernel) (da_cons (dv 1) (da_cons (de_ty (by rfl) T.n_str (by decide +kernel)) da_nil)))) (db_one (ds_ret (de_op od_add (de_op od_add (de_slice (dv 1) do_none (do_some (dv 3))) (de_ix de_str (de_call (ok_law_draw T) (hr.mono (by omega)) (by rfl) T.m_law_draw T.F_law_draw.kp T.b_law_draw .nil (fun _ _ => rpL_nil) takesB (da_cons (dv 0) (da_cons de_int da_nil))) (fun _ _ => rfl))) (de_slice (dv 1) (do_some (de_op od_add (dv 3) de_int)) do_none)))) db_nil)
  (db_cons (ds_if (dt_cmp (od_eq hr.units) (dv 2) de_int (nomark _)) (db_one (ds_ret (de_ix (de_lst (da_cons (de_callTy (cd_listA rfl) (by rfl) T.n_list (by decide +kernel) (da_cons (dv 1) da_nil)) (da_cons (de_callTy (cd_tupA rfl) (by rfl) T.n_tuple (by decide +kernel) (da_cons (dv 1) da_nil)) da_nil))) (de_callTy cd_int (by rfl) T.n_int (by decide +kernel) (da_cons (de_callB cd_isi (by rfl) T.n_isinstance (by decide +kernel) (da_cons (dv 1) (da_cons (de_ty (by rfl) T.n_list (by decide +kernel)) da_nil))) da_nil)) (fun _ _ => rfl)))) db_nil)
  (db_cons (ds_set 4 sc_law_bent.nd rfl (by first | exact .inl rfl | exact .inr rfl) (de_callTy cd_listO (by rfl) T.n_list (by decide +kernel) (da_cons (dv 1) da_nil)))
  (db_cons (ds_store (dv 4) (dv 3) (de_call h_law_bent (hr.mono (by omega)) (by rfl) T.m_law_bent T.F_law_bent.kp T.b_law_bent .nil (fun _ _ => rpL_nil) takesB (da_cons (dv 0) (da_cons (de_ix (dv 4) (dv 3) (fun _ _ => rfl)) da_nil))))
  (db_cons (ds_if (dt_val (de_callB cd_isi (by rfl) T.n_isinstance (by decide +kernel) (da_cons (dv 1) (da_cons (de_ty (by rfl) T.n_list (by decide +kernel)) da_nil)))) (db_one (ds_frzV 4 (ds_ret (dv 4)))) db_nil)
  (db_one (ds_frzV 4 (ds_ret (de_callTy (cd_tupA rfl) (by rfl) T.n_tuple (by decide +kernel) (da_cons (dv 4) da_nil)))))))))))))))))
theorem in_law_bent (T : Txt w K mg base) : ∀ n, FnG P w K mg base (L2N.CX P w) (1 + n) T.f_law_bent T.fd_law_bent ["_law_urn_here", "_law_thing"] (upF K (sp_law_bent (n))) := by
  intro n
  induction n with
  | zero => exact fnG_none (len_law_bent 0) none_law_bent
  | succ n ih => exact okr_law_bent T n ih
theorem ok_law_bent (T : Txt w K mg base) : FnG P w K mg base (L2N.CX P w) (7) T.f_law_bent T.fd_law_bent ["_law_urn_here", "_law_thing"] (upF K (sp_law_bent (6))) := in_law_bent T 6
theorem ok_law_is_word (T : Txt w K mg base) : FnG P w K mg base (L2N.CX P w) 1 T.f_law_is_word T.fd_law_is_word ["_law_thing"] (upF K (sp_law_is_word)) := by
  refine okD (k := 0) (t := fun Ed => t_law_is_word Ed) T.F_law_is_word sc_law_is_word (len_law_is_word) (fun cdv A outer s H E Ed hr => ?_) (pure_law_is_word)
  exact (db_one (ds_ret (de_and (de_callB cd_isi (by rfl) T.n_isinstance (by decide +kernel) (da_cons (dv 0) (da_cons (de_ty (by rfl) T.n_str (by decide +kernel)) da_nil))) (de_and (de_chain od_le od_le de_int (de_callB cd_len (by rfl) T.n_len (by decide +kernel) (da_cons (dv 0) da_nil)) de_int) (de_one (de_cmp (od_eq hr.units) (de_op od_add (de_count (dv 0) (da_cons de_str da_nil)) (de_count (dv 0) (da_cons de_str da_nil))) (de_callB cd_len (by rfl) T.n_len (by decide +kernel) (da_cons (dv 0) da_nil)) (nomark _)))))))
theorem ok_law_is_claim (T : Txt w K mg base) : FnG P w K mg base (L2N.CX P w) 1 T.f_law_is_claim T.fd_law_is_claim ["_law_thing", "_law_word", "_law_many"] (upF K (sp_law_is_claim)) := by
  refine okD (k := 0) (t := fun Ed => t_law_is_claim Ed) T.F_law_is_claim sc_law_is_claim (len_law_is_claim) (fun cdv A outer s H E Ed hr => ?_) (pure_law_is_claim)
  exact (db_one (ds_ret (de_and (de_callB cd_isi (by rfl) T.n_isinstance (by decide +kernel) (da_cons (dv 0) (da_cons (de_ty (by rfl) T.n_tuple (by decide +kernel)) da_nil))) (de_and (de_cmp (od_eq hr.units) (de_callB cd_len (by rfl) T.n_len (by decide +kernel) (da_cons (dv 0) da_nil)) (dv 2) (nomark _)) (de_and (de_callB cd_isi (by rfl) T.n_isinstance (by decide +kernel) (da_cons (de_ix (dv 0) de_int (fun _ _ => rfl)) (da_cons (de_ty (by rfl) T.n_str (by decide +kernel)) da_nil))) (de_one (de_cmp (od_eq hr.units) (de_ix (dv 0) de_int (fun _ _ => rfl)) (dv 1) (nomark _))))))))
theorem okr_law_copied (T : Txt w K mg base) (n : Nat) (h_law_copied : FnG P w K mg base (L2N.CX P w) (0 + n) T.f_law_copied T.fd_law_copied ["_law_thing"] (upF K (sp_law_copied (n)))) : FnG P w K mg base (L2N.CX P w) (0 + n + 1) T.f_law_copied T.fd_law_copied ["_law_thing"] (upF K (sp_law_copied (n + 1))) := by
  refine okD (k := 0 + n) (t := fun Ed => t_law_copied n Ed) T.F_law_copied sc_law_copied (len_law_copied (n + 1)) (fun cdv A outer s H E Ed hr => ?_) (pure_law_copied n)
  exact (db_cons (ds_if (dt_val (de_callB cd_isi (by rfl) T.n_isinstance (by decide +kernel) (da_cons (dv 0) (da_cons (de_ty (by rfl) T.n_list (by decide +kernel)) da_nil)))) (db_one (ds_ret (de_lc (own := [("_law_one", 1)]) rfl sc_law_copied.nd (di_any (dv 0)) (blkOk_by (own := [("_law_one", 1)]) (N := N_law_copied) (sc := defScope s_law_copied) (by decide +kernel)) (fun _ _ _ _ _ => (dg_name (i := 1) sc_law_copied.nd rfl (by first | exact Or.inl rfl | exact Or.inr rfl) (by decide))) (fun _ _ _ _ _ => dts_nil) (fun _ _ _ _ _ => (de_call h_law_copied (hr.mono (by omega)) (by rfl) T.m_law_copied T.F_law_copied.kp T.b_law_copied .nil (fun _ _ => rpL_nil) takes0N (da_cons (dv 1) da_nil)))))) db_nil)
  (db_cons (ds_if (dt_val (de_callB cd_isi (by rfl) T.n_isinstance (by decide +kernel) (da_cons (dv 0) (da_cons (de_ty (by rfl) T.n_tuple (by decide +kernel)) da_nil)))) (db_one (ds_ret (de_callTy (cd_tupA rfl) (by rfl) T.n_tuple (by decide +kernel) (da_cons (de_lc (own := [("_law_one", 1)]) rfl sc_law_copied.nd (di_any (dv 0)) (blkOk_by (own := [("_law_one", 1)]) (N := N_law_copied) (sc := defScope s_law_copied) (by decide +kernel)) (fun _ _ _ _ _ => (dg_name (i := 1) sc_law_copied.nd rfl (by first | exact Or.inl rfl | exact Or.inr rfl) (by decide))) (fun _ _ _ _ _ => dts_nil) (fun _ _ _ _ _ => (de_call h_law_copied (hr.mono (by omega)) (by rfl) T.m_law_copied T.F_law_copied.kp T.b_law_copied .nil (fun _ _ => rpL_nil) takes0N (da_cons (dv 1) da_nil)))) da_nil)))) db_nil)
  (db_one (ds_ret (dv 0)))))
theorem in_law_copied (T : Txt w K mg base) : ∀ n, FnG P w K mg base (L2N.CX P w) (0 + n) T.f_law_copied T.fd_law_copied ["_law_thing"] (upF K (sp_law_copied (n))) := by
  intro n
  induction n with
  | zero => exact fnG_none (len_law_copied 0) none_law_copied
  | succ n ih => exact okr_law_copied T n ih
theorem ok_law_copied (T : Txt w K mg base) : FnG P w K mg base (L2N.CX P w) (6) T.f_law_copied T.fd_law_copied ["_law_thing"] (upF K (sp_law_copied (6))) := in_law_copied T 6
theorem ok_law_is_form (T : Txt w K mg base) : FnG P w K mg base (L2N.CX P w) 3 T.f_law_is_form T.fd_law_is_form ["_law_thing"] (upF K (sp_law_is_form)) := by
  refine okD (k := 2) (t := fun Ed => t_law_is_form Ed) T.F_law_is_form sc_law_is_form (len_law_is_form) (fun cdv A outer s H E Ed hr => ?_) (pure_law_is_form)
  exact (db_cons (ds_if (dt_not (dt_val (de_callB (cd_all rfl) (by rfl) T.n_all (by decide +kernel) (da_cons (de_lc (own := [("_law_one", 2)]) rfl sc_law_is_form.nd (di_any (dv 0)) (blkOk_by (own := [("_law_one", 2)]) (N := N_law_is_form) (sc := defScope s_law_is_form) (by decide +kernel)) (fun _ _ _ _ _ => (dg_name (i := 2) sc_law_is_form.nd rfl (by first | exact Or.inl rfl | exact Or.inr rfl) (by decide))) (fun _ _ _ _ _ => dts_nil) (fun _ _ _ _ _ => (de_call (ok_law_whole T) (hr.mono (by decide)) (by rfl) T.m_law_whole T.F_law_whole.kp T.b_law_whole .nil (fun _ _ => rpL_nil) takes0N (da_cons (dv 2) da_nil)))) da_nil)))) (db_one (ds_ret de_bl)) db_nil)
  (db_cons (ds_set 1 sc_law_is_form.nd rfl (by first | exact .inl rfl | exact .inr rfl) (de_op od_sub (de_op od_mulA (de_ix (dv 0) de_int (fun _ _ => rfl)) (de_ix (dv 0) de_int (fun _ _ => rfl))) (de_op od_mulA (de_op od_mulA de_int (de_ix (dv 0) de_int (fun _ _ => rfl))) (de_ix (dv 0) de_int (fun _ _ => rfl)))))
  (db_one (ds_ret (de_and (de_cmp od_gt (dv 1) de_int (nomark _)) (de_one (de_not (de_call (ok_law_is_square T) (hr.mono (by decide)) (by rfl) T.m_law_is_square T.F_law_is_square.kp T.b_law_is_square .nil (fun _ _ => rpL_nil) takesB (da_cons (dv 1) da_nil)))))))))
theorem ok_law_is_step (T : Txt w K mg base) : FnG P w K mg base (L2N.CX P w) 2 T.f_law_is_step T.fd_law_is_step ["_law_word"] (upF K (sp_law_is_step)) := by
  refine okD (k := 1) (t := fun Ed => t_law_is_step Ed) T.F_law_is_step sc_law_is_step (len_law_is_step) (fun cdv A outer s H E Ed hr => ?_) (pure_law_is_step)
  exact (db_cons (ds_set 1 sc_law_is_step.nd rfl (by first | exact .inl rfl | exact .inr rfl) (de_count (dv 0) (da_cons de_str da_nil)))
  (db_one (ds_ret (de_and (de_cmp (od_eq hr.units) (de_call (ok_law_shared T) (hr.mono (by decide)) (by rfl) T.m_law_shared T.F_law_shared.kp T.b_law_shared .nil (fun _ _ => rpL_nil) takesB (da_cons (dv 1) (da_cons (de_callB cd_len (by rfl) T.n_len (by decide +kernel) (da_cons (dv 0) da_nil)) da_nil))) de_int (nomark _)) (de_one (de_cmp (od_eq hr.units) (dv 0) (de_call (ok_law_even_word T) (hr.mono (by decide)) (by rfl) T.m_law_even_word T.F_law_even_word.kp T.b_law_even_word .nil (fun _ _ => rpL_nil) takesB (da_cons (dv 1) (da_cons (de_op od_sub (de_callB cd_len (by rfl) T.n_len (by decide +kernel) (da_cons (dv 0) da_nil)) (dv 1)) da_nil))) (nomark _)))))))
theorem ok_law_is_turning (T : Txt w K mg base) : FnG P w K mg base (L2N.CX P w) 2 T.f_law_is_turning T.fd_law_is_turning ["_law_thing"] (upF K (sp_law_is_turning)) := by
  refine okD (k := 1) (t := fun Ed => t_law_is_turning Ed) T.F_law_is_turning sc_law_is_turning (len_law_is_turning) (fun cdv A outer s H E Ed hr => ?_) (pure_law_is_turning)
  exact (db_cons (ds_if (DW.pt (dw_or (dt_not (dt_val (de_callB cd_isi (by rfl) T.n_isinstance (by decide +kernel) (da_cons (dv 0) (da_cons (de_ty (by rfl) T.n_tuple (by decide +kernel)) da_nil))))) (dw_or1 (dt_cmp (od_ne hr.units) (de_callB cd_len (by rfl) T.n_len (by decide +kernel) (da_cons (dv 0) da_nil)) de_int (nomark _))))) (db_one (ds_ret de_bl)) db_nil)
  (db_cons (ds_for (vs := [1]) passB rfl (di_any (dv 0)) (dg_name (i := 1) sc_law_is_turning.nd rfl (by first | exact Or.inl rfl | exact Or.inr rfl) (by decide))
  (db_one (ds_if (DW.pt (dw_or (dt_not (dt_val (de_callB cd_isi (by rfl) T.n_isinstance (by decide +kernel) (da_cons (dv 1) (da_cons (de_ty (by rfl) T.n_tuple (by decide +kernel)) da_nil))))) (dw_or (dt_cmp (od_ne hr.units) (de_callB cd_len (by rfl) T.n_len (by decide +kernel) (da_cons (dv 1) da_nil)) de_int (nomark _)) (dw_or1 (dt_not (dt_val (de_callB (cd_all rfl) (by rfl) T.n_all (by decide +kernel) (da_cons (de_lc (own := [("_law_one", 2)]) rfl sc_law_is_turning.nd (di_any (dv 1)) (blkOk_by (own := [("_law_one", 2)]) (N := N_law_is_turning) (sc := defScope s_law_is_turning) (by decide +kernel)) (fun _ _ _ _ _ => (dg_name (i := 2) sc_law_is_turning.nd rfl (by first | exact Or.inl rfl | exact Or.inr rfl) (by decide))) (fun _ _ _ _ _ => dts_nil) (fun _ _ _ _ _ => (de_call (ok_law_whole T) (hr.mono (by decide)) (by rfl) T.m_law_whole T.F_law_whole.kp T.b_law_whole .nil (fun _ _ => rpL_nil) takes0N (da_cons (dv 2) da_nil)))) da_nil)))))))) (db_one (ds_ret de_bl)) db_nil)))
  (db_one (ds_ret (de_cmp (od_eq hr.units) (de_callB cd_abs (by rfl) T.n_abs (by decide +kernel) (da_cons (de_op od_sub (de_op od_mulA (de_ix (de_ix (dv 0) de_int (fun _ _ => rfl)) de_int (fun _ _ => rfl)) (de_ix (de_ix (dv 0) de_int (fun _ _ => rfl)) de_int (fun _ _ => rfl))) (de_op od_mulA (de_ix (de_ix (dv 0) de_int (fun _ _ => rfl)) de_int (fun _ _ => rfl)) (de_ix (de_ix (dv 0) de_int (fun _ _ => rfl)) de_int (fun _ _ => rfl)))) da_nil)) de_int (nomark _))))))
theorem ok_law_turned_form (T : Txt w K mg base) : FnG P w K mg base (L2N.CX P w) 1 T.f_law_turned_form T.fd_law_turned_form ["_law_form", "_law_table"] (upF K (sp_law_turned_form)) := by
  refine okD (k := 0) (t := fun Ed => t_law_turned_form Ed) T.F_law_turned_form sc_law_turned_form (len_law_turned_form) (fun cdv A outer s H E Ed hr => ?_) (pure_law_turned_form)
  exact (db_cons (ds_asg (vs := [2, 3, 4]) (dv 0) (dg_tup rfl (dgs_cons (dg_name (i := 2) sc_law_turned_form.nd rfl (by first | exact Or.inl rfl | exact Or.inr rfl) (by decide)) (dgs_cons (dg_name (i := 3) sc_law_turned_form.nd rfl (by first | exact Or.inl rfl | exact Or.inr rfl) (by decide)) (dgs_cons (dg_name (i := 4) sc_law_turned_form.nd rfl (by first | exact Or.inl rfl | exact Or.inr rfl) (by decide)) dgs_nil)))))
  (db_cons (ds_asg (vs := [5, 6, 7, 8]) (dv 1) (dg_tup rfl (dgs_cons (dg_tup rfl (dgs_cons (dg_name (i := 5) sc_law_turned_form.nd rfl (by first | exact Or.inl rfl | exact Or.inr rfl) (by decide)) (dgs_cons (dg_name (i := 6) sc_law_turned_form.nd rfl (by first | exact Or.inl rfl | exact Or.inr rfl) (by decide)) dgs_nil))) (dgs_cons (dg_tup rfl (dgs_cons (dg_name (i := 7) sc_law_turned_form.nd rfl (by first | exact Or.inl rfl | exact Or.inr rfl) (by decide)) (dgs_cons (dg_name (i := 8) sc_law_turned_form.nd rfl (by first | exact Or.inl rfl | exact Or.inr rfl) (by decide)) dgs_nil))) dgs_nil))))
  (db_cons (ds_set 9 sc_law_turned_form.nd rfl (by first | exact .inl rfl | exact .inr rfl) (de_op od_add (de_op od_add (de_op od_mulA (de_op od_mulA (dv 2) (dv 5)) (dv 5)) (de_op od_mulA (de_op od_mulA (dv 3) (dv 5)) (dv 7))) (de_op od_mulA (de_op od_mulA (dv 4) (dv 7)) (dv 7))))
  (db_cons (ds_set 10 sc_law_turned_form.nd rfl (by first | exact .inl rfl | exact .inr rfl) (de_op od_add (de_op od_mulA (de_op od_mulA (de_op od_mulA de_int (dv 2)) (dv 5)) (dv 6)) (de_op od_mulA (de_op od_mulA (de_op od_mulA de_int (dv 4)) (dv 7)) (dv 8))))
  (db_cons (ds_set 10 sc_law_turned_form.nd rfl (by first | exact .inl rfl | exact .inr rfl) (de_op od_add (dv 10) (de_op od_mulA (dv 3) (de_op od_add (de_op od_mulA (dv 5) (dv 8)) (de_op od_mulA (dv 6) (dv 7))))))
  (db_one (ds_ret (de_tup (da_cons (dv 9) (da_cons (dv 10) (da_cons (de_op od_add (de_op od_add (de_op od_mulA (de_op od_mulA (dv 2) (dv 6)) (dv 6)) (de_op od_mulA (de_op od_mulA (dv 3) (dv 6)) (dv 8))) (de_op od_mulA (de_op od_mulA (dv 4) (dv 8)) (dv 8))) da_nil)))))))))))
theorem ok_law_word_form (T : Txt w K mg base) : FnG P w K mg base (L2N.CX P w) 2 T.f_law_word_form T.fd_law_word_form ["_law_word"] (upF K (sp_law_word_form)) := by
  refine okD (k := 1) (t := fun Ed => t_law_word_form Ed) T.F_law_word_form sc_law_word_form (len_law_word_form) (fun cdv A outer s H E Ed hr => ?_) (pure_law_word_form)
  exact (db_cons (ds_asg (vs := [1, 2, 3, 4]) (de_call (ok_law_ring_table T) (hr.mono (by decide)) (by rfl) T.m_law_ring_table T.F_law_ring_table.kp T.b_law_ring_table .nil (fun _ _ => rpL_nil) takesB (da_cons (de_call (ok_law_numbers T) (hr.mono (by decide)) (by rfl) T.m_law_numbers T.F_law_numbers.kp T.b_law_numbers .nil (fun _ _ => rpL_nil) takesB (da_cons (dv 0) da_nil)) da_nil)) (dg_tup rfl (dgs_cons (dg_name (i := 1) sc_law_word_form.nd rfl (by first | exact Or.inl rfl | exact Or.inr rfl) (by decide)) (dgs_cons (dg_name (i := 2) sc_law_word_form.nd rfl (by first | exact Or.inl rfl | exact Or.inr rfl) (by decide)) (dgs_cons (dg_name (i := 3) sc_law_word_form.nd rfl (by first | exact Or.inl rfl | exact Or.inr rfl) (by decide)) (dgs_cons (dg_name (i := 4) sc_law_word_form.nd rfl (by first | exact Or.inl rfl | exact Or.inr rfl) (by decide)) dgs_nil))))))
  (db_cons (ds_set 5 sc_law_word_form.nd rfl (by first | exact .inl rfl | exact .inr rfl) (de_call (ok_law_shared T) (hr.mono (by decide)) (by rfl) T.m_law_shared T.F_law_shared.kp T.b_law_shared .nil (fun _ _ => rpL_nil) takesB (da_cons (de_call (ok_law_shared T) (hr.mono (by decide)) (by rfl) T.m_law_shared T.F_law_shared.kp T.b_law_shared .nil (fun _ _ => rpL_nil) takesB (da_cons (dv 3) (da_cons (de_op od_sub (dv 4) (dv 1)) da_nil))) (da_cons (dv 2) da_nil))))
  (db_one (ds_ret (de_tup (da_cons (de_op od_fdiv (dv 3) (dv 5)) (da_cons (de_op od_fdiv (de_op od_sub (dv 4) (dv 1)) (dv 5)) (da_cons (de_op od_fdiv (de_op od_sub de_int (dv 2)) (dv 5)) da_nil))))))))
theorem ok_law_due (T : Txt w K mg base) : FnG P w K mg base (L2N.CX P w) 4 T.f_law_due T.fd_law_due ["_law_saying", "_law_sheet"] (upF K (sp_law_due)) := by
  refine okD (k := 3) (t := fun Ed => t_law_due Ed) T.F_law_due sc_law_due (len_law_due) (fun cdv A outer s H E Ed hr => ?_) (pure_law_due)
  exact (db_cons (ds_set 2 sc_law_due.nd rfl (by first | exact .inl rfl | exact .inr rfl) (de_lst (da_cons (de_call (ok_law_is_claim T) (hr.mono (by decide)) (by rfl) T.m_law_is_claim T.F_law_is_claim.kp T.b_law_is_claim .nil (fun _ _ => rpL_nil) takesB (da_cons (dv 0) (da_cons de_str (da_cons de_int da_nil)))) (da_cons (de_call (ok_law_is_claim T) (hr.mono (by decide)) (by rfl) T.m_law_is_claim T.F_law_is_claim.kp T.b_law_is_claim .nil (fun _ _ => rpL_nil) takesB (da_cons (dv 0) (da_cons de_str (da_cons de_int da_nil)))) da_nil))))
  (db_cons (ds_if (DW.pt (dw_or (dt_cmp (od_notInD (units65 hr)) de_bl (dv 2) (by with_unfolding_all rfl)) (dw_or (dt_not (dt_val (de_call (ok_law_is_form T) (hr.mono (by decide)) (by rfl) T.m_law_is_form T.F_law_is_form.kp T.b_law_is_form .nil (fun _ _ => rpL_nil) takesB (da_cons (de_slice (dv 0) (do_some de_int) do_none) da_nil)))) (dw_or1 (dt_not (dt_val (de_callB cd_isi (by rfl) T.n_isinstance (by decide +kernel) (da_cons (dv 1) (da_cons (de_ty (by rfl) T.n_tuple (by decide +kernel)) da_nil))))))))) (db_one (ds_ret de_bl)) db_nil)
  (db_cons (ds_set 3 sc_law_due.nd rfl (by first | exact .inl rfl | exact .inr rfl) (de_slice (dv 0) (do_some de_int) do_none))
  (db_cons (ds_if (dt_val (de_ix (dv 2) de_int (fun _ _ => rfl))) (db_cons (ds_if (DW.pt (dw_or (dt_cmp (od_ne hr.units) (de_callB cd_len (by rfl) T.n_len (by decide +kernel) (da_cons (dv 1) da_nil)) de_int (nomark _)) (dw_or (dt_not (dt_val (de_callB (cd_all rfl) (by rfl) T.n_all (by decide +kernel) (da_cons (de_lc (own := [("_law_one", 7)]) rfl sc_law_due.nd (di_any (dv 1)) (blkOk_by (own := [("_law_one", 7)]) (N := N_law_due) (sc := defScope s_law_due) (by decide +kernel)) (fun _ _ _ _ _ => (dg_name (i := 7) sc_law_due.nd rfl (by first | exact Or.inl rfl | exact Or.inr rfl) (by decide))) (fun _ _ _ _ _ => dts_nil) (fun _ _ _ _ _ => (de_call (ok_law_whole T) (hr.mono (by decide)) (by rfl) T.m_law_whole T.F_law_whole.kp T.b_law_whole .nil (fun _ _ => rpL_nil) takes0N (da_cons (dv 7) da_nil)))) da_nil)))) (dw_or1 (dt_cmp (od_eq hr.units) (dv 1) (de_tup (da_cons de_int (da_cons de_int da_nil))) (nomark _)))))) (db_one (ds_ret de_bl)) db_nil)
  (db_cons (ds_asg (vs := [4, 5]) (dv 1) (dg_tup rfl (dgs_cons (dg_name (i := 4) sc_law_due.nd rfl (by first | exact Or.inl rfl | exact Or.inr rfl) (by decide)) (dgs_cons (dg_name (i := 5) sc_law_due.nd rfl (by first | exact Or.inl rfl | exact Or.inr rfl) (by decide)) dgs_nil))))
  (db_cons (ds_set 6 sc_law_due.nd rfl (by first | exact .inl rfl | exact .inr rfl) (de_op od_add (de_op od_add (de_op od_mulA (de_op od_mulA (de_ix (dv 3) de_int (fun _ _ => rfl)) (dv 4)) (dv 4)) (de_op od_mulA (de_op od_mulA (de_ix (dv 3) de_int (fun _ _ => rfl)) (dv 4)) (dv 5))) (de_op od_mulA (de_op od_mulA (de_ix (dv 3) de_int (fun _ _ => rfl)) (dv 5)) (dv 5))))
  (db_one (ds_ret (de_cmp od_le (de_op od_mulA (de_op od_mulA de_int (dv 6)) (dv 6)) (de_op od_sub (de_op od_mulA (de_ix (dv 3) de_int (fun _ _ => rfl)) (de_ix (dv 3) de_int (fun _ _ => rfl))) (de_op od_mulA (de_op od_mulA de_int (de_ix (dv 3) de_int (fun _ _ => rfl))) (de_ix (dv 3) de_int (fun _ _ => rfl)))) (nomark _))))))) db_nil)
  (db_cons (ds_if (DW.pt (dw_or (dt_cmp (od_ne hr.units) (de_callB cd_len (by rfl) T.n_len (by decide +kernel) (da_cons (dv 1) da_nil)) de_int (nomark _)) (dw_or (dt_not (dt_val (de_call (ok_law_is_word T) (hr.mono (by decide)) (by rfl) T.m_law_is_word T.F_law_is_word.kp T.b_law_is_word .nil (fun _ _ => rpL_nil) takesB (da_cons (de_ix (dv 1) de_int (fun _ _ => rfl)) da_nil)))) (dw_or (dt_not (dt_val (de_call (ok_law_is_step T) (hr.mono (by decide)) (by rfl) T.m_law_is_step T.F_law_is_step.kp T.b_law_is_step .nil (fun _ _ => rpL_nil) takesB (da_cons (de_ix (dv 1) de_int (fun _ _ => rfl)) da_nil)))) (dw_or1 (dt_not (dt_val (de_call (ok_law_is_turning T) (hr.mono (by decide)) (by rfl) T.m_law_is_turning T.F_law_is_turning.kp T.b_law_is_turning .nil (fun _ _ => rpL_nil) takesB (da_cons (de_ix (dv 1) de_int (fun _ _ => rfl)) da_nil))))))))) (db_one (ds_ret de_bl)) db_nil)
  (db_cons (ds_if (DW.pt (dw_or (dt_not (dt_val (de_call (ok_law_whole T) (hr.mono (by decide)) (by rfl) T.m_law_whole T.F_law_whole.kp T.b_law_whole .nil (fun _ _ => rpL_nil) takesB (da_cons (de_ix (dv 1) de_int (fun _ _ => rfl)) da_nil)))) (dw_or1 (dt_cmp (od_eq hr.units) (de_ix (dv 1) de_int (fun _ _ => rfl)) de_int (nomark _))))) (db_one (ds_ret de_bl)) db_nil)
  (db_one (ds_ret (de_cmp (od_eq hr.units) (de_call (ok_law_turned_form T) (hr.mono (by decide)) (by rfl) T.m_law_turned_form T.F_law_turned_form.kp T.b_law_turned_form .nil (fun _ _ => rpL_nil) takesB (da_cons (dv 3) (da_cons (de_ix (dv 1) de_int (fun _ _ => rfl)) da_nil))) (de_callTy (cd_tupA rfl) (by rfl) T.n_tuple (by decide +kernel) (da_cons (de_lc (own := [("_law_one", 7)]) rfl sc_law_due.nd (di_any (de_call (ok_law_word_form T) (hr.mono (by decide)) (by rfl) T.m_law_word_form T.F_law_word_form.kp T.b_law_word_form .nil (fun _ _ => rpL_nil) takesB (da_cons (de_ix (dv 1) de_int (fun _ _ => rfl)) da_nil))) (blkOk_by (own := [("_law_one", 7)]) (N := N_law_due) (sc := defScope s_law_due) (by decide +kernel)) (fun _ _ _ _ _ => (dg_name (i := 7) sc_law_due.nd rfl (by first | exact Or.inl rfl | exact Or.inr rfl) (by decide))) (fun _ _ _ _ _ => dts_nil) (fun _ _ _ _ _ => (de_op od_mulA (de_ix (dv 1) de_int (fun _ _ => rfl)) (dv 7)))) da_nil)) (nomark _))))))))))
theorem ok_law_looked_right (T : Txt w K mg base) : FnG P w K mg base (L2N.CX P w) 9 T.f_law_looked_right T.fd_law_looked_right ["_law_saying", "_law_sheet"] (upF K (sp_law_looked_right)) := by
  refine okD (k := 8) (t := fun Ed => t_law_looked_right Ed) T.F_law_looked_right sc_law_looked_right (len_law_looked_right) (fun cdv A outer s H E Ed hr => ?_) (pure_law_looked_right)
  exact (db_cons (ds_set 2 sc_law_looked_right.nd rfl (by first | exact .inl rfl | exact .inr rfl) (de_tup (da_cons (de_callB (cd_repr hr.gd hr.units) (by rfl) T.n_repr (by decide +kernel) (da_cons (dv 0) da_nil)) (da_cons (de_callB (cd_repr hr.gd hr.units) (by rfl) T.n_repr (by decide +kernel) (da_cons (dv 1) da_nil)) da_nil))))
  (db_cons (ds_set 3 sc_law_looked_right.nd rfl (by first | exact .inl rfl | exact .inr rfl) (de_call (ok_holds T) (hr.mono (by decide)) (by rfl) T.m_holds T.F_holds.kp T.b_holds .nil (fun _ _ => rpL_nil) takesB (da_cons (dv 0) (da_cons (dv 1) da_nil))))
  (db_cons (ds_if (DW.pt (dw_or (dt_not (dt_val (de_callB cd_isi (by rfl) T.n_isinstance (by decide +kernel) (da_cons (dv 3) (da_cons (de_ty (by rfl) T.n_bool (by decide +kernel)) da_nil))))) (dw_or (dt_cmp (od_ne hr.units) (dv 3) (de_call (ok_law_due T) (hr.mono (by decide)) (by rfl) T.m_law_due T.F_law_due.kp T.b_law_due .nil (fun _ _ => rpL_nil) takesB (da_cons (dv 0) (da_cons (dv 1) da_nil))) (nomark _)) (dw_or1 (dt_cmp (od_ne hr.units) (de_callK0 (ok_holds T) (hr.mono (by decide)) (by rfl) T.m_holds T.F_holds.kp T.ks_holds_0_paper_claim (fun _ _ => rpL_nil) takesB (dk_cons (dv 1) (dk_cons (dv 0) dk_nil))) (dv 3) (nomark _)))))) (db_one (ds_ret de_bl)) db_nil)
  (db_one (ds_ret (de_cmp (od_eq hr.units) (de_tup (da_cons (de_callB (cd_repr hr.gd hr.units) (by rfl) T.n_repr (by decide +kernel) (da_cons (dv 0) da_nil)) (da_cons (de_callB (cd_repr hr.gd hr.units) (by rfl) T.n_repr (by decide +kernel) (da_cons (dv 1) da_nil)) da_nil))) (dv 2) (nomark _)))))))
theorem ok_law_all_looked_right (T : Txt w K mg base) : FnG P w K mg base (L2N.CX P w) 10 T.f_law_all_looked_right T.fd_law_all_looked_right ["_law_urn_here", "_law_saying", "_law_sheet"] (upF K (sp_law_all_looked_right)) := by
  refine okD (k := 9) (t := fun Ed => t_law_all_looked_right Ed) T.F_law_all_looked_right sc_law_all_looked_right (len_law_all_looked_right) (fun cdv A outer s H E Ed hr => ?_) (pure_law_all_looked_right)
  exact (db_cons (ds_for (vs := [3]) passB rfl (di_rng1 (by rfl) T.n_range (da_cons de_int da_nil)) (dg_name (i := 3) sc_law_all_looked_right.nd rfl (by first | exact Or.inl rfl | exact Or.inr rfl) (by decide))
  (db_cons (ds_set 4 sc_law_all_looked_right.nd rfl (by first | exact .inl rfl | exact .inr rfl) (de_tup (da_cons (de_call (ok_law_bent T) (hr.mono (by decide)) (by rfl) T.m_law_bent T.F_law_bent.kp T.b_law_bent .nil (fun _ _ => rpL_nil) takesB (da_cons (dv 0) (da_cons (dv 1) da_nil))) (da_cons (de_call (ok_law_bent T) (hr.mono (by decide)) (by rfl) T.m_law_bent T.F_law_bent.kp T.b_law_bent .nil (fun _ _ => rpL_nil) takesB (da_cons (dv 0) (da_cons (dv 2) da_nil))) da_nil))))
  (db_one (ds_for (vs := [5, 6]) passB rfl (di_any (de_lst (da_cons (de_tup (da_cons (dv 1) (da_cons (dv 2) da_nil))) (da_cons (de_tup (da_cons (de_ix (dv 4) de_int (fun _ _ => rfl)) (da_cons (dv 2) da_nil))) (da_cons (de_tup (da_cons (dv 1) (da_cons (de_ix (dv 4) de_int (fun _ _ => rfl)) da_nil))) (da_cons (dv 4) (da_cons (de_tup (da_cons (dv 2) (da_cons (dv 1) da_nil))) da_nil))))))) (dg_tup rfl (dgs_cons (dg_name (i := 5) sc_law_all_looked_right.nd rfl (by first | exact Or.inl rfl | exact Or.inr rfl) (by decide)) (dgs_cons (dg_name (i := 6) sc_law_all_looked_right.nd rfl (by first | exact Or.inl rfl | exact Or.inr rfl) (by decide)) dgs_nil)))
  (db_one (ds_if (dt_not (dt_val (de_call (ok_law_looked_right T) (hr.mono (by decide)) (by rfl) T.m_law_looked_right T.F_law_looked_right.kp T.b_law_looked_right .nil (fun _ _ => rpL_nil) takesB (da_cons (de_call (ok_law_copied T) (hr.mono (by decide)) (by rfl) T.m_law_copied T.F_law_copied.kp T.b_law_copied .nil (fun _ _ => rpL_nil) takesB (da_cons (dv 5) da_nil)) (da_cons (de_call (ok_law_copied T) (hr.mono (by decide)) (by rfl) T.m_law_copied T.F_law_copied.kp T.b_law_copied .nil (fun _ _ => rpL_nil) takesB (da_cons (dv 6) da_nil)) da_nil))))) (db_one (ds_ret de_bl)) db_nil))))))
  (db_one (ds_ret de_bl)))
theorem ok_law_turning (T : Txt w K mg base) : FnG P w K mg base (L2N.CX P w) 2 T.f_law_turning T.fd_law_turning ["_law_urn_here"] (upF K (sp_law_turning)) := by
  refine okD (k := 1) (t := fun Ed => t_law_turning Ed) T.F_law_turning sc_law_turning (len_law_turning) (fun cdv A outer s H E Ed hr => ?_) (pure_law_turning)
  exact (db_cons (ds_asg (vs := [1, 2, 3, 4]) (de_tup (da_cons de_int (da_cons de_int (da_cons de_int (da_cons de_int da_nil))))) (dg_tup rfl (dgs_cons (dg_name (i := 1) sc_law_turning.nd rfl (by first | exact Or.inl rfl | exact Or.inr rfl) (by decide)) (dgs_cons (dg_name (i := 2) sc_law_turning.nd rfl (by first | exact Or.inl rfl | exact Or.inr rfl) (by decide)) (dgs_cons (dg_name (i := 3) sc_law_turning.nd rfl (by first | exact Or.inl rfl | exact Or.inr rfl) (by decide)) (dgs_cons (dg_name (i := 4) sc_law_turning.nd rfl (by first | exact Or.inl rfl | exact Or.inr rfl) (by decide)) dgs_nil))))))
  (db_cons (ds_for (vs := [5]) passB rfl (di_rng1 (by rfl) T.n_range (da_cons (de_call (ok_law_draw T) (hr.mono (by decide)) (by rfl) T.m_law_draw T.F_law_draw.kp T.b_law_draw .nil (fun _ _ => rpL_nil) takesB (da_cons (dv 0) (da_cons de_int da_nil))) da_nil)) (dg_name (i := 5) sc_law_turning.nd rfl (by first | exact Or.inl rfl | exact Or.inr rfl) (by decide))
  (db_cons (ds_set 6 sc_law_turning.nd rfl (by first | exact .inl rfl | exact .inr rfl) (de_call (ok_law_draw T) (hr.mono (by decide)) (by rfl) T.m_law_draw T.F_law_draw.kp T.b_law_draw .nil (fun _ _ => rpL_nil) takesB (da_cons (dv 0) (da_cons de_int da_nil))))
  (db_cons (ds_set 7 sc_law_turning.nd rfl (by first | exact .inl rfl | exact .inr rfl) (de_lst (da_cons (de_tup (da_cons (dv 1) (da_cons (de_op od_add (dv 1) (dv 2)) (da_cons (dv 3) (da_cons (de_op od_add (dv 3) (dv 4)) da_nil))))) (da_cons (de_tup (da_cons (de_op od_add (dv 1) (dv 2)) (da_cons (dv 2) (da_cons (de_op od_add (dv 3) (dv 4)) (da_cons (dv 4) da_nil))))) da_nil))))
  (db_cons (ds_set 7 sc_law_turning.nd rfl (by first | exact .inl rfl | exact .inr rfl) (de_op od_add (dv 7) (de_lst (da_cons (de_tup (da_cons (dv 2) (da_cons (dv 1) (da_cons (dv 4) (da_cons (dv 3) da_nil))))) (da_cons (de_tup (da_cons (dv 1) (da_cons (de_op od_sub (dv 2) (dv 1)) (da_cons (dv 3) (da_cons (de_op od_sub (dv 4) (dv 3)) da_nil))))) da_nil)))))
  (db_one (ds_asg (vs := [1, 2, 3, 4]) (de_ix (dv 7) (dv 6) (fun _ _ => rfl)) (dg_tup rfl (dgs_cons (dg_name (i := 1) sc_law_turning.nd rfl (by first | exact Or.inl rfl | exact Or.inr rfl) (by decide)) (dgs_cons (dg_name (i := 2) sc_law_turning.nd rfl (by first | exact Or.inl rfl | exact Or.inr rfl) (by decide)) (dgs_cons (dg_name (i := 3) sc_law_turning.nd rfl (by first | exact Or.inl rfl | exact Or.inr rfl) (by decide)) (dgs_cons (dg_name (i := 4) sc_law_turning.nd rfl (by first | exact Or.inl rfl | exact Or.inr rfl) (by decide)) dgs_nil)))))))))))
  (db_cons (ds_set 8 sc_law_turning.nd rfl (by first | exact .inl rfl | exact .inr rfl) (de_op od_sub (de_op od_mulA (dv 1) (dv 4)) (de_op od_mulA (dv 2) (dv 3))))
  (db_one (ds_ret (de_tup (da_cons (de_tup (da_cons (de_tup (da_cons (dv 1) (da_cons (dv 2) da_nil))) (da_cons (de_tup (da_cons (dv 3) (da_cons (dv 4) da_nil))) da_nil))) (da_cons (de_tup (da_cons (de_tup (da_cons (de_op od_mulA (dv 4) (dv 8)) (da_cons (de_op od_sub de_int (de_op od_mulA (dv 2) (dv 8))) da_nil))) (da_cons (de_tup (da_cons (de_op od_sub de_int (de_op od_mulA (dv 3) (dv 8))) (da_cons (de_op od_mulA (dv 1) (dv 8)) da_nil))) da_nil))) da_nil))))))))
theorem ok_law (T : Txt w K mg base) : FnG P w K mg base (L2N.CX P w) 11 T.f_law T.fd_law ["_law_script"] (upF K spLawD) := by
  refine okD (k := 10) (t := fun Ed => t_law Ed) T.F_law sc_law (len_law) (fun cdv A outer s H E Ed hr => ?_) (pure_law)
  exact (db_cons (ds_for (vs := [1]) passB rfl (di_rng1 (by rfl) T.n_range (da_cons (de_callB (cd_max2 rfl) (by rfl) T.n_max (by decide +kernel) (da_cons de_int (da_cons (de_callB (cd_min2 rfl) (by rfl) T.n_min (by decide +kernel) (da_cons de_int (da_cons (de_callB cd_len (by rfl) T.n_len (by decide +kernel) (da_cons (dv 0) da_nil)) da_nil))) da_nil))) da_nil)) (dg_name (i := 1) sc_law.nd rfl (by first | exact Or.inl rfl | exact Or.inr rfl) (by decide))
  (db_cons (ds_set 2 sc_law.nd rfl (by first | exact .inl rfl | exact .inr rfl) (de_call (ok_law_urn T) (hr.mono (by decide)) (by rfl) T.m_law_urn T.F_law_urn.kp T.b_law_urn .nil (fun _ _ => rpL_nil) takesB (da_cons (dv 0) (da_cons (dv 1) da_nil))))
  (db_cons (ds_asg (vs := [3, 4]) (de_call (ok_law_counts T) (hr.mono (by decide)) (by rfl) T.m_law_counts T.F_law_counts.kp T.b_law_counts .nil (fun _ _ => rpL_nil) takesB (da_cons (dv 2) (da_cons (de_ix (de_lst (da_cons de_int (da_cons de_int (da_cons de_int (da_cons de_int da_nil))))) (de_call (ok_law_draw T) (hr.mono (by decide)) (by rfl) T.m_law_draw T.F_law_draw.kp T.b_law_draw .nil (fun _ _ => rpL_nil) takesB (da_cons (dv 2) (da_cons de_int da_nil))) (fun _ _ => rfl)) da_nil))) (dg_tup rfl (dgs_cons (dg_name (i := 3) sc_law.nd rfl (by first | exact Or.inl rfl | exact Or.inr rfl) (by decide)) (dgs_cons (dg_name (i := 4) sc_law.nd rfl (by first | exact Or.inl rfl | exact Or.inr rfl) (by decide)) dgs_nil))))
  (db_cons (ds_set 5 sc_law.nd rfl (by first | exact .inl rfl | exact .inr rfl) (de_call (ok_law_even_word T) (hr.mono (by decide)) (by rfl) T.m_law_even_word T.F_law_even_word.kp T.b_law_even_word .nil (fun _ _ => rpL_nil) takesB (da_cons (dv 3) (da_cons (dv 4) da_nil))))
  (db_cons (ds_asg (vs := [6, 7]) (de_call (ok_law_turning T) (hr.mono (by decide)) (by rfl) T.m_law_turning T.F_law_turning.kp T.b_law_turning .nil (fun _ _ => rpL_nil) takesB (da_cons (dv 2) da_nil)) (dg_tup rfl (dgs_cons (dg_name (i := 6) sc_law.nd rfl (by first | exact Or.inl rfl | exact Or.inr rfl) (by decide)) (dgs_cons (dg_name (i := 7) sc_law.nd rfl (by first | exact Or.inl rfl | exact Or.inr rfl) (by decide)) dgs_nil))))
  (db_cons (ds_set 8 sc_law.nd rfl (by first | exact .inl rfl | exact .inr rfl) (de_ix (de_lst (da_cons (de_op od_add (de_call (ok_law_draw T) (hr.mono (by decide)) (by rfl) T.m_law_draw T.F_law_draw.kp T.b_law_draw .nil (fun _ _ => rpL_nil) takesB (da_cons (dv 2) (da_cons de_int da_nil))) de_int) (da_cons (de_op od_sub (de_op od_sub de_int (de_call (ok_law_draw T) (hr.mono (by decide)) (by rfl) T.m_law_draw T.F_law_draw.kp T.b_law_draw .nil (fun _ _ => rpL_nil) takesB (da_cons (dv 2) (da_cons de_int da_nil)))) de_int) da_nil))) (de_call (ok_law_draw T) (hr.mono (by decide)) (by rfl) T.m_law_draw T.F_law_draw.kp T.b_law_draw .nil (fun _ _ => rpL_nil) takesB (da_cons (dv 2) (da_cons de_int da_nil))) (fun _ _ => rfl)))
  (db_cons (ds_asg (vs := [9, 10, 11]) (de_call (ok_law_turned_form T) (hr.mono (by decide)) (by rfl) T.m_law_turned_form T.F_law_turned_form.kp T.b_law_turned_form .nil (fun _ _ => rpL_nil) takesB (da_cons (de_callTy (cd_tupA rfl) (by rfl) T.n_tuple (by decide +kernel) (da_cons (de_lc (own := [("_law_one", 15)]) rfl sc_law.nd (di_any (de_call (ok_law_word_form T) (hr.mono (by decide)) (by rfl) T.m_law_word_form T.F_law_word_form.kp T.b_law_word_form .nil (fun _ _ => rpL_nil) takesB (da_cons (dv 5) da_nil))) (blkOk_by (own := [("_law_one", 15)]) (N := N_law) (sc := defScope s_law) (by decide +kernel)) (fun _ _ _ _ _ => (dg_name (i := 15) sc_law.nd rfl (by first | exact Or.inl rfl | exact Or.inr rfl) (by decide))) (fun _ _ _ _ _ => dts_nil) (fun _ _ _ _ _ => (de_op od_mulA (dv 8) (dv 15)))) da_nil)) (da_cons (dv 7) da_nil))) (dg_tup rfl (dgs_cons (dg_name (i := 9) sc_law.nd rfl (by first | exact Or.inl rfl | exact Or.inr rfl) (by decide)) (dgs_cons (dg_name (i := 10) sc_law.nd rfl (by first | exact Or.inl rfl | exact Or.inr rfl) (by decide)) (dgs_cons (dg_name (i := 11) sc_law.nd rfl (by first | exact Or.inl rfl | exact Or.inr rfl) (by decide)) dgs_nil)))))
  (db_cons (ds_if (dt_not (dt_val (de_call (ok_law_all_looked_right T) (hr.mono (by decide)) (by rfl) T.m_law_all_looked_right T.F_law_all_looked_right.kp T.b_law_all_looked_right .nil (fun _ _ => rpL_nil) takesB (da_cons (dv 2) (da_cons (de_tup (da_cons de_str (da_cons (dv 9) (da_cons (dv 10) (da_cons (dv 11) da_nil))))) (da_cons (de_tup (da_cons (dv 5) (da_cons (dv 6) (da_cons (dv 8) da_nil)))) da_nil)))))) (db_one (ds_ret de_bl)) db_nil)
  (db_cons (ds_if (dt_not (dt_val (de_call (ok_law_looked_right T) (hr.mono (by decide)) (by rfl) T.m_law_looked_right T.F_law_looked_right.kp T.b_law_looked_right .nil (fun _ _ => rpL_nil) takesB (da_cons (de_tup (da_cons de_str (da_cons (dv 9) (da_cons (dv 10) (da_cons (dv 11) da_nil))))) (da_cons (de_tup (da_cons (de_op od_add (dv 5) (dv 5)) (da_cons (dv 6) (da_cons (dv 8) da_nil)))) da_nil))))) (db_one (ds_ret de_bl)) db_nil)
  (db_cons (ds_asg (vs := [9, 10, 11]) (de_callTy (cd_tupA rfl) (by rfl) T.n_tuple (by decide +kernel) (da_cons (de_lc (own := [("_law_one", 15)]) rfl sc_law.nd (di_any (de_call (ok_law_word_form T) (hr.mono (by decide)) (by rfl) T.m_law_word_form T.F_law_word_form.kp T.b_law_word_form .nil (fun _ _ => rpL_nil) takesB (da_cons (dv 5) da_nil))) (blkOk_by (own := [("_law_one", 15)]) (N := N_law) (sc := defScope s_law) (by decide +kernel)) (fun _ _ _ _ _ => (dg_name (i := 15) sc_law.nd rfl (by first | exact Or.inl rfl | exact Or.inr rfl) (by decide))) (fun _ _ _ _ _ => dts_nil) (fun _ _ _ _ _ => (de_op od_mulA (dv 8) (dv 15)))) da_nil)) (dg_tup rfl (dgs_cons (dg_name (i := 9) sc_law.nd rfl (by first | exact Or.inl rfl | exact Or.inr rfl) (by decide)) (dgs_cons (dg_name (i := 10) sc_law.nd rfl (by first | exact Or.inl rfl | exact Or.inr rfl) (by decide)) (dgs_cons (dg_name (i := 11) sc_law.nd rfl (by first | exact Or.inl rfl | exact Or.inr rfl) (by decide)) dgs_nil)))))
  (db_cons (ds_if (dt_not (dt_val (de_call (ok_law_looked_right T) (hr.mono (by decide)) (by rfl) T.m_law_looked_right T.F_law_looked_right.kp T.b_law_looked_right .nil (fun _ _ => rpL_nil) takesB (da_cons (de_tup (da_cons de_str (da_cons (dv 9) (da_cons (dv 10) (da_cons (dv 11) da_nil))))) (da_cons (de_tup (da_cons (dv 5) (da_cons (de_tup (da_cons (de_tup (da_cons de_int (da_cons de_int da_nil))) (da_cons (de_tup (da_cons de_int (da_cons de_int da_nil))) da_nil))) (da_cons (de_op od_mulA de_int (dv 8)) da_nil)))) da_nil))))) (db_one (ds_ret de_bl)) db_nil)
  (db_cons (ds_set 12 sc_law.nd rfl (by first | exact .inl rfl | exact .inr rfl) (de_ix (de_lst (da_cons de_int (da_cons de_int (da_cons (de_op od_pow de_int de_int) da_nil)))) (de_call (ok_law_draw T) (hr.mono (by decide)) (by rfl) T.m_law_draw T.F_law_draw.kp T.b_law_draw .nil (fun _ _ => rpL_nil) takesB (da_cons (dv 2) (da_cons de_int da_nil))) (fun _ _ => rfl)))
  (db_cons (ds_setLc (own := [("_law_k", 16)]) 13 rfl sc_law.nd rfl rfl (sw_true rfl rfl rfl (by decide +kernel)) (di_rng1 (by rfl) T.n_range (da_cons de_int da_nil)) (blkOk_by (own := [("_law_k", 16)]) (N := N_law) (sc := defScope s_law) (by decide +kernel)) (fun _ _ _ _ _ => (dg_name (i := 16) sc_law.nd rfl (by first | exact Or.inl rfl | exact Or.inr rfl) (by decide))) (fun _ _ _ _ _ => dts_nil) (fun _ _ _ _ _ => (de_op od_sub (de_call (ok_law_draw T) (hr.mono (by decide)) (by rfl) T.m_law_draw T.F_law_draw.kp T.b_law_draw .nil (fun _ _ => rpL_nil) takes0N (da_cons (dv 2) (da_cons (de_op od_add (de_op od_mulA de_int (dv 12)) de_int) da_nil))) (dv 12))))
  (db_cons (ds_set 14 sc_law.nd rfl (by first | exact .inl rfl | exact .inr rfl) (de_tup (da_cons (de_op od_sub (de_call (ok_law_draw T) (hr.mono (by decide)) (by rfl) T.m_law_draw T.F_law_draw.kp T.b_law_draw .nil (fun _ _ => rpL_nil) takesB (da_cons (dv 2) (da_cons de_int da_nil))) de_int) (da_cons (de_op od_sub (de_call (ok_law_draw T) (hr.mono (by decide)) (by rfl) T.m_law_draw T.F_law_draw.kp T.b_law_draw .nil (fun _ _ => rpL_nil) takesB (da_cons (dv 2) (da_cons de_int da_nil))) de_int) da_nil))))
  (db_cons (ds_if (dt_not (dt_val (de_call (ok_law_all_looked_right T) (hr.mono (by decide)) (by rfl) T.m_law_all_looked_right T.F_law_all_looked_right.kp T.b_law_all_looked_right .nil (fun _ _ => rpL_nil) takesB (da_cons (dv 2) (da_cons (de_tup (da_cons de_str (da_cons (de_ix (dv 13) de_int (fun _ _ => rfl)) (da_cons (de_ix (dv 13) de_int (fun _ _ => rfl)) (da_cons (de_ix (dv 13) de_int (fun _ _ => rfl)) da_nil))))) (da_cons (dv 14) da_nil)))))) (db_one (ds_ret de_bl)) db_nil)
  (db_cons (ds_if (dt_not (dt_val (de_call (ok_law_looked_right T) (hr.mono (by decide)) (by rfl) T.m_law_looked_right T.F_law_looked_right.kp T.b_law_looked_right .nil (fun _ _ => rpL_nil) takesB (da_cons (de_tup (da_cons de_str (da_cons (dv 9) (da_cons (dv 10) (da_cons (dv 11) da_nil))))) (da_cons (dv 14) da_nil))))) (db_one (ds_ret de_bl)) db_nil)
  (db_one (ds_if (dt_not (dt_val (de_call (ok_law_looked_right T) (hr.mono (by decide)) (by rfl) T.m_law_looked_right T.F_law_looked_right.kp T.b_law_looked_right .nil (fun _ _ => rpL_nil) takesB (da_cons (de_tup (da_cons de_str (da_cons (de_ix (dv 13) de_int (fun _ _ => rfl)) (da_cons (de_ix (dv 13) de_int (fun _ _ => rfl)) (da_cons (de_ix (dv 13) de_int (fun _ _ => rfl)) da_nil))))) (da_cons (de_tup (da_cons (dv 5) (da_cons (dv 6) (da_cons (dv 8) da_nil)))) da_nil))))) (db_one (ds_ret de_bl)) db_nil))))))))))))))))))
  (db_cons (ds_if (dt_val (de_call (ok_holds T) (hr.mono (by decide)) (by rfl) T.m_holds T.F_holds.kp T.b_holds .nil (fun _ _ => rpL_nil) takesB (da_cons (de_tup (da_cons de_str (da_cons de_int (da_cons (de_neg de_int) (da_cons (de_neg de_int) da_nil))))) (da_cons (de_tup (da_cons de_str (da_cons (de_tup (da_cons (de_tup (da_cons de_int (da_cons de_int da_nil))) (da_cons (de_tup (da_cons de_int (da_cons de_int da_nil))) da_nil))) (da_cons de_int da_nil)))) da_nil)))) (db_one (ds_ret de_bl)) db_nil)
  (db_one (ds_ret (de_not (de_call (ok_holds T) (hr.mono (by decide)) (by rfl) T.m_holds T.F_holds.kp T.b_holds .nil (fun _ _ => rpL_nil) takesB (da_cons (de_tup (da_cons de_str (da_cons de_int (da_cons (de_neg de_int) (da_cons (de_neg de_int) da_nil))))) (da_cons (de_tup (da_cons de_str (da_cons (de_tup (da_cons (de_tup (da_cons de_int (da_cons de_int da_nil))) (da_cons (de_tup (da_cons de_int (da_cons de_int da_nil))) da_nil))) (da_cons de_int da_nil)))) da_nil))))))))
end
theorem all_mk {w : World} {K : PySem.W.Frag} {h : Heap} {mg : Str → Option Value} {fa : Addr} (X : K.In h) (G : h.Ns mainGlobals mg) (hfa : mg "law" = some (.ref fa))
    {f0 f1 f2 f3 f4 f5 f6 f7 f8 f9 f10 f11 f12 f13 f14 f15 f16 f17 f18 f19 f20 f21 f22 f23 f24 f25 f26 f27 f28 f29 f30 f31 f32 f33 f34 f35 f36 f37 f38 f39 f40 f41 f42 f43 f44 f45 f46 f47 f48 f49 f50 : Addr} {od0 an0 od1 an1 od2 an2 od3 an3 od4 an4 od5 an5 od6 an6 od7 an7 od8 an8 od9 an9 od10 an10 od11 an11 od12 an12 od13 an13 od14 an14 od15 an15 od16 an16 od17 an17 od18 an18 od19 an19 od20 an20 od21 an21 od22 an22 od23 an23 od24 an24 od25 an25 od26 an26 od27 an27 od28 an28 od29 an29 od30 an30 od31 an31 od32 an32 od33 an33 od34 an34 od35 an35 od36 an36 od37 an37 od38 an38 od39 an39 od40 an40 od41 an41 od42 an42 od43 an43 od44 an44 od45 an45 od46 an46 od47 an47 od48 an48 od49 an49 od50 an50 : Option Addr} {sl0 sl1 sl2 sl3 sl4 sl5 sl6 sl7 sl8 sl9 sl10 sl11 sl12 sl13 sl14 sl15 sl16 sl17 sl18 sl19 sl20 sl21 sl22 sl23 sl24 sl25 sl26 sl27 sl28 sl29 sl30 sl31 sl32 sl33 sl34 sl35 sl36 sl37 sl38 sl39 sl40 sl41 sl42 sl43 sl44 sl45 sl46 sl47 sl48 sl49 sl50 : Array (Option Value)}
    {oc0 kV0 dc0 pm0 cd0 ct0 oc1 kV1 dc1 pm1 cd1 ct1 oc2 kV2 dc2 pm2 cd2 ct2 oc3 kV3 dc3 pm3 cd3 ct3 oc4 kV4 dc4 pm4 cd4 ct4 oc5 kV5 dc5 pm5 cd5 ct5 oc6 kV6 dc6 pm6 cd6 ct6 oc7 kV7 dc7 pm7 cd7 ct7 oc8 kV8 dc8 pm8 cd8 ct8 oc9 kV9 dc9 pm9 cd9 ct9 oc10 kV10 dc10 pm10 cd10 ct10 oc11 kV11 dc11 pm11 cd11 ct11 oc12 kV12 dc12 pm12 cd12 ct12 oc13 kV13 dc13 pm13 cd13 ct13 oc14 kV14 dc14 pm14 cd14 ct14 oc15 kV15 dc15 pm15 cd15 ct15 oc16 kV16 dc16 pm16 cd16 ct16 oc17 kV17 dc17 pm17 cd17 ct17 oc18 kV18 dc18 pm18 cd18 ct18 oc19 kV19 dc19 pm19 cd19 ct19 oc20 kV20 dc20 pm20 cd20 ct20 oc21 kV21 dc21 pm21 cd21 ct21 oc22 kV22 dc22 pm22 cd22 ct22 oc23 kV23 dc23 pm23 cd23 ct23 oc24 kV24 dc24 pm24 cd24 ct24 oc25 kV25 dc25 pm25 cd25 ct25 oc26 kV26 dc26 pm26 cd26 ct26 oc27 kV27 dc27 pm27 cd27 ct27 oc28 kV28 dc28 pm28 cd28 ct28 oc29 kV29 dc29 pm29 cd29 ct29 oc30 kV30 dc30 pm30 cd30 ct30 oc31 kV31 dc31 pm31 cd31 ct31 oc32 kV32 dc32 pm32 cd32 ct32 oc33 kV33 dc33 pm33 cd33 ct33 oc34 kV34 dc34 pm34 cd34 ct34 oc35 kV35 dc35 pm35 cd35 ct35 oc36 kV36 dc36 pm36 cd36 ct36 oc37 kV37 dc37 pm37 cd37 ct37 oc38 kV38 dc38 pm38 cd38 ct38 oc39 kV39 dc39 pm39 cd39 ct39 oc40 kV40 dc40 pm40 cd40 ct40 oc41 kV41 dc41 pm41 cd41 ct41 oc42 kV42 dc42 pm42 cd42 ct42 oc43 kV43 dc43 pm43 cd43 ct43 oc44 kV44 dc44 pm44 cd44 ct44 oc45 kV45 dc45 pm45 cd45 ct45 oc46 kV46 dc46 pm46 cd46 ct46 oc47 kV47 dc47 pm47 cd47 ct47 oc48 kV48 dc48 pm48 cd48 ct48 oc49 kV49 dc49 pm49 cd49 ct49 oc50 kV50 dc50 pm50 cd50 ct50 : Value}
    {p_HOLD : Addr} {es_HOLD : Array DictEntry} {n_HOLD : Nat}
    {fx_even_holds : Addr}
    {fx_uneven_holds : Addr}
    {fx_below_holds : Addr}
    {fx_above_holds : Addr}
    {p_HOLD_OF_THREE : Addr} {es_HOLD_OF_THREE : Array DictEntry} {n_HOLD_OF_THREE : Nat}
    {fx_triple_holds : Addr}
    {p_HOLD_SAME : Addr} {es_HOLD_SAME : Array DictEntry} {n_HOLD_SAME : Nat}
    {fx_same_holds : Addr}
    {tk_LETTERS : Tok}
    {tk_MOST_LETTERS : Tok}
    {p_NUMBERS : Addr} {es_NUMBERS : Array DictEntry} {n_NUMBERS : Nat}
    {tk_NUMBERS_0_0 : Tok}
    {tk_NUMBERS_0_1 : Tok}
    {p_NUMBERS_0 : Addr} {np_NUMBERS_0 : Nat} {odp_NUMBERS_0 : Option Addr} {slp_NUMBERS_0 : Array (Option Value)}
    {tk_NUMBERS_1_0 : Tok}
    {tk_NUMBERS_1_1 : Tok}
    {p_NUMBERS_1 : Addr} {np_NUMBERS_1 : Nat} {odp_NUMBERS_1 : Option Addr} {slp_NUMBERS_1 : Array (Option Value)}
    {tk_WALL_0 : Tok}
    {tk_WALL_1 : Tok}
    {p_WALL : Addr} {np_WALL : Nat} {odp_WALL : Option Addr} {slp_WALL : Array (Option Value)}
    {C_Form : Addr}
    {C_NoForm fI_NoForm : Addr} {xod_NoForm xan_NoForm : Option Addr} {xsl_NoForm : Array (Option Value)} {xoc_NoForm xkV_NoForm xdc_NoForm xpm_NoForm xcd_NoForm xct_NoForm : Value}
    (vg_Form : PySem.W.nsIn K mainGlobals "Form" = some (some (.ref C_Form)))
    (a0 : PySem.W.nsIn K mainGlobals "is_whole" = some (some (.ref f0)))
    (l0 : K.lookup f0 = some ⟨oc0, od0, .func (PySem.W.fnOf "is_whole" "is_whole" (defArgs s_is_whole) (defBody s_is_whole) (defScope s_is_whole) .none kV0 dc0 pm0 an0 cd0 ct0), sl0⟩)
    (c0 : PySem.W.codeIn K cd0 "is_whole" = true)
    (k0 : PySem.W.keepIn K (.ref f0) = true)
    (a1 : PySem.W.nsIn K mainGlobals "are_wholes" = some (some (.ref f1)))
    (l1 : K.lookup f1 = some ⟨oc1, od1, .func (PySem.W.fnOf "are_wholes" "are_wholes" (defArgs s_are_wholes) (defBody s_are_wholes) (defScope s_are_wholes) .none kV1 dc1 pm1 an1 cd1 ct1), sl1⟩)
    (c1 : PySem.W.codeIn K cd1 "are_wholes" = true)
    (k1 : PySem.W.keepIn K (.ref f1) = true)
    (a2 : PySem.W.nsIn K mainGlobals "shared_by" = some (some (.ref f2)))
    (l2 : K.lookup f2 = some ⟨oc2, od2, .func (PySem.W.fnOf "shared_by" "shared_by" (defArgs s_shared_by) (defBody s_shared_by) (defScope s_shared_by) .none kV2 dc2 pm2 an2 cd2 ct2), sl2⟩)
    (c2 : PySem.W.codeIn K cd2 "shared_by" = true)
    (k2 : PySem.W.keepIn K (.ref f2) = true)
    (a3 : PySem.W.nsIn K mainGlobals "side_of" = some (some (.ref f3)))
    (l3 : K.lookup f3 = some ⟨oc3, od3, .func (PySem.W.fnOf "side_of" "side_of" (defArgs s_side_of) (defBody s_side_of) (defScope s_side_of) .none kV3 dc3 pm3 an3 cd3 ct3), sl3⟩)
    (c3 : PySem.W.codeIn K cd3 "side_of" = true)
    (k3 : PySem.W.keepIn K (.ref f3) = true)
    (a4 : PySem.W.nsIn K mainGlobals "is_square" = some (some (.ref f4)))
    (l4 : K.lookup f4 = some ⟨oc4, od4, .func (PySem.W.fnOf "is_square" "is_square" (defArgs s_is_square) (defBody s_is_square) (defScope s_is_square) .none kV4 dc4 pm4 an4 cd4 ct4), sl4⟩)
    (c4 : PySem.W.codeIn K cd4 "is_square" = true)
    (k4 : PySem.W.keepIn K (.ref f4) = true)
    (a5 : PySem.W.nsIn K mainGlobals "table_of_row" = some (some (.ref f5)))
    (l5 : K.lookup f5 = some ⟨oc5, od5, .func (PySem.W.fnOf "table_of_row" "table_of_row" (defArgs s_table_of_row) (defBody s_table_of_row) (defScope s_table_of_row) .none kV5 dc5 pm5 an5 cd5 ct5), sl5⟩)
    (c5 : PySem.W.codeIn K cd5 "table_of_row" = true)
    (k5 : PySem.W.keepIn K (.ref f5) = true)
    (a6 : PySem.W.nsIn K mainGlobals "form_of_row" = some (some (.ref f6)))
    (l6 : K.lookup f6 = some ⟨oc6, od6, .func (PySem.W.fnOf "form_of_row" "form_of_row" (defArgs s_form_of_row) (defBody s_form_of_row) (defScope s_form_of_row) .none kV6 dc6 pm6 an6 cd6 ct6), sl6⟩)
    (c6 : PySem.W.codeIn K cd6 "form_of_row" = true)
    (k6 : PySem.W.keepIn K (.ref f6) = true)
    (a7 : PySem.W.nsIn K mainGlobals "is_word" = some (some (.ref f7)))
    (l7 : K.lookup f7 = some ⟨oc7, od7, .func (PySem.W.fnOf "is_word" "is_word" (defArgs s_is_word) (defBody s_is_word) (defScope s_is_word) .none kV7 dc7 pm7 an7 cd7 ct7), sl7⟩)
    (c7 : PySem.W.codeIn K cd7 "is_word" = true)
    (k7 : PySem.W.keepIn K (.ref f7) = true)
    (a8 : PySem.W.nsIn K mainGlobals "is_pair_of" = some (some (.ref f8)))
    (l8 : K.lookup f8 = some ⟨oc8, od8, .func (PySem.W.fnOf "is_pair_of" "is_pair_of" (defArgs s_is_pair_of) (defBody s_is_pair_of) (defScope s_is_pair_of) .none kV8 dc8 pm8 an8 cd8 ct8), sl8⟩)
    (c8 : PySem.W.codeIn K cd8 "is_pair_of" = true)
    (k8 : PySem.W.keepIn K (.ref f8) = true)
    (a9 : PySem.W.nsIn K mainGlobals "is_table" = some (some (.ref f9)))
    (l9 : K.lookup f9 = some ⟨oc9, od9, .func (PySem.W.fnOf "is_table" "is_table" (defArgs s_is_table) (defBody s_is_table) (defScope s_is_table) .none kV9 dc9 pm9 an9 cd9 ct9), sl9⟩)
    (c9 : PySem.W.codeIn K cd9 "is_table" = true)
    (k9 : PySem.W.keepIn K (.ref f9) = true)
    (a10 : PySem.W.nsIn K mainGlobals "size_of" = some (some (.ref f10)))
    (l10 : K.lookup f10 = some ⟨oc10, od10, .func (PySem.W.fnOf "size_of" "size_of" (defArgs s_size_of) (defBody s_size_of) (defScope s_size_of) .none kV10 dc10 pm10 an10 cd10 ct10), sl10⟩)
    (c10 : PySem.W.codeIn K cd10 "size_of" = true)
    (k10 : PySem.W.keepIn K (.ref f10) = true)
    (a11 : PySem.W.nsIn K mainGlobals "is_turning" = some (some (.ref f11)))
    (l11 : K.lookup f11 = some ⟨oc11, od11, .func (PySem.W.fnOf "is_turning" "is_turning" (defArgs s_is_turning) (defBody s_is_turning) (defScope s_is_turning) .none kV11 dc11 pm11 an11 cd11 ct11), sl11⟩)
    (c11 : PySem.W.codeIn K cd11 "is_turning" = true)
    (k11 : PySem.W.keepIn K (.ref f11) = true)
    (a12 : PySem.W.nsIn K mainGlobals "look_turning" = some (some (.ref f12)))
    (l12 : K.lookup f12 = some ⟨oc12, od12, .func (PySem.W.fnOf "look_turning" "look_turning" (defArgs s_look_turning) (defBody s_look_turning) (defScope s_look_turning) .none kV12 dc12 pm12 an12 cd12 ct12), sl12⟩)
    (c12 : PySem.W.codeIn K cd12 "look_turning" = true)
    (k12 : PySem.W.keepIn K (.ref f12) = true)
    (a13 : PySem.W.nsIn K mainGlobals "even_word" = some (some (.ref f13)))
    (l13 : K.lookup f13 = some ⟨oc13, od13, .func (PySem.W.fnOf "even_word" "even_word" (defArgs s_even_word) (defBody s_even_word) (defScope s_even_word) .none kV13 dc13 pm13 an13 cd13 ct13), sl13⟩)
    (c13 : PySem.W.codeIn K cd13 "even_word" = true)
    (k13 : PySem.W.keepIn K (.ref f13) = true)
    (a14 : PySem.W.nsIn K mainGlobals "is_step_word" = some (some (.ref f14)))
    (l14 : K.lookup f14 = some ⟨oc14, od14, .func (PySem.W.fnOf "is_step_word" "is_step_word" (defArgs s_is_step_word) (defBody s_is_step_word) (defScope s_is_step_word) .none kV14 dc14 pm14 an14 cd14 ct14), sl14⟩)
    (c14 : PySem.W.codeIn K cd14 "is_step_word" = true)
    (k14 : PySem.W.keepIn K (.ref f14) = true)
    (a15 : PySem.W.nsIn K mainGlobals "row_of_word" = some (some (.ref f15)))
    (l15 : K.lookup f15 = some ⟨oc15, od15, .func (PySem.W.fnOf "row_of_word" "row_of_word" (defArgs s_row_of_word) (defBody s_row_of_word) (defScope s_row_of_word) .none kV15 dc15 pm15 an15 cd15 ct15), sl15⟩)
    (c15 : PySem.W.codeIn K cd15 "row_of_word" = true)
    (k15 : PySem.W.keepIn K (.ref f15) = true)
    (a16 : PySem.W.nsIn K mainGlobals "form_by" = some (some (.ref f16)))
    (l16 : K.lookup f16 = some ⟨oc16, od16, .func (PySem.W.fnOf "form_by" "form_by" (defArgs s_form_by) (defBody s_form_by) (defScope s_form_by) .none kV16 dc16 pm16 an16 cd16 ct16), sl16⟩)
    (c16 : PySem.W.codeIn K cd16 "form_by" = true)
    (k16 : PySem.W.keepIn K (.ref f16) = true)
    (a17 : PySem.W.nsIn K mainGlobals "is_tuple_of" = some (some (.ref f17)))
    (l17 : K.lookup f17 = some ⟨oc17, od17, .func (PySem.W.fnOf "is_tuple_of" "is_tuple_of" (defArgs s_is_tuple_of) (defBody s_is_tuple_of) (defScope s_is_tuple_of) .none kV17 dc17 pm17 an17 cd17 ct17), sl17⟩)
    (c17 : PySem.W.codeIn K cd17 "is_tuple_of" = true)
    (k17 : PySem.W.keepIn K (.ref f17) = true)
    (a18 : PySem.W.nsIn K mainGlobals "form_in" = some (some (.ref f18)))
    (l18 : K.lookup f18 = some ⟨oc18, od18, .func (PySem.W.fnOf "form_in" "form_in" (defArgs s_form_in) (defBody s_form_in) (defScope s_form_in) .none kV18 dc18 pm18 an18 cd18 ct18), sl18⟩)
    (c18 : PySem.W.codeIn K cd18 "form_in" = true)
    (k18 : PySem.W.keepIn K (.ref f18) = true)
    (a19 : PySem.W.nsIn K mainGlobals "form_below_holds" = some (some (.ref f19)))
    (l19 : K.lookup f19 = some ⟨oc19, od19, .func (PySem.W.fnOf "form_below_holds" "form_below_holds" (defArgs s_form_below_holds) (defBody s_form_below_holds) (defScope s_form_below_holds) .none kV19 dc19 pm19 an19 cd19 ct19), sl19⟩)
    (c19 : PySem.W.codeIn K cd19 "form_below_holds" = true)
    (k19 : PySem.W.keepIn K (.ref f19) = true)
    (a20 : PySem.W.nsIn K mainGlobals "form_above_holds" = some (some (.ref f20)))
    (l20 : K.lookup f20 = some ⟨oc20, od20, .func (PySem.W.fnOf "form_above_holds" "form_above_holds" (defArgs s_form_above_holds) (defBody s_form_above_holds) (defScope s_form_above_holds) .none kV20 dc20 pm20 an20 cd20 ct20), sl20⟩)
    (c20 : PySem.W.codeIn K cd20 "form_above_holds" = true)
    (k20 : PySem.W.keepIn K (.ref f20) = true)
    (a21 : PySem.W.nsIn K mainGlobals "holds" = some (some (.ref f21)))
    (l21 : K.lookup f21 = some ⟨oc21, od21, .func (PySem.W.fnOf "holds" "holds" (defArgs s_holds) (defBody s_holds) (defScope s_holds) .none kV21 dc21 pm21 an21 cd21 ct21), sl21⟩)
    (c21 : PySem.W.codeIn K cd21 "holds" = true)
    (k21 : PySem.W.keepIn K (.ref f21) = true)
    (a22 : PySem.W.nsIn K mainGlobals "_law_urn" = some (some (.ref f22)))
    (l22 : K.lookup f22 = some ⟨oc22, od22, .func (PySem.W.fnOf "_law_urn" "_law_urn" (defArgs s_law_urn) (defBody s_law_urn) (defScope s_law_urn) .none kV22 dc22 pm22 an22 cd22 ct22), sl22⟩)
    (c22 : PySem.W.codeIn K cd22 "_law_urn" = true)
    (k22 : PySem.W.keepIn K (.ref f22) = true)
    (a23 : PySem.W.nsIn K mainGlobals "_law_draw" = some (some (.ref f23)))
    (l23 : K.lookup f23 = some ⟨oc23, od23, .func (PySem.W.fnOf "_law_draw" "_law_draw" (defArgs s_law_draw) (defBody s_law_draw) (defScope s_law_draw) .none kV23 dc23 pm23 an23 cd23 ct23), sl23⟩)
    (c23 : PySem.W.codeIn K cd23 "_law_draw" = true)
    (k23 : PySem.W.keepIn K (.ref f23) = true)
    (a24 : PySem.W.nsIn K mainGlobals "_law_whole" = some (some (.ref f24)))
    (l24 : K.lookup f24 = some ⟨oc24, od24, .func (PySem.W.fnOf "_law_whole" "_law_whole" (defArgs s_law_whole) (defBody s_law_whole) (defScope s_law_whole) .none kV24 dc24 pm24 an24 cd24 ct24), sl24⟩)
    (c24 : PySem.W.codeIn K cd24 "_law_whole" = true)
    (k24 : PySem.W.keepIn K (.ref f24) = true)
    (a25 : PySem.W.nsIn K mainGlobals "_law_shared" = some (some (.ref f25)))
    (l25 : K.lookup f25 = some ⟨oc25, od25, .func (PySem.W.fnOf "_law_shared" "_law_shared" (defArgs s_law_shared) (defBody s_law_shared) (defScope s_law_shared) .none kV25 dc25 pm25 an25 cd25 ct25), sl25⟩)
    (c25 : PySem.W.codeIn K cd25 "_law_shared" = true)
    (k25 : PySem.W.keepIn K (.ref f25) = true)
    (a26 : PySem.W.nsIn K mainGlobals "_law_side" = some (some (.ref f26)))
    (l26 : K.lookup f26 = some ⟨oc26, od26, .func (PySem.W.fnOf "_law_side" "_law_side" (defArgs s_law_side) (defBody s_law_side) (defScope s_law_side) .none kV26 dc26 pm26 an26 cd26 ct26), sl26⟩)
    (c26 : PySem.W.codeIn K cd26 "_law_side" = true)
    (k26 : PySem.W.keepIn K (.ref f26) = true)
    (a27 : PySem.W.nsIn K mainGlobals "_law_is_square" = some (some (.ref f27)))
    (l27 : K.lookup f27 = some ⟨oc27, od27, .func (PySem.W.fnOf "_law_is_square" "_law_is_square" (defArgs s_law_is_square) (defBody s_law_is_square) (defScope s_law_is_square) .none kV27 dc27 pm27 an27 cd27 ct27), sl27⟩)
    (c27 : PySem.W.codeIn K cd27 "_law_is_square" = true)
    (k27 : PySem.W.keepIn K (.ref f27) = true)
    (a28 : PySem.W.nsIn K mainGlobals "_law_even_word" = some (some (.ref f28)))
    (l28 : K.lookup f28 = some ⟨oc28, od28, .func (PySem.W.fnOf "_law_even_word" "_law_even_word" (defArgs s_law_even_word) (defBody s_law_even_word) (defScope s_law_even_word) .none kV28 dc28 pm28 an28 cd28 ct28), sl28⟩)
    (c28 : PySem.W.codeIn K cd28 "_law_even_word" = true)
    (k28 : PySem.W.keepIn K (.ref f28) = true)
    (a29 : PySem.W.nsIn K mainGlobals "_law_counts" = some (some (.ref f29)))
    (l29 : K.lookup f29 = some ⟨oc29, od29, .func (PySem.W.fnOf "_law_counts" "_law_counts" (defArgs s_law_counts) (defBody s_law_counts) (defScope s_law_counts) .none kV29 dc29 pm29 an29 cd29 ct29), sl29⟩)
    (c29 : PySem.W.codeIn K cd29 "_law_counts" = true)
    (k29 : PySem.W.keepIn K (.ref f29) = true)
    (a30 : PySem.W.nsIn K mainGlobals "_law_numbers" = some (some (.ref f30)))
    (l30 : K.lookup f30 = some ⟨oc30, od30, .func (PySem.W.fnOf "_law_numbers" "_law_numbers" (defArgs s_law_numbers) (defBody s_law_numbers) (defScope s_law_numbers) .none kV30 dc30 pm30 an30 cd30 ct30), sl30⟩)
    (c30 : PySem.W.codeIn K cd30 "_law_numbers" = true)
    (k30 : PySem.W.keepIn K (.ref f30) = true)
    (a31 : PySem.W.nsIn K mainGlobals "_law_ring_table" = some (some (.ref f31)))
    (l31 : K.lookup f31 = some ⟨oc31, od31, .func (PySem.W.fnOf "_law_ring_table" "_law_ring_table" (defArgs s_law_ring_table) (defBody s_law_ring_table) (defScope s_law_ring_table) .none kV31 dc31 pm31 an31 cd31 ct31), sl31⟩)
    (c31 : PySem.W.codeIn K cd31 "_law_ring_table" = true)
    (k31 : PySem.W.keepIn K (.ref f31) = true)
    (a32 : PySem.W.nsIn K mainGlobals "_law_bent" = some (some (.ref f32)))
    (l32 : K.lookup f32 = some ⟨oc32, od32, .func (PySem.W.fnOf "_law_bent" "_law_bent" (defArgs s_law_bent) (defBody s_law_bent) (defScope s_law_bent) .none kV32 dc32 pm32 an32 cd32 ct32), sl32⟩)
    (c32 : PySem.W.codeIn K cd32 "_law_bent" = true)
    (k32 : PySem.W.keepIn K (.ref f32) = true)
    (a33 : PySem.W.nsIn K mainGlobals "_law_is_word" = some (some (.ref f33)))
    (l33 : K.lookup f33 = some ⟨oc33, od33, .func (PySem.W.fnOf "_law_is_word" "_law_is_word" (defArgs s_law_is_word) (defBody s_law_is_word) (defScope s_law_is_word) .none kV33 dc33 pm33 an33 cd33 ct33), sl33⟩)
    (c33 : PySem.W.codeIn K cd33 "_law_is_word" = true)
    (k33 : PySem.W.keepIn K (.ref f33) = true)
    (a34 : PySem.W.nsIn K mainGlobals "_law_is_claim" = some (some (.ref f34)))
    (l34 : K.lookup f34 = some ⟨oc34, od34, .func (PySem.W.fnOf "_law_is_claim" "_law_is_claim" (defArgs s_law_is_claim) (defBody s_law_is_claim) (defScope s_law_is_claim) .none kV34 dc34 pm34 an34 cd34 ct34), sl34⟩)
    (c34 : PySem.W.codeIn K cd34 "_law_is_claim" = true)
    (k34 : PySem.W.keepIn K (.ref f34) = true)
    (a35 : PySem.W.nsIn K mainGlobals "_law_copied" = some (some (.ref f35)))
    (l35 : K.lookup f35 = some ⟨oc35, od35, .func (PySem.W.fnOf "_law_copied" "_law_copied" (defArgs s_law_copied) (defBody s_law_copied) (defScope s_law_copied) .none kV35 dc35 pm35 an35 cd35 ct35), sl35⟩)
    (c35 : PySem.W.codeIn K cd35 "_law_copied" = true)
    (k35 : PySem.W.keepIn K (.ref f35) = true)
    (a36 : PySem.W.nsIn K mainGlobals "_law_is_form" = some (some (.ref f36)))
    (l36 : K.lookup f36 = some ⟨oc36, od36, .func (PySem.W.fnOf "_law_is_form" "_law_is_form" (defArgs s_law_is_form) (defBody s_law_is_form) (defScope s_law_is_form) .none kV36 dc36 pm36 an36 cd36 ct36), sl36⟩)
    (c36 : PySem.W.codeIn K cd36 "_law_is_form" = true)
    (k36 : PySem.W.keepIn K (.ref f36) = true)
    (a37 : PySem.W.nsIn K mainGlobals "_law_is_step" = some (some (.ref f37)))
    (l37 : K.lookup f37 = some ⟨oc37, od37, .func (PySem.W.fnOf "_law_is_step" "_law_is_step" (defArgs s_law_is_step) (defBody s_law_is_step) (defScope s_law_is_step) .none kV37 dc37 pm37 an37 cd37 ct37), sl37⟩)
    (c37 : PySem.W.codeIn K cd37 "_law_is_step" = true)
    (k37 : PySem.W.keepIn K (.ref f37) = true)
    (a38 : PySem.W.nsIn K mainGlobals "_law_is_turning" = some (some (.ref f38)))
    (l38 : K.lookup f38 = some ⟨oc38, od38, .func (PySem.W.fnOf "_law_is_turning" "_law_is_turning" (defArgs s_law_is_turning) (defBody s_law_is_turning) (defScope s_law_is_turning) .none kV38 dc38 pm38 an38 cd38 ct38), sl38⟩)
    (c38 : PySem.W.codeIn K cd38 "_law_is_turning" = true)
    (k38 : PySem.W.keepIn K (.ref f38) = true)
    (a39 : PySem.W.nsIn K mainGlobals "_law_turned_form" = some (some (.ref f39)))
    (l39 : K.lookup f39 = some ⟨oc39, od39, .func (PySem.W.fnOf "_law_turned_form" "_law_turned_form" (defArgs s_law_turned_form) (defBody s_law_turned_form) (defScope s_law_turned_form) .none kV39 dc39 pm39 an39 cd39 ct39), sl39⟩)
    (c39 : PySem.W.codeIn K cd39 "_law_turned_form" = true)
    (k39 : PySem.W.keepIn K (.ref f39) = true)
    (a40 : PySem.W.nsIn K mainGlobals "_law_word_form" = some (some (.ref f40)))
    (l40 : K.lookup f40 = some ⟨oc40, od40, .func (PySem.W.fnOf "_law_word_form" "_law_word_form" (defArgs s_law_word_form) (defBody s_law_word_form) (defScope s_law_word_form) .none kV40 dc40 pm40 an40 cd40 ct40), sl40⟩)
    (c40 : PySem.W.codeIn K cd40 "_law_word_form" = true)
    (k40 : PySem.W.keepIn K (.ref f40) = true)
    (a41 : PySem.W.nsIn K mainGlobals "_law_due" = some (some (.ref f41)))
    (l41 : K.lookup f41 = some ⟨oc41, od41, .func (PySem.W.fnOf "_law_due" "_law_due" (defArgs s_law_due) (defBody s_law_due) (defScope s_law_due) .none kV41 dc41 pm41 an41 cd41 ct41), sl41⟩)
    (c41 : PySem.W.codeIn K cd41 "_law_due" = true)
    (k41 : PySem.W.keepIn K (.ref f41) = true)
    (a42 : PySem.W.nsIn K mainGlobals "_law_looked_right" = some (some (.ref f42)))
    (l42 : K.lookup f42 = some ⟨oc42, od42, .func (PySem.W.fnOf "_law_looked_right" "_law_looked_right" (defArgs s_law_looked_right) (defBody s_law_looked_right) (defScope s_law_looked_right) .none kV42 dc42 pm42 an42 cd42 ct42), sl42⟩)
    (c42 : PySem.W.codeIn K cd42 "_law_looked_right" = true)
    (k42 : PySem.W.keepIn K (.ref f42) = true)
    (a43 : PySem.W.nsIn K mainGlobals "_law_all_looked_right" = some (some (.ref f43)))
    (l43 : K.lookup f43 = some ⟨oc43, od43, .func (PySem.W.fnOf "_law_all_looked_right" "_law_all_looked_right" (defArgs s_law_all_looked_right) (defBody s_law_all_looked_right) (defScope s_law_all_looked_right) .none kV43 dc43 pm43 an43 cd43 ct43), sl43⟩)
    (c43 : PySem.W.codeIn K cd43 "_law_all_looked_right" = true)
    (k43 : PySem.W.keepIn K (.ref f43) = true)
    (a44 : PySem.W.nsIn K mainGlobals "_law_turning" = some (some (.ref f44)))
    (l44 : K.lookup f44 = some ⟨oc44, od44, .func (PySem.W.fnOf "_law_turning" "_law_turning" (defArgs s_law_turning) (defBody s_law_turning) (defScope s_law_turning) .none kV44 dc44 pm44 an44 cd44 ct44), sl44⟩)
    (c44 : PySem.W.codeIn K cd44 "_law_turning" = true)
    (k44 : PySem.W.keepIn K (.ref f44) = true)
    (a45 : PySem.W.nsIn K mainGlobals "law" = some (some (.ref f45)))
    (l45 : K.lookup f45 = some ⟨oc45, od45, .func (PySem.W.fnOf "law" "law" (defArgs s_law) (defBody s_law) (defScope s_law) .none kV45 dc45 pm45 an45 cd45 ct45), sl45⟩)
    (c45 : PySem.W.codeIn K cd45 "law" = true)
    (k45 : PySem.W.keepIn K (.ref f45) = true)
    (a46 : PySem.W.findIn K (.ref C_Form) "__init__" = some (some (.ref f46)))
    (l46 : K.lookup f46 = some ⟨oc46, od46, .func (PySem.W.fnOf "__init__" "Form.__init__" (defArgs s_Form___init__) (defBody s_Form___init__) (defScope s_Form___init__) .none kV46 dc46 pm46 an46 cd46 ct46), sl46⟩)
    (c46 : PySem.W.codeIn K cd46 "Form.__init__" = true)
    (k46 : PySem.W.keepIn K (.ref f46) = true)
    (vc_Form : clB K "Form" C_Form f46 = true)
    (vn_Form : noAttrB K C_Form ["held", "held_under"] = true)
    (a47 : PySem.W.findIn K (.ref C_Form) "parts" = some (some (.ref f47)))
    (l47 : K.lookup f47 = some ⟨oc47, od47, .func (PySem.W.fnOf "parts" "Form.parts" (defArgs s_Form_parts) (defBody s_Form_parts) (defScope s_Form_parts) .none kV47 dc47 pm47 an47 cd47 ct47), sl47⟩)
    (c47 : PySem.W.codeIn K cd47 "Form.parts" = true)
    (k47 : PySem.W.keepIn K (.ref f47) = true)
    (vm47 : methB K C_Form "parts" f47 = true)
    (a48 : PySem.W.findIn K (.ref C_Form) "under_root" = some (some (.ref f48)))
    (l48 : K.lookup f48 = some ⟨oc48, od48, .func (PySem.W.fnOf "under_root" "Form.under_root" (defArgs s_Form_under_root) (defBody s_Form_under_root) (defScope s_Form_under_root) .none kV48 dc48 pm48 an48 cd48 ct48), sl48⟩)
    (c48 : PySem.W.codeIn K cd48 "Form.under_root" = true)
    (k48 : PySem.W.keepIn K (.ref f48) = true)
    (vm48 : methB K C_Form "under_root" f48 = true)
    (a49 : PySem.W.findIn K (.ref C_Form) "value" = some (some (.ref f49)))
    (l49 : K.lookup f49 = some ⟨oc49, od49, .func (PySem.W.fnOf "value" "Form.value" (defArgs s_Form_value) (defBody s_Form_value) (defScope s_Form_value) .none kV49 dc49 pm49 an49 cd49 ct49), sl49⟩)
    (c49 : PySem.W.codeIn K cd49 "Form.value" = true)
    (k49 : PySem.W.keepIn K (.ref f49) = true)
    (vm49 : methB K C_Form "value" f49 = true)
    (a50 : PySem.W.findIn K (.ref C_Form) "turned" = some (some (.ref f50)))
    (l50 : K.lookup f50 = some ⟨oc50, od50, .func (PySem.W.fnOf "turned" "Form.turned" (defArgs s_Form_turned) (defBody s_Form_turned) (defScope s_Form_turned) .none kV50 dc50 pm50 an50 cd50 ct50), sl50⟩)
    (c50 : PySem.W.codeIn K cd50 "Form.turned" = true)
    (k50 : PySem.W.keepIn K (.ref f50) = true)
    (vm50 : methB K C_Form "turned" f50 = true)
    (gl : glB K = true)
    (wh : whB K rsX = true)
    (xg_NoForm : PySem.W.nsIn K mainGlobals "NoForm" = some (some (.ref C_NoForm)))
    (xi_NoForm : PySem.W.findIn K (.ref C_NoForm) "__init__" = some (some (.ref fI_NoForm)))
    (xl_NoForm : K.lookup fI_NoForm = some ⟨xoc_NoForm, xod_NoForm, .func (PySem.W.fnOf "__init__" "NoForm.__init__" (defArgs sI_NoForm) (defBody sI_NoForm) (defScope sI_NoForm) .none xkV_NoForm xdc_NoForm xpm_NoForm xan_NoForm xcd_NoForm xct_NoForm), xsl_NoForm⟩)
    (xc_NoForm : PySem.W.codeIn K xcd_NoForm "NoForm.__init__" = true)
    (xk_NoForm : PySem.W.keepIn K (.ref fI_NoForm) = true)
    (xf_NoForm : fxB K "NoForm" [.type "ArithmeticError", .type "Exception", .type "BaseException", .type "object"] "ArithmeticError.__new__" C_NoForm fI_NoForm ["under"] = true)
    (rs_NoTable : rsB K "NoTable" [.type "ValueError", .type "Exception", .type "BaseException", .type "object"] "ValueError.__new__" = true)
    (g_HOLD : PySem.W.nsIn K mainGlobals "HOLD" = some (some (.ref p_HOLD)))
    (l_HOLD : K.lookup p_HOLD = some ⟨.type "dict", none, .dict es_HOLD n_HOLD, #[]⟩)
    (y_HOLD : PySem.W.KeysLit w.params es_HOLD.toList)
    (e0_HOLD : PySem.W.nsIn K p_HOLD "even" = some (some (.ref fx_even_holds)))
    (fa_even_holds : PySem.W.nsIn K mainGlobals "even_holds" = some (some (.ref fx_even_holds)))
    (e1_HOLD : PySem.W.nsIn K p_HOLD "uneven" = some (some (.ref fx_uneven_holds)))
    (fa_uneven_holds : PySem.W.nsIn K mainGlobals "uneven_holds" = some (some (.ref fx_uneven_holds)))
    (e2_HOLD : PySem.W.nsIn K p_HOLD "below" = some (some (.ref fx_below_holds)))
    (fa_below_holds : PySem.W.nsIn K mainGlobals "below_holds" = some (some (.ref fx_below_holds)))
    (e3_HOLD : PySem.W.nsIn K p_HOLD "above" = some (some (.ref fx_above_holds)))
    (fa_above_holds : PySem.W.nsIn K mainGlobals "above_holds" = some (some (.ref fx_above_holds)))
    (s_HOLD : (p_HOLD == sysModules) = false)
    (sk_HOLD : es_HOLD.toList.map skey = (["even", "uneven", "below", "above"] : List PySem.Str).map some)
    (g_HOLD_OF_THREE : PySem.W.nsIn K mainGlobals "HOLD_OF_THREE" = some (some (.ref p_HOLD_OF_THREE)))
    (l_HOLD_OF_THREE : K.lookup p_HOLD_OF_THREE = some ⟨.type "dict", none, .dict es_HOLD_OF_THREE n_HOLD_OF_THREE, #[]⟩)
    (y_HOLD_OF_THREE : PySem.W.KeysLit w.params es_HOLD_OF_THREE.toList)
    (e0_HOLD_OF_THREE : PySem.W.nsIn K p_HOLD_OF_THREE "triple" = some (some (.ref fx_triple_holds)))
    (fa_triple_holds : PySem.W.nsIn K mainGlobals "triple_holds" = some (some (.ref fx_triple_holds)))
    (e1_HOLD_OF_THREE : PySem.W.nsIn K p_HOLD_OF_THREE "form below" = some (some (.ref f19)))
    (e2_HOLD_OF_THREE : PySem.W.nsIn K p_HOLD_OF_THREE "form above" = some (some (.ref f20)))
    (s_HOLD_OF_THREE : (p_HOLD_OF_THREE == sysModules) = false)
    (sk_HOLD_OF_THREE : es_HOLD_OF_THREE.toList.map skey = (["triple", "form below", "form above"] : List PySem.Str).map some)
    (g_HOLD_SAME : PySem.W.nsIn K mainGlobals "HOLD_SAME" = some (some (.ref p_HOLD_SAME)))
    (l_HOLD_SAME : K.lookup p_HOLD_SAME = some ⟨.type "dict", none, .dict es_HOLD_SAME n_HOLD_SAME, #[]⟩)
    (y_HOLD_SAME : PySem.W.KeysLit w.params es_HOLD_SAME.toList)
    (e0_HOLD_SAME : PySem.W.nsIn K p_HOLD_SAME "same" = some (some (.ref fx_same_holds)))
    (fa_same_holds : PySem.W.nsIn K mainGlobals "same_holds" = some (some (.ref fx_same_holds)))
    (s_HOLD_SAME : (p_HOLD_SAME == sysModules) = false)
    (sk_HOLD_SAME : es_HOLD_SAME.toList.map skey = (["same"] : List PySem.Str).map some)
    (g_LETTERS : PySem.W.nsIn K mainGlobals "LETTERS" = some (some (.str "ab" tk_LETTERS)))
    (g_MOST_LETTERS : PySem.W.nsIn K mainGlobals "MOST_LETTERS" = some (some (.int 60 tk_MOST_LETTERS)))
    (g_NUMBERS : PySem.W.nsIn K mainGlobals "NUMBERS" = some (some (.ref p_NUMBERS)))
    (l_NUMBERS : K.lookup p_NUMBERS = some ⟨.type "dict", none, .dict es_NUMBERS n_NUMBERS, #[]⟩)
    (y_NUMBERS : PySem.W.KeysLit w.params es_NUMBERS.toList)
    (e0_NUMBERS : PySem.W.nsIn K p_NUMBERS "a" = some (some (.ref p_NUMBERS_0)))
    (lp_NUMBERS_0 : K.lookup p_NUMBERS_0 = some ⟨.type "tuple", odp_NUMBERS_0, .seq #[.int 1 tk_NUMBERS_0_0, .int 1 tk_NUMBERS_0_1] np_NUMBERS_0, slp_NUMBERS_0⟩)
    (e1_NUMBERS : PySem.W.nsIn K p_NUMBERS "b" = some (some (.ref p_NUMBERS_1)))
    (lp_NUMBERS_1 : K.lookup p_NUMBERS_1 = some ⟨.type "tuple", odp_NUMBERS_1, .seq #[.int 2 tk_NUMBERS_1_0, .int 2 tk_NUMBERS_1_1] np_NUMBERS_1, slp_NUMBERS_1⟩)
    (g_WALL : PySem.W.nsIn K mainGlobals "WALL" = some (some (.ref p_WALL)))
    (lp_WALL : K.lookup p_WALL = some ⟨.type "tuple", odp_WALL, .seq #[.int 9 tk_WALL_0, .int 1 tk_WALL_1] np_WALL, slp_WALL⟩)
    (z_abs : PySem.W.nsIn K mainGlobals "abs" = some none)
    (z_all : PySem.W.nsIn K mainGlobals "all" = some none)
    (z_bool : PySem.W.nsIn K mainGlobals "bool" = some none)
    (z_int : PySem.W.nsIn K mainGlobals "int" = some none)
    (z_isinstance : PySem.W.nsIn K mainGlobals "isinstance" = some none)
    (z_len : PySem.W.nsIn K mainGlobals "len" = some none)
    (z_list : PySem.W.nsIn K mainGlobals "list" = some none)
    (z_max : PySem.W.nsIn K mainGlobals "max" = some none)
    (z_min : PySem.W.nsIn K mainGlobals "min" = some none)
    (z_range : PySem.W.nsIn K mainGlobals "range" = some none)
    (z_repr : PySem.W.nsIn K mainGlobals "repr" = some none)
    (z_str : PySem.W.nsIn K mainGlobals "str" = some none)
    (z_sum : PySem.W.nsIn K mainGlobals "sum" = some none)
    (z_tuple : PySem.W.nsIn K mainGlobals "tuple" = some none)
    : LawG PySem.Challenge.rw_nearthrees_k59_papers_of_forms w K (L2N.CX PySem.Challenge.rw_nearthrees_k59_papers_of_forms.prog w) 11 63 "_law_script" mg fa h := by
  have e := hfa.symm.trans (PySem.W.mg_of X G a45)
  cases e
  have F0 := fun_mk (st := s_is_whole) l0 c0 k0
  have b0 := F0.binds (ps := ["thing"]) fun _ _ _ _ _ _ us hl => match us, hl with | [_], _ => rfl
  have F1 := fun_mk (st := s_are_wholes) l1 c1 k1
  have b1 := F1.binds (ps := ["things"]) fun _ _ _ _ _ _ us hl => match us, hl with | [_], _ => rfl
  have F2 := fun_mk (st := s_shared_by) l2 c2 k2
  have b2 := F2.binds (ps := ["one", "other"]) fun _ _ _ _ _ _ us hl => match us, hl with | [_, _], _ => rfl
  have F3 := fun_mk (st := s_side_of) l3 c3 k3
  have b3 := F3.binds (ps := ["square"]) fun _ _ _ _ _ _ us hl => match us, hl with | [_], _ => rfl
  have F4 := fun_mk (st := s_is_square) l4 c4 k4
  have b4 := F4.binds (ps := ["number"]) fun _ _ _ _ _ _ us hl => match us, hl with | [_], _ => rfl
  have F5 := fun_mk (st := s_table_of_row) l5 c5 k5
  have b5 := F5.binds (ps := ["row"]) fun _ _ _ _ _ _ us hl => match us, hl with | [_], _ => rfl
  have F6 := fun_mk (st := s_form_of_row) l6 c6 k6
  have b6 := F6.binds (ps := ["row"]) fun _ _ _ _ _ _ us hl => match us, hl with | [_], _ => rfl
  have F7 := fun_mk (st := s_is_word) l7 c7 k7
  have b7 := F7.binds (ps := ["thing"]) fun _ _ _ _ _ _ us hl => match us, hl with | [_], _ => rfl
  have F8 := fun_mk (st := s_is_pair_of) l8 c8 k8
  have b8 := F8.binds (ps := ["thing"]) fun _ _ _ _ _ _ us hl => match us, hl with | [_], _ => rfl
  have F9 := fun_mk (st := s_is_table) l9 c9 k9
  have b9 := F9.binds (ps := ["thing"]) fun _ _ _ _ _ _ us hl => match us, hl with | [_], _ => rfl
  have F10 := fun_mk (st := s_size_of) l10 c10 k10
  have b10 := F10.binds (ps := ["table"]) fun _ _ _ _ _ _ us hl => match us, hl with | [_], _ => rfl
  have F11 := fun_mk (st := s_is_turning) l11 c11 k11
  have b11 := F11.binds (ps := ["thing"]) fun _ _ _ _ _ _ us hl => match us, hl with | [_], _ => rfl
  have F12 := fun_mk (st := s_look_turning) l12 c12 k12
  have b12 := F12.binds (ps := ["thing"]) fun _ _ _ _ _ _ us hl => match us, hl with | [_], _ => rfl
  have F13 := fun_mk (st := s_even_word) l13 c13 k13
  have b13 := F13.binds (ps := ["many_b", "many_a"]) fun _ _ _ _ _ _ us hl => match us, hl with | [_, _], _ => rfl
  have F14 := fun_mk (st := s_is_step_word) l14 c14 k14
  have b14 := F14.binds (ps := ["thing"]) fun _ _ _ _ _ _ us hl => match us, hl with | [_], _ => rfl
  have F15 := fun_mk (st := s_row_of_word) l15 c15 k15
  have b15 := F15.binds (ps := ["word"]) fun _ _ _ _ _ _ us hl => match us, hl with | [_], _ => rfl
  have F16 := fun_mk (st := s_form_by) l16 c16 k16
  have b16 := F16.binds (ps := ["word"]) fun _ _ _ _ _ _ us hl => match us, hl with | [_], _ => rfl
  have F17 := fun_mk (st := s_is_tuple_of) l17 c17 k17
  have b17 := F17.binds (ps := ["thing", "many"]) fun _ _ _ _ _ _ us hl => match us, hl with | [_, _], _ => rfl
  have F18 := fun_mk (st := s_form_in) l18 c18 k18
  have b18 := F18.binds (ps := ["a", "b", "c"]) fun _ _ _ _ _ _ us hl => match us, hl with | [_, _, _], _ => rfl
  have F19 := fun_mk (st := s_form_below_holds) l19 c19 k19
  have b19 := F19.binds (ps := ["a", "b", "c", "paper"]) fun _ _ _ _ _ _ us hl => match us, hl with | [_, _, _, _], _ => rfl
  have F20 := fun_mk (st := s_form_above_holds) l20 c20 k20
  have b20 := F20.binds (ps := ["a", "b", "c", "paper"]) fun _ _ _ _ _ _ us hl => match us, hl with | [_, _, _, _], _ => rfl
  have F21 := fun_mk (st := s_holds) l21 c21 k21
  have b21 := F21.binds (ps := ["claim", "paper"]) fun _ _ _ _ _ _ us hl => match us, hl with | [_, _], _ => rfl
  have F22 := fun_mk (st := s_law_urn) l22 c22 k22
  have b22 := F22.binds (ps := ["_law_script", "_law_at"]) fun _ _ _ _ _ _ us hl => match us, hl with | [_, _], _ => rfl
  have F23 := fun_mk (st := s_law_draw) l23 c23 k23
  have b23 := F23.binds (ps := ["_law_urn_here", "_law_wide"]) fun _ _ _ _ _ _ us hl => match us, hl with | [_, _], _ => rfl
  have F24 := fun_mk (st := s_law_whole) l24 c24 k24
  have b24 := F24.binds (ps := ["_law_thing"]) fun _ _ _ _ _ _ us hl => match us, hl with | [_], _ => rfl
  have F25 := fun_mk (st := s_law_shared) l25 c25 k25
  have b25 := F25.binds (ps := ["_law_one", "_law_other"]) fun _ _ _ _ _ _ us hl => match us, hl with | [_, _], _ => rfl
  have F26 := fun_mk (st := s_law_side) l26 c26 k26
  have b26 := F26.binds (ps := ["_law_under"]) fun _ _ _ _ _ _ us hl => match us, hl with | [_], _ => rfl
  have F27 := fun_mk (st := s_law_is_square) l27 c27 k27
  have b27 := F27.binds (ps := ["_law_under"]) fun _ _ _ _ _ _ us hl => match us, hl with | [_], _ => rfl
  have F28 := fun_mk (st := s_law_even_word) l28 c28 k28
  have b28 := F28.binds (ps := ["_law_bs", "_law_others"]) fun _ _ _ _ _ _ us hl => match us, hl with | [_, _], _ => rfl
  have F29 := fun_mk (st := s_law_counts) l29 c29 k29
  have b29 := F29.binds (ps := ["_law_urn_here", "_law_most"]) fun _ _ _ _ _ _ us hl => match us, hl with | [_, _], _ => rfl
  have F30 := fun_mk (st := s_law_numbers) l30 c30 k30
  have b30 := F30.binds (ps := ["_law_word"]) fun _ _ _ _ _ _ us hl => match us, hl with | [_], _ => rfl
  have F31 := fun_mk (st := s_law_ring_table) l31 c31 k31
  have b31 := F31.binds (ps := ["_law_row"]) fun _ _ _ _ _ _ us hl => match us, hl with | [_], _ => rfl
  have F32 := fun_mk (st := s_law_bent) l32 c32 k32
  have b32 := F32.binds (ps := ["_law_urn_here", "_law_thing"]) fun _ _ _ _ _ _ us hl => match us, hl with | [_, _], _ => rfl
  have F33 := fun_mk (st := s_law_is_word) l33 c33 k33
  have b33 := F33.binds (ps := ["_law_thing"]) fun _ _ _ _ _ _ us hl => match us, hl with | [_], _ => rfl
  have F34 := fun_mk (st := s_law_is_claim) l34 c34 k34
  have b34 := F34.binds (ps := ["_law_thing", "_law_word", "_law_many"]) fun _ _ _ _ _ _ us hl => match us, hl with | [_, _, _], _ => rfl
  have F35 := fun_mk (st := s_law_copied) l35 c35 k35
  have b35 := F35.binds (ps := ["_law_thing"]) fun _ _ _ _ _ _ us hl => match us, hl with | [_], _ => rfl
  have F36 := fun_mk (st := s_law_is_form) l36 c36 k36
  have b36 := F36.binds (ps := ["_law_thing"]) fun _ _ _ _ _ _ us hl => match us, hl with | [_], _ => rfl
  have F37 := fun_mk (st := s_law_is_step) l37 c37 k37
  have b37 := F37.binds (ps := ["_law_word"]) fun _ _ _ _ _ _ us hl => match us, hl with | [_], _ => rfl
  have F38 := fun_mk (st := s_law_is_turning) l38 c38 k38
  have b38 := F38.binds (ps := ["_law_thing"]) fun _ _ _ _ _ _ us hl => match us, hl with | [_], _ => rfl
  have F39 := fun_mk (st := s_law_turned_form) l39 c39 k39
  have b39 := F39.binds (ps := ["_law_form", "_law_table"]) fun _ _ _ _ _ _ us hl => match us, hl with | [_, _], _ => rfl
  have F40 := fun_mk (st := s_law_word_form) l40 c40 k40
  have b40 := F40.binds (ps := ["_law_word"]) fun _ _ _ _ _ _ us hl => match us, hl with | [_], _ => rfl
  have F41 := fun_mk (st := s_law_due) l41 c41 k41
  have b41 := F41.binds (ps := ["_law_saying", "_law_sheet"]) fun _ _ _ _ _ _ us hl => match us, hl with | [_, _], _ => rfl
  have F42 := fun_mk (st := s_law_looked_right) l42 c42 k42
  have b42 := F42.binds (ps := ["_law_saying", "_law_sheet"]) fun _ _ _ _ _ _ us hl => match us, hl with | [_, _], _ => rfl
  have F43 := fun_mk (st := s_law_all_looked_right) l43 c43 k43
  have b43 := F43.binds (ps := ["_law_urn_here", "_law_saying", "_law_sheet"]) fun _ _ _ _ _ _ us hl => match us, hl with | [_, _, _], _ => rfl
  have F44 := fun_mk (st := s_law_turning) l44 c44 k44
  have b44 := F44.binds (ps := ["_law_urn_here"]) fun _ _ _ _ _ _ us hl => match us, hl with | [_], _ => rfl
  have F45 := fun_mk (st := s_law) l45 c45 k45
  have b45 := F45.binds (ps := ["_law_script"]) fun _ _ _ _ _ _ us hl => match us, hl with | [_], _ => rfl
  have F46 := fun_mk (st := s_Form___init__) l46 c46 k46
  have b46 := F46.binds (ps := ["self", "a", "b", "c"]) fun _ _ _ _ _ _ us hl => match us, hl with | [_, _, _, _], _ => rfl
  have F47 := fun_mk (st := s_Form_parts) l47 c47 k47
  have b47 := F47.binds (ps := ["self"]) fun _ _ _ _ _ _ us hl => match us, hl with | [_], _ => rfl
  have F48 := fun_mk (st := s_Form_under_root) l48 c48 k48
  have b48 := F48.binds (ps := ["self"]) fun _ _ _ _ _ _ us hl => match us, hl with | [_], _ => rfl
  have F49 := fun_mk (st := s_Form_value) l49 c49 k49
  have b49 := F49.binds (ps := ["self", "x", "y"]) fun _ _ _ _ _ _ us hl => match us, hl with | [_, _, _], _ => rfl
  have F50 := fun_mk (st := s_Form_turned) l50 c50 k50
  have b50 := F50.binds (ps := ["self", "by"]) fun _ _ _ _ _ _ us hl => match us, hl with | [_, _], _ => rfl
  have ks_holds_0_paper_claim : Hx.KSel K (PySem.W.fnOf "holds" "holds" (defArgs s_holds) (defBody s_holds) (defScope s_holds) .none kV21 dc21 pm21 an21 cd21 ct21) ["claim", "paper"] 0 ["paper", "claim"] [1, 0] [] := ⟨[], .nil, fun s us ws X l1 l2 => match us, ws, l1, l2 with | [], [_, _], _, _ => .of_eq rfl⟩
  obtain ⟨C_NoTable, R_NoTable⟩ := rsB_ok rs_NoTable
  have FI_NoForm := fun_mk (st := sI_NoForm) xl_NoForm xc_NoForm xk_NoForm
  have bI_NoForm := FI_NoForm.binds (ps := ["self", "under"]) fun _ _ _ _ _ _ us hl => match us, hl with | [_, _], _ => rfl
  let T : ∀ base : Heap, Txt w K mg base := fun base => {
    C_Form := C_Form, gc_Form := PySem.W.mg_of X G vg_Form,
    f_is_whole := _, fd_is_whole := _, F_is_whole := F0, m_is_whole := PySem.W.mg_of X G a0, b_is_whole := b0,
    f_are_wholes := _, fd_are_wholes := _, F_are_wholes := F1, m_are_wholes := PySem.W.mg_of X G a1, b_are_wholes := b1,
    f_shared_by := _, fd_shared_by := _, F_shared_by := F2, m_shared_by := PySem.W.mg_of X G a2, b_shared_by := b2,
    f_side_of := _, fd_side_of := _, F_side_of := F3, m_side_of := PySem.W.mg_of X G a3, b_side_of := b3,
    f_is_square := _, fd_is_square := _, F_is_square := F4, m_is_square := PySem.W.mg_of X G a4, b_is_square := b4,
    f_table_of_row := _, fd_table_of_row := _, F_table_of_row := F5, m_table_of_row := PySem.W.mg_of X G a5, b_table_of_row := b5,
    f_form_of_row := _, fd_form_of_row := _, F_form_of_row := F6, m_form_of_row := PySem.W.mg_of X G a6, b_form_of_row := b6,
    f_is_word := _, fd_is_word := _, F_is_word := F7, m_is_word := PySem.W.mg_of X G a7, b_is_word := b7,
    f_is_pair_of := _, fd_is_pair_of := _, F_is_pair_of := F8, m_is_pair_of := PySem.W.mg_of X G a8, b_is_pair_of := b8,
    f_is_table := _, fd_is_table := _, F_is_table := F9, m_is_table := PySem.W.mg_of X G a9, b_is_table := b9,
    f_size_of := _, fd_size_of := _, F_size_of := F10, m_size_of := PySem.W.mg_of X G a10, b_size_of := b10,
    f_is_turning := _, fd_is_turning := _, F_is_turning := F11, m_is_turning := PySem.W.mg_of X G a11, b_is_turning := b11,
    f_look_turning := _, fd_look_turning := _, F_look_turning := F12, m_look_turning := PySem.W.mg_of X G a12, b_look_turning := b12,
    f_even_word := _, fd_even_word := _, F_even_word := F13, m_even_word := PySem.W.mg_of X G a13, b_even_word := b13,
    f_is_step_word := _, fd_is_step_word := _, F_is_step_word := F14, m_is_step_word := PySem.W.mg_of X G a14, b_is_step_word := b14,
    f_row_of_word := _, fd_row_of_word := _, F_row_of_word := F15, m_row_of_word := PySem.W.mg_of X G a15, b_row_of_word := b15,
    f_form_by := _, fd_form_by := _, F_form_by := F16, m_form_by := PySem.W.mg_of X G a16, b_form_by := b16,
    f_is_tuple_of := _, fd_is_tuple_of := _, F_is_tuple_of := F17, m_is_tuple_of := PySem.W.mg_of X G a17, b_is_tuple_of := b17,
    f_form_in := _, fd_form_in := _, F_form_in := F18, m_form_in := PySem.W.mg_of X G a18, b_form_in := b18,
    gn_form_below_holds := a19,
    f_form_below_holds := _, fd_form_below_holds := _, F_form_below_holds := F19, m_form_below_holds := PySem.W.mg_of X G a19, b_form_below_holds := b19,
    gn_form_above_holds := a20,
    f_form_above_holds := _, fd_form_above_holds := _, F_form_above_holds := F20, m_form_above_holds := PySem.W.mg_of X G a20, b_form_above_holds := b20,
    f_holds := _, fd_holds := _, F_holds := F21, m_holds := PySem.W.mg_of X G a21, b_holds := b21,
    f_law_urn := _, fd_law_urn := _, F_law_urn := F22, m_law_urn := PySem.W.mg_of X G a22, b_law_urn := b22,
    f_law_draw := _, fd_law_draw := _, F_law_draw := F23, m_law_draw := PySem.W.mg_of X G a23, b_law_draw := b23,
    f_law_whole := _, fd_law_whole := _, F_law_whole := F24, m_law_whole := PySem.W.mg_of X G a24, b_law_whole := b24,
    f_law_shared := _, fd_law_shared := _, F_law_shared := F25, m_law_shared := PySem.W.mg_of X G a25, b_law_shared := b25,
    f_law_side := _, fd_law_side := _, F_law_side := F26, m_law_side := PySem.W.mg_of X G a26, b_law_side := b26,
    f_law_is_square := _, fd_law_is_square := _, F_law_is_square := F27, m_law_is_square := PySem.W.mg_of X G a27, b_law_is_square := b27,
    f_law_even_word := _, fd_law_even_word := _, F_law_even_word := F28, m_law_even_word := PySem.W.mg_of X G a28, b_law_even_word := b28,
    f_law_counts := _, fd_law_counts := _, F_law_counts := F29, m_law_counts := PySem.W.mg_of X G a29, b_law_counts := b29,
    f_law_numbers := _, fd_law_numbers := _, F_law_numbers := F30, m_law_numbers := PySem.W.mg_of X G a30, b_law_numbers := b30,
    f_law_ring_table := _, fd_law_ring_table := _, F_law_ring_table := F31, m_law_ring_table := PySem.W.mg_of X G a31, b_law_ring_table := b31,
    f_law_bent := _, fd_law_bent := _, F_law_bent := F32, m_law_bent := PySem.W.mg_of X G a32, b_law_bent := b32,
    f_law_is_word := _, fd_law_is_word := _, F_law_is_word := F33, m_law_is_word := PySem.W.mg_of X G a33, b_law_is_word := b33,
    f_law_is_claim := _, fd_law_is_claim := _, F_law_is_claim := F34, m_law_is_claim := PySem.W.mg_of X G a34, b_law_is_claim := b34,
    f_law_copied := _, fd_law_copied := _, F_law_copied := F35, m_law_copied := PySem.W.mg_of X G a35, b_law_copied := b35,
    f_law_is_form := _, fd_law_is_form := _, F_law_is_form := F36, m_law_is_form := PySem.W.mg_of X G a36, b_law_is_form := b36,
    f_law_is_step := _, fd_law_is_step := _, F_law_is_step := F37, m_law_is_step := PySem.W.mg_of X G a37, b_law_is_step := b37,
    f_law_is_turning := _, fd_law_is_turning := _, F_law_is_turning := F38, m_law_is_turning := PySem.W.mg_of X G a38, b_law_is_turning := b38,
    f_law_turned_form := _, fd_law_turned_form := _, F_law_turned_form := F39, m_law_turned_form := PySem.W.mg_of X G a39, b_law_turned_form := b39,
    f_law_word_form := _, fd_law_word_form := _, F_law_word_form := F40, m_law_word_form := PySem.W.mg_of X G a40, b_law_word_form := b40,
    f_law_due := _, fd_law_due := _, F_law_due := F41, m_law_due := PySem.W.mg_of X G a41, b_law_due := b41,
    f_law_looked_right := _, fd_law_looked_right := _, F_law_looked_right := F42, m_law_looked_right := PySem.W.mg_of X G a42, b_law_looked_right := b42,
    f_law_all_looked_right := _, fd_law_all_looked_right := _, F_law_all_looked_right := F43, m_law_all_looked_right := PySem.W.mg_of X G a43, b_law_all_looked_right := b43,
    f_law_turning := _, fd_law_turning := _, F_law_turning := F44, m_law_turning := PySem.W.mg_of X G a44, b_law_turning := b44,
    f_law := _, fd_law := _, F_law := F45, m_law := PySem.W.mg_of X G a45, b_law := b45,
    f_Form___init__ := _, fd_Form___init__ := _, F_Form___init__ := F46, cl_Form := clB_ok vc_Form, na_Form := vn_Form, b_Form___init__ := b46,
    f_Form_parts := _, fd_Form_parts := _, F_Form_parts := F47, M_Form_parts := methB_ok vm47, b_Form_parts := b47,
    f_Form_under_root := _, fd_Form_under_root := _, F_Form_under_root := F48, M_Form_under_root := methB_ok vm48, b_Form_under_root := b48,
    f_Form_value := _, fd_Form_value := _, F_Form_value := F49, M_Form_value := methB_ok vm49, b_Form_value := b49,
    f_Form_turned := _, fd_Form_turned := _, F_Form_turned := F50, M_Form_turned := methB_ok vm50, b_Form_turned := b50,
    ks_holds_0_paper_claim := ks_holds_0_paper_claim,
    own := fun c hc => let ⟨Dn, h1, h2⟩ := glB_ok gl hc; ⟨Dn, PySem.W.mg_of X G h1, h2⟩, wf := fun n hn => ⟨(by decide +kernel : ∀ n ∈ rsX, n ∈ ownCls) n hn, whB_ok wh hn⟩,
    C_NoForm := C_NoForm, fI_NoForm := fI_NoForm, fdI_NoForm := _, FI_NoForm := FI_NoForm, bI_NoForm := bI_NoForm, X_NoForm := fxB_ok pass_ArithmeticError (by decide +kernel) xf_NoForm, gc_NoForm := PySem.W.mg_of X G xg_NoForm,
    C_NoTable := C_NoTable, R_NoTable := R_NoTable, gc_NoTable := PySem.W.mg_of X G R_NoTable.at_,
    a_HOLD := p_HOLD,
    m_HOLD := PySem.W.mg_of X G g_HOLD,
    k_HOLD := fun z d e => by
      unfold k_HOLD at e
      split at e
      · rename_i hz
        rw [← Option.some.inj e, hz]
        exact ⟨.ref fx_even_holds, ⟨_, _, _, l_HOLD, y_HOLD, e0_HOLD, rfl⟩, fun H S => ⟨_, rfl, fa_even_holds⟩⟩
      split at e
      · rename_i hz
        rw [← Option.some.inj e, hz]
        exact ⟨.ref fx_uneven_holds, ⟨_, _, _, l_HOLD, y_HOLD, e1_HOLD, rfl⟩, fun H S => ⟨_, rfl, fa_uneven_holds⟩⟩
      split at e
      · rename_i hz
        rw [← Option.some.inj e, hz]
        exact ⟨.ref fx_below_holds, ⟨_, _, _, l_HOLD, y_HOLD, e2_HOLD, rfl⟩, fun H S => ⟨_, rfl, fa_below_holds⟩⟩
      split at e
      · rename_i hz
        rw [← Option.some.inj e, hz]
        exact ⟨.ref fx_above_holds, ⟨_, _, _, l_HOLD, y_HOLD, e3_HOLD, rfl⟩, fun H S => ⟨_, rfl, fa_above_holds⟩⟩
      exact absurd e (by simp),
    q_HOLD := ⟨_, _, ⟨l_HOLD, y_HOLD, s_HOLD⟩, sk_HOLD⟩,
    a_HOLD_OF_THREE := p_HOLD_OF_THREE,
    m_HOLD_OF_THREE := PySem.W.mg_of X G g_HOLD_OF_THREE,
    k_HOLD_OF_THREE := fun z d e => by
      unfold k_HOLD_OF_THREE at e
      split at e
      · rename_i hz
        rw [← Option.some.inj e, hz]
        exact ⟨.ref fx_triple_holds, ⟨_, _, _, l_HOLD_OF_THREE, y_HOLD_OF_THREE, e0_HOLD_OF_THREE, rfl⟩, fun H S => ⟨_, rfl, fa_triple_holds⟩⟩
      split at e
      · rename_i hz
        rw [← Option.some.inj e, hz]
        exact ⟨.ref f19, ⟨_, _, _, l_HOLD_OF_THREE, y_HOLD_OF_THREE, e1_HOLD_OF_THREE, rfl⟩, fun H S => ⟨_, rfl, a19⟩⟩
      split at e
      · rename_i hz
        rw [← Option.some.inj e, hz]
        exact ⟨.ref f20, ⟨_, _, _, l_HOLD_OF_THREE, y_HOLD_OF_THREE, e2_HOLD_OF_THREE, rfl⟩, fun H S => ⟨_, rfl, a20⟩⟩
      exact absurd e (by simp),
    q_HOLD_OF_THREE := ⟨_, _, ⟨l_HOLD_OF_THREE, y_HOLD_OF_THREE, s_HOLD_OF_THREE⟩, sk_HOLD_OF_THREE⟩,
    a_HOLD_SAME := p_HOLD_SAME,
    m_HOLD_SAME := PySem.W.mg_of X G g_HOLD_SAME,
    k_HOLD_SAME := fun z d e => by
      unfold k_HOLD_SAME at e
      split at e
      · rename_i hz
        rw [← Option.some.inj e, hz]
        exact ⟨.ref fx_same_holds, ⟨_, _, _, l_HOLD_SAME, y_HOLD_SAME, e0_HOLD_SAME, rfl⟩, fun H S => ⟨_, rfl, fa_same_holds⟩⟩
      exact absurd e (by simp),
    q_HOLD_SAME := ⟨_, _, ⟨l_HOLD_SAME, y_HOLD_SAME, s_HOLD_SAME⟩, sk_HOLD_SAME⟩,
    v_LETTERS := .str "ab",
    u_LETTERS := _,
    m_LETTERS := PySem.W.mg_of X G g_LETTERS,
    r_LETTERS := ⟨_, rfl⟩,
    k_LETTERS := fun _ _ => rfl,
    v_MOST_LETTERS := .int 60,
    u_MOST_LETTERS := _,
    m_MOST_LETTERS := PySem.W.mg_of X G g_MOST_LETTERS,
    r_MOST_LETTERS := ⟨_, rfl⟩,
    k_MOST_LETTERS := fun _ _ => rfl,
    a_NUMBERS := p_NUMBERS,
    m_NUMBERS := PySem.W.mg_of X G g_NUMBERS,
    k_NUMBERS := fun z d e => by
      unfold k_NUMBERS at e
      split at e
      · rename_i hz
        rw [← Option.some.inj e, hz]
        exact ⟨.ref p_NUMBERS_0, ⟨_, _, _, l_NUMBERS, y_NUMBERS, e0_NUMBERS, rfl⟩, fun H S => (rp_ktup (vs := [.int 1, .int 1]) lp_NUMBERS_0 (by show 2 ≤ 1000; decide) (.cons ⟨_, rfl⟩ (.cons ⟨_, rfl⟩ .nil)) (rpL_cons rfl (rpL_cons rfl rpL_nil)))⟩
      split at e
      · rename_i hz
        rw [← Option.some.inj e, hz]
        exact ⟨.ref p_NUMBERS_1, ⟨_, _, _, l_NUMBERS, y_NUMBERS, e1_NUMBERS, rfl⟩, fun H S => (rp_ktup (vs := [.int 2, .int 2]) lp_NUMBERS_1 (by show 2 ≤ 1000; decide) (.cons ⟨_, rfl⟩ (.cons ⟨_, rfl⟩ .nil)) (rpL_cons rfl (rpL_cons rfl rpL_nil)))⟩
      exact absurd e (by simp),
    v_WALL := .ref p_WALL,
    u_WALL := _,
    m_WALL := PySem.W.mg_of X G g_WALL,
    r_WALL := rfl,
    k_WALL := fun _ _ => (rp_ktup (vs := [.int 9, .int 1]) lp_WALL (by show 2 ≤ 1000; decide) (.cons ⟨_, rfl⟩ (.cons ⟨_, rfl⟩ .nil)) (rpL_cons rfl (rpL_cons rfl rpL_nil))),
    n_abs := PySem.W.mg_none_of X G z_abs,
    n_all := PySem.W.mg_none_of X G z_all,
    n_bool := PySem.W.mg_none_of X G z_bool,
    n_int := PySem.W.mg_none_of X G z_int,
    n_isinstance := PySem.W.mg_none_of X G z_isinstance,
    n_len := PySem.W.mg_none_of X G z_len,
    n_list := PySem.W.mg_none_of X G z_list,
    n_max := PySem.W.mg_none_of X G z_max,
    n_min := PySem.W.mg_none_of X G z_min,
    n_range := PySem.W.mg_none_of X G z_range,
    n_repr := PySem.W.mg_none_of X G z_repr,
    n_str := PySem.W.mg_none_of X G z_str,
    n_sum := PySem.W.mg_none_of X G z_sum,
    n_tuple := PySem.W.mg_none_of X G z_tuple
  }
  exact ⟨(PySem.W.fnOf "law" "law" (defArgs s_law) (defBody s_law) (defScope s_law) .none kV45 dc45 pm45 an45 cd45 ct45), [], upF K spLawD, (fun _ h => nomatch h), (fun _ h => nomatch h), (fun _ h => nomatch h), fun s v => .of_eq rfl, fun H a ns hl _ _ hS => law_start hS hl, fun base _ _ _ => ok_law (T base)⟩

end K59
open PySem PySem.W PyProof.Rows
namespace HeadQ
open PySem PySem.W PySem.Calls PyProof.Rows HeadRun
abbrev R : OpenRow := OpenLaw.row PySem.Challenge.rw_nearthrees_k59_papers_of_forms
/-- what the walk sees of the top: the law alone -/
abbrev qv : Program := view R.prog [133]
def nm : List PySem.Str := (["_wall", "__name__", "NoNumber", "NoKin", "OverNought", "NoPlace", "NoWord", "NoStep", "Uneven", "NoTable", "NoTriple", "NoForm", "is_whole", "are_wholes", "shared_by", "sign_in", "side_of", "is_square", "lowest_terms", "LEAST_SQUARE", "PARTS", "is_under_root", "is_bottom", "LOOKS", "look_parts", "Root", "contrary_of", "root_text", "sum_text", "MOST_RING"] : List PySem.Str) ++ (["MOST_NUMBER", "is_within", "is_row", "is_number_ring", "table_of_row", "form_of_row", "LETTERS", "MOST_LETTERS", "is_word", "look_word", "how_many_b", "uneven_pair", "is_even", "UNIT", "LETTER_TABLES", "is_pair_of", "is_table", "size_of", "is_turning", "look_turning", "joined", "corners", "table_by", "table_of", "Form", "even_word", "is_step_word", "look_step", "look_step_steps", "cut_by"] : List PySem.Str) ++ (["cut_of", "ONES", "TWO", "MANY", "is_triple", "look_triple", "exchanged", "THIRD", "ALONE", "look_step_joins", "number_of", "triple_of", "turned_row", "square_at", "is_greater", "WALL", "NUMBERS", "row_of_word", "form_by", "is_tuple_of", "is_place_of", "is_part_of", "even_holds", "uneven_holds", "same_holds", "triple_holds", "below_holds", "above_holds", "form_in", "form_below_holds"] : List PySem.Str) ++ (["form_above_holds", "HOLD", "HOLD_SAME", "HOLD_OF_THREE", "holds", "_law_urn", "_law_draw", "_law_whole", "_law_shared", "_law_side", "_law_is_square", "_law_even_word", "_law_counts", "_law_numbers", "_law_ring_table", "_law_bent", "_law_is_word", "_law_is_claim", "_law_copied", "_law_looked_right", "_law_all_looked_right", "_law_is_step", "_law_word_form", "_law_turned_form", "_law_is_turning", "_law_is_form", "_law_due", "_law_turning"] : List PySem.Str)
def Xq : Shared → Bool := fun s => xlAt qv [] s && recOk (RowW.records R.toRowW) s
theorem run_join {α β : Type} {x : Option SharedT} {f : SharedT → Bool} {g : SharedT → α} {h : SharedT → β} {a : Bool} {b : α} {c : β} (h1 : x.map f = some a) (h2 : x.map g = some b) (h3 : x.map h = some c) : x.map (fun s => (f s, g s, h s)) = some (a, b, c) := by
  cases x with
  | none => cases h1
  | some s =>
    obtain rfl : f s = a := Option.some.inj h1
    obtain rfl : g s = b := Option.some.inj h2
    obtain rfl : h s = c := Option.some.inj h3
    rfl
abbrev Wb (b : Bool) (w : World) : World := w.withFollow "special-get-raises" b
/-- more than the steps of the top -/
def M9 : Nat := 60000
noncomputable abbrev endR (w : World) (os : OsState) : Option SharedT := endF (stepQ (denQ tabQ) R.prog w) M9 R.prog w os
theorem run_a0 (w : World) (os : OsState) : (endR (Wb false w) os).map (fun s => looksF R.prog (boot_heap (Wb false w).params) s.abs) = some true := by kernel_rfl
theorem run_a1 (w : World) (os : OsState) : (endR (Wb true w) os).map (fun s => looksF R.prog (boot_heap (Wb true w).params) s.abs) = some true := by kernel_rfl
theorem run_b0 (w : World) (os : OsState) : (endR (Wb false w) os).map (fun s => seenQ qv nm (importedModules R.prog.main.body) Xq s.abs) = some (openGood qv nm) := by kernel_rfl
theorem run_b1 (w : World) (os : OsState) : (endR (Wb true w) os).map (fun s => seenQ qv nm (importedModules R.prog.main.body) Xq s.abs) = some (openGood qv nm) := by kernel_rfl
theorem left_any {β : Type} {Yf : Shared → β} {Ya : World → β} {N : Nat} (yf : SharedT → β) (ey : ∀ s : SharedT, yf s = Yf s.abs)
    (e : opening R.prog = plainProg R.prog.main.scope.names) (hN : Nat.ble 600 N = true) (f : ∀ s, fenceModules? R.prog s = some s) (le : Nat.ble M9 N = true)
    (r : ∀ (b : Bool) (w : World) (os : OsState), (endR (Wb b w) os).map yf = some (Ya (Wb b w))) : LeftO R.prog qv nm Xq Yf Ya N true :=
  left_one (M := M9) e hN f le fun w os => by
    have z := byRow2 "special-get-raises" (P := fun w => ∀ os : OsState, (endR w os).map (fun s => (looksF R.prog (boot_heap w.params) s.abs, seenQ qv nm (importedModules R.prog.main.body) Xq s.abs, yf s)) = some (true, openGood qv nm, Ya w)) (fun w os => run_join (run_a0 w os) (run_b0 w os) (r false w os)) (fun w os => run_join (run_a1 w os) (run_b1 w os) (r true w os)) w os
    have eo : yf = fun s => Yf s.abs := funext ey
    rw [eo] at z
    simp only [endQ_eq, seenQ_eq]
    exact z
/-- the objects that the walk reads, their places, the makers' tables: told once, so that each run is a declaration of its own -/
def grab {K : Params → Frag} {as : List Addr} {e : ∀ P, as = (K P).map (·.1)} {H : Hook} (_ : H = kHook K as e) : (Params → Frag) × List Addr × List Addr := (K, as, [])
end HeadQ
section
local macro_rules | `(tactic| o_head $H) => `(tactic| (assumption; exact HeadQ.grab (H := $H) rfl))
set_option maxRecDepth 100000 in
set_option maxHeartbeats 0 in
noncomputable def HeadQ.kall : (PySem.Params → PySem.W.Frag) × List PySem.Addr × List PySem.Addr := by
  refine (fun (_ : HeadQ.R.Holds → HeadQ.R.Holds) (t : (PySem.Params → PySem.W.Frag) × List PySem.Addr × List PySem.Addr) => t) ?a ?t
  intro h
  k_head
end
namespace HeadQ
open PySem PySem.W PySem.Calls PyProof.Rows HeadRun
/-- the objects, off the tree, and the tables -/
def RunT (K : Params → Frag) (as ts : List Addr) (b : Bool) : Prop := ∀ (w : World) (os : OsState), (endR (Wb b w) os).map (fun s => (as.map (getT s), ts.map (getT s))) = some ((K (Wb b w).params).map fun x => some x.2, ts.map fun _ => some (tabObj #[]))
set_option maxRecDepth 100000 in
theorem run_t0 : RunT kall.1 kall.2.1 kall.2.2 false := by
  intro w os
  kernel_rfl
set_option maxRecDepth 100000 in
theorem run_t1 : RunT kall.1 kall.2.1 kall.2.2 true := by
  intro w os
  kernel_rfl
theorem fst_run {α β : Type} {x : Option SharedT} {f : SharedT → α} {g : SharedT → β} {a : α} {b : β} (h : x.map (fun s => (f s, g s)) = some (a, b)) : x.map f = some a := by
  cases x with
  | none => cases h
  | some s =>
    have h' : (f s, g s) = (a, b) := Option.some.inj h
    exact congrArg some (Prod.mk.inj h').1
theorem left_two {K : Params → Frag} {as : List Addr} {ek : ∀ P, as = (K P).map (·.1)} {N : Nat}
    (e : opening R.prog = plainProg R.prog.main.scope.names) (hN : Nat.ble 600 N = true) (f : ∀ s, fenceModules? R.prog s = some s) (le : Nat.ble M9 N = true) (r0 : RunT K as [] false) (r1 : RunT K as [] true) :
    LeftO R.prog qv nm Xq (Hook.obs (kHook K as ek)) (Hook.val (kHook K as ek)) N true :=
  left_any (fun s => as.map (getT s)) (fun s => List.map_congr_left fun a _ => getT_eq s a) e hN f le fun b w os => by cases b; exact fst_run (r0 w os); exact fst_run (r1 w os)
end HeadQ
local macro_rules | `(tactic| o_head $H) => `(tactic| (
  refine holds_open (r := HeadQ.R) (q := HeadQ.qv) (loose := HeadQ.nm) (Xt := HeadQ.Xq) (XP := XL HeadQ.qv []) (Yf := Hook.obs $H) (Ya := Hook.val $H) (YP := Hook.says $H) (N := 70000) ?hl (Hook.of $H) (Hook.keeps $H) (fun s e => xl_of s (Bool.and_eq_true_iff.mp e).1) XL.keeps (by rfl) (by rfl) (by rfl) (fun s e => recFacts_of (Bool.and_eq_true_iff.mp e).2) (by rfl) (by first | assumption | decide +kernel) (by decide +kernel) ⟨rfl, rfl, rfl, rfl, rfl, by decide +kernel⟩ ?hw ?hc
  case hl =>
    (refine HeadQ.left_two (by kernel_rfl) (by rfl) (fun s => by kernel_rfl) (by rfl) ?r0 ?r1
     (case r0 => exact HeadQ.run_t0)
     (case r1 => exact HeadQ.run_t1))))
set_option maxRecDepth 100000 in
set_option maxHeartbeats 0 in
theorem PySem.Challenge.cw_nearthrees_k59_papers_of_forms_holds : PySem.Challenge.rw_nearthrees_k59_papers_of_forms.Holds := by
  w_on; o_law; k_head; (case hw => w_witness2)
  k_fill
  refine Hx.lawG_end (l := PySem.Challenge.rw_nearthrees_k59_papers_of_forms) (n := 63) (k := 11) (x := "_law_script") (CX := fun w => L2N.CX (PySem.Challenge.rw_nearthrees_k59_papers_of_forms).prog w) rfl (by decide) rfl ⟨⟨rfl, by decide, by decide⟩, rfl⟩ (fun w h Y => PySem.W.kIn_of Y) ?F fun _ _ _ _ _ z => Dv.CX_no z
  case F =>
    intro w mg fa h Y KX G hmg
    refine' K59.all_mk KX G hmg ?vg_Form ?a0 ?l0 ?c0 ?k0 ?a1 ?l1 ?c1 ?k1 ?a2 ?l2 ?c2 ?k2 ?a3 ?l3 ?c3 ?k3 ?a4 ?l4 ?c4 ?k4 ?a5 ?l5 ?c5 ?k5 ?a6 ?l6 ?c6 ?k6 ?a7 ?l7 ?c7 ?k7 ?a8 ?l8 ?c8 ?k8 ?a9 ?l9 ?c9 ?k9 ?a10 ?l10 ?c10 ?k10 ?a11 ?l11 ?c11 ?k11 ?a12 ?l12 ?c12 ?k12 ?a13 ?l13 ?c13 ?k13 ?a14 ?l14 ?c14 ?k14 ?a15 ?l15 ?c15 ?k15 ?a16 ?l16 ?c16 ?k16 ?a17 ?l17 ?c17 ?k17 ?a18 ?l18 ?c18 ?k18 ?a19 ?l19 ?c19 ?k19 ?a20 ?l20 ?c20 ?k20 ?a21 ?l21 ?c21 ?k21 ?a22 ?l22 ?c22 ?k22 ?a23 ?l23 ?c23 ?k23 ?a24 ?l24 ?c24 ?k24 ?a25 ?l25 ?c25 ?k25 ?a26 ?l26 ?c26 ?k26 ?a27 ?l27 ?c27 ?k27 ?a28 ?l28 ?c28 ?k28 ?a29 ?l29 ?c29 ?k29 ?a30 ?l30 ?c30 ?k30 ?a31 ?l31 ?c31 ?k31 ?a32 ?l32 ?c32 ?k32 ?a33 ?l33 ?c33 ?k33 ?a34 ?l34 ?c34 ?k34 ?a35 ?l35 ?c35 ?k35 ?a36 ?l36 ?c36 ?k36 ?a37 ?l37 ?c37 ?k37 ?a38 ?l38 ?c38 ?k38 ?a39 ?l39 ?c39 ?k39 ?a40 ?l40 ?c40 ?k40 ?a41 ?l41 ?c41 ?k41 ?a42 ?l42 ?c42 ?k42 ?a43 ?l43 ?c43 ?k43 ?a44 ?l44 ?c44 ?k44 ?a45 ?l45 ?c45 ?k45 ?a46 ?l46 ?c46 ?k46 ?vc_Form ?vn_Form ?a47 ?l47 ?c47 ?k47 ?vm47 ?a48 ?l48 ?c48 ?k48 ?vm48 ?a49 ?l49 ?c49 ?k49 ?vm49 ?a50 ?l50 ?c50 ?k50 ?vm50 ?gl ?wh ?xg_NoForm ?xi_NoForm ?xl_NoForm ?xc_NoForm ?xk_NoForm ?xf_NoForm ?rs_NoTable ?g_HOLD ?l_HOLD ?y_HOLD ?e0_HOLD ?fa_even_holds ?e1_HOLD ?fa_uneven_holds ?e2_HOLD ?fa_below_holds ?e3_HOLD ?fa_above_holds ?s_HOLD ?sk_HOLD ?g_HOLD_OF_THREE ?l_HOLD_OF_THREE ?y_HOLD_OF_THREE ?e0_HOLD_OF_THREE ?fa_triple_holds ?e1_HOLD_OF_THREE ?e2_HOLD_OF_THREE ?s_HOLD_OF_THREE ?sk_HOLD_OF_THREE ?g_HOLD_SAME ?l_HOLD_SAME ?y_HOLD_SAME ?e0_HOLD_SAME ?fa_same_holds ?s_HOLD_SAME ?sk_HOLD_SAME ?g_LETTERS ?g_MOST_LETTERS ?g_NUMBERS ?l_NUMBERS ?y_NUMBERS ?e0_NUMBERS ?lp_NUMBERS_0 ?e1_NUMBERS ?lp_NUMBERS_1 ?g_WALL ?lp_WALL ?z_abs ?z_all ?z_bool ?z_int ?z_isinstance ?z_len ?z_list ?z_max ?z_min ?z_range ?z_repr ?z_str ?z_sum ?z_tuple
    (case vg_Form => k_is)
    (case a0 => k_is)
    (case l0 => k_is)
    (case c0 => k_is)
    (case k0 => k_is)
    (case a1 => k_is)
    (case l1 => k_is)
    (case c1 => k_is)
    (case k1 => k_is)
    (case a2 => k_is)
    (case l2 => k_is)
    (case c2 => k_is)
    (case k2 => k_is)
    (case a3 => k_is)
    (case l3 => k_is)
    (case c3 => k_is)
    (case k3 => k_is)
    (case a4 => k_is)
    (case l4 => k_is)
    (case c4 => k_is)
    (case k4 => k_is)
    (case a5 => k_is)
    (case l5 => k_is)
    (case c5 => k_is)
    (case k5 => k_is)
    (case a6 => k_is)
    (case l6 => k_is)
    (case c6 => k_is)
    (case k6 => k_is)
    (case a7 => k_is)
    (case l7 => k_is)
    (case c7 => k_is)
    (case k7 => k_is)
    (case a8 => k_is)
    (case l8 => k_is)
    (case c8 => k_is)
    (case k8 => k_is)
    (case a9 => k_is)
    (case l9 => k_is)
    (case c9 => k_is)
    (case k9 => k_is)
    (case a10 => k_is)
    (case l10 => k_is)
    (case c10 => k_is)
    (case k10 => k_is)
    (case a11 => k_is)
    (case l11 => k_is)
    (case c11 => k_is)
    (case k11 => k_is)
    (case a12 => k_is)
    (case l12 => k_is)
    (case c12 => k_is)
    (case k12 => k_is)
    (case a13 => k_is)
    (case l13 => k_is)
    (case c13 => k_is)
    (case k13 => k_is)
    (case a14 => k_is)
    (case l14 => k_is)
    (case c14 => k_is)
    (case k14 => k_is)
    (case a15 => k_is)
    (case l15 => k_is)
    (case c15 => k_is)
    (case k15 => k_is)
    (case a16 => k_is)
    (case l16 => k_is)
    (case c16 => k_is)
    (case k16 => k_is)
    (case a17 => k_is)
    (case l17 => k_is)
    (case c17 => k_is)
    (case k17 => k_is)
    (case a18 => k_is)
    (case l18 => k_is)
    (case c18 => k_is)
    (case k18 => k_is)
    (case a19 => k_is)
    (case l19 => k_is)
    (case c19 => k_is)
    (case k19 => k_is)
    (case a20 => k_is)
    (case l20 => k_is)
    (case c20 => k_is)
    (case k20 => k_is)
    (case a21 => k_is)
    (case l21 => k_is)
    (case c21 => k_is)
    (case k21 => k_is)
    (case a22 => k_is)
    (case l22 => k_is)
    (case c22 => k_is)
    (case k22 => k_is)
    (case a23 => k_is)
    (case l23 => k_is)
    (case c23 => k_is)
    (case k23 => k_is)
    (case a24 => k_is)
    (case l24 => k_is)
    (case c24 => k_is)
    (case k24 => k_is)
    (case a25 => k_is)
    (case l25 => k_is)
    (case c25 => k_is)
    (case k25 => k_is)
    (case a26 => k_is)
    (case l26 => k_is)
    (case c26 => k_is)
    (case k26 => k_is)
    (case a27 => k_is)
    (case l27 => k_is)
    (case c27 => k_is)
    (case k27 => k_is)
    (case a28 => k_is)
    (case l28 => k_is)
    (case c28 => k_is)
    (case k28 => k_is)
    (case a29 => k_is)
    (case l29 => k_is)
    (case c29 => k_is)
    (case k29 => k_is)
    (case a30 => k_is)
    (case l30 => k_is)
    (case c30 => k_is)
    (case k30 => k_is)
    (case a31 => k_is)
    (case l31 => k_is)
    (case c31 => k_is)
    (case k31 => k_is)
    (case a32 => k_is)
    (case l32 => k_is)
    (case c32 => k_is)
    (case k32 => k_is)
    (case a33 => k_is)
    (case l33 => k_is)
    (case c33 => k_is)
    (case k33 => k_is)
    (case a34 => k_is)
    (case l34 => k_is)
    (case c34 => k_is)
    (case k34 => k_is)
    (case a35 => k_is)
    (case l35 => k_is)
    (case c35 => k_is)
    (case k35 => k_is)
    (case a36 => k_is)
    (case l36 => k_is)
    (case c36 => k_is)
    (case k36 => k_is)
    (case a37 => k_is)
    (case l37 => k_is)
    (case c37 => k_is)
    (case k37 => k_is)
    (case a38 => k_is)
    (case l38 => k_is)
    (case c38 => k_is)
    (case k38 => k_is)
    (case a39 => k_is)
    (case l39 => k_is)
    (case c39 => k_is)
    (case k39 => k_is)
    (case a40 => k_is)
    (case l40 => k_is)
    (case c40 => k_is)
    (case k40 => k_is)
    (case a41 => k_is)
    (case l41 => k_is)
    (case c41 => k_is)
    (case k41 => k_is)
    (case a42 => k_is)
    (case l42 => k_is)
    (case c42 => k_is)
    (case k42 => k_is)
    (case a43 => k_is)
    (case l43 => k_is)
    (case c43 => k_is)
    (case k43 => k_is)
    (case a44 => k_is)
    (case l44 => k_is)
    (case c44 => k_is)
    (case k44 => k_is)
    (case a45 => k_is)
    (case l45 => k_is)
    (case c45 => k_is)
    (case k45 => k_is)
    (case a46 => k_is)
    (case l46 => k_is)
    (case c46 => k_is)
    (case k46 => k_is)
    (case vc_Form => kernel_rfl)
    (case vn_Form => kernel_rfl)
    (case a47 => k_is)
    (case l47 => k_is)
    (case c47 => k_is)
    (case k47 => k_is)
    (case vm47 => kernel_rfl)
    (case a48 => k_is)
    (case l48 => k_is)
    (case c48 => k_is)
    (case k48 => k_is)
    (case vm48 => kernel_rfl)
    (case a49 => k_is)
    (case l49 => k_is)
    (case c49 => k_is)
    (case k49 => k_is)
    (case vm49 => kernel_rfl)
    (case a50 => k_is)
    (case l50 => k_is)
    (case c50 => k_is)
    (case k50 => k_is)
    (case vm50 => kernel_rfl)
    (case gl => kernel_rfl)
    (case wh => kernel_rfl)
    (case xg_NoForm => k_is)
    (case xi_NoForm => k_is)
    (case xl_NoForm => k_is)
    (case xc_NoForm => k_is)
    (case xk_NoForm => k_is)
    (case xf_NoForm => kernel_rfl)
    (case rs_NoTable => kernel_rfl)
    (case g_HOLD => k_is)
    (case l_HOLD => k_is)
    (case y_HOLD => exact ⟨⟨_, _, rfl, rfl⟩, ⟨_, _, rfl, rfl⟩, ⟨_, _, rfl, rfl⟩, ⟨_, _, rfl, rfl⟩, trivial⟩)
    (case e0_HOLD => k_is)
    (case fa_even_holds => k_is)
    (case e1_HOLD => k_is)
    (case fa_uneven_holds => k_is)
    (case e2_HOLD => k_is)
    (case fa_below_holds => k_is)
    (case e3_HOLD => k_is)
    (case fa_above_holds => k_is)
    (case s_HOLD => first | rfl | kernel_rfl | decide +kernel)
    (case sk_HOLD => first | rfl | kernel_rfl)
    (case g_HOLD_OF_THREE => k_is)
    (case l_HOLD_OF_THREE => k_is)
    (case y_HOLD_OF_THREE => exact ⟨⟨_, _, rfl, rfl⟩, ⟨_, _, rfl, rfl⟩, ⟨_, _, rfl, rfl⟩, trivial⟩)
    (case e0_HOLD_OF_THREE => k_is)
    (case fa_triple_holds => k_is)
    (case e1_HOLD_OF_THREE => k_is)
    (case e2_HOLD_OF_THREE => k_is)
    (case s_HOLD_OF_THREE => first | rfl | kernel_rfl | decide +kernel)
    (case sk_HOLD_OF_THREE => first | rfl | kernel_rfl)
    (case g_HOLD_SAME => k_is)
    (case l_HOLD_SAME => k_is)
    (case y_HOLD_SAME => exact ⟨⟨_, _, rfl, rfl⟩, trivial⟩)
    (case e0_HOLD_SAME => k_is)
    (case fa_same_holds => k_is)
    (case s_HOLD_SAME => first | rfl | kernel_rfl | decide +kernel)
    (case sk_HOLD_SAME => first | rfl | kernel_rfl)
    (case g_LETTERS => k_is)
    (case g_MOST_LETTERS => k_is)
    (case g_NUMBERS => k_is)
    (case l_NUMBERS => k_is)
    (case y_NUMBERS => exact ⟨⟨_, _, rfl, rfl⟩, ⟨_, _, rfl, rfl⟩, trivial⟩)
    (case e0_NUMBERS => k_is)
    (case lp_NUMBERS_0 => k_is)
    (case e1_NUMBERS => k_is)
    (case lp_NUMBERS_1 => k_is)
    (case g_WALL => k_is)
    (case lp_WALL => k_is)
    (case z_abs => k_is)
    (case z_all => k_is)
    (case z_bool => k_is)
    (case z_int => k_is)
    (case z_isinstance => k_is)
    (case z_len => k_is)
    (case z_list => k_is)
    (case z_max => k_is)
    (case z_min => k_is)
    (case z_range => k_is)
    (case z_repr => k_is)
    (case z_str => k_is)
    (case z_sum => k_is)
    (case z_tuple => k_is)
#print axioms PySem.Challenge.cw_nearthrees_k59_papers_of_forms_holds
