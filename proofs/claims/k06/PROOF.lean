import PyProof.Rows.All
import Wide.All
import OpenK.AllK
import Wide.FinOn
import HandS.CallSlots
import HandS.EndTab
import HandS.EndBits
import HandS.Words
import HandS.WordsExc
import HandS.HotCalls
import HandS.ExcCtx
import HandS.Lambda
import HandS.Comp
import KE.KExcIs
import KE.KTryMore
import HandS.IsInst
import HandS.ExcIs
import HandS.Codes
import HandS.Defaults
import HandS.TupMul
import HandS.SortKw
import HandS.FltList
import HandS.Iter
import KE.DataMinKey
import PyProof.WalkInts
import HandS.TupAny
import PyProof.SumAnyB
import PyProof.InstSpecial
import HandS.Rev
import HandS.MapObj
import HandS.MapJoin
import KE.DataMinMax
import HandS.List
import KE.SortData
import HandS.ForMost
import HandS.Exc
import HandS.ExcOwn
import HandS.Wide
import HandS.Style
import HandS.Conv
import HandS.More
import KE.KNestM
import HandS.WideBits
import HandS.Zip
import PyProof.StrLawsIn
import HandS.Dict
import PyProof.StrLawsRepr
import PyProof.FitsInt
import PyProof.Rows.RegStrFacts
import PyProof.ReprRoads
import HandS.ExcInit
import HandS.ExcField
import HandS.Strs
import HandS.Deep
import PyProof.P3In
import PyProof.TupleKey
import PyProof.DictRoadsH
import PyProof.DictKinds
import HandS.FStr
import KE.LtData
import KE.KSuperObj
import HandS.IntHex
import HandS.ReplaceLit
import PyProof.StrLawsReplace
import KE.GoesEnumKw
import PyProof.Rows.CountFlat
import PyProof.InstNe
import HandS.SlotsOwn
import KE.KCallOwn
import HandS.RaiseMore
import PyProof.EqKinds
import PyProof.FactsAll.bool_1
import PyProof.FactsAll.NoneType_1
import HandS.OwnEq
import PyProof.Rows.ReprOcc
import PySem.Challenge.RW_nearthrees_k06_stairs_by_the_fewest
set_option Elab.async false
set_option linter.all false
set_option maxRecDepth 100000
set_option maxHeartbeats 4000000
/-! Promises of defs that are called where nothing is being shown (repr): calls, bodies, the law's end. -/
namespace Hx
open PySem PySem.Spec PyProof.Rows L2
/-- room for k calls, and no repr is under way -/
structure RoomG (k : Nat) (A : Around) : Prop where
  rm : Room k A
  gd : A.guards = some []
section
variable {j k : Nat} {A : Around}
theorem RoomG.mono (r : RoomG k A) (h : j ≤ k) : RoomG j A := ⟨r.rm.mono h, r.gd⟩
theorem RoomG.deeper (r : RoomG (k + 1) A) (env : Env) : RoomG k (A.deeper env) := ⟨r.rm.deeper env, r.gd⟩
theorem RoomG.in1 (r : RoomG (k + 1) A) : RoomG k A.in1 := ⟨r.rm.in1, r.gd⟩
theorem RoomG.depth (r : RoomG k A) : A.depth < recursionLimit := r.rm.depth
theorem RoomG.units (r : RoomG k A) : A.units + 64 < cLine := r.rm.units
theorem RoomG.hd (r : RoomG k A) : A.handled = none := r.rm.hd
end
structure FnG (P : Program) (w : World) (K : PySem.W.Frag) (mg : Str → Option Value) (base : Heap) (CX : CXT) (k : Nat) (f : Addr) (fd : FuncData) (ps : List Str) (sp : Sp) : Prop where
  len : ∀ vs H Q E, sp vs H Q E → vs.length = ps.length
  run : ∀ (A : Around) (outer : List Env) (s : Shared) (H : Hp) (args : Args) (us : List Value) (vs : List V) (Q : VK) (E : XK), RoomG k A → Env0 P w K mg base A outer s H → BindsTo s fd args (ps.zip us) → Vals vs us → sp vs H Q E →
    codeAny (model P w) A (.call (.ref f) args) (CR CX outer P w H s Q E) s
section
variable {X : Cx} {CX : CXT} {k : Nat} {f : Addr} {fd : FuncData} {ps : List Str} {sp : Sp} {dvs : List V} {ds : List Value} {E : L2.St → XK} {x : Str} {p pos : Pos} {e : Expr} {es : List Expr} {t : TA}
theorem fnG_run {pins : List (Addr × Obj)} {σ : L2.St} {H : Hp} {s : Shared} {Q : VK} {us : List Value} {vs : List V} (F : FnG X.prog X.w X.K X.mg X.base CX k f fd ps sp) (hr : RoomG k X.A) (hb : Binds X.K fd ps ds) (hd : Vals dvs ds) (hx : PassesAt CX X σ (E σ))
    (I : Inv X pins σ H s) (r : Vals vs us) (h : sp (vs ++ dvs) H Q (E σ)) : wpAny (model X.prog X.w) X.A (call (.ref f) us) (EP X pins σ Q) X.xe s := by
  have all : Vals (vs ++ dvs) (us ++ ds) := r.append hd
  have bind := hb s us I.kIn (by rw [← all.length]; exact F.len _ _ _ _ h)
  refine wpAny_call (codeAny_mono (F.run X.A X.stack s H _ _ _ Q (E σ) hr I.env0 bind all h) fun out s' got => ?_)
  match out, got with
  | .error e, got => exact hx pins H s e s' I got
  | .ok (.ret u), got => exact I.after got
/-- f(e, ..) -/
theorem pe_callG (F : FnG X.prog X.w X.K X.mg X.base CX k f fd ps sp) (hr : RoomG k X.A) (hg : Gl X x) (hm : X.mg x = some (.ref f)) (hk : PySem.W.keepIn X.K (.ref f) = true) (hb : Binds X.K fd ps ds) (hd : Vals dvs ds) (hx : ∀ σ, PassesAt CX X σ (E σ))
    (ha : PA X (e :: es) t) (hdb : (x == ("__debug__" : Str)) = false := by decide) (he : starEach (e :: es) X.env = (false, eval e X.env) :: starEach es X.env := by rfl) (hpl : (backTo pos (starEach es X.env)).any (·.1) = false := by rfl) :
    PE X (.Call (.Name x p) (e :: es) [] pos) (tCallSD sp dvs E t) :=
  ⟨fun pins s σ H Q I h => wpAny_Call_Name_kw (ld_glob I hg hm (PySem.W.callWith_K (h₀ := X.base) I.ok.mod.kin hk (thn (ha.run pos pins s σ H _ I h) fun us s1 ⟨vs, H1, I1, r, q⟩ => ⟨I1.kIn, fnG_run F hr hb hd (hx σ) I1 r q⟩) he hpl) hdb)⟩
end
/-- a def by its body -/
theorem fnG_of {CX : CXT} {P : Program} {w : World} {K : PySem.W.Frag} {mg : Str → Option Value} {base : Heap} {k : Nat} {f : Addr} {x qual : Str} {st : Stmt} {fd : FuncData} {N ps : List Str} {sp : Sp} (F : L2.Fun K x qual st f fd) (S : FnScope N ps (defScope st)) (len : ∀ vs H Q E, sp vs H Q E → vs.length = ps.length)
    (body : ∀ (cdv : Value), cdv = fd.code → ∀ (A : Around) (outer : List Env) (s : Shared) (H : Hp) (vs : List V) (Q : VK) (E : XK), RoomG k (A.deeper (envOfC qual (defScope st) s.heap.objs.size f cdv)) → sp vs H Q E →
      ∃ t, PSs (cxOf CX P w K mg base N qual (defScope st) f cdv A outer s H E) (defBody st) t ∧ t { nx := fun _ H' => Q .non H', rt := Q } (L2.start N vs) H) : FnG P w K mg base CX (k + 1) f fd ps sp := by
  refine ⟨len, fun A outer s H args us vs Q E room e0 bind r q => ?_⟩
  obtain ⟨oc, od, kV, doc, pm, an, cdv, ct, osl, rfl, lk, code⟩ := F.ex
  have KX : K.In s.heap := e0.mod.kin.keeps fun b o e => (e0.bs b o e).1
  have lim : s.heap.NoLimit := e0.mod.nolimit.keeps fun b o e => (e0.bs b o e).1
  have known : ∀ y ∈ ps.zip us, (defScope st).names.lookup y.1 = some .local ∨ ((defScope st).names.lookup y.1 = some .cell ∧ ((cellsFrom (s.heap.objs.size + 1) (defScope st).names []).lookup y.1).isSome = true) := fun y hy =>
    (S.par y.1 (List.of_mem_zip (a := y.1) (b := y.2) hy).1).imp id fun z => ⟨z, PySem.W.cellsFrom_some _ _ _ (.inl z)⟩
  refine codeAny_call_function room.depth (KX _ _ lk) rfl S.co S.gen rfl (PySem.W.codeRec_of KX code) (bind _ _ _ _ (wpAny_newFunctionEnv_cells S.kind known fun env he s1 y => ?_))
  subst he
  obtain ⟨t, ht, hq⟩ := body cdv rfl A outer s H vs Q E (room.deeper _) q
  have I : Inv (cxOf CX P w K mg base N qual (defScope st) f cdv A outer s H E) [] (L2.start N vs) H s1 := inv_start S room.hd e0 (len _ _ _ _ q) r y
  refine ⟨lim.keeps y.toInCall.keep, codeAny_func (wpAny_mono (ht.run [] s1 _ H _ I hq) (fun fl s' z => ?_) fun e s' z => z)⟩
  match fl, z with
  | .ret u, ⟨v, σ', H', J, rv, z⟩ => exact ⟨v, H', J.os, J.bare, J.base, J.hok, rv, z⟩
  | .next, ⟨σ', H', J, z⟩ => exact ⟨.non, H', J.os, J.bare, J.base, J.hok, rfl, z⟩
  | .brk, ⟨_, _, _, z⟩ => exact z.elim
  | .cont, ⟨_, _, _, z⟩ => exact z.elim
/-! ### the law -/
section
variable {P : Program} {w : World} {K : PySem.W.Frag} {mg mb : Str → Option Value} {CX : CXT} {k : Nat} {fa a : Addr} {cs : List (Addr × Addr)} {fd : FuncData} {x : Str} {sp : Sp} {s : Shared} {vs : List Value} {ns : List Int}
abbrev tblO : Obj := { cls := .none, data := .fields #[] }
abbrev scrO (vs : List Value) : Obj := { cls := .type "list", data := .seq vs.toArray }
/-- the heap at the law's start: its tables, and the script where the written part has it not -/
def lawH (K : PySem.W.Frag) (cs : List (Addr × Addr)) (a : Addr) (vs : List Value) (ns : List Int) : Hp := fun b => if b ∈ cs.map (·.2) then some (.tbl #[]) else if b = a ∧ K.lookup a = none then some (.frz (scrO vs) (.lst (ns.map V.int))) else none
theorem lawH_tab {b : Addr} (h : b ∈ cs.map (·.2)) : lawH K cs a vs ns b = some (.tbl #[]) := if_pos h
theorem lawH_cases (b : Addr) : (b ∈ cs.map (·.2) ∧ lawH K cs a vs ns b = some (.tbl #[])) ∨ (b ∉ cs.map (·.2) ∧ (b = a ∧ K.lookup a = none) ∧ lawH K cs a vs ns b = some (.frz (scrO vs) (.lst (ns.map V.int)))) ∨ (b ∉ cs.map (·.2) ∧ ¬ (b = a ∧ K.lookup a = none) ∧ lawH K cs a vs ns b = none) := by
  unfold lawH
  by_cases h : b ∈ cs.map (·.2)
  · exact .inl ⟨h, if_pos h⟩
  · by_cases g : b = a ∧ K.lookup a = none
    · exact .inr (.inl ⟨h, g, (if_neg h).trans (if_pos g)⟩)
    · exact .inr (.inr ⟨h, g, (if_neg h).trans (if_neg g)⟩)
theorem lawG_call (KX : K.In s.heap) (hm : s.heap.Ns mainGlobals mg) (hb : s.heap.Ns builtinsNs mb) (hbo : ∀ x : Str, x ≠ "__name__" → mb x = bootBuiltins x) (hn : s.heap.NoLimit) (hgen : s.gens = #[])
    (hT : ∀ p ∈ cs, s.heap.get? p.2 = some tblO) (nT : ∀ p ∈ cs, K.lookup p.2 = none) (hC : ∀ p ∈ cs, PySem.W.CodeHd s.heap p.1 p.2)
    (hbm : ∃ (bm : Addr) (ob : Obj), mg "__builtins__" = some (.ref bm) ∧ bm ≠ builtinsNs ∧ s.heap.get? bm = some ob ∧ ob.cls = .type "module" ∧ ob.dict = some builtinsNs ∧ ob.data = .plain)
    (ha : s.heap.get? a = some (scrO vs)) (hi : IntsAre vs ns) (hl : ns.length ≤ sizeLine) (hr : RoomG k callerA)
    (F : ∀ base : Heap, K.In base → base.Ns mainGlobals mg → (∀ p ∈ cs, LamX.TabB base mg p.1 p.2) → FnG P w K mg base CX k fa fd [x] sp) (bind : ∀ (s : Shared) (u : Value), BindsTo s fd ⟨[u], []⟩ [(x, u)])
    (hsp : ∀ H : Hp, (∀ p ∈ cs, H p.2 = some (.tbl #[])) → SqL K H a (ns.map V.int) → sp [.ref a] H (fun v _ => v = .bl true) fun _ _ _ => False)
    (hCX : ∀ H e s', CX [] H s (fun _ _ _ => False) e s' → False) :
    codeAny (model P w) callerA (.call (.ref fa) ⟨[.ref a], []⟩) (fun r s' => r = .ok (.ret (.bool true)) ∧ OldK s.heap s'.heap ∧ s'.os = s.os ∧ AllBare s'.gens) s := by
  have tabAt : ∀ b, b ∈ cs.map (·.2) → s.heap.get? b = some tblO := fun b h => by
    obtain ⟨p, hp, e⟩ := List.mem_map.mp h
    exact e ▸ hT p hp
  have tabK : ∀ b, b ∈ cs.map (·.2) → K.lookup b = none := fun b h => by
    obtain ⟨p, hp, e⟩ := List.mem_map.mp h
    exact e ▸ nT p hp
  have inT : ∀ p ∈ cs, p.2 ∈ cs.map (·.2) := fun p hp => List.mem_map.mpr ⟨p, hp, rfl⟩
  have aT : a ∉ cs.map (·.2) := fun h => by
    have z := ha.symm.trans (tabAt a h)
    cases z
  -- what is neither a list nor an empty record isn't tracked
  have out : ∀ {b : Addr} {o : Obj}, s.heap.get? b = some o → (∀ us n, o.data ≠ .seq us n) → o.data ≠ .fields #[] → lawH K cs a vs ns b = none := fun {b o} e h1 h2 => by
    rcases lawH_cases (K := K) (cs := cs) (a := a) (vs := vs) (ns := ns) b with ⟨z, _⟩ | ⟨_, z, _⟩ | ⟨_, _, z⟩
    · rw [tabAt b z] at e
      cases e
      exact absurd rfl h2
    · rw [z.1, ha] at e
      cases e
      exact absurd rfl (h1 _ _)
    · exact z
  have seen : ∀ {b : Addr} {o : Obj}, s.heap.get? b = some o → (∀ us n, o.data ≠ .seq us n) → o.data ≠ .fields #[] → (hidT s.heap (lawH K cs a vs ns)).get? b = some o := fun e h1 h2 => hidT_get e (out e h1 h2)
  have space : ∀ {b : Addr} {m : Str → Option Value}, s.heap.Ns b m → (hidT s.heap (lawH K cs a vs ns)).Ns b m := fun ⟨o, es, ep, e, d, r⟩ => ⟨o, es, ep, seen e (fun us n z => by rw [d] at z; cases z) (fun z => by rw [d] at z; cases z), d, r⟩
  have KB : K.In (hidT s.heap (lawH K cs a vs ns)) := fun b o e => hidT_get (KX b o e) (by
    rcases lawH_cases (K := K) (cs := cs) (a := a) (vs := vs) (ns := ns) b with ⟨z, _⟩ | ⟨_, z, _⟩ | ⟨_, _, z⟩
    · rw [tabK b z] at e
      cases e
    · rw [z.1, z.2] at e
      cases e
    · exact z)
  have hmod : L2.Mod K mg (hidT s.heap (lawH K cs a vs ns)) := ⟨KB, space hm, ⟨mb, space hb, hbo⟩, hn.imp fun _ h => ⟨space h.1, h.2⟩⟩
  have TB : ∀ p ∈ cs, LamX.TabB (hidT s.heap (lawH K cs a vs ns)) mg p.1 p.2 := fun p hp => by
    have tp := hT p hp
    refine ⟨?_, ?_, fun z => ?_⟩
    · obtain ⟨o, us, c1, c2, c3, c4, c5, c6, c7, e1, r1, r2, r3, rest⟩ := hC p hp
      refine ⟨o, us, c1, c2, c3, c4, c5, c6, c7, seen e1 (fun vs n z => by rw [r2] at z; cases z) (fun z => ?_), r1, r2, r3, rest⟩
      rw [r2] at z
      cases z
      simp at r3
    · obtain ⟨bm, ob, b1, b2, b3, b4, b5, b6⟩ := hbm
      have n1 : bm ≠ mainGlobals := fun q => by
        obtain ⟨o, es, ep, e, d, _⟩ := hm
        rw [← q, b3] at e
        cases e
        rw [b6] at d
        cases d
      have n2 : bm ≠ p.2 := fun q => by
        rw [q, tp] at b3
        cases b3
        cases b6
      exact ⟨bm, ob, b1, b2, n1, n2, seen b3 (fun vs n z => by rw [b6] at z; cases z) (fun z => by rw [b6] at z; cases z), b4, b5, b6⟩
    · obtain ⟨o, es, ep, e, d, _⟩ := hm
      rw [z, tp] at e
      cases e
      cases d
  have hok : HOk P w (lawH K cs a vs ns) s.heap := fun b u e => by
    rcases lawH_cases (K := K) (cs := cs) (a := a) (vs := vs) (ns := ns) b with ⟨z, q⟩ | ⟨_, z, q⟩ | ⟨_, _, q⟩
    · cases q.symm.trans e
      exact tabAt b z
    · cases q.symm.trans e
      rw [z.1]
      exact ⟨ha, by rw [List.length_map]; exact hl, vs, _, vals_ints hi, ha⟩
    · cases q.symm.trans e
  have e0 : Env0 P w K mg (hidT s.heap (lawH K cs a vs ns)) callerA [] s (lawH K cs a vs ns) := ⟨rfl, hmod, fun b o e => of_hidT e, Nat.le_of_eq (hidT_size _ _), trivial, fun b z => (nomatch (show b ∈ ([] : List Addr) from z)), hok, .of_eq hgen⟩
  have list : SqL K (lawH K cs a vs ns) a (ns.map V.int) := by
    cases q : K.lookup a with
    | some o =>
      cases ha.symm.trans (KX a o q)
      exact .inr ⟨_, vs.toArray, _, q, rfl, rfl, rfl, by rw [List.size_toArray, hi.length]; exact hl, by simpa using vals_ints hi⟩
    | none => exact .inl (.inr ⟨scrO vs, (if_neg aT).trans (if_pos ⟨rfl, q⟩)⟩)
  refine codeAny_mono ((F _ KB (space hm) TB).run callerA [] s (lawH K cs a vs ns) ⟨[.ref a], []⟩ [.ref a] [.ref a] _ _ hr e0 (bind s (.ref a)) (.cons rfl .nil) (hsp _ (fun p hp => lawH_tab (inT p hp)) list)) fun r s' got => ?_
  match r, got with
  | .error e, got => exact (hCX _ e s' got).elim
  | .ok (.ret u), ⟨v, H', os, bare, un, hok', rv, q⟩ =>
    have q' : v = .bl true := q
    subst q'
    obtain rfl : u = Value.bool true := rv
    have kept : ∀ b o, b ∉ cs.map (·.2) → s.heap.get? b = some o → s'.heap.get? b = some o := fun b o nb e => by
      rcases lawH_cases (K := K) (cs := cs) (a := a) (vs := vs) (ns := ns) b with ⟨z, _⟩ | ⟨_, z, q⟩ | ⟨_, _, q⟩
      · exact absurd z nb
      · have h1 := (hok b _ q).1
        rw [e] at h1
        cases h1
        exact (hok' b _ (un.frzs b _ _ q)).1
      · exact un.keep b o e q (fun z => (nomatch (show b ∈ ([] : List Addr) from z))) (fun z => (nomatch z))
    have grown : ∀ p ∈ cs, ∃ more : Array Value, s'.heap.get? p.2 = some { cls := .none, data := .fields more } := fun p hp => by
      obtain ⟨more, z⟩ := un.tbls p.2 #[] (lawH_tab (inT p hp))
      exact ⟨_, hok' p.2 _ z⟩
    refine ⟨rfl, ⟨fun b o e => ?_, fun b o e => ?_⟩, os, bare⟩
    · by_cases hb : b ∈ cs.map (·.2)
      · obtain ⟨p, hp, rfl⟩ := List.mem_map.mp hb
        obtain ⟨more, hmo⟩ := grown p hp
        cases (hT p hp).symm.trans e
        exact .inr (.inl ⟨((hC p hp).tab (hT p hp)).isCodeTable, rfl, #[], more, rfl, by rw [Array.empty_append]; exact hmo⟩)
      · exact .inl (kept b o hb e)
    · by_cases hb : b ∈ cs.map (·.2)
      · obtain ⟨p, hp, rfl⟩ := List.mem_map.mp hb
        obtain ⟨more, hmo⟩ := grown p hp
        exact ⟨_, hmo⟩
      · exact ⟨o, kept b o hb e⟩
end
/-- what is known of the law at the head's heap -/
def LawG (l : PySem.W.OpenLaw) (w : World) (K : PySem.W.Frag) (CX : CXT) (k n : Nat) (x : Str) (mg : Str → Option Value) (fa : Addr) (h : Heap) : Prop :=
  ∃ (fd : FuncData) (cs : List (Addr × Addr)) (sp : Sp), (∀ p ∈ cs, h.get? p.2 = some tblO) ∧ (∀ p ∈ cs, K.lookup p.2 = none) ∧ (∀ p ∈ cs, PySem.W.CodeHd h p.1 p.2) ∧ (∀ (s : Shared) (u : Value), BindsTo s fd ⟨[u], []⟩ [(x, u)]) ∧
    (∀ (H : Hp) (a : Addr) (ns : List Int), ns.length ≤ n → (∀ z ∈ ns, Builtin.Int.intBits z ≤ 1048576) → (∀ p ∈ cs, H p.2 = some (.tbl #[])) → SqL K H a (ns.map V.int) → sp [.ref a] H (fun v _ => v = .bl true) fun _ _ _ => False) ∧
    ∀ base : Heap, K.In base → base.Ns mainGlobals mg → (∀ p ∈ cs, LamX.TabB base mg p.1 p.2) → FnG l.prog w K mg base CX k fa fd [x] sp
theorem lawG_end {l : PySem.W.OpenLaw} {n k : Nat} {q : Program} {loose : List Str} {XP : (Str → Option Value) → Heap → Prop} {YP : World → Heap → Prop} {d : DefRec} {K : Params → PySem.W.Frag} {CX : World → CXT} {x : Str}
    (hn : l.most = some n) (hn2 : n ≤ sizeLine) (hdf : d.params.defaults = []) (hr : RoomG k callerA) (hY : ∀ (w : World) (h : Heap), YP w h → (K w.params).In h)
    (F : ∀ (w : World) (mg : Str → Option Value) (fa : Addr) (h : Heap), YP w h → (K w.params).In h → h.Ns mainGlobals mg → mg d.name = some (.ref fa) → LawG l w (K w.params) (CX w) k n x mg fa h)
    (hCX : ∀ (w : World) (H : Hp) (s : Shared) (e : Value) (s' : Shared), CX w [] H s (fun _ _ _ => False) e s' → False) :
    PySem.W.WalkO q loose XP YP l.row.toRowW d [] (fun f vs => PySem.call f vs) :=
  Att.attach_callB hn hdf fun w s₀ s₁ mg mb fa o pm cd doc a vs ns G Y ho hd hcd hmg hobj hints hlen hbits hg =>
    let KX := hY w _ Y
    let ⟨_, _, _, hT, nT, hC, hb, hsp, hF⟩ := F w mg fa _ Y KX G.T.g hmg
    lawG_call KX G.T.g G.T.b G.T.builtins G.T.nolimit hg hT nT hC G.T.bmain hobj hints (Nat.le_trans hlen hn2) hr hF hb (fun H hH hS => hsp H a ns hlen hbits hH hS) fun H e s' => hCX w H s₁ e s'
end Hx

/-! loops and stores while an exception is handled -/
namespace Hx
open PySem PySem.Spec PyProof.Rows L2 HotX
section
variable {prog : Program} {w : World} {A : Around} {E : Value → Shared → Prop} {s : Shared}
end
section
variable {X : Cx} {pos : Pos}
end
end Hx

/-! a comprehension while an exception is handled -/
namespace Hx
open PySem PySem.Spec PyProof.Rows L2 HotX
section
variable {X : Cx} {pins : List (Addr × Obj)} {σ : L2.St} {H : Hp} {s : Shared}
end
end Hx

/-! calls within an except suite; several clauses that name the exception; a lambda handed to a def -/
namespace Hx
open PySem PySem.Spec PyProof.Rows L2 HotX
/-! ### a def called within an except suite -/
section
variable {X : Cx}
end
end Hx

/-! try: several clauses, each of one class or of a tuple of classes, with a name or without -/
namespace Hx
open PySem PySem.Spec PyProof.Rows L2 HotX
/-! ### the tests -/
section
variable {M : Model} {K : PySem.W.Frag}
open PySem.W
end
section
variable {X : Cx} {a : Addr} {pn pins : List (Addr × Obj)} {σ : L2.St} {H : Hp} {s : Shared}
end
/-! ### the clauses -/
structure Cl where
  cs : List Value
  n : Option (Str × Nat)
  ts : Addr → Value → Option Addr → TS
section
variable {X : Cx} {Wout : WX} {a : Addr} {B : Heap} {pins : List (Addr × Obj)} {σ : L2.St} {H : Hp} {cls : Value} {d : Option Addr} {D : Ends} {sI s' : Shared}
/-- what stands of a caught exception -/
structure Cgt (X : Cx) (a : Addr) (B : Heap) (pins : List (Addr × Obj)) (σ : L2.St) (H : Hp) (cls : Value) (d : Option Addr) (sI s : Shared) : Prop where
  inv : Inv X pins σ H sI
  nb : ∀ b o, sI.heap.get? b = some o → b ∉ frs X.stack → B.get? b = some o
  up : sI.heap.UpToSlots s.heap
  fl : HandSPX.FlyingZ B X.stack a (L2N.Zn cls d) s.heap
  na : H a = none
  os : s.os = sI.os
  ag : AllBare s.gens
theorem Cgt.step {h' : Heap} (c : Cgt X a B pins σ H cls d sI s') (fl : HandSPX.FlyingZ B X.stack a (L2N.Zn cls d) h') (up : s'.heap.UpToSlots h') : Cgt X a B pins σ H cls d sI { s' with heap := h' } := ⟨c.inv, c.nb, c.up.trans up, fl, c.na, c.os, c.ag⟩
theorem Cgt.here (c : Cgt X a B pins σ H cls d sI s') : Inv X pins σ H s' := c.inv.landed c.nb c.fl.1 c.up c.os c.ag
theorem Cgt.obj (c : Cgt X a B pins σ H cls d sI s') (hs : X.stack = X.env :: X.outer) (hf : X.env.frame = some X.env.locals) : ∃ oe vs, s'.heap.get? a = some oe ∧ L2N.Zn cls d oe ∧ oe.data = .fields vs ∧ Inv (X.suite a ((a, oe) :: (X.pn ++ pins))) [] σ H s' := by
  obtain ⟨oe, vs, he, hz, hd⟩ := c.fl.there
  have nfr : a ∉ frs X.stack := fun hm => by
    obtain ⟨_, o, e, hnf⟩ := c.fl.2.2.1.mem hm
    rw [he] at e
    cases e
    exact hnf _ hd
  rw [hs] at nfr
  refine ⟨oe, vs, he, hz, hd, c.here.suite he hd c.na (fun z => nfr ?_) fun hm => nfr ?_⟩
  · exact List.mem_filterMap.mpr ⟨X.env, .head _, by rw [hf, z]⟩
  · obtain ⟨e, he, q⟩ := List.mem_filterMap.mp hm
    exact List.mem_filterMap.mpr ⟨e, .tail _ he, q⟩
end
end Hx

/-! a lambda without parameters handed to a def that calls it within a try -/
namespace Hx
open PySem PySem.Spec PyProof.Rows L2 HotX LamX
section
variable {X : Cx} {pins : List (Addr × Obj)} {σ : L2.St} {H HZ : Hp} {s : Shared}
end
end Hx

/-! A def called with keywords, where what it raises is wished for at the caller's slots. -/
namespace Hx
open PySem PySem.Spec PyProof.Rows L2
/-- the things at these places -/
def sel {α : Type} (idx : List Nat) (l : List α) : List α := idx.filterMap fun i => l[i]?
theorem paired_at {α β : Type} {R : α → β → Prop} : ∀ {xs : List α} {ys : List β}, Paired R xs ys → ∀ i : Nat, (xs[i]? = none ∧ ys[i]? = none) ∨ ∃ x y, xs[i]? = some x ∧ ys[i]? = some y ∧ R x y
  | _, _, .nil, i => .inl ⟨rfl, rfl⟩
  | _, _, .cons r t, 0 => .inr ⟨_, _, rfl, rfl, r⟩
  | _, _, .cons r t, i + 1 => paired_at t i
theorem paired_sel {α β : Type} {R : α → β → Prop} {xs : List α} {ys : List β} (h : Paired R xs ys) : ∀ idx : List Nat, Paired R (sel idx xs) (sel idx ys)
  | [] => .nil
  | i :: idx => by
    have t := paired_sel h idx
    unfold sel at t ⊢
    rcases paired_at h i with ⟨e1, e2⟩ | ⟨x, y, e1, e2, r⟩
    · rw [List.filterMap_cons_none e1, List.filterMap_cons_none e2]; exact t
    · rw [List.filterMap_cons_some e1, List.filterMap_cons_some e2]; exact .cons r t
/-- n things by place, then by these names; what lacks is the default's. idx: where each parameter's thing stands in the row of all -/
structure KSel (K : PySem.W.Frag) (fd : FuncData) (ps : List Str) (n : Nat) (ks : List Str) (idx : List Nat) (dvs : List V) : Prop where
  ex : ∃ its : List Value, Vals dvs its ∧ ∀ (s : Shared) (us ws : List Value), K.In s.heap → us.length = n → ws.length = ks.length → BindsTo s fd ⟨us, ks.zip ws⟩ (ps.zip (sel idx (us ++ ws ++ its)))
section
variable {X : Cx} {CX : CXT} {k n : Nat} {f : Addr} {fd : FuncData} {ps ks : List Str} {sp : Sp} {idx : List Nat} {dvs : List V} {E : L2.St → XK} {x : Str} {p pos : Pos} {e : Expr} {es : List Expr} {kws : List Keyword} {t tk : TA}
theorem kw_run {pins : List (Addr × Obj)} {σ : L2.St} {H : Hp} {s : Shared} {Q : VK} {us ws : List Value} {vs zs : List V} (F : FnG X.prog X.w X.K X.mg X.base CX k f fd ps sp) (hr : RoomG k X.A) (hb : KSel X.K fd ps n ks idx dvs) (hx : PassesAt CX X σ (E σ))
    (I : Inv X pins σ H s) (r : Vals vs us) (rz : Vals zs ws) (l1 : vs.length = n) (l2 : zs.length = ks.length) (h : sp (sel idx (vs ++ zs ++ dvs)) H Q (E σ)) : wpAny (model X.prog X.w) X.A (call (.ref f) us (ks.zip ws)) (EP X pins σ Q) X.xe s := by
  obtain ⟨its, rd, bind⟩ := hb.ex
  have all : Vals (sel idx (vs ++ zs ++ dvs)) (sel idx (us ++ ws ++ its)) := paired_sel ((r.append rz).append rd) idx
  have b := bind s us ws I.kIn (r.length.symm.trans l1) (rz.length.symm.trans l2)
  refine wpAny_call (codeAny_mono (F.run X.A X.stack s H _ _ _ Q (E σ) hr I.env0 b all h) fun out s' got => ?_)
  match out, got with
  | .error e, got => exact hx pins H s e s' I got
  | .ok (.ret u), got => exact I.after got
end
end Hx

/-! A tuple told once. -/
namespace Hx
open PySem PySem.Spec PyProof.Rows L2
theorem once_tuple (l : Addr) (items : Array Value) (n : Nat) (dd : Option Addr) (sl : Array (Option Value)) (u : Tok) :
    Meets (Builtin.«tuple.__mul__» ⟨[.ref l, .int 1 u], []⟩) (fun _ R s => s.heap.get? l = some { cls := .type "tuple", dict := dd, data := .seq items n, slots := sl } ∧ R (.ok (.ret (Value.ref l))) s) :=
  .of_wp fun prog w A R s h => by
    obtain ⟨hp, g, d, tk, os⟩ := s
    obtain ⟨hl, h⟩ := h
    have f1 := AutoSeq1.idx_int
    have c0 : (decide ((1 : Int) < -(2 ^ 63)) || decide ((1 : Int) ≥ 2 ^ 63)) = false := by decide
    have c1 : (items.isEmpty || (1 : Int) == 1) = true := by rw [show ((1 : Int) == 1) = true from rfl, Bool.or_true]
    wp_walk using wpAny_loadPart' hl
    repeat (first
      | (refine wpAny_ite_false (decide_eq_false (by rw [c0]; exact Bool.false_ne_true)) ?_; wp_walk using wpAny_loadPart' hl)
      | (refine wpAny_ite_true (decide_eq_true (by exact c1)) ?_; wp_walk using wpAny_loadPart' hl))
    exact ⟨_, rfl, h⟩
section
variable {X : Cx}
def rOnce (K : PySem.W.Frag) : R2 := fun x y H Q => ∃ l xs, x = .ref l ∧ y = .int 1 ∧ SqT K H l xs ∧ Q (.ref l) H
theorem op_once : OpR X (binaryOp .Mult) (rOnce X.K) := by
  intro pins s σ H x y v u Q I rx ry h
  obtain ⟨l, xs, rfl, rfl, hT, q⟩ := h
  cases rx
  obtain ⟨t, rfl⟩ := ry
  obtain ⟨its, r, ⟨⟨cls, dd, data, sl⟩, ho, hc, n, hd⟩, hs⟩ := I.tuple hT
  simp only at hc hd
  subst hc hd
  refine wpAny_binaryOp_repeat_ref (T := "tuple") (U := "int") (by decide) ⟨_, ho, rfl⟩ (fun s' => typeIs_int s' 1 t) noFill_tuple_mul F.fills_int_mul F.slot_int_rmul repeat_tuple F.slot_int_index.lookup
    (call_meets F.slot_int_rmul (typeIs_int s 1 t) F.entry_int_rmul (F.args_int_rmul_2 _ _) (int_rmul_tuple 1 t l its.toArray n dd sl)
      ⟨ho, rfl, ⟨_, ho, rfl⟩, call_meets F.slot_tuple_mul ⟨_, ho, rfl⟩ F.entry_tuple_mul (F.args_tuple_mul_2 _ _) (once_tuple l its.toArray n dd sl t) ⟨ho, ?_⟩⟩)
  exact ⟨.ref l, H, I, rfl, q⟩
end
end Hx

/-! max and min of a list by a def that tells an int of each. -/
namespace Hx
open PySem PySem.Spec PyProof.Rows L2
section
variable {X : Cx} {k : Nat} {f : Addr} {fd : FuncData} {p : Str} {sp : Sp} {pins : List (Addr × Obj)} {σ : L2.St}
end
end Hx
namespace Hx
open PySem PySem.Spec PyProof.Rows L2
/-! ### max, min of a list of ints -/
section
variable {X : Cx}
end
end Hx

/-! sum of a list of tuples, from a tuple on. -/
namespace Hx
open PySem PySem.Spec PyProof.Rows L2 HT
section
variable {X : Cx} {pins : List (Addr × Obj)} {σ : L2.St}
end
end Hx

/-! Own classes over promises of defs that are called where nothing is being shown: an instance is made, its methods are called. -/
namespace Hx
open PySem PySem.Spec PyProof.Rows L2
theorem RoomG.make {k : Nat} {A : Around} (r : RoomG (k + 1) A) (C : Addr) (us : List Value) (kw : List (Str × Value)) : RoomG k (A.under (.builtin "type.__call__" ⟨.ref C :: us, kw⟩)) := ⟨r.rm.make C us kw, r.gd⟩
/-- C(e, ..): what __init__ is handed is the new instance and the arguments -/
def tMakeS (C : Addr) (sp : Sp) (dvs : List V) (E : L2.St → XK) (t : TA) : TE := fun σ H Q => t σ H fun vs H1 => ∀ x dx, H1 x = none → H1 dx = none → dx ≠ x →
  sp (.ref x :: (vs ++ dvs)) (upd (upd H1 dx (.own x)) x (.ins C dx [])) (fun v H2 => v = .non ∧ Q (.ref x) H2) (E σ)
def tMethS (C : Addr) (m : Str) (sp : Sp) (dvs : List V) (E : L2.St → XK) (ta : TE) (t : TA) : TE := fun σ H Q => ta σ H fun x H1 => ∃ a dx fs, x = .ref a ∧ H1 a = some (.ins C dx fs) ∧ fs.lookup m = none ∧
  t σ H1 fun vs H2 => sp (x :: (vs ++ dvs)) H2 Q (E σ)
section
variable {X : Cx} {CX : CXT} {k : Nat} {f C : Addr} {fd : FuncData} {ps : List Str} {sp : Sp} {dvs : List V} {ds : List Value} {E : L2.St → XK} {x m : Str} {p pos apos : Pos} {o e : Expr} {es : List Expr} {t : TA} {ta : TE}
theorem makeG_run {pins : List (Addr × Obj)} {σ : L2.St} {H : Hp} {s : Shared} {Q : VK} {us : List Value} {vs : List V} (M : Mk X.K C f) (F : FnG X.prog X.w X.K X.mg X.base CX k f fd ps sp) (hr : RoomG (k + 1) X.A) (hb : Binds X.K fd ps ds) (hd : Vals dvs ds) (hx : PassesAt CX X σ (E σ))
    (I : Inv X pins σ H s) (r : Vals vs us)
    (h : ∀ x dx, H x = none → H dx = none → dx ≠ x → sp (.ref x :: (vs ++ dvs)) (upd (upd H dx (.own x)) x (.ins C dx [])) (fun v H2 => v = .non ∧ Q (.ref x) H2) (E σ)) :
    wpAny (model X.prog X.w) X.A (call (.ref C) us) (EP X pins σ Q) X.xe s := by
  have ready := Inv.made (C := C) I
  have spun := h (s.heap.objs.size + 1) s.heap.objs.size (I.hok.fresh (Nat.le_succ _)) (I.hok.fresh (Nat.le_refl _)) (Nat.ne_of_lt (Nat.lt_succ_self _))
  have all : Vals (V.ref (s.heap.objs.size + 1) :: (vs ++ dvs)) (Value.ref (s.heap.objs.size + 1) :: (us ++ ds)) := .cons rfl (r.append hd)
  have many : (Value.ref (s.heap.objs.size + 1) :: us ++ ds).length = ps.length := (show _ = _ from all.length.symm).trans (F.len _ _ _ _ spun)
  refine wpAny_call (make_map (f := f) I.kIn M.makes M.init (beq_iff_eq.mp M.fn) (codeAny_mono (F.run _ X.stack _ _ ⟨Value.ref (s.heap.objs.size + 1) :: us, []⟩ (Value.ref (s.heap.objs.size + 1) :: (us ++ ds)) _ _ (E σ) (hr.make C us [])
    (ready.env0.make C us []) (hb _ (Value.ref (s.heap.objs.size + 1) :: us) ready.kIn many) all spun) fun out s' got => ?_))
  match out, got with
  | .error e, got => exact hx pins _ _ e s' ready got
  | .ok (.ret u), got =>
    obtain ⟨v, H', J, rv, ev, q⟩ := ready.after got
    subst ev
    exact ⟨rv, V.ref (s.heap.objs.size + 1), H', J, rfl, q⟩
theorem pe_makeG (M : Mk X.K C f) (F : FnG X.prog X.w X.K X.mg X.base CX k f fd ps sp) (hr : RoomG (k + 1) X.A) (hg : Gl X x) (hm : X.mg x = some (.ref C)) (hb : Binds X.K fd ps ds) (hd : Vals dvs ds) (hx : ∀ σ, PassesAt CX X σ (E σ))
    (ha : PA X (e :: es) t) (hdb : (x == ("__debug__" : Str)) = false := by decide) (he : starEach (e :: es) X.env = (false, eval e X.env) :: starEach es X.env := by rfl) (hpl : (backTo pos (starEach es X.env)).any (·.1) = false := by rfl) :
    PE X (.Call (.Name x p) (e :: es) [] pos) (tMakeS C sp dvs E t) :=
  ⟨fun pins s σ H Q I h => wpAny_Call_Name_kw (ld_glob I hg hm (PySem.W.callWith_K (h₀ := X.base) I.ok.mod.kin M.kp (thn (ha.run pos pins s σ H _ I h) fun us s1 ⟨vs, H1, I1, r, q⟩ => ⟨I1.kIn, makeG_run M F hr hb hd (hx σ) I1 r q⟩) he hpl) hdb)⟩
/-- o.m(e, ..) -/
theorem pe_methG {pl : Sem Bool} (he : PE X o ta) (c : Cls X.K C) (hm : Meth X.K C m f) (F : FnG X.prog X.w X.K X.mg X.base CX k f fd ps sp) (hr : RoomG k X.A) (hb : Binds X.K fd ps ds) (hd : Vals dvs ds) (hx : ∀ σ, PassesAt CX X σ (E σ)) (ha : PA X (e :: es) t)
    (hst : starEach (e :: es) X.env = (false, eval e X.env) :: starEach es X.env := by rfl) (hpl : (backTo pos (starEach es X.env)).any (·.1) = false := by rfl)
    (ht : eval (.Call (.Attribute o m apos) (e :: es) [] pos) X.env = (do
      let ov ← eval o X.env
      standAt apos.atName
      let (f, first) ← holding [ov] (getMethod ov m pl)
      callWith pos f first (backTo pos (starEach (e :: es) X.env)) (backToKw pos (keywordEach [] X.env))) := by rfl) :
    PE X (.Call (.Attribute o m apos) (e :: es) [] pos) (tMethS C m sp dvs E ta t) := by
  refine ⟨fun pins s σ H Q I h => PySem.W.methodCall_KW (pl := pl) (thn (he.run pins s σ H _ I h) fun u s1 ⟨x, H1, I1, rx, a, dx, fs, ex, ea, l, q⟩ => ?_) ht⟩
  subst ex
  cases rx
  exact getmeth_ok I1 ea c hm l (PySem.W.callWith_K (first := [.ref a]) (h₀ := X.base) I.ok.mod.kin hm.kp (thn (ha.run pos pins s1 σ H1 _ I1 q) fun us s2 ⟨vs, H2, I2, r, q2⟩ => ⟨I2.kIn, fnG_run (us := .ref a :: us) (vs := .ref a :: vs) F hr hb hd (hx σ) I2 (.cons rfl r) q2⟩) hst hpl)
/-- o.m() -/
theorem pe_methG0 {pl : Sem Bool} (he : PE X o ta) (c : Cls X.K C) (hm : Meth X.K C m f) (F : FnG X.prog X.w X.K X.mg X.base CX k f fd ps sp) (hr : RoomG k X.A) (hb : Binds X.K fd ps ds) (hd : Vals dvs ds) (hx : ∀ σ, PassesAt CX X σ (E σ))
    (ht : eval (.Call (.Attribute o m apos) [] [] pos) X.env = (do
      let ov ← eval o X.env
      standAt apos.atName
      let (f, first) ← holding [ov] (getMethod ov m pl)
      callWith pos f first (backTo pos (starEach [] X.env)) (backToKw pos (keywordEach [] X.env))) := by rfl) :
    PE X (.Call (.Attribute o m apos) [] [] pos) (tMethS C m sp dvs E ta tNil) := by
  refine ⟨fun pins s σ H Q I h => PySem.W.methodCall_KW (pl := pl) (thn (he.run pins s σ H _ I h) fun u s1 ⟨x, H1, I1, rx, a, dx, fs, ex, ea, l, q⟩ => ?_) ht⟩
  subst ex
  cases rx
  exact getmeth_ok I1 ea c hm l (PySem.W.callWith_K0 (first := [.ref a]) I1.kIn hm.kp (fnG_run (us := [.ref a]) (vs := [.ref a]) F hr hb hd (hx σ) I1 (.cons rfl .nil) q))
end
end Hx
namespace Hx
open PySem PySem.Spec PyProof.Rows L2
/-- o.m(k = e, ..): what the places idx of the instance and all that is handed in hold -/
def tMethKS (C : Addr) (m : Str) (sp : Sp) (nk : Nat) (idx : List Nat) (E : L2.St → XK) (ta : TE) (tk : TA) : TE := fun σ H Q => ta σ H fun x H1 => ∃ a dx fs, x = .ref a ∧ H1 a = some (.ins C dx fs) ∧ fs.lookup m = none ∧
  tk σ H1 fun zs H2 => zs.length = nk ∧ sp (sel idx (([x] ++ zs) ++ [])) H2 Q (E σ)
theorem pe_methKG {X : Cx} {CX : CXT} {k : Nat} {f C : Addr} {fd : FuncData} {ps ks : List Str} {sp : Sp} {idx : List Nat} {E : L2.St → XK} {m : Str} {pos apos : Pos} {o : Expr} {kws : List Keyword} {ta : TE} {tk : TA} {pl : Sem Bool} (he : PE X o ta) (c : Cls X.K C) (hm : Meth X.K C m f) (F : FnG X.prog X.w X.K X.mg X.base CX k f fd ps sp) (hr : RoomG k X.A)
    (hb : KSel X.K fd ps 1 ks idx []) (hx : ∀ σ, PassesAt CX X σ (E σ)) (hkw : PK X kws tk) (hall : (backToKw pos (keywordEach kws X.env)).all (·.1.isSome) = true := by rfl) (hks : (backToKw pos (keywordEach kws X.env)).filterMap (·.1) = ks := by rfl)
    (hpl : ((backTo pos (starEach [] X.env)).any (·.1) || (backToKw pos (keywordEach kws X.env)).any (·.1.isNone)) = false := by rfl)
    (ht : eval (.Call (.Attribute o m apos) [] kws pos) X.env = (do
      let ov ← eval o X.env
      standAt apos.atName
      let (f, first) ← holding [ov] (getMethod ov m pl)
      callWith pos f first (backTo pos (starEach [] X.env)) (backToKw pos (keywordEach kws X.env))) := by rfl) :
    PE X (.Call (.Attribute o m apos) [] kws pos) (tMethKS C m sp ks.length idx E ta tk) := by
  refine ⟨fun pins s σ H Q I h => PySem.W.methodCall_KW (pl := pl) (thn (he.run pins s σ H _ I h) fun u s1 ⟨x, H1, I1, rx, a, dx, fs, ex, ea, l, q⟩ => ?_) ht⟩
  subst ex
  cases rx
  refine getmeth_ok I1 ea c hm l (PySem.W.callWith_KW0 (first := [.ref a]) (h₀ := X.base) I.ok.mod.kin hm.kp hall (thn (hkw.run pos pins s1 σ H1 _ I1 q) fun ws s2 ⟨zs, H2, I2, rz, l2, q2⟩ => ⟨I2.kIn, ?_⟩) hpl)
  rw [hks]
  exact kw_run (us := [.ref a]) (vs := [.ref a]) F hr hb (hx σ) I2 (.cons rfl .nil) rz rfl l2 q2
end Hx

/-! Defs with defaults whose promises are called where nothing is being shown. -/
namespace Hx
open PySem PySem.Spec PyProof.Rows L2
/-- a def whose defaults are the items of the tuple at T -/
structure FunV (K : PySem.W.Frag) (x qual : Str) (st : Stmt) (f : Addr) (fd : FuncData) (T : Addr) (its : Array Value) : Prop where
  ex : ∃ (oc : Value) (od : Option Addr) (kV doc pm : Value) (an : Option Addr) (cdv ct : Value) (osl : Array (Option Value)),
    fd = PySem.W.fnOf x qual (defArgs st) (defBody st) (defScope st) (.ref T) kV doc pm an cdv ct ∧ K.lookup f = some ⟨oc, od, .func fd, osl⟩ ∧ PySem.W.codeIn K cdv qual = true
  dfl : ∃ (o : Obj) (n : Nat), K.lookup T = some o ∧ o.data = .seq its n
  kp : PySem.W.keepIn K (.ref f) = true
theorem funV_mk {K : PySem.W.Frag} {x qual : Str} {st : Stmt} {f T : Addr} {its : Array Value} {oc oc2 kV doc pm cdv ct : Value} {od od2 an : Option Addr} {osl osl2 : Array (Option Value)} {n : Nat}
    (l : K.lookup f = some ⟨oc, od, .func (PySem.W.fnOf x qual (defArgs st) (defBody st) (defScope st) (.ref T) kV doc pm an cdv ct), osl⟩) (c : PySem.W.codeIn K cdv qual = true) (k : PySem.W.keepIn K (.ref f) = true) (t : K.lookup T = some ⟨oc2, od2, .seq its n, osl2⟩) :
    FunV K x qual st f (PySem.W.fnOf x qual (defArgs st) (defBody st) (defScope st) (.ref T) kV doc pm an cdv ct) T its := ⟨⟨oc, od, kV, doc, pm, an, cdv, ct, osl, rfl, l, c⟩, ⟨_, n, t, rfl⟩, k⟩
/-- what a call binds, where the defaults are looked at -/
theorem FunV.to {K : PySem.W.Frag} {x qual : Str} {st : Stmt} {f T : Addr} {its : Array Value} {fd : FuncData} {args : Args} {bs : List (Str × Value)} {s : Shared} (F : FunV K x qual st f fd T its) (X : K.In s.heap)
    (h : ∃ k, bindArgs fd args = seqItems? (.ref T) >>= k ∧ k (some its) = pure bs) : BindsTo s fd args bs := by
  obtain ⟨o, n, lT, oT⟩ := F.dfl
  obtain ⟨k, e1, e2⟩ := h
  refine BindsTo.of_looks fun M => ?_
  rw [e1]
  exact looks_items X lT oT (.of_pure e2)
/-- such a def by its body -/
theorem fnG_ofV {CX : CXT} {P : Program} {w : World} {K : PySem.W.Frag} {mg : Str → Option Value} {base : Heap} {k : Nat} {f T : Addr} {its : Array Value} {x qual : Str} {st : Stmt} {fd : FuncData} {N ps : List Str} {sp : Sp} (F : FunV K x qual st f fd T its) (S : FnScope N ps (defScope st)) (len : ∀ vs H Q E, sp vs H Q E → vs.length = ps.length)
    (body : ∀ (cdv : Value), cdv = fd.code → ∀ (A : Around) (outer : List Env) (s : Shared) (H : Hp) (vs : List V) (Q : VK) (E : XK), RoomG k (A.deeper (envOfC qual (defScope st) s.heap.objs.size f cdv)) → sp vs H Q E →
      ∃ t, PSs (cxOf CX P w K mg base N qual (defScope st) f cdv A outer s H E) (defBody st) t ∧ t { nx := fun _ H' => Q .non H', rt := Q } (L2.start N vs) H) : FnG P w K mg base CX (k + 1) f fd ps sp := by
  refine ⟨len, fun A outer s H args us vs Q E room e0 bind r q => ?_⟩
  obtain ⟨oc, od, kV, doc, pm, an, cdv, ct, osl, rfl, lk, code⟩ := F.ex
  have KX : K.In s.heap := e0.mod.kin.keeps fun b o e => (e0.bs b o e).1
  have lim : s.heap.NoLimit := e0.mod.nolimit.keeps fun b o e => (e0.bs b o e).1
  have known : ∀ y ∈ ps.zip us, (defScope st).names.lookup y.1 = some .local ∨ ((defScope st).names.lookup y.1 = some .cell ∧ ((cellsFrom (s.heap.objs.size + 1) (defScope st).names []).lookup y.1).isSome = true) := fun y hy =>
    (S.par y.1 (List.of_mem_zip (a := y.1) (b := y.2) hy).1).imp id fun z => ⟨z, PySem.W.cellsFrom_some _ _ _ (.inl z)⟩
  refine codeAny_call_function room.depth (KX _ _ lk) rfl S.co S.gen rfl (PySem.W.codeRec_of KX code) (bind _ _ _ _ (wpAny_newFunctionEnv_cells S.kind known fun env he s1 y => ?_))
  subst he
  obtain ⟨t, ht, hq⟩ := body cdv rfl A outer s H vs Q E (room.deeper _) q
  have I : Inv (cxOf CX P w K mg base N qual (defScope st) f cdv A outer s H E) [] (L2.start N vs) H s1 := inv_start S room.hd e0 (len _ _ _ _ q) r y
  refine ⟨lim.keeps y.toInCall.keep, codeAny_func (wpAny_mono (ht.run [] s1 _ H _ I hq) (fun fl s' z => ?_) fun e s' z => z)⟩
  match fl, z with
  | .ret u, ⟨v, σ', H', J, rv, z⟩ => exact ⟨v, H', J.os, J.bare, J.base, J.hok, rv, z⟩
  | .next, ⟨σ', H', J, z⟩ => exact ⟨.non, H', J.os, J.bare, J.base, J.hok, rfl, z⟩
  | .brk, ⟨_, _, _, z⟩ => exact z.elim
  | .cont, ⟨_, _, _, z⟩ => exact z.elim
end Hx

/-! len of an instance whose class has a __len__ of its own. -/
namespace Hx
open PySem PySem.Spec PyProof.Rows L2
open Builtin
theorem special_fn {prog : Program} {w : World} {A : Around} {E : Value → Shared → Prop} {s : Shared} {K : PySem.W.Frag} {a C f : Addr} {ox : Obj} {od : Option Obj} {name : Str} {args : List Value} {Q : Option Value → Shared → Prop} (X : K.In s.heap) (I : PySem.W.InstAt s.heap a ox C od)
    (hf : PySem.W.findIn K (.ref C) name = some (some (.ref f))) (fo : PySem.W.typeIn K (.ref f) = some (.type "function")) (h : wpAny (model prog w) A (call (.ref f) (.ref a :: args)) (fun v => Q (some v)) E s) : wpAny (model prog w) A (callSpecial? (.ref a) name args) Q E s := by
  unfold callSpecial? specialOf
  refine wpAny_bind (wpAny_bind (I.type.here ((PySem.W.looks_findIn X hf).here ?_)))
  refine wpAny_holding ?_
  unfold bindSpecial
  refine wpAny_bind (wpAny_bind ((PySem.W.looks_typeIn X fo).here ?_))
  rw [if_pos (by decide)]
  exact wpAny_pure (wpAny_bind (wpAny_mono h (fun v s' z => wpAny_pure z) fun _ _ z => z))
theorem len_fn {prog : Program} {w : World} {A : Around} {E : Value → Shared → Prop} {s : Shared} {K : PySem.W.Frag} {a C f : Addr} {ox : Obj} {od : Option Obj} {Q : Value → Shared → Prop} (X : K.In s.heap) (I : PySem.W.InstAt s.heap a ox C od)
    (hf : PySem.W.findIn K (.ref C) "__len__" = some (some (.ref f))) (fo : PySem.W.typeIn K (.ref f) = some (.type "function"))
    (h : wpAny (model prog w) A.in1 (call (.ref f) [.ref a]) (fun r s' => ∃ n u, r = .int n u ∧ 0 ≤ n ∧ n < 2 ^ 63 ∧ Q (.int n s'.toks) { s' with toks := s'.toks + 1 }) E s) : wpAny (model prog w) A (call (.builtin "len") [.ref a]) Q E s := by
  refine Calls.call_function_entry kind_len plain_len entry_len (args_len1 _) ?_
  unfold Builtin.«len»
  refine wpAny_bind (m := oneArg "len" _) (wpAny_pure ?_)
  refine wpAny_bind (m := callSpecial? (.ref a) (Str.ofString "__len__")) (special_fn X I hf fo (wpAny_mono h (fun r s' hr => ?_) fun _ _ z => z))
  obtain ⟨n, u, rfl, h0, h1, hq⟩ := hr
  refine wpAny_bind (wpAny_holding (wpAny_pure ?_))
  refine wpAny_bind (wpAny_letGo ?_)
  show wpAny _ _ (if n < 0 then _ else _) _ _ _
  rw [if_neg (by omega)]
  show wpAny _ _ (if n ≥ 2 ^ 63 then _ else _) _ _ _
  rw [if_neg (by omega)]
  exact wpAny_bind (wpAny_mkInt (wpAny_pure ⟨_, rfl, hq⟩))
def rLenI (C : Addr) (sp : Sp) : List V → Hp → VK → Prop := fun xs H Q => ∃ a dx fs, xs = [.ref a] ∧ H a = some (.ins C dx fs) ∧ sp [.ref a] H (fun v H2 => ∃ n : Int, v = .int n ∧ 0 ≤ n ∧ n < 2 ^ 63 ∧ Q (.int n) H2) fun _ _ _ => False
theorem call_lenI {X : Cx} {CX : CXT} {k : Nat} {C f : Addr} {fd : FuncData} {x : Str} {sp : Sp} (hm : Meth X.K C "__len__" f) (F : FnG X.prog X.w X.K X.mg X.base CX k f fd [x] sp) (hr : RoomG (k + 1) X.A) (hb : Binds X.K fd [x] []) (hx : ∀ σ, PassesAt CX X σ fun _ _ _ => False) :
    CallR X (.builtin "len") (rLenI C sp) := fun pins s σ H xs us Q I r h => by
  obtain ⟨a, dx, fs, rfl, ea, h⟩ := h
  obtain ⟨u, rfl, rx⟩ := vals1 r
  cases rx
  obtain ⟨mA, O, _⟩ := ins_get I.hok ea
  obtain ⟨od, J, _⟩ := O.look
  refine len_fn I.kIn J hm.at_ (beq_iff_eq.mp hm.fn) ?_
  have bind := hb s [.ref a] I.kIn rfl
  refine wpAny_call (codeAny_mono (F.run X.A.in1 X.stack s H _ _ _ _ (fun _ _ _ => False) hr.in1 I.env0.in1 bind (show Vals [V.ref a] [Value.ref a] from .cons rfl .nil) h) fun out s' got => ?_)
  match out, got with
  | .error e, got => exact hx σ pins H s e s' I got
  | .ok (.ret u), got =>
    obtain ⟨v, H', J', rv, n, ev, n0, n1, q⟩ := I.after got
    subst ev
    obtain ⟨t, rfl⟩ := rv
    exact ⟨n, t, rfl, n0, n1, .int n, H', J'.tok _, ⟨_, rfl⟩, q⟩
end Hx

/-! sep.join(reversed(xs)), xs a list of texts -/
namespace Hx
open PySem PySem.Spec PyProof.Rows L2 Builtin Builtin.Str
section
variable {prog : Program} {w : World} {A : Around} {E : Value → Shared → Prop} {s : Shared}
end
section
variable {X : Cx}
end
end Hx

/-! min of four ints; min of a list of ints with default. -/
namespace Hx
open PySem PySem.Spec PyProof.Rows L2
section
variable {prog : Program} {w : World} {A : Around} {E : Value → Shared → Prop} {s : Shared}
end
section
variable {X : Cx}
end
end Hx

/-! sorted and min of a list of data of one make. -/
namespace Hx
open PySem PySem.Spec PyProof.Rows L2
section
variable {X : Cx}
end
end Hx

/-! A layer of readings by value over the hand layer: tuples, frozen lists, frozen instances are values; owned lists and instances stand in a store. -/
namespace Dv
open PySem L2

inductive D where
  | non | bl (b : Bool) | int (i : Int) | str (x : Str)
  | tup (xs : List D) | lst (xs : List D) | tupX (xs : List D)
  | inst (C : Str) (ns : List Str) (xs : List D)
  | obj (a : Addr) | ty (n : String)
  | exc (a : Addr) (od : Option Addr) (ns : List Str) (xs : List D)
  | fn (x : Str)

inductive SO where
  | lst (xs : List D)
  | ins (C : Str) (ns : List Str) (xs : List D)
  | tab (q : Str)

abbrev Sd := Addr → Option SO
def upS (S : Sd) (a : Addr) (o : SO) : Sd := fun b => if b = a then some o else S b
def del (S : Sd) (a : Addr) : Sd := fun b => if b = a then none else S b
theorem upS_same {S : Sd} {a : Addr} {o : SO} : upS S a o a = some o := by unfold upS; rw [if_pos rfl]
theorem upS_ne {S : Sd} {a b : Addr} {o : SO} (h : b ≠ a) : upS S a o b = S b := by unfold upS; rw [if_neg h]
theorem upS_upS {S : Sd} {a : Addr} {o u : SO} : upS (upS S a o) a u = upS S a u := by
  funext b; unfold upS; split <;> rfl
theorem del_same {S : Sd} {a : Addr} : del S a a = none := by unfold del; rw [if_pos rfl]
theorem del_ne {S : Sd} {a b : Addr} (h : b ≠ a) : del S a b = S b := by unfold del; rw [if_neg h]
theorem del_upS {S : Sd} {a : Addr} {o : SO} (h : S a = none) : del (upS S a o) a = S := by
  funext b
  by_cases e : b = a
  · rw [e, del_same, h]
  · rw [del_ne e, upS_ne e]

/-- a list of the written part -/
def KL (K : PySem.W.Frag) (a : Addr) (xs : List V) : Prop :=
  ∃ (o : Obj) (its : Array Value) (n : Nat), K.lookup a = some o ∧ o.cls = .type "list" ∧ o.dict = none ∧ o.data = .seq its n ∧ its.size ≤ sizeLine ∧ Vals xs its.toList

/-- the class that a global of the text names -/
def ClsAt (K : PySem.W.Frag) (n : Str) (C : Addr) : Prop := PySem.W.nsIn K mainGlobals n = some (some (.ref C))
theorem ClsAt.one {K : PySem.W.Frag} {n : Str} {C D : Addr} (h : ClsAt K n C) (g : ClsAt K n D) : C = D := by
  unfold ClsAt at h g
  rw [h] at g
  cases g
  rfl
mutual
def Rp (K : PySem.W.Frag) (H : Hp) (S : Sd) : D → V → Prop
  | .non, v => v = .non
  | .bl b, v => v = .bl b
  | .int i, v => v = .int i
  | .str x, v => v = .str x
  | .tup ds, v => ∃ a vs, v = .ref a ∧ SqT K H a vs ∧ RpL K H S ds vs
  | .lst ds, v => ∃ a vs, v = .ref a ∧ ((Rd H a (.lst vs) ∧ S a = none) ∨ KL K a vs) ∧ RpL K H S ds vs
  | .inst n ns ds, v => ∃ C a dx fs, ClsAt K n C ∧ v = .ref a ∧ H a = some (.ins C dx fs) ∧ S a = none ∧ fs.map Prod.fst = ns ∧ RpL K H S ds (fs.map Prod.snd)
  | .tupX ds, v => ∃ a o vs, v = .ref a ∧ H a = some (.frz o (.tup vs)) ∧ o.dict = none ∧ RpL K H S ds vs
  | .obj a, v => v = .ref a
  | .ty n, v => v = .ty n
  | .fn x, v => ∃ f, v = .ref f ∧ PySem.W.nsIn K mainGlobals x = some (some (.ref f))
  | .exc a od ns ds, v => v = .ref a ∧ (od = none → ns = []) ∧ (∀ dx, od = some dx → ∃ fs, H dx = some (.xd fs) ∧ S dx = none ∧ (ns = [] ∨ (fs.map Prod.fst = ns ∧ RpL K H S ds (fs.map Prod.snd))))
def RpL (K : PySem.W.Frag) (H : Hp) (S : Sd) : List D → List V → Prop
  | [], vs => vs = []
  | d :: ds, vs => ∃ v r, vs = v :: r ∧ Rp K H S d v ∧ RpL K H S ds r
end

def SoOk (K : PySem.W.Frag) (H : Hp) (S : Sd) (a : Addr) : SO → Prop
  | .lst ds => ∃ vs, H a = some (.lst vs) ∧ RpL K H S ds vs
  | .ins n ns ds => ∃ C dx fs, ClsAt K n C ∧ H a = some (.ins C dx fs) ∧ fs.map Prod.fst = ns ∧ RpL K H S ds (fs.map Prod.snd)
  | .tab q => LamX.TabS H a q
def RelS (K : PySem.W.Frag) (H : Hp) (S : Sd) : Prop := ∀ a o, S a = some o → SoOk K H S a o
/-- what is not owned stays, and stays not owned -/
def Step (H : Hp) (S : Sd) (H' : Hp) (S' : Sd) : Prop := ∀ a o, H a = some o → S a = none → H' a = some o ∧ S' a = none

section
variable {K : PySem.W.Frag} {H H' H2 : Hp} {S S' S2 : Sd} {a p : Addr} {ds es : List D} {vs ws : List V} {d : D} {v : V}

theorem RelS.some_h (R : RelS K H S) {o : SO} (h : S a = some o) : (∃ vs, H a = some (.lst vs)) ∨ (∃ C dx fs, H a = some (.ins C dx fs)) ∨ ∃ ps, H a = some (.tbl ps) := by
  have x := R a o h
  cases o with
  | lst ds => obtain ⟨vs, e, _⟩ := x; exact .inl ⟨vs, e⟩
  | ins C ns ds => obtain ⟨C, dx, fs, _, e, _⟩ := x; exact .inr (.inl ⟨C, dx, fs, e⟩)
  | tab q => obtain ⟨ps, e, _⟩ := x; exact .inr (.inr ⟨ps, e⟩)
theorem RelS.freeOf (R : RelS K H S) (h1 : ∀ vs, H a ≠ some (.lst vs)) (h2 : ∀ C dx fs, H a ≠ some (.ins C dx fs)) (h3 : ∀ ps, H a ≠ some (.tbl ps)) : S a = none := by
  cases e : S a with
  | none => rfl
  | some o =>
    rcases R.some_h e with ⟨vs, q⟩ | ⟨C, dx, fs, q⟩ | ⟨ps, q⟩
    · exact absurd q (h1 vs)
    · exact absurd q (h2 C dx fs)
    · exact absurd q (h3 ps)
theorem RelS.free (R : RelS K H S) (h : H a = none) : S a = none := R.freeOf (fun _ q => by rw [h] at q; cases q) (fun _ _ _ q => by rw [h] at q; cases q) fun _ q => by rw [h] at q; cases q
theorem RelS.tupFree (R : RelS K H S) (h : H a = some (.tup vs)) : S a = none := R.freeOf (fun _ q => by rw [h] at q; cases q) (fun _ _ _ q => by rw [h] at q; cases q) fun _ q => by rw [h] at q; cases q
theorem RelS.frzFree {o : Obj} {u : HO} (R : RelS K H S) (h : H a = some (.frz o u)) : S a = none := R.freeOf (fun _ q => by rw [h] at q; cases q) (fun _ _ _ q => by rw [h] at q; cases q) fun _ q => by rw [h] at q; cases q
theorem RelS.codeFree {q : Str} (R : RelS K H S) (h : H a = some (LamX.CodeO a q)) : S a = none := R.freeOf (fun _ z => by rw [h] at z; cases z) (fun _ _ _ z => by rw [h] at z; cases z) fun ps z => by rw [h] at z; exact LamX.codeO_ne ps (Option.some.inj z)

theorem Step.refl : Step H S H S := fun _ _ h1 h2 => ⟨h1, h2⟩
theorem Step.trans (s1 : Step H S H' S') (s2 : Step H' S' H2 S2) : Step H S H2 S2 := fun b o h1 h2 =>
  let ⟨q1, q2⟩ := s1 b o h1 h2
  s2 b o q1 q2
theorem step_rdT (R : RelS K H S) (s : Step H S H' S') (h : Rd H a (.tup vs)) : Rd H' a (.tup vs) := by
  rcases h with h | ⟨o, h⟩
  · exact .inl (s a _ h (R.tupFree h)).1
  · exact .inr ⟨o, (s a _ h (R.frzFree h)).1⟩
theorem step_sqT (R : RelS K H S) (s : Step H S H' S') (h : SqT K H a vs) : SqT K H' a vs := by
  rcases h with h | h
  · exact .inl (step_rdT R s h)
  · exact .inr h
theorem step_rdL (s : Step H S H' S') (h : Rd H a (.lst vs)) (n : S a = none) : Rd H' a (.lst vs) ∧ S' a = none := by
  rcases h with h | ⟨o, h⟩
  · exact ⟨.inl (s a _ h n).1, (s a _ h n).2⟩
  · exact ⟨.inr ⟨o, (s a _ h n).1⟩, (s a _ h n).2⟩

mutual
theorem rp_step (R : RelS K H S) (s : Step H S H' S') : ∀ (d : D) (v : V), Rp K H S d v → Rp K H' S' d v
  | .non, v, h => h
  | .bl _, v, h => h
  | .int _, v, h => h
  | .str _, v, h => h
  | .tup ds, v, h => by
    obtain ⟨a, vs, e, q, r⟩ := h
    exact ⟨a, vs, e, step_sqT R s q, rpL_step R s ds vs r⟩
  | .lst ds, v, h => by
    obtain ⟨a, vs, e, q, r⟩ := h
    refine ⟨a, vs, e, ?_, rpL_step R s ds vs r⟩
    rcases q with ⟨q, n⟩ | q
    · exact .inl (step_rdL s q n)
    · exact .inr q
  | .inst C ns ds, v, h => by
    obtain ⟨C, a, dx, fs, c, e, q, n, hn, r⟩ := h
    exact ⟨C, a, dx, fs, c, e, (s a _ q n).1, (s a _ q n).2, hn, rpL_step R s ds _ r⟩
  | .tupX ds, v, h => by
    obtain ⟨a, o, vs, e, q, n, r⟩ := h
    exact ⟨a, o, vs, e, (s a _ q (R.frzFree q)).1, n, rpL_step R s ds vs r⟩
  | .obj _, v, h => h
  | .ty _, v, h => h
  | .fn _, v, h => h
  | .exc a od ns ds, v, h => by
    obtain ⟨e, h0, h1⟩ := h
    refine ⟨e, h0, fun dx ed => ?_⟩
    obtain ⟨fs, q, n, r⟩ := h1 dx ed
    exact ⟨fs, (s dx _ q n).1, (s dx _ q n).2, r.imp id fun ⟨e1, r1⟩ => ⟨e1, rpL_step R s ds _ r1⟩⟩
theorem rpL_step (R : RelS K H S) (s : Step H S H' S') : ∀ (ds : List D) (vs : List V), RpL K H S ds vs → RpL K H' S' ds vs
  | [], vs, h => h
  | d :: ds, vs, h => by
    obtain ⟨v, r, e, h1, h2⟩ := h
    exact ⟨v, r, e, rp_step R s d v h1, rpL_step R s ds r h2⟩
end

theorem rpL_nil : RpL K H S [] [] := rfl
theorem rpL_cons (h : Rp K H S d v) (r : RpL K H S ds vs) : RpL K H S (d :: ds) (v :: vs) := ⟨v, vs, rfl, h, r⟩
theorem rpL_len : ∀ {ds : List D} {vs : List V}, RpL K H S ds vs → ds.length = vs.length
  | [], vs, h => by
    have e : vs = [] := h
    rw [e]; rfl
  | d :: ds, vs, h => by
    obtain ⟨v, r, e, _, h2⟩ := h
    rw [e, List.length_cons, List.length_cons, rpL_len h2]
theorem rpL_get : ∀ {ds : List D} {vs : List V} {i : Nat} {d : D}, RpL K H S ds vs → ds[i]? = some d → ∃ v, vs[i]? = some v ∧ Rp K H S d v
  | [], _, i, d, _, e => by simp at e
  | d0 :: ds, vs, 0, d, h, e => by
    obtain ⟨v, r, e1, h1, h2⟩ := h
    simp at e
    subst e e1
    exact ⟨v, by simp, h1⟩
  | d0 :: ds, vs, i + 1, d, h, e => by
    obtain ⟨v, r, e1, h1, h2⟩ := h
    subst e1
    obtain ⟨w, q1, q2⟩ := rpL_get (i := i) h2 (by simpa using e)
    exact ⟨w, by simpa using q1, q2⟩
theorem rpL_app : ∀ {ds : List D} {vs : List V}, RpL K H S ds vs → RpL K H S es ws → RpL K H S (ds ++ es) (vs ++ ws)
  | [], vs, h, k => by
    have e : vs = [] := h
    subst e
    exact k
  | d :: ds, vs, h, k => by
    obtain ⟨v, r, e, h1, h2⟩ := h
    subst e
    exact ⟨v, r ++ ws, rfl, h1, rpL_app h2 k⟩
theorem rpL_take : ∀ {ds : List D} {vs : List V} (n : Nat), RpL K H S ds vs → RpL K H S (ds.take n) (vs.take n)
  | [], vs, n, h => by
    have e : vs = [] := h
    subst e
    simp [RpL]
  | d :: ds, vs, 0, h => by simp [RpL]
  | d :: ds, vs, n + 1, h => by
    obtain ⟨v, r, e, h1, h2⟩ := h
    subst e
    exact ⟨v, r.take n, rfl, h1, rpL_take n h2⟩
theorem rpL_drop : ∀ {ds : List D} {vs : List V} (n : Nat), RpL K H S ds vs → RpL K H S (ds.drop n) (vs.drop n)
  | [], vs, n, h => by
    have e : vs = [] := h
    subst e
    simp [RpL]
  | d :: ds, vs, 0, h => h
  | d :: ds, vs, n + 1, h => by
    obtain ⟨v, r, e, h1, h2⟩ := h
    subst e
    exact rpL_drop n h2
theorem rpL_set : ∀ {ds : List D} {vs : List V} (n : Nat), RpL K H S ds vs → Rp K H S d v → RpL K H S (ds.set n d) (vs.set n v)
  | [], vs, n, h, k => by
    have e : vs = [] := h
    subst e
    simp [RpL]
  | d0 :: ds, vs, 0, h, k => by
    obtain ⟨w, r, e, h1, h2⟩ := h
    subst e
    exact ⟨v, r, rfl, k, h2⟩
  | d0 :: ds, vs, n + 1, h, k => by
    obtain ⟨w, r, e, h1, h2⟩ := h
    subst e
    exact ⟨w, r.set n v, rfl, h1, rpL_set n h2 k⟩
theorem soOk_step (R : RelS K H S) (s : Step H S H' S') {o : SO} (h : SoOk K H S a o) (k : ∀ u, H a = some u → H' a = some u) : SoOk K H' S' a o := by
  cases o with
  | lst ds => obtain ⟨vs, e, r⟩ := h; exact ⟨vs, k _ e, rpL_step R s _ _ r⟩
  | ins C ns ds => obtain ⟨C, dx, fs, c, e, n, r⟩ := h; exact ⟨C, dx, fs, c, k _ e, n, rpL_step R s _ _ r⟩
  | tab q =>
    obtain ⟨ps, e, t, c⟩ := h
    refine ⟨ps, k _ e, t, fun pos cv hc => ?_⟩
    obtain ⟨c', e1, e2⟩ := c pos cv hc
    exact ⟨c', e1, (s c' _ e2 (R.codeFree e2)).1⟩

/-- a new object, not owned -/
theorem step_new {o : HO} (h : H p = none) : Step H S (upd H p o) S := fun b u h1 h2 => ⟨by rw [upd_ne (ne_of_none h1 h)]; exact h1, h2⟩
theorem rel_new {o : HO} (R : RelS K H S) (h : H p = none) : RelS K (upd H p o) S := fun b u e =>
  soOk_step R (step_new h) (R b u e) fun w hw => by rw [upd_ne (ne_of_none hw h)]; exact hw
/-- a new object, owned -/
theorem step_own {o : HO} {u : SO} (h : H p = none) : Step H S (upd H p o) (upS S p u) := fun b w h1 h2 => by
  have n := ne_of_none h1 h
  exact ⟨by rw [upd_ne n]; exact h1, by rw [upS_ne n]; exact h2⟩
theorem rel_own {o : HO} {u : SO} (R : RelS K H S) (h : H p = none) (k : SoOk K (upd H p o) (upS S p u) p u) : RelS K (upd H p o) (upS S p u) := fun b w e => by
  by_cases hb : b = p
  · subst hb
    rw [upS_same] at e
    cases e
    exact k
  · rw [upS_ne hb] at e
    exact soOk_step R (step_own h) (R b w e) fun x hx => by rw [upd_ne hb]; exact hx
/-- an owned object is changed -/
theorem step_set {o : HO} {u u0 : SO} (h : S a = some u0) : Step H S (upd H a o) (upS S a u) := fun b w h1 h2 => by
  have n : b ≠ a := fun e => by rw [e, h] at h2; cases h2
  exact ⟨by rw [upd_ne n]; exact h1, by rw [upS_ne n]; exact h2⟩
theorem rel_set {o : HO} {u u0 : SO} (R : RelS K H S) (h : S a = some u0) (k : SoOk K (upd H a o) (upS S a u) a u) : RelS K (upd H a o) (upS S a u) := fun b w e => by
  by_cases hb : b = a
  · subst hb
    rw [upS_same] at e
    cases e
    exact k
  · rw [upS_ne hb] at e
    exact soOk_step R (step_set h) (R b w e) fun x hx => by rw [upd_ne hb]; exact hx
/-- an owned object is let go -/
theorem step_del : Step H S H (del S a) := fun b w h1 h2 => ⟨h1, by
  by_cases e : b = a
  · rw [e]; exact del_same
  · rw [del_ne e]; exact h2⟩
theorem rel_del (R : RelS K H S) : RelS K H (del S a) := fun b w e => by
  by_cases hb : b = a
  · rw [hb, del_same] at e; cases e
  · rw [del_ne hb] at e
    exact soOk_step R step_del (R b w e) fun x hx => hx
theorem rp_frozen (R : RelS K H S) (h : S a = some (.lst ds)) : Rp K H (del S a) (.lst ds) (.ref a) := by
  obtain ⟨vs, e, r⟩ := R a _ h
  exact ⟨a, vs, rfl, .inl ⟨.inl e, del_same⟩, rpL_step R step_del _ _ r⟩
theorem rp_frozenI {C : Str} {ns : List Str} (R : RelS K H S) (h : S a = some (.ins C ns ds)) : Rp K H (del S a) (.inst C ns ds) (.ref a) := by
  obtain ⟨C, dx, fs, c, e, n, r⟩ := R a _ h
  exact ⟨C, a, dx, fs, c, rfl, e, del_same, n, rpL_step R step_del _ _ r⟩
end

/-! ### the state by values -/
abbrev Si := List (Option D)
abbrev DK := D → Sd → Prop
abbrev TED := Si → Sd → DK → Prop
abbrev TTD := Si → Sd → (Bool → Sd → Prop) → Prop
abbrev TAD := Si → Sd → (List D → Sd → Prop) → Prop
structure EndsD where
  nx : Si → Sd → Prop
  rt : DK
  bk : Si → Sd → Prop := fun _ _ => False
  ct : Si → Sd → Prop := fun _ _ => False
abbrev TSD := EndsD → Si → Sd → Prop
/-- an exception by values: its class, its own fields -/
structure Xd where
  cls : Str
  ns : List Str
  xs : List D
abbrev XKD := Xd → Sd → Prop
abbrev WXD := Xd → Si → Sd → Prop

structure Ok (K : PySem.W.Frag) (H : Hp) (S : Sd) (fr : List (V × D)) (σd : Si) (σ : L2.St) : Prop where
  rel : RelS K H S
  fr : ∀ p ∈ fr, Rp K H S p.2 p.1
  len : σd.length = σ.length
  si : ∀ (i : Nat) (d : D), σd[i]? = some (some d) → ∃ v, σ[i]? = some (some v) ∧ Rp K H S d v
/-- the exception's object: its class by the module's name, its own dict bears its fields -/
def RpX (K : PySem.W.Frag) (H : Hp) (S : Sd) (x : Xd) (cls : Value) (od : Option Addr) : Prop :=
  PySem.W.nsIn K mainGlobals x.cls = some (some cls) ∧ (od = none → x.ns = []) ∧ (∀ dx, od = some dx → ∃ fs, H dx = some (.xd fs) ∧ S dx = none ∧ (x.ns = [] ∨ (fs.map Prod.fst = x.ns ∧ RpL K H S x.xs (fs.map Prod.snd))))
/-- what is wished of exceptions: by the heap, by values -/
structure Wi where
  V : L2.WX
  D : WXD
abbrev W0 : Wi := ⟨fun _ _ _ _ => False, fun _ _ _ => False⟩
def Cl (K : PySem.W.Frag) (W : Wi) (fr : List (V × D)) : Prop := ∀ σd σ H S cls od x, Ok K H S fr σd σ → RpX K H S x cls od → W.D x σd S → W.V cls od σ H
theorem Cl.zero {K : PySem.W.Frag} {fr : List (V × D)} : Cl K W0 fr := fun _ _ _ _ _ _ _ _ _ h => h

section
variable {K : PySem.W.Frag} {H H' : Hp} {S S' : Sd} {fr : List (V × D)} {σd : Si} {σ : L2.St} {d : D} {v : V} {W : Wi}
theorem Ok.step (o : Ok K H S fr σd σ) (s : Step H S H' S') (r : RelS K H' S') : Ok K H' S' fr σd σ :=
  ⟨r, fun p hp => rp_step o.rel s _ _ (o.fr p hp), o.len, fun i d e => let ⟨v, h1, h2⟩ := o.si i d e; ⟨v, h1, rp_step o.rel s _ _ h2⟩⟩
theorem Ok.cons (o : Ok K H S fr σd σ) (h : Rp K H S d v) : Ok K H S ((v, d) :: fr) σd σ :=
  ⟨o.rel, fun p hp => by
    rcases List.mem_cons.mp hp with e | hp
    · rw [e]; exact h
    · exact o.fr p hp, o.len, o.si⟩
theorem Ok.tail {q : V × D} (o : Ok K H S (q :: fr) σd σ) : Ok K H S fr σd σ := ⟨o.rel, fun p hp => o.fr p (List.mem_cons_of_mem _ hp), o.len, o.si⟩
theorem Ok.head {q : V × D} (o : Ok K H S (q :: fr) σd σ) : Rp K H S q.2 q.1 := o.fr q List.mem_cons_self
theorem Ok.set (o : Ok K H S fr σd σ) (h : Rp K H S d v) (i : Nat) : Ok K H S fr (σd.set i (some d)) (σ.set i (some v)) := by
  refine ⟨o.rel, o.fr, by rw [List.length_set, List.length_set]; exact o.len, fun j e q => ?_⟩
  by_cases hj : i = j
  · subst hj
    have hl : i < σd.length := by
      rcases Nat.lt_or_ge i σd.length with z | z
      · exact z
      · have w : (σd.set i (some d))[i]? = none := List.getElem?_eq_none (by rw [List.length_set]; exact z)
        rw [w] at q; cases q
    rw [List.getElem?_set_self hl] at q
    cases q
    exact ⟨v, List.getElem?_set_self (by rw [← o.len]; exact hl), h⟩
  · rw [List.getElem?_set_ne hj] at q
    obtain ⟨w, h1, h2⟩ := o.si j e q
    exact ⟨w, by rw [List.getElem?_set_ne hj]; exact h1, h2⟩
theorem Ok.gone (o : Ok K H S fr σd σ) (i : Nat) (w : Option V) : Ok K H S fr (σd.set i none) (σ.set i w) := by
  refine ⟨o.rel, o.fr, by rw [List.length_set, List.length_set]; exact o.len, fun j e q => ?_⟩
  by_cases hj : i = j
  · subst hj
    rcases Nat.lt_or_ge i σd.length with z | z
    · rw [List.getElem?_set_self z] at q; cases q
    · have w : (σd.set i none)[i]? = none := List.getElem?_eq_none (by rw [List.length_set]; exact z)
      rw [w] at q; cases q
  · rw [List.getElem?_set_ne hj] at q
    obtain ⟨w, h1, h2⟩ := o.si j e q
    exact ⟨w, by rw [List.getElem?_set_ne hj]; exact h1, h2⟩
theorem Cl.tail {q : V × D} (c : Cl K W fr) : Cl K W (q :: fr) := fun σd σ H S cls od x o => c σd σ H S cls od x o.tail

/-! ### readings by values, lifted -/
def upE (K : PySem.W.Frag) (W : Wi) (t : TED) : TE := fun σ H Qv => ∃ σd S fr Qd, Ok K H S fr σd σ ∧ Cl K W fr ∧ t σd S Qd ∧ ∀ v d H' S', Ok K H' S' fr σd σ → Rp K H' S' d v → Qd d S' → Qv v H'
def upT (K : PySem.W.Frag) (W : Wi) (t : TTD) : TT := fun σ H Qv => ∃ σd S fr Qd, Ok K H S fr σd σ ∧ Cl K W fr ∧ t σd S Qd ∧ ∀ b H' S', Ok K H' S' fr σd σ → Qd b S' → Qv b H'
def upA (K : PySem.W.Frag) (W : Wi) (t : TAD) : TA := fun σ H Qv => ∃ σd S fr Qd, Ok K H S fr σd σ ∧ Cl K W fr ∧ t σd S Qd ∧ ∀ vs ds H' S', Ok K H' S' fr σd σ → RpL K H' S' ds vs → Qd ds S' → Qv vs H'
structure EndOk (K : PySem.W.Frag) (fr : List (V × D)) (Dd : EndsD) (D : Ends) : Prop where
  nx : ∀ σd σ H S, Ok K H S fr σd σ → Dd.nx σd S → D.nx σ H
  rt : ∀ v d σd σ H S, Ok K H S fr σd σ → Rp K H S d v → Dd.rt d S → D.rt v H
  bk : ∀ σd σ H S, Ok K H S fr σd σ → Dd.bk σd S → D.bk σ H
  ct : ∀ σd σ H S, Ok K H S fr σd σ → Dd.ct σd S → D.ct σ H
def upSt (K : PySem.W.Frag) (W : Wi) (t : TSD) : TS := fun D σ H => ∃ σd S fr Dd, Ok K H S fr σd σ ∧ Cl K W fr ∧ t Dd σd S ∧ EndOk K fr Dd D
end

theorem PE.imp {X : Cx} {e : Expr} {t t' : TE} (h : PE X e t) (k : ∀ σ H Q, t' σ H Q → t σ H Q) : PE X e t' := ⟨fun pins s σ H Q I q => h.run pins s σ H Q I (k _ _ _ q)⟩
theorem PT.imp {X : Cx} {e : Expr} {t t' : TT} (h : PT X e t) (k : ∀ σ H Q, t' σ H Q → t σ H Q) : PT X e t' := ⟨fun pins s σ H Q I q => h.run pins s σ H Q I (k _ _ _ q)⟩
theorem PW.imp {X : Cx} {e : Expr} {t t' : TT} (h : PW X e t) (k : ∀ σ H Q, t' σ H Q → t σ H Q) : PW X e t' := ⟨fun wh pins s σ H Q I q => h.run wh pins s σ H Q I (k _ _ _ q)⟩
theorem PA.imp {X : Cx} {e : List Expr} {t t' : TA} (h : PA X e t) (k : ∀ σ H Q, t' σ H Q → t σ H Q) : PA X e t' := ⟨fun pos pins s σ H Q I q => h.run pos pins s σ H Q I (k _ _ _ q)⟩
theorem PS.imp {X : Cx} {e : Stmt} {t t' : TS} (h : PS X e t) (k : ∀ D σ H, t' D σ H → t D σ H) : PS X e t' := ⟨fun pins s σ H D I q => h.run pins s σ H D I (k _ _ _ q)⟩
theorem PSs.imp {X : Cx} {e : List Stmt} {t t' : TS} (h : PSs X e t) (k : ∀ D σ H, t' D σ H → t D σ H) : PSs X e t' := ⟨fun pins s σ H D I q => h.run pins s σ H D I (k _ _ _ q)⟩

structure DE (X : Cx) (W : Wi) (e : Expr) (t : TED) : Prop where
  p : PE X e (upE X.K W t)
structure DT (X : Cx) (W : Wi) (e : Expr) (t : TTD) : Prop where
  p : PT X e (upT X.K W t)
structure DW (X : Cx) (W : Wi) (e : Expr) (t : TTD) : Prop where
  p : PW X e (upT X.K W t)
structure DA (X : Cx) (W : Wi) (es : List Expr) (t : TAD) : Prop where
  p : PA X es (upA X.K W t)
structure DS (X : Cx) (W : Wi) (s : Stmt) (t : TSD) : Prop where
  p : PS X s (upSt X.K W t)
structure DB (X : Cx) (W : Wi) (s : List Stmt) (t : TSD) : Prop where
  p : PSs X s (upSt X.K W t)
end Dv

/-! Readings by value, 1: expressions, tests, operators, displays, subscripts. -/
namespace Dv
open PySem L2 PyProof.Rows

theorem sl_eq : sizeLine = 16777216 := sizeLine_eq
theorem sz_le {n : Nat} (h : n ≤ 16777216) : n ≤ sizeLine := by rw [sl_eq]; exact h
theorem sz_lt' {n : Nat} (h : n < 16777216) : n < sizeLine := by rw [sl_eq]; exact h

section
variable {X : Cx} {W : Wi} {a b c e : Expr} {ta tb tc : TED} {tA tB : TTD} {pos : Pos} {es : List Expr}

/-! ### names, constants -/
def dVar (i : Nat) : TED := fun σ S Q => match σ[i]? with
  | some (some d) => Q d S
  | _ => False
theorem dVar_of {i : Nat} {σ : Si} {S : Sd} {Q : DK} {d : D} (h : σ[i]? = some (some d)) : dVar i σ S Q = Q d S := by unfold dVar; rw [h]
theorem dVar_inv {i : Nat} {σ : Si} {S : Sd} {Q : DK} (h : dVar i σ S Q) : ∃ d, σ[i]? = some (some d) ∧ Q d S := by
  unfold dVar at h
  split at h
  · exact ⟨_, by assumption, h⟩
  · exact h.elim
theorem dv (i : Nat) {x : Str} {pos : Pos} (hN : X.N[i]? = some x := by rfl) (hv : Vis X.env.scope x := by first | exact Or.inl rfl | exact Or.inr (Or.inl rfl) | exact Or.inr (Or.inr rfl)) (hd : (x == ("__debug__" : Str)) = false := by decide)
    (hcd : (x == ("__classdict__" : Str)) = false := by decide) : DE X W (.Name x pos) (dVar i) :=
  ⟨PE.imp (pe_var hN hv hd hcd) fun σ H Q ⟨σd, S, fr, Qd, ok, cl, h, k⟩ => by
    obtain ⟨d, e, q⟩ := dVar_inv h
    obtain ⟨v, e2, r⟩ := ok.si i d e
    exact ⟨v, e2, k v d H S ok r q⟩⟩
def dC (d : D) : TED := fun _ S Q => Q d S
theorem de_c {v : V} {d : D} (h : PE X e (tC v)) (r : ∀ H S, Rp X.K H S d v) : DE X W e (dC d) :=
  ⟨PE.imp h fun σ H Q ⟨σd, S, fr, Qd, ok, cl, q, k⟩ => k v d H S ok (r H S) q⟩
theorem de_int {i j pos} : DE X W (.Constant (.int i) j pos) (dC (.int i)) := de_c pe_int fun _ _ => rfl
theorem de_bl {i j pos} : DE X W (.Constant (.bool i) j pos) (dC (.bl i)) := de_c pe_bl fun _ _ => rfl
theorem de_non {j pos} : DE X W (.Constant .none j pos) (dC .non) := de_c pe_non fun _ _ => rfl
theorem de_str {x j pos} : DE X W (.Constant (.str x) j pos) (dC (.str x)) := de_c pe_str fun _ _ => rfl
/-- a module's constant -/
theorem de_k {x : Str} {v : V} {d : D} {u : Value} {pos : Pos} (hg : Gl X x) (hm : X.mg x = some u) (r : RelV v u) (kr : ∀ H S, Rp X.K H S d v) (hd : (x == ("__debug__" : Str)) = false := by decide) : DE X W (.Name x pos) (dC d) := de_c (pe_glob hg hm r hd) kr
/-- a built-in class as a value -/
theorem de_ty {x : Str} {n : String} {pos : Pos} (hg : Gl X x) (hm : X.mg x = none) (hv : bootBuiltins x = some (.type n)) (hn : x ≠ "__name__" := by decide) (hd : (x == ("__debug__" : Str)) = false := by decide) : DE X W (.Name x pos) (dC (.ty n)) :=
  de_c (pe_bltn (v := .ty n) hg hm hv rfl hn hd) fun _ _ => rfl

/-! ### operators -/
abbrev RD2 := D → D → Sd → DK → Prop
def Lift2 (K : PySem.W.Frag) (r : R2) (rd : RD2) : Prop := ∀ H S fr σd σ x y dx dy Qv Qd, Ok K H S fr σd σ → Rp K H S dx x → Rp K H S dy y → rd dx dy S Qd →
  (∀ v d H' S', Ok K H' S' fr σd σ → Rp K H' S' d v → Qd d S' → Qv v H') → r x y H Qv
def OpD (X : Cx) (f : Value → Value → Sem Value) (rd : RD2) : Prop := ∃ r : R2, OpR X f r ∧ Lift2 X.K r rd
def dOp (rd : RD2) (ta tb : TED) : TED := fun σ S Q => ta σ S fun x S1 => tb σ S1 fun y S2 => rd x y S2 Q
theorem op2_lift {r : R2} {rd : RD2} (l : Lift2 X.K r rd) (σ : L2.St) (H : Hp) (Q : VK) (h : upE X.K W (dOp rd ta tb) σ H Q) : tOp r (upE X.K W ta) (upE X.K W tb) σ H Q := by
  obtain ⟨σd, S, fr, Qd, ok, cl, h, k⟩ := h
  refine ⟨σd, S, fr, _, ok, cl, h, fun x dx H1 S1 ok1 r1 h1 => ?_⟩
  refine ⟨σd, S1, (x, dx) :: fr, _, ok1.cons r1, cl.tail, h1, fun y dy H2 S2 ok2 r2 h2 => ?_⟩
  exact l H2 S2 fr σd σ x y dx dy Q Qd ok2.tail ok2.head r2 h2 k
theorem de_op {op : Operator} {rd : RD2} (ho : OpD X (binaryOp op) rd) (ha : DE X W a ta) (hb : DE X W b tb) : DE X W (.BinOp a op b pos) (dOp rd ta tb) := by
  obtain ⟨r, ho, l⟩ := ho
  exact ⟨PE.imp (pe_op ho ha.p hb.p) (op2_lift l)⟩
theorem de_cmp {op : CmpOp} {rd : RD2} (ho : OpD X (compareOp op) rd) (ha : DE X W a ta) (hb : DE X W b tb) (hm : behindInMarks op b = false) : DE X W (.Compare a [op] [b] pos) (dOp rd ta tb) := by
  obtain ⟨r, ho, l⟩ := ho
  exact ⟨PE.imp (pe_cmpR ho ha.p hb.p hm) (op2_lift l)⟩
/-- a value that is a truth, as a test -/
def dTest (t : TED) : TTD := fun σ S Q => t σ S fun x S1 => match x with
  | .bl k => Q k S1
  | _ => False
theorem test_lift {t : TED} (σ : L2.St) (H : Hp) (Q : Bool → Hp → Prop) (h : upT X.K W (dTest t) σ H Q) : tTest (upE X.K W t) σ H Q := by
  obtain ⟨σd, S, fr, Qd, ok, cl, h, k⟩ := h
  refine ⟨σd, S, fr, _, ok, cl, h, fun x dx H1 S1 ok1 r1 h1 => ?_⟩
  cases dx with
  | bl b => exact ⟨b, r1, k b H1 S1 ok1 h1⟩
  | _ => exact (show False from h1).elim
theorem tTest_mono {t t' : TE} (h : ∀ σ H Q, t' σ H Q → t σ H Q) (σ : L2.St) (H : Hp) (Q : Bool → Hp → Prop) (q : tTest t' σ H Q) : tTest t σ H Q := h σ H _ q
theorem dt_cmp {op : CmpOp} {rd : RD2} (ho : OpD X (compareOp op) rd) (ha : DE X W a ta) (hb : DE X W b tb) (hm : behindInMarks op b = false) : DT X W (.Compare a [op] [b] pos) (dTest (dOp rd ta tb)) := by
  obtain ⟨r, ho, l⟩ := ho
  exact ⟨PT.imp (pt_cmpR ho ha.p hb.p hm) fun σ H Q h => tTest_mono (op2_lift l) σ H Q (test_lift σ H Q h)⟩
/-- an expression whose value is a truth, as a test -/
theorem dt_val {t : TED} (h : DE X W e t) (he : ∀ whole, isTrue e X.env whole = (do let v ← whole; standAt e.pos; holding [v] (truthy v)) := by intro _; rfl) : DT X W e (dTest t) :=
  ⟨PT.imp (pt_val h.p he) fun σ H Q q => test_lift σ H Q q⟩
def dUn (rd : D → Sd → DK → Prop) (ta : TED) : TED := fun σ S Q => ta σ S fun x S1 => rd x S1 Q
def Lift1 (K : PySem.W.Frag) (r : V → Hp → VK → Prop) (rd : D → Sd → DK → Prop) : Prop := ∀ H S fr σd σ x dx Qv Qd, Ok K H S fr σd σ → Rp K H S dx x → rd dx S Qd →
  (∀ v d H' S', Ok K H' S' fr σd σ → Rp K H' S' d v → Qd d S' → Qv v H') → r x H Qv
theorem de_un {op : UnaryOp} {r : V → Hp → VK → Prop} {rd : D → Sd → DK → Prop} (ho : UnR X (unaryOp op) r) (l : Lift1 X.K r rd) (ha : DE X W a ta) : DE X W (.UnaryOp op a pos) (dUn rd ta) :=
  ⟨PE.imp (pe_un ho ha.p) fun σ H Q ⟨σd, S, fr, Qd, ok, cl, h, k⟩ => ⟨σd, S, fr, _, ok, cl, h, fun x dx H1 S1 ok1 r1 h1 => l H1 S1 fr σd σ x dx Q Qd ok1 r1 h1 k⟩⟩
def rdNeg : D → Sd → DK → Prop
  | .int i, S, Q => Q (.int (-i)) S
  | _, _, _ => False
theorem de_neg (ha : DE X W a ta) : DE X W (.UnaryOp .USub a pos) (dUn rdNeg ta) := de_un un_neg (fun H S fr σd σ x dx Qv Qd ok r h k => by
  cases dx with
  | int i => exact ⟨i, r, k _ (.int (-i)) H S ok rfl h⟩
  | _ => exact (show False from h).elim) ha

/-! ### and, or, not -/
def dAndV (ta tb : TED) : TED := fun σ S Q => ta σ S fun x S1 => match x with
  | .bl k => if k = true then tb σ S1 Q else Q (.bl false) S1
  | _ => False
def dOrV (ta tb : TED) : TED := fun σ S Q => ta σ S fun x S1 => match x with
  | .bl k => if k = true then Q (.bl true) S1 else tb σ S1 Q
  | _ => False
def dNotV (ta : TED) : TED := fun σ S Q => ta σ S fun x S1 => match x with
  | .bl k => Q (.bl (!k)) S1
  | _ => False
theorem de_one {op : BoolOp} (h : DE X W a ta) : DE X W (.BoolOp op [a] pos) ta := ⟨pe_one h.p⟩
theorem de_and {rest : List Expr} (ha : DE X W a ta) (hb : DE X W (.BoolOp .And (b :: rest) pos) tb) : DE X W (.BoolOp .And (a :: b :: rest) pos) (dAndV ta tb) :=
  ⟨PE.imp (pe_and ha.p hb.p) fun σ H Q ⟨σd, S, fr, Qd, ok, cl, h, k⟩ => ⟨σd, S, fr, _, ok, cl, h, fun x dx H1 S1 ok1 r1 h1 => by
    cases dx with
    | bl b =>
      refine ⟨b, r1, ?_⟩
      cases b with
      | true => exact (if_pos rfl : _ = _) ▸ ⟨σd, S1, fr, Qd, ok1, cl, (show tb σd S1 Qd from by simpa using h1), k⟩
      | false => exact (show Q (.bl false) H1 from k _ (.bl false) H1 S1 ok1 rfl (by simpa using h1))
    | _ => exact (show False from h1).elim⟩⟩
theorem de_not (ha : DE X W a ta) : DE X W (.UnaryOp .Not a pos) (dNotV ta) :=
  ⟨PE.imp (pe_not ha.p) fun σ H Q ⟨σd, S, fr, Qd, ok, cl, h, k⟩ => ⟨σd, S, fr, _, ok, cl, h, fun x dx H1 S1 ok1 r1 h1 => by
    cases dx with
    | bl b => exact ⟨b, r1, k _ (.bl (!b)) H1 S1 ok1 rfl h1⟩
    | _ => exact (show False from h1).elim⟩⟩
def dAnd (t u : TTD) : TTD := fun σ S Q => t σ S fun k S1 => if k = true then u σ S1 Q else Q false S1
def dOr (t u : TTD) : TTD := fun σ S Q => t σ S fun k S1 => if k = true then Q true S1 else u σ S1 Q
def dNot (t : TTD) : TTD := fun σ S Q => t σ S fun k S1 => Q (!k) S1
theorem DW.pt (h : DW X W e tA) : DT X W e tA := ⟨h.p.pt⟩
theorem dw_and1 (ha : DT X W a tA) : DW X W (.BoolOp .And [a] pos) tA := ⟨pw_and1 ha.p⟩
theorem dw_or1 (ha : DT X W a tA) : DW X W (.BoolOp .Or [a] pos) tA := ⟨pw_or1 ha.p⟩
theorem dw_and {rest : List Expr} (ha : DT X W a tA) (hb : DW X W (.BoolOp .And (b :: rest) pos) tB) : DW X W (.BoolOp .And (a :: b :: rest) pos) (dAnd tA tB) :=
  ⟨PW.imp (pw_and ha.p hb.p) fun σ H Q ⟨σd, S, fr, Qd, ok, cl, h, k⟩ => ⟨σd, S, fr, _, ok, cl, h, fun c H1 S1 ok1 h1 => by
    cases c with
    | true => exact (show upT X.K W tB σ H1 Q from ⟨σd, S1, fr, Qd, ok1, cl, (show tB σd S1 Qd from by simpa using h1), k⟩)
    | false => exact (show Q false H1 from k false H1 S1 ok1 (by simpa using h1))⟩⟩
theorem dw_or {rest : List Expr} (ha : DT X W a tA) (hb : DW X W (.BoolOp .Or (b :: rest) pos) tB) : DW X W (.BoolOp .Or (a :: b :: rest) pos) (dOr tA tB) :=
  ⟨PW.imp (pw_or ha.p hb.p) fun σ H Q ⟨σd, S, fr, Qd, ok, cl, h, k⟩ => ⟨σd, S, fr, _, ok, cl, h, fun c H1 S1 ok1 h1 => by
    cases c with
    | false => exact (show upT X.K W tB σ H1 Q from ⟨σd, S1, fr, Qd, ok1, cl, (show tB σd S1 Qd from by simpa using h1), k⟩)
    | true => exact (show Q true H1 from k true H1 S1 ok1 (by simpa using h1))⟩⟩
theorem dt_not (ha : DT X W a tA) : DT X W (.UnaryOp .Not a pos) (dNot tA) :=
  ⟨PT.imp (pt_not ha.p) fun σ H Q ⟨σd, S, fr, Qd, ok, cl, h, k⟩ => ⟨σd, S, fr, _, ok, cl, h, fun c H1 S1 ok1 h1 => k (!c) H1 S1 ok1 h1⟩⟩
def dIf (t : TTD) (ta tb : TED) : TED := fun σ S Q => t σ S fun k S1 => if k = true then ta σ S1 Q else tb σ S1 Q
/-! ### arguments, displays -/
def dNil : TAD := fun _ S Q => Q [] S
def dCons (ta : TED) (tr : TAD) : TAD := fun σ S Q => ta σ S fun x S1 => tr σ S1 fun xs S2 => Q (x :: xs) S2
theorem da_nil : DA X W [] dNil := ⟨PA.imp pa_nil fun σ H Q ⟨σd, S, fr, Qd, ok, cl, h, k⟩ => k [] [] H S ok rfl h⟩
theorem da_cons {tr : TAD} (ha : DE X W a ta) (hr : DA X W es tr) (hs : starEach (a :: es) X.env = (false, eval a X.env) :: starEach es X.env := by rfl) : DA X W (a :: es) (dCons ta tr) :=
  ⟨PA.imp (pa_cons ha.p hr.p hs) fun σ H Q ⟨σd, S, fr, Qd, ok, cl, h, k⟩ => ⟨σd, S, fr, _, ok, cl, h, fun x dx H1 S1 ok1 r1 h1 =>
    ⟨σd, S1, (x, dx) :: fr, _, ok1.cons r1, cl.tail, h1, fun vs ds H2 S2 ok2 r2 h2 => k (x :: vs) (dx :: ds) H2 S2 ok2.tail (rpL_cons ok2.head r2) h2⟩⟩⟩
def dTup (t : TAD) : TED := fun σ S Q => t σ S fun ds S1 => ds.length ≤ 16777216 ∧ Q (.tup ds) S1
def dLst (t : TAD) : TED := fun σ S Q => t σ S fun ds S1 => ds.length ≤ 16777216 ∧ Q (.lst ds) S1
/-- an owned list -/
def dLstO (t : TAD) : TED := fun σ S Q => t σ S fun ds S1 => ds.length ≤ 16777216 ∧ ∀ p, S1 p = none → Q (.obj p) (upS S1 p (.lst ds))
theorem rp_tupNew {K : PySem.W.Frag} {H : Hp} {S : Sd} {p : Addr} {vs : List V} {ds : List D} (R : RelS K H S) (hp : H p = none) (r : RpL K H S ds vs) : Rp K (upd H p (.tup vs)) S (.tup ds) (.ref p) :=
  ⟨p, vs, rfl, SqT.of upd_same, rpL_step R (step_new hp) _ _ r⟩
theorem rp_lstNew {K : PySem.W.Frag} {H : Hp} {S : Sd} {p : Addr} {vs : List V} {ds : List D} (R : RelS K H S) (hp : H p = none) (r : RpL K H S ds vs) : Rp K (upd H p (.lst vs)) S (.lst ds) (.ref p) :=
  ⟨p, vs, rfl, .inl ⟨.inl upd_same, R.free hp⟩, rpL_step R (step_new hp) _ _ r⟩
theorem Ok.new {K : PySem.W.Frag} {H : Hp} {S : Sd} {fr : List (V × D)} {σd : Si} {σ : L2.St} {p : Addr} {o : HO} (ok : Ok K H S fr σd σ) (hp : H p = none) : Ok K (upd H p o) S fr σd σ := ok.step (step_new hp) (rel_new ok.rel hp)
theorem soOk_new {K : PySem.W.Frag} {H : Hp} {S : Sd} {p : Addr} {vs : List V} {ds : List D} (R : RelS K H S) (hp : H p = none) (r : RpL K H S ds vs) : SoOk K (upd H p (.lst vs)) (upS S p (.lst ds)) p (.lst ds) :=
  ⟨vs, upd_same, rpL_step R (step_own hp) _ _ r⟩
theorem Ok.own {K : PySem.W.Frag} {H : Hp} {S : Sd} {fr : List (V × D)} {σd : Si} {σ : L2.St} {p : Addr} {vs : List V} {ds : List D} (ok : Ok K H S fr σd σ) (hp : H p = none) (r : RpL K H S ds vs) :
    Ok K (upd H p (.lst vs)) (upS S p (.lst ds)) fr σd σ := ok.step (step_own hp) (rel_own ok.rel hp (soOk_new ok.rel hp r))
theorem de_tup {x1 : Nat} {t : TAD} (h : DA X W es t) : DE X W (.Tuple es x1 pos) (dTup t) :=
  ⟨PE.imp (pe_tup h.p) fun σ H Q ⟨σd, S, fr, Qd, ok, cl, h, k⟩ => ⟨σd, S, fr, _, ok, cl, h, fun vs ds H1 S1 ok1 r1 h1 => ⟨sz_le (by rw [← rpL_len r1]; exact h1.1), fun p hp =>
    k (.ref p) (.tup ds) _ S1 (ok1.new hp) (rp_tupNew ok1.rel hp r1) h1.2⟩⟩⟩
theorem de_lst {t : TAD} (h : DA X W es t) : DE X W (.List es pos) (dLst t) :=
  ⟨PE.imp (pe_lst h.p) fun σ H Q ⟨σd, S, fr, Qd, ok, cl, h, k⟩ => ⟨σd, S, fr, _, ok, cl, h, fun vs ds H1 S1 ok1 r1 h1 => ⟨sz_le (by rw [← rpL_len r1]; exact h1.1), fun p hp =>
    k (.ref p) (.lst ds) _ S1 (ok1.new hp) (rp_lstNew ok1.rel hp r1) h1.2⟩⟩⟩
theorem de_lstO {t : TAD} (h : DA X W es t) : DE X W (.List es pos) (dLstO t) :=
  ⟨PE.imp (pe_lst h.p) fun σ H Q ⟨σd, S, fr, Qd, ok, cl, h, k⟩ => ⟨σd, S, fr, _, ok, cl, h, fun vs ds H1 S1 ok1 r1 h1 => ⟨sz_le (by rw [← rpL_len r1]; exact h1.1), fun p hp =>
    k (.ref p) (.obj p) _ (upS S1 p (.lst ds)) (ok1.own hp r1) rfl (h1.2 p (ok1.rel.free hp))⟩⟩⟩
end

/-! ### the arithmetic operators -/
/-- the items of a sequence -/
def itemsD (S : Sd) : D → Option (List D)
  | .tup ds => some ds
  | .lst ds => some ds
  | .obj a => match S a with
    | some (.lst ds) => some ds
    | _ => none
  | _ => none
section
variable {K : PySem.W.Frag} {H : Hp} {S : Sd} {fr : List (V × D)} {σd : Si} {σ : L2.St} {d : D} {v : V} {ds : List D}
/-- a list's items by the heap -/
theorem rp_list (R : RelS K H S) (h : Rp K H S (.lst ds) v) : ∃ a vs, v = .ref a ∧ SqL K H a vs ∧ RpL K H S ds vs := by
  obtain ⟨a, vs, e, q, r⟩ := h
  refine ⟨a, vs, e, ?_, r⟩
  rcases q with ⟨q, _⟩ | q
  · exact .inl q
  · exact .inr q
theorem rp_obj (R : RelS K H S) {a : Addr} (e : S a = some (.lst ds)) : ∃ vs, H a = some (.lst vs) ∧ RpL K H S ds vs := R a _ e
theorem rp_items (R : RelS K H S) (h : Rp K H S d v) (e : itemsD S d = some ds) : ∃ a vs, v = .ref a ∧ (SqL K H a vs ∨ SqT K H a vs) ∧ RpL K H S ds vs := by
  cases d with
  | tup xs =>
    cases e
    obtain ⟨a, vs, e, q, r⟩ := h
    exact ⟨a, vs, e, .inr q, r⟩
  | lst xs =>
    cases e
    obtain ⟨a, vs, e, q, r⟩ := rp_list R h
    exact ⟨a, vs, e, .inl q, r⟩
  | obj a =>
    have e' : (match S a with | some (.lst ds) => some ds | _ => none) = some ds := e
    split at e'
    · rename_i xs q
      cases e'
      obtain ⟨vs, q1, q2⟩ := rp_obj R q
      exact ⟨a, vs, h, .inl (.inl (.inl q1)), q2⟩
    · cases e'
  | _ => cases e
end

/-- the items of a list -/
def lstD (S : Sd) : D → Option (List D)
  | .lst ds => some ds
  | .obj a => match S a with
    | some (.lst ds) => some ds
    | _ => none
  | _ => none
theorem rp_lstD {K : PySem.W.Frag} {H : Hp} {S : Sd} {d : D} {v : V} {ds : List D} (R : RelS K H S) (h : Rp K H S d v) (e : lstD S d = some ds) : ∃ a vs, v = .ref a ∧ SqL K H a vs ∧ RpL K H S ds vs := by
  cases d with
  | lst xs =>
    cases e
    exact rp_list R h
  | obj a =>
    have e' : (match S a with | some (.lst ds) => some ds | _ => none) = some ds := e
    split at e'
    · rename_i xs q
      cases e'
      obtain ⟨vs, q1, q2⟩ := rp_obj R q
      exact ⟨a, vs, h, .inl (.inl q1), q2⟩
    · cases e'
  | _ => cases e
def catD (Q : DK) (S : Sd) : Option (List D) → Option (List D) → Prop
  | some a, some b => a.length + b.length ≤ 16777216 ∧ Q (.lst (a ++ b)) S
  | _, _ => False
theorem catD_inv {Q : DK} {S : Sd} : ∀ {o u : Option (List D)}, catD Q S o u → ∃ a b, o = some a ∧ u = some b ∧ a.length + b.length ≤ 16777216 ∧ Q (.lst (a ++ b)) S
  | some a, some b, h => ⟨a, b, rfl, rfl, h.1, h.2⟩
  | none, _, h => h.elim
  | some _, none, h => h.elim
def rdAdd : RD2 := fun x y S Q => match x, y with
  | .int i, .int j => Q (.int (i + j)) S
  | .int i, .bl k => Q (.int (i + b2i k)) S
  | .str x, .str y => x.length + y.length ≤ 16777216 ∧ Q (.str (x ++ y)) S
  | .tup x, .tup y => x.length + y.length ≤ 16777216 ∧ Q (.tup (x ++ y)) S
  | x, y => catD Q S (lstD S x) (lstD S y)
def rdSub : RD2
  | .int i, .int j, S, Q => Q (.int (i - j)) S
  | _, _, _, _ => False
def rdFdiv : RD2
  | .int i, .int j, S, Q => (j ≠ 0 ∧ j.natAbs.log2 < 9000) ∧ Q (.int (i.fdiv j)) S
  | _, _, _, _ => False
def rdMod : RD2
  | .int i, .int j, S, Q => j ≠ 0 ∧ Q (.int (i.fmod j)) S
  | _, _, _, _ => False
def rdPow : RD2
  | .int i, .int j, S, Q => (0 ≤ j ∧ ((i.natAbs.log2 : Int) + 1) * j ≤ 134217728) ∧ Q (.int (i ^ j.toNat)) S
  | _, _, _, _ => False
def rdShl : RD2
  | .int i, .int j, S, Q => (0 ≤ j ∧ j ≤ 1000000 ∧ i.natAbs < 2 ^ 64) ∧ Q (.int (i * 2 ^ j.toNat)) S
  | _, _, _, _ => False
section
variable {X : Cx}
theorem od_sub : OpD X (binaryOp .Sub) rdSub := ⟨_, op_sub, fun H S fr σd σ x y dx dy Qv Qd ok rx ry h k => by
  cases dx with
  | int i =>
    cases dy with
    | int j => exact ⟨i, j, rx, ry, k _ (.int (i - j)) H S ok rfl h⟩
    | _ => exact (show False from h).elim
  | _ => cases dy <;> exact (show False from h).elim⟩
theorem od_fdiv : OpD X (binaryOp .FloorDiv) rdFdiv := ⟨rI (fun _ j => j ≠ 0 ∧ j.natAbs.log2 < 9000) fun i j => .int (i.fdiv j), opI (fun i j t u s Q E hc q => floordiv_int hc.1 q (.inl (PyProof.noPylong_of_log2 hc.2))), fun H S fr σd σ x y dx dy Qv Qd ok rx ry h k => by
  cases dx with
  | int i =>
    cases dy with
    | int j => exact ⟨i, j, rx, ry, h.1, k _ (.int (i.fdiv j)) H S ok rfl h.2⟩
    | _ => exact (show False from h).elim
  | _ => cases dy <;> exact (show False from h).elim⟩
theorem od_mod : OpD X (binaryOp .Mod) rdMod := ⟨_, op_modN, fun H S fr σd σ x y dx dy Qv Qd ok rx ry h k => by
  cases dx with
  | int i =>
    cases dy with
    | int j => exact ⟨i, j, rx, ry, h.1, k _ (.int (i.fmod j)) H S ok rfl h.2⟩
    | _ => exact (show False from h).elim
  | _ => cases dy <;> exact (show False from h).elim⟩
theorem bits_le (x : Int) : Builtin.Int.intBits x ≤ x.natAbs.log2 + 1 := by
  unfold Builtin.Int.intBits
  split <;> omega
theorem od_pow : OpD X (binaryOp .Pow) rdPow := ⟨rI (fun i j => 0 ≤ j ∧ ((i.natAbs.log2 : Int) + 1) * j ≤ 134217728) fun i j => .int (i ^ j.toNat), opI (fun i j t u s Q E hc q => pow_int hc.1 (by
    have h1 := bits_le i
    have h2 : (Builtin.Int.intBits i : Int) * j ≤ ((i.natAbs.log2 : Int) + 1) * j := Int.mul_le_mul_of_nonneg_right (by omega) hc.1
    have h3 := hc.2
    have h4 : (2 : Int) ^ 27 = 134217728 := by decide
    omega) q), fun H S fr σd σ x y dx dy Qv Qd ok rx ry h k => by
  cases dx with
  | int i =>
    cases dy with
    | int j => exact ⟨i, j, rx, ry, h.1, k _ (.int (i ^ j.toNat)) H S ok rfl h.2⟩
    | _ => exact (show False from h).elim
  | _ => cases dy <;> exact (show False from h).elim⟩
theorem od_shl : OpD X (binaryOp .LShift) rdShl := ⟨_, op_shl, fun H S fr σd σ x y dx dy Qv Qd ok rx ry h k => by
  cases dx with
  | int i =>
    cases dy with
    | int j => exact ⟨i, j, rx, ry, h.1, k _ (.int (i * 2 ^ j.toNat)) H S ok rfl h.2⟩
    | _ => exact (show False from h).elim
  | _ => cases dy <;> exact (show False from h).elim⟩
/-- two lists, tracked or not -/
def rCatL (K : PySem.W.Frag) : R2 := fun x y H Q => ∃ l b xs zs, x = .ref l ∧ y = .ref b ∧ SqL K H l xs ∧ SqL K H b zs ∧ xs.length + zs.length ≤ sizeLine ∧ ∀ p, H p = none → Q (.ref p) (upd H p (.lst (xs ++ zs)))
theorem op_catL : OpR X (binaryOp .Add) (rCatL X.K) := by
  intro pins s σ H x y v u Q I rx ry h
  obtain ⟨l, b, xs, zs, rfl, rfl, hH, hB, hz, q⟩ := h
  cases rx
  cases ry
  obtain ⟨its, r, ⟨o1, n1, e1, c1, d1, f1⟩, z1⟩ := I.list hH
  obtain ⟨its2, r2, ⟨o2, n2, e2, c2, d2, f2⟩, z2⟩ := I.list hB
  obtain ⟨cls, dd, data, sl⟩ := o1
  obtain ⟨cls2, dd2, data2, sl2⟩ := o2
  simp only at c1 d1 f1 c2 d2 f2
  subst c1 d1 f1 c2 d2 f2
  have ea : its.toArray ++ its2.toArray = (its ++ its2).toArray := by simp
  have l1 := r.length
  have l2 := r2.length
  refine concat_meets ⟨_, e1, rfl⟩ ⟨_, e2, rfl⟩ noFill_list_add seq_list_add PySem.F.slot_list_add PySem.F.entry_list_add (PySem.F.args_list_add_2 _ _) (list_addW l b its.toArray its2.toArray n1 n2 none none sl sl2 (by simp only [List.size_toArray]; omega)) ⟨e1, e2, ?_⟩
  rw [ea]
  exact ⟨.ref _, _, I.lnew (t' := s.toks) (r.append r2) (by rw [List.length_append]; omega), rfl, q _ I.fresh⟩
theorem od_add : OpD X (binaryOp .Add) rdAdd := by
  refine ⟨_, (op_add (X := X)).or (op_add_ib.or (op_add_str.or (op_catA.or op_catL))), fun H S fr σd σ x y dx dy Qv Qd ok rx ry h k => ?_⟩
  have lists : catD Qd S (lstD S dx) (lstD S dy) → rCatL X.K x y H Qv := fun q => by
    obtain ⟨a, b, h1, h2, h3⟩ := catD_inv q
    obtain ⟨p, vs, e1, q1, r1⟩ := rp_lstD ok.rel rx h1
    obtain ⟨q, ws, e2, q2, r2⟩ := rp_lstD ok.rel ry h2
    exact ⟨p, q, vs, ws, e1, e2, q1, q2, by rw [← rpL_len r1, ← rpL_len r2, sl_eq]; exact h3.1, fun l hl => k _ (.lst (a ++ b)) _ S (ok.new hl) (rp_lstNew ok.rel hl (rpL_app r1 r2)) h3.2⟩
  cases dx with
  | int i =>
    cases dy with
    | int j => exact .inl ⟨i, j, rx, ry, k _ (.int (i + j)) H S ok rfl h⟩
    | bl j => exact .inr (.inl ⟨i, j, rx, ry, k _ (.int (i + b2i j)) H S ok rfl h⟩)
    | _ => exact (show False from h).elim
  | str i =>
    cases dy with
    | str j => exact .inr (.inr (.inl ⟨i, j, rx, ry, by rw [sl_eq]; exact h.1, k _ (.str (i ++ j)) H S ok rfl h.2⟩))
    | _ => exact (show False from h).elim
  | tup xs =>
    cases dy with
    | tup ys =>
      obtain ⟨p, vs, e1, q1, r1⟩ := rx
      obtain ⟨q, ws, e2, q2, r2⟩ := ry
      have h' : xs.length + ys.length ≤ 16777216 ∧ Qd (.tup (xs ++ ys)) S := h
      refine .inr (.inr (.inr (.inl ⟨p, q, vs, ws, e1, e2, q1, q2, by rw [← rpL_len r1, ← rpL_len r2, sl_eq]; exact h'.1, fun e => ?_, fun _ e => ?_, fun _ _ l hl => ?_⟩)))
      · subst e
        have e3 : xs = [] := List.length_eq_zero_iff.mp (rpL_len r1)
        subst e3
        exact k _ (.tup ys) H S ok ⟨q, ws, rfl, q2, r2⟩ h'.2
      · subst e
        have e3 : ys = [] := List.length_eq_zero_iff.mp (rpL_len r2)
        subst e3
        have q := h'.2
        rw [List.append_nil] at q
        exact k _ (.tup xs) H S ok ⟨p, vs, rfl, q1, r1⟩ q
      · exact k _ (.tup (xs ++ ys)) _ S (ok.new hl) (rp_tupNew ok.rel hl (rpL_app r1 r2)) h'.2
    | _ => exact (show False from h).elim
  | lst xs => exact .inr (.inr (.inr (.inr (lists (by cases dy <;> exact h)))))
  | obj p => exact .inr (.inr (.inr (.inr (lists (by cases dy <;> exact h)))))
  | non => exact (by cases dy <;> exact h : False).elim
  | bl b => exact (by cases dy <;> exact h : False).elim
  | tupX ds => exact (by cases dy <;> exact h : False).elim
  | inst C ns ds => exact (by cases dy <;> exact h : False).elim
  | ty n => exact (by cases dy <;> exact h : False).elim
  | exc a od ns xs => exact (by cases dy <;> exact h : False).elim
  | fn x => exact (by cases dy <;> exact h : False).elim
end
end Dv

/-! Readings by value, 2: equality, order, chains, in, subscripts, slices, calls, built-ins. -/
namespace Dv
open PySem L2 PyProof.Rows

/-! ### plain data -/
mutual
def isData : D → Bool
  | .non => true | .bl _ => true | .int _ => true | .str _ => true
  | .tup ds => isDataL ds
  | .lst ds => isDataL ds
  | _ => false
def isDataL : List D → Bool
  | [] => true
  | d :: ds => isData d && isDataL ds
end
mutual
def pd : D → PyData
  | .bl b => .bool b | .int i => .int i | .str x => .str x
  | .tup ds => .tuple (pdL ds)
  | .lst ds => .list (pdL ds)
  | _ => .none
def pdL : List D → List PyData
  | [] => []
  | d :: ds => pd d :: pdL ds
end
mutual
/-- == of data -/
def deq : D → D → Bool
  | .non, .non => true
  | .bl a, .bl b => a == b
  | .bl a, .int j => (if a then 1 else 0) == j
  | .int i, .bl b => i == (if b then 1 else 0)
  | .int i, .int j => i == j
  | .str x, .str y => x == y
  | .tup xs, .tup ys => deqL xs ys
  | .lst xs, .lst ys => deqL xs ys
  | _, _ => false
def deqL : List D → List D → Bool
  | [], [] => true
  | x :: xs, y :: ys => deq x y && deqL xs ys
  | _, _ => false
end
mutual
theorem eqv_pd : ∀ (x y : D), isData x = true → isData y = true → PyData.eqv (pd x) (pd y) = deq x y
  | .tup xs, y, hx, hy => by
    cases y with
    | tup ys =>
      have h1 : isDataL xs = true := hx
      have h2 : isDataL ys = true := hy
      show PyData.eqvAll (pdL xs) (pdL ys) = deqL xs ys
      exact eqv_pdL xs ys h1 h2
    | tupX _ => exact absurd (show false = true from hy) Bool.false_ne_true
    | inst _ _ _ => exact absurd (show false = true from hy) Bool.false_ne_true
    | obj _ => exact absurd (show false = true from hy) Bool.false_ne_true
    | ty _ => exact absurd (show false = true from hy) Bool.false_ne_true
    | exc _ _ _ _ => exact absurd (show false = true from hy) Bool.false_ne_true
    | fn _ => exact absurd (show false = true from hy) Bool.false_ne_true
    | _ => rfl
  | .lst xs, y, hx, hy => by
    cases y with
    | lst ys =>
      have h1 : isDataL xs = true := hx
      have h2 : isDataL ys = true := hy
      show PyData.eqvAll (pdL xs) (pdL ys) = deqL xs ys
      exact eqv_pdL xs ys h1 h2
    | tupX _ => exact absurd (show false = true from hy) Bool.false_ne_true
    | inst _ _ _ => exact absurd (show false = true from hy) Bool.false_ne_true
    | obj _ => exact absurd (show false = true from hy) Bool.false_ne_true
    | ty _ => exact absurd (show false = true from hy) Bool.false_ne_true
    | exc _ _ _ _ => exact absurd (show false = true from hy) Bool.false_ne_true
    | fn _ => exact absurd (show false = true from hy) Bool.false_ne_true
    | _ => rfl
  | .non, y, hx, hy => by
    cases y with
    | tupX _ => exact absurd (show false = true from hy) Bool.false_ne_true
    | inst _ _ _ => exact absurd (show false = true from hy) Bool.false_ne_true
    | obj _ => exact absurd (show false = true from hy) Bool.false_ne_true
    | ty _ => exact absurd (show false = true from hy) Bool.false_ne_true
    | exc _ _ _ _ => exact absurd (show false = true from hy) Bool.false_ne_true
    | fn _ => exact absurd (show false = true from hy) Bool.false_ne_true
    | _ => rfl
  | .bl _, y, hx, hy => by
    cases y with
    | tupX _ => exact absurd (show false = true from hy) Bool.false_ne_true
    | inst _ _ _ => exact absurd (show false = true from hy) Bool.false_ne_true
    | obj _ => exact absurd (show false = true from hy) Bool.false_ne_true
    | ty _ => exact absurd (show false = true from hy) Bool.false_ne_true
    | exc _ _ _ _ => exact absurd (show false = true from hy) Bool.false_ne_true
    | fn _ => exact absurd (show false = true from hy) Bool.false_ne_true
    | _ => rfl
  | .int _, y, hx, hy => by
    cases y with
    | tupX _ => exact absurd (show false = true from hy) Bool.false_ne_true
    | inst _ _ _ => exact absurd (show false = true from hy) Bool.false_ne_true
    | obj _ => exact absurd (show false = true from hy) Bool.false_ne_true
    | ty _ => exact absurd (show false = true from hy) Bool.false_ne_true
    | exc _ _ _ _ => exact absurd (show false = true from hy) Bool.false_ne_true
    | fn _ => exact absurd (show false = true from hy) Bool.false_ne_true
    | _ => rfl
  | .str _, y, hx, hy => by
    cases y with
    | tupX _ => exact absurd (show false = true from hy) Bool.false_ne_true
    | inst _ _ _ => exact absurd (show false = true from hy) Bool.false_ne_true
    | obj _ => exact absurd (show false = true from hy) Bool.false_ne_true
    | ty _ => exact absurd (show false = true from hy) Bool.false_ne_true
    | exc _ _ _ _ => exact absurd (show false = true from hy) Bool.false_ne_true
    | fn _ => exact absurd (show false = true from hy) Bool.false_ne_true
    | _ => rfl
  | .tupX _, y, hx, hy => absurd (show false = true from hx) Bool.false_ne_true
  | .inst _ _ _, y, hx, hy => absurd (show false = true from hx) Bool.false_ne_true
  | .obj _, y, hx, hy => absurd (show false = true from hx) Bool.false_ne_true
  | .ty _, y, hx, hy => absurd (show false = true from hx) Bool.false_ne_true
  | .exc _ _ _ _, y, hx, hy => absurd (show false = true from hx) Bool.false_ne_true
theorem eqv_pdL : ∀ (xs ys : List D), isDataL xs = true → isDataL ys = true → PyData.eqvAll (pdL xs) (pdL ys) = deqL xs ys
  | [], [], _, _ => rfl
  | [], y :: ys, _, _ => rfl
  | x :: xs, [], _, _ => rfl
  | x :: xs, y :: ys, hx, hy => by
    have h1 := Bool.and_eq_true_iff.mp (show (isData x && isDataL xs) = true from hx)
    have h2 := Bool.and_eq_true_iff.mp (show (isData y && isDataL ys) = true from hy)
    show (PyData.eqv (pd x) (pd y) && PyData.eqvAll (pdL xs) (pdL ys)) = (deq x y && deqL xs ys)
    rw [eqv_pd x y h1.1 h2.1, eqv_pdL xs ys h1.2 h2.2]
end
section
variable {K : PySem.W.Frag} {H : Hp} {S : Sd}
mutual
theorem dp_of (R : RelS K H S) : ∀ (d : D) (v : V), isData d = true → Rp K H S d v → Dp K H v (pd d)
  | .non, v, _, h => by
    have e : v = .non := h
    subst e; exact .non
  | .bl b, v, _, h => by
    have e : v = .bl b := h
    subst e; exact .bl b
  | .int i, v, _, h => by
    have e : v = .int i := h
    subst e; exact .int i
  | .str x, v, _, h => by
    have e : v = .str x := h
    subst e; exact .str x
  | .tup ds, v, k, h => by
    obtain ⟨a, vs, e, q, r⟩ := h
    subst e
    exact .tup q (dp_ofL R ds vs k r)
  | .lst ds, v, k, h => by
    obtain ⟨a, vs, e, q, r⟩ := rp_list R h
    subst e
    exact .lst q (dp_ofL R ds vs k r)
  | .tupX _, v, k, _ => absurd (show false = true from k) Bool.false_ne_true
  | .inst _ _ _, v, k, _ => absurd (show false = true from k) Bool.false_ne_true
  | .obj _, v, k, _ => absurd (show false = true from k) Bool.false_ne_true
  | .ty _, v, k, _ => absurd (show false = true from k) Bool.false_ne_true
  | .exc _ _ _ _, v, k, _ => absurd (show false = true from k) Bool.false_ne_true
theorem dp_ofL (R : RelS K H S) : ∀ (ds : List D) (vs : List V), isDataL ds = true → RpL K H S ds vs → DpAll K H vs (pdL ds)
  | [], vs, _, h => by
    have e : vs = [] := h
    subst e; exact .nil
  | d :: ds, vs, k, h => by
    obtain ⟨v, r, e, h1, h2⟩ := h
    subst e
    have k' := Bool.and_eq_true_iff.mp (show (isData d && isDataL ds) = true from k)
    exact .cons (dp_of R d v k'.1 h1) (dp_ofL R ds r k'.2 h2)
end
end
/-- what == may be asked of -/
def eqOk (d : D) : Bool := isData d && SeqAt.shaped (pd d)
def rdEq : RD2 := fun x y S Q => match x, y with
  | .int i, .int j => Q (.bl (decide (i = j))) S
  | .str i, .str j => Q (.bl (decide (i = j))) S
  | .bl i, .bl j => Q (.bl (decide (i = j))) S
  | x, y => (eqOk x = true ∧ eqOk y = true) ∧ Q (.bl (deq x y)) S
def rdNe : RD2 := fun x y S Q => match x, y with
  | .int i, .int j => Q (.bl (!decide (i = j))) S
  | .str i, .str j => Q (.bl (!decide (i = j))) S
  | .bl i, .bl j => Q (.bl (!decide (i = j))) S
  | x, y => (eqOk x = true ∧ eqOk y = true) ∧ Q (.bl (!deq x y)) S
def rdLt : RD2
  | .int i, .int j, S, Q => Q (.bl (decide (i < j))) S
  | _, _, _, _ => False
def rdLe : RD2
  | .int i, .int j, S, Q => Q (.bl (decide (i ≤ j))) S
  | _, _, _, _ => False
def rdGt : RD2
  | .int i, .int j, S, Q => Q (.bl (decide (j < i))) S
  | _, _, _, _ => False
def rdGe : RD2
  | .int i, .int j, S, Q => Q (.bl (decide (j ≤ i))) S
  | _, _, _, _ => False
def rdIsN : RD2
  | x, .non, S, Q => Q (.bl (match x with | .non => true | _ => false)) S
  | _, _, _, _ => False
def rdNotN : RD2
  | x, .non, S, Q => Q (.bl (match x with | .non => false | _ => true)) S
  | _, _, _, _ => False
section
variable {X : Cx}
theorem ordI {f : Value → Value → Sem Value} {g : Int → Int → Bool} {rd : RD2} (ho : OpR X f (rI0 fun i j => .bl (g i j))) (h : ∀ x y S Q, rd x y S Q → ∃ i j, x = .int i ∧ y = .int j ∧ Q (.bl (g i j)) S) : OpD X f rd :=
  ⟨_, ho, fun H S fr σd σ x y dx dy Qv Qd ok rx ry q k => by
    obtain ⟨i, j, rfl, rfl, q'⟩ := h dx dy S Qd q
    exact ⟨i, j, rx, ry, k _ (.bl (g i j)) H S ok rfl q'⟩⟩
theorem od_lt : OpD X (compareOp .Lt) rdLt := ordI op_lt fun x y S Q h => by
  cases x with
  | int i => cases y with
    | int j => exact ⟨i, j, rfl, rfl, h⟩
    | _ => exact (show False from h).elim
  | _ => cases y <;> exact (show False from h).elim
theorem od_le : OpD X (compareOp .LtE) rdLe := ordI op_le fun x y S Q h => by
  cases x with
  | int i => cases y with
    | int j => exact ⟨i, j, rfl, rfl, h⟩
    | _ => exact (show False from h).elim
  | _ => cases y <;> exact (show False from h).elim
theorem od_gt : OpD X (compareOp .Gt) rdGt := ordI op_gt fun x y S Q h => by
  cases x with
  | int i => cases y with
    | int j => exact ⟨i, j, rfl, rfl, h⟩
    | _ => exact (show False from h).elim
  | _ => cases y <;> exact (show False from h).elim
theorem od_ge : OpD X (compareOp .GtE) rdGe := ordI op_ge fun x y S Q h => by
  cases x with
  | int i => cases y with
    | int j => exact ⟨i, j, rfl, rfl, h⟩
    | _ => exact (show False from h).elim
  | _ => cases y <;> exact (show False from h).elim
theorem eq_lift {K : PySem.W.Frag} : Lift2 K (fun x y H Q => rEq x y H Q ∨ rEqD K x y H Q) rdEq := fun H S fr σd σ x y dx dy Qv Qd ok rx ry h k => by
  have gen : (eqOk dx = true ∧ eqOk dy = true) ∧ Qd (.bl (deq dx dy)) S → rEqD K x y H Qv := fun ⟨⟨h1, h2⟩, q⟩ => by
    have a1 := Bool.and_eq_true_iff.mp h1
    have a2 := Bool.and_eq_true_iff.mp h2
    refine ⟨pd dx, pd dy, dp_of ok.rel dx x a1.1 rx, dp_of ok.rel dy y a2.1 ry, a1.2, a2.2, ?_⟩
    rw [eqv_pd dx dy a1.1 a2.1]
    exact k _ (.bl (deq dx dy)) H S ok rfl q
  cases dx with
  | int i => cases dy with
    | int j =>
      have e1 : x = .int i := rx
      have e2 : y = .int j := ry
      subst e1 e2
      refine .inl ⟨rfl, ?_⟩
      refine k _ (.bl (decide (i = j))) H S ok ?_ h
      show V.bl _ = V.bl _
      congr 1
      simp
    | _ => exact .inr (gen h)
  | str i => cases dy with
    | str j =>
      have e1 : x = .str i := rx
      have e2 : y = .str j := ry
      subst e1 e2
      refine .inl ⟨rfl, ?_⟩
      refine k _ (.bl (decide (i = j))) H S ok ?_ h
      show V.bl _ = V.bl _
      congr 1
      simp
    | _ => exact .inr (gen h)
  | bl i => cases dy with
    | bl j =>
      have e1 : x = .bl i := rx
      have e2 : y = .bl j := ry
      subst e1 e2
      refine .inl ⟨rfl, ?_⟩
      refine k _ (.bl (decide (i = j))) H S ok ?_ h
      show V.bl _ = V.bl _
      congr 1
      simp
    | _ => exact .inr (gen h)
  | _ => exact .inr (gen (by cases dy <;> exact h))
theorem ne_lift {K : PySem.W.Frag} : Lift2 K (fun x y H Q => rNe x y H Q ∨ rNeD K x y H Q) rdNe := fun H S fr σd σ x y dx dy Qv Qd ok rx ry h k => by
  have gen : (eqOk dx = true ∧ eqOk dy = true) ∧ Qd (.bl (!deq dx dy)) S → rNeD K x y H Qv := fun ⟨⟨h1, h2⟩, q⟩ => by
    have a1 := Bool.and_eq_true_iff.mp h1
    have a2 := Bool.and_eq_true_iff.mp h2
    refine ⟨pd dx, pd dy, dp_of ok.rel dx x a1.1 rx, dp_of ok.rel dy y a2.1 ry, a1.2, a2.2, ?_⟩
    rw [eqv_pd dx dy a1.1 a2.1]
    exact k _ (.bl (!deq dx dy)) H S ok rfl q
  cases dx with
  | int i => cases dy with
    | int j =>
      have e1 : x = .int i := rx
      have e2 : y = .int j := ry
      subst e1 e2
      refine .inl ⟨rfl, ?_⟩
      refine k _ (.bl (!decide (i = j))) H S ok ?_ h
      show V.bl _ = V.bl _
      congr 1
      simp
    | _ => exact .inr (gen h)
  | str i => cases dy with
    | str j =>
      have e1 : x = .str i := rx
      have e2 : y = .str j := ry
      subst e1 e2
      refine .inl ⟨rfl, ?_⟩
      refine k _ (.bl (!decide (i = j))) H S ok ?_ h
      show V.bl _ = V.bl _
      congr 1
      simp
    | _ => exact .inr (gen h)
  | bl i => cases dy with
    | bl j =>
      have e1 : x = .bl i := rx
      have e2 : y = .bl j := ry
      subst e1 e2
      refine .inl ⟨rfl, ?_⟩
      refine k _ (.bl (!decide (i = j))) H S ok ?_ h
      show V.bl _ = V.bl _
      congr 1
      simp
    | _ => exact .inr (gen h)
  | _ => exact .inr (gen (by cases dy <;> exact h))
theorem od_eq (hu : X.A.units + 64 < cLine) : OpD X (compareOp .Eq) rdEq := ⟨_, op_eq.or (op_eqD hu), eq_lift⟩
theorem od_ne (hu : X.A.units + 64 < cLine) : OpD X (compareOp .NotEq) rdNe := ⟨_, op_ne.or (op_neD hu), ne_lift⟩
end

/-! ### chains of comparisons -/
section
variable {X : Cx} {W : Wi} {a b c d e : Expr} {ta tb tc td : TED} {pos : Pos}
def dChain (r r' : RD2) (ta tb tc : TED) : TED := fun σ S Q => ta σ S fun x S1 => tb σ S1 fun y S2 => r x y S2 fun z S3 => match z with
  | .bl k => if k = true then tc σ S3 fun w S4 => r' y w S4 Q else Q (.bl false) S3
  | _ => False
theorem chain_lift {r r' : R2} {rd rd' : RD2} (l : Lift2 X.K r rd) (l' : Lift2 X.K r' rd') (σ : L2.St) (H : Hp) (Q : VK) (h : upE X.K W (dChain rd rd' ta tb tc) σ H Q) : tChain r r' (upE X.K W ta) (upE X.K W tb) (upE X.K W tc) σ H Q := by
  obtain ⟨σd, S, fr, Qd, ok, cl, h, k⟩ := h
  refine ⟨σd, S, fr, _, ok, cl, h, fun x dx H1 S1 ok1 r1 h1 => ?_⟩
  refine ⟨σd, S1, (x, dx) :: fr, _, ok1.cons r1, cl.tail, h1, fun y dy H2 S2 ok2 r2 h2 => ?_⟩
  refine l H2 S2 ((y, dy) :: fr) σd σ x y dx dy _ _ (ok2.tail.cons r2) ok2.head r2 h2 fun z dz H3 S3 ok3 r3 h3 => ?_
  cases dz with
  | bl k0 =>
    refine ⟨k0, r3, ?_⟩
    cases k0 with
    | true =>
      exact (show upE X.K W tc σ H3 (fun w' H4 => r' y w' H4 Q) from ⟨σd, S3, (y, dy) :: fr, _, ok3, cl.tail, (show tc σd S3 _ from by simpa using h3), fun w dw H4 S4 ok4 r4 h4 =>
        l' H4 S4 fr σd σ y w dy dw Q Qd ok4.tail ok4.head r4 h4 k⟩)
    | false => exact (show Q (.bl false) H3 from k _ (.bl false) H3 S3 ok3.tail rfl (by simpa using h3))
  | _ => exact (show False from h3).elim
theorem de_chain {op op' : CmpOp} {rd rd' : RD2} (ho : OpD X (compareOp op) rd) (ho' : OpD X (compareOp op') rd') (ha : DE X W a ta) (hb : DE X W b tb) (hc : DE X W c tc)
    (hm : lastMarks [op, op'] [b, c] = false := by with_unfolding_all rfl) : DE X W (.Compare a [op, op'] [b, c] pos) (dChain rd rd' ta tb tc) := by
  obtain ⟨r, ho, l⟩ := ho
  obtain ⟨r', ho', l'⟩ := ho'
  exact ⟨PE.imp (pe_chain ho ho' ha.p hb.p hc.p hm) (chain_lift l l')⟩
theorem dt_chain {op op' : CmpOp} {rd rd' : RD2} (ho : OpD X (compareOp op) rd) (ho' : OpD X (compareOp op') rd') (ha : DE X W a ta) (hb : DE X W b tb) (hc : DE X W c tc)
    (hm : lastMarks [op, op'] [b, c] = false := by with_unfolding_all rfl) : DT X W (.Compare a [op, op'] [b, c] pos) (dTest (dChain rd rd' ta tb tc)) := by
  obtain ⟨r, ho, l⟩ := ho
  obtain ⟨r', ho', l'⟩ := ho'
  exact ⟨PT.imp (pt_chain ho ho' ha.p hb.p hc.p hm) fun σ H Q h => tTest_mono (chain_lift l l') σ H Q (test_lift σ H Q h)⟩
def dChain3 (r r' r2 : RD2) (ta tb tc td : TED) : TED := fun σ S Q => ta σ S fun x S1 => tb σ S1 fun y S2 => r x y S2 fun z S3 => match z with
  | .bl k => if k = true then tc σ S3 fun w S4 => r' y w S4 fun z2 S5 => match z2 with
      | .bl k2 => if k2 = true then td σ S5 fun w2 S6 => r2 w w2 S6 Q else Q (.bl false) S5
      | _ => False
    else Q (.bl false) S3
  | _ => False
end

/-! ### subscripts, slices -/
def ixQ (S : Sd) (Q : DK) : Option D → Prop
  | some d => Q d S
  | none => False
def ixS (S : Sd) (Q : DK) : Option Nat → Prop
  | some c => Q (.str ⟨#[c]⟩) S
  | none => False
def rdIx : RD2
  | .tup ds, .int i, S, Q => ixQ S Q (atI ds i)
  | .lst ds, .int i, S, Q => ixQ S Q (atI ds i)
  | .obj a, .int i, S, Q => match S a with
    | some (.lst ds) => ixQ S Q (atI ds i)
    | _ => False
  | .str z, .int i, S, Q => z.length ≤ 16777216 ∧ ixS S Q (atI z.cps.toList i)
  | _, _, _, _ => False
theorem ixQ_inv {S : Sd} {Q : DK} {o : Option D} (h : ixQ S Q o) : ∃ d, o = some d ∧ Q d S := by
  cases o with
  | none => exact h.elim
  | some d => exact ⟨d, rfl, h⟩
theorem atI_rp {K : PySem.W.Frag} {H : Hp} {S : Sd} {ds : List D} {vs : List V} {i : Int} {d : D} (r : RpL K H S ds vs) (h : atI ds i = some d) : ∃ v, atI vs i = some v ∧ Rp K H S d v := by
  unfold atI at h ⊢
  rw [← rpL_len r]
  cases e : ixN ds.length i with
  | none => rw [e] at h; cases h
  | some j =>
    rw [e] at h
    exact rpL_get r h
section
variable {X : Cx} {W : Wi} {a b e : Expr} {ta tb te : TED} {pos p2 : Pos}
theorem ix_lift {K : PySem.W.Frag} : Lift2 K (rIx K) rdIx := fun H S fr σd σ x y dx dy Qv Qd ok rx ry h k => by
  cases dy with
  | int i =>
    cases dx with
    | tup ds =>
      obtain ⟨d, e, q⟩ := ixQ_inv h
      obtain ⟨p, vs, e1, q1, r1⟩ := rx
      obtain ⟨v, e2, r2⟩ := atI_rp r1 e
      exact .inr (.inl ⟨p, vs, i, v, e1, ry, q1, e2, k v d H S ok r2 q⟩)
    | lst ds =>
      obtain ⟨d, e, q⟩ := ixQ_inv h
      obtain ⟨p, vs, e1, q1, r1⟩ := rp_list ok.rel rx
      obtain ⟨v, e2, r2⟩ := atI_rp r1 e
      exact .inl ⟨p, vs, i, v, e1, ry, q1, e2, k v d H S ok r2 q⟩
    | obj p =>
      have h' : (match S p with | some (.lst ds) => ixQ S Qd (atI ds i) | _ => False) := h
      split at h'
      · rename_i ds q0
        obtain ⟨d, e, q⟩ := ixQ_inv h'
        obtain ⟨vs, q1, r1⟩ := rp_obj ok.rel q0
        obtain ⟨v, e2, r2⟩ := atI_rp r1 e
        exact .inl ⟨p, vs, i, v, rx, ry, SqL.of q1, e2, k v d H S ok r2 q⟩
      · exact h'.elim
    | str z =>
      have h' : z.length ≤ 16777216 ∧ ixS S Qd (atI z.cps.toList i) := h
      cases e : atI z.cps.toList i with
      | none => rw [e] at h'; exact h'.2.elim
      | some c =>
        rw [e] at h'
        exact .inr (.inr ⟨z, i, c, rx, ry, sz_le h'.1, e, k _ (.str ⟨#[c]⟩) H S ok rfl h'.2⟩)
    | _ => exact (show False from h).elim
  | _ => cases dx <;> exact (show False from h).elim
theorem de_ix (ha : DE X W a ta) (hb : DE X W b tb) (hs : PlainIx b) : DE X W (.Subscript a b pos) (dOp rdIx ta tb) := ⟨PE.imp (pe_ix ix_seq ha.p hb.p hs) (op2_lift ix_lift)⟩
abbrev TOD := Si → Sd → (Option Int → Sd → Prop) → Prop
def upO (K : PySem.W.Frag) (W : Wi) (t : TOD) : TO := fun σ H Qv => ∃ σd S fr Qd, Ok K H S fr σd σ ∧ Cl K W fr ∧ t σd S Qd ∧ ∀ o H' S', Ok K H' S' fr σd σ → Qd o S' → Qv o H'
structure DO (X : Cx) (W : Wi) (e : Option Expr) (t : TOD) : Prop where
  p : PO X e (upO X.K W t)
def dNoPart : TOD := fun _ S Q => Q none S
def dPart (t : TED) : TOD := fun σ S Q => t σ S fun x S1 => match x with
  | .int i => Q (some i) S1
  | _ => False
theorem PO.imp {e : Option Expr} {t t' : TO} (h : PO X e t) (k : ∀ σ H Q, t' σ H Q → t σ H Q) : PO X e t' := ⟨fun pins s σ H Q I q => h.run pins s σ H Q I (k _ _ _ q)⟩
theorem do_none : DO X W none dNoPart := ⟨PO.imp po_none fun σ H Q ⟨σd, S, fr, Qd, ok, cl, h, k⟩ => k none H S ok h⟩
theorem do_some (h : DE X W e te) : DO X W (some e) (dPart te) := ⟨PO.imp (po_some h.p) fun σ H Q ⟨σd, S, fr, Qd, ok, cl, h, k⟩ => ⟨σd, S, fr, _, ok, cl, h, fun x dx H1 S1 ok1 r1 h1 => by
  cases dx with
  | int i => exact ⟨i, r1, k (some i) H1 S1 ok1 h1⟩
  | _ => exact (show False from h1).elim⟩⟩
def cutD (xs : List D) (lo hi : Option Int) : List D := (xs.drop (HT.sIx xs.length 0 lo)).take (HT.sIx xs.length xs.length hi - HT.sIx xs.length 0 lo)
def rdSl : D → Option Int → Option Int → Sd → DK → Prop
  | .tup ds, lo, hi, S, Q => Q (.tup (cutD ds lo hi)) S
  | .lst ds, lo, hi, S, Q => Q (.lst (cutD ds lo hi)) S
  | .obj a, lo, hi, S, Q => match S a with
    | some (.lst ds) => Q (.lst (cutD ds lo hi)) S
    | _ => False
  | .str z, lo, hi, S, Q => z.length ≤ 16777216 ∧ Q (.str (cutS z lo hi)) S
  | _, _, _, _, _ => False
def dSl (te : TED) (tl th : TOD) : TED := fun σ S Q => te σ S fun x S1 => tl σ S1 fun l S2 => th σ S2 fun u S3 => rdSl x l u S3 Q
theorem cut_rp {K : PySem.W.Frag} {H : Hp} {S : Sd} {ds : List D} {vs : List V} {lo hi : Option Int} (r : RpL K H S ds vs) : RpL K H S (cutD ds lo hi) (cutV vs lo hi) := by
  unfold cutD cutV
  rw [← rpL_len r]
  exact rpL_take _ (rpL_drop _ r)
theorem de_slice {lo hi : Option Expr} {tl th : TOD} (he : DE X W e te) (hl : DO X W lo tl) (hu : DO X W hi th) : DE X W (.Subscript e (.Slice lo hi none p2) pos) (dSl te tl th) :=
  ⟨PE.imp (pe_slice (sl_list.or (sl_tupA.or sl_str)) he.p hl.p hu.p) fun σ H Q ⟨σd, S, fr, Qd, ok, cl, h, k⟩ => ⟨σd, S, fr, _, ok, cl, h, fun x dx H1 S1 ok1 r1 h1 =>
    ⟨σd, S1, (x, dx) :: fr, _, ok1.cons r1, cl.tail, h1, fun l H2 S2 ok2 h2 => ⟨σd, S2, (x, dx) :: fr, _, ok2, cl.tail, h2, fun u H3 S3 ok3 h3 => by
      have rx := ok3.head
      have ok4 := ok3.tail
      cases dx with
      | lst ds =>
        obtain ⟨p, vs, e1, q1, r1⟩ := rp_list ok4.rel rx
        exact .inl ⟨p, vs, e1, q1, fun p hp => k _ (.lst (cutD ds l u)) _ S3 (ok4.new hp) (rp_lstNew ok4.rel hp (cut_rp r1)) h3⟩
      | obj p =>
        have h' : (match S3 p with | some (.lst ds) => Qd (.lst (cutD ds l u)) S3 | _ => False) := h3
        split at h'
        · rename_i ds q0
          obtain ⟨vs, q1, r1⟩ := rp_obj ok4.rel q0
          exact .inl ⟨p, vs, rx, SqL.of q1, fun p hp => k _ (.lst (cutD ds l u)) _ S3 (ok4.new hp) (rp_lstNew ok4.rel hp (cut_rp r1)) h'⟩
        · exact h'.elim
      | tup ds =>
        obtain ⟨p, vs, e1, q1, r1⟩ := rx
        refine .inr (.inl ⟨p, vs, e1, q1, fun hw => ?_, fun _ p hp => k _ (.tup (cutD ds l u)) _ S3 (ok4.new hp) (rp_tupNew ok4.rel hp (cut_rp r1)) h3⟩)
        have e2 : cutD ds l u = ds := by
          unfold cutD
          rw [rpL_len r1, hw.1, hw.2, List.drop_zero, Nat.sub_zero, ← rpL_len r1, List.take_length]
        have h' : Qd (.tup (cutD ds l u)) S3 := h3
        rw [e2] at h'
        exact k _ (.tup ds) H3 S3 ok4 ⟨p, vs, rfl, q1, r1⟩ h'
      | str z =>
        have h' : z.length ≤ 16777216 ∧ Qd (.str (cutS z l u)) S3 := h3
        exact .inr (.inr ⟨z, rx, sz_le h'.1, k _ (.str (cutS z l u)) H3 S3 ok4 rfl h'.2⟩)
      | _ => exact (show False from h3).elim⟩⟩⟩⟩
end
end Dv

/-! Readings by value, 3: calls, built-ins, statements, loops, comprehensions, defs. -/
namespace Dv
open PySem L2 PyProof.Rows

/-! ### the promise of a def, lifted -/
abbrev SpD := List D → Sd → DK → XKD → Prop
def FrOk (K : PySem.W.Frag) (H : Hp) (S : Sd) (fr : List (V × D)) : Prop := ∀ p ∈ fr, Rp K H S p.2 p.1
def upF (K : PySem.W.Frag) (sp : SpD) : Sp := fun vs H Qv E => ∃ ds S fr Qd Ed, RelS K H S ∧ FrOk K H S fr ∧ RpL K H S ds vs ∧ sp ds S Qd Ed ∧
  (∀ v d H' S', RelS K H' S' → FrOk K H' S' fr → Rp K H' S' d v → Qd d S' → Qv v H') ∧
  ∀ cls od x H' S', RelS K H' S' → FrOk K H' S' fr → RpX K H' S' x cls od → Ed x S' → E cls od H'
/-- the known slots, as pairs -/
def prs (σd : Si) (σ : L2.St) : List (V × D) := (σ.zip σd).filterMap fun p => match p with
  | (some v, some d) => some (v, d)
  | _ => none
theorem prs_mem {σd : Si} {σ : L2.St} {i : Nat} {v : V} {d : D} (h1 : σ[i]? = some (some v)) (h2 : σd[i]? = some (some d)) : (v, d) ∈ prs σd σ := by
  unfold prs
  refine List.mem_filterMap.mpr ⟨(some v, some d), ?_, rfl⟩
  refine List.mem_iff_getElem?.mpr ⟨i, ?_⟩
  rw [List.getElem?_zip_eq_some]
  exact ⟨h1, h2⟩
theorem prs_of {σd : Si} {σ : L2.St} {p : V × D} (h : p ∈ prs σd σ) : ∃ i : Nat, σ[i]? = some (some p.1) ∧ σd[i]? = some (some p.2) := by
  unfold prs at h
  obtain ⟨q, hq, e⟩ := List.mem_filterMap.mp h
  obtain ⟨i, hi⟩ := List.mem_iff_getElem?.mp hq
  rw [List.getElem?_zip_eq_some] at hi
  obtain ⟨q1, q2⟩ := q
  cases q1 with
  | none => cases e
  | some v => cases q2 with
    | none => cases e
    | some d =>
      cases e
      exact ⟨i, hi.1, hi.2⟩
section
variable {K : PySem.W.Frag} {H : Hp} {S : Sd} {fr : List (V × D)} {σd : Si} {σ : L2.St}
theorem Ok.out (ok : Ok K H S fr σd σ) : FrOk K H S (fr ++ prs σd σ) := fun p hp => by
  rcases List.mem_append.mp hp with h | h
  · exact ok.fr p h
  · obtain ⟨i, h1, h2⟩ := prs_of h
    obtain ⟨v, h3, r⟩ := ok.si i _ h2
    rw [h1] at h3
    cases h3
    exact r
theorem Ok.back {H' : Hp} {S' : Sd} (ok : Ok K H S fr σd σ) (R : RelS K H' S') (f : FrOk K H' S' (fr ++ prs σd σ)) : Ok K H' S' fr σd σ :=
  ⟨R, fun p hp => f p (List.mem_append_left _ hp), ok.len, fun i d e => by
    obtain ⟨v, h1, _⟩ := ok.si i d e
    exact ⟨v, h1, f (v, d) (List.mem_append_right _ (prs_mem h1 e))⟩⟩
end

section
variable {X : Cx} {W : Wi} {k : Nat} {f : Addr} {fd : FuncData} {ps : List Str} {sp : SpD} {ds : List Value} {dvs : List V} {dds : List D} {x : Str} {p pos : Pos} {e : Expr} {es : List Expr} {t : TAD}
def dCall (sp : SpD) (dds : List D) (WD : WXD) (t : TAD) : TED := fun σ S Q => t σ S fun xs S1 => sp (xs ++ dds) S1 Q fun y S2 => WD y σ S2
theorem call_lift (hdd : ∀ H S, RpL X.K H S dds dvs) (σ : L2.St) (H : Hp) (Q : VK) (h : upE X.K W (dCall sp dds W.D t) σ H Q) : tCallSD (upF X.K sp) dvs (WE W.V) (upA X.K W t) σ H Q := by
  obtain ⟨σd, S, fr, Qd, ok, cl, h, k⟩ := h
  refine ⟨σd, S, fr, _, ok, cl, h, fun vs ds H1 S1 ok1 r1 h1 => ?_⟩
  refine ⟨ds ++ dds, S1, fr ++ prs σd σ, Qd, _, ok1.rel, ok1.out, rpL_app r1 (hdd H1 S1), h1, fun v d H2 S2 R2 f2 r2 q2 => ?_, fun cls od x H2 S2 R2 f2 rx q2 => ?_⟩
  · exact k v d H2 S2 (ok1.back R2 f2) r2 q2
  · exact cl σd σ H2 S2 cls od x (ok1.back R2 f2) rx q2
theorem de_call (F : Hx.FnG X.prog X.w X.K X.mg X.base (L2N.CX X.prog X.w) k f fd ps (upF X.K sp)) (hr : Hx.RoomG k X.A) (hg : Gl X x) (hm : X.mg x = some (.ref f)) (hk : PySem.W.keepIn X.K (.ref f) = true) (hb : Binds X.K fd ps ds) (hd : Vals dvs ds)
    (hdd : ∀ H S, RpL X.K H S dds dvs) (tk : L2N.Takes X W.V) (ha : DA X W (e :: es) t) (hdb : (x == ("__debug__" : Str)) = false := by decide) (he : starEach (e :: es) X.env = (false, eval e X.env) :: starEach es X.env := by rfl)
    (hpl : (backTo pos (starEach es X.env)).any (·.1) = false := by rfl) : DE X W (.Call (.Name x p) (e :: es) [] pos) (dCall sp dds W.D t) :=
  ⟨PE.imp (Hx.pe_callG F hr hg hm hk hb hd (fun σ => L2N.passAt tk σ) ha.p hdb he hpl) (call_lift hdd)⟩

/-! ### built-ins -/
abbrev RDC := List D → Sd → DK → Prop
def LiftC (K : PySem.W.Frag) (r : List V → Hp → VK → Prop) (rd : RDC) : Prop := ∀ H S fr σd σ xs ds Qv Qd, Ok K H S fr σd σ → RpL K H S ds xs → rd ds S Qd →
  (∀ v d H' S', Ok K H' S' fr σd σ → Rp K H' S' d v → Qd d S' → Qv v H') → r xs H Qv
def CallD (X : Cx) (f : Value) (rd : RDC) : Prop := ∃ r, CallR X f r ∧ LiftC X.K r rd
def dCB (rd : RDC) (t : TAD) : TED := fun σ S Q => t σ S fun xs S1 => rd xs S1 Q
theorem cb_lift {r : List V → Hp → VK → Prop} {rd : RDC} (l : LiftC X.K r rd) (σ : L2.St) (H : Hp) (Q : VK) (h : upE X.K W (dCB rd t) σ H Q) : tCB r (upA X.K W t) σ H Q := by
  obtain ⟨σd, S, fr, Qd, ok, cl, h, k⟩ := h
  exact ⟨σd, S, fr, _, ok, cl, h, fun vs ds H1 S1 ok1 r1 h1 => l H1 S1 fr σd σ vs ds Q Qd ok1 r1 h1 k⟩
theorem de_callB {id : String} {rd : RDC} (hc : CallD X (.builtin id) rd) (hg : Gl X x) (hm : X.mg x = none) (hv : bootBuiltins x = some (.builtin id)) (ha : DA X W (e :: es) t) (hn : x ≠ "__name__" := by decide) (hdb : (x == ("__debug__" : Str)) = false := by decide)
    (he : starEach (e :: es) X.env = (false, eval e X.env) :: starEach es X.env := by rfl) (hpl : (backTo pos (starEach es X.env)).any (·.1) = false := by rfl) : DE X W (.Call (.Name x p) (e :: es) [] pos) (dCB rd t) := by
  obtain ⟨r, hc, l⟩ := hc
  exact ⟨PE.imp (pe_callB hc hg hm hv ha.p hn hdb he hpl) (cb_lift l)⟩
theorem de_callTy {T : String} {rd : RDC} (hc : CallD X (.type T) rd) (hg : Gl X x) (hm : X.mg x = none) (hv : bootBuiltins x = some (.type T)) (ha : DA X W (e :: es) t) (hn : x ≠ "__name__" := by decide) (hdb : (x == ("__debug__" : Str)) = false := by decide)
    (he : starEach (e :: es) X.env = (false, eval e X.env) :: starEach es X.env := by rfl) (hpl : (backTo pos (starEach es X.env)).any (·.1) = false := by rfl) : DE X W (.Call (.Name x p) (e :: es) [] pos) (dCB rd t) := by
  obtain ⟨r, hc, l⟩ := hc
  exact ⟨PE.imp (pe_callTy hc hg hm hv ha.p hn hdb he hpl) (cb_lift l)⟩
end
section
variable {K : PySem.W.Frag} {H : Hp} {S : Sd}
theorem rpL1 {d : D} {vs : List V} (h : RpL K H S [d] vs) : ∃ v, vs = [v] ∧ Rp K H S d v := by
  obtain ⟨v, r, e, h1, h2⟩ := h
  have e2 : r = [] := h2
  subst e2
  exact ⟨v, e, h1⟩
theorem rpL2 {c d : D} {vs : List V} (h : RpL K H S [c, d] vs) : ∃ v w, vs = [v, w] ∧ Rp K H S c v ∧ Rp K H S d w := by
  obtain ⟨v, r, e, h1, h2⟩ := h
  obtain ⟨w, e2, h3⟩ := rpL1 h2
  subst e2
  exact ⟨v, w, e, h1, h3⟩
theorem rpL_of_ints {ns : List Int} : RpL K H S (ns.map D.int) (ns.map V.int) := by
  induction ns with
  | nil => exact rfl
  | cons n r ih => exact ⟨_, _, rfl, rfl, ih⟩
theorem rpL_bls {ns : List Bool} : ∀ {vs : List V}, RpL K H S (ns.map D.bl) vs → vs = ns.map V.bl := by
  induction ns with
  | nil => intro vs h; exact h
  | cons n r ih =>
    intro vs h
    obtain ⟨v, s, e, h1, h2⟩ := h
    have e1 : v = .bl n := h1
    rw [e, e1, ih h2]
    rfl
theorem rpL_strs {ns : List Str} : ∀ {vs : List V}, RpL K H S (ns.map D.str) vs → vs = ns.map V.str := by
  induction ns with
  | nil => intro vs h; exact h
  | cons n r ih =>
    intro vs h
    obtain ⟨v, s, e, h1, h2⟩ := h
    have e1 : v = .str n := h1
    rw [e, e1, ih h2]
    rfl
end
def rdLen : RDC
  | [.str z], S, Q => z.length ≤ 16777216 ∧ Q (.int z.length) S
  | [d], S, Q => match itemsD S d with
    | some ds => Q (.int ds.length) S
    | none => False
  | _, _, _ => False
def rdAbs : RDC
  | [.int i], S, Q => Q (.int (if i < 0 then -i else i)) S
  | _, _, _ => False
def rdMax2 : RDC
  | [.int i, .int j], S, Q => Q (.int (if j > i then j else i)) S
  | _, _, _ => False
def rdMin2 : RDC
  | [.int i, .int j], S, Q => Q (.int (if j < i then j else i)) S
  | _, _, _ => False
def rdInt : RDC
  | [.int i], S, Q => Q (.int i) S
  | [.bl b], S, Q => Q (.int (if b then 1 else 0)) S
  | _, _, _ => False
def rdAll : RDC
  | [d], S, Q => ∃ bs : List Bool, lstD S d = some (bs.map D.bl) ∧ Q (.bl (bs.all id)) S
  | _, _, _ => False
def rdAny : RDC
  | [d], S, Q => ∃ bs : List Bool, lstD S d = some (bs.map D.bl) ∧ Q (.bl (bs.any id)) S
  | _, _, _ => False
def rdTupC : RDC
  | [d], S, Q => match itemsD S d with
    | some ds => Q (.tup ds) S
    | none => False
  | _, _, _ => False
def rdListC : RDC
  | [d], S, Q => match itemsD S d with
    | some ds => Q (.lst ds) S
    | none => False
  | _, _, _ => False
/-- a value's built-in type -/
def tyD : D → Option String
  | .non => some "NoneType" | .bl _ => some "bool" | .int _ => some "int" | .str _ => some "str" | .tup _ => some "tuple" | .lst _ => some "list" | _ => none
def isiD (d : D) (n : String) : Option Bool := match tyD d with
  | some t => kitB t n
  | none => none
def rdIsi : RDC
  | [d, .ty n], S, Q => match isiD d n with
    | some b => Q (.bl b) S
    | none => False
  | _, _, _ => False
section
variable {X : Cx}
theorem cd_len : CallD X (.builtin "len") rdLen := ⟨_, call_len, fun H S fr σd σ xs ds Qv Qd ok r h k => by
  match ds, r, h with
  | [d], r, h =>
    obtain ⟨v, rfl, r0⟩ := rpL1 r
    have r := r0
    have gen : (match itemsD S d with | some ds => Qd (.int ds.length) S | none => False) → ∃ x n, [v] = [x] ∧ LenV X.K x H n ∧ Qv (.int n) H := fun h => by
      cases e : itemsD S d with
      | none => rw [e] at h; exact h.elim
      | some ds =>
        rw [e] at h
        obtain ⟨a, vs, rfl, q, r2⟩ := rp_items ok.rel r e
        refine ⟨_, vs.length, rfl, ?_, k _ (.int ds.length) H S ok (by rw [rpL_len r2]; rfl) h⟩
        rcases q with q | q
        · exact .inl ⟨vs, q, rfl⟩
        · exact .inr ⟨vs, q, rfl⟩
    cases d with
    | str z =>
      have e : v = .str z := r
      subst e
      have h' : z.length ≤ 16777216 ∧ Qd (.int z.length) S := h
      exact ⟨_, z.length, rfl, ⟨sz_le h'.1, rfl⟩, k _ (.int z.length) H S ok rfl h'.2⟩
    | _ => exact gen h
  | [], _, h => exact (show False from h).elim
  | a :: _ :: _, _, h => exact (by cases a <;> exact h : False).elim⟩
theorem int1_lift {K : PySem.W.Frag} {g : Int → D} {gv : Int → V} {rd : RDC} (hg : ∀ i H S, Rp K H S (g i) (gv i)) (h1 : ∀ ds S Q, rd ds S Q → ∃ i, ds = [.int i] ∧ Q (g i) S) :
    LiftC K (fun xs H Q => ∃ i, xs = [.int i] ∧ Q (gv i) H) rd := fun H S fr σd σ xs ds Qv Qd ok r h k => by
  obtain ⟨i, rfl, q⟩ := h1 ds S Qd h
  obtain ⟨v, rfl, r0⟩ := rpL1 r
  have r := r0
  have e : v = .int i := r
  subst e
  exact ⟨i, rfl, k _ (g i) H S ok (hg i H S) q⟩
theorem inv_abs {ds : List D} {S : Sd} {Q : DK} (h : rdAbs ds S Q) : ∃ i, ds = [.int i] ∧ Q (.int (if i < 0 then -i else i)) S := by
  cases ds with
  | nil => exact h.elim
  | cons d t => cases t with
    | nil => cases d <;> first | exact ⟨_, rfl, h⟩ | exact (show False from h).elim
    | cons e r => cases d <;> exact (show False from h).elim
theorem inv_max2 {ds : List D} {S : Sd} {Q : DK} (h : rdMax2 ds S Q) : ∃ i j, ds = [.int i, .int j] ∧ Q (.int (if j > i then j else i)) S := by
  cases ds with
  | nil => exact h.elim
  | cons d t => cases t with
    | nil => cases d <;> exact (show False from h).elim
    | cons e r => cases r with
      | nil => cases d <;> cases e <;> first | exact ⟨_, _, rfl, h⟩ | exact (show False from h).elim
      | cons f r => cases d <;> cases e <;> exact (show False from h).elim
theorem inv_min2 {ds : List D} {S : Sd} {Q : DK} (h : rdMin2 ds S Q) : ∃ i j, ds = [.int i, .int j] ∧ Q (.int (if j < i then j else i)) S := by
  cases ds with
  | nil => exact h.elim
  | cons d t => cases t with
    | nil => cases d <;> exact (show False from h).elim
    | cons e r => cases r with
      | nil => cases d <;> cases e <;> first | exact ⟨_, _, rfl, h⟩ | exact (show False from h).elim
      | cons f r => cases d <;> cases e <;> exact (show False from h).elim
theorem inv_isi {ds : List D} {S : Sd} {Q : DK} (h : rdIsi ds S Q) : ∃ d n b, ds = [d, .ty n] ∧ isiD d n = some b ∧ Q (.bl b) S := by
  cases ds with
  | nil => exact h.elim
  | cons d t => cases t with
    | nil => exact (show False from h).elim
    | cons e r => cases r with
      | cons f r => cases e <;> exact (show False from h).elim
      | nil =>
        cases e with
        | ty n =>
          have h' : (match isiD d n with | some b => Q (.bl b) S | none => False) := h
          cases q : isiD d n with
          | none => rw [q] at h'; exact h'.elim
          | some b => rw [q] at h'; exact ⟨d, n, b, rfl, q, h'⟩
        | _ => exact (show False from h).elim
theorem cd_abs : CallD X (.builtin "abs") rdAbs := ⟨_, call_abs, int1_lift (g := fun i => .int (if i < 0 then -i else i)) (fun _ _ _ => rfl) fun ds S Q h => inv_abs h⟩
theorem int2_lift {K : PySem.W.Frag} {g : Int → Int → D} {gv : Int → Int → V} {rd : RDC} (hg : ∀ i j H S, Rp K H S (g i j) (gv i j)) (h1 : ∀ ds S Q, rd ds S Q → ∃ i j, ds = [.int i, .int j] ∧ Q (g i j) S) :
    LiftC K (fun xs H Q => ∃ i j, xs = [.int i, .int j] ∧ Q (gv i j) H) rd := fun H S fr σd σ xs ds Qv Qd ok r h k => by
  obtain ⟨i, j, rfl, q⟩ := h1 ds S Qd h
  obtain ⟨v, w, rfl, r1, r2⟩ := rpL2 r
  have e : v = .int i := r1
  have e2 : w = .int j := r2
  subst e e2
  exact ⟨i, j, rfl, k _ (g i j) H S ok (hg i j H S) q⟩
theorem cd_max2 (hc : X.calm = true) : CallD X (.builtin "max") rdMax2 := ⟨_, call_max2 hc, int2_lift (g := fun i j => .int (if j > i then j else i)) (fun _ _ _ _ => rfl) fun ds S Q h => inv_max2 h⟩
theorem cd_min2 (hc : X.calm = true) : CallD X (.builtin "min") rdMin2 := ⟨_, call_min2 hc, int2_lift (g := fun i j => .int (if j < i then j else i)) (fun _ _ _ _ => rfl) fun ds S Q h => inv_min2 h⟩
theorem cd_all (hc : X.calm = true) : CallD X (.builtin "all") rdAll := ⟨_, cr_all hc, fun H S fr σd σ xs ds Qv Qd ok r h k => by
  match ds, r, h with
  | [], _, h => exact (show False from h).elim
  | _ :: _ :: _, _, h => exact (show False from h).elim
  | [d], r, h =>
    obtain ⟨v, rfl, r0⟩ := rpL1 r
    have r := r0
    obtain ⟨bs, e, q⟩ := h
    obtain ⟨a, vs, rfl, q1, r1⟩ := rp_lstD ok.rel r e
    rw [rpL_bls r1] at q1
    exact ⟨a, bs, rfl, q1, k _ (.bl (bs.all id)) H S ok rfl q⟩⟩
theorem cd_any (hc : X.calm = true) : CallD X (.builtin "any") rdAny := ⟨_, cr_any hc, fun H S fr σd σ xs ds Qv Qd ok r h k => by
  match ds, r, h with
  | [], _, h => exact (show False from h).elim
  | _ :: _ :: _, _, h => exact (show False from h).elim
  | [d], r, h =>
    obtain ⟨v, rfl, r0⟩ := rpL1 r
    have r := r0
    obtain ⟨bs, e, q⟩ := h
    obtain ⟨a, vs, rfl, q1, r1⟩ := rp_lstD ok.rel r e
    rw [rpL_bls r1] at q1
    exact ⟨a, bs, rfl, q1, k _ (.bl (bs.any id)) H S ok rfl q⟩⟩
theorem cd_tuple : CallD X (.type "tuple") rdTupC := ⟨_, call_tuple_of, fun H S fr σd σ xs ds Qv Qd ok r h k => by
  match ds, r, h with
  | [], _, h => exact (show False from h).elim
  | _ :: _ :: _, _, h => exact (show False from h).elim
  | [d], r, h =>
    obtain ⟨v, rfl, r0⟩ := rpL1 r
    have r := r0
    have h' : (match itemsD S d with | some ds => Qd (.tup ds) S | none => False) := h
    cases e : itemsD S d with
    | none => rw [e] at h'; exact h'.elim
    | some ds =>
      rw [e] at h'
      obtain ⟨a, vs, rfl, q, r2⟩ := rp_items ok.rel r e
      refine ⟨a, vs, rfl, ?_⟩
      rcases q with q | q
      · exact .inl ⟨q, fun l hl => k _ (.tup ds) _ S (ok.new hl) (rp_tupNew ok.rel hl r2) h'⟩
      · exact .inr ⟨q, k _ (.tup ds) H S ok ⟨a, vs, rfl, q, r2⟩ h'⟩⟩
theorem cd_list : CallD X (.type "list") rdListC := ⟨_, call_list_of, fun H S fr σd σ xs ds Qv Qd ok r h k => by
  match ds, r, h with
  | [], _, h => exact (show False from h).elim
  | _ :: _ :: _, _, h => exact (show False from h).elim
  | [d], r, h =>
    obtain ⟨v, rfl, r0⟩ := rpL1 r
    have r := r0
    have h' : (match itemsD S d with | some ds => Qd (.lst ds) S | none => False) := h
    cases e : itemsD S d with
    | none => rw [e] at h'; exact h'.elim
    | some ds =>
      rw [e] at h'
      obtain ⟨a, vs, rfl, q, r2⟩ := rp_items ok.rel r e
      exact ⟨a, vs, rfl, q, fun l hl => k _ (.lst ds) _ S (ok.new hl) (rp_lstNew ok.rel hl r2) h'⟩⟩
theorem isi_ty {K : PySem.W.Frag} {H : Hp} {S : Sd} {d : D} {v : V} {t : String} (R : RelS K H S) (r : Rp K H S d v) (e : tyD d = some t) : TyX K H v (.type t) := by
  cases d with
  | non => cases e; have e : v = .non := r; subst e; exact .base .non
  | bl b => cases e; have e : v = .bl b := r; subst e; exact .base (.bl b)
  | int i => cases e; have e : v = .int i := r; subst e; exact .base (.int i)
  | str x => cases e; have e : v = .str x := r; subst e; exact .base (.str x)
  | tup ds =>
    cases e
    obtain ⟨a, vs, rfl, q, _⟩ := r
    rcases q with (q | ⟨o, q⟩) | ⟨o, its, n, h1, h2, _⟩
    · exact .base (.tup q)
    · exact .fTuple q
    · exact .kTuple h1 h2
  | lst ds =>
    cases e
    obtain ⟨a, vs, rfl, q, _⟩ := r
    rcases q with ⟨q | ⟨o, q⟩, _⟩ | ⟨o, its, n, h1, h2, _⟩
    · exact .base (.lst q)
    · exact .base (.frz q)
    · exact .kList h1 h2
  | _ => cases e
theorem cd_isi : CallD X (.builtin "isinstance") rdIsi := ⟨_, call_isi, fun H S fr σd σ xs ds Qv Qd ok r h k => by
  obtain ⟨d, n, b, rfl, e, q⟩ := inv_isi h
  obtain ⟨v, w, rfl, r1, r2⟩ := rpL2 r
  have e0 : w = .ty n := r2
  subst e0
  unfold isiD at e
  cases e2 : tyD d with
  | none => rw [e2] at e; cases e
  | some t =>
    rw [e2] at e
    exact ⟨v, .ty n, .type t, .type n, b, rfl, .ty n, isi_ty ok.rel r1 e2, kit_ty e, k _ (.bl b) H S ok rfl q⟩⟩
end
end Dv

/-! Readings by value, 4: statements, targets, loops, comprehensions, defs. -/
namespace Dv
open PySem L2 PyProof.Rows

section
variable {K : PySem.W.Frag} {H : Hp} {S : Sd} {fr : List (V × D)} {Dd : EndsD} {D0 : Ends} {σd : Si} {σ : L2.St} {W : Wi}
theorem Ok.pre {fr2 : List (V × D)} (o : Ok K H S (fr2 ++ fr) σd σ) : Ok K H S fr σd σ := ⟨o.rel, fun p hp => o.fr p (List.mem_append_right _ hp), o.len, o.si⟩
theorem Cl.pre {fr2 : List (V × D)} (c : Cl K W fr) : Cl K W (fr2 ++ fr) := fun σd σ H S cls od x o => c σd σ H S cls od x o.pre
end

section
variable {X : Cx} {W : Wi} {st : Stmt} {rest : List Stmt} {t u : TSD} {e c : Expr} {te : TED} {tc : TTD} {pos : Pos}
def dNext : TSD := fun D σ S => D.nx σ S
def dSeq (t u : TSD) : TSD := fun D σ S => t { D with nx := u D } σ S
theorem db_nil : DB X W [] dNext := ⟨PSs.imp pss_nil fun D σ H ⟨σd, S, fr, Dd, ok, cl, h, k⟩ => k.nx σd σ H S ok h⟩
theorem db_cons (h1 : DS X W st t) (h2 : DB X W rest u) : DB X W (st :: rest) (dSeq t u) :=
  ⟨PSs.imp (pss_cons h1.p h2.p) fun D σ H ⟨σd, S, fr, Dd, ok, cl, h, k⟩ => ⟨σd, S, fr, { Dd with nx := u Dd }, ok, cl, h,
    ⟨fun σd' σ' H' S' ok' q => ⟨σd', S', fr, Dd, ok', cl, q, k⟩, k.rt, k.bk, k.ct⟩⟩⟩
theorem db_one (h1 : DS X W st t) : DB X W [st] t := ⟨pss_one h1.p⟩
def dDrop (te : TED) : TSD := fun D σ S => te σ S fun _ S1 => D.nx σ S1
theorem ds_expr (he : DE X W e te) (hs : swapsWith e none pos.line X.env = pure false := by rfl) : DS X W (.Expr e pos) (dDrop te) :=
  ⟨PS.imp (ps_expr he.p hs) fun D σ H ⟨σd, S, fr, Dd, ok, cl, h, k⟩ => ⟨σd, S, fr, _, ok, cl, h, fun v d H' S' ok' r q => k.nx σd σ H' S' ok' q⟩⟩
def dRet (te : TED) : TSD := fun D σ S => te σ S D.rt
theorem ds_ret (he : DE X W e te) : DS X W (.Return (some e) pos) (dRet te) :=
  ⟨PS.imp (ps_ret he.p) fun D σ H ⟨σd, S, fr, Dd, ok, cl, h, k⟩ => ⟨σd, S, fr, _, ok, cl, h, fun v d H' S' ok' r q => k.rt v d σd σ H' S' ok' r q⟩⟩
def dIfS (c : TTD) (t u : TSD) : TSD := fun D σ S => c σ S fun b S1 => if b = true then t D σ S1 else u D σ S1
theorem ds_if {a b : List Stmt} (hc : DT X W c tc) (ha : DB X W a t) (hb : DB X W b u) : DS X W (.If c a b pos) (dIfS tc t u) :=
  ⟨PS.imp (ps_if hc.p ha.p hb.p) fun D σ H ⟨σd, S, fr, Dd, ok, cl, h, k⟩ => ⟨σd, S, fr, _, ok, cl, h, fun b H1 S1 ok1 h1 => by
    cases b with
    | true => exact (show upSt X.K W t D σ H1 from ⟨σd, S1, fr, Dd, ok1, cl, (show t Dd σd S1 from by simpa using h1), k⟩)
    | false => exact (show upSt X.K W u D σ H1 from ⟨σd, S1, fr, Dd, ok1, cl, (show u Dd σd S1 from by simpa using h1), k⟩)⟩⟩

/-! ### targets -/
abbrev TGD := D → Si → Sd → (Si → Sd → Prop) → Prop
abbrev TGsD := List D → Si → Sd → (Si → Sd → Prop) → Prop
/-- vs: slots that may change -/
def upG (K : PySem.W.Frag) (W : Wi) (vs : List Nat) (t : TGD) : TG := fun v σ H Q => ∃ σd S fr Qd d, Ok K H S fr σd σ ∧ Cl K W fr ∧ Rp K H S d v ∧ t d σd S Qd ∧
  ∀ σ' σd' H' S', Ok K H' S' fr σd' σ' → wipe σ' vs = wipe σ vs → Qd σd' S' → Q σ' H'
def upGs (K : PySem.W.Frag) (W : Wi) (vs : List Nat) (t : TGsD) : TGs := fun us σ H Q => ∃ σd S fr Qd ds, Ok K H S fr σd σ ∧ Cl K W fr ∧ RpL K H S ds us ∧ t ds σd S Qd ∧
  ∀ σ' σd' H' S', Ok K H' S' fr σd' σ' → wipe σ' vs = wipe σ vs → Qd σd' S' → Q σ' H'
structure DG (X : Cx) (W : Wi) (vs : List Nat) (e : Expr) (t : TGD) : Prop where
  p : PG X e (upG X.K W vs t)
structure DGs (X : Cx) (W : Wi) (vs : List Nat) (es : List Expr) (t : TGsD) : Prop where
  p : PGs X es (upGs X.K W vs t)
theorem PG.imp {e : Expr} {t t' : TG} (h : PG X e t) (k : ∀ v σ H Q, t' v σ H Q → t v σ H Q) : PG X e t' := ⟨fun pins s σ H v u Q I r q => h.run pins s σ H v u Q I r (k _ _ _ _ q)⟩
theorem PGs.imp {e : List Expr} {t t' : TGs} (h : PGs X e t) (k : ∀ v σ H Q, t' v σ H Q → t v σ H Q) : PGs X e t' := ⟨fun pins s σ H v u Q I r q => h.run pins s σ H v u Q I r (k _ _ _ _ q)⟩
theorem wipe_set {σ : L2.St} {i : Nat} {x : Option V} : ∀ {vs : List Nat}, i ∈ vs → wipe (σ.set i x) vs = wipe σ vs
  | v :: vs, h => by
    unfold wipe
    by_cases hv : i ∈ vs
    · rw [wipe_set hv]
    · have e : i = v := by
        rcases List.mem_cons.mp h with e | e
        · exact e
        · exact absurd e hv
      subst e
      have gen : ∀ (ws : List Nat), i ∉ ws → wipe (σ.set i x) ws = (wipe σ ws).set i x := by
        intro ws
        induction ws with
        | nil => intro _; rfl
        | cons w ws ih =>
          intro hm
          have h1 : i ≠ w := fun e => hm (by rw [e]; exact List.mem_cons_self)
          have h2 : i ∉ ws := fun e => hm (List.mem_cons_of_mem _ e)
          show (wipe (σ.set i x) ws).set w none = ((wipe σ ws).set w none).set i x
          rw [ih h2, List.set_comm _ _ h1]
      rw [gen vs hv, List.set_set]
def dName (i : Nat) : TGD := fun d σ S Q => Q (σ.set i (some d)) S
theorem dg_name {vs : List Nat} {i : Nat} {x : Str} (hN : X.N.Nodup) (hi : X.N[i]? = some x) (hx : Loc X.env.scope x) (hv : i ∈ vs) (hf : X.fn x = true ∨ X.env.scope.names.lookup x = some .local := by first | exact .inl rfl | exact .inr rfl | assumption) :
    DG X W vs (.Name x pos) (dName i) := ⟨PG.imp (pg_name hN hi hx hf) fun v σ H Q ⟨σd, S, fr, Qd, d, ok, cl, r, h, k⟩ => k _ _ H S (ok.set r i) (wipe_set hv) h⟩
def dGNil : TGsD := fun ds σ S Q => match ds with
  | [] => Q σ S
  | _ => False
def dGCons (t : TGD) (u : TGsD) : TGsD := fun ds σ S Q => match ds with
  | d :: r => t d σ S fun σ' S' => u r σ' S' Q
  | [] => False
theorem dgs_nil {vs : List Nat} : DGs X W vs [] dGNil := ⟨PGs.imp pgs_nil fun v σ H Q ⟨σd, S, fr, Qd, ds, ok, cl, r, h, k⟩ => by
  cases ds with
  | nil => exact ⟨r, k σ σd H S ok rfl h⟩
  | cons d s => exact (show False from h).elim⟩
theorem dgs_cons {vs : List Nat} {es : List Expr} {t : TGD} {u : TGsD} (h1 : DG X W vs e t) (h2 : DGs X W vs es u) (hs : (assignEach (e :: es) X.env).map (·.2) = assign e X.env :: (assignEach es X.env).map (·.2) := by rfl) : DGs X W vs (e :: es) (dGCons t u) :=
  ⟨PGs.imp (pgs_cons h1.p h2.p hs) fun us σ H Q ⟨σd, S, fr, Qd, ds, ok, cl, r, h, k⟩ => by
    cases ds with
    | nil => exact (show False from h).elim
    | cons d s =>
      obtain ⟨v, ur, e1, r1, r2⟩ := r
      refine ⟨v, ur, e1, σd, S, (ur.zip s) ++ fr, fun σ' S' => u s σ' S' Qd, d, ?_, cl.pre, r1, h, fun σ' σd' H' S' ok' hw q => ?_⟩
      · refine ⟨ok.rel, fun p hp => ?_, ok.len, ok.si⟩
        rcases List.mem_append.mp hp with hp | hp
        · obtain ⟨i, hi⟩ := List.mem_iff_getElem?.mp hp
          rw [List.getElem?_zip_eq_some] at hi
          obtain ⟨w, q1, q2⟩ := rpL_get r2 hi.2
          rw [hi.1] at q1
          cases q1
          exact q2
        · exact ok.fr p hp
      · refine ⟨σd', S', fr, Qd, s, ok'.pre, cl, ?_, q, fun σ2 σd2 H2 S2 ok2 hw2 q2 => k σ2 σd2 H2 S2 ok2 (hw2.trans hw) q2⟩
        have hl := rpL_len r2
        have gen : ∀ (s : List D) (ur : List V), s.length = ur.length → (∀ p ∈ ur.zip s, Rp X.K H' S' p.2 p.1) → RpL X.K H' S' s ur := by
          intro s
          induction s with
          | nil => intro ur hl _; exact List.length_eq_zero_iff.mp hl.symm
          | cons d s ih =>
            intro ur hl hz
            cases ur with
            | nil => cases hl
            | cons w ur =>
              refine ⟨w, ur, rfl, hz (w, d) (by simp), ih ur (by simpa using hl) fun p hp => hz p ?_⟩
              rw [List.zip_cons_cons]
              exact List.mem_cons_of_mem _ hp
        exact gen s ur hl fun p hp => ok'.fr p (List.mem_append_left _ hp)⟩
/-- (a, b, ..) = a tuple or a list of that length -/
def dTupG (n : Nat) (t : TGsD) : TGD := fun d σ S Q => match d with
  | .tup ds => ds.length = n ∧ t ds σ S Q
  | _ => False
theorem dg_tup {vs : List Nat} {es : List Expr} {k : Nat} {t : TGsD} {n : Nat} (hc : X.calm = true) (h : DGs X W vs es t) (hn : (assignEach es X.env).length = n := by rfl) (hst : (assignEach es X.env).findIdx? (·.1) = none := by rfl) :
    DG X W vs (.Tuple es k pos) (dTupG n t) := ⟨PG.imp (pg_tup hc h.p hn hst) fun v σ H Q ⟨σd, S, fr, Qd, d, ok, cl, r, q, k⟩ => by
  cases d with
  | tup ds =>
    obtain ⟨a, vs, e, q1, r1⟩ := r
    exact ⟨a, vs, e, q1, (rpL_len r1).symm.trans q.1, σd, S, fr, Qd, ds, ok, cl, r1, q.2, k⟩
  | _ => exact (show False from q).elim⟩
def dAsg (te : TED) (g : TGD) : TSD := fun D σ S => te σ S fun x S1 => g x σ S1 D.nx
theorem ds_asg {vs : List Nat} {tg : Expr} {g : TGD} (he : DE X W e te) (hg : DG X W vs tg g) (hs : swapsWithSole [tg] e pos.line X.env = pure false := by rfl) (hw : swappedStores [tg] e X.env = pure none := by rfl)
    (h1 : (assignEach [tg] X.env).map (·.2) = [assign tg X.env] := by rfl) : DS X W (.Assign [tg] e pos) (dAsg te g) :=
  ⟨PS.imp (ps_asg he.p hg.p hs hw h1) fun D σ H ⟨σd, S, fr, Dd, ok, cl, h, k⟩ => ⟨σd, S, fr, _, ok, cl, h, fun v d H1 S1 ok1 r1 q => ⟨σd, S1, fr, Dd.nx, d, ok1, cl, r1, q, fun σ' σd' H' S' ok' _ q' => k.nx σd' σ' H' S' ok' q'⟩⟩⟩
def dSet (i : Nat) (te : TED) : TSD := fun D σ S => te σ S fun x S1 => D.nx (σ.set i (some x)) S1
theorem ds_set (i : Nat) {x : Str} {pos' : Pos} (hN : X.N.Nodup) (hi : X.N[i]? = some x) (hx : Loc X.env.scope x) (he : DE X W e te) (hs : swapsWith e (some (.Name x pos')) pos.line X.env = pure false := by rfl)
    (hf : X.fn x = true ∨ X.env.scope.names.lookup x = some .local := by first | exact .inl rfl | exact .inr rfl | assumption) : DS X W (.Assign [.Name x pos'] e pos) (dSet i te) :=
  ⟨PS.imp (ps_set hN hi hx he.p hs hf) fun D σ H ⟨σd, S, fr, Dd, ok, cl, h, k⟩ => ⟨σd, S, fr, _, ok, cl, h, fun v d H1 S1 ok1 r1 q => k.nx _ _ H1 S1 (ok1.set r1 i) q⟩⟩
/-- a, b = x, y -/
def dPar (i j : Nat) (ta : TAD) : TSD := fun D σ S => ta σ S fun vs S1 => match vs with
  | [v, w] => D.nx ((σ.set i (some v)).set j (some w)) S1
  | _ => False
theorem ds_par (i j : Nat) {x y : Str} {a b : Expr} {ta : TAD} {px py pt : Pos} {kt k2 pt2} (hc : X.calm = true) (hN : X.N.Nodup) (hi : X.N[i]? = some x) (hj : X.N[j]? = some y) (hij : i ≠ j)
    (hx : X.env.scope.names.lookup x = some .local) (hy : X.env.scope.names.lookup y = some .local) (ha : DA X W [a, b] ta) (hw : swappedStores [.Tuple [.Name x px, .Name y py] kt pt] (.Tuple [a, b] k2 pt2) X.env = pure (some [x, y]))
    (hs : swapsWithSole [.Tuple [.Name x px, .Name y py] kt pt] (.Tuple [a, b] k2 pt2) pos.line X.env = pure false := by rfl) :
    DS X W (.Assign [.Tuple [.Name x px, .Name y py] kt pt] (.Tuple [a, b] k2 pt2) pos) (dPar i j ta) :=
  ⟨PS.imp (ps_par hc hN hi hj hij hx hy ha.p hw hs) fun D σ H ⟨σd, S, fr, Dd, ok, cl, h, k⟩ => ⟨σd, S, fr, _, ok, cl, h, fun vs ds H1 S1 ok1 r1 q => by
    cases ds with
    | nil => exact (show False from q).elim
    | cons d r => cases r with
      | nil => exact (show False from q).elim
      | cons d2 r => cases r with
        | cons _ _ => exact (show False from q).elim
        | nil =>
          obtain ⟨v, w, rfl, h1, h2⟩ := rpL2 r1
          exact ⟨v, w, rfl, k.nx _ _ H1 S1 ((ok1.set h1 i).set h2 j) q⟩⟩⟩
/-- l[k] = e, l an owned list -/
def setQ (S : Sd) (k : D) (v : D) (Q : Sd → Prop) : D → Prop
  | .obj a => match S a, k with
    | some (.lst ds), .int i => match ixN ds.length i with
      | some j => Q (upS S a (.lst (ds.set j v)))
      | none => False
    | _, _ => False
  | _ => False
theorem setQ_inv {S : Sd} {k v o : D} {Q : Sd → Prop} (h : setQ S k v Q o) : ∃ a ds i j, o = .obj a ∧ S a = some (.lst ds) ∧ k = .int i ∧ ixN ds.length i = some j ∧ Q (upS S a (.lst (ds.set j v))) := by
  cases o with
  | obj a =>
    unfold setQ at h
    dsimp only at h
    split at h
    · rename_i x y ds i e
      split at h
      · rename_i j ej
        exact ⟨a, ds, i, j, rfl, e, rfl, ej, h⟩
      · exact h.elim
    · exact h.elim
  | _ => exact (show False from h).elim
def dStore (to ti te : TED) : TSD := fun D σ S => te σ S fun v S1 => to σ S1 fun o S2 => ti σ S2 fun k S3 => setQ S3 k v (D.nx σ) o
theorem ds_store {o i : Expr} {to ti : TED} {spos : Pos} (ho : DE X W o to) (hi : DE X W i ti) (he : DE X W e te) (ha : ∀ v, assign (.Subscript o i spos) X.env v = (do
      let ov ← holding [v] (eval o X.env)
      let iv ← holding [v, ov] (eval i X.env)
      standAt spos
      holding [v, ov, iv] (setItem ov iv v)
      release [v, ov, iv] []) := by intro _; rfl) (hs : swapsWithSole [.Subscript o i spos] e pos.line X.env = pure false := by rfl) (hw : swappedStores [.Subscript o i spos] e X.env = pure none := by rfl)
    (h1 : (assignEach [.Subscript o i spos] X.env).map (·.2) = [assign (.Subscript o i spos) X.env] := by rfl) : DS X W (.Assign [.Subscript o i spos] e pos) (dStore to ti te) :=
  ⟨PS.imp (ps_asg he.p (pg_sub ho.p hi.p set_list ha) hs hw h1) fun D σ H ⟨σd, S, fr, Dd, ok, cl, h, k⟩ => ⟨σd, S, fr, _, ok, cl, h, fun v d H1 S1 ok1 r1 q =>
    ⟨σd, S1, (v, d) :: fr, _, ok1.cons r1, cl.tail, q, fun ov od H2 S2 ok2 r2 q => ⟨σd, S2, (ov, od) :: (v, d) :: fr, _, ok2.cons r2, cl.tail.tail, q, fun kv kd H3 S3 ok3 r3 q => by
      obtain ⟨a, ds, n, j, e1, e2, e3, e4, q5⟩ := setQ_inv q
      have ro := ok3.head
      have rv := ok3.tail.head
      have ok4 := ok3.tail.tail
      subst e1 e3
      obtain ⟨vs, hv, rl⟩ := rp_obj ok4.rel e2
      refine ⟨a, vs, n, j, ro, r3, hv, by rw [← rpL_len rl]; exact e4, ?_⟩
      have st : Step H3 S3 (upd H3 a (.lst (vs.set j v))) (upS S3 a (.lst (ds.set j d))) := step_set e2
      exact k.nx σd σ _ _ (ok4.step st (rel_set ok4.rel e2 ⟨_, upd_same, rpL_step ok4.rel st _ _ (rpL_set j rl rv)⟩)) q5⟩⟩⟩⟩
/-! ### methods of built-in types -/
def tyM (T : String) (d : D) (S : Sd) : Prop := match d with
  | .str _ => T = "str"
  | .int _ => T = "int"
  | .lst ds => T = "list"
  | .obj a => T = "list" ∧ ∃ ds, S a = some (.lst ds)
  | _ => False
theorem tyM_V {K : PySem.W.Frag} {H : Hp} {S : Sd} {d : D} {v : V} {T : String} (R : RelS K H S) (r : Rp K H S d v) (t : tyM T d S) : tyV K T v H := by
  cases d with
  | str x => have e : v = .str x := r; subst e; exact t
  | int x => have e : v = .int x := r; subst e; exact t
  | lst ds =>
    obtain ⟨a, vs, rfl, q, _⟩ := rp_list R r
    exact .inl ⟨t, vs, q⟩
  | obj a =>
    obtain ⟨t, ds, e⟩ := t
    obtain ⟨vs, q, _⟩ := rp_obj R e
    have e : v = .ref a := r
    subst e
    exact .inl ⟨t, vs, SqL.of q⟩
  | _ => exact (show False from t).elim
abbrev RDM := D → List D → Sd → DK → Prop
def LiftM (K : PySem.W.Frag) (r : V → List V → Hp → VK → Prop) (rd : RDM) : Prop := ∀ H S fr σd σ x dx xs ds Qv Qd, Ok K H S fr σd σ → Rp K H S dx x → RpL K H S ds xs → rd dx ds S Qd →
  (∀ v d H' S', Ok K H' S' fr σd σ → Rp K H' S' d v → Qd d S' → Qv v H') → r x xs H Qv
def dBM (T : String) (rd : RDM) (to : TED) (t : TAD) : TED := fun σ S Q => to σ S fun o S1 => tyM T o S1 ∧ t σ S1 fun vs S2 => rd o vs S2 Q
def dBM0 (T : String) (rd : RDM) (to : TED) : TED := fun σ S Q => to σ S fun o S1 => tyM T o S1 ∧ rd o [] S1 Q
theorem de_bm {o : Expr} {to : TED} {es : List Expr} {t : TAD} {T id : String} {name : Str} {apos cpos : Pos} {r : V → List V → Hp → VK → Prop} {rd : RDM} (pa : PlainAttrs T) (slot : Slot T name id) (hty : typeOf (.builtin id) = pure (.type "method_descriptor")) (hm : MtR X id r) (l : LiftM X.K r rd)
    (ho : DE X W o to) (ha : DA X W (e :: es) t) (hbase : attributeBase o name X.env (eval o X.env) = eval o X.env := by rfl)
    (hfew : ((backTo cpos (starEach (e :: es) X.env)).all (fun x => !x.1) && (backToKw cpos (keywordEach [] X.env)).all (fun x => x.1.isSome)
      && decide ((e :: es).length + ([] : List Keyword).length + (if ([] : List Keyword).isEmpty then 0 else 1) < 30)) = true := by rfl)
    (hline : (apos.endLine == cpos.line) = true := by rfl) (hs : starEach (e :: es) X.env = (false, eval e X.env) :: starEach es X.env := by rfl) (hplain : (backTo cpos (starEach es X.env)).any (·.1) = false := by rfl) :
    DE X W (.Call (.Attribute o name apos) (e :: es) [] cpos) (dBM T rd to t) :=
  ⟨PE.imp (pe_bm pa slot hty hm ho.p ha.p hbase hfew hline hs hplain) fun σ H Q ⟨σd, S, fr, Qd, ok, cl, h, k⟩ =>
    ⟨σd, S, fr, _, ok, cl, h, fun x dx H1 S1 ok1 r1 q => ⟨tyM_V ok1.rel r1 q.1, σd, S1, (x, dx) :: fr, _, ok1.cons r1, cl.tail, q.2, fun vs ds H2 S2 ok2 r2 q2 =>
      l H2 S2 fr σd σ x dx vs ds Q Qd ok2.tail ok2.head r2 q2 k⟩⟩⟩
/-! ### what a loop walks -/
structure ItD (K : PySem.W.Frag) (J : It) (xs : List D) (fr : List (V × D)) : Prop where
  go : ∀ (i : Nat) (d : D), xs[i]? = some d → ∀ H S σd σ, Ok K H S fr σd σ → J.go i H ∧ ∀ x H', J.yld i H x H' → Ok K H' S fr σd σ ∧ Rp K H' S d x
  stop : ∀ H S σd σ, Ok K H S fr σd σ → J.stop xs.length H
abbrev TID := Si → Sd → (List D → Sd → Prop) → Prop
def upI (K : PySem.W.Frag) (W : Wi) (t : TID) : TI := fun σ H R => ∃ σd S fr Rd, Ok K H S fr σd σ ∧ Cl K W fr ∧ t σd S Rd ∧ ∀ J xs H' S' fr', Ok K H' S' (fr' ++ fr) σd σ → ItD K J xs (fr' ++ fr) → Rd xs S' → R J H'
structure DI (X : Cx) (W : Wi) (tg iter : Expr) (t : TID) : Prop where
  p : PI X tg iter (upI X.K W t)
theorem PI.imp {tg iter : Expr} {t t' : TI} (h : PI X tg iter t) (k : ∀ σ H Q, t' σ H Q → t σ H Q) : PI X tg iter t' := ⟨fun pins s σ H Q I q => h.run pins s σ H Q I (k _ _ _ q)⟩
theorem itd_list {K : PySem.W.Frag} {a : Addr} {ds : List D} {fr : List (V × D)} : ItD K (Itl K a) ds ((.ref a, .lst ds) :: fr) where
  go := fun i d e H S σd σ ok => by
    obtain ⟨a', vs, e1, q, r⟩ := rp_list ok.rel ok.head
    have e1' : V.ref a = .ref a' := e1
    cases e1'
    obtain ⟨v, h1, h2⟩ := rpL_get r e
    refine ⟨⟨vs, v, q, h1⟩, fun x H' y => ?_⟩
    obtain ⟨e2, y⟩ := y
    subst e2
    have h3 := y vs q
    rw [h1] at h3
    cases h3
    exact ⟨ok, h2⟩
  stop := fun H S σd σ ok => by
    obtain ⟨a', vs, e1, q, r⟩ := rp_list ok.rel ok.head
    have e1' : V.ref a = .ref a' := e1
    cases e1'
    exact ⟨vs, q, by rw [rpL_len r]; exact Nat.le_refl _⟩
theorem itd_tup {K : PySem.W.Frag} {a : Addr} {ds : List D} {fr : List (V × D)} : ItD K (Itt K a) ds ((.ref a, .tup ds) :: fr) where
  go := fun i d e H S σd σ ok => by
    obtain ⟨a', vs, e1, q, r⟩ := ok.head
    have e1' : V.ref a = .ref a' := e1
    cases e1'
    obtain ⟨v, h1, h2⟩ := rpL_get r e
    refine ⟨⟨vs, v, q, h1⟩, fun x H' y => ?_⟩
    obtain ⟨e2, y⟩ := y
    subst e2
    have h3 := y vs q
    rw [h1] at h3
    cases h3
    exact ⟨ok, h2⟩
  stop := fun H S σd σ ok => by
    obtain ⟨a', vs, e1, q, r⟩ := ok.head
    have e1' : V.ref a = .ref a' := e1
    cases e1'
    exact ⟨vs, q, by rw [rpL_len r]; exact Nat.le_refl _⟩
def rgD (lo : Int) (n : Nat) : List D := (List.range n).map fun (i : Nat) => D.int (lo + i)
theorem itd_rng {K : PySem.W.Frag} {lo : Int} {n : Nat} {fr : List (V × D)} : ItD K (Itr lo n) (rgD lo n) fr where
  go := fun i d e H S σd σ ok => by
    unfold rgD at e
    rw [List.getElem?_map] at e
    cases q : (List.range n)[i]? with
    | none => rw [q] at e; cases e
    | some j =>
      rw [q] at e
      cases e
      obtain ⟨h1, h2⟩ := List.getElem?_eq_some_iff.mp q
      rw [List.getElem_range] at h2
      subst h2
      refine ⟨show i < n by simpa using h1, fun x H' y => ?_⟩
      obtain ⟨e2, y⟩ := y
      subst e2
      subst y
      exact ⟨ok, rfl⟩
  stop := fun H S σd σ ok => by
    unfold rgD
    rw [List.length_map, List.length_range]
    exact Nat.le_refl n
def dRng1 (ta : TAD) : TID := fun σ S R => ta σ S fun xs S1 => match xs with
  | [.int j] => (-(2 ^ 62) ≤ j ∧ j < 2 ^ 62) ∧ R (rgD 0 j.toNat) S1
  | _ => False
def dRng2 (ta : TAD) : TID := fun σ S R => ta σ S fun xs S1 => match xs with
  | [.int i, .int j] => (-(2 ^ 62) ≤ i ∧ i < 2 ^ 62 ∧ -(2 ^ 62) ≤ j ∧ j < 2 ^ 62) ∧ R (rgD i (j - i).toNat) S1
  | _ => False
theorem di_rng1 {a tg : Expr} {ta : TAD} {p pos : Pos} (hg : Gl X "range") (hm : X.mg "range" = none) (ha : DA X W [a] ta) (hs : starEach [a] X.env = [(false, eval a X.env)] := by rfl) : DI X W tg (.Call (.Name "range" p) [a] [] pos) (dRng1 ta) :=
  ⟨PI.imp (pi_range1 hg hm ha.p hs) fun σ H R ⟨σd, S, fr, Rd, ok, cl, h, k⟩ => ⟨σd, S, fr, _, ok, cl, h, fun vs ds H1 S1 ok1 r1 q => by
    cases ds with
    | nil => exact (show False from q).elim
    | cons d r => cases r with
      | cons _ _ => cases d <;> exact (show False from q).elim
      | nil => cases d with
        | int j =>
          obtain ⟨v, rfl, r2⟩ := rpL1 r1
          have e : v = .int j := r2
          subst e
          exact ⟨j, rfl, q.1.1, q.1.2, k _ _ H1 S1 [] ok1 itd_rng q.2⟩
        | _ => exact (show False from q).elim⟩⟩
theorem di_rng2 {a b tg : Expr} {ta : TAD} {p pos : Pos} (hg : Gl X "range") (hm : X.mg "range" = none) (ha : DA X W [a, b] ta) (hs : starEach [a, b] X.env = [(false, eval a X.env), (false, eval b X.env)] := by rfl) (hs2 : starEach [b] X.env = [(false, eval b X.env)] := by rfl) : DI X W tg (.Call (.Name "range" p) [a, b] [] pos) (dRng2 ta) :=
  ⟨PI.imp (pi_range2 hg hm ha.p hs hs2) fun σ H R ⟨σd, S, fr, Rd, ok, cl, h, k⟩ => ⟨σd, S, fr, _, ok, cl, h, fun vs ds H1 S1 ok1 r1 q => by
    cases ds with
    | nil => exact (show False from q).elim
    | cons d r => cases r with
      | nil => cases d <;> exact (show False from q).elim
      | cons d2 r => cases r with
        | cons _ _ => cases d <;> cases d2 <;> exact (show False from q).elim
        | nil => cases d with
          | int i => cases d2 with
            | int j =>
              obtain ⟨v, w, rfl, r2, r3⟩ := rpL2 r1
              have e : v = .int i := r2
              have e2 : w = .int j := r3
              subst e e2
              exact ⟨i, j, rfl, q.1, k _ _ H1 S1 [] ok1 itd_rng q.2⟩
            | _ => exact (show False from q).elim
          | _ => cases d2 <;> exact (show False from q).elim⟩⟩

/-! ### for -/
def dLoop (g : TGD) (tb : TSD) (D : EndsD) : List Dv.D → Si → Sd → Prop
  | [], σ, S => D.nx σ S
  | x :: r, σ, S => g x σ S fun σ2 S2 => tb { D with nx := dLoop g tb D r, ct := dLoop g tb D r, bk := D.nx } σ2 S2
def dFor (ti : TID) (g : TGD) (tb : TSD) : TSD := fun D σ S => ti σ S fun xs S1 => dLoop g tb D xs σ S1
theorem ds_for {vs : List Nat} {tg iter : Expr} {body : List Stmt} {ti : TID} {g : TGD} {tb : TSD} (hp : PassesOwn (model X.prog X.w) X.A X.env X.xe) (hc : X.calm = true) (hi : DI X W tg iter ti) (hg : DG X W vs tg g) (hb : DB X W body tb)
    (hs : ∀ x, foldedSetIterable iter X.env x = pure x := by intro _; rfl) : DS X W (.For tg iter body [] pos) (dFor ti g tb) :=
  ⟨PS.imp (ps_for hp hc hi.p hg.p hb.p hs) fun D σ H ⟨σd, S, fr, Dd, ok, cl, h, k⟩ => ⟨σd, S, fr, _, ok, cl, h, fun J xs H1 S1 fr' ok1 it q => by
    refine ⟨fun i m σ' H' => m = xs.length - i ∧ i ≤ xs.length ∧ ∃ σd' S', Ok X.K H' S' (fr' ++ fr) σd' σ' ∧ dLoop g tb Dd (xs.drop i) σd' S', ⟨_, rfl, Nat.zero_le _, σd, S1, ok1, by simpa using q⟩, ?_⟩
    rintro i m σ' H' ⟨rfl, hi, σd', S', ok', q'⟩
    by_cases hlt : i < xs.length
    · have ex : xs[i]? = some xs[i] := List.getElem?_eq_getElem hlt
      have dr : xs.drop i = xs[i] :: xs.drop (i + 1) := List.drop_eq_getElem_cons hlt
      rw [dr] at q'
      obtain ⟨g1, g2⟩ := it.go i _ ex H' S' σd' σ' ok'
      refine .inr ⟨g1, fun σ2 H2 => ∃ σd2 S2, Ok X.K H2 S2 (fr' ++ fr) σd2 σ2 ∧ dLoop g tb Dd (xs.drop (i + 1)) σd2 S2, fun σ2 H2 ⟨σd2, S2, h1, h2⟩ => ⟨_, by omega, rfl, hlt, σd2, S2, h1, h2⟩, fun x H2 y => ?_⟩
      obtain ⟨ok2, r2⟩ := g2 x H2 y
      refine ⟨σd', S', fr' ++ fr, _, xs[i], ok2, cl.pre, r2, q', fun σ3 σd3 H3 S3 ok3 _ q3 => ⟨σd3, S3, fr' ++ fr, _, ok3, cl.pre, q3, ?_⟩⟩
      exact ⟨fun σd4 σ4 H4 S4 ok4 q4 => ⟨σd4, S4, ok4, q4⟩, fun v d σd4 σ4 H4 S4 ok4 r4 q4 => k.rt v d σd4 σ4 H4 S4 ok4.pre r4 q4, fun σd4 σ4 H4 S4 ok4 q4 => k.nx σd4 σ4 H4 S4 ok4.pre q4, fun σd4 σ4 H4 S4 ok4 q4 => ⟨σd4, S4, ok4, q4⟩⟩
    · have e : i = xs.length := by omega
      subst e
      rw [List.drop_length] at q'
      exact .inl ⟨it.stop H' S' σd' σ' ok', k.nx σd' σ' H' S' ok'.pre q'⟩⟩⟩

/-! ### while -/
def dWhile (c : TTD) (tb : TSD) : TSD := fun D σ S => ∃ Wd : Nat → Si → Sd → Prop, (∃ m, Wd m σ S) ∧ ∀ m σ S, Wd m σ S →
  c σ S fun b S1 => if b = true then tb { D with nx := fun σ' S' => ∃ m', m' < m ∧ Wd m' σ' S', ct := fun σ' S' => ∃ m', m' < m ∧ Wd m' σ' S', bk := D.nx } σ S1 else D.nx σ S1
theorem ds_while {body : List Stmt} {tb : TSD} (hp : PassesOwn (model X.prog X.w) X.A X.env X.xe) (hc : DT X W c tc) (hb : DB X W body tb) : DS X W (.While c body [] pos) (dWhile tc tb) :=
  ⟨PS.imp (ps_while hp hc.p hb.p) fun D σ H ⟨σd, S, fr, Dd, ok, cl, ⟨Wd, ⟨m, w⟩, hw⟩, k⟩ =>
    ⟨fun m σ' H' => ∃ σd' S', Ok X.K H' S' fr σd' σ' ∧ Wd m σd' S', ⟨m, σd, S, ok, w⟩, fun m σ' H' ⟨σd', S', ok', w'⟩ => ⟨σd', S', fr, _, ok', cl, hw m σd' S' w', fun b H1 S1 ok1 q => by
      cases b with
      | true =>
        refine (show ∃ N : L2.St → Hp → Prop, _ from ⟨fun σ2 H2 => ∃ m' σd2 S2, m' < m ∧ Ok X.K H2 S2 fr σd2 σ2 ∧ Wd m' σd2 S2, fun σ2 H2 ⟨m', σd2, S2, h1, h2, h3⟩ => ⟨m', h1, σd2, S2, h2, h3⟩, σd', S1, fr, _, ok1, cl, (if_pos rfl : _ = _) ▸ q, ?_⟩)
        exact ⟨fun σd4 σ4 H4 S4 ok4 ⟨m', h1, h2⟩ => ⟨m', σd4, S4, h1, ok4, h2⟩, k.rt, k.nx, fun σd4 σ4 H4 S4 ok4 ⟨m', h1, h2⟩ => ⟨m', σd4, S4, h1, ok4, h2⟩⟩
      | false => exact (show D.nx σ' H1 from k.nx σd' σ' H1 S1 ok1 (by simpa using q))⟩⟩⟩
end
end Dv

/-! Readings by value, 5: comprehensions, defs, the law's end. -/
namespace Dv
open PySem L2 PyProof.Rows

def wipeD (σ : Si) : List Nat → Si
  | [] => σ
  | v :: vs => (wipeD σ vs).set v none
section
variable {K : PySem.W.Frag} {H : Hp} {S : Sd} {fr : List (V × D)} {σd : Si} {σ : L2.St}
theorem Ok.wipe (o : Ok K H S fr σd σ) : ∀ vs : List Nat, Ok K H S fr (wipeD σd vs) (L2.wipe σ vs)
  | [] => o
  | v :: vs => (Ok.wipe o vs).gone v none
theorem wipe_wipe (σ : L2.St) (vs : List Nat) : L2.wipe (L2.wipe σ vs) vs = L2.wipe σ vs := by
  have gen : ∀ (ws : List Nat), (∀ w ∈ ws, w ∈ vs) → L2.wipe (L2.wipe σ ws) vs = L2.wipe σ vs := by
    intro ws
    induction ws with
    | nil => intro _; rfl
    | cons w ws ih =>
      intro h
      show L2.wipe ((L2.wipe σ ws).set w none) vs = L2.wipe σ vs
      rw [wipe_set (h w List.mem_cons_self)]
      exact ih fun x hx => h x (List.mem_cons_of_mem _ hx)
  exact gen vs fun _ h => h
end

section
variable {X : Cx} {W : Wi} {pos : Pos}
structure DTs (X : Cx) (W : Wi) (ifs : List Expr) (t : TTD) : Prop where
  p : PTs X ifs (upT X.K W t)
theorem PTs.imp {ifs : List Expr} {t t' : TT} (h : PTs X ifs t) (k : ∀ σ H Q, t' σ H Q → t σ H Q) : PTs X ifs t' := ⟨fun pins s σ H Q I q => h.run pins s σ H Q I (k _ _ _ q)⟩
def dYes : TTD := fun _ S Q => Q true S
theorem dts_nil : DTs X W [] dYes := ⟨PTs.imp pts_nil fun σ H Q ⟨σd, S, fr, Qd, ok, cl, h, k⟩ => k true H S ok h⟩
def dLcL (g : TGD) (tt : TTD) (te : TED) (p : Addr) (σw : Si) : List D → List D → Sd → (List D → Sd → Prop) → Prop
  | [], acc, S, Q => Q acc S
  | x :: r, acc, S, Q => g x σw S fun σ2 S2 => tt σ2 S2 fun b S3 => if b = true then te σ2 S3 fun y S4 => S4 p = some (.lst acc) ∧ acc.length < 16777216 ∧ dLcL g tt te p σw r (acc ++ [y]) (upS S4 p (.lst (acc ++ [y]))) Q
    else dLcL g tt te p σw r acc S3 Q
def dComp (ti : TID) (g : TGD) (tt : TTD) (te : TED) (vs : List Nat) : TED := fun σ S Q => ti σ S fun xs S1 => ∀ p, S1 p = none → dLcL g tt te p (wipeD σ vs) xs [] (upS S1 p (.lst [])) fun acc S2 => S2 p = some (.lst acc) ∧ Q (.lst acc) (del S2 p)
theorem lc_lift {K : PySem.W.Frag} {ti : TID} {g : TGD} {tt : TTD} {te : TED} {vs : List Nat} (σ : L2.St) (H : Hp) (Q : VK) (h : upE K W (dComp ti g tt te vs) σ H Q) :
    tLc (upI K W ti) (upG K W0 vs g) (upT K W0 tt) (upE K W0 te) vs σ H Q := by
  obtain ⟨σd, S, fr, Qd, ok, cl, h, k⟩ := h
  refine ⟨σd, S, fr, _, ok, cl, h, fun J xs H1 S1 fr' ok1 it q => ?_⟩
  intro Dl hD
  have q0 := q Dl (ok1.rel.free hD)
  have ok2 : Ok K (upd H1 Dl (.lst [])) (upS S1 Dl (.lst [])) (fr' ++ fr) σd σ := ok1.own hD rpL_nil
  have Fin : (List D → Sd → Prop) := fun acc S2 => S2 Dl = some (.lst acc) ∧ Qd (.lst acc) (del S2 Dl)
  refine ⟨fun i m H' => m = xs.length - i ∧ i ≤ xs.length ∧ ∃ S' acc, RelS K H' S' ∧ FrOk K H' S' ((fr' ++ fr) ++ prs σd σ) ∧ dLcL g tt te Dl (wipeD σd vs) (xs.drop i) acc S' (fun acc S2 => S2 Dl = some (.lst acc) ∧ Qd (.lst acc) (del S2 Dl)),
    ⟨_, rfl, Nat.zero_le _, _, [], ok2.rel, ok2.out, by simpa using q0⟩, ?_⟩
  rintro i m H' ⟨rfl, hi, S', acc, R', F', q'⟩
  have okp : Ok K H' S' ((fr' ++ fr) ++ prs σd σ) σd σ := ⟨R', F', ok.len, fun i d e => by
    obtain ⟨v, h1, _⟩ := ok.si i d e
    exact ⟨v, h1, F' (v, d) (List.mem_append_right _ (prs_mem h1 e))⟩⟩
  have ok' : Ok K H' S' (fr' ++ fr) σd σ := ⟨R', fun p hp => F' p (List.mem_append_left _ hp), okp.len, okp.si⟩
  by_cases hlt : i < xs.length
  · have ex : xs[i]? = some xs[i] := List.getElem?_eq_getElem hlt
    have dr : xs.drop i = xs[i] :: xs.drop (i + 1) := List.drop_eq_getElem_cons hlt
    rw [dr] at q'
    obtain ⟨g1, g2⟩ := it.go i _ ex H' S' σd σ ok'
    refine .inr ⟨g1, fun H2 => ∃ S2 acc2, RelS K H2 S2 ∧ FrOk K H2 S2 ((fr' ++ fr) ++ prs σd σ) ∧ dLcL g tt te Dl (wipeD σd vs) (xs.drop (i + 1)) acc2 S2 (fun acc S2 => S2 Dl = some (.lst acc) ∧ Qd (.lst acc) (del S2 Dl)), fun H2 ⟨S2, acc2, h1, h2, h3⟩ => ⟨_, by omega, rfl, hlt, S2, acc2, h1, h2, h3⟩, fun x H2 y => ?_⟩
    obtain ⟨ok3, _⟩ := g2 x H2 y
    obtain ⟨_, r2⟩ := (it.go i _ ex H' S' σd σ ok').2 x H2 y
    have okp3 : Ok K H2 S' ((fr' ++ fr) ++ prs σd σ) σd σ := ⟨ok3.rel, ok3.out, ok3.len, ok3.si⟩
    refine ⟨wipeD σd vs, S', (fr' ++ fr) ++ prs σd σ, _, xs[i], okp3.wipe vs, Cl.zero, r2, q', fun σ3 σd3 H3 S3 ok4 hw q3 => ⟨hw.trans (wipe_wipe σ vs), σd3, S3, (fr' ++ fr) ++ prs σd σ, _, ok4, Cl.zero, q3, fun b H4 S4 ok5 q4 => ?_⟩⟩
    cases b with
    | true =>
      refine (show upE K W0 te σ3 H4 _ from ⟨σd3, S4, (fr' ++ fr) ++ prs σd σ, _, ok5, Cl.zero, (by simpa using q4), fun y dy H5 S5 ok6 r6 q5 => ?_⟩)
      obtain ⟨p1, p2, p3⟩ := q5
      obtain ⟨ws, hv, rl⟩ := rp_obj ok6.rel p1
      have st : Step H5 S5 (upd H5 Dl (.lst (ws ++ [y]))) (upS S5 Dl (.lst (acc ++ [dy]))) := step_set p1
      have okf := ok6.step st (rel_set ok6.rel p1 ⟨_, upd_same, rpL_step ok6.rel st _ _ (rpL_app rl (rpL_cons r6 rpL_nil))⟩)
      exact ⟨ws, hv, by rw [← rpL_len rl]; exact sz_lt' p2, _, _, okf.rel, okf.fr, p3⟩
    | false => exact ⟨S4, acc, ok5.rel, ok5.fr, by simpa using q4⟩
  · have e : i = xs.length := by omega
    subst e
    rw [List.drop_length] at q'
    obtain ⟨p1, p2⟩ := q'
    exact .inl ⟨it.stop H' S' σd σ ok', k _ (.lst acc) H' _ (ok'.pre.step step_del (rel_del ok'.rel)) (rp_frozen ok'.rel p1) p2⟩
theorem de_lc {elt tg iter : Expr} {ifs : List Expr} {scope : Scope} {own : List (Str × Nat)} {ti : TID} {g : TGD} {tt : TTD} {te : TED} (hc : X.calm = true) (hN : X.N.Nodup) (hi : DI X W tg iter ti) (ok : BlkOk X.N X.env.scope scope own)
    (hg : ∀ (s : Shared) (H : Hp) (C : Addr) (cl : List (Str × Addr)) (fp : List Addr), DG (X.blk s H scope (compEnvC scope cl C X.env) fp) W0 (own.map (·.2)) tg g) (ht : ∀ (s : Shared) (H : Hp) (C : Addr) (cl : List (Str × Addr)) (fp : List Addr), DTs (X.blk s H scope (compEnvC scope cl C X.env) fp) W0 ifs tt)
    (he : ∀ (s : Shared) (H : Hp) (C : Addr) (cl : List (Str × Addr)) (fp : List Addr), DE (X.blk s H scope (compEnvC scope cl C X.env) fp) W0 elt te) (hs : ∀ x, foldedSetIterable iter X.env x = pure x := by intro _; rfl) :
    DE X W (.ListComp elt [⟨tg, iter, ifs, 0⟩] scope pos) (dComp ti g tt te (own.map (·.2))) :=
  ⟨PE.imp (pe_lc hc hN hi.p ok (fun s H C cl fp => (hg s H C cl fp).p) (fun s H C cl fp => (ht s H C cl fp).p) (fun s H C cl fp => (he s H C cl fp).p) hs) fun σ H Q h => lc_lift σ H Q h⟩
theorem ds_setLc (i : Nat) {y : Str} {py : Pos} {elt tg iter : Expr} {ifs : List Expr} {scope : Scope} {own : List (Str × Nat)} {spos : Pos} {ti : TID} {g : TGD} {tt : TTD} {te : TED} (hc : X.calm = true) (hN : X.N.Nodup) (hy : X.N[i]? = some y) (hyl : X.env.scope.names.lookup y = some .local)
    (hsw : swapsWith (.ListComp elt [⟨tg, iter, ifs, 0⟩] scope pos) (some (.Name y py)) spos.line X.env = pure true) (hi : DI X W tg iter ti) (ok : BlkOk X.N X.env.scope scope own)
    (hg : ∀ (s : Shared) (H : Hp) (C : Addr) (cl : List (Str × Addr)) (fp : List Addr), DG (X.blk s H scope (compEnvC scope cl C X.env) fp) W0 (own.map (·.2)) tg g) (ht : ∀ (s : Shared) (H : Hp) (C : Addr) (cl : List (Str × Addr)) (fp : List Addr), DTs (X.blk s H scope (compEnvC scope cl C X.env) fp) W0 ifs tt)
    (he : ∀ (s : Shared) (H : Hp) (C : Addr) (cl : List (Str × Addr)) (fp : List Addr), DE (X.blk s H scope (compEnvC scope cl C X.env) fp) W0 elt te) (hs : ∀ x, foldedSetIterable iter X.env x = pure x := by intro _; rfl) :
    DS X W (.Assign [.Name y py] (.ListComp elt [⟨tg, iter, ifs, 0⟩] scope pos) spos) (dSet i (dComp ti g tt te (own.map (·.2)))) :=
  ⟨PS.imp (ps_setLc hc hN hy hyl hsw hi.p ok (fun s H C cl fp => (hg s H C cl fp).p) (fun s H C cl fp => (ht s H C cl fp).p) (fun s H C cl fp => (he s H C cl fp).p) hs) fun D σ H ⟨σd, S, fr, Dd, ok, cl, h, k⟩ =>
    lc_lift (W := W) σ H _ ⟨σd, S, fr, _, ok, cl, h, fun v d H1 S1 ok1 r1 q => k.nx _ _ H1 S1 (ok1.set r1 i) q⟩⟩
end

/-! ### defs -/
def startD (N : List Str) (ds : List D) : Si := ds.map some ++ List.replicate (N.length - ds.length) none
theorem start_ok {K : PySem.W.Frag} {H : Hp} {S : Sd} {fr : List (V × D)} {N : List Str} {ds : List D} {vs : List V} (R : RelS K H S) (F : FrOk K H S fr) (r : RpL K H S ds vs) : Ok K H S fr (startD N ds) (L2.start N vs) := by
  have hl := rpL_len r
  refine ⟨R, F, by unfold startD L2.start; simp [hl], fun i d e => ?_⟩
  unfold startD at e
  unfold L2.start
  rcases Nat.lt_or_ge i ds.length with z | z
  · rw [List.getElem?_append_left (by simpa using z), List.getElem?_map] at e
    cases q : ds[i]? with
    | none => rw [q] at e; cases e
    | some d' =>
      rw [q] at e
      cases e
      obtain ⟨v, h1, h2⟩ := rpL_get r q
      exact ⟨v, by rw [List.getElem?_append_left (by simpa [← hl] using z), List.getElem?_map, h1]; rfl, h2⟩
  · rw [List.getElem?_append_right (by simpa using z), List.getElem?_replicate] at e
    split at e <;> cases e
/-- what a body is run in -/
abbrev bodyCx (P : Program) (w : World) (K : PySem.W.Frag) (mg : Str → Option Value) (base : Heap) (N : List Str) (qual : Str) (st : Stmt) (f : Addr) (cdv : Value) (A : Around) (outer : List Env) (s : Shared) (H : Hp) (E : XK) : Cx :=
  cxOf (L2N.CX P w) P w K mg base N qual (defScope st) f cdv A outer s H E
abbrev wiOf (E : XK) (Ed : XKD) : Wi := ⟨fun cls d _ H => E cls d H, fun x _ S => Ed x S⟩
theorem takesB {P : Program} {w : World} {K : PySem.W.Frag} {mg : Str → Option Value} {base : Heap} {N : List Str} {qual : Str} {st : Stmt} {f : Addr} {cdv : Value} {A : Around} {outer : List Env} {s : Shared} {H : Hp} {E : XK} {Ed : XKD} :
    L2N.Takes (bodyCx P w K mg base N qual st f cdv A outer s H E) (wiOf E Ed).V := L2N.takes_of rfl rfl rfl rfl
theorem passB {P : Program} {w : World} {K : PySem.W.Frag} {mg : Str → Option Value} {base : Heap} {N : List Str} {qual : Str} {st : Stmt} {f : Addr} {cdv : Value} {A : Around} {outer : List Env} {s : Shared} {H : Hp} {E : XK} :
    PassesOwn (model P w) (bodyCx P w K mg base N qual st f cdv A outer s H E).A (bodyCx P w K mg base N qual st f cdv A outer s H E).env (bodyCx P w K mg base N qual st f cdv A outer s H E).xe :=
  passes_of (X := bodyCx P w K mg base N qual st f cdv A outer s H E) rfl
section
variable {P : Program} {w : World} {K : PySem.W.Frag} {mg : Str → Option Value} {base : Heap}
/-- THE RULE for a def -/
theorem okD {x qual : Str} {st : Stmt} {f : Addr} {fd : FuncData} {N ps : List Str} {k : Nat} {sp : SpD} {t : XKD → TSD} (F : Fun K x qual st f fd) (Sc : FnScope N ps (defScope st)) (len : ∀ ds S Q E, sp ds S Q E → ds.length = ps.length)
    (hb : ∀ (cdv : Value) (A : Around) (outer : List Env) (s : Shared) (H : Hp) (E : XK) (Ed : XKD), Hx.RoomG k (A.deeper (envOfC qual (defScope st) s.heap.objs.size f cdv)) → DB (bodyCx P w K mg base N qual st f cdv A outer s H E) (wiOf E Ed) (defBody st) (t Ed))
    (hp : ∀ ds S Q Ed, sp ds S Q Ed → t Ed { nx := fun _ S' => Q .non S', rt := Q } (startD N ds) S) : Hx.FnG P w K mg base (L2N.CX P w) (k + 1) f fd ps (upF K sp) := by
  refine Hx.fnG_of F Sc (fun vs H Q E h => ?_) (fun cdv _ A outer s H vs Q E hr h => ?_)
  · obtain ⟨ds, S, fr, Qd, Ed, R, f, r, h, _⟩ := h
    rw [← rpL_len r]
    exact len ds S Qd Ed h
  · obtain ⟨ds, S, fr, Qd, Ed, R, f, r, h, hq, hx⟩ := h
    refine ⟨_, (hb cdv A outer s H E Ed hr).p, startD N ds, S, fr, { nx := fun _ S' => Qd .non S', rt := Qd }, start_ok R f r, fun σd σ H' S' cls od y o rx q => hx cls od y H' S' o.rel o.fr rx q, hp ds S Qd Ed h, ?_⟩
    exact ⟨fun σd σ H' S' o q => hq .non .non H' S' o.rel o.fr rfl q, fun v d σd σ H' S' o rv q => hq v d H' S' o.rel o.fr rv q, fun _ _ _ _ _ q => q.elim, fun _ _ _ _ _ q => q.elim⟩
end
/-- law's promise -/
def spLawD : SpD := fun ds S Q _ => ∃ ns : List Int, ds = [.lst (ns.map D.int)] ∧ ns.length ≤ 63 ∧ (∀ S', Q (.bl true) S')
theorem law_start {K : PySem.W.Frag} {H : Hp} {a : Addr} {ns : List Int} (h : SqL K H a (ns.map V.int)) (hl : ns.length ≤ 63) : upF K spLawD [.ref a] H (fun v _ => v = .bl true) fun _ _ _ => False := by
  refine ⟨[.lst (ns.map D.int)], fun _ => none, [], fun d _ => d = .bl true, fun _ _ => False, fun a o e => (by cases e), fun p hp => (by cases hp), ?_, ⟨ns, rfl, hl, fun _ => rfl⟩, fun v d H' S' _ _ r e => ?_, fun _ _ _ _ _ _ _ _ q => q⟩
  · refine rpL_cons ⟨a, ns.map V.int, rfl, ?_, rpL_of_ints⟩ rpL_nil
    rcases h with h | h
    · exact .inl ⟨h, rfl⟩
    · exact .inr h
  · subst e
    exact r
theorem CX_no {P : Program} {w : World} {outer : List Env} {H : Hp} {s : Shared} {e : Value} {s' : Shared} (h : L2N.CX P w outer H s (fun _ _ _ => False) e s') : False := by
  obtain ⟨_, _, _, _, _, _, _, _, _, _, _, _, z⟩ := h
  exact z.elim
end Dv

/-! Readings by value, 6: more of the built-ins. -/
namespace PyProof.Rows
open PySem
section
variable {prog : Program} {w : World} {A : Around} {E : Value → Shared → Prop} {s : Shared}
end
end PyProof.Rows

namespace HT
open PySem PyProof.Rows
section
variable {prog : Program} {w : World} {A : Around} {E : Value → Shared → Prop} {s : Shared}
end
end HT

namespace Dv
open PySem L2 PyProof.Rows
section
variable {X : Cx}
/-! ### a text times an int -/
def repS (x : Str) (n : Nat) : Str := ⟨(List.replicate n x.cps).foldl (· ++ ·) #[]⟩
def rRepS : R2 := fun x y H Q => ∃ z k, x = .str z ∧ y = .int k ∧ 0 ≤ k ∧ (z.length : Int) * k ≤ 16777216 ∧ k ≤ 16777216 ∧ Q (.str (repS z k.toNat)) H
theorem fold_rep (x : Array Nat) : ∀ (n : Nat) (acc : Array Nat), ((List.replicate n x).foldl (· ++ ·) acc).toList = acc.toList ++ (List.replicate n x.toList).flatten
  | 0, acc => by simp
  | n + 1, acc => by
    rw [List.replicate_succ, List.foldl_cons, fold_rep x n (acc ++ x)]
    simp [List.replicate_succ]
theorem repS_list (x : Str) (n : Nat) : (repS x n).cps.toList = (List.replicate n x.cps.toList).flatten := by
  unfold repS
  rw [fold_rep]
  rfl
theorem str_ext {x y : Str} (h : x.cps.toList = y.cps.toList) : x = y := by
  cases x; cases y
  congr 1
  exact Array.toList_inj.mp h
theorem op_mulS : OpR X (binaryOp .Mult) rRepS := by
  intro pins s σ H x y v u Q I rx ry h
  obtain ⟨z, k, rfl, rfl, h0, hz, hk, q⟩ := h
  obtain ⟨t, rfl⟩ := rx
  obtain ⟨t', rfl⟩ := ry
  refine PySem.P.mul_str ?_ ?_ ?_ ?_
  · have h1 : ¬ k < -(2 ^ 63 : Int) := by omega
    have h2 : ¬ k ≥ 2 ^ 63 := by omega
    rw [decide_eq_false h1, decide_eq_false h2]; rfl
  · intro h1 h2 h3
    have p1 : (0 : Int) < k := by omega
    have e2 : ((2 ^ 63 - 1 : Int) / k + 1) * k > 2 ^ 63 - 1 := by
      have := Int.lt_ediv_add_one_mul_self (2 ^ 63 - 1 : Int) p1
      omega
    have e3 : (2 ^ 63 - 1 : Int) / k + 1 ≤ z.length := by omega
    have e4 : ((2 ^ 63 - 1 : Int) / k + 1) * k ≤ z.length * k := Int.mul_le_mul_of_nonneg_right e3 (by omega)
    omega
  · intro h1 h2
    have e : ((z.length * k.toNat : Nat) : Int) = z.length * k := by
      rw [Int.natCast_mul, Int.toNat_of_nonneg h0]
    refine decide_eq_false ?_
    rw [sl_eq]
    omega
  · by_cases h1 : k < 1
    · rw [if_pos h1]
      have e : k = 0 := by omega
      subst e
      exact ⟨by decide, ⟨.str (repS z 0), H, I.tok _, ⟨_, rfl⟩, q⟩⟩
    · rw [if_neg h1]
      by_cases h2 : (k == 1 || z.length == 0) = true
      · rw [if_pos h2]
        have e : repS z k.toNat = z := by
          refine str_ext ?_
          rw [repS_list]
          rcases Bool.or_eq_true_iff.mp h2 with e | e
          · have e1 : k = 1 := eq_of_beq e
            subst e1
            simp
          · have e1 : z.length = 0 := eq_of_beq e
            have e2 : z.cps.toList = [] := List.length_eq_zero_iff.mp (by simpa [Str.length] using e1)
            rw [e2]
            simp
        rw [e] at q
        exact ⟨.str z, H, I, ⟨_, rfl⟩, q⟩
      · rw [if_neg h2]
        have hl : (repS z k.toNat).length ≤ sizeLine := by
          have e : (repS z k.toNat).length = k.toNat * z.length := by
            have := congrArg List.length (repS_list z k.toNat)
            simpa [Str.length] using this
          have e2 : ((k.toNat * z.length : Nat) : Int) = k * z.length := by
            rw [Int.natCast_mul, Int.toNat_of_nonneg h0]
          have e3 : k * (z.length : Int) = z.length * k := Int.mul_comm _ _
          rw [e, sl_eq]
          omega
        exact ⟨hl, ⟨.str (repS z k.toNat), H, I.tok _, ⟨_, rfl⟩, q⟩⟩
def rdMul : RD2
  | .int i, .int j, S, Q => i.natAbs.log2 + j.natAbs.log2 < 1000000 ∧ Q (.int (i * j)) S
  | .str z, .int k, S, Q => (0 ≤ k ∧ (z.length : Int) * k ≤ 16777216 ∧ k ≤ 16777216) ∧ Q (.str (repS z k.toNat)) S
  | _, _, _, _ => False
end

/-! ### xs[::-1] -/
section
variable {X : Cx} {W : Wi} {e : Expr} {te : TED} {pos : Pos}
def revS (z : Str) : Str := ⟨z.cps.toList.reverse.toArray⟩
def dRev (te : TED) : TED := fun σ S Q => te σ S fun x S1 => match x with
  | .tup ds => Q (.tup ds.reverse) S1
  | .lst ds => Q (.lst ds.reverse) S1
  | .str z => z.length ≤ 16777216 ∧ Q (.str (revS z)) S1
  | .obj a => match S1 a with
    | some (.lst ds) => Q (.lst ds.reverse) S1
    | _ => False
  | _ => False
/-! ### for over a list, a tuple, a text -/
def iAny (K : PySem.W.Frag) (tl : TE) : TI := fun σ H R => tl σ H fun x H1 => (∃ a, x = .ref a ∧ (∃ xs, SqL K H1 a xs) ∧ R (Itl K a) H1) ∨ (∃ a, x = .ref a ∧ (∃ xs, SqT K H1 a xs) ∧ R (Itt K a) H1) ∨ (∃ z, x = .str z ∧ R (Its z) H1)
theorem pi_any {tg : Expr} {tl : TE} (hl : PE X e tl) : PI X tg e (iAny X.K tl) := by
  refine ⟨fun pins s σ H R I h => ?_⟩
  refine thn (hl.run pins s σ H _ I h) fun v s1 ⟨x, H1, I1, r1, q1⟩ => ?_
  rcases q1 with ⟨a, ex, ⟨xs, hq⟩, q⟩ | ⟨a, ex, ⟨xs, hq⟩, q⟩ | ⟨z, ex, q⟩
  · subst ex
    cases r1
    obtain ⟨its, rv, p, hz⟩ := I1.list hq
    refine wpAny_pyIter_list p.isList ?_
    refine ⟨s1.heap.objs.size, [s1.heap.objs.size], _, _, H1, rfl, I1.kept (t' := s1.toks) fun b o e => Heap.get?_push_of_some _ e, turn_list a _, ⟨_, Heap.get?_push_size _ rfl, rfl, rfl⟩, fun b hb => ?_, q⟩
    have e : b = s1.heap.objs.size := by simpa using hb
    subst e
    exact I1.fpOk (Nat.le_refl _) (I1.hok.fresh (Nat.le_refl _))
  · subst ex
    cases r1
    obtain ⟨its, rv, p, hz⟩ := I1.tuple hq
    refine wpAny_pyIter_tuple (show s1.heap.IsTuple a its.toArray from p) ?_
    refine ⟨s1.heap.objs.size, [s1.heap.objs.size], _, _, H1, rfl, I1.kept (t' := s1.toks) fun b o e => Heap.get?_push_of_some _ e, turn_tuple a _, ⟨_, Heap.get?_push_size _ rfl, rfl, rfl⟩, fun b hb => ?_, q⟩
    have e : b = s1.heap.objs.size := by simpa using hb
    subst e
    exact I1.fpOk (Nat.le_refl _) (I1.hok.fresh (Nat.le_refl _))
  · subst ex
    obtain ⟨t, rfl⟩ := r1
    cases ha : z.cps.all (· < 128)
    · exact wpAny_pyIter_wide ha (pi_one (tk := s1.toks) I1 _ (turn_str _ z t "str_iterator" (.inr rfl)) ⟨_, Heap.get?_push_size _ rfl, rfl, rfl⟩ q)
    · exact wpAny_pyIter_ascii ha (pi_one (tk := s1.toks) I1 _ (turn_str _ z t "str_ascii_iterator" (.inl rfl)) ⟨_, Heap.get?_push_size _ rfl, rfl, rfl⟩ q)
def sgD (z : Str) : List D := z.cps.toList.map fun c => D.str ⟨#[c]⟩
theorem itd_str {K : PySem.W.Frag} {z : Str} {fr : List (V × D)} : ItD K (Its z) (sgD z) fr where
  go := fun i d e H S σd σ ok => by
    unfold sgD at e
    rw [List.getElem?_map] at e
    cases q : z.cps.toList[i]? with
    | none => rw [q] at e; cases e
    | some c =>
      rw [q] at e
      cases e
      have q2 : z.cps[i]? = some c := by simpa using q
      refine ⟨(Array.getElem?_eq_some_iff.mp q2).1, fun x H' y => ?_⟩
      obtain ⟨e2, c', e3, y⟩ := y
      subst e2
      rw [q2] at e3
      cases e3
      subst y
      exact ⟨ok, rfl⟩
  stop := fun H S σd σ ok => by
    show z.cps.size ≤ (sgD z).length
    unfold sgD
    simp
def dItr (te : TED) : TID := fun σ S R => te σ S fun x S1 => match x with
  | .lst ds => R ds S1
  | .tup ds => R ds S1
  | .str z => R (sgD z) S1
  | _ => False
theorem di_any {tg : Expr} (hl : DE X W e te) : DI X W tg e (dItr te) := ⟨PI.imp (pi_any hl.p) fun σ H R ⟨σd, S, fr, Rd, ok, cl, h, k⟩ => ⟨σd, S, fr, _, ok, cl, h, fun x dx H1 S1 ok1 r1 q => by
  cases dx with
  | lst ds =>
    obtain ⟨a, vs, e, q1, r2⟩ := rp_list ok1.rel r1
    subst e
    exact .inl ⟨a, rfl, ⟨vs, q1⟩, k _ ds H1 S1 [(.ref a, .lst ds)] (ok1.cons r1) itd_list q⟩
  | tup ds =>
    obtain ⟨a, vs, e, q1, r2⟩ := id r1
    subst e
    exact .inr (.inl ⟨a, rfl, ⟨vs, q1⟩, k _ ds H1 S1 [(.ref a, .tup ds)] (ok1.cons r1) itd_tup q⟩)
  | str z => exact .inr (.inr ⟨z, r1, k _ (sgD z) H1 S1 [] ok1 itd_str q⟩)
  | _ => exact (show False from q).elim⟩⟩

/-! ### a, b, c = x, y, z -/
def dPar3 (i j l : Nat) (ta : TAD) : TSD := fun D σ S => ta σ S fun vs S1 => match vs with
  | [v, w, u] => D.nx (((σ.set i (some v)).set j (some w)).set l (some u)) S1
  | _ => False
end
end Dv

/-! Readings by value, x: the rows by which a reading is run. -/
namespace Dv
open PySem L2 PyProof.Rows
theorem isi_non_int  : isiD (.non) "int" = some false := by
  show kitB "NoneType" "int" = some false
  decide +kernel
theorem isi_non_bool  : isiD (.non) "bool" = some false := by
  show kitB "NoneType" "bool" = some false
  decide +kernel
theorem isi_non_str  : isiD (.non) "str" = some false := by
  show kitB "NoneType" "str" = some false
  decide +kernel
theorem isi_non_tuple  : isiD (.non) "tuple" = some false := by
  show kitB "NoneType" "tuple" = some false
  decide +kernel
theorem isi_non_list  : isiD (.non) "list" = some false := by
  show kitB "NoneType" "list" = some false
  decide +kernel
theorem isi_bl_int (b : Bool) : isiD (.bl b) "int" = some true := by
  show kitB "bool" "int" = some true
  decide +kernel
theorem isi_bl_bool (b : Bool) : isiD (.bl b) "bool" = some true := by
  show kitB "bool" "bool" = some true
  decide +kernel
theorem isi_bl_str (b : Bool) : isiD (.bl b) "str" = some false := by
  show kitB "bool" "str" = some false
  decide +kernel
theorem isi_bl_tuple (b : Bool) : isiD (.bl b) "tuple" = some false := by
  show kitB "bool" "tuple" = some false
  decide +kernel
theorem isi_bl_list (b : Bool) : isiD (.bl b) "list" = some false := by
  show kitB "bool" "list" = some false
  decide +kernel
theorem isi_int_int (i : Int) : isiD (.int i) "int" = some true := by
  show kitB "int" "int" = some true
  decide +kernel
theorem isi_int_bool (i : Int) : isiD (.int i) "bool" = some false := by
  show kitB "int" "bool" = some false
  decide +kernel
theorem isi_int_str (i : Int) : isiD (.int i) "str" = some false := by
  show kitB "int" "str" = some false
  decide +kernel
theorem isi_int_tuple (i : Int) : isiD (.int i) "tuple" = some false := by
  show kitB "int" "tuple" = some false
  decide +kernel
theorem isi_int_list (i : Int) : isiD (.int i) "list" = some false := by
  show kitB "int" "list" = some false
  decide +kernel
theorem isi_str_int (x : Str) : isiD (.str x) "int" = some false := by
  show kitB "str" "int" = some false
  decide +kernel
theorem isi_str_bool (x : Str) : isiD (.str x) "bool" = some false := by
  show kitB "str" "bool" = some false
  decide +kernel
theorem isi_str_str (x : Str) : isiD (.str x) "str" = some true := by
  show kitB "str" "str" = some true
  decide +kernel
theorem isi_str_tuple (x : Str) : isiD (.str x) "tuple" = some false := by
  show kitB "str" "tuple" = some false
  decide +kernel
theorem isi_str_list (x : Str) : isiD (.str x) "list" = some false := by
  show kitB "str" "list" = some false
  decide +kernel
theorem isi_tup_int (xs : List D) : isiD (.tup xs) "int" = some false := by
  show kitB "tuple" "int" = some false
  decide +kernel
theorem isi_tup_bool (xs : List D) : isiD (.tup xs) "bool" = some false := by
  show kitB "tuple" "bool" = some false
  decide +kernel
theorem isi_tup_str (xs : List D) : isiD (.tup xs) "str" = some false := by
  show kitB "tuple" "str" = some false
  decide +kernel
theorem isi_tup_tuple (xs : List D) : isiD (.tup xs) "tuple" = some true := by
  show kitB "tuple" "tuple" = some true
  decide +kernel
theorem isi_tup_list (xs : List D) : isiD (.tup xs) "list" = some false := by
  show kitB "tuple" "list" = some false
  decide +kernel
theorem isi_lst_int (xs : List D) : isiD (.lst xs) "int" = some false := by
  show kitB "list" "int" = some false
  decide +kernel
theorem isi_lst_bool (xs : List D) : isiD (.lst xs) "bool" = some false := by
  show kitB "list" "bool" = some false
  decide +kernel
theorem isi_lst_str (xs : List D) : isiD (.lst xs) "str" = some false := by
  show kitB "list" "str" = some false
  decide +kernel
theorem isi_lst_tuple (xs : List D) : isiD (.lst xs) "tuple" = some false := by
  show kitB "list" "tuple" = some false
  decide +kernel
theorem isi_lst_list (xs : List D) : isiD (.lst xs) "list" = some true := by
  show kitB "list" "list" = some true
  decide +kernel
section
variable {S : Sd} {Q : DK} {R : List D → Sd → Prop} {σ : Si}
theorem x_var0 {d : D} {r : Si} : dVar 0 (some d :: r) S Q = Q d S := rfl
theorem x_varS {o : Option D} {r : Si} {i : Nat} : dVar (i + 1) (o :: r) S Q = dVar i r S Q := rfl
theorem ite_tt {P R : Prop} : (if true = true then P else R) = P := if_pos rfl
theorem ite_ff {P R : Prop} : (if false = true then P else R) = R := if_neg Bool.false_ne_true
theorem x_len_tup {ds : List D} : rdLen [.tup ds] S Q = Q (.int ds.length) S := rfl
theorem x_len_lst {ds : List D} : rdLen [.lst ds] S Q = Q (.int ds.length) S := rfl
theorem x_len_str {z : Str} : rdLen [.str z] S Q = (z.length ≤ 16777216 ∧ Q (.int z.length) S) := rfl
theorem x_isi {d : D} {n : String} : rdIsi [d, .ty n] S Q = match isiD d n with | some b => Q (.bl b) S | none => False := rfl
theorem x_ixt {ds : List D} {i : Int} : rdIx (.tup ds) (.int i) S Q = ixQ S Q (atI ds i) := rfl
theorem x_ixl {ds : List D} {i : Int} : rdIx (.lst ds) (.int i) S Q = ixQ S Q (atI ds i) := rfl
theorem x_ixo {a : Addr} {ds : List D} {i : Int} (h : S a = some (.lst ds)) : rdIx (.obj a) (.int i) S Q = ixQ S Q (atI ds i) := by
  show (match S a with | some (.lst ds) => ixQ S Q (atI ds i) | _ => False) = _
  rw [h]
theorem x_set {a : Addr} {ds : List D} {i : Int} {j : Nat} {v : D} {Q : Sd → Prop} (h : S a = some (.lst ds)) (hj : ixN ds.length i = some j) : setQ S (.int i) v Q (.obj a) = Q (upS S a (.lst (ds.set j v))) := by
  show (match S a, (D.int i) with | some (.lst ds), .int i => (match ixN ds.length i with | some j => Q (upS S a (.lst (ds.set j v))) | none => False) | _, _ => False) = _
  rw [h]
  dsimp only
  rw [hj]
end
theorem ixN_nat {n : Nat} {j : Nat} (h : j < n) : ixN n (j : Int) = some j := by
  unfold ixN
  rw [if_pos (Int.natCast_nonneg j), if_pos (by omega)]
  simp
theorem atI_lt {ds : List D} {i : Int} (h0 : 0 ≤ i) (h1 : i < ds.length) : atI ds i = ds[i.toNat]? := by
  unfold atI ixN
  rw [if_pos h0, if_pos h1]
  rfl
theorem atI_some {ds : List D} {i : Int} (h0 : 0 ≤ i) (h1 : i < ds.length) : ∃ d, atI ds i = some d ∧ d ∈ ds := by
  rw [atI_lt h0 h1]
  have h2 : i.toNat < ds.length := by omega
  exact ⟨ds[i.toNat], List.getElem?_eq_getElem h2, List.getElem_mem h2⟩

section
variable {S : Sd} {Q : DK} {i j : Int} {k l : Bool} {x y : Str} {xs ys : List D}
theorem x_add_ii : rdAdd (.int i) (.int j) S Q = Q (.int (i + j)) S := rfl
theorem x_add_ib : rdAdd (.int i) (.bl k) S Q = Q (.int (i + b2i k)) S := rfl
theorem x_add_ss : rdAdd (.str x) (.str y) S Q = (x.length + y.length ≤ 16777216 ∧ Q (.str (x ++ y)) S) := rfl
theorem x_add_tt : rdAdd (.tup xs) (.tup ys) S Q = (xs.length + ys.length ≤ 16777216 ∧ Q (.tup (xs ++ ys)) S) := rfl
theorem x_add_ll : rdAdd (.lst xs) (.lst ys) S Q = (xs.length + ys.length ≤ 16777216 ∧ Q (.lst (xs ++ ys)) S) := rfl
theorem x_sub : rdSub (.int i) (.int j) S Q = Q (.int (i - j)) S := rfl
theorem x_mul : rdMul (.int i) (.int j) S Q = (i.natAbs.log2 + j.natAbs.log2 < 1000000 ∧ Q (.int (i * j)) S) := rfl
theorem x_mul_s : rdMul (.str x) (.int j) S Q = ((0 ≤ j ∧ (x.length : Int) * j ≤ 16777216 ∧ j ≤ 16777216) ∧ Q (.str (repS x j.toNat)) S) := rfl
theorem x_fdiv : rdFdiv (.int i) (.int j) S Q = ((j ≠ 0 ∧ j.natAbs.log2 < 9000) ∧ Q (.int (i.fdiv j)) S) := rfl
theorem x_mod : rdMod (.int i) (.int j) S Q = (j ≠ 0 ∧ Q (.int (i.fmod j)) S) := rfl
theorem x_pow : rdPow (.int i) (.int j) S Q = ((0 ≤ j ∧ ((i.natAbs.log2 : Int) + 1) * j ≤ 134217728) ∧ Q (.int (i ^ j.toNat)) S) := rfl
theorem x_neg : rdNeg (.int i) S Q = Q (.int (-i)) S := rfl
theorem x_lt : rdLt (.int i) (.int j) S Q = Q (.bl (decide (i < j))) S := rfl
theorem x_le : rdLe (.int i) (.int j) S Q = Q (.bl (decide (i ≤ j))) S := rfl
theorem x_gt : rdGt (.int i) (.int j) S Q = Q (.bl (decide (j < i))) S := rfl
theorem x_ge : rdGe (.int i) (.int j) S Q = Q (.bl (decide (j ≤ i))) S := rfl
theorem x_eq_ii : rdEq (.int i) (.int j) S Q = Q (.bl (decide (i = j))) S := rfl
theorem x_eq_ss : rdEq (.str x) (.str y) S Q = Q (.bl (decide (x = y))) S := rfl
theorem x_eq_bb : rdEq (.bl k) (.bl l) S Q = Q (.bl (decide (k = l))) S := rfl
theorem x_ne_ii : rdNe (.int i) (.int j) S Q = Q (.bl (!decide (i = j))) S := rfl
theorem x_ne_ss : rdNe (.str x) (.str y) S Q = Q (.bl (!decide (x = y))) S := rfl
theorem x_ne_bb : rdNe (.bl k) (.bl l) S Q = Q (.bl (!decide (k = l))) S := rfl
theorem x_abs : rdAbs [.int i] S Q = Q (.int (if i < 0 then -i else i)) S := rfl
theorem x_max2 : rdMax2 [.int i, .int j] S Q = Q (.int (if j > i then j else i)) S := rfl
theorem x_min2 : rdMin2 [.int i, .int j] S Q = Q (.int (if j < i then j else i)) S := rfl
theorem x_int_i : rdInt [.int i] S Q = Q (.int i) S := rfl
theorem x_int_b : rdInt [.bl k] S Q = Q (.int (if k then 1 else 0)) S := rfl
theorem x_sl_t {lo hi : Option Int} : rdSl (.tup xs) lo hi S Q = Q (.tup (cutD xs lo hi)) S := rfl
theorem x_sl_l {lo hi : Option Int} : rdSl (.lst xs) lo hi S Q = Q (.lst (cutD xs lo hi)) S := rfl
theorem x_sl_s {lo hi : Option Int} : rdSl (.str x) lo hi S Q = (x.length ≤ 16777216 ∧ Q (.str (cutS x lo hi)) S) := rfl
theorem x_ixs : rdIx (.str x) (.int i) S Q = (x.length ≤ 16777216 ∧ ixS S Q (atI x.cps.toList i)) := rfl
theorem x_allb {bs : List Bool} (e : xs = bs.map D.bl) (h : Q (.bl (bs.all id)) S) : rdAll [.lst xs] S Q := ⟨bs, by rw [e]; rfl, h⟩
theorem x_anyb {bs : List Bool} (e : xs = bs.map D.bl) (h : Q (.bl (bs.any id)) S) : rdAny [.lst xs] S Q := ⟨bs, by rw [e]; rfl, h⟩
end
theorem atI_0 {α : Type} {a : α} {r : List α} : atI (a :: r) 0 = some a := atI_nat (j := 0) rfl
theorem atI_1 {α : Type} {a b : α} {r : List α} : atI (a :: b :: r) 1 = some b := atI_nat (j := 1) rfl
theorem atI_2 {α : Type} {a b c : α} {r : List α} : atI (a :: b :: c :: r) 2 = some c := atI_nat (j := 2) rfl
theorem atI_3 {α : Type} {a b c d : α} {r : List α} : atI (a :: b :: c :: d :: r) 3 = some d := atI_nat (j := 3) rfl
theorem x_ixQ {S : Sd} {Q : DK} {d : D} : ixQ S Q (some d) = Q d S := rfl
theorem x_ixS {S : Sd} {Q : DK} {c : Nat} : ixS S Q (some c) = Q (.str ⟨#[c]⟩) S := rfl
theorem log2_lt {a : Int} {n : Nat} (h : a.natAbs < 2 ^ n) (h0 : 0 < n) : a.natAbs.log2 < n := PySem.Flt.log2_lt_of h0 h
/-! ### joints, loops -/
theorem seq_cut {t v : TSD} {E : EndsD} {σ : Si} {S : Sd} (Mid : Si → Sd → Prop) (h1 : ∀ N : Si → Sd → Prop, (∀ σ' S', Mid σ' S' → N σ' S') → t { E with nx := N } σ S) (h2 : ∀ σ' S', Mid σ' S' → v E σ' S') : dSeq t v E σ S := h1 (v E) h2
section
variable {g : TGD} {tb : TSD} {E : EndsD} {xs : List D}
theorem loop_pre (I : List D → Si → Sd → Prop) (hs : ∀ (p : List D) (x : D) (r : List D) (σ : Si) (S : Sd) (N : Si → Sd → Prop), xs = p ++ x :: r → I p σ S → (∀ σ' S', I (p ++ [x]) σ' S' → N σ' S') → g x σ S fun σ2 S2 => tb { E with nx := N, ct := N, bk := E.nx } σ2 S2)
    (hd : ∀ σ S, I xs σ S → E.nx σ S) : ∀ (r p : List D) (σ : Si) (S : Sd), xs = p ++ r → I p σ S → dLoop g tb E r σ S
  | [], p, σ, S, e, h => by
    rw [List.append_nil] at e
    rw [← e] at h
    exact hd σ S h
  | x :: r, p, σ, S, e, h => hs p x r σ S _ e h fun σ' S' h' => loop_pre I hs hd r (p ++ [x]) σ' S' (by rw [e]; simp) h'
theorem loop_all (I : List D → Si → Sd → Prop) {σ : Si} {S : Sd} (h0 : I [] σ S) (hs : ∀ (p : List D) (x : D) (r : List D) (σ : Si) (S : Sd) (N : Si → Sd → Prop), xs = p ++ x :: r → I p σ S → (∀ σ' S', I (p ++ [x]) σ' S' → N σ' S') → g x σ S fun σ2 S2 => tb { E with nx := N, ct := N, bk := E.nx } σ2 S2)
    (hd : ∀ σ S, I xs σ S → E.nx σ S) : dLoop g tb E xs σ S := loop_pre I hs hd xs [] σ S rfl h0
theorem rgD_len (lo : Int) (n : Nat) : (rgD lo n).length = n := by unfold rgD; rw [List.length_map, List.length_range]
theorem rgD_at {lo : Int} {n : Nat} {p r : List D} {x : D} (e : rgD lo n = p ++ x :: r) : x = .int (lo + p.length) ∧ p.length < n := by
  have h1 : (rgD lo n)[p.length]? = some x := by rw [e]; simp
  unfold rgD at h1
  rw [List.getElem?_map] at h1
  cases q : (List.range n)[p.length]? with
  | none => rw [q] at h1; cases h1
  | some j =>
    rw [q] at h1
    obtain ⟨h2, h3⟩ := List.getElem?_eq_some_iff.mp q
    rw [List.getElem_range] at h3
    subst h3
    exact ⟨(Option.some.inj h1).symm, by simpa using h2⟩
theorem loop_rng {lo : Int} {n : Nat} (I : Nat → Si → Sd → Prop) {σ : Si} {S : Sd} (h0 : I 0 σ S) (hs : ∀ (i : Nat) (σ : Si) (S : Sd) (N : Si → Sd → Prop), i < n → I i σ S → (∀ σ' S', I (i + 1) σ' S' → N σ' S') → g (.int (lo + i)) σ S fun σ2 S2 => tb { E with nx := N, ct := N, bk := E.nx } σ2 S2)
    (hd : ∀ σ S, I n σ S → E.nx σ S) : dLoop g tb E (rgD lo n) σ S :=
  loop_all (fun p σ S => I p.length σ S) h0 (fun p x r σ S N e h k => by
    obtain ⟨rfl, h1⟩ := rgD_at e
    exact hs p.length σ S N h1 h fun σ' S' h' => k σ' S' (by rw [List.length_append]; exact h')) fun σ S h => hd σ S (by rw [rgD_len] at h; exact h)
end
/-! ### comprehensions without a trace -/
theorem lcL_pure {te : TED} {p : Addr} {σw : Si} {i : Nat} {S : Sd} (f : D → D) : ∀ (xs acc : List D) (Q : List D → Sd → Prop), (∀ x ∈ xs, ∀ S' (Q' : DK), Q' (f x) S' → te (σw.set i (some x)) S' Q') → acc.length + xs.length ≤ 16777216 →
    Q (acc ++ xs.map f) (upS S p (.lst (acc ++ xs.map f))) → dLcL (dName i) dYes te p σw xs acc (upS S p (.lst acc)) Q
  | [], acc, Q, _, _, q => by
    rw [List.map_nil, List.append_nil] at q
    exact q
  | x :: r, acc, Q, h, hl, q => by
    rw [List.length_cons] at hl
    show (if true = true then te (σw.set i (some x)) (upS S p (.lst acc)) fun y S4 => S4 p = some (.lst acc) ∧ acc.length < 16777216 ∧ dLcL (dName i) dYes te p σw r (acc ++ [y]) (upS S4 p (.lst (acc ++ [y]))) Q else dLcL (dName i) dYes te p σw r acc (upS S p (.lst acc)) Q)
    rw [if_pos rfl]
    refine h x List.mem_cons_self _ _ ⟨upS_same, by omega, ?_⟩
    rw [upS_upS]
    refine lcL_pure f r (acc ++ [f x]) Q (fun y hy => h y (List.mem_cons_of_mem _ hy)) (by rw [List.length_append, List.length_singleton]; omega) ?_
    rw [List.append_assoc]
    exact q
theorem comp_pure {ti : TID} {te : TED} {i : Nat} {vs : List Nat} {σ : Si} {S : Sd} {Q : DK} (f : D → D) (xs : List D) (S1 : Sd) (hti : ∀ R : List D → Sd → Prop, R xs S1 → ti σ S R) (h : ∀ x ∈ xs, ∀ S' (Q' : DK), Q' (f x) S' → te ((wipeD σ vs).set i (some x)) S' Q') (hl : xs.length ≤ 16777216)
    (q : Q (.lst (xs.map f)) S1) : dComp ti (dName i) dYes te vs σ S Q := hti _ fun p hp => by
  refine lcL_pure f xs [] _ h (by simpa using hl) ⟨upS_same, ?_⟩
  rw [del_upS hp]
  exact q
end Dv

/-! Readings by value, y: texts, is, draws in a comprehension, loops with a measure. -/
namespace Dv
open PySem L2 PyProof.Rows
section
variable {X : Cx} {W : Wi}
/-! ### is -/
def rdIs : RD2 := fun x y S Q => match y with
  | .non => rdIsN x .non S Q
  | .bl b => (match x with | .bl a => Q (.bl (decide (a = b))) S | _ => False)
  | _ => False
def rdIsNot : RD2 := fun x y S Q => match y with
  | .non => rdNotN x .non S Q
  | .bl b => (match x with | .bl a => Q (.bl (!decide (a = b))) S | _ => False)
  | _ => False
/-! ### one sign in a text -/
def rdInS : RD2 := fun x y S Q => match x, y with
  | .str a, .str z => ∃ c, a = ⟨#[c]⟩ ∧ Q (.bl (decide (c ∈ z.cps.toList))) S
  | _, _ => False
theorem od_inS : OpD X (compareOp .In) rdInS := ⟨_, op_in_sign, fun H S fr σd σ x y dx dy Qv Qd ok rx ry q k => by
  cases dx with
  | str a => cases dy with
    | str z =>
      obtain ⟨c, rfl, q2⟩ := (show ∃ c, a = ⟨#[c]⟩ ∧ _ from q)
      exact ⟨c, z, rx, ry, k _ (.bl _) H S ok rfl q2⟩
    | _ => exact (show False from q).elim
  | _ => exact (show False from q).elim⟩
/-! ### methods of texts -/
def rdJoin : RDM := fun o vs S Q => match o, vs with
  | .str a, [d] => ∃ ys : List Str, itemsD S d = some (ys.map D.str) ∧ (ys.map (·.length)).sum + ys.length * a.length ≤ 16777216 ∧ Q (.str (Txt.join a ys)) S
  | _, _ => False
theorem join_lift : LiftM X.K (fun x xs H Q => ∃ a p, ∃ ys : List Str, x = .str a ∧ xs = [.ref p] ∧ (SqL X.K H p (ys.map V.str) ∨ SqT X.K H p (ys.map V.str)) ∧
    (ys.map (·.length)).sum + ys.length * a.length ≤ 16777216 ∧ Q (.str (Txt.join a ys)) H) rdJoin := fun H S fr σd σ x dx xs ds Qv Qd ok rx rs h k => by
  match dx, ds, h with
  | .str a, [d], h =>
    obtain ⟨ys, e, hl, q⟩ := (show ∃ ys : List Str, itemsD S d = some (ys.map D.str) ∧ _ from h)
    obtain ⟨v, rfl, r1⟩ := rpL1 rs
    obtain ⟨p, vs, rfl, hq, r2⟩ := rp_items ok.rel r1 e
    cases rpL_strs r2
    exact ⟨a, p, ys, rx, rfl, hq, hl, k _ (.str _) H S ok rfl q⟩
def rdCount : RDM := fun o vs S Q => match o, vs with
  | .str a, [.str b] => Q (.int (Txt.count a b)) S
  | _, _ => False
theorem de_join {o : Expr} {to : TED} {es : List Expr} {e : Expr} {t : TAD} {apos cpos : Pos} (ho : DE X W o to) (ha : DA X W (e :: es) t) (hbase : attributeBase o "join" X.env (eval o X.env) = eval o X.env := by rfl)
    (hfew : ((backTo cpos (starEach (e :: es) X.env)).all (fun x => !x.1) && (backToKw cpos (keywordEach [] X.env)).all (fun x => x.1.isSome)
      && decide ((e :: es).length + ([] : List Keyword).length + (if ([] : List Keyword).isEmpty then 0 else 1) < 30)) = true := by rfl)
    (hline : (apos.endLine == cpos.line) = true := by rfl) (hs : starEach (e :: es) X.env = (false, eval e X.env) :: starEach es X.env := by rfl) (hplain : (backTo cpos (starEach es X.env)).any (·.1) = false := by rfl) :
    DE X W (.Call (.Attribute o "join" apos) (e :: es) [] cpos) (dBM "str" rdJoin to t) :=
  de_bm PySem.F.plainAttrs_str PySem.F.slot_str_join PySem.F.type_str_join mt_join join_lift ho ha hbase hfew hline hs hplain
/-! ### list(text), tuple(text) -/
theorem vals_signs {z : Str} {us : List Value} (h : ItemsOf (SignAt z) us.toArray z.cps.size) : Vals (z.cps.toList.map fun c => V.str ⟨#[c]⟩) us := by
  obtain ⟨h1, h2⟩ := h
  refine vals_of_at (by simpa using h1.symm) fun j x u e1 e2 => ?_
  obtain ⟨c, t, e3, rfl⟩ := h2 j u (by simpa using e2)
  rw [List.getElem?_map] at e1
  have e4 : z.cps.toList[j]? = some c := by simpa using e3
  rw [e4] at e1
  cases e1
  exact ⟨t, rfl⟩
def rListS : List V → Hp → VK → Prop := fun xs H Q => ∃ z, xs = [.str z] ∧ z.length ≤ 16777216 ∧ ∀ p, H p = none → Q (.ref p) (upd H p (.lst (z.cps.toList.map fun c => V.str ⟨#[c]⟩)))
theorem call_listS (hc : X.calm = true) : CallR X (.type "list") rListS := by
  intro pins s σ H xs us Q I r h
  obtain ⟨z, rfl, hz, q⟩ := h
  obtain ⟨u, rfl, rx⟩ := vals1 r
  obtain ⟨t, rfl⟩ := (show ∃ t, u = .str z t from rx)
  have hz' : z.cps.size ≤ sizeLine := sz_le hz
  refine call_list_str (I.ok.hd hc) z t (fun h' tk acc c' hk e' hi => ?_) hz'
  refine ⟨.ref s.heap.objs.size, upd H s.heap.objs.size (.lst (z.cps.toList.map fun c => V.str ⟨#[c]⟩)), I.laid hk (Nat.le_refl _) (show ObjOk X.prog X.w _ _ _ (.lst _) from ⟨?_, acc.toList, c', vals_signs (by simpa using hi), ?_⟩), rfl, q _ (I.hok.fresh (Nat.le_refl _))⟩
  · rw [List.length_map, Array.length_toList]; exact hz'
  · simpa using e'
def rTupS : List V → Hp → VK → Prop := fun xs H Q => ∃ z, xs = [.str z] ∧ z.length ≤ 16777216 ∧ ∀ p, H p = none → Q (.ref p) (upd H p (.tup (z.cps.toList.map fun c => V.str ⟨#[c]⟩)))
theorem call_tupS (hc : X.calm = true) : CallR X (.type "tuple") rTupS := by
  intro pins s σ H xs us Q I r h
  obtain ⟨z, rfl, hz, q⟩ := h
  obtain ⟨u, rfl, rx⟩ := vals1 r
  obtain ⟨t, rfl⟩ := (show ∃ t, u = .str z t from rx)
  have hz' : z.cps.size ≤ sizeLine := sz_le hz
  refine call_tuple_str (I.ok.hd hc) z t (fun h' tk acc hk hi => ?_) hz'
  have I2 : Inv X pins σ H { s with heap := h', toks := tk } := I.kept hk
  refine ⟨.ref h'.objs.size, upd H h'.objs.size (.tup (z.cps.toList.map fun c => V.str ⟨#[c]⟩)), I2.laid (t' := tk) (fun c o e => Heap.get?_push_of_some _ e) (Nat.le_refl _) (show ObjOk X.prog X.w _ _ _ (.tup _) from ⟨?_, acc.toList, vals_signs (by simpa using hi), ?_⟩), rfl, q _ (I2.hok.fresh (Nat.le_refl _))⟩
  · rw [List.length_map, Array.length_toList]; exact hz'
  · rw [Array.toArray_toList]; exact IsTup.new _ _
theorem rpL_signs {K : PySem.W.Frag} {H : Hp} {S : Sd} {z : Str} : RpL K H S (sgD z) (z.cps.toList.map fun c => V.str ⟨#[c]⟩) := by
  unfold sgD
  induction z.cps.toList with
  | nil => exact rfl
  | cons n r ih => exact ⟨_, _, rfl, rfl, ih⟩
def rdListA : RDC := fun ds S Q => match ds with
  | [.str z] => z.length ≤ 16777216 ∧ Q (.lst (sgD z)) S
  | _ => rdListC ds S Q
def rdTupA : RDC := fun ds S Q => match ds with
  | [.str z] => z.length ≤ 16777216 ∧ Q (.tup (sgD z)) S
  | _ => rdTupC ds S Q
theorem one_str {ds : List D} : (∃ z, ds = [.str z]) ∨ ((∀ S Q, rdListA ds S Q → rdListC ds S Q) ∧ ∀ S Q, rdTupA ds S Q → rdTupC ds S Q) := by
  match ds with
  | [] => exact .inr ⟨fun _ _ h => h, fun _ _ h => h⟩
  | d :: e :: r => cases d <;> exact .inr ⟨fun _ _ h => h, fun _ _ h => h⟩
  | [d] => cases d with
    | str z => exact .inl ⟨z, rfl⟩
    | _ => exact .inr ⟨fun _ _ h => h, fun _ _ h => h⟩
theorem cd_listA (hc : X.calm = true) : CallD X (.type "list") rdListA := by
  obtain ⟨r, h, l⟩ := cd_list (X := X)
  refine ⟨_, h.or (call_listS hc), fun H S fr σd σ xs ds Qv Qd ok r0 q k => ?_⟩
  rcases one_str (ds := ds) with ⟨z, rfl⟩ | ⟨h1, h2⟩
  · obtain ⟨v, rfl, r1⟩ := rpL1 r0
    have e : v = .str z := r1
    subst e
    obtain ⟨q1, q2⟩ := (show z.length ≤ 16777216 ∧ Qd (.lst (sgD z)) S from q)
    exact .inr ⟨z, rfl, q1, fun p hp => k _ (.lst _) _ S (ok.new hp) (rp_lstNew ok.rel hp rpL_signs) q2⟩
  · exact .inl (l H S fr σd σ xs ds Qv Qd ok r0 (h1 _ _ q) k)
theorem cd_tupA (hc : X.calm = true) : CallD X (.type "tuple") rdTupA := by
  obtain ⟨r, h, l⟩ := cd_tuple (X := X)
  refine ⟨_, h.or (call_tupS hc), fun H S fr σd σ xs ds Qv Qd ok r0 q k => ?_⟩
  rcases one_str (ds := ds) with ⟨z, rfl⟩ | ⟨h1, h2⟩
  · obtain ⟨v, rfl, r1⟩ := rpL1 r0
    have e : v = .str z := r1
    subst e
    obtain ⟨q1, q2⟩ := (show z.length ≤ 16777216 ∧ Qd (.tup (sgD z)) S from q)
    exact .inr ⟨z, rfl, q1, fun p hp => k _ (.tup _) _ S (ok.new hp) (rp_tupNew ok.rel hp rpL_signs) q2⟩
  · exact .inl (l H S fr σd σ xs ds Qv Qd ok r0 (h2 _ _ q) k)
end
/-! ### rows -/
section
variable {S : Sd} {Q : DK} {x y z : Str} {k l : Bool} {ds : List D} {d : D}
theorem x_is_bb : rdIs (.bl k) (.bl l) S Q = Q (.bl (decide (k = l))) S := rfl
theorem x_isNot_bb : rdIsNot (.bl k) (.bl l) S Q = Q (.bl (!decide (k = l))) S := rfl
theorem x_is_n : rdIs d .non S Q = rdIsN d .non S Q := rfl
theorem x_isNot_n : rdIsNot d .non S Q = rdNotN d .non S Q := rfl
theorem x_inS {c : Nat} : rdInS (.str ⟨#[c]⟩) (.str z) S Q = Q (.bl (decide (c ∈ z.cps.toList))) S := by
  refine propext ⟨fun ⟨c', e, q⟩ => ?_, fun q => ⟨c, rfl, q⟩⟩
  injection e with e
  have e2 : c = c' := by simpa using e
  rw [e2]; exact q
theorem x_listA_s : rdListA [.str z] S Q = (z.length ≤ 16777216 ∧ Q (.lst (sgD z)) S) := rfl
theorem x_listA_t : rdListA [.tup ds] S Q = Q (.lst ds) S := rfl
theorem x_listA_l : rdListA [.lst ds] S Q = Q (.lst ds) S := rfl
theorem x_tupA_s : rdTupA [.str z] S Q = (z.length ≤ 16777216 ∧ Q (.tup (sgD z)) S) := rfl
theorem x_tupA_t : rdTupA [.tup ds] S Q = Q (.tup ds) S := rfl
theorem x_tupA_l : rdTupA [.lst ds] S Q = Q (.tup ds) S := rfl
theorem x_count : rdCount (.str x) [.str y] S Q = Q (.int (Txt.count x y)) S := rfl
theorem x_len_strL : z.length = z.cps.toList.length := by show z.cps.size = _; simp
end
theorem x_join {S : Sd} {Q : DK} {d : D} {a : Str} (ys : List Str) (e : itemsD S d = some (ys.map D.str)) (h : (ys.map (·.length)).sum + ys.length * a.length ≤ 16777216) (q : Q (.str (Txt.join a ys)) S) : rdJoin (.str a) [d] S Q := ⟨ys, e, h, q⟩
/-! ### comprehensions that draw -/
theorem lcL_inv {te : TED} {p : Addr} {σw : Si} {i : Nat} {xs : List D} {Q : List D → Sd → Prop} (J : List D → Sd → Prop)
    (hs : ∀ (pre : List D) (x : D) (r acc : List D) (S : Sd) (Q' : DK), xs = pre ++ x :: r → acc.length = pre.length → J acc S → S p = some (.lst acc) → (∀ y S', S' p = some (.lst acc) → J (acc ++ [y]) (upS S' p (.lst (acc ++ [y]))) → Q' y S') → te (σw.set i (some x)) S Q')
    (hl : xs.length ≤ 16777216) (hd : ∀ acc S, acc.length = xs.length → J acc S → S p = some (.lst acc) → Q acc S) : ∀ (r pre acc : List D) (S : Sd), xs = pre ++ r → acc.length = pre.length → J acc S → S p = some (.lst acc) → dLcL (dName i) dYes te p σw r acc S Q
  | [], pre, acc, S, e, hn, j, hp => hd acc S (by rw [e, List.append_nil]; exact hn) j hp
  | x :: r, pre, acc, S, e, hn, j, hp => by
    show (if true = true then te (σw.set i (some x)) S fun y S4 => S4 p = some (.lst acc) ∧ acc.length < 16777216 ∧ dLcL (dName i) dYes te p σw r (acc ++ [y]) (upS S4 p (.lst (acc ++ [y]))) Q else dLcL (dName i) dYes te p σw r acc S Q)
    rw [if_pos rfl]
    refine hs pre x r acc S _ e hn j hp fun y S' h1 h2 => ⟨h1, ?_, ?_⟩
    · have := congrArg List.length e
      rw [List.length_append, List.length_cons] at this
      omega
    · exact lcL_inv J hs hl hd r (pre ++ [x]) (acc ++ [y]) _ (by rw [e]; simp) (by rw [List.length_append, List.length_append, hn]; rfl) h2 upS_same
theorem comp_inv {ti : TID} {te : TED} {i : Nat} {vs : List Nat} {σ : Si} {S : Sd} {Q : DK} (xs : List D) (S1 : Sd) (J : Addr → List D → Sd → Prop) (hti : ∀ R : List D → Sd → Prop, R xs S1 → ti σ S R) (h0 : ∀ p, S1 p = none → J p [] (upS S1 p (.lst [])))
    (hs : ∀ (p : Addr) (pre : List D) (x : D) (r acc : List D) (S : Sd) (Q' : DK), S1 p = none → xs = pre ++ x :: r → acc.length = pre.length → J p acc S → S p = some (.lst acc) → (∀ y S', S' p = some (.lst acc) → J p (acc ++ [y]) (upS S' p (.lst (acc ++ [y]))) → Q' y S') → te ((wipeD σ vs).set i (some x)) S Q')
    (hl : xs.length ≤ 16777216) (hd : ∀ p acc S, S1 p = none → acc.length = xs.length → J p acc S → S p = some (.lst acc) → Q (.lst acc) (del S p)) : dComp ti (dName i) dYes te vs σ S Q := hti _ fun p hp =>
  lcL_inv (J p) (fun pre x r acc S Q' => hs p pre x r acc S Q' hp) hl (fun acc S hn j e => ⟨e, hd p acc S hp hn j e⟩) xs [] [] _ rfl rfl (h0 p hp) upS_same
/-! ### while -/
theorem while_inv {c : TTD} {tb : TSD} {E : EndsD} {σ : Si} {S : Sd} (I : Nat → Si → Sd → Prop) (m : Nat) (h0 : I m σ S)
    (hs : ∀ (m : Nat) (σ : Si) (S : Sd) (N : Si → Sd → Prop), I m σ S → (∀ m' σ' S', m' < m → I m' σ' S' → N σ' S') → c σ S fun b S1 => if b = true then tb { E with nx := N, ct := N, bk := E.nx } σ S1 else E.nx σ S1) : dWhile c tb E σ S :=
  ⟨I, ⟨m, h0⟩, fun m σ S h => hs m σ S _ h fun m' σ' S' hm h' => ⟨m', hm, h'⟩⟩
end Dv

/-! Readings by value, u: statements that are never reached, +=, a written dict read by a text. -/
namespace Dv
open PySem L2 PyProof.Rows
section
variable {X : Cx} {W : Wi} {pos : Pos}
/-! ### a written dict read by a text -/
def dKix (tab : Str → Option D) (tb : TED) : TED := fun σ S Q => tb σ S fun y S1 => match y with
  | .str z => (match tab z with | some d => Q d S1 | none => False)
  | _ => False
theorem de_kix {x : Str} {a : Addr} {b : Expr} {tb : TED} {p : Pos} {tab : Str → Option D} (hg : Gl X x) (hm : X.mg x = some (.ref a)) (ht : ∀ z d, tab z = some d → ∃ v, KDct X.K X.w a z v ∧ ∀ H S, Rp X.K H S d v) (hb : DE X W b tb) (hs : PlainIx b)
    (hd : (x == ("__debug__" : Str)) = false := by decide) : DE X W (.Subscript (.Name x p) b pos) (dKix tab tb) :=
  ⟨PE.imp (pe_ix ix_kdict (pe_glob (v := .ref a) hg hm rfl hd) hb.p hs) fun σ H Q ⟨σd, S, fr, Qd, ok, cl, h, k⟩ =>
    ⟨σd, S, fr, _, ok, cl, h, fun y dy H1 S1 ok1 ry q => by
      cases dy with
      | str z =>
        have q' : (match tab z with | some d => Qd d S1 | none => False) := q
        cases e : tab z with
        | none => rw [e] at q'; exact q'.elim
        | some d =>
          rw [e] at q'
          obtain ⟨v, h1, h2⟩ := ht z d e
          exact ⟨a, z, v, rfl, ry, h1, k v d H1 S1 ok1 (h2 _ _) q'⟩
      | _ => exact (show False from q).elim⟩⟩
/-- a written tuple -/
theorem rp_ktup {K : PySem.W.Frag} {H : Hp} {S : Sd} {a : Addr} {its : Array Value} {n : Nat} {od : Option Addr} {sl : Array (Option Value)} {vs : List V} {ds : List D} (hl : K.lookup a = some ⟨.type "tuple", od, .seq its n, sl⟩) (hz : its.size ≤ 1000) (hv : Vals vs its.toList) (r : RpL K H S ds vs) : Rp K H S (.tup ds) (.ref a) :=
  ⟨a, vs, rfl, .inr ⟨_, its, n, hl, rfl, rfl, sz_le (Nat.le_trans hz (by decide)), hv⟩, r⟩
end
end Dv

/-! Readings by value: own errors raised, caught, asked. -/
namespace Dv
open PySem L2 PyProof.Rows Hx
/-! ### the module's own classes of errors -/
def ownBase : List (Str × List Str) := [("NoNumber", ["ArithmeticError"]), ("NoForm", ["ArithmeticError"]), ("OverNought", ["ZeroDivisionError", "ArithmeticError"]), ("TooMany", ["OverflowError", "ArithmeticError"]), ("NoKin", ["TypeError"]), ("NoPlace", ["IndexError", "LookupError"]), ("NoName", ["KeyError", "LookupError"]),
  ("NoTurn", ["LookupError"]), ("NoRow", ["RuntimeError"]), ("NoStair", ["ValueError"]), ("NoRing", ["ValueError"]), ("NoWord", ["ValueError"]), ("NoStep", ["ValueError"]), ("Uneven", ["ValueError"]), ("NoWay", ["ValueError"]), ("NoTable", ["ValueError"]), ("NoTriple", ["ValueError"])]
def ownCls : List Str := ownBase.map (·.1)
def bltCls : List Str := ["ArithmeticError", "ZeroDivisionError", "OverflowError", "TypeError", "IndexError", "KeyError", "LookupError", "RuntimeError", "ValueError"]
def excIs (n c : Str) : Bool := n == c || match ownBase.lookup n with
  | some bs => bs.contains c
  | none => false
def clsV (K : PySem.W.Frag) (x : Str) : Value := match PySem.W.nsIn K mainGlobals x with
  | some (some v) => v
  | _ => (bootBuiltins x).getD .none
/-- what is known of an own class of errors that is raised -/
structure WhF (K : PySem.W.Frag) (n : Str) (D : Addr) : Prop where
  at_ : PySem.W.nsIn K mainGlobals n = some (some (.ref D))
  exc : ExcC K D
  kit : ∀ c ∈ ownCls ++ bltCls, PySem.W.kitOne K (.ref D) (clsV K c) = some (excIs n c)
  exm : ∀ c ∈ ownCls, PySem.W.exmOne K (.ref D) (clsV K c) = some (excIs n c)
theorem and_b {a b : Bool} (h : (a && b) = true) : a = true ∧ b = true := Bool.and_eq_true_iff.mp h
/-- a simple own class: raised with a text -/
structure RsF (K : PySem.W.Frag) (n : Str) (bm : List Value) (newId : String) (C : Addr) : Prop where
  at_ : PySem.W.nsIn K mainGlobals n = some (some (.ref C))
  exc : PySem.W.excIn K C bm newId = true
  kp : PySem.W.keepIn K (.ref C) = true
  sub : PySem.W.subIn K (.ref C) (.type "BaseException") = some true
  ty : PySem.W.typeIn K (.ref C) = some (.type "type")
def rsB (K : PySem.W.Frag) (n : Str) (bm : List Value) (newId : String) : Bool := match PySem.W.nsIn K mainGlobals n with
  | some (some (.ref C)) => PySem.W.excIn K C bm newId && (PySem.W.keepIn K (.ref C) && (decide (PySem.W.subIn K (.ref C) (.type "BaseException") = some true) && decide (PySem.W.typeIn K (.ref C) = some (.type "type"))))
  | _ => false
theorem rsB_ok {K : PySem.W.Frag} {n : Str} {bm : List Value} {newId : String} (h : rsB K n bm newId = true) : ∃ C, RsF K n bm newId C := by
  unfold rsB at h
  split at h
  · rename_i C e
    obtain ⟨a, h⟩ := and_b h
    obtain ⟨b, h⟩ := and_b h
    obtain ⟨c, d⟩ := and_b h
    exact ⟨C, e, a, b, of_decide_eq_true c, of_decide_eq_true d⟩
  · cases h
/-! ### raise -/
section
variable {X : Cx} {W : Wi} {pos : Pos}
def dRaise (WD : WXD) (x : Xd) : TSD := fun _ σ S => WD x σ S
theorem ds_raiseC {n m : Str} {j : Nat} {p p2 pos' : Pos} {bm : List Value} {B newId initId : String} {C : Addr} (hc : X.calm = true) (tk : L2N.Takes X W.V) (F : ExcBaseFacts B newId initId bm) (R : RsF X.K n bm newId C) (gC : X.mg n = some (.ref C)) (hg : Gl X n) (hdb : (n == ("__debug__" : Str)) = false := by decide) :
    DS X W (.Raise (some (.Call (.Name n p) [.Constant (.str m) j p2] [] pos)) none pos') (dRaise W.D ⟨n, [], []⟩) :=
  ⟨PS.imp (L2N.ps_raise hc tk (L2N.pmk_own F R.exc gC R.kp (raises_own R.sub R.ty) hg hdb)) fun D σ H ⟨σd, S, fr, Dd, ok, cl, h, k⟩ => cl σd σ H S (.ref C) none _ ok ⟨R.at_, fun _ => rfl, fun _ z => nomatch z⟩ h⟩
end
/-! ### except suites -/
section
variable {X : Cx} {W : Wi} {pos : Pos}
end
end Dv

/-! Readings by value: a def that names an error's class; a refusal named. -/
namespace Dv
open PySem L2 PyProof.Rows Hx
section
variable {X : Cx} {W : Wi} {pos : Pos}
/-! ### while an exception is handled -/
end
/-! ### a def that names an error's class -/
section
variable {P : Program} {w : World} {K : PySem.W.Frag} {mg : Str → Option Value} {base : Heap}
end
section
variable {X : Cx} {pos : Pos}
/-! ### a refusal, named -/
end
end Dv

/-! Readings by value: what the printed derivations lean on for errors and lambdas. -/
namespace Dv
open PySem L2 PyProof.Rows Hx
section
variable {X : Cx} {W : Wi} {pos : Pos}
theorem takes0N : L2N.Takes X W0.V := fun _ _ ⟨_, _, _, _, _, _, _, _, _, _, _, _, _, _, _, _, z⟩ => z.elim
end
section
variable {P : Program} {w : World} {K : PySem.W.Frag} {mg : Str → Option Value} {base : Heap}
end
/-- one statement at a time: the rest stands still -/
theorem seq_step {t v : TSD} {E : EndsD} {σ : Si} {S : Sd} (h : ∀ r : TSD, r = v → dSeq t r E σ S) : dSeq t v E σ S := h v rfl
/-- one assignment, by instances alone: the kernel has nothing to unfold -/
theorem seq_set {i : Nat} {t : TED} {v : TSD} {E : EndsD} {σ : Si} {S : Sd} (h : t σ S fun x S1 => v E (σ.set i (some x)) S1) : dSeq (dSet i t) v E σ S := h
/-! ### divmod -/
def rdDivmod : RDC := fun ds S Q => match ds with
  | [.int i, .int j] => (0 < j ∧ j.natAbs.log2 < 9000) ∧ Q (.tup [.int (i / j), .int (i % j)]) S
  | _ => False
theorem x_divmod {i j : Int} {S : Sd} {Q : DK} : rdDivmod [.int i, .int j] S Q = ((0 < j ∧ j.natAbs.log2 < 9000) ∧ Q (.tup [.int (i / j), .int (i % j)]) S) := rfl
/-! ### law with tables -/
end Dv

/-! Readings by value: calls with keywords. -/
namespace Dv
open PySem L2 PyProof.Rows Hx
theorem rpL_at {K : PySem.W.Frag} {H : Hp} {S : Sd} : ∀ {ds : List D} {vs : List V}, RpL K H S ds vs → ∀ i : Nat, (ds[i]? = none ∧ vs[i]? = none) ∨ ∃ d v, ds[i]? = some d ∧ vs[i]? = some v ∧ Rp K H S d v
  | [], vs, r, i => by
    have e : vs = [] := r
    subst e
    exact .inl ⟨rfl, rfl⟩
  | d :: ds, vs, r, i => by
    obtain ⟨v, w, rfl, r1, r2⟩ := r
    cases i with
    | zero => exact .inr ⟨d, v, rfl, rfl, r1⟩
    | succ i => exact rpL_at r2 i
theorem rpL_sel {K : PySem.W.Frag} {H : Hp} {S : Sd} {ds : List D} {vs : List V} (r : RpL K H S ds vs) : ∀ idx : List Nat, RpL K H S (sel idx ds) (sel idx vs)
  | [] => rpL_nil
  | i :: idx => by
    have t := rpL_sel r idx
    unfold sel at t ⊢
    rcases rpL_at r i with ⟨e1, e2⟩ | ⟨d, v, e1, e2, r1⟩
    · rw [List.filterMap_cons_none e1, List.filterMap_cons_none e2]; exact t
    · rw [List.filterMap_cons_some e1, List.filterMap_cons_some e2]; exact rpL_cons r1 t
structure DKw (X : Cx) (W : Wi) (kws : List Keyword) (t : TAD) : Prop where
  p : PK X kws (upA X.K W t)
section
variable {X : Cx} {W : Wi} {k n m : Nat} {f : Addr} {fd : FuncData} {ps ks : List Str} {sp : SpD} {idx : List Nat} {dvs : List V} {dds : List D} {x : Str} {p pos kpos : Pos} {a e : Expr} {es : List Expr} {kws : List Keyword} {ta : TED} {t tk : TAD} {nm : Option Str}
theorem pk_imp {t t' : TA} (h : PK X kws t) (i : ∀ σ H Q, t' σ H Q → t σ H Q) : PK X kws t' := ⟨fun pos pins s σ H Q I q => h.run pos pins s σ H Q I (i σ H Q q)⟩
theorem dk_nil : DKw X W [] dNil := ⟨pk_imp pk_nil fun σ H Q ⟨_, S, _, _, ok, _, h, k⟩ => k [] [] H S ok rfl h⟩
theorem dk_cons (ha : DE X W a ta) (hr : DKw X W kws tk) : DKw X W (⟨nm, a, kpos⟩ :: kws) (dCons ta tk) :=
  ⟨pk_imp (pk_cons ha.p hr.p) fun σ H Q ⟨σd, S, fr, Qd, ok, cl, h, k⟩ => ⟨σd, S, fr, _, ok, cl, h, fun x dx H1 S1 ok1 r1 h1 =>
    ⟨σd, S1, (x, dx) :: fr, _, ok1.cons r1, cl.tail, h1, fun vs ds H2 S2 ok2 r2 h2 => k (x :: vs) (dx :: ds) H2 S2 ok2.tail (rpL_cons ok2.head r2) h2⟩⟩⟩
/-- f(.., k = ..): what the places idx of all that is handed in hold, by the parameters -/
def dCallK (sp : SpD) (n m : Nat) (idx : List Nat) (dds : List D) (WD : WXD) (t tk : TAD) : TED := fun σ S Q => t σ S fun xs S1 => tk σ S1 fun zs S2 => (xs.length = n ∧ zs.length = m) ∧ sp (sel idx (xs ++ zs ++ dds)) S2 Q fun y S3 => WD y σ S3
end
/-! ### for x, y in zip(xs, ys) -/
def zipD (ds es : List D) : List D := (ds.zip es).map fun p => .tup [p.1, p.2]
theorem itd_zip {K : PySem.W.Frag} {a b : Addr} {ds es : List D} {fr : List (V × D)} : ItD K (Itz K a b) (zipD ds es) ((.ref a, .lst ds) :: (.ref b, .lst es) :: fr) where
  go := fun i d e H S σd σ ok => by
    obtain ⟨a', vs, e1, q1, r1⟩ := rp_list ok.rel ok.head
    obtain ⟨b', ws, e2, q2, r2⟩ := rp_list ok.rel ok.tail.head
    cases (show V.ref a = .ref a' from e1)
    cases (show V.ref b = .ref b' from e2)
    unfold zipD at e
    rw [List.getElem?_map] at e
    obtain ⟨p, hp, rfl⟩ := Option.map_eq_some_iff.mp e
    obtain ⟨h1, h2⟩ := List.getElem?_zip_eq_some.mp hp
    obtain ⟨v, v1, v2⟩ := rpL_get r1 h1
    obtain ⟨w, w1, w2⟩ := rpL_get r2 h2
    refine ⟨⟨vs, ws, v, w, q1, q2, v1, w1⟩, fun x H' y => ?_⟩
    obtain ⟨T, x', y', rfl, hT, rfl, g1, g2⟩ := y
    have e3 := g1 vs q1
    have e4 := g2 ws q2
    rw [v1] at e3
    rw [w1] at e4
    cases e3
    cases e4
    exact ⟨ok.new hT, rp_tupNew ok.rel hT (rpL_cons v2 (rpL_cons w2 rpL_nil))⟩
  stop := fun H S σd σ ok => by
    obtain ⟨a', vs, e1, q1, r1⟩ := rp_list ok.rel ok.head
    obtain ⟨b', ws, e2, q2, r2⟩ := rp_list ok.rel ok.tail.head
    cases (show V.ref a = .ref a' from e1)
    cases (show V.ref b = .ref b' from e2)
    refine ⟨vs, ws, q1, q2, ?_⟩
    have l1 := rpL_len r1
    have l2 := rpL_len r2
    have l3 : (zipD ds es).length = min ds.length es.length := by unfold zipD; rw [List.length_map, List.length_zip]
    rw [l3]
    omega
def zipR (R : List D → Sd → Prop) (S : Sd) : List D → Prop
  | [.lst ds, .lst es] => R (zipD ds es) S
  | _ => False
theorem zipR_inv {R : List D → Sd → Prop} {S : Sd} {ds : List D} (h : zipR R S ds) : ∃ xs ys, ds = [.lst xs, .lst ys] ∧ R (zipD xs ys) S := by
  unfold zipR at h
  split at h
  · exact ⟨_, _, rfl, h⟩
  · exact h.elim
def dZip (ta : TAD) : TID := fun σ S R => ta σ S fun xs S1 => zipR R S1 xs
theorem di_zip {X : Cx} {W : Wi} {a b : Expr} {ta : TAD} {p pos tpos : Pos} {elts : List Expr} {kk : Nat} (hg : Gl X "zip") (hm : X.mg "zip" = none) (ha : DA X W [a, b] ta) (hs : starEach [a, b] X.env = (false, eval a X.env) :: starEach [b] X.env := by rfl) (hpl : (backTo pos (starEach [b] X.env)).any (·.1) = false := by rfl) :
    DI X W (.Tuple elts kk tpos) (.Call (.Name "zip" p) [a, b] [] pos) (dZip ta) :=
  ⟨PI.imp (pi_zip hg hm ha.p hs hpl) fun σ H R ⟨σd, S, fr, Rd, ok, cl, h, k⟩ => ⟨σd, S, fr, _, ok, cl, h, fun vs ds H1 S1 ok1 r1 q => by
    obtain ⟨xs, ys, rfl, q⟩ := zipR_inv q
    obtain ⟨v, w, rfl, t1, t2⟩ := rpL2 r1
    obtain ⟨a', us, e1, q1, _⟩ := rp_list ok1.rel t1
    obtain ⟨b', ws, e2, q2, _⟩ := rp_list ok1.rel t2
    subst e1 e2
    exact ⟨a', b', us, ws, rfl, q1, q2, k _ _ H1 S1 [(.ref a', .lst xs), (.ref b', .lst ys)] ((ok1.cons t2).cons t1) itd_zip q⟩⟩⟩
/-! ### * of tuples too -/
def rdMulA : RD2
  | .int i, .int j, S, Q => i.natAbs.log2 + j.natAbs.log2 < 1000000 ∧ Q (.int (i * j)) S
  | .str z, .int k, S, Q => (0 ≤ k ∧ (z.length : Int) * k ≤ 16777216 ∧ k ≤ 16777216) ∧ Q (.str (repS z k.toNat)) S
  | .tup ds, .int k, S, Q => (ds ≠ [] ∧ 1 ≤ k ∧ k ≤ 1000 ∧ ds.length ≤ 1000) ∧ Q (.tup (List.replicate k.toNat ds).flatten) S
  | _, _, _, _ => False
theorem rpL_flat {K : PySem.W.Frag} {H : Hp} {S : Sd} {ds : List D} {vs : List V} (r : RpL K H S ds vs) : ∀ n : Nat, RpL K H S (List.replicate n ds).flatten (List.replicate n vs).flatten
  | 0 => rpL_nil
  | n + 1 => by
    rw [List.replicate_succ, List.replicate_succ, List.flatten_cons, List.flatten_cons]
    exact rpL_app r (rpL_flat r n)
theorem od_mulA {X : Cx} : OpD X (binaryOp .Mult) rdMulA := ⟨_, (op_mulW.or op_mulS).or (op_repT.or op_once), fun H S fr σd σ x y dx dy Qv Qd ok rx ry h k => by
  cases dx with
  | int i =>
    cases dy with
    | int j => exact .inl (.inl ⟨i, j, rx, ry, h.1, k _ (.int (i * j)) H S ok rfl h.2⟩)
    | _ => exact (show False from h).elim
  | str z =>
    cases dy with
    | int j => exact .inl (.inr ⟨z, j, rx, ry, h.1.1, h.1.2.1, h.1.2.2, k _ (.str (repS z j.toNat)) H S ok rfl h.2⟩)
    | _ => exact (show False from h).elim
  | tup ds =>
    cases dy with
    | int j =>
      obtain ⟨⟨h0, h1, h2, h3⟩, q⟩ := h
      obtain ⟨a, vs, rfl, q1, r⟩ := rx
      have hl := rpL_len r
      by_cases c : j = 1
      · subst c
        have e : (List.replicate (Int.toNat 1) ds).flatten = ds := by show (List.replicate 1 ds).flatten = ds; simp
        rw [e] at q
        exact .inr (.inr ⟨a, vs, rfl, ry, q1, k _ (.tup ds) H S ok ⟨a, vs, rfl, q1, r⟩ q⟩)
      · exact .inr (.inl ⟨a, j, vs, rfl, ry, q1, fun e => h0 (by rw [e] at hl; exact List.eq_nil_of_length_eq_zero hl), by omega, h2, by omega, fun p hp => k _ (.tup (List.replicate j.toNat ds).flatten) _ S (ok.new hp) (rp_tupNew ok.rel hp (rpL_flat r j.toNat)) q⟩)
    | _ => exact (show False from h).elim
  | _ => cases dy <;> exact (show False from h).elim⟩
section
variable {i j : Int} {x : Str} {ds : List D} {S : Sd} {Q : DK}
theorem x_mulA : rdMulA (.int i) (.int j) S Q = (i.natAbs.log2 + j.natAbs.log2 < 1000000 ∧ Q (.int (i * j)) S) := rfl
theorem x_mulA_s : rdMulA (.str x) (.int j) S Q = ((0 ≤ j ∧ (x.length : Int) * j ≤ 16777216 ∧ j ≤ 16777216) ∧ Q (.str (repS x j.toNat)) S) := rfl
theorem x_mulA_t : rdMulA (.tup ds) (.int j) S Q = ((ds ≠ [] ∧ 1 ≤ j ∧ j ≤ 1000 ∧ ds.length ≤ 1000) ∧ Q (.tup (List.replicate j.toNat ds).flatten) S) := rfl
end
theorem sel_n1 {a : D} : sel [0] ([] ++ [a]) = [a] := rfl
theorem sel_n2 {a b : D} : sel [0, 1] ([] ++ [a, b]) = [a, b] := rfl
theorem sel_x2 {a b : D} : sel [1, 0] ([] ++ [a, b]) = [b, a] := rfl
theorem sel_12 {a b : D} : sel [0, 1] ([a] ++ [b]) = [a, b] := rfl
end Dv

/-! Readings by value: max and min of a list, by a def's ints too. -/
namespace Dv
open PySem L2 PyProof.Rows Hx
/-- the place of the best of so many -/
def bestBy (up : Bool) (kf : Nat → Int) (n : Nat) : Nat := argBest (fun i j => if up then decide (kf i > kf j) else decide (kf i < kf j)) (n - 1)
def kfL (kf : Str → Int) (zs : List Str) (i : Nat) : Int := match zs[i]? with
  | some z => kf z
  | none => 0
def keyR (sp : SpD) (up : Bool) (S : Sd) (Q : DK) : D → Prop
  | .lst ds => ∃ (zs : List Str) (kf : Str → Int), ds = zs.map D.str ∧ 0 < zs.length ∧ (∀ z ∈ zs, ∀ Q' : DK, Q' (.int (kf z)) S → sp [.str z] S Q' fun _ _ => False) ∧ ∀ z, zs[bestBy up (kfL kf zs) zs.length]? = some z → Q (.str z) S
  | _ => False
def dKeyed (sp : SpD) (up : Bool) (t : TED) : TED := fun σ S Q => t σ S fun d S1 => keyR sp up S1 Q d
section
variable {X : Cx} {W : Wi} {k : Nat} {f : Addr} {fd : FuncData} {p fn : Str} {sp : SpD} {e : Expr} {t : TED} {p1 p2 p3 pos : Pos}
end
/-! ### a text within a text -/
def hasS (z a : Str) : Bool := !(Builtin.Str.occurrences z a 0 z.length 1).isEmpty
def rdInT : RD2 := fun x y S Q => match x, y with
  | .str a, .str z => Q (.bl (hasS z a)) S
  | _, _ => False
theorem x_inT {a z : Str} {S : Sd} {Q : DK} : rdInT (.str a) (.str z) S Q = Q (.bl (hasS z a)) S := rfl
/-! ### xs = [.. for ..], the list is kept for changes -/
section
variable {X : Cx} {W : Wi} {pos : Pos}
end
end Dv

/-! Readings by value: sum of tuples. -/
namespace Dv
open PySem L2 PyProof.Rows Hx
section
variable {K : PySem.W.Frag} {H H' : Hp} {S : Sd}
end
def sumR (S : Sd) (Q : DK) : List D → List D → Prop
  | [.lst ds], [.tup []] => ∃ dss : List (List D), ds = dss.map D.tup ∧ (∀ n, (dss.take n).flatten.length ≤ 1000) ∧ Q (.tup dss.flatten) S
  | _, _ => False
def dSumT (t tk : TAD) : TED := fun σ S Q => t σ S fun xs S1 => tk σ S1 fun zs S2 => sumR S2 Q xs zs
section
variable {X : Cx} {W : Wi} {e : Expr} {t tk : TAD} {kws : List Keyword} {p pos : Pos}
end
end Dv

/-! Readings by value: a written dict of lists, subscripted at once; extend. -/
namespace Dv
open PySem L2 PyProof.Rows Hx
section
variable {X : Cx} {W : Wi} {k1 k2 x y : Str} {a b c d : Int} {i j : Nat} {m1 m2 m3 m4 m5 m6 : Nat} {q1 q2 q3 q4 q5 q6 u1 u2 dpos np yp pos apos cpos : Pos}
end
end Dv

/-! Readings by value: repr of data, == of tracked lists. -/
namespace Dv
open PySem L2 PyProof.Rows Hx
/-- a tracked list stands for its items -/
def valD (S : Sd) (d : D) : D := match d with
  | .obj a => match S a with
    | some (.lst ds) => .lst ds
    | _ => d
  | d => d
mutual
/-- what can be shown: ints below 2 ^ 1920, texts of code points -/
def shOk : D → Bool
  | .non => true | .bl _ => true
  | .int i => decide (i.natAbs.log2 < 1920)
  | .str z => PyData.strOk z
  | .tup ds => shOkL ds
  | .lst ds => shOkL ds
  | _ => false
def shOkL : List D → Bool
  | [] => true
  | d :: ds => shOk d && shOkL ds
end
mutual
/-- a bound of how long the text is -/
def shL : D → Nat
  | .int _ => 1921
  | .str z => 10 * z.length + 2
  | .tup ds => shLL ds + 3
  | .lst ds => shLL ds + 2
  | _ => 5
def shLL : List D → Nat
  | [] => 0
  | d :: ds => shL d + 2 + shLL ds
end
mutual
theorem shOk_data : ∀ {d : D}, shOk d = true → isData d = true
  | .int _, _ => rfl
  | .non, _ => rfl
  | .bl _, _ => rfl
  | .str _, _ => rfl
  | .tup ds, h => shOkL_data (ds := ds) h
  | .lst ds, h => shOkL_data (ds := ds) h
  | .tupX _, h => absurd (show false = true from h) Bool.false_ne_true
  | .inst _ _ _, h => absurd (show false = true from h) Bool.false_ne_true
  | .obj _, h => absurd (show false = true from h) Bool.false_ne_true
  | .ty _, h => absurd (show false = true from h) Bool.false_ne_true
  | .exc _ _ _ _, h => absurd (show false = true from h) Bool.false_ne_true
theorem shOkL_data : ∀ {ds : List D}, shOkL ds = true → isDataL ds = true
  | [], _ => rfl
  | d :: ds, h => by
    have h' := Bool.and_eq_true_iff.mp (show (shOk d && shOkL ds) = true from h)
    show (isData d && isDataL ds) = true
    rw [shOk_data h'.1, shOkL_data h'.2]
    rfl
end
mutual
theorem shOk_show : ∀ {d : D}, shOk d = true → (pd d).showable = true
  | .int i, h => h
  | .non, _ => rfl
  | .bl _, _ => rfl
  | .str _, _ => rfl
  | .tup ds, h => shOkL_show (ds := ds) h
  | .lst ds, h => shOkL_show (ds := ds) h
  | .tupX _, h => absurd (show false = true from h) Bool.false_ne_true
  | .inst _ _ _, h => absurd (show false = true from h) Bool.false_ne_true
  | .obj _, h => absurd (show false = true from h) Bool.false_ne_true
  | .ty _, h => absurd (show false = true from h) Bool.false_ne_true
  | .exc _ _ _ _, h => absurd (show false = true from h) Bool.false_ne_true
theorem shOkL_show : ∀ {ds : List D}, shOkL ds = true → PyData.showableAll (pdL ds) = true
  | [], _ => rfl
  | d :: ds, h => by
    have h' := Bool.and_eq_true_iff.mp (show (shOk d && shOkL ds) = true from h)
    show ((pd d).showable && PyData.showableAll (pdL ds)) = true
    rw [shOk_show h'.1, shOkL_show h'.2]
    rfl
end
mutual
theorem pd_noDict : ∀ (d : D), (pd d).hasDict = false
  | .int _ => rfl
  | .non => rfl
  | .bl _ => rfl
  | .str _ => rfl
  | .tup ds => pdL_noDict ds
  | .lst ds => pdL_noDict ds
  | .tupX _ => rfl
  | .inst _ _ _ => rfl
  | .obj _ => rfl
  | .ty _ => rfl
  | .exc _ _ _ _ => rfl
  | .fn _ => rfl
theorem pdL_noDict : ∀ (ds : List D), PyData.hasDictAll (pdL ds) = false
  | [] => rfl
  | d :: ds => by
    show ((pd d).hasDict || PyData.hasDictAll (pdL ds)) = false
    rw [pd_noDict d, pdL_noDict ds]
    rfl
end
theorem join_len (ts : List Str) : (Str.join ", " ts).length ≤ piled ts := by
  cases ts with
  | nil => show 0 ≤ _; omega
  | cons t r => have := join_length_add (t :: r) (by simp); omega
theorem textFrom_piled : ∀ (ts : List Str) (k : Nat) (acc : Str), (textFrom k acc ts).length ≤ acc.length + piled ts
  | [], k, acc => by show acc.length ≤ acc.length + _; omega
  | t :: r, k, acc => by
    have ih := textFrom_piled r (k + 1) (acc ++ (if k > 0 then ", " else "" : String) ++ t)
    have e : (acc ++ (if k > 0 then ", " else "" : String) ++ t).length = acc.length + (if k > 0 then 2 else 0) + t.length := by
      rw [strLen_append, strLen_append]
      split <;> rfl
    rw [e] at ih
    rw [piled_cons]
    show (textFrom (k + 1) (acc ++ (if k > 0 then ", " else "" : String) ++ t) r).length ≤ _
    have h2 : (if k > 0 then 2 else 0) ≤ 2 := by split <;> omega
    omega
mutual
theorem shown_len : ∀ {d : D}, shOk d = true → (pd d).shown.length ≤ shL d
  | .int i, h => int_text_len_1921 (of_decide_eq_true h)
  | .non, _ => by show 4 ≤ 5; omega
  | .bl b, _ => by cases b <;> decide
  | .str z, h => PySem.StrLaws.reprText_len z fun c hc => by
    have h1 := Array.all_eq_true'.mp (show z.cps.all (· < 0x110000) = true from h) c (by simpa using hc)
    have h2 := of_decide_eq_true h1
    omega
  | .tup ds, h => by
    have ih := shownL_len (ds := ds) h
    show (tupleText (PyData.shownAll (pdL ds))).length ≤ shLL ds + 3
    unfold tupleText
    rw [strLen_append, strLen_append]
    have := join_len (PyData.shownAll (pdL ds))
    have e1 : (("(" : String) : Str).length = 1 := rfl
    have e2 : ((if (PyData.shownAll (pdL ds)).length == 1 then ",)" else ")" : String) : Str).length ≤ 2 := by split <;> decide
    omega
  | .lst ds, h => by
    have ih := shownL_len (ds := ds) h
    show (listText (PyData.shownAll (pdL ds))).length ≤ shLL ds + 2
    unfold listText
    rw [strLen_append]
    have := textFrom_piled (PyData.shownAll (pdL ds)) 0 ("[" : String)
    have e1 : (("[" : String) : Str).length = 1 := rfl
    have e2 : (("]" : String) : Str).length = 1 := rfl
    omega
  | .tupX _, h => absurd (show false = true from h) Bool.false_ne_true
  | .inst _ _ _, h => absurd (show false = true from h) Bool.false_ne_true
  | .obj _, h => absurd (show false = true from h) Bool.false_ne_true
  | .ty _, h => absurd (show false = true from h) Bool.false_ne_true
  | .exc _ _ _ _, h => absurd (show false = true from h) Bool.false_ne_true
theorem shownL_len : ∀ {ds : List D}, shOkL ds = true → piled (PyData.shownAll (pdL ds)) ≤ shLL ds
  | [], _ => Nat.le_refl _
  | d :: ds, h => by
    have h' := Bool.and_eq_true_iff.mp (show (shOk d && shOkL ds) = true from h)
    have h1 := shown_len h'.1
    have h2 := shownL_len h'.2
    show piled ((pd d).shown :: PyData.shownAll (pdL ds)) ≤ shL d + 2 + shLL ds
    rw [piled_cons]
    omega
end
theorem dp_val {K : PySem.W.Frag} {H : Hp} {S : Sd} {d : D} {v : V} (R : RelS K H S) (h : isData (valD S d) = true) (r : Rp K H S d v) : Dp K H v (pd (valD S d)) := by
  cases d with
  | obj a =>
    have e : v = .ref a := r
    subst e
    unfold valD at h ⊢
    dsimp only at h ⊢
    split at h
    · rename_i ds q
      obtain ⟨vs, q1, q2⟩ := rp_obj R q
      exact .lst (.inl (.inl q1)) (dp_ofL R ds vs h q2)
    · exact absurd (show false = true from h) Bool.false_ne_true
  | _ => exact dp_of R _ v h r
/-! ### repr -/
/-- may be shown -/
def shD (d : D) : Prop := shOk d = true ∧ shL d ≤ 16777216 ∧ (pd d).depth ≤ 60
def shownD (d : D) : Str := (pd d).shown
/-! ### == where a tracked list may stand -/
def eqV_ (x y : D) (S : Sd) (Q : DK) : Prop := (eqOk (valD S x) = true ∧ eqOk (valD S y) = true) ∧ Q (.bl (deq (valD S x) (valD S y))) S
def neV_ (x y : D) (S : Sd) (Q : DK) : Prop := (eqOk (valD S x) = true ∧ eqOk (valD S y) = true) ∧ Q (.bl (!deq (valD S x) (valD S y))) S
def rdEqO : RD2 := fun x y S Q => match x, y with
  | .obj a, y => eqV_ (.obj a) y S Q
  | x, .obj b => eqV_ x (.obj b) S Q
  | x, y => rdEq x y S Q
def rdNeO : RD2 := fun x y S Q => match x, y with
  | .obj a, y => neV_ (.obj a) y S Q
  | x, .obj b => neV_ x (.obj b) S Q
  | x, y => rdNe x y S Q
theorem neO_inv {x y : D} {S : Sd} {Q : DK} (h : rdNeO x y S Q) : rdNe x y S Q ∨ neV_ x y S Q := by
  cases x with
  | obj a => exact .inr h
  | _ => cases y <;> first | exact .inr h | exact .inl h
theorem od_neO {X : Cx} (hu : X.A.units + 64 < cLine) : OpD X (compareOp .NotEq) rdNeO := ⟨_, op_ne.or (op_neD hu), fun H S fr σd σ x y dx dy Qv Qd ok rx ry h k => by
  rcases neO_inv h with h | ⟨⟨h1, h2⟩, q⟩
  · exact ne_lift H S fr σd σ x y dx dy Qv Qd ok rx ry h k
  · have a1 := Bool.and_eq_true_iff.mp h1
    have a2 := Bool.and_eq_true_iff.mp h2
    refine .inr ⟨_, _, dp_val ok.rel a1.1 rx, dp_val ok.rel a2.1 ry, a1.2, a2.2, ?_⟩
    rw [eqv_pd _ _ a1.1 a2.1]
    exact k _ (.bl _) H S ok rfl q⟩
section
variable {S : Sd} {Q : DK}
theorem x_eqO_ss {x y : Str} : rdEqO (.str x) (.str y) S Q = Q (.bl (decide (x = y))) S := rfl
theorem x_neO_ss {x y : Str} : rdNeO (.str x) (.str y) S Q = Q (.bl (!decide (x = y))) S := rfl
theorem x_val {a : Addr} {ds : List D} (h : S a = some (.lst ds)) : valD S (.obj a) = .lst ds := by
  unfold valD
  dsimp only
  rw [h]
end
/-! ### a list unpacked into names -/
def dTupL (n : Nat) (t : TGsD) : TGD := fun d σ S Q => match lstD S d with
  | some ds => ds.length = n ∧ t ds σ S Q
  | none => False
theorem x_tupL {n : Nat} {t : TGsD} {ds : List D} {σ : Si} {S : Sd} {Q : Si → Sd → Prop} : dTupL n t (.lst ds) σ S Q = (ds.length = n ∧ t ds σ S Q) := rfl
/-! ### a tracked list walked by a comprehension -/
section
variable {X : Cx} {W : Wi} {pos : Pos}
end
/-! ### isinstance, reverse of tracked lists -/
end Dv

/-! An own exception whose __init__ stores its arguments, over any built-in class of errors. -/
namespace Hx
open PySem PySem.Spec PyProof.Rows L2
/-- what the written part says of such a class; bm: its built-in class's mro -/
structure OexG (K : PySem.W.Frag) (C : Addr) (bm : List Value) (newId : String) : Prop where
  cls : ∃ nm q N bs sn sub ab col dd k0 k1 k2 k3 k5, K.lookup C = some (excClassObj nm q C N bs bm true sn sub ab col dd k0 k1 k2 k3 k5 newId)
  pass : ∀ self : Value, refuseLoop self "__setattr__" bm = pure ()
  top : bm.contains (.type "object") = true
  sa : PySem.W.findIn K (.ref C) "__setattr__" = some (some (.builtin "object.__setattr__"))
  exC : PySem.W.subIn K (.ref C) (.type "BaseException") = some true
  tyC : PySem.W.typeIn K (.ref C) = some (.type "type")
  kC : PySem.W.keepIn K (.ref C) = true
section
open Builtin Builtin.ObjectAttr PySem.Calls
variable {prog : Program} {w : World} {A : Around} {R : Result → Shared → Prop} {hp : Heap} {g : Array GenState} {d : Drawn} {t : Nat} {os : OsState} {K : PySem.W.Frag} {name : Str} {tk : Tok} {v : Value} {x C dx : Addr} {fv : Array Value} {cd : ClassData} {bm : List Value} {m0 : Str → Option Value} {nl : List Str}
theorem look_sub {o : Obj} {od : Option Obj} (X : K.In hp) (I : PySem.W.InstAt hp x o C od) (hcd : PySem.W.clsIn K C = some cd) (hm : cd.mro = .ref C :: bm) (top : bm.contains (.type "object") = true) : PySem.W.Looks (model prog w) hp (isInstance (.ref x) (.type "object")) true :=
  I.type.andThen (PySem.W.looks_mroIn X (by
    have e : cd.mro.contains (.type "object") = true := by rw [hm, List.contains_cons, top, Bool.or_true]
    unfold PySem.W.mroIn
    rw [hcd, Option.bind_some, if_neg (by rw [hm]; exact Bool.false_ne_true), e]))
/-- the first field: a dict is made -/
theorem put_first (X : K.In hp) (hx : hp.get? x = some { cls := .ref C, data := .fields fv }) (hcd : PySem.W.clsIn K C = some cd) (hm : cd.mro = .ref C :: bm) (pass : ∀ self : Value, refuseLoop self "__setattr__" bm = pure ()) (top : bm.contains (.type "object") = true) (hh : cd.hasDict = true) (free : PySem.W.findIn K (.ref C) name = some none)
    (fin : ∀ h' tk' dx, (∀ b o, b ≠ x → hp.get? b = some o → h'.get? b = some o) → hp.objs.size ≤ dx → dx ≠ x → h'.get? x = some { cls := .ref C, dict := some dx, data := .fields fv } → h'.Ns1 dx (fun y => if y = name then some v else none) → R (.ok (.ret .none)) ⟨h', g, d, tk', os⟩) :
    codeAny (model prog w) A (.call (.builtin "object.__setattr__") ⟨[.ref x, .str name tk, v], []⟩) R ⟨hp, g, d, t, os⟩ := by
  have SF := F.store_object
  have I : PySem.W.InstAt hp x { cls := .ref C, data := .fields fv } C none := ⟨hx, rfl, rfl, trivial⟩
  have apart : x ≠ hp.objs.size := Nat.ne_of_lt (Heap.lt_size hx)
  have seeC : PySem.W.Looks (model prog w) hp (classData C) cd := PySem.W.looks_clsIn X hcd
  have seeM : PySem.W.Looks (model prog w) hp (mroOf (.ref C)) cd.mro := seeC.andThen .now
  have seeT : PySem.W.Looks (model prog w) hp (storeTaker? none) none := .now
  refine codeAny_call_builtin SF.slot.plain SF.entry (@PySem.W.check_slot (model prog w) _ _ ⟨hp, g, d, t, os⟩ "object.__setattr__" "object" "__setattr__" (.ref x) [.str name tk, v] [] _ SF.kind SF.split (look_sub X I hcd hm top) (SF.args (.ref x) (.str name tk) v) ?_)
  rw [PySem.W.osa_eq, refuse_eq]
  refine wpAny_bind (wpAny_bind (I.type.at (wpAny_bind (seeM.at ?_))))
  rw [hm, refuseLoop_ref, pass]
  refine wpAny_pure (wpAny_bind (I.type.at (wpAny_bind ((PySem.W.looks_findIn X free).at (wpAny_bind (seeT.at (show wpAny _ _ (storeInOwnDict (.ref x) (.ref C) (.str name tk) name v false) _ _ _ from ?_)))))))
  cases cd
  dsimp only at hh
  subst hh
  unfold storeInOwnDict ownDictForStores
  repeat (first | with_reducible refine HandSPX.store_in_new ?_ ?_ | with_reducible refine wpAny_loadPart_at hx ?_ | with_reducible refine seeC.at ?_ | wp_step)
  · exact ⟨_, #[], _, (Heap.get?_update_ne _ _ _ _ apart.symm).trans (Heap.get?_push_at rfl rfl), rfl, fun e he => absurd he (by simp), fun _ => rfl⟩
  · intro h' tk' hn' hs
    refine fin h' tk' hp.objs.size (fun b o hb ho => ?_) (Nat.le_refl _) apart.symm ?_ hn'
    · exact (hs.2 b (Nat.ne_of_lt (Heap.lt_size ho))).trans ((Heap.get?_update_ne _ _ _ _ hb).trans (Heap.get?_push_of_some _ ho))
    · exact (hs.2 x apart).trans (Heap.get?_update_self _ (Heap.get?_push_of_some _ hx) rfl)
/-- a further field -/
theorem put_more (X : K.In hp) (hx : hp.get? x = some { cls := .ref C, dict := some dx, data := .fields fv }) (hns : hp.Ns1 dx m0) (hw : Within m0 nl) (hz : nl.length ≤ 1000) (hcd : PySem.W.clsIn K C = some cd) (hm : cd.mro = .ref C :: bm) (pass : ∀ self : Value, refuseLoop self "__setattr__" bm = pure ()) (top : bm.contains (.type "object") = true) (hh : cd.hasDict = true)
    (free : PySem.W.findIn K (.ref C) name = some none) (fin : ∀ h' tk', (∀ b o, b ≠ dx → hp.get? b = some o → h'.get? b = some o) → h'.Ns1 dx (fun y => if y = name then some v else m0 y) → R (.ok (.ret .none)) ⟨h', g, d, tk', os⟩) :
    codeAny (model prog w) A (.call (.builtin "object.__setattr__") ⟨[.ref x, .str name tk, v], []⟩) R ⟨hp, g, d, t, os⟩ := by
  have SF := F.store_object
  obtain ⟨oD, esD, epD, hoD, hdD, _⟩ := hns.count hw
  have I : PySem.W.InstAt hp x { cls := .ref C, dict := some dx, data := .fields fv } C (some oD) := ⟨hx, rfl, rfl, hoD⟩
  have seeC : PySem.W.Looks (model prog w) hp (classData C) cd := PySem.W.looks_clsIn X hcd
  have seeM : PySem.W.Looks (model prog w) hp (mroOf (.ref C)) cd.mro := seeC.andThen .now
  have seeT : PySem.W.Looks (model prog w) hp (storeTaker? none) none := .now
  refine codeAny_call_builtin SF.slot.plain SF.entry (@PySem.W.check_slot (model prog w) _ _ ⟨hp, g, d, t, os⟩ "object.__setattr__" "object" "__setattr__" (.ref x) [.str name tk, v] [] _ SF.kind SF.split (look_sub X I hcd hm top) (SF.args (.ref x) (.str name tk) v) ?_)
  rw [PySem.W.osa_eq, refuse_eq]
  refine wpAny_bind (wpAny_bind (I.type.at (wpAny_bind (seeM.at ?_))))
  rw [hm, refuseLoop_ref, pass]
  refine wpAny_pure (wpAny_bind (I.type.at (wpAny_bind ((PySem.W.looks_findIn X free).at (wpAny_bind (seeT.at (show wpAny _ _ (storeInOwnDict (.ref x) (.ref C) (.str name tk) name v false) _ _ _ from ?_)))))))
  cases cd
  dsimp only at hh
  subst hh
  unfold storeInOwnDict ownDictForStores
  repeat (first | with_reducible refine OEX.store_in_old hns hw hz ?_ | with_reducible refine wpAny_loadPart_at hx ?_ | with_reducible refine seeC.at ?_ | wp_step)
  exact fun h' tk' hn' hs => fin h' tk' (fun b o hb ho => (hs.2 b hb).trans ho) hn'
end
section
variable {X : Cx} {pins : List (Addr × Obj)} {σ : L2.St} {H : Hp} {s : Shared} {a C dx : Addr} {f : Str} {y : V} {u : Value} {fs : List (Str × V)} {Q : Unit → Shared → Prop} {E : Value → Shared → Prop} {A : Around} {bm : List Value} {newId : String}
theorem OexG.cd {K : PySem.W.Frag} (T : OexG K C bm newId) : ∃ cd, PySem.W.clsIn K C = some cd ∧ cd.mro = .ref C :: bm ∧ cd.hasDict = true := by
  obtain ⟨nm, q, N, bs, sn, sub, ab, col, dd, k0, k1, k2, k3, k5, hC⟩ := T.cls
  exact ⟨{ name := nm, bases := bs, mro := .ref C :: bm, ns := N, qualname := q, hasDict := true, slotNames := sn, subclasses := sub, abstract := ab, collection := col, hasDel := false }, by unfold PySem.W.clsIn; rw [hC] <;> rfl, rfl, rfl⟩
theorem set_first (T : OexG X.K C bm newId) (I : Inv X pins σ H s) (e : H a = some (exo a C none)) (free : PySem.W.findIn X.K (.ref C) f = some none) (ry : RelV y u)
    (fin : ∀ dx s', H dx = none → dx ≠ a → Inv X pins σ (upd (upd H dx (exd dx [(f, y)])) a (exo a C (some dx))) s' → Q () s') : wpAny (model X.prog X.w) A (setAttr (.ref a) f u) Q E s := by
  obtain ⟨cd, hcd, hm, hh⟩ := T.cd
  obtain ⟨t1, ho⟩ := exo_at I.hok e
  obtain ⟨hp, g, d, t, os⟩ := s
  refine PySem.W.set_plain I.kIn (ox := { cls := .ref C, dict := none, data := .fields #[.ref t1, .none, .none, .none, .bool false, .none] }) (od := none) ⟨ho, rfl, rfl, trivial⟩ T.sa ?_
  refine put_first I.kIn ho hcd hm T.pass T.top hh free fun h' tk' dx k dn dne hx hn => ?_
  have new : H dx = none := I.hok.fresh dn
  have old : ∀ {b : Addr} {o : Obj}, hp.get? b = some o → b ≠ dx := fun q => Nat.ne_of_lt (Nat.lt_of_lt_of_le (Heap.lt_size q) dn)
  have other : ∀ {b : Addr}, H b = none → b ≠ a := fun n z => by
    rw [z, e] at n
    cases n
  have still : ∀ {b : Addr} {o : HO}, H b = some o → b ≠ a → upd (upd H dx (exd dx [(f, y)])) a (exo a C (some dx)) b = some o := fun q h => by rw [upd_ne h, upd_ne (ne_of_none q new)]; exact q
  have un : Un X.fs [] H (upd (upd H dx (exd dx [(f, y)])) a (exo a C (some dx))) hp h' := {
    keep := fun b o q n _ _ => k b o (other n) q
    slot := fun b o q n _ _ => ⟨o.slots, k b o (other n) q⟩
    free := fun b o q n _ => by rw [upd_ne (other n), upd_ne (old q)]; exact n
    there := fun b o q _ => by
      by_cases hb : b = a
      · rw [hb]; exact ⟨_, hx⟩
      · exact ⟨o, k b o hb q⟩
    tups := fun b xs q => still q (at_ne e q exo_tup)
    frzs := fun b o v q => still q (at_ne e q exo_frz)
    tbls := fun b ps q => ⟨#[], by rw [still q (at_ne e q exo_tbl)]; simp⟩ }
  refine fin dx _ new dne (I.un (t' := tk') un fun b o q => ?_)
  by_cases hb : b = a
  · subst hb
    rw [upd_same] at q
    cases q
    exact exo_ok hx
  rw [upd_ne hb] at q
  by_cases hd : b = dx
  · subst hd
    rw [upd_same] at q
    cases q
    exact exd_ok hn (relO_put (fs := []) ry fun g => True.intro)
  rw [upd_ne hd] at q
  exact (I.hok b o q).stay (fun c v hc z => k c v (hc.elim (fun h => h ▸ hb) fun h => at_ne e h exo_own) z) (fun c hc => still hc (at_ne e hc exo_own)) fun c xs hc => still hc (at_ne e hc exo_tup)
theorem set_more (T : OexG X.K C bm newId) (I : Inv X pins σ H s) (e : H a = some (exo a C (some dx))) (ed : H dx = some (exd dx fs)) (hl : fs.length ≤ 900) (free : PySem.W.findIn X.K (.ref C) f = some none) (ry : RelV y u) (fin : ∀ s', Inv X pins σ (upd H dx (exd dx ((f, y) :: fs))) s' → Q () s') :
    wpAny (model X.prog X.w) A (setAttr (.ref a) f u) Q E s := by
  obtain ⟨cd, hcd, hm, hh⟩ := T.cd
  obtain ⟨t1, ho⟩ := exo_at I.hok e
  obtain ⟨mA, hns, rel⟩ := exd_at I.hok ed
  have hw := within_of rel
  obtain ⟨hp, g, d, t, os⟩ := s
  obtain ⟨oD, _, _, hoD, _, _⟩ := hns.count hw
  refine PySem.W.set_plain I.kIn (ox := { cls := .ref C, dict := some dx, data := .fields #[.ref t1, .none, .none, .none, .bool false, .none] }) (od := some oD) ⟨ho, rfl, rfl, hoD⟩ T.sa ?_
  refine put_more I.kIn ho hns hw (by rw [List.length_map]; omega) hcd hm T.pass T.top hh free fun h' tk' k hn => ?_
  obtain ⟨o, es, ep, ho', rest⟩ := id hn
  exact fin _ (I.write (t' := tk') (x := dx) (e := dx) (o := exd dx ((f, y) :: fs)) (by rw [ed]; exact True.intro) (.inl rfl) k ⟨o, ho'⟩ (exd_ok hn (relO_put ry rel)))
end
/-- self.f = e -/
def tPut (K : PySem.W.Frag) (bm : List Value) (newId : String) (f : Str) (to te : TE) : TS := fun D σ H => te σ H fun y H1 => to σ H1 fun x H2 => ∃ a C : Addr, x = .ref a ∧ OexG K C bm newId ∧ PySem.W.findIn K (.ref C) f = some none ∧
  ((H2 a = some (exo a C none) ∧ ∀ dx, H2 dx = none → dx ≠ a → D.nx σ (upd (upd H2 dx (exd dx [(f, y)])) a (exo a C (some dx)))) ∨ ∃ (dx : Addr) (fs : List (Str × V)), H2 a = some (exo a C (some dx)) ∧ H2 dx = some (exd dx fs) ∧ fs.length ≤ 900 ∧ D.nx σ (upd H2 dx (exd dx ((f, y) :: fs))))
section
variable {X : Cx} {o e : Expr} {es : List Expr} {to te : TE} {ta : TA} {f : Str} {p p' p1 p2 pos : Pos} {bm : List Value} {newId : String}
theorem ps_put (ho : PE X o to) (he : PE X e te) (hs : swapsWith e (some (.Attribute o f p')) pos.line X.env = pure false := by rfl) : PS X (.Assign [.Attribute o f p'] e pos) (tPut X.K bm newId f to te) :=
  ⟨fun pins s σ H D I h => plainObj_wpAny_Assign_Attribute (thn (he.run pins s σ H _ I h) fun v s1 ⟨y, H1, I1, r1, q1⟩ => thn (ho.run pins s1 σ H1 _ I1 q1) fun u s2 ⟨x, H2, I2, r2, a, C, ex, T, free, q⟩ => by
    subst ex
    obtain rfl : u = Value.ref a := r2
    rcases q with ⟨ea, q⟩ | ⟨dx, fs, ea, ed, hl, q⟩
    · exact set_first T I2 ea free r1 fun dx s' n ne J => ⟨σ, _, J, q dx n ne⟩
    · exact set_more T I2 ea ed hl free r1 fun s' J => ⟨σ, _, J, q⟩) hs⟩
/-- C(e, ..), its fields ready -/
def tMkG (C : Addr) (sp : Sp) (ta : TA) : L2.St → Hp → XK → Prop := fun σ H Q => ta σ H fun vs H1 => vs.length ≤ 1000 ∧ ∀ a, H1 a = none → sp (.ref a :: vs) (upd H1 a (exo a C none))
  (fun v H2 => v = .non ∧ ∃ (d : Addr) (fs : List (Str × V)), H2 a = some (exo a C (some d)) ∧ H2 d = some (exd d fs) ∧ H1 d = none ∧ Q (.ref C) (some d) (upd (L2.del H2 a) d (.xd fs))) (fun _ _ _ => False)
theorem noGuard {args : Args} : (Code.builtin "type.__call__" args).guards = [] := if_neg (by show ¬ (guardIds.contains "type.__call__" = true); decide)
theorem ctx_none {C : Addr} {d : Option Addr} {t0 : Addr} : L2N.Zn (.ref C) d ({ cls := .ref C, dict := d, data := .fields #[.ref t0, .none, .none, .none, .bool false, .none] } : Obj) := ⟨rfl, rfl, fun vs e => by cases e; rfl⟩
theorem pmk_G {B initId : String} {x : Str} {C fI : Addr} {k : Nat} {fd : FuncData} {ps : List Str} {sp : Sp} (FB : ExcBaseFacts B newId initId bm) (T : OexG X.K C bm newId) (iC : PySem.W.findIn X.K (.ref C) "__init__" = some (some (.ref fI))) (tI : PySem.W.typeIn X.K (.ref fI) = some (.type "function"))
    (F1 : FnG X.prog X.w X.K X.mg X.base (L2N.CX X.prog X.w) k fI fd ps sp) (hr : RoomG (k + 1) X.A) (hb : Binds X.K fd ps []) (hg : Gl X x) (hm : X.mg x = some (.ref C)) (ha : PA X (e :: es) ta)
    (hdb : (x == ("__debug__" : Str)) = false := by decide) (he : starEach (e :: es) X.env = (false, eval e X.env) :: starEach es X.env := by rfl) (hpl : (backTo pos (starEach es X.env)).any (·.1) = false := by rfl) :
    L2N.PMk X (.Call (.Name x p) (e :: es) [] pos) (tMkG C sp ta) := by
  intro pins s σ H Q I h
  obtain ⟨nm, q, N, bs, sn, sub, ab, col, dd, k0, k1, k2, k3, k5, hC⟩ := T.cls
  refine wpAny_Call_Name_kw (ld_glob I hg hm (PySem.W.callWith_K (h₀ := X.base) I.ok.mod.kin T.kC (thn (ha.run pos pins s σ H _ I h) fun us s1 ⟨vs, H1, I1, r1, hz, q1⟩ => ⟨I1.kIn, show wpAny _ _ (call (.ref C) us) _ _ _ from ?_⟩) he hpl) hdb)
  obtain ⟨hp, g, dr, tk, os⟩ := s1
  have above : hp.objs.size ≤ hp.objs.size + 1 := Nat.le_succ _
  have q2 := q1 (hp.objs.size + 1) (I1.hok.fresh above)
  have kept : ∀ b o, hp.get? b = some o → ((hp.push (PySem.W.kdv_tup us)).push (PySem.HandSPX.excO C hp.objs.size)).get? b = some o := fun b o z => Heap.get?_push_of_some _ (Heap.get?_push_of_some _ z)
  have I2 : Inv X pins σ (upd H1 (hp.objs.size + 1) (exo (hp.objs.size + 1) C none)) ⟨(hp.push (PySem.W.kdv_tup us)).push (PySem.HandSPX.excO C hp.objs.size), g, dr, tk, os⟩ :=
    I1.laid (t' := tk) (a := hp.objs.size + 1) (o := exo (hp.objs.size + 1) C none) (h' := (hp.push (PySem.W.kdv_tup us)).push (PySem.HandSPX.excO C hp.objs.size)) kept above (exo_ok (by heap_get))
  have r2 : Vals (V.ref (hp.objs.size + 1) :: vs) (Value.ref (hp.objs.size + 1) :: us) := .cons rfl r1
  have hl : (Value.ref (hp.objs.size + 1) :: us).length = ps.length := r2.length.symm.trans (F1.len _ _ _ _ q2)
  have few : us.length ≤ sizeLine := by rw [← Paired.length r1, sizeLine_eq]; omega
  have bind := hb _ (Value.ref (hp.objs.size + 1) :: us) I2.kIn (by rw [List.append_nil]; exact hl)
  rw [List.append_nil] at bind
  have room : RoomG k (X.A.under (.builtin "type.__call__" ⟨Value.ref C :: us, []⟩)) := ⟨hr.rm.make C us [], by
    unfold Around.under
    dsimp only
    rw [hr.gd, noGuard]
    rfl⟩
  refine wpAny_call (PySem.HandSPX.call_own FB (fun _ => rfl) (I1.kIn _ _ hC) (PySem.W.looks_findIn I1.kIn iC) (fun self => PySem.W.bind_fn I1.kIn self tI) few (codeAny_mono (F1.run _ X.stack _ _ ⟨Value.ref (hp.objs.size + 1) :: us, []⟩ _ _ _ (fun _ _ _ => False) room (I2.env0.make C us []) bind r2 q2) fun r s' got => ?_))
  match r, got with
  | .error er, got =>
    obtain ⟨_, _, _, _, _, _, _, _, _, _, _, _, z⟩ := (show L2N.CX X.prog X.w X.stack _ _ (fun _ _ _ => False) er s' from got)
    exact z.elim
  | .ok (.ret u), ⟨v, H2, os2, bare2, un2, hok2, rv, ev, d, fs, ea, ed, hd1, q3⟩ =>
    subst ev
    obtain ⟨h2, g2, d2, t2, os'⟩ := s'
    obtain ⟨t0, G, J, kG, ge, hoe, na⟩ := mk_end0 (d2 := d2) (t2 := t2) I1 above kept un2 hok2 os2 bare2 ea ed hd1
    exact ⟨rv, _, _, _, ⟨G, g2, d2, t2, os'⟩, _, .ref C, some d, rfl, J, kG, ge, hoe, ctx_none, rfl, rfl, na, rfl, bare2, raises_own T.exC T.tyC, q3⟩
end
/-! ### __init__ with one field, with two -/
def spI1 (C : Addr) (f : Str) : Sp := fun vs H Q _ => ∃ (a : Addr) (v : V), vs = [.ref a, v] ∧ H a = some (exo a C none) ∧ ∀ d, H d = none → d ≠ a → Q .non (upd (upd H d (exd d [(f, v)])) a (exo a C (some d)))
def spI2 (C : Addr) (f g : Str) : Sp := fun vs H Q _ => ∃ (a : Addr) (v w : V), vs = [.ref a, v, w] ∧ H a = some (exo a C none) ∧ ∀ d, H d = none → d ≠ a → Q .non (upd (upd (upd H d (exd d [(f, v)])) a (exo a C (some d))) d (exd d [(g, w), (f, v)]))
section
variable {P : Program} {w : World} {K : PySem.W.Frag} {mg : Str → Option Value} {base : Heap} {x qual : Str} {st : Stmt} {fI C : Addr} {fd : FuncData} {bm : List Value} {newId : String} {s f g : Str} {p1 p2 p3 p4 q1 q2 q3 q4 : Pos}
theorem init1_ok (F : L2.Fun K x qual st fI fd) (Sc : FnScope [s, f] [s, f] (defScope st)) (T : OexG K C bm newId) (free : PySem.W.findIn K (.ref C) f = some none) (hb : defBody st = [.Assign [.Attribute (.Name s p1) f p2] (.Name f p3) p4])
    (hs : ∀ env : Env, swapsWith (.Name f p3) (some (.Attribute (.Name s p1) f p2)) p4.line env = pure false := by intro _; rfl)
    (v1 : Vis (defScope st) s := by first | exact .inl rfl | exact .inr (.inl rfl)) (v2 : Vis (defScope st) f := by first | exact .inl rfl | exact .inr (.inl rfl)) (d1 : (s == ("__debug__" : Str)) = false := by decide) (c1 : (s == ("__classdict__" : Str)) = false := by decide) (d2 : (f == ("__debug__" : Str)) = false := by decide) (c2 : (f == ("__classdict__" : Str)) = false := by decide) :
    FnG P w K mg base (L2N.CX P w) 1 fI fd [s, f] (spI1 C f) := by
  refine fnG_of (k := 0) (N := [s, f]) F Sc (fun vs H Q E ⟨_, _, e, _⟩ => by rw [e]; rfl) fun cdv _ A outer sh H vs Q E hr ⟨a, v, e, ha, q⟩ => ?_
  subst e
  rw [hb]
  refine ⟨_, pss_one (ps_put (bm := bm) (newId := newId) (pe_var (i := 0) rfl v1 d1 c1) (pe_var (i := 1) rfl v2 d2 c2) (hs _)), ?_⟩
  exact ⟨v, rfl, .ref a, rfl, a, C, rfl, T, free, .inl ⟨ha, q⟩⟩
theorem init2_ok (F : L2.Fun K x qual st fI fd) (Sc : FnScope [s, f, g] [s, f, g] (defScope st)) (T : OexG K C bm newId) (freeF : PySem.W.findIn K (.ref C) f = some none) (freeG : PySem.W.findIn K (.ref C) g = some none)
    (hb : defBody st = [.Assign [.Attribute (.Name s p1) f p2] (.Name f p3) p4, .Assign [.Attribute (.Name s q1) g q2] (.Name g q3) q4])
    (hs : ∀ env : Env, swapsWith (.Name f p3) (some (.Attribute (.Name s p1) f p2)) p4.line env = pure false := by intro _; rfl) (hs2 : ∀ env : Env, swapsWith (.Name g q3) (some (.Attribute (.Name s q1) g q2)) q4.line env = pure false := by intro _; rfl)
    (v1 : Vis (defScope st) s := by first | exact .inl rfl | exact .inr (.inl rfl)) (v2 : Vis (defScope st) f := by first | exact .inl rfl | exact .inr (.inl rfl)) (v3 : Vis (defScope st) g := by first | exact .inl rfl | exact .inr (.inl rfl)) (d1 : (s == ("__debug__" : Str)) = false := by decide) (c1 : (s == ("__classdict__" : Str)) = false := by decide)
    (d2 : (f == ("__debug__" : Str)) = false := by decide) (c2 : (f == ("__classdict__" : Str)) = false := by decide) (d3 : (g == ("__debug__" : Str)) = false := by decide) (c3 : (g == ("__classdict__" : Str)) = false := by decide) : FnG P w K mg base (L2N.CX P w) 1 fI fd [s, f, g] (spI2 C f g) := by
  refine fnG_of (k := 0) (N := [s, f, g]) F Sc (fun vs H Q E ⟨_, _, _, e, _⟩ => by rw [e]; rfl) fun cdv _ A outer sh H vs Q E hr ⟨a, v, w, e, ha, q⟩ => ?_
  subst e
  rw [hb]
  refine ⟨_, pss_cons (ps_put (bm := bm) (newId := newId) (pe_var (i := 0) rfl v1 d1 c1) (pe_var (i := 1) rfl v2 d2 c2) (hs _)) (pss_one (ps_put (bm := bm) (newId := newId) (pe_var (i := 0) rfl v1 d1 c1) (pe_var (i := 2) rfl v3 d3 c3) (hs2 _))), ?_⟩
  refine ⟨v, rfl, .ref a, rfl, a, C, rfl, T, freeF, .inl ⟨ha, fun d nd ne => ?_⟩⟩
  exact ⟨w, rfl, .ref a, rfl, a, C, rfl, T, freeG, .inr ⟨d, [(f, v)], upd_same, by rw [upd_ne ne, upd_same], by show 1 ≤ 900; decide, q d nd ne⟩⟩
end
end Hx

/-! Readings by value: own errors with fields raised, their fields read in a suite. -/
namespace Dv
open PySem L2 PyProof.Rows Hx
/-- such a class: its built-in class's mro bm, its fields fs, its __init__ at fI -/
structure FxF (K : PySem.W.Frag) (n : Str) (bm : List Value) (newId : String) (C fI : Addr) (fs : List Str) : Prop where
  at_ : PySem.W.nsIn K mainGlobals n = some (some (.ref C))
  ox : OexG K C bm newId
  free : ∀ f ∈ fs, PySem.W.findIn K (.ref C) f = some none
  ini : PySem.W.findIn K (.ref C) "__init__" = some (some (.ref fI))
  fn : PySem.W.typeIn K (.ref fI) = some (.type "function")
def oexB (K : PySem.W.Frag) (C : Addr) (bm : List Value) (newId : String) : Bool := match K.lookup C with
  | some ⟨.type "type", _, .cls cd, sl⟩ => (match cd.mro, sl.toList with
    | .ref C' :: bm', [_, _, _, _, some (.builtin n), _] => C' == C && (n == newId && (cd.hasDict && (!cd.hasDel && bm' == bm)))
    | _, _ => false)
  | _ => false
theorem oexB_ok {K : PySem.W.Frag} {C : Addr} {bm : List Value} {newId : String} (h : oexB K C bm newId = true) : ∃ nm q N bs sn sub ab col dd k0 k1 k2 k3 k5, K.lookup C = some (excClassObj nm q C N bs bm true sn sub ab col dd k0 k1 k2 k3 k5 newId) := by
  unfold oexB at h
  split at h
  · rename_i dd cd sl ho
    split at h
    · rename_i C' bm' k0 k1 k2 k3 n k5 hm hs
      simp only [Bool.and_eq_true, beq_iff_eq, Bool.not_eq_true'] at h
      obtain ⟨rfl, rfl, hdct, hdel, rfl⟩ := h
      obtain ⟨nm, bs, mro, ns, qn, hd, sn, sub, ab, col, del⟩ := cd
      dsimp only at hm hdel hdct
      subst hm hdel hdct
      have hsl : sl = #[k0, k1, k2, k3, some (.builtin n), k5] := by
        obtain ⟨l⟩ := sl
        simp only at hs
        rw [hs]
      subst hsl
      exact ⟨_, _, _, _, _, _, _, _, _, _, _, _, _, _, ho⟩
    · cases h
  · cases h
def fxB (K : PySem.W.Frag) (n : Str) (bm : List Value) (newId : String) (C fI : Addr) (fs : List Str) : Bool := decide (PySem.W.nsIn K mainGlobals n = some (some (.ref C))) && (oexB K C bm newId && (decide (PySem.W.findIn K (.ref C) "__setattr__" = some (some (.builtin "object.__setattr__"))) && (decide (PySem.W.subIn K (.ref C) (.type "BaseException") = some true) &&
  (decide (PySem.W.typeIn K (.ref C) = some (.type "type")) && (PySem.W.keepIn K (.ref C) && (fs.all (fun f => decide (PySem.W.findIn K (.ref C) f = some none)) && (decide (PySem.W.findIn K (.ref C) "__init__" = some (some (.ref fI))) && decide (PySem.W.typeIn K (.ref fI) = some (.type "function")))))))))
theorem fxB_ok {K : PySem.W.Frag} {n : Str} {bm : List Value} {newId : String} {C fI : Addr} {fs : List Str} (pass : ∀ self : Value, refuseLoop self "__setattr__" bm = pure ()) (top : bm.contains (.type "object") = true) (h : fxB K n bm newId C fI fs = true) : FxF K n bm newId C fI fs := by
  obtain ⟨h1, h⟩ := and_b h
  obtain ⟨h2, h⟩ := and_b h
  obtain ⟨h3, h⟩ := and_b h
  obtain ⟨h4, h⟩ := and_b h
  obtain ⟨h5, h⟩ := and_b h
  obtain ⟨h6, h⟩ := and_b h
  obtain ⟨h7, h⟩ := and_b h
  obtain ⟨h8, h9⟩ := and_b h
  exact ⟨of_decide_eq_true h1, ⟨oexB_ok h2, pass, top, of_decide_eq_true h3, of_decide_eq_true h4, of_decide_eq_true h5, h6⟩, fun f hf => of_decide_eq_true (List.all_eq_true.mp h7 f hf), of_decide_eq_true h8, of_decide_eq_true h9⟩
/-! ### raise C(e), raise C(e, e') -/
def dRaiseF1 (WD : WXD) (n f : Str) (t : TAD) : TSD := fun _ σ S => t σ S fun ds S1 => match ds with
  | [a] => WD ⟨n, [f], [a]⟩ σ S1
  | _ => False
def dRaiseF2 (WD : WXD) (n f g : Str) (t : TAD) : TSD := fun _ σ S => t σ S fun ds S1 => match ds with
  | [a, b] => WD ⟨n, [g, f], [b, a]⟩ σ S1
  | _ => False
section
variable {X : Cx} {W : Wi} {pos pos' p : Pos} {n s f g : Str} {bm : List Value} {B newId initId : String} {C fI : Addr} {fs : List Str} {fd : FuncData} {e : Expr} {es : List Expr} {t : TAD}
theorem made_eq {H1 H2 : Hp} {a d : Addr} {v : List (Str × V)} (ha : H1 a = none) (hd : d ≠ a) (h : ∀ b, b ≠ a → b ≠ d → H2 b = H1 b) : upd (L2.del H2 a) d (.xd v) = upd H1 d (.xd v) := by
  funext b
  by_cases hb : b = d
  · rw [hb, upd_same, upd_same]
  · rw [upd_ne hb, upd_ne hb]
    by_cases hc : b = a
    · rw [hc, L2.del_same, ha]
    · rw [L2.del_ne hc, h b hc hb]
theorem ds_raiseF1 (hc : X.calm = true) (tk : L2N.Takes X W.V) (FB : ExcBaseFacts B newId initId bm) (Fx : FxF X.K n bm newId C fI fs) (F1 : FnG X.prog X.w X.K X.mg X.base (L2N.CX X.prog X.w) 1 fI fd [s, f] (spI1 C f)) (hr : RoomG 2 X.A) (hb : Binds X.K fd [s, f] []) (gC : X.mg n = some (.ref C)) (hg : Gl X n) (ha : DA X W (e :: es) t)
    (hdb : (n == ("__debug__" : Str)) = false := by decide) (he : starEach (e :: es) X.env = (false, eval e X.env) :: starEach es X.env := by rfl) (hpl : (backTo pos (starEach es X.env)).any (·.1) = false := by rfl) :
    DS X W (.Raise (some (.Call (.Name n p) (e :: es) [] pos)) none pos') (dRaiseF1 W.D n f t) :=
  ⟨PS.imp (L2N.ps_raise hc tk (pmk_G FB Fx.ox Fx.ini Fx.fn F1 hr hb hg gC ha.p hdb he hpl)) fun D σ H ⟨σd, S, fr, Dd, ok, cl, h, k⟩ => ⟨σd, S, fr, _, ok, cl, h, fun vs ds H1 S1 ok1 r1 q => by
    match ds, q with
    | [da], q =>
      obtain ⟨v, rfl, rv⟩ := rpL1 r1
      refine ⟨by show 1 ≤ 1000; decide, fun a na => ⟨a, v, rfl, upd_same, fun d nd ne => ⟨rfl, d, _, upd_same, by rw [upd_ne ne, upd_same], by rw [upd_ne ne] at nd; exact nd, ?_⟩⟩⟩
      rw [upd_ne ne] at nd
      rw [made_eq na ne fun b hba hbd => by rw [upd_ne hba, upd_ne hbd, upd_ne hba]]
      refine cl σd σ _ S1 (.ref C) (some d) ⟨n, [f], [da]⟩ (ok1.new nd) ⟨Fx.at_, (fun z => by cases z), fun dx ed => ?_⟩ q
      cases ed
      exact ⟨_, upd_same, ok1.rel.free nd, .inr ⟨rfl, rpL_step ok1.rel (step_new nd) [da] [v] (rpL_cons rv rpL_nil)⟩⟩⟩⟩
theorem ds_raiseF2 (hc : X.calm = true) (tk : L2N.Takes X W.V) (FB : ExcBaseFacts B newId initId bm) (Fx : FxF X.K n bm newId C fI fs) (F1 : FnG X.prog X.w X.K X.mg X.base (L2N.CX X.prog X.w) 1 fI fd [s, f, g] (spI2 C f g)) (hr : RoomG 2 X.A) (hb : Binds X.K fd [s, f, g] []) (gC : X.mg n = some (.ref C)) (hg : Gl X n) (ha : DA X W (e :: es) t)
    (hdb : (n == ("__debug__" : Str)) = false := by decide) (he : starEach (e :: es) X.env = (false, eval e X.env) :: starEach es X.env := by rfl) (hpl : (backTo pos (starEach es X.env)).any (·.1) = false := by rfl) :
    DS X W (.Raise (some (.Call (.Name n p) (e :: es) [] pos)) none pos') (dRaiseF2 W.D n f g t) :=
  ⟨PS.imp (L2N.ps_raise hc tk (pmk_G FB Fx.ox Fx.ini Fx.fn F1 hr hb hg gC ha.p hdb he hpl)) fun D σ H ⟨σd, S, fr, Dd, ok, cl, h, k⟩ => ⟨σd, S, fr, _, ok, cl, h, fun vs ds H1 S1 ok1 r1 q => by
    match ds, q with
    | [da, db], q =>
      obtain ⟨v, w, rfl, rv, rw'⟩ := rpL2 r1
      refine ⟨by show 2 ≤ 1000; decide, fun a na => ⟨a, v, w, rfl, upd_same, fun d nd ne => ⟨rfl, d, _, by rw [upd_ne (Ne.symm ne), upd_same], upd_same, by rw [upd_ne ne] at nd; exact nd, ?_⟩⟩⟩
      rw [upd_ne ne] at nd
      rw [made_eq na ne fun b hba hbd => by rw [upd_ne hbd, upd_ne hba, upd_ne hbd, upd_ne hba]]
      refine cl σd σ _ S1 (.ref C) (some d) ⟨n, [g, f], [db, da]⟩ (ok1.new nd) ⟨Fx.at_, (fun z => by cases z), fun dx ed => ?_⟩ q
      cases ed
      exact ⟨_, upd_same, ok1.rel.free nd, .inr ⟨rfl, rpL_step ok1.rel (step_new nd) [db, da] [w, v] (rpL_cons rw' (rpL_cons rv rpL_nil))⟩⟩⟩⟩
/-! ### e.f in a suite -/
def fldOf (ns : List Str) (xs : List D) (f : Str) : Option D := (ns.zip xs).lookup f
theorem rpL_lookup {K : PySem.W.Frag} {H : Hp} {S : Sd} : ∀ {xs : List D} {fs : List (Str × V)} {f : Str} {d : D}, RpL K H S xs (fs.map Prod.snd) → ((fs.map Prod.fst).zip xs).lookup f = some d → ∃ v, fs.lookup f = some v ∧ Rp K H S d v
  | [], fs, f, d, h, e => by simp at e
  | x :: xs, [], f, d, h, e => by simp at e
  | x :: xs, (g, v) :: fs, f, d, h, e => by
    obtain ⟨v', r, e1, h1, h2⟩ := h
    simp only [List.map_cons, List.cons.injEq] at e1
    obtain ⟨rfl, rfl⟩ := e1
    simp only [List.map_cons, List.zip_cons_cons, List.lookup_cons] at e
    rw [List.lookup_cons]
    cases c : f == g with
    | true =>
      rw [c] at e
      cases e
      exact ⟨v, rfl, h1⟩
    | false =>
      rw [c] at e
      exact rpL_lookup h2 e
end
theorem pass_IndexError (self : Value) : refuseLoop self "__setattr__" [.type "IndexError", .type "LookupError", .type "Exception", .type "BaseException", .type "object"] = pure () := by kernel_rfl
theorem pass_ArithmeticError (self : Value) : refuseLoop self "__setattr__" [.type "ArithmeticError", .type "Exception", .type "BaseException", .type "object"] = pure () := by kernel_rfl
end Dv

/-! The place of a whole number in a tuple of whole numbers. -/
namespace Dv
open PySem L2 PyProof.Rows Hx
end Dv

/-! Instances of own classes by value: made, their fields, their methods. -/
namespace Dv
open PySem L2 PyProof.Rows Hx
/-- an own class with a plain __init__ -/
structure ClF (K : PySem.W.Frag) (n : Str) (C fI : Addr) : Prop where
  at_ : ClsAt K n C
  cls : Cls K C
  new : Mk K C fI
def clB (K : PySem.W.Frag) (n : Str) (C fI : Addr) : Bool := decide (PySem.W.nsIn K mainGlobals n = some (some (.ref C))) && (PySem.W.plainGet K C Str.empty && (PySem.W.hasDictIn K C && (PySem.W.plainOver K C && (decide (PySem.W.findIn K (.ref C) "__setattr__" = some (some (.builtin "object.__setattr__"))) &&
  (PySem.W.makesIn K C && (decide (PySem.W.findIn K (.ref C) "__init__" = some (some (.ref fI))) && (PySem.W.isFn K (.ref fI) && PySem.W.keepIn K (.ref C))))))))
theorem clB_ok {K : PySem.W.Frag} {n : Str} {C fI : Addr} (h : clB K n C fI = true) : ClF K n C fI := by
  unfold clB at h
  obtain ⟨a, h⟩ := and_b h
  obtain ⟨b, h⟩ := and_b h
  obtain ⟨c, h⟩ := and_b h
  obtain ⟨d, h⟩ := and_b h
  obtain ⟨e, h⟩ := and_b h
  obtain ⟨f, h⟩ := and_b h
  obtain ⟨g, h⟩ := and_b h
  obtain ⟨i, j⟩ := and_b h
  exact ⟨of_decide_eq_true (p := PySem.W.nsIn K mainGlobals n = some (some (.ref C))) a, ⟨b, c, d, of_decide_eq_true e⟩, ⟨f, of_decide_eq_true g, i, j⟩⟩
def noAttrB (K : PySem.W.Frag) (C : Addr) (fs : List Str) : Bool := fs.all fun f => decide (PySem.W.findIn K (.ref C) f = some none)
theorem noAttrB_ok {K : PySem.W.Frag} {C : Addr} {fs : List Str} (h : noAttrB K C fs = true) {f : Str} (hf : f ∈ fs) : NoAttr K C f := of_decide_eq_true (p := PySem.W.findIn K (.ref C) f = some none) (List.all_eq_true.mp h f hf)
def methB (K : PySem.W.Frag) (C : Addr) (m : Str) (f : Addr) : Bool := decide (PySem.W.findIn K (.ref C) m = some (some (.ref f))) && (PySem.W.isFn K (.ref f) && PySem.W.keepIn K (.ref f))
theorem methB_ok {K : PySem.W.Frag} {C : Addr} {m : Str} {f : Addr} (h : methB K C m f = true) : Meth K C m f := by
  unfold methB at h
  obtain ⟨a, h⟩ := and_b h
  obtain ⟨b, c⟩ := and_b h
  exact ⟨of_decide_eq_true a, b, c⟩
/-- C(..), then it is never stored into again -/
def dMake (n : Str) (sp : SpD) (dds : List D) (WD : WXD) (t : TAD) : TED := fun σ S Q => t σ S fun xs S1 => ∀ a, S1 a = none → sp (.obj a :: (xs ++ dds)) (upS S1 a (.ins n [] [])) (fun v S2 => v = .non ∧ ∃ ns ys, S2 a = some (.ins n ns ys) ∧ Q (.inst n ns ys) (del S2 a)) fun y S2 => WD y σ S2
/-- o.m(..) -/
def dMeth (n m : Str) (sp : SpD) (dds : List D) (WD : WXD) (to : TED) (t : TAD) : TED := fun σ S Q => to σ S fun o S1 => (∃ ns ys, o = .inst n ns ys ∧ m ∉ ns) ∧ t σ S1 fun xs S2 => sp (o :: (xs ++ dds)) S2 Q fun y S3 => WD y σ S3
/-- o.f, of what is stored into no more -/
def dFld (n f : Str) (to : TED) : TED := fun σ S Q => to σ S fun o S1 => ∃ ns ys d, o = .inst n ns ys ∧ fldOf ns ys f = some d ∧ Q d S1
/-- self.f = e, the first time -/
def dPut (n f : Str) (to tv : TED) : TSD := fun D σ S => tv σ S fun y S1 => to σ S1 fun o S2 => ∃ a ns ys, o = .obj a ∧ S2 a = some (.ins n ns ys) ∧ f ∉ ns ∧ ns.length < 1000 ∧ D.nx σ (upS S2 a (.ins n (ns ++ [f]) (ys ++ [y])))
theorem putF_new {f : Str} {v : V} : ∀ {fs : List (Str × V)}, f ∉ fs.map Prod.fst → putF f v fs = fs ++ [(f, v)]
  | [], _ => rfl
  | (g, x) :: r, h => by
    have h1 : g ≠ f := fun e => h (by rw [e]; simp)
    show (if g = f then (g, v) :: r else (g, x) :: putF f v r) = _
    rw [if_neg h1, putF_new fun z => h (List.mem_cons_of_mem _ z)]
    rfl
theorem lookup_not {f : Str} : ∀ {fs : List (Str × V)}, f ∉ fs.map Prod.fst → fs.lookup f = none
  | [], _ => rfl
  | (g, x) :: r, h => by
    have h1 : (f == g) = false := beq_false_of_ne fun e => h (by rw [e]; simp)
    rw [List.lookup_cons, h1]
    exact lookup_not fun z => h (List.mem_cons_of_mem _ z)
section
variable {X : Cx} {W : Wi} {k : Nat} {f C fI : Addr} {fd : FuncData} {ps : List Str} {sp : SpD} {ds : List Value} {dvs : List V} {dds : List D} {x n m g : Str} {p pos apos pos' : Pos} {o e : Expr} {es : List Expr} {to tv : TED} {t : TAD}
theorem step_made {H : Hp} {S : Sd} {x d : Addr} {u : HO} {w : HO} {o : SO} (hx : H x = none) (hd : H d = none) : Step H S (upd (upd H d w) x u) (upS S x o) := fun b z h1 h2 => by
  have b1 : b ≠ x := ne_of_none h1 hx
  have b2 : b ≠ d := ne_of_none h1 hd
  exact ⟨by rw [upd_ne b1, upd_ne b2]; exact h1, by rw [upS_ne b1]; exact h2⟩
theorem make_lift (c : ClsAt X.K n C) (hdd : ∀ H S, RpL X.K H S dds dvs) (σ : L2.St) (H : Hp) (Q : VK) (h : upE X.K W (dMake n sp dds W.D t) σ H Q) : tMakeS C (upF X.K sp) dvs (WE W.V) (upA X.K W t) σ H Q := by
  obtain ⟨σd, S, fr, Qd, ok, cl, h, k⟩ := h
  refine ⟨σd, S, fr, _, ok, cl, h, fun vs ds H1 S1 ok1 r1 h1 x dx hx hd hne => ?_⟩
  have st : Step H1 S1 (upd (upd H1 dx (.own x)) x (.ins C dx [])) (upS S1 x (.ins n [] [])) := step_made hx hd
  have sx : S1 x = none := ok1.rel.free hx
  have R2 : RelS X.K (upd (upd H1 dx (.own x)) x (.ins C dx [])) (upS S1 x (.ins n [] [])) := fun b w e => by
    by_cases hb : b = x
    · subst hb
      rw [upS_same] at e
      cases e
      exact ⟨C, dx, [], c, upd_same, rfl, rfl⟩
    · rw [upS_ne hb] at e
      exact soOk_step ok1.rel st (ok1.rel b w e) fun u hu => by rw [upd_ne hb, upd_ne (ne_of_none hu hd)]; exact hu
  have ok2 := ok1.step st R2
  refine ⟨.obj x :: (ds ++ dds), _, fr ++ prs σd σ, _, _, R2, ok2.out, rpL_cons rfl (rpL_app (rpL_step ok1.rel st _ _ r1) (hdd _ _)), h1 x sx, fun v d H3 S3 R3 f3 r3 q3 => ?_, fun cls od y H3 S3 R3 f3 ry q3 => ?_⟩
  · obtain ⟨e1, ns, ys, e2, q⟩ := q3
    subst e1
    refine ⟨r3, k (.ref x) _ H3 _ ((ok2.back R3 f3).step step_del (rel_del R3)) (rp_frozenI R3 e2) q⟩
  · exact cl σd σ H3 S3 cls od y (ok2.back R3 f3) ry q3
theorem de_make (Cf : ClF X.K n C fI) (F : FnG X.prog X.w X.K X.mg X.base (L2N.CX X.prog X.w) k fI fd ps (upF X.K sp)) (hr : RoomG (k + 1) X.A) (hg : Gl X n) (hm : X.mg n = some (.ref C)) (hb : Binds X.K fd ps ds) (hd : Vals dvs ds) (hdd : ∀ H S, RpL X.K H S dds dvs) (tk : L2N.Takes X W.V)
    (ha : DA X W (e :: es) t) (hdb : (n == ("__debug__" : Str)) = false := by decide) (he : starEach (e :: es) X.env = (false, eval e X.env) :: starEach es X.env := by rfl) (hpl : (backTo pos (starEach es X.env)).any (·.1) = false := by rfl) :
    DE X W (.Call (.Name n p) (e :: es) [] pos) (dMake n sp dds W.D t) :=
  ⟨PE.imp (pe_makeG Cf.new F hr hg hm hb hd (fun σ => L2N.passAt tk σ) ha.p hdb he hpl) (make_lift Cf.at_ hdd)⟩
theorem meth_lift (c : ClsAt X.K n C) (hdd : ∀ H S, RpL X.K H S dds dvs) (σ : L2.St) (H : Hp) (Q : VK) (h : upE X.K W (dMeth n m sp dds W.D to t) σ H Q) : tMethS C m (upF X.K sp) dvs (WE W.V) (upE X.K W to) (upA X.K W t) σ H Q := by
  obtain ⟨σd, S, fr, Qd, ok, cl, h, k⟩ := h
  refine ⟨σd, S, fr, _, ok, cl, h, fun x dx H1 S1 ok1 r1 ⟨⟨ns, ys, eo, hm⟩, h1⟩ => ?_⟩
  subst eo
  obtain ⟨C', a, d', fs, c', rfl, ha, sa, en, r⟩ := r1
  obtain rfl := c'.one c
  have r1 : Rp X.K H1 S1 (.inst n ns ys) (.ref a) := ⟨C', a, d', fs, c', rfl, ha, sa, en, r⟩
  refine ⟨a, d', fs, rfl, ha, lookup_not (by rw [en]; exact hm), σd, S1, (.ref a, .inst n ns ys) :: fr, _, ok1.cons r1, cl.tail, h1, fun vs ds H2 S2 ok2 r2 h2 => ?_⟩
  refine ⟨.inst n ns ys :: (ds ++ dds), S2, fr ++ prs σd σ, Qd, _, ok2.tail.rel, ok2.tail.out, rpL_cons ok2.head (rpL_app r2 (hdd H2 S2)), h2, fun v d H3 S3 R3 f3 r3 q3 => ?_, fun cls od y H3 S3 R3 f3 ry q3 => ?_⟩
  · exact k v d H3 S3 (ok2.tail.back R3 f3) r3 q3
  · exact cl σd σ H3 S3 cls od y (ok2.tail.back R3 f3) ry q3
theorem de_meth {pl : Sem Bool} (Cf : ClF X.K n C fI) (hM : Meth X.K C m f) (ho : DE X W o to) (F : FnG X.prog X.w X.K X.mg X.base (L2N.CX X.prog X.w) k f fd ps (upF X.K sp)) (hr : RoomG k X.A) (hb : Binds X.K fd ps ds) (hd : Vals dvs ds) (hdd : ∀ H S, RpL X.K H S dds dvs) (tk : L2N.Takes X W.V)
    (ha : DA X W (e :: es) t) (hst : starEach (e :: es) X.env = (false, eval e X.env) :: starEach es X.env := by rfl) (hpl : (backTo pos (starEach es X.env)).any (·.1) = false := by rfl)
    (ht : eval (.Call (.Attribute o m apos) (e :: es) [] pos) X.env = (do
      let ov ← eval o X.env
      standAt apos.atName
      let (f, first) ← holding [ov] (getMethod ov m pl)
      callWith pos f first (backTo pos (starEach (e :: es) X.env)) (backToKw pos (keywordEach [] X.env))) := by rfl) :
    DE X W (.Call (.Attribute o m apos) (e :: es) [] pos) (dMeth n m sp dds W.D to t) :=
  ⟨PE.imp (pe_methG (pl := pl) ho.p Cf.cls hM F hr hb hd (fun σ => L2N.passAt tk σ) ha.p hst hpl ht) (meth_lift Cf.at_ hdd)⟩
theorem de_meth0 {pl : Sem Bool} (Cf : ClF X.K n C fI) (hM : Meth X.K C m f) (ho : DE X W o to) (F : FnG X.prog X.w X.K X.mg X.base (L2N.CX X.prog X.w) k f fd ps (upF X.K sp)) (hr : RoomG k X.A) (hb : Binds X.K fd ps ds) (hd : Vals dvs ds) (hdd : ∀ H S, RpL X.K H S dds dvs) (tk : L2N.Takes X W.V)
    (ht : eval (.Call (.Attribute o m apos) [] [] pos) X.env = (do
      let ov ← eval o X.env
      standAt apos.atName
      let (f, first) ← holding [ov] (getMethod ov m pl)
      callWith pos f first (backTo pos (starEach [] X.env)) (backToKw pos (keywordEach [] X.env))) := by rfl) :
    DE X W (.Call (.Attribute o m apos) [] [] pos) (dMeth n m sp dds W.D to dNil) :=
  ⟨PE.imp (pe_methG0 (pl := pl) ho.p Cf.cls hM F hr hb hd (fun σ => L2N.passAt tk σ) ht) fun σ H Q h => by
    obtain ⟨σd, S, fr, Qd, ok, cl, h, k⟩ := meth_lift (t := dNil) Cf.at_ hdd σ H Q h
    refine ⟨σd, S, fr, _, ok, cl, h, fun x dx H1 S1 ok1 r1 q => ?_⟩
    obtain ⟨a, d', fs, e1, e2, e3, σd', S', fr', Qd', ok', cl', h', k'⟩ := k x dx H1 S1 ok1 r1 q
    exact ⟨a, d', fs, e1, e2, e3, k' [] [] H1 S' ok' rfl h'⟩⟩
theorem de_fld (Cf : ClF X.K n C fI) (hn : NoAttr X.K C g) (ho : DE X W o to) (hb : attributeBase o g X.env (eval o X.env) = eval o X.env := by rfl) : DE X W (.Attribute o g pos) (dFld n g to) :=
  ⟨PE.imp (pe_fld ho.p hb) fun σ H Q ⟨σd, S, fr, Qd, ok, cl, h, k⟩ => ⟨σd, S, fr, _, ok, cl, h, fun x dx H1 S1 ok1 r1 ⟨ns, ys, d, eo, el, q⟩ => by
    subst eo
    obtain ⟨C', a, d', fs, c', rfl, ha, sa, en, r⟩ := r1
    obtain rfl := c'.one Cf.at_
    subst en
    obtain ⟨v, e1, e2⟩ := rpL_lookup r el
    exact ⟨a, C', d', fs, v, rfl, ha, Cf.cls, hn, e1, k v d H1 S1 ok1 e2 q⟩⟩⟩
theorem ds_put (Cf : ClF X.K n C fI) (hn : NoAttr X.K C g) (ho : DE X W o to) (hv : DE X W e tv) (hs : swapsWith e (some (.Attribute o g pos')) pos.line X.env = pure false) : DS X W (.Assign [.Attribute o g pos'] e pos) (dPut n g to tv) :=
  ⟨PS.imp (ps_fld ho.p hv.p hs) fun D σ H ⟨σd, S, fr, Dd, ok, cl, h, k⟩ => ⟨σd, S, fr, _, ok, cl, h, fun y dy H1 S1 ok1 ry h1 => ⟨σd, S1, (y, dy) :: fr, _, ok1.cons ry, cl.tail, h1, fun x dx H2 S2 ok2 rx ⟨a, ns, ys, eo, es, hg, hl, q⟩ => by
    subst eo
    cases (show x = .ref a from rx)
    obtain ⟨C', dd, fs, c', ha, en, r⟩ := ok2.rel a _ es
    obtain rfl := c'.one Cf.at_
    have lf : fs.length = ns.length := by rw [← en, List.length_map]
    have st : Step H2 S2 (upd H2 a (.ins C' dd (fs ++ [(g, y)]))) (upS S2 a (.ins n (ns ++ [g]) (ys ++ [dy]))) := step_set es
    refine ⟨a, C', dd, fs, rfl, ha, Cf.cls, hn, by omega, ?_⟩
    rw [putF_new (by rw [en]; exact hg)]
    refine k.nx σd σ _ _ (ok2.tail.step st (rel_set ok2.rel es ⟨C', dd, _, c', upd_same, by rw [List.map_append, en]; rfl, ?_⟩)) q
    rw [List.map_append]
    exact rpL_step ok2.rel st _ _ (rpL_app r (rpL_cons ok2.head rpL_nil))⟩⟩⟩
end
/-- o.m(k = ..) -/
def dMethK (n m : Str) (sp : SpD) (nk : Nat) (idx : List Nat) (WD : WXD) (to : TED) (tk : TAD) : TED := fun σ S Q => to σ S fun o S1 => (∃ ns ys, o = .inst n ns ys ∧ m ∉ ns) ∧ tk σ S1 fun zs S2 => zs.length = nk ∧ sp (sel idx (o :: zs)) S2 Q fun y S3 => WD y σ S3
theorem de_methK {X : Cx} {W : Wi} {k : Nat} {f C fI : Addr} {fd : FuncData} {ps ks : List Str} {sp : SpD} {idx : List Nat} {n m : Str} {pos apos : Pos} {o : Expr} {kws : List Keyword} {to : TED} {tk : TAD} {pl : Sem Bool} (Cf : ClF X.K n C fI) (hM : Meth X.K C m f) (ho : DE X W o to) (F : FnG X.prog X.w X.K X.mg X.base (L2N.CX X.prog X.w) k f fd ps (upF X.K sp)) (hr : RoomG k X.A)
    (hb : KSel X.K fd ps 1 ks idx []) (tk' : L2N.Takes X W.V) (hkw : DKw X W kws tk) (hall : (backToKw pos (keywordEach kws X.env)).all (·.1.isSome) = true := by rfl) (hks : (backToKw pos (keywordEach kws X.env)).filterMap (·.1) = ks := by rfl)
    (hpl : ((backTo pos (starEach [] X.env)).any (·.1) || (backToKw pos (keywordEach kws X.env)).any (·.1.isNone)) = false := by rfl)
    (ht : eval (.Call (.Attribute o m apos) [] kws pos) X.env = (do
      let ov ← eval o X.env
      standAt apos.atName
      let (f, first) ← holding [ov] (getMethod ov m pl)
      callWith pos f first (backTo pos (starEach [] X.env)) (backToKw pos (keywordEach kws X.env))) := by rfl) : DE X W (.Call (.Attribute o m apos) [] kws pos) (dMethK n m sp ks.length idx W.D to tk) :=
  ⟨PE.imp (pe_methKG (pl := pl) ho.p Cf.cls hM F hr hb (fun σ => L2N.passAt tk' σ) hkw.p hall hks hpl ht) fun σ H Q ⟨σd, S, fr, Qd, ok, cl, h, kk⟩ => ⟨σd, S, fr, _, ok, cl, h, fun x dx H1 S1 ok1 r1 ⟨⟨ns, ys, eo, hm⟩, h1⟩ => by
    subst eo
    obtain ⟨C', a, d', fs, c', rfl, ha, sa, en, r⟩ := r1
    obtain rfl := c'.one Cf.at_
    have r1 : Rp X.K H1 S1 (.inst n ns ys) (.ref a) := ⟨C', a, d', fs, c', rfl, ha, sa, en, r⟩
    refine ⟨a, d', fs, rfl, ha, lookup_not (by rw [en]; exact hm), σd, S1, (.ref a, .inst n ns ys) :: fr, _, ok1.cons r1, cl.tail, h1, fun zs es H2 S2 ok2 r2 h2 => ?_⟩
    refine ⟨(rpL_len r2).symm.trans h2.1, sel idx (.inst n ns ys :: es), S2, fr ++ prs σd σ, Qd, _, ok2.tail.rel, ok2.tail.out, ?_, h2.2, fun v d H3 S3 R3 f3 r3 q3 => ?_, fun cls od y H3 S3 R3 f3 ry q3 => ?_⟩
    · rw [List.append_nil]
      exact rpL_sel (rpL_cons ok2.head r2) idx
    · exact kk v d H3 S3 (ok2.tail.back R3 f3) r3 q3
    · exact cl σd σ H3 S3 cls od y (ok2.tail.back R3 f3) ry q3⟩⟩
end Dv

/-! A list times a whole number; whether data stands in a list of data. -/
namespace Dv
open PySem L2 PyProof.Rows Hx
open AutoSeq1 (wpAny_loadPart')
def rdMulL : RD2 := fun x y S Q => match x, y with
  | .lst ds, .int k => (0 ≤ k ∧ k < 2 ^ 62 ∧ ds.length * k.toNat ≤ 16777216) ∧ Q (.lst (List.replicate k.toNat ds).flatten) S
  | _, _ => False
theorem x_mulL {ds : List D} {k : Int} {S : Sd} {Q : DK} : rdMulL (.lst ds) (.int k) S Q = ((0 ≤ k ∧ k < 2 ^ 62 ∧ ds.length * k.toNat ≤ 16777216) ∧ Q (.lst (List.replicate k.toNat ds).flatten) S) := rfl
/-! ### data in a list of data -/
def rdInD (neg : Bool) : RD2 := fun x y S Q => match y with
  | .lst ds => (isData x = true ∧ isDataL ds = true ∧ SeqAt.shaped (pd x) = true ∧ SeqAt.shaped (.list (pdL ds)) = true) ∧ Q (.bl (ds.any (fun z => deq z x) != neg)) S
  | _ => False
theorem any_deq {x : D} (hx : isData x = true) : ∀ {ds : List D}, isDataL ds = true → (pdL ds).any (fun z => PyData.eqv z (pd x)) = ds.any fun z => deq z x
  | [], _ => rfl
  | d :: ds, h => by
    have h2 := Bool.and_eq_true_iff.mp (show (isData d && isDataL ds) = true from h)
    show (PyData.eqv (pd d) (pd x) || (pdL ds).any _) = (deq d x || ds.any _)
    rw [eqv_pd d x h2.1 hx, any_deq hx h2.2]
theorem od_inD {X : Cx} (hu' : X.A.units + 65 < cLine) : OpD X (compareOp .In) (rdInD false) := ⟨_, op_inD hu', fun H S fr σd σ x y dx dy Qv Qd ok rx ry h k => by
  cases dy with
  | lst ds =>
    obtain ⟨⟨h1, h2, h3, h4⟩, q⟩ := h
    refine ⟨_, _, dp_of ok.rel dx x h1 rx, dp_of ok.rel (.lst ds) y h2 ry, h3, h4, ?_⟩
    rw [any_deq h1 h2]
    refine k _ (.bl _) H S ok rfl ?_
    simpa using q
  | _ => exact (show False from h).elim⟩
theorem units65 {k : Nat} {A : Around} (r : RoomG k A) : A.units + 65 < cLine := by have := r.rm.un; omega
end Dv

/-! Readings by value: defs with defaults; len of an instance. -/
namespace Dv
open PySem L2 PyProof.Rows Hx
section
variable {P : Program} {w : World} {K : PySem.W.Frag} {mg : Str → Option Value} {base : Heap}
/-- THE RULE for a def with defaults -/
theorem okDv {x qual : Str} {st : Stmt} {f T : Addr} {its : Array Value} {fd : FuncData} {N ps : List Str} {k : Nat} {sp : SpD} {t : XKD → TSD} (F : FunV K x qual st f fd T its) (Sc : FnScope N ps (defScope st)) (len : ∀ ds S Q E, sp ds S Q E → ds.length = ps.length)
    (hb : ∀ (cdv : Value) (A : Around) (outer : List Env) (s : Shared) (H : Hp) (E : XK) (Ed : XKD), Hx.RoomG k (A.deeper (envOfC qual (defScope st) s.heap.objs.size f cdv)) → DB (bodyCx P w K mg base N qual st f cdv A outer s H E) (wiOf E Ed) (defBody st) (t Ed))
    (hp : ∀ ds S Q Ed, sp ds S Q Ed → t Ed { nx := fun _ S' => Q .non S', rt := Q } (startD N ds) S) : Hx.FnG P w K mg base (L2N.CX P w) (k + 1) f fd ps (upF K sp) := by
  refine Hx.fnG_ofV F Sc (fun vs H Q E h => ?_) (fun cdv _ A outer s H vs Q E hr h => ?_)
  · obtain ⟨ds, S, fr, Qd, Ed, R, f, r, h, _⟩ := h
    rw [← rpL_len r]
    exact len ds S Qd Ed h
  · obtain ⟨ds, S, fr, Qd, Ed, R, f, r, h, hq, hx⟩ := h
    refine ⟨_, (hb cdv A outer s H E Ed hr).p, startD N ds, S, fr, { nx := fun _ S' => Qd .non S', rt := Qd }, start_ok R f r, fun σd σ H' S' cls od y o rx q => hx cls od y H' S' o.rel o.fr rx q, hp ds S Qd Ed h, ?_⟩
    exact ⟨fun σd σ H' S' o q => hq .non .non H' S' o.rel o.fr rfl q, fun v d σd σ H' S' o rv q => hq v d H' S' o.rel o.fr rv q, fun _ _ _ _ _ q => q.elim, fun _ _ _ _ _ q => q.elim⟩
end
end Dv
namespace Dv
open PySem L2 PyProof.Rows Hx
/-- len of an instance by its __len__ -/
def rdLenI (n : Str) (sp : SpD) : RDC := fun ds S Q => match ds with
  | [.inst n' ns ys] => n' = n ∧ sp [.inst n' ns ys] S (fun v S' => ∃ m : Int, v = .int m ∧ 0 ≤ m ∧ m < 2 ^ 63 ∧ Q v S') fun _ _ => False
  | _ => False
theorem cd_lenI {X : Cx} {k : Nat} {n x : Str} {C f fI : Addr} {fd : FuncData} {sp : SpD} (Cf : ClF X.K n C fI) (hm : Meth X.K C "__len__" f) (F : FnG X.prog X.w X.K X.mg X.base (L2N.CX X.prog X.w) k f fd [x] (upF X.K sp)) (hr : RoomG (k + 1) X.A) (hb : Binds X.K fd [x] [])
    (hx : ∀ σ, PassesAt (L2N.CX X.prog X.w) X σ fun _ _ _ => False) : CallD X (.builtin "len") (rdLenI n sp) :=
  ⟨_, call_lenI hm F hr hb hx, fun H S fr σd σ xs ds Qv Qd ok r h k => by
    unfold rdLenI at h
    split at h
    · rename_i n' ns ys
      obtain ⟨rfl, h⟩ := h
      obtain ⟨v, rfl, r1⟩ := rpL1 r
      obtain ⟨C', a, d', fs, c', rfl, ha, sa, en, r2⟩ := r1
      obtain rfl := c'.one Cf.at_
      have r1 : Rp X.K H S (.inst n' ns ys) (.ref a) := ⟨C', a, d', fs, c', rfl, ha, sa, en, r2⟩
      refine ⟨a, d', fs, rfl, ha, [.inst n' ns ys], S, fr ++ prs σd σ, _, _, ok.rel, ok.out, rpL_cons r1 rpL_nil, h, fun v d H2 S2 R2 f2 r2 q2 => ?_, fun cls od y H2 S2 R2 f2 ry q2 => q2⟩
      obtain ⟨m, rfl, m0, m1, q⟩ := q2
      have e : v = .int m := r2
      exact ⟨m, e, m0, m1, k _ (.int m) H2 S2 (ok.back R2 f2) rfl q⟩
    · exact h.elim⟩
end Dv

/-! A tuple told at run time of which it is known that it has no dict: its method index. -/
namespace Dv
open PySem L2 PyProof.Rows Hx
def rdTupX : RDC := fun ds S Q => match ds with
  | [.lst ys] => Q (.tupX ys) S
  | _ => False
theorem x_tupX {ys : List D} {S : Sd} {Q : DK} : rdTupX [.lst ys] S Q = Q (.tupX ys) S := rfl
/-- the same as any tuple -/
def dPlain (t : TED) : TED := fun σ S Q => t σ S fun d S1 => match d with
  | .tupX ds => Q (.tup ds) S1
  | _ => False
section
variable {X : Cx} {W : Wi} {o e : Expr} {es : List Expr} {to : TED} {t : TAD} {apos cpos : Pos}
end
end Dv

/-! Readings by value: defs called while an exception is handled. -/
namespace Dv
open PySem PySem.Spec L2 PyProof.Rows Hx
section
variable {P : Program} {w : World} {K : PySem.W.Frag} {mg : Str → Option Value} {base : Heap}
end
section
variable {X : Cx} {k : Nat} {f : Addr} {fd : FuncData} {ps : List Str} {sp : SpD} {x : Str} {p pos : Pos} {e : Expr} {es : List Expr} {t : TAD}
end
end Dv

/-! Readings by value: sep.join(reversed(xs)). -/
namespace Dv
open PySem PySem.Spec L2 PyProof.Rows Hx
section
variable {X : Cx} {W : Wi}
end
end Dv
namespace Dv
open PySem PySem.Spec L2 PyProof.Rows Hx
end Dv

/-! Readings by value: data in a tuple of data. -/
namespace Dv
open PySem PySem.Spec L2 PyProof.Rows Hx
section
variable {X : Cx}
/-! ### steps by instances alone -/
theorem op_go {rd : RD2} {ta tb : TED} {σ : Si} {S : Sd} {Q : DK} (h : ta σ S fun x S1 => tb σ S1 fun y S2 => rd x y S2 Q) : dOp rd ta tb σ S Q := h
theorem c_go {d : D} {σ : Si} {S : Sd} {Q : DK} (h : Q d S) : dC d σ S Q := h
theorem lst_go {t : TAD} {σ : Si} {S : Sd} {Q : DK} (h : t σ S fun ds S1 => ds.length ≤ 16777216 ∧ Q (.lst ds) S1) : dLst t σ S Q := h
theorem cons_go {ta : TED} {tr : TAD} {σ : Si} {S : Sd} {Q : List D → Sd → Prop} (h : ta σ S fun x S1 => tr σ S1 fun xs S2 => Q (x :: xs) S2) : dCons ta tr σ S Q := h
theorem nil_go {σ : Si} {S : Sd} {Q : List D → Sd → Prop} (h : Q [] S) : dNil σ S Q := h
theorem call_go {sp : SpD} {WD : WXD} {t : TAD} {σ : Si} {S : Sd} {Q : DK} (h : t σ S fun xs S1 => sp xs S1 Q fun y S2 => WD y σ S2) : dCall sp [] WD t σ S Q := by
  unfold dCall
  simpa only [List.append_nil] using h
theorem var_go {i : Nat} {d : D} {σ : Si} {S : Sd} {Q : DK} (e : σ[i]? = some (some d)) (h : Q d S) : dVar i σ S Q := by rw [dVar_of e]; exact h
end
end Dv

/-! Readings by value: a written dict whose keys are tuples of whole numbers. -/
namespace Dv
open PySem PySem.Spec L2 PyProof.Rows Hx
abbrev TkE := List Int × Addr × Value
section
variable {X : Cx}
end
/-! ### by value -/
/-- the dict's entries as data -/
inductive TkV (K : PySem.W.Frag) : List TkE → List (List Int × D) → Prop
  | nil : TkV K [] []
  | cons {k : List Int} {b : Addr} {u : Value} {d : D} {v : V} {xs : List TkE} {tab : List (List Int × D)} : RelV v u → (∀ H S, Rp K H S d v) → TkV K xs tab → TkV K ((k, b, u) :: xs) ((k, d) :: tab)
def tkAt (tab : List (List Int × D)) (ks : List Int) : Option D := (tab.find? fun t => decide (t.1 = ks)).map (·.2)
theorem TkV.at {K : PySem.W.Frag} {ks : List Int} : ∀ {xs : List TkE} {tab : List (List Int × D)}, TkV K xs tab →
    (atKey xs ks).isSome = (tkAt tab ks).isSome ∧ ∀ d, tkAt tab ks = some d → ∃ b u v, atKey xs ks = some (b, u) ∧ RelV v u ∧ ∀ H S, Rp K H S d v
  | _, _, .nil => ⟨rfl, fun d h => by simp [tkAt] at h⟩
  | _, _, .cons (k := k) (b := b) (u := u) (d := d') (v := v) (xs := xs) (tab := tab) r p t => by
    by_cases c : k = ks
    · have e1 : atKey ((k, b, u) :: xs) ks = some (b, u) := by simp [atKey, c]
      have e2 : tkAt ((k, d') :: tab) ks = some d' := by simp [tkAt, c]
      rw [e1, e2]
      exact ⟨rfl, fun d h => by cases h; exact ⟨b, u, v, rfl, r, p⟩⟩
    · have e1 : atKey ((k, b, u) :: xs) ks = atKey xs ks := by simp [atKey, c]
      have e2 : tkAt ((k, d') :: tab) ks = tkAt tab ks := by simp [tkAt, c]
      rw [e1, e2]
      exact t.at
section
variable {X : Cx} {W : Wi} {pos : Pos}
end
end Dv

/-! Readings by value: a written dict of two tuples of whole numbers, asked at once; min of four ints; min with default. -/
namespace Dv
open PySem L2 PyProof.Rows Hx
/-! ### {"k1": (..), "k2": (..)}[x], {"k1": (..), "k2": (..)}.get(x), x a slot -/
section
variable {K : PySem.W.Frag} {W : Wi} {k1 k2 : Str} {ns ms : List Int} {i : Nat}
end
section
variable {X : Cx} {W : Wi} {k1 k2 x : Str} {ns ms : List Int} {i : Nat} {m1 m2 : Nat} {e1 e2 : Expr} {q1 q2 dpos np pos apos : Pos}
end
/-! ### min of four ints, min with default -/
section
variable {X : Cx} {W : Wi} {e : Expr} {t : TED} {d : Int} {j : Nat} {p1 p2 p3 pos : Pos}
end
end Dv

/-! Readings by value: a lambda handed to a def that calls it within a try with one clause; the suite and what stands behind are told by values. -/
namespace Dv
open PySem L2 PyProof.Rows Hx
section
variable {X : Cx} {pos : Pos}
/-- what is wished where the error leaves the lambda -/
def EG (K : PySem.W.Frag) (c : Str) (u : Addr → Option Addr → TSD) (Q : VK) : XK := fun cls od H' => ∃ Dn, cls = .ref Dn ∧ WhF K c Dn ∧ ∃ (S : Sd) (fr : List (V × D)) (Qd : DK) (ns : List Str) (xs : List D), RelS K H' S ∧ FrOk K H' S fr ∧ (∀ a, Rp K H' S (.exc a od ns xs) (.ref a)) ∧
  (∀ a, u a od { nx := fun _ _ => False, rt := Qd } [none, some (.exc a od ns xs)] S) ∧ ∀ w d H2 S2, RelS K H2 S2 → FrOk K H2 S2 fr → Rp K H2 S2 d w → Qd d S2 → Q w H2
/-- what is wished behind -/
def NG (K : PySem.W.Frag) (v : TSD) (Q : VK) (H' : Hp) : Prop := ∃ (S : Sd) (fr : List (V × D)) (Qd : DK), RelS K H' S ∧ FrOk K H' S fr ∧ v { nx := fun _ _ => False, rt := Qd } [none, none] S ∧ ∀ w d H2 S2, RelS K H2 S2 → FrOk K H2 S2 fr → Rp K H2 S2 d w → Qd d S2 → Q w H2
def TG (K : PySem.W.Frag) (c : Str) (u : Addr → Option Addr → TSD) (v : TSD) : (XK → Hp → VK → Prop) → Hp → VK → Prop := fun tl H Q => tl (EG K c u Q) H fun _ H' => NG K v Q H'
/-- g(lambda: body), g such a def -/
def dHT (P : Addr) (q c : Str) (u : Addr → Option Addr → TSD) (v : TSD) (te : XKD → TED) : TED := fun σ S Q => S P = some (.tab q) ∧ te (fun x S' => x.cls = c ∧ ∀ a od, u a od { nx := fun _ _ => False, rt := Q } [none, some (.exc a od x.ns x.xs)] S') σ S fun _ S' => v { nx := fun _ _ => False, rt := Q } [none, none] S'
end
end Dv

/-! Readings by value: a key in a dict of the module; a text not in a text. -/
namespace Dv
open PySem L2 PyProof.Rows Hx
def dKin (ks : List Str) (ta : TED) : TED := fun σ S Q => ta σ S fun x S1 => match x with
  | .str z => Q (.bl (decide (z ∈ ks))) S1
  | _ => False
section
variable {X : Cx} {W : Wi} {pos : Pos}
end
/-! ### a text not in a text -/
def rdNotInT : RD2 := fun x y S Q => match x, y with
  | .str a, .str z => Q (.bl (!hasS z a)) S
  | _, _ => False
theorem x_notInT {a z : Str} {S : Sd} {Q : DK} : rdNotInT (.str a) (.str z) S Q = Q (.bl (!hasS z a)) S := rfl
end Dv

/-! Readings by value: sorted and min of a list of data; range downward. -/
namespace Dv
open PySem L2 PyProof.Rows Hx
/-! ### range(a, b, -1) -/
end Dv

/-! Tuples made by +, a slice or *, of which it is known that they have no dict. -/
namespace Hx
open PySem PySem.Spec PyProof.Rows L2
section
variable {X : Cx}
end
end Hx
namespace Dv
open PySem L2 PyProof.Rows Hx
section
variable {X : Cx} {W : Wi} {o e : Expr} {es : List Expr} {to : TED} {t : TAD} {apos cpos : Pos}
end
end Dv
namespace Dv
open PySem L2 PyProof.Rows Hx
end Dv

/-! Methods of an instance that is still stored into. -/
namespace Dv
open PySem L2 PyProof.Rows Hx
/-- o.m(..), o is tracked -/
def dMethO (n m : Str) (sp : SpD) (dds : List D) (WD : WXD) (to : TED) (t : TAD) : TED := fun σ S Q => to σ S fun o S1 => (∃ a ns ys, o = .obj a ∧ S1 a = some (.ins n ns ys) ∧ m ∉ ns) ∧ t σ S1 fun xs S2 => sp (o :: (xs ++ dds)) S2 Q fun y S3 => WD y σ S3
section
variable {X : Cx} {W : Wi} {k : Nat} {f C fI : Addr} {fd : FuncData} {ps : List Str} {sp : SpD} {ds : List Value} {dvs : List V} {dds : List D} {x n m g : Str} {p pos apos pos' : Pos} {o e : Expr} {es : List Expr} {to tv : TED} {t : TAD}
theorem methO_lift (c : ClsAt X.K n C) (hdd : ∀ H S, RpL X.K H S dds dvs) (σ : L2.St) (H : Hp) (Q : VK) (h : upE X.K W (dMethO n m sp dds W.D to t) σ H Q) : tMethS C m (upF X.K sp) dvs (WE W.V) (upE X.K W to) (upA X.K W t) σ H Q := by
  obtain ⟨s0, S, fr, Qd, ok, cl, h, kq⟩ := h
  refine ⟨s0, S, fr, _, ok, cl, h, fun y dy H1 S1 ok1 ry ⟨⟨a, ns, ys, eo, es, hm⟩, h1⟩ => ?_⟩
  subst eo
  cases (show y = .ref a from ry)
  obtain ⟨C', dd, fs, c', ha, en, r⟩ := ok1.rel a _ es
  obtain rfl := c'.one c
  refine ⟨a, dd, fs, rfl, ha, lookup_not (by rw [en]; exact hm), s0, S1, (.ref a, .obj a) :: fr, _, ok1.cons rfl, cl.tail, h1, fun vs ds H2 S2 ok2 r2 h2 => ?_⟩
  refine ⟨.obj a :: (ds ++ dds), S2, fr ++ prs s0 σ, Qd, _, ok2.tail.rel, ok2.tail.out, rpL_cons ok2.head (rpL_app r2 (hdd H2 S2)), h2, fun u d H3 S3 R3 f3 r3 q3 => ?_, fun cls od z H3 S3 R3 f3 rz q3 => ?_⟩
  · exact kq u d H3 S3 (ok2.tail.back R3 f3) r3 q3
  · exact cl s0 σ H3 S3 cls od z (ok2.tail.back R3 f3) rz q3
theorem de_methO {pl : Sem Bool} (Cf : ClF X.K n C fI) (hM : Meth X.K C m f) (ho : DE X W o to) (F : FnG X.prog X.w X.K X.mg X.base (L2N.CX X.prog X.w) k f fd ps (upF X.K sp)) (hr : RoomG k X.A) (hb : Binds X.K fd ps ds) (hd : Vals dvs ds) (hdd : ∀ H S, RpL X.K H S dds dvs) (tk : L2N.Takes X W.V)
    (ha : DA X W (e :: es) t) (hst : starEach (e :: es) X.env = (false, eval e X.env) :: starEach es X.env := by rfl) (hpl : (backTo pos (starEach es X.env)).any (·.1) = false := by rfl)
    (ht : eval (.Call (.Attribute o m apos) (e :: es) [] pos) X.env = (do
      let ov ← eval o X.env
      standAt apos.atName
      let (f, first) ← holding [ov] (getMethod ov m pl)
      callWith pos f first (backTo pos (starEach (e :: es) X.env)) (backToKw pos (keywordEach [] X.env))) := by rfl) :
    DE X W (.Call (.Attribute o m apos) (e :: es) [] pos) (dMethO n m sp dds W.D to t) :=
  ⟨PE.imp (pe_methG (pl := pl) ho.p Cf.cls hM F hr hb hd (fun σ => L2N.passAt tk σ) ha.p hst hpl ht) (methO_lift Cf.at_ hdd)⟩
end
end Dv

/-! Texts with fields; repr of instances by a __repr__ of their own. -/
namespace Hx
open PySem PySem.Spec PyProof.Rows L2
/-- a field of an f-text: a text, an int, a tuple -/
def tFld (K : PySem.W.Frag) (te : TE) : TE := fun σ H Q => te σ H fun x H1 => (∃ y : Str, x = .str y ∧ y.length ≤ sizeLine ∧ Q (.str y) H1) ∨ (∃ i : Int, x = .int i ∧ i.natAbs.log2 < 1920 ∧ Q (.str (toString i)) H1) ∨
  ∃ a p, x = .ref a ∧ Dp K H1 x p ∧ p.showable = true ∧ p.hasDict = false ∧ p.depth ≤ 60 ∧ p.shown.length ≤ sizeLine ∧ Q (.str p.shown) H1
theorem pe_fld_plain {X : Cx} {e : Expr} {te : TE} {pos : Pos} (hg : X.A.guards = some []) (hu : X.A.units + 64 < cLine) (he : PE X e te) : PE X (.FormattedValue e (-1) none pos) (tFld X.K te) :=
  ⟨fun pins s σ H Q I h => wpAny_FormattedValue_plain (thn (he.run pins s σ H _ I h) fun v s1 ⟨x, H1, I1, r1, q⟩ => by
    rcases q with ⟨y, rfl, hz, q⟩ | ⟨i, rfl, hz, q⟩ | ⟨a, p, rfl, hd, hs, hn, hp, hz, q⟩
    · obtain ⟨t, rfl⟩ := r1
      exact wpAny_formatField_str ⟨.str y, H1, I1, ⟨t, rfl⟩, q⟩ ⟨.str y, H1, I1.tok _, ⟨_, rfl⟩, q⟩ hz
    · obtain ⟨t, rfl⟩ := r1
      exact wpAny_formatField_int hz ⟨.str (toString i), H1, I1.tok _, ⟨_, rfl⟩, q⟩
    · obtain ⟨as, rd⟩ := Dp.reads I1 p _ v hd r1
      obtain rfl : v = Value.ref a := r1
      exact formatField_of_reads rd hs (fun z => by rw [hn] at z; cases z) hg (by omega) (fun _ _ z => z) (fun h' t tk hk => ⟨.str _, H1, I1.kept hk, ⟨t, rfl⟩, q⟩) hz)⟩
/-! ### repr of an instance -/
open Builtin in
theorem repr_fn {prog : Program} {w : World} {A : Around} {E : Value → Shared → Prop} {s : Shared} {K : PySem.W.Frag} {a C f : Addr} {ox : Obj} {od : Option Obj} {Q : Value → Shared → Prop} (hu : A.in1.units < cLine) (X : K.In s.heap) (I : PySem.W.InstAt s.heap a ox C od)
    (hf : PySem.W.findIn K (.ref C) "__repr__" = some (some (.ref f))) (fo : PySem.W.isFn K (.ref f) = true)
    (h : wpAny (model prog w) A.in1 (call (.ref f) [.ref a]) (fun r s' => ∃ z t, r = .str z t ∧ Q (.str z t) s') E s) : wpAny (model prog w) A (call (.builtin "repr") [.ref a]) Q E s := by
  refine Calls.call_function_entry PySem.F.kind_repr PySem.F.plain_repr PySem.F.entry_repr (PySem.F.args_repr1 (Value.ref a)) ?_
  unfold Builtin.«repr»
  refine wpAny_bind (m := oneArg "repr" _) (wpAny_pure (wpAny_bind (wpAny_cRoomFor hu ?_)))
  refine wpAny_bind (wpAny_bind (I.type.here ((PySem.W.looks_findIn X hf).here ?_)))
  show wpAny _ A.in1 (if (some (Value.ref f)).isNone = true then _ else _) _ E s
  rw [if_neg (show ¬ (some (Value.ref f)).isNone = true from Bool.false_ne_true)]
  refine wpAny_bind (m := callSpecialIfBound? (.ref a) (Str.ofString "__repr__") []) (PySem.W.ifBound_K X I hf fo (wpAny_mono h (fun u s2 hu2 => ?_) fun _ _ z => z))
  obtain ⟨z, t, rfl, hq⟩ := hu2
  refine wpAny_bind (wpAny_isInstance (v := .str z t) (typeIs_str _ _ _) isSubtype_str_str ?_)
  first
    | exact wpAny_pure ⟨_, rfl, hq⟩
    | (rw [if_pos rfl]; exact wpAny_pure ⟨_, rfl, hq⟩)
    | (simp only [if_true]; exact wpAny_pure ⟨_, rfl, hq⟩)
/-- what a method without arguments tells as a text -/
def rTextI (C : Addr) (sp : Sp) : List V → Hp → VK → Prop := fun xs H Q => ∃ a dx fs, xs = [.ref a] ∧ H a = some (.ins C dx fs) ∧ sp [.ref a] H (fun v H2 => ∃ z : Str, v = .str z ∧ Q (.str z) H2) fun _ _ _ => False
theorem call_reprI {X : Cx} {CX : CXT} {k : Nat} {C f : Addr} {fd : FuncData} {x : Str} {sp : Sp} (hu : X.A.units + 64 < cLine) (hm : Meth X.K C "__repr__" f) (F : FnG X.prog X.w X.K X.mg X.base CX k f fd [x] sp) (hr : RoomG (k + 1) X.A) (hb : Binds X.K fd [x] []) (hx : ∀ σ, PassesAt CX X σ fun _ _ _ => False) :
    CallR X (.builtin "repr") (rTextI C sp) := fun pins s σ H xs us Q I r h => by
  obtain ⟨a, dx, fs, rfl, ea, h⟩ := h
  obtain ⟨u, rfl, rx⟩ := vals1 r
  cases rx
  obtain ⟨mA, O, _⟩ := ins_get I.hok ea
  obtain ⟨od, J, _⟩ := O.look
  refine repr_fn (by show X.A.units + 1 < cLine; omega) I.kIn J hm.at_ hm.fn ?_
  have bind := hb s [.ref a] I.kIn rfl
  refine wpAny_call (codeAny_mono (F.run X.A.in1 X.stack s H _ _ _ _ (fun _ _ _ => False) hr.in1 I.env0.in1 bind (show Vals [V.ref a] [Value.ref a] from .cons rfl .nil) h) fun out s' got => ?_)
  match out, got with
  | .error e, got => exact hx σ pins H s e s' I got
  | .ok (.ret u), got =>
    obtain ⟨v, H', J', rv, z, ev, q⟩ := I.after got
    subst ev
    obtain ⟨t, rfl⟩ := rv
    exact ⟨z, t, rfl, .str z, H', J', ⟨t, rfl⟩, q⟩
end Hx
namespace Dv
open PySem L2 PyProof.Rows Hx
def fldQ (S : Sd) (Q : DK) : D → Prop
  | .str z => z.length ≤ 16777216 ∧ Q (.str z) S
  | .int i => i.natAbs.log2 < 1920 ∧ Q (.str (toString i)) S
  | .tup ds => shD (.tup ds) ∧ Q (.str (shownD (.tup ds))) S
  | _ => False
/-- {x} -/
def dFmt (te : TED) : TED := fun σ S Q => te σ S fun d S1 => fldQ S1 Q d
/-- the parts one behind the other -/
def dJs : List TED → Str → Si → Sd → (Str → Sd → Prop) → Prop
  | [], acc, _, S, Q => Q acc S
  | t :: ts, acc, σ, S, Q => t σ S fun x S1 => ∃ y : Str, x = .str y ∧ (acc ++ y).length ≤ 16777216 ∧ dJs ts (acc ++ y) σ S1 Q
def dJoined (ts : List TED) : TED := fun σ S Q => dJs ts Str.empty σ S fun z S1 => Q (.str z) S1
inductive DJ (X : Cx) (W : Wi) : List Expr → List TED → Prop where
  | nil : DJ X W [] []
  | cons {e : Expr} {t : TED} {es : List Expr} {ts : List TED} (h : DE X W e t) (r : DJ X W es ts) : DJ X W (e :: es) (t :: ts)
section
variable {X : Cx} {W : Wi} {e : Expr} {te : TED} {pos : Pos}
theorem tup_shown {K : PySem.W.Frag} {H : Hp} {S : Sd} {ds : List D} {v : V} (R : RelS K H S) (r : Rp K H S (.tup ds) v) (h : shD (.tup ds)) : ∃ a, v = .ref a ∧ Dp K H v (pd (.tup ds)) ∧ (pd (.tup ds)).showable = true ∧ (pd (.tup ds)).hasDict = false ∧ (pd (.tup ds)).depth ≤ 60 ∧ (pd (.tup ds)).shown.length ≤ sizeLine := by
  obtain ⟨h1, h2, h3⟩ := h
  obtain ⟨a, vs, rfl, q1, q2⟩ := (id r : ∃ p vs, v = .ref p ∧ SqT K H p vs ∧ RpL K H S ds vs)
  exact ⟨a, rfl, dp_of R _ _ (shOk_data h1) r, shOk_show h1, pd_noDict _, h3, by rw [sl_eq]; exact Nat.le_trans (shown_len h1) h2⟩
theorem de_fmt (hg : X.A.guards = some []) (hu : X.A.units + 64 < cLine) (he : DE X W e te) : DE X W (.FormattedValue e (-1) none pos) (dFmt te) :=
  ⟨PE.imp (pe_fld_plain hg hu he.p) fun σ H Q ⟨s0, S, fr, Qd, ok, cl, h, k⟩ => ⟨s0, S, fr, _, ok, cl, h, fun x dx H1 S1 ok1 r1 q => by
    cases dx with
    | str z =>
      obtain rfl : x = .str z := r1
      exact .inl ⟨z, rfl, by rw [sl_eq]; exact q.1, k _ (.str z) H1 S1 ok1 rfl q.2⟩
    | int i =>
      obtain rfl : x = .int i := r1
      exact .inr (.inl ⟨i, rfl, q.1, k _ (.str _) H1 S1 ok1 rfl q.2⟩)
    | tup ds =>
      obtain ⟨a, rfl, h1, h2, h3, h4, h5⟩ := tup_shown ok1.rel r1 q.1
      exact .inr (.inr ⟨a, _, rfl, h1, h2, h3, h4, h5, k _ (.str _) H1 S1 ok1 rfl q.2⟩)
    | _ => exact (show False from q).elim⟩⟩
theorem dj_p : ∀ {es : List Expr} {ts : List TED}, DJ X W es ts → PJ X es (ts.map (upE X.K W))
  | _, _, .nil => .nil
  | _, _, .cons h r => .cons h.p (dj_p r)
theorem js_lift {K : PySem.W.Frag} {fr : List (V × D)} {s0 : Si} {σ : L2.St} {Qd : Str → Sd → Prop} {Q : Str → Hp → Prop} (cl : Cl K W fr) (k : ∀ z H S, Ok K H S fr s0 σ → Qd z S → Q z H) : ∀ (ts : List TED) (acc : Str) (H : Hp) (S : Sd), Ok K H S fr s0 σ → dJs ts acc s0 S Qd → tJs (ts.map (upE K W)) acc σ H Q
  | [], acc, H, S, ok, h => k acc H S ok h
  | t :: ts, acc, H, S, ok, h => ⟨s0, S, fr, _, ok, cl, h, fun v d H1 S1 ok1 r1 ⟨y, e, hl, q⟩ => by
    subst e
    obtain rfl : v = .str y := r1
    exact ⟨y, rfl, by rw [sl_eq]; exact hl, js_lift cl k ts (acc ++ y) H1 S1 ok1 q⟩⟩
theorem de_joined {v1 v2 : Expr} {rest : List Expr} {ts : List TED} (h : DJ X W (v1 :: v2 :: rest) ts) : DE X W (.JoinedStr (v1 :: v2 :: rest) pos) (dJoined ts) :=
  ⟨PE.imp (pe_joined (dj_p h)) fun σ H Q ⟨s0, S, fr, Qd, ok, cl, h, k⟩ => js_lift cl (fun z H1 S1 ok1 q => k _ (.str z) H1 S1 ok1 rfl q) ts _ H S ok h⟩
end
/-- repr of an instance by its __repr__ -/
def rdReprI (n : Str) (sp : SpD) : RDC := fun ds S Q => match ds with
  | [.inst n' ns ys] => n' = n ∧ sp [.inst n' ns ys] S (fun v S' => ∃ z : Str, v = .str z ∧ Q v S') fun _ _ => False
  | _ => False
theorem cd_reprI {X : Cx} {k : Nat} {n x : Str} {C f fI : Addr} {fd : FuncData} {sp : SpD} (hu : X.A.units + 64 < cLine) (Cf : ClF X.K n C fI) (hm : Meth X.K C "__repr__" f) (F : FnG X.prog X.w X.K X.mg X.base (L2N.CX X.prog X.w) k f fd [x] (upF X.K sp)) (hr : RoomG (k + 1) X.A) (hb : Binds X.K fd [x] [])
    (hx : ∀ σ, PassesAt (L2N.CX X.prog X.w) X σ fun _ _ _ => False) : CallD X (.builtin "repr") (rdReprI n sp) :=
  ⟨_, call_reprI hu hm F hr hb hx, fun H S fr σd σ xs ds Qv Qd ok r h k => by
    unfold rdReprI at h
    split at h
    · rename_i n' ns ys
      obtain ⟨rfl, h⟩ := h
      obtain ⟨v, rfl, r1⟩ := rpL1 r
      obtain ⟨C', a, d', fs, c', rfl, ha, sa, en, r2⟩ := r1
      obtain rfl := c'.one Cf.at_
      have r1 : Rp X.K H S (.inst n' ns ys) (.ref a) := ⟨C', a, d', fs, c', rfl, ha, sa, en, r2⟩
      refine ⟨a, d', fs, rfl, ha, [.inst n' ns ys], S, fr ++ prs σd σ, _, _, ok.rel, ok.out, rpL_cons r1 rpL_nil, h, fun v d H2 S2 R2 f2 r2 q2 => ?_, fun cls od y H2 S2 R2 f2 ry q2 => q2⟩
      obtain ⟨z, rfl, q⟩ := q2
      have e : v = .str z := r2
      exact ⟨z, e, k _ (.str z) H2 S2 (ok.back R2 f2) rfl q⟩
    · exact h.elim⟩
end Dv

/-! Own classes called by names. -/
namespace Hx
open PySem PySem.Spec PyProof.Rows L2
section
variable {X : Cx} {CX : CXT} {k n : Nat} {f C : Addr} {fd : FuncData} {ps ks : List Str} {sp : Sp} {idx : List Nat} {dvs : List V} {E : L2.St → XK} {x : Str} {p pos : Pos} {e : Expr} {es : List Expr} {kws : List Keyword} {t tk : TA}
end
end Hx
namespace Dv
open PySem L2 PyProof.Rows Hx
section
variable {X : Cx} {W : Wi} {k np : Nat} {f C fI : Addr} {fd : FuncData} {ps ks : List Str} {sp : SpD} {idx : List Nat} {dvs : List V} {dds : List D} {n : Str} {p pos : Pos} {e : Expr} {es : List Expr} {kws : List Keyword} {t tk : TAD}
end
end Dv

/-! min of a range by a bound method whose answers are data. -/
namespace Hx
open PySem PySem.Spec PyProof.Rows L2
/-- what stays while the best is sought: J j b k: of the first j things the one at b is the least so far, its key is k -/
structure MinRun (prog : Program) (w : World) (A : Around) (q T : Addr) (wr : List Addr) (G : Array GenState → Array GenState → Prop) (n : Nat) (P : Nat → Value → Prop) (St : Nat → Shared → Prop) (J0 : Shared → Prop) (J : Nat → Nat → Value → Shared → Prop) : Prop where
  keep0 : ∀ s s', J0 s → Moved (T :: wr) G s s' → J0 s'
  keep : ∀ j b k s s', J j b k s → Moved (T :: wr) G s s' → J j b k s'
  first : ∀ v (s : Shared) (o : Obj) (Q : Value → Shared → Prop) (E : Value → Shared → Prop), P 0 v → J0 s → St 1 s → s.heap.get? T = some o → (∀ k s', J 1 0 k s' → St 1 s' → s'.heap.get? T = some o → Q k s') → wpAny (model prog w) A (call (.ref q) [v]) Q E s
  turn : ∀ j b kb v (s : Shared) (o : Obj) (Q : Value → Shared → Prop) (E : Value → Shared → Prop), 1 ≤ j → j < n → P j v → J j b kb s → St (j + 1) s → s.heap.get? T = some o →
    (∀ k s', St (j + 1) s' → s'.heap.get? T = some o → (∀ (Q2 : Value → Shared → Prop) (E2 : Value → Shared → Prop), (J (j + 1) j k s' → Q2 (.bool true) s') → (J (j + 1) b kb s' → Q2 (.bool false) s') → wpAny (model prog w) A (richCompare .Lt k kb) Q2 E2 s') → Q k s') → wpAny (model prog w) A (call (.ref q) [v]) Q E s
section
variable {prog : Program} {w : World} {A : Around} {R : Result → Shared → Prop} {I q T : Addr} {fp wr : List Addr} {G : Array GenState → Array GenState → Prop} {n : Nat} {P : Nat → Value → Prop} {St : Nat → Shared → Prop} {J0 : Shared → Prop} {J : Nat → Nat → Value → Shared → Prop}
theorem min2_on (W : WalksS prog w A.in1 I fp wr G n P St) (hT : T ∉ fp) (M : MinRun prog w A.in1 q T wr G n P St J0 J) (kw : List (Str × Value)) : ∀ (m j b : Nat) (s : Shared) (best key : Value) (c : Nat), n - j = m → 1 ≤ j → j ≤ n → J j b key s → St j s → P b best →
    s.heap.get? T = some { cls := .type "list", dict := none, data := .seq #[best, key] c, slots := #[] } → (∀ v b k s', P b v → J n b k s' → R (.ok (.ret v)) s') → codeAny (model prog w) A (.builtin "min.loop" ⟨[.ref I, .ref q, .ref T], kw⟩) R s := by
  have apart : T ∉ wr := fun h => hT (W.sub T h)
  have within : ∀ b ∈ wr, b ∈ T :: wr := fun b hb => List.mem_cons_of_mem T hb
  have named : (toString "min" ++ toString ".loop" : String) = "min.loop" := by decide
  have other : ∀ {b : Addr}, b ∉ T :: wr → T ≠ b := fun hb h => hb (by rw [h]; exact List.mem_cons_self)
  intro m
  induction m with
  | zero =>
    intro j b s best key c hm j1 jn jj st hb eT fin
    obtain rfl : j = n := by omega
    refine codeAny_builtin F.entry_min_loop ?_
    rw [Around.under_plainId F.plain_min_loop ⟨[.ref I, .ref q, .ref T], kw⟩]
    refine wpAny_bind (m := seqItems? (.ref T)) (wpAny_seqItems eT rfl ?_)
    refine wpAny_bind (m := tryCatch (pyNext (.ref I)) _) (wpAny_tryCatch (W.done s _ _ st fun s1 mv => ?_))
    refine wpAny_bind (m := updateSeq T (fun _ => #[])) (wpAny_updateSeq (mv.heap T _ apart eT) rfl (wpAny_bind (wpAny_letGo (wpAny_pure ?_))))
    exact fin best b key _ hb (M.keep _ _ _ _ _ jj ((mv.mono within).then_heap (tk := s1.toks) (Nat.le_refl _) fun b o hb e => (Heap.get?_update_other _ _ (other hb)).trans e))
  | succ m ih =>
    intro j b s best key c hm j1 jn jj st hb eT fin
    have less : j < n := by omega
    refine codeAny_builtin F.entry_min_loop ?_
    rw [Around.under_plainId F.plain_min_loop ⟨[.ref I, .ref q, .ref T], kw⟩]
    refine wpAny_bind (m := seqItems? (.ref T)) (wpAny_seqItems eT rfl ?_)
    refine wpAny_bind (m := tryCatch (pyNext (.ref I)) _) (wpAny_tryCatch (W.item j s _ _ less st fun v s1 hv st1 mv => ?_))
    have eT1 := mv.heap T _ apart eT
    have jj1 := M.keep _ _ _ _ _ jj (mv.mono within)
    refine wpAny_bind (m := tryCatch (holding [v] (call (.ref q) [v])) _) (wpAny_tryCatch (wpAny_holding (M.turn j b key v s1 _ _ _ j1 less hv jj1 st1 eT1 fun kx s2 st2 eT2 cmp => ?_)))
    refine wpAny_bind (m := tryCatch (holding [v, kx] (richCompare .Lt kx key >>= _)) _) (wpAny_tryCatch (wpAny_holding (wpAny_bind (cmp _ _ (fun j2 => ?_) fun j2 => ?_))))
    · refine wpAny_bind (wpAny_holding (wpAny_truthy_bool (wpAny_bind (wpAny_letGo (wpAny_pure ?_)))))
      simp only [if_true]
      refine wpAny_bind (m := updateSeq T (fun _ => #[v, kx])) (wpAny_updateSeq eT2 rfl (wpAny_bind (wpAny_letGo ?_)))
      rw [named]
      have mv2 : Moved (T :: wr) G s2 { s2 with heap := s2.heap.update T (Obj.mapSeq fun _ => #[v, kx]), toks := s2.toks } := (Moved.refl W.grefl).then_heap (tk := s2.toks) (Nat.le_refl _) fun b o hb e => (Heap.get?_update_other _ _ (other hb)).trans e
      exact wpAny_pure ⟨plainId_quiet F.plain_min_loop _, ih (j + 1) j _ v kx _ (by omega) (by omega) less (M.keep _ _ _ _ _ j2 mv2) (W.frame _ s2 _ s2.toks st2 (Nat.le_refl _) fun b hbf o e => (Heap.get?_update_other _ _ (fun h : T = b => hT (by rw [h]; exact hbf))).trans e) hv (Heap.get?_update_self _ eT2 rfl) fin⟩
    · refine wpAny_bind (wpAny_holding (wpAny_truthy_bool (wpAny_bind (wpAny_letGo (wpAny_pure ?_)))))
      simp only [Bool.false_eq_true, if_false]
      refine wpAny_bind (wpAny_letGo ?_)
      rw [named]
      exact wpAny_pure ⟨plainId_quiet F.plain_min_loop _, ih (j + 1) b _ best key c (by omega) (by omega) less j2 st2 hb eT2 fin⟩
theorem min2_first (W : WalksS prog w A.in1 I fp wr G n P St) (hT : T ∉ fp) (M : MinRun prog w A.in1 q T wr G n P St J0 J) (kw : List (Str × Value)) (hn : 0 < n) {s : Shared} {c : Nat} (j0 : J0 s) (st : St 0 s)
    (eT : s.heap.get? T = some { cls := .type "list", dict := none, data := .seq #[] c, slots := #[] }) (fin : ∀ v b k s', P b v → J n b k s' → R (.ok (.ret v)) s') : codeAny (model prog w) A (.builtin "min.loop" ⟨[.ref I, .ref q, .ref T], kw⟩) R s := by
  have apart : T ∉ wr := fun h => hT (W.sub T h)
  have within : ∀ b ∈ wr, b ∈ T :: wr := fun b hb => List.mem_cons_of_mem T hb
  have named : (toString "min" ++ toString ".loop" : String) = "min.loop" := by decide
  have other : ∀ {b : Addr}, b ∉ T :: wr → T ≠ b := fun hb h => hb (by rw [h]; exact List.mem_cons_self)
  refine codeAny_builtin F.entry_min_loop ?_
  rw [Around.under_plainId F.plain_min_loop ⟨[.ref I, .ref q, .ref T], kw⟩]
  refine wpAny_bind (m := seqItems? (.ref T)) (wpAny_seqItems eT rfl ?_)
  refine wpAny_bind (m := tryCatch (pyNext (.ref I)) _) (wpAny_tryCatch (W.item 0 s _ _ hn st fun v s1 hv st1 mv => ?_))
  have eT1 := mv.heap T _ apart eT
  have j1 := M.keep0 _ _ j0 (mv.mono within)
  refine wpAny_bind (m := tryCatch (holding [v] (call (.ref q) [v])) _) (wpAny_tryCatch (wpAny_holding (M.first v s1 _ _ _ hv j1 st1 eT1 fun kx s2 j2 st2 eT2 => ?_)))
  refine wpAny_bind (m := updateSeq T (fun _ => #[v, kx])) (wpAny_updateSeq eT2 rfl ?_)
  rw [named]
  have mv2 : Moved (T :: wr) G s2 { s2 with heap := s2.heap.update T (Obj.mapSeq fun _ => #[v, kx]), toks := s2.toks } := (Moved.refl W.grefl).then_heap (tk := s2.toks) (Nat.le_refl _) fun b o hb e => (Heap.get?_update_other _ _ (other hb)).trans e
  exact wpAny_pure ⟨plainId_quiet F.plain_min_loop _, min2_on W hT M kw _ 1 0 _ v kx _ rfl (Nat.le_refl _) hn (M.keep _ _ _ _ _ j2 mv2) (W.frame _ s2 _ s2.toks st2 (Nat.le_refl _) fun b hbf o e => (Heap.get?_update_other _ _ (fun h : T = b => hT (by rw [h]; exact hbf))).trans e) hv (Heap.get?_update_self _ eT2 rfl) fin⟩
theorem call_min2 {E : Value → Shared → Prop} {s : Shared} {x : Value} {Q : Value → Shared → Prop}
    (h : wpAny (model prog w) A.in1 (pyIter x) (fun it s2 => ∃ I fp wr G n P St J0 J, it = .ref I ∧ WalksS prog w A.in1 I fp wr G n P St ∧ St 0 s2 ∧ (∀ b ∈ fp, b < s2.heap.objs.size) ∧ 0 < n ∧ MinRun prog w A.in1 q s2.heap.objs.size wr G n P St J0 J ∧ J0 s2 ∧ ∀ v b k s', P b v → J n b k s' → Q v s') E s) :
    wpAny (model prog w) A (call (.builtin "min") [x] [(Str.ofString "key", .ref q)]) Q E s := by
  have named : (toString "min" ++ toString ".loop" : String) = "min.loop" := by decide
  refine PyProof.Rows.kmk_tree F.kind_min F.plain_min F.entry_min (PyProof.Rows.kmk_min_key x (.ref q)) ?_
  refine wpAny_bind (m := Builtin.Builtins.bindParams "min" ["key", "default"] 0 ⟨[], [(Str.ofString "key", .ref q)]⟩) (wpAny_of_eq (show Builtin.Builtins.bindParams "min" ["key", "default"] 0 ⟨[], [(Str.ofString "key", .ref q)]⟩ = pure [some (.ref q), none] from rfl) (wpAny_bind (wpAny_pure ?_)))
  refine wpAny_bind (wpAny_mono h (fun it s2 got => ?_) fun _ _ e => e)
  obtain ⟨I, fp, wr, G, n, P, Z, J0, J, e, W, st, hfp, hn, M, j0, fin⟩ := got
  subst e
  refine wpAny_bind (wpAny_newObj_type ?_)
  rw [named]
  have hT : s2.heap.objs.size ∉ fp := fun hm => Nat.lt_irrefl _ (hfp _ hm)
  have mv : Moved (s2.heap.objs.size :: wr) G s2 { s2 with heap := s2.heap.push { cls := .type "list", data := .seq #[] 0 }, toks := s2.toks } := (Moved.refl W.grefl).then_heap (tk := s2.toks) (Nat.le_refl _) fun b o _ e => Heap.get?_push_of_some _ e
  exact wpAny_pure ⟨plainId_quiet F.plain_min_loop _, min2_first W hT M _ hn (M.keep0 _ _ j0 mv) (W.frame 0 s2 (s2.heap.push { cls := .type "list", data := .seq #[] 0 }) s2.toks st (Nat.le_refl _) fun b _ o e => Heap.get?_push_of_some _ e) (Heap.get?_push_size _ rfl) fin⟩
end
section
variable {X : Cx} {k : Nat} {f C : Addr} {fd : FuncData} {p1 p2 m : Str} {sp : Sp} {pins : List (Addr × Obj)} {σ : L2.St}
/-- what stays: the bound method, the walk's two objects, what is wished of the heap -/
structure JM (X : Cx) (pins : List (Addr × Obj)) (σ : L2.St) (T I b f a : Addr) (H : Hp) (s : Shared) : Prop where
  inv : Inv X pins σ H s
  ft : FpOk X pins H T
  fi : FpOk X pins H I
  fb : FpOk X pins H b
  at_ : s.heap.get? b = some (PySem.W.methodObj (.ref f) (.ref a))
theorem JM.keep {T I b f a : Addr} {H : Hp} {s s' : Shared} (h : JM X pins σ T I b f a H s) (hT : b ≠ T) (hI : b ≠ I) (mv : Moved [T, I] (fun a b => b = a) s s') : JM X pins σ T I b f a H s' := by
  obtain ⟨h1, g1, d1, t1, o1⟩ := s
  obtain ⟨h2, g2, d2, t2, o2⟩ := s'
  have e1 : g2 = g1 := mv.gens
  have e2 : d2 = d1 := mv.drawn
  have e3 : o2 = o1 := mv.os
  subst e1 e2 e3
  refine ⟨h.inv.turnedL (t' := t2) (ch := [T, I]) (fun c o hc e => mv.heap c o hc e) (fun c hc => ?_), h.ft, h.fi, h.fb, mv.heap b _ (by simp [hT, hI]) h.at_⟩
  simp only [List.mem_cons, List.not_mem_nil, or_false] at hc
  rcases hc with rfl | rfl
  · exact h.ft
  · exact h.fi
/-- one answer of the bound method -/
theorem JM.call {T I b a : Addr} {H : Hp} {s : Shared} {v : Value} {x : V} {R : V → Hp → Prop} (h : JM X pins σ T I b f a H s) (F : FnG X.prog X.w X.K X.mg X.base (L2N.CX X.prog X.w) k f fd [p1, p2] sp) (hr : RoomG (k + 1) X.A) (hb : Binds X.K fd [p1, p2] [])
    (rx : RelV x v) (hs : sp [.ref a, x] H R fun _ _ _ => False) {oT oI : Obj} (eT : s.heap.get? T = some oT) (eI : s.heap.get? I = some oI) {Q : Value → Shared → Prop} {E : Value → Shared → Prop}
    (hq : ∀ u y H' s', RelV y u → R y H' → JM X pins σ T I b f a H' s' → s'.heap.get? T = some oT → s'.heap.get? I = some oI → Q u s') : wpAny (model X.prog X.w) X.A.in1 (call (.ref b) [v]) Q E s := by
  have J := h.inv
  refine wpAny_call (PySem.W.method_call h.at_ (codeAny_mono (F.run X.A.in1 X.stack s H ⟨[.ref a, v], []⟩ [.ref a, v] [.ref a, x] R (fun _ _ _ => False) hr.in1 J.env0.in1 (hb s [.ref a, v] J.kIn rfl) (.cons rfl (.cons rx .nil)) hs) fun out s' got => ?_))
  match out, got with
  | .error e, got =>
    obtain ⟨_, _, _, _, _, _, _, _, _, _, _, _, z⟩ := (show L2N.CX X.prog X.w X.stack H s (fun _ _ _ => False) e s' from got)
    exact z.elim
  | .ok (.ret u), ⟨y, H', os, bare, un, hok, ry, q⟩ =>
    have J' := J.call' os un hok bare (ch := []) (fun b z => absurd z (by simp))
    have far : ∀ {c : Addr}, FpOk X pins H c → c ∉ frs X.stack := fun {c} hf hc' => by
      rcases List.mem_cons.mp (J.stkSub c hc') with e | e
      · exact hf.2.1 e
      · exact hf.2.2.1 e
    have stay : ∀ {c : Addr} {o : Obj}, FpOk X pins H c → s.heap.get? c = some o → s'.heap.get? c = some o ∧ FpOk X pins H' c := fun {c o} hf e =>
      ⟨un.keep c o e hf.1 (far hf) (by simp), ⟨un.free c o e hf.1 (by simp), hf.2⟩⟩
    exact hq u y H' s' ry q ⟨J', (stay h.ft eT).2, (stay h.fi eI).2, (stay h.fb h.at_).2, (stay h.fb h.at_).1⟩ (stay h.ft eT).1 (stay h.fi eI).1
end
end Hx

/-! Readings by value: min of a range by a bound method. -/
namespace Dv
open PySem L2 PyProof.Rows Hx
section
variable {X : Cx} {W : Wi} {k i : Nat} {f C fI : Addr} {fd : FuncData} {p1 p2 x c m : Str} {sp : SpD} {e : Expr} {te : TED}
end
end Dv

/-! "1" + e.replace(..).replace(..) and int(text, 2). -/
namespace Hx
open PySem PySem.Spec PyProof.Rows L2
section
variable {X : Cx}
end
section
open PySem.NumText PySem.Calls
end
section
open PySem.StrLaws
end
end Hx

/-! Readings by value: "1" + text.replace(..).replace(..), int(text, 2). -/
namespace Dv
open PySem PySem.Spec L2 PyProof.Rows Hx
section
variable {X : Cx} {W : Wi}
end
end Dv

/-! zip of two tuples of one length, strict=True. -/
namespace Hx
open PySem PySem.Spec PyProof.Rows L2 RZ
abbrev IsZipS (h : Heap) (z TI TO : Addr) (f0 : Value) : Prop :=
  h.get? z = some { cls := .type "zip", dict := none, data := .fields #[f0, .bool false, .bool true, .ref TI, .ref TO], slots := #[] }
section
variable {prog : Program} {w : World} {A : Around} {E : Value → Shared → Prop} {s : Shared}
theorem noe_item {it l : Addr} {i : Nat} {items} {x : Value} {Q : Option Value → Shared → Prop} (hit : s.heap.IsTupleIter it l i)
    (hl : s.heap.IsTuple l items) (hx : items[i]? = some x)
    (hQ : ∀ h', h'.IsTupleIter it l (i + 1) → Heap.SameBut it s.heap h' → Q (some x) { s with heap := h' }) :
    wpAny (model prog w) A (Builtin.SmallTypes.nextOrEnd (.ref it)) Q E s := by
  unfold Builtin.SmallTypes.nextOrEnd
  exact wpAny_bind (wpAny_attempt (nextOf_tuple_item hit hl hx fun h' a b => wpAny_pure (hQ h' a b)))
theorem noe_end {it l : Addr} {i : Nat} {items} {Q : Option Value → Shared → Prop} (hh : A.handled = none)
    (hit : s.heap.IsTupleIter it l i) (hl : s.heap.IsTuple l items) (hx : items[i]? = none)
    (hQ : ∀ h', Heap.ExtBut it s.heap h' → Q none { s with heap := h' }) :
    wpAny (model prog w) A (Builtin.SmallTypes.nextOrEnd (.ref it)) Q E s := by
  unfold Builtin.SmallTypes.nextOrEnd
  refine wpAny_bind (wpAny_attempt (nextOf_tuple_end hh hit hl hx fun h' e hk he => ?_))
  obtain ⟨o, ho, hc⟩ := he
  refine wpAny_bind (wpAny_isInstance (T := "StopIteration") (b := true) ⟨o, ho, hc⟩ isSubtype_stop ?_)
  exact wpAny_pure (hQ _ hk)
theorem stop_it (hh : A.handled = none) {α : Type} {Q : α → Shared → Prop}
    (hE : ∀ h' e, (∀ c o, s.heap.get? c = some o → h'.get? c = some o) → (∃ o, h'.get? e = some o ∧ o.cls = .type "StopIteration") → E (.ref e) { s with heap := h' }) :
    wpAny (model prog w) A (Builtin.SmallTypes.stopIteration : Sem α) Q E s := by
  unfold Builtin.SmallTypes.stopIteration
  refine wpAny_bind ?_
  simp only [newExc, newTuple]
  refine wpAny_bind (wpAny_newObj_type ?_ (by size_fits))
  refine wpAny_bind (m := firstArgMember _ _) (wpAny_of_eq (a := Value.none) (by first | rfl | (simp only [firstArgMember]; rfl)) ?_)
  refine wpAny_newObj_type ?_ (by size_fits)
  simp only [raiseNew]
  refine wpAny_bind (wpAny_handled ?_)
  first | rw [show A.in1.handled = none from hh] | rw [hh]
  refine wpAny_bind (wpAny_pure (wpAny_throw ?_))
  exact hE _ _ (fun c o x => Heap.get?_push_of_some _ (Heap.get?_push_of_some _ x)) ⟨_, Heap.get?_push_size _ rfl, rfl⟩
theorem zipS_item {z TI TO i1 i2 l1 l2 : Addr} {k1 k2 : Nat} {xs ys : Array Value} {x y a b : Value} {Q : Value → Shared → Prop} (D : ZipApart z TI TO i1 i2 l1 l2)
    (hz : IsZipS s.heap z TI TO .none) (hTI : IsPair s.heap TI (.ref i1) (.ref i2)) (hTO : IsPair s.heap TO a b)
    (h1 : s.heap.IsTupleIter i1 l1 k1) (h2 : s.heap.IsTupleIter i2 l2 k2) (hl1 : s.heap.IsTuple l1 xs) (hl2 : s.heap.IsTuple l2 ys) (hx : xs[k1]? = some x) (hy : ys[k2]? = some y)
    (hQ : ∀ h', IsZipS h' z TI TO (rawInt s.heap.objs.size) → IsPair h' TO x y → h'.IsTupleIter i1 l1 (k1 + 1) → h'.IsTupleIter i2 l2 (k2 + 1) → IsPair h' s.heap.objs.size x y → h'.objs.size = s.heap.objs.size + 1 →
      (∀ c o, c ≠ z → c ≠ TO → c ≠ i1 → c ≠ i2 → s.heap.get? c = some o → h'.get? c = some o) → Q (.ref s.heap.objs.size) { s with heap := h' }) :
    wpAny (model prog w) A (Builtin.«zip.__next__» ⟨[.ref z], []⟩) (fun fin s' => ∃ v, fin = .done (.ret v) ∧ Q v s') E s := by
  show wpAny _ _ (field (.ref z) 2 >>= _) _ _ _
  refine wpAny_bind (wpAny_field hz rfl (x := .bool true) rfl ?_)
  show wpAny _ _ (field (.ref z) 3 >>= _) _ _ _
  refine wpAny_bind (wpAny_field hz rfl (x := .ref TI) rfl ?_)
  refine wpAny_bind (wpAny_seqItems hTI rfl ?_)
  show wpAny _ _ (Builtin.SmallTypes.ownedTupleIsFree (.ref z) >>= _) _ _ _
  refine wpAny_bind ?_
  unfold Builtin.SmallTypes.ownedTupleIsFree
  refine wpAny_bind (wpAny_field hz rfl (x := .none) rfl (wpAny_pure ?_))
  simp only [if_true]
  refine wpAny_bind (wpAny_rule ?_)
  refine wpAny_bind (wpAny_field hz rfl (x := .ref TO) rfl ?_)
  refine wpAny_bind (wpAny_setField_rec hz (by simp) fun h₁ hz₁ hs₁ => ?_)
  replace hz₁ : IsZipS h₁ z TI TO .ellipsis := hz₁
  refine wpAny_bind ?_
  simp only [List.zipIdx_cons, List.zipIdx_nil, List.forIn_cons, List.forIn_nil]
  refine wpAny_bind (wpAny_bind (wpAny_onRaise ?_))
  show wpAny _ _ (Builtin.SmallTypes.nextOrEnd (.ref i1)) _ _ _
  refine noe_item (h1.extBut hs₁.extBut D.i1z) (hl1.extBut hs₁.extBut D.l1z) hx fun h₂ h1₂ hs₂ => ?_
  have hTO₂ : IsPair h₂ TO a b := hs₂.extBut _ _ D.TOi1 (hs₁.extBut _ _ D.TOz hTO)
  refine wpAny_bind (wpAny_seqItems hTO₂ rfl ?_)
  refine wpAny_bind (wpAny_updateSeq_pair hTO₂ fun h₃ hTO₃ hs₃ => ?_)
  replace hTO₃ : IsPair h₃ TO x b := hTO₃
  refine wpAny_bind (wpAny_letGo (wpAny_pure ?_))
  refine wpAny_bind (wpAny_bind (wpAny_onRaise ?_))
  show wpAny _ _ (Builtin.SmallTypes.nextOrEnd (.ref i2)) _ _ _
  refine noe_item (((h2.extBut hs₁.extBut D.i2z).extBut hs₂.extBut D.i12.symm).extBut hs₃.extBut D.TOi2.symm)
    (((hl2.extBut hs₁.extBut D.l2z).extBut hs₂.extBut D.l2i1).extBut hs₃.extBut D.l2TO) hy fun h₄ h2₄ hs₄ => ?_
  have hTO₄ : IsPair h₄ TO x b := hs₄.extBut _ _ D.TOi2 hTO₃
  refine wpAny_bind (wpAny_seqItems hTO₄ rfl ?_)
  refine wpAny_bind (wpAny_updateSeq_pair hTO₄ fun h₅ hTO₅ hs₅ => ?_)
  replace hTO₅ : IsPair h₅ TO x y := hTO₅
  refine wpAny_bind (wpAny_letGo (wpAny_pure (wpAny_pure ?_)))
  refine wpAny_bind (wpAny_seqItems hTO₅ rfl ?_)
  refine wpAny_bind (wpAny_newTuple ?_)
  have hsz : h₅.objs.size = s.heap.objs.size := by rw [hs₅.1, hs₄.1, hs₃.1, hs₂.1, hs₁.1]
  have hz₅ : IsZipS h₅ z TI TO .ellipsis := hs₅.extBut _ _ D.TOz.symm (hs₄.extBut _ _ D.i2z.symm (hs₃.extBut _ _ D.TOz.symm (hs₂.extBut _ _ D.i1z.symm hz₁)))
  have hk₅ : ∀ c o, c ≠ z → c ≠ TO → c ≠ i1 → c ≠ i2 → s.heap.get? c = some o → h₅.get? c = some o := fun c o c1 c2 c3 c4 e =>
    hs₅.extBut _ _ c2 (hs₄.extBut _ _ c4 (hs₃.extBut _ _ c2 (hs₂.extBut _ _ c3 (hs₁.extBut _ _ c1 e))))
  have h1₅ : h₅.IsTupleIter i1 l1 (k1 + 1) := ((h1₂.extBut hs₃.extBut D.TOi1.symm).extBut hs₄.extBut D.i12).extBut hs₅.extBut D.TOi1.symm
  have h2₅ : h₅.IsTupleIter i2 l2 (k2 + 1) := h2₄.extBut hs₅.extBut D.TOi2.symm
  have hzlt : z < h₅.objs.size := Heap.lt_size hz₅
  show wpAny _ _ (Builtin.SmallTypes.ownedTupleHandOut (.ref z) (.ref h₅.objs.size) >>= _) _ _ _
  refine wpAny_bind ?_
  unfold Builtin.SmallTypes.ownedTupleHandOut
  have hz₆ : IsZipS (h₅.push { cls := .type "tuple", data := .seq #[x, y] }) z TI TO .ellipsis := Heap.get?_push_of_some _ hz₅
  refine wpAny_bind (wpAny_setField_rec hz₆ (by simp) fun h₇ hz₇ hs₇ => ?_)
  replace hz₇ : IsZipS h₇ z TI TO (rawInt h₅.objs.size) := hz₇
  refine wpAny_setField_rec hz₇ (by simp) fun h₈ hz₈ hs₈ => ?_
  replace hz₈ : IsZipS h₈ z TI TO (rawInt h₅.objs.size) := hz₈
  have up : ∀ c o, c ≠ z → h₅.get? c = some o → h₈.get? c = some o := fun c o c1 e => hs₈.extBut _ _ c1 (hs₇.extBut _ _ c1 (Heap.get?_push_of_some _ e))
  have hT₈ : IsPair h₈ h₅.objs.size x y := hs₈.extBut _ _ (Nat.ne_of_gt hzlt) (hs₇.extBut _ _ (Nat.ne_of_gt hzlt) (Heap.get?_push_size _ rfl))
  have hz8 : h₈.objs.size = h₅.objs.size + 1 := by rw [hs₈.1, hs₇.1, Heap.size_push]
  rw [hsz] at hz₈ hT₈ hz8
  refine wpAny_pure ⟨_, rfl, ?_⟩
  show Q (.ref h₅.objs.size) _
  rw [hsz]
  exact hQ h₈ hz₈ (up _ _ D.TOz hTO₅) (h1₅.at fun o e => up _ o D.i1z e) (h2₅.at fun o e => up _ o D.i2z e) hT₈ hz8 fun c o c1 c2 c3 c4 e => up c o c1 (hk₅ c o c1 c2 c3 c4 e)
theorem zipS_end {z TI TO i1 i2 l1 l2 : Addr} {k1 k2 : Nat} {xs ys : Array Value} {a b : Value} {Q : Fin → Shared → Prop} (hh : A.handled = none) (D : ZipApart z TI TO i1 i2 l1 l2)
    (hz : IsZipS s.heap z TI TO .none) (hTI : IsPair s.heap TI (.ref i1) (.ref i2)) (hTO : IsPair s.heap TO a b)
    (h1 : s.heap.IsTupleIter i1 l1 k1) (h2 : s.heap.IsTupleIter i2 l2 k2) (hl1 : s.heap.IsTuple l1 xs) (hl2 : s.heap.IsTuple l2 ys) (hx : xs[k1]? = none) (hy : ys[k2]? = none)
    (hE : ∀ h' e, (∀ c o, c ≠ z → c ≠ TO → c ≠ i1 → c ≠ i2 → s.heap.get? c = some o → h'.get? c = some o) → (∃ o, h'.get? e = some o ∧ o.cls = .type "StopIteration") → E (.ref e) { s with heap := h' }) :
    wpAny (model prog w) A (Builtin.«zip.__next__» ⟨[.ref z], []⟩) Q E s := by
  show wpAny _ _ (field (.ref z) 2 >>= _) _ _ _
  refine wpAny_bind (wpAny_field hz rfl (x := .bool true) rfl ?_)
  show wpAny _ _ (field (.ref z) 3 >>= _) _ _ _
  refine wpAny_bind (wpAny_field hz rfl (x := .ref TI) rfl ?_)
  refine wpAny_bind (wpAny_seqItems hTI rfl ?_)
  show wpAny _ _ (Builtin.SmallTypes.ownedTupleIsFree (.ref z) >>= _) _ _ _
  refine wpAny_bind ?_
  unfold Builtin.SmallTypes.ownedTupleIsFree
  refine wpAny_bind (wpAny_field hz rfl (x := .none) rfl (wpAny_pure ?_))
  simp only [if_true]
  refine wpAny_bind (wpAny_rule ?_)
  refine wpAny_bind (wpAny_field hz rfl (x := .ref TO) rfl ?_)
  refine wpAny_bind (wpAny_setField_rec hz (by simp) fun h₁ hz₁ hs₁ => ?_)
  replace hz₁ : IsZipS h₁ z TI TO .ellipsis := hz₁
  refine wpAny_bind ?_
  simp only [List.zipIdx_cons, List.zipIdx_nil, List.forIn_cons, List.forIn_nil]
  refine wpAny_bind (wpAny_bind (wpAny_onRaise ?_))
  show wpAny _ _ (Builtin.SmallTypes.nextOrEnd (.ref i1)) _ _ _
  refine noe_end hh (h1.extBut hs₁.extBut D.i1z) (hl1.extBut hs₁.extBut D.l1z) hx fun h₂ hs₂ => ?_
  have hz₂ : IsZipS h₂ z TI TO .ellipsis := hs₂ _ _ D.i1z.symm hz₁
  refine wpAny_bind (wpAny_setField_rec hz₂ (by simp) fun h₃ _ hs₃ => ?_)
  refine wpAny_bind ?_
  show wpAny _ _ (forIn [((Value.ref i2 : Value), (1 : Nat))] PUnit.unit _ >>= _) _ _ _
  simp only [List.forIn_cons, List.forIn_nil]
  have hTIi2 := D.TIi2
  have h2₃ : h₃.IsTupleIter i2 l2 k2 := ((h2.extBut hs₁.extBut D.i2z).extBut hs₂ D.i12.symm).extBut hs₃.extBut D.i2z
  have hl2₃ : h₃.IsTuple l2 ys := ((hl2.extBut hs₁.extBut D.l2z).extBut hs₂ D.l2i1).extBut hs₃.extBut D.l2z
  refine wpAny_bind (wpAny_bind ?_)
  show wpAny _ _ (Builtin.SmallTypes.nextOrEnd (.ref i2) >>= _) _ _ _
  refine wpAny_bind (noe_end hh h2₃ hl2₃ hy fun h₄ hs₄ => ?_)
  refine wpAny_pure ?_
  refine wpAny_pure ?_
  refine wpAny_bind (wpAny_rule ?_)
  refine stop_it hh fun h₅ e hs₅ he => ?_
  exact hE h₅ e (fun c o c1 _ c3 c4 x => hs₅ c o (hs₄ c o c4 (hs₃.extBut c o c1 (hs₂ c o c3 (hs₁.extBut c o c1 x))))) he
theorem pnS_item {z TI TO i1 i2 l1 l2 : Addr} {k1 k2 : Nat} {xs ys : Array Value} {x y a b : Value} {Q : Option Value → Shared → Prop} (D : ZipApart z TI TO i1 i2 l1 l2)
    (hz : IsZipS s.heap z TI TO .none) (hTI : IsPair s.heap TI (.ref i1) (.ref i2)) (hTO : IsPair s.heap TO a b)
    (h1 : s.heap.IsTupleIter i1 l1 k1) (h2 : s.heap.IsTupleIter i2 l2 k2) (hl1 : s.heap.IsTuple l1 xs) (hl2 : s.heap.IsTuple l2 ys) (hx : xs[k1]? = some x) (hy : ys[k2]? = some y)
    (hQ : ∀ h', IsZipS h' z TI TO (rawInt s.heap.objs.size) → IsPair h' TO x y → h'.IsTupleIter i1 l1 (k1 + 1) → h'.IsTupleIter i2 l2 (k2 + 1) → IsPair h' s.heap.objs.size x y → h'.objs.size = s.heap.objs.size + 1 →
      (∀ c o, c ≠ z → c ≠ TO → c ≠ i1 → c ≠ i2 → s.heap.get? c = some o → h'.get? c = some o) → Q (some (.ref s.heap.objs.size)) { s with heap := h' }) :
    wpAny (model prog w) A (pyNext (.ref z)) Q E s := by
  have hT : s.TypeIs (.ref z) "zip" := ⟨_, hz, rfl⟩
  unfold pyNext
  exact wpAny_bind (wpAny_attempt (wpAny_callSpecial?_slot (name := Str.ofString "__next__") hT F.slot_zip_next
    (wpAny_call_entry F.slot_zip_next hT F.entry_zip_next
      (zipS_item D hz hTI hTO h1 h2 hl1 hl2 hx hy fun h' a1 a2 a3 a4 a5 a6 a7 => wpAny_pure (hQ h' a1 a2 a3 a4 a5 a6 a7)) (F.args_zip_next_1 _))))
theorem pnS_end {z TI TO i1 i2 l1 l2 : Addr} {k1 k2 : Nat} {xs ys : Array Value} {a b : Value} {Q : Option Value → Shared → Prop} (hh : A.handled = none) (D : ZipApart z TI TO i1 i2 l1 l2)
    (hz : IsZipS s.heap z TI TO .none) (hTI : IsPair s.heap TI (.ref i1) (.ref i2)) (hTO : IsPair s.heap TO a b)
    (h1 : s.heap.IsTupleIter i1 l1 k1) (h2 : s.heap.IsTupleIter i2 l2 k2) (hl1 : s.heap.IsTuple l1 xs) (hl2 : s.heap.IsTuple l2 ys) (hx : xs[k1]? = none) (hy : ys[k2]? = none)
    (hQ : ∀ h', (∀ c o, c ≠ z → c ≠ TO → c ≠ i1 → c ≠ i2 → s.heap.get? c = some o → h'.get? c = some o) → Q none { s with heap := h' }) : wpAny (model prog w) A (pyNext (.ref z)) Q E s := by
  have hT : s.TypeIs (.ref z) "zip" := ⟨_, hz, rfl⟩
  unfold pyNext
  refine wpAny_bind (wpAny_attempt (wpAny_callSpecial?_slot (name := Str.ofString "__next__") hT F.slot_zip_next
    (wpAny_call_entry F.slot_zip_next hT F.entry_zip_next (zipS_end hh D hz hTI hTO h1 h2 hl1 hl2 hx hy fun h' e hk he => ?_) (F.args_zip_next_1 _))))
  obtain ⟨o, ho, hc⟩ := he
  refine wpAny_bind (wpAny_isInstance (T := "StopIteration") (b := true) ⟨o, ho, hc⟩ isSubtype_stop ?_)
  exact wpAny_pure (hQ _ hk)
theorem goS {elts : List Expr} {x1} {pos : Pos} {z TI TO T : Addr} {Q : Unit → Shared → Prop} (hz : IsZipS s.heap z TI TO (rawInt T))
    (hQ : ∀ h', IsZipS h' z TI TO .none → Heap.SameBut z s.heap h' → Q () { s with heap := h' }) :
    wpAny (model prog w) A (letOwnedTupleGo (.Tuple elts x1 pos) (.ref z) (.ref T)) Q E s := by
  unfold letOwnedTupleGo
  refine wpAny_bind (wpAny_load hz ?_)
  show wpAny _ _ (if (["enumerate", "zip", "dict_itemiterator", "dict_reverseitemiterator", "odict_iterator", "itertools.zip_longest", "itertools.pairwise"].contains "zip" &&
      (#[rawInt T, .bool false, .bool true, .ref TI, .ref TO] : Array Value)[0]? == some (rawInt T)) = true then _ else _) Q E s
  rw [if_pos (by simp)]
  refine wpAny_bind (wpAny_rule ?_)
  show wpAny _ _ (setField (.ref z) 0 .none) Q E s
  exact wpAny_setField_rec hz (by simp) fun h' hz' hs' => hQ h' hz' hs'
theorem itS {z TI TO : Addr} {f0 : Value} {Q : Value → Shared → Prop} (hz : IsZipS s.heap z TI TO f0) (h : Q (.ref z) s) : wpAny (model prog w) A (pyIter (.ref z)) Q E s := by
  have hT : s.TypeIs (.ref z) "zip" := ⟨_, hz, rfl⟩
  refine wpAny_pyIter_slot hT F.slot_zip_iter (wpAny_call_entry F.slot_zip_iter hT F.entry_zip_iter ?_ (F.args_zip_iter_1 _))
  show wpAny _ _ (ret (.ref z)) _ _ s
  exact wpAny_pure ⟨_, rfl, "zip", _, hT, F.slot_zip_next.lookup, h⟩
end
abbrev zipSH5 (h : Heap) (l1 l2 : Addr) : Heap := (zipTH4 h l1 l2).push { cls := .type "zip", data := .fields #[.none, .bool false, .bool true, .ref (zipTH2 h l1 l2).objs.size, .ref (zipTH3 h l1 l2).objs.size] }
theorem typeCall_zipS (a b v : Value) : checkTypeCall "zip" ⟨[a, b], [(Str.ofString "strict", v)]⟩ = pure () := by kernel_rfl
theorem newCall_zipS (a b v : Value) : checkBuiltinCall "zip.__new__" ⟨[.type "zip", a, b], [(Str.ofString "strict", v)]⟩ = pure () := by kernel_rfl
theorem args_initS (obj a b v : Value) : argsOk "object.__init__" ⟨[obj, a, b], [(Str.ofString "strict", v)]⟩ := by
  unfold argsOk; rw [signature?_of (id := "object.__init__") (n := ['_', '_', 't', 'i', 'n', 'i', '_', '_']) (o := ['t', 'c', 'e', 'j', 'b', 'o']) (by kernel_rfl) F.owner_object]; kernel_rfl
theorem meets_zipS (l1 l2 : Addr) (xs ys : Array Value) :
    Meets (Builtin.«zip.__new__» ⟨[.type "zip", .ref l1, .ref l2], [(Str.ofString "strict", .bool true)]⟩) (fun _ R s => s.heap.IsTuple l1 xs ∧ s.heap.IsTuple l2 ys ∧
      R (.ok (.ret (.ref (zipTH4 s.heap l1 l2).objs.size))) { s with heap := zipSH5 s.heap l1 l2 }) :=
  .of_wp fun prog w A R s h => by
    obtain ⟨hp, g, d, tk, os⟩ := s; obtain ⟨hl1, hl2, h⟩ := h
    have hsub := sub_zip
    have e1 : (Str.ofString "strict" != ("strict" : Str)) = false := by decide +kernel
    have hL1 : Heap.IsTuple (Shared.heap ⟨hp, g, d, tk, os⟩) l1 xs := hl1
    have hL2 : Heap.IsTuple (Shared.heap ⟨hp.push { cls := .type "tuple_iterator", data := .fields #[.ref l1, .int 0 0] }, g, d, tk, os⟩) l2 ys := Heap.IsTuple.push hl2 _
    wp_walk using wpAny_pyIter_tuple hL1, wpAny_pyIter_tuple hL2
    exact ⟨_, rfl, h⟩
section
variable {prog : Program} {w : World} {A : Around} {E : Value → Shared → Prop} {s : Shared}
theorem call_zipS {l1 l2 : Addr} {xs ys : Array Value} {Q : Value → Shared → Prop} (hl1 : s.heap.IsTuple l1 xs) (hl2 : s.heap.IsTuple l2 ys)
    (h : ∀ h', IsZipS h' (s.heap.objs.size + 4) (s.heap.objs.size + 2) (s.heap.objs.size + 3) .none → IsPair h' (s.heap.objs.size + 2) (.ref s.heap.objs.size) (.ref (s.heap.objs.size + 1)) →
      IsPair h' (s.heap.objs.size + 3) .none .none → h'.IsTupleIter s.heap.objs.size l1 0 → h'.IsTupleIter (s.heap.objs.size + 1) l2 0 → h'.objs.size = s.heap.objs.size + 5 →
      (∀ c o, s.heap.get? c = some o → h'.get? c = some o) → Q (.ref (s.heap.objs.size + 4)) { s with heap := h' }) :
    wpAny (model prog w) A (call (.type "zip") [.ref l1, .ref l2] [(Str.ofString "strict", .bool true)]) Q E s := by
  refine callType_newKw F.called_zip (by decide) (typeCall_zipS _ _ _) (newCall_zipS _ _ _) (fun obj => args_initS obj _ _ _) F.entry_zip_new (meets_zipS l1 l2 xs ys) ⟨hl1, hl2, ?_⟩
  have z1 : (zipTH1 s.heap l1).objs.size = s.heap.objs.size + 1 := Heap.size_push ..
  have z2 : (zipTH2 s.heap l1 l2).objs.size = s.heap.objs.size + 2 := by rw [Heap.size_push, z1]
  have z3 : (zipTH3 s.heap l1 l2).objs.size = s.heap.objs.size + 3 := by rw [Heap.size_push, z2]
  have z4 : (zipTH4 s.heap l1 l2).objs.size = s.heap.objs.size + 4 := by rw [Heap.size_push, z3]
  have z5 : (zipSH5 s.heap l1 l2).objs.size = s.heap.objs.size + 5 := by rw [Heap.size_push, z4]
  have g5 : (zipSH5 s.heap l1 l2).get? (zipTH4 s.heap l1 l2).objs.size = some _ := Heap.get?_push_size _ rfl
  have g4 : (zipSH5 s.heap l1 l2).get? (zipTH3 s.heap l1 l2).objs.size = some _ := Heap.get?_push_of_some _ (Heap.get?_push_size _ rfl)
  have g3 : (zipSH5 s.heap l1 l2).get? (zipTH2 s.heap l1 l2).objs.size = some _ := Heap.get?_push_of_some _ (Heap.get?_push_of_some _ (Heap.get?_push_size _ rfl))
  have g2 : (zipSH5 s.heap l1 l2).get? (zipTH1 s.heap l1).objs.size = some _ := Heap.get?_push_of_some _ (Heap.get?_push_of_some _ (Heap.get?_push_of_some _ (Heap.get?_push_size _ rfl)))
  have g1 : (zipSH5 s.heap l1 l2).get? s.heap.objs.size = some _ := Heap.get?_push_of_some _ (Heap.get?_push_of_some _ (Heap.get?_push_of_some _ (Heap.get?_push_of_some _ (Heap.get?_push_size _ rfl))))
  show _ ∧ _
  rw [z2, z3, z4] at g5
  rw [z1, z2] at g3
  rw [z3] at g4
  rw [z1] at g2
  rw [z4]
  exact ⟨⟨_, g5, rfl⟩, h _ g5 g3 g4 ⟨_, g1, rfl, rfl⟩ ⟨_, g2, rfl, rfl⟩ z5 fun c o x =>
    Heap.get?_push_of_some _ (Heap.get?_push_of_some _ (Heap.get?_push_of_some _ (Heap.get?_push_of_some _ (Heap.get?_push_of_some _ x))))⟩
end
theorem cwT_kw {M : Model} {A : Around} {E : Value → Shared → Prop} {s : Shared} {env : Env} {pos : Pos} {T : String} {e : Expr} {rest : List Expr} {kws : List Keyword} {Q : Value → Shared → Prop}
    (h : wpAny M A (spliced (backTo pos (starEach (e :: rest) env))) (fun vs s₁ => wpAny M A (evalAll ((backToKw pos (keywordEach kws env)).map (·.2)))
      (fun kvs s₂ => wpAny M A (call (.type T) vs (((backToKw pos (keywordEach kws env)).filterMap (·.1)).zip kvs)) Q E s₂) E s₁) E s)
    (he : backTo pos (starEach (e :: rest) env) = (false, eval e env) :: backTo pos (starEach rest env)) (hplain : (backTo pos (starEach (e :: rest) env)).any (·.1) = false)
    (hall : (backToKw pos (keywordEach kws env)).all (·.1.isSome) = true) (hkw : (backToKw pos (keywordEach kws env)).any (·.1.isNone) = false) :
    wpAny M A (callWith pos (.type T) [] (backTo pos (starEach (e :: rest) env)) (backToKw pos (keywordEach kws env))) Q E s := by
  have hx : wpAny M A (evalArgs (.type T) true (backTo pos (starEach (e :: rest) env)) (backToKw pos (keywordEach kws env))) (fun a s₁ => wpAny M A (call (.type T) ([] ++ a.pos) a.kw) Q E s₁) E s := by
    rw [he] at h ⊢
    exact evalArgs_kwB hall h
  unfold callWith
  refine wpAny_bind (wpAny_holding (wpAny_mono hx (fun a s₁ h₁ => wpAny_bind (wpAny_standAt ?_)) fun _ _ x => x))
  simp only [hplain, hkw, Bool.or_false]
  refine wpAny_bind (wpAny_pure ?_)
  exact wpAny_bind (wpAny_mono h₁ (fun r s₂ hr => wpAny_bind (wpAny_holding (wpAny_point (wpAny_pure hr)))) fun _ _ x => x)
/-- the tuples at a and b, of one length -/
def ItzS (K : PySem.W.Frag) (a b : Addr) : It :=
  ⟨fun i H => ∃ (xs ys : List V) (x y : V), SqT K H a xs ∧ SqT K H b ys ∧ xs[i]? = some x ∧ ys[i]? = some y,
    fun i H v H' => ∃ T x y, v = .ref T ∧ H T = none ∧ H' = upd H T (.tup [x, y]) ∧ (∀ xs, SqT K H a xs → xs[i]? = some x) ∧ ∀ ys, SqT K H b ys → ys[i]? = some y,
    fun i H => ∃ xs ys : List V, SqT K H a xs ∧ SqT K H b ys ∧ xs.length ≤ i ∧ ys.length ≤ i⟩
theorem turn_zipS {P : Program} {w : World} {K : PySem.W.Frag} {elts : List Expr} {kk : Nat} {tpos : Pos} {a b z TI TO i1 i2 : Addr} (D : ZipApart z TI TO i1 i2 a b) :
    Turn P w K (.Tuple elts kk tpos) (ItzS K a b) [z, TI, TO, i1, i2] z (fun i h => IsZipS h z TI TO .none ∧ IsPair h TI (.ref i1) (.ref i2) ∧ (∃ x y, IsPair h TO x y) ∧ h.IsTupleIter i1 a i ∧ h.IsTupleIter i2 b i) where
  mem := by simp
  obj := fun i h st c hc => by
    obtain ⟨hz, hTI, ⟨x, y, hTO⟩, ⟨o1, e1, _, d1⟩, ⟨o2, e2, _, d2⟩⟩ := st
    have e' : c = z ∨ c = TI ∨ c = TO ∨ c = i1 ∨ c = i2 := by simpa using hc
    rcases e' with q | q | q | q | q
    · rw [q]; exact ⟨_, hz, fun v q => nomatch q⟩
    · rw [q]; exact ⟨_, hTI, fun v q => nomatch q⟩
    · rw [q]; exact ⟨_, hTO, fun v q => nomatch q⟩
    · rw [q]; exact ⟨o1, e1, fun v q => by rw [d1] at q; cases q⟩
    · rw [q]; exact ⟨o2, e2, fun v q => by rw [d2] at q; cases q⟩
  keep := fun i h h' st k => by
    obtain ⟨hz, hTI, ⟨x, y, hTO⟩, h1, h2⟩ := st
    exact ⟨k z (by simp) _ hz, k TI (by simp) _ hTI, ⟨x, y, k TO (by simp) _ hTO⟩, h1.at fun o q => k i1 (by simp) o q, h2.at fun o q => k i2 (by simp) o q⟩
  item := by
    intro X hP hw hK hc i pins s σ H E I hf st hg
    subst hP hw hK
    obtain ⟨hz, hTI, ⟨x0, y0, hTO⟩, h1, h2⟩ := st
    obtain ⟨xs, ys, x, y, hqx, hqy, hx, hy⟩ := hg
    obtain ⟨its, rv, p, _⟩ := I.tuple hqx
    obtain ⟨its2, rv2, p2, _⟩ := I.tuple hqy
    obtain ⟨u, hu, ru⟩ := rv.get hx
    obtain ⟨u2, hu2, ru2⟩ := rv2.get hy
    have hzl : z < s.heap.objs.size := Heap.lt_size hz
    refine pnS_item D hz hTI hTO h1 h2 p p2 (x := u) (y := u2) (by simpa using hu) (by simpa using hu2) fun h' z' TO' h1' h2' hT hsz hk => ?_
    refine ⟨_, rfl, goS (s := { s with heap := h' }) z' fun h'' z'' sb => ?_⟩
    have hT2 : h''.get? s.heap.objs.size = some { cls := .type "tuple", data := .seq #[u, u2] } := (sb.2 _ (Nat.ne_of_gt hzl)).trans hT
    have new : ObjOk X.prog X.w (upd H s.heap.objs.size (.tup [x, y])) h'' s.heap.objs.size (.tup [x, y]) :=
      ⟨by show 2 ≤ sizeLine; decide, [u, u2], .cons ru (.cons ru2 .nil), ⟨_, hT2, rfl, _, rfl⟩⟩
    have I1 : Inv X pins σ (upd H s.heap.objs.size (.tup [x, y])) { s with heap := h'' } :=
      I.turnedNew (t' := s.toks) (ch := [z, TI, TO, i1, i2]) (fun c o hb q => (sb.2 c (fun q' => hb (by simp [q']))).trans (hk c o (fun q' => hb (by simp [q'])) (fun q' => hb (by simp [q'])) (fun q' => hb (by simp [q'])) (fun q' => hb (by simp [q'])) q)) hf (Nat.le_refl _) new
    refine ⟨.ref s.heap.objs.size, _, I1, rfl, ⟨_, x, y, rfl, I.hok.fresh (Nat.le_refl _), rfl, fun l hl => by rw [I.tuple_inj hl hqx]; exact hx, fun l hl => by rw [I.tuple_inj hl hqy]; exact hy⟩, ⟨z'', ?_, ⟨u, u2, ?_⟩, ?_, ?_⟩, fun c hcm => ?_⟩
    · exact (sb.2 _ D.TIz).trans (hk _ _ D.TIz D.TITO D.TIi1 D.TIi2 hTI)
    · exact (sb.2 _ D.TOz).trans TO'
    · exact h1'.at fun o q => (sb.2 _ D.i1z).trans q
    · exact h2'.at fun o q => (sb.2 _ D.i2z).trans q
    · have hlt : c < s.heap.objs.size := by
        have e' : c = z ∨ c = TI ∨ c = TO ∨ c = i1 ∨ c = i2 := by simpa using hcm
        rcases e' with q | q | q | q | q
        · rw [q]; exact hzl
        · rw [q]; exact Heap.lt_size hTI
        · rw [q]; exact Heap.lt_size hTO
        · rw [q]; obtain ⟨_, e1, _⟩ := h1; exact Heap.lt_size e1
        · rw [q]; obtain ⟨_, e2, _⟩ := h2; exact Heap.lt_size e2
      rw [upd_ne (Nat.ne_of_lt hlt)]
      exact (hf c hcm).1
  done := by
    intro X hP hw hK hc i pins s σ H E I hf st hg
    subst hP hw hK
    obtain ⟨hz, hTI, ⟨x0, y0, hTO⟩, h1, h2⟩ := st
    obtain ⟨xs, ys, hqx, hqy, e1, e2⟩ := hg
    obtain ⟨its, rv, p, _⟩ := I.tuple hqx
    obtain ⟨its2, rv2, p2, _⟩ := I.tuple hqy
    have l1 := rv.length
    have l2 := rv2.length
    exact pnS_end (I.ok.hd hc) D hz hTI hTO h1 h2 p p2 (by simp; omega) (by simp; omega) fun h' hk => ⟨rfl, I.turnedL (t' := s.toks) (ch := [z, TI, TO, i1, i2]) (fun c o hb q =>
      hk c o (fun q' => hb (by simp [q'])) (fun q' => hb (by simp [q'])) (fun q' => hb (by simp [q'])) (fun q' => hb (by simp [q'])) q) hf⟩
  self := fun A i s Q E st h => itS st.1 h
def iZipS (K : PySem.W.Frag) (ta : TA) : TI := fun σ H R => ta σ H fun vs H1 => ∃ a b xs ys, vs = [.ref a, .ref b] ∧ SqT K H1 a xs ∧ SqT K H1 b ys ∧ R (ItzS K a b) H1
/-- for .. in zip(e, e2, strict=True) -/
theorem pi_zipS {X : Cx} {e e2 : Expr} {ta : TA} {p pos tpos kp cp : Pos} {j : Nat} {elts : List Expr} {kk : Nat} (hg : Gl X "zip") (hm : X.mg "zip" = none) (ha : PA X [e, e2] ta)
    (he : backTo pos (starEach [e, e2] X.env) = (false, eval e X.env) :: backTo pos (starEach [e2] X.env) := by rfl) (hpl : (backTo pos (starEach [e, e2] X.env)).any (·.1) = false := by rfl) :
    PI X (.Tuple elts kk tpos) (.Call (.Name "zip" p) [e, e2] [⟨some (Str.ofString "strict"), .Constant (.bool true) j cp, kp⟩] pos) (iZipS X.K ta) := by
  refine ⟨fun pins s σ H R I h => ?_⟩
  refine wpAny_Call_Name_kw (ld_blt I hg hm PyProof.Rows.boot_zip (cwT_kw (thn (ha.run pos pins s σ H _ I h) fun us s1 ⟨vs, H1, I1, r1, q1⟩ => ?_) he hpl rfl rfl))
  obtain ⟨a, b, xs, ys, ex, hqx, hqy, q⟩ := q1
  subst ex
  cases r1 with
  | cons r rr =>
    cases rr with
    | cons r' rr =>
      cases rr
      cases r
      cases r'
      have fresh5 : ∀ c, c ∈ [s1.heap.objs.size + 4, s1.heap.objs.size + 2, s1.heap.objs.size + 3, s1.heap.objs.size, s1.heap.objs.size + 1] → FpOk X pins H1 c := fun c hcm => by
        have hle : s1.heap.objs.size ≤ c := by
          simp only [List.mem_cons, List.not_mem_nil, or_false] at hcm
          rcases hcm with z | z | z | z | z <;> rw [z] <;> first | exact Nat.le_add_right _ _ | exact Nat.le_refl _
        exact I1.fpOk hle (I1.hok.fresh hle)
      obtain ⟨its, rv, p1, _⟩ := I1.tuple hqx
      obtain ⟨its2, rv2, p2, _⟩ := I1.tuple hqy
      obtain ⟨o1, ho1, _⟩ := id p1
      obtain ⟨o2, ho2, _⟩ := id p2
      refine PyProof.Rows.kws_cons (wpAny_of_eq (a := Value.bool true) (by first | rfl | (simp only [eval]; rfl)) (PyProof.Rows.kws_nil ?_))
      refine call_zipS (show s1.heap.IsTuple a its.toArray from p1) (show s1.heap.IsTuple b its2.toArray from p2) fun h' hz hTI hTO h1 h2 hsz hk => itS hz ?_
      have I2 : Inv X pins σ H1 { s1 with heap := h' } := I1.kept (t' := s1.toks) hk
      exact ⟨s1.heap.objs.size + 4, [s1.heap.objs.size + 4, s1.heap.objs.size + 2, s1.heap.objs.size + 3, s1.heap.objs.size, s1.heap.objs.size + 1], _, _, H1, rfl, I2, turn_zipS (PySem.W.ktu_apart s1.heap.objs.size a b (Heap.lt_size ho1) (Heap.lt_size ho2)), ⟨hz, hTI, ⟨_, _, hTO⟩, h1, h2⟩, fresh5, q⟩
end Hx

/-! Readings by value: a local name that holds a def of the module; zip(.., .., strict=True) of two tuples; x.bit_length(). -/
namespace Dv
open PySem PySem.Spec L2 PyProof.Rows Hx
/-- the def of the module by this name keeps this promise -/
structure FnW (X : Cx) (k : Nat) (x : Str) (sp : SpD) : Prop where
  ex : ∃ (f : Addr) (fd : FuncData) (ps : List Str) (k' : Nat), PySem.W.nsIn X.K mainGlobals x = some (some (.ref f)) ∧ k' ≤ k ∧ Hx.FnG X.prog X.w X.K X.mg X.base (L2N.CX X.prog X.w) k' f fd ps (upF X.K sp) ∧ PySem.W.keepIn X.K (.ref f) = true ∧ Binds X.K fd ps []
def dCallV (i : Nat) (cs : List (Str × SpD)) (WD : WXD) (t : TAD) : TED := fun σ S Q => ∃ x sp, σ[i]? = some (some (.fn x)) ∧ (x, sp) ∈ cs ∧ dCall sp [] WD t σ S Q
section
variable {X : Cx} {W : Wi} {k i : Nat} {x : Str} {p pos : Pos} {e : Expr} {es : List Expr} {t : TAD} {cs : List (Str × SpD)}
theorem fnW_mk {f : Addr} {fd : FuncData} {ps : List Str} {k' : Nat} {sp : SpD} (F : Hx.FnG X.prog X.w X.K X.mg X.base (L2N.CX X.prog X.w) k' f fd ps (upF X.K sp)) (hn : PySem.W.nsIn X.K mainGlobals x = some (some (.ref f))) (hk : PySem.W.keepIn X.K (.ref f) = true) (hb : Binds X.K fd ps [])
    (hl : k' ≤ k := by decide) : FnW X k x sp := ⟨f, fd, ps, k', hn, hl, F, hk, hb⟩
theorem fnW_nil : ∀ q ∈ ([] : List (Str × SpD)), FnW X k q.1 q.2 := fun q h => by cases h
theorem fnW_cons {sp : SpD} (h : FnW X k x sp) (hr : ∀ q ∈ cs, FnW X k q.1 q.2) : ∀ q ∈ (x, sp) :: cs, FnW X k q.1 q.2 := fun q hq => by
  rcases List.mem_cons.mp hq with rfl | hq
  · exact h
  · exact hr q hq
theorem de_callV (A : ∀ q ∈ cs, FnW X k q.1 q.2) (hr : Hx.RoomG k X.A) (hN : X.N[i]? = some x) (hv : Vis X.env.scope x) (tk : L2N.Takes X W.V) (ha : DA X W (e :: es) t)
    (hdb : (x == ("__debug__" : Str)) = false := by decide) (hcd : (x == ("__classdict__" : Str)) = false := by decide)
    (he : starEach (e :: es) X.env = (false, eval e X.env) :: starEach es X.env := by rfl) (hpl : (backTo pos (starEach es X.env)).any (·.1) = false := by rfl) : DE X W (.Call (.Name x p) (e :: es) [] pos) (dCallV i cs W.D t) := by
  refine ⟨⟨fun pins s σ H Q I h => ?_⟩⟩
  obtain ⟨σd, S, fr, Qd, ok, cl, ⟨n, sp, hs, hm, ht⟩, kk⟩ := h
  obtain ⟨v, hv', f, rfl, hf⟩ := ok.si i _ hs
  obtain ⟨f', fd, ps, k', hf', hk', F, hkp, hb⟩ := (A _ hm).ex
  have ef : f' = f := by
    have e1 := hf.symm.trans hf'
    injection e1 with e1
    injection e1 with e1
    injection e1 with e1
    exact e1.symm
  subst ef
  have lift := call_lift (dvs := []) (fun _ _ => rpL_nil) σ H Q ⟨σd, S, fr, Qd, ok, cl, ht, kk⟩
  refine wpAny_Call_Name_kw (thn ((pe_var (pos := p) hN hv hdb hcd).run pins s σ H (fun v H1 => v = .ref f' ∧ H1 = H) I ⟨.ref f', hv', rfl, rfl⟩) fun u s1 ⟨v, H1, I1, r1, q1⟩ => ?_)
  obtain ⟨rfl, rfl⟩ := q1
  cases r1
  refine PySem.W.callWith_K (h₀ := X.base) I.ok.mod.kin hkp (thn (ha.p.run pos pins s1 σ _ _ I1 lift) fun us s2 ⟨vs, H2, I2, r, q⟩ => ⟨I2.kIn, ?_⟩) he hpl
  exact fnG_run F (hr.mono hk') hb .nil (L2N.passAt tk σ) I2 r q
/-! ### zip, strict -/
theorem itd_zipS {K : PySem.W.Frag} {a b : Addr} {ds es : List D} {fr : List (V × D)} (hl : ds.length = es.length) : ItD K (ItzS K a b) (zipD ds es) ((.ref a, .tup ds) :: (.ref b, .tup es) :: fr) where
  go := fun i d e H S σd σ ok => by
    obtain ⟨a', vs, e1, q1, r1⟩ := ok.head
    obtain ⟨b', ws, e2, q2, r2⟩ := ok.tail.head
    cases (show V.ref a = .ref a' from e1)
    cases (show V.ref b = .ref b' from e2)
    unfold zipD at e
    rw [List.getElem?_map] at e
    obtain ⟨p, hp, rfl⟩ := Option.map_eq_some_iff.mp e
    obtain ⟨h1, h2⟩ := List.getElem?_zip_eq_some.mp hp
    obtain ⟨v, v1, v2⟩ := rpL_get r1 h1
    obtain ⟨w, w1, w2⟩ := rpL_get r2 h2
    refine ⟨⟨vs, ws, v, w, q1, q2, v1, w1⟩, fun x H' y => ?_⟩
    obtain ⟨T, x', y', rfl, hT, rfl, g1, g2⟩ := y
    have e3 := g1 vs q1
    have e4 := g2 ws q2
    rw [v1] at e3
    rw [w1] at e4
    cases e3
    cases e4
    exact ⟨ok.new hT, rp_tupNew ok.rel hT (rpL_cons v2 (rpL_cons w2 rpL_nil))⟩
  stop := fun H S σd σ ok => by
    obtain ⟨a', vs, e1, q1, r1⟩ := ok.head
    obtain ⟨b', ws, e2, q2, r2⟩ := ok.tail.head
    cases (show V.ref a = .ref a' from e1)
    cases (show V.ref b = .ref b' from e2)
    have l1 := rpL_len r1
    have l2 := rpL_len r2
    have l3 : (zipD ds es).length = min ds.length es.length := by unfold zipD; rw [List.length_map, List.length_zip]
    rw [l3]
    exact ⟨vs, ws, q1, q2, by omega, by omega⟩
def zipSR (R : List D → Sd → Prop) (S : Sd) : List D → Prop
  | [.tup ds, .tup es] => ds.length = es.length ∧ R (zipD ds es) S
  | _ => False
theorem zipSR_inv {R : List D → Sd → Prop} {S : Sd} {ds : List D} (h : zipSR R S ds) : ∃ xs ys, ds = [.tup xs, .tup ys] ∧ xs.length = ys.length ∧ R (zipD xs ys) S := by
  unfold zipSR at h
  split at h
  · exact ⟨_, _, rfl, h.1, h.2⟩
  · exact h.elim
def dZipS (ta : TAD) : TID := fun σ S R => ta σ S fun xs S1 => zipSR R S1 xs
theorem di_zipS {a b : Expr} {ta : TAD} {p pos tpos kp cp : Pos} {j : Nat} {elts : List Expr} {kk : Nat} (hg : Gl X "zip") (hm : X.mg "zip" = none) (ha : DA X W [a, b] ta)
    (he : backTo pos (starEach [a, b] X.env) = (false, eval a X.env) :: backTo pos (starEach [b] X.env) := by rfl) (hpl : (backTo pos (starEach [a, b] X.env)).any (·.1) = false := by rfl) :
    DI X W (.Tuple elts kk tpos) (.Call (.Name "zip" p) [a, b] [⟨some (Str.ofString "strict"), .Constant (.bool true) j cp, kp⟩] pos) (dZipS ta) :=
  ⟨PI.imp (pi_zipS hg hm ha.p he hpl) fun σ H R ⟨σd, S, fr, Rd, ok, cl, h, k⟩ => ⟨σd, S, fr, _, ok, cl, h, fun vs ds H1 S1 ok1 r1 q => by
    obtain ⟨xs, ys, rfl, hl, q⟩ := zipSR_inv q
    obtain ⟨v, w, rfl, t1, t2⟩ := rpL2 r1
    obtain ⟨a', us, e1, q1, _⟩ := id t1
    obtain ⟨b', ws, e2, q2, _⟩ := id t2
    subst e1 e2
    exact ⟨a', b', us, ws, rfl, q1, q2, k _ _ H1 S1 [(.ref a', .tup xs), (.ref b', .tup ys)] ((ok1.cons t2).cons t1) (itd_zipS hl) q⟩⟩⟩
/-! ### bit_length -/
def bitsQ (S : Sd) (Q : DK) : D → Prop
  | .int i => Q (.int (Builtin.Int.intBits i : Nat)) S
  | _ => False
def dBits (to : TED) : TED := fun σ S Q => to σ S fun d S1 => bitsQ S1 Q d
theorem de_bits {o : Expr} {to : TED} {apos : Pos} (ho : DE X W o to) (hbase : attributeBase o "bit_length" X.env (eval o X.env) = eval o X.env := by rfl) (hline : (apos.endLine == pos.line) = true := by rfl) :
    DE X W (.Call (.Attribute o "bit_length" apos) [] [] pos) (dBits to) :=
  ⟨PE.imp (pe_bits ho.p hbase hline) fun σ H Q ⟨σd, S, fr, Qd, ok, cl, h, k⟩ => ⟨σd, S, fr, _, ok, cl, h, fun v x H1 S1 ok1 r1 q1 => by
    cases x with
    | int i => exact ⟨i, r1, k _ (.int _) H1 S1 ok1 rfl q1⟩
    | _ => exact (show False from q1).elim⟩⟩
/-! ### list(x), stored into later -/
def rdListO : RDC
  | [d], S, Q => ∃ xs, itemsD S d = some xs ∧ ∀ a, S a = none → Q (.obj a) (upS S a (.lst xs))
  | _, _, _ => False
theorem cd_listO : CallD X (.type "list") rdListO := ⟨_, call_list_of, fun H S fr σd σ xs ds Qv Qd ok r h k => by
  match ds, r, h with
  | [], _, h => exact (show False from h).elim
  | _ :: _ :: _, _, h => exact (show False from h).elim
  | [d], r, h =>
    obtain ⟨v, rfl, r0⟩ := rpL1 r
    obtain ⟨xs, e, q⟩ := (show ∃ xs, itemsD S d = some xs ∧ ∀ a, S a = none → Qd (.obj a) (upS S a (.lst xs)) from h)
    obtain ⟨a, vs, rfl, hq, r2⟩ := rp_items ok.rel r0 e
    exact ⟨a, vs, rfl, hq, fun l hl => k (.ref l) (.obj l) _ (upS S l (.lst xs)) (ok.own hl r2) rfl (q l (ok.rel.free hl))⟩⟩
end
end Dv

/-! Readings by value: the truth of an instance whose class has neither __bool__ nor __len__. -/
namespace Dv
open PySem PySem.Spec L2 PyProof.Rows Hx
section
variable {X : Cx} {W : Wi} {a : Expr} {ta : TE} {C fI : Addr} {n : Str}
end
/-! ### a tracked list that is changed no more: from here on a plain one -/
def dFrzV (i : Nat) (t : TSD) : TSD := fun D σ S => ∃ a ds, σ[i]? = some (some (.obj a)) ∧ S a = some (.lst ds) ∧ t D (σ.set i (some (.lst ds))) (del S a)
theorem set_self {α : Type} : ∀ {l : List α} {i : Nat} {x : α}, l[i]? = some x → l.set i x = l
  | [], _, _, h => by simp at h
  | a :: l, 0, x, h => by simp at h; simp [h]
  | a :: l, i + 1, x, h => by
    rw [List.getElem?_cons_succ] at h
    rw [List.set_cons_succ, set_self h]
theorem ds_frzV {X : Cx} {W : Wi} {s : Stmt} {t : TSD} (i : Nat) (h : DS X W s t) : DS X W s (dFrzV i t) :=
  ⟨PS.imp h.p fun D σ H ⟨σd, S, fr, Dd, ok, cl, ⟨a, ds, e1, e2, ht⟩, k⟩ => by
    obtain ⟨v, ev, rv⟩ := ok.si i _ e1
    have ev2 : v = .ref a := rv
    subst ev2
    have ok2 := (ok.step step_del (rel_del ok.rel)).set (rp_frozen ok.rel e2) i
    rw [set_self ev] at ok2
    exact ⟨σd.set i (some (.lst ds)), del S a, fr, Dd, ok2, cl, ht, k⟩⟩
end Dv

/-! How often a truth stands in a list of truths. -/
namespace Dv
open PySem PySem.Spec L2 PyProof.Rows Hx
section
variable {X : Cx} {W : Wi} {o e : Expr} {es : List Expr} {to : TED} {t : TAD} {apos cpos : Pos}
end
end Dv

/-! == and != of an instance whose class has an __eq__ of its own and no __ne__. -/
namespace Hx
open PySem PySem.Spec PyProof.Rows L2
open Builtin
/-- a value's type, instances of the text's classes too -/
def TyZ (K : PySem.W.Frag) (H : Hp) (y : V) (t : Value) : Prop := TyX K H y t ∨ ∃ b D dy gs, y = .ref b ∧ H b = some (.ins D dy gs) ∧ t = .ref D
theorem tyz_looks {X : Cx} {pins : List (Addr × Obj)} {σ : L2.St} {H : Hp} {s : Shared} {y : V} {u t : Value} (I : Inv X pins σ H s) (ry : RelV y u) (h : TyZ X.K H y t) : PySem.W.Looks (model X.prog X.w) s.heap (typeOf u) t := by
  rcases h with h | ⟨b, D, dy, gs, rfl, hb, rfl⟩
  · obtain ⟨P, Z, p, _⟩ := kit_of I ry h
    exact Z.ty _ _ I.kIn p
  · cases ry
    obtain ⟨mA, J, _⟩ := ins_get I.hok hb
    obtain ⟨od, J, _⟩ := J.look
    exact J.type
/-- x == y, x an instance of the class at C whose own __eq__ keeps the promise sp -/
def rEqI (K : PySem.W.Frag) (C : Addr) (sp : Sp) : R2 := fun x y H Q => ∃ a dx fs t, x = .ref a ∧ H a = some (.ins C dx fs) ∧ TyZ K H y t ∧ PySem.W.notFirst K C t = true ∧ sp [x, y] H Q fun _ _ _ => False
theorem op_eqI {X : Cx} {CX : CXT} {k : Nat} {C f : Addr} {fd : FuncData} {ps : List Str} {sp : Sp} (hm : Meth X.K C "__eq__" f) (F : FnG X.prog X.w X.K X.mg X.base CX k f fd ps sp) (hr : RoomG (k + 1) X.A) (hu : X.A.units + 64 < cLine) (hb : Binds X.K fd ps []) (hx : ∀ σ, PassesAt CX X σ fun _ _ _ => False) :
    OpR X (compareOp .Eq) (rEqI X.K C sp) := by
  intro pins s σ H x y v u Q I rx ry h
  obtain ⟨a, dx, fs, t, rfl, ha, hy, hn, q⟩ := h
  cases (show v = Value.ref a from rx)
  obtain ⟨mA, O, _⟩ := ins_get I.hok ha
  obtain ⟨od, J, _⟩ := O.look
  obtain ⟨m, hF⟩ := I.fr
  show wpAny (model X.prog X.w) X.A (richCompare .Eq (.ref a) u) (EP X pins σ Q) X.xe s
  refine PySem.W.cmp_K (op := .Eq) (tb := t) (by omega) hF I.ok.mod.kin J (tyz_looks I ry hy) hn hm.at_ hm.fn ?_
  refine wpAny_mono (fnG_run (E := fun _ _ _ _ => False) (us := [.ref a, u]) (vs := [.ref a, y]) F (hr.mono (by omega)) hb .nil (hx σ) I (.cons rfl (.cons ry .nil)) (by simpa using q)) (fun w s' z => ?_) fun _ _ x => x
  obtain ⟨z', H', I', rz, qz⟩ := z
  exact SlX.cmpback rz ⟨z', H', I', rz, qz⟩
theorem check_K {M : Model} {A : Around} {E : Value → Shared → Prop} {s : Shared} {K : PySem.W.Frag} {x C : Addr} {ox : Obj} {od : Option Obj} {id owner n : String} {rest : List Value} {Q : Unit → Shared → Prop} (X : K.In s.heap) (I : PySem.W.InstAt s.heap x ox C od)
    (hk : builtinKind id = some .slot) (hs : splitId id = some (owner, n)) (ha : argsOk id ⟨.ref x :: rest, []⟩) (sub : PySem.W.subIn K (.ref C) (.type owner) = some true) (hq : Q () s) : wpAny M A (checkBuiltinCall id ⟨.ref x :: rest, []⟩) Q E s := by
  simp only [checkBuiltinCall, hk, hs]
  refine wpAny_bind ?_
  unfold isInstance
  refine wpAny_bind (I.type.here ((PySem.W.looks_subIn X sub).here ?_))
  rw [if_neg (by decide)]
  cases hsig : Manifest.signature? id with
  | none => exact wpAny_pure hq
  | some sig =>
    simp only [argsOk, hsig] at ha
    have h2 : Bind.checkArgs id sig ⟨.ref x :: rest, []⟩ = pure () := ha
    show wpAny M A (Bind.checkArgs id sig ⟨.ref x :: rest, []⟩) Q E _
    rw [h2]; exact wpAny_pure hq

section
variable {prog : Program} {w : World} {A : Around} {E : Value → Shared → Prop} {s : Shared} {K : PySem.W.Frag} {x C f : Addr} {ox : Obj} {od : Option Obj} {b tb : Value}
theorem objNe_K (X : K.In s.heap) (I : PySem.W.InstAt s.heap x ox C od) (hs : PySem.W.findIn K (.ref C) "__eq__" = some (some (.ref f))) (hf : PySem.W.isFn K (.ref f) = true) (hu : A.units < cLine) {Q : Fin → Shared → Prop}
    (hcall : wpAny (model prog w) A (call (.ref f) [.ref x, b]) (fun v s' => ∃ r, v = .bool r ∧ Q (.done (.ret (.bool (!r)))) s') E s) :
    wpAny (model prog w) A (Builtin.«object.__ne__» ⟨[.ref x, b], []⟩) Q E s := by
  unfold Builtin.«object.__ne__»
  repeat (first
    | with_reducible refine wpAny_cRoomFor hu ?_
    | (refine wpAny_bind (m := callSpecialIfBound? (.ref x) (Str.ofString "__eq__") [b])
        (PySem.W.ifBound_K X I hs hf (wpAny_mono hcall (fun r s' hr => by
          obtain ⟨b, rfl, hq⟩ := hr
          repeat (first | exact hq | exact wpAny_pure hq | exact wpAny_truthy_bool hq | (refine wpAny_bind (m := truthy (.bool _)) (wpAny_truthy_bool ?_)) | wp_step)) fun _ _ e => e)))
    | wp_step)
theorem neBound_K (X : K.In s.heap) (I : PySem.W.InstAt s.heap x ox C od) (hs : PySem.W.findIn K (.ref C) "__ne__" = some (some (.builtin "object.__ne__"))) {args : List Value} {Q : Option Value → Shared → Prop}
    (h : wpAny (model prog w) A (call (.builtin "object.__ne__") (.ref x :: args)) (fun v => Q (some v)) E s) : wpAny (model prog w) A (callSpecialIfBound? (.ref x) "__ne__" args) Q E s := by
  simp only [callSpecialIfBound?, bindSpecialIfBound?]
  refine wpAny_holding (wpAny_bind (wpAny_bind (wpAny_bind (I.type.here ((PySem.W.looks_findIn X hs).here ?_)))))
  simp only [F.cmp_object.ne.bind]
  refine wpAny_bind (wpAny_askSetting (wpAny_ite ?_))
  have fin : wpAny (model prog w) A (call (.builtin "object.__ne__") ([.ref x] ++ args) >>= fun v => pure (some v)) Q E s := wpAny_bind (wpAny_mono h (fun v s' h' => wpAny_pure h') fun _ _ h' => h')
  split
  · exact wpAny_bind (wpAny_pure (wpAny_pure fin))
  · exact wpAny_tryCatch (wpAny_bind (wpAny_pure (wpAny_pure fin)))
theorem ne_K {Q : Value → Shared → Prop} (hu : A.units + 1 < cLine) (X : K.In s.heap) (I : PySem.W.InstAt s.heap x ox C od) (hb : PySem.W.Looks (model prog w) s.heap (typeOf b) tb) (hn : PySem.W.notFirst K C tb = true)
    (hs : PySem.W.findIn K (.ref C) "__eq__" = some (some (.ref f))) (hf : PySem.W.isFn K (.ref f) = true) (hne : PySem.W.findIn K (.ref C) "__ne__" = some (some (.builtin "object.__ne__"))) (sub : PySem.W.subIn K (.ref C) (.type "object") = some true)
    (h : wpAny (model prog w) A.in1 (call (.ref f) [.ref x, b]) (fun v s' => ∃ r, v = .bool r ∧ Q (.bool (!r)) s') E s) : wpAny (model prog w) A (richCompare .NotEq (.ref x) b) Q E s := by
  have one : wpAny (model prog w) A (tryCompare (.ref x) "__ne__" b) (fun r s' => ∃ v, r = some v ∧ Q v s') E s := by
    unfold tryCompare
    refine wpAny_bind (neBound_K X I hne (wpAny_call (codeAny_call_builtin F.cmp_object.ne.plain F.cmpEntry_ne (check_K X I F.cmpKind_ne F.cmpSplit_ne (F.cmpArgs_ne _ _) sub (objNe_K (A := A.in1) X I hs hf (by exact hu) (wpAny_mono h (fun v s' hv => ?_) fun _ _ e => e))))))
    obtain ⟨r, rfl, hq⟩ := hv
    first | exact ⟨r, rfl, wpAny_pure ⟨_, rfl, hq⟩⟩ | exact ⟨r, rfl, wpAny_pure (wpAny_pure ⟨_, rfl, hq⟩)⟩
  unfold richCompare
  simp only [oneThing_ref]
  refine wpAny_holding (wpAny_bind (wpAny_cRoomFor (by omega) ?_))
  refine wpAny_bind (I.type.here (wpAny_bind (hb.here ?_)))
  split
  · rename_i q
    have e : PySem.W.subIn K tb (.ref C) = some false := by
      rcases Bool.or_eq_true_iff.mp hn with e | e
      · rw [beq_iff_eq.mp e] at q; simp at q
      · exact beq_iff_eq.mp e
    refine wpAny_bind ((PySem.W.looks_subIn X e).here ?_)
    simp only [Bool.false_eq_true, if_false]
    refine wpAny_bind (wpAny_mono one (fun r s' z => ?_) fun _ _ e => e)
    obtain ⟨v, rfl, hq⟩ := z
    exact wpAny_pure hq
  · refine wpAny_bind (wpAny_pure ?_)
    simp only [Bool.false_eq_true, if_false]
    refine wpAny_bind (wpAny_mono one (fun r s' z => ?_) fun _ _ e => e)
    obtain ⟨v, rfl, hq⟩ := z
    exact wpAny_pure hq
end
/-- x != y -/
def rNeI (K : PySem.W.Frag) (C : Addr) (sp : Sp) : R2 := fun x y H Q => ∃ a dx fs t, x = .ref a ∧ H a = some (.ins C dx fs) ∧ TyZ K H y t ∧ PySem.W.notFirst K C t = true ∧ sp [x, y] H (fun v H' => ∃ r, v = .bl r ∧ Q (.bl (!r)) H') fun _ _ _ => False
theorem op_neI {X : Cx} {CX : CXT} {k : Nat} {C f : Addr} {fd : FuncData} {ps : List Str} {sp : Sp} (hm : Meth X.K C "__eq__" f) (hne : PySem.W.findIn X.K (.ref C) "__ne__" = some (some (.builtin "object.__ne__"))) (sub : PySem.W.subIn X.K (.ref C) (.type "object") = some true) (F : FnG X.prog X.w X.K X.mg X.base CX k f fd ps sp) (hr : RoomG (k + 1) X.A) (hu : X.A.units + 64 < cLine) (hb : Binds X.K fd ps []) (hx : ∀ σ, PassesAt CX X σ fun _ _ _ => False) :
    OpR X (compareOp .NotEq) (rNeI X.K C sp) := by
  intro pins s σ H x y v u Q I rx ry h
  obtain ⟨a, dx, fs, t, rfl, ha, hy, hn, q⟩ := h
  cases (show v = Value.ref a from rx)
  obtain ⟨mA, O, _⟩ := ins_get I.hok ha
  obtain ⟨od, J, _⟩ := O.look
  obtain ⟨m, hF⟩ := I.fr
  show wpAny (model X.prog X.w) X.A (richCompare .NotEq (.ref a) u) (EP X pins σ Q) X.xe s
  refine ne_K (tb := t) (by omega) I.kIn J (tyz_looks I ry hy) hn hm.at_ hm.fn hne sub ?_
  have r2 : Vals [V.ref a, y] [Value.ref a, u] := .cons rfl (.cons ry .nil)
  have l2 : [Value.ref a, u].length = ps.length := (show _ = _ from r2.length.symm).trans (F.len _ _ _ _ q)
  have bind := hb s [.ref a, u] I.kIn (by simpa using l2)
  refine wpAny_call (codeAny_mono (F.run X.A.in1 X.stack s H _ _ _ _ (fun _ _ _ => False) hr.in1 I.env0.in1 bind (by simpa using r2) q) fun out s' got => ?_)
  match out, got with
  | .error e, got => exact hx σ pins H s e s' I got
  | .ok (.ret w), got =>
    obtain ⟨z, H', I', rz, r, ez, qz⟩ := I.after got
    subst ez
    cases rz
    exact ⟨r, rfl, .bl (!r), H', I', rfl, qz⟩
end Hx

/-! ==, != and str of instances by value. -/
namespace Hx
open PySem PySem.Spec PyProof.Rows L2
theorem call_strI {X : Cx} {CX : CXT} {k : Nat} {C f : Addr} {fd : FuncData} {x : Str} {sp : Sp} (hu : X.A.units + 64 < cLine) (hm : Meth X.K C "__str__" f) (F : FnG X.prog X.w X.K X.mg X.base CX k f fd [x] sp) (hr : RoomG (k + 2) X.A) (hb : Binds X.K fd [x] []) (hx : ∀ σ, PassesAt CX X σ fun _ _ _ => False) :
    CallR X (.type "str") (rTextI C sp) := fun pins s σ H xs us Q I r h => by
  obtain ⟨a, dx, fs, rfl, ea, h⟩ := h
  obtain ⟨u, rfl, rx⟩ := vals1 r
  cases rx
  obtain ⟨mA, O, _⟩ := ins_get I.hok ea
  obtain ⟨od, J, _⟩ := O.look
  refine PySem.W.kso_call (by show X.A.units + 2 < cLine; omega) I.kIn J hm.at_ hm.fn ?_
  have bind := hb s [.ref a] I.kIn rfl
  refine wpAny_call (codeAny_mono (F.run X.A.in1.in1 X.stack s H _ _ _ _ (fun _ _ _ => False) hr.in1.in1 I.env0.in1.in1 bind (show Vals [V.ref a] [Value.ref a] from .cons rfl .nil) h) fun out s' got => ?_)
  match out, got with
  | .error e, got => exact hx σ pins H s e s' I got
  | .ok (.ret u), got =>
    obtain ⟨v, H', J', rv, z, ev, q⟩ := I.after got
    subst ev
    obtain ⟨t, rfl⟩ := rv
    exact ⟨.str z, H', J', ⟨t, rfl⟩, q⟩
end Hx
namespace Dv
open PySem L2 PyProof.Rows Hx
/-- what the class has of object's -/
def neB (K : PySem.W.Frag) (C : Addr) : Bool := decide (PySem.W.findIn K (.ref C) "__ne__" = some (some (.builtin "object.__ne__"))) && decide (PySem.W.subIn K (.ref C) (.type "object") = some true)
theorem neB_ok {K : PySem.W.Frag} {C : Addr} (h : neB K C = true) : PySem.W.findIn K (.ref C) "__ne__" = some (some (.builtin "object.__ne__")) ∧ PySem.W.subIn K (.ref C) (.type "object") = some true :=
  ⟨of_decide_eq_true (Bool.and_eq_true_iff.mp h).1, of_decide_eq_true (Bool.and_eq_true_iff.mp h).2⟩
theorem nf_bt {K : PySem.W.Frag} {C : Addr} {d : D} {t : String} (e : tyD d = some t) : PySem.W.notFirst K C (.type t) = true := by
  have h : ∀ t ∈ ["NoneType", "bool", "int", "str", "tuple", "list"], PySem.W.subIn K (.type t) (.ref C) = some false := fun t ht => by
    simp only [List.mem_cons, List.not_mem_nil, or_false] at ht
    rcases ht with rfl | rfl | rfl | rfl | rfl | rfl <;> kernel_rfl
  have m : t ∈ ["NoneType", "bool", "int", "str", "tuple", "list"] := by
    cases d <;> cases e <;> simp
  unfold PySem.W.notFirst
  rw [h t m]
  simp
/-- the right one: data, or an instance of the same class -/
def eqY (n : Str) (y : D) : Prop := (∃ t, tyD y = some t) ∨ ∃ ns ys, y = .inst n ns ys
theorem eqY_ty {K : PySem.W.Frag} {H : Hp} {S : Sd} {n : Str} {C : Addr} {d : D} {v : V} (R : RelS K H S) (c : ClsAt K n C) (r : Rp K H S d v) (h : eqY n d) : ∃ t, TyZ K H v t ∧ PySem.W.notFirst K C t = true := by
  rcases h with ⟨t, e⟩ | ⟨ns, ys, rfl⟩
  · exact ⟨_, .inl (isi_ty R r e), nf_bt e⟩
  · obtain ⟨C', a, d', fs, c', rfl, ha, sa, en, r2⟩ := r
    obtain rfl := c'.one c
    exact ⟨_, .inr ⟨a, C', d', fs, rfl, ha, rfl⟩, by unfold PySem.W.notFirst; simp⟩
def rdEqI (n : Str) (sp : SpD) : RD2 := fun x y S Q => match x with
  | .inst n' ns ys => n' = n ∧ eqY n y ∧ sp [.inst n' ns ys, y] S Q fun _ _ => False
  | _ => False
def rdNeI (n : Str) (sp : SpD) : RD2 := fun x y S Q => match x with
  | .inst n' ns ys => n' = n ∧ eqY n y ∧ sp [.inst n' ns ys, y] S (fun v S' => ∃ r, v = .bl r ∧ Q (.bl (!r)) S') fun _ _ => False
  | _ => False
section
variable {X : Cx} {k : Nat} {n : Str} {ps : List Str} {C f fI : Addr} {fd : FuncData} {sp : SpD}
theorem od_eqI (Cf : ClF X.K n C fI) (hm : Meth X.K C "__eq__" f) (F : FnG X.prog X.w X.K X.mg X.base (L2N.CX X.prog X.w) k f fd ps (upF X.K sp)) (hr : RoomG (k + 1) X.A) (hu : X.A.units + 64 < cLine) (hb : Binds X.K fd ps [])
    (hx : ∀ σ, PassesAt (L2N.CX X.prog X.w) X σ fun _ _ _ => False) : OpD X (compareOp .Eq) (rdEqI n sp) := ⟨_, op_eqI hm F hr hu hb hx, fun H S fr σd σ x y dx dy Qv Qd ok rx ry h k => by
  unfold rdEqI at h
  split at h
  · rename_i n' ns ys
    obtain ⟨rfl, hy, h⟩ := h
    obtain ⟨t, ty, nf⟩ := eqY_ty ok.rel Cf.at_ ry hy
    have rx0 := rx
    obtain ⟨C', a, d', fs, c', rfl, ha, sa, en, r2⟩ := rx
    obtain rfl := c'.one Cf.at_
    refine ⟨a, d', fs, t, rfl, ha, ty, nf, [.inst n' ns ys, dy], S, fr ++ prs σd σ, _, _, ok.rel, ok.out, rpL_cons rx0 (rpL_cons ry rpL_nil), h, fun v d H2 S2 R2 f2 r2 q2 => ?_, fun cls od y H2 S2 R2 f2 ry q2 => q2⟩
    exact k v d H2 S2 (ok.back R2 f2) r2 q2
  · exact h.elim⟩
theorem od_neI (Cf : ClF X.K n C fI) (hm : Meth X.K C "__eq__" f) (hne : neB X.K C = true) (F : FnG X.prog X.w X.K X.mg X.base (L2N.CX X.prog X.w) k f fd ps (upF X.K sp)) (hr : RoomG (k + 1) X.A) (hu : X.A.units + 64 < cLine) (hb : Binds X.K fd ps [])
    (hx : ∀ σ, PassesAt (L2N.CX X.prog X.w) X σ fun _ _ _ => False) : OpD X (compareOp .NotEq) (rdNeI n sp) := ⟨_, op_neI hm (neB_ok hne).1 (neB_ok hne).2 F hr hu hb hx, fun H S fr σd σ x y dx dy Qv Qd ok rx ry h k => by
  unfold rdNeI at h
  split at h
  · rename_i n' ns ys
    obtain ⟨rfl, hy, h⟩ := h
    obtain ⟨t, ty, nf⟩ := eqY_ty ok.rel Cf.at_ ry hy
    have rx0 := rx
    obtain ⟨C', a, d', fs, c', rfl, ha, sa, en, r2⟩ := rx
    obtain rfl := c'.one Cf.at_
    refine ⟨a, d', fs, t, rfl, ha, ty, nf, [.inst n' ns ys, dy], S, fr ++ prs σd σ, _, _, ok.rel, ok.out, rpL_cons rx0 (rpL_cons ry rpL_nil), h, fun v d H2 S2 R2 f2 r2 q2 => ?_, fun cls od y H2 S2 R2 f2 ry q2 => q2⟩
    obtain ⟨r, rfl, q⟩ := q2
    have e : v = .bl r := r2
    exact ⟨r, e, k _ (.bl (!r)) H2 S2 (ok.back R2 f2) rfl q⟩
  · exact h.elim⟩
theorem cd_strI {x : Str} (hu : X.A.units + 64 < cLine) (Cf : ClF X.K n C fI) (hm : Meth X.K C "__str__" f) (F : FnG X.prog X.w X.K X.mg X.base (L2N.CX X.prog X.w) k f fd [x] (upF X.K sp)) (hr : RoomG (k + 2) X.A) (hb : Binds X.K fd [x] [])
    (hx : ∀ σ, PassesAt (L2N.CX X.prog X.w) X σ fun _ _ _ => False) : CallD X (.type "str") (rdReprI n sp) :=
  ⟨_, call_strI hu hm F hr hb hx, fun H S fr σd σ xs ds Qv Qd ok r h k => by
    unfold rdReprI at h
    split at h
    · rename_i n' ns ys
      obtain ⟨rfl, h⟩ := h
      obtain ⟨v, rfl, r1⟩ := rpL1 r
      obtain ⟨C', a, d', fs, c', rfl, ha, sa, en, r2⟩ := r1
      obtain rfl := c'.one Cf.at_
      have r1 : Rp X.K H S (.inst n' ns ys) (.ref a) := ⟨C', a, d', fs, c', rfl, ha, sa, en, r2⟩
      refine ⟨a, d', fs, rfl, ha, [.inst n' ns ys], S, fr ++ prs σd σ, _, _, ok.rel, ok.out, rpL_cons r1 rpL_nil, h, fun v d H2 S2 R2 f2 r2 q2 => ?_, fun cls od y H2 S2 R2 f2 ry q2 => q2⟩
      obtain ⟨z, rfl, q⟩ := q2
      have e : v = .str z := r2
      exact ⟨z, e, k _ (.str z) H2 S2 (ok.back R2 f2) rfl q⟩
    · exact h.elim⟩
end
end Dv

/-! for i, x in enumerate(xs); isinstance by a class of the text. -/
namespace Dv
open PySem L2 PyProof.Rows Hx
/-! ### isinstance by a class of the text -/
def btNames : List String := ["NoneType", "bool", "int", "str", "tuple", "list"]
def isB (K : PySem.W.Frag) (C : Addr) : Bool := decide (PySem.W.findIn K (.ref C) "__class__" = some (some (.builtin "object.__class__"))) && (decide (PySem.W.specialIn K (.builtin "object.__class__") "__get__" = some (some (.builtin "getset_descriptor.__get__"))) &&
  (decide (PySem.W.takesIn K (.builtin "object.__class__") = some true) && (decide (PySem.W.mroIn K C (.type "object") = some true) && btNames.all fun t => decide (PySem.W.kitOne K (.type t) (.ref C) = some false))))
structure IsF (K : PySem.W.Frag) (C : Addr) : Prop where
  ha : PySem.W.findIn K (.ref C) "__class__" = some (some (.builtin "object.__class__"))
  hn : PySem.W.specialIn K (.builtin "object.__class__") "__get__" = some (some (.builtin "getset_descriptor.__get__"))
  htk : PySem.W.takesIn K (.builtin "object.__class__") = some true
  hm : PySem.W.mroIn K C (.type "object") = some true
  nb : ∀ t ∈ btNames, PySem.W.kitOne K (.type t) (.ref C) = some false
theorem isB_ok {K : PySem.W.Frag} {C : Addr} (h : isB K C = true) : IsF K C := by
  unfold isB at h
  obtain ⟨a, h⟩ := and_b h
  obtain ⟨b, h⟩ := and_b h
  obtain ⟨c, h⟩ := and_b h
  obtain ⟨d, h⟩ := and_b h
  exact ⟨of_decide_eq_true a, of_decide_eq_true b, of_decide_eq_true c, of_decide_eq_true d, fun t ht => of_decide_eq_true (p := PySem.W.kitOne K (.type t) (.ref C) = some false) (List.all_eq_true.mp h t ht)⟩
theorem kit_self {K : PySem.W.Frag} {C : Addr} : PySem.W.kitOne K (.ref C) (.ref C) = some true := by
  unfold PySem.W.kitOne
  rw [if_pos (by simp)]
/-- a class of the text as a value -/
theorem de_cls {X : Cx} {W : Wi} {n : Str} {C fI : Addr} {pos : Pos} (Cf : ClF X.K n C fI) (hg : Gl X n) (hm : X.mg n = some (.ref C)) (hd : (n == ("__debug__" : Str)) = false := by decide) : DE X W (.Name n pos) (dC (.fn n)) :=
  de_k hg hm (show RelV (.ref C) (.ref C) from rfl) (fun _ _ => ⟨C, rfl, Cf.at_⟩) hd
end Dv

/-! str(whole number), str(text). -/
namespace Dv
open PySem L2 PyProof.Rows Hx
def rdStr : RDC := fun ds S Q => match ds with
  | [.int i] => i.natAbs.log2 < 1920 ∧ Q (.str (toString i)) S
  | [.str z] => Q (.str z) S
  | _ => False
theorem cd_str {X : Cx} : CallD X (.type "str") rdStr := ⟨_, CallR.or call_str_int SkE.call_str_str, fun H S fr σd σ xs ds Qv Qd ok r h k => by
  match ds, h with
  | [.int i], h =>
    obtain ⟨v, rfl, r1⟩ := rpL1 r
    have e : v = .int i := r1
    subst e
    exact .inl ⟨i, rfl, h.1, k _ (.str _) H S ok rfl h.2⟩
  | [.str z], h =>
    obtain ⟨v, rfl, r1⟩ := rpL1 r
    have e : v = .str z := r1
    subst e
    exact .inr ⟨z, rfl, k _ (.str z) H S ok rfl h⟩⟩
theorem x_str_i {i : Int} {S : Sd} {Q : DK} : rdStr [.int i] S Q = (i.natAbs.log2 < 1920 ∧ Q (.str (toString i)) S) := rfl
theorem x_str_s {z : Str} {S : Sd} {Q : DK} : rdStr [.str z] S Q = Q (.str z) S := rfl
/-- how long a number's text is -/
theorem len_intText {i : Int} (h : i.natAbs.log2 < 1920) : (toString i : Str).length ≤ 1921 := shown_len (d := .int i) (decide_eq_true h)
end Dv

/-! data == an instance: the data's own == declines, then the instance's __eq__ is asked. -/
namespace Hx
open PySem PySem.Spec PySem.SeqAt PyProof.Rows L2
open AutoSeq1 (wpAny_loadPart')
open Builtin
section
variable {prog : Program} {w : World} {A : Around} {E : Value → Shared → Prop} {s : Shared} {K : PySem.W.Frag} {y C f : Addr} {oy : Obj} {od : Option Obj} {a : Value} {Ta ida : String}
end
end Hx
namespace Dv
open PySem L2 PyProof.Rows Hx
section
variable {X : Cx} {k : Nat} {n : Str} {ps : List Str} {C f fI : Addr} {fd : FuncData} {sp : SpD}
end
end Dv

/-! an instance in [None, an instance]: by the class's own __eq__. -/
namespace Hx
open PySem PySem.Spec PySem.SeqAt PyProof.Rows L2
open AutoSeq1 (wpAny_loadPart')
open MeetsSeq MeetsSeq2 MeetsSeq3 SeqRoads2
open Builtin
section
variable {prog : Program} {w : World} {A : Around} {R : Result → Shared → Prop}
/-- the list at l holds u0 and u1 -/
def Two (l : Addr) (u0 u1 : Value) (s : Shared) : Prop := ∃ (cells : Array Value) (n : Nat) (dd : Option Addr) (sl : Array (Option Value)), s.heap.get? l = some { cls := .type "list", dict := dd, data := .seq cells n, slots := sl } ∧ cells[((0 : Nat) : Int).toNat]? = some u0 ∧ cells[((1 : Nat) : Int).toNat]? = some u1 ∧ cells[((2 : Nat) : Int).toNat]? = none
theorem twoEnd {l : Addr} {x u0 u1 : Value} {s : Shared} (ht : Two l u0 u1 s) (q : R (.ok (.ret (.bool false))) s) :
    wpAny (model prog w) A.in1 (Builtin.«list.__contains__.loop» ⟨[.ref l, x, rawInt ((2 : Nat) : Int)], []⟩) (GQ.FinOf prog w A R) (fun e s' => R (.error e) s') s := by
  obtain ⟨cells, n, dd, sl, hl, i0, i1, i2⟩ := ht
  obtain ⟨hp, g, d, tk, os⟩ := s
  wp_walk using wpAny_loadPart' hl
  rw [i2]
  wp_walk
  exact q
theorem twoLast {l : Addr} {x u0 u1 : Value} {s : Shared} (ht : Two l u0 u1 s) (h : wpAny (model prog w) A.in1 (eqBool u1 x) (fun r s2 => (∃ u0 u1, Two l u0 u1 s2) ∧ R (.ok (.ret (.bool r))) s2) (fun e s' => R (.error e) s') s) :
    wpAny (model prog w) A.in1 (Builtin.«list.__contains__.loop» ⟨[.ref l, x, rawInt ((1 : Nat) : Int)], []⟩) (GQ.FinOf prog w A R) (fun e s' => R (.error e) s') s := by
  obtain ⟨cells, n, dd, sl, hl, i0, i1, i2⟩ := ht
  obtain ⟨hp, g, d, tk, os⟩ := s
  wp_walk using wpAny_loadPart' hl
  rw [i1]
  refine wpAny_bind (wpAny_mono h (fun r s2 q => ?_) fun _ _ z => z)
  obtain ⟨⟨w0, w1, t2⟩, q⟩ := q
  have fin := fun q0 => twoEnd (prog := prog) (w := w) (A := A) (R := R) (x := x) t2 q0
  obtain ⟨hp2, g2, d2, tk2, os2⟩ := s2
  cases r with
  | true =>
    wp_walk
    exact q
  | false =>
    wp_walk
    exact ⟨plainId_quiet plain_contains_loop _, codeAny_builtin entry_contains_loop (by
      rw [Around.under_plainId plain_contains_loop _]
      exact fin q)⟩
end
section
variable {X : Cx} {CX : CXT} {k : Nat} {C f : Addr} {fd : FuncData} {ps : List Str} {sp : Sp}
/-- the own __eq__, called below in -/
theorem run_below {pins : List (Addr × Obj)} {σ : L2.St} {H : Hp} {s : Shared} {Q : VK} {u0 u1 : Value} {v0 v1 : V} {R : Value → Shared → Prop} (F : FnG X.prog X.w X.K X.mg X.base CX k f fd ps sp) (hr : RoomG (k + 1) X.A) (hb : Binds X.K fd ps []) (hx : ∀ σ, PassesAt CX X σ fun _ _ _ => False) (I : Inv X pins σ H s) (r0 : RelV v0 u0) (r1 : RelV v1 u1)
    (q : sp [v0, v1] H Q fun _ _ _ => False) (h : ∀ z w H' s', RelV z w → Inv X pins σ H' s' → Q z H' → R w s') : wpAny (model X.prog X.w) X.A.in1 (call (.ref f) [u0, u1]) (PySem.W.CmpBack R) X.xe s := by
  have r2 : Vals [v0, v1] [u0, u1] := .cons r0 (.cons r1 .nil)
  have l2 : [u0, u1].length = ps.length := (show _ = _ from r2.length.symm).trans (F.len _ _ _ _ q)
  have bind := hb s [u0, u1] I.kIn (by simpa using l2)
  refine wpAny_call (codeAny_mono (F.run X.A.in1 X.stack s H _ _ _ _ (fun _ _ _ => False) hr.in1 I.env0.in1 bind (by simpa using r2) q) fun out s' got => ?_)
  match out, got with
  | .error e, got => exact hx σ pins H s e s' I got
  | .ok (.ret w), got =>
    obtain ⟨z, H', I', rz, qz⟩ := I.after got
    exact SlX.cmpback rz (h z w H' s' rz I' qz)
end
end Hx
namespace Dv
open PySem L2 PyProof.Rows Hx
/-- what a field may hold here: a text, a whole number, a tuple of whole numbers -/
def flatI : D → Bool
  | .str _ => true
  | .int _ => true
  | .tup ds => ds.all fun d => match d with | .int _ => true | _ => false
  | _ => false
theorem ints_ofF {K : PySem.W.Frag} {H : Hp} {S : Sd} : ∀ {ds es : List D} {vs : List V}, (ds.all fun d => match d with | .int _ => true | _ => false) = true → (es.all fun d => match d with | .int _ => true | _ => false) = true → RpL K H S ds vs → RpL K H S es vs → ds = es
  | [], [], _, _, _, _, _ => rfl
  | [], e :: es, vs, _, _, h, g => by
    obtain ⟨v, r, rfl, _⟩ := g
    cases h
  | d :: ds, [], vs, _, _, h, g => by
    obtain ⟨v, r, rfl, _⟩ := h
    cases g
  | d :: ds, e :: es, vs, a, b, h, g => by
    obtain ⟨v, r, rfl, h1, h2⟩ := h
    obtain ⟨v', r', e', g1, g2⟩ := g
    cases e'
    rw [List.all_cons, Bool.and_eq_true] at a b
    rw [ints_ofF a.2 b.2 h2 g2]
    cases d with
    | int i =>
      cases e with
      | int j =>
        have x1 : v = .int i := h1
        have x2 : v = .int j := g1
        rw [x1] at x2
        cases x2
        rfl
      | _ => cases b.1
    | _ => cases a.1
theorem flat_inj {K : PySem.W.Frag} {H : Hp} {S : Sd} (inj : ∀ p vs ws, SqT K H p vs → SqT K H p ws → vs = ws) : ∀ {d e : D} {v : V}, flatI d = true → flatI e = true → Rp K H S d v → Rp K H S e v → d = e := fun {d e v} a b h g => by
  cases d with
  | str z =>
    have x1 : v = .str z := h
    cases e with
    | str y => have x2 : v = .str y := g; rw [x1] at x2; cases x2; rfl
    | int y => have x2 : v = .int y := g; rw [x1] at x2; cases x2
    | tup ds => obtain ⟨p, vs, x2, _⟩ := g; rw [x1] at x2; cases x2
    | _ => cases b
  | int z =>
    have x1 : v = .int z := h
    cases e with
    | str y => have x2 : v = .str y := g; rw [x1] at x2; cases x2
    | int y => have x2 : v = .int y := g; rw [x1] at x2; cases x2; rfl
    | tup ds => obtain ⟨p, vs, x2, _⟩ := g; rw [x1] at x2; cases x2
    | _ => cases b
  | tup ds =>
    obtain ⟨p, vs, x1, q1, r1⟩ := h
    cases e with
    | str y => have x2 : v = .str y := g; rw [x1] at x2; cases x2
    | int y => have x2 : v = .int y := g; rw [x1] at x2; cases x2
    | tup es =>
      obtain ⟨p', ws, x2, q2, r2⟩ := g
      rw [x1] at x2
      cases x2
      obtain rfl := inj p vs ws q1 q2
      rw [ints_ofF a b r1 r2]
    | _ => cases b
  | _ => cases a
theorem flatL_inj {K : PySem.W.Frag} {H : Hp} {S : Sd} (inj : ∀ p vs ws, SqT K H p vs → SqT K H p ws → vs = ws) : ∀ {ds es : List D} {vs : List V}, ds.all flatI = true → es.all flatI = true → RpL K H S ds vs → RpL K H S es vs → ds = es
  | [], [], _, _, _, _, _ => rfl
  | [], e :: es, vs, _, _, h, g => by
    obtain ⟨v, r, rfl, _⟩ := g
    cases h
  | d :: ds, [], vs, _, _, h, g => by
    obtain ⟨v, r, rfl, _⟩ := h
    cases g
  | d :: ds, e :: es, vs, a, b, h, g => by
    obtain ⟨v, r, rfl, h1, h2⟩ := h
    obtain ⟨v', r', e', g1, g2⟩ := g
    cases e'
    rw [List.all_cons, Bool.and_eq_true] at a b
    rw [flat_inj inj a.1 b.1 h1 g1, flatL_inj inj a.2 b.2 h2 g2]
end Dv

/-! "text" + x.replace(a, b). -/
namespace Dv
open PySem PySem.Spec L2 PyProof.Rows Hx
end Dv

/-! bool(x), x an instance whose class has a __len__ of its own and no __bool__. -/
namespace Hx
open PySem PySem.Spec PyProof.Rows L2
open Builtin
section
variable {prog : Program} {w : World} {A : Around} {E : Value → Shared → Prop} {s : Shared} {K : PySem.W.Frag} {a C f : Addr} {ox : Obj} {od : Option Obj}
theorem lenBody_fn {Q : Value → Shared → Prop} (X : K.In s.heap) (I : PySem.W.InstAt s.heap a ox C od)
    (hf : PySem.W.findIn K (.ref C) "__len__" = some (some (.ref f))) (fo : PySem.W.typeIn K (.ref f) = some (.type "function"))
    (h : wpAny (model prog w) A (call (.ref f) [.ref a]) (fun r s' => ∃ n u, r = .int n u ∧ 0 ≤ n ∧ n < 2 ^ 63 ∧ Q (.int n s'.toks) { s' with toks := s'.toks + 1 }) E s) :
    wpAny (model prog w) A (Builtin.«len» ⟨[.ref a], []⟩) (fun fin s' => ∃ r, fin = .done (.ret r) ∧ Q r s') E s := by
  unfold Builtin.«len»
  refine wpAny_bind (m := oneArg "len" _) (wpAny_pure ?_)
  refine wpAny_bind (m := callSpecial? (.ref a) (Str.ofString "__len__")) (special_fn X I hf fo (wpAny_mono h (fun r s' hr => ?_) fun _ _ z => z))
  obtain ⟨n, u, rfl, h0, h1, hq⟩ := hr
  refine wpAny_bind (wpAny_holding (wpAny_pure ?_))
  refine wpAny_bind (wpAny_letGo ?_)
  show wpAny _ _ (if n < 0 then _ else _) _ _ _
  rw [if_neg (by omega)]
  show wpAny _ _ (if n ≥ 2 ^ 63 then _ else _) _ _ _
  rw [if_neg (by omega)]
  exact wpAny_bind (wpAny_mkInt (wpAny_pure ⟨_, rfl, hq⟩))
theorem truthy_lenK {Q : Bool → Shared → Prop} (X : K.In s.heap) (I : PySem.W.InstAt s.heap a ox C od) (hb : PySem.W.findIn K (.ref C) "__bool__" = some none)
    (hf : PySem.W.findIn K (.ref C) "__len__" = some (some (.ref f))) (fo : PySem.W.typeIn K (.ref f) = some (.type "function"))
    (h : wpAny (model prog w) A.in1 (call (.ref f) [.ref a]) (fun r s' => ∃ n u, r = .int n u ∧ 0 ≤ n ∧ n < 2 ^ 63 ∧ Q (n != 0) { s' with toks := s'.toks + 1 }) E s) : wpAny (model prog w) A (truthy (.ref a)) Q E s := by
  have key : wpAny (model prog w) A (runValue (.builtin "len" ⟨[.ref a], []⟩)) (fun r s' => ∃ n u, r = .int n u ∧ Q (n != 0) s') E s := by
    refine wpAny_runValue (codeAny_builtin entry_len ?_)
    rw [Around.under_plainId plain_len _]
    refine wpAny_mono (lenBody_fn (Q := fun r s' => ∃ n u, r = .int n u ∧ Q (n != 0) s') X I hf fo (wpAny_mono h (fun r s' hr => ?_) fun _ _ z => z)) (fun fin s' h' => by obtain ⟨r, rfl, hq⟩ := h'; exact hq) fun _ _ e => e
    obtain ⟨n, u, rfl, h0, h1, hq⟩ := hr
    exact ⟨n, u, rfl, h0, h1, n, _, rfl, hq⟩
  unfold truthy
  refine wpAny_bind (m := callSpecial? (.ref a) (Str.ofString "__bool__")) (wpAny_bind (wpAny_bind (I.type.here ((PySem.W.looks_findIn X hb).here (wpAny_pure ?_)))))
  refine wpAny_bind (wpAny_bind (I.type.here ((PySem.W.looks_findIn X hf).here ?_)))
  show wpAny _ _ (if (some (Value.ref f)).isNone = true then _ else _) _ _ _
  rw [if_neg (by simp)]
  refine wpAny_bind (wpAny_mono key (fun r s' h' => ?_) fun _ _ e => e)
  obtain ⟨n, u, rfl, hq⟩ := h'
  exact wpAny_pure hq
end
end Hx

/-! Readings by value: bool of an instance by its own __len__; the place of data in a list of data. -/
namespace Dv
open PySem PySem.Spec L2 PyProof.Rows Hx
end Dv

/-! t[::-1] of a tuple, what is made being known whole. -/
namespace Dv
open PySem PySem.Spec PyProof.Rows L2 Hx
section
variable {X : Cx} {W : Wi} {e : Expr} {te : TED} {pos : Pos}
end
end Dv

/-! list(range(e)) by value; an expression that is never asked. -/
namespace Dv
open PySem PySem.Spec PyProof.Rows L2 Hx
section
variable {X : Cx} {W : Wi} {a e : Expr} {ta : TED}
end
end Dv

/-! A try whose body raises nothing. -/
namespace Hx
open PySem PySem.Spec PyProof.Rows L2
variable {X : Cx}
end Hx
namespace Dv
open PySem PySem.Spec PyProof.Rows L2 Hx
variable {X : Cx} {W : Wi} {pos : Pos}
end Dv

/-! An instance that is made and stored into again; a field that is stored anew; an instance handed out for good. -/
namespace Dv
open PySem PySem.Spec L2 PyProof.Rows Hx
def dMakeO (n : Str) (sp : SpD) (dds : List D) (WD : WXD) (t : TAD) : TED := fun σ S Q => t σ S fun xs S1 => ∀ a, S1 a = none → sp (.obj a :: (xs ++ dds)) (upS S1 a (.ins n [] [])) (fun v S2 => v = .non ∧ (∃ ns ys, S2 a = some (.ins n ns ys)) ∧ Q (.obj a) S2) fun y S2 => WD y σ S2
section
variable {X : Cx} {W : Wi} {k : Nat} {f C fI : Addr} {fd : FuncData} {ps : List Str} {sp : SpD} {ds : List Value} {dvs : List V} {dds : List D} {x n m g : Str} {p pos apos pos' : Pos} {o e : Expr} {es : List Expr} {to tv : TED} {t : TAD}
theorem makeO_lift (c : ClsAt X.K n C) (hdd : ∀ H S, RpL X.K H S dds dvs) (σ : L2.St) (H : Hp) (Q : VK) (h : upE X.K W (dMakeO n sp dds W.D t) σ H Q) : tMakeS C (upF X.K sp) dvs (WE W.V) (upA X.K W t) σ H Q := by
  obtain ⟨σd, S, fr, Qd, ok, cl, h, k⟩ := h
  refine ⟨σd, S, fr, _, ok, cl, h, fun vs ds H1 S1 ok1 r1 h1 x dx hx hd hne => ?_⟩
  have st : Step H1 S1 (upd (upd H1 dx (.own x)) x (.ins C dx [])) (upS S1 x (.ins n [] [])) := step_made hx hd
  have sx : S1 x = none := ok1.rel.free hx
  have R2 : RelS X.K (upd (upd H1 dx (.own x)) x (.ins C dx [])) (upS S1 x (.ins n [] [])) := fun b w e => by
    by_cases hb : b = x
    · subst hb
      rw [upS_same] at e
      cases e
      exact ⟨C, dx, [], c, upd_same, rfl, rfl⟩
    · rw [upS_ne hb] at e
      exact soOk_step ok1.rel st (ok1.rel b w e) fun u hu => by rw [upd_ne hb, upd_ne (ne_of_none hu hd)]; exact hu
  have ok2 := ok1.step st R2
  refine ⟨.obj x :: (ds ++ dds), _, fr ++ prs σd σ, _, _, R2, ok2.out, rpL_cons rfl (rpL_app (rpL_step ok1.rel st _ _ r1) (hdd _ _)), h1 x sx, fun v d H3 S3 R3 f3 r3 q3 => ?_, fun cls od y H3 S3 R3 f3 ry q3 => ?_⟩
  · obtain ⟨e1, _, q⟩ := q3
    subst e1
    exact ⟨r3, k (.ref x) (.obj x) H3 S3 (ok2.back R3 f3) rfl q⟩
  · exact cl σd σ H3 S3 cls od y (ok2.back R3 f3) ry q3
theorem de_makeO (Cf : ClF X.K n C fI) (F : FnG X.prog X.w X.K X.mg X.base (L2N.CX X.prog X.w) k fI fd ps (upF X.K sp)) (hr : RoomG (k + 1) X.A) (hg : Gl X n) (hm : X.mg n = some (.ref C)) (hb : Binds X.K fd ps ds) (hd : Vals dvs ds) (hdd : ∀ H S, RpL X.K H S dds dvs) (tk : L2N.Takes X W.V)
    (ha : DA X W (e :: es) t) (hdb : (n == ("__debug__" : Str)) = false := by decide) (he : starEach (e :: es) X.env = (false, eval e X.env) :: starEach es X.env := by rfl) (hpl : (backTo pos (starEach es X.env)).any (·.1) = false := by rfl) :
    DE X W (.Call (.Name n p) (e :: es) [] pos) (dMakeO n sp dds W.D t) :=
  ⟨PE.imp (pe_makeG Cf.new F hr hg hm hb hd (fun σ => L2N.passAt tk σ) ha.p hdb he hpl) (makeO_lift Cf.at_ hdd)⟩
def dFrzI (t : TED) : TED := fun σ S Q => t σ S fun d S1 => ∃ a n ns ys, d = .obj a ∧ S1 a = some (.ins n ns ys) ∧ Q (.inst n ns ys) (del S1 a)
theorem de_frzI {t : TED} (h : DE X W e t) : DE X W e (dFrzI t) := ⟨PE.imp h.p fun σ H Q ⟨σd, S, fr, Qd, ok, cl, h, k⟩ => ⟨σd, S, fr, _, ok, cl, h, fun v d H1 S1 ok1 r1 q1 => by
  obtain ⟨a, n, ns, ys, rfl, hs, q⟩ := q1
  cases (show v = .ref a from r1)
  exact k _ (.inst n ns ys) H1 (del S1 a) (ok1.step step_del (rel_del ok1.rel)) (rp_frozenI ok1.rel hs) q⟩⟩
/-- self.f = e, the first time or again -/
def dPutB (n f : Str) (to tv : TED) : TSD := fun D σ S => tv σ S fun y S1 => to σ S1 fun o S2 => ∃ a ns ys, o = .obj a ∧ S2 a = some (.ins n ns ys) ∧ ns.length < 1000 ∧ (f ∉ ns → D.nx σ (upS S2 a (.ins n (ns ++ [f]) (ys ++ [y])))) ∧ (∀ i, ns[i]? = some f → (∀ j, j < i → ns[j]? ≠ some f) → D.nx σ (upS S2 a (.ins n ns (ys.set i y))))
theorem putF_old {f : Str} {v : V} : ∀ {fs : List (Str × V)} {i : Nat}, (fs.map Prod.fst)[i]? = some f → (∀ j, j < i → (fs.map Prod.fst)[j]? ≠ some f) → (putF f v fs).map Prod.fst = fs.map Prod.fst ∧ (putF f v fs).map Prod.snd = (fs.map Prod.snd).set i v ∧ (putF f v fs).length = fs.length
  | [], i, h, _ => by cases i <;> cases h
  | (g, x) :: r, 0, h, _ => by
    have e : g = f := by injection h
    show (List.map Prod.fst (if g = f then (g, v) :: r else _) = _) ∧ (List.map Prod.snd (if g = f then (g, v) :: r else _) = _) ∧ (List.length (if g = f then (g, v) :: r else _) = _)
    rw [if_pos e]
    exact ⟨rfl, rfl, rfl⟩
  | (g, x) :: r, i + 1, h, hn => by
    have e : g ≠ f := fun e => hn 0 (Nat.succ_pos i) (by rw [← e]; rfl)
    obtain ⟨h1, h2, h3⟩ := putF_old (f := f) (v := v) (fs := r) (i := i) h fun j hj => hn (j + 1) (Nat.succ_lt_succ hj)
    show (List.map Prod.fst (if g = f then _ else (g, x) :: putF f v r) = _) ∧ (List.map Prod.snd (if g = f then _ else (g, x) :: putF f v r) = _) ∧ (List.length (if g = f then _ else (g, x) :: putF f v r) = _)
    rw [if_neg e]
    refine ⟨?_, ?_, ?_⟩
    · rw [List.map_cons, h1]; rfl
    · rw [List.map_cons, h2]; rfl
    · rw [List.length_cons, h3]; rfl
theorem ds_putB (Cf : ClF X.K n C fI) (hn : NoAttr X.K C g) (ho : DE X W o to) (hv : DE X W e tv) (hs : swapsWith e (some (.Attribute o g pos')) pos.line X.env = pure false) : DS X W (.Assign [.Attribute o g pos'] e pos) (dPutB n g to tv) :=
  ⟨PS.imp (ps_fld ho.p hv.p hs) fun D σ H ⟨σd, S, fr, Dd, ok, cl, h, k⟩ => ⟨σd, S, fr, _, ok, cl, h, fun y dy H1 S1 ok1 ry h1 => ⟨σd, S1, (y, dy) :: fr, _, ok1.cons ry, cl.tail, h1, fun x dx H2 S2 ok2 rx ⟨a, ns, ys, eo, es, hl, q1, q2⟩ => by
    subst eo
    cases (show x = .ref a from rx)
    obtain ⟨C', dd, fs, c', ha, en, r⟩ := ok2.rel a _ es
    obtain rfl := c'.one Cf.at_
    have lf : fs.length = ns.length := by rw [← en, List.length_map]
    refine ⟨a, C', dd, fs, rfl, ha, Cf.cls, hn, by omega, ?_⟩
    by_cases hg : g ∈ ns
    · obtain ⟨i, hi, hno⟩ : ∃ i, ns[i]? = some g ∧ ∀ j, j < i → ns[j]? ≠ some g := by
        obtain ⟨i, hlt, e⟩ := List.getElem_of_mem hg
        have h0 : ns[i]? = some g := by rw [List.getElem?_eq_getElem hlt, e]
        clear e hlt
        induction i using Nat.strongRecOn with
        | _ i ih =>
          by_cases c : ∃ j, j < i ∧ ns[j]? = some g
          · obtain ⟨j, hj, e⟩ := c
            exact ih j hj e
          · exact ⟨i, h0, fun j hj e => c ⟨j, hj, e⟩⟩
      obtain ⟨p1, p2, p3⟩ := putF_old (f := g) (v := y) (fs := fs) (i := i) (by rw [en]; exact hi) (by rw [en]; exact hno)
      have st : Step H2 S2 (upd H2 a (.ins C' dd (putF g y fs))) (upS S2 a (.ins n ns (ys.set i dy))) := step_set es
      refine k.nx σd σ _ _ (ok2.tail.step st (rel_set ok2.rel es ⟨C', dd, _, c', upd_same, by rw [p1, en], ?_⟩)) (q2 i hi hno)
      rw [p2]
      exact rpL_step ok2.rel st _ _ (rpL_set i r ok2.head)
    · have e1 : putF g y fs = fs ++ [(g, y)] := putF_new (by rw [en]; exact hg)
      rw [e1]
      have st : Step H2 S2 (upd H2 a (.ins C' dd (fs ++ [(g, y)]))) (upS S2 a (.ins n (ns ++ [g]) (ys ++ [dy]))) := step_set es
      refine k.nx σd σ _ _ (ok2.tail.step st (rel_set ok2.rel es ⟨C', dd, _, c', upd_same, by rw [List.map_append, en]; rfl, ?_⟩)) (q1 hg)
      rw [List.map_append]
      exact rpL_step ok2.rel st _ _ (rpL_app r (rpL_cons ok2.head rpL_nil))⟩⟩⟩
end
end Dv

/-! A method without arguments, called while an exception is handled. -/
namespace Dv
open PySem PySem.Spec L2 PyProof.Rows Hx
section
variable {X : Cx} {k : Nat} {f C fI : Addr} {fd : FuncData} {ps : List Str} {sp : SpD} {n m : Str} {pos apos : Pos} {o : Expr} {to : TED} {ta : TE}
end
end Dv

namespace Hx
open PySem PySem.Spec PyProof.Rows L2 HotX
section
variable {prog : Program} {w : World} {A : Around} {E : Value → Shared → Prop} {s : Shared}
end
section
variable {X : Cx} {pos : Pos}
end
end Hx
namespace Dv
open PySem PySem.Spec L2 PyProof.Rows Hx
end Dv

/-! str of a tuple; a dict of two written keys asked with a default; ==, != and isinstance of instances of other classes; an instance in a list of two. -/
namespace Hx
open PySem PySem.Spec PyProof.Rows L2
def rStrT (K : PySem.W.Frag) : List V → Hp → VK → Prop := fun vs H Q => ∃ (a : Addr) (p : PyData), vs = [.ref a] ∧ Dp K H (.ref a) p ∧ p.showable = true ∧ p.hasDict = false ∧ p.depth ≤ 60 ∧ p.shown.length ≤ sizeLine ∧ Q (.str p.shown) H
theorem call_strT {X : Cx} (hg : X.A.guards = some []) (hu : X.A.units + 64 < cLine) : CallR X (.type "str") (rStrT X.K) := by
  intro pins s σ H xs us Q I r ⟨a, p, e, hd, hs, hn, hp, hz, q⟩
  subst e
  obtain ⟨u, rfl, rv⟩ := vals1 r
  obtain ⟨as, rd⟩ := Dp.reads I p (.ref a) u hd rv
  obtain rfl : u = Value.ref a := rv
  exact PySem.str_of_reads rd hs (fun z => by rw [hn] at z; cases z) hg (by omega) (fun _ _ z => z) (fun h' t tk hk => ⟨.str _, H, I.kept hk, ⟨t, rfl⟩, q⟩) hz
end Hx
namespace Dv
open PySem PySem.Spec L2 PyProof.Rows Hx
def rdStrT : RDC := fun ds S Q => match ds with
  | [.tup es] => shD (.tup es) ∧ Q (.str (shownD (.tup es))) S
  | _ => False
theorem cd_strT {X : Cx} (hg : X.A.guards = some []) (hu : X.A.units + 64 < cLine) : CallD X (.type "str") rdStrT := ⟨_, call_strT hg hu, fun H S fr σd σ xs ds Qv Qd ok r h k => by
  match ds, h with
  | [.tup es], h =>
    obtain ⟨v, rfl, r1⟩ := rpL1 r
    obtain ⟨a, rfl, h1, h2, h3, h4, h5⟩ := tup_shown ok.rel r1 h.1
    exact ⟨a, _, rfl, h1, h2, h3, h4, h5, k _ (.str _) H S ok rfl h.2⟩⟩
section
variable {K : PySem.W.Frag} {W : Wi} {z1 z2 : Str} {i : Nat}
end
section
variable {X : Cx} {W : Wi} {z1 z2 x : Str} {i : Nat} {m1 m2 m3 m4 : Nat} {q1 q2 q3 q4 q5 q6 dpos np np2 sp2 pos apos : Pos}
end
/-! ### instances of other classes -/
def othB (K : PySem.W.Frag) (C C2 : Addr) : Bool := decide (PySem.W.kitOne K (.ref C2) (.ref C) = some false) && PySem.W.notFirst K C (.ref C2)
structure OthF (K : PySem.W.Frag) (C : Addr) (m : Str) (C2 : Addr) : Prop where
  at_ : ClsAt K m C2
  cls : Cls K C2
  is_ : IsF K C2
  kit : PySem.W.kitOne K (.ref C2) (.ref C) = some false
  nf : PySem.W.notFirst K C (.ref C2) = true
def OthL (K : PySem.W.Frag) (C : Addr) (ms : List Str) : Prop := ∀ m ∈ ms, ∃ C2, OthF K C m C2
theorem oth_nil {K : PySem.W.Frag} {C : Addr} : OthL K C [] := fun m h => nomatch h
theorem oth_cons {K : PySem.W.Frag} {C C2 fI : Addr} {m : Str} {ms : List Str} (Cf : ClF K m C2 fI) (Is : IsF K C2) (h : othB K C C2 = true) (r : OthL K C ms) : OthL K C (m :: ms) := fun x hx => by
  rcases List.mem_cons.mp hx with rfl | hx
  · unfold othB at h
    obtain ⟨a, b⟩ := and_b h
    exact ⟨C2, Cf.at_, Cf.cls, Is, of_decide_eq_true a, b⟩
  · exact r x hx
def eqX (n : Str) (ms : List Str) (y : D) : Prop := eqY n y ∨ ∃ m ∈ ms, ∃ ns ys, y = .inst m ns ys
theorem eqX_ty {K : PySem.W.Frag} {H : Hp} {S : Sd} {n : Str} {ms : List Str} {C : Addr} {d : D} {v : V} (R : RelS K H S) (c : ClsAt K n C) (ol : OthL K C ms) (r : Rp K H S d v) (h : eqX n ms d) : ∃ t, TyZ K H v t ∧ PySem.W.notFirst K C t = true := by
  rcases h with h | ⟨m, hm, ns, ys, rfl⟩
  · exact eqY_ty R c r h
  · obtain ⟨C2, o⟩ := ol m hm
    obtain ⟨C', a, d', fs, c', rfl, ha, sa, en, r2⟩ := r
    obtain rfl := c'.one o.at_
    exact ⟨_, .inr ⟨a, C', d', fs, rfl, ha, rfl⟩, o.nf⟩
def rdEqX (n : Str) (ms : List Str) (sp : SpD) : RD2 := fun x y S Q => match x with
  | .inst n' ns ys => n' = n ∧ eqX n ms y ∧ sp [.inst n' ns ys, y] S Q fun _ _ => False
  | _ => False
section
variable {X : Cx} {k : Nat} {n : Str} {ms ps : List Str} {C f fI : Addr} {fd : FuncData} {sp : SpD}
theorem od_eqX (Cf : ClF X.K n C fI) (ol : OthL X.K C ms) (hm : Meth X.K C "__eq__" f) (F : FnG X.prog X.w X.K X.mg X.base (L2N.CX X.prog X.w) k f fd ps (upF X.K sp)) (hr : RoomG (k + 1) X.A) (hu : X.A.units + 64 < cLine) (hb : Binds X.K fd ps [])
    (hx : ∀ σ, PassesAt (L2N.CX X.prog X.w) X σ fun _ _ _ => False) : OpD X (compareOp .Eq) (rdEqX n ms sp) := ⟨_, op_eqI hm F hr hu hb hx, fun H S fr σd σ x y dx dy Qv Qd ok rx ry h k => by
  unfold rdEqX at h
  split at h
  · rename_i n' ns ys
    obtain ⟨rfl, hy, h⟩ := h
    obtain ⟨t, ty, nf⟩ := eqX_ty ok.rel Cf.at_ ol ry hy
    have rx0 := rx
    obtain ⟨C', a, d', fs, c', rfl, ha, sa, en, r2⟩ := rx
    obtain rfl := c'.one Cf.at_
    refine ⟨a, d', fs, t, rfl, ha, ty, nf, [.inst n' ns ys, dy], S, fr ++ prs σd σ, _, _, ok.rel, ok.out, rpL_cons rx0 (rpL_cons ry rpL_nil), h, fun v d H2 S2 R2 f2 r2 q2 => ?_, fun cls od y H2 S2 R2 f2 ry q2 => q2⟩
    exact k v d H2 S2 (ok.back R2 f2) r2 q2
  · exact h.elim⟩
end
/-- isinstance, of instances of other classes too -/
def isiX (n : Str) (ms : List Str) (S : Sd) (Q : DK) : D → Prop
  | .inst n' _ _ => (n' = n ∧ Q (.bl true) S) ∨ (n' ∈ ms ∧ Q (.bl false) S)
  | d => (∃ t, tyD d = some t) ∧ Q (.bl false) S
def rdIsiX (n : Str) (ms : List Str) : RDC := fun ds S Q => match ds with
  | [d, .fn m] => m = n ∧ isiX n ms S Q d
  | _ => False
theorem cd_isiX {X : Cx} {n : Str} {ms : List Str} {C fI : Addr} (Cf : ClF X.K n C fI) (Is : IsF X.K C) (ol : OthL X.K C ms) : CallD X (.builtin "isinstance") (rdIsiX n ms) := ⟨_, call_isi, fun H S fr σd σ xs ds Qv Qd ok r h k => by
  match ds, h with
  | [d, .fn m], h =>
    obtain ⟨rfl, h⟩ := h
    obtain ⟨v, w, rfl, r1, r2⟩ := rpL2 r
    obtain ⟨C', rfl, at'⟩ := r2
    obtain rfl : C' = C := ClsAt.one at' Cf.at_
    have bt : (∃ t, tyD d = some t) ∧ Qd (.bl false) S → ∃ x c t u b, [v, V.ref C'] = [x, c] ∧ ClsV c u ∧ TyX X.K H x t ∧ PySem.W.kitOne X.K t u = some b ∧ Qv (.bl b) H := fun ⟨⟨t, e⟩, q⟩ => by
      have m : t ∈ btNames := by
        unfold btNames
        cases d <;> cases e <;> simp
      exact ⟨v, .ref C', .type t, .ref C', false, rfl, .own C', isi_ty ok.rel r1 e, Is.nb t m, k _ (.bl false) H S ok rfl q⟩
    cases d with
    | inst n' ns ys =>
      rcases h with ⟨rfl, q⟩ | ⟨hm, q⟩
      · obtain ⟨C2, a, d', fs, c', rfl, ha, sa, en, r3⟩ := r1
        obtain rfl := c'.one Cf.at_
        exact ⟨.ref a, .ref C2, .ref C2, .ref C2, true, rfl, .own C2, .base (.ins ha Cf.cls Is.ha Is.hn Is.htk Is.hm), kit_self, k _ (.bl true) H S ok rfl q⟩
      · obtain ⟨C2, o⟩ := ol n' hm
        obtain ⟨C3, a, d', fs, c', rfl, ha, sa, en, r3⟩ := r1
        obtain rfl := c'.one o.at_
        exact ⟨.ref a, .ref C', .ref C3, .ref C', false, rfl, .own C', .base (.ins ha o.cls o.is_.ha o.is_.hn o.is_.htk o.is_.hm), o.kit, k _ (.bl false) H S ok rfl q⟩
    | _ => exact bt h⟩
end Dv

/-! an instance in a list of two instances: by the class's own __eq__. -/
namespace Hx
open PySem PySem.Spec PySem.SeqAt PyProof.Rows L2
open AutoSeq1 (wpAny_loadPart')
open MeetsSeq MeetsSeq2 MeetsSeq3 SeqRoads2
open Builtin
section
variable {prog : Program} {w : World} {A : Around} {R : Result → Shared → Prop}
theorem twoFirst2 {l : Addr} {x u0 u1 : Value} {s : Shared} (ht : Two l u0 u1 s) (h : wpAny (model prog w) A.in1 (eqBool u0 x) (fun r s1 => (r = true ∧ R (.ok (.ret (.bool true))) s1) ∨ (r = false ∧ ∃ w0 w1, Two l w0 w1 s1 ∧ wpAny (model prog w) A.in1 (eqBool w1 x) (fun r s2 => (∃ u0 u1, Two l u0 u1 s2) ∧ R (.ok (.ret (.bool r))) s2) (fun e s' => R (.error e) s') s1)) (fun e s' => R (.error e) s') s) :
    wpAny (model prog w) A.in1 (Builtin.«list.__contains__» ⟨[.ref l, x], []⟩) (GQ.FinOf prog w A R) (fun e s' => R (.error e) s') s := by
  have go : wpAny (model prog w) A.in1 (Builtin.«list.__contains__.loop» ⟨[.ref l, x, rawInt ((0 : Nat) : Int)], []⟩) (GQ.FinOf prog w A R) (fun e s' => R (.error e) s') s := by
    obtain ⟨cells, n, dd, sl, hl, i0, i1, i2⟩ := ht
    obtain ⟨hp, g, d, tk, os⟩ := s
    wp_walk using wpAny_loadPart' hl
    rw [i0]
    refine wpAny_bind (wpAny_mono h (fun r s1 q => ?_) fun _ _ z => z)
    rcases q with ⟨rfl, q⟩ | ⟨rfl, w0, w1, t1, q⟩
    · obtain ⟨hp1, g1, d1, tk1, os1⟩ := s1
      wp_walk
      exact q
    · have fin := twoLast (prog := prog) (w := w) (A := A) (R := R) (x := x) t1 q
      obtain ⟨hp1, g1, d1, tk1, os1⟩ := s1
      wp_walk
      exact ⟨plainId_quiet plain_contains_loop _, codeAny_builtin entry_contains_loop (by
        rw [Around.under_plainId plain_contains_loop _]
        exact fin)⟩
  obtain ⟨cells, n, dd, sl, hl, i0, i1, i2⟩ := ht
  obtain ⟨hp, g, d, tk, os⟩ := s
  wp_walk using wpAny_loadPart' hl
  exact ⟨plainId_quiet plain_contains_loop _, codeAny_builtin entry_contains_loop (by
    rw [Around.under_plainId plain_contains_loop _]
    exact go)⟩
end
/-- the tuples stand as they are told -/
def Inj (K : PySem.W.Frag) (H : Hp) : Prop := ∀ p vs ws, SqT K H p vs → SqT K H p ws → vs = ws
/-- x in [y, z], all of the class at C -/
def rIn2I (K : PySem.W.Frag) (C : Addr) (sp : Sp) : R2 := fun x y H Q => ∃ a b0 c0 p, x = .ref a ∧ y = .ref p ∧ (∃ dx fs, H a = some (.ins C dx fs)) ∧ SqL K H p [.ref b0, .ref c0] ∧ (∃ dx fs, H b0 = some (.ins C dx fs)) ∧
  (a = b0 → Inj K H → Q (.bl true) H) ∧
  (a ≠ b0 → sp [.ref b0, .ref a] H (fun v H1 => ∃ r, v = .bl r ∧ (r = true → Q (.bl true) H1) ∧ (r = false → ∃ b c, SqL K H1 p [.ref b, .ref c] ∧ (∃ dx fs, H1 a = some (.ins C dx fs)) ∧ (∃ dy gs, H1 c = some (.ins C dy gs)) ∧ (a = c → Inj K H1 → Q (.bl true) H1) ∧
    (a ≠ c → sp [.ref c, .ref a] H1 (fun v H2 => ∃ r, v = .bl r ∧ (∃ b c, SqL K H2 p [.ref b, .ref c]) ∧ Q (.bl r) H2) fun _ _ _ => False))) fun _ _ _ => False)
section
variable {X : Cx} {CX : CXT} {k : Nat} {C f : Addr} {fd : FuncData} {ps : List Str} {sp : Sp}
theorem two_ofI {pins : List (Addr × Obj)} {σ : L2.St} {H : Hp} {s : Shared} {p b c : Addr} (I : Inv X pins σ H s) (h : SqL X.K H p [.ref b, .ref c]) : Two p (.ref b) (.ref c) s := by
  obtain ⟨its, rv, ⟨⟨cls, dd, data, sl⟩, n, hop, hc, hdn, hd⟩, hlen⟩ := I.list h
  simp only at hc hd
  subst hc hd
  cases rv with
  | cons h0 r =>
    cases r with
    | cons h1 r =>
      cases r
      cases h0
      cases h1
      exact ⟨_, n, dd, sl, hop, rfl, rfl, rfl⟩
theorem op_in2I (hm : Meth X.K C "__eq__" f) (F : FnG X.prog X.w X.K X.mg X.base CX k f fd ps sp) (hr : RoomG (k + 1) X.A) (hu : X.A.units + 64 < cLine) (hb : Binds X.K fd ps []) (hx : ∀ σ, PassesAt CX X σ fun _ _ _ => False) :
    OpR X (compareOp .In) (rIn2I X.K C sp) := by
  intro pins s σ H x y v u Q I rx ry h
  obtain ⟨a, b0, c0, p, rfl, rfl, ⟨dx, fs, ha⟩, hp, ⟨dz, gz, hb0⟩, qe, qn⟩ := h
  cases (show v = Value.ref a from rx)
  cases (show u = Value.ref p from ry)
  have t0 := two_ofI I hp
  obtain ⟨cells, n, dd, sl, hop, _⟩ := id t0
  obtain ⟨mA, O, _⟩ := ins_get I.hok ha
  obtain ⟨od, J, _⟩ := O.look
  obtain ⟨mZ, OZ, _⟩ := ins_get I.hok hb0
  obtain ⟨oz, JZ, _⟩ := OZ.look
  have hu1 : X.A.in1.units < cLine := by show X.A.units + 1 < cLine; omega
  show wpAny (model X.prog X.w) X.A (do return .bool (← contains (.ref p) (.ref a))) (EP X pins σ Q) X.xe s
  refine wpAny_bind (wpAny_contains_slot ⟨_, hop, rfl⟩ PySem.F.slot_list_contains (GQ.call_here PySem.F.slot_list_contains ⟨_, hop, rfl⟩ PySem.F.entry_list_contains (PySem.F.args_list_contains_2 _ _) (twoFirst2 t0 ?_)))
  by_cases hab : a = b0
  · subst hab
    have qe := qe rfl fun p vs ws h1 h2 => I.tuple_inj h1 h2
    refine SeqAt.EqAt.same (A := X.A.in1) (s := s) (.ref a) X.prog X.w _ _ (.inl ⟨rfl, ?_⟩)
    exact wpAny_truthy_bool (wpAny_pure ⟨.bl true, H, I, rfl, qe⟩)
  · have qn := qn hab
    obtain ⟨m1, hF⟩ := I.fr
    refine GQ.eqBool_refG (fun e => hab e.symm) (PySem.W.cmp_K (op := .Eq) (tb := .ref C) hu1 hF I.ok.mod.kin JZ J.type (by unfold PySem.W.notFirst; simp) hm.at_ hm.fn ?_)
    refine run_below (v0 := .ref b0) (v1 := .ref a) F hr hb hx I rfl rfl qn fun z w H1 s1 rz I1 q1 => ?_
    obtain ⟨r, rfl, qt, qf⟩ := q1
    cases (show w = Value.bool r from rz)
    cases r with
    | true => exact ⟨true, rfl, .inl ⟨rfl, wpAny_truthy_bool (wpAny_pure ⟨.bl true, H1, I1, rfl, qt rfl⟩)⟩⟩
    | false =>
      obtain ⟨b, c, hp1, ⟨dx1, fs1, ha1⟩, ⟨dy1, gs1, hc1⟩, q2, q3⟩ := qf rfl
      refine ⟨false, rfl, .inr ⟨rfl, _, _, two_ofI I1 hp1, ?_⟩⟩
      by_cases hac : a = c
      · subst hac
        have q2 := q2 rfl fun p vs ws h1 h2 => I1.tuple_inj h1 h2
        refine SeqAt.EqAt.same (A := X.A.in1) (s := s1) (.ref a) X.prog X.w _ _ ⟨⟨_, _, two_ofI I1 hp1⟩, ?_⟩
        exact wpAny_truthy_bool (wpAny_pure ⟨.bl true, H1, I1, rfl, q2⟩)
      · have q3 := q3 hac
        obtain ⟨mA1, O1, _⟩ := ins_get I1.hok ha1
        obtain ⟨od1, J1, _⟩ := O1.look
        obtain ⟨mB1, P1, _⟩ := ins_get I1.hok hc1
        obtain ⟨oe1, L1, _⟩ := P1.look
        obtain ⟨m1, hF⟩ := I1.fr
        refine GQ.eqBool_refG (fun e => hac e.symm) (PySem.W.cmp_K (op := .Eq) (tb := .ref C) hu1 hF I1.ok.mod.kin L1 J1.type (by unfold PySem.W.notFirst; simp) hm.at_ hm.fn ?_)
        refine run_below (v0 := .ref c) (v1 := .ref a) F hr hb hx I1 rfl rfl q3 fun z w H2 s2 rz I2 q4 => ?_
        obtain ⟨r, rfl, ⟨b2, c2, hp2⟩, q5⟩ := q4
        cases (show w = Value.bool r from rz)
        exact ⟨r, rfl, ⟨_, _, two_ofI I2 hp2⟩, wpAny_truthy_bool (wpAny_pure ⟨.bl r, H2, I2, rfl, q5⟩)⟩
end
end Hx
namespace Dv
open PySem L2 PyProof.Rows Hx
/-- x in [y, z], all instances of one class -/
def rdIn2I (n : Str) (sp : SpD) : RD2 := fun x y S Q => ∃ ns ys ms zs ks ws, x = .inst n ns ys ∧ y = .lst [.inst n ms zs, .inst n ks ws] ∧ ys.all flatI = true ∧ zs.all flatI = true ∧ ws.all flatI = true ∧
  (ns = ms → ys = zs → Q (.bl true) S) ∧
  sp [.inst n ms zs, .inst n ns ys] S (fun v S1 => ∃ r, v = .bl r ∧ (r = true → Q (.bl true) S1) ∧ (r = false → (ns = ks → ys = ws → Q (.bl true) S1) ∧ sp [.inst n ks ws, .inst n ns ys] S1 (fun v S2 => ∃ r, v = .bl r ∧ Q (.bl r) S2) fun _ _ => False)) fun _ _ => False
theorem od_in2I {X : Cx} {k : Nat} {n : Str} {ps : List Str} {C f fI : Addr} {fd : FuncData} {sp : SpD} (Cf : ClF X.K n C fI) (hm : Meth X.K C "__eq__" f) (F : FnG X.prog X.w X.K X.mg X.base (L2N.CX X.prog X.w) k f fd ps (upF X.K sp)) (hr : RoomG (k + 1) X.A) (hu : X.A.units + 64 < cLine) (hb : Binds X.K fd ps [])
    (hx : ∀ σ, PassesAt (L2N.CX X.prog X.w) X σ fun _ _ _ => False) : OpD X (compareOp .In) (rdIn2I n sp) := ⟨_, op_in2I hm F hr hu hb hx, fun H S fr σd σ x y dx dy Qv Qd ok rx ry h k => by
  obtain ⟨ns, ys, ms, zs, ks, ws, rfl, rfl, fy, fz, fw, qe, h⟩ := h
  have rx0 := rx
  have ry0 := ry
  have one : ∀ {H1 : Hp} {S1 : Sd} {ns : List Str} {ys : List D} {x : V}, Rp X.K H1 S1 (.inst n ns ys) x → ∃ a dx fs, x = .ref a ∧ H1 a = some (.ins C dx fs) ∧ fs.map Prod.fst = ns ∧ RpL X.K H1 S1 ys (fs.map Prod.snd) := fun {H1 S1 ns ys x} r => by
    obtain ⟨C', a, dx, fs, c', e, ha, sa, en, r6⟩ := r
    obtain rfl := c'.one Cf.at_
    exact ⟨a, dx, fs, e, ha, en, r6⟩
  have two : ∀ {H1 : Hp} {S1 : Sd}, RelS X.K H1 S1 → Rp X.K H1 S1 (.lst [.inst n ms zs, .inst n ks ws]) y → ∃ p b c, y = .ref p ∧ SqL X.K H1 p [.ref b, .ref c] ∧ Rp X.K H1 S1 (.inst n ms zs) (.ref b) ∧ Rp X.K H1 S1 (.inst n ks ws) (.ref c) := fun {H1 S1} R r => by
    obtain ⟨p, vs, e1, q1, r1⟩ := rp_list R r
    obtain ⟨v0, w0, rfl, r2, r3⟩ := r1
    obtain ⟨v1, w1, rfl, r4, r5⟩ := r3
    cases (show w1 = [] from r5)
    obtain ⟨b, _, _, rfl, _⟩ := one r2
    obtain ⟨c, _, _, rfl, _⟩ := one r4
    exact ⟨p, b, c, e1, q1, r2, r4⟩
  have same : ∀ {H1 : Hp} {S1 : Sd} {a : Addr} {n1 n2 : List Str} {y1 y2 : List D}, Inj X.K H1 → y1.all flatI = true → y2.all flatI = true → Rp X.K H1 S1 (.inst n n1 y1) (.ref a) → Rp X.K H1 S1 (.inst n n2 y2) (.ref a) → n1 = n2 ∧ y1 = y2 := fun {H1 S1 a n1 n2 y1 y2} inj f1 f2 r1 r2 => by
    obtain ⟨a1, d1, fs1, e1, h1, g1, l1⟩ := one r1
    obtain ⟨a2, d2, fs2, e2, h2, g2, l2⟩ := one r2
    cases e1
    cases e2
    rw [h1] at h2
    cases h2
    exact ⟨g1.symm.trans g2, flatL_inj inj f1 f2 l1 l2⟩
  obtain ⟨a, dx, fs, rfl, ha, _, _⟩ := one rx
  obtain ⟨p, b, c, rfl, hp, rb, rc⟩ := two ok.rel ry
  obtain ⟨_, db, fb, eb, hb', _, _⟩ := one rb
  cases eb
  refine ⟨a, b, c, p, rfl, rfl, ⟨dx, fs, ha⟩, hp, ⟨db, fb, hb'⟩, fun e inj => ?_, fun _ => ?_⟩
  · subst e
    obtain ⟨e1, e2⟩ := same inj fy fz rx0 rb
    exact k _ (.bl true) H S ok rfl (qe e1 e2)
  refine ⟨[.inst n ms zs, .inst n ns ys], S, (.ref a, .inst n ns ys) :: (.ref p, .lst [.inst n ms zs, .inst n ks ws]) :: (fr ++ prs σd σ), _, _, ok.rel, ?_, rpL_cons rb (rpL_cons rx0 rpL_nil), h, fun v d H1 S1 R1 f1 r1 q1 => ?_, fun cls od y H2 S2 R2 f2 ry q2 => q2⟩
  · intro pr hpr
    rcases List.mem_cons.mp hpr with rfl | hpr
    · exact rx0
    rcases List.mem_cons.mp hpr with rfl | hpr
    · exact ry0
    · exact ok.out pr hpr
  obtain ⟨r, rfl, qt, qf⟩ := q1
  have ev : v = .bl r := r1
  subst ev
  have f1' : FrOk X.K H1 S1 (fr ++ prs σd σ) := fun pr hpr => f1 pr (by simp only [List.mem_cons]; exact .inr (.inr hpr))
  refine ⟨r, rfl, fun e => k _ (.bl true) H1 S1 (ok.back R1 f1') rfl (qt e), fun e => ?_⟩
  obtain ⟨qs, q3⟩ := qf e
  have x1 := f1 (.ref a, .inst n ns ys) (by simp)
  have y1 := f1 (.ref p, .lst [.inst n ms zs, .inst n ks ws]) (by simp)
  obtain ⟨a', dx1, fs1, e1, ha1, en1, rl1⟩ := one x1
  cases e1
  obtain ⟨p', b', c', e2, hp1, rb1, rc1⟩ := two R1 y1
  cases e2
  obtain ⟨_, dc, fc, ec, hc1, _, _⟩ := one rc1
  cases ec
  refine ⟨b', c', hp1, ⟨dx1, fs1, ha1⟩, ⟨dc, fc, hc1⟩, fun e inj => ?_, fun _ => ?_⟩
  · subst e
    obtain ⟨e1, e2⟩ := same inj fy fw x1 rc1
    exact k _ (.bl true) H1 S1 (ok.back R1 f1') rfl (qs e1 e2)
  · refine ⟨[.inst n ks ws, .inst n ns ys], S1, (.ref a, .inst n ns ys) :: (.ref p, .lst [.inst n ms zs, .inst n ks ws]) :: (fr ++ prs σd σ), _, _, R1, f1, rpL_cons rc1 (rpL_cons x1 rpL_nil), q3, fun v d H2 S2 R2 f2 r2 q4 => ?_, fun cls od y H2 S2 R2 f2 ry q2 => q2⟩
    obtain ⟨r, rfl, q5⟩ := q4
    have y2 := f2 (.ref p, .lst [.inst n ms zs, .inst n ks ws]) (by simp)
    obtain ⟨p', b2, c2, e3, hp2, _⟩ := two R2 y2
    cases e3
    have f2' : FrOk X.K H2 S2 (fr ++ prs σd σ) := fun pr hpr => f2 pr (by simp only [List.mem_cons]; exact .inr (.inr hpr))
    exact ⟨r, r2, ⟨b2, c2, hp2⟩, k _ (.bl r) H2 S2 (ok.back R2 f2') rfl q5⟩⟩
end Dv

/-! xs[-2::-1] of a tuple: all but the last one, from behind. -/
namespace HT
open PySem PyProof.Rows
section
variable {prog : Program} {w : World} {A : Around} {E : Value → Shared → Prop} {s : Shared}
end
end HT
namespace Dv
open PySem PySem.Spec L2 PyProof.Rows Hx HT
section
variable {X : Cx} {W : Wi} {e : Expr} {te : TED} {pos : Pos}
/-- xs[-2::-1] -/
def dBk (te : TED) : TED := fun σ S Q => te σ S fun x S1 => match x with
  | .tup ds => Q (.tup ds.dropLast.reverse) S1
  | _ => False
end
end Dv

/-! while an exception is handled: a comprehension within an expression, range in it, min of a list of data. -/
namespace Hx
open PySem PySem.Spec PyProof.Rows L2 HotX
section
variable {prog : Program} {w : World} {A : Around} {E : Value → Shared → Prop} {s : Shared}
end
section
variable {X : Cx}
end
section
variable {X : Cx} {pins : List (Addr × Obj)} {σ : L2.St} {H : Hp} {s : Shared}
end
end Hx
namespace Dv
open PySem PySem.Spec L2 PyProof.Rows Hx
section
variable {X : Cx} {W : Wi} {pos : Pos}
end
end Dv

/-! list.extend by a tuple or by a list that nobody changes; list.pop. -/
namespace Hx
open PySem PySem.Spec PySem.SeqAt PyProof.Rows L2
open AutoSeq1
open MeetsSeq MeetsSeq2 MeetsSeq3 SeqRoads2
theorem meets_extT (l : Addr) (xs : Array Value) (n : Nat) (b : Addr) (ys : Array Value) (n2 : Nat) (dd : Option Addr) (sl : Array (Option Value)) (h0 : ¬(!xs.isEmpty && Builtin.List.listTooLong (xs.size + ys.size)) = true) (h1 : xs.size ≤ sizeLine) (h2 : (xs ++ ys).size ≤ sizeLine + 1) :
    Meets (Builtin.«list.extend» ⟨[.ref l, .ref b], []⟩) (fun _ R s => s.heap.get? l = some { cls := .type "list", dict := none, data := .seq xs n, slots := #[] } ∧ s.heap.get? b = some { cls := .type "tuple", dict := dd, data := .seq ys n2, slots := sl } ∧ R (.ok (.ret Value.none)) { s with heap := s.heap.update l (Obj.mapSeq fun x => x ++ ys), toks := s.toks }) :=
  .of_wp fun prog w A R s h => by
    obtain ⟨hp, g, d, tk, os⟩ := s
    obtain ⟨hl, hb, q⟩ := h
    have g1 := idx_int
    have g2 := AutoSeq1.sub_tuple_tuple
    have g3 := AutoSeq1.sub_list_list
    have g4 := AutoSeq1.sub_tuple_list
    have g5 := AutoSeq1.sub_list_tuple
    wp_walk using (wpAny_updateSeq hl rfl (hz := h1) (_hz' := h2)), wpAny_loadPart' hl, wpAny_loadPart' hb
    exact ⟨_, rfl, q⟩
theorem meets_extL (l : Addr) (xs : Array Value) (n : Nat) (b : Addr) (ys : Array Value) (n2 : Nat) (sl : Array (Option Value)) (h0 : ¬(!xs.isEmpty && Builtin.List.listTooLong (xs.size + ys.size)) = true) (h1 : xs.size ≤ sizeLine) (h2 : (xs ++ ys).size ≤ sizeLine + 1) :
    Meets (Builtin.«list.extend» ⟨[.ref l, .ref b], []⟩) (fun _ R s => s.heap.get? l = some { cls := .type "list", dict := none, data := .seq xs n, slots := #[] } ∧ s.heap.get? b = some { cls := .type "list", dict := none, data := .seq ys n2, slots := sl } ∧ R (.ok (.ret Value.none)) { s with heap := s.heap.update l (Obj.mapSeq fun x => x ++ ys), toks := s.toks }) :=
  .of_wp fun prog w A R s h => by
    obtain ⟨hp, g, d, tk, os⟩ := s
    obtain ⟨hl, hb, q⟩ := h
    have g1 := idx_int
    have g2 := AutoSeq1.sub_tuple_tuple
    have g3 := AutoSeq1.sub_list_list
    have g4 := AutoSeq1.sub_tuple_list
    have g5 := AutoSeq1.sub_list_tuple
    wp_walk using (wpAny_updateSeq hl rfl (hz := h1) (_hz' := h2)), wpAny_loadPart' hl, wpAny_loadPart' hb
    exact ⟨_, rfl, q⟩
/-- l.extend(b) -/
def rExtA (K : PySem.W.Frag) : V → List V → Hp → VK → Prop := fun x vs H Q => ∃ l b xs zs, x = .ref l ∧ vs = [.ref b] ∧ H l = some (.lst xs) ∧ (SqT K H b zs ∨ SqL K H b zs) ∧ xs.length + zs.length ≤ sizeLine ∧ Q .non (upd H l (.lst (xs ++ zs)))
section
variable {X : Cx}
theorem mt_extendA : MtM X "list.extend" (rExtA X.K) := by
  intro pins s σ H x vs v us Q I rx rv h
  obtain ⟨l, b, xs, zs, rfl, rfl, hH, hB, hz, q⟩ := h
  cases rx
  obtain ⟨u, rfl, ru⟩ := rv.one
  cases ru
  obtain ⟨z, its, n, r, hl, e⟩ := I.lstM hH
  have fin : ∀ its2 : List Value, Vals zs its2 → zs.length = its2.length → ¬ (!its.toArray.isEmpty && Builtin.List.listTooLong (its.toArray.size + its2.toArray.size)) = true ∧ its.toArray.size ≤ sizeLine ∧ (its.toArray ++ its2.toArray).size ≤ sizeLine + 1 ∧
      EP X pins σ Q Value.none { s with heap := s.heap.update l (Obj.mapSeq fun x => x ++ its2.toArray), toks := s.toks } := fun its2 r2 h2 => by
    have hsz : its.toArray.size + its2.toArray.size ≤ sizeLine := by rw [List.size_toArray, List.size_toArray]; omega
    refine ⟨by rw [notLongL hsz, Bool.and_false]; exact Bool.false_ne_true, by rw [List.size_toArray]; omega, by rw [Array.size_append]; omega, .non, _, I.lset (its' := its ++ its2) hH e (by simp) (r.append r2) ?_, rfl, q⟩
    rw [List.length_append]
    omega
  rcases hB with hB | hB
  · obtain ⟨its2, r2, ⟨⟨cls, dd, data, sl⟩, e2, hc, n2, hd⟩, _⟩ := I.tuple hB
    simp only at hc hd
    subst hc hd
    obtain ⟨f0, f1, f2, f3⟩ := fin its2 r2 r2.length
    exact call_meets F.slot_list_extend ⟨_, e, rfl⟩ F.entry_list_extend (F.args_list_extend_2 _ _) (meets_extT l its.toArray n b its2.toArray n2 dd sl f0 f1 f2) ⟨e, e2, f3⟩
  · obtain ⟨its2, r2, ⟨⟨cls, dd, data, sl⟩, n2, e2, hc, hdn, hd⟩, _⟩ := I.list hB
    simp only at hc hd hdn
    subst hc hd hdn
    obtain ⟨f0, f1, f2, f3⟩ := fin its2 r2 r2.length
    exact call_meets F.slot_list_extend ⟨_, e, rfl⟩ F.entry_list_extend (F.args_list_extend_2 _ _) (meets_extL l its.toArray n b its2.toArray n2 sl f0 f1 f2) ⟨e, e2, f3⟩
end
end Hx
namespace Dv
open PySem PySem.Spec L2 PyProof.Rows Hx
def rdExt : RDM := fun o vs S Q => ∃ a ds es, o = .obj a ∧ S a = some (.lst ds) ∧ (vs = [.tup es] ∨ vs = [.lst es]) ∧ ds.length + es.length ≤ 16777216 ∧ Q .non (upS S a (.lst (ds ++ es)))
theorem ext_lift {K : PySem.W.Frag} : LiftM K (rExtA K) rdExt := fun H S fr σd σ x dx xs ds Qv Qd ok rx rs h k => by
  obtain ⟨a, d0, es, rfl, e2, hv, hl, q⟩ := h
  obtain ⟨vs, hv2, rl⟩ := rp_obj ok.rel e2
  have go : ∀ (p : Addr) (zs : List V), (SqT K H p zs ∨ SqL K H p zs) → RpL K H S es zs → xs = [.ref p] → rExtA K x xs H Qv := fun p zs hs rz ex => by
    have st : Step H S (upd H a (.lst (vs ++ zs))) (upS S a (.lst (d0 ++ es))) := step_set e2
    refine ⟨a, p, vs, zs, rx, ex, hv2, hs, ?_, k _ .non _ _ (ok.step st (rel_set ok.rel e2 ⟨_, upd_same, rpL_step ok.rel st _ _ (rpL_app rl rz)⟩)) rfl q⟩
    rw [← rpL_len rl, ← rpL_len rz, sl_eq]
    exact hl
  rcases hv with rfl | rfl
  · obtain ⟨v, rfl, r1⟩ := rpL1 rs
    obtain ⟨p, zs, rfl, q1, r2⟩ := r1
    exact go p zs (.inl q1) r2 rfl
  · obtain ⟨v, rfl, r1⟩ := rpL1 rs
    obtain ⟨p, zs, rfl, q1, r2⟩ := rp_list ok.rel r1
    exact go p zs (.inr q1) r2 rfl
section
variable {X : Cx} {W : Wi} {e : Expr}
theorem de_ext {o : Expr} {to : TED} {es : List Expr} {t : TAD} {apos cpos : Pos} (ho : DE X W o to) (ha : DA X W (e :: es) t) (hbase : attributeBase o "extend" X.env (eval o X.env) = eval o X.env := by rfl)
    (hfew : ((backTo cpos (starEach (e :: es) X.env)).all (fun x => !x.1) && (backToKw cpos (keywordEach [] X.env)).all (fun x => x.1.isSome)
      && decide ((e :: es).length + ([] : List Keyword).length + (if ([] : List Keyword).isEmpty then 0 else 1) < 30)) = true := by rfl)
    (hline : (apos.endLine == cpos.line) = true := by rfl) (hs : starEach (e :: es) X.env = (false, eval e X.env) :: starEach es X.env := by rfl) (hplain : (backTo cpos (starEach es X.env)).any (·.1) = false := by rfl) :
    DE X W (.Call (.Attribute o "extend" apos) (e :: es) [] cpos) (dBM "list" rdExt to t) :=
  de_bm PySem.F.plainAttrs_list PySem.F.slot_list_extend PySem.F.type_list_extend mt_extendA ext_lift ho ha hbase hfew hline hs hplain
end
end Dv
/-! the truth of an instance by its class's own __len__ -/
namespace Hx
open PySem PySem.Spec PyProof.Rows L2
section
variable {X : Cx} {CX : CXT} {k : Nat} {C f : Addr} {fd : FuncData} {y : Str} {sp : Sp} {a : Expr} {ta : TE}
theorem pt_truL (hm : Meth X.K C "__len__" f) (hnb : PySem.W.findIn X.K (.ref C) "__bool__" = some none) (F : FnG X.prog X.w X.K X.mg X.base CX k f fd [y] sp) (hr : RoomG (k + 1) X.A) (hb : Binds X.K fd [y] []) (hx : ∀ σ, PassesAt CX X σ fun _ _ _ => False)
    (ha : PE X a ta) (he : ∀ whole, isTrue a X.env whole = (do let v ← whole; standAt a.pos; holding [v] (truthy v))) :
    PT X a (fun σ H Q => ta σ H fun x H' => ∃ p dx fs, x = .ref p ∧ H' p = some (.ins C dx fs) ∧ sp [.ref p] H' (fun v H2 => ∃ n : Int, v = .int n ∧ 0 ≤ n ∧ n < 2 ^ 63 ∧ Q (n != 0) H2) fun _ _ _ => False) := by
  refine ⟨fun pins s σ H Q I h => isTrue_plain (thn (ha.run pins s σ H _ I h) fun v s1 ⟨x, H1, I1, r1, p, dx, fs, ex, ep, q⟩ => ?_) (he _)⟩
  subst ex
  cases r1
  obtain ⟨mA, O, _⟩ := ins_get I1.hok ep
  obtain ⟨od, J, _⟩ := O.look
  refine truthy_lenK I1.kIn J hnb hm.at_ (beq_iff_eq.mp hm.fn) ?_
  have bind := hb s1 [.ref p] I1.kIn rfl
  refine wpAny_call (codeAny_mono (F.run X.A.in1 X.stack s1 H1 _ _ _ _ (fun _ _ _ => False) hr.in1 I1.env0.in1 bind (show Vals [V.ref p] [Value.ref p] from .cons rfl .nil) q) fun out s' got => ?_)
  match out, got with
  | .error e, got => exact hx σ pins H1 s1 e s' I1 got
  | .ok (.ret u), got =>
    obtain ⟨v, H', J', rv, n, ev, n0, n1, q⟩ := I1.after got
    subst ev
    obtain ⟨t, rfl⟩ := rv
    exact ⟨n, t, rfl, n0, n1, H', J'.tok _, q⟩
end
end Hx
namespace Dv
open PySem PySem.Spec L2 PyProof.Rows Hx
def truLQ (n : Str) (sp : SpD) (S : Sd) (Q : Bool → Sd → Prop) : D → Prop
  | .inst m ns ys => m = n ∧ sp [.inst m ns ys] S (fun v S' => ∃ k : Int, v = .int k ∧ 0 ≤ k ∧ k < 2 ^ 63 ∧ Q (k != 0) S') fun _ _ => False
  | _ => False
def dTruL (n : Str) (sp : SpD) (to : TED) : TTD := fun σ S Q => to σ S fun o S1 => truLQ n sp S1 Q o
theorem dt_truL {X : Cx} {W : Wi} {a : Expr} {k : Nat} {n y : Str} {C f fI : Addr} {fd : FuncData} {sp : SpD} {to : TED} (Cf : ClF X.K n C fI) (hm : Meth X.K C "__len__" f) (hnb : NoAttr X.K C "__bool__") (F : FnG X.prog X.w X.K X.mg X.base (L2N.CX X.prog X.w) k f fd [y] (upF X.K sp)) (hr : RoomG (k + 1) X.A) (hb : Binds X.K fd [y] [])
    (hx : ∀ σ, PassesAt (L2N.CX X.prog X.w) X σ fun _ _ _ => False) (ho : DE X W a to) (he : ∀ whole, isTrue a X.env whole = (do let v ← whole; standAt a.pos; holding [v] (truthy v)) := by intro _; rfl) : DT X W a (dTruL n sp to) :=
  ⟨PT.imp (pt_truL hm hnb F hr hb hx ho.p he) fun σ H Q ⟨σd, S, fr, Qd, ok, cl, h, k⟩ => ⟨σd, S, fr, _, ok, cl, h, fun x dx H1 S1 ok1 r1 q1 => by
    cases dx with
    | inst m ns ys =>
      obtain ⟨rfl, q⟩ := (show m = n ∧ sp [.inst m ns ys] S1 (fun v S' => ∃ k : Int, v = .int k ∧ 0 ≤ k ∧ k < 2 ^ 63 ∧ Qd (k != 0) S') (fun _ _ => False) from q1)
      have r0 := r1
      obtain ⟨C', p, d', fs, c', rfl, hp, sa, en, r⟩ := r1
      obtain rfl := c'.one Cf.at_
      refine ⟨p, d', fs, rfl, hp, [.inst m ns ys], S1, fr ++ prs σd σ, _, _, ok1.rel, ok1.out, rpL_cons r0 rpL_nil, q, fun v d H2 S2 R2 f2 r2 q2 => ?_, fun cls od y H2 S2 R2 f2 ry q2 => q2⟩
      obtain ⟨j, rfl, j0, j1, q⟩ := q2
      have e : v = .int j := r2
      exact ⟨j, e, j0, j1, k (j != 0) H2 S2 (ok1.back R2 f2) q⟩
    | _ => exact (show False from q1).elim⟩⟩
end Dv
/-! a part of a list, kept for storing -/
namespace Dv
open PySem PySem.Spec L2 PyProof.Rows Hx
def rdSlO : D → Option Int → Option Int → Sd → DK → Prop
  | .lst ds, lo, hi, S, Q => ∀ p, S p = none → Q (.obj p) (upS S p (.lst (cutD ds lo hi)))
  | .obj a, lo, hi, S, Q => match S a with
    | some (.lst ds) => ∀ p, S p = none → Q (.obj p) (upS S p (.lst (cutD ds lo hi)))
    | _ => False
  | _, _, _, _, _ => False
def dSlO (te : TED) (tl th : TOD) : TED := fun σ S Q => te σ S fun x S1 => tl σ S1 fun l S2 => th σ S2 fun u S3 => rdSlO x l u S3 Q
section
variable {X : Cx} {W : Wi} {e : Expr} {te : TED} {pos p2 : Pos}
theorem de_sliceO {lo hi : Option Expr} {tl th : TOD} (he : DE X W e te) (hl : DO X W lo tl) (hu : DO X W hi th) : DE X W (.Subscript e (.Slice lo hi none p2) pos) (dSlO te tl th) :=
  ⟨PE.imp (pe_slice sl_list he.p hl.p hu.p) fun σ H Q ⟨σd, S, fr, Qd, ok, cl, h, k⟩ => ⟨σd, S, fr, _, ok, cl, h, fun x dx H1 S1 ok1 r1 h1 =>
    ⟨σd, S1, (x, dx) :: fr, _, ok1.cons r1, cl.tail, h1, fun l H2 S2 ok2 h2 => ⟨σd, S2, (x, dx) :: fr, _, ok2, cl.tail, h2, fun u H3 S3 ok3 h3 => by
      have rx := ok3.head
      have ok4 := ok3.tail
      cases dx with
      | lst ds =>
        obtain ⟨p, vs, e1, q1, r1⟩ := rp_list ok4.rel rx
        exact ⟨p, vs, e1, q1, fun p hp => k (.ref p) (.obj p) _ (upS S3 p (.lst (cutD ds l u))) (ok4.own hp (cut_rp r1)) rfl (h3 p (ok4.rel.free hp))⟩
      | obj p =>
        have h' : (match S3 p with | some (.lst ds) => ∀ p, S3 p = none → Qd (.obj p) (upS S3 p (.lst (cutD ds l u))) | _ => False) := h3
        split at h'
        · rename_i ds q0
          obtain ⟨vs, q1, r1⟩ := rp_obj ok4.rel q0
          exact ⟨p, vs, rx, SqL.of q1, fun p hp => k (.ref p) (.obj p) _ (upS S3 p (.lst (cutD ds l u))) (ok4.own hp (cut_rp r1)) rfl (h' p (ok4.rel.free hp))⟩
        · exact h'.elim
      | _ => exact (show False from h3).elim⟩⟩⟩⟩
end
end Dv

/-! Readings by value, z: urns, draws, small data, words. -/
namespace Dv
open PySem L2 PyProof.Rows
theorem mulOk {a b : Int} (m n : Nat) (ha : a.natAbs < 2 ^ m) (hb : b.natAbs < 2 ^ n) (h0 : 0 < m) (h1 : 0 < n) (h : m + n ≤ 1000000) : a.natAbs.log2 + b.natAbs.log2 < 1000000 := by
  have x := log2_lt ha h0
  have y := log2_lt hb h1
  omega
theorem powOk {a : Int} (m : Nat) (j : Int) (ha : a.natAbs < 2 ^ m) (h0 : 0 < m) (hj : 0 ≤ j) (h : (m : Int) * j ≤ 134217728) : 0 ≤ j ∧ ((a.natAbs.log2 : Int) + 1) * j ≤ 134217728 := by
  have x := log2_lt ha h0
  refine ⟨hj, Int.le_trans (Int.mul_le_mul_of_nonneg_right ?_ hj) h⟩
  omega
theorem fmod_in {a b : Int} (h : 0 < b) : 0 ≤ a.fmod b ∧ a.fmod b < b := by
  rw [Int.fmod_eq_emod_of_nonneg a (Int.le_of_lt h)]
  exact ⟨Int.emod_nonneg a (by omega), Int.emod_lt_of_pos a h⟩
theorem abs_lt_of {a : Int} {n : Nat} (h0 : 0 ≤ a) (h1 : a < 2 ^ n) : a.natAbs < 2 ^ n := by
  have e : ((2 ^ n : Nat) : Int) = 2 ^ n := by simp
  omega
def primes : List D := [.int 2147483647, .int 2147483629, .int 2147483587, .int 2147483579, .int 2147483563, .int 2147483549, .int 2147483543]
theorem primes_at {k : Int} (h0 : 0 ≤ k) (h1 : k < 7) : ∃ p, atI primes k = some (.int p) ∧ 2147483543 ≤ p ∧ p < 2147483648 := by
  have c : k = 0 ∨ k = 1 ∨ k = 2 ∨ k = 3 ∨ k = 4 ∨ k = 5 ∨ k = 6 := by omega
  rcases c with rfl | rfl | rfl | rfl | rfl | rfl | rfl
  · exact ⟨2147483647, atI_nat (j := 0) rfl, by decide, by decide⟩
  · exact ⟨2147483629, atI_nat (j := 1) rfl, by decide, by decide⟩
  · exact ⟨2147483587, atI_nat (j := 2) rfl, by decide, by decide⟩
  · exact ⟨2147483579, atI_nat (j := 3) rfl, by decide, by decide⟩
  · exact ⟨2147483563, atI_nat (j := 4) rfl, by decide, by decide⟩
  · exact ⟨2147483549, atI_nat (j := 5) rfl, by decide, by decide⟩
  · exact ⟨2147483543, atI_nat (j := 6) rfl, by decide, by decide⟩
theorem ixN_0 {n : Nat} (h : 0 < n) : ixN n 0 = some 0 := ixN_nat h
theorem ixN_2 {n : Nat} (h : 2 < n) : ixN n 2 = some 2 := ixN_nat h
/-! ### small data -/
def isWh : D → Bool
  | .int _ => true
  | _ => false
theorem isWh_int {d : D} (h : isWh d = true) : ∃ i, d = .int i := by
  cases d <;> first | exact ⟨_, rfl⟩ | exact absurd (show false = true from h) Bool.false_ne_true
mutual
/-- ints below 2 ^ n, texts of at most 100000 signs -/
def sm (n : Nat) : D → Bool
  | .int i => decide (i.natAbs < 2 ^ n)
  | .str z => decide (z.length ≤ 100000)
  | .non => true | .bl _ => true
  | .tup ds => smL n ds
  | .lst ds => smL n ds
  | _ => false
def smL (n : Nat) : List D → Bool
  | [] => true
  | d :: ds => sm n d && smL n ds
end
theorem smL_iff {n : Nat} : ∀ {ds : List D}, smL n ds = true ↔ ∀ d ∈ ds, sm n d = true
  | [] => by simp [smL]
  | d :: ds => by
    have ih := smL_iff (n := n) (ds := ds)
    simp only [smL, Bool.and_eq_true, List.mem_cons, ih]
    constructor
    · rintro ⟨h1, h2⟩ x (rfl | hx)
      · exact h1
      · exact h2 x hx
    · intro h
      exact ⟨h d (.inl rfl), fun x hx => h x (.inr hx)⟩
mutual
theorem sm_data {n : Nat} : ∀ {d : D}, sm n d = true → isData d = true
  | .int _, _ => rfl
  | .non, _ => rfl
  | .bl _, _ => rfl
  | .str _, _ => rfl
  | .tup ds, h => smL_data (ds := ds) h
  | .lst ds, h => smL_data (ds := ds) h
  | .tupX _, h => absurd (show false = true from h) Bool.false_ne_true
  | .inst _ _ _, h => absurd (show false = true from h) Bool.false_ne_true
  | .obj _, h => absurd (show false = true from h) Bool.false_ne_true
  | .ty _, h => absurd (show false = true from h) Bool.false_ne_true
theorem smL_data {n : Nat} : ∀ {ds : List D}, smL n ds = true → isDataL ds = true
  | [], _ => rfl
  | d :: ds, h => by
    have h' := Bool.and_eq_true_iff.mp (show (sm n d && smL n ds) = true from h)
    show (isData d && isDataL ds) = true
    rw [sm_data h'.1, smL_data h'.2]
    rfl
end
theorem sm_int {n : Nat} {i : Int} : sm n (.int i) = true ↔ i.natAbs < 2 ^ n := by simp [sm]
theorem sm_str {n : Nat} {z : Str} : sm n (.str z) = true ↔ z.length ≤ 100000 := by simp [sm]
theorem smT {n : Nat} {ds : List D} : sm n (.tup ds) = true ↔ ∀ d ∈ ds, sm n d = true := smL_iff
/-! ### urns -/
def Urn (S : Sd) (u : Addr) (B : Int) : Prop := ∃ g c n, S u = some (.lst [.int g, .int c, .int n]) ∧ 0 ≤ g ∧ 0 ≤ c ∧ c < 2 ^ 70 ∧ 0 ≤ n ∧ n ≤ B
def Oth (S S' : Sd) (u : Addr) : Prop := ∀ a, a ≠ u → S' a = S a
theorem Oth.trans {S S1 S2 : Sd} {u : Addr} (h : Oth S S1 u) (k : Oth S1 S2 u) : Oth S S2 u := fun a ha => (k a ha).trans (h a ha)
theorem Oth.refl {S : Sd} {u : Addr} : Oth S S u := fun _ _ => rfl
theorem Urn.mono {S : Sd} {u : Addr} {B B' : Int} (h : Urn S u B) (hb : B ≤ B') : Urn S u B' := by
  obtain ⟨g, c, n, e, g0, c0, c1, n0, n1⟩ := h
  exact ⟨g, c, n, e, g0, c0, c1, n0, Int.le_trans n1 hb⟩
theorem Urn.oth {S S' : Sd} {p u : Addr} {B : Int} (h : Urn S u B) (ho : ∀ a, a ≠ p → S' a = S a) (hne : u ≠ p) : Urn S' u B := by
  obtain ⟨g, c, n, e, k⟩ := h
  exact ⟨g, c, n, (ho u hne).trans e, k⟩
theorem Urn.ne {S : Sd} {p u : Addr} {B : Int} (h : Urn S u B) (hp : S p = none) : u ≠ p := fun e => by
  obtain ⟨g, c, n, e2, _⟩ := h
  rw [e, hp] at e2
  cases e2
theorem Urn.up {S : Sd} {p u : Addr} {B : Int} {o : SO} (h : Urn S u B) (hne : u ≠ p) : Urn (upS S p o) u B := h.oth (fun a ha => upS_ne ha) hne
theorem Urn.del {S : Sd} {p u : Addr} {B : Int} (h : Urn S u B) (hne : u ≠ p) : Urn (del S p) u B := h.oth (fun a ha => del_ne ha) hne
theorem Oth.del {S S' : Sd} {p u : Addr} (h : ∀ a, a ≠ u → a ≠ p → S' a = S a) (hp : S p = none) : Oth S (del S' p) u := fun a ha => by
  by_cases e : a = p
  · rw [e, del_same, hp]
  · rw [del_ne e, h a ha e]
/-! ### parts -/
theorem cutD_len {xs : List D} {lo hi : Option Int} : (cutD xs lo hi).length ≤ xs.length := by
  unfold cutD
  rw [List.length_take, List.length_drop]
  omega
theorem app_toList (x y : Str) : (x ++ y).cps.toList = x.cps.toList ++ y.cps.toList := by
  show (x.cps ++ y.cps).toList = _
  simp
theorem app_len2 (x y : Str) : (x ++ y).length = x.length + y.length := by
  show (x.cps ++ y.cps).size = x.cps.size + y.cps.size
  simp
theorem sIx_lo {n : Nat} {i : Int} (h0 : 0 ≤ i) (h1 : i ≤ n) (b : Nat) : HT.sIx n b (some i) = i.toNat := by
  obtain ⟨k, rfl⟩ := Int.eq_ofNat_of_zero_le h0
  rw [HT.sIx_nat]
  show min k n = k
  omega
/-! ### words: a is 97, b is 98 -/
def isAB (l : List Nat) : Bool := l.all fun c => decide (c = 97 ∨ c = 98)
/-! ### of the functions that many laws share -/
def isWordD : D → Bool
  | .str z => decide (1 ≤ z.length ∧ z.length ≤ 60) && isAB z.cps.toList
  | _ => false
/-- a text's signs, held against a and b -/
def abD : D → D
  | .str z => .bl (isAB z.cps.toList)
  | _ => .non
theorem ab_cps : (Str.ofString "ab").cps.toList = [97, 98] := by decide +kernel
theorem abD_comp {i : Nat} {te : TED} {vs : List Nat} {σ : Si} {S : Sd} {Q : DK} {z : Str} (hte : ∀ c S' (Q' : DK), Q' (.bl (decide (c ∈ [97, 98]))) S' → te ((wipeD σ vs).set i (some (.str ⟨#[c]⟩))) S' Q') (hl : z.length ≤ 100000)
    (ti : TID) (hti : ∀ R : List D → Sd → Prop, R (sgD z) S → ti σ S R) (q : Q (.bl (isAB z.cps.toList)) S) : dComp ti (dName i) dYes te vs σ S fun x S1 => rdAll [x] S1 Q := by
  refine comp_pure abD (sgD z) S hti (fun x hx S' Q' q' => ?_) (by unfold sgD; rw [List.length_map]; show z.cps.toList.length ≤ _; rw [← x_len_strL]; omega) ?_
  · obtain ⟨c, _, rfl⟩ := List.mem_map.mp hx
    refine hte c S' Q' ?_
    have e : abD (.str ⟨#[c]⟩) = .bl (decide (c ∈ [97, 98])) := by
      show D.bl (isAB [c]) = _
      simp [isAB]
    rw [← e]; exact q'
  · refine x_allb (bs := z.cps.toList.map fun c => isAB [c]) ?_ ?_
    · unfold sgD
      rw [List.map_map, List.map_map]
      rfl
    · have e : (z.cps.toList.map fun c => isAB [c]).all id = isAB z.cps.toList := by
        rw [List.all_map]
        unfold isAB
        congr 1
        funext c
        simp
      rw [e]; exact q
theorem at_nat {ns : List Nat} {k : Int} (h0 : 0 ≤ k) (h1 : k < ns.length) : ∃ n : Nat, atI (ns.map fun (n : Nat) => D.int n) k = some (.int (n : Int)) ∧ n ∈ ns := by
  obtain ⟨d, ed, hd⟩ := atI_some (ds := ns.map fun (n : Nat) => D.int n) h0 (by simpa using h1)
  obtain ⟨n, hn, rfl⟩ := List.mem_map.mp hd
  exact ⟨n, ed, hn⟩
/-! ### tables -/
structure M2 where
  p : Int
  q : Int
  r : Int
  s : Int
  deriving DecidableEq
/-- sizes -/
def SzM (m : M2) (n : Nat) : Prop := m.p.natAbs < 2 ^ n ∧ m.q.natAbs < 2 ^ n ∧ m.r.natAbs < 2 ^ n ∧ m.s.natAbs < 2 ^ n
theorem SzM.mono {m : M2} {n k : Nat} (h : SzM m n) (hk : n ≤ k) : SzM m k := by
  have := Nat.pow_le_pow_right (n := 2) (by decide) hk
  exact ⟨Nat.lt_of_lt_of_le h.1 this, Nat.lt_of_lt_of_le h.2.1 this, Nat.lt_of_lt_of_le h.2.2.1 this, Nat.lt_of_lt_of_le h.2.2.2 this⟩
/-! ### == of data with itself -/
mutual
theorem deq_refl : ∀ {d : D}, isData d = true → deq d d = true
  | .int i, _ => beq_self_eq_true i
  | .non, _ => rfl
  | .bl b, _ => beq_self_eq_true b
  | .str z, _ => beq_self_eq_true z
  | .tup ds, h => deqL_refl (ds := ds) h
  | .lst ds, h => deqL_refl (ds := ds) h
  | .tupX _, h => absurd (show false = true from h) Bool.false_ne_true
  | .inst _ _ _, h => absurd (show false = true from h) Bool.false_ne_true
  | .obj _, h => absurd (show false = true from h) Bool.false_ne_true
  | .ty _, h => absurd (show false = true from h) Bool.false_ne_true
  | .exc _ _ _ _, h => absurd (show false = true from h) Bool.false_ne_true
theorem deqL_refl : ∀ {ds : List D}, isDataL ds = true → deqL ds ds = true
  | [], _ => rfl
  | d :: ds, h => by
    have h' := Bool.and_eq_true_iff.mp (show (isData d && isDataL ds) = true from h)
    show (deq d d && deqL ds ds) = true
    rw [deq_refl h'.1, deqL_refl h'.2]
    rfl
end
theorem eqOk_data {d : D} (h : eqOk d = true) : isData d = true := (Bool.and_eq_true_iff.mp h).1
theorem x_ne_self {d : D} {S : Sd} {Q : DK} (h : eqOk d = true) (q : Q (.bl false) S) : rdNe d d S Q := by
  have e := deq_refl (eqOk_data h)
  cases d with
  | int i => exact (show Q (.bl (!decide (i = i))) S from by rw [decide_eq_true rfl]; exact q)
  | str i => exact (show Q (.bl (!decide (i = i))) S from by rw [decide_eq_true rfl]; exact q)
  | bl i => exact (show Q (.bl (!decide (i = i))) S from by rw [decide_eq_true rfl]; exact q)
  | _ => exact ⟨⟨h, h⟩, by rw [e]; exact q⟩
/-- may be held against others, so many deep -/
def okD_ (k : Nat) (d : D) : Bool := isData d && ((pd d).canLay0 && decide ((pd d).depth ≤ k))
theorem okD_eqOk {k : Nat} {d : D} (h : okD_ k d = true) (hk : k ≤ 64) : eqOk d = true := by
  have h1 := Bool.and_eq_true_iff.mp h
  have h2 := Bool.and_eq_true_iff.mp h1.2
  have h3 := of_decide_eq_true h2.2
  show (isData d && ((pd d).canLay0 && decide ((pd d).depth ≤ 64))) = true
  rw [h1.1, h2.1, decide_eq_true (Nat.le_trans h3 hk)]
  rfl
theorem okD_list {k : Nat} : ∀ {ds : List D}, (∀ d ∈ ds, okD_ k d = true) → isDataL ds = true ∧ PyData.canLayAll0 (pdL ds) = true ∧ PyData.depthAll (pdL ds) ≤ k
  | [], _ => ⟨rfl, rfl, Nat.zero_le _⟩
  | d :: ds, h => by
    obtain ⟨i1, i2, i3⟩ := okD_list (ds := ds) fun x hx => h x (List.mem_cons_of_mem _ hx)
    have h1 := Bool.and_eq_true_iff.mp (h d (.head _))
    have h2 := Bool.and_eq_true_iff.mp h1.2
    have h3 := of_decide_eq_true h2.2
    refine ⟨?_, ?_, ?_⟩
    · show (isData d && isDataL ds) = true
      rw [h1.1, i1]; rfl
    · show ((pd d).canLay0 && PyData.canLayAll0 (pdL ds)) = true
      rw [h2.1, i2]; rfl
    · show max (pd d).depth (PyData.depthAll (pdL ds)) ≤ k
      omega
theorem okD_tup {k : Nat} {ds : List D} (h : ∀ d ∈ ds, okD_ k d = true) : okD_ (k + 1) (.tup ds) = true := by
  obtain ⟨h1, h2, h3⟩ := okD_list h
  show (isDataL ds && (PyData.canLayAll0 (pdL ds) && decide (PyData.depthAll (pdL ds) + 1 ≤ k + 1))) = true
  rw [h1, h2, decide_eq_true (by omega)]
  rfl
theorem okD_int {k : Nat} {i : Int} : okD_ k (.int i) = true := by
  show (true && (true && decide (0 ≤ k))) = true
  rw [decide_eq_true (Nat.zero_le _)]; rfl
theorem okD_ints (ns : List Int) : okD_ 1 (.tup (ns.map D.int)) = true := okD_tup fun d hd => by
  obtain ⟨n, _, rfl⟩ := List.mem_map.mp hd
  exact okD_int
theorem okD_intsL (ns : List Int) : okD_ 1 (.lst (ns.map D.int)) = true := okD_ints ns
end Dv

namespace K06
open PySem L2 Dv Hx
abbrev wd (Ed : XKD) : WXD := fun x _ S => Ed x S
abbrev wd0 : WXD := fun _ _ _ => False
abbrev k_LEAST_SQUARE : D := .int 2
abbrev k_PARTS : D := .tup [.str "top", .str "often", .str "square", .str "bottom"]
def k_LOOKS (z : Str) : Option D := if z = "top" then some (.fn "is_whole") else if z = "often" then some (.fn "is_whole") else if z = "square" then some (.fn "is_under_root") else if z = "bottom" then some (.fn "is_bottom") else none
theorem look_top : k_LOOKS "top" = some (.fn "is_whole") := by unfold k_LOOKS; rw [if_pos rfl]
theorem look_often : k_LOOKS "often" = some (.fn "is_whole") := by unfold k_LOOKS; rw [if_neg (by decide +kernel), if_pos rfl]
theorem look_square : k_LOOKS "square" = some (.fn "is_under_root") := by unfold k_LOOKS; rw [if_neg (by decide +kernel), if_neg (by decide +kernel), if_pos rfl]
theorem look_bottom : k_LOOKS "bottom" = some (.fn "is_bottom") := by unfold k_LOOKS; rw [if_neg (by decide +kernel), if_neg (by decide +kernel), if_neg (by decide +kernel), if_pos rfl]
/-! ### squares -/
open Classical in
noncomputable def isSqB (n : Int) : Bool := decide (∃ y : Int, 0 ≤ y ∧ y * y = n)
theorem isSqB_true {n y : Int} (y0 : 0 ≤ y) (h : y * y = n) : isSqB n = true := by
  unfold isSqB
  simp only [decide_eq_true_eq]
  exact ⟨y, y0, h⟩
theorem isSqB_false {n : Int} (h : ∀ y : Int, 0 ≤ y → y * y ≠ n) : isSqB n = false := by
  unfold isSqB
  simp only [decide_eq_false_iff_not]
  exact fun ⟨y, y0, e⟩ => h y y0 e
theorem sq_between {n r : Int} (r0 : 0 ≤ r) (h1 : r * r < n) (h2 : n < (r + 1) * (r + 1)) (y : Int) (y0 : 0 ≤ y) : y * y ≠ n := fun e => by
  rcases Int.lt_or_le r y with c | c
  · have : (r + 1) * (r + 1) ≤ y * y := Int.mul_le_mul c c (by omega) (by omega)
    omega
  · have : y * y ≤ r * r := Int.mul_le_mul c c y0 r0
    omega
theorem root_ex : ∀ x : Nat, ∃ r : Nat, r * r ≤ x ∧ x < (r + 1) * (r + 1)
  | 0 => ⟨0, by decide, by decide⟩
  | x + 1 => by
    obtain ⟨r, h1, h2⟩ := root_ex x
    by_cases c : x + 1 < (r + 1) * (r + 1)
    · exact ⟨r, by omega, c⟩
    · exact ⟨r + 1, by omega, by
        have e : (r + 1 + 1) * (r + 1 + 1) = (r + 1) * (r + 1) + 2 * (r + 1) + 1 := by grind
        omega⟩
/-- Heron's step never falls below the root -/
theorem heron_le {x s r : Int} (s1 : 1 ≤ s) (r0 : 0 ≤ r) (h : r * r ≤ x) : r ≤ (s + x / s) / 2 := by
  have h1 : x / s * s ≤ x := Int.ediv_mul_le x (by omega)
  have h2 : x < (x / s + 1) * s := Int.lt_ediv_add_one_mul_self x (by omega)
  generalize x / s = q at *
  have h3 : 2 * r ≤ s + q := by
    rcases Int.lt_or_le (s + q) (2 * r) with c | c
    · exfalso
      have e1 : q + 1 ≤ 2 * r - s := by omega
      have e2 : (q + 1) * s ≤ (2 * r - s) * s := Int.mul_le_mul_of_nonneg_right e1 (by omega)
      have e3 : 0 ≤ (r - s) * (r - s) := by
        rcases Int.le_total 0 (r - s) with c | c
        · exact Int.mul_nonneg c c
        · have := Int.mul_nonneg (a := -(r - s)) (b := -(r - s)) (by omega) (by omega)
          grind
      have e4 : (2 * r - s) * s = r * r - (r - s) * (r - s) := by grind
      omega
    · exact c
  omega
theorem heron_stop {x s : Int} (s1 : 1 ≤ s) (h : s ≤ (s + x / s) / 2) : s * s ≤ x := by
  have h1 : x / s * s ≤ x := Int.ediv_mul_le x (by omega)
  generalize x / s = q at *
  have e : s ≤ q := by omega
  have : s * s ≤ q * s := Int.mul_le_mul_of_nonneg_right e (by omega)
  omega
/-! ### parts -/
noncomputable def undB : D → Bool
  | .int n => decide (2 ≤ n) && !isSqB n
  | _ => false
def botB : D → Bool
  | .int n => decide (1 ≤ n)
  | _ => false
noncomputable def badP (t o s b : D) : Option Str := if isWh t = false then some "top" else if isWh o = false then some "often" else if undB s = false then some "square" else if botB b = false then some "bottom" else none
def gR (T O B : Int) : Int := (Int.gcd (Int.gcd T O : Nat) B : Nat)
def lowD (T O q B : Int) : D := .tup [.int (T.fdiv (gR T O B)), .int (O.fdiv (gR T O B)), .int q, .int (B.fdiv (gR T O B))]
/-- four parts of a number, small enough -/
structure RtI (n : Nat) (T O q B : Int) : Prop where
  bT : T.natAbs < 2 ^ n
  bO : O.natAbs < 2 ^ n
  bq : q.natAbs < 2 ^ n
  bB : B.natAbs < 2 ^ n
  q2 : 2 ≤ q
  sq : isSqB q = false
  B1 : 1 ≤ B
theorem RtI.mono {n m : Nat} {T O q B : Int} (h : RtI n T O q B) (k : n ≤ m) : RtI m T O q B := by
  have p : (2 : Nat) ^ n ≤ 2 ^ m := Nat.pow_le_pow_right (by decide) k
  exact ⟨Nat.lt_of_lt_of_le h.bT p, Nat.lt_of_lt_of_le h.bO p, Nat.lt_of_lt_of_le h.bq p, Nat.lt_of_lt_of_le h.bB p, h.q2, h.sq, h.B1⟩
theorem two_no : isSqB 2 = false := isSqB_false (sq_between (r := 1) (by decide) (by decide) (by decide))

abbrev k_LETTERS : D := .str "ab"
abbrev k_MOST_LETTERS : D := .int 60
abbrev k_MOST_NUMBER : D := .int 999999
abbrev k_MOST_RING : D := .int 40
def ringD (L : List Int) : D := .tup (L.map D.int)
structure RowI (L : List Int) : Prop where
  el : ∀ a ∈ L, 1 ≤ a ∧ a ≤ 999999
  l0 : 1 ≤ L.length
  l1 : L.length ≤ 40
structure T4 where
  p : Int
  q : Int
  r : Int
  s : Int
def t4S (t : T4) (a : Int) : T4 := ⟨t.p * a + t.q, t.p, t.r * a + t.s, t.r⟩
def t4L (L : List Int) : T4 := L.foldl t4S ⟨1, 0, 0, 1⟩
structure T4I (t : T4) (n : Nat) : Prop where
  p0 : 0 ≤ t.p
  q0 : 0 ≤ t.q
  r0 : 0 ≤ t.r
  s0 : 0 ≤ t.s
  rs : 1 ≤ t.r + t.s
  p1 : t.p ≤ 2 ^ (20 * n)
  q1 : t.q ≤ 2 ^ (20 * n)
  r1 : t.r ≤ 2 ^ (20 * n)
  s1 : t.s ≤ 2 ^ (20 * n)
theorem t4_up {m x y a : Int} (hx : 0 ≤ x) (x1 : x ≤ m) (y1 : y ≤ m) (ha : 1 ≤ a ∧ a ≤ 999999) : x * a + y ≤ m * 1048576 ∧ x ≤ x * a := by
  have h1 : x * a ≤ x * 999999 := Int.mul_le_mul_of_nonneg_left ha.2 hx
  have h2 : x * 1 ≤ x * a := Int.mul_le_mul_of_nonneg_left ha.1 hx
  omega
theorem T4I.step {t : T4} {n : Nat} (I : T4I t n) {a : Int} (ha : 1 ≤ a ∧ a ≤ 999999) : T4I (t4S t a) (n + 1) := by
  have e : (2 : Int) ^ (20 * (n + 1)) = 2 ^ (20 * n) * 1048576 := by rw [Nat.mul_succ, Int.pow_add]; rfl
  obtain ⟨p0, q0, r0, s0, rs, p1, q1, r1, s1⟩ := I
  have hp := t4_up p0 p1 q1 ha
  have hr := t4_up r0 r1 s1 ha
  generalize (2 : Int) ^ (20 * n) = m at *
  refine ⟨?_, ?_, ?_, ?_, ?_, ?_, ?_, ?_, ?_⟩ <;> (try rw [e]) <;> show _ ≤ _ <;> unfold t4S <;> simp only <;> omega
def upN (t : T4) : Int := (t.p - t.s) * (t.p - t.s) + 4 * t.q * t.r
def inD : D → Bool
  | .int a => decide (1 ≤ a ∧ a ≤ 999999)
  | _ => false
def isRingD : D → Bool
  | .tup xs => decide (1 ≤ xs.length ∧ xs.length ≤ 40) && xs.all inD
  | _ => false
theorem ring_is {L : List Int} (R : RowI L) : isRingD (ringD L) = true := by
  unfold isRingD ringD
  simp only [List.length_map, Bool.and_eq_true, decide_eq_true_eq, List.all_eq_true, List.mem_map]
  exact ⟨⟨R.l0, R.l1⟩, fun d ⟨a, ha, e⟩ => by rw [← e]; exact decide_eq_true (R.el a ha)⟩
theorem cutD_from {xs : List D} {i : Nat} (h : i ≤ xs.length) : cutD xs (some (i : Int)) none = xs.drop i := by
  unfold cutD
  rw [sIx_lo (by omega) (by omega)]
  show (xs.drop i).take (xs.length - i) = _
  rw [← List.length_drop, List.take_length]
theorem cutD_to {xs : List D} {i : Nat} (h : i ≤ xs.length) : cutD xs none (some (i : Int)) = xs.take i := by
  unfold cutD
  rw [sIx_lo (by omega) (by omega)]
  show (xs.drop 0).take (i - 0) = _
  rw [List.drop_zero, Nat.sub_zero]
/-! the tables of rings, turned, told often, turned about -/
abbrev k_MOST_AHEAD : D := .int 20
/-! ### the shortest beginning that makes a row; stairs by the fewest numbers -/
def told (P : List Int) (m : Nat) : List Int := (List.replicate m P).flatten
theorem told_D (L : List Int) (m : Nat) : (List.replicate m (L.map D.int)).flatten = (told L m).map D.int := by
  unfold told
  rw [List.map_flatten, List.map_replicate]
theorem cutD_ring (L : List Int) {s : Nat} (h : s ≤ L.length) : cutD (L.map D.int) none (some (s : Int)) = (L.take s).map D.int := by
  rw [cutD_to (by rw [List.length_map]; exact h), List.map_take]
theorem deqL_ringE : ∀ {ns ms : List Int}, deqL (ns.map D.int) (ms.map D.int) = decide (ns = ms)
  | [], [] => by simp [deqL]
  | [], _ :: _ => by simp [deqL]
  | _ :: _, [] => by simp [deqL]
  | n :: ns, m :: ms => by
    show ((n == m) && deqL (ns.map D.int) (ms.map D.int)) = _
    rw [deqL_ringE, Bool.eq_iff_iff]
    simp
def sizeOk (L : List Int) (s : Nat) : Bool := decide (L.length % s = 0) && decide (told (L.take s) (L.length / s) = L)
/-- what the search from 1 on finds -/
def shS (L : List Int) : List Int := match (List.range (L.length - 1)).find? fun i => sizeOk L (i + 1) with
  | some i => L.take (i + 1)
  | none => L
theorem shS_first {L : List Int} {i : Nat} (h : i < L.length - 1) (hno : ∀ j, j < i → sizeOk L (j + 1) = false) (ho : sizeOk L (i + 1) = true) : shS L = L.take (i + 1) := by
  unfold shS
  have e : (List.range (L.length - 1)).find? (fun i => sizeOk L (i + 1)) = some i := by
    rw [List.find?_eq_some_iff_append]
    refine ⟨ho, List.range i, (List.range (L.length - 1 - (i + 1))).map (fun k => i + 1 + k), ?_, fun a ha => ?_⟩
    · conv => lhs; rw [show L.length - 1 = i + 1 + (L.length - 1 - (i + 1)) by omega, List.range_add, List.range_succ]
      simp
    · rw [hno a (List.mem_range.mp ha)]; rfl
  rw [e]
theorem shS_none {L : List Int} (hno : ∀ j, j < L.length - 1 → sizeOk L (j + 1) = false) : shS L = L := by
  unfold shS
  have e : (List.range (L.length - 1)).find? (fun i => sizeOk L (i + 1)) = none := by
    rw [List.find?_eq_none]
    intro a ha h
    exact absurd (h.symm.trans (hno a (List.mem_range.mp ha))) (by decide)
  rw [e]
theorem told_one (L : List Int) : told L 1 = L := by unfold told; simp
theorem size_self {L : List Int} (h : 1 ≤ L.length) : sizeOk L L.length = true := by
  unfold sizeOk
  rw [Nat.mod_self, Nat.div_self h, List.take_length, told_one]
  simp
/-- the least size -/
theorem shS_char {L : List Int} (h : 1 ≤ L.length) : ∃ s, 1 ≤ s ∧ s ≤ L.length ∧ sizeOk L s = true ∧ (∀ r, 1 ≤ r → r < s → sizeOk L r = false) ∧ shS L = L.take s := by
  by_cases c : ∃ i, i < L.length - 1 ∧ sizeOk L (i + 1) = true
  · obtain ⟨i, h1, h2, h3⟩ : ∃ i, i < L.length - 1 ∧ sizeOk L (i + 1) = true ∧ ∀ j, j < i → sizeOk L (j + 1) = false := by
      obtain ⟨i, h1, h2⟩ := c
      induction i using Nat.strongRecOn with
      | _ i ih =>
        by_cases e : ∃ j, j < i ∧ sizeOk L (j + 1) = true
        · obtain ⟨j, j1, j2⟩ := e
          exact ih j j1 (by omega) j2
        · exact ⟨i, h1, h2, fun j hj => by
            cases z : sizeOk L (j + 1) with
            | true => exact absurd ⟨j, hj, z⟩ e
            | false => rfl⟩
    exact ⟨i + 1, by omega, by omega, h2, fun r r1 r2 => by
      have := h3 (r - 1) (by omega)
      rwa [show r - 1 + 1 = r by omega] at this, shS_first h1 h3 h2⟩
  · have hno : ∀ j, j < L.length - 1 → sizeOk L (j + 1) = false := fun j hj => by
      cases z : sizeOk L (j + 1) with
      | true => exact absurd ⟨j, hj, z⟩ c
      | false => rfl
    refine ⟨L.length, h, Nat.le_refl _, size_self h, fun r r1 r2 => ?_, ?_⟩
    · have := hno (r - 1) (by omega)
      rwa [show r - 1 + 1 = r by omega] at this
    · rw [shS_none hno, List.take_length]
theorem shS_len {L : List Int} (h : 1 ≤ L.length) : 1 ≤ (shS L).length ∧ (shS L).length ≤ L.length := by
  obtain ⟨s, h1, h2, _, _, e⟩ := shS_char h
  rw [e, List.length_take]
  omega
/-- the last number comes to the front -/
def rotB (R : List Int) : List Int := R.drop (R.length - 1) ++ R.take (R.length - 1)
theorem rotB_len (R : List Int) : (rotB R).length = R.length := by unfold rotB; rw [List.length_append, List.length_drop, List.length_take]; omega
def fwR : List Int → List Int → List Int × List Int
  | [], R => ([], R)
  | a :: A, R => if R.getLast? = some a then fwR A (rotB R) else ((a :: A).reverse, R)
/-- ahead and ring by the fewest numbers -/
def fewest (A R : List Int) : List Int × List Int := fwR A.reverse (shS R)
/-- one round of the loop -/
theorem fwR_last {A R : List Int} {x : Int} (h : R.getLast? = some x) : fwR (A ++ [x]).reverse R = fwR A.reverse (rotB R) := by
  rw [List.reverse_append, List.reverse_singleton, List.singleton_append]
  show (if R.getLast? = some x then _ else _) = _
  rw [if_pos h]
theorem fwR_stop {A R : List Int} {x : Int} (h : R.getLast? ≠ some x) : fwR (A ++ [x]).reverse R = (A ++ [x], R) := by
  rw [List.reverse_append, List.reverse_singleton, List.singleton_append]
  show (if R.getLast? = some x then _ else _) = _
  rw [if_neg h, List.reverse_cons, List.reverse_reverse]
theorem last_at {R : List Int} {x : Int} : atI ((R ++ [x]).map D.int) (-1) = some (.int x) := by
  rw [List.map_append, List.map_singleton]
  generalize List.map D.int R = l
  unfold atI ixN
  rw [if_neg (by decide), List.length_append, List.length_singleton, if_pos (by omega)]
  have e : ((-1 : Int) + ((l.length + 1 : Nat) : Int)).toNat = l.length := by omega
  show (l ++ [D.int x])[((-1 : Int) + ((l.length + 1 : Nat) : Int)).toNat]? = _
  rw [e]
  simp
theorem cut_last {A : List Int} {x : Int} : cutD ((A ++ [x]).map D.int) none (some (-1)) = A.map D.int := by
  unfold cutD
  have e1 : HT.sIx ((A ++ [x]).map D.int).length ((A ++ [x]).map D.int).length (some (-1)) = A.length := by
    unfold HT.sIx
    simp
    try omega
  rw [e1, HT.sIx_none]
  simp
theorem cut_from_last {A : List Int} {x : Int} : cutD ((A ++ [x]).map D.int) (some (-1)) none = [.int x] := by
  unfold cutD
  have e1 : HT.sIx ((A ++ [x]).map D.int).length 0 (some (-1)) = A.length := by
    unfold HT.sIx
    simp
    try omega
  rw [e1, HT.sIx_none]
  simp
theorem split_last {R : List Int} (h : 1 ≤ R.length) : ∃ B x, R = B ++ [x] := by
  have hne : R ≠ [] := fun e => by rw [e] at h; exact absurd h (by decide)
  exact ⟨R.dropLast, R.getLast hne, (List.dropLast_concat_getLast hne).symm⟩
theorem rotB_last (B : List Int) (x : Int) : rotB (B ++ [x]) = x :: B := by
  unfold rotB
  rw [List.length_append, List.length_singleton, Nat.add_sub_cancel, List.drop_left, List.take_left]
  rfl

theorem cutD_first (xs : List D) (n : Nat) : cutD xs none (some (n : Int)) = xs.take n := by
  unfold cutD
  rw [HT.sIx_nat]
  show (xs.drop 0).take (min n xs.length - 0) = _
  rw [List.drop_zero, Nat.sub_zero]
  by_cases h : n ≤ xs.length
  · rw [Nat.min_eq_left h]
  · rw [Nat.min_eq_right (by omega), List.take_length, List.take_of_length_le (by omega)]
/-! ### a comprehension whose calls want the store to stand -/
/-- what is walked over is drawn -/
theorem comp_draw {ti : TID} {g : TGD} {tt : TTD} {te : TED} {vs : List Nat} {σ : Si} {S : Sd} {Q : DK} (h : ti σ S fun xs S1 => dComp (fun _ _ R => R xs S1) g tt te vs σ S1 Q) : dComp ti g tt te vs σ S Q := h
/-- any target -/
theorem lcL_pureG {g : TGD} {te : TED} {p : Addr} {σw : Si} {S : Sd} (f : D → D) : ∀ (xs acc : List D) (Q : List D → Sd → Prop), (∀ x ∈ xs, ∀ S' (Q' : DK), Q' (f x) S' → g x σw S' fun σ2 S2 => te σ2 S2 Q') → acc.length + xs.length ≤ 16777216 →
    Q (acc ++ xs.map f) (upS S p (.lst (acc ++ xs.map f))) → dLcL g dYes te p σw xs acc (upS S p (.lst acc)) Q
  | [], acc, Q, _, _, q => by
    rw [List.map_nil, List.append_nil] at q
    exact q
  | x :: r, acc, Q, h, hl, q => by
    rw [List.length_cons] at hl
    refine h x List.mem_cons_self _ (fun y S4 => S4 p = some (.lst acc) ∧ acc.length < 16777216 ∧ dLcL g dYes te p σw r (acc ++ [y]) (upS S4 p (.lst (acc ++ [y]))) Q) ⟨upS_same, by omega, ?_⟩
    rw [upS_upS]
    refine lcL_pureG f r (acc ++ [f x]) Q (fun y hy => h y (List.mem_cons_of_mem _ hy)) (by rw [List.length_append, List.length_singleton]; omega) ?_
    rw [List.append_assoc]
    exact q
theorem comp_pureG {ti : TID} {g : TGD} {te : TED} {vs : List Nat} {σ : Si} {S : Sd} {Q : DK} (f : D → D) (xs : List D) (S1 : Sd) (hti : ∀ R : List D → Sd → Prop, R xs S1 → ti σ S R) (h : ∀ x ∈ xs, ∀ S' (Q' : DK), Q' (f x) S' → g x (wipeD σ vs) S' fun σ2 S2 => te σ2 S2 Q') (hl : xs.length ≤ 16777216)
    (q : Q (.lst (xs.map f)) S1) : dComp ti g dYes te vs σ S Q := hti _ fun p hp => by
  refine lcL_pureG f xs [] _ h (by simpa using hl) ⟨upS_same, ?_⟩
  rw [del_upS hp]
  exact q
/-! ### what stands behind two statements -/
/-! ### comprehensions with a test, without a trace -/
/-! ### signs -/
/-! ### numbers (t and the root of U) over b, walked number by number; s is the root's whole part -/
/-- above 1, its mate between -1 and 0 -/
def RedS (s t b : Int) : Prop := 0 < b ∧ b ≤ t + s ∧ t ≤ s ∧ s < t + b
/-- above 1 -/
def Gt1 (s t b : Int) : Prop := (0 < b ∧ b ≤ t + s) ∨ (b < 0 ∧ t + s < b)
/-! ### rows' tables and the numbers they lead to -/
theorem tw_fold (L : List Int) : ∀ x : T4, L.foldl t4S x = ⟨x.p * (t4L L).p + x.q * (t4L L).r, x.p * (t4L L).q + x.q * (t4L L).s, x.r * (t4L L).p + x.s * (t4L L).r, x.r * (t4L L).q + x.s * (t4L L).s⟩ := by
  induction L with
  | nil => intro x; obtain ⟨p, q, r, s⟩ := x; simp [t4L]
  | cons a L ih =>
    intro x
    have h1 : t4L (a :: L) = L.foldl t4S (t4S ⟨1, 0, 0, 1⟩ a) := rfl
    rw [List.foldl_cons, ih, h1, ih]
    unfold t4S
    simp only [T4.mk.injEq]
    refine ⟨?_, ?_, ?_, ?_⟩ <;> grind
theorem tw_cons (n : Int) (L : List Int) : t4L (n :: L) = ⟨n * (t4L L).p + (t4L L).r, n * (t4L L).q + (t4L L).s, (t4L L).p, (t4L L).q⟩ := by
  have h1 : t4L (n :: L) = L.foldl t4S (t4S ⟨1, 0, 0, 1⟩ n) := rfl
  rw [h1, tw_fold]
  unfold t4S
  simp only [T4.mk.injEq]
  refine ⟨?_, ?_, ?_, ?_⟩ <;> grind
structure TwN (t : T4) : Prop where
  q1 : 1 ≤ t.q
  r1 : 1 ≤ t.r
  s0 : 0 ≤ t.s
  pq : t.q ≤ t.p
  pr : t.r ≤ t.p
  qs : t.s ≤ t.q
  rs : t.s ≤ t.r
  d : t.p * t.s - t.q * t.r = 1 ∨ t.p * t.s - t.q * t.r = -1
theorem TwN.st {t : T4} (h : TwN t) : t.r + t.s < t.p + t.q ∧ t.q + t.s < t.p + t.r := by
  obtain ⟨q1, r1, s0, pq, pr, qs, rs, d⟩ := h
  constructor
  · refine Decidable.byContradiction fun hc => ?_
    have e1 : t.p = t.r := by omega
    have e2 : t.q = t.s := by omega
    rw [e1, e2, Int.mul_comm] at d
    omega
  · refine Decidable.byContradiction fun hc => ?_
    have e1 : t.p = t.q := by omega
    have e2 : t.r = t.s := by omega
    rw [e1, e2] at d
    omega
theorem RedS.g {s t b : Int} (h : RedS s t b) : Gt1 s t b := .inl ⟨h.1, h.2.1⟩
/-! ### the walk as it is reckoned -/
def trn : Nat → List Int → List Int
  | 0, L => L
  | _ + 1, [] => []
  | n + 1, a :: X => trn n (X ++ [a])
theorem trn_app : ∀ (X Y : List Int), trn X.length (X ++ Y) = Y ++ X
  | [], Y => by simp [trn]
  | a :: X, Y => by
    show trn X.length (X ++ Y ++ [a]) = Y ++ a :: X
    rw [List.append_assoc, trn_app X]
    simp
theorem trn_len : ∀ (j : Nat) (L : List Int), (trn j L).length = L.length
  | 0, _ => rfl
  | _ + 1, [] => rfl
  | j + 1, a :: X => by
    show (trn j (X ++ [a])).length = _
    rw [trn_len j, List.length_append]
    rfl
theorem trn_mem : ∀ (j : Nat) (L : List Int) (x : Int), x ∈ trn j L → x ∈ L
  | 0, _, _, h => h
  | _ + 1, [], _, h => h
  | j + 1, a :: X, x, h => by
    have := trn_mem j (X ++ [a]) x h
    simpa [or_comm] using this
theorem trn_take {j : Nat} {L : List Int} (h : j ≤ L.length) : trn j L = L.drop j ++ L.take j := by
  have := trn_app (L.take j) (L.drop j)
  rw [List.take_append_drop, List.length_take, Nat.min_eq_left h] at this
  exact this
theorem ne_len {L : List Int} (h : L ≠ []) : 0 < L.length := List.length_pos_iff.mpr h
theorem trn_ne {j : Nat} {L : List Int} (h : L ≠ []) : trn j L ≠ [] := fun e => by
  have := congrArg List.length e
  rw [trn_len, List.length_nil] at this
  have := ne_len h
  omega
/-- no turn but the whole is the ring -/
def Prm (R : List Int) : Prop := ∀ j, 0 < j → j < R.length → trn j R ≠ R
/-! ### the number of a stair, told by four parts, walks the stair -/
/-! ### rings that no turn but the whole leads to themselves; shortest parts -/
theorem trn_add (i j : Nat) : ∀ L : List Int, trn (i + j) L = trn j (trn i L) := by
  induction i with
  | zero => intro L; rw [Nat.zero_add]; rfl
  | succ i ih =>
    intro L
    rw [Nat.succ_add]
    match L with
    | [] =>
      show trn (i + j + 1) [] = trn j (trn (i + 1) [])
      have : ∀ n, trn n ([] : List Int) = [] := fun n => by cases n <;> rfl
      rw [this, this, this]
    | a :: X =>
      show trn (i + j) (X ++ [a]) = trn j (trn i (X ++ [a]))
      exact ih _
theorem trn_all (L : List Int) : trn L.length L = L := by
  have := trn_app L []
  simpa using this
theorem trn_com (i j : Nat) (L : List Int) : trn i (trn j L) = trn j (trn i L) := by rw [← trn_add, ← trn_add, Nat.add_comm]
theorem trn_mul {i : Nat} {L : List Int} (h : trn i L = L) : ∀ m, trn (i * m) L = L
  | 0 => rfl
  | m + 1 => by rw [Nat.mul_succ, trn_add, trn_mul h m, h]
theorem trn_gcd {L : List Int} : ∀ i j : Nat, trn i L = L → trn j L = L → trn (Nat.gcd i j) L = L := by
  intro i
  induction i using Nat.strongRecOn with
  | _ i ih =>
    intro j hi hj
    match i, hi, ih with
    | 0, _, _ => rw [Nat.gcd_zero_left]; exact hj
    | i + 1, hi, ih =>
      rw [Nat.gcd_rec]
      refine ih _ (Nat.mod_lt _ (Nat.succ_pos i)) _ ?_ hi
      have e := Nat.div_add_mod j (i + 1)
      rw [← e, trn_add, trn_mul hi] at hj
      exact hj
theorem told_succ (P : List Int) (m : Nat) : told P (m + 1) = P ++ told P m := by unfold told; rw [List.replicate_succ, List.flatten_cons]
theorem told_add (P : List Int) (a : Nat) : ∀ b, told P (b + a) = told P b ++ told P a
  | 0 => by rw [Nat.zero_add]; rfl
  | b + 1 => by rw [Nat.succ_add, told_succ, told_succ, told_add P a b, List.append_assoc]
theorem told_told (P : List Int) (a : Nat) : ∀ b, told (told P a) b = told P (a * b)
  | 0 => rfl
  | b + 1 => by rw [told_succ, told_told P a b, Nat.mul_succ, Nat.add_comm (a * b), told_add]
theorem told_len (P : List Int) : ∀ m, (told P m).length = m * P.length
  | 0 => by rw [Nat.zero_mul]; rfl
  | m + 1 => by rw [told_succ, List.length_append, told_len P m, Nat.succ_mul, Nat.add_comm]
theorem com_told {P : List Int} : ∀ (m : Nat) (X : List Int), X.length = m * P.length → P ++ X = X ++ P → X = told P m
  | 0, X, h, _ => by
    rw [Nat.zero_mul] at h
    exact List.length_eq_zero_iff.mp h
  | m + 1, X, h, e => by
    have h1 : P.length ≤ X.length := by rw [h, Nat.succ_mul]; exact Nat.le_add_left _ _
    have h2 : X.take P.length = P := by
      have := congrArg (List.take P.length) e
      rw [List.take_left', List.take_append_of_le_length h1] at this
      · exact this.symm
      · rfl
    have h3 : X = P ++ X.drop P.length := by conv => lhs; rw [← List.take_append_drop P.length X, h2]
    rw [told_succ, ← com_told m (X.drop P.length) (by rw [List.length_drop, h, Nat.succ_mul, Nat.add_sub_cancel]) ?_]
    · exact h3
    · rw [h3, List.append_assoc] at e
      have := List.append_cancel_left e
      exact this
theorem trn_told {L : List Int} {d : Nat} (h0 : L ≠ []) (hd : d ≤ L.length) (hn : L.length % d = 0) (h : trn d L = L) : L = told (L.take d) (L.length / d) := by
  rw [trn_take hd] at h
  have l0 := ne_len h0
  have d0 : 0 < d := Nat.pos_of_ne_zero fun e => by rw [e, Nat.mod_zero] at hn; omega
  have e1 : L.take d ++ L.drop d = L.drop d ++ L.take d := by rw [List.take_append_drop, h]
  obtain ⟨m, em⟩ := Nat.dvd_of_mod_eq_zero hn
  have m0 : 0 < m := Nat.pos_of_ne_zero fun e => by rw [e, Nat.mul_zero] at em; omega
  obtain ⟨k, rfl⟩ : ∃ k, m = k + 1 := ⟨m - 1, by omega⟩
  have lt : (L.take d).length = d := by rw [List.length_take]; omega
  have e2 := com_told k (L.drop d) (by rw [List.length_drop, lt, em, Nat.mul_succ, Nat.mul_comm]; omega) e1
  rw [em, Nat.mul_div_cancel_left _ d0, told_succ, ← e2, List.take_append_drop]
theorem trn_sizeOk {L : List Int} {d : Nat} (h0 : L ≠ []) (hd : d ≤ L.length) (hn : L.length % d = 0) (h : trn d L = L) : sizeOk L d = true := by
  unfold sizeOk
  rw [Bool.and_eq_true, decide_eq_true_iff, decide_eq_true_iff]
  exact ⟨hn, (trn_told h0 hd hn h).symm⟩
theorem trn_gcd_ok {L : List Int} {j : Nat} (h0 : L ≠ []) (j0 : 0 < j) (h : trn j L = L) : sizeOk L (Nat.gcd j L.length) = true ∧ 1 ≤ Nat.gcd j L.length ∧ Nat.gcd j L.length ≤ j ∧ Nat.gcd j L.length ∣ j := by
  have g := trn_gcd j L.length h (trn_all L)
  have l0 := ne_len h0
  have d1 := Nat.gcd_dvd_left j L.length
  have d2 := Nat.gcd_dvd_right j L.length
  exact ⟨trn_sizeOk h0 (Nat.le_of_dvd l0 d2) (Nat.mod_eq_zero_of_dvd d2) g, Nat.gcd_pos_of_pos_left _ j0, Nat.le_of_dvd j0 d1, d1⟩
theorem prm_sh {L : List Int} (h : 1 ≤ L.length) : Prm (shS L) ∧ shS L ≠ [] := by
  obtain ⟨s, s1, s2, ok, no, e⟩ := shS_char h
  have h0 : L ≠ [] := fun e => by rw [e] at h; exact absurd h (by decide)
  have lt : (L.take s).length = s := by rw [List.length_take]; omega
  have hne : L.take s ≠ [] := fun e => by rw [e] at lt; simp at lt; omega
  rw [e]
  refine ⟨fun j j0 j1 hj => ?_, hne⟩
  rw [lt] at j1
  obtain ⟨g1, g2, g3, _⟩ := trn_gcd_ok hne j0 hj
  rw [lt] at g1 g2 g3
  generalize hd : Nat.gcd j s = d at *
  have ds : d ∣ s := by rw [← hd]; exact Nat.gcd_dvd_right j s
  have n := no d g2 (by omega)
  unfold sizeOk at g1 ok
  rw [Bool.and_eq_true, decide_eq_true_iff, decide_eq_true_iff] at g1 ok
  rw [lt, List.take_take, Nat.min_eq_left (by omega)] at g1
  have : sizeOk L d = true := by
    unfold sizeOk
    rw [Bool.and_eq_true, decide_eq_true_iff, decide_eq_true_iff]
    have sn : s ∣ L.length := Nat.dvd_of_mod_eq_zero ok.1
    refine ⟨Nat.mod_eq_zero_of_dvd (Nat.dvd_trans ds sn), ?_⟩
    have e2 : told (told (L.take d) (s / d)) (L.length / s) = L := by rw [g1.2, ok.2]
    rw [told_told] at e2
    obtain ⟨x, rfl⟩ := ds
    obtain ⟨y, ey⟩ := sn
    have d0 : 0 < d := g2
    have x0 : 0 < x := Nat.pos_of_ne_zero fun e => by rw [e, Nat.mul_zero] at s1; omega
    rw [ey, Nat.mul_div_cancel_left _ d0, Nat.mul_div_cancel_left _ (Nat.mul_pos d0 x0)] at e2
    rw [ey, Nat.mul_assoc, Nat.mul_div_cancel_left _ d0]
    exact e2
  rw [this] at n
  cases n
theorem prm_trn {R : List Int} (h : Prm R) (j : Nat) : Prm (trn j R) := fun i i0 i1 e => by
  rw [trn_len] at i1
  refine h i i0 i1 ?_
  have h0 : R.length ≠ 0 := by omega
  -- lead on to a whole round
  have back : ∀ X : List Int, X.length = R.length → ∃ m, trn m (trn j X) = X := fun X hX => by
    refine ⟨j * R.length - j, ?_⟩
    rw [← trn_add, show j + (j * R.length - j) = R.length * j from by
      have : j * 1 ≤ j * R.length := Nat.mul_le_mul_left _ (by omega)
      rw [Nat.mul_comm R.length]
      omega]
    have := trn_mul (L := X) (trn_all X) j
    rw [hX] at this
    exact this
  have key : ∀ m, trn m (trn j R) = R → trn m (trn j (trn i R)) = trn i R := fun m hm => by
    rw [trn_com j i, trn_com m i, hm]
  obtain ⟨m, hm⟩ := back R rfl
  have := key m hm
  rw [trn_com j i, e, hm] at this
  exact this.symm
/-! ### a stair's number as the law reckons it -/
def lnT (R : List Int) : Int := (t4L R).p - (t4L R).s
def lnX (A R : List Int) : Int := (t4L A).p * lnT R + (t4L A).q * (2 * (t4L R).r)
def lnY (A R : List Int) : Int := (t4L A).r * lnT R + (t4L A).s * (2 * (t4L R).r)
def lnU (A R : List Int) : Int := lnY A R * lnY A R - (t4L A).r * (t4L A).r * upN (t4L R)
def lnO (A R : List Int) : Int := (t4L A).p * lnY A R - lnX A R * (t4L A).r
def lnN (A R : List Int) : Int := lnX A R * lnY A R - (t4L A).p * (t4L A).r * upN (t4L R)
/-- how great a row's table can be -/
theorem t4_wide {c : Nat} : ∀ {L : List Int}, (∀ a ∈ L, a.natAbs + 1 ≤ 2 ^ c) → (t4L L).p.natAbs ≤ 2 ^ (c * L.length) ∧ (t4L L).q.natAbs ≤ 2 ^ (c * L.length) ∧ (t4L L).r.natAbs ≤ 2 ^ (c * L.length) ∧ (t4L L).s.natAbs ≤ 2 ^ (c * L.length)
  | [], _ => by
    rw [show t4L [] = ⟨1, 0, 0, 1⟩ from rfl, List.length_nil, Nat.mul_zero]
    decide
  | a :: L, h => by
    obtain ⟨h1, h2, h3, h4⟩ := t4_wide (L := L) fun b hb => h b (List.mem_cons_of_mem _ hb)
    have ha := h a List.mem_cons_self
    rw [tw_cons, List.length_cons, Nat.mul_succ, Nat.pow_add]
    dsimp only
    generalize (2 : Nat) ^ (c * L.length) = m at *
    generalize (2 : Nat) ^ c = k at *
    have up : ∀ x y : Int, x.natAbs ≤ m → y.natAbs ≤ m → (a * x + y).natAbs ≤ m * k := fun x y hx hy => by
      have e := Int.natAbs_add_le (a * x) y
      have e2 : (a * x).natAbs ≤ a.natAbs * m := by rw [Int.natAbs_mul]; exact Nat.mul_le_mul_left _ hx
      have e3 : (a.natAbs + 1) * m ≤ k * m := Nat.mul_le_mul_right _ ha
      rw [Nat.mul_comm m k]
      rw [Nat.succ_mul] at e3
      omega
    have one : m ≤ m * k := Nat.le_mul_of_pos_right _ (by omega)
    exact ⟨up _ _ h1 h3, up _ _ h2 h4, by omega, by omega⟩

/-! ### stairs of one row have one number -/
theorem told_mem {P : List Int} {m : Nat} {x : Int} (h : x ∈ told P m) : x ∈ P := by
  unfold told at h
  obtain ⟨l, hl, hx⟩ := List.mem_flatten.mp h
  rw [(List.mem_replicate.mp hl).2] at hx
  exact hx
/-- two stairs of one number -/
def SameN (A R A' R' : List Int) : Prop := ∃ f f' c c' : Int, f ≠ 0 ∧ f' ≠ 0 ∧ 1 ≤ c ∧ 1 ≤ c' ∧ f * (c' * c') * lnU A R = f' * (c * c) * lnU A' R' ∧ f * (c' * c') * lnN A R = f' * (c * c) * lnN A' R' ∧ f * c' * lnO A R = f' * c * lnO A' R' ∧ c' * c' * upN (t4L R) = c * c * upN (t4L R')
theorem SameN.refl (A R : List Int) : SameN A R A R := ⟨1, 1, 1, 1, by decide, by decide, by decide, by decide, rfl, rfl, rfl, rfl⟩
theorem SameN.symm {A R A' R' : List Int} (h : SameN A R A' R') : SameN A' R' A R := by
  obtain ⟨f, f', c, c', h1, h2, h3, h4, e1, e2, e3, e4⟩ := h
  exact ⟨f', f, c', c, h2, h1, h4, h3, e1.symm, e2.symm, e3.symm, e4.symm⟩
theorem trans_alg {f f' g g' c c' d d' u v w : Int} (h1 : f * (c' * c') * u = f' * (c * c) * v) (h2 : g * (d' * d') * v = g' * (d * d) * w) : f * g * ((c' * d') * (c' * d')) * u = f' * g' * ((c * d) * (c * d)) * w := by
  have e1 : f * g * ((c' * d') * (c' * d')) * u = g * (d' * d') * (f * (c' * c') * u) := by grind
  have e2 : f' * g' * ((c * d) * (c * d)) * w = f' * (c * c) * (g' * (d * d) * w) := by grind
  rw [e1, e2, h1, ← h2]
  grind
theorem trans_alg1 {f f' g g' c c' d d' u v w : Int} (h1 : f * c' * u = f' * c * v) (h2 : g * d' * v = g' * d * w) : f * g * (c' * d') * u = f' * g' * (c * d) * w := by
  have e1 : f * g * (c' * d') * u = g * d' * (f * c' * u) := by grind
  have e2 : f' * g' * (c * d) * w = f' * c * (g' * d * w) := by grind
  rw [e1, e2, h1, ← h2]
  grind
theorem trans_alg0 {c c' d d' u v w : Int} (h1 : c' * c' * u = c * c * v) (h2 : d' * d' * v = d * d * w) : (c' * d') * (c' * d') * u = (c * d) * (c * d) * w := by
  have e1 : (c' * d') * (c' * d') * u = d' * d' * (c' * c' * u) := by grind
  have e2 : (c * d) * (c * d) * w = c * c * (d * d * w) := by grind
  rw [e1, e2, h1, ← h2]
  grind
theorem SameN.trans {A R A1 R1 A2 R2 : List Int} (h : SameN A R A1 R1) (k : SameN A1 R1 A2 R2) : SameN A R A2 R2 := by
  obtain ⟨f, f', c, c', h1, h2, h3, h4, e1, e2, e3, e4⟩ := h
  obtain ⟨g, g', d, d', k1, k2, k3, k4, i1, i2, i3, i4⟩ := k
  have p : ∀ {x y : Int}, 1 ≤ x → 1 ≤ y → 1 ≤ x * y := fun hx hy => by
    have := Int.mul_le_mul hx hy (by omega) (by omega)
    omega
  exact ⟨f * g, f' * g', c * d, c' * d', Int.mul_ne_zero h1 k1, Int.mul_ne_zero h2 k2, p h3 k3, p h4 k4, trans_alg e1 i1, trans_alg e2 i2, trans_alg1 e3 i3, trans_alg0 e4 i4⟩
/-! ### the endless row of a stair -/
def rowF (A R : List Int) (i : Nat) : Int := if i < A.length then A.getD i 0 else R.getD ((i - A.length) % R.length) 0
theorem gD_app1 {A B : List Int} {i : Nat} (h : i < A.length) : (A ++ B).getD i 0 = A.getD i 0 := by
  rw [List.getD_eq_getElem?_getD, List.getD_eq_getElem?_getD, List.getElem?_append_left h]
theorem gD_app2 {A B : List Int} {i : Nat} (h : A.length ≤ i) : (A ++ B).getD i 0 = B.getD (i - A.length) 0 := by
  rw [List.getD_eq_getElem?_getD, List.getD_eq_getElem?_getD, List.getElem?_append_right h]
theorem row_turn (A X : List Int) (n : Int) (i : Nat) : rowF (A ++ [n]) (X ++ [n]) i = rowF A (n :: X) i := by
  unfold rowF
  have l1 : (A ++ [n]).length = A.length + 1 := by simp
  have l2 : (X ++ [n]).length = X.length + 1 := by simp
  have l3 : (n :: X).length = X.length + 1 := rfl
  rw [l1, l2, l3]
  rcases Nat.lt_trichotomy i A.length with c | c | c
  · rw [if_pos (by omega), if_pos c, gD_app1 c]
  · subst c
    rw [if_pos (by omega), if_neg (by omega), gD_app2 (Nat.le_refl _), Nat.sub_self, Nat.zero_mod]
    rfl
  · rw [if_neg (by omega), if_neg (by omega)]
    obtain ⟨j, rfl⟩ : ∃ j, i = A.length + 1 + j := ⟨i - A.length - 1, by omega⟩
    rw [show A.length + 1 + j - (A.length + 1) = j by omega, show A.length + 1 + j - A.length = j + 1 by omega]
    have hk : j % (X.length + 1) < X.length + 1 := Nat.mod_lt _ (by omega)
    have hm := Nat.mod_add_div j (X.length + 1)
    by_cases c2 : j % (X.length + 1) = X.length
    · have e : (j + 1) % (X.length + 1) = 0 := by
        rw [Nat.add_mod, c2]
        by_cases c3 : X.length = 0
        · rw [c3]
        · rw [Nat.mod_eq_of_lt (show 1 < X.length + 1 by omega), Nat.mod_self]
      rw [e, c2, gD_app2 (Nat.le_refl _), Nat.sub_self]
      rfl
    · have e : (j + 1) % (X.length + 1) = j % (X.length + 1) + 1 := by
        rw [Nat.add_mod, Nat.mod_eq_of_lt (show 1 < X.length + 1 by omega), Nat.mod_eq_of_lt (by omega)]
      rw [e, gD_app1 (by omega)]
      rfl
theorem told_gD {P : List Int} (h0 : P ≠ []) : ∀ (m j : Nat), j < m * P.length → (told P m).getD j 0 = P.getD (j % P.length) 0
  | 0, j, h => by rw [Nat.zero_mul] at h; exact absurd h (Nat.not_lt_zero _)
  | m + 1, j, h => by
    have l0 := ne_len h0
    rw [told_succ]
    by_cases c : j < P.length
    · rw [gD_app1 c, Nat.mod_eq_of_lt c]
    · rw [gD_app2 (by omega), told_gD h0 m (j - P.length) (by rw [Nat.succ_mul] at h; omega), ← Nat.mod_eq_sub_mod (by omega)]
theorem row_told (A P : List Int) (h0 : P ≠ []) (m i : Nat) : rowF A (told P (m + 1)) i = rowF A P i := by
  unfold rowF
  split
  · rfl
  · have l0 := ne_len h0
    rw [told_len, told_gD h0 (m + 1) _ (Nat.mod_lt _ (Nat.mul_pos (by omega) l0)), Nat.mod_mul_left_mod]
theorem row_inj {A R A' R' : List Int} (hA : A.length = A'.length) (hR : R.length = R'.length) (h : ∀ i, rowF A R i = rowF A' R' i) : A = A' ∧ R = R' := by
  have gd : ∀ {L L' : List Int}, L.length = L'.length → (∀ i, i < L.length → L.getD i 0 = L'.getD i 0) → L = L' := fun {L L'} hl hg => by
    refine List.ext_getElem? fun i => ?_
    by_cases c : i < L.length
    · have := hg i c
      rw [List.getD_eq_getElem?_getD, List.getD_eq_getElem?_getD, List.getElem?_eq_getElem c, List.getElem?_eq_getElem (hl ▸ c)] at this
      rw [List.getElem?_eq_getElem c, List.getElem?_eq_getElem (hl ▸ c)]
      exact congrArg some this
    · rw [List.getElem?_eq_none (by omega), List.getElem?_eq_none (by omega)]
  refine ⟨gd hA fun i hi => ?_, gd hR fun i hi => ?_⟩
  · have := h i
    unfold rowF at this
    rw [if_pos hi, if_pos (by omega)] at this
    exact this
  · have := h (A.length + i)
    unfold rowF at this
    rw [if_neg (by omega), if_neg (by omega), show A.length + i - A.length = i by omega, show A.length + i - A'.length = i by omega, ← hR, Nat.mod_eq_of_lt hi] at this
    exact this
/-- what a stair is kept by -/
structure FewS (A R A' R' : List Int) : Prop where
  prm : Prm R'
  r0 : R' ≠ []
  rm : ∀ a ∈ R', a ∈ R
  rl : R'.length ≤ R.length
  at_ : ∃ k, A' = A.take k
  last : A' = [] ∨ A'.getLast? ≠ R'.getLast?
  row : ∀ i, rowF A' R' i = rowF A R i
theorem rotB_trn {R : List Int} (h0 : R ≠ []) : rotB R = trn (R.length - 1) R := by
  unfold rotB
  rw [trn_take (by omega)]
theorem fw_few : ∀ (A R : List Int), Prm R → R ≠ [] → FewS A.reverse R (fwR A R).1 (fwR A R).2
  | [], R, hp, h0 => ⟨hp, h0, fun _ h => h, Nat.le_refl _, ⟨0, rfl⟩, .inl rfl, fun _ => rfl⟩
  | a :: A, R, hp, h0 => by
    show FewS _ R (if R.getLast? = some a then fwR A (rotB R) else ((a :: A).reverse, R)).1 (if R.getLast? = some a then fwR A (rotB R) else ((a :: A).reverse, R)).2
    by_cases c : R.getLast? = some a
    · rw [if_pos c]
      obtain ⟨X, n, rfl⟩ : ∃ X n, R = X ++ [n] := ⟨_, _, (List.dropLast_concat_getLast h0).symm⟩
      rw [List.getLast?_concat] at c
      obtain rfl := Option.some.inj c
      have er : rotB (X ++ [n]) = n :: X := by unfold rotB; rw [List.length_append]; simp
      have ih := fw_few A (rotB (X ++ [n])) (by rw [rotB_trn h0]; exact prm_trn hp _) (by rw [er]; simp)
      rw [er] at ih ⊢
      obtain ⟨i1, i2, i3, i4, ⟨k, i5⟩, i6, i7⟩ := ih
      rw [List.reverse_cons]
      refine ⟨i1, i2, fun x hx => by have := i3 x hx; simpa [or_comm] using this, by rw [List.length_append]; exact i4, ⟨min k A.length, ?_⟩, i6, fun i => ?_⟩
      · rw [i5, List.take_append_of_le_length (by rw [List.length_reverse]; omega)]
        by_cases c : k ≤ A.length
        · rw [Nat.min_eq_left c]
        · rw [Nat.min_eq_right (by omega), List.take_of_length_le (by rw [List.length_reverse]; omega), List.take_of_length_le (by rw [List.length_reverse]; omega)]
      · rw [i7, row_turn]
    · rw [if_neg c]
      refine ⟨hp, h0, fun _ h => h, Nat.le_refl _, ⟨(a :: A).reverse.length, by rw [List.take_length]⟩, .inr ?_, fun _ => rfl⟩
      rw [List.reverse_cons, List.getLast?_concat]
      exact fun e => c e.symm
theorem few_few {A R : List Int} (h0 : R ≠ []) : FewS A R (fewest A R).1 (fewest A R).2 := by
  have l0 := ne_len h0
  obtain ⟨hp, hn⟩ := prm_sh (L := R) l0
  have f := fw_few A.reverse (shS R) hp hn
  rw [List.reverse_reverse] at f
  obtain ⟨i1, i2, i3, i4, i5, i6, i7⟩ := f
  obtain ⟨s, s1, s2, ok, _, e⟩ := shS_char (L := R) l0
  unfold sizeOk at ok
  rw [Bool.and_eq_true, decide_eq_true_iff, decide_eq_true_iff] at ok
  have q : 1 ≤ R.length / s := Nat.div_pos s2 s1
  obtain ⟨k, ek⟩ : ∃ k, R.length / s = k + 1 := ⟨R.length / s - 1, by omega⟩
  have eR : R = told (shS R) (k + 1) := by rw [e, ← ek]; exact ok.2.symm
  have ls : (shS R).length ≤ R.length := by rw [e, List.length_take]; omega
  refine ⟨i1, i2, fun a ha => ?_, Nat.le_trans i4 ls, i5, i6, fun i => ?_⟩
  · have := i3 a ha
    rw [e] at this
    exact List.mem_of_mem_take this
  · show rowF (fwR A.reverse (shS R)).1 (fwR A.reverse (shS R)).2 i = _
    rw [i7]
    conv => rhs; rw [eR]
    rw [row_told A (shS R) hn k i]

theorem gD_drop (L : List Int) (m i : Nat) : (L.drop m).getD i 0 = L.getD (m + i) 0 := by
  rw [List.getD_eq_getElem?_getD, List.getD_eq_getElem?_getD, List.getElem?_drop]
theorem gD_take {L : List Int} {m i : Nat} (h : i < m) : (L.take m).getD i 0 = L.getD i 0 := by
  rw [List.getD_eq_getElem?_getD, List.getD_eq_getElem?_getD, List.getElem?_take, if_pos h]
theorem trn_gD {R : List Int} {t j : Nat} (ht : t ≤ R.length) (hj : j < R.length) : (trn t R).getD j 0 = R.getD ((t + j) % R.length) 0 := by
  rw [trn_take ht]
  by_cases c : j < R.length - t
  · rw [gD_app1 (by rw [List.length_drop]; exact c), gD_drop, Nat.mod_eq_of_lt (by omega)]
  · rw [gD_app2 (by rw [List.length_drop]; omega), List.length_drop, gD_take (by omega), show t + j = (j - (R.length - t)) + R.length by omega, Nat.add_mod_right, Nat.mod_eq_of_lt (by omega)]
theorem row_drop (A R : List Int) (h0 : R ≠ []) (m i : Nat) : rowF (A.drop m) (trn ((m - A.length) % R.length) R) i = rowF A R (i + m) := by
  have l0 := ne_len h0
  have ht : (m - A.length) % R.length < R.length := Nat.mod_lt _ l0
  unfold rowF
  rw [List.length_drop, trn_len]
  by_cases c : i < A.length - m
  · rw [if_pos c, if_pos (by omega), gD_drop, Nat.add_comm]
  · rw [if_neg c, if_neg (by omega), trn_gD (by omega) (Nat.mod_lt _ l0), ← Nat.add_mod]
    congr 2
    omega
theorem le_up {a : Int} {n k : Nat} (ha : a.natAbs ≤ 2 ^ n) (hk : n ≤ k) : a.natAbs ≤ 2 ^ k := Nat.le_trans ha (Nat.pow_le_pow_right (by decide) hk)
structure T4B (t : T4) (m : Nat) : Prop where
  p : t.p.natAbs ≤ 2 ^ m
  q : t.q.natAbs ≤ 2 ^ m
  r : t.r.natAbs ≤ 2 ^ m
  s : t.s.natAbs ≤ 2 ^ m
/-- all that stood in a store stands in another one, too -/
def Ext (S S' : Sd) : Prop := ∀ x y, S x = some y → S' x = some y
theorem Ext.refl {S : Sd} : Ext S S := fun _ _ h => h
theorem Ext.trans {S S1 S2 : Sd} (h : Ext S S1) (k : Ext S1 S2) : Ext S S2 := fun x y e => k x y (h x y e)
theorem len_at {S : Sd} {p : Addr} {ds : List D} {Q : DK} (h : S p = some (.lst ds)) (q : Q (.int ds.length) S) : rdLen [.obj p] S Q := by
  show (match itemsD S (.obj p) with | some ds => Q (.int ds.length) S | none => False)
  have e : itemsD S (.obj p) = some ds := by
    show (match S p with | some (.lst ds) => some ds | _ => none) = _
    rw [h]
  rw [e]
  exact q
theorem neO_nil {a : Addr} {l : List Int} {S : Sd} {Q : DK} (h : S a = some (.lst (l.map D.int))) (q : Q (.bl (!decide (l = []))) S) : rdNeO (.obj a) (.lst []) S Q := by
  show neV_ _ _ S Q
  unfold neV_
  rw [x_val h]
  refine ⟨⟨okD_eqOk (okD_intsL l) (by decide), rfl⟩, ?_⟩
  show Q (.bl (!deqL (l.map D.int) (([] : List Int).map D.int))) S
  rw [deqL_ringE]
  exact q
/-! the fewest numbers, sought in the row -/
/-- a row's first numbers -/
def rwL (f : Nat → Int) (n : Nat) : List Int := (List.range n).map f
theorem rwL_len (f : Nat → Int) (n : Nat) : (rwL f n).length = n := by unfold rwL; rw [List.length_map, List.length_range]
theorem rwL_get {f : Nat → Int} {n i : Nat} (h : i < n) : (rwL f n)[i]? = some (f i) := by
  unfold rwL
  rw [List.getElem?_map, List.getElem?_range h]; rfl
theorem rwL_cut {f : Nat → Int} {n i k : Nat} (h : i + k ≤ n) : ((rwL f n).drop i).take k = rwL (fun j => f (i + j)) k := by
  refine List.ext_getElem? fun j => ?_
  by_cases c : j < k
  · rw [List.getElem?_take_of_lt c, List.getElem?_drop, rwL_get (by omega), rwL_get c]
  · rw [List.getElem?_eq_none (by rw [List.length_take]; omega), List.getElem?_eq_none (by rw [rwL_len]; omega)]
theorem rwL_eq {f g : Nat → Int} {k : Nat} : rwL f k = rwL g k ↔ ∀ j, j < k → f j = g j := by
  constructor
  · intro h j hj
    have this : (rwL f k)[j]? = (rwL g k)[j]? := by rw [h]
    rw [rwL_get hj, rwL_get hj] at this
    exact Option.some.inj this
  · intro h
    unfold rwL
    exact List.map_congr_left fun j hj => h j (List.mem_range.mp hj)
theorem row_per {A R : List Int} (i : Nat) (h : A.length ≤ i) : rowF A R (i + R.length) = rowF A R i := by
  unfold rowF
  rw [if_neg (by omega), if_neg (by omega), show i + R.length - A.length = (i - A.length) + R.length by omega, Nat.add_mod_right]
theorem row_no {A R : List Int} (h0 : R ≠ []) (hp : Prm R) {b : Nat} (hA : A.length ≤ b) {t : Nat} (t0 : 0 < t) (t1 : t < R.length) (h : ∀ m, m < R.length → rowF A R (b + m) = rowF A R (b + t + m)) : False := by
  refine hp t t0 t1 ?_
  have p0 := ne_len h0
  refine List.ext_getElem (trn_len t R) fun j j1 j2 => ?_
  have hj : j < R.length := j2
  have e := trn_gD (R := R) (t := t) (j := j) (by omega) hj
  rw [List.getD_eq_getElem?_getD, List.getElem?_eq_getElem j1, List.getD_eq_getElem?_getD] at e
  have lt : (t + j) % R.length < R.length := Nat.mod_lt _ p0
  rw [List.getElem?_eq_getElem lt] at e
  simp only [Option.getD_some] at e
  rw [e]
  -- the place in the window
  obtain ⟨m, hm, em⟩ : ∃ m, m < R.length ∧ (b + m - A.length) % R.length = j := by
    have d : (b - A.length) % R.length < R.length := Nat.mod_lt _ p0
    by_cases c : (b - A.length) % R.length ≤ j
    · refine ⟨j - (b - A.length) % R.length, by omega, ?_⟩
      have e2 := Nat.div_add_mod (b - A.length) R.length
      rw [show b + (j - (b - A.length) % R.length) - A.length = j + R.length * ((b - A.length) / R.length) by omega, Nat.add_mul_mod_self_left, Nat.mod_eq_of_lt hj]
    · refine ⟨j + R.length - (b - A.length) % R.length, by omega, ?_⟩
      have e2 := Nat.div_add_mod (b - A.length) R.length
      rw [show b + (j + R.length - (b - A.length) % R.length) - A.length = (j + R.length) + R.length * ((b - A.length) / R.length) by omega, Nat.add_mul_mod_self_left, Nat.add_mod_right, Nat.mod_eq_of_lt hj]
  have hh := h m hm
  unfold rowF at hh
  rw [if_neg (by omega), if_neg (by omega), em] at hh
  have em2 : (b + t + m - A.length) % R.length = (t + j) % R.length := by
    rw [show b + t + m - A.length = t + (b + m - A.length) by omega, Nat.add_mod, em, Nat.add_mod t j, Nat.mod_eq_of_lt hj]
  rw [em2] at hh
  rw [List.getD_eq_getElem?_getD, List.getElem?_eq_getElem hj, List.getD_eq_getElem?_getD, List.getElem?_eq_getElem lt] at hh
  exact hh.symm
theorem row_last {A R : List Int} (h0 : R ≠ []) (hl : A = [] ∨ A.getLast? ≠ R.getLast?) (hA : 0 < A.length) : rowF A R (A.length - 1) ≠ rowF A R (A.length - 1 + R.length) := fun e => by
  have p0 := ne_len h0
  rcases hl with rfl | hl
  · exact absurd hA (by decide)
  · refine hl ?_
    rw [List.getLast?_eq_getElem?, List.getLast?_eq_getElem?]
    unfold rowF at e
    rw [if_pos (by omega), if_neg (by omega), show A.length - 1 + R.length - A.length = R.length - 1 by omega, Nat.mod_eq_of_lt (by omega)] at e
    rw [List.getD_eq_getElem?_getD, List.getElem?_eq_getElem (by omega), List.getD_eq_getElem?_getD, List.getElem?_eq_getElem (by omega)] at e
    rw [List.getElem?_eq_getElem (by omega), List.getElem?_eq_getElem (by omega)]
    exact congrArg some e
theorem row_ahead {A R : List Int} : rwL (rowF A R) A.length = A := by
  refine List.ext_getElem (rwL_len _ _) fun j j1 j2 => ?_
  have := rwL_get (f := rowF A R) j2
  rw [List.getElem?_eq_getElem j1] at this
  rw [Option.some.inj this]
  unfold rowF
  rw [if_pos j2, List.getD_eq_getElem?_getD, List.getElem?_eq_getElem j2]
  rfl
theorem row_ringF {A R : List Int} : rwL (fun j => rowF A R (A.length + j)) R.length = R := by
  refine List.ext_getElem (rwL_len _ _) fun j j1 j2 => ?_
  have := rwL_get (f := fun j => rowF A R (A.length + j)) j2
  rw [List.getElem?_eq_getElem j1] at this
  rw [Option.some.inj this]
  unfold rowF
  rw [if_neg (by omega), show A.length + j - A.length = j by omega, Nat.mod_eq_of_lt j2, List.getD_eq_getElem?_getD, List.getElem?_eq_getElem j2]
  rfl
theorem row_perq {A R : List Int} (i : Nat) (h : A.length ≤ i) : ∀ q, rowF A R (i + q * R.length) = rowF A R i
  | 0 => by rw [Nat.zero_mul, Nat.add_zero]
  | q + 1 => by
    rw [Nat.succ_mul, ← Nat.add_assoc, row_per _ (by omega), row_perq i h q]
theorem kept_dvd {A R A' R' : List Int} (h0' : R' ≠ []) (hp' : Prm R') (hrow : ∀ i, rowF A R i = rowF A' R' i) : R'.length ∣ R.length := by
  have p0 := ne_len h0'
  by_cases c : R.length % R'.length = 0
  · exact Nat.dvd_of_mod_eq_zero c
  · have e2 := Nat.div_add_mod' R.length R'.length
    have t1 : R.length % R'.length < R'.length := Nat.mod_lt _ p0
    generalize R.length % R'.length = t at *
    generalize R.length / R'.length = q at *
    exact (row_no (A := A') h0' hp' (b := A.length + A'.length) (by omega) (t := t) (by omega) t1 fun m hm => by
      have e1 := row_per (A := A) (R := R) (A.length + A'.length + m) (by omega)
      rw [hrow, hrow] at e1
      have e3 := row_perq (A := A') (R := R') (A.length + A'.length + t + m) (by omega) q
      generalize q * R'.length = z at *
      rw [show A.length + A'.length + t + m + z = A.length + A'.length + m + R.length by omega] at e3
      rw [← e1, e3]).elim
theorem kept_le {A R A' R' : List Int} (h0' : R' ≠ []) (hl' : A' = [] ∨ A'.getLast? ≠ R'.getLast?) (hrow : ∀ i, rowF A R i = rowF A' R' i) (hR : R.length = R'.length) : A'.length ≤ A.length := by
  by_cases c : A'.length ≤ A.length
  · exact c
  · have h1 := row_last h0' hl' (by omega)
    have h2 := row_per (A := A) (R := R) (A'.length - 1) (by omega)
    rw [hrow, hrow, hR] at h2
    exact (h1 h2.symm).elim
/-- a row is kept in one way alone -/
theorem kept_uniq {A R A' R' : List Int} (h0 : R ≠ []) (h0' : R' ≠ []) (hp : Prm R) (hp' : Prm R') (hl : A = [] ∨ A.getLast? ≠ R.getLast?) (hl' : A' = [] ∨ A'.getLast? ≠ R'.getLast?) (hrow : ∀ i, rowF A R i = rowF A' R' i) : A = A' ∧ R = R' := by
  have e : R.length = R'.length := Nat.dvd_antisymm (kept_dvd h0 hp fun i => (hrow i).symm) (kept_dvd h0' hp' hrow)
  have l1 := kept_le h0' hl' hrow e
  have l2 := kept_le h0 hl (fun i => (hrow i).symm) e.symm
  exact row_inj (by omega) e hrow
theorem few_uniq {A R A' R' : List Int} (h0 : R ≠ []) (h0' : R' ≠ []) (hrow : ∀ i, rowF A R i = rowF A' R' i) : fewest A R = fewest A' R' := by
  obtain ⟨a1, a2, _, _, _, a6, a7⟩ := few_few (A := A) h0
  obtain ⟨b1, b2, _, _, _, b6, b7⟩ := few_few (A := A') h0'
  obtain ⟨e1, e2⟩ := kept_uniq a2 b2 a1 b1 a6 b6 fun i => by rw [a7, b7, hrow]
  exact Prod.ext e1 e2

structure RowB (A R : List Int) : Prop where
  r1 : ∀ a ∈ R, 1 ≤ a ∧ a ≤ 999999
  r0 : R ≠ []
  rl : R.length ≤ 40
  a2 : ∀ a ∈ A, a.natAbs + 1 ≤ 2 ^ 20
  al : A.length ≤ 20
theorem RowB.p1 {A R : List Int} (h : RowB A R) : ∀ a ∈ R, 1 ≤ a := fun a ha => (h.r1 a ha).1
theorem RowB.rowI {A R : List Int} (h : RowB A R) : RowI R := ⟨h.r1, by have := ne_len h.r0; omega, h.rl⟩
theorem T4B.of {L : List Int} {c m : Nat} (h : ∀ a ∈ L, a.natAbs + 1 ≤ 2 ^ c) (hm : c * L.length ≤ m) : T4B (t4L L) m := by
  obtain ⟨h1, h2, h3, h4⟩ := t4_wide h
  exact ⟨le_up h1 hm, le_up h2 hm, le_up h3 hm, le_up h4 hm⟩
theorem RowB.tr {A R : List Int} (h : RowB A R) : T4B (t4L R) 800 := T4B.of (c := 20) (fun a ha => by have := h.r1 a ha; have e : (2 : Nat) ^ 20 = 1048576 := (by decide); omega) (by have := h.rl; omega)
theorem RowB.ta {A R : List Int} (h : RowB A R) : T4B (t4L A) 400 := T4B.of h.a2 (by have := h.al; omega)

/-- a row that may be handed in -/
structure RowOk (A R : List Int) : Prop where
  b : RowB A R
  a9 : ∀ a ∈ A, a.natAbs ≤ 999999
  tl : ∀ a ∈ A.tail, 1 ≤ a
structure FewI (A R : List Int) : Prop where
  a : ∀ x ∈ A, x.natAbs < 2 ^ 30
  r : ∀ x ∈ R, x.natAbs < 2 ^ 30
  la : A.length ≤ 100
  lr : R.length ≤ 100
theorem sm_ring {L : List Int} (R : RowI L) : sm 20 (ringD L) = true := smT.mpr fun d hd => by
  obtain ⟨a, ha, rfl⟩ := List.mem_map.mp hd
  have := R.el a ha
  exact sm_int.mpr (abs_lt_of (by omega) (by omega))


def sp_is_whole : SpD := fun ds S Q _ => ∃ d, ds = [d] ∧ isData d = true ∧ Q (.bl (isWh d)) S
theorem len_is_whole : ∀ ds S Q E, sp_is_whole ds S Q E → ds.length = 1 := fun _ _ _ _ ⟨_, e, _⟩ => by rw [e]; rfl

def sp_shared_by : SpD := fun ds S Q _ => ∃ a b : Int, ds = [.int a, .int b] ∧ Q (.int (Int.gcd a b : Nat)) S
theorem len_shared_by : ∀ ds S Q E, sp_shared_by ds S Q E → ds.length = 2 := fun _ _ _ _ ⟨_, _, e, _⟩ => by rw [e]; rfl

def sp_side_of : SpD := fun ds S Q _ => ∃ x : Int, ds = [.int x] ∧ 0 ≤ x ∧ x.natAbs < 2 ^ 8500 ∧ ∀ y : Int, 0 ≤ y → y * y ≤ x → x < (y + 1) * (y + 1) → Q (.int y) S
theorem len_side_of : ∀ ds S Q E, sp_side_of ds S Q E → ds.length = 1 := fun _ _ _ _ ⟨_, e, _⟩ => by rw [e]; rfl

def sp_is_square : SpD := fun ds S Q _ => ∃ x : Int, ds = [.int x] ∧ x.natAbs < 2 ^ 8000 ∧ Q (.bl (isSqB x)) S
theorem len_is_square : ∀ ds S Q E, sp_is_square ds S Q E → ds.length = 1 := fun _ _ _ _ ⟨_, e, _⟩ => by rw [e]; rfl

def sp_is_under_root : SpD := fun ds S Q _ => ∃ d, ds = [d] ∧ sm 8000 d = true ∧ Q (.bl (undB d)) S
theorem len_is_under_root : ∀ ds S Q E, sp_is_under_root ds S Q E → ds.length = 1 := fun _ _ _ _ ⟨_, e, _⟩ => by rw [e]; rfl

def sp_is_bottom : SpD := fun ds S Q _ => ∃ d, ds = [d] ∧ isData d = true ∧ Q (.bl (botB d)) S
theorem len_is_bottom : ∀ ds S Q E, sp_is_bottom ds S Q E → ds.length = 1 := fun _ _ _ _ ⟨_, e, _⟩ => by rw [e]; rfl

def sp_look_parts : SpD := fun ds S Q E => ∃ t o s b : D, ds = [.tup [t, o, s, b]] ∧ sm 8000 t = true ∧ sm 8000 o = true ∧ sm 8000 s = true ∧ sm 8000 b = true ∧ (badP t o s b = none → Q .non S) ∧ (∀ z, badP t o s b = some z → E ⟨"NoNumber", ["part"], [.str z]⟩ S)
theorem len_look_parts : ∀ ds S Q E, sp_look_parts ds S Q E → ds.length = 1 := fun _ _ _ _ ⟨_, _, _, _, e, _⟩ => by rw [e]; rfl

def sp_Root___init__ : SpD := fun ds S Q E => ∃ (a : Addr) (t o s b : D), ds = [.obj a, t, o, s, b] ∧ sm 8000 t = true ∧ sm 8000 o = true ∧ sm 8000 s = true ∧ sm 8000 b = true ∧ S a = some (.ins "Root" [] []) ∧
  (∀ T O q B : Int, t = .int T → o = .int O → s = .int q → b = .int B → badP t o s b = none → Q .non (upS S a (.ins "Root" ["held"] [lowD T O q B]))) ∧ (∀ z, badP t o s b = some z → E ⟨"NoNumber", ["part"], [.str z]⟩ S)
theorem len_Root___init__ : ∀ ds S Q E, sp_Root___init__ ds S Q E → ds.length = 5 := fun _ _ _ _ ⟨_, _, _, _, _, e, _⟩ => by rw [e]; rfl
theorem badP_ok {t o s b : D} (h : badP t o s b = none) : ∃ T O q B : Int, t = .int T ∧ o = .int O ∧ s = .int q ∧ b = .int B ∧ 2 ≤ q ∧ isSqB q = false ∧ 1 ≤ B := by
  unfold badP at h
  split at h
  · cases h
  · rename_i h1
    split at h
    · cases h
    · rename_i h2
      split at h
      · cases h
      · rename_i h3
        split at h
        · cases h
        · rename_i h4
          obtain ⟨T, rfl⟩ := isWh_int (by simpa using h1)
          obtain ⟨O, rfl⟩ := isWh_int (by simpa using h2)
          cases s with
          | int q =>
            cases b with
            | int B =>
              unfold undB at h3
              unfold botB at h4
              simp at h3 h4
              exact ⟨T, O, q, B, rfl, rfl, rfl, rfl, h3.1, h3.2, h4⟩
            | _ => exact absurd rfl h4
          | _ => exact absurd rfl h3
theorem gR_pos {T O B : Int} (h : 1 ≤ B) : 1 ≤ gR T O B ∧ gR T O B ≤ B := by
  unfold gR
  have h1 : (Int.gcd (Int.gcd T O : Nat) B : Nat) ≠ 0 := fun e => by
    have := (Int.gcd_eq_zero_iff.mp e).2
    omega
  have h2 : (Int.gcd (Int.gcd T O : Nat) B : Nat) ∣ B.natAbs := Int.gcd_dvd_natAbs_right ..
  have h3 := Nat.le_of_dvd (by omega) h2
  omega
theorem okP_bad {T O q B : Int} (h1 : 2 ≤ q) (h2 : isSqB q = false) (h3 : 1 ≤ B) : badP (.int T) (.int O) (.int q) (.int B) = none := by
  unfold badP
  rw [if_neg (by simp [isWh]), if_neg (by simp [isWh]), if_neg (by unfold undB; simp [h1, h2]), if_neg (by unfold botB; simp [h3])]

def winD (lo hi : Int) : D → Bool
  | .int a => decide (lo ≤ a ∧ a ≤ hi)
  | _ => false
def sp_is_within : SpD := fun ds S Q _ => ∃ (d : D) (lo hi : Int), ds = [d, .int lo, .int hi] ∧ isData d = true ∧ Q (.bl (winD lo hi d)) S
theorem len_is_within : ∀ ds S Q E, sp_is_within ds S Q E → ds.length = 3 := fun _ _ _ _ ⟨_, _, _, e, _⟩ => by rw [e]; rfl

def rowD (lo hi : Int) : D → Bool
  | .tup xs => decide (lo ≤ (xs.length : Int) ∧ (xs.length : Int) ≤ hi) && xs.all (winD 1 999999)
  | _ => false
def sp_is_row : SpD := fun ds S Q _ => ∃ (d : D) (lo hi : Int) (n : Nat), ds = [d, .int lo, .int hi] ∧ sm n d = true ∧ hi ≤ 1000000 ∧ Q (.bl (rowD lo hi d)) S
theorem len_is_row : ∀ ds S Q E, sp_is_row ds S Q E → ds.length = 3 := fun _ _ _ _ ⟨_, _, _, _, e, _⟩ => by rw [e]; rfl

def sp_is_number_ring : SpD := fun ds S Q _ => ∃ (d : D) (n : Nat), ds = [d] ∧ sm n d = true ∧ Q (.bl (isRingD d)) S
theorem len_is_number_ring : ∀ ds S Q E, sp_is_number_ring ds S Q E → ds.length = 1 := fun _ _ _ _ ⟨_, _, e, _⟩ => by rw [e]; rfl
theorem win_in : ∀ d : D, winD 1 999999 d = inD d := fun d => by cases d <;> rfl
theorem row_ring (d : D) : rowD 1 40 d = isRingD d := by
  cases d with
  | tup xs =>
    show (decide ((1 : Int) ≤ (xs.length : Int) ∧ (xs.length : Int) ≤ 40) && xs.all (winD 1 999999)) = (decide (1 ≤ xs.length ∧ xs.length ≤ 40) && xs.all inD)
    rw [show winD 1 999999 = inD from funext win_in]
    congr 1
    rw [decide_eq_decide]
    omega
  | _ => rfl

def aheadD : D → Bool
  | .tup [] => true
  | .tup (x :: xs) => winD (-999999) 999999 x && rowD 0 19 (.tup xs)
  | _ => false
def sp_is_ahead : SpD := fun ds S Q _ => ∃ (d : D) (n : Nat), ds = [d] ∧ sm n d = true ∧ eqOk d = true ∧ Q (.bl (aheadD d)) S
theorem len_is_ahead : ∀ ds S Q E, sp_is_ahead ds S Q E → ds.length = 1 := fun _ _ _ _ ⟨_, _, e, _⟩ => by rw [e]; rfl

def sp_shortest_part : SpD := fun ds S Q _ => ∃ L : List Int, ds = [ringD L] ∧ 1 ≤ L.length ∧ L.length ≤ 1000 ∧ Q (ringD (shS L)) S
theorem len_shortest_part : ∀ ds S Q E, sp_shortest_part ds S Q E → ds.length = 1 := fun _ _ _ _ ⟨_, e, _⟩ => by rw [e]; rfl
theorem size_go {L : List Int} {s : Nat} {S : Sd} {Q : DK} (s1 : 1 ≤ s) (s2 : s ≤ L.length) (hd : L.length % s = 0) (l1 : L.length ≤ 1000) (q : Q (.bl (decide (told (L.take s) (L.length / s) = L))) S) :
    rdMulA (.tup (cutD (L.map D.int) none (some (s : Int)))) (.int (L.length / s : Nat)) S fun x S1 => rdEq x (ringD L) S1 Q := by
  have hq1 : 1 ≤ L.length / s := Nat.div_pos s2 (by omega)
  have hq2 : L.length / s ≤ L.length := Nat.div_le_self _ _
  rw [cutD_ring L s2]
  refine ⟨⟨fun e => ?_, by omega, by omega, by rw [List.length_map, List.length_take]; omega⟩, ?_⟩
  · have := congrArg List.length e
    rw [List.length_map, List.length_take, List.length_nil] at this
    omega
  rw [Int.toNat_natCast, told_D]
  refine ⟨⟨okD_eqOk (okD_ints _) (by decide), okD_eqOk (okD_ints _) (by decide)⟩, ?_⟩
  show Q (.bl (deqL ((told (L.take s) (L.length / s)).map D.int) (L.map D.int))) S
  rw [deqL_ringE]
  exact q
theorem nat_mod_div {n s : Nat} (s1 : 1 ≤ s) : (n : Int).fmod (s : Int) = ((n % s : Nat) : Int) ∧ (n : Int).fdiv (s : Int) = ((n / s : Nat) : Int) := by
  constructor
  · rw [Int.fmod_eq_emod_of_nonneg _ (by omega)]
    exact (Int.natCast_emod _ _).symm
  · rw [Int.fdiv_eq_ediv_of_nonneg _ (by omega)]
    exact (Int.natCast_ediv _ _).symm

def stD (A R : List Int) : D := .inst "Stair" ["held_ahead", "held_ring"] [ringD A, ringD R]
def stF (p : List Int × List Int) : D := stD p.1 p.2
def sp_Stair_keep_rows : SpD := fun ds S Q _ => ∃ (a : Addr) (A R : List Int), ds = [.obj a, ringD A, ringD R] ∧ A.length ≤ 1000 ∧ 1 ≤ R.length ∧ R.length ≤ 1000 ∧ (S a = some (.ins "Stair" [] []) ∨ ∃ x y, S a = some (.ins "Stair" ["held_ahead", "held_ring"] [x, y])) ∧ Q .non (upS S a (.ins "Stair" ["held_ahead", "held_ring"] [ringD (fewest A R).1, ringD (fewest A R).2]))
theorem len_Stair_keep_rows : ∀ ds S Q E, sp_Stair_keep_rows ds S Q E → ds.length = 3 := fun _ _ _ _ ⟨_, _, _, e, _⟩ => by rw [e]; rfl
theorem ne_nil {A : List Int} {S : Sd} {Q : DK} (q : Q (.bl (!decide (A = []))) S) : rdNe (ringD A) (.tup []) S Q := by
  refine ⟨⟨okD_eqOk (okD_ints _) (by decide), by decide⟩, ?_⟩
  have e : deq (ringD A) (.tup []) = decide (A = []) := by
    show deqL (A.map D.int) (([] : List Int).map D.int) = _
    rw [deqL_ringE]
  rw [e]
  exact q

def sp_Stair___init__ : SpD := fun ds S Q E => ∃ (a : Addr) (d1 d2 : D) (n : Nat), ds = [.obj a, d1, d2] ∧ sm n d1 = true ∧ sm n d2 = true ∧ eqOk d1 = true ∧ S a = some (.ins "Stair" [] []) ∧ ((aheadD d1 && isRingD d2) = false → E ⟨"NoStair", [], []⟩ S) ∧
  ((aheadD d1 && isRingD d2) = true → ∃ A R, d1 = ringD A ∧ d2 = ringD R ∧ A.length ≤ 20 ∧ RowI R ∧ Q .non (upS S a (.ins "Stair" ["held_ahead", "held_ring"] [ringD (fewest A R).1, ringD (fewest A R).2])))
theorem len_Stair___init__ : ∀ ds S Q E, sp_Stair___init__ ds S Q E → ds.length = 3 := fun _ _ _ _ ⟨_, _, _, _, e, _⟩ => by rw [e]; rfl

def sp_Stair_ahead : SpD := fun ds S Q _ => ∃ A R : List Int, ds = [stD A R] ∧ Q (ringD A) S
theorem len_Stair_ahead : ∀ ds S Q E, sp_Stair_ahead ds S Q E → ds.length = 1 := fun _ _ _ _ ⟨_, _, e, _⟩ => by rw [e]; rfl

def sp_Stair_ring : SpD := fun ds S Q _ => ∃ A R : List Int, ds = [stD A R] ∧ Q (ringD R) S
theorem len_Stair_ring : ∀ ds S Q E, sp_Stair_ring ds S Q E → ds.length = 1 := fun _ _ _ _ ⟨_, _, e, _⟩ => by rw [e]; rfl

/-- what is no stair -/
def isThing (y : D) : Prop := (∃ t, tyD y = some t) ∨ ∃ m ∈ ([Str.ofString "Ring", Str.ofString "Root"] : List Str), ∃ ns ys, y = .inst m ns ys
def sp_Stair___eq__ : SpD := fun ds S Q _ => ∃ (A R : List Int) (y : D), ds = [stD A R, y] ∧ ((isThing y ∧ Q (.bl false) S) ∨ ∃ A2 R2 : List Int, y = stD A2 R2 ∧ Q (.bl (decide (A = A2) && decide (R = R2))) S)
theorem len_Stair___eq__ : ∀ ds S Q E, sp_Stair___eq__ ds S Q E → ds.length = 2 := fun _ _ _ _ ⟨_, _, _, e, _⟩ => by rw [e]; rfl

def sp_Stair___len__ : SpD := fun ds S Q _ => ∃ A R : List Int, ds = [stD A R] ∧ A.length ≤ 100 ∧ R.length ≤ 100 ∧ Q (.int ((A.length + R.length : Nat) : Int)) S
theorem len_Stair___len__ : ∀ ds S Q E, sp_Stair___len__ ds S Q E → ds.length = 1 := fun _ _ _ _ ⟨_, _, e, _⟩ => by rw [e]; rfl

/-- a stair's text -/
def stStr (A R : List Int) : Str := Str.empty ++ Txt.join "" (A.map fun a => Str.empty ++ (toString a : Str) ++ (" " : Str)) ++ ("(" : Str) ++ Txt.join " " (R.map fun a => (toString a : Str)) ++ (")" : Str)
def sp_Stair___str__ : SpD := fun ds S Q _ => ∃ A R : List Int, ds = [stD A R] ∧ FewI A R ∧ Q (.str (stStr A R)) S
theorem len_Stair___str__ : ∀ ds S Q E, sp_Stair___str__ ds S Q E → ds.length = 1 := fun _ _ _ _ ⟨_, _, e, _⟩ => by rw [e]; rfl

def stText (A R : List Int) : Str := ((((Str.empty ++ Str.ofString "Stair(") ++ shownD (ringD A)) ++ Str.ofString ", ") ++ shownD (ringD R)) ++ Str.ofString ")"
def sp_Stair___repr__ : SpD := fun ds S Q _ => ∃ A R : List Int, ds = [stD A R] ∧ FewI A R ∧ Q (.str (stText A R)) S
theorem len_Stair___repr__ : ∀ ds S Q E, sp_Stair___repr__ ds S Q E → ds.length = 1 := fun _ _ _ _ ⟨_, _, e, _⟩ => by rw [e]; rfl
theorem shLL_ints : ∀ A : List Int, shLL (A.map D.int) = 1923 * A.length
  | [] => rfl
  | a :: A => by
    show shL (.int a) + 2 + shLL (A.map D.int) = _
    rw [shLL_ints A, List.length_cons]
    show 1921 + 2 + _ = _
    omega
theorem ring_shD {A : List Int} (h : ∀ x ∈ A, x.natAbs < 2 ^ 30) (l : A.length ≤ 100) : shD (ringD A) ∧ (shownD (ringD A)).length ≤ 200000 := by
  have ok : shOk (ringD A) = true := by
    show shOkL (A.map D.int) = true
    clear l
    induction A with
    | nil => rfl
    | cons a A ih =>
      show (decide (a.natAbs.log2 < 1920) && shOkL (A.map D.int)) = true
      rw [ih fun x hx => h x (List.mem_cons_of_mem _ hx), decide_eq_true (Nat.lt_of_lt_of_le (log2_lt (h a List.mem_cons_self) (by decide)) (by decide))]
      rfl
  have len : shL (ringD A) = 1923 * A.length + 3 := by
    show shLL (A.map D.int) + 3 = _
    rw [shLL_ints]
  have dep : (pd (ringD A)).depth ≤ 60 := by
    have e := okD_ints A
    unfold okD_ at e
    simp only [Bool.and_eq_true, decide_eq_true_eq] at e
    have e2 : (pd (ringD A)).depth ≤ 1 := e.2.2
    omega
  have := shown_len ok
  exact ⟨⟨ok, by omega, dep⟩, by unfold shownD; omega⟩

def atSt (A R : List Int) (p : Nat) : Int := if p < A.length then A.getD p 0 else R.getD ((p - A.length) % R.length) 0
def sp_Stair_at : SpD := fun ds S Q E => ∃ (A R : List Int) (p : Int), ds = [stD A R, .int p] ∧ 1 ≤ R.length ∧ R.length ≤ 1000 ∧ A.length ≤ 1000 ∧ (p < 0 → E ⟨"NoPlace", ["many", "place"], [.non, .int p]⟩ S) ∧ (0 ≤ p → Q (.int (atSt A R p.toNat)) S)
theorem len_Stair_at : ∀ ds S Q E, sp_Stair_at ds S Q E → ds.length = 2 := fun _ _ _ _ ⟨_, _, _, e, _⟩ => by rw [e]; rfl
theorem at_ints {A : List Int} {i : Nat} (h : i < A.length) : atI (A.map D.int) (i : Int) = some (.int (A.getD i 0)) := by
  refine atI_nat (j := i) ?_
  rw [List.getElem?_map, List.getD_eq_getElem?_getD, List.getElem?_eq_getElem h]
  rfl
theorem fld_a {A R : List Int} {S : Sd} {Q : DK} {to : TED} {σ : Si} (h : ∀ P : DK, P (stD A R) S → to σ S P) (q : Q (ringD A) S) : dFld "Stair" "held_ahead" to σ S Q := h _ ⟨_, _, _, rfl, rfl, q⟩
theorem fld_r {A R : List Int} {S : Sd} {Q : DK} {to : TED} {σ : Si} (h : ∀ P : DK, P (stD A R) S → to σ S P) (q : Q (ringD R) S) : dFld "Stair" "held_ring" to σ S Q := h _ ⟨_, _, _, rfl, rfl, q⟩

def sp_told_stair : SpD := fun ds S Q _ => ∃ A R : List Int, ds = [ringD A, ringD R] ∧ A.length ≤ 1000 ∧ 1 ≤ R.length ∧ R.length ≤ 1000 ∧ Q (stF (fewest A R)) S
theorem len_told_stair : ∀ ds S Q E, sp_told_stair ds S Q E → ds.length = 2 := fun _ _ _ _ ⟨_, _, e, _⟩ => by rw [e]; rfl

def sp_Stair_behind : SpD := fun ds S Q _ => ∃ (A R : List Int) (m : Nat), ds = [stD A R, .int m] ∧ A.length ≤ 100 ∧ R ≠ [] ∧ R.length ≤ 100 ∧ m ≤ 1000 ∧ Q (stF (fewest (A.drop m) (trn ((m - A.length) % R.length) R))) S
theorem len_Stair_behind : ∀ ds S Q E, sp_Stair_behind ds S Q E → ds.length = 2 := fun _ _ _ _ ⟨_, _, _, e, _⟩ => by rw [e]; rfl
theorem cutD_fromX (L : List Int) (m : Nat) : cutD (L.map D.int) (some (m : Int)) none = (L.drop m).map D.int := by
  by_cases h : m ≤ L.length
  · rw [cutD_from (by rw [List.length_map]; exact h), List.map_drop]
  · rw [List.drop_eq_nil_of_le (by omega)]
    unfold cutD
    rw [HT.sIx_nat, List.length_map, Nat.min_eq_right (by omega), List.drop_eq_nil_of_le (by rw [List.length_map]; exact Nat.le_refl _), List.take_nil]
    rfl
theorem trn_cut {L : List Int} {i : Nat} (h : i ≤ L.length) : D.tup (cutD (L.map D.int) (some (i : Int)) none ++ cutD (L.map D.int) none (some (i : Int))) = ringD (trn i L) := by
  rw [cutD_from (by rw [List.length_map]; exact h), cutD_to (by rw [List.length_map]; exact h), trn_take h]
  unfold ringD
  rw [List.map_append, List.map_drop, List.map_take]

def sp_is_word : SpD := fun ds S Q _ => ∃ d n, ds = [d] ∧ sm n d = true ∧ Q (.bl (isWordD d)) S
theorem len_is_word : ∀ ds S Q E, sp_is_word ds S Q E → ds.length = 1 := fun _ _ _ _ ⟨_, _, e, _⟩ => by rw [e]; rfl

def sp_Ring___init__ : SpD := fun ds S Q _ => ∃ (a : Addr) (L : List Int), ds = [.obj a, ringD L] ∧ RowI L ∧ S a = some (.ins "Ring" [] []) ∧ Q .non (upS S a (.ins "Ring" ["held"] [ringD L]))
theorem len_Ring___init__ : ∀ ds S Q E, sp_Ring___init__ ds S Q E → ds.length = 2 := fun _ _ _ _ ⟨_, _, e, _⟩ => by rw [e]; rfl

def sp_law_urn : SpD := fun ds S Q _ => ∃ (ns : List Int) (at_ : Int), ds = [.lst (ns.map D.int), .int at_] ∧ 0 ≤ at_ ∧ at_ < 100 ∧ ∀ u S', S u = none → Urn S' u 0 → Oth S S' u → Q (.obj u) S'
theorem len_law_urn : ∀ ds S Q E, sp_law_urn ds S Q E → ds.length = 2 := fun _ _ _ _ ⟨_, _, e, _⟩ => by rw [e]; rfl

def sp_law_draw : SpD := fun ds S Q _ => ∃ u w B, ds = [.obj u, .int w] ∧ Urn S u B ∧ B ≤ 2 ^ 100 ∧ 0 < w ∧ w < 2 ^ 1000 ∧ ∀ n S', 0 ≤ n → n < w → Urn S' u (B + 1) → Oth S S' u → Q (.int n) S'
theorem len_law_draw : ∀ ds S Q E, sp_law_draw ds S Q E → ds.length = 2 := fun _ _ _ _ ⟨_, _, _, e, _⟩ => by rw [e]; rfl

def sp_law_whole : SpD := fun ds S Q _ => ∃ d, ds = [d] ∧ isData d = true ∧ Q (.bl (isWh d)) S
theorem len_law_whole : ∀ ds S Q E, sp_law_whole ds S Q E → ds.length = 1 := fun _ _ _ _ ⟨_, e, _⟩ => by rw [e]; rfl

def sp_law_ring : SpD := fun ds S Q _ => ∃ (u : Addr) (B : Int), ds = [.obj u, .int 40] ∧ Urn S u B ∧ B ≤ 2 ^ 97 ∧ ∀ (L : List Int) S', RowI L → Urn S' u (B + 100) → Oth S S' u → Q (ringD L) S'
theorem len_law_ring : ∀ ds S Q E, sp_law_ring ds S Q E → ds.length = 2 := fun _ _ _ _ ⟨_, _, e, _⟩ => by rw [e]; rfl

def sp_law_ahead : SpD := fun ds S Q _ => ∃ (u : Addr) (B : Int) (R : List Int), ds = [.obj u, ringD R] ∧ RowI R ∧ Urn S u B ∧ B ≤ 2 ^ 97 ∧
  ∀ (A : List Int) S', A.length ≤ 20 → (∀ a ∈ A, a.natAbs ≤ 999999) → (∀ a ∈ A.tail, 1 ≤ a) → Urn S' u (B + 100) → Oth S S' u → Q (ringD A) S'
theorem len_law_ahead : ∀ ds S Q E, sp_law_ahead ds S Q E → ds.length = 2 := fun _ _ _ _ ⟨_, _, _, e, _⟩ => by rw [e]; rfl

def sp_law_drawn : SpD := fun ds S Q _ => ∃ (u : Addr) (B : Int), ds = [.obj u] ∧ Urn S u B ∧ B ≤ 2 ^ 96 ∧ ∀ (A R : List Int) S', RowOk A R → Urn S' u (B + 250) → Oth S S' u → Q (.tup [ringD A, ringD R]) S'
theorem len_law_drawn : ∀ ds S Q E, sp_law_drawn ds S Q E → ds.length = 1 := fun _ _ _ _ ⟨_, _, e, _⟩ => by rw [e]; rfl

def sp_law_unrolled : SpD := fun ds S Q _ => ∃ (u : Addr) (B : Int) (A R : List Int), ds = [.obj u, ringD A, ringD R] ∧ RowOk A R ∧ Urn S u B ∧ B ≤ 2 ^ 97 ∧ ∀ (A' R' : List Int) S', RowOk A' R' → Urn S' u (B + 1) → Oth S S' u → Q (.tup [ringD A', ringD R']) S'
theorem len_law_unrolled : ∀ ds S Q E, sp_law_unrolled ds S Q E → ds.length = 3 := fun _ _ _ _ ⟨_, _, _, _, e, _⟩ => by rw [e]; rfl

def sp_law_row : SpD := fun ds S Q _ => ∃ (A R : List Int) (n : Nat), ds = [ringD A, ringD R, .int n] ∧ R ≠ [] ∧ R.length ≤ 100 ∧ A.length ≤ 100 ∧ n ≤ 1000 ∧ Q (.lst ((rwL (rowF A R) n).map D.int)) S
theorem len_law_row : ∀ ds S Q E, sp_law_row ds S Q E → ds.length = 3 := fun _ _ _ _ ⟨_, _, _, e, _⟩ => by rw [e]; rfl

def sp_law_fewest : SpD := fun ds S Q _ => ∃ A R : List Int, ds = [ringD A, ringD R] ∧ R ≠ [] ∧ R.length ≤ 40 ∧ A.length ≤ 20 ∧ Q (.tup [ringD (fewest A R).1, ringD (fewest A R).2]) S
theorem len_law_fewest : ∀ ds S Q E, sp_law_fewest ds S Q E → ds.length = 2 := fun _ _ _ _ ⟨_, _, e, _⟩ => by rw [e]; rfl

def sp_law_shown_right : SpD := fun ds S Q _ => ∃ A R : List Int, ds = [stD A R, .tup [ringD A, ringD R]] ∧ FewI A R ∧ R ≠ [] ∧ Q (.bl true) S
theorem len_law_shown_right : ∀ ds S Q E, sp_law_shown_right ds S Q E → ds.length = 2 := fun _ _ _ _ ⟨_, _, e, _⟩ => by rw [e]; rfl

def sp_law_places_right : SpD := fun ds S Q _ => ∃ (u : Addr) (B : Int) (A R : List Int), ds = [.obj u, stD A R, .tup [ringD A, ringD R]] ∧ FewI A R ∧ A.length ≤ 20 ∧ R.length ≤ 40 ∧ R ≠ [] ∧ Prm R ∧ (A = [] ∨ A.getLast? ≠ R.getLast?) ∧ Urn S u B ∧ B ≤ 2 ^ 96 ∧ ∀ S', Urn S' u (B + 10) → Oth S S' u → Q (.bl true) S'
theorem len_law_places_right : ∀ ds S Q E, sp_law_places_right ds S Q E → ds.length = 3 := fun _ _ _ _ ⟨_, _, _, _, e, _⟩ => by rw [e]; rfl

/-! readings, printed by gen.py -/
abbrev N_is_whole : List Str := ["thing"]
def t_is_whole (Ed : XKD) : TSD :=
  (dRet (dAndV (dCB rdIsi (dCons (dVar 0) (dCons (dC (.ty "int")) dNil))) (dNotV (dCB rdIsi (dCons (dVar 0) (dCons (dC (.ty "bool")) dNil))))))
theorem st_is_whole (a0 : D) : startD N_is_whole [a0] = [some a0] := rfl
abbrev N_shared_by : List Str := ["one", "other"]
def t_shared_by (Ed : XKD) : TSD :=
  (dSeq (dPar 0 1 (dCons (dCB rdAbs (dCons (dVar 0) dNil)) (dCons (dCB rdAbs (dCons (dVar 1) dNil)) dNil)))
  (dSeq (dWhile (dTest (dOp rdGt (dVar 1) (dC (.int 0))))
  (dPar 0 1 (dCons (dVar 1) (dCons (dOp rdMod (dVar 0) (dVar 1)) dNil))))
  (dRet (dVar 0))))
theorem st_shared_by (a0 a1 : D) : startD N_shared_by [a0, a1] = [some a0, some a1] := rfl
abbrev N_side_of : List Str := ["square", "side", "closer"]
def t_side_of (Ed : XKD) : TSD :=
  (dSeq (dIfS (dTest (dOp rdLt (dVar 0) (dC (.int 2)))) (dRet (dVar 0)) dNext)
  (dSeq (dSet 1 (dOp rdShl (dC (.int 1)) (dOp rdFdiv (dOp rdAdd (dBits (dVar 0)) (dC (.int 1))) (dC (.int 2)))))
  (dSeq (dSet 2 (dOp rdFdiv (dOp rdAdd (dVar 1) (dOp rdFdiv (dVar 0) (dVar 1))) (dC (.int 2))))
  (dSeq (dWhile (dTest (dOp rdLt (dVar 2) (dVar 1)))
  (dSeq (dSet 1 (dVar 2))
  (dSet 2 (dOp rdFdiv (dOp rdAdd (dVar 1) (dOp rdFdiv (dVar 0) (dVar 1))) (dC (.int 2))))))
  (dRet (dVar 1))))))
theorem st_side_of (a0 : D) : startD N_side_of [a0] = [some a0, none, none] := rfl
abbrev N_is_square : List Str := ["number"]
def t_is_square (Ed : XKD) : TSD :=
  (dRet (dAndV (dOp rdGe (dVar 0) (dC (.int 0))) (dOp rdEq (dOp rdPow (dCall sp_side_of [] (wd Ed) (dCons (dVar 0) dNil)) (dC (.int 2))) (dVar 0))))
theorem st_is_square (a0 : D) : startD N_is_square [a0] = [some a0] := rfl
abbrev N_is_under_root : List Str := ["thing"]
def t_is_under_root (Ed : XKD) : TSD :=
  (dRet (dAndV (dCall sp_is_whole [] (wd Ed) (dCons (dVar 0) dNil)) (dAndV (dOp rdGe (dVar 0) (dC k_LEAST_SQUARE)) (dNotV (dCall sp_is_square [] (wd Ed) (dCons (dVar 0) dNil))))))
theorem st_is_under_root (a0 : D) : startD N_is_under_root [a0] = [some a0] := rfl
abbrev N_is_bottom : List Str := ["thing"]
def t_is_bottom (Ed : XKD) : TSD :=
  (dRet (dAndV (dCall sp_is_whole [] (wd Ed) (dCons (dVar 0) dNil)) (dOp rdGe (dVar 0) (dC (.int 1)))))
theorem st_is_bottom (a0 : D) : startD N_is_bottom [a0] = [some a0] := rfl
abbrev N_look_parts : List Str := ["parts", "name", "part", "look"]
def t_look_parts (Ed : XKD) : TSD :=
  (dFor (dZipS (dCons (dC k_PARTS) (dCons (dVar 0) dNil))) (dTupG 2 (dGCons (dName 1) (dGCons (dName 2) dGNil)))
  (dSeq (dSet 3 (dKix k_LOOKS (dVar 1)))
  (dIfS (dNot (dTest (dCallV 3 [("is_whole", sp_is_whole), ("is_under_root", sp_is_under_root), ("is_bottom", sp_is_bottom)] (wd Ed) (dCons (dVar 2) dNil)))) (dRaiseF1 (wd Ed) "NoNumber" "part" (dCons (dVar 1) dNil)) dNext)))
theorem st_look_parts (a0 : D) : startD N_look_parts [a0] = [some a0, none, none, none] := rfl
abbrev N_Root___init__ : List Str := ["self", "top", "often", "square", "bottom", "both"]
def t_Root___init__ (Ed : XKD) : TSD :=
  (dSeq (dDrop (dCall sp_look_parts [] (wd Ed) (dCons (dTup (dCons (dVar 1) (dCons (dVar 2) (dCons (dVar 3) (dCons (dVar 4) dNil))))) dNil)))
  (dSeq (dSet 5 (dCall sp_shared_by [] (wd Ed) (dCons (dCall sp_shared_by [] (wd Ed) (dCons (dVar 1) (dCons (dVar 2) dNil))) (dCons (dVar 4) dNil))))
  (dPut "Root" "held" (dVar 0) (dTup (dCons (dOp rdFdiv (dVar 1) (dVar 5)) (dCons (dOp rdFdiv (dVar 2) (dVar 5)) (dCons (dVar 3) (dCons (dOp rdFdiv (dVar 4) (dVar 5)) dNil))))))))
theorem st_Root___init__ (a0 a1 a2 a3 a4 : D) : startD N_Root___init__ [a0, a1, a2, a3, a4] = [some a0, some a1, some a2, some a3, some a4, none] := rfl
abbrev N_is_within : List Str := ["thing", "least", "most"]
def t_is_within (Ed : XKD) : TSD :=
  (dRet (dAndV (dCall sp_is_whole [] (wd Ed) (dCons (dVar 0) dNil)) (dChain rdLe rdLe (dVar 1) (dVar 0) (dVar 2))))
theorem st_is_within (a0 a1 a2 : D) : startD N_is_within [a0, a1, a2] = [some a0, some a1, some a2] := rfl
abbrev N_is_row : List Str := ["thing", "least", "most", "number"]
def t_is_row (Ed : XKD) : TSD :=
  (dSeq (dIfS (dOr (dNot (dTest (dCB rdIsi (dCons (dVar 0) (dCons (dC (.ty "tuple")) dNil))))) (dNot (dTest (dChain rdLe rdLe (dVar 1) (dCB rdLen (dCons (dVar 0) dNil)) (dVar 2))))) (dRet (dC (.bl false))) dNext)
  (dRet (dCB rdAll (dCons (dComp (dItr (dVar 0)) (dName 3) dYes (dCall sp_is_within [] wd0 (dCons (dVar 3) (dCons (dC (.int 1)) (dCons (dC k_MOST_NUMBER) dNil)))) [3]) dNil))))
theorem st_is_row (a0 a1 a2 : D) : startD N_is_row [a0, a1, a2] = [some a0, some a1, some a2, none] := rfl
abbrev N_is_number_ring : List Str := ["thing"]
def t_is_number_ring (Ed : XKD) : TSD :=
  (dRet (dCall sp_is_row [] (wd Ed) (dCons (dVar 0) (dCons (dC (.int 1)) (dCons (dC k_MOST_RING) dNil)))))
theorem st_is_number_ring (a0 : D) : startD N_is_number_ring [a0] = [some a0] := rfl
abbrev N_is_ahead : List Str := ["thing"]
def t_is_ahead (Ed : XKD) : TSD :=
  (dSeq (dIfS (dOr (dNot (dTest (dCB rdIsi (dCons (dVar 0) (dCons (dC (.ty "tuple")) dNil))))) (dTest (dOp rdEq (dCB rdLen (dCons (dVar 0) dNil)) (dC (.int 0))))) (dRet (dOp rdEq (dVar 0) (dTup dNil))) dNext)
  (dSeq (dIfS (dNot (dTest (dCall sp_is_within [] (wd Ed) (dCons (dOp rdIx (dVar 0) (dC (.int 0))) (dCons (dOp rdSub (dC (.int 0)) (dC k_MOST_NUMBER)) (dCons (dC k_MOST_NUMBER) dNil)))))) (dRet (dC (.bl false))) dNext)
  (dRet (dCall sp_is_row [] (wd Ed) (dCons (dSl (dVar 0) (dPart (dC (.int 1))) dNoPart) (dCons (dC (.int 0)) (dCons (dOp rdSub (dC k_MOST_AHEAD) (dC (.int 1))) dNil)))))))
theorem st_is_ahead (a0 : D) : startD N_is_ahead [a0] = [some a0] := rfl
abbrev N_shortest_part : List Str := ["parts", "many", "size"]
def t_shortest_part (Ed : XKD) : TSD :=
  (dSeq (dSet 1 (dCB rdLen (dCons (dVar 0) dNil)))
  (dSeq (dFor (dRng2 (dCons (dC (.int 1)) (dCons (dVar 1) dNil))) (dName 2)
  (dIfS (dAnd (dTest (dOp rdEq (dOp rdMod (dVar 1) (dVar 2)) (dC (.int 0)))) (dTest (dOp rdEq (dOp rdMulA (dSl (dVar 0) dNoPart (dPart (dVar 2))) (dOp rdFdiv (dVar 1) (dVar 2))) (dVar 0)))) (dRet (dSl (dVar 0) dNoPart (dPart (dVar 2)))) dNext))
  (dRet (dVar 0))))
theorem st_shortest_part (a0 : D) : startD N_shortest_part [a0] = [some a0, none, none] := rfl
abbrev N_Stair_keep_rows : List Str := ["self", "ahead", "ring"]
def t_Stair_keep_rows (Ed : XKD) : TSD :=
  (dSeq (dSet 2 (dCall sp_shortest_part [] (wd Ed) (dCons (dVar 2) dNil)))
  (dSeq (dWhile (dAnd (dTest (dOp rdNe (dVar 1) (dTup dNil))) (dTest (dOp rdEq (dOp rdIx (dVar 1) (dUn rdNeg (dC (.int 1)))) (dOp rdIx (dVar 2) (dUn rdNeg (dC (.int 1)))))))
  (dSeq (dSet 1 (dSl (dVar 1) dNoPart (dPart (dUn rdNeg (dC (.int 1))))))
  (dSet 2 (dOp rdAdd (dSl (dVar 2) (dPart (dUn rdNeg (dC (.int 1)))) dNoPart) (dSl (dVar 2) dNoPart (dPart (dUn rdNeg (dC (.int 1)))))))))
  (dSeq (dPutB "Stair" "held_ahead" (dVar 0) (dVar 1))
  (dPutB "Stair" "held_ring" (dVar 0) (dVar 2)))))
theorem st_Stair_keep_rows (a0 a1 a2 : D) : startD N_Stair_keep_rows [a0, a1, a2] = [some a0, some a1, some a2] := rfl
abbrev N_Stair___init__ : List Str := ["self", "ahead", "ring"]
def t_Stair___init__ (Ed : XKD) : TSD :=
  (dSeq (dIfS (dOr (dNot (dTest (dCall sp_is_ahead [] (wd Ed) (dCons (dVar 1) dNil)))) (dNot (dTest (dCall sp_is_number_ring [] (wd Ed) (dCons (dVar 2) dNil))))) (dRaise (wd Ed) ⟨"NoStair", [], []⟩) dNext)
  (dDrop (dMethO "Stair" "keep_rows" sp_Stair_keep_rows [] (wd Ed) (dVar 0) (dCons (dVar 1) (dCons (dVar 2) dNil)))))
theorem st_Stair___init__ (a0 a1 a2 : D) : startD N_Stair___init__ [a0, a1, a2] = [some a0, some a1, some a2] := rfl
abbrev N_Stair_ahead : List Str := ["self"]
def t_Stair_ahead (Ed : XKD) : TSD :=
  (dRet (dFld "Stair" "held_ahead" (dVar 0)))
theorem st_Stair_ahead (a0 : D) : startD N_Stair_ahead [a0] = [some a0] := rfl
abbrev N_Stair_ring : List Str := ["self"]
def t_Stair_ring (Ed : XKD) : TSD :=
  (dRet (dFld "Stair" "held_ring" (dVar 0)))
theorem st_Stair_ring (a0 : D) : startD N_Stair_ring [a0] = [some a0] := rfl
abbrev N_Stair___eq__ : List Str := ["self", "other"]
def t_Stair___eq__ (Ed : XKD) : TSD :=
  (dSeq (dIfS (dNot (dTest (dCB (rdIsiX "Stair" ["Ring", "Root"]) (dCons (dVar 1) (dCons (dC (.fn "Stair")) dNil))))) (dRet (dC (.bl false))) dNext)
  (dRet (dAndV (dOp rdEq (dFld "Stair" "held_ahead" (dVar 0)) (dMeth "Stair" "ahead" sp_Stair_ahead [] (wd Ed) (dVar 1) dNil)) (dOp rdEq (dFld "Stair" "held_ring" (dVar 0)) (dMeth "Stair" "ring" sp_Stair_ring [] (wd Ed) (dVar 1) dNil)))))
theorem st_Stair___eq__ (a0 a1 : D) : startD N_Stair___eq__ [a0, a1] = [some a0, some a1] := rfl
abbrev N_Stair___len__ : List Str := ["self"]
def t_Stair___len__ (Ed : XKD) : TSD :=
  (dRet (dCB rdLen (dCons (dOp rdAdd (dFld "Stair" "held_ahead" (dVar 0)) (dFld "Stair" "held_ring" (dVar 0))) dNil)))
theorem st_Stair___len__ (a0 : D) : startD N_Stair___len__ [a0] = [some a0] := rfl
abbrev N_Stair___str__ : List Str := ["self", "ahead", "ring", "number"]
def t_Stair___str__ (Ed : XKD) : TSD :=
  (dSeq (dSet 1 (dBM "str" rdJoin (dC (.str "")) (dCons (dComp (dItr (dFld "Stair" "held_ahead" (dVar 0))) (dName 3) dYes (dJoined [(dFmt (dVar 3)), (dC (.str " "))]) [3]) dNil)))
  (dSeq (dSet 2 (dBM "str" rdJoin (dC (.str " ")) (dCons (dComp (dItr (dFld "Stair" "held_ring" (dVar 0))) (dName 3) dYes (dCB rdStr (dCons (dVar 3) dNil)) [3]) dNil)))
  (dRet (dJoined [(dFmt (dVar 1)), (dC (.str "(")), (dFmt (dVar 2)), (dC (.str ")"))]))))
theorem st_Stair___str__ (a0 : D) : startD N_Stair___str__ [a0] = [some a0, none, none, none] := rfl
abbrev N_Stair___repr__ : List Str := ["self"]
def t_Stair___repr__ (Ed : XKD) : TSD :=
  (dRet (dJoined [(dC (.str "Stair(")), (dFmt (dFld "Stair" "held_ahead" (dVar 0))), (dC (.str ", ")), (dFmt (dFld "Stair" "held_ring" (dVar 0))), (dC (.str ")"))]))
theorem st_Stair___repr__ (a0 : D) : startD N_Stair___repr__ [a0] = [some a0] := rfl
abbrev N_Stair_at : List Str := ["self", "place"]
def t_Stair_at (Ed : XKD) : TSD :=
  (dSeq (dIfS (dTest (dOp rdLt (dVar 1) (dC (.int 0)))) (dRaiseF2 (wd Ed) "NoPlace" "place" "many" (dCons (dVar 1) (dCons (dC .non) dNil))) dNext)
  (dSeq (dIfS (dTest (dOp rdLt (dVar 1) (dCB rdLen (dCons (dFld "Stair" "held_ahead" (dVar 0)) dNil)))) (dRet (dOp rdIx (dFld "Stair" "held_ahead" (dVar 0)) (dVar 1))) dNext)
  (dRet (dOp rdIx (dFld "Stair" "held_ring" (dVar 0)) (dOp rdMod (dOp rdSub (dVar 1) (dCB rdLen (dCons (dFld "Stair" "held_ahead" (dVar 0)) dNil))) (dCB rdLen (dCons (dFld "Stair" "held_ring" (dVar 0)) dNil)))))))
theorem st_Stair_at (a0 a1 : D) : startD N_Stair_at [a0, a1] = [some a0, some a1] := rfl
abbrev N_told_stair : List Str := ["ahead", "ring", "found"]
def t_told_stair (Ed : XKD) : TSD :=
  (dSeq (dSet 2 (dMakeO "Stair" sp_Stair___init__ [] (wd Ed) (dCons (dTup dNil) (dCons (dTup (dCons (dC (.int 1)) dNil)) dNil))))
  (dSeq (dDrop (dMethO "Stair" "keep_rows" sp_Stair_keep_rows [] (wd Ed) (dVar 2) (dCons (dVar 0) (dCons (dVar 1) dNil))))
  (dRet (dFrzI (dVar 2)))))
theorem st_told_stair (a0 a1 : D) : startD N_told_stair [a0, a1] = [some a0, some a1, none] := rfl
abbrev N_Stair_behind : List Str := ["self", "many", "ahead", "turn"]
def t_Stair_behind (Ed : XKD) : TSD :=
  (dSeq (dSet 2 (dSl (dFld "Stair" "held_ahead" (dVar 0)) (dPart (dVar 1)) dNoPart))
  (dSeq (dSet 3 (dOp rdMod (dCB rdMax2 (dCons (dC (.int 0)) (dCons (dOp rdSub (dVar 1) (dCB rdLen (dCons (dFld "Stair" "held_ahead" (dVar 0)) dNil))) dNil))) (dCB rdLen (dCons (dFld "Stair" "held_ring" (dVar 0)) dNil))))
  (dRet (dCall sp_told_stair [] (wd Ed) (dCons (dVar 2) (dCons (dOp rdAdd (dSl (dFld "Stair" "held_ring" (dVar 0)) (dPart (dVar 3)) dNoPart) (dSl (dFld "Stair" "held_ring" (dVar 0)) dNoPart (dPart (dVar 3)))) dNil))))))
theorem st_Stair_behind (a0 a1 : D) : startD N_Stair_behind [a0, a1] = [some a0, some a1, none, none] := rfl
abbrev N_is_word : List Str := ["thing", "letter"]
def t_is_word (Ed : XKD) : TSD :=
  (dSeq (dIfS (dOr (dNot (dTest (dCB rdIsi (dCons (dVar 0) (dCons (dC (.ty "str")) dNil))))) (dNot (dTest (dChain rdLe rdLe (dC (.int 1)) (dCB rdLen (dCons (dVar 0) dNil)) (dC k_MOST_LETTERS))))) (dRet (dC (.bl false))) dNext)
  (dRet (dCB rdAll (dCons (dComp (dItr (dVar 0)) (dName 1) dYes (dOp rdInS (dVar 1) (dC k_LETTERS)) [1]) dNil))))
theorem st_is_word (a0 : D) : startD N_is_word [a0] = [some a0, none] := rfl
abbrev N_Ring___init__ : List Str := ["self", "parts"]
def t_Ring___init__ (Ed : XKD) : TSD :=
  (dSeq (dIfS (dAnd (dNot (dTest (dCall sp_is_word [] (wd Ed) (dCons (dVar 1) dNil)))) (dNot (dTest (dCall sp_is_number_ring [] (wd Ed) (dCons (dVar 1) dNil))))) (dRaise (wd Ed) ⟨"NoRing", [], []⟩) dNext)
  (dPut "Ring" "held" (dVar 0) (dVar 1)))
theorem st_Ring___init__ (a0 a1 : D) : startD N_Ring___init__ [a0, a1] = [some a0, some a1] := rfl
abbrev N_law_urn : List Str := ["_law_script", "_law_at", "_law_cell", "_law_great"]
def t_law_urn (Ed : XKD) : TSD :=
  (dSeq (dSet 2 (dC (.int 0)))
  (dSeq (dIfS (dTest (dOp rdLt (dVar 1) (dCB rdLen (dCons (dVar 0) dNil)))) (dSet 2 (dOp rdIx (dVar 0) (dVar 1))) dNext)
  (dSeq (dSet 3 (dCB rdAbs (dCons (dVar 2) dNil)))
  (dSeq (dIfS (dTest (dOp rdLt (dVar 3) (dOp rdPow (dC (.int 10)) (dC (.int 18))))) (dSet 3 (dC (.int 0))) dNext)
  (dRet (dLstO (dCons (dVar 3) (dCons (dOp rdAdd (dOp rdAdd (dOp rdAdd (dOp rdMod (dVar 2) (dC (.int 1000000000000000003))) (dOp rdMulA (dOp rdMulA (dC (.int 97)) (dVar 1)) (dVar 1))) (dOp rdMulA (dC (.int 31)) (dVar 1))) (dC (.int 1))) (dCons (dC (.int 0)) dNil)))))))))
theorem st_law_urn (a0 a1 : D) : startD N_law_urn [a0, a1] = [some a0, some a1, none, none] := rfl
abbrev N_law_draw : List Str := ["_law_urn_here", "_law_wide", "_law_digit", "_law_primes", "_law_step", "_law_base", "_law_mixed"]
def t_law_draw (Ed : XKD) : TSD :=
  (dSeq (dIfS (dTest (dOp rdGt (dOp rdIx (dVar 0) (dC (.int 0))) (dC (.int 0)))) (dSeq (dSet 2 (dOp rdMod (dOp rdIx (dVar 0) (dC (.int 0))) (dVar 1)))
  (dSeq (dStore (dVar 0) (dC (.int 0)) (dOp rdFdiv (dOp rdIx (dVar 0) (dC (.int 0))) (dVar 1)))
  (dRet (dVar 2)))) dNext)
  (dSeq (dSet 3 (dTup (dCons (dC (.int 2147483647)) (dCons (dC (.int 2147483629)) (dCons (dC (.int 2147483587)) (dCons (dC (.int 2147483579)) (dCons (dC (.int 2147483563)) (dCons (dC (.int 2147483549)) (dCons (dC (.int 2147483543)) dNil)))))))))
  (dSeq (dStore (dVar 0) (dC (.int 2)) (dOp rdAdd (dOp rdIx (dVar 0) (dC (.int 2))) (dC (.int 1))))
  (dSeq (dSet 4 (dOp rdIx (dVar 0) (dC (.int 2))))
  (dSeq (dSet 5 (dOp rdAdd (dOp rdAdd (dOp rdMulA (dOp rdIx (dVar 0) (dC (.int 1))) (dOp rdAdd (dOp rdMulA (dC (.int 2)) (dVar 4)) (dC (.int 1)))) (dOp rdMulA (dOp rdMulA (dC (.int 6007)) (dVar 4)) (dVar 4))) (dC (.int 53))))
  (dSeq (dSet 6 (dOp rdMod (dOp rdPow (dVar 5) (dC (.int 3))) (dOp rdIx (dVar 3) (dOp rdMod (dVar 4) (dC (.int 7))))))
  (dRet (dOp rdMod (dOp rdFdiv (dOp rdMod (dOp rdMulA (dVar 6) (dOp rdAdd (dOp rdFdiv (dVar 6) (dC (.int 8191))) (dVar 4))) (dOp rdIx (dVar 3) (dOp rdMod (dOp rdAdd (dVar 4) (dC (.int 3))) (dC (.int 7))))) (dC (.int 16))) (dVar 1)))))))))
theorem st_law_draw (a0 a1 : D) : startD N_law_draw [a0, a1] = [some a0, some a1, none, none, none, none, none] := rfl
abbrev N_law_whole : List Str := ["_law_thing"]
def t_law_whole (Ed : XKD) : TSD :=
  (dRet (dAndV (dCB rdIsi (dCons (dVar 0) (dCons (dC (.ty "int")) dNil))) (dNotV (dCB rdIsi (dCons (dVar 0) (dCons (dC (.ty "bool")) dNil))))))
theorem st_law_whole (a0 : D) : startD N_law_whole [a0] = [some a0] := rfl
abbrev N_law_ring : List Str := ["_law_urn_here", "_law_most", "_law_size", "_law_wide", "_law_k"]
def t_law_ring (Ed : XKD) : TSD :=
  (dSeq (dSet 2 (dOp rdIx (dLst (dCons (dC (.int 1)) (dCons (dC (.int 2)) (dCons (dC (.int 4)) (dCons (dC (.int 8)) (dCons (dC (.int 12)) (dCons (dC (.int 12)) (dCons (dC (.int 12)) (dCons (dVar 1) dNil))))))))) (dCall sp_law_draw [] (wd Ed) (dCons (dVar 0) (dCons (dC (.int 8)) dNil)))))
  (dSeq (dSet 3 (dOp rdIx (dLst (dCons (dC (.int 2)) (dCons (dC (.int 2)) (dCons (dC (.int 3)) (dCons (dC (.int 5)) (dCons (dC (.int 30)) (dCons (dC (.int 999999)) dNil))))))) (dCall sp_law_draw [] (wd Ed) (dCons (dVar 0) (dCons (dC (.int 6)) dNil)))))
  (dRet (dCB rdTupA (dCons (dComp (dRng1 (dCons (dOp rdAdd (dC (.int 1)) (dCall sp_law_draw [] (wd Ed) (dCons (dVar 0) (dCons (dVar 2) dNil)))) dNil)) (dName 4) dYes (dOp rdAdd (dC (.int 1)) (dCall sp_law_draw [] wd0 (dCons (dVar 0) (dCons (dVar 3) dNil)))) [4]) dNil)))))
theorem st_law_ring (a0 a1 : D) : startD N_law_ring [a0, a1] = [some a0, some a1, none, none, none] := rfl
abbrev N_law_ahead : List Str := ["_law_urn_here", "_law_ring_here", "_law_amount", "_law_wide", "_law_found", "_law_k"]
def t_law_ahead (Ed : XKD) : TSD :=
  (dSeq (dSet 2 (dOp rdIx (dLst (dCons (dC (.int 0)) (dCons (dC (.int 1)) (dCons (dC (.int 3)) (dCons (dC (.int 20)) dNil))))) (dCall sp_law_draw [] (wd Ed) (dCons (dVar 0) (dCons (dC (.int 4)) dNil)))))
  (dSeq (dSet 3 (dOp rdIx (dLst (dCons (dC (.int 2)) (dCons (dC (.int 3)) (dCons (dC (.int 30)) (dCons (dC (.int 999999)) dNil))))) (dCall sp_law_draw [] (wd Ed) (dCons (dVar 0) (dCons (dC (.int 4)) dNil)))))
  (dSeq (dSet 4 (dComp (dRng1 (dCons (dCall sp_law_draw [] (wd Ed) (dCons (dVar 0) (dCons (dOp rdAdd (dVar 2) (dC (.int 1))) dNil))) dNil)) (dName 5) dYes (dOp rdAdd (dC (.int 1)) (dCall sp_law_draw [] wd0 (dCons (dVar 0) (dCons (dVar 3) dNil)))) [5]))
  (dSeq (dIfS (dTest (dOp rdEq (dCall sp_law_draw [] (wd Ed) (dCons (dVar 0) (dCons (dC (.int 3)) dNil))) (dC (.int 0)))) (dSet 4 (dOp rdAdd (dSl (dVar 4) dNoPart (dPart (dOp rdSub (dC (.int 19)) (dCB rdMin2 (dCons (dC (.int 19)) (dCons (dCB rdLen (dCons (dVar 1) dNil)) dNil)))))) (dSl (dCB rdListA (dCons (dVar 1) dNil)) (dPart (dCall sp_law_draw [] (wd Ed) (dCons (dVar 0) (dCons (dCB rdLen (dCons (dVar 1) dNil)) dNil)))) dNoPart))) dNext)
  (dSeq (dSet 4 (dSlO (dVar 4) dNoPart (dPart (dC (.int 20)))))
  (dSeq (dIfS (dAnd (dTest (dOp rdNeO (dVar 4) (dLst dNil))) (dTest (dOp rdEq (dCall sp_law_draw [] (wd Ed) (dCons (dVar 0) (dCons (dC (.int 3)) dNil))) (dC (.int 0))))) (dStore (dVar 4) (dC (.int 0)) (dOp rdSub (dCall sp_law_draw [] (wd Ed) (dCons (dVar 0) (dCons (dOp rdAdd (dOp rdMulA (dC (.int 2)) (dVar 3)) (dC (.int 1))) dNil))) (dVar 3))) dNext)
  (dFrzV 4 (dRet (dCB rdTupA (dCons (dVar 4) dNil))))))))))
theorem st_law_ahead (a0 a1 : D) : startD N_law_ahead [a0, a1] = [some a0, some a1, none, none, none, none] := rfl
abbrev N_law_drawn : List Str := ["_law_urn_here", "_law_ring_here"]
def t_law_drawn (Ed : XKD) : TSD :=
  (dSeq (dSet 1 (dCall sp_law_ring [] (wd Ed) (dCons (dVar 0) (dCons (dC (.int 40)) dNil))))
  (dSeq (dIfS (dTest (dOp rdEq (dCall sp_law_draw [] (wd Ed) (dCons (dVar 0) (dCons (dC (.int 4)) dNil))) (dC (.int 0)))) (dSet 1 (dOp rdMulA (dVar 1) (dOp rdAdd (dC (.int 1)) (dCall sp_law_draw [] (wd Ed) (dCons (dVar 0) (dCons (dOp rdFdiv (dC (.int 40)) (dCB rdLen (dCons (dVar 1) dNil))) dNil)))))) dNext)
  (dRet (dTup (dCons (dCall sp_law_ahead [] (wd Ed) (dCons (dVar 0) (dCons (dVar 1) dNil))) (dCons (dVar 1) dNil))))))
theorem st_law_drawn (a0 : D) : startD N_law_drawn [a0] = [some a0, none] := rfl
abbrev N_law_unrolled : List Str := ["_law_urn_here", "_law_ahead_here", "_law_ring_here", "_law_amount", "_law_far", "_law_turned_ring"]
def t_law_unrolled (Ed : XKD) : TSD :=
  (dSeq (dSet 3 (dCall sp_law_draw [] (wd Ed) (dCons (dVar 0) (dCons (dOp rdAdd (dCB rdLen (dCons (dVar 2) dNil)) (dC (.int 1))) dNil))))
  (dSeq (dSet 4 (dOp rdAdd (dVar 1) (dSl (dOp rdAdd (dVar 2) (dVar 2)) dNoPart (dPart (dVar 3)))))
  (dSeq (dSet 5 (dOp rdAdd (dSl (dVar 2) (dPart (dVar 3)) dNoPart) (dSl (dVar 2) dNoPart (dPart (dVar 3)))))
  (dSeq (dIfS (dTest (dOp rdGt (dCB rdLen (dCons (dVar 4) dNil)) (dC (.int 20)))) (dRet (dTup (dCons (dVar 1) (dCons (dVar 2) dNil)))) dNext)
  (dRet (dTup (dCons (dVar 4) (dCons (dVar 5) dNil))))))))
theorem st_law_unrolled (a0 a1 a2 : D) : startD N_law_unrolled [a0, a1, a2] = [some a0, some a1, some a2, none, none, none] := rfl
abbrev N_law_row : List Str := ["_law_ahead_here", "_law_ring_here", "_law_amount", "_law_found"]
def t_law_row (Ed : XKD) : TSD :=
  (dSeq (dSet 3 (dCB rdListO (dCons (dVar 0) dNil)))
  (dSeq (dWhile (dTest (dOp rdLt (dCB rdLen (dCons (dVar 3) dNil)) (dVar 2)))
  (dDrop (dBM "list" rdExt (dVar 3) (dCons (dVar 1) dNil))))
  (dFrzV 3 (dRet (dSl (dVar 3) dNoPart (dPart (dVar 2)))))))
theorem st_law_row (a0 a1 a2 : D) : startD N_law_row [a0, a1, a2] = [some a0, some a1, some a2, none] := rfl
abbrev N_law_fewest : List Str := ["_law_ahead_here", "_law_ring_here", "_law_row_here", "_law_size", "_law_begin"]
def t_law_fewest (Ed : XKD) : TSD :=
  (dSeq (dSet 2 (dCall sp_law_row [] (wd Ed) (dCons (dVar 0) (dCons (dVar 1) (dCons (dC (.int 140)) dNil)))))
  (dSeq (dSet 3 (dC (.int 1)))
  (dSeq (dWhile (dOr (dTest (dOp rdNe (dSl (dVar 2) (dPart (dC (.int 20))) (dPart (dC (.int 60)))) (dSl (dVar 2) (dPart (dOp rdAdd (dC (.int 20)) (dVar 3))) (dPart (dOp rdAdd (dC (.int 60)) (dVar 3)))))) (dTest (dOp rdNe (dSl (dVar 2) (dPart (dC (.int 60))) (dPart (dC (.int 80)))) (dSl (dVar 2) (dPart (dOp rdAdd (dC (.int 60)) (dVar 3))) (dPart (dOp rdAdd (dC (.int 80)) (dVar 3)))))))
  (dSet 3 (dOp rdAdd (dVar 3) (dC (.int 1)))))
  (dSeq (dSet 4 (dC (.int 0)))
  (dSeq (dWhile (dTest (dOp rdNe (dSl (dVar 2) (dPart (dVar 4)) (dPart (dC (.int 60)))) (dSl (dVar 2) (dPart (dOp rdAdd (dVar 4) (dVar 3))) (dPart (dOp rdAdd (dC (.int 60)) (dVar 3))))))
  (dSet 4 (dOp rdAdd (dVar 4) (dC (.int 1)))))
  (dRet (dTup (dCons (dCB rdTupA (dCons (dSl (dVar 2) dNoPart (dPart (dVar 4))) dNil)) (dCons (dCB rdTupA (dCons (dSl (dVar 2) (dPart (dVar 4)) (dPart (dOp rdAdd (dVar 4) (dVar 3)))) dNil)) dNil)))))))))
theorem st_law_fewest (a0 a1 : D) : startD N_law_fewest [a0, a1] = [some a0, some a1, none, none, none] := rfl
abbrev N_law_shown_right : List Str := ["_law_stair", "_law_due", "_law_ahead_here", "_law_ring_here", "_law_text", "_law_number"]
def t_law_shown_right (Ed : XKD) : TSD :=
  (dSeq (dAsg (dVar 1) (dTupG 2 (dGCons (dName 2) (dGCons (dName 3) dGNil))))
  (dSeq (dIfS (dOr (dTest (dOp rdNe (dMeth "Stair" "ahead" sp_Stair_ahead [] (wd Ed) (dVar 0) dNil) (dVar 2))) (dOr (dTest (dOp rdNe (dMeth "Stair" "ring" sp_Stair_ring [] (wd Ed) (dVar 0) dNil) (dVar 3))) (dNot (dTest (dCB rdIsi (dCons (dMeth "Stair" "ahead" sp_Stair_ahead [] (wd Ed) (dVar 0) dNil) (dCons (dC (.ty "tuple")) dNil))))))) (dRet (dC (.bl false))) dNext)
  (dSeq (dIfS (dOr (dNot (dTest (dCB rdIsi (dCons (dMeth "Stair" "ring" sp_Stair_ring [] (wd Ed) (dVar 0) dNil) (dCons (dC (.ty "tuple")) dNil))))) (dOr (dTest (dOp rdNe (dCB (rdLenI "Stair" sp_Stair___len__) (dCons (dVar 0) dNil)) (dOp rdAdd (dCB rdLen (dCons (dVar 2) dNil)) (dCB rdLen (dCons (dVar 3) dNil))))) (dNot (dTruL "Stair" sp_Stair___len__ (dVar 0))))) (dRet (dC (.bl false))) dNext)
  (dSeq (dSet 4 (dOp rdAdd (dOp rdAdd (dOp rdAdd (dBM "str" rdJoin (dC (.str "")) (dCons (dComp (dItr (dVar 2)) (dName 5) dYes (dOp rdAdd (dCB rdStr (dCons (dVar 5) dNil)) (dC (.str " "))) [5]) dNil)) (dC (.str "("))) (dBM "str" rdJoin (dC (.str " ")) (dCons (dComp (dItr (dVar 3)) (dName 5) dYes (dCB rdStr (dCons (dVar 5) dNil)) [5]) dNil))) (dC (.str ")"))))
  (dRet (dAndV (dOp rdEq (dCB (rdReprI "Stair" sp_Stair___str__) (dCons (dVar 0) dNil)) (dVar 4)) (dOp rdEq (dCB (rdReprI "Stair" sp_Stair___repr__) (dCons (dVar 0) dNil)) (dOp rdAdd (dOp rdAdd (dOp rdAdd (dOp rdAdd (dC (.str "Stair(")) (dCB rdStrT (dCons (dVar 2) dNil))) (dC (.str ", "))) (dCB rdStrT (dCons (dVar 3) dNil))) (dC (.str ")"))))))))))
theorem st_law_shown_right (a0 a1 : D) : startD N_law_shown_right [a0, a1] = [some a0, some a1, none, none, none, none] := rfl
abbrev N_law_places_right : List Str := ["_law_urn_here", "_law_stair", "_law_due", "_law_row_here", "_law_spot", "_law_told", "_law_wanted", "_law_amount", "_law_behind", "_law_far", "_law_gone", "_law_at"]
def t_law_places_right (Ed : XKD) : TSD :=
  (dSeq (dSet 3 (dCall sp_law_row [] (wd Ed) (dCons (dOp rdIx (dVar 2) (dC (.int 0))) (dCons (dOp rdIx (dVar 2) (dC (.int 1))) (dCons (dC (.int 260)) dNil)))))
  (dSeq (dFor (dItr (dLst (dCons (dC (.int 0)) (dCons (dC (.int 1)) (dCons (dCB rdLen (dCons (dOp rdIx (dVar 2) (dC (.int 0))) dNil)) (dCons (dCall sp_law_draw [] (wd Ed) (dCons (dVar 0) (dCons (dC (.int 80)) dNil))) (dCons (dOp rdAdd (dC (.int 200)) (dCall sp_law_draw [] (wd Ed) (dCons (dVar 0) (dCons (dC (.int 50)) dNil)))) (dCons (dCall sp_law_draw [] (wd Ed) (dCons (dVar 0) (dCons (dC (.int 1001)) dNil))) dNil)))))))) (dName 4)
  (dSeq (dSet 5 (dMeth "Stair" "at" sp_Stair_at [] (wd Ed) (dVar 1) (dCons (dVar 4) dNil)))
  (dSeq (dSet 6 (dOp rdIx (dOp rdIx (dVar 2) (dC (.int 1))) (dOp rdMod (dOp rdSub (dVar 4) (dCB rdLen (dCons (dOp rdIx (dVar 2) (dC (.int 0))) dNil))) (dCB rdLen (dCons (dOp rdIx (dVar 2) (dC (.int 1))) dNil)))))
  (dSeq (dIfS (dTest (dOp rdLt (dVar 4) (dCB rdLen (dCons (dOp rdIx (dVar 2) (dC (.int 0))) dNil)))) (dSet 6 (dOp rdIx (dOp rdIx (dVar 2) (dC (.int 0))) (dVar 4))) dNext)
  (dIfS (dOr (dNot (dTest (dCall sp_law_whole [] (wd Ed) (dCons (dVar 5) dNil)))) (dOr (dTest (dOp rdNe (dVar 5) (dVar 6))) (dTest (dOp rdNe (dMethK "Stair" "at" sp_Stair_at 1 [0, 1] (wd Ed) (dVar 1) (dCons (dVar 4) dNil)) (dVar 5))))) (dRet (dC (.bl false))) dNext)))))
  (dSeq (dSet 7 (dCall sp_law_draw [] (wd Ed) (dCons (dVar 0) (dCons (dC (.int 101)) dNil))))
  (dSeq (dSet 8 (dLst (dCons (dMeth "Stair" "behind" sp_Stair_behind [] (wd Ed) (dVar 1) (dCons (dVar 7) dNil)) (dCons (dMethK "Stair" "behind" sp_Stair_behind 1 [0, 1] (wd Ed) (dVar 1) (dCons (dVar 7) dNil)) (dCons (dMeth "Stair" "behind" sp_Stair_behind [.int 1] (wd Ed) (dVar 1) dNil) (dCons (dMeth "Stair" "behind" sp_Stair_behind [] (wd Ed) (dVar 1) (dCons (dC (.int 0)) dNil)) dNil))))))
  (dSeq (dFor (dZip (dCons (dVar 8) (dCons (dLst (dCons (dVar 7) (dCons (dVar 7) (dCons (dC (.int 1)) (dCons (dC (.int 0)) dNil))))) dNil))) (dTupG 2 (dGCons (dName 9) (dGCons (dName 10) dGNil)))
  (dSeq (dSet 11 (dOp rdMod (dOp rdSub (dOp rdAdd (dVar 10) (dC (.int 20))) (dCB rdLen (dCons (dOp rdIx (dVar 2) (dC (.int 0))) dNil))) (dCB rdLen (dCons (dOp rdIx (dVar 2) (dC (.int 1))) dNil))))
  (dSeq (dSet 6 (dCall sp_law_fewest [] (wd Ed) (dCons (dCB rdTupA (dCons (dSl (dVar 3) (dPart (dVar 10)) (dPart (dOp rdAdd (dVar 10) (dC (.int 20))))) dNil)) (dCons (dOp rdAdd (dSl (dOp rdIx (dVar 2) (dC (.int 1))) (dPart (dVar 11)) dNoPart) (dSl (dOp rdIx (dVar 2) (dC (.int 1))) dNoPart (dPart (dVar 11)))) dNil))))
  (dIfS (dNot (dTest (dCall sp_law_shown_right [] (wd Ed) (dCons (dVar 9) (dCons (dVar 6) dNil))))) (dRet (dC (.bl false))) dNext))))
  (dRet (dC (.bl true))))))))
theorem st_law_places_right (a0 a1 a2 : D) : startD N_law_places_right [a0, a1, a2] = [some a0, some a1, some a2, none, none, none, none, none, none, none, none, none] := rfl
abbrev N_law : List Str := ["_law_script", "_law_at", "_law_urn_here", "_law_ahead_here", "_law_ring_here", "_law_some", "_law_stairs", "_law_due", "_law_turn", "_law_stair", "_law_wanted", "_law_same", "_law_things", "_law_one", "_law_other", "_law_thing"]
def t_law (Ed : XKD) : TSD :=
  (dSeq (dFor (dRng1 (dCons (dCB rdMax2 (dCons (dC (.int 1)) (dCons (dCB rdMin2 (dCons (dC (.int 4)) (dCons (dCB rdLen (dCons (dVar 0) dNil)) dNil))) dNil))) dNil)) (dName 1)
  (dSeq (dSet 2 (dCall sp_law_urn [] (wd Ed) (dCons (dVar 0) (dCons (dVar 1) dNil))))
  (dSeq (dAsg (dCall sp_law_drawn [] (wd Ed) (dCons (dVar 2) dNil)) (dTupG 2 (dGCons (dName 3) (dGCons (dName 4) dGNil))))
  (dSeq (dSet 5 (dLst (dCons (dTup (dCons (dVar 3) (dCons (dVar 4) dNil))) (dCons (dCall sp_law_unrolled [] (wd Ed) (dCons (dVar 2) (dCons (dVar 3) (dCons (dVar 4) dNil)))) (dCons (dCall sp_law_drawn [] (wd Ed) (dCons (dVar 2) dNil)) dNil)))))
  (dSeq (dSet 6 (dComp (dItr (dVar 5)) (dTupG 2 (dGCons (dName 13) (dGCons (dName 14) dGNil))) dYes (dMake "Stair" sp_Stair___init__ [] wd0 (dCons (dVar 13) (dCons (dVar 14) dNil))) [13, 14]))
  (dSeq (dSet 7 (dComp (dItr (dVar 5)) (dTupG 2 (dGCons (dName 13) (dGCons (dName 14) dGNil))) dYes (dCall sp_law_fewest [] wd0 (dCons (dVar 13) (dCons (dVar 14) dNil))) [13, 14]))
  (dFor (dRng1 (dCons (dC (.int 2)) dNil)) (dName 8)
  (dFor (dZip (dCons (dVar 6) (dCons (dVar 7) dNil))) (dTupG 2 (dGCons (dName 9) (dGCons (dName 10) dGNil)))
  (dSeq (dIfS (dOr (dNot (dTest (dCall sp_law_shown_right [] (wd Ed) (dCons (dVar 9) (dCons (dVar 10) dNil))))) (dNot (dTest (dCall sp_law_places_right [] (wd Ed) (dCons (dVar 2) (dCons (dVar 9) (dCons (dVar 10) dNil))))))) (dRet (dC (.bl false))) dNext)
  (dSeq (dSet 11 (dComp (dItr (dVar 7)) (dName 14) dYes (dOp rdEq (dVar 10) (dVar 14)) [14]))
  (dSeq (dIfS (dOr (dTest (dOp rdNe (dComp (dItr (dVar 6)) (dName 14) dYes (dOp (rdEqI "Stair" sp_Stair___eq__) (dVar 9) (dVar 14)) [14]) (dVar 11))) (dTest (dOp rdEq (dComp (dItr (dVar 6)) (dName 14) dYes (dOp (rdNeI "Stair" sp_Stair___eq__) (dVar 9) (dVar 14)) [14]) (dVar 11)))) (dRet (dC (.bl false))) dNext)
  (dSeq (dSet 12 (dLst (dCons (dVar 10) (dCons (dOp rdIx (dVar 10) (dC (.int 1))) (dCons (dCB (rdReprI "Stair" sp_Stair___str__) (dCons (dVar 9) dNil)) (dCons (dC .non) (dCons (dMake "Ring" sp_Ring___init__ [] (wd Ed) (dCons (dOp rdIx (dVar 10) (dC (.int 1))) dNil)) (dCons (dMake "Root" sp_Root___init__ [.int 0, .int 2, .int 1] (wd Ed) (dCons (dC (.int 1)) dNil)) (dCons (dC (.int 1)) dNil)))))))))
  (dIfS (dOr (dTest (dCB rdAny (dCons (dComp (dItr (dVar 12)) (dName 15) dYes (dOp (rdEqX "Stair" ["Ring", "Root"] sp_Stair___eq__) (dVar 9) (dVar 15)) [15]) dNil))) (dTest (dOp rdNe (dOp (rdIn2I "Stair" sp_Stair___eq__) (dVar 9) (dSl (dVar 6) (dPart (dC (.int 1))) dNoPart)) (dOp (rdInD false) (dC (.bl true)) (dSl (dVar 11) (dPart (dC (.int 1))) dNoPart))))) (dRet (dC (.bl false))) dNext)))))))))))))
  (dRet (dC (.bl true))))
theorem st_law (a0 : D) : startD N_law [a0] = [some a0, none, none, none, none, none, none, none, none, none, none, none, none, none, none, none] := rfl

local macro_rules | `(tactic| walk_at "dy") => `(tactic| simp only [dCall, List.append_nil, dSeq, dSet, dIfS, dRet, dNext, dTest, dOp, dCB, dCons, dNil, dC, x_var0, x_varS, dTup, dLst, dLstO, dAndV, dOrV, dNotV, dAnd, dOr, dNot, dIf, dChain, dChain3, dStore, dBM, dDrop, dAsg, dTupG, x_tupL, x_tupX, dPlain, x_mulL, x_eqO_ss, x_neO_ss, dBM0, dGCons, dGNil, dName, dUn, dPar, dPar3, dSl, dPart, dNoPart, dRev, dBk, dFor, dItr, dRng1, dRng2,
  x_add_ii, x_add_ib, x_add_ss, x_add_tt, x_add_ll, x_sub, x_mul, x_mul_s, x_mulA, x_mulA_s, x_mulA_t, dCallK, sel_n1, sel_n2, sel_x2, sel_12, dZip, zipR, x_fdiv, x_mod, x_pow, x_neg, x_lt, x_le, x_gt, x_ge, x_eq_ii, x_eq_ss, x_eq_bb, x_ne_ii, x_ne_ss, x_ne_bb, x_abs, x_str_i, x_str_s, x_divmod, x_max2, x_min2, x_int_i, x_int_b, x_tupA_l, x_tupA_t, x_tupA_s, x_listA_l, x_listA_t, x_listA_s, x_sl_t, x_sl_l, x_sl_s, x_ixs, x_ixQ, x_ixS, atI_0, atI_1, atI_2, atI_3, x_inS, x_inT, x_notInT, dKin, dHT, dKeyed, keyR, dSumT, x_is_bb, x_isNot_bb, x_is_n, x_isNot_n, x_count, tyM,
  x_len_tup, x_len_lst, x_len_str, x_ixt, x_ixl, x_isi, isi_non_int, isi_non_bool, isi_non_str, isi_non_tuple, isi_non_list, isi_bl_int, isi_bl_bool, isi_bl_str, isi_bl_tuple, isi_bl_list, isi_int_int, isi_int_bool, isi_int_str, isi_int_tuple, isi_int_list, isi_str_int, isi_str_bool, isi_str_str, isi_str_tuple, isi_str_list, isi_tup_int, isi_tup_bool, isi_tup_str, isi_tup_tuple, isi_tup_list, isi_lst_int, isi_lst_bool, isi_lst_str, isi_lst_tuple, isi_lst_list,
  List.set_cons_zero, List.set_cons_succ, ite_tt, ite_ff, Bool.not_true, Bool.not_false, List.length_cons, List.length_nil, true_and, and_true, Nat.reduceAdd, Nat.reduceLeDiff, decide_eq_true_eq, Bool.not_eq_true', decide_eq_false_iff_not, reduceCtorEq, eq_self, if_false, if_true])

theorem pure_is_whole : ∀ ds S Q Ed, sp_is_whole ds S Q Ed → t_is_whole Ed { nx := fun _ S' => Q .non S', rt := Q } (startD N_is_whole ds) S := by
  rintro ds S Q Ed ⟨d, rfl, hd, q⟩
  rw [st_is_whole]
  unfold t_is_whole
  cases d <;> first | (walk_at "dy"; exact q) | exact absurd (show false = true from hd) Bool.false_ne_true

theorem pure_shared_by : ∀ ds S Q Ed, sp_shared_by ds S Q Ed → t_shared_by Ed { nx := fun _ S' => Q .non S', rt := Q } (startD N_shared_by ds) S := by
  rintro ds S Q Ed ⟨a, b, rfl, q⟩
  rw [st_shared_by]
  unfold t_shared_by
  walk_at "dy"
  have ab : ∀ x : Int, (if x < 0 then -x else x) = (x.natAbs : Int) := fun x => by split <;> omega
  rw [ab, ab]
  refine while_inv (fun m σ S' => ∃ x y : Nat, σ = [some (.int x), some (.int y)] ∧ S' = S ∧ Nat.gcd x y = Int.gcd a b ∧ m = y) b.natAbs ⟨_, _, rfl, rfl, rfl, rfl⟩ ?_
  rintro m σ S' N ⟨x, y, rfl, rfl, e, rfl⟩ k
  walk_at "dy"
  by_cases c : 0 < (m : Int)
  · rw [if_pos c]
    refine ⟨by omega, ?_⟩
    have e2 : (x : Int).fmod (m : Int) = ((x % m : Nat) : Int) := by rw [Int.fmod_eq_emod_of_nonneg _ (by omega)]; rfl
    rw [e2]
    refine k (x % m) _ _ (Nat.mod_lt _ (by omega)) ⟨m, x % m, rfl, rfl, ?_, rfl⟩
    rw [← e, Nat.gcd_comm x m, Nat.gcd_rec m x, Nat.gcd_comm]
  · rw [if_neg c]
    have e3 : m = 0 := by omega
    subst e3
    rw [Nat.gcd_zero_right] at e
    rw [e]
    exact q

theorem bits_root {x : Int} (h2 : 2 ≤ x) (hx : x.natAbs < 2 ^ 8500) : ∃ h : Nat, ((Builtin.Int.intBits x : Nat) + 1 : Int).fdiv 2 = (h : Int) ∧ h ≤ 4251 ∧ x < 2 ^ h * 2 ^ h := by
  have e : Builtin.Int.intBits x = x.natAbs.log2 + 1 := by
    unfold Builtin.Int.intBits
    rw [if_neg (by simp; omega)]
  refine ⟨(x.natAbs.log2 + 1 + 1) / 2, ?_, ?_, ?_⟩
  · rw [e, Int.fdiv_eq_ediv_of_nonneg _ (by decide)]
    omega
  · have := (Nat.log2_lt (show x.natAbs ≠ 0 by omega)).mpr hx
    omega
  · have l := Nat.lt_log2_self (n := x.natAbs)
    have m : 2 ^ (x.natAbs.log2 + 1) ≤ 2 ^ ((x.natAbs.log2 + 1 + 1) / 2 + (x.natAbs.log2 + 1 + 1) / 2) := Nat.pow_le_pow_right (by decide) (by omega)
    rw [Nat.pow_add 2 ((x.natAbs.log2 + 1 + 1) / 2)] at m
    have n : x.natAbs < 2 ^ ((x.natAbs.log2 + 1 + 1) / 2) * 2 ^ ((x.natAbs.log2 + 1 + 1) / 2) := Nat.lt_of_lt_of_le l m
    generalize (x.natAbs.log2 + 1 + 1) / 2 = h at n
    have e2 : ((2 ^ h * 2 ^ h : Nat) : Int) = 2 ^ h * 2 ^ h := by simp
    omega
theorem pure_side_of : ∀ ds S Q Ed, sp_side_of ds S Q Ed → t_side_of Ed { nx := fun _ S' => Q .non S', rt := Q } (startD N_side_of ds) S := by
  rintro ds S Q Ed ⟨x, rfl, x0, hx, q⟩
  rw [st_side_of]
  unfold t_side_of
  refine seq_step fun r hr => ?_
  walk_at "dy"
  by_cases c : x < 2
  · rw [if_pos c]
    have : x = 0 ∨ x = 1 := by omega
    rcases this with rfl | rfl
    · exact q 0 (by decide) (by decide) (by decide)
    · exact q 1 (by decide) (by decide) (by decide)
  rw [if_neg c]
  have x2 : 2 ≤ x := by omega
  obtain ⟨r0, ra, rb⟩ := root_ex x.toNat
  have ra' : ((r0 : Nat) : Int) * r0 ≤ x := by
    have : ((r0 * r0 : Nat) : Int) ≤ x := by omega
    rw [Int.natCast_mul] at this
    exact this
  have rb' : x < ((r0 : Nat) + 1 : Int) * ((r0 : Nat) + 1) := by
    have : x < (((r0 + 1) * (r0 + 1) : Nat) : Int) := by omega
    rw [Int.natCast_mul, Int.natCast_add] at this
    exact this
  obtain ⟨h, eh, h1, h2⟩ := bits_root x2 hx
  subst hr
  refine seq_step fun r hr => ?_
  walk_at "dy"
  unfold dBits
  walk_at "dy"
  simp only [bitsQ]
  walk_at "dy"
  refine ⟨⟨by decide, by decide⟩, ?_⟩
  rw [eh]
  have p1 : (1 : Int) ≤ 2 ^ h := by
    have : (1 : Nat) ≤ 2 ^ h := Nat.one_le_two_pow
    have e : ((2 ^ h : Nat) : Int) = 2 ^ h := by simp
    omega
  have p2 : (2 : Int) ^ h ≤ 2 ^ 4251 := by
    have : (2 : Nat) ^ h ≤ 2 ^ 4251 := Nat.pow_le_pow_right (by decide) h1
    have e : ((2 ^ h : Nat) : Int) = 2 ^ h := by simp
    have e2 : ((2 ^ 4251 : Nat) : Int) = 2 ^ 4251 := by simp
    rw [← e, ← e2]
    exact Int.ofNat_le.mpr this
  have goS : ∀ (Q' : DK), Q' (.int (2 ^ h)) S → rdShl (.int 1) (.int (h : Nat)) S Q' := fun Q' q' => by
    refine ⟨⟨by omega, by omega, by decide⟩, ?_⟩
    rw [Int.toNat_natCast, Int.one_mul]
    exact q'
  refine goS _ ?_
  generalize hs : (2 : Int) ^ h = s0 at *
  have sb : ∀ s : Int, 1 ≤ s → s ≤ 2 ^ 4251 → s.natAbs.log2 < 9000 := fun s s1 s2 => by
    have e2 : ((2 ^ 4251 : Nat) : Int) = 2 ^ 4251 := by simp
    have : s.natAbs < 2 ^ 4252 := by
      have : (2 : Nat) ^ 4252 = 2 * 2 ^ 4251 := by rw [show 4252 = 1 + 4251 from rfl, Nat.pow_add]
      have p0 : 0 < (2 : Nat) ^ 4251 := Nat.pow_pos (by decide)
      omega
    have := log2_lt this (by decide)
    omega
  have rs : ((r0 : Nat) : Int) ≤ s0 := by
    rcases Int.lt_or_le s0 (r0 : Nat) with c | c
    · have : s0 * s0 ≤ ((r0 : Nat) : Int) * r0 := Int.mul_le_mul (by omega) (by omega) (by omega) (by omega)
      omega
    · exact c
  subst hr
  refine seq_step fun r hr => ?_
  walk_at "dy"
  refine ⟨⟨by omega, sb s0 p1 p2⟩, ⟨by decide, by decide⟩, ?_⟩
  rw [Int.fdiv_eq_ediv_of_nonneg x (by omega : (0 : Int) ≤ s0), Int.fdiv_eq_ediv_of_nonneg _ (by decide : (0 : Int) ≤ 2)]
  subst hr
  refine seq_step fun r hr => ?_
  refine while_inv (fun m σ S' => ∃ s : Int, σ = [some (.int x), some (.int s), some (.int ((s + x / s) / 2))] ∧ S' = S ∧ 1 ≤ s ∧ s ≤ 2 ^ 4251 ∧ ((r0 : Nat) : Int) ≤ s ∧ m = s.toNat) s0.toNat ⟨s0, rfl, rfl, p1, p2, rs, rfl⟩ ?_
  rintro m σ S' N ⟨s, rfl, rfl, s1, s2, rs', rfl⟩ k
  walk_at "dy"
  have hl := heron_le s1 (by omega : (0 : Int) ≤ (r0 : Nat)) ra'
  have r1 : (1 : Int) ≤ (r0 : Nat) := by
    rcases Nat.eq_zero_or_pos r0 with c | c
    · subst c
      simp at rb'
      omega
    · omega
  by_cases c2 : (s + x / s) / 2 < s
  · rw [if_pos c2]
    generalize ht : (s + x / s) / 2 = t at c2 hl ⊢
    refine ⟨⟨by omega, sb t (by omega) (by omega)⟩, ⟨by decide, by decide⟩, ?_⟩
    rw [Int.fdiv_eq_ediv_of_nonneg x (by omega : (0 : Int) ≤ t), Int.fdiv_eq_ediv_of_nonneg _ (by decide : (0 : Int) ≤ 2)]
    exact k _ _ _ (by omega) ⟨t, rfl, rfl, by omega, by omega, hl, rfl⟩
  · rw [if_neg c2]
    subst hr
    walk_at "dy"
    have hs2 := heron_stop (x := x) s1 (by omega)
    have e : s = (r0 : Nat) := by
      rcases Int.lt_or_le (r0 : Nat) s with c | c
      · have : ((r0 : Nat) + 1 : Int) * ((r0 : Nat) + 1) ≤ s * s := Int.mul_le_mul (by omega) (by omega) (by omega) (by omega)
        omega
      · omega
    rw [e]
    exact q (r0 : Nat) (by omega) ra' rb'

theorem isSqB_root {x y : Int} (y0 : 0 ≤ y) (h1 : y * y ≤ x) (h2 : x < (y + 1) * (y + 1)) : isSqB x = decide (y * y = x) := by
  by_cases c : y * y = x
  · rw [isSqB_true y0 c, decide_eq_true c]
  · rw [decide_eq_false c]
    exact isSqB_false (sq_between y0 (by omega) h2)
theorem pure_is_square : ∀ ds S Q Ed, sp_is_square ds S Q Ed → t_is_square Ed { nx := fun _ S' => Q .non S', rt := Q } (startD N_is_square ds) S := by
  rintro ds S Q Ed ⟨x, rfl, hx, q⟩
  rw [st_is_square]
  unfold t_is_square
  walk_at "dy"
  by_cases x0 : 0 ≤ x
  · simp only [x0, decide_true, if_true]
    try walk_at "dy"
    refine ⟨x, rfl, x0, Nat.lt_of_lt_of_le hx (Nat.pow_le_pow_right (by decide) (by decide)), fun y y0 h1 h2 => ?_⟩
    rw [isSqB_root y0 h1 h2] at q
    try walk_at "dy"
    have yx : y ≤ x + 1 := by
      rcases Int.lt_or_le y 1 with c | c
      · omega
      · have : y * 1 ≤ y * y := Int.mul_le_mul_of_nonneg_left c (by omega)
        omega
    have yb : y.natAbs.log2 < 8002 := by
      have : y.natAbs < 2 ^ 8002 := by
        have e : (2 : Nat) ^ 8002 = 4 * 2 ^ 8000 := by rw [show 8002 = 2 + 8000 from rfl, Nat.pow_add]
        have p : 0 < (2 : Nat) ^ 8000 := Nat.pow_pos (by decide)
        omega
      exact log2_lt this (by decide)
    refine ⟨⟨by decide, by omega⟩, ?_⟩
    rw [show y ^ (2 : Int).toNat = y * y by show y ^ 2 = y * y; grind]
    exact q
  · simp only [x0, decide_false]
    try walk_at "dy"
    rw [isSqB_false (fun y y0 e => by have := Int.mul_nonneg y0 y0; omega)] at q
    exact q

theorem pure_is_under_root : ∀ ds S Q Ed, sp_is_under_root ds S Q Ed → t_is_under_root Ed { nx := fun _ S' => Q .non S', rt := Q } (startD N_is_under_root ds) S := by
  rintro ds S Q Ed ⟨d, rfl, hd, q⟩
  rw [st_is_under_root]
  unfold t_is_under_root
  walk_at "dy"
  refine ⟨d, rfl, sm_data hd, ?_⟩
  cases d with
  | int n =>
    simp only [isWh]
    try walk_at "dy"
    unfold undB at q
    by_cases c : 2 ≤ n
    · simp only [ge_iff_le, c, decide_true, Bool.true_and] at q ⊢
      try walk_at "dy"
      refine ⟨n, rfl, sm_int.mp hd, ?_⟩
      try walk_at "dy"
      cases e : isSqB n with
      | true => rw [e] at q; exact q
      | false => rw [e] at q; exact q
    · simp only [ge_iff_le, c, decide_false, Bool.false_and] at q ⊢
      try walk_at "dy"
      exact q
  | _ => first | (simp only [isWh]; exact q) | (simp only [isWh]; walk_at "dy"; exact q)

theorem pure_is_bottom : ∀ ds S Q Ed, sp_is_bottom ds S Q Ed → t_is_bottom Ed { nx := fun _ S' => Q .non S', rt := Q } (startD N_is_bottom ds) S := by
  rintro ds S Q Ed ⟨d, rfl, hd, q⟩
  rw [st_is_bottom]
  unfold t_is_bottom
  walk_at "dy"
  refine ⟨d, rfl, hd, ?_⟩
  cases d with
  | int n =>
    simp only [isWh]
    try walk_at "dy"
    exact q
  | _ => first | (simp only [isWh]; exact q) | (simp only [isWh]; walk_at "dy"; exact q)

theorem pure_look_parts : ∀ ds S Q Ed, sp_look_parts ds S Q Ed → t_look_parts Ed { nx := fun _ S' => Q .non S', rt := Q } (startD N_look_parts ds) S := by
  rintro ds S Q Ed ⟨t, o, s, b, rfl, ht, ho, hs, hb, q1, q2⟩
  rw [st_look_parts]
  unfold t_look_parts
  unfold badP at q1 q2
  generalize hB : (dSeq (dSet 3 (dKix k_LOOKS (dVar 1))) (dIfS (dNot (dTest (dCallV 3 [("is_whole", sp_is_whole), ("is_under_root", sp_is_under_root), ("is_bottom", sp_is_bottom)] (wd Ed) (dCons (dVar 2) dNil)))) (dRaiseF1 (wd Ed) "NoNumber" "part" (dCons (dVar 1) dNil)) dNext)) = body
  -- one turn: the part stands (k), or the name is told
  have turn : ∀ (z fn : Str) (sp : SpD) (bo : Bool) (d : D) (D : EndsD) (y3 : Option Dv.D), k_LOOKS z = some (.fn fn) → (fn, sp) ∈ [((("is_whole" : Str)), sp_is_whole), ("is_under_root", sp_is_under_root), ("is_bottom", sp_is_bottom)] →
      (∀ (Q' : DK) E', Q' (.bl bo) S → sp [d] S Q' E') → (bo = true → D.nx [some (.tup [t, o, s, b]), some (.str z), some d, some (.fn fn)] S) → (bo = false → Ed ⟨"NoNumber", ["part"], [.str z]⟩ S) →
      body D [some (.tup [t, o, s, b]), some (.str z), some d, y3] S := fun z fn sp bo d D y3 hk hm hsp hn hE => by
    subst hB
    refine seq_step fun r hr => ?_
    unfold dKix
    walk_at "dy"
    rw [hk]
    dsimp only
    subst hr
    unfold dCallV
    walk_at "dy"
    refine ⟨fn, sp, rfl, hm, ?_⟩
    try walk_at "dy"
    refine hsp _ _ ?_
    cases bo with
    | true =>
      try walk_at "dy"
      exact hn rfl
    | false =>
      try walk_at "dy"
      exact hE rfl
  refine (show 4 = 4 ∧ dLoop (dTupG 2 (dGCons (dName 1) (dGCons (dName 2) dGNil))) body { nx := fun _ S' => Q .non S', rt := Q } [.tup [.str "top", t], .tup [.str "often", o], .tup [.str "square", s], .tup [.str "bottom", b]] [some (.tup [t, o, s, b]), none, none, none] S from ⟨rfl, ?_⟩)
  generalize hE : ({ nx := fun _ S' => Q .non S', rt := Q } : EndsD) = E0
  have st : ∀ (z : Str) (d : Dv.D) (r : List Dv.D) (y1 y2 y3 : Option Dv.D), body { E0 with nx := dLoop (dTupG 2 (dGCons (dName 1) (dGCons (dName 2) dGNil))) body E0 r, ct := dLoop (dTupG 2 (dGCons (dName 1) (dGCons (dName 2) dGNil))) body E0 r, bk := E0.nx } [some (.tup [t, o, s, b]), some (.str z), some d, y3] S →
      dLoop (dTupG 2 (dGCons (dName 1) (dGCons (dName 2) dGNil))) body E0 (.tup [.str z, d] :: r) [some (.tup [t, o, s, b]), y1, y2, y3] S := fun z d r y1 y2 y3 h => by
    rw [dLoop]
    walk_at "dy"
    exact h
  refine st _ _ _ _ _ _ (turn "top" "is_whole" sp_is_whole (isWh t) t _ _ look_top (.head _) (fun Q' E' q' => ⟨t, rfl, sm_data ht, q'⟩) (fun e1 => ?_) (fun e1 => q2 _ (by rw [if_pos e1])))
  rw [if_neg (by rw [e1]; decide)] at q1 q2
  refine st _ _ _ _ _ _ (turn "often" "is_whole" sp_is_whole (isWh o) o _ _ look_often (.head _) (fun Q' E' q' => ⟨o, rfl, sm_data ho, q'⟩) (fun e2 => ?_) (fun e2 => q2 _ (by rw [if_pos e2])))
  rw [if_neg (by rw [e2]; decide)] at q1 q2
  refine st _ _ _ _ _ _ (turn "square" "is_under_root" sp_is_under_root (undB s) s _ _ look_square (.tail _ (.head _)) (fun Q' E' q' => ⟨s, rfl, hs, q'⟩) (fun e3 => ?_) (fun e3 => q2 _ (by rw [if_pos e3])))
  rw [if_neg (by rw [e3]; decide)] at q1 q2
  refine st _ _ _ _ _ _ (turn "bottom" "is_bottom" sp_is_bottom (botB b) b _ _ look_bottom (.tail _ (.tail _ (.head _))) (fun Q' E' q' => ⟨b, rfl, sm_data hb, q'⟩) (fun e4 => ?_) (fun e4 => q2 _ (by rw [if_pos e4])))
  rw [if_neg (by rw [e4]; decide)] at q1
  subst hE
  exact q1 rfl

/-- a new number -/
theorem rt_make {P : List Str → List D → Sd → Prop} {T O q B : Int} {n : Nat} {S : Sd} {E : XKD} {a : Addr} (R : RtI n T O q B) (hn : n ≤ 8000) (ha : S a = none) (k : ∀ S2, Dv.del S2 a = S → P ["held"] [lowD T O q B] S2) :
    sp_Root___init__ [.obj a, .int T, .int O, .int q, .int B] (upS S a (.ins "Root" [] [])) (fun v S2 => v = .non ∧ ∃ ns ys, S2 a = some (.ins "Root" ns ys) ∧ P ns ys S2) E := by
  have R := R.mono hn
  refine ⟨a, _, _, _, _, rfl, sm_int.mpr R.bT, sm_int.mpr R.bO, sm_int.mpr R.bq, sm_int.mpr R.bB, upS_same, fun T' O' q'' B' e1 e2 e3 e4 _ => ?_, fun z hz => ?_⟩
  · cases e1
    cases e2
    cases e3
    cases e4
    exact ⟨rfl, _, _, upS_same, k _ (by rw [upS_upS, del_upS ha])⟩
  · rw [okP_bad R.q2 R.sq R.B1] at hz
    cases hz
theorem pure_Root___init__ : ∀ ds S Q Ed, sp_Root___init__ ds S Q Ed → t_Root___init__ Ed { nx := fun _ S' => Q .non S', rt := Q } (startD N_Root___init__ ds) S := by
  rintro ds S Q Ed ⟨a, t, o, s, b, rfl, ht, ho, hs, hb, ha, q1, q2⟩
  rw [st_Root___init__]
  unfold t_Root___init__
  refine seq_step fun r hr => ?_
  walk_at "dy"
  refine ⟨t, o, s, b, rfl, ht, ho, hs, hb, fun hn => ?_, q2⟩
  obtain ⟨T, O, q, B, rfl, rfl, rfl, rfl, h2, h3, h4⟩ := badP_ok hn
  have q1 := q1 T O q B rfl rfl rfl rfl hn
  obtain ⟨g1, g2⟩ := gR_pos (T := T) (O := O) h4
  have gb : (gR T O B).natAbs.log2 < 9000 := by
    have h := sm_int.mp hb
    have : (gR T O B).natAbs < 2 ^ 8000 := by omega
    have := log2_lt this (by decide)
    omega
  subst hr
  refine seq_step fun r hr => ?_
  walk_at "dy"
  refine ⟨T, O, rfl, ?_⟩
  refine ⟨_, B, rfl, ?_⟩
  try walk_at "dy"
  subst hr
  unfold dPut
  walk_at "dy"
  refine ⟨⟨by show gR T O B ≠ 0; omega, gb⟩, ⟨by show gR T O B ≠ 0; omega, gb⟩, ⟨by show gR T O B ≠ 0; omega, gb⟩, ?_⟩
  exact ⟨a, [], [], rfl, ha, by simp, by decide, q1⟩

theorem pure_is_within : ∀ ds S Q Ed, sp_is_within ds S Q Ed → t_is_within Ed { nx := fun _ S' => Q .non S', rt := Q } (startD N_is_within ds) S := by
  rintro ds S Q Ed ⟨d, lo, hi, rfl, hd, q⟩
  rw [st_is_within]
  unfold t_is_within
  walk_at "dy"
  refine ⟨d, rfl, hd, ?_⟩
  cases d with
  | int a =>
    have e : isWh (.int a) = true := rfl
    rw [e]
    walk_at "dy"
    have e2 : winD lo hi (.int a) = decide (lo ≤ a ∧ a ≤ hi) := rfl
    rw [e2] at q
    by_cases c : lo ≤ a
    · rw [if_pos c]
      simp only [c, true_and] at q
      exact q
    · rw [if_neg c]
      rw [decide_eq_false (fun h => c h.1)] at q
      exact q
  | _ => exact q

theorem pure_is_row : ∀ ds S Q Ed, sp_is_row ds S Q Ed → t_is_row Ed { nx := fun _ S' => Q .non S', rt := Q } (startD N_is_row ds) S := by
  rintro ds S Q Ed ⟨d, lo, hi, n, rfl, hd, hh, q⟩
  rw [st_is_row]
  unfold t_is_row
  cases d with
  | tup xs =>
    walk_at "dy"
    have e0 : rowD lo hi (.tup xs) = (decide (lo ≤ (xs.length : Int) ∧ (xs.length : Int) ≤ hi) && xs.all (winD 1 999999)) := rfl
    rw [e0] at q
    by_cases c1 : lo ≤ (xs.length : Int)
    · rw [if_pos c1]
      by_cases c2 : (xs.length : Int) ≤ hi
      · rw [if_neg (fun h => h c2)]
        rw [decide_eq_true ⟨c1, c2⟩, Bool.true_and] at q
        refine comp_pure (fun d => .bl (winD 1 999999 d)) xs S (fun R hR => hR) (fun x hx S' Q' q' => ?_) (by omega) ?_
        · exact (⟨x, 1, 999999, rfl, sm_data (smT.mp hd x hx), q'⟩ : sp_is_within [x, .int 1, .int 999999] S' Q' (fun _ _ => False))
        · refine x_allb (bs := xs.map (winD 1 999999)) (by rw [List.map_map]; rfl) ?_
          rw [List.all_map]
          exact q
      · rw [if_pos c2]
        rw [decide_eq_false (fun h => c2 h.2)] at q
        exact q
    · rw [if_neg c1]
      try walk_at "dy"
      rw [decide_eq_false (fun h => c1 h.1)] at q
      exact q
  | _ => first | (walk_at "dy"; exact q) | exact absurd (show false = true from hd) Bool.false_ne_true

theorem pure_is_number_ring : ∀ ds S Q Ed, sp_is_number_ring ds S Q Ed → t_is_number_ring Ed { nx := fun _ S' => Q .non S', rt := Q } (startD N_is_number_ring ds) S := by
  rintro ds S Q Ed ⟨d, n, rfl, hd, q⟩
  rw [st_is_number_ring]
  unfold t_is_number_ring
  walk_at "dy"
  exact ⟨d, 1, 40, n, rfl, hd, by decide, by rw [row_ring]; exact q⟩

theorem pure_is_ahead : ∀ ds S Q Ed, sp_is_ahead ds S Q Ed → t_is_ahead Ed { nx := fun _ S' => Q .non S', rt := Q } (startD N_is_ahead ds) S := by
  rintro ds S Q Ed ⟨d, n, rfl, hd, hok, q⟩
  rw [st_is_ahead]
  unfold t_is_ahead
  refine seq_step fun r hr => ?_
  have he : eqOk (.tup []) = true := by decide
  cases d with
  | tup xs =>
    cases xs with
    | nil =>
      walk_at "dy"
      exact ⟨⟨hok, he⟩, q⟩
    | cons x xs =>
      walk_at "dy"
      rw [if_neg (by omega)]
      have hx := smT.mp hd x List.mem_cons_self
      have hxs : sm n (.tup xs) = true := smT.mpr fun y hy => smT.mp hd y (List.mem_cons_of_mem _ hy)
      subst hr
      refine seq_step fun r hr => ?_
      walk_at "dy"
      refine ⟨x, _, _, rfl, sm_data hx, ?_⟩
      have q' : Q (.bl (winD (-999999) 999999 x && rowD 0 19 (.tup xs))) S := q
      rw [show (0 : Int) - 999999 = -999999 by decide]
      cases c : winD (-999999) 999999 x with
      | false =>
        rw [c] at q'
        walk_at "dy"
        exact q'
      | true =>
        rw [c] at q'
        walk_at "dy"
        subst hr
        walk_at "dy"
        rw [show (1 : Int) = ((1 : Nat) : Int) from rfl, cutD_from (by rw [List.length_cons]; omega)]
        exact ⟨.tup xs, 0, 19, n, rfl, hxs, by decide, q'⟩
  | int i => walk_at "dy"; exact ⟨⟨hok, he⟩, q⟩
  | str z => walk_at "dy"; exact ⟨⟨hok, he⟩, q⟩
  | non => walk_at "dy"; exact ⟨⟨hok, he⟩, q⟩
  | bl b => walk_at "dy"; exact ⟨⟨hok, he⟩, q⟩
  | lst xs => walk_at "dy"; exact ⟨⟨hok, he⟩, q⟩
  | _ => exact absurd (show false = true from hd) Bool.false_ne_true

theorem pure_shortest_part : ∀ ds S Q Ed, sp_shortest_part ds S Q Ed → t_shortest_part Ed { nx := fun _ S' => Q .non S', rt := Q } (startD N_shortest_part ds) S := by
  rintro ds S Q Ed ⟨L, rfl, h1, h40, q⟩
  rw [st_shortest_part]
  unfold t_shortest_part
  refine seq_step fun r hr => ?_
  unfold ringD
  walk_at "dy"
  rw [List.length_map]
  subst hr
  refine seq_step fun r hr => ?_
  walk_at "dy"
  refine ⟨by omega, ?_⟩
  refine loop_rng (fun i σ S' => (∃ z, σ = [some (ringD L), some (.int L.length), z]) ∧ S' = S ∧ ∀ j, j < i → sizeOk L (j + 1) = false) ⟨⟨_, rfl⟩, rfl, fun j h => by omega⟩ ?_ ?_
  · rintro i σ S' N hi ⟨⟨z, rfl⟩, rfl, hno⟩ k
    have hi' : i < L.length - 1 := by omega
    unfold ringD
    walk_at "dy"
    refine ⟨by omega, ?_⟩
    have ei : (1 + (i : Int)) = ((i + 1 : Nat) : Int) := by omega
    obtain ⟨em, ed⟩ := nat_mod_div (n := L.length) (show 1 ≤ i + 1 by omega)
    rw [ei, em]
    have next : sizeOk L (i + 1) = false → N [some (ringD L), some (.int L.length), some (.int ((i + 1 : Nat) : Int))] S' := fun h => k _ _ ⟨⟨_, rfl⟩, rfl, fun j hj => by
      by_cases e : j = i
      · rw [e]; exact h
      · exact hno j (by omega)⟩
    by_cases c : L.length % (i + 1) = 0
    · rw [if_pos (by omega)]
      refine ⟨⟨by omega, ?_⟩, ?_⟩
      · have : (((i + 1 : Nat) : Int)).natAbs.log2 ≤ (i + 1) := by
          rw [Int.natAbs_natCast]
          exact Nat.log2_le_self _
        omega
      rw [ed]
      refine size_go (by omega) (by omega) c h40 ?_
      by_cases c2 : told (L.take (i + 1)) (L.length / (i + 1)) = L
      · have ho : sizeOk L (i + 1) = true := by unfold sizeOk; rw [decide_eq_true c, decide_eq_true c2]; rfl
        have e := shS_first hi' hno ho
        rw [e] at q
        rw [decide_eq_true c2]
        walk_at "dy"
        rw [cutD_ring L (by omega)]
        exact q
      · rw [decide_eq_false c2]
        walk_at "dy"
        exact next (by unfold sizeOk; rw [decide_eq_false c2, Bool.and_false])
    · rw [if_neg (by omega)]
      exact next (by unfold sizeOk; rw [decide_eq_false c]; rfl)
  · rintro σ S' ⟨⟨z, rfl⟩, rfl, hno⟩
    subst hr
    walk_at "dy"
    have e := shS_none (L := L) fun j hj => hno j (by omega)
    rw [e] at q
    exact q

theorem pure_Stair_keep_rows : ∀ ds S Q Ed, sp_Stair_keep_rows ds S Q Ed → t_Stair_keep_rows Ed { nx := fun _ S' => Q .non S', rt := Q } (startD N_Stair_keep_rows ds) S := by
  rintro ds S Q Ed ⟨a, A, R, rfl, hA, hR1, hR2, ha, q⟩
  rw [st_Stair_keep_rows]
  unfold t_Stair_keep_rows
  refine seq_step fun r hr => ?_
  walk_at "dy"
  refine ⟨R, rfl, hR1, hR2, ?_⟩
  try walk_at "dy"
  obtain ⟨s1, s2⟩ := shS_len hR1
  subst hr
  refine seq_step fun r hr => ?_
  refine while_inv (fun m σ S' => ∃ B T : List Int, σ = [some (.obj a), some (ringD B), some (ringD T)] ∧ S' = S ∧ fwR B.reverse T = fewest A R ∧ B.length ≤ 1000 ∧ 1 ≤ T.length ∧ T.length ≤ 1000 ∧ m = B.length) A.length ⟨A, shS R, rfl, rfl, rfl, hA, s1, by omega, rfl⟩ ?_
  rintro m σ S' N ⟨B, T, rfl, rfl, e, hB, t1, t2, rfl⟩ k
  have stop : fwR B.reverse T = (B, T) → r { nx := fun _ S' => Q .non S', rt := Q } [some (.obj a), some (ringD B), some (ringD T)] S' := fun h => by
    have hq : Q .non (upS S' a (.ins "Stair" ["held_ahead", "held_ring"] [ringD B, ringD T])) := by
      rw [h] at e
      rw [← e] at q
      exact q
    subst hr
    refine seq_step fun r hr => ?_
    unfold dPutB
    walk_at "dy"
    rcases ha with ha | ⟨x, y, ha⟩
    · refine ⟨a, [], [], rfl, ha, by decide, fun _ => ?_, fun i hi _ => by cases hi⟩
      subst hr
      unfold dPutB
      walk_at "dy"
      refine ⟨a, ["held_ahead"], [ringD B], rfl, upS_same, by decide, fun _ => ?_, fun i hi _ => ?_⟩
      · rw [upS_upS]
        exact hq
      · match i, hi with
        | 0, hi => exact absurd hi (by decide)
        | i + 1, hi => cases hi
    · refine ⟨a, ["held_ahead", "held_ring"], [x, y], rfl, ha, by decide, fun h => absurd h (by decide), fun i hi _ => ?_⟩
      match i, hi with
      | 1, hi => exact absurd hi (by decide)
      | i + 2, hi => cases hi
      | 0, hi =>
        subst hr
        unfold dPutB
        walk_at "dy"
        refine ⟨a, ["held_ahead", "held_ring"], [ringD B, y], rfl, upS_same, by decide, fun h => absurd h (by decide), fun i hi _ => ?_⟩
        match i, hi with
        | 0, hi => exact absurd hi (by decide)
        | i + 2, hi => cases hi
        | 1, hi =>
          rw [upS_upS]
          exact hq
  walk_at "dy"
  refine ne_nil ?_
  by_cases c : B = []
  · rw [decide_eq_true c]
    try walk_at "dy"
    exact stop (by rw [c]; rfl)
  rw [decide_eq_false c]
  try walk_at "dy"
  obtain ⟨C, x, rfl⟩ := split_last (R := B) (Nat.pos_of_ne_zero fun h => c (List.length_eq_zero_iff.mp h))
  obtain ⟨V, y, rfl⟩ := split_last t1
  have l1 : C.length + 1 ≤ 1000 := by rw [List.length_append] at hB; exact hB
  have l2 : V.length + 1 ≤ 1000 := by rw [List.length_append] at t2; exact t2
  unfold ringD
  try walk_at "dy"
  rw [last_at, last_at, x_ixQ, x_ixQ]
  try walk_at "dy"
  by_cases c2 : x = y
  · subst c2
    rw [if_pos rfl]
    try walk_at "dy"
    rw [cut_last, cut_last, cut_from_last]
    refine ⟨by show 1 + _ ≤ _; rw [List.length_map]; omega, ?_⟩
    refine k C.length _ _ (by rw [List.length_append]; exact Nat.lt_succ_self _) ⟨C, rotB (V ++ [x]), ?_, rfl, ?_, by omega, by rw [rotB_len, List.length_append]; exact Nat.succ_pos _, by rw [rotB_len, List.length_append]; exact l2, rfl⟩
    · rw [rotB_last]; rfl
    · rw [← e, fwR_last (by simp)]
  · rw [if_neg c2]
    exact stop (fwR_stop (by simp only [List.getLast?_append, List.getLast?_singleton, Option.some_or]; exact fun h => c2 (Option.some.inj h).symm))

theorem pure_Stair___init__ : ∀ ds S Q Ed, sp_Stair___init__ ds S Q Ed → t_Stair___init__ Ed { nx := fun _ S' => Q .non S', rt := Q } (startD N_Stair___init__ ds) S := by
  rintro ds S Q Ed ⟨a, d1, d2, n, rfl, h1, h2, hok, ha, q2, q1⟩
  rw [st_Stair___init__]
  unfold t_Stair___init__
  refine seq_step fun r hr => ?_
  walk_at "dy"
  refine ⟨d1, n, rfl, h1, hok, ?_⟩
  cases c1 : aheadD d1 with
  | false =>
    rw [c1] at q2
    try walk_at "dy"
    exact q2 rfl
  | true =>
    rw [c1] at q1 q2
    try walk_at "dy"
    refine ⟨d2, n, rfl, h2, ?_⟩
    cases c2 : isRingD d2 with
    | false =>
      rw [c2] at q2
      try walk_at "dy"
      exact q2 rfl
    | true =>
      rw [c2] at q1
      obtain ⟨A, R, rfl, rfl, hA, hR, q⟩ := q1 rfl
      try walk_at "dy"
      subst hr
      unfold dMethO
      walk_at "dy"
      have l1 := hR.l1
      exact ⟨⟨a, [], [], rfl, ha, by simp⟩, a, A, R, rfl, by omega, hR.l0, by omega, .inl ha, q⟩

theorem pure_Stair_ahead : ∀ ds S Q Ed, sp_Stair_ahead ds S Q Ed → t_Stair_ahead Ed { nx := fun _ S' => Q .non S', rt := Q } (startD N_Stair_ahead ds) S := by
  rintro ds S Q Ed ⟨A, R, rfl, q⟩
  rw [st_Stair_ahead]
  unfold t_Stair_ahead
  exact ⟨_, _, _, rfl, rfl, q⟩

theorem pure_Stair_ring : ∀ ds S Q Ed, sp_Stair_ring ds S Q Ed → t_Stair_ring Ed { nx := fun _ S' => Q .non S', rt := Q } (startD N_Stair_ring ds) S := by
  rintro ds S Q Ed ⟨A, R, rfl, q⟩
  rw [st_Stair_ring]
  unfold t_Stair_ring
  exact ⟨_, _, _, rfl, rfl, q⟩

theorem eq_rows {L M : List Int} {S : Sd} {Q : DK} (q : Q (.bl (decide (L = M))) S) : rdEq (ringD L) (ringD M) S Q := by
  refine ⟨⟨okD_eqOk (okD_ints L) (by decide), okD_eqOk (okD_ints M) (by decide)⟩, ?_⟩
  have e : deq (ringD L) (ringD M) = decide (L = M) := deqL_ringE
  rw [e]
  exact q
theorem pure_Stair___eq__ : ∀ ds S Q Ed, sp_Stair___eq__ ds S Q Ed → t_Stair___eq__ Ed { nx := fun _ S' => Q .non S', rt := Q } (startD N_Stair___eq__ ds) S := by
  rintro ds S Q Ed ⟨A, R, y, rfl, h⟩
  rw [st_Stair___eq__]
  unfold t_Stair___eq__
  refine seq_step fun r hr => ?_
  walk_at "dy"
  refine ⟨rfl, ?_⟩
  rcases h with ⟨hy, q'⟩ | ⟨A2, R2, rfl, q'⟩
  · have go : isiX "Stair" ["Ring", "Root"] S (fun x S1 => (match x with | .bl k => (if k = false then Q (.bl false) S1 else r { nx := fun _ S' => Q .non S', rt := Q } [some (stD A R), some y] S1) | _ => False)) y := by
      rcases hy with ⟨t, ht⟩ | ⟨m, hm, ns, ys, rfl⟩
      · cases y with
        | inst _ _ _ => cases ht
        | _ => exact ⟨⟨t, ht⟩, q'⟩
      · exact .inr ⟨hm, q'⟩
    exact go
  refine .inl ⟨rfl, ?_⟩
  try walk_at "dy"
  subst hr
  unfold dMeth
  walk_at "dy"
  refine fld_a (A := A) (R := R) (fun P' h => by first | exact h | (walk_at "dy"; exact h)) ?_
  refine ⟨⟨_, _, rfl, by decide +kernel⟩, ?_⟩
  refine ⟨A2, R2, rfl, ?_⟩
  refine eq_rows ?_
  by_cases c : A = A2
  · rw [decide_eq_true c] at q' ⊢
    try dsimp only
    rw [if_pos rfl]
    refine fld_r (A := A) (R := R) (fun P' h => by first | exact h | (walk_at "dy"; exact h)) ?_
    refine ⟨⟨_, _, rfl, by decide +kernel⟩, ?_⟩
    refine ⟨A2, R2, rfl, ?_⟩
    refine eq_rows ?_
    rw [Bool.true_and] at q'
    exact q'
  · rw [decide_eq_false c] at q' ⊢
    try dsimp only
    rw [if_neg (by decide)]
    exact q'

theorem pure_Stair___len__ : ∀ ds S Q Ed, sp_Stair___len__ ds S Q Ed → t_Stair___len__ Ed { nx := fun _ S' => Q .non S', rt := Q } (startD N_Stair___len__ ds) S := by
  rintro ds S Q Ed ⟨A, R, rfl, hA, hR, q⟩
  rw [st_Stair___len__]
  unfold t_Stair___len__
  walk_at "dy"
  refine fld_a (A := A) (R := R) (fun P' h => by first | exact h | (walk_at "dy"; exact h)) ?_
  refine fld_r (A := A) (R := R) (fun P' h => by first | exact h | (walk_at "dy"; exact h)) ?_
  unfold ringD
  walk_at "dy"
  refine ⟨by rw [List.length_map, List.length_map]; omega, ?_⟩
  rw [List.length_append, List.length_map, List.length_map]
  exact q

def fmD : D → D
  | .int a => .str (Str.empty ++ (toString a : Str) ++ (" " : Str))
  | d => d
def strW : D → D
  | .int i => .str (toString i)
  | d => d
theorem small_log {a : Int} (h : a.natAbs < 2 ^ 30) : a.natAbs.log2 < 1920 := Nat.lt_trans (log2_lt (n := 30) h (by decide)) (by decide)
theorem join_len {g : Int → Str} {c : Nat} : ∀ M : List Int, (∀ a ∈ M, (g a).length ≤ c) → ((M.map g).map (·.length)).sum ≤ M.length * c
  | [], _ => by simp
  | a :: M, h => by
    have ih := join_len M fun b hb => h b (List.mem_cons_of_mem _ hb)
    have h1 := h a List.mem_cons_self
    rw [List.map_cons, List.map_cons, List.sum_cons, List.length_cons, Nat.succ_mul]
    show (g a).length + _ ≤ _
    omega
theorem tj_len (sep : Str) : ∀ ys : List Str, (Txt.join sep ys).length ≤ (ys.map (·.length)).sum + ys.length * sep.length
  | [] => Nat.zero_le _
  | a :: r => by
    show (Builtin.Str.glued sep (a :: r)).length ≤ _
    rw [StrLaws.glued_eq_join, PyProof.Rows.len_join_cons]
    simp only [List.map_cons, List.sum_cons, List.length_cons, Nat.succ_mul]
    omega
theorem pure_Stair___str__ : ∀ ds S Q Ed, sp_Stair___str__ ds S Q Ed → t_Stair___str__ Ed { nx := fun _ S' => Q .non S', rt := Q } (startD N_Stair___str__ ds) S := by
  rintro ds S Q Ed ⟨A, R, rfl, F, q⟩
  rw [st_Stair___str__]
  unfold t_Stair___str__
  have la := F.la
  have lr := F.lr
  have e1 : (" " : Str).length = 1 := by decide +kernel
  have e0 : Str.empty.length = 0 := rfl
  refine seq_step fun r hr => ?_
  walk_at "dy"
  have tl : ∀ a : Int, a.natAbs < 2 ^ 30 → (toString a : Str).length ≤ 1921 := fun a h => len_intText (small_log h)
  refine comp_pure fmD (A.map D.int) S (fun R' hR' => ?_) (fun x hx S' Q' q' => ?_) (by rw [List.length_map]; omega) ?_
  · unfold dItr
    refine fld_a (A := A) (R := R) (fun P' h => by first | exact h | (walk_at "dy"; exact h)) ?_
    exact hR'
  · obtain ⟨a, ha, rfl⟩ := List.mem_map.mp hx
    have h1 := tl a (F.a a ha)
    show dJs _ Str.empty [some (stD A R), none, none, some (.int a)] S' fun z S1 => Q' (.str z) S1
    refine ⟨small_log (F.a a ha), _, rfl, by simp only [app_len2]; omega, ?_⟩
    exact ⟨_, rfl, by simp only [app_len2]; omega, q'⟩
  have em : (A.map D.int).map fmD = (A.map fun a => Str.empty ++ (toString a : Str) ++ (" " : Str)).map D.str := by rw [List.map_map, List.map_map]; rfl
  have eR : (R.map D.int).map strW = (R.map fun a => (toString a : Str)).map D.str := by rw [List.map_map, List.map_map]; rfl
  have n1 := join_len (g := fun a => Str.empty ++ (toString a : Str) ++ (" " : Str)) (c := 1922) A fun a ha => by
    have h1 := tl a (F.a a ha)
    simp only [app_len2]
    omega
  have n2 := join_len (g := fun a => (toString a : Str)) (c := 1921) R fun a ha => tl a (F.r a ha)
  have b1 : A.length * 1922 ≤ 100 * 1922 := Nat.mul_le_mul_right _ la
  have b2 : R.length * 1921 ≤ 100 * 1921 := Nat.mul_le_mul_right _ lr
  refine x_join _ (congrArg some em) ?_ ?_
  · rw [show ("" : Str).length = 0 by decide +kernel, Nat.mul_zero]
    omega
  subst hr
  refine seq_step fun r hr => ?_
  walk_at "dy"
  refine comp_pure strW (R.map D.int) S (fun R' hR' => ?_) (fun x hx S' Q' q' => ?_) (by rw [List.length_map]; omega) ?_
  · unfold dItr
    refine fld_r (A := A) (R := R) (fun P' h => by first | exact h | (walk_at "dy"; exact h)) ?_
    exact hR'
  · obtain ⟨a, ha, rfl⟩ := List.mem_map.mp hx
    have h1 := small_log (F.r a ha)
    walk_at "dy"
    exact ⟨h1, q'⟩
  refine x_join _ (congrArg some eR) ?_ ?_
  · rw [e1, List.length_map]
    omega
  subst hr
  have j1 : (Txt.join "" (A.map fun a => Str.empty ++ (toString a : Str) ++ (" " : Str))).length ≤ 1000000 := by
    have h := tj_len "" (A.map fun a => Str.empty ++ (toString a : Str) ++ (" " : Str))
    rw [show ("" : Str).length = 0 by decide +kernel, Nat.mul_zero] at h
    omega
  have j2 : (Txt.join " " (R.map fun a => (toString a : Str))).length ≤ 1000000 := by
    have h := tj_len " " (R.map fun a => (toString a : Str))
    rw [e1, List.length_map] at h
    omega
  unfold dRet
  unfold stStr at q
  generalize Txt.join "" (A.map fun a => Str.empty ++ (toString a : Str) ++ (" " : Str)) = z1 at *
  generalize Txt.join " " (R.map fun a => (toString a : Str)) = z2 at *
  have p1 : ("(" : Str).length = 1 := by decide +kernel
  have p2 : (")" : Str).length = 1 := by decide +kernel
  show dJs _ Str.empty [some (stD A R), some (.str z1), some (.str z2), none] S fun z S1 => Q (.str z) S1
  refine ⟨by omega, _, rfl, by simp only [app_len2]; omega, ?_⟩
  refine ⟨_, rfl, by simp only [app_len2]; omega, ?_⟩
  refine ⟨by omega, _, rfl, by simp only [app_len2]; omega, ?_⟩
  exact ⟨_, rfl, by simp only [app_len2]; omega, q⟩

theorem pure_Stair___repr__ : ∀ ds S Q Ed, sp_Stair___repr__ ds S Q Ed → t_Stair___repr__ Ed { nx := fun _ S' => Q .non S', rt := Q } (startD N_Stair___repr__ ds) S := by
  rintro ds S Q Ed ⟨A, R, rfl, F, q⟩
  rw [st_Stair___repr__]
  unfold t_Stair___repr__
  obtain ⟨s1, l1⟩ := ring_shD F.a F.la
  obtain ⟨s2, l2⟩ := ring_shD F.r F.lr
  unfold ringD at l1 l2
  have e0 : (Str.ofString "Stair(").length = 6 := by decide +kernel
  have e1 : (Str.ofString ", ").length = 2 := by decide +kernel
  have e2 : (Str.ofString ")").length = 1 := by decide +kernel
  have e3 : Str.empty.length = 0 := rfl
  show dJs _ Str.empty [some (stD A R)] S fun z S1 => Q (.str z) S1
  refine ⟨_, rfl, by simp only [app_len2]; omega, ?_⟩
  refine ⟨_, _, ringD A, rfl, rfl, s1, _, rfl, by simp only [app_len2]; omega, ?_⟩
  refine ⟨_, rfl, by simp only [app_len2]; omega, ?_⟩
  refine ⟨_, _, ringD R, rfl, rfl, s2, _, rfl, by simp only [app_len2]; omega, ?_⟩
  refine ⟨_, rfl, by simp only [app_len2]; omega, q⟩

theorem pure_Stair_at : ∀ ds S Q Ed, sp_Stair_at ds S Q Ed → t_Stair_at Ed { nx := fun _ S' => Q .non S', rt := Q } (startD N_Stair_at ds) S := by
  rintro ds S Q Ed ⟨A, R, p, rfl, r0, r1, a1, q2, q1⟩
  rw [st_Stair_at]
  unfold t_Stair_at
  refine seq_step fun r hr => ?_
  unfold dRaiseF2
  walk_at "dy"
  by_cases c0 : p < 0
  · rw [if_pos c0]
    try walk_at "dy"
    exact q2 c0
  rw [if_neg c0]
  try walk_at "dy"
  have q := q1 (by omega)
  obtain ⟨p, rfl⟩ := Int.eq_ofNat_of_zero_le (show 0 ≤ p by omega)
  rw [Int.toNat_natCast] at q
  unfold atSt at q
  have ga : ∀ (P : DK), P (ringD A) S → dFld "Stair" "held_ahead" (dVar 0) [some (stD A R), some (.int (p : Int))] S P := fun P h => fld_a (A := A) (R := R) (fun P h => by walk_at "dy"; exact h) h
  have gr : ∀ (P : DK), P (ringD R) S → dFld "Stair" "held_ring" (dVar 0) [some (stD A R), some (.int (p : Int))] S P := fun P h => fld_r (A := A) (R := R) (fun P h => by walk_at "dy"; exact h) h
  subst hr
  refine seq_step fun r hr => ?_
  walk_at "dy"
  refine ga _ ?_
  unfold ringD
  walk_at "dy"
  rw [List.length_map]
  by_cases c1 : p < A.length
  · rw [if_pos (by omega)]
    rw [if_pos c1] at q
    refine ga _ ?_
    unfold ringD
    try walk_at "dy"
    rw [at_ints c1]
    exact q
  · rw [if_neg (by omega)]
    rw [if_neg c1] at q
    subst hr
    try walk_at "dy"
    refine gr _ ?_
    refine ga _ ?_
    unfold ringD
    try walk_at "dy"
    refine gr _ ?_
    unfold ringD
    try walk_at "dy"
    rw [List.length_map, List.length_map]
    refine ⟨by omega, ?_⟩
    have e : ((p : Int) - (A.length : Int)).fmod (R.length : Int) = (((p - A.length) % R.length : Nat) : Int) := by
      rw [← Int.ofNat_sub (by omega), Int.fmod_eq_emod_of_nonneg _ (by omega)]
      exact (Int.natCast_emod _ _).symm
    rw [e, at_ints (Nat.mod_lt _ (by omega))]
    exact q

theorem pure_told_stair : ∀ ds S Q Ed, sp_told_stair ds S Q Ed → t_told_stair Ed { nx := fun _ S' => Q .non S', rt := Q } (startD N_told_stair ds) S := by
  rintro ds S Q Ed ⟨A, R, rfl, hA, hR1, hR2, q⟩
  rw [st_told_stair]
  unfold t_told_stair
  refine seq_step fun r hr => ?_
  unfold dMakeO
  walk_at "dy"
  intro a ha
  have R1 : RowI [1] := ⟨fun a h => by rw [List.mem_singleton.mp h]; decide, by decide, by decide⟩
  refine ⟨a, .tup [], .tup [.int 1], 100, rfl, by decide, by decide, by decide, upS_same, fun h => absurd h (by decide), fun _ => ⟨[], [1], rfl, rfl, by decide, R1, ⟨rfl, ⟨_, _, upS_same⟩, ?_⟩⟩⟩
  rw [upS_upS]
  subst hr
  refine seq_step fun r hr => ?_
  unfold dMethO
  walk_at "dy"
  refine ⟨⟨a, _, _, rfl, upS_same, by decide⟩, a, A, R, rfl, hA, hR1, hR2, .inr ⟨_, _, upS_same⟩, ?_⟩
  rw [upS_upS]
  subst hr
  walk_at "dy"
  unfold dFrzI
  walk_at "dy"
  refine ⟨a, _, _, _, rfl, upS_same, ?_⟩
  rw [del_upS ha]
  exact q

theorem pure_Stair_behind : ∀ ds S Q Ed, sp_Stair_behind ds S Q Ed → t_Stair_behind Ed { nx := fun _ S' => Q .non S', rt := Q } (startD N_Stair_behind ds) S := by
  rintro ds S Q Ed ⟨A, R, m, rfl, hA, h0, hR, hm, q⟩
  rw [st_Stair_behind]
  unfold t_Stair_behind
  have l0 := ne_len h0
  refine seq_step fun r hr => ?_
  walk_at "dy"
  refine fld_a (A := A) (R := R) (fun P' h => by first | exact h | (walk_at "dy"; exact h)) ?_
  unfold ringD
  walk_at "dy"
  rw [cutD_fromX]
  subst hr
  refine seq_step fun r hr => ?_
  walk_at "dy"
  refine fld_a (A := A) (R := R) (fun P' h => by first | exact h | (walk_at "dy"; exact h)) ?_
  unfold ringD
  walk_at "dy"
  rw [List.length_map]
  refine fld_r (A := A) (R := R) (fun P' h => by first | exact h | (walk_at "dy"; exact h)) ?_
  unfold ringD
  walk_at "dy"
  rw [List.length_map]
  refine ⟨by omega, ?_⟩
  have e0 : (if (m : Int) - A.length > 0 then (m : Int) - A.length else 0) = ((m - A.length : Nat) : Int) := by split <;> omega
  rw [e0, (nat_mod_div (n := m - A.length) l0).1]
  have ht : (m - A.length) % R.length < R.length := Nat.mod_lt _ l0
  generalize (m - A.length) % R.length = t at *
  subst hr
  try walk_at "dy"
  refine fld_r (A := A) (R := R) (fun P' h => by first | exact h | (walk_at "dy"; exact h)) ?_
  unfold ringD
  try walk_at "dy"
  refine fld_r (A := A) (R := R) (fun P' h => by first | exact h | (walk_at "dy"; exact h)) ?_
  unfold ringD
  try walk_at "dy"
  have l1 := cutD_len (xs := R.map D.int) (lo := some (t : Int)) (hi := none)
  have l2 := cutD_len (xs := R.map D.int) (lo := none) (hi := some (t : Int))
  rw [List.length_map] at l1 l2
  refine ⟨by omega, ?_⟩
  rw [trn_cut (by omega)]
  exact ⟨A.drop m, trn t R, rfl, by rw [List.length_drop]; omega, by rw [trn_len]; omega, by rw [trn_len]; omega, q⟩

theorem pure_is_word : ∀ ds S Q Ed, sp_is_word ds S Q Ed → t_is_word Ed { nx := fun _ S' => Q .non S', rt := Q } (startD N_is_word ds) S := by
  rintro ds S Q Ed ⟨d, n, rfl, hd, q⟩
  rw [st_is_word]
  unfold t_is_word
  cases d with
  | str z =>
    walk_at "dy"
    have hz := sm_str.mp hd
    refine ⟨by omega, ?_⟩
    by_cases c1 : 1 ≤ (z.length : Int)
    · rw [if_pos c1]
      by_cases c2 : (z.length : Int) ≤ 60
      · rw [if_neg (by simp [c2])]
        refine abD_comp (fun c S' Q' q' => ?_) hz _ (fun R hR => hR) ?_
        · show rdInS (.str ⟨#[c]⟩) (.str "ab") S' Q'
          rw [x_inS, ab_cps]
          exact q'
        · have e : isWordD (.str z) = isAB z.cps.toList := by
            show (decide (1 ≤ z.length ∧ z.length ≤ 60) && _) = _
            rw [decide_eq_true ⟨by omega, by omega⟩]
            rfl
          rw [← e]; exact q
      · rw [if_pos (by simp; omega)]
        have e : isWordD (.str z) = false := by
          show (decide (1 ≤ z.length ∧ z.length ≤ 60) && _) = _
          rw [decide_eq_false (by omega)]
          rfl
        rw [← e]; exact q
    · rw [if_neg c1]
      have e : isWordD (.str z) = false := by
        show (decide (1 ≤ z.length ∧ z.length ≤ 60) && _) = _
        rw [decide_eq_false (by omega)]
        rfl
      rw [← e]; exact q
  | _ => first | (walk_at "dy"; exact q) | exact absurd (show false = true from hd) Bool.false_ne_true

theorem pure_Ring___init__ : ∀ ds S Q Ed, sp_Ring___init__ ds S Q Ed → t_Ring___init__ Ed { nx := fun _ S' => Q .non S', rt := Q } (startD N_Ring___init__ ds) S := by
  rintro ds S Q Ed ⟨a, L, rfl, R, ha, q⟩
  rw [st_Ring___init__]
  unfold t_Ring___init__
  refine seq_step fun r hr => ?_
  walk_at "dy"
  refine ⟨ringD L, 20, rfl, sm_ring R, ?_⟩
  have e : isWordD (ringD L) = false := rfl
  rw [e]
  try walk_at "dy"
  refine ⟨ringD L, 20, rfl, sm_ring R, ?_⟩
  rw [ring_is R]
  try walk_at "dy"
  subst hr
  unfold dPut
  walk_at "dy"
  exact ⟨a, [], [], rfl, ha, by simp, by decide, q⟩

theorem pure_law_urn : ∀ ds S Q Ed, sp_law_urn ds S Q Ed → t_law_urn Ed { nx := fun _ S' => Q .non S', rt := Q } (startD N_law_urn ds) S := by
  rintro ds S Q Ed ⟨ns, at_, rfl, h0, h1, q⟩
  rw [st_law_urn]
  unfold t_law_urn
  walk_at "dy"
  have fin : ∀ (g c : Int), 0 ≤ g → ∀ p, S p = none → Q (.obj p) (upS S p (.lst [.int g, .int (c.fmod 1000000000000000003 + 97 * at_ * at_ + 31 * at_ + 1), .int 0])) := fun g c hg p hp => by
    have f := fmod_in (a := c) (b := 1000000000000000003) (by decide)
    have e1 : 0 ≤ 97 * at_ * at_ := Int.mul_nonneg (by omega) h0
    have e2 : 97 * at_ * at_ ≤ 9700 * 100 := Int.mul_le_mul (by omega) (by omega) h0 (by omega)
    exact q p _ hp ⟨g, _, 0, upS_same, hg, by omega, by omega, by decide, by decide⟩ fun a ha => upS_ne ha
  have m1 : (Int.natAbs 97).log2 + at_.natAbs.log2 < 1000000 := mulOk 7 7 (by decide) (by omega) (by decide) (by decide) (by decide)
  have m2 : (97 * at_).natAbs.log2 + at_.natAbs.log2 < 1000000 := mulOk 14 7 (by omega) (by omega) (by decide) (by decide) (by decide)
  have m3 : (Int.natAbs 31).log2 + at_.natAbs.log2 < 1000000 := mulOk 7 7 (by decide) (by omega) (by decide) (by decide) (by decide)
  by_cases c : at_ < ((ns.map D.int).length : Int)
  · rw [if_pos c, atI_lt h0 c, List.getElem?_map]
    rw [List.length_map] at c
    have e : ns[at_.toNat]? = some ns[at_.toNat] := List.getElem?_eq_getElem (by omega)
    rw [e]
    show ixQ S _ (some (D.int ns[at_.toNat]))
    walk_at "dy"
    refine ⟨by decide, ?_⟩
    generalize e2 : (if ns[at_.toNat] < 0 then -ns[at_.toNat] else ns[at_.toNat]) = g
    have hg : 0 ≤ g := by rw [← e2]; split <;> omega
    split
    · exact ⟨by decide, m1, m2, m3, fin _ _ (by decide)⟩
    · exact ⟨by decide, m1, m2, m3, fin _ _ hg⟩
  · rw [if_neg c]
    refine ⟨by decide, ?_⟩
    split
    · exact ⟨by decide, m1, m2, m3, fin _ _ (by decide)⟩
    · exact ⟨by decide, m1, m2, m3, fin _ _ (by decide)⟩

theorem pure_law_draw : ∀ ds S Q Ed, sp_law_draw ds S Q Ed → t_law_draw Ed { nx := fun _ S' => Q .non S', rt := Q } (startD N_law_draw ds) S := by
  rintro ds S Q Ed ⟨u, w, B, rfl, ⟨g, c, n, hu, g0, c0, c1, n0, n1⟩, hB, w0, w1, q⟩
  have lw : w.natAbs.log2 < 9000 := Nat.lt_of_lt_of_le (log2_lt (n := 1000) (abs_lt_of (by omega) w1) (by decide)) (by decide)
  rw [st_law_draw]
  unfold t_law_draw
  walk_at "dy"
  rw [x_ixo hu]
  walk_at "dy"
  by_cases cg : 0 < g
  · rw [if_pos cg, x_ixo hu]
    walk_at "dy"
    refine ⟨by omega, ?_⟩
    rw [x_ixo hu]
    walk_at "dy"
    refine ⟨⟨by omega, lw⟩, ?_⟩
    rw [x_set hu (ixN_0 (by simp))]
    walk_at "dy"
    have f := fmod_in (a := g) w0
    refine q _ _ f.1 f.2 ⟨g.fdiv w, c, n, upS_same, ?_, c0, c1, n0, by omega⟩ fun a ha => upS_ne ha
    rw [Int.fdiv_eq_ediv_of_nonneg g (by omega)]
    exact Int.ediv_nonneg g0 (by omega)
  · rw [if_neg cg]
    rw [x_ixo hu]
    walk_at "dy"
    rw [x_set hu (ixN_2 (by simp))]
    have hu2 : upS S u (.lst [.int g, .int c, .int (n + 1)]) u = some (.lst [.int g, .int c, .int (n + 1)]) := upS_same
    walk_at "dy"
    rw [x_ixo hu2]
    walk_at "dy"
    rw [x_ixo hu2]
    walk_at "dy"
    have hn : n < 2 ^ 100 + 1 := by omega
    have b1 : (n + 1).natAbs < 2 ^ 101 := abs_lt_of (by omega) (by omega)
    have b2 : (2 * (n + 1) + 1).natAbs < 2 ^ 103 := abs_lt_of (by omega) (by omega)
    have b3 : c.natAbs < 2 ^ 70 := abs_lt_of c0 c1
    have b4 : (c * (2 * (n + 1) + 1)).natAbs < 2 ^ (70 + 103) := wide_lt b3 b2
    have b5 : (6007 * (n + 1)).natAbs < 2 ^ (13 + 101) := wide_lt (by decide) b1
    have b6 : (6007 * (n + 1) * (n + 1)).natAbs < 2 ^ (13 + 101 + 101) := wide_lt b5 b1
    have b7 : (c * (2 * (n + 1) + 1) + 6007 * (n + 1) * (n + 1) + 53).natAbs < 2 ^ 220 := by
      have e1 : (2 : Nat) ^ (70 + 103) ≤ 2 ^ 216 := Nat.pow_le_pow_right (by decide) (by decide)
      have e2 : (2 : Nat) ^ (13 + 101 + 101) ≤ 2 ^ 216 := Nat.pow_le_pow_right (by decide) (by decide)
      omega
    refine ⟨mulOk 2 101 (by decide) b1 (by decide) (by decide) (by decide), mulOk 70 103 b3 b2 (by decide) (by decide) (by decide), mulOk 13 101 (by decide) b1 (by decide) (by decide) (by decide), mulOk (13 + 101) 101 b5 b1 (by decide) (by decide) (by decide), powOk 220 3 b7 (by decide) (by decide) (by decide), by decide, ?_⟩
    have f7 := fmod_in (a := n + 1) (b := 7) (by decide)
    obtain ⟨p, ep, p0, p1⟩ := primes_at f7.1 f7.2
    have f8 := fmod_in (a := n + 1 + 3) (b := 7) (by decide)
    obtain ⟨p', ep', p0', p1'⟩ := primes_at f8.1 f8.2
    unfold primes at ep ep'
    rw [ep]
    walk_at "dy"
    have fm := fmod_in (a := (c * (2 * (n + 1) + 1) + 6007 * (n + 1) * (n + 1) + 53) ^ Int.toNat 3) (b := p) (by omega)
    rw [ep']
    walk_at "dy"
    generalize (c * (2 * (n + 1) + 1) + 6007 * (n + 1) * (n + 1) + 53) ^ Int.toNat 3 = big at fm ⊢
    have fd : 0 ≤ (big.fmod p).fdiv 8191 ∧ (big.fmod p).fdiv 8191 < 2 ^ 31 := by
      rw [Int.fdiv_eq_ediv_of_nonneg _ (by decide)]
      omega
    refine ⟨by omega, ⟨by decide, by decide⟩, mulOk 31 102 (abs_lt_of fm.1 (by omega)) (abs_lt_of (by omega) (by omega)) (by decide) (by decide) (by decide), by decide, by omega, ⟨by decide, by decide⟩, by omega, ?_⟩
    exact q _ _ (fmod_in w0).1 (fmod_in w0).2 ⟨g, c, n + 1, upS_same, g0, c0, c1, by omega, by omega⟩ fun a ha => upS_ne ha

theorem pure_law_whole : ∀ ds S Q Ed, sp_law_whole ds S Q Ed → t_law_whole Ed { nx := fun _ S' => Q .non S', rt := Q } (startD N_law_whole ds) S := by
  rintro ds S Q Ed ⟨d, rfl, hd, q⟩
  rw [st_law_whole]
  unfold t_law_whole
  cases d <;> first | (walk_at "dy"; exact q) | exact absurd (show false = true from hd) Bool.false_ne_true

theorem pure_law_ring : ∀ ds S Q Ed, sp_law_ring ds S Q Ed → t_law_ring Ed { nx := fun _ S' => Q .non S', rt := Q } (startD N_law_ring ds) S := by
  rintro ds S Q Ed ⟨u, B, rfl, hU, hB, q⟩
  rw [st_law_ring]
  unfold t_law_ring
  refine seq_step fun r hr => ?_
  walk_at "dy"
  refine ⟨u, 8, B, rfl, hU, by omega, by decide, by decide, fun k S1 k0 k1 hU1 ho1 => ?_⟩
  walk_at "dy"
  obtain ⟨n, en, hn⟩ := at_nat (ns := [1, 2, 4, 8, 12, 12, 12, 40]) k0 k1
  have n0 : 1 ≤ n ∧ n ≤ 40 := by
    simp only [List.mem_cons, List.not_mem_nil, or_false] at hn
    omega
  have en' : atI [D.int 1, D.int 2, D.int 4, D.int 8, D.int 12, D.int 12, D.int 12, D.int 40] k = some (.int (n : Int)) := en
  rw [en']
  walk_at "dy"
  subst hr
  refine seq_step fun r hr => ?_
  walk_at "dy"
  refine ⟨u, 6, _, rfl, hU1, by omega, by decide, by decide, fun j S2 j0 j1 hU2 ho2 => ?_⟩
  walk_at "dy"
  obtain ⟨w, ew, hw⟩ := at_nat (ns := [2, 2, 3, 5, 30, 999999]) j0 j1
  have w0 : 2 ≤ w ∧ w ≤ 999999 := by
    simp only [List.mem_cons, List.not_mem_nil, or_false] at hw
    omega
  have ew' : atI [D.int 2, D.int 2, D.int 3, D.int 5, D.int 30, D.int 999999] j = some (.int (w : Int)) := ew
  rw [ew']
  walk_at "dy"
  subst hr
  have ho12 : Oth S S2 u := ho1.trans ho2
  have hw5 : (w : Int) < 2 ^ 1000 := Int.lt_of_le_of_lt (b := 999999) (by omega) (by decide)
  have hn5 : (n : Int) < 2 ^ 1000 := Int.lt_of_le_of_lt (b := 40) (by omega) (by decide)
  simp only [dRet, dCB, dCons, dNil, dComp, dRng1, dOp, dC, dCall, List.append_nil, x_var0, x_varS]
  refine ⟨u, _, _, rfl, hU2, by omega, by omega, hn5, fun t S3 t0 t1 hU3 ho3 => ?_⟩
  walk_at "dy"
  refine ⟨by omega, ?_⟩
  obtain ⟨t, rfl⟩ := Int.eq_ofNat_of_zero_le t0
  have et : ((1 : Int) + (t : Int)).toNat = 1 + t := by omega
  rw [et]
  have T0 : 1 ≤ 1 + t ∧ 1 + t ≤ 40 := by omega
  generalize 1 + t = T at T0 ⊢
  have ho13 : Oth S S3 u := ho12.trans ho3
  show dComp (fun _ _ R => R (rgD 0 T) S3) (dName 4) dYes (dOp rdAdd (dC (.int 1)) (dCall sp_law_draw [] wd0 (dCons (dVar 0) (dCons (dVar 3) dNil)))) [4] [some (D.obj u), some (D.int 40), some (D.int n), some (D.int w), none] S3 (fun x S' => rdTupA [x] S' Q)
  refine comp_inv (rgD 0 T) S3 (fun p acc S' => ∃ l : List Int, acc = l.map D.int ∧ (∀ a ∈ l, 1 ≤ a ∧ a ≤ 999999) ∧ Urn S' u (B + 3 + acc.length) ∧ ∀ a, a ≠ u → a ≠ p → S' a = S3 a) (fun R hR => hR) (fun p hp => ⟨[], rfl, (fun a h => by cases h), (hU3.up (hU3.ne hp)).mono (by show _ ≤ B + 3 + (0 : Nat); omega), fun a _ ha => upS_ne ha⟩) ?_ (by rw [rgD_len]; omega) ?_
  · rintro p pre x r acc S4 Q' hp hx hlen ⟨l, rfl, hl, hU4, ho4⟩ hS4 kk
    have up := hU3.ne hp
    have hb : pre.length < T := by
      have := congrArg List.length hx
      rw [rgD_len, List.length_append, List.length_cons] at this
      omega
    rw [List.length_map] at hlen
    refine ⟨u, _, _, rfl, hU4, by rw [List.length_map]; omega, by omega, hw5, fun v S5 v0 v1 hU5 ho5 => ?_⟩
    rw [List.length_map] at hU5
    show Q' (.int (1 + v)) S5
    refine kk _ S5 ((ho5 p (Ne.symm up)).trans hS4) ⟨l ++ [1 + v], by rw [List.map_append]; rfl, fun a ha => ?_, (hU5.up up).mono ?_, fun a ha hb => ?_⟩
    · rcases List.mem_append.mp ha with ha | ha
      · exact hl a ha
      · rw [List.mem_singleton.mp ha]; omega
    · rw [List.length_append, List.length_singleton, List.length_map]; omega
    · rw [upS_ne hb, ho5 a ha, ho4 a ha hb]
  · rintro p acc S4 hp hlen ⟨l, rfl, hl, hU4, ho4⟩ hS4
    have up := hU3.ne hp
    rw [rgD_len, List.length_map] at hlen
    rw [List.length_map] at hU4
    show Q (ringD l) (del S4 p)
    exact q l _ ⟨hl, by omega, by omega⟩ ((hU4.del up).mono (by omega)) (ho13.trans (Oth.del ho4 hp))

theorem draws {σ : Si} {i : Nat} {te : TED} {S : Sd} {u : Addr} {B w : Int} {n : Nat} {Q : DK} {ti : TID} {vs : List Nat} (hti : ∀ R : List D → Sd → Prop, R (rgD 0 n) S → ti σ S R) (hw : 0 < w) (hw2 : w ≤ 999999) (hn : n ≤ 100) (hB : B ≤ 2 ^ 98) (hU : Urn S u B)
    (hte : ∀ x S' (Q' : DK), sp_law_draw [.obj u, .int w] S' (fun v S2 => rdAdd (.int 1) v S2 Q') (fun _ _ => False) → te ((wipeD σ vs).set i (some x)) S' Q') (q : ∀ (L : List Int) S', L.length = n → (∀ a ∈ L, 1 ≤ a ∧ a ≤ w) → Urn S' u (B + n) → Oth S S' u → Q (.lst (L.map D.int)) S') :
    dComp ti (dName i) dYes te vs σ S Q := by
  refine comp_inv (rgD 0 n) S (fun p acc S' => ∃ l : List Int, acc = l.map D.int ∧ (∀ a ∈ l, 1 ≤ a ∧ a ≤ w) ∧ Urn S' u (B + acc.length) ∧ ∀ a, a ≠ u → a ≠ p → S' a = S a) hti (fun p hp => ⟨[], rfl, (fun a h => by cases h), (hU.up (hU.ne hp)).mono (by show _ ≤ B + (0 : Nat); omega), fun a _ ha => upS_ne ha⟩) ?_ (by rw [rgD_len]; omega) ?_
  · rintro p pre x r acc S4 Q' hp hx hlen ⟨l, rfl, hl, hU4, ho4⟩ hS4 kk
    have up := hU.ne hp
    have hb : pre.length < n := by
      have := congrArg List.length hx
      rw [rgD_len, List.length_append, List.length_cons] at this
      omega
    rw [List.length_map] at hlen
    refine hte _ _ _ ⟨u, w, _, rfl, hU4, by rw [List.length_map]; omega, hw, Int.lt_of_le_of_lt hw2 (by decide), fun v S5 v0 v1 hU5 ho5 => ?_⟩
    rw [List.length_map] at hU5
    show Q' (.int (1 + v)) S5
    refine kk _ S5 ((ho5 p (Ne.symm up)).trans hS4) ⟨l ++ [1 + v], by rw [List.map_append]; rfl, fun a ha => ?_, (hU5.up up).mono ?_, fun a ha hb => ?_⟩
    · rcases List.mem_append.mp ha with ha | ha
      · exact hl a ha
      · rw [List.mem_singleton.mp ha]; omega
    · rw [List.length_append, List.length_map]
      show _ ≤ B + ((l.length + 1 : Nat) : Int)
      omega
    · rw [upS_ne hb, ho5 a ha, ho4 a ha hb]
  · rintro p acc S4 hp hn ⟨l, rfl, hl, hU4, ho4⟩ hS4
    rw [List.length_map, rgD_len] at hn
    rw [List.length_map, hn] at hU4
    exact q l _ hn hl (hU4.del (hU.ne hp)) (Oth.del ho4 hp)
theorem cutD_20 (xs : List D) : cutD xs none (some 20) = xs.take 20 := cutD_first xs 20
theorem pure_law_ahead : ∀ ds S Q Ed, sp_law_ahead ds S Q Ed → t_law_ahead Ed { nx := fun _ S' => Q .non S', rt := Q } (startD N_law_ahead ds) S := by
  rintro ds S Q Ed ⟨u, B, R, rfl, RI, hU, hB, q⟩
  rw [st_law_ahead]
  unfold t_law_ahead
  have l0 := RI.l0
  have l1 := RI.l1
  have hB2 : ∀ c : Int, c ≤ 200 → B + c ≤ 2 ^ 98 := fun c h => Int.le_trans (Int.add_le_add hB h) (by decide)
  refine seq_step fun r hr => ?_
  walk_at "dy"
  refine ⟨u, 4, B, rfl, hU, by have := hB2 1 (by decide); omega, by decide, by decide, fun k S1 k0 k1 hU1 ho1 => ?_⟩
  try walk_at "dy"
  obtain ⟨n, en, hn⟩ := at_nat (ns := [0, 1, 3, 20]) k0 k1
  have n0 : n ≤ 20 := by
    simp only [List.mem_cons, List.not_mem_nil, or_false] at hn
    omega
  have en' : atI [D.int 0, D.int 1, D.int 3, D.int 20] k = some (.int (n : Int)) := en
  rw [en']
  try walk_at "dy"
  subst hr
  refine seq_step fun r hr => ?_
  walk_at "dy"
  refine ⟨u, 4, _, rfl, hU1, by have := hB2 2 (by decide); omega, by decide, by decide, fun j S2 j0 j1 hU2 ho2 => ?_⟩
  try walk_at "dy"
  obtain ⟨w, ew, hw⟩ := at_nat (ns := [2, 3, 30, 999999]) j0 j1
  have w0 : 2 ≤ w ∧ w ≤ 999999 := by
    simp only [List.mem_cons, List.not_mem_nil, or_false] at hw
    omega
  have ew' : atI [D.int 2, D.int 3, D.int 30, D.int 999999] j = some (.int (w : Int)) := ew
  rw [ew']
  try walk_at "dy"
  subst hr
  refine seq_step fun r hr => ?_
  have comp_draw : ∀ {ti : TID} {g : TGD} {tt : TTD} {te : TED} {vs : List Nat} {σ : Si} {S : Sd} {Q : DK}, (ti σ S fun xs S1 => dComp (fun _ _ R => R xs S1) g tt te vs σ S1 Q) → dComp ti g tt te vs σ S Q := fun h => h
  refine seq_set ?_
  refine comp_draw ?_
  walk_at "dy"
  refine ⟨u, _, _, rfl, hU2, by have := hB2 3 (by decide); omega, by omega, Int.lt_of_le_of_lt (b := 21) (by omega) (by decide), fun m S3 m0 m1 hU3 ho3 => ?_⟩
  try dsimp only
  refine ⟨by omega, ?_⟩
  obtain ⟨m, rfl⟩ := Int.eq_ofNat_of_zero_le m0
  rw [Int.toNat_natCast]
  have hn20 : m ≤ 20 := by have : (m : Int) < n + 1 := m1; omega
  refine draws (n := m) (w := (w : Int)) (fun R' h => h) (by omega) (by omega) (by omega) (by have := hB2 3 (by decide); omega) hU3 (fun x S' Q' h => ?_) (fun L S4 eL hL hU4 ho4 => ?_)
  · show dOp rdAdd (dC (.int 1)) (dCall sp_law_draw [] wd0 (dCons (dVar 0) (dCons (dVar 3) dNil))) [some (.obj u), some (ringD R), some (.int (n : Int)), some (.int (w : Int)), none, some x] S' Q'
    walk_at "dy"
    exact h
  have ho := ((ho1.trans ho2).trans ho3).trans ho4
  try simp only [List.set_cons_zero, List.set_cons_succ]
  subst hr
  refine seq_step fun r hr => ?_
  walk_at "dy"
  refine ⟨u, 3, _, rfl, hU4, by have := hB2 30 (by decide); omega, by decide, by decide, fun v S5 v0 v1 hU5 ho5 => ?_⟩
  have go : ∀ (M : List Int) (S6 : Sd) (z : Option D), (∀ a ∈ M, 1 ≤ a ∧ a ≤ 999999) → Urn S6 u (B + 50) → Oth S S6 u → r { nx := fun _ S' => Q .non S', rt := Q } [some (.obj u), some (ringD R), some (.int (n : Int)), some (.int (w : Int)), some (.lst (M.map D.int)), z] S6 := fun M S6 z hM hU6 ho6 => by
    subst hr
    refine seq_step fun r hr => ?_
    walk_at "dy"
    unfold dSlO
    walk_at "dy"
    intro p hp
    have pu : p ≠ u := (hU6.ne hp).symm
    have Sp : S p = none := by rw [← ho6 p pu]; exact hp
    rw [cutD_20, ← List.map_take]
    have hA : ∀ a ∈ M.take 20, 1 ≤ a ∧ a ≤ 999999 := fun a ha => hM a (List.mem_of_mem_take ha)
    have lA : (M.take 20).length ≤ 20 := by rw [List.length_take]; omega
    generalize M.take 20 = A at *
    have hS7 : upS S6 p (.lst (A.map D.int)) p = some (.lst (A.map D.int)) := upS_same
    have hU7 := hU6.up (o := .lst (A.map D.int)) (Ne.symm pu)
    have ho7 : ∀ a, a ≠ u → a ≠ p → upS S6 p (.lst (A.map D.int)) a = S a := fun a h1 h2 => by rw [upS_ne h2, ho6 a h1]
    generalize upS S6 p (.lst (A.map D.int)) = S7 at *
    subst hr
    refine seq_step fun r hr => ?_
    have fin : ∀ (A : List Int) (S8 : Sd) (z : Option D), S8 p = some (.lst (A.map D.int)) → A.length ≤ 20 → (∀ a ∈ A, a.natAbs ≤ 999999) → (∀ a ∈ A.tail, 1 ≤ a) → Urn S8 u (B + 100) → (∀ a, a ≠ u → a ≠ p → S8 a = S a) → r { nx := fun _ S' => Q .non S', rt := Q } [some (.obj u), some (ringD R), some (.int (n : Int)), some (.int (w : Int)), some (.obj p), z] S8 := fun A S8 z hS8 h1 h2 h3 h4 h5 => by
      subst hr
      refine ⟨p, _, rfl, hS8, ?_⟩
      walk_at "dy"
      exact q A _ h1 h2 h3 (h4.del (Ne.symm pu)) (Oth.del h5 Sp)
    have ll : ∀ a ∈ A, a.natAbs ≤ 999999 := fun a ha => by have := hA a ha; omega
    have lt : ∀ a ∈ A.tail, 1 ≤ a := fun a ha => (hA a (List.mem_of_mem_tail ha)).1
    walk_at "dy"
    refine neO_nil hS7 ?_
    by_cases c : A = []
    · subst c
      rw [decide_eq_true rfl]
      try walk_at "dy"
      exact fin _ _ _ hS7 lA ll lt (hU7.mono (by omega)) ho7
    rw [decide_eq_false c]
    try walk_at "dy"
    refine ⟨u, 3, _, rfl, hU7, by have := hB2 50 (by decide); omega, by decide, by decide, fun v S8 v0 v1 hU8 ho8 => ?_⟩
    have hS8 : S8 p = some (.lst (A.map D.int)) := (ho8 p pu).trans hS7
    try walk_at "dy"
    by_cases c2 : v = 0
    · rw [if_pos c2]
      have e20 : (2 : Nat) ^ 20 = 1048576 := (by decide)
      refine ⟨mulOk 2 20 (by decide) (by rw [Int.natAbs_natCast]; omega) (by decide) (by decide) (by decide), ?_⟩
      refine ⟨u, _, _, rfl, hU8, by have := hB2 52 (by decide); omega, by omega, Int.lt_of_le_of_lt (b := 2000001) (by omega) (by decide), fun v2 S9 v2a v2b hU9 ho9 => ?_⟩
      have hS9 : S9 p = some (.lst (A.map D.int)) := (ho9 p pu).trans hS8
      obtain ⟨a, t, rfl⟩ : ∃ a t, A = a :: t := ⟨_, _, (List.cons_head_tail c).symm⟩
      try walk_at "dy"
      rw [x_set hS9 (ixN_0 (by simp))]
      refine fin ((v2 - w) :: t) _ _ upS_same lA (fun b hb => ?_) lt ((hU9.up (Ne.symm pu)).mono (by omega)) (fun x h1 h2 => by rw [upS_ne h2, ho9 x h1, ho8 x h1, ho7 x h1 h2])
      rcases List.mem_cons.mp hb with rfl | hb
      · omega
      · exact ll b (List.mem_cons_of_mem _ hb)
    · rw [if_neg c2]
      exact fin _ _ _ hS8 lA ll lt (hU8.mono (by omega)) (fun x h1 h2 => by rw [ho8 x h1, ho7 x h1 h2])
  have len_go : ∀ (S : Sd) (Q : DK), Q (.int R.length) S → rdLen [ringD R] S Q := fun S Q h => by
    show Q (.int (R.map D.int).length) S
    rw [List.length_map]
    exact h
  dsimp only
  by_cases c : v = 0
  · subst c
    show rdEq (.int 0) (.int 0) S5 _
    rw [x_eq_ii, decide_eq_true rfl]
    dsimp only
    rw [if_pos rfl]
    refine len_go _ _ ?_
    rw [x_min2]
    rw [x_sub]
    dsimp only
    show rdListA [.tup (R.map D.int)] S5 _
    rw [x_listA_t]
    refine len_go _ _ ?_
    refine ⟨u, _, _, rfl, hU5, by have := hB2 40 (by decide); omega, by omega, Int.lt_of_le_of_lt (b := 40) (by omega) (by decide), fun t S6 t0 t1 hU6 ho6 => ?_⟩
    dsimp only
    obtain ⟨t, rfl⟩ := Int.eq_ofNat_of_zero_le t0
    rw [x_sl_l, cutD_from (by rw [List.length_map]; omega), ← List.map_drop]
    have e19 : (19 - (if (R.length : Int) < 19 then (R.length : Int) else 19)) = ((19 - R.length : Nat) : Int) := by split <;> omega
    rw [e19, cutD_first, ← List.map_take]
    refine ⟨by rw [List.length_map, List.length_map, List.length_take, List.length_drop]; omega, ?_⟩
    rw [← List.map_append]
    refine go _ _ _ (fun a ha => ?_) (hU6.mono (by omega)) ((ho.trans ho5).trans ho6)
    rcases List.mem_append.mp ha with h | h
    · have := hL a (List.mem_of_mem_take h); omega
    · exact RI.el a (List.mem_of_mem_drop h)
  · rw [x_eq_ii, decide_eq_false c]
    dsimp only
    rw [if_neg (by decide)]
    exact go _ _ _ (fun a ha => by have := hL a ha; omega) (hU5.mono (by omega)) (ho.trans ho5)

theorem pure_law_drawn : ∀ ds S Q Ed, sp_law_drawn ds S Q Ed → t_law_drawn Ed { nx := fun _ S' => Q .non S', rt := Q } (startD N_law_drawn ds) S := by
  rintro ds S Q Ed ⟨u, B, rfl, hU, hB, q⟩
  rw [st_law_drawn]
  unfold t_law_drawn
  have len_go : ∀ (L : List Int) (S : Sd) (Q : DK), Q (.int L.length) S → rdLen [ringD L] S Q := fun L S Q h => by
    show Q (.int (L.map D.int).length) S
    rw [List.length_map]
    exact h
  have hB2 : ∀ c : Int, c ≤ 200 → B + c ≤ 2 ^ 97 := fun c h => Int.le_trans (Int.add_le_add hB h) (by decide)
  refine seq_step fun r hr => ?_
  walk_at "dy"
  refine ⟨u, B, rfl, hU, by have := hB2 0 (by decide); omega, fun L S1 RI hU1 ho1 => ?_⟩
  subst hr
  refine seq_step fun r hr => ?_
  walk_at "dy"
  refine ⟨u, 4, _, rfl, hU1, by have := hB2 100 (by decide); omega, by decide, by decide, fun v S2 v0 v1 hU2 ho2 => ?_⟩
  have fin : ∀ (M : List Int) (S3 : Sd), RowI M → Urn S3 u (B + 110) → Oth S S3 u → r { nx := fun _ S' => Q .non S', rt := Q } [some (.obj u), some (ringD M)] S3 := fun M S3 RM hU3 ho3 => by
    subst hr
    walk_at "dy"
    refine ⟨u, _, M, rfl, RM, hU3, by have := hB2 110 (by decide); omega, fun A S4 al a9 at_ hU4 ho4 => ?_⟩
    have ok : RowOk A M := ⟨⟨RM.el, fun e => by have := RM.l0; rw [e] at this; exact absurd this (by decide), RM.l1, fun a ha => by have := a9 a ha; have e : (2 : Nat) ^ 20 = 1048576 := (by decide); omega, al⟩, a9, at_⟩
    try walk_at "dy"
    exact q A M S4 ok (hU4.mono (by omega)) (ho3.trans ho4)
  try walk_at "dy"
  by_cases c : v = 0
  · rw [if_pos c]
    have l1 := RI.l0
    have l2 := RI.l1
    refine len_go _ _ _ ?_
    refine ⟨⟨by omega, ?_⟩, ?_⟩
    · have h6 : (L.length : Int).natAbs < 2 ^ 6 := by
        have e : (2 : Nat) ^ 6 = 64 := by decide
        omega
      have := log2_lt h6 (by decide)
      omega
    have ew : (40 : Int).fdiv (L.length : Int) = ((40 / L.length : Nat) : Int) := by
      rw [Int.fdiv_eq_ediv_of_nonneg _ (by omega)]
      rfl
    rw [ew]
    have w1 : 1 ≤ 40 / L.length := Nat.div_pos l2 l1
    have w2 : 40 / L.length ≤ 40 := Nat.div_le_self _ _
    refine ⟨u, _, _, rfl, hU2, by have := hB2 101 (by decide); omega, by omega, Int.lt_of_le_of_lt (b := 40) (by omega) (by decide), fun t S3 t0 t1 hU3 ho3 => ?_⟩
    try walk_at "dy"
    obtain ⟨m, rfl⟩ := Int.eq_ofNat_of_zero_le t0
    refine ⟨⟨fun z => by have := congrArg List.length z; rw [List.length_map] at this; rw [this] at l1; exact absurd l1 (by decide), by omega, by omega, by rw [List.length_map]; omega⟩, ?_⟩
    have em : ((1 : Int) + (m : Int)).toNat = m + 1 := by omega
    rw [em, told_D]
    have hm : (m + 1) * L.length ≤ 40 := by
      have h1 : m + 1 ≤ 40 / L.length := by omega
      exact Nat.le_trans (Nat.mul_le_mul_right _ h1) (Nat.div_mul_le_self 40 L.length)
    exact fin _ _ ⟨fun a ha => RI.el a (told_mem ha), by rw [told_len]; exact Nat.mul_le_mul (show 1 ≤ m + 1 by omega) l1, by rw [told_len]; exact hm⟩ (hU3.mono (by omega)) ((ho1.trans ho2).trans ho3)
  · rw [if_neg c]
    exact fin _ _ RI (hU2.mono (by omega)) (ho1.trans ho2)

theorem pure_law_unrolled : ∀ ds S Q Ed, sp_law_unrolled ds S Q Ed → t_law_unrolled Ed { nx := fun _ S' => Q .non S', rt := Q } (startD N_law_unrolled ds) S := by
  rintro ds S Q Ed ⟨u, B, A, R, rfl, H, hU, hB, q⟩
  rw [st_law_unrolled]
  unfold t_law_unrolled
  have p0 := ne_len H.b.r0
  have lr := H.b.rl
  have la := H.b.al
  have len_go : ∀ (L : List Int) (S : Sd) (Q : DK), Q (.int L.length) S → rdLen [ringD L] S Q := fun L S Q h => by
    show Q (.int (L.map D.int).length) S
    rw [List.length_map]
    exact h
  refine seq_step fun r hr => ?_
  walk_at "dy"
  refine len_go _ _ _ ?_
  try walk_at "dy"
  refine ⟨u, _, B, rfl, hU, Int.le_trans hB (by decide), by omega, Int.lt_of_le_of_lt (b := 41) (by omega) (by decide), fun v S1 v0 v1 hU1 ho1 => ?_⟩
  try walk_at "dy"
  obtain ⟨v, rfl⟩ := Int.eq_ofNat_of_zero_le v0
  subst hr
  refine seq_step fun r hr => ?_
  unfold ringD
  walk_at "dy"
  refine ⟨by rw [List.length_map]; omega, ?_⟩
  rw [← List.map_append, cutD_to (by rw [List.length_map, List.length_append]; omega), ← List.map_take]
  refine ⟨by rw [List.length_map, List.length_map, List.length_take]; omega, ?_⟩
  rw [← List.map_append]
  subst hr
  refine seq_step fun r hr => ?_
  walk_at "dy"
  rw [cutD_from (by rw [List.length_map]; omega), cutD_to (by rw [List.length_map]; omega), ← List.map_take, ← List.map_drop]
  refine ⟨by rw [List.length_map, List.length_map, List.length_take, List.length_drop]; omega, ?_⟩
  rw [← List.map_append]
  subst hr
  refine seq_step fun r hr => ?_
  walk_at "dy"
  rw [List.length_map]
  by_cases c : 20 < (A ++ (R ++ R).take v).length
  · rw [if_pos (by omega)]
    exact q A R _ H (hU1.mono (by omega)) ho1
  · rw [if_neg (by omega)]
    subst hr
    walk_at "dy"
    have hm : ∀ a ∈ (R ++ R).take v, a ∈ R := fun a ha => by
      rcases List.mem_append.mp (List.mem_of_mem_take ha) with h | h <;> exact h
    have ht : ∀ a ∈ R.drop v ++ R.take v, a ∈ R := fun a ha => by
      rcases List.mem_append.mp ha with h | h
      · exact List.mem_of_mem_drop h
      · exact List.mem_of_mem_take h
    have e20 : (2 : Nat) ^ 20 = 1048576 := by decide
    have lt : (R.drop v ++ R.take v).length = R.length := by rw [List.length_append, List.length_drop, List.length_take]; omega
    refine q (A ++ (R ++ R).take v) (R.drop v ++ R.take v) _ ⟨⟨fun a ha => H.b.r1 a (ht a ha), fun e => by rw [e] at lt; simp at lt; omega, by omega, fun a ha => ?_, by omega⟩, fun a ha => ?_, fun a ha => ?_⟩ (hU1.mono (by omega)) ho1
    · rcases List.mem_append.mp ha with h | h
      · exact H.b.a2 a h
      · have := H.b.r1 a (hm a h); omega
    · rcases List.mem_append.mp ha with h | h
      · exact H.a9 a h
      · have := H.b.r1 a (hm a h); omega
    · cases A with
      | nil => exact (H.b.r1 a (hm a (List.mem_of_mem_tail ha))).1
      | cons x A =>
        rcases List.mem_append.mp ha with h | h
        · exact H.tl a h
        · exact (H.b.r1 a (hm a h)).1

theorem told_row {A R : List Int} (h0 : R ≠ []) {n k : Nat} (hn : n ≤ A.length + k * R.length) : (A ++ told R k).take n = rwL (rowF A R) n := by
  have l2 : (told R k).length = k * R.length := told_len R k
  refine List.ext_getElem? fun i => ?_
  by_cases hi : i < n
  · rw [List.getElem?_take_of_lt hi, rwL_get hi]
    have hlt : i < (A ++ told R k).length := by rw [List.length_append, l2]; omega
    rw [List.getElem?_eq_getElem hlt]
    have e : (A ++ told R k).getD i 0 = rowF A R i := by
      by_cases c : i < A.length
      · rw [gD_app1 c]
        unfold rowF
        rw [if_pos c]
      · rw [gD_app2 (by omega), told_gD h0 k _ (by omega)]
        unfold rowF
        rw [if_neg c]
    rw [List.getD_eq_getElem?_getD, List.getElem?_eq_getElem hlt] at e
    exact congrArg some e
  · rw [List.getElem?_eq_none (by rw [List.length_take]; omega), List.getElem?_eq_none (by rw [rwL_len]; omega)]
theorem told_snoc (R : List Int) (k : Nat) : told R k ++ R = told R (k + 1) := by
  unfold told
  rw [List.replicate_succ', List.flatten_append]
  simp
theorem cutD_toX (L : List Int) (m : Nat) : cutD (L.map D.int) none (some (m : Int)) = (L.take m).map D.int := by
  by_cases h : m ≤ L.length
  · rw [cutD_to (by rw [List.length_map]; exact h), List.map_take]
  · rw [List.take_of_length_le (by omega)]
    unfold cutD
    rw [HT.sIx_nat, List.length_map, Nat.min_eq_right (by omega), show HT.sIx L.length 0 none = 0 from rfl, List.drop_zero, Nat.sub_zero, List.take_of_length_le (by rw [List.length_map]; exact Nat.le_refl _)]
theorem pure_law_row : ∀ ds S Q Ed, sp_law_row ds S Q Ed → t_law_row Ed { nx := fun _ S' => Q .non S', rt := Q } (startD N_law_row ds) S := by
  rintro ds S Q Ed ⟨A, R, n, rfl, h0, hR, hA, hn, q⟩
  rw [st_law_row]
  unfold t_law_row
  have p0 := ne_len h0
  refine seq_step fun r hr => ?_
  walk_at "dy"
  refine ⟨A.map D.int, rfl, fun p hp => ?_⟩
  try walk_at "dy"
  subst hr
  refine seq_step fun r hr => ?_
  refine while_inv (fun m σ S' => ∃ k : Nat, σ = [some (ringD A), some (ringD R), some (.int n), some (.obj p)] ∧ S' = upS S p (.lst ((A ++ told R k).map D.int)) ∧ k ≤ n ∧ m = n - k) n ⟨0, rfl, by rw [show told R 0 = [] from rfl, List.append_nil], Nat.zero_le _, rfl⟩ ?_
  rintro m σ S' N ⟨k, rfl, rfl, hk, rfl⟩ kk
  have ll : (A ++ told R k).length = A.length + k * R.length := by rw [List.length_append, told_len]
  walk_at "dy"
  refine len_at upS_same ?_
  rw [List.length_map, ll]
  by_cases c : A.length + k * R.length < n
  · have hkn : k < n := by
      have : k * 1 ≤ k * R.length := Nat.mul_le_mul_left k p0
      omega
    try walk_at "dy"
    rw [if_pos (by omega)]
    refine ⟨⟨_, upS_same⟩, ?_⟩
    refine ⟨p, _, R.map D.int, rfl, upS_same, .inl rfl, ?_, ?_⟩
    · rw [List.length_map, List.length_map, ll]
      have : k * R.length < n := by omega
      omega
    · rw [upS_upS, ← List.map_append, List.append_assoc, told_snoc]
      exact kk _ _ _ (by omega) ⟨k + 1, rfl, rfl, by omega, rfl⟩
  · try walk_at "dy"
    rw [if_neg (by omega)]
    subst hr
    refine ⟨p, _, rfl, upS_same, ?_⟩
    walk_at "dy"
    rw [del_upS hp, cutD_toX, told_row h0 (by omega)]
    exact q

theorem cut_row {f : Nat → Int} {n : Nat} {i j : Int} {a k : Nat} (ha : i = (a : Int)) (hk : j = ((a + k : Nat) : Int)) (h : a + k ≤ n) : cutD ((rwL f n).map D.int) (some i) (some j) = (rwL (fun m => f (a + m)) k).map D.int := by
  subst ha hk
  unfold cutD
  rw [sIx_lo (by omega) (by rw [List.length_map, rwL_len]; omega), sIx_lo (by omega) (by rw [List.length_map, rwL_len]; omega), Int.toNat_natCast, Int.toNat_natCast, show a + k - a = k by omega, ← List.map_drop, ← List.map_take, rwL_cut h]
theorem ne_lst {L M : List Int} {S : Sd} {Q : DK} (q : Q (.bl (!decide (L = M))) S) : rdNe (.lst (L.map D.int)) (.lst (M.map D.int)) S Q := by
  refine ⟨⟨okD_eqOk (okD_intsL L) (by decide), okD_eqOk (okD_intsL M) (by decide)⟩, ?_⟩
  have e : deq (.lst (L.map D.int)) (.lst (M.map D.int)) = decide (L = M) := deqL_ringE
  rw [e]
  exact q
theorem pure_law_fewest : ∀ ds S Q Ed, sp_law_fewest ds S Q Ed → t_law_fewest Ed { nx := fun _ S' => Q .non S', rt := Q } (startD N_law_fewest ds) S := by
  rintro ds S Q Ed ⟨A, R, rfl, h0, hR, hA, q⟩
  rw [st_law_fewest]
  unfold t_law_fewest
  obtain ⟨fp, f0, fm, fl, fa, flast, frow⟩ := few_few (A := A) h0
  have la : (fewest A R).1.length ≤ 20 := by
    obtain ⟨m, e⟩ := fa
    rw [e, List.length_take]
    omega
  have lr : (fewest A R).2.length ≤ 40 := by omega
  have ef : rowF A R = rowF (fewest A R).1 (fewest A R).2 := funext fun i => (frow i).symm
  generalize (fewest A R).1 = A' at *
  generalize (fewest A R).2 = R' at *
  have p0 := ne_len f0
  refine seq_step fun r hr => ?_
  walk_at "dy"
  refine ⟨A, R, 140, rfl, h0, by omega, by omega, by decide, ?_⟩
  rw [ef]
  generalize hf : rowF A' R' = f at *
  try walk_at "dy"
  subst hr
  refine seq_step fun r hr => ?_
  walk_at "dy"
  subst hr
  refine seq_step fun r hr => ?_
  refine while_inv (fun m σ S' => ∃ s : Nat, σ = [some (ringD A), some (ringD R), some (.lst ((rwL f 140).map D.int)), some (.int (s : Int)), none] ∧ S' = S ∧ 1 ≤ s ∧ s ≤ R'.length ∧ m = R'.length - s) (R'.length - 1) ⟨1, rfl, rfl, by decide, by omega, rfl⟩ ?_
  rintro m σ S' N ⟨s, rfl, rfl, s1, s2, rfl⟩ kk
  walk_at "dy"
  have c1 : cutD ((rwL f 140).map D.int) (some 20) (some 60) = (rwL (fun m => f (20 + m)) 40).map D.int := cut_row (a := 20) (k := 40) rfl rfl (by decide)
  have c2 : cutD ((rwL f 140).map D.int) (some (20 + (s : Int))) (some (60 + (s : Int))) = (rwL (fun m => f (20 + s + m)) 40).map D.int := cut_row (a := 20 + s) (k := 40) (by omega) (by omega) (by omega)
  have c3 : cutD ((rwL f 140).map D.int) (some 60) (some 80) = (rwL (fun m => f (60 + m)) 20).map D.int := cut_row (a := 60) (k := 20) rfl rfl (by decide)
  have c4 : cutD ((rwL f 140).map D.int) (some (60 + (s : Int))) (some (80 + (s : Int))) = (rwL (fun m => f (60 + s + m)) 20).map D.int := cut_row (a := 60 + s) (k := 20) (by omega) (by omega) (by omega)
  rw [c1, c2, c3, c4]
  refine ne_lst ?_
  have es : ((s : Int) + 1) = ((s + 1 : Nat) : Int) := by omega
  have fper : ∀ i, A'.length ≤ i → f (i + R'.length) = f i := fun i hi => by rw [← hf]; exact row_per i hi
  have more : (s = R'.length → False) → N [some (ringD A), some (ringD R), some (.lst ((rwL f 140).map D.int)), some (.int ((s : Int) + 1)), none] S' := fun h => by
    have h' : s ≠ R'.length := h
    rw [es]
    exact kk _ _ _ (show R'.length - (s + 1) < R'.length - s by omega) ⟨s + 1, rfl, rfl, by omega, by omega, rfl⟩
  by_cases d1 : rwL (fun m => f (20 + m)) 40 = rwL (fun m => f (20 + s + m)) 40
  · rw [decide_eq_true d1]
    try dsimp only
    rw [if_neg (by decide)]
    refine ne_lst ?_
    by_cases d2 : rwL (fun m => f (60 + m)) 20 = rwL (fun m => f (60 + s + m)) 20
    · rw [decide_eq_true d2]
      try dsimp only
      rw [if_neg (by decide)]
      have e1 := rwL_eq.mp d1
      have e2 := rwL_eq.mp d2
      have hs : s = R'.length := by
        by_cases c : s = R'.length
        · exact c
        · exact (row_no f0 fp (b := 20) (by omega) (show 0 < s by omega) (by omega) fun m hm => by
            rw [hf]
            by_cases cm : m < 40
            · exact e1 m cm
            · have := e2 (m - 40) (by omega)
              rw [show 60 + (m - 40) = 20 + m by omega, show 60 + s + (m - 40) = 20 + s + m by omega] at this
              exact this).elim
      subst hs
      subst hr
      refine seq_step fun r hr => ?_
      walk_at "dy"
      subst hr
      refine seq_step fun r hr => ?_
      refine while_inv (fun m σ S2 => ∃ b : Nat, σ = [some (ringD A), some (ringD R), some (.lst ((rwL f 140).map D.int)), some (.int (R'.length : Int)), some (.int (b : Int))] ∧ S2 = S' ∧ b ≤ A'.length ∧ m = A'.length - b) A'.length ⟨0, rfl, rfl, by omega, rfl⟩ ?_
      rintro m σ S2 N2 ⟨b, rfl, rfl, b1, rfl⟩ kk2
      walk_at "dy"
      have c5 : cutD ((rwL f 140).map D.int) (some (b : Int)) (some 60) = (rwL (fun m => f (b + m)) (60 - b)).map D.int := cut_row (a := b) (k := 60 - b) rfl (by omega) (by omega)
      have c6 : cutD ((rwL f 140).map D.int) (some ((b : Int) + (R'.length : Int))) (some (60 + (R'.length : Int))) = (rwL (fun m => f (b + R'.length + m)) (60 - b)).map D.int := cut_row (a := b + R'.length) (k := 60 - b) (by omega) (by omega) (by omega)
      rw [c5, c6]
      refine ne_lst ?_
      by_cases d3 : rwL (fun m => f (b + m)) (60 - b) = rwL (fun m => f (b + R'.length + m)) (60 - b)
      · rw [decide_eq_true d3]
        try dsimp only
        rw [if_neg (by decide)]
        have e3 := rwL_eq.mp d3
        have hb : b = A'.length := by
          by_cases c : b = A'.length
          · exact c
          · have h := e3 (A'.length - 1 - b) (by omega)
            rw [show b + (A'.length - 1 - b) = A'.length - 1 by omega, show b + R'.length + (A'.length - 1 - b) = A'.length - 1 + R'.length by omega, ← hf] at h
            exact (row_last f0 flast (by omega) h).elim
        subst hb
        subst hr
        walk_at "dy"
        have c7 : cutD ((rwL f 140).map D.int) none (some (A'.length : Int)) = A'.map D.int := by
          rw [cutD_first, ← List.map_take]
          have := rwL_cut (f := f) (n := 140) (i := 0) (k := A'.length) (by omega)
          rw [List.drop_zero] at this
          rw [this, ← hf]
          congr 1
          conv => rhs; rw [← row_ahead (A := A') (R := R')]
          exact congrArg (fun g => rwL g A'.length) (funext fun j => by rw [Nat.zero_add])
        have c8 : cutD ((rwL f 140).map D.int) (some (A'.length : Int)) (some ((A'.length : Int) + (R'.length : Int))) = R'.map D.int := by
          rw [cut_row (a := A'.length) (k := R'.length) rfl (by omega) (by omega), ← hf, row_ringF]
        rw [c7, c8]
        exact q
      · rw [decide_eq_false d3]
        try dsimp only
        rw [if_pos (by decide)]
        have h' : b ≠ A'.length := fun e => d3 (rwL_eq.mpr fun j hj => by
          rw [e, show A'.length + R'.length + j = (A'.length + j) + R'.length by omega, fper _ (by omega)])
        rw [show ((b : Int) + 1) = ((b + 1 : Nat) : Int) by omega]
        exact kk2 _ _ _ (show A'.length - (b + 1) < A'.length - b by omega) ⟨b + 1, rfl, rfl, by omega, rfl⟩
    · rw [decide_eq_false d2]
      try dsimp only
      rw [if_pos (by decide)]
      refine more fun hs => d2 (rwL_eq.mpr fun j hj => ?_)
      rw [hs, show 60 + R'.length + j = (60 + j) + R'.length by omega, fper _ (by omega)]
  · rw [decide_eq_false d1]
    try dsimp only
    rw [if_pos (by decide)]
    refine more fun hs => d1 (rwL_eq.mpr fun j hj => ?_)
    rw [hs, show 20 + R'.length + j = (20 + j) + R'.length by omega, fper _ (by omega)]

theorem emp_app (a : Str) : Str.empty ++ a = a := str_ext (by rw [app_toList]; rfl)
def lmD : D → D
  | .int a => .str ((toString a : Str) ++ (" " : Str))
  | d => d
theorem pure_law_shown_right : ∀ ds S Q Ed, sp_law_shown_right ds S Q Ed → t_law_shown_right Ed { nx := fun _ S' => Q .non S', rt := Q } (startD N_law_shown_right ds) S := by
  rintro ds S Q Ed ⟨A, R, rfl, F, h0, q⟩
  rw [st_law_shown_right]
  unfold t_law_shown_right
  have p0 := ne_len h0
  have la := F.la
  have lr := F.lr
  have len_go : ∀ (L : List Int) (S : Sd) (Q : DK), Q (.int L.length) S → rdLen [ringD L] S Q := fun L S Q h => by
    show Q (.int (L.map D.int).length) S
    rw [List.length_map]
    exact h
  have ok : ∀ L : List Int, eqOk (ringD L) = true := fun L => okD_eqOk (okD_ints L) (by decide)
  refine seq_step fun r hr => ?_
  walk_at "dy"
  subst hr
  refine seq_step fun r hr => ?_
  unfold dMeth
  walk_at "dy"
  refine ⟨⟨_, _, rfl, by decide +kernel⟩, ⟨A, R, rfl, ?_⟩⟩
  refine x_ne_self (ok _) ?_
  dsimp only
  rw [if_neg (by decide)]
  refine ⟨⟨_, _, rfl, by decide +kernel⟩, ⟨A, R, rfl, ?_⟩⟩
  refine x_ne_self (ok _) ?_
  dsimp only
  rw [if_neg (by decide)]
  refine ⟨⟨_, _, rfl, by decide +kernel⟩, ⟨A, R, rfl, ?_⟩⟩
  show (if true = false then _ else _)
  rw [if_neg (by decide)]
  subst hr
  refine seq_step fun r hr => ?_
  unfold dMeth
  walk_at "dy"
  refine ⟨⟨_, _, rfl, by decide +kernel⟩, ⟨A, R, rfl, ?_⟩⟩
  dsimp only
  show (if true = false then _ else _)
  rw [if_neg (by decide)]
  refine ⟨rfl, A, R, rfl, la, lr, _, rfl, by omega, by omega, ?_⟩
  refine len_go _ _ _ ?_
  refine len_go _ _ _ ?_
  rw [x_add_ii]
  rw [show (A.length : Int) + (R.length : Int) = ((A.length + R.length : Nat) : Int) by omega, x_ne_ii, decide_eq_true rfl]
  dsimp only
  rw [if_neg (by decide)]
  refine ⟨rfl, A, R, rfl, la, lr, _, rfl, by omega, by omega, ?_⟩
  rw [show ((((A.length + R.length : Nat) : Int)) != 0) = true from bne_iff_ne.mpr (by omega)]
  try dsimp only
  rw [if_neg (by decide)]
  subst hr
  refine seq_step fun r hr => ?_
  walk_at "dy"
  have tl : ∀ a : Int, a.natAbs < 2 ^ 30 → (toString a : Str).length ≤ 1921 := fun a h => len_intText (small_log h)
  have e1 : (" " : Str).length = 1 := by decide +kernel
  have e2 : ("(" : Str).length = 1 := by decide +kernel
  have e3 : (")" : Str).length = 1 := by decide +kernel
  have em : (A.map D.int).map lmD = (A.map fun a => (toString a : Str) ++ (" " : Str)).map D.str := by rw [List.map_map, List.map_map]; rfl
  have eR : (R.map D.int).map strW = (R.map fun a => (toString a : Str)).map D.str := by rw [List.map_map, List.map_map]; rfl
  have n1 := join_len (g := fun a => (toString a : Str) ++ (" " : Str)) (c := 1922) A fun a ha => by
    have h1 := tl a (F.a a ha)
    simp only [app_len2]
    omega
  have n2 := join_len (g := fun a => (toString a : Str)) (c := 1921) R fun a ha => tl a (F.r a ha)
  have b1 : A.length * 1922 ≤ 100 * 1922 := Nat.mul_le_mul_right _ la
  have b2 : R.length * 1921 ≤ 100 * 1921 := Nat.mul_le_mul_right _ lr
  have j1 : (Txt.join "" (A.map fun a => (toString a : Str) ++ (" " : Str))).length ≤ 1000000 := by
    have h := tj_len "" (A.map fun a => (toString a : Str) ++ (" " : Str))
    rw [show ("" : Str).length = 0 by decide +kernel, Nat.mul_zero] at h
    omega
  have j2 : (Txt.join " " (R.map fun a => (toString a : Str))).length ≤ 1000000 := by
    have h := tj_len " " (R.map fun a => (toString a : Str))
    rw [e1, List.length_map] at h
    omega
  refine comp_pure lmD (A.map D.int) S (fun R' hR' => by first | exact hR' | (walk_at "dy"; exact hR')) (fun x hx S' Q' q' => ?_) (by rw [List.length_map]; omega) ?_
  · obtain ⟨a, ha, rfl⟩ := List.mem_map.mp hx
    have h1 := tl a (F.a a ha)
    walk_at "dy"
    exact ⟨small_log (F.a a ha), by show (toString a : Str).length + (" " : Str).length ≤ _; omega, q'⟩
  refine x_join _ (congrArg some em) ?_ ?_
  · rw [show ("" : Str).length = 0 by decide +kernel, Nat.mul_zero]
    omega
  refine ⟨by omega, ?_⟩
  refine comp_pure strW (R.map D.int) S (fun R' hR' => by first | exact hR' | (walk_at "dy"; exact hR')) (fun x hx S' Q' q' => ?_) (by rw [List.length_map]; omega) ?_
  · obtain ⟨a, ha, rfl⟩ := List.mem_map.mp hx
    walk_at "dy"
    exact ⟨small_log (F.r a ha), q'⟩
  refine x_join _ (congrArg some eR) ?_ ?_
  · rw [e1, List.length_map]
    omega
  refine ⟨by rw [app_len2]; omega, ?_⟩
  refine ⟨by rw [app_len2, app_len2]; omega, ?_⟩
  have es : stStr A R = Txt.join "" (A.map fun a => (toString a : Str) ++ (" " : Str)) ++ ("(" : Str) ++ Txt.join " " (R.map fun a => (toString a : Str)) ++ (")" : Str) := by
    unfold stStr
    rw [emp_app, show (fun a : Int => Str.empty ++ (toString a : Str) ++ (" " : Str)) = fun a => (toString a : Str) ++ (" " : Str) from funext fun a => by rw [emp_app]]
  rw [← es]
  subst hr
  walk_at "dy"
  refine ⟨rfl, A, R, rfl, F, ⟨_, rfl, ?_⟩⟩
  dsimp only
  rw [x_eq_ss, decide_eq_true rfl]
  dsimp only
  rw [if_pos rfl]
  refine ⟨rfl, A, R, rfl, F, ⟨_, rfl, ?_⟩⟩
  obtain ⟨s1, s2⟩ := ring_shD F.a la
  obtain ⟨s3, s4⟩ := ring_shD F.r lr
  refine ⟨s1, ?_⟩
  have s2' : (shownD (.tup (A.map D.int))).length ≤ 200000 := s2
  have s4' : (shownD (.tup (R.map D.int))).length ≤ 200000 := s4
  have p1 : ("Stair(" : Str).length = 6 := by decide +kernel
  have p2 : (", " : Str).length = 2 := by decide +kernel
  refine ⟨by omega, ?_⟩
  refine ⟨by rw [app_len2]; omega, ?_⟩
  refine ⟨s3, ?_⟩
  refine ⟨by rw [app_len2, app_len2]; omega, ?_⟩
  refine ⟨by rw [app_len2, app_len2, app_len2]; omega, ?_⟩
  have et : stText A R = ("Stair(" : Str) ++ shownD (ringD A) ++ (", " : Str) ++ shownD (ringD R) ++ (")" : Str) := by
    unfold stText
    rw [emp_app]
  show Q (.bl (decide (stText A R = ("Stair(" : Str) ++ shownD (ringD A) ++ (", " : Str) ++ shownD (ringD R) ++ (")" : Str)))) S
  rw [decide_eq_true et]
  exact q

theorem for_lst_go {t : TAD} {g : TGD} {tb : TSD} {D : EndsD} {σ : Si} {S : Sd} (h : t σ S fun ds S1 => ds.length ≤ 16777216 ∧ dLoop g tb D ds σ S1) : dFor (dItr (dLst t)) g tb D σ S := h
theorem name_go {i : Nat} {x : D} {σ : Si} {S : Sd} {K : Si → Sd → Prop} (h : K (σ.set i (some x)) S) : dName i x σ S K := h
theorem cb_go {rd : RDC} {t : TAD} {σ : Si} {S : Sd} {Q : DK} (h : t σ S fun xs S1 => rd xs S1 Q) : dCB rd t σ S Q := h
theorem ixt_go {ds : List D} {i : Int} {v : D} {S : Sd} {Q : DK} (e : atI ds i = some v) (q : Q v S) : rdIx (.tup ds) (.int i) S Q := by rw [x_ixt, e]; exact q
theorem add_go {i j : Int} {S : Sd} {Q : DK} (q : Q (.int (i + j)) S) : rdAdd (.int i) (.int j) S Q := q
theorem few_window {A R : List Int} (h0 : R ≠ []) (la : A.length ≤ 20) (m : Nat) :
    fewest (rwL (fun j => rowF A R (m + j)) 20) (trn ((m + 20 - A.length) % R.length) R) = fewest (A.drop m) (trn ((m - A.length) % R.length) R) := by
  refine few_uniq (trn_ne h0) (trn_ne h0) fun i => ?_
  rw [row_drop A R h0 m i]
  have p0 := ne_len h0
  have hg : ∀ i, i < 20 → (rwL (fun j => rowF A R (m + j)) 20).getD i 0 = rowF A R (m + i) := fun i hi => by
    rw [List.getD_eq_getElem?_getD, rwL_get hi]; rfl
  have hl : (rwL (fun j => rowF A R (m + j)) 20).length = 20 := rwL_len _ _
  generalize rwL (fun j => rowF A R (m + j)) 20 = B at *
  by_cases c : i < 20
  · show (if i < B.length then _ else _) = _
    rw [if_pos (by omega), hg i c, Nat.add_comm]
  · unfold rowF
    rw [hl, if_neg c, if_neg (by omega), trn_len, trn_gD (Nat.le_of_lt (Nat.mod_lt _ p0)) (Nat.mod_lt _ p0), ← Nat.add_mod]
    congr 2
    omega
theorem few_FewI {A R : List Int} (F : FewI A R) (h0 : R ≠ []) (m t : Nat) : FewI (fewest (A.drop m) (trn t R)).1 (fewest (A.drop m) (trn t R)).2 := by
  have f := few_few (A := A.drop m) (R := trn t R) (trn_ne h0)
  obtain ⟨k, hk⟩ := f.at_
  have la := F.la
  have lr := F.lr
  refine ⟨fun x hx => ?_, fun x hx => F.r x (trn_mem _ _ _ (f.rm x hx)), ?_, ?_⟩
  · rw [hk] at hx
    exact F.a x (List.mem_of_mem_drop (List.mem_of_mem_take hx))
  · rw [hk, List.length_take, List.length_drop]; omega
  · have := f.rl
    rw [trn_len] at this
    omega
theorem zip_lst_go {a b : TED} {g : TGD} {tb : TSD} {D : EndsD} {σ : Si} {S : Sd} (h : a σ S fun x S1 => b σ S1 fun y S2 => zipR (fun ds S3 => dLoop g tb D ds σ S3) S2 [x, y]) : dFor (dZip (dCons a (dCons b dNil))) g tb D σ S := h
theorem seq_zip {a b : TED} {g : TGD} {tb r : TSD} {D : EndsD} {σ : Si} {S : Sd} (h : a σ S fun x S1 => b σ S1 fun y S2 => zipR (fun ds S3 => dLoop g tb { D with nx := r D } ds σ S3) S2 [x, y]) : dSeq (dFor (dZip (dCons a (dCons b dNil))) g tb) r D σ S := zip_lst_go h
theorem seq_lst {t : TAD} {g : TGD} {tb r : TSD} {D : EndsD} {σ : Si} {S : Sd} (h : t σ S fun ds S1 => ds.length ≤ 16777216 ∧ dLoop g tb { D with nx := r D } ds σ S1) : dSeq (dFor (dItr (dLst t)) g tb) r D σ S := for_lst_go h
theorem zipR_go {xs ys zs : List D} {R : List D → Sd → Prop} {S : Sd} (e : zipD xs ys = zs) (q : R zs S) : zipR R S [.lst xs, .lst ys] := by
  subst e; exact q
theorem pure_law_places_right : ∀ ds S Q Ed, sp_law_places_right ds S Q Ed → t_law_places_right Ed { nx := fun _ S' => Q .non S', rt := Q } (startD N_law_places_right ds) S := by
  rintro ds S Q Ed ⟨u, B, A, R, rfl, F, la, lr, h0, hp, hl, hU, hB, k⟩
  rw [st_law_places_right]
  unfold t_law_places_right
  have p0 := ne_len h0
  have len_go : ∀ (L : List Int) (S : Sd) (Q : DK), Q (.int L.length) S → rdLen [ringD L] S Q := fun L S Q h => by
    show Q (.int (L.map D.int).length) S
    rw [List.length_map]
    exact h
  refine seq_step fun r hr => ?_
  walk_at "dy"
  refine ⟨A, R, 260, rfl, h0, by omega, by omega, by decide, ?_⟩
  try walk_at "dy"
  subst hr
  refine seq_step fun r hr => ?_
  refine seq_lst ?_
  refine cons_go (c_go (cons_go (c_go ?_)))
  refine cons_go (cb_go (cons_go (op_go (var_go rfl (c_go (ixt_go (v := ringD A) rfl (nil_go (len_go _ _ _ ?_))))))))
  refine cons_go (call_go (cons_go (var_go rfl (cons_go (c_go (nil_go ?_))))))
  refine ⟨u, 80, B, rfl, hU, by omega, by decide, by decide, fun w1 S1 w1a w1b hU1 ho1 => ?_⟩
  refine cons_go (op_go (c_go (call_go (cons_go (var_go rfl (cons_go (c_go (nil_go ?_))))))))
  refine ⟨u, 50, _, rfl, hU1, by omega, by decide, by decide, fun w2 S2 w2a w2b hU2 ho2 => ?_⟩
  refine add_go ?_
  refine cons_go (call_go (cons_go (var_go rfl (cons_go (c_go (nil_go ?_))))))
  refine ⟨u, 1001, _, rfl, hU2, by omega, by decide, by decide, fun w3 S3 w3a w3b hU3 ho3 => ?_⟩
  refine nil_go ?_
  refine ⟨by show 6 ≤ 16777216; decide, ?_⟩
  have ho := (ho1.trans ho2).trans ho3
  have hn : ∀ y ∈ [D.int 0, .int 1, .int (A.length : Int), .int w1, .int (200 + w2), .int w3], ∃ n : Nat, y = .int (n : Int) ∧ n ≤ 1001 := fun y hy => by
    simp only [List.mem_cons, List.not_mem_nil, or_false] at hy
    rcases hy with rfl | rfl | rfl | rfl | rfl | rfl
    · exact ⟨0, rfl, by decide⟩
    · exact ⟨1, rfl, by decide⟩
    · exact ⟨A.length, rfl, by omega⟩
    · exact ⟨w1.toNat, by congr 1; omega, by omega⟩
    · exact ⟨(200 + w2).toNat, by congr 1; omega, by omega⟩
    · exact ⟨w3.toNat, by congr 1; omega, by omega⟩
  generalize [D.int 0, .int 1, .int (A.length : Int), .int w1, .int (200 + w2), .int w3] = ns at *
  refine loop_all (fun pre σ S' => ∃ a b c, σ = [some (.obj u), some (stD A R), some (.tup [ringD A, ringD R]), some (.lst ((rwL (rowF A R) 260).map D.int)), a, b, c, none, none, none, none, none] ∧ S' = S3) ⟨none, none, none, rfl, rfl⟩ ?_ ?_
  · rintro pre y rr σ S4 N e ⟨a, b, c, rfl, rfl⟩ kk
    obtain ⟨n, rfl, hn1⟩ := hn y (by rw [e]; simp)
    refine name_go ?_
    simp only [List.set_cons_zero, List.set_cons_succ]
    refine seq_step fun r2 hr2 => ?_
    unfold dMeth
    walk_at "dy"
    refine ⟨⟨_, _, rfl, by decide +kernel⟩, ?_⟩
    refine ⟨A, R, _, rfl, by omega, by omega, by omega, fun h => by omega, fun _ => ?_⟩
    rw [Int.toNat_natCast]
    subst hr2
    refine seq_step fun r2 hr2 => ?_
    walk_at "dy"
    refine len_go _ _ _ ?_
    rw [x_sub]
    try dsimp only
    refine len_go _ _ _ ?_
    rw [x_mod]
    refine ⟨by omega, ?_⟩
    have j0 : 0 ≤ ((n : Int) - (A.length : Int)).fmod (R.length : Int) := Int.fmod_nonneg_of_pos _ (by omega)
    have j1 : ((n : Int) - (A.length : Int)).fmod (R.length : Int) < R.length := Int.fmod_lt_of_pos _ (by omega)
    have jA : A.length ≤ n → ((n : Int) - (A.length : Int)).fmod (R.length : Int) = (((n - A.length) % R.length : Nat) : Int) := fun h => by
      rw [Int.fmod_eq_emod_of_nonneg _ (by omega), show (n : Int) - (A.length : Int) = ((n - A.length : Nat) : Int) by omega]
      rfl
    generalize ((n : Int) - (A.length : Int)).fmod (R.length : Int) = j at *
    obtain ⟨j, rfl⟩ := Int.eq_ofNat_of_zero_le j0
    try dsimp only
    show ixQ S4 _ (atI (R.map D.int) (j : Int))
    rw [at_ints (by omega)]
    show r2 _ _ S4
    have fin : ∀ w : Int, w = atSt A R n → dIfS
            (dOr (dNot (dTest (dCall sp_law_whole [] (wd Ed) (dCons (dVar 5) dNil))))
              (dOr (dTest (dOp rdNe (dVar 5) (dVar 6)))
                (dTest (dOp rdNe (dMethK "Stair" "at" sp_Stair_at 1 [0, 1] (wd Ed) (dVar 1) (dCons (dVar 4) dNil)) (dVar 5)))))
            (dRet (dC (.bl false))) dNext { nx := N, rt := Q, bk := r { nx := fun _ S' => Q .non S', rt := Q }, ct := N }
          [some (.obj u), some (stD A R), some (.tup [ringD A, ringD R]), some (.lst ((rwL (rowF A R) 260).map D.int)), some (.int (n : Int)), some (.int (atSt A R n)), some (.int w), none, none, none, none, none] S4 := fun w hw => by
      subst hw
      unfold dMethK
      walk_at "dy"
      refine ⟨_, rfl, rfl, ?_⟩
      rw [show isWh (D.int (atSt A R n)) = true from rfl]
      try dsimp only
      rw [if_neg (by decide)]
      try walk_at "dy"
      rw [if_neg (by decide)]
      refine ⟨⟨_, _, rfl, by decide +kernel⟩, ?_⟩
      refine ⟨A, R, _, rfl, by omega, by omega, by omega, fun h => by omega, fun _ => ?_⟩
      rw [Int.toNat_natCast]
      dsimp only
      rw [x_ne_ii]
      rw [show (!decide (atSt A R n = atSt A R n)) = false by simp]
      try dsimp only
      rw [if_neg (by decide)]
      exact kk _ _ ⟨_, _, _, rfl, rfl⟩
    subst hr2
    refine seq_step fun r2 hr2 => ?_
    walk_at "dy"
    refine len_go _ _ _ ?_
    rw [x_lt]
    by_cases c : n < A.length
    · rw [decide_eq_true (by omega)]
      try dsimp only
      rw [if_pos rfl]
      show ixQ S4 _ (atI (A.map D.int) (n : Int))
      rw [at_ints c]
      subst hr2
      exact fin _ (by unfold atSt; rw [if_pos c])
    · rw [decide_eq_false (by omega)]
      try dsimp only
      rw [if_neg (by decide)]
      subst hr2
      have ej := jA (by omega)
      exact fin _ (by unfold atSt; rw [if_neg c, show j = (n - A.length) % R.length by omega])
  · rintro σ S4 ⟨a, b, c, rfl, rfl⟩
    subst hr
    try dsimp only
    refine seq_step fun r hr => ?_
    walk_at "dy"
    refine ⟨u, 101, _, rfl, hU3, by omega, by decide, by decide, fun g S5 g0 g1 hU5 ho5 => ?_⟩
    try walk_at "dy"
    obtain ⟨g, rfl⟩ := Int.eq_ofNat_of_zero_le g0
    subst hr
    refine seq_step fun r hr => ?_
    unfold dMeth dMethK
    walk_at "dy"
    have bh : ∀ (m : Nat) (Q : DK) (E : XKD), m ≤ 1000 → Q (stF (fewest (A.drop m) (trn ((m - A.length) % R.length) R))) S5 → sp_Stair_behind [stD A R, .int (m : Int)] S5 Q E := fun m Q E hm q' => ⟨A, R, m, rfl, by omega, h0, by omega, hm, q'⟩
    refine ⟨⟨_, _, rfl, by decide +kernel⟩, bh g _ _ (by omega) ?_⟩
    refine ⟨⟨_, _, rfl, by decide +kernel⟩, bh g _ _ (by omega) ?_⟩
    refine ⟨⟨_, _, rfl, by decide +kernel⟩, bh 1 _ _ (by omega) ?_⟩
    refine ⟨⟨_, _, rfl, by decide +kernel⟩, bh 0 _ _ (by omega) ?_⟩
    try dsimp only
    have hbs : ∀ y ∈ zipD [stF (fewest (A.drop g) (trn ((g - A.length) % R.length) R)), stF (fewest (A.drop g) (trn ((g - A.length) % R.length) R)), stF (fewest (A.drop 1) (trn ((1 - A.length) % R.length) R)), stF (fewest (A.drop 0) (trn ((0 - A.length) % R.length) R))] [.int (g : Int), .int (g : Int), .int 1, .int 0], ∃ m : Nat, y = .tup [stF (fewest (A.drop m) (trn ((m - A.length) % R.length) R)), .int (m : Int)] ∧ m ≤ 100 := fun y hy => by
      rcases List.mem_cons.mp hy with rfl | hy
      · exact ⟨g, rfl, by omega⟩
      rcases List.mem_cons.mp hy with rfl | hy
      · exact ⟨g, rfl, by omega⟩
      rcases List.mem_cons.mp hy with rfl | hy
      · exact ⟨1, rfl, by omega⟩
      rcases List.mem_cons.mp hy with rfl | hy
      · exact ⟨0, rfl, by omega⟩
      exact nomatch hy
    generalize [stF (fewest (A.drop g) (trn ((g - A.length) % R.length) R)), stF (fewest (A.drop g) (trn ((g - A.length) % R.length) R)), stF (fewest (A.drop 1) (trn ((1 - A.length) % R.length) R)), stF (fewest (A.drop 0) (trn ((0 - A.length) % R.length) R))] = bs at *
    subst hr
    refine seq_step fun r hr => ?_
    refine seq_zip ?_
    refine var_go (d := .lst bs) rfl ?_
    refine lst_go (cons_go (var_go rfl (cons_go (var_go rfl (cons_go (c_go (cons_go (c_go (nil_go ?_)))))))))
    refine ⟨by show 4 ≤ 16777216; decide, ?_⟩
    dsimp only
    refine zipR_go rfl ?_
    generalize zipD bs [.int (g : Int), .int (g : Int), .int 1, .int 0] = zs at *
    refine loop_all (fun pre σ S' => ∃ a b c d e f, σ = [some (.obj u), some (stD A R), some (.tup [ringD A, ringD R]), some (.lst ((rwL (rowF A R) 260).map D.int)), a, b, c, some (.int (g : Int)), some (.lst bs), d, e, f] ∧ S' = S5) ⟨_, _, _, _, _, _, rfl, rfl⟩ ?_ ?_
    · rintro pre y rr σ S6 N e ⟨a, b, c, d1, d2, d3, rfl, rfl⟩ kk
      obtain ⟨m, rfl, hm⟩ := hbs y (by rw [e]; simp)
      obtain ⟨s, hs⟩ : ∃ s, s = stF (fewest (A.drop m) (trn ((m - A.length) % R.length) R)) := ⟨_, rfl⟩
      rw [← hs]
      walk_at "dy"
      refine len_go _ _ _ ?_
      rw [x_sub]
      try dsimp only
      refine len_go _ _ _ ?_
      rw [x_mod]
      refine ⟨by omega, ?_⟩
      have ej : ((m : Int) + 20 - (A.length : Int)).fmod (R.length : Int) = (((m + 20 - A.length) % R.length : Nat) : Int) := by
        rw [Int.fmod_eq_emod_of_nonneg _ (by omega), show (m : Int) + 20 - (A.length : Int) = ((m + 20 - A.length : Nat) : Int) by omega]
        rfl
      rw [ej]
      have w := few_window h0 la m
      have FI := few_FewI F h0 m ((m - A.length) % R.length)
      have ht : (m + 20 - A.length) % R.length ≤ R.length := Nat.le_of_lt (Nat.mod_lt _ p0)
      have e0 : (fewest (A.drop m) (trn ((m - A.length) % R.length) R)).2 ≠ [] := (few_few (A := A.drop m) (R := trn ((m - A.length) % R.length) R) (trn_ne h0)).r0
      generalize (m + 20 - A.length) % R.length = t at *
      generalize fewest (A.drop m) (trn ((m - A.length) % R.length) R) = fw at *
      obtain ⟨A', R'⟩ := fw
      subst hs
      dsimp only
      have slr : ∀ (lo hi : Option Int) (S : Sd) (Q : DK), Q (.tup (cutD (R.map D.int) lo hi)) S → rdSl (ringD R) lo hi S Q := fun _ _ _ _ h => h
      refine slr _ _ _ _ ?_
      refine slr _ _ _ _ ?_
      have l1 := cutD_len (xs := R.map D.int) (lo := some (t : Int)) (hi := none)
      have l2 := cutD_len (xs := R.map D.int) (lo := none) (hi := some (t : Int))
      rw [List.length_map] at l1 l2
      rw [x_add_tt]
      refine ⟨by omega, ?_⟩
      rw [trn_cut (by omega), cut_row (a := m) (k := 20) rfl (by omega) (by omega)]
      refine ⟨_, _, rfl, trn_ne h0, by rw [trn_len]; exact lr, by rw [rwL_len]; omega, ?_⟩
      rw [w]
      refine ⟨A', R', rfl, FI, e0, ?_⟩
      try dsimp only
      rw [if_neg (by decide)]
      exact kk _ _ ⟨_, _, _, _, _, _, rfl, rfl⟩
    · rintro σ S6 ⟨a, b, c, d1, d2, d3, rfl, rfl⟩
      subst hr
      try dsimp only
      walk_at "dy"
      exact k _ (hU5.mono (by omega)) (ho.trans ho5)

theorem len_law : ∀ ds S Q E, spLawD ds S Q E → ds.length = 1 := fun _ _ _ _ ⟨_, e, _⟩ => by rw [e]; rfl
theorem sm_row {L : List Int} (h : ∀ a ∈ L, a.natAbs + 1 ≤ 2 ^ 20) : sm 20 (ringD L) = true := smT.mpr fun d hd => by
  obtain ⟨a, ha, rfl⟩ := List.mem_map.mp hd
  have := h a ha
  exact sm_int.mpr (by omega)
theorem RowOk.ahead {A R : List Int} (h : RowOk A R) : aheadD (ringD A) = true := by
  match A, h with
  | [], _ => rfl
  | x :: xs, h =>
    have h9 := h.a9
    have hx := h9 x List.mem_cons_self
    have l := h.b.al
    rw [List.length_cons] at l
    show (decide (-999999 ≤ x ∧ x ≤ 999999) && (decide ((0 : Int) ≤ ((xs.map D.int).length : Int) ∧ ((xs.map D.int).length : Int) ≤ 19) && (xs.map D.int).all (winD 1 999999))) = true
    rw [decide_eq_true (by omega), decide_eq_true (by rw [List.length_map]; omega), Bool.true_and, Bool.true_and, List.all_eq_true]
    intro d hd
    obtain ⟨a, ha, rfl⟩ := List.mem_map.mp hd
    have h1 := h.tl a ha
    have h2 := h9 a (List.mem_cons_of_mem _ ha)
    exact decide_eq_true (by omega)
theorem made {A R : List Int} (hA : aheadD (ringD A) = true) (hs : sm 20 (ringD A) = true) (hs2 : sm 20 (ringD R) = true) (lA : A.length ≤ 20) (hR : RowI R) {E : XKD} {S : Sd} {a : Addr} {P : List Str → List D → Sd → Prop}
    (q : P ["held_ahead", "held_ring"] [ringD (fewest A R).1, ringD (fewest A R).2] (upS S a (.ins "Stair" ["held_ahead", "held_ring"] [ringD (fewest A R).1, ringD (fewest A R).2]))) :
    sp_Stair___init__ [.obj a, ringD A, ringD R] (upS S a (.ins "Stair" [] [])) (fun v S2 => v = .non ∧ ∃ ns ys, S2 a = some (.ins "Stair" ns ys) ∧ P ns ys S2) E := by
  have r1 := ring_is hR
  refine ⟨a, _, _, 20, rfl, hs, hs2, okD_eqOk (okD_ints A) (by decide), upS_same, fun h => ?_, fun _ => ⟨A, R, rfl, rfl, lA, hR, rfl, _, _, upS_same, ?_⟩⟩
  · rw [hA, r1] at h; cases h
  · rw [upS_upS]; exact q
def isRw (d : D) : Prop := ∃ A R : List Int, d = .tup [ringD A, ringD R] ∧ RowOk A R
def unI : D → Int
  | .int i => i
  | _ => 0
def unR : D → List Int
  | .tup ds => ds.map unI
  | _ => []
theorem un_ring (L : List Int) : unR (ringD L) = L := by
  show (L.map D.int).map unI = L
  rw [List.map_map]
  exact List.map_id L
/-- the stair of a row, and what is due of it -/
def stO : D → D
  | .tup [a, r] => stF (fewest (unR a) (unR r))
  | d => d
def wnO : D → D
  | .tup [a, r] => .tup [ringD (fewest (unR a) (unR r)).1, ringD (fewest (unR a) (unR r)).2]
  | d => d
theorem st_of (A R : List Int) : stO (.tup [ringD A, ringD R]) = stF (fewest A R) := by
  show stF (fewest (unR (ringD A)) (unR (ringD R))) = _
  rw [un_ring, un_ring]
theorem wn_of (A R : List Int) : wnO (.tup [ringD A, ringD R]) = .tup [ringD (fewest A R).1, ringD (fewest A R).2] := by
  show D.tup [ringD (fewest (unR (ringD A)) (unR (ringD R))).1, ringD (fewest (unR (ringD A)) (unR (ringD R))).2] = _
  rw [un_ring, un_ring]
/-- whether two rows have one stair -/
def smS : D → D → Bool
  | .tup [a, r], .tup [a2, r2] => decide ((fewest (unR a) (unR r)).1 = (fewest (unR a2) (unR r2)).1) && decide ((fewest (unR a) (unR r)).2 = (fewest (unR a2) (unR r2)).2)
  | _, _ => false
def eqSt : D → D → Bool
  | .inst _ _ [a, r], .inst _ _ [a2, r2] => decide (unR a = unR a2) && decide (unR r = unR r2)
  | _, _ => false
theorem sm_of (A R A2 R2 : List Int) : smS (.tup [ringD A, ringD R]) (.tup [ringD A2, ringD R2]) = (decide ((fewest A R).1 = (fewest A2 R2).1) && decide ((fewest A R).2 = (fewest A2 R2).2)) := by
  show (decide ((fewest (unR (ringD A)) (unR (ringD R))).1 = (fewest (unR (ringD A2)) (unR (ringD R2))).1) && decide ((fewest (unR (ringD A)) (unR (ringD R))).2 = (fewest (unR (ringD A2)) (unR (ringD R2))).2)) = _
  rw [un_ring, un_ring, un_ring, un_ring]
theorem eqS_sm {x y : D} (hx : isRw x) (hy : isRw y) : eqSt (stO x) (stO y) = smS x y := by
  obtain ⟨A, R, rfl, H⟩ := hx
  obtain ⟨A2, R2, rfl, H2⟩ := hy
  rw [st_of, st_of, sm_of]
  show (decide (unR (ringD (fewest A R).1) = unR (ringD (fewest A2 R2).1)) && decide (unR (ringD (fewest A R).2) = unR (ringD (fewest A2 R2).2))) = _
  rw [un_ring, un_ring, un_ring, un_ring]
theorem okw (A R : List Int) : eqOk (.tup [ringD A, ringD R]) = true := okD_eqOk (okD_tup (k := 1) fun d hd => by
  rcases List.mem_cons.mp hd with rfl | hd
  · exact okD_ints A
  · rw [List.mem_singleton.mp hd]
    exact okD_ints R) (by decide)
theorem deq_wn {x y : D} (hx : isRw x) (hy : isRw y) : deq (wnO x) (wnO y) = smS x y := by
  obtain ⟨A, R, rfl, H⟩ := hx
  obtain ⟨A2, R2, rfl, H2⟩ := hy
  rw [sm_of, wn_of, wn_of, ← deqL_ringE, ← deqL_ringE (ns := (fewest A R).2)]
  show (deqL _ _ && (deqL _ _ && true)) = _
  rw [Bool.and_true]
theorem eqW_go {x y : D} {S : Sd} {Q : DK} (hx : isRw x) (hy : isRw y) (q : Q (.bl (deq (wnO x) (wnO y))) S) : rdEq (wnO x) (wnO y) S Q := by
  obtain ⟨A, R, rfl, H⟩ := hx
  obtain ⟨A2, R2, rfl, H2⟩ := hy
  rw [wn_of, wn_of] at q ⊢
  exact ⟨⟨okw _ _, okw _ _⟩, q⟩
theorem eq_go {x y : D} {S : Sd} {Q : DK} (hx : isRw x) (hy : isRw y) (q : Q (.bl (smS x y)) S) : sp_Stair___eq__ [stO x, stO y] S Q fun _ _ => False := by
  obtain ⟨A, R, rfl, H⟩ := hx
  obtain ⟨A2, R2, rfl, H2⟩ := hy
  rw [sm_of] at q
  rw [st_of, st_of]
  exact ⟨_, _, _, rfl, .inr ⟨_, _, rfl, q⟩⟩
theorem sm_comm {x y : D} (hx : isRw x) (hy : isRw y) : smS x y = smS y x := by
  obtain ⟨A, R, rfl, H⟩ := hx
  obtain ⟨A2, R2, rfl, H2⟩ := hy
  rw [sm_of, sm_of, decide_eq_decide.mpr (show (fewest A R).1 = (fewest A2 R2).1 ↔ (fewest A2 R2).1 = (fewest A R).1 from eq_comm), decide_eq_decide.mpr (show (fewest A R).2 = (fewest A2 R2).2 ↔ (fewest A2 R2).2 = (fewest A R).2 from eq_comm)]
theorem sm_self {x y : D} (hx : isRw x) (hy : isRw y) (h : stO x = stO y) : smS x y = true := by
  rw [← eqS_sm hx hy, ← h]
  obtain ⟨A, R, rfl, H⟩ := hx
  rw [st_of]
  show (decide _ && decide _) = true
  simp
theorem flat_ring (L : List Int) : flatI (ringD L) = true := by
  show ((L.map D.int).all fun d => match d with | .int _ => true | _ => false) = true
  rw [List.all_map]
  exact List.all_eq_true.mpr fun x _ => rfl
theorem st_inst {x : D} (hx : isRw x) : ∃ ds, stO x = .inst "Stair" ["held_ahead", "held_ring"] ds ∧ ds.all flatI = true := by
  obtain ⟨A, R, rfl, H⟩ := hx
  rw [st_of]
  exact ⟨_, rfl, by simp [flat_ring]⟩
theorem in_two {x y z : D} {S : Sd} {Q : DK} (hx : isRw x) (hy : isRw y) (hz : isRw z) (q : Q (.bl (smS x y || smS x z)) S) : rdIn2I "Stair" sp_Stair___eq__ (stO x) (.lst [stO y, stO z]) S Q := by
  obtain ⟨dx, ex, fx⟩ := st_inst hx
  obtain ⟨dy, ey, fy⟩ := st_inst hy
  obtain ⟨dz, ez, fz⟩ := st_inst hz
  refine ⟨_, _, _, _, _, _, ex, by rw [ey, ez], fx, fy, fz, fun _ h => ?_, ?_⟩
  · rw [sm_self hx hy (by rw [ex, ey, h]), Bool.true_or] at q
    exact q
  · rw [← ex, ← ey]
    refine eq_go hy hx ⟨_, rfl, fun h => ?_, fun h => ⟨fun _ h2 => ?_, ?_⟩⟩
    · rw [sm_comm hx hy, h, Bool.true_or] at q
      exact q
    · rw [sm_self hx hz (by rw [ex, ez, h2]), Bool.or_true] at q
      exact q
    · rw [← ez]
      refine eq_go hz hx ⟨_, rfl, ?_⟩
      rw [sm_comm hx hy, h, Bool.false_or, sm_comm hx hz] at q
      exact q
theorem eqI_go {x y : D} {S : Sd} {Q : DK} (hx : isRw x) (hy : isRw y) (q : Q (.bl (smS x y)) S) : rdEqI "Stair" sp_Stair___eq__ (stO x) (stO y) S Q := by
  have h := eq_go hx hy q
  obtain ⟨dx, ex, fx⟩ := st_inst hx
  obtain ⟨dy, ey, fy⟩ := st_inst hy
  rw [ex, ey] at h ⊢
  exact ⟨rfl, .inr ⟨_, _, rfl⟩, h⟩
theorem neI_go {x y : D} {S : Sd} {Q : DK} (hx : isRw x) (hy : isRw y) (q : Q (.bl (!smS x y)) S) : rdNeI "Stair" sp_Stair___eq__ (stO x) (stO y) S Q := by
  have h := eq_go (S := S) (Q := fun v S' => ∃ r, v = .bl r ∧ Q (.bl (!r)) S') hx hy ⟨_, rfl, q⟩
  obtain ⟨dx, ex, fx⟩ := st_inst hx
  obtain ⟨dy, ey, fy⟩ := st_inst hy
  rw [ex, ey] at h ⊢
  exact ⟨rfl, .inr ⟨_, _, rfl⟩, h⟩
theorem three_no (a b c : Bool) : eqOk (.lst [.bl a, .bl b, .bl c]) = true ∧ deq (.lst [.bl !a, .bl !b, .bl !c]) (.lst [.bl a, .bl b, .bl c]) = false := by
  cases a <;> cases b <;> cases c <;> decide +kernel
theorem two_in (a b : Bool) {S : Sd} {Q : DK} (q : Q (.bl (a || b)) S) : rdInD false (.bl true) (.lst [.bl a, .bl b]) S Q := by
  cases a <;> cases b <;> exact ⟨⟨by decide +kernel, by decide +kernel, by decide +kernel, by decide +kernel⟩, q⟩
theorem thing_ok {y : D} (h : isThing y) : eqX "Stair" ["Ring", "Root"] y := by
  rcases h with h | h
  · exact .inl (.inl h)
  · exact .inr h
theorem par_go {i j : Nat} {x y : D} {σ : Si} {S : Sd} {K : Si → Sd → Prop} (h : K ((σ.set i (some x)).set j (some y)) S) : dGCons (dName i) (dGCons (dName j) dGNil) [x, y] σ S K := h
theorem set_go {i : Nat} {te : TED} {D : EndsD} {σ : Si} {S : Sd} (h : te σ S fun v S1 => D.nx (σ.set i (some v)) S1) : dSet i te D σ S := h
theorem zip_mem : ∀ {L : List D} {y : D}, y ∈ zipD (L.map stO) (L.map wnO) → ∃ d ∈ L, y = .tup [stO d, wnO d]
  | [], y, h => by cases h
  | d :: L, y, h => by
    rcases List.mem_cons.mp (show y ∈ D.tup [stO d, wnO d] :: zipD (L.map stO) (L.map wnO) from h) with rfl | h
    · exact ⟨d, .head _, rfl⟩
    · obtain ⟨e, he, hy⟩ := zip_mem h
      exact ⟨e, .tail _ he, hy⟩
theorem RowOk.fewI {A R : List Int} (H : RowOk A R) : FewI (fewest A R).1 (fewest A R).2 := by
  have e : (2 : Nat) ^ 30 = 1073741824 := by decide
  have la := H.b.al
  have lr := H.b.rl
  have F : FewI A R := ⟨fun x hx => by have := H.a9 x hx; omega, fun x hx => by have := H.b.r1 x hx; omega, by omega, by omega⟩
  exact few_FewI F H.b.r0 0 0
theorem pure_law : ∀ ds S Q Ed, spLawD ds S Q Ed → t_law Ed { nx := fun _ S' => Q .non S', rt := Q } (startD N_law ds) S := by
  rintro ds S Q Ed ⟨ns, rfl, hns, q⟩
  rw [st_law]
  unfold t_law
  refine seq_cut (fun σ S' => ∃ a b c d e f g h j k l m n o p, σ = [a, b, c, d, e, f, g, h, j, k, l, m, n, o, p, (none : Option D)] ∨ True) (fun N hN => ?hA) (fun σ S' h => ?hB)
  case hB =>
    walk_at "dy"
    exact q S'
  walk_at "dy"
  have hlen : (List.map D.int ns).length = ns.length := List.length_map _
  refine ⟨by rw [hlen]; constructor <;> (split <;> (try split) <;> omega), ?_⟩
  refine loop_rng (fun i σ S' => ∃ a b c d e f g h j k l m n o p, σ = [some (.lst (ns.map D.int)), a, b, c, d, e, f, g, h, j, k, l, m, n, o, p]) ⟨none, none, none, none, none, none, none, none, none, none, none, none, none, none, none, rfl⟩ ?_ (fun σ S' _ => hN σ S' ⟨none, none, none, none, none, none, none, none, none, none, none, none, none, none, none, .inr trivial⟩)
  rintro i σ S' N' hi ⟨a, b, c, d, e, f, g, h, j, k1, l1, m1, n1, o1, p1, rfl⟩ k
  have hl4 : (0 : Int) + i < 4 := by
    rw [hlen] at hi
    split at hi <;> (try split at hi) <;> omega
  refine seq_step fun r hr => ?_
  walk_at "dy"
  refine ⟨ns, _, rfl, by omega, by omega, fun u S1 hu0 hU1 ho1 => ?_⟩
  subst hr
  refine seq_step fun r hr => ?_
  walk_at "dy"
  refine ⟨u, _, rfl, hU1, by decide, fun A1 R1 S2 H1 hU2 ho2 => ?_⟩
  try walk_at "dy"
  subst hr
  refine seq_step fun r hr => ?_
  walk_at "dy"
  refine ⟨u, _, A1, R1, rfl, H1, hU2, by decide, fun A2 R2 S3 H2 hU3 ho3 => ?_⟩
  refine ⟨u, _, rfl, hU3, by decide, fun A3 R3 S4 H3 hU4 ho4 => ?_⟩
  try walk_at "dy"
  have r1 : isRw (.tup [ringD A1, ringD R1]) := ⟨_, _, rfl, H1⟩
  have r2 : isRw (.tup [ringD A2, ringD R2]) := ⟨_, _, rfl, H2⟩
  have r3 : isRw (.tup [ringD A3, ringD R3]) := ⟨_, _, rfl, H3⟩
  clear hU1 hU2 hU3 ho1 ho2 ho3 ho4 H1 H2 H3
  generalize D.tup [ringD A1, ringD R1] = x1 at *
  generalize D.tup [ringD A2, ringD R2] = x2 at *
  generalize D.tup [ringD A3, ringD R3] = x3 at *
  subst hr
  generalize hL : [x1, x2, x3] = L at *
  have hall : ∀ d ∈ L, isRw d := fun d hd => by
    rw [← hL] at hd
    simp only [List.mem_cons, List.not_mem_nil, or_false] at hd
    rcases hd with rfl | rfl | rfl <;> assumption
  have h3L : L.length = 3 := by rw [← hL]; rfl
  have lL : L.length ≤ 16777216 := by omega
  refine seq_step fun r hr => ?_
  refine set_go ?_
  refine comp_pureG stO L S4 (fun R hR => by first | exact hR | (walk_at "dy"; exact hR)) (fun x hx S' Q' q' => ?_) lL ?_
  · obtain ⟨A, R, rfl, H⟩ := hall x hx
    rw [st_of] at q'
    walk_at "dy"
    unfold dMake
    walk_at "dy"
    intro p hp
    refine made H.ahead (sm_row H.b.a2) (sm_ring H.b.rowI) H.b.al H.b.rowI ?_
    rw [del_upS hp]
    exact q'
  simp only [List.set_cons_zero, List.set_cons_succ]
  subst hr
  refine seq_step fun r hr => ?_
  refine set_go ?_
  refine comp_pureG wnO L S4 (fun R hR => by first | exact hR | (walk_at "dy"; exact hR)) (fun x hx S' Q' q' => ?_) lL ?_
  · obtain ⟨A, R, rfl, H⟩ := hall x hx
    rw [wn_of] at q'
    walk_at "dy"
    exact ⟨A, R, rfl, H.b.r0, H.b.rl, H.b.al, q'⟩
  simp only [List.set_cons_zero, List.set_cons_succ]
  subst hr
  walk_at "dy"
  refine ⟨by decide, ?_⟩
  have hz3 : (zipD (L.map stO) (L.map wnO)).length = 3 := by rw [← hL]; rfl
  refine loop_rng (fun i' σ S' => ∃ a b c d e, σ = [some (.lst (ns.map D.int)), some (.int (0 + i)), some (.obj u), some (ringD A1), some (ringD R1), some (.lst L), some (.lst (L.map stO)), some (.lst (L.map wnO)), a, b, c, d, e, n1, o1, p1] ∧ Urn S' u (1000 + 30 * i')) ⟨_, _, _, _, _, rfl, hU4.mono (by omega)⟩ ?_ ?_
  · rintro i' σ S11 N9 hi9 ⟨a, b, c, d, e, rfl, hU⟩ k9
    walk_at "dy"
    refine loop_all (fun pre σ S' => ∃ a b c d e, σ = [some (.lst (ns.map D.int)), some (.int (0 + i)), some (.obj u), some (ringD A1), some (ringD R1), some (.lst L), some (.lst (L.map stO)), some (.lst (L.map wnO)), a, b, c, d, e, n1, o1, p1] ∧ Urn S' u (1000 + 30 * i' + 10 * (pre.length : Int))) ⟨_, _, _, _, _, rfl, hU.mono (by simp)⟩ ?_ ?_
    · rintro pre y rr σ S12 N10 ex ⟨a, b, c, d, e, rfl, hU5⟩ k10
      have hpre : pre.length < 3 := by
        have := congrArg List.length ex
        rw [hz3, List.length_append, List.length_cons] at this
        omega
      obtain ⟨x, hx, rfl⟩ := zip_mem (show y ∈ zipD (L.map stO) (L.map wnO) by rw [ex]; simp)
      have rx := hall x hx
      refine ⟨rfl, par_go ?_⟩
      simp only [List.set_cons_zero, List.set_cons_succ]
      refine seq_step fun r hr => ?_
      walk_at "dy"
      obtain ⟨A, R, e0, H⟩ := id rx
      have est : stO x = stD (fewest A R).1 (fewest A R).2 := by rw [e0]; exact st_of A R
      have ewn : wnO x = .tup [ringD (fewest A R).1, ringD (fewest A R).2] := by rw [e0]; exact wn_of A R
      have FS := few_few (A := A) H.b.r0
      have FI := H.fewI
      obtain ⟨kk, hk⟩ := FS.at_
      have la : (fewest A R).1.length ≤ 20 := by rw [hk, List.length_take]; have := H.b.al; omega
      have lr : (fewest A R).2.length ≤ 40 := by have := FS.rl; have := H.b.rl; omega
      refine ⟨(fewest A R).1, (fewest A R).2, by rw [est, ewn], FI, FS.r0, ?_⟩
      dsimp only
      rw [if_neg (by decide)]
      refine ⟨u, _, (fewest A R).1, (fewest A R).2, by rw [est, ewn], FI, la, lr, FS.r0, FS.prm, FS.last, hU5, ?_, fun S13 hU6 ho6 => ?_⟩
      · clear k10 k9 k
        omega
      try dsimp only
      rw [if_neg (by decide)]
      clear ex
      have esm : (L.map stO).map (fun z => D.bl (eqSt (stO x) z)) = L.map fun y => D.bl (smS x y) := by
        rw [List.map_map]
        exact List.map_congr_left fun y hy => by show D.bl (eqSt (stO x) (stO y)) = _; rw [eqS_sm rx (hall y hy)]
      have esn : (L.map stO).map (fun z => D.bl (!eqSt (stO x) z)) = L.map fun y => D.bl (!smS x y) := by
        rw [List.map_map]
        exact List.map_congr_left fun y hy => by show D.bl (!eqSt (stO x) (stO y)) = _; rw [eqS_sm rx (hall y hy)]
      have n3 := three_no (smS x x1) (smS x x2) (smS x x3)
      subst hr
      refine seq_step fun r hr => ?_
      have esw : (L.map wnO).map (fun z => D.bl (deq (wnO x) z)) = L.map fun y => D.bl (smS x y) := by
        rw [List.map_map]
        exact List.map_congr_left fun y hy => by show D.bl (deq (wnO x) (wnO y)) = _; rw [deq_wn rx (hall y hy)]
      have lN : ∀ f : D → D, (L.map f).length ≤ 16777216 := fun f => by rw [List.length_map]; exact lL
      refine set_go ?_
      refine comp_pure (fun z => D.bl (deq (wnO x) z)) (L.map wnO) S13 (fun R hR => by first | exact hR | (walk_at "dy"; exact hR)) (fun z hz S' Q' q' => ?_) (lN _) ?_
      · obtain ⟨y, hy, rfl⟩ := List.mem_map.mp hz
        show rdEq (wnO x) (wnO y) S' Q'
        exact eqW_go rx (hall y hy) q'
      rw [esw]
      simp only [List.set_cons_zero, List.set_cons_succ]
      subst hr
      refine seq_step fun r hr => ?_
      walk_at "dy"
      refine comp_pure (fun z => D.bl (eqSt (stO x) z)) (L.map stO) S13 (fun R hR => hR) (fun z hz S' Q' q' => ?_) (lN _) ?_
      · obtain ⟨y, hy, rfl⟩ := List.mem_map.mp hz
        rw [eqS_sm rx (hall y hy)] at q'
        show rdEqI "Stair" sp_Stair___eq__ (stO x) (stO y) S' Q'
        exact eqI_go rx (hall y hy) q'
      rw [esm]
      refine x_ne_self ?_ ?_
      · rw [← hL]; exact n3.1
      dsimp only
      rw [if_neg (by decide)]
      refine comp_pure (fun z => D.bl (!eqSt (stO x) z)) (L.map stO) S13 (fun R hR => hR) (fun z hz S' Q' q' => ?_) (lN _) ?_
      · obtain ⟨y, hy, rfl⟩ := List.mem_map.mp hz
        rw [eqS_sm rx (hall y hy)] at q'
        show rdNeI "Stair" sp_Stair___eq__ (stO x) (stO y) S' Q'
        exact neI_go rx (hall y hy) q'
      rw [esn, ← hL]
      refine ⟨⟨?_, n3.1⟩, ?_⟩
      · exact (three_no (!smS x x1) (!smS x x2) (!smS x x3)).1
      rw [show deq (.lst ([x1, x2, x3].map fun y => D.bl (!smS x y))) (.lst ([x1, x2, x3].map fun y => D.bl (smS x y))) = false from n3.2]
      dsimp only
      rw [if_neg (by decide)]
      rw [ewn]
      subst hr
      refine seq_step fun r hr => ?_
      unfold dMake
      walk_at "dy"
      rw [est]
      refine ⟨rfl, _, _, rfl, FI, ⟨_, rfl, ?_⟩⟩
      try dsimp only
      intro p hp
      have RI2 : RowI (fewest A R).2 := ⟨fun z hz => H.b.r1 z (FS.rm z hz), by have := ne_len FS.r0; omega, lr⟩
      refine ⟨p, _, rfl, RI2, upS_same, ⟨rfl, _, _, upS_same, ?_⟩⟩
      rw [upS_upS, del_upS hp]
      intro p2 hp2
      refine rt_make (T := 1) (O := 0) (q := 2) (B := 1) (n := 150) ?_ (by decide) hp2 fun S14 e14 => ?_
      · exact ⟨by decide, by decide, by decide, by decide, by decide, two_no, by decide⟩
      rw [e14]
      rw [← est]
      generalize hT : [D.tup [ringD (fewest A R).1, ringD (fewest A R).2], ringD (fewest A R).2, _, D.non, _, _, D.int 1] = T
      have hTh : ∀ y ∈ T, isThing y := fun y hy => by
        rw [← hT] at hy
        simp only [List.mem_cons, List.not_mem_nil, or_false] at hy
        rcases hy with rfl | rfl | rfl | rfl | rfl | rfl | rfl
        all_goals first
          | exact .inl ⟨_, rfl⟩
          | exact .inr ⟨_, by simp, _, _, rfl⟩
      have lT : T.length ≤ 16777216 := by rw [← hT]; show 7 ≤ 16777216; decide
      have hl7 : T.length = 7 := by rw [← hT]; rfl
      clear hT
      subst hr
      walk_at "dy"
      refine comp_pure (fun _ => D.bl false) T S13 (fun R hR => hR) (fun y hy S' Q' q' => ?_) lT ?_
      · show rdEqX "Stair" ["Ring", "Root"] sp_Stair___eq__ (stO x) y S' Q'
        rw [est]
        exact ⟨rfl, thing_ok (hTh y hy), _, _, _, rfl, .inl ⟨hTh y hy, q'⟩⟩
      refine x_anyb (bs := T.map fun _ => false) (by rw [List.map_map]; rfl) ?_
      rw [show (T.map fun _ => false).any id = false by rw [List.any_map]; exact List.any_eq_false.mpr fun x _ => by simp]
      dsimp only
      rw [if_neg (by decide)]
      show rdIn2I "Stair" sp_Stair___eq__ (stO x) (.lst [stO x2, stO x3]) S13 _
      refine in_two rx r2 r3 ?_
      show rdInD false (.bl true) (.lst [.bl (smS x x2), .bl (smS x x3)]) S13 _
      refine two_in _ _ ?_
      try dsimp only
      rw [x_ne_bb, decide_eq_true rfl]
      try dsimp only
      rw [if_neg (by decide)]
      rw [hL]
      refine k10 _ _ ⟨_, _, _, _, _, rfl, hU6.mono ?_⟩
      rw [List.length_append, List.length_cons, List.length_nil]
      clear k10 k9 k
      omega
    · rintro σ S10 ⟨a, b, c, d, e, rfl, hU5⟩
      refine k9 _ _ ⟨_, _, _, _, _, rfl, hU5.mono ?_⟩
      rw [hz3]
      omega
  · rintro σ S9 ⟨a, b, c, d, e, rfl, _⟩
    exact k _ _ ⟨_, _, _, _, _, _, _, _, _, _, _, _, _, _, _, rfl⟩


/-! the text by places, derivations, printed by gen.py -/
def top (i : Nat) : Stmt := PySem.Challenge.pw_nearthrees_k06_stairs_by_the_fewest.main.body.getD i (.Pass ⟨0, 0, 0, 0⟩)
abbrev s_is_whole : Stmt := top 9
theorem sc_is_whole : FnScope N_is_whole ["thing"] (defScope s_is_whole) := ⟨rfl, rfl, rfl, by decide +kernel, rfl, by decide +kernel, by decide +kernel⟩
abbrev s_shared_by : Stmt := top 10
theorem sc_shared_by : FnScope N_shared_by ["one", "other"] (defScope s_shared_by) := ⟨rfl, rfl, rfl, by decide +kernel, rfl, by decide +kernel, by decide +kernel⟩
abbrev s_side_of : Stmt := top 12
theorem sc_side_of : FnScope N_side_of ["square"] (defScope s_side_of) := ⟨rfl, rfl, rfl, by decide +kernel, rfl, by decide +kernel, by decide +kernel⟩
abbrev s_is_square : Stmt := top 13
theorem sc_is_square : FnScope N_is_square ["number"] (defScope s_is_square) := ⟨rfl, rfl, rfl, by decide +kernel, rfl, by decide +kernel, by decide +kernel⟩
abbrev s_is_under_root : Stmt := top 17
theorem sc_is_under_root : FnScope N_is_under_root ["thing"] (defScope s_is_under_root) := ⟨rfl, rfl, rfl, by decide +kernel, rfl, by decide +kernel, by decide +kernel⟩
abbrev s_is_bottom : Stmt := top 18
theorem sc_is_bottom : FnScope N_is_bottom ["thing"] (defScope s_is_bottom) := ⟨rfl, rfl, rfl, by decide +kernel, rfl, by decide +kernel, by decide +kernel⟩
abbrev s_look_parts : Stmt := top 20
theorem sc_look_parts : FnScope N_look_parts ["parts"] (defScope s_look_parts) := ⟨rfl, rfl, rfl, by decide +kernel, rfl, by decide +kernel, by decide +kernel⟩
abbrev s_Root___init__ : Stmt := inClass (top 21) 0
theorem sc_Root___init__ : FnScope N_Root___init__ ["self", "top", "often", "square", "bottom"] (defScope s_Root___init__) := ⟨rfl, rfl, rfl, by decide +kernel, rfl, by decide +kernel, by decide +kernel⟩
abbrev s_is_within : Stmt := top 29
theorem sc_is_within : FnScope N_is_within ["thing", "least", "most"] (defScope s_is_within) := ⟨rfl, rfl, rfl, by decide +kernel, rfl, by decide +kernel, by decide +kernel⟩
abbrev s_is_row : Stmt := top 30
theorem sc_is_row : FnScope N_is_row ["thing", "least", "most"] (defScope s_is_row) := ⟨rfl, rfl, rfl, by decide +kernel, rfl, by decide +kernel, by decide +kernel⟩
abbrev s_is_number_ring : Stmt := top 31
theorem sc_is_number_ring : FnScope N_is_number_ring ["thing"] (defScope s_is_number_ring) := ⟨rfl, rfl, rfl, by decide +kernel, rfl, by decide +kernel, by decide +kernel⟩
abbrev s_is_ahead : Stmt := top 32
theorem sc_is_ahead : FnScope N_is_ahead ["thing"] (defScope s_is_ahead) := ⟨rfl, rfl, rfl, by decide +kernel, rfl, by decide +kernel, by decide +kernel⟩
abbrev s_shortest_part : Stmt := top 33
theorem sc_shortest_part : FnScope N_shortest_part ["parts"] (defScope s_shortest_part) := ⟨rfl, rfl, rfl, by decide +kernel, rfl, by decide +kernel, by decide +kernel⟩
abbrev s_Stair_keep_rows : Stmt := inClass (top 36) 1
theorem sc_Stair_keep_rows : FnScope N_Stair_keep_rows ["self", "ahead", "ring"] (defScope s_Stair_keep_rows) := ⟨rfl, rfl, rfl, by decide +kernel, rfl, by decide +kernel, by decide +kernel⟩
abbrev s_Stair___init__ : Stmt := inClass (top 36) 0
theorem sc_Stair___init__ : FnScope N_Stair___init__ ["self", "ahead", "ring"] (defScope s_Stair___init__) := ⟨rfl, rfl, rfl, by decide +kernel, rfl, by decide +kernel, by decide +kernel⟩
abbrev s_Stair_ahead : Stmt := inClass (top 36) 2
theorem sc_Stair_ahead : FnScope N_Stair_ahead ["self"] (defScope s_Stair_ahead) := ⟨rfl, rfl, rfl, by decide +kernel, rfl, by decide +kernel, by decide +kernel⟩
abbrev s_Stair_ring : Stmt := inClass (top 36) 3
theorem sc_Stair_ring : FnScope N_Stair_ring ["self"] (defScope s_Stair_ring) := ⟨rfl, rfl, rfl, by decide +kernel, rfl, by decide +kernel, by decide +kernel⟩
abbrev s_Stair___eq__ : Stmt := inClass (top 36) 4
theorem sc_Stair___eq__ : FnScope N_Stair___eq__ ["self", "other"] (defScope s_Stair___eq__) := ⟨rfl, rfl, rfl, by decide +kernel, rfl, by decide +kernel, by decide +kernel⟩
abbrev s_Stair___len__ : Stmt := inClass (top 36) 5
theorem sc_Stair___len__ : FnScope N_Stair___len__ ["self"] (defScope s_Stair___len__) := ⟨rfl, rfl, rfl, by decide +kernel, rfl, by decide +kernel, by decide +kernel⟩
abbrev s_Stair___str__ : Stmt := inClass (top 36) 6
theorem sc_Stair___str__ : FnScope N_Stair___str__ ["self"] (defScope s_Stair___str__) := ⟨rfl, rfl, rfl, by decide +kernel, rfl, by decide +kernel, by decide +kernel⟩
abbrev s_Stair___repr__ : Stmt := inClass (top 36) 7
theorem sc_Stair___repr__ : FnScope N_Stair___repr__ ["self"] (defScope s_Stair___repr__) := ⟨rfl, rfl, rfl, by decide +kernel, rfl, by decide +kernel, by decide +kernel⟩
abbrev s_Stair_at : Stmt := inClass (top 36) 8
theorem sc_Stair_at : FnScope N_Stair_at ["self", "place"] (defScope s_Stair_at) := ⟨rfl, rfl, rfl, by decide +kernel, rfl, by decide +kernel, by decide +kernel⟩
abbrev s_told_stair : Stmt := top 37
theorem sc_told_stair : FnScope N_told_stair ["ahead", "ring"] (defScope s_told_stair) := ⟨rfl, rfl, rfl, by decide +kernel, rfl, by decide +kernel, by decide +kernel⟩
abbrev s_Stair_behind : Stmt := inClass (top 36) 9
theorem sc_Stair_behind : FnScope N_Stair_behind ["self", "many"] (defScope s_Stair_behind) := ⟨rfl, rfl, rfl, by decide +kernel, rfl, by decide +kernel, by decide +kernel⟩
abbrev s_is_word : Stmt := top 41
theorem sc_is_word : FnScope N_is_word ["thing"] (defScope s_is_word) := ⟨rfl, rfl, rfl, by decide +kernel, rfl, by decide +kernel, by decide +kernel⟩
abbrev s_Ring___init__ : Stmt := inClass (top 42) 0
theorem sc_Ring___init__ : FnScope N_Ring___init__ ["self", "parts"] (defScope s_Ring___init__) := ⟨rfl, rfl, rfl, by decide +kernel, rfl, by decide +kernel, by decide +kernel⟩
abbrev s_law_urn : Stmt := top 44
theorem sc_law_urn : FnScope N_law_urn ["_law_script", "_law_at"] (defScope s_law_urn) := ⟨rfl, rfl, rfl, by decide +kernel, rfl, by decide +kernel, by decide +kernel⟩
abbrev s_law_draw : Stmt := top 45
theorem sc_law_draw : FnScope N_law_draw ["_law_urn_here", "_law_wide"] (defScope s_law_draw) := ⟨rfl, rfl, rfl, by decide +kernel, rfl, by decide +kernel, by decide +kernel⟩
abbrev s_law_whole : Stmt := top 46
theorem sc_law_whole : FnScope N_law_whole ["_law_thing"] (defScope s_law_whole) := ⟨rfl, rfl, rfl, by decide +kernel, rfl, by decide +kernel, by decide +kernel⟩
abbrev s_law_ring : Stmt := top 47
theorem sc_law_ring : FnScope N_law_ring ["_law_urn_here", "_law_most"] (defScope s_law_ring) := ⟨rfl, rfl, rfl, by decide +kernel, rfl, by decide +kernel, by decide +kernel⟩
abbrev s_law_ahead : Stmt := top 48
theorem sc_law_ahead : FnScope N_law_ahead ["_law_urn_here", "_law_ring_here"] (defScope s_law_ahead) := ⟨rfl, rfl, rfl, by decide +kernel, rfl, by decide +kernel, by decide +kernel⟩
abbrev s_law_drawn : Stmt := top 49
theorem sc_law_drawn : FnScope N_law_drawn ["_law_urn_here"] (defScope s_law_drawn) := ⟨rfl, rfl, rfl, by decide +kernel, rfl, by decide +kernel, by decide +kernel⟩
abbrev s_law_unrolled : Stmt := top 50
theorem sc_law_unrolled : FnScope N_law_unrolled ["_law_urn_here", "_law_ahead_here", "_law_ring_here"] (defScope s_law_unrolled) := ⟨rfl, rfl, rfl, by decide +kernel, rfl, by decide +kernel, by decide +kernel⟩
abbrev s_law_row : Stmt := top 51
theorem sc_law_row : FnScope N_law_row ["_law_ahead_here", "_law_ring_here", "_law_amount"] (defScope s_law_row) := ⟨rfl, rfl, rfl, by decide +kernel, rfl, by decide +kernel, by decide +kernel⟩
abbrev s_law_fewest : Stmt := top 52
theorem sc_law_fewest : FnScope N_law_fewest ["_law_ahead_here", "_law_ring_here"] (defScope s_law_fewest) := ⟨rfl, rfl, rfl, by decide +kernel, rfl, by decide +kernel, by decide +kernel⟩
abbrev s_law_shown_right : Stmt := top 53
theorem sc_law_shown_right : FnScope N_law_shown_right ["_law_stair", "_law_due"] (defScope s_law_shown_right) := ⟨rfl, rfl, rfl, by decide +kernel, rfl, by decide +kernel, by decide +kernel⟩
abbrev s_law_places_right : Stmt := top 54
theorem sc_law_places_right : FnScope N_law_places_right ["_law_urn_here", "_law_stair", "_law_due"] (defScope s_law_places_right) := ⟨rfl, rfl, rfl, by decide +kernel, rfl, by decide +kernel, by decide +kernel⟩
abbrev s_law : Stmt := top 55
theorem sc_law : FnScope N_law ["_law_script"] (defScope s_law) := ⟨rfl, rfl, rfl, by decide +kernel, rfl, by decide +kernel, by decide +kernel⟩
abbrev sI_NoNumber : Stmt := inClass (top 2) 0
theorem scI_NoNumber : FnScope ["self", "part"] ["self", "part"] (defScope sI_NoNumber) := ⟨rfl, rfl, rfl, by decide +kernel, rfl, by decide +kernel, by decide +kernel⟩
abbrev sI_NoPlace : Stmt := inClass (top 6) 0
theorem scI_NoPlace : FnScope ["self", "place", "many"] ["self", "place", "many"] (defScope sI_NoPlace) := ⟨rfl, rfl, rfl, by decide +kernel, rfl, by decide +kernel, by decide +kernel⟩
structure Txt (w : World) (K : PySem.W.Frag) (mg : Str → Option Value) (base : Heap) where
  C_Ring : Addr
  gc_Ring : mg "Ring" = some (.ref C_Ring)
  C_Root : Addr
  gc_Root : mg "Root" = some (.ref C_Root)
  C_Stair : Addr
  gc_Stair : mg "Stair" = some (.ref C_Stair)
  ne_Stair : neB K C_Stair = true
  is_Ring : IsF K C_Ring
  is_Root : IsF K C_Root
  is_Stair : IsF K C_Stair
  oc_Stair_Ring : othB K C_Stair C_Ring = true
  oc_Stair_Root : othB K C_Stair C_Root = true
  f_is_whole : Addr
  fd_is_whole : FuncData
  f_shared_by : Addr
  fd_shared_by : FuncData
  f_side_of : Addr
  fd_side_of : FuncData
  f_is_square : Addr
  fd_is_square : FuncData
  f_is_under_root : Addr
  fd_is_under_root : FuncData
  f_is_bottom : Addr
  fd_is_bottom : FuncData
  f_look_parts : Addr
  fd_look_parts : FuncData
  f_is_within : Addr
  fd_is_within : FuncData
  f_is_row : Addr
  fd_is_row : FuncData
  f_is_number_ring : Addr
  fd_is_number_ring : FuncData
  f_is_ahead : Addr
  fd_is_ahead : FuncData
  f_shortest_part : Addr
  fd_shortest_part : FuncData
  f_told_stair : Addr
  fd_told_stair : FuncData
  f_is_word : Addr
  fd_is_word : FuncData
  f_law_urn : Addr
  fd_law_urn : FuncData
  f_law_draw : Addr
  fd_law_draw : FuncData
  f_law_whole : Addr
  fd_law_whole : FuncData
  f_law_ring : Addr
  fd_law_ring : FuncData
  f_law_ahead : Addr
  fd_law_ahead : FuncData
  f_law_drawn : Addr
  fd_law_drawn : FuncData
  f_law_unrolled : Addr
  fd_law_unrolled : FuncData
  f_law_row : Addr
  fd_law_row : FuncData
  f_law_fewest : Addr
  fd_law_fewest : FuncData
  f_law_shown_right : Addr
  fd_law_shown_right : FuncData
  f_law_places_right : Addr
  fd_law_places_right : FuncData
  f_law : Addr
  fd_law : FuncData
  f_Root___init__ : Addr
  fd_Root___init__ : FuncData
  f_Stair_keep_rows : Addr
  fd_Stair_keep_rows : FuncData
  f_Stair___init__ : Addr
  fd_Stair___init__ : FuncData
  f_Stair_ahead : Addr
  fd_Stair_ahead : FuncData
  f_Stair_ring : Addr
  fd_Stair_ring : FuncData
  f_Stair___eq__ : Addr
  fd_Stair___eq__ : FuncData
  f_Stair___len__ : Addr
  fd_Stair___len__ : FuncData
  f_Stair___str__ : Addr
  fd_Stair___str__ : FuncData
  f_Stair___repr__ : Addr
  fd_Stair___repr__ : FuncData
  f_Stair_at : Addr
  fd_Stair_at : FuncData
  f_Stair_behind : Addr
  fd_Stair_behind : FuncData
  f_Ring___init__ : Addr
  fd_Ring___init__ : FuncData
  F_is_whole : Fun K "is_whole" "is_whole" s_is_whole f_is_whole fd_is_whole
  gn_is_whole : PySem.W.nsIn K mainGlobals "is_whole" = some (some (.ref f_is_whole))
  m_is_whole : mg "is_whole" = some (.ref f_is_whole)
  b_is_whole : Binds K fd_is_whole ["thing"] []
  F_shared_by : Fun K "shared_by" "shared_by" s_shared_by f_shared_by fd_shared_by
  m_shared_by : mg "shared_by" = some (.ref f_shared_by)
  b_shared_by : Binds K fd_shared_by ["one", "other"] []
  F_side_of : Fun K "side_of" "side_of" s_side_of f_side_of fd_side_of
  m_side_of : mg "side_of" = some (.ref f_side_of)
  b_side_of : Binds K fd_side_of ["square"] []
  F_is_square : Fun K "is_square" "is_square" s_is_square f_is_square fd_is_square
  m_is_square : mg "is_square" = some (.ref f_is_square)
  b_is_square : Binds K fd_is_square ["number"] []
  F_is_under_root : Fun K "is_under_root" "is_under_root" s_is_under_root f_is_under_root fd_is_under_root
  gn_is_under_root : PySem.W.nsIn K mainGlobals "is_under_root" = some (some (.ref f_is_under_root))
  m_is_under_root : mg "is_under_root" = some (.ref f_is_under_root)
  b_is_under_root : Binds K fd_is_under_root ["thing"] []
  F_is_bottom : Fun K "is_bottom" "is_bottom" s_is_bottom f_is_bottom fd_is_bottom
  gn_is_bottom : PySem.W.nsIn K mainGlobals "is_bottom" = some (some (.ref f_is_bottom))
  m_is_bottom : mg "is_bottom" = some (.ref f_is_bottom)
  b_is_bottom : Binds K fd_is_bottom ["thing"] []
  F_look_parts : Fun K "look_parts" "look_parts" s_look_parts f_look_parts fd_look_parts
  m_look_parts : mg "look_parts" = some (.ref f_look_parts)
  b_look_parts : Binds K fd_look_parts ["parts"] []
  F_is_within : Fun K "is_within" "is_within" s_is_within f_is_within fd_is_within
  m_is_within : mg "is_within" = some (.ref f_is_within)
  b_is_within : Binds K fd_is_within ["thing", "least", "most"] []
  F_is_row : Fun K "is_row" "is_row" s_is_row f_is_row fd_is_row
  m_is_row : mg "is_row" = some (.ref f_is_row)
  b_is_row : Binds K fd_is_row ["thing", "least", "most"] []
  F_is_number_ring : Fun K "is_number_ring" "is_number_ring" s_is_number_ring f_is_number_ring fd_is_number_ring
  m_is_number_ring : mg "is_number_ring" = some (.ref f_is_number_ring)
  b_is_number_ring : Binds K fd_is_number_ring ["thing"] []
  F_is_ahead : Fun K "is_ahead" "is_ahead" s_is_ahead f_is_ahead fd_is_ahead
  m_is_ahead : mg "is_ahead" = some (.ref f_is_ahead)
  b_is_ahead : Binds K fd_is_ahead ["thing"] []
  F_shortest_part : Fun K "shortest_part" "shortest_part" s_shortest_part f_shortest_part fd_shortest_part
  m_shortest_part : mg "shortest_part" = some (.ref f_shortest_part)
  b_shortest_part : Binds K fd_shortest_part ["parts"] []
  F_told_stair : Fun K "told_stair" "told_stair" s_told_stair f_told_stair fd_told_stair
  m_told_stair : mg "told_stair" = some (.ref f_told_stair)
  b_told_stair : Binds K fd_told_stair ["ahead", "ring"] []
  F_is_word : Fun K "is_word" "is_word" s_is_word f_is_word fd_is_word
  m_is_word : mg "is_word" = some (.ref f_is_word)
  b_is_word : Binds K fd_is_word ["thing"] []
  F_law_urn : Fun K "_law_urn" "_law_urn" s_law_urn f_law_urn fd_law_urn
  m_law_urn : mg "_law_urn" = some (.ref f_law_urn)
  b_law_urn : Binds K fd_law_urn ["_law_script", "_law_at"] []
  F_law_draw : Fun K "_law_draw" "_law_draw" s_law_draw f_law_draw fd_law_draw
  m_law_draw : mg "_law_draw" = some (.ref f_law_draw)
  b_law_draw : Binds K fd_law_draw ["_law_urn_here", "_law_wide"] []
  F_law_whole : Fun K "_law_whole" "_law_whole" s_law_whole f_law_whole fd_law_whole
  m_law_whole : mg "_law_whole" = some (.ref f_law_whole)
  b_law_whole : Binds K fd_law_whole ["_law_thing"] []
  F_law_ring : Fun K "_law_ring" "_law_ring" s_law_ring f_law_ring fd_law_ring
  m_law_ring : mg "_law_ring" = some (.ref f_law_ring)
  b_law_ring : Binds K fd_law_ring ["_law_urn_here", "_law_most"] []
  F_law_ahead : Fun K "_law_ahead" "_law_ahead" s_law_ahead f_law_ahead fd_law_ahead
  m_law_ahead : mg "_law_ahead" = some (.ref f_law_ahead)
  b_law_ahead : Binds K fd_law_ahead ["_law_urn_here", "_law_ring_here"] []
  F_law_drawn : Fun K "_law_drawn" "_law_drawn" s_law_drawn f_law_drawn fd_law_drawn
  m_law_drawn : mg "_law_drawn" = some (.ref f_law_drawn)
  b_law_drawn : Binds K fd_law_drawn ["_law_urn_here"] []
  F_law_unrolled : Fun K "_law_unrolled" "_law_unrolled" s_law_unrolled f_law_unrolled fd_law_unrolled
  m_law_unrolled : mg "_law_unrolled" = some (.ref f_law_unrolled)
  b_law_unrolled : Binds K fd_law_unrolled ["_law_urn_here", "_law_ahead_here", "_law_ring_here"] []
  F_law_row : Fun K "_law_row" "_law_row" s_law_row f_law_row fd_law_row
  m_law_row : mg "_law_row" = some (.ref f_law_row)
  b_law_row : Binds K fd_law_row ["_law_ahead_here", "_law_ring_here", "_law_amount"] []
  F_law_fewest : Fun K "_law_fewest" "_law_fewest" s_law_fewest f_law_fewest fd_law_fewest
  m_law_fewest : mg "_law_fewest" = some (.ref f_law_fewest)
  b_law_fewest : Binds K fd_law_fewest ["_law_ahead_here", "_law_ring_here"] []
  F_law_shown_right : Fun K "_law_shown_right" "_law_shown_right" s_law_shown_right f_law_shown_right fd_law_shown_right
  m_law_shown_right : mg "_law_shown_right" = some (.ref f_law_shown_right)
  b_law_shown_right : Binds K fd_law_shown_right ["_law_stair", "_law_due"] []
  F_law_places_right : Fun K "_law_places_right" "_law_places_right" s_law_places_right f_law_places_right fd_law_places_right
  m_law_places_right : mg "_law_places_right" = some (.ref f_law_places_right)
  b_law_places_right : Binds K fd_law_places_right ["_law_urn_here", "_law_stair", "_law_due"] []
  F_law : Fun K "law" "law" s_law f_law fd_law
  m_law : mg "law" = some (.ref f_law)
  b_law : Binds K fd_law ["_law_script"] []
  T_Root___init__ : Addr
  its_Root___init__ : Array Value
  F_Root___init__ : Hx.FunV K "__init__" "Root.__init__" s_Root___init__ f_Root___init__ fd_Root___init__ T_Root___init__ its_Root___init__
  u3_Root___init__ : List Value
  b3_Root___init__ : Binds K fd_Root___init__ ["self", "top", "often", "square", "bottom"] u3_Root___init__
  v3_Root___init__ : Vals [.int 0, .int 2, .int 1] u3_Root___init__
  cl_Root : ClF K "Root" C_Root f_Root___init__
  na_Root : noAttrB K C_Root ["held"] = true
  b_Root___init__ : Binds K fd_Root___init__ ["self", "top", "often", "square", "bottom"] []
  F_Stair_keep_rows : Fun K "keep_rows" "Stair.keep_rows" s_Stair_keep_rows f_Stair_keep_rows fd_Stair_keep_rows
  M_Stair_keep_rows : Meth K C_Stair "keep_rows" f_Stair_keep_rows
  b_Stair_keep_rows : Binds K fd_Stair_keep_rows ["self", "ahead", "ring"] []
  F_Stair___init__ : Fun K "__init__" "Stair.__init__" s_Stair___init__ f_Stair___init__ fd_Stair___init__
  cl_Stair : ClF K "Stair" C_Stair f_Stair___init__
  na_Stair : noAttrB K C_Stair ["held_ahead", "held_ring", "__bool__"] = true
  b_Stair___init__ : Binds K fd_Stair___init__ ["self", "ahead", "ring"] []
  F_Stair_ahead : Fun K "ahead" "Stair.ahead" s_Stair_ahead f_Stair_ahead fd_Stair_ahead
  M_Stair_ahead : Meth K C_Stair "ahead" f_Stair_ahead
  b_Stair_ahead : Binds K fd_Stair_ahead ["self"] []
  F_Stair_ring : Fun K "ring" "Stair.ring" s_Stair_ring f_Stair_ring fd_Stair_ring
  M_Stair_ring : Meth K C_Stair "ring" f_Stair_ring
  b_Stair_ring : Binds K fd_Stair_ring ["self"] []
  F_Stair___eq__ : Fun K "__eq__" "Stair.__eq__" s_Stair___eq__ f_Stair___eq__ fd_Stair___eq__
  M_Stair___eq__ : Meth K C_Stair "__eq__" f_Stair___eq__
  b_Stair___eq__ : Binds K fd_Stair___eq__ ["self", "other"] []
  F_Stair___len__ : Fun K "__len__" "Stair.__len__" s_Stair___len__ f_Stair___len__ fd_Stair___len__
  M_Stair___len__ : Meth K C_Stair "__len__" f_Stair___len__
  b_Stair___len__ : Binds K fd_Stair___len__ ["self"] []
  F_Stair___str__ : Fun K "__str__" "Stair.__str__" s_Stair___str__ f_Stair___str__ fd_Stair___str__
  M_Stair___str__ : Meth K C_Stair "__str__" f_Stair___str__
  b_Stair___str__ : Binds K fd_Stair___str__ ["self"] []
  F_Stair___repr__ : Fun K "__repr__" "Stair.__repr__" s_Stair___repr__ f_Stair___repr__ fd_Stair___repr__
  M_Stair___repr__ : Meth K C_Stair "__repr__" f_Stair___repr__
  b_Stair___repr__ : Binds K fd_Stair___repr__ ["self"] []
  F_Stair_at : Fun K "at" "Stair.at" s_Stair_at f_Stair_at fd_Stair_at
  M_Stair_at : Meth K C_Stair "at" f_Stair_at
  b_Stair_at : Binds K fd_Stair_at ["self", "place"] []
  T_Stair_behind : Addr
  its_Stair_behind : Array Value
  F_Stair_behind : Hx.FunV K "behind" "Stair.behind" s_Stair_behind f_Stair_behind fd_Stair_behind T_Stair_behind its_Stair_behind
  u1_Stair_behind : List Value
  b1_Stair_behind : Binds K fd_Stair_behind ["self", "many"] u1_Stair_behind
  v1_Stair_behind : Vals [.int 1] u1_Stair_behind
  M_Stair_behind : Meth K C_Stair "behind" f_Stair_behind
  b_Stair_behind : Binds K fd_Stair_behind ["self", "many"] []
  F_Ring___init__ : Fun K "__init__" "Ring.__init__" s_Ring___init__ f_Ring___init__ fd_Ring___init__
  cl_Ring : ClF K "Ring" C_Ring f_Ring___init__
  na_Ring : noAttrB K C_Ring ["held"] = true
  b_Ring___init__ : Binds K fd_Ring___init__ ["self", "parts"] []
  ks_Stair_at_1_place : Hx.KSel K fd_Stair_at ["self", "place"] 1 ["place"] [0, 1] []
  ks_Stair_behind_1_many : Hx.KSel K fd_Stair_behind ["self", "many"] 1 ["many"] [0, 1] []
  C_NoNumber : Addr
  fI_NoNumber : Addr
  fdI_NoNumber : FuncData
  FI_NoNumber : Fun K "__init__" "NoNumber.__init__" sI_NoNumber fI_NoNumber fdI_NoNumber
  bI_NoNumber : Binds K fdI_NoNumber ["self", "part"] []
  X_NoNumber : FxF K "NoNumber" [.type "ArithmeticError", .type "Exception", .type "BaseException", .type "object"] "ArithmeticError.__new__" C_NoNumber fI_NoNumber ["part"]
  gc_NoNumber : mg "NoNumber" = some (.ref C_NoNumber)
  C_NoPlace : Addr
  fI_NoPlace : Addr
  fdI_NoPlace : FuncData
  FI_NoPlace : Fun K "__init__" "NoPlace.__init__" sI_NoPlace fI_NoPlace fdI_NoPlace
  bI_NoPlace : Binds K fdI_NoPlace ["self", "place", "many"] []
  X_NoPlace : FxF K "NoPlace" [.type "IndexError", .type "LookupError", .type "Exception", .type "BaseException", .type "object"] "IndexError.__new__" C_NoPlace fI_NoPlace ["place", "many"]
  gc_NoPlace : mg "NoPlace" = some (.ref C_NoPlace)
  C_NoRing : Addr
  R_NoRing : RsF K "NoRing" [.type "ValueError", .type "Exception", .type "BaseException", .type "object"] "ValueError.__new__" C_NoRing
  gc_NoRing : mg "NoRing" = some (.ref C_NoRing)
  C_NoStair : Addr
  R_NoStair : RsF K "NoStair" [.type "ValueError", .type "Exception", .type "BaseException", .type "object"] "ValueError.__new__" C_NoStair
  gc_NoStair : mg "NoStair" = some (.ref C_NoStair)
  v_LEAST_SQUARE : V
  u_LEAST_SQUARE : Value
  m_LEAST_SQUARE : mg "LEAST_SQUARE" = some u_LEAST_SQUARE
  r_LEAST_SQUARE : RelV v_LEAST_SQUARE u_LEAST_SQUARE
  k_LEAST_SQUARE : ∀ H S, Rp K H S (k_LEAST_SQUARE) v_LEAST_SQUARE
  v_LETTERS : V
  u_LETTERS : Value
  m_LETTERS : mg "LETTERS" = some u_LETTERS
  r_LETTERS : RelV v_LETTERS u_LETTERS
  k_LETTERS : ∀ H S, Rp K H S (k_LETTERS) v_LETTERS
  a_LOOKS : Addr
  m_LOOKS : mg "LOOKS" = some (.ref a_LOOKS)
  k_LOOKS : ∀ z d, k_LOOKS z = some d → ∃ v, KDct K w a_LOOKS z v ∧ ∀ H S, Rp K H S d v
  v_MOST_AHEAD : V
  u_MOST_AHEAD : Value
  m_MOST_AHEAD : mg "MOST_AHEAD" = some u_MOST_AHEAD
  r_MOST_AHEAD : RelV v_MOST_AHEAD u_MOST_AHEAD
  k_MOST_AHEAD : ∀ H S, Rp K H S (k_MOST_AHEAD) v_MOST_AHEAD
  v_MOST_LETTERS : V
  u_MOST_LETTERS : Value
  m_MOST_LETTERS : mg "MOST_LETTERS" = some u_MOST_LETTERS
  r_MOST_LETTERS : RelV v_MOST_LETTERS u_MOST_LETTERS
  k_MOST_LETTERS : ∀ H S, Rp K H S (k_MOST_LETTERS) v_MOST_LETTERS
  v_MOST_NUMBER : V
  u_MOST_NUMBER : Value
  m_MOST_NUMBER : mg "MOST_NUMBER" = some u_MOST_NUMBER
  r_MOST_NUMBER : RelV v_MOST_NUMBER u_MOST_NUMBER
  k_MOST_NUMBER : ∀ H S, Rp K H S (k_MOST_NUMBER) v_MOST_NUMBER
  v_MOST_RING : V
  u_MOST_RING : Value
  m_MOST_RING : mg "MOST_RING" = some u_MOST_RING
  r_MOST_RING : RelV v_MOST_RING u_MOST_RING
  k_MOST_RING : ∀ H S, Rp K H S (k_MOST_RING) v_MOST_RING
  v_PARTS : V
  u_PARTS : Value
  m_PARTS : mg "PARTS" = some u_PARTS
  r_PARTS : RelV v_PARTS u_PARTS
  k_PARTS : ∀ H S, Rp K H S (k_PARTS) v_PARTS
  n_abs : mg "abs" = none
  n_all : mg "all" = none
  n_any : mg "any" = none
  n_bool : mg "bool" = none
  n_int : mg "int" = none
  n_isinstance : mg "isinstance" = none
  n_len : mg "len" = none
  n_list : mg "list" = none
  n_max : mg "max" = none
  n_min : mg "min" = none
  n_range : mg "range" = none
  n_repr : mg "repr" = none
  n_str : mg "str" = none
  n_tuple : mg "tuple" = none
  n_zip : mg "zip" = none
section
variable {P : Program} {w : World} {K : PySem.W.Frag} {mg : Str → Option Value} {base : Heap}
theorem in_NoNumber (T : Txt w K mg base) : FnG P w K mg base (L2N.CX P w) 1 T.fI_NoNumber T.fdI_NoNumber ["self", "part"] (spI1 T.C_NoNumber "part") := init1_ok T.FI_NoNumber scI_NoNumber T.X_NoNumber.ox (T.X_NoNumber.free _ (by decide +kernel)) rfl
theorem in_NoPlace (T : Txt w K mg base) : FnG P w K mg base (L2N.CX P w) 1 T.fI_NoPlace T.fdI_NoPlace ["self", "place", "many"] (spI2 T.C_NoPlace "place" "many") := init2_ok T.FI_NoPlace scI_NoPlace T.X_NoPlace.ox (T.X_NoPlace.free _ (by decide +kernel)) (T.X_NoPlace.free _ (by decide +kernel)) rfl
theorem ok_is_whole (T : Txt w K mg base) : FnG P w K mg base (L2N.CX P w) 1 T.f_is_whole T.fd_is_whole ["thing"] (upF K (sp_is_whole)) := by
  refine okD (k := 0) (t := fun Ed => t_is_whole Ed) T.F_is_whole sc_is_whole (len_is_whole) (fun cdv A outer s H E Ed hr => ?_) (pure_is_whole)
  exact (db_one (ds_ret (de_and (de_callB cd_isi (by rfl) T.n_isinstance (by decide +kernel) (da_cons (dv 0) (da_cons (de_ty (by rfl) T.n_int (by decide +kernel)) da_nil))) (de_one (de_not (de_callB cd_isi (by rfl) T.n_isinstance (by decide +kernel) (da_cons (dv 0) (da_cons (de_ty (by rfl) T.n_bool (by decide +kernel)) da_nil))))))))
theorem ok_shared_by (T : Txt w K mg base) : FnG P w K mg base (L2N.CX P w) 1 T.f_shared_by T.fd_shared_by ["one", "other"] (upF K (sp_shared_by)) := by
  refine okD (k := 0) (t := fun Ed => t_shared_by Ed) T.F_shared_by sc_shared_by (len_shared_by) (fun cdv A outer s H E Ed hr => ?_) (pure_shared_by)
  exact (db_cons (ds_par 0 1 rfl sc_shared_by.nd rfl rfl (by decide) rfl rfl (da_cons (de_callB cd_abs (by rfl) T.n_abs (by decide +kernel) (da_cons (dv 0) da_nil)) (da_cons (de_callB cd_abs (by rfl) T.n_abs (by decide +kernel) (da_cons (dv 1) da_nil)) da_nil)) (by rfl))
  (db_cons (ds_while passB (dt_cmp od_gt (dv 1) de_int (nomark _))
  (db_one (ds_par 0 1 rfl sc_shared_by.nd rfl rfl (by decide) rfl rfl (da_cons (dv 1) (da_cons (de_op od_mod (dv 0) (dv 1)) da_nil)) (by rfl))))
  (db_one (ds_ret (dv 0)))))
theorem ok_side_of (T : Txt w K mg base) : FnG P w K mg base (L2N.CX P w) 1 T.f_side_of T.fd_side_of ["square"] (upF K (sp_side_of)) := by
  refine okD (k := 0) (t := fun Ed => t_side_of Ed) T.F_side_of sc_side_of (len_side_of) (fun cdv A outer s H E Ed hr => ?_) (pure_side_of)
  exact (db_cons (ds_if (dt_cmp od_lt (dv 0) de_int (nomark _)) (db_one (ds_ret (dv 0))) db_nil)
  (db_cons (ds_set 1 sc_side_of.nd rfl (by first | exact .inl rfl | exact .inr rfl) (de_op od_shl de_int (de_op od_fdiv (de_op od_add (de_bits (dv 0)) de_int) de_int)))
  (db_cons (ds_set 2 sc_side_of.nd rfl (by first | exact .inl rfl | exact .inr rfl) (de_op od_fdiv (de_op od_add (dv 1) (de_op od_fdiv (dv 0) (dv 1))) de_int))
  (db_cons (ds_while passB (dt_cmp od_lt (dv 2) (dv 1) (nomark _))
  (db_cons (ds_set 1 sc_side_of.nd rfl (by first | exact .inl rfl | exact .inr rfl) (dv 2))
  (db_one (ds_set 2 sc_side_of.nd rfl (by first | exact .inl rfl | exact .inr rfl) (de_op od_fdiv (de_op od_add (dv 1) (de_op od_fdiv (dv 0) (dv 1))) de_int)))))
  (db_one (ds_ret (dv 1)))))))
theorem ok_is_square (T : Txt w K mg base) : FnG P w K mg base (L2N.CX P w) 2 T.f_is_square T.fd_is_square ["number"] (upF K (sp_is_square)) := by
  refine okD (k := 1) (t := fun Ed => t_is_square Ed) T.F_is_square sc_is_square (len_is_square) (fun cdv A outer s H E Ed hr => ?_) (pure_is_square)
  exact (db_one (ds_ret (de_and (de_cmp od_ge (dv 0) de_int (nomark _)) (de_one (de_cmp (od_eq hr.units) (de_op od_pow (de_call (ok_side_of T) (hr.mono (by decide)) (by rfl) T.m_side_of T.F_side_of.kp T.b_side_of .nil (fun _ _ => rpL_nil) takesB (da_cons (dv 0) da_nil)) de_int) (dv 0) (nomark _))))))
theorem ok_is_under_root (T : Txt w K mg base) : FnG P w K mg base (L2N.CX P w) 3 T.f_is_under_root T.fd_is_under_root ["thing"] (upF K (sp_is_under_root)) := by
  refine okD (k := 2) (t := fun Ed => t_is_under_root Ed) T.F_is_under_root sc_is_under_root (len_is_under_root) (fun cdv A outer s H E Ed hr => ?_) (pure_is_under_root)
  exact (db_one (ds_ret (de_and (de_call (ok_is_whole T) (hr.mono (by decide)) (by rfl) T.m_is_whole T.F_is_whole.kp T.b_is_whole .nil (fun _ _ => rpL_nil) takesB (da_cons (dv 0) da_nil)) (de_and (de_cmp od_ge (dv 0) (de_k (by rfl) T.m_LEAST_SQUARE T.r_LEAST_SQUARE T.k_LEAST_SQUARE) (nomark _)) (de_one (de_not (de_call (ok_is_square T) (hr.mono (by decide)) (by rfl) T.m_is_square T.F_is_square.kp T.b_is_square .nil (fun _ _ => rpL_nil) takesB (da_cons (dv 0) da_nil))))))))
theorem ok_is_bottom (T : Txt w K mg base) : FnG P w K mg base (L2N.CX P w) 2 T.f_is_bottom T.fd_is_bottom ["thing"] (upF K (sp_is_bottom)) := by
  refine okD (k := 1) (t := fun Ed => t_is_bottom Ed) T.F_is_bottom sc_is_bottom (len_is_bottom) (fun cdv A outer s H E Ed hr => ?_) (pure_is_bottom)
  exact (db_one (ds_ret (de_and (de_call (ok_is_whole T) (hr.mono (by decide)) (by rfl) T.m_is_whole T.F_is_whole.kp T.b_is_whole .nil (fun _ _ => rpL_nil) takesB (da_cons (dv 0) da_nil)) (de_one (de_cmp od_ge (dv 0) de_int (nomark _))))))
theorem ok_look_parts (T : Txt w K mg base) : FnG P w K mg base (L2N.CX P w) 4 T.f_look_parts T.fd_look_parts ["parts"] (upF K (sp_look_parts)) := by
  refine okD (k := 3) (t := fun Ed => t_look_parts Ed) T.F_look_parts sc_look_parts (len_look_parts) (fun cdv A outer s H E Ed hr => ?_) (pure_look_parts)
  exact (db_one (ds_for (vs := [1, 2]) passB rfl (di_zipS (by rfl) T.n_zip (da_cons (de_k (by rfl) T.m_PARTS T.r_PARTS T.k_PARTS) (da_cons (dv 0) da_nil))) (dg_tup rfl (dgs_cons (dg_name (i := 1) sc_look_parts.nd rfl (by first | exact Or.inl rfl | exact Or.inr rfl) (by decide)) (dgs_cons (dg_name (i := 2) sc_look_parts.nd rfl (by first | exact Or.inl rfl | exact Or.inr rfl) (by decide)) dgs_nil)))
  (db_cons (ds_set 3 sc_look_parts.nd rfl (by first | exact .inl rfl | exact .inr rfl) (de_kix (by rfl) T.m_LOOKS T.k_LOOKS (dv 1) (fun _ _ => rfl)))
  (db_one (ds_if (dt_not (dt_val (de_callV (k := 3) (i := 3) (cs := [("is_whole", sp_is_whole), ("is_under_root", sp_is_under_root), ("is_bottom", sp_is_bottom)]) (fnW_cons (fnW_mk (ok_is_whole T) T.gn_is_whole T.F_is_whole.kp T.b_is_whole) (fnW_cons (fnW_mk (ok_is_under_root T) T.gn_is_under_root T.F_is_under_root.kp T.b_is_under_root) (fnW_cons (fnW_mk (ok_is_bottom T) T.gn_is_bottom T.F_is_bottom.kp T.b_is_bottom) fnW_nil))) (hr.mono (by decide)) rfl (by first | exact Or.inl rfl | exact Or.inr (Or.inl rfl) | exact Or.inr (Or.inr rfl)) takesB (da_cons (dv 2) da_nil)))) (db_one (ds_raiseF1 rfl takesB PySem.F.excBase_ArithmeticError T.X_NoNumber (in_NoNumber T) (hr.mono (by decide)) T.bI_NoNumber T.gc_NoNumber (by rfl) (da_cons (dv 1) da_nil))) db_nil)))))
theorem ok_Root___init__ (T : Txt w K mg base) : FnG P w K mg base (L2N.CX P w) 5 T.f_Root___init__ T.fd_Root___init__ ["self", "top", "often", "square", "bottom"] (upF K (sp_Root___init__)) := by
  refine okDv (k := 4) (t := fun Ed => t_Root___init__ Ed) T.F_Root___init__ sc_Root___init__ (len_Root___init__) (fun cdv A outer s H E Ed hr => ?_) (pure_Root___init__)
  exact (db_cons (ds_expr (de_call (ok_look_parts T) (hr.mono (by decide)) (by rfl) T.m_look_parts T.F_look_parts.kp T.b_look_parts .nil (fun _ _ => rpL_nil) takesB (da_cons (de_tup (da_cons (dv 1) (da_cons (dv 2) (da_cons (dv 3) (da_cons (dv 4) da_nil))))) da_nil)))
  (db_cons (ds_set 5 sc_Root___init__.nd rfl (by first | exact .inl rfl | exact .inr rfl) (de_call (ok_shared_by T) (hr.mono (by decide)) (by rfl) T.m_shared_by T.F_shared_by.kp T.b_shared_by .nil (fun _ _ => rpL_nil) takesB (da_cons (de_call (ok_shared_by T) (hr.mono (by decide)) (by rfl) T.m_shared_by T.F_shared_by.kp T.b_shared_by .nil (fun _ _ => rpL_nil) takesB (da_cons (dv 1) (da_cons (dv 2) da_nil))) (da_cons (dv 4) da_nil))))
  (db_one (ds_put T.cl_Root (noAttrB_ok T.na_Root (by decide +kernel)) (dv 0) (de_tup (da_cons (de_op od_fdiv (dv 1) (dv 5)) (da_cons (de_op od_fdiv (dv 2) (dv 5)) (da_cons (dv 3) (da_cons (de_op od_fdiv (dv 4) (dv 5)) da_nil))))) (by rfl)))))
theorem ok_is_within (T : Txt w K mg base) : FnG P w K mg base (L2N.CX P w) 2 T.f_is_within T.fd_is_within ["thing", "least", "most"] (upF K (sp_is_within)) := by
  refine okD (k := 1) (t := fun Ed => t_is_within Ed) T.F_is_within sc_is_within (len_is_within) (fun cdv A outer s H E Ed hr => ?_) (pure_is_within)
  exact (db_one (ds_ret (de_and (de_call (ok_is_whole T) (hr.mono (by decide)) (by rfl) T.m_is_whole T.F_is_whole.kp T.b_is_whole .nil (fun _ _ => rpL_nil) takesB (da_cons (dv 0) da_nil)) (de_one (de_chain od_le od_le (dv 1) (dv 0) (dv 2))))))
theorem ok_is_row (T : Txt w K mg base) : FnG P w K mg base (L2N.CX P w) 3 T.f_is_row T.fd_is_row ["thing", "least", "most"] (upF K (sp_is_row)) := by
  refine okD (k := 2) (t := fun Ed => t_is_row Ed) T.F_is_row sc_is_row (len_is_row) (fun cdv A outer s H E Ed hr => ?_) (pure_is_row)
  exact (db_cons (ds_if (DW.pt (dw_or (dt_not (dt_val (de_callB cd_isi (by rfl) T.n_isinstance (by decide +kernel) (da_cons (dv 0) (da_cons (de_ty (by rfl) T.n_tuple (by decide +kernel)) da_nil))))) (dw_or1 (dt_not (dt_chain od_le od_le (dv 1) (de_callB cd_len (by rfl) T.n_len (by decide +kernel) (da_cons (dv 0) da_nil)) (dv 2)))))) (db_one (ds_ret de_bl)) db_nil)
  (db_one (ds_ret (de_callB (cd_all rfl) (by rfl) T.n_all (by decide +kernel) (da_cons (de_lc (own := [("number", 3)]) rfl sc_is_row.nd (di_any (dv 0)) (blkOk_by (own := [("number", 3)]) (N := N_is_row) (sc := defScope s_is_row) (by decide +kernel)) (fun _ _ _ _ _ => (dg_name (i := 3) sc_is_row.nd rfl (by first | exact Or.inl rfl | exact Or.inr rfl) (by decide))) (fun _ _ _ _ _ => dts_nil) (fun _ _ _ _ _ => (de_call (ok_is_within T) (hr.mono (by decide)) (by rfl) T.m_is_within T.F_is_within.kp T.b_is_within .nil (fun _ _ => rpL_nil) takes0N (da_cons (dv 3) (da_cons de_int (da_cons (de_k (by rfl) T.m_MOST_NUMBER T.r_MOST_NUMBER T.k_MOST_NUMBER) da_nil)))))) da_nil)))))
theorem ok_is_number_ring (T : Txt w K mg base) : FnG P w K mg base (L2N.CX P w) 4 T.f_is_number_ring T.fd_is_number_ring ["thing"] (upF K (sp_is_number_ring)) := by
  refine okD (k := 3) (t := fun Ed => t_is_number_ring Ed) T.F_is_number_ring sc_is_number_ring (len_is_number_ring) (fun cdv A outer s H E Ed hr => ?_) (pure_is_number_ring)
  exact (db_one (ds_ret (de_call (ok_is_row T) (hr.mono (by decide)) (by rfl) T.m_is_row T.F_is_row.kp T.b_is_row .nil (fun _ _ => rpL_nil) takesB (da_cons (dv 0) (da_cons de_int (da_cons (de_k (by rfl) T.m_MOST_RING T.r_MOST_RING T.k_MOST_RING) da_nil))))))
theorem ok_is_ahead (T : Txt w K mg base) : FnG P w K mg base (L2N.CX P w) 4 T.f_is_ahead T.fd_is_ahead ["thing"] (upF K (sp_is_ahead)) := by
  refine okD (k := 3) (t := fun Ed => t_is_ahead Ed) T.F_is_ahead sc_is_ahead (len_is_ahead) (fun cdv A outer s H E Ed hr => ?_) (pure_is_ahead)
  exact (db_cons (ds_if (DW.pt (dw_or (dt_not (dt_val (de_callB cd_isi (by rfl) T.n_isinstance (by decide +kernel) (da_cons (dv 0) (da_cons (de_ty (by rfl) T.n_tuple (by decide +kernel)) da_nil))))) (dw_or1 (dt_cmp (od_eq hr.units) (de_callB cd_len (by rfl) T.n_len (by decide +kernel) (da_cons (dv 0) da_nil)) de_int (nomark _))))) (db_one (ds_ret (de_cmp (od_eq hr.units) (dv 0) (de_tup da_nil) (nomark _)))) db_nil)
  (db_cons (ds_if (dt_not (dt_val (de_call (ok_is_within T) (hr.mono (by decide)) (by rfl) T.m_is_within T.F_is_within.kp T.b_is_within .nil (fun _ _ => rpL_nil) takesB (da_cons (de_ix (dv 0) de_int (fun _ _ => rfl)) (da_cons (de_op od_sub de_int (de_k (by rfl) T.m_MOST_NUMBER T.r_MOST_NUMBER T.k_MOST_NUMBER)) (da_cons (de_k (by rfl) T.m_MOST_NUMBER T.r_MOST_NUMBER T.k_MOST_NUMBER) da_nil)))))) (db_one (ds_ret de_bl)) db_nil)
  (db_one (ds_ret (de_call (ok_is_row T) (hr.mono (by decide)) (by rfl) T.m_is_row T.F_is_row.kp T.b_is_row .nil (fun _ _ => rpL_nil) takesB (da_cons (de_slice (dv 0) (do_some de_int) do_none) (da_cons de_int (da_cons (de_op od_sub (de_k (by rfl) T.m_MOST_AHEAD T.r_MOST_AHEAD T.k_MOST_AHEAD) de_int) da_nil))))))))
theorem ok_shortest_part (T : Txt w K mg base) : FnG P w K mg base (L2N.CX P w) 1 T.f_shortest_part T.fd_shortest_part ["parts"] (upF K (sp_shortest_part)) := by
  refine okD (k := 0) (t := fun Ed => t_shortest_part Ed) T.F_shortest_part sc_shortest_part (len_shortest_part) (fun cdv A outer s H E Ed hr => ?_) (pure_shortest_part)
  exact (db_cons (ds_set 1 sc_shortest_part.nd rfl (by first | exact .inl rfl | exact .inr rfl) (de_callB cd_len (by rfl) T.n_len (by decide +kernel) (da_cons (dv 0) da_nil)))
  (db_cons (ds_for (vs := [2]) passB rfl (di_rng2 (by rfl) T.n_range (da_cons de_int (da_cons (dv 1) da_nil))) (dg_name (i := 2) sc_shortest_part.nd rfl (by first | exact Or.inl rfl | exact Or.inr rfl) (by decide))
  (db_one (ds_if (DW.pt (dw_and (dt_cmp (od_eq hr.units) (de_op od_mod (dv 1) (dv 2)) de_int (nomark _)) (dw_and1 (dt_cmp (od_eq hr.units) (de_op od_mulA (de_slice (dv 0) do_none (do_some (dv 2))) (de_op od_fdiv (dv 1) (dv 2))) (dv 0) (nomark _))))) (db_one (ds_ret (de_slice (dv 0) do_none (do_some (dv 2))))) db_nil)))
  (db_one (ds_ret (dv 0)))))
theorem ok_Stair_keep_rows (T : Txt w K mg base) : FnG P w K mg base (L2N.CX P w) 2 T.f_Stair_keep_rows T.fd_Stair_keep_rows ["self", "ahead", "ring"] (upF K (sp_Stair_keep_rows)) := by
  refine okD (k := 1) (t := fun Ed => t_Stair_keep_rows Ed) T.F_Stair_keep_rows sc_Stair_keep_rows (len_Stair_keep_rows) (fun cdv A outer s H E Ed hr => ?_) (pure_Stair_keep_rows)
  exact (db_cons (ds_set 2 sc_Stair_keep_rows.nd rfl (by first | exact .inl rfl | exact .inr rfl) (de_call (ok_shortest_part T) (hr.mono (by decide)) (by rfl) T.m_shortest_part T.F_shortest_part.kp T.b_shortest_part .nil (fun _ _ => rpL_nil) takesB (da_cons (dv 2) da_nil)))
  (db_cons (ds_while passB (DW.pt (dw_and (dt_cmp (od_ne hr.units) (dv 1) (de_tup da_nil) (nomark _)) (dw_and1 (dt_cmp (od_eq hr.units) (de_ix (dv 1) (de_neg de_int) (fun _ _ => rfl)) (de_ix (dv 2) (de_neg de_int) (fun _ _ => rfl)) (nomark _)))))
  (db_cons (ds_set 1 sc_Stair_keep_rows.nd rfl (by first | exact .inl rfl | exact .inr rfl) (de_slice (dv 1) do_none (do_some (de_neg de_int))))
  (db_one (ds_set 2 sc_Stair_keep_rows.nd rfl (by first | exact .inl rfl | exact .inr rfl) (de_op od_add (de_slice (dv 2) (do_some (de_neg de_int)) do_none) (de_slice (dv 2) do_none (do_some (de_neg de_int))))))))
  (db_cons (ds_putB T.cl_Stair (noAttrB_ok T.na_Stair (by decide +kernel)) (dv 0) (dv 1) (by rfl))
  (db_one (ds_putB T.cl_Stair (noAttrB_ok T.na_Stair (by decide +kernel)) (dv 0) (dv 2) (by rfl))))))
theorem ok_Stair___init__ (T : Txt w K mg base) : FnG P w K mg base (L2N.CX P w) 5 T.f_Stair___init__ T.fd_Stair___init__ ["self", "ahead", "ring"] (upF K (sp_Stair___init__)) := by
  refine okD (k := 4) (t := fun Ed => t_Stair___init__ Ed) T.F_Stair___init__ sc_Stair___init__ (len_Stair___init__) (fun cdv A outer s H E Ed hr => ?_) (pure_Stair___init__)
  exact (db_cons (ds_if (DW.pt (dw_or (dt_not (dt_val (de_call (ok_is_ahead T) (hr.mono (by decide)) (by rfl) T.m_is_ahead T.F_is_ahead.kp T.b_is_ahead .nil (fun _ _ => rpL_nil) takesB (da_cons (dv 1) da_nil)))) (dw_or1 (dt_not (dt_val (de_call (ok_is_number_ring T) (hr.mono (by decide)) (by rfl) T.m_is_number_ring T.F_is_number_ring.kp T.b_is_number_ring .nil (fun _ _ => rpL_nil) takesB (da_cons (dv 2) da_nil))))))) (db_one (ds_raiseC rfl takesB PySem.F.excBase_ValueError T.R_NoStair T.gc_NoStair (by rfl))) db_nil)
  (db_one (ds_expr (de_methO T.cl_Stair T.M_Stair_keep_rows (dv 0) (ok_Stair_keep_rows T) (hr.mono (by decide)) T.b_Stair_keep_rows .nil (fun _ _ => rpL_nil) takesB (da_cons (dv 1) (da_cons (dv 2) da_nil))))))
theorem ok_Stair_ahead (T : Txt w K mg base) : FnG P w K mg base (L2N.CX P w) 1 T.f_Stair_ahead T.fd_Stair_ahead ["self"] (upF K (sp_Stair_ahead)) := by
  refine okD (k := 0) (t := fun Ed => t_Stair_ahead Ed) T.F_Stair_ahead sc_Stair_ahead (len_Stair_ahead) (fun cdv A outer s H E Ed hr => ?_) (pure_Stair_ahead)
  exact (db_one (ds_ret (de_fld T.cl_Stair (noAttrB_ok T.na_Stair (by decide +kernel)) (dv 0))))
theorem ok_Stair_ring (T : Txt w K mg base) : FnG P w K mg base (L2N.CX P w) 1 T.f_Stair_ring T.fd_Stair_ring ["self"] (upF K (sp_Stair_ring)) := by
  refine okD (k := 0) (t := fun Ed => t_Stair_ring Ed) T.F_Stair_ring sc_Stair_ring (len_Stair_ring) (fun cdv A outer s H E Ed hr => ?_) (pure_Stair_ring)
  exact (db_one (ds_ret (de_fld T.cl_Stair (noAttrB_ok T.na_Stair (by decide +kernel)) (dv 0))))
theorem ok_Stair___eq__ (T : Txt w K mg base) : FnG P w K mg base (L2N.CX P w) 2 T.f_Stair___eq__ T.fd_Stair___eq__ ["self", "other"] (upF K (sp_Stair___eq__)) := by
  refine okD (k := 1) (t := fun Ed => t_Stair___eq__ Ed) T.F_Stair___eq__ sc_Stair___eq__ (len_Stair___eq__) (fun cdv A outer s H E Ed hr => ?_) (pure_Stair___eq__)
  exact (db_cons (ds_if (dt_not (dt_val (de_callB (cd_isiX T.cl_Stair T.is_Stair (oth_cons T.cl_Ring T.is_Ring T.oc_Stair_Ring (oth_cons T.cl_Root T.is_Root T.oc_Stair_Root oth_nil))) (by rfl) T.n_isinstance (by decide +kernel) (da_cons (dv 1) (da_cons (de_cls T.cl_Stair (by rfl) T.gc_Stair) da_nil))))) (db_one (ds_ret de_bl)) db_nil)
  (db_one (ds_ret (de_and (de_cmp (od_eq hr.units) (de_fld T.cl_Stair (noAttrB_ok T.na_Stair (by decide +kernel)) (dv 0)) (de_meth0 T.cl_Stair T.M_Stair_ahead (dv 1) (ok_Stair_ahead T) (hr.mono (by decide)) T.b_Stair_ahead .nil (fun _ _ => rpL_nil) takesB) (nomark _)) (de_one (de_cmp (od_eq hr.units) (de_fld T.cl_Stair (noAttrB_ok T.na_Stair (by decide +kernel)) (dv 0)) (de_meth0 T.cl_Stair T.M_Stair_ring (dv 1) (ok_Stair_ring T) (hr.mono (by decide)) T.b_Stair_ring .nil (fun _ _ => rpL_nil) takesB) (nomark _)))))))
theorem ok_Stair___len__ (T : Txt w K mg base) : FnG P w K mg base (L2N.CX P w) 1 T.f_Stair___len__ T.fd_Stair___len__ ["self"] (upF K (sp_Stair___len__)) := by
  refine okD (k := 0) (t := fun Ed => t_Stair___len__ Ed) T.F_Stair___len__ sc_Stair___len__ (len_Stair___len__) (fun cdv A outer s H E Ed hr => ?_) (pure_Stair___len__)
  exact (db_one (ds_ret (de_callB cd_len (by rfl) T.n_len (by decide +kernel) (da_cons (de_op od_add (de_fld T.cl_Stair (noAttrB_ok T.na_Stair (by decide +kernel)) (dv 0)) (de_fld T.cl_Stair (noAttrB_ok T.na_Stair (by decide +kernel)) (dv 0))) da_nil))))
theorem ok_Stair___str__ (T : Txt w K mg base) : FnG P w K mg base (L2N.CX P w) 1 T.f_Stair___str__ T.fd_Stair___str__ ["self"] (upF K (sp_Stair___str__)) := by
  refine okD (k := 0) (t := fun Ed => t_Stair___str__ Ed) T.F_Stair___str__ sc_Stair___str__ (len_Stair___str__) (fun cdv A outer s H E Ed hr => ?_) (pure_Stair___str__)
  exact (db_cons (ds_set 1 sc_Stair___str__.nd rfl (by first | exact .inl rfl | exact .inr rfl) (de_join de_str (da_cons (de_lc (own := [("number", 3)]) rfl sc_Stair___str__.nd (di_any (de_fld T.cl_Stair (noAttrB_ok T.na_Stair (by decide +kernel)) (dv 0))) (blkOk_by (own := [("number", 3)]) (N := N_Stair___str__) (sc := defScope s_Stair___str__) (by decide +kernel)) (fun _ _ _ _ _ => (dg_name (i := 3) sc_Stair___str__.nd rfl (by first | exact Or.inl rfl | exact Or.inr rfl) (by decide))) (fun _ _ _ _ _ => dts_nil) (fun _ _ _ _ _ => (de_joined (.cons (de_fmt hr.gd hr.units (dv 3)) (.cons de_str .nil))))) da_nil)))
  (db_cons (ds_set 2 sc_Stair___str__.nd rfl (by first | exact .inl rfl | exact .inr rfl) (de_join de_str (da_cons (de_lc (own := [("number", 3)]) rfl sc_Stair___str__.nd (di_any (de_fld T.cl_Stair (noAttrB_ok T.na_Stair (by decide +kernel)) (dv 0))) (blkOk_by (own := [("number", 3)]) (N := N_Stair___str__) (sc := defScope s_Stair___str__) (by decide +kernel)) (fun _ _ _ _ _ => (dg_name (i := 3) sc_Stair___str__.nd rfl (by first | exact Or.inl rfl | exact Or.inr rfl) (by decide))) (fun _ _ _ _ _ => dts_nil) (fun _ _ _ _ _ => (de_callTy cd_str (by rfl) T.n_str (by decide +kernel) (da_cons (dv 3) da_nil)))) da_nil)))
  (db_one (ds_ret (de_joined (.cons (de_fmt hr.gd hr.units (dv 1)) (.cons de_str (.cons (de_fmt hr.gd hr.units (dv 2)) (.cons de_str .nil)))))))))
theorem ok_Stair___repr__ (T : Txt w K mg base) : FnG P w K mg base (L2N.CX P w) 1 T.f_Stair___repr__ T.fd_Stair___repr__ ["self"] (upF K (sp_Stair___repr__)) := by
  refine okD (k := 0) (t := fun Ed => t_Stair___repr__ Ed) T.F_Stair___repr__ sc_Stair___repr__ (len_Stair___repr__) (fun cdv A outer s H E Ed hr => ?_) (pure_Stair___repr__)
  exact (db_one (ds_ret (de_joined (.cons de_str (.cons (de_fmt hr.gd hr.units (de_fld T.cl_Stair (noAttrB_ok T.na_Stair (by decide +kernel)) (dv 0))) (.cons de_str (.cons (de_fmt hr.gd hr.units (de_fld T.cl_Stair (noAttrB_ok T.na_Stair (by decide +kernel)) (dv 0))) (.cons de_str .nil))))))))
theorem ok_Stair_at (T : Txt w K mg base) : FnG P w K mg base (L2N.CX P w) 3 T.f_Stair_at T.fd_Stair_at ["self", "place"] (upF K (sp_Stair_at)) := by
  refine okD (k := 2) (t := fun Ed => t_Stair_at Ed) T.F_Stair_at sc_Stair_at (len_Stair_at) (fun cdv A outer s H E Ed hr => ?_) (pure_Stair_at)
  exact (db_cons (ds_if (dt_cmp od_lt (dv 1) de_int (nomark _)) (db_one (ds_raiseF2 rfl takesB PySem.F.excBase_IndexError T.X_NoPlace (in_NoPlace T) (hr.mono (by decide)) T.bI_NoPlace T.gc_NoPlace (by rfl) (da_cons (dv 1) (da_cons de_non da_nil)))) db_nil)
  (db_cons (ds_if (dt_cmp od_lt (dv 1) (de_callB cd_len (by rfl) T.n_len (by decide +kernel) (da_cons (de_fld T.cl_Stair (noAttrB_ok T.na_Stair (by decide +kernel)) (dv 0)) da_nil)) (nomark _)) (db_one (ds_ret (de_ix (de_fld T.cl_Stair (noAttrB_ok T.na_Stair (by decide +kernel)) (dv 0)) (dv 1) (fun _ _ => rfl)))) db_nil)
  (db_one (ds_ret (de_ix (de_fld T.cl_Stair (noAttrB_ok T.na_Stair (by decide +kernel)) (dv 0)) (de_op od_mod (de_op od_sub (dv 1) (de_callB cd_len (by rfl) T.n_len (by decide +kernel) (da_cons (de_fld T.cl_Stair (noAttrB_ok T.na_Stair (by decide +kernel)) (dv 0)) da_nil))) (de_callB cd_len (by rfl) T.n_len (by decide +kernel) (da_cons (de_fld T.cl_Stair (noAttrB_ok T.na_Stair (by decide +kernel)) (dv 0)) da_nil))) (fun _ _ => rfl))))))
theorem ok_told_stair (T : Txt w K mg base) : FnG P w K mg base (L2N.CX P w) 7 T.f_told_stair T.fd_told_stair ["ahead", "ring"] (upF K (sp_told_stair)) := by
  refine okD (k := 6) (t := fun Ed => t_told_stair Ed) T.F_told_stair sc_told_stair (len_told_stair) (fun cdv A outer s H E Ed hr => ?_) (pure_told_stair)
  exact (db_cons (ds_set 2 sc_told_stair.nd rfl (by first | exact .inl rfl | exact .inr rfl) (de_makeO T.cl_Stair (ok_Stair___init__ T) (hr.mono (by decide)) (by rfl) T.gc_Stair T.b_Stair___init__ .nil (fun _ _ => rpL_nil) takesB (da_cons (de_tup da_nil) (da_cons (de_tup (da_cons de_int da_nil)) da_nil))))
  (db_cons (ds_expr (de_methO T.cl_Stair T.M_Stair_keep_rows (dv 2) (ok_Stair_keep_rows T) (hr.mono (by decide)) T.b_Stair_keep_rows .nil (fun _ _ => rpL_nil) takesB (da_cons (dv 0) (da_cons (dv 1) da_nil))))
  (db_one (ds_ret (de_frzI (dv 2))))))
theorem ok_Stair_behind (T : Txt w K mg base) : FnG P w K mg base (L2N.CX P w) 8 T.f_Stair_behind T.fd_Stair_behind ["self", "many"] (upF K (sp_Stair_behind)) := by
  refine okDv (k := 7) (t := fun Ed => t_Stair_behind Ed) T.F_Stair_behind sc_Stair_behind (len_Stair_behind) (fun cdv A outer s H E Ed hr => ?_) (pure_Stair_behind)
  exact (db_cons (ds_set 2 sc_Stair_behind.nd rfl (by first | exact .inl rfl | exact .inr rfl) (de_slice (de_fld T.cl_Stair (noAttrB_ok T.na_Stair (by decide +kernel)) (dv 0)) (do_some (dv 1)) do_none))
  (db_cons (ds_set 3 sc_Stair_behind.nd rfl (by first | exact .inl rfl | exact .inr rfl) (de_op od_mod (de_callB (cd_max2 rfl) (by rfl) T.n_max (by decide +kernel) (da_cons de_int (da_cons (de_op od_sub (dv 1) (de_callB cd_len (by rfl) T.n_len (by decide +kernel) (da_cons (de_fld T.cl_Stair (noAttrB_ok T.na_Stair (by decide +kernel)) (dv 0)) da_nil))) da_nil))) (de_callB cd_len (by rfl) T.n_len (by decide +kernel) (da_cons (de_fld T.cl_Stair (noAttrB_ok T.na_Stair (by decide +kernel)) (dv 0)) da_nil))))
  (db_one (ds_ret (de_call (ok_told_stair T) (hr.mono (by decide)) (by rfl) T.m_told_stair T.F_told_stair.kp T.b_told_stair .nil (fun _ _ => rpL_nil) takesB (da_cons (dv 2) (da_cons (de_op od_add (de_slice (de_fld T.cl_Stair (noAttrB_ok T.na_Stair (by decide +kernel)) (dv 0)) (do_some (dv 3)) do_none) (de_slice (de_fld T.cl_Stair (noAttrB_ok T.na_Stair (by decide +kernel)) (dv 0)) do_none (do_some (dv 3)))) da_nil)))))))
theorem ok_is_word (T : Txt w K mg base) : FnG P w K mg base (L2N.CX P w) 1 T.f_is_word T.fd_is_word ["thing"] (upF K (sp_is_word)) := by
  refine okD (k := 0) (t := fun Ed => t_is_word Ed) T.F_is_word sc_is_word (len_is_word) (fun cdv A outer s H E Ed hr => ?_) (pure_is_word)
  exact (db_cons (ds_if (DW.pt (dw_or (dt_not (dt_val (de_callB cd_isi (by rfl) T.n_isinstance (by decide +kernel) (da_cons (dv 0) (da_cons (de_ty (by rfl) T.n_str (by decide +kernel)) da_nil))))) (dw_or1 (dt_not (dt_chain od_le od_le de_int (de_callB cd_len (by rfl) T.n_len (by decide +kernel) (da_cons (dv 0) da_nil)) (de_k (by rfl) T.m_MOST_LETTERS T.r_MOST_LETTERS T.k_MOST_LETTERS)))))) (db_one (ds_ret de_bl)) db_nil)
  (db_one (ds_ret (de_callB (cd_all rfl) (by rfl) T.n_all (by decide +kernel) (da_cons (de_lc (own := [("letter", 1)]) rfl sc_is_word.nd (di_any (dv 0)) (blkOk_by (own := [("letter", 1)]) (N := N_is_word) (sc := defScope s_is_word) (by decide +kernel)) (fun _ _ _ _ _ => (dg_name (i := 1) sc_is_word.nd rfl (by first | exact Or.inl rfl | exact Or.inr rfl) (by decide))) (fun _ _ _ _ _ => dts_nil) (fun _ _ _ _ _ => (de_cmp od_inS (dv 1) (de_k (by rfl) T.m_LETTERS T.r_LETTERS T.k_LETTERS) (by with_unfolding_all rfl)))) da_nil)))))
theorem ok_Ring___init__ (T : Txt w K mg base) : FnG P w K mg base (L2N.CX P w) 5 T.f_Ring___init__ T.fd_Ring___init__ ["self", "parts"] (upF K (sp_Ring___init__)) := by
  refine okD (k := 4) (t := fun Ed => t_Ring___init__ Ed) T.F_Ring___init__ sc_Ring___init__ (len_Ring___init__) (fun cdv A outer s H E Ed hr => ?_) (pure_Ring___init__)
  exact (db_cons (ds_if (DW.pt (dw_and (dt_not (dt_val (de_call (ok_is_word T) (hr.mono (by decide)) (by rfl) T.m_is_word T.F_is_word.kp T.b_is_word .nil (fun _ _ => rpL_nil) takesB (da_cons (dv 1) da_nil)))) (dw_and1 (dt_not (dt_val (de_call (ok_is_number_ring T) (hr.mono (by decide)) (by rfl) T.m_is_number_ring T.F_is_number_ring.kp T.b_is_number_ring .nil (fun _ _ => rpL_nil) takesB (da_cons (dv 1) da_nil))))))) (db_one (ds_raiseC rfl takesB PySem.F.excBase_ValueError T.R_NoRing T.gc_NoRing (by rfl))) db_nil)
  (db_one (ds_put T.cl_Ring (noAttrB_ok T.na_Ring (by decide +kernel)) (dv 0) (dv 1) (by rfl))))
theorem ok_law_urn (T : Txt w K mg base) : FnG P w K mg base (L2N.CX P w) 1 T.f_law_urn T.fd_law_urn ["_law_script", "_law_at"] (upF K (sp_law_urn)) := by
  refine okD (k := 0) (t := fun Ed => t_law_urn Ed) T.F_law_urn sc_law_urn (len_law_urn) (fun cdv A outer s H E Ed hr => ?_) (pure_law_urn)
  exact (db_cons (ds_set 2 sc_law_urn.nd rfl (by first | exact .inl rfl | exact .inr rfl) de_int)
  (db_cons (ds_if (dt_cmp od_lt (dv 1) (de_callB cd_len (by rfl) T.n_len (by decide +kernel) (da_cons (dv 0) da_nil)) (nomark _)) (db_one (ds_set 2 sc_law_urn.nd rfl (by first | exact .inl rfl | exact .inr rfl) (de_ix (dv 0) (dv 1) (fun _ _ => rfl)))) db_nil)
  (db_cons (ds_set 3 sc_law_urn.nd rfl (by first | exact .inl rfl | exact .inr rfl) (de_callB cd_abs (by rfl) T.n_abs (by decide +kernel) (da_cons (dv 2) da_nil)))
  (db_cons (ds_if (dt_cmp od_lt (dv 3) (de_op od_pow de_int de_int) (nomark _)) (db_one (ds_set 3 sc_law_urn.nd rfl (by first | exact .inl rfl | exact .inr rfl) de_int)) db_nil)
  (db_one (ds_ret (de_lstO (da_cons (dv 3) (da_cons (de_op od_add (de_op od_add (de_op od_add (de_op od_mod (dv 2) de_int) (de_op od_mulA (de_op od_mulA de_int (dv 1)) (dv 1))) (de_op od_mulA de_int (dv 1))) de_int) (da_cons de_int da_nil))))))))))
theorem ok_law_draw (T : Txt w K mg base) : FnG P w K mg base (L2N.CX P w) 1 T.f_law_draw T.fd_law_draw ["_law_urn_here", "_law_wide"] (upF K (sp_law_draw)) := by
  refine okD (k := 0) (t := fun Ed => t_law_draw Ed) T.F_law_draw sc_law_draw (len_law_draw) (fun cdv A outer s H E Ed hr => ?_) (pure_law_draw)
  exact (db_cons (ds_if (dt_cmp od_gt (de_ix (dv 0) de_int (fun _ _ => rfl)) de_int (nomark _)) (db_cons (ds_set 2 sc_law_draw.nd rfl (by first | exact .inl rfl | exact .inr rfl) (de_op od_mod (de_ix (dv 0) de_int (fun _ _ => rfl)) (dv 1)))
  (db_cons (ds_store (dv 0) de_int (de_op od_fdiv (de_ix (dv 0) de_int (fun _ _ => rfl)) (dv 1)))
  (db_one (ds_ret (dv 2))))) db_nil)
  (db_cons (ds_set 3 sc_law_draw.nd rfl (by first | exact .inl rfl | exact .inr rfl) (de_tup (da_cons de_int (da_cons de_int (da_cons de_int (da_cons de_int (da_cons de_int (da_cons de_int (da_cons de_int da_nil)))))))))
  (db_cons (ds_store (dv 0) de_int (de_op od_add (de_ix (dv 0) de_int (fun _ _ => rfl)) de_int))
  (db_cons (ds_set 4 sc_law_draw.nd rfl (by first | exact .inl rfl | exact .inr rfl) (de_ix (dv 0) de_int (fun _ _ => rfl)))
  (db_cons (ds_set 5 sc_law_draw.nd rfl (by first | exact .inl rfl | exact .inr rfl) (de_op od_add (de_op od_add (de_op od_mulA (de_ix (dv 0) de_int (fun _ _ => rfl)) (de_op od_add (de_op od_mulA de_int (dv 4)) de_int)) (de_op od_mulA (de_op od_mulA de_int (dv 4)) (dv 4))) de_int))
  (db_cons (ds_set 6 sc_law_draw.nd rfl (by first | exact .inl rfl | exact .inr rfl) (de_op od_mod (de_op od_pow (dv 5) de_int) (de_ix (dv 3) (de_op od_mod (dv 4) de_int) (fun _ _ => rfl))))
  (db_one (ds_ret (de_op od_mod (de_op od_fdiv (de_op od_mod (de_op od_mulA (dv 6) (de_op od_add (de_op od_fdiv (dv 6) de_int) (dv 4))) (de_ix (dv 3) (de_op od_mod (de_op od_add (dv 4) de_int) de_int) (fun _ _ => rfl))) de_int) (dv 1))))))))))
theorem ok_law_whole (T : Txt w K mg base) : FnG P w K mg base (L2N.CX P w) 1 T.f_law_whole T.fd_law_whole ["_law_thing"] (upF K (sp_law_whole)) := by
  refine okD (k := 0) (t := fun Ed => t_law_whole Ed) T.F_law_whole sc_law_whole (len_law_whole) (fun cdv A outer s H E Ed hr => ?_) (pure_law_whole)
  exact (db_one (ds_ret (de_and (de_callB cd_isi (by rfl) T.n_isinstance (by decide +kernel) (da_cons (dv 0) (da_cons (de_ty (by rfl) T.n_int (by decide +kernel)) da_nil))) (de_one (de_not (de_callB cd_isi (by rfl) T.n_isinstance (by decide +kernel) (da_cons (dv 0) (da_cons (de_ty (by rfl) T.n_bool (by decide +kernel)) da_nil))))))))
theorem ok_law_ring (T : Txt w K mg base) : FnG P w K mg base (L2N.CX P w) 2 T.f_law_ring T.fd_law_ring ["_law_urn_here", "_law_most"] (upF K (sp_law_ring)) := by
  refine okD (k := 1) (t := fun Ed => t_law_ring Ed) T.F_law_ring sc_law_ring (len_law_ring) (fun cdv A outer s H E Ed hr => ?_) (pure_law_ring)
  exact (db_cons (ds_set 2 sc_law_ring.nd rfl (by first | exact .inl rfl | exact .inr rfl) (de_ix (de_lst (da_cons de_int (da_cons de_int (da_cons de_int (da_cons de_int (da_cons de_int (da_cons de_int (da_cons de_int (da_cons (dv 1) da_nil))))))))) (de_call (ok_law_draw T) (hr.mono (by decide)) (by rfl) T.m_law_draw T.F_law_draw.kp T.b_law_draw .nil (fun _ _ => rpL_nil) takesB (da_cons (dv 0) (da_cons de_int da_nil))) (fun _ _ => rfl)))
  (db_cons (ds_set 3 sc_law_ring.nd rfl (by first | exact .inl rfl | exact .inr rfl) (de_ix (de_lst (da_cons de_int (da_cons de_int (da_cons de_int (da_cons de_int (da_cons de_int (da_cons de_int da_nil))))))) (de_call (ok_law_draw T) (hr.mono (by decide)) (by rfl) T.m_law_draw T.F_law_draw.kp T.b_law_draw .nil (fun _ _ => rpL_nil) takesB (da_cons (dv 0) (da_cons de_int da_nil))) (fun _ _ => rfl)))
  (db_one (ds_ret (de_callTy (cd_tupA rfl) (by rfl) T.n_tuple (by decide +kernel) (da_cons (de_lc (own := [("_law_k", 4)]) rfl sc_law_ring.nd (di_rng1 (by rfl) T.n_range (da_cons (de_op od_add de_int (de_call (ok_law_draw T) (hr.mono (by decide)) (by rfl) T.m_law_draw T.F_law_draw.kp T.b_law_draw .nil (fun _ _ => rpL_nil) takesB (da_cons (dv 0) (da_cons (dv 2) da_nil)))) da_nil)) (blkOk_by (own := [("_law_k", 4)]) (N := N_law_ring) (sc := defScope s_law_ring) (by decide +kernel)) (fun _ _ _ _ _ => (dg_name (i := 4) sc_law_ring.nd rfl (by first | exact Or.inl rfl | exact Or.inr rfl) (by decide))) (fun _ _ _ _ _ => dts_nil) (fun _ _ _ _ _ => (de_op od_add de_int (de_call (ok_law_draw T) (hr.mono (by decide)) (by rfl) T.m_law_draw T.F_law_draw.kp T.b_law_draw .nil (fun _ _ => rpL_nil) takes0N (da_cons (dv 0) (da_cons (dv 3) da_nil)))))) da_nil))))))
theorem ok_law_ahead (T : Txt w K mg base) : FnG P w K mg base (L2N.CX P w) 2 T.f_law_ahead T.fd_law_ahead ["_law_urn_here", "_law_ring_here"] (upF K (sp_law_ahead)) := by
  refine okD (k := 1) (t := fun Ed => t_law_ahead Ed) T.F_law_ahead sc_law_ahead (len_law_ahead) (fun cdv A outer s H E Ed hr => ?_) (pure_law_ahead)
  exact (db_cons (ds_set 2 sc_law_ahead.nd rfl (by first | exact .inl rfl | exact .inr rfl) (de_ix (de_lst (da_cons de_int (da_cons de_int (da_cons de_int (da_cons de_int da_nil))))) (de_call (ok_law_draw T) (hr.mono (by decide)) (by rfl) T.m_law_draw T.F_law_draw.kp T.b_law_draw .nil (fun _ _ => rpL_nil) takesB (da_cons (dv 0) (da_cons de_int da_nil))) (fun _ _ => rfl)))
  (db_cons (ds_set 3 sc_law_ahead.nd rfl (by first | exact .inl rfl | exact .inr rfl) (de_ix (de_lst (da_cons de_int (da_cons de_int (da_cons de_int (da_cons de_int da_nil))))) (de_call (ok_law_draw T) (hr.mono (by decide)) (by rfl) T.m_law_draw T.F_law_draw.kp T.b_law_draw .nil (fun _ _ => rpL_nil) takesB (da_cons (dv 0) (da_cons de_int da_nil))) (fun _ _ => rfl)))
  (db_cons (ds_setLc (own := [("_law_k", 5)]) 4 rfl sc_law_ahead.nd rfl rfl (sw_true rfl rfl rfl (by decide +kernel)) (di_rng1 (by rfl) T.n_range (da_cons (de_call (ok_law_draw T) (hr.mono (by decide)) (by rfl) T.m_law_draw T.F_law_draw.kp T.b_law_draw .nil (fun _ _ => rpL_nil) takesB (da_cons (dv 0) (da_cons (de_op od_add (dv 2) de_int) da_nil))) da_nil)) (blkOk_by (own := [("_law_k", 5)]) (N := N_law_ahead) (sc := defScope s_law_ahead) (by decide +kernel)) (fun _ _ _ _ _ => (dg_name (i := 5) sc_law_ahead.nd rfl (by first | exact Or.inl rfl | exact Or.inr rfl) (by decide))) (fun _ _ _ _ _ => dts_nil) (fun _ _ _ _ _ => (de_op od_add de_int (de_call (ok_law_draw T) (hr.mono (by decide)) (by rfl) T.m_law_draw T.F_law_draw.kp T.b_law_draw .nil (fun _ _ => rpL_nil) takes0N (da_cons (dv 0) (da_cons (dv 3) da_nil))))))
  (db_cons (ds_if (dt_cmp (od_eq hr.units) (de_call (ok_law_draw T) (hr.mono (by decide)) (by rfl) T.m_law_draw T.F_law_draw.kp T.b_law_draw .nil (fun _ _ => rpL_nil) takesB (da_cons (dv 0) (da_cons de_int da_nil))) de_int (nomark _)) (db_one (ds_set 4 sc_law_ahead.nd rfl (by first | exact .inl rfl | exact .inr rfl) (de_op od_add (de_slice (dv 4) do_none (do_some (de_op od_sub de_int (de_callB (cd_min2 rfl) (by rfl) T.n_min (by decide +kernel) (da_cons de_int (da_cons (de_callB cd_len (by rfl) T.n_len (by decide +kernel) (da_cons (dv 1) da_nil)) da_nil)))))) (de_slice (de_callTy (cd_listA rfl) (by rfl) T.n_list (by decide +kernel) (da_cons (dv 1) da_nil)) (do_some (de_call (ok_law_draw T) (hr.mono (by decide)) (by rfl) T.m_law_draw T.F_law_draw.kp T.b_law_draw .nil (fun _ _ => rpL_nil) takesB (da_cons (dv 0) (da_cons (de_callB cd_len (by rfl) T.n_len (by decide +kernel) (da_cons (dv 1) da_nil)) da_nil)))) do_none)))) db_nil)
  (db_cons (ds_set 4 sc_law_ahead.nd rfl (by first | exact .inl rfl | exact .inr rfl) (de_sliceO (dv 4) do_none (do_some de_int)))
  (db_cons (ds_if (DW.pt (dw_and (dt_cmp (od_neO hr.units) (dv 4) (de_lst da_nil) (nomark _)) (dw_and1 (dt_cmp (od_eq hr.units) (de_call (ok_law_draw T) (hr.mono (by decide)) (by rfl) T.m_law_draw T.F_law_draw.kp T.b_law_draw .nil (fun _ _ => rpL_nil) takesB (da_cons (dv 0) (da_cons de_int da_nil))) de_int (nomark _))))) (db_one (ds_store (dv 4) de_int (de_op od_sub (de_call (ok_law_draw T) (hr.mono (by decide)) (by rfl) T.m_law_draw T.F_law_draw.kp T.b_law_draw .nil (fun _ _ => rpL_nil) takesB (da_cons (dv 0) (da_cons (de_op od_add (de_op od_mulA de_int (dv 3)) de_int) da_nil))) (dv 3)))) db_nil)
  (db_one (ds_frzV 4 (ds_ret (de_callTy (cd_tupA rfl) (by rfl) T.n_tuple (by decide +kernel) (da_cons (dv 4) da_nil)))))))))))
theorem ok_law_drawn (T : Txt w K mg base) : FnG P w K mg base (L2N.CX P w) 3 T.f_law_drawn T.fd_law_drawn ["_law_urn_here"] (upF K (sp_law_drawn)) := by
  refine okD (k := 2) (t := fun Ed => t_law_drawn Ed) T.F_law_drawn sc_law_drawn (len_law_drawn) (fun cdv A outer s H E Ed hr => ?_) (pure_law_drawn)
  exact (db_cons (ds_set 1 sc_law_drawn.nd rfl (by first | exact .inl rfl | exact .inr rfl) (de_call (ok_law_ring T) (hr.mono (by decide)) (by rfl) T.m_law_ring T.F_law_ring.kp T.b_law_ring .nil (fun _ _ => rpL_nil) takesB (da_cons (dv 0) (da_cons de_int da_nil))))
  (db_cons (ds_if (dt_cmp (od_eq hr.units) (de_call (ok_law_draw T) (hr.mono (by decide)) (by rfl) T.m_law_draw T.F_law_draw.kp T.b_law_draw .nil (fun _ _ => rpL_nil) takesB (da_cons (dv 0) (da_cons de_int da_nil))) de_int (nomark _)) (db_one (ds_set 1 sc_law_drawn.nd rfl (by first | exact .inl rfl | exact .inr rfl) (de_op od_mulA (dv 1) (de_op od_add de_int (de_call (ok_law_draw T) (hr.mono (by decide)) (by rfl) T.m_law_draw T.F_law_draw.kp T.b_law_draw .nil (fun _ _ => rpL_nil) takesB (da_cons (dv 0) (da_cons (de_op od_fdiv de_int (de_callB cd_len (by rfl) T.n_len (by decide +kernel) (da_cons (dv 1) da_nil))) da_nil))))))) db_nil)
  (db_one (ds_ret (de_tup (da_cons (de_call (ok_law_ahead T) (hr.mono (by decide)) (by rfl) T.m_law_ahead T.F_law_ahead.kp T.b_law_ahead .nil (fun _ _ => rpL_nil) takesB (da_cons (dv 0) (da_cons (dv 1) da_nil))) (da_cons (dv 1) da_nil)))))))
theorem ok_law_unrolled (T : Txt w K mg base) : FnG P w K mg base (L2N.CX P w) 2 T.f_law_unrolled T.fd_law_unrolled ["_law_urn_here", "_law_ahead_here", "_law_ring_here"] (upF K (sp_law_unrolled)) := by
  refine okD (k := 1) (t := fun Ed => t_law_unrolled Ed) T.F_law_unrolled sc_law_unrolled (len_law_unrolled) (fun cdv A outer s H E Ed hr => ?_) (pure_law_unrolled)
  exact (db_cons (ds_set 3 sc_law_unrolled.nd rfl (by first | exact .inl rfl | exact .inr rfl) (de_call (ok_law_draw T) (hr.mono (by decide)) (by rfl) T.m_law_draw T.F_law_draw.kp T.b_law_draw .nil (fun _ _ => rpL_nil) takesB (da_cons (dv 0) (da_cons (de_op od_add (de_callB cd_len (by rfl) T.n_len (by decide +kernel) (da_cons (dv 2) da_nil)) de_int) da_nil))))
  (db_cons (ds_set 4 sc_law_unrolled.nd rfl (by first | exact .inl rfl | exact .inr rfl) (de_op od_add (dv 1) (de_slice (de_op od_add (dv 2) (dv 2)) do_none (do_some (dv 3)))))
  (db_cons (ds_set 5 sc_law_unrolled.nd rfl (by first | exact .inl rfl | exact .inr rfl) (de_op od_add (de_slice (dv 2) (do_some (dv 3)) do_none) (de_slice (dv 2) do_none (do_some (dv 3)))))
  (db_cons (ds_if (dt_cmp od_gt (de_callB cd_len (by rfl) T.n_len (by decide +kernel) (da_cons (dv 4) da_nil)) de_int (nomark _)) (db_one (ds_ret (de_tup (da_cons (dv 1) (da_cons (dv 2) da_nil))))) db_nil)
  (db_one (ds_ret (de_tup (da_cons (dv 4) (da_cons (dv 5) da_nil)))))))))
theorem ok_law_row (T : Txt w K mg base) : FnG P w K mg base (L2N.CX P w) 1 T.f_law_row T.fd_law_row ["_law_ahead_here", "_law_ring_here", "_law_amount"] (upF K (sp_law_row)) := by
  refine okD (k := 0) (t := fun Ed => t_law_row Ed) T.F_law_row sc_law_row (len_law_row) (fun cdv A outer s H E Ed hr => ?_) (pure_law_row)
  exact (db_cons (ds_set 3 sc_law_row.nd rfl (by first | exact .inl rfl | exact .inr rfl) (de_callTy cd_listO (by rfl) T.n_list (by decide +kernel) (da_cons (dv 0) da_nil)))
  (db_cons (ds_while passB (dt_cmp od_lt (de_callB cd_len (by rfl) T.n_len (by decide +kernel) (da_cons (dv 3) da_nil)) (dv 2) (nomark _))
  (db_one (ds_expr (de_ext (dv 3) (da_cons (dv 1) da_nil)))))
  (db_one (ds_frzV 3 (ds_ret (de_slice (dv 3) do_none (do_some (dv 2))))))))
theorem ok_law_fewest (T : Txt w K mg base) : FnG P w K mg base (L2N.CX P w) 2 T.f_law_fewest T.fd_law_fewest ["_law_ahead_here", "_law_ring_here"] (upF K (sp_law_fewest)) := by
  refine okD (k := 1) (t := fun Ed => t_law_fewest Ed) T.F_law_fewest sc_law_fewest (len_law_fewest) (fun cdv A outer s H E Ed hr => ?_) (pure_law_fewest)
  exact (db_cons (ds_set 2 sc_law_fewest.nd rfl (by first | exact .inl rfl | exact .inr rfl) (de_call (ok_law_row T) (hr.mono (by decide)) (by rfl) T.m_law_row T.F_law_row.kp T.b_law_row .nil (fun _ _ => rpL_nil) takesB (da_cons (dv 0) (da_cons (dv 1) (da_cons de_int da_nil)))))
  (db_cons (ds_set 3 sc_law_fewest.nd rfl (by first | exact .inl rfl | exact .inr rfl) de_int)
  (db_cons (ds_while passB (DW.pt (dw_or (dt_cmp (od_ne hr.units) (de_slice (dv 2) (do_some de_int) (do_some de_int)) (de_slice (dv 2) (do_some (de_op od_add de_int (dv 3))) (do_some (de_op od_add de_int (dv 3)))) (nomark _)) (dw_or1 (dt_cmp (od_ne hr.units) (de_slice (dv 2) (do_some de_int) (do_some de_int)) (de_slice (dv 2) (do_some (de_op od_add de_int (dv 3))) (do_some (de_op od_add de_int (dv 3)))) (nomark _)))))
  (db_one (ds_set 3 sc_law_fewest.nd rfl (by first | exact .inl rfl | exact .inr rfl) (de_op od_add (dv 3) de_int))))
  (db_cons (ds_set 4 sc_law_fewest.nd rfl (by first | exact .inl rfl | exact .inr rfl) de_int)
  (db_cons (ds_while passB (dt_cmp (od_ne hr.units) (de_slice (dv 2) (do_some (dv 4)) (do_some de_int)) (de_slice (dv 2) (do_some (de_op od_add (dv 4) (dv 3))) (do_some (de_op od_add de_int (dv 3)))) (nomark _))
  (db_one (ds_set 4 sc_law_fewest.nd rfl (by first | exact .inl rfl | exact .inr rfl) (de_op od_add (dv 4) de_int))))
  (db_one (ds_ret (de_tup (da_cons (de_callTy (cd_tupA rfl) (by rfl) T.n_tuple (by decide +kernel) (da_cons (de_slice (dv 2) do_none (do_some (dv 4))) da_nil)) (da_cons (de_callTy (cd_tupA rfl) (by rfl) T.n_tuple (by decide +kernel) (da_cons (de_slice (dv 2) (do_some (dv 4)) (do_some (de_op od_add (dv 4) (dv 3)))) da_nil)) da_nil))))))))))
theorem ok_law_shown_right (T : Txt w K mg base) : FnG P w K mg base (L2N.CX P w) 4 T.f_law_shown_right T.fd_law_shown_right ["_law_stair", "_law_due"] (upF K (sp_law_shown_right)) := by
  refine okD (k := 3) (t := fun Ed => t_law_shown_right Ed) T.F_law_shown_right sc_law_shown_right (len_law_shown_right) (fun cdv A outer s H E Ed hr => ?_) (pure_law_shown_right)
  exact (db_cons (ds_asg (vs := [2, 3]) (dv 1) (dg_tup rfl (dgs_cons (dg_name (i := 2) sc_law_shown_right.nd rfl (by first | exact Or.inl rfl | exact Or.inr rfl) (by decide)) (dgs_cons (dg_name (i := 3) sc_law_shown_right.nd rfl (by first | exact Or.inl rfl | exact Or.inr rfl) (by decide)) dgs_nil))))
  (db_cons (ds_if (DW.pt (dw_or (dt_cmp (od_ne hr.units) (de_meth0 T.cl_Stair T.M_Stair_ahead (dv 0) (ok_Stair_ahead T) (hr.mono (by decide)) T.b_Stair_ahead .nil (fun _ _ => rpL_nil) takesB) (dv 2) (nomark _)) (dw_or (dt_cmp (od_ne hr.units) (de_meth0 T.cl_Stair T.M_Stair_ring (dv 0) (ok_Stair_ring T) (hr.mono (by decide)) T.b_Stair_ring .nil (fun _ _ => rpL_nil) takesB) (dv 3) (nomark _)) (dw_or1 (dt_not (dt_val (de_callB cd_isi (by rfl) T.n_isinstance (by decide +kernel) (da_cons (de_meth0 T.cl_Stair T.M_Stair_ahead (dv 0) (ok_Stair_ahead T) (hr.mono (by decide)) T.b_Stair_ahead .nil (fun _ _ => rpL_nil) takesB) (da_cons (de_ty (by rfl) T.n_tuple (by decide +kernel)) da_nil))))))))) (db_one (ds_ret de_bl)) db_nil)
  (db_cons (ds_if (DW.pt (dw_or (dt_not (dt_val (de_callB cd_isi (by rfl) T.n_isinstance (by decide +kernel) (da_cons (de_meth0 T.cl_Stair T.M_Stair_ring (dv 0) (ok_Stair_ring T) (hr.mono (by decide)) T.b_Stair_ring .nil (fun _ _ => rpL_nil) takesB) (da_cons (de_ty (by rfl) T.n_tuple (by decide +kernel)) da_nil))))) (dw_or (dt_cmp (od_ne hr.units) (de_callB (cd_lenI T.cl_Stair T.M_Stair___len__ (ok_Stair___len__ T) (hr.mono (by decide)) T.b_Stair___len__ (fun σ => L2N.passAt takes0N σ)) (by rfl) T.n_len (by decide +kernel) (da_cons (dv 0) da_nil)) (de_op od_add (de_callB cd_len (by rfl) T.n_len (by decide +kernel) (da_cons (dv 2) da_nil)) (de_callB cd_len (by rfl) T.n_len (by decide +kernel) (da_cons (dv 3) da_nil))) (nomark _)) (dw_or1 (dt_not (dt_truL T.cl_Stair T.M_Stair___len__ (noAttrB_ok T.na_Stair (by decide +kernel)) (ok_Stair___len__ T) (hr.mono (by decide)) T.b_Stair___len__ (fun σ => L2N.passAt takes0N σ) (dv 0))))))) (db_one (ds_ret de_bl)) db_nil)
  (db_cons (ds_set 4 sc_law_shown_right.nd rfl (by first | exact .inl rfl | exact .inr rfl) (de_op od_add (de_op od_add (de_op od_add (de_join de_str (da_cons (de_lc (own := [("_law_number", 5)]) rfl sc_law_shown_right.nd (di_any (dv 2)) (blkOk_by (own := [("_law_number", 5)]) (N := N_law_shown_right) (sc := defScope s_law_shown_right) (by decide +kernel)) (fun _ _ _ _ _ => (dg_name (i := 5) sc_law_shown_right.nd rfl (by first | exact Or.inl rfl | exact Or.inr rfl) (by decide))) (fun _ _ _ _ _ => dts_nil) (fun _ _ _ _ _ => (de_op od_add (de_callTy cd_str (by rfl) T.n_str (by decide +kernel) (da_cons (dv 5) da_nil)) de_str))) da_nil)) de_str) (de_join de_str (da_cons (de_lc (own := [("_law_number", 5)]) rfl sc_law_shown_right.nd (di_any (dv 3)) (blkOk_by (own := [("_law_number", 5)]) (N := N_law_shown_right) (sc := defScope s_law_shown_right) (by decide +kernel)) (fun _ _ _ _ _ => (dg_name (i := 5) sc_law_shown_right.nd rfl (by first | exact Or.inl rfl | exact Or.inr rfl) (by decide))) (fun _ _ _ _ _ => dts_nil) (fun _ _ _ _ _ => (de_callTy cd_str (by rfl) T.n_str (by decide +kernel) (da_cons (dv 5) da_nil)))) da_nil))) de_str))
  (db_one (ds_ret (de_and (de_cmp (od_eq hr.units) (de_callTy (cd_strI hr.units T.cl_Stair T.M_Stair___str__ (ok_Stair___str__ T) (hr.mono (by decide)) T.b_Stair___str__ (fun σ => L2N.passAt takes0N σ)) (by rfl) T.n_str (by decide +kernel) (da_cons (dv 0) da_nil)) (dv 4) (nomark _)) (de_one (de_cmp (od_eq hr.units) (de_callB (cd_reprI hr.units T.cl_Stair T.M_Stair___repr__ (ok_Stair___repr__ T) (hr.mono (by decide)) T.b_Stair___repr__ (fun σ => L2N.passAt takes0N σ)) (by rfl) T.n_repr (by decide +kernel) (da_cons (dv 0) da_nil)) (de_op od_add (de_op od_add (de_op od_add (de_op od_add de_str (de_callTy (cd_strT hr.gd hr.units) (by rfl) T.n_str (by decide +kernel) (da_cons (dv 2) da_nil))) de_str) (de_callTy (cd_strT hr.gd hr.units) (by rfl) T.n_str (by decide +kernel) (da_cons (dv 3) da_nil))) de_str) (nomark _))))))))))
theorem ok_law_places_right (T : Txt w K mg base) : FnG P w K mg base (L2N.CX P w) 9 T.f_law_places_right T.fd_law_places_right ["_law_urn_here", "_law_stair", "_law_due"] (upF K (sp_law_places_right)) := by
  refine okD (k := 8) (t := fun Ed => t_law_places_right Ed) T.F_law_places_right sc_law_places_right (len_law_places_right) (fun cdv A outer s H E Ed hr => ?_) (pure_law_places_right)
  exact (db_cons (ds_set 3 sc_law_places_right.nd rfl (by first | exact .inl rfl | exact .inr rfl) (de_call (ok_law_row T) (hr.mono (by decide)) (by rfl) T.m_law_row T.F_law_row.kp T.b_law_row .nil (fun _ _ => rpL_nil) takesB (da_cons (de_ix (dv 2) de_int (fun _ _ => rfl)) (da_cons (de_ix (dv 2) de_int (fun _ _ => rfl)) (da_cons de_int da_nil)))))
  (db_cons (ds_for (vs := [4]) passB rfl (di_any (de_lst (da_cons de_int (da_cons de_int (da_cons (de_callB cd_len (by rfl) T.n_len (by decide +kernel) (da_cons (de_ix (dv 2) de_int (fun _ _ => rfl)) da_nil)) (da_cons (de_call (ok_law_draw T) (hr.mono (by decide)) (by rfl) T.m_law_draw T.F_law_draw.kp T.b_law_draw .nil (fun _ _ => rpL_nil) takesB (da_cons (dv 0) (da_cons de_int da_nil))) (da_cons (de_op od_add de_int (de_call (ok_law_draw T) (hr.mono (by decide)) (by rfl) T.m_law_draw T.F_law_draw.kp T.b_law_draw .nil (fun _ _ => rpL_nil) takesB (da_cons (dv 0) (da_cons de_int da_nil)))) (da_cons (de_call (ok_law_draw T) (hr.mono (by decide)) (by rfl) T.m_law_draw T.F_law_draw.kp T.b_law_draw .nil (fun _ _ => rpL_nil) takesB (da_cons (dv 0) (da_cons de_int da_nil))) da_nil)))))))) (dg_name (i := 4) sc_law_places_right.nd rfl (by first | exact Or.inl rfl | exact Or.inr rfl) (by decide))
  (db_cons (ds_set 5 sc_law_places_right.nd rfl (by first | exact .inl rfl | exact .inr rfl) (de_meth T.cl_Stair T.M_Stair_at (dv 1) (ok_Stair_at T) (hr.mono (by decide)) T.b_Stair_at .nil (fun _ _ => rpL_nil) takesB (da_cons (dv 4) da_nil)))
  (db_cons (ds_set 6 sc_law_places_right.nd rfl (by first | exact .inl rfl | exact .inr rfl) (de_ix (de_ix (dv 2) de_int (fun _ _ => rfl)) (de_op od_mod (de_op od_sub (dv 4) (de_callB cd_len (by rfl) T.n_len (by decide +kernel) (da_cons (de_ix (dv 2) de_int (fun _ _ => rfl)) da_nil))) (de_callB cd_len (by rfl) T.n_len (by decide +kernel) (da_cons (de_ix (dv 2) de_int (fun _ _ => rfl)) da_nil))) (fun _ _ => rfl)))
  (db_cons (ds_if (dt_cmp od_lt (dv 4) (de_callB cd_len (by rfl) T.n_len (by decide +kernel) (da_cons (de_ix (dv 2) de_int (fun _ _ => rfl)) da_nil)) (nomark _)) (db_one (ds_set 6 sc_law_places_right.nd rfl (by first | exact .inl rfl | exact .inr rfl) (de_ix (de_ix (dv 2) de_int (fun _ _ => rfl)) (dv 4) (fun _ _ => rfl)))) db_nil)
  (db_one (ds_if (DW.pt (dw_or (dt_not (dt_val (de_call (ok_law_whole T) (hr.mono (by decide)) (by rfl) T.m_law_whole T.F_law_whole.kp T.b_law_whole .nil (fun _ _ => rpL_nil) takesB (da_cons (dv 5) da_nil)))) (dw_or (dt_cmp (od_ne hr.units) (dv 5) (dv 6) (nomark _)) (dw_or1 (dt_cmp (od_ne hr.units) (de_methK T.cl_Stair T.M_Stair_at (dv 1) (ok_Stair_at T) (hr.mono (by decide)) T.ks_Stair_at_1_place takesB (dk_cons (dv 4) dk_nil)) (dv 5) (nomark _)))))) (db_one (ds_ret de_bl)) db_nil))))))
  (db_cons (ds_set 7 sc_law_places_right.nd rfl (by first | exact .inl rfl | exact .inr rfl) (de_call (ok_law_draw T) (hr.mono (by decide)) (by rfl) T.m_law_draw T.F_law_draw.kp T.b_law_draw .nil (fun _ _ => rpL_nil) takesB (da_cons (dv 0) (da_cons de_int da_nil))))
  (db_cons (ds_set 8 sc_law_places_right.nd rfl (by first | exact .inl rfl | exact .inr rfl) (de_lst (da_cons (de_meth T.cl_Stair T.M_Stair_behind (dv 1) (ok_Stair_behind T) (hr.mono (by decide)) T.b_Stair_behind .nil (fun _ _ => rpL_nil) takesB (da_cons (dv 7) da_nil)) (da_cons (de_methK T.cl_Stair T.M_Stair_behind (dv 1) (ok_Stair_behind T) (hr.mono (by decide)) T.ks_Stair_behind_1_many takesB (dk_cons (dv 7) dk_nil)) (da_cons (de_meth0 T.cl_Stair T.M_Stair_behind (dv 1) (ok_Stair_behind T) (hr.mono (by decide)) T.b1_Stair_behind T.v1_Stair_behind (fun _ _ => (rpL_cons rfl rpL_nil)) takesB) (da_cons (de_meth T.cl_Stair T.M_Stair_behind (dv 1) (ok_Stair_behind T) (hr.mono (by decide)) T.b_Stair_behind .nil (fun _ _ => rpL_nil) takesB (da_cons de_int da_nil)) da_nil))))))
  (db_cons (ds_for (vs := [9, 10]) passB rfl (di_zip (by rfl) T.n_zip (da_cons (dv 8) (da_cons (de_lst (da_cons (dv 7) (da_cons (dv 7) (da_cons de_int (da_cons de_int da_nil))))) da_nil))) (dg_tup rfl (dgs_cons (dg_name (i := 9) sc_law_places_right.nd rfl (by first | exact Or.inl rfl | exact Or.inr rfl) (by decide)) (dgs_cons (dg_name (i := 10) sc_law_places_right.nd rfl (by first | exact Or.inl rfl | exact Or.inr rfl) (by decide)) dgs_nil)))
  (db_cons (ds_set 11 sc_law_places_right.nd rfl (by first | exact .inl rfl | exact .inr rfl) (de_op od_mod (de_op od_sub (de_op od_add (dv 10) de_int) (de_callB cd_len (by rfl) T.n_len (by decide +kernel) (da_cons (de_ix (dv 2) de_int (fun _ _ => rfl)) da_nil))) (de_callB cd_len (by rfl) T.n_len (by decide +kernel) (da_cons (de_ix (dv 2) de_int (fun _ _ => rfl)) da_nil))))
  (db_cons (ds_set 6 sc_law_places_right.nd rfl (by first | exact .inl rfl | exact .inr rfl) (de_call (ok_law_fewest T) (hr.mono (by decide)) (by rfl) T.m_law_fewest T.F_law_fewest.kp T.b_law_fewest .nil (fun _ _ => rpL_nil) takesB (da_cons (de_callTy (cd_tupA rfl) (by rfl) T.n_tuple (by decide +kernel) (da_cons (de_slice (dv 3) (do_some (dv 10)) (do_some (de_op od_add (dv 10) de_int))) da_nil)) (da_cons (de_op od_add (de_slice (de_ix (dv 2) de_int (fun _ _ => rfl)) (do_some (dv 11)) do_none) (de_slice (de_ix (dv 2) de_int (fun _ _ => rfl)) do_none (do_some (dv 11)))) da_nil))))
  (db_one (ds_if (dt_not (dt_val (de_call (ok_law_shown_right T) (hr.mono (by decide)) (by rfl) T.m_law_shown_right T.F_law_shown_right.kp T.b_law_shown_right .nil (fun _ _ => rpL_nil) takesB (da_cons (dv 9) (da_cons (dv 6) da_nil))))) (db_one (ds_ret de_bl)) db_nil)))))
  (db_one (ds_ret de_bl)))))))
theorem ok_law (T : Txt w K mg base) : FnG P w K mg base (L2N.CX P w) 10 T.f_law T.fd_law ["_law_script"] (upF K spLawD) := by
  refine okD (k := 9) (t := fun Ed => t_law Ed) T.F_law sc_law (len_law) (fun cdv A outer s H E Ed hr => ?_) (pure_law)
  exact (db_cons (ds_for (vs := [1]) passB rfl (di_rng1 (by rfl) T.n_range (da_cons (de_callB (cd_max2 rfl) (by rfl) T.n_max (by decide +kernel) (da_cons de_int (da_cons (de_callB (cd_min2 rfl) (by rfl) T.n_min (by decide +kernel) (da_cons de_int (da_cons (de_callB cd_len (by rfl) T.n_len (by decide +kernel) (da_cons (dv 0) da_nil)) da_nil))) da_nil))) da_nil)) (dg_name (i := 1) sc_law.nd rfl (by first | exact Or.inl rfl | exact Or.inr rfl) (by decide))
  (db_cons (ds_set 2 sc_law.nd rfl (by first | exact .inl rfl | exact .inr rfl) (de_call (ok_law_urn T) (hr.mono (by decide)) (by rfl) T.m_law_urn T.F_law_urn.kp T.b_law_urn .nil (fun _ _ => rpL_nil) takesB (da_cons (dv 0) (da_cons (dv 1) da_nil))))
  (db_cons (ds_asg (vs := [3, 4]) (de_call (ok_law_drawn T) (hr.mono (by decide)) (by rfl) T.m_law_drawn T.F_law_drawn.kp T.b_law_drawn .nil (fun _ _ => rpL_nil) takesB (da_cons (dv 2) da_nil)) (dg_tup rfl (dgs_cons (dg_name (i := 3) sc_law.nd rfl (by first | exact Or.inl rfl | exact Or.inr rfl) (by decide)) (dgs_cons (dg_name (i := 4) sc_law.nd rfl (by first | exact Or.inl rfl | exact Or.inr rfl) (by decide)) dgs_nil))))
  (db_cons (ds_set 5 sc_law.nd rfl (by first | exact .inl rfl | exact .inr rfl) (de_lst (da_cons (de_tup (da_cons (dv 3) (da_cons (dv 4) da_nil))) (da_cons (de_call (ok_law_unrolled T) (hr.mono (by decide)) (by rfl) T.m_law_unrolled T.F_law_unrolled.kp T.b_law_unrolled .nil (fun _ _ => rpL_nil) takesB (da_cons (dv 2) (da_cons (dv 3) (da_cons (dv 4) da_nil)))) (da_cons (de_call (ok_law_drawn T) (hr.mono (by decide)) (by rfl) T.m_law_drawn T.F_law_drawn.kp T.b_law_drawn .nil (fun _ _ => rpL_nil) takesB (da_cons (dv 2) da_nil)) da_nil)))))
  (db_cons (ds_setLc (own := [("_law_one", 13), ("_law_other", 14)]) 6 rfl sc_law.nd rfl rfl (sw_true rfl rfl rfl (by decide +kernel)) (di_any (dv 5)) (blkOk_by (own := [("_law_one", 13), ("_law_other", 14)]) (N := N_law) (sc := defScope s_law) (by decide +kernel)) (fun _ _ _ _ _ => (dg_tup rfl (dgs_cons (dg_name (i := 13) sc_law.nd rfl (by first | exact Or.inl rfl | exact Or.inr rfl) (by decide)) (dgs_cons (dg_name (i := 14) sc_law.nd rfl (by first | exact Or.inl rfl | exact Or.inr rfl) (by decide)) dgs_nil)))) (fun _ _ _ _ _ => dts_nil) (fun _ _ _ _ _ => (de_make T.cl_Stair (ok_Stair___init__ T) (hr.mono (by decide)) (by rfl) T.gc_Stair T.b_Stair___init__ .nil (fun _ _ => rpL_nil) takes0N (da_cons (dv 13) (da_cons (dv 14) da_nil)))))
  (db_cons (ds_setLc (own := [("_law_one", 13), ("_law_other", 14)]) 7 rfl sc_law.nd rfl rfl (sw_true rfl rfl rfl (by decide +kernel)) (di_any (dv 5)) (blkOk_by (own := [("_law_one", 13), ("_law_other", 14)]) (N := N_law) (sc := defScope s_law) (by decide +kernel)) (fun _ _ _ _ _ => (dg_tup rfl (dgs_cons (dg_name (i := 13) sc_law.nd rfl (by first | exact Or.inl rfl | exact Or.inr rfl) (by decide)) (dgs_cons (dg_name (i := 14) sc_law.nd rfl (by first | exact Or.inl rfl | exact Or.inr rfl) (by decide)) dgs_nil)))) (fun _ _ _ _ _ => dts_nil) (fun _ _ _ _ _ => (de_call (ok_law_fewest T) (hr.mono (by decide)) (by rfl) T.m_law_fewest T.F_law_fewest.kp T.b_law_fewest .nil (fun _ _ => rpL_nil) takes0N (da_cons (dv 13) (da_cons (dv 14) da_nil)))))
  (db_one (ds_for (vs := [8]) passB rfl (di_rng1 (by rfl) T.n_range (da_cons de_int da_nil)) (dg_name (i := 8) sc_law.nd rfl (by first | exact Or.inl rfl | exact Or.inr rfl) (by decide))
  (db_one (ds_for (vs := [9, 10]) passB rfl (di_zip (by rfl) T.n_zip (da_cons (dv 6) (da_cons (dv 7) da_nil))) (dg_tup rfl (dgs_cons (dg_name (i := 9) sc_law.nd rfl (by first | exact Or.inl rfl | exact Or.inr rfl) (by decide)) (dgs_cons (dg_name (i := 10) sc_law.nd rfl (by first | exact Or.inl rfl | exact Or.inr rfl) (by decide)) dgs_nil)))
  (db_cons (ds_if (DW.pt (dw_or (dt_not (dt_val (de_call (ok_law_shown_right T) (hr.mono (by decide)) (by rfl) T.m_law_shown_right T.F_law_shown_right.kp T.b_law_shown_right .nil (fun _ _ => rpL_nil) takesB (da_cons (dv 9) (da_cons (dv 10) da_nil))))) (dw_or1 (dt_not (dt_val (de_call (ok_law_places_right T) (hr.mono (by decide)) (by rfl) T.m_law_places_right T.F_law_places_right.kp T.b_law_places_right .nil (fun _ _ => rpL_nil) takesB (da_cons (dv 2) (da_cons (dv 9) (da_cons (dv 10) da_nil))))))))) (db_one (ds_ret de_bl)) db_nil)
  (db_cons (ds_setLc (own := [("_law_other", 14)]) 11 rfl sc_law.nd rfl rfl (sw_true rfl rfl rfl (by decide +kernel)) (di_any (dv 7)) (blkOk_by (own := [("_law_other", 14)]) (N := N_law) (sc := defScope s_law) (by decide +kernel)) (fun _ _ _ _ _ => (dg_name (i := 14) sc_law.nd rfl (by first | exact Or.inl rfl | exact Or.inr rfl) (by decide))) (fun _ _ _ _ _ => dts_nil) (fun _ _ _ _ _ => (de_cmp (od_eq hr.units) (dv 10) (dv 14) (nomark _))))
  (db_cons (ds_if (DW.pt (dw_or (dt_cmp (od_ne hr.units) (de_lc (own := [("_law_other", 14)]) rfl sc_law.nd (di_any (dv 6)) (blkOk_by (own := [("_law_other", 14)]) (N := N_law) (sc := defScope s_law) (by decide +kernel)) (fun _ _ _ _ _ => (dg_name (i := 14) sc_law.nd rfl (by first | exact Or.inl rfl | exact Or.inr rfl) (by decide))) (fun _ _ _ _ _ => dts_nil) (fun _ _ _ _ _ => (de_cmp (od_eqI T.cl_Stair T.M_Stair___eq__ (ok_Stair___eq__ T) (hr.mono (by decide)) hr.units T.b_Stair___eq__ (fun σ => L2N.passAt takes0N σ)) (dv 9) (dv 14) (nomark _)))) (dv 11) (nomark _)) (dw_or1 (dt_cmp (od_eq hr.units) (de_lc (own := [("_law_other", 14)]) rfl sc_law.nd (di_any (dv 6)) (blkOk_by (own := [("_law_other", 14)]) (N := N_law) (sc := defScope s_law) (by decide +kernel)) (fun _ _ _ _ _ => (dg_name (i := 14) sc_law.nd rfl (by first | exact Or.inl rfl | exact Or.inr rfl) (by decide))) (fun _ _ _ _ _ => dts_nil) (fun _ _ _ _ _ => (de_cmp (od_neI T.cl_Stair T.M_Stair___eq__ T.ne_Stair (ok_Stair___eq__ T) (hr.mono (by decide)) hr.units T.b_Stair___eq__ (fun σ => L2N.passAt takes0N σ)) (dv 9) (dv 14) (nomark _)))) (dv 11) (nomark _))))) (db_one (ds_ret de_bl)) db_nil)
  (db_cons (ds_set 12 sc_law.nd rfl (by first | exact .inl rfl | exact .inr rfl) (de_lst (da_cons (dv 10) (da_cons (de_ix (dv 10) de_int (fun _ _ => rfl)) (da_cons (de_callTy (cd_strI hr.units T.cl_Stair T.M_Stair___str__ (ok_Stair___str__ T) (hr.mono (by decide)) T.b_Stair___str__ (fun σ => L2N.passAt takes0N σ)) (by rfl) T.n_str (by decide +kernel) (da_cons (dv 9) da_nil)) (da_cons de_non (da_cons (de_make T.cl_Ring (ok_Ring___init__ T) (hr.mono (by decide)) (by rfl) T.gc_Ring T.b_Ring___init__ .nil (fun _ _ => rpL_nil) takesB (da_cons (de_ix (dv 10) de_int (fun _ _ => rfl)) da_nil)) (da_cons (de_make T.cl_Root (ok_Root___init__ T) (hr.mono (by decide)) (by rfl) T.gc_Root T.b3_Root___init__ T.v3_Root___init__ (fun _ _ => (rpL_cons rfl (rpL_cons rfl (rpL_cons rfl rpL_nil)))) takesB (da_cons de_int da_nil)) (da_cons de_int da_nil)))))))))
  (db_one (ds_if (DW.pt (dw_or (dt_val (de_callB (cd_any rfl) (by rfl) T.n_any (by decide +kernel) (da_cons (de_lc (own := [("_law_thing", 15)]) rfl sc_law.nd (di_any (dv 12)) (blkOk_by (own := [("_law_thing", 15)]) (N := N_law) (sc := defScope s_law) (by decide +kernel)) (fun _ _ _ _ _ => (dg_name (i := 15) sc_law.nd rfl (by first | exact Or.inl rfl | exact Or.inr rfl) (by decide))) (fun _ _ _ _ _ => dts_nil) (fun _ _ _ _ _ => (de_cmp (od_eqX T.cl_Stair (oth_cons T.cl_Ring T.is_Ring T.oc_Stair_Ring (oth_cons T.cl_Root T.is_Root T.oc_Stair_Root oth_nil)) T.M_Stair___eq__ (ok_Stair___eq__ T) (hr.mono (by decide)) hr.units T.b_Stair___eq__ (fun σ => L2N.passAt takes0N σ)) (dv 9) (dv 15) (nomark _)))) da_nil))) (dw_or1 (dt_cmp (od_ne hr.units) (de_cmp (od_in2I T.cl_Stair T.M_Stair___eq__ (ok_Stair___eq__ T) (hr.mono (by decide)) hr.units T.b_Stair___eq__ (fun σ => L2N.passAt takes0N σ)) (dv 9) (de_slice (dv 6) (do_some de_int) do_none) (by with_unfolding_all rfl)) (de_cmp (od_inD (units65 hr)) de_bl (de_slice (dv 11) (do_some de_int) do_none) (by with_unfolding_all rfl)) (nomark _))))) (db_one (ds_ret de_bl)) db_nil))))))))))))))))
  (db_one (ds_ret de_bl)))
end
theorem all_mk {w : World} {K : PySem.W.Frag} {h : Heap} {mg : Str → Option Value} {fa : Addr} (X : K.In h) (G : h.Ns mainGlobals mg) (hfa : mg "law" = some (.ref fa))
    {f0 f1 f2 f3 f4 f5 f6 f7 f8 f9 f10 f11 f12 f13 f14 f15 f16 f17 f18 f19 f20 f21 f22 f23 f24 f25 f26 f27 f28 f29 f30 f31 f32 f33 f34 f35 f36 f37 : Addr} {od0 an0 od1 an1 od2 an2 od3 an3 od4 an4 od5 an5 od6 an6 od7 an7 od8 an8 od9 an9 od10 an10 od11 an11 od12 an12 od13 an13 od14 an14 od15 an15 od16 an16 od17 an17 od18 an18 od19 an19 od20 an20 od21 an21 od22 an22 od23 an23 od24 an24 od25 an25 od26 an26 od27 an27 od28 an28 od29 an29 od30 an30 od31 an31 od32 an32 od33 an33 od34 an34 od35 an35 od36 an36 od37 an37 : Option Addr} {sl0 sl1 sl2 sl3 sl4 sl5 sl6 sl7 sl8 sl9 sl10 sl11 sl12 sl13 sl14 sl15 sl16 sl17 sl18 sl19 sl20 sl21 sl22 sl23 sl24 sl25 sl26 sl27 sl28 sl29 sl30 sl31 sl32 sl33 sl34 sl35 sl36 sl37 : Array (Option Value)}
    {oc0 kV0 dc0 pm0 cd0 ct0 oc1 kV1 dc1 pm1 cd1 ct1 oc2 kV2 dc2 pm2 cd2 ct2 oc3 kV3 dc3 pm3 cd3 ct3 oc4 kV4 dc4 pm4 cd4 ct4 oc5 kV5 dc5 pm5 cd5 ct5 oc6 kV6 dc6 pm6 cd6 ct6 oc7 kV7 dc7 pm7 cd7 ct7 oc8 kV8 dc8 pm8 cd8 ct8 oc9 kV9 dc9 pm9 cd9 ct9 oc10 kV10 dc10 pm10 cd10 ct10 oc11 kV11 dc11 pm11 cd11 ct11 oc12 kV12 dc12 pm12 cd12 ct12 oc13 kV13 dc13 pm13 cd13 ct13 oc14 kV14 dc14 pm14 cd14 ct14 oc15 kV15 dc15 pm15 cd15 ct15 oc16 kV16 dc16 pm16 cd16 ct16 oc17 kV17 dc17 pm17 cd17 ct17 oc18 kV18 dc18 pm18 cd18 ct18 oc19 kV19 dc19 pm19 cd19 ct19 oc20 kV20 dc20 pm20 cd20 ct20 oc21 kV21 dc21 pm21 cd21 ct21 oc22 kV22 dc22 pm22 cd22 ct22 oc23 kV23 dc23 pm23 cd23 ct23 oc24 kV24 dc24 pm24 cd24 ct24 oc25 kV25 dc25 pm25 cd25 ct25 oc26 kV26 dc26 pm26 cd26 ct26 oc27 kV27 dc27 pm27 cd27 ct27 oc28 kV28 dc28 pm28 cd28 ct28 oc29 kV29 dc29 pm29 cd29 ct29 oc30 kV30 dc30 pm30 cd30 ct30 oc31 kV31 dc31 pm31 cd31 ct31 oc32 kV32 dc32 pm32 cd32 ct32 oc33 kV33 dc33 pm33 cd33 ct33 oc34 kV34 dc34 pm34 cd34 ct34 oc35 kV35 dc35 pm35 cd35 ct35 oc36 kV36 dc36 pm36 cd36 ct36 oc37 kV37 dc37 pm37 cd37 ct37 : Value}
    {dT26 dT36 : Addr} {doc26 doc36 : Value} {dod26 dod36 : Option Addr} {dn26 dn36 : Nat} {dsl26 dsl36 : Array (Option Value)} {dk26_0 dk26_1 dk26_2 dk36_0 : Tok}
    {tk_LEAST_SQUARE : Tok}
    {tk_LETTERS : Tok}
    {p_LOOKS : Addr} {es_LOOKS : Array DictEntry} {n_LOOKS : Nat}
    {tk_MOST_AHEAD : Tok}
    {tk_MOST_LETTERS : Tok}
    {tk_MOST_NUMBER : Tok}
    {tk_MOST_RING : Tok}
    {tk_PARTS_0 : Tok}
    {tk_PARTS_1 : Tok}
    {tk_PARTS_2 : Tok}
    {tk_PARTS_3 : Tok}
    {p_PARTS : Addr} {np_PARTS : Nat} {odp_PARTS : Option Addr} {slp_PARTS : Array (Option Value)}
    {C_Ring C_Root C_Stair : Addr}
    {C_NoNumber fI_NoNumber C_NoPlace fI_NoPlace : Addr} {xod_NoNumber xan_NoNumber xod_NoPlace xan_NoPlace : Option Addr} {xsl_NoNumber xsl_NoPlace : Array (Option Value)} {xoc_NoNumber xkV_NoNumber xdc_NoNumber xpm_NoNumber xcd_NoNumber xct_NoNumber xoc_NoPlace xkV_NoPlace xdc_NoPlace xpm_NoPlace xcd_NoPlace xct_NoPlace : Value}
    (vg_Ring : PySem.W.nsIn K mainGlobals "Ring" = some (some (.ref C_Ring)))
    (vg_Root : PySem.W.nsIn K mainGlobals "Root" = some (some (.ref C_Root)))
    (vg_Stair : PySem.W.nsIn K mainGlobals "Stair" = some (some (.ref C_Stair)))
    (vne_Stair : neB K C_Stair = true)
    (vis_Ring : isB K C_Ring = true)
    (vis_Root : isB K C_Root = true)
    (vis_Stair : isB K C_Stair = true)
    (voc_Stair_Ring : othB K C_Stair C_Ring = true)
    (voc_Stair_Root : othB K C_Stair C_Root = true)
    (a0 : PySem.W.nsIn K mainGlobals "is_whole" = some (some (.ref f0)))
    (l0 : K.lookup f0 = some ⟨oc0, od0, .func (PySem.W.fnOf "is_whole" "is_whole" (defArgs s_is_whole) (defBody s_is_whole) (defScope s_is_whole) .none kV0 dc0 pm0 an0 cd0 ct0), sl0⟩)
    (c0 : PySem.W.codeIn K cd0 "is_whole" = true)
    (k0 : PySem.W.keepIn K (.ref f0) = true)
    (a1 : PySem.W.nsIn K mainGlobals "shared_by" = some (some (.ref f1)))
    (l1 : K.lookup f1 = some ⟨oc1, od1, .func (PySem.W.fnOf "shared_by" "shared_by" (defArgs s_shared_by) (defBody s_shared_by) (defScope s_shared_by) .none kV1 dc1 pm1 an1 cd1 ct1), sl1⟩)
    (c1 : PySem.W.codeIn K cd1 "shared_by" = true)
    (k1 : PySem.W.keepIn K (.ref f1) = true)
    (a2 : PySem.W.nsIn K mainGlobals "side_of" = some (some (.ref f2)))
    (l2 : K.lookup f2 = some ⟨oc2, od2, .func (PySem.W.fnOf "side_of" "side_of" (defArgs s_side_of) (defBody s_side_of) (defScope s_side_of) .none kV2 dc2 pm2 an2 cd2 ct2), sl2⟩)
    (c2 : PySem.W.codeIn K cd2 "side_of" = true)
    (k2 : PySem.W.keepIn K (.ref f2) = true)
    (a3 : PySem.W.nsIn K mainGlobals "is_square" = some (some (.ref f3)))
    (l3 : K.lookup f3 = some ⟨oc3, od3, .func (PySem.W.fnOf "is_square" "is_square" (defArgs s_is_square) (defBody s_is_square) (defScope s_is_square) .none kV3 dc3 pm3 an3 cd3 ct3), sl3⟩)
    (c3 : PySem.W.codeIn K cd3 "is_square" = true)
    (k3 : PySem.W.keepIn K (.ref f3) = true)
    (a4 : PySem.W.nsIn K mainGlobals "is_under_root" = some (some (.ref f4)))
    (l4 : K.lookup f4 = some ⟨oc4, od4, .func (PySem.W.fnOf "is_under_root" "is_under_root" (defArgs s_is_under_root) (defBody s_is_under_root) (defScope s_is_under_root) .none kV4 dc4 pm4 an4 cd4 ct4), sl4⟩)
    (c4 : PySem.W.codeIn K cd4 "is_under_root" = true)
    (k4 : PySem.W.keepIn K (.ref f4) = true)
    (a5 : PySem.W.nsIn K mainGlobals "is_bottom" = some (some (.ref f5)))
    (l5 : K.lookup f5 = some ⟨oc5, od5, .func (PySem.W.fnOf "is_bottom" "is_bottom" (defArgs s_is_bottom) (defBody s_is_bottom) (defScope s_is_bottom) .none kV5 dc5 pm5 an5 cd5 ct5), sl5⟩)
    (c5 : PySem.W.codeIn K cd5 "is_bottom" = true)
    (k5 : PySem.W.keepIn K (.ref f5) = true)
    (a6 : PySem.W.nsIn K mainGlobals "look_parts" = some (some (.ref f6)))
    (l6 : K.lookup f6 = some ⟨oc6, od6, .func (PySem.W.fnOf "look_parts" "look_parts" (defArgs s_look_parts) (defBody s_look_parts) (defScope s_look_parts) .none kV6 dc6 pm6 an6 cd6 ct6), sl6⟩)
    (c6 : PySem.W.codeIn K cd6 "look_parts" = true)
    (k6 : PySem.W.keepIn K (.ref f6) = true)
    (a7 : PySem.W.nsIn K mainGlobals "is_within" = some (some (.ref f7)))
    (l7 : K.lookup f7 = some ⟨oc7, od7, .func (PySem.W.fnOf "is_within" "is_within" (defArgs s_is_within) (defBody s_is_within) (defScope s_is_within) .none kV7 dc7 pm7 an7 cd7 ct7), sl7⟩)
    (c7 : PySem.W.codeIn K cd7 "is_within" = true)
    (k7 : PySem.W.keepIn K (.ref f7) = true)
    (a8 : PySem.W.nsIn K mainGlobals "is_row" = some (some (.ref f8)))
    (l8 : K.lookup f8 = some ⟨oc8, od8, .func (PySem.W.fnOf "is_row" "is_row" (defArgs s_is_row) (defBody s_is_row) (defScope s_is_row) .none kV8 dc8 pm8 an8 cd8 ct8), sl8⟩)
    (c8 : PySem.W.codeIn K cd8 "is_row" = true)
    (k8 : PySem.W.keepIn K (.ref f8) = true)
    (a9 : PySem.W.nsIn K mainGlobals "is_number_ring" = some (some (.ref f9)))
    (l9 : K.lookup f9 = some ⟨oc9, od9, .func (PySem.W.fnOf "is_number_ring" "is_number_ring" (defArgs s_is_number_ring) (defBody s_is_number_ring) (defScope s_is_number_ring) .none kV9 dc9 pm9 an9 cd9 ct9), sl9⟩)
    (c9 : PySem.W.codeIn K cd9 "is_number_ring" = true)
    (k9 : PySem.W.keepIn K (.ref f9) = true)
    (a10 : PySem.W.nsIn K mainGlobals "is_ahead" = some (some (.ref f10)))
    (l10 : K.lookup f10 = some ⟨oc10, od10, .func (PySem.W.fnOf "is_ahead" "is_ahead" (defArgs s_is_ahead) (defBody s_is_ahead) (defScope s_is_ahead) .none kV10 dc10 pm10 an10 cd10 ct10), sl10⟩)
    (c10 : PySem.W.codeIn K cd10 "is_ahead" = true)
    (k10 : PySem.W.keepIn K (.ref f10) = true)
    (a11 : PySem.W.nsIn K mainGlobals "shortest_part" = some (some (.ref f11)))
    (l11 : K.lookup f11 = some ⟨oc11, od11, .func (PySem.W.fnOf "shortest_part" "shortest_part" (defArgs s_shortest_part) (defBody s_shortest_part) (defScope s_shortest_part) .none kV11 dc11 pm11 an11 cd11 ct11), sl11⟩)
    (c11 : PySem.W.codeIn K cd11 "shortest_part" = true)
    (k11 : PySem.W.keepIn K (.ref f11) = true)
    (a12 : PySem.W.nsIn K mainGlobals "told_stair" = some (some (.ref f12)))
    (l12 : K.lookup f12 = some ⟨oc12, od12, .func (PySem.W.fnOf "told_stair" "told_stair" (defArgs s_told_stair) (defBody s_told_stair) (defScope s_told_stair) .none kV12 dc12 pm12 an12 cd12 ct12), sl12⟩)
    (c12 : PySem.W.codeIn K cd12 "told_stair" = true)
    (k12 : PySem.W.keepIn K (.ref f12) = true)
    (a13 : PySem.W.nsIn K mainGlobals "is_word" = some (some (.ref f13)))
    (l13 : K.lookup f13 = some ⟨oc13, od13, .func (PySem.W.fnOf "is_word" "is_word" (defArgs s_is_word) (defBody s_is_word) (defScope s_is_word) .none kV13 dc13 pm13 an13 cd13 ct13), sl13⟩)
    (c13 : PySem.W.codeIn K cd13 "is_word" = true)
    (k13 : PySem.W.keepIn K (.ref f13) = true)
    (a14 : PySem.W.nsIn K mainGlobals "_law_urn" = some (some (.ref f14)))
    (l14 : K.lookup f14 = some ⟨oc14, od14, .func (PySem.W.fnOf "_law_urn" "_law_urn" (defArgs s_law_urn) (defBody s_law_urn) (defScope s_law_urn) .none kV14 dc14 pm14 an14 cd14 ct14), sl14⟩)
    (c14 : PySem.W.codeIn K cd14 "_law_urn" = true)
    (k14 : PySem.W.keepIn K (.ref f14) = true)
    (a15 : PySem.W.nsIn K mainGlobals "_law_draw" = some (some (.ref f15)))
    (l15 : K.lookup f15 = some ⟨oc15, od15, .func (PySem.W.fnOf "_law_draw" "_law_draw" (defArgs s_law_draw) (defBody s_law_draw) (defScope s_law_draw) .none kV15 dc15 pm15 an15 cd15 ct15), sl15⟩)
    (c15 : PySem.W.codeIn K cd15 "_law_draw" = true)
    (k15 : PySem.W.keepIn K (.ref f15) = true)
    (a16 : PySem.W.nsIn K mainGlobals "_law_whole" = some (some (.ref f16)))
    (l16 : K.lookup f16 = some ⟨oc16, od16, .func (PySem.W.fnOf "_law_whole" "_law_whole" (defArgs s_law_whole) (defBody s_law_whole) (defScope s_law_whole) .none kV16 dc16 pm16 an16 cd16 ct16), sl16⟩)
    (c16 : PySem.W.codeIn K cd16 "_law_whole" = true)
    (k16 : PySem.W.keepIn K (.ref f16) = true)
    (a17 : PySem.W.nsIn K mainGlobals "_law_ring" = some (some (.ref f17)))
    (l17 : K.lookup f17 = some ⟨oc17, od17, .func (PySem.W.fnOf "_law_ring" "_law_ring" (defArgs s_law_ring) (defBody s_law_ring) (defScope s_law_ring) .none kV17 dc17 pm17 an17 cd17 ct17), sl17⟩)
    (c17 : PySem.W.codeIn K cd17 "_law_ring" = true)
    (k17 : PySem.W.keepIn K (.ref f17) = true)
    (a18 : PySem.W.nsIn K mainGlobals "_law_ahead" = some (some (.ref f18)))
    (l18 : K.lookup f18 = some ⟨oc18, od18, .func (PySem.W.fnOf "_law_ahead" "_law_ahead" (defArgs s_law_ahead) (defBody s_law_ahead) (defScope s_law_ahead) .none kV18 dc18 pm18 an18 cd18 ct18), sl18⟩)
    (c18 : PySem.W.codeIn K cd18 "_law_ahead" = true)
    (k18 : PySem.W.keepIn K (.ref f18) = true)
    (a19 : PySem.W.nsIn K mainGlobals "_law_drawn" = some (some (.ref f19)))
    (l19 : K.lookup f19 = some ⟨oc19, od19, .func (PySem.W.fnOf "_law_drawn" "_law_drawn" (defArgs s_law_drawn) (defBody s_law_drawn) (defScope s_law_drawn) .none kV19 dc19 pm19 an19 cd19 ct19), sl19⟩)
    (c19 : PySem.W.codeIn K cd19 "_law_drawn" = true)
    (k19 : PySem.W.keepIn K (.ref f19) = true)
    (a20 : PySem.W.nsIn K mainGlobals "_law_unrolled" = some (some (.ref f20)))
    (l20 : K.lookup f20 = some ⟨oc20, od20, .func (PySem.W.fnOf "_law_unrolled" "_law_unrolled" (defArgs s_law_unrolled) (defBody s_law_unrolled) (defScope s_law_unrolled) .none kV20 dc20 pm20 an20 cd20 ct20), sl20⟩)
    (c20 : PySem.W.codeIn K cd20 "_law_unrolled" = true)
    (k20 : PySem.W.keepIn K (.ref f20) = true)
    (a21 : PySem.W.nsIn K mainGlobals "_law_row" = some (some (.ref f21)))
    (l21 : K.lookup f21 = some ⟨oc21, od21, .func (PySem.W.fnOf "_law_row" "_law_row" (defArgs s_law_row) (defBody s_law_row) (defScope s_law_row) .none kV21 dc21 pm21 an21 cd21 ct21), sl21⟩)
    (c21 : PySem.W.codeIn K cd21 "_law_row" = true)
    (k21 : PySem.W.keepIn K (.ref f21) = true)
    (a22 : PySem.W.nsIn K mainGlobals "_law_fewest" = some (some (.ref f22)))
    (l22 : K.lookup f22 = some ⟨oc22, od22, .func (PySem.W.fnOf "_law_fewest" "_law_fewest" (defArgs s_law_fewest) (defBody s_law_fewest) (defScope s_law_fewest) .none kV22 dc22 pm22 an22 cd22 ct22), sl22⟩)
    (c22 : PySem.W.codeIn K cd22 "_law_fewest" = true)
    (k22 : PySem.W.keepIn K (.ref f22) = true)
    (a23 : PySem.W.nsIn K mainGlobals "_law_shown_right" = some (some (.ref f23)))
    (l23 : K.lookup f23 = some ⟨oc23, od23, .func (PySem.W.fnOf "_law_shown_right" "_law_shown_right" (defArgs s_law_shown_right) (defBody s_law_shown_right) (defScope s_law_shown_right) .none kV23 dc23 pm23 an23 cd23 ct23), sl23⟩)
    (c23 : PySem.W.codeIn K cd23 "_law_shown_right" = true)
    (k23 : PySem.W.keepIn K (.ref f23) = true)
    (a24 : PySem.W.nsIn K mainGlobals "_law_places_right" = some (some (.ref f24)))
    (l24 : K.lookup f24 = some ⟨oc24, od24, .func (PySem.W.fnOf "_law_places_right" "_law_places_right" (defArgs s_law_places_right) (defBody s_law_places_right) (defScope s_law_places_right) .none kV24 dc24 pm24 an24 cd24 ct24), sl24⟩)
    (c24 : PySem.W.codeIn K cd24 "_law_places_right" = true)
    (k24 : PySem.W.keepIn K (.ref f24) = true)
    (a25 : PySem.W.nsIn K mainGlobals "law" = some (some (.ref f25)))
    (l25 : K.lookup f25 = some ⟨oc25, od25, .func (PySem.W.fnOf "law" "law" (defArgs s_law) (defBody s_law) (defScope s_law) .none kV25 dc25 pm25 an25 cd25 ct25), sl25⟩)
    (c25 : PySem.W.codeIn K cd25 "law" = true)
    (k25 : PySem.W.keepIn K (.ref f25) = true)
    (a26 : PySem.W.findIn K (.ref C_Root) "__init__" = some (some (.ref f26)))
    (l26 : K.lookup f26 = some ⟨oc26, od26, .func (PySem.W.fnOf "__init__" "Root.__init__" (defArgs s_Root___init__) (defBody s_Root___init__) (defScope s_Root___init__) (.ref dT26) kV26 dc26 pm26 an26 cd26 ct26), sl26⟩)
    (dt26 : K.lookup dT26 = some ⟨doc26, dod26, .seq #[.int 0 dk26_0, .int 2 dk26_1, .int 1 dk26_2] dn26, dsl26⟩)
    (c26 : PySem.W.codeIn K cd26 "Root.__init__" = true)
    (k26 : PySem.W.keepIn K (.ref f26) = true)
    (vc_Root : clB K "Root" C_Root f26 = true)
    (vn_Root : noAttrB K C_Root ["held"] = true)
    (a27 : PySem.W.findIn K (.ref C_Stair) "keep_rows" = some (some (.ref f27)))
    (l27 : K.lookup f27 = some ⟨oc27, od27, .func (PySem.W.fnOf "keep_rows" "Stair.keep_rows" (defArgs s_Stair_keep_rows) (defBody s_Stair_keep_rows) (defScope s_Stair_keep_rows) .none kV27 dc27 pm27 an27 cd27 ct27), sl27⟩)
    (c27 : PySem.W.codeIn K cd27 "Stair.keep_rows" = true)
    (k27 : PySem.W.keepIn K (.ref f27) = true)
    (vm27 : methB K C_Stair "keep_rows" f27 = true)
    (a28 : PySem.W.findIn K (.ref C_Stair) "__init__" = some (some (.ref f28)))
    (l28 : K.lookup f28 = some ⟨oc28, od28, .func (PySem.W.fnOf "__init__" "Stair.__init__" (defArgs s_Stair___init__) (defBody s_Stair___init__) (defScope s_Stair___init__) .none kV28 dc28 pm28 an28 cd28 ct28), sl28⟩)
    (c28 : PySem.W.codeIn K cd28 "Stair.__init__" = true)
    (k28 : PySem.W.keepIn K (.ref f28) = true)
    (vc_Stair : clB K "Stair" C_Stair f28 = true)
    (vn_Stair : noAttrB K C_Stair ["held_ahead", "held_ring", "__bool__"] = true)
    (a29 : PySem.W.findIn K (.ref C_Stair) "ahead" = some (some (.ref f29)))
    (l29 : K.lookup f29 = some ⟨oc29, od29, .func (PySem.W.fnOf "ahead" "Stair.ahead" (defArgs s_Stair_ahead) (defBody s_Stair_ahead) (defScope s_Stair_ahead) .none kV29 dc29 pm29 an29 cd29 ct29), sl29⟩)
    (c29 : PySem.W.codeIn K cd29 "Stair.ahead" = true)
    (k29 : PySem.W.keepIn K (.ref f29) = true)
    (vm29 : methB K C_Stair "ahead" f29 = true)
    (a30 : PySem.W.findIn K (.ref C_Stair) "ring" = some (some (.ref f30)))
    (l30 : K.lookup f30 = some ⟨oc30, od30, .func (PySem.W.fnOf "ring" "Stair.ring" (defArgs s_Stair_ring) (defBody s_Stair_ring) (defScope s_Stair_ring) .none kV30 dc30 pm30 an30 cd30 ct30), sl30⟩)
    (c30 : PySem.W.codeIn K cd30 "Stair.ring" = true)
    (k30 : PySem.W.keepIn K (.ref f30) = true)
    (vm30 : methB K C_Stair "ring" f30 = true)
    (a31 : PySem.W.findIn K (.ref C_Stair) "__eq__" = some (some (.ref f31)))
    (l31 : K.lookup f31 = some ⟨oc31, od31, .func (PySem.W.fnOf "__eq__" "Stair.__eq__" (defArgs s_Stair___eq__) (defBody s_Stair___eq__) (defScope s_Stair___eq__) .none kV31 dc31 pm31 an31 cd31 ct31), sl31⟩)
    (c31 : PySem.W.codeIn K cd31 "Stair.__eq__" = true)
    (k31 : PySem.W.keepIn K (.ref f31) = true)
    (vm31 : methB K C_Stair "__eq__" f31 = true)
    (a32 : PySem.W.findIn K (.ref C_Stair) "__len__" = some (some (.ref f32)))
    (l32 : K.lookup f32 = some ⟨oc32, od32, .func (PySem.W.fnOf "__len__" "Stair.__len__" (defArgs s_Stair___len__) (defBody s_Stair___len__) (defScope s_Stair___len__) .none kV32 dc32 pm32 an32 cd32 ct32), sl32⟩)
    (c32 : PySem.W.codeIn K cd32 "Stair.__len__" = true)
    (k32 : PySem.W.keepIn K (.ref f32) = true)
    (vm32 : methB K C_Stair "__len__" f32 = true)
    (a33 : PySem.W.findIn K (.ref C_Stair) "__str__" = some (some (.ref f33)))
    (l33 : K.lookup f33 = some ⟨oc33, od33, .func (PySem.W.fnOf "__str__" "Stair.__str__" (defArgs s_Stair___str__) (defBody s_Stair___str__) (defScope s_Stair___str__) .none kV33 dc33 pm33 an33 cd33 ct33), sl33⟩)
    (c33 : PySem.W.codeIn K cd33 "Stair.__str__" = true)
    (k33 : PySem.W.keepIn K (.ref f33) = true)
    (vm33 : methB K C_Stair "__str__" f33 = true)
    (a34 : PySem.W.findIn K (.ref C_Stair) "__repr__" = some (some (.ref f34)))
    (l34 : K.lookup f34 = some ⟨oc34, od34, .func (PySem.W.fnOf "__repr__" "Stair.__repr__" (defArgs s_Stair___repr__) (defBody s_Stair___repr__) (defScope s_Stair___repr__) .none kV34 dc34 pm34 an34 cd34 ct34), sl34⟩)
    (c34 : PySem.W.codeIn K cd34 "Stair.__repr__" = true)
    (k34 : PySem.W.keepIn K (.ref f34) = true)
    (vm34 : methB K C_Stair "__repr__" f34 = true)
    (a35 : PySem.W.findIn K (.ref C_Stair) "at" = some (some (.ref f35)))
    (l35 : K.lookup f35 = some ⟨oc35, od35, .func (PySem.W.fnOf "at" "Stair.at" (defArgs s_Stair_at) (defBody s_Stair_at) (defScope s_Stair_at) .none kV35 dc35 pm35 an35 cd35 ct35), sl35⟩)
    (c35 : PySem.W.codeIn K cd35 "Stair.at" = true)
    (k35 : PySem.W.keepIn K (.ref f35) = true)
    (vm35 : methB K C_Stair "at" f35 = true)
    (a36 : PySem.W.findIn K (.ref C_Stair) "behind" = some (some (.ref f36)))
    (l36 : K.lookup f36 = some ⟨oc36, od36, .func (PySem.W.fnOf "behind" "Stair.behind" (defArgs s_Stair_behind) (defBody s_Stair_behind) (defScope s_Stair_behind) (.ref dT36) kV36 dc36 pm36 an36 cd36 ct36), sl36⟩)
    (dt36 : K.lookup dT36 = some ⟨doc36, dod36, .seq #[.int 1 dk36_0] dn36, dsl36⟩)
    (c36 : PySem.W.codeIn K cd36 "Stair.behind" = true)
    (k36 : PySem.W.keepIn K (.ref f36) = true)
    (vm36 : methB K C_Stair "behind" f36 = true)
    (a37 : PySem.W.findIn K (.ref C_Ring) "__init__" = some (some (.ref f37)))
    (l37 : K.lookup f37 = some ⟨oc37, od37, .func (PySem.W.fnOf "__init__" "Ring.__init__" (defArgs s_Ring___init__) (defBody s_Ring___init__) (defScope s_Ring___init__) .none kV37 dc37 pm37 an37 cd37 ct37), sl37⟩)
    (c37 : PySem.W.codeIn K cd37 "Ring.__init__" = true)
    (k37 : PySem.W.keepIn K (.ref f37) = true)
    (vc_Ring : clB K "Ring" C_Ring f37 = true)
    (vn_Ring : noAttrB K C_Ring ["held"] = true)
    (xg_NoNumber : PySem.W.nsIn K mainGlobals "NoNumber" = some (some (.ref C_NoNumber)))
    (xi_NoNumber : PySem.W.findIn K (.ref C_NoNumber) "__init__" = some (some (.ref fI_NoNumber)))
    (xl_NoNumber : K.lookup fI_NoNumber = some ⟨xoc_NoNumber, xod_NoNumber, .func (PySem.W.fnOf "__init__" "NoNumber.__init__" (defArgs sI_NoNumber) (defBody sI_NoNumber) (defScope sI_NoNumber) .none xkV_NoNumber xdc_NoNumber xpm_NoNumber xan_NoNumber xcd_NoNumber xct_NoNumber), xsl_NoNumber⟩)
    (xc_NoNumber : PySem.W.codeIn K xcd_NoNumber "NoNumber.__init__" = true)
    (xk_NoNumber : PySem.W.keepIn K (.ref fI_NoNumber) = true)
    (xf_NoNumber : fxB K "NoNumber" [.type "ArithmeticError", .type "Exception", .type "BaseException", .type "object"] "ArithmeticError.__new__" C_NoNumber fI_NoNumber ["part"] = true)
    (xg_NoPlace : PySem.W.nsIn K mainGlobals "NoPlace" = some (some (.ref C_NoPlace)))
    (xi_NoPlace : PySem.W.findIn K (.ref C_NoPlace) "__init__" = some (some (.ref fI_NoPlace)))
    (xl_NoPlace : K.lookup fI_NoPlace = some ⟨xoc_NoPlace, xod_NoPlace, .func (PySem.W.fnOf "__init__" "NoPlace.__init__" (defArgs sI_NoPlace) (defBody sI_NoPlace) (defScope sI_NoPlace) .none xkV_NoPlace xdc_NoPlace xpm_NoPlace xan_NoPlace xcd_NoPlace xct_NoPlace), xsl_NoPlace⟩)
    (xc_NoPlace : PySem.W.codeIn K xcd_NoPlace "NoPlace.__init__" = true)
    (xk_NoPlace : PySem.W.keepIn K (.ref fI_NoPlace) = true)
    (xf_NoPlace : fxB K "NoPlace" [.type "IndexError", .type "LookupError", .type "Exception", .type "BaseException", .type "object"] "IndexError.__new__" C_NoPlace fI_NoPlace ["place", "many"] = true)
    (rs_NoRing : rsB K "NoRing" [.type "ValueError", .type "Exception", .type "BaseException", .type "object"] "ValueError.__new__" = true)
    (rs_NoStair : rsB K "NoStair" [.type "ValueError", .type "Exception", .type "BaseException", .type "object"] "ValueError.__new__" = true)
    (g_LEAST_SQUARE : PySem.W.nsIn K mainGlobals "LEAST_SQUARE" = some (some (.int 2 tk_LEAST_SQUARE)))
    (g_LETTERS : PySem.W.nsIn K mainGlobals "LETTERS" = some (some (.str "ab" tk_LETTERS)))
    (g_LOOKS : PySem.W.nsIn K mainGlobals "LOOKS" = some (some (.ref p_LOOKS)))
    (l_LOOKS : K.lookup p_LOOKS = some ⟨.type "dict", none, .dict es_LOOKS n_LOOKS, #[]⟩)
    (y_LOOKS : PySem.W.KeysLit w.params es_LOOKS.toList)
    (e0_LOOKS : PySem.W.nsIn K p_LOOKS "top" = some (some (.ref f0)))
    (e1_LOOKS : PySem.W.nsIn K p_LOOKS "often" = some (some (.ref f0)))
    (e2_LOOKS : PySem.W.nsIn K p_LOOKS "square" = some (some (.ref f4)))
    (e3_LOOKS : PySem.W.nsIn K p_LOOKS "bottom" = some (some (.ref f5)))
    (g_MOST_AHEAD : PySem.W.nsIn K mainGlobals "MOST_AHEAD" = some (some (.int 20 tk_MOST_AHEAD)))
    (g_MOST_LETTERS : PySem.W.nsIn K mainGlobals "MOST_LETTERS" = some (some (.int 60 tk_MOST_LETTERS)))
    (g_MOST_NUMBER : PySem.W.nsIn K mainGlobals "MOST_NUMBER" = some (some (.int 999999 tk_MOST_NUMBER)))
    (g_MOST_RING : PySem.W.nsIn K mainGlobals "MOST_RING" = some (some (.int 40 tk_MOST_RING)))
    (g_PARTS : PySem.W.nsIn K mainGlobals "PARTS" = some (some (.ref p_PARTS)))
    (lp_PARTS : K.lookup p_PARTS = some ⟨.type "tuple", odp_PARTS, .seq #[.str "top" tk_PARTS_0, .str "often" tk_PARTS_1, .str "square" tk_PARTS_2, .str "bottom" tk_PARTS_3] np_PARTS, slp_PARTS⟩)
    (z_abs : PySem.W.nsIn K mainGlobals "abs" = some none)
    (z_all : PySem.W.nsIn K mainGlobals "all" = some none)
    (z_any : PySem.W.nsIn K mainGlobals "any" = some none)
    (z_bool : PySem.W.nsIn K mainGlobals "bool" = some none)
    (z_int : PySem.W.nsIn K mainGlobals "int" = some none)
    (z_isinstance : PySem.W.nsIn K mainGlobals "isinstance" = some none)
    (z_len : PySem.W.nsIn K mainGlobals "len" = some none)
    (z_list : PySem.W.nsIn K mainGlobals "list" = some none)
    (z_max : PySem.W.nsIn K mainGlobals "max" = some none)
    (z_min : PySem.W.nsIn K mainGlobals "min" = some none)
    (z_range : PySem.W.nsIn K mainGlobals "range" = some none)
    (z_repr : PySem.W.nsIn K mainGlobals "repr" = some none)
    (z_str : PySem.W.nsIn K mainGlobals "str" = some none)
    (z_tuple : PySem.W.nsIn K mainGlobals "tuple" = some none)
    (z_zip : PySem.W.nsIn K mainGlobals "zip" = some none)
    : LawG PySem.Challenge.rw_nearthrees_k06_stairs_by_the_fewest w K (L2N.CX PySem.Challenge.rw_nearthrees_k06_stairs_by_the_fewest.prog w) 10 63 "_law_script" mg fa h := by
  have e := hfa.symm.trans (PySem.W.mg_of X G a25)
  cases e
  have F0 := fun_mk (st := s_is_whole) l0 c0 k0
  have b0 := F0.binds (ps := ["thing"]) fun _ _ _ _ _ _ us hl => match us, hl with | [_], _ => rfl
  have F1 := fun_mk (st := s_shared_by) l1 c1 k1
  have b1 := F1.binds (ps := ["one", "other"]) fun _ _ _ _ _ _ us hl => match us, hl with | [_, _], _ => rfl
  have F2 := fun_mk (st := s_side_of) l2 c2 k2
  have b2 := F2.binds (ps := ["square"]) fun _ _ _ _ _ _ us hl => match us, hl with | [_], _ => rfl
  have F3 := fun_mk (st := s_is_square) l3 c3 k3
  have b3 := F3.binds (ps := ["number"]) fun _ _ _ _ _ _ us hl => match us, hl with | [_], _ => rfl
  have F4 := fun_mk (st := s_is_under_root) l4 c4 k4
  have b4 := F4.binds (ps := ["thing"]) fun _ _ _ _ _ _ us hl => match us, hl with | [_], _ => rfl
  have F5 := fun_mk (st := s_is_bottom) l5 c5 k5
  have b5 := F5.binds (ps := ["thing"]) fun _ _ _ _ _ _ us hl => match us, hl with | [_], _ => rfl
  have F6 := fun_mk (st := s_look_parts) l6 c6 k6
  have b6 := F6.binds (ps := ["parts"]) fun _ _ _ _ _ _ us hl => match us, hl with | [_], _ => rfl
  have F7 := fun_mk (st := s_is_within) l7 c7 k7
  have b7 := F7.binds (ps := ["thing", "least", "most"]) fun _ _ _ _ _ _ us hl => match us, hl with | [_, _, _], _ => rfl
  have F8 := fun_mk (st := s_is_row) l8 c8 k8
  have b8 := F8.binds (ps := ["thing", "least", "most"]) fun _ _ _ _ _ _ us hl => match us, hl with | [_, _, _], _ => rfl
  have F9 := fun_mk (st := s_is_number_ring) l9 c9 k9
  have b9 := F9.binds (ps := ["thing"]) fun _ _ _ _ _ _ us hl => match us, hl with | [_], _ => rfl
  have F10 := fun_mk (st := s_is_ahead) l10 c10 k10
  have b10 := F10.binds (ps := ["thing"]) fun _ _ _ _ _ _ us hl => match us, hl with | [_], _ => rfl
  have F11 := fun_mk (st := s_shortest_part) l11 c11 k11
  have b11 := F11.binds (ps := ["parts"]) fun _ _ _ _ _ _ us hl => match us, hl with | [_], _ => rfl
  have F12 := fun_mk (st := s_told_stair) l12 c12 k12
  have b12 := F12.binds (ps := ["ahead", "ring"]) fun _ _ _ _ _ _ us hl => match us, hl with | [_, _], _ => rfl
  have F13 := fun_mk (st := s_is_word) l13 c13 k13
  have b13 := F13.binds (ps := ["thing"]) fun _ _ _ _ _ _ us hl => match us, hl with | [_], _ => rfl
  have F14 := fun_mk (st := s_law_urn) l14 c14 k14
  have b14 := F14.binds (ps := ["_law_script", "_law_at"]) fun _ _ _ _ _ _ us hl => match us, hl with | [_, _], _ => rfl
  have F15 := fun_mk (st := s_law_draw) l15 c15 k15
  have b15 := F15.binds (ps := ["_law_urn_here", "_law_wide"]) fun _ _ _ _ _ _ us hl => match us, hl with | [_, _], _ => rfl
  have F16 := fun_mk (st := s_law_whole) l16 c16 k16
  have b16 := F16.binds (ps := ["_law_thing"]) fun _ _ _ _ _ _ us hl => match us, hl with | [_], _ => rfl
  have F17 := fun_mk (st := s_law_ring) l17 c17 k17
  have b17 := F17.binds (ps := ["_law_urn_here", "_law_most"]) fun _ _ _ _ _ _ us hl => match us, hl with | [_, _], _ => rfl
  have F18 := fun_mk (st := s_law_ahead) l18 c18 k18
  have b18 := F18.binds (ps := ["_law_urn_here", "_law_ring_here"]) fun _ _ _ _ _ _ us hl => match us, hl with | [_, _], _ => rfl
  have F19 := fun_mk (st := s_law_drawn) l19 c19 k19
  have b19 := F19.binds (ps := ["_law_urn_here"]) fun _ _ _ _ _ _ us hl => match us, hl with | [_], _ => rfl
  have F20 := fun_mk (st := s_law_unrolled) l20 c20 k20
  have b20 := F20.binds (ps := ["_law_urn_here", "_law_ahead_here", "_law_ring_here"]) fun _ _ _ _ _ _ us hl => match us, hl with | [_, _, _], _ => rfl
  have F21 := fun_mk (st := s_law_row) l21 c21 k21
  have b21 := F21.binds (ps := ["_law_ahead_here", "_law_ring_here", "_law_amount"]) fun _ _ _ _ _ _ us hl => match us, hl with | [_, _, _], _ => rfl
  have F22 := fun_mk (st := s_law_fewest) l22 c22 k22
  have b22 := F22.binds (ps := ["_law_ahead_here", "_law_ring_here"]) fun _ _ _ _ _ _ us hl => match us, hl with | [_, _], _ => rfl
  have F23 := fun_mk (st := s_law_shown_right) l23 c23 k23
  have b23 := F23.binds (ps := ["_law_stair", "_law_due"]) fun _ _ _ _ _ _ us hl => match us, hl with | [_, _], _ => rfl
  have F24 := fun_mk (st := s_law_places_right) l24 c24 k24
  have b24 := F24.binds (ps := ["_law_urn_here", "_law_stair", "_law_due"]) fun _ _ _ _ _ _ us hl => match us, hl with | [_, _, _], _ => rfl
  have F25 := fun_mk (st := s_law) l25 c25 k25
  have b25 := F25.binds (ps := ["_law_script"]) fun _ _ _ _ _ _ us hl => match us, hl with | [_], _ => rfl
  have F26 := Hx.funV_mk (st := s_Root___init__) l26 c26 k26 dt26
  have b26 : Binds K (PySem.W.fnOf "__init__" "Root.__init__" (defArgs s_Root___init__) (defBody s_Root___init__) (defScope s_Root___init__) (.ref dT26) kV26 dc26 pm26 an26 cd26 ct26) ["self", "top", "often", "square", "bottom"] [] := fun s us X hl => F26.to X (match us, (by simp only [List.length_append, List.length_cons, List.length_nil] at hl; omega : us.length = 5) with | [_, _, _, _, _], _ => ⟨_, rfl, rfl⟩)
  have b3_26 : Binds K (PySem.W.fnOf "__init__" "Root.__init__" (defArgs s_Root___init__) (defBody s_Root___init__) (defScope s_Root___init__) (.ref dT26) kV26 dc26 pm26 an26 cd26 ct26) ["self", "top", "often", "square", "bottom"] [.int 0 dk26_0, .int 2 dk26_1, .int 1 dk26_2] := fun s us X hl => F26.to X (match us, (by simp only [List.length_append, List.length_cons, List.length_nil] at hl; omega : us.length = 2) with | [_, _], _ => ⟨_, rfl, rfl⟩)
  have F27 := fun_mk (st := s_Stair_keep_rows) l27 c27 k27
  have b27 := F27.binds (ps := ["self", "ahead", "ring"]) fun _ _ _ _ _ _ us hl => match us, hl with | [_, _, _], _ => rfl
  have F28 := fun_mk (st := s_Stair___init__) l28 c28 k28
  have b28 := F28.binds (ps := ["self", "ahead", "ring"]) fun _ _ _ _ _ _ us hl => match us, hl with | [_, _, _], _ => rfl
  have F29 := fun_mk (st := s_Stair_ahead) l29 c29 k29
  have b29 := F29.binds (ps := ["self"]) fun _ _ _ _ _ _ us hl => match us, hl with | [_], _ => rfl
  have F30 := fun_mk (st := s_Stair_ring) l30 c30 k30
  have b30 := F30.binds (ps := ["self"]) fun _ _ _ _ _ _ us hl => match us, hl with | [_], _ => rfl
  have F31 := fun_mk (st := s_Stair___eq__) l31 c31 k31
  have b31 := F31.binds (ps := ["self", "other"]) fun _ _ _ _ _ _ us hl => match us, hl with | [_, _], _ => rfl
  have F32 := fun_mk (st := s_Stair___len__) l32 c32 k32
  have b32 := F32.binds (ps := ["self"]) fun _ _ _ _ _ _ us hl => match us, hl with | [_], _ => rfl
  have F33 := fun_mk (st := s_Stair___str__) l33 c33 k33
  have b33 := F33.binds (ps := ["self"]) fun _ _ _ _ _ _ us hl => match us, hl with | [_], _ => rfl
  have F34 := fun_mk (st := s_Stair___repr__) l34 c34 k34
  have b34 := F34.binds (ps := ["self"]) fun _ _ _ _ _ _ us hl => match us, hl with | [_], _ => rfl
  have F35 := fun_mk (st := s_Stair_at) l35 c35 k35
  have b35 := F35.binds (ps := ["self", "place"]) fun _ _ _ _ _ _ us hl => match us, hl with | [_, _], _ => rfl
  have F36 := Hx.funV_mk (st := s_Stair_behind) l36 c36 k36 dt36
  have b36 : Binds K (PySem.W.fnOf "behind" "Stair.behind" (defArgs s_Stair_behind) (defBody s_Stair_behind) (defScope s_Stair_behind) (.ref dT36) kV36 dc36 pm36 an36 cd36 ct36) ["self", "many"] [] := fun s us X hl => F36.to X (match us, (by simp only [List.length_append, List.length_cons, List.length_nil] at hl; omega : us.length = 2) with | [_, _], _ => ⟨_, rfl, rfl⟩)
  have b1_36 : Binds K (PySem.W.fnOf "behind" "Stair.behind" (defArgs s_Stair_behind) (defBody s_Stair_behind) (defScope s_Stair_behind) (.ref dT36) kV36 dc36 pm36 an36 cd36 ct36) ["self", "many"] [.int 1 dk36_0] := fun s us X hl => F36.to X (match us, (by simp only [List.length_append, List.length_cons, List.length_nil] at hl; omega : us.length = 1) with | [_], _ => ⟨_, rfl, rfl⟩)
  have F37 := fun_mk (st := s_Ring___init__) l37 c37 k37
  have b37 := F37.binds (ps := ["self", "parts"]) fun _ _ _ _ _ _ us hl => match us, hl with | [_, _], _ => rfl
  have ks_Stair_at_1_place : Hx.KSel K (PySem.W.fnOf "at" "Stair.at" (defArgs s_Stair_at) (defBody s_Stair_at) (defScope s_Stair_at) .none kV35 dc35 pm35 an35 cd35 ct35) ["self", "place"] 1 ["place"] [0, 1] [] := ⟨[], .nil, fun s us ws X l1 l2 => match us, ws, l1, l2 with | [_], [_], _, _ => .of_eq rfl⟩
  have ks_Stair_behind_1_many : Hx.KSel K (PySem.W.fnOf "behind" "Stair.behind" (defArgs s_Stair_behind) (defBody s_Stair_behind) (defScope s_Stair_behind) (.ref dT36) kV36 dc36 pm36 an36 cd36 ct36) ["self", "many"] 1 ["many"] [0, 1] [] := ⟨[], .nil, fun s us ws X l1 l2 => F36.to X (match us, ws, l1, l2 with | [_], [_], _, _ => ⟨_, rfl, rfl⟩)⟩
  obtain ⟨C_NoRing, R_NoRing⟩ := rsB_ok rs_NoRing
  obtain ⟨C_NoStair, R_NoStair⟩ := rsB_ok rs_NoStair
  have FI_NoNumber := fun_mk (st := sI_NoNumber) xl_NoNumber xc_NoNumber xk_NoNumber
  have bI_NoNumber := FI_NoNumber.binds (ps := ["self", "part"]) fun _ _ _ _ _ _ us hl => match us, hl with | [_, _], _ => rfl
  have FI_NoPlace := fun_mk (st := sI_NoPlace) xl_NoPlace xc_NoPlace xk_NoPlace
  have bI_NoPlace := FI_NoPlace.binds (ps := ["self", "place", "many"]) fun _ _ _ _ _ _ us hl => match us, hl with | [_, _, _], _ => rfl
  let T : ∀ base : Heap, Txt w K mg base := fun base => {
    C_Ring := C_Ring, gc_Ring := PySem.W.mg_of X G vg_Ring,
    C_Root := C_Root, gc_Root := PySem.W.mg_of X G vg_Root,
    C_Stair := C_Stair, gc_Stair := PySem.W.mg_of X G vg_Stair,
    ne_Stair := vne_Stair,
    is_Ring := isB_ok vis_Ring,
    is_Root := isB_ok vis_Root,
    is_Stair := isB_ok vis_Stair,
    oc_Stair_Ring := voc_Stair_Ring,
    oc_Stair_Root := voc_Stair_Root,
    gn_is_whole := a0,
    f_is_whole := _, fd_is_whole := _, F_is_whole := F0, m_is_whole := PySem.W.mg_of X G a0, b_is_whole := b0,
    f_shared_by := _, fd_shared_by := _, F_shared_by := F1, m_shared_by := PySem.W.mg_of X G a1, b_shared_by := b1,
    f_side_of := _, fd_side_of := _, F_side_of := F2, m_side_of := PySem.W.mg_of X G a2, b_side_of := b2,
    f_is_square := _, fd_is_square := _, F_is_square := F3, m_is_square := PySem.W.mg_of X G a3, b_is_square := b3,
    gn_is_under_root := a4,
    f_is_under_root := _, fd_is_under_root := _, F_is_under_root := F4, m_is_under_root := PySem.W.mg_of X G a4, b_is_under_root := b4,
    gn_is_bottom := a5,
    f_is_bottom := _, fd_is_bottom := _, F_is_bottom := F5, m_is_bottom := PySem.W.mg_of X G a5, b_is_bottom := b5,
    f_look_parts := _, fd_look_parts := _, F_look_parts := F6, m_look_parts := PySem.W.mg_of X G a6, b_look_parts := b6,
    f_is_within := _, fd_is_within := _, F_is_within := F7, m_is_within := PySem.W.mg_of X G a7, b_is_within := b7,
    f_is_row := _, fd_is_row := _, F_is_row := F8, m_is_row := PySem.W.mg_of X G a8, b_is_row := b8,
    f_is_number_ring := _, fd_is_number_ring := _, F_is_number_ring := F9, m_is_number_ring := PySem.W.mg_of X G a9, b_is_number_ring := b9,
    f_is_ahead := _, fd_is_ahead := _, F_is_ahead := F10, m_is_ahead := PySem.W.mg_of X G a10, b_is_ahead := b10,
    f_shortest_part := _, fd_shortest_part := _, F_shortest_part := F11, m_shortest_part := PySem.W.mg_of X G a11, b_shortest_part := b11,
    f_told_stair := _, fd_told_stair := _, F_told_stair := F12, m_told_stair := PySem.W.mg_of X G a12, b_told_stair := b12,
    f_is_word := _, fd_is_word := _, F_is_word := F13, m_is_word := PySem.W.mg_of X G a13, b_is_word := b13,
    f_law_urn := _, fd_law_urn := _, F_law_urn := F14, m_law_urn := PySem.W.mg_of X G a14, b_law_urn := b14,
    f_law_draw := _, fd_law_draw := _, F_law_draw := F15, m_law_draw := PySem.W.mg_of X G a15, b_law_draw := b15,
    f_law_whole := _, fd_law_whole := _, F_law_whole := F16, m_law_whole := PySem.W.mg_of X G a16, b_law_whole := b16,
    f_law_ring := _, fd_law_ring := _, F_law_ring := F17, m_law_ring := PySem.W.mg_of X G a17, b_law_ring := b17,
    f_law_ahead := _, fd_law_ahead := _, F_law_ahead := F18, m_law_ahead := PySem.W.mg_of X G a18, b_law_ahead := b18,
    f_law_drawn := _, fd_law_drawn := _, F_law_drawn := F19, m_law_drawn := PySem.W.mg_of X G a19, b_law_drawn := b19,
    f_law_unrolled := _, fd_law_unrolled := _, F_law_unrolled := F20, m_law_unrolled := PySem.W.mg_of X G a20, b_law_unrolled := b20,
    f_law_row := _, fd_law_row := _, F_law_row := F21, m_law_row := PySem.W.mg_of X G a21, b_law_row := b21,
    f_law_fewest := _, fd_law_fewest := _, F_law_fewest := F22, m_law_fewest := PySem.W.mg_of X G a22, b_law_fewest := b22,
    f_law_shown_right := _, fd_law_shown_right := _, F_law_shown_right := F23, m_law_shown_right := PySem.W.mg_of X G a23, b_law_shown_right := b23,
    f_law_places_right := _, fd_law_places_right := _, F_law_places_right := F24, m_law_places_right := PySem.W.mg_of X G a24, b_law_places_right := b24,
    f_law := _, fd_law := _, F_law := F25, m_law := PySem.W.mg_of X G a25, b_law := b25,
    f_Root___init__ := _, fd_Root___init__ := _, F_Root___init__ := F26, cl_Root := clB_ok vc_Root, na_Root := vn_Root, T_Root___init__ := dT26, its_Root___init__ := #[.int 0 dk26_0, .int 2 dk26_1, .int 1 dk26_2], u3_Root___init__ := [.int 0 dk26_0, .int 2 dk26_1, .int 1 dk26_2], b3_Root___init__ := b3_26, v3_Root___init__ := (.cons ⟨_, rfl⟩ (.cons ⟨_, rfl⟩ (.cons ⟨_, rfl⟩ .nil))), b_Root___init__ := b26,
    f_Stair_keep_rows := _, fd_Stair_keep_rows := _, F_Stair_keep_rows := F27, M_Stair_keep_rows := methB_ok vm27, b_Stair_keep_rows := b27,
    f_Stair___init__ := _, fd_Stair___init__ := _, F_Stair___init__ := F28, cl_Stair := clB_ok vc_Stair, na_Stair := vn_Stair, b_Stair___init__ := b28,
    f_Stair_ahead := _, fd_Stair_ahead := _, F_Stair_ahead := F29, M_Stair_ahead := methB_ok vm29, b_Stair_ahead := b29,
    f_Stair_ring := _, fd_Stair_ring := _, F_Stair_ring := F30, M_Stair_ring := methB_ok vm30, b_Stair_ring := b30,
    f_Stair___eq__ := _, fd_Stair___eq__ := _, F_Stair___eq__ := F31, M_Stair___eq__ := methB_ok vm31, b_Stair___eq__ := b31,
    f_Stair___len__ := _, fd_Stair___len__ := _, F_Stair___len__ := F32, M_Stair___len__ := methB_ok vm32, b_Stair___len__ := b32,
    f_Stair___str__ := _, fd_Stair___str__ := _, F_Stair___str__ := F33, M_Stair___str__ := methB_ok vm33, b_Stair___str__ := b33,
    f_Stair___repr__ := _, fd_Stair___repr__ := _, F_Stair___repr__ := F34, M_Stair___repr__ := methB_ok vm34, b_Stair___repr__ := b34,
    f_Stair_at := _, fd_Stair_at := _, F_Stair_at := F35, M_Stair_at := methB_ok vm35, b_Stair_at := b35,
    f_Stair_behind := _, fd_Stair_behind := _, F_Stair_behind := F36, M_Stair_behind := methB_ok vm36, T_Stair_behind := dT36, its_Stair_behind := #[.int 1 dk36_0], u1_Stair_behind := [.int 1 dk36_0], b1_Stair_behind := b1_36, v1_Stair_behind := (.cons ⟨_, rfl⟩ .nil), b_Stair_behind := b36,
    f_Ring___init__ := _, fd_Ring___init__ := _, F_Ring___init__ := F37, cl_Ring := clB_ok vc_Ring, na_Ring := vn_Ring, b_Ring___init__ := b37,
    ks_Stair_at_1_place := ks_Stair_at_1_place,
    ks_Stair_behind_1_many := ks_Stair_behind_1_many,
    C_NoNumber := C_NoNumber, fI_NoNumber := fI_NoNumber, fdI_NoNumber := _, FI_NoNumber := FI_NoNumber, bI_NoNumber := bI_NoNumber, X_NoNumber := fxB_ok pass_ArithmeticError (by decide +kernel) xf_NoNumber, gc_NoNumber := PySem.W.mg_of X G xg_NoNumber,
    C_NoPlace := C_NoPlace, fI_NoPlace := fI_NoPlace, fdI_NoPlace := _, FI_NoPlace := FI_NoPlace, bI_NoPlace := bI_NoPlace, X_NoPlace := fxB_ok pass_IndexError (by decide +kernel) xf_NoPlace, gc_NoPlace := PySem.W.mg_of X G xg_NoPlace,
    C_NoRing := C_NoRing, R_NoRing := R_NoRing, gc_NoRing := PySem.W.mg_of X G R_NoRing.at_,
    C_NoStair := C_NoStair, R_NoStair := R_NoStair, gc_NoStair := PySem.W.mg_of X G R_NoStair.at_,
    v_LEAST_SQUARE := .int 2,
    u_LEAST_SQUARE := _,
    m_LEAST_SQUARE := PySem.W.mg_of X G g_LEAST_SQUARE,
    r_LEAST_SQUARE := ⟨_, rfl⟩,
    k_LEAST_SQUARE := fun _ _ => rfl,
    v_LETTERS := .str "ab",
    u_LETTERS := _,
    m_LETTERS := PySem.W.mg_of X G g_LETTERS,
    r_LETTERS := ⟨_, rfl⟩,
    k_LETTERS := fun _ _ => rfl,
    a_LOOKS := p_LOOKS,
    m_LOOKS := PySem.W.mg_of X G g_LOOKS,
    k_LOOKS := fun z d e => by
      unfold k_LOOKS at e
      split at e
      · rename_i hz
        rw [← Option.some.inj e, hz]
        exact ⟨.ref f0, ⟨_, _, _, l_LOOKS, y_LOOKS, e0_LOOKS, rfl⟩, fun H S => ⟨_, rfl, a0⟩⟩
      split at e
      · rename_i hz
        rw [← Option.some.inj e, hz]
        exact ⟨.ref f0, ⟨_, _, _, l_LOOKS, y_LOOKS, e1_LOOKS, rfl⟩, fun H S => ⟨_, rfl, a0⟩⟩
      split at e
      · rename_i hz
        rw [← Option.some.inj e, hz]
        exact ⟨.ref f4, ⟨_, _, _, l_LOOKS, y_LOOKS, e2_LOOKS, rfl⟩, fun H S => ⟨_, rfl, a4⟩⟩
      split at e
      · rename_i hz
        rw [← Option.some.inj e, hz]
        exact ⟨.ref f5, ⟨_, _, _, l_LOOKS, y_LOOKS, e3_LOOKS, rfl⟩, fun H S => ⟨_, rfl, a5⟩⟩
      exact absurd e (by simp),
    v_MOST_AHEAD := .int 20,
    u_MOST_AHEAD := _,
    m_MOST_AHEAD := PySem.W.mg_of X G g_MOST_AHEAD,
    r_MOST_AHEAD := ⟨_, rfl⟩,
    k_MOST_AHEAD := fun _ _ => rfl,
    v_MOST_LETTERS := .int 60,
    u_MOST_LETTERS := _,
    m_MOST_LETTERS := PySem.W.mg_of X G g_MOST_LETTERS,
    r_MOST_LETTERS := ⟨_, rfl⟩,
    k_MOST_LETTERS := fun _ _ => rfl,
    v_MOST_NUMBER := .int 999999,
    u_MOST_NUMBER := _,
    m_MOST_NUMBER := PySem.W.mg_of X G g_MOST_NUMBER,
    r_MOST_NUMBER := ⟨_, rfl⟩,
    k_MOST_NUMBER := fun _ _ => rfl,
    v_MOST_RING := .int 40,
    u_MOST_RING := _,
    m_MOST_RING := PySem.W.mg_of X G g_MOST_RING,
    r_MOST_RING := ⟨_, rfl⟩,
    k_MOST_RING := fun _ _ => rfl,
    v_PARTS := .ref p_PARTS,
    u_PARTS := _,
    m_PARTS := PySem.W.mg_of X G g_PARTS,
    r_PARTS := rfl,
    k_PARTS := fun _ _ => (rp_ktup (vs := [.str "top", .str "often", .str "square", .str "bottom"]) lp_PARTS (by show 4 ≤ 1000; decide) (.cons ⟨_, rfl⟩ (.cons ⟨_, rfl⟩ (.cons ⟨_, rfl⟩ (.cons ⟨_, rfl⟩ .nil)))) (rpL_cons rfl (rpL_cons rfl (rpL_cons rfl (rpL_cons rfl rpL_nil))))),
    n_abs := PySem.W.mg_none_of X G z_abs,
    n_all := PySem.W.mg_none_of X G z_all,
    n_any := PySem.W.mg_none_of X G z_any,
    n_bool := PySem.W.mg_none_of X G z_bool,
    n_int := PySem.W.mg_none_of X G z_int,
    n_isinstance := PySem.W.mg_none_of X G z_isinstance,
    n_len := PySem.W.mg_none_of X G z_len,
    n_list := PySem.W.mg_none_of X G z_list,
    n_max := PySem.W.mg_none_of X G z_max,
    n_min := PySem.W.mg_none_of X G z_min,
    n_range := PySem.W.mg_none_of X G z_range,
    n_repr := PySem.W.mg_none_of X G z_repr,
    n_str := PySem.W.mg_none_of X G z_str,
    n_tuple := PySem.W.mg_none_of X G z_tuple,
    n_zip := PySem.W.mg_none_of X G z_zip
  }
  exact ⟨(PySem.W.fnOf "law" "law" (defArgs s_law) (defBody s_law) (defScope s_law) .none kV25 dc25 pm25 an25 cd25 ct25), [], upF K spLawD, (fun _ h => nomatch h), (fun _ h => nomatch h), (fun _ h => nomatch h), fun s v => .of_eq rfl, fun H a ns hl _ _ hS => law_start hS hl, fun base _ _ _ => ok_law (T base)⟩

end K06
open PySem PySem.W PyProof.Rows
set_option maxRecDepth 100000 in
set_option maxHeartbeats 0 in
theorem PySem.Challenge.cw_nearthrees_k06_stairs_by_the_fewest_holds : PySem.Challenge.rw_nearthrees_k06_stairs_by_the_fewest.Holds := by
  w_on; o_law; k_head; (case hw => w_witness2)
  k_fill
  refine Hx.lawG_end (l := PySem.Challenge.rw_nearthrees_k06_stairs_by_the_fewest) (n := 63) (k := 10) (x := "_law_script") (CX := fun w => L2N.CX (PySem.Challenge.rw_nearthrees_k06_stairs_by_the_fewest).prog w) rfl (by decide) rfl ⟨⟨rfl, by decide, by decide⟩, rfl⟩ (fun w h Y => PySem.W.kIn_of Y) ?F fun _ _ _ _ _ z => Dv.CX_no z
  case F =>
    intro w mg fa h Y KX G hmg
    refine' K06.all_mk KX G hmg ?vg_Ring ?vg_Root ?vg_Stair ?vne_Stair ?vis_Ring ?vis_Root ?vis_Stair ?voc_Stair_Ring ?voc_Stair_Root ?a0 ?l0 ?c0 ?k0 ?a1 ?l1 ?c1 ?k1 ?a2 ?l2 ?c2 ?k2 ?a3 ?l3 ?c3 ?k3 ?a4 ?l4 ?c4 ?k4 ?a5 ?l5 ?c5 ?k5 ?a6 ?l6 ?c6 ?k6 ?a7 ?l7 ?c7 ?k7 ?a8 ?l8 ?c8 ?k8 ?a9 ?l9 ?c9 ?k9 ?a10 ?l10 ?c10 ?k10 ?a11 ?l11 ?c11 ?k11 ?a12 ?l12 ?c12 ?k12 ?a13 ?l13 ?c13 ?k13 ?a14 ?l14 ?c14 ?k14 ?a15 ?l15 ?c15 ?k15 ?a16 ?l16 ?c16 ?k16 ?a17 ?l17 ?c17 ?k17 ?a18 ?l18 ?c18 ?k18 ?a19 ?l19 ?c19 ?k19 ?a20 ?l20 ?c20 ?k20 ?a21 ?l21 ?c21 ?k21 ?a22 ?l22 ?c22 ?k22 ?a23 ?l23 ?c23 ?k23 ?a24 ?l24 ?c24 ?k24 ?a25 ?l25 ?c25 ?k25 ?a26 ?l26 ?dt26 ?c26 ?k26 ?vc_Root ?vn_Root ?a27 ?l27 ?c27 ?k27 ?vm27 ?a28 ?l28 ?c28 ?k28 ?vc_Stair ?vn_Stair ?a29 ?l29 ?c29 ?k29 ?vm29 ?a30 ?l30 ?c30 ?k30 ?vm30 ?a31 ?l31 ?c31 ?k31 ?vm31 ?a32 ?l32 ?c32 ?k32 ?vm32 ?a33 ?l33 ?c33 ?k33 ?vm33 ?a34 ?l34 ?c34 ?k34 ?vm34 ?a35 ?l35 ?c35 ?k35 ?vm35 ?a36 ?l36 ?dt36 ?c36 ?k36 ?vm36 ?a37 ?l37 ?c37 ?k37 ?vc_Ring ?vn_Ring ?xg_NoNumber ?xi_NoNumber ?xl_NoNumber ?xc_NoNumber ?xk_NoNumber ?xf_NoNumber ?xg_NoPlace ?xi_NoPlace ?xl_NoPlace ?xc_NoPlace ?xk_NoPlace ?xf_NoPlace ?rs_NoRing ?rs_NoStair ?g_LEAST_SQUARE ?g_LETTERS ?g_LOOKS ?l_LOOKS ?y_LOOKS ?e0_LOOKS ?e1_LOOKS ?e2_LOOKS ?e3_LOOKS ?g_MOST_AHEAD ?g_MOST_LETTERS ?g_MOST_NUMBER ?g_MOST_RING ?g_PARTS ?lp_PARTS ?z_abs ?z_all ?z_any ?z_bool ?z_int ?z_isinstance ?z_len ?z_list ?z_max ?z_min ?z_range ?z_repr ?z_str ?z_tuple ?z_zip
    (case vg_Ring => k_is)
    (case vg_Root => k_is)
    (case vg_Stair => k_is)
    (case vne_Stair => kernel_rfl)
    (case vis_Ring => kernel_rfl)
    (case vis_Root => kernel_rfl)
    (case vis_Stair => kernel_rfl)
    (case voc_Stair_Ring => kernel_rfl)
    (case voc_Stair_Root => kernel_rfl)
    (case a0 => k_is)
    (case l0 => k_is)
    (case c0 => k_is)
    (case k0 => k_is)
    (case a1 => k_is)
    (case l1 => k_is)
    (case c1 => k_is)
    (case k1 => k_is)
    (case a2 => k_is)
    (case l2 => k_is)
    (case c2 => k_is)
    (case k2 => k_is)
    (case a3 => k_is)
    (case l3 => k_is)
    (case c3 => k_is)
    (case k3 => k_is)
    (case a4 => k_is)
    (case l4 => k_is)
    (case c4 => k_is)
    (case k4 => k_is)
    (case a5 => k_is)
    (case l5 => k_is)
    (case c5 => k_is)
    (case k5 => k_is)
    (case a6 => k_is)
    (case l6 => k_is)
    (case c6 => k_is)
    (case k6 => k_is)
    (case a7 => k_is)
    (case l7 => k_is)
    (case c7 => k_is)
    (case k7 => k_is)
    (case a8 => k_is)
    (case l8 => k_is)
    (case c8 => k_is)
    (case k8 => k_is)
    (case a9 => k_is)
    (case l9 => k_is)
    (case c9 => k_is)
    (case k9 => k_is)
    (case a10 => k_is)
    (case l10 => k_is)
    (case c10 => k_is)
    (case k10 => k_is)
    (case a11 => k_is)
    (case l11 => k_is)
    (case c11 => k_is)
    (case k11 => k_is)
    (case a12 => k_is)
    (case l12 => k_is)
    (case c12 => k_is)
    (case k12 => k_is)
    (case a13 => k_is)
    (case l13 => k_is)
    (case c13 => k_is)
    (case k13 => k_is)
    (case a14 => k_is)
    (case l14 => k_is)
    (case c14 => k_is)
    (case k14 => k_is)
    (case a15 => k_is)
    (case l15 => k_is)
    (case c15 => k_is)
    (case k15 => k_is)
    (case a16 => k_is)
    (case l16 => k_is)
    (case c16 => k_is)
    (case k16 => k_is)
    (case a17 => k_is)
    (case l17 => k_is)
    (case c17 => k_is)
    (case k17 => k_is)
    (case a18 => k_is)
    (case l18 => k_is)
    (case c18 => k_is)
    (case k18 => k_is)
    (case a19 => k_is)
    (case l19 => k_is)
    (case c19 => k_is)
    (case k19 => k_is)
    (case a20 => k_is)
    (case l20 => k_is)
    (case c20 => k_is)
    (case k20 => k_is)
    (case a21 => k_is)
    (case l21 => k_is)
    (case c21 => k_is)
    (case k21 => k_is)
    (case a22 => k_is)
    (case l22 => k_is)
    (case c22 => k_is)
    (case k22 => k_is)
    (case a23 => k_is)
    (case l23 => k_is)
    (case c23 => k_is)
    (case k23 => k_is)
    (case a24 => k_is)
    (case l24 => k_is)
    (case c24 => k_is)
    (case k24 => k_is)
    (case a25 => k_is)
    (case l25 => k_is)
    (case c25 => k_is)
    (case k25 => k_is)
    (case a26 => k_is)
    (case l26 => k_is)
    (case dt26 => k_is)
    (case c26 => k_is)
    (case k26 => k_is)
    (case vc_Root => kernel_rfl)
    (case vn_Root => kernel_rfl)
    (case a27 => k_is)
    (case l27 => k_is)
    (case c27 => k_is)
    (case k27 => k_is)
    (case vm27 => kernel_rfl)
    (case a28 => k_is)
    (case l28 => k_is)
    (case c28 => k_is)
    (case k28 => k_is)
    (case vc_Stair => kernel_rfl)
    (case vn_Stair => kernel_rfl)
    (case a29 => k_is)
    (case l29 => k_is)
    (case c29 => k_is)
    (case k29 => k_is)
    (case vm29 => kernel_rfl)
    (case a30 => k_is)
    (case l30 => k_is)
    (case c30 => k_is)
    (case k30 => k_is)
    (case vm30 => kernel_rfl)
    (case a31 => k_is)
    (case l31 => k_is)
    (case c31 => k_is)
    (case k31 => k_is)
    (case vm31 => kernel_rfl)
    (case a32 => k_is)
    (case l32 => k_is)
    (case c32 => k_is)
    (case k32 => k_is)
    (case vm32 => kernel_rfl)
    (case a33 => k_is)
    (case l33 => k_is)
    (case c33 => k_is)
    (case k33 => k_is)
    (case vm33 => kernel_rfl)
    (case a34 => k_is)
    (case l34 => k_is)
    (case c34 => k_is)
    (case k34 => k_is)
    (case vm34 => kernel_rfl)
    (case a35 => k_is)
    (case l35 => k_is)
    (case c35 => k_is)
    (case k35 => k_is)
    (case vm35 => kernel_rfl)
    (case a36 => k_is)
    (case l36 => k_is)
    (case dt36 => k_is)
    (case c36 => k_is)
    (case k36 => k_is)
    (case vm36 => kernel_rfl)
    (case a37 => k_is)
    (case l37 => k_is)
    (case c37 => k_is)
    (case k37 => k_is)
    (case vc_Ring => kernel_rfl)
    (case vn_Ring => kernel_rfl)
    (case xg_NoNumber => k_is)
    (case xi_NoNumber => k_is)
    (case xl_NoNumber => k_is)
    (case xc_NoNumber => k_is)
    (case xk_NoNumber => k_is)
    (case xf_NoNumber => kernel_rfl)
    (case xg_NoPlace => k_is)
    (case xi_NoPlace => k_is)
    (case xl_NoPlace => k_is)
    (case xc_NoPlace => k_is)
    (case xk_NoPlace => k_is)
    (case xf_NoPlace => kernel_rfl)
    (case rs_NoRing => kernel_rfl)
    (case rs_NoStair => kernel_rfl)
    (case g_LEAST_SQUARE => k_is)
    (case g_LETTERS => k_is)
    (case g_LOOKS => k_is)
    (case l_LOOKS => k_is)
    (case y_LOOKS => exact ⟨⟨_, _, rfl, rfl⟩, ⟨_, _, rfl, rfl⟩, ⟨_, _, rfl, rfl⟩, ⟨_, _, rfl, rfl⟩, trivial⟩)
    (case e0_LOOKS => k_is)
    (case e1_LOOKS => k_is)
    (case e2_LOOKS => k_is)
    (case e3_LOOKS => k_is)
    (case g_MOST_AHEAD => k_is)
    (case g_MOST_LETTERS => k_is)
    (case g_MOST_NUMBER => k_is)
    (case g_MOST_RING => k_is)
    (case g_PARTS => k_is)
    (case lp_PARTS => k_is)
    (case z_abs => k_is)
    (case z_all => k_is)
    (case z_any => k_is)
    (case z_bool => k_is)
    (case z_int => k_is)
    (case z_isinstance => k_is)
    (case z_len => k_is)
    (case z_list => k_is)
    (case z_max => k_is)
    (case z_min => k_is)
    (case z_range => k_is)
    (case z_repr => k_is)
    (case z_str => k_is)
    (case z_tuple => k_is)
    (case z_zip => k_is)
#print axioms PySem.Challenge.cw_nearthrees_k06_stairs_by_the_fewest_holds
