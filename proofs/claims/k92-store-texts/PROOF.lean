import PyProof.Rows.All
import HandS.ForMost
import HandS.ForExc
import HandS.EndBits
import HandS.HeadHook2
import HandS.Wide
import HandS.TupAny
import HandS.TupLe
import HandS.Deep
import HandS.SortInts
import HandS.FStr
import HandS.RaiseMore
import HandS.IsInst
import HandS.ExcInit
import HandS.ExcIs
import HandS.ExcField
import PyProof.ReprRoads
import HandS.Rev
import HandS.RevTup
import KE.SortData
import HandS.TupSets
import HandS.Head0
import HandS.Head1
import HandS.Head2
import HandS.HeadEnd
import HandS.HeadHook1
import PySem.Challenge.RW_squaremiddles_k92_store_texts_whole
import KE.IntTextLaws
import PyProof.StrLawsRepr
import PyProof.Rows.StrCase
section
set_option Elab.async false
set_option linter.all false
set_option maxRecDepth 100000
set_option maxHeartbeats 4000000
/-! DL0: a def's promise where no repr is under way in the stack (A.guards): the hand layer's FnOk with this one fact more; its calls; the end of a law row. -/
namespace DL
open PySem PySem.Spec PyProof.Rows L2
abbrev St := L2.St
structure FnG (P : Program) (w : World) (K : PySem.W.Frag) (mg : Str → Option Value) (base : Heap) (CX : CXT) (k : Nat) (f : Addr) (fd : FuncData) (ps : List Str) (sp : Sp) : Prop where
  len : ∀ vs H Q E, sp vs H Q E → vs.length = ps.length
  run : ∀ (A : Around) (outer : List Env) (s : Shared) (H : Hp) (args : Args) (us : List Value) (vs : List V) (Q : VK) (E : XK), A.guards = some [] → Room k A → Env0 P w K mg base A outer s H → BindsTo s fd args (ps.zip us) → Vals vs us → sp vs H Q E →
    codeAny (model P w) A (.call (.ref f) args) (CR CX outer P w H s Q E) s
theorem FnG.of {P : Program} {w : World} {K : PySem.W.Frag} {mg : Str → Option Value} {base : Heap} {CX : CXT} {k : Nat} {f : Addr} {fd : FuncData} {ps : List Str} {sp : Sp} (F : FnOk P w K mg base CX k f fd ps sp) : FnG P w K mg base CX k f fd ps sp :=
  ⟨F.len, fun A outer s H args us vs Q E _ => F.run A outer s H args us vs Q E⟩
theorem FnG.mono {P : Program} {w : World} {K : PySem.W.Frag} {mg : Str → Option Value} {base : Heap} {CX : CXT} {j k : Nat} {f : Addr} {fd : FuncData} {ps : List Str} {sp : Sp} (F : FnG P w K mg base CX j f fd ps sp) (h : j ≤ k) : FnG P w K mg base CX k f fd ps sp :=
  ⟨F.len, fun A outer s H args us vs Q E hg hr => F.run A outer s H args us vs Q E hg (hr.mono h)⟩
section
variable {X : Cx} {CX : CXT} {k : Nat} {f : Addr} {fd : FuncData} {ps : List Str} {sp : Sp} {E : St → XK} {x : Str} {p pos : Pos} {e : Expr} {es : List Expr} {t : TA}
theorem run_g {pins : List (Addr × Obj)} {σ : St} {H : Hp} {s : Shared} {Q : VK} {us : List Value} {vs : List V} (F : FnG X.prog X.w X.K X.mg X.base CX k f fd ps sp) (hG : X.A.guards = some []) (hr : Room k X.A) (hb : Binds X.K fd ps []) (hx : PassesAt CX X σ (E σ))
    (J : Inv X pins σ H s) (r : Vals vs us) (h : sp vs H Q (E σ)) : wpAny (model X.prog X.w) X.A (call (.ref f) us) (EP X pins σ Q) X.xe s := by
  have many : us.length = ps.length := r.length.symm.trans (F.len _ _ _ _ h)
  have binds := hb s us J.kIn (by rw [List.append_nil]; exact many)
  rw [List.append_nil] at binds
  refine wpAny_call (codeAny_mono (F.run X.A X.stack s H ⟨us, []⟩ us vs Q (E σ) hG hr J.env0 binds r h) fun out s' got => ?_)
  match out, got with
  | .error err, got => exact hx pins H s err s' J got
  | .ok (.ret u), got => exact J.after got
  | .ok .next, got => exact False.elim got
  | .ok .brk, got => exact False.elim got
  | .ok .cont, got => exact False.elim got
def tCallG (sp : Sp) (E : St → XK) (t : TA) : TE := fun σ H Q => t σ H fun vs H1 => sp vs H1 Q (E σ)
theorem pe_callG (F : FnG X.prog X.w X.K X.mg X.base CX k f fd ps sp) (hG : X.A.guards = some []) (hr : Room k X.A) (hg : Gl X x) (hm : X.mg x = some (.ref f)) (hk : PySem.W.keepIn X.K (.ref f) = true) (hb : Binds X.K fd ps []) (hx : ∀ σ, PassesAt CX X σ (E σ)) (ha : PA X (e :: es) t)
    (hdb : (x == ("__debug__" : Str)) = false := by decide) (he : starEach (e :: es) X.env = (false, eval e X.env) :: starEach es X.env := by rfl) (hpl : (backTo pos (starEach es X.env)).any (·.1) = false := by rfl) :
    PE X (.Call (.Name x p) (e :: es) [] pos) (tCallG sp E t) :=
  ⟨fun pins s σ H Q J h => wpAny_Call_Name_kw (ld_glob J hg hm (PySem.W.callWith_K (h₀ := X.base) J.ok.mod.kin hk (thn (ha.run pos pins s σ H _ J h) fun us s1 ⟨vs, H1, J1, r, q⟩ => ⟨J1.kIn, run_g F hG hr hb (hx σ) J1 r q⟩) he hpl) hdb)⟩
theorem pe_callG0 (F : FnG X.prog X.w X.K X.mg X.base CX k f fd ps sp) (hG : X.A.guards = some []) (hr : Room k X.A) (hg : Gl X x) (hm : X.mg x = some (.ref f)) (hk : PySem.W.keepIn X.K (.ref f) = true) (hb : Binds X.K fd ps []) (hx : ∀ σ, PassesAt CX X σ (E σ))
    (hdb : (x == ("__debug__" : Str)) = false := by decide) : PE X (.Call (.Name x p) [] [] pos) (tCallG sp E tNil) :=
  ⟨fun pins s σ H Q J h => wpAny_Call_Name_kw (ld_glob J hg hm (PySem.W.callWith_K0 J.kIn hk (run_g (us := []) F hG hr hb (hx σ) J .nil h)) hdb)⟩
end
section
variable {P : Program} {w : World} {K : PySem.W.Frag} {mg : Str → Option Value} {base : Heap}
/-- a def's body keeps its promise -/
theorem fn_g {CX : CXT} {x qual : Str} {params : Arguments} {body : List Stmt} {scope : Scope} {dvs : List V} {kws : List (Str × V)} {f : Addr} {fd : FuncData} {N ps : List Str} {k : Nat} {sp : Sp} (F : FunD K x qual params body scope dvs kws f fd) (S : FnScope N ps scope) (len : ∀ vs H Q E, sp vs H Q E → vs.length = ps.length)
    (hbody : ∀ (cdv : Value) (A : Around) (outer : List Env) (s : Shared) (H : Hp) (vs : List V) (Q : VK) (E : XK), A.guards = some [] → Room k (A.deeper (envOfC qual scope s.heap.objs.size f cdv)) → sp vs H Q E →
      ∃ t, PSs (cxOf CX P w K mg base N qual scope f cdv A outer s H E) body t ∧ t { nx := fun _ H' => Q .non H', rt := Q } (start N vs) H) : FnG P w K mg base CX (k + 1) f fd ps sp := by
  obtain ⟨oc, od, dV, kV, doc, pm, an, cdv, ct, osl, rfl, lk, hcd, _, _⟩ := F.ex
  refine ⟨len, fun A outer s H args us vs Q E hG hr e0 hb r want => ?_⟩
  have many := len _ _ _ _ want
  have inK : K.In s.heap := e0.mod.kin.keeps fun b o e => (e0.bs b o e).1
  have nolim : s.heap.NoLimit := e0.mod.nolimit.keeps fun b o e => (e0.bs b o e).1
  have kinds : ∀ y ∈ ps.zip us, scope.names.lookup y.1 = some .local ∨ (scope.names.lookup y.1 = some .cell ∧ ((cellsFrom (s.heap.objs.size + 1) scope.names []).lookup y.1).isSome = true) := by
    rintro ⟨n, v⟩ hy
    exact (S.par n (List.of_mem_zip hy).1).elim .inl fun q => .inr ⟨q, PySem.W.cellsFrom_some _ _ _ (.inl q)⟩
  refine codeAny_call_function hr.depth (inK _ _ lk) rfl S.co S.gen rfl (PySem.W.codeRec_of inK hcd) (hb _ _ _ _ (wpAny_newFunctionEnv_cells S.kind kinds fun env he s1 x => ?_))
  subst he
  refine ⟨nolim.keeps x.toInCall.keep, codeAny_func ?_⟩
  obtain ⟨t, runs, reads⟩ := hbody cdv A outer s H vs Q E hG (hr.deeper _) want
  refine wpAny_mono (runs.run [] s1 (start N vs) H _ (inv_start S hr.hd e0 many r x) reads) (fun fl s' hs => ?_) fun _ _ hs => hs
  match fl, hs with
  | .ret u, ⟨v, _, H', J, rv, q⟩ => exact ⟨v, H', J.os, J.bare, J.base, J.hok, rv, q⟩
  | .next, ⟨_, H', J, q⟩ => exact ⟨V.non, H', J.os, J.bare, J.base, J.hok, rfl, q⟩
  | .brk, ⟨_, _, _, q⟩ => exact False.elim q
  | .cont, ⟨_, _, _, q⟩ => exact False.elim q
/-- .. that raises nothing -/
theorem fn_g0 {x qual : Str} {params : Arguments} {body : List Stmt} {scope : Scope} {dvs : List V} {kws : List (Str × V)} {f : Addr} {fd : FuncData} {N ps : List Str} {k : Nat} {sp : Sp} (F : FunD K x qual params body scope dvs kws f fd) (S : FnScope N ps scope) (len : ∀ vs H Q E, sp vs H Q E → vs.length = ps.length)
    (hbody : ∀ (cdv : Value) (A : Around) (outer : List Env) (s : Shared) (H : Hp) (vs : List V) (Q : VK) (E : XK), A.guards = some [] → Room k (A.deeper (envOfC qual scope s.heap.objs.size f cdv)) → sp vs H Q E →
      ∃ t, PSs (cxOf L2.CX0 P w K mg base N qual scope f cdv A outer s H E).nox body t ∧ t { nx := fun _ H' => Q .non H', rt := Q } (start N vs) H) : FnG P w K mg base L2.CX0 (k + 1) f fd ps sp :=
  fn_g F S len fun cdv A outer s H vs Q E hG hr want => let ⟨t, h, q⟩ := hbody cdv A outer s H vs Q E hG hr want; ⟨t, h.nox, q⟩
end
/-! ### the end of a law row -/
/-- the script alone is tracked, if it is not one of the module's own objects -/
noncomputable def only (K : PySem.W.Frag) (a : Addr) (o : Obj) (xs : List V) : Hp := fun b => if b = a ∧ K.lookup a = none then some (.frz o (.lst xs)) else none
theorem only_some {K : PySem.W.Frag} {a b : Addr} {o : Obj} {xs : List V} {u : HO} (h : only K a o xs b = some u) : b = a ∧ K.lookup a = none ∧ u = .frz o (.lst xs) := by
  unfold only at h
  by_cases q : b = a ∧ K.lookup a = none
  · rw [if_pos q] at h
    exact ⟨q.1, q.2, (Option.some.inj h).symm⟩
  · rw [if_neg q] at h
    cases h
theorem end_g {P : Program} {w : World} {K : PySem.W.Frag} {mg mb : Str → Option Value} {CX : CXT} {k : Nat} {fa a : Addr} {fd : FuncData} {x : Str} {sp : Sp} {s1 : Shared} {vs : List Value} {ns : List Int}
    (KX : K.In s1.heap) (hns : s1.heap.Ns mainGlobals mg) (hb : s1.heap.Ns builtinsNs mb) (hbb : ∀ x : Str, x ≠ "__name__" → mb x = bootBuiltins x) (hlim : s1.heap.NoLimit) (hgen : s1.gens = #[])
    (ha : s1.heap.get? a = some { cls := .type "list", data := .seq vs.toArray }) (hi : IntsAre vs ns) (hl : ns.length ≤ sizeLine) (hr : Room k callerA)
    (F : ∀ base : Heap, K.In base → base.Ns mainGlobals mg → FnG P w K mg base CX k fa fd [x] sp) (hbind : ∀ (s : Shared) (u : Value), BindsTo s fd ⟨[u], []⟩ [(x, u)])
    (hsp : ∀ H : Hp, SqL K H a (ns.map V.int) → sp [.ref a] H (fun v _ => v = .bl true) fun _ _ _ => False)
    (hCX : ∀ H e s', CX [] H s1 (fun _ _ _ => False) e s' → False) :
    codeAny (model P w) callerA (.call (.ref fa) ⟨[.ref a], []⟩) (fun r s' => r = .ok (.ret (.bool true)) ∧ OldK s1.heap s'.heap ∧ s'.os = s1.os ∧ AllBare s'.gens) s1 := by
  have rv := vals_ints hi
  have lenV := hi.length
  obtain ⟨so, hso⟩ : ∃ so : Obj, so = { cls := .type "list", data := .seq vs.toArray } := ⟨_, rfl⟩
  rw [← hso] at ha
  obtain ⟨H, hH⟩ : ∃ H : Hp, H = only K a so (ns.map V.int) := ⟨_, rfl⟩
  have off : ∀ {b : Addr} {o : Obj}, s1.heap.get? b = some o → (∀ its n, o.data ≠ .seq its n) → H b = none := fun {b o} e nd => by
    cases q : H b with
    | none => rfl
    | some u =>
      rw [hH] at q
      obtain ⟨rfl, _, _⟩ := only_some q
      rw [ha] at e
      cases e
      exact absurd (by rw [hso]) (nd vs.toArray _)
  have offK : ∀ {b : Addr} {o : Obj}, K.lookup b = some o → H b = none := fun {b o} e => by
    cases q : H b with
    | none => rfl
    | some u =>
      rw [hH] at q
      obtain ⟨rfl, z, _⟩ := only_some q
      rw [z] at e
      cases e
  have hok : HOk P w H s1.heap := fun b u q => by
    rw [hH] at q
    obtain ⟨rfl, _, rfl⟩ := only_some q
    exact ⟨ha, by rw [List.length_map]; exact hl, vs, _, rv, by rw [ha, hso]⟩
  have kept : ∀ {b : Addr} {m : Str → Option Value}, s1.heap.Ns b m → (hidT s1.heap H).Ns b m := fun {b m} ⟨o, es, ep, e, d, r⟩ => ⟨o, es, ep, hidT_get e (off e fun its n z => by rw [d] at z; cases z), d, r⟩
  have hKb : K.In (hidT s1.heap H) := fun b o e => hidT_get (KX b o e) (offK e)
  have hM : Mod K mg (hidT s1.heap H) := ⟨hKb, kept hns, ⟨mb, kept hb, hbb⟩, let ⟨mc, h1, h2⟩ := hlim; ⟨mc, kept h1, h2⟩⟩
  have e0 : Env0 P w K mg (hidT s1.heap H) callerA [] s1 H := ⟨rfl, hM, fun b o e => of_hidT e, Nat.le_of_eq (hidT_size _ _), trivial, fun b z => absurd (show b ∈ ([] : List Addr) from z) (by simp), hok, .of_eq hgen⟩
  have hS : SqL K H a (ns.map V.int) := by
    cases hk : K.lookup a with
    | some o =>
      have e := KX a o hk
      rw [ha] at e
      cases e
      exact .inr ⟨so, vs.toArray, _, hk, by rw [hso], by rw [hso], by rw [hso], by rw [List.size_toArray, lenV]; exact hl, by simpa using rv⟩
    | none => exact .inl (.inr ⟨so, by rw [hH]; exact if_pos ⟨rfl, hk⟩⟩)
  refine codeAny_mono ((F _ hKb (kept hns)).run callerA [] s1 H ⟨[.ref a], []⟩ [.ref a] [.ref a] _ _ rfl hr e0 (hbind s1 (.ref a)) (.cons rfl .nil) (hsp H hS)) fun r s' got => ?_
  match r, got with
  | .error e, got => exact (hCX H e s' got).elim
  | .ok .next, got => exact False.elim got
  | .ok .brk, got => exact False.elim got
  | .ok .cont, got => exact False.elim got
  | .ok (.ret u), ⟨v, H', os, bare, un, hok', r', q⟩ =>
    have q' : v = .bl true := q
    subst q'
    obtain rfl : u = Value.bool true := r'
    refine ⟨rfl, OldK.of_keep fun b o e => ?_, os, bare⟩
    cases q : H b with
    | none => exact un.keep b o e q (by intro z; exact absurd (show b ∈ ([] : List Addr) from z) (by simp)) (by simp)
    | some u =>
      have q2 := q
      rw [hH] at q2
      obtain ⟨rfl, _, rfl⟩ := only_some q2
      obtain ⟨e2, _⟩ := hok' b _ (un.frzs b so _ q)
      rw [ha] at e
      cases e
      exact e2
/-- the goal that k_head leaves (case hc), from the law's promise; the script's bits told -/
theorem walk_g {l : PySem.W.OpenLaw} {n k : Nat} {q : Program} {loose : List Str} {XP : (Str → Option Value) → Heap → Prop} {YP : World → Heap → Prop} {d : DefRec} {CX : World → CXT} {x : Str}
    (hn : l.most = some n) (hn2 : n ≤ sizeLine) (hdf : d.params.defaults = []) (hr : Room k callerA)
    (F : ∀ (w : World) (mg : Str → Option Value) (fa : Addr) (h : Heap), YP w h → h.Ns mainGlobals mg → mg d.name = some (.ref fa) →
      ∃ (K : PySem.W.Frag) (fd : FuncData) (sp : Sp), K.In h ∧ (∀ (s : Shared) (u : Value), BindsTo s fd ⟨[u], []⟩ [(x, u)]) ∧
        (∀ (H : Hp) (a : Addr) (ns : List Int), ns.length ≤ n → (∀ z ∈ ns, Builtin.Int.intBits z ≤ 1048576) → SqL K H a (ns.map V.int) → sp [.ref a] H (fun v _ => v = .bl true) fun _ _ _ => False) ∧
        ∀ base : Heap, K.In base → base.Ns mainGlobals mg → FnG l.prog w K mg base (CX w) k fa fd [x] sp)
    (hCX : ∀ (w : World) (H : Hp) (s : Shared) (e : Value) (s' : Shared), CX w [] H s (fun _ _ _ => False) e s' → False) :
    PySem.W.WalkO q loose XP YP l.row.toRowW d [] (fun f vs => PySem.call f vs) :=
  Att.attach_callB hn hdf fun w s₀ s1 mg mb fa o pm cd doc a vs ns G Y ho hd hcd hmg hobj hints hlen hbits hgen =>
    let ⟨K, fd, sp, KX, hb, hs, hF⟩ := F w mg fa _ Y G.T.g hmg
    end_g KX G.T.g G.T.b G.T.builtins G.T.nolimit hgen hobj hints (Nat.le_trans hlen hn2) hr hF hb (fun H hS => hs H a ns hlen hbits hS) fun H e s' => hCX w H s1 e s'
end DL
end
section
set_option Elab.async false
set_option linter.all false
set_option maxRecDepth 100000
set_option maxHeartbeats 4000000
/-! DL1: a layer of plain data over the hand layer: a def's body as a plain function on data. -/
namespace DL
open PySem PySem.Spec PyProof.Rows L2

/-! ### results -/
/-- an exception: its class's name; its fields, if it has an own __init__ -/
structure Exn where
  cls : Str
  fs : Option (List (Str × PyData))
inductive Res (α : Type) where
  | ok (a : α)
  | ex (e : Exn)
  | bad
@[inline] def Res.bind {α β : Type} (r : Res α) (f : α → Res β) : Res β := match r with
  | .ok a => f a
  | .ex e => .ex e
  | .bad => .bad
@[simp] theorem Res.ok_bind {α β : Type} (a : α) (f : α → Res β) : (Res.ok a).bind f = f a := rfl
@[simp] theorem Res.ex_bind {α β : Type} (e : Exn) (f : α → Res β) : (Res.ex e).bind f = .ex e := rfl
@[simp] theorem Res.bad_bind {α β : Type} (f : α → Res β) : (Res.bad : Res α).bind f = .bad := rfl

/-! ### data in a heap -/
theorem Same.seqT {K : PySem.W.Frag} {H H' : Hp} {a : Addr} {xs : List V} (e : Same H H') (h : SqT K H a xs) : SqT K H' a xs := by
  rcases h with (h | ⟨o, h⟩) | h
  · exact .inl (.inl (e _ _ h))
  · exact .inl (.inr ⟨o, e _ _ h⟩)
  · exact .inr h
mutual
theorem Dp_same {K : PySem.W.Frag} {H H' : Hp} (e : Same H H') : ∀ (d : PyData) (v : V), Dp K H v d → Dp K H' v d
  | .none, _, h => by cases h; exact .non
  | .bool b, _, h => by cases h; exact .bl b
  | .int i, _, h => by cases h; exact .int i
  | .str x, _, h => by cases h; exact .str x
  | .list ds, _, h => by
    cases h with
    | lst hs ha => exact .lst (e.seq hs) (DpAll_same e ds _ ha)
  | .tuple ds, _, h => by
    cases h with
    | tup hs ha => exact .tup (Same.seqT e hs) (DpAll_same e ds _ ha)
  | .dict _, _, h => by cases h
theorem DpAll_same {K : PySem.W.Frag} {H H' : Hp} (e : Same H H') : ∀ (ds : List PyData) (vs : List V), DpAll K H vs ds → DpAll K H' vs ds
  | [], _, h => by cases h; exact .nil
  | d :: ds, _, h => by
    cases h with
    | cons h1 h2 => exact .cons (Dp_same e d _ h1) (DpAll_same e ds _ h2)
end
section
variable {K : PySem.W.Frag} {H : Hp}
theorem DpAll.length : ∀ {vs : List V} {ds : List PyData}, DpAll K H vs ds → vs.length = ds.length
  | _, _, .nil => rfl
  | _, _, .cons _ t => by rw [List.length_cons, List.length_cons, DpAll.length t]
theorem DpAll.get : ∀ {vs : List V} {ds : List PyData} {i : Nat} {d : PyData}, DpAll K H vs ds → ds[i]? = some d → ∃ v, vs[i]? = some v ∧ Dp K H v d
  | _, _, _, _, .nil, e => by simp at e
  | _, _, 0, _, .cons r _, e => by simp at e; subst e; exact ⟨_, rfl, r⟩
  | _, _, i + 1, x, .cons _ t, e => by
    obtain ⟨u, h1, h2⟩ := DpAll.get (i := i) (d := x) t (by simpa using e)
    exact ⟨u, by simpa using h1, h2⟩
theorem DpAll.getV : ∀ {vs : List V} {ds : List PyData} {i : Nat} {v : V}, DpAll K H vs ds → vs[i]? = some v → ∃ d, ds[i]? = some d ∧ Dp K H v d
  | _, _, _, _, .nil, e => by simp at e
  | _, _, 0, _, .cons r _, e => by simp at e; subst e; exact ⟨_, rfl, r⟩
  | _, _, i + 1, x, .cons _ t, e => by
    obtain ⟨u, h1, h2⟩ := DpAll.getV (i := i) (v := x) t (by simpa using e)
    exact ⟨u, by simpa using h1, h2⟩
theorem DpAll.append : ∀ {vs ws : List V} {ds es : List PyData}, DpAll K H vs ds → DpAll K H ws es → DpAll K H (vs ++ ws) (ds ++ es)
  | _, _, _, _, .nil, s => s
  | _, _, _, _, .cons r t, s => .cons r (DpAll.append t s)
theorem DpAll.take : ∀ {vs : List V} {ds : List PyData} (n : Nat), DpAll K H vs ds → DpAll K H (vs.take n) (ds.take n)
  | _, _, 0, _ => .nil
  | _, _, _ + 1, .nil => .nil
  | _, _, n + 1, .cons r t => .cons r (DpAll.take n t)
theorem DpAll.drop : ∀ {vs : List V} {ds : List PyData} (n : Nat), DpAll K H vs ds → DpAll K H (vs.drop n) (ds.drop n)
  | _, _, 0, r => r
  | _, _, _ + 1, .nil => .nil
  | _, _, n + 1, .cons _ t => DpAll.drop n t
theorem DpAll.set {v : V} {d : PyData} (r : Dp K H v d) : ∀ {vs : List V} {ds : List PyData} (i : Nat), DpAll K H vs ds → DpAll K H (vs.set i v) (ds.set i d)
  | _, _, _, .nil => .nil
  | _, _, 0, .cons _ t => .cons r t
  | _, _, i + 1, .cons q t => .cons q (DpAll.set r i t)
theorem DpAll.one {v : V} {d : PyData} (r : Dp K H v d) : DpAll K H [v] [d] := .cons r .nil
end

/-! ### a heap of which some addresses are hidden -/
open Classical in
noncomputable def msk (M : Addr → Prop) (H : Hp) : Hp := fun b => if M b then none else H b
theorem msk_none {M : Addr → Prop} {H : Hp} {b : Addr} (h : M b) : msk M H b = none := by unfold msk; rw [if_pos h]
theorem msk_of {M : Addr → Prop} {H : Hp} {b : Addr} (h : ¬ M b) : msk M H b = H b := by unfold msk; rw [if_neg h]
theorem msk_some {M : Addr → Prop} {H : Hp} {b : Addr} {o : HO} (h : msk M H b = some o) : ¬ M b ∧ H b = some o := by
  by_cases m : M b
  · rw [msk_none m] at h; cases h
  · rw [msk_of m] at h; exact ⟨m, h⟩
theorem msk_le {M : Addr → Prop} {H : Hp} : Same (msk M H) H := fun b o h => (msk_some h).2
theorem msk_same {M : Addr → Prop} {H H' : Hp} (e : Same H H') : Same (msk M H) (msk M H') := fun b o h => by
  obtain ⟨m, h⟩ := msk_some h
  rw [msk_of m]
  exact e b o h
theorem msk_sub {M M' : Addr → Prop} {H : Hp} (e : ∀ a, M' a → M a) : Same (msk M H) (msk M' H) := fun b o h => by
  obtain ⟨m, h⟩ := msk_some h
  rw [msk_of fun z => m (e b z)]
  exact h
/-- tracked ahead, hidden by M; behind: hidden by M' of which nothing tracked ahead (and open) is -/
theorem msk_go {M M' : Addr → Prop} {H H' : Hp} (e : Same (msk M H) H') (n : ∀ a o, msk M H a = some o → ¬ M' a) : Same (msk M H) (msk M' H') := fun b o h => by
  rw [msk_of (n b o h)]
  exact e b o h
theorem same_new {H : Hp} {p : Addr} {o : HO} (h : H p = none) : Same H (upd H p o) := fun b x e => by
  rw [upd_ne (ne_of_none e h)]
  exact e
theorem msk_msk {M M' : Addr → Prop} {H : Hp} : msk M (msk M' H) = msk (fun a => M a ∨ M' a) H := by
  funext b
  by_cases h : M b
  · rw [msk_none h, msk_none (M := fun a => M a ∨ M' a) (.inl h)]
  · rw [msk_of h]
    by_cases h' : M' b
    · rw [msk_none h', msk_none (M := fun a => M a ∨ M' a) (.inr h')]
    · rw [msk_of h', msk_of (M := fun a => M a ∨ M' a) fun z => z.elim h h']

/-! ### slots -/
/-- a slot: of no known value; data; a list that only this slot holds -/
inductive Sl where
  | u
  | d (x : PyData)
  | o (xs : List PyData)
  /-- a value that only the context tells (a caught exception) -/
  | x
abbrev Rho := List Sl
def ownM (B : Addr → Prop) (ω : Nat → Addr) (ρ : Rho) : Addr → Prop := fun a => B a ∨ ∃ i xs, ρ[i]? = some (.o xs) ∧ ω i = a
def SlotR (K : PySem.W.Frag) (p : Option (V × (Hp → Prop))) (M : Addr → Prop) (H : Hp) (a : Addr) : Sl → Option V → Prop
  | .u, _ => True
  | .d x, v => ∃ y, v = some y ∧ Dp K (msk M H) y x
  | .o xs, v => v = some (.ref a) ∧ ∃ ys, H a = some (.lst ys) ∧ DpAll K (msk M H) ys xs
  | .x, v => ∃ w φ, p = some (w, φ) ∧ v = some w ∧ φ (msk M H) ∧ ∀ H H' : Hp, Same H H' → φ H → φ H'
structure SR (K : PySem.W.Frag) (P : Nat → Option (V × (Hp → Prop))) (B : Addr → Prop) (H0 : Hp) (ω : Nat → Addr) (ρ : Rho) (σ : St) (H : Hp) : Prop where
  len : σ.length = ρ.length
  sl : ∀ i s v, ρ[i]? = some s → σ[i]? = some v → SlotR K (P i) (ownM B ω ρ) H (ω i) s v
  inj : ∀ i j xs ys, ρ[i]? = some (.o xs) → ρ[j]? = some (.o ys) → ω i = ω j → i = j
  new : ∀ i xs, ρ[i]? = some (.o xs) → H0 (ω i) = none ∧ ¬ B (ω i)
  same : Same H0 H
  base : ∀ a, B a → ∃ o, H a = some o
theorem SlotR.ext {K : PySem.W.Frag} {p : Option (V × (Hp → Prop))} {M : Addr → Prop} {H H' : Hp} {a : Addr} {s : Sl} {v : Option V} (e : Same H H') (h : SlotR K p M H a s v) : SlotR K p M H' a s v := by
  cases s with
  | u => trivial
  | x =>
    obtain ⟨w, φ, h1, h2, h3, h4⟩ := h
    exact ⟨w, φ, h1, h2, h4 _ _ (msk_same e) h3, h4⟩
  | d x =>
    obtain ⟨y, ey, q⟩ := h
    exact ⟨y, ey, Dp_same (msk_same e) _ _ q⟩
  | o xs =>
    obtain ⟨ey, ys, q1, q2⟩ := h
    exact ⟨ey, ys, e _ _ q1, DpAll_same (msk_same e) _ _ q2⟩
section
variable {K : PySem.W.Frag} {P : Nat → Option (V × (Hp → Prop))} {B : Addr → Prop} {H0 H H' : Hp} {ω : Nat → Addr} {ρ : Rho} {σ : St}
theorem SR.ext (S : SR K P B H0 ω ρ σ H) (e : Same H H') : SR K P B H0 ω ρ σ H' :=
  ⟨S.len, fun i s v h1 h2 => (S.sl i s v h1 h2).ext e, S.inj, S.new, S.same.trans e, fun a h => let ⟨o, q⟩ := S.base a h; ⟨o, e _ _ q⟩⟩
theorem SR.at (S : SR K P B H0 ω ρ σ H) {i : Nat} {s : Sl} (h : ρ[i]? = some s) : ∃ v, σ[i]? = some v ∧ SlotR K (P i) (ownM B ω ρ) H (ω i) s v := by
  have hl : i < σ.length := by
    rw [S.len]
    exact (List.getElem?_eq_some_iff.mp h).1
  exact ⟨σ[i], List.getElem?_eq_getElem hl, S.sl i s _ h (List.getElem?_eq_getElem hl)⟩
/-- what is hidden is tracked -/
theorem SR.dom (S : SR K P B H0 ω ρ σ H) : ∀ a, ownM B ω ρ a → ∃ o, H a = some o := by
  rintro a (h | ⟨i, xs, h, rfl⟩)
  · exact S.base a h
  · obtain ⟨v, _, _, ys, q, _⟩ := S.at h
    exact ⟨_, q⟩
theorem SR.fresh (S : SR K P B H0 ω ρ σ H) {p : Addr} (h : H p = none) : ¬ ownM B ω ρ p := fun z => by
  obtain ⟨o, q⟩ := S.dom p z
  rw [h] at q; cases q
theorem SR.since (S : SR K P B H0 ω ρ σ H) : Same (msk B H0) (msk (ownM B ω ρ) H) := msk_go (fun b o h => S.same b o (msk_some h).2) fun a o h z => by
  obtain ⟨m, h⟩ := msk_some h
  rcases z with z | ⟨i, xs, q, e⟩
  · exact m z
  · subst e
    rw [(S.new i xs q).1] at h
    cases h
/-- as from now on -/
noncomputable def rebase (ω : Nat → Addr) (ρ : Rho) (H : Hp) : Hp := msk (ownM (fun _ => False) ω ρ) H
theorem SR.rebase (S : SR K P B H0 ω ρ σ H) : SR K P B (rebase ω ρ H) ω ρ σ H :=
  ⟨S.len, S.sl, S.inj, fun i xs h => ⟨msk_none (.inr ⟨i, xs, h, rfl⟩), (S.new i xs h).2⟩, msk_le, S.base⟩
theorem SR.below (S : SR K P B H0 ω ρ σ H) : Same H0 (DL.rebase ω ρ H) := fun b o h => by
  have m : ¬ ownM (fun _ => False) ω ρ b := by
    rintro (z | ⟨i, xs, q, e⟩)
    · exact z
    · subst e
      rw [(S.new i xs q).1] at h
      cases h
  show msk _ H b = _
  rw [msk_of m]
  exact S.same _ _ h
theorem SR.down {H1 : Hp} (e : Same H0 H1) (S : SR K P B H1 ω ρ σ H) : SR K P B H0 ω ρ σ H :=
  ⟨S.len, S.sl, S.inj, fun i xs h => ⟨e.free (S.new i xs h).1, (S.new i xs h).2⟩, e.trans S.same, S.base⟩
/-- what is open now -/
theorem rebase_msk : msk B (DL.rebase ω ρ H) = msk (ownM B ω ρ) H := by
  show msk B (msk _ H) = _
  rw [msk_msk]
  congr 1
  funext a
  apply propext
  constructor
  · rintro (h | h | h)
    · exact .inl h
    · exact h.elim
    · exact .inr h
  · rintro (h | h)
    · exact .inl h
    · exact .inr (.inr h)
end
theorem set_get {α : Type} {l : List α} {i j : Nat} {x y : α} (h : (l.set i x)[j]? = some y) : (i = j ∧ y = x) ∨ (i ≠ j ∧ l[j]? = some y) := by
  by_cases e : i = j
  · subst e
    rw [List.getElem?_set_self'] at h
    cases q : l[i]? with
    | none => rw [q] at h; cases h
    | some z => rw [q] at h; exact .inl ⟨rfl, (Option.some.inj h).symm⟩
  · rw [List.getElem?_set_ne e] at h
    exact .inr ⟨e, h⟩
section
variable {K : PySem.W.Frag} {P : Nat → Option (V × (Hp → Prop))} {B : Addr → Prop} {H0 H H' : Hp} {ω : Nat → Addr} {ρ : Rho} {σ : St}
theorem ownM_set (i : Nat) (x : PyData) : ∀ a, ownM B ω (ρ.set i (.d x)) a → ownM B ω ρ a := by
  rintro a (h | ⟨j, xs, h, e⟩)
  · exact .inl h
  · rcases set_get h with ⟨_, z⟩ | ⟨_, z⟩
    · cases z
    · exact .inr ⟨j, xs, z, e⟩
theorem ownM_setu (i : Nat) : ∀ a, ownM B ω (ρ.set i .u) a → ownM B ω ρ a := by
  rintro a (h | ⟨j, xs, h, e⟩)
  · exact .inl h
  · rcases set_get h with ⟨_, z⟩ | ⟨_, z⟩
    · cases z
    · exact .inr ⟨j, xs, z, e⟩
/-- fewer are hidden -/
theorem SlotR.sub {p : Option (V × (Hp → Prop))} {M M' : Addr → Prop} {a : Addr} {s : Sl} {v : Option V} (e : ∀ a, M' a → M a) (h : SlotR K p M H a s v) : SlotR K p M' H a s v := by
  cases s with
  | u => trivial
  | x =>
    obtain ⟨w, φ, h1, h2, h3, h4⟩ := h
    exact ⟨w, φ, h1, h2, h4 _ _ (msk_sub e) h3, h4⟩
  | d x =>
    obtain ⟨y, ey, q⟩ := h
    exact ⟨y, ey, Dp_same (msk_sub e) _ _ q⟩
  | o xs =>
    obtain ⟨ey, ys, q1, q2⟩ := h
    exact ⟨ey, ys, q1, DpAll_same (msk_sub e) _ _ q2⟩
/-- a slot gets data -/
theorem SR.set (S : SR K P B H0 ω ρ σ H) {v : V} {x : PyData} (i : Nat) (h : Dp K (msk (ownM B ω ρ) H) v x) : SR K P B H0 ω (ρ.set i (.d x)) (σ.set i (some v)) H := by
  refine ⟨by rw [List.length_set, List.length_set, S.len], fun j s w h1 h2 => ?_, fun j k xs ys h1 h2 => ?_, fun j xs h1 => ?_, S.same, S.base⟩
  · rcases set_get h1 with ⟨rfl, rfl⟩ | ⟨e, h1⟩
    · rcases set_get h2 with ⟨_, rfl⟩ | ⟨e, _⟩
      · exact ⟨v, rfl, Dp_same (msk_sub (ownM_set i x)) _ _ h⟩
      · exact absurd rfl e
    · rcases set_get h2 with ⟨e', _⟩ | ⟨_, h2⟩
      · exact absurd e' e
      · exact (S.sl j s w h1 h2).sub (ownM_set i x)
  · rcases set_get h1 with ⟨_, z⟩ | ⟨_, h1⟩
    · cases z
    · rcases set_get h2 with ⟨_, z⟩ | ⟨_, h2⟩
      · cases z
      · exact S.inj j k xs ys h1 h2
  · rcases set_get h1 with ⟨_, z⟩ | ⟨_, h1⟩
    · cases z
    · exact S.new j xs h1
/-- a slot is forgotten -/
theorem SR.forget (S : SR K P B H0 ω ρ σ H) {v : Option V} (i : Nat) : SR K P B H0 ω (ρ.set i .u) (σ.set i v) H := by
  refine ⟨by rw [List.length_set, List.length_set, S.len], fun j s w h1 h2 => ?_, fun j k xs ys h1 h2 => ?_, fun j xs h1 => ?_, S.same, S.base⟩
  · rcases set_get h1 with ⟨rfl, rfl⟩ | ⟨e, h1⟩
    · trivial
    · rcases set_get h2 with ⟨e', _⟩ | ⟨_, h2⟩
      · exact absurd e' e
      · exact (S.sl j s w h1 h2).sub (ownM_setu i)
  · rcases set_get h1 with ⟨_, z⟩ | ⟨_, h1⟩
    · cases z
    · rcases set_get h2 with ⟨_, z⟩ | ⟨_, h2⟩
      · cases z
      · exact S.inj j k xs ys h1 h2
  · rcases set_get h1 with ⟨_, z⟩ | ⟨_, h1⟩
    · cases z
    · exact S.new j xs h1
/-- a slot gets a list that nothing else holds; H: ahead of the expression -/
theorem SR.setO (S : SR K P B H0 ω ρ σ H) (e : Same H H') {a : Addr} {ys : List V} {xs : List PyData} (i : Nat) (hi : i < ρ.length) (ha : H a = none) (h1 : H' a = some (.lst ys))
    (h2 : DpAll K (msk (fun b => ownM B ω ρ b ∨ b = a) H') ys xs) : SR K P B H0 (fun j => if j = i then a else ω j) (ρ.set i (.o xs)) (σ.set i (some (.ref a))) H' := by
  have M : ∀ b, ownM B (fun j => if j = i then a else ω j) (ρ.set i (.o xs)) b → ownM B ω ρ b ∨ b = a := by
    rintro b (h | ⟨j, zs, h, e⟩)
    · exact .inl (.inl h)
    · rcases set_get h with ⟨rfl, _⟩ | ⟨ne, h⟩
      · simp only [if_pos] at e
        exact .inr e.symm
      · simp only [if_neg (fun z : j = i => ne z.symm)] at e
        exact .inl (.inr ⟨j, zs, h, e⟩)
  have hna : ∀ b o, H b = some o → b ≠ a := fun b o q z => by
    subst z
    rw [ha] at q; cases q
  have nw : ∀ {j : Nat} {zs : List PyData}, ρ[j]? = some (.o zs) → ω j ≠ a := fun {j zs} h z => by
    obtain ⟨o, q⟩ := S.dom _ (.inr ⟨j, zs, h, rfl⟩)
    exact hna _ _ q z
  refine ⟨by rw [List.length_set, List.length_set, S.len], fun j s w g1 g2 => ?_, fun j k zs ws g1 g2 e' => ?_, fun j zs g1 => ?_, S.same.trans e, fun b hb => let ⟨o, q⟩ := S.base b hb; ⟨o, e _ _ q⟩⟩
  · rcases set_get g1 with ⟨rfl, rfl⟩ | ⟨ne, g1⟩
    · rcases set_get g2 with ⟨_, rfl⟩ | ⟨ne, _⟩
      · refine ⟨by simp, ys, by simpa using h1, DpAll_same (msk_sub M) _ _ h2⟩
      · exact absurd rfl ne
    · rcases set_get g2 with ⟨e', _⟩ | ⟨_, g2⟩
      · exact absurd e' ne
      · have q := S.sl j s w g1 g2
        have up : Same (msk (ownM B ω ρ) H) (msk (ownM B (fun j => if j = i then a else ω j) (ρ.set i (.o xs))) H') := msk_go (fun b o h => e b o (msk_some h).2) fun b o h z => by
          obtain ⟨m, h⟩ := msk_some h
          rcases M b z with z | z
          · exact m z
          · exact hna _ _ h z
        show SlotR K (P j) _ H' (if j = i then a else ω j) s w
        rw [if_neg (fun z => ne z.symm)]
        cases s with
        | u => trivial
        | x =>
          obtain ⟨w, φ, h1, h2, h3, h4⟩ := q
          exact ⟨w, φ, h1, h2, h4 _ _ up h3, h4⟩
        | d x =>
          obtain ⟨y, ey, q⟩ := q
          exact ⟨y, ey, Dp_same up _ _ q⟩
        | o zs =>
          obtain ⟨ey, vs, q1, q2⟩ := q
          exact ⟨ey, vs, e _ _ q1, DpAll_same up _ _ q2⟩
  · rcases set_get g1 with ⟨rfl, _⟩ | ⟨n1, g1⟩
    · rcases set_get g2 with ⟨rfl, _⟩ | ⟨n2, g2⟩
      · rfl
      · simp only [if_pos, if_neg (fun z : k = i => n2 z.symm)] at e'
        exact absurd e'.symm (nw g2)
    · rcases set_get g2 with ⟨rfl, _⟩ | ⟨n2, g2⟩
      · simp only [if_pos, if_neg (fun z : j = i => n1 z.symm)] at e'
        exact absurd e' (nw g1)
      · simp only [if_neg (fun z : k = i => n2 z.symm), if_neg (fun z : j = i => n1 z.symm)] at e'
        exact S.inj j k zs ws g1 g2 e'
  · rcases set_get g1 with ⟨rfl, _⟩ | ⟨n1, g1⟩
    · simp only [if_pos]
      exact ⟨S.same.free ha, fun z => let ⟨o, q⟩ := S.base _ z; hna _ _ q rfl⟩
    · simp only [if_neg (fun z : j = i => n1 z.symm)]
      exact S.new j zs g1
/-- an own list changes -/
theorem SR.chg (S : SR K P B H0 ω ρ σ H) {i : Nat} {xs : List PyData} (hi : ρ[i]? = some (.o xs)) {ys' : List V} {xs' : List PyData} (h : DpAll K (msk (ownM B ω ρ) H) ys' xs') :
    SR K P B H0 ω (ρ.set i (.o xs')) σ (upd H (ω i) (.lst ys')) := by
  have hil : i < ρ.length := (List.getElem?_eq_some_iff.mp hi).1
  have me : ∀ a, ownM B ω (ρ.set i (.o xs')) a ↔ ownM B ω ρ a := fun a => by
    constructor
    · rintro (h | ⟨j, zs, h, e⟩)
      · exact .inl h
      · rcases set_get h with ⟨rfl, _⟩ | ⟨_, h⟩
        · exact .inr ⟨_, _, hi, e⟩
        · exact .inr ⟨_, _, h, e⟩
    · rintro (h | ⟨j, zs, h, e⟩)
      · exact .inl h
      · by_cases q : i = j
        · subst q
          exact .inr ⟨i, xs', by rw [List.getElem?_set_self hil], e⟩
        · exact .inr ⟨j, zs, by rw [List.getElem?_set_ne q]; exact h, e⟩
  have mm : ownM B ω (ρ.set i (.o xs')) = ownM B ω ρ := by
    funext a
    exact propext (me a)
  have hid : ownM B ω ρ (ω i) := .inr ⟨i, xs, hi, rfl⟩
  have mu : msk (ownM B ω ρ) (upd H (ω i) (.lst ys')) = msk (ownM B ω ρ) H := by
    funext b
    by_cases m : ownM B ω ρ b
    · rw [msk_none m, msk_none m]
    · rw [msk_of m, msk_of m, upd_ne]
      rintro rfl
      exact m hid
  refine ⟨by rw [List.length_set, S.len], fun j s w g1 g2 => ?_, fun j k zs ws g1 g2 e' => ?_, fun j zs g1 => ?_, fun b o q => ?_, fun b hb => ?_⟩
  · rw [mm]
    rcases set_get g1 with ⟨rfl, rfl⟩ | ⟨ne, g1⟩
    · obtain ⟨w', hw, ew, _⟩ := S.at hi
      rw [hw] at g2
      cases g2
      exact ⟨ew, ys', upd_same, by rw [mu]; exact h⟩
    · have q := S.sl j s w g1 g2
      cases s with
      | u => trivial
      | x =>
        obtain ⟨w, φ, h1, h2, h3, h4⟩ := q
        exact ⟨w, φ, h1, h2, by rw [mu]; exact h3, h4⟩
      | d x =>
        obtain ⟨y, ey, q⟩ := q
        exact ⟨y, ey, by rw [mu]; exact q⟩
      | o zs =>
        obtain ⟨ey, vs, q1, q2⟩ := q
        refine ⟨ey, vs, ?_, by rw [mu]; exact q2⟩
        rw [upd_ne]
        · exact q1
        · intro z
          exact ne (S.inj i j _ _ hi g1 z.symm)
  · rcases set_get g1 with ⟨rfl, _⟩ | ⟨n1, g1⟩
    · rcases set_get g2 with ⟨rfl, _⟩ | ⟨n2, g2⟩
      · rfl
      · exact S.inj _ _ _ _ hi g2 e'
    · rcases set_get g2 with ⟨rfl, _⟩ | ⟨n2, g2⟩
      · exact S.inj _ _ _ _ g1 hi e'
      · exact S.inj j k zs ws g1 g2 e'
  · rcases set_get g1 with ⟨rfl, _⟩ | ⟨n1, g1⟩
    · exact S.new _ _ hi
    · exact S.new j zs g1
  · rw [upd_ne]
    · exact S.same _ _ q
    · rintro rfl
      have := S.same.trans (Same.refl H) _ _ q
      rw [(S.new i xs hi).1] at q
      cases q
  · obtain ⟨o, q⟩ := S.base b hb
    by_cases e : b = ω i
    · exact absurd (e ▸ hb) (S.new i xs hi).2
    · exact ⟨o, by rw [upd_ne e]; exact q⟩
/-- own lists as data -/
def frz1 : Sl → Sl
  | .o xs => .d (.list xs)
  | s => s
theorem ownM_frz : ∀ a, ownM B ω (ρ.map frz1) a → B a := by
  rintro a (h | ⟨j, zs, h, e⟩)
  · exact h
  · rw [List.getElem?_map] at h
    cases q : ρ[j]? with
    | none => rw [q] at h; cases h
    | some s =>
      rw [q] at h
      cases s <;> cases h
theorem SR.frzAll (S : SR K P B H0 ω ρ σ H) : SR K P B H0 ω (ρ.map frz1) σ H := by
  refine ⟨by rw [List.length_map, S.len], fun j s w g1 g2 => ?_, fun j k xs ys h1 h2 => ?_, fun j xs h1 => ?_, S.same, S.base⟩
  · rw [List.getElem?_map] at g1
    cases q : ρ[j]? with
    | none => rw [q] at g1; cases g1
    | some s' =>
      rw [q] at g1
      cases g1
      have r := S.sl j s' w q g2
      have sub : ∀ a, ownM B ω (ρ.map frz1) a → ownM B ω ρ a := fun a h => .inl (ownM_frz a h)
      cases s' with
      | u => trivial
      | x => exact r.sub sub
      | d x => exact r.sub sub
      | o xs =>
        obtain ⟨ey, ys, q1, q2⟩ := r
        refine ⟨_, ey, .lst (.inl (.inl ?_)) (DpAll_same (msk_sub sub) _ _ q2)⟩
        rw [msk_of]
        · exact q1
        · intro z
          exact (S.new j xs q).2 (ownM_frz _ z)
  all_goals
    exfalso
    rw [List.getElem?_map] at h1
    cases q : ρ[j]? with
    | none => rw [q] at h1; cases h1
    | some s =>
      rw [q] at h1
      cases s <;> cases h1
theorem SR.frz (S : SR K P B H0 ω ρ σ H) (i : Nat) {xs : List PyData} (hi : ρ[i]? = some (.o xs)) : SR K P B H0 ω (ρ.set i (.d (.list xs))) σ H := by
  have hil : i < ρ.length := (List.getElem?_eq_some_iff.mp hi).1
  obtain ⟨w, hw, ew, ys, q1, q2⟩ := S.at hi
  have up := ownM_set (B := B) (ω := ω) (ρ := ρ) i (.list xs)
  have hn : ¬ ownM B ω (ρ.set i (.d (.list xs))) (ω i) := by
    rintro (h | ⟨j, zs, h, e⟩)
    · exact (S.new i xs hi).2 h
    · rcases set_get h with ⟨_, z⟩ | ⟨ne, z⟩
      · cases z
      · exact ne (S.inj _ _ _ _ hi z e.symm)
  refine ⟨by rw [List.length_set, S.len], fun j s v g1 g2 => ?_, fun j k zs ws h1 h2 => ?_, fun j zs h1 => ?_, S.same, S.base⟩
  · rcases set_get g1 with ⟨rfl, rfl⟩ | ⟨ne, g1⟩
    · rw [hw] at g2
      cases g2
      refine ⟨_, ew, .lst (.inl (.inl ?_)) (DpAll_same (msk_sub up) _ _ q2)⟩
      rw [msk_of hn]
      exact q1
    · exact (S.sl j s v g1 g2).sub up
  · rcases set_get h1 with ⟨_, z⟩ | ⟨_, h1⟩
    · cases z
    · rcases set_get h2 with ⟨_, z⟩ | ⟨_, h2⟩
      · cases z
      · exact S.inj j k zs ws h1 h2
  · rcases set_get h1 with ⟨_, z⟩ | ⟨_, h1⟩
    · cases z
    · exact S.new j zs h1
end
end DL
end
section
set_option Elab.async false
set_option linter.all false
set_option maxRecDepth 100000
set_option maxHeartbeats 4000000
/-! DL2: expressions, tests, arguments. -/
namespace DL
open PySem PySem.Spec PyProof.Rows L2

/-- where the classes of exceptions stand -/
structure CM where
  adr : Str → Addr
  P : Nat → Option (V × (Hp → Prop))
def ExR (K : PySem.W.Frag) (cm : CM) (H : Hp) (e : Exn) (c : Value) (dd : Option Addr) : Prop :=
  c = .ref (cm.adr e.cls) ∧ match e.fs with
    | none => dd = none
    | some fs => ∃ a gs, dd = some a ∧ H a = some (.xd gs) ∧ gs.map (·.1) = fs.map (·.1) ∧ DpAll K H (gs.map (·.2)) (fs.map (·.2))
theorem ExR.same {K : PySem.W.Frag} {cm : CM} {H H' : Hp} {e : Exn} {c : Value} {dd : Option Addr} (s : Same H H') (h : ExR K cm H e c dd) : ExR K cm H' e c dd := by
  obtain ⟨h1, h2⟩ := h
  refine ⟨h1, ?_⟩
  cases q : e.fs with
  | none =>
    rw [q] at h2
    exact h2
  | some fs =>
    rw [q] at h2
    obtain ⟨a, gs, e1, e2, e3, e4⟩ := h2
    exact ⟨a, gs, e1, s _ _ e2, e3, DpAll_same s _ _ e4⟩
/-- how an expression's value is told: v, as data; p, data or a list that a slot holds alone; f, a list that nothing holds -/
inductive Md where
  | v | p | f
def Rm (K : PySem.W.Frag) : Md → (Addr → Prop) → Hp → Hp → V → PyData → Prop
  | .v, M, _, H', x, d => Dp K (msk M H') x d
  | .p, M, _, H', x, d => Dp K (msk M H') x d ∨ ∃ a ys xs, x = .ref a ∧ d = .list xs ∧ H' a = some (.lst ys) ∧ DpAll K (msk M H') ys xs
  | .f, M, H, H', x, d => ∃ a ys xs, x = .ref a ∧ d = .list xs ∧ H a = none ∧ H' a = some (.lst ys) ∧ DpAll K (msk (fun b => M b ∨ b = a) H') ys xs
section
variable {K : PySem.W.Frag} {M : Addr → Prop} {H H1 H' : Hp} {x : V} {d : PyData} {m : Md}
theorem Rm.keep (e : Same H1 H') (h : Rm K m M H H1 x d) : Rm K m M H H' x d := by
  cases m with
  | v => exact Dp_same (msk_same e) _ _ h
  | p =>
    rcases h with h | ⟨a, ys, xs, h1, h2, h3, h4⟩
    · exact .inl (Dp_same (msk_same e) _ _ h)
    · exact .inr ⟨a, ys, xs, h1, h2, e _ _ h3, DpAll_same (msk_same e) _ _ h4⟩
  | f =>
    obtain ⟨a, ys, xs, h1, h2, h3, h4, h5⟩ := h
    exact ⟨a, ys, xs, h1, h2, h3, e _ _ h4, DpAll_same (msk_same e) _ _ h5⟩
theorem Rm.anti (e : Same H H1) (h : Rm K m M H1 H' x d) : Rm K m M H H' x d := by
  cases m with
  | v => exact h
  | p => exact h
  | f =>
    obtain ⟨a, ys, xs, h1, h2, h3, h4, h5⟩ := h
    exact ⟨a, ys, xs, h1, h2, e.free h3, h4, h5⟩
theorem Rm.p_any {H2 : Hp} (h : Rm K .p M H H' x d) : Rm K .p M H2 H' x d := h
/-- data or list, seen through the whole heap -/
theorem Rm.dp (h : Rm K .p M H H' x d) : Dp K H' x d := by
  rcases h with h | ⟨a, ys, xs, rfl, rfl, h3, h4⟩
  · exact Dp_same msk_le _ _ h
  · exact .lst (.inl (.inl h3)) (DpAll_same msk_le _ _ h4)
theorem Rm.v_p (h : Rm K .v M H H' x d) : Rm K .p M H H' x d := .inl h
theorem Rm.f_v (b : ∀ a, M a → ∃ o, H a = some o) (h : Rm K .f M H H' x d) : Rm K .v M H H' x d := by
  obtain ⟨a, ys, xs, rfl, rfl, h3, h4, h5⟩ := h
  have na : ¬ M a := fun z => by
    obtain ⟨o, q⟩ := b a z
    rw [h3] at q; cases q
  refine .lst (.inl (.inl ?_)) (DpAll_same (msk_sub fun b z => .inl z) _ _ h5)
  rw [msk_of na]
  exact h4
/-- a list's parts -/
theorem Rm.lst {xs : List PyData} (h : Rm K .p M H H' x (.list xs)) : ∃ a ys, x = .ref a ∧ SqL K H' a ys ∧ DpAll K (msk M H') ys xs := by
  rcases h with h | ⟨a, ys, zs, rfl, e, h3, h4⟩
  · cases h with
    | lst hs ha => exact ⟨_, _, rfl, Same.seq msk_le hs, ha⟩
  · cases e
    exact ⟨a, ys, rfl, .inl (.inl h3), h4⟩
theorem Rm.tup {xs : List PyData} (h : Rm K .p M H H' x (.tuple xs)) : ∃ a ys, x = .ref a ∧ SqT K H' a ys ∧ DpAll K (msk M H') ys xs := by
  rcases h with h | ⟨a, ys, zs, rfl, e, h3, h4⟩
  · cases h with
    | tup hs ha => exact ⟨_, _, rfl, Same.seqT msk_le hs, ha⟩
  · cases e
theorem Rm.intP {i : Int} (h : Rm K .p M H H' x (.int i)) : x = .int i := by
  rcases h with h | ⟨a, ys, zs, rfl, e, h3, h4⟩
  · cases h; rfl
  · cases e
theorem Rm.strP {i : Str} (h : Rm K .p M H H' x (.str i)) : x = .str i := by
  rcases h with h | ⟨a, ys, zs, rfl, e, h3, h4⟩
  · cases h; rfl
  · cases e
theorem Rm.boolP {i : Bool} (h : Rm K .p M H H' x (.bool i)) : x = .bl i := by
  rcases h with h | ⟨a, ys, zs, rfl, e, h3, h4⟩
  · cases h; rfl
  · cases e
theorem Rm.noneP (h : Rm K .p M H H' x .none) : x = .non := by
  rcases h with h | ⟨a, ys, zs, rfl, e, h3, h4⟩
  · cases h; rfl
  · cases e
end

/-! ### what is wanted behind -/
def Post {α β : Type} (K : PySem.W.Frag) (cm : CM) (M : Addr → Prop) (R : Hp → β → α → Prop) (H : Hp) (Q : β → Hp → Prop) (W : Value → Option Addr → Hp → Prop) : Res α → Prop
  | .ok d => ∀ v H', Same H H' → R H' v d → Q v H'
  | .ex e => ∀ c dd H', Same H H' → ExR K cm (msk M H') e c dd → W c dd H'
  | .bad => False
def Ok {α β : Type} (K : PySem.W.Frag) (cm : CM) (W : WX) (R : (Addr → Prop) → Hp → Hp → β → α → Prop) (t : St → Hp → (β → Hp → Prop) → Prop) (f : Rho → Res α) : Prop :=
  ∀ B H0 ω ρ σ H Q, SR K cm.P B H0 ω ρ σ H → Post K cm (ownM B ω ρ) (R (ownM B ω ρ) H) H Q (fun c dd H' => W c dd σ H') (f ρ) → t σ H Q
abbrev Ev (K : PySem.W.Frag) (cm : CM) (W : WX) (m : Md) (t : TE) (f : Rho → Res PyData) : Prop := Ok K cm W (Rm K m) t f
abbrev RA (K : PySem.W.Frag) : (Addr → Prop) → Hp → Hp → List V → List PyData → Prop := fun M _ H' xs ds => DpAll K (msk M H') xs ds
/-- arguments that may be lists of slots -/
inductive RPs (K : PySem.W.Frag) (M : Addr → Prop) (H : Hp) : List V → List PyData → Prop
  | nil : RPs K M H [] []
  | cons {x : V} {d : PyData} {xs : List V} {ds : List PyData} : Rm K .p M H H x d → RPs K M H xs ds → RPs K M H (x :: xs) (d :: ds)
theorem RPs.keep {K : PySem.W.Frag} {M : Addr → Prop} {H H' : Hp} (e : Same H H') : ∀ {xs : List V} {ds : List PyData}, RPs K M H xs ds → RPs K M H' xs ds
  | _, _, .nil => .nil
  | _, _, .cons h t => .cons (Rm.p_any (Rm.keep e h)) (RPs.keep e t)
abbrev RQ (K : PySem.W.Frag) : (Addr → Prop) → Hp → Hp → List V → List PyData → Prop := fun M _ H' xs ds => RPs K M H' xs ds
abbrev RB : (Addr → Prop) → Hp → Hp → Bool → Bool → Prop := fun _ _ _ b c => b = c
abbrev RO : (Addr → Prop) → Hp → Hp → Option Int → Option Int → Prop := fun _ _ _ b c => b = c
section
variable {K : PySem.W.Frag} {cm : CM} {W : WX}
theorem Post.up {α β : Type} {M : Addr → Prop} {R R' : Hp → β → α → Prop} {H H1 : Hp} {Q : β → Hp → Prop} {Wx : Value → Option Addr → Hp → Prop} {r : Res α} (e : Same H H1) (hr : ∀ H' v d, Same H1 H' → R' H' v d → R H' v d)
    (h : Post K cm M R H Q Wx r) : Post K cm M R' H1 Q Wx r := by
  cases r with
  | ok d => exact fun v H' s q => h v H' (e.trans s) (hr H' v d s q)
  | ex x => exact fun c dd H' s q => h c dd H' (e.trans s) q
  | bad => exact h
/-- the first part of a reading -/
theorem Ok.go {α β γ δ : Type} {R : (Addr → Prop) → Hp → Hp → β → α → Prop} {R2 : Hp → δ → γ → Prop} {t : St → Hp → (β → Hp → Prop) → Prop} {f : Rho → Res α} {u : β → Hp → Prop} {g : α → Res γ}
    {B : Addr → Prop} {H0 : Hp} {ω : Nat → Addr} {ρ : Rho} {σ : St} {H : Hp} {Q : δ → Hp → Prop} (ht : Ok K cm W R t f) (S : SR K cm.P B H0 ω ρ σ H) (h : Post K cm (ownM B ω ρ) R2 H Q (fun c dd H' => W c dd σ H') ((f ρ).bind g))
    (hu : ∀ x a H1, Same H H1 → SR K cm.P B H0 ω ρ σ H1 → R (ownM B ω ρ) H H1 x a → Post K cm (ownM B ω ρ) R2 H1 Q (fun c dd H' => W c dd σ H') (g a) → u x H1) : t σ H u := by
  refine ht B H0 ω ρ σ H _ S ?_
  cases q : f ρ with
  | ok a =>
    rw [q] at h
    exact fun x H1 e r => hu x a H1 e (S.ext e) r (Post.up e (fun _ _ _ _ z => z) h)
  | ex x =>
    rw [q] at h
    exact h
  | bad =>
    rw [q] at h
    exact h
theorem Ev.v_p {t : TE} {f : Rho → Res PyData} (h : Ev K cm W .v t f) : Ev K cm W .p t f := fun B H0 ω ρ σ H Q S q => h B H0 ω ρ σ H Q S (Post.up (Same.refl H) (fun _ _ _ _ z => z.v_p) q)
theorem Ev.f_v {t : TE} {f : Rho → Res PyData} (h : Ev K cm W .f t f) : Ev K cm W .v t f := fun B H0 ω ρ σ H Q S q => h B H0 ω ρ σ H Q S (Post.up (Same.refl H) (fun _ _ _ _ z => z.f_v S.dom) q)
end

/-! ### the judgements -/
def PEV (X : Cx) (cm : CM) (W : WX) (m : Md) (e : Expr) (f : Rho → Res PyData) : Prop := ∃ t, PE X e t ∧ Ev X.K cm W m t f
def PAV (X : Cx) (cm : CM) (W : WX) (es : List Expr) (f : Rho → Res (List PyData)) : Prop := ∃ t, PA X es t ∧ Ok X.K cm W (RA X.K) t f
def PQV (X : Cx) (cm : CM) (W : WX) (es : List Expr) (f : Rho → Res (List PyData)) : Prop := ∃ t, PA X es t ∧ Ok X.K cm W (RQ X.K) t f
def PTV (X : Cx) (cm : CM) (W : WX) (e : Expr) (f : Rho → Res Bool) : Prop := ∃ t, PT X e t ∧ Ok X.K cm W RB t f
def PWV (X : Cx) (cm : CM) (W : WX) (e : Expr) (f : Rho → Res Bool) : Prop := ∃ t, PW X e t ∧ Ok X.K cm W RB t f
def POV (X : Cx) (cm : CM) (W : WX) (e : Option Expr) (f : Rho → Res (Option Int)) : Prop := ∃ t, PO X e t ∧ Ok X.K cm W RO t f

/-! ### the plain side -/
def eV (i : Nat) : Rho → Res PyData := fun ρ => match ρ[i]? with
  | some (.d x) => .ok x
  | _ => .bad
def eP (i : Nat) : Rho → Res PyData := fun ρ => match ρ[i]? with
  | some (.d x) => .ok x
  | some (.o xs) => .ok (.list xs)
  | _ => .bad
def eC (d : PyData) : Rho → Res PyData := fun _ => .ok d
def e1 (g : PyData → Res PyData) (f : Rho → Res PyData) : Rho → Res PyData := fun ρ => (f ρ).bind g
def e2 (g : PyData → PyData → Res PyData) (f1 f2 : Rho → Res PyData) : Rho → Res PyData := fun ρ => (f1 ρ).bind fun a => (f2 ρ).bind fun b => g a b
def aN : Rho → Res (List PyData) := fun _ => .ok []
def aC (f : Rho → Res PyData) (g : Rho → Res (List PyData)) : Rho → Res (List PyData) := fun ρ => (f ρ).bind fun a => (g ρ).bind fun as => .ok (a :: as)
def eA (g : List PyData → Res PyData) (f : Rho → Res (List PyData)) : Rho → Res PyData := fun ρ => (f ρ).bind g
def eM (sh : PyData → Bool) (g : PyData → List PyData → Res PyData) (f : Rho → Res PyData) (h : Rho → Res (List PyData)) : Rho → Res PyData := fun ρ => (f ρ).bind fun a => if sh a = true then (h ρ).bind fun as => g a as else .bad
def tV (g : PyData → Res Bool) (f : Rho → Res PyData) : Rho → Res Bool := fun ρ => (f ρ).bind g
def tA (f g : Rho → Res Bool) : Rho → Res Bool := fun ρ => (f ρ).bind fun c => if c = true then g ρ else .ok false
def tO (f g : Rho → Res Bool) : Rho → Res Bool := fun ρ => (f ρ).bind fun c => if c = true then .ok true else g ρ
def tN (f : Rho → Res Bool) : Rho → Res Bool := fun ρ => (f ρ).bind fun c => .ok (!c)
def eIf (c : Rho → Res Bool) (f g : Rho → Res PyData) : Rho → Res PyData := fun ρ => (c ρ).bind fun b => if b = true then f ρ else g ρ
def eAnd (f g : Rho → Res PyData) : Rho → Res PyData := fun ρ => (f ρ).bind fun a => match a with
  | .bool c => if c = true then g ρ else .ok (.bool false)
  | _ => .bad
def eOr (f g : Rho → Res PyData) : Rho → Res PyData := fun ρ => (f ρ).bind fun a => match a with
  | .bool c => if c = true then .ok (.bool true) else g ρ
  | _ => .bad
def eNot (f : Rho → Res PyData) : Rho → Res PyData := fun ρ => (f ρ).bind fun a => match a with
  | .bool c => .ok (.bool !c)
  | _ => .bad
def oN : Rho → Res (Option Int) := fun _ => .ok none
def oS (f : Rho → Res PyData) : Rho → Res (Option Int) := fun ρ => (f ρ).bind fun a => match a with
  | .int i => .ok (some i)
  | _ => .bad
def eSl (g : PyData → Option Int → Option Int → Res PyData) (f : Rho → Res PyData) (lo hi : Rho → Res (Option Int)) : Rho → Res PyData := fun ρ => (f ρ).bind fun a => (lo ρ).bind fun l => (hi ρ).bind fun h => g a l h

/-! ### rules by values -/
abbrev NoW : Value → Option Addr → Hp → Prop := fun _ _ _ => False
/-- an operation on values as a plain function -/
def ROp (K : PySem.W.Frag) (cm : CM) (m : Md) (r : R2) (g : PyData → PyData → Res PyData) : Prop :=
  ∀ M H x y a b Q, (∀ p, M p → ∃ o, H p = some o) → Rm K .p M H H x a → Rm K .p M H H y b → Post K cm M (Rm K m M H) H Q NoW (g a b) → r x y H Q
def RUn (K : PySem.W.Frag) (cm : CM) (m : Md) (r : V → Hp → VK → Prop) (g : PyData → Res PyData) : Prop :=
  ∀ M H x a Q, (∀ p, M p → ∃ o, H p = some o) → Rm K .p M H H x a → Post K cm M (Rm K m M H) H Q NoW (g a) → r x H Q
def RCl (K : PySem.W.Frag) (cm : CM) (m : Md) (r : List V → Hp → VK → Prop) (g : List PyData → Res PyData) : Prop :=
  ∀ M H xs as Q, (∀ p, M p → ∃ o, H p = some o) → RPs K M H xs as → Post K cm M (Rm K m M H) H Q NoW (g as) → r xs H Q
def RTy (K : PySem.W.Frag) (T : String) (sh : PyData → Bool) : Prop := ∀ x H a M, Rm K .p M H H x a → sh a = true → tyV K T x H
def RMt (K : PySem.W.Frag) (cm : CM) (m : Md) (r : V → List V → Hp → VK → Prop) (g : PyData → List PyData → Res PyData) : Prop :=
  ∀ M H x xs a as Q, (∀ p, M p → ∃ o, H p = some o) → Rm K .p M H H x a → RPs K M H xs as → Post K cm M (Rm K m M H) H Q NoW (g a as) → r x xs H Q
def RSl (K : PySem.W.Frag) (cm : CM) (m : Md) (r : V → Option Int → Option Int → Hp → VK → Prop) (g : PyData → Option Int → Option Int → Res PyData) : Prop :=
  ∀ M H x lo hi a Q, (∀ p, M p → ∃ o, H p = some o) → Rm K .p M H H x a → Post K cm M (Rm K m M H) H Q NoW (g a lo hi) → r x lo hi H Q
section
variable {X : Cx} {cm : CM} {W : WX} {m : Md}
theorem noW {α β : Type} {K : PySem.W.Frag} {M : Addr → Prop} {R : Hp → β → α → Prop} {H : Hp} {Q : β → Hp → Prop} {Wx : Value → Option Addr → Hp → Prop} {r : Res α} (nx : ∀ e, r ≠ .ex e) (h : Post K cm M R H Q Wx r) : Post K cm M R H Q NoW r := by
  cases r with
  | ok d => exact h
  | ex e => exact absurd rfl (nx e)
  | bad => exact h
theorem pev_var {i : Nat} {x : Str} {pos : Pos} (h : PE X (.Name x pos) (tVar i)) : PEV X cm W .v (.Name x pos) (eV i) := by
  refine ⟨_, h, fun B H0 ω ρ σ H Q S q => ?_⟩
  unfold eV at q
  cases e : ρ[i]? with
  | none => rw [e] at q; exact q.elim
  | some s =>
    rw [e] at q
    cases s with
    | u => exact q.elim
    | x => exact q.elim
    | o xs => exact q.elim
    | d x =>
      obtain ⟨v, hv, y, rfl, r⟩ := S.at e
      exact ⟨y, hv, q y H (Same.refl H) r⟩
theorem pep_var {i : Nat} {x : Str} {pos : Pos} (h : PE X (.Name x pos) (tVar i)) : PEV X cm W .p (.Name x pos) (eP i) := by
  refine ⟨_, h, fun B H0 ω ρ σ H Q S q => ?_⟩
  unfold eP at q
  cases e : ρ[i]? with
  | none => rw [e] at q; exact q.elim
  | some s =>
    rw [e] at q
    cases s with
    | u => exact q.elim
    | x => exact q.elim
    | o xs =>
      obtain ⟨v, hv, rfl, ys, r1, r2⟩ := S.at e
      exact ⟨_, hv, q _ H (Same.refl H) (.inr ⟨_, _, _, rfl, rfl, r1, r2⟩)⟩
    | d x =>
      obtain ⟨v, hv, y, rfl, r⟩ := S.at e
      exact ⟨y, hv, q y H (Same.refl H) (.inl r)⟩
theorem PEV.p {e : Expr} {f : Rho → Res PyData} (h : PEV X cm W .v e f) : PEV X cm W .p e f := let ⟨t, h1, h2⟩ := h; ⟨t, h1, h2.v_p⟩
theorem PEV.v {e : Expr} {f : Rho → Res PyData} (h : PEV X cm W .f e f) : PEV X cm W .v e f := let ⟨t, h1, h2⟩ := h; ⟨t, h1, h2.f_v⟩
theorem PEV.fp {e : Expr} {f : Rho → Res PyData} (h : PEV X cm W .f e f) : PEV X cm W .p e f := h.v.p
theorem ev_c {v : V} {d : PyData} (h : ∀ K H, Dp K H v d) : Ev X.K cm W .v (tC v) (eC d) := fun B H0 ω ρ σ H Q S q => q v H (Same.refl H) (h _ _)
theorem pev_int {i : Int} {j pos} : PEV X cm W .v (.Constant (.int i) j pos) (eC (.int i)) := ⟨_, pe_int, ev_c fun _ _ => .int i⟩
theorem pev_bl {b : Bool} {j pos} : PEV X cm W .v (.Constant (.bool b) j pos) (eC (.bool b)) := ⟨_, pe_bl, ev_c fun _ _ => .bl b⟩
theorem pev_non {j pos} : PEV X cm W .v (.Constant .none j pos) (eC .none) := ⟨_, pe_non, ev_c fun _ _ => .non⟩
theorem pev_str {x : Str} {j pos} : PEV X cm W .v (.Constant (.str x) j pos) (eC (.str x)) := ⟨_, pe_str, ev_c fun _ _ => .str x⟩
theorem pev_glob {x : Str} {v : V} {d : PyData} {u : Value} {pos : Pos} (hg : Gl X x) (hm : X.mg x = some u) (r : RelV v u) (h : ∀ H, Dp X.K H v d) (hd : (x == ("__debug__" : Str)) = false := by decide) : PEV X cm W .v (.Name x pos) (eC d) :=
  ⟨_, pe_glob hg hm r hd, fun B H0 ω ρ σ H Q S q => q v H (Same.refl H) (h _)⟩
theorem ok_op2 {r : R2} {g : PyData → PyData → Res PyData} {ta tb : TE} {fa fb : Rho → Res PyData} (hr : ROp X.K cm m r g) (nx : ∀ a b e, g a b ≠ .ex e) (ha : Ev X.K cm W .p ta fa) (hb : Ev X.K cm W .p tb fb) : Ev X.K cm W m (tOp r ta tb) (e2 g fa fb) := by
  intro B H0 ω ρ σ H Q S h
  refine ha.go S h fun x a H1 s1 S1 r1 h1 => ?_
  refine hb.go S1 h1 fun y b H2 s2 S2 r2 h2 => ?_
  exact hr _ H2 x y a b Q S2.dom (Rm.p_any (Rm.keep s2 r1)) r2 (noW (nx a b) (Post.up (Same.refl H2) (fun H' v d s z => z.anti (s1.trans s2)) h2))
theorem pev_op {op : Operator} {r : R2} {g : PyData → PyData → Res PyData} {a b : Expr} {pos : Pos} {fa fb : Rho → Res PyData} (ho : OpR X (binaryOp op) r) (hr : ROp X.K cm m r g) (nx : ∀ a b e, g a b ≠ .ex e) (ha : PEV X cm W .p a fa) (hb : PEV X cm W .p b fb) :
    PEV X cm W m (.BinOp a op b pos) (e2 g fa fb) := let ⟨_, a1, a2⟩ := ha; let ⟨_, b1, b2⟩ := hb; ⟨_, pe_op ho a1 b1, ok_op2 hr nx a2 b2⟩
theorem pev_cmp {op : CmpOp} {r : R2} {g : PyData → PyData → Res PyData} {a b : Expr} {pos : Pos} {fa fb : Rho → Res PyData} (ho : OpR X (compareOp op) r) (hr : ROp X.K cm m r g) (nx : ∀ a b e, g a b ≠ .ex e) (ha : PEV X cm W .p a fa) (hb : PEV X cm W .p b fb)
    (hm : behindInMarks op b = false) : PEV X cm W m (.Compare a [op] [b] pos) (e2 g fa fb) := let ⟨_, a1, a2⟩ := ha; let ⟨_, b1, b2⟩ := hb; ⟨_, pe_cmpR ho a1 b1 hm, ok_op2 hr nx a2 b2⟩
theorem pev_ix {r : R2} {g : PyData → PyData → Res PyData} {a b : Expr} {pos : Pos} {fa fb : Rho → Res PyData} (ho : IxR X r) (hr : ROp X.K cm m r g) (nx : ∀ a b e, g a b ≠ .ex e) (ha : PEV X cm W .p a fa) (hb : PEV X cm W .p b fb) (hs : PlainIx b) :
    PEV X cm W m (.Subscript a b pos) (e2 g fa fb) := let ⟨_, a1, a2⟩ := ha; let ⟨_, b1, b2⟩ := hb; ⟨_, pe_ix ho a1 b1 hs, ok_op2 hr nx a2 b2⟩
theorem pev_un {op : UnaryOp} {r : V → Hp → VK → Prop} {g : PyData → Res PyData} {a : Expr} {pos : Pos} {fa : Rho → Res PyData} (ho : UnR X (unaryOp op) r) (hr : RUn X.K cm m r g) (nx : ∀ a e, g a ≠ .ex e) (ha : PEV X cm W .p a fa) : PEV X cm W m (.UnaryOp op a pos) (e1 g fa) := by
  obtain ⟨_, a1, a2⟩ := ha
  refine ⟨_, pe_un ho a1, fun B H0 ω ρ σ H Q S h => ?_⟩
  refine a2.go S h fun x a H1 s1 S1 r1 h1 => ?_
  exact hr _ H1 x a Q S1.dom r1 (noW (nx a) (Post.up (Same.refl H1) (fun H' v d s z => z.anti s1) h1))
/-! ### arguments -/
theorem pav_nil : PAV X cm W [] aN := ⟨_, pa_nil, fun B H0 ω ρ σ H Q S q => q [] H (Same.refl H) .nil⟩
theorem pav_cons {e : Expr} {es : List Expr} {f : Rho → Res PyData} {g : Rho → Res (List PyData)} (ha : PEV X cm W .v e f) (hr : PAV X cm W es g) (hs : starEach (e :: es) X.env = (false, eval e X.env) :: starEach es X.env := by rfl) : PAV X cm W (e :: es) (aC f g) := by
  obtain ⟨_, a1, a2⟩ := ha
  obtain ⟨_, b1, b2⟩ := hr
  refine ⟨_, pa_cons a1 b1 hs, fun B H0 ω ρ σ H Q S h => ?_⟩
  refine a2.go S h fun x a H1 s1 S1 r1 h1 => ?_
  refine b2.go S1 h1 fun y b H2 s2 S2 r2 h2 => ?_
  exact h2 _ H2 (Same.refl H2) (.cons (Dp_same (msk_same s2) _ _ r1) r2)
theorem pqv_nil : PQV X cm W [] aN := ⟨_, pa_nil, fun B H0 ω ρ σ H Q S q => q [] H (Same.refl H) .nil⟩
theorem pqv_cons {e : Expr} {es : List Expr} {f : Rho → Res PyData} {g : Rho → Res (List PyData)} (ha : PEV X cm W .p e f) (hr : PQV X cm W es g) (hs : starEach (e :: es) X.env = (false, eval e X.env) :: starEach es X.env := by rfl) : PQV X cm W (e :: es) (aC f g) := by
  obtain ⟨_, a1, a2⟩ := ha
  obtain ⟨_, b1, b2⟩ := hr
  refine ⟨_, pa_cons a1 b1 hs, fun B H0 ω ρ σ H Q S h => ?_⟩
  refine a2.go S h fun x a H1 s1 S1 r1 h1 => ?_
  refine b2.go S1 h1 fun y b H2 s2 S2 r2 h2 => ?_
  exact h2 _ H2 (Same.refl H2) (.cons (Rm.p_any (Rm.keep s2 r1)) r2)
theorem ok_call {r : List V → Hp → VK → Prop} {g : List PyData → Res PyData} {t : TA} {f : Rho → Res (List PyData)} (hr : RCl X.K cm m r g) (nx : ∀ a e, g a ≠ .ex e) (ha : Ok X.K cm W (RQ X.K) t f) : Ev X.K cm W m (tCB r t) (eA g f) := by
  intro B H0 ω ρ σ H Q S h
  refine ha.go S h fun x a H1 s1 S1 r1 h1 => ?_
  exact hr _ H1 x a Q S1.dom r1 (noW (nx a) (Post.up (Same.refl H1) (fun H' v d s z => z.anti s1) h1))
theorem pev_callB {id : String} {r : List V → Hp → VK → Prop} {g : List PyData → Res PyData} {x : Str} {e : Expr} {es : List Expr} {p pos : Pos} {f : Rho → Res (List PyData)} (hc : CallR X (.builtin id) r) (hr : RCl X.K cm m r g) (nx : ∀ a e, g a ≠ .ex e) (hg : Gl X x) (hm : X.mg x = none) (hv : bootBuiltins x = some (.builtin id)) (ha : PQV X cm W (e :: es) f)
    (hn : x ≠ "__name__" := by decide) (hdb : (x == ("__debug__" : Str)) = false := by decide)
    (he : starEach (e :: es) X.env = (false, eval e X.env) :: starEach es X.env := by rfl) (hpl : (backTo pos (starEach es X.env)).any (·.1) = false := by rfl) : PEV X cm W m (.Call (.Name x p) (e :: es) [] pos) (eA g f) := let ⟨_, a1, a2⟩ := ha; ⟨_, pe_callB hc hg hm hv a1 hn hdb he hpl, ok_call hr nx a2⟩
theorem pev_callTy {T : String} {r : List V → Hp → VK → Prop} {g : List PyData → Res PyData} {x : Str} {e : Expr} {es : List Expr} {p pos : Pos} {f : Rho → Res (List PyData)} (hc : CallR X (.type T) r) (hr : RCl X.K cm m r g) (nx : ∀ a e, g a ≠ .ex e) (hg : Gl X x) (hm : X.mg x = none) (hv : bootBuiltins x = some (.type T)) (ha : PQV X cm W (e :: es) f)
    (hn : x ≠ "__name__" := by decide) (hdb : (x == ("__debug__" : Str)) = false := by decide)
    (he : starEach (e :: es) X.env = (false, eval e X.env) :: starEach es X.env := by rfl) (hpl : (backTo pos (starEach es X.env)).any (·.1) = false := by rfl) : PEV X cm W m (.Call (.Name x p) (e :: es) [] pos) (eA g f) := let ⟨_, a1, a2⟩ := ha; ⟨_, pe_callTy hc hg hm hv a1 hn hdb he hpl, ok_call hr nx a2⟩
/-! ### displays -/
def dTup (ds : List PyData) : Res PyData := if ds.length ≤ sizeLine then .ok (.tuple ds) else .bad
def dLst (ds : List PyData) : Res PyData := if ds.length ≤ sizeLine then .ok (.list ds) else .bad
theorem new_tup {K : PySem.W.Frag} {M : Addr → Prop} {H : Hp} {p : Addr} {ys : List V} {xs : List PyData} (hM : ∀ p, M p → ∃ o, H p = some o) (hp : H p = none) (h : DpAll K (msk M H) ys xs) : Dp K (msk M (upd H p (.tup ys))) (.ref p) (.tuple xs) := by
  have na : ¬ M p := fun z => by
    obtain ⟨o, q⟩ := hM p z
    rw [hp] at q; cases q
  refine .tup (.inl (.inl ?_)) (DpAll_same (msk_same (same_new hp)) _ _ h)
  rw [msk_of na]
  exact upd_same
theorem new_list {K : PySem.W.Frag} {M : Addr → Prop} {H H1 : Hp} {p : Addr} {ys : List V} {xs : List PyData} (s : Same H H1) (hp : H1 p = none) (h : DpAll K (msk M H1) ys xs) : Rm K .f M H (upd H1 p (.lst ys)) (.ref p) (.list xs) :=
  ⟨p, ys, xs, rfl, rfl, s.free hp, upd_same, DpAll_same (fun b o q => by
    obtain ⟨m, q⟩ := msk_some q
    have ne : b ≠ p := fun z => by
      subst z
      rw [hp] at q; cases q
    rw [msk_of (fun z => z.elim m ne), upd_ne ne]
    exact q) _ _ h⟩
theorem pev_tup {es : List Expr} {x1} {pos : Pos} {f : Rho → Res (List PyData)} (h : PAV X cm W es f) : PEV X cm W .v (.Tuple es x1 pos) (eA dTup f) := by
  obtain ⟨_, a1, a2⟩ := h
  refine ⟨_, pe_tup a1, fun B H0 ω ρ σ H Q S h => ?_⟩
  refine a2.go S h fun x a H1 s1 S1 r1 h1 => ?_
  unfold dTup at h1
  by_cases hz : a.length ≤ sizeLine
  · rw [if_pos hz] at h1
    exact ⟨by rw [(DpAll.length r1)]; exact hz, fun p hp => h1 _ _ (same_new hp) (new_tup S1.dom hp r1)⟩
  · rw [if_neg hz] at h1
    exact h1.elim
theorem pef_lst {es : List Expr} {pos : Pos} {f : Rho → Res (List PyData)} (h : PAV X cm W es f) : PEV X cm W .f (.List es pos) (eA dLst f) := by
  obtain ⟨_, a1, a2⟩ := h
  refine ⟨_, pe_lst a1, fun B H0 ω ρ σ H Q S h => ?_⟩
  refine a2.go S h fun x a H1 s1 S1 r1 h1 => ?_
  unfold dLst at h1
  by_cases hz : a.length ≤ sizeLine
  · rw [if_pos hz] at h1
    exact ⟨by rw [(DpAll.length r1)]; exact hz, fun p hp => h1 _ _ (same_new hp) (new_list s1 hp r1)⟩
  · rw [if_neg hz] at h1
    exact h1.elim
/-! ### slices -/
theorem pov_none : POV X cm W none oN := ⟨_, po_none, fun B H0 ω ρ σ H Q S q => q none H (Same.refl H) rfl⟩
theorem pov_some {e : Expr} {f : Rho → Res PyData} (h : PEV X cm W .p e f) : POV X cm W (some e) (oS f) := by
  obtain ⟨_, a1, a2⟩ := h
  refine ⟨_, po_some a1, fun B H0 ω ρ σ H Q S h => ?_⟩
  refine a2.go S h fun x a H1 s1 S1 r1 h1 => ?_
  cases a with
  | int i => exact ⟨i, r1.intP, h1 _ H1 (Same.refl H1) rfl⟩
  | _ => exact h1.elim
theorem pev_slice {r : V → Option Int → Option Int → Hp → VK → Prop} {g : PyData → Option Int → Option Int → Res PyData} {e : Expr} {lo hi : Option Expr} {p2 pos : Pos} {f : Rho → Res PyData} {fl fh : Rho → Res (Option Int)} (ho : SlR X r) (hr : RSl X.K cm m r g) (nx : ∀ a l h e, g a l h ≠ .ex e)
    (he : PEV X cm W .p e f) (hl : POV X cm W lo fl) (hh : POV X cm W hi fh) : PEV X cm W m (.Subscript e (.Slice lo hi none p2) pos) (eSl g f fl fh) := by
  obtain ⟨_, a1, a2⟩ := he
  obtain ⟨_, b1, b2⟩ := hl
  obtain ⟨_, c1, c2⟩ := hh
  refine ⟨_, pe_slice ho a1 b1 c1, fun B H0 ω ρ σ H Q S h => ?_⟩
  refine a2.go S h fun x a H1 s1 S1 r1 h1 => ?_
  refine b2.go S1 h1 fun l l' H2 s2 S2 r2 h2 => ?_
  refine c2.go S2 h2 fun u u' H3 s3 S3 r3 h3 => ?_
  cases r2
  cases r3
  exact hr _ H3 x l u a Q S3.dom (Rm.p_any (Rm.keep (s2.trans s3) r1)) (noW (nx _ _ _) (Post.up (Same.refl H3) (fun H' v d s z => z.anti ((s1.trans s2).trans s3)) h3))
/-! ### methods of built-in types -/
theorem ok_bm {T : String} {sh : PyData → Bool} {r : V → List V → Hp → VK → Prop} {g : PyData → List PyData → Res PyData} {to : TE} {t : TA} {f : Rho → Res PyData} {fa : Rho → Res (List PyData)} (hT : RTy X.K T sh) (hr : RMt X.K cm m r g) (nx : ∀ a as e, g a as ≠ .ex e)
    (a2 : Ev X.K cm W .p to f) (b2 : Ok X.K cm W (RQ X.K) t fa) : Ev X.K cm W m (tBM X.K T r to t) (eM sh g f fa) := by
  intro B H0 ω ρ σ H Q S h
  refine a2.go S h fun x a H1 s1 S1 r1 h1 => ?_
  by_cases q : sh a = true
  · rw [if_pos q] at h1
    refine ⟨hT x H1 a _ r1 q, ?_⟩
    refine b2.go S1 h1 fun xs as H2 s2 S2 r2 h2 => ?_
    exact hr _ H2 x xs a as Q S2.dom (Rm.p_any (Rm.keep s2 r1)) r2 (noW (nx a as) (Post.up (Same.refl H2) (fun H' v d s z => z.anti (s1.trans s2)) h2))
  · rw [if_neg q] at h1
    exact h1.elim
theorem pev_bm {T id : String} {name : Str} {sh : PyData → Bool} {r : V → List V → Hp → VK → Prop} {g : PyData → List PyData → Res PyData} {o e : Expr} {es : List Expr} {apos cpos : Pos} {f : Rho → Res PyData} {fa : Rho → Res (List PyData)} (pa : PlainAttrs T) (slot : Slot T name id) (hty : typeOf (.builtin id) = pure (.type "method_descriptor"))
    (hT : RTy X.K T sh) (ho : MtR X id r) (hr : RMt X.K cm m r g) (nx : ∀ a as e, g a as ≠ .ex e) (he : PEV X cm W .p o f) (ha : PQV X cm W (e :: es) fa)
    (hbase : attributeBase o name X.env (eval o X.env) = eval o X.env := by rfl)
    (hfew : ((backTo cpos (starEach (e :: es) X.env)).all (fun x => !x.1) && (backToKw cpos (keywordEach [] X.env)).all (fun x => x.1.isSome)
      && decide ((e :: es).length + ([] : List Keyword).length + (if ([] : List Keyword).isEmpty then 0 else 1) < 30)) = true := by rfl)
    (hline : (apos.endLine == cpos.line) = true := by rfl) (hs : starEach (e :: es) X.env = (false, eval e X.env) :: starEach es X.env := by rfl) (hplain : (backTo cpos (starEach es X.env)).any (·.1) = false := by rfl) :
    PEV X cm W m (.Call (.Attribute o name apos) (e :: es) [] cpos) (eM sh g f fa) := by
  obtain ⟨_, a1, a2⟩ := he
  obtain ⟨_, b1, b2⟩ := ha
  exact ⟨_, pe_bm pa slot hty ho a1 b1 hbase hfew hline hs hplain, ok_bm hT hr nx a2 b2⟩
theorem pev_bm0 {T id : String} {name : Str} {sh : PyData → Bool} {r : V → List V → Hp → VK → Prop} {g : PyData → List PyData → Res PyData} {o : Expr} {apos cpos : Pos} {f : Rho → Res PyData} (pa : PlainAttrs T) (slot : Slot T name id) (hty : typeOf (.builtin id) = pure (.type "method_descriptor"))
    (hT : RTy X.K T sh) (ho : MtR X id r) (hr : RMt X.K cm m r g) (nx : ∀ a as e, g a as ≠ .ex e) (he : PEV X cm W .p o f)
    (hbase : attributeBase o name X.env (eval o X.env) = eval o X.env := by rfl) (hline : (apos.endLine == cpos.line) = true := by rfl) : PEV X cm W m (.Call (.Attribute o name apos) [] [] cpos) (eM sh g f aN) := by
  obtain ⟨_, a1, a2⟩ := he
  refine ⟨_, pe_bm0 pa slot hty ho a1 hbase hline, fun B H0 ω ρ σ H Q S h => ?_⟩
  refine a2.go S h fun x a H1 s1 S1 r1 h1 => ?_
  by_cases q : sh a = true
  · rw [if_pos q] at h1
    exact ⟨hT x H1 a _ r1 q, hr _ H1 x [] a [] Q S1.dom (Rm.p_any r1) .nil (noW (nx a []) (Post.up (Same.refl H1) (fun H' v d s z => z.anti s1) h1))⟩
  · rw [if_neg q] at h1
    exact h1.elim
/-! ### tests -/
/-- the truth of a value -/
def dTruth : PyData → Res Bool
  | .none => .ok false
  | .bool b => .ok b
  | .int i => .ok (i != 0)
  | .str y => if y.length ≤ sizeLine then .ok ((y.length : Int) != 0) else .bad
  | .list xs => .ok (!xs.isEmpty)
  | .tuple xs => .ok (!xs.isEmpty)
  | .dict _ => .bad
theorem empty_eq {K : PySem.W.Frag} {H : Hp} {ys : List V} {xs : List PyData} (h : DpAll K H ys xs) : ys.isEmpty = xs.isEmpty := by cases h <;> rfl
theorem ptv_truth {e : Expr} {f : Rho → Res PyData} (h : PEV X cm W .p e f) (he : ∀ whole, isTrue e X.env whole = (do let v ← whole; standAt e.pos; holding [v] (truthy v))) : PTV X cm W e (tV dTruth f) := by
  obtain ⟨_, a1, a2⟩ := h
  refine ⟨_, pt_truth a1 he, fun B H0 ω ρ σ H Q S h => ?_⟩
  refine a2.go S h fun x a H1 s1 S1 r1 h1 => ?_
  cases a with
  | none =>
    cases r1.noneP
    exact ⟨_, rfl, h1 _ H1 (Same.refl _) rfl⟩
  | bool b =>
    cases r1.boolP
    exact ⟨_, rfl, h1 _ H1 (Same.refl _) rfl⟩
  | int i =>
    cases r1.intP
    exact ⟨_, rfl, h1 _ H1 (Same.refl _) rfl⟩
  | str y =>
    cases r1.strP
    unfold dTruth at h1
    by_cases hz : y.length ≤ sizeLine
    · simp only [if_pos hz] at h1
      exact ⟨_, ⟨hz, rfl⟩, h1 _ H1 (Same.refl _) rfl⟩
    · simp only [if_neg hz] at h1
      exact h1.elim
  | list xs =>
    obtain ⟨p, ys, rfl, q1, q2⟩ := Rm.lst r1
    exact ⟨_, .inl ⟨ys, q1, rfl⟩, h1 _ H1 (Same.refl _) (by rw [empty_eq q2])⟩
  | tuple xs =>
    obtain ⟨p, ys, rfl, q1, q2⟩ := Rm.tup r1
    exact ⟨_, .inr (.inl ⟨ys, q1, rfl⟩), h1 _ H1 (Same.refl _) (by rw [empty_eq q2])⟩
  | dict _ => exact h1.elim
def dBool : PyData → Res Bool
  | .bool b => .ok b
  | _ => .bad
theorem ptv_cmp {op : CmpOp} {r : R2} {g : PyData → PyData → Res PyData} {a b : Expr} {pos : Pos} {fa fb : Rho → Res PyData} (ho : OpR X (compareOp op) r) (hr : ROp X.K cm .v r g) (nx : ∀ a b e, g a b ≠ .ex e) (ha : PEV X cm W .p a fa) (hb : PEV X cm W .p b fb)
    (hm : behindInMarks op b = false) : PTV X cm W (.Compare a [op] [b] pos) (tV dBool (e2 g fa fb)) := by
  obtain ⟨_, a1, a2⟩ := ha
  obtain ⟨_, b1, b2⟩ := hb
  refine ⟨_, pt_cmpR ho a1 b1 hm, fun B H0 ω ρ σ H Q S h => ?_⟩
  refine (ok_op2 (W := W) hr nx a2 b2).go S h fun x a H1 s1 S1 r1 h1 => ?_
  cases a with
  | bool c => exact ⟨c, (Rm.v_p (H := H) r1).boolP, h1 _ H1 (Same.refl _) rfl⟩
  | _ => exact h1.elim
theorem ptv_not {a : Expr} {pos : Pos} {f : Rho → Res Bool} (h : PTV X cm W a f) : PTV X cm W (.UnaryOp .Not a pos) (tN f) := by
  obtain ⟨_, a1, a2⟩ := h
  refine ⟨_, pt_not a1, fun B H0 ω ρ σ H Q S h => ?_⟩
  refine a2.go S h fun x a H1 s1 S1 r1 h1 => ?_
  cases r1
  exact h1 _ H1 (Same.refl _) rfl
theorem PWV.t {a : Expr} {f : Rho → Res Bool} (h : PWV X cm W a f) : PTV X cm W a f := let ⟨t, h1, h2⟩ := h; ⟨t, h1.pt, h2⟩
theorem pwv_and1 {a : Expr} {pos : Pos} {f : Rho → Res Bool} (h : PTV X cm W a f) : PWV X cm W (.BoolOp .And [a] pos) f := let ⟨t, h1, h2⟩ := h; ⟨t, pw_and1 h1, h2⟩
theorem pwv_or1 {a : Expr} {pos : Pos} {f : Rho → Res Bool} (h : PTV X cm W a f) : PWV X cm W (.BoolOp .Or [a] pos) f := let ⟨t, h1, h2⟩ := h; ⟨t, pw_or1 h1, h2⟩
theorem pwv_and {a b : Expr} {rest : List Expr} {pos : Pos} {f g : Rho → Res Bool} (ha : PTV X cm W a f) (hb : PWV X cm W (.BoolOp .And (b :: rest) pos) g) : PWV X cm W (.BoolOp .And (a :: b :: rest) pos) (tA f g) := by
  obtain ⟨_, a1, a2⟩ := ha
  obtain ⟨_, b1, b2⟩ := hb
  refine ⟨_, pw_and a1 b1, fun B H0 ω ρ σ H Q S h => ?_⟩
  refine a2.go S h fun x c H1 s1 S1 r1 h1 => ?_
  cases r1
  cases x with
  | true =>
    rw [if_pos rfl] at h1
    rw [if_pos rfl]
    exact b2 _ _ _ _ _ _ _ S1 h1
  | false => exact h1 _ H1 (Same.refl _) rfl
theorem pwv_or {a b : Expr} {rest : List Expr} {pos : Pos} {f g : Rho → Res Bool} (ha : PTV X cm W a f) (hb : PWV X cm W (.BoolOp .Or (b :: rest) pos) g) : PWV X cm W (.BoolOp .Or (a :: b :: rest) pos) (tO f g) := by
  obtain ⟨_, a1, a2⟩ := ha
  obtain ⟨_, b1, b2⟩ := hb
  refine ⟨_, pw_or a1 b1, fun B H0 ω ρ σ H Q S h => ?_⟩
  refine a2.go S h fun x c H1 s1 S1 r1 h1 => ?_
  cases r1
  cases x with
  | false => exact b2 _ _ _ _ _ _ _ S1 h1
  | true => exact h1 _ H1 (Same.refl _) rfl
/-! ### and, or, not, if .. else as values -/
theorem pev_one {op} {a : Expr} {pos : Pos} {f : Rho → Res PyData} (h : PEV X cm W m a f) : PEV X cm W m (.BoolOp op [a] pos) f := let ⟨t, h1, h2⟩ := h; ⟨t, pe_one h1, h2⟩
theorem pev_and {a b : Expr} {rest : List Expr} {pos : Pos} {f g : Rho → Res PyData} (ha : PEV X cm W .p a f) (hb : PEV X cm W .v (.BoolOp .And (b :: rest) pos) g) : PEV X cm W .v (.BoolOp .And (a :: b :: rest) pos) (eAnd f g) := by
  obtain ⟨_, a1, a2⟩ := ha
  obtain ⟨_, b1, b2⟩ := hb
  refine ⟨_, pe_and a1 b1, fun B H0 ω ρ σ H Q S h => ?_⟩
  refine a2.go S h fun x a H1 s1 S1 r1 h1 => ?_
  cases a with
  | bool c =>
    refine ⟨c, r1.boolP, ?_⟩
    cases c with
    | true => exact b2 _ _ _ _ _ _ _ S1 h1
    | false => exact h1 _ H1 (Same.refl _) (.bl false)
  | _ => exact h1.elim
theorem pev_or {a b : Expr} {rest : List Expr} {pos : Pos} {f g : Rho → Res PyData} (ha : PEV X cm W .p a f) (hb : PEV X cm W .v (.BoolOp .Or (b :: rest) pos) g) : PEV X cm W .v (.BoolOp .Or (a :: b :: rest) pos) (eOr f g) := by
  obtain ⟨_, a1, a2⟩ := ha
  obtain ⟨_, b1, b2⟩ := hb
  refine ⟨_, pe_or a1 b1, fun B H0 ω ρ σ H Q S h => ?_⟩
  refine a2.go S h fun x a H1 s1 S1 r1 h1 => ?_
  cases a with
  | bool c =>
    refine ⟨c, r1.boolP, ?_⟩
    cases c with
    | false => exact b2 _ _ _ _ _ _ _ S1 h1
    | true => exact h1 _ H1 (Same.refl _) (.bl true)
  | _ => exact h1.elim
theorem pev_not {a : Expr} {pos : Pos} {f : Rho → Res PyData} (ha : PEV X cm W .p a f) : PEV X cm W .v (.UnaryOp .Not a pos) (eNot f) := by
  obtain ⟨_, a1, a2⟩ := ha
  refine ⟨_, pe_not a1, fun B H0 ω ρ σ H Q S h => ?_⟩
  refine a2.go S h fun x a H1 s1 S1 r1 h1 => ?_
  cases a with
  | bool c => exact ⟨c, r1.boolP, h1 _ H1 (Same.refl _) (.bl _)⟩
  | _ => exact h1.elim
theorem pev_if {c a b : Expr} {pos : Pos} {fc : Rho → Res Bool} {f g : Rho → Res PyData} (hc : PTV X cm W c fc) (ha : PEV X cm W m a f) (hb : PEV X cm W m b g) : PEV X cm W m (.IfExp c a b pos) (eIf fc f g) := by
  obtain ⟨_, c1, c2⟩ := hc
  obtain ⟨_, a1, a2⟩ := ha
  obtain ⟨_, b1, b2⟩ := hb
  refine ⟨_, pe_ifExp c1 a1 b1, fun B H0 ω ρ σ H Q S h => ?_⟩
  refine c2.go S h fun x c H1 s1 S1 r1 h1 => ?_
  cases r1
  cases x with
  | true =>
    rw [if_pos rfl] at h1
    rw [if_pos rfl]
    exact a2 _ _ _ _ _ _ _ S1 (Post.up (Same.refl _) (fun H' v d s z => z.anti s1) h1)
  | false =>
    exact b2 _ _ _ _ _ _ _ S1 (Post.up (Same.refl _) (fun H' v d s z => z.anti s1) h1)
end
end DL
end
section
set_option Elab.async false
set_option linter.all false
set_option maxRecDepth 100000
set_option maxHeartbeats 4000000
/-! DL3: statements, targets, loops, calls of defs, defs. -/
namespace DL
open PySem PySem.Spec PyProof.Rows L2

inductive Out where
  | nx (ρ : Rho)
  | rt (d : PyData)
  | bk (ρ : Rho)
  | ct (ρ : Rho)
  | ex (e : Exn) (ρ : Rho)
  | bad
def OutOk (K : PySem.W.Frag) (cm : CM) (B : Addr → Prop) (H0 : Hp) (W : WX) (D : Ends) : Out → Prop
  | .nx ρ => ∀ ω σ H, SR K cm.P B H0 ω ρ σ H → D.nx σ H
  | .rt d => ∀ v H, Same H0 H → Dp K (msk B H) v d → D.rt v H
  | .bk ρ => ∀ ω σ H, SR K cm.P B H0 ω ρ σ H → D.bk σ H
  | .ct ρ => ∀ ω σ H, SR K cm.P B H0 ω ρ σ H → D.ct σ H
  | .ex e ρ => ∀ ω σ H c dd, SR K cm.P B H0 ω ρ σ H → ExR K cm (msk (ownM B ω ρ) H) e c dd → W c dd σ H
  | .bad => False
def SOk (K : PySem.W.Frag) (cm : CM) (W : WX) (t : TS) (F : Rho → Out) : Prop :=
  ∀ B H0 ω ρ σ H D, SR K cm.P B H0 ω ρ σ H → OutOk K cm B H0 W D (F ρ) → t D σ H
def PSV (X : Cx) (cm : CM) (W : WX) (s : Stmt) (F : Rho → Out) : Prop := ∃ t, PS X s t ∧ SOk X.K cm W t F
def PSsV (X : Cx) (cm : CM) (W : WX) (s : List Stmt) (F : Rho → Out) : Prop := ∃ t, PSs X s t ∧ SOk X.K cm W t F
/-- what an expression gives, for a statement -/
def Res.out {α : Type} (r : Res α) (ρ : Rho) (k : α → Out) : Out := match r with
  | .ok a => k a
  | .ex e => .ex e ρ
  | .bad => .bad
@[simp] theorem Res.ok_out {α : Type} (a : α) (ρ : Rho) (k : α → Out) : (Res.ok a).out ρ k = k a := rfl
@[simp] theorem Res.ex_out {α : Type} (e : Exn) (ρ : Rho) (k : α → Out) : (Res.ex e : Res α).out ρ k = .ex e ρ := rfl
@[simp] theorem Res.bad_out {α : Type} (ρ : Rho) (k : α → Out) : (Res.bad : Res α).out ρ k = .bad := rfl
def sNext : Rho → Out := .nx
def sBk : Rho → Out := .bk
def sCt : Rho → Out := .ct
def sSeq (F G : Rho → Out) : Rho → Out := fun ρ => match F ρ with
  | .nx ρ' => G ρ'
  | r => r
def sAsg (e : Rho → Res PyData) (γ : PyData → Rho → Option Rho) : Rho → Out := fun ρ => (e ρ).out ρ fun d => match γ d ρ with
  | some ρ' => .nx ρ'
  | none => .bad
def gNm (i : Nat) : PyData → Rho → Option Rho := fun d ρ => some (ρ.set i (.d d))
def gsN : List PyData → Rho → Option Rho := fun ds ρ => match ds with
  | [] => some ρ
  | _ => none
def gsC (γ : PyData → Rho → Option Rho) (δ : List PyData → Rho → Option Rho) : List PyData → Rho → Option Rho := fun ds ρ => match ds with
  | d :: r => match γ d ρ with
    | some ρ' => δ r ρ'
    | none => none
  | [] => none
def gTp (n : Nat) (δ : List PyData → Rho → Option Rho) : PyData → Rho → Option Rho := fun d ρ => match d with
  | .tuple ds => if ds.length = n then δ ds ρ else none
  | _ => none
def sAsgO (i : Nat) (e : Rho → Res PyData) : Rho → Out := fun ρ => (e ρ).out ρ fun d => match d with
  | .list xs => if i < ρ.length then .nx (ρ.set i (.o xs)) else .bad
  | _ => .bad
def sRet (e : Rho → Res PyData) : Rho → Out := fun ρ => (e (ρ.map frz1)).out (ρ.map frz1) .rt
def sRetN : Rho → Out := fun _ => .rt .none
def sIf (c : Rho → Res Bool) (F G : Rho → Out) : Rho → Out := fun ρ => (c ρ).out ρ fun b => if b = true then F ρ else G ρ
def sExp (e : Rho → Res PyData) : Rho → Out := fun ρ => (e ρ).out ρ fun _ => .nx ρ
def sApp (i : Nat) (e : Rho → Res PyData) : Rho → Out := fun ρ => match ρ[i]? with
  | some (.o xs) => (e ρ).out ρ fun d => if xs.length < sizeLine then .nx (ρ.set i (.o (xs ++ [d]))) else .bad
  | _ => .bad
/-- a list as data from here on -/
def sFrz (i : Nat) (F : Rho → Out) : Rho → Out := fun ρ => match ρ[i]? with
  | some (.o xs) => F (ρ.set i (.d (.list xs)))
  | _ => F ρ
def forL (γ : PyData → Rho → Option Rho) (F : Rho → Out) : List PyData → Rho → Out
  | [], ρ => .nx ρ
  | d :: ds, ρ => match γ d ρ with
    | none => .bad
    | some ρ1 => match F ρ1 with
      | .nx ρ2 => forL γ F ds ρ2
      | .ct ρ2 => forL γ F ds ρ2
      | .bk ρ2 => .nx ρ2
      | r => r
def sFor (it : Rho → Res (List PyData)) (γ : PyData → Rho → Option Rho) (F : Rho → Out) : Rho → Out := fun ρ => (it ρ).out ρ fun ds => forL γ F ds ρ
def whL (c : Rho → Res Bool) (F : Rho → Out) : Nat → Rho → Out
  | 0, _ => .bad
  | n + 1, ρ => (c ρ).out ρ fun b => if b = true then
      match F ρ with
      | .nx ρ2 => whL c F n ρ2
      | .ct ρ2 => whL c F n ρ2
      | .bk ρ2 => .nx ρ2
      | r => r
    else .nx ρ
section
variable {K : PySem.W.Frag} {cm : CM} {W : WX} {B : Addr → Prop} {H0 H : Hp} {ω : Nat → Addr} {ρ : Rho} {σ : St}
theorem OutOk.lift {α : Type} {R : Hp → V → PyData → Prop} {D : Ends} {e : Rho → Res PyData} {t : TE} {m : Md} {k : PyData → Out} (he : Ev K cm W m t e) (S : SR K cm.P B H0 ω ρ σ H) (h : OutOk K cm B H0 W D ((e ρ).out ρ k))
    {Q : VK} (hk : ∀ v d H', Same H H' → SR K cm.P B H0 ω ρ σ H' → Rm K m (ownM B ω ρ) H H' v d → OutOk K cm B H0 W D (k d) → Q v H') : t σ H Q := by
  refine he B H0 ω ρ σ H _ S ?_
  cases q : e ρ with
  | ok d =>
    rw [q] at h
    exact fun v H' s r => hk v d H' s (S.ext s) r h
  | ex x =>
    rw [q] at h
    exact fun c dd H' s r => h ω σ H' c dd (S.ext s) r
  | bad =>
    rw [q] at h
    exact h
theorem OutOk.lift' {α β : Type} {R : (Addr → Prop) → Hp → Hp → β → α → Prop} {D : Ends} {e : Rho → Res α} {t : St → Hp → (β → Hp → Prop) → Prop} {k : α → Out} (he : Ok K cm W R t e) (S : SR K cm.P B H0 ω ρ σ H) (h : OutOk K cm B H0 W D ((e ρ).out ρ k))
    {Q : β → Hp → Prop} (hk : ∀ v d H', Same H H' → SR K cm.P B H0 ω ρ σ H' → R (ownM B ω ρ) H H' v d → OutOk K cm B H0 W D (k d) → Q v H') : t σ H Q := by
  refine he B H0 ω ρ σ H _ S ?_
  cases q : e ρ with
  | ok d =>
    rw [q] at h
    exact fun v H' s r => hk v d H' s (S.ext s) r h
  | ex x =>
    rw [q] at h
    exact fun c dd H' s r => h ω σ H' c dd (S.ext s) r
  | bad =>
    rw [q] at h
    exact h
/-- from now on -/
theorem OutOk.rebase {D : Ends} {r : Out} (e : Same H0 H) (h : OutOk K cm B H0 W D r) : OutOk K cm B H W D r := by
  cases r with
  | nx ρ' => exact fun ω σ H' S => h ω σ H' (S.down e)
  | rt d => exact fun v H' s => h v H' (e.trans s)
  | bk ρ' => exact fun ω σ H' S => h ω σ H' (S.down e)
  | ct ρ' => exact fun ω σ H' S => h ω σ H' (S.down e)
  | ex x ρ' => exact fun ω σ H' c dd S => h ω σ H' c dd (S.down e)
  | bad => exact h
end
/-! ### targets -/
def GOk (K : PySem.W.Frag) (cm : CM) (sl : List Nat) (g : TG) (γ : PyData → Rho → Option Rho) : Prop :=
  ∀ B H0 ω ρ σ H v d ρ' Q, SR K cm.P B H0 ω ρ σ H → Dp K (msk (ownM B ω ρ) H) v d → γ d ρ = some ρ' → (∀ σ', SR K cm.P B H0 ω ρ' σ' H → (∀ a, ownM B ω ρ' a → ownM B ω ρ a) → (σ'.length = σ.length ∧ ∀ i, i ∉ sl → σ'[i]? = σ[i]? ∧ ρ'[i]? = ρ[i]?) → Q σ' H) → g v σ H Q
def GsOk (K : PySem.W.Frag) (cm : CM) (sl : List Nat) (g : TGs) (γ : List PyData → Rho → Option Rho) : Prop :=
  ∀ B H0 ω ρ σ H v d ρ' Q, SR K cm.P B H0 ω ρ σ H → DpAll K (msk (ownM B ω ρ) H) v d → γ d ρ = some ρ' → (∀ σ', SR K cm.P B H0 ω ρ' σ' H → (∀ a, ownM B ω ρ' a → ownM B ω ρ a) → (σ'.length = σ.length ∧ ∀ i, i ∉ sl → σ'[i]? = σ[i]? ∧ ρ'[i]? = ρ[i]?) → Q σ' H) → g v σ H Q
def PGV (X : Cx) (cm : CM) (sl : List Nat) (e : Expr) (γ : PyData → Rho → Option Rho) : Prop := ∃ g, PG X e g ∧ GOk X.K cm sl g γ
def PGsV (X : Cx) (cm : CM) (sl : List Nat) (e : List Expr) (γ : List PyData → Rho → Option Rho) : Prop := ∃ g, PGs X e g ∧ GsOk X.K cm sl g γ
section
variable {X : Cx} {cm : CM} {W : WX}
theorem gok_name {K : PySem.W.Frag} (i : Nat) : GOk K cm [i] (gName i) (gNm i) := by
  intro B H0 ω ρ σ H v d ρ' Q S h e q
  cases e
  exact q _ (S.set i h) (ownM_set i d) ⟨List.length_set, fun j hj => ⟨List.getElem?_set_ne (fun z => hj (by rw [z]; exact List.mem_singleton_self _)), List.getElem?_set_ne (fun z => hj (by rw [z]; exact List.mem_singleton_self _))⟩⟩
theorem pgv_name {i : Nat} {x : Str} {pos : Pos} (h : PG X (.Name x pos) (gName i)) : PGV X cm [i] (.Name x pos) (gNm i) := ⟨_, h, gok_name i⟩
theorem pgsv_nil : PGsV X cm [] [] gsN := ⟨_, pgs_nil, by
  intro B H0 ω ρ σ H v d ρ' Q S h e q
  cases d with
  | nil =>
    cases h
    cases e
    exact ⟨rfl, q _ S (fun _ z => z) ⟨rfl, fun _ _ => ⟨rfl, rfl⟩⟩⟩
  | cons _ _ => cases e⟩
theorem pgsv_cons {e : Expr} {es : List Expr} {γ : PyData → Rho → Option Rho} {δ : List PyData → Rho → Option Rho} {sl sl' : List Nat} (h1 : PGV X cm sl e γ) (h2 : PGsV X cm sl' es δ)
    (hs : (assignEach (e :: es) X.env).map (·.2) = assign e X.env :: (assignEach es X.env).map (·.2) := by rfl) : PGsV X cm (sl ++ sl') (e :: es) (gsC γ δ) := by
  obtain ⟨g, a1, a2⟩ := h1
  obtain ⟨u, b1, b2⟩ := h2
  refine ⟨_, pgs_cons a1 b1 hs, ?_⟩
  intro B H0 ω ρ σ H v d ρ' Q S h e q
  cases d with
  | nil => cases e
  | cons d ds =>
    cases h with
    | cons r1 r2 =>
      unfold gsC at e
      cases q1 : γ d ρ with
      | none =>
        simp only [q1] at e
        cases e
      | some ρ1 =>
        simp only [q1] at e
        exact ⟨_, _, rfl, a2 _ _ _ _ _ _ _ _ _ _ S r1 q1 fun σ1 S1 m1 k1 => b2 _ _ _ _ _ _ _ _ _ _ S1 (DpAll_same (msk_sub m1) _ _ r2) e fun σ2 S2 m2 k2 => q σ2 S2 (fun a z => m1 a (m2 a z)) ⟨k2.1.trans k1.1, fun i hi => ⟨(k2.2 i fun z => hi (List.mem_append_right _ z)).1.trans (k1.2 i fun z => hi (List.mem_append_left _ z)).1, (k2.2 i fun z => hi (List.mem_append_right _ z)).2.trans (k1.2 i fun z => hi (List.mem_append_left _ z)).2⟩⟩⟩
theorem pgv_tup {es : List Expr} {k : Nat} {pos : Pos} {n : Nat} {δ : List PyData → Rho → Option Rho} {sl : List Nat} (h : PGsV X cm sl es δ) (hp : ∀ t, PGs X es t → PG X (.Tuple es k pos) (gTup X.K n t)) : PGV X cm sl (.Tuple es k pos) (gTp n δ) := by
  obtain ⟨u, b1, b2⟩ := h
  refine ⟨_, hp u b1, ?_⟩
  intro B H0 ω ρ σ H v d ρ' Q S h e q
  cases d with
  | tuple ds =>
    cases h with
    | tup hs ha =>
      simp only [gTp] at e
      by_cases hn : ds.length = n
      · rw [if_pos hn] at e
        exact ⟨_, _, rfl, Same.seqT msk_le hs, by rw [DpAll.length ha]; exact hn, b2 _ _ _ _ _ _ _ _ _ _ S ha e q⟩
      · rw [if_neg hn] at e
        cases e
  | _ => cases e
/-! ### blocks -/
theorem pssv_nil (h : PSs X [] tNext) : PSsV X cm W [] sNext := ⟨_, h, fun B H0 ω ρ σ H D S q => q ω σ H S⟩
theorem pssv_one {s : Stmt} {F : Rho → Out} (h : PSV X cm W s F) : PSsV X cm W [s] F := let ⟨t, h1, h2⟩ := h; ⟨t, pss_one h1, h2⟩
theorem sok_seq {K : PySem.W.Frag} {t u : TS} {F G : Rho → Out} (h : SOk K cm W t F) (h' : SOk K cm W u G) : SOk K cm W (tSeq t u) (sSeq F G) := by
  intro B H0 ω ρ σ H D S q
  refine h B H0 ω ρ σ H _ S ?_
  unfold sSeq at q
  cases e : F ρ with
  | nx ρ' =>
    rw [e] at q
    exact fun ω' σ' H' S' => h' B H0 ω' ρ' σ' H' D S' q
  | rt d => rw [e] at q; exact q
  | bk ρ' => rw [e] at q; exact q
  | ct ρ' => rw [e] at q; exact q
  | ex x ρ' => rw [e] at q; exact q
  | bad => rw [e] at q; exact q
theorem pssv_cons {s : Stmt} {r : List Stmt} {F G : Rho → Out} (h : PSV X cm W s F) (h' : PSsV X cm W r G) : PSsV X cm W (s :: r) (sSeq F G) := let ⟨_, h1, h2⟩ := h; let ⟨_, g1, g2⟩ := h'; ⟨_, pss_cons h1 g1, sok_seq h2 g2⟩
theorem psv_frz {s : Stmt} {F : Rho → Out} (i : Nat) (h : PSV X cm W s F) : PSV X cm W s (sFrz i F) := by
  obtain ⟨t, h1, h2⟩ := h
  refine ⟨t, h1, fun B H0 ω ρ σ H D S q => ?_⟩
  unfold sFrz at q
  cases e : ρ[i]? with
  | none =>
    rw [e] at q
    exact h2 _ _ _ _ _ _ _ S q
  | some s =>
    rw [e] at q
    cases s with
    | u => exact h2 _ _ _ _ _ _ _ S q
    | x => exact h2 _ _ _ _ _ _ _ S q
    | d x => exact h2 _ _ _ _ _ _ _ S q
    | o xs => exact h2 _ _ _ _ _ _ _ (S.frz i e) q
/-! ### simple statements -/
theorem sok_asg {K : PySem.W.Frag} {te : TE} {e : Rho → Res PyData} {g : TG} {γ : PyData → Rho → Option Rho} {sl : List Nat} (he : Ev K cm W .v te e) (hg : GOk K cm sl g γ) : SOk K cm W (tAsg te g) (sAsg e γ) := by
  intro B H0 ω ρ σ H D S q
  refine OutOk.lift (α := Unit) (R := fun _ _ _ => True) he S q fun v d H' s S' r h => ?_
  cases e' : γ d ρ with
  | none => simp only [e'] at h; exact h.elim
  | some ρ' =>
    simp only [e'] at h
    exact hg _ _ _ _ _ _ _ _ _ _ S' r e' fun σ' S2 _ _ => h _ _ _ S2
theorem psv_set {i : Nat} {x : Str} {e : Expr} {f : Rho → Res PyData} {pos' pos : Pos} (h : PEV X cm W .v e f) (hp : ∀ te, PE X e te → PS X (.Assign [.Name x pos'] e pos) (tAsg te (gName i))) : PSV X cm W (.Assign [.Name x pos'] e pos) (sAsg f (gNm i)) :=
  let ⟨_, a1, a2⟩ := h; ⟨_, hp _ a1, sok_asg a2 (gok_name i)⟩
theorem psv_asg {tg e : Expr} {f : Rho → Res PyData} {γ : PyData → Rho → Option Rho} {pos : Pos} (h : PEV X cm W .v e f) {sl : List Nat} (hg : PGV X cm sl tg γ) (hs : swapsWithSole [tg] e pos.line X.env = pure false := by rfl) (hw : swappedStores [tg] e X.env = pure none := by rfl)
    (h1 : (assignEach [tg] X.env).map (·.2) = [assign tg X.env] := by rfl) : PSV X cm W (.Assign [tg] e pos) (sAsg f γ) :=
  let ⟨_, a1, a2⟩ := h; let ⟨_, b1, b2⟩ := hg; ⟨_, ps_asg a1 b1 hs hw h1, sok_asg a2 b2⟩
theorem sok_asgO {K : PySem.W.Frag} {te : TE} {e : Rho → Res PyData} {i : Nat} (he : Ev K cm W .f te e) : SOk K cm W (tAsg te (gName i)) (sAsgO i e) := by
  intro B H0 ω ρ σ H D S q
  refine OutOk.lift (α := Unit) (R := fun _ _ _ => True) he S q fun v d H' s S' r h => ?_
  obtain ⟨a, ys, xs, rfl, rfl, ha, h1, h2⟩ := r
  by_cases hi : i < ρ.length
  · simp only [if_pos hi] at h
    exact h _ _ _ (S.setO s i hi ha h1 h2)
  · simp only [if_neg hi] at h
    exact h.elim
theorem psv_setO {i : Nat} {x : Str} {e : Expr} {f : Rho → Res PyData} {pos' pos : Pos} (h : PEV X cm W .f e f) (hp : ∀ te, PE X e te → PS X (.Assign [.Name x pos'] e pos) (tAsg te (gName i))) : PSV X cm W (.Assign [.Name x pos'] e pos) (sAsgO i f) :=
  let ⟨_, a1, a2⟩ := h; ⟨_, hp _ a1, sok_asgO a2⟩
theorem sok_ret {K : PySem.W.Frag} {te : TE} {e : Rho → Res PyData} (he : Ev K cm W .v te e) : SOk K cm W (tRet te) (sRet e) := by
  intro B H0 ω ρ σ H D S q
  unfold sRet at q
  refine he B H0 ω (ρ.map frz1) σ H _ S.frzAll ?_
  cases e' : e (ρ.map frz1) with
  | ok d =>
    rw [e'] at q
    exact fun v H' s r => q v H' (S.same.trans s) (Dp_same (msk_sub fun a z => .inl z) _ _ r)
  | ex x =>
    rw [e'] at q
    exact fun c dd H' s r => q ω σ H' c dd (S.frzAll.ext s) r
  | bad =>
    rw [e'] at q
    exact q
theorem psv_ret {e : Expr} {f : Rho → Res PyData} {pos : Pos} (h : PEV X cm W .v e f) : PSV X cm W (.Return (some e) pos) (sRet f) := let ⟨_, a1, a2⟩ := h; ⟨_, ps_ret a1, sok_ret a2⟩
theorem psv_retN {pos : Pos} : PSV X cm W (.Return none pos) sRetN := ⟨_, ps_retN, fun B H0 ω ρ σ H D S q => q .non H S.same .non⟩
theorem psv_pass {pos : Pos} : PSV X cm W (.Pass pos) sNext := ⟨_, ps_pass, fun B H0 ω ρ σ H D S q => q ω σ H S⟩
theorem psv_break {pos : Pos} : PSV X cm W (.Break pos) sBk := ⟨_, ps_break, fun B H0 ω ρ σ H D S q => q ω σ H S⟩
theorem psv_continue {pos : Pos} : PSV X cm W (.Continue pos) sCt := ⟨_, ps_continue, fun B H0 ω ρ σ H D S q => q ω σ H S⟩
theorem psv_if {c : Expr} {a b : List Stmt} {fc : Rho → Res Bool} {F G : Rho → Out} {pos : Pos} (hc : PTV X cm W c fc) (ha : PSsV X cm W a F) (hb : PSsV X cm W b G) : PSV X cm W (.If c a b pos) (sIf fc F G) := by
  obtain ⟨_, c1, c2⟩ := hc
  obtain ⟨_, a1, a2⟩ := ha
  obtain ⟨_, b1, b2⟩ := hb
  refine ⟨_, ps_if c1 a1 b1, fun B H0 ω ρ σ H D S q => ?_⟩
  refine OutOk.lift' c2 S q fun v d H' s S' r h => ?_
  cases r
  cases v with
  | true => exact a2 _ _ _ _ _ _ _ S' h
  | false => exact b2 _ _ _ _ _ _ _ S' h
theorem psv_expr {e : Expr} {f : Rho → Res PyData} {pos : Pos} (h : PEV X cm W .v e f) (hs : swapsWith e none pos.line X.env = pure false := by rfl) : PSV X cm W (.Expr e pos) (sExp f) := by
  obtain ⟨_, a1, a2⟩ := h
  refine ⟨_, ps_expr a1 hs, fun B H0 ω ρ σ H D S q => ?_⟩
  exact OutOk.lift (α := Unit) (R := fun _ _ _ => True) a2 S q fun v d H' s S' r h => h _ _ _ S'
/-- x.append(e), x a list of this slot alone -/
theorem psv_app {i : Nat} {x : Str} {e : Expr} {f : Rho → Res PyData} {p apos cpos pos : Pos} (hv : PE X (.Name x p) (tVar i)) (h : PEV X cm W .v e f) (hs : swapsWith (.Call (.Attribute (.Name x p) "append" apos) [e] [] cpos) none pos.line X.env = pure false := by rfl)
    (hbase : attributeBase (.Name x p) "append" X.env (eval (.Name x p) X.env) = eval (.Name x p) X.env := by rfl)
    (hfew : ((backTo cpos (starEach [e] X.env)).all (fun x => !x.1) && (backToKw cpos (keywordEach [] X.env)).all (fun x => x.1.isSome)
      && decide ([e].length + ([] : List Keyword).length + (if ([] : List Keyword).isEmpty then 0 else 1) < 30)) = true := by rfl)
    (hline : (apos.endLine == cpos.line) = true := by rfl) (hst : starEach [e] X.env = (false, eval e X.env) :: starEach [] X.env := by rfl) (hplain : (backTo cpos (starEach [] X.env)).any (·.1) = false := by rfl) :
    PSV X cm W (.Expr (.Call (.Attribute (.Name x p) "append" apos) [e] [] cpos) pos) (sApp i f) := by
  obtain ⟨_, a1, a2⟩ := h
  refine ⟨_, ps_expr (pe_bm PySem.F.plainAttrs_list PySem.F.slot_list_append PySem.F.type_list_append mt_append hv (pa_cons a1 pa_nil hst) hbase hfew hline hst hplain) hs, fun B H0 ω ρ σ H D S q => ?_⟩
  unfold sApp at q
  cases e : ρ[i]? with
  | none => rw [e] at q; exact q.elim
  | some s =>
    rw [e] at q
    cases s with
    | u => exact q.elim
    | x => exact q.elim
    | d _ => exact q.elim
    | o xs =>
      obtain ⟨v, hv, rfl, ys, r1, r2⟩ := S.at e
      refine ⟨_, hv, .inl ⟨rfl, _, .inl (.inl r1)⟩, ?_⟩
      refine OutOk.lift (α := Unit) (R := fun _ _ _ => True) a2 S q fun y d H' s S' r h => ?_
      by_cases hz : xs.length < sizeLine
      · simp only [if_pos hz] at h
        have r1' := s _ _ r1
        have r2' := DpAll_same (msk_same s) _ _ r2
        refine ⟨_, _, _, rfl, rfl, r1', by rw [DpAll.length r2]; exact hz, ?_⟩
        exact h _ _ _ (S'.chg e (DpAll.append r2' (DpAll.one r)))
      · simp only [if_neg hz] at h
        exact h.elim
/-! ### what is walked -/
/-- J gives just ds, in every heap in which stands what stood (but Mk) -/
def Wk (K : PySem.W.Frag) (M Mk : Addr → Prop) (H : Hp) (J : It) (ds : List PyData) : Prop :=
  ∀ (M' : Addr → Prop) (H' : Hp), Same (msk Mk H) H' → (∀ a o, msk M H a = some o → ¬ M' a) → (∀ a, M' a → ∃ o, H' a = some o) →
    (∀ i, i < ds.length → J.go i H' ∧ ∀ x H'', J.yld i H' x H'' → Same H' H'' ∧ ∃ d, ds[i]? = some d ∧ Dp K (msk M' H'') x d) ∧ ∀ i, i = ds.length → J.stop i H'
abbrev NoM : Addr → Prop := fun _ => False
theorem msk_noM {H : Hp} : msk NoM H = H := by
  funext b
  rw [msk_of (fun z => z)]
/-- of a loop: lists of slots may change -/
def IOk (K : PySem.W.Frag) (cm : CM) (W : WX) (c : Bool) (wi : TI) (f : Rho → Res (List PyData)) : Prop :=
  ∀ B H0 ω ρ σ H R, SR K cm.P B H0 ω ρ σ H → (match f ρ with
    | .ok ds => ∀ J H', Same H H' → Wk K (ownM B ω ρ) (if c = true then NoM else ownM B ω ρ) H' J ds → R J H'
    | .ex e => ∀ cc dd H', Same H H' → ExR K cm (msk (ownM B ω ρ) H') e cc dd → W cc dd σ H'
    | .bad => False) → wi σ H R
def PIV (X : Cx) (cm : CM) (W : WX) (c : Bool) (tg iter : Expr) (f : Rho → Res (List PyData)) : Prop := ∃ wi, PI X tg iter wi ∧ IOk X.K cm W c wi f
theorem SR.grow {K : PySem.W.Frag} {B : Addr → Prop} {H0 H H' : Hp} {ω : Nat → Addr} {ρ : Rho} {σ σ' : St} (S : SR K cm.P B H0 ω ρ σ H) (e : Same H H') : SR K cm.P B H0 ω ρ σ H' := S.ext e
theorem psv_for {tg iter : Expr} {body : List Stmt} {fi : Rho → Res (List PyData)} {γ : PyData → Rho → Option Rho} {F : Rho → Out} {pos : Pos} (hp : PassesOwn (model X.prog X.w) X.A X.env X.xe) (hc : X.calm = true) (hi : PIV X cm W false tg iter fi) {sl : List Nat} (hg : PGV X cm sl tg γ) (hb : PSsV X cm W body F)
    (hs : ∀ x, foldedSetIterable iter X.env x = pure x := by intro _; rfl) : PSV X cm W (.For tg iter body [] pos) (sFor fi γ F) := by
  obtain ⟨wi, i1, i2⟩ := hi
  obtain ⟨g, g1, g2⟩ := hg
  obtain ⟨tb, b1, b2⟩ := hb
  refine ⟨_, ps_for hp hc i1 g1 b1 hs, fun B H0 ω ρ σ H D S q => ?_⟩
  refine i2 B H0 ω ρ σ H _ S ?_
  unfold sFor at q
  cases e : fi ρ with
  | bad => rw [e] at q; exact q
  | ex x =>
    rw [e] at q
    exact fun cc dd H' s r => q ω σ H' cc dd (S.ext s) r
  | ok ds =>
    rw [e] at q
    intro J H1 s1 wk
    have S1 := S.ext s1
    have q1 : OutOk X.K cm B (DL.rebase ω ρ H1) W D (forL γ F ds ρ) := OutOk.rebase S1.below q
    have S1r := S1.rebase
    generalize hHb : DL.rebase ω ρ H1 = Hb at q1 S1r
    refine ⟨fun i m σ' H' => i + m = ds.length ∧ ∃ ω' ρ', SR X.K cm.P B Hb ω' ρ' σ' H' ∧ OutOk X.K cm B Hb W D (forL γ F (ds.drop i) ρ'), ⟨ds.length, by omega, ω, ρ, S1r, by rw [List.drop_zero]; exact q1⟩, ?_⟩
    rintro i m σ' H' ⟨hm, ω', ρ', S', q'⟩
    have wk' := wk (ownM B ω' ρ') H' (by
      rw [if_neg Bool.false_ne_true]
      have := S'.same
      rw [← hHb] at this
      exact (msk_sub (M' := ownM (fun _ => False) ω ρ) fun a z => z.elim (fun q => q.elim) .inr).trans this) (fun a o h => by
        have h2 : msk B Hb a = some o := by rw [← hHb, rebase_msk]; exact h
        have h3 := S'.since _ _ h2
        exact (msk_some h3).1) S'.dom
    by_cases hlt : i < ds.length
    · obtain ⟨go, st⟩ := wk'.1 i hlt
      refine .inr ⟨go, fun σ2 H2 => ∃ ω2 ρ2, SR X.K cm.P B Hb ω2 ρ2 σ2 H2 ∧ OutOk X.K cm B Hb W D (forL γ F (ds.drop (i + 1)) ρ2), fun σ2 H2 ⟨ω2, ρ2, S2, q2⟩ => ⟨m - 1, by omega, by omega, ω2, ρ2, S2, q2⟩, fun x H2 y => ?_⟩
      obtain ⟨s2, d, hd, rd⟩ := st x H2 y
      have ed : ds.drop i = d :: ds.drop (i + 1) := by
        rw [List.drop_eq_getElem_cons hlt]
        rw [List.getElem?_eq_getElem hlt] at hd
        rw [Option.some.inj hd]
      rw [ed] at q'
      unfold forL at q'
      cases e2 : γ d ρ' with
      | none => simp only [e2] at q'; exact q'.elim
      | some ρ1 =>
        simp only [e2] at q'
        refine g2 _ _ _ _ _ _ _ _ _ _ (S'.ext s2) rd e2 fun σ3 S3 _ _ => ?_
        refine b2 B Hb ω' ρ1 σ3 H2 _ S3 ?_
        cases e3 : F ρ1 with
        | nx ρ2 =>
          simp only [e3] at q'
          exact fun ω4 σ4 H4 S4 => ⟨ω4, ρ2, S4, q'⟩
        | ct ρ2 =>
          simp only [e3] at q'
          exact fun ω4 σ4 H4 S4 => ⟨ω4, ρ2, S4, q'⟩
        | bk ρ2 => simp only [e3] at q'; exact q'
        | rt d => simp only [e3] at q'; exact q'
        | ex x ρ2 => simp only [e3] at q'; exact q'
        | bad => simp only [e3] at q'; exact q'
    · refine .inl ⟨wk'.2 i (by omega), ?_⟩
      rw [List.drop_eq_nil_of_le (by omega)] at q'
      exact q' _ _ _ S'
theorem psv_while {c : Expr} {body : List Stmt} {fc : Rho → Res Bool} {F : Rho → Out} {pos : Pos} (n : Nat) (hp : PassesOwn (model X.prog X.w) X.A X.env X.xe) (hc : PTV X cm W c fc) (hb : PSsV X cm W body F) : PSV X cm W (.While c body [] pos) (whL fc F n) := by
  obtain ⟨tc, c1, c2⟩ := hc
  obtain ⟨tb, b1, b2⟩ := hb
  refine ⟨_, ps_while hp c1 b1, fun B H0 ω ρ σ H D S q => ?_⟩
  refine ⟨fun m σ' H' => ∃ ω' ρ', SR X.K cm.P B H0 ω' ρ' σ' H' ∧ OutOk X.K cm B H0 W D (whL fc F m ρ'), ⟨n, ω, ρ, S, q⟩, ?_⟩
  rintro m σ' H' ⟨ω', ρ', S', q'⟩
  cases m with
  | zero => exact q'.elim
  | succ m =>
    refine OutOk.lift' c2 S' q' fun v b H2 s2 S2 r h => ?_
    cases r
    cases v with
    | true =>
      refine ⟨fun σ2 H2 => ∃ ω2 ρ2, SR X.K cm.P B H0 ω2 ρ2 σ2 H2 ∧ OutOk X.K cm B H0 W D (whL fc F m ρ2), fun σ2 H2 ⟨ω2, ρ2, S3, q3⟩ => ⟨m, Nat.lt_succ_self m, ω2, ρ2, S3, q3⟩, ?_⟩
      refine b2 B H0 ω' ρ' σ' H2 _ S2 ?_
      rw [if_pos rfl] at h
      cases e3 : F ρ' with
      | nx ρ2 =>
        simp only [e3] at h
        exact fun ω4 σ4 H4 S4 => ⟨ω4, ρ2, S4, h⟩
      | ct ρ2 =>
        simp only [e3] at h
        exact fun ω4 σ4 H4 S4 => ⟨ω4, ρ2, S4, h⟩
      | bk ρ2 => simp only [e3] at h; exact h
      | rt d => simp only [e3] at h; exact h
      | ex x ρ2 => simp only [e3] at h; exact h
      | bad => simp only [e3] at h; exact h
    | false =>
      exact h _ _ _ S2
end
end DL
end
section
set_option Elab.async false
set_option linter.all false
set_option maxRecDepth 100000
set_option maxHeartbeats 4000000
/-! DL4: defs and their calls; what is walked; comprehensions. -/
namespace DL
open PySem PySem.Spec PyProof.Rows L2

/-! ### a def as a plain function -/
def runD (n N : Nat) (F : Rho → Out) (ds : List PyData) : Res PyData := if ds.length = n then
    match F (ds.map .d ++ List.replicate (N - n) .u) with
    | .nx _ => .ok .none
    | .rt d => .ok d
    | .ex e _ => .ex e
    | _ => .bad
  else .bad
def noex {α : Type} : Res α → Res α
  | .ex _ => .bad
  | r => r
@[simp] theorem noex_ok {α : Type} (a : α) : noex (.ok a) = .ok a := rfl
abbrev RD (K : PySem.W.Frag) (B : Addr → Prop) : Hp → V → PyData → Prop := fun H' v d => Dp K (msk B H') v d
/-- a def that raises nothing -/
def sp0 (K : PySem.W.Frag) (cm : CM) (fn : List PyData → Res PyData) : Sp := fun vs H Q _ => ∃ (B : Addr → Prop) (ds : List PyData), (∀ a, B a → ∃ o, H a = some o) ∧ DpAll K (msk B H) vs ds ∧ Post K cm B (RD K B) H Q NoW (fn ds)
/-- a def that may raise -/
def spX (K : PySem.W.Frag) (cm : CM) (fn : List PyData → Res PyData) : Sp := fun vs H Q E => ∃ (B : Addr → Prop) (ds : List PyData), (∀ a, B a → ∃ o, H a = some o) ∧ DpAll K (msk B H) vs ds ∧ Post K cm B (RD K B) H Q E (fn ds)
def start0 (n : Nat) (ds : List PyData) : Rho := ds.map .d ++ List.replicate n .u
theorem runD_len {n N : Nat} {F : Rho → Out} {ds : List PyData} (h : runD n N F ds ≠ .bad) : ds.length = n := by
  unfold runD at h
  by_cases e : ds.length = n
  · exact e
  · rw [if_neg e] at h
    exact absurd rfl h
theorem post_nb {α β : Type} {K : PySem.W.Frag} {cm : CM} {M : Addr → Prop} {R : Hp → β → α → Prop} {H : Hp} {Q : β → Hp → Prop} {W : Value → Option Addr → Hp → Prop} {r : Res α} (h : Post K cm M R H Q W r) : r ≠ .bad := by
  rintro rfl
  exact h
section
variable {K : PySem.W.Frag} {cm : CM}
theorem SR.start {B : Addr → Prop} {H : Hp} {vs : List V} {ds : List PyData} {P : Nat → Option (V × (Hp → Prop))} (N : List Str) (hB : ∀ a, B a → ∃ o, H a = some o) (h : DpAll K (msk B H) vs ds) : SR K P B H (fun _ => 0) (ds.map .d ++ List.replicate (N.length - ds.length) .u) (L2.start N vs) H := by
  have hl := DpAll.length h
  have no : ∀ (i : Nat) (xs : List PyData), (ds.map Sl.d ++ List.replicate (N.length - ds.length) Sl.u)[i]? ≠ some (.o xs) := fun i xs e => by
    rw [List.getElem?_append] at e
    by_cases hi : i < (ds.map Sl.d).length
    · rw [if_pos hi, List.getElem?_map] at e
      cases q : ds[i]? with
      | none => rw [q] at e; cases e
      | some d => rw [q] at e; cases e
    · rw [if_neg hi, List.getElem?_replicate] at e
      split at e <;> cases e
  have mm : ∀ a, ownM B (fun _ => 0) (ds.map Sl.d ++ List.replicate (N.length - ds.length) Sl.u) a → B a := by
    rintro a (z | ⟨i, xs, z, _⟩)
    · exact z
    · exact absurd z (no i xs)
  refine ⟨?_, fun i s v h1 h2 => ?_, fun i j xs ys h1 => absurd h1 (no i xs), fun i xs h1 => absurd h1 (no i xs), Same.refl H, hB⟩
  · unfold L2.start
    rw [List.length_append, List.length_append, List.length_map, List.length_map, List.length_replicate, List.length_replicate, hl]
  · unfold L2.start at h2
    rw [List.getElem?_append, List.length_map] at h1 h2
    by_cases hi : i < ds.length
    · rw [if_pos hi, List.getElem?_map] at h1
      rw [if_pos (by omega), List.getElem?_map] at h2
      rw [List.getElem?_eq_getElem hi] at h1
      cases h1
      obtain ⟨v', hv, r⟩ := DpAll.get h (List.getElem?_eq_getElem hi)
      rw [hv] at h2
      cases h2
      exact ⟨v', rfl, Dp_same (msk_sub mm) _ _ r⟩
    · rw [if_neg hi, List.getElem?_replicate] at h1
      split at h1
      · cases h1
        trivial
      · cases h1
theorem out_post {B : Addr → Prop} {H : Hp} {Q : VK} {E : XK} {F : Rho → Out} {n N : Nat} {ds : List PyData} (hn : ds.length = n) (h : Post K cm B (RD K B) H Q E (runD n N F ds)) :
    OutOk K cm B H (fun c d _ H' => E c d H') { nx := fun _ H' => Q .non H', rt := Q } (F (ds.map .d ++ List.replicate (N - n) .u)) := by
  unfold runD at h
  rw [if_pos hn] at h
  cases q : F (ds.map .d ++ List.replicate (N - n) .u) with
  | nx ρ =>
    rw [q] at h
    exact fun ω σ H' S => h .non H' S.same .non
  | rt d => rw [q] at h; exact h
  | bk ρ => rw [q] at h; exact h.elim
  | ct ρ => rw [q] at h; exact h.elim
  | ex e ρ =>
    rw [q] at h
    exact fun ω σ H' c dd S r => h c dd H' S.same (r.same (msk_sub fun a z => .inl z))
  | bad => rw [q] at h; exact h
end
section
variable {Pr : Program} {w : World} {K : PySem.W.Frag} {mg : Str → Option Value} {base : Heap} {cm : CM}
/-- a def that raises nothing keeps the promise that its body's function tells -/
theorem fnD0 {x qual : Str} {params : Arguments} {body : List Stmt} {scope : Scope} {dvs : List V} {kws : List (Str × V)} {f : Addr} {fd : FuncData} {N ps : List Str} {k : Nat} {F : Rho → Out} (Fn : FunD K x qual params body scope dvs kws f fd) (S : FnScope N ps scope)
    (hb : ∀ (cdv : Value) (A : Around) (outer : List Env) (s : Shared) (H : Hp) (E : XK), A.guards = some [] → Room k (A.deeper (envOfC qual scope s.heap.objs.size f cdv)) →
      PSsV (cxOf L2.CX0 Pr w K mg base N qual scope f cdv A outer s H E).nox cm (fun _ _ _ _ => False) body F) :
    FnG Pr w K mg base L2.CX0 (k + 1) f fd ps (sp0 K cm (runD ps.length N.length F)) := by
  refine fn_g0 Fn S (fun vs H Q E h => ?_) (fun cdv A outer s H vs Q E hG hr h => ?_)
  · obtain ⟨B, ds, _, h1, h2⟩ := h
    rw [DpAll.length h1]
    exact runD_len (post_nb h2)
  · obtain ⟨B, ds, hB, h1, h2⟩ := h
    obtain ⟨t, p1, p2⟩ := hb cdv A outer s H E hG hr
    have hn := runD_len (post_nb h2)
    refine ⟨t, p1, ?_⟩
    have S0 := SR.start (P := cm.P) N hB h1
    rw [hn] at S0
    refine p2 B H _ _ _ H _ S0 ?_
    exact out_post (E := NoW) hn h2
theorem fnDX {x qual : Str} {params : Arguments} {body : List Stmt} {scope : Scope} {dvs : List V} {kws : List (Str × V)} {f : Addr} {fd : FuncData} {N ps : List Str} {k : Nat} {F : Rho → Out} (Fn : FunD K x qual params body scope dvs kws f fd) (S : FnScope N ps scope)
    (hb : ∀ (cdv : Value) (A : Around) (outer : List Env) (s : Shared) (H : Hp) (E : XK), A.guards = some [] → Room k (A.deeper (envOfC qual scope s.heap.objs.size f cdv)) →
      PSsV (cxOf (L2.CX Pr w) Pr w K mg base N qual scope f cdv A outer s H E) cm (fun c d _ H' => E c d H') body F) :
    FnG Pr w K mg base (L2.CX Pr w) (k + 1) f fd ps (spX K cm (runD ps.length N.length F)) := by
  refine fn_g Fn S (fun vs H Q E h => ?_) (fun cdv A outer s H vs Q E hG hr h => ?_)
  · obtain ⟨B, ds, _, h1, h2⟩ := h
    rw [DpAll.length h1]
    exact runD_len (post_nb h2)
  · obtain ⟨B, ds, hB, h1, h2⟩ := h
    obtain ⟨t, p1, p2⟩ := hb cdv A outer s H E hG hr
    have hn := runD_len (post_nb h2)
    refine ⟨t, p1, ?_⟩
    have S0 := SR.start (P := cm.P) N hB h1
    rw [hn] at S0
    refine p2 B H _ _ _ H _ S0 ?_
    exact out_post (E := E) hn h2
end
/-! ### a def called -/
section
variable {X : Cx} {cm cf : CM} {W : WX} {k : Nat} {f : Addr} {fd : FuncData} {ps : List Str} {x : Str} {p pos : Pos} {e : Expr} {es : List Expr} {fn : List PyData → Res PyData} {fa : Rho → Res (List PyData)}
theorem post_cm {α β : Type} {K : PySem.W.Frag} {cm cf : CM} (ha : cf.adr = cm.adr) {M : Addr → Prop} {R : Hp → β → α → Prop} {H : Hp} {Q : β → Hp → Prop} {Wx : Value → Option Addr → Hp → Prop} {r : Res α} (h : Post K cm M R H Q Wx r) : Post K cf M R H Q Wx r := by
  cases r with
  | ok d => exact h
  | bad => exact h
  | ex e => exact fun c dd H' s q => h c dd H' s (by unfold ExR at q ⊢; rw [← ha]; exact q)
theorem pev_call0 (F : FnG X.prog X.w X.K X.mg X.base L2.CX0 k f fd ps (sp0 X.K cf fn)) (ha : cf.adr = cm.adr) (hG : X.A.guards = some []) (hr : Room k X.A) (hg : Gl X x) (hm : X.mg x = some (.ref f)) (hk : PySem.W.keepIn X.K (.ref f) = true) (hb : Binds X.K fd ps []) (h : PAV X cm W (e :: es) fa)
    (hdb : (x == ("__debug__" : Str)) = false := by decide) (he : starEach (e :: es) X.env = (false, eval e X.env) :: starEach es X.env := by rfl) (hpl : (backTo pos (starEach es X.env)).any (·.1) = false := by rfl) :
    PEV X cm W .v (.Call (.Name x p) (e :: es) [] pos) (eA (fun ds => noex (fn ds)) fa) := by
  obtain ⟨t, a1, a2⟩ := h
  refine ⟨_, pe_callG (E := fun _ => E0) F hG hr hg hm hk hb (fun _ _ _ _ _ _ _ h => h.elim) a1 hdb he hpl, fun B H0 ω ρ σ H Q S h => ?_⟩
  refine a2.go S h fun x a H1 s1 S1 r1 h1 => ?_
  refine ⟨ownM B ω ρ, a, S1.dom, r1, ?_⟩
  cases q : fn a with
  | ok d => rw [q] at h1; exact h1
  | ex y => rw [q] at h1; exact h1.elim
  | bad => rw [q] at h1; exact h1
theorem pev_call00 (F : FnG X.prog X.w X.K X.mg X.base L2.CX0 k f fd ps (sp0 X.K cf fn)) (ha : cf.adr = cm.adr) (hG : X.A.guards = some []) (hr : Room k X.A) (hg : Gl X x) (hm : X.mg x = some (.ref f)) (hk : PySem.W.keepIn X.K (.ref f) = true) (hb : Binds X.K fd ps [])
    (hdb : (x == ("__debug__" : Str)) = false := by decide) : PEV X cm W .v (.Call (.Name x p) [] [] pos) (eA (fun ds => noex (fn ds)) aN) := by
  refine ⟨_, pe_callG0 (E := fun _ => E0) F hG hr hg hm hk hb (fun _ _ _ _ _ _ _ h => h.elim) hdb, fun B H0 ω ρ σ H Q S h1 => ?_⟩
  refine ⟨ownM B ω ρ, [], S.dom, .nil, ?_⟩
  have h1 : Post X.K cm (ownM B ω ρ) (Rm X.K .v (ownM B ω ρ) H) H Q (fun c dd H' => W c dd σ H') (noex (fn [])) := h1
  cases q : fn [] with
  | ok d => rw [q] at h1; exact h1
  | ex y => rw [q] at h1; exact h1.elim
  | bad => rw [q] at h1; exact h1
/-- one that may raise, where nothing it raises may be -/
theorem pev_callN (F : FnG X.prog X.w X.K X.mg X.base (L2.CX X.prog X.w) k f fd ps (spX X.K cf fn)) (ha : cf.adr = cm.adr) (hG : X.A.guards = some []) (hr : Room k X.A) (hg : Gl X x) (hm : X.mg x = some (.ref f)) (hk : PySem.W.keepIn X.K (.ref f) = true) (hb : Binds X.K fd ps []) (h : PAV X cm W (e :: es) fa)
    (hdb : (x == ("__debug__" : Str)) = false := by decide) (he : starEach (e :: es) X.env = (false, eval e X.env) :: starEach es X.env := by rfl) (hpl : (backTo pos (starEach es X.env)).any (·.1) = false := by rfl) :
    PEV X cm W .v (.Call (.Name x p) (e :: es) [] pos) (eA (fun ds => noex (fn ds)) fa) := by
  obtain ⟨t, a1, a2⟩ := h
  have ps0 : Passes (L2.CX X.prog X.w) X (fun _ _ _ => False) := fun pins σ H s e s' _ c => by
    obtain ⟨_, _, _, _, _, _, _, _, _, _, _, _, z⟩ := c
    exact z.elim
  refine ⟨_, pe_callG (E := fun _ => E0) F hG hr hg hm hk hb (fun σ pins H s e s' J c => ps0 pins σ H s e s' J c) a1 hdb he hpl, fun B H0 ω ρ σ H Q S h => ?_⟩
  refine a2.go S h fun x a H1 s1 S1 r1 h1 => ?_
  refine ⟨ownM B ω ρ, a, S1.dom, r1, ?_⟩
  cases q : fn a with
  | ok d => rw [q] at h1; exact h1
  | ex y => rw [q] at h1; exact h1.elim
  | bad => rw [q] at h1; exact h1
theorem pev_callX (F : FnG X.prog X.w X.K X.mg X.base (L2.CX X.prog X.w) k f fd ps (spX X.K cf fn)) (ha : cf.adr = cm.adr) (tk : Takes X W) (hG : X.A.guards = some []) (hr : Room k X.A) (hg : Gl X x) (hm : X.mg x = some (.ref f)) (hk : PySem.W.keepIn X.K (.ref f) = true) (hb : Binds X.K fd ps []) (h : PAV X cm W (e :: es) fa)
    (hdb : (x == ("__debug__" : Str)) = false := by decide) (he : starEach (e :: es) X.env = (false, eval e X.env) :: starEach es X.env := by rfl) (hpl : (backTo pos (starEach es X.env)).any (·.1) = false := by rfl) :
    PEV X cm W .v (.Call (.Name x p) (e :: es) [] pos) (eA fn fa) := by
  obtain ⟨t, a1, a2⟩ := h
  refine ⟨_, pe_callG F hG hr hg hm hk hb (fun σ => passAt tk σ) a1 hdb he hpl, fun B H0 ω ρ σ H Q S h => ?_⟩
  refine a2.go S h fun x a H1 s1 S1 r1 h1 => ?_
  exact ⟨ownM B ω ρ, a, S1.dom, r1, post_cm ha h1⟩
end
/-! ### what is walked -/
/-- the items of a list, a tuple, a text -/
def dItems : PyData → Res (List PyData)
  | .list xs => .ok xs
  | .tuple xs => .ok xs
  | .str z => .ok (z.cps.toList.map fun c => .str ⟨#[c]⟩)
  | _ => .bad
def iAll (f : Rho → Res PyData) : Rho → Res (List PyData) := fun ρ => (f ρ).bind dItems
def rngI (lo : Int) (n : Nat) : List PyData := (List.range n).map fun (i : Nat) => .int (lo + (i : Int))
def dRng1 : PyData → Res (List PyData)
  | .int j => if -(2 ^ 62) ≤ j ∧ j < 2 ^ 62 then .ok (rngI 0 j.toNat) else .bad
  | _ => .bad
def dRng2 : PyData → PyData → Res (List PyData)
  | .int i, .int j => if -(2 ^ 62) ≤ i ∧ i < 2 ^ 62 ∧ -(2 ^ 62) ≤ j ∧ j < 2 ^ 62 then .ok (rngI i (j - i).toNat) else .bad
  | _, _ => .bad
def iRange1 (f : Rho → Res PyData) : Rho → Res (List PyData) := fun ρ => (f ρ).bind dRng1
def iRange2 (f g : Rho → Res PyData) : Rho → Res (List PyData) := fun ρ => (f ρ).bind fun a => (g ρ).bind fun b => dRng2 a b
/-- a list, a tuple or a text -/
def iAny (K : PySem.W.Frag) (tl : TE) : TI := fun σ H R => tl σ H fun x H1 => (∃ a xs, x = .ref a ∧ SqL K H1 a xs ∧ R (Itl K a) H1) ∨ (∃ a xs, x = .ref a ∧ SqT K H1 a xs ∧ R (Itt K a) H1) ∨ ∃ z, x = .str z ∧ R (Its z) H1
section
variable {X : Cx} {cm : CM} {W : WX} {tg : Expr}
theorem pi_any {l : Expr} {tl : TE} (hl : PE X l tl) : PI X tg l (iAny X.K tl) := by
  refine ⟨fun pins s σ H R I h => ?_⟩
  refine thn (hl.run pins s σ H _ I h) fun v s1 ⟨x, H1, I1, r1, q1⟩ => ?_
  rcases q1 with ⟨a, xs, e, hq, q⟩ | ⟨a, xs, e, hq, q⟩ | ⟨z, e, q⟩
  · subst e
    cases r1
    obtain ⟨its, rv, p, hz⟩ := I1.list hq
    refine wpAny_pyIter_list p.isList ?_
    refine ⟨s1.heap.objs.size, [s1.heap.objs.size], _, _, H1, rfl, I1.kept (t' := s1.toks) fun b o e => Heap.get?_push_of_some _ e, turn_list a _, ⟨_, Heap.get?_push_size _ rfl, rfl, rfl⟩, fun b hb => ?_, q⟩
    have e : b = s1.heap.objs.size := by simpa using hb
    subst e
    exact I1.fpOk (Nat.le_refl _) (I1.hok.fresh (Nat.le_refl _))
  · subst e
    cases r1
    obtain ⟨its, rv, p, hz⟩ := I1.tuple hq
    refine wpAny_pyIter_tuple (show s1.heap.IsTuple a its.toArray from p) ?_
    refine ⟨s1.heap.objs.size, [s1.heap.objs.size], _, _, H1, rfl, I1.kept (t' := s1.toks) fun b o e => Heap.get?_push_of_some _ e, turn_tuple a _, ⟨_, Heap.get?_push_size _ rfl, rfl, rfl⟩, fun b hb => ?_, q⟩
    have e : b = s1.heap.objs.size := by simpa using hb
    subst e
    exact I1.fpOk (Nat.le_refl _) (I1.hok.fresh (Nat.le_refl _))
  · subst e
    obtain ⟨t, rfl⟩ := r1
    cases ha : z.cps.all (· < 128)
    · exact wpAny_pyIter_wide ha (pi_one (tk := s1.toks) I1 _ (turn_str _ z t "str_iterator" (.inr rfl)) ⟨_, Heap.get?_push_size _ rfl, rfl, rfl⟩ q)
    · exact wpAny_pyIter_ascii ha (pi_one (tk := s1.toks) I1 _ (turn_str _ z t "str_ascii_iterator" (.inl rfl)) ⟨_, Heap.get?_push_size _ rfl, rfl, rfl⟩ q)
theorem wk_list {K : PySem.W.Frag} {M Mk : Addr → Prop} {H : Hp} {a : Addr} {xs : List V} {ds : List PyData} (h1 : SqL K (msk Mk H) a xs) (h2 : DpAll K (msk M H) xs ds) (hMk : ∀ b, Mk b → M b) : Wk K M Mk H (Itl K a) ds := by
  intro M' H' s n dm
  have hl := DpAll.length h2
  have h1' := Same.seq s h1
  have up : Same (msk M H) (msk M' H') := fun b o e => by
    rw [msk_of (n b o e)]
    obtain ⟨m, e⟩ := msk_some e
    exact s b o (by rw [msk_of fun z => m (hMk b z)]; exact e)
  refine ⟨fun i hi => ⟨⟨xs, xs[i], h1', List.getElem?_eq_getElem (by omega)⟩, fun x H'' y => ?_⟩, fun i hi => ⟨xs, h1', by omega⟩⟩
  obtain ⟨rfl, y⟩ := y
  obtain ⟨v, hv, r⟩ := DpAll.get h2 (List.getElem?_eq_getElem hi)
  have e := y xs h1'
  rw [hv] at e
  cases e
  exact ⟨Same.refl _, _, List.getElem?_eq_getElem hi, Dp_same up _ _ r⟩
theorem wk_tup {K : PySem.W.Frag} {M Mk : Addr → Prop} {H : Hp} {a : Addr} {xs : List V} {ds : List PyData} (h1 : SqT K (msk Mk H) a xs) (h2 : DpAll K (msk M H) xs ds) (hMk : ∀ b, Mk b → M b) : Wk K M Mk H (Itt K a) ds := by
  intro M' H' s n dm
  have hl := DpAll.length h2
  have h1' := Same.seqT s h1
  have up : Same (msk M H) (msk M' H') := fun b o e => by
    rw [msk_of (n b o e)]
    obtain ⟨m, e⟩ := msk_some e
    exact s b o (by rw [msk_of fun z => m (hMk b z)]; exact e)
  refine ⟨fun i hi => ⟨⟨xs, xs[i], h1', List.getElem?_eq_getElem (by omega)⟩, fun x H'' y => ?_⟩, fun i hi => ⟨xs, h1', by omega⟩⟩
  obtain ⟨rfl, y⟩ := y
  obtain ⟨v, hv, r⟩ := DpAll.get h2 (List.getElem?_eq_getElem hi)
  have e := y xs h1'
  rw [hv] at e
  cases e
  exact ⟨Same.refl _, _, List.getElem?_eq_getElem hi, Dp_same up _ _ r⟩
theorem wk_str {K : PySem.W.Frag} {M Mk : Addr → Prop} {H : Hp} {z : Str} : Wk K M Mk H (Its z) (z.cps.toList.map fun c => .str ⟨#[c]⟩) := by
  intro M' H' s n dm
  refine ⟨fun i hi => ⟨by show i < z.cps.size; simpa using hi, fun x H'' y => ?_⟩, fun i hi => by show z.cps.size ≤ i; rw [hi]; simp⟩
  obtain ⟨rfl, c, hc, rfl⟩ := y
  refine ⟨Same.refl _, .str ⟨#[c]⟩, ?_, .str _⟩
  rw [List.getElem?_map]
  have e : z.cps.toList[i]? = some c := by simpa using hc
  rw [e]
  rfl
theorem wk_rng {K : PySem.W.Frag} {M Mk : Addr → Prop} {H : Hp} {lo : Int} {n : Nat} : Wk K M Mk H (Itr lo n) (rngI lo n) := by
  intro M' H' s nn dm
  refine ⟨fun i hi => ⟨by show i < n; simpa [rngI] using hi, fun x H'' y => ?_⟩, fun i hi => by show n ≤ i; rw [hi]; simp [rngI]⟩
  obtain ⟨rfl, rfl⟩ := y
  refine ⟨Same.refl _, .int (lo + (i : Int)), ?_, .int _⟩
  have hi' : i < n := by simpa [rngI] using hi
  unfold rngI
  rw [List.getElem?_map, List.getElem?_range hi']
  rfl
theorem iok_any {K : PySem.W.Frag} {m : Md} {c : Bool} {tl : TE} {f : Rho → Res PyData} (hm : (c = false ∧ m = .v) ∨ (c = true ∧ m = .p)) (h : Ev K cm W m tl f) : IOk K cm W c (iAny K tl) (iAll f) := by
  intro B H0 ω ρ σ H R S q
  refine h B H0 ω ρ σ H _ S ?_
  unfold iAll at q
  cases e : f ρ with
  | bad => rw [e] at q; exact q
  | ex x => rw [e] at q; exact q
  | ok d =>
    rw [e, Res.ok_bind] at q
    intro v H1 s1 r1
    cases d with
    | list xs =>
      rcases hm with ⟨rfl, rfl⟩ | ⟨rfl, rfl⟩
      · have r1 : Dp K (msk (ownM B ω ρ) H1) v (.list xs) := r1
        cases r1 with
        | lst hs ha => exact .inl ⟨_, _, rfl, Same.seq msk_le hs, q _ H1 s1 (wk_list hs ha fun _ z => z)⟩
      · obtain ⟨a, ys, rfl, h1, h2⟩ := Rm.lst r1
        exact .inl ⟨_, _, rfl, h1, q _ H1 s1 (wk_list (by rw [if_pos rfl, msk_noM]; exact h1) h2 (by rw [if_pos rfl]; exact fun b z => z.elim))⟩
    | tuple xs =>
      rcases hm with ⟨rfl, rfl⟩ | ⟨rfl, rfl⟩
      · have r1 : Dp K (msk (ownM B ω ρ) H1) v (.tuple xs) := r1
        cases r1 with
        | tup hs ha => exact .inr (.inl ⟨_, _, rfl, Same.seqT msk_le hs, q _ H1 s1 (wk_tup hs ha fun _ z => z)⟩)
      · obtain ⟨a, ys, rfl, h1, h2⟩ := Rm.tup r1
        exact .inr (.inl ⟨_, _, rfl, h1, q _ H1 s1 (wk_tup (by rw [if_pos rfl, msk_noM]; exact h1) h2 (by rw [if_pos rfl]; exact fun b z => z.elim))⟩)
    | str z =>
      have ev : v = .str z := by
        rcases hm with ⟨rfl, rfl⟩ | ⟨rfl, rfl⟩
        · exact (Rm.v_p (H := H1) r1).strP
        · exact Rm.strP r1
      exact .inr (.inr ⟨z, ev, q _ H1 s1 wk_str⟩)
    | none => exact q.elim
    | bool _ => exact q.elim
    | int _ => exact q.elim
    | dict _ => exact q.elim
theorem piv_any {c : Bool} {m : Md} {l : Expr} {f : Rho → Res PyData} (h : PEV X cm W m l f) (hm : (c = false ∧ m = .v) ∨ (c = true ∧ m = .p) := by first | exact .inl ⟨rfl, rfl⟩ | exact .inr ⟨rfl, rfl⟩) : PIV X cm W c tg l (iAll f) := let ⟨_, a1, a2⟩ := h; ⟨_, pi_any a1, iok_any hm a2⟩
theorem iok_go {K : PySem.W.Frag} {m : Md} {c : Bool} {t : TE} {f : Rho → Res PyData} {g : PyData → Res (List PyData)} {B : Addr → Prop} {H0 : Hp} {ω : Nat → Addr} {ρ : Rho} {σ : St} {H : Hp} {R : It → Hp → Prop} {Q : VK} (h : Ev K cm W m t f) (S : SR K cm.P B H0 ω ρ σ H)
    (q : match (f ρ).bind g with
      | .ok ds => ∀ J H', Same H H' → Wk K (ownM B ω ρ) (if c = true then NoM else ownM B ω ρ) H' J ds → R J H'
      | .ex e => ∀ cc dd H', Same H H' → ExR K cm (msk (ownM B ω ρ) H') e cc dd → W cc dd σ H'
      | .bad => False)
    (k : ∀ v d H', Same H H' → SR K cm.P B H0 ω ρ σ H' → Rm K m (ownM B ω ρ) H H' v d → (match g d with
      | .ok ds => ∀ J H2, Same H' H2 → Wk K (ownM B ω ρ) (if c = true then NoM else ownM B ω ρ) H2 J ds → R J H2
      | .ex e => ∀ cc dd H2, Same H' H2 → ExR K cm (msk (ownM B ω ρ) H2) e cc dd → W cc dd σ H2
      | .bad => False) → Q v H') : t σ H Q := by
  refine h B H0 ω ρ σ H _ S ?_
  cases e : f ρ with
  | bad => rw [e] at q; exact q
  | ex x => rw [e] at q; exact q
  | ok d =>
    rw [e, Res.ok_bind] at q
    intro v H1 s1 r1
    refine k v d H1 s1 (S.ext s1) r1 ?_
    cases e2 : g d with
    | bad => rw [e2] at q; exact q
    | ex x => rw [e2] at q; exact fun cc dd H2 s2 => q cc dd H2 (s1.trans s2)
    | ok ds => rw [e2] at q; exact fun J H2 s2 => q J H2 (s1.trans s2)
theorem piv_range1 {c : Bool} {a : Expr} {f : Rho → Res PyData} {p pos : Pos} (hg : Gl X "range") (hm : X.mg "range" = none) (h : PEV X cm W .p a f) (hs : starEach [a] X.env = [(false, eval a X.env)] := by rfl) : PIV X cm W c tg (.Call (.Name "range" p) [a] [] pos) (iRange1 f) := by
  obtain ⟨t, a1, a2⟩ := h
  refine ⟨_, pi_range1 hg hm (pa_cons a1 pa_nil hs) hs, fun B H0 ω ρ σ H R S q => ?_⟩
  refine iok_go a2 S q fun v d H1 s1 S1 r1 q1 => ?_
  cases d with
  | int j =>
    have ev := Rm.intP r1
    subst ev
    unfold dRng1 at q1
    by_cases hj : -(2 ^ 62) ≤ j ∧ j < 2 ^ 62
    · simp only [if_pos hj] at q1
      exact ⟨j, rfl, hj.1, hj.2, q1 _ H1 (Same.refl _) wk_rng⟩
    · simp only [if_neg hj] at q1
  | _ => exact q1.elim
theorem piv_range2 {c : Bool} {a b : Expr} {f g : Rho → Res PyData} {p pos : Pos} (hg : Gl X "range") (hm : X.mg "range" = none) (h : PEV X cm W .p a f) (h' : PEV X cm W .p b g) (hs : starEach [a, b] X.env = [(false, eval a X.env), (false, eval b X.env)] := by rfl) (hs2 : starEach [b] X.env = [(false, eval b X.env)] := by rfl)
    (hs3 : starEach [a, b] X.env = (false, eval a X.env) :: starEach [b] X.env := by rfl) : PIV X cm W c tg (.Call (.Name "range" p) [a, b] [] pos) (iRange2 f g) := by
  obtain ⟨t, a1, a2⟩ := h
  obtain ⟨u, b1, b2⟩ := h'
  refine ⟨_, pi_range2 hg hm (pa_cons a1 (pa_cons b1 pa_nil hs2) hs3) hs hs2, fun B H0 ω ρ σ H R S q => ?_⟩
  refine iok_go a2 S q fun v d H1 s1 S1 r1 q1 => ?_
  refine iok_go b2 S1 q1 fun v2 d2 H2 s2 S2 r2 q2 => ?_
  cases d with
  | int i =>
    cases d2 with
    | int j =>
      have ev := Rm.intP r1
      subst ev
      have ev := Rm.intP r2
      subst ev
      unfold dRng2 at q2
      by_cases hj : -(2 ^ 62) ≤ i ∧ i < 2 ^ 62 ∧ -(2 ^ 62) ≤ j ∧ j < 2 ^ 62
      · simp only [if_pos hj] at q2
        exact ⟨i, j, rfl, hj, q2 _ H2 (Same.refl _) wk_rng⟩
      · simp only [if_neg hj] at q2
    | _ => exact q2.elim
  | _ => exact q2.elim
end
end DL
end
section
set_option Elab.async false
set_option linter.all false
set_option maxRecDepth 100000
set_option maxHeartbeats 4000000
/-! DL5: comprehensions. -/
namespace DL
open PySem PySem.Spec PyProof.Rows L2

/-! ### the reading that a plain function tells -/
section
variable {K : PySem.W.Frag} {cm : CM} {W : WX}
def tFg {α β : Type} (K : PySem.W.Frag) (cm : CM) (W : WX) (R : (Addr → Prop) → Hp → Hp → β → α → Prop) (f : Rho → Res α) : St → Hp → (β → Hp → Prop) → Prop :=
  fun σ H Q => ∃ B H0 ω ρ, SR K cm.P B H0 ω ρ σ H ∧ Post K cm (ownM B ω ρ) (R (ownM B ω ρ) H) H Q (fun c dd H' => W c dd σ H') (f ρ)
theorem ok_F {α β : Type} {R : (Addr → Prop) → Hp → Hp → β → α → Prop} {f : Rho → Res α} : Ok K cm W R (tFg K cm W R f) f := fun B H0 ω ρ σ H Q S q => ⟨B, H0, ω, ρ, S, q⟩
def gF (K : PySem.W.Frag) (cm : CM) (sl : List Nat) (γ : PyData → Rho → Option Rho) : TG := fun v σ H Q => ∃ B H0 ω ρ d ρ', SR K cm.P B H0 ω ρ σ H ∧ Dp K (msk (ownM B ω ρ) H) v d ∧ γ d ρ = some ρ' ∧
  ∀ σ', SR K cm.P B H0 ω ρ' σ' H → (∀ a, ownM B ω ρ' a → ownM B ω ρ a) → (σ'.length = σ.length ∧ ∀ i, i ∉ sl → σ'[i]? = σ[i]? ∧ ρ'[i]? = ρ[i]?) → Q σ' H
def iF (K : PySem.W.Frag) (cm : CM) (W : WX) (c : Bool) (f : Rho → Res (List PyData)) : TI := fun σ H R => ∃ B H0 ω ρ, SR K cm.P B H0 ω ρ σ H ∧ (match f ρ with
    | .ok ds => ∀ J H', Same H H' → Wk K (ownM B ω ρ) (if c = true then NoM else ownM B ω ρ) H' J ds → R J H'
    | .ex e => ∀ cc dd H', Same H H' → ExR K cm (msk (ownM B ω ρ) H') e cc dd → W cc dd σ H'
    | .bad => False)
end
section
variable {X : Cx} {cm : CM} {W : WX}
theorem PEV.pe {m : Md} {e : Expr} {f : Rho → Res PyData} (h : PEV X cm W m e f) : PE X e (tFg X.K cm W (Rm X.K m) f) := by
  obtain ⟨t, h1, h2⟩ := h
  exact ⟨fun pins s σ H Q I ⟨B, H0, ω, ρ, S, q⟩ => h1.run pins s σ H Q I (h2 B H0 ω ρ σ H Q S q)⟩
theorem PTV.pt {e : Expr} {f : Rho → Res Bool} (h : PTV X cm W e f) : PT X e (tFg X.K cm W RB f) := by
  obtain ⟨t, h1, h2⟩ := h
  exact ⟨fun pins s σ H Q I ⟨B, H0, ω, ρ, S, q⟩ => h1.run pins s σ H Q I (h2 B H0 ω ρ σ H Q S q)⟩
theorem PGV.pg {sl : List Nat} {e : Expr} {γ : PyData → Rho → Option Rho} (h : PGV X cm sl e γ) : PG X e (gF X.K cm sl γ) := by
  obtain ⟨t, h1, h2⟩ := h
  exact ⟨fun pins s σ H v u Q I r ⟨B, H0, ω, ρ, d, ρ', S, hd, e, q⟩ => h1.run pins s σ H v u Q I r (h2 B H0 ω ρ σ H v d ρ' Q S hd e q)⟩
theorem PIV.pi {c : Bool} {tg e : Expr} {f : Rho → Res (List PyData)} (h : PIV X cm W c tg e f) : PI X tg e (iF X.K cm W c f) := by
  obtain ⟨t, h1, h2⟩ := h
  exact ⟨fun pins s σ H R I ⟨B, H0, ω, ρ, S, q⟩ => h1.run pins s σ H R I (h2 B H0 ω ρ σ H R S q)⟩
end

/-! ### the plain side -/
def wipeR (ρ : Rho) : List Nat → Rho
  | [] => ρ
  | v :: vs => (wipeR ρ vs).set v .u
/-- one item: its value, or nothing where the test says no -/
def cStep (γ : PyData → Rho → Option Rho) (c : Rho → Res Bool) (k : Rho → Res (List PyData)) (ρ : Rho) (d : PyData) : Res (List PyData) := match γ d ρ with
  | none => .bad
  | some ρ1 => match c ρ1 with
    | .ok true => k ρ1
    | .ok false => .ok []
    | _ => .bad
def cLoop (s : PyData → Res (List PyData)) : List PyData → Res (List PyData)
  | [] => .ok []
  | d :: ds => match s d with
    | .ok a => match cLoop s ds with
      | .ok b => .ok (a ++ b)
      | _ => .bad
    | _ => .bad
def kOne (e : Rho → Res PyData) : Rho → Res (List PyData) := fun ρ => match e ρ with
  | .ok y => .ok [y]
  | _ => .bad
def kIn (it : Rho → Res (List PyData)) (vs1 : List Nat) (γ : PyData → Rho → Option Rho) (c : Rho → Res Bool) (e : Rho → Res PyData) : Rho → Res (List PyData) := fun ρ => match it ρ with
  | .ok ds => cLoop (cStep γ c (kOne e) (wipeR ρ vs1)) ds
  | _ => .bad
def tYs : Rho → Res Bool := fun _ => .ok true
def eComp (it : Rho → Res (List PyData)) (vs : List Nat) (γ : PyData → Rho → Option Rho) (c : Rho → Res Bool) (k : Rho → Res (List PyData)) : Rho → Res PyData := fun ρ => (it ρ).bind fun ds => match cLoop (cStep γ c k (wipeR ρ vs)) ds with
  | .ok ys => if ys.length ≤ sizeLine then .ok (.list ys) else .bad
  | _ => .bad

section
variable {K : PySem.W.Frag} {P : Nat → Option (V × (Hp → Prop))} {B : Addr → Prop} {H0 H H' : Hp} {ω : Nat → Addr} {ρ : Rho} {σ : St}
theorem msk_same' {M : Addr → Prop} {H H' : Hp} (e : ∀ b o, ¬ M b → H b = some o → H' b = some o) : Same (msk M H) (msk M H') := fun b o h => by
  obtain ⟨m, h⟩ := msk_some h
  rw [msk_of m]
  exact e b o m h
/-- a slot is forgotten, its list stays hidden -/
theorem own_forgetB (S : SR K P B H0 ω ρ σ H) (i : Nat) : ownM (fun a => B a ∨ ∃ xs, ρ[i]? = some (.o xs) ∧ ω i = a) ω (ρ.set i .u) = ownM B ω ρ := by
  funext a
  apply propext
  constructor
  · rintro ((z | ⟨xs, z, e⟩) | ⟨j, xs, z, e⟩)
    · exact .inl z
    · exact .inr ⟨i, xs, z, e⟩
    · rcases set_get z with ⟨_, z⟩ | ⟨_, z⟩
      · cases z
      · exact .inr ⟨j, xs, z, e⟩
  · rintro (z | ⟨j, xs, z, e⟩)
    · exact .inl (.inl z)
    · by_cases q : i = j
      · subst q
        exact .inl (.inr ⟨xs, z, e⟩)
      · exact .inr ⟨j, xs, by rw [List.getElem?_set_ne q]; exact z, e⟩
theorem SR.forgetB (S : SR K P B H0 ω ρ σ H) {v : Option V} (i : Nat) : SR K P (fun a => B a ∨ ∃ xs, ρ[i]? = some (.o xs) ∧ ω i = a) H0 ω (ρ.set i .u) (σ.set i v) H := by
  have mm := own_forgetB S i
  refine ⟨by rw [List.length_set, List.length_set, S.len], fun j s w h1 h2 => ?_, fun j k xs ys h1 h2 e => ?_, fun j xs h1 => ?_, S.same, fun a h => ?_⟩
  · rw [mm]
    rcases set_get h1 with ⟨rfl, rfl⟩ | ⟨e, h1⟩
    · trivial
    · rcases set_get h2 with ⟨e', _⟩ | ⟨_, h2⟩
      · exact absurd e' e
      · exact S.sl j s w h1 h2
  · rcases set_get h1 with ⟨_, z⟩ | ⟨_, h1⟩
    · cases z
    · rcases set_get h2 with ⟨_, z⟩ | ⟨_, h2⟩
      · cases z
      · exact S.inj j k xs ys h1 h2 e
  · rcases set_get h1 with ⟨_, z⟩ | ⟨ne, h1⟩
    · cases z
    · refine ⟨(S.new j xs h1).1, ?_⟩
      rintro (z | ⟨zs, z, e⟩)
      · exact (S.new j xs h1).2 z
      · exact ne (S.inj i j _ _ z h1 e)
  · rcases h with h | ⟨xs, z, e⟩
    · exact S.base a h
    · exact S.dom a (.inr ⟨i, xs, z, e⟩)
def wipeB (B : Addr → Prop) (ω : Nat → Addr) (ρ : Rho) : List Nat → (Addr → Prop)
  | [] => B
  | v :: vs => fun a => wipeB B ω ρ vs a ∨ ∃ xs, (wipeR ρ vs)[v]? = some (.o xs) ∧ ω v = a
theorem SR.wipe (S : SR K P B H0 ω ρ σ H) : ∀ vs : List Nat, SR K P (wipeB B ω ρ vs) H0 ω (wipeR ρ vs) (wipe σ vs) H ∧ ownM (wipeB B ω ρ vs) ω (wipeR ρ vs) = ownM B ω ρ
  | [] => ⟨S, rfl⟩
  | v :: vs => by
    obtain ⟨S1, e1⟩ := SR.wipe S vs
    exact ⟨S1.forgetB v, (own_forgetB S1 v).trans e1⟩
theorem wipeB_le : ∀ (vs : List Nat) (a : Addr), B a → wipeB B ω ρ vs a
  | [], _, h => h
  | v :: vs, a, h => .inl (wipeB_le vs a h)
/-- a hidden list of another frame changes -/
theorem SR.move (S : SR K P B H0 ω ρ σ H) {D : Addr} (hD : B D) (h0 : H0 D = none) (e : Same (msk (fun a => a = D) H) H') (h1 : ∃ o, H' D = some o) : SR K P B H0 ω ρ σ H' := by
  have up : Same (msk (ownM B ω ρ) H) (msk (ownM B ω ρ) H') := msk_same' fun b o m q => e b o (by rw [msk_of (M := fun a => a = D) fun z => m (by rw [show b = D from z]; exact .inl hD)]; exact q)
  refine ⟨S.len, fun i s v g1 g2 => ?_, S.inj, S.new, fun b o q => ?_, fun a ha => ?_⟩
  · have q := S.sl i s v g1 g2
    cases s with
    | u => trivial
    | x =>
      obtain ⟨w, φ, h1, h2, h3, h4⟩ := q
      exact ⟨w, φ, h1, h2, h4 _ _ up h3, h4⟩
    | d x =>
      obtain ⟨y, ey, q⟩ := q
      exact ⟨y, ey, Dp_same up _ _ q⟩
    | o xs =>
      obtain ⟨ey, ys, q1, q2⟩ := q
      refine ⟨ey, ys, e _ _ ?_, DpAll_same up _ _ q2⟩
      rw [msk_of (M := fun a => a = D) fun z => (S.new i xs g1).2 (by rw [show ω i = D from z]; exact hD)]
      exact q1
  · refine e b o ?_
    rw [msk_of (M := fun a => a = D) fun z => ?_]
    · exact S.same b o q
    · rw [show b = D from z, h0] at q
      cases q
  · by_cases q : a = D
    · rw [q]; exact h1
    · obtain ⟨o, z⟩ := S.base a ha
      exact ⟨o, e a o (by rw [msk_of (M := fun a => a = D) q]; exact z)⟩
theorem wipeR_in : ∀ (vs : List Nat) (i : Nat), i ∈ vs → ∀ s, (wipeR ρ vs)[i]? = some s → s = .u
  | v :: vs, i, h, s, e => by
    rcases set_get e with ⟨_, z⟩ | ⟨ne, z⟩
    · exact z
    · rcases List.mem_cons.mp h with q | q
      · exact absurd q.symm ne
      · exact wipeR_in vs i q s z
/-- a further list is hidden -/
theorem SR.hide (S : SR K P B H0 ω ρ σ H) (e : Same H H') {D : Addr} (hD : H D = none) {o : HO} (h : H' D = some o) : SR K P (fun a => B a ∨ a = D) H0 ω ρ σ H' := by
  have mm : ∀ a, ownM (fun a => B a ∨ a = D) ω ρ a → ownM B ω ρ a ∨ a = D := by
    rintro a ((z | z) | z)
    · exact .inl (.inl z)
    · exact .inr z
    · exact .inl (.inr z)
  have ne : ∀ b o, H b = some o → b ≠ D := fun b o q z => by
    subst z
    rw [hD] at q; cases q
  have up : Same (msk (ownM B ω ρ) H) (msk (ownM (fun a => B a ∨ a = D) ω ρ) H') := msk_go (fun b o q => e b o (msk_some q).2) fun b o q z => by
    obtain ⟨m, q⟩ := msk_some q
    rcases mm b z with z | z
    · exact m z
    · exact ne _ _ q z
  refine ⟨S.len, fun i s v h1 h2 => ?_, S.inj, fun i xs h1 => ⟨(S.new i xs h1).1, ?_⟩, S.same.trans e, ?_⟩
  · have q := S.sl i s v h1 h2
    cases s with
    | u => trivial
    | x =>
      obtain ⟨w, φ, h1, h2, h3, h4⟩ := q
      exact ⟨w, φ, h1, h2, h4 _ _ up h3, h4⟩
    | d x =>
      obtain ⟨y, ey, q⟩ := q
      exact ⟨y, ey, Dp_same up _ _ q⟩
    | o xs =>
      obtain ⟨ey, ys, q1, q2⟩ := q
      exact ⟨ey, ys, e _ _ q1, DpAll_same up _ _ q2⟩
  · rintro (z | z)
    · exact (S.new i xs h1).2 z
    · obtain ⟨o, q⟩ := S.dom _ (.inr ⟨i, xs, h1, rfl⟩)
      exact ne _ _ q z
  · rintro a (z | rfl)
    · obtain ⟨o, q⟩ := S.base a z
      exact ⟨o, e _ _ q⟩
    · exact ⟨_, h⟩
end
theorem wipe_get (σ : St) (i : Nat) : ∀ vs : List Nat, (wipe σ vs)[i]? = if i ∈ vs then (if i < σ.length then some none else none) else σ[i]?
  | [] => by simp [wipe]
  | v :: vs => by
    unfold wipe
    rw [List.getElem?_set, wipe_length, wipe_get σ i vs]
    by_cases h : v = i
    · subst h
      simp
    · have h' : i ≠ v := fun z => h z.symm
      simp [h, h']
theorem wipe_eq {σ σ' : St} {vs : List Nat} (hl : σ'.length = σ.length) (h : ∀ i, i ∉ vs → σ'[i]? = (wipe σ vs)[i]?) : wipe σ' vs = wipe σ vs := by
  apply List.ext_getElem?
  intro i
  rw [wipe_get σ']
  by_cases hi : i ∈ vs
  · rw [wipe_get σ, if_pos hi, if_pos hi, hl]
  · rw [if_neg hi]
    exact h i hi
section
variable {K : PySem.W.Frag} {cm : CM} {W : WX}
abbrev W0 : WX := fun _ _ _ _ => False
/-- what a turn wants behind its tests -/
theorem turn_ok {B : Addr → Prop} {H0 : Hp} {ω : Nat → Addr} {ρ : Rho} {σ : St} {H : Hp} {vs sl : List Nat} {γ : PyData → Rho → Option Rho} {c : Rho → Res Bool} {k : Rho → Res (List PyData)} {x : V} {d : PyData} {as : List PyData} {N : Hp → Prop} {tk : St → Hp → Prop}
    (S : SR K cm.P B H0 ω (wipeR ρ vs) (wipe σ vs) H) (hd : Dp K (msk (ownM B ω (wipeR ρ vs)) H) x d) (hs : cStep γ c k (wipeR ρ vs) d = .ok as) (hsl : ∀ i ∈ sl, i ∈ vs)
    (hN : as = [] → ∀ H', Same H H' → N H')
    (hY : ∀ σ2 ρ1 H', Same H H' → SR K cm.P B H0 ω ρ1 σ2 H' → ownM B ω ρ1 = ownM B ω (wipeR ρ vs) → k ρ1 = .ok as → tk σ2 H') :
    gF K cm sl γ x (wipe σ vs) H fun σ2 H2 => wipe σ2 vs = wipe σ vs ∧ tFg K cm W0 RB c σ2 H2 fun b H3 => if b = true then tk σ2 H3 else N H3 := by
  unfold cStep at hs
  cases e1 : γ d (wipeR ρ vs) with
  | none => rw [e1] at hs; cases hs
  | some ρ1 =>
    rw [e1] at hs
    refine ⟨B, H0, ω, wipeR ρ vs, d, ρ1, S, hd, e1, fun σ' S' m k' => ⟨wipe_eq (by rw [k'.1, wipe_length]) fun i hi => (k'.2 i fun z => hi (hsl i z)).1, ?_⟩⟩
    have me : ownM B ω ρ1 = ownM B ω (wipeR ρ vs) := by
      funext a
      apply propext
      refine ⟨m a, ?_⟩
      rintro (z | ⟨j, xs, z, e⟩)
      · exact .inl z
      · refine .inr ⟨j, xs, ?_, e⟩
        rw [(k'.2 j fun q => ?_).2]
        · exact z
        · have := wipeR_in vs j (hsl j q) _ z
          cases this
    refine ⟨B, H0, ω, ρ1, S', ?_⟩
    cases e2 : c ρ1 with
    | bad => simp only [e2] at hs; cases hs
    | ex y => simp only [e2] at hs; cases hs
    | ok b =>
      simp only [e2] at hs
      rintro b' H3 s3 rfl
      cases b' with
      | true => rw [if_pos rfl]; exact hY σ' ρ1 H3 s3 (S'.ext s3) me hs
      | false =>
        have : as = [] := by cases hs; rfl
        exact hN this H3 s3
theorem cLoop_cons {s : PyData → Res (List PyData)} {d : PyData} {ds ys : List PyData} (h : cLoop s (d :: ds) = .ok ys) : ∃ a b, s d = .ok a ∧ cLoop s ds = .ok b ∧ ys = a ++ b := by
  unfold cLoop at h
  cases e : s d with
  | ok a =>
    simp only [e] at h
    cases e2 : cLoop s ds with
    | ok b =>
      simp only [e2] at h
      cases h
      exact ⟨a, b, rfl, rfl, rfl⟩
    | ex x => simp only [e2] at h; cases h
    | bad => simp only [e2] at h; cases h
  | ex x => simp only [e] at h; cases h
  | bad => simp only [e] at h; cases h
theorem kOne_ok {e : Rho → Res PyData} {ρ : Rho} {as : List PyData} (h : kOne e ρ = .ok as) : ∃ y, e ρ = .ok y ∧ as = [y] := by
  unfold kOne at h
  cases q : e ρ with
  | ok y => rw [q] at h; cases h; exact ⟨y, rfl, rfl⟩
  | ex x => rw [q] at h; cases h
  | bad => rw [q] at h; cases h
/-- the new list as it grows -/
theorem grow {M : Addr → Prop} {H : Hp} {D : Addr} {acc : List V} {as : List PyData} {y : V} {d : PyData} (hm : M D) (h1 : DpAll K (msk M H) acc as) (h2 : Dp K (msk M H) y d) : DpAll K (msk M (upd H D (.lst (acc ++ [y])))) (acc ++ [y]) (as ++ [d]) := by
  have e : msk M (upd H D (.lst (acc ++ [y]))) = msk M H := by
    funext b
    by_cases m : M b
    · rw [msk_none m, msk_none m]
    · rw [msk_of m, msk_of m, upd_ne]
      rintro rfl
      exact m hm
  rw [e]
  exact DpAll.append h1 (DpAll.one h2)
theorem upd_keep {H1 H : Hp} {D : Addr} {o : HO} (hD : H1 D = none) (s : Same H1 H) : Same H1 (upd H D o) := fun b u q => by
  rw [upd_ne (ne_of_none q hD)]
  exact s b u q
/-- what the new list holds, at a heap: told by the frame's own hiding -/
def Held (K : PySem.W.Frag) (M : Addr → Prop) (H1 H : Hp) (D : Addr) (as : List PyData) : Prop := Same H1 H ∧ ∃ acc, H D = some (.lst acc) ∧ DpAll K (msk (fun b => M b ∨ b = D) H) acc as
theorem Held.ext {M : Addr → Prop} {H1 H H' : Hp} {D : Addr} {as : List PyData} (h : Held K M H1 H D as) (s : Same H H') : Held K M H1 H' D as := by
  obtain ⟨s1, acc, e, q⟩ := h
  exact ⟨s1.trans s, acc, s _ _ e, DpAll_same (msk_same s) _ _ q⟩
theorem Held.put {M : Addr → Prop} {H1 H : Hp} {D : Addr} {as : List PyData} {y : V} {d : PyData} (hD : H1 D = none) (h : Held K M H1 H D as) (hy : Dp K (msk (fun b => M b ∨ b = D) H) y d) : ∃ acc, H D = some (.lst acc) ∧ acc.length = as.length ∧ Held K M H1 (upd H D (.lst (acc ++ [y]))) D (as ++ [d]) := by
  obtain ⟨s1, acc, e, q⟩ := h
  exact ⟨acc, e, DpAll.length q, upd_keep hD s1, _, upd_same, grow (M := fun b => M b ∨ b = D) (.inr rfl) q hy⟩
theorem own_hide {B : Addr → Prop} {ω : Nat → Addr} {ρ : Rho} {D : Addr} : ownM (fun a => B a ∨ a = D) ω ρ = fun a => ownM B ω ρ a ∨ a = D := by
  funext a
  apply propext
  constructor
  · rintro ((z | z) | z)
    · exact .inl (.inl z)
    · exact .inr z
    · exact .inl (.inr z)
  · rintro ((z | z) | z)
    · exact .inl (.inl z)
    · exact .inr z
    · exact .inl (.inr z)
end
section
variable {X : Cx} {cm : CM} {W : WX}
theorem ev_comp {K : PySem.W.Frag} {wi : TI} {own : List (Str × Nat)} {sl : List Nat} {fi : Rho → Res (List PyData)} {γ : PyData → Rho → Option Rho} {fc : Rho → Res Bool} {fe : Rho → Res PyData} (hsl : ∀ i ∈ sl, i ∈ own.map (·.2)) (i2 : IOk K cm W true wi fi) :
    Ev K cm W .f (tLc wi (gF K cm sl γ) (tFg K cm W0 RB fc) (tFg K cm W0 (Rm K .v) fe) (own.map (·.2))) (eComp fi (own.map (·.2)) γ fc (kOne fe)) := by
  intro B H0 ω ρ σ H Q S q
  refine i2 B H0 ω ρ σ H _ S ?_
  unfold eComp at q
  cases e : fi ρ with
  | bad => rw [e] at q; exact q
  | ex x => rw [e] at q; exact q
  | ok ds =>
    rw [e, Res.ok_bind] at q
    intro J H1 s1 wk D hD
    rw [if_pos rfl] at wk
    have S1 := S.ext s1
    cases e2 : cLoop (cStep γ fc (kOne fe) (wipeR ρ (own.map (·.2)))) ds with
    | bad => simp only [e2] at q; exact q.elim
    | ex x => simp only [e2] at q; exact q.elim
    | ok ys =>
      simp only [e2] at q
      by_cases hz : ys.length ≤ sizeLine
      · rw [if_pos hz] at q
        have h0 : Held K (ownM B ω ρ) H1 (upd H1 D (.lst [])) D [] := ⟨same_new hD, [], upd_same, .nil⟩
        refine ⟨fun i m H' => i + m = ds.length ∧ ∃ as bs, Held K (ownM B ω ρ) H1 H' D as ∧ cLoop (cStep γ fc (kOne fe) (wipeR ρ (own.map (·.2)))) (ds.drop i) = .ok bs ∧ as ++ bs = ys, ⟨ds.length, by omega, [], ys, h0, by rw [List.drop_zero]; exact e2, rfl⟩, ?_⟩
        rintro i m H' ⟨hm, as, bs, hh, e3, e4⟩
        obtain ⟨Sw, mw⟩ := S1.wipe (own.map (·.2))
        have hh0 := hh
        obtain ⟨z1, acc, z2, z3⟩ := hh0
        have Sh := Sw.hide z1 hD z2
        have mh : ownM (fun a => wipeB B ω ρ (own.map (·.2)) a ∨ a = D) ω (wipeR ρ (own.map (·.2))) = fun a => ownM B ω ρ a ∨ a = D := by rw [own_hide, mw]
        have wk' := wk (ownM (fun a => wipeB B ω ρ (own.map (·.2)) a ∨ a = D) ω (wipeR ρ (own.map (·.2)))) H' (by rw [msk_noM]; exact hh.1) (fun a o z y => by
          obtain ⟨w1, w2⟩ := msk_some z
          rw [mh] at y
          rcases y with y2 | y2
          · exact w1 y2
          · rw [y2, hD] at w2
            cases w2) Sh.dom
        by_cases hlt : i < ds.length
        · obtain ⟨go, st⟩ := wk'.1 i hlt
          refine .inr ⟨go, fun H2 => ∃ as bs, Held K (ownM B ω ρ) H1 H2 D as ∧ cLoop (cStep γ fc (kOne fe) (wipeR ρ (own.map (·.2)))) (ds.drop (i + 1)) = .ok bs ∧ as ++ bs = ys, fun H2 ⟨as, bs, g1, g2, g3⟩ => ⟨m - 1, by omega, by omega, as, bs, g1, g2, g3⟩, fun x H2 y => ?_⟩
          obtain ⟨s2, d, hd, rd⟩ := st x H2 y
          have ed : ds.drop i = d :: ds.drop (i + 1) := by
            rw [List.drop_eq_getElem_cons hlt]
            rw [List.getElem?_eq_getElem hlt] at hd
            rw [Option.some.inj hd]
          rw [ed] at e3
          obtain ⟨a1, b1, q1, q2, q3⟩ := cLoop_cons e3
          refine turn_ok (k := kOne fe) (Sh.ext s2) rd q1 hsl (fun z H3 s3 => ?_) (fun σ2 ρ1 H3 s3 S3 me z => ?_)
          · subst z
            exact ⟨as, b1, (hh.ext s2).ext s3, q2, by rw [← e4, q3]; rfl⟩
          · obtain ⟨yv, z1, z2⟩ := kOne_ok z
            refine ⟨_, H0, ω, ρ1, S3, ?_⟩
            rw [z1]
            intro v H4 s4 r4
            rw [me, mh] at r4
            have h4 := ((hh.ext s2).ext s3).ext s4
            obtain ⟨acc, g1, g2, g3⟩ := h4.put hD r4
            subst z2
            have el : as.length + 1 ≤ ys.length := by
              rw [← e4, q3, List.length_append, List.length_append, List.length_singleton]
              omega
            exact ⟨acc, g1, by rw [g2]; omega, as ++ [yv], b1, g3, q2, by rw [← e4, q3, List.append_assoc]⟩
        · refine .inl ⟨wk'.2 i (by omega), ?_⟩
          rw [List.drop_eq_nil_of_le (by omega)] at e3
          cases e3
          rw [List.append_nil] at e4
          subst e4
          obtain ⟨z1, acc, z2, z3⟩ := hh
          exact q _ H' (s1.trans z1) ⟨D, acc, _, rfl, rfl, s1.free hD, z2, z3⟩
      · rw [if_neg hz] at q
        exact q.elim
theorem pef_comp {elt tg iter : Expr} {ifs : List Expr} {scope : Scope} {own : List (Str × Nat)} {pos : Pos} {sl : List Nat} {fi : Rho → Res (List PyData)} {γ : PyData → Rho → Option Rho} {fc : Rho → Res Bool} {fe : Rho → Res PyData} (hc : X.calm = true) (hN : X.N.Nodup) (hi : PIV X cm W true tg iter fi) (ok : BlkOk X.N X.env.scope scope own)
    (hsl : ∀ i ∈ sl, i ∈ own.map (·.2))
    (hg : ∀ (s : Shared) (H : Hp) (C : Addr) (cl : List (Str × Addr)) (fp : List Addr), PGV (X.blk s H scope (compEnvC scope cl C X.env) fp) cm sl tg γ) (ht : ∀ (s : Shared) (H : Hp) (C : Addr) (cl : List (Str × Addr)) (fp : List Addr), PTs (X.blk s H scope (compEnvC scope cl C X.env) fp) ifs (tFg X.K cm W0 RB fc))
    (he : ∀ (s : Shared) (H : Hp) (C : Addr) (cl : List (Str × Addr)) (fp : List Addr), PEV (X.blk s H scope (compEnvC scope cl C X.env) fp) cm W0 .v elt fe) (hs : ∀ x, foldedSetIterable iter X.env x = pure x := by intro _; rfl) :
    PEV X cm W .f (.ListComp elt [⟨tg, iter, ifs, 0⟩] scope pos) (eComp fi (own.map (·.2)) γ fc (kOne fe)) := by
  obtain ⟨wi, i1, i2⟩ := hi
  exact ⟨_, pe_lc (te := tFg X.K cm W0 (Rm X.K .v) fe) (g := gF X.K cm sl γ) hc hN i1 ok (fun s H C cl fp => (hg s H C cl fp).pg) ht (fun s H C cl fp => (he s H C cl fp).pe) hs, ev_comp hsl i2⟩
theorem psv_setLc {i : Nat} {y : Str} {py spos : Pos} {elt tg iter : Expr} {ifs : List Expr} {scope : Scope} {own : List (Str × Nat)} {pos : Pos} {sl : List Nat} {fi : Rho → Res (List PyData)} {γ : PyData → Rho → Option Rho} {fc : Rho → Res Bool} {fe : Rho → Res PyData} (hc : X.calm = true) (hN : X.N.Nodup) (hy : X.N[i]? = some y) (hyl : X.env.scope.names.lookup y = some .local) (hsw : swapsWith (.ListComp elt [⟨tg, iter, ifs, 0⟩] scope pos) (some (.Name y py)) spos.line X.env = pure true) (hi : PIV X cm W true tg iter fi) (ok : BlkOk X.N X.env.scope scope own)
    (hsl : ∀ i ∈ sl, i ∈ own.map (·.2))
    (hg : ∀ (s : Shared) (H : Hp) (C : Addr) (cl : List (Str × Addr)) (fp : List Addr), PGV (X.blk s H scope (compEnvC scope cl C X.env) fp) cm sl tg γ) (ht : ∀ (s : Shared) (H : Hp) (C : Addr) (cl : List (Str × Addr)) (fp : List Addr), PTs (X.blk s H scope (compEnvC scope cl C X.env) fp) ifs (tFg X.K cm W0 RB fc))
    (he : ∀ (s : Shared) (H : Hp) (C : Addr) (cl : List (Str × Addr)) (fp : List Addr), PEV (X.blk s H scope (compEnvC scope cl C X.env) fp) cm W0 .v elt fe) (hs : ∀ x, foldedSetIterable iter X.env x = pure x := by intro _; rfl) :
    PSV X cm W (.Assign [.Name y py] (.ListComp elt [⟨tg, iter, ifs, 0⟩] scope pos) spos) (sAsg (eComp fi (own.map (·.2)) γ fc (kOne fe)) (gNm i)) := by
  obtain ⟨wi, i1, i2⟩ := hi
  exact ⟨_, ps_setLc (te := tFg X.K cm W0 (Rm X.K .v) fe) (g := gF X.K cm sl γ) hc hN hy hyl hsw i1 ok (fun s H C cl fp => (hg s H C cl fp).pg) ht (fun s H C cl fp => (he s H C cl fp).pe) hs, sok_asg (Ev.f_v (ev_comp hsl i2)) (gok_name i)⟩
theorem psv_setLcO {i : Nat} {y : Str} {py spos : Pos} {elt tg iter : Expr} {ifs : List Expr} {scope : Scope} {own : List (Str × Nat)} {pos : Pos} {sl : List Nat} {fi : Rho → Res (List PyData)} {γ : PyData → Rho → Option Rho} {fc : Rho → Res Bool} {fe : Rho → Res PyData} (hc : X.calm = true) (hN : X.N.Nodup) (hy : X.N[i]? = some y) (hyl : X.env.scope.names.lookup y = some .local) (hsw : swapsWith (.ListComp elt [⟨tg, iter, ifs, 0⟩] scope pos) (some (.Name y py)) spos.line X.env = pure true) (hi : PIV X cm W true tg iter fi) (ok : BlkOk X.N X.env.scope scope own)
    (hsl : ∀ i ∈ sl, i ∈ own.map (·.2))
    (hg : ∀ (s : Shared) (H : Hp) (C : Addr) (cl : List (Str × Addr)) (fp : List Addr), PGV (X.blk s H scope (compEnvC scope cl C X.env) fp) cm sl tg γ) (ht : ∀ (s : Shared) (H : Hp) (C : Addr) (cl : List (Str × Addr)) (fp : List Addr), PTs (X.blk s H scope (compEnvC scope cl C X.env) fp) ifs (tFg X.K cm W0 RB fc))
    (he : ∀ (s : Shared) (H : Hp) (C : Addr) (cl : List (Str × Addr)) (fp : List Addr), PEV (X.blk s H scope (compEnvC scope cl C X.env) fp) cm W0 .v elt fe) (hs : ∀ x, foldedSetIterable iter X.env x = pure x := by intro _; rfl) :
    PSV X cm W (.Assign [.Name y py] (.ListComp elt [⟨tg, iter, ifs, 0⟩] scope pos) spos) (sAsgO i (eComp fi (own.map (·.2)) γ fc (kOne fe))) := by
  obtain ⟨wi, i1, i2⟩ := hi
  exact ⟨_, ps_setLc (te := tFg X.K cm W0 (Rm X.K .v) fe) (g := gF X.K cm sl γ) hc hN hy hyl hsw i1 ok (fun s H C cl fp => (hg s H C cl fp).pg) ht (fun s H C cl fp => (he s H C cl fp).pe) hs, sok_asgO (ev_comp hsl i2)⟩
theorem pts_yes {ifs : List Expr} {X : Cx} {cm : CM} (h : PTs X ifs tYes) : PTs X ifs (tFg X.K cm W0 RB tYs) := ⟨fun pins s σ H Q I ⟨B, H0, ω, ρ, S, q⟩ => h.run pins s σ H Q I (q true H (Same.refl _) rfl)⟩
theorem ptsv_nil {X : Cx} {cm : CM} : PTs X [] (tFg X.K cm W0 RB tYs) := pts_yes pts_nil
theorem ptsv_one {X : Cx} {cm : CM} {c : Expr} {f : Rho → Res Bool} (h : PTV X cm W0 c f) : PTs X [c] (tFg X.K cm W0 RB f) := pts_one h.pt
/-! ### two clauses -/
theorem kIn_ok {it : Rho → Res (List PyData)} {vs1 : List Nat} {γ : PyData → Rho → Option Rho} {c : Rho → Res Bool} {e : Rho → Res PyData} {ρ : Rho} {as : List PyData} (h : kIn it vs1 γ c e ρ = .ok as) : ∃ ds, it ρ = .ok ds ∧ cLoop (cStep γ c (kOne e) (wipeR ρ vs1)) ds = .ok as := by
  unfold kIn at h
  cases q : it ρ with
  | ok ds => rw [q] at h; exact ⟨ds, rfl, h⟩
  | ex x => rw [q] at h; cases h
  | bad => rw [q] at h; cases h
theorem pef_comp2 {elt tg iter tg1 iter1 : Expr} {ifs ifs1 : List Expr} {scope : Scope} {own : List (Str × Nat)} {vs1 : List Nat} {pos : Pos} {sl sl1 : List Nat} {fi fi1 : Rho → Res (List PyData)} {γ γ1 : PyData → Rho → Option Rho} {fc fc1 : Rho → Res Bool} {fe : Rho → Res PyData} (hc : X.calm = true) (hN : X.N.Nodup) (hi : PIV X cm W true tg iter fi) (ok : BlkOk X.N X.env.scope scope own)
    (hv : ∀ i ∈ vs1, i ∈ own.map (·.2)) (hsl : ∀ i ∈ sl, i ∈ own.map (·.2)) (hsl1 : ∀ i ∈ sl1, i ∈ vs1)
    (hg : ∀ (s : Shared) (H : Hp) (C : Addr) (cl : List (Str × Addr)) (fp : List Addr), PGV (X.blk s H scope (compEnvC scope cl C X.env) fp) cm sl tg γ) (ht : ∀ (s : Shared) (H : Hp) (C : Addr) (cl : List (Str × Addr)) (fp : List Addr), PTs (X.blk s H scope (compEnvC scope cl C X.env) fp) ifs (tFg X.K cm W0 RB fc))
    (hi1 : ∀ (s : Shared) (H : Hp) (C : Addr) (cl : List (Str × Addr)) (fp : List Addr), PIV (X.blk s H scope (compEnvC scope cl C X.env) fp) cm W0 false tg1 iter1 fi1)
    (hg1 : ∀ (s : Shared) (H : Hp) (C : Addr) (cl : List (Str × Addr)) (fp : List Addr), PGV (X.blk s H scope (compEnvC scope cl C X.env) fp) cm sl1 tg1 γ1) (ht1 : ∀ (s : Shared) (H : Hp) (C : Addr) (cl : List (Str × Addr)) (fp : List Addr), PTs (X.blk s H scope (compEnvC scope cl C X.env) fp) ifs1 (tFg X.K cm W0 RB fc1))
    (he : ∀ (s : Shared) (H : Hp) (C : Addr) (cl : List (Str × Addr)) (fp : List Addr), PEV (X.blk s H scope (compEnvC scope cl C X.env) fp) cm W0 .v elt fe) (hs : ∀ x, foldedSetIterable iter X.env x = pure x := by intro _; rfl) (hs1 : ∀ env x, foldedSetIterable iter1 env x = pure x := by intro _ _; rfl) :
    PEV X cm W .f (.ListComp elt [⟨tg, iter, ifs, 0⟩, ⟨tg1, iter1, ifs1, 0⟩] scope pos) (eComp fi (own.map (·.2)) γ fc (kIn fi1 vs1 γ1 fc1 fe)) := by
  obtain ⟨wi, i1, i2⟩ := hi
  refine ⟨_, pe_lc2 (te := tFg X.K cm W0 (Rm X.K .v) fe) (g := gF X.K cm sl γ) (g1 := gF X.K cm sl1 γ1) (wi1 := iF X.K cm W0 false fi1) hc hN i1 ok hv (fun s H C cl fp => (hg s H C cl fp).pg) ht (fun s H C cl fp => (hi1 s H C cl fp).pi) (fun s H C cl fp => (hg1 s H C cl fp).pg) ht1 (fun s H C cl fp => (he s H C cl fp).pe) hs hs1, fun B H0 ω ρ σ H Q S q => ?_⟩
  refine i2 B H0 ω ρ σ H _ S ?_
  unfold eComp at q
  cases e : fi ρ with
  | bad => rw [e] at q; exact q
  | ex x => rw [e] at q; exact q
  | ok ds =>
    rw [e, Res.ok_bind] at q
    intro J H1 s1 wk D hD
    rw [if_pos rfl] at wk
    have S1 := S.ext s1
    cases e2 : cLoop (cStep γ fc (kIn fi1 vs1 γ1 fc1 fe) (wipeR ρ (own.map (·.2)))) ds with
    | bad => simp only [e2] at q; exact q.elim
    | ex x => simp only [e2] at q; exact q.elim
    | ok ys =>
      simp only [e2] at q
      by_cases hz : ys.length ≤ sizeLine
      · rw [if_pos hz] at q
        have h0 : Held X.K (ownM B ω ρ) H1 (upd H1 D (.lst [])) D [] := ⟨same_new hD, [], upd_same, .nil⟩
        refine ⟨fun i m H' => i + m = ds.length ∧ ∃ as bs, Held X.K (ownM B ω ρ) H1 H' D as ∧ cLoop (cStep γ fc (kIn fi1 vs1 γ1 fc1 fe) (wipeR ρ (own.map (·.2)))) (ds.drop i) = .ok bs ∧ as ++ bs = ys, ⟨ds.length, by omega, [], ys, h0, by rw [List.drop_zero]; exact e2, rfl⟩, ?_⟩
        rintro i m H' ⟨hm, as, bs, hh, e3, e4⟩
        obtain ⟨Sw, mw⟩ := S1.wipe (own.map (·.2))
        have hh0 := hh
        obtain ⟨z1, acc, z2, z3⟩ := hh0
        have Sh := Sw.hide z1 hD z2
        have mh : ownM (fun a => wipeB B ω ρ (own.map (·.2)) a ∨ a = D) ω (wipeR ρ (own.map (·.2))) = fun a => ownM B ω ρ a ∨ a = D := by rw [own_hide, mw]
        have wk' := wk (ownM (fun a => wipeB B ω ρ (own.map (·.2)) a ∨ a = D) ω (wipeR ρ (own.map (·.2)))) H' (by rw [msk_noM]; exact hh.1) (fun a o z y => by
          obtain ⟨w1, w2⟩ := msk_some z
          rw [mh] at y
          rcases y with y2 | y2
          · exact w1 y2
          · rw [y2, hD] at w2
            cases w2) Sh.dom
        by_cases hlt : i < ds.length
        · obtain ⟨go, st⟩ := wk'.1 i hlt
          refine .inr ⟨go, fun H2 => ∃ as bs, Held X.K (ownM B ω ρ) H1 H2 D as ∧ cLoop (cStep γ fc (kIn fi1 vs1 γ1 fc1 fe) (wipeR ρ (own.map (·.2)))) (ds.drop (i + 1)) = .ok bs ∧ as ++ bs = ys, fun H2 ⟨as, bs, g1, g2, g3⟩ => ⟨m - 1, by omega, by omega, as, bs, g1, g2, g3⟩, fun x H2 y => ?_⟩
          obtain ⟨s2, d, hd, rd⟩ := st x H2 y
          have ed : ds.drop i = d :: ds.drop (i + 1) := by
            rw [List.drop_eq_getElem_cons hlt]
            rw [List.getElem?_eq_getElem hlt] at hd
            rw [Option.some.inj hd]
          rw [ed] at e3
          obtain ⟨a1, b1, q1, q2, q3⟩ := cLoop_cons e3
          refine turn_ok (k := kIn fi1 vs1 γ1 fc1 fe) (Sh.ext s2) rd q1 hsl (fun z H3 s3 => ?_) (fun σ2 ρ1 H3 s3 S3 me z => ?_)
          · subst z
            exact ⟨as, b1, (hh.ext s2).ext s3, q2, by rw [← e4, q3]; rfl⟩
          · obtain ⟨es, y1, y2⟩ := kIn_ok z
            refine ⟨_, H0, ω, ρ1, S3, ?_⟩
            rw [y1]
            intro J1 H4 s4 wk1
            rw [if_neg Bool.false_ne_true, me, mh] at wk1
            have h4 := ((hh.ext s2).ext s3).ext s4
            have S4 := S3.ext s4
            refine ⟨fun j l H' => j + l = es.length ∧ ∃ as' bs', Same (msk (fun a => a = D) H4) H' ∧ Held X.K (ownM B ω ρ) H1 H' D as' ∧ cLoop (cStep γ1 fc1 (kOne fe) (wipeR ρ1 vs1)) (es.drop j) = .ok bs' ∧ as' ++ (bs' ++ b1) = ys, ⟨es.length, by omega, as, a1, msk_le, h4, by rw [List.drop_zero]; exact y2, by rw [← e4, q3]⟩, ?_⟩
            rintro j l H5 ⟨hl5, as5, bs5, t1, t2, t3, t4⟩
            obtain ⟨Sw1, mw1⟩ := S4.wipe vs1
            obtain ⟨u1, acc5, u2, u3⟩ := t2
            have hD0 : H0 D = none := (S.same.trans s1).free hD
            -- the block's state at H5: the new list has grown
            have S5 := Sw1.move (wipeB_le vs1 D (.inr rfl)) hD0 t1 ⟨_, u2⟩
            have m5 : ownM (wipeB (fun a => wipeB B ω ρ (own.map (·.2)) a ∨ a = D) ω ρ1 vs1) ω (wipeR ρ1 vs1) = fun a => ownM B ω ρ a ∨ a = D := by rw [mw1, me, mh]
            have wk5 := wk1 (ownM (wipeB (fun a => wipeB B ω ρ (own.map (·.2)) a ∨ a = D) ω ρ1 vs1) ω (wipeR ρ1 vs1)) H5 ((msk_sub fun a z => .inr z).trans t1) (fun a o z y => by
              rw [m5] at y
              exact (msk_some z).1 y) S5.dom
            by_cases hlt5 : j < es.length
            · obtain ⟨go5, st5⟩ := wk5.1 j hlt5
              refine .inr ⟨go5, fun H6 => ∃ as' bs', Same (msk (fun a => a = D) H4) H6 ∧ Held X.K (ownM B ω ρ) H1 H6 D as' ∧ cLoop (cStep γ1 fc1 (kOne fe) (wipeR ρ1 vs1)) (es.drop (j + 1)) = .ok bs' ∧ as' ++ (bs' ++ b1) = ys, fun H6 ⟨as', bs', v1, v2, v3, v4⟩ => ⟨l - 1, by omega, by omega, as', bs', v1, v2, v3, v4⟩, fun x5 H6 y5 => ?_⟩
              obtain ⟨s6, d5, hd5, rd5⟩ := st5 x5 H6 y5
              have ed5 : es.drop j = d5 :: es.drop (j + 1) := by
                rw [List.drop_eq_getElem_cons hlt5]
                rw [List.getElem?_eq_getElem hlt5] at hd5
                rw [Option.some.inj hd5]
              rw [ed5] at t3
              obtain ⟨a5, b5, w1, w2, w3⟩ := cLoop_cons t3
              have hh6 : Held X.K (ownM B ω ρ) H1 H6 D as5 := Held.ext ⟨u1, acc5, u2, u3⟩ s6
              refine turn_ok (k := kOne fe) (S5.ext s6) rd5 w1 hsl1 (fun z7 H7 s7 => ?_) (fun σ7 ρ7 H7 s7 S7 me7 z7 => ?_)
              · subst z7
                exact ⟨as5, b5, (t1.trans s6).trans s7, hh6.ext s7, w2, by rw [← t4, w3]; rfl⟩
              · obtain ⟨y7, k1, k2⟩ := kOne_ok z7
                refine ⟨_, H0, ω, ρ7, S7, ?_⟩
                rw [k1]
                intro v H8 s8 r8
                rw [me7, m5] at r8
                obtain ⟨acc8, g1, g2, g3⟩ := ((hh6.ext s7).ext s8).put hD r8
                subst k2
                have el : as5.length + 1 ≤ ys.length := by
                  rw [← t4, w3, List.length_append, List.length_append, List.length_append, List.length_singleton]
                  omega
                refine ⟨acc8, g1, by rw [g2]; omega, as5 ++ [y7], b5, ?_, g3, w2, by rw [← t4, w3]; simp⟩
                intro b o q
                have nb := (msk_some q).1
                rw [upd_ne nb]
                exact s8 _ _ (s7 _ _ (s6 _ _ (t1 b o q)))
            · refine .inl ⟨wk5.2 j (by omega), ?_⟩
              rw [List.drop_eq_nil_of_le (by omega)] at t3
              cases t3
              exact ⟨as5, b1, ⟨u1, acc5, u2, u3⟩, q2, by rw [← t4]; rfl⟩
        · refine .inl ⟨wk'.2 i (by omega), ?_⟩
          rw [List.drop_eq_nil_of_le (by omega)] at e3
          cases e3
          rw [List.append_nil] at e4
          subst e4
          obtain ⟨z1, acc, z2, z3⟩ := hh
          exact q _ H' (s1.trans z1) ⟨D, acc, _, rfl, rfl, s1.free hD, z2, z3⟩
      · rw [if_neg hz] at q
        exact q.elim
end

section
variable {X : Cx} {cm : CM} {W : WX}
theorem pef_compV {vs : List Nat} {elt tg iter : Expr} {ifs : List Expr} {scope : Scope} {own : List (Str × Nat)} {pos : Pos} {sl : List Nat} {fi : Rho → Res (List PyData)} {γ : PyData → Rho → Option Rho} {fc : Rho → Res Bool} {fe : Rho → Res PyData} (hc : X.calm = true) (hN : X.N.Nodup) (hi : PIV X cm W true tg iter fi) (ok : BlkOk X.N X.env.scope scope own) (hvs : own.map (·.2) = vs)
    (hsl : ∀ i ∈ sl, i ∈ vs)
    (hg : ∀ (s : Shared) (H : Hp) (C : Addr) (cl : List (Str × Addr)) (fp : List Addr), PGV (X.blk s H scope (compEnvC scope cl C X.env) fp) cm sl tg γ) (ht : ∀ (s : Shared) (H : Hp) (C : Addr) (cl : List (Str × Addr)) (fp : List Addr), PTs (X.blk s H scope (compEnvC scope cl C X.env) fp) ifs (tFg X.K cm W0 RB fc))
    (he : ∀ (s : Shared) (H : Hp) (C : Addr) (cl : List (Str × Addr)) (fp : List Addr), PEV (X.blk s H scope (compEnvC scope cl C X.env) fp) cm W0 .v elt fe) (hs : ∀ x, foldedSetIterable iter X.env x = pure x := by intro _; rfl) :
    PEV X cm W .f (.ListComp elt [⟨tg, iter, ifs, 0⟩] scope pos) (eComp fi vs γ fc (kOne fe)) := by
  subst hvs
  exact pef_comp hc hN hi ok hsl hg ht he hs
theorem psv_setLcV {vs : List Nat} {i : Nat} {y : Str} {py spos : Pos} {elt tg iter : Expr} {ifs : List Expr} {scope : Scope} {own : List (Str × Nat)} {pos : Pos} {sl : List Nat} {fi : Rho → Res (List PyData)} {γ : PyData → Rho → Option Rho} {fc : Rho → Res Bool} {fe : Rho → Res PyData} (hc : X.calm = true) (hN : X.N.Nodup) (hy : X.N[i]? = some y) (hyl : X.env.scope.names.lookup y = some .local) (hsw : swapsWith (.ListComp elt [⟨tg, iter, ifs, 0⟩] scope pos) (some (.Name y py)) spos.line X.env = pure true) (hi : PIV X cm W true tg iter fi) (ok : BlkOk X.N X.env.scope scope own) (hvs : own.map (·.2) = vs)
    (hsl : ∀ i ∈ sl, i ∈ vs)
    (hg : ∀ (s : Shared) (H : Hp) (C : Addr) (cl : List (Str × Addr)) (fp : List Addr), PGV (X.blk s H scope (compEnvC scope cl C X.env) fp) cm sl tg γ) (ht : ∀ (s : Shared) (H : Hp) (C : Addr) (cl : List (Str × Addr)) (fp : List Addr), PTs (X.blk s H scope (compEnvC scope cl C X.env) fp) ifs (tFg X.K cm W0 RB fc))
    (he : ∀ (s : Shared) (H : Hp) (C : Addr) (cl : List (Str × Addr)) (fp : List Addr), PEV (X.blk s H scope (compEnvC scope cl C X.env) fp) cm W0 .v elt fe) (hs : ∀ x, foldedSetIterable iter X.env x = pure x := by intro _; rfl) :
    PSV X cm W (.Assign [.Name y py] (.ListComp elt [⟨tg, iter, ifs, 0⟩] scope pos) spos) (sAsg (eComp fi vs γ fc (kOne fe)) (gNm i)) := by
  subst hvs
  exact psv_setLc hc hN hy hyl hsw hi ok hsl hg ht he hs
theorem psv_setLcOV {vs : List Nat} {i : Nat} {y : Str} {py spos : Pos} {elt tg iter : Expr} {ifs : List Expr} {scope : Scope} {own : List (Str × Nat)} {pos : Pos} {sl : List Nat} {fi : Rho → Res (List PyData)} {γ : PyData → Rho → Option Rho} {fc : Rho → Res Bool} {fe : Rho → Res PyData} (hc : X.calm = true) (hN : X.N.Nodup) (hy : X.N[i]? = some y) (hyl : X.env.scope.names.lookup y = some .local) (hsw : swapsWith (.ListComp elt [⟨tg, iter, ifs, 0⟩] scope pos) (some (.Name y py)) spos.line X.env = pure true) (hi : PIV X cm W true tg iter fi) (ok : BlkOk X.N X.env.scope scope own) (hvs : own.map (·.2) = vs)
    (hsl : ∀ i ∈ sl, i ∈ vs)
    (hg : ∀ (s : Shared) (H : Hp) (C : Addr) (cl : List (Str × Addr)) (fp : List Addr), PGV (X.blk s H scope (compEnvC scope cl C X.env) fp) cm sl tg γ) (ht : ∀ (s : Shared) (H : Hp) (C : Addr) (cl : List (Str × Addr)) (fp : List Addr), PTs (X.blk s H scope (compEnvC scope cl C X.env) fp) ifs (tFg X.K cm W0 RB fc))
    (he : ∀ (s : Shared) (H : Hp) (C : Addr) (cl : List (Str × Addr)) (fp : List Addr), PEV (X.blk s H scope (compEnvC scope cl C X.env) fp) cm W0 .v elt fe) (hs : ∀ x, foldedSetIterable iter X.env x = pure x := by intro _; rfl) :
    PSV X cm W (.Assign [.Name y py] (.ListComp elt [⟨tg, iter, ifs, 0⟩] scope pos) spos) (sAsgO i (eComp fi vs γ fc (kOne fe))) := by
  subst hvs
  exact psv_setLcO hc hN hy hyl hsw hi ok hsl hg ht he hs
theorem pef_comp2V {vs : List Nat} {elt tg iter tg1 iter1 : Expr} {ifs ifs1 : List Expr} {scope : Scope} {own : List (Str × Nat)} {vs1 : List Nat} {pos : Pos} {sl sl1 : List Nat} {fi fi1 : Rho → Res (List PyData)} {γ γ1 : PyData → Rho → Option Rho} {fc fc1 : Rho → Res Bool} {fe : Rho → Res PyData} (hc : X.calm = true) (hN : X.N.Nodup) (hi : PIV X cm W true tg iter fi) (ok : BlkOk X.N X.env.scope scope own) (hvs : own.map (·.2) = vs)
    (hv : ∀ i ∈ vs1, i ∈ vs) (hsl : ∀ i ∈ sl, i ∈ vs) (hsl1 : ∀ i ∈ sl1, i ∈ vs1)
    (hg : ∀ (s : Shared) (H : Hp) (C : Addr) (cl : List (Str × Addr)) (fp : List Addr), PGV (X.blk s H scope (compEnvC scope cl C X.env) fp) cm sl tg γ) (ht : ∀ (s : Shared) (H : Hp) (C : Addr) (cl : List (Str × Addr)) (fp : List Addr), PTs (X.blk s H scope (compEnvC scope cl C X.env) fp) ifs (tFg X.K cm W0 RB fc))
    (hi1 : ∀ (s : Shared) (H : Hp) (C : Addr) (cl : List (Str × Addr)) (fp : List Addr), PIV (X.blk s H scope (compEnvC scope cl C X.env) fp) cm W0 false tg1 iter1 fi1)
    (hg1 : ∀ (s : Shared) (H : Hp) (C : Addr) (cl : List (Str × Addr)) (fp : List Addr), PGV (X.blk s H scope (compEnvC scope cl C X.env) fp) cm sl1 tg1 γ1) (ht1 : ∀ (s : Shared) (H : Hp) (C : Addr) (cl : List (Str × Addr)) (fp : List Addr), PTs (X.blk s H scope (compEnvC scope cl C X.env) fp) ifs1 (tFg X.K cm W0 RB fc1))
    (he : ∀ (s : Shared) (H : Hp) (C : Addr) (cl : List (Str × Addr)) (fp : List Addr), PEV (X.blk s H scope (compEnvC scope cl C X.env) fp) cm W0 .v elt fe) (hs : ∀ x, foldedSetIterable iter X.env x = pure x := by intro _; rfl) (hs1 : ∀ env x, foldedSetIterable iter1 env x = pure x := by intro _ _; rfl) :
    PEV X cm W .f (.ListComp elt [⟨tg, iter, ifs, 0⟩, ⟨tg1, iter1, ifs1, 0⟩] scope pos) (eComp fi vs γ fc (kIn fi1 vs1 γ1 fc1 fe)) := by
  subst hvs
  exact pef_comp2 hc hN hi ok hv hsl hsl1 hg ht hi1 hg1 ht1 he hs hs1
end
end DL
end
section
set_option Elab.async false
set_option linter.all false
set_option maxRecDepth 100000
set_option maxHeartbeats 4000000
/-! DL6: operators as plain functions. -/
namespace DL
open PySem PySem.Spec PyProof.Rows L2

@[inline] def Res.of {α : Type} : Option α → Res α
  | some a => .ok a
  | none => .bad
@[simp] theorem Res.of_some {α : Type} (a : α) : Res.of (some a) = .ok a := rfl
@[simp] theorem Res.of_none {α : Type} : (Res.of none : Res α) = .bad := rfl
theorem of_nx {α : Type} {o : Option α} {e : Exn} : Res.of o ≠ .ex e := by cases o <;> intro h <;> cases h
def o1 (g : PyData → Option PyData) (f : Rho → Res PyData) : Rho → Res PyData := e1 (fun a => .of (g a)) f
def o2 (g : PyData → PyData → Option PyData) (f1 f2 : Rho → Res PyData) : Rho → Res PyData := e2 (fun a b => .of (g a b)) f1 f2
def oA (g : List PyData → Option PyData) (f : Rho → Res (List PyData)) : Rho → Res PyData := eA (fun as => .of (g as)) f
def oM (sh : PyData → Bool) (g : PyData → List PyData → Option PyData) (f : Rho → Res PyData) (h : Rho → Res (List PyData)) : Rho → Res PyData := eM sh (fun a as => .of (g a as)) f h
def oSl (g : PyData → Option Int → Option Int → Option PyData) (f : Rho → Res PyData) (lo hi : Rho → Res (Option Int)) : Rho → Res PyData := eSl (fun a l h => .of (g a l h)) f lo hi
/-! ### the plain functions -/
def gd {α : Type} (c : Bool) (a : α) : Option α := if c = true then some a else none
@[simp] theorem gd_true {α : Type} (a : α) : gd true a = some a := rfl
@[simp] theorem gd_false {α : Type} (a : α) : gd false a = none := rfl
theorem gd_some {α : Type} {c : Bool} {a b : α} (h : gd c a = some b) : c = true ∧ a = b := by
  cases c with
  | true => exact ⟨rfl, Option.some.inj h⟩
  | false => cases h
def fits (n : Nat) : Bool := decide (n ≤ sizeLine)
instance {i j : Int} : Decidable (CMulW i j) := inferInstanceAs (Decidable (i.natAbs.log2 + j.natAbs.log2 < 1000000))
instance {i j : Int} : Decidable (CDivW i j) := inferInstanceAs (Decidable (0 < j ∧ j.natAbs.log2 < 9000))
instance {i j : Int} : Decidable (CPow i j) := inferInstanceAs (Decidable (0 ≤ j ∧ j ≤ 1000000 ∧ i.natAbs < 2 ^ 64))
def dAdd : PyData → PyData → Option PyData
  | .int i, .int j => some (.int (i + j))
  | .str a, .str b => gd (fits (a.length + b.length)) (.str (a ++ b))
  | .list xs, .list ys => gd (fits (xs.length + ys.length)) (.list (xs ++ ys))
  | .tuple xs, .tuple ys => gd (fits (xs.length + ys.length)) (.tuple (xs ++ ys))
  | _, _ => none
def dSub : PyData → PyData → Option PyData
  | .int i, .int j => some (.int (i - j))
  | _, _ => none
def dMul : PyData → PyData → Option PyData
  | .int i, .int j => gd (decide (CMulW i j)) (.int (i * j))
  | _, _ => none
def dMod : PyData → PyData → Option PyData
  | .int i, .int j => gd (decide (0 < j)) (.int (i % j))
  | _, _ => none
def dDiv : PyData → PyData → Option PyData
  | .int i, .int j => gd (decide (CDivW i j)) (.int (i / j))
  | _, _ => none
def dPow : PyData → PyData → Option PyData
  | .int i, .int j => gd (decide (CPow i j)) (.int (i ^ j.toNat))
  | _, _ => none
def dNeg : PyData → Option PyData
  | .int i => some (.int (-i))
  | _ => none
/-- a list repeated -/
def dRep : PyData → PyData → Option PyData
  | .list xs, .int k => gd (decide (-(2 ^ 63) ≤ k ∧ k < 2 ^ 63 ∧ xs.length * k.toNat ≤ sizeLine)) (.list (List.replicate k.toNat xs).flatten)
  | _, _ => none
/-- plain values of which == is asked without a look at a heap -/
def scalD : PyData → PyData → Bool
  | .none, .none => true | .none, .int _ => true | .int _, .none => true | .none, .bool _ => true | .bool _, .none => true | .none, .str _ => true | .str _, .none => true
  | .int _, .int _ => true | .bool _, .bool _ => true | .str _, .str _ => true
  | .int _, .str _ => true | .str _, .int _ => true | .bool _, .str _ => true | .str _, .bool _ => true
  | _, _ => false
def eqOk (a b : PyData) : Bool := scalD a b || (SeqAt.shaped a && SeqAt.shaped b)
def dEq (a b : PyData) : Option PyData := gd (eqOk a b) (.bool (PyData.eqv a b))
def dNe (a b : PyData) : Option PyData := gd (eqOk a b) (.bool (!PyData.eqv a b))
def flatD : PyData → Bool
  | .none => true
  | .bool _ => true
  | .int _ => true
  | .str _ => true
  | _ => false
def dIsIn (a b : PyData) : Option Bool := match b with
  | .list ds => gd ((flatD a && ds.all flatD) || (SeqAt.shaped a && SeqAt.shaped (.list ds))) (ds.any fun z => PyData.eqv z a)
  | .tuple ds => gd (flatD a && ds.all flatD) (ds.any fun z => PyData.eqv z a)
  | .str z => match a with
    | .str x => match x.cps.toList with
      | [c] => some (decide (c ∈ z.cps.toList))
      | _ => none
    | _ => none
  | _ => none
def dIn (a b : PyData) : Option PyData := (dIsIn a b).map .bool
def dNotIn (a b : PyData) : Option PyData := (dIsIn a b).map fun c => .bool (!c)
def intsOf : List PyData → Option (List Int)
  | [] => some []
  | .int i :: r => (intsOf r).map (i :: ·)
  | _ => none
def dLt : PyData → PyData → Option PyData
  | .int i, .int j => some (.bool (decide (i < j)))
  | .str i, .str j => some (.bool (decide (i.cps.toList < j.cps.toList)))
  | .tuple xs, .tuple ys => match intsOf xs, intsOf ys with
    | some ns, some ms => some (.bool (HT.lexLt ns ms))
    | _, _ => none
  | _, _ => none
def dLe : PyData → PyData → Option PyData
  | .int i, .int j => some (.bool (decide (i ≤ j)))
  | .str i, .str j => some (.bool (!decide (j.cps.toList < i.cps.toList)))
  | .tuple xs, .tuple ys => match intsOf xs, intsOf ys with
    | some ns, some ms => some (.bool (!HT.lexLt ms ns))
    | _, _ => none
  | _, _ => none
def dGt : PyData → PyData → Option PyData
  | .int i, .int j => some (.bool (decide (j < i)))
  | .str i, .str j => some (.bool (decide (j.cps.toList < i.cps.toList)))
  | _, _ => none
def dGe : PyData → PyData → Option PyData
  | .int i, .int j => some (.bool (decide (j ≤ i)))
  | .str i, .str j => some (.bool (!decide (i.cps.toList < j.cps.toList)))
  | _, _ => none
def isNoneD : PyData → Bool
  | .none => true
  | _ => false
def dIs (a b : PyData) : Option PyData := gd (isNoneD b) (.bool (isNoneD a))
def dIsNot (a b : PyData) : Option PyData := gd (isNoneD b) (.bool (!isNoneD a))
def dIx : PyData → PyData → Option PyData
  | .list xs, .int i => atI xs i
  | .tuple xs, .int i => atI xs i
  | .str z, .int i => if z.length ≤ sizeLine then (atI z.cps.toList i).map fun c => .str ⟨#[c]⟩ else none
  | _, _ => none
def cut {α : Type} (xs : List α) (lo hi : Option Int) : List α := (xs.drop (HT.sIx xs.length 0 lo)).take (HT.sIx xs.length xs.length hi - HT.sIx xs.length 0 lo)
def dSlice : PyData → Option Int → Option Int → Option PyData
  | .list xs, lo, hi => some (.list (cut xs lo hi))
  | .tuple xs, lo, hi => some (.tuple (cut xs lo hi))
  | .str z, lo, hi => gd (fits z.length) (.str ⟨(cut z.cps.toList lo hi).toArray⟩)
  | _, _, _ => none

/-! ### the rules -/
theorem DpAll.cut {K : PySem.W.Frag} {H : Hp} {vs : List V} {ds : List PyData} (h : DpAll K H vs ds) (lo hi : Option Int) : DpAll K H (cutV vs lo hi) (DL.cut ds lo hi) := by
  unfold cutV DL.cut
  rw [DpAll.length h]
  exact DpAll.take _ (DpAll.drop _ h)
theorem RPs.one {K : PySem.W.Frag} {M : Addr → Prop} {H : Hp} {xs : List V} {d : PyData} (h : RPs K M H xs [d]) : ∃ x, xs = [x] ∧ Rm K .p M H H x d := by
  cases h with
  | cons h1 h2 =>
    cases h2
    exact ⟨_, rfl, h1⟩
theorem RPs.two {K : PySem.W.Frag} {M : Addr → Prop} {H : Hp} {xs : List V} {d e : PyData} (h : RPs K M H xs [d, e]) : ∃ x y, xs = [x, y] ∧ Rm K .p M H H x d ∧ Rm K .p M H H y e := by
  cases h with
  | cons h1 h2 =>
    obtain ⟨y, rfl, h3⟩ := h2.one
    exact ⟨_, _, rfl, h1, h3⟩
section
variable {K : PySem.W.Frag} {cm : CM} {m : Md} {M : Addr → Prop} {H : Hp} {Q : VK}
theorem post_some {o : Option PyData} (h : Post K cm M (Rm K m M H) H Q NoW (.of o)) : ∃ d, o = some d ∧ ∀ v H', Same H H' → Rm K m M H H' v d → Q v H' := by
  cases o with
  | none => exact h.elim
  | some d => exact ⟨d, rfl, h⟩
theorem post_gd {c : Bool} {d : PyData} (h : Post K cm M (Rm K m M H) H Q NoW (.of (gd c d))) : c = true ∧ ∀ v H', Same H H' → Rm K m M H H' v d → Q v H' := by
  cases c with
  | true => exact ⟨rfl, h⟩
  | false => exact h.elim
end
section
variable {X : Cx} {cm : CM} {W : WX} {m : Md}
/-- +, of lists -/
def rCatL (K : PySem.W.Frag) : R2 := fun x y H Q => ∃ l b xs zs, x = .ref l ∧ y = .ref b ∧ SqL K H l xs ∧ SqL K H b zs ∧ xs.length + zs.length ≤ sizeLine ∧ ∀ p, H p = none → Q (.ref p) (upd H p (.lst (xs ++ zs)))
theorem op_catL : OpR X (binaryOp .Add) (rCatL X.K) := by
  intro pins s σ H x y v u Q I rx ry h
  obtain ⟨l, b, xs, zs, rfl, rfl, hH, hB, hz, q⟩ := h
  cases rx
  cases ry
  obtain ⟨its, r, ⟨⟨cls, dd, data, sl⟩, n, ho, hc, hd0, hd⟩, hzl⟩ := I.list hH
  obtain ⟨its2, r2, ⟨⟨cls2, dd2, data2, sl2⟩, n2, ho2, hc2, hd02, hd2⟩, hzl2⟩ := I.list hB
  simp only at hc hd hc2 hd2
  subst hc hd hc2 hd2
  have e := r.length
  have e2 := r2.length
  refine concat_meets ⟨_, ho, rfl⟩ ⟨_, ho2, rfl⟩ noFill_list_add seq_list_add PySem.F.slot_list_add PySem.F.entry_list_add (PySem.F.args_list_add_2 _ _) (list_addW l b its.toArray its2.toArray n n2 dd dd2 sl sl2 (by rw [List.size_toArray, List.size_toArray]; omega)) ⟨ho, ho2, ?_⟩
  have ea : its.toArray ++ its2.toArray = (its ++ its2).toArray := by simp
  rw [ea]
  exact ⟨.ref _, _, I.lnew (t' := s.toks) (r.append r2) (by rw [List.length_append]; omega), rfl, q _ I.fresh⟩
abbrev rAddU (K : PySem.W.Frag) : R2 := fun x y H Q => rI0 (fun i j => .int (i + j)) x y H Q ∨ (∃ i j, x = .str i ∧ y = .str j ∧ i.length + j.length ≤ sizeLine ∧ Q (.str (i ++ j)) H) ∨ rCatL K x y H Q ∨ rCatA K x y H Q
theorem op_addU : OpR X (binaryOp .Add) (rAddU X.K) := op_add.or (op_add_str.or (op_catL.or op_catA))
theorem DpAll.nil_iff {K : PySem.W.Frag} {H : Hp} {vs : List V} {ds : List PyData} (h : DpAll K H vs ds) : vs = [] ↔ ds = [] := by
  cases h <;> simp
theorem rop_add {K : PySem.W.Frag} : ROp K cm .v (rAddU K) (fun a b => .of (dAdd a b)) := by
  intro M H x y a b Q hM ha hb h
  cases a with
  | int i =>
    cases b with
    | int j => exact .inl ⟨i, j, ha.intP, hb.intP, h _ _ (Same.refl H) (.int _)⟩
    | _ => exact h.elim
  | str i =>
    cases b with
    | str j =>
      obtain ⟨z, h⟩ := post_gd h
      exact .inr (.inl ⟨i, j, ha.strP, hb.strP, of_decide_eq_true z, h _ _ (Same.refl H) (.str _)⟩)
    | _ => exact h.elim
  | list xs =>
    cases b with
    | list ys =>
      obtain ⟨z, h⟩ := post_gd h
      obtain ⟨p, vs, rfl, s1, d1⟩ := Rm.lst ha
      obtain ⟨q, ws, rfl, s2, d2⟩ := Rm.lst hb
      refine .inr (.inr (.inl ⟨p, q, vs, ws, rfl, rfl, s1, s2, by rw [DpAll.length d1, DpAll.length d2]; exact of_decide_eq_true z, fun p hp => h _ _ (same_new hp) ?_⟩))
      exact Rm.f_v hM (new_list (Same.refl H) hp (DpAll.append d1 d2))
    | _ => exact h.elim
  | tuple xs =>
    cases b with
    | tuple ys =>
      obtain ⟨z, h⟩ := post_gd h
      have ha' : Dp K (msk M H) x (.tuple xs) := by
        rcases ha with ha | ⟨_, _, _, _, e, _⟩
        · exact ha
        · cases e
      have hb' : Dp K (msk M H) y (.tuple ys) := by
        rcases hb with hb | ⟨_, _, _, _, e, _⟩
        · exact hb
        · cases e
      obtain ⟨p, vs, rfl, s1, d1⟩ := Rm.tup ha
      obtain ⟨q, ws, rfl, s2, d2⟩ := Rm.tup hb
      refine .inr (.inr (.inr ⟨p, q, vs, ws, rfl, rfl, s1, s2, by rw [DpAll.length d1, DpAll.length d2]; exact of_decide_eq_true z, fun e => ?_, fun _ e => ?_, fun _ _ p hp => ?_⟩))
      · have e' := (DpAll.nil_iff d1).mp e
        subst e'
        exact h _ _ (Same.refl H) hb'
      · have e' := (DpAll.nil_iff d2).mp e
        subst e'
        rw [List.append_nil] at h
        exact h _ _ (Same.refl H) ha'
      · exact h _ _ (same_new hp) (new_tup hM hp (DpAll.append d1 d2))
    | _ => exact h.elim
  | none => exact h.elim
  | bool _ => exact h.elim
  | dict _ => exact h.elim
/-- the same, of lists alone, handed on as a list of its own -/
def dCat : PyData → PyData → Option PyData
  | .list xs, .list ys => gd (fits (xs.length + ys.length)) (.list (xs ++ ys))
  | _, _ => none
theorem rop_cat {K : PySem.W.Frag} : ROp K cm .f (rCatL K) (fun a b => .of (dCat a b)) := by
  intro M H x y a b Q hM ha hb h
  cases a with
  | list xs =>
    cases b with
    | list ys =>
      obtain ⟨z, h⟩ := post_gd h
      obtain ⟨p, vs, rfl, s1, d1⟩ := Rm.lst ha
      obtain ⟨q, ws, rfl, s2, d2⟩ := Rm.lst hb
      exact ⟨p, q, vs, ws, rfl, rfl, s1, s2, by rw [DpAll.length d1, DpAll.length d2]; exact of_decide_eq_true z, fun p hp => h _ _ (same_new hp) (new_list (Same.refl H) hp (DpAll.append d1 d2))⟩
    | _ => exact h.elim
  | _ => exact h.elim
theorem rop_ii {K : PySem.W.Frag} {C : Int → Int → Prop} {g : Int → Int → Int} {d : PyData → PyData → Option PyData} (h1 : ∀ i j e, d (.int i) (.int j) = some e → C i j ∧ e = .int (g i j)) (h2 : ∀ a b e, d a b = some e → ∃ i j, a = .int i ∧ b = .int j) :
    ROp K cm .v (rI C fun i j => .int (g i j)) (fun a b => .of (d a b)) := by
  intro M H x y a b Q hM ha hb h
  obtain ⟨e, he, h⟩ := post_some h
  obtain ⟨i, j, rfl, rfl⟩ := h2 _ _ _ he
  obtain ⟨c, rfl⟩ := h1 _ _ _ he
  exact ⟨i, j, ha.intP, hb.intP, c, h _ _ (Same.refl H) (.int _)⟩
theorem rop_sub {K : PySem.W.Frag} : ROp K cm .v (rI0 fun i j => .int (i - j)) (fun a b => .of (dSub a b)) := by
  intro M H x y a b Q hM ha hb h
  cases a with
  | int i =>
    cases b with
    | int j => exact ⟨i, j, ha.intP, hb.intP, h _ _ (Same.refl H) (.int _)⟩
    | _ => exact h.elim
  | _ => exact h.elim
theorem rop_mul {K : PySem.W.Frag} : ROp K cm .v (rI CMulW fun i j => .int (i * j)) (fun a b => .of (dMul a b)) := by
  refine rop_ii (fun i j e h => ?_) (fun a b e h => ?_)
  · obtain ⟨z, rfl⟩ := gd_some h
    exact ⟨of_decide_eq_true z, rfl⟩
  · cases a <;> cases b <;> first | exact ⟨_, _, rfl, rfl⟩ | cases h
theorem rop_mod {K : PySem.W.Frag} : ROp K cm .v (rI (fun _ j => 0 < j) fun i j => .int (i % j)) (fun a b => .of (dMod a b)) := by
  refine rop_ii (fun i j e h => ?_) (fun a b e h => ?_)
  · obtain ⟨z, rfl⟩ := gd_some h
    exact ⟨of_decide_eq_true z, rfl⟩
  · cases a <;> cases b <;> first | exact ⟨_, _, rfl, rfl⟩ | cases h
theorem rop_div {K : PySem.W.Frag} : ROp K cm .v (rI CDivW fun i j => .int (i / j)) (fun a b => .of (dDiv a b)) := by
  refine rop_ii (fun i j e h => ?_) (fun a b e h => ?_)
  · obtain ⟨z, rfl⟩ := gd_some h
    exact ⟨of_decide_eq_true z, rfl⟩
  · cases a <;> cases b <;> first | exact ⟨_, _, rfl, rfl⟩ | cases h
theorem rop_pow {K : PySem.W.Frag} : ROp K cm .v (rI CPow fun i j => .int (i ^ j.toNat)) (fun a b => .of (dPow a b)) := by
  refine rop_ii (fun i j e h => ?_) (fun a b e h => ?_)
  · obtain ⟨z, rfl⟩ := gd_some h
    exact ⟨of_decide_eq_true z, rfl⟩
  · cases a <;> cases b <;> first | exact ⟨_, _, rfl, rfl⟩ | cases h
theorem run_neg {K : PySem.W.Frag} : RUn K cm .v (rU fun i => .int (-i)) (fun a => .of (dNeg a)) := by
  intro M H x a Q hM ha h
  cases a with
  | int i => exact ⟨i, ha.intP, h _ _ (Same.refl H) (.int _)⟩
  | _ => exact h.elim
/-! ### == -/
theorem eqv_scal {a b : PyData} (h : scalD a b = true) {K : PySem.W.Frag} {M : Addr → Prop} {H : Hp} {x y : V} (ha : Rm K .p M H H x a) (hb : Rm K .p M H H y b) : scal x y = true ∧ decide (x = y) = PyData.eqv a b := by
  cases a <;> cases b <;> first
    | (cases h; done)
    | (first | have e1 := ha.intP | have e1 := ha.strP | have e1 := ha.boolP | have e1 := ha.noneP)
      (first | have e2 := hb.intP | have e2 := hb.strP | have e2 := hb.boolP | have e2 := hb.noneP)
      subst e1 e2
      refine ⟨rfl, ?_⟩
      rw [Bool.eq_iff_iff]
      simp [PyData.eqv]
abbrev rEqU (K : PySem.W.Frag) : R2 := fun x y H Q => rEq x y H Q ∨ rEqD K x y H Q
abbrev rNeU (K : PySem.W.Frag) : R2 := fun x y H Q => rNe x y H Q ∨ rNeD K x y H Q
theorem op_eqU (hu : X.A.units + 64 < cLine) : OpR X (compareOp .Eq) (rEqU X.K) := op_eq.or (op_eqD hu)
theorem op_neU (hu : X.A.units + 64 < cLine) : OpR X (compareOp .NotEq) (rNeU X.K) := op_ne.or (op_neD hu)
theorem eqOk_or {a b : PyData} (h : eqOk a b = true) : scalD a b = true ∨ (SeqAt.shaped a = true ∧ SeqAt.shaped b = true) := by
  unfold eqOk at h
  rw [Bool.or_eq_true, Bool.and_eq_true] at h
  exact h
theorem rop_eq {K : PySem.W.Frag} : ROp K cm .v (rEqU K) (fun a b => .of (dEq a b)) := by
  intro M H x y a b Q hM ha hb h
  obtain ⟨z, h⟩ := post_gd h
  rcases eqOk_or z with z | ⟨z1, z2⟩
  · obtain ⟨e1, e2⟩ := eqv_scal z ha hb
    exact .inl ⟨e1, by rw [e2]; exact h _ _ (Same.refl H) (.bl _)⟩
  · exact .inr ⟨a, b, ha.dp, hb.dp, z1, z2, h _ _ (Same.refl H) (.bl _)⟩
theorem rop_ne {K : PySem.W.Frag} : ROp K cm .v (rNeU K) (fun a b => .of (dNe a b)) := by
  intro M H x y a b Q hM ha hb h
  obtain ⟨z, h⟩ := post_gd h
  rcases eqOk_or z with z | ⟨z1, z2⟩
  · obtain ⟨e1, e2⟩ := eqv_scal z ha hb
    exact .inl ⟨e1, by rw [e2]; exact h _ _ (Same.refl H) (.bl _)⟩
  · exact .inr ⟨a, b, ha.dp, hb.dp, z1, z2, h _ _ (Same.refl H) (.bl _)⟩
/-! ### in -/
theorem flat_v {K : PySem.W.Frag} {H : Hp} {x : V} {a : PyData} (f : flatD a = true) (h : Dp K H x a) : flatV x = true ∧ ∀ {y : V} {b : PyData} {H' : Hp}, flatD b = true → Dp K H' y b → eqV y x = PyData.eqv b a := by
  cases a <;> cases h <;> first
    | (cases f; done)
    | (refine ⟨rfl, fun {y b H'} fb hb => ?_⟩
       cases b <;> cases hb <;> first
         | (cases fb; done)
         | rfl
         | simp [eqV, PyData.eqv])
theorem flat_all {K : PySem.W.Frag} {H : Hp} {x : V} {a : PyData} {H' : Hp} (f : flatD a = true) (h : Dp K H' x a) : ∀ {vs : List V} {ds : List PyData}, DpAll K H vs ds → ds.all flatD = true → vs.all flatV = true ∧ inV x vs = ds.any fun z => PyData.eqv z a
  | _, _, .nil, _ => ⟨rfl, rfl⟩
  | _, _, .cons h1 h2, hf => by
    rw [List.all_cons, Bool.and_eq_true] at hf
    obtain ⟨f1, f2⟩ := hf
    obtain ⟨g1, g2⟩ := flat_all f h h2 f2
    refine ⟨by rw [List.all_cons, (flat_v f1 h1).1, g1]; rfl, ?_⟩
    unfold inV at g2 ⊢
    rw [List.any_cons, List.any_cons, g2, (flat_v f h).2 f1 h1]
abbrev rInU (K : PySem.W.Frag) : R2 := fun x y H Q => rIn K false x y H Q ∨ rInD K x y H Q ∨ (∃ (c : Nat) (z : Str), x = .str ⟨#[c]⟩ ∧ y = .str z ∧ Q (.bl (decide (c ∈ z.cps.toList))) H)
abbrev rNotInU (K : PySem.W.Frag) : R2 := fun x y H Q => rIn K true x y H Q ∨ rNotInD K x y H Q ∨ (∃ (c : Nat) (z : Str), x = .str ⟨#[c]⟩ ∧ y = .str z ∧ Q (.bl (!decide (c ∈ z.cps.toList))) H)
theorem op_inU (hu : X.A.units + 65 < cLine) : OpR X (compareOp .In) (rInU X.K) := op_in_seq.or ((op_inD hu).or op_in_sign)
theorem op_notInU (hu : X.A.units + 65 < cLine) : OpR X (compareOp .NotIn) (rNotInU X.K) := op_notIn_seq.or ((op_notInD hu).or op_notIn_sign)
theorem str_one {x : Str} {c : Nat} (h : x.cps.toList = [c]) : x = ⟨#[c]⟩ := by
  obtain ⟨a⟩ := x
  congr 1
  have : a.toList = [c] := h
  rw [← Array.toArray_toList (xs := a), this]
theorem rin_go {K : PySem.W.Frag} {neg : Bool} {M : Addr → Prop} {H : Hp} {x y : V} {a b : PyData} {c : Bool} {Q : VK} (ha : Rm K .p M H H x a) (hb : Rm K .p M H H y b) (e : dIsIn a b = some c) (h : Q (.bl (if neg then !c else c)) H) :
    rIn K neg x y H Q ∨ (∃ d ds, Dp K H x d ∧ Dp K H y (.list ds) ∧ SeqAt.shaped d = true ∧ SeqAt.shaped (.list ds) = true ∧ Q (.bl (if neg then !(ds.any fun z => PyData.eqv z d) else ds.any fun z => PyData.eqv z d)) H) ∨
      (∃ (c : Nat) (z : Str), x = .str ⟨#[c]⟩ ∧ y = .str z ∧ Q (.bl (if neg then !decide (c ∈ z.cps.toList) else decide (c ∈ z.cps.toList))) H) := by
  cases b with
  | list ds =>
    obtain ⟨z, e2⟩ := gd_some e
    subst e2
    rw [Bool.or_eq_true, Bool.and_eq_true, Bool.and_eq_true] at z
    rcases z with ⟨z1, z2⟩ | ⟨z1, z2⟩
    · obtain ⟨p, vs, rfl, s1, d1⟩ := Rm.lst hb
      obtain ⟨g1, g2⟩ := flat_all z1 ha.dp d1 z2
      exact .inl ⟨p, vs, rfl, .inl s1, (flat_v z1 ha.dp).1, g1, by rw [g2]; exact h⟩
    · exact .inr (.inl ⟨a, ds, ha.dp, hb.dp, z1, z2, h⟩)
  | tuple ds =>
    obtain ⟨z, e2⟩ := gd_some e
    subst e2
    rw [Bool.and_eq_true] at z
    obtain ⟨z1, z2⟩ := z
    obtain ⟨p, vs, rfl, s1, d1⟩ := Rm.tup hb
    obtain ⟨g1, g2⟩ := flat_all z1 ha.dp d1 z2
    exact .inl ⟨p, vs, rfl, .inr s1, (flat_v z1 ha.dp).1, g1, by rw [g2]; exact h⟩
  | str z =>
    cases a with
    | str xs =>
      unfold dIsIn at e
      simp only at e
      split at e
      · rename_i c0 hc
        have e' := Option.some.inj e
        subst e'
        have ex := ha.strP
        rw [str_one hc] at ex
        exact .inr (.inr ⟨c0, z, ex, hb.strP, h⟩)
      · cases e
    | _ => cases e
  | _ => cases e
theorem rop_in {K : PySem.W.Frag} : ROp K cm .v (rInU K) (fun a b => .of (dIn a b)) := by
  intro M H x y a b Q hM ha hb h
  have h : Post K cm M (Rm K .v M H) H Q NoW (.of ((dIsIn a b).map .bool)) := h
  cases e : dIsIn a b with
  | none => rw [e] at h; exact h.elim
  | some c =>
    rw [e] at h
    exact rin_go (neg := false) ha hb e (h _ _ (Same.refl H) (.bl _))
theorem rop_notIn {K : PySem.W.Frag} : ROp K cm .v (rNotInU K) (fun a b => .of (dNotIn a b)) := by
  intro M H x y a b Q hM ha hb h
  have h : Post K cm M (Rm K .v M H) H Q NoW (.of ((dIsIn a b).map fun c => .bool (!c))) := h
  cases e : dIsIn a b with
  | none => rw [e] at h; exact h.elim
  | some c =>
    rw [e] at h
    exact rin_go (neg := true) ha hb e (h _ _ (Same.refl H) (.bl _))
/-! ### order -/
theorem ints_of {K : PySem.W.Frag} {H : Hp} : ∀ {vs : List V} {ds : List PyData} {ns : List Int}, DpAll K H vs ds → intsOf ds = some ns → vs = ns.map V.int
  | _, _, ns, .nil, e => by
    cases e
    rfl
  | _, _, ns, .cons h1 h2, e => by
    rename_i v vs d ds
    cases d with
    | int i =>
      unfold intsOf at e
      cases q : intsOf ds with
      | none => rw [q] at e; cases e
      | some ms =>
        rw [q] at e
        cases e
        cases h1
        rw [ints_of h2 q]
        rfl
    | _ => cases e
theorem lex_le : ∀ (ns ms : List Int) (i : Nat) (as bs : List Int), as.length = i → bs.length = i → Ob.lexAt (fun j => decide ((as ++ ns).getD j 0 = (bs ++ ms).getD j 0)) (fun j => decide ((as ++ ns).getD j 0 ≤ (bs ++ ms).getD j 0)) (decide ((as ++ ns).length ≤ (bs ++ ms).length)) i (min ns.length ms.length) = !HT.lexLt ms ns
  | [], ms, i, as, bs, h1, h2 => by
    rw [List.length_nil, Nat.zero_min, Ob.lexAt_zero]
    cases ms with
    | nil => rw [decide_eq_true (by simp; omega)]; rfl
    | cons x r => rw [decide_eq_true (by simp; omega)]; rfl
  | x :: ns, [], i, as, bs, h1, h2 => by
    rw [List.length_nil, Nat.min_zero, Ob.lexAt_zero, decide_eq_false (by simp; omega)]
    rfl
  | x :: ns, y :: ms, i, as, bs, h1, h2 => by
    have g1 : (as ++ x :: ns).getD i 0 = x := by rw [List.getD_eq_getElem?_getD, List.getElem?_append_right (by omega), h1, Nat.sub_self]; rfl
    have g2 : (bs ++ y :: ms).getD i 0 = y := by rw [List.getD_eq_getElem?_getD, List.getElem?_append_right (by omega), h2, Nat.sub_self]; rfl
    have e1 : as ++ x :: ns = (as ++ [x]) ++ ns := by simp
    have e2 : bs ++ y :: ms = (bs ++ [y]) ++ ms := by simp
    have em : min (x :: ns).length (y :: ms).length = min ns.length ms.length + 1 := by rw [List.length_cons, List.length_cons]; omega
    rw [em, Ob.lexAt_succ, g1, g2, HT.lexLt_cons]
    by_cases q : x = y
    · subst q
      rw [if_pos (decide_eq_true rfl), if_pos rfl, e1, e2]
      exact lex_le ns ms (i + 1) (as ++ [x]) (bs ++ [x]) (by simp [h1]) (by simp [h2])
    · rw [if_neg (by simpa using q), if_neg (fun z => q z.symm)]
      by_cases w : x ≤ y
      · rw [decide_eq_true w, decide_eq_false (by omega)]; rfl
      · rw [decide_eq_false w, decide_eq_true (by omega)]; rfl
abbrev rLtU (K : PySem.W.Frag) : R2 := fun x y H Q => rI0 (fun i j => .bl (decide (i < j))) x y H Q ∨ (∃ i j, x = .str i ∧ y = .str j ∧ Q (.bl (decide (i.cps.toList < j.cps.toList))) H) ∨ rLtT K x y H Q
theorem op_ltU (hu : X.A.units < cLine) : OpR X (compareOp .Lt) (rLtU X.K) := op_lt.or (op_lt_str.or (op_ltT hu))
abbrev rLeU (K : PySem.W.Frag) : R2 := fun x y H Q => rI0 (fun i j => .bl (decide (i ≤ j))) x y H Q ∨ (∃ i j, x = .str i ∧ y = .str j ∧ Q (.bl (!decide (j.cps.toList < i.cps.toList))) H) ∨ rLeT K x y H Q
theorem op_leU (hu : X.A.units < cLine) : OpR X (compareOp .LtE) (rLeU X.K) := op_le.or (op_le_str.or (op_leT hu))
theorem rop_lt {K : PySem.W.Frag} : ROp K cm .v (rLtU K) (fun a b => .of (dLt a b)) := by
  intro M H x y a b Q hM ha hb h
  cases a with
  | int i =>
    cases b with
    | int j => exact .inl ⟨i, j, ha.intP, hb.intP, h _ _ (Same.refl H) (.bl _)⟩
    | _ => exact h.elim
  | str i =>
    cases b with
    | str j => exact .inr (.inl ⟨i, j, ha.strP, hb.strP, h _ _ (Same.refl H) (.bl _)⟩)
    | _ => exact h.elim
  | tuple xs =>
    cases b with
    | tuple ys =>
      unfold dLt at h
      simp only at h
      cases e1 : intsOf xs with
      | none => simp only [e1] at h; exact h.elim
      | some ns =>
        cases e2 : intsOf ys with
        | none => simp only [e1, e2] at h; exact h.elim
        | some ms =>
          simp only [e1, e2] at h
          obtain ⟨p, vs, rfl, s1, d1⟩ := Rm.tup ha
          obtain ⟨q, ws, rfl, s2, d2⟩ := Rm.tup hb
          rw [ints_of d1 e1] at s1
          rw [ints_of d2 e2] at s2
          exact .inr (.inr ⟨p, q, ns, ms, rfl, rfl, s1, s2, h _ _ (Same.refl H) (.bl _)⟩)
    | _ => exact h.elim
  | _ => exact h.elim
theorem rop_le {K : PySem.W.Frag} : ROp K cm .v (rLeU K) (fun a b => .of (dLe a b)) := by
  intro M H x y a b Q hM ha hb h
  cases a with
  | int i =>
    cases b with
    | int j => exact .inl ⟨i, j, ha.intP, hb.intP, h _ _ (Same.refl H) (.bl _)⟩
    | _ => exact h.elim
  | str i =>
    cases b with
    | str j => exact .inr (.inl ⟨i, j, ha.strP, hb.strP, h _ _ (Same.refl H) (.bl _)⟩)
    | _ => exact h.elim
  | tuple xs =>
    cases b with
    | tuple ys =>
      unfold dLe at h
      simp only at h
      cases e1 : intsOf xs with
      | none => simp only [e1] at h; exact h.elim
      | some ns =>
        cases e2 : intsOf ys with
        | none => simp only [e1, e2] at h; exact h.elim
        | some ms =>
          simp only [e1, e2] at h
          obtain ⟨p, vs, rfl, s1, d1⟩ := Rm.tup ha
          obtain ⟨q, ws, rfl, s2, d2⟩ := Rm.tup hb
          rw [ints_of d1 e1] at s1
          rw [ints_of d2 e2] at s2
          refine .inr (.inr ⟨p, q, ns, ms, rfl, rfl, s1, s2, ?_⟩)
          have := lex_le ns ms 0 [] [] rfl rfl
          rw [List.nil_append, List.nil_append] at this
          rw [this]
          exact h _ _ (Same.refl H) (.bl _)
    | _ => exact h.elim
  | _ => exact h.elim
abbrev rGtU : R2 := fun x y H Q => rI0 (fun i j => .bl (decide (j < i))) x y H Q ∨ (∃ i j, x = .str i ∧ y = .str j ∧ Q (.bl (decide (j.cps.toList < i.cps.toList))) H)
theorem op_gtU : OpR X (compareOp .Gt) rGtU := op_gt.or op_gt_str
abbrev rGeU : R2 := fun x y H Q => rI0 (fun i j => .bl (decide (j ≤ i))) x y H Q ∨ (∃ i j, x = .str i ∧ y = .str j ∧ Q (.bl (!decide (i.cps.toList < j.cps.toList))) H)
theorem op_geU : OpR X (compareOp .GtE) rGeU := op_ge.or op_ge_str
theorem rop_gt {K : PySem.W.Frag} : ROp K cm .v rGtU (fun a b => .of (dGt a b)) := by
  intro M H x y a b Q hM ha hb h
  cases a with
  | int i =>
    cases b with
    | int j => exact .inl ⟨i, j, ha.intP, hb.intP, h _ _ (Same.refl H) (.bl _)⟩
    | _ => exact h.elim
  | str i =>
    cases b with
    | str j => exact .inr ⟨i, j, ha.strP, hb.strP, h _ _ (Same.refl H) (.bl _)⟩
    | _ => exact h.elim
  | _ => exact h.elim
theorem rop_ge {K : PySem.W.Frag} : ROp K cm .v rGeU (fun a b => .of (dGe a b)) := by
  intro M H x y a b Q hM ha hb h
  cases a with
  | int i =>
    cases b with
    | int j => exact .inl ⟨i, j, ha.intP, hb.intP, h _ _ (Same.refl H) (.bl _)⟩
    | _ => exact h.elim
  | str i =>
    cases b with
    | str j => exact .inr ⟨i, j, ha.strP, hb.strP, h _ _ (Same.refl H) (.bl _)⟩
    | _ => exact h.elim
  | _ => exact h.elim
/-! ### is None -/
theorem none_iff {K : PySem.W.Frag} {M : Addr → Prop} {H : Hp} {x : V} {a : PyData} (h : Rm K .p M H H x a) : decide (x = .non) = isNoneD a := by
  have := h.dp
  cases a <;> cases this <;> simp [isNoneD]
theorem rop_is {K : PySem.W.Frag} : ROp K cm .v (fun x y H Q => y = .non ∧ Q (.bl (decide (x = .non))) H) (fun a b => .of (dIs a b)) := by
  intro M H x y a b Q hM ha hb h
  obtain ⟨z, h⟩ := post_gd h
  cases b with
  | none => exact ⟨hb.noneP, by rw [none_iff ha]; exact h _ _ (Same.refl H) (.bl _)⟩
  | _ => cases z
theorem rop_isNot {K : PySem.W.Frag} : ROp K cm .v (fun x y H Q => y = .non ∧ Q (.bl (!decide (x = .non))) H) (fun a b => .of (dIsNot a b)) := by
  intro M H x y a b Q hM ha hb h
  obtain ⟨z, h⟩ := post_gd h
  cases b with
  | none => exact ⟨hb.noneP, by rw [none_iff ha]; exact h _ _ (Same.refl H) (.bl _)⟩
  | _ => cases z
/-! ### items and slices -/
theorem DpAll.atI {K : PySem.W.Frag} {H : Hp} {vs : List V} {ds : List PyData} {i : Int} {d : PyData} (h : DpAll K H vs ds) (e : L2.atI ds i = some d) : ∃ v, L2.atI vs i = some v ∧ Dp K H v d := by
  unfold L2.atI at e ⊢
  rw [DpAll.length h]
  cases q : ixN ds.length i with
  | none => rw [q] at e; cases e
  | some j =>
    rw [q] at e
    exact DpAll.get h e
theorem rop_ix {K : PySem.W.Frag} : ROp K cm .v (rIx K) (fun a b => .of (dIx a b)) := by
  intro M H x y a b Q hM ha hb h
  obtain ⟨e, he, k⟩ := post_some h
  cases a with
  | list xs =>
    cases b with
    | int i =>
      obtain ⟨p, vs, rfl, s1, d1⟩ := Rm.lst ha
      obtain ⟨v, hv, r⟩ := DpAll.atI d1 he
      exact .inl ⟨p, vs, i, v, rfl, hb.intP, s1, hv, k _ _ (Same.refl H) r⟩
    | _ => cases he
  | tuple xs =>
    cases b with
    | int i =>
      obtain ⟨p, vs, rfl, s1, d1⟩ := Rm.tup ha
      obtain ⟨v, hv, r⟩ := DpAll.atI d1 he
      exact .inr (.inl ⟨p, vs, i, v, rfl, hb.intP, s1, hv, k _ _ (Same.refl H) r⟩)
    | _ => cases he
  | str z =>
    cases b with
    | int i =>
      unfold dIx at he
      simp only at he
      by_cases hz : z.length ≤ sizeLine
      · rw [if_pos hz] at he
        cases q : L2.atI z.cps.toList i with
        | none => rw [q] at he; cases he
        | some c =>
          rw [q] at he
          cases he
          exact .inr (.inr ⟨z, i, c, ha.strP, hb.intP, hz, q, k _ _ (Same.refl H) (.str _)⟩)
      · rw [if_neg hz] at he
        cases he
    | _ => cases he
  | _ => cases he
abbrev rSlU (K : PySem.W.Frag) : V → Option Int → Option Int → Hp → VK → Prop := fun x lo hi H Q => rSlL K x lo hi H Q ∨ rSlA K x lo hi H Q ∨ rSlS x lo hi H Q
theorem sl_U : SlR X (rSlU X.K) := sl_list.or (sl_tupA.or sl_str)
theorem whole_cut {α : Type} (xs : List α) (lo hi : Option Int) (h : HT.sIx xs.length 0 lo = 0 ∧ HT.sIx xs.length xs.length hi = xs.length) : cut xs lo hi = xs := by
  unfold cut
  rw [h.1, h.2, List.drop_zero, Nat.sub_zero, List.take_length]
theorem rsl_slice {K : PySem.W.Frag} : RSl K cm .v (rSlU K) (fun a l h => .of (dSlice a l h)) := by
  intro M H x lo hi a Q hM ha h
  cases a with
  | list xs =>
    obtain ⟨p, vs, rfl, s1, d1⟩ := Rm.lst ha
    exact .inl ⟨p, vs, rfl, s1, fun p hp => h _ _ (same_new hp) (Rm.f_v hM (new_list (Same.refl H) hp (DpAll.cut d1 lo hi)))⟩
  | tuple xs =>
    have ha' : Dp K (msk M H) x (.tuple xs) := by
      rcases ha with ha | ⟨_, _, _, _, e, _⟩
      · exact ha
      · cases e
    obtain ⟨p, vs, rfl, s1, d1⟩ := Rm.tup ha
    refine .inr (.inl ⟨p, vs, rfl, s1, fun z => ?_, fun z p hp => h _ _ (same_new hp) (new_tup hM hp (DpAll.cut d1 lo hi))⟩)
    rw [DpAll.length d1] at z
    have h : ∀ v H', Same H H' → Rm K .v M H H' v (.tuple (DL.cut xs lo hi)) → Q v H' := h
    rw [whole_cut xs lo hi z] at h
    exact h _ _ (Same.refl H) ha'
  | str z =>
    obtain ⟨hz, h⟩ := post_gd h
    exact .inr (.inr ⟨z, ha.strP, of_decide_eq_true hz, h _ _ (Same.refl H) (.str _)⟩)
  | _ => exact h.elim
def dSliceL : PyData → Option Int → Option Int → Option PyData
  | .list xs, lo, hi => some (.list (cut xs lo hi))
  | _, _, _ => none
theorem rsl_list {K : PySem.W.Frag} : RSl K cm .f (rSlL K) (fun a l h => .of (dSliceL a l h)) := by
  intro M H x lo hi a Q hM ha h
  cases a with
  | list xs =>
    obtain ⟨p, vs, rfl, s1, d1⟩ := Rm.lst ha
    exact ⟨p, vs, rfl, s1, fun p hp => h _ _ (same_new hp) (new_list (Same.refl H) hp (DpAll.cut d1 lo hi))⟩
  | _ => exact h.elim
end
end DL
end
section
set_option Elab.async false
set_option linter.all false
set_option maxRecDepth 100000
set_option maxHeartbeats 4000000
/-! DL7: calls of built-ins, methods of texts, as plain functions. -/
namespace DL
open PySem PySem.Spec PyProof.Rows L2

def dLen : List PyData → Option PyData
  | [.str z] => gd (fits z.length) (.int z.length)
  | [.list xs] => some (.int xs.length)
  | [.tuple xs] => some (.int xs.length)
  | _ => none
def dInt : List PyData → Option PyData
  | [.int i] => some (.int i)
  | [.bool k] => some (.int (if k then 1 else 0))
  | [.str a] => match PySem.intText? a with
    | some n => gd (decide (a.length ≤ 640)) (.int n)
    | none => none
  | _ => none
def dStr : List PyData → Option PyData
  | [.int i] => gd (decide (i.natAbs.log2 < 1920)) (.str (toString i))
  | [.str a] => some (.str a)
  | _ => none
def dListOf : List PyData → Option PyData
  | [.list xs] => some (.list xs)
  | [.tuple xs] => some (.list xs)
  | _ => none
def dTupOf : List PyData → Option PyData
  | [.list xs] => some (.tuple xs)
  | [.tuple xs] => some (.tuple xs)
  | _ => none
def dAbs : List PyData → Option PyData
  | [.int i] => some (.int (if i < 0 then -i else i))
  | _ => none
def dMax2 : List PyData → Option PyData
  | [.int i, .int j] => some (.int (if j > i then j else i))
  | _ => none
def dMin2 : List PyData → Option PyData
  | [.int i, .int j] => some (.int (if j < i then j else i))
  | _ => none
def boolsOf : List PyData → Option (List Bool)
  | [] => some []
  | .bool b :: r => (boolsOf r).map (b :: ·)
  | _ => none
def strsOf : List PyData → Option (List Str)
  | [] => some []
  | .str b :: r => (strsOf r).map (b :: ·)
  | _ => none
def dAll : List PyData → Option PyData
  | [.list xs] => (boolsOf xs).map fun bs => .bool (bs.all id)
  | _ => none
def dAny : List PyData → Option PyData
  | [.list xs] => (boolsOf xs).map fun bs => .bool (bs.any id)
  | _ => none
def dSum : List PyData → Option PyData
  | [.list xs] => (intsOf xs).map fun ns => .int ns.sum
  | _ => none
theorem bools_of {K : PySem.W.Frag} {H : Hp} : ∀ {vs : List V} {ds : List PyData} {ns : List Bool}, DpAll K H vs ds → boolsOf ds = some ns → vs = ns.map V.bl
  | _, _, ns, .nil, e => by
    cases e
    rfl
  | _, _, ns, .cons h1 h2, e => by
    rename_i v vs d ds
    cases d with
    | bool i =>
      unfold boolsOf at e
      cases q : boolsOf ds with
      | none => rw [q] at e; cases e
      | some ms =>
        rw [q] at e
        cases e
        cases h1
        rw [bools_of h2 q]
        rfl
    | _ => cases e
theorem strs_of {K : PySem.W.Frag} {H : Hp} : ∀ {vs : List V} {ds : List PyData} {ns : List Str}, DpAll K H vs ds → strsOf ds = some ns → vs = ns.map V.str
  | _, _, ns, .nil, e => by
    cases e
    rfl
  | _, _, ns, .cons h1 h2, e => by
    rename_i v vs d ds
    cases d with
    | str i =>
      unfold strsOf at e
      cases q : strsOf ds with
      | none => rw [q] at e; cases e
      | some ms =>
        rw [q] at e
        cases e
        cases h1
        rw [strs_of h2 q]
        rfl
    | _ => cases e
theorem all_str {K : PySem.W.Frag} {H : Hp} : ∀ (ys : List Str), DpAll K H (ys.map V.str) (ys.map PyData.str)
  | [] => .nil
  | y :: ys => .cons (.str y) (all_str ys)
theorem all_int {K : PySem.W.Frag} {H : Hp} : ∀ (ys : List Int), DpAll K H (ys.map V.int) (ys.map PyData.int)
  | [] => .nil
  | y :: ys => .cons (.int y) (all_int ys)
section
variable {K : PySem.W.Frag} {cm : CM}
theorem rcl_len : RCl K cm .v (fun xs H Q => ∃ x n, xs = [x] ∧ LenV K x H n ∧ Q (.int n) H) (fun as => .of (dLen as)) := by
  intro M H xs as Q hM hr h
  obtain ⟨e, he, k⟩ := post_some h
  unfold dLen at he
  split at he
  · rename_i z
    obtain ⟨x, rfl, r⟩ := hr.one
    obtain ⟨c, rfl⟩ := gd_some he
    exact ⟨x, z.length, rfl, by rw [r.strP]; exact ⟨of_decide_eq_true c, rfl⟩, k _ _ (Same.refl H) (.int _)⟩
  · rename_i xs
    cases he
    obtain ⟨x, rfl, r⟩ := hr.one
    obtain ⟨p, vs, rfl, s1, d1⟩ := Rm.lst r
    exact ⟨_, xs.length, rfl, .inl ⟨vs, s1, (DpAll.length d1).symm⟩, k _ _ (Same.refl H) (.int _)⟩
  · rename_i xs
    cases he
    obtain ⟨x, rfl, r⟩ := hr.one
    obtain ⟨p, vs, rfl, s1, d1⟩ := Rm.tup r
    exact ⟨_, xs.length, rfl, .inr ⟨vs, s1, (DpAll.length d1).symm⟩, k _ _ (Same.refl H) (.int _)⟩
  · cases he
abbrev rIntU : List V → Hp → VK → Prop := fun xs H Q => ((∃ i, xs = [.int i] ∧ Q (.int i) H) ∨ ∃ k, xs = [.bl k] ∧ Q (.int (if k then 1 else 0)) H) ∨ (∃ a n, xs = [.str a] ∧ PySem.intText? a = some n ∧ a.length ≤ 640 ∧ Q (.int n) H)
theorem call_intU {X : Cx} : CallR X (.type "int") rIntU := call_int1.or call_int_str
theorem rcl_int : RCl K cm .v rIntU (fun as => .of (dInt as)) := by
  intro M H xs as Q hM hr h
  obtain ⟨e, he, k⟩ := post_some h
  unfold dInt at he
  split at he
  · cases he
    obtain ⟨x, rfl, r⟩ := hr.one
    exact .inl (.inl ⟨_, by rw [r.intP], k _ _ (Same.refl H) (.int _)⟩)
  · cases he
    obtain ⟨x, rfl, r⟩ := hr.one
    exact .inl (.inr ⟨_, by rw [r.boolP], k _ _ (Same.refl H) (.int _)⟩)
  · rename_i a
    obtain ⟨x, rfl, r⟩ := hr.one
    cases q : PySem.intText? a with
    | none => simp only [q] at he; cases he
    | some n =>
      simp only [q] at he
      obtain ⟨c, rfl⟩ := gd_some he
      exact .inr ⟨a, n, by rw [r.strP], q, of_decide_eq_true c, k _ _ (Same.refl H) (.int _)⟩
  · cases he
abbrev rStrU : List V → Hp → VK → Prop := fun xs H Q => (∃ i, xs = [.int i] ∧ i.natAbs.log2 < 1920 ∧ Q (.str (toString i)) H) ∨ (∃ a, xs = [.str a] ∧ Q (.str a) H)
theorem call_strU {X : Cx} : CallR X (.type "str") rStrU := call_str_int.or SkE.call_str_str
theorem rcl_str : RCl K cm .v rStrU (fun as => .of (dStr as)) := by
  intro M H xs as Q hM hr h
  obtain ⟨e, he, k⟩ := post_some h
  unfold dStr at he
  split at he
  · obtain ⟨c, rfl⟩ := gd_some he
    obtain ⟨x, rfl, r⟩ := hr.one
    exact .inl ⟨_, by rw [r.intP], of_decide_eq_true c, k _ _ (Same.refl H) (.str _)⟩
  · cases he
    obtain ⟨x, rfl, r⟩ := hr.one
    exact .inr ⟨_, by rw [r.strP], k _ _ (Same.refl H) (.str _)⟩
  · cases he
theorem rcl_list : RCl K cm .f (fun xs H Q => ∃ p ys, xs = [.ref p] ∧ (SqL K H p ys ∨ SqT K H p ys) ∧ ∀ l, H l = none → Q (.ref l) (upd H l (.lst ys))) (fun as => .of (dListOf as)) := by
  intro M H xs as Q hM hr h
  obtain ⟨e, he, k⟩ := post_some h
  unfold dListOf at he
  split at he
  · cases he
    obtain ⟨x, rfl, r⟩ := hr.one
    obtain ⟨p, vs, rfl, s1, d1⟩ := Rm.lst r
    exact ⟨p, vs, rfl, .inl s1, fun l hl => k _ _ (same_new hl) (new_list (Same.refl H) hl d1)⟩
  · cases he
    obtain ⟨x, rfl, r⟩ := hr.one
    obtain ⟨p, vs, rfl, s1, d1⟩ := Rm.tup r
    exact ⟨p, vs, rfl, .inr s1, fun l hl => k _ _ (same_new hl) (new_list (Same.refl H) hl d1)⟩
  · cases he
theorem rcl_tup : RCl K cm .v (fun xs H Q => ∃ p ys, xs = [.ref p] ∧ ((SqL K H p ys ∧ ∀ l, H l = none → Q (.ref l) (upd H l (.tup ys))) ∨ (SqT K H p ys ∧ Q (.ref p) H))) (fun as => .of (dTupOf as)) := by
  intro M H xs as Q hM hr h
  obtain ⟨e, he, k⟩ := post_some h
  unfold dTupOf at he
  split at he
  · cases he
    obtain ⟨x, rfl, r⟩ := hr.one
    obtain ⟨p, vs, rfl, s1, d1⟩ := Rm.lst r
    exact ⟨p, vs, rfl, .inl ⟨s1, fun l hl => k _ _ (same_new hl) (new_tup hM hl d1)⟩⟩
  · rename_i zs
    cases he
    obtain ⟨x, rfl, r⟩ := hr.one
    have r' : Dp K (msk M H) x (.tuple zs) := by
      rcases r with r | ⟨_, _, _, _, e, _⟩
      · exact r
      · cases e
    obtain ⟨p, vs, rfl, s1, d1⟩ := Rm.tup r
    exact ⟨p, vs, rfl, .inr ⟨s1, k _ _ (Same.refl H) r'⟩⟩
  · cases he
theorem rcl_abs : RCl K cm .v (fun xs H Q => ∃ i, xs = [.int i] ∧ Q (.int (if i < 0 then -i else i)) H) (fun as => .of (dAbs as)) := by
  intro M H xs as Q hM hr h
  obtain ⟨e, he, k⟩ := post_some h
  unfold dAbs at he
  split at he
  · cases he
    obtain ⟨x, rfl, r⟩ := hr.one
    exact ⟨_, by rw [r.intP], k _ _ (Same.refl H) (.int _)⟩
  · cases he
theorem rcl_max2 : RCl K cm .v (fun xs H Q => ∃ i j, xs = [.int i, .int j] ∧ Q (.int (if j > i then j else i)) H) (fun as => .of (dMax2 as)) := by
  intro M H xs as Q hM hr h
  obtain ⟨e, he, k⟩ := post_some h
  unfold dMax2 at he
  split at he
  · cases he
    obtain ⟨x, y, rfl, r, r'⟩ := hr.two
    exact ⟨_, _, by rw [r.intP, r'.intP], k _ _ (Same.refl H) (.int _)⟩
  · cases he
theorem rcl_min2 : RCl K cm .v (fun xs H Q => ∃ i j, xs = [.int i, .int j] ∧ Q (.int (if j < i then j else i)) H) (fun as => .of (dMin2 as)) := by
  intro M H xs as Q hM hr h
  obtain ⟨e, he, k⟩ := post_some h
  unfold dMin2 at he
  split at he
  · cases he
    obtain ⟨x, y, rfl, r, r'⟩ := hr.two
    exact ⟨_, _, by rw [r.intP, r'.intP], k _ _ (Same.refl H) (.int _)⟩
  · cases he
theorem rcl_all : RCl K cm .v (rAll K) (fun as => .of (dAll as)) := by
  intro M H xs as Q hM hr h
  obtain ⟨e, he, k⟩ := post_some h
  unfold dAll at he
  split at he
  · rename_i zs
    cases q : boolsOf zs with
    | none => rw [q] at he; cases he
    | some bs =>
      rw [q] at he
      cases he
      obtain ⟨x, rfl, r⟩ := hr.one
      obtain ⟨p, vs, rfl, s1, d1⟩ := Rm.lst r
      rw [bools_of d1 q] at s1
      exact ⟨p, bs, rfl, s1, k _ _ (Same.refl H) (.bl _)⟩
  · cases he
theorem rcl_any : RCl K cm .v (rAny K) (fun as => .of (dAny as)) := by
  intro M H xs as Q hM hr h
  obtain ⟨e, he, k⟩ := post_some h
  unfold dAny at he
  split at he
  · rename_i zs
    cases q : boolsOf zs with
    | none => rw [q] at he; cases he
    | some bs =>
      rw [q] at he
      cases he
      obtain ⟨x, rfl, r⟩ := hr.one
      obtain ⟨p, vs, rfl, s1, d1⟩ := Rm.lst r
      rw [bools_of d1 q] at s1
      exact ⟨p, bs, rfl, s1, k _ _ (Same.refl H) (.bl _)⟩
  · cases he
theorem rcl_sum : RCl K cm .v (rSum K) (fun as => .of (dSum as)) := by
  intro M H xs as Q hM hr h
  obtain ⟨e, he, k⟩ := post_some h
  unfold dSum at he
  split at he
  · rename_i zs
    cases q : intsOf zs with
    | none => rw [q] at he; cases he
    | some bs =>
      rw [q] at he
      cases he
      obtain ⟨x, rfl, r⟩ := hr.one
      obtain ⟨p, vs, rfl, s1, d1⟩ := Rm.lst r
      rw [ints_of d1 q] at s1
      exact ⟨p, bs, rfl, s1, k _ _ (Same.refl H) (.int _)⟩
  · cases he
end
/-! ### texts -/
def isStrD : PyData → Bool
  | .str _ => true
  | _ => false
def isListD : PyData → Bool
  | .list _ => true
  | _ => false
theorem rty_str {K : PySem.W.Frag} : RTy K "str" isStrD := by
  intro x H a M h e
  cases a with
  | str z => rw [h.strP]; rfl
  | _ => cases e
theorem rty_list {K : PySem.W.Frag} : RTy K "list" isListD := by
  intro x H a M h e
  cases a with
  | list z =>
    obtain ⟨p, vs, rfl, s1, d1⟩ := Rm.lst h
    exact .inl ⟨rfl, vs, s1⟩
  | _ => cases e
def dJoin : PyData → List PyData → Option PyData
  | .str a, [.list xs] => match strsOf xs with
    | some ys => gd (decide ((ys.map (·.length)).sum + ys.length * a.length ≤ 16777216)) (.str (Txt.join a ys))
    | none => none
  | .str a, [.tuple xs] => match strsOf xs with
    | some ys => gd (decide ((ys.map (·.length)).sum + ys.length * a.length ≤ 16777216)) (.str (Txt.join a ys))
    | none => none
  | _, _ => none
def dSplit : PyData → List PyData → Option PyData
  | .str a, [.str b] => gd (decide ((b.length == 0) = false ∧ a.length + 2 ≤ sizeLine)) (.list ((Txt.split a b).map .str))
  | _, _ => none
def dUpper : PyData → List PyData → Option PyData
  | .str a, [] => gd (decide (a.length ≤ 5592405)) (.str (Txt.upper a))
  | _, _ => none
section
variable {X : Cx} {K : PySem.W.Frag} {cm : CM}
theorem rmt_join : RMt K cm .v (fun x xs H Q => ∃ a p, ∃ ys : List Str, x = .str a ∧ xs = [.ref p] ∧ (SqL K H p (ys.map V.str) ∨ SqT K H p (ys.map V.str)) ∧ (ys.map (·.length)).sum + ys.length * a.length ≤ 16777216 ∧ Q (.str (Txt.join a ys)) H) (fun a as => .of (dJoin a as)) := by
  intro M H x xs a as Q hM ha hr h
  obtain ⟨e, he, k⟩ := post_some h
  unfold dJoin at he
  split at he
  · rename_i z zs
    cases q : strsOf zs with
    | none => simp only [q] at he; cases he
    | some ys =>
      simp only [q] at he
      obtain ⟨c, rfl⟩ := gd_some he
      obtain ⟨y, rfl, r⟩ := hr.one
      obtain ⟨p, vs, rfl, s1, d1⟩ := Rm.lst r
      rw [strs_of d1 q] at s1
      exact ⟨z, p, ys, ha.strP, rfl, .inl s1, of_decide_eq_true c, k _ _ (Same.refl H) (.str _)⟩
  · rename_i z zs
    cases q : strsOf zs with
    | none => simp only [q] at he; cases he
    | some ys =>
      simp only [q] at he
      obtain ⟨c, rfl⟩ := gd_some he
      obtain ⟨y, rfl, r⟩ := hr.one
      obtain ⟨p, vs, rfl, s1, d1⟩ := Rm.tup r
      rw [strs_of d1 q] at s1
      exact ⟨z, p, ys, ha.strP, rfl, .inr s1, of_decide_eq_true c, k _ _ (Same.refl H) (.str _)⟩
  · cases he
theorem rmt_split : RMt K cm .f (fun x xs H Q => ∃ a b, x = .str a ∧ xs = [.str b] ∧ (b.length == 0) = false ∧ a.length + 2 ≤ sizeLine ∧ rNewStrs (Txt.split a b) H Q) (fun a as => .of (dSplit a as)) := by
  intro M H x xs a as Q hM ha hr h
  obtain ⟨e, he, k⟩ := post_some h
  unfold dSplit at he
  split at he
  · rename_i z w
    obtain ⟨c, rfl⟩ := gd_some he
    obtain ⟨c1, c2⟩ := of_decide_eq_true c
    obtain ⟨y, rfl, r⟩ := hr.one
    exact ⟨z, w, ha.strP, by rw [r.strP], c1, c2, fun p hp => k _ _ (same_new hp) (new_list (Same.refl H) hp (all_str _))⟩
  · cases he
theorem rmt_upper : RMt K cm .v (fun x xs H Q => ∃ a, x = .str a ∧ xs = [] ∧ a.length ≤ 5592405 ∧ Q (.str (Txt.upper a)) H) (fun a as => .of (dUpper a as)) := by
  intro M H x xs a as Q hM ha hr h
  obtain ⟨e, he, k⟩ := post_some h
  unfold dUpper at he
  split at he
  · rename_i z
    obtain ⟨c, rfl⟩ := gd_some he
    cases hr
    exact ⟨z, ha.strP, rfl, of_decide_eq_true c, k _ _ (Same.refl H) (.str _)⟩
  · cases he
end
/-! ### f-texts -/
def dFmt : PyData → Option PyData
  | .str y => gd (fits y.length) (.str y)
  | .int i => gd (decide (i.natAbs.log2 < 1920)) (.str (toString i))
  | _ => none
def jsL : List (Rho → Res PyData) → Str → Rho → Res PyData
  | [], acc, _ => .ok (.str acc)
  | f :: fs, acc, ρ => (f ρ).bind fun a => match a with
    | .str y => if acc.length + y.length ≤ sizeLine then jsL fs (acc ++ y) ρ else .bad
    | _ => .bad
def eJs (fs : List (Rho → Res PyData)) : Rho → Res PyData := jsL fs Str.empty
section
variable {X : Cx} {cm : CM} {W : WX}
theorem pev_fmt {e : Expr} {f : Rho → Res PyData} {pos : Pos} (h : PEV X cm W .p e f) : PEV X cm W .v (.FormattedValue e (-1) none pos) (o1 dFmt f) := by
  obtain ⟨t, a1, a2⟩ := h
  refine ⟨_, pe_fmt a1, fun B H0 ω ρ σ H Q S h => ?_⟩
  refine a2.go S h fun x a H1 s1 S1 r1 h1 => ?_
  obtain ⟨e, he, k⟩ := post_some (m := .v) (H := H1) (noW (fun _ => of_nx) (Post.up (R' := Rm X.K .v (ownM B ω ρ) H1) (Same.refl _) (fun _ _ _ _ z => z.anti s1) h1))
  cases a with
  | str y =>
    obtain ⟨c, rfl⟩ := gd_some he
    exact .inl ⟨y, r1.strP, of_decide_eq_true c, k _ _ (Same.refl _) (.str _)⟩
  | int i =>
    obtain ⟨c, rfl⟩ := gd_some he
    exact .inr ⟨i, r1.intP, of_decide_eq_true c, k _ _ (Same.refl _) (.str _)⟩
  | _ => cases he
/-- the parts -/
inductive PJV (X : Cx) (cm : CM) (W : WX) : List Expr → List (Rho → Res PyData) → Prop where
  | nil : PJV X cm W [] []
  | cons {e : Expr} {f : Rho → Res PyData} {es : List Expr} {fs : List (Rho → Res PyData)} (h : PEV X cm W .v e f) (r : PJV X cm W es fs) : PJV X cm W (e :: es) (f :: fs)
theorem PJV.pj {es : List Expr} {fs : List (Rho → Res PyData)} (h : PJV X cm W es fs) : PJ X es (fs.map (tFg X.K cm W (Rm X.K .v))) := by
  induction h with
  | nil => exact .nil
  | cons h r ih => exact .cons h.pe ih
theorem js_ok : ∀ (fs : List (Rho → Res PyData)) (acc : Str) (B : Addr → Prop) (H0 : Hp) (ω : Nat → Addr) (ρ : Rho) (σ : St) (H : Hp) (Q : VK), SR X.K cm.P B H0 ω ρ σ H → Post X.K cm (ownM B ω ρ) (Rm X.K .v (ownM B ω ρ) H) H Q (fun c dd H' => W c dd σ H') (jsL fs acc ρ) →
    tJs (fs.map (tFg X.K cm W (Rm X.K .v))) acc σ H fun out H1 => Q (.str out) H1
  | [], acc, B, H0, ω, ρ, σ, H, Q, S, h => h _ _ (Same.refl H) (.str _)
  | f :: fs, acc, B, H0, ω, ρ, σ, H, Q, S, h => by
    refine ⟨B, H0, ω, ρ, S, ?_⟩
    unfold jsL at h
    cases e : f ρ with
    | bad => rw [e] at h; exact h
    | ex x => rw [e] at h; exact h
    | ok a =>
      rw [e, Res.ok_bind] at h
      intro v H1 s1 r1
      cases a with
      | str y =>
        have r1 : Dp X.K (msk (ownM B ω ρ) H1) v (.str y) := r1
        cases r1
        by_cases hz : acc.length + y.length ≤ sizeLine
        · simp only [if_pos hz] at h
          refine ⟨y, rfl, by show (acc ++ y).cps.size ≤ sizeLine; rw [PySem.Str.cps_append, Array.size_append]; exact hz, js_ok fs (acc ++ y) B H0 ω ρ σ H1 Q (S.ext s1) (Post.up s1 (fun _ _ _ _ z => z) h)⟩
        · simp only [if_neg hz] at h
          exact h.elim
      | _ => exact h.elim
theorem pev_joined {v1 v2 : Expr} {rest : List Expr} {fs : List (Rho → Res PyData)} {pos : Pos} (h : PJV X cm W (v1 :: v2 :: rest) fs) : PEV X cm W .v (.JoinedStr (v1 :: v2 :: rest) pos) (eJs fs) :=
  ⟨_, pe_joined h.pj, fun B H0 ω ρ σ H Q S q => js_ok fs Str.empty B H0 ω ρ σ H Q S q⟩
theorem pev_joined1 {e : Expr} {m : Md} {f : Rho → Res PyData} {pos : Pos} (h : PEV X cm W m e f) : PEV X cm W m (.JoinedStr [e] pos) f := let ⟨t, a1, a2⟩ := h; ⟨t, pe_joined1 a1, a2⟩
end
end DL
end
section
set_option Elab.async false
set_option linter.all false
set_option maxRecDepth 100000
set_option maxHeartbeats 4000000
/-! DL8: exceptions. -/
namespace DL
open PySem PySem.Spec PyProof.Rows L2

/-! ### an exception's own __init__ that stores its arguments -/
def spInit (C : Addr) (names : List Str) : Sp := fun vs H Q _ => ∃ (a : Addr) (ws : List V), vs = .ref a :: ws ∧ ws.length = names.length ∧ H a = some (exo a C none) ∧
  ∀ d H2, H d = none → H2 a = some (exo a C (some d)) → H2 d = some (exd d (names.zip ws).reverse) → (∀ b o, b ≠ a → H b = some o → H2 b = some o) → Q .non H2
/-- what the written part says of an exception's class -/
structure ExcTxt (K : PySem.W.Frag) (C fI : Addr) (names : List Str) : Prop where
  oex : OexC K C
  nof : ∀ n ∈ names, PySem.W.findIn K (.ref C) n = some none
  iC : PySem.W.findIn K (.ref C) "__init__" = some (some (.ref fI))
  tI : PySem.W.typeIn K (.ref fI) = some (.type "function")
section
variable {Pr : Program} {w : World} {K : PySem.W.Frag} {mg : Str → Option Value} {base : Heap} {C fI : Addr}
theorem init1 {q : Str} {n : Str} {params : Arguments} {body : List Stmt} {scope : Scope} {dvs : List V} {kws : List (Str × V)} {fd : FuncData} (F : FunD K "__init__" q params body scope dvs kws fI fd) (S : FnScope ["self", n] ["self", n] scope) (T : ExcTxt K C fI [n])
    (hb : ∀ (cdv : Value) (A : Around) (outer : List Env) (s : Shared) (H : Hp) (E : XK), PSs (cxOf L2.CX0 Pr w K mg base ["self", n] q scope fI cdv A outer s H E).nox body (tOst K n (tVar 0) (tVar 1))) :
    FnOk Pr w K mg base L2.CX0 1 fI fd ["self", n] (spInit C [n]) := by
  refine FunD.ok F S (fun vs H Q E h => ?_) (fun cdv A outer s H vs Q E hr h => ⟨_, PSs.nox (hb cdv A outer s H E), ?_⟩)
  · obtain ⟨a, ws, rfl, hl, _⟩ := h
    simp [hl]
  · obtain ⟨a, ws, rfl, hl, ha, k⟩ := h
    match ws, hl with
    | [y], _ =>
      refine ⟨y, rfl, .ref a, rfl, a, C, rfl, T.oex, T.nof n (List.mem_singleton_self n), .inl ⟨ha, fun dx hx ne => ?_⟩⟩
      refine k dx _ hx upd_same ?_ fun b o nb e => ?_
      · rw [upd_ne ne, upd_same]
        rfl
      · rw [upd_ne nb, upd_ne (ne_of_none e hx)]
        exact e
theorem init2 {q : Str} {n n2 : Str} {params : Arguments} {body : List Stmt} {scope : Scope} {dvs : List V} {kws : List (Str × V)} {fd : FuncData} (F : FunD K "__init__" q params body scope dvs kws fI fd) (S : FnScope ["self", n, n2] ["self", n, n2] scope) (T : ExcTxt K C fI [n, n2])
    (hb : ∀ (cdv : Value) (A : Around) (outer : List Env) (s : Shared) (H : Hp) (E : XK), PSs (cxOf L2.CX0 Pr w K mg base ["self", n, n2] q scope fI cdv A outer s H E).nox body (tSeq (tOst K n (tVar 0) (tVar 1)) (tOst K n2 (tVar 0) (tVar 2)))) :
    FnOk Pr w K mg base L2.CX0 1 fI fd ["self", n, n2] (spInit C [n, n2]) := by
  refine FunD.ok F S (fun vs H Q E h => ?_) (fun cdv A outer s H vs Q E hr h => ⟨_, PSs.nox (hb cdv A outer s H E), ?_⟩)
  · obtain ⟨a, ws, rfl, hl, _⟩ := h
    simp [hl]
  · obtain ⟨a, ws, rfl, hl, ha, k⟩ := h
    match ws, hl with
    | [y, z], _ =>
      refine ⟨y, rfl, .ref a, rfl, a, C, rfl, T.oex, T.nof n (by simp), .inl ⟨ha, fun dx hx ne => ?_⟩⟩
      refine ⟨z, rfl, .ref a, rfl, a, C, rfl, T.oex, T.nof n2 (by simp), .inr ⟨dx, [(n, y)], upd_same, by rw [upd_ne ne, upd_same], by simp, ?_⟩⟩
      refine k dx _ hx ?_ upd_same fun b o nb e => ?_
      · rw [upd_ne (Ne.symm ne), upd_same]
      · rw [upd_ne (ne_of_none e hx), upd_ne nb, upd_ne (ne_of_none e hx)]
        exact e
end

/-! ### raise -/
def sRaise (cls : Str) (names : List Str) (fa : Rho → Res (List PyData)) : Rho → Out := fun ρ => (fa ρ).out ρ fun ds => if ds.length = names.length then .ex ⟨cls, some (names.zip ds).reverse⟩ ρ else .bad
theorem zip_fst {α β : Type} : ∀ (l : List α) (r : List β), r.length = l.length → (l.zip r).map (·.1) = l
  | [], _, _ => rfl
  | a :: l, b :: r, h => by
    rw [List.zip_cons_cons, List.map_cons, zip_fst l r (by simpa using h)]
theorem zip_snd {α β : Type} : ∀ (l : List α) (r : List β), r.length = l.length → (l.zip r).map (·.2) = r
  | [], [], _ => rfl
  | a :: l, b :: r, h => by
    rw [List.zip_cons_cons, List.map_cons, zip_snd l r (by simpa using h)]
theorem DpAll.rev {K : PySem.W.Frag} {H : Hp} : ∀ {vs : List V} {ds : List PyData}, DpAll K H vs ds → DpAll K H vs.reverse ds.reverse
  | _, _, .nil => .nil
  | _, _, .cons h t => by
    rw [List.reverse_cons, List.reverse_cons]
    exact DpAll.append (DpAll.rev t) (DpAll.one h)
section
variable {X : Cx} {cm : CM} {W : WX}
theorem psv_raise {x : Str} {C fI : Addr} {k : Nat} {fd : FuncData} {names : List Str} {e : Expr} {es : List Expr} {p pos pos2 : Pos} {fa : Rho → Res (List PyData)} (hc : X.calm = true) (T : ExcTxt X.K C fI names) (F : FnOk X.prog X.w X.K X.mg X.base L2.CX0 k fI fd ("self" :: names) (spInit C names)) (hr : Room (k + 1) X.A)
    (hb : Binds X.K fd ("self" :: names) []) (tk : Takes X W) (hg : Gl X x) (hm : X.mg x = some (.ref C)) (hC : cm.adr x = C) (hn : names.length ≤ 1000) (ha : PAV X cm W (e :: es) fa)
    (hdb : (x == ("__debug__" : Str)) = false := by decide) (he : starEach (e :: es) X.env = (false, eval e X.env) :: starEach es X.env := by rfl) (hpl : (backTo pos (starEach es X.env)).any (·.1) = false := by rfl) :
    PSV X cm W (.Raise (some (.Call (.Name x p) (e :: es) [] pos)) none pos2) (sRaise x names fa) := by
  obtain ⟨t, a1, a2⟩ := ha
  refine ⟨_, ps_raise hc tk (pmk_oex T.oex T.iC T.tI F hr hb .nil (fun _ _ _ _ _ _ _ h => h.elim) hg hm a1 hdb he hpl), fun B H0 ω ρ σ H D S q => ?_⟩
  refine OutOk.lift' a2 S q fun vs ds H1 s1 S1 r1 h => ?_
  by_cases hl : ds.length = names.length
  · simp only [if_pos hl] at h
    have hlv : vs.length = names.length := (DpAll.length r1).trans hl
    refine ⟨by omega, fun a ha => ⟨a, vs, by rw [List.append_nil], hlv, upd_same, fun d H2 hd h2a h2d keep => ⟨rfl, d, _, h2a, h2d, ?_, ?_⟩⟩⟩
    · by_cases z : d = a
      · subst z
        rw [upd_same] at hd; cases hd
      · rw [upd_ne z] at hd
        exact hd
    · have nda : d ≠ a := fun z => by
        subst z
        rw [upd_same] at hd; cases hd
      have hd1 : H1 d = none := by rw [upd_ne nda] at hd; exact hd
      have sm : Same H1 (upd (del H2 a) d (.xd (names.zip vs).reverse)) := fun b o hb => by
        rw [upd_ne (ne_of_none hb hd1), del_ne (ne_of_none hb ha)]
        refine keep b o (ne_of_none hb ha) ?_
        rw [upd_ne (ne_of_none hb ha)]
        exact hb
      refine h ω σ _ _ _ (S1.ext sm) ⟨by rw [hC], d, (names.zip vs).reverse, rfl, ?_, ?_, ?_⟩
      · rw [msk_of (S1.fresh hd1)]
        exact upd_same
      · rw [List.map_reverse, List.map_reverse, zip_fst _ _ hlv, zip_fst _ _ hl]
      · rw [List.map_reverse, List.map_reverse, zip_snd _ _ hlv, zip_snd _ _ hl]
        exact DpAll.rev (DpAll_same (msk_same sm) _ _ r1)
  · simp only [if_neg hl] at h
    exact h.elim
end

/-! ### try .. except -/
def tS (K : PySem.W.Frag) (cm : CM) (W : WX) (F : Rho → Out) : TS := fun D σ H => ∃ B H0 ω ρ, SR K cm.P B H0 ω ρ σ H ∧ OutOk K cm B H0 W D (F ρ)
theorem PSsV.pss {X : Cx} {cm : CM} {W : WX} {s : List Stmt} {F : Rho → Out} (h : PSsV X cm W s F) : PSs X s (tS X.K cm W F) := by
  obtain ⟨t, h1, h2⟩ := h
  exact ⟨fun pins s σ H D I ⟨B, H0, ω, ρ, S, q⟩ => h1.run pins s σ H D I (h2 B H0 ω ρ σ H D S q)⟩
def unset (i : Nat) : Out → Out
  | .nx ρ => .nx (ρ.set i .u)
  | .bk ρ => .bk (ρ.set i .u)
  | .ct ρ => .ct (ρ.set i .u)
  | .rt d => .rt d
  | _ => .bad
def noX : Out → Out
  | .ex _ _ => .bad
  | r => r
/-- try: F except c as n: Fs; sub: is the class, by its name, one that c names -/
def sTry (F : Rho → Out) (i : Nat) (sub : Str → Option Bool) (Fs : Exn → Rho → Out) : Rho → Out := fun ρ => match F ρ with
  | .ex e ρ' => match sub e.cls with
    | some true => if i < ρ'.length then unset i (Fs e (ρ'.set i .x)) else .bad
    | some false => .ex e ρ'
    | none => .bad
  | r => r
/-- .. without a name -/
def sTry0 (F : Rho → Out) (sub : Str → Option Bool) (Fs : Rho → Out) : Rho → Out := fun ρ => match F ρ with
  | .ex e ρ' => match sub e.cls with
    | some true => noX (Fs ρ')
    | some false => .ex e ρ'
    | none => .bad
  | r => r
/-- the exception that stands in slot i -/
def cmE (K : PySem.W.Frag) (cm : CM) (i : Nat) (a : Addr) (e : Exn) (cls : Value) (d : Option Addr) : CM := { cm with P := fun j => if j = i then some (.ref a, fun H => ExR K cm H e cls d) else cm.P j }
theorem exr_cm {K : PySem.W.Frag} {cm cf : CM} (h : cf.adr = cm.adr) {H : Hp} {e : Exn} {c : Value} {d : Option Addr} (q : ExR K cm H e c d) : ExR K cf H e c d := by
  unfold ExR at q ⊢
  rw [h]
  exact q
section
variable {K : PySem.W.Frag} {P P' : Nat → Option (V × (Hp → Prop))} {B : Addr → Prop} {H0 H H' : Hp} {ω : Nat → Addr} {ρ : Rho} {σ : St}
theorem SlotR.pch {p p' : Option (V × (Hp → Prop))} {M : Addr → Prop} {H : Hp} {a : Addr} {s : Sl} {v : Option V} (hs : s ≠ .x) (h : SlotR K p M H a s v) : SlotR K p' M H a s v := by
  cases s with
  | x => exact absurd rfl hs
  | u => exact h
  | d _ => exact h
  | o _ => exact h
/-- slot i holds what P' tells -/
theorem SR.setX (S : SR K P B H0 ω ρ σ H) {i : Nat} {w : V} {φ : Hp → Prop} (hP : ∀ j, j ≠ i → P' j = P j) (hi : P' i = some (w, φ)) (hφ : φ (msk (ownM B ω ρ) H)) (mono : ∀ H H' : Hp, Same H H' → φ H → φ H') : SR K P' B H0 ω (ρ.set i .x) (σ.set i (some w)) H := by
  have mm : ∀ a, ownM B ω (ρ.set i .x) a → ownM B ω ρ a := by
    rintro a (h | ⟨j, xs, h, e⟩)
    · exact .inl h
    · rcases set_get h with ⟨_, z⟩ | ⟨_, z⟩
      · cases z
      · exact .inr ⟨j, xs, z, e⟩
  refine ⟨by rw [List.length_set, List.length_set, S.len], fun j s v h1 h2 => ?_, fun j k xs ys h1 h2 => ?_, fun j xs h1 => ?_, S.same, S.base⟩
  · rcases set_get h1 with ⟨rfl, rfl⟩ | ⟨e, h1⟩
    · rcases set_get h2 with ⟨_, rfl⟩ | ⟨e, _⟩
      · exact ⟨w, φ, hi, rfl, mono _ _ (msk_sub mm) hφ, mono⟩
      · exact absurd rfl e
    · rcases set_get h2 with ⟨e', _⟩ | ⟨_, h2⟩
      · exact absurd e' e
      · rw [hP j (fun z => e z.symm)]
        exact (S.sl j s v h1 h2).sub mm
  · rcases set_get h1 with ⟨_, z⟩ | ⟨_, h1⟩
    · cases z
    · rcases set_get h2 with ⟨_, z⟩ | ⟨_, h2⟩
      · cases z
      · exact S.inj j k xs ys h1 h2
  · rcases set_get h1 with ⟨_, z⟩ | ⟨_, h1⟩
    · cases z
    · exact S.new j xs h1
/-- back to P: slot i is forgotten -/
theorem SR.unX (S : SR K P' B H0 ω ρ σ H) {i : Nat} (hP : ∀ j, j ≠ i → P' j = P j) : SR K P B H0 ω (ρ.set i .u) (σ.set i none) H := by
  have S1 := S.forget (v := none) i
  refine ⟨S1.len, fun j s v h1 h2 => ?_, S1.inj, S1.new, S1.same, S1.base⟩
  have q := S1.sl j s v h1 h2
  by_cases e : j = i
  · subst e
    rcases set_get h1 with ⟨_, rfl⟩ | ⟨e, _⟩
    · trivial
    · exact absurd rfl e
  · rw [← hP j e]
    exact q
end
section
variable {X : Cx} {cm : CM} {W : WX}
theorem psv_try_as {x n : Str} {c : Value} {i : Nat} {body suite : List Stmt} {b0 : Stmt} {np pos pos' : Pos} {F : Rho → Out} {Fs : Exn → Rho → Out} {sub : Str → Option Bool} (hs : X.stack = X.env :: X.outer) (hf : X.env.frame = some X.env.locals) (hN : X.N.Nodup) (hi : X.N[i]? = some n) (hln : X.env.kindOf n = some .local) (hc : Names X x c)
    (tk : Takes X W) (hsub : ∀ k b, sub k = some b → PySem.W.exmOne X.K (.ref (cm.adr k)) c = some b)
    (hb : ∀ (W' : WX) (pn : List (Addr × Obj)) (xe : Value → Shared → Prop), Takes (X.tr pn xe) W' → PassesOwn (model X.prog X.w) X.A X.env xe → PSsV (X.tr pn xe) cm W' body F)
    (hsu : ∀ (a : Addr) (oe : Obj) (e : Exn) (cls : Value) (d : Option Addr) (pn : List (Addr × Obj)), Zc cls d oe → (∃ vs, oe.data = .fields vs) → PSsV (X.suite a ((a, oe) :: pn)) (cmE X.K cm i a e cls d) W0 (b0 :: suite) (Fs e)) :
    PSV X cm W (.Try body [.ExceptHandler (some (.Name x np)) (some n) (b0 :: suite) pos'] [] [] pos) (sTry F i sub Fs) := by
  refine ⟨_, ps_try_as (i := i) (tb := fun W' => tS X.K cm W' F) (ts := fun a cls d => fun D σ H => ∃ e, tS X.K (cmE X.K cm i a e cls d) W0 (Fs e) D σ H) (Wout := W) hs hf hN hi hln hc tk (fun W' pn xe t1 t2 => (hb W' pn xe t1 t2).pss)
    (fun a oe cls d pn hz hv => ⟨fun pins s σ H D I ⟨e, q⟩ => ((hsu a oe e cls d pn hz hv).pss).run pins s σ H D I q⟩), fun B H0 ω ρ σ H D S q => ?_⟩
  refine ⟨B, H0, ω, ρ, S, ?_⟩
  unfold sTry at q
  cases e1 : F ρ with
  | nx ρ' => simp only [e1] at q; exact q
  | rt d => simp only [e1] at q; exact q
  | bk ρ' => simp only [e1] at q; exact q
  | ct ρ' => simp only [e1] at q; exact q
  | bad => simp only [e1] at q; exact q
  | ex e ρ' =>
    simp only [e1] at q
    intro ω' σ' H' cc dd S' r
    have ec : cc = .ref (cm.adr e.cls) := r.1
    cases e2 : sub e.cls with
    | none => simp only [e2] at q; exact q.elim
    | some b =>
      simp only [e2] at q
      refine ⟨b, by rw [ec]; exact hsub _ _ e2, fun hbt a ha => ?_, fun hbf => ?_⟩
      · subst hbt
        by_cases hil : i < ρ'.length
        · simp only [if_pos hil] at q
          refine ⟨e, B, H0, ω', ρ'.set i .x, ?_, ?_⟩
          · refine S'.setX (w := .ref a) (φ := fun H => ExR X.K cm H e cc dd) (fun j hj => ?_) ?_ r (fun H H' s h => h.same s)
            · show (if j = i then _ else cm.P j) = _
              rw [if_neg hj]
            · show (if i = i then _ else cm.P i) = _
              rw [if_pos rfl]
          · have un : ∀ {ω2 : Nat → Addr} {ρ2 : Rho} {σ2 : St} {H2 : Hp}, SR X.K (cmE X.K cm i a e cc dd).P B H0 ω2 ρ2 σ2 H2 → SR X.K cm.P B H0 ω2 (ρ2.set i .u) (σ2.set i none) H2 := fun S2 => S2.unX fun j hj => by
              show (if j = i then _ else cm.P j) = _
              rw [if_neg hj]
            cases e3 : Fs e (ρ'.set i .x) with
            | nx ρ2 => rw [e3] at q; exact fun ω2 σ2 H2 S2 => q _ _ _ (un S2)
            | bk ρ2 => rw [e3] at q; exact fun ω2 σ2 H2 S2 => q _ _ _ (un S2)
            | ct ρ2 => rw [e3] at q; exact fun ω2 σ2 H2 S2 => q _ _ _ (un S2)
            | rt d => rw [e3] at q; exact q
            | bad => rw [e3] at q; exact q
            | ex y ρ2 => rw [e3] at q; exact q.elim
        · simp only [if_neg hil] at q
          exact q.elim
      · subst hbf
        exact q _ _ _ _ _ S' r
theorem psv_try0 {x : Str} {c : Value} {body suite : List Stmt} {b0 : Stmt} {np pos pos' : Pos} {F : Rho → Out} {Fs : Rho → Out} {sub : Str → Option Bool} (hs : X.stack = X.env :: X.outer) (hf : X.env.frame = some X.env.locals) (hc : Names X x c)
    (tk : Takes X W) (hsub : ∀ k b, sub k = some b → PySem.W.exmOne X.K (.ref (cm.adr k)) c = some b)
    (hb : ∀ (W' : WX) (pn : List (Addr × Obj)) (xe : Value → Shared → Prop), Takes (X.tr pn xe) W' → PassesOwn (model X.prog X.w) X.A X.env xe → PSsV (X.tr pn xe) cm W' body F)
    (hsu : ∀ (a : Addr) (oe : Obj) (cls : Value) (d : Option Addr) (pn : List (Addr × Obj)), Zc cls d oe → (∃ vs, oe.data = .fields vs) → PSsV (X.suite a ((a, oe) :: pn)) cm W0 (b0 :: suite) Fs) :
    PSV X cm W (.Try body [.ExceptHandler (some (.Name x np)) none (b0 :: suite) pos'] [] [] pos) (sTry0 F sub Fs) := by
  refine ⟨_, ps_try_only (tb := fun W' => tS X.K cm W' F) (ts := fun a cls d => tS X.K cm W0 Fs) (Wout := W) hs hf hc tk (fun W' pn xe t1 t2 => (hb W' pn xe t1 t2).pss)
    (fun a oe cls d pn hz hv => (hsu a oe cls d pn hz hv).pss), fun B H0 ω ρ σ H D S q => ?_⟩
  refine ⟨B, H0, ω, ρ, S, ?_⟩
  unfold sTry0 at q
  cases e1 : F ρ with
  | nx ρ' => simp only [e1] at q; exact q
  | rt d => simp only [e1] at q; exact q
  | bk ρ' => simp only [e1] at q; exact q
  | ct ρ' => simp only [e1] at q; exact q
  | bad => simp only [e1] at q; exact q
  | ex e ρ' =>
    simp only [e1] at q
    intro ω' σ' H' cc dd S' r
    have ec : cc = .ref (cm.adr e.cls) := r.1
    cases e2 : sub e.cls with
    | none => simp only [e2] at q; exact q.elim
    | some b =>
      simp only [e2] at q
      refine ⟨b, by rw [ec]; exact hsub _ _ e2, fun hbt a ha => ?_, fun hbf => ?_⟩
      · subst hbt
        simp only at q
        refine ⟨B, H0, ω', ρ', S', ?_⟩
        cases e3 : Fs ρ' with
        | ex y ρ2 => rw [e3] at q; exact q.elim
        | nx ρ2 => rw [e3] at q; exact q
        | bk ρ2 => rw [e3] at q; exact q
        | ct ρ2 => rw [e3] at q; exact q
        | rt d => rw [e3] at q; exact q
        | bad => rw [e3] at q; exact q
      · subst hbf
        exact q _ _ _ _ _ S' r
/-! ### an error's field, and its class, in the suite -/
def eXf (e : Exn) (i : Nat) (n : Str) : Rho → Res PyData := fun ρ => match ρ[i]? with
  | some .x => match e.fs with
    | some fs => match fs.lookup n with
      | some v => .ok v
      | none => .bad
    | none => .bad
  | _ => .bad
theorem lookup_two {K : PySem.W.Frag} {H : Hp} (n : Str) : ∀ {gs : List (Str × V)} {fs : List (Str × PyData)}, gs.map (·.1) = fs.map (·.1) → DpAll K H (gs.map (·.2)) (fs.map (·.2)) → ∀ {d : PyData}, fs.lookup n = some d → ∃ v, gs.lookup n = some v ∧ Dp K H v d
  | [], [], _, _, d, e => by cases e
  | [], _ :: _, h, _, _, _ => by cases h
  | _ :: _, [], h, _, _, _ => by cases h
  | (a, v) :: gs, (b, w) :: fs, h1, h2, d, e => by
    rw [List.map_cons, List.map_cons] at h1 h2
    have hab : a = b := (List.cons.inj h1).1
    subst hab
    cases h2 with
    | cons g1 g2 =>
      by_cases q : n = a
      · subst q
        simp only [List.lookup, beq_self_eq_true] at e ⊢
        cases e
        exact ⟨v, rfl, g1⟩
      · have qb : (n == a) = false := by simpa using q
        simp only [List.lookup, qb] at e ⊢
        exact lookup_two n (List.cons.inj h1).2 g2 e
theorem pev_xf {a C : Addr} {oe : Obj} {cls : Value} {d : Option Addr} {pn : List (Addr × Obj)} {i : Nat} {x n : Str} {e : Exn} {xp pos : Pos} (T : XfC X.K C) (hC : cm.adr e.cls = C) (hno : PySem.W.findIn X.K (.ref C) n = some none) (hz : Zc cls d oe) (hf : ∃ vs, oe.data = .fields vs)
    (hv : PE (X.suite a ((a, oe) :: pn)) (.Name x xp) (tVar i)) (hb : attributeBase (.Name x xp) n X.env (eval (.Name x xp) X.env) = eval (.Name x xp) X.env := by rfl) :
    PEV (X.suite a ((a, oe) :: pn)) (cmE X.K cm i a e cls d) W0 .v (.Attribute (.Name x xp) n pos) (eXf e i n) := by
  refine ⟨_, pe_xf T hno hz hf hv hb, fun B H0 ω ρ σ H Q S q => ?_⟩
  unfold eXf at q
  cases e1 : ρ[i]? with
  | none => rw [e1] at q; exact q.elim
  | some s =>
    rw [e1] at q
    cases s with
    | u => exact q.elim
    | d _ => exact q.elim
    | o _ => exact q.elim
    | x =>
      obtain ⟨v, hv, w, φ, hp, rfl, hφ, mono⟩ := S.at e1
      have hp : (if i = i then some (V.ref a, fun H => ExR X.K cm H e cls d) else cm.P i) = some (w, φ) := hp
      rw [if_pos rfl] at hp
      cases hp
      obtain ⟨h1, h2⟩ := hφ
      cases e2 : e.fs with
      | none => simp only [e2] at q; exact q.elim
      | some fs =>
        simp only [e2] at q
        rw [e2] at h2
        obtain ⟨dd, gs, g1, g2, g3, g4⟩ := h2
        cases e3 : fs.lookup n with
        | none => simp only [e3] at q; exact q.elim
        | some y =>
          simp only [e3] at q
          obtain ⟨z, z1, z2⟩ := lookup_two n g3 g4 e3
          refine ⟨.ref a, hv, rfl, by rw [h1, hC], dd, gs, z, g1, (msk_some g2).2, z1, q z H (Same.refl H) z2⟩
end
end DL
end
section
set_option Elab.async false
set_option linter.all false
set_option maxRecDepth 100000
set_option maxHeartbeats 4000000
/-! DL9: isinstance of a caught error that has fields; of plain data. -/
namespace DL
open PySem PySem.Spec PyProof.Rows L2
section
open PySem.W PySem.Calls
variable {Pg : Program} {wd : World} {Ar : Around} {E : Value → Shared → Prop} {st : Shared} {K : Frag} {x D : Addr} {ox : Obj} {od : Option Obj}
/-- e.__class__ of an own exception, whatever its dict -/
theorem ask_class {Q : Option Value → Shared → Prop} (T : ExcC K D) (hK : K.In st.heap) (J : PySem.W.InstAt st.heap x ox D od) (done : Q (some (.ref D)) { st with toks := st.toks + 1 }) :
    wpAny (model Pg wd) Ar (getAttr? (.ref x) "__class__") Q E st := by
  have found : findObj K D od "__class__" = some (.bind (.builtin "getset_descriptor.__get__") (.builtin "object.__class__")) := by
    obtain ⟨cd, hcd, _⟩ := any_some T.hd
    simp [findObj, hcd, T.ha, T.hn, T.ht]
  obtain ⟨hh, gg, dd, tt, oo⟩ := st
  have lT := J.type (M := model Pg wd)
  have lF := looks_find (M := model Pg wd) hK J found
  have isExc : Looks (model Pg wd) hh (isInstance (.ref x) (.type "BaseException")) true := lT.andThen (looks_subIn hK T.hs)
  have other : (Value.builtin "BaseException.__getattribute__" == Value.builtin "object.__getattribute__") = false := by decide +kernel
  have off1 : (onTheHeap (Value.ref D) && Value.builtin "BaseException.__getattribute__" == Value.builtin "object.__getattribute__") = false := by rw [other]; rfl
  have off2 : (false && onTheHeap (Value.builtin "BaseException.__getattribute__")) = false := rfl
  unfold getAttr? getAttrBy? getAttrBy
  refine wpAny_bind (wpAny_mkText (wpAny_bind (wpAny_attempt (wpAny_holding (wpAny_bind (lT.at (wpAny_bind ((looks_findIn (M := model Pg wd) hK T.hg).at ?_))))))))
  show wpAny _ _ (ite ((onTheHeap (Value.ref D) && Value.builtin "BaseException.__getattribute__" == Value.builtin "object.__getattribute__") = true) _ _) _ _ _
  rw [off1, if_neg Bool.false_ne_true]
  unfold getAttrByItsOwn hookBefore
  refine wpAny_bind ?_
  rw [if_pos (show onTheHeap (Value.ref D) = true from rfl)]
  refine (looks_findIn (M := model Pg wd) hK T.hk).at (wpAny_bind (wpAny_attempt (wpAny_holding ?_)))
  unfold callGetattribute
  rw [off2, if_neg Bool.false_ne_true]
  unfold boundAndCalled
  rw [PySem.F.excAttr_ValueError.ga.bind (.ref x)]
  refine wpAny_bind (wpAny_pure ?_)
  show wpAny _ _ (call (.builtin "BaseException.__getattribute__") [Value.ref x, Value.str "__class__" tt]) _ _ _
  refine wpAny_call (codeAny_call_builtin PySem.F.excAttr_ValueError.ga.plain PySem.F.entry_bexc_ga (@check_slot (model Pg wd) _ _ ⟨hh, gg, dd, tt + 1, oo⟩ "BaseException.__getattribute__" "BaseException" "__getattribute__" (.ref x) [.str "__class__" tt] [] _ (by decide +kernel) (by decide +kernel) isExc (PySem.F.args_bexc_ga (.ref x) (.str "__class__" tt)) ?_))
  unfold Builtin.«object.__getattribute__»
  refine wpAny_bind (wpAny_of_eq (a := ((Value.ref x : Value), [Value.str "__class__" tt])) (by first | rfl | (simp only [slotArgs]; rfl)) ?_)
  refine wpAny_bind (wpAny_pure (wpAny_bind (lT.at (wpAny_bind (lF.at ?_)))))
  show wpAny _ _ (holding [Value.builtin "object.__class__"] (call (.builtin "getset_descriptor.__get__") [Value.builtin "object.__class__", Value.ref x, Value.ref D]) >>= ret) _ _ _
  refine wpAny_bind (wpAny_holding (wpAny_call (class_get (s := ⟨hh, gg, dd, tt + 1, oo⟩) (ox := ox) (od := od) hK J T.hm (wpAny_pure ?_))))
  show wpAny _ _ (handedOut (.ref D)) _ _ _
  rw [handedOut_of (v := .ref D) rfl]
  first
    | exact wpAny_pure (wpAny_pure done)
    | exact wpAny_pure done
    | exact wpAny_pure (wpAny_bind (wpAny_pure (wpAny_pure done)))
theorem kit_err (T : ExcC K D) : KitX K (.ref x) (.ref D) (fun h => InstAt h x ox D od) where
  ty := fun _ _ _ J => J.type
  it := fun _ _ hK _ => by
    obtain ⟨cd, hcd, _⟩ := any_some T.hd
    unfold clsIn at hcd
    split at hcd
    · rename_i _ _ _ _ ho
      intro _ _ _ _ kk q
      unfold isType loadHead
      exact wpAny_bind (wpAny_loadPart (kk _ _ (hK _ _ ho)) (wpAny_pure q))
    · cases hcd
  ne := fun h tp _ _ _ _ hK htp => by
    obtain ⟨cd, hcd, _⟩ := any_some T.hd
    refine Bool.eq_false_iff.mpr fun q => ?_
    have same : D = tp := Value.ref.inj (beq_iff_eq.mp q)
    subst same
    unfold clsIn at hcd
    split at hcd
    · rename_i _ _ _ _ ho
      have z := (hK _ _ ho).symm.trans htp
      cases z
    · cases hcd
  ca := fun hK J q => ask_class T hK J q
end
/-- isinstance(e, c), e the exception that the suite holds; c a class, or a new tuple of classes -/
def rIsX (K : PySem.W.Frag) (D a : Addr) (d : Option Addr) : List V → Hp → VK → Prop := fun xs H Q => (∀ dd, d = some dd → ∃ gs, H dd = some (.xd gs)) ∧ ((∃ (c : V) (cv : Value) (b : Bool), xs = [.ref a, c] ∧ ClsV c cv ∧ PySem.W.kitOne K (.ref D) cv = some b ∧ Q (.bl b) H) ∨
  ∃ (tp : Addr) (cs : List V) (us : List Value) (b : Bool), xs = [.ref a, .ref tp] ∧ H tp = some (.tup cs) ∧ Paired ClsV cs us ∧ PySem.W.kitAny K (.ref D) us = some b ∧ Q (.bl b) H)
theorem call_isX {X : Cx} {a D : Addr} {oe : Obj} {d : Option Addr} {pn : List (Addr × Obj)} (T : ExcC X.K D) (hz : Zc (.ref D) d oe) (hf : ∃ vs, oe.data = .fields vs) : CallR (X.suite a ((a, oe) :: pn)) (.builtin "isinstance") (rIsX X.K D a d) := by
  intro pins s σ H xs us Q I r h
  obtain ⟨hd, h⟩ := h
  have J : ∃ od, PySem.W.InstAt s.heap a oe D od := by
    obtain ⟨hget, _⟩ := I.pin (a, oe) (List.mem_append.mpr (.inl List.mem_cons_self))
    obtain ⟨vs, hv⟩ := hf
    obtain ⟨oc, oo, oda, osl⟩ := oe
    obtain ⟨h1, h2⟩ := hz
    dsimp only at h1 h2 hv
    subst h1 h2 hv
    cases oo with
    | none => exact ⟨none, hget, rfl, rfl, trivial⟩
    | some dd =>
      obtain ⟨gs, hg⟩ := hd dd rfl
      obtain ⟨mA, ⟨o, _, _, ho, _⟩, _⟩ := (show ObjOk X.prog X.w H s.heap dd (.xd gs) from I.hok dd _ hg)
      exact ⟨some o, hget, rfl, rfl, ho⟩
  obtain ⟨od, J⟩ := J
  rcases h with ⟨c, cv, b, rfl, hcv, e, q⟩ | ⟨tp, cs, ws, b, rfl, hT, hp, e, q⟩
  · obtain ⟨u1, u2, rfl, r1, r2⟩ := vals2 r
    cases (show u1 = Value.ref a from r1)
    have ec := hcv.eq r2
    subst ec
    exact PySem.W.kia_one (kit_err T) I.kIn J e (fun z => nomatch z) fun tk => ⟨.bl b, H, I.tok tk, rfl, q⟩
  · obtain ⟨u1, u2, rfl, r1, r2⟩ := vals2 r
    cases (show u1 = Value.ref a from r1)
    cases (show u2 = Value.ref tp from r2)
    obtain ⟨_, its, rv, o, g1, g2, n, g3⟩ := (show ObjOk X.prog X.w H s.heap tp (.tup cs) from I.hok tp _ hT)
    have e3 := ClsV.all hp rv
    subst e3
    obtain ⟨oc, oo, dt, sl⟩ := o
    simp only at g2 g3
    subst g2 g3
    exact PySem.W.kia_tup (kit_err T) I.kIn J g1 e (fun z => nomatch z) fun tk => ⟨.bl b, H, I.tok tk, rfl, q⟩
def eIsX (e : Exn) (i : Nat) (isub : Str → Option Bool) : Rho → Res PyData := fun ρ => match ρ[i]? with
  | some .x => match isub e.cls with
    | some b => .ok (.bool b)
    | none => .bad
  | _ => .bad
/-- an argument list of one value and one that is told -/
theorem pev_isX {X : Cx} {cm : CM} {a : Addr} {oe : Obj} {cls : Value} {d : Option Addr} {pn : List (Addr × Obj)} {i : Nat} {x : Str} {e : Exn} {ce : Expr} {tc : TE} {isub : Str → Option Bool} {xp p pos : Pos} (hz : Zc cls d oe) (hf : ∃ vs, oe.data = .fields vs)
    (T : ∀ k b, isub k = some b → ExcC X.K (cm.adr k)) (hcls : cls = .ref (cm.adr e.cls))
    (hc : ∀ k b, isub k = some b → ∀ (σ : St) (H : Hp) (R : V → Hp → Prop), (∀ c H', Same H H' → ((∃ cv, ClsV c cv ∧ PySem.W.kitOne X.K (.ref (cm.adr k)) cv = some b) ∨ ∃ tp cs us, c = .ref tp ∧ H' tp = some (.tup cs) ∧ Paired ClsV cs us ∧ PySem.W.kitAny X.K (.ref (cm.adr k)) us = some b) → R c H') → tc σ H R)
    (hv : PE (X.suite a ((a, oe) :: pn)) (.Name x xp) (tVar i)) (hce : PE (X.suite a ((a, oe) :: pn)) ce tc) (hg : Gl X "isinstance") (hm : X.mg "isinstance" = none)
    (hs1 : starEach [.Name x xp, ce] X.env = (false, eval (.Name x xp) X.env) :: starEach [ce] X.env := by rfl) (hs2 : starEach [ce] X.env = (false, eval ce X.env) :: starEach [] X.env := by rfl) (hpl : (backTo pos (starEach [ce] X.env)).any (·.1) = false := by rfl) :
    PEV (X.suite a ((a, oe) :: pn)) (cmE X.K cm i a e cls d) W0 .v (.Call (.Name "isinstance" p) [.Name x xp, ce] [] pos) (eIsX e i isub) := by
  subst hcls
  cases q0 : isub e.cls with
  | none =>
    have ef : eIsX e i isub = fun _ => .bad := by
      funext ρ
      unfold eIsX
      simp only [q0]
      split <;> rfl
    rw [ef]
    exact ⟨fun _ _ _ => False, ⟨fun _ _ _ _ _ _ h => h.elim⟩, fun _ _ _ _ _ _ _ _ q => q⟩
  | some b =>
    refine ⟨_, pe_callB (call_isX (T _ _ q0) hz hf) hg hm (by rfl) (pa_cons hv (pa_cons hce pa_nil hs2) hs1) (by decide) (by decide) hs1 hpl, fun B H0 ω ρ σ H Q S q => ?_⟩
    unfold eIsX at q
    cases e1 : ρ[i]? with
    | none => rw [e1] at q; exact q.elim
    | some s =>
      rw [e1] at q
      cases s with
      | u => exact q.elim
      | d _ => exact q.elim
      | o _ => exact q.elim
      | x =>
        simp only [q0] at q
        obtain ⟨v, hv, w, φ, hp, rfl, hφ, mono⟩ := S.at e1
        have hp : (if i = i then some (V.ref a, fun H => ExR X.K cm H e (.ref (cm.adr e.cls)) d) else cm.P i) = some (w, φ) := hp
        rw [if_pos rfl] at hp
        cases hp
        refine ⟨.ref a, hv, hc _ _ q0 σ H _ fun c H' s' hh => ⟨fun dd hd => ?_, ?_⟩⟩
        · obtain ⟨_, h2⟩ := hφ
          cases e2 : e.fs with
          | none =>
            rw [e2] at h2
            rw [h2] at hd
            cases hd
          | some fs =>
            rw [e2] at h2
            obtain ⟨da, gs, g1, g2, _⟩ := h2
            rw [g1] at hd
            cases hd
            exact ⟨gs, s' _ _ (msk_some g2).2⟩
        · rcases hh with ⟨cv, k1, k2⟩ | ⟨tp, cs, us, rfl, k1, k2, k3⟩
          · exact .inl ⟨c, cv, b, rfl, k1, k2, q _ H' s' (.bl b)⟩
          · exact .inr ⟨tp, cs, us, b, rfl, k1, k2, k3, q _ H' s' (.bl b)⟩
/-- a class as it is named -/
theorem cls_one {K : PySem.W.Frag} {D : Addr} {c : V} {cv : Value} {b : Bool} (hc : ClsV c cv) (h : PySem.W.kitOne K (.ref D) cv = some b) : ∀ (σ : St) (H : Hp) (R : V → Hp → Prop), (∀ c H', Same H H' → ((∃ cv, ClsV c cv ∧ PySem.W.kitOne K (.ref D) cv = some b) ∨ ∃ tp cs us, c = .ref tp ∧ H' tp = some (.tup cs) ∧ Paired ClsV cs us ∧ PySem.W.kitAny K (.ref D) us = some b) → R c H') → tC c σ H R :=
  fun σ H R q => q c H (Same.refl H) (.inl ⟨cv, hc, h⟩)
/-- a new tuple of classes -/
theorem cls_tup {K : PySem.W.Frag} {D : Addr} {cs : List V} {us : List Value} {b : Bool} {ta : TA} (hl : cs.length ≤ sizeLine) (ht : ∀ (σ : St) (H : Hp) (R : List V → Hp → Prop), R cs H → ta σ H R) (hc : Paired ClsV cs us) (h : PySem.W.kitAny K (.ref D) us = some b) :
    ∀ (σ : St) (H : Hp) (R : V → Hp → Prop), (∀ c H', Same H H' → ((∃ cv, ClsV c cv ∧ PySem.W.kitOne K (.ref D) cv = some b) ∨ ∃ tp cs us, c = .ref tp ∧ H' tp = some (.tup cs) ∧ Paired ClsV cs us ∧ PySem.W.kitAny K (.ref D) us = some b) → R c H') → tTup ta σ H R :=
  fun σ H R q => ht σ H _ ⟨hl, fun p hp => q _ _ (same_new hp) (.inr ⟨p, cs, us, rfl, upd_same, hc, h⟩)⟩
/-! ### isinstance of plain data, a built-in type -/
def tyName : PyData → String
  | .none => "NoneType"
  | .bool _ => "bool"
  | .int _ => "int"
  | .str _ => "str"
  | .list _ => "list"
  | .tuple _ => "tuple"
  | .dict _ => "dict"
theorem ty_of {K : PySem.W.Frag} {H : Hp} {v : V} {d : PyData} (h : Dp K H v d) : TyX K H v (.type (tyName d)) := by
  cases h with
  | non => exact .base .non
  | bl b => exact .base (.bl b)
  | int i => exact .base (.int i)
  | str x => exact .base (.str x)
  | lst hs _ =>
    rcases hs with (hs | ⟨o, hs⟩) | ⟨o, its, n, hk, hc, _⟩
    · exact .base (.lst hs)
    · exact .base (.frz hs)
    · exact .kList hk hc
  | tup hs _ =>
    rcases hs with (hs | ⟨o, hs⟩) | ⟨o, its, n, hk, hc, _⟩
    · exact .base (.tup hs)
    · exact .fTuple hs
    · exact .kTuple hk hc
def dIsT (T : String) (d : PyData) : Option PyData := (kitB (tyName d) T).map .bool
theorem pev_isT {X : Cx} {cm : CM} {W : WX} {T : String} {e ce : Expr} {f : Rho → Res PyData} {p pos : Pos} (h : PEV X cm W .p e f) (hce : PE X ce (tC (.ty T))) (hg : Gl X "isinstance") (hm : X.mg "isinstance" = none)
    (hs1 : starEach [e, ce] X.env = (false, eval e X.env) :: starEach [ce] X.env := by rfl) (hs2 : starEach [ce] X.env = (false, eval ce X.env) :: starEach [] X.env := by rfl) (hpl : (backTo pos (starEach [ce] X.env)).any (·.1) = false := by rfl) :
    PEV X cm W .v (.Call (.Name "isinstance" p) [e, ce] [] pos) (o1 (dIsT T) f) := by
  obtain ⟨t, a1, a2⟩ := h
  refine ⟨_, pe_callB call_isi hg hm (by rfl) (pa_cons a1 (pa_cons hce pa_nil hs2) hs1) (by decide) (by decide) hs1 hpl, fun B H0 ω ρ σ H Q S q => ?_⟩
  refine a2.go S q fun v d H1 s1 S1 r1 h1 => ?_
  unfold dIsT at h1
  cases e1 : kitB (tyName d) T with
  | none => simp only [e1] at h1; exact h1.elim
  | some b =>
    simp only [e1] at h1
    exact ⟨v, .ty T, .type (tyName d), .type T, b, rfl, .ty T, ty_of r1.dp, kit_ty e1, h1 _ H1 (Same.refl _) (.bl b)⟩
end DL
end
section
set_option Elab.async false
set_option linter.all false
set_option maxRecDepth 100000
set_option maxHeartbeats 4000000
/-! DL10: repr, list * int, a global constant, more. -/
namespace DL
open PySem PySem.Spec PyProof.Rows L2
/-! ### repr -/
def dReprOk (d : PyData) : Bool := d.showable && (!d.hasDict && (decide (d.depth ≤ 100) && decide (d.shown.length ≤ sizeLine)))
def dRepr : List PyData → Option PyData
  | [.int i] => gd (decide (i.natAbs.log2 < 1920)) (.str (toString i))
  | [.tuple xs] => gd (dReprOk (.tuple xs)) (.str (PyData.shown (.tuple xs)))
  | [.list xs] => gd (dReprOk (.list xs)) (.str (PyData.shown (.list xs)))
  | _ => none
def rReprD (K : PySem.W.Frag) : List V → Hp → VK → Prop := fun xs H Q => (∃ i, xs = [.int i] ∧ i.natAbs.log2 < 1920 ∧ Q (.str (toString i)) H) ∨ ∃ a d, xs = [.ref a] ∧ Dp K H (.ref a) d ∧ dReprOk d = true ∧ Q (.str d.shown) H
theorem call_reprU {X : Cx} (hG : X.A.guards = some []) (hu : X.A.units + 200 < cLine) : CallR X (.builtin "repr") (rReprD X.K) := by
  refine CallR.or SkE.call_repr_int ?_
  intro pins s σ H xs us Q I r h
  obtain ⟨a, d, rfl, hd, hk, q⟩ := h
  obtain ⟨u, rfl, ru⟩ := vals1 r
  cases (show u = Value.ref a from ru)
  obtain ⟨as, R⟩ := Dp.reads I d _ _ hd rfl
  unfold dReprOk at hk
  simp only [Bool.and_eq_true, decide_eq_true_eq, Bool.not_eq_true'] at hk
  obtain ⟨h1, h2, h3, h4⟩ := hk
  exact repr_of_reads' R h1 (fun z => by rw [h2] at z; cases z) hG (by omega) (fun _ _ e => e) (fun h' u tk k => ⟨.str _, H, I.kept (t' := tk) k, ⟨u, rfl⟩, q⟩) h4
theorem rcl_repr {K : PySem.W.Frag} {cm : CM} : RCl K cm .v (rReprD K) (fun as => .of (dRepr as)) := by
  intro M H xs as Q hM hr h
  obtain ⟨e, he, k⟩ := post_some h
  unfold dRepr at he
  split at he
  · obtain ⟨c, rfl⟩ := gd_some he
    obtain ⟨x, rfl, r⟩ := hr.one
    exact .inl ⟨_, by rw [r.intP], of_decide_eq_true c, k _ _ (Same.refl H) (.str _)⟩
  · obtain ⟨c, rfl⟩ := gd_some he
    obtain ⟨x, rfl, r⟩ := hr.one
    obtain ⟨p, vs, rfl, s1, d1⟩ := Rm.tup r
    exact .inr ⟨p, _, rfl, r.dp, c, k _ _ (Same.refl H) (.str _)⟩
  · obtain ⟨c, rfl⟩ := gd_some he
    obtain ⟨x, rfl, r⟩ := hr.one
    obtain ⟨p, vs, rfl, s1, d1⟩ := Rm.lst r
    exact .inr ⟨p, _, rfl, r.dp, c, k _ _ (Same.refl H) (.str _)⟩
  · cases he
/-! ### list * int: the list is new -/
def dRepL : PyData → PyData → Option PyData
  | .list xs, .int k => gd (decide (-(2 ^ 63) ≤ k ∧ k < 2 ^ 63 ∧ xs.length * k.toNat ≤ sizeLine)) (.list (List.replicate k.toNat xs).flatten)
  | _, _ => none
theorem DpAll.repl {K : PySem.W.Frag} {H : Hp} {vs : List V} {ds : List PyData} (h : DpAll K H vs ds) : ∀ n : Nat, DpAll K H (List.replicate n vs).flatten (List.replicate n ds).flatten
  | 0 => .nil
  | n + 1 => by
    rw [List.replicate_succ, List.replicate_succ, List.flatten_cons, List.flatten_cons]
    exact DpAll.append h (DpAll.repl h n)
section
variable {X : Cx} {cm : CM} {W : WX}
theorem pef_rep {a b : Expr} {pos : Pos} {fa fb : Rho → Res PyData} (ha : PEV X cm W .f a fa) (hb : PEV X cm W .p b fb) : PEV X cm W .f (.BinOp a .Mult b pos) (o2 dRepL fa fb) := by
  obtain ⟨_, a1, a2⟩ := ha
  obtain ⟨_, b1, b2⟩ := hb
  refine ⟨_, pe_op op_rep a1 b1, fun B H0 ω ρ σ H Q S h => ?_⟩
  refine a2.go S h fun x a H1 s1 S1 r1 h1 => ?_
  refine b2.go S1 h1 fun y b H2 s2 S2 r2 h2 => ?_
  obtain ⟨e, he, k⟩ := post_some (m := .f) (H := H2) (noW (fun _ => of_nx) (Post.up (R' := Rm X.K .f (ownM B ω ρ) H2) (Same.refl _) (fun _ _ _ _ z => z.anti (s1.trans s2)) h2))
  obtain ⟨p, ys, xs, rfl, rfl, q1, q2, q3⟩ := r1
  cases b with
  | int j =>
    obtain ⟨c, rfl⟩ := gd_some he
    obtain ⟨c1, c2, c3⟩ := of_decide_eq_true c
    refine ⟨p, j, ys, rfl, r2.intP, s2 _ _ q2, c1, c2, by rw [DpAll.length q3]; exact c3, fun z hz => k _ _ (same_new hz) ?_⟩
    exact new_list (Same.refl H2) hz (DpAll_same (msk_sub fun b z => .inl z) _ _ (DpAll.repl (DpAll_same (msk_same s2) _ _ q3) _))
  | _ => cases he
end
end DL
end
section
set_option Elab.async false
set_option linter.all false
set_option maxRecDepth 100000
set_option maxHeartbeats 4000000
/-! list(reversed(a list)). -/
namespace DLR
open PySem PySem.Calls PyProof.Rows PySem.W RT
section
variable {prog : Program} {w : World} {A : Around} {E : Value → Shared → Prop} {s : Shared}
theorem call_list_rev {it l : Addr} {items : Array Value} {Q : Value → Shared → Prop} (hh : A.handled = none) (hit : s.heap.IsRevIter it l ((items.size : Int) - 1)) (hl : s.heap.IsList l items) (hne : l ≠ it) (hn : items.size ≤ sizeLine)
    (hQ : ∀ (h' : Heap) (tk : Nat) (acc : Array Value) (c : Nat), (∀ b o, b ≠ it → s.heap.get? b = some o → h'.get? b = some o) → ItemsOf (fun i v => items[items.size - 1 - i]? = some v) acc items.size →
      h'.get? s.heap.objs.size = some { cls := .type "list", dict := none, data := .seq acc c, slots := #[] } → Q (.ref s.heap.objs.size) { s with heap := h', toks := tk }) :
    wpAny (model prog w) A (call (.type "list") [.ref it]) Q E s := by
  have W := (Walks.listRev (prog := prog) (w := w) (A := A.in1.in1) hh it l hne items).toS
  obtain ⟨oi, hoi, _⟩ := id hit
  obtain ⟨ol, hol, _⟩ := id hl
  have hSi : s.heap.objs.size ≠ it := Nat.ne_of_gt (Heap.lt_size hoi)
  have hSl : s.heap.objs.size ≠ l := Nat.ne_of_gt (Heap.lt_size hol)
  have hSf : s.heap.objs.size ∉ [it, l] := by simp only [List.mem_cons, List.not_mem_nil, or_false, not_or]; exact ⟨hSi, hSl⟩
  refine callType_codes (Q₁ := fun obj s₁ => obj = .ref s.heap.objs.size ∧ s₁ = { s with heap := s.heap.push { cls := .type "list", data := .seq #[] } }) F.called_list (F.typeCall_list_1 _) F.entry_list_init
    (code_list_new _ ⟨rfl, rfl⟩) fun obj s₁ h₁ => ?_
  obtain ⟨rfl, rfl⟩ := h₁
  have hS : (s.heap.push { cls := .type "list", data := .seq #[] }).get? s.heap.objs.size = some { cls := .type "list", data := .seq #[] } := Heap.get?_push_size _ rfl
  refine ⟨⟨_, hS, rfl⟩, F.args_list_init_2 _ _, ?_⟩
  show wpAny _ A.in1.in1 (do let old ← Builtin.List.listItems (.ref s.heap.objs.size); Builtin.List.listUpdate (.ref s.heap.objs.size) (fun _ => #[]); letGo old.toList.reverse; Builtin.List.listExtendWith (.ref s.heap.objs.size) (.ref it) .none) _ _ _
  refine wpAny_bind ?_
  unfold Builtin.List.listItems
  refine wpAny_bind (wpAny_seqItems hS rfl (wpAny_pure ?_))
  show wpAny _ A.in1.in1 (updateSeq s.heap.objs.size (fun _ => #[]) >>= fun _ => letGo (#[] : Array Value).toList.reverse >>= fun _ => Builtin.List.listExtendWith (.ref s.heap.objs.size) (.ref it) .none) _ _ _
  refine wpAny_bind (wpAny_updateSeq hS rfl ?_)
  have hS₂ := Heap.get?_update_self (Obj.mapSeq (fun _ => (#[] : Array Value))) hS rfl
  have oth : ∀ b o, b ≠ s.heap.objs.size → (s.heap.push { cls := .type "list", data := .seq #[] }).get? b = some o → ((s.heap.push { cls := .type "list", data := .seq #[] }).update s.heap.objs.size (Obj.mapSeq (fun _ => (#[] : Array Value)))).get? b = some o :=
    fun b o hb e => (Heap.get?_update_other _ _ (Ne.symm hb)).trans e
  refine wpAny_bind (wpAny_letGo ?_)
  generalize hh1 : (s.heap.push { cls := .type "list", data := .seq #[] }).update s.heap.objs.size (Obj.mapSeq (fun _ => (#[] : Array Value))) = h1 at hS₂ oth
  have old : ∀ b o, s.heap.get? b = some o → h1.get? b = some o := fun b o e => oth b o (Nat.ne_of_lt (Heap.lt_size e)) (Heap.get?_push_of_some _ e)
  have hit1 : h1.IsRevIter it l ((items.size : Int) - 1) := hit.at fun o e => old _ _ e
  have hl1 : h1.IsList l items := let ⟨o, e1, e2⟩ := hl; ⟨o, old _ _ e1, e2⟩
  have hT : ({ s with heap := h1 } : Shared).TypeIs (.ref it) "list_reverseiterator" := Heap.IsRevIter.typeIs (s := { s with heap := h1 }) hit1
  have h1' : Builtin.List.listSameRef (.ref s.heap.objs.size) (.ref it) = false := by simp [Builtin.List.listSameRef, hSi]
  unfold Builtin.List.listExtendWith
  refine wpAny_bind (wpAny_typeOf hT ?_)
  rw [if_neg (by rw [h1']; decide)]
  refine wpAny_bind (wpAny_pyIter_revIter (s := { s with heap := h1 }) hit1 ?_)
  refine wpAny_bind (wpAny_holding ?_)
  unfold Builtin.List.listLengthHint
  refine wpAny_bind (wpAny_specialOf hT nolen_lri ?_)
  show wpAny _ A.in1.in1 (specialOf (Value.ref it) (Str.ofString "__length_hint__") >>= _) _ _ _
  refine wpAny_bind (wpAny_specialOf hT hint_lri ?_)
  generalize hid : ("list_reverseiterator.__length_hint__" : String) = id0
  wp_delta
  rw [show splitId id0 = some ("list_reverseiterator", "__length_hint__") from by subst hid; decide +kernel]
  subst hid
  refine wpAny_bind (wpAny_isInstance (b := true) hT (by rw [isSubtype_type]; kernel_rfl) ?_)
  refine wpAny_pure ?_
  rw [if_neg (by decide)]
  have e0 : ((items.size : Nat) : Int) - 1 - ((0 : Nat) : Int) = (items.size : Int) - 1 := by omega
  refine wpAny_pure ⟨plainId_quiet F.plain_extend_loop _, codeAny_extend_loopS W hn _ hSf _ items.size 0 _ _ _ rfl (Nat.zero_le _) ⟨Nat.zero_le _, by rw [e0]; exact hit1, hl1⟩ hS₂ (ItemsOf.nil _) fun s' acc' c' hm hS' hacc => ?_⟩
  refine ⟨rfl, ?_⟩
  rw [Moved.eq_with hm]
  refine hQ s'.heap s'.toks acc' c' (fun b o hb e => hm.heap b o (fun hmem => ?_) (old b o e)) hacc hS'
  rcases List.mem_cons.mp hmem with e' | hmem
  · exact absurd (Heap.lt_size e) (by rw [e']; exact Nat.lt_irrefl _)
  · exact hb (List.mem_singleton.mp hmem)
end
end DLR
namespace DL
open PySem PySem.Spec PyProof.Rows L2
def dListRev : PyData → Option PyData
  | .list xs => some (.list xs.reverse)
  | _ => none
theorem DpAll.reverse {K : PySem.W.Frag} {H : Hp} {vs : List V} {ds : List PyData} (h : DpAll K H vs ds) : DpAll K H vs.reverse ds.reverse := DpAll.rev h
section
variable {X : Cx} {cm : CM} {W : WX}
def tLstRev (K : PySem.W.Frag) (te : TE) : TE := fun σ H Q => te σ H fun v H1 => ∃ (a : Addr) (xs : List V), v = .ref a ∧ SqL K H1 a xs ∧ ∀ p, H1 p = none → Q (.ref p) (upd H1 p (.lst xs.reverse))
theorem pe_lstRev {e : Expr} {te : TE} {p p2 pos pos2 : Pos} (hc : X.calm = true) (hg : Gl X "list") (hm : X.mg "list" = none) (hg2 : Gl X "reversed") (hm2 : X.mg "reversed" = none) (he : PE X e te)
    (hs : starEach [e] X.env = (false, eval e X.env) :: starEach [] X.env := by rfl)
    (hs2 : starEach [.Call (.Name "reversed" p2) [e] [] pos2] X.env = (false, eval (.Call (.Name "reversed" p2) [e] [] pos2) X.env) :: starEach [] X.env := by rfl) :
    PE X (.Call (.Name "list" p) [.Call (.Name "reversed" p2) [e] [] pos2] [] pos) (tLstRev X.K te) := by
  refine ⟨fun pins s σ H Q I h => ?_⟩
  refine Call_ (ld_blt I hg hm (by rfl) (PyProof.Rows.callWith_type1 (args_cons (Call_ (ld_blt I hg2 hm2 PyProof.Rows.boot_reversed (PyProof.Rows.callWith_type1 (args_cons (thn (he.run pins s σ H _ I h) fun u s1 ⟨v, H1, I1, r1, q1⟩ => args_nil ?_) hs) hs rfl))) hs2) hs2 rfl))
  obtain ⟨a, xs, ev, hq, q⟩ := q1
  subst ev
  obtain rfl : u = Value.ref a := r1
  obtain ⟨its, rv, p', hz⟩ := I1.list hq
  refine call_reversed_list p'.isList (args_nil ?_)
  have k0 : ∀ b o, s1.heap.get? b = some o → (s1.heap.push (revObj a ((its.toArray.size : Int) - 1))).get? b = some o := fun b o e => Heap.get?_push_of_some _ e
  have I2 : Inv X pins σ H1 { s1 with heap := s1.heap.push (revObj a ((its.toArray.size : Int) - 1)) } := I1.kept (t' := s1.toks) k0
  obtain ⟨f0, f1, f2, f3, f4, f5⟩ := I1.fpOk (H' := H1) (b := s1.heap.objs.size) (Nat.le_refl _) (I1.hok.fresh (Nat.le_refl _))
  have hl := p'.isList
  obtain ⟨ol, hol, _⟩ := id hl
  have hne : a ≠ s1.heap.objs.size := Nat.ne_of_lt (Heap.lt_size hol)
  have hn : its.toArray.size ≤ sizeLine := by rw [List.size_toArray, ← rv.length]; exact hz
  refine DLR.call_list_rev (s := { s1 with heap := s1.heap.push (revObj a ((its.toArray.size : Int) - 1)) }) (I1.ok.hd hc) ⟨_, Heap.get?_push_size _ rfl, rfl, rfl⟩ (hl.push _) hne hn fun h' tk acc c hk hi hnew => ?_
  have sz : (s1.heap.push (revObj a ((its.toArray.size : Int) - 1))).objs.size = s1.heap.objs.size + 1 := by rw [Heap.size_push]
  rw [sz] at hnew
  have keep : ∀ b o, s1.heap.get? b = some o → h'.get? b = some o := fun b o e => hk b o (Nat.ne_of_lt (Heap.lt_size e)) (k0 b o e)
  have J := I1.laid (t' := tk) (a := s1.heap.objs.size + 1) (o := .lst xs.reverse) keep (Nat.le_succ _) ⟨by rw [List.length_reverse]; exact hz, acc.toList, c, RT.vals_rev rv hi, by rw [Array.toArray_toList]; exact hnew⟩
  rw [show ({ s1 with heap := s1.heap.push (revObj a ((its.toArray.size : Int) - 1)) } : Shared).heap.objs.size = s1.heap.objs.size + 1 from sz]
  exact ⟨.ref _, _, J, rfl, q _ (I1.hok.fresh (Nat.le_succ _))⟩
theorem pef_listRev {e : Expr} {f : Rho → Res PyData} {p p2 pos pos2 : Pos} (hc : X.calm = true) (hg : Gl X "list") (hm : X.mg "list" = none) (hg2 : Gl X "reversed") (hm2 : X.mg "reversed" = none) (h : PEV X cm W .p e f)
    (hs : starEach [e] X.env = (false, eval e X.env) :: starEach [] X.env := by rfl)
    (hs2 : starEach [.Call (.Name "reversed" p2) [e] [] pos2] X.env = (false, eval (.Call (.Name "reversed" p2) [e] [] pos2) X.env) :: starEach [] X.env := by rfl) :
    PEV X cm W .f (.Call (.Name "list" p) [.Call (.Name "reversed" p2) [e] [] pos2] [] pos) (o1 dListRev f) := by
  obtain ⟨_, a1, a2⟩ := h
  refine ⟨_, pe_lstRev hc hg hm hg2 hm2 a1 hs hs2, fun B H0 ω ρ σ H Q S h => ?_⟩
  refine a2.go S h fun x a H1 s1 S1 r1 h1 => ?_
  obtain ⟨e, he, k⟩ := post_some (m := .f) (H := H1) (noW (fun _ => of_nx) (Post.up (R' := Rm X.K .f (ownM B ω ρ) H1) (Same.refl _) (fun _ _ _ _ z => z.anti s1) h1))
  cases a with
  | list xs =>
    cases he
    obtain ⟨p, vs, rfl, q1, d1⟩ := Rm.lst r1
    exact ⟨p, vs, rfl, q1, fun l hl => k _ _ (same_new hl) (new_list (Same.refl H1) hl (DpAll.reverse d1))⟩
  | _ => cases he
end
end DL
end
section
set_option Elab.async false
set_option linter.all false
set_option maxRecDepth 100000
set_option maxHeartbeats 4000000
/-! sorted(a list of alike data), any length. -/
namespace DL
open PySem PySem.Spec PyProof.Rows L2
def tupHd : PyData → Bool
  | .tuple (_ :: _) => true
  | _ => false
def plainD : PyData → Bool
  | .none => false
  | .tuple _ => false
  | _ => true
def okSort (xs : List PyData) : Bool := (xs.all fun d => xs.all fun d' => PySem.W.alike d d') && ((xs.all tupHd || xs.all plainD) && (decide (xs.length ≤ sizeLine) && xs.all fun d => decide (d.depth ≤ 100)))
def srtD (xs : List PyData) : List PyData := xs.mergeSort (PySem.W.dataLe false fun d => d)
def dSorted : PyData → Option PyData
  | .list xs => gd (okSort xs) (.list (srtD xs))
  | .tuple xs => none
  | _ => none
theorem okSort_ok {xs : List PyData} (h : okSort xs = true) : PySem.W.AllAlike xs ∧ PySem.W.Sortable xs ∧ xs.length ≤ sizeLine ∧ ∀ d ∈ xs, d.depth ≤ 100 := by
  unfold okSort at h
  simp only [Bool.and_eq_true, Bool.or_eq_true, List.all_eq_true, decide_eq_true_eq] at h
  obtain ⟨h1, h2, h3, h4⟩ := h
  refine ⟨fun d hd d' hd' => h1 d hd d' hd', ?_, h3, h4⟩
  rcases h2 with h2 | h2
  · refine .inl fun d hd => ?_
    have := h2 d hd
    unfold tupHd at this
    split at this
    · exact ⟨_, _, rfl⟩
    · cases this
  · refine .inr fun d hd => ?_
    have := h2 d hd
    cases d <;> first
      | (cases this; done)
      | exact ⟨fun z => (by cases z), fun ys z => (by cases z)⟩
section
variable {X : Cx} {cm : CM} {W : WX}
abbrev RDv (K : PySem.W.Frag) (H : Hp) : Value → PyData → Prop := fun u d => ∃ y, RelV y u ∧ Dp K H y d
theorem each_of_dp {K : PySem.W.Frag} {H : Hp} : ∀ {vs : List V} {us : List Value} {ds : List PyData}, Vals vs us → DpAll K H vs ds → PySem.W.EachIs (RDv K H) us ds
  | _, _, _, .nil, .nil => .nil
  | _, _, _, .cons r t, .cons h s => .cons ⟨_, r, h⟩ (each_of_dp t s)
theorem dp_of_each {K : PySem.W.Frag} {H : Hp} : ∀ {us : List Value} {ds : List PyData}, PySem.W.EachIs (RDv K H) us ds → ∃ vs, Vals vs us ∧ DpAll K H vs ds
  | _, _, .nil => ⟨[], .nil, .nil⟩
  | _, _, .cons ⟨y, r, h⟩ t => let ⟨vs, r', h'⟩ := dp_of_each t; ⟨y :: vs, .cons r r', .cons h h'⟩
theorem each_reads {pins : List (Addr × Obj)} {σ : St} {H : Hp} {M : Addr → Prop} {s : Shared} (I : Inv X pins σ H s) : ∀ {us : List Value} {ds : List PyData}, PySem.W.EachIs (RDv X.K (msk M H)) us ds → PySem.W.EachIs (fun v b => ∃ as, Reads s.heap v b as) us ds
  | _, _, .nil => .nil
  | _, _, .cons ⟨y, r, h⟩ t => .cons (Dp.reads I _ _ _ (Dp_same msk_le _ _ h) r) (each_reads I t)
def rSortD (K : PySem.W.Frag) : List V → Hp → VK → Prop := fun vs H Q => ∃ (M : Addr → Prop) (a : Addr) (xs : List V) (ds : List PyData), vs = [V.ref a] ∧ SqL K H a xs ∧ DpAll K (msk M H) xs ds ∧ okSort ds = true ∧
  ∀ ys p, DpAll K (msk M H) ys (srtD ds) → H p = none → Q (.ref p) (upd H p (.lst ys))
theorem cr_sortedD (hu : X.A.units + 200 < cLine) : CallR X (.builtin "sorted") (rSortD X.K) := by
  intro pins s σ H vs us Q I r h
  obtain ⟨M, a, xs, ds, rfl, hs, hd, ok, q⟩ := h
  obtain ⟨its, rv, hl, hz⟩ := I.list hs
  rw [Vals.ref1 r]
  obtain ⟨o1, o2, o3, o4⟩ := okSort_ok ok
  have e := each_of_dp rv hd
  refine PySem.W.sorted_data (enc := fun d => d) (bs := ds) hl.isList e (each_reads I e) (by rw [List.map_id']; exact o1) (by rw [List.map_id']; exact o2) o3 (fun b hb => by have := o4 b hb; omega) fun out hlen ho => ?_
  obtain ⟨ys, ry, hy⟩ := dp_of_each ho
  obtain ⟨ep, he'⟩ := PyProof.Rows.sortedAll_at s.heap its out.toArray
  have hlen2 : ys.length ≤ sizeLine := by
    rw [ry.length, hlen]
    exact o3
  exact ⟨.ref _, upd H (s.heap.objs.size + 1) (.lst ys), I.laid (t' := s.toks) (fun _ _ => PyProof.Rows.sortedAll_old) (Nat.le_succ _) ⟨hlen2, out, ep, ry, he'⟩, rfl, q _ _ hy (I.hok.fresh (Nat.le_succ _))⟩
theorem pef_sorted {e : Expr} {f : Rho → Res PyData} {p pos : Pos} (hc : X.calm = true) (hu : X.A.units + 200 < cLine) (hg : Gl X "sorted") (hm : X.mg "sorted" = none) (h : PEV X cm W .p e f)
    (hs : starEach [e] X.env = (false, eval e X.env) :: starEach [] X.env := by rfl) (hpl : (backTo pos (starEach [] X.env)).any (·.1) = false := by rfl) :
    PEV X cm W .f (.Call (.Name "sorted" p) [e] [] pos) (o1 dSorted f) := by
  obtain ⟨_, a1, a2⟩ := h
  refine ⟨_, pe_callB (cr_sortedD hu) hg hm (by rfl) (pa_cons a1 pa_nil hs) (by decide) (by decide) hs hpl, fun B H0 ω ρ σ H Q S h => ?_⟩
  refine a2.go S h fun x a H1 s1 S1 r1 h1 => ?_
  obtain ⟨e, he, k⟩ := post_some (m := .f) (H := H1) (noW (fun _ => of_nx) (Post.up (R' := Rm X.K .f (ownM B ω ρ) H1) (Same.refl _) (fun _ _ _ _ z => z.anti s1) h1))
  cases a with
  | list ds =>
    obtain ⟨c, rfl⟩ := gd_some he
    obtain ⟨p, vs, rfl, q1, d1⟩ := Rm.lst r1
    exact ⟨_, p, vs, ds, rfl, q1, d1, c, fun ys l hy hl => k _ _ (same_new hl) (new_list (Same.refl H1) hl hy)⟩
  | _ => cases he
end
end DL
end
section
set_option Elab.async false
set_option linter.all false
set_option maxRecDepth 100000
set_option maxHeartbeats 4000000
/-! Tables of sets, up to 2048 slots: where an element is sought and found. (Own text; the mask-free facts of the way are the hand layer's.) -/
namespace DS
open PySem PySem.Spec PyProof.Rows L2
/-! ### the round of i -> 5 i + 1 visits every slot -/
def MaskG (m : Nat) : Prop := m = 7 ∨ m = 31 ∨ m = 127 ∨ m = 511 ∨ m = 2047
def itr (m : Nat) : Nat → Nat → Nat
  | 0, x => x
  | n + 1, x => itr m n ((x * 5 + 1) % (m + 1))
theorem itr_add (m : Nat) : ∀ (a b x : Nat), itr m (a + b) x = itr m b (itr m a x)
  | 0, b, x => by rw [Nat.zero_add]; rfl
  | a + 1, b, x => by
    rw [Nat.add_right_comm]
    exact itr_add m a b _
theorem lcgI_itr (m i : Nat) : ∀ k, lcgI m i k = itr m k i
  | 0 => rfl
  | k + 1 => by
    rw [itr_add m k 1 i, ← lcgI_itr m i k]
    rfl
/-- the visited, as bits -/
def seen (m : Nat) : Nat → Nat → Nat → Nat
  | 0, _, acc => acc
  | n + 1, x, acc => seen m n ((x * 5 + 1) % (m + 1)) (acc ||| 1 <<< x)
theorem seen_spec (m j : Nat) : ∀ (n x acc : Nat), (seen m n x acc).testBit j = true → acc.testBit j = true ∨ ∃ b, b < n ∧ itr m b x = j
  | 0, x, acc, h => .inl h
  | n + 1, x, acc, h => by
    rcases seen_spec m j n _ _ h with q | ⟨b, hb, e⟩
    · rw [Nat.testBit_or, Bool.or_eq_true] at q
      rcases q with q | q
      · exact .inl q
      · rw [Nat.shiftLeft_eq, Nat.one_mul, Nat.testBit_two_pow] at q
        exact .inr ⟨0, Nat.succ_pos n, of_decide_eq_true q⟩
    · exact .inr ⟨b + 1, Nat.succ_lt_succ hb, e⟩
theorem seen_all {m : Nat} (hm : MaskG m) : seen m (m + 1) 0 0 = 2 ^ (m + 1) - 1 := by
  rcases hm with e | e | e | e | e <;> subst e <;> decide +kernel
theorem back0 {m : Nat} (hm : MaskG m) : itr m (m + 1) 0 = 0 := by
  rcases hm with e | e | e | e | e <;> subst e <;> decide +kernel
theorem visit {m : Nat} (hm : MaskG m) {j : Nat} (hj : j ≤ m) : ∃ b, b ≤ m ∧ itr m b 0 = j := by
  have h : (seen m (m + 1) 0 0).testBit j = true := by
    rw [seen_all hm, Nat.testBit_two_pow_sub_one, decide_eq_true_eq]
    omega
  rcases seen_spec m j _ _ _ h with q | ⟨b, hb, e⟩
  · rw [Nat.zero_testBit] at q
    cases q
  · exact ⟨b, Nat.le_of_lt_succ hb, e⟩
theorem reach {m : Nat} (hm : MaskG m) {i j : Nat} (hi : i ≤ m) (hj : j ≤ m) : ∃ k, k ≤ m ∧ lcgI m i k = j := by
  obtain ⟨a, ha, ea⟩ := visit hm hi
  obtain ⟨b, hb, eb⟩ := visit hm hj
  have key : ∀ k, lcgI m i k = itr m (a + k) 0 := fun k => by rw [lcgI_itr, itr_add, ea]
  by_cases c : a ≤ b
  · exact ⟨b - a, by omega, by rw [key, show a + (b - a) = b by omega, eb]⟩
  · refine ⟨b + (m + 1) - a, by omega, ?_⟩
    rw [key, show a + (b + (m + 1) - a) = (m + 1) + b by omega, itr_add, back0 hm, eb]
/-! ### the way of a search meets every slot in time -/
theorem run_hits {m : Nat} (hm : MaskG m) (h : Int) {j : Nat} (hj : j ≤ m) : ∃ n, n ≤ m + 12 ∧ runI m (SetTable.bits h) n = j := by
  obtain ⟨k, hk, e⟩ := reach hm (runI_le m (SetTable.bits h) 12) hj
  exact ⟨12 + k, by omega, (runI_tail (bits_lt h) k).trans e⟩
theorem way_hits {m : Nat} (hm : MaskG m) (h : Int) {j : Nat} (hj : j ≤ m) : ∃ k, k < 10 * SetTable.turns m ∧ way m h k = j := by
  obtain ⟨n, hn, e⟩ := run_hits hm h hj
  obtain ⟨k, hk, e2⟩ := run_nth m (SetTable.bits h) n
  exact ⟨k, by unfold SetTable.turns; omega, (congrArg SetTable.Probe.j e2).trans e⟩
theorem way_bd (m : Nat) (h : Int) (k : Nat) : way m h k ≤ m := by
  have hi : SetTable.bits h % (m + 1) ≤ m := Nat.le_of_lt_succ (Nat.mod_lt _ (Nat.succ_pos _))
  have r := runEnd_bd hi
  have q := nth_in (m := m) k (runAt m (SetTable.bits h % (m + 1)) (SetTable.bits h)) (by
    show SetTable.bits h % (m + 1) + (SetTable.runEnd m (SetTable.bits h % (m + 1)) - SetTable.bits h % (m + 1)) ≤ m
    omega)
  exact Nat.le_trans (Nat.le_add_right _ _) q
/-- slot j is come to from h over occupied slots alone -/
def Rch (m : Nat) (O : Nat → Prop) (h : Int) (j : Nat) : Prop := ∃ k, way m h k = j ∧ ∀ k', k' < k → O (way m h k')
theorem Rch.mono {m : Nat} {O O' : Nat → Prop} {h : Int} {j : Nat} (r : Rch m O h j) (e : ∀ i, O i → O' i) : Rch m O' h j := let ⟨k, h1, h2⟩ := r; ⟨k, h1, fun k' hk => e _ (h2 k' hk)⟩
/-- there is a first free slot of the way -/
theorem first_free {m : Nat} (hm : MaskG m) (O : Nat → Prop) {ps : List Nat} (hp : ∀ j, j ≤ m → O j → j ∈ ps) (hl : ps.length ≤ m) (h : Int) : ∃ K, K < 10 * SetTable.turns m ∧ ¬ O (way m h K) ∧ ∀ k, k < K → O (way m h k) := by
  obtain ⟨j, hj, hn⟩ := st_missing ps (m + 1) (by omega)
  have hj' := Nat.le_of_lt_succ hj
  obtain ⟨k, hk, e⟩ := way_hits hm h hj'
  obtain ⟨K, h1, h2, h3⟩ := st_least (p := fun k => ¬ O (way m h k)) k (by
    show ¬ O (way m h k)
    rw [e]
    exact fun z => hn (hp j hj' z))
  exact ⟨K, Nat.lt_of_le_of_lt h1 hk, h2, fun k' hk' => Classical.byContradiction fun z => h3 k' hk' z⟩
/-- what is come to from h stands before the first free slot -/
theorem Rch.before {m : Nat} {O : Nat → Prop} {h : Int} {j K : Nat} (r : Rch m O h j) (hO : O j) (hK : ¬ O (way m h K)) : ∃ k, k < K ∧ way m h k = j := by
  obtain ⟨k, e, hb⟩ := r
  refine ⟨k, ?_, e⟩
  rcases Nat.lt_trichotomy k K with c | c | c
  · exact c
  · subst c
    rw [e] at hK
    exact absurd hO hK
  · exact absurd (hb K c) hK
/-! ### a table that tells its elements' hashes hs, in its order -/
structure TabG (t : SetTable) (hs : List Int) : Prop where
  ris : Ris t.place.toList
  dm : t.dummies = #[]
  sz : t.place.size = hs.length
  mok : MaskG t.mask
  bd : ∀ x ∈ t.place.toList, x ≤ t.mask
  rch : ∀ (i : Nat) (h : Int) (j : Nat), hs[i]? = some h → t.place.toList[i]? = some j → Rch t.mask (fun x => x ∈ t.place.toList) h j
theorem TabG.plen {t : SetTable} {hs : List Int} (T : TabG t hs) : t.place.toList.length = hs.length := by rw [Array.length_toList, T.sz]
theorem TabG.odd {t : SetTable} {hs : List Int} (T : TabG t hs) : t.mask % 2 = 1 := by
  rcases T.mok with e | e | e | e | e <;> rw [e]
theorem TabG.small {t : SetTable} {hs : List Int} (T : TabG t hs) : 10 * SetTable.turns t.mask ≤ 21000 := by
  unfold SetTable.turns
  rcases T.mok with e | e | e | e | e <;> omega
theorem TabG.first {t : SetTable} {hs : List Int} (T : TabG t hs) (hl : hs.length ≤ t.mask) (h : Int) : ∃ K, K < 10 * SetTable.turns t.mask ∧ way t.mask h K ∉ t.place.toList ∧ ∀ k, k < K → way t.mask h k ∈ t.place.toList :=
  first_free T.mok (fun x => x ∈ t.place.toList) (ps := t.place.toList) (fun _ _ z => z) (by rw [T.plen]; exact hl) h
theorem TabG.put {t : SetTable} {hs : List Int} (T : TabG t hs) {h : Int} {j : Nat} (hn : j ∉ t.place.toList) (hj : j ≤ t.mask) (hr : Rch t.mask (fun x => x ∈ t.place.toList) h j) :
    TabG (t.put j).1 (hs.take (t.put j).2 ++ h :: hs.drop (t.put j).2) ∧ (t.put j).2 ≤ hs.length ∧ (t.put j).1.fill = hs.length + 1 := by
  obtain ⟨p, hp⟩ : ∃ p, p = SetTable.below t.place j := ⟨_, rfl⟩
  have e2 : (t.put j).2 = p := hp.symm
  obtain ⟨c1, _, _⟩ := below_cut T.ris j
  have hpl : p ≤ t.place.toList.length := by
    rw [hp, Array.length_toList]
    exact c1
  have hph : p ≤ hs.length := by
    rw [← T.plen]
    exact hpl
  have hplace : (t.put j).1.place.toList = t.place.toList.take p ++ j :: t.place.toList.drop p := by
    rw [hp]
    exact put_place t j
  have hnew : (t.put j).1.place.size = hs.length + 1 := by
    rw [← Array.length_toList, hplace, len_ins _ hpl, T.plen]
  have up : ∀ x, x ∈ t.place.toList → x ∈ (t.put j).1.place.toList := fun x hx => by
    rw [hplace]
    exact mem_ins.2 (.inr hx)
  have hm : (t.put j).1.mask = t.mask := rfl
  rw [e2]
  refine ⟨⟨ris_insert T.ris fun e => hn (List.mem_of_getElem? (by rw [Array.getElem?_toList]; exact e)), put_dm T.dm j, by rw [hnew, len_ins _ hph], T.mok, fun x hx => ?_, fun i h' j' h1 h2 => ?_⟩, hph, ?_⟩
  · rw [hplace] at hx
    rcases mem_ins.1 hx with z | z
    · rw [z]; exact hj
    · exact T.bd x z
  · rw [hm]
    rw [tins_get hs hph] at h1
    rw [hplace, tins_get _ hpl] at h2
    by_cases c : i < p
    · rw [if_pos c] at h1 h2
      exact (T.rch i h' j' h1 h2).mono up
    · rw [if_neg c] at h1 h2
      by_cases d : i = p
      · rw [if_pos d] at h1 h2
        obtain rfl := Option.some.inj h1
        obtain rfl := Option.some.inj h2
        exact hr.mono up
      · rw [if_neg d] at h1 h2
        exact (T.rch (i - 1) h' j' h1 h2).mono up
  · show (t.put j).1.place.size + (t.put j).1.dummies.size = hs.length + 1
    rw [hnew, put_dm T.dm j] <;> rfl
/-! ### laid anew -/
theorem free_first {m : Nat} (hm : MaskG m) (owner : Array (Option Nat)) {ps : List Nat} (hp : ∀ j, j ≤ m → oAt owner j ≠ none → j ∈ ps) (hl : ps.length ≤ m) (h : Int) :
    ∃ K, SetTable.layClean.free m owner (SetTable.turns m) (SetTable.bits h % (m + 1)) (SetTable.bits h) = some (way m h K) ∧ oAt owner (way m h K) = none ∧ ∀ k, k < K → oAt owner (way m h k) ≠ none := by
  obtain ⟨j, hj, hn⟩ := st_missing ps (m + 1) (by omega)
  have hj' := Nat.le_of_lt_succ hj
  have hf : oAt owner j = none := Classical.byContradiction fun z => hn (hp j hj' z)
  obtain ⟨n, hn', e⟩ := run_hits hm h hj'
  have hw : way m h (off m (SetTable.bits h % (m + 1)) (SetTable.bits h) n) = j := by
    show (nth m (runAt m (SetTable.bits h % (m + 1)) (SetTable.bits h)) (off m (SetTable.bits h % (m + 1)) (SetTable.bits h) n)).j = j
    rw [nth_off, itL_run]
    exact e
  obtain ⟨K, k1, k2, k3⟩ := st_least (p := fun k => oAt owner (way m h k) = none) _ (show oAt owner (way m h (off m (SetTable.bits h % (m + 1)) (SetTable.bits h) n)) = none by rw [hw]; exact hf)
  refine ⟨K, free_spec m owner (SetTable.turns m) n _ _ K (by unfold SetTable.turns; omega) k1 (fun k hk => ?_) ?_, k2, k3⟩
  · have q := k3 k hk
    cases z : oAt owner (way m h k) with
    | none => exact absurd z q
    | some _ => rfl
  · have q : oAt owner (way m h K) = none := k2
    show (oAt owner (way m h K)).isNone = true
    rw [q] <;> rfl
structure OwnG (m : Nat) (done : List Int) (owner : Array (Option Nat)) : Prop where
  sz : owner.size = m + 1
  at_ : ∀ j k, j ≤ m → oAt owner j = some k → ∃ h, done[k]? = some h ∧ Rch m (fun i => oAt owner i ≠ none) h j
  all : ∀ k, k < done.length → ∃ j, j ≤ m ∧ oAt owner j = some k
  ps : ∃ ps : List Nat, ps.length = done.length ∧ ∀ j, j ≤ m → oAt owner j ≠ none → j ∈ ps
theorem OwnG.step {m : Nat} (hm : MaskG m) {done : List Int} {owner : Array (Option Nat)} (W : OwnG m done owner) (hl : done.length ≤ m) (h : Int) :
    ∃ j, SetTable.layClean.free m owner (SetTable.turns m) (SetTable.bits h % (m + 1)) (SetTable.bits h) = some j ∧ OwnG m (done ++ [h]) (owner.setIfInBounds j (some done.length)) := by
  obtain ⟨ps, hps, hin⟩ := W.ps
  obtain ⟨K, e1, e2, e3⟩ := free_first hm owner hin (by omega) h
  obtain ⟨j, hj⟩ : ∃ j, j = way m h K := ⟨_, rfl⟩
  rw [← hj] at e1 e2
  have hjm : j ≤ m := by rw [hj]; exact way_bd m h K
  have hself := oAt_set_self (owner := owner) (some done.length) (show j < owner.size by rw [W.sz]; omega)
  have mono : ∀ i, oAt owner i ≠ none → oAt (owner.setIfInBounds j (some done.length)) i ≠ none := fun i hi => by
    by_cases c : i = j
    · rw [c, hself]
      exact fun e => nomatch e
    · rw [oAt_set_ne _ c]
      exact hi
  have hlen : (done ++ [h]).length = done.length + 1 := by rw [List.length_append, List.length_singleton]
  refine ⟨j, e1, ⟨by rw [Array.size_setIfInBounds]; exact W.sz, fun i k hi e => ?_, fun k hk => ?_, ⟨j :: ps, by rw [List.length_cons, hps, hlen], fun i hi e => ?_⟩⟩⟩
  · by_cases c : i = j
    · rw [c, hself] at e
      obtain rfl := Option.some.inj e
      refine ⟨h, by rw [List.getElem?_append_right (Nat.le_refl _), Nat.sub_self] <;> rfl, K, by rw [c]; exact hj.symm, fun k' hk' => mono _ (e3 k' hk')⟩
    · rw [oAt_set_ne _ c] at e
      obtain ⟨h', a1, a2⟩ := W.at_ i k hi e
      exact ⟨h', by rw [List.getElem?_append_left (List.getElem?_eq_some_iff.mp a1).1]; exact a1, a2.mono mono⟩
  · rw [hlen] at hk
    by_cases c : k < done.length
    · obtain ⟨i, hi, e⟩ := W.all k c
      refine ⟨i, hi, ?_⟩
      rw [oAt_set_ne _ (fun z => by rw [z, e2] at e; cases e)]
      exact e
    · obtain rfl : k = done.length := by omega
      exact ⟨j, hjm, hself⟩
  · by_cases c : i = j
    · rw [c]; exact List.mem_cons_self
    · rw [oAt_set_ne _ c] at e
      exact List.mem_cons_of_mem _ (hin i hi e)
theorem fold_own {m : Nat} (hm : MaskG m) : ∀ (rest done : List Int) (owner : Array (Option Nat)), OwnG m done owner → done.length + rest.length ≤ m →
    ∃ owner', rest.foldl (stepF m) (some (owner, done.length)) = some (owner', (done ++ rest).length) ∧ OwnG m (done ++ rest) owner'
  | [], done, owner, W, _ => ⟨owner, by rw [List.append_nil] <;> rfl, by rw [List.append_nil]; exact W⟩
  | h :: rest, done, owner, W, hl => by
    rw [List.length_cons] at hl
    obtain ⟨j, e, W'⟩ := W.step hm (by omega) h
    obtain ⟨owner', f, W2⟩ := fold_own hm rest (done ++ [h]) _ W' (by rw [List.length_append, List.length_singleton]; omega)
    rw [List.append_assoc, List.length_append, List.length_singleton] at f
    rw [List.append_assoc] at W2
    exact ⟨owner', by rw [List.foldl_cons, stepF_some e]; exact f, W2⟩
theorem lay_ok {m : Nat} (hm : MaskG m) {hs : Array Int} (hn : hs.size ≤ m) : ∃ owner, SetTable.layClean m hs = some owner ∧ OwnG m hs.toList owner := by
  have W0 : OwnG m [] (Array.replicate (m + 1) none) := ⟨by simp, fun j k hj e => (by rw [oAt_init hj] at e; cases e), fun k hk => absurd hk (Nat.not_lt_zero _), [], rfl, fun j hj e => absurd (oAt_init hj) e⟩
  obtain ⟨owner, f, W⟩ := fold_own hm hs.toList [] _ W0 (by rw [Array.length_toList]; show 0 + hs.size ≤ m; omega)
  refine ⟨owner, ?_, W⟩
  rw [layClean_eq]
  have f' : hs.toList.foldl (stepF m) (some (Array.replicate (m + 1) none, 0)) = some (owner, ([] ++ hs.toList).length) := f
  rw [f'] <;> rfl
theorem relaid_okG (t : SetTable) {hs : Array Int} {wanted M : Nat} (hw : SetTable.sizeAbove wanted - 1 = M) (hM : MaskG M) (hn : hs.size ≤ M) :
    ∃ t' order, t.relaid hs wanted = some (t', order) ∧ order.toList.Perm (List.range hs.size) ∧ TabG t' (order.toList.map fun i => hs.getD i 0) ∧ t'.mask = M ∧ t'.led = t.led ∧ t'.plain = t.plain ∧ t'.dummies = #[] := by
  obtain ⟨owner, e, W⟩ := lay_ok hM hn
  have hr : t.relaid hs wanted = some (tabOf t M owner, ((liveOf M owner).map (·.2)).toArray) := by
    rw [relaid_eq, hw, e] <;> rfl
  obtain ⟨r1, r2⟩ := ris_live (fun j => owner.getD j none) (List.range (M + 1)) (by
    unfold Ris
    first | exact List.pairwise_lt_range | exact List.pairwise_lt_range _)
  have r1 : Ris ((liveOf M owner).map (·.1)) := r1
  have r2 : ∀ x ∈ (liveOf M owner).map (·.1), x ∈ List.range (M + 1) := r2
  have mem : ∀ {j k : Nat}, (j, k) ∈ liveOf M owner ↔ j ≤ M ∧ oAt owner j = some k := mem_live W.sz
  have every : ∀ k, k < hs.size → k ∈ (liveOf M owner).map (·.2) := fun k hk => by
    obtain ⟨j, b1, b2⟩ := W.all k (by rw [Array.length_toList]; exact hk)
    exact List.mem_map.mpr ⟨(j, k), mem.2 ⟨b1, b2⟩, rfl⟩
  have hlen : (liveOf M owner).length = hs.size := by
    obtain ⟨ps, p1, p2⟩ := W.ps
    have nd : ((liveOf M owner).map (·.1)).Nodup := List.Pairwise.imp (fun h => Nat.ne_of_lt h) r1
    have a := nat_nodup_len ((liveOf M owner).map (·.1)) ps nd fun x hx => by
      obtain ⟨⟨y, k⟩, hq, rfl⟩ := List.mem_map.mp hx
      obtain ⟨b1, b2⟩ := mem.1 hq
      exact p2 y b1 (by rw [b2]; exact fun z => nomatch z)
    have b := nat_nodup_len (List.range hs.size) ((liveOf M owner).map (·.2)) List.nodup_range fun k hk => every k (List.mem_range.mp hk)
    rw [List.length_map, p1] at a
    rw [List.length_map, List.length_range] at b
    have hz : hs.toList.length = hs.size := rfl
    omega
  refine ⟨_, _, hr, perm_range hs.size _ (by show ((liveOf M owner).map (·.2)).length = _; rw [List.length_map]; exact hlen) every, ⟨r1, rfl, ?_, hM, fun x hx => Nat.le_of_lt_succ (List.mem_range.mp (r2 x hx)), fun i h j h1 h2 => ?_⟩, rfl, rfl, rfl, rfl⟩
  · show ((liveOf M owner).map (·.1)).toArray.size = (((liveOf M owner).map (·.2)).map fun i => hs.getD i 0).length
    rw [List.size_toArray, List.length_map, List.length_map, List.length_map]
  · have h1' : (((liveOf M owner).map (·.2)).map fun i => hs.getD i 0)[i]? = some h := h1
    have h2' : ((liveOf M owner).map (·.1))[i]? = some j := h2
    rw [List.getElem?_map, List.getElem?_map] at h1'
    rw [List.getElem?_map] at h2'
    cases hq : (liveOf M owner)[i]? with
    | none => rw [hq] at h2'; cases h2'
    | some q =>
      obtain ⟨y, k⟩ := q
      rw [hq] at h1' h2'
      obtain rfl : y = j := Option.some.inj h2'
      have eh : hs.getD k 0 = h := Option.some.inj h1'
      obtain ⟨b1, b2⟩ := mem.1 (List.mem_of_getElem? hq)
      obtain ⟨h0, a1, a2⟩ := W.at_ y k b1 b2
      have e0 : hs.getD k 0 = h0 := by rw [Array.getD_eq_getD_getElem?, ← Array.getElem?_toList, a1] <;> rfl
      obtain rfl : h0 = h := e0.symm.trans eh
      obtain ⟨K, c1, c2⟩ := a2
      refine ⟨K, c1, fun k' hk' => ?_⟩
      show way M h0 k' ∈ (liveOf M owner).map (·.1)
      cases z : oAt owner (way M h0 k') with
      | none => exact absurd z (c2 k' hk')
      | some k2 => exact List.mem_map.mpr ⟨(way M h0 k', k2), mem.2 ⟨way_bd M h0 k', z⟩, rfl⟩
theorem sz5 : SetTable.sizeAbove (SetTable.grown 5) = 32 := by decide +kernel
theorem sz19 : SetTable.sizeAbove (SetTable.grown 19) = 128 := by decide +kernel
theorem sz77 : SetTable.sizeAbove (SetTable.grown 77) = 512 := by decide +kernel
theorem sz307 : SetTable.sizeAbove (SetTable.grown 307) = 2048 := by decide +kernel
end DS
end
section
set_option Elab.async false
set_option linter.all false
set_option maxRecDepth 100000
set_option maxHeartbeats 4000000
/-! A set of int tuples, up to 1228 of them: sought, added. -/
namespace DS
open PySem PySem.Spec PyProof.Rows L2
/-- the most elements -/
def most : Nat := 1228
structure SetG (P : Program) (w : World) (h : Heap) (a : Addr) (L : List (Addr × List Int)) (es : Array (Int × Value)) (ep : Nat) (t : SetTable) : Prop where
  ob : ∃ o, h.get? a = some o ∧ o.ExactSet ∧ o.data = .set es ep t
  rows : es.toList = rowsOf P w L
  tab : TabG t (L.map fun p => thash P w p.2)
  nd : (L.map (·.2)).Nodup
  tup : ∀ p ∈ L, IsT P w h p.2 p.1
  plain : t.plain = true
  led : w.params.followText "set-order" = true ∨ t.led = true
  room : L.length * 5 < t.mask * 3
  few : L.length ≤ most
theorem rows_len {P : Program} {w : World} {L : List (Addr × List Int)} {es : Array (Int × Value)} (h : es.toList = rowsOf P w L) : es.size = L.length := by
  have h := congrArg List.length h
  unfold rowsOf at h
  rw [Array.length_toList, List.length_map] at h
  exact h
theorem fits_of {t : SetTable} {n : Nat} (h1 : t.place.size = n) (h2 : t.dummies = #[]) (h3 : n ≤ t.mask) : t.fits n = true := by
  unfold SetTable.fits SetTable.fill
  rw [h2, Bool.and_eq_true, beq_iff_eq, decide_eq_true_eq]
  refine ⟨h1, ?_⟩
  show t.place.size + 0 ≤ t.mask
  omega
section
variable {P : Program} {w : World} {A : Around} {E : Value → Shared → Prop} {s : Shared} {a : Addr} {L : List (Addr × List Int)} {es : Array (Int × Value)} {ep : Nat} {t : SetTable}
theorem SetG.size (R : SetG P w s.heap a L es ep t) : es.size = L.length := rows_len R.rows
theorem SetG.fits (R : SetG P w s.heap a L es ep t) : t.fits es.size = true := by
  have h1 := R.tab.sz
  rw [List.length_map] at h1
  have h3 := R.room
  rw [R.size]
  exact fits_of h1 R.tab.dm (by omega)
theorem SetG.entry (R : SetG P w s.heap a L es ep t) {i : Nat} {p : Addr × List Int} (h : L[i]? = some p) : es[i]? = some (thash P w p.2, Value.ref p.1) := by
  rw [← Array.getElem?_toList, R.rows]
  unfold rowsOf
  rw [List.getElem?_map, h] <;> rfl
theorem no_dummy {m : Nat} : ∀ (n : Nat) (p : SetTable.Probe), p.dummy = none → (nth m p n).dummy = none
  | 0, _, h => h
  | n + 1, p, h => no_dummy n (adv m p) (by unfold adv; split <;> exact h)
/-- the search from the c-th step of the way on -/
theorem seek (R : SetG P w s.heap a L es ep t) {x : Addr} {k : List Int} (hx : IsT P w s.heap k x) (hu : A.units < cLine) {K : Nat} (hKf : K < 10 * SetTable.turns t.mask)
    (hK : way t.mask (thash P w k) K ∉ t.place.toList) (hKb : ∀ c, c < K → way t.mask (thash P w k) c ∈ t.place.toList) {Q : SetFound → Shared → Prop}
    (hin : k ∈ L.map (·.2) → Q (.there none) s) (hout : k ∉ L.map (·.2) → Q (.free (way t.mask (thash P w k) K) false) s) :
    ∀ (f c : Nat) (stand : Option SetTable.Probe), stand.getD (t.probeStart (thash P w k)) = nth t.mask (runAt t.mask (SetTable.bits (thash P w k) % (t.mask + 1)) (SetTable.bits (thash P w k))) c → c ≤ K → K - c < f →
      (∀ (i : Nat) p, L[i]? = some p → p.2 = k → ∃ c', c ≤ c' ∧ c' < K ∧ t.place.toList[i]? = some (way t.mask (thash P w k) c')) →
      wpAny (model P w) A (setSearchFrom a (.ref x) (thash P w k) true f stand) Q E s
  | 0, _, _, _, _, hf, _ => absurd hf (Nat.not_lt_zero _)
  | f + 1, c, stand, hst, hc, hf, hre => by
    obtain ⟨o, ho, hex, hd⟩ := R.ob
    rw [setSearchFrom_succ]
    refine wpAny_bind (wpAny_setState_of ho hd R.fits ?_)
    dsimp only
    refine wp_if_neg (by unfold SetTable.gaveWay; rw [R.tab.odd]; decide) ?_
    try refine wpAny_bind (wpAny_pure ?_)
    obtain ⟨h, hh⟩ : ∃ h, h = thash P w k := ⟨_, rfl⟩
    obtain ⟨p0, hp0⟩ : ∃ p0, p0 = runAt t.mask (SetTable.bits h % (t.mask + 1)) (SetTable.bits h) := ⟨_, rfl⟩
    have wj : ∀ n, way t.mask h n = (nth t.mask p0 n).j := fun n => by rw [hp0]
    have sh : ∀ q, nth t.mask (nth t.mask p0 c) q = nth t.mask p0 (c + q) := fun q => (nth_add t.mask c _ q).symm
    have sj : ∀ q, (nth t.mask (nth t.mask p0 c) q).j = way t.mask h (c + q) := fun q => by rw [sh, wj]
    rw [← hh] at hst hK hKb hre hout ⊢
    rw [← hp0] at hst
    have spec := go_spec t R.tab.ris R.tab.dm (fun i => (es[i]?.map (·.1)).getD 0) h (10 * SetTable.turns t.mask) (K - c) (nth t.mask p0 c) (no_dummy c _ (by rw [hp0] <;> rfl)) (by omega)
      (fun q hq => by rw [sj]; exact hKb (c + q) (by omega)) (by rw [sj, show c + (K - c) = K by omega]; exact hK)
    have hashAt : ∀ (i : Nat) p, L[i]? = some p → (es[i]?.map (·.1)).getD 0 = thash P w p.2 := fun i p hp => by rw [R.entry hp] <;> rfl
    rcases spec with ⟨q, i, hq, hi, hhe, hno, hpr⟩ | ⟨hno, hpr⟩
    · have hpr' : t.probe (fun i => (es[i]?.map (·.1)).getD 0) h (stand.getD (t.probeStart h)) = some (.candidate (way t.mask h (c + q)) i (nth t.mask p0 (c + (q + 1)))) := by
        rw [hst, ← sj, ← sh]
        exact hpr
      rw [hpr']
      dsimp only
      rw [sj] at hi
      have hil : i < L.length := by
        have h1 : i < t.place.toList.length := (List.getElem?_eq_some_iff.mp hi).1
        rw [R.tab.plen, List.length_map] at h1
        exact h1
      obtain ⟨p, hp⟩ : ∃ p, L[i]? = some p := ⟨_, List.getElem?_eq_getElem hil⟩
      have hmem : p ∈ L := List.mem_of_getElem? hp
      have rest : wpAny (model P w) A (searchRest a (.ref x) h true f es t (way t.mask h (c + q)) i (nth t.mask p0 (c + (q + 1)))) Q E s := by
        unfold searchRest
        rw [R.entry hp]
        dsimp only
        refine wpAny_bind (wpAny_holding (wpAny_eqBool_tuple hu (R.tup p hmem) hx ?_))
        refine wpAny_bind (wpAny_setState_of ho hd R.fits ?_)
        dsimp only
        by_cases hkk : p.2 = k
        · refine wp_if_pos (by simp [hkk]) ?_
          exact wpAny_pure (hin (List.mem_map.mpr ⟨p, hmem, hkk⟩))
        · refine wp_if_neg (by simp [hkk]) ?_
          try refine wpAny_bind (wpAny_pure ?_)
          rw [sameMem]
          dsimp only
          have hsl : t.slot (way t.mask h (c + q)) = .live i := slot_live R.tab.ris hi
          simp only [if_true, hsl, R.entry hp]
          refine wpAny_bind (wpAny_isSame_ref_self (wpAny_bind (wpAny_pure ?_)))
          simp only [if_true]
          refine wp_if_neg (by simp [hkk]) ?_
          rw [hh] at hK hKb hout hre ⊢
          refine seek R hx hu hKf hK hKb hin hout f (c + (q + 1)) _ (by rw [hp0, hh] <;> rfl) (by omega) (by omega) fun i0 q0 h0 hk0 => ?_
          obtain ⟨c', a1, a2, a3⟩ := hre i0 q0 h0 hk0
          refine ⟨c', ?_, a2, a3⟩
          rcases Nat.lt_trichotomy c' (c + q) with z | z | z
          · exfalso
            refine hno (c' - c) i0 (by omega) (by rw [sj, show c + (c' - c) = c' by omega, hh]; exact a3) ?_
            exact (hashAt i0 q0 h0).trans (by rw [hk0, hh])
          · exfalso
            rw [z, ← hh] at a3
            have s0 := slot_live R.tab.ris a3
            rw [hsl] at s0
            injection s0 with s0
            rw [← s0, hp] at h0
            exact hkk ((congrArg Prod.snd (Option.some.inj h0)).trans hk0)
          · omega
      by_cases hl : t.led = true
      · refine wp_if_neg (by simp [hl]) ?_
        try refine wpAny_bind (wpAny_pure ?_)
        exact rest
      · refine wp_if_pos (by simp [hl]) ?_
        refine wpAny_bind (seen_tup hx (fun y hy => ?_) ?_)
        · obtain ⟨e, he, ee⟩ := List.mem_map.mp hy
          have he1 : e ∈ es ∧ e.1 = h := by simpa using he
          have he2 : e ∈ es.toList := by simpa using he1.1
          rw [R.rows] at he2
          obtain ⟨p2, hp2, e2⟩ := List.mem_map.mp he2
          exact ⟨p2.2, p2.1, by rw [← ee, ← e2], R.tup p2 hp2⟩
        · refine wp_if_neg (by decide) ?_
          try refine wpAny_bind (wpAny_pure ?_)
          exact rest
    · have hpr' : t.probe (fun i => (es[i]?.map (·.1)).getD 0) h (stand.getD (t.probeStart h)) = some (.empty (way t.mask h K) none) := by
        have e2 : way t.mask h K = (nth t.mask (nth t.mask p0 c) (K - c)).j := by rw [sj, show c + (K - c) = K by omega]
        rw [hst, e2]
        exact hpr
      rw [hpr']
      dsimp only
      refine wpAny_pure (hout fun hm => ?_)
      obtain ⟨q0, h0, hk0⟩ := List.mem_map.mp hm
      obtain ⟨i0, hi0, e0⟩ := List.getElem_of_mem h0
      have h00 : L[i0]? = some q0 := by rw [List.getElem?_eq_getElem hi0, e0]
      obtain ⟨c', a1, a2, a3⟩ := hre i0 q0 h00 hk0
      refine hno (c' - c) i0 (by omega) (by rw [sj, show c + (c' - c) = c' by omega]; exact a3) ?_
      exact (hashAt i0 q0 h00).trans (by rw [hk0, hh])
theorem seek_at (R : SetG P w s.heap a L es ep t) {x : Addr} {k : List Int} (hx : IsT P w s.heap k x) (hu : A.units < cLine) {Q : SetFound → Shared → Prop}
    (hin : k ∈ L.map (·.2) → Q (.there none) s)
    (hout : ∀ K, k ∉ L.map (·.2) → way t.mask (thash P w k) K ∉ t.place.toList → (∀ c, c < K → way t.mask (thash P w k) c ∈ t.place.toList) → Q (.free (way t.mask (thash P w k) K) false) s) :
    wpAny (model P w) A (setSearch a (.ref x) (thash P w k) true) Q E s := by
  have hroom := R.room
  obtain ⟨K, hKf, hK, hKb⟩ := R.tab.first (by rw [List.length_map]; omega) (thash P w k)
  have hbig := R.tab.small
  unfold setSearch
  refine seek R hx hu hKf hK hKb hin (fun hn => hout K hn hK hKb) 100000 0 none rfl (Nat.zero_le _) (by omega) fun i p hp hk => ?_
  have hi : (L.map fun p => thash P w p.2)[i]? = some (thash P w k) := by rw [List.getElem?_map, hp, ← hk] <;> rfl
  have hil : i < t.place.toList.length := by
    rw [R.tab.plen, List.length_map]
    exact (List.getElem?_eq_some_iff.mp hp).1
  have hj := List.getElem?_eq_getElem hil
  obtain ⟨c, hc, e⟩ := (R.tab.rch i _ _ hi hj).before (List.mem_of_getElem? hj) hK
  exact ⟨c, Nat.zero_le _, hc, by rw [hj, e]⟩
end
end DS
end
section
set_option Elab.async false
set_option linter.all false
set_option maxRecDepth 100000
set_option maxHeartbeats 4000000
/-! A set of int tuples: grown, added to, made of a list. -/
namespace DS
open PySem PySem.Spec PyProof.Rows L2
section
variable {P : Program} {w : World} {A : Around} {E : Value → Shared → Prop} {s : Shared} {a : Addr} {L : List (Addr × List Int)} {es : Array (Int × Value)} {ep : Nat} {t : SetTable}
theorem grow {o : Obj} (ho : s.heap.get? a = some o) (hex : o.ExactSet) (hd : o.data = .set es ep t) (hrows : es.toList = rowsOf P w L) (hsz : t.place.size = es.size) (hdm : t.dummies = #[]) (hfl : es.size ≤ t.mask)
    (nd : (L.map (·.2)).Nodup) (tup : ∀ p ∈ L, IsT P w s.heap p.2 p.1) (pl : t.plain = true) (ld : w.params.followText "set-order" = true ∨ t.led = true) (few : L.length ≤ most) {wanted M : Nat}
    (hw : SetTable.sizeAbove wanted - 1 = M) (hM : MaskG M) (hw2 : SetTable.sizeAbove wanted ≤ 2048) (hn : L.length * 5 < M * 3) {Q : Unit → Shared → Prop}
    (hQ : ∀ h' L' es' ep' t', Heap.SameBut a s.heap h' → SetG P w h' a L' es' ep' t' → L'.Perm L → Q () { s with heap := h' }) : wpAny (model P w) A (setRelay a wanted) Q E s := by
  have hsl := rows_len hrows
  have few' : L.length ≤ 1228 := few
  obtain ⟨t', order, e, hp, T, em, el, ep', ed⟩ := relaid_okG t (hs := es.map (·.1)) (wanted := wanted) hw hM (by rw [Array.size_map, hsl]; omega)
  rw [Array.size_map, hsl] at hp
  obtain ⟨L2, r1, r2, r3⟩ := order_rows L es order hrows hp
  rw [← r3] at T
  have hs2 : (order.filterMap (es[·]?)).size = es.size := by rw [rows_len r1, r2.length_eq, hsl]
  rw [setRelay_eq]
  refine wpAny_bind (wpAny_setState_of ho hd (fits_of hsz hdm hfl) ?_)
  dsimp only
  refine wp_if_neg (by rw [sizeLine_eq]; omega) ?_
  try refine wpAny_bind (wpAny_pure ?_)
  rw [e]
  dsimp only
  refine wpAny_bind ?_
  refine wp_if_neg (by rw [hs2]; simp) ?_
  try refine wpAny_bind (wpAny_pure ?_)
  refine wpAny_pure ?_
  dsimp only
  refine wpAny_storeSet_of ho hd ?_ (by rw [hs2, hsl, sizeLine_eq]; omega)
  have sb : Heap.SameBut a s.heap (s.heap.update a (Obj.putSet (order.filterMap (es[·]?)) t')) := Heap.SameBut.update ..
  exact hQ _ L2 _ (ep + 1) t' sb ⟨⟨_, store_at ho hd, ⟨hex.1, hex.2.1, hex.2.2⟩, rfl⟩, r1, T, (r2.map (·.2)).nodup_iff.mpr nd, fun p hpm => isT_same (tup p (r2.mem_iff.mp hpm)) ho hd sb, by rw [ep']; exact pl, by rw [el]; exact ld, by rw [r2.length_eq, em]; exact hn, by rw [r2.length_eq]; exact few⟩ r2
theorem add (R : SetG P w s.heap a L es ep t) {x : Addr} {k : List Int} (hx : IsT P w s.heap k x) (hu : A.units < cLine) (hfew : L.length + 1 ≤ most) {Q : Bool → Shared → Prop}
    (hQ : ∀ b h' L' es' ep' t', Heap.SameBut a s.heap h' → SetG P w h' a L' es' ep' t' → (k ∈ L.map (·.2) → L' = L) → (k ∉ L.map (·.2) → L'.Perm ((x, k) :: L)) → Q b { s with heap := h' }) :
    wpAny (model P w) A (setAddHashed a (.ref x) (thash P w k)) Q E s := by
  obtain ⟨o, ho, hex, hd⟩ := R.ob
  have hsl := R.size
  have hroom := R.room
  have few' : L.length + 1 ≤ 1228 := hfew
  unfold setAddHashed
  refine wpAny_holding ?_
  rw [show (100000 : Nat) = 99999 + 1 from rfl, setAddHashedIn_succ]
  refine wpAny_bind (wpAny_setState_of ho hd R.fits ?_)
  dsimp only
  refine wp_if_neg (by simp [byScan, Value.scannable]) ?_
  try refine wpAny_bind (wpAny_pure ?_)
  refine wpAny_bind (seek_at R hx hu (fun hm => ?_) fun K hm hK hb => ?_)
  · dsimp only
    exact wpAny_pure (hQ false s.heap L es ep t (Heap.SameBut.refl a s.heap) R (fun _ => rfl) fun z => absurd hm z)
  · dsimp only
    refine wpAny_bind (wpAny_setState_of ho hd R.fits ?_)
    dsimp only
    obtain ⟨q3, q2, q9⟩ := R.tab.put hK (way_bd _ _ _) ⟨K, rfl, hb⟩
    have q4 : (t.put (way t.mask (thash P w k) K)).1.mask = t.mask := rfl
    have q5 : (t.put (way t.mask (thash P w k) K)).1.led = t.led := rfl
    have hp1 : (t.put (way t.mask (thash P w k) K)).1.plain = true := R.plain
    generalize t.put (way t.mask (thash P w k) K) = pt at q2 q3 q4 q5 q9 hp1 ⊢
    obtain ⟨t1, p⟩ := pt
    dsimp only at q2 q3 q4 q5 q9 hp1 ⊢
    first
      | (refine wpAny_bind ?_; refine wp_if_pos hp1 ?_; refine hashBy_tup hx ?_)
      | refine wp_if_pos hp1 (wpAny_bind (hashBy_tup hx ?_))
    simp only [if_true]
    have hin : (SetTable.insertAt es p (thash P w k, Value.ref x)).toList = rowsOf P w (L.take p ++ (x, k) :: L.drop p) := by rw [SetTable.toList_insertAt, rows_put, R.rows]
    have pm := put_perm L p (x, k)
    have hlen : (L.take p ++ (x, k) :: L.drop p).length = L.length + 1 := pm.length_eq
    have hhs : (L.take p ++ (x, k) :: L.drop p).map (fun p => thash P w p.2) = (L.map fun p => thash P w p.2).take p ++ thash P w k :: (L.map fun p => thash P w p.2).drop p := by
      rw [List.map_append, List.map_cons, List.map_take, List.map_drop]
    rw [← hhs] at q3
    rw [List.length_map] at q9
    have nd1 : ((L.take p ++ (x, k) :: L.drop p).map (·.2)).Nodup := by
      refine (pm.map (·.2)).nodup_iff.mpr ?_
      rw [List.map_cons]
      exact List.nodup_cons.mpr ⟨hm, R.nd⟩
    have hes : (SetTable.insertAt es p (thash P w k, Value.ref x)).size = L.length + 1 := by rw [rows_len hin, hlen]
    generalize SetTable.insertAt es p (thash P w k, Value.ref x) = es1 at hin hes ⊢
    generalize L.take p ++ (x, k) :: L.drop p = L1 at pm hlen q3 nd1 hin
    refine wpAny_bind (wpAny_storeSet_of ho hd ?_ (by rw [hes, sizeLine_eq]; omega))
    have sb : Heap.SameBut a s.heap (s.heap.update a (Obj.putSet es1 t1)) := Heap.SameBut.update ..
    have ho1 := store_at (es' := es1) (t' := t1) ho hd
    generalize s.heap.update a (Obj.putSet es1 t1) = h1 at sb ho1 ⊢
    have tup1 : ∀ p ∈ L1, IsT P w h1 p.2 p.1 := fun p hp => by
      rcases List.mem_cons.mp (pm.mem_iff.mp hp) with e | hp
      · rw [e]; exact isT_same hx ho hd sb
      · exact isT_same (R.tup p hp) ho hd sb
    have ld1 : w.params.followText "set-order" = true ∨ t1.led = true := by rw [q5]; exact R.led
    have hf : t1.tooFull = decide ((L.length + 1) * 5 ≥ t.mask * 3) := by unfold SetTable.tooFull; rw [q9, q4]
    by_cases hfull : (L.length + 1) * 5 ≥ t.mask * 3
    · have hf' : t1.tooFull = true := by rw [hf]; exact decide_eq_true hfull
      first
        | (refine wpAny_bind ?_; refine wp_if_pos (by simp [hf']) ?_)
        | (refine wp_if_pos (by simp [hf']) ?_; refine wpAny_bind ?_)
      rw [hsl]
      have hsz1 : t1.place.size = es1.size := by rw [q3.sz, List.length_map, hlen, hes]
      obtain ⟨M, e1, hM, e2, e3⟩ : ∃ M, SetTable.sizeAbove (SetTable.grown (L.length + 1)) - 1 = M ∧ MaskG M ∧ SetTable.sizeAbove (SetTable.grown (L.length + 1)) ≤ 2048 ∧ (L.length + 1) * 5 < M * 3 := by
        rcases R.tab.mok with e | e | e | e | e
        · have z : L.length + 1 = 5 := by omega
          rw [z, sz5]
          exact ⟨31, rfl, .inr (.inl rfl), by decide, by decide⟩
        · have z : L.length + 1 = 19 := by omega
          rw [z, sz19]
          exact ⟨127, rfl, .inr (.inr (.inl rfl)), by decide, by decide⟩
        · have z : L.length + 1 = 77 := by omega
          rw [z, sz77]
          exact ⟨511, rfl, .inr (.inr (.inr (.inl rfl))), by decide, by decide⟩
        · have z : L.length + 1 = 307 := by omega
          rw [z, sz307]
          exact ⟨2047, rfl, .inr (.inr (.inr (.inr rfl))), by decide, by decide⟩
        · omega
      refine grow (s := { s with heap := h1 }) ho1 ⟨hex.1, hex.2.1, hex.2.2⟩ rfl hin hsz1 q3.dm (by rw [hes, q4]; rcases R.tab.mok with e | e | e | e | e <;> omega) nd1 tup1 hp1 ld1 (by rw [hlen]; exact hfew) e1 hM e2 (by rw [hlen]; exact e3) ?_
      intro h2 L2 es2 ep2 t2 sb2 R2 pm2
      exact wpAny_pure (hQ true h2 L2 es2 ep2 t2 (sb.trans sb2) R2 (fun z => absurd z hm) fun _ => pm2.trans pm)
    · have hf' : t1.tooFull = false := by rw [hf]; exact decide_eq_false hfull
      first
        | refine wp_if_neg (by simp [hf']) ?_
        | (refine wpAny_bind ?_; refine wp_if_neg (by simp [hf']) ?_; refine wpAny_pure ?_)
      exact wpAny_pure (hQ true h1 L1 es1 (ep + 1) t1 sb ⟨⟨_, ho1, ⟨hex.1, hex.2.1, hex.2.2⟩, rfl⟩, hin, q3, nd1, tup1, hp1, ld1, by rw [hlen, q4]; omega, by rw [hlen]; exact hfew⟩ (fun z => absurd z hm) fun _ => pm)
theorem SetG.keep {h h' : Heap} (R : SetG P w h a L es ep t) (ha : ∀ o, h.get? a = some o → h'.get? a = some o) (ht : ∀ p ∈ L, IsT P w h' p.2 p.1) : SetG P w h' a L es ep t :=
  let ⟨o, ho, r⟩ := R.ob; ⟨⟨o, ha o ho, r⟩, R.rows, R.tab, R.nd, ht, R.plain, R.led, R.room, R.few⟩
theorem fresh {h : Heap} (ho : h.get? a = some { cls := .type "set", dict := none, data := .set #[] 0 (.fresh 0 0 (!w.params.followText "set-order")) }) : SetG P w h a [] #[] 0 (.fresh 0 0 (!w.params.followText "set-order")) where
  ob := ⟨_, ho, ⟨rfl, rfl, rfl⟩, rfl⟩
  rows := rfl
  tab := ⟨List.Pairwise.nil, rfl, rfl, .inl rfl, fun x hx => (by cases hx), fun i h j hi => (by simp at hi)⟩
  nd := List.nodup_nil
  tup := fun p hp => (by cases hp)
  plain := rfl
  led := by
    show _ ∨ (!w.params.followText "set-order") = true
    cases w.params.followText "set-order"
    · exact .inr rfl
    · exact .inl rfl
  room := by
    show 0 * 5 < 7 * 3
    decide
  few := Nat.zero_le _
/-- set.update's loop over the list's items -/
theorem loop {I : Addr} {fp wr : List Addr} {G : Array GenState → Array GenState → Prop} {n : Nat} {Pv : Nat → Value → Prop} {St : Nat → Shared → Prop} {Rs : Result → Shared → Prop}
    (W : WalksS P w A.in1 I fp wr G n Pv St) (S : Addr) (hSf : S ∉ fp) (ks : List (Addr × List Int)) (hn : n = ks.length) (hfew : ks.length ≤ most) (hval : ∀ i v, Pv i v → ∃ p, ks[i]? = some p ∧ v = .ref p.1)
    (h0 : Heap) (hk : ∀ p ∈ ks, IsT P w h0 p.2 p.1) (hS0 : h0.get? S = none) (hw0 : ∀ b ∈ wr, h0.get? b = none) (hu : A.in1.units < cLine) :
    ∀ (k i : Nat) (s : Shared), n - i = k → i ≤ n → St i s → (∀ b o, h0.get? b = some o → s.heap.get? b = some o) → (∃ L es ep t, SetG P w s.heap S L es ep t ∧ Got ks i L) →
      (∀ s' L es ep t, Moved (S :: wr) G s s' → SetG P w s'.heap S L es ep t → Got ks n L → (∀ b o, h0.get? b = some o → s'.heap.get? b = some o) → Rs (.ok (.ret .none)) s') →
      codeAny (model P w) A (.builtin "set.update.loop" ⟨[.ref S, .ref I], []⟩) Rs s := by
  have hSw : S ∉ wr := fun h => hSf (W.sub _ h)
  have hsub : ∀ b ∈ wr, b ∈ S :: wr := fun b hb => List.mem_cons_of_mem _ hb
  have keepM : ∀ {s s' : Shared}, Moved wr G s s' → (∀ b o, h0.get? b = some o → s.heap.get? b = some o) → ∀ b o, h0.get? b = some o → s'.heap.get? b = some o := fun hm hkp b o e =>
    hm.heap b o (fun hb => by rw [hw0 b hb] at e; cases e) (hkp b o e)
  intro k
  induction k with
  | zero =>
    intro i s hk' hi hst hkp ⟨L, es, ep, t, hS, g⟩ hR
    obtain rfl : i = n := by omega
    refine codeAny_builtin F.entry_set_update_loop ?_
    rw [Around.under_plainId F.plain_set_update_loop _]
    show wpAny _ A.in1 (pyNext (.ref I) >>= _) _ _ s
    refine wpAny_bind (W.done s _ _ hst fun s' hm => ?_)
    show wpAny _ A.in1 (ret Value.none) _ _ s'
    have hkp' := keepM hm hkp
    exact wpAny_pure (hR s' L es ep t (hm.mono hsub) (hS.keep (fun o e => hm.heap S o hSw e) fun p hp => isT_keep (hk p (List.mem_of_mem_take (g.sub p hp))) hkp') g hkp')
  | succ k ih =>
    intro i s hk' hi hst hkp ⟨L, es, ep, t, hS, g⟩ hR
    have hlt : i < n := by omega
    refine codeAny_builtin F.entry_set_update_loop ?_
    rw [Around.under_plainId F.plain_set_update_loop _]
    show wpAny _ A.in1 (pyNext (.ref I) >>= _) _ _ s
    refine wpAny_bind (W.item i s _ _ hlt hst fun v s' hP hst' hm => ?_)
    obtain ⟨p, hp, rfl⟩ := hval i v hP
    have hkp' := keepM hm hkp
    have hS' : SetG P w s'.heap S L es ep t := hS.keep (fun o e => hm.heap S o hSw e) fun q hq => isT_keep (hk q (List.mem_of_mem_take (g.sub q hq))) hkp'
    have hx : IsT P w s'.heap p.2 p.1 := isT_keep (hk p (List.mem_of_getElem? hp)) hkp'
    show wpAny _ A.in1 (holding [Value.ref p.1] (setAdd S (.ref p.1)) >>= _) _ _ s'
    refine wpAny_bind (wpAny_holding ?_)
    unfold setAdd
    refine wpAny_holding ?_
    refine wpAny_bind (wpAny_pyHash_tuple hu hx ?_)
    refine add (s := { s' with toks := s'.toks + (p.2.length + 1) }) hS' hx hu (by have := g.len; omega) fun b h' L' es' ep' t' hsb hS2 c1 c2 => ?_
    have g' : Got ks (i + 1) L' := by
      rcases Classical.em (p.2 ∈ L.map (·.2)) with c | c
      · rw [c1 c]; exact g.same hp c
      · exact g.more hp (c2 c)
    have hkp2 : ∀ b o, h0.get? b = some o → h'.get? b = some o := fun b o e => (hsb.2 b (fun z => by rw [z, hS0] at e; cases e)).trans (hkp' b o e)
    refine wpAny_pure ⟨plainId_quiet F.plain_set_update_loop _, ih (i + 1) _ (by omega) hlt (W.frame _ s' _ _ hst' (Nat.le_add_right _ _) fun b hb o e => ?_) hkp2 ⟨L', es', ep', t', hS2, g'⟩ fun s'' L2 es2 ep2 t2 hm'' hS'' g'' hkp'' => ?_⟩
    · rw [hsb.2 b (fun h : b = S => hSf (by rw [← h]; exact hb))]; exact e
    · refine hR s'' L2 es2 ep2 t2 (Moved.trans W.gtrans ((hm.mono hsub).then_heap (Nat.le_add_right _ _) fun b o hb e => ?_) hm'') hS'' g'' hkp''
      rw [hsb.2 b (fun h : b = S => hb (by rw [h]; exact List.mem_cons_self))]; exact e
end
end DS
end
section
set_option Elab.async false
set_option linter.all false
set_option maxRecDepth 100000
set_option maxHeartbeats 6400000
/-! sorted(set(a list of int tuples)). -/
namespace DS
open PySem PySem.Spec PyProof.Rows L2
section
variable {P : Program} {w : World} {A : Around} {E : Value → Shared → Prop} {s : Shared}
abbrev freshSet (w : World) : Obj := { cls := .type "set", dict := none, data := .set #[] 0 (.fresh 0 0 (!w.params.followText "set-order")) }
theorem call_set {l : Addr} {items : Array Value} (ks : List (Addr × List Int)) {Q : Value → Shared → Prop} (hh : A.handled = none) (hl : s.heap.IsList l items) (hit : items.toList = ks.map fun p => Value.ref p.1)
    (hk : ∀ p ∈ ks, IsT P w s.heap p.2 p.1) (hfew : ks.length ≤ most) (hu : A.units + 3 < cLine)
    (h : ∀ (h' : Heap) (tk : Nat) L es ep t, SetG P w h' s.heap.objs.size L es ep t → Got ks ks.length L → (∀ b o, s.heap.get? b = some o → h'.get? b = some o) → Q (.ref s.heap.objs.size) { s with heap := h', toks := tk }) :
    wpAny (model P w) A (call (.type "set") [.ref l]) Q E s := by
  have hisz : items.size = ks.length := by
    have q := congrArg List.length hit
    rw [Array.length_toList, List.length_map] at q
    exact q
  obtain ⟨c, tl, hmro⟩ := F.called_set.mro
  have hmade := F.called_set.made
  have hsub := F.called_set.sub
  refine wpAny_call (codeAny_of_tree ?_)
  show wpAny _ _ (callAny (.type "set") _) _ _ _
  refine wpAny_pure ⟨Code.quiet_builtin _ (by decide +kernel), codeAny_builtin F.entry_type_call ?_⟩
  rw [Around.under_plain (weight_type_call_type "set" [.ref l] []) rfl]
  have h1 := F.called_set.notType
  have h2 := F.called_set.canCreate
  have hct := F.typeCall_set_1 (.ref l)
  repeat (any_goals (first | assumption | wp_step))
  refine codeAny_mono (code_set_led1 (.ref l) (E := E) (Q₁ := fun obj s₁ => obj = .ref s.heap.objs.size ∧ s₁ = { s with heap := s.heap.push (freshSet w) }) ⟨rfl, rfl⟩) fun r s₁ hr => ?_
  cases r with
  | error e => exact hr
  | ok fl =>
    cases fl with
    | ret obj =>
      obtain ⟨rfl, rfl⟩ := hr
      have hS : (s.heap.push (freshSet w)).get? s.heap.objs.size = some (freshSet w) := Heap.get?_push_size _ rfl
      have hT : Shared.TypeIs { s with heap := s.heap.push (freshSet w) } (.ref s.heap.objs.size) "set" := ⟨_, hS, rfl⟩
      have hli := F.called_set.init.lookup
      have hbi := F.called_set.init.bind (.ref s.heap.objs.size)
      repeat (any_goals (first | assumption | wp_step))
      refine codeAny_mono (codeAny_call_builtin (R := wants (fun r s₂ => r = .none ∧ ∃ h' tk L es ep t, s₂ = { s with heap := h', toks := tk } ∧ SetG P w h' s.heap.objs.size L es ep t ∧ Got ks ks.length L ∧
          (∀ b o, s.heap.get? b = some o → h'.get? b = some o)) E) F.called_set.init.plain F.entry_set_init (check_set_init_1 hT ?_)) fun r₂ s₂ hr₂ => ?_
      · obtain ⟨ol, hol, hcl, nl, hdl⟩ := hl
        obtain ⟨ocls, odict, odata, oslots⟩ := ol
        simp only at hcl hdl
        subst hcl; subst hdl
        have hol' : (s.heap.push (freshSet w)).get? l = some { cls := .type "list", dict := odict, data := .seq items nl, slots := oslots } := Heap.get?_push_of_some _ hol
        have hsls := F.sub_list_set
        have hslf := F.sub_list_frozenset
        have hne : (Value.type "list" == Value.type "dict") = false := by decide
        have hl1 : (s.heap.push (freshSet w)).IsList l items := ⟨_, hol', rfl, nl, rfl⟩
        unfold Builtin.«set.__init__» noKeywords Builtin.Frozenset.updateFrom
        generalize hPI : pyIter = PI
        wp_walk
        subst hPI
        refine wpAny_pyIter_list hl1 ?_
        refine wpAny_bind (wpAny_runValue ?_)
        have hlS : l < s.heap.objs.size := Heap.lt_size hol
        have hh3 : A.in1.in1.in1.handled = none := by simp [hh]
        have hneI : l ≠ (s.heap.push (freshSet w)).objs.size := by
          rw [Heap.size_push]; exact Nat.ne_of_lt (Nat.lt_succ_of_lt hlS)
        have hSf : s.heap.objs.size ∉ [(s.heap.push (freshSet w)).objs.size, l] := by
          rw [Heap.size_push]; simp only [List.mem_cons, List.mem_singleton, List.not_mem_nil, or_false, not_or]
          exact ⟨Nat.ne_of_lt (Nat.lt_succ_self _), Nat.ne_of_gt hlS⟩
        have hval : ∀ (i : Nat) (v : Value), items[i]? = some v → ∃ p, ks[i]? = some p ∧ v = .ref p.1 := fun i v hv => by
          have q : items.toList[i]? = some v := by rw [Array.getElem?_toList]; exact hv
          rw [hit, List.getElem?_map] at q
          cases hq : ks[i]? with
          | none => rw [hq] at q; cases q
          | some p => rw [hq] at q; exact ⟨p, rfl, (Option.some.inj q).symm⟩
        have none_of : ∀ b, s.heap.objs.size ≤ b → s.heap.get? b = none := fun b hb => by
          cases q : s.heap.get? b with
          | none => rfl
          | some o => exact absurd (Nat.lt_of_lt_of_le (Heap.lt_size q) hb) (Nat.lt_irrefl _)
        refine loop ((Walks.list hh3 _ l hneI items).toS) s.heap.objs.size
          hSf ks hisz hfew hval s.heap hk (none_of _ (Nat.le_refl _)) (fun b hb => none_of b (by
            rw [List.mem_singleton.mp hb, Heap.size_push]
            exact Nat.le_succ _)) hu (items.size - 0) 0 _ (by omega) (Nat.zero_le _)
          ⟨⟨_, Heap.get?_push_size _ rfl, rfl, rfl⟩, (hl1.push _)⟩ (fun b o e => Heap.get?_push_of_some _ (Heap.get?_push_of_some _ e)) ?hS0 ?hR
        case hS0 =>
          exact ⟨[], #[], 0, _, fresh (Heap.get?_push_of_some _ hS), Got.zero ks⟩
        case hR =>
          intro s' L es ep t hm hS' g' hkp
          obtain ⟨h', g2, d', tk', os'⟩ := s'
          obtain rfl : g2 = s.gens := hm.gens
          obtain rfl : d' = s.drawn := hm.drawn
          obtain rfl : os' = s.os := hm.os
          show wpAny _ _ _ _ _ _
          refine wpAny_pure ?_
          show wpAny _ _ (ret Value.none) _ _ _
          rw [hisz] at g'
          exact wpAny_pure ⟨rfl, h', tk', L, es, ep, t, rfl, hS', g', hkp⟩
      · cases r₂ with
        | error e => exact hr₂
        | ok fl₂ =>
          cases fl₂ with
          | ret r =>
            obtain ⟨rfl, h', tk, L, es, ep, t, rfl, hS', g', hk'⟩ := hr₂
            repeat (any_goals (first | assumption | wp_step))
            exact h _ _ _ _ _ _ hS' g' hk'
          | _ => exact hr₂.elim
    | _ => exact hr.elim
/-- what a tuple of ints reads as -/
theorem reads_of0 {h : Heap} {k : List Int} {b : Addr} (x : IsT P w h k b) : Reads h (.ref b) (.tuple (k.map .int)) [] := by
  obtain ⟨o, items, n, ho, hc, hd, hi⟩ := x
  have key : ∀ {k : List Int} {vs : List Value}, ItemsAre (intKind P w) k vs → ReadsAll h vs (k.map .int) [] := by
    intro k vs hi
    induction hi with
    | nil => exact .nil
    | @cons k0 v ks vs h1 _ ih =>
      obtain ⟨t, rfl⟩ := Value.isInt_shape h1
      exact .cons (as := []) (bs := []) (.int _ _) ih
  exact .tuple ho hc hd (key hi)
theorem reads_of {h : Heap} {k : List Int} {b : Addr} (x : IsT P w h k b) : ∃ as, Reads h (.ref b) (.tuple (k.map .int)) as := by
  obtain ⟨o, items, n, ho, hc, hd, hi⟩ := x
  have key : ∀ {k : List Int} {vs : List Value}, ItemsAre (intKind P w) k vs → ∃ as, ReadsAll h vs (k.map .int) as := by
    intro k vs hi
    induction hi with
    | nil => exact ⟨_, .nil⟩
    | @cons k0 v ks vs h1 _ ih =>
      obtain ⟨t, rfl⟩ := Value.isInt_shape h1
      obtain ⟨as, r⟩ := ih
      exact ⟨_, .cons (.int _ _) r⟩
  obtain ⟨as, r⟩ := key hi
  exact ⟨as, .tuple ho hc hd r⟩
end
end DS
end
section
set_option Elab.async false
set_option linter.all false
set_option maxRecDepth 100000
set_option maxHeartbeats 4000000
namespace DS
open PySem PySem.Spec PyProof.Rows L2
def mkT (ns : List Int) : PyData := .tuple (ns.map .int)
def dd : List (List Int) → List (List Int)
  | [] => []
  | x :: r => if x ∈ dd r then dd r else x :: dd r
theorem dd_mem : ∀ {l : List (List Int)} {x : List Int}, x ∈ dd l ↔ x ∈ l
  | [], _ => Iff.rfl
  | y :: r, x => by
    unfold dd
    by_cases h : y ∈ dd r
    · rw [if_pos h, dd_mem, List.mem_cons]
      exact ⟨.inr, fun z => z.elim (fun e => by rw [e]; exact dd_mem.mp h) id⟩
    · rw [if_neg h, List.mem_cons, List.mem_cons, dd_mem]
theorem dd_nodup : ∀ l : List (List Int), (dd l).Nodup
  | [] => List.nodup_nil
  | y :: r => by
    unfold dd
    by_cases h : y ∈ dd r
    · rw [if_pos h]; exact dd_nodup r
    · rw [if_neg h]; exact List.nodup_cons.mpr ⟨h, dd_nodup r⟩
def srtSet (nss : List (List Int)) : List (List Int) := (dd nss).mergeSort fun p q => decide (p ≤ q)
theorem perm_map_inv {α β : Type} {f : α → β} : ∀ {us vs : List β}, us.Perm vs → ∀ L : List α, us = L.map f → ∃ L1 : List α, L1.Perm L ∧ vs = L1.map f := by
  intro us vs h
  induction h with
  | nil => exact fun L e => ⟨L, .refl _, e⟩
  | cons x p ih =>
    intro L e
    cases L with
    | nil => cases e
    | cons y L =>
      rw [List.map_cons] at e
      obtain ⟨e1, e2⟩ := List.cons.inj e
      obtain ⟨L1, h1, h2⟩ := ih L e2
      exact ⟨y :: L1, h1.cons y, by rw [List.map_cons, ← h2, ← e1]⟩
  | swap x y l =>
    intro L e
    match L, e with
    | [], e => cases e
    | [_], e => cases e
    | p :: q :: L, e =>
      rw [List.map_cons, List.map_cons] at e
      obtain ⟨e1, e2⟩ := List.cons.inj e
      obtain ⟨e2, e3⟩ := List.cons.inj e2
      exact ⟨q :: p :: L, .swap _ _ _, by rw [List.map_cons, List.map_cons, ← e1, ← e2, ← e3]⟩
  | trans p1 p2 ih1 ih2 =>
    intro L e
    obtain ⟨L1, h1, h2⟩ := ih1 L e
    obtain ⟨L2, h3, h4⟩ := ih2 L1 h2
    exact ⟨L2, h3.trans h1, h4⟩
theorem alike_mk (p q : List Int) : PySem.W.alike (mkT p) (mkT q) = true := by
  unfold mkT
  rw [PySem.W.alike]
  exact PySem.W.alike_ints p q
theorem depth_mk (p : List Int) : (mkT p).depth ≤ 1 := by
  unfold mkT
  rw [PyData.depth, PySem.W.depth_ints]
  exact Nat.le_refl _
theorem le_tup (p q : List Int) : PySem.W.dataLe false (fun d => d) (mkT p) (mkT q) = decide (p ≤ q) := by
  have h := congrFun (congrFun (PySem.W.dataLe_rows (fun b : List Int => b)) p) q
  rw [← h]
  show (!PySem.W.dataLt (mkT q) (mkT p)) = !PySem.W.dataLt (.list (q.map .int)) (.list (p.map .int))
  unfold mkT
  rw [PySem.W.dataLt_tuple, PySem.W.dataLt_list]
theorem srt_map (nss : List (List Int)) : (nss.map mkT).mergeSort (PySem.W.dataLe false fun d => d) = (nss.mergeSort fun p q => decide (p ≤ q)).map mkT :=
  (List.map_mergeSort fun a _ b _ => (le_tup a b).symm).symm
theorem int_le_tot (p q : List Int) : (decide (p ≤ q) || decide (q ≤ p)) = true := by
  rw [Bool.or_eq_true, decide_eq_true_eq, decide_eq_true_eq]
  exact List.le_total p q
theorem srt_perm {l m : List (List Int)} (h : l.Perm m) : (l.mergeSort fun p q => decide (p ≤ q)) = m.mergeSort fun p q => decide (p ≤ q) := by
  have tr : ∀ a b c : List Int, decide (a ≤ b) = true → decide (b ≤ c) = true → decide (a ≤ c) = true := fun a b c h1 h2 => decide_eq_true (List.le_trans (of_decide_eq_true h1) (of_decide_eq_true h2))
  refine List.Perm.eq_of_pairwise (le := fun p q => decide (p ≤ q) = true) (fun a b _ _ h1 h2 => List.le_antisymm (of_decide_eq_true h1) (of_decide_eq_true h2)) (List.pairwise_mergeSort tr int_le_tot _) (List.pairwise_mergeSort tr int_le_tot _) ?_
  exact ((List.mergeSort_perm _ _).trans h).trans (List.mergeSort_perm _ _).symm
theorem srtSet_of {L nss : List (List Int)} (nd : L.Nodup) (h : ∀ x, x ∈ L ↔ x ∈ nss) : (L.mergeSort fun p q => decide (p ≤ q)) = srtSet nss := by
  refine srt_perm ((List.perm_ext_iff_of_nodup nd (dd_nodup nss)).mpr fun x => ?_)
  rw [h, dd_mem]
section
variable {P : Program} {w : World} {A : Around} {E : Value → Shared → Prop} {s : Shared} {a : Addr} {L : List (Addr × List Int)} {es : Array (Int × Value)} {ep : Nat} {t : SetTable}
theorem sorted_set {Q : Value → Shared → Prop} (R : SetG P w s.heap a L es ep t) (hh : A.handled = none) (hu : A.units + 100 < cLine) (hne : ∀ p ∈ L, p.2 ≠ [])
    (hQ : ∀ s' p (out : List Value) (c : Nat), (∀ b o, s.heap.get? b = some o → s'.heap.get? b = some o) → s'.gens = s.gens → s'.os = s.os → s.heap.objs.size ≤ p →
      s'.heap.get? p = some (seqObj "list" out.toArray c) → PySem.W.EachIs (fun v d => ∃ q ∈ L, v = Value.ref q.1 ∧ d = mkT q.2) out ((((L.map (·.2)).mergeSort fun p q => decide (p ≤ q))).map mkT) → Q (.ref p) s') :
    wpAny (model P w) A (call (.builtin "sorted") [.ref a]) Q E s := by
  obtain ⟨o, ho, hex, hd⟩ := R.ob
  have hsz := R.size
  have hfew : L.length ≤ 1228 := R.few
  refine Calls.call_function_entry kind_sorted plain_sorted entry_sorted (args_sorted1 _) ?_
  unfold Builtin.«sorted»
  refine wpAny_bind (m := checkCount "sorted" 1 1 _) (wpAny_pure ?_)
  refine wpAny_bind (collect_set (A := A.in1) hh ⟨o, ho, hex.1, hd⟩ R.fits (by unfold scanBound; omega) R.tab.ris R.led fun s1 vs k1 hz g1 o1 pm => ?_)
  have hes : es.toList.map (·.2) = L.map fun q => Value.ref q.1 := by
    rw [R.rows]
    unfold rowsOf
    rw [List.map_map] <;> rfl
  rw [hes] at pm
  -- the order that came
  obtain ⟨L1, rfl, pL⟩ : ∃ L1 : List (Addr × List Int), vs = L1.map (fun q => Value.ref q.1) ∧ L1.Perm L := by
    obtain ⟨L1, h1, h2⟩ := perm_map_inv pm.symm L rfl
    exact ⟨L1, h2, h1⟩
  have hvl : (L1.map fun q => Value.ref q.1).length ≤ 1228 := by rw [List.length_map, pL.length_eq]; exact hfew
  refine wpAny_bind (wpAny_newList ?_ (by rw [sizeLine_eq]; omega))
  have hoL : (s1.heap.push (seqObj "list" (L1.map fun q => Value.ref q.1).toArray 0)).get? s1.heap.objs.size = some (seqObj "list" (L1.map fun q => Value.ref q.1).toArray 0) := Heap.get?_push_size _ rfl
  have tk : ∀ q ∈ L, IsT P w (s1.heap.push (seqObj "list" (L1.map fun q => Value.ref q.1).toArray 0)) q.2 q.1 := fun q hq => isT_keep (R.tup q hq) fun b u e => Heap.get?_push_of_some _ (k1 b u e)
  have each : ∀ (l : List (Addr × List Int)) (f : Addr × List Int → Prop), (∀ q ∈ l, f q) → ∀ (T : Value → PyData → Prop), (∀ q, f q → T (.ref q.1) (mkT q.2)) → PySem.W.EachIs T (l.map fun q => Value.ref q.1) (l.map fun q => mkT q.2) := by
    intro l f hf T hT
    induction l with
    | nil => exact .nil
    | cons q l ih => exact .cons (hT q (hf q List.mem_cons_self)) (ih fun r hr => hf r (List.mem_cons_of_mem _ hr))
  have e1 := each L1 (· ∈ L) (fun q hq => pL.mem_iff.mp hq) (fun v d => ∃ q ∈ L, v = Value.ref q.1 ∧ d = mkT q.2) (fun q hq => ⟨q, hq, rfl, rfl⟩)
  have e2 := each L1 (· ∈ L) (fun q hq => pL.mem_iff.mp hq) (fun v d => ∃ as, Reads (s1.heap.push (seqObj "list" (L1.map fun q => Value.ref q.1).toArray 0)) v d as ∧ s1.heap.objs.size ∉ as) (fun q hq => by
    exact ⟨[], reads_of0 (tk q hq), fun z => (by cases z)⟩)
  refine wpAny_bind (wpAny_holding (PySem.W.list_sort_data (s := { s1 with heap := s1.heap.push (seqObj "list" (L1.map fun q => Value.ref q.1).toArray 0) }) (enc := fun d => d) hoL e1 e2 ?_ ?_ (by rw [List.length_map, ← List.length_map (f := fun q => Value.ref q.1), sizeLine_eq]; omega) (fun b hb => ?_) fun out hol ho2 => ?_))
  · intro d hd d' hd'
    rw [List.map_id'] at hd hd'
    obtain ⟨p, _, rfl⟩ := List.mem_map.mp hd
    obtain ⟨q, _, rfl⟩ := List.mem_map.mp hd'
    exact alike_mk _ _
  · refine .inl fun d hd => ?_
    rw [List.map_id'] at hd
    obtain ⟨p, hp, rfl⟩ := List.mem_map.mp hd
    have hn := hne p (pL.mem_iff.mp hp)
    cases e : p.2 with
    | nil => exact absurd e hn
    | cons x r => exact ⟨_, _, rfl⟩
  · obtain ⟨p, _, rfl⟩ := List.mem_map.mp hb
    have := depth_mk p.2
    show A.in1.units + 1 + (mkT p.2).depth < cLine
    have e : A.in1.units = A.units + 1 := rfl
    omega
  · obtain ⟨c, hc⟩ := sortedHeap_at (vs := L1.map fun q => Value.ref q.1) (out := out.toArray) hoL
    have er : (L1.map fun q => mkT q.2).mergeSort (PySem.W.dataLe false fun d => d) = ((L.map (·.2)).mergeSort fun p q => decide (p ≤ q)).map mkT := by
      rw [← srt_perm (pL.map (·.2)), ← srt_map, List.map_map] <;> rfl
    rw [er] at ho2
    refine wpAny_pure ⟨_, rfl, hQ _ s1.heap.objs.size out c (fun b u e => ?_) g1 o1 hz hc ho2⟩
    have q := k1 b u e
    have hlt := Heap.lt_size q
    show (sortedHeap (s1.heap.push (seqObj "list" (L1.map fun q => Value.ref q.1).toArray 0)) s1.heap.objs.size (L1.map fun q => Value.ref q.1) out.toArray).get? b = some u
    rw [sortedHeap_old (Nat.ne_of_lt hlt) (by rw [size_push']; exact Nat.lt_succ_of_lt hlt)]
    exact Heap.get?_push_of_some _ q
end
end DS
end
section
set_option Elab.async false
set_option linter.all false
set_option maxRecDepth 100000
set_option maxHeartbeats 4000000
namespace DS
open PySem PySem.Spec PyProof.Rows L2
structure SetG0 (P : Program) (w : World) (h : Heap) (a : Addr) (L : List (Addr × List Int)) : Prop where
  ex : ∃ (es : Array (Int × Value)) (ep : Nat) (t : SetTable), (∃ o, h.get? a = some o ∧ o.ExactSet ∧ o.data = .set es ep t) ∧ es.toList = rowsOf P w L ∧ TabG t (L.map fun p => thash P w p.2) ∧ (L.map (·.2)).Nodup ∧ t.plain = true ∧
    (w.params.followText "set-order" = true ∨ t.led = true) ∧ L.length * 5 < t.mask * 3 ∧ L.length ≤ most
def SetGO (P : Program) (w : World) (a : Addr) (L : List (Addr × List Int)) : HO := .ext fun h => SetG0 P w h a L
theorem SetG.g0 {P : Program} {w : World} {h : Heap} {a : Addr} {L : List (Addr × List Int)} {es : Array (Int × Value)} {ep : Nat} {t : SetTable} (R : SetG P w h a L es ep t) : SetG0 P w h a L :=
  ⟨es, ep, t, R.ob, R.rows, R.tab, R.nd, R.plain, R.led, R.room, R.few⟩
theorem SetG0.full {P : Program} {w : World} {h : Heap} {a : Addr} {L : List (Addr × List Int)} (R : SetG0 P w h a L) (ht : ∀ p ∈ L, IsT P w h p.2 p.1) : ∃ es ep t, SetG P w h a L es ep t := by
  obtain ⟨es, ep, t, h1, h2, h3, h4, h5, h6, h7, h8⟩ := R.ex
  exact ⟨es, ep, t, h1, h2, h3, h4, ht, h5, h6, h7, h8⟩
theorem setGO_new {P : Program} {w : World} {H : Hp} {h : Heap} {a : Addr} {L : List (Addr × List Int)} (R : SetG0 P w h a L) : ObjOk P w H h a (SetGO P w a L) := by
  have ⟨es, ep, t, ⟨o, ho, r⟩, q⟩ := R.ex
  refine ⟨R, ⟨o, ho⟩, fun h1 h2 p k => ?_⟩
  have ⟨es', ep', t', ⟨o', ho', r'⟩, q'⟩ := SetG0.ex p
  exact ⟨es', ep', t', ⟨o', k o' ho', r'⟩, q'⟩
section
variable {X : Cx}
def rSetG (K : PySem.W.Frag) (P : Program) (w : World) : List V → Hp → VK → Prop := fun xs H Q => ∃ (l : Addr) (ks : List (Addr × List Int)), xs = [V.ref l] ∧ SqL K H l (ks.map fun p => V.ref p.1) ∧ (∀ p ∈ ks, SqT K H p.1 (p.2.map V.int)) ∧ ks.length ≤ most ∧
  ∀ a L, H a = none → (∀ p ∈ L, p ∈ ks) → (∀ p ∈ ks, p.2 ∈ L.map (·.2)) → (L.map (·.2)).Nodup → Q (.ref a) (upd H a (SetGO P w a L))
theorem cr_setG (hc : X.calm = true) (hu : X.A.units + 64 < cLine) : CallR X (.type "set") (rSetG X.K X.prog X.w) := by
  intro pins s σ H xs us Q I r h
  obtain ⟨l, ks, rfl, hl, hk, hf, q⟩ := h
  rw [Vals.ref1 r]
  obtain ⟨its, rv, pl, hz⟩ := I.list hl
  have hn : H s.heap.objs.size = none := I.hok.fresh (Nat.le_refl _)
  refine call_set (P := X.prog) (w := X.w) ks (I.ok.hd hc) pl.isList (by simpa using refs_of_vals rv) (fun p hp => I.isT (hk p hp)) hf (by omega) fun h' tk L es ep t R g k => ?_
  exact ⟨.ref s.heap.objs.size, upd H s.heap.objs.size (SetGO X.prog X.w s.heap.objs.size L), I.laid (t' := tk) k (Nat.le_refl _) (setGO_new R.g0), rfl, q _ L hn (fun p hp => List.mem_of_mem_take (g.sub p hp)) (fun p hp => g.all p (by rw [List.take_length]; exact hp)) R.nd⟩
theorem map_int_inj : ∀ {p q : List Int}, p.map PyData.int = q.map PyData.int → p = q
  | [], [], _ => rfl
  | [], _ :: _, h => by cases h
  | _ :: _, [], h => by cases h
  | x :: p, y :: q, h => by
    rw [List.map_cons, List.map_cons] at h
    obtain ⟨h1, h2⟩ := List.cons.inj h
    injection h1 with h1
    rw [h1, map_int_inj h2]
theorem mkT_inj {p q : List Int} (h : mkT p = mkT q) : p = q := by
  unfold mkT at h
  injection h with h
  exact map_int_inj h
theorem pick {L : List (Addr × List Int)} : ∀ {out : List Value} {ns : List (List Int)}, PySem.W.EachIs (fun v d => ∃ q ∈ L, v = Value.ref q.1 ∧ d = mkT q.2) out (ns.map mkT) → ∃ L' : List (Addr × List Int), out = L'.map (fun q => Value.ref q.1) ∧ L'.map (·.2) = ns ∧ ∀ q ∈ L', q ∈ L
  | _, [], h => by
    rw [List.map_nil] at h
    cases h
    exact ⟨[], rfl, rfl, fun q hq => (by cases hq)⟩
  | _, n :: ns, h => by
    rw [List.map_cons] at h
    cases h with
    | cons h1 h2 =>
      obtain ⟨q, hq, rfl, e⟩ := h1
      obtain ⟨L', e1, e2, e3⟩ := pick h2
      refine ⟨q :: L', by rw [List.map_cons, ← e1], by rw [List.map_cons, e2, mkT_inj e], fun r hr => ?_⟩
      rcases List.mem_cons.mp hr with z | z
      · rw [z]; exact hq
      · exact e3 r z
def rSortG (K : PySem.W.Frag) (P : Program) (w : World) : List V → Hp → VK → Prop := fun vs H Q => ∃ (a : Addr) (L : List (Addr × List Int)), vs = [V.ref a] ∧ H a = some (SetGO P w a L) ∧ (∀ p ∈ L, SqT K H p.1 (p.2.map V.int)) ∧ (∀ p ∈ L, p.2 ≠ []) ∧
  ∀ (L' : List (Addr × List Int)) (p : Addr), L'.map (·.2) = ((L.map (·.2)).mergeSort fun p q => decide (p ≤ q)) → (∀ q ∈ L', q ∈ L) → H p = none → Q (.ref p) (upd H p (.lst (L'.map fun q => V.ref q.1)))
theorem cr_sortedG (hc : X.calm = true) (hu : X.A.units + 200 < cLine) : CallR X (.builtin "sorted") (rSortG X.K X.prog X.w) := by
  intro pins s σ H vs us Q I r h
  obtain ⟨a, L, rfl, ha, hk, hne, q⟩ := h
  have R0 : SetG0 X.prog X.w s.heap a L := (I.hok a _ ha).1
  obtain ⟨es, ep, t, R⟩ := R0.full fun p hp => I.isT (hk p hp)
  rw [Vals.ref1 r]
  refine sorted_set R (I.ok.hd hc) (by omega) hne fun s' p out c k g o hp hg ho => ?_
  obtain ⟨L', e1, e2, e3⟩ := pick ho
  have few : L.length ≤ 1228 := R.few
  have hlen : (L'.map fun q => V.ref q.1).length ≤ sizeLine := by
    have z := congrArg List.length e2
    rw [List.length_map, List.length_mergeSort, List.length_map] at z
    rw [List.length_map, sizeLine_eq]
    omega
  have hn : H p = none := I.hok.fresh hp
  have J : Inv X pins σ (upd H p (.lst (L'.map fun q => V.ref q.1))) { s with heap := s'.heap, gens := s'.gens, drawn := s'.drawn, toks := s'.toks } :=
    I.call (ch := []) (Un.laid k hp hn) (I.hok.laid k hp ⟨hlen, out, c, by rw [e1]; exact vals_of_refs L', hg⟩) (by rw [g]; exact I.bare) (fun _ z => nomatch z)
  have e : s' = { s with heap := s'.heap, gens := s'.gens, drawn := s'.drawn, toks := s'.toks } := by
    cases s'
    cases s
    cases o
    rfl
  rw [e]
  exact ⟨.ref p, _, J, rfl, q L' p e2 e3 hn⟩
end
end DS
namespace DL
open PySem PySem.Spec PyProof.Rows L2
def tupsOf : List PyData → Option (List (List Int))
  | [] => some []
  | .tuple xs :: r => match intsOf xs with
    | some ns => (tupsOf r).map (ns :: ·)
    | none => none
  | _ => none
def dSortSet : PyData → Option PyData
  | .list xs => match tupsOf xs with
    | some nss => gd (decide (nss.length ≤ 1228) && nss.all fun ns => !ns.isEmpty) (.list ((DS.srtSet nss).map DS.mkT))
    | none => none
  | _ => none
theorem data_ints : ∀ {xs : List PyData} {ns : List Int}, intsOf xs = some ns → xs = ns.map .int
  | [], _, e => by cases e; rfl
  | .int i :: r, ns, e => by
    unfold intsOf at e
    cases q : intsOf r with
    | none => rw [q] at e; cases e
    | some ms =>
      rw [q] at e
      cases e
      rw [data_ints q]
      rfl
  | .none :: _, _, e => by cases e
  | .bool _ :: _, _, e => by cases e
  | .str _ :: _, _, e => by cases e
  | .list _ :: _, _, e => by cases e
  | .tuple _ :: _, _, e => by cases e
  | .dict _ :: _, _, e => by cases e
theorem tups_of {K : PySem.W.Frag} {H : Hp} : ∀ {vs : List V} {ds : List PyData} {nss : List (List Int)}, DpAll K H vs ds → tupsOf ds = some nss →
    ∃ ks : List (Addr × List Int), vs = ks.map (fun p => V.ref p.1) ∧ ks.map (·.2) = nss ∧ ∀ p ∈ ks, SqT K H p.1 (p.2.map V.int) ∧ Dp K H (.ref p.1) (DS.mkT p.2)
  | _, _, _, .nil, e => by
    cases e
    exact ⟨[], rfl, rfl, fun p hp => (by cases hp)⟩
  | _, _, nss, .cons h1 h2, e => by
    rename_i v vs d ds
    cases d with
    | tuple xs =>
      unfold tupsOf at e
      cases e1 : intsOf xs with
      | none => simp only [e1] at e; cases e
      | some ns =>
        simp only [e1] at e
        cases e2 : tupsOf ds with
        | none => rw [e2] at e; cases e
        | some ms =>
          rw [e2] at e
          cases e
          obtain ⟨ks, k1, k2, k3⟩ := tups_of h2 e2
          have ex := data_ints e1
          cases h1 with
          | tup hs ha =>
            rename_i a ys
            have ey := ints_of ha e1
            subst ey
            refine ⟨(a, ns) :: ks, by rw [List.map_cons, k1], by rw [List.map_cons, k2], fun p hp => ?_⟩
            rcases List.mem_cons.mp hp with z | z
            · subst z
              refine ⟨hs, ?_⟩
              show Dp K H (.ref a) (.tuple (ns.map .int))
              rw [← ex]
              exact .tup hs ha
            · exact k3 p z
    | _ => cases e
section
variable {X : Cx} {cm : CM} {W : WX}
theorem all_of {K : PySem.W.Frag} {H : Hp} : ∀ {L : List (Addr × List Int)}, (∀ p ∈ L, Dp K H (.ref p.1) (DS.mkT p.2)) → DpAll K H (L.map fun p => V.ref p.1) ((L.map (·.2)).map DS.mkT)
  | [], _ => .nil
  | p :: L, h => .cons (h p List.mem_cons_self) (all_of fun q hq => h q (List.mem_cons_of_mem _ hq))
theorem pef_sortSet {e : Expr} {f : Rho → Res PyData} {p p2 pos pos2 : Pos} (hc : X.calm = true) (hu : X.A.units + 200 < cLine) (hg : Gl X "sorted") (hm : X.mg "sorted" = none) (hg2 : Gl X "set") (hm2 : X.mg "set" = none) (h : PEV X cm W .p e f)
    (hs : starEach [e] X.env = (false, eval e X.env) :: starEach [] X.env := by rfl) (hpl : (backTo pos2 (starEach [] X.env)).any (·.1) = false := by rfl)
    (hs2 : starEach [.Call (.Name "set" p2) [e] [] pos2] X.env = (false, eval (.Call (.Name "set" p2) [e] [] pos2) X.env) :: starEach [] X.env := by rfl) (hpl2 : (backTo pos (starEach [] X.env)).any (·.1) = false := by rfl) :
    PEV X cm W .f (.Call (.Name "sorted" p) [.Call (.Name "set" p2) [e] [] pos2] [] pos) (o1 dSortSet f) := by
  obtain ⟨_, a1, a2⟩ := h
  refine ⟨_, pe_callB (DS.cr_sortedG hc hu) hg hm (by rfl) (pa_cons (pe_callTy (DS.cr_setG hc (by omega)) hg2 hm2 (by rfl) (pa_cons a1 pa_nil hs) (by decide) (by decide) hs hpl) pa_nil hs2) (by decide) (by decide) hs2 hpl2, fun B H0 ω ρ σ H Q S h => ?_⟩
  refine a2.go S h fun x a H1 s1 S1 r1 h1 => ?_
  obtain ⟨e, he, k⟩ := post_some (m := .f) (H := H1) (noW (fun _ => of_nx) (Post.up (R' := Rm X.K .f (ownM B ω ρ) H1) (Same.refl _) (fun _ _ _ _ z => z.anti s1) h1))
  cases a with
  | list ds =>
    unfold dSortSet at he
    cases e1 : tupsOf ds with
    | none => simp only [e1] at he; cases he
    | some nss =>
      simp only [e1] at he
      obtain ⟨c, rfl⟩ := gd_some he
      rw [Bool.and_eq_true, decide_eq_true_eq, List.all_eq_true] at c
      obtain ⟨c1, c2⟩ := c
      obtain ⟨l, vs, rfl, q1, d1⟩ := Rm.lst r1
      obtain ⟨ks, rfl, k2, k3⟩ := tups_of d1 e1
      refine ⟨l, ks, rfl, q1, fun p hp => Same.seqT msk_le (k3 p hp).1, by rw [← List.length_map (f := (·.2)), k2]; exact c1, fun a L hna hL1 hL2 nd => ?_⟩
      have sm : Same H1 (upd H1 a (DS.SetGO X.prog X.w a L)) := same_new hna
      refine ⟨a, L, rfl, upd_same, fun p hp => Same.seqT sm (Same.seqT msk_le (k3 p (hL1 p hp)).1), fun p hp z => ?_, fun L' l2 e2 hL' hl2 => ?_⟩
      · have := c2 p.2 (by rw [← k2]; exact List.mem_map.mpr ⟨p, hL1 p hp, rfl⟩)
        rw [z] at this
        cases this
      · have es : (L.map (·.2)).mergeSort (fun p q => decide (p ≤ q)) = DS.srtSet nss := DS.srtSet_of nd fun z => by
          constructor
          · intro hz
            obtain ⟨p, hp, rfl⟩ := List.mem_map.mp hz
            rw [← k2]
            exact List.mem_map.mpr ⟨p, hL1 p hp, rfl⟩
          · intro hz
            rw [← k2] at hz
            obtain ⟨p, hp, rfl⟩ := List.mem_map.mp hz
            exact hL2 p hp
        have hd : DpAll X.K (msk (ownM B ω ρ) H1) (L'.map fun q => V.ref q.1) ((DS.srtSet nss).map DS.mkT) := by
          rw [← es, ← e2]
          exact all_of fun q hq => (k3 q (hL1 q (hL' q hq))).2
        have s2 : Same H1 (upd (upd H1 a (DS.SetGO X.prog X.w a L)) l2 (.lst (L'.map fun q => V.ref q.1))) := sm.trans (same_new hl2)
        exact k _ _ s2 (new_list sm hl2 (DpAll_same (msk_same sm) _ _ hd))
  | _ => cases he
end
end DL
end
section
set_option Elab.async false
set_option linter.all false
set_option maxRecDepth 100000
set_option maxHeartbeats 4000000
/-! DL11: rooms; module constants; sorted, sorted(set(..)), list(reversed(..)). -/
namespace DL
open PySem PySem.Spec PyProof.Rows L2
section
variable {X : Cx} {cm : CM} {W : WX} {k : Nat}
theorem hu0 (hr : Room k X.A) : X.A.units < cLine := by have := hr.un; omega
theorem hu64 (hr : Room k X.A) : X.A.units + 64 < cLine := by have := hr.un; omega
theorem hu65 (hr : Room k X.A) : X.A.units + 65 < cLine := by have := hr.un; omega
theorem hu200 (hr : Room k X.A) : X.A.units + 200 < cLine := by have := hr.un; omega
theorem pev_globS {x z : Str} {pos : Pos} (hg : Gl X x) (hm : ∃ t, X.mg x = some (.str z t)) (hd : (x == ("__debug__" : Str)) = false := by decide) : PEV X cm W .v (.Name x pos) (eC (.str z)) := by
  obtain ⟨t, hm⟩ := hm
  exact pev_glob (v := .str z) hg hm ⟨t, rfl⟩ (fun _ => .str z) hd
theorem pev_globI {x : Str} {z : Int} {pos : Pos} (hg : Gl X x) (hm : ∃ t, X.mg x = some (.int z t)) (hd : (x == ("__debug__" : Str)) = false := by decide) : PEV X cm W .v (.Name x pos) (eC (.int z)) := by
  obtain ⟨t, hm⟩ := hm
  exact pev_glob (v := .int z) hg hm ⟨t, rfl⟩ (fun _ => .int z) hd
end
end DL
end
section
set_option Elab.async false
set_option linter.all false
set_option maxRecDepth 100000
set_option maxHeartbeats 4000000
/-! DL12: a suite that is never reached; isinstance of a caught error, its class not told ahead. -/
namespace DL
open PySem PySem.Spec PyProof.Rows L2
def sBad : Rho → Out := fun _ => .bad
theorem pssv_bad {X : Cx} {cm : CM} {W : WX} {l : List Stmt} : PSsV X cm W l sBad := ⟨fun _ _ _ => False, ⟨fun _ _ _ _ _ _ h => h.elim⟩, fun _ _ _ _ _ _ _ _ q => q⟩
theorem pev_isX2 {X : Cx} {cm : CM} {a : Addr} {oe : Obj} {cls : Value} {d : Option Addr} {pn : List (Addr × Obj)} {i : Nat} {x : Str} {e : Exn} {ce : Expr} {tc : TE} {isub : Str → Option Bool} {xp p pos : Pos} (hz : Zc cls d oe) (hf : ∃ vs, oe.data = .fields vs)
    (T : ∀ k b, isub k = some b → ExcC X.K (cm.adr k))
    (hc : ∀ k b, isub k = some b → ∀ (σ : St) (H : Hp) (R : V → Hp → Prop), (∀ c H', Same H H' → ((∃ cv, ClsV c cv ∧ PySem.W.kitOne X.K (.ref (cm.adr k)) cv = some b) ∨ ∃ tp cs us, c = .ref tp ∧ H' tp = some (.tup cs) ∧ Paired ClsV cs us ∧ PySem.W.kitAny X.K (.ref (cm.adr k)) us = some b) → R c H') → tc σ H R)
    (hv : PE (X.suite a ((a, oe) :: pn)) (.Name x xp) (tVar i)) (hce : PE (X.suite a ((a, oe) :: pn)) ce tc) (hg : Gl X "isinstance") (hm : X.mg "isinstance" = none)
    (hs1 : starEach [.Name x xp, ce] X.env = (false, eval (.Name x xp) X.env) :: starEach [ce] X.env := by rfl) (hs2 : starEach [ce] X.env = (false, eval ce X.env) :: starEach [] X.env := by rfl) (hpl : (backTo pos (starEach [ce] X.env)).any (·.1) = false := by rfl) :
    PEV (X.suite a ((a, oe) :: pn)) (cmE X.K cm i a e cls d) W0 .v (.Call (.Name "isinstance" p) [.Name x xp, ce] [] pos) (eIsX e i isub) := by
  by_cases hcls : cls = .ref (cm.adr e.cls)
  · exact pev_isX hz hf T hcls hc hv hce hg hm hs1 hs2 hpl
  · refine ⟨fun _ _ _ => False, ⟨fun _ _ _ _ _ _ h => h.elim⟩, fun B H0 ω ρ σ H Q S q => ?_⟩
    unfold eIsX at q
    cases e1 : ρ[i]? with
    | none => rw [e1] at q; exact q.elim
    | some s =>
      rw [e1] at q
      cases s with
      | u => exact q.elim
      | d _ => exact q.elim
      | o _ => exact q.elim
      | x =>
        obtain ⟨v, hv, w, φ, hp, rfl, hφ, mono⟩ := S.at e1
        have hp : (if i = i then some (V.ref a, fun H => ExR X.K cm H e cls d) else cm.P i) = some (w, φ) := hp
        rw [if_pos rfl] at hp
        cases hp
        exact hcls hφ.1
def clsBody : Stmt → List Stmt
  | .ClassDef _ _ _ b _ _ _ _ _ _ _ => b
  | _ => []
/-- the exception facts of an own class -/
structure ExF (K : PySem.W.Frag) (C : Addr) : Prop where
  xf : XfC K C
  exc : ExcC K C
end DL
end
section
set_option Elab.async false
set_option linter.all false
set_option maxRecDepth 100000
set_option maxHeartbeats 4000000
/-! DL13: what a head tells of own exceptions; a Hook with own looks beside. -/
namespace DL
open PySem PySem.Spec PyProof.Rows L2
def oexB (K : PySem.W.Frag) (C : Addr) : Bool := (match K.lookup C with
  | some ⟨.type "type", _, .cls cd, sl⟩ => (match cd.mro, sl.toList with
    | .ref C' :: bm, [_, _, _, _, some (.builtin n), _] => C' == C && (n == "ValueError.__new__" && (!cd.hasDel && (cd.hasDict && PySem.HandSPX.refsVE bm)))
    | _, _ => false)
  | _ => false) && (decide (PySem.W.findIn K (.ref C) "__setattr__" = some (some (.builtin "object.__setattr__"))) && (decide (PySem.W.subIn K (.ref C) (.type "BaseException") = some true) && (decide (PySem.W.typeIn K (.ref C) = some (.type "type")) && PySem.W.keepIn K (.ref C))))
theorem oexB_ok {K : PySem.W.Frag} {C : Addr} (h : oexB K C = true) : OexC K C := by
  unfold oexB at h
  rw [Bool.and_eq_true, Bool.and_eq_true, Bool.and_eq_true, Bool.and_eq_true, decide_eq_true_eq, decide_eq_true_eq, decide_eq_true_eq] at h
  obtain ⟨q, h1, h2, h3, h4⟩ := h
  refine ⟨?_, h1, h2, h3, h4⟩
  split at q
  · rename_i dd cd sl ho
    split at q
    · rename_i C' bm k0 k1 k2 k3 n k5 hm hs
      simp only [Bool.and_eq_true, beq_iff_eq, Bool.not_eq_true'] at q
      obtain ⟨rfl, rfl, hdel, hdict, ht⟩ := q
      obtain ⟨nm, bs, mro, ns, qn, hd, sn, sub, ab, col, del⟩ := cd
      dsimp only at hm hdel hdict
      subst hm hdel hdict
      have hsl : sl = #[k0, k1, k2, k3, some (.builtin "ValueError.__new__"), k5] := by
        obtain ⟨l⟩ := sl
        simp only at hs
        rw [hs]
      subst hsl
      exact ⟨nm, qn, ns, bs, bm, sn, sub, ab, col, dd, k0, k1, k2, k3, k5, ho, ht⟩
    · cases q
  · cases q
def excB (K : PySem.W.Frag) (D : Addr) : Bool := decide (PySem.W.findIn K (.ref D) "__getattribute__" = some (some (.builtin "BaseException.__getattribute__"))) && (decide (PySem.W.findIn K (.ref D) "__getattr__" = some none) && (decide (PySem.W.subIn K (.ref D) (.type "BaseException") = some true) && (PySem.W.hasDictIn K D &&
  (decide (PySem.W.findIn K (.ref D) "__class__" = some (some (.builtin "object.__class__"))) && (decide (PySem.W.specialIn K (.builtin "object.__class__") "__get__" = some (some (.builtin "getset_descriptor.__get__"))) && (decide (PySem.W.takesIn K (.builtin "object.__class__") = some true) && decide (PySem.W.mroIn K D (.type "object") = some true)))))))
theorem excB_ok {K : PySem.W.Frag} {D : Addr} (h : excB K D = true) : ExF K D := by
  unfold excB at h
  simp only [Bool.and_eq_true, decide_eq_true_eq] at h
  obtain ⟨h1, h2, h3, h4, h5, h6, h7, h8⟩ := h
  exact ⟨⟨h1, h2, h3, h4⟩, ⟨h1, h2, h3, h4, h5, h6, h7, h8⟩⟩
/-- C's fields names, its __init__ at fI -/
def txtB (K : PySem.W.Frag) (C fI : Addr) (names : List Str) : Bool := oexB K C && ((names.all fun n => decide (PySem.W.findIn K (.ref C) n = some none)) && (decide (PySem.W.findIn K (.ref C) "__init__" = some (some (.ref fI))) && decide (PySem.W.typeIn K (.ref fI) = some (.type "function"))))
theorem txtB_ok {K : PySem.W.Frag} {C fI : Addr} {names : List Str} (h : txtB K C fI names = true) : ExcTxt K C fI names := by
  unfold txtB at h
  simp only [Bool.and_eq_true, decide_eq_true_eq, List.all_eq_true] at h
  obtain ⟨h1, h2, h3, h4⟩ := h
  exact ⟨oexB_ok h1, h2, h3, h4⟩
/-! ### the Hook -/
abbrev AlX : Type := Bool × He.AlD
def obsX (n : Nat) (ck : PySem.W.Frag → Bool) (fa : List He.Fa) (fn : List He.DefD) (g : Addr → Option Obj) : AlX := (ck (He.frG g (He.asD g n)), He.obsDG n fa fn g)
def hookX (n : Nat) (ck : PySem.W.Frag → Bool) (fa : List He.Fa) (fn : List He.DefD) : PySem.W.Hook where
  α := AlX
  obs := fun s => obsX n ck fa fn s.heap.get?
  val := fun _ => (true, He.valD fn)
  says := fun _ h => ∃ K : PySem.W.Frag, K.In h ∧ ck K = true ∧ He.SaysD fa fn K
  of := fun _ _ e => ⟨_, He.frG_in, congrArg (fun z : AlX => z.1) e, congrArg (fun z : AlX => z.2) e⟩
  keeps := fun _ _ _ ⟨K, hK, c⟩ k => ⟨K, PySem.W.Frag.In.keeps hK k, c⟩
theorem obsX_eq {n : Nat} {ck : PySem.W.Frag → Bool} {fa : List He.Fa} {fn : List He.DefD} {g : Addr → Option Obj} {s : Shared} (h : ∀ a, g a = s.heap.get? a) : obsX n ck fa fn g = (hookX n ck fa fn).obs s := by
  have e : g = s.heap.get? := funext h
  rw [e] <;> rfl
end DL
end
section
set_option Elab.async false
set_option linter.all false
set_option maxRecDepth 100000
set_option maxHeartbeats 4000000
namespace K92
open PySem PySem.Spec PyProof.Rows L2 DL
def top (i : Nat) : Stmt := PySem.Challenge.pw_squaremiddles_k92_store_texts_whole.main.body.getD i (.Pass ⟨0, 0, 0, 0⟩)
abbrev FnP (K : PySem.W.Frag) (x : Str) (st : Stmt) (f : Addr) (fd : FuncData) : Prop := FunD K x x (defArgs st) (defBody st) (defScope st) [] [] f fd
def sub_BadText : Str → Option Bool := fun k => if k = "BadText" then some true else none
def is_BadTable_BadRow_BadLine_BadWay : Str → Option Bool := fun k => if k = "BadText" then some false else none
def is_SquareError : Str → Option Bool := fun k => if k = "BadText" then some true else none
def is_ValueError : Str → Option Bool := fun k => if k = "BadText" then some true else none
def stI_BadText : Stmt := (clsBody (top 6)).getD 0 (.Pass ⟨0, 0, 0, 0⟩)
theorem if_some {α : Type} {c : Prop} [Decidable c] {a b : α} (h : (if c then some a else none) = some b) : c ∧ a = b := by
  by_cases q : c
  · rw [if_pos q] at h
    exact ⟨q, Option.some.inj h⟩
  · rw [if_neg q] at h
    cases h

def F_is_word : Rho → Out := (sSeq (sIf (tO (tV dBool (o2 dEq (oA dLen (aC (eP 0) aN)) (eC (.int 0)))) (tO (tV dBool (o2 dGt (oA dLen (aC (eP 0) aN)) (eP 1))) (tV dBool (o2 dNotIn (o2 dIx (eP 0) (eC (.int 0))) (eC (.str "abcdefghijklmnopqrstuvwxyz"))))))
  (sRet (eC (.bool false)))
  sNext)
  (sSeq (sFor (iAll (eV 0)) (gNm 2)
  (sIf (tA (tV dBool (o2 dNotIn (eP 2) (eC (.str "abcdefghijklmnopqrstuvwxyz")))) (tV dBool (o2 dNotIn (eP 2) (eC (.str "0123456789")))))
  (sRet (eC (.bool false)))
  sNext))
  (sRet (eC (.bool true)))))
def fn_is_word : List PyData → Res PyData := runD 2 3 F_is_word
def F_is_table_name : Rho → Out := (sRet (eA (fun ds => noex (fn_is_word ds)) (aC (eV 0) (aC (eC (.int 8)) aN))))
def fn_is_table_name : List PyData → Res PyData := runD 1 1 F_is_table_name
def F_is_number_text : Rho → Out := (sSeq (sIf (tO (tV dBool (o2 dEq (oA dLen (aC (eP 0) aN)) (eC (.int 0)))) (tA (tV dBool (o2 dGt (oA dLen (aC (eP 0) aN)) (eC (.int 1)))) (tV dBool (o2 dEq (o2 dIx (eP 0) (eC (.int 0))) (eC (.str "0"))))))
  (sRet (eC (.bool false)))
  sNext)
  (sSeq (sFor (iAll (eV 0)) (gNm 1)
  (sIf (tV dBool (o2 dNotIn (eP 1) (eC (.str "0123456789"))))
  (sRet (eC (.bool false)))
  sNext))
  (sRet (eC (.bool true)))))
def fn_is_number_text : List PyData → Res PyData := runD 1 2 F_is_number_text
def F_text_lines : Rho → Out := (sRet (eIf (tV dBool (o2 dEq (eP 0) (eC (.str "")))) (eA dLst aN) (oM isStrD dSplit (eP 0) (aC (eC (.str "\n")) aN))))
def fn_text_lines : List PyData → Res PyData := runD 1 1 F_text_lines
def F_table_words : Rho → Out := (sSeq (sAsg (eV 0) (gTp 3 (gsC (gNm 1) (gsC (gNm 2) (gsC (gNm 3) gsN)))))
  (sSeq (sAsgO 4 (eA dLst (aC (eJs [(eC (.str "table ")), (o1 dFmt (eP 1)), (eC (.str " ")), (o1 dFmt (eP 2))]) aN)))
  (sSeq (sFor (iAll (eV 3)) (gNm 5)
  (sApp 4 (o2 dAdd (eC (.str "row ")) (oM isStrD dJoin (eC (.str " ")) (aC (eComp (iAll (eP 5)) [6] (gNm 6) tYs (kOne (oA dStr (aC (eP 6) aN)))) aN)))))
  (sRet (eV 4)))))
def fn_table_words : List PyData → Res PyData := runD 1 7 F_table_words
def F_format_store : Rho → Out := (sRet (oM isStrD dJoin (eC (.str "\n")) (aC (eComp (iAll (eP 0)) [1, 2] (gNm 1) tYs (kIn (iAll (eA (fun ds => noex (fn_table_words ds)) (aC (eV 1) aN))) [2] (gNm 2) tYs (eV 2))) aN)))
def fn_format_store : List PyData → Res PyData := runD 1 3 F_format_store
def F_read_table : Rho → Out := (sSeq (sIf (tO (tV dBool (o2 dNe (oA dLen (aC (eP 0) aN)) (eC (.int 3)))) (tO (tV dBool (o2 dNe (o2 dIx (eP 0) (eC (.int 0))) (eC (.str "table")))) (tN (tV dTruth (eA (fun ds => noex (fn_is_table_name ds)) (aC (o2 dIx (eP 0) (eC (.int 1))) aN))))))
  (sRet (eC .none))
  sNext)
  (sSeq (sIf (tO (tV dBool (o2 dNotIn (o2 dIx (eP 0) (eC (.int 2))) (eA dTup (aC (eC (.str "1")) (aC (eC (.str "2")) (aC (eC (.str "3")) (aC (eC (.str "4")) aN))))))) (tA (tV dBool (o2 dGt (oA dLen (aC (eP 1) aN)) (eC (.int 0)))) (tV dBool (o2 dLe (o2 dIx (eP 0) (eC (.int 1))) (o2 dIx (o2 dIx (eP 1) (o1 dNeg (eC (.int 1)))) (eC (.int 0)))))))
  (sRet (eC .none))
  sNext)
  (sRet (eA dTup (aC (o2 dIx (eP 0) (eC (.int 1))) (aC (oA dInt (aC (o2 dIx (eP 0) (eC (.int 2))) aN)) (aC (eA dTup aN) aN)))))))
def fn_read_table : List PyData → Res PyData := runD 2 2 F_read_table
def F_read_row : Rho → Out := (sSeq (sIf (tO (tV dBool (o2 dNe (o2 dIx (eP 0) (eC (.int 0))) (eC (.str "row")))) (tO (tV dBool (o2 dEq (oA dLen (aC (eP 1) aN)) (eC (.int 0)))) (tV dBool (o2 dNe (oA dLen (aC (eP 0) aN)) (o2 dAdd (o2 dIx (o2 dIx (eP 1) (o1 dNeg (eC (.int 1)))) (eC (.int 1))) (eC (.int 1)))))))
  (sRet (eC .none))
  sNext)
  (sSeq (sIf (tN (tV dTruth (oA dAll (aC (eComp (iAll (oSl dSlice (eP 0) (oS (eC (.int 1))) oN)) [4] (gNm 4) tYs (kOne (eA (fun ds => noex (fn_is_number_text ds)) (aC (eV 4) aN)))) aN))))
  (sRet (eC .none))
  sNext)
  (sSeq (sAsg (oA dTupOf (aC (eComp (iAll (oSl dSlice (eP 0) (oS (eC (.int 1))) oN)) [4] (gNm 4) tYs (kOne (oA dInt (aC (eP 4) aN)))) aN)) (gNm 2))
  (sSeq (sAsg (o2 dIx (o2 dIx (eP 1) (o1 dNeg (eC (.int 1)))) (eC (.int 2))) (gNm 3))
  (sRet (eIf (tA (tV dBool (o2 dGt (oA dLen (aC (eP 3) aN)) (eC (.int 0)))) (tV dBool (o2 dLe (eP 2) (o2 dIx (eP 3) (o1 dNeg (eC (.int 1))))))) (eC .none) (eV 2)))))))
def fn_read_row : List PyData → Res PyData := runD 2 5 F_read_row
def F_read_store_line : Rho → Out := (sSeq (sAsg (oM isStrD dSplit (eP 0) (aC (eC (.str " ")) aN)) (gNm 2))
  (sSeq (sAsg (eA (fun ds => noex (fn_read_row ds)) (aC (eV 2) (aC (eV 1) aN))) (gNm 3))
  (sSeq (sIf (tV dBool (o2 dIsNot (eP 3) (eC .none)))
  (sSeq (sAsg (o2 dIx (eP 1) (o1 dNeg (eC (.int 1)))) (gTp 3 (gsC (gNm 4) (gsC (gNm 5) (gsC (gNm 6) gsN)))))
  (sRet (o2 dAdd (oSl dSlice (eP 1) oN (oS (o1 dNeg (eC (.int 1))))) (eA dTup (aC (eA dTup (aC (eV 4) (aC (eV 5) (aC (o2 dAdd (eP 6) (eA dTup (aC (eV 3) aN))) aN)))) aN)))))
  sNext)
  (sSeq (sAsg (eA (fun ds => noex (fn_read_table ds)) (aC (eV 2) (aC (eV 1) aN))) (gNm 7))
  (sRet (eIf (tV dBool (o2 dIs (eP 7) (eC .none))) (eC .none) (o2 dAdd (eP 1) (eA dTup (aC (eV 7) aN)))))))))
def fn_read_store_line : List PyData → Res PyData := runD 2 8 F_read_store_line
def F_parse_store : Rho → Out := (sSeq (sAsg (eA (fun ds => noex (fn_text_lines ds)) (aC (eV 0) aN)) (gNm 1))
  (sSeq (sAsg (eA dTup aN) (gNm 2))
  (sSeq (sFor (iRange1 (oA dLen (aC (eP 1) aN))) (gNm 3)
  (sSeq (sAsg (eA (fun ds => noex (fn_read_store_line ds)) (aC (o2 dIx (eP 1) (eP 3)) (aC (eV 2) aN))) (gNm 2))
  (sIf (tV dBool (o2 dIs (eP 2) (eC .none)))
  (sRaise "BadText" ["line"] (aC (o2 dAdd (eP 3) (eC (.int 1))) aN))
  sNext)))
  (sRet (eV 2)))))
def fn_parse_store : List PyData → Res PyData := runD 1 4 F_parse_store
def F__law_cell : Rho → Out := (sSeq (sIf (tV dBool (o2 dLt (eP 1) (oA dLen (aC (eP 0) aN))))
  (sRet (o2 dIx (eP 0) (eP 1)))
  sNext)
  (sSeq (sAsg (eC (.int 17)) (gNm 2))
  (sSeq (sFor (iAll (eV 0)) (gNm 3)
  (sAsg (o2 dMod (oA dInt (aC (o2 dAdd (o2 dMul (eP 2) (eC (.int 31))) (o2 dMod (oA dInt (aC (eP 3) aN)) (eC (.int 1000003)))) aN)) (eC (.int 1000003))) (gNm 2)))
  (sRet (o2 dMod (oA dInt (aC (o2 dMul (o2 dMul (o2 dAdd (eP 2) (eC (.int 7))) (o2 dAdd (eP 1) (eC (.int 3)))) (eC (.int 69621))) aN)) (eC (.int 2147483647)))))))
def fn__law_cell : List PyData → Res PyData := runD 2 4 F__law_cell
def F__law_digits : Rho → Out := (sSeq (sAsgO 2 (eA dLst aN))
  (sSeq (sAsg (oA dInt (aC (eP 0) aN)) (gNm 3))
  (sSeq (sIf (tV dBool (o2 dGe (eP 3) (o2 dPow (eC (.int 10)) (eC (.int 18)))))
  (sSeq (sAsg (o2 dSub (eP 3) (o2 dPow (eC (.int 10)) (eC (.int 18)))) (gNm 3))
  (sSeq (sFor (iAll (eV 1)) (gNm 4)
  (sSeq (sApp 2 (o2 dMod (oA dInt (aC (eP 3) aN)) (eP 4)))
  (sAsg (o2 dDiv (oA dInt (aC (eP 3) aN)) (eP 4)) (gNm 3))))
  (sRet (eV 2))))
  sNext)
  (sSeq (sAsg (o2 dMod (oA dInt (aC (eP 3) aN)) (eC (.int 2147483629))) (gNm 5))
  (sSeq (sFor (iRange1 (oA dLen (aC (eP 1) aN))) (gNm 6)
  (sSeq (sAsg (o2 dMod (oA dInt (aC (o2 dAdd (o2 dAdd (o2 dMul (eP 5) (eC (.int 48271))) (o2 dMul (eC (.int 974711)) (eP 6))) (eC (.int 12345))) aN)) (eC (.int 2147483647))) (gNm 5))
  (sSeq (sAsg (o2 dMod (oA dInt (aC (o2 dMul (eP 5) (o2 dAdd (o2 dDiv (eP 5) (eC (.int 65537))) (eC (.int 3)))) aN)) (eC (.int 2147483629))) (gNm 7))
  (sApp 2 (o2 dMod (o2 dDiv (eP 7) (eC (.int 19))) (o2 dIx (eP 1) (eP 6)))))))
  (sRet (eV 2)))))))
def fn__law_digits : List PyData → Res PyData := runD 2 8 F__law_digits
def F__law_name : Rho → Out := (sSeq (sAsg (eC (.str "abcdefghijklmnopqrstuvwxyz0123456789")) (gNm 1))
  (sSeq (sAsg (eA dLst (aC (eC (.str "r")) (aC (eC (.str "r1")) (aC (eC (.str "r10")) (aC (eC (.str "r2")) (aC (eC (.str "ra")) (aC (eC (.str "s")) (aC (eC (.str "a")) (aC (eC (.str "a0")) (aC (eC (.str "table")) (aC (eC (.str "row")) (aC (eC (.str "zzzzzzzz")) (aC (eC (.str "b9")) (aC (eC (.str "e")) (aC (eC (.str "edge")) (aC (eC (.str "z")) (aC (eC (.str "likes")) aN))))))))))))))))) (gNm 2))
  (sSeq (sIf (tV dBool (o2 dEq (o2 dIx (eP 0) (eC (.int 0))) (eC (.int 0))))
  (sRet (o2 dIx (eP 2) (o2 dIx (eP 0) (eC (.int 1)))))
  sNext)
  (sRet (o2 dAdd (o2 dIx (eP 1) (o2 dIx (eP 0) (eC (.int 3)))) (oM isStrD dJoin (eC (.str "")) (aC (eComp (iRange1 (o2 dIx (eP 0) (eC (.int 2)))) [3] (gNm 3) tYs (kOne (o2 dIx (eP 1) (o2 dIx (eP 0) (o2 dAdd (eC (.int 4)) (eP 3)))))) aN)))))))
def fn__law_name : List PyData → Res PyData := runD 1 4 F__law_name
def F__law_store : Rho → Out := (sSeq (sAsg (eA dLst (aC (eC (.int 0)) (aC (eC (.int 1)) (aC (eC (.int 2)) (aC (eC (.int 9)) (aC (eC (.int 10)) (aC (eC (.int 11)) (aC (eC (.int 99)) (aC (eC (.int 100)) (aC (eC (.int 21)) (aC (eC (.int 3)) (aC (eC (.int 1000000000)) (aC (eC (.int 999999999)) aN))))))))))))) (gNm 1))
  (sSeq (sAsg (o2 dIx (eA dLst (aC (eC (.int 3)) (aC (eC (.int 2)) (aC (eC (.int 4)) (aC (eC (.int 5)) (aC (eC (.int 8)) (aC (eC (.int 6)) (aC (eC (.int 1)) (aC (eC (.int 7)) aN))))))))) (o2 dIx (eA (fun ds => noex (fn__law_digits ds)) (aC (eA (fun ds => noex (fn__law_cell ds)) (aC (eV 0) (aC (eC (.int 0)) aN))) (aC (eA dLst (aC (eC (.int 8)) aN)) aN))) (eC (.int 0)))) (gNm 2))
  (sSeq (sAsgO 3 (eA dLst aN))
  (sSeq (sAsgO 4 (eA dLst aN))
  (sSeq (sFor (iRange1 (eP 2)) (gNm 5)
  (sSeq (sAsg (eA (fun ds => noex (fn__law_name ds)) (aC (eA (fun ds => noex (fn__law_digits ds)) (aC (eA (fun ds => noex (fn__law_cell ds)) (aC (eV 0) (aC (o2 dAdd (eC (.int 1)) (o2 dMul (eC (.int 2)) (eP 5))) aN))) (aC (eA dLst (aC (eC (.int 2)) (aC (eC (.int 16)) (aC (eC (.int 8)) (aC (eC (.int 26)) (aC (eC (.int 36)) (aC (eC (.int 36)) (aC (eC (.int 36)) (aC (eC (.int 36)) (aC (eC (.int 36)) (aC (eC (.int 36)) (aC (eC (.int 36)) aN)))))))))))) aN))) aN)) (gNm 6))
  (sSeq (sAsg (eA (fun ds => noex (fn__law_digits ds)) (aC (eA (fun ds => noex (fn__law_cell ds)) (aC (eV 0) (aC (o2 dAdd (eC (.int 2)) (o2 dMul (eC (.int 2)) (eP 5))) aN))) (aC (o2 dAdd (eA dLst (aC (eC (.int 8)) (aC (eC (.int 4)) aN))) (o2 dRepL (eA dLst (aC (eC (.int 12)) aN)) (eC (.int 28)))) aN))) (gNm 7))
  (sSeq (sAsg (o2 dIx (eA dLst (aC (eC (.int 2)) (aC (eC (.int 1)) (aC (eC (.int 3)) (aC (eC (.int 4)) aN))))) (o2 dIx (eP 7) (eC (.int 1)))) (gNm 8))
  (sSeq (sAsgO 9 (eA dLst aN))
  (sSeq (sFor (iRange1 (o2 dIx (eA dLst (aC (eC (.int 3)) (aC (eC (.int 2)) (aC (eC (.int 4)) (aC (eC (.int 5)) (aC (eC (.int 7)) (aC (eC (.int 1)) (aC (eC (.int 6)) (aC (eC (.int 0)) aN))))))))) (o2 dIx (eP 7) (eC (.int 0))))) (gNm 10)
  (sApp 9 (oA dTupOf (aC (eComp (iRange1 (eP 8)) [11] (gNm 11) tYs (kOne (o2 dIx (eP 1) (o2 dIx (eP 7) (o2 dAdd (o2 dAdd (eC (.int 2)) (o2 dMul (eC (.int 4)) (eP 10))) (eP 11)))))) aN))))
  (sIf (tV dBool (o2 dNotIn (eP 6) (eP 3)))
  (sSeq (sApp 3 (eV 6))
  (sApp 4 (eA dTup (aC (eV 6) (aC (eV 8) (aC (oA dTupOf (aC (o1 dSortSet (eP 9)) aN)) aN))))))
  sNext)))))))
  (sRet (oA dTupOf (aC (o1 dSorted (eP 4)) aN))))))))
def fn__law_store : List PyData → Res PyData := runD 1 12 F__law_store
def F__law_more : Rho → Out := (sSeq (sAsg (o2 dMod (oA dInt (aC (o2 dIx (eP 1) (eC (.int 4))) aN)) (oA dLen (aC (eP 0) aN))) (gNm 3))
  (sSeq (sAsg (o2 dIx (o2 dIx (eP 0) (eP 3)) (eC (.int 0))) (gNm 4))
  (sSeq (sAsg (o2 dIx (o2 dIx (eP 0) (eP 3)) (eC (.int 1))) (gNm 5))
  (sSeq (sAsgO 6 (oA dListOf (aC (o2 dIx (o2 dIx (eP 0) (eP 3)) (eC (.int 2))) aN)))
  (sSeq (sAsgO 7 (eComp (iAll (eP 0)) [9] (gNm 9) (tV dBool (o2 dNe (o2 dIx (eP 9) (eC (.int 0))) (eP 4))) (kOne (eV 9))))
  (sSeq (sIf (tV dBool (o2 dIn (o2 dIx (eP 1) (eC (.int 0))) (eA dLst (aC (eC (.int 1)) (aC (eC (.int 2)) (aC (eC (.int 5)) aN))))))
  (sFor (iRange1 (eIf (tA (tV dBool (o2 dEq (eP 5) (eC (.int 1)))) (tV dBool (o2 dLt (o2 dIx (eP 1) (eC (.int 4))) (eC (.int 2))))) (o2 dAdd (eC (.int 20)) (o2 dMul (eC (.int 4)) (o2 dIx (eP 1) (eC (.int 1))))) (o2 dAdd (eC (.int 20)) (o2 dIx (eP 1) (eC (.int 1)))))) (gNm 8)
  (sApp 6 (oA dTupOf (aC (eComp (iRange1 (eP 5)) [10] (gNm 10) tYs (kOne (o2 dAdd (o2 dAdd (o2 dIx (eP 1) (eC (.int 3))) (o2 dMul (eP 8) (o2 dAdd (eC (.int 1)) (o2 dIx (eP 1) (eC (.int 2)))))) (o2 dMul (o2 dMul (eC (.int 13)) (eP 10)) (o2 dMod (eP 8) (eC (.int 3))))))) aN))))
  sNext)
  (sSeq (sIf (tV dBool (o2 dIn (o2 dIx (eP 1) (eC (.int 0))) (eA dLst (aC (eC (.int 4)) (aC (eC (.int 5)) aN)))))
  (sSeq (sApp 6 (oA dTupOf (aC (eComp (iRange1 (eP 5)) [10] (gNm 10) tYs (kOne (o2 dAdd (eP 2) (eP 10)))) aN)))
  (sSeq (sApp 6 (oA dTupOf (aC (o2 dRepL (eA dLst (aC (eV 2) aN)) (eP 5)) aN)))
  (sApp 6 (oA dTupOf (aC (o2 dAdd (eA dLst (aC (eV 2) aN)) (o2 dRepL (eA dLst (aC (eC (.int 0)) aN)) (o2 dSub (eP 5) (eC (.int 1))))) aN)))))
  sNext)
  (sSeq (sApp 7 (eA dTup (aC (eV 4) (aC (eV 5) (aC (oA dTupOf (aC (o1 dSortSet (eP 6)) aN)) aN)))))
  (sSeq (sIf (tV dBool (o2 dEq (o2 dIx (eP 1) (eC (.int 0))) (eC (.int 3))))
  (sFor (iRange1 (o2 dAdd (eC (.int 9)) (o2 dIx (eP 1) (eC (.int 5))))) (gNm 8)
  (sIf (tV dBool (o2 dNotIn (o2 dAdd (eC (.str "t")) (oA dStr (aC (eP 8) aN))) (eComp (iAll (eP 0)) [9] (gNm 9) tYs (kOne (o2 dIx (eP 9) (eC (.int 0)))))))
  (sApp 7 (eA dTup (aC (o2 dAdd (eC (.str "t")) (oA dStr (aC (eP 8) aN))) (aC (o2 dAdd (eC (.int 1)) (o2 dMod (eP 8) (eC (.int 4)))) (aC (eA dTup (aC (oA dTupOf (aC (eComp (iRange1 (o2 dAdd (eC (.int 1)) (o2 dMod (eP 8) (eC (.int 4))))) [10] (gNm 10) tYs (kOne (o2 dAdd (eP 8) (eP 10)))) aN)) aN)) aN)))))
  sNext))
  sNext)
  (sRet (oA dTupOf (aC (o1 dSorted (eP 7)) aN))))))))))))
def fn__law_more : List PyData → Res PyData := runD 3 11 F__law_more
def F__law_text : Rho → Out := (sSeq (sAsgO 1 (eA dLst aN))
  (sSeq (sFor (iAll (eV 0)) (gNm 2)
  (sSeq (sApp 1 (o2 dAdd (o2 dAdd (o2 dAdd (eC (.str "table ")) (o2 dIx (eP 2) (eC (.int 0)))) (eC (.str " "))) (oA dStr (aC (o2 dIx (eP 2) (eC (.int 1))) aN))))
  (sFor (iAll (o2 dIx (eP 2) (eC (.int 2)))) (gNm 3)
  (sApp 1 (o2 dAdd (eC (.str "row ")) (oM isStrD dJoin (eC (.str " ")) (aC (eComp (iAll (eP 3)) [4] (gNm 4) tYs (kOne (oA dStr (aC (eP 4) aN)))) aN)))))))
  (sRet (oM isStrD dJoin (eC (.str "\n")) (aC (eP 1) aN)))))
def fn__law_text : List PyData → Res PyData := runD 1 5 F__law_text
def F__law_number : Rho → Out := (sSeq (sIf (tO (tV dBool (o2 dEq (eP 0) (eC (.str "")))) (tA (tV dBool (o2 dGt (oA dLen (aC (eP 0) aN)) (eC (.int 1)))) (tV dBool (o2 dEq (o2 dIx (eP 0) (eC (.int 0))) (eC (.str "0"))))))
  (sRet (o1 dNeg (eC (.int 1))))
  sNext)
  (sSeq (sFor (iAll (eV 0)) (gNm 1)
  (sIf (tV dBool (o2 dNotIn (eP 1) (eC (.str "0123456789"))))
  (sRet (o1 dNeg (eC (.int 1))))
  sNext))
  (sRet (oA dInt (aC (eP 0) aN)))))
def fn__law_number : List PyData → Res PyData := runD 1 2 F__law_number
def F__law_is_name : Rho → Out := (sSeq (sAsg (eC (.str "abcdefghijklmnopqrstuvwxyz")) (gNm 2))
  (sSeq (sIf (tO (tV dBool (o2 dEq (eP 0) (eC (.str "")))) (tO (tV dBool (o2 dGt (oA dLen (aC (eP 0) aN)) (eP 1))) (tV dBool (o2 dNotIn (o2 dIx (eP 0) (eC (.int 0))) (eP 2)))))
  (sRet (eC (.bool false)))
  sNext)
  (sSeq (sFor (iAll (eV 0)) (gNm 3)
  (sIf (tA (tV dBool (o2 dNotIn (eP 3) (eP 2))) (tV dBool (o2 dNotIn (eP 3) (eC (.str "0123456789")))))
  (sRet (eC (.bool false)))
  sNext))
  (sRet (eC (.bool true))))))
def fn__law_is_name : List PyData → Res PyData := runD 2 4 F__law_is_name
def F__law_read : Rho → Out := (sSeq (sAsgO 1 (eA dLst aN))
  (sSeq (sAsg (eC (.str "")) (gNm 2))
  (sSeq (sAsg (eC (.int 0)) (gNm 3))
  (sSeq (sAsgO 4 (eA dLst aN))
  (sSeq (sAsg (eIf (tV dBool (o2 dNe (eP 0) (eC (.str "")))) (oM isStrD dSplit (eP 0) (aC (eC (.str "\n")) aN)) (eA dLst aN)) (gNm 5))
  (sSeq (sFor (iRange1 (oA dLen (aC (eP 5) aN))) (gNm 6)
  (sSeq (sAsg (oM isStrD dSplit (o2 dIx (eP 5) (eP 6)) (aC (eC (.str " ")) aN)) (gNm 7))
  (sSeq (sAsg (oA dTupOf (aC (eComp (iAll (oSl dSlice (eP 7) (oS (eC (.int 1))) oN)) [10] (gNm 10) tYs (kOne (eA (fun ds => noex (fn__law_number ds)) (aC (eV 10) aN)))) aN)) (gNm 8))
  (sSeq (sAsg (eAnd (o2 dEq (o2 dIx (eP 7) (eC (.int 0))) (eC (.str "table"))) (eAnd (o2 dEq (oA dLen (aC (eP 7) aN)) (eC (.int 3))) (o2 dIn (o2 dIx (eP 7) (eC (.int 2))) (eA dLst (aC (eC (.str "1")) (aC (eC (.str "2")) (aC (eC (.str "3")) (aC (eC (.str "4")) aN)))))))) (gNm 9))
  (sIf (tA (tV dTruth (eP 9)) (tA (tV dTruth (eA (fun ds => noex (fn__law_is_name ds)) (aC (o2 dIx (eP 7) (eC (.int 1))) (aC (eC (.int 8)) aN)))) (tV dBool (o2 dLt (eP 2) (o2 dIx (eP 7) (eC (.int 1)))))))
  (sSeq (sIf (tV dBool (o2 dNe (eP 2) (eC (.str ""))))
  (sApp 1 (eA dTup (aC (eV 2) (aC (eV 3) (aC (oA dTupOf (aC (eP 4) aN)) aN)))))
  sNext)
  (sSeq (sAsg (o2 dIx (eP 7) (eC (.int 1))) (gNm 2))
  (sSeq (sAsg (oA dInt (aC (o2 dIx (eP 7) (eC (.int 2))) aN)) (gNm 3))
  (sAsgO 4 (eA dLst aN)))))
  (sIf (tA (tV dBool (o2 dEq (o2 dIx (eP 7) (eC (.int 0))) (eC (.str "row")))) (tA (tV dBool (o2 dNe (eP 2) (eC (.str "")))) (tA (tV dBool (o2 dEq (oA dLen (aC (eP 8) aN)) (eP 3))) (tA (tV dBool (o2 dNotIn (o1 dNeg (eC (.int 1))) (eP 8))) (tO (tV dBool (o2 dEq (oA dLen (aC (eP 4) aN)) (eC (.int 0)))) (tV dBool (o2 dLt (o2 dIx (eP 4) (o1 dNeg (eC (.int 1)))) (eP 8))))))))
  (sApp 4 (eV 8))
  (sRet (eA dLst (aC (eC (.str "bad")) (aC (o2 dAdd (eP 6) (eC (.int 1))) aN))))))))))
  (sSeq (sIf (tV dBool (o2 dNe (eP 2) (eC (.str ""))))
  (sApp 1 (eA dTup (aC (eV 2) (aC (eV 3) (aC (oA dTupOf (aC (eP 4) aN)) aN)))))
  sNext)
  (sRet (eA dLst (aC (eC (.str "told")) (aC (oA dTupOf (aC (eP 1) aN)) aN)))))))))))
def fn__law_read : List PyData → Res PyData := runD 1 11 F__law_read
def F__law_spoilt_words : Rho → Out := (sSeq (sAsg (o2 dIx (eA dLst (aC (eC (.str "")) (aC (eC (.str "0")) (aC (eC (.str "00")) (aC (eC (.str "1")) (aC (eC (.str "5")) (aC (eC (.str "-1")) (aC (eC (.str "+1")) (aC (eC (.str "1_0")) (aC (eC (.str "1.0")) (aC (eC (.str "x")) (aC (eC (.str "Row")) (aC (eC (.str "rows")) (aC (eC (.str "table")) (aC (eC (.str "row")) (aC (eC (.str "tables")) (aC (eC (.str "R")) (aC (eC (.str "a_b")) (aC (eC (.str "abcdefghi")) (aC (eC (.str "9a")) (aC (eC (.str "a-b")) (aC (eC (.str "(1)")) (aC (eC (.str "1,")) (aC (eC (.str "1000000000000000000000000000000")) (aC (eC (.str "4")) aN))))))))))))))))))))))))) (o2 dIx (eP 2) (eC (.int 3)))) (gNm 3))
  (sSeq (sAsg (o2 dMod (oA dInt (aC (o2 dIx (eP 2) (eC (.int 2))) aN)) (oA dLen (aC (eP 1) aN))) (gNm 4))
  (sSeq (sIf (tV dBool (o2 dEq (eP 0) (eC (.int 5))))
  (sRet (o2 dAdd (o2 dAdd (oSl dSlice (eP 1) oN (oS (eP 4))) (eA dLst (aC (o2 dAdd (eC (.str "0")) (o2 dIx (eP 1) (eP 4))) aN))) (oSl dSlice (eP 1) (oS (o2 dAdd (eP 4) (eC (.int 1)))) oN)))
  sNext)
  (sSeq (sIf (tV dBool (o2 dEq (eP 0) (eC (.int 6))))
  (sSeq (sAsg (o2 dMod (oA dInt (aC (o2 dIx (eP 2) (eC (.int 2))) aN)) (o2 dAdd (oA dLen (aC (eP 1) aN)) (eC (.int 1)))) (gNm 5))
  (sRet (o2 dAdd (o2 dAdd (oSl dSlice (eP 1) oN (oS (eP 5))) (eA dLst (aC (eC (.str "")) aN))) (oSl dSlice (eP 1) (oS (eP 5)) oN))))
  sNext)
  (sSeq (sIf (tV dBool (o2 dEq (eP 0) (eC (.int 7))))
  (sRet (o2 dAdd (o2 dAdd (oSl dSlice (eP 1) oN (oS (eP 4))) (eA dLst (aC (eV 3) aN))) (oSl dSlice (eP 1) (oS (o2 dAdd (eP 4) (eC (.int 1)))) oN)))
  sNext)
  (sSeq (sIf (tV dBool (o2 dEq (eP 0) (eC (.int 8))))
  (sRet (o2 dAdd (oSl dSlice (eP 1) oN (oS (eP 4))) (oSl dSlice (eP 1) (oS (o2 dAdd (eP 4) (eC (.int 1)))) oN)))
  sNext)
  (sSeq (sIf (tV dBool (o2 dEq (eP 0) (eC (.int 9))))
  (sRet (o2 dAdd (o2 dAdd (oSl dSlice (eP 1) oN (oS (eP 4))) (eA dLst (aC (o2 dIx (eP 1) (eP 4)) aN))) (oSl dSlice (eP 1) (oS (eP 4)) oN)))
  sNext)
  (sSeq (sIf (tV dBool (o2 dIn (eP 0) (eA dLst (aC (eC (.int 10)) (aC (eC (.int 11)) aN)))))
  (sSeq (sAsg (eA (fun ds => noex (fn__law_number ds)) (aC (o2 dIx (eP 1) (o1 dNeg (eC (.int 1)))) aN)) (gNm 6))
  (sRet (o2 dAdd (oSl dSlice (eP 1) oN (oS (o1 dNeg (eC (.int 1))))) (eA dLst (aC (oA dStr (aC (oA dAbs (aC (o2 dAdd (eP 6) (o2 dIx (eA dLst (aC (eC (.int 1)) (aC (o1 dNeg (eC (.int 1))) aN))) (o2 dSub (eP 0) (eC (.int 10))))) aN)) aN)) aN)))))
  sNext)
  (sSeq (sIf (tV dBool (o2 dEq (eP 0) (eC (.int 12))))
  (sRet (o2 dAdd (oSl dSlice (eP 1) oN (oS (eC (.int 1)))) (o1 dListRev (oSl dSlice (eP 1) (oS (eC (.int 1))) oN))))
  sNext)
  (sSeq (sIf (tV dBool (o2 dEq (eP 0) (eC (.int 13))))
  (sRet (o2 dAdd (eA dLst (aC (eV 3) aN)) (oSl dSlice (eP 1) (oS (eC (.int 1))) oN)))
  sNext)
  (sSeq (sIf (tV dBool (o2 dEq (eP 0) (eC (.int 14))))
  (sRet (o2 dAdd (oSl dSlice (eP 1) oN (oS (o1 dNeg (eC (.int 1))))) (eA dLst (aC (eV 3) aN))))
  sNext)
  (sSeq (sIf (tV dBool (o2 dEq (eP 0) (eC (.int 15))))
  (sRet (o2 dAdd (o2 dAdd (oSl dSlice (eP 1) oN (oS (eP 4))) (eA dLst (aC (oM isStrD dUpper (o2 dIx (eP 1) (eP 4)) aN) aN))) (oSl dSlice (eP 1) (oS (o2 dAdd (eP 4) (eC (.int 1)))) oN)))
  sNext)
  (sSeq (sIf (tA (tV dBool (o2 dEq (eP 0) (eC (.int 16)))) (tV dBool (o2 dLt (oA dLen (aC (oM isStrD dJoin (eC (.str "")) (aC (oSl dSlice (eP 1) (oS (eP 4)) (oS (o2 dAdd (eP 4) (eC (.int 2))))) aN)) aN)) (eC (.int 37)))))
  (sRet (o2 dAdd (o2 dAdd (oSl dSlice (eP 1) oN (oS (eP 4))) (eA dLst (aC (oM isStrD dJoin (eC (.str "")) (aC (oSl dSlice (eP 1) (oS (eP 4)) (oS (o2 dAdd (eP 4) (eC (.int 2))))) aN)) aN))) (oSl dSlice (eP 1) (oS (o2 dAdd (eP 4) (eC (.int 2)))) oN)))
  sNext)
  (sRet (eV 1)))))))))))))))
def fn__law_spoilt_words : List PyData → Res PyData := runD 3 7 F__law_spoilt_words
def F__law_aimed : Rho → Out := (sSeq (sAsg (eA dLst (aC (eC (.str "abcdefghi")) (aC (eC (.str "Abc")) (aC (eC (.str "9a")) (aC (eC (.str "a_b")) (aC (eC (.str "")) (aC (eC (.str "a-b")) (aC (eC (.str "a.")) (aC (eC (.str "zZ")) (aC (eC (.str "r r")) (aC (eC (.str "_a")) (aC (eC (.str "abcdefghij")) (aC (eC (.str "R")) (aC (eC (.str "0")) (aC (eC (.str "a+")) (aC (eC (.str "1r")) (aC (eC (.str "(r)")) aN))))))))))))))))) (gNm 2))
  (sSeq (sAsg (eA dLst (aC (eC (.str "0")) (aC (eC (.str "5")) (aC (eC (.str "04")) (aC (eC (.str "")) (aC (eC (.str "+1")) (aC (eC (.str "-1")) (aC (eC (.str "1.0")) (aC (eC (.str "10")) (aC (eC (.str "x")) (aC (eC (.str "2 2")) (aC (eC (.str "6")) (aC (eC (.str "00")) (aC (eC (.str "1_0")) (aC (eC (.str "four")) (aC (eC (.str "02")) (aC (eC (.str "3,")) aN))))))))))))))))) (gNm 3))
  (sSeq (sAsg (eA dLst (aC (eC (.str "01")) (aC (eC (.str "00")) (aC (eC (.str "+1")) (aC (eC (.str "-1")) (aC (eC (.str "1_0")) (aC (eC (.str "1.0")) (aC (eC (.str "x")) (aC (eC (.str "")) (aC (eC (.str "1e3")) (aC (eC (.str "0x1")) (aC (eC (.str "0 1")) (aC (eC (.str "-0")) (aC (eC (.str "one")) (aC (eC (.str "1,")) (aC (eC (.str "(1)")) (aC (eC (.str "007")) aN))))))))))))))))) (gNm 4))
  (sSeq (sAsg (eA dLst (aC (eC (.str "tables")) (aC (eC (.str "Table")) (aC (eC (.str "tabl")) (aC (eC (.str "")) (aC (eC (.str "row")) (aC (eC (.str "TABLE")) (aC (eC (.str "store")) (aC (eC (.str " table")) (aC (eC (.str "t")) (aC (eC (.str "table:")) (aC (eC (.str "rows")) (aC (eC (.str "ROW")) (aC (eC (.str "Row")) (aC (eC (.str "ro")) (aC (eC (.str "due")) (aC (eC (.str "x")) aN))))))))))))))))) (gNm 5))
  (sSeq (sAsg (oA dInt (aC (o2 dIx (eP 1) (eC (.int 0))) aN)) (gNm 6))
  (sSeq (sAsg (eIf (tV dBool (o2 dLt (eP 6) (eC (.int 7)))) (eC (.str "table")) (eC (.str "row"))) (gNm 7))
  (sSeq (sAsg (eComp (iRange1 (oA dLen (aC (eP 0) aN))) [13] (gNm 13) (tV dBool (o2 dEq (o2 dIx (oM isStrD dSplit (o2 dIx (eP 0) (eP 13)) (aC (eC (.str " ")) aN)) (eC (.int 0))) (eP 7))) (kOne (eV 13))) (gNm 8))
  (sSeq (sIf (tV dBool (o2 dEq (oA dLen (aC (eP 8) aN)) (eC (.int 0))))
  (sRet (o2 dAdd (eP 0) (eA dLst (aC (eC (.str "row 1")) aN))))
  sNext)
  (sSeq (sAsg (o2 dIx (eP 8) (o2 dMod (oA dInt (aC (o2 dIx (eP 1) (eC (.int 1))) aN)) (oA dLen (aC (eP 8) aN)))) (gNm 9))
  (sSeq (sAsg (oM isStrD dSplit (o2 dIx (eP 0) (eP 9)) (aC (eC (.str " ")) aN)) (gNm 10))
  (sSeq (sAsg (o2 dAdd (eC (.int 1)) (o2 dMod (oA dInt (aC (o2 dIx (eP 1) (eC (.int 2))) aN)) (oA dMax2 (aC (o2 dSub (oA dLen (aC (eP 10) aN)) (eC (.int 1))) (aC (eC (.int 1)) aN))))) (gNm 11))
  (sSeq (sAsg (oM isStrD dSplit (o2 dIx (eP 0) (o2 dIx (eP 8) (o2 dSub (o2 dMod (oA dInt (aC (o2 dIx (eP 1) (eC (.int 1))) aN)) (oA dLen (aC (eP 8) aN))) (eC (.int 1))))) (aC (eC (.str " ")) aN)) (gNm 12))
  (sSeq (sIf (tV dBool (o2 dLt (eP 6) (eC (.int 2))))
  (sAsg (o2 dAdd (o2 dAdd (oSl dSlice (eP 10) oN (oS (eC (.int 1)))) (eA dLst (aC (o2 dIx (eP 2) (o2 dIx (eP 1) (eC (.int 3)))) aN))) (oSl dSlice (eP 10) (oS (eC (.int 2))) oN)) (gNm 10))
  (sIf (tV dBool (o2 dLt (eP 6) (eC (.int 4))))
  (sAsg (o2 dAdd (oSl dSlice (eP 10) oN (oS (eC (.int 2)))) (eA dLst (aC (o2 dIx (eP 3) (o2 dIx (eP 1) (eC (.int 3)))) aN))) (gNm 10))
  (sIf (tV dBool (o2 dIn (eP 6) (eA dLst (aC (eC (.int 4)) (aC (eC (.int 10)) aN)))))
  (sAsg (o2 dAdd (eA dLst (aC (o2 dIx (eP 5) (o2 dIx (eP 1) (eC (.int 3)))) aN)) (oSl dSlice (eP 10) (oS (eC (.int 1))) oN)) (gNm 10))
  (sIf (tV dBool (o2 dIn (eP 6) (eA dLst (aC (eC (.int 5)) (aC (eC (.int 11)) aN)))))
  (sAsg (o2 dIx (eA dLst (aC (oSl dSlice (eP 10) oN (oS (o1 dNeg (eC (.int 1))))) (aC (o2 dAdd (eP 10) (eA dLst (aC (eC (.str "1")) aN))) (aC (o2 dAdd (eP 10) (eA dLst (aC (eC (.str "")) aN))) (aC (o2 dAdd (eA dLst (aC (eC (.str "")) aN)) (eP 10)) aN))))) (o2 dMod (oA dInt (aC (o2 dIx (eP 1) (eC (.int 3))) aN)) (eC (.int 4)))) (gNm 10))
  (sIf (tV dBool (o2 dEq (eP 6) (eC (.int 6))))
  (sAsg (o2 dAdd (o2 dAdd (oSl dSlice (eP 10) oN (oS (eC (.int 1)))) (oSl dSlice (eP 12) (oS (eC (.int 1))) (oS (eC (.int 2))))) (oSl dSlice (eP 10) (oS (eC (.int 2))) oN)) (gNm 10))
  (sIf (tV dBool (o2 dIn (eP 6) (eA dLst (aC (eC (.int 7)) (aC (eC (.int 8)) (aC (eC (.int 9)) aN))))))
  (sAsg (o2 dAdd (o2 dAdd (oSl dSlice (eP 10) oN (oS (eP 11))) (eA dLst (aC (o2 dIx (eP 4) (o2 dIx (eP 1) (eC (.int 3)))) aN))) (oSl dSlice (eP 10) (oS (o2 dAdd (eP 11) (eC (.int 1)))) oN)) (gNm 10))
  (sIf (tV dBool (o2 dEq (eP 6) (eC (.int 12))))
  (sRet (o2 dAdd (o2 dAdd (oSl dSlice (eP 0) oN (oS (o2 dAdd (eP 9) (eC (.int 1))))) (eA dLst (aC (o2 dIx (eA dLst (aC (o2 dIx (eP 0) (eP 9)) (aC (oM isStrD dJoin (eC (.str " ")) (aC (eP 12) aN)) aN))) (o2 dMod (oA dInt (aC (o2 dIx (eP 1) (eC (.int 3))) aN)) (eC (.int 2)))) aN))) (oSl dSlice (eP 0) (oS (o2 dAdd (eP 9) (eC (.int 1)))) oN)))
  (sSeq (sAsg (o2 dAdd (oSl dSlice (eP 10) oN (oS (o1 dNeg (eC (.int 1))))) (eA dLst (aC (oA dStr (aC (oA dAbs (aC (o2 dAdd (eA (fun ds => noex (fn__law_number ds)) (aC (o2 dIx (eP 10) (o1 dNeg (eC (.int 1)))) aN)) (o2 dIx (eA dLst (aC (eC (.int 1)) (aC (o1 dNeg (eC (.int 1))) (aC (eC (.int 0)) aN)))) (o2 dMod (oA dInt (aC (o2 dIx (eP 1) (eC (.int 3))) aN)) (eC (.int 3))))) aN)) aN)) aN))) (gNm 10))
  (sRet (o2 dAdd (o2 dAdd (oSl dSlice (eP 0) oN (oS (o2 dAdd (eP 9) (eC (.int 1))))) (eA dLst (aC (oM isStrD dJoin (eC (.str " ")) (aC (eP 10) aN)) aN))) (oSl dSlice (eP 0) (oS (o2 dAdd (eP 9) (eC (.int 1)))) oN)))))))))))
  (sRet (o2 dAdd (o2 dAdd (oSl dSlice (eP 0) oN (oS (eP 9))) (eA dLst (aC (oM isStrD dJoin (eC (.str " ")) (aC (eP 10) aN)) aN))) (oSl dSlice (eP 0) (oS (o2 dAdd (eP 9) (eC (.int 1)))) oN))))))))))))))))
def fn__law_aimed : List PyData → Res PyData := runD 2 14 F__law_aimed
def F__law_spoilt : Rho → Out := (sSeq (sAsg (oA dInt (aC (o2 dIx (eP 1) (eC (.int 0))) aN)) (gNm 2))
  (sSeq (sIf (tV dBool (o2 dEq (oA dLen (aC (eP 0) aN)) (eC (.int 0))))
  (sRet (eA dLst (aC (eC (.str "row 1")) aN)))
  sNext)
  (sSeq (sAsg (o2 dMod (oA dInt (aC (o2 dIx (eP 1) (eC (.int 1))) aN)) (oA dLen (aC (eP 0) aN))) (gNm 3))
  (sSeq (sIf (tV dBool (o2 dEq (eP 2) (eC (.int 0))))
  (sRet (o2 dAdd (o2 dAdd (o2 dAdd (oSl dSlice (eP 0) oN (oS (eP 3))) (oSl dSlice (eP 0) (oS (o2 dAdd (eP 3) (eC (.int 1)))) (oS (o2 dAdd (eP 3) (eC (.int 2)))))) (eA dLst (aC (o2 dIx (eP 0) (eP 3)) aN))) (oSl dSlice (eP 0) (oS (o2 dAdd (eP 3) (eC (.int 2)))) oN)))
  sNext)
  (sSeq (sIf (tV dBool (o2 dEq (eP 2) (eC (.int 1))))
  (sRet (o2 dAdd (o2 dAdd (oSl dSlice (eP 0) oN (oS (eP 3))) (eA dLst (aC (o2 dIx (eP 0) (eP 3)) aN))) (oSl dSlice (eP 0) (oS (eP 3)) oN)))
  sNext)
  (sSeq (sIf (tV dBool (o2 dEq (eP 2) (eC (.int 2))))
  (sRet (o2 dAdd (oSl dSlice (eP 0) oN (oS (eP 3))) (oSl dSlice (eP 0) (oS (o2 dAdd (eP 3) (eC (.int 1)))) oN)))
  sNext)
  (sSeq (sIf (tV dBool (o2 dEq (eP 2) (eC (.int 3))))
  (sSeq (sAsg (o2 dMod (oA dInt (aC (o2 dIx (eP 1) (eC (.int 1))) aN)) (o2 dAdd (oA dLen (aC (eP 0) aN)) (eC (.int 1)))) (gNm 4))
  (sRet (o2 dAdd (o2 dAdd (oSl dSlice (eP 0) oN (oS (eP 4))) (eA dLst (aC (eC (.str "")) aN))) (oSl dSlice (eP 0) (oS (eP 4)) oN))))
  sNext)
  (sSeq (sIf (tV dBool (o2 dEq (eP 2) (eC (.int 4))))
  (sRet (o2 dAdd (oSl dSlice (eP 0) (oS (eP 3)) oN) (oSl dSlice (eP 0) oN (oS (eP 3)))))
  sNext)
  (sRet (o2 dAdd (o2 dAdd (oSl dSlice (eP 0) oN (oS (eP 3))) (eA dLst (aC (oM isStrD dJoin (eC (.str " ")) (aC (eA (fun ds => noex (fn__law_spoilt_words ds)) (aC (eV 2) (aC (oM isStrD dSplit (o2 dIx (eP 0) (eP 3)) (aC (eC (.str " ")) aN)) (aC (eV 1) aN)))) aN)) aN))) (oSl dSlice (eP 0) (oS (o2 dAdd (eP 3) (eC (.int 1)))) oN)))))))))))
def fn__law_spoilt : List PyData → Res PyData := runD 2 5 F__law_spoilt
def F__law_asked : Rho → Out := (sSeq (sTry (sAsg (eA fn_parse_store (aC (eV 0) aN)) (gNm 1)) 2 sub_BadText (fun e => if e.cls = "BadText" then (sSeq (sAsg (eNot (eIsX e 2 is_BadTable_BadRow_BadLine_BadWay)) (gNm 3))
  (sRet (eA dLst (aC (eC (.str "bad")) (aC (eXf e 2 "line") (aC (eAnd (eP 3) (eAnd (eIsX e 2 is_SquareError) (eIsX e 2 is_ValueError))) aN)))))) else sBad))
  (sRet (eA dLst (aC (eC (.str "told")) (aC (eV 1) aN)))))
def fn__law_asked : List PyData → Res PyData := runD 1 4 F__law_asked
def F__law_same : Rho → Out := (sRet (eAnd (o1 (dIsT "tuple") (eP 0)) (eAnd (o2 dEq (oA dRepr (aC (eP 0) aN)) (oA dRepr (aC (eP 1) aN))) (o2 dEq (eP 0) (eP 1)))))
def fn__law_same : List PyData → Res PyData := runD 2 2 F__law_same
def F__law_is_text : Rho → Out := (sRet (eAnd (o1 (dIsT "str") (eP 0)) (o2 dEq (eP 0) (eP 1))))
def fn__law_is_text : List PyData → Res PyData := runD 2 2 F__law_is_text
def F__law_right : Rho → Out := (sSeq (sAsg (eA (fun ds => noex (fn__law_read ds)) (aC (eV 0) aN)) (gNm 1))
  (sSeq (sAsg (eA (fun ds => noex (fn__law_asked ds)) (aC (eV 0) aN)) (gNm 2))
  (sSeq (sIf (tV dBool (o2 dEq (o2 dIx (eP 1) (eC (.int 0))) (eC (.str "bad"))))
  (sRet (eAnd (o2 dEq (o2 dIx (eP 2) (eC (.int 0))) (eC (.str "bad"))) (eAnd (o1 (dIsT "int") (o2 dIx (eP 2) (eC (.int 1)))) (eAnd (o2 dEq (oA dRepr (aC (o2 dIx (eP 2) (eC (.int 1))) aN)) (oA dRepr (aC (o2 dIx (eP 1) (eC (.int 1))) aN))) (o2 dIx (eP 2) (eC (.int 2)))))))
  sNext)
  (sRet (eAnd (o2 dEq (o2 dIx (eP 2) (eC (.int 0))) (eC (.str "told"))) (eA (fun ds => noex (fn__law_same ds)) (aC (o2 dIx (eP 2) (eC (.int 1))) (aC (o2 dIx (eP 1) (eC (.int 1))) aN))))))))
def fn__law_right : List PyData → Res PyData := runD 1 3 F__law_right
def F_law : Rho → Out := (sSeq (sAsg (eA (fun ds => noex (fn__law_store ds)) (aC (eV 0) aN)) (gNm 1))
  (sSeq (sAsg (eA (fun ds => noex (fn__law_text ds)) (aC (eV 1) aN)) (gNm 2))
  (sSeq (sIf (tO (tN (tV dTruth (eA (fun ds => noex (fn__law_is_text ds)) (aC (eA (fun ds => noex (fn_format_store ds)) (aC (eV 1) aN)) (aC (eV 2) aN))))) (tN (tV dTruth (eA (fun ds => noex (fn__law_right ds)) (aC (eV 2) aN)))))
  (sRet (eC (.bool false)))
  sNext)
  (sSeq (sIf (tO (tN (tV dTruth (eA (fun ds => noex (fn__law_is_text ds)) (aC (eA (fun ds => noex (fn_format_store ds)) (aC (eA dTup aN) aN)) (aC (eC (.str "")) aN))))) (tO (tN (tV dTruth (eA (fun ds => noex (fn__law_right ds)) (aC (eC (.str "")) aN)))) (tN (tV dTruth (eA (fun ds => noex (fn__law_right ds)) (aC (eC (.str "\n")) aN))))))
  (sRet (eC (.bool false)))
  sNext)
  (sSeq (sAsg (o2 dAdd (o2 dPow (eC (.int 10)) (eC (.int 30))) (o2 dMod (oA dInt (aC (eA (fun ds => noex (fn__law_cell ds)) (aC (eV 0) (aC (eC (.int 18)) aN))) aN)) (o2 dPow (eC (.int 10)) (eC (.int 35))))) (gNm 3))
  (sSeq (sAsg (eA (fun ds => noex (fn__law_more ds)) (aC (eV 1) (aC (eA (fun ds => noex (fn__law_digits ds)) (aC (eA (fun ds => noex (fn__law_cell ds)) (aC (eV 0) (aC (eC (.int 17)) aN))) (aC (eA dLst (aC (eC (.int 6)) (aC (eC (.int 300)) (aC (eC (.int 50)) (aC (eC (.int 1000000)) (aC (eC (.int 8)) (aC (eC (.int 40)) aN))))))) aN))) (aC (eV 3) aN)))) (gNm 4))
  (sSeq (sAsg (eA (fun ds => noex (fn__law_text ds)) (aC (eV 4) aN)) (gNm 5))
  (sSeq (sAsg (eA (fun ds => noex (fn__law_asked ds)) (aC (eV 5) aN)) (gNm 6))
  (sSeq (sIf (tO (tV dBool (o2 dNe (o2 dIx (eP 6) (eC (.int 0))) (eC (.str "told")))) (tO (tN (tV dTruth (eA (fun ds => noex (fn__law_same ds)) (aC (o2 dIx (eP 6) (eC (.int 1))) (aC (eV 4) aN))))) (tN (tV dTruth (eA (fun ds => noex (fn__law_is_text ds)) (aC (eA (fun ds => noex (fn_format_store ds)) (aC (o2 dIx (eP 6) (eC (.int 1))) aN)) (aC (eV 5) aN)))))))
  (sRet (eC (.bool false)))
  sNext)
  (sSeq (sAsg (oM isStrD dSplit (eP 5) (aC (eC (.str "\n")) aN)) (gNm 7))
  (sSeq (sAsg (oM isStrD dSplit (eP 2) (aC (eC (.str "\n")) aN)) (gNm 8))
  (sSeq (sIf (tN (tV dTruth (eA (fun ds => noex (fn__law_right ds)) (aC (o2 dAdd (eP 5) (eC (.str "\n"))) aN))))
  (sRet (eC (.bool false)))
  sNext)
  (sSeq (sFor (iRange1 (eC (.int 6))) (gNm 9)
  (sSeq (sAsg (eA (fun ds => noex (fn__law_digits ds)) (aC (eA (fun ds => noex (fn__law_cell ds)) (aC (eV 0) (aC (o2 dAdd (eC (.int 19)) (eP 9)) aN))) (aC (eA dLst (aC (eC (.int 18)) (aC (eC (.int 997)) (aC (eC (.int 12)) (aC (eC (.int 24)) (aC (eC (.int 14)) (aC (eC (.int 997)) (aC (eC (.int 16)) (aC (eC (.int 16)) aN))))))))) aN))) (gNm 10))
  (sSeq (sAsg (eA (fun ds => noex (fn__law_spoilt ds)) (aC (o2 dIx (eA dLst (aC (eV 7) (aC (eV 7) (aC (eV 7) (aC (eV 8) (aC (eV 8) (aC (oSl dSlice (eP 8) oN (oS (eC (.int 2)))) aN))))))) (eP 9)) (aC (oSl dSlice (eP 10) oN (oS (eC (.int 4)))) aN))) (gNm 11))
  (sSeq (sAsg (eA (fun ds => noex (fn__law_aimed ds)) (aC (eIf (tV dBool (o2 dEq (eP 9) (eC (.int 0)))) (eV 7) (eV 8)) (aC (oSl dSlice (eP 10) (oS (eC (.int 4))) oN) aN))) (gNm 12))
  (sSeq (sIf (tV dBool (o2 dIn (eP 9) (eA dLst (aC (eC (.int 2)) (aC (eC (.int 5)) aN)))))
  (sAsg (eA (fun ds => noex (fn__law_aimed ds)) (aC (eV 11) (aC (oSl dSlice (eP 10) (oS (eC (.int 4))) oN) aN))) (gNm 11))
  sNext)
  (sIf (tO (tN (tV dTruth (eA (fun ds => noex (fn__law_right ds)) (aC (oM isStrD dJoin (eC (.str "\n")) (aC (eP 11) aN)) aN)))) (tN (tV dTruth (eA (fun ds => noex (fn__law_right ds)) (aC (oM isStrD dJoin (eC (.str "\n")) (aC (eP 12) aN)) aN)))))
  (sRet (eC (.bool false)))
  sNext))))))
  (sRet (eAnd (eA (fun ds => noex (fn__law_right ds)) (aC (eV 2) aN)) (eA (fun ds => noex (fn__law_same ds)) (aC (eA (fun ds => noex (fn_parse_store ds)) (aC (eV 5) aN)) (aC (eV 4) aN))))))))))))))))))
def fn_law : List PyData → Res PyData := runD 1 13 F_law

def cm0 (ad : Str → Addr) : CM := ⟨ad, fun _ => none⟩
structure Tx (K : PySem.W.Frag) (mg : Str → Option Value) (ad : Str → Addr) : Prop where
  d_is_word : mg "is_word" = some (.ref (ad "is_word"))
  f_is_word : ∃ fd, FnP K "is_word" (top 10) (ad "is_word") fd
  d_is_table_name : mg "is_table_name" = some (.ref (ad "is_table_name"))
  f_is_table_name : ∃ fd, FnP K "is_table_name" (top 11) (ad "is_table_name") fd
  d_is_number_text : mg "is_number_text" = some (.ref (ad "is_number_text"))
  f_is_number_text : ∃ fd, FnP K "is_number_text" (top 12) (ad "is_number_text") fd
  d_text_lines : mg "text_lines" = some (.ref (ad "text_lines"))
  f_text_lines : ∃ fd, FnP K "text_lines" (top 14) (ad "text_lines") fd
  d_table_words : mg "table_words" = some (.ref (ad "table_words"))
  f_table_words : ∃ fd, FnP K "table_words" (top 15) (ad "table_words") fd
  d_format_store : mg "format_store" = some (.ref (ad "format_store"))
  f_format_store : ∃ fd, FnP K "format_store" (top 16) (ad "format_store") fd
  d_read_table : mg "read_table" = some (.ref (ad "read_table"))
  f_read_table : ∃ fd, FnP K "read_table" (top 17) (ad "read_table") fd
  d_read_row : mg "read_row" = some (.ref (ad "read_row"))
  f_read_row : ∃ fd, FnP K "read_row" (top 18) (ad "read_row") fd
  d_read_store_line : mg "read_store_line" = some (.ref (ad "read_store_line"))
  f_read_store_line : ∃ fd, FnP K "read_store_line" (top 19) (ad "read_store_line") fd
  d_parse_store : mg "parse_store" = some (.ref (ad "parse_store"))
  f_parse_store : ∃ fd, FnP K "parse_store" (top 20) (ad "parse_store") fd
  d__law_cell : mg "_law_cell" = some (.ref (ad "_law_cell"))
  f__law_cell : ∃ fd, FnP K "_law_cell" (top 22) (ad "_law_cell") fd
  d__law_digits : mg "_law_digits" = some (.ref (ad "_law_digits"))
  f__law_digits : ∃ fd, FnP K "_law_digits" (top 23) (ad "_law_digits") fd
  d__law_name : mg "_law_name" = some (.ref (ad "_law_name"))
  f__law_name : ∃ fd, FnP K "_law_name" (top 24) (ad "_law_name") fd
  d__law_store : mg "_law_store" = some (.ref (ad "_law_store"))
  f__law_store : ∃ fd, FnP K "_law_store" (top 25) (ad "_law_store") fd
  d__law_more : mg "_law_more" = some (.ref (ad "_law_more"))
  f__law_more : ∃ fd, FnP K "_law_more" (top 26) (ad "_law_more") fd
  d__law_text : mg "_law_text" = some (.ref (ad "_law_text"))
  f__law_text : ∃ fd, FnP K "_law_text" (top 27) (ad "_law_text") fd
  d__law_number : mg "_law_number" = some (.ref (ad "_law_number"))
  f__law_number : ∃ fd, FnP K "_law_number" (top 28) (ad "_law_number") fd
  d__law_is_name : mg "_law_is_name" = some (.ref (ad "_law_is_name"))
  f__law_is_name : ∃ fd, FnP K "_law_is_name" (top 29) (ad "_law_is_name") fd
  d__law_read : mg "_law_read" = some (.ref (ad "_law_read"))
  f__law_read : ∃ fd, FnP K "_law_read" (top 30) (ad "_law_read") fd
  d__law_spoilt_words : mg "_law_spoilt_words" = some (.ref (ad "_law_spoilt_words"))
  f__law_spoilt_words : ∃ fd, FnP K "_law_spoilt_words" (top 31) (ad "_law_spoilt_words") fd
  d__law_aimed : mg "_law_aimed" = some (.ref (ad "_law_aimed"))
  f__law_aimed : ∃ fd, FnP K "_law_aimed" (top 32) (ad "_law_aimed") fd
  d__law_spoilt : mg "_law_spoilt" = some (.ref (ad "_law_spoilt"))
  f__law_spoilt : ∃ fd, FnP K "_law_spoilt" (top 33) (ad "_law_spoilt") fd
  d__law_asked : mg "_law_asked" = some (.ref (ad "_law_asked"))
  f__law_asked : ∃ fd, FnP K "_law_asked" (top 34) (ad "_law_asked") fd
  d__law_same : mg "_law_same" = some (.ref (ad "_law_same"))
  f__law_same : ∃ fd, FnP K "_law_same" (top 35) (ad "_law_same") fd
  d__law_is_text : mg "_law_is_text" = some (.ref (ad "_law_is_text"))
  f__law_is_text : ∃ fd, FnP K "_law_is_text" (top 36) (ad "_law_is_text") fd
  d__law_right : mg "_law_right" = some (.ref (ad "_law_right"))
  f__law_right : ∃ fd, FnP K "_law_right" (top 37) (ad "_law_right") fd
  d_law : mg "law" = some (.ref (ad "law"))
  f_law : ∃ fd, FnP K "law" (top 38) (ad "law") fd
  d_SquareError : mg "SquareError" = some (.ref (ad "SquareError"))
  d_BadTable : mg "BadTable" = some (.ref (ad "BadTable"))
  d_BadRow : mg "BadRow" = some (.ref (ad "BadRow"))
  d_BadLine : mg "BadLine" = some (.ref (ad "BadLine"))
  d_BadWay : mg "BadWay" = some (.ref (ad "BadWay"))
  d_BadText : mg "BadText" = some (.ref (ad "BadText"))
  n_ValueError : mg "ValueError" = none
  n_abs : mg "abs" = none
  n_all : mg "all" = none
  n_int : mg "int" = none
  n_isinstance : mg "isinstance" = none
  n_len : mg "len" = none
  n_list : mg "list" = none
  n_max : mg "max" = none
  n_range : mg "range" = none
  n_repr : mg "repr" = none
  n_reversed : mg "reversed" = none
  n_set : mg "set" = none
  n_sorted : mg "sorted" = none
  n_str : mg "str" = none
  n_tuple : mg "tuple" = none
  s_LETTERS : ∃ t, mg "LETTERS" = some (.str "abcdefghijklmnopqrstuvwxyz" t)
  s_FIGURES : ∃ t, mg "FIGURES" = some (.str "0123456789" t)
  x_BadText : ExcTxt K (ad "BadText") (ad "BadText.__init__") ["line"]
  fi_BadText : ∃ fd, FunD K "__init__" "BadText.__init__" (defArgs stI_BadText) (defBody stI_BadText) (defScope stI_BadText) [] [] (ad "BadText.__init__") fd
  e_BadText : ExF K (ad "BadText")
  sub_BadText : ∀ k b, sub_BadText k = some b → PySem.W.exmOne K (.ref ((cm0 ad).adr k)) (.ref (ad "BadText")) = some b
  ex_BadTable_BadRow_BadLine_BadWay : ∀ k b, is_BadTable_BadRow_BadLine_BadWay k = some b → ExcC K ((cm0 ad).adr k)
  ex_SquareError : ∀ k b, is_SquareError k = some b → ExcC K ((cm0 ad).adr k)
  ex_ValueError : ∀ k b, is_ValueError k = some b → ExcC K ((cm0 ad).adr k)
  is_BadTable_BadRow_BadLine_BadWay : ∀ k b, is_BadTable_BadRow_BadLine_BadWay k = some b → PySem.W.kitAny K (.ref ((cm0 ad).adr k)) [.ref (ad "BadTable"), .ref (ad "BadRow"), .ref (ad "BadLine"), .ref (ad "BadWay")] = some b
  is_SquareError : ∀ k b, is_SquareError k = some b → PySem.W.kitOne K (.ref ((cm0 ad).adr k)) (.ref (ad "SquareError")) = some b
  is_ValueError : ∀ k b, is_ValueError k = some b → PySem.W.kitOne K (.ref ((cm0 ad).adr k)) (.type "ValueError") = some b

section
variable {P : Program} {w : World} {K : PySem.W.Frag} {mg : Str → Option Value} {base : Heap} {ad : Str → Addr}
theorem sc_init_BadText : FnScope ["self", "line"] ["self", "line"] (defScope stI_BadText) := ⟨rfl, rfl, rfl, by decide +kernel, rfl, by decide +kernel, by decide +kernel⟩
theorem ok_init_BadText (T : Tx K mg ad) {fd : FuncData} (F : FunD K "__init__" "BadText.__init__" (defArgs stI_BadText) (defBody stI_BadText) (defScope stI_BadText) [] [] (ad "BadText.__init__") fd) : FnOk P w K mg base L2.CX0 1 (ad "BadText.__init__") fd ["self", "line"] (spInit (ad "BadText") ["line"]) :=
  init1 F sc_init_BadText T.x_BadText (fun cdv A outer s H E => pss_one (ps_ost (pv 0) (pv 1)))

end
end K92
end
section
set_option Elab.async false
set_option linter.all false
set_option maxRecDepth 100000
set_option maxHeartbeats 0
namespace K92
open PySem PySem.Spec PyProof.Rows L2 DL
def dd_is_word : He.DefD := ⟨("is_word", none), "is_word", "is_word", defArgs (top 10), defBody (top 10), defScope (top 10), [], []⟩
def dd_is_table_name : He.DefD := ⟨("is_table_name", none), "is_table_name", "is_table_name", defArgs (top 11), defBody (top 11), defScope (top 11), [], []⟩
def dd_is_number_text : He.DefD := ⟨("is_number_text", none), "is_number_text", "is_number_text", defArgs (top 12), defBody (top 12), defScope (top 12), [], []⟩
def dd_text_lines : He.DefD := ⟨("text_lines", none), "text_lines", "text_lines", defArgs (top 14), defBody (top 14), defScope (top 14), [], []⟩
def dd_table_words : He.DefD := ⟨("table_words", none), "table_words", "table_words", defArgs (top 15), defBody (top 15), defScope (top 15), [], []⟩
def dd_format_store : He.DefD := ⟨("format_store", none), "format_store", "format_store", defArgs (top 16), defBody (top 16), defScope (top 16), [], []⟩
def dd_read_table : He.DefD := ⟨("read_table", none), "read_table", "read_table", defArgs (top 17), defBody (top 17), defScope (top 17), [], []⟩
def dd_read_row : He.DefD := ⟨("read_row", none), "read_row", "read_row", defArgs (top 18), defBody (top 18), defScope (top 18), [], []⟩
def dd_read_store_line : He.DefD := ⟨("read_store_line", none), "read_store_line", "read_store_line", defArgs (top 19), defBody (top 19), defScope (top 19), [], []⟩
def dd_parse_store : He.DefD := ⟨("parse_store", none), "parse_store", "parse_store", defArgs (top 20), defBody (top 20), defScope (top 20), [], []⟩
def dd__law_cell : He.DefD := ⟨("_law_cell", none), "_law_cell", "_law_cell", defArgs (top 22), defBody (top 22), defScope (top 22), [], []⟩
def dd__law_digits : He.DefD := ⟨("_law_digits", none), "_law_digits", "_law_digits", defArgs (top 23), defBody (top 23), defScope (top 23), [], []⟩
def dd__law_name : He.DefD := ⟨("_law_name", none), "_law_name", "_law_name", defArgs (top 24), defBody (top 24), defScope (top 24), [], []⟩
def dd__law_store : He.DefD := ⟨("_law_store", none), "_law_store", "_law_store", defArgs (top 25), defBody (top 25), defScope (top 25), [], []⟩
def dd__law_more : He.DefD := ⟨("_law_more", none), "_law_more", "_law_more", defArgs (top 26), defBody (top 26), defScope (top 26), [], []⟩
def dd__law_text : He.DefD := ⟨("_law_text", none), "_law_text", "_law_text", defArgs (top 27), defBody (top 27), defScope (top 27), [], []⟩
def dd__law_number : He.DefD := ⟨("_law_number", none), "_law_number", "_law_number", defArgs (top 28), defBody (top 28), defScope (top 28), [], []⟩
def dd__law_is_name : He.DefD := ⟨("_law_is_name", none), "_law_is_name", "_law_is_name", defArgs (top 29), defBody (top 29), defScope (top 29), [], []⟩
def dd__law_read : He.DefD := ⟨("_law_read", none), "_law_read", "_law_read", defArgs (top 30), defBody (top 30), defScope (top 30), [], []⟩
def dd__law_spoilt_words : He.DefD := ⟨("_law_spoilt_words", none), "_law_spoilt_words", "_law_spoilt_words", defArgs (top 31), defBody (top 31), defScope (top 31), [], []⟩
def dd__law_aimed : He.DefD := ⟨("_law_aimed", none), "_law_aimed", "_law_aimed", defArgs (top 32), defBody (top 32), defScope (top 32), [], []⟩
def dd__law_spoilt : He.DefD := ⟨("_law_spoilt", none), "_law_spoilt", "_law_spoilt", defArgs (top 33), defBody (top 33), defScope (top 33), [], []⟩
def dd__law_asked : He.DefD := ⟨("_law_asked", none), "_law_asked", "_law_asked", defArgs (top 34), defBody (top 34), defScope (top 34), [], []⟩
def dd__law_same : He.DefD := ⟨("_law_same", none), "_law_same", "_law_same", defArgs (top 35), defBody (top 35), defScope (top 35), [], []⟩
def dd__law_is_text : He.DefD := ⟨("_law_is_text", none), "_law_is_text", "_law_is_text", defArgs (top 36), defBody (top 36), defScope (top 36), [], []⟩
def dd__law_right : He.DefD := ⟨("_law_right", none), "_law_right", "_law_right", defArgs (top 37), defBody (top 37), defScope (top 37), [], []⟩
def dd_law : He.DefD := ⟨("law", none), "law", "law", defArgs (top 38), defBody (top 38), defScope (top 38), [], []⟩
def di_BadText : He.DefD := ⟨("BadText", some "__init__"), "__init__", "BadText.__init__", defArgs stI_BadText, defBody stI_BadText, defScope stI_BadText, [], []⟩
def hfn : List He.DefD := [dd_is_word, dd_is_table_name, dd_is_number_text, dd_text_lines, dd_table_words, dd_format_store, dd_read_table, dd_read_row, dd_read_store_line, dd_parse_store, dd__law_cell, dd__law_digits, dd__law_name, dd__law_store, dd__law_more, dd__law_text, dd__law_number, dd__law_is_name, dd__law_read, dd__law_spoilt_words, dd__law_aimed, dd__law_spoilt, dd__law_asked, dd__law_same, dd__law_is_text, dd__law_right, dd_law, di_BadText]
def hfa0 : List He.Fa := [.glo "is_word", .glo "is_table_name", .glo "is_number_text", .glo "text_lines", .glo "table_words", .glo "format_store", .glo "read_table", .glo "read_row", .glo "read_store_line", .glo "parse_store", .glo "_law_cell", .glo "_law_digits", .glo "_law_name", .glo "_law_store", .glo "_law_more", .glo "_law_text", .glo "_law_number", .glo "_law_is_name", .glo "_law_read", .glo "_law_spoilt_words", .glo "_law_aimed", .glo "_law_spoilt", .glo "_law_asked", .glo "_law_same", .glo "_law_is_text", .glo "_law_right", .glo "law", .glo "SquareError", .glo "BadTable", .glo "BadRow"]
def hfa1 : List He.Fa := [.glo "BadLine", .glo "BadWay", .glo "BadText", .free "ValueError", .free "abs", .free "all", .free "int", .free "isinstance", .free "len", .free "list", .free "max", .free "range", .free "repr", .free "reversed", .free "set", .free "sorted", .free "str", .free "tuple", .str "LETTERS" "abcdefghijklmnopqrstuvwxyz", .str "FIGURES" "0123456789"]
def hfa : List He.Fa := hfa0 ++ hfa1
def pth (x : Str) : Str × Option Str := if x = "BadText.__init__" then ("BadText", some "__init__") else (x, none)
def adK (K : PySem.W.Frag) (x : Str) : Addr := He.fAd K (pth x)
def ck (K : PySem.W.Frag) : Bool := txtB K (adK K "BadText") (adK K "BadText.__init__") ["line"] && (excB K (adK K "BadText") && (decide (PySem.W.exmOne K (.ref (adK K "BadText")) (.ref (adK K "BadText")) = some true) &&
  (decide (PySem.W.kitAny K (.ref (adK K "BadText")) [.ref (adK K "BadTable"), .ref (adK K "BadRow"), .ref (adK K "BadLine"), .ref (adK K "BadWay")] = some false) && (decide (PySem.W.kitOne K (.ref (adK K "BadText")) (.ref (adK K "SquareError")) = some true) && decide (PySem.W.kitOne K (.ref (adK K "BadText")) (.type "ValueError") = some true)))))
abbrev R : PySem.W.OpenRow := PySem.W.OpenLaw.row PySem.Challenge.rw_squaremiddles_k92_store_texts_whole
abbrev hk : PySem.W.Hook := hookX 5 ck hfa hfn
def ob (s : PySem.W.SharedT) : AlX := obsX 5 ck hfa hfn (HandSHeadRun.getT s)
theorem ob_eq (s : PySem.W.SharedT) : ob s = hk.obs s.abs := obsX_eq (HandSHeadRun.getT_eq s)
def loose0 : List PySem.Str := ["SquareError", "BadTable", "BadRow", "BadLine", "BadWay", "BadText", "LETTERS", "FIGURES", "is_word", "is_table_name", "is_number_text", "text_lines", "table_words", "format_store", "read_table", "read_row", "read_store_line", "parse_store", "_law_cell", "_law_digits", "_law_name", "_law_store", "_law_more", "_law_text", "_law_number", "_law_is_name", "_law_read", "_law_spoilt_words", "_law_aimed", "_law_spoilt"]
def loose1 : List PySem.Str := ["_law_asked", "_law_same", "_law_is_text", "_law_right"]
def looses : List PySem.Str := loose0 ++ loose1
theorem run (w : World) : HandSHeadRun.RunEq R (PySem.W.view R.prog [38]) hk ob 20000 looses w := by
  intro os
  kernel_rfl
theorem tx_of {K : PySem.W.Frag} {h : Heap} {mg : Str → Option Value} (X : K.In h) (G : h.Ns mainGlobals mg) (k : ck K = true) (c : He.SaysD hfa hfn K) : Tx K mg (adK K) := by
  unfold ck at k
  simp only [Bool.and_eq_true, decide_eq_true_eq] at k
  obtain ⟨k1, k2, k3, k4, k5, k6⟩ := k
  exact {
    d_is_word := He.glo_ok X G (c.fact 0 (f := .glo "is_word") rfl)
    f_is_word := c.def_ 0 (d := dd_is_word) rfl
    d_is_table_name := He.glo_ok X G (c.fact 1 (f := .glo "is_table_name") rfl)
    f_is_table_name := c.def_ 1 (d := dd_is_table_name) rfl
    d_is_number_text := He.glo_ok X G (c.fact 2 (f := .glo "is_number_text") rfl)
    f_is_number_text := c.def_ 2 (d := dd_is_number_text) rfl
    d_text_lines := He.glo_ok X G (c.fact 3 (f := .glo "text_lines") rfl)
    f_text_lines := c.def_ 3 (d := dd_text_lines) rfl
    d_table_words := He.glo_ok X G (c.fact 4 (f := .glo "table_words") rfl)
    f_table_words := c.def_ 4 (d := dd_table_words) rfl
    d_format_store := He.glo_ok X G (c.fact 5 (f := .glo "format_store") rfl)
    f_format_store := c.def_ 5 (d := dd_format_store) rfl
    d_read_table := He.glo_ok X G (c.fact 6 (f := .glo "read_table") rfl)
    f_read_table := c.def_ 6 (d := dd_read_table) rfl
    d_read_row := He.glo_ok X G (c.fact 7 (f := .glo "read_row") rfl)
    f_read_row := c.def_ 7 (d := dd_read_row) rfl
    d_read_store_line := He.glo_ok X G (c.fact 8 (f := .glo "read_store_line") rfl)
    f_read_store_line := c.def_ 8 (d := dd_read_store_line) rfl
    d_parse_store := He.glo_ok X G (c.fact 9 (f := .glo "parse_store") rfl)
    f_parse_store := c.def_ 9 (d := dd_parse_store) rfl
    d__law_cell := He.glo_ok X G (c.fact 10 (f := .glo "_law_cell") rfl)
    f__law_cell := c.def_ 10 (d := dd__law_cell) rfl
    d__law_digits := He.glo_ok X G (c.fact 11 (f := .glo "_law_digits") rfl)
    f__law_digits := c.def_ 11 (d := dd__law_digits) rfl
    d__law_name := He.glo_ok X G (c.fact 12 (f := .glo "_law_name") rfl)
    f__law_name := c.def_ 12 (d := dd__law_name) rfl
    d__law_store := He.glo_ok X G (c.fact 13 (f := .glo "_law_store") rfl)
    f__law_store := c.def_ 13 (d := dd__law_store) rfl
    d__law_more := He.glo_ok X G (c.fact 14 (f := .glo "_law_more") rfl)
    f__law_more := c.def_ 14 (d := dd__law_more) rfl
    d__law_text := He.glo_ok X G (c.fact 15 (f := .glo "_law_text") rfl)
    f__law_text := c.def_ 15 (d := dd__law_text) rfl
    d__law_number := He.glo_ok X G (c.fact 16 (f := .glo "_law_number") rfl)
    f__law_number := c.def_ 16 (d := dd__law_number) rfl
    d__law_is_name := He.glo_ok X G (c.fact 17 (f := .glo "_law_is_name") rfl)
    f__law_is_name := c.def_ 17 (d := dd__law_is_name) rfl
    d__law_read := He.glo_ok X G (c.fact 18 (f := .glo "_law_read") rfl)
    f__law_read := c.def_ 18 (d := dd__law_read) rfl
    d__law_spoilt_words := He.glo_ok X G (c.fact 19 (f := .glo "_law_spoilt_words") rfl)
    f__law_spoilt_words := c.def_ 19 (d := dd__law_spoilt_words) rfl
    d__law_aimed := He.glo_ok X G (c.fact 20 (f := .glo "_law_aimed") rfl)
    f__law_aimed := c.def_ 20 (d := dd__law_aimed) rfl
    d__law_spoilt := He.glo_ok X G (c.fact 21 (f := .glo "_law_spoilt") rfl)
    f__law_spoilt := c.def_ 21 (d := dd__law_spoilt) rfl
    d__law_asked := He.glo_ok X G (c.fact 22 (f := .glo "_law_asked") rfl)
    f__law_asked := c.def_ 22 (d := dd__law_asked) rfl
    d__law_same := He.glo_ok X G (c.fact 23 (f := .glo "_law_same") rfl)
    f__law_same := c.def_ 23 (d := dd__law_same) rfl
    d__law_is_text := He.glo_ok X G (c.fact 24 (f := .glo "_law_is_text") rfl)
    f__law_is_text := c.def_ 24 (d := dd__law_is_text) rfl
    d__law_right := He.glo_ok X G (c.fact 25 (f := .glo "_law_right") rfl)
    f__law_right := c.def_ 25 (d := dd__law_right) rfl
    d_law := He.glo_ok X G (c.fact 26 (f := .glo "law") rfl)
    f_law := c.def_ 26 (d := dd_law) rfl
    d_SquareError := He.glo_ok X G (c.fact 27 (f := .glo "SquareError") rfl)
    d_BadTable := He.glo_ok X G (c.fact 28 (f := .glo "BadTable") rfl)
    d_BadRow := He.glo_ok X G (c.fact 29 (f := .glo "BadRow") rfl)
    d_BadLine := He.glo_ok X G (c.fact 30 (f := .glo "BadLine") rfl)
    d_BadWay := He.glo_ok X G (c.fact 31 (f := .glo "BadWay") rfl)
    d_BadText := He.glo_ok X G (c.fact 32 (f := .glo "BadText") rfl)
    n_ValueError := He.free_ok X G (c.fact 33 (f := .free "ValueError") rfl)
    n_abs := He.free_ok X G (c.fact 34 (f := .free "abs") rfl)
    n_all := He.free_ok X G (c.fact 35 (f := .free "all") rfl)
    n_int := He.free_ok X G (c.fact 36 (f := .free "int") rfl)
    n_isinstance := He.free_ok X G (c.fact 37 (f := .free "isinstance") rfl)
    n_len := He.free_ok X G (c.fact 38 (f := .free "len") rfl)
    n_list := He.free_ok X G (c.fact 39 (f := .free "list") rfl)
    n_max := He.free_ok X G (c.fact 40 (f := .free "max") rfl)
    n_range := He.free_ok X G (c.fact 41 (f := .free "range") rfl)
    n_repr := He.free_ok X G (c.fact 42 (f := .free "repr") rfl)
    n_reversed := He.free_ok X G (c.fact 43 (f := .free "reversed") rfl)
    n_set := He.free_ok X G (c.fact 44 (f := .free "set") rfl)
    n_sorted := He.free_ok X G (c.fact 45 (f := .free "sorted") rfl)
    n_str := He.free_ok X G (c.fact 46 (f := .free "str") rfl)
    n_tuple := He.free_ok X G (c.fact 47 (f := .free "tuple") rfl)
    s_LETTERS := He.str_ok X G (c.fact 48 (f := .str "LETTERS" "abcdefghijklmnopqrstuvwxyz") rfl)
    s_FIGURES := He.str_ok X G (c.fact 49 (f := .str "FIGURES" "0123456789") rfl)
    x_BadText := txtB_ok k1
    fi_BadText := c.def_ 27 (d := di_BadText) rfl
    e_BadText := excB_ok k2
    sub_BadText := fun k b h => by obtain ⟨rfl, rfl⟩ := if_some h; exact k3
    ex_BadTable_BadRow_BadLine_BadWay := fun k b h => by obtain ⟨rfl, rfl⟩ := if_some h; exact (excB_ok k2).exc
    ex_SquareError := fun k b h => by obtain ⟨rfl, rfl⟩ := if_some h; exact (excB_ok k2).exc
    ex_ValueError := fun k b h => by obtain ⟨rfl, rfl⟩ := if_some h; exact (excB_ok k2).exc
    is_BadTable_BadRow_BadLine_BadWay := fun k b h => by obtain ⟨rfl, rfl⟩ := if_some h; exact k4
    is_SquareError := fun k b h => by obtain ⟨rfl, rfl⟩ := if_some h; exact k5
    is_ValueError := fun k b h => by obtain ⟨rfl, rfl⟩ := if_some h; exact k6
  }
end K92
end
section
set_option Elab.async false
set_option linter.all false
set_option maxRecDepth 100000
set_option maxHeartbeats 1000000
namespace K92
open PySem PySem.Spec PyProof.Rows L2 DL
section
variable {P : Program} {w : World} {K : PySem.W.Frag} {mg : Str → Option Value} {base : Heap} {ad : Str → Addr}
abbrev N__law_number : List Str := ["word", "sign"]
theorem sc__law_number : FnScope N__law_number ["word"] (defScope (top 28)) := ⟨rfl, rfl, rfl, by decide +kernel, rfl, by decide +kernel, by decide +kernel⟩
theorem ok__law_number (T : Tx K mg ad) {fd : FuncData} (F : FnP K "_law_number" (top 28) (ad "_law_number") fd) : FnG P w K mg base L2.CX0 3 (ad "_law_number") fd ["word"] (sp0 K (cm0 ad) fn__law_number) := by
  refine fnD0 (ps := ["word"]) (N := N__law_number) F sc__law_number (fun cdv A outer s H E hG hr => ?_)
  exact (pssv_cons (psv_if (PWV.t (pwv_or (ptv_cmp (op_eqU (hu64 hr)) rop_eq (fun _ _ _ => of_nx) (pep_var (pv 0)) (PEV.p pev_str) (nomark _)) (pwv_or1 (PWV.t (pwv_and (ptv_cmp op_gtU rop_gt (fun _ _ _ => of_nx) (PEV.p (pev_callB call_len rcl_len (fun _ _ => of_nx) rfl T.n_len (by rfl) (pqv_cons (pep_var (pv 0)) pqv_nil))) (PEV.p pev_int) (nomark _)) (pwv_and1 (ptv_cmp (op_eqU (hu64 hr)) rop_eq (fun _ _ _ => of_nx) (PEV.p (pev_ix ix_seq rop_ix (fun _ _ _ => of_nx) (pep_var (pv 0)) (PEV.p pev_int) (fun _ _ => rfl))) (PEV.p pev_str) (nomark _))))))))
  (pssv_one (psv_ret (pev_un un_neg run_neg (fun _ _ => of_nx) (PEV.p pev_int))))
  (pssv_nil pss_nil))
  (pssv_cons (psv_for PassesOwn.never rfl (piv_any (pev_var (pv 0))) (pgv_name (i := 1) (pg_name sc__law_number.nd rfl (Or.inl rfl)))
  (pssv_one (psv_if (ptv_cmp (op_notInU (hu65 hr)) rop_notIn (fun _ _ _ => of_nx) (pep_var (pv 1)) (PEV.p pev_str) rfl)
  (pssv_one (psv_ret (pev_un un_neg run_neg (fun _ _ => of_nx) (PEV.p pev_int))))
  (pssv_nil pss_nil))))
  (pssv_one (psv_ret (pev_callTy call_intU rcl_int (fun _ _ => of_nx) rfl T.n_int (by rfl) (pqv_cons (pep_var (pv 0)) pqv_nil))))))
end
end K92
end
section
set_option Elab.async false
set_option linter.all false
set_option maxRecDepth 100000
set_option maxHeartbeats 1000000
namespace K92
open PySem PySem.Spec PyProof.Rows L2 DL
section
variable {P : Program} {w : World} {K : PySem.W.Frag} {mg : Str → Option Value} {base : Heap} {ad : Str → Addr}
abbrev N__law_aimed : List Str := ["lines", "row", "names", "widths", "numbers", "heads", "kind", "word", "places", "at", "words", "w", "other", "k"]
theorem sc__law_aimed : FnScope N__law_aimed ["lines", "row"] (defScope (top 32)) := ⟨rfl, rfl, rfl, by decide +kernel, rfl, by decide +kernel, by decide +kernel⟩
theorem ok__law_aimed (T : Tx K mg ad) {fd : FuncData} (F : FnP K "_law_aimed" (top 32) (ad "_law_aimed") fd) : FnG P w K mg base L2.CX0 4 (ad "_law_aimed") fd ["lines", "row"] (sp0 K (cm0 ad) fn__law_aimed) := by
  obtain ⟨fd__law_number, F__law_number⟩ := T.f__law_number
  have G__law_number := ok__law_number (P := P) (w := w) (base := base) T F__law_number
  have b__law_number : Binds K fd__law_number ["word"] [] := F__law_number.bindsN fun _ _ _ _ _ _ us hl => match us, hl with | [_], _ => rfl
  refine fnD0 (ps := ["lines", "row"]) (N := N__law_aimed) F sc__law_aimed (fun cdv A outer s H E hG hr => ?_)
  exact (pssv_cons (psv_set (i := 2) (PEV.v (pef_lst (pav_cons pev_str (pav_cons pev_str (pav_cons pev_str (pav_cons pev_str (pav_cons pev_str (pav_cons pev_str (pav_cons pev_str (pav_cons pev_str (pav_cons pev_str (pav_cons pev_str (pav_cons pev_str (pav_cons pev_str (pav_cons pev_str (pav_cons pev_str (pav_cons pev_str (pav_cons pev_str pav_nil)))))))))))))))))) (fun _ h => ps_set sc__law_aimed.nd rfl (Or.inl rfl) h))
  (pssv_cons (psv_set (i := 3) (PEV.v (pef_lst (pav_cons pev_str (pav_cons pev_str (pav_cons pev_str (pav_cons pev_str (pav_cons pev_str (pav_cons pev_str (pav_cons pev_str (pav_cons pev_str (pav_cons pev_str (pav_cons pev_str (pav_cons pev_str (pav_cons pev_str (pav_cons pev_str (pav_cons pev_str (pav_cons pev_str (pav_cons pev_str pav_nil)))))))))))))))))) (fun _ h => ps_set sc__law_aimed.nd rfl (Or.inl rfl) h))
  (pssv_cons (psv_set (i := 4) (PEV.v (pef_lst (pav_cons pev_str (pav_cons pev_str (pav_cons pev_str (pav_cons pev_str (pav_cons pev_str (pav_cons pev_str (pav_cons pev_str (pav_cons pev_str (pav_cons pev_str (pav_cons pev_str (pav_cons pev_str (pav_cons pev_str (pav_cons pev_str (pav_cons pev_str (pav_cons pev_str (pav_cons pev_str pav_nil)))))))))))))))))) (fun _ h => ps_set sc__law_aimed.nd rfl (Or.inl rfl) h))
  (pssv_cons (psv_set (i := 5) (PEV.v (pef_lst (pav_cons pev_str (pav_cons pev_str (pav_cons pev_str (pav_cons pev_str (pav_cons pev_str (pav_cons pev_str (pav_cons pev_str (pav_cons pev_str (pav_cons pev_str (pav_cons pev_str (pav_cons pev_str (pav_cons pev_str (pav_cons pev_str (pav_cons pev_str (pav_cons pev_str (pav_cons pev_str pav_nil)))))))))))))))))) (fun _ h => ps_set sc__law_aimed.nd rfl (Or.inl rfl) h))
  (pssv_cons (psv_set (i := 6) (pev_callTy call_intU rcl_int (fun _ _ => of_nx) rfl T.n_int (by rfl) (pqv_cons (PEV.p (pev_ix ix_seq rop_ix (fun _ _ _ => of_nx) (pep_var (pv 1)) (PEV.p pev_int) (fun _ _ => rfl))) pqv_nil)) (fun _ h => ps_set sc__law_aimed.nd rfl (Or.inl rfl) h))
  (pssv_cons (psv_set (i := 7) (pev_if (ptv_cmp (op_ltU (hu0 hr)) rop_lt (fun _ _ _ => of_nx) (pep_var (pv 6)) (PEV.p pev_int) (nomark _)) pev_str pev_str) (fun _ h => ps_set sc__law_aimed.nd rfl (Or.inr rfl) h))
  (pssv_cons (psv_setLcV (i := 8) rfl sc__law_aimed.nd rfl rfl (sw_true rfl rfl rfl (by decide +kernel)) (piv_range1 rfl T.n_range (PEV.p (pev_callB call_len rcl_len (fun _ _ => of_nx) rfl T.n_len (by rfl) (pqv_cons (pep_var (pv 0)) pqv_nil)))) (blkOk_by (own := [("k", 13)]) (N := N__law_aimed) (sc := defScope (top 32)) (by decide +kernel)) rfl (by decide) (fun _ _ _ _ _ => (pgv_name (i := 13) (pg_name sc__law_aimed.nd rfl (Or.inl rfl)))) (fun _ _ _ _ _ => (ptsv_one (ptv_cmp (op_eqU (hu64 hr)) rop_eq (fun _ _ _ => of_nx) (PEV.p (pev_ix ix_seq rop_ix (fun _ _ _ => of_nx) (PEV.fp (pev_bm PySem.F.plainAttrs_str PySem.F.slot_str_split PySem.F.type_str_split rty_str mt_split rmt_split (fun _ _ _ => of_nx) (PEV.p (pev_ix ix_seq rop_ix (fun _ _ _ => of_nx) (pep_var (pv 0)) (pep_var (pv 13)) (fun _ _ => rfl))) (pqv_cons (PEV.p pev_str) pqv_nil))) (PEV.p pev_int) (fun _ _ => rfl))) (pep_var (pv 7)) (nomark _)))) (fun _ _ _ _ _ => (pev_var (pv 13))))
  (pssv_cons (psv_if (ptv_cmp (op_eqU (hu64 hr)) rop_eq (fun _ _ _ => of_nx) (PEV.p (pev_callB call_len rcl_len (fun _ _ => of_nx) rfl T.n_len (by rfl) (pqv_cons (pep_var (pv 8)) pqv_nil))) (PEV.p pev_int) (nomark _))
  (pssv_one (psv_ret (pev_op op_addU rop_add (fun _ _ _ => of_nx) (pep_var (pv 0)) (PEV.fp (pef_lst (pav_cons pev_str pav_nil))))))
  (pssv_nil pss_nil))
  (pssv_cons (psv_set (i := 9) (pev_ix ix_seq rop_ix (fun _ _ _ => of_nx) (pep_var (pv 8)) (PEV.p (pev_op op_mod rop_mod (fun _ _ _ => of_nx) (PEV.p (pev_callTy call_intU rcl_int (fun _ _ => of_nx) rfl T.n_int (by rfl) (pqv_cons (PEV.p (pev_ix ix_seq rop_ix (fun _ _ _ => of_nx) (pep_var (pv 1)) (PEV.p pev_int) (fun _ _ => rfl))) pqv_nil))) (PEV.p (pev_callB call_len rcl_len (fun _ _ => of_nx) rfl T.n_len (by rfl) (pqv_cons (pep_var (pv 8)) pqv_nil))))) (fun _ _ => rfl)) (fun _ h => ps_set sc__law_aimed.nd rfl (Or.inl rfl) h))
  (pssv_cons (psv_set (i := 10) (PEV.v (pev_bm PySem.F.plainAttrs_str PySem.F.slot_str_split PySem.F.type_str_split rty_str mt_split rmt_split (fun _ _ _ => of_nx) (PEV.p (pev_ix ix_seq rop_ix (fun _ _ _ => of_nx) (pep_var (pv 0)) (pep_var (pv 9)) (fun _ _ => rfl))) (pqv_cons (PEV.p pev_str) pqv_nil))) (fun _ h => ps_set sc__law_aimed.nd rfl (Or.inl rfl) h))
  (pssv_cons (psv_set (i := 11) (pev_op op_addU rop_add (fun _ _ _ => of_nx) (PEV.p pev_int) (PEV.p (pev_op op_mod rop_mod (fun _ _ _ => of_nx) (PEV.p (pev_callTy call_intU rcl_int (fun _ _ => of_nx) rfl T.n_int (by rfl) (pqv_cons (PEV.p (pev_ix ix_seq rop_ix (fun _ _ _ => of_nx) (pep_var (pv 1)) (PEV.p pev_int) (fun _ _ => rfl))) pqv_nil))) (PEV.p (pev_callB (call_max2 rfl) rcl_max2 (fun _ _ => of_nx) rfl T.n_max (by rfl) (pqv_cons (PEV.p (pev_op op_sub rop_sub (fun _ _ _ => of_nx) (PEV.p (pev_callB call_len rcl_len (fun _ _ => of_nx) rfl T.n_len (by rfl) (pqv_cons (pep_var (pv 10)) pqv_nil))) (PEV.p pev_int))) (pqv_cons (PEV.p pev_int) pqv_nil))))))) (fun _ h => ps_set sc__law_aimed.nd rfl (Or.inl rfl) h))
  (pssv_cons (psv_set (i := 12) (PEV.v (pev_bm PySem.F.plainAttrs_str PySem.F.slot_str_split PySem.F.type_str_split rty_str mt_split rmt_split (fun _ _ _ => of_nx) (PEV.p (pev_ix ix_seq rop_ix (fun _ _ _ => of_nx) (pep_var (pv 0)) (PEV.p (pev_ix ix_seq rop_ix (fun _ _ _ => of_nx) (pep_var (pv 8)) (PEV.p (pev_op op_sub rop_sub (fun _ _ _ => of_nx) (PEV.p (pev_op op_mod rop_mod (fun _ _ _ => of_nx) (PEV.p (pev_callTy call_intU rcl_int (fun _ _ => of_nx) rfl T.n_int (by rfl) (pqv_cons (PEV.p (pev_ix ix_seq rop_ix (fun _ _ _ => of_nx) (pep_var (pv 1)) (PEV.p pev_int) (fun _ _ => rfl))) pqv_nil))) (PEV.p (pev_callB call_len rcl_len (fun _ _ => of_nx) rfl T.n_len (by rfl) (pqv_cons (pep_var (pv 8)) pqv_nil))))) (PEV.p pev_int))) (fun _ _ => rfl))) (fun _ _ => rfl))) (pqv_cons (PEV.p pev_str) pqv_nil))) (fun _ h => ps_set sc__law_aimed.nd rfl (Or.inl rfl) h))
  (pssv_cons (psv_if (ptv_cmp (op_ltU (hu0 hr)) rop_lt (fun _ _ _ => of_nx) (pep_var (pv 6)) (PEV.p pev_int) (nomark _))
  (pssv_one (psv_set (i := 10) (pev_op op_addU rop_add (fun _ _ _ => of_nx) (PEV.p (pev_op op_addU rop_add (fun _ _ _ => of_nx) (PEV.p (pev_slice sl_U rsl_slice (fun _ _ _ _ => of_nx) (pep_var (pv 10)) pov_none (pov_some (PEV.p pev_int)))) (PEV.fp (pef_lst (pav_cons (pev_ix ix_seq rop_ix (fun _ _ _ => of_nx) (pep_var (pv 2)) (PEV.p (pev_ix ix_seq rop_ix (fun _ _ _ => of_nx) (pep_var (pv 1)) (PEV.p pev_int) (fun _ _ => rfl))) (fun _ _ => rfl)) pav_nil))))) (PEV.p (pev_slice sl_U rsl_slice (fun _ _ _ _ => of_nx) (pep_var (pv 10)) (pov_some (PEV.p pev_int)) pov_none))) (fun _ h => ps_set sc__law_aimed.nd rfl (Or.inl rfl) h)))
  (pssv_one (psv_if (ptv_cmp (op_ltU (hu0 hr)) rop_lt (fun _ _ _ => of_nx) (pep_var (pv 6)) (PEV.p pev_int) (nomark _))
  (pssv_one (psv_set (i := 10) (pev_op op_addU rop_add (fun _ _ _ => of_nx) (PEV.p (pev_slice sl_U rsl_slice (fun _ _ _ _ => of_nx) (pep_var (pv 10)) pov_none (pov_some (PEV.p pev_int)))) (PEV.fp (pef_lst (pav_cons (pev_ix ix_seq rop_ix (fun _ _ _ => of_nx) (pep_var (pv 3)) (PEV.p (pev_ix ix_seq rop_ix (fun _ _ _ => of_nx) (pep_var (pv 1)) (PEV.p pev_int) (fun _ _ => rfl))) (fun _ _ => rfl)) pav_nil)))) (fun _ h => ps_set sc__law_aimed.nd rfl (Or.inl rfl) h)))
  (pssv_one (psv_if (ptv_cmp (op_inU (hu65 hr)) rop_in (fun _ _ _ => of_nx) (pep_var (pv 6)) (PEV.fp (pef_lst (pav_cons pev_int (pav_cons pev_int pav_nil)))) rfl)
  (pssv_one (psv_set (i := 10) (pev_op op_addU rop_add (fun _ _ _ => of_nx) (PEV.fp (pef_lst (pav_cons (pev_ix ix_seq rop_ix (fun _ _ _ => of_nx) (pep_var (pv 5)) (PEV.p (pev_ix ix_seq rop_ix (fun _ _ _ => of_nx) (pep_var (pv 1)) (PEV.p pev_int) (fun _ _ => rfl))) (fun _ _ => rfl)) pav_nil))) (PEV.p (pev_slice sl_U rsl_slice (fun _ _ _ _ => of_nx) (pep_var (pv 10)) (pov_some (PEV.p pev_int)) pov_none))) (fun _ h => ps_set sc__law_aimed.nd rfl (Or.inl rfl) h)))
  (pssv_one (psv_if (ptv_cmp (op_inU (hu65 hr)) rop_in (fun _ _ _ => of_nx) (pep_var (pv 6)) (PEV.fp (pef_lst (pav_cons pev_int (pav_cons pev_int pav_nil)))) rfl)
  (pssv_one (psv_set (i := 10) (pev_ix ix_seq rop_ix (fun _ _ _ => of_nx) (PEV.fp (pef_lst (pav_cons (pev_slice sl_U rsl_slice (fun _ _ _ _ => of_nx) (pep_var (pv 10)) pov_none (pov_some (PEV.p (pev_un un_neg run_neg (fun _ _ => of_nx) (PEV.p pev_int))))) (pav_cons (pev_op op_addU rop_add (fun _ _ _ => of_nx) (pep_var (pv 10)) (PEV.fp (pef_lst (pav_cons pev_str pav_nil)))) (pav_cons (pev_op op_addU rop_add (fun _ _ _ => of_nx) (pep_var (pv 10)) (PEV.fp (pef_lst (pav_cons pev_str pav_nil)))) (pav_cons (pev_op op_addU rop_add (fun _ _ _ => of_nx) (PEV.fp (pef_lst (pav_cons pev_str pav_nil))) (pep_var (pv 10))) pav_nil)))))) (PEV.p (pev_op op_mod rop_mod (fun _ _ _ => of_nx) (PEV.p (pev_callTy call_intU rcl_int (fun _ _ => of_nx) rfl T.n_int (by rfl) (pqv_cons (PEV.p (pev_ix ix_seq rop_ix (fun _ _ _ => of_nx) (pep_var (pv 1)) (PEV.p pev_int) (fun _ _ => rfl))) pqv_nil))) (PEV.p pev_int))) (fun _ _ => rfl)) (fun _ h => ps_set sc__law_aimed.nd rfl (Or.inl rfl) h)))
  (pssv_one (psv_if (ptv_cmp (op_eqU (hu64 hr)) rop_eq (fun _ _ _ => of_nx) (pep_var (pv 6)) (PEV.p pev_int) (nomark _))
  (pssv_one (psv_set (i := 10) (pev_op op_addU rop_add (fun _ _ _ => of_nx) (PEV.p (pev_op op_addU rop_add (fun _ _ _ => of_nx) (PEV.p (pev_slice sl_U rsl_slice (fun _ _ _ _ => of_nx) (pep_var (pv 10)) pov_none (pov_some (PEV.p pev_int)))) (PEV.p (pev_slice sl_U rsl_slice (fun _ _ _ _ => of_nx) (pep_var (pv 12)) (pov_some (PEV.p pev_int)) (pov_some (PEV.p pev_int)))))) (PEV.p (pev_slice sl_U rsl_slice (fun _ _ _ _ => of_nx) (pep_var (pv 10)) (pov_some (PEV.p pev_int)) pov_none))) (fun _ h => ps_set sc__law_aimed.nd rfl (Or.inl rfl) h)))
  (pssv_one (psv_if (ptv_cmp (op_inU (hu65 hr)) rop_in (fun _ _ _ => of_nx) (pep_var (pv 6)) (PEV.fp (pef_lst (pav_cons pev_int (pav_cons pev_int (pav_cons pev_int pav_nil))))) rfl)
  (pssv_one (psv_set (i := 10) (pev_op op_addU rop_add (fun _ _ _ => of_nx) (PEV.p (pev_op op_addU rop_add (fun _ _ _ => of_nx) (PEV.p (pev_slice sl_U rsl_slice (fun _ _ _ _ => of_nx) (pep_var (pv 10)) pov_none (pov_some (pep_var (pv 11))))) (PEV.fp (pef_lst (pav_cons (pev_ix ix_seq rop_ix (fun _ _ _ => of_nx) (pep_var (pv 4)) (PEV.p (pev_ix ix_seq rop_ix (fun _ _ _ => of_nx) (pep_var (pv 1)) (PEV.p pev_int) (fun _ _ => rfl))) (fun _ _ => rfl)) pav_nil))))) (PEV.p (pev_slice sl_U rsl_slice (fun _ _ _ _ => of_nx) (pep_var (pv 10)) (pov_some (PEV.p (pev_op op_addU rop_add (fun _ _ _ => of_nx) (pep_var (pv 11)) (PEV.p pev_int)))) pov_none))) (fun _ h => ps_set sc__law_aimed.nd rfl (Or.inl rfl) h)))
  (pssv_one (psv_if (ptv_cmp (op_eqU (hu64 hr)) rop_eq (fun _ _ _ => of_nx) (pep_var (pv 6)) (PEV.p pev_int) (nomark _))
  (pssv_one (psv_ret (pev_op op_addU rop_add (fun _ _ _ => of_nx) (PEV.p (pev_op op_addU rop_add (fun _ _ _ => of_nx) (PEV.p (pev_slice sl_U rsl_slice (fun _ _ _ _ => of_nx) (pep_var (pv 0)) pov_none (pov_some (PEV.p (pev_op op_addU rop_add (fun _ _ _ => of_nx) (pep_var (pv 9)) (PEV.p pev_int)))))) (PEV.fp (pef_lst (pav_cons (pev_ix ix_seq rop_ix (fun _ _ _ => of_nx) (PEV.fp (pef_lst (pav_cons (pev_ix ix_seq rop_ix (fun _ _ _ => of_nx) (pep_var (pv 0)) (pep_var (pv 9)) (fun _ _ => rfl)) (pav_cons (pev_bm PySem.F.plainAttrs_str PySem.F.slot_str_join PySem.F.type_str_join rty_str mt_join rmt_join (fun _ _ _ => of_nx) (PEV.p pev_str) (pqv_cons (pep_var (pv 12)) pqv_nil)) pav_nil)))) (PEV.p (pev_op op_mod rop_mod (fun _ _ _ => of_nx) (PEV.p (pev_callTy call_intU rcl_int (fun _ _ => of_nx) rfl T.n_int (by rfl) (pqv_cons (PEV.p (pev_ix ix_seq rop_ix (fun _ _ _ => of_nx) (pep_var (pv 1)) (PEV.p pev_int) (fun _ _ => rfl))) pqv_nil))) (PEV.p pev_int))) (fun _ _ => rfl)) pav_nil))))) (PEV.p (pev_slice sl_U rsl_slice (fun _ _ _ _ => of_nx) (pep_var (pv 0)) (pov_some (PEV.p (pev_op op_addU rop_add (fun _ _ _ => of_nx) (pep_var (pv 9)) (PEV.p pev_int)))) pov_none)))))
  (pssv_cons (psv_set (i := 10) (pev_op op_addU rop_add (fun _ _ _ => of_nx) (PEV.p (pev_slice sl_U rsl_slice (fun _ _ _ _ => of_nx) (pep_var (pv 10)) pov_none (pov_some (PEV.p (pev_un un_neg run_neg (fun _ _ => of_nx) (PEV.p pev_int)))))) (PEV.fp (pef_lst (pav_cons (pev_callTy call_strU rcl_str (fun _ _ => of_nx) rfl T.n_str (by rfl) (pqv_cons (PEV.p (pev_callB call_abs rcl_abs (fun _ _ => of_nx) rfl T.n_abs (by rfl) (pqv_cons (PEV.p (pev_op op_addU rop_add (fun _ _ _ => of_nx) (PEV.p (pev_call0 G__law_number rfl hG (hr.mono (by decide)) rfl T.d__law_number F__law_number.kp b__law_number (pav_cons (pev_ix ix_seq rop_ix (fun _ _ _ => of_nx) (pep_var (pv 10)) (PEV.p (pev_un un_neg run_neg (fun _ _ => of_nx) (PEV.p pev_int))) (fun _ _ => rfl)) pav_nil))) (PEV.p (pev_ix ix_seq rop_ix (fun _ _ _ => of_nx) (PEV.fp (pef_lst (pav_cons pev_int (pav_cons (pev_un un_neg run_neg (fun _ _ => of_nx) (PEV.p pev_int)) (pav_cons pev_int pav_nil))))) (PEV.p (pev_op op_mod rop_mod (fun _ _ _ => of_nx) (PEV.p (pev_callTy call_intU rcl_int (fun _ _ => of_nx) rfl T.n_int (by rfl) (pqv_cons (PEV.p (pev_ix ix_seq rop_ix (fun _ _ _ => of_nx) (pep_var (pv 1)) (PEV.p pev_int) (fun _ _ => rfl))) pqv_nil))) (PEV.p pev_int))) (fun _ _ => rfl))))) pqv_nil))) pqv_nil)) pav_nil)))) (fun _ h => ps_set sc__law_aimed.nd rfl (Or.inl rfl) h))
  (pssv_one (psv_ret (pev_op op_addU rop_add (fun _ _ _ => of_nx) (PEV.p (pev_op op_addU rop_add (fun _ _ _ => of_nx) (PEV.p (pev_slice sl_U rsl_slice (fun _ _ _ _ => of_nx) (pep_var (pv 0)) pov_none (pov_some (PEV.p (pev_op op_addU rop_add (fun _ _ _ => of_nx) (pep_var (pv 9)) (PEV.p pev_int)))))) (PEV.fp (pef_lst (pav_cons (pev_bm PySem.F.plainAttrs_str PySem.F.slot_str_join PySem.F.type_str_join rty_str mt_join rmt_join (fun _ _ _ => of_nx) (PEV.p pev_str) (pqv_cons (pep_var (pv 10)) pqv_nil)) pav_nil))))) (PEV.p (pev_slice sl_U rsl_slice (fun _ _ _ _ => of_nx) (pep_var (pv 0)) (pov_some (PEV.p (pev_op op_addU rop_add (fun _ _ _ => of_nx) (pep_var (pv 9)) (PEV.p pev_int)))) pov_none)))))))))))))))))))
  (pssv_one (psv_ret (pev_op op_addU rop_add (fun _ _ _ => of_nx) (PEV.p (pev_op op_addU rop_add (fun _ _ _ => of_nx) (PEV.p (pev_slice sl_U rsl_slice (fun _ _ _ _ => of_nx) (pep_var (pv 0)) pov_none (pov_some (pep_var (pv 9))))) (PEV.fp (pef_lst (pav_cons (pev_bm PySem.F.plainAttrs_str PySem.F.slot_str_join PySem.F.type_str_join rty_str mt_join rmt_join (fun _ _ _ => of_nx) (PEV.p pev_str) (pqv_cons (pep_var (pv 10)) pqv_nil)) pav_nil))))) (PEV.p (pev_slice sl_U rsl_slice (fun _ _ _ _ => of_nx) (pep_var (pv 0)) (pov_some (PEV.p (pev_op op_addU rop_add (fun _ _ _ => of_nx) (pep_var (pv 9)) (PEV.p pev_int)))) pov_none))))))))))))))))))
end
end K92
end
section
set_option Elab.async false
set_option linter.all false
set_option maxRecDepth 100000
set_option maxHeartbeats 1000000
namespace K92
open PySem PySem.Spec PyProof.Rows L2 DL
section
variable {P : Program} {w : World} {K : PySem.W.Frag} {mg : Str → Option Value} {base : Heap} {ad : Str → Addr}
abbrev N_is_number_text : List Str := ["text", "sign"]
theorem sc_is_number_text : FnScope N_is_number_text ["text"] (defScope (top 12)) := ⟨rfl, rfl, rfl, by decide +kernel, rfl, by decide +kernel, by decide +kernel⟩
theorem ok_is_number_text (T : Tx K mg ad) {fd : FuncData} (F : FnP K "is_number_text" (top 12) (ad "is_number_text") fd) : FnG P w K mg base L2.CX0 3 (ad "is_number_text") fd ["text"] (sp0 K (cm0 ad) fn_is_number_text) := by
  refine fnD0 (ps := ["text"]) (N := N_is_number_text) F sc_is_number_text (fun cdv A outer s H E hG hr => ?_)
  exact (pssv_cons (psv_if (PWV.t (pwv_or (ptv_cmp (op_eqU (hu64 hr)) rop_eq (fun _ _ _ => of_nx) (PEV.p (pev_callB call_len rcl_len (fun _ _ => of_nx) rfl T.n_len (by rfl) (pqv_cons (pep_var (pv 0)) pqv_nil))) (PEV.p pev_int) (nomark _)) (pwv_or1 (PWV.t (pwv_and (ptv_cmp op_gtU rop_gt (fun _ _ _ => of_nx) (PEV.p (pev_callB call_len rcl_len (fun _ _ => of_nx) rfl T.n_len (by rfl) (pqv_cons (pep_var (pv 0)) pqv_nil))) (PEV.p pev_int) (nomark _)) (pwv_and1 (ptv_cmp (op_eqU (hu64 hr)) rop_eq (fun _ _ _ => of_nx) (PEV.p (pev_ix ix_seq rop_ix (fun _ _ _ => of_nx) (pep_var (pv 0)) (PEV.p pev_int) (fun _ _ => rfl))) (PEV.p pev_str) (nomark _))))))))
  (pssv_one (psv_ret pev_bl))
  (pssv_nil pss_nil))
  (pssv_cons (psv_for PassesOwn.never rfl (piv_any (pev_var (pv 0))) (pgv_name (i := 1) (pg_name sc_is_number_text.nd rfl (Or.inl rfl)))
  (pssv_one (psv_if (ptv_cmp (op_notInU (hu65 hr)) rop_notIn (fun _ _ _ => of_nx) (pep_var (pv 1)) (PEV.p (pev_globS rfl T.s_FIGURES)) rfl)
  (pssv_one (psv_ret pev_bl))
  (pssv_nil pss_nil))))
  (pssv_one (psv_ret pev_bl))))
end
end K92
end
section
set_option Elab.async false
set_option linter.all false
set_option maxRecDepth 100000
set_option maxHeartbeats 1000000
namespace K92
open PySem PySem.Spec PyProof.Rows L2 DL
section
variable {P : Program} {w : World} {K : PySem.W.Frag} {mg : Str → Option Value} {base : Heap} {ad : Str → Addr}
abbrev N_read_row : List Str := ["words", "tables", "row", "rows", "word"]
theorem sc_read_row : FnScope N_read_row ["words", "tables"] (defScope (top 18)) := ⟨rfl, rfl, rfl, by decide +kernel, rfl, by decide +kernel, by decide +kernel⟩
theorem ok_read_row (T : Tx K mg ad) {fd : FuncData} (F : FnP K "read_row" (top 18) (ad "read_row") fd) : FnG P w K mg base L2.CX0 4 (ad "read_row") fd ["words", "tables"] (sp0 K (cm0 ad) fn_read_row) := by
  obtain ⟨fd_is_number_text, F_is_number_text⟩ := T.f_is_number_text
  have G_is_number_text := ok_is_number_text (P := P) (w := w) (base := base) T F_is_number_text
  have b_is_number_text : Binds K fd_is_number_text ["text"] [] := F_is_number_text.bindsN fun _ _ _ _ _ _ us hl => match us, hl with | [_], _ => rfl
  refine fnD0 (ps := ["words", "tables"]) (N := N_read_row) F sc_read_row (fun cdv A outer s H E hG hr => ?_)
  exact (pssv_cons (psv_if (PWV.t (pwv_or (ptv_cmp (op_neU (hu64 hr)) rop_ne (fun _ _ _ => of_nx) (PEV.p (pev_ix ix_seq rop_ix (fun _ _ _ => of_nx) (pep_var (pv 0)) (PEV.p pev_int) (fun _ _ => rfl))) (PEV.p pev_str) (nomark _)) (pwv_or (ptv_cmp (op_eqU (hu64 hr)) rop_eq (fun _ _ _ => of_nx) (PEV.p (pev_callB call_len rcl_len (fun _ _ => of_nx) rfl T.n_len (by rfl) (pqv_cons (pep_var (pv 1)) pqv_nil))) (PEV.p pev_int) (nomark _)) (pwv_or1 (ptv_cmp (op_neU (hu64 hr)) rop_ne (fun _ _ _ => of_nx) (PEV.p (pev_callB call_len rcl_len (fun _ _ => of_nx) rfl T.n_len (by rfl) (pqv_cons (pep_var (pv 0)) pqv_nil))) (PEV.p (pev_op op_addU rop_add (fun _ _ _ => of_nx) (PEV.p (pev_ix ix_seq rop_ix (fun _ _ _ => of_nx) (PEV.p (pev_ix ix_seq rop_ix (fun _ _ _ => of_nx) (pep_var (pv 1)) (PEV.p (pev_un un_neg run_neg (fun _ _ => of_nx) (PEV.p pev_int))) (fun _ _ => rfl))) (PEV.p pev_int) (fun _ _ => rfl))) (PEV.p pev_int))) (nomark _))))))
  (pssv_one (psv_ret pev_non))
  (pssv_nil pss_nil))
  (pssv_cons (psv_if (ptv_not (ptv_truth (PEV.p (pev_callB (cr_all rfl) rcl_all (fun _ _ => of_nx) rfl T.n_all (by rfl) (pqv_cons (PEV.fp (pef_compV rfl sc_read_row.nd (piv_any (PEV.p (pev_slice sl_U rsl_slice (fun _ _ _ _ => of_nx) (pep_var (pv 0)) (pov_some (PEV.p pev_int)) pov_none))) (blkOk_by (own := [("word", 4)]) (N := N_read_row) (sc := defScope (top 18)) (by decide +kernel)) rfl (by decide) (fun _ _ _ _ _ => (pgv_name (i := 4) (pg_name sc_read_row.nd rfl (Or.inl rfl)))) (fun _ _ _ _ _ => ptsv_nil) (fun _ _ _ _ _ => (pev_call0 G_is_number_text rfl hG (hr.mono (by decide)) rfl T.d_is_number_text F_is_number_text.kp b_is_number_text (pav_cons (pev_var (pv 4)) pav_nil))))) pqv_nil))) (fun _ => rfl)))
  (pssv_one (psv_ret pev_non))
  (pssv_nil pss_nil))
  (pssv_cons (psv_set (i := 2) (pev_callTy call_tuple_of rcl_tup (fun _ _ => of_nx) rfl T.n_tuple (by rfl) (pqv_cons (PEV.fp (pef_compV rfl sc_read_row.nd (piv_any (PEV.p (pev_slice sl_U rsl_slice (fun _ _ _ _ => of_nx) (pep_var (pv 0)) (pov_some (PEV.p pev_int)) pov_none))) (blkOk_by (own := [("word", 4)]) (N := N_read_row) (sc := defScope (top 18)) (by decide +kernel)) rfl (by decide) (fun _ _ _ _ _ => (pgv_name (i := 4) (pg_name sc_read_row.nd rfl (Or.inl rfl)))) (fun _ _ _ _ _ => ptsv_nil) (fun _ _ _ _ _ => (pev_callTy call_intU rcl_int (fun _ _ => of_nx) rfl T.n_int (by rfl) (pqv_cons (pep_var (pv 4)) pqv_nil))))) pqv_nil)) (fun _ h => ps_set sc_read_row.nd rfl (Or.inl rfl) h))
  (pssv_cons (psv_set (i := 3) (pev_ix ix_seq rop_ix (fun _ _ _ => of_nx) (PEV.p (pev_ix ix_seq rop_ix (fun _ _ _ => of_nx) (pep_var (pv 1)) (PEV.p (pev_un un_neg run_neg (fun _ _ => of_nx) (PEV.p pev_int))) (fun _ _ => rfl))) (PEV.p pev_int) (fun _ _ => rfl)) (fun _ h => ps_set sc_read_row.nd rfl (Or.inl rfl) h))
  (pssv_one (psv_ret (pev_if (PWV.t (pwv_and (ptv_cmp op_gtU rop_gt (fun _ _ _ => of_nx) (PEV.p (pev_callB call_len rcl_len (fun _ _ => of_nx) rfl T.n_len (by rfl) (pqv_cons (pep_var (pv 3)) pqv_nil))) (PEV.p pev_int) (nomark _)) (pwv_and1 (ptv_cmp (op_leU (hu0 hr)) rop_le (fun _ _ _ => of_nx) (pep_var (pv 2)) (PEV.p (pev_ix ix_seq rop_ix (fun _ _ _ => of_nx) (pep_var (pv 3)) (PEV.p (pev_un un_neg run_neg (fun _ _ => of_nx) (PEV.p pev_int))) (fun _ _ => rfl))) (nomark _))))) pev_non (pev_var (pv 2)))))))))
end
end K92
end
section
set_option Elab.async false
set_option linter.all false
set_option maxRecDepth 100000
set_option maxHeartbeats 1000000
namespace K92
open PySem PySem.Spec PyProof.Rows L2 DL
section
variable {P : Program} {w : World} {K : PySem.W.Frag} {mg : Str → Option Value} {base : Heap} {ad : Str → Addr}
abbrev N_is_word : List Str := ["text", "most", "sign"]
theorem sc_is_word : FnScope N_is_word ["text", "most"] (defScope (top 10)) := ⟨rfl, rfl, rfl, by decide +kernel, rfl, by decide +kernel, by decide +kernel⟩
theorem ok_is_word (T : Tx K mg ad) {fd : FuncData} (F : FnP K "is_word" (top 10) (ad "is_word") fd) : FnG P w K mg base L2.CX0 3 (ad "is_word") fd ["text", "most"] (sp0 K (cm0 ad) fn_is_word) := by
  refine fnD0 (ps := ["text", "most"]) (N := N_is_word) F sc_is_word (fun cdv A outer s H E hG hr => ?_)
  exact (pssv_cons (psv_if (PWV.t (pwv_or (ptv_cmp (op_eqU (hu64 hr)) rop_eq (fun _ _ _ => of_nx) (PEV.p (pev_callB call_len rcl_len (fun _ _ => of_nx) rfl T.n_len (by rfl) (pqv_cons (pep_var (pv 0)) pqv_nil))) (PEV.p pev_int) (nomark _)) (pwv_or (ptv_cmp op_gtU rop_gt (fun _ _ _ => of_nx) (PEV.p (pev_callB call_len rcl_len (fun _ _ => of_nx) rfl T.n_len (by rfl) (pqv_cons (pep_var (pv 0)) pqv_nil))) (pep_var (pv 1)) (nomark _)) (pwv_or1 (ptv_cmp (op_notInU (hu65 hr)) rop_notIn (fun _ _ _ => of_nx) (PEV.p (pev_ix ix_seq rop_ix (fun _ _ _ => of_nx) (pep_var (pv 0)) (PEV.p pev_int) (fun _ _ => rfl))) (PEV.p (pev_globS rfl T.s_LETTERS)) rfl)))))
  (pssv_one (psv_ret pev_bl))
  (pssv_nil pss_nil))
  (pssv_cons (psv_for PassesOwn.never rfl (piv_any (pev_var (pv 0))) (pgv_name (i := 2) (pg_name sc_is_word.nd rfl (Or.inl rfl)))
  (pssv_one (psv_if (PWV.t (pwv_and (ptv_cmp (op_notInU (hu65 hr)) rop_notIn (fun _ _ _ => of_nx) (pep_var (pv 2)) (PEV.p (pev_globS rfl T.s_LETTERS)) rfl) (pwv_and1 (ptv_cmp (op_notInU (hu65 hr)) rop_notIn (fun _ _ _ => of_nx) (pep_var (pv 2)) (PEV.p (pev_globS rfl T.s_FIGURES)) rfl))))
  (pssv_one (psv_ret pev_bl))
  (pssv_nil pss_nil))))
  (pssv_one (psv_ret pev_bl))))
end
end K92
end
section
set_option Elab.async false
set_option linter.all false
set_option maxRecDepth 100000
set_option maxHeartbeats 1000000
namespace K92
open PySem PySem.Spec PyProof.Rows L2 DL
section
variable {P : Program} {w : World} {K : PySem.W.Frag} {mg : Str → Option Value} {base : Heap} {ad : Str → Addr}
abbrev N_is_table_name : List Str := ["text"]
theorem sc_is_table_name : FnScope N_is_table_name ["text"] (defScope (top 11)) := ⟨rfl, rfl, rfl, by decide +kernel, rfl, by decide +kernel, by decide +kernel⟩
theorem ok_is_table_name (T : Tx K mg ad) {fd : FuncData} (F : FnP K "is_table_name" (top 11) (ad "is_table_name") fd) : FnG P w K mg base L2.CX0 4 (ad "is_table_name") fd ["text"] (sp0 K (cm0 ad) fn_is_table_name) := by
  obtain ⟨fd_is_word, F_is_word⟩ := T.f_is_word
  have G_is_word := ok_is_word (P := P) (w := w) (base := base) T F_is_word
  have b_is_word : Binds K fd_is_word ["text", "most"] [] := F_is_word.bindsN fun _ _ _ _ _ _ us hl => match us, hl with | [_, _], _ => rfl
  refine fnD0 (ps := ["text"]) (N := N_is_table_name) F sc_is_table_name (fun cdv A outer s H E hG hr => ?_)
  exact (pssv_one (psv_ret (pev_call0 G_is_word rfl hG (hr.mono (by decide)) rfl T.d_is_word F_is_word.kp b_is_word (pav_cons (pev_var (pv 0)) (pav_cons pev_int pav_nil)))))
end
end K92
end
section
set_option Elab.async false
set_option linter.all false
set_option maxRecDepth 100000
set_option maxHeartbeats 1000000
namespace K92
open PySem PySem.Spec PyProof.Rows L2 DL
section
variable {P : Program} {w : World} {K : PySem.W.Frag} {mg : Str → Option Value} {base : Heap} {ad : Str → Addr}
abbrev N_read_table : List Str := ["words", "tables"]
theorem sc_read_table : FnScope N_read_table ["words", "tables"] (defScope (top 17)) := ⟨rfl, rfl, rfl, by decide +kernel, rfl, by decide +kernel, by decide +kernel⟩
theorem ok_read_table (T : Tx K mg ad) {fd : FuncData} (F : FnP K "read_table" (top 17) (ad "read_table") fd) : FnG P w K mg base L2.CX0 5 (ad "read_table") fd ["words", "tables"] (sp0 K (cm0 ad) fn_read_table) := by
  obtain ⟨fd_is_table_name, F_is_table_name⟩ := T.f_is_table_name
  have G_is_table_name := ok_is_table_name (P := P) (w := w) (base := base) T F_is_table_name
  have b_is_table_name : Binds K fd_is_table_name ["text"] [] := F_is_table_name.bindsN fun _ _ _ _ _ _ us hl => match us, hl with | [_], _ => rfl
  refine fnD0 (ps := ["words", "tables"]) (N := N_read_table) F sc_read_table (fun cdv A outer s H E hG hr => ?_)
  exact (pssv_cons (psv_if (PWV.t (pwv_or (ptv_cmp (op_neU (hu64 hr)) rop_ne (fun _ _ _ => of_nx) (PEV.p (pev_callB call_len rcl_len (fun _ _ => of_nx) rfl T.n_len (by rfl) (pqv_cons (pep_var (pv 0)) pqv_nil))) (PEV.p pev_int) (nomark _)) (pwv_or (ptv_cmp (op_neU (hu64 hr)) rop_ne (fun _ _ _ => of_nx) (PEV.p (pev_ix ix_seq rop_ix (fun _ _ _ => of_nx) (pep_var (pv 0)) (PEV.p pev_int) (fun _ _ => rfl))) (PEV.p pev_str) (nomark _)) (pwv_or1 (ptv_not (ptv_truth (PEV.p (pev_call0 G_is_table_name rfl hG (hr.mono (by decide)) rfl T.d_is_table_name F_is_table_name.kp b_is_table_name (pav_cons (pev_ix ix_seq rop_ix (fun _ _ _ => of_nx) (pep_var (pv 0)) (PEV.p pev_int) (fun _ _ => rfl)) pav_nil))) (fun _ => rfl)))))))
  (pssv_one (psv_ret pev_non))
  (pssv_nil pss_nil))
  (pssv_cons (psv_if (PWV.t (pwv_or (ptv_cmp (op_notInU (hu65 hr)) rop_notIn (fun _ _ _ => of_nx) (PEV.p (pev_ix ix_seq rop_ix (fun _ _ _ => of_nx) (pep_var (pv 0)) (PEV.p pev_int) (fun _ _ => rfl))) (PEV.p (pev_tup (pav_cons pev_str (pav_cons pev_str (pav_cons pev_str (pav_cons pev_str pav_nil)))))) rfl) (pwv_or1 (PWV.t (pwv_and (ptv_cmp op_gtU rop_gt (fun _ _ _ => of_nx) (PEV.p (pev_callB call_len rcl_len (fun _ _ => of_nx) rfl T.n_len (by rfl) (pqv_cons (pep_var (pv 1)) pqv_nil))) (PEV.p pev_int) (nomark _)) (pwv_and1 (ptv_cmp (op_leU (hu0 hr)) rop_le (fun _ _ _ => of_nx) (PEV.p (pev_ix ix_seq rop_ix (fun _ _ _ => of_nx) (pep_var (pv 0)) (PEV.p pev_int) (fun _ _ => rfl))) (PEV.p (pev_ix ix_seq rop_ix (fun _ _ _ => of_nx) (PEV.p (pev_ix ix_seq rop_ix (fun _ _ _ => of_nx) (pep_var (pv 1)) (PEV.p (pev_un un_neg run_neg (fun _ _ => of_nx) (PEV.p pev_int))) (fun _ _ => rfl))) (PEV.p pev_int) (fun _ _ => rfl))) (nomark _))))))))
  (pssv_one (psv_ret pev_non))
  (pssv_nil pss_nil))
  (pssv_one (psv_ret (pev_tup (pav_cons (pev_ix ix_seq rop_ix (fun _ _ _ => of_nx) (pep_var (pv 0)) (PEV.p pev_int) (fun _ _ => rfl)) (pav_cons (pev_callTy call_intU rcl_int (fun _ _ => of_nx) rfl T.n_int (by rfl) (pqv_cons (PEV.p (pev_ix ix_seq rop_ix (fun _ _ _ => of_nx) (pep_var (pv 0)) (PEV.p pev_int) (fun _ _ => rfl))) pqv_nil)) (pav_cons (pev_tup pav_nil) pav_nil))))))))
end
end K92
end
section
set_option Elab.async false
set_option linter.all false
set_option maxRecDepth 100000
set_option maxHeartbeats 1000000
namespace K92
open PySem PySem.Spec PyProof.Rows L2 DL
section
variable {P : Program} {w : World} {K : PySem.W.Frag} {mg : Str → Option Value} {base : Heap} {ad : Str → Addr}
abbrev N_read_store_line : List Str := ["line", "tables", "words", "row", "name", "width", "rows", "table"]
theorem sc_read_store_line : FnScope N_read_store_line ["line", "tables"] (defScope (top 19)) := ⟨rfl, rfl, rfl, by decide +kernel, rfl, by decide +kernel, by decide +kernel⟩
theorem ok_read_store_line (T : Tx K mg ad) {fd : FuncData} (F : FnP K "read_store_line" (top 19) (ad "read_store_line") fd) : FnG P w K mg base L2.CX0 6 (ad "read_store_line") fd ["line", "tables"] (sp0 K (cm0 ad) fn_read_store_line) := by
  obtain ⟨fd_read_row, F_read_row⟩ := T.f_read_row
  have G_read_row := ok_read_row (P := P) (w := w) (base := base) T F_read_row
  have b_read_row : Binds K fd_read_row ["words", "tables"] [] := F_read_row.bindsN fun _ _ _ _ _ _ us hl => match us, hl with | [_, _], _ => rfl
  obtain ⟨fd_read_table, F_read_table⟩ := T.f_read_table
  have G_read_table := ok_read_table (P := P) (w := w) (base := base) T F_read_table
  have b_read_table : Binds K fd_read_table ["words", "tables"] [] := F_read_table.bindsN fun _ _ _ _ _ _ us hl => match us, hl with | [_, _], _ => rfl
  refine fnD0 (ps := ["line", "tables"]) (N := N_read_store_line) F sc_read_store_line (fun cdv A outer s H E hG hr => ?_)
  exact (pssv_cons (psv_set (i := 2) (PEV.v (pev_bm PySem.F.plainAttrs_str PySem.F.slot_str_split PySem.F.type_str_split rty_str mt_split rmt_split (fun _ _ _ => of_nx) (pep_var (pv 0)) (pqv_cons (PEV.p pev_str) pqv_nil))) (fun _ h => ps_set sc_read_store_line.nd rfl (Or.inl rfl) h))
  (pssv_cons (psv_set (i := 3) (pev_call0 G_read_row rfl hG (hr.mono (by decide)) rfl T.d_read_row F_read_row.kp b_read_row (pav_cons (pev_var (pv 2)) (pav_cons (pev_var (pv 1)) pav_nil))) (fun _ h => ps_set sc_read_store_line.nd rfl (Or.inl rfl) h))
  (pssv_cons (psv_if (ptv_cmp op_notN rop_isNot (fun _ _ _ => of_nx) (pep_var (pv 3)) (PEV.p pev_non) (nomark _))
  (pssv_cons (psv_asg (pev_ix ix_seq rop_ix (fun _ _ _ => of_nx) (pep_var (pv 1)) (PEV.p (pev_un un_neg run_neg (fun _ _ => of_nx) (PEV.p pev_int))) (fun _ _ => rfl)) (pgv_tup (n := 3) (pgsv_cons (pgv_name (i := 4) (pg_name sc_read_store_line.nd rfl (Or.inl rfl))) (pgsv_cons (pgv_name (i := 5) (pg_name sc_read_store_line.nd rfl (Or.inl rfl))) (pgsv_cons (pgv_name (i := 6) (pg_name sc_read_store_line.nd rfl (Or.inl rfl))) pgsv_nil))) (fun _ h => pg_tup rfl h)))
  (pssv_one (psv_ret (pev_op op_addU rop_add (fun _ _ _ => of_nx) (PEV.p (pev_slice sl_U rsl_slice (fun _ _ _ _ => of_nx) (pep_var (pv 1)) pov_none (pov_some (PEV.p (pev_un un_neg run_neg (fun _ _ => of_nx) (PEV.p pev_int)))))) (PEV.p (pev_tup (pav_cons (pev_tup (pav_cons (pev_var (pv 4)) (pav_cons (pev_var (pv 5)) (pav_cons (pev_op op_addU rop_add (fun _ _ _ => of_nx) (pep_var (pv 6)) (PEV.p (pev_tup (pav_cons (pev_var (pv 3)) pav_nil)))) pav_nil)))) pav_nil)))))))
  (pssv_nil pss_nil))
  (pssv_cons (psv_set (i := 7) (pev_call0 G_read_table rfl hG (hr.mono (by decide)) rfl T.d_read_table F_read_table.kp b_read_table (pav_cons (pev_var (pv 2)) (pav_cons (pev_var (pv 1)) pav_nil))) (fun _ h => ps_set sc_read_store_line.nd rfl (Or.inl rfl) h))
  (pssv_one (psv_ret (pev_if (ptv_cmp op_isN rop_is (fun _ _ _ => of_nx) (pep_var (pv 7)) (PEV.p pev_non) (nomark _)) pev_non (pev_op op_addU rop_add (fun _ _ _ => of_nx) (pep_var (pv 1)) (PEV.p (pev_tup (pav_cons (pev_var (pv 7)) pav_nil)))))))))))
end
end K92
end
section
set_option Elab.async false
set_option linter.all false
set_option maxRecDepth 100000
set_option maxHeartbeats 1000000
namespace K92
open PySem PySem.Spec PyProof.Rows L2 DL
section
variable {P : Program} {w : World} {K : PySem.W.Frag} {mg : Str → Option Value} {base : Heap} {ad : Str → Addr}
abbrev N_text_lines : List Str := ["text"]
theorem sc_text_lines : FnScope N_text_lines ["text"] (defScope (top 14)) := ⟨rfl, rfl, rfl, by decide +kernel, rfl, by decide +kernel, by decide +kernel⟩
theorem ok_text_lines (T : Tx K mg ad) {fd : FuncData} (F : FnP K "text_lines" (top 14) (ad "text_lines") fd) : FnG P w K mg base L2.CX0 3 (ad "text_lines") fd ["text"] (sp0 K (cm0 ad) fn_text_lines) := by
  refine fnD0 (ps := ["text"]) (N := N_text_lines) F sc_text_lines (fun cdv A outer s H E hG hr => ?_)
  exact (pssv_one (psv_ret (pev_if (ptv_cmp (op_eqU (hu64 hr)) rop_eq (fun _ _ _ => of_nx) (pep_var (pv 0)) (PEV.p pev_str) (nomark _)) (PEV.v (pef_lst pav_nil)) (PEV.v (pev_bm PySem.F.plainAttrs_str PySem.F.slot_str_split PySem.F.type_str_split rty_str mt_split rmt_split (fun _ _ _ => of_nx) (pep_var (pv 0)) (pqv_cons (PEV.p pev_str) pqv_nil))))))
end
end K92
end
section
set_option Elab.async false
set_option linter.all false
set_option maxRecDepth 100000
set_option maxHeartbeats 1000000
namespace K92
open PySem PySem.Spec PyProof.Rows L2 DL
section
variable {P : Program} {w : World} {K : PySem.W.Frag} {mg : Str → Option Value} {base : Heap} {ad : Str → Addr}
abbrev N_parse_store : List Str := ["text", "lines", "tables", "number"]
theorem sc_parse_store : FnScope N_parse_store ["text"] (defScope (top 20)) := ⟨rfl, rfl, rfl, by decide +kernel, rfl, by decide +kernel, by decide +kernel⟩
theorem ok_parse_store (T : Tx K mg ad) {fd : FuncData} (F : FnP K "parse_store" (top 20) (ad "parse_store") fd) : FnG P w K mg base (L2.CX P w) 7 (ad "parse_store") fd ["text"] (spX K (cm0 ad) fn_parse_store) := by
  obtain ⟨fd_read_store_line, F_read_store_line⟩ := T.f_read_store_line
  have G_read_store_line := ok_read_store_line (P := P) (w := w) (base := base) T F_read_store_line
  have b_read_store_line : Binds K fd_read_store_line ["line", "tables"] [] := F_read_store_line.bindsN fun _ _ _ _ _ _ us hl => match us, hl with | [_, _], _ => rfl
  obtain ⟨fd_text_lines, F_text_lines⟩ := T.f_text_lines
  have G_text_lines := ok_text_lines (P := P) (w := w) (base := base) T F_text_lines
  have b_text_lines : Binds K fd_text_lines ["text"] [] := F_text_lines.bindsN fun _ _ _ _ _ _ us hl => match us, hl with | [_], _ => rfl
  obtain ⟨fd_BadText, F_BadText⟩ := T.fi_BadText
  have G_BadText := ok_init_BadText (P := P) (w := w) (base := base) (mg := mg) T F_BadText
  have b_BadText : Binds K fd_BadText ["self", "line"] [] := F_BadText.bindsN fun _ _ _ _ _ _ us hl => match us, hl with | [_, _], _ => rfl
  refine fnDX (ps := ["text"]) (N := N_parse_store) F sc_parse_store (fun cdv A outer s H E hG hr => ?_)
  have tk := takes_of (X := cxOf (L2.CX P w) P w K mg base N_parse_store "parse_store" (defScope (top 20)) (ad "parse_store") cdv A outer s H E) rfl rfl rfl rfl
  exact (pssv_cons (psv_set (i := 1) (pev_call0 G_text_lines rfl hG (hr.mono (by decide)) rfl T.d_text_lines F_text_lines.kp b_text_lines (pav_cons (pev_var (pv 0)) pav_nil)) (fun _ h => ps_set sc_parse_store.nd rfl (Or.inl rfl) h))
  (pssv_cons (psv_set (i := 2) (pev_tup pav_nil) (fun _ h => ps_set sc_parse_store.nd rfl (Or.inl rfl) h))
  (pssv_cons (psv_for (passes_of rfl) rfl (piv_range1 rfl T.n_range (PEV.p (pev_callB call_len rcl_len (fun _ _ => of_nx) rfl T.n_len (by rfl) (pqv_cons (pep_var (pv 1)) pqv_nil)))) (pgv_name (i := 3) (pg_name sc_parse_store.nd rfl (Or.inl rfl)))
  (pssv_cons (psv_set (i := 2) (pev_call0 G_read_store_line rfl hG (hr.mono (by decide)) rfl T.d_read_store_line F_read_store_line.kp b_read_store_line (pav_cons (pev_ix ix_seq rop_ix (fun _ _ _ => of_nx) (pep_var (pv 1)) (pep_var (pv 3)) (fun _ _ => rfl)) (pav_cons (pev_var (pv 2)) pav_nil))) (fun _ h => ps_set sc_parse_store.nd rfl (Or.inl rfl) h))
  (pssv_one (psv_if (ptv_cmp op_isN rop_is (fun _ _ _ => of_nx) (pep_var (pv 2)) (PEV.p pev_non) (nomark _))
  (pssv_one (psv_raise rfl (T.x_BadText) G_BadText (hr.mono (by decide)) b_BadText tk rfl T.d_BadText rfl (by decide) (pav_cons (pev_op op_addU rop_add (fun _ _ _ => of_nx) (pep_var (pv 3)) (PEV.p pev_int)) pav_nil)))
  (pssv_nil pss_nil)))))
  (pssv_one (psv_ret (pev_var (pv 2)))))))
end
end K92
end
section
set_option Elab.async false
set_option linter.all false
set_option maxRecDepth 100000
set_option maxHeartbeats 1000000
namespace K92
open PySem PySem.Spec PyProof.Rows L2 DL
section
variable {P : Program} {w : World} {K : PySem.W.Frag} {mg : Str → Option Value} {base : Heap} {ad : Str → Addr}
abbrev N__law_asked : List Str := ["text", "told", "e", "alone"]
theorem sc__law_asked : FnScope N__law_asked ["text"] (defScope (top 34)) := ⟨rfl, rfl, rfl, by decide +kernel, rfl, by decide +kernel, by decide +kernel⟩
theorem ok__law_asked (T : Tx K mg ad) {fd : FuncData} (F : FnP K "_law_asked" (top 34) (ad "_law_asked") fd) : FnG P w K mg base L2.CX0 8 (ad "_law_asked") fd ["text"] (sp0 K (cm0 ad) fn__law_asked) := by
  obtain ⟨fd_parse_store, F_parse_store⟩ := T.f_parse_store
  have G_parse_store := ok_parse_store (P := P) (w := w) (base := base) T F_parse_store
  have b_parse_store : Binds K fd_parse_store ["text"] [] := F_parse_store.bindsN fun _ _ _ _ _ _ us hl => match us, hl with | [_], _ => rfl
  refine fnD0 (ps := ["text"]) (N := N__law_asked) F sc__law_asked (fun cdv A outer s H E hG hr => ?_)
  exact (pssv_cons (psv_try_as (i := 2) (sub := sub_BadText) rfl rfl sc__law_asked.nd rfl rfl ⟨rfl, by decide, Or.inl T.d_BadText⟩ takes0 T.sub_BadText
  (fun W' pn xe tk _ => (pssv_one (psv_set (i := 1) (pev_callX G_parse_store rfl tk hG (hr.mono (by decide)) rfl T.d_parse_store F_parse_store.kp b_parse_store (pav_cons (pev_var (pv 0)) pav_nil)) (fun _ h => ps_set sc__law_asked.nd rfl (Or.inl rfl) h))))
  (fun a oe e cls d pn hz hf => by
    by_cases he : e.cls = "BadText"
    · rw [if_pos he]
      exact (pssv_cons (psv_set (i := 3) (pev_not (PEV.p (pev_isX2 hz hf T.ex_BadTable_BadRow_BadLine_BadWay (fun k b hk => cls_tup (ta := (tCons (tC (.ref (ad "BadTable"))) (tCons (tC (.ref (ad "BadRow"))) (tCons (tC (.ref (ad "BadLine"))) (tCons (tC (.ref (ad "BadWay"))) tNil))))) (by show 4 ≤ sizeLine; decide) (fun σ H R q => q) (.cons (.own (ad "BadTable")) (.cons (.own (ad "BadRow")) (.cons (.own (ad "BadLine")) (.cons (.own (ad "BadWay")) .nil)))) (T.is_BadTable_BadRow_BadLine_BadWay k b hk)) (pv 2) (pe_tup (pa_cons (pe_glob rfl T.d_BadTable (rfl : RelV (.ref _) _)) (pa_cons (pe_glob rfl T.d_BadRow (rfl : RelV (.ref _) _)) (pa_cons (pe_glob rfl T.d_BadLine (rfl : RelV (.ref _) _)) (pa_cons (pe_glob rfl T.d_BadWay (rfl : RelV (.ref _) _)) pa_nil))))) rfl T.n_isinstance))) (fun _ h => ps_set sc__law_asked.nd rfl (Or.inl rfl) h))
  (pssv_one (psv_ret (PEV.v (pef_lst (pav_cons pev_str (pav_cons (pev_xf T.e_BadText.xf (congrArg ad he) (T.x_BadText.nof _ (by decide)) hz hf (pv 2)) (pav_cons (pev_and (pep_var (pv 3)) (pev_and (PEV.p (pev_isX2 hz hf T.ex_SquareError (fun k b hk => cls_one (.own (ad "SquareError")) (T.is_SquareError k b hk)) (pv 2) (pe_glob rfl T.d_SquareError (rfl : RelV (.ref _) _)) rfl T.n_isinstance)) (pev_one (pev_isX2 hz hf T.ex_ValueError (fun k b hk => cls_one (.ty "ValueError") (T.is_ValueError k b hk)) (pv 2) (pe_bltn rfl T.n_ValueError (by rfl) (by rfl)) rfl T.n_isinstance)))) pav_nil))))))))
    · rw [if_neg he]
      exact pssv_bad))
  (pssv_one (psv_ret (PEV.v (pef_lst (pav_cons pev_str (pav_cons (pev_var (pv 1)) pav_nil)))))))
end
end K92
end
section
set_option Elab.async false
set_option linter.all false
set_option maxRecDepth 100000
set_option maxHeartbeats 1000000
namespace K92
open PySem PySem.Spec PyProof.Rows L2 DL
section
variable {P : Program} {w : World} {K : PySem.W.Frag} {mg : Str → Option Value} {base : Heap} {ad : Str → Addr}
abbrev N__law_cell : List Str := ["script", "k", "seed", "cell"]
theorem sc__law_cell : FnScope N__law_cell ["script", "k"] (defScope (top 22)) := ⟨rfl, rfl, rfl, by decide +kernel, rfl, by decide +kernel, by decide +kernel⟩
theorem ok__law_cell (T : Tx K mg ad) {fd : FuncData} (F : FnP K "_law_cell" (top 22) (ad "_law_cell") fd) : FnG P w K mg base L2.CX0 3 (ad "_law_cell") fd ["script", "k"] (sp0 K (cm0 ad) fn__law_cell) := by
  refine fnD0 (ps := ["script", "k"]) (N := N__law_cell) F sc__law_cell (fun cdv A outer s H E hG hr => ?_)
  exact (pssv_cons (psv_if (ptv_cmp (op_ltU (hu0 hr)) rop_lt (fun _ _ _ => of_nx) (pep_var (pv 1)) (PEV.p (pev_callB call_len rcl_len (fun _ _ => of_nx) rfl T.n_len (by rfl) (pqv_cons (pep_var (pv 0)) pqv_nil))) (nomark _))
  (pssv_one (psv_ret (pev_ix ix_seq rop_ix (fun _ _ _ => of_nx) (pep_var (pv 0)) (pep_var (pv 1)) (fun _ _ => rfl))))
  (pssv_nil pss_nil))
  (pssv_cons (psv_set (i := 2) pev_int (fun _ h => ps_set sc__law_cell.nd rfl (Or.inl rfl) h))
  (pssv_cons (psv_for PassesOwn.never rfl (piv_any (pev_var (pv 0))) (pgv_name (i := 3) (pg_name sc__law_cell.nd rfl (Or.inl rfl)))
  (pssv_one (psv_set (i := 2) (pev_op op_mod rop_mod (fun _ _ _ => of_nx) (PEV.p (pev_callTy call_intU rcl_int (fun _ _ => of_nx) rfl T.n_int (by rfl) (pqv_cons (PEV.p (pev_op op_addU rop_add (fun _ _ _ => of_nx) (PEV.p (pev_op op_mulW rop_mul (fun _ _ _ => of_nx) (pep_var (pv 2)) (PEV.p pev_int))) (PEV.p (pev_op op_mod rop_mod (fun _ _ _ => of_nx) (PEV.p (pev_callTy call_intU rcl_int (fun _ _ => of_nx) rfl T.n_int (by rfl) (pqv_cons (pep_var (pv 3)) pqv_nil))) (PEV.p pev_int))))) pqv_nil))) (PEV.p pev_int)) (fun _ h => ps_set sc__law_cell.nd rfl (Or.inl rfl) h))))
  (pssv_one (psv_ret (pev_op op_mod rop_mod (fun _ _ _ => of_nx) (PEV.p (pev_callTy call_intU rcl_int (fun _ _ => of_nx) rfl T.n_int (by rfl) (pqv_cons (PEV.p (pev_op op_mulW rop_mul (fun _ _ _ => of_nx) (PEV.p (pev_op op_mulW rop_mul (fun _ _ _ => of_nx) (PEV.p (pev_op op_addU rop_add (fun _ _ _ => of_nx) (pep_var (pv 2)) (PEV.p pev_int))) (PEV.p (pev_op op_addU rop_add (fun _ _ _ => of_nx) (pep_var (pv 1)) (PEV.p pev_int))))) (PEV.p pev_int))) pqv_nil))) (PEV.p pev_int)))))))
end
end K92
end
section
set_option Elab.async false
set_option linter.all false
set_option maxRecDepth 100000
set_option maxHeartbeats 1000000
namespace K92
open PySem PySem.Spec PyProof.Rows L2 DL
section
variable {P : Program} {w : World} {K : PySem.W.Frag} {mg : Str → Option Value} {base : Heap} {ad : Str → Addr}
abbrev N__law_digits : List Str := ["cell", "sizes", "row", "rest", "size", "seed", "k", "twice"]
theorem sc__law_digits : FnScope N__law_digits ["cell", "sizes"] (defScope (top 23)) := ⟨rfl, rfl, rfl, by decide +kernel, rfl, by decide +kernel, by decide +kernel⟩
theorem ok__law_digits (T : Tx K mg ad) {fd : FuncData} (F : FnP K "_law_digits" (top 23) (ad "_law_digits") fd) : FnG P w K mg base L2.CX0 3 (ad "_law_digits") fd ["cell", "sizes"] (sp0 K (cm0 ad) fn__law_digits) := by
  refine fnD0 (ps := ["cell", "sizes"]) (N := N__law_digits) F sc__law_digits (fun cdv A outer s H E hG hr => ?_)
  exact (pssv_cons (psv_setO (i := 2) (pef_lst pav_nil) (fun _ h => ps_set sc__law_digits.nd rfl (Or.inl rfl) h))
  (pssv_cons (psv_set (i := 3) (pev_callTy call_intU rcl_int (fun _ _ => of_nx) rfl T.n_int (by rfl) (pqv_cons (pep_var (pv 0)) pqv_nil)) (fun _ h => ps_set sc__law_digits.nd rfl (Or.inl rfl) h))
  (pssv_cons (psv_if (ptv_cmp op_geU rop_ge (fun _ _ _ => of_nx) (pep_var (pv 3)) (PEV.p (pev_op op_pow rop_pow (fun _ _ _ => of_nx) (PEV.p pev_int) (PEV.p pev_int))) (nomark _))
  (pssv_cons (psv_set (i := 3) (pev_op op_sub rop_sub (fun _ _ _ => of_nx) (pep_var (pv 3)) (PEV.p (pev_op op_pow rop_pow (fun _ _ _ => of_nx) (PEV.p pev_int) (PEV.p pev_int)))) (fun _ h => ps_set sc__law_digits.nd rfl (Or.inl rfl) h))
  (pssv_cons (psv_for PassesOwn.never rfl (piv_any (pev_var (pv 1))) (pgv_name (i := 4) (pg_name sc__law_digits.nd rfl (Or.inl rfl)))
  (pssv_cons (psv_app (pv 2) (pev_op op_mod rop_mod (fun _ _ _ => of_nx) (PEV.p (pev_callTy call_intU rcl_int (fun _ _ => of_nx) rfl T.n_int (by rfl) (pqv_cons (pep_var (pv 3)) pqv_nil))) (pep_var (pv 4))))
  (pssv_one (psv_set (i := 3) (pev_op op_fdivW rop_div (fun _ _ _ => of_nx) (PEV.p (pev_callTy call_intU rcl_int (fun _ _ => of_nx) rfl T.n_int (by rfl) (pqv_cons (pep_var (pv 3)) pqv_nil))) (pep_var (pv 4))) (fun _ h => ps_set sc__law_digits.nd rfl (Or.inl rfl) h)))))
  (pssv_one (psv_ret (pev_var (pv 2))))))
  (pssv_nil pss_nil))
  (pssv_cons (psv_set (i := 5) (pev_op op_mod rop_mod (fun _ _ _ => of_nx) (PEV.p (pev_callTy call_intU rcl_int (fun _ _ => of_nx) rfl T.n_int (by rfl) (pqv_cons (pep_var (pv 3)) pqv_nil))) (PEV.p pev_int)) (fun _ h => ps_set sc__law_digits.nd rfl (Or.inl rfl) h))
  (pssv_cons (psv_for PassesOwn.never rfl (piv_range1 rfl T.n_range (PEV.p (pev_callB call_len rcl_len (fun _ _ => of_nx) rfl T.n_len (by rfl) (pqv_cons (pep_var (pv 1)) pqv_nil)))) (pgv_name (i := 6) (pg_name sc__law_digits.nd rfl (Or.inl rfl)))
  (pssv_cons (psv_set (i := 5) (pev_op op_mod rop_mod (fun _ _ _ => of_nx) (PEV.p (pev_callTy call_intU rcl_int (fun _ _ => of_nx) rfl T.n_int (by rfl) (pqv_cons (PEV.p (pev_op op_addU rop_add (fun _ _ _ => of_nx) (PEV.p (pev_op op_addU rop_add (fun _ _ _ => of_nx) (PEV.p (pev_op op_mulW rop_mul (fun _ _ _ => of_nx) (pep_var (pv 5)) (PEV.p pev_int))) (PEV.p (pev_op op_mulW rop_mul (fun _ _ _ => of_nx) (PEV.p pev_int) (pep_var (pv 6)))))) (PEV.p pev_int))) pqv_nil))) (PEV.p pev_int)) (fun _ h => ps_set sc__law_digits.nd rfl (Or.inl rfl) h))
  (pssv_cons (psv_set (i := 7) (pev_op op_mod rop_mod (fun _ _ _ => of_nx) (PEV.p (pev_callTy call_intU rcl_int (fun _ _ => of_nx) rfl T.n_int (by rfl) (pqv_cons (PEV.p (pev_op op_mulW rop_mul (fun _ _ _ => of_nx) (pep_var (pv 5)) (PEV.p (pev_op op_addU rop_add (fun _ _ _ => of_nx) (PEV.p (pev_op op_fdivW rop_div (fun _ _ _ => of_nx) (pep_var (pv 5)) (PEV.p pev_int))) (PEV.p pev_int))))) pqv_nil))) (PEV.p pev_int)) (fun _ h => ps_set sc__law_digits.nd rfl (Or.inl rfl) h))
  (pssv_one (psv_app (pv 2) (pev_op op_mod rop_mod (fun _ _ _ => of_nx) (PEV.p (pev_op op_fdivW rop_div (fun _ _ _ => of_nx) (pep_var (pv 7)) (PEV.p pev_int))) (PEV.p (pev_ix ix_seq rop_ix (fun _ _ _ => of_nx) (pep_var (pv 1)) (pep_var (pv 6)) (fun _ _ => rfl)))))))))
  (pssv_one (psv_ret (pev_var (pv 2)))))))))
end
end K92
end
section
set_option Elab.async false
set_option linter.all false
set_option maxRecDepth 100000
set_option maxHeartbeats 1000000
namespace K92
open PySem PySem.Spec PyProof.Rows L2 DL
section
variable {P : Program} {w : World} {K : PySem.W.Frag} {mg : Str → Option Value} {base : Heap} {ad : Str → Addr}
abbrev N__law_is_text : List Str := ["told", "due"]
theorem sc__law_is_text : FnScope N__law_is_text ["told", "due"] (defScope (top 36)) := ⟨rfl, rfl, rfl, by decide +kernel, rfl, by decide +kernel, by decide +kernel⟩
theorem ok__law_is_text (T : Tx K mg ad) {fd : FuncData} (F : FnP K "_law_is_text" (top 36) (ad "_law_is_text") fd) : FnG P w K mg base L2.CX0 3 (ad "_law_is_text") fd ["told", "due"] (sp0 K (cm0 ad) fn__law_is_text) := by
  refine fnD0 (ps := ["told", "due"]) (N := N__law_is_text) F sc__law_is_text (fun cdv A outer s H E hG hr => ?_)
  exact (pssv_one (psv_ret (pev_and (PEV.p (pev_isT (pep_var (pv 0)) (pe_bltn rfl T.n_str (by rfl) (by rfl)) rfl T.n_isinstance)) (pev_one (pev_cmp (op_eqU (hu64 hr)) rop_eq (fun _ _ _ => of_nx) (pep_var (pv 0)) (pep_var (pv 1)) (nomark _))))))
end
end K92
end
section
set_option Elab.async false
set_option linter.all false
set_option maxRecDepth 100000
set_option maxHeartbeats 1000000
namespace K92
open PySem PySem.Spec PyProof.Rows L2 DL
section
variable {P : Program} {w : World} {K : PySem.W.Frag} {mg : Str → Option Value} {base : Heap} {ad : Str → Addr}
abbrev N__law_more : List Str := ["store", "row", "great", "place", "name", "width", "rows", "tables", "k", "table", "j"]
theorem sc__law_more : FnScope N__law_more ["store", "row", "great"] (defScope (top 26)) := ⟨rfl, rfl, rfl, by decide +kernel, rfl, by decide +kernel, by decide +kernel⟩
theorem ok__law_more (T : Tx K mg ad) {fd : FuncData} (F : FnP K "_law_more" (top 26) (ad "_law_more") fd) : FnG P w K mg base L2.CX0 3 (ad "_law_more") fd ["store", "row", "great"] (sp0 K (cm0 ad) fn__law_more) := by
  refine fnD0 (ps := ["store", "row", "great"]) (N := N__law_more) F sc__law_more (fun cdv A outer s H E hG hr => ?_)
  exact (pssv_cons (psv_set (i := 3) (pev_op op_mod rop_mod (fun _ _ _ => of_nx) (PEV.p (pev_callTy call_intU rcl_int (fun _ _ => of_nx) rfl T.n_int (by rfl) (pqv_cons (PEV.p (pev_ix ix_seq rop_ix (fun _ _ _ => of_nx) (pep_var (pv 1)) (PEV.p pev_int) (fun _ _ => rfl))) pqv_nil))) (PEV.p (pev_callB call_len rcl_len (fun _ _ => of_nx) rfl T.n_len (by rfl) (pqv_cons (pep_var (pv 0)) pqv_nil)))) (fun _ h => ps_set sc__law_more.nd rfl (Or.inl rfl) h))
  (pssv_cons (psv_set (i := 4) (pev_ix ix_seq rop_ix (fun _ _ _ => of_nx) (PEV.p (pev_ix ix_seq rop_ix (fun _ _ _ => of_nx) (pep_var (pv 0)) (pep_var (pv 3)) (fun _ _ => rfl))) (PEV.p pev_int) (fun _ _ => rfl)) (fun _ h => ps_set sc__law_more.nd rfl (Or.inr rfl) h))
  (pssv_cons (psv_set (i := 5) (pev_ix ix_seq rop_ix (fun _ _ _ => of_nx) (PEV.p (pev_ix ix_seq rop_ix (fun _ _ _ => of_nx) (pep_var (pv 0)) (pep_var (pv 3)) (fun _ _ => rfl))) (PEV.p pev_int) (fun _ _ => rfl)) (fun _ h => ps_set sc__law_more.nd rfl (Or.inl rfl) h))
  (pssv_cons (psv_setO (i := 6) (pev_callTy call_list_of rcl_list (fun _ _ => of_nx) rfl T.n_list (by rfl) (pqv_cons (PEV.p (pev_ix ix_seq rop_ix (fun _ _ _ => of_nx) (PEV.p (pev_ix ix_seq rop_ix (fun _ _ _ => of_nx) (pep_var (pv 0)) (pep_var (pv 3)) (fun _ _ => rfl))) (PEV.p pev_int) (fun _ _ => rfl))) pqv_nil)) (fun _ h => ps_set sc__law_more.nd rfl (Or.inl rfl) h))
  (pssv_cons (psv_setLcOV (i := 7) rfl sc__law_more.nd rfl rfl (sw_true rfl rfl rfl (by decide +kernel)) (piv_any (pep_var (pv 0))) (blkOk_by (own := [("table", 9)]) (N := N__law_more) (sc := defScope (top 26)) (by decide +kernel)) rfl (by decide) (fun _ _ _ _ _ => (pgv_name (i := 9) (pg_name sc__law_more.nd rfl (Or.inl rfl)))) (fun _ _ _ _ _ => (ptsv_one (ptv_cmp (op_neU (hu64 hr)) rop_ne (fun _ _ _ => of_nx) (PEV.p (pev_ix ix_seq rop_ix (fun _ _ _ => of_nx) (pep_var (pv 9)) (PEV.p pev_int) (fun _ _ => rfl))) (pep_var (pv 4)) (nomark _)))) (fun _ _ _ _ _ => (pev_var (pv 9))))
  (pssv_cons (psv_if (ptv_cmp (op_inU (hu65 hr)) rop_in (fun _ _ _ => of_nx) (PEV.p (pev_ix ix_seq rop_ix (fun _ _ _ => of_nx) (pep_var (pv 1)) (PEV.p pev_int) (fun _ _ => rfl))) (PEV.fp (pef_lst (pav_cons pev_int (pav_cons pev_int (pav_cons pev_int pav_nil))))) rfl)
  (pssv_one (psv_for PassesOwn.never rfl (piv_range1 rfl T.n_range (pev_if (PWV.t (pwv_and (ptv_cmp (op_eqU (hu64 hr)) rop_eq (fun _ _ _ => of_nx) (pep_var (pv 5)) (PEV.p pev_int) (nomark _)) (pwv_and1 (ptv_cmp (op_ltU (hu0 hr)) rop_lt (fun _ _ _ => of_nx) (PEV.p (pev_ix ix_seq rop_ix (fun _ _ _ => of_nx) (pep_var (pv 1)) (PEV.p pev_int) (fun _ _ => rfl))) (PEV.p pev_int) (nomark _))))) (PEV.p (pev_op op_addU rop_add (fun _ _ _ => of_nx) (PEV.p pev_int) (PEV.p (pev_op op_mulW rop_mul (fun _ _ _ => of_nx) (PEV.p pev_int) (PEV.p (pev_ix ix_seq rop_ix (fun _ _ _ => of_nx) (pep_var (pv 1)) (PEV.p pev_int) (fun _ _ => rfl))))))) (PEV.p (pev_op op_addU rop_add (fun _ _ _ => of_nx) (PEV.p pev_int) (PEV.p (pev_ix ix_seq rop_ix (fun _ _ _ => of_nx) (pep_var (pv 1)) (PEV.p pev_int) (fun _ _ => rfl))))))) (pgv_name (i := 8) (pg_name sc__law_more.nd rfl (Or.inr rfl)))
  (pssv_one (psv_app (pv 6) (pev_callTy call_tuple_of rcl_tup (fun _ _ => of_nx) rfl T.n_tuple (by rfl) (pqv_cons (PEV.fp (pef_compV rfl sc__law_more.nd (piv_range1 rfl T.n_range (pep_var (pv 5))) (blkOk_by (own := [("j", 10)]) (N := N__law_more) (sc := defScope (top 26)) (by decide +kernel)) rfl (by decide) (fun _ _ _ _ _ => (pgv_name (i := 10) (pg_name sc__law_more.nd rfl (Or.inl rfl)))) (fun _ _ _ _ _ => ptsv_nil) (fun _ _ _ _ _ => (pev_op op_addU rop_add (fun _ _ _ => of_nx) (PEV.p (pev_op op_addU rop_add (fun _ _ _ => of_nx) (PEV.p (pev_ix ix_seq rop_ix (fun _ _ _ => of_nx) (pep_var (pv 1)) (PEV.p pev_int) (fun _ _ => rfl))) (PEV.p (pev_op op_mulW rop_mul (fun _ _ _ => of_nx) (pep_var (pv 8)) (PEV.p (pev_op op_addU rop_add (fun _ _ _ => of_nx) (PEV.p pev_int) (PEV.p (pev_ix ix_seq rop_ix (fun _ _ _ => of_nx) (pep_var (pv 1)) (PEV.p pev_int) (fun _ _ => rfl))))))))) (PEV.p (pev_op op_mulW rop_mul (fun _ _ _ => of_nx) (PEV.p (pev_op op_mulW rop_mul (fun _ _ _ => of_nx) (PEV.p pev_int) (pep_var (pv 10)))) (PEV.p (pev_op op_mod rop_mod (fun _ _ _ => of_nx) (pep_var (pv 8)) (PEV.p pev_int))))))))) pqv_nil))))))
  (pssv_nil pss_nil))
  (pssv_cons (psv_if (ptv_cmp (op_inU (hu65 hr)) rop_in (fun _ _ _ => of_nx) (PEV.p (pev_ix ix_seq rop_ix (fun _ _ _ => of_nx) (pep_var (pv 1)) (PEV.p pev_int) (fun _ _ => rfl))) (PEV.fp (pef_lst (pav_cons pev_int (pav_cons pev_int pav_nil)))) rfl)
  (pssv_cons (psv_app (pv 6) (pev_callTy call_tuple_of rcl_tup (fun _ _ => of_nx) rfl T.n_tuple (by rfl) (pqv_cons (PEV.fp (pef_compV rfl sc__law_more.nd (piv_range1 rfl T.n_range (pep_var (pv 5))) (blkOk_by (own := [("j", 10)]) (N := N__law_more) (sc := defScope (top 26)) (by decide +kernel)) rfl (by decide) (fun _ _ _ _ _ => (pgv_name (i := 10) (pg_name sc__law_more.nd rfl (Or.inl rfl)))) (fun _ _ _ _ _ => ptsv_nil) (fun _ _ _ _ _ => (pev_op op_addU rop_add (fun _ _ _ => of_nx) (pep_var (pv 2)) (pep_var (pv 10)))))) pqv_nil)))
  (pssv_cons (psv_app (pv 6) (pev_callTy call_tuple_of rcl_tup (fun _ _ => of_nx) rfl T.n_tuple (by rfl) (pqv_cons (PEV.fp (pef_rep (pef_lst (pav_cons (pev_var (pv 2)) pav_nil)) (pep_var (pv 5)))) pqv_nil)))
  (pssv_one (psv_app (pv 6) (pev_callTy call_tuple_of rcl_tup (fun _ _ => of_nx) rfl T.n_tuple (by rfl) (pqv_cons (PEV.p (pev_op op_addU rop_add (fun _ _ _ => of_nx) (PEV.fp (pef_lst (pav_cons (pev_var (pv 2)) pav_nil))) (PEV.fp (pef_rep (pef_lst (pav_cons pev_int pav_nil)) (PEV.p (pev_op op_sub rop_sub (fun _ _ _ => of_nx) (pep_var (pv 5)) (PEV.p pev_int))))))) pqv_nil))))))
  (pssv_nil pss_nil))
  (pssv_cons (psv_app (pv 7) (pev_tup (pav_cons (pev_var (pv 4)) (pav_cons (pev_var (pv 5)) (pav_cons (pev_callTy call_tuple_of rcl_tup (fun _ _ => of_nx) rfl T.n_tuple (by rfl) (pqv_cons (PEV.fp (pef_sortSet rfl (hu200 hr) rfl T.n_sorted rfl T.n_set (pep_var (pv 6)))) pqv_nil)) pav_nil)))))
  (pssv_cons (psv_if (ptv_cmp (op_eqU (hu64 hr)) rop_eq (fun _ _ _ => of_nx) (PEV.p (pev_ix ix_seq rop_ix (fun _ _ _ => of_nx) (pep_var (pv 1)) (PEV.p pev_int) (fun _ _ => rfl))) (PEV.p pev_int) (nomark _))
  (pssv_one (psv_for PassesOwn.never rfl (piv_range1 rfl T.n_range (PEV.p (pev_op op_addU rop_add (fun _ _ _ => of_nx) (PEV.p pev_int) (PEV.p (pev_ix ix_seq rop_ix (fun _ _ _ => of_nx) (pep_var (pv 1)) (PEV.p pev_int) (fun _ _ => rfl)))))) (pgv_name (i := 8) (pg_name sc__law_more.nd rfl (Or.inr rfl)))
  (pssv_one (psv_if (ptv_cmp (op_notInU (hu65 hr)) rop_notIn (fun _ _ _ => of_nx) (PEV.p (pev_op op_addU rop_add (fun _ _ _ => of_nx) (PEV.p pev_str) (PEV.p (pev_callTy call_strU rcl_str (fun _ _ => of_nx) rfl T.n_str (by rfl) (pqv_cons (pep_var (pv 8)) pqv_nil))))) (PEV.fp (pef_compV rfl sc__law_more.nd (piv_any (pep_var (pv 0))) (blkOk_by (own := [("table", 9)]) (N := N__law_more) (sc := defScope (top 26)) (by decide +kernel)) rfl (by decide) (fun _ _ _ _ _ => (pgv_name (i := 9) (pg_name sc__law_more.nd rfl (Or.inl rfl)))) (fun _ _ _ _ _ => ptsv_nil) (fun _ _ _ _ _ => (pev_ix ix_seq rop_ix (fun _ _ _ => of_nx) (pep_var (pv 9)) (PEV.p pev_int) (fun _ _ => rfl))))) rfl)
  (pssv_one (psv_app (pv 7) (pev_tup (pav_cons (pev_op op_addU rop_add (fun _ _ _ => of_nx) (PEV.p pev_str) (PEV.p (pev_callTy call_strU rcl_str (fun _ _ => of_nx) rfl T.n_str (by rfl) (pqv_cons (pep_var (pv 8)) pqv_nil)))) (pav_cons (pev_op op_addU rop_add (fun _ _ _ => of_nx) (PEV.p pev_int) (PEV.p (pev_op op_mod rop_mod (fun _ _ _ => of_nx) (pep_var (pv 8)) (PEV.p pev_int)))) (pav_cons (pev_tup (pav_cons (pev_callTy call_tuple_of rcl_tup (fun _ _ => of_nx) rfl T.n_tuple (by rfl) (pqv_cons (PEV.fp (pef_compV rfl sc__law_more.nd (piv_range1 rfl T.n_range (PEV.p (pev_op op_addU rop_add (fun _ _ _ => of_nx) (PEV.p pev_int) (PEV.p (pev_op op_mod rop_mod (fun _ _ _ => of_nx) (pep_var (pv 8)) (PEV.p pev_int)))))) (blkOk_by (own := [("j", 10)]) (N := N__law_more) (sc := defScope (top 26)) (by decide +kernel)) rfl (by decide) (fun _ _ _ _ _ => (pgv_name (i := 10) (pg_name sc__law_more.nd rfl (Or.inl rfl)))) (fun _ _ _ _ _ => ptsv_nil) (fun _ _ _ _ _ => (pev_op op_addU rop_add (fun _ _ _ => of_nx) (pep_var (pv 8)) (pep_var (pv 10)))))) pqv_nil)) pav_nil)) pav_nil))))))
  (pssv_nil pss_nil)))))
  (pssv_nil pss_nil))
  (pssv_one (psv_ret (pev_callTy call_tuple_of rcl_tup (fun _ _ => of_nx) rfl T.n_tuple (by rfl) (pqv_cons (PEV.fp (pef_sorted rfl (hu200 hr) rfl T.n_sorted (pep_var (pv 7)))) pqv_nil)))))))))))))
end
end K92
end
section
set_option Elab.async false
set_option linter.all false
set_option maxRecDepth 100000
set_option maxHeartbeats 1000000
namespace K92
open PySem PySem.Spec PyProof.Rows L2 DL
section
variable {P : Program} {w : World} {K : PySem.W.Frag} {mg : Str → Option Value} {base : Heap} {ad : Str → Addr}
abbrev N__law_is_name : List Str := ["word", "longest", "letters", "sign"]
theorem sc__law_is_name : FnScope N__law_is_name ["word", "longest"] (defScope (top 29)) := ⟨rfl, rfl, rfl, by decide +kernel, rfl, by decide +kernel, by decide +kernel⟩
theorem ok__law_is_name (T : Tx K mg ad) {fd : FuncData} (F : FnP K "_law_is_name" (top 29) (ad "_law_is_name") fd) : FnG P w K mg base L2.CX0 3 (ad "_law_is_name") fd ["word", "longest"] (sp0 K (cm0 ad) fn__law_is_name) := by
  refine fnD0 (ps := ["word", "longest"]) (N := N__law_is_name) F sc__law_is_name (fun cdv A outer s H E hG hr => ?_)
  exact (pssv_cons (psv_set (i := 2) pev_str (fun _ h => ps_set sc__law_is_name.nd rfl (Or.inl rfl) h))
  (pssv_cons (psv_if (PWV.t (pwv_or (ptv_cmp (op_eqU (hu64 hr)) rop_eq (fun _ _ _ => of_nx) (pep_var (pv 0)) (PEV.p pev_str) (nomark _)) (pwv_or (ptv_cmp op_gtU rop_gt (fun _ _ _ => of_nx) (PEV.p (pev_callB call_len rcl_len (fun _ _ => of_nx) rfl T.n_len (by rfl) (pqv_cons (pep_var (pv 0)) pqv_nil))) (pep_var (pv 1)) (nomark _)) (pwv_or1 (ptv_cmp (op_notInU (hu65 hr)) rop_notIn (fun _ _ _ => of_nx) (PEV.p (pev_ix ix_seq rop_ix (fun _ _ _ => of_nx) (pep_var (pv 0)) (PEV.p pev_int) (fun _ _ => rfl))) (pep_var (pv 2)) rfl)))))
  (pssv_one (psv_ret pev_bl))
  (pssv_nil pss_nil))
  (pssv_cons (psv_for PassesOwn.never rfl (piv_any (pev_var (pv 0))) (pgv_name (i := 3) (pg_name sc__law_is_name.nd rfl (Or.inl rfl)))
  (pssv_one (psv_if (PWV.t (pwv_and (ptv_cmp (op_notInU (hu65 hr)) rop_notIn (fun _ _ _ => of_nx) (pep_var (pv 3)) (pep_var (pv 2)) rfl) (pwv_and1 (ptv_cmp (op_notInU (hu65 hr)) rop_notIn (fun _ _ _ => of_nx) (pep_var (pv 3)) (PEV.p pev_str) rfl))))
  (pssv_one (psv_ret pev_bl))
  (pssv_nil pss_nil))))
  (pssv_one (psv_ret pev_bl)))))
end
end K92
end
section
set_option Elab.async false
set_option linter.all false
set_option maxRecDepth 100000
set_option maxHeartbeats 1000000
namespace K92
open PySem PySem.Spec PyProof.Rows L2 DL
section
variable {P : Program} {w : World} {K : PySem.W.Frag} {mg : Str → Option Value} {base : Heap} {ad : Str → Addr}
abbrev N__law_read : List Str := ["text", "tables", "name", "width", "rows", "lines", "at", "words", "row", "heading", "word"]
theorem sc__law_read : FnScope N__law_read ["text"] (defScope (top 30)) := ⟨rfl, rfl, rfl, by decide +kernel, rfl, by decide +kernel, by decide +kernel⟩
theorem ok__law_read (T : Tx K mg ad) {fd : FuncData} (F : FnP K "_law_read" (top 30) (ad "_law_read") fd) : FnG P w K mg base L2.CX0 4 (ad "_law_read") fd ["text"] (sp0 K (cm0 ad) fn__law_read) := by
  obtain ⟨fd__law_is_name, F__law_is_name⟩ := T.f__law_is_name
  have G__law_is_name := ok__law_is_name (P := P) (w := w) (base := base) T F__law_is_name
  have b__law_is_name : Binds K fd__law_is_name ["word", "longest"] [] := F__law_is_name.bindsN fun _ _ _ _ _ _ us hl => match us, hl with | [_, _], _ => rfl
  obtain ⟨fd__law_number, F__law_number⟩ := T.f__law_number
  have G__law_number := ok__law_number (P := P) (w := w) (base := base) T F__law_number
  have b__law_number : Binds K fd__law_number ["word"] [] := F__law_number.bindsN fun _ _ _ _ _ _ us hl => match us, hl with | [_], _ => rfl
  refine fnD0 (ps := ["text"]) (N := N__law_read) F sc__law_read (fun cdv A outer s H E hG hr => ?_)
  exact (pssv_cons (psv_setO (i := 1) (pef_lst pav_nil) (fun _ h => ps_set sc__law_read.nd rfl (Or.inl rfl) h))
  (pssv_cons (psv_set (i := 2) pev_str (fun _ h => ps_set sc__law_read.nd rfl (Or.inl rfl) h))
  (pssv_cons (psv_set (i := 3) pev_int (fun _ h => ps_set sc__law_read.nd rfl (Or.inl rfl) h))
  (pssv_cons (psv_setO (i := 4) (pef_lst pav_nil) (fun _ h => ps_set sc__law_read.nd rfl (Or.inl rfl) h))
  (pssv_cons (psv_set (i := 5) (pev_if (ptv_cmp (op_neU (hu64 hr)) rop_ne (fun _ _ _ => of_nx) (pep_var (pv 0)) (PEV.p pev_str) (nomark _)) (PEV.v (pev_bm PySem.F.plainAttrs_str PySem.F.slot_str_split PySem.F.type_str_split rty_str mt_split rmt_split (fun _ _ _ => of_nx) (pep_var (pv 0)) (pqv_cons (PEV.p pev_str) pqv_nil))) (PEV.v (pef_lst pav_nil))) (fun _ h => ps_set sc__law_read.nd rfl (Or.inl rfl) h))
  (pssv_cons (psv_for PassesOwn.never rfl (piv_range1 rfl T.n_range (PEV.p (pev_callB call_len rcl_len (fun _ _ => of_nx) rfl T.n_len (by rfl) (pqv_cons (pep_var (pv 5)) pqv_nil)))) (pgv_name (i := 6) (pg_name sc__law_read.nd rfl (Or.inl rfl)))
  (pssv_cons (psv_set (i := 7) (PEV.v (pev_bm PySem.F.plainAttrs_str PySem.F.slot_str_split PySem.F.type_str_split rty_str mt_split rmt_split (fun _ _ _ => of_nx) (PEV.p (pev_ix ix_seq rop_ix (fun _ _ _ => of_nx) (pep_var (pv 5)) (pep_var (pv 6)) (fun _ _ => rfl))) (pqv_cons (PEV.p pev_str) pqv_nil))) (fun _ h => ps_set sc__law_read.nd rfl (Or.inl rfl) h))
  (pssv_cons (psv_set (i := 8) (pev_callTy call_tuple_of rcl_tup (fun _ _ => of_nx) rfl T.n_tuple (by rfl) (pqv_cons (PEV.fp (pef_compV rfl sc__law_read.nd (piv_any (PEV.p (pev_slice sl_U rsl_slice (fun _ _ _ _ => of_nx) (pep_var (pv 7)) (pov_some (PEV.p pev_int)) pov_none))) (blkOk_by (own := [("word", 10)]) (N := N__law_read) (sc := defScope (top 30)) (by decide +kernel)) rfl (by decide) (fun _ _ _ _ _ => (pgv_name (i := 10) (pg_name sc__law_read.nd rfl (Or.inl rfl)))) (fun _ _ _ _ _ => ptsv_nil) (fun _ _ _ _ _ => (pev_call0 G__law_number rfl hG (hr.mono (by decide)) rfl T.d__law_number F__law_number.kp b__law_number (pav_cons (pev_var (pv 10)) pav_nil))))) pqv_nil)) (fun _ h => ps_set sc__law_read.nd rfl (Or.inl rfl) h))
  (pssv_cons (psv_set (i := 9) (pev_and (PEV.p (pev_cmp (op_eqU (hu64 hr)) rop_eq (fun _ _ _ => of_nx) (PEV.p (pev_ix ix_seq rop_ix (fun _ _ _ => of_nx) (pep_var (pv 7)) (PEV.p pev_int) (fun _ _ => rfl))) (PEV.p pev_str) (nomark _))) (pev_and (PEV.p (pev_cmp (op_eqU (hu64 hr)) rop_eq (fun _ _ _ => of_nx) (PEV.p (pev_callB call_len rcl_len (fun _ _ => of_nx) rfl T.n_len (by rfl) (pqv_cons (pep_var (pv 7)) pqv_nil))) (PEV.p pev_int) (nomark _))) (pev_one (pev_cmp (op_inU (hu65 hr)) rop_in (fun _ _ _ => of_nx) (PEV.p (pev_ix ix_seq rop_ix (fun _ _ _ => of_nx) (pep_var (pv 7)) (PEV.p pev_int) (fun _ _ => rfl))) (PEV.fp (pef_lst (pav_cons pev_str (pav_cons pev_str (pav_cons pev_str (pav_cons pev_str pav_nil)))))) rfl)))) (fun _ h => ps_set sc__law_read.nd rfl (Or.inl rfl) h))
  (pssv_one (psv_if (PWV.t (pwv_and (ptv_truth (pep_var (pv 9)) (fun _ => rfl)) (pwv_and (ptv_truth (PEV.p (pev_call0 G__law_is_name rfl hG (hr.mono (by decide)) rfl T.d__law_is_name F__law_is_name.kp b__law_is_name (pav_cons (pev_ix ix_seq rop_ix (fun _ _ _ => of_nx) (pep_var (pv 7)) (PEV.p pev_int) (fun _ _ => rfl)) (pav_cons pev_int pav_nil)))) (fun _ => rfl)) (pwv_and1 (ptv_cmp (op_ltU (hu0 hr)) rop_lt (fun _ _ _ => of_nx) (pep_var (pv 2)) (PEV.p (pev_ix ix_seq rop_ix (fun _ _ _ => of_nx) (pep_var (pv 7)) (PEV.p pev_int) (fun _ _ => rfl))) (nomark _))))))
  (pssv_cons (psv_if (ptv_cmp (op_neU (hu64 hr)) rop_ne (fun _ _ _ => of_nx) (pep_var (pv 2)) (PEV.p pev_str) (nomark _))
  (pssv_one (psv_app (pv 1) (pev_tup (pav_cons (pev_var (pv 2)) (pav_cons (pev_var (pv 3)) (pav_cons (pev_callTy call_tuple_of rcl_tup (fun _ _ => of_nx) rfl T.n_tuple (by rfl) (pqv_cons (pep_var (pv 4)) pqv_nil)) pav_nil))))))
  (pssv_nil pss_nil))
  (pssv_cons (psv_set (i := 2) (pev_ix ix_seq rop_ix (fun _ _ _ => of_nx) (pep_var (pv 7)) (PEV.p pev_int) (fun _ _ => rfl)) (fun _ h => ps_set sc__law_read.nd rfl (Or.inl rfl) h))
  (pssv_cons (psv_set (i := 3) (pev_callTy call_intU rcl_int (fun _ _ => of_nx) rfl T.n_int (by rfl) (pqv_cons (PEV.p (pev_ix ix_seq rop_ix (fun _ _ _ => of_nx) (pep_var (pv 7)) (PEV.p pev_int) (fun _ _ => rfl))) pqv_nil)) (fun _ h => ps_set sc__law_read.nd rfl (Or.inl rfl) h))
  (pssv_one (psv_setO (i := 4) (pef_lst pav_nil) (fun _ h => ps_set sc__law_read.nd rfl (Or.inl rfl) h))))))
  (pssv_one (psv_if (PWV.t (pwv_and (ptv_cmp (op_eqU (hu64 hr)) rop_eq (fun _ _ _ => of_nx) (PEV.p (pev_ix ix_seq rop_ix (fun _ _ _ => of_nx) (pep_var (pv 7)) (PEV.p pev_int) (fun _ _ => rfl))) (PEV.p pev_str) (nomark _)) (pwv_and (ptv_cmp (op_neU (hu64 hr)) rop_ne (fun _ _ _ => of_nx) (pep_var (pv 2)) (PEV.p pev_str) (nomark _)) (pwv_and (ptv_cmp (op_eqU (hu64 hr)) rop_eq (fun _ _ _ => of_nx) (PEV.p (pev_callB call_len rcl_len (fun _ _ => of_nx) rfl T.n_len (by rfl) (pqv_cons (pep_var (pv 8)) pqv_nil))) (pep_var (pv 3)) (nomark _)) (pwv_and (ptv_cmp (op_notInU (hu65 hr)) rop_notIn (fun _ _ _ => of_nx) (PEV.p (pev_un un_neg run_neg (fun _ _ => of_nx) (PEV.p pev_int))) (pep_var (pv 8)) rfl) (pwv_and1 (PWV.t (pwv_or (ptv_cmp (op_eqU (hu64 hr)) rop_eq (fun _ _ _ => of_nx) (PEV.p (pev_callB call_len rcl_len (fun _ _ => of_nx) rfl T.n_len (by rfl) (pqv_cons (pep_var (pv 4)) pqv_nil))) (PEV.p pev_int) (nomark _)) (pwv_or1 (ptv_cmp (op_ltU (hu0 hr)) rop_lt (fun _ _ _ => of_nx) (PEV.p (pev_ix ix_seq rop_ix (fun _ _ _ => of_nx) (pep_var (pv 4)) (PEV.p (pev_un un_neg run_neg (fun _ _ => of_nx) (PEV.p pev_int))) (fun _ _ => rfl))) (pep_var (pv 8)) (nomark _)))))))))))
  (pssv_one (psv_app (pv 4) (pev_var (pv 8))))
  (pssv_one (psv_ret (PEV.v (pef_lst (pav_cons pev_str (pav_cons (pev_op op_addU rop_add (fun _ _ _ => of_nx) (pep_var (pv 6)) (PEV.p pev_int)) pav_nil))))))))))))))
  (pssv_cons (psv_if (ptv_cmp (op_neU (hu64 hr)) rop_ne (fun _ _ _ => of_nx) (pep_var (pv 2)) (PEV.p pev_str) (nomark _))
  (pssv_one (psv_app (pv 1) (pev_tup (pav_cons (pev_var (pv 2)) (pav_cons (pev_var (pv 3)) (pav_cons (pev_callTy call_tuple_of rcl_tup (fun _ _ => of_nx) rfl T.n_tuple (by rfl) (pqv_cons (pep_var (pv 4)) pqv_nil)) pav_nil))))))
  (pssv_nil pss_nil))
  (pssv_one (psv_ret (PEV.v (pef_lst (pav_cons pev_str (pav_cons (pev_callTy call_tuple_of rcl_tup (fun _ _ => of_nx) rfl T.n_tuple (by rfl) (pqv_cons (pep_var (pv 1)) pqv_nil)) pav_nil)))))))))))))
end
end K92
end
section
set_option Elab.async false
set_option linter.all false
set_option maxRecDepth 100000
set_option maxHeartbeats 1000000
namespace K92
open PySem PySem.Spec PyProof.Rows L2 DL
section
variable {P : Program} {w : World} {K : PySem.W.Frag} {mg : Str → Option Value} {base : Heap} {ad : Str → Addr}
abbrev N__law_same : List Str := ["told", "due"]
theorem sc__law_same : FnScope N__law_same ["told", "due"] (defScope (top 35)) := ⟨rfl, rfl, rfl, by decide +kernel, rfl, by decide +kernel, by decide +kernel⟩
theorem ok__law_same (T : Tx K mg ad) {fd : FuncData} (F : FnP K "_law_same" (top 35) (ad "_law_same") fd) : FnG P w K mg base L2.CX0 3 (ad "_law_same") fd ["told", "due"] (sp0 K (cm0 ad) fn__law_same) := by
  refine fnD0 (ps := ["told", "due"]) (N := N__law_same) F sc__law_same (fun cdv A outer s H E hG hr => ?_)
  exact (pssv_one (psv_ret (pev_and (PEV.p (pev_isT (pep_var (pv 0)) (pe_bltn rfl T.n_tuple (by rfl) (by rfl)) rfl T.n_isinstance)) (pev_and (PEV.p (pev_cmp (op_eqU (hu64 hr)) rop_eq (fun _ _ _ => of_nx) (PEV.p (pev_callB (call_reprU hG (hu200 hr)) rcl_repr (fun _ _ => of_nx) rfl T.n_repr (by rfl) (pqv_cons (pep_var (pv 0)) pqv_nil))) (PEV.p (pev_callB (call_reprU hG (hu200 hr)) rcl_repr (fun _ _ => of_nx) rfl T.n_repr (by rfl) (pqv_cons (pep_var (pv 1)) pqv_nil))) (nomark _))) (pev_one (pev_cmp (op_eqU (hu64 hr)) rop_eq (fun _ _ _ => of_nx) (pep_var (pv 0)) (pep_var (pv 1)) (nomark _)))))))
end
end K92
end
section
set_option Elab.async false
set_option linter.all false
set_option maxRecDepth 100000
set_option maxHeartbeats 1000000
namespace K92
open PySem PySem.Spec PyProof.Rows L2 DL
section
variable {P : Program} {w : World} {K : PySem.W.Frag} {mg : Str → Option Value} {base : Heap} {ad : Str → Addr}
abbrev N__law_right : List Str := ["text", "due", "told"]
theorem sc__law_right : FnScope N__law_right ["text"] (defScope (top 37)) := ⟨rfl, rfl, rfl, by decide +kernel, rfl, by decide +kernel, by decide +kernel⟩
theorem ok__law_right (T : Tx K mg ad) {fd : FuncData} (F : FnP K "_law_right" (top 37) (ad "_law_right") fd) : FnG P w K mg base L2.CX0 9 (ad "_law_right") fd ["text"] (sp0 K (cm0 ad) fn__law_right) := by
  obtain ⟨fd__law_asked, F__law_asked⟩ := T.f__law_asked
  have G__law_asked := ok__law_asked (P := P) (w := w) (base := base) T F__law_asked
  have b__law_asked : Binds K fd__law_asked ["text"] [] := F__law_asked.bindsN fun _ _ _ _ _ _ us hl => match us, hl with | [_], _ => rfl
  obtain ⟨fd__law_read, F__law_read⟩ := T.f__law_read
  have G__law_read := ok__law_read (P := P) (w := w) (base := base) T F__law_read
  have b__law_read : Binds K fd__law_read ["text"] [] := F__law_read.bindsN fun _ _ _ _ _ _ us hl => match us, hl with | [_], _ => rfl
  obtain ⟨fd__law_same, F__law_same⟩ := T.f__law_same
  have G__law_same := ok__law_same (P := P) (w := w) (base := base) T F__law_same
  have b__law_same : Binds K fd__law_same ["told", "due"] [] := F__law_same.bindsN fun _ _ _ _ _ _ us hl => match us, hl with | [_, _], _ => rfl
  refine fnD0 (ps := ["text"]) (N := N__law_right) F sc__law_right (fun cdv A outer s H E hG hr => ?_)
  exact (pssv_cons (psv_set (i := 1) (pev_call0 G__law_read rfl hG (hr.mono (by decide)) rfl T.d__law_read F__law_read.kp b__law_read (pav_cons (pev_var (pv 0)) pav_nil)) (fun _ h => ps_set sc__law_right.nd rfl (Or.inl rfl) h))
  (pssv_cons (psv_set (i := 2) (pev_call0 G__law_asked rfl hG (hr.mono (by decide)) rfl T.d__law_asked F__law_asked.kp b__law_asked (pav_cons (pev_var (pv 0)) pav_nil)) (fun _ h => ps_set sc__law_right.nd rfl (Or.inl rfl) h))
  (pssv_cons (psv_if (ptv_cmp (op_eqU (hu64 hr)) rop_eq (fun _ _ _ => of_nx) (PEV.p (pev_ix ix_seq rop_ix (fun _ _ _ => of_nx) (pep_var (pv 1)) (PEV.p pev_int) (fun _ _ => rfl))) (PEV.p pev_str) (nomark _))
  (pssv_one (psv_ret (pev_and (PEV.p (pev_cmp (op_eqU (hu64 hr)) rop_eq (fun _ _ _ => of_nx) (PEV.p (pev_ix ix_seq rop_ix (fun _ _ _ => of_nx) (pep_var (pv 2)) (PEV.p pev_int) (fun _ _ => rfl))) (PEV.p pev_str) (nomark _))) (pev_and (PEV.p (pev_isT (PEV.p (pev_ix ix_seq rop_ix (fun _ _ _ => of_nx) (pep_var (pv 2)) (PEV.p pev_int) (fun _ _ => rfl))) (pe_bltn rfl T.n_int (by rfl) (by rfl)) rfl T.n_isinstance)) (pev_and (PEV.p (pev_cmp (op_eqU (hu64 hr)) rop_eq (fun _ _ _ => of_nx) (PEV.p (pev_callB (call_reprU hG (hu200 hr)) rcl_repr (fun _ _ => of_nx) rfl T.n_repr (by rfl) (pqv_cons (PEV.p (pev_ix ix_seq rop_ix (fun _ _ _ => of_nx) (pep_var (pv 2)) (PEV.p pev_int) (fun _ _ => rfl))) pqv_nil))) (PEV.p (pev_callB (call_reprU hG (hu200 hr)) rcl_repr (fun _ _ => of_nx) rfl T.n_repr (by rfl) (pqv_cons (PEV.p (pev_ix ix_seq rop_ix (fun _ _ _ => of_nx) (pep_var (pv 1)) (PEV.p pev_int) (fun _ _ => rfl))) pqv_nil))) (nomark _))) (pev_one (pev_ix ix_seq rop_ix (fun _ _ _ => of_nx) (pep_var (pv 2)) (PEV.p pev_int) (fun _ _ => rfl))))))))
  (pssv_nil pss_nil))
  (pssv_one (psv_ret (pev_and (PEV.p (pev_cmp (op_eqU (hu64 hr)) rop_eq (fun _ _ _ => of_nx) (PEV.p (pev_ix ix_seq rop_ix (fun _ _ _ => of_nx) (pep_var (pv 2)) (PEV.p pev_int) (fun _ _ => rfl))) (PEV.p pev_str) (nomark _))) (pev_one (pev_call0 G__law_same rfl hG (hr.mono (by decide)) rfl T.d__law_same F__law_same.kp b__law_same (pav_cons (pev_ix ix_seq rop_ix (fun _ _ _ => of_nx) (pep_var (pv 2)) (PEV.p pev_int) (fun _ _ => rfl)) (pav_cons (pev_ix ix_seq rop_ix (fun _ _ _ => of_nx) (pep_var (pv 1)) (PEV.p pev_int) (fun _ _ => rfl)) pav_nil))))))))))
end
end K92
end
section
set_option Elab.async false
set_option linter.all false
set_option maxRecDepth 100000
set_option maxHeartbeats 1000000
namespace K92
open PySem PySem.Spec PyProof.Rows L2 DL
section
variable {P : Program} {w : World} {K : PySem.W.Frag} {mg : Str → Option Value} {base : Heap} {ad : Str → Addr}
abbrev N__law_spoilt_words : List Str := ["kind", "words", "row", "odd", "w", "gap", "number"]
theorem sc__law_spoilt_words : FnScope N__law_spoilt_words ["kind", "words", "row"] (defScope (top 31)) := ⟨rfl, rfl, rfl, by decide +kernel, rfl, by decide +kernel, by decide +kernel⟩
theorem ok__law_spoilt_words (T : Tx K mg ad) {fd : FuncData} (F : FnP K "_law_spoilt_words" (top 31) (ad "_law_spoilt_words") fd) : FnG P w K mg base L2.CX0 4 (ad "_law_spoilt_words") fd ["kind", "words", "row"] (sp0 K (cm0 ad) fn__law_spoilt_words) := by
  obtain ⟨fd__law_number, F__law_number⟩ := T.f__law_number
  have G__law_number := ok__law_number (P := P) (w := w) (base := base) T F__law_number
  have b__law_number : Binds K fd__law_number ["word"] [] := F__law_number.bindsN fun _ _ _ _ _ _ us hl => match us, hl with | [_], _ => rfl
  refine fnD0 (ps := ["kind", "words", "row"]) (N := N__law_spoilt_words) F sc__law_spoilt_words (fun cdv A outer s H E hG hr => ?_)
  exact (pssv_cons (psv_set (i := 3) (pev_ix ix_seq rop_ix (fun _ _ _ => of_nx) (PEV.fp (pef_lst (pav_cons pev_str (pav_cons pev_str (pav_cons pev_str (pav_cons pev_str (pav_cons pev_str (pav_cons pev_str (pav_cons pev_str (pav_cons pev_str (pav_cons pev_str (pav_cons pev_str (pav_cons pev_str (pav_cons pev_str (pav_cons pev_str (pav_cons pev_str (pav_cons pev_str (pav_cons pev_str (pav_cons pev_str (pav_cons pev_str (pav_cons pev_str (pav_cons pev_str (pav_cons pev_str (pav_cons pev_str (pav_cons pev_str (pav_cons pev_str pav_nil)))))))))))))))))))))))))) (PEV.p (pev_ix ix_seq rop_ix (fun _ _ _ => of_nx) (pep_var (pv 2)) (PEV.p pev_int) (fun _ _ => rfl))) (fun _ _ => rfl)) (fun _ h => ps_set sc__law_spoilt_words.nd rfl (Or.inl rfl) h))
  (pssv_cons (psv_set (i := 4) (pev_op op_mod rop_mod (fun _ _ _ => of_nx) (PEV.p (pev_callTy call_intU rcl_int (fun _ _ => of_nx) rfl T.n_int (by rfl) (pqv_cons (PEV.p (pev_ix ix_seq rop_ix (fun _ _ _ => of_nx) (pep_var (pv 2)) (PEV.p pev_int) (fun _ _ => rfl))) pqv_nil))) (PEV.p (pev_callB call_len rcl_len (fun _ _ => of_nx) rfl T.n_len (by rfl) (pqv_cons (pep_var (pv 1)) pqv_nil)))) (fun _ h => ps_set sc__law_spoilt_words.nd rfl (Or.inl rfl) h))
  (pssv_cons (psv_if (ptv_cmp (op_eqU (hu64 hr)) rop_eq (fun _ _ _ => of_nx) (pep_var (pv 0)) (PEV.p pev_int) (nomark _))
  (pssv_one (psv_ret (pev_op op_addU rop_add (fun _ _ _ => of_nx) (PEV.p (pev_op op_addU rop_add (fun _ _ _ => of_nx) (PEV.p (pev_slice sl_U rsl_slice (fun _ _ _ _ => of_nx) (pep_var (pv 1)) pov_none (pov_some (pep_var (pv 4))))) (PEV.fp (pef_lst (pav_cons (pev_op op_addU rop_add (fun _ _ _ => of_nx) (PEV.p pev_str) (PEV.p (pev_ix ix_seq rop_ix (fun _ _ _ => of_nx) (pep_var (pv 1)) (pep_var (pv 4)) (fun _ _ => rfl)))) pav_nil))))) (PEV.p (pev_slice sl_U rsl_slice (fun _ _ _ _ => of_nx) (pep_var (pv 1)) (pov_some (PEV.p (pev_op op_addU rop_add (fun _ _ _ => of_nx) (pep_var (pv 4)) (PEV.p pev_int)))) pov_none)))))
  (pssv_nil pss_nil))
  (pssv_cons (psv_if (ptv_cmp (op_eqU (hu64 hr)) rop_eq (fun _ _ _ => of_nx) (pep_var (pv 0)) (PEV.p pev_int) (nomark _))
  (pssv_cons (psv_set (i := 5) (pev_op op_mod rop_mod (fun _ _ _ => of_nx) (PEV.p (pev_callTy call_intU rcl_int (fun _ _ => of_nx) rfl T.n_int (by rfl) (pqv_cons (PEV.p (pev_ix ix_seq rop_ix (fun _ _ _ => of_nx) (pep_var (pv 2)) (PEV.p pev_int) (fun _ _ => rfl))) pqv_nil))) (PEV.p (pev_op op_addU rop_add (fun _ _ _ => of_nx) (PEV.p (pev_callB call_len rcl_len (fun _ _ => of_nx) rfl T.n_len (by rfl) (pqv_cons (pep_var (pv 1)) pqv_nil))) (PEV.p pev_int)))) (fun _ h => ps_set sc__law_spoilt_words.nd rfl (Or.inl rfl) h))
  (pssv_one (psv_ret (pev_op op_addU rop_add (fun _ _ _ => of_nx) (PEV.p (pev_op op_addU rop_add (fun _ _ _ => of_nx) (PEV.p (pev_slice sl_U rsl_slice (fun _ _ _ _ => of_nx) (pep_var (pv 1)) pov_none (pov_some (pep_var (pv 5))))) (PEV.fp (pef_lst (pav_cons pev_str pav_nil))))) (PEV.p (pev_slice sl_U rsl_slice (fun _ _ _ _ => of_nx) (pep_var (pv 1)) (pov_some (pep_var (pv 5))) pov_none))))))
  (pssv_nil pss_nil))
  (pssv_cons (psv_if (ptv_cmp (op_eqU (hu64 hr)) rop_eq (fun _ _ _ => of_nx) (pep_var (pv 0)) (PEV.p pev_int) (nomark _))
  (pssv_one (psv_ret (pev_op op_addU rop_add (fun _ _ _ => of_nx) (PEV.p (pev_op op_addU rop_add (fun _ _ _ => of_nx) (PEV.p (pev_slice sl_U rsl_slice (fun _ _ _ _ => of_nx) (pep_var (pv 1)) pov_none (pov_some (pep_var (pv 4))))) (PEV.fp (pef_lst (pav_cons (pev_var (pv 3)) pav_nil))))) (PEV.p (pev_slice sl_U rsl_slice (fun _ _ _ _ => of_nx) (pep_var (pv 1)) (pov_some (PEV.p (pev_op op_addU rop_add (fun _ _ _ => of_nx) (pep_var (pv 4)) (PEV.p pev_int)))) pov_none)))))
  (pssv_nil pss_nil))
  (pssv_cons (psv_if (ptv_cmp (op_eqU (hu64 hr)) rop_eq (fun _ _ _ => of_nx) (pep_var (pv 0)) (PEV.p pev_int) (nomark _))
  (pssv_one (psv_ret (pev_op op_addU rop_add (fun _ _ _ => of_nx) (PEV.p (pev_slice sl_U rsl_slice (fun _ _ _ _ => of_nx) (pep_var (pv 1)) pov_none (pov_some (pep_var (pv 4))))) (PEV.p (pev_slice sl_U rsl_slice (fun _ _ _ _ => of_nx) (pep_var (pv 1)) (pov_some (PEV.p (pev_op op_addU rop_add (fun _ _ _ => of_nx) (pep_var (pv 4)) (PEV.p pev_int)))) pov_none)))))
  (pssv_nil pss_nil))
  (pssv_cons (psv_if (ptv_cmp (op_eqU (hu64 hr)) rop_eq (fun _ _ _ => of_nx) (pep_var (pv 0)) (PEV.p pev_int) (nomark _))
  (pssv_one (psv_ret (pev_op op_addU rop_add (fun _ _ _ => of_nx) (PEV.p (pev_op op_addU rop_add (fun _ _ _ => of_nx) (PEV.p (pev_slice sl_U rsl_slice (fun _ _ _ _ => of_nx) (pep_var (pv 1)) pov_none (pov_some (pep_var (pv 4))))) (PEV.fp (pef_lst (pav_cons (pev_ix ix_seq rop_ix (fun _ _ _ => of_nx) (pep_var (pv 1)) (pep_var (pv 4)) (fun _ _ => rfl)) pav_nil))))) (PEV.p (pev_slice sl_U rsl_slice (fun _ _ _ _ => of_nx) (pep_var (pv 1)) (pov_some (pep_var (pv 4))) pov_none)))))
  (pssv_nil pss_nil))
  (pssv_cons (psv_if (ptv_cmp (op_inU (hu65 hr)) rop_in (fun _ _ _ => of_nx) (pep_var (pv 0)) (PEV.fp (pef_lst (pav_cons pev_int (pav_cons pev_int pav_nil)))) rfl)
  (pssv_cons (psv_set (i := 6) (pev_call0 G__law_number rfl hG (hr.mono (by decide)) rfl T.d__law_number F__law_number.kp b__law_number (pav_cons (pev_ix ix_seq rop_ix (fun _ _ _ => of_nx) (pep_var (pv 1)) (PEV.p (pev_un un_neg run_neg (fun _ _ => of_nx) (PEV.p pev_int))) (fun _ _ => rfl)) pav_nil)) (fun _ h => ps_set sc__law_spoilt_words.nd rfl (Or.inl rfl) h))
  (pssv_one (psv_ret (pev_op op_addU rop_add (fun _ _ _ => of_nx) (PEV.p (pev_slice sl_U rsl_slice (fun _ _ _ _ => of_nx) (pep_var (pv 1)) pov_none (pov_some (PEV.p (pev_un un_neg run_neg (fun _ _ => of_nx) (PEV.p pev_int)))))) (PEV.fp (pef_lst (pav_cons (pev_callTy call_strU rcl_str (fun _ _ => of_nx) rfl T.n_str (by rfl) (pqv_cons (PEV.p (pev_callB call_abs rcl_abs (fun _ _ => of_nx) rfl T.n_abs (by rfl) (pqv_cons (PEV.p (pev_op op_addU rop_add (fun _ _ _ => of_nx) (pep_var (pv 6)) (PEV.p (pev_ix ix_seq rop_ix (fun _ _ _ => of_nx) (PEV.fp (pef_lst (pav_cons pev_int (pav_cons (pev_un un_neg run_neg (fun _ _ => of_nx) (PEV.p pev_int)) pav_nil)))) (PEV.p (pev_op op_sub rop_sub (fun _ _ _ => of_nx) (pep_var (pv 0)) (PEV.p pev_int))) (fun _ _ => rfl))))) pqv_nil))) pqv_nil)) pav_nil)))))))
  (pssv_nil pss_nil))
  (pssv_cons (psv_if (ptv_cmp (op_eqU (hu64 hr)) rop_eq (fun _ _ _ => of_nx) (pep_var (pv 0)) (PEV.p pev_int) (nomark _))
  (pssv_one (psv_ret (pev_op op_addU rop_add (fun _ _ _ => of_nx) (PEV.p (pev_slice sl_U rsl_slice (fun _ _ _ _ => of_nx) (pep_var (pv 1)) pov_none (pov_some (PEV.p pev_int)))) (PEV.fp (pef_listRev rfl rfl T.n_list rfl T.n_reversed (PEV.p (pev_slice sl_U rsl_slice (fun _ _ _ _ => of_nx) (pep_var (pv 1)) (pov_some (PEV.p pev_int)) pov_none)))))))
  (pssv_nil pss_nil))
  (pssv_cons (psv_if (ptv_cmp (op_eqU (hu64 hr)) rop_eq (fun _ _ _ => of_nx) (pep_var (pv 0)) (PEV.p pev_int) (nomark _))
  (pssv_one (psv_ret (pev_op op_addU rop_add (fun _ _ _ => of_nx) (PEV.fp (pef_lst (pav_cons (pev_var (pv 3)) pav_nil))) (PEV.p (pev_slice sl_U rsl_slice (fun _ _ _ _ => of_nx) (pep_var (pv 1)) (pov_some (PEV.p pev_int)) pov_none)))))
  (pssv_nil pss_nil))
  (pssv_cons (psv_if (ptv_cmp (op_eqU (hu64 hr)) rop_eq (fun _ _ _ => of_nx) (pep_var (pv 0)) (PEV.p pev_int) (nomark _))
  (pssv_one (psv_ret (pev_op op_addU rop_add (fun _ _ _ => of_nx) (PEV.p (pev_slice sl_U rsl_slice (fun _ _ _ _ => of_nx) (pep_var (pv 1)) pov_none (pov_some (PEV.p (pev_un un_neg run_neg (fun _ _ => of_nx) (PEV.p pev_int)))))) (PEV.fp (pef_lst (pav_cons (pev_var (pv 3)) pav_nil))))))
  (pssv_nil pss_nil))
  (pssv_cons (psv_if (ptv_cmp (op_eqU (hu64 hr)) rop_eq (fun _ _ _ => of_nx) (pep_var (pv 0)) (PEV.p pev_int) (nomark _))
  (pssv_one (psv_ret (pev_op op_addU rop_add (fun _ _ _ => of_nx) (PEV.p (pev_op op_addU rop_add (fun _ _ _ => of_nx) (PEV.p (pev_slice sl_U rsl_slice (fun _ _ _ _ => of_nx) (pep_var (pv 1)) pov_none (pov_some (pep_var (pv 4))))) (PEV.fp (pef_lst (pav_cons (pev_bm0 PySem.F.plainAttrs_str PySem.F.slot_str_upper PySem.F.type_str_upper rty_str mt_upper rmt_upper (fun _ _ _ => of_nx) (PEV.p (pev_ix ix_seq rop_ix (fun _ _ _ => of_nx) (pep_var (pv 1)) (pep_var (pv 4)) (fun _ _ => rfl)))) pav_nil))))) (PEV.p (pev_slice sl_U rsl_slice (fun _ _ _ _ => of_nx) (pep_var (pv 1)) (pov_some (PEV.p (pev_op op_addU rop_add (fun _ _ _ => of_nx) (pep_var (pv 4)) (PEV.p pev_int)))) pov_none)))))
  (pssv_nil pss_nil))
  (pssv_cons (psv_if (PWV.t (pwv_and (ptv_cmp (op_eqU (hu64 hr)) rop_eq (fun _ _ _ => of_nx) (pep_var (pv 0)) (PEV.p pev_int) (nomark _)) (pwv_and1 (ptv_cmp (op_ltU (hu0 hr)) rop_lt (fun _ _ _ => of_nx) (PEV.p (pev_callB call_len rcl_len (fun _ _ => of_nx) rfl T.n_len (by rfl) (pqv_cons (PEV.p (pev_bm PySem.F.plainAttrs_str PySem.F.slot_str_join PySem.F.type_str_join rty_str mt_join rmt_join (fun _ _ _ => of_nx) (PEV.p pev_str) (pqv_cons (PEV.p (pev_slice sl_U rsl_slice (fun _ _ _ _ => of_nx) (pep_var (pv 1)) (pov_some (pep_var (pv 4))) (pov_some (PEV.p (pev_op op_addU rop_add (fun _ _ _ => of_nx) (pep_var (pv 4)) (PEV.p pev_int)))))) pqv_nil))) pqv_nil))) (PEV.p pev_int) (nomark _)))))
  (pssv_one (psv_ret (pev_op op_addU rop_add (fun _ _ _ => of_nx) (PEV.p (pev_op op_addU rop_add (fun _ _ _ => of_nx) (PEV.p (pev_slice sl_U rsl_slice (fun _ _ _ _ => of_nx) (pep_var (pv 1)) pov_none (pov_some (pep_var (pv 4))))) (PEV.fp (pef_lst (pav_cons (pev_bm PySem.F.plainAttrs_str PySem.F.slot_str_join PySem.F.type_str_join rty_str mt_join rmt_join (fun _ _ _ => of_nx) (PEV.p pev_str) (pqv_cons (PEV.p (pev_slice sl_U rsl_slice (fun _ _ _ _ => of_nx) (pep_var (pv 1)) (pov_some (pep_var (pv 4))) (pov_some (PEV.p (pev_op op_addU rop_add (fun _ _ _ => of_nx) (pep_var (pv 4)) (PEV.p pev_int)))))) pqv_nil)) pav_nil))))) (PEV.p (pev_slice sl_U rsl_slice (fun _ _ _ _ => of_nx) (pep_var (pv 1)) (pov_some (PEV.p (pev_op op_addU rop_add (fun _ _ _ => of_nx) (pep_var (pv 4)) (PEV.p pev_int)))) pov_none)))))
  (pssv_nil pss_nil))
  (pssv_one (psv_ret (pev_var (pv 1)))))))))))))))))
end
end K92
end
section
set_option Elab.async false
set_option linter.all false
set_option maxRecDepth 100000
set_option maxHeartbeats 1000000
namespace K92
open PySem PySem.Spec PyProof.Rows L2 DL
section
variable {P : Program} {w : World} {K : PySem.W.Frag} {mg : Str → Option Value} {base : Heap} {ad : Str → Addr}
abbrev N__law_spoilt : List Str := ["lines", "row", "kind", "at", "gap"]
theorem sc__law_spoilt : FnScope N__law_spoilt ["lines", "row"] (defScope (top 33)) := ⟨rfl, rfl, rfl, by decide +kernel, rfl, by decide +kernel, by decide +kernel⟩
theorem ok__law_spoilt (T : Tx K mg ad) {fd : FuncData} (F : FnP K "_law_spoilt" (top 33) (ad "_law_spoilt") fd) : FnG P w K mg base L2.CX0 5 (ad "_law_spoilt") fd ["lines", "row"] (sp0 K (cm0 ad) fn__law_spoilt) := by
  obtain ⟨fd__law_spoilt_words, F__law_spoilt_words⟩ := T.f__law_spoilt_words
  have G__law_spoilt_words := ok__law_spoilt_words (P := P) (w := w) (base := base) T F__law_spoilt_words
  have b__law_spoilt_words : Binds K fd__law_spoilt_words ["kind", "words", "row"] [] := F__law_spoilt_words.bindsN fun _ _ _ _ _ _ us hl => match us, hl with | [_, _, _], _ => rfl
  refine fnD0 (ps := ["lines", "row"]) (N := N__law_spoilt) F sc__law_spoilt (fun cdv A outer s H E hG hr => ?_)
  exact (pssv_cons (psv_set (i := 2) (pev_callTy call_intU rcl_int (fun _ _ => of_nx) rfl T.n_int (by rfl) (pqv_cons (PEV.p (pev_ix ix_seq rop_ix (fun _ _ _ => of_nx) (pep_var (pv 1)) (PEV.p pev_int) (fun _ _ => rfl))) pqv_nil)) (fun _ h => ps_set sc__law_spoilt.nd rfl (Or.inl rfl) h))
  (pssv_cons (psv_if (ptv_cmp (op_eqU (hu64 hr)) rop_eq (fun _ _ _ => of_nx) (PEV.p (pev_callB call_len rcl_len (fun _ _ => of_nx) rfl T.n_len (by rfl) (pqv_cons (pep_var (pv 0)) pqv_nil))) (PEV.p pev_int) (nomark _))
  (pssv_one (psv_ret (PEV.v (pef_lst (pav_cons pev_str pav_nil)))))
  (pssv_nil pss_nil))
  (pssv_cons (psv_set (i := 3) (pev_op op_mod rop_mod (fun _ _ _ => of_nx) (PEV.p (pev_callTy call_intU rcl_int (fun _ _ => of_nx) rfl T.n_int (by rfl) (pqv_cons (PEV.p (pev_ix ix_seq rop_ix (fun _ _ _ => of_nx) (pep_var (pv 1)) (PEV.p pev_int) (fun _ _ => rfl))) pqv_nil))) (PEV.p (pev_callB call_len rcl_len (fun _ _ => of_nx) rfl T.n_len (by rfl) (pqv_cons (pep_var (pv 0)) pqv_nil)))) (fun _ h => ps_set sc__law_spoilt.nd rfl (Or.inl rfl) h))
  (pssv_cons (psv_if (ptv_cmp (op_eqU (hu64 hr)) rop_eq (fun _ _ _ => of_nx) (pep_var (pv 2)) (PEV.p pev_int) (nomark _))
  (pssv_one (psv_ret (pev_op op_addU rop_add (fun _ _ _ => of_nx) (PEV.p (pev_op op_addU rop_add (fun _ _ _ => of_nx) (PEV.p (pev_op op_addU rop_add (fun _ _ _ => of_nx) (PEV.p (pev_slice sl_U rsl_slice (fun _ _ _ _ => of_nx) (pep_var (pv 0)) pov_none (pov_some (pep_var (pv 3))))) (PEV.p (pev_slice sl_U rsl_slice (fun _ _ _ _ => of_nx) (pep_var (pv 0)) (pov_some (PEV.p (pev_op op_addU rop_add (fun _ _ _ => of_nx) (pep_var (pv 3)) (PEV.p pev_int)))) (pov_some (PEV.p (pev_op op_addU rop_add (fun _ _ _ => of_nx) (pep_var (pv 3)) (PEV.p pev_int)))))))) (PEV.fp (pef_lst (pav_cons (pev_ix ix_seq rop_ix (fun _ _ _ => of_nx) (pep_var (pv 0)) (pep_var (pv 3)) (fun _ _ => rfl)) pav_nil))))) (PEV.p (pev_slice sl_U rsl_slice (fun _ _ _ _ => of_nx) (pep_var (pv 0)) (pov_some (PEV.p (pev_op op_addU rop_add (fun _ _ _ => of_nx) (pep_var (pv 3)) (PEV.p pev_int)))) pov_none)))))
  (pssv_nil pss_nil))
  (pssv_cons (psv_if (ptv_cmp (op_eqU (hu64 hr)) rop_eq (fun _ _ _ => of_nx) (pep_var (pv 2)) (PEV.p pev_int) (nomark _))
  (pssv_one (psv_ret (pev_op op_addU rop_add (fun _ _ _ => of_nx) (PEV.p (pev_op op_addU rop_add (fun _ _ _ => of_nx) (PEV.p (pev_slice sl_U rsl_slice (fun _ _ _ _ => of_nx) (pep_var (pv 0)) pov_none (pov_some (pep_var (pv 3))))) (PEV.fp (pef_lst (pav_cons (pev_ix ix_seq rop_ix (fun _ _ _ => of_nx) (pep_var (pv 0)) (pep_var (pv 3)) (fun _ _ => rfl)) pav_nil))))) (PEV.p (pev_slice sl_U rsl_slice (fun _ _ _ _ => of_nx) (pep_var (pv 0)) (pov_some (pep_var (pv 3))) pov_none)))))
  (pssv_nil pss_nil))
  (pssv_cons (psv_if (ptv_cmp (op_eqU (hu64 hr)) rop_eq (fun _ _ _ => of_nx) (pep_var (pv 2)) (PEV.p pev_int) (nomark _))
  (pssv_one (psv_ret (pev_op op_addU rop_add (fun _ _ _ => of_nx) (PEV.p (pev_slice sl_U rsl_slice (fun _ _ _ _ => of_nx) (pep_var (pv 0)) pov_none (pov_some (pep_var (pv 3))))) (PEV.p (pev_slice sl_U rsl_slice (fun _ _ _ _ => of_nx) (pep_var (pv 0)) (pov_some (PEV.p (pev_op op_addU rop_add (fun _ _ _ => of_nx) (pep_var (pv 3)) (PEV.p pev_int)))) pov_none)))))
  (pssv_nil pss_nil))
  (pssv_cons (psv_if (ptv_cmp (op_eqU (hu64 hr)) rop_eq (fun _ _ _ => of_nx) (pep_var (pv 2)) (PEV.p pev_int) (nomark _))
  (pssv_cons (psv_set (i := 4) (pev_op op_mod rop_mod (fun _ _ _ => of_nx) (PEV.p (pev_callTy call_intU rcl_int (fun _ _ => of_nx) rfl T.n_int (by rfl) (pqv_cons (PEV.p (pev_ix ix_seq rop_ix (fun _ _ _ => of_nx) (pep_var (pv 1)) (PEV.p pev_int) (fun _ _ => rfl))) pqv_nil))) (PEV.p (pev_op op_addU rop_add (fun _ _ _ => of_nx) (PEV.p (pev_callB call_len rcl_len (fun _ _ => of_nx) rfl T.n_len (by rfl) (pqv_cons (pep_var (pv 0)) pqv_nil))) (PEV.p pev_int)))) (fun _ h => ps_set sc__law_spoilt.nd rfl (Or.inl rfl) h))
  (pssv_one (psv_ret (pev_op op_addU rop_add (fun _ _ _ => of_nx) (PEV.p (pev_op op_addU rop_add (fun _ _ _ => of_nx) (PEV.p (pev_slice sl_U rsl_slice (fun _ _ _ _ => of_nx) (pep_var (pv 0)) pov_none (pov_some (pep_var (pv 4))))) (PEV.fp (pef_lst (pav_cons pev_str pav_nil))))) (PEV.p (pev_slice sl_U rsl_slice (fun _ _ _ _ => of_nx) (pep_var (pv 0)) (pov_some (pep_var (pv 4))) pov_none))))))
  (pssv_nil pss_nil))
  (pssv_cons (psv_if (ptv_cmp (op_eqU (hu64 hr)) rop_eq (fun _ _ _ => of_nx) (pep_var (pv 2)) (PEV.p pev_int) (nomark _))
  (pssv_one (psv_ret (pev_op op_addU rop_add (fun _ _ _ => of_nx) (PEV.p (pev_slice sl_U rsl_slice (fun _ _ _ _ => of_nx) (pep_var (pv 0)) (pov_some (pep_var (pv 3))) pov_none)) (PEV.p (pev_slice sl_U rsl_slice (fun _ _ _ _ => of_nx) (pep_var (pv 0)) pov_none (pov_some (pep_var (pv 3))))))))
  (pssv_nil pss_nil))
  (pssv_one (psv_ret (pev_op op_addU rop_add (fun _ _ _ => of_nx) (PEV.p (pev_op op_addU rop_add (fun _ _ _ => of_nx) (PEV.p (pev_slice sl_U rsl_slice (fun _ _ _ _ => of_nx) (pep_var (pv 0)) pov_none (pov_some (pep_var (pv 3))))) (PEV.fp (pef_lst (pav_cons (pev_bm PySem.F.plainAttrs_str PySem.F.slot_str_join PySem.F.type_str_join rty_str mt_join rmt_join (fun _ _ _ => of_nx) (PEV.p pev_str) (pqv_cons (PEV.p (pev_call0 G__law_spoilt_words rfl hG (hr.mono (by decide)) rfl T.d__law_spoilt_words F__law_spoilt_words.kp b__law_spoilt_words (pav_cons (pev_var (pv 2)) (pav_cons (PEV.v (pev_bm PySem.F.plainAttrs_str PySem.F.slot_str_split PySem.F.type_str_split rty_str mt_split rmt_split (fun _ _ _ => of_nx) (PEV.p (pev_ix ix_seq rop_ix (fun _ _ _ => of_nx) (pep_var (pv 0)) (pep_var (pv 3)) (fun _ _ => rfl))) (pqv_cons (PEV.p pev_str) pqv_nil))) (pav_cons (pev_var (pv 1)) pav_nil))))) pqv_nil)) pav_nil))))) (PEV.p (pev_slice sl_U rsl_slice (fun _ _ _ _ => of_nx) (pep_var (pv 0)) (pov_some (PEV.p (pev_op op_addU rop_add (fun _ _ _ => of_nx) (pep_var (pv 3)) (PEV.p pev_int)))) pov_none)))))))))))))
end
end K92
end
section
set_option Elab.async false
set_option linter.all false
set_option maxRecDepth 100000
set_option maxHeartbeats 1000000
namespace K92
open PySem PySem.Spec PyProof.Rows L2 DL
section
variable {P : Program} {w : World} {K : PySem.W.Frag} {mg : Str → Option Value} {base : Heap} {ad : Str → Addr}
abbrev N__law_name : List Str := ["row", "signs", "near", "k"]
theorem sc__law_name : FnScope N__law_name ["row"] (defScope (top 24)) := ⟨rfl, rfl, rfl, by decide +kernel, rfl, by decide +kernel, by decide +kernel⟩
theorem ok__law_name (T : Tx K mg ad) {fd : FuncData} (F : FnP K "_law_name" (top 24) (ad "_law_name") fd) : FnG P w K mg base L2.CX0 3 (ad "_law_name") fd ["row"] (sp0 K (cm0 ad) fn__law_name) := by
  refine fnD0 (ps := ["row"]) (N := N__law_name) F sc__law_name (fun cdv A outer s H E hG hr => ?_)
  exact (pssv_cons (psv_set (i := 1) pev_str (fun _ h => ps_set sc__law_name.nd rfl (Or.inr rfl) h))
  (pssv_cons (psv_set (i := 2) (PEV.v (pef_lst (pav_cons pev_str (pav_cons pev_str (pav_cons pev_str (pav_cons pev_str (pav_cons pev_str (pav_cons pev_str (pav_cons pev_str (pav_cons pev_str (pav_cons pev_str (pav_cons pev_str (pav_cons pev_str (pav_cons pev_str (pav_cons pev_str (pav_cons pev_str (pav_cons pev_str (pav_cons pev_str pav_nil)))))))))))))))))) (fun _ h => ps_set sc__law_name.nd rfl (Or.inl rfl) h))
  (pssv_cons (psv_if (ptv_cmp (op_eqU (hu64 hr)) rop_eq (fun _ _ _ => of_nx) (PEV.p (pev_ix ix_seq rop_ix (fun _ _ _ => of_nx) (pep_var (pv 0)) (PEV.p pev_int) (fun _ _ => rfl))) (PEV.p pev_int) (nomark _))
  (pssv_one (psv_ret (pev_ix ix_seq rop_ix (fun _ _ _ => of_nx) (pep_var (pv 2)) (PEV.p (pev_ix ix_seq rop_ix (fun _ _ _ => of_nx) (pep_var (pv 0)) (PEV.p pev_int) (fun _ _ => rfl))) (fun _ _ => rfl))))
  (pssv_nil pss_nil))
  (pssv_one (psv_ret (pev_op op_addU rop_add (fun _ _ _ => of_nx) (PEV.p (pev_ix ix_seq rop_ix (fun _ _ _ => of_nx) (pep_var (pv 1)) (PEV.p (pev_ix ix_seq rop_ix (fun _ _ _ => of_nx) (pep_var (pv 0)) (PEV.p pev_int) (fun _ _ => rfl))) (fun _ _ => rfl))) (PEV.p (pev_bm PySem.F.plainAttrs_str PySem.F.slot_str_join PySem.F.type_str_join rty_str mt_join rmt_join (fun _ _ _ => of_nx) (PEV.p pev_str) (pqv_cons (PEV.fp (pef_compV rfl sc__law_name.nd (piv_range1 rfl T.n_range (PEV.p (pev_ix ix_seq rop_ix (fun _ _ _ => of_nx) (pep_var (pv 0)) (PEV.p pev_int) (fun _ _ => rfl)))) (blkOk_by (own := [("k", 3)]) (N := N__law_name) (sc := defScope (top 24)) (by decide +kernel)) rfl (by decide) (fun _ _ _ _ _ => (pgv_name (i := 3) (pg_name sc__law_name.nd rfl (Or.inl rfl)))) (fun _ _ _ _ _ => ptsv_nil) (fun _ _ _ _ _ => (pev_ix ix_seq rop_ix (fun _ _ _ => of_nx) (pep_var (pv 1)) (PEV.p (pev_ix ix_seq rop_ix (fun _ _ _ => of_nx) (pep_var (pv 0)) (PEV.p (pev_op op_addU rop_add (fun _ _ _ => of_nx) (PEV.p pev_int) (pep_var (pv 3)))) (fun _ _ => rfl))) (fun _ _ => rfl))))) pqv_nil)))))))))
end
end K92
end
section
set_option Elab.async false
set_option linter.all false
set_option maxRecDepth 100000
set_option maxHeartbeats 1000000
namespace K92
open PySem PySem.Spec PyProof.Rows L2 DL
section
variable {P : Program} {w : World} {K : PySem.W.Frag} {mg : Str → Option Value} {base : Heap} {ad : Str → Addr}
abbrev N__law_store : List Str := ["script", "menu", "many", "known", "tables", "t", "name", "row", "width", "rows", "k", "j"]
theorem sc__law_store : FnScope N__law_store ["script"] (defScope (top 25)) := ⟨rfl, rfl, rfl, by decide +kernel, rfl, by decide +kernel, by decide +kernel⟩
theorem ok__law_store (T : Tx K mg ad) {fd : FuncData} (F : FnP K "_law_store" (top 25) (ad "_law_store") fd) : FnG P w K mg base L2.CX0 4 (ad "_law_store") fd ["script"] (sp0 K (cm0 ad) fn__law_store) := by
  obtain ⟨fd__law_cell, F__law_cell⟩ := T.f__law_cell
  have G__law_cell := ok__law_cell (P := P) (w := w) (base := base) T F__law_cell
  have b__law_cell : Binds K fd__law_cell ["script", "k"] [] := F__law_cell.bindsN fun _ _ _ _ _ _ us hl => match us, hl with | [_, _], _ => rfl
  obtain ⟨fd__law_digits, F__law_digits⟩ := T.f__law_digits
  have G__law_digits := ok__law_digits (P := P) (w := w) (base := base) T F__law_digits
  have b__law_digits : Binds K fd__law_digits ["cell", "sizes"] [] := F__law_digits.bindsN fun _ _ _ _ _ _ us hl => match us, hl with | [_, _], _ => rfl
  obtain ⟨fd__law_name, F__law_name⟩ := T.f__law_name
  have G__law_name := ok__law_name (P := P) (w := w) (base := base) T F__law_name
  have b__law_name : Binds K fd__law_name ["row"] [] := F__law_name.bindsN fun _ _ _ _ _ _ us hl => match us, hl with | [_], _ => rfl
  refine fnD0 (ps := ["script"]) (N := N__law_store) F sc__law_store (fun cdv A outer s H E hG hr => ?_)
  exact (pssv_cons (psv_set (i := 1) (PEV.v (pef_lst (pav_cons pev_int (pav_cons pev_int (pav_cons pev_int (pav_cons pev_int (pav_cons pev_int (pav_cons pev_int (pav_cons pev_int (pav_cons pev_int (pav_cons pev_int (pav_cons pev_int (pav_cons pev_int (pav_cons pev_int pav_nil)))))))))))))) (fun _ h => ps_set sc__law_store.nd rfl (Or.inr rfl) h))
  (pssv_cons (psv_set (i := 2) (pev_ix ix_seq rop_ix (fun _ _ _ => of_nx) (PEV.fp (pef_lst (pav_cons pev_int (pav_cons pev_int (pav_cons pev_int (pav_cons pev_int (pav_cons pev_int (pav_cons pev_int (pav_cons pev_int (pav_cons pev_int pav_nil)))))))))) (PEV.p (pev_ix ix_seq rop_ix (fun _ _ _ => of_nx) (PEV.p (pev_call0 G__law_digits rfl hG (hr.mono (by decide)) rfl T.d__law_digits F__law_digits.kp b__law_digits (pav_cons (pev_call0 G__law_cell rfl hG (hr.mono (by decide)) rfl T.d__law_cell F__law_cell.kp b__law_cell (pav_cons (pev_var (pv 0)) (pav_cons pev_int pav_nil))) (pav_cons (PEV.v (pef_lst (pav_cons pev_int pav_nil))) pav_nil)))) (PEV.p pev_int) (fun _ _ => rfl))) (fun _ _ => rfl)) (fun _ h => ps_set sc__law_store.nd rfl (Or.inl rfl) h))
  (pssv_cons (psv_setO (i := 3) (pef_lst pav_nil) (fun _ h => ps_set sc__law_store.nd rfl (Or.inl rfl) h))
  (pssv_cons (psv_setO (i := 4) (pef_lst pav_nil) (fun _ h => ps_set sc__law_store.nd rfl (Or.inl rfl) h))
  (pssv_cons (psv_for PassesOwn.never rfl (piv_range1 rfl T.n_range (pep_var (pv 2))) (pgv_name (i := 5) (pg_name sc__law_store.nd rfl (Or.inl rfl)))
  (pssv_cons (psv_set (i := 6) (pev_call0 G__law_name rfl hG (hr.mono (by decide)) rfl T.d__law_name F__law_name.kp b__law_name (pav_cons (pev_call0 G__law_digits rfl hG (hr.mono (by decide)) rfl T.d__law_digits F__law_digits.kp b__law_digits (pav_cons (pev_call0 G__law_cell rfl hG (hr.mono (by decide)) rfl T.d__law_cell F__law_cell.kp b__law_cell (pav_cons (pev_var (pv 0)) (pav_cons (pev_op op_addU rop_add (fun _ _ _ => of_nx) (PEV.p pev_int) (PEV.p (pev_op op_mulW rop_mul (fun _ _ _ => of_nx) (PEV.p pev_int) (pep_var (pv 5))))) pav_nil))) (pav_cons (PEV.v (pef_lst (pav_cons pev_int (pav_cons pev_int (pav_cons pev_int (pav_cons pev_int (pav_cons pev_int (pav_cons pev_int (pav_cons pev_int (pav_cons pev_int (pav_cons pev_int (pav_cons pev_int (pav_cons pev_int pav_nil))))))))))))) pav_nil))) pav_nil)) (fun _ h => ps_set sc__law_store.nd rfl (Or.inl rfl) h))
  (pssv_cons (psv_set (i := 7) (pev_call0 G__law_digits rfl hG (hr.mono (by decide)) rfl T.d__law_digits F__law_digits.kp b__law_digits (pav_cons (pev_call0 G__law_cell rfl hG (hr.mono (by decide)) rfl T.d__law_cell F__law_cell.kp b__law_cell (pav_cons (pev_var (pv 0)) (pav_cons (pev_op op_addU rop_add (fun _ _ _ => of_nx) (PEV.p pev_int) (PEV.p (pev_op op_mulW rop_mul (fun _ _ _ => of_nx) (PEV.p pev_int) (pep_var (pv 5))))) pav_nil))) (pav_cons (pev_op op_addU rop_add (fun _ _ _ => of_nx) (PEV.fp (pef_lst (pav_cons pev_int (pav_cons pev_int pav_nil)))) (PEV.fp (pef_rep (pef_lst (pav_cons pev_int pav_nil)) (PEV.p pev_int)))) pav_nil))) (fun _ h => ps_set sc__law_store.nd rfl (Or.inr rfl) h))
  (pssv_cons (psv_set (i := 8) (pev_ix ix_seq rop_ix (fun _ _ _ => of_nx) (PEV.fp (pef_lst (pav_cons pev_int (pav_cons pev_int (pav_cons pev_int (pav_cons pev_int pav_nil)))))) (PEV.p (pev_ix ix_seq rop_ix (fun _ _ _ => of_nx) (pep_var (pv 7)) (PEV.p pev_int) (fun _ _ => rfl))) (fun _ _ => rfl)) (fun _ h => ps_set sc__law_store.nd rfl (Or.inl rfl) h))
  (pssv_cons (psv_setO (i := 9) (pef_lst pav_nil) (fun _ h => ps_set sc__law_store.nd rfl (Or.inl rfl) h))
  (pssv_cons (psv_for PassesOwn.never rfl (piv_range1 rfl T.n_range (PEV.p (pev_ix ix_seq rop_ix (fun _ _ _ => of_nx) (PEV.fp (pef_lst (pav_cons pev_int (pav_cons pev_int (pav_cons pev_int (pav_cons pev_int (pav_cons pev_int (pav_cons pev_int (pav_cons pev_int (pav_cons pev_int pav_nil)))))))))) (PEV.p (pev_ix ix_seq rop_ix (fun _ _ _ => of_nx) (pep_var (pv 7)) (PEV.p pev_int) (fun _ _ => rfl))) (fun _ _ => rfl)))) (pgv_name (i := 10) (pg_name sc__law_store.nd rfl (Or.inr rfl)))
  (pssv_one (psv_app (pv 9) (pev_callTy call_tuple_of rcl_tup (fun _ _ => of_nx) rfl T.n_tuple (by rfl) (pqv_cons (PEV.fp (pef_compV rfl sc__law_store.nd (piv_range1 rfl T.n_range (pep_var (pv 8))) (blkOk_by (own := [("j", 11)]) (N := N__law_store) (sc := defScope (top 25)) (by decide +kernel)) rfl (by decide) (fun _ _ _ _ _ => (pgv_name (i := 11) (pg_name sc__law_store.nd rfl (Or.inl rfl)))) (fun _ _ _ _ _ => ptsv_nil) (fun _ _ _ _ _ => (pev_ix ix_seq rop_ix (fun _ _ _ => of_nx) (pep_var (pv 1)) (PEV.p (pev_ix ix_seq rop_ix (fun _ _ _ => of_nx) (pep_var (pv 7)) (PEV.p (pev_op op_addU rop_add (fun _ _ _ => of_nx) (PEV.p (pev_op op_addU rop_add (fun _ _ _ => of_nx) (PEV.p pev_int) (PEV.p (pev_op op_mulW rop_mul (fun _ _ _ => of_nx) (PEV.p pev_int) (pep_var (pv 10)))))) (pep_var (pv 11)))) (fun _ _ => rfl))) (fun _ _ => rfl))))) pqv_nil)))))
  (pssv_one (psv_if (ptv_cmp (op_notInU (hu65 hr)) rop_notIn (fun _ _ _ => of_nx) (pep_var (pv 6)) (pep_var (pv 3)) rfl)
  (pssv_cons (psv_app (pv 3) (pev_var (pv 6)))
  (pssv_one (psv_app (pv 4) (pev_tup (pav_cons (pev_var (pv 6)) (pav_cons (pev_var (pv 8)) (pav_cons (pev_callTy call_tuple_of rcl_tup (fun _ _ => of_nx) rfl T.n_tuple (by rfl) (pqv_cons (PEV.fp (pef_sortSet rfl (hu200 hr) rfl T.n_sorted rfl T.n_set (pep_var (pv 9)))) pqv_nil)) pav_nil)))))))
  (pssv_nil pss_nil)))))))))
  (pssv_one (psv_ret (pev_callTy call_tuple_of rcl_tup (fun _ _ => of_nx) rfl T.n_tuple (by rfl) (pqv_cons (PEV.fp (pef_sorted rfl (hu200 hr) rfl T.n_sorted (pep_var (pv 4)))) pqv_nil)))))))))
end
end K92
end
section
set_option Elab.async false
set_option linter.all false
set_option maxRecDepth 100000
set_option maxHeartbeats 1000000
namespace K92
open PySem PySem.Spec PyProof.Rows L2 DL
section
variable {P : Program} {w : World} {K : PySem.W.Frag} {mg : Str → Option Value} {base : Heap} {ad : Str → Addr}
abbrev N__law_text : List Str := ["store", "lines", "table", "row", "value"]
theorem sc__law_text : FnScope N__law_text ["store"] (defScope (top 27)) := ⟨rfl, rfl, rfl, by decide +kernel, rfl, by decide +kernel, by decide +kernel⟩
theorem ok__law_text (T : Tx K mg ad) {fd : FuncData} (F : FnP K "_law_text" (top 27) (ad "_law_text") fd) : FnG P w K mg base L2.CX0 3 (ad "_law_text") fd ["store"] (sp0 K (cm0 ad) fn__law_text) := by
  refine fnD0 (ps := ["store"]) (N := N__law_text) F sc__law_text (fun cdv A outer s H E hG hr => ?_)
  exact (pssv_cons (psv_setO (i := 1) (pef_lst pav_nil) (fun _ h => ps_set sc__law_text.nd rfl (Or.inl rfl) h))
  (pssv_cons (psv_for PassesOwn.never rfl (piv_any (pev_var (pv 0))) (pgv_name (i := 2) (pg_name sc__law_text.nd rfl (Or.inl rfl)))
  (pssv_cons (psv_app (pv 1) (pev_op op_addU rop_add (fun _ _ _ => of_nx) (PEV.p (pev_op op_addU rop_add (fun _ _ _ => of_nx) (PEV.p (pev_op op_addU rop_add (fun _ _ _ => of_nx) (PEV.p pev_str) (PEV.p (pev_ix ix_seq rop_ix (fun _ _ _ => of_nx) (pep_var (pv 2)) (PEV.p pev_int) (fun _ _ => rfl))))) (PEV.p pev_str))) (PEV.p (pev_callTy call_strU rcl_str (fun _ _ => of_nx) rfl T.n_str (by rfl) (pqv_cons (PEV.p (pev_ix ix_seq rop_ix (fun _ _ _ => of_nx) (pep_var (pv 2)) (PEV.p pev_int) (fun _ _ => rfl))) pqv_nil)))))
  (pssv_one (psv_for PassesOwn.never rfl (piv_any (pev_ix ix_seq rop_ix (fun _ _ _ => of_nx) (pep_var (pv 2)) (PEV.p pev_int) (fun _ _ => rfl))) (pgv_name (i := 3) (pg_name sc__law_text.nd rfl (Or.inl rfl)))
  (pssv_one (psv_app (pv 1) (pev_op op_addU rop_add (fun _ _ _ => of_nx) (PEV.p pev_str) (PEV.p (pev_bm PySem.F.plainAttrs_str PySem.F.slot_str_join PySem.F.type_str_join rty_str mt_join rmt_join (fun _ _ _ => of_nx) (PEV.p pev_str) (pqv_cons (PEV.fp (pef_compV rfl sc__law_text.nd (piv_any (pep_var (pv 3))) (blkOk_by (own := [("value", 4)]) (N := N__law_text) (sc := defScope (top 27)) (by decide +kernel)) rfl (by decide) (fun _ _ _ _ _ => (pgv_name (i := 4) (pg_name sc__law_text.nd rfl (Or.inl rfl)))) (fun _ _ _ _ _ => ptsv_nil) (fun _ _ _ _ _ => (pev_callTy call_strU rcl_str (fun _ _ => of_nx) rfl T.n_str (by rfl) (pqv_cons (pep_var (pv 4)) pqv_nil))))) pqv_nil))))))))))
  (pssv_one (psv_ret (pev_bm PySem.F.plainAttrs_str PySem.F.slot_str_join PySem.F.type_str_join rty_str mt_join rmt_join (fun _ _ _ => of_nx) (PEV.p pev_str) (pqv_cons (pep_var (pv 1)) pqv_nil))))))
end
end K92
end
section
set_option Elab.async false
set_option linter.all false
set_option maxRecDepth 100000
set_option maxHeartbeats 1000000
namespace K92
open PySem PySem.Spec PyProof.Rows L2 DL
section
variable {P : Program} {w : World} {K : PySem.W.Frag} {mg : Str → Option Value} {base : Heap} {ad : Str → Addr}
abbrev N_table_words : List Str := ["table", "name", "width", "rows", "told", "row", "value"]
theorem sc_table_words : FnScope N_table_words ["table"] (defScope (top 15)) := ⟨rfl, rfl, rfl, by decide +kernel, rfl, by decide +kernel, by decide +kernel⟩
theorem ok_table_words (T : Tx K mg ad) {fd : FuncData} (F : FnP K "table_words" (top 15) (ad "table_words") fd) : FnG P w K mg base L2.CX0 3 (ad "table_words") fd ["table"] (sp0 K (cm0 ad) fn_table_words) := by
  refine fnD0 (ps := ["table"]) (N := N_table_words) F sc_table_words (fun cdv A outer s H E hG hr => ?_)
  exact (pssv_cons (psv_asg (pev_var (pv 0)) (pgv_tup (n := 3) (pgsv_cons (pgv_name (i := 1) (pg_name sc_table_words.nd rfl (Or.inl rfl))) (pgsv_cons (pgv_name (i := 2) (pg_name sc_table_words.nd rfl (Or.inl rfl))) (pgsv_cons (pgv_name (i := 3) (pg_name sc_table_words.nd rfl (Or.inl rfl))) pgsv_nil))) (fun _ h => pg_tup rfl h)))
  (pssv_cons (psv_setO (i := 4) (pef_lst (pav_cons (pev_joined (.cons pev_str (.cons (pev_fmt (pep_var (pv 1))) (.cons pev_str (.cons (pev_fmt (pep_var (pv 2))) PJV.nil))))) pav_nil)) (fun _ h => ps_set sc_table_words.nd rfl (Or.inl rfl) h))
  (pssv_cons (psv_for PassesOwn.never rfl (piv_any (pev_var (pv 3))) (pgv_name (i := 5) (pg_name sc_table_words.nd rfl (Or.inl rfl)))
  (pssv_one (psv_app (pv 4) (pev_op op_addU rop_add (fun _ _ _ => of_nx) (PEV.p pev_str) (PEV.p (pev_bm PySem.F.plainAttrs_str PySem.F.slot_str_join PySem.F.type_str_join rty_str mt_join rmt_join (fun _ _ _ => of_nx) (PEV.p pev_str) (pqv_cons (PEV.fp (pef_compV rfl sc_table_words.nd (piv_any (pep_var (pv 5))) (blkOk_by (own := [("value", 6)]) (N := N_table_words) (sc := defScope (top 15)) (by decide +kernel)) rfl (by decide) (fun _ _ _ _ _ => (pgv_name (i := 6) (pg_name sc_table_words.nd rfl (Or.inl rfl)))) (fun _ _ _ _ _ => ptsv_nil) (fun _ _ _ _ _ => (pev_callTy call_strU rcl_str (fun _ _ => of_nx) rfl T.n_str (by rfl) (pqv_cons (pep_var (pv 6)) pqv_nil))))) pqv_nil)))))))
  (pssv_one (psv_ret (pev_var (pv 4)))))))
end
end K92
end
section
set_option Elab.async false
set_option linter.all false
set_option maxRecDepth 100000
set_option maxHeartbeats 1000000
namespace K92
open PySem PySem.Spec PyProof.Rows L2 DL
section
variable {P : Program} {w : World} {K : PySem.W.Frag} {mg : Str → Option Value} {base : Heap} {ad : Str → Addr}
abbrev N_format_store : List Str := ["store", "table", "line"]
theorem sc_format_store : FnScope N_format_store ["store"] (defScope (top 16)) := ⟨rfl, rfl, rfl, by decide +kernel, rfl, by decide +kernel, by decide +kernel⟩
theorem ok_format_store (T : Tx K mg ad) {fd : FuncData} (F : FnP K "format_store" (top 16) (ad "format_store") fd) : FnG P w K mg base L2.CX0 4 (ad "format_store") fd ["store"] (sp0 K (cm0 ad) fn_format_store) := by
  obtain ⟨fd_table_words, F_table_words⟩ := T.f_table_words
  have G_table_words := ok_table_words (P := P) (w := w) (base := base) T F_table_words
  have b_table_words : Binds K fd_table_words ["table"] [] := F_table_words.bindsN fun _ _ _ _ _ _ us hl => match us, hl with | [_], _ => rfl
  refine fnD0 (ps := ["store"]) (N := N_format_store) F sc_format_store (fun cdv A outer s H E hG hr => ?_)
  exact (pssv_one (psv_ret (pev_bm PySem.F.plainAttrs_str PySem.F.slot_str_join PySem.F.type_str_join rty_str mt_join rmt_join (fun _ _ _ => of_nx) (PEV.p pev_str) (pqv_cons (PEV.fp (pef_comp2V rfl sc_format_store.nd (piv_any (pep_var (pv 0))) (blkOk_by (own := [("table", 1), ("line", 2)]) (N := N_format_store) (sc := defScope (top 16)) (by decide +kernel)) rfl (vs1 := [2]) (by decide) (by decide) (by decide) (fun _ _ _ _ _ => (pgv_name (i := 1) (pg_name sc_format_store.nd rfl (Or.inl rfl)))) (fun _ _ _ _ _ => ptsv_nil) (fun _ _ _ _ _ => (piv_any (pev_call0 G_table_words rfl hG (hr.mono (by decide)) rfl T.d_table_words F_table_words.kp b_table_words (pav_cons (pev_var (pv 1)) pav_nil)))) (fun _ _ _ _ _ => (pgv_name (i := 2) (pg_name sc_format_store.nd rfl (Or.inl rfl)))) (fun _ _ _ _ _ => ptsv_nil) (fun _ _ _ _ _ => (pev_var (pv 2))))) pqv_nil))))
end
end K92
end
section
set_option Elab.async false
set_option linter.all false
set_option maxRecDepth 100000
set_option maxHeartbeats 1000000
namespace K92
open PySem PySem.Spec PyProof.Rows L2 DL
section
variable {P : Program} {w : World} {K : PySem.W.Frag} {mg : Str → Option Value} {base : Heap} {ad : Str → Addr}
abbrev N_law : List Str := ["script", "store", "text", "great", "more", "greater", "told", "lines", "small", "k", "row", "one", "two"]
theorem sc_law : FnScope N_law ["script"] (defScope (top 38)) := ⟨rfl, rfl, rfl, by decide +kernel, rfl, by decide +kernel, by decide +kernel⟩
theorem ok_law (T : Tx K mg ad) {fd : FuncData} (F : FnP K "law" (top 38) (ad "law") fd) : FnG P w K mg base L2.CX0 10 (ad "law") fd ["script"] (sp0 K (cm0 ad) fn_law) := by
  obtain ⟨fd__law_aimed, F__law_aimed⟩ := T.f__law_aimed
  have G__law_aimed := ok__law_aimed (P := P) (w := w) (base := base) T F__law_aimed
  have b__law_aimed : Binds K fd__law_aimed ["lines", "row"] [] := F__law_aimed.bindsN fun _ _ _ _ _ _ us hl => match us, hl with | [_, _], _ => rfl
  obtain ⟨fd__law_asked, F__law_asked⟩ := T.f__law_asked
  have G__law_asked := ok__law_asked (P := P) (w := w) (base := base) T F__law_asked
  have b__law_asked : Binds K fd__law_asked ["text"] [] := F__law_asked.bindsN fun _ _ _ _ _ _ us hl => match us, hl with | [_], _ => rfl
  obtain ⟨fd__law_cell, F__law_cell⟩ := T.f__law_cell
  have G__law_cell := ok__law_cell (P := P) (w := w) (base := base) T F__law_cell
  have b__law_cell : Binds K fd__law_cell ["script", "k"] [] := F__law_cell.bindsN fun _ _ _ _ _ _ us hl => match us, hl with | [_, _], _ => rfl
  obtain ⟨fd__law_digits, F__law_digits⟩ := T.f__law_digits
  have G__law_digits := ok__law_digits (P := P) (w := w) (base := base) T F__law_digits
  have b__law_digits : Binds K fd__law_digits ["cell", "sizes"] [] := F__law_digits.bindsN fun _ _ _ _ _ _ us hl => match us, hl with | [_, _], _ => rfl
  obtain ⟨fd__law_is_text, F__law_is_text⟩ := T.f__law_is_text
  have G__law_is_text := ok__law_is_text (P := P) (w := w) (base := base) T F__law_is_text
  have b__law_is_text : Binds K fd__law_is_text ["told", "due"] [] := F__law_is_text.bindsN fun _ _ _ _ _ _ us hl => match us, hl with | [_, _], _ => rfl
  obtain ⟨fd__law_more, F__law_more⟩ := T.f__law_more
  have G__law_more := ok__law_more (P := P) (w := w) (base := base) T F__law_more
  have b__law_more : Binds K fd__law_more ["store", "row", "great"] [] := F__law_more.bindsN fun _ _ _ _ _ _ us hl => match us, hl with | [_, _, _], _ => rfl
  obtain ⟨fd__law_right, F__law_right⟩ := T.f__law_right
  have G__law_right := ok__law_right (P := P) (w := w) (base := base) T F__law_right
  have b__law_right : Binds K fd__law_right ["text"] [] := F__law_right.bindsN fun _ _ _ _ _ _ us hl => match us, hl with | [_], _ => rfl
  obtain ⟨fd__law_same, F__law_same⟩ := T.f__law_same
  have G__law_same := ok__law_same (P := P) (w := w) (base := base) T F__law_same
  have b__law_same : Binds K fd__law_same ["told", "due"] [] := F__law_same.bindsN fun _ _ _ _ _ _ us hl => match us, hl with | [_, _], _ => rfl
  obtain ⟨fd__law_spoilt, F__law_spoilt⟩ := T.f__law_spoilt
  have G__law_spoilt := ok__law_spoilt (P := P) (w := w) (base := base) T F__law_spoilt
  have b__law_spoilt : Binds K fd__law_spoilt ["lines", "row"] [] := F__law_spoilt.bindsN fun _ _ _ _ _ _ us hl => match us, hl with | [_, _], _ => rfl
  obtain ⟨fd__law_store, F__law_store⟩ := T.f__law_store
  have G__law_store := ok__law_store (P := P) (w := w) (base := base) T F__law_store
  have b__law_store : Binds K fd__law_store ["script"] [] := F__law_store.bindsN fun _ _ _ _ _ _ us hl => match us, hl with | [_], _ => rfl
  obtain ⟨fd__law_text, F__law_text⟩ := T.f__law_text
  have G__law_text := ok__law_text (P := P) (w := w) (base := base) T F__law_text
  have b__law_text : Binds K fd__law_text ["store"] [] := F__law_text.bindsN fun _ _ _ _ _ _ us hl => match us, hl with | [_], _ => rfl
  obtain ⟨fd_format_store, F_format_store⟩ := T.f_format_store
  have G_format_store := ok_format_store (P := P) (w := w) (base := base) T F_format_store
  have b_format_store : Binds K fd_format_store ["store"] [] := F_format_store.bindsN fun _ _ _ _ _ _ us hl => match us, hl with | [_], _ => rfl
  obtain ⟨fd_parse_store, F_parse_store⟩ := T.f_parse_store
  have G_parse_store := ok_parse_store (P := P) (w := w) (base := base) T F_parse_store
  have b_parse_store : Binds K fd_parse_store ["text"] [] := F_parse_store.bindsN fun _ _ _ _ _ _ us hl => match us, hl with | [_], _ => rfl
  refine fnD0 (ps := ["script"]) (N := N_law) F sc_law (fun cdv A outer s H E hG hr => ?_)
  exact (pssv_cons (psv_set (i := 1) (pev_call0 G__law_store rfl hG (hr.mono (by decide)) rfl T.d__law_store F__law_store.kp b__law_store (pav_cons (pev_var (pv 0)) pav_nil)) (fun _ h => ps_set sc_law.nd rfl (Or.inl rfl) h))
  (pssv_cons (psv_set (i := 2) (pev_call0 G__law_text rfl hG (hr.mono (by decide)) rfl T.d__law_text F__law_text.kp b__law_text (pav_cons (pev_var (pv 1)) pav_nil)) (fun _ h => ps_set sc_law.nd rfl (Or.inl rfl) h))
  (pssv_cons (psv_if (PWV.t (pwv_or (ptv_not (ptv_truth (PEV.p (pev_call0 G__law_is_text rfl hG (hr.mono (by decide)) rfl T.d__law_is_text F__law_is_text.kp b__law_is_text (pav_cons (pev_call0 G_format_store rfl hG (hr.mono (by decide)) rfl T.d_format_store F_format_store.kp b_format_store (pav_cons (pev_var (pv 1)) pav_nil)) (pav_cons (pev_var (pv 2)) pav_nil)))) (fun _ => rfl))) (pwv_or1 (ptv_not (ptv_truth (PEV.p (pev_call0 G__law_right rfl hG (hr.mono (by decide)) rfl T.d__law_right F__law_right.kp b__law_right (pav_cons (pev_var (pv 2)) pav_nil))) (fun _ => rfl))))))
  (pssv_one (psv_ret pev_bl))
  (pssv_nil pss_nil))
  (pssv_cons (psv_if (PWV.t (pwv_or (ptv_not (ptv_truth (PEV.p (pev_call0 G__law_is_text rfl hG (hr.mono (by decide)) rfl T.d__law_is_text F__law_is_text.kp b__law_is_text (pav_cons (pev_call0 G_format_store rfl hG (hr.mono (by decide)) rfl T.d_format_store F_format_store.kp b_format_store (pav_cons (pev_tup pav_nil) pav_nil)) (pav_cons pev_str pav_nil)))) (fun _ => rfl))) (pwv_or (ptv_not (ptv_truth (PEV.p (pev_call0 G__law_right rfl hG (hr.mono (by decide)) rfl T.d__law_right F__law_right.kp b__law_right (pav_cons pev_str pav_nil))) (fun _ => rfl))) (pwv_or1 (ptv_not (ptv_truth (PEV.p (pev_call0 G__law_right rfl hG (hr.mono (by decide)) rfl T.d__law_right F__law_right.kp b__law_right (pav_cons pev_str pav_nil))) (fun _ => rfl)))))))
  (pssv_one (psv_ret pev_bl))
  (pssv_nil pss_nil))
  (pssv_cons (psv_set (i := 3) (pev_op op_addU rop_add (fun _ _ _ => of_nx) (PEV.p (pev_op op_pow rop_pow (fun _ _ _ => of_nx) (PEV.p pev_int) (PEV.p pev_int))) (PEV.p (pev_op op_mod rop_mod (fun _ _ _ => of_nx) (PEV.p (pev_callTy call_intU rcl_int (fun _ _ => of_nx) rfl T.n_int (by rfl) (pqv_cons (PEV.p (pev_call0 G__law_cell rfl hG (hr.mono (by decide)) rfl T.d__law_cell F__law_cell.kp b__law_cell (pav_cons (pev_var (pv 0)) (pav_cons pev_int pav_nil)))) pqv_nil))) (PEV.p (pev_op op_pow rop_pow (fun _ _ _ => of_nx) (PEV.p pev_int) (PEV.p pev_int)))))) (fun _ h => ps_set sc_law.nd rfl (Or.inl rfl) h))
  (pssv_cons (psv_set (i := 4) (pev_call0 G__law_more rfl hG (hr.mono (by decide)) rfl T.d__law_more F__law_more.kp b__law_more (pav_cons (pev_var (pv 1)) (pav_cons (pev_call0 G__law_digits rfl hG (hr.mono (by decide)) rfl T.d__law_digits F__law_digits.kp b__law_digits (pav_cons (pev_call0 G__law_cell rfl hG (hr.mono (by decide)) rfl T.d__law_cell F__law_cell.kp b__law_cell (pav_cons (pev_var (pv 0)) (pav_cons pev_int pav_nil))) (pav_cons (PEV.v (pef_lst (pav_cons pev_int (pav_cons pev_int (pav_cons pev_int (pav_cons pev_int (pav_cons pev_int (pav_cons pev_int pav_nil)))))))) pav_nil))) (pav_cons (pev_var (pv 3)) pav_nil)))) (fun _ h => ps_set sc_law.nd rfl (Or.inl rfl) h))
  (pssv_cons (psv_set (i := 5) (pev_call0 G__law_text rfl hG (hr.mono (by decide)) rfl T.d__law_text F__law_text.kp b__law_text (pav_cons (pev_var (pv 4)) pav_nil)) (fun _ h => ps_set sc_law.nd rfl (Or.inl rfl) h))
  (pssv_cons (psv_set (i := 6) (pev_call0 G__law_asked rfl hG (hr.mono (by decide)) rfl T.d__law_asked F__law_asked.kp b__law_asked (pav_cons (pev_var (pv 5)) pav_nil)) (fun _ h => ps_set sc_law.nd rfl (Or.inl rfl) h))
  (pssv_cons (psv_if (PWV.t (pwv_or (ptv_cmp (op_neU (hu64 hr)) rop_ne (fun _ _ _ => of_nx) (PEV.p (pev_ix ix_seq rop_ix (fun _ _ _ => of_nx) (pep_var (pv 6)) (PEV.p pev_int) (fun _ _ => rfl))) (PEV.p pev_str) (nomark _)) (pwv_or (ptv_not (ptv_truth (PEV.p (pev_call0 G__law_same rfl hG (hr.mono (by decide)) rfl T.d__law_same F__law_same.kp b__law_same (pav_cons (pev_ix ix_seq rop_ix (fun _ _ _ => of_nx) (pep_var (pv 6)) (PEV.p pev_int) (fun _ _ => rfl)) (pav_cons (pev_var (pv 4)) pav_nil)))) (fun _ => rfl))) (pwv_or1 (ptv_not (ptv_truth (PEV.p (pev_call0 G__law_is_text rfl hG (hr.mono (by decide)) rfl T.d__law_is_text F__law_is_text.kp b__law_is_text (pav_cons (pev_call0 G_format_store rfl hG (hr.mono (by decide)) rfl T.d_format_store F_format_store.kp b_format_store (pav_cons (pev_ix ix_seq rop_ix (fun _ _ _ => of_nx) (pep_var (pv 6)) (PEV.p pev_int) (fun _ _ => rfl)) pav_nil)) (pav_cons (pev_var (pv 5)) pav_nil)))) (fun _ => rfl)))))))
  (pssv_one (psv_ret pev_bl))
  (pssv_nil pss_nil))
  (pssv_cons (psv_set (i := 7) (PEV.v (pev_bm PySem.F.plainAttrs_str PySem.F.slot_str_split PySem.F.type_str_split rty_str mt_split rmt_split (fun _ _ _ => of_nx) (pep_var (pv 5)) (pqv_cons (PEV.p pev_str) pqv_nil))) (fun _ h => ps_set sc_law.nd rfl (Or.inl rfl) h))
  (pssv_cons (psv_set (i := 8) (PEV.v (pev_bm PySem.F.plainAttrs_str PySem.F.slot_str_split PySem.F.type_str_split rty_str mt_split rmt_split (fun _ _ _ => of_nx) (pep_var (pv 2)) (pqv_cons (PEV.p pev_str) pqv_nil))) (fun _ h => ps_set sc_law.nd rfl (Or.inl rfl) h))
  (pssv_cons (psv_if (ptv_not (ptv_truth (PEV.p (pev_call0 G__law_right rfl hG (hr.mono (by decide)) rfl T.d__law_right F__law_right.kp b__law_right (pav_cons (pev_op op_addU rop_add (fun _ _ _ => of_nx) (pep_var (pv 5)) (PEV.p pev_str)) pav_nil))) (fun _ => rfl)))
  (pssv_one (psv_ret pev_bl))
  (pssv_nil pss_nil))
  (pssv_cons (psv_for PassesOwn.never rfl (piv_range1 rfl T.n_range (PEV.p pev_int)) (pgv_name (i := 9) (pg_name sc_law.nd rfl (Or.inl rfl)))
  (pssv_cons (psv_set (i := 10) (pev_call0 G__law_digits rfl hG (hr.mono (by decide)) rfl T.d__law_digits F__law_digits.kp b__law_digits (pav_cons (pev_call0 G__law_cell rfl hG (hr.mono (by decide)) rfl T.d__law_cell F__law_cell.kp b__law_cell (pav_cons (pev_var (pv 0)) (pav_cons (pev_op op_addU rop_add (fun _ _ _ => of_nx) (PEV.p pev_int) (pep_var (pv 9))) pav_nil))) (pav_cons (PEV.v (pef_lst (pav_cons pev_int (pav_cons pev_int (pav_cons pev_int (pav_cons pev_int (pav_cons pev_int (pav_cons pev_int (pav_cons pev_int (pav_cons pev_int pav_nil)))))))))) pav_nil))) (fun _ h => ps_set sc_law.nd rfl (Or.inl rfl) h))
  (pssv_cons (psv_set (i := 11) (pev_call0 G__law_spoilt rfl hG (hr.mono (by decide)) rfl T.d__law_spoilt F__law_spoilt.kp b__law_spoilt (pav_cons (pev_ix ix_seq rop_ix (fun _ _ _ => of_nx) (PEV.fp (pef_lst (pav_cons (pev_var (pv 7)) (pav_cons (pev_var (pv 7)) (pav_cons (pev_var (pv 7)) (pav_cons (pev_var (pv 8)) (pav_cons (pev_var (pv 8)) (pav_cons (pev_slice sl_U rsl_slice (fun _ _ _ _ => of_nx) (pep_var (pv 8)) pov_none (pov_some (PEV.p pev_int))) pav_nil)))))))) (pep_var (pv 9)) (fun _ _ => rfl)) (pav_cons (pev_slice sl_U rsl_slice (fun _ _ _ _ => of_nx) (pep_var (pv 10)) pov_none (pov_some (PEV.p pev_int))) pav_nil))) (fun _ h => ps_set sc_law.nd rfl (Or.inl rfl) h))
  (pssv_cons (psv_set (i := 12) (pev_call0 G__law_aimed rfl hG (hr.mono (by decide)) rfl T.d__law_aimed F__law_aimed.kp b__law_aimed (pav_cons (pev_if (ptv_cmp (op_eqU (hu64 hr)) rop_eq (fun _ _ _ => of_nx) (pep_var (pv 9)) (PEV.p pev_int) (nomark _)) (pev_var (pv 7)) (pev_var (pv 8))) (pav_cons (pev_slice sl_U rsl_slice (fun _ _ _ _ => of_nx) (pep_var (pv 10)) (pov_some (PEV.p pev_int)) pov_none) pav_nil))) (fun _ h => ps_set sc_law.nd rfl (Or.inl rfl) h))
  (pssv_cons (psv_if (ptv_cmp (op_inU (hu65 hr)) rop_in (fun _ _ _ => of_nx) (pep_var (pv 9)) (PEV.fp (pef_lst (pav_cons pev_int (pav_cons pev_int pav_nil)))) rfl)
  (pssv_one (psv_set (i := 11) (pev_call0 G__law_aimed rfl hG (hr.mono (by decide)) rfl T.d__law_aimed F__law_aimed.kp b__law_aimed (pav_cons (pev_var (pv 11)) (pav_cons (pev_slice sl_U rsl_slice (fun _ _ _ _ => of_nx) (pep_var (pv 10)) (pov_some (PEV.p pev_int)) pov_none) pav_nil))) (fun _ h => ps_set sc_law.nd rfl (Or.inl rfl) h)))
  (pssv_nil pss_nil))
  (pssv_one (psv_if (PWV.t (pwv_or (ptv_not (ptv_truth (PEV.p (pev_call0 G__law_right rfl hG (hr.mono (by decide)) rfl T.d__law_right F__law_right.kp b__law_right (pav_cons (pev_bm PySem.F.plainAttrs_str PySem.F.slot_str_join PySem.F.type_str_join rty_str mt_join rmt_join (fun _ _ _ => of_nx) (PEV.p pev_str) (pqv_cons (pep_var (pv 11)) pqv_nil)) pav_nil))) (fun _ => rfl))) (pwv_or1 (ptv_not (ptv_truth (PEV.p (pev_call0 G__law_right rfl hG (hr.mono (by decide)) rfl T.d__law_right F__law_right.kp b__law_right (pav_cons (pev_bm PySem.F.plainAttrs_str PySem.F.slot_str_join PySem.F.type_str_join rty_str mt_join rmt_join (fun _ _ _ => of_nx) (PEV.p pev_str) (pqv_cons (pep_var (pv 12)) pqv_nil)) pav_nil))) (fun _ => rfl))))))
  (pssv_one (psv_ret pev_bl))
  (pssv_nil pss_nil))))))))
  (pssv_one (psv_ret (pev_and (PEV.p (pev_call0 G__law_right rfl hG (hr.mono (by decide)) rfl T.d__law_right F__law_right.kp b__law_right (pav_cons (pev_var (pv 2)) pav_nil))) (pev_one (pev_call0 G__law_same rfl hG (hr.mono (by decide)) rfl T.d__law_same F__law_same.kp b__law_same (pav_cons (pev_callN G_parse_store rfl hG (hr.mono (by decide)) rfl T.d_parse_store F_parse_store.kp b_parse_store (pav_cons (pev_var (pv 5)) pav_nil)) (pav_cons (pev_var (pv 4)) pav_nil))))))))))))))))))))
end
end K92
end
section
set_option Elab.async false
set_option linter.all false
set_option maxRecDepth 100000
set_option maxHeartbeats 1000000
/-! P0: the combinators, read by simp. -/
namespace DL
open PySem PySem.Spec PyProof.Rows L2
@[simp] theorem of_some {α : Type} (a : α) : Res.of (some a) = .ok a := rfl
@[simp] theorem of_none {α : Type} : Res.of (none : Option α) = .bad := rfl
@[simp] theorem noex_bad {α : Type} : noex (.bad : Res α) = .bad := rfl
@[simp] theorem noex_ex {α : Type} (e : Exn) : noex (.ex e : Res α) = .bad := rfl
theorem gdt {α : Type} {c : Bool} {a : α} (h : c = true) : gd c a = some a := by rw [h] <;> rfl
/-- slots -/
@[simp] theorem eV_get (i : Nat) (ρ : Rho) : eV i ρ = match ρ[i]? with
  | some (.d x) => .ok x
  | _ => .bad := rfl
@[simp] theorem eP_get (i : Nat) (ρ : Rho) : eP i ρ = match ρ[i]? with
  | some (.d x) => .ok x
  | some (.o xs) => .ok (.list xs)
  | _ => .bad := rfl
@[simp] theorem eC_get (d : PyData) (ρ : Rho) : eC d ρ = .ok d := rfl
@[simp] theorem e1_get (g : PyData → Res PyData) (f : Rho → Res PyData) (ρ : Rho) : e1 g f ρ = (f ρ).bind g := rfl
@[simp] theorem o1_get (g : PyData → Option PyData) (f : Rho → Res PyData) (ρ : Rho) : o1 g f ρ = (f ρ).bind fun a => .of (g a) := rfl
@[simp] theorem o2_get (g : PyData → PyData → Option PyData) (f h : Rho → Res PyData) (ρ : Rho) : o2 g f h ρ = (f ρ).bind fun a => (h ρ).bind fun b => .of (g a b) := rfl
@[simp] theorem aN_get (ρ : Rho) : aN ρ = .ok [] := rfl
@[simp] theorem aC_get (f : Rho → Res PyData) (g : Rho → Res (List PyData)) (ρ : Rho) : aC f g ρ = (f ρ).bind fun a => (g ρ).bind fun as => .ok (a :: as) := rfl
@[simp] theorem eA_get (g : List PyData → Res PyData) (f : Rho → Res (List PyData)) (ρ : Rho) : eA g f ρ = (f ρ).bind g := rfl
@[simp] theorem oA_get (g : List PyData → Option PyData) (f : Rho → Res (List PyData)) (ρ : Rho) : oA g f ρ = (f ρ).bind fun as => .of (g as) := rfl
@[simp] theorem oM_get (sh : PyData → Bool) (g : PyData → List PyData → Option PyData) (f : Rho → Res PyData) (h : Rho → Res (List PyData)) (ρ : Rho) : oM sh g f h ρ = (f ρ).bind fun a => if sh a = true then (h ρ).bind fun as => .of (g a as) else .bad := rfl
@[simp] theorem tV_get (g : PyData → Res Bool) (f : Rho → Res PyData) (ρ : Rho) : tV g f ρ = (f ρ).bind g := rfl
@[simp] theorem tA_get (f g : Rho → Res Bool) (ρ : Rho) : tA f g ρ = (f ρ).bind fun c => if c = true then g ρ else .ok false := rfl
@[simp] theorem tO_get (f g : Rho → Res Bool) (ρ : Rho) : tO f g ρ = (f ρ).bind fun c => if c = true then .ok true else g ρ := rfl
@[simp] theorem tN_get (f : Rho → Res Bool) (ρ : Rho) : tN f ρ = (f ρ).bind fun c => .ok (!c) := rfl
@[simp] theorem eIf_get (c : Rho → Res Bool) (f g : Rho → Res PyData) (ρ : Rho) : eIf c f g ρ = (c ρ).bind fun b => if b = true then f ρ else g ρ := rfl
@[simp] theorem eAnd_get (f g : Rho → Res PyData) (ρ : Rho) : eAnd f g ρ = (f ρ).bind fun a => match a with
  | .bool c => if c = true then g ρ else .ok (.bool false)
  | _ => .bad := rfl
@[simp] theorem eOr_get (f g : Rho → Res PyData) (ρ : Rho) : eOr f g ρ = (f ρ).bind fun a => match a with
  | .bool c => if c = true then .ok (.bool true) else g ρ
  | _ => .bad := rfl
@[simp] theorem eNot_get (f : Rho → Res PyData) (ρ : Rho) : eNot f ρ = (f ρ).bind fun a => match a with
  | .bool c => .ok (.bool (!c))
  | _ => .bad := rfl
@[simp] theorem oN_get (ρ : Rho) : oN ρ = .ok none := rfl
@[simp] theorem oS_get (f : Rho → Res PyData) (ρ : Rho) : oS f ρ = (f ρ).bind fun a => match a with
  | .int i => .ok (some i)
  | _ => .bad := rfl
@[simp] theorem oSl_get (g : PyData → Option Int → Option Int → Option PyData) (f : Rho → Res PyData) (lo hi : Rho → Res (Option Int)) (ρ : Rho) : oSl g f lo hi ρ = (f ρ).bind fun a => (lo ρ).bind fun l => (hi ρ).bind fun h => .of (g a l h) := rfl
/-- statements -/
@[simp] theorem sNext_get (ρ : Rho) : sNext ρ = .nx ρ := rfl
@[simp] theorem sSeq_get (F G : Rho → Out) (ρ : Rho) : sSeq F G ρ = match F ρ with
  | .nx ρ' => G ρ'
  | r => r := rfl
@[simp] theorem sIf_get (c : Rho → Res Bool) (F G : Rho → Out) (ρ : Rho) : sIf c F G ρ = (c ρ).out ρ fun b => if b = true then F ρ else G ρ := rfl
@[simp] theorem sRet_get (e : Rho → Res PyData) (ρ : Rho) : sRet e ρ = (e (ρ.map frz1)).out (ρ.map frz1) .rt := rfl
@[simp] theorem sAsg_get (e : Rho → Res PyData) (γ : PyData → Rho → Option Rho) (ρ : Rho) : sAsg e γ ρ = (e ρ).out ρ fun d => match γ d ρ with
  | some ρ' => .nx ρ'
  | none => .bad := rfl
@[simp] theorem gNm_get (i : Nat) (d : PyData) (ρ : Rho) : gNm i d ρ = some (ρ.set i (.d d)) := rfl
@[simp] theorem gsN_get (ρ : Rho) : gsN [] ρ = some ρ := rfl
@[simp] theorem gsC_get (γ : PyData → Rho → Option Rho) (δ : List PyData → Rho → Option Rho) (d : PyData) (r : List PyData) (ρ : Rho) : gsC γ δ (d :: r) ρ = match γ d ρ with
  | some ρ' => δ r ρ'
  | none => none := rfl
@[simp] theorem gTp_get (n : Nat) (δ : List PyData → Rho → Option Rho) (ds : List PyData) (ρ : Rho) : gTp n δ (.tuple ds) ρ = if ds.length = n then δ ds ρ else none := rfl
@[simp] theorem sAsgO_get (i : Nat) (e : Rho → Res PyData) (ρ : Rho) : sAsgO i e ρ = (e ρ).out ρ fun d => match d with
  | .list xs => if i < ρ.length then .nx (ρ.set i (.o xs)) else .bad
  | _ => .bad := rfl
@[simp] theorem sApp_get (i : Nat) (e : Rho → Res PyData) (ρ : Rho) : sApp i e ρ = match ρ[i]? with
  | some (.o xs) => (e ρ).out ρ fun d => if xs.length < sizeLine then .nx (ρ.set i (.o (xs ++ [d]))) else .bad
  | _ => .bad := rfl
@[simp] theorem sFor_get (it : Rho → Res (List PyData)) (γ : PyData → Rho → Option Rho) (F : Rho → Out) (ρ : Rho) : sFor it γ F ρ = (it ρ).out ρ fun ds => forL γ F ds ρ := rfl
@[simp] theorem iAll_get (f : Rho → Res PyData) (ρ : Rho) : iAll f ρ = (f ρ).bind dItems := rfl
@[simp] theorem iRange1_get (f : Rho → Res PyData) (ρ : Rho) : iRange1 f ρ = (f ρ).bind dRng1 := rfl
@[simp] theorem dItems_list (xs : List PyData) : dItems (.list xs) = .ok xs := rfl
@[simp] theorem dItems_tup (xs : List PyData) : dItems (.tuple xs) = .ok xs := rfl
@[simp] theorem dItems_str (z : Str) : dItems (.str z) = .ok (z.cps.toList.map fun c => .str ⟨#[c]⟩) := rfl
@[simp] theorem frz1_d (x : PyData) : frz1 (.d x) = .d x := rfl
@[simp] theorem frz1_u : frz1 .u = .u := rfl
@[simp] theorem frz1_o (xs : List PyData) : frz1 (.o xs) = .d (.list xs) := rfl
/-- operators -/
@[simp] theorem dBool_b (b : Bool) : dBool (.bool b) = .ok b := rfl
@[simp] theorem dTruth_b (b : Bool) : dTruth (.bool b) = .ok b := rfl
theorem bd {α : Type} [DecidableEq α] [BEq α] [LawfulBEq α] (i j : α) : (i == j) = decide (i = j) := by
  by_cases h : i = j
  · rw [decide_eq_true h, h, beq_self_eq_true]
  · rw [decide_eq_false h, beq_eq_false_iff_ne.mpr h]
@[simp] theorem dEq_ii (i j : Int) : dEq (.int i) (.int j) = some (.bool (decide (i = j))) := by
  unfold dEq
  rw [gdt (by rfl)]
  simp only [PyData.eqv, bd]
@[simp] theorem dEq_ss (i j : Str) : dEq (.str i) (.str j) = some (.bool (decide (i = j))) := by
  unfold dEq
  rw [gdt (by rfl)]
  simp only [PyData.eqv, bd]
@[simp] theorem dNe_ii (i j : Int) : dNe (.int i) (.int j) = some (.bool (!decide (i = j))) := by
  unfold dNe
  rw [gdt (by rfl)]
  simp only [PyData.eqv, bd]
@[simp] theorem dNe_ss (i j : Str) : dNe (.str i) (.str j) = some (.bool (!decide (i = j))) := by
  unfold dNe
  rw [gdt (by rfl)]
  simp only [PyData.eqv, bd]
@[simp] theorem dLt_ii (i j : Int) : dLt (.int i) (.int j) = some (.bool (decide (i < j))) := rfl
@[simp] theorem dLt_ss (i j : Str) : dLt (.str i) (.str j) = some (.bool (decide (i.cps.toList < j.cps.toList))) := rfl
@[simp] theorem dLe_ii (i j : Int) : dLe (.int i) (.int j) = some (.bool (decide (i ≤ j))) := rfl
@[simp] theorem dLe_ss (i j : Str) : dLe (.str i) (.str j) = some (.bool (!decide (j.cps.toList < i.cps.toList))) := rfl
@[simp] theorem dGt_ii (i j : Int) : dGt (.int i) (.int j) = some (.bool (decide (j < i))) := rfl
@[simp] theorem dGe_ii (i j : Int) : dGe (.int i) (.int j) = some (.bool (decide (j ≤ i))) := rfl
@[simp] theorem dIs_n (a : PyData) : dIs a .none = some (.bool (isNoneD a)) := rfl
@[simp] theorem dIsNot_n (a : PyData) : dIsNot a .none = some (.bool (!isNoneD a)) := rfl
@[simp] theorem isNone_n : isNoneD .none = true := rfl
@[simp] theorem isNone_t (xs : List PyData) : isNoneD (.tuple xs) = false := rfl
@[simp] theorem dAdd_ii (i j : Int) : dAdd (.int i) (.int j) = some (.int (i + j)) := rfl
theorem dAdd_ss (i j : Str) (h : i.length + j.length ≤ sizeLine) : dAdd (.str i) (.str j) = some (.str (i ++ j)) := gdt (decide_eq_true h)
theorem dAdd_tt (i j : List PyData) (h : i.length + j.length ≤ sizeLine) : dAdd (.tuple i) (.tuple j) = some (.tuple (i ++ j)) := gdt (decide_eq_true h)
theorem dAdd_ll (i j : List PyData) (h : i.length + j.length ≤ sizeLine) : dAdd (.list i) (.list j) = some (.list (i ++ j)) := gdt (decide_eq_true h)
@[simp] theorem dSub_ii (i j : Int) : dSub (.int i) (.int j) = some (.int (i - j)) := rfl
theorem dLen_s (s : Str) (h : s.length ≤ sizeLine) : dLen [.str s] = some (.int s.length) := gdt (decide_eq_true h)
@[simp] theorem dLen_l (xs : List PyData) : dLen [.list xs] = some (.int xs.length) := rfl
@[simp] theorem dLen_t (xs : List PyData) : dLen [.tuple xs] = some (.int xs.length) := rfl
@[simp] theorem dInt_i (i : Int) : dInt [.int i] = some (.int i) := rfl
@[simp] theorem dTupOf_l (xs : List PyData) : dTupOf [.list xs] = some (.tuple xs) := rfl
@[simp] theorem dTupOf_t (xs : List PyData) : dTupOf [.tuple xs] = some (.tuple xs) := rfl
@[simp] theorem dListOf_l (xs : List PyData) : dListOf [.list xs] = some (.list xs) := rfl
@[simp] theorem dListOf_t (xs : List PyData) : dListOf [.tuple xs] = some (.list xs) := rfl
@[simp] theorem isStr_s (s : Str) : isStrD (.str s) = true := rfl
theorem in_sign (c : Nat) (z : Str) : dIn (.str ⟨#[c]⟩) (.str z) = some (.bool (decide (c ∈ z.cps.toList))) := rfl
theorem notin_sign (c : Nat) (z : Str) : dNotIn (.str ⟨#[c]⟩) (.str z) = some (.bool (!decide (c ∈ z.cps.toList))) := rfl
theorem dTup_ok (ds : List PyData) (h : ds.length ≤ sizeLine) : dTup ds = .ok (.tuple ds) := if_pos h
theorem dLst_ok (ds : List PyData) (h : ds.length ≤ sizeLine) : dLst ds = .ok (.list ds) := if_pos h
theorem dIx_str0 (s : Str) (c : Nat) (r : List Nat) (h : s.length ≤ sizeLine) (e : s.cps.toList = c :: r) : dIx (.str s) (.int 0) = some (.str ⟨#[c]⟩) := by
  show (if s.length ≤ sizeLine then (L2.atI s.cps.toList 0).map fun c => PyData.str ⟨#[c]⟩ else none) = _
  rw [if_pos h, e]
  simp [L2.atI, L2.ixN]
/-! ### loops -/
theorem forL_nil {γ : PyData → Rho → Option Rho} {F : Rho → Out} {ρ : Rho} : forL γ F [] ρ = .nx ρ := rfl
theorem forL_cons {γ : PyData → Rho → Option Rho} {F : Rho → Out} {d : PyData} {ds : List PyData} {ρ ρ1 : Rho} (h : γ d ρ = some ρ1) : forL γ F (d :: ds) ρ = (match F ρ1 with
      | .nx ρ2 => forL γ F ds ρ2
      | .ct ρ2 => forL γ F ds ρ2
      | .bk ρ2 => .nx ρ2
      | r => r) := by
  rw [forL, h] <;> rfl
/-- the loop's slot behind the loop -/
def lastS {α : Type} (i : Nat) (f : α → PyData) : List α → Rho → Rho
  | [], ρ => ρ
  | a :: l, ρ => lastS i f l (ρ.set i (.d (f a)))
/-- for x in ..: if p(x): return r -/
theorem for_ret {α : Type} {i : Nat} {F : Rho → Out} (f : α → PyData) (p : α → Bool) (r : PyData) : ∀ {l : List α} {ρ : Rho}, (∀ a ∈ l, F (ρ.set i (.d (f a))) = if p a = true then .rt r else .nx (ρ.set i (.d (f a)))) →
    forL (gNm i) F (l.map f) ρ = if l.any p = true then .rt r else .nx (lastS i f l ρ)
  | [], ρ, _ => rfl
  | d :: ds, ρ, h => by
    have h1 := h d List.mem_cons_self
    rw [List.map_cons, forL_cons (gNm_get i (f d) ρ), h1]
    by_cases c : p d = true
    · rw [if_pos c, List.any_cons, c]
      rfl
    · rw [if_neg c]
      have hs : ∀ d', (ρ.set i (Sl.d (f d))).set i (Sl.d d') = ρ.set i (Sl.d d') := fun d' => List.set_set _
      have ih := for_ret f p r (i := i) (F := F) (l := ds) (ρ := ρ.set i (.d (f d))) fun d' hd => by
        rw [hs]
        exact h d' (List.mem_cons_of_mem _ hd)
      have c' : p d = false := by simpa using c
      show forL (gNm i) F (ds.map f) (ρ.set i (.d (f d))) = _
      rw [ih, List.any_cons, c', Bool.false_or]
      rfl
end DL
end
section
set_option Elab.async false
set_option linter.all false
set_option maxRecDepth 100000
set_option maxHeartbeats 1000000
namespace K92
open PySem PySem.Spec PyProof.Rows L2 DL
/-! ### words -/
def isLet (c : Nat) : Bool := decide (c ∈ (Str.ofString "abcdefghijklmnopqrstuvwxyz").cps.toList)
def isFig (c : Nat) : Bool := decide (c ∈ (Str.ofString "0123456789").cps.toList)
theorem nin_let (c : Nat) : dNotIn (.str ⟨#[c]⟩) (.str (Str.ofString "abcdefghijklmnopqrstuvwxyz")) = some (.bool (!isLet c)) := rfl
theorem nin_fig (c : Nat) : dNotIn (.str ⟨#[c]⟩) (.str (Str.ofString "0123456789")) = some (.bool (!isFig c)) := rfl
def isWord (s : Str) (m : Int) : Bool := match s.cps.toList with
  | [] => false
  | c :: r => !(decide (m < s.length)) && (isLet c && (c :: r).all fun c => isLet c || isFig c)
theorem len0 (s : Str) (e : s.cps.toList = []) : s.length = 0 := by
  show s.cps.size = 0
  rw [← Array.length_toList, e]
  rfl
theorem len1 (s : Str) {c : Nat} {r : List Nat} (e : s.cps.toList = c :: r) : s.length = r.length + 1 := by
  show s.cps.size = _
  rw [← Array.length_toList, e]
  rfl
def sgn (c : Nat) : PyData := .str ⟨#[c]⟩
def bad2 (c : Nat) : Bool := !isLet c && !isFig c
theorem bad_all (l : List Nat) : l.any bad2 = !(l.all fun c => isLet c || isFig c) := by
  induction l with
  | nil => rfl
  | cons c l ih =>
    rw [List.any_cons, List.all_cons, ih]
    show ((!isLet c && !isFig c) || _) = _
    cases isLet c <;> cases isFig c <;> simp
theorem isWord_nil {s : Str} {m : Int} (e : s.cps.toList = []) : isWord s m = false := by unfold isWord; rw [e]
theorem isWord_cons {s : Str} {m : Int} {c : Nat} {r : List Nat} (e : s.cps.toList = c :: r) : isWord s m = (!(decide (m < s.length)) && (isLet c && !(s.cps.toList.any bad2))) := by
  unfold isWord
  rw [bad_all, e, Bool.not_not]
theorem ev_is_word (s : Str) (m : Int) (h : s.length ≤ sizeLine) : fn_is_word [.str s, .int m] = .ok (.bool (isWord s m)) := by
  unfold fn_is_word runD F_is_word
  cases e : s.cps.toList with
  | nil => simp [dLen_s s h, len0 s e, isWord_nil e]
  | cons c r =>
    have hl : ¬ s.length = 0 := by rw [len1 s e]; omega
    have hw := isWord_cons (m := m) e
    by_cases hm : m < s.length
    · rw [hw]; simp [dLen_s s h, hl, hm]
    · cases hc : isLet c with
      | false => rw [hw]; simp [dLen_s s h, hl, hm, dIx_str0 s c r h e, nin_let, hc]
      | true =>
        simp [dLen_s s h, hl, hm, dIx_str0 s c r h e, nin_let, hc]
        rw [for_ret (fun c => PyData.str ⟨#[c]⟩) bad2 (.bool false) fun c' _ => by
          unfold bad2
          cases h1 : isLet c' <;> cases h2 : isFig c' <;> simp [nin_let, nin_fig, h1, h2]]
        rw [hw, hc, decide_eq_false hm]
        cases s.cps.toList.any bad2 <;> simp
theorem ev_is_table_name (s : Str) (h : s.length ≤ sizeLine) : fn_is_table_name [.str s] = .ok (.bool (isWord s 8)) := by
  unfold fn_is_table_name runD F_is_table_name
  simp [ev_is_word s 8 h]
theorem ev_law_is_name (s : Str) (m : Int) (h : s.length ≤ sizeLine) : fn__law_is_name [.str s, .int m] = .ok (.bool (isWord s m)) := by
  unfold fn__law_is_name runD F__law_is_name
  cases e : s.cps.toList with
  | nil =>
    have h0 : s = Str.ofString "" := by
      obtain ⟨a⟩ := s
      have : a.toList = [] := e
      rw [Array.toList_eq_nil_iff] at this
      rw [this]
      rfl
    simp [h0, isWord_nil (s := Str.ofString "") (m := m) rfl]
  | cons c r =>
    have hl : ¬ s = Str.ofString "" := fun z => by rw [z] at e; cases e
    have hw := isWord_cons (m := m) e
    by_cases hm : m < s.length
    · rw [hw]; simp [dLen_s s h, hl, hm]
    · cases hc : isLet c with
      | false => rw [hw]; simp [dLen_s s h, hl, hm, dIx_str0 s c r h e, nin_let, hc]
      | true =>
        simp [dLen_s s h, hl, hm, dIx_str0 s c r h e, nin_let, hc]
        rw [for_ret (fun c => PyData.str ⟨#[c]⟩) bad2 (.bool false) fun c' _ => by
          unfold bad2
          cases h1 : isLet c' <;> cases h2 : isFig c' <;> simp [nin_let, nin_fig, h1, h2]]
        rw [hw, hc, decide_eq_false hm]
        cases s.cps.toList.any bad2 <;> simp
/-! ### numbers -/
/-- a number as it is told: figures, no needless zero ahead -/
def isNum (s : Str) : Bool := match s.cps.toList with
  | [] => false
  | c :: r => !(decide (c = 48) && !r.isEmpty) && (c :: r).all isFig
def val (s : Str) : Int := (NumText.digitsVal s.cps.toList : Nat)
end K92
end
section
set_option Elab.async false
set_option linter.all false
set_option maxRecDepth 100000
set_option maxHeartbeats 1000000
namespace K92
open PySem PySem.Spec PyProof.Rows L2 DL
theorem figs : (Str.ofString "0123456789").cps.toList = [48, 49, 50, 51, 52, 53, 54, 55, 56, 57] := by decide +kernel
theorem isFig_iff (c : Nat) : isFig c = true ↔ 48 ≤ c ∧ c ≤ 57 := by
  unfold isFig
  rw [decide_eq_true_eq, figs]
  simp only [List.mem_cons, List.not_mem_nil, or_false]
  omega
theorem num_text {s : Str} (h : isNum s = true) (hl : s.length ≤ 640) : PySem.intText? s = some (val s) := by
  unfold isNum at h
  cases e : s.cps.toList with
  | nil => rw [e] at h; cases h
  | cons c r =>
    rw [e] at h
    simp only [Bool.and_eq_true] at h
    refine intText_digits (fun d hd => ?_) (by rw [e]; exact List.cons_ne_nil _ _) (by omega)
    rw [e] at hd
    exact (isFig_iff d).mp (List.all_eq_true.mp h.2 d hd)
def bad1 (c : Nat) : Bool := !isFig c
theorem bad1_all (l : List Nat) : l.any bad1 = !(l.all isFig) := by
  induction l with
  | nil => rfl
  | cons c l ih =>
    rw [List.any_cons, List.all_cons, ih]
    unfold bad1
    cases isFig c <;> simp
theorem isNum_nil {s : Str} (e : s.cps.toList = []) : isNum s = false := by unfold isNum; rw [e]
theorem isNum_cons {s : Str} {c : Nat} {r : List Nat} (e : s.cps.toList = c :: r) : isNum s = (!(decide (c = 48) && !r.isEmpty) && !(s.cps.toList.any bad1)) := by
  unfold isNum
  rw [bad1_all, e, Bool.not_not]
theorem zero_eq (c : Nat) : ((⟨#[c]⟩ : Str) = Str.ofString "0") ↔ c = 48 := by
  constructor
  · intro h
    have e : (Str.ofString "0") = ⟨#[48]⟩ := by decide +kernel
    rw [e] at h
    injection h with h
    have := congrArg Array.toList h
    simpa using this
  · rintro rfl
    decide +kernel
theorem ev_is_number_text (s : Str) (h : s.length ≤ sizeLine) : fn_is_number_text [.str s] = .ok (.bool (isNum s)) := by
  unfold fn_is_number_text runD F_is_number_text
  cases e : s.cps.toList with
  | nil => simp [dLen_s s h, len0 s e, isNum_nil e]
  | cons c r =>
    have hl : ¬ s.length = 0 := by rw [len1 s e]; omega
    have hw := isNum_cons e
    have hloop : ∀ ρ : Rho, ρ.length = 2 → forL (gNm 1) (sIf (tV dBool (o2 dNotIn (eP 1) (eC (.str "0123456789")))) (sRet (eC (.bool false))) sNext) (s.cps.toList.map fun c => PyData.str ⟨#[c]⟩) ρ = if s.cps.toList.any bad1 = true then .rt (.bool false) else .nx (lastS 1 (fun c => PyData.str ⟨#[c]⟩) s.cps.toList ρ) := fun ρ hρ => for_ret (fun c => PyData.str ⟨#[c]⟩) bad1 (.bool false) fun c' _ => by
      unfold bad1
      cases h1 : isFig c' <;> simp [nin_fig, h1, hρ]
    by_cases h1 : (1 : Int) < s.length
    · have hr : r.isEmpty = false := by
        have h1 := h1; rw [len1 s e] at h1
        cases r with
        | nil => simp at h1
        | cons _ _ => rfl
      by_cases h0 : c = 48
      · rw [hw]
        simp [dLen_s s h, hl, h1, dIx_str0 s c r h e, zero_eq, h0, hr]
      · simp [dLen_s s h, hl, h1, dIx_str0 s c r h e, zero_eq, h0]
        rw [hloop _ rfl, hw, hr, decide_eq_false h0]
        cases s.cps.toList.any bad1 <;> simp
    · have hr : r.isEmpty = true := by
        have h1 := h1; rw [len1 s e] at h1
        cases r with
        | nil => rfl
        | cons _ _ => exfalso; simp only [List.length_cons] at h1; omega
      simp [dLen_s s h, hl, h1]
      rw [hloop _ rfl, hw, hr]
      cases s.cps.toList.any bad1 <;> simp
def numOf (s : Str) : Int := if isNum s = true then val s else -1
theorem dInt_num {s : Str} (h : isNum s = true) (hl : s.length ≤ 640) : dInt [.str s] = some (.int (val s)) := by
  unfold dInt
  simp only [num_text h hl]
  exact gdt (decide_eq_true hl)
theorem ev_law_number (s : Str) (h : s.length ≤ 640) : fn__law_number [.str s] = .ok (.int (numOf s)) := by
  have h' : s.length ≤ sizeLine := by rw [sizeLine_eq]; omega
  unfold fn__law_number runD F__law_number
  cases e : s.cps.toList with
  | nil =>
    have h0 : s = Str.ofString "" := by
      obtain ⟨a⟩ := s
      have : a.toList = [] := e
      rw [Array.toList_eq_nil_iff] at this
      rw [this]
      rfl
    have : numOf s = -1 := by unfold numOf; rw [isNum_nil e]; rfl
    rw [this]
    simp [h0, dNeg]
  | cons c r =>
    have hl : ¬ s = Str.ofString "" := fun z => by rw [z] at e; cases e
    have hw := isNum_cons e
    have hloop : ∀ ρ : Rho, ρ.length = 2 → forL (gNm 1) (sIf (tV dBool (o2 dNotIn (eP 1) (eC (.str "0123456789")))) (sRet (o1 dNeg (eC (.int 1)))) sNext) (s.cps.toList.map fun c => PyData.str ⟨#[c]⟩) ρ = if s.cps.toList.any bad1 = true then .rt (.int (-1)) else .nx (lastS 1 (fun c => PyData.str ⟨#[c]⟩) s.cps.toList ρ) := fun ρ hρ => for_ret (fun c => PyData.str ⟨#[c]⟩) bad1 (.int (-1)) fun c' _ => by
      unfold bad1
      cases h1 : isFig c' <;> simp [nin_fig, h1, hρ, dNeg]
    have hlast : ∀ ρ : Rho, ρ[0]? = some (.d (.str s)) → (lastS 1 (fun c => PyData.str ⟨#[c]⟩) s.cps.toList ρ)[0]? = some (.d (.str s)) := by
      generalize s.cps.toList = l
      intro ρ hρ
      induction l generalizing ρ with
      | nil => exact hρ
      | cons a l ih => exact ih _ (by rw [List.getElem?_set_ne (by decide)]; exact hρ)
    by_cases hz : (decide (c = 48) && !r.isEmpty) = true
    · have hn : numOf s = -1 := by unfold numOf; rw [hw, hz]; rfl
      rw [hn]
      rw [Bool.and_eq_true, decide_eq_true_eq] at hz
      obtain ⟨h0, hr⟩ := hz
      have h1 : (1 : Int) < s.length := by
        rw [len1 s e]
        cases r with
        | nil => cases hr
        | cons _ _ => simp only [List.length_cons]; omega
      simp [dLen_s s h', hl, h1, dIx_str0 s c r h' e, zero_eq, h0, dNeg]
    · have hz' : (decide (c = 48) && !r.isEmpty) = false := by simpa using hz
      have hN : isNum s = !(s.cps.toList.any bad1) := by rw [hw, hz']; rfl
      have hL := hlast [Sl.d (.str s), Sl.u] rfl
      by_cases h1 : (1 : Int) < s.length
      · have hr : r.isEmpty = false := by
          have h1 := h1; rw [len1 s e] at h1
          cases r with
          | nil => simp at h1
          | cons _ _ => rfl
        have h0 : ¬ c = 48 := fun z => hz (by rw [hr, decide_eq_true z]; rfl)
        simp [dLen_s s h', hl, h1, dIx_str0 s c r h' e, zero_eq, h0]
        rw [hloop _ rfl]
        unfold numOf
        cases hb : s.cps.toList.any bad1 with
        | true =>
          rw [hb] at hN
          rw [hN]
          simp
        | false =>
          rw [hb] at hN
          have hi := dInt_num (s := s) hN h
          rw [hN]
          simp [hL, hi]
      · simp [dLen_s s h', hl, h1]
        rw [hloop _ rfl]
        unfold numOf
        cases hb : s.cps.toList.any bad1 with
        | true =>
          rw [hb] at hN
          rw [hN]
          simp
        | false =>
          rw [hb] at hN
          have hi := dInt_num (s := s) hN h
          rw [hN]
          simp [hL, hi]
end K92
end
section
set_option Elab.async false
set_option linter.all false
set_option maxRecDepth 100000
set_option maxHeartbeats 1000000
namespace DL
open PySem PySem.Spec PyProof.Rows L2
@[simp] theorem dNeg_i (i : Int) : dNeg (.int i) = some (.int (-i)) := rfl
@[simp] theorem tYs_get (ρ : Rho) : tYs ρ = .ok true := rfl
/-! ### comprehensions -/
theorem loop_map {α : Type} {i : Nat} {fe : Rho → Res PyData} {ρ : Rho} (f g : α → PyData) : ∀ {l : List α}, (∀ a ∈ l, fe (ρ.set i (.d (f a))) = .ok (g a)) → cLoop (cStep (gNm i) tYs (kOne fe) ρ) (l.map f) = .ok (l.map g)
  | [], _ => rfl
  | a :: l, h => by
    have h1 : cStep (gNm i) tYs (kOne fe) ρ (f a) = .ok [g a] := by
      unfold cStep
      simp only [gNm_get, tYs_get]
      unfold kOne
      rw [h a List.mem_cons_self]
    rw [List.map_cons, List.map_cons, cLoop, h1, loop_map f g fun b hb => h b (List.mem_cons_of_mem _ hb)]
    rfl
theorem comp_map {α : Type} {i : Nat} {it : Rho → Res (List PyData)} {vs : List Nat} {fe : Rho → Res PyData} {ρ : Rho} {l : List α} (f g : α → PyData) (hi : it ρ = .ok (l.map f)) (h : ∀ a ∈ l, fe ((wipeR ρ vs).set i (.d (f a))) = .ok (g a)) (hl : l.length ≤ sizeLine) :
    eComp it vs (gNm i) tYs (kOne fe) ρ = .ok (.list (l.map g)) := by
  unfold eComp
  rw [hi, Res.ok_bind, loop_map f g h]
  simp only [List.length_map]
  rw [if_pos hl]
theorem loop_filter {α : Type} {i : Nat} {fc : Rho → Res Bool} {fe : Rho → Res PyData} {ρ : Rho} (f g : α → PyData) (p : α → Bool) : ∀ {l : List α}, (∀ a ∈ l, fc (ρ.set i (.d (f a))) = .ok (p a)) → (∀ a ∈ l, p a = true → fe (ρ.set i (.d (f a))) = .ok (g a)) → cLoop (cStep (gNm i) fc (kOne fe) ρ) (l.map f) = .ok ((l.filter p).map g)
  | [], _, _ => rfl
  | a :: l, h, h' => by
    have ih := loop_filter f g p (fun b hb => h b (List.mem_cons_of_mem _ hb)) (fun b hb => h' b (List.mem_cons_of_mem _ hb))
    have h1 : cStep (gNm i) fc (kOne fe) ρ (f a) = .ok (if p a = true then [g a] else []) := by
      unfold cStep
      simp only [gNm_get, h a List.mem_cons_self]
      cases c : p a with
      | true =>
        simp only [if_true]
        unfold kOne
        rw [h' a List.mem_cons_self c]
      | false => rfl
    rw [List.map_cons, cLoop, h1, ih, List.filter_cons]
    cases p a <;> rfl
theorem comp_filter {α : Type} {i : Nat} {it : Rho → Res (List PyData)} {vs : List Nat} {fc : Rho → Res Bool} {fe : Rho → Res PyData} {ρ : Rho} {l : List α} (f g : α → PyData) (p : α → Bool) (hi : it ρ = .ok (l.map f)) (h : ∀ a ∈ l, fc ((wipeR ρ vs).set i (.d (f a))) = .ok (p a))
    (h' : ∀ a ∈ l, p a = true → fe ((wipeR ρ vs).set i (.d (f a))) = .ok (g a)) (hl : l.length ≤ sizeLine) : eComp it vs (gNm i) fc (kOne fe) ρ = .ok (.list ((l.filter p).map g)) := by
  unfold eComp
  rw [hi, Res.ok_bind, loop_filter f g p h h']
  simp only [List.length_map]
  rw [if_pos (Nat.le_trans (List.length_filter_le _ _) hl)]
/-! ### slices -/
theorem cut_from {α : Type} (xs : List α) (n : Nat) : cut xs (some (n : Int)) none = xs.drop n := by
  unfold cut
  rw [HT.sIx_nat, HT.sIx_none]
  by_cases h : n ≤ xs.length
  · rw [Nat.min_eq_left h, List.take_of_length_le (by rw [List.length_drop]; omega)]
  · rw [Nat.min_eq_right (by omega), List.drop_of_length_le (Nat.le_refl _), List.drop_of_length_le (by omega), List.take_nil]
theorem cut_to {α : Type} (xs : List α) (n : Nat) : cut xs none (some (n : Int)) = xs.take n := by
  unfold cut
  rw [HT.sIx_nat, HT.sIx_none, List.drop_zero, Nat.sub_zero]
  by_cases h : n ≤ xs.length
  · rw [Nat.min_eq_left h]
  · rw [Nat.min_eq_right (by omega), List.take_of_length_le (Nat.le_refl _), List.take_of_length_le (by omega)]
theorem cut_init {α : Type} (xs : List α) : cut xs none (some (-1)) = xs.dropLast := by
  unfold cut
  rw [HT.sIx_none, List.drop_zero, Nat.sub_zero, List.dropLast_eq_take]
  congr 1
  have e : HT.sIx xs.length xs.length (some (-1)) = (-1 + (xs.length : Int)).toNat := by unfold HT.sIx; exact if_pos (by decide)
  rw [e]
  omega
theorem dSlice_l (xs : List PyData) (lo hi : Option Int) : dSlice (.list xs) lo hi = some (.list (cut xs lo hi)) := rfl
theorem dSlice_t (xs : List PyData) (lo hi : Option Int) : dSlice (.tuple xs) lo hi = some (.tuple (cut xs lo hi)) := rfl
theorem from1 (xs : List PyData) : dSlice (.list xs) (some 1) none = some (.list (xs.drop 1)) := by rw [dSlice_l]; exact congrArg (fun z => some (PyData.list z)) (cut_from xs 1)
theorem init_t (xs : List PyData) : dSlice (.tuple xs) none (some (-1)) = some (.tuple xs.dropLast) := by rw [dSlice_t, cut_init]
/-! ### items -/
theorem atI_nat {α : Type} (xs : List α) (n : Nat) : L2.atI xs (n : Int) = xs[n]? := by
  unfold L2.atI L2.ixN
  rw [if_pos (by omega)]
  by_cases h : n < xs.length
  · rw [if_pos (by omega), Int.toNat_natCast]
    rfl
  · rw [if_neg (by omega), List.getElem?_eq_none (by omega)]
    rfl
theorem atI_last {α : Type} (xs : List α) : L2.atI xs (-1) = xs.getLast? := by
  unfold L2.atI L2.ixN
  rw [if_neg (by decide)]
  cases xs with
  | nil => rfl
  | cons a l =>
    rw [if_pos (by simp only [List.length_cons]; omega), List.getLast?_eq_getElem?]
    simp only [Option.bind]
    congr 1
    simp only [List.length_cons]
    omega
theorem dIx_l (xs : List PyData) (n : Nat) : dIx (.list xs) (.int (n : Int)) = xs[n]? := atI_nat xs n
theorem dIx_t (xs : List PyData) (n : Nat) : dIx (.tuple xs) (.int (n : Int)) = xs[n]? := atI_nat xs n
theorem dIx_l0 (xs : List PyData) : dIx (.list xs) (.int 0) = xs[0]? := atI_nat xs 0
theorem dIx_l1 (xs : List PyData) : dIx (.list xs) (.int 1) = xs[1]? := atI_nat xs 1
theorem dIx_l2 (xs : List PyData) : dIx (.list xs) (.int 2) = xs[2]? := atI_nat xs 2
theorem dIx_t0 (xs : List PyData) : dIx (.tuple xs) (.int 0) = xs[0]? := atI_nat xs 0
theorem dIx_t1 (xs : List PyData) : dIx (.tuple xs) (.int 1) = xs[1]? := atI_nat xs 1
theorem dIx_t2 (xs : List PyData) : dIx (.tuple xs) (.int 2) = xs[2]? := atI_nat xs 2
theorem dIx_ll (xs : List PyData) : dIx (.list xs) (.int (-1)) = xs.getLast? := atI_last xs
theorem dIx_tl (xs : List PyData) : dIx (.tuple xs) (.int (-1)) = xs.getLast? := atI_last xs
theorem bools_map {α : Type} (p : α → Bool) : ∀ l : List α, boolsOf (l.map fun a => .bool (p a)) = some (l.map p)
  | [] => rfl
  | a :: l => by rw [List.map_cons, List.map_cons, boolsOf, bools_map p l]; rfl
theorem dAll_map {α : Type} (p : α → Bool) (l : List α) : dAll [.list (l.map fun a => .bool (p a))] = some (.bool (l.all p)) := by
  unfold dAll
  simp only [bools_map]
  show some (PyData.bool ((l.map p).all id)) = _
  rw [List.all_map]
  rfl
end DL
end
section
set_option Elab.async false
set_option linter.all false
set_option maxRecDepth 100000
set_option maxHeartbeats 2000000
namespace K92
open PySem PySem.Spec PyProof.Rows L2 DL
structure Tb where
  nm : Str
  wd : Int
  rows : List (List Int)
def encT (t : Tb) : PyData := .tuple [.str t.nm, .int t.wd, .tuple (t.rows.map DS.mkT)]
def encS (l : List Tb) : PyData := .tuple (l.map encT)
def encW (l : List Str) : PyData := .list (l.map .str)
/-- a < b, of texts -/
def sLt (a b : Str) : Bool := decide (a.cps.toList < b.cps.toList)
/-- the words' bounds -/
def WOk (ws : List Str) : Prop := ws.length ≤ sizeLine ∧ ∀ w ∈ ws, w.length ≤ 500
/-- may the row stand behind the rows? -/
def stands (rows : List (List Int)) (x : List Int) : Bool := match rows.getLast? with
  | some l => HT.lexLt l x
  | none => true
def rowOf (ws : List Str) (ts : List Tb) : Option (List Int) := match ws, ts.getLast? with
  | w :: r, some t => if w = ("row" : Str) then (if (r.length : Int) = t.wd then (if r.all isNum = true then (if stands t.rows (r.map val) = true then some (r.map val) else none) else none) else none) else none
  | _, _ => none
def optT : Option (List Int) → PyData
  | some x => DS.mkT x
  | none => .none
theorem all_num (r : List Str) (ρ : Rho) (h : ∀ w ∈ r, w.length ≤ 500) (hl : r.length ≤ sizeLine) {it : Rho → Res (List PyData)} (hi : it ρ = .ok (r.map .str)) (h4 : 4 < (wipeR ρ [4]).length) :
    eComp it [4] (gNm 4) tYs (kOne (eA (fun ds => noex (fn_is_number_text ds)) (aC (eV 4) aN))) ρ = .ok (.list (r.map fun w => .bool (isNum w))) := by
  refine comp_map .str (fun w => .bool (isNum w)) hi (fun w hw => ?_) hl
  have hz : w.length ≤ sizeLine := by have := h w hw; rw [sizeLine_eq]; omega
  simp [List.getElem?_set_self h4, ev_is_number_text w hz]
theorem all_val (r : List Str) (ρ : Rho) (h : ∀ w ∈ r, w.length ≤ 500) (hn : r.all isNum = true) (hl : r.length ≤ sizeLine) {it : Rho → Res (List PyData)} (hi : it ρ = .ok (r.map .str)) (h4 : 4 < (wipeR ρ [4]).length) :
    eComp it [4] (gNm 4) tYs (kOne (oA dInt (aC (eP 4) aN))) ρ = .ok (.list (r.map fun w => .int (val w))) := by
  refine comp_map .str (fun w => .int (val w)) hi (fun w hw => ?_) hl
  have hz : w.length ≤ 640 := by have := h w hw; omega
  simp [List.getElem?_set_self h4, dInt_num (List.all_eq_true.mp hn w hw) hz]
theorem mk_map (r : List Str) : DS.mkT (r.map val) = .tuple (r.map fun w => .int (val w)) := by
  unfold DS.mkT
  rw [List.map_map] <;> rfl
theorem intsOf_map : ∀ ns : List Int, intsOf (ns.map .int) = some ns
  | [] => rfl
  | n :: r => by rw [List.map_cons, intsOf, intsOf_map r]; rfl
theorem dLe_mk (a b : List Int) : dLe (DS.mkT a) (DS.mkT b) = some (.bool (!HT.lexLt b a)) := by
  unfold DS.mkT dLe
  simp only [intsOf_map]
theorem dLt_mk (a b : List Int) : dLt (DS.mkT a) (DS.mkT b) = some (.bool (HT.lexLt a b)) := by
  unfold DS.mkT dLt
  simp only [intsOf_map]
theorem ev_read_row (w : Str) (r : List Str) (ts : List Tb) (hw : WOk (w :: r)) (ht : ts.length ≤ sizeLine) : fn_read_row [encW (w :: r), encS ts] = .ok (optT (rowOf (w :: r) ts)) := by
  obtain ⟨h1, h2⟩ := hw
  have h2' : ∀ w ∈ r, w.length ≤ 500 := fun x hx => h2 x (List.mem_cons_of_mem _ hx)
  have h1' : r.length ≤ sizeLine := by rw [List.length_cons] at h1; omega
  unfold fn_read_row runD F_read_row encW encS
  by_cases hrow : w = ("row" : Str)
  · cases hts : ts.getLast? with
    | none =>
      have e : rowOf (w :: r) ts = none := by unfold rowOf; rw [hts]
      rw [e]
      have : ts = [] := List.getLast?_eq_none_iff.mp hts
      subst this
      simp [hrow, dIx_l0, optT]
    | some t =>
      have e : rowOf (w :: r) ts = if (r.length : Int) = t.wd then (if r.all isNum = true then (if stands t.rows (r.map val) = true then some (r.map val) else none) else none) else none := by unfold rowOf; simp only [hts, if_pos hrow]
      rw [e]
      have hne : ¬ ts = [] := fun z => by rw [z] at hts; cases hts
      have hlast : (ts.map encT).getLast? = some (encT t) := by rw [List.getLast?_map, hts]; rfl
      by_cases hwd : (r.length : Int) = t.wd
      · rw [if_pos hwd]
        cases hn : r.all isNum with
        | false =>
          rw [if_neg Bool.false_ne_true]
          simp only [optT]
          simp [hrow, dIx_l0, dIx_tl, hlast, hne, encT, dIx_t1, hwd]
          rw [all_num r _ h2' h1' (by simp [from1]) (by simp [wipeR])]
          simp [dAll_map, hn]
        | true =>
          rw [if_pos rfl]
          have hst : ∀ row, (match (if stands t.rows row = true then some row else none) with | some x => DS.mkT x | none => PyData.none) = if stands t.rows row = true then DS.mkT row else PyData.none := fun row => by cases stands t.rows row <;> rfl
          show _ = Res.ok (match (if stands t.rows (r.map val) = true then some (r.map val) else none) with | some x => DS.mkT x | none => PyData.none)
          rw [hst]
          generalize hB : (if stands t.rows (r.map val) = true then DS.mkT (r.map val) else PyData.none) = B
          simp [hrow, dIx_l0, dIx_tl, hlast, hne, encT, dIx_t1, hwd]
          rw [all_num r _ h2' h1' (by simp [from1]) (by simp [wipeR])]
          simp [dAll_map, hn]
          rw [all_val r _ h2' hn h1' (by simp [from1]) (by simp [wipeR])]
          simp [dIx_tl, hlast, encT, dIx_t2]
          rw [← mk_map, ← hB]
          unfold stands
          cases hl : t.rows.getLast? with
          | none =>
            have : t.rows = [] := List.getLast?_eq_none_iff.mp hl
            simp [this]
          | some l =>
            have hne2 : ¬ t.rows = [] := fun z => by rw [z] at hl; cases hl
            have hl2 : (t.rows.map DS.mkT).getLast? = some (DS.mkT l) := by rw [List.getLast?_map, hl]; rfl
            have hpos : 0 < t.rows.length := List.length_pos_iff.mpr hne2
            by_cases hx : HT.lexLt l (r.map val) = true
            · simp [hpos, dIx_tl, hl2, dLe_mk, hx]
            · have hx' : HT.lexLt l (r.map val) = false := by simpa using hx
              simp [hpos, dIx_tl, hl2, dLe_mk, hx']
      · rw [if_neg hwd]
        simp [hrow, dIx_l0, dIx_tl, hlast, hne, encT, dIx_t1, hwd, optT]
  · have e : rowOf (w :: r) ts = none := by unfold rowOf; cases ts.getLast? <;> simp [hrow]
    rw [e]
    simp [hrow, dIx_l0, optT]
end K92
end
section
set_option Elab.async false
set_option linter.all false
set_option maxRecDepth 100000
set_option maxHeartbeats 2000000
namespace K92
open PySem PySem.Spec PyProof.Rows L2 DL
def isW (c : Str) : Bool := decide (c = ("1" : Str)) || (decide (c = ("2" : Str)) || (decide (c = ("3" : Str)) || decide (c = ("4" : Str))))
theorem any4 (c : Str) : (([.str "1", .str "2", .str "3", .str "4"] : List PyData).any fun z => PyData.eqv z (.str c)) = isW c := by
  unfold isW
  simp only [List.any_cons, List.any_nil, PyData.eqv, Bool.or_false, bd]
  simp only [eq_comm]
theorem nin4 (c : Str) : dNotIn (.str c) (.tuple [.str "1", .str "2", .str "3", .str "4"]) = some (.bool (!isW c)) := by
  unfold dNotIn dIsIn
  simp only
  rw [gdt (by rfl), any4]
  rfl
theorem in4 (c : Str) : dIn (.str c) (.list [.str "1", .str "2", .str "3", .str "4"]) = some (.bool (isW c)) := by
  unfold dIn dIsIn
  simp only
  rw [gdt (by rfl), any4]
  rfl
theorem isW_num {c : Str} (h : isW c = true) : isNum c = true ∧ c.length ≤ 640 ∧ (val c = 1 ∨ val c = 2 ∨ val c = 3 ∨ val c = 4) := by
  unfold isW at h
  simp only [Bool.or_eq_true, decide_eq_true_eq] at h
  rcases h with rfl | rfl | rfl | rfl
  · exact ⟨by decide +kernel, by decide +kernel, .inl (by decide +kernel)⟩
  · exact ⟨by decide +kernel, by decide +kernel, .inr (.inl (by decide +kernel))⟩
  · exact ⟨by decide +kernel, by decide +kernel, .inr (.inr (.inl (by decide +kernel)))⟩
  · exact ⟨by decide +kernel, by decide +kernel, .inr (.inr (.inr (by decide +kernel)))⟩
/-- may the name stand behind the tables? -/
def follows (ts : List Tb) (b : Str) : Bool := match ts.getLast? with
  | some t => sLt t.nm b
  | none => true
def tabOf (ws : List Str) (ts : List Tb) : Option Tb := match ws with
  | [a, b, c] => if a = ("table" : Str) then (if isWord b 8 = true then (if isW c = true then (if follows ts b = true then some ⟨b, val c, []⟩ else none) else none) else none) else none
  | _ => none
def optB : Option Tb → PyData
  | some x => encT x
  | none => .none
theorem ev_read_table (ws : List Str) (ts : List Tb) (hne : ws ≠ []) (hw : WOk ws) : fn_read_table [encW ws, encS ts] = .ok (optB (tabOf ws ts)) := by
  obtain ⟨h1, h2⟩ := hw
  unfold fn_read_table runD F_read_table encW encS
  by_cases h3 : ws.length = 3
  · match ws, h3, h2 with
    | [a, b, c], _, h2 =>
      have hb : b.length ≤ sizeLine := by have := h2 b (by simp); rw [sizeLine_eq]; omega
      have e : tabOf [a, b, c] ts = if a = ("table" : Str) then (if isWord b 8 = true then (if isW c = true then (if follows ts b = true then some ⟨b, val c, []⟩ else none) else none) else none) else none := rfl
      rw [e]
      by_cases ha : a = ("table" : Str)
      · rw [if_pos ha]
        cases hbw : isWord b 8 with
        | false =>
          rw [if_neg Bool.false_ne_true]
          simp [dIx_l0, dIx_l1, ha, ev_is_table_name b hb, hbw, optB]
        | true =>
          rw [if_pos rfl]
          cases hc : isW c with
          | false =>
            rw [if_neg Bool.false_ne_true]
            simp [dIx_l0, dIx_l1, dIx_l2, ha, ev_is_table_name b hb, hbw, optB, dTup_ok, sizeLine_eq, nin4, hc]
          | true =>
            rw [if_pos rfl]
            obtain ⟨c1, c2, _⟩ := isW_num hc
            have hi := dInt_num c1 c2
            cases hl : ts.getLast? with
            | none =>
              have hf : follows ts b = true := by unfold follows; rw [hl]
              rw [if_pos hf]
              have : ts = [] := List.getLast?_eq_none_iff.mp hl
              simp [dIx_l0, dIx_l1, dIx_l2, ha, ev_is_table_name b hb, hbw, optB, dTup_ok, sizeLine_eq, nin4, hc, this, hi, encT]
            | some t =>
              have hn : ¬ ts = [] := fun z => by rw [z] at hl; cases hl
              have hpos : 0 < ts.length := List.length_pos_iff.mpr hn
              have hlast : (ts.map encT).getLast? = some (encT t) := by rw [List.getLast?_map, hl]; rfl
              have hf : follows ts b = decide (t.nm.cps.toList < b.cps.toList) := by unfold follows; rw [hl]; rfl
              rw [hf]
              by_cases hx : t.nm.cps.toList < b.cps.toList
              · rw [decide_eq_true hx, if_pos rfl]
                simp [dIx_l0, dIx_l1, dIx_l2, ha, ev_is_table_name b hb, hbw, optB, dTup_ok, sizeLine_eq, nin4, hc, hpos, hi, encT, dIx_tl, hlast, dIx_t0, hx]
              · rw [decide_eq_false hx, if_neg Bool.false_ne_true]
                simp [dIx_l0, dIx_l1, dIx_l2, ha, ev_is_table_name b hb, hbw, optB, dTup_ok, sizeLine_eq, nin4, hc, hpos, hi, encT, dIx_tl, hlast, dIx_t0, hx]
      · rw [if_neg ha]
        simp [dIx_l0, ha, optB]
  · have e : tabOf ws ts = none := by
      unfold tabOf
      split
      · exact absurd rfl h3
      · rfl
    rw [e]
    have h3' : ¬ (ws.length : Int) = 3 := by omega
    simp [h3', optB]
end K92
end
section
set_option Elab.async false
set_option linter.all false
set_option maxRecDepth 100000
set_option maxHeartbeats 2000000
namespace K92
open PySem PySem.Spec PyProof.Rows L2 DL
/-! ### split -/
theorem spl_ne (S : List Nat) : ∀ (l : List Nat) (k : Nat) (acc : List Nat), TL.spl S k acc l ≠ []
  | [], k, acc => by rw [TL.spl_nil]; exact List.cons_ne_nil _ _
  | c :: r, 0, acc => by
    cases h : TL.pre S (c :: r) with
    | true => rw [TL.spl_hit h]; exact List.cons_ne_nil _ _
    | false => rw [TL.spl_miss h]; exact spl_ne S r 0 _
  | c :: r, k + 1, acc => spl_ne S r k acc
theorem spl_len (S : List Nat) : ∀ (l : List Nat) (k : Nat) (acc : List Nat), (TL.spl S k acc l).length ≤ l.length + 1
  | [], k, acc => by rw [TL.spl_nil]; exact Nat.le_refl _
  | c :: r, 0, acc => by
    cases h : TL.pre S (c :: r) with
    | true =>
      rw [TL.spl_hit h, List.length_cons, List.length_cons]
      have := spl_len S r (S.length - 1) []
      omega
    | false =>
      rw [TL.spl_miss h, List.length_cons]
      have := spl_len S r 0 (acc ++ [c])
      omega
  | c :: r, k + 1, acc => by
    have := spl_len S r k acc
    show (TL.spl S k acc r).length ≤ _
    rw [List.length_cons]
    omega
theorem spl_piece (S : List Nat) : ∀ (l : List Nat) (k : Nat) (acc p : List Nat), p ∈ TL.spl S k acc l → p.length ≤ acc.length + l.length
  | [], k, acc, p, h => by
    rw [TL.spl_nil, List.mem_singleton] at h
    rw [h]
    exact Nat.le_add_right _ _
  | c :: r, 0, acc, p, h => by
    cases e : TL.pre S (c :: r) with
    | true =>
      rw [TL.spl_hit e] at h
      rcases List.mem_cons.mp h with z | z
      · rw [z]; exact Nat.le_add_right _ _
      · have := spl_piece S r (S.length - 1) [] p z
        rw [List.length_nil] at this
        rw [List.length_cons]
        omega
    | false =>
      rw [TL.spl_miss e] at h
      have := spl_piece S r 0 (acc ++ [c]) p h
      rw [List.length_append, List.length_singleton] at this
      rw [List.length_cons]
      omega
  | c :: r, k + 1, acc, p, h => by
    have := spl_piece S r k acc p h
    rw [List.length_cons]
    omega
abbrev SP : Str := " "
abbrev NL : Str := "\n"
theorem split_tl (x y : Str) (hy : TL.tl y ≠ []) (hk : y.cps.all (· < 256) = true) : (Txt.split x y).map TL.tl = TL.spl (TL.tl y) 0 [] (TL.tl x) := TL.split_spl x y hy (TL.kind_ok hk)
theorem split_ne (x y : Str) (hy : TL.tl y ≠ []) (hk : y.cps.all (· < 256) = true) : Txt.split x y ≠ [] := fun z => by
  have e := split_tl x y hy hk
  rw [z] at e
  exact spl_ne _ _ _ _ e.symm
theorem split_cnt (x y : Str) (hy : TL.tl y ≠ []) (hk : y.cps.all (· < 256) = true) : (Txt.split x y).length ≤ x.length + 1 := by
  have e := congrArg List.length (split_tl x y hy hk)
  rw [List.length_map] at e
  rw [e]
  have := spl_len (TL.tl y) (TL.tl x) 0 []
  rw [show x.length = (TL.tl x).length from TL.len_tl x]
  exact this
theorem split_piece (x y : Str) (hy : TL.tl y ≠ []) (hk : y.cps.all (· < 256) = true) {p : Str} (h : p ∈ Txt.split x y) : p.length ≤ x.length := by
  have hp : TL.tl p ∈ TL.spl (TL.tl y) 0 [] (TL.tl x) := by
    rw [← split_tl x y hy hk]
    exact List.mem_map.mpr ⟨p, h, rfl⟩
  have := spl_piece (TL.tl y) (TL.tl x) 0 [] _ hp
  rw [show x.length = (TL.tl x).length from TL.len_tl x, show p.length = (TL.tl p).length from TL.len_tl p]
  simpa using this
theorem sp_ne : TL.tl SP ≠ [] := by decide +kernel
theorem sp_k : SP.cps.all (· < 256) = true := by decide +kernel
theorem nl_ne : TL.tl NL ≠ [] := by decide +kernel
theorem nl_k : NL.cps.all (· < 256) = true := by decide +kernel
theorem dSplit_ok (x y : Str) (hy : (y.length == 0) = false) (h : x.length + 2 ≤ sizeLine) : dSplit (.str x) [.str y] = some (encW (Txt.split x y)) := gdt (decide_eq_true ⟨hy, h⟩)
/-- a line's bounds -/
structure LOk (x : Str) : Prop where
  len : x.length ≤ 4000000
  wd : ∀ w ∈ Txt.split x SP, w.length ≤ 500
theorem LOk.w {x : Str} (h : LOk x) : WOk (Txt.split x SP) := ⟨by have := split_cnt x SP sp_ne sp_k; have := h.len; rw [sizeLine_eq]; omega, h.wd⟩
theorem LOk.sp {x : Str} (h : LOk x) : dSplit (.str x) [.str SP] = some (encW (Txt.split x SP)) := dSplit_ok x SP (by decide +kernel) (by have := h.len; rw [sizeLine_eq]; omega)
/-! ### a line read -/
def withRow (ts : List Tb) (row : List Int) : List Tb := match ts.getLast? with
  | some t => ts.dropLast ++ [⟨t.nm, t.wd, t.rows ++ [row]⟩]
  | none => ts
def wordsStep (ws : List Str) (ts : List Tb) : Option (List Tb) := match rowOf ws ts with
  | some row => some (withRow ts row)
  | none => match tabOf ws ts with
    | some t => some (ts ++ [t])
    | none => none
def optS : Option (List Tb) → PyData
  | some x => encS x
  | none => .none
/-- room for m more lines -/
structure TsOk (ts : List Tb) (m : Nat) : Prop where
  len : ts.length + m ≤ 5000000
  rows : ∀ t ∈ ts, t.rows.length + m ≤ 5000000
theorem row_last {ws : List Str} {ts : List Tb} {row : List Int} (h : rowOf ws ts = some row) : ∃ t, ts.getLast? = some t := by
  unfold rowOf at h
  split at h
  · exact ⟨_, by assumption⟩
  · cases h
theorem mem_withRow {ts : List Tb} {row : List Int} {t : Tb} (h : t ∈ withRow ts row) : t ∈ ts ∨ ∃ u, ts.getLast? = some u ∧ t = ⟨u.nm, u.wd, u.rows ++ [row]⟩ := by
  unfold withRow at h
  cases e : ts.getLast? with
  | none => rw [e] at h; exact .inl h
  | some u =>
    rw [e] at h
    rcases List.mem_append.mp h with z | z
    · exact .inl (List.mem_of_mem_take (by rw [List.dropLast_eq_take] at z; exact z))
    · exact .inr ⟨u, rfl, List.mem_singleton.mp z⟩
theorem len_withRow (ts : List Tb) (row : List Int) : (withRow ts row).length = ts.length := by
  unfold withRow
  cases e : ts.getLast? with
  | none => rfl
  | some u =>
    have : ts ≠ [] := fun z => by rw [z] at e; cases e
    have := List.length_pos_iff.mpr this
    rw [List.length_append, List.length_dropLast, List.length_singleton]
    omega
theorem TsOk.step {ws : List Str} {ts ts' : List Tb} {m : Nat} (h : TsOk ts (m + 1)) (e : wordsStep ws ts = some ts') : TsOk ts' m := by
  unfold wordsStep at e
  cases e1 : rowOf ws ts with
  | some row =>
    rw [e1] at e
    cases e
    refine ⟨by rw [len_withRow]; have := h.len; omega, fun t ht => ?_⟩
    rcases mem_withRow ht with z | ⟨u, z1, rfl⟩
    · have := h.rows t z; omega
    · have := h.rows u (List.mem_of_getLast? z1)
      show (u.rows ++ [row]).length + m ≤ _
      rw [List.length_append, List.length_singleton]
      omega
  | none =>
    rw [e1] at e
    cases e2 : tabOf ws ts with
    | none => rw [e2] at e; cases e
    | some t =>
      rw [e2] at e
      cases e
      refine ⟨by rw [List.length_append, List.length_singleton]; have := h.len; omega, fun u hu => ?_⟩
      rcases List.mem_append.mp hu with z | z
      · have := h.rows u z; omega
      · rw [List.mem_singleton.mp z]
        have e3 : t.rows = [] := by
          unfold tabOf at e2
          split at e2
          · split at e2
            · split at e2
              · split at e2
                · split at e2
                  · cases e2; rfl
                  · cases e2
                · cases e2
              · cases e2
            · cases e2
          · cases e2
        rw [e3]
        have := h.len
        show 0 + m ≤ _
        omega
theorem optT_none {o : Option (List Int)} (h : o = none) : optT o = .none := by rw [h]; rfl
theorem enc_last {ts : List Tb} {t : Tb} (h : ts.getLast? = some t) : (ts.map encT).getLast? = some (encT t) := by rw [List.getLast?_map, h]; rfl
theorem ev_read_store_line (x : Str) (ts : List Tb) (m : Nat) (hx : LOk x) (ht : TsOk ts (m + 1)) : fn_read_store_line [.str x, encS ts] = .ok (optS (wordsStep (Txt.split x SP) ts)) := by
  have hl := ht.len
  have h1 : ts.length ≤ sizeLine := by rw [sizeLine_eq]; omega
  obtain ⟨w, r, e⟩ : ∃ w r, Txt.split x SP = w :: r := by
    cases e : Txt.split x SP with
    | nil => exact absurd e (split_ne x SP sp_ne sp_k)
    | cons w r => exact ⟨w, r, rfl⟩
  have hW : WOk (w :: r) := e ▸ hx.w
  have hr := ev_read_row w r ts hW h1
  have htb := ev_read_table (w :: r) ts (List.cons_ne_nil _ _) hW
  have hsp := hx.sp
  rw [e] at hsp ⊢
  unfold fn_read_store_line runD F_read_store_line
  cases e1 : rowOf (w :: r) ts with
  | some row =>
    have ew : wordsStep (w :: r) ts = some (withRow ts row) := by unfold wordsStep; rw [e1]
    rw [ew]
    obtain ⟨t, hlast⟩ := row_last e1
    have hrows := ht.rows t (List.mem_of_getLast? hlast)
    have hne : ts ≠ [] := fun z => by rw [z] at hlast; cases hlast
    have hpos := List.length_pos_iff.mpr hne
    have hr' : fn_read_row [encW (w :: r), encS ts] = .ok (.tuple (row.map .int)) := by rw [hr, e1]; rfl
    have eS : optS (some (withRow ts row)) = .tuple (ts.dropLast.map encT ++ [encT ⟨t.nm, t.wd, t.rows ++ [row]⟩]) := by
      unfold optS withRow encS
      rw [hlast]
      simp
    have a1 := dAdd_tt (t.rows.map DS.mkT) [.tuple (row.map .int)] (by rw [List.length_map, List.length_singleton, sizeLine_eq]; omega)
    have a2 := dAdd_tt (ts.dropLast.map encT) [.tuple [.str t.nm, .int t.wd, .tuple (t.rows.map DS.mkT ++ [.tuple (row.map .int)])]] (by rw [List.length_map, List.length_dropLast, List.length_singleton, sizeLine_eq]; omega)
    have it := init_t (ts.map encT)
    rw [← List.map_dropLast] at it
    have el := enc_last hlast
    rw [eS]
    generalize encW (w :: r) = W at *
    have hr2 : fn_read_row [W, .tuple (ts.map encT)] = .ok (.tuple (row.map .int)) := hr'
    simp [hsp, hr2, encS, dIx_tl, el, it, a1, dTup_ok, sizeLine_eq, encT, -List.map_dropLast]
    rw [a2]
    rfl
  | none =>
    have hr' : fn_read_row [encW (w :: r), encS ts] = .ok .none := by rw [hr, e1]; rfl
    cases e2 : tabOf (w :: r) ts with
    | none =>
      have ew : wordsStep (w :: r) ts = none := by unfold wordsStep; rw [e1, e2]
      have ht' : fn_read_table [encW (w :: r), encS ts] = .ok .none := by rw [htb, e2]; rfl
      rw [ew]
      generalize encW (w :: r) = W at *
      generalize hT : encS ts = Ts at *
      simp [hsp, hr', ht', optS]
    | some t =>
      have ew : wordsStep (w :: r) ts = some (ts ++ [t]) := by unfold wordsStep; rw [e1, e2]
      have ht' : fn_read_table [encW (w :: r), encS ts] = .ok (encT t) := by rw [htb, e2]; rfl
      rw [ew]
      have a2 := dAdd_tt (ts.map encT) [encT t] (by rw [List.length_map, List.length_singleton, sizeLine_eq]; omega)
      have eS : optS (some (ts ++ [t])) = .tuple (ts.map encT ++ [encT t]) := by unfold optS encS; simp
      rw [eS]
      have hnn : isNoneD (encT t) = false := rfl
      generalize encW (w :: r) = W at *
      have hr2 : fn_read_row [W, .tuple (ts.map encT)] = .ok .none := hr'
      have ht2 : fn_read_table [W, .tuple (ts.map encT)] = .ok (encT t) := ht'
      generalize encT t = Et at *
      simp [hsp, hr2, ht2, encS, dTup_ok, sizeLine_eq, hnn, -List.map_append]
      rw [a2]
      rfl
end K92
end
section
set_option Elab.async false
set_option linter.all false
set_option maxRecDepth 100000
set_option maxHeartbeats 2000000
namespace K92
open PySem PySem.Spec PyProof.Rows L2 DL
def linesOf (x : Str) : List Str := if x = ("" : Str) then [] else Txt.split x NL
structure TOk (x : Str) : Prop where
  len : x.length ≤ 1000000
  ok : ∀ l ∈ linesOf x, LOk l
theorem TOk.cnt {x : Str} (h : TOk x) : (linesOf x).length ≤ 3900001 := by
  unfold linesOf
  split
  · exact Nat.zero_le _
  · have := split_cnt x NL nl_ne nl_k
    have := h.len
    omega
theorem ev_text_lines (x : Str) (h : TOk x) : fn_text_lines [.str x] = .ok (encW (linesOf x)) := by
  unfold fn_text_lines runD F_text_lines
  have hs := dSplit_ok x NL (by decide +kernel) (by have := h.len; rw [sizeLine_eq]; omega)
  unfold linesOf
  by_cases e : x = ("" : Str)
  · rw [if_pos e]
    simp [e, dLst_ok, encW]
  · rw [if_neg e]
    simp [e, hs]
def parseL : Nat → List Str → List Tb → Nat ⊕ List Tb
  | _, [], ts => .inr ts
  | k, l :: r, ts => match wordsStep (Txt.split l SP) ts with
    | some ts' => parseL (k + 1) r ts'
    | none => .inl (k + 1)
def badText (n : Nat) : Exn := ⟨"BadText", some [("line", .int n)]⟩
def parseB : Rho → Out := sSeq (sAsg (eA (fun ds => noex (fn_read_store_line ds)) (aC (o2 dIx (eP 1) (eP 3)) (aC (eV 2) aN))) (gNm 2))
  (sIf (tV dBool (o2 dIs (eP 2) (eC .none)))
  (sRaise "BadText" ["line"] (aC (o2 dAdd (eP 3) (eC (.int 1))) aN))
  sNext)
theorem drop_get {α : Type} {l r : List α} {i : Nat} {a : α} (h : l.drop i = a :: r) : l[i]? = some a ∧ l.drop (i + 1) = r := by
  constructor
  · have := congrArg (fun z => z[0]?) h
    simpa [List.getElem?_drop] using this
  · have := congrArg (fun z => z.drop 1) h
    rw [List.drop_drop] at this
    simpa using this
theorem step_body {T : PyData} {lines : List Str} {ts : List Tb} {x : Sl} {i m : Nat} {l : Str} (hi : lines[i]? = some l) (hl : LOk l) (ht : TsOk ts (m + 1)) :
    parseB [.d T, .d (encW lines), .d (encS ts), .d (.int i)] = match wordsStep (Txt.split l SP) ts with
      | some ts' => .nx [.d T, .d (encW lines), .d (encS ts'), .d (.int i)]
      | none => .ex (badText (i + 1)) [.d T, .d (encW lines), .d .none, .d (.int i)] := by
  have hr := ev_read_store_line l ts m hl ht
  have hx : dIx (encW lines) (.int i) = some (.str l) := by unfold encW; rw [dIx_l, List.getElem?_map, hi]; rfl
  unfold parseB
  generalize encW lines = W at *
  cases e : wordsStep (Txt.split l SP) ts with
  | none =>
    rw [e] at hr
    have hr' : fn_read_store_line [.str l, encS ts] = .ok .none := hr
    generalize encS ts = S at *
    simp [hx, hr', sRaise, badText]
  | some ts' =>
    rw [e] at hr
    have hr' : fn_read_store_line [.str l, encS ts] = .ok (encS ts') := hr
    have hn : isNoneD (encS ts') = false := rfl
    generalize encS ts = S at *
    simp [hx, hr', hn]
theorem parse_loop {T : PyData} {lines : List Str} : ∀ (m i : Nat) (ts : List Tb) (x : Sl) (rest : List Str), lines.drop i = rest → rest.length = m → (∀ l ∈ rest, LOk l) → TsOk ts m →
    ∃ ρ', forL (gNm 3) parseB ((List.range' i m).map fun (j : Nat) => .int (0 + (j : Int))) [.d T, .d (encW lines), .d (encS ts), x] = (match parseL i rest ts with
      | .inr _ => .nx ρ'
      | .inl n => .ex (badText n) ρ') ∧ ∀ ts', parseL i rest ts = .inr ts' → ρ'[2]? = some (.d (encS ts'))
  | 0, i, ts, x, rest, hd, hm, _, _ => by
    obtain rfl := List.length_eq_zero_iff.mp hm
    exact ⟨[.d T, .d (encW lines), .d (encS ts), x], rfl, fun ts' h => by cases h; rfl⟩
  | m + 1, i, ts, x, rest, hd, hm, hl, ht => by
    cases rest with
    | nil => cases hm
    | cons l r =>
      obtain ⟨h1, h2⟩ := drop_get hd
      have hb := step_body (T := T) (x := x) h1 (hl l List.mem_cons_self) ht
      have hset : ([.d T, .d (encW lines), .d (encS ts), x] : Rho).set 3 (.d (.int (0 + (i : Int)))) = [.d T, .d (encW lines), .d (encS ts), .d (.int i)] := by rw [Int.zero_add]; rfl
      rw [List.range'_succ, List.map_cons, forL_cons (gNm_get 3 _ _), hset, hb]
      unfold parseL
      cases e : wordsStep (Txt.split l SP) ts with
      | none => exact ⟨_, rfl, fun ts' h => by cases h⟩
      | some ts' => exact parse_loop m (i + 1) ts' _ r h2 (by simpa using hm) (fun z hz => hl z (List.mem_cons_of_mem _ hz)) (ht.step e)
theorem rng_eq (n : Nat) : rngI 0 n = (List.range' 0 n).map fun (j : Nat) => .int (0 + (j : Int)) := by
  unfold rngI
  rw [List.range_eq_range']
theorem dRng1_nat (n : Nat) (h : n ≤ 100000000) : dRng1 (.int (n : Int)) = .ok (rngI 0 n) := by
  unfold dRng1
  simp only
  rw [if_pos (by omega), Int.toNat_natCast]
theorem range_ok {f : Rho → Res PyData} {ρ : Rho} {n : Nat} (hf : f ρ = .ok (.int (n : Int))) (hn : n ≤ 100000000) : iRange1 f ρ = .ok (rngI 0 n) := by
  rw [iRange1_get, hf, Res.ok_bind, dRng1_nat n hn]
theorem for_range {f : Rho → Res PyData} {γ : PyData → Rho → Option Rho} {F : Rho → Out} {ρ : Rho} {n : Nat} (hf : f ρ = .ok (.int (n : Int))) (hn : n ≤ 100000000) : sFor (iRange1 f) γ F ρ = forL γ F (rngI 0 n) ρ := by
  rw [sFor_get, range_ok hf hn, Res.ok_out]
theorem seq_nx {F G : Rho → Out} {ρ ρ' : Rho} (h : F ρ = .nx ρ') : sSeq F G ρ = G ρ' := by rw [sSeq_get, h]
theorem seq_ex {F G : Rho → Out} {ρ ρ' : Rho} {e : Exn} (h : F ρ = .ex e ρ') : sSeq F G ρ = .ex e ρ' := by rw [sSeq_get, h]
theorem seq_rt {F G : Rho → Out} {ρ : Rho} {d : PyData} (h : F ρ = .rt d) : sSeq F G ρ = .rt d := by rw [sSeq_get, h]
theorem run_rt {n N : Nat} {F : Rho → Out} {ds : List PyData} {d : PyData} (hl : ds.length = n) (h : F (ds.map .d ++ List.replicate (N - n) .u) = .rt d) : runD n N F ds = .ok d := by
  unfold runD
  rw [if_pos hl, h]
theorem run_ex {n N : Nat} {F : Rho → Out} {ds : List PyData} {e : Exn} {ρ : Rho} (hl : ds.length = n) (h : F (ds.map .d ++ List.replicate (N - n) .u) = .ex e ρ) : runD n N F ds = .ex e := by
  unfold runD
  rw [if_pos hl, h]
theorem t2 {x : Str} {W : PyData} (ht : fn_text_lines [.str x] = .ok W) : sAsg (eA (fun ds => noex (fn_text_lines ds)) (aC (eV 0) aN)) (gNm 1) [.d (.str x), .u, .u, .u] = .nx [.d (.str x), .d W, .u, .u] := by
  simp [ht]
theorem t3 {x : Str} {W : PyData} : sAsg (eA dTup aN) (gNm 2) [.d (.str x), .d W, .u, .u] = .nx [.d (.str x), .d W, .d (.tuple []), .u] := by
  have h : dTup [] = .ok (.tuple []) := dTup_ok [] (Nat.zero_le _)
  simp [h]
theorem ev_parse_store (x : Str) (h : TOk x) : fn_parse_store [.str x] = match parseL 0 (linesOf x) [] with
    | .inr ts => .ok (encS ts)
    | .inl n => .ex (badText n) := by
  have hc := h.cnt
  have hok := h.ok
  have ht := ev_text_lines x h
  generalize linesOf x = ls at hc hok ht ⊢
  have h0 : TsOk [] ls.length := ⟨by rw [List.length_nil]; omega, fun t ht => (by cases ht)⟩
  obtain ⟨ρ', h1, h2⟩ := parse_loop (T := .str x) (lines := ls) ls.length 0 [] .u ls List.drop_zero rfl hok h0
  rw [← rng_eq] at h1
  have e3 : sFor (iRange1 (oA dLen (aC (eP 1) aN))) (gNm 3) parseB [.d (.str x), .d (encW ls), .d (encS []), .u] = forL (gNm 3) parseB (rngI 0 ls.length) [.d (.str x), .d (encW ls), .d (encS []), .u] :=
    for_range (by unfold encW; simp) (by omega)
  rw [h1] at e3
  cases e : parseL 0 ls [] with
  | inl n =>
    rw [e] at e3
    exact run_ex rfl ((seq_nx (t2 ht)).trans ((seq_nx t3).trans (seq_ex e3)))
  | inr ts =>
    rw [e] at e3
    have hg := h2 ts e
    exact run_rt rfl ((seq_nx (t2 ht)).trans ((seq_nx t3).trans ((seq_nx e3).trans (by simp [hg]))))
end K92
end
section
set_option Elab.async false
set_option linter.all false
set_option maxRecDepth 100000
set_option maxHeartbeats 2000000
namespace K92
open PySem PySem.Spec PyProof.Rows L2 DL
def rd1 : Rho → Out := (sAsg (oM isStrD dSplit (o2 dIx (eP 5) (eP 6)) (aC (eC (.str " ")) aN)) (gNm 7))
def rd2 : Rho → Out := (sAsg (oA dTupOf (aC (eComp (iAll (oSl dSlice (eP 7) (oS (eC (.int 1))) oN)) [10] (gNm 10) tYs (kOne (eA (fun ds => noex (fn__law_number ds)) (aC (eV 10) aN)))) aN)) (gNm 8))
def rd3 : Rho → Out := (sAsg (eAnd (o2 dEq (o2 dIx (eP 7) (eC (.int 0))) (eC (.str "table"))) (eAnd (o2 dEq (oA dLen (aC (eP 7) aN)) (eC (.int 3))) (o2 dIn (o2 dIx (eP 7) (eC (.int 2))) (eA dLst (aC (eC (.str "1")) (aC (eC (.str "2")) (aC (eC (.str "3")) (aC (eC (.str "4")) aN)))))))) (gNm 9))
def rd4 : Rho → Out :=   (sIf (tA (tV dTruth (eP 9)) (tA (tV dTruth (eA (fun ds => noex (fn__law_is_name ds)) (aC (o2 dIx (eP 7) (eC (.int 1))) (aC (eC (.int 8)) aN)))) (tV dBool (o2 dLt (eP 2) (o2 dIx (eP 7) (eC (.int 1)))))))
  (sSeq (sIf (tV dBool (o2 dNe (eP 2) (eC (.str ""))))
  (sApp 1 (eA dTup (aC (eV 2) (aC (eV 3) (aC (oA dTupOf (aC (eP 4) aN)) aN)))))
  sNext)
  (sSeq (sAsg (o2 dIx (eP 7) (eC (.int 1))) (gNm 2))
  (sSeq (sAsg (oA dInt (aC (o2 dIx (eP 7) (eC (.int 2))) aN)) (gNm 3))
  (sAsgO 4 (eA dLst aN)))))
  (sIf (tA (tV dBool (o2 dEq (o2 dIx (eP 7) (eC (.int 0))) (eC (.str "row")))) (tA (tV dBool (o2 dNe (eP 2) (eC (.str "")))) (tA (tV dBool (o2 dEq (oA dLen (aC (eP 8) aN)) (eP 3))) (tA (tV dBool (o2 dNotIn (o1 dNeg (eC (.int 1))) (eP 8))) (tO (tV dBool (o2 dEq (oA dLen (aC (eP 4) aN)) (eC (.int 0)))) (tV dBool (o2 dLt (o2 dIx (eP 4) (o1 dNeg (eC (.int 1)))) (eP 8))))))))
  (sApp 4 (eV 8))
  (sRet (eA dLst (aC (eC (.str "bad")) (aC (o2 dAdd (eP 6) (eC (.int 1))) aN))))))
def rdB : Rho → Out := sSeq rd1 (sSeq rd2 (sSeq rd3 rd4))
def headB (ws : List Str) : Bool := match ws with
  | [a, _, c] => decide (a = ("table" : Str)) && isW c
  | _ => false
theorem law_nums (r : List Str) (ρ : Rho) (h : ∀ w ∈ r, w.length ≤ 500) (hl : r.length ≤ sizeLine) {it : Rho → Res (List PyData)} (hi : it ρ = .ok (r.map .str)) (h4 : 10 < (wipeR ρ [10]).length) :
    eComp it [10] (gNm 10) tYs (kOne (eA (fun ds => noex (fn__law_number ds)) (aC (eV 10) aN))) ρ = .ok (.list (r.map fun w => .int (numOf w))) := by
  refine comp_map .str (fun w => .int (numOf w)) hi (fun w hw => ?_) hl
  have hz : w.length ≤ 640 := by have := h w hw; omega
  simp [List.getElem?_set_self h4, ev_law_number w hz]
theorem mk_nums (r : List Str) : DS.mkT (r.map numOf) = .tuple (r.map fun w => .int (numOf w)) := by
  unfold DS.mkT
  rw [List.map_map] <;> rfl
section
variable {T Ls : PyData} {done : List PyData} {nm : Str} {wd : Int} {rows : List PyData} {at_ : Int} {s7 s8 s9 s10 : Sl} {x w : Str} {r : List Str}
theorem rd1_ok (hx : dIx Ls (.int at_) = some (.str x)) (hl : LOk x) : rd1 [.d T, .o done, .d (.str nm), .d (.int wd), .o rows, .d Ls, .d (.int at_), s7, s8, s9, s10] = .nx [.d T, .o done, .d (.str nm), .d (.int wd), .o rows, .d Ls, .d (.int at_), .d (encW (Txt.split x SP)), s8, s9, s10] := by
  have hs := hl.sp
  unfold rd1
  generalize encW (Txt.split x SP) = W at *
  simp [hx, hs]
theorem rd2_ok (hW : WOk (w :: r)) : rd2 [.d T, .o done, .d (.str nm), .d (.int wd), .o rows, .d Ls, .d (.int at_), .d (encW (w :: r)), s8, s9, s10] = .nx [.d T, .o done, .d (.str nm), .d (.int wd), .o rows, .d Ls, .d (.int at_), .d (encW (w :: r)), .d (DS.mkT (r.map numOf)), s9, s10] := by
  obtain ⟨h1, h2⟩ := hW
  have h1' : r.length ≤ sizeLine := by rw [List.length_cons] at h1; omega
  unfold rd2 encW
  rw [sAsg_get, oA_get, aC_get, law_nums r _ (fun z hz => h2 z (List.mem_cons_of_mem _ hz)) h1' (by simp [from1]) (by simp [wipeR]), mk_nums]
  simp
theorem rd3_ok {row : PyData} : rd3 [.d T, .o done, .d (.str nm), .d (.int wd), .o rows, .d Ls, .d (.int at_), .d (encW (w :: r)), .d row, s9, s10] = .nx [.d T, .o done, .d (.str nm), .d (.int wd), .o rows, .d Ls, .d (.int at_), .d (encW (w :: r)), .d row, .d (.bool (headB (w :: r))), s10] := by
  unfold rd3 encW
  by_cases hw : w = ("table" : Str)
  · by_cases h3 : r.length = 2
    · match r, h3 with
      | [b, c], _ =>
        have e : headB [w, b, c] = isW c := by unfold headB; simp [hw]
        rw [e]
        simp [dIx_l0, dIx_l2, hw, dLst_ok, sizeLine_eq, in4]
    · have e : headB (w :: r) = false := by
        unfold headB
        split
        · rename_i h; cases h; exact absurd rfl h3
        · rfl
      rw [e]
      have h3' : ¬ (r.length : Int) + 1 = 3 := by omega
      simp [dIx_l0, hw, h3']
  · have e : headB (w :: r) = false := by
      unfold headB
      split
      · rename_i h; cases h; simp [hw]
      · rfl
    rw [e]
    simp [dIx_l0, hw]
/-- the table that is being read, told by name -/
def isRow (w : Str) (r : List Str) (nm : Str) (wd : Int) (rows : List (List Int)) : Bool := decide (w = ("row" : Str)) && (!decide (nm = ("" : Str)) && (decide ((r.length : Int) = wd) && (r.all isNum && stands rows (r.map numOf))))
end
theorem neg_in (r : List Str) : dNotIn (.int (-1)) (DS.mkT (r.map numOf)) = some (.bool (r.all isNum)) := by
  rw [mk_nums]
  unfold dNotIn dIsIn
  simp only
  have hf : (flatD (.int (-1)) && (r.map fun w => PyData.int (numOf w)).all flatD) = true := by
    rw [Bool.and_eq_true, List.all_map]
    exact ⟨rfl, List.all_eq_true.mpr fun _ _ => rfl⟩
  rw [gdt hf]
  have hv : ∀ w : Str, 0 ≤ val w := fun w => Int.natCast_nonneg _
  have key : ((r.map fun w => PyData.int (numOf w)).any fun z => PyData.eqv z (.int (-1))) = !(r.all isNum) := by
    induction r with
    | nil => rfl
    | cons w r ih =>
      rw [List.map_cons, List.any_cons, ih (by rw [Bool.and_eq_true, List.all_map]; exact ⟨rfl, List.all_eq_true.mpr fun _ _ => rfl⟩), List.all_cons]
      have : PyData.eqv (.int (numOf w)) (.int (-1)) = !(isNum w) := by
        unfold numOf
        simp only [PyData.eqv, bd]
        cases isNum w with
        | true => have := hv w; simp; omega
        | false => simp
      rw [this]
      cases isNum w <;> simp
  rw [key]
  simp
theorem num_val {r : List Str} (h : r.all isNum = true) : r.map numOf = r.map val := List.map_congr_left fun w hw => by
  unfold numOf
  rw [if_pos (List.all_eq_true.mp h w hw)]
section
variable {T Ls : PyData} {done : List PyData} {nm : Str} {wd : Int} {rows : List (List Int)} {at_ : Int} {s7 s8 s9 s10 : Sl} {x w : Str} {r : List Str}
theorem rd4_row (hh : headB (w :: r) = false) (hr : rows.length < sizeLine) : rd4 [.d T, .o done, .d (.str nm), .d (.int wd), .o (rows.map DS.mkT), .d Ls, .d (.int at_), .d (encW (w :: r)), .d (DS.mkT (r.map numOf)), .d (.bool false), s10] =
    if isRow w r nm wd rows = true then .nx [.d T, .o done, .d (.str nm), .d (.int wd), .o ((rows ++ [r.map numOf]).map DS.mkT), .d Ls, .d (.int at_), .d (encW (w :: r)), .d (DS.mkT (r.map numOf)), .d (.bool false), s10]
    else .rt (.list [.str "bad", .int (at_ + 1)]) := by
  have hn := neg_in r
  have hlen : dLen [DS.mkT (r.map numOf)] = some (.int r.length) := by unfold DS.mkT; simp
  have h0 : dIx (encW (w :: r)) (.int 0) = some (.str w) := by unfold encW; rw [dIx_l0]; rfl
  have hap : ∀ d : PyData, (rows ++ [r.map numOf]).map DS.mkT = rows.map DS.mkT ++ [DS.mkT (r.map numOf)] := fun _ => by simp
  rw [hap .none]
  unfold rd4 isRow
  generalize encW (w :: r) = W at *
  by_cases hw : w = ("row" : Str)
  · by_cases hnm : nm = ("" : Str)
    · simp [h0, hw, hnm, dLst_ok, sizeLine_eq]
    · by_cases hwd : (r.length : Int) = wd
      · cases hall : r.all isNum with
        | false => simp [h0, hw, hnm, hlen, hwd, hn, hall, dLst_ok, sizeLine_eq]
        | true =>
          unfold stands
          cases hl : rows.getLast? with
          | none =>
            have : rows = [] := List.getLast?_eq_none_iff.mp hl
            subst this
            generalize DS.mkT (r.map numOf) = R at *
            simp [h0, hw, hnm, hlen, hwd, hn, hall, sizeLine_eq]
          | some l =>
            have hne : ¬ rows = [] := fun z => by rw [z] at hl; cases hl
            have hl2 : (rows.map DS.mkT).getLast? = some (DS.mkT l) := by rw [List.getLast?_map, hl]; rfl
            have hlt := dLt_mk l (r.map numOf)
            have hr' : (rows.map DS.mkT).length < sizeLine := by rw [List.length_map]; exact hr
            simp only
            generalize DS.mkT (r.map numOf) = R at *
            by_cases hx : HT.lexLt l (r.map numOf) = true
            · simp [h0, hw, hnm, hlen, hwd, hn, hall, dIx_ll, hl2, hlt, hne, hx, hr]
            · have hx' : HT.lexLt l (r.map numOf) = false := by simpa using hx
              simp [h0, hw, hnm, hlen, hwd, hn, hall, dIx_ll, hl2, hlt, hne, hx', dLst_ok, sizeLine_eq]
      · simp [h0, hw, hnm, hlen, hwd, dLst_ok, sizeLine_eq]
  · simp [h0, hw, dLst_ok, sizeLine_eq]
end
end K92
end
section
set_option Elab.async false
set_option linter.all false
set_option maxRecDepth 100000
set_option maxHeartbeats 2000000
namespace K92
open PySem PySem.Spec PyProof.Rows L2 DL
section
variable {T Ls : PyData} {done : List PyData} {nm : Str} {wd : Int} {rows : List (List Int)} {at_ : Int} {s7 s8 s9 s10 : Sl} {x a b c : Str}
/-- what stands in the list of tables behind the one that is being read -/
def pushed (done : List PyData) (nm : Str) (wd : Int) (rows : List (List Int)) : List PyData := if nm = ("" : Str) then done else done ++ [encT ⟨nm, wd, rows⟩]
theorem rd4_head (ha : a = ("table" : Str)) (hc : isW c = true) (hb : b.length ≤ sizeLine) (hd : done.length < sizeLine) (row : PyData) : rd4 [.d T, .o done, .d (.str nm), .d (.int wd), .o (rows.map DS.mkT), .d Ls, .d (.int at_), .d (encW [a, b, c]), .d row, .d (.bool true), s10] =
    if (isWord b 8 && sLt nm b) = true then .nx [.d T, .o (pushed done nm wd rows), .d (.str b), .d (.int (val c)), .o [], .d Ls, .d (.int at_), .d (encW [a, b, c]), .d row, .d (.bool true), s10]
    else .rt (.list [.str "bad", .int (at_ + 1)]) := by
  have h0 : dIx (encW [a, b, c]) (.int 0) = some (.str a) := by unfold encW; rw [dIx_l0]; rfl
  have h1 : dIx (encW [a, b, c]) (.int 1) = some (.str b) := by unfold encW; rw [dIx_l1]; rfl
  have h2 : dIx (encW [a, b, c]) (.int 2) = some (.str c) := by unfold encW; rw [dIx_l2]; rfl
  obtain ⟨c1, c2, _⟩ := isW_num hc
  have hi := dInt_num c1 c2
  have hnr : ¬ a = ("row" : Str) := by rw [ha]; decide +kernel
  have hm := ev_law_is_name b 8 hb
  have ht : dTup [.str nm, .int wd, .tuple (rows.map DS.mkT)] = .ok (encT ⟨nm, wd, rows⟩) := dTup_ok _ (by rw [sizeLine_eq]; simp)
  have hl0 : dLst [] = .ok (.list []) := dLst_ok [] (Nat.zero_le _)
  unfold rd4 pushed sLt
  generalize encT ⟨nm, wd, rows⟩ = E at *
  generalize encW [a, b, c] = W at *
  cases hw : isWord b 8 with
  | false => simp [h0, h1, hm, hw, hnr, dLst_ok, sizeLine_eq]
  | true =>
    by_cases hx : nm.cps.toList < b.cps.toList
    · by_cases hn : nm = ("" : Str)
      · subst hn
        simp [h0, h1, h2, hm, hw, hx, hi, hl0]
      · simp [h0, h1, h2, hm, hw, hx, hi, hl0, hn, ht, hd]
    · simp [h0, h1, hm, hw, hnr, hx, dLst_ok, sizeLine_eq]
end
/-- the oracle's state against the tables -/
def Rel (done : List Tb) (nm : Str) (wd : Int) (rows : List (List Int)) (ts : List Tb) : Prop := (nm = ("" : Str) ∧ done = [] ∧ ts = []) ∨ (nm ≠ ("" : Str) ∧ ts = done ++ [⟨nm, wd, rows⟩])
theorem Rel.pushed {done : List Tb} {nm : Str} {wd : Int} {rows : List (List Int)} {ts : List Tb} (h : Rel done nm wd rows ts) : K92.pushed (done.map encT) nm wd rows = ts.map encT := by
  unfold K92.pushed
  rcases h with ⟨h1, h2, h3⟩ | ⟨h1, h2⟩
  · rw [if_pos h1, h2, h3]
  · rw [if_neg h1, h2]
    simp
theorem empty_lt {b : Str} (h : isWord b 8 = true) : sLt ("" : Str) b = true := by
  unfold isWord at h
  cases e : b.cps.toList with
  | nil => rw [e] at h; cases h
  | cons c r =>
    unfold sLt
    rw [e]
    have : (Str.ofString "").cps.toList = [] := by decide +kernel
    rw [this]
    exact decide_eq_true (List.Lex.nil)
theorem Rel.follows {done : List Tb} {nm : Str} {wd : Int} {rows : List (List Int)} {ts : List Tb} (h : Rel done nm wd rows ts) {b : Str} (hb : isWord b 8 = true) : follows ts b = sLt nm b := by
  unfold K92.follows
  rcases h with ⟨h1, h2, h3⟩ | ⟨h1, h2⟩
  · rw [h3, h1, empty_lt hb]
    rfl
  · rw [h2, List.getLast?_concat]
theorem Rel.row {done : List Tb} {nm : Str} {wd : Int} {rows : List (List Int)} {ts : List Tb} (h : Rel done nm wd rows ts) (w : Str) (r : List Str) : rowOf (w :: r) ts = if isRow w r nm wd rows = true then some (r.map val) else none := by
  unfold rowOf isRow
  rcases h with ⟨h1, h2, h3⟩ | ⟨h1, h2⟩
  · rw [h3, h1]
    simp
  · rw [h2, List.getLast?_concat]
    simp only
    by_cases hw : w = ("row" : Str)
    · by_cases hwd : (r.length : Int) = wd
      · cases hall : r.all isNum with
        | false => simp [hw, hwd, h1]
        | true => rw [num_val hall]; simp [hw, hwd, h1]
      · simp [hw, hwd, h1]
    · simp [hw]
theorem row_not_head {w : Str} {r : List Str} (h : headB (w :: r) = true) : ¬ w = ("row" : Str) := fun z => by
  unfold headB at h
  split at h
  · rename_i e
    cases e
    rw [z] at h
    have : decide ((Str.ofString "row") = ("table" : Str)) = false := by decide +kernel
    rw [this] at h
    cases h
  · cases h
theorem tab_none {ws : List Str} {ts : List Tb} (h : headB ws = false) : tabOf ws ts = none := by
  unfold tabOf
  split
  · rename_i a b c
    have h' : (decide (a = ("table" : Str)) && isW c) = false := h
    by_cases ha : a = ("table" : Str)
    · rw [decide_eq_true ha, Bool.true_and] at h'
      rw [if_pos ha, h']
      simp
    · rw [if_neg ha]
  · rfl
/-- one line, both ways -/
theorem rd_step {T Ls : PyData} {done : List Tb} {nm : Str} {wd : Int} {rows : List (List Int)} {ts : List Tb} {at_ : Int} {s7 s8 s9 s10 : Sl} {x : Str} {m : Nat} (hR : Rel done nm wd rows ts) (ht : TsOk ts (m + 1)) (hrl : rows.length ≤ 5000000) (hx : dIx Ls (.int at_) = some (.str x)) (hl : LOk x) :
    match wordsStep (Txt.split x SP) ts with
    | some ts' => ∃ done' nm' wd' rows' t7 t8 t9, Rel done' nm' wd' rows' ts' ∧ rows'.length ≤ rows.length + 1 ∧ rdB [.d T, .o (done.map encT), .d (.str nm), .d (.int wd), .o (rows.map DS.mkT), .d Ls, .d (.int at_), s7, s8, s9, s10] = .nx [.d T, .o (done'.map encT), .d (.str nm'), .d (.int wd'), .o (rows'.map DS.mkT), .d Ls, .d (.int at_), t7, t8, t9, s10]
    | none => rdB [.d T, .o (done.map encT), .d (.str nm), .d (.int wd), .o (rows.map DS.mkT), .d Ls, .d (.int at_), s7, s8, s9, s10] = .rt (.list [.str "bad", .int (at_ + 1)]) := by
  obtain ⟨w, r, e⟩ : ∃ w r, Txt.split x SP = w :: r := by
    cases e : Txt.split x SP with
    | nil => exact absurd e (split_ne x SP sp_ne sp_k)
    | cons w r => exact ⟨w, r, rfl⟩
  have hW : WOk (w :: r) := e ▸ hl.w
  have q1 := rd1_ok (T := T) (done := done.map encT) (nm := nm) (wd := wd) (rows := rows.map DS.mkT) (s7 := s7) (s8 := s8) (s9 := s9) (s10 := s10) hx hl
  rw [e] at q1 ⊢
  have pre : ∀ R, rd4 [.d T, .o (done.map encT), .d (.str nm), .d (.int wd), .o (rows.map DS.mkT), .d Ls, .d (.int at_), .d (encW (w :: r)), .d (DS.mkT (r.map numOf)), .d (.bool (headB (w :: r))), s10] = R → rdB [.d T, .o (done.map encT), .d (.str nm), .d (.int wd), .o (rows.map DS.mkT), .d Ls, .d (.int at_), s7, s8, s9, s10] = R := fun R h => (seq_nx q1).trans ((seq_nx (rd2_ok hW)).trans ((seq_nx rd3_ok).trans h))
  have hz : (sizeLine : Nat) = 16777216 := sizeLine_eq
  have hlen := ht.len
  have hdl : (done.map encT).length < sizeLine := by
    rw [List.length_map]
    rcases hR with ⟨h1, h2, h3⟩ | ⟨h1, h2⟩
    · rw [h2, List.length_nil]; omega
    · rw [h2, List.length_append] at hlen; omega
  cases hh : headB (w :: r) with
  | true =>
    rw [hh] at pre
    have hnr := row_not_head hh
    have hro : rowOf (w :: r) ts = none := by
      rw [hR.row]
      unfold isRow
      simp [hnr]
    match r, hh, hro, hW, pre with
    | [b, c], hh, hro, hW, pre =>
      have hh' : (decide (w = ("table" : Str)) && isW c) = true := hh
      rw [Bool.and_eq_true, decide_eq_true_eq] at hh'
      obtain ⟨ha, hc⟩ := hh'
      have hb : b.length ≤ sizeLine := by have := hW.2 b (by simp); omega
      have q4 := rd4_head (T := T) (Ls := Ls) (done := done.map encT) (nm := nm) (wd := wd) (rows := rows) (at_ := at_) (s10 := s10) ha hc hb hdl (DS.mkT ([b, c].map numOf))
      have hto : tabOf [w, b, c] ts = if (isWord b 8 && sLt nm b) = true then some ⟨b, val c, []⟩ else none := by
        have e0 : tabOf [w, b, c] ts = if w = ("table" : Str) then (if isWord b 8 = true then (if isW c = true then (if follows ts b = true then some ⟨b, val c, []⟩ else none) else none) else none) else none := rfl
        rw [e0, if_pos ha, hc]
        cases hbw : isWord b 8 with
        | false => simp
        | true => rw [hR.follows hbw]; simp
      unfold wordsStep
      rw [hro, hto]
      by_cases hcond : (isWord b 8 && sLt nm b) = true
      · rw [if_pos hcond] at q4 ⊢
        refine ⟨ts, b, val c, [], .d (encW [w, b, c]), .d (DS.mkT ([b, c].map numOf)), .d (.bool true), .inr ⟨fun z => ?_, rfl⟩, Nat.zero_le _, pre _ ?_⟩
        · rw [z] at hcond
          have : isWord ("" : Str) 8 = false := by decide +kernel
          rw [this] at hcond
          cases hcond
        · rw [q4, hR.pushed]
          rfl
      · rw [if_neg hcond] at q4 ⊢
        exact pre _ q4
    | [], hh, _, _, _ => cases hh
    | [_], hh, _, _, _ => cases hh
    | _ :: _ :: _ :: _, hh, _, _, _ => cases hh
  | false =>
    rw [hh] at pre
    have q4 := rd4_row (T := T) (Ls := Ls) (done := done.map encT) (nm := nm) (wd := wd) (rows := rows) (at_ := at_) (s10 := s10) hh (by omega)
    unfold wordsStep
    rw [hR.row, tab_none hh]
    by_cases hcond : isRow w r nm wd rows = true
    · rw [if_pos hcond] at q4 ⊢
      have hall : r.all isNum = true := by
        unfold isRow at hcond
        simp only [Bool.and_eq_true] at hcond
        exact hcond.2.2.2.1
      have hnm : nm ≠ ("" : Str) := fun z => by
        unfold isRow at hcond
        rw [z] at hcond
        simp at hcond
      rcases hR with ⟨h1, h2, h3⟩ | ⟨h1, h2⟩
      · exact absurd h1 hnm
      · refine ⟨done, nm, wd, rows ++ [r.map numOf], _, _, _, .inr ⟨h1, ?_⟩, by rw [List.length_append, List.length_singleton]; exact Nat.le_refl _, pre _ q4⟩
        unfold withRow
        rw [h2, List.getLast?_concat, List.dropLast_concat, num_val hall]
    · rw [if_neg hcond] at q4 ⊢
      exact pre _ q4
end K92
end
section
set_option Elab.async false
set_option linter.all false
set_option maxRecDepth 100000
set_option maxHeartbeats 2000000
namespace K92
open PySem PySem.Spec PyProof.Rows L2 DL
def rdE : Rho → Out := (sIf (tV dBool (o2 dNe (eP 2) (eC (.str ""))))
  (sApp 1 (eA dTup (aC (eV 2) (aC (eV 3) (aC (oA dTupOf (aC (eP 4) aN)) aN)))))
  sNext)
def rdR : Rho → Out := (sRet (eA dLst (aC (eC (.str "told")) (aC (oA dTupOf (aC (eP 1) aN)) aN))))
theorem read_loop {T : PyData} {lines : List Str} : ∀ (m i : Nat) (ts done : List Tb) (nm : Str) (wd : Int) (rows : List (List Int)) (s6 s7 s8 s9 s10 : Sl) (rest : List Str), lines.drop i = rest → rest.length = m → (∀ l ∈ rest, LOk l) → TsOk ts m → Rel done nm wd rows ts → rows.length + m ≤ 5000000 →
    ∃ ρ', forL (gNm 6) rdB ((List.range' i m).map fun (j : Nat) => .int (0 + (j : Int))) [.d T, .o (done.map encT), .d (.str nm), .d (.int wd), .o (rows.map DS.mkT), .d (encW lines), s6, s7, s8, s9, s10] = (match parseL i rest ts with
      | .inr _ => .nx ρ'
      | .inl n => .rt (.list [.str "bad", .int n])) ∧ ∀ ts', parseL i rest ts = .inr ts' → TsOk ts' 0 ∧ ∃ done' nm' wd' rows' t6 t7 t8 t9 t10, Rel done' nm' wd' rows' ts' ∧ ρ' = [.d T, .o (done'.map encT), .d (.str nm'), .d (.int wd'), .o (rows'.map DS.mkT), .d (encW lines), t6, t7, t8, t9, t10]
  | 0, i, ts, done, nm, wd, rows, s6, s7, s8, s9, s10, rest, hd, hm, _, ht, hR, _ => by
    obtain rfl := List.length_eq_zero_iff.mp hm
    exact ⟨[.d T, .o (done.map encT), .d (.str nm), .d (.int wd), .o (rows.map DS.mkT), .d (encW lines), s6, s7, s8, s9, s10], rfl, fun ts' h => by cases h; exact ⟨ht, done, nm, wd, rows, _, _, _, _, _, hR, rfl⟩⟩
  | m + 1, i, ts, done, nm, wd, rows, s6, s7, s8, s9, s10, rest, hd, hm, hl, ht, hR, hrw => by
    cases rest with
    | nil => cases hm
    | cons l r =>
      obtain ⟨h1, h2⟩ := drop_get hd
      have hx : dIx (encW lines) (.int ((i : Nat) : Int)) = some (.str l) := by unfold encW; rw [dIx_l, List.getElem?_map, h1]; rfl
      have hb := rd_step (T := T) (Ls := encW lines) (at_ := i) (s7 := s7) (s8 := s8) (s9 := s9) (s10 := s10) hR ht (by omega) hx (hl l List.mem_cons_self)
      have hset : ([.d T, .o (done.map encT), .d (.str nm), .d (.int wd), .o (rows.map DS.mkT), .d (encW lines), s6, s7, s8, s9, s10] : Rho).set 6 (.d (.int (0 + (i : Int)))) = [.d T, .o (done.map encT), .d (.str nm), .d (.int wd), .o (rows.map DS.mkT), .d (encW lines), .d (.int i), s7, s8, s9, s10] := by rw [Int.zero_add]; rfl
      rw [List.range'_succ, List.map_cons, forL_cons (gNm_get 6 _ _), hset]
      unfold parseL
      cases e : wordsStep (Txt.split l SP) ts with
      | none =>
        rw [e] at hb
        have hb' : rdB [.d T, .o (done.map encT), .d (.str nm), .d (.int wd), .o (rows.map DS.mkT), .d (encW lines), .d (.int i), s7, s8, s9, s10] = .rt (.list [.str "bad", .int (i + 1)]) := hb
        rw [hb']
        exact ⟨[], rfl, fun ts' h => by cases h⟩
      | some ts' =>
        rw [e] at hb
        obtain ⟨done', nm', wd', rows', t7, t8, t9, hR', hrl, hb'⟩ := hb
        rw [hb']
        exact read_loop m (i + 1) ts' done' nm' wd' rows' _ _ _ _ _ r h2 (by simpa using hm) (fun z hz => hl z (List.mem_cons_of_mem _ hz)) (ht.step e) hR' (by omega)
theorem lines_eq (x : Str) : linesOf x = if x = ("" : Str) then [] else Txt.split x NL := rfl
theorem read_lines {x : Str} (h : TOk x) : (eIf (tV dBool (o2 dNe (eP 0) (eC (.str "")))) (oM isStrD dSplit (eP 0) (aC (eC (.str "\n")) aN)) (eA dLst aN)) [.d (.str x), .o [], .d (.str ""), .d (.int 0), .o [], .u, .u, .u, .u, .u, .u] = .ok (encW (linesOf x)) := by
  have hs := dSplit_ok x NL (by decide +kernel) (by have := h.len; rw [sizeLine_eq]; omega)
  have h0 : dLst [] = .ok (.list []) := dLst_ok [] (Nat.zero_le _)
  rw [lines_eq]
  by_cases e : x = ("" : Str)
  · rw [if_pos e]
    simp [e, h0, encW]
  · rw [if_neg e]
    generalize encW (Txt.split x NL) = W at *
    simp [e, hs]
theorem ev_law_read (x : Str) (h : TOk x) : fn__law_read [.str x] = .ok (match parseL 0 (linesOf x) [] with
    | .inr ts => .list [.str "told", encS ts]
    | .inl n => .list [.str "bad", .int n]) := by
  have hc := h.cnt
  have hok := h.ok
  have hlines := read_lines h
  generalize linesOf x = ls at hc hok hlines ⊢
  have hz : (sizeLine : Nat) = 16777216 := sizeLine_eq
  have h0 : TsOk [] ls.length := ⟨by rw [List.length_nil]; omega, fun t ht => (by cases ht)⟩
  obtain ⟨ρ', h1, h2⟩ := read_loop (T := .str x) (lines := ls) ls.length 0 [] [] "" 0 [] .u .u .u .u .u ls List.drop_zero rfl hok h0 (.inl ⟨rfl, rfl, rfl⟩) (by rw [List.length_nil]; omega)
  rw [← rng_eq] at h1
  have hl0 : dLst [] = .ok (.list []) := dLst_ok [] (Nat.zero_le _)
  have e1 : sAsgO 1 (eA dLst aN) [.d (.str x), .u, .u, .u, .u, .u, .u, .u, .u, .u, .u] = .nx [.d (.str x), .o [], .u, .u, .u, .u, .u, .u, .u, .u, .u] := by simp [hl0]
  have e2 : sAsg (eC (.str "")) (gNm 2) [.d (.str x), .o [], .u, .u, .u, .u, .u, .u, .u, .u, .u] = .nx [.d (.str x), .o [], .d (.str ""), .u, .u, .u, .u, .u, .u, .u, .u] := by simp
  have e3 : sAsg (eC (.int 0)) (gNm 3) [.d (.str x), .o [], .d (.str ""), .u, .u, .u, .u, .u, .u, .u, .u] = .nx [.d (.str x), .o [], .d (.str ""), .d (.int 0), .u, .u, .u, .u, .u, .u, .u] := by simp
  have e4 : sAsgO 4 (eA dLst aN) [.d (.str x), .o [], .d (.str ""), .d (.int 0), .u, .u, .u, .u, .u, .u, .u] = .nx [.d (.str x), .o [], .d (.str ""), .d (.int 0), .o [], .u, .u, .u, .u, .u, .u] := by simp [hl0]
  have e5 : sAsg (eIf (tV dBool (o2 dNe (eP 0) (eC (.str "")))) (oM isStrD dSplit (eP 0) (aC (eC (.str "\n")) aN)) (eA dLst aN)) (gNm 5) [.d (.str x), .o [], .d (.str ""), .d (.int 0), .o [], .u, .u, .u, .u, .u, .u] = .nx [.d (.str x), .o [], .d (.str ""), .d (.int 0), .o [], .d (encW ls), .u, .u, .u, .u, .u] := by
    rw [sAsg_get, hlines, Res.ok_out]
    rfl
  have e6 : sFor (iRange1 (oA dLen (aC (eP 5) aN))) (gNm 6) rdB [.d (.str x), .o [], .d (.str ""), .d (.int 0), .o [], .d (encW ls), .u, .u, .u, .u, .u] = forL (gNm 6) rdB (rngI 0 ls.length) [.d (.str x), .o [], .d (.str ""), .d (.int 0), .o [], .d (encW ls), .u, .u, .u, .u, .u] :=
    for_range (by unfold encW; simp) (by omega)
  rw [show (List.map encT [] : List PyData) = [] from rfl, show (List.map DS.mkT [] : List PyData) = [] from rfl] at h1
  rw [h1] at e6
  cases e : parseL 0 ls [] with
  | inl n =>
    rw [e] at e6
    exact run_rt rfl ((seq_nx e1).trans ((seq_nx e2).trans ((seq_nx e3).trans ((seq_nx e4).trans ((seq_nx e5).trans (seq_rt e6))))))
  | inr ts =>
    rw [e] at e6
    obtain ⟨hts, done', nm', wd', rows', t6, t7, t8, t9, t10, hR, rfl⟩ := h2 ts e
    have hlen := hts.len
    have ht : dTup [.str nm', .int wd', .tuple (rows'.map DS.mkT)] = .ok (encT ⟨nm', wd', rows'⟩) := dTup_ok _ (by rw [sizeLine_eq]; simp)
    have hl2 : dLst [.str "told", encS ts] = .ok (.list [.str "told", encS ts]) := dLst_ok _ (by rw [sizeLine_eq]; simp)
    have e7 : rdE [.d (.str x), .o (done'.map encT), .d (.str nm'), .d (.int wd'), .o (rows'.map DS.mkT), .d (encW ls), t6, t7, t8, t9, t10] = .nx [.d (.str x), .o (ts.map encT), .d (.str nm'), .d (.int wd'), .o (rows'.map DS.mkT), .d (encW ls), t6, t7, t8, t9, t10] := by
      unfold rdE
      rcases hR with ⟨r1, r2, r3⟩ | ⟨r1, r2⟩
      · subst r1 r2 r3
        simp
      · have hd : done'.length < sizeLine := by rw [r2, List.length_append] at hlen; omega
        have hm : ts.map encT = done'.map encT ++ [encT ⟨nm', wd', rows'⟩] := by rw [r2]; simp
        rw [hm]
        generalize encT ⟨nm', wd', rows'⟩ = E at *
        simp [r1, ht, hd]
    have e8 : rdR [.d (.str x), .o (ts.map encT), .d (.str nm'), .d (.int wd'), .o (rows'.map DS.mkT), .d (encW ls), t6, t7, t8, t9, t10] = .rt (.list [.str "told", encS ts]) := by
      have hl3 : dLst [.str "told", .tuple (ts.map encT)] = .ok (.list [.str "told", encS ts]) := hl2
      unfold rdR
      simp [hl3]
    exact run_rt rfl ((seq_nx e1).trans ((seq_nx e2).trans ((seq_nx e3).trans ((seq_nx e4).trans ((seq_nx e5).trans ((seq_nx e6).trans ((seq_nx e7).trans e8)))))))
end K92
end
section
set_option Elab.async false
set_option linter.all false
set_option maxRecDepth 100000
set_option maxHeartbeats 2000000
namespace K92
open PySem PySem.Spec PyProof.Rows L2 DL
theorem ev_law_asked (x : Str) (h : TOk x) : fn__law_asked [.str x] = .ok (match parseL 0 (linesOf x) [] with
    | .inr ts => .list [.str "told", encS ts]
    | .inl n => .list [.str "bad", .int n, .bool true]) := by
  have hp := ev_parse_store x h
  unfold fn__law_asked runD F__law_asked
  cases e : parseL 0 (linesOf x) [] with
  | inr ts =>
    rw [e] at hp
    have hp' : fn_parse_store [.str x] = .ok (encS ts) := hp
    have hl : dLst [.str "told", encS ts] = .ok (.list [.str "told", encS ts]) := dLst_ok _ (by rw [sizeLine_eq]; simp)
    simp [sTry, hp', hl]
  | inl n =>
    rw [e] at hp
    have hp' : fn_parse_store [.str x] = .ex (badText n) := hp
    have hl : dLst [.str "bad", .int n, .bool true] = .ok (.list [.str "bad", .int n, .bool true]) := dLst_ok _ (by rw [sizeLine_eq]; simp)
    simp [sTry, hp', badText, sub_BadText, is_BadTable_BadRow_BadLine_BadWay, is_SquareError, is_ValueError, eIsX, eXf, frz1, hl, unset]
theorem tupK (xs : List PyData) : dIsT "tuple" (.tuple xs) = some (.bool true) := by
  have k : kitB "tuple" "tuple" = some true := by decide +kernel
  show (kitB "tuple" "tuple").map PyData.bool = _
  rw [k]
  rfl
theorem intK (i : Int) : dIsT "int" (.int i) = some (.bool true) := by
  have k : kitB "int" "int" = some true := by decide +kernel
  show (kitB "int" "int").map PyData.bool = _
  rw [k]
  rfl
theorem strK (s : Str) : dIsT "str" (.str s) = some (.bool true) := by
  have k : kitB "str" "str" = some true := by decide +kernel
  show (kitB "str" "str").map PyData.bool = _
  rw [k]
  rfl
/-- what repr and == ask of a store -/
structure ROk (ts : List Tb) : Prop where
  rp : dReprOk (encS ts) = true
  eq : eqOk (encS ts) (encS ts) = true
theorem ev_law_same {ts : List Tb} (h : ROk ts) (he : PyData.eqv (encS ts) (encS ts) = true) : fn__law_same [encS ts, encS ts] = .ok (.bool true) := by
  have h1 : dIsT "tuple" (encS ts) = some (.bool true) := tupK _
  have h2 : dRepr [encS ts] = some (.str (encS ts).shown) := by
    have := h.rp
    unfold encS at *
    exact gdt this
  have h3 : dEq (encS ts) (encS ts) = some (.bool true) := by
    unfold dEq
    rw [gdt h.eq, he]
  unfold fn__law_same runD F__law_same
  generalize encS ts = S at *
  simp [h1, h2, h3]
end K92
end
section
set_option Elab.async false
set_option linter.all false
set_option maxRecDepth 100000
set_option maxHeartbeats 2000000
namespace K92
open PySem PySem.Spec PyProof.Rows L2 DL
theorem bad_told : ¬ (("told" : Str) = ("bad" : Str)) := by decide +kernel
theorem nat_repr (n : Nat) (h : n ≤ 100000000) : dRepr [.int (n : Int)] = some (.str (toString (n : Int))) := by
  refine gdt (decide_eq_true ?_)
  have h1 : (n : Int).natAbs = n := Int.natAbs_natCast n
  rw [h1]
  by_cases hz : n = 0
  · rw [hz]; decide +kernel
  · have : n < 2 ^ 1920 := Nat.lt_of_le_of_lt h (by decide +kernel)
    exact (Nat.log2_lt hz).mpr this
theorem parseL_bd : ∀ (k : Nat) (ls : List Str) (ts : List Tb) (n : Nat), parseL k ls ts = .inl n → n ≤ k + ls.length
  | k, [], ts, n, h => by cases h
  | k, l :: r, ts, n, h => by
    unfold parseL at h
    cases e : wordsStep (Txt.split l SP) ts with
    | none =>
      rw [e] at h
      injection h with h
      rw [← h, List.length_cons]
      omega
    | some ts' =>
      rw [e] at h
      have := parseL_bd (k + 1) r ts' n h
      rw [List.length_cons]
      omega
theorem right_ok (x : Str) (h : TOk x) (hr : ∀ ts, parseL 0 (linesOf x) [] = .inr ts → ROk ts) (he : ∀ ts, parseL 0 (linesOf x) [] = .inr ts → PyData.eqv (encS ts) (encS ts) = true) : fn__law_right [.str x] = .ok (.bool true) := by
  have h1 := ev_law_read x h
  have h2 := ev_law_asked x h
  have hc := h.cnt
  unfold fn__law_right runD F__law_right
  cases e : parseL 0 (linesOf x) [] with
  | inl n =>
    have hn := parseL_bd _ _ _ _ e
    rw [e] at h1 h2
    have h1' : fn__law_read [.str x] = .ok (.list [.str "bad", .int n]) := h1
    have h2' : fn__law_asked [.str x] = .ok (.list [.str "bad", .int n, .bool true]) := h2
    have hp := nat_repr n (by omega)
    have hi := intK (n : Int)
    simp [h1', h2', dIx_l0, dIx_l1, dIx_l2, hp, hi]
  | inr ts =>
    rw [e] at h1 h2
    have h1' : fn__law_read [.str x] = .ok (.list [.str "told", encS ts]) := h1
    have h2' : fn__law_asked [.str x] = .ok (.list [.str "told", encS ts]) := h2
    have hs := ev_law_same (hr ts e) (he ts e)
    have hb := bad_told
    generalize encS ts = S at *
    simp [h1', h2', dIx_l0, dIx_l1, hb, hs]
end K92
end
section
set_option Elab.async false
set_option linter.all false
set_option maxRecDepth 100000
set_option maxHeartbeats 2000000
namespace K92
open PySem PySem.Spec PyProof.Rows L2 DL
/-! ### what is told is within bounds -/
structure Gd (t : Tb) : Prop where
  nm : isWord t.nm 8 = true
  wd : t.wd = 1 ∨ t.wd = 2 ∨ t.wd = 3 ∨ t.wd = 4
  num : ∀ row ∈ t.rows, ∀ n ∈ row, 0 ≤ n ∧ n < 10 ^ 500
theorem dv_lt : ∀ (l : List Nat) (acc : Nat), (∀ c ∈ l, 48 ≤ c ∧ c ≤ 57) → l.foldl (fun acc c => acc * 10 + (c - 48)) acc < (acc + 1) * 10 ^ l.length
  | [], acc, _ => by simp
  | c :: l, acc, h => by
    have hc := h c List.mem_cons_self
    have ih := dv_lt l (acc * 10 + (c - 48)) fun d hd => h d (List.mem_cons_of_mem _ hd)
    rw [List.foldl_cons, List.length_cons]
    refine Nat.lt_of_lt_of_le ih ?_
    rw [Nat.pow_succ, Nat.mul_comm (10 ^ l.length) 10, ← Nat.mul_assoc]
    refine Nat.mul_le_mul_right _ ?_
    omega
theorem num_digits {w : Str} (h : isNum w = true) : (∀ c ∈ w.cps.toList, 48 ≤ c ∧ c ≤ 57) ∧ 0 < w.length := by
  cases e : w.cps.toList with
  | nil => rw [isNum_nil e] at h; cases h
  | cons c r =>
    rw [isNum_cons e, bad1_all] at h
    simp only [Bool.and_eq_true, Bool.not_not] at h
    refine ⟨fun d hd => (isFig_iff d).mp (List.all_eq_true.mp h.2 d (by rw [e]; exact hd)), ?_⟩
    rw [len1 w e]
    omega
theorem val_lt {w : Str} (h : isNum w = true) : 0 ≤ val w ∧ val w < 10 ^ w.length := by
  refine ⟨Int.natCast_nonneg _, ?_⟩
  have := dv_lt w.cps.toList 0 (num_digits h).1
  rw [Nat.zero_add, Nat.one_mul, Array.length_toList] at this
  unfold val
  have h2 : ((NumText.digitsVal w.cps.toList : Nat) : Int) < ((10 ^ w.length : Nat) : Int) := Int.ofNat_lt.mpr this
  rw [Int.natCast_pow] at h2
  exact h2
theorem shown_len {n : Int} {k : Nat} (h0 : 0 ≤ n) (hk : 0 < k) (h : n < 10 ^ k) : (PyData.shown (.int n)).length ≤ k := by
  obtain ⟨m, rfl⟩ := Int.eq_ofNat_of_zero_le h0
  have hm : m < 10 ^ k := by
    have : ((m : Nat) : Int) < ((10 ^ k : Nat) : Int) := by rw [Int.natCast_pow]; exact h
    exact Int.ofNat_lt.mp this
  have e : TL.tl (PyData.shown (.int (m : Int))) = TL.numL m := TL.tl_num m
  rw [TL.len_tl, e]
  exact TL.numL_len hk hm
theorem Gd.step {ws : List Str} {ts ts' : List Tb} (hW : ∀ w ∈ ws, w.length ≤ 500) (h : ∀ t ∈ ts, Gd t) (e : wordsStep ws ts = some ts') : ∀ t ∈ ts', Gd t := by
  unfold wordsStep at e
  cases e1 : rowOf ws ts with
  | some row =>
    rw [e1] at e
    cases e
    intro t ht
    rcases mem_withRow ht with z | ⟨u, z1, rfl⟩
    · exact h t z
    · have hu := h u (List.mem_of_getLast? z1)
      refine ⟨hu.nm, hu.wd, fun rw_ hr => ?_⟩
      rcases List.mem_append.mp hr with z | z
      · exact hu.num rw_ z
      · rw [List.mem_singleton.mp z]
        unfold rowOf at e1
        split at e1
        · rename_i w r t' _
          split at e1
          · split at e1
            · split at e1
              · rename_i hall
                split at e1
                · cases e1
                  intro n hn
                  obtain ⟨w', hw', rfl⟩ := List.mem_map.mp hn
                  have hv := val_lt (List.all_eq_true.mp hall w' hw')
                  refine ⟨hv.1, Int.lt_of_lt_of_le hv.2 ?_⟩
                  have hl := hW w' (List.mem_cons_of_mem _ hw')
                  have : (10 : Nat) ^ w'.length ≤ 10 ^ 500 := Nat.pow_le_pow_right (by decide) hl
                  have h2 : ((10 ^ w'.length : Nat) : Int) ≤ ((10 ^ 500 : Nat) : Int) := Int.ofNat_le.mpr this
                  rw [Int.natCast_pow, Int.natCast_pow] at h2
                  exact h2
                · cases e1
              · cases e1
            · cases e1
          · cases e1
        · cases e1
  | none =>
    rw [e1] at e
    cases e2 : tabOf ws ts with
    | none => rw [e2] at e; cases e
    | some t =>
      rw [e2] at e
      cases e
      intro u hu
      rcases List.mem_append.mp hu with z | z
      · exact h u z
      · rw [List.mem_singleton.mp z]
        unfold tabOf at e2
        split at e2
        · rename_i a b c
          split at e2
          · split at e2
            · rename_i hb
              split at e2
              · rename_i hc
                split at e2
                · cases e2
                  exact ⟨hb, (isW_num hc).2.2, fun row hr => (by cases hr)⟩
                · cases e2
              · cases e2
            · cases e2
          · cases e2
        · cases e2
/-! ### sums -/
theorem spl_sum (s : Nat) : ∀ (l acc : List Nat), ((TL.spl [s] 0 acc l).map fun p => p.length + 1).sum ≤ acc.length + l.length + 1
  | [], acc => by rw [TL.spl_nil]; simp
  | c :: r, acc => by
    cases e : TL.pre [s] (c :: r) with
    | true =>
      rw [TL.spl_hit e, List.map_cons, List.sum_cons]
      have := spl_sum s r []
      rw [List.length_nil] at this
      have hc : (c :: r).length = r.length + 1 := rfl
      rw [hc]
      show acc.length + 1 + ((TL.spl [s] 0 [] r).map fun p => p.length + 1).sum ≤ _
      omega
    | false =>
      rw [TL.spl_miss e]
      have := spl_sum s r (acc ++ [c])
      rw [List.length_append, List.length_singleton] at this
      rw [List.length_cons]
      omega
def sumL (l : List Str) : Nat := (l.map fun w => w.length + 1).sum
theorem split_sum (x y : Str) {s : Nat} (hs : TL.tl y = [s]) (hk : y.cps.all (· < 256) = true) : sumL (Txt.split x y) ≤ x.length + 1 := by
  have e := split_tl x y (by rw [hs]; exact List.cons_ne_nil _ _) hk
  rw [hs] at e
  have h := spl_sum s (TL.tl x) []
  rw [← e, List.map_map] at h
  unfold sumL
  rw [show x.length = (TL.tl x).length from TL.len_tl x]
  have : (fun w : Str => w.length + 1) = ((fun p : List Nat => p.length + 1) ∘ TL.tl) := by
    funext w
    show w.length + 1 = (TL.tl w).length + 1
    rw [TL.len_tl]
  rw [this]
  simpa using h
/-- what a row's, a table's text costs -/
def cR (row : List Int) : Nat := 6 + (row.map fun n => (PyData.shown (.int n)).length + 2).sum
def cT (t : Tb) : Nat := 120 + (t.rows.map cR).sum
def cS (ts : List Tb) : Nat := (ts.map cT).sum
theorem join_len (ts : List Str) : (Str.join ", " ts).length ≤ (ts.map fun t => t.length + 2).sum := by
  induction ts with
  | nil => exact Nat.zero_le _
  | cons x r ih =>
    cases r with
    | nil =>
      show x.length ≤ _
      simp
    | cons y r =>
      have e : Str.join ", " (x :: y :: r) = x ++ ", " ++ Str.join ", " (y :: r) := rfl
      rw [e, Str.length_append, Str.length_append, List.map_cons, List.sum_cons]
      have h2 : (", " : Str).length = 2 := by decide +kernel
      omega
theorem shownAll_map {α : Type} (f : α → PyData) : ∀ l : List α, PyData.shownAll (l.map f) = l.map fun a => PyData.shown (f a)
  | [] => by simp [PyData.shownAll]
  | a :: l => by rw [List.map_cons, PyData.shownAll, shownAll_map f l, List.map_cons]
theorem tup_len (ts : List Str) : (tupleText ts).length ≤ 4 + (ts.map fun t => t.length + 2).sum := by
  unfold tupleText
  rw [Str.length_append, Str.length_append]
  have h1 : ("(" : Str).length = 1 := by decide +kernel
  have h2 : ((if ts.length == 1 then ",)" else ")" : String) : Str).length ≤ 2 := by
    split <;> decide +kernel
  have := join_len ts
  omega
theorem row_len (row : List Int) : (PyData.shown (DS.mkT row)).length + 2 ≤ cR row := by
  have e : PyData.shown (DS.mkT row) = tupleText (row.map fun n => PyData.shown (.int n)) := by
    unfold DS.mkT
    rw [PyData.shown, shownAll_map]
  rw [e]
  have := tup_len (row.map fun n => PyData.shown (.int n))
  rw [List.map_map] at this
  unfold cR
  have e2 : ((fun t : Str => t.length + 2) ∘ fun n : Int => PyData.shown (.int n)) = fun n => (PyData.shown (.int n)).length + 2 := rfl
  rw [e2] at this
  omega
theorem sum_le {α : Type} (f g : α → Nat) : ∀ l : List α, (∀ a ∈ l, f a ≤ g a) → (l.map f).sum ≤ (l.map g).sum
  | [], _ => Nat.le_refl _
  | a :: l, h => by
    rw [List.map_cons, List.map_cons, List.sum_cons, List.sum_cons]
    have := sum_le f g l fun b hb => h b (List.mem_cons_of_mem _ hb)
    have := h a List.mem_cons_self
    omega
theorem isLet_lt {c : Nat} (h : isLet c = true) : c < 123 := by
  have e : (Str.ofString "abcdefghijklmnopqrstuvwxyz").cps.toList.all (fun c => decide (c < 123)) = true := by decide +kernel
  unfold isLet at h
  exact of_decide_eq_true (List.all_eq_true.mp e c (of_decide_eq_true h))
theorem word_signs {s : Str} (h : isWord s 8 = true) : s.length ≤ 8 ∧ ∀ c ∈ s.cps.toList, c < 123 := by
  cases e : s.cps.toList with
  | nil => rw [isWord_nil e] at h; cases h
  | cons c r =>
    rw [isWord_cons e, bad_all] at h
    simp only [Bool.and_eq_true, Bool.not_not, Bool.not_eq_true', decide_eq_false_iff_not] at h
    refine ⟨by omega, fun d hd => ?_⟩
    have := List.all_eq_true.mp h.2.2 d (by rw [e]; exact hd)
    rw [Bool.or_eq_true] at this
    rcases this with z | z
    · exact isLet_lt z
    · have := (isFig_iff d).mp z; omega
theorem tab_len {t : Tb} (h : Gd t) : (PyData.shown (encT t)).length + 2 ≤ cT t := by
  have e : PyData.shown (encT t) = tupleText [PyData.shown (.str t.nm), PyData.shown (.int t.wd), tupleText (t.rows.map fun r => PyData.shown (DS.mkT r))] := by
    unfold encT
    simp only [PyData.shown, PyData.shownAll, shownAll_map]
  rw [e]
  have h1 := tup_len [PyData.shown (.str t.nm), PyData.shown (.int t.wd), tupleText (t.rows.map fun r => PyData.shown (DS.mkT r))]
  have h2 := tup_len (t.rows.map fun r => PyData.shown (DS.mkT r))
  rw [List.map_map] at h2
  obtain ⟨w1, w2⟩ := word_signs h.nm
  have h3 : (PyData.shown (.str t.nm)).length ≤ 10 * t.nm.length + 2 := PySem.StrLaws.reprText_len t.nm fun c hc => by have := w2 c hc; omega
  have h4 : (PyData.shown (.int t.wd)).length ≤ 1 := shown_len (by rcases h.wd with z | z | z | z <;> omega) (by decide) (by rcases h.wd with z | z | z | z <;> omega)
  have h5 := sum_le (fun r => (PyData.shown (DS.mkT r)).length + 2) cR t.rows fun r _ => row_len r
  have e2 : ((fun t : Str => t.length + 2) ∘ fun r : List Int => PyData.shown (DS.mkT r)) = fun r => (PyData.shown (DS.mkT r)).length + 2 := rfl
  rw [e2] at h2
  simp only [List.map_cons, List.map_nil, List.sum_cons, List.sum_nil] at h1
  unfold cT
  omega
theorem store_len {ts : List Tb} (h : ∀ t ∈ ts, Gd t) : (PyData.shown (encS ts)).length ≤ 4 + cS ts := by
  have e : PyData.shown (encS ts) = tupleText (ts.map fun t => PyData.shown (encT t)) := by
    unfold encS
    rw [PyData.shown, shownAll_map]
  rw [e]
  have h1 := tup_len (ts.map fun t => PyData.shown (encT t))
  rw [List.map_map] at h1
  have h5 := sum_le (fun t => (PyData.shown (encT t)).length + 2) cT ts fun t ht => tab_len (h t ht)
  have e2 : ((fun t : Str => t.length + 2) ∘ fun t : Tb => PyData.shown (encT t)) = fun t => (PyData.shown (encT t)).length + 2 := rfl
  rw [e2] at h1
  unfold cS
  omega
end K92
end
section
set_option Elab.async false
set_option linter.all false
set_option maxRecDepth 100000
set_option maxHeartbeats 2000000
namespace K92
open PySem PySem.Spec PyProof.Rows L2 DL
theorem cS_app (a b : List Tb) : cS (a ++ b) = cS a + cS b := by
  unfold cS
  rw [List.map_append, List.sum_append]
theorem row_cost {r : List Str} (h : r.all isNum = true) : cR (r.map val) ≤ 6 + 2 * sumL r := by
  unfold cR sumL
  rw [List.map_map]
  have key : ∀ l : List Str, (∀ w ∈ l, isNum w = true) → (l.map ((fun n => (PyData.shown (.int n)).length + 2) ∘ val)).sum ≤ 2 * (l.map fun w => w.length + 1).sum := by
    intro l
    induction l with
    | nil => intro _; exact Nat.zero_le _
    | cons w l ih =>
      intro hl
      have hw := hl w List.mem_cons_self
      have h1 := shown_len (val_lt hw).1 (num_digits hw).2 (val_lt hw).2
      have h2 := ih fun z hz => hl z (List.mem_cons_of_mem _ hz)
      rw [List.map_cons, List.map_cons, List.sum_cons, List.sum_cons]
      show (PyData.shown (.int (val w))).length + 2 + _ ≤ _
      omega
  have := key r fun w hw => List.all_eq_true.mp h w hw
  omega
theorem step_cost {l : Str} {ts ts' : List Tb} (e : wordsStep (Txt.split l SP) ts = some ts') : cS ts' ≤ cS ts + 14 * (l.length + 1) := by
  have hs := split_sum l SP (s := 32) (by decide +kernel) sp_k
  unfold wordsStep at e
  generalize Txt.split l SP = ws at e hs
  cases e1 : rowOf ws ts with
  | some row =>
    rw [e1] at e
    cases e
    obtain ⟨t, ht⟩ := row_last e1
    have hc : cS (withRow ts row) = cS ts + cR row := by
      unfold withRow
      rw [ht]
      obtain ⟨a, rfl⟩ := List.getLast?_eq_some_iff.mp ht
      simp only [List.dropLast_concat]
      rw [cS_app, cS_app]
      unfold cS cT
      simp
      omega
    rw [hc]
    unfold rowOf at e1
    split at e1
    · rename_i w r t' _
      split at e1
      · rename_i hw
        split at e1
        · split at e1
          · rename_i hall
            split at e1
            · cases e1
              have h1 := row_cost hall
              have h2 : sumL (w :: r) = w.length + 1 + sumL r := by unfold sumL; rw [List.map_cons, List.sum_cons]
              have h3 : w.length = 3 := by rw [hw]; decide +kernel
              omega
            · cases e1
          · cases e1
        · cases e1
      · cases e1
    · cases e1
  | none =>
    rw [e1] at e
    cases e2 : tabOf ws ts with
    | none => rw [e2] at e; cases e
    | some t =>
      rw [e2] at e
      cases e
      rw [cS_app]
      unfold tabOf at e2
      split at e2
      · rename_i a b c
        split at e2
        · rename_i ha
          split at e2
          · rename_i hb
            split at e2
            · rename_i hc
              split at e2
              · cases e2
                have h3 : a.length = 5 := by rw [ha]; decide +kernel
                have h4 : 0 < b.length := by
                  cases e : b.cps.toList with
                  | nil => rw [isWord_nil e] at hb; cases hb
                  | cons x y => rw [len1 b e]; omega
                have h5 := (num_digits (isW_num hc).1).2
                have h2 : sumL [a, b, c] = a.length + 1 + (b.length + 1 + (c.length + 1)) := by unfold sumL; simp
                have h6 : cS [⟨b, val c, []⟩] = 120 := by unfold cS cT; simp
                omega
              · cases e2
            · cases e2
          · cases e2
        · cases e2
      · cases e2
theorem parse_cost : ∀ (k : Nat) (ls : List Str) (ts ts' : List Tb), parseL k ls ts = .inr ts' → cS ts' ≤ cS ts + 14 * sumL ls
  | k, [], ts, ts', h => by cases h; exact Nat.le_add_right _ _
  | k, l :: r, ts, ts', h => by
    unfold parseL at h
    cases e : wordsStep (Txt.split l SP) ts with
    | none => rw [e] at h; cases h
    | some t1 =>
      rw [e] at h
      have h1 := step_cost e
      have h2 := parse_cost (k + 1) r t1 ts' h
      have h3 : sumL (l :: r) = l.length + 1 + sumL r := by unfold sumL; rw [List.map_cons, List.sum_cons]
      omega
theorem parse_good : ∀ (k : Nat) (ls : List Str) (ts ts' : List Tb), (∀ l ∈ ls, LOk l) → (∀ t ∈ ts, Gd t) → parseL k ls ts = .inr ts' → ∀ t ∈ ts', Gd t
  | k, [], ts, ts', _, hg, h => by cases h; exact hg
  | k, l :: r, ts, ts', hl, hg, h => by
    unfold parseL at h
    cases e : wordsStep (Txt.split l SP) ts with
    | none => rw [e] at h; cases h
    | some t1 =>
      rw [e] at h
      exact parse_good (k + 1) r t1 ts' (fun z hz => hl z (List.mem_cons_of_mem _ hz)) (Gd.step (hl l List.mem_cons_self).wd hg e) h
theorem showAll {α : Type} (f : α → PyData) : ∀ l : List α, (∀ a ∈ l, (f a).showable = true) → PyData.showableAll (l.map f) = true
  | [], _ => by simp [PyData.showableAll]
  | a :: l, h => by rw [List.map_cons, PyData.showableAll, h a List.mem_cons_self, showAll f l fun b hb => h b (List.mem_cons_of_mem _ hb)]; rfl
theorem dictAll {α : Type} (f : α → PyData) : ∀ l : List α, (∀ a ∈ l, (f a).hasDict = false) → PyData.hasDictAll (l.map f) = false
  | [], _ => by simp [PyData.hasDictAll]
  | a :: l, h => by rw [List.map_cons, PyData.hasDictAll, h a List.mem_cons_self, dictAll f l fun b hb => h b (List.mem_cons_of_mem _ hb)]; rfl
theorem layAll {α : Type} (f : α → PyData) : ∀ l : List α, (∀ a ∈ l, (f a).canLay0 = true) → PyData.canLayAll0 (l.map f) = true
  | [], _ => by simp [PyData.canLayAll0]
  | a :: l, h => by rw [List.map_cons, PyData.canLayAll0, h a List.mem_cons_self, layAll f l fun b hb => h b (List.mem_cons_of_mem _ hb)]; rfl
theorem depAll {α : Type} (f : α → PyData) (n : Nat) : ∀ l : List α, (∀ a ∈ l, (f a).depth ≤ n) → PyData.depthAll (l.map f) ≤ n
  | [], _ => by simp [PyData.depthAll]
  | a :: l, h => by
    rw [List.map_cons, PyData.depthAll]
    exact Nat.max_le.mpr ⟨h a List.mem_cons_self, depAll f n l fun b hb => h b (List.mem_cons_of_mem _ hb)⟩
theorem log_ok {n : Int} (h0 : 0 ≤ n) (h : n < 10 ^ 500) : n.natAbs.log2 < 1920 := by
  obtain ⟨m, rfl⟩ := Int.eq_ofNat_of_zero_le h0
  rw [Int.natAbs_natCast]
  have hm : m < 10 ^ 500 := by
    have : ((m : Nat) : Int) < ((10 ^ 500 : Nat) : Int) := by rw [Int.natCast_pow]; exact h
    exact Int.ofNat_lt.mp this
  by_cases hz : m = 0
  · rw [hz]; decide +kernel
  · have h2 : (10 : Nat) ^ 500 ≤ 2 ^ 1920 := by decide +kernel
    exact (Nat.log2_lt hz).mpr (Nat.lt_of_lt_of_le hm h2)
theorem good_rok {ts : List Tb} (h : ∀ t ∈ ts, Gd t) (hc : 4 + cS ts ≤ sizeLine) : ROk ts ∧ PyData.eqv (encS ts) (encS ts) = true := by
  have hi : ∀ n : Int, (PyData.int n).depth = 0 := fun n => by simp [PyData.depth]
  have dep : (encS ts).depth ≤ 4 := by
    unfold encS
    rw [PyData.depth]
    refine Nat.succ_le_succ (depAll encT 3 ts fun t _ => ?_)
    unfold encT
    rw [PyData.depth]
    refine Nat.succ_le_succ ?_
    simp only [PyData.depthAll]
    refine Nat.max_le.mpr ⟨by simp [PyData.depth], Nat.max_le.mpr ⟨by simp [PyData.depth], Nat.max_le.mpr ⟨?_, Nat.zero_le _⟩⟩⟩
    rw [PyData.depth]
    exact Nat.succ_le_succ (depAll DS.mkT 1 t.rows fun r _ => DS.depth_mk r)
  have sh : (encS ts).showable = true := by
    unfold encS
    rw [PyData.showable]
    refine showAll encT ts fun t ht => ?_
    have hg := h t ht
    unfold encT
    rw [PyData.showable]
    simp only [PyData.showableAll, PyData.showable, Bool.true_and, Bool.and_true, Bool.and_eq_true, decide_eq_true_eq]
    refine ⟨log_ok (by rcases hg.wd with z | z | z | z <;> omega) (by
      have : (5 : Int) ≤ 10 ^ 500 := by decide +kernel
      rcases hg.wd with z | z | z | z <;> omega), ?_⟩
    refine showAll DS.mkT t.rows fun r hr => ?_
    unfold DS.mkT
    rw [PyData.showable]
    refine showAll PyData.int r fun n hn => ?_
    rw [PyData.showable]
    exact decide_eq_true (log_ok (hg.num r hr n hn).1 (hg.num r hr n hn).2)
  have nd : (encS ts).hasDict = false := by
    unfold encS
    rw [PyData.hasDict]
    refine dictAll encT ts fun t _ => ?_
    unfold encT
    rw [PyData.hasDict]
    simp only [PyData.hasDictAll, PyData.hasDict, Bool.false_or, Bool.or_false]
    refine dictAll DS.mkT t.rows fun r _ => ?_
    unfold DS.mkT
    rw [PyData.hasDict]
    exact dictAll PyData.int r fun n _ => by rw [PyData.hasDict]
  have ly : (encS ts).canLay0 = true := by
    unfold encS
    rw [PyData.canLay0]
    refine layAll encT ts fun t ht => ?_
    unfold encT
    rw [PyData.canLay0]
    simp only [PyData.canLayAll0, PyData.canLay0, Bool.true_and, Bool.and_true, Bool.and_eq_true]
    refine ⟨?_, ?_⟩
    · unfold PyData.strOk
      rw [Array.all_eq_true_iff_forall_mem]
      intro c hc
      have := (word_signs (h t ht).nm).2 c (by simpa using hc)
      simp only [decide_eq_true_eq]
      omega
    · refine layAll DS.mkT t.rows fun r _ => ?_
      unfold DS.mkT
      rw [PyData.canLay0]
      exact layAll PyData.int r fun n _ => by rw [PyData.canLay0]
  have ln := store_len h
  refine ⟨⟨?_, ?_⟩, PySem.SeqAt.eqv_refl _ ly⟩
  · unfold dReprOk
    rw [sh, nd, decide_eq_true (show (encS ts).depth ≤ 100 by omega), decide_eq_true (show (encS ts).shown.length ≤ sizeLine by omega)]
    rfl
  · unfold eqOk SeqAt.shaped
    rw [ly, decide_eq_true (show (encS ts).depth ≤ 64 by omega)]
    exact Bool.or_true _
theorem right_all (x : Str) (h : TOk x) : fn__law_right [.str x] = .ok (.bool true) := by
  have hl : sumL (linesOf x) ≤ x.length + 1 := by
    unfold linesOf
    split
    · exact Nat.zero_le _
    · exact split_sum x NL (s := 10) (by decide +kernel) nl_k
  have key : ∀ ts, parseL 0 (linesOf x) [] = .inr ts → ROk ts ∧ PyData.eqv (encS ts) (encS ts) = true := fun ts e => by
    have hg := parse_good 0 _ _ _ h.ok (fun t ht => (by cases ht)) e
    have hc := parse_cost 0 _ _ _ e
    have h0 : cS [] = 0 := rfl
    have := h.len
    exact good_rok hg (by rw [sizeLine_eq]; omega)
  exact right_ok x h (fun ts e => (key ts e).1) (fun ts e => (key ts e).2)
end K92
end
section
set_option Elab.async false
set_option linter.all false
set_option maxRecDepth 100000
set_option maxHeartbeats 2000000
namespace K92
open PySem PySem.Spec PyProof.Rows L2 DL
def numS (n : Int) : Str := toString n
def rowT (r : List Int) : Str := ("row " : Str) ++ Txt.join SP (r.map numS)
def headT (t : Tb) : Str := ("table " : Str) ++ t.nm ++ (" " : Str) ++ numS t.wd
def linesT (ts : List Tb) : List Str := ts.flatMap fun t => headT t :: t.rows.map rowT
def textOf (ts : List Tb) : Str := Txt.join NL (linesT ts)
/-- what the writers ask -/
structure FOk (ts : List Tb) : Prop where
  gd : ∀ t ∈ ts, Gd t
  sum : sumL (linesT ts) ≤ 900000
theorem sumL_app (a b : List Str) : sumL (a ++ b) = sumL a + sumL b := by
  unfold sumL
  rw [List.map_append, List.sum_append]
theorem sumL_mem {l : List Str} {x : Str} (h : x ∈ l) : x.length + 1 ≤ sumL l := by
  induction l with
  | nil => cases h
  | cons y l ih =>
    have e : sumL (y :: l) = y.length + 1 + sumL l := by unfold sumL; rw [List.map_cons, List.sum_cons]
    rcases List.mem_cons.mp h with z | z
    · rw [z, e]; omega
    · have := ih z; omega
theorem sumL_len (l : List Str) : l.length ≤ sumL l := by
  induction l with
  | nil => exact Nat.zero_le _
  | cons y l ih =>
    have e : sumL (y :: l) = y.length + 1 + sumL l := by unfold sumL; rw [List.map_cons, List.sum_cons]
    rw [e, List.length_cons]
    omega
theorem sumL_eq (l : List Str) (y : Str) (h : y.length = 1) : (l.map (·.length)).sum + l.length * y.length = sumL l := by
  rw [h, Nat.mul_one]
  induction l with
  | nil => rfl
  | cons x l ih =>
    have e : sumL (x :: l) = x.length + 1 + sumL l := by unfold sumL; rw [List.map_cons, List.sum_cons]
    rw [e, List.map_cons, List.sum_cons, List.length_cons]
    omega
theorem join1 (y : Str) (h : y.length = 1) : ∀ l : List Str, sumL l ≤ (Txt.join y l).length + 1
  | [] => Nat.zero_le _
  | [x] => by rw [TL.join_eq]; show x.length + 1 + 0 ≤ x.length + 1; omega
  | x :: z :: r => by
    have ih := join1 y h (z :: r)
    rw [TL.join_eq] at ih ⊢
    have e : Str.join y (x :: z :: r) = x ++ y ++ Str.join y (z :: r) := rfl
    have e2 : sumL (x :: z :: r) = x.length + 1 + sumL (z :: r) := by unfold sumL; rw [List.map_cons, List.sum_cons]
    rw [e, e2, Str.length_append, Str.length_append, h]
    omega
theorem strsOf_map : ∀ l : List Str, strsOf (l.map .str) = some l
  | [] => rfl
  | x :: l => by rw [List.map_cons, strsOf, strsOf_map l]; rfl
theorem dJoin_ok (y : Str) (l : List Str) (h : y.length = 1) (hs : sumL l ≤ 16777216) : dJoin (.str y) [.list (l.map .str)] = some (.str (Txt.join y l)) := by
  unfold dJoin
  simp only [strsOf_map]
  exact gdt (decide_eq_true (by rw [sumL_eq l y h]; exact hs))
theorem dStr_num {n : Int} (h0 : 0 ≤ n) (h : n < 10 ^ 500) : dStr [.int n] = some (.str (numS n)) := gdt (decide_eq_true (log_ok h0 h))
theorem row_words {r : List Int} {ρ : Rho} {i : Nat} {it : Rho → Res (List PyData)} (h : ∀ n ∈ r, 0 ≤ n ∧ n < 10 ^ 500) (hl : r.length ≤ sizeLine) (hi : it ρ = .ok (r.map .int)) (h4 : i < (wipeR ρ [i]).length) :
    eComp it [i] (gNm i) tYs (kOne (oA dStr (aC (eP i) aN))) ρ = .ok (.list ((r.map numS).map .str)) := by
  rw [comp_map .int (fun n => .str (numS n)) hi (fun n hn => by simp [List.getElem?_set_self h4, dStr_num (h n hn).1 (h n hn).2]) hl, List.map_map]
  rfl
end K92
end
section
set_option Elab.async false
set_option linter.all false
set_option maxRecDepth 100000
set_option maxHeartbeats 2000000
namespace K92
open PySem PySem.Spec PyProof.Rows L2 DL
theorem app_len (a b : Str) : (a ++ b).length = a.length + b.length := Str.length_append a b
def ltRow : Rho → Out := sApp 1 (o2 dAdd (eC (.str "row ")) (oM isStrD dJoin (eC (.str " ")) (aC (eComp (iAll (eP 3)) [4] (gNm 4) tYs (kOne (oA dStr (aC (eP 4) aN)))) aN)))
def ltHead : Rho → Out := sApp 1 (o2 dAdd (o2 dAdd (o2 dAdd (eC (.str "table ")) (o2 dIx (eP 2) (eC (.int 0)))) (eC (.str " "))) (oA dStr (aC (o2 dIx (eP 2) (eC (.int 1))) aN)))
theorem row_bd {r : List Int} (h : (rowT r).length ≤ 1000000) : sumL (r.map numS) ≤ 1000001 ∧ r.length ≤ 1000001 := by
  have h1 := join1 SP (by decide +kernel) (r.map numS)
  unfold rowT at h
  rw [app_len] at h
  have h2 := sumL_len (r.map numS)
  rw [List.length_map] at h2
  omega
theorem ltRow_ok {r : List Int} {S : Sl} {acc : List PyData} {s2 s4 : Sl} (h : ∀ n ∈ r, 0 ≤ n ∧ n < 10 ^ 500) (hl : (rowT r).length ≤ 1000000) (ha : acc.length < sizeLine) : ltRow [S, .o acc, s2, .d (DS.mkT r), s4] = .nx [S, .o (acc ++ [.str (rowT r)]), s2, .d (DS.mkT r), s4] := by
  obtain ⟨b1, b2⟩ := row_bd hl
  have hz : (sizeLine : Nat) = 16777216 := sizeLine_eq
  have hr : DS.mkT r = .tuple (r.map .int) := rfl
  have hj := dJoin_ok SP (r.map numS) (by decide +kernel) (by omega)
  have hadd : dAdd (.str "row ") (.str (Txt.join SP (r.map numS))) = some (.str (rowT r)) := dAdd_ss _ _ (by rw [← app_len]; show (rowT r).length ≤ _; omega)
  unfold ltRow
  rw [hr]
  rw [sApp_get]
  simp only [List.getElem?_cons_succ, List.getElem?_cons_zero, o2_get, eC_get, Res.ok_bind, oM_get, isStr_s, if_true, aC_get]
  rw [row_words (r := r) h (by omega) (by simp) (by simp [wipeR])]
  simp only [Res.ok_bind, aN_get]
  rw [hj]
  simp only [of_some, Res.ok_bind]
  rw [hadd]
  simp [ha]
theorem ltHead_ok {t : Tb} {S : Sl} {acc : List PyData} {s3 s4 : Sl} (hg : Gd t) (ha : acc.length < sizeLine) : ltHead [S, .o acc, .d (encT t), s3, s4] = .nx [S, .o (acc ++ [.str (headT t)]), .d (encT t), s3, s4] := by
  have hz : (sizeLine : Nat) = 16777216 := sizeLine_eq
  have h8 := (word_signs hg.nm).1
  have hw := dStr_num (n := t.wd) (by rcases hg.wd with z | z | z | z <;> omega) (by
      have : (5 : Int) ≤ 10 ^ 500 := by decide +kernel
      rcases hg.wd with z | z | z | z <;> omega)
  have l1 : ("table " : Str).length = 6 := by decide +kernel
  have l2 : (" " : Str).length = 1 := by decide +kernel
  have l3 : (numS t.wd).length ≤ 1 := shown_len (by rcases hg.wd with z | z | z | z <;> omega) (by decide) (by rcases hg.wd with z | z | z | z <;> omega)
  have a1 := dAdd_ss ("table " : Str) t.nm (by omega)
  have a2 := dAdd_ss (("table " : Str) ++ t.nm) (" " : Str) (by rw [app_len]; omega)
  have a3 := dAdd_ss (("table " : Str) ++ t.nm ++ (" " : Str)) (numS t.wd) (by rw [app_len, app_len]; omega)
  unfold ltHead headT encT
  generalize numS t.wd = W at *
  simp [dIx_t0, dIx_t1, a1, hw, ha]
  rw [a2]
  simp
  rw [a3]
  simp [ha]
/-- an own list grows -/
theorem lt_rows {S : Sl} {s2 s4 : Sl} : ∀ (rows : List (List Int)) (acc : List PyData) (s3 : Sl), (∀ r ∈ rows, (∀ n ∈ r, 0 ≤ n ∧ n < 10 ^ 500) ∧ (rowT r).length ≤ 1000000) → acc.length + rows.length < sizeLine →
    ∃ s3', forL (gNm 3) ltRow (rows.map DS.mkT) [S, .o acc, s2, s3, s4] = .nx [S, .o (acc ++ rows.map fun r => .str (rowT r)), s2, s3', s4]
  | [], acc, s3, _, _ => ⟨s3, by simp [forL_nil]⟩
  | r :: rows, acc, s3, h, hl => by
    have hr := h r List.mem_cons_self
    rw [List.length_cons] at hl
    have q := ltRow_ok (S := S) (acc := acc) (s2 := s2) (s4 := s4) hr.1 hr.2 (by omega)
    obtain ⟨s3', e⟩ := lt_rows (S := S) (s2 := s2) (s4 := s4) rows (acc ++ [.str (rowT r)]) (.d (DS.mkT r)) (fun z hz => h z (List.mem_cons_of_mem _ hz)) (by rw [List.length_append, List.length_singleton]; omega)
    refine ⟨s3', ?_⟩
    have hset : ([S, .o acc, s2, s3, s4] : Rho).set 3 (.d (DS.mkT r)) = [S, .o acc, s2, .d (DS.mkT r), s4] := rfl
    rw [List.map_cons, forL_cons (gNm_get 3 _ _), hset, q]
    show forL _ _ _ _ = _
    rw [e, List.map_cons, List.append_assoc]
    rfl
def ltTab : Rho → Out := sSeq ltHead (sFor (iAll (o2 dIx (eP 2) (eC (.int 2)))) (gNm 3) ltRow)
theorem lt_tabs {S : Sl} {s4 : Sl} : ∀ (ts : List Tb) (acc : List PyData) (s2 s3 : Sl), (∀ t ∈ ts, Gd t) → (∀ l ∈ linesT ts, l.length ≤ 1000000) → acc.length + (linesT ts).length < sizeLine →
    ∃ s2' s3', forL (gNm 2) ltTab (ts.map encT) [S, .o acc, s2, s3, s4] = .nx [S, .o (acc ++ (linesT ts).map .str), s2', s3', s4]
  | [], acc, s2, s3, _, _, _ => ⟨s2, s3, by simp [forL_nil, linesT]⟩
  | t :: ts, acc, s2, s3, hg, hl, hn => by
    have e : linesT (t :: ts) = headT t :: t.rows.map rowT ++ linesT ts := by unfold linesT; rw [List.flatMap_cons]
    rw [e] at hl hn
    rw [List.length_append, List.length_cons, List.length_map] at hn
    have gt := hg t List.mem_cons_self
    have q1 := ltHead_ok (S := S) (acc := acc) (s3 := s3) (s4 := s4) gt (by omega)
    obtain ⟨s3', q2⟩ := lt_rows (S := S) (s2 := .d (encT t)) (s4 := s4) t.rows (acc ++ [.str (headT t)]) s3 (fun r hr => ⟨gt.num r hr, hl _ (List.mem_append_left _ (List.mem_cons_of_mem _ (List.mem_map.mpr ⟨r, hr, rfl⟩)))⟩) (by rw [List.length_append, List.length_singleton]; omega)
    obtain ⟨s2', s3'', q3⟩ := lt_tabs (S := S) (s4 := s4) ts (acc ++ [.str (headT t)] ++ t.rows.map fun r => .str (rowT r)) (.d (encT t)) s3' (fun z hz => hg z (List.mem_cons_of_mem _ hz)) (fun z hz => hl z (List.mem_append_right _ hz)) (by simp only [List.length_append, List.length_singleton, List.length_map]; omega)
    refine ⟨s2', s3'', ?_⟩
    have hset : ([S, .o acc, s2, s3, s4] : Rho).set 2 (.d (encT t)) = [S, .o acc, .d (encT t), s3, s4] := rfl
    have hfor : sFor (iAll (o2 dIx (eP 2) (eC (.int 2)))) (gNm 3) ltRow [S, .o (acc ++ [.str (headT t)]), .d (encT t), s3, s4] = forL (gNm 3) ltRow (t.rows.map DS.mkT) [S, .o (acc ++ [.str (headT t)]), .d (encT t), s3, s4] := by
      rw [sFor_get]
      have hx : dIx (encT t) (.int 2) = some (.tuple (t.rows.map DS.mkT)) := by unfold encT; rw [dIx_t2]; rfl
      generalize encT t = E at *
      simp [hx]
    rw [q2] at hfor
    have body : ltTab [S, .o acc, .d (encT t), s3, s4] = .nx [S, .o (acc ++ [.str (headT t)] ++ t.rows.map fun r => .str (rowT r)), .d (encT t), s3', s4] := (seq_nx q1).trans hfor
    rw [List.map_cons, forL_cons (gNm_get 2 _ _), hset, body]
    show forL _ _ _ _ = _
    rw [q3, e]
    simp [List.map_append]
theorem ev_law_text (ts : List Tb) (h : FOk ts) : fn__law_text [encS ts] = .ok (.str (textOf ts)) := by
  have hz : (sizeLine : Nat) = 16777216 := sizeLine_eq
  have hs := h.sum
  have hlen := sumL_len (linesT ts)
  have hl0 : dLst [] = .ok (.list []) := dLst_ok [] (Nat.zero_le _)
  obtain ⟨s2', s3', q⟩ := lt_tabs (S := .d (encS ts)) (s4 := .u) ts [] .u .u h.gd (fun l hl => by have := sumL_mem hl; omega) (by rw [List.length_nil]; omega)
  have hj := dJoin_ok NL (linesT ts) (by decide +kernel) (by omega)
  have e1 : sAsgO 1 (eA dLst aN) [.d (encS ts), .u, .u, .u, .u] = .nx [.d (encS ts), .o [], .u, .u, .u] := by simp [hl0]
  have e2 : sFor (iAll (eV 0)) (gNm 2) ltTab [.d (encS ts), .o [], .u, .u, .u] = forL (gNm 2) ltTab (ts.map encT) [.d (encS ts), .o [], .u, .u, .u] := by
    unfold encS
    simp
  rw [q] at e2
  have e3 : sRet (oM isStrD dJoin (eC (.str "\n")) (aC (eP 1) aN)) [.d (encS ts), .o ([] ++ (linesT ts).map .str), s2', s3', .u] = .rt (.str (textOf ts)) := by
    rw [List.nil_append, sRet_get]
    simp only [List.map_cons, List.map_nil, frz1_d, frz1_o, frz1_u, oM_get, eC_get, Res.ok_bind, isStr_s, if_true, aC_get, eP_get, List.getElem?_cons_succ, List.getElem?_cons_zero, aN_get]
    rw [hj]
    rfl
  exact run_rt rfl ((seq_nx e1).trans ((seq_nx e2).trans e3))
end K92
end
section
set_option Elab.async false
set_option linter.all false
set_option maxRecDepth 100000
set_option maxHeartbeats 2000000
namespace K92
open PySem PySem.Spec PyProof.Rows L2 DL
theorem loop_flat {α β : Type} {i j : Nat} {it1 : Rho → Res (List PyData)} {vs1 : List Nat} {fe : Rho → Res PyData} {ρ : Rho} (f : α → PyData) (L : α → List β) (g h : β → PyData) : ∀ {l : List α}, (∀ a ∈ l, it1 (ρ.set i (.d (f a))) = .ok ((L a).map g)) →
    (∀ a ∈ l, ∀ b ∈ L a, fe ((wipeR (ρ.set i (.d (f a))) vs1).set j (.d (g b))) = .ok (h b)) → cLoop (cStep (gNm i) tYs (kIn it1 vs1 (gNm j) tYs fe) ρ) (l.map f) = .ok ((l.flatMap L).map h)
  | [], _, _ => rfl
  | a :: l, h1, h2 => by
    have hs : cStep (gNm i) tYs (kIn it1 vs1 (gNm j) tYs fe) ρ (f a) = .ok ((L a).map h) := by
      unfold cStep
      simp only [gNm_get, tYs_get]
      unfold kIn
      rw [h1 a List.mem_cons_self]
      simp only
      exact loop_map g h (h2 a List.mem_cons_self)
    rw [List.map_cons, cLoop, hs, loop_flat f L g h (fun b hb => h1 b (List.mem_cons_of_mem _ hb)) (fun b hb => h2 b (List.mem_cons_of_mem _ hb))]
    simp
def twRow : Rho → Out := sApp 4 (o2 dAdd (eC (.str "row ")) (oM isStrD dJoin (eC (.str " ")) (aC (eComp (iAll (eP 5)) [6] (gNm 6) tYs (kOne (oA dStr (aC (eP 6) aN)))) aN)))
theorem twRow_ok {r : List Int} {s0 s1 s2 s3 s6 : Sl} {acc : List PyData} (h : ∀ n ∈ r, 0 ≤ n ∧ n < 10 ^ 500) (hl : (rowT r).length ≤ 1000000) (ha : acc.length < sizeLine) : twRow [s0, s1, s2, s3, .o acc, .d (DS.mkT r), s6] = .nx [s0, s1, s2, s3, .o (acc ++ [.str (rowT r)]), .d (DS.mkT r), s6] := by
  obtain ⟨b1, b2⟩ := row_bd hl
  have hz : (sizeLine : Nat) = 16777216 := sizeLine_eq
  have hr : DS.mkT r = .tuple (r.map .int) := rfl
  have hj := dJoin_ok SP (r.map numS) (by decide +kernel) (by omega)
  have hadd : dAdd (.str "row ") (.str (Txt.join SP (r.map numS))) = some (.str (rowT r)) := dAdd_ss _ _ (by rw [← app_len]; show (rowT r).length ≤ _; omega)
  unfold twRow
  rw [hr]
  rw [sApp_get]
  simp only [List.getElem?_cons_succ, List.getElem?_cons_zero, o2_get, eC_get, Res.ok_bind, oM_get, isStr_s, if_true, aC_get]
  rw [row_words (r := r) h (by omega) (by simp) (by simp [wipeR])]
  simp only [Res.ok_bind, aN_get]
  rw [hj]
  simp only [of_some, Res.ok_bind]
  rw [hadd]
  simp [ha]
theorem tw_rows {s0 s1 s2 s3 s6 : Sl} : ∀ (rows : List (List Int)) (acc : List PyData) (s5 : Sl), (∀ r ∈ rows, (∀ n ∈ r, 0 ≤ n ∧ n < 10 ^ 500) ∧ (rowT r).length ≤ 1000000) → acc.length + rows.length < sizeLine →
    ∃ s5', forL (gNm 5) twRow (rows.map DS.mkT) [s0, s1, s2, s3, .o acc, s5, s6] = .nx [s0, s1, s2, s3, .o (acc ++ rows.map fun r => .str (rowT r)), s5', s6]
  | [], acc, s5, _, _ => ⟨s5, by simp [forL_nil]⟩
  | r :: rows, acc, s5, h, hl => by
    have hr := h r List.mem_cons_self
    rw [List.length_cons] at hl
    have q := twRow_ok (s0 := s0) (s1 := s1) (s2 := s2) (s3 := s3) (s6 := s6) (acc := acc) hr.1 hr.2 (by omega)
    obtain ⟨s5', e⟩ := tw_rows (s0 := s0) (s1 := s1) (s2 := s2) (s3 := s3) (s6 := s6) rows (acc ++ [.str (rowT r)]) (.d (DS.mkT r)) (fun z hz => h z (List.mem_cons_of_mem _ hz)) (by rw [List.length_append, List.length_singleton]; omega)
    refine ⟨s5', ?_⟩
    have hset : ([s0, s1, s2, s3, .o acc, s5, s6] : Rho).set 5 (.d (DS.mkT r)) = [s0, s1, s2, s3, .o acc, .d (DS.mkT r), s6] := rfl
    rw [List.map_cons, forL_cons (gNm_get 5 _ _), hset, q]
    show forL _ _ _ _ = _
    rw [e, List.map_cons, List.append_assoc]
    rfl
theorem empty_app (x : Str) : Str.empty ++ x = x := by
  obtain ⟨a⟩ := x
  show (⟨#[] ++ a⟩ : Str) = ⟨a⟩
  rw [Array.empty_append]
theorem head_fmt {t : Tb} (hg : Gd t) {s0 s3 s4 s5 s6 : Sl} : eJs [(eC (.str "table ")), (o1 dFmt (eP 1)), (eC (.str " ")), (o1 dFmt (eP 2))] [s0, .d (.str t.nm), .d (.int t.wd), s3, s4, s5, s6] = .ok (.str (headT t)) := by
  have hz : (sizeLine : Nat) = 16777216 := sizeLine_eq
  have h8 := (word_signs hg.nm).1
  have l1 : ("table " : Str).length = 6 := by decide +kernel
  have l2 : (" " : Str).length = 1 := by decide +kernel
  have l3 : (numS t.wd).length ≤ 1 := shown_len (by rcases hg.wd with z | z | z | z <;> omega) (by decide) (by rcases hg.wd with z | z | z | z <;> omega)
  have lg : t.wd.natAbs.log2 < 1920 := log_ok (by rcases hg.wd with z | z | z | z <;> omega) (by
      have : (5 : Int) ≤ 10 ^ 500 := by decide +kernel
      rcases hg.wd with z | z | z | z <;> omega)
  have f1 : dFmt (.str t.nm) = some (.str t.nm) := gdt (decide_eq_true (by omega))
  have f2 : dFmt (.int t.wd) = some (.str (numS t.wd)) := gdt (decide_eq_true lg)
  have le : Str.empty.length = 0 := rfl
  unfold eJs headT
  generalize numS t.wd = W at *
  simp only [jsL, eC_get, Res.ok_bind, o1_get, eP_get, List.getElem?_cons_succ, List.getElem?_cons_zero, f1, f2, of_some, empty_app, app_len, l1, l2, le]
  rw [if_pos (by omega), if_pos (by omega), if_pos (by omega), if_pos (by omega)]
theorem ev_table_words {t : Tb} (hg : Gd t) (hl : ∀ r ∈ t.rows, (rowT r).length ≤ 1000000) (hn : t.rows.length ≤ 1000000) : fn_table_words [encT t] = .ok (.list ((headT t :: t.rows.map rowT).map .str)) := by
  have hz : (sizeLine : Nat) = 16777216 := sizeLine_eq
  have e1 : sAsg (eV 0) (gTp 3 (gsC (gNm 1) (gsC (gNm 2) (gsC (gNm 3) gsN)))) [.d (encT t), .u, .u, .u, .u, .u, .u] = .nx [.d (encT t), .d (.str t.nm), .d (.int t.wd), .d (.tuple (t.rows.map DS.mkT)), .u, .u, .u] := by
    unfold encT
    simp
  have hl1 : dLst [.str (headT t)] = .ok (.list [.str (headT t)]) := dLst_ok _ (by rw [List.length_singleton]; omega)
  have hf := head_fmt hg (s0 := .d (encT t)) (s3 := .d (.tuple (t.rows.map DS.mkT))) (s4 := .u) (s5 := .u) (s6 := .u)
  have e2 : sAsgO 4 (eA dLst (aC (eJs [(eC (.str "table ")), (o1 dFmt (eP 1)), (eC (.str " ")), (o1 dFmt (eP 2))]) aN)) [.d (encT t), .d (.str t.nm), .d (.int t.wd), .d (.tuple (t.rows.map DS.mkT)), .u, .u, .u] = .nx [.d (encT t), .d (.str t.nm), .d (.int t.wd), .d (.tuple (t.rows.map DS.mkT)), .o [.str (headT t)], .u, .u] := by
    rw [sAsgO_get, eA_get, aC_get, hf]
    simp only [Res.ok_bind, aN_get, hl1, Res.ok_out]
    rfl
  obtain ⟨s5, q⟩ := tw_rows (s0 := .d (encT t)) (s1 := .d (.str t.nm)) (s2 := .d (.int t.wd)) (s3 := .d (.tuple (t.rows.map DS.mkT))) (s6 := .u) t.rows [.str (headT t)] .u (fun r hr => ⟨hg.num r hr, hl r hr⟩) (by rw [List.length_singleton]; omega)
  have e3 : sFor (iAll (eV 3)) (gNm 5) twRow [.d (encT t), .d (.str t.nm), .d (.int t.wd), .d (.tuple (t.rows.map DS.mkT)), .o [.str (headT t)], .u, .u] = forL (gNm 5) twRow (t.rows.map DS.mkT) [.d (encT t), .d (.str t.nm), .d (.int t.wd), .d (.tuple (t.rows.map DS.mkT)), .o [.str (headT t)], .u, .u] := by simp
  rw [q] at e3
  refine run_rt rfl ((seq_nx e1).trans ((seq_nx e2).trans ((seq_nx e3).trans ?_)))
  simp
theorem ev_format_store (ts : List Tb) (h : FOk ts) : fn_format_store [encS ts] = .ok (.str (textOf ts)) := by
  have hz : (sizeLine : Nat) = 16777216 := sizeLine_eq
  have hs := h.sum
  have hlen := sumL_len (linesT ts)
  have hj := dJoin_ok NL (linesT ts) (by decide +kernel) (by omega)
  have hin : ∀ t ∈ ts, ∀ l ∈ headT t :: t.rows.map rowT, l ∈ linesT ts := fun t ht l hl => List.mem_flatMap.mpr ⟨t, ht, hl⟩
  have hw : ∀ t ∈ ts, fn_table_words [encT t] = .ok (.list ((headT t :: t.rows.map rowT).map .str)) := fun t ht => by
    refine ev_table_words (h.gd t ht) (fun r hr => ?_) ?_
    · have := sumL_mem (hin t ht (rowT r) (List.mem_cons_of_mem _ (List.mem_map.mpr ⟨r, hr, rfl⟩)))
      omega
    · have : (headT t :: t.rows.map rowT).length ≤ (linesT ts).length := by
        unfold linesT
        clear hin hj hlen hs h
        revert ht
        induction ts with
        | nil => intro ht; cases ht
        | cons a b ih =>
          intro ht
          rw [List.flatMap_cons, List.length_append]
          rcases List.mem_cons.mp ht with e | e
          · rw [e]; omega
          · have := ih e; omega
      rw [List.length_cons, List.length_map] at this
      omega
  have hc : eComp (iAll (eP 0)) [1, 2] (gNm 1) tYs (kIn (iAll (eA (fun ds => noex (fn_table_words ds)) (aC (eV 1) aN))) [2] (gNm 2) tYs (eV 2)) [.d (encS ts), .u, .u] = .ok (.list ((linesT ts).map .str)) := by
    unfold eComp
    have hi : iAll (eP 0) [.d (encS ts), .u, .u] = .ok (ts.map encT) := by unfold encS; simp
    rw [hi, Res.ok_bind]
    have hf := loop_flat (i := 1) (j := 2) (it1 := iAll (eA (fun ds => noex (fn_table_words ds)) (aC (eV 1) aN))) (vs1 := [2]) (fe := eV 2) (ρ := wipeR [.d (encS ts), .u, .u] [1, 2]) encT (fun t => headT t :: t.rows.map rowT) (.str) (.str) (l := ts) (fun t ht => by
      have := hw t ht
      generalize encT t = E at *
      simp [wipeR, this]) (fun t ht l hl => by simp [wipeR])
    rw [hf]
    simp only [List.length_map]
    rw [if_pos (by
      have : (ts.flatMap fun t => headT t :: t.rows.map rowT).length = (linesT ts).length := rfl
      omega)]
    rfl
  refine run_rt rfl ?_
  show sRet _ [.d (encS ts), .u, .u] = _
  rw [sRet_get]
  simp only [List.map_cons, List.map_nil, frz1_d, frz1_u, oM_get, eC_get, Res.ok_bind, isStr_s, if_true, aC_get]
  rw [hc]
  simp only [Res.ok_bind, aN_get]
  rw [hj]
  rfl
theorem ev_is_text (s : Str) : fn__law_is_text [.str s, .str s] = .ok (.bool true) := by
  unfold fn__law_is_text runD F__law_is_text
  simp [strK s]
end K92
end
section
set_option Elab.async false
set_option linter.all false
set_option maxRecDepth 100000
set_option maxHeartbeats 2000000
namespace K92
open PySem PySem.Spec PyProof.Rows L2 DL
/-! ### the round trip -/
theorem tl_numS (n : Nat) : TL.tl (numS (n : Int)) = TL.numL n := TL.tl_num n
theorem numL_head (n : Nat) (h : 0 < n) : ∃ c r, TL.numL n = c :: r ∧ c ≠ 48 := by
  induction n using Nat.strongRecOn with
  | _ n ih =>
    by_cases h10 : n < 10
    · exact ⟨48 + n, [], TL.numL_lt h10, by omega⟩
    · obtain ⟨c, r, e, hc⟩ := ih (n / 10) (by omega) (by omega)
      exact ⟨c, r ++ [48 + n % 10], by rw [TL.numL_step (by omega), e]; rfl, hc⟩
theorem fig_all (n : Nat) : (TL.numL n).any bad1 = false := by
  rw [bad1_all]
  have : (TL.numL n).all isFig = true := List.all_eq_true.mpr fun c hc => (isFig_iff c).mpr (TL.numL_digits n c hc)
  rw [this]; rfl
theorem num_isNum {n : Int} (h : 0 ≤ n) : isNum (numS n) = true := by
  obtain ⟨n, rfl⟩ := Int.eq_ofNat_of_zero_le h
  have hb : ((numS (n : Int)).cps.toList).any bad1 = false := by
    have := fig_all n
    rw [← tl_numS n] at this
    exact this
  by_cases h : 0 < n
  · obtain ⟨c, r, e, hc⟩ := numL_head n h
    rw [isNum_cons ((tl_numS n).trans e), decide_eq_false hc, hb]
    rfl
  · have : n = 0 := by omega
    subst this
    decide +kernel
theorem numS_val {n : Int} (h : 0 ≤ n) : val (numS n) = n := by
  obtain ⟨n, rfl⟩ := Int.eq_ofNat_of_zero_le h
  unfold val
  rw [show (numS (n : Int)).cps.toList = TL.numL n from tl_numS n, TL.numL_val]
theorem num_low {n : Int} (h : 0 ≤ n) : ∀ c ∈ TL.tl (numS n), 48 ≤ c := by
  obtain ⟨n, rfl⟩ := Int.eq_ofNat_of_zero_le h
  rw [tl_numS]
  intro c hc
  exact (TL.numL_digits n c hc).1
theorem isLet_low {c : Nat} (h : isLet c = true) : 48 ≤ c := by
  have e : (Str.ofString "abcdefghijklmnopqrstuvwxyz").cps.toList.all (fun c => decide (48 ≤ c)) = true := by decide +kernel
  unfold isLet at h
  exact of_decide_eq_true (List.all_eq_true.mp e c (of_decide_eq_true h))
theorem word_low {s : Str} (h : isWord s 8 = true) : ∀ c ∈ TL.tl s, 48 ≤ c := by
  cases e : s.cps.toList with
  | nil => rw [isWord_nil e] at h; cases h
  | cons c r =>
    rw [isWord_cons e, bad_all] at h
    simp only [Bool.and_eq_true, Bool.not_not, Bool.not_eq_true', decide_eq_false_iff_not] at h
    intro d hd
    have := List.all_eq_true.mp h.2.2 d hd
    rw [Bool.or_eq_true] at this
    rcases this with z | z
    · exact isLet_low z
    · have := (isFig_iff d).mp z; omega
theorem mem_join (y : Str) (c : Nat) : ∀ l : List Str, c ∈ TL.tl (Str.join y l) → c ∈ TL.tl y ∨ ∃ p ∈ l, c ∈ TL.tl p
  | [], h => by cases h
  | [x], h => .inr ⟨x, List.mem_singleton.mpr rfl, h⟩
  | x :: z :: r, h => by
    have e : Str.join y (x :: z :: r) = x ++ y ++ Str.join y (z :: r) := rfl
    rw [e, TL.tl_append, TL.tl_append, List.mem_append, List.mem_append] at h
    rcases h with (h | h) | h
    · exact .inr ⟨x, List.mem_cons_self, h⟩
    · exact .inl h
    · rcases mem_join y c (z :: r) h with h | ⟨p, hp, h⟩
      · exact .inl h
      · exact .inr ⟨p, List.mem_cons_of_mem _ hp, h⟩
theorem rowT_eq {r : List Int} (h : r ≠ []) : rowT r = Txt.join SP (("row" : Str) :: r.map numS) := by
  unfold rowT
  match r, h with
  | n :: r, _ =>
    rw [TL.join_eq, TL.join_eq, List.map_cons]
    have e : Str.join SP (("row" : Str) :: numS n :: r.map numS) = ("row" : Str) ++ SP ++ Str.join SP (numS n :: r.map numS) := rfl
    rw [e]
    have : ("row" : Str) ++ SP = ("row " : Str) := by decide +kernel
    rw [this]
theorem headT_eq (t : Tb) : headT t = Txt.join SP [("table" : Str), t.nm, numS t.wd] := by
  unfold headT
  rw [TL.join_eq]
  have e : Str.join SP [("table" : Str), t.nm, numS t.wd] = ("table" : Str) ++ SP ++ (t.nm ++ SP ++ numS t.wd) := rfl
  have : ("table" : Str) ++ SP = ("table " : Str) := by decide +kernel
  rw [e, this]
  refine TL.ext_tl ?_
  have e2 : (" " : Str) = SP := by decide +kernel
  rw [e2]
  simp only [TL.tl_append, List.append_assoc]
theorem tl_sp : TL.tl SP = [32] := by decide +kernel
theorem tl_nl : TL.tl NL = [10] := by decide +kernel
theorem row_free : ∀ c ∈ TL.tl ("row" : Str), 48 ≤ c := by decide +kernel
theorem table_free : ∀ c ∈ TL.tl ("table" : Str), 48 ≤ c := by decide +kernel
theorem wd_nn {t : Tb} (h : Gd t) : 0 ≤ t.wd := by rcases h.wd with e | e | e | e <;> omega
theorem row_parts {r : List Int} (h : ∀ n ∈ r, 0 ≤ n) : ∀ p ∈ ("row" : Str) :: r.map numS, ∀ c ∈ TL.tl p, 48 ≤ c := by
  intro p hp
  rcases List.mem_cons.mp hp with e | e
  · rw [e]; exact row_free
  · obtain ⟨n, hn, rfl⟩ := List.mem_map.mp e
    exact num_low (h n hn)
theorem head_parts {t : Tb} (h : Gd t) : ∀ p ∈ [("table" : Str), t.nm, numS t.wd], ∀ c ∈ TL.tl p, 48 ≤ c := by
  intro p hp
  rcases List.mem_cons.mp hp with e | e
  · rw [e]; exact table_free
  rcases List.mem_cons.mp e with e | e
  · rw [e]; exact word_low h.nm
  · rw [List.mem_singleton.mp e]; exact num_low (wd_nn h)
theorem split_parts {l : List Str} (hne : l ≠ []) (h : ∀ p ∈ l, ∀ c ∈ TL.tl p, 48 ≤ c) : Txt.split (Txt.join SP l) SP = l := TL.split_join tl_sp sp_k hne fun p hp z => by have := h p hp 32 z; omega
theorem free_parts {l : List Str} (h : ∀ p ∈ l, ∀ c ∈ TL.tl p, 48 ≤ c) : 10 ∉ TL.tl (Txt.join SP l) := fun z => by
  rw [TL.join_eq] at z
  rcases mem_join SP 10 l z with e | ⟨p, hp, e⟩
  · rw [tl_sp] at e
    simp at e
  · have := h p hp 10 e
    omega
/-- a store that stands as the reader wants it -/
structure Vd (ts : List Tb) : Prop where
  gd : ∀ t ∈ ts, Gd t
  ln : ∀ t ∈ ts, ∀ r ∈ t.rows, (r.length : Int) = t.wd
  srt : ∀ t ∈ ts, t.rows.Pairwise fun a b => HT.lexLt a b = true
  nms : ts.Pairwise fun a b => sLt a.nm b.nm = true
theorem Vd.row_ne {ts : List Tb} (h : Vd ts) {t : Tb} (ht : t ∈ ts) {r : List Int} (hr : r ∈ t.rows) : r ≠ [] := fun z => by
  have a := h.ln t ht r hr
  rw [z] at a
  rcases (h.gd t ht).wd with e | e | e | e <;> rw [e] at a <;> cases a
theorem lines_free {ts : List Tb} (h : Vd ts) : ∀ p ∈ linesT ts, 10 ∉ TL.tl p := by
  intro p hp
  obtain ⟨t, ht, hp⟩ := List.mem_flatMap.mp hp
  rcases List.mem_cons.mp hp with e | e
  · rw [e, headT_eq]; exact free_parts (head_parts (h.gd t ht))
  · obtain ⟨r, hr, rfl⟩ := List.mem_map.mp e
    rw [rowT_eq (h.row_ne ht hr)]
    exact free_parts (row_parts fun n hn => ((h.gd t ht).num r hr n hn).1)
theorem lines_text {ts : List Tb} (h : Vd ts) : linesOf (textOf ts) = linesT ts := by
  cases ts with
  | nil =>
    show linesOf (Txt.join NL []) = []
    decide +kernel
  | cons t ts =>
    have hm : headT t ∈ linesT (t :: ts) := List.mem_flatMap.mpr ⟨t, List.mem_cons_self, List.mem_cons_self⟩
    have hne : textOf (t :: ts) ≠ ("" : Str) := fun z => by
      have a := sumL_mem hm
      have b := join1 NL (by decide +kernel) (linesT (t :: ts))
      have c : (Txt.join NL (linesT (t :: ts))).length = 0 := by
        show (textOf (t :: ts)).length = 0
        rw [z]; decide +kernel
      have d : 6 ≤ (headT t).length := by
        unfold headT
        simp only [Str.length_append]
        have : ("table " : Str).length = 6 := by decide +kernel
        omega
      omega
    unfold linesOf
    rw [if_neg hne]
    exact TL.split_join tl_nl nl_k (fun z => by rw [z] at hm; cases hm) (lines_free h)
theorem nine_isW {t : Tb} (h : Gd t) : isW (numS t.wd) = true := by
  rcases h.wd with e | e | e | e <;> rw [e] <;> decide +kernel
theorem getl {α : Type} (d : List α) (a : α) : (d ++ [a]).getLast? = some a := by simp
theorem step_head {t : Tb} (h : Gd t) {ts : List Tb} (hf : follows ts t.nm = true) : wordsStep [("table" : Str), t.nm, numS t.wd] ts = some (ts ++ [⟨t.nm, t.wd, []⟩]) := by
  have e1 : rowOf [("table" : Str), t.nm, numS t.wd] ts = none := by
    unfold rowOf
    split
    · rename_i w r u e1 e2
      cases e1
      rw [if_neg (by decide +kernel)]
    · rfl
  have e2 : tabOf [("table" : Str), t.nm, numS t.wd] ts = some ⟨t.nm, t.wd, []⟩ := by
    show (if ("table" : Str) = ("table" : Str) then (if isWord t.nm 8 = true then (if isW (numS t.wd) = true then (if follows ts t.nm = true then some (⟨t.nm, val (numS t.wd), []⟩ : Tb) else none) else none) else none) else none) = _
    rw [if_pos rfl, if_pos h.nm, if_pos (nine_isW h), if_pos hf, numS_val (wd_nn h)]
  unfold wordsStep
  rw [e1, e2]
theorem map_back {r : List Int} (h : ∀ n ∈ r, 0 ≤ n) : (r.map numS).map val = r := by
  rw [List.map_map]
  have : ∀ n ∈ r, (val ∘ numS) n = n := fun n hn => numS_val (h n hn)
  rw [List.map_congr_left this, List.map_id']
theorem step_row {d : List Tb} {nm : Str} {wd : Int} {rows : List (List Int)} {r : List Int} (h : ∀ n ∈ r, 0 ≤ n) (hl : (r.length : Int) = wd) (hs : stands rows r = true) :
    wordsStep (("row" : Str) :: r.map numS) (d ++ [⟨nm, wd, rows⟩]) = some (d ++ [⟨nm, wd, rows ++ [r]⟩]) := by
  have e1 : rowOf (("row" : Str) :: r.map numS) (d ++ [⟨nm, wd, rows⟩]) = some r := by
    unfold rowOf
    rw [getl]
    show (if ("row" : Str) = ("row" : Str) then (if ((r.map numS).length : Int) = wd then (if (r.map numS).all isNum = true then (if stands rows ((r.map numS).map val) = true then some ((r.map numS).map val) else none) else none) else none) else none) = _
    rw [if_pos rfl, List.length_map, if_pos hl, if_pos (by
      rw [List.all_eq_true]
      intro w hw
      obtain ⟨n, hn, rfl⟩ := List.mem_map.mp hw
      exact num_isNum (h n hn)), map_back h, if_pos hs]
  unfold wordsStep
  rw [e1]
  unfold withRow
  rw [getl]
  simp
theorem par_rows (d : List Tb) (nm : Str) (wd : Int) (rest : List Str) (hwd : 0 < wd) : ∀ (rs acc : List (List Int)) (k : Nat), (∀ r ∈ rs, (r.length : Int) = wd ∧ ∀ n ∈ r, 0 ≤ n) → (acc ++ rs).Pairwise (fun a b => HT.lexLt a b = true) →
    ∃ k', parseL k (rs.map rowT ++ rest) (d ++ [⟨nm, wd, acc⟩]) = parseL k' rest (d ++ [⟨nm, wd, acc ++ rs⟩])
  | [], acc, k, _, _ => ⟨k, by rw [List.append_nil]; rfl⟩
  | r :: rs, acc, k, h, hp => by
    obtain ⟨h1, h2⟩ := h r List.mem_cons_self
    have hne : r ≠ [] := fun z => by rw [z] at h1; simp at h1; omega
    have hs : stands acc r = true := by
      unfold stands
      cases e : acc.getLast? with
      | none => rfl
      | some l =>
        have hm : l ∈ acc := List.mem_of_getLast? e
        exact (List.pairwise_append.mp hp).2.2 l hm r List.mem_cons_self
    have e := step_row (d := d) (nm := nm) h2 h1 hs
    obtain ⟨k', q⟩ := par_rows d nm wd rest hwd rs (acc ++ [r]) (k + 1) (fun r hr => h r (List.mem_cons_of_mem _ hr)) (by rw [List.append_assoc]; exact hp)
    refine ⟨k', ?_⟩
    rw [List.map_cons, List.cons_append, parseL, rowT_eq hne, split_parts (by simp) (row_parts h2), e]
    show parseL (k + 1) _ _ = _
    rw [q, List.append_assoc]
    rfl
theorem par_tabs : ∀ (ts d : List Tb) (k : Nat), Vd (d ++ ts) → parseL k (linesT ts) d = .inr (d ++ ts)
  | [], d, k, _ => by rw [List.append_nil]; rfl
  | t :: ts, d, k, h => by
    have hm : t ∈ d ++ t :: ts := List.mem_append_right _ List.mem_cons_self
    have hg := h.gd t hm
    have hf : follows d t.nm = true := by
      unfold follows
      cases e : d.getLast? with
      | none => rfl
      | some l => exact (List.pairwise_append.mp h.nms).2.2 l (List.mem_of_getLast? e) t List.mem_cons_self
    have e : linesT (t :: ts) = headT t :: (t.rows.map rowT ++ linesT ts) := by
      unfold linesT
      rw [List.flatMap_cons]
      rfl
    obtain ⟨k', q⟩ := par_rows d t.nm t.wd (linesT ts) (by rcases hg.wd with e | e | e | e <;> omega) t.rows [] (k + 1) (fun r hr => ⟨h.ln t hm r hr, fun n hn => (hg.num r hr n hn).1⟩) (by rw [List.nil_append]; exact h.srt t hm)
    rw [e, parseL, headT_eq, split_parts (by simp) (head_parts hg), step_head hg hf]
    show parseL (k + 1) _ _ = _
    rw [q, List.nil_append, par_tabs ts (d ++ [t]) k' (by rw [List.append_assoc]; exact h), List.append_assoc]
    rfl
theorem round {ts : List Tb} (h : Vd ts) : parseL 0 (linesOf (textOf ts)) [] = .inr ts := by
  rw [lines_text h, par_tabs ts [] 0 (by exact h)]
  rfl
end K92
end
section
set_option Elab.async false
set_option linter.all false
set_option maxRecDepth 100000
set_option maxHeartbeats 2000000
namespace K92
open PySem PySem.Spec PyProof.Rows L2 DL
/-! ### lines out of words -/
theorem pre1 (s c : Nat) (r : List Nat) : TL.pre [s] (c :: r) = (s == c) := by
  unfold TL.pre
  simp [TL.pre, BEq.comm]
theorem spl_app (s : Nat) (b : List Nat) : ∀ a acc : List Nat, TL.spl [s] 0 acc (a ++ s :: b) = TL.spl [s] 0 acc a ++ TL.spl [s] 0 [] b
  | [], acc => by
    rw [List.nil_append, TL.spl_hit (by rw [pre1]; exact beq_self_eq_true s), TL.spl_nil]
    rfl
  | c :: r, acc => by
    rw [List.cons_append]
    cases e : (s == c) with
    | true =>
      rw [TL.spl_hit (by rw [pre1]; exact e), TL.spl_hit (by rw [pre1]; exact e), List.cons_append]
      exact congrArg _ (spl_app s b r [])
    | false =>
      rw [TL.spl_miss (by rw [pre1]; exact e), TL.spl_miss (by rw [pre1]; exact e)]
      exact spl_app s b r _
theorem spl_joinL (s : Nat) : ∀ l : List (List Nat), l ≠ [] → TL.spl [s] 0 [] (TL.joinL [s] l) = l.flatMap (TL.spl [s] 0 [])
  | [p], _ => by simp [TL.joinL]
  | p :: q :: r, _ => by
    show TL.spl [s] 0 [] (p ++ s :: TL.joinL [s] (q :: r)) = _
    rw [spl_app, spl_joinL s (q :: r) (by simp), List.flatMap_cons (x := p)]
theorem piece_join {y : Str} {s : Nat} (ey : TL.tl y = [s]) (hk : y.cps.all (· < 256) = true) {l : List Str} (hne : l ≠ []) {p : Str} (h : p ∈ Txt.split (Txt.join y l) y) : ∃ w ∈ l, p ∈ Txt.split w y := by
  have hy : TL.tl y ≠ [] := by rw [ey]; exact List.cons_ne_nil _ _
  have a : TL.tl p ∈ TL.spl [s] 0 [] (TL.tl (Txt.join y l)) := by
    rw [← ey, ← split_tl _ y hy hk]
    exact List.mem_map.mpr ⟨p, h, rfl⟩
  rw [TL.join_eq, TL.tl_join, ey, spl_joinL s _ (fun z => hne (List.map_eq_nil_iff.mp z))] at a
  obtain ⟨q, hq, a⟩ := List.mem_flatMap.mp a
  obtain ⟨w, hw, rfl⟩ := List.mem_map.mp hq
  rw [← ey, ← split_tl _ y hy hk] at a
  obtain ⟨z, hz, e⟩ := List.mem_map.mp a
  rw [← TL.ext_tl e]
  exact ⟨w, hw, hz⟩
theorem spl_mem (s c : Nat) : ∀ (l acc p : List Nat), p ∈ TL.spl [s] 0 acc l → c ∈ p → c ∈ acc ∨ c ∈ l
  | [], acc, p, h, hc => by
    rw [TL.spl_nil, List.mem_singleton] at h
    rw [h] at hc
    exact .inl hc
  | d :: r, acc, p, h, hc => by
    cases e : TL.pre [s] (d :: r) with
    | true =>
      rw [TL.spl_hit e] at h
      rcases List.mem_cons.mp h with z | z
      · rw [z] at hc; exact .inl hc
      · rcases spl_mem s c r [] p z hc with q | q
        · cases q
        · exact .inr (List.mem_cons_of_mem _ q)
    | false =>
      rw [TL.spl_miss e] at h
      rcases spl_mem s c r (acc ++ [d]) p h hc with q | q
      · rcases List.mem_append.mp q with q | q
        · exact .inl q
        · rw [List.mem_singleton.mp q]; exact .inr List.mem_cons_self
      · exact .inr (List.mem_cons_of_mem _ q)
theorem piece_mem {x y : Str} {s c : Nat} (ey : TL.tl y = [s]) (hk : y.cps.all (· < 256) = true) {p : Str} (h : p ∈ Txt.split x y) (hc : c ∈ TL.tl p) : c ∈ TL.tl x := by
  have a : TL.tl p ∈ TL.spl [s] 0 [] (TL.tl x) := by
    rw [← ey, ← split_tl x y (by rw [ey]; exact List.cons_ne_nil _ _) hk]
    exact List.mem_map.mpr ⟨p, h, rfl⟩
  rcases spl_mem s c _ _ _ a hc with z | z
  · cases z
  · exact z
/-- clean signs: ASCII, no newline -/
def Cl (x : Str) : Prop := ∀ c ∈ TL.tl x, c < 128 ∧ c ≠ 10
/-- a word of at most m signs -/
structure Wd (m : Nat) (w : Str) : Prop where
  cl : Cl w
  ln : w.length ≤ m
/-- a line whose words are at most m long -/
structure Ln (m : Nat) (l : Str) : Prop where
  cl : Cl l
  wd : ∀ w ∈ Txt.split l SP, w.length ≤ m
instance (x : Str) : Decidable (Cl x) := inferInstanceAs (Decidable (∀ c ∈ TL.tl x, c < 128 ∧ c ≠ 10))
theorem Cl.app {x y : Str} (hx : Cl x) (hy : Cl y) : Cl (x ++ y) := fun c h => by
  rw [TL.tl_append] at h
  rcases List.mem_append.mp h with z | z
  · exact hx c z
  · exact hy c z
theorem Cl.join {y : Str} {l : List Str} (hy : Cl y) (h : ∀ p ∈ l, Cl p) : Cl (Txt.join y l) := fun c hc => by
  rw [TL.join_eq] at hc
  rcases mem_join y c l hc with z | ⟨p, hp, z⟩
  · exact hy c z
  · exact h p hp c z
theorem cl_sp : Cl SP := by decide +kernel
theorem Wd.mono {m k : Nat} {w : Str} (h : Wd m w) (hk : m ≤ k) : Wd k w := ⟨h.cl, Nat.le_trans h.ln hk⟩
theorem Ln.mono {m k : Nat} {w : Str} (h : Ln m w) (hk : m ≤ k) : Ln k w := ⟨h.cl, fun x hx => Nat.le_trans (h.wd x hx) hk⟩
theorem Ln.words {m : Nat} {l : Str} (h : Ln m l) : ∀ w ∈ Txt.split l SP, Wd m w := fun w hw => ⟨fun c hc => h.cl c (piece_mem tl_sp sp_k hw hc), h.wd w hw⟩
theorem ln_join {m : Nat} {ws : List Str} (h : ∀ w ∈ ws, Wd m w) : Ln m (Txt.join SP ws) := by
  refine ⟨Cl.join cl_sp fun p hp => (h p hp).cl, fun w hw => ?_⟩
  by_cases hne : ws = []
  · rw [hne] at hw
    have : Txt.split (Txt.join SP []) SP = [Str.empty] := by decide +kernel
    rw [this, List.mem_singleton] at hw
    rw [hw]
    exact Nat.zero_le _
  · obtain ⟨p, hp, hq⟩ := piece_join tl_sp sp_k hne hw
    exact Nat.le_trans (split_piece p SP sp_ne sp_k hq) (h p hp).ln
/-- lines whose words are at most m long, S signs in all -/
structure Ls (m S : Nat) (ls : List Str) : Prop where
  ln : ∀ l ∈ ls, Ln m l
  sum : sumL ls ≤ S
theorem lines_join {m S : Nat} {ls : List Str} (h : Ls m S ls) (hne : ls ≠ []) : Txt.split (Txt.join NL ls) NL = ls := TL.split_join tl_nl nl_k hne fun p hp z => ((h.ln p hp).cl 10 z).2 rfl
theorem join_len1 (y : Str) (h : y.length = 1) : ∀ l : List Str, (Txt.join y l).length ≤ sumL l
  | [] => Nat.zero_le _
  | [x] => by
    rw [TL.join_eq]
    show x.length ≤ x.length + 1 + 0
    omega
  | x :: z :: r => by
    have ih := join_len1 y h (z :: r)
    rw [TL.join_eq] at ih ⊢
    have e : Str.join y (x :: z :: r) = x ++ y ++ Str.join y (z :: r) := rfl
    have e2 : sumL (x :: z :: r) = x.length + 1 + sumL (z :: r) := by unfold sumL; rw [List.map_cons, List.sum_cons]
    rw [e, e2, Str.length_append, Str.length_append, h]
    omega
theorem Ls.tok {ls : List Str} (h : Ls 500 1000000 ls) : TOk (Txt.join NL ls) := by
  refine ⟨Nat.le_trans (join_len1 NL (by decide +kernel) ls) h.sum, fun l hl => ?_⟩
  have hm : l ∈ ls := by
    by_cases hne : ls = []
    · rw [hne] at hl
      have : linesOf (Txt.join NL []) = [] := by decide +kernel
      rw [this] at hl
      cases hl
    · unfold linesOf at hl
      split at hl
      · cases hl
      · rw [lines_join h hne] at hl
        exact hl
  have := sumL_mem hm
  have := h.sum
  exact ⟨by omega, (h.ln l hm).wd⟩
end K92
end
section
set_option Elab.async false
set_option linter.all false
set_option maxRecDepth 100000
set_option maxHeartbeats 2000000
namespace K92
open PySem PySem.Spec PyProof.Rows L2 DL
/-! ### the script's numbers and their digits -/
def encN (ns : List Int) : PyData := .list (ns.map .int)
theorem dMod_ii (i : Int) {j : Int} (h : 0 < j) : dMod (.int i) (.int j) = some (.int (i % j)) := gdt (decide_eq_true h)
theorem log_64 {i : Int} (h0 : 0 ≤ i) (h : i < 2 ^ 64) : i.natAbs.log2 < 64 := by
  by_cases z : i.natAbs = 0
  · rw [z]; decide
  · exact (Nat.log2_lt z).mpr (by omega)
theorem dDiv_ii (i : Int) {j : Int} (h0 : 0 < j) (h : j < 2 ^ 64) : dDiv (.int i) (.int j) = some (.int (i / j)) := gdt (decide_eq_true ⟨h0, by have := log_64 (Int.le_of_lt h0) h; omega⟩)
theorem dMul_ii {i j : Int} (h0 : 0 ≤ i) (h1 : i < 2 ^ 64) (h2 : 0 ≤ j) (h3 : j < 2 ^ 64) : dMul (.int i) (.int j) = some (.int (i * j)) := gdt (decide_eq_true (by
  have := log_64 h0 h1
  have := log_64 h2 h3
  show i.natAbs.log2 + j.natAbs.log2 < 1000000
  omega))
theorem mod_bd (i : Int) {j : Int} (h : 0 < j) : 0 ≤ i % j ∧ i % j < j := ⟨Int.emod_nonneg _ (by omega), Int.emod_lt_of_pos _ h⟩
theorem cell_loop {S0 S1 : Sl} : ∀ (ns : List Int) (s : Int) (x : Sl), 0 ≤ s → s < 1000003 →
    ∃ s' x', 0 ≤ s' ∧ s' < 1000003 ∧ forL (gNm 3) (sAsg (o2 dMod (oA dInt (aC (o2 dAdd (o2 dMul (eP 2) (eC (.int 31))) (o2 dMod (oA dInt (aC (eP 3) aN)) (eC (.int 1000003)))) aN)) (eC (.int 1000003))) (gNm 2)) (ns.map .int) [S0, S1, .d (.int s), x] = .nx [S0, S1, .d (.int s'), x']
  | [], s, x, h0, h1 => ⟨s, x, h0, h1, rfl⟩
  | n :: ns, s, x, h0, h1 => by
    have e1 := dMul_ii (i := s) (j := 31) h0 (by omega) (by omega) (by omega)
    have e2 := dMod_ii n (j := 1000003) (by omega)
    have e3 := dMod_ii (s * 31 + n % 1000003) (j := 1000003) (by omega)
    obtain ⟨b0, b1⟩ := mod_bd (s * 31 + n % 1000003) (j := 1000003) (by omega)
    obtain ⟨s', x', c0, c1, q⟩ := cell_loop ns ((s * 31 + n % 1000003) % 1000003) (.d (.int n)) b0 b1
    refine ⟨s', x', c0, c1, ?_⟩
    rw [List.map_cons, forL_cons (ρ1 := [S0, S1, .d (.int s), .d (.int n)]) rfl]
    rw [← q]
    simp [e1, e2, e3]
theorem ev_cell (ns : List Int) (k : Nat) (hk : k ≤ 1000) : ∃ c : Int, fn__law_cell [encN ns, .int (k : Int)] = .ok (.int c) := by
  unfold fn__law_cell runD F__law_cell encN
  by_cases h : k < ns.length
  · refine ⟨ns[k], ?_⟩
    have hi : dIx (.list (ns.map .int)) (.int (k : Int)) = some (.int ns[k]) := by
      rw [dIx_l, List.getElem?_map, List.getElem?_eq_getElem h]
      rfl
    simp [h, hi]
  · obtain ⟨s', x', c0, c1, q⟩ := cell_loop (S0 := .d (.list (ns.map .int))) (S1 := .d (.int (k : Int))) ns 17 .u (by omega) (by omega)
    have m0 : 0 ≤ (s' + 7) * ((k : Int) + 3) := Int.mul_nonneg (by omega) (by omega)
    have m1 : (s' + 7) * ((k : Int) + 3) ≤ 1000010 * 1003 := Int.mul_le_mul (by omega) (by omega) (by omega) (by omega)
    have e1 := dMul_ii (i := s' + 7) (j := (k : Int) + 3) (by omega) (by omega) (by omega) (by omega)
    have e2 := dMul_ii (i := (s' + 7) * ((k : Int) + 3)) (j := 69621) m0 (by omega) (by omega) (by omega)
    have e3 := dMod_ii ((s' + 7) * ((k : Int) + 3) * 69621) (j := 2147483647) (by omega)
    refine ⟨((s' + 7) * ((k : Int) + 3) * 69621) % 2147483647, ?_⟩
    have hf : sFor (iAll (eV 0)) (gNm 3) (sAsg (o2 dMod (oA dInt (aC (o2 dAdd (o2 dMul (eP 2) (eC (.int 31))) (o2 dMod (oA dInt (aC (eP 3) aN)) (eC (.int 1000003)))) aN)) (eC (.int 1000003))) (gNm 2)) [.d (.list (ns.map .int)), .d (.int (k : Int)), .d (.int 17), .u] = .nx [.d (.list (ns.map .int)), .d (.int (k : Int)), .d (.int s'), x'] := by
      rw [← q]
      simp [-sAsg_get]
    have hx : frz1 x' = frz1 x' := rfl
    refine run_rt rfl ?_
    refine (seq_nx (ρ' := [.d (.list (ns.map .int)), .d (.int (k : Int)), .u, .u]) ?_).trans ?_
    · simp [h]
    refine (seq_nx (ρ' := [.d (.list (ns.map .int)), .d (.int (k : Int)), .d (.int 17), .u]) ?_).trans ?_
    · simp
    refine (seq_nx hf).trans ?_
    simp [e1, e2, e3]
/-- digits below their sizes -/
def Dg : List Int → List Int → Prop
  | [], [] => True
  | r :: rs, s :: ss => (0 ≤ r ∧ r < s) ∧ Dg rs ss
  | _, _ => False
/-- good sizes -/
def Sz (ss : List Int) : Prop := ss.length ≤ 100 ∧ ∀ s ∈ ss, 0 < s ∧ s < 2 ^ 64
def dgA : Rho → Out := sSeq (sApp 2 (o2 dMod (oA dInt (aC (eP 3) aN)) (eP 4)))
  (sAsg (o2 dDiv (oA dInt (aC (eP 3) aN)) (eP 4)) (gNm 3))
theorem dg_a {S0 S1 s5 s6 s7 : Sl} : ∀ (ss acc : List Int) (rest : Int) (x : Sl), (∀ s ∈ ss, 0 < s ∧ s < 2 ^ 64) → acc.length + ss.length < 1000 →
    ∃ row rest' x', Dg row ss ∧ forL (gNm 4) dgA (ss.map .int) [S0, S1, .o (acc.map .int), .d (.int rest), x, s5, s6, s7] = .nx [S0, S1, .o ((acc ++ row).map .int), .d (.int rest'), x', s5, s6, s7]
  | [], acc, rest, x, _, _ => ⟨[], rest, x, trivial, by rw [List.append_nil]; rfl⟩
  | s :: ss, acc, rest, x, h, hl => by
    obtain ⟨h0, h1⟩ := h s List.mem_cons_self
    rw [List.length_cons] at hl
    have e1 := dMod_ii rest h0
    have e2 := dDiv_ii rest h0 h1
    have hz : acc.length < sizeLine := by rw [sizeLine_eq]; omega
    obtain ⟨row, rest', x', hd, q⟩ := dg_a (S0 := S0) (S1 := S1) (s5 := s5) (s6 := s6) (s7 := s7) ss (acc ++ [rest % s]) (rest / s) (.d (.int s)) (fun s hs => h s (List.mem_cons_of_mem _ hs)) (by rw [List.length_append, List.length_singleton]; omega)
    refine ⟨rest % s :: row, rest', x', ⟨mod_bd rest h0, hd⟩, ?_⟩
    rw [List.map_cons, forL_cons (ρ1 := [S0, S1, .o (acc.map .int), .d (.int rest), .d (.int s), s5, s6, s7]) rfl]
    have e : dgA [S0, S1, .o (acc.map .int), .d (.int rest), .d (.int s), s5, s6, s7] = .nx [S0, S1, .o ((acc ++ [rest % s]).map .int), .d (.int (rest / s)), .d (.int s), s5, s6, s7] := by
      unfold dgA
      simp [e1, e2, hz]
    rw [e]
    show forL (gNm 4) dgA (ss.map .int) _ = _
    rw [q, List.append_assoc]
    rfl
def dgB : Rho → Out := sSeq (sAsg (o2 dMod (oA dInt (aC (o2 dAdd (o2 dAdd (o2 dMul (eP 5) (eC (.int 48271))) (o2 dMul (eC (.int 974711)) (eP 6))) (eC (.int 12345))) aN)) (eC (.int 2147483647))) (gNm 5))
  (sSeq (sAsg (o2 dMod (oA dInt (aC (o2 dMul (eP 5) (o2 dAdd (o2 dDiv (eP 5) (eC (.int 65537))) (eC (.int 3)))) aN)) (eC (.int 2147483629))) (gNm 7))
  (sApp 2 (o2 dMod (o2 dDiv (eP 7) (eC (.int 19))) (o2 dIx (eP 1) (eP 6)))))
theorem dg_b {S0 s3 s4 : Sl} {sizes : List Int} : ∀ (m i : Nat) (ss acc : List Int) (seed : Int) (x y : Sl), sizes.drop i = ss → ss.length = m → (∀ s ∈ ss, 0 < s ∧ s < 2 ^ 64) → acc.length + m < 1000 → i + m < 1000 → 0 ≤ seed → seed < 2147483647 →
    ∃ row seed' x' y', Dg row ss ∧ forL (gNm 6) dgB ((List.range' i m).map fun (j : Nat) => .int (0 + (j : Int))) [S0, .d (.list (sizes.map .int)), .o (acc.map .int), s3, s4, .d (.int seed), x, y] = .nx [S0, .d (.list (sizes.map .int)), .o ((acc ++ row).map .int), s3, s4, .d (.int seed'), x', y']
  | 0, i, ss, acc, seed, x, y, hd, hm, _, _, _, _, _ => by
    have : ss = [] := List.eq_nil_of_length_eq_zero hm
    rw [this]
    exact ⟨[], seed, x, y, trivial, by rw [List.append_nil]; rfl⟩
  | m + 1, i, [], acc, seed, x, y, hd, hm, _, _, _, _, _ => by cases hm
  | m + 1, i, s :: ss, acc, seed, x, y, hd, hm, h, hl, hi, b0, b1 => by
    obtain ⟨g1, g2⟩ := drop_get hd
    obtain ⟨h0, h1⟩ := h s List.mem_cons_self
    have hz : acc.length < sizeLine := by rw [sizeLine_eq]; omega
    have e1 := dMul_ii (i := seed) (j := 48271) b0 (by omega) (by omega) (by omega)
    have e2 := dMul_ii (i := 974711) (j := 0 + (i : Int)) (by omega) (by omega) (by omega) (by omega)
    have e3 := dMod_ii (seed * 48271 + 974711 * (0 + (i : Int)) + 12345) (j := 2147483647) (by omega)
    obtain ⟨c0, c1⟩ := mod_bd (seed * 48271 + 974711 * (0 + (i : Int)) + 12345) (j := 2147483647) (by omega)
    generalize hs2 : (seed * 48271 + 974711 * (0 + (i : Int)) + 12345) % 2147483647 = s2 at *
    have e4 := dDiv_ii s2 (j := 65537) (by omega) (by omega)
    have e5 := dMul_ii (i := s2) (j := s2 / 65537 + 3) c0 (by omega) (by omega) (by omega)
    have e6 := dMod_ii (s2 * (s2 / 65537 + 3)) (j := 2147483629) (by omega)
    generalize ht : (s2 * (s2 / 65537 + 3)) % 2147483629 = tw at *
    have e7 := dDiv_ii tw (j := 19) (by omega) (by omega)
    have e8 := dMod_ii (tw / 19) h0
    have e9 : dIx (.list (sizes.map .int)) (.int (0 + (i : Int))) = some (.int s) := by
      rw [Int.zero_add, dIx_l, List.getElem?_map, g1]
      rfl
    obtain ⟨row, seed', x', y', hD, q⟩ := dg_b (S0 := S0) (s3 := s3) (s4 := s4) m (i + 1) ss (acc ++ [tw / 19 % s]) s2 (.d (.int (0 + (i : Int)))) (.d (.int tw)) g2 (by simpa using hm) (fun s hs => h s (List.mem_cons_of_mem _ hs)) (by rw [List.length_append, List.length_singleton]; omega) (by omega) c0 c1
    refine ⟨tw / 19 % s :: row, seed', x', y', ⟨mod_bd _ h0, hD⟩, ?_⟩
    rw [List.range'_succ, List.map_cons, forL_cons (ρ1 := [S0, .d (.list (sizes.map .int)), .o (acc.map .int), s3, s4, .d (.int seed), .d (.int (0 + (i : Int))), y]) rfl]
    have e : dgB [S0, .d (.list (sizes.map .int)), .o (acc.map .int), s3, s4, .d (.int seed), .d (.int (0 + (i : Int))), y] = .nx [S0, .d (.list (sizes.map .int)), .o ((acc ++ [tw / 19 % s]).map .int), s3, s4, .d (.int s2), .d (.int (0 + (i : Int))), .d (.int tw)] := by
      unfold dgB
      generalize (0 + (i : Int)) = ii at *
      simp [e1, e2, e3, hs2, e4, e5, e6, ht, e7, e8, e9, hz]
    rw [e]
    show forL (gNm 6) dgB _ _ = _
    rw [q, List.append_assoc]
    rfl
theorem ev_digits (c : Int) (sizes : List Int) (h : Sz sizes) : ∃ row, Dg row sizes ∧ fn__law_digits [.int c, encN sizes] = .ok (encN row) := by
  obtain ⟨hl, hs⟩ := h
  have hp : dPow (.int 10) (.int 18) = some (.int (10 ^ 18)) := gdt (by decide +kernel)
  have hz : 0 ≤ sizeLine := Nat.zero_le _
  by_cases hc : (10 ^ 18 : Int) ≤ c
  · obtain ⟨row, rest', x', hd, q⟩ := dg_a (S0 := .d (.int c)) (S1 := .d (encN sizes)) (s5 := .u) (s6 := .u) (s7 := .u) sizes [] (c - 10 ^ 18) .u hs (by rw [List.length_nil]; omega)
    refine ⟨row, hd, run_rt rfl ?_⟩
    refine (seq_nx (ρ' := [.d (.int c), .d (encN sizes), .o [], .u, .u, .u, .u, .u]) ?_).trans ?_
    · simp [dLst_ok, hz]
    refine (seq_nx (ρ' := [.d (.int c), .d (encN sizes), .o [], .d (.int c), .u, .u, .u, .u]) ?_).trans ?_
    · simp
    refine seq_rt ?_
    rw [sIf_get]
    have ht : tV dBool (o2 dGe (eP 3) (o2 dPow (eC (.int 10)) (eC (.int 18)))) [.d (.int c), .d (encN sizes), .o [], .d (.int c), .u, .u, .u, .u] = .ok true := by
      simp [hp]
      omega
    rw [ht]
    simp only [Res.ok_out, if_true]
    refine (seq_nx (ρ' := [.d (.int c), .d (encN sizes), .o [], .d (.int (c - 10 ^ 18)), .u, .u, .u, .u]) ?_).trans ?_
    · simp [hp]
    refine (seq_nx (ρ' := [.d (.int c), .d (encN sizes), .o (row.map .int), .d (.int rest'), x', .u, .u, .u]) ?_).trans ?_
    · rw [List.nil_append] at q
      rw [sFor_get]
      unfold encN at q ⊢
      simp only [iAll_get, eV_get, List.getElem?_cons_succ, List.getElem?_cons_zero, Res.ok_bind, dItems_list, Res.ok_out]
      exact q
    · simp [encN]
  · have hc0 := mod_bd c (j := 2147483629) (by omega)
    have e1 := dMod_ii c (j := 2147483629) (by omega)
    obtain ⟨row, seed', x', y', hd, q⟩ := dg_b (S0 := .d (.int c)) (s3 := .d (.int c)) (s4 := .u) (sizes := sizes) sizes.length 0 sizes [] (c % 2147483629) .u .u rfl rfl hs (by rw [List.length_nil]; omega) (by omega) hc0.1 (by omega)
    refine ⟨row, hd, run_rt rfl ?_⟩
    refine (seq_nx (ρ' := [.d (.int c), .d (encN sizes), .o [], .u, .u, .u, .u, .u]) ?_).trans ?_
    · simp [dLst_ok, hz]
    refine (seq_nx (ρ' := [.d (.int c), .d (encN sizes), .o [], .d (.int c), .u, .u, .u, .u]) ?_).trans ?_
    · simp
    refine (seq_nx (ρ' := [.d (.int c), .d (encN sizes), .o [], .d (.int c), .u, .u, .u, .u]) ?_).trans ?_
    · rw [sIf_get]
      have ht : tV dBool (o2 dGe (eP 3) (o2 dPow (eC (.int 10)) (eC (.int 18)))) [.d (.int c), .d (encN sizes), .o [], .d (.int c), .u, .u, .u, .u] = .ok false := by
        simp [hp]
        omega
      rw [ht]
      rfl
    refine (seq_nx (ρ' := [.d (.int c), .d (encN sizes), .o [], .d (.int c), .u, .d (.int (c % 2147483629)), .u, .u]) ?_).trans ?_
    · simp [e1]
    refine (seq_nx (ρ' := [.d (.int c), .d (encN sizes), .o (row.map .int), .d (.int c), .u, .d (.int seed'), x', y']) ?_).trans ?_
    · rw [for_range (n := sizes.length) (by simp [encN]) (by omega), rng_eq]
      rw [List.nil_append] at q
      exact q
    · simp [encN]
end K92
end
section
set_option Elab.async false
set_option linter.all false
set_option maxRecDepth 100000
set_option maxHeartbeats 2000000
namespace K92
open PySem PySem.Spec PyProof.Rows L2 DL
/-! ### a name -/
theorem Dg.get : ∀ {row ss : List Int} {i : Nat} {s : Int}, Dg row ss → ss[i]? = some s → ∃ v, row[i]? = some v ∧ 0 ≤ v ∧ v < s
  | [], [], i, s, _, h => by cases h
  | r :: rs, t :: ss, 0, s, ⟨h1, _⟩, h => by cases h; exact ⟨r, rfl, h1⟩
  | r :: rs, t :: ss, i + 1, s, ⟨_, h2⟩, h => Dg.get (i := i) h2 h
theorem Dg.nat {row ss : List Int} {i : Nat} {s : Int} (h : Dg row ss) (e : ss[i]? = some s) : ∃ v : Nat, row[i]? = some (v : Int) ∧ (v : Int) < s := by
  obtain ⟨v, h1, h2, h3⟩ := h.get e
  exact ⟨v.toNat, by rw [Int.toNat_of_nonneg h2]; exact h1, by rw [Int.toNat_of_nonneg h2]; exact h3⟩
theorem ix_row {row : List Int} {i : Nat} {v : Int} (h : row[i]? = some v) : dIx (.list (row.map .int)) (.int (i : Int)) = some (.int v) := by
  rw [dIx_l, List.getElem?_map, h]
  rfl
def SL : Str := "abcdefghijklmnopqrstuvwxyz0123456789"
def slc (v : Nat) : Nat := SL.cps.toList.getD v 0
theorem sl_ix {v : Nat} (h : v < 36) : dIx (.str SL) (.int (v : Int)) = some (.str ⟨#[slc v]⟩) := by
  have hl : SL.cps.toList.length = 36 := by decide +kernel
  have hs : SL.length = 36 := by decide +kernel
  show (if SL.length ≤ sizeLine then (L2.atI SL.cps.toList (v : Int)).map fun c => PyData.str ⟨#[c]⟩ else none) = _
  rw [if_pos (by rw [hs, sizeLine_eq]; omega), DL.atI_nat]
  unfold slc
  rw [List.getD_eq_getElem?_getD, List.getElem?_eq_getElem (by omega)]
  rfl
theorem sl_let : ∀ v, v < 26 → isLet (slc v) = true := by decide +kernel
theorem sl_ok : ∀ v, v < 36 → bad2 (slc v) = false := by decide +kernel
theorem join0 : ∀ l : List Str, TL.tl (Str.join ("" : Str) l) = l.flatMap TL.tl
  | [] => rfl
  | [x] => by
    show TL.tl x = [x].flatMap TL.tl
    simp
  | x :: z :: r => by
    have e : Str.join ("" : Str) (x :: z :: r) = x ++ ("" : Str) ++ Str.join ("" : Str) (z :: r) := rfl
    have e0 : TL.tl ("" : Str) = [] := by decide +kernel
    rw [e, TL.tl_append, TL.tl_append, e0, List.append_nil, join0 (z :: r), List.flatMap_cons (x := x)]
def near : List Str := ["r", "r1", "r10", "r2", "ra", "s", "a", "a0", "table", "row", "zzzzzzzz", "b9", "e", "edge", "z", "likes"]
theorem near_ok : ∀ s ∈ near, isWord s 8 = true := by decide +kernel
def nmS : List Int := [2, 16, 8, 26, 36, 36, 36, 36, 36, 36, 36]
theorem nmS_tail : ∀ k, k < 7 → nmS[4 + k]? = some 36 := by decide
theorem ev_name (row : List Int) (h : Dg row nmS) : ∃ nm, isWord nm 8 = true ∧ fn__law_name [encN row] = .ok (.str nm) := by
  have hz : sizeLine = 16777216 := sizeLine_eq
  obtain ⟨a0, e0, b0⟩ := h.nat (i := 0) rfl
  obtain ⟨a1, e1, b1⟩ := h.nat (i := 1) rfl
  obtain ⟨a2, e2, b2⟩ := h.nat (i := 2) rfl
  obtain ⟨a3, e3, b3⟩ := h.nat (i := 3) rfl
  have i0 := ix_row e0
  have i1 := ix_row e1
  have i2 := ix_row e2
  have i3 := ix_row e3
  have hn : (eA dLst (aC (eC (.str "r")) (aC (eC (.str "r1")) (aC (eC (.str "r10")) (aC (eC (.str "r2")) (aC (eC (.str "ra")) (aC (eC (.str "s")) (aC (eC (.str "a")) (aC (eC (.str "a0")) (aC (eC (.str "table")) (aC (eC (.str "row")) (aC (eC (.str "zzzzzzzz")) (aC (eC (.str "b9")) (aC (eC (.str "e")) (aC (eC (.str "edge")) (aC (eC (.str "z")) (aC (eC (.str "likes")) aN))))))))))))))))) [.d (encN row), .d (.str SL), .u, .u] = .ok (.list (near.map .str)) := by
    simp only [eA_get, aC_get, eC_get, aN_get, Res.ok_bind]
    exact dLst_ok _ (by rw [hz]; decide)
  by_cases hc : a0 = 0
  · have hm : a1 < near.length := by
      have : near.length = 16 := rfl
      omega
    refine ⟨near[a1], near_ok _ (List.getElem_mem hm), run_rt rfl ?_⟩
    have ix : dIx (.list (near.map .str)) (.int (a1 : Int)) = some (.str near[a1]) := by
      rw [dIx_l, List.getElem?_map, List.getElem?_eq_getElem hm]
      rfl
    refine (seq_nx (ρ' := [.d (encN row), .d (.str SL), .u, .u]) rfl).trans ?_
    refine (seq_nx (ρ' := [.d (encN row), .d (.str SL), .d (.list (near.map .str)), .u]) ?_).trans ?_
    · rw [sAsg_get, hn]
      rfl
    generalize near.map PyData.str = W at *
    refine seq_rt ?_
    subst hc
    unfold encN
    simp only [Int.natCast_zero] at i0
    simp [show dIx (.list (row.map .int)) (.int 0) = some (.int 0) from i0, show dIx (.list (row.map .int)) (.int 1) = some (.int a1) from i1, ix]
  · have hk : ∀ k, k < a2 → ∃ v : Nat, row[4 + k]? = some (v : Int) ∧ v < 36 := fun k hk => by
      obtain ⟨v, g1, g2⟩ := h.nat (nmS_tail k (by omega))
      exact ⟨v, g1, by omega⟩
    let g : Nat → Nat := fun k => slc (row.getD (4 + k) 0).toNat
    have hg : ∀ k, k < a2 → bad2 (g k) = false := fun k h => by
      obtain ⟨v, g1, g2⟩ := hk k h
      show bad2 (slc (row.getD (4 + k) 0).toNat) = false
      rw [List.getD_eq_getElem?_getD, g1]
      exact sl_ok v g2
    have hC : eComp (iRange1 (o2 dIx (eP 0) (eC (.int 2)))) [3] (gNm 3) tYs (kOne (o2 dIx (eP 1) (o2 dIx (eP 0) (o2 dAdd (eC (.int 4)) (eP 3))))) [.d (.list (row.map .int)), .d (.str SL), .d (.list (near.map .str)), .u]
        = .ok (.list ((List.range' 0 a2).map fun k => .str ⟨#[g k]⟩)) := by
      refine comp_map (fun (j : Nat) => .int (0 + (j : Int))) (fun k => .str ⟨#[g k]⟩) ?_ ?_ ?_
      · rw [← rng_eq]
        refine range_ok ?_ (by omega)
        simp [show dIx (.list (row.map .int)) (.int 2) = some (.int a2) from i2]
      · intro k hm
        have hka : k < a2 := by
          have := (List.mem_range'_1.mp hm).2
          omega
        obtain ⟨v, g1, g2⟩ := hk k hka
        have j1 := ix_row g1
        have j2 := sl_ix g2
        have ee : g k = slc v := by
          show slc (row.getD (4 + k) 0).toNat = _
          rw [List.getD_eq_getElem?_getD, g1]
          rfl
        have cc : (4 : Int) + (k : Int) = ((4 + k : Nat) : Int) := by omega
        have j1' : dIx (.list (row.map .int)) (.int ((4 : Int) + (k : Int))) = some (.int v) := by rw [cc]; exact j1
        clear cc j1
        simp [wipeR, j1', j2, ee]
      · rw [List.length_range', hz]; omega
    let sts : List Str := (List.range' 0 a2).map fun k => (⟨#[g k]⟩ : Str)
    have hj : dJoin (.str ("" : Str)) [.list ((List.range' 0 a2).map fun k => .str ⟨#[g k]⟩)] = some (.str (Txt.join ("" : Str) sts)) := by
      have e : ((List.range' 0 a2).map fun k => PyData.str ⟨#[g k]⟩) = sts.map .str := by
        show _ = ((List.range' 0 a2).map fun k => (⟨#[g k]⟩ : Str)).map PyData.str
        rw [List.map_map]
        rfl
      rw [e]
      unfold dJoin
      simp only [strsOf_map]
      refine gdt (decide_eq_true ?_)
      have l0 : ("" : Str).length = 0 := by decide +kernel
      have : (sts.map (·.length)).sum = a2 := by
        show (((List.range' 0 a2).map fun k => (⟨#[g k]⟩ : Str)).map (·.length)).sum = a2
        rw [List.map_map]
        have hone : ∀ l : List Nat, (l.map ((fun x : Str => x.length) ∘ fun k => (⟨#[g k]⟩ : Str))).sum = l.length := fun l => by
          induction l with
          | nil => rfl
          | cons a l ih =>
            rw [List.map_cons, List.sum_cons, ih, List.length_cons]
            show 1 + l.length = _
            omega
        exact (hone _).trans List.length_range'
      rw [this, l0]
      omega
    have ht : TL.tl (Txt.join ("" : Str) sts) = (List.range' 0 a2).map g := by
      rw [TL.join_eq, join0]
      show ((List.range' 0 a2).map fun k => (⟨#[g k]⟩ : Str)).flatMap TL.tl = _
      rw [List.flatMap_map]
      show (List.range' 0 a2).flatMap (fun k => [g k]) = _
      generalize List.range' 0 a2 = l
      induction l with
      | nil => rfl
      | cons a l ih => rw [List.flatMap_cons, ih]; rfl
    have hlen : (Txt.join ("" : Str) sts).length = a2 := by rw [TL.len_tl, ht, List.length_map, List.length_range']
    have s3 := sl_ix (v := a3) (by omega)
    have l1 : (⟨#[slc a3]⟩ : Str).length = 1 := rfl
    have ha := dAdd_ss (⟨#[slc a3]⟩ : Str) (Txt.join ("" : Str) sts) (by rw [hlen, l1, hz]; omega)
    have hcp : ((⟨#[slc a3]⟩ : Str) ++ Txt.join ("" : Str) sts).cps.toList = slc a3 :: (List.range' 0 a2).map g := by
      show TL.tl ((⟨#[slc a3]⟩ : Str) ++ Txt.join ("" : Str) sts) = _
      rw [TL.tl_append, ht]
      rfl
    refine ⟨(⟨#[slc a3]⟩ : Str) ++ Txt.join ("" : Str) sts, ?_, run_rt rfl ?_⟩
    · rw [isWord_cons hcp, sl_let a3 (by omega), decide_eq_false (by rw [Str.length_append, hlen, l1]; omega)]
      have : ((⟨#[slc a3]⟩ : Str) ++ Txt.join ("" : Str) sts).cps.toList.any bad2 = false := by
        rw [hcp]
        refine Bool.eq_false_iff.mpr fun z => ?_
        obtain ⟨c, hm, hb⟩ := List.any_eq_true.mp z
        rcases List.mem_cons.mp hm with e | e
        · rw [e, sl_ok a3 (by omega)] at hb; cases hb
        · obtain ⟨k, hk, rfl⟩ := List.mem_map.mp e
          rw [hg k (by have := (List.mem_range'_1.mp hk).2; omega)] at hb
          cases hb
      rw [this]
      rfl
    · refine (seq_nx (ρ' := [.d (encN row), .d (.str SL), .u, .u]) rfl).trans ?_
      refine (seq_nx (ρ' := [.d (encN row), .d (.str SL), .d (.list (near.map .str)), .u]) ?_).trans ?_
      · rw [sAsg_get, hn]
        rfl
      have hz0 : (a0 : Int) ≠ 0 := by omega
      unfold encN
      refine (seq_nx (ρ' := [.d (.list (row.map .int)), .d (.str SL), .d (.list (near.map .str)), .u]) ?_).trans ?_
      · simp [show dIx (.list (row.map .int)) (.int 0) = some (.int a0) from i0, hc]
      rw [sRet_get]
      simp only [List.map_cons, List.map_nil, frz1_d, frz1_u, o2_get, oM_get, eC_get, Res.ok_bind, isStr_s, if_true, aC_get]
      rw [hC]
      simp only [Res.ok_bind, aN_get]
      rw [hj]
      simp [show dIx (.list (row.map .int)) (.int 3) = some (.int a3) from i3, s3, ha]
end K92
end
section
set_option Elab.async false
set_option linter.all false
set_option maxRecDepth 100000
set_option maxHeartbeats 2000000
namespace K92
open PySem PySem.Spec PyProof.Rows L2 DL
/-! ### sorted -/
theorem lt_le_ne {α : Type} [LT α] [DecidableLT α] [DecidableEq α] [Std.Irrefl (α := α) (· < ·)] [Std.Asymm (α := α) (· < ·)] [Std.Trichotomous (α := α) (· < ·)] : ∀ {a b : List α}, ¬ b < a → a ≠ b → a < b
  | [], [], _, h => absurd rfl h
  | [], y :: b, _, _ => List.nil_lt_cons y b
  | x :: a, [], h, _ => absurd (List.nil_lt_cons x a) h
  | x :: a, y :: b, h, hne => by
    rw [List.cons_lt_cons_iff] at h ⊢
    by_cases e : x = y
    · subst e
      refine .inr ⟨rfl, lt_le_ne (fun z => h (.inr ⟨rfl, z⟩)) fun z => hne (by rw [z])⟩
    · by_cases z : x < y
      · exact .inl z
      · refine absurd ?_ e
        exact Std.Trichotomous.trichotomous (r := (· < ·)) x y z fun q => h (.inl q)
theorem lex_lt : ∀ a b : List Int, HT.lexLt a b = decide (a < b)
  | [], [] => by
    rw [HT.lexLt_nil_nil]
    exact (decide_eq_false (List.lt_irrefl _)).symm
  | [], y :: b => by
    rw [HT.lexLt_nil_cons]
    exact (decide_eq_true (List.nil_lt_cons y b)).symm
  | x :: a, [] => by
    rw [HT.lexLt_cons_nil]
    exact (decide_eq_false (List.not_lt_nil _)).symm
  | x :: a, y :: b => by
    rw [HT.lexLt_cons]
    by_cases e : x = y
    · rw [if_pos e, lex_lt a b]
      subst e
      refine decide_eq_decide.mpr ?_
      rw [List.cons_lt_cons_iff]
      exact ⟨fun z => .inr ⟨rfl, z⟩, fun z => z.elim (fun q => absurd q (Int.lt_irrefl _)) (·.2)⟩
    · rw [if_neg e]
      refine decide_eq_decide.mpr ?_
      rw [List.cons_lt_cons_iff]
      exact ⟨.inl, fun z => z.elim id fun q => absurd q.1 e⟩
theorem srtSet_sort (nss : List (List Int)) : (DS.srtSet nss).Pairwise fun a b => HT.lexLt a b = true := by
  have tr : ∀ a b c : List Int, decide (a ≤ b) = true → decide (b ≤ c) = true → decide (a ≤ c) = true := fun a b c h1 h2 => decide_eq_true (List.le_trans (of_decide_eq_true h1) (of_decide_eq_true h2))
  have h1 := List.pairwise_mergeSort tr DS.int_le_tot (DS.dd nss)
  have h2 : ((DS.dd nss).mergeSort fun p q => decide (p ≤ q)).Nodup := (List.mergeSort_perm _ _).nodup_iff.mpr (DS.dd_nodup nss)
  refine List.Pairwise.imp ?_ (h1.and h2)
  intro a b ⟨q1, q2⟩
  rw [lex_lt]
  exact decide_eq_true (lt_le_ne (of_decide_eq_true q1) q2)
theorem srtSet_mem {nss : List (List Int)} {r : List Int} (h : r ∈ DS.srtSet nss) : r ∈ nss := DS.dd_mem.mp ((List.mergeSort_perm _ _).mem_iff.mp h)
theorem dd_len : ∀ l : List (List Int), (DS.dd l).length ≤ l.length
  | [] => Nat.le_refl _
  | x :: r => by
    have := dd_len r
    unfold DS.dd
    by_cases h : x ∈ DS.dd r
    · rw [if_pos h, List.length_cons]; omega
    · rw [if_neg h, List.length_cons, List.length_cons]; omega
theorem srtSet_len (nss : List (List Int)) : (DS.srtSet nss).length ≤ nss.length := by
  unfold DS.srtSet
  rw [List.length_mergeSort]
  exact dd_len nss
theorem tupsOf_mk : ∀ nss : List (List Int), tupsOf (nss.map DS.mkT) = some nss
  | [] => rfl
  | r :: nss => by
    rw [List.map_cons]
    unfold DS.mkT
    rw [tupsOf, intsOf_map]
    have := tupsOf_mk nss
    unfold DS.mkT at this
    rw [this]
    rfl
theorem dSortSet_ok (nss : List (List Int)) (hl : nss.length ≤ 1228) (hn : ∀ r ∈ nss, r ≠ []) : dSortSet (.list (nss.map DS.mkT)) = some (.list ((DS.srtSet nss).map DS.mkT)) := by
  unfold dSortSet
  simp only [tupsOf_mk]
  refine gdt ?_
  rw [Bool.and_eq_true, List.all_eq_true]
  refine ⟨decide_eq_true hl, fun r hr => ?_⟩
  cases r with
  | nil => exact absurd rfl (hn _ hr)
  | cons a r => rfl
/-! tables in the order of their names -/
def leT (a b : Tb) : Bool := decide (a.nm.cps.toList ≤ b.nm.cps.toList)
def srtT (ts : List Tb) : List Tb := ts.mergeSort leT
theorem alike_rows : ∀ a b : List (List Int), PySem.W.alikeAll (a.map DS.mkT) (b.map DS.mkT) = true
  | [], _ => by simp [PySem.W.alikeAll]
  | _ :: _, [] => by simp [PySem.W.alikeAll]
  | x :: a, y :: b => by
    rw [List.map_cons, List.map_cons, PySem.W.alikeAll, DS.alike_mk, alike_rows a b]
    rfl
theorem alike_tab (a b : Tb) : PySem.W.alike (encT a) (encT b) = true := by
  unfold encT
  simp [PySem.W.alike, PySem.W.alikeAll, alike_rows]
theorem le_tab {a b : Tb} (h : a = b ∨ a.nm ≠ b.nm) : PySem.W.dataLe false (fun d => d) (encT a) (encT b) = leT a b := by
  show (!PySem.W.dataLt (encT b) (encT a)) = leT a b
  rcases h with h | h
  · subst h
    have e0 : PySem.W.dataLt (encT a) (encT a) = false := PyProof.Rows.lex_irrefl _
    rw [e0]
    exact (decide_eq_true (List.le_refl _)).symm
  · unfold encT
    rw [PySem.W.dataLt_tuple, PySem.W.dataLt_cons (by simp [PySem.W.alike])]
    have e : PyData.eqv (.str b.nm) (.str a.nm) = false := by
      simp only [PyData.eqv, bd]
      exact decide_eq_false fun z => h z.symm
    rw [e, if_neg Bool.false_ne_true, PySem.W.dataLt_str]
    unfold leT
    by_cases z : b.nm.cps.toList < a.nm.cps.toList
    · rw [decide_eq_true z]
      exact (decide_eq_false fun q => q z).symm
    · rw [decide_eq_false z]
      exact (decide_eq_true z).symm
theorem leT_tot (a b : Tb) : (leT a b || leT b a) = true := by
  unfold leT
  rw [Bool.or_eq_true, decide_eq_true_eq, decide_eq_true_eq]
  exact List.le_total _ _
theorem leT_tr (a b c : Tb) (h1 : leT a b = true) (h2 : leT b c = true) : leT a c = true := by
  unfold leT at *
  exact decide_eq_true (List.le_trans (of_decide_eq_true h1) (of_decide_eq_true h2))
theorem srtT_perm (ts : List Tb) : (srtT ts).Perm ts := List.mergeSort_perm _ _
theorem srtT_sort {ts : List Tb} (h : (ts.map (·.nm)).Nodup) : (srtT ts).Pairwise fun a b => sLt a.nm b.nm = true := by
  have h1 := List.pairwise_mergeSort leT_tr leT_tot ts
  have h2 : ((srtT ts).map (·.nm)).Nodup := ((srtT_perm ts).map _).nodup_iff.mpr h
  have h3 : (srtT ts).Pairwise fun a b => a.nm ≠ b.nm := List.pairwise_map.mp h2
  refine List.Pairwise.imp ?_ (List.Pairwise.and (show (srtT ts).Pairwise fun a b => leT a b = true from h1) h3)
  intro a b ⟨q1, q2⟩
  exact decide_eq_true (lt_le_ne (of_decide_eq_true q1) fun z => q2 (TL.ext_tl z))
theorem nm_inj : ∀ {ts : List Tb}, (ts.map (·.nm)).Nodup → ∀ a ∈ ts, ∀ b ∈ ts, a = b ∨ a.nm ≠ b.nm
  | t :: ts, h, a, ha, b, hb => by
    rw [List.map_cons, List.nodup_cons] at h
    rcases List.mem_cons.mp ha with e1 | e1 <;> rcases List.mem_cons.mp hb with e2 | e2
    · exact .inl (e1.trans e2.symm)
    · refine .inr fun z => h.1 ?_
      rw [← e1, z]
      exact List.mem_map.mpr ⟨b, e2, rfl⟩
    · refine .inr fun z => h.1 ?_
      rw [← e2, ← z]
      exact List.mem_map.mpr ⟨a, e1, rfl⟩
    · exact nm_inj h.2 a e1 b e2
theorem depth_rows : ∀ l : List (List Int), PyData.depthAll (l.map DS.mkT) ≤ 1
  | [] => by simp [PyData.depthAll]
  | r :: l => by
    rw [List.map_cons, PyData.depthAll]
    have := DS.depth_mk r
    have := depth_rows l
    omega
theorem depth_tab (t : Tb) : (encT t).depth ≤ 100 := by
  have := depth_rows t.rows
  unfold encT
  simp only [PyData.depth, PyData.depthAll]
  omega
theorem dSorted_ok {ts : List Tb} (h : (ts.map (·.nm)).Nodup) (hl : ts.length ≤ 1000) : dSorted (.list (ts.map encT)) = some (.list ((srtT ts).map encT)) := by
  have e : srtD (ts.map encT) = (srtT ts).map encT := (List.map_mergeSort fun a ha b hb => (le_tab (nm_inj h a ha b hb)).symm).symm
  have k : okSort (ts.map encT) = true := by
    unfold okSort
    simp only [Bool.and_eq_true, Bool.or_eq_true, List.all_eq_true, decide_eq_true_eq]
    refine ⟨fun d hd d' hd' => ?_, .inl fun d hd => ?_, ?_, fun d hd => ?_⟩
    · obtain ⟨a, _, rfl⟩ := List.mem_map.mp hd
      obtain ⟨b, _, rfl⟩ := List.mem_map.mp hd'
      exact alike_tab a b
    · obtain ⟨a, _, rfl⟩ := List.mem_map.mp hd
      rfl
    · rw [List.length_map, sizeLine_eq]; omega
    · obtain ⟨a, _, rfl⟩ := List.mem_map.mp hd
      exact depth_tab a
  show gd (okSort (ts.map encT)) (PyData.list (srtD (ts.map encT))) = _
  rw [gdt k, e]
end K92
end
section
set_option Elab.async false
set_option linter.all false
set_option maxRecDepth 100000
set_option maxHeartbeats 2000000
namespace K92
open PySem PySem.Spec PyProof.Rows L2 DL
/-! ### the drawn store -/
theorem notin_strs (nm : Str) (l : List Str) : dNotIn (.str nm) (.list (l.map .str)) = some (.bool (!decide (nm ∈ l))) := by
  unfold dNotIn dIsIn
  simp only
  have h1 : (l.map PyData.str).all flatD = true := by
    rw [List.all_map]
    exact List.all_eq_true.mpr fun _ _ => rfl
  have h2 : ((l.map PyData.str).any fun z => PyData.eqv z (.str nm)) = decide (nm ∈ l) := by
    rw [List.any_map]
    induction l with
    | nil => exact (decide_eq_false (fun z => by cases z)).symm
    | cons a l ih =>
      rw [List.any_cons, ih (by
        rw [List.all_map]
        exact List.all_eq_true.mpr fun _ _ => rfl)]
      show (PyData.eqv (.str a) (.str nm) || decide (nm ∈ l)) = _
      simp only [PyData.eqv, bd]
      rw [← Bool.decide_or]
      refine decide_eq_decide.mpr ?_
      rw [List.mem_cons]
      exact ⟨fun z => z.elim (fun e => .inl e.symm) .inr, fun z => z.elim (fun e => .inl e.symm) .inr⟩
  rw [gdt (by rw [h1]; rfl), h2]
  rfl
def menu : List Int := [0, 1, 2, 9, 10, 11, 99, 100, 21, 3, 1000000000, 999999999]
theorem menu_len : menu.length = 12 := rfl
theorem menu_bd : ∀ n ∈ menu, 0 ≤ n ∧ n ≤ 1000000000 := by decide
def rwS : List Int := [8, 4] ++ List.replicate 28 12
theorem rwS_len : rwS.length = 30 := rfl
theorem rwS_tail : ∀ k, k < 28 → rwS[2 + k]? = some 12 := by decide
def stRow : Rho → Res PyData := eComp (iRange1 (eP 8)) [11] (gNm 11) tYs (kOne (o2 dIx (eP 1) (o2 dIx (eP 7) (o2 dAdd (o2 dAdd (eC (.int 2)) (o2 dMul (eC (.int 4)) (eP 10))) (eP 11)))))
theorem st_row {s0 s2 s3 s4 s5 s6 s9 s11 : Sl} {row : List Int} (h : Dg row rwS) (w k : Nat) (hw : w ≤ 4) (hk : k < 7) (kk : Int) (ek : kk = (k : Int)) :
    ∃ r : List Int, r.length = w ∧ (∀ n ∈ r, 0 ≤ n ∧ n ≤ 1000000000) ∧ stRow [s0, .d (encN menu), s2, s3, s4, s5, s6, .d (encN row), .d (.int (w : Int)), s9, .d (.int kk), s11] = .ok (.list (r.map .int)) := by
  have hd : ∀ j, j < w → ∃ v : Nat, row[2 + (4 * k + j)]? = some (v : Int) ∧ v < 12 := fun j hj => by
    obtain ⟨v, g1, g2⟩ := h.nat (rwS_tail (4 * k + j) (by omega))
    exact ⟨v, g1, by omega⟩
  let g : Nat → Int := fun j => menu.getD (row.getD (2 + (4 * k + j)) 0).toNat 0
  have hg : ∀ j, j < w → ∃ v : Nat, row[2 + (4 * k + j)]? = some (v : Int) ∧ menu[v]? = some (g j) := fun j hj => by
    obtain ⟨v, g1, g2⟩ := hd j hj
    refine ⟨v, g1, ?_⟩
    have e : g j = menu.getD v 0 := by
      show menu.getD (row.getD (2 + (4 * k + j)) 0).toNat 0 = _
      rw [List.getD_eq_getElem?_getD (l := row), g1]
      rfl
    rw [e, List.getD_eq_getElem?_getD, List.getElem?_eq_getElem (by rw [menu_len]; exact g2)]
    rfl
  refine ⟨(List.range' 0 w).map g, by rw [List.length_map, List.length_range'], fun n hn => ?_, ?_⟩
  · obtain ⟨j, hj, rfl⟩ := List.mem_map.mp hn
    obtain ⟨v, _, g2⟩ := hg j (by have := (List.mem_range'_1.mp hj).2; omega)
    exact menu_bd _ (List.mem_of_getElem? g2)
  · unfold stRow
    rw [comp_map (ρ := [s0, .d (encN menu), s2, s3, s4, s5, s6, .d (encN row), .d (.int (w : Int)), s9, .d (.int kk), s11]) (fun (j : Nat) => .int (0 + (j : Int))) (fun j => .int (g j)) (l := List.range' 0 w) ?_ ?_ ?_]
    · rw [List.map_map]
      rfl
    · rw [← rng_eq]
      exact range_ok (by simp) (by omega)
    · intro j hj
      obtain ⟨v, g1, g2⟩ := hg j (by have := (List.mem_range'_1.mp hj).2; omega)
      have e1 := dMul_ii (i := 4) (j := kk) (by omega) (by omega) (by omega) (by omega)
      have e2 : dIx (encN row) (.int (2 + 4 * kk + (j : Int))) = some (.int v) := by
        have : 2 + 4 * kk + (j : Int) = ((2 + (4 * k + j) : Nat) : Int) := by omega
        rw [this]
        exact ix_row g1
      have e3 : dIx (encN menu) (.int (v : Int)) = some (.int (g j)) := ix_row g2
      generalize g j = gj at *
      generalize encN menu = M at *
      generalize encN row = R at *
      simp [wipeR, e1, e2, e3]
    · rw [List.length_range', sizeLine_eq]; omega
def stAdd : Rho → Out := sApp 9 (oA dTupOf (aC stRow aN))
theorem st_rows {s0 s2 s3 s4 s5 s6 s11 : Sl} {row : List Int} (h : Dg row rwS) (w : Nat) (hw : w ≤ 4) : ∀ (m i : Nat) (acc : List (List Int)) (x : Sl), i + m ≤ 7 → acc.length + m < 1000 →
    ∃ rs x', rs.length = m ∧ (∀ r ∈ rs, r.length = w ∧ ∀ n ∈ r, 0 ≤ n ∧ n ≤ 1000000000) ∧ forL (gNm 10) stAdd ((List.range' i m).map fun (j : Nat) => .int (0 + (j : Int))) [s0, .d (encN menu), s2, s3, s4, s5, s6, .d (encN row), .d (.int (w : Int)), .o (acc.map DS.mkT), x, s11]
      = .nx [s0, .d (encN menu), s2, s3, s4, s5, s6, .d (encN row), .d (.int (w : Int)), .o ((acc ++ rs).map DS.mkT), x', s11]
  | 0, i, acc, x, _, _ => ⟨[], x, rfl, (fun r hr => by cases hr), by rw [List.append_nil]; rfl⟩
  | m + 1, i, acc, x, hi, hl => by
    obtain ⟨r, r1, r2, e⟩ := st_row (s0 := s0) (s2 := s2) (s3 := s3) (s4 := s4) (s5 := s5) (s6 := s6) (s9 := .o (acc.map DS.mkT)) (s11 := s11) h w i hw (by omega) (0 + (i : Int)) (by omega)
    obtain ⟨rs, x', l1, l2, q⟩ := st_rows (s0 := s0) (s2 := s2) (s3 := s3) (s4 := s4) (s5 := s5) (s6 := s6) (s11 := s11) h w hw m (i + 1) (acc ++ [r]) (.d (.int (0 + (i : Int)))) (by omega) (by rw [List.length_append, List.length_singleton]; omega)
    refine ⟨r :: rs, x', by rw [List.length_cons, l1], fun z hz => ?_, ?_⟩
    · rcases List.mem_cons.mp hz with e | e
      · rw [e]; exact ⟨r1, r2⟩
      · exact l2 z e
    have hz : acc.length < sizeLine := by rw [sizeLine_eq]; omega
    rw [List.range'_succ, List.map_cons, forL_cons (ρ1 := [s0, .d (encN menu), s2, s3, s4, s5, s6, .d (encN row), .d (.int (w : Int)), .o (acc.map DS.mkT), .d (.int (0 + (i : Int))), s11]) rfl]
    have e2 : stAdd [s0, .d (encN menu), s2, s3, s4, s5, s6, .d (encN row), .d (.int (w : Int)), .o (acc.map DS.mkT), .d (.int (0 + (i : Int))), s11] = .nx [s0, .d (encN menu), s2, s3, s4, s5, s6, .d (encN row), .d (.int (w : Int)), .o ((acc ++ [r]).map DS.mkT), .d (.int (0 + (i : Int))), s11] := by
      unfold stAdd
      rw [sApp_get]
      simp only [List.getElem?_cons_succ, List.getElem?_cons_zero, oA_get, aC_get, e, Res.ok_bind, aN_get, dTupOf_l, of_some, Res.ok_out, List.length_map, if_pos hz, List.set_cons_succ, List.set_cons_zero, List.map_append, List.map_cons, List.map_nil]
      rfl
    rw [e2]
    show forL (gNm 10) stAdd _ _ = _
    rw [q, List.append_assoc]
    rfl
/-- a drawn store -/
structure Dr (ts : List Tb) : Prop where
  gd : ∀ t ∈ ts, Gd t
  ln : ∀ t ∈ ts, ∀ r ∈ t.rows, (r.length : Int) = t.wd
  srt : ∀ t ∈ ts, t.rows.Pairwise fun a b => HT.lexLt a b = true
  rws : ∀ t ∈ ts, t.rows.length ≤ 7
  num : ∀ t ∈ ts, ∀ r ∈ t.rows, ∀ n ∈ r, 0 ≤ n ∧ n ≤ 1000000000
  nod : (ts.map (·.nm)).Nodup
end K92
end
section
set_option Elab.async false
set_option linter.all false
set_option maxRecDepth 100000
set_option maxHeartbeats 2000000
namespace K92
open PySem PySem.Spec PyProof.Rows L2 DL
def stName : Rho → Res PyData := eA (fun ds => noex (fn__law_name ds)) (aC (eA (fun ds => noex (fn__law_digits ds)) (aC (eA (fun ds => noex (fn__law_cell ds)) (aC (eV 0) (aC (o2 dAdd (eC (.int 1)) (o2 dMul (eC (.int 2)) (eP 5))) aN))) (aC (eA dLst (aC (eC (.int 2)) (aC (eC (.int 16)) (aC (eC (.int 8)) (aC (eC (.int 26)) (aC (eC (.int 36)) (aC (eC (.int 36)) (aC (eC (.int 36)) (aC (eC (.int 36)) (aC (eC (.int 36)) (aC (eC (.int 36)) (aC (eC (.int 36)) aN)))))))))))) aN))) aN)
def stDraw : Rho → Res PyData := eA (fun ds => noex (fn__law_digits ds)) (aC (eA (fun ds => noex (fn__law_cell ds)) (aC (eV 0) (aC (o2 dAdd (eC (.int 2)) (o2 dMul (eC (.int 2)) (eP 5))) aN))) (aC (o2 dAdd (eA dLst (aC (eC (.int 8)) (aC (eC (.int 4)) aN))) (o2 dRepL (eA dLst (aC (eC (.int 12)) aN)) (eC (.int 28)))) aN))
def stWid : Rho → Res PyData := o2 dIx (eA dLst (aC (eC (.int 2)) (aC (eC (.int 1)) (aC (eC (.int 3)) (aC (eC (.int 4)) aN))))) (o2 dIx (eP 7) (eC (.int 1)))
def stMany : Rho → Res PyData := o2 dIx (eA dLst (aC (eC (.int 3)) (aC (eC (.int 2)) (aC (eC (.int 4)) (aC (eC (.int 5)) (aC (eC (.int 7)) (aC (eC (.int 1)) (aC (eC (.int 6)) (aC (eC (.int 0)) aN))))))))) (o2 dIx (eP 7) (eC (.int 0)))
def stPut : Rho → Out := sIf (tV dBool (o2 dNotIn (eP 6) (eP 3)))
  (sSeq (sApp 3 (eV 6))
  (sApp 4 (eA dTup (aC (eV 6) (aC (eV 8) (aC (oA dTupOf (aC (o1 dSortSet (eP 9)) aN)) aN))))))
  sNext
def stBody : Rho → Out := sSeq (sAsg stName (gNm 6)) (sSeq (sAsg stDraw (gNm 7)) (sSeq (sAsg stWid (gNm 8)) (sSeq (sAsgO 9 (eA dLst aN)) (sSeq (sFor (iRange1 stMany) (gNm 10) stAdd) stPut))))
theorem nmS_sz : Sz nmS := ⟨by decide, by decide⟩
theorem rwS_sz : Sz rwS := ⟨by decide, by decide⟩
theorem sz_ok {n : Nat} (h : n ≤ 1000) : n ≤ sizeLine := by rw [sizeLine_eq]; omega
theorem lst_ints (l : List Int) (h : l.length ≤ 1000) : dLst (l.map .int) = .ok (encN l) := dLst_ok _ (by rw [List.length_map]; exact sz_ok h)
theorem ev_stName (ns : List Int) (s1 s2 s3 s4 s6 s7 s8 s9 s10 s11 : Sl) (i : Nat) (hi : i ≤ 100) (ii : Int) (ei : ii = (i : Int)) : ∃ nm, isWord nm 8 = true ∧ stName [.d (encN ns), s1, s2, s3, s4, .d (.int ii), s6, s7, s8, s9, s10, s11] = .ok (.str nm) := by
  obtain ⟨c, e1⟩ := ev_cell ns (1 + 2 * i) (by omega)
  obtain ⟨row, hd, e2⟩ := ev_digits c nmS nmS_sz
  obtain ⟨nm, hn, e3⟩ := ev_name row hd
  refine ⟨nm, hn, ?_⟩
  have m := dMul_ii (i := 2) (j := ii) (by omega) (by omega) (by omega) (by omega)
  have cc : 1 + 2 * ii = ((1 + 2 * i : Nat) : Int) := by omega
  have l := lst_ints nmS (by decide)
  have l' : dLst [.int 2, .int 16, .int 8, .int 26, .int 36, .int 36, .int 36, .int 36, .int 36, .int 36, .int 36] = .ok (encN nmS) := l
  unfold stName
  rw [← cc] at e1
  generalize encN nmS = W at *
  generalize encN row = R at *
  generalize encN ns = S at *
  simp [m, e1, l', e2, e3]
theorem ev_stDraw (ns : List Int) (s1 s2 s3 s4 s6 s7 s8 s9 s10 s11 : Sl) (i : Nat) (hi : i ≤ 100) (ii : Int) (ei : ii = (i : Int)) : ∃ row, Dg row rwS ∧ stDraw [.d (encN ns), s1, s2, s3, s4, .d (.int ii), s6, s7, s8, s9, s10, s11] = .ok (encN row) := by
  obtain ⟨c, e1⟩ := ev_cell ns (2 + 2 * i) (by omega)
  obtain ⟨row, hd, e2⟩ := ev_digits c rwS rwS_sz
  refine ⟨row, hd, ?_⟩
  have m := dMul_ii (i := 2) (j := ii) (by omega) (by omega) (by omega) (by omega)
  have cc : 2 + 2 * ii = ((2 + 2 * i : Nat) : Int) := by omega
  have l1 : dLst [.int 8, .int 4] = .ok (encN [8, 4]) := lst_ints [8, 4] (by decide)
  have l2 : dLst [.int 12] = .ok (encN [12]) := lst_ints [12] (by decide)
  have l3 : dRepL (encN [12]) (.int 28) = some (encN (List.replicate 28 12)) := by
    have e : (List.replicate (28 : Int).toNat [PyData.int 12]).flatten = (List.replicate 28 (12 : Int)).map .int := rfl
    show gd _ (PyData.list (List.replicate (28 : Int).toNat [PyData.int 12]).flatten) = _
    rw [e]
    exact gdt (decide_eq_true ⟨by decide, by decide, by rw [sizeLine_eq]; decide⟩)
  have l4 : dAdd (encN [8, 4]) (encN (List.replicate 28 12)) = some (encN rwS) := dAdd_ll _ _ (by rw [sizeLine_eq]; decide)
  unfold stDraw
  rw [← cc] at e1
  generalize encN rwS = W at *
  generalize encN row = R at *
  generalize encN ns = S at *
  generalize encN [8, 4] = A at *
  generalize encN (List.replicate 28 12) = B at *
  generalize encN [12] = C at *
  simp [m, e1, l1, l2, l3, l4, e2]
def wids : List Int := [2, 1, 3, 4]
def cnts : List Int := [3, 2, 4, 5, 7, 1, 6, 0]
theorem ev_stWid {row : List Int} (h : Dg row rwS) (s0 s1 s2 s3 s4 s5 s6 s8 s9 s10 s11 : Sl) : ∃ w : Nat, (w = 1 ∨ w = 2 ∨ w = 3 ∨ w = 4) ∧ stWid [s0, s1, s2, s3, s4, s5, s6, .d (encN row), s8, s9, s10, s11] = .ok (.int (w : Int)) := by
  obtain ⟨v, g1, g2⟩ := h.nat (i := 1) (s := 4) rfl
  have e1 : dIx (encN row) (.int 1) = some (.int v) := ix_row g1
  have l : dLst [.int 2, .int 1, .int 3, .int 4] = .ok (encN wids) := lst_ints wids (by decide)
  have hv : ∀ v, v < 4 → ∃ w : Nat, wids[v]? = some (w : Int) ∧ (w = 1 ∨ w = 2 ∨ w = 3 ∨ w = 4) := fun v hv => match v, hv with
    | 0, _ => ⟨2, rfl, by omega⟩
    | 1, _ => ⟨1, rfl, by omega⟩
    | 2, _ => ⟨3, rfl, by omega⟩
    | 3, _ => ⟨4, rfl, by omega⟩
  obtain ⟨w, q1, q2⟩ := hv v (by omega)
  have e2 : dIx (encN wids) (.int (v : Int)) = some (.int w) := ix_row q1
  refine ⟨w, q2, ?_⟩
  unfold stWid
  generalize encN wids = W at *
  generalize encN row = R at *
  simp [l, e1, e2]
theorem ev_stMany {row : List Int} (h : Dg row rwS) (s0 s1 s2 s3 s4 s5 s6 s8 s9 s10 s11 : Sl) : ∃ n : Nat, n ≤ 7 ∧ stMany [s0, s1, s2, s3, s4, s5, s6, .d (encN row), s8, s9, s10, s11] = .ok (.int (n : Int)) := by
  obtain ⟨v, g1, g2⟩ := h.nat (i := 0) (s := 8) rfl
  have e1 : dIx (encN row) (.int 0) = some (.int v) := ix_row g1
  have l : dLst [.int 3, .int 2, .int 4, .int 5, .int 7, .int 1, .int 6, .int 0] = .ok (encN cnts) := lst_ints cnts (by decide)
  have hv : ∀ v, v < 8 → ∃ w : Nat, cnts[v]? = some (w : Int) ∧ w ≤ 7 := fun v hv => match v, hv with
    | 0, _ => ⟨3, rfl, by omega⟩
    | 1, _ => ⟨2, rfl, by omega⟩
    | 2, _ => ⟨4, rfl, by omega⟩
    | 3, _ => ⟨5, rfl, by omega⟩
    | 4, _ => ⟨7, rfl, by omega⟩
    | 5, _ => ⟨1, rfl, by omega⟩
    | 6, _ => ⟨6, rfl, by omega⟩
    | 7, _ => ⟨0, rfl, by omega⟩
  obtain ⟨w, q1, q2⟩ := hv v (by omega)
  have e2 : dIx (encN cnts) (.int (v : Int)) = some (.int w) := ix_row q1
  refine ⟨w, q2, ?_⟩
  unfold stMany
  generalize encN cnts = W at *
  generalize encN row = R at *
  simp [l, e1, e2]
theorem dr_add {ts : List Tb} (h : Dr ts) {nm : Str} {w : Nat} {rs : List (List Int)} (hn : isWord nm 8 = true) (hw : w = 1 ∨ w = 2 ∨ w = 3 ∨ w = 4) (hl : rs.length ≤ 7) (hr : ∀ r ∈ rs, r.length = w ∧ ∀ n ∈ r, 0 ≤ n ∧ n ≤ 1000000000) (hx : nm ∉ ts.map (·.nm)) : Dr (ts ++ [⟨nm, w, DS.srtSet rs⟩]) := by
  have key : ∀ (p : Tb → Prop), (∀ t ∈ ts, p t) → p ⟨nm, w, DS.srtSet rs⟩ → ∀ t ∈ ts ++ [(⟨nm, w, DS.srtSet rs⟩ : Tb)], p t := fun p h1 h2 t ht => by
    rcases List.mem_append.mp ht with e | e
    · exact h1 t e
    · rw [List.mem_singleton.mp e]; exact h2
  have hp : (1000000000 : Int) < 10 ^ 500 := by decide +kernel
  refine ⟨key _ h.gd ⟨hn, ?_, fun r hm n hn => ?_⟩, key _ h.ln fun r hm => ?_, key _ h.srt (srtSet_sort rs), key _ h.rws ?_, key _ h.num fun r hm n hn => (hr r (srtSet_mem hm)).2 n hn, ?_⟩
  · show (w : Int) = 1 ∨ (w : Int) = 2 ∨ (w : Int) = 3 ∨ (w : Int) = 4
    omega
  · have := (hr r (srtSet_mem hm)).2 n hn
    exact ⟨this.1, Int.lt_of_le_of_lt this.2 hp⟩
  · have := (hr r (srtSet_mem hm)).1
    show (r.length : Int) = (w : Int)
    omega
  · exact Nat.le_trans (srtSet_len rs) hl
  · rw [List.map_append, List.nodup_append]
    refine ⟨h.nod, by simp, fun a ha b hb => ?_⟩
    rw [List.map_cons, List.map_nil, List.mem_singleton] at hb
    rw [hb]
    intro z
    have z' : a = nm := z
    rw [z'] at ha
    exact hx ha
end K92
end
section
set_option Elab.async false
set_option linter.all false
set_option maxRecDepth 100000
set_option maxHeartbeats 2000000
namespace K92
open PySem PySem.Spec PyProof.Rows L2 DL
theorem st_put {s0 s1 s2 s5 s7 s10 s11 : Sl} {ts : List Tb} (h : Dr ts) (hl : ts.length ≤ 100) {nm : Str} {w : Nat} {rs : List (List Int)} (hn : isWord nm 8 = true) (hw : w = 1 ∨ w = 2 ∨ w = 3 ∨ w = 4) (hr7 : rs.length ≤ 7) (hr : ∀ r ∈ rs, r.length = w ∧ ∀ n ∈ r, 0 ≤ n ∧ n ≤ 1000000000) :
    ∃ ts', Dr ts' ∧ ts' ≠ [] ∧ ts'.length ≤ ts.length + 1 ∧ stPut [s0, s1, s2, .o ((ts.map (·.nm)).map .str), .o (ts.map encT), s5, .d (.str nm), s7, .d (.int (w : Int)), .o (rs.map DS.mkT), s10, s11]
      = .nx [s0, s1, s2, .o ((ts'.map (·.nm)).map .str), .o (ts'.map encT), s5, .d (.str nm), s7, .d (.int (w : Int)), .o (rs.map DS.mkT), s10, s11] := by
  have hni := notin_strs nm (ts.map (·.nm))
  by_cases hx : nm ∈ ts.map (·.nm)
  · refine ⟨ts, h, fun z => (by rw [z] at hx; cases hx), by omega, ?_⟩
    unfold stPut
    rw [decide_eq_true hx] at hni
    generalize (ts.map (·.nm)).map PyData.str = A at *
    generalize ts.map encT = B at *
    generalize rs.map DS.mkT = C at *
    simp [hni]
  · refine ⟨ts ++ [⟨nm, w, DS.srtSet rs⟩], dr_add h hn hw hr7 hr hx, by simp, by rw [List.length_append, List.length_singleton]; omega, ?_⟩
    rw [decide_eq_false hx] at hni
    have h1 : ((ts.map (·.nm)).map PyData.str).length < sizeLine := by rw [List.length_map, List.length_map, sizeLine_eq]; omega
    have h2 : (ts.map encT).length < sizeLine := by rw [List.length_map, sizeLine_eq]; omega
    have h3 := dSortSet_ok rs (by omega) fun r hm z => by have := (hr r hm).1; rw [z, List.length_nil] at this; omega
    have e1 : ((ts ++ [(⟨nm, w, DS.srtSet rs⟩ : Tb)]).map (·.nm)).map PyData.str = (ts.map (·.nm)).map PyData.str ++ [.str nm] := by rw [List.map_append, List.map_append]; rfl
    have e2 : (ts ++ [(⟨nm, w, DS.srtSet rs⟩ : Tb)]).map encT = ts.map encT ++ [.tuple [.str nm, .int (w : Int), .tuple ((DS.srtSet rs).map DS.mkT)]] := by rw [List.map_append]; rfl
    have h4 : dTup [.str nm, .int (w : Int), .tuple ((DS.srtSet rs).map DS.mkT)] = .ok (.tuple [.str nm, .int (w : Int), .tuple ((DS.srtSet rs).map DS.mkT)]) := dTup_ok _ (sz_ok (by show 3 ≤ 1000; omega))
    rw [e1, e2]
    unfold stPut
    generalize (ts.map (·.nm)).map PyData.str = A at *
    generalize ts.map encT = B at *
    generalize (DS.srtSet rs).map DS.mkT = D at *
    generalize rs.map DS.mkT = C at *
    simp [hni, h1, h2, h3, h4]
theorem st_step {ns : List Int} {s2 : Sl} {ts : List Tb} (h : Dr ts) (i : Nat) (hi : i ≤ 100) (hl : ts.length ≤ 100) (s6 s7 s8 s9 s10 s11 : Sl) :
    ∃ ts' x6 x7 x8 x9 x10 x11, Dr ts' ∧ ts' ≠ [] ∧ ts'.length ≤ ts.length + 1 ∧ stBody [.d (encN ns), .d (encN menu), s2, .o ((ts.map (·.nm)).map .str), .o (ts.map encT), .d (.int (0 + (i : Int))), s6, s7, s8, s9, s10, s11]
      = .nx [.d (encN ns), .d (encN menu), s2, .o ((ts'.map (·.nm)).map .str), .o (ts'.map encT), .d (.int (0 + (i : Int))), x6, x7, x8, x9, x10, x11] := by
  obtain ⟨nm, hn, e1⟩ := ev_stName ns (.d (encN menu)) s2 (.o ((ts.map (·.nm)).map .str)) (.o (ts.map encT)) s6 s7 s8 s9 s10 s11 i hi (0 + (i : Int)) (by omega)
  obtain ⟨row, hd, e2⟩ := ev_stDraw ns (.d (encN menu)) s2 (.o ((ts.map (·.nm)).map .str)) (.o (ts.map encT)) (.d (.str nm)) s7 s8 s9 s10 s11 i hi (0 + (i : Int)) (by omega)
  obtain ⟨w, hw, e3⟩ := ev_stWid hd (.d (encN ns)) (.d (encN menu)) s2 (.o ((ts.map (·.nm)).map .str)) (.o (ts.map encT)) (.d (.int (0 + (i : Int)))) (.d (.str nm)) s8 s9 s10 s11
  obtain ⟨n, hn7, e4⟩ := ev_stMany hd (.d (encN ns)) (.d (encN menu)) s2 (.o ((ts.map (·.nm)).map .str)) (.o (ts.map encT)) (.d (.int (0 + (i : Int)))) (.d (.str nm)) (.d (.int (w : Int))) (.o []) s10 s11
  obtain ⟨rs, x10, r1, r2, e5⟩ := st_rows (s0 := .d (encN ns)) (s2 := s2) (s3 := .o ((ts.map (·.nm)).map .str)) (s4 := .o (ts.map encT)) (s5 := .d (.int (0 + (i : Int)))) (s6 := .d (.str nm)) (s11 := s11) hd w (by omega) n 0 [] s10 (by omega) (by rw [List.length_nil]; omega)
  obtain ⟨ts', d1, d2, d3, e6⟩ := st_put (s0 := .d (encN ns)) (s1 := .d (encN menu)) (s2 := s2) (s5 := .d (.int (0 + (i : Int)))) (s7 := .d (encN row)) (s10 := x10) (s11 := s11) h hl hn hw (by omega) r2
  refine ⟨ts', .d (.str nm), .d (encN row), .d (.int (w : Int)), .o (rs.map DS.mkT), x10, s11, d1, d2, d3, ?_⟩
  rw [← e6]
  generalize (ts.map (·.nm)).map PyData.str = A at *
  generalize ts.map encT = B at *
  unfold stBody
  refine (seq_nx (ρ' := [.d (encN ns), .d (encN menu), s2, .o A, .o B, .d (.int (0 + (i : Int))), .d (.str nm), s7, s8, s9, s10, s11]) (by rw [sAsg_get, e1]; rfl)).trans ?_
  refine (seq_nx (ρ' := [.d (encN ns), .d (encN menu), s2, .o A, .o B, .d (.int (0 + (i : Int))), .d (.str nm), .d (encN row), s8, s9, s10, s11]) (by rw [sAsg_get, e2]; rfl)).trans ?_
  refine (seq_nx (ρ' := [.d (encN ns), .d (encN menu), s2, .o A, .o B, .d (.int (0 + (i : Int))), .d (.str nm), .d (encN row), .d (.int (w : Int)), s9, s10, s11]) (by rw [sAsg_get, e3]; rfl)).trans ?_
  refine (seq_nx (ρ' := [.d (encN ns), .d (encN menu), s2, .o A, .o B, .d (.int (0 + (i : Int))), .d (.str nm), .d (encN row), .d (.int (w : Int)), .o [], s10, s11]) (by
    simp [dLst_ok [] (Nat.zero_le _)])).trans ?_
  refine seq_nx ?_
  rw [for_range (n := n) e4 (by omega), rng_eq]
  rw [List.nil_append] at e5
  exact e5
theorem st_loop {ns : List Int} {s2 : Sl} : ∀ (m i : Nat) (ts : List Tb) (s5 s6 s7 s8 s9 s10 s11 : Sl), Dr ts → i + m ≤ 50 → ts.length ≤ i → (0 < m ∨ ts ≠ []) →
    ∃ ts' x5 x6 x7 x8 x9 x10 x11, Dr ts' ∧ ts' ≠ [] ∧ ts'.length ≤ i + m ∧ forL (gNm 5) stBody ((List.range' i m).map fun (j : Nat) => .int (0 + (j : Int))) [.d (encN ns), .d (encN menu), s2, .o ((ts.map (·.nm)).map .str), .o (ts.map encT), s5, s6, s7, s8, s9, s10, s11]
      = .nx [.d (encN ns), .d (encN menu), s2, .o ((ts'.map (·.nm)).map .str), .o (ts'.map encT), x5, x6, x7, x8, x9, x10, x11]
  | 0, i, ts, s5, s6, s7, s8, s9, s10, s11, h, hi, hl, hne => ⟨ts, s5, s6, s7, s8, s9, s10, s11, h, hne.resolve_left (by omega), by omega, rfl⟩
  | m + 1, i, ts, s5, s6, s7, s8, s9, s10, s11, h, hi, hl, hne => by
    obtain ⟨t1, y6, y7, y8, y9, y10, y11, d1, d2, d3, e⟩ := st_step (ns := ns) (s2 := s2) h i (by omega) (by omega) s6 s7 s8 s9 s10 s11
    obtain ⟨ts', x5, x6, x7, x8, x9, x10, x11, k1, k2, k3, q⟩ := st_loop (ns := ns) (s2 := s2) m (i + 1) t1 (.d (.int (0 + (i : Int)))) y6 y7 y8 y9 y10 y11 d1 (by omega) (by omega) (.inr d2)
    refine ⟨ts', x5, x6, x7, x8, x9, x10, x11, k1, k2, by omega, ?_⟩
    rw [List.range'_succ, List.map_cons, forL_cons (ρ1 := [.d (encN ns), .d (encN menu), s2, .o ((ts.map (·.nm)).map .str), .o (ts.map encT), .d (.int (0 + (i : Int))), s6, s7, s8, s9, s10, s11]) rfl, e]
    exact q
theorem Dr.perm {ts us : List Tb} (h : Dr ts) (p : us.Perm ts) : Dr us :=
  ⟨fun t ht => h.gd t (p.mem_iff.mp ht), fun t ht => h.ln t (p.mem_iff.mp ht), fun t ht => h.srt t (p.mem_iff.mp ht), fun t ht => h.rws t (p.mem_iff.mp ht), fun t ht => h.num t (p.mem_iff.mp ht), (p.map _).nodup_iff.mpr h.nod⟩
def manys : List Int := [3, 2, 4, 5, 8, 6, 1, 7]
theorem ev_store (ns : List Int) : ∃ ts, Dr ts ∧ ts ≠ [] ∧ ts.length ≤ 8 ∧ (ts.Pairwise fun a b => sLt a.nm b.nm = true) ∧ fn__law_store [encN ns] = .ok (encS ts) := by
  obtain ⟨c, c1⟩ := ev_cell ns 0 (by omega)
  obtain ⟨row, hd, c2⟩ := ev_digits c [8] ⟨by decide, by decide⟩
  obtain ⟨v, g1, g2⟩ := hd.nat (i := 0) (s := 8) rfl
  have hv : ∀ v, v < 8 → ∃ w : Nat, manys[v]? = some (w : Int) ∧ 0 < w ∧ w ≤ 8 := fun v hv => match v, hv with
    | 0, _ => ⟨3, rfl, by omega⟩
    | 1, _ => ⟨2, rfl, by omega⟩
    | 2, _ => ⟨4, rfl, by omega⟩
    | 3, _ => ⟨5, rfl, by omega⟩
    | 4, _ => ⟨8, rfl, by omega⟩
    | 5, _ => ⟨6, rfl, by omega⟩
    | 6, _ => ⟨1, rfl, by omega⟩
    | 7, _ => ⟨7, rfl, by omega⟩
  obtain ⟨n, q1, q2, q3⟩ := hv v (by omega)
  have i0 : dIx (encN row) (.int 0) = some (.int v) := ix_row g1
  have i1 : dIx (encN manys) (.int (v : Int)) = some (.int n) := ix_row q1
  have l1 : dLst [.int 3, .int 2, .int 4, .int 5, .int 8, .int 6, .int 1, .int 7] = .ok (encN manys) := lst_ints manys (by decide)
  have l2 : dLst [.int 8] = .ok (encN [8]) := lst_ints [8] (by decide)
  have l3 : dLst [.int 0, .int 1, .int 2, .int 9, .int 10, .int 11, .int 99, .int 100, .int 21, .int 3, .int 1000000000, .int 999999999] = .ok (encN menu) := lst_ints menu (by decide)
  obtain ⟨ts, x5, x6, x7, x8, x9, x10, x11, k1, k2, k3, q⟩ := st_loop (ns := ns) (s2 := .d (.int (n : Int))) n 0 [] .u .u .u .u .u .u .u ⟨by simp, by simp, by simp, by simp, by simp, by simp⟩ (by omega) (by simp) (.inl q2)
  have hs := dSorted_ok k1.nod (by omega)
  have e0 : ((List.map (fun x => x.nm) ([] : List Tb)).map PyData.str) = [] := rfl
  have e0' : ([] : List Tb).map encT = [] := rfl
  rw [e0, e0'] at q
  refine ⟨srtT ts, k1.perm (srtT_perm ts), fun z => ?_, by rw [(srtT_perm ts).length_eq]; omega, srtT_sort k1.nod, run_rt rfl ?_⟩
  · have := (srtT_perm ts).length_eq
    rw [z] at this
    exact k2 (List.eq_nil_of_length_eq_zero this.symm)
  have ln0 := dLst_ok [] (Nat.zero_le sizeLine)
  refine (seq_nx (ρ' := [.d (encN ns), .d (encN menu), .u, .u, .u, .u, .u, .u, .u, .u, .u, .u]) ?_).trans ?_
  · generalize encN menu = M at *
    simp [l3]
  refine (seq_nx (ρ' := [.d (encN ns), .d (encN menu), .d (.int (n : Int)), .u, .u, .u, .u, .u, .u, .u, .u, .u]) ?_).trans ?_
  · generalize encN manys = M at *
    generalize encN row = R at *
    generalize encN [8] = E at *
    generalize encN menu = N at *
    generalize encN ns = S at *
    have c1' : fn__law_cell [S, .int 0] = .ok (.int c) := c1
    simp [l1, l2, c1', c2, i0, i1]
  refine (seq_nx (ρ' := [.d (encN ns), .d (encN menu), .d (.int (n : Int)), .o [], .u, .u, .u, .u, .u, .u, .u, .u]) (by simp [ln0])).trans ?_
  refine (seq_nx (ρ' := [.d (encN ns), .d (encN menu), .d (.int (n : Int)), .o [], .o [], .u, .u, .u, .u, .u, .u, .u]) (by simp [ln0])).trans ?_
  refine (seq_nx (ρ' := [.d (encN ns), .d (encN menu), .d (.int (n : Int)), .o ((ts.map (·.nm)).map .str), .o (ts.map encT), x5, x6, x7, x8, x9, x10, x11]) ?_).trans ?_
  · rw [for_range (n := n) (by simp) (by omega), rng_eq]
    exact q
  generalize (ts.map (·.nm)).map PyData.str = A at *
  unfold encS
  generalize ts.map encT = B at *
  generalize (srtT ts).map encT = D at *
  rw [sRet_get]
  simp [hs]
end K92
end
section
set_option Elab.async false
set_option linter.all false
set_option maxRecDepth 100000
set_option maxHeartbeats 2000000
namespace K92
open PySem PySem.Spec PyProof.Rows L2 DL
/-! ### the greater store: its rows -/
def mrRow : Rho → Res PyData := eComp (iRange1 (eP 5)) [10] (gNm 10) tYs (kOne (o2 dAdd (o2 dAdd (o2 dIx (eP 1) (eC (.int 3))) (o2 dMul (eP 8) (o2 dAdd (eC (.int 1)) (o2 dIx (eP 1) (eC (.int 2)))))) (o2 dMul (o2 dMul (eC (.int 13)) (eP 10)) (o2 dMod (eP 8) (eC (.int 3))))))
def BigN (n : Int) : Prop := 0 ≤ n ∧ n < 10 ^ 36
def mrS : List Int := [6, 300, 50, 1000000, 8, 40]
theorem mr_row {s0 s2 s3 s4 s6 s7 s9 s10 : Sl} {row : List Int} (h : Dg row mrS) (w k : Nat) (hw : w ≤ 4) (hk : k ≤ 2000) (kk : Int) (ek : kk = (k : Int)) :
    ∃ r : List Int, r.length = w ∧ (∀ n ∈ r, BigN n) ∧ mrRow [s0, .d (encN row), s2, s3, s4, .d (.int (w : Int)), s6, s7, .d (.int kk), s9, s10] = .ok (.list (r.map .int)) := by
  obtain ⟨a3, g3, b3⟩ := h.nat (i := 3) (s := 1000000) rfl
  obtain ⟨a2, g2, b2⟩ := h.nat (i := 2) (s := 50) rfl
  have i3 : dIx (encN row) (.int 3) = some (.int a3) := ix_row g3
  have i2 : dIx (encN row) (.int 2) = some (.int a2) := ix_row g2
  have hb : (2000000 : Int) < 10 ^ 36 := by decide
  have n0 : 0 ≤ kk * (1 + (a2 : Int)) := Int.mul_nonneg (by omega) (by omega)
  have n1 : kk * (1 + (a2 : Int)) ≤ 2000 * 50 := Int.mul_le_mul (by omega) (by omega) (by omega) (by omega)
  have km := mod_bd kk (j := 3) (by omega)
  refine ⟨(List.range' 0 w).map fun (j : Nat) => (a3 : Int) + kk * (1 + (a2 : Int)) + 13 * (j : Int) * (kk % 3), by rw [List.length_map, List.length_range'], fun n hn => ?_, ?_⟩
  · obtain ⟨j, hj, rfl⟩ := List.mem_map.mp hn
    have hj4 : j < 4 := by have := (List.mem_range'_1.mp hj).2; omega
    have p0 : 0 ≤ 13 * (j : Int) * (kk % 3) := Int.mul_nonneg (by omega) (by omega)
    have p1 : 13 * (j : Int) * (kk % 3) ≤ 52 * 3 := Int.mul_le_mul (by omega) (by omega) (by omega) (by omega)
    exact ⟨by omega, by omega⟩
  · unfold mrRow
    rw [comp_map (ρ := [s0, .d (encN row), s2, s3, s4, .d (.int (w : Int)), s6, s7, .d (.int kk), s9, s10]) (fun (j : Nat) => .int (0 + (j : Int))) (fun (j : Nat) => .int ((a3 : Int) + kk * (1 + (a2 : Int)) + 13 * (j : Int) * (kk % 3))) (l := List.range' 0 w) ?_ ?_ ?_]
    · rw [List.map_map]
      rfl
    · rw [← rng_eq]
      exact range_ok (by simp) (by omega)
    · intro j hj
      have hj4 : j < 4 := by have := (List.mem_range'_1.mp hj).2; omega
      have m1 := dMul_ii (i := kk) (j := 1 + (a2 : Int)) (by omega) (by omega) (by omega) (by omega)
      have m2 := dMul_ii (i := 13) (j := (j : Int)) (by omega) (by omega) (by omega) (by omega)
      have m3 := dMod_ii kk (j := 3) (by omega)
      have m4 := dMul_ii (i := 13 * (j : Int)) (j := kk % 3) (by omega) (by omega) (by omega) (by omega)
      generalize encN row = R at *
      simp [wipeR, i3, i2, m1, m2, m3, m4]
    · rw [List.length_range', sizeLine_eq]; omega
def mrAdd : Rho → Out := sApp 6 (oA dTupOf (aC mrRow aN))
theorem mr_rows {s0 s2 s3 s4 s7 s9 s10 : Sl} {row : List Int} (h : Dg row mrS) (w : Nat) (hw : w ≤ 4) : ∀ (m i : Nat) (acc : List (List Int)) (x : Sl), i + m ≤ 2000 → acc.length + m < 5000 →
    ∃ rs x', rs.length = m ∧ (∀ r ∈ rs, r.length = w ∧ ∀ n ∈ r, BigN n) ∧ forL (gNm 8) mrAdd ((List.range' i m).map fun (j : Nat) => .int (0 + (j : Int))) [s0, .d (encN row), s2, s3, s4, .d (.int (w : Int)), .o (acc.map DS.mkT), s7, x, s9, s10]
      = .nx [s0, .d (encN row), s2, s3, s4, .d (.int (w : Int)), .o ((acc ++ rs).map DS.mkT), s7, x', s9, s10]
  | 0, i, acc, x, _, _ => ⟨[], x, rfl, (fun r hr => by cases hr), by rw [List.append_nil]; rfl⟩
  | m + 1, i, acc, x, hi, hl => by
    obtain ⟨r, r1, r2, e⟩ := mr_row (s0 := s0) (s2 := s2) (s3 := s3) (s4 := s4) (s6 := .o (acc.map DS.mkT)) (s7 := s7) (s9 := s9) (s10 := s10) h w i hw (by omega) (0 + (i : Int)) (by omega)
    obtain ⟨rs, x', l1, l2, q⟩ := mr_rows (s0 := s0) (s2 := s2) (s3 := s3) (s4 := s4) (s7 := s7) (s9 := s9) (s10 := s10) h w hw m (i + 1) (acc ++ [r]) (.d (.int (0 + (i : Int)))) (by omega) (by rw [List.length_append, List.length_singleton]; omega)
    refine ⟨r :: rs, x', by rw [List.length_cons, l1], fun z hz => ?_, ?_⟩
    · rcases List.mem_cons.mp hz with e | e
      · rw [e]; exact ⟨r1, r2⟩
      · exact l2 z e
    have hz : acc.length < sizeLine := by rw [sizeLine_eq]; omega
    rw [List.range'_succ, List.map_cons, forL_cons (ρ1 := [s0, .d (encN row), s2, s3, s4, .d (.int (w : Int)), .o (acc.map DS.mkT), s7, .d (.int (0 + (i : Int))), s9, s10]) rfl]
    have e2 : mrAdd [s0, .d (encN row), s2, s3, s4, .d (.int (w : Int)), .o (acc.map DS.mkT), s7, .d (.int (0 + (i : Int))), s9, s10] = .nx [s0, .d (encN row), s2, s3, s4, .d (.int (w : Int)), .o ((acc ++ [r]).map DS.mkT), s7, .d (.int (0 + (i : Int))), s9, s10] := by
      unfold mrAdd
      rw [sApp_get]
      simp only [List.getElem?_cons_succ, List.getElem?_cons_zero, oA_get, aC_get, e, Res.ok_bind, aN_get, dTupOf_l, of_some, Res.ok_out, List.length_map, if_pos hz, List.set_cons_succ, List.set_cons_zero, List.map_append, List.map_cons, List.map_nil]
      rfl
    rw [e2]
    show forL (gNm 8) mrAdd _ _ = _
    rw [q, List.append_assoc]
    rfl
/-- the first rows added -/
def mrIf1 : Rho → Out := sIf (tV dBool (o2 dIn (o2 dIx (eP 1) (eC (.int 0))) (eA dLst (aC (eC (.int 1)) (aC (eC (.int 2)) (aC (eC (.int 5)) aN))))))
  (sFor (iRange1 (eIf (tA (tV dBool (o2 dEq (eP 5) (eC (.int 1)))) (tV dBool (o2 dLt (o2 dIx (eP 1) (eC (.int 4))) (eC (.int 2))))) (o2 dAdd (eC (.int 20)) (o2 dMul (eC (.int 4)) (o2 dIx (eP 1) (eC (.int 1))))) (o2 dAdd (eC (.int 20)) (o2 dIx (eP 1) (eC (.int 1)))))) (gNm 8)
  mrAdd)
  sNext
theorem in_ints (a : Int) (l : List Int) : ∃ b, dIn (.int a) (.list (l.map .int)) = some (.bool b) := by
  unfold dIn dIsIn
  simp only
  have h1 : (l.map PyData.int).all flatD = true := by
    rw [List.all_map]
    exact List.all_eq_true.mpr fun _ _ => rfl
  rw [gdt (by rw [h1]; rfl)]
  exact ⟨_, rfl⟩
theorem mr_if1 {s0 s2 s3 s4 s7 s8 s9 s10 : Sl} {row : List Int} (h : Dg row mrS) (w : Nat) (hw : w ≤ 4) (acc : List (List Int)) (hl : acc.length ≤ 7) :
    ∃ rs x', rs.length ≤ 1216 ∧ (∀ r ∈ rs, r.length = w ∧ ∀ n ∈ r, BigN n) ∧ mrIf1 [s0, .d (encN row), s2, s3, s4, .d (.int (w : Int)), .o (acc.map DS.mkT), s7, s8, s9, s10] = .nx [s0, .d (encN row), s2, s3, s4, .d (.int (w : Int)), .o ((acc ++ rs).map DS.mkT), s7, x', s9, s10] := by
  obtain ⟨a0, g0, b0⟩ := h.nat (i := 0) (s := 6) rfl
  obtain ⟨a1, g1, b1⟩ := h.nat (i := 1) (s := 300) rfl
  obtain ⟨a4, g4, b4⟩ := h.nat (i := 4) (s := 8) rfl
  have i0 : dIx (encN row) (.int 0) = some (.int a0) := ix_row g0
  have i1 : dIx (encN row) (.int 1) = some (.int a1) := ix_row g1
  have i4 : dIx (encN row) (.int 4) = some (.int a4) := ix_row g4
  have l1 : dLst [.int 1, .int 2, .int 5] = .ok (encN [1, 2, 5]) := lst_ints [1, 2, 5] (by decide)
  obtain ⟨b, hb⟩ := in_ints (a0 : Int) [1, 2, 5]
  have hb' : dIn (.int (a0 : Int)) (encN [1, 2, 5]) = some (.bool b) := hb
  have ht : tV dBool (o2 dIn (o2 dIx (eP 1) (eC (.int 0))) (eA dLst (aC (eC (.int 1)) (aC (eC (.int 2)) (aC (eC (.int 5)) aN))))) [s0, .d (encN row), s2, s3, s4, .d (.int (w : Int)), .o (acc.map DS.mkT), s7, s8, s9, s10] = .ok b := by
    generalize encN row = R at *
    generalize encN [1, 2, 5] = A at *
    simp [i0, l1, hb']
  unfold mrIf1
  rw [sIf_get, ht]
  cases b with
  | false => exact ⟨[], s8, by simp, (fun r hr => by cases hr), by rw [List.append_nil]; rfl⟩
  | true =>
    have m := dMul_ii (i := 4) (j := (a1 : Int)) (by omega) (by omega) (by omega) (by omega)
    have hn : ∃ n : Nat, n ≤ 1216 ∧ (eIf (tA (tV dBool (o2 dEq (eP 5) (eC (.int 1)))) (tV dBool (o2 dLt (o2 dIx (eP 1) (eC (.int 4))) (eC (.int 2))))) (o2 dAdd (eC (.int 20)) (o2 dMul (eC (.int 4)) (o2 dIx (eP 1) (eC (.int 1))))) (o2 dAdd (eC (.int 20)) (o2 dIx (eP 1) (eC (.int 1))))) [s0, .d (encN row), s2, s3, s4, .d (.int (w : Int)), .o (acc.map DS.mkT), s7, s8, s9, s10] = .ok (.int (n : Int)) := by
      have c1 : ((20 + 4 * a1 : Nat) : Int) = 20 + 4 * (a1 : Int) := by omega
      have c2 : ((20 + a1 : Nat) : Int) = 20 + (a1 : Int) := by omega
      generalize encN row = R at *
      by_cases p1 : (w : Int) = 1
      · by_cases p2 : (a4 : Int) < 2
        · refine ⟨20 + 4 * a1, by omega, ?_⟩
          rw [c1]
          simp [p1, p2, i4, i1, m]
        · refine ⟨20 + a1, by omega, ?_⟩
          rw [c2]
          simp [p1, p2, i4, i1, m]
      · refine ⟨20 + a1, by omega, ?_⟩
        rw [c2]
        simp [p1, i4, i1, m]
    obtain ⟨n, n1, n2⟩ := hn
    obtain ⟨rs, x', r1, r2, q⟩ := mr_rows (s0 := s0) (s2 := s2) (s3 := s3) (s4 := s4) (s7 := s7) (s9 := s9) (s10 := s10) h w hw n 0 acc s8 (by omega) (by omega)
    refine ⟨rs, x', by omega, r2, ?_⟩
    simp only [Res.ok_out, if_true]
    rw [for_range (n := n) n2 (by omega), rng_eq]
    exact q
end K92
end
section
set_option Elab.async false
set_option linter.all false
set_option maxRecDepth 100000
set_option maxHeartbeats 2000000
namespace K92
open PySem PySem.Spec PyProof.Rows L2 DL
/-! ### the greater store: the great rows -/
def mrGreat : Rho → Res PyData := eComp (iRange1 (eP 5)) [10] (gNm 10) tYs (kOne (o2 dAdd (eP 2) (eP 10)))
theorem mr_great {s0 s1 s3 s4 s6 s7 s8 s9 s10 : Sl} (g : Int) (w : Nat) (hw : w ≤ 4) :
    mrGreat [s0, s1, .d (.int g), s3, s4, .d (.int (w : Int)), s6, s7, s8, s9, s10] = .ok (encN ((List.range' 0 w).map fun (j : Nat) => g + (j : Int))) := by
  unfold mrGreat
  rw [comp_map (ρ := [s0, s1, .d (.int g), s3, s4, .d (.int (w : Int)), s6, s7, s8, s9, s10]) (fun (j : Nat) => .int (0 + (j : Int))) (fun (j : Nat) => .int (g + (j : Int))) (l := List.range' 0 w) ?_ ?_ ?_]
  · have e : ((List.range' 0 w).map fun (j : Nat) => g + (j : Int)).map PyData.int = (List.range' 0 w).map fun (j : Nat) => .int (g + (j : Int)) := by rw [List.map_map]; rfl
    exact congrArg (fun z => Res.ok (PyData.list z)) e.symm
  · rw [← rng_eq]
    exact range_ok (by simp) (by omega)
  · intro j hj
    simp [wipeR]
  · rw [List.length_range', sizeLine_eq]; omega
theorem BigN.le {n m : Int} (h : BigN m) (h0 : 0 ≤ n) (h1 : n ≤ m) : BigN n := ⟨h0, Int.lt_of_le_of_lt h1 h.2⟩
theorem bigN0 : BigN 0 := ⟨Int.le_refl _, by decide⟩
def mrBody2 : Rho → Out := sSeq (sApp 6 (oA dTupOf (aC mrGreat aN)))
  (sSeq (sApp 6 (oA dTupOf (aC (o2 dRepL (eA dLst (aC (eV 2) aN)) (eP 5)) aN)))
  (sApp 6 (oA dTupOf (aC (o2 dAdd (eA dLst (aC (eV 2) aN)) (o2 dRepL (eA dLst (aC (eC (.int 0)) aN)) (o2 dSub (eP 5) (eC (.int 1))))) aN))))
def mrIf2 : Rho → Out := sIf (tV dBool (o2 dIn (o2 dIx (eP 1) (eC (.int 0))) (eA dLst (aC (eC (.int 4)) (aC (eC (.int 5)) aN)))))
  mrBody2
  sNext
theorem rep1 (g : Int) (n : Nat) (h : n ≤ 100) : dRepL (encN [g]) (.int (n : Int)) = some (encN (List.replicate n g)) := by
  have e : (List.replicate ((n : Nat) : Int).toNat [PyData.int g]).flatten = (List.replicate n g).map .int := by
    rw [Int.toNat_natCast]
    clear h
    induction n with
    | zero => rfl
    | succ n ih => rw [List.replicate_succ, List.flatten_cons, ih, List.replicate_succ]; rfl
  show gd _ (PyData.list (List.replicate ((n : Nat) : Int).toNat [PyData.int g]).flatten) = _
  rw [e]
  refine gdt (decide_eq_true ⟨by omega, by omega, ?_⟩)
  rw [Int.toNat_natCast, sizeLine_eq]
  show 1 * n ≤ 16777216
  omega
theorem app6 {s0 s1 s2 s3 s4 s5 s7 s8 s9 s10 : Sl} {e : Rho → Res PyData} {acc : List (List Int)} {r : List Int} (hl : acc.length ≤ 5000) (h : e [s0, s1, s2, s3, s4, s5, .o (acc.map DS.mkT), s7, s8, s9, s10] = .ok (encN r)) :
    sApp 6 (oA dTupOf (aC e aN)) [s0, s1, s2, s3, s4, s5, .o (acc.map DS.mkT), s7, s8, s9, s10] = .nx [s0, s1, s2, s3, s4, s5, .o ((acc ++ [r]).map DS.mkT), s7, s8, s9, s10] := by
  have hz : acc.length < sizeLine := by rw [sizeLine_eq]; omega
  rw [sApp_get]
  simp only [List.getElem?_cons_succ, List.getElem?_cons_zero, oA_get, aC_get, h, Res.ok_bind, aN_get]
  unfold encN
  simp only [dTupOf_l, of_some, Res.ok_out, List.length_map, if_pos hz, List.set_cons_succ, List.set_cons_zero, List.map_append, List.map_cons, List.map_nil]
  rfl
def great3 (g : Int) (w : Nat) : List (List Int) := [(List.range' 0 w).map fun (j : Nat) => g + (j : Int), List.replicate w g, g :: List.replicate (w - 1) 0]
theorem great3_ok {g : Int} (hg0 : 0 ≤ g) (hg : BigN (g + 4)) {w : Nat} (hw0 : 1 ≤ w) (hw : w ≤ 4) : ∀ r ∈ great3 g w, r.length = w ∧ ∀ n ∈ r, BigN n := by
  intro r hr
  have gg : BigN g := hg.le hg0 (by omega)
  rcases List.mem_cons.mp hr with e | hr
  · rw [e]
    refine ⟨by rw [List.length_map, List.length_range'], fun n hn => ?_⟩
    obtain ⟨j, hj, rfl⟩ := List.mem_map.mp hn
    have hj4 : j < 4 := by have := (List.mem_range'_1.mp hj).2; omega
    exact hg.le (by omega) (by omega)
  rcases List.mem_cons.mp hr with e | hr
  · rw [e]
    exact ⟨List.length_replicate, fun n hn => by rw [(List.mem_replicate.mp hn).2]; exact gg⟩
  · rw [List.mem_singleton.mp hr]
    refine ⟨by rw [List.length_cons, List.length_replicate]; omega, fun n hn => ?_⟩
    rcases List.mem_cons.mp hn with e | e
    · rw [e]; exact gg
    · rw [(List.mem_replicate.mp e).2]
      exact bigN0
theorem dAdd_encN (a b : List Int) (h : a.length + b.length ≤ 1000) : dAdd (encN a) (encN b) = some (encN (a ++ b)) := by
  unfold encN
  rw [dAdd_ll _ _ (by rw [List.length_map, List.length_map, sizeLine_eq]; omega), List.map_append]
theorem g2a (g : Int) : dLst [.int g] = .ok (encN [g]) := lst_ints [g] (by simp)
theorem g2b {s0 s1 s3 s4 s6 s7 s8 s9 s10 : Sl} (g : Int) (w : Nat) (A B : PyData) (lg : dLst [.int g] = .ok B) (rg : dRepL B (.int (w : Int)) = some A) :
    o2 dRepL (eA dLst (aC (eV 2) aN)) (eP 5) [s0, s1, .d (.int g), s3, s4, .d (.int (w : Int)), s6, s7, s8, s9, s10] = .ok A := by
  simp [lg, rg]
theorem g2c (g : Int) (w : Nat) (hw : w ≤ 4) : dRepL (encN [g]) (.int (w : Int)) = some (encN (List.replicate w g)) := rep1 g w (by omega)
theorem great_2 {s0 s1 s3 s4 s6 s7 s8 s9 s10 : Sl} (g : Int) (w : Nat) (hw : w ≤ 4) :
    o2 dRepL (eA dLst (aC (eV 2) aN)) (eP 5) [s0, s1, .d (.int g), s3, s4, .d (.int (w : Int)), s6, s7, s8, s9, s10] = .ok (encN (List.replicate w g)) := g2b g w _ _ (g2a g) (g2c g w hw)
theorem great_3 {s0 s1 s3 s4 s6 s7 s8 s9 s10 : Sl} (g : Int) (w : Nat) (hw0 : 1 ≤ w) (hw : w ≤ 4) :
    o2 dAdd (eA dLst (aC (eV 2) aN)) (o2 dRepL (eA dLst (aC (eC (.int 0)) aN)) (o2 dSub (eP 5) (eC (.int 1)))) [s0, s1, .d (.int g), s3, s4, .d (.int (w : Int)), s6, s7, s8, s9, s10] = .ok (encN (g :: List.replicate (w - 1) 0)) := by
  have lg : dLst [.int g] = .ok (encN [g]) := lst_ints [g] (by simp)
  have l0 : dLst [.int 0] = .ok (encN [0]) := lst_ints [0] (by simp)
  have r0 := rep1 0 (w - 1) (by omega)
  have wc : ((w - 1 : Nat) : Int) = (w : Int) - 1 := by omega
  rw [wc] at r0
  have ra := dAdd_encN [g] (List.replicate (w - 1) 0) (by rw [List.length_replicate, List.length_singleton]; omega)
  rw [List.singleton_append] at ra
  generalize encN (g :: List.replicate (w - 1) 0) = D at *
  generalize encN (List.replicate (w - 1) 0) = C at *
  generalize encN [g] = B at *
  generalize encN [0] = Z at *
  simp [lg, l0, r0, ra]
theorem app3 {α : Type} (acc : List α) (a b c : α) : acc ++ [a] ++ [b] ++ [c] = acc ++ [a, b, c] := by simp
section
variable {s0 s1 s3 s4 s7 s8 s9 s10 : Sl} (g : Int) (w : Nat) (acc : List (List Int))
theorem mb1 (hw : w ≤ 4) (hl : acc.length ≤ 5000) : sApp 6 (oA dTupOf (aC mrGreat aN)) [s0, s1, .d (.int g), s3, s4, .d (.int (w : Int)), .o (acc.map DS.mkT), s7, s8, s9, s10]
    = .nx [s0, s1, .d (.int g), s3, s4, .d (.int (w : Int)), .o ((acc ++ [(List.range' 0 w).map fun (j : Nat) => g + (j : Int)]).map DS.mkT), s7, s8, s9, s10] := app6 hl (mr_great g w hw)
theorem mb2 (hw : w ≤ 4) (hl : acc.length ≤ 5000) : sApp 6 (oA dTupOf (aC (o2 dRepL (eA dLst (aC (eV 2) aN)) (eP 5)) aN)) [s0, s1, .d (.int g), s3, s4, .d (.int (w : Int)), .o (acc.map DS.mkT), s7, s8, s9, s10]
    = .nx [s0, s1, .d (.int g), s3, s4, .d (.int (w : Int)), .o ((acc ++ [List.replicate w g]).map DS.mkT), s7, s8, s9, s10] := app6 hl (great_2 g w hw)
theorem mb3 (hw0 : 1 ≤ w) (hw : w ≤ 4) (hl : acc.length ≤ 5000) : sApp 6 (oA dTupOf (aC (o2 dAdd (eA dLst (aC (eV 2) aN)) (o2 dRepL (eA dLst (aC (eC (.int 0)) aN)) (o2 dSub (eP 5) (eC (.int 1))))) aN)) [s0, s1, .d (.int g), s3, s4, .d (.int (w : Int)), .o (acc.map DS.mkT), s7, s8, s9, s10]
    = .nx [s0, s1, .d (.int g), s3, s4, .d (.int (w : Int)), .o ((acc ++ [g :: List.replicate (w - 1) 0]).map DS.mkT), s7, s8, s9, s10] := app6 hl (great_3 g w hw0 hw)
theorem mb_len {α : Type} (acc : List α) (a b : α) (h : acc.length ≤ 4000) : (acc ++ [a]).length ≤ 5000 ∧ (acc ++ [a] ++ [b]).length ≤ 5000 := by
  simp only [List.length_append, List.length_singleton]
  omega
theorem seq3 {A B C : Rho → Out} {ρ0 ρ1 ρ2 ρ3 : Rho} (h1 : A ρ0 = .nx ρ1) (h2 : B ρ1 = .nx ρ2) (h3 : C ρ2 = .nx ρ3) : sSeq A (sSeq B C) ρ0 = .nx ρ3 := by rw [seq_nx h1, seq_nx h2, h3]
theorem mr_body2x (hw0 : 1 ≤ w) (hw : w ≤ 4) (hl : acc.length ≤ 4000) :
    mrBody2 [s0, s1, .d (.int g), s3, s4, .d (.int (w : Int)), .o (acc.map DS.mkT), s7, s8, s9, s10] = .nx [s0, s1, .d (.int g), s3, s4, .d (.int (w : Int)), .o ((acc ++ [(List.range' 0 w).map fun (j : Nat) => g + (j : Int)] ++ [List.replicate w g] ++ [g :: List.replicate (w - 1) 0]).map DS.mkT), s7, s8, s9, s10] := 
  seq3 (mb1 g w acc hw (Nat.le_trans hl (by decide))) (mb2 g w _ hw (mb_len acc ((List.range' 0 w).map fun (j : Nat) => g + (j : Int)) (List.replicate w g) hl).1) (mb3 g w _ hw0 hw (mb_len acc ((List.range' 0 w).map fun (j : Nat) => g + (j : Int)) (List.replicate w g) hl).2)
end
theorem app3g (g : Int) (w : Nat) (acc : List (List Int)) : acc ++ [(List.range' 0 w).map fun (j : Nat) => g + (j : Int)] ++ [List.replicate w g] ++ [g :: List.replicate (w - 1) 0] = acc ++ great3 g w := app3 acc _ _ _
theorem mb_cast {s0 s1 s3 s4 s7 s8 s9 s10 : Sl} (g : Int) (w : Nat) (acc as : List (List Int)) (h : mrBody2 [s0, s1, .d (.int g), s3, s4, .d (.int (w : Int)), .o (acc.map DS.mkT), s7, s8, s9, s10] = .nx [s0, s1, .d (.int g), s3, s4, .d (.int (w : Int)), .o (as.map DS.mkT), s7, s8, s9, s10]) (bs : List (List Int)) (e : as = bs) : mrBody2 [s0, s1, .d (.int g), s3, s4, .d (.int (w : Int)), .o (acc.map DS.mkT), s7, s8, s9, s10] = .nx [s0, s1, .d (.int g), s3, s4, .d (.int (w : Int)), .o (bs.map DS.mkT), s7, s8, s9, s10] := by
  subst e
  exact h
theorem mr_body2 {s0 s1 s3 s4 s7 s8 s9 s10 : Sl} (g : Int) (w : Nat) (acc : List (List Int)) (hw0 : 1 ≤ w) (hw : w ≤ 4) (hl : acc.length ≤ 4000) :
    mrBody2 [s0, s1, .d (.int g), s3, s4, .d (.int (w : Int)), .o (acc.map DS.mkT), s7, s8, s9, s10] = .nx [s0, s1, .d (.int g), s3, s4, .d (.int (w : Int)), .o ((acc ++ great3 g w).map DS.mkT), s7, s8, s9, s10] :=
  mb_cast g w acc _ (mr_body2x g w acc hw0 hw hl) _ (app3g g w acc)
theorem great3_len (g : Int) (w : Nat) : (great3 g w).length = 3 := rfl
theorem mr_if2t {s0 s1 s3 s4 s7 s8 s9 s10 : Sl} {g : Int} (hg0 : 0 ≤ g) (hg : BigN (g + 4)) (w : Nat) (hw0 : 1 ≤ w) (hw : w ≤ 4) (acc : List (List Int)) (hl : acc.length ≤ 4000) :
    ∃ rs, rs.length ≤ 3 ∧ (∀ r ∈ rs, r.length = w ∧ ∀ n ∈ r, BigN n) ∧ mrBody2 [s0, s1, .d (.int g), s3, s4, .d (.int (w : Int)), .o (acc.map DS.mkT), s7, s8, s9, s10] = .nx [s0, s1, .d (.int g), s3, s4, .d (.int (w : Int)), .o ((acc ++ rs).map DS.mkT), s7, s8, s9, s10] :=
  ⟨great3 g w, Nat.le_of_eq (great3_len g w), great3_ok hg0 hg hw0 hw, mr_body2 g w acc hw0 hw hl⟩
def mrTest2 : Rho → Res Bool := tV dBool (o2 dIn (o2 dIx (eP 1) (eC (.int 0))) (eA dLst (aC (eC (.int 4)) (aC (eC (.int 5)) aN))))
theorem mr_test2 {s0 s2 s3 s4 s5 s6 s7 s8 s9 s10 : Sl} {row : List Int} (h : Dg row mrS) : ∃ b, mrTest2 [s0, .d (encN row), s2, s3, s4, s5, s6, s7, s8, s9, s10] = .ok b := by
  obtain ⟨a0, g0, b0⟩ := h.nat (i := 0) (s := 6) rfl
  have i0 : dIx (encN row) (.int 0) = some (.int a0) := ix_row g0
  have l1 : dLst [.int 4, .int 5] = .ok (encN [4, 5]) := lst_ints [4, 5] (by decide)
  obtain ⟨b, hb⟩ := in_ints (a0 : Int) [4, 5]
  have hb' : dIn (.int (a0 : Int)) (encN [4, 5]) = some (.bool b) := hb
  refine ⟨b, ?_⟩
  unfold mrTest2
  generalize encN row = R at *
  generalize encN [4, 5] = A at *
  simp [i0, l1, hb']
theorem if_nx {c : Rho → Res Bool} {F : Rho → Out} {ρ : Rho} {b : Bool} (p : Rho → Prop) (hc : c ρ = .ok b) (h1 : ∃ ρ', p ρ' ∧ F ρ = .nx ρ') (h2 : p ρ) : ∃ ρ', p ρ' ∧ sIf c F sNext ρ = .nx ρ' := by
  cases b with
  | true =>
    obtain ⟨ρ', q, e⟩ := h1
    refine ⟨ρ', q, ?_⟩
    rw [sIf_get, hc]
    exact e
  | false =>
    refine ⟨ρ, h2, ?_⟩
    rw [sIf_get, hc]
    rfl
theorem if_t {c : Rho → Res Bool} {F G : Rho → Out} {ρ : Rho} (hc : c ρ = .ok true) : sIf c F G ρ = F ρ := by rw [sIf_get, hc]; rfl
theorem if_f {c : Rho → Res Bool} {F G : Rho → Out} {ρ : Rho} (hc : c ρ = .ok false) : sIf c F G ρ = G ρ := by rw [sIf_get, hc]; rfl
theorem mr_if2 {s0 s3 s4 s7 s8 s9 s10 : Sl} {row : List Int} (h : Dg row mrS) {g : Int} (hg0 : 0 ≤ g) (hg : BigN (g + 4)) (w : Nat) (hw0 : 1 ≤ w) (hw : w ≤ 4) (acc : List (List Int)) (hl : acc.length ≤ 4000) :
    ∃ rs, rs.length ≤ 3 ∧ (∀ r ∈ rs, r.length = w ∧ ∀ n ∈ r, BigN n) ∧ mrIf2 [s0, .d (encN row), .d (.int g), s3, s4, .d (.int (w : Int)), .o (acc.map DS.mkT), s7, s8, s9, s10] = .nx [s0, .d (encN row), .d (.int g), s3, s4, .d (.int (w : Int)), .o ((acc ++ rs).map DS.mkT), s7, s8, s9, s10] := by
  obtain ⟨b, ht⟩ := mr_test2 (s0 := s0) (s2 := .d (.int g)) (s3 := s3) (s4 := s4) (s5 := .d (.int (w : Int))) (s6 := .o (acc.map DS.mkT)) (s7 := s7) (s8 := s8) (s9 := s9) (s10 := s10) h
  cases b with
  | false =>
    refine ⟨[], Nat.zero_le _, (fun r hr => by cases hr), ?_⟩
    rw [List.append_nil]
    exact if_f ht
  | true =>
    obtain ⟨rs, r1, r2, e⟩ := mr_if2t (s0 := s0) (s1 := .d (encN row)) (s3 := s3) (s4 := s4) (s7 := s7) (s8 := s8) (s9 := s9) (s10 := s10) hg0 hg w hw0 hw acc hl
    exact ⟨rs, r1, r2, (if_t ht).trans e⟩
end K92
end
section
set_option Elab.async false
set_option linter.all false
set_option maxRecDepth 100000
set_option maxHeartbeats 2000000
namespace K92
open PySem PySem.Spec PyProof.Rows L2 DL
/-! ### the greater store: the small tables -/
def tn (k : Nat) : Str := ("t" : Str) ++ numS (k : Int)
def tW (k : Nat) : Nat := 1 + k % 4
def tR (k : Nat) : List Int := (List.range' 0 (tW k)).map fun (j : Nat) => (k : Int) + (j : Int)
def tT (k : Nat) : Tb := ⟨tn k, (tW k : Int), [tR k]⟩
def mtNm : Rho → Res PyData := o2 dAdd (eC (.str "t")) (oA dStr (aC (eP 8) aN))
def mtWd : Rho → Res PyData := o2 dAdd (eC (.int 1)) (o2 dMod (eP 8) (eC (.int 4)))
def mtRow : Rho → Res PyData := eComp (iRange1 mtWd) [10] (gNm 10) tYs (kOne (o2 dAdd (eP 8) (eP 10)))
def mtNames : Rho → Res PyData := eComp (iAll (eP 0)) [9] (gNm 9) tYs (kOne (o2 dIx (eP 9) (eC (.int 0))))
def mtBody : Rho → Out := sIf (tV dBool (o2 dNotIn mtNm mtNames))
  (sApp 7 (eA dTup (aC mtNm (aC mtWd (aC (eA dTup (aC (oA dTupOf (aC mtRow aN)) aN)) aN)))))
  sNext
def mtTest : Rho → Res Bool := tV dBool (o2 dEq (o2 dIx (eP 1) (eC (.int 0))) (eC (.int 3)))
def mrIf3 : Rho → Out := sIf mtTest
  (sFor (iRange1 (o2 dAdd (eC (.int 9)) (o2 dIx (eP 1) (eC (.int 5))))) (gNm 8) mtBody)
  sNext
theorem mt_nm {s0 s1 s2 s3 s4 s5 s6 s7 s9 s10 : Sl} (k : Nat) (hk : k ≤ 1000) (kk : Int) (ek : kk = (k : Int)) : mtNm [s0, s1, s2, s3, s4, s5, s6, s7, .d (.int kk), s9, s10] = .ok (.str (tn k)) := by
  subst ek
  have h1 : ((k : Nat) : Int) < 10 ^ 4 := by omega
  have hp : (10 : Int) ^ 4 ≤ 10 ^ 500 := by decide +kernel
  have e1 := dStr_num (n := (k : Int)) (by omega) (by omega)
  have h2 : (numS (k : Int)).length ≤ 4 := shown_len (by omega) (by omega) h1
  have ht : ("t" : Str).length = 1 := by decide +kernel
  have e2 := dAdd_ss ("t" : Str) (numS (k : Int)) (by rw [sizeLine_eq, ht]; omega)
  unfold mtNm tn
  generalize numS (k : Int) = W at *
  simp [e1, e2]
theorem mt_wd {s0 s1 s2 s3 s4 s5 s6 s7 s9 s10 : Sl} (k : Nat) (kk : Int) (ek : kk = (k : Int)) : mtWd [s0, s1, s2, s3, s4, s5, s6, s7, .d (.int kk), s9, s10] = .ok (.int (tW k : Int)) := by
  subst ek
  have e1 := dMod_ii (k : Int) (j := 4) (by omega)
  have e2 : 1 + (k : Int) % 4 = ((1 + k % 4 : Nat) : Int) := by omega
  unfold mtWd tW
  rw [← e2]
  simp [e1]
theorem mt_row {s0 s1 s2 s3 s4 s5 s6 s7 s9 s10 : Sl} (k : Nat) (kk : Int) (ek : kk = (k : Int)) : mtRow [s0, s1, s2, s3, s4, s5, s6, s7, .d (.int kk), s9, s10] = .ok (encN (tR k)) := by
  have hw : tW k ≤ 4 := by unfold tW; omega
  unfold mtRow
  rw [comp_map (ρ := [s0, s1, s2, s3, s4, s5, s6, s7, .d (.int kk), s9, s10]) (fun (j : Nat) => .int (0 + (j : Int))) (fun (j : Nat) => .int ((k : Int) + (j : Int))) (l := List.range' 0 (tW k)) ?_ ?_ ?_]
  · have e : (tR k).map PyData.int = (List.range' 0 (tW k)).map fun (j : Nat) => .int ((k : Int) + (j : Int)) := by unfold tR; rw [List.map_map]; rfl
    exact congrArg (fun z => Res.ok (PyData.list z)) e.symm
  · rw [← rng_eq]
    exact range_ok (mt_wd k kk ek) (by omega)
  · intro j hj
    subst ek
    simp [wipeR]
  · rw [List.length_range', sizeLine_eq]; omega
theorem mt_names {s1 s2 s3 s4 s5 s6 s7 s8 s9 s10 : Sl} (ts : List Tb) (hl : ts.length ≤ 1000) : mtNames [.d (encS ts), s1, s2, s3, s4, s5, s6, s7, s8, s9, s10] = .ok (.list ((ts.map (·.nm)).map .str)) := by
  unfold mtNames
  rw [comp_map (ρ := [.d (encS ts), s1, s2, s3, s4, s5, s6, s7, s8, s9, s10]) encT (fun (t : Tb) => .str t.nm) (l := ts) ?_ ?_ ?_]
  · rw [List.map_map]; rfl
  · unfold encS; simp
  · intro t ht
    unfold encT
    simp [wipeR, dIx_t0]
  · rw [sizeLine_eq]; omega
theorem mt_enc (k : Nat) : encT (tT k) = .tuple [.str (tn k), .int (tW k : Int), .tuple [DS.mkT (tR k)]] := rfl
theorem mt_step {s1 s2 s3 s4 s5 s6 s9 s10 : Sl} (ts : List Tb) (hl : ts.length ≤ 1000) (us : List Tb) (hu : us.length ≤ 1000) (k : Nat) (hk : k ≤ 1000) (kk : Int) (ek : kk = (k : Int)) :
    mtBody [.d (encS ts), s1, s2, s3, s4, s5, s6, .o (us.map encT), .d (.int kk), s9, s10]
      = .nx [.d (encS ts), s1, s2, s3, s4, s5, s6, .o ((if tn k ∈ ts.map (·.nm) then us else us ++ [tT k]).map encT), .d (.int kk), s9, s10] := by
  have e1 := mt_nm (s0 := .d (encS ts)) (s1 := s1) (s2 := s2) (s3 := s3) (s4 := s4) (s5 := s5) (s6 := s6) (s7 := .o (us.map encT)) (s9 := s9) (s10 := s10) k hk kk ek
  have e2 := mt_wd (s0 := .d (encS ts)) (s1 := s1) (s2 := s2) (s3 := s3) (s4 := s4) (s5 := s5) (s6 := s6) (s7 := .o (us.map encT)) (s9 := s9) (s10 := s10) k kk ek
  have e3 := mt_row (s0 := .d (encS ts)) (s1 := s1) (s2 := s2) (s3 := s3) (s4 := s4) (s5 := s5) (s6 := s6) (s7 := .o (us.map encT)) (s9 := s9) (s10 := s10) k kk ek
  have e4 := mt_names (s1 := s1) (s2 := s2) (s3 := s3) (s4 := s4) (s5 := s5) (s6 := s6) (s7 := .o (us.map encT)) (s8 := .d (.int kk)) (s9 := s9) (s10 := s10) ts hl
  have e5 := notin_strs (tn k) (ts.map (·.nm))
  have hz : us.length < sizeLine := by rw [sizeLine_eq]; omega
  have t1 := dTup_ok [DS.mkT (tR k)] (by rw [sizeLine_eq]; exact Nat.le_of_ble_eq_true rfl)
  have t3 := dTup_ok [.str (tn k), .int (tW k : Int), .tuple [DS.mkT (tR k)]] (by rw [sizeLine_eq]; exact Nat.le_of_ble_eq_true rfl)
  have t0 : dTupOf [encN (tR k)] = some (DS.mkT (tR k)) := rfl
  unfold mtBody
  rw [sIf_get, tV_get, o2_get, e1, e4]
  simp only [Res.ok_bind, e5, of_some, dBool_b, Res.ok_out]
  by_cases hm : tn k ∈ ts.map (·.nm)
  · rw [decide_eq_true hm, if_pos hm]
    rfl
  · rw [decide_eq_false hm, if_neg hm, Bool.not_false, if_pos rfl, sApp_get]
    simp only [List.getElem?_cons_succ, List.getElem?_cons_zero, eA_get, oA_get, aC_get, e1, e2, e3, Res.ok_bind, aN_get, t0, of_some, t1, t3, Res.ok_out, List.length_map, if_pos hz, List.set_cons_succ, List.set_cons_zero, List.map_append, List.map_cons, List.map_nil, mt_enc]
theorem mt_loop {s1 s2 s3 s4 s5 s6 s9 s10 : Sl} (ts : List Tb) (hl : ts.length ≤ 1000) : ∀ (m i : Nat) (us : List Tb) (x : Sl), i + m ≤ 500 → us.length + m ≤ 900 →
    ∃ (ks : List Nat) (x' : Sl), ks.Sublist (List.range' i m) ∧ (∀ k ∈ ks, tn k ∉ ts.map (·.nm)) ∧ forL (gNm 8) mtBody ((List.range' i m).map fun (j : Nat) => .int (0 + (j : Int))) [.d (encS ts), s1, s2, s3, s4, s5, s6, .o (us.map encT), x, s9, s10]
      = .nx [.d (encS ts), s1, s2, s3, s4, s5, s6, .o ((us ++ ks.map tT).map encT), x', s9, s10]
  | 0, i, us, x, _, _ => ⟨[], x, List.Sublist.slnil, (fun r hr => by cases hr), by rw [List.map_nil, List.append_nil]; rfl⟩
  | m + 1, i, us, x, hi, hu => by
    have st := mt_step (s1 := s1) (s2 := s2) (s3 := s3) (s4 := s4) (s5 := s5) (s6 := s6) (s9 := s9) (s10 := s10) ts hl us (by omega) i (by omega) (0 + (i : Int)) (by omega)
    by_cases hm : tn i ∈ ts.map (·.nm)
    · rw [if_pos hm] at st
      obtain ⟨ks, x', k1, k2, q⟩ := mt_loop (s1 := s1) (s2 := s2) (s3 := s3) (s4 := s4) (s5 := s5) (s6 := s6) (s9 := s9) (s10 := s10) ts hl m (i + 1) us (.d (.int (0 + (i : Int)))) (by omega) (by omega)
      refine ⟨ks, x', by rw [List.range'_succ]; exact k1.cons _, k2, ?_⟩
      rw [List.range'_succ, List.map_cons, forL_cons (ρ1 := [.d (encS ts), s1, s2, s3, s4, s5, s6, .o (us.map encT), .d (.int (0 + (i : Int))), s9, s10]) rfl, st]
      exact q
    · rw [if_neg hm] at st
      obtain ⟨ks, x', k1, k2, q⟩ := mt_loop (s1 := s1) (s2 := s2) (s3 := s3) (s4 := s4) (s5 := s5) (s6 := s6) (s9 := s9) (s10 := s10) ts hl m (i + 1) (us ++ [tT i]) (.d (.int (0 + (i : Int)))) (by omega) (by rw [List.length_append, List.length_singleton]; omega)
      refine ⟨i :: ks, x', by rw [List.range'_succ]; exact k1.cons_cons _, fun k hk => ?_, ?_⟩
      · rcases List.mem_cons.mp hk with e | e
        · rw [e]; exact hm
        · exact k2 k e
      rw [List.range'_succ, List.map_cons, forL_cons (ρ1 := [.d (encS ts), s1, s2, s3, s4, s5, s6, .o (us.map encT), .d (.int (0 + (i : Int))), s9, s10]) rfl, st, List.map_cons]
      rw [List.append_assoc] at q
      exact q
theorem mr_if3 {s2 s3 s4 s5 s6 s8 s9 s10 : Sl} {row : List Int} (h : Dg row mrS) (ts : List Tb) (hl : ts.length ≤ 1000) (us : List Tb) (hu : us.length ≤ 100) :
    ∃ (ks : List Nat) (x' : Sl), ks.Sublist (List.range' 0 48) ∧ (∀ k ∈ ks, tn k ∉ ts.map (·.nm)) ∧ mrIf3 [.d (encS ts), .d (encN row), s2, s3, s4, s5, s6, .o (us.map encT), s8, s9, s10] = .nx [.d (encS ts), .d (encN row), s2, s3, s4, s5, s6, .o ((us ++ ks.map tT).map encT), x', s9, s10] := by
  obtain ⟨a0, g0, b0⟩ := h.nat (i := 0) (s := 6) rfl
  obtain ⟨a5, g5, b5⟩ := h.nat (i := 5) (s := 40) rfl
  have i0 : dIx (encN row) (.int 0) = some (.int a0) := ix_row g0
  have i5 : dIx (encN row) (.int 5) = some (.int a5) := ix_row g5
  have ht : mtTest [.d (encS ts), .d (encN row), s2, s3, s4, s5, s6, .o (us.map encT), s8, s9, s10] = .ok (decide ((a0 : Int) = 3)) := by
    unfold mtTest
    generalize encN row = R at *
    generalize encS ts = S at *
    generalize us.map encT = U at *
    simp [i0]
  unfold mrIf3
  rw [sIf_get, ht]
  by_cases h3 : (a0 : Int) = 3
  · rw [decide_eq_true h3]
    have c1 : ((9 + a5 : Nat) : Int) = 9 + (a5 : Int) := by omega
    have n2 : o2 dAdd (eC (.int 9)) (o2 dIx (eP 1) (eC (.int 5))) [.d (encS ts), .d (encN row), s2, s3, s4, s5, s6, .o (us.map encT), s8, s9, s10] = .ok (.int ((9 + a5 : Nat) : Int)) := by
      rw [c1]
      generalize encN row = R at *
      generalize encS ts = S at *
      generalize us.map encT = U at *
      simp [i5]
    obtain ⟨ks, x', k1, k2, q⟩ := mt_loop (s1 := .d (encN row)) (s2 := s2) (s3 := s3) (s4 := s4) (s5 := s5) (s6 := s6) (s9 := s9) (s10 := s10) ts hl (9 + a5) 0 us s8 (by omega) (by omega)
    have sub : (List.range' 0 (9 + a5)).Sublist (List.range' 0 48) := by
      have e : List.range' 0 48 = List.range' 0 (9 + a5) ++ List.range' (0 + 1 * (9 + a5)) (48 - (9 + a5)) := by
        rw [List.range'_append, show 9 + a5 + (48 - (9 + a5)) = 48 by omega]
      rw [e]
      exact List.sublist_append_left _ _
    refine ⟨ks, x', k1.trans sub, k2, ?_⟩
    simp only [Res.ok_out, if_true]
    rw [for_range (n := 9 + a5) n2 (by omega), rng_eq]
    exact q
  · rw [decide_eq_false h3]
    exact ⟨[], s8, List.nil_sublist _, (fun r hr => by cases hr), by rw [List.map_nil, List.append_nil]; rfl⟩
theorem tn_words : ∀ k, k < 48 → isWord (tn k) 8 = true := by decide +kernel
theorem tn_nodup : ((List.range' 0 48).map tn).Nodup := by decide +kernel
end K92
end
section
set_option Elab.async false
set_option linter.all false
set_option maxRecDepth 100000
set_option maxHeartbeats 2000000
namespace K92
open PySem PySem.Spec PyProof.Rows L2 DL
/-! ### the greater store: its bounds -/
structure MoT (t : Tb) : Prop where
  nm : isWord t.nm 8 = true
  wd : t.wd = 1 ∨ t.wd = 2 ∨ t.wd = 3 ∨ t.wd = 4
  ln : ∀ r ∈ t.rows, (r.length : Int) = t.wd
  num : ∀ r ∈ t.rows, ∀ n ∈ r, BigN n
  srt : t.rows.Pairwise fun a b => HT.lexLt a b = true
theorem big_500 : (10 : Int) ^ 36 ≤ 10 ^ 500 := by decide +kernel
theorem MoT.gd {t : Tb} (h : MoT t) : Gd t := ⟨h.nm, h.wd, fun r hr n hn => ⟨(h.num r hr n hn).1, Int.lt_of_lt_of_le (h.num r hr n hn).2 big_500⟩⟩
theorem Dr.mo {ts : List Tb} (h : Dr ts) : ∀ t ∈ ts, MoT t := fun t ht =>
  ⟨(h.gd t ht).nm, (h.gd t ht).wd, h.ln t ht, fun r hr n hn => ⟨(h.num t ht r hr n hn).1, Int.lt_of_le_of_lt (h.num t ht r hr n hn).2 (by decide +kernel)⟩, h.srt t ht⟩
theorem tT_mo {k : Nat} (h : k < 48) : MoT (tT k) := by
  have hr : ∀ r ∈ (tT k).rows, r = tR k := fun r hr => List.mem_singleton.mp hr
  refine ⟨tn_words k h, ?_, fun r hm => ?_, fun r hm n hn => ?_, List.pairwise_singleton _ _⟩
  · show (tW k : Int) = 1 ∨ (tW k : Int) = 2 ∨ (tW k : Int) = 3 ∨ (tW k : Int) = 4
    unfold tW
    omega
  · rw [hr r hm]
    show ((tR k).length : Int) = (tW k : Int)
    unfold tR
    rw [List.length_map, List.length_range']
  · rw [hr r hm] at hn
    obtain ⟨j, hj, rfl⟩ := List.mem_map.mp hn
    have hb : (100 : Int) < 10 ^ 36 := by decide +kernel
    have hj4 : j < tW k := by have := (List.mem_range'_1.mp hj).2; omega
    unfold tW at hj4
    exact ⟨by omega, by omega⟩
theorem isLet_high {c : Nat} (h : isLet c = true) : c < 128 := by
  have e : (Str.ofString "abcdefghijklmnopqrstuvwxyz").cps.toList.all (fun c => decide (c < 128)) = true := by decide +kernel
  unfold isLet at h
  exact of_decide_eq_true (List.all_eq_true.mp e c (of_decide_eq_true h))
theorem word_cl {s : Str} (h : isWord s 8 = true) : Cl s := by
  intro d hd
  have h48 := word_low h d hd
  refine ⟨?_, by omega⟩
  cases e : s.cps.toList with
  | nil => rw [isWord_nil e] at h; cases h
  | cons c r =>
    rw [isWord_cons e, bad_all] at h
    simp only [Bool.and_eq_true, Bool.not_not, Bool.not_eq_true', decide_eq_false_iff_not] at h
    have := List.all_eq_true.mp h.2.2 d hd
    rw [Bool.or_eq_true] at this
    rcases this with z | z
    · exact isLet_high z
    · have := (isFig_iff d).mp z; omega
theorem word_len {s : Str} (h : isWord s 8 = true) : s.length ≤ 8 := by
  cases e : s.cps.toList with
  | nil => rw [isWord_nil e] at h; cases h
  | cons c r =>
    rw [isWord_cons e] at h
    simp only [Bool.and_eq_true, Bool.not_not, Bool.not_eq_true', decide_eq_false_iff_not] at h
    omega
theorem num_cl {n : Int} (h : 0 ≤ n) : Cl (numS n) := by
  obtain ⟨n, rfl⟩ := Int.eq_ofNat_of_zero_le h
  intro c hc
  rw [tl_numS] at hc
  have := TL.numL_digits n c hc
  omega
theorem num_len {n : Int} (h : BigN n) : (numS n).length ≤ 36 := shown_len h.1 (by omega) h.2
theorem num_wd {n : Int} (h : BigN n) : Wd 36 (numS n) := ⟨num_cl h.1, num_len h⟩
theorem row_wds {r : List Int} (h : ∀ n ∈ r, BigN n) : ∀ p ∈ ("row" : Str) :: r.map numS, Wd 36 p := by
  intro p hp
  rcases List.mem_cons.mp hp with e | e
  · rw [e]; exact ⟨by decide +kernel, by decide +kernel⟩
  · obtain ⟨n, hn, rfl⟩ := List.mem_map.mp e
    exact num_wd (h n hn)
theorem wd_big {t : Tb} (h : MoT t) : BigN t.wd := by
  have hb : (4 : Int) < 10 ^ 36 := by decide +kernel
  rcases h.wd with e | e | e | e <;> rw [e] <;> exact ⟨by omega, by omega⟩
theorem head_wds {t : Tb} (h : MoT t) : ∀ p ∈ [("table" : Str), t.nm, numS t.wd], Wd 36 p := by
  intro p hp
  rcases List.mem_cons.mp hp with e | e
  · rw [e]; exact ⟨by decide +kernel, by decide +kernel⟩
  rcases List.mem_cons.mp e with e | e
  · rw [e]; exact ⟨word_cl h.nm, by have := word_len h.nm; omega⟩
  · rw [List.mem_singleton.mp e]; exact num_wd (wd_big h)
theorem MoT.row_ne {t : Tb} (h : MoT t) {r : List Int} (hr : r ∈ t.rows) : r ≠ [] := fun z => by
  have a := h.ln r hr
  rw [z] at a
  rcases h.wd with e | e | e | e <;> rw [e] at a <;> cases a
theorem mo_ln {ts : List Tb} (h : ∀ t ∈ ts, MoT t) : ∀ l ∈ linesT ts, Ln 36 l := by
  intro p hp
  obtain ⟨t, ht, hp⟩ := List.mem_flatMap.mp hp
  rcases List.mem_cons.mp hp with e | e
  · rw [e, headT_eq]; exact ln_join (head_wds (h t ht))
  · obtain ⟨r, hr, rfl⟩ := List.mem_map.mp e
    rw [rowT_eq ((h t ht).row_ne hr)]
    exact ln_join (row_wds ((h t ht).num r hr))
theorem sumL_bd {m : Nat} : ∀ {l : List Str}, (∀ x ∈ l, x.length + 1 ≤ m) → sumL l ≤ m * l.length
  | [], _ => Nat.zero_le _
  | x :: l, h => by
    have e : sumL (x :: l) = x.length + 1 + sumL l := by unfold sumL; rw [List.map_cons, List.sum_cons]
    have h1 := h x List.mem_cons_self
    have h2 := sumL_bd fun y hy => h y (List.mem_cons_of_mem _ hy)
    rw [e, List.length_cons, Nat.mul_succ]
    omega
theorem sumL_cons (x : Str) (l : List Str) : sumL (x :: l) = x.length + 1 + sumL l := by unfold sumL; rw [List.map_cons, List.sum_cons]
theorem row_chars {t : Tb} (h : MoT t) {r : List Int} (hr : r ∈ t.rows) : (rowT r).length + 1 ≤ 153 := by
  rw [rowT_eq (h.row_ne hr)]
  have h1 := join_len1 SP (by decide +kernel) (("row" : Str) :: r.map numS)
  have h2 : sumL (r.map numS) ≤ 37 * (r.map numS).length := sumL_bd fun x hx => by
    obtain ⟨n, hn, rfl⟩ := List.mem_map.mp hx
    have := num_len (h.num r hr n hn)
    omega
  rw [sumL_cons] at h1
  have h3 : ("row" : Str).length = 3 := by decide +kernel
  have h4 := h.ln r hr
  have h5 : r.length ≤ 4 := by rcases h.wd with e | e | e | e <;> rw [e] at h4 <;> omega
  rw [List.length_map] at h2
  omega
theorem head_chars {t : Tb} (h : MoT t) : (headT t).length + 1 ≤ 60 := by
  rw [headT_eq]
  have h1 := join_len1 SP (by decide +kernel) [("table" : Str), t.nm, numS t.wd]
  rw [sumL_cons, sumL_cons, sumL_cons] at h1
  have h3 : ("table" : Str).length = 5 := by decide +kernel
  have h4 := word_len h.nm
  have h5 := num_len (wd_big h)
  have h6 : sumL [] = 0 := rfl
  omega
def cost (ts : List Tb) : Nat := (ts.map fun t => 60 + 153 * t.rows.length).sum
theorem cost_app (a b : List Tb) : cost (a ++ b) = cost a + cost b := by
  unfold cost
  rw [List.map_append, List.sum_append]
theorem cost_perm {a b : List Tb} (p : a.Perm b) : cost a = cost b := (p.map _).sum_nat
theorem cost_bd {c : Nat} : ∀ {l : List Tb}, (∀ t ∈ l, t.rows.length ≤ c) → cost l ≤ (60 + 153 * c) * l.length
  | [], _ => Nat.zero_le _
  | x :: l, h => by
    have h1 := h x List.mem_cons_self
    have h2 := cost_bd fun y hy => h y (List.mem_cons_of_mem _ hy)
    have e : cost (x :: l) = 60 + 153 * x.rows.length + cost l := by unfold cost; rw [List.map_cons, List.sum_cons]
    rw [e, List.length_cons, Nat.mul_succ]
    omega
theorem lines_cost : ∀ {ts : List Tb}, (∀ t ∈ ts, MoT t) → sumL (linesT ts) ≤ cost ts
  | [], _ => Nat.zero_le _
  | t :: ts, h => by
    have ih := lines_cost fun t ht => h t (List.mem_cons_of_mem _ ht)
    have hm := h t List.mem_cons_self
    have e : linesT (t :: ts) = (headT t :: t.rows.map rowT) ++ linesT ts := by unfold linesT; rw [List.flatMap_cons]
    have e2 : cost (t :: ts) = 60 + 153 * t.rows.length + cost ts := by unfold cost; rw [List.map_cons, List.sum_cons]
    have h1 := head_chars hm
    have h2 : sumL (t.rows.map rowT) ≤ 153 * (t.rows.map rowT).length := sumL_bd fun x hx => by
      obtain ⟨r, hr, rfl⟩ := List.mem_map.mp hx
      exact row_chars hm hr
    rw [List.length_map] at h2
    rw [e, e2, sumL_app, sumL_cons]
    omega
/-- all that is asked of a store -/
structure Sto (S : Nat) (us : List Tb) : Prop where
  vd : Vd us
  ne : us ≠ []
  ls : Ls 36 S (linesT us)
theorem mo_sto {us : List Tb} {S : Nat} (h : ∀ t ∈ us, MoT t) (hn : us.Pairwise fun a b => sLt a.nm b.nm = true) (hne : us ≠ []) (hc : cost us ≤ S) : Sto S us :=
  ⟨⟨fun t ht => (h t ht).gd, fun t ht => (h t ht).ln, fun t ht => (h t ht).srt, hn⟩, hne, mo_ln h, Nat.le_trans (lines_cost h) hc⟩
theorem Sto.fok {us : List Tb} {S : Nat} (h : Sto S us) (hS : S ≤ 900000) : FOk us := ⟨h.vd.gd, Nat.le_trans h.ls.sum hS⟩
theorem Ls.mono {m k S T : Nat} {l : List Str} (h : Ls m S l) (hm : m ≤ k) (hs : S ≤ T) : Ls k T l := ⟨fun x hx => (h.ln x hx).mono hm, Nat.le_trans h.sum hs⟩
theorem Sto.tok {us : List Tb} {S : Nat} (h : Sto S us) (hS : S ≤ 1000000) : TOk (textOf us) := (h.ls.mono (by omega) hS).tok
end K92
end
section
set_option Elab.async false
set_option linter.all false
set_option maxRecDepth 100000
set_option maxHeartbeats 2000000
namespace K92
open PySem PySem.Spec PyProof.Rows L2 DL
/-! ### the greater store -/
def moPlace : Rho → Out := sAsg (o2 dMod (oA dInt (aC (o2 dIx (eP 1) (eC (.int 4))) aN)) (oA dLen (aC (eP 0) aN))) (gNm 3)
def moNm : Rho → Out := sAsg (o2 dIx (o2 dIx (eP 0) (eP 3)) (eC (.int 0))) (gNm 4)
def moWd : Rho → Out := sAsg (o2 dIx (o2 dIx (eP 0) (eP 3)) (eC (.int 1))) (gNm 5)
def moRows : Rho → Out := sAsgO 6 (oA dListOf (aC (o2 dIx (o2 dIx (eP 0) (eP 3)) (eC (.int 2))) aN))
def moRest : Rho → Out := sAsgO 7 (eComp (iAll (eP 0)) [9] (gNm 9) (tV dBool (o2 dNe (o2 dIx (eP 9) (eC (.int 0))) (eP 4))) (kOne (eV 9)))
def moOwn : Rho → Out := sApp 7 (eA dTup (aC (eV 4) (aC (eV 5) (aC (oA dTupOf (aC (o1 dSortSet (eP 6)) aN)) aN))))
def moRet : Rho → Out := sRet (oA dTupOf (aC (o1 dSorted (eP 7)) aN))
theorem more_eq : F__law_more = sSeq moPlace (sSeq moNm (sSeq moWd (sSeq moRows (sSeq moRest (sSeq mrIf1 (sSeq mrIf2 (sSeq moOwn (sSeq mrIf3 moRet)))))))) := rfl
section
variable {s3 s4 s5 s6 s7 s8 s9 s10 : Sl} {G : Sl} {ts : List Tb} {row : List Int} {p : Nat} {t : Tb}
theorem mo_place (hd : Dg row mrS) (hne : ts ≠ []) : ∃ p, p < ts.length ∧ moPlace [.d (encS ts), .d (encN row), G, s3, s4, s5, s6, s7, s8, s9, s10] = .nx [.d (encS ts), .d (encN row), G, .d (.int (p : Int)), s4, s5, s6, s7, s8, s9, s10] := by
  obtain ⟨a4, g4, b4⟩ := hd.nat (i := 4) (s := 8) rfl
  have i4 : dIx (encN row) (.int 4) = some (.int a4) := ix_row g4
  have hl : 0 < ts.length := List.length_pos_iff.mpr hne
  have hn : dLen [encS ts] = some (.int (ts.length : Int)) := by unfold encS; rw [dLen_t, List.length_map]
  have hm := dMod_ii (a4 : Int) (j := (ts.length : Int)) (by omega)
  have hc : ((a4 % ts.length : Nat) : Int) = (a4 : Int) % (ts.length : Int) := Int.natCast_emod _ _
  refine ⟨a4 % ts.length, Nat.mod_lt _ hl, ?_⟩
  rw [hc]
  unfold moPlace
  generalize encN row = R at *
  generalize encS ts = S at *
  simp [i4, hn, hm]
theorem mo_ix (h : ts[p]? = some t) : dIx (encS ts) (.int (p : Int)) = some (encT t) := by
  unfold encS
  rw [dIx_t, List.getElem?_map, h]
  rfl
theorem mo_nm (h : ts[p]? = some t) : moNm [.d (encS ts), .d (encN row), G, .d (.int (p : Int)), s4, s5, s6, s7, s8, s9, s10] = .nx [.d (encS ts), .d (encN row), G, .d (.int (p : Int)), .d (.str t.nm), s5, s6, s7, s8, s9, s10] := by
  have e1 := mo_ix h
  have e2 : dIx (encT t) (.int 0) = some (.str t.nm) := by unfold encT; rw [dIx_t0]; rfl
  unfold moNm
  generalize encN row = R at *
  generalize encS ts = S at *
  generalize encT t = T at *
  simp [e1, e2]
theorem mo_wd (h : ts[p]? = some t) : moWd [.d (encS ts), .d (encN row), G, .d (.int (p : Int)), s4, s5, s6, s7, s8, s9, s10] = .nx [.d (encS ts), .d (encN row), G, .d (.int (p : Int)), s4, .d (.int t.wd), s6, s7, s8, s9, s10] := by
  have e1 := mo_ix h
  have e2 : dIx (encT t) (.int 1) = some (.int t.wd) := by unfold encT; rw [dIx_t1]; rfl
  unfold moWd
  generalize encN row = R at *
  generalize encS ts = S at *
  generalize encT t = T at *
  simp [e1, e2]
theorem mo_rows (h : ts[p]? = some t) : moRows [.d (encS ts), .d (encN row), G, .d (.int (p : Int)), s4, s5, s6, s7, s8, s9, s10] = .nx [.d (encS ts), .d (encN row), G, .d (.int (p : Int)), s4, s5, .o (t.rows.map DS.mkT), s7, s8, s9, s10] := by
  have e1 := mo_ix h
  have e2 : dIx (encT t) (.int 2) = some (.tuple (t.rows.map DS.mkT)) := by unfold encT; rw [dIx_t2]; rfl
  unfold moRows
  generalize encN row = R at *
  generalize encS ts = S at *
  generalize encT t = T at *
  simp [e1, e2]
def others (nm : Str) (ts : List Tb) : List Tb := ts.filter fun t => !decide (t.nm = nm)
theorem mo_rest {nm : Str} (hl : ts.length ≤ 1000) : moRest [.d (encS ts), .d (encN row), G, s3, .d (.str nm), s5, s6, s7, s8, s9, s10] = .nx [.d (encS ts), .d (encN row), G, s3, .d (.str nm), s5, s6, .o ((others nm ts).map encT), s8, s9, s10] := by
  have e := comp_filter (ρ := [.d (encS ts), .d (encN row), G, s3, .d (.str nm), s5, s6, s7, s8, s9, s10]) (i := 9) (vs := [9]) (it := iAll (eP 0)) (fc := tV dBool (o2 dNe (o2 dIx (eP 9) (eC (.int 0))) (eP 4))) (fe := eV 9) encT encT (fun t : Tb => !decide (t.nm = nm)) (l := ts)
    (by unfold encS; simp) (fun t ht => by unfold encT; simp [wipeR, dIx_t0]) (fun t ht _ => by unfold encT; simp [wipeR]) (by rw [sizeLine_eq]; omega)
  unfold moRest
  rw [sAsgO_get, e]
  rfl
theorem mo_own {s0 s1 s2 : Sl} {nm : Str} {wd : Int} {rows : List (List Int)} {us : List Tb} (hl : rows.length ≤ 1228) (hn : ∀ r ∈ rows, r ≠ []) (hu : us.length ≤ 1000) :
    moOwn [s0, s1, s2, s3, .d (.str nm), .d (.int wd), .o (rows.map DS.mkT), .o (us.map encT), s8, s9, s10] = .nx [s0, s1, s2, s3, .d (.str nm), .d (.int wd), .o (rows.map DS.mkT), .o ((us ++ [(⟨nm, wd, DS.srtSet rows⟩ : Tb)]).map encT), s8, s9, s10] := by
  have e1 := dSortSet_ok rows hl hn
  have hz : us.length < sizeLine := by rw [sizeLine_eq]; omega
  have t3 := dTup_ok [.str nm, .int wd, .tuple ((DS.srtSet rows).map DS.mkT)] (by rw [sizeLine_eq]; exact Nat.le_of_ble_eq_true rfl)
  have en : encT ⟨nm, wd, DS.srtSet rows⟩ = .tuple [.str nm, .int wd, .tuple ((DS.srtSet rows).map DS.mkT)] := rfl
  unfold moOwn
  rw [List.map_append, List.map_cons, List.map_nil, en]
  generalize (DS.srtSet rows).map DS.mkT = D at *
  generalize rows.map DS.mkT = E at *
  simp [e1, t3, hz]
theorem mo_ret {s0 s1 s2 : Sl} {xs us : List PyData} (h : dSorted (.list us) = some (.list xs)) : moRet [s0, s1, s2, s3, s4, s5, s6, .o us, s8, s9, s10] = .rt (.tuple xs) := by
  unfold moRet
  rw [sRet_get]
  simp [h]
end
theorem srt_sub {nm : Str} {ts : List Tb} (h : (ts.map (·.nm)).Nodup) : ((others nm ts).map (·.nm)).Nodup := h.sublist (List.filter_sublist.map _)
theorem ev_more {ts : List Tb} (hD : Dr ts) (hne : ts ≠ []) (hl : ts.length ≤ 8) {row : List Int} (hd : Dg row mrS) {g : Int} (hg0 : 0 ≤ g) (hg : BigN (g + 4)) :
    ∃ us, Sto 210000 us ∧ fn__law_more [encS ts, encN row, .int g] = .ok (encS us) := by
  obtain ⟨p, hp, e1⟩ := mo_place (G := .d (.int g)) (s3 := .u) (s4 := .u) (s5 := .u) (s6 := .u) (s7 := .u) (s8 := .u) (s9 := .u) (s10 := .u) hd hne
  obtain ⟨t, ht⟩ : ∃ t, ts[p]? = some t := ⟨ts[p], List.getElem?_eq_getElem hp⟩
  have htm : t ∈ ts := List.mem_of_getElem? ht
  have tm := hD.mo t htm
  have t7 := hD.rws t htm
  obtain ⟨w, ew, hw1, hw4⟩ : ∃ w : Nat, t.wd = (w : Int) ∧ 1 ≤ w ∧ w ≤ 4 := by
    rcases tm.wd with e | e | e | e
    · exact ⟨1, e, by omega, by omega⟩
    · exact ⟨2, e, by omega, by omega⟩
    · exact ⟨3, e, by omega, by omega⟩
    · exact ⟨4, e, by omega, by omega⟩
  have e2 := mo_nm (row := row) (G := .d (.int g)) (s4 := .u) (s5 := .u) (s6 := .u) (s7 := .u) (s8 := .u) (s9 := .u) (s10 := .u) ht
  have e3 := mo_wd (row := row) (G := .d (.int g)) (s4 := .d (.str t.nm)) (s5 := .u) (s6 := .u) (s7 := .u) (s8 := .u) (s9 := .u) (s10 := .u) ht
  have e4 := mo_rows (row := row) (G := .d (.int g)) (s4 := .d (.str t.nm)) (s5 := .d (.int t.wd)) (s6 := .u) (s7 := .u) (s8 := .u) (s9 := .u) (s10 := .u) ht
  have e5 := mo_rest (ts := ts) (row := row) (nm := t.nm) (G := .d (.int g)) (s3 := .d (.int (p : Int))) (s5 := .d (.int t.wd)) (s6 := .o (t.rows.map DS.mkT)) (s7 := .u) (s8 := .u) (s9 := .u) (s10 := .u) (by omega)
  rw [ew] at e3 e4 e5
  obtain ⟨rs1, x8, a1, a2, e6⟩ := mr_if1 (s0 := .d (encS ts)) (s2 := .d (.int g)) (s3 := .d (.int (p : Int))) (s4 := .d (.str t.nm)) (s7 := .o ((others t.nm ts).map encT)) (s8 := .u) (s9 := .u) (s10 := .u) hd w hw4 t.rows t7
  obtain ⟨rs2, c1, c2, e7⟩ := mr_if2 (s0 := .d (encS ts)) (s3 := .d (.int (p : Int))) (s4 := .d (.str t.nm)) (s7 := .o ((others t.nm ts).map encT)) (s8 := x8) (s9 := .u) (s10 := .u) hd hg0 hg w hw1 hw4 (t.rows ++ rs1) (by rw [List.length_append]; omega)
  have hR : ∀ r ∈ t.rows ++ rs1 ++ rs2, r.length = w ∧ ∀ n ∈ r, BigN n := fun r hr => by
    rcases List.mem_append.mp hr with z | z
    · rcases List.mem_append.mp z with z | z
      · exact ⟨by have := tm.ln r z; omega, tm.num r z⟩
      · exact a2 r z
    · exact c2 r z
  have hRl : (t.rows ++ rs1 ++ rs2).length ≤ 1226 := by rw [List.length_append, List.length_append]; omega
  have hRn : ∀ r ∈ t.rows ++ rs1 ++ rs2, r ≠ [] := fun r hr z => by
    have := (hR r hr).1
    rw [z, List.length_nil] at this
    omega
  have ol : (others t.nm ts).length ≤ 8 := Nat.le_trans (List.length_filter_le _ _) hl
  have e8 := mo_own (s0 := .d (encS ts)) (s1 := .d (encN row)) (s2 := .d (.int g)) (s3 := .d (.int (p : Int))) (nm := t.nm) (wd := (w : Int)) (s8 := x8) (s9 := .u) (s10 := .u) (rows := t.rows ++ rs1 ++ rs2) (us := others t.nm ts) (by omega) hRn (by omega)
  obtain ⟨ks, x8', k1, k2, e9⟩ := mr_if3 (s2 := .d (.int g)) (s3 := .d (.int (p : Int))) (s4 := .d (.str t.nm)) (s5 := .d (.int (w : Int))) (s6 := .o ((t.rows ++ rs1 ++ rs2).map DS.mkT)) (s8 := x8) (s9 := .u) (s10 := .u) hd ts (by omega) (others t.nm ts ++ [(⟨t.nm, (w : Int), DS.srtSet (t.rows ++ rs1 ++ rs2)⟩ : Tb)]) (by rw [List.length_append, List.length_singleton]; omega)
  have hk : ∀ k ∈ ks, k < 48 := fun k hk => by
    have := (List.mem_range'_1.mp (k1.subset hk)).2
    omega
  have kl : ks.length ≤ 48 := by have := k1.length_le; rwa [List.length_range'] at this
  generalize hown : (⟨t.nm, (w : Int), DS.srtSet (t.rows ++ rs1 ++ rs2)⟩ : Tb) = own at *
  have own_nm : own.nm = t.nm := by rw [← hown]
  have own_rows : own.rows = DS.srtSet (t.rows ++ rs1 ++ rs2) := by rw [← hown]
  have own_mo : MoT own := by
    rw [← hown]
    refine ⟨tm.nm, ?_, fun r hr => ?_, fun r hr => (hR r (srtSet_mem hr)).2, srtSet_sort _⟩
    · rw [← ew]; exact tm.wd
    · show (r.length : Int) = (w : Int)
      have := (hR r (srtSet_mem hr)).1
      omega
  have all_mo : ∀ u ∈ others t.nm ts ++ [own] ++ ks.map tT, MoT u := fun u hu => by
    rcases List.mem_append.mp hu with z | z
    · rcases List.mem_append.mp z with z | z
      · exact hD.mo u (List.mem_filter.mp z).1
      · rw [List.mem_singleton.mp z]; exact own_mo
    · obtain ⟨k, hk', rfl⟩ := List.mem_map.mp z
      exact tT_mo (hk k hk')
  have nod : ((others t.nm ts ++ [own] ++ ks.map tT).map (·.nm)).Nodup := by
    rw [List.map_append, List.map_append, List.nodup_append]
    refine ⟨?_, ?_, fun a ha b hb => ?_⟩
    · rw [List.nodup_append]
      refine ⟨srt_sub hD.nod, by simp, fun a ha b hb => ?_⟩
      rw [List.map_cons, List.map_nil, List.mem_singleton] at hb
      obtain ⟨u, hu, rfl⟩ := List.mem_map.mp ha
      rw [hb, own_nm]
      have := (List.mem_filter.mp hu).2
      simpa using this
    · rw [List.map_map]
      exact tn_nodup.sublist (k1.map tn)
    · rw [List.map_map] at hb
      obtain ⟨k, hk', rfl⟩ := List.mem_map.mp hb
      have kn := k2 k hk'
      intro z
      refine kn ?_
      have z' : a = tn k := z
      rw [← z']
      rcases List.mem_append.mp ha with q | q
      · obtain ⟨u, hu, rfl⟩ := List.mem_map.mp q
        exact List.mem_map.mpr ⟨u, (List.mem_filter.mp hu).1, rfl⟩
      · rw [List.map_cons, List.map_nil, List.mem_singleton] at q
        rw [q, own_nm]
        exact List.mem_map.mpr ⟨t, htm, rfl⟩
  have hc : cost (others t.nm ts ++ [own] ++ ks.map tT) ≤ 210000 := by
    have q1 : cost (others t.nm ts) ≤ (60 + 153 * 7) * (others t.nm ts).length := cost_bd fun u hu => hD.rws u (List.mem_filter.mp hu).1
    have q2 : cost [own] = 60 + 153 * own.rows.length + 0 := rfl
    have q3 : cost (ks.map tT) ≤ (60 + 153 * 1) * (ks.map tT).length := cost_bd fun u hu => by
      obtain ⟨k, _, rfl⟩ := List.mem_map.mp hu
      exact Nat.le_refl 1
    have q4 : own.rows.length ≤ 1226 := by rw [own_rows]; exact Nat.le_trans (srtSet_len _) hRl
    rw [List.length_map] at q3
    rw [cost_app, cost_app]
    omega
  have len : (others t.nm ts ++ [own] ++ ks.map tT).length ≤ 1000 := by
    rw [List.length_append, List.length_append, List.length_map, List.length_singleton]
    omega
  have hs := dSorted_ok nod len
  refine ⟨srtT (others t.nm ts ++ [own] ++ ks.map tT), mo_sto (fun u hu => all_mo u ((srtT_perm _).mem_iff.mp hu)) (srtT_sort nod) (fun z => ?_) (by rw [cost_perm (srtT_perm _)]; exact hc), run_rt rfl ?_⟩
  · have := (srtT_perm (others t.nm ts ++ [own] ++ ks.map tT)).length_eq
    rw [z, List.length_append, List.length_append, List.length_singleton, List.length_nil] at this
    omega
  rw [more_eq]
  refine (seq_nx e1).trans ?_
  refine (seq_nx e2).trans ?_
  refine (seq_nx e3).trans ?_
  refine (seq_nx e4).trans ?_
  refine (seq_nx e5).trans ?_
  refine (seq_nx e6).trans ?_
  refine (seq_nx e7).trans ?_
  refine (seq_nx e8).trans ?_
  refine (seq_nx e9).trans ?_
  exact mo_ret hs
end K92
end
section
set_option Elab.async false
set_option linter.all false
set_option maxRecDepth 100000
set_option maxHeartbeats 2000000
namespace K92
open PySem PySem.Spec PyProof.Rows L2 DL
/-! ### the spoilers: pieces -/
theorem cut_mid {α : Type} (xs : List α) (n d : Nat) : cut xs (some (n : Int)) (some ((n + d : Nat) : Int)) = (xs.drop n).take d := by
  unfold cut
  rw [HT.sIx_nat, HT.sIx_nat]
  by_cases h : n ≤ xs.length
  · rw [Nat.min_eq_left h]
    by_cases h2 : n + d ≤ xs.length
    · rw [Nat.min_eq_left h2, Nat.add_sub_cancel_left]
    · rw [Nat.min_eq_right (by omega), List.take_of_length_le (by rw [List.length_drop]; omega), List.take_of_length_le (by rw [List.length_drop]; omega)]
  · rw [Nat.min_eq_right (show xs.length ≤ n by omega), List.drop_of_length_le (Nat.le_refl _), List.drop_of_length_le (show xs.length ≤ n by omega), List.take_nil, List.take_nil]
section
variable {e e1 e2 i : Rho → Res PyData} {ρ : Rho} {ws a b : List Str} {n d : Nat} {x : Str}
theorem sl_to (he : e ρ = .ok (encW ws)) (hi : i ρ = .ok (.int (n : Int))) : oSl dSlice e oN (oS i) ρ = .ok (encW (ws.take n)) := by
  rw [oSl_get, he, oN_get, oS_get, hi]
  simp only [Res.ok_bind]
  unfold encW
  rw [dSlice_l, cut_to, List.map_take]
  rfl
theorem sl_from (he : e ρ = .ok (encW ws)) (hi : i ρ = .ok (.int (n : Int))) : oSl dSlice e (oS i) oN ρ = .ok (encW (ws.drop n)) := by
  rw [oSl_get, he, oN_get, oS_get, hi]
  simp only [Res.ok_bind]
  unfold encW
  rw [dSlice_l, cut_from, List.map_drop]
  rfl
theorem sl_mid {j : Rho → Res PyData} (he : e ρ = .ok (encW ws)) (hi : i ρ = .ok (.int (n : Int))) (hj : j ρ = .ok (.int ((n + d : Nat) : Int))) : oSl dSlice e (oS i) (oS j) ρ = .ok (encW ((ws.drop n).take d)) := by
  rw [oSl_get, he, oS_get, oS_get, hi, hj]
  simp only [Res.ok_bind]
  unfold encW
  rw [dSlice_l, cut_mid, List.map_take, List.map_drop]
  rfl
theorem sl_init (he : e ρ = .ok (encW ws)) : oSl dSlice e oN (oS (o1 dNeg (eC (.int 1)))) ρ = .ok (encW ws.dropLast) := by
  have hi : o1 dNeg (eC (.int 1)) ρ = .ok (.int (-1)) := rfl
  rw [oSl_get, he, oN_get, oS_get, hi]
  simp only [Res.ok_bind]
  unfold encW
  rw [dSlice_l, cut_init, ← List.map_dropLast]
  rfl
theorem cat_ok (h1 : e1 ρ = .ok (encW a)) (h2 : e2 ρ = .ok (encW b)) (hl : a.length + b.length ≤ 16777216) : o2 dAdd e1 e2 ρ = .ok (encW (a ++ b)) := by
  rw [o2_get, h1, Res.ok_bind, h2, Res.ok_bind]
  unfold encW
  rw [dAdd_ll _ _ (by rw [List.length_map, List.length_map, sizeLine_eq]; exact hl), List.map_append]
  rfl
theorem one_ok (h : e ρ = .ok (.str x)) : eA dLst (aC e aN) ρ = .ok (encW [x]) := by
  rw [eA_get, aC_get, h]
  simp only [Res.ok_bind, aN_get]
  rw [dLst_ok _ (by rw [sizeLine_eq]; exact Nat.le_of_ble_eq_true rfl)]
  rfl
theorem ix_w (he : e ρ = .ok (encW ws)) (hi : i ρ = .ok (.int (n : Int))) (h : ws[n]? = some x) : o2 dIx e i ρ = .ok (.str x) := by
  rw [o2_get, he, Res.ok_bind, hi, Res.ok_bind]
  unfold encW
  rw [dIx_l, List.getElem?_map, h]
  rfl
theorem ix_wl (he : e ρ = .ok (encW ws)) (h : ws.getLast? = some x) : o2 dIx e (o1 dNeg (eC (.int 1))) ρ = .ok (.str x) := by
  have hi : o1 dNeg (eC (.int 1)) ρ = .ok (.int (-1)) := rfl
  rw [o2_get, he, Res.ok_bind, hi, Res.ok_bind]
  unfold encW
  rw [dIx_ll, List.getLast?_map, h]
  rfl
theorem join_w {y : Str} (hy : y.length ≤ 1) (he : e ρ = .ok (encW ws)) (hs : sumL ws ≤ 16777216) : oM isStrD dJoin (eC (.str y)) (aC e aN) ρ = .ok (.str (Txt.join y ws)) := by
  have hj : dJoin (.str y) [.list (ws.map .str)] = some (.str (Txt.join y ws)) := by
    unfold dJoin
    simp only [strsOf_map]
    refine gdt (decide_eq_true ?_)
    have h1 : (ws.map (·.length)).sum + ws.length * 1 = sumL ws := by
      have := sumL_eq ws SP (by decide +kernel)
      have e1 : SP.length = 1 := by decide +kernel
      rwa [e1] at this
    have h2 : ws.length * y.length ≤ ws.length * 1 := Nat.mul_le_mul_left _ hy
    omega
  rw [oM_get, eC_get, Res.ok_bind, aC_get, he]
  simp only [isStr_s, if_true, Res.ok_bind, aN_get]
  unfold encW
  rw [hj]
  rfl
theorem split_w (h : e ρ = .ok (.str x)) (hl : x.length + 2 ≤ 16777216) : oM isStrD dSplit e (aC (eC (.str " ")) aN) ρ = .ok (encW (Txt.split x SP)) := by
  have hs : dSplit (.str x) [.str SP] = some (encW (Txt.split x SP)) := dSplit_ok x SP (by decide +kernel) (by rw [sizeLine_eq]; exact hl)
  rw [oM_get, h, Res.ok_bind, aC_get, eC_get]
  simp only [isStr_s, if_true, Res.ok_bind, aN_get]
  have e : (" " : Str) = SP := by decide +kernel
  show Res.of (dSplit (.str x) [.str (" " : Str)]) = _
  rw [e, hs]
  rfl
end
/-! ### what they keep -/
structure Ws (m S : Nat) (ws : List Str) : Prop where
  wd : ∀ w ∈ ws, Wd m w
  sum : sumL ws ≤ S
theorem Ws.mono {m k S T : Nat} {ws : List Str} (h : Ws m S ws) (hm : m ≤ k) (hs : S ≤ T) : Ws k T ws := ⟨fun w hw => (h.wd w hw).mono hm, Nat.le_trans h.sum hs⟩
theorem sumL_take (l : List Str) (n : Nat) : sumL (l.take n) + sumL (l.drop n) = sumL l := by rw [← sumL_app, List.take_append_drop]
theorem sumL_drop (l : List Str) {n k : Nat} (h : n ≤ k) : sumL (l.drop k) ≤ sumL (l.drop n) := by
  have e : l.drop k = (l.drop n).drop (k - n) := by rw [List.drop_drop]; congr 1; omega
  have := sumL_take (l.drop n) (k - n)
  rw [e]
  omega
theorem sumL_rev (l : List Str) : sumL l.reverse = sumL l := by
  unfold sumL
  rw [List.map_reverse]
  exact (List.reverse_perm _).sum_nat
theorem sumL_last (l : List Str) {x : Str} (h : l.getLast? = some x) : sumL l.dropLast + (x.length + 1) = sumL l := by
  have e : l = l.dropLast ++ [x] := by
    obtain ⟨ys, e⟩ := List.getLast?_eq_some_iff.mp h
    rw [e, List.dropLast_concat]
  have q : sumL l = sumL (l.dropLast ++ [x]) := congrArg _ e
  rw [q, sumL_app, sumL_cons]
  rfl
section
variable {m S c : Nat} {ws : List Str} {x : Str} {i j : Nat}
theorem Ws.take (h : Ws m S ws) : Ws m S (ws.take i) := ⟨fun w hw => h.wd w (List.mem_of_mem_take hw), by have := sumL_take ws i; have := h.sum; omega⟩
theorem Ws.drop (h : Ws m S ws) : Ws m S (ws.drop i) := ⟨fun w hw => h.wd w (List.mem_of_mem_drop hw), by have := sumL_take ws i; have := h.sum; omega⟩
theorem Ws.init (h : Ws m S ws) : Ws m S ws.dropLast := by rw [List.dropLast_eq_take]; exact h.take
theorem Ws.app {T : Nat} {vs : List Str} (h : Ws m S ws) (k : Ws m T vs) : Ws m (S + T) (ws ++ vs) := ⟨fun w hw => (List.mem_append.mp hw).elim (h.wd w) (k.wd w), by rw [sumL_app]; have := h.sum; have := k.sum; omega⟩
theorem Ws.one (h : Wd m x) (hc : x.length ≤ c) : Ws m (c + 1) [x] := ⟨fun w hw => by rw [List.mem_singleton.mp hw]; exact h, by rw [sumL_cons]; show x.length + 1 + 0 ≤ c + 1; omega⟩
theorem Ws.cut (h : Ws m S ws) (hij : i ≤ j) : Ws m S (ws.take i ++ ws.drop j) := ⟨fun w hw => (List.mem_append.mp hw).elim (fun z => h.wd w (List.mem_of_mem_take z)) (fun z => h.wd w (List.mem_of_mem_drop z)), by
  rw [sumL_app]; have := sumL_take ws i; have := sumL_drop ws hij; have := h.sum; omega⟩
theorem Ws.mid (h : Ws m S ws) (hij : i ≤ j) (hx : Wd m x) (hc : x.length ≤ c) : Ws m (S + (c + 1)) (ws.take i ++ [x] ++ ws.drop j) := by
  have h1 := h.cut hij
  have h2 := Ws.one hx hc
  refine ⟨fun w hw => ?_, ?_⟩
  · rcases List.mem_append.mp hw with z | z
    · rcases List.mem_append.mp z with z | z
      · exact h.wd w (List.mem_of_mem_take z)
      · exact h2.wd w z
    · exact h.wd w (List.mem_of_mem_drop z)
  · have q := h1.sum
    have p := h2.sum
    rw [sumL_app] at q
    rw [sumL_app, sumL_app]
    omega
theorem Ws.line (h : Ws m S ws) : Ln m (Txt.join SP ws) ∧ (Txt.join SP ws).length ≤ S := ⟨ln_join h.wd, Nat.le_trans (join_len1 SP (by decide +kernel) ws) h.sum⟩
end
theorem Ln.ws {m : Nat} {l : Str} (h : Ln m l) : Ws m (l.length + 1) (Txt.split l SP) := ⟨h.words, split_sum l SP (s := 32) (by decide +kernel) sp_k⟩
theorem upper_wd {m : Nat} {w : Str} (h : Wd m w) : Wd m (Txt.upper w) ∧ (Txt.upper w).length = w.length := by
  have e := upper_ascii fun c hc => (h.cl c hc).1
  have e1 : (Txt.upper w).length = w.length := by
    rw [e]
    show (w.cps.map up1).size = w.cps.size
    rw [Array.size_map]
  refine ⟨⟨fun c hc => ?_, by rw [e1]; exact h.ln⟩, e1⟩
  rw [e] at hc
  have hc' : c ∈ (w.cps.map up1).toList := hc
  rw [Array.toList_map] at hc'
  obtain ⟨d, hd, rfl⟩ := List.mem_map.mp hc'
  have := h.cl d hd
  unfold up1
  split <;> omega
def Rt (F : Rho → Out) (ρ : Rho) (p : PyData → Prop) : Prop := ∃ d, F ρ = .rt d ∧ p d
theorem rt_if {c : Rho → Res Bool} {E R : Rho → Out} {ρ : Rho} {b : Bool} {p : PyData → Prop} (hc : c ρ = .ok b) (h1 : b = true → Rt E ρ p) (h2 : b = false → Rt R ρ p) : Rt (sSeq (sIf c E sNext) R) ρ p := by
  unfold Rt at *
  cases b with
  | true =>
    obtain ⟨d, e, q⟩ := h1 rfl
    refine ⟨d, seq_rt ?_, q⟩
    rw [sIf_get, hc]
    exact e
  | false =>
    obtain ⟨d, e, q⟩ := h2 rfl
    refine ⟨d, (seq_nx (ρ' := ρ) ?_).trans e, q⟩
    rw [sIf_get, hc]
    rfl
theorem rt_ret {e : Rho → Res PyData} {ρ : Rho} {d : PyData} {p : PyData → Prop} (h : e (ρ.map frz1) = .ok d) (q : p d) : Rt (sRet e) ρ p := ⟨d, by rw [sRet_get, h]; rfl, q⟩
theorem rt_seq {F R : Rho → Out} {ρ ρ' : Rho} {p : PyData → Prop} (h : F ρ = .nx ρ') (q : Rt R ρ' p) : Rt (sSeq F R) ρ p := by
  obtain ⟨d, e, q⟩ := q
  exact ⟨d, (seq_nx h).trans e, q⟩
theorem asg_ok {e : Rho → Res PyData} {i : Nat} {ρ : Rho} {d : PyData} (h : e ρ = .ok d) : sAsg e (gNm i) ρ = .nx (ρ.set i (.d d)) := by
  rw [sAsg_get, h]
  rfl
end K92
end
section
set_option Elab.async false
set_option linter.all false
set_option maxRecDepth 100000
set_option maxHeartbeats 2000000
namespace K92
open PySem PySem.Spec PyProof.Rows L2 DL
/-! ### the spoilers: more pieces -/
section
variable {e f g i j e1 e2 : Rho → Res PyData} {ρ : Rho} {ws a b : List Str} {n k : Nat} {x y : Str}
theorem mid_ok (he : e ρ = .ok (encW ws)) (hi : i ρ = .ok (.int (n : Int))) (hg : g ρ = .ok (encW b)) (hj : j ρ = .ok (.int (k : Int))) (hl : ws.length + b.length ≤ 8000000) :
    o2 dAdd (o2 dAdd (oSl dSlice e oN (oS i)) g) (oSl dSlice e (oS j) oN) ρ = .ok (encW (ws.take n ++ b ++ ws.drop k)) := by
  refine cat_ok (cat_ok (sl_to he hi) hg ?_) (sl_from he hj) ?_
  · rw [List.length_take]; omega
  · rw [List.length_append, List.length_take, List.length_drop]; omega
theorem add_s (h1 : e1 ρ = .ok (.str x)) (h2 : e2 ρ = .ok (.str y)) (hl : x.length + y.length ≤ 16777216) : o2 dAdd e1 e2 ρ = .ok (.str (x ++ y)) := by
  rw [o2_get, h1, Res.ok_bind, h2, Res.ok_bind, dAdd_ss _ _ (by rw [sizeLine_eq]; exact hl)]
  rfl
theorem mod_ok {a n : Nat} (he : e ρ = .ok (.int (a : Int))) (hf : f ρ = .ok (.int (n : Int))) (hn : 0 < n) : o2 dMod (oA dInt (aC e aN)) f ρ = .ok (.int ((a % n : Nat) : Int)) := by
  have hm := dMod_ii (a : Int) (j := (n : Int)) (by omega)
  rw [o2_get, oA_get, aC_get, he]
  simp only [Res.ok_bind, aN_get, dInt_i, of_some]
  rw [hf, Res.ok_bind, hm, Int.natCast_emod]
  rfl
theorem len_ok (he : e ρ = .ok (encW ws)) : oA dLen (aC e aN) ρ = .ok (.int (ws.length : Int)) := by
  rw [oA_get, aC_get, he]
  simp only [Res.ok_bind, aN_get]
  unfold encW
  rw [dLen_l, List.length_map]
  rfl
theorem row_ok {row : List Int} {v : Int} (he : e ρ = .ok (encN row)) (hi : i ρ = .ok (.int (n : Int))) (h : row[n]? = some v) : o2 dIx e i ρ = .ok (.int v) := by
  have := ix_row h
  rw [o2_get, he, Res.ok_bind, hi, Res.ok_bind]
  show Res.of (dIx (.list (row.map .int)) (.int (n : Int))) = _
  rw [this]
  rfl
theorem rev_ok (he : e ρ = .ok (encW ws)) : o1 dListRev e ρ = .ok (encW ws.reverse) := by
  rw [o1_get, he, Res.ok_bind]
  unfold encW
  show Res.ok (PyData.list (ws.map PyData.str).reverse) = _
  rw [List.map_reverse]
theorem up_ok (he : e ρ = .ok (.str x)) (hl : x.length ≤ 5592405) : oM isStrD dUpper e aN ρ = .ok (.str (Txt.upper x)) := by
  have h : dUpper (.str x) [] = some (.str (Txt.upper x)) := gdt (decide_eq_true hl)
  rw [oM_get, he]
  simp only [isStr_s, if_true, Res.ok_bind, aN_get, h, of_some]
theorem num_ok (he : e ρ = .ok (.str x)) (hl : x.length ≤ 640) : eA (fun ds => noex (fn__law_number ds)) (aC e aN) ρ = .ok (.int (numOf x)) := by
  rw [eA_get, aC_get, he]
  simp only [Res.ok_bind, aN_get]
  rw [ev_law_number x hl]
  rfl
theorem abs_ok {v : Int} (he : e ρ = .ok (.int v)) (hl : v.natAbs < 10 ^ 500) : oA dStr (aC (oA dAbs (aC e aN)) aN) ρ = .ok (.str (numS (v.natAbs : Int))) := by
  have h1 : dAbs [.int v] = some (.int (v.natAbs : Int)) := by
    show some (PyData.int (if v < 0 then -v else v)) = _
    have : (if v < 0 then -v else v) = (v.natAbs : Int) := by split <;> omega
    rw [this]
  have h2 := dStr_num (n := (v.natAbs : Int)) (by omega) (by exact_mod_cast hl)
  rw [oA_get, aC_get, oA_get, aC_get, he]
  simp only [Res.ok_bind, aN_get, h1, of_some, h2]
theorem add_i {u v : Int} (h1 : e1 ρ = .ok (.int u)) (h2 : e2 ρ = .ok (.int v)) : o2 dAdd e1 e2 ρ = .ok (.int (u + v)) := by
  rw [o2_get, h1, Res.ok_bind, h2, Res.ok_bind]
  rfl
theorem eq_i {u v : Int} (h1 : e1 ρ = .ok (.int u)) (h2 : e2 ρ = .ok (.int v)) : tV dBool (o2 dEq e1 e2) ρ = .ok (decide (u = v)) := by
  rw [tV_get, o2_get, h1, Res.ok_bind, h2, Res.ok_bind, dEq_ii]
  rfl
theorem lt_i {u v : Int} (h1 : e1 ρ = .ok (.int u)) (h2 : e2 ρ = .ok (.int v)) : tV dBool (o2 dLt e1 e2) ρ = .ok (decide (u < v)) := by
  rw [tV_get, o2_get, h1, Res.ok_bind, h2, Res.ok_bind, dLt_ii]
  rfl
theorem in_i {u : Int} {l : List Int} (h1 : e1 ρ = .ok (.int u)) (h2 : e2 ρ = .ok (encN l)) : tV dBool (o2 dIn e1 e2) ρ = .ok (decide (u ∈ l)) := by
  have h : dIn (.int u) (encN l) = some (.bool (decide (u ∈ l))) := by
    unfold encN dIn dIsIn
    simp only
    have f1 : (l.map PyData.int).all flatD = true := by
      rw [List.all_map]
      exact List.all_eq_true.mpr fun _ _ => rfl
    have f2 : ((l.map PyData.int).any fun z => PyData.eqv z (.int u)) = decide (u ∈ l) := by
      rw [List.any_map]
      clear f1 h2
      induction l with
      | nil => exact (decide_eq_false (fun z => by cases z)).symm
      | cons a l ih =>
        rw [List.any_cons, ih]
        show (PyData.eqv (.int a) (.int u) || decide (u ∈ l)) = _
        simp only [PyData.eqv, bd]
        rw [← Bool.decide_or]
        refine decide_eq_decide.mpr ?_
        rw [List.mem_cons]
        exact ⟨fun z => z.elim (fun e => .inl e.symm) .inr, fun z => z.elim (fun e => .inl e.symm) .inr⟩
    rw [gdt (by rw [f1]; rfl), f2]
    rfl
  rw [tV_get, o2_get, h1, Res.ok_bind, h2, Res.ok_bind, h]
  rfl
theorem lens_ok (he : e ρ = .ok (.str x)) (hl : x.length ≤ 16777216) : oA dLen (aC e aN) ρ = .ok (.int (x.length : Int)) := by
  rw [oA_get, aC_get, he]
  simp only [Res.ok_bind, aN_get]
  rw [dLen_s x (by rw [sizeLine_eq]; exact hl)]
  rfl
end
theorem big_abs {w : Str} {m : Nat} (h : w.length ≤ m) {z : Int} (hz : z = 1 ∨ z = -1 ∨ z = 0) : (numOf w + z).natAbs < 10 ^ (m + 1) := by
  have hp : 10 ^ w.length ≤ 10 ^ m := Nat.pow_le_pow_right (by omega) h
  have hp1 : 1 ≤ 10 ^ m := Nat.one_le_pow _ _ (by omega)
  have e : 10 ^ (m + 1) = 10 ^ m * 10 := Nat.pow_succ ..
  unfold numOf
  split
  · rename_i hn
    have ⟨v0, v1⟩ := val_lt hn
    have v2 : val w < ((10 ^ w.length : Nat) : Int) := by rw [Int.natCast_pow]; exact v1
    omega
  · omega
theorem abs_wd {w : Str} {m : Nat} (h : w.length ≤ m) (hm : m ≤ 400) {z : Int} (hz : z = 1 ∨ z = -1 ∨ z = 0) : (numOf w + z).natAbs < 10 ^ 500 ∧ Wd (m + 1) (numS ((numOf w + z).natAbs : Int)) := by
  have h1 := big_abs h hz
  have hp : 10 ^ (m + 1) ≤ 10 ^ 500 := Nat.pow_le_pow_right (by omega) (by omega)
  refine ⟨Nat.lt_of_lt_of_le h1 hp, num_cl (by omega), shown_len (by omega) (by omega) ?_⟩
  exact_mod_cast h1
end K92
namespace K92
open PySem PySem.Spec PyProof.Rows L2 DL
theorem join_len0 : ∀ l : List Str, (Txt.join ("" : Str) l).length ≤ sumL l
  | [] => Nat.zero_le _
  | [x] => by
    rw [TL.join_eq]
    show x.length ≤ x.length + 1 + 0
    omega
  | x :: z :: r => by
    have ih := join_len0 (z :: r)
    rw [TL.join_eq] at ih ⊢
    have e : Str.join ("" : Str) (x :: z :: r) = x ++ ("" : Str) ++ Str.join ("" : Str) (z :: r) := rfl
    have e0 : ("" : Str).length = 0 := by decide +kernel
    rw [e, sumL_cons, Str.length_append, Str.length_append, e0]
    omega
theorem len1_ok {e : Rho → Res PyData} {ρ : Rho} {ws : List Str} (he : e ρ = .ok (encW ws)) : o2 dAdd (oA dLen (aC e aN)) (eC (.int 1)) ρ = .ok (.int ((ws.length + 1 : Nat) : Int)) := by
  rw [o2_get, len_ok he, Res.ok_bind, eC_get, Res.ok_bind]
  rfl
end K92
end
section
set_option Elab.async false
set_option linter.all false
set_option maxRecDepth 100000
set_option maxHeartbeats 2000000
namespace K92
open PySem PySem.Spec PyProof.Rows L2 DL
def swA0 : Rho → Out := (sAsg (o2 dIx (eA dLst (aC (eC (.str "")) (aC (eC (.str "0")) (aC (eC (.str "00")) (aC (eC (.str "1")) (aC (eC (.str "5")) (aC (eC (.str "-1")) (aC (eC (.str "+1")) (aC (eC (.str "1_0")) (aC (eC (.str "1.0")) (aC (eC (.str "x")) (aC (eC (.str "Row")) (aC (eC (.str "rows")) (aC (eC (.str "table")) (aC (eC (.str "row")) (aC (eC (.str "tables")) (aC (eC (.str "R")) (aC (eC (.str "a_b")) (aC (eC (.str "abcdefghi")) (aC (eC (.str "9a")) (aC (eC (.str "a-b")) (aC (eC (.str "(1)")) (aC (eC (.str "1,")) (aC (eC (.str "1000000000000000000000000000000")) (aC (eC (.str "4")) aN))))))))))))))))))))))))) (o2 dIx (eP 2) (eC (.int 3)))) (gNm 3))
def swA1 : Rho → Out := (sAsg (o2 dMod (oA dInt (aC (o2 dIx (eP 2) (eC (.int 2))) aN)) (oA dLen (aC (eP 1) aN))) (gNm 4))
def swT2 : Rho → Res Bool := (tV dBool (o2 dEq (eP 0) (eC (.int 5))))
def swE2 : Rho → Out := (sRet (o2 dAdd (o2 dAdd (oSl dSlice (eP 1) oN (oS (eP 4))) (eA dLst (aC (o2 dAdd (eC (.str "0")) (o2 dIx (eP 1) (eP 4))) aN))) (oSl dSlice (eP 1) (oS (o2 dAdd (eP 4) (eC (.int 1)))) oN)))
def swT3 : Rho → Res Bool := (tV dBool (o2 dEq (eP 0) (eC (.int 6))))
def swE3 : Rho → Out := (sSeq (sAsg (o2 dMod (oA dInt (aC (o2 dIx (eP 2) (eC (.int 2))) aN)) (o2 dAdd (oA dLen (aC (eP 1) aN)) (eC (.int 1)))) (gNm 5)) (sRet (o2 dAdd (o2 dAdd (oSl dSlice (eP 1) oN (oS (eP 5))) (eA dLst (aC (eC (.str "")) aN))) (oSl dSlice (eP 1) (oS (eP 5)) oN))))
def swT4 : Rho → Res Bool := (tV dBool (o2 dEq (eP 0) (eC (.int 7))))
def swE4 : Rho → Out := (sRet (o2 dAdd (o2 dAdd (oSl dSlice (eP 1) oN (oS (eP 4))) (eA dLst (aC (eV 3) aN))) (oSl dSlice (eP 1) (oS (o2 dAdd (eP 4) (eC (.int 1)))) oN)))
def swT5 : Rho → Res Bool := (tV dBool (o2 dEq (eP 0) (eC (.int 8))))
def swE5 : Rho → Out := (sRet (o2 dAdd (oSl dSlice (eP 1) oN (oS (eP 4))) (oSl dSlice (eP 1) (oS (o2 dAdd (eP 4) (eC (.int 1)))) oN)))
def swT6 : Rho → Res Bool := (tV dBool (o2 dEq (eP 0) (eC (.int 9))))
def swE6 : Rho → Out := (sRet (o2 dAdd (o2 dAdd (oSl dSlice (eP 1) oN (oS (eP 4))) (eA dLst (aC (o2 dIx (eP 1) (eP 4)) aN))) (oSl dSlice (eP 1) (oS (eP 4)) oN)))
def swT7 : Rho → Res Bool := (tV dBool (o2 dIn (eP 0) (eA dLst (aC (eC (.int 10)) (aC (eC (.int 11)) aN)))))
def swE7 : Rho → Out := (sSeq (sAsg (eA (fun ds => noex (fn__law_number ds)) (aC (o2 dIx (eP 1) (o1 dNeg (eC (.int 1)))) aN)) (gNm 6)) (sRet (o2 dAdd (oSl dSlice (eP 1) oN (oS (o1 dNeg (eC (.int 1))))) (eA dLst (aC (oA dStr (aC (oA dAbs (aC (o2 dAdd (eP 6) (o2 dIx (eA dLst (aC (eC (.int 1)) (aC (o1 dNeg (eC (.int 1))) aN))) (o2 dSub (eP 0) (eC (.int 10))))) aN)) aN)) aN)))))
def swT8 : Rho → Res Bool := (tV dBool (o2 dEq (eP 0) (eC (.int 12))))
def swE8 : Rho → Out := (sRet (o2 dAdd (oSl dSlice (eP 1) oN (oS (eC (.int 1)))) (o1 dListRev (oSl dSlice (eP 1) (oS (eC (.int 1))) oN))))
def swT9 : Rho → Res Bool := (tV dBool (o2 dEq (eP 0) (eC (.int 13))))
def swE9 : Rho → Out := (sRet (o2 dAdd (eA dLst (aC (eV 3) aN)) (oSl dSlice (eP 1) (oS (eC (.int 1))) oN)))
def swT10 : Rho → Res Bool := (tV dBool (o2 dEq (eP 0) (eC (.int 14))))
def swE10 : Rho → Out := (sRet (o2 dAdd (oSl dSlice (eP 1) oN (oS (o1 dNeg (eC (.int 1))))) (eA dLst (aC (eV 3) aN))))
def swT11 : Rho → Res Bool := (tV dBool (o2 dEq (eP 0) (eC (.int 15))))
def swE11 : Rho → Out := (sRet (o2 dAdd (o2 dAdd (oSl dSlice (eP 1) oN (oS (eP 4))) (eA dLst (aC (oM isStrD dUpper (o2 dIx (eP 1) (eP 4)) aN) aN))) (oSl dSlice (eP 1) (oS (o2 dAdd (eP 4) (eC (.int 1)))) oN)))
def swT12 : Rho → Res Bool := (tA (tV dBool (o2 dEq (eP 0) (eC (.int 16)))) (tV dBool (o2 dLt (oA dLen (aC (oM isStrD dJoin (eC (.str "")) (aC (oSl dSlice (eP 1) (oS (eP 4)) (oS (o2 dAdd (eP 4) (eC (.int 2))))) aN)) aN)) (eC (.int 37)))))
def swE12 : Rho → Out := (sRet (o2 dAdd (o2 dAdd (oSl dSlice (eP 1) oN (oS (eP 4))) (eA dLst (aC (oM isStrD dJoin (eC (.str "")) (aC (oSl dSlice (eP 1) (oS (eP 4)) (oS (o2 dAdd (eP 4) (eC (.int 2))))) aN)) aN))) (oSl dSlice (eP 1) (oS (o2 dAdd (eP 4) (eC (.int 2)))) oN)))
def swA13 : Rho → Out := (sRet (eV 1))
theorem sw_eq : F__law_spoilt_words = sSeq swA0 (sSeq swA1 (sSeq (sIf swT2 swE2 sNext) (sSeq (sIf swT3 swE3 sNext) (sSeq (sIf swT4 swE4 sNext) (sSeq (sIf swT5 swE5 sNext) (sSeq (sIf swT6 swE6 sNext) (sSeq (sIf swT7 swE7 sNext) (sSeq (sIf swT8 swE8 sNext) (sSeq (sIf swT9 swE9 sNext) (sSeq (sIf swT10 swE10 sNext) (sSeq (sIf swT11 swE11 sNext) (sSeq (sIf swT12 swE12 sNext) (swA13))))))))))))) := rfl
def odds : List Str := ["", "0", "00", "1", "5", "-1", "+1", "1_0", "1.0", "x", "Row", "rows", "table", "row", "tables", "R", "a_b", "abcdefghi", "9a", "a-b", "(1)", "1,", "1000000000000000000000000000000", "4"]
theorem odds_wd : ∀ o ∈ odds, Cl o ∧ o.length ≤ 31 := by decide +kernel
theorem odds_len : odds.length = 24 := rfl
abbrev sw0 (k : Int) (ws : List Str) (row : List Int) : Rho := [.d (.int k), .d (encW ws), .d (encN row), .u, .u, .u, .u]
abbrev sw1 (k : Int) (ws : List Str) (row : List Int) (o : Str) : Rho := [.d (.int k), .d (encW ws), .d (encN row), .d (.str o), .u, .u, .u]
abbrev sw2 (k : Int) (ws : List Str) (row : List Int) (o : Str) (w : Nat) : Rho := [.d (.int k), .d (encW ws), .d (encN row), .d (.str o), .d (.int (w : Int)), .u, .u]
def swS : List Int := [18, 997, 12, 24]
section
variable {k : Int} {ws : List Str} {row : List Int} {o x : Str} {w m S : Nat}
theorem sw_a0 (hd : Dg row swS) : ∃ o, (Cl o ∧ o.length ≤ 31) ∧ swA0 (sw0 k ws row) = .nx (sw1 k ws row o) := by
  obtain ⟨v, g, b⟩ := hd.nat (i := 3) (s := 24) rfl
  have hv : v < odds.length := by rw [odds_len]; omega
  obtain ⟨o, ho⟩ : ∃ o, odds[v]? = some o := ⟨odds[v], List.getElem?_eq_getElem hv⟩
  refine ⟨o, odds_wd o (List.mem_of_getElem? ho), ?_⟩
  have hl : dLst (odds.map .str) = .ok (encW odds) := dLst_ok _ (by rw [sizeLine_eq]; exact Nat.le_of_ble_eq_true rfl)
  unfold swA0
  exact asg_ok (ix_w hl (row_ok (n := 3) rfl rfl g) ho)
theorem sw_a1 (hd : Dg row swS) (hne : ws ≠ []) : ∃ w x, ws[w]? = some x ∧ swA1 (sw1 k ws row o) = .nx (sw2 k ws row o w) := by
  obtain ⟨v, g, b⟩ := hd.nat (i := 2) (s := 12) rfl
  have hl : 0 < ws.length := List.length_pos_iff.mpr hne
  have hm : v % ws.length < ws.length := Nat.mod_lt _ hl
  refine ⟨v % ws.length, ws[v % ws.length], List.getElem?_eq_getElem hm, ?_⟩
  unfold swA1
  exact asg_ok (mod_ok (row_ok (n := 2) rfl rfl g) (len_ok rfl) hl)
def swP (m S : Nat) (d : PyData) : Prop := ∃ ws', d = encW ws' ∧ Ws (m + 41) (S + m + 42) ws'
section
variable (h : Ws m S ws) (hS : S ≤ 1000000) (hm : m ≤ 400) (hx : ws[w]? = some x) (ho : Cl o ∧ o.length ≤ 31)
include h hS hm hx ho
theorem sw_len : ws.length ≤ 1000000 := by have := sumL_len ws; have := h.sum; omega
theorem sw_xw : Wd m x := h.wd x (List.mem_of_getElem? hx)
theorem sw_e2 : Rt swE2 (sw2 k ws row o w) (swP m S) := by
  have hl := sw_len h hS hm hx ho
  have hw := sw_xw h hS hm hx ho
  have h0 : ("0" : Str).length = 1 := by decide +kernel
  have c0 : Cl ("0" : Str) := by decide +kernel
  have hn : (("0" : Str) ++ x).length = 1 + x.length := by rw [Str.length_append, h0]
  have hxl := hw.ln
  unfold swE2
  refine rt_ret (d := encW (ws.take w ++ [("0" : Str) ++ x] ++ ws.drop (w + 1))) (mid_ok (k := w + 1) rfl rfl (one_ok (add_s rfl (ix_w rfl rfl hx) (by rw [h0]; omega))) rfl (by rw [List.length_singleton]; omega)) ⟨_, rfl, ?_⟩
  exact ((h.mono (k := m + 41) (by omega) (Nat.le_refl _)).mid (by omega) ⟨c0.app hw.cl, by omega⟩ (c := m + 1) (by omega)).mono (Nat.le_refl _) (by omega)
theorem sw_e3 (hd : Dg row swS) : Rt swE3 (sw2 k ws row o w) (swP m S) := by
  have hl := sw_len h hS hm hx ho
  obtain ⟨v, g, b⟩ := hd.nat (i := 2) (s := 12) rfl
  unfold swE3
  refine rt_seq (ρ' := [.d (.int k), .d (encW ws), .d (encN row), .d (.str o), .d (.int (w : Int)), .d (.int ((v % (ws.length + 1) : Nat) : Int)), .u]) (asg_ok (mod_ok (row_ok (n := 2) rfl rfl g) (len1_ok (ws := ws) rfl) (by omega))) ?_
  refine rt_ret (d := encW (ws.take (v % (ws.length + 1)) ++ [("" : Str)] ++ ws.drop (v % (ws.length + 1)))) (mid_ok rfl rfl (one_ok rfl) rfl (by rw [List.length_singleton]; omega)) ⟨_, rfl, ?_⟩
  exact ((h.mono (k := m + 41) (by omega) (Nat.le_refl _)).mid (Nat.le_refl _) ⟨by decide +kernel, Nat.le_trans (show ("" : Str).length ≤ 0 by decide +kernel) (Nat.zero_le _)⟩ (c := 0) (by decide +kernel)).mono (Nat.le_refl _) (by omega)
theorem sw_e4 : Rt swE4 (sw2 k ws row o w) (swP m S) := by
  have hl := sw_len h hS hm hx ho
  unfold swE4
  refine rt_ret (d := encW (ws.take w ++ [o] ++ ws.drop (w + 1))) (mid_ok (k := w + 1) rfl rfl (one_ok rfl) rfl (by rw [List.length_singleton]; omega)) ⟨_, rfl, ?_⟩
  exact ((h.mono (k := m + 41) (by omega) (Nat.le_refl _)).mid (by omega) ⟨ho.1, by omega⟩ (c := 31) (by omega)).mono (Nat.le_refl _) (by omega)
theorem sw_e5 : Rt swE5 (sw2 k ws row o w) (swP m S) := by
  have hl := sw_len h hS hm hx ho
  unfold swE5
  refine rt_ret (d := encW (ws.take w ++ ws.drop (w + 1))) (cat_ok (sl_to rfl rfl) (sl_from (n := w + 1) rfl rfl) (by rw [List.length_take, List.length_drop]; omega)) ⟨_, rfl, ?_⟩
  exact (h.cut (by omega)).mono (by omega) (by omega)
theorem sw_e6 : Rt swE6 (sw2 k ws row o w) (swP m S) := by
  have hl := sw_len h hS hm hx ho
  have hw := sw_xw h hS hm hx ho
  unfold swE6
  refine rt_ret (d := encW (ws.take w ++ [x] ++ ws.drop w)) (mid_ok rfl rfl (one_ok (ix_w rfl rfl hx)) rfl (by rw [List.length_singleton]; omega)) ⟨_, rfl, ?_⟩
  exact (h.mid (Nat.le_refl _) hw (c := m) hw.ln).mono (by omega) (by omega)
theorem sw_e8 : Rt swE8 (sw2 k ws row o w) (swP m S) := by
  have hl := sw_len h hS hm hx ho
  unfold swE8
  refine rt_ret (d := encW (ws.take 1 ++ (ws.drop 1).reverse)) (cat_ok (sl_to (n := 1) rfl rfl) (rev_ok (sl_from (n := 1) rfl rfl)) (by rw [List.length_take, List.length_reverse, List.length_drop]; omega)) ⟨_, rfl, fun z hz => ?_, ?_⟩
  · rcases List.mem_append.mp hz with q | q
    · exact (h.wd z (List.mem_of_mem_take q)).mono (by omega)
    · exact (h.wd z (List.mem_of_mem_drop (List.mem_reverse.mp q))).mono (by omega)
  · rw [sumL_app, sumL_rev, sumL_take]
    have := h.sum
    omega
theorem sw_e9 : Rt swE9 (sw2 k ws row o w) (swP m S) := by
  have hl := sw_len h hS hm hx ho
  unfold swE9
  refine rt_ret (d := encW ([o] ++ ws.drop 1)) (cat_ok (one_ok rfl) (sl_from (n := 1) rfl rfl) (by rw [List.length_singleton, List.length_drop]; omega)) ⟨_, rfl, ?_⟩
  exact ((Ws.one (m := m + 41) ⟨ho.1, by omega⟩ (c := 31) ho.2).app (h.drop.mono (by omega) (Nat.le_refl _))).mono (Nat.le_refl _) (by omega)
theorem sw_e10 : Rt swE10 (sw2 k ws row o w) (swP m S) := by
  have hl := sw_len h hS hm hx ho
  unfold swE10
  refine rt_ret (d := encW (ws.dropLast ++ [o])) (cat_ok (sl_init rfl) (one_ok rfl) (by rw [List.length_singleton, List.length_dropLast]; omega)) ⟨_, rfl, ?_⟩
  exact ((h.init.mono (k := m + 41) (by omega) (Nat.le_refl _)).app (Ws.one ⟨ho.1, by omega⟩ (c := 31) ho.2)).mono (Nat.le_refl _) (by omega)
theorem sw_e11 : Rt swE11 (sw2 k ws row o w) (swP m S) := by
  have hl := sw_len h hS hm hx ho
  have hw := sw_xw h hS hm hx ho
  obtain ⟨u1, u2⟩ := upper_wd hw
  unfold swE11
  refine rt_ret (d := encW (ws.take w ++ [Txt.upper x] ++ ws.drop (w + 1))) (mid_ok (k := w + 1) rfl rfl (one_ok (up_ok (ix_w rfl rfl hx) (by have := hw.ln; omega))) rfl (by rw [List.length_singleton]; omega)) ⟨_, rfl, ?_⟩
  exact (h.mid (by omega) u1 (c := m) u1.ln).mono (by omega) (by omega)
theorem sw_a13 : Rt swA13 (sw2 k ws row o w) (swP m S) := by
  unfold swA13
  exact rt_ret (d := encW ws) rfl ⟨_, rfl, h.mono (by omega) (by omega)⟩
theorem sw_e7 (hne : ws ≠ []) (hk : k = 10 ∨ k = 11) : Rt swE7 (sw2 k ws row o w) (swP m S) := by
  have hl := sw_len h hS hm hx ho
  obtain ⟨y, hy⟩ : ∃ y, ws.getLast? = some y := ⟨ws.getLast hne, List.getLast?_eq_some_getLast hne⟩
  have yw := h.wd y (List.mem_of_getLast? hy)
  have yl := yw.ln
  obtain ⟨z, hz, ez⟩ : ∃ z : Int, (z = 1 ∨ z = -1 ∨ z = 0) ∧ o2 dIx (eA dLst (aC (eC (.int 1)) (aC (o1 dNeg (eC (.int 1))) aN))) (o2 dSub (eP 0) (eC (.int 10))) [.d (.int k), .d (encW ws), .d (encN row), .d (.str o), .d (.int (w : Int)), .u, .d (.int (numOf y))] = .ok (.int z) := by
    have e : eA dLst (aC (eC (.int 1)) (aC (o1 dNeg (eC (.int 1))) aN)) [.d (.int k), .d (encW ws), .d (encN row), .d (.str o), .d (.int (w : Int)), .u, .d (.int (numOf y))] = .ok (encN [1, -1]) := lst_ints [1, -1] (by decide)
    rcases hk with rfl | rfl
    · exact ⟨1, by omega, row_ok (n := 0) e rfl rfl⟩
    · exact ⟨-1, by omega, row_ok (n := 1) e rfl rfl⟩
  obtain ⟨q1, q2⟩ := abs_wd yl hm hz
  unfold swE7
  refine rt_seq (ρ' := [.d (.int k), .d (encW ws), .d (encN row), .d (.str o), .d (.int (w : Int)), .u, .d (.int (numOf y))]) (asg_ok (num_ok (ix_wl (ws := ws) rfl hy) (by omega))) ?_
  refine rt_ret (d := encW (ws.dropLast ++ [numS ((numOf y + z).natAbs : Int)])) (cat_ok (sl_init rfl) (one_ok (abs_ok (add_i rfl ez) q1)) (by rw [List.length_singleton, List.length_dropLast]; omega)) ⟨_, rfl, ?_⟩
  exact ((h.init.mono (k := m + 41) (by omega) (Nat.le_refl _)).app (Ws.one (q2.mono (by omega)) (c := m + 1) q2.ln)).mono (Nat.le_refl _) (by omega)
theorem sw_j : oM isStrD dJoin (eC (.str "")) (aC (oSl dSlice (eP 1) (oS (eP 4)) (oS (o2 dAdd (eP 4) (eC (.int 2))))) aN) (sw2 k ws row o w) = .ok (.str (Txt.join ("" : Str) ((ws.drop w).take 2))) := by
  have hj : Ws m S ((ws.drop w).take 2) := h.drop.take
  exact join_w (by decide +kernel) (sl_mid (n := w) (d := 2) rfl rfl rfl) (by have := hj.sum; omega)
theorem sw_t12 : ∃ b, swT12 (sw2 k ws row o w) = .ok b ∧ (b = true → (Txt.join ("" : Str) ((ws.drop w).take 2)).length < 37) := by
  have e := sw_j (k := k) (row := row) h hS hm hx ho
  have hj : Ws m S ((ws.drop w).take 2) := h.drop.take
  have hlen : (Txt.join ("" : Str) ((ws.drop w).take 2)).length ≤ sumL ((ws.drop w).take 2) := join_len0 _
  unfold swT12
  rw [tA_get, eq_i (u := k) (v := 16) rfl rfl, Res.ok_bind]
  by_cases h16 : k = 16
  · rw [if_pos (decide_eq_true h16)]
    refine ⟨_, lt_i (lens_ok e (by have := hj.sum; omega)) rfl, fun z => ?_⟩
    have := of_decide_eq_true z
    omega
  · rw [if_neg (by rw [decide_eq_false h16]; decide)]
    exact ⟨false, rfl, fun z => by cases z⟩
theorem sw_e12 (hb : (Txt.join ("" : Str) ((ws.drop w).take 2)).length < 37) : Rt swE12 (sw2 k ws row o w) (swP m S) := by
  have hl := sw_len h hS hm hx ho
  have e := sw_j (k := k) (row := row) h hS hm hx ho
  have hj : Ws m S ((ws.drop w).take 2) := h.drop.take
  unfold swE12
  refine rt_ret (d := encW (ws.take w ++ [Txt.join ("" : Str) ((ws.drop w).take 2)] ++ ws.drop (w + 2))) (mid_ok (k := w + 2) rfl rfl (one_ok e) rfl (by rw [List.length_singleton]; omega)) ⟨_, rfl, ?_⟩
  have c0 : Cl ("" : Str) := by decide +kernel
  exact ((h.mono (k := m + 41) (by omega) (Nat.le_refl _)).mid (by omega) ⟨Cl.join c0 fun p hp => (hj.wd p hp).cl, by omega⟩ (c := 37) (by omega)).mono (Nat.le_refl _) (by omega)
end
theorem ev_spoilt_words (h : Ws m S ws) (hS : S ≤ 1000000) (hm : m ≤ 400) (hne : ws ≠ []) (hd : Dg row swS) :
    ∃ ws', fn__law_spoilt_words [.int k, encW ws, encN row] = .ok (encW ws') ∧ Ws (m + 41) (S + m + 42) ws' := by
  obtain ⟨o, ho, e1⟩ := sw_a0 (k := k) (ws := ws) hd
  obtain ⟨w, x, hx, e2⟩ := sw_a1 (k := k) (ws := ws) (o := o) hd hne
  have key : Rt F__law_spoilt_words (sw0 k ws row) (swP m S) := by
    rw [sw_eq]
    refine rt_seq e1 (rt_seq e2 ?_)
    refine rt_if (b := decide (k = 5)) (eq_i rfl rfl) (fun _ => sw_e2 h hS hm hx ho) fun _ => ?_
    refine rt_if (b := decide (k = 6)) (eq_i rfl rfl) (fun _ => sw_e3 h hS hm hx ho hd) fun _ => ?_
    refine rt_if (b := decide (k = 7)) (eq_i rfl rfl) (fun _ => sw_e4 h hS hm hx ho) fun _ => ?_
    refine rt_if (b := decide (k = 8)) (eq_i rfl rfl) (fun _ => sw_e5 h hS hm hx ho) fun _ => ?_
    refine rt_if (b := decide (k = 9)) (eq_i rfl rfl) (fun _ => sw_e6 h hS hm hx ho) fun _ => ?_
    refine rt_if (b := decide (k ∈ [10, 11])) (in_i rfl (lst_ints [10, 11] (by decide))) (fun z => sw_e7 h hS hm hx ho hne (by have := of_decide_eq_true z; simpa using this)) fun _ => ?_
    refine rt_if (b := decide (k = 12)) (eq_i rfl rfl) (fun _ => sw_e8 h hS hm hx ho) fun _ => ?_
    refine rt_if (b := decide (k = 13)) (eq_i rfl rfl) (fun _ => sw_e9 h hS hm hx ho) fun _ => ?_
    refine rt_if (b := decide (k = 14)) (eq_i rfl rfl) (fun _ => sw_e10 h hS hm hx ho) fun _ => ?_
    refine rt_if (b := decide (k = 15)) (eq_i rfl rfl) (fun _ => sw_e11 h hS hm hx ho) fun _ => ?_
    obtain ⟨b, t1, t2⟩ := sw_t12 (k := k) (row := row) h hS hm hx ho
    refine rt_if t1 (fun z => sw_e12 h hS hm hx ho (t2 z)) fun _ => ?_
    exact sw_a13 h hS hm hx ho
  obtain ⟨d, e, ws', rfl, q⟩ := key
  exact ⟨ws', run_rt rfl e, q⟩
end
end K92
end
section
set_option Elab.async false
set_option linter.all false
set_option maxRecDepth 100000
set_option maxHeartbeats 2000000
namespace K92
open PySem PySem.Spec PyProof.Rows L2 DL
def spA0 : Rho → Out := (sAsg (oA dInt (aC (o2 dIx (eP 1) (eC (.int 0))) aN)) (gNm 2))
def spT1 : Rho → Res Bool := (tV dBool (o2 dEq (oA dLen (aC (eP 0) aN)) (eC (.int 0))))
def spE1 : Rho → Out := (sRet (eA dLst (aC (eC (.str "row 1")) aN)))
def spA2 : Rho → Out := (sAsg (o2 dMod (oA dInt (aC (o2 dIx (eP 1) (eC (.int 1))) aN)) (oA dLen (aC (eP 0) aN))) (gNm 3))
def spT3 : Rho → Res Bool := (tV dBool (o2 dEq (eP 2) (eC (.int 0))))
def spE3 : Rho → Out := (sRet (o2 dAdd (o2 dAdd (o2 dAdd (oSl dSlice (eP 0) oN (oS (eP 3))) (oSl dSlice (eP 0) (oS (o2 dAdd (eP 3) (eC (.int 1)))) (oS (o2 dAdd (eP 3) (eC (.int 2)))))) (eA dLst (aC (o2 dIx (eP 0) (eP 3)) aN))) (oSl dSlice (eP 0) (oS (o2 dAdd (eP 3) (eC (.int 2)))) oN)))
def spT4 : Rho → Res Bool := (tV dBool (o2 dEq (eP 2) (eC (.int 1))))
def spE4 : Rho → Out := (sRet (o2 dAdd (o2 dAdd (oSl dSlice (eP 0) oN (oS (eP 3))) (eA dLst (aC (o2 dIx (eP 0) (eP 3)) aN))) (oSl dSlice (eP 0) (oS (eP 3)) oN)))
def spT5 : Rho → Res Bool := (tV dBool (o2 dEq (eP 2) (eC (.int 2))))
def spE5 : Rho → Out := (sRet (o2 dAdd (oSl dSlice (eP 0) oN (oS (eP 3))) (oSl dSlice (eP 0) (oS (o2 dAdd (eP 3) (eC (.int 1)))) oN)))
def spT6 : Rho → Res Bool := (tV dBool (o2 dEq (eP 2) (eC (.int 3))))
def spE6 : Rho → Out := (sSeq (sAsg (o2 dMod (oA dInt (aC (o2 dIx (eP 1) (eC (.int 1))) aN)) (o2 dAdd (oA dLen (aC (eP 0) aN)) (eC (.int 1)))) (gNm 4)) (sRet (o2 dAdd (o2 dAdd (oSl dSlice (eP 0) oN (oS (eP 4))) (eA dLst (aC (eC (.str "")) aN))) (oSl dSlice (eP 0) (oS (eP 4)) oN))))
def spT7 : Rho → Res Bool := (tV dBool (o2 dEq (eP 2) (eC (.int 4))))
def spE7 : Rho → Out := (sRet (o2 dAdd (oSl dSlice (eP 0) (oS (eP 3)) oN) (oSl dSlice (eP 0) oN (oS (eP 3)))))
def spA8 : Rho → Out := (sRet (o2 dAdd (o2 dAdd (oSl dSlice (eP 0) oN (oS (eP 3))) (eA dLst (aC (oM isStrD dJoin (eC (.str " ")) (aC (eA (fun ds => noex (fn__law_spoilt_words ds)) (aC (eV 2) (aC (oM isStrD dSplit (o2 dIx (eP 0) (eP 3)) (aC (eC (.str " ")) aN)) (aC (eV 1) aN)))) aN)) aN))) (oSl dSlice (eP 0) (oS (o2 dAdd (eP 3) (eC (.int 1)))) oN)))
theorem sp_eq : F__law_spoilt = sSeq spA0 (sSeq (sIf spT1 spE1 sNext) (sSeq spA2 (sSeq (sIf spT3 spE3 sNext) (sSeq (sIf spT4 spE4 sNext) (sSeq (sIf spT5 spE5 sNext) (sSeq (sIf spT6 spE6 sNext) (sSeq (sIf spT7 spE7 sNext) (spA8)))))))) := rfl
section
variable {m S c : Nat} {ls : List Str} {x : Str} {i j : Nat}
theorem Ls.take (h : Ls m S ls) : Ls m S (ls.take i) := ⟨fun w hw => h.ln w (List.mem_of_mem_take hw), by have := sumL_take ls i; have := h.sum; omega⟩
theorem Ls.drop (h : Ls m S ls) : Ls m S (ls.drop i) := ⟨fun w hw => h.ln w (List.mem_of_mem_drop hw), by have := sumL_take ls i; have := h.sum; omega⟩
theorem Ls.app {T : Nat} {vs : List Str} (h : Ls m S ls) (k : Ls m T vs) : Ls m (S + T) (ls ++ vs) := ⟨fun w hw => (List.mem_append.mp hw).elim (h.ln w) (k.ln w), by rw [sumL_app]; have := h.sum; have := k.sum; omega⟩
theorem Ls.one (h : Ln m x) (hc : x.length ≤ c) : Ls m (c + 1) [x] := ⟨fun w hw => by rw [List.mem_singleton.mp hw]; exact h, by rw [sumL_cons]; show x.length + 1 + 0 ≤ c + 1; omega⟩
theorem Ls.cut (h : Ls m S ls) (hij : i ≤ j) : Ls m S (ls.take i ++ ls.drop j) := ⟨fun w hw => (List.mem_append.mp hw).elim (fun z => h.ln w (List.mem_of_mem_take z)) (fun z => h.ln w (List.mem_of_mem_drop z)), by
  rw [sumL_app]; have := sumL_take ls i; have := sumL_drop ls hij; have := h.sum; omega⟩
theorem Ls.mid (h : Ls m S ls) (hij : i ≤ j) (hx : Ln m x) (hc : x.length ≤ c) : Ls m (S + (c + 1)) (ls.take i ++ [x] ++ ls.drop j) := by
  have h1 := h.cut hij
  have h2 := Ls.one hx hc
  refine ⟨fun w hw => ?_, ?_⟩
  · rcases List.mem_append.mp hw with z | z
    · rcases List.mem_append.mp z with z | z
      · exact h.ln w (List.mem_of_mem_take z)
      · exact h2.ln w z
    · exact h.ln w (List.mem_of_mem_drop z)
  · have q := h1.sum
    have p := h2.sum
    rw [sumL_app] at q
    rw [sumL_app, sumL_app]
    omega
theorem Ls.len (h : Ls m S ls) (hx : ls[i]? = some x) : x.length + 1 ≤ S := Nat.le_trans (sumL_mem (List.mem_of_getElem? hx)) h.sum
end
theorem row1_ln : Ln 3 ("row 1" : Str) := ⟨by decide +kernel, by decide +kernel⟩
theorem empty_ln : Ln 0 ("" : Str) := ⟨by decide +kernel, by decide +kernel⟩
abbrev spr0 (ls : List Str) (row : List Int) : Rho := [.d (encW ls), .d (encN row), .u, .u, .u]
abbrev spr1 (ls : List Str) (row : List Int) (k : Nat) : Rho := [.d (encW ls), .d (encN row), .d (.int (k : Int)), .u, .u]
abbrev spr2 (ls : List Str) (row : List Int) (k w : Nat) : Rho := [.d (encW ls), .d (encN row), .d (.int (k : Int)), .d (.int (w : Int)), .u]
def spP (m S : Nat) (d : PyData) : Prop := ∃ ws', d = encW ws' ∧ Ls (m + 41) (2 * S + m + 100) ws' ∧ ws'.length ≤ 2000000
section
variable {k w m S : Nat} {ls : List Str} {row : List Int} {x : Str}
theorem asg_int {e : Rho → Res PyData} {i : Nat} {ρ : Rho} {v : Int} (h : e ρ = .ok (.int v)) : sAsg (oA dInt (aC e aN)) (gNm i) ρ = .nx (ρ.set i (.d (.int v))) := by
  refine asg_ok ?_
  rw [oA_get, aC_get, h]
  rfl
theorem sp_a0 (hd : Dg row swS) : ∃ k : Nat, spA0 (spr0 ls row) = .nx (spr1 ls row k) := by
  obtain ⟨v, g, b⟩ := hd.nat (i := 0) (s := 18) rfl
  refine ⟨v, ?_⟩
  unfold spA0
  exact asg_int (row_ok (n := 0) rfl rfl g)
theorem sp_a2 (hd : Dg row swS) (hne : ls ≠ []) : ∃ w x, ls[w]? = some x ∧ spA2 (spr1 ls row k) = .nx (spr2 ls row k w) := by
  obtain ⟨v, g, b⟩ := hd.nat (i := 1) (s := 997) rfl
  have hl : 0 < ls.length := List.length_pos_iff.mpr hne
  have hm : v % ls.length < ls.length := Nat.mod_lt _ hl
  refine ⟨v % ls.length, ls[v % ls.length], List.getElem?_eq_getElem hm, ?_⟩
  unfold spA2
  exact asg_ok (mod_ok (row_ok (n := 1) rfl rfl g) (len_ok rfl) hl)
theorem spP_of {ws' : List Str} {T : Nat} (h : Ls (m + 41) T ws') (hT : T ≤ 2 * S + m + 100) (hS : S ≤ 900000) (hm : m ≤ 400) : spP m S (encW ws') := ⟨ws', rfl, h.mono (Nat.le_refl _) hT, by have := sumL_len ws'; have := h.sum; omega⟩
section
variable (h : Ls m S ls) (hS : S ≤ 900000) (hm : m ≤ 400)
include h hS hm
theorem sp_len : ls.length ≤ 1000000 := by have := sumL_len ls; have := h.sum; omega
theorem sp_e1 : Rt spE1 (spr1 ls row k) (spP m S) := by
  unfold spE1
  refine rt_ret (d := encW [("row 1" : Str)]) (one_ok rfl) (spP_of (Ls.one (row1_ln.mono (by omega)) (c := 5) (by decide +kernel)) (by omega) hS hm)
variable (hx : ls[w]? = some x)
include hx
theorem sp_e3 : Rt spE3 (spr2 ls row k w) (spP m S) := by
  have hl := sp_len h hS hm
  have hw := h.ln x (List.mem_of_getElem? hx)
  have hxl := h.len hx
  unfold spE3
  refine rt_ret (d := encW (ls.take w ++ (ls.drop (w + 1)).take 1 ++ [x] ++ ls.drop (w + 2))) (cat_ok (cat_ok (cat_ok (sl_to rfl rfl) (sl_mid (n := w + 1) (d := 1) rfl rfl rfl) ?_) (one_ok (ix_w rfl rfl hx)) ?_) (sl_from (n := w + 2) rfl rfl) ?_) (spP_of (T := S + S) ⟨fun z hz => ?_, ?_⟩ (by omega) hS hm)
  · rw [List.length_take, List.length_take]; omega
  · rw [List.length_append, List.length_take, List.length_take, List.length_singleton]; omega
  · simp only [List.length_append, List.length_take, List.length_singleton, List.length_drop]; omega
  · refine (h.ln z ?_).mono (by omega)
    rcases List.mem_append.mp hz with q | q
    · rcases List.mem_append.mp q with q | q
      · rcases List.mem_append.mp q with q | q
        · exact List.mem_of_mem_take q
        · exact List.mem_of_mem_drop (List.mem_of_mem_take q)
      · rw [List.mem_singleton.mp q]; exact List.mem_of_getElem? hx
    · exact List.mem_of_mem_drop q
  · have q1 := sumL_take ls w
    have q2 := sumL_take (ls.drop (w + 1)) 1
    have q3 := sumL_drop ls (show w ≤ w + 1 by omega)
    have q4 : (ls.drop (w + 1)).drop 1 = ls.drop (w + 2) := List.drop_drop
    have q5 := h.sum
    rw [q4] at q2
    rw [sumL_app, sumL_app, sumL_app, sumL_cons]
    have q6 : sumL [] = 0 := rfl
    omega
theorem sp_e4 : Rt spE4 (spr2 ls row k w) (spP m S) := by
  have hl := sp_len h hS hm
  have hw := h.ln x (List.mem_of_getElem? hx)
  have hxl := h.len hx
  unfold spE4
  exact rt_ret (d := encW (ls.take w ++ [x] ++ ls.drop w)) (mid_ok rfl rfl (one_ok (ix_w rfl rfl hx)) rfl (by rw [List.length_singleton]; omega)) (spP_of ((h.mid (Nat.le_refl _) hw (c := x.length) (Nat.le_refl _)).mono (by omega) (Nat.le_refl _)) (by omega) hS hm)
theorem sp_e5 : Rt spE5 (spr2 ls row k w) (spP m S) := by
  have hl := sp_len h hS hm
  unfold spE5
  exact rt_ret (d := encW (ls.take w ++ ls.drop (w + 1))) (cat_ok (sl_to rfl rfl) (sl_from (n := w + 1) rfl rfl) (by rw [List.length_take, List.length_drop]; omega)) (spP_of ((h.cut (by omega)).mono (by omega) (Nat.le_refl _)) (by omega) hS hm)
theorem sp_e6 (hd : Dg row swS) : Rt spE6 (spr2 ls row k w) (spP m S) := by
  have hl := sp_len h hS hm
  obtain ⟨v, g, b⟩ := hd.nat (i := 1) (s := 997) rfl
  unfold spE6
  refine rt_seq (ρ' := [.d (encW ls), .d (encN row), .d (.int (k : Int)), .d (.int (w : Int)), .d (.int ((v % (ls.length + 1) : Nat) : Int))]) (asg_ok (mod_ok (row_ok (n := 1) rfl rfl g) (len1_ok (ws := ls) rfl) (by omega))) ?_
  exact rt_ret (d := encW (ls.take (v % (ls.length + 1)) ++ [("" : Str)] ++ ls.drop (v % (ls.length + 1)))) (mid_ok rfl rfl (one_ok rfl) rfl (by rw [List.length_singleton]; omega)) (spP_of ((h.mono (k := m + 41) (by omega) (Nat.le_refl _)).mid (Nat.le_refl _) (empty_ln.mono (by omega)) (c := 0) (by decide +kernel)) (by omega) hS hm)
theorem sp_e7 : Rt spE7 (spr2 ls row k w) (spP m S) := by
  have hl := sp_len h hS hm
  unfold spE7
  exact rt_ret (d := encW (ls.drop w ++ ls.take w)) (cat_ok (sl_from rfl rfl) (sl_to rfl rfl) (by rw [List.length_take, List.length_drop]; omega)) (spP_of ((h.drop.mono (k := m + 41) (by omega) (Nat.le_refl _)).app (h.take.mono (by omega) (Nat.le_refl _))) (by omega) hS hm)
theorem sp_a8 (hd : Dg row swS) : Rt spA8 (spr2 ls row k w) (spP m S) := by
  have hl := sp_len h hS hm
  have hw := h.ln x (List.mem_of_getElem? hx)
  have hxl := h.len hx
  obtain ⟨ws', e, q⟩ := ev_spoilt_words (k := (k : Int)) hw.ws (by omega) hm (split_ne x SP sp_ne sp_k) hd
  have ql := q.line
  have e1 : eA (fun ds => noex (fn__law_spoilt_words ds)) (aC (eV 2) (aC (oM isStrD dSplit (o2 dIx (eP 0) (eP 3)) (aC (eC (.str " ")) aN)) (aC (eV 1) aN))) (spr2 ls row k w) = .ok (encW ws') := by
    have e2 := split_w (e := o2 dIx (eP 0) (eP 3)) (ρ := spr2 ls row k w) (ix_w rfl rfl hx) (by omega)
    have e3 : eV 2 (spr2 ls row k w) = .ok (.int (k : Int)) := rfl
    have e4 : eV 1 (spr2 ls row k w) = .ok (encN row) := rfl
    rw [eA_get, aC_get, e3, aC_get, e2, aC_get, e4]
    simp only [Res.ok_bind, aN_get]
    rw [e]
    rfl
  have e0 := join_w (y := SP) (by decide +kernel) e1 (by have := q.sum; omega)
  unfold spA8
  exact rt_ret (d := encW (ls.take w ++ [Txt.join SP ws'] ++ ls.drop (w + 1))) (mid_ok (k := w + 1) rfl rfl (one_ok e0) rfl (by rw [List.length_singleton]; omega)) (spP_of ((h.mono (k := m + 41) (by omega) (Nat.le_refl _)).mid (by omega) ql.1 (c := x.length + 1 + m + 42) ql.2) (by omega) hS hm)
end
theorem ev_spoilt (h : Ls m S ls) (hS : S ≤ 900000) (hm : m ≤ 400) (hd : Dg row swS) :
    ∃ ws', fn__law_spoilt [encW ls, encN row] = .ok (encW ws') ∧ Ls (m + 41) (2 * S + m + 100) ws' := by
  obtain ⟨k, e1⟩ := sp_a0 (ls := ls) hd
  have key : Rt F__law_spoilt (spr0 ls row) (spP m S) := by
    rw [sp_eq]
    refine rt_seq e1 ?_
    refine rt_if (b := decide ((ls.length : Int) = 0)) (eq_i (len_ok rfl) rfl) (fun _ => sp_e1 h hS hm) fun hb => ?_
    have hne : ls ≠ [] := fun z => by
      rw [z] at hb
      exact absurd hb (by decide)
    obtain ⟨w, x, hx, e2⟩ := sp_a2 (k := k) (ls := ls) hd hne
    refine rt_seq e2 ?_
    refine rt_if (b := decide ((k : Int) = 0)) (eq_i rfl rfl) (fun _ => sp_e3 h hS hm hx) fun _ => ?_
    refine rt_if (b := decide ((k : Int) = 1)) (eq_i rfl rfl) (fun _ => sp_e4 h hS hm hx) fun _ => ?_
    refine rt_if (b := decide ((k : Int) = 2)) (eq_i rfl rfl) (fun _ => sp_e5 h hS hm hx) fun _ => ?_
    refine rt_if (b := decide ((k : Int) = 3)) (eq_i rfl rfl) (fun _ => sp_e6 h hS hm hx hd) fun _ => ?_
    refine rt_if (b := decide ((k : Int) = 4)) (eq_i rfl rfl) (fun _ => sp_e7 h hS hm hx) fun _ => ?_
    exact sp_a8 h hS hm hx hd
  obtain ⟨d, e, ws', rfl, q, _⟩ := key
  exact ⟨ws', run_rt rfl e, q⟩
end
end K92
end
section
set_option Elab.async false
set_option linter.all false
set_option maxRecDepth 100000
set_option maxHeartbeats 2000000
namespace K92
open PySem PySem.Spec PyProof.Rows L2 DL
def amA0 : Rho → Out := (sAsg (eA dLst (aC (eC (.str "abcdefghi")) (aC (eC (.str "Abc")) (aC (eC (.str "9a")) (aC (eC (.str "a_b")) (aC (eC (.str "")) (aC (eC (.str "a-b")) (aC (eC (.str "a.")) (aC (eC (.str "zZ")) (aC (eC (.str "r r")) (aC (eC (.str "_a")) (aC (eC (.str "abcdefghij")) (aC (eC (.str "R")) (aC (eC (.str "0")) (aC (eC (.str "a+")) (aC (eC (.str "1r")) (aC (eC (.str "(r)")) aN))))))))))))))))) (gNm 2))
def amA1 : Rho → Out := (sAsg (eA dLst (aC (eC (.str "0")) (aC (eC (.str "5")) (aC (eC (.str "04")) (aC (eC (.str "")) (aC (eC (.str "+1")) (aC (eC (.str "-1")) (aC (eC (.str "1.0")) (aC (eC (.str "10")) (aC (eC (.str "x")) (aC (eC (.str "2 2")) (aC (eC (.str "6")) (aC (eC (.str "00")) (aC (eC (.str "1_0")) (aC (eC (.str "four")) (aC (eC (.str "02")) (aC (eC (.str "3,")) aN))))))))))))))))) (gNm 3))
def amA2 : Rho → Out := (sAsg (eA dLst (aC (eC (.str "01")) (aC (eC (.str "00")) (aC (eC (.str "+1")) (aC (eC (.str "-1")) (aC (eC (.str "1_0")) (aC (eC (.str "1.0")) (aC (eC (.str "x")) (aC (eC (.str "")) (aC (eC (.str "1e3")) (aC (eC (.str "0x1")) (aC (eC (.str "0 1")) (aC (eC (.str "-0")) (aC (eC (.str "one")) (aC (eC (.str "1,")) (aC (eC (.str "(1)")) (aC (eC (.str "007")) aN))))))))))))))))) (gNm 4))
def amA3 : Rho → Out := (sAsg (eA dLst (aC (eC (.str "tables")) (aC (eC (.str "Table")) (aC (eC (.str "tabl")) (aC (eC (.str "")) (aC (eC (.str "row")) (aC (eC (.str "TABLE")) (aC (eC (.str "store")) (aC (eC (.str " table")) (aC (eC (.str "t")) (aC (eC (.str "table:")) (aC (eC (.str "rows")) (aC (eC (.str "ROW")) (aC (eC (.str "Row")) (aC (eC (.str "ro")) (aC (eC (.str "due")) (aC (eC (.str "x")) aN))))))))))))))))) (gNm 5))
def amA4 : Rho → Out := (sAsg (oA dInt (aC (o2 dIx (eP 1) (eC (.int 0))) aN)) (gNm 6))
def amA5 : Rho → Out := (sAsg (eIf (tV dBool (o2 dLt (eP 6) (eC (.int 7)))) (eC (.str "table")) (eC (.str "row"))) (gNm 7))
def amA6 : Rho → Out := (sAsg (eComp (iRange1 (oA dLen (aC (eP 0) aN))) [13] (gNm 13) (tV dBool (o2 dEq (o2 dIx (oM isStrD dSplit (o2 dIx (eP 0) (eP 13)) (aC (eC (.str " ")) aN)) (eC (.int 0))) (eP 7))) (kOne (eV 13))) (gNm 8))
def amT7 : Rho → Res Bool := (tV dBool (o2 dEq (oA dLen (aC (eP 8) aN)) (eC (.int 0))))
def amE7 : Rho → Out := (sRet (o2 dAdd (eP 0) (eA dLst (aC (eC (.str "row 1")) aN))))
def amA8 : Rho → Out := (sAsg (o2 dIx (eP 8) (o2 dMod (oA dInt (aC (o2 dIx (eP 1) (eC (.int 1))) aN)) (oA dLen (aC (eP 8) aN)))) (gNm 9))
def amA9 : Rho → Out := (sAsg (oM isStrD dSplit (o2 dIx (eP 0) (eP 9)) (aC (eC (.str " ")) aN)) (gNm 10))
def amA10 : Rho → Out := (sAsg (o2 dAdd (eC (.int 1)) (o2 dMod (oA dInt (aC (o2 dIx (eP 1) (eC (.int 2))) aN)) (oA dMax2 (aC (o2 dSub (oA dLen (aC (eP 10) aN)) (eC (.int 1))) (aC (eC (.int 1)) aN))))) (gNm 11))
def amA11 : Rho → Out := (sAsg (oM isStrD dSplit (o2 dIx (eP 0) (o2 dIx (eP 8) (o2 dSub (o2 dMod (oA dInt (aC (o2 dIx (eP 1) (eC (.int 1))) aN)) (oA dLen (aC (eP 8) aN))) (eC (.int 1))))) (aC (eC (.str " ")) aN)) (gNm 12))
def amT12_0 : Rho → Res Bool := (tV dBool (o2 dLt (eP 6) (eC (.int 2))))
def amE12_0 : Rho → Out := (sAsg (o2 dAdd (o2 dAdd (oSl dSlice (eP 10) oN (oS (eC (.int 1)))) (eA dLst (aC (o2 dIx (eP 2) (o2 dIx (eP 1) (eC (.int 3)))) aN))) (oSl dSlice (eP 10) (oS (eC (.int 2))) oN)) (gNm 10))
def amT12_1 : Rho → Res Bool := (tV dBool (o2 dLt (eP 6) (eC (.int 4))))
def amE12_1 : Rho → Out := (sAsg (o2 dAdd (oSl dSlice (eP 10) oN (oS (eC (.int 2)))) (eA dLst (aC (o2 dIx (eP 3) (o2 dIx (eP 1) (eC (.int 3)))) aN))) (gNm 10))
def amT12_2 : Rho → Res Bool := (tV dBool (o2 dIn (eP 6) (eA dLst (aC (eC (.int 4)) (aC (eC (.int 10)) aN)))))
def amE12_2 : Rho → Out := (sAsg (o2 dAdd (eA dLst (aC (o2 dIx (eP 5) (o2 dIx (eP 1) (eC (.int 3)))) aN)) (oSl dSlice (eP 10) (oS (eC (.int 1))) oN)) (gNm 10))
def amT12_3 : Rho → Res Bool := (tV dBool (o2 dIn (eP 6) (eA dLst (aC (eC (.int 5)) (aC (eC (.int 11)) aN)))))
def amE12_3 : Rho → Out := (sAsg (o2 dIx (eA dLst (aC (oSl dSlice (eP 10) oN (oS (o1 dNeg (eC (.int 1))))) (aC (o2 dAdd (eP 10) (eA dLst (aC (eC (.str "1")) aN))) (aC (o2 dAdd (eP 10) (eA dLst (aC (eC (.str "")) aN))) (aC (o2 dAdd (eA dLst (aC (eC (.str "")) aN)) (eP 10)) aN))))) (o2 dMod (oA dInt (aC (o2 dIx (eP 1) (eC (.int 3))) aN)) (eC (.int 4)))) (gNm 10))
def amT12_4 : Rho → Res Bool := (tV dBool (o2 dEq (eP 6) (eC (.int 6))))
def amE12_4 : Rho → Out := (sAsg (o2 dAdd (o2 dAdd (oSl dSlice (eP 10) oN (oS (eC (.int 1)))) (oSl dSlice (eP 12) (oS (eC (.int 1))) (oS (eC (.int 2))))) (oSl dSlice (eP 10) (oS (eC (.int 2))) oN)) (gNm 10))
def amT12_5 : Rho → Res Bool := (tV dBool (o2 dIn (eP 6) (eA dLst (aC (eC (.int 7)) (aC (eC (.int 8)) (aC (eC (.int 9)) aN))))))
def amE12_5 : Rho → Out := (sAsg (o2 dAdd (o2 dAdd (oSl dSlice (eP 10) oN (oS (eP 11))) (eA dLst (aC (o2 dIx (eP 4) (o2 dIx (eP 1) (eC (.int 3)))) aN))) (oSl dSlice (eP 10) (oS (o2 dAdd (eP 11) (eC (.int 1)))) oN)) (gNm 10))
def amT12_6 : Rho → Res Bool := (tV dBool (o2 dEq (eP 6) (eC (.int 12))))
def amE12_6 : Rho → Out := (sRet (o2 dAdd (o2 dAdd (oSl dSlice (eP 0) oN (oS (o2 dAdd (eP 9) (eC (.int 1))))) (eA dLst (aC (o2 dIx (eA dLst (aC (o2 dIx (eP 0) (eP 9)) (aC (oM isStrD dJoin (eC (.str " ")) (aC (eP 12) aN)) aN))) (o2 dMod (oA dInt (aC (o2 dIx (eP 1) (eC (.int 3))) aN)) (eC (.int 2)))) aN))) (oSl dSlice (eP 0) (oS (o2 dAdd (eP 9) (eC (.int 1)))) oN)))
def amZ12 : Rho → Out := (sSeq (sAsg (o2 dAdd (oSl dSlice (eP 10) oN (oS (o1 dNeg (eC (.int 1))))) (eA dLst (aC (oA dStr (aC (oA dAbs (aC (o2 dAdd (eA (fun ds => noex (fn__law_number ds)) (aC (o2 dIx (eP 10) (o1 dNeg (eC (.int 1)))) aN)) (o2 dIx (eA dLst (aC (eC (.int 1)) (aC (o1 dNeg (eC (.int 1))) (aC (eC (.int 0)) aN)))) (o2 dMod (oA dInt (aC (o2 dIx (eP 1) (eC (.int 3))) aN)) (eC (.int 3))))) aN)) aN)) aN))) (gNm 10)) (sRet (o2 dAdd (o2 dAdd (oSl dSlice (eP 0) oN (oS (o2 dAdd (eP 9) (eC (.int 1))))) (eA dLst (aC (oM isStrD dJoin (eC (.str " ")) (aC (eP 10) aN)) aN))) (oSl dSlice (eP 0) (oS (o2 dAdd (eP 9) (eC (.int 1)))) oN))))
def amA12 : Rho → Out := sIf amT12_0 amE12_0 (sIf amT12_1 amE12_1 (sIf amT12_2 amE12_2 (sIf amT12_3 amE12_3 (sIf amT12_4 amE12_4 (sIf amT12_5 amE12_5 (sIf amT12_6 amE12_6 (amZ12)))))))
def amA13 : Rho → Out := (sRet (o2 dAdd (o2 dAdd (oSl dSlice (eP 0) oN (oS (eP 9))) (eA dLst (aC (oM isStrD dJoin (eC (.str " ")) (aC (eP 10) aN)) aN))) (oSl dSlice (eP 0) (oS (o2 dAdd (eP 9) (eC (.int 1)))) oN)))
theorem am_eq : F__law_aimed = sSeq amA0 (sSeq amA1 (sSeq amA2 (sSeq amA3 (sSeq amA4 (sSeq amA5 (sSeq amA6 (sSeq (sIf amT7 amE7 sNext) (sSeq amA8 (sSeq amA9 (sSeq amA10 (sSeq amA11 (sSeq amA12 (amA13))))))))))))) := rfl
def amN : List Str := ["abcdefghi", "Abc", "9a", "a_b", "", "a-b", "a.", "zZ", "r r", "_a", "abcdefghij", "R", "0", "a+", "1r", "(r)"]
def amW : List Str := ["0", "5", "04", "", "+1", "-1", "1.0", "10", "x", "2 2", "6", "00", "1_0", "four", "02", "3,"]
def amD : List Str := ["01", "00", "+1", "-1", "1_0", "1.0", "x", "", "1e3", "0x1", "0 1", "-0", "one", "1,", "(1)", "007"]
def amH : List Str := ["tables", "Table", "tabl", "", "row", "TABLE", "store", " table", "t", "table:", "rows", "ROW", "Row", "ro", "due", "x"]
theorem amN_ok : amN.length = 16 ∧ ∀ o ∈ amN, Cl o ∧ o.length ≤ 31 := ⟨rfl, by decide +kernel⟩
theorem amW_ok : amW.length = 16 ∧ ∀ o ∈ amW, Cl o ∧ o.length ≤ 31 := ⟨rfl, by decide +kernel⟩
theorem amD_ok : amD.length = 16 ∧ ∀ o ∈ amD, Cl o ∧ o.length ≤ 31 := ⟨rfl, by decide +kernel⟩
theorem amH_ok : amH.length = 16 ∧ ∀ o ∈ amH, Cl o ∧ o.length ≤ 31 := ⟨rfl, by decide +kernel⟩
theorem lst_w (l : List Str) (h : l.length ≤ 100) : dLst (l.map .str) = .ok (encW l) := dLst_ok _ (by rw [List.length_map, sizeLine_eq]; omega)
def amS : List Int := [14, 997, 16, 16]
def encP (ps : List Nat) : PyData := encN (ps.map fun (j : Nat) => (j : Int))
abbrev am (ls : List Str) (row : List Int) (s6 s7 s8 s9 s10 s11 s12 : Sl) : Rho := [.d (encW ls), .d (encN row), .d (encW amN), .d (encW amW), .d (encW amD), .d (encW amH), s6, s7, s8, s9, s10, s11, s12, .u]
section
variable {ls : List Str} {row : List Int} {s6 s7 s8 s9 s10 s11 s12 : Sl}
theorem am_a0 : amA0 [.d (encW ls), .d (encN row), .u, .u, .u, .u, s6, s7, s8, s9, s10, s11, s12, .u] = .nx [.d (encW ls), .d (encN row), .d (encW amN), .u, .u, .u, s6, s7, s8, s9, s10, s11, s12, .u] := by
  unfold amA0
  exact asg_ok (lst_w amN (by decide))
theorem am_a1 : amA1 [.d (encW ls), .d (encN row), .d (encW amN), .u, .u, .u, s6, s7, s8, s9, s10, s11, s12, .u] = .nx [.d (encW ls), .d (encN row), .d (encW amN), .d (encW amW), .u, .u, s6, s7, s8, s9, s10, s11, s12, .u] := by
  unfold amA1
  exact asg_ok (lst_w amW (by decide))
theorem am_a2 : amA2 [.d (encW ls), .d (encN row), .d (encW amN), .d (encW amW), .u, .u, s6, s7, s8, s9, s10, s11, s12, .u] = .nx [.d (encW ls), .d (encN row), .d (encW amN), .d (encW amW), .d (encW amD), .u, s6, s7, s8, s9, s10, s11, s12, .u] := by
  unfold amA2
  exact asg_ok (lst_w amD (by decide))
theorem am_a3 : amA3 [.d (encW ls), .d (encN row), .d (encW amN), .d (encW amW), .d (encW amD), .u, s6, s7, s8, s9, s10, s11, s12, .u] = .nx (am ls row s6 s7 s8 s9 s10 s11 s12) := by
  unfold amA3
  exact asg_ok (lst_w amH (by decide))
theorem am_a4 (hd : Dg row amS) : ∃ k : Nat, amA4 (am ls row s6 s7 s8 s9 s10 s11 s12) = .nx (am ls row (.d (.int (k : Int))) s7 s8 s9 s10 s11 s12) := by
  obtain ⟨v, g, b⟩ := hd.nat (i := 0) (s := 14) rfl
  refine ⟨v, ?_⟩
  unfold amA4
  exact asg_int (row_ok (n := 0) rfl rfl g)
theorem am_a5 {k : Nat} : ∃ z : Str, amA5 (am ls row (.d (.int (k : Int))) s7 s8 s9 s10 s11 s12) = .nx (am ls row (.d (.int (k : Int))) (.d (.str z)) s8 s9 s10 s11 s12) := by
  have ht : tV dBool (o2 dLt (eP 6) (eC (.int 7))) (am ls row (.d (.int (k : Int))) s7 s8 s9 s10 s11 s12) = .ok (decide ((k : Int) < 7)) := lt_i rfl rfl
  unfold amA5
  by_cases h : (k : Int) < 7
  · refine ⟨"table", asg_ok ?_⟩
    rw [eIf_get, ht, Res.ok_bind, if_pos (decide_eq_true h)]
    rfl
  · refine ⟨"row", asg_ok ?_⟩
    rw [eIf_get, ht, Res.ok_bind, decide_eq_false h]
    rfl
def amT (z : Str) (ls : List Str) (j : Nat) : Bool := decide ((Txt.split (ls.getD j ("" : Str)) SP).getD 0 ("" : Str) = z)
def amPs (z : Str) (ls : List Str) : List Nat := (List.range' 0 ls.length).filter (amT z ls)
theorem amPs_lt {z : Str} {j : Nat} (h : j ∈ amPs z ls) : j < ls.length := by
  have := (List.mem_range'_1.mp (List.mem_filter.mp h).1).2
  omega
theorem am_a6 {m S : Nat} (h : Ls m S ls) (hS : S ≤ 900000) {z : Str} : amA6 (am ls row s6 (.d (.str z)) s8 s9 s10 s11 s12) = .nx (am ls row s6 (.d (.str z)) (.d (encP (amPs z ls))) s9 s10 s11 s12) := by
  have hl : ls.length ≤ 900000 := by have := sumL_len ls; have := h.sum; omega
  have e := comp_filter (ρ := am ls row s6 (.d (.str z)) s8 s9 s10 s11 s12) (i := 13) (vs := [13]) (it := iRange1 (oA dLen (aC (eP 0) aN)))
    (fc := tV dBool (o2 dEq (o2 dIx (oM isStrD dSplit (o2 dIx (eP 0) (eP 13)) (aC (eC (.str " ")) aN)) (eC (.int 0))) (eP 7))) (fe := eV 13)
    (fun (j : Nat) => .int (0 + (j : Int))) (fun (j : Nat) => .int (j : Int)) (amT z ls) (l := List.range' 0 ls.length)
    (by rw [← rng_eq]; exact range_ok (len_ok rfl) (by omega))
    (fun j hj => by
      have hj' : j < ls.length := by have := (List.mem_range'_1.mp hj).2; omega
      have hg : ls[j]? = some ls[j] := List.getElem?_eq_getElem hj'
      have hx := h.len hg
      have hn := split_ne ls[j] SP sp_ne sp_k
      have hp : 0 < (Txt.split ls[j] SP).length := List.length_pos_iff.mpr hn
      have h0 : (Txt.split ls[j] SP)[0]? = some (Txt.split ls[j] SP)[0] := List.getElem?_eq_getElem hp
      have et : amT z ls j = decide ((Txt.split ls[j] SP)[0] = z) := by
        unfold amT
        rw [List.getD_eq_getElem?_getD, List.getD_eq_getElem?_getD (l := ls), hg]
        show decide (((Txt.split ls[j] SP)[0]?).getD _ = z) = _
        rw [h0]
        rfl
      rw [et, Int.zero_add]
      have e1 : o2 dIx (eP 0) (eP 13) ((wipeR (am ls row s6 (.d (.str z)) s8 s9 s10 s11 s12) [13]).set 13 (.d (.int (j : Int)))) = .ok (.str ls[j]) := ix_w (n := j) rfl rfl hg
      have e2 := ix_w (n := 0) (split_w e1 (by omega)) (i := eC (.int 0)) rfl h0
      rw [tV_get, o2_get, e2, Res.ok_bind]
      show (Res.of (dEq (.str (Txt.split ls[j] SP)[0]) (.str z))).bind dBool = _
      rw [dEq_ss]
      rfl)
    (fun j hj _ => by rw [Int.zero_add]; rfl) (by rw [List.length_range', sizeLine_eq]; omega)
  unfold amA6
  refine asg_ok (e.trans ?_)
  unfold encP encN amPs
  rw [List.map_map]
  rfl
end
end K92
end
section
set_option Elab.async false
set_option linter.all false
set_option maxRecDepth 100000
set_option maxHeartbeats 2000000
namespace K92
open PySem PySem.Spec PyProof.Rows L2 DL
section
variable {ls : List Str} {row : List Int} {s6 s7 s8 s9 s10 s11 s12 : Sl} {ps : List Nat} {m S : Nat}
theorem lenP {e : Rho → Res PyData} {ρ : Rho} (he : e ρ = .ok (encP ps)) : oA dLen (aC e aN) ρ = .ok (.int (ps.length : Int)) := by
  rw [oA_get, aC_get, he]
  simp only [Res.ok_bind, aN_get]
  unfold encP encN
  rw [dLen_l, List.length_map, List.length_map]
  rfl
theorem ixP {e i : Rho → Res PyData} {ρ : Rho} {n a : Nat} (he : e ρ = .ok (encP ps)) (hi : i ρ = .ok (.int (n : Int))) (h : ps[n]? = some a) : o2 dIx e i ρ = .ok (.int (a : Int)) :=
  row_ok (row := ps.map fun (j : Nat) => (j : Int)) he hi (by rw [List.getElem?_map, h]; rfl)
theorem ixPl {e i : Rho → Res PyData} {ρ : Rho} {a : Nat} (he : e ρ = .ok (encP ps)) (hi : i ρ = .ok (.int (-1))) (h : ps.getLast? = some a) : o2 dIx e i ρ = .ok (.int (a : Int)) := by
  rw [o2_get, he, Res.ok_bind, hi, Res.ok_bind]
  unfold encP encN
  rw [dIx_ll, List.getLast?_map, List.getLast?_map, h]
  rfl
def amRow : Rho → Res PyData := o2 dMod (oA dInt (aC (o2 dIx (eP 1) (eC (.int 1))) aN)) (oA dLen (aC (eP 8) aN))
theorem am_row (hd : Dg row amS) (hne : ps ≠ []) : ∃ q : Nat, q < ps.length ∧ ∀ s9 s10 s11 s12, amRow (am ls row s6 s7 (.d (encP ps)) s9 s10 s11 s12) = .ok (.int (q : Int)) := by
  obtain ⟨v, g, b⟩ := hd.nat (i := 1) (s := 997) rfl
  have hl : 0 < ps.length := List.length_pos_iff.mpr hne
  exact ⟨v % ps.length, Nat.mod_lt _ hl, fun s9 s10 s11 s12 => mod_ok (row_ok (n := 1) rfl rfl g) (lenP rfl) hl⟩
theorem am_a8 {q a : Nat} (hq : amRow (am ls row s6 s7 (.d (encP ps)) s9 s10 s11 s12) = .ok (.int (q : Int))) (ha : ps[q]? = some a) :
    amA8 (am ls row s6 s7 (.d (encP ps)) s9 s10 s11 s12) = .nx (am ls row s6 s7 (.d (encP ps)) (.d (.int (a : Int))) s10 s11 s12) := by
  unfold amA8
  exact asg_ok (ixP rfl hq ha)
theorem am_a9 {a : Nat} {l : Str} (hl : ls[a]? = some l) (hs : l.length ≤ 16000000) : amA9 (am ls row s6 s7 s8 (.d (.int (a : Int))) s10 s11 s12) = .nx (am ls row s6 s7 s8 (.d (.int (a : Int))) (.d (encW (Txt.split l SP))) s11 s12) := by
  unfold amA9
  exact asg_ok (split_w (ix_w rfl rfl hl) (by omega))
theorem am_a10 (hd : Dg row amS) {ws : List Str} : ∃ w : Nat, amA10 (am ls row s6 s7 s8 s9 (.d (encW ws)) s11 s12) = .nx (am ls row s6 s7 s8 s9 (.d (encW ws)) (.d (.int (w : Int))) s12) := by
  obtain ⟨v, g, b⟩ := hd.nat (i := 2) (s := 16) rfl
  obtain ⟨n, hn, e⟩ : ∃ n : Nat, 0 < n ∧ oA dMax2 (aC (o2 dSub (oA dLen (aC (eP 10) aN)) (eC (.int 1))) (aC (eC (.int 1)) aN)) (am ls row s6 s7 s8 s9 (.d (encW ws)) s11 s12) = .ok (.int (n : Int)) := by
    have hl : oA dLen (aC (eP 10) aN) (am ls row s6 s7 s8 s9 (.d (encW ws)) s11 s12) = .ok (.int (ws.length : Int)) := len_ok rfl
    have hm : dMax2 [.int ((ws.length : Int) - 1), .int 1] = some (.int (if (1 : Int) > (ws.length : Int) - 1 then 1 else (ws.length : Int) - 1)) := rfl
    have h0 : oA dMax2 (aC (o2 dSub (oA dLen (aC (eP 10) aN)) (eC (.int 1))) (aC (eC (.int 1)) aN)) (am ls row s6 s7 s8 s9 (.d (encW ws)) s11 s12) = .ok (.int (if (1 : Int) > (ws.length : Int) - 1 then 1 else (ws.length : Int) - 1)) := by
      rw [oA_get, aC_get, o2_get, hl]
      simp only [Res.ok_bind, eC_get, aC_get, aN_get, dSub_ii, of_some, hm]
    rw [h0]
    by_cases hb : (1 : Int) > (ws.length : Int) - 1
    · exact ⟨1, by omega, by rw [if_pos hb]; rfl⟩
    · refine ⟨ws.length - 1, by omega, ?_⟩
      rw [if_neg hb]
      have : ((ws.length - 1 : Nat) : Int) = (ws.length : Int) - 1 := by omega
      rw [this]
  refine ⟨1 + v % n, ?_⟩
  unfold amA10
  refine asg_ok ?_
  rw [o2_get, mod_ok (row_ok (n := 2) rfl rfl g) e hn, eC_get, Res.ok_bind, Res.ok_bind, Int.natCast_add]
  rfl
theorem am_a11 (h : Ls m S ls) (hS : S ≤ 900000) {q : Nat} (hq : amRow (am ls row s6 s7 (.d (encP ps)) s9 s10 s11 s12) = .ok (.int (q : Int))) (hql : q < ps.length) (hp : ∀ p ∈ ps, p < ls.length) :
    ∃ l ∈ ls, amA11 (am ls row s6 s7 (.d (encP ps)) s9 s10 s11 s12) = .nx (am ls row s6 s7 (.d (encP ps)) s9 s10 s11 (.d (encW (Txt.split l SP)))) := by
  have hq1 : o2 dSub amRow (eC (.int 1)) (am ls row s6 s7 (.d (encP ps)) s9 s10 s11 s12) = .ok (.int ((q : Int) - 1)) := by
    rw [o2_get, hq, Res.ok_bind]
    rfl
  obtain ⟨a, ha, e⟩ : ∃ a, a < ls.length ∧ o2 dIx (eP 8) (o2 dSub amRow (eC (.int 1))) (am ls row s6 s7 (.d (encP ps)) s9 s10 s11 s12) = .ok (.int (a : Int)) := by
    by_cases q0 : q = 0
    · have hne : ps ≠ [] := fun z => by rw [z] at hql; exact absurd hql (Nat.not_lt_zero _)
      refine ⟨ps.getLast hne, hp _ (List.getLast_mem hne), ixPl rfl ?_ (List.getLast?_eq_some_getLast hne)⟩
      rw [hq1, q0]
      rfl
    · refine ⟨ps[q - 1]'(by omega), hp _ (List.getElem_mem _), ixP (n := q - 1) rfl ?_ (List.getElem?_eq_getElem _)⟩
      rw [hq1]
      have : ((q - 1 : Nat) : Int) = (q : Int) - 1 := by omega
      rw [this]
  have hg : ls[a]? = some ls[a] := List.getElem?_eq_getElem ha
  refine ⟨ls[a], List.getElem_mem _, ?_⟩
  have := h.len hg
  unfold amA11
  exact asg_ok (split_w (ix_w rfl e hg) (by omega))
end
/-- a statement ends, or goes on at a good place -/
def Oc (F : Rho → Out) (ρ : Rho) (p : PyData → Prop) (q : Rho → Prop) : Prop := (∃ d, F ρ = .rt d ∧ p d) ∨ ∃ ρ', F ρ = .nx ρ' ∧ q ρ'
theorem oc_if {c : Rho → Res Bool} {F G : Rho → Out} {ρ : Rho} {b : Bool} {p : PyData → Prop} {q : Rho → Prop} (hc : c ρ = .ok b) (h1 : b = true → Oc F ρ p q) (h2 : b = false → Oc G ρ p q) : Oc (sIf c F G) ρ p q := by
  unfold Oc at *
  cases b with
  | true => rw [if_t hc]; exact h1 rfl
  | false => rw [if_f hc]; exact h2 rfl
theorem rt_oc {F G : Rho → Out} {ρ : Rho} {p : PyData → Prop} {q : Rho → Prop} (h : Oc F ρ p q) (k : ∀ ρ', q ρ' → Rt G ρ' p) : Rt (sSeq F G) ρ p := by
  rcases h with ⟨d, e, z⟩ | ⟨ρ', e, z⟩
  · exact ⟨d, seq_rt e, z⟩
  · exact rt_seq e (k ρ' z)
def amP (m S : Nat) (d : PyData) : Prop := ∃ ws', d = encW ws' ∧ Ls (m + 41) (2 * S + m + 100) ws'
section
variable {ls : List Str} {row : List Int} {s7 s8 : Sl} {m S L k a w : Nat} {ws os : List Str} {l : Str}
def amQ (ls : List Str) (row : List Int) (m L : Nat) (ρ' : Rho) (s6 s7 s8 s9 s11 s12 : Sl) : Prop := ∃ ws', ρ' = am ls row s6 s7 s8 s9 (.d (encW ws')) s11 s12 ∧ Ws (m + 41) (L + m + 42) ws'
variable (hw : Ws m L ws) (hL : L ≤ 900000) (hm : m ≤ 400)
include hw hL hm
theorem am_len : ws.length ≤ 1000000 := by have := sumL_len ws; have := hw.sum; omega
theorem am_e0 (hd : Dg row amS) {p : PyData → Prop} {s6 s9 s11 s12 : Sl} : Oc amE12_0 (am ls row s6 s7 s8 s9 (.d (encW ws)) s11 s12) p fun ρ' => amQ ls row m L ρ' s6 s7 s8 s9 s11 s12 := by
  have hl := am_len hw hL hm
  obtain ⟨v, g, b⟩ := hd.nat (i := 3) (s := 16) rfl
  have hv : v < amN.length := by rw [amN_ok.1]; omega
  have ho := List.getElem?_eq_getElem hv
  have hp := amN_ok.2 _ (List.mem_of_getElem? ho)
  unfold amE12_0
  refine .inr ⟨_, asg_ok (mid_ok (n := 1) (k := 2) rfl rfl (one_ok (ix_w rfl (row_ok (n := 3) rfl rfl g) ho)) rfl (by rw [List.length_singleton]; omega)), _, rfl, ?_⟩
  exact ((hw.mono (k := m + 41) (by omega) (Nat.le_refl _)).mid (by omega) ⟨hp.1, by omega⟩ hp.2).mono (Nat.le_refl _) (by omega)
theorem am_e1 (hd : Dg row amS) {p : PyData → Prop} {s6 s9 s11 s12 : Sl} : Oc amE12_1 (am ls row s6 s7 s8 s9 (.d (encW ws)) s11 s12) p fun ρ' => amQ ls row m L ρ' s6 s7 s8 s9 s11 s12 := by
  have hl := am_len hw hL hm
  obtain ⟨v, g, b⟩ := hd.nat (i := 3) (s := 16) rfl
  have hv : v < amW.length := by rw [amW_ok.1]; omega
  have ho := List.getElem?_eq_getElem hv
  have hp := amW_ok.2 _ (List.mem_of_getElem? ho)
  unfold amE12_1
  refine .inr ⟨_, asg_ok (cat_ok (sl_to (n := 2) rfl rfl) (one_ok (ix_w rfl (row_ok (n := 3) rfl rfl g) ho)) (by rw [List.length_take, List.length_singleton]; omega)), _, rfl, ?_⟩
  exact ((hw.take.mono (k := m + 41) (by omega) (Nat.le_refl _)).app (Ws.one ⟨hp.1, by omega⟩ hp.2)).mono (Nat.le_refl _) (by omega)
theorem am_e2 (hd : Dg row amS) {p : PyData → Prop} {s6 s9 s11 s12 : Sl} : Oc amE12_2 (am ls row s6 s7 s8 s9 (.d (encW ws)) s11 s12) p fun ρ' => amQ ls row m L ρ' s6 s7 s8 s9 s11 s12 := by
  have hl := am_len hw hL hm
  obtain ⟨v, g, b⟩ := hd.nat (i := 3) (s := 16) rfl
  have hv : v < amH.length := by rw [amH_ok.1]; omega
  have ho := List.getElem?_eq_getElem hv
  have hp := amH_ok.2 _ (List.mem_of_getElem? ho)
  unfold amE12_2
  refine .inr ⟨_, asg_ok (cat_ok (one_ok (ix_w rfl (row_ok (n := 3) rfl rfl g) ho)) (sl_from (n := 1) rfl rfl) (by rw [List.length_drop, List.length_singleton]; omega)), _, rfl, ?_⟩
  exact ((Ws.one (m := m + 41) ⟨hp.1, by omega⟩ hp.2).app (hw.drop.mono (by omega) (Nat.le_refl _))).mono (Nat.le_refl _) (by omega)
theorem am_e3 (hd : Dg row amS) {p : PyData → Prop} {s6 s9 s11 s12 : Sl} : Oc amE12_3 (am ls row s6 s7 s8 s9 (.d (encW ws)) s11 s12) p fun ρ' => amQ ls row m L ρ' s6 s7 s8 s9 s11 s12 := by
  have hl := am_len hw hL hm
  obtain ⟨v, g, b⟩ := hd.nat (i := 3) (s := 16) rfl
  have c1 : Wd (m + 41) ("1" : Str) ∧ ("1" : Str).length ≤ 1 := ⟨⟨by decide +kernel, Nat.le_trans (show ("1" : Str).length ≤ 1 by decide +kernel) (by omega)⟩, by decide +kernel⟩
  have c0 : Wd (m + 41) ("" : Str) ∧ ("" : Str).length ≤ 1 := ⟨⟨by decide +kernel, Nat.le_trans (show ("" : Str).length ≤ 1 by decide +kernel) (by omega)⟩, by decide +kernel⟩
  have hw' := hw.mono (k := m + 41) (by omega) (Nat.le_refl _)
  have key : ∀ n, n < 4 → ∃ ws', [encW ws.dropLast, encW (ws ++ [("1" : Str)]), encW (ws ++ [("" : Str)]), encW ([("" : Str)] ++ ws)][n]? = some (encW ws') ∧ Ws (m + 41) (L + m + 42) ws' := fun n hn => match n, hn with
    | 0, _ => ⟨_, rfl, hw'.init.mono (Nat.le_refl _) (by omega)⟩
    | 1, _ => ⟨_, rfl, (hw'.app (Ws.one c1.1 c1.2)).mono (Nat.le_refl _) (by omega)⟩
    | 2, _ => ⟨_, rfl, (hw'.app (Ws.one c0.1 c0.2)).mono (Nat.le_refl _) (by omega)⟩
    | 3, _ => ⟨_, rfl, ((Ws.one c0.1 c0.2).app hw').mono (Nat.le_refl _) (by omega)⟩
  obtain ⟨ws', e, q⟩ := key (v % 4) (Nat.mod_lt _ (by omega))
  unfold amE12_3
  refine .inr ⟨_, asg_ok (d := encW ws') ?_, _, rfl, q⟩
  have e1 := sl_init (e := eP 10) (ρ := am ls row s6 s7 s8 s9 (.d (encW ws)) s11 s12) (ws := ws) rfl
  have e2 := cat_ok (e1 := eP 10) (e2 := eA dLst (aC (eC (.str "1")) aN)) (ρ := am ls row s6 s7 s8 s9 (.d (encW ws)) s11 s12) (a := ws) (b := [("1" : Str)]) rfl (one_ok rfl) (by rw [List.length_singleton]; omega)
  have e3 := cat_ok (e1 := eP 10) (e2 := eA dLst (aC (eC (.str "")) aN)) (ρ := am ls row s6 s7 s8 s9 (.d (encW ws)) s11 s12) (a := ws) (b := [("" : Str)]) rfl (one_ok rfl) (by rw [List.length_singleton]; omega)
  have e4 := cat_ok (e2 := eP 10) (e1 := eA dLst (aC (eC (.str "")) aN)) (ρ := am ls row s6 s7 s8 s9 (.d (encW ws)) s11 s12) (b := ws) (a := [("" : Str)]) (one_ok rfl) rfl (by rw [List.length_singleton]; omega)
  have e5 : o2 dMod (oA dInt (aC (o2 dIx (eP 1) (eC (.int 3))) aN)) (eC (.int 4)) (am ls row s6 s7 s8 s9 (.d (encW ws)) s11 s12) = .ok (.int ((v % 4 : Nat) : Int)) := mod_ok (n := 4) (row_ok (n := 3) rfl rfl g) rfl (by omega)
  have el := dLst_ok [encW ws.dropLast, encW (ws ++ [("1" : Str)]), encW (ws ++ [("" : Str)]), encW ([("" : Str)] ++ ws)] (by rw [sizeLine_eq]; exact Nat.le_of_ble_eq_true rfl)
  rw [o2_get, eA_get, aC_get, e1, aC_get, e2, aC_get, e3, aC_get, e4]
  simp only [Res.ok_bind, aN_get]
  rw [el, Res.ok_bind, e5, Res.ok_bind, dIx_l, e]
  rfl
theorem am_e4 {S2 : Nat} (ho : Ws m S2 os) {p : PyData → Prop} {s6 s9 s11 : Sl} (hol : os.length ≤ 1000000) : Oc amE12_4 (am ls row s6 s7 s8 s9 (.d (encW ws)) s11 (.d (encW os))) p fun ρ' => amQ ls row m L ρ' s6 s7 s8 s9 s11 (.d (encW os)) := by
  have hl := am_len hw hL hm
  unfold amE12_4
  have h1 : ((os.drop 1).take 1).length ≤ 1 := by rw [List.length_take]; omega
  have h2 : sumL ((os.drop 1).take 1) ≤ (m + 1) * ((os.drop 1).take 1).length := sumL_bd fun x hx => by
    have := (ho.wd x (List.mem_of_mem_drop (List.mem_of_mem_take hx))).ln
    omega
  have h3 : (m + 1) * ((os.drop 1).take 1).length ≤ (m + 1) * 1 := Nat.mul_le_mul_left _ h1
  refine .inr ⟨_, asg_ok (mid_ok (n := 1) (k := 2) rfl rfl (sl_mid (n := 1) (d := 1) rfl rfl rfl) rfl (by omega)), _, rfl, fun z hz => ?_, ?_⟩
  · rcases List.mem_append.mp hz with q | q
    · rcases List.mem_append.mp q with q | q
      · exact (hw.wd z (List.mem_of_mem_take q)).mono (by omega)
      · exact (ho.wd z (List.mem_of_mem_drop (List.mem_of_mem_take q))).mono (by omega)
    · exact (hw.wd z (List.mem_of_mem_drop q)).mono (by omega)
  · have q1 := (hw.cut (i := 1) (j := 2) (by omega)).sum
    rw [sumL_app] at q1
    rw [sumL_app, sumL_app]
    omega
theorem am_e5 (hd : Dg row amS) {p : PyData → Prop} {s6 s9 s12 : Sl} : Oc amE12_5 (am ls row s6 s7 s8 s9 (.d (encW ws)) (.d (.int (w : Int))) s12) p fun ρ' => amQ ls row m L ρ' s6 s7 s8 s9 (.d (.int (w : Int))) s12 := by
  have hl := am_len hw hL hm
  obtain ⟨v, g, b⟩ := hd.nat (i := 3) (s := 16) rfl
  have hv : v < amD.length := by rw [amD_ok.1]; omega
  have ho := List.getElem?_eq_getElem hv
  have hp := amD_ok.2 _ (List.mem_of_getElem? ho)
  unfold amE12_5
  refine .inr ⟨_, asg_ok (mid_ok (n := w) (k := w + 1) rfl rfl (one_ok (ix_w rfl (row_ok (n := 3) rfl rfl g) ho)) rfl (by rw [List.length_singleton]; omega)), _, rfl, ?_⟩
  exact ((hw.mono (k := m + 41) (by omega) (Nat.le_refl _)).mid (by omega) ⟨hp.1, by omega⟩ hp.2).mono (Nat.le_refl _) (by omega)
end
end K92
end
section
set_option Elab.async false
set_option linter.all false
set_option maxRecDepth 100000
set_option maxHeartbeats 2000000
namespace K92
open PySem PySem.Spec PyProof.Rows L2 DL
section
variable {ls : List Str} {row : List Int} {s6 s7 s8 : Sl} {m S k a w : Nat} {ws os : List Str} {l l2 : Str}
variable (h : Ls m S ls) (hS : S ≤ 900000) (hm : m ≤ 400) (hl : ls[a]? = some l)
include h hS hm hl
/-- the line at a changed -/
theorem am_a13 (hw : Ws (m + 41) (l.length + 1 + m + 42) ws) {s11 s12 : Sl} (hf : ([s6, s7, s8, s11, s12].map frz1) = [s6, s7, s8, s11, s12]) : Rt amA13 (am ls row s6 s7 s8 (.d (.int (a : Int))) (.d (encW ws)) s11 s12) (amP m S) := by
  have hx := h.len hl
  have hn : ls.length ≤ 900000 := by have := sumL_len ls; have := h.sum; omega
  have ql := hw.line
  simp only [List.map_cons, List.map_nil, List.cons.injEq, and_true] at hf
  obtain ⟨f6, f7, f8, f11, f12⟩ := hf
  unfold amA13
  have e0 := join_w (y := SP) (e := eP 10) (ρ := am ls row s6 s7 s8 (.d (.int (a : Int))) (.d (encW ws)) s11 s12) (ws := ws) (by decide +kernel) rfl (by have := hw.sum; omega)
  refine rt_ret (d := encW (ls.take a ++ [Txt.join SP ws] ++ ls.drop (a + 1))) ?_ ⟨_, rfl, ?_⟩
  · have ef : (am ls row s6 s7 s8 (.d (.int (a : Int))) (.d (encW ws)) s11 s12).map frz1 = am ls row s6 s7 s8 (.d (.int (a : Int))) (.d (encW ws)) s11 s12 := by
      simp [f6, f7, f8, f11, f12]
    rw [ef]
    exact mid_ok (k := a + 1) rfl rfl (one_ok e0) rfl (by rw [List.length_singleton]; omega)
  · exact ((h.mono (k := m + 41) (by omega) (Nat.le_refl _)).mid (by omega) ql.1 (c := l.length + 1 + m + 42) ql.2).mono (Nat.le_refl _) (by omega)
/-- a line put behind the line at a -/
theorem put_ok {x : Str} (hx : Ln (m + 41) x) (hc : x.length ≤ S + m + 50) : Ls (m + 41) (2 * S + m + 100) (ls.take (a + 1) ++ [x] ++ ls.drop (a + 1)) :=
  ((h.mono (k := m + 41) (by omega) (Nat.le_refl _)).mid (Nat.le_refl _) hx hc).mono (Nat.le_refl _) (by omega)
theorem am_e6 (hd : Dg row amS) (h2 : l2 ∈ ls) {K Z P : PyData} {i : Nat} : Rt amE12_6 (am ls row (.d K) (.d Z) (.d P) (.d (.int (a : Int))) (.d (encW ws)) (.d (.int (i : Int))) (.d (encW (Txt.split l2 SP)))) (amP m S) := by
  have hx := h.len hl
  have hn : ls.length ≤ 900000 := by have := sumL_len ls; have := h.sum; omega
  have hw := h.ln l (List.mem_of_getElem? hl)
  have h2w := (h.ln l2 h2).ws
  have h2l : l2.length + 1 ≤ S := Nat.le_trans (sumL_mem h2) h.sum
  have ql := h2w.line
  obtain ⟨v, g, b⟩ := hd.nat (i := 3) (s := 16) rfl
  have key : ∀ n, n < 2 → ∃ x, [l, Txt.join SP (Txt.split l2 SP)][n]? = some x ∧ Ln (m + 41) x ∧ x.length ≤ S + m + 50 := fun n hn => match n, hn with
    | 0, _ => ⟨_, rfl, hw.mono (by omega), by omega⟩
    | 1, _ => ⟨_, rfl, ql.1.mono (by omega), by have := ql.2; omega⟩
  obtain ⟨x, ex, x1, x2⟩ := key (v % 2) (Nat.mod_lt _ (by omega))
  unfold amE12_6
  refine rt_ret (d := encW (ls.take (a + 1) ++ [x] ++ ls.drop (a + 1))) (mid_ok (n := a + 1) (k := a + 1) rfl rfl (one_ok ?_) rfl (by rw [List.length_singleton]; omega)) ⟨_, rfl, put_ok h hS hm hl x1 x2⟩
  have e0 := join_w (y := SP) (e := eP 12) (ρ := am ls row (.d K) (.d Z) (.d P) (.d (.int (a : Int))) (.d (encW ws)) (.d (.int (i : Int))) (.d (encW (Txt.split l2 SP)))) (ws := Txt.split l2 SP) (by decide +kernel) rfl (by have := h2w.sum; omega)
  have e1 : o2 dIx (eP 0) (eP 9) (am ls row (.d K) (.d Z) (.d P) (.d (.int (a : Int))) (.d (encW ws)) (.d (.int (i : Int))) (.d (encW (Txt.split l2 SP)))) = .ok (.str l) := ix_w rfl rfl hl
  have e2 : eA dLst (aC (o2 dIx (eP 0) (eP 9)) (aC (oM isStrD dJoin (eC (.str " ")) (aC (eP 12) aN)) aN)) (am ls row (.d K) (.d Z) (.d P) (.d (.int (a : Int))) (.d (encW ws)) (.d (.int (i : Int))) (.d (encW (Txt.split l2 SP)))) = .ok (encW [l, Txt.join SP (Txt.split l2 SP)]) := by
    rw [eA_get, aC_get, e1, aC_get]
    have e0' : oM isStrD dJoin (eC (.str " ")) (aC (eP 12) aN) (am ls row (.d K) (.d Z) (.d P) (.d (.int (a : Int))) (.d (encW ws)) (.d (.int (i : Int))) (.d (encW (Txt.split l2 SP)))) = .ok (.str (Txt.join SP (Txt.split l2 SP))) := e0
    rw [e0']
    simp only [Res.ok_bind, aN_get]
    exact lst_w [l, Txt.join SP (Txt.split l2 SP)] (by simp)
  exact ix_w e2 (mod_ok (n := 2) (row_ok (n := 3) rfl rfl g) rfl (by omega)) ex
theorem am_z (hd : Dg row amS) {K Z P O : PyData} {i : Nat} : Rt amZ12 (am ls row (.d K) (.d Z) (.d P) (.d (.int (a : Int))) (.d (encW (Txt.split l SP))) (.d (.int (i : Int))) (.d O)) (amP m S) := by
  have hx := h.len hl
  have hn : ls.length ≤ 900000 := by have := sumL_len ls; have := h.sum; omega
  have hw := (h.ln l (List.mem_of_getElem? hl)).ws
  have hne : Txt.split l SP ≠ [] := split_ne l SP sp_ne sp_k
  have hwl : (Txt.split l SP).length ≤ 900001 := by have := sumL_len (Txt.split l SP); have := hw.sum; omega
  generalize Txt.split l SP = ws at *
  obtain ⟨v, g, b⟩ := hd.nat (i := 3) (s := 16) rfl
  obtain ⟨y, hy⟩ : ∃ y, ws.getLast? = some y := ⟨ws.getLast hne, List.getLast?_eq_some_getLast hne⟩
  have yw := hw.wd y (List.mem_of_getLast? hy)
  have yl := yw.ln
  have key : ∀ n, n < 3 → ∃ z : Int, [1, -1, 0][n]? = some z ∧ (z = 1 ∨ z = -1 ∨ z = 0) := fun n hn => match n, hn with
    | 0, _ => ⟨1, rfl, by omega⟩
    | 1, _ => ⟨-1, rfl, by omega⟩
    | 2, _ => ⟨0, rfl, by omega⟩
  obtain ⟨z, ez, hz⟩ := key (v % 3) (Nat.mod_lt _ (by omega))
  obtain ⟨q1, q2⟩ := abs_wd yl hm hz
  have q3 : Ws (m + 41) (l.length + 1 + m + 42) (ws.dropLast ++ [numS ((numOf y + z).natAbs : Int)]) := ((hw.init.mono (k := m + 41) (by omega) (Nat.le_refl _)).app (Ws.one (q2.mono (by omega)) (c := m + 1) q2.ln)).mono (Nat.le_refl _) (by omega)
  have q4 := q3.line
  have el : eA dLst (aC (eC (.int 1)) (aC (o1 dNeg (eC (.int 1))) (aC (eC (.int 0)) aN))) (am ls row (.d K) (.d Z) (.d P) (.d (.int (a : Int))) (.d (encW ws)) (.d (.int (i : Int))) (.d O)) = .ok (encN [1, -1, 0]) := lst_ints [1, -1, 0] (by decide)
  unfold amZ12
  refine rt_seq (ρ' := am ls row (.d K) (.d Z) (.d P) (.d (.int (a : Int))) (.d (encW (ws.dropLast ++ [numS ((numOf y + z).natAbs : Int)]))) (.d (.int (i : Int))) (.d O))
    (asg_ok (cat_ok (sl_init rfl) (one_ok (abs_ok (add_i (num_ok (ix_wl (ws := ws) rfl hy) (by omega)) (row_ok el (mod_ok (n := 3) (row_ok (n := 3) rfl rfl g) rfl (by omega)) ez)) q1)) (by rw [List.length_singleton, List.length_dropLast]; omega))) ?_
  have e0 := join_w (y := SP) (e := eP 10) (ρ := am ls row (.d K) (.d Z) (.d P) (.d (.int (a : Int))) (.d (encW (ws.dropLast ++ [numS ((numOf y + z).natAbs : Int)]))) (.d (.int (i : Int))) (.d O)) (ws := ws.dropLast ++ [numS ((numOf y + z).natAbs : Int)]) (by decide +kernel) rfl (by have := q3.sum; omega)
  exact rt_ret (d := encW (ls.take (a + 1) ++ [Txt.join SP (ws.dropLast ++ [numS ((numOf y + z).natAbs : Int)])] ++ ls.drop (a + 1))) (mid_ok (n := a + 1) (k := a + 1) rfl rfl (one_ok e0) rfl (by rw [List.length_singleton]; omega)) ⟨_, rfl, put_ok h hS hm hl q4.1 (by have := q4.2; omega)⟩
end
theorem ev_aimed {m S : Nat} {ls : List Str} {row : List Int} (h : Ls m S ls) (hS : S ≤ 900000) (hm : m ≤ 400) (hd : Dg row amS) :
    ∃ ws', fn__law_aimed [encW ls, encN row] = .ok (encW ws') ∧ Ls (m + 41) (2 * S + m + 100) ws' := by
  have key : Rt F__law_aimed [.d (encW ls), .d (encN row), .u, .u, .u, .u, .u, .u, .u, .u, .u, .u, .u, .u] (amP m S) := by
    have hn : ls.length ≤ 900000 := by have := sumL_len ls; have := h.sum; omega
    obtain ⟨k, e4⟩ := am_a4 (ls := ls) (s6 := .u) (s7 := .u) (s8 := .u) (s9 := .u) (s10 := .u) (s11 := .u) (s12 := .u) hd
    obtain ⟨z, e5⟩ := am_a5 (ls := ls) (row := row) (k := k) (s7 := .u) (s8 := .u) (s9 := .u) (s10 := .u) (s11 := .u) (s12 := .u)
    rw [am_eq]
    refine rt_seq am_a0 (rt_seq am_a1 (rt_seq am_a2 (rt_seq am_a3 (rt_seq e4 (rt_seq e5 (rt_seq (am_a6 h hS) ?_))))))
    have hp : ∀ p ∈ amPs z ls, p < ls.length := fun p hp => amPs_lt hp
    generalize amPs z ls = ps at *
    refine rt_if (b := decide ((ps.length : Int) = 0)) (eq_i (lenP rfl) rfl) (fun _ => ?_) fun hb => ?_
    · unfold amE7
      exact rt_ret (d := encW (ls ++ [("row 1" : Str)])) (cat_ok (a := ls) (b := [("row 1" : Str)]) rfl (one_ok rfl) (by rw [List.length_singleton]; omega)) ⟨_, rfl, ((h.mono (k := m + 41) (by omega) (Nat.le_refl _)).app (Ls.one (row1_ln.mono (by omega)) (c := 5) (by decide +kernel))).mono (Nat.le_refl _) (by omega)⟩
    have hne : ps ≠ [] := fun q => by
      rw [q] at hb
      exact absurd hb (by decide)
    obtain ⟨q, hq, eq⟩ := am_row (ls := ls) (s6 := .d (.int (k : Int))) (s7 := .d (.str z)) hd hne
    have hpq : ps[q]? = some ps[q] := List.getElem?_eq_getElem hq
    have ha : ps[q] < ls.length := hp _ (List.getElem_mem _)
    generalize ps[q] = a at *
    obtain ⟨l, hl⟩ : ∃ l, ls[a]? = some l := ⟨ls[a], List.getElem?_eq_getElem ha⟩
    have hx := h.len hl
    have hw := (h.ln l (List.mem_of_getElem? hl)).ws
    obtain ⟨w, e10⟩ := am_a10 (ls := ls) (s6 := .d (.int (k : Int))) (s7 := .d (.str z)) (s8 := .d (encP ps)) (s9 := .d (.int (a : Int))) (s11 := .u) (s12 := .u) hd (ws := Txt.split l SP)
    obtain ⟨l2, h2, e11⟩ := am_a11 (row := row) (s6 := .d (.int (k : Int))) (s7 := .d (.str z)) (s9 := .d (.int (a : Int))) (s10 := .d (encW (Txt.split l SP))) (s11 := .d (.int (w : Int))) (s12 := .u) h hS (eq _ _ _ _) hq hp
    refine rt_seq (am_a8 (eq _ _ _ _) hpq) (rt_seq (am_a9 hl (by omega)) (rt_seq e10 (rt_seq e11 ?_)))
    have h2w := (h.ln l2 h2).ws
    have h2l : l2.length + 1 ≤ S := Nat.le_trans (sumL_mem h2) h.sum
    have h2n : (Txt.split l2 SP).length ≤ 1000000 := by have := sumL_len (Txt.split l2 SP); have := h2w.sum; omega
    refine rt_oc (q := fun ρ' => amQ ls row m (l.length + 1) ρ' (.d (.int (k : Int))) (.d (.str z)) (.d (encP ps)) (.d (.int (a : Int))) (.d (.int (w : Int))) (.d (encW (Txt.split l2 SP)))) ?_ fun ρ' ⟨ws', er, qw⟩ => by
      rw [er]
      exact am_a13 h hS hm hl qw rfl
    unfold amA12
    refine oc_if (b := decide ((k : Int) < 2)) (lt_i rfl rfl) (fun _ => am_e0 hw (by omega) hm hd) fun _ => ?_
    refine oc_if (b := decide ((k : Int) < 4)) (lt_i rfl rfl) (fun _ => am_e1 hw (by omega) hm hd) fun _ => ?_
    refine oc_if (b := decide ((k : Int) ∈ [4, 10])) (in_i rfl (lst_ints [4, 10] (by decide))) (fun _ => am_e2 hw (by omega) hm hd) fun _ => ?_
    refine oc_if (b := decide ((k : Int) ∈ [5, 11])) (in_i rfl (lst_ints [5, 11] (by decide))) (fun _ => am_e3 hw (by omega) hm hd) fun _ => ?_
    refine oc_if (b := decide ((k : Int) = 6)) (eq_i rfl rfl) (fun _ => am_e4 hw (by omega) hm h2w h2n) fun _ => ?_
    refine oc_if (b := decide ((k : Int) ∈ [7, 8, 9])) (in_i rfl (lst_ints [7, 8, 9] (by decide))) (fun _ => am_e5 hw (by omega) hm hd) fun _ => ?_
    refine oc_if (b := decide ((k : Int) = 12)) (eq_i rfl rfl) (fun _ => .inl (am_e6 h hS hm hl hd h2)) fun _ => .inl (am_z h hS hm hl hd)
  obtain ⟨d, e, ws', rfl, q⟩ := key
  exact ⟨ws', run_rt rfl e, q⟩
end K92
end
section
set_option Elab.async false
set_option linter.all false
set_option maxRecDepth 100000
set_option maxHeartbeats 2000000
namespace K92
open PySem PySem.Spec PyProof.Rows L2 DL
def lwA0 : Rho → Out := (sAsg (eA (fun ds => noex (fn__law_store ds)) (aC (eV 0) aN)) (gNm 1))
def lwA1 : Rho → Out := (sAsg (eA (fun ds => noex (fn__law_text ds)) (aC (eV 1) aN)) (gNm 2))
def lwT2 : Rho → Res Bool := (tO (tN (tV dTruth (eA (fun ds => noex (fn__law_is_text ds)) (aC (eA (fun ds => noex (fn_format_store ds)) (aC (eV 1) aN)) (aC (eV 2) aN))))) (tN (tV dTruth (eA (fun ds => noex (fn__law_right ds)) (aC (eV 2) aN)))))
def lwE2 : Rho → Out := (sRet (eC (.bool false)))
def lwT3 : Rho → Res Bool := (tO (tN (tV dTruth (eA (fun ds => noex (fn__law_is_text ds)) (aC (eA (fun ds => noex (fn_format_store ds)) (aC (eA dTup aN) aN)) (aC (eC (.str "")) aN))))) (tO (tN (tV dTruth (eA (fun ds => noex (fn__law_right ds)) (aC (eC (.str "")) aN)))) (tN (tV dTruth (eA (fun ds => noex (fn__law_right ds)) (aC (eC (.str "\n")) aN))))))
def lwE3 : Rho → Out := (sRet (eC (.bool false)))
def lwA4 : Rho → Out := (sAsg (o2 dAdd (o2 dPow (eC (.int 10)) (eC (.int 30))) (o2 dMod (oA dInt (aC (eA (fun ds => noex (fn__law_cell ds)) (aC (eV 0) (aC (eC (.int 18)) aN))) aN)) (o2 dPow (eC (.int 10)) (eC (.int 35))))) (gNm 3))
def lwA5 : Rho → Out := (sAsg (eA (fun ds => noex (fn__law_more ds)) (aC (eV 1) (aC (eA (fun ds => noex (fn__law_digits ds)) (aC (eA (fun ds => noex (fn__law_cell ds)) (aC (eV 0) (aC (eC (.int 17)) aN))) (aC (eA dLst (aC (eC (.int 6)) (aC (eC (.int 300)) (aC (eC (.int 50)) (aC (eC (.int 1000000)) (aC (eC (.int 8)) (aC (eC (.int 40)) aN))))))) aN))) (aC (eV 3) aN)))) (gNm 4))
def lwA6 : Rho → Out := (sAsg (eA (fun ds => noex (fn__law_text ds)) (aC (eV 4) aN)) (gNm 5))
def lwA7 : Rho → Out := (sAsg (eA (fun ds => noex (fn__law_asked ds)) (aC (eV 5) aN)) (gNm 6))
def lwT8 : Rho → Res Bool := (tO (tV dBool (o2 dNe (o2 dIx (eP 6) (eC (.int 0))) (eC (.str "told")))) (tO (tN (tV dTruth (eA (fun ds => noex (fn__law_same ds)) (aC (o2 dIx (eP 6) (eC (.int 1))) (aC (eV 4) aN))))) (tN (tV dTruth (eA (fun ds => noex (fn__law_is_text ds)) (aC (eA (fun ds => noex (fn_format_store ds)) (aC (o2 dIx (eP 6) (eC (.int 1))) aN)) (aC (eV 5) aN)))))))
def lwE8 : Rho → Out := (sRet (eC (.bool false)))
def lwA9 : Rho → Out := (sAsg (oM isStrD dSplit (eP 5) (aC (eC (.str "\n")) aN)) (gNm 7))
def lwA10 : Rho → Out := (sAsg (oM isStrD dSplit (eP 2) (aC (eC (.str "\n")) aN)) (gNm 8))
def lwT11 : Rho → Res Bool := (tN (tV dTruth (eA (fun ds => noex (fn__law_right ds)) (aC (o2 dAdd (eP 5) (eC (.str "\n"))) aN))))
def lwE11 : Rho → Out := (sRet (eC (.bool false)))
def lwA12 : Rho → Out := (sFor (iRange1 (eC (.int 6))) (gNm 9) (sSeq (sAsg (eA (fun ds => noex (fn__law_digits ds)) (aC (eA (fun ds => noex (fn__law_cell ds)) (aC (eV 0) (aC (o2 dAdd (eC (.int 19)) (eP 9)) aN))) (aC (eA dLst (aC (eC (.int 18)) (aC (eC (.int 997)) (aC (eC (.int 12)) (aC (eC (.int 24)) (aC (eC (.int 14)) (aC (eC (.int 997)) (aC (eC (.int 16)) (aC (eC (.int 16)) aN))))))))) aN))) (gNm 10)) (sSeq (sAsg (eA (fun ds => noex (fn__law_spoilt ds)) (aC (o2 dIx (eA dLst (aC (eV 7) (aC (eV 7) (aC (eV 7) (aC (eV 8) (aC (eV 8) (aC (oSl dSlice (eP 8) oN (oS (eC (.int 2)))) aN))))))) (eP 9)) (aC (oSl dSlice (eP 10) oN (oS (eC (.int 4)))) aN))) (gNm 11)) (sSeq (sAsg (eA (fun ds => noex (fn__law_aimed ds)) (aC (eIf (tV dBool (o2 dEq (eP 9) (eC (.int 0)))) (eV 7) (eV 8)) (aC (oSl dSlice (eP 10) (oS (eC (.int 4))) oN) aN))) (gNm 12)) (sSeq (sIf (tV dBool (o2 dIn (eP 9) (eA dLst (aC (eC (.int 2)) (aC (eC (.int 5)) aN))))) (sAsg (eA (fun ds => noex (fn__law_aimed ds)) (aC (eV 11) (aC (oSl dSlice (eP 10) (oS (eC (.int 4))) oN) aN))) (gNm 11)) sNext) (sIf (tO (tN (tV dTruth (eA (fun ds => noex (fn__law_right ds)) (aC (oM isStrD dJoin (eC (.str "\n")) (aC (eP 11) aN)) aN)))) (tN (tV dTruth (eA (fun ds => noex (fn__law_right ds)) (aC (oM isStrD dJoin (eC (.str "\n")) (aC (eP 12) aN)) aN))))) (sRet (eC (.bool false))) sNext))))))
def lwA13 : Rho → Out := (sRet (eAnd (eA (fun ds => noex (fn__law_right ds)) (aC (eV 2) aN)) (eA (fun ds => noex (fn__law_same ds)) (aC (eA (fun ds => noex (fn_parse_store ds)) (aC (eV 5) aN)) (aC (eV 4) aN)))))
theorem lw_eq : F_law = sSeq lwA0 (sSeq lwA1 (sSeq (sIf lwT2 lwE2 sNext) (sSeq (sIf lwT3 lwE3 sNext) (sSeq lwA4 (sSeq lwA5 (sSeq lwA6 (sSeq lwA7 (sSeq (sIf lwT8 lwE8 sNext) (sSeq lwA9 (sSeq lwA10 (sSeq (sIf lwT11 lwE11 sNext) (sSeq lwA12 (lwA13))))))))))))) := rfl
section
variable {e e1 e2 e3 i : Rho → Res PyData} {ρ : Rho} {d d1 d2 d3 r : PyData} {f : List PyData → Res PyData}
theorem cl1 (he : e ρ = .ok d) (hf : f [d] = .ok r) : eA (fun ds => noex (f ds)) (aC e aN) ρ = .ok r := by
  rw [eA_get, aC_get, he]
  simp only [Res.ok_bind, aN_get]
  rw [hf]
  rfl
theorem cl2 (h1 : e1 ρ = .ok d1) (h2 : e2 ρ = .ok d2) (hf : f [d1, d2] = .ok r) : eA (fun ds => noex (f ds)) (aC e1 (aC e2 aN)) ρ = .ok r := by
  rw [eA_get, aC_get, h1, aC_get, h2]
  simp only [Res.ok_bind, aN_get]
  rw [hf]
  rfl
theorem cl3 (h1 : e1 ρ = .ok d1) (h2 : e2 ρ = .ok d2) (h3 : e3 ρ = .ok d3) (hf : f [d1, d2, d3] = .ok r) : eA (fun ds => noex (f ds)) (aC e1 (aC e2 (aC e3 aN))) ρ = .ok r := by
  rw [eA_get, aC_get, h1, aC_get, h2, aC_get, h3]
  simp only [Res.ok_bind, aN_get]
  rw [hf]
  rfl
theorem tn_t (h : e ρ = .ok (.bool true)) : tN (tV dTruth e) ρ = .ok false := by
  rw [tN_get, tV_get, h]
  rfl
theorem to_f {f g : Rho → Res Bool} (h1 : f ρ = .ok false) (h2 : g ρ = .ok false) : tO f g ρ = .ok false := by
  rw [tO_get, h1, Res.ok_bind, if_neg (by decide), h2]
theorem pass {c : Rho → Res Bool} {E : Rho → Out} (h : c ρ = .ok false) : sIf c E sNext ρ = .nx ρ := if_f h
theorem split_nl {x : Str} (h : e ρ = .ok (.str x)) (hl : x.length + 2 ≤ 16777216) : oM isStrD dSplit e (aC (eC (.str "\n")) aN) ρ = .ok (encW (Txt.split x NL)) := by
  have hs : dSplit (.str x) [.str NL] = some (encW (Txt.split x NL)) := dSplit_ok x NL (by decide +kernel) (by rw [sizeLine_eq]; exact hl)
  rw [oM_get, h, Res.ok_bind, aC_get, eC_get]
  simp only [isStr_s, if_true, Res.ok_bind, aN_get]
  have e : ("\n" : Str) = NL := by decide +kernel
  show Res.of (dSplit (.str x) [.str ("\n" : Str)]) = _
  rw [e, hs]
  rfl
theorem sn_to {row : List Int} {n : Nat} (he : e ρ = .ok (encN row)) (hi : i ρ = .ok (.int (n : Int))) : oSl dSlice e oN (oS i) ρ = .ok (encN (row.take n)) := by
  rw [oSl_get, he, oN_get, oS_get, hi]
  simp only [Res.ok_bind]
  unfold encN
  rw [dSlice_l, cut_to, List.map_take]
  rfl
theorem sn_from {row : List Int} {n : Nat} (he : e ρ = .ok (encN row)) (hi : i ρ = .ok (.int (n : Int))) : oSl dSlice e (oS i) oN ρ = .ok (encN (row.drop n)) := by
  rw [oSl_get, he, oN_get, oS_get, hi]
  simp only [Res.ok_bind]
  unfold encN
  rw [dSlice_l, cut_from, List.map_drop]
  rfl
end
theorem Dg.take : ∀ {row ss : List Int} (n : Nat), Dg row ss → Dg (row.take n) (ss.take n)
  | [], [], 0, _ => trivial
  | [], [], _ + 1, _ => trivial
  | r :: rs, s :: ss, 0, _ => trivial
  | r :: rs, s :: ss, n + 1, ⟨h1, h2⟩ => ⟨h1, Dg.take n h2⟩
theorem Dg.drop : ∀ {row ss : List Int} (n : Nat), Dg row ss → Dg (row.drop n) (ss.drop n)
  | [], [], 0, _ => trivial
  | [], [], _ + 1, _ => trivial
  | r :: rs, s :: ss, 0, h => h
  | r :: rs, s :: ss, n + 1, ⟨_, h2⟩ => Dg.drop n h2
theorem rok_of {x : Str} (h : TOk x) {ts : List Tb} (e : parseL 0 (linesOf x) [] = .inr ts) : ROk ts ∧ PyData.eqv (encS ts) (encS ts) = true := by
  have hl : sumL (linesOf x) ≤ x.length + 1 := by
    unfold linesOf
    split
    · exact Nat.zero_le _
    · exact split_sum x NL (s := 10) (by decide +kernel) nl_k
  have hg := parse_good 0 _ _ _ h.ok (fun t ht => (by cases ht)) e
  have hc := parse_cost 0 _ _ _ e
  have h0 : cS [] = 0 := rfl
  have := h.len
  exact good_rok hg (by rw [sizeLine_eq]; omega)
theorem join_nl : ∀ l : List Str, l ≠ [] → Txt.join NL (l ++ [("" : Str)]) = Txt.join NL l ++ NL
  | [x], _ => by
    rw [TL.join_eq, TL.join_eq]
    show x ++ NL ++ ("" : Str) = x ++ NL
    refine TL.ext_tl ?_
    have e0 : TL.tl ("" : Str) = [] := by decide +kernel
    rw [TL.tl_append, e0, List.append_nil]
  | x :: z :: r, _ => by
    have ih := join_nl (z :: r) (by simp)
    rw [TL.join_eq, TL.join_eq] at ih ⊢
    have e1 : Str.join NL (x :: z :: r ++ [("" : Str)]) = x ++ NL ++ Str.join NL (z :: r ++ [("" : Str)]) := rfl
    have e2 : Str.join NL (x :: z :: r) = x ++ NL ++ Str.join NL (z :: r) := rfl
    rw [e1, e2, ih]
    refine TL.ext_tl ?_
    simp only [TL.tl_append, List.append_assoc]
theorem Sto.lne {us : List Tb} {S : Nat} (h : Sto S us) : linesT us ≠ [] := by
  have := h.ne
  match us, this with
  | t :: r, _ =>
    unfold linesT
    rw [List.flatMap_cons]
    exact fun z => by cases z
theorem Sto.split {us : List Tb} {S : Nat} (h : Sto S us) : Txt.split (textOf us) NL = linesT us := lines_join h.ls h.lne
theorem Sto.len {us : List Tb} {S : Nat} (h : Sto S us) : (textOf us).length ≤ S := Nat.le_trans (join_len1 NL (by decide +kernel) _) h.ls.sum
theorem tok_nl {us : List Tb} {S : Nat} (h : Sto S us) (hS : S ≤ 900000) : TOk (textOf us ++ NL) := by
  unfold textOf
  rw [← join_nl _ h.lne]
  exact (h.ls.app (Ls.one (empty_ln.mono (Nat.zero_le _)) (c := 0) (by decide +kernel)) |>.mono (by omega) (by omega)).tok
theorem tok_empty : TOk ("" : Str) := by
  have e : ("" : Str) = Txt.join NL [] := by decide +kernel
  rw [e]
  exact Ls.tok ⟨fun l hl => (by cases hl), Nat.zero_le _⟩
theorem tok_line : TOk ("\n" : Str) := by
  have e : ("\n" : Str) = Txt.join NL [("" : Str), ("" : Str)] := by decide +kernel
  rw [e]
  refine Ls.tok ⟨fun l hl => ?_, by decide +kernel⟩
  have : l = ("" : Str) := by simpa using hl
  rw [this]
  exact empty_ln.mono (Nat.zero_le _)
theorem fmt_empty : fn_format_store [.tuple []] = .ok (.str ("" : Str)) := by
  have e := ev_format_store [] ⟨fun t ht => (by cases ht), Nat.zero_le _⟩
  have e0 : textOf [] = ("" : Str) := by decide +kernel
  rw [e0] at e
  exact e
/-! ### the rounds -/
def rdS : List Int := [18, 997, 12, 24, 14, 997, 16, 16]
def rdRow : Rho → Out := sAsg (eA (fun ds => noex (fn__law_digits ds)) (aC (eA (fun ds => noex (fn__law_cell ds)) (aC (eV 0) (aC (o2 dAdd (eC (.int 19)) (eP 9)) aN))) (aC (eA dLst (aC (eC (.int 18)) (aC (eC (.int 997)) (aC (eC (.int 12)) (aC (eC (.int 24)) (aC (eC (.int 14)) (aC (eC (.int 997)) (aC (eC (.int 16)) (aC (eC (.int 16)) aN))))))))) aN))) (gNm 10)
def rdOne : Rho → Out := sAsg (eA (fun ds => noex (fn__law_spoilt ds)) (aC (o2 dIx (eA dLst (aC (eV 7) (aC (eV 7) (aC (eV 7) (aC (eV 8) (aC (eV 8) (aC (oSl dSlice (eP 8) oN (oS (eC (.int 2)))) aN))))))) (eP 9)) (aC (oSl dSlice (eP 10) oN (oS (eC (.int 4)))) aN))) (gNm 11)
def rdTwo : Rho → Out := sAsg (eA (fun ds => noex (fn__law_aimed ds)) (aC (eIf (tV dBool (o2 dEq (eP 9) (eC (.int 0)))) (eV 7) (eV 8)) (aC (oSl dSlice (eP 10) (oS (eC (.int 4))) oN) aN))) (gNm 12)
def rdIf : Rho → Out := sIf (tV dBool (o2 dIn (eP 9) (eA dLst (aC (eC (.int 2)) (aC (eC (.int 5)) aN))))) (sAsg (eA (fun ds => noex (fn__law_aimed ds)) (aC (eV 11) (aC (oSl dSlice (eP 10) (oS (eC (.int 4))) oN) aN))) (gNm 11)) sNext
def rdEnd : Rho → Out := sIf (tO (tN (tV dTruth (eA (fun ds => noex (fn__law_right ds)) (aC (oM isStrD dJoin (eC (.str "\n")) (aC (eP 11) aN)) aN)))) (tN (tV dTruth (eA (fun ds => noex (fn__law_right ds)) (aC (oM isStrD dJoin (eC (.str "\n")) (aC (eP 12) aN)) aN))))) (sRet (eC (.bool false))) sNext
def rdBody : Rho → Out := sSeq rdRow (sSeq rdOne (sSeq rdTwo (sSeq rdIf rdEnd)))
theorem rounds_eq : lwA12 = sFor (iRange1 (eC (.int 6))) (gNm 9) rdBody := rfl
abbrev lw (ns : List Int) (A B C D E F : PyData) (L M : List Str) (s9 s10 s11 s12 : Sl) : Rho := [.d (encN ns), .d A, .d B, .d C, .d D, .d E, .d F, .d (encW L), .d (encW M), s9, s10, s11, s12]
section
variable {ns : List Int} {A B C D E F : PyData} {L M : List Str} {s9 s10 s11 s12 : Sl} {j : Nat}
theorem rd_row (hj : j < 6) : ∃ row, Dg row rdS ∧ rdRow (lw ns A B C D E F L M (.d (.int (j : Int))) s10 s11 s12) = .nx (lw ns A B C D E F L M (.d (.int (j : Int))) (.d (encN row)) s11 s12) := by
  obtain ⟨c, e1⟩ := ev_cell ns (19 + j) (by omega)
  obtain ⟨row, hd, e2⟩ := ev_digits c rdS ⟨by decide, by decide⟩
  refine ⟨row, hd, ?_⟩
  have ej : o2 dAdd (eC (.int 19)) (eP 9) (lw ns A B C D E F L M (.d (.int (j : Int))) s10 s11 s12) = .ok (.int ((19 + j : Nat) : Int)) := by
    rw [Int.natCast_add]
    rfl
  unfold rdRow
  exact asg_ok (cl2 (cl2 rfl ej e1) (lst_ints rdS (by decide)) e2)
section
variable {row : List Int} (hd : Dg row rdS) (hL : Ls 36 210000 L) (hM : Ls 36 210000 M) (hj : j < 6)
include hd hL hM hj
theorem rd_one : ∃ one, Ls 77 420136 one ∧ rdOne (lw ns A B C D E F L M (.d (.int (j : Int))) (.d (encN row)) s11 s12) = .nx (lw ns A B C D E F L M (.d (.int (j : Int))) (.d (encN row)) (.d (encW one)) s12) := by
  have key : ∀ j, j < 6 → ∃ X, [encW L, encW L, encW L, encW M, encW M, encW (M.take 2)][j]? = some (encW X) ∧ Ls 36 210000 X := fun j hj => match j, hj with
    | 0, _ => ⟨_, rfl, hL⟩
    | 1, _ => ⟨_, rfl, hL⟩
    | 2, _ => ⟨_, rfl, hL⟩
    | 3, _ => ⟨_, rfl, hM⟩
    | 4, _ => ⟨_, rfl, hM⟩
    | 5, _ => ⟨_, rfl, hM.take⟩
  obtain ⟨X, ex, hX⟩ := key j hj
  have hd4 : Dg (row.take 4) swS := hd.take 4
  obtain ⟨one, e1, h1⟩ := ev_spoilt hX (by omega) (by omega) hd4
  refine ⟨one, h1, ?_⟩
  have es := sl_to (e := eP 8) (i := eC (.int 2)) (ρ := lw ns A B C D E F L M (.d (.int (j : Int))) (.d (encN row)) s11 s12) (ws := M) (n := 2) rfl rfl
  have el := dLst_ok [encW L, encW L, encW L, encW M, encW M, encW (M.take 2)] (by rw [sizeLine_eq]; exact Nat.le_of_ble_eq_true rfl)
  have e7 : eV 7 (lw ns A B C D E F L M (.d (.int (j : Int))) (.d (encN row)) s11 s12) = .ok (encW L) := rfl
  have e8 : eV 8 (lw ns A B C D E F L M (.d (.int (j : Int))) (.d (encN row)) s11 s12) = .ok (encW M) := rfl
  have e9 : eP 9 (lw ns A B C D E F L M (.d (.int (j : Int))) (.d (encN row)) s11 s12) = .ok (.int (j : Int)) := rfl
  have e0 : o2 dIx (eA dLst (aC (eV 7) (aC (eV 7) (aC (eV 7) (aC (eV 8) (aC (eV 8) (aC (oSl dSlice (eP 8) oN (oS (eC (.int 2)))) aN))))))) (eP 9) (lw ns A B C D E F L M (.d (.int (j : Int))) (.d (encN row)) s11 s12) = .ok (encW X) := by
    simp only [o2_get, eA_get, aC_get, e7, e8, es, e9, Res.ok_bind, aN_get, el, dIx_l, ex, of_some]
  unfold rdOne
  exact asg_ok (cl2 e0 (sn_to (n := 4) rfl rfl) e1)
theorem rd_two : ∃ two, Ls 77 420136 two ∧ rdTwo (lw ns A B C D E F L M (.d (.int (j : Int))) (.d (encN row)) s11 s12) = .nx (lw ns A B C D E F L M (.d (.int (j : Int))) (.d (encN row)) s11 (.d (encW two))) := by
  have hd4 : Dg (row.drop 4) amS := hd.drop 4
  obtain ⟨X, ex, hX⟩ : ∃ X, eIf (tV dBool (o2 dEq (eP 9) (eC (.int 0)))) (eV 7) (eV 8) (lw ns A B C D E F L M (.d (.int (j : Int))) (.d (encN row)) s11 s12) = .ok (encW X) ∧ Ls 36 210000 X := by
    have ht : tV dBool (o2 dEq (eP 9) (eC (.int 0))) (lw ns A B C D E F L M (.d (.int (j : Int))) (.d (encN row)) s11 s12) = .ok (decide ((j : Int) = 0)) := eq_i rfl rfl
    by_cases h0 : (j : Int) = 0
    · exact ⟨L, by rw [eIf_get, ht, decide_eq_true h0]; rfl, hL⟩
    · exact ⟨M, by rw [eIf_get, ht, decide_eq_false h0]; rfl, hM⟩
  obtain ⟨two, e1, h1⟩ := ev_aimed hX (by omega) (by omega) hd4
  refine ⟨two, h1, ?_⟩
  unfold rdTwo
  exact asg_ok (cl2 ex (sn_from (n := 4) rfl rfl) e1)
end
theorem rd_if {row : List Int} (hd : Dg row rdS) {one : List Str} (h1 : Ls 77 420136 one) : ∃ one', Ls 118 900000 one' ∧ rdIf (lw ns A B C D E F L M (.d (.int (j : Int))) (.d (encN row)) (.d (encW one)) s12) = .nx (lw ns A B C D E F L M (.d (.int (j : Int))) (.d (encN row)) (.d (encW one')) s12) := by
  have hd4 : Dg (row.drop 4) amS := hd.drop 4
  obtain ⟨one', e1, h2⟩ := ev_aimed h1 (by omega) (by omega) hd4
  have ht : tV dBool (o2 dIn (eP 9) (eA dLst (aC (eC (.int 2)) (aC (eC (.int 5)) aN)))) (lw ns A B C D E F L M (.d (.int (j : Int))) (.d (encN row)) (.d (encW one)) s12) = .ok (decide ((j : Int) ∈ [2, 5])) := in_i rfl (lst_ints [2, 5] (by decide))
  unfold rdIf
  by_cases hb : (j : Int) ∈ [2, 5]
  · rw [decide_eq_true hb] at ht
    refine ⟨one', h2.mono (by omega) (by omega), (if_t ht).trans ?_⟩
    exact asg_ok (cl2 rfl (sn_from (n := 4) rfl rfl) e1)
  · rw [decide_eq_false hb] at ht
    exact ⟨one, h1.mono (by omega) (by omega), pass ht⟩
theorem rd_end {one two : List Str} (h1 : Ls 118 900000 one) (h2 : Ls 118 900000 two) : rdEnd (lw ns A B C D E F L M s9 s10 (.d (encW one)) (.d (encW two))) = .nx (lw ns A B C D E F L M s9 s10 (.d (encW one)) (.d (encW two))) := by
  have t1 : TOk (Txt.join NL one) := (h1.mono (by omega) (by omega)).tok
  have t2 : TOk (Txt.join NL two) := (h2.mono (by omega) (by omega)).tok
  have q1 := h1.sum
  have q2 := h2.sum
  unfold rdEnd
  exact pass (to_f (tn_t (cl1 (join_w (y := NL) (by decide +kernel) rfl (by omega)) (right_all _ t1))) (tn_t (cl1 (join_w (y := NL) (by decide +kernel) rfl (by omega)) (right_all _ t2))))
theorem rd_body (hL : Ls 36 210000 L) (hM : Ls 36 210000 M) (hj : j < 6) : ∃ x10 x11 x12, rdBody (lw ns A B C D E F L M (.d (.int (j : Int))) s10 s11 s12) = .nx (lw ns A B C D E F L M (.d (.int (j : Int))) x10 x11 x12) := by
  obtain ⟨row, hd, e1⟩ := rd_row (ns := ns) (A := A) (B := B) (C := C) (D := D) (E := E) (F := F) (L := L) (M := M) (s10 := s10) (s11 := s11) (s12 := s12) hj
  obtain ⟨one, h1, e2⟩ := rd_one (ns := ns) (A := A) (B := B) (C := C) (D := D) (E := E) (F := F) (s11 := s11) (s12 := s12) hd hL hM hj
  obtain ⟨two, h2, e3⟩ := rd_two (ns := ns) (A := A) (B := B) (C := C) (D := D) (E := E) (F := F) (s11 := .d (encW one)) (s12 := s12) hd hL hM hj
  obtain ⟨one', h3, e4⟩ := rd_if (ns := ns) (A := A) (B := B) (C := C) (D := D) (E := E) (F := F) (L := L) (M := M) (j := j) (s12 := .d (encW two)) hd h1
  exact ⟨_, _, _, (seq_nx e1).trans ((seq_nx e2).trans ((seq_nx e3).trans ((seq_nx e4).trans (rd_end h3 (h2.mono (by omega) (by omega))))))⟩
theorem rd_loop (hL : Ls 36 210000 L) (hM : Ls 36 210000 M) : ∀ (js : List Nat) (s9 s10 s11 s12 : Sl), (∀ j ∈ js, j < 6) → ∃ x9 x10 x11 x12, forL (gNm 9) rdBody (js.map fun (j : Nat) => .int (0 + (j : Int))) (lw ns A B C D E F L M s9 s10 s11 s12) = .nx (lw ns A B C D E F L M x9 x10 x11 x12)
  | [], s9, s10, s11, s12, _ => ⟨s9, s10, s11, s12, rfl⟩
  | j :: js, s9, s10, s11, s12, h => by
    obtain ⟨x10, x11, x12, e⟩ := rd_body (ns := ns) (A := A) (B := B) (C := C) (D := D) (E := E) (F := F) (s10 := s10) (s11 := s11) (s12 := s12) hL hM (h j List.mem_cons_self)
    obtain ⟨y9, y10, y11, y12, q⟩ := rd_loop hL hM js (.d (.int (j : Int))) x10 x11 x12 fun i hi => h i (List.mem_cons_of_mem _ hi)
    refine ⟨y9, y10, y11, y12, ?_⟩
    rw [List.map_cons, forL_cons (ρ1 := lw ns A B C D E F L M (.d (.int (0 + (j : Int)))) s10 s11 s12) rfl, Int.zero_add, e]
    exact q
theorem lw_a12 (hL : Ls 36 210000 L) (hM : Ls 36 210000 M) : ∃ x9 x10 x11 x12, lwA12 (lw ns A B C D E F L M s9 s10 s11 s12) = .nx (lw ns A B C D E F L M x9 x10 x11 x12) := by
  obtain ⟨x9, x10, x11, x12, q⟩ := rd_loop (ns := ns) (A := A) (B := B) (C := C) (D := D) (E := E) (F := F) hL hM (List.range' 0 6) s9 s10 s11 s12 fun j hj => by have := (List.mem_range'_1.mp hj).2; omega
  refine ⟨x9, x10, x11, x12, ?_⟩
  rw [rounds_eq, for_range (n := 6) rfl (by omega), rng_eq]
  exact q
end
end K92
end
section
set_option Elab.async false
set_option linter.all false
set_option maxRecDepth 100000
set_option maxHeartbeats 2000000
namespace K92
open PySem PySem.Spec PyProof.Rows L2 DL
abbrev lw13 (ns : List Int) (s1 s2 s3 s4 s5 s6 s7 s8 : Sl) : Rho := [.d (encN ns), s1, s2, s3, s4, s5, s6, s7, s8, .u, .u, .u, .u]
section
variable {ns : List Int} {s1 s2 s3 s4 s5 s6 s7 s8 : Sl} {ts us : List Tb}
theorem lw_a0 (h : fn__law_store [encN ns] = .ok (encS ts)) : lwA0 (lw13 ns .u .u .u .u .u .u .u .u) = .nx (lw13 ns (.d (encS ts)) .u .u .u .u .u .u .u) := by
  unfold lwA0
  exact asg_ok (cl1 rfl h)
theorem lw_a1 (h : FOk ts) : lwA1 (lw13 ns (.d (encS ts)) .u .u .u .u .u .u .u) = .nx (lw13 ns (.d (encS ts)) (.d (.str (textOf ts))) .u .u .u .u .u .u) := by
  unfold lwA1
  exact asg_ok (cl1 rfl (ev_law_text ts h))
theorem lw_t2 (h : FOk ts) (hk : TOk (textOf ts)) : lwT2 (lw13 ns (.d (encS ts)) (.d (.str (textOf ts))) s3 s4 s5 s6 s7 s8) = .ok false := by
  unfold lwT2
  exact to_f (tn_t (cl2 (cl1 rfl (ev_format_store ts h)) rfl (ev_is_text _))) (tn_t (cl1 rfl (right_all _ hk)))
theorem lw_t3 : lwT3 (lw13 ns s1 s2 s3 s4 s5 s6 s7 s8) = .ok false := by
  have e0 : eA dTup aN (lw13 ns s1 s2 s3 s4 s5 s6 s7 s8) = .ok (.tuple []) := dTup_ok [] (Nat.zero_le _)
  unfold lwT3
  exact to_f (tn_t (cl2 (cl1 e0 fmt_empty) rfl (ev_is_text _))) (to_f (tn_t (cl1 rfl (right_all _ tok_empty))) (tn_t (cl1 rfl (right_all _ tok_line))))
theorem pow_ok (n : Nat) (hn : n ≤ 1000) (ρ : Rho) : o2 dPow (eC (.int 10)) (eC (.int (n : Int))) ρ = .ok (.int (10 ^ n)) := by
  have : dPow (.int 10) (.int (n : Int)) = some (.int ((10 : Int) ^ ((n : Int).toNat))) := gdt (decide_eq_true ⟨by omega, by omega, by decide⟩)
  rw [o2_get, eC_get, eC_get, Res.ok_bind, Res.ok_bind, this, Int.toNat_natCast]
  rfl
theorem lw_a4 : ∃ g : Int, 0 ≤ g ∧ BigN (g + 4) ∧ lwA4 (lw13 ns s1 s2 .u s4 s5 s6 s7 s8) = .nx (lw13 ns s1 s2 (.d (.int g)) s4 s5 s6 s7 s8) := by
  obtain ⟨c, e1⟩ := ev_cell ns 18 (by omega)
  have p1 := pow_ok 30 (by omega) (lw13 ns s1 s2 .u s4 s5 s6 s7 s8)
  have p2 := pow_ok 35 (by omega) (lw13 ns s1 s2 .u s4 s5 s6 s7 s8)
  have hp : (0 : Int) < 10 ^ 35 := by decide +kernel
  have e2 : eA (fun ds => noex (fn__law_cell ds)) (aC (eV 0) (aC (eC (.int 18)) aN)) (lw13 ns s1 s2 .u s4 s5 s6 s7 s8) = .ok (.int c) := cl2 rfl rfl e1
  have hm := dMod_ii c hp
  have h0 := Int.emod_nonneg c (show ((10 : Int) ^ 35) ≠ 0 by omega)
  have h1 := Int.emod_lt_of_pos c hp
  have q1 : (10 : Int) ^ 30 + 10 ^ 35 + 4 ≤ 10 ^ 36 := by decide +kernel
  have q2 : (0 : Int) ≤ 10 ^ 30 := by decide +kernel
  refine ⟨10 ^ 30 + c % 10 ^ 35, by omega, ⟨by omega, by omega⟩, ?_⟩
  unfold lwA4
  refine asg_ok ?_
  have p1' : o2 dPow (eC (.int 10)) (eC (.int 30)) (lw13 ns s1 s2 .u s4 s5 s6 s7 s8) = .ok (.int (10 ^ 30)) := p1
  have p2' : o2 dPow (eC (.int 10)) (eC (.int 35)) (lw13 ns s1 s2 .u s4 s5 s6 s7 s8) = .ok (.int (10 ^ 35)) := p2
  have m2 : o2 dMod (oA dInt (aC (eA (fun ds => noex (fn__law_cell ds)) (aC (eV 0) (aC (eC (.int 18)) aN))) aN)) (o2 dPow (eC (.int 10)) (eC (.int 35))) (lw13 ns s1 s2 .u s4 s5 s6 s7 s8) = .ok (.int (c % 10 ^ 35)) := by
    rw [o2_get, oA_get, aC_get, e2, p2']
    simp only [Res.ok_bind, aN_get, dInt_i, of_some, hm]
  exact add_i p1' m2
theorem lw_a5 (hD : Dr ts) (hne : ts ≠ []) (hl : ts.length ≤ 8) {g : Int} (hg0 : 0 ≤ g) (hg : BigN (g + 4)) : ∃ us, Sto 210000 us ∧ lwA5 (lw13 ns (.d (encS ts)) s2 (.d (.int g)) .u s5 s6 s7 s8) = .nx (lw13 ns (.d (encS ts)) s2 (.d (.int g)) (.d (encS us)) s5 s6 s7 s8) := by
  obtain ⟨c, e1⟩ := ev_cell ns 17 (by omega)
  obtain ⟨row, hd, e2⟩ := ev_digits c mrS ⟨by decide, by decide⟩
  obtain ⟨us, h, e3⟩ := ev_more hD hne hl hd hg0 hg
  refine ⟨us, h, ?_⟩
  unfold lwA5
  exact asg_ok (cl3 rfl (cl2 (cl2 rfl rfl e1) (lst_ints mrS (by decide)) e2) rfl e3)
theorem lw_a6 (h : FOk us) : lwA6 (lw13 ns s1 s2 s3 (.d (encS us)) .u s6 s7 s8) = .nx (lw13 ns s1 s2 s3 (.d (encS us)) (.d (.str (textOf us))) s6 s7 s8) := by
  unfold lwA6
  exact asg_ok (cl1 rfl (ev_law_text us h))
def toldD (us : List Tb) : PyData := .list [.str "told", encS us]
theorem lw_a7 (hk : TOk (textOf us)) (hv : Vd us) : lwA7 (lw13 ns s1 s2 s3 s4 (.d (.str (textOf us))) .u s7 s8) = .nx (lw13 ns s1 s2 s3 s4 (.d (.str (textOf us))) (.d (toldD us)) s7 s8) := by
  have e := ev_law_asked (textOf us) hk
  rw [round hv] at e
  unfold lwA7
  exact asg_ok (cl1 rfl e)
theorem lw_t8 (h : FOk us) (hk : TOk (textOf us)) (hv : Vd us) : lwT8 (lw13 ns s1 s2 s3 (.d (encS us)) (.d (.str (textOf us))) (.d (toldD us)) s7 s8) = .ok false := by
  obtain ⟨r1, r2⟩ := rok_of hk (round hv)
  have es := ev_law_same r1 r2
  have i0 : o2 dIx (eP 6) (eC (.int 0)) (lw13 ns s1 s2 s3 (.d (encS us)) (.d (.str (textOf us))) (.d (toldD us)) s7 s8) = .ok (.str "told") := by
    show Res.of (dIx (.list [.str "told", encS us]) (.int 0)) = _
    rw [dIx_l0]
    rfl
  have i1 : o2 dIx (eP 6) (eC (.int 1)) (lw13 ns s1 s2 s3 (.d (encS us)) (.d (.str (textOf us))) (.d (toldD us)) s7 s8) = .ok (encS us) := by
    show Res.of (dIx (.list [.str "told", encS us]) (.int 1)) = _
    rw [dIx_l1]
    rfl
  have n0 : tV dBool (o2 dNe (o2 dIx (eP 6) (eC (.int 0))) (eC (.str "told"))) (lw13 ns s1 s2 s3 (.d (encS us)) (.d (.str (textOf us))) (.d (toldD us)) s7 s8) = .ok false := by
    rw [tV_get, o2_get, i0, eC_get, Res.ok_bind, Res.ok_bind, dNe_ss]
    rfl
  unfold lwT8
  exact to_f n0 (to_f (tn_t (cl2 i1 rfl es)) (tn_t (cl2 (cl1 i1 (ev_format_store us h)) rfl (ev_is_text _))))
theorem lw_a9 {S : Nat} (h : Sto S us) (hS : S ≤ 900000) : lwA9 (lw13 ns s1 s2 s3 s4 (.d (.str (textOf us))) s6 .u s8) = .nx (lw13 ns s1 s2 s3 s4 (.d (.str (textOf us))) s6 (.d (encW (linesT us))) s8) := by
  have e := split_nl (e := eP 5) (ρ := lw13 ns s1 s2 s3 s4 (.d (.str (textOf us))) s6 .u s8) (x := textOf us) rfl (by have := h.len; omega)
  rw [h.split] at e
  unfold lwA9
  exact asg_ok e
theorem lw_a10 {S : Nat} (h : Sto S ts) (hS : S ≤ 900000) : lwA10 (lw13 ns s1 (.d (.str (textOf ts))) s3 s4 s5 s6 s7 .u) = .nx (lw13 ns s1 (.d (.str (textOf ts))) s3 s4 s5 s6 s7 (.d (encW (linesT ts)))) := by
  have e := split_nl (e := eP 2) (ρ := lw13 ns s1 (.d (.str (textOf ts))) s3 s4 s5 s6 s7 .u) (x := textOf ts) rfl (by have := h.len; omega)
  rw [h.split] at e
  unfold lwA10
  exact asg_ok e
theorem lw_t11 {S : Nat} (h : Sto S us) (hS : S ≤ 900000) : lwT11 (lw13 ns s1 s2 s3 s4 (.d (.str (textOf us))) s6 s7 s8) = .ok false := by
  have hn : NL.length = 1 := by decide +kernel
  have e : o2 dAdd (eP 5) (eC (.str "\n")) (lw13 ns s1 s2 s3 s4 (.d (.str (textOf us))) s6 s7 s8) = .ok (.str (textOf us ++ NL)) := add_s (y := NL) rfl rfl (by have := h.len; rw [hn]; omega)
  unfold lwT11
  exact tn_t (cl1 e (right_all _ (tok_nl h hS)))
theorem lw_a13 (ht : TOk (textOf ts)) (hk : TOk (textOf us)) (hv : Vd us) {A C F : PyData} {L M : List Str} {s9 s10 s11 s12 : Sl} : lwA13 (lw ns A (.str (textOf ts)) C (encS us) (.str (textOf us)) F L M s9 s10 s11 s12) = .rt (.bool true) := by
  obtain ⟨r1, r2⟩ := rok_of hk (round hv)
  have es := ev_law_same r1 r2
  have ep := ev_parse_store (textOf us) hk
  rw [round hv] at ep
  unfold lwA13
  rw [sRet_get]
  have e1 : eA (fun ds => noex (fn__law_right ds)) (aC (eV 2) aN) ((lw ns A (.str (textOf ts)) C (encS us) (.str (textOf us)) F L M s9 s10 s11 s12).map frz1) = .ok (.bool true) := cl1 rfl (right_all _ ht)
  have e2 : eA (fun ds => noex (fn__law_same ds)) (aC (eA (fun ds => noex (fn_parse_store ds)) (aC (eV 5) aN)) (aC (eV 4) aN)) ((lw ns A (.str (textOf ts)) C (encS us) (.str (textOf us)) F L M s9 s10 s11 s12).map frz1) = .ok (.bool true) := cl2 (cl1 rfl ep) rfl es
  rw [eAnd_get, e1]
  simp only [Res.ok_bind]
  rw [e2]
  rfl
end
theorem law_true (ns : List Int) : fn_law [encN ns] = .ok (.bool true) := by
  obtain ⟨ts, hD, hne, hl, hp, e0⟩ := ev_store ns
  have hc : cost ts ≤ 210000 := by
    have q := cost_bd (c := 7) (l := ts) hD.rws
    omega
  have hS := mo_sto hD.mo hp hne hc
  obtain ⟨g, hg0, hg, e4⟩ := lw_a4 (ns := ns) (s1 := .d (encS ts)) (s2 := .d (.str (textOf ts))) (s4 := .u) (s5 := .u) (s6 := .u) (s7 := .u) (s8 := .u)
  obtain ⟨us, hU, e5⟩ := lw_a5 (ns := ns) (s2 := .d (.str (textOf ts))) (s5 := .u) (s6 := .u) (s7 := .u) (s8 := .u) hD hne hl hg0 hg
  obtain ⟨x9, x10, x11, x12, e12⟩ := lw_a12 (ns := ns) (A := encS ts) (B := .str (textOf ts)) (C := .int g) (D := encS us) (E := .str (textOf us)) (F := toldD us) (s9 := .u) (s10 := .u) (s11 := .u) (s12 := .u) hU.ls hS.ls
  have fu := hU.fok (by omega)
  have ft := hS.fok (by omega)
  have ku := hU.tok (by omega)
  have kt := hS.tok (by omega)
  refine run_rt rfl ?_
  rw [lw_eq]
  refine (seq_nx (lw_a0 e0)).trans ?_
  refine (seq_nx (lw_a1 ft)).trans ?_
  refine (seq_nx (pass (lw_t2 ft kt))).trans ?_
  refine (seq_nx (pass lw_t3)).trans ?_
  refine (seq_nx e4).trans ?_
  refine (seq_nx e5).trans ?_
  refine (seq_nx (lw_a6 fu)).trans ?_
  refine (seq_nx (lw_a7 ku hU.vd)).trans ?_
  refine (seq_nx (pass (lw_t8 fu ku hU.vd))).trans ?_
  refine (seq_nx (lw_a9 hU (by omega))).trans ?_
  refine (seq_nx (lw_a10 hS (by omega))).trans ?_
  refine (seq_nx (pass (lw_t11 hU (by omega)))).trans ?_
  refine (seq_nx e12).trans ?_
  exact lw_a13 kt ku hU.vd
end K92
end
section
set_option Elab.async false
set_option linter.all false
set_option maxRecDepth 100000
set_option maxHeartbeats 0
namespace K92
open PySem PySem.Spec PyProof.Rows L2 DL
theorem pure_law (ns : List Int) (h1 : ns.length ≤ 63) (h2 : ∀ z ∈ ns, Builtin.Int.intBits z ≤ 1048576) : fn_law [.list (ns.map .int)] = .ok (.bool true) := law_true ns
theorem sp_law {K : PySem.W.Frag} {ad : Str → Addr} {H : Hp} {a : Addr} {ns : List Int} (hS : SqL K H a (ns.map V.int)) (e : fn_law [.list (ns.map .int)] = .ok (.bool true)) : sp0 K (cm0 ad) fn_law [.ref a] H (fun v _ => v = .bl true) fun _ _ _ => False := by
  refine ⟨fun _ => False, [.list (ns.map .int)], fun a h => h.elim, ?_, ?_⟩
  · refine DpAll.one (.lst ?_ (all_int ns))
    have em : msk (fun _ => False) H = H := by
      funext b
      exact msk_of (fun z => z)
    rw [em]
    exact hS
  · rw [e]
    intro v H' s r
    cases r
    rfl
end K92
open PySem PySem.W PySem.Calls PyProof.Rows
theorem PySem.Challenge.cw_squaremiddles_k92_store_texts_whole_holds : PySem.Challenge.rw_squaremiddles_k92_store_texts_whole.Holds := by
  w_on; o_law
  refine HandSHeadRun.head_any (r := OpenLaw.row PySem.Challenge.rw_squaremiddles_k92_store_texts_whole) (q := view (OpenLaw.row PySem.Challenge.rw_squaremiddles_k92_store_texts_whole).prog [38]) (H := K92.hk) (ob := K92.ob) (M := 20000) (loose := K92.looses) (d := HandSHeadRun.topDef (OpenLaw.row PySem.Challenge.rw_squaremiddles_k92_store_texts_whole).prog 38) (kwd := []) K92.ob_eq
    (by kernel_rfl) (fun s => by kernel_rfl) K92.run (by kernel_rfl) (by kernel_rfl) (by kernel_rfl) (by rfl) (by first | assumption | decide +kernel) (by decide +kernel) ⟨rfl, rfl, rfl, rfl, rfl, by decide +kernel⟩ ?hw ?hc
  case hw => w_witness2
  case hc =>
    refine DL.walk_g (l := PySem.Challenge.rw_squaremiddles_k92_store_texts_whole) (n := 63) (k := 10) (x := "script") (CX := fun _ => L2.CX0) rfl (by decide) (by kernel_rfl) ⟨rfl, by decide, by decide⟩ ?F (fun _ _ _ _ _ z => z)
    intro w mg fa h Y G hmg0
    obtain ⟨K, KX, k, c⟩ := Y
    have hmg : mg ("law" : PySem.Str) = some (.ref fa) := by
      have e : (HandSHeadRun.topDef (OpenLaw.row PySem.Challenge.rw_squaremiddles_k92_store_texts_whole).prog 38).name = ("law" : PySem.Str) := by kernel_rfl
      rw [← e]
      exact hmg0
    have T := K92.tx_of KX G k c
    obtain ⟨fd, F⟩ := T.f_law
    have efa : K92.adK K "law" = fa := by
      have z := hmg.symm.trans T.d_law
      cases z
      rfl
    rw [efa] at F
    have b := L2.FunD.bindsA (ps := ["script"]) F fun _ _ _ _ _ _ us hl => match us, hl with | [_], _ => rfl
    refine ⟨K, fd, DL.sp0 K (K92.cm0 (K92.adK K)) K92.fn_law, KX, fun s v => b s [v] rfl, fun H a ns hl hb hS => K92.sp_law hS (K92.pure_law ns hl hb), fun base _ _ => ?_⟩
    subst efa
    exact K92.ok_law T F
end
