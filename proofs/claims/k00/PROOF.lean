import PyProof.Rows.All
import Wide.All
import OpenK.AllK
import Wide.FinOn
import HandS.ForMost
import HandS.IsInst
import HandS.Defaults
import HandS.RaiseMore
import HandS.Deep
import HandS.Walk
import HandS.ExcInit
import KE.KExcIs
import HandS.ExcField
import HandS.ExcIs
import HandS.Strs
import HandS.Style
import HandS.Iter
import KE.KExcSuper
import KE.KSuper
import HandS.ClsMeth
import HandS.Star
import KE.KEqNest
import PyProof.EqKinds
import PyProof.IsiHeapPairs
import KE.DataEq
import KE.KTypeName
import PySem.Challenge.RW_foreverkept_k00_errors_and_papers_keep_w
import HandS.Records
set_option Elab.async false
set_option linter.all false
set_option maxRecDepth 100000
set_option maxHeartbeats 4000000
/-! Calls with an empty list of guards: what repr of a list wants. -/
namespace Kd
open PySem PySem.Spec PyProof.Rows L2

/-- a def's promise where no guarded builtin runs around it -/
structure FG (P : Program) (w : World) (K : PySem.W.Frag) (mg : Str → Option Value) (base : Heap)
    (CX : CXT) (k : Nat) (f : Addr) (fd : FuncData) (ps : List Str) (sp : Sp) : Prop where
  len : ∀ vs H Q E, sp vs H Q E → vs.length = ps.length
  run : ∀ (A : Around) (outer : List Env) (s : Shared) (H : Hp) (args : Args)
    (us : List Value) (vs : List V) (Q : VK) (E : XK), Room k A → A.guards = some [] →
    Env0 P w K mg base A outer s H → BindsTo s fd args (ps.zip us) → Vals vs us → sp vs H Q E →
    codeAny (model P w) A (.call (.ref f) args) (CR CX outer P w H s Q E) s

theorem FG.of_ok {P : Program} {w : World} {K : PySem.W.Frag} {mg : Str → Option Value} {base : Heap}
    {CX : CXT} {k : Nat} {f : Addr} {fd : FuncData} {ps : List Str} {sp : Sp}
    (F : FnOk P w K mg base CX k f fd ps sp) : FG P w K mg base CX k f fd ps sp :=
  ⟨F.len, fun A o s H ar us vs Q E r _ e b v h => F.run A o s H ar us vs Q E r e b v h⟩
theorem FG.mono {P : Program} {w : World} {K : PySem.W.Frag} {mg : Str → Option Value} {base : Heap}
    {CX : CXT} {j k : Nat} {f : Addr} {fd : FuncData} {ps : List Str} {sp : Sp}
    (F : FG P w K mg base CX j f fd ps sp) (h : j ≤ k) : FG P w K mg base CX k f fd ps sp :=
  ⟨F.len, fun A o s H ar us vs Q E r g => F.run A o s H ar us vs Q E (r.mono h) g⟩
theorem FG.imp {P : Program} {w : World} {K : PySem.W.Frag} {mg : Str → Option Value} {base : Heap}
    {CX : CXT} {k : Nat} {f : Addr} {fd : FuncData} {ps : List Str} {sp sp' : Sp}
    (F : FG P w K mg base CX k f fd ps sp) (h : ∀ vs H Q E, sp' vs H Q E → sp vs H Q E) :
    FG P w K mg base CX k f fd ps sp' :=
  ⟨fun vs H Q E q => F.len vs H Q E (h _ _ _ _ q),
   fun A o s H ar us vs Q E r g e b v q => F.run A o s H ar us vs Q E r g e b v (h _ _ _ _ q)⟩

theorem deeper_guards {A : Around} {env : Env} (h : A.guards = some []) : (A.deeper env).guards = some [] := h

/-- a def by its body -/
theorem fg_of {CX : CXT} {P : Program} {w : World} {K : PySem.W.Frag} {mg : Str → Option Value}
    {base : Heap} {k : Nat} {x qual : Str} {st : Stmt} {f : Addr} {fd : FuncData}
    {N ps : List Str} {sp : Sp} (F : Fun K x qual st f fd) (S : FnScope N ps (defScope st))
    (len : ∀ vs H Q E, sp vs H Q E → vs.length = ps.length)
    (body : ∀ (cdv : Value) (A : Around) (outer : List Env) (s : Shared) (H : Hp) (vs : List V)
      (Q : VK) (E : XK), Room k (A.deeper (envOfC qual (defScope st) s.heap.objs.size f cdv)) →
      A.guards = some [] → sp vs H Q E →
      ∃ t, PSs (cxOf CX P w K mg base N qual (defScope st) f cdv A outer s H E) (defBody st) t ∧
        t { nx := fun _ H' => Q .non H', rt := Q } (start N vs) H) :
    FG P w K mg base CX (k + 1) f fd ps sp := by
  obtain ⟨oc, od, kV, doc, pm, an, cdv, ct, osl, rfl, lk, hcd⟩ := F.ex
  constructor
  · exact len
  intro A outer s H args us vs Q E room guards env bt vals hsp
  have hlen := len _ _ _ _ hsp
  have kin : K.In s.heap := env.mod.kin.keeps fun b o e => (env.bs b o e).1
  have nolim : s.heap.NoLimit := env.mod.nolimit.keeps fun b o e => (env.bs b o e).1
  have kinds : ∀ y ∈ ps.zip us, (defScope st).names.lookup y.1 = some .local ∨
      ((defScope st).names.lookup y.1 = some .cell ∧
        ((cellsFrom (s.heap.objs.size + 1) (defScope st).names []).lookup y.1).isSome = true) := by
    intro ⟨n, v⟩ hy
    cases S.par n (List.of_mem_zip hy).1 with
    | inl q => exact .inl q
    | inr q => exact .inr ⟨q, PySem.W.cellsFrom_some _ _ _ (.inl q)⟩
  apply codeAny_call_function room.depth (kin _ _ lk) rfl S.co S.gen rfl (PySem.W.codeRec_of kin hcd)
  apply bt
  apply wpAny_newFunctionEnv_cells S.kind kinds
  intro env' he s1 ic
  subst he
  refine ⟨nolim.keeps ic.toInCall.keep, codeAny_func ?_⟩
  obtain ⟨t, ht, hq⟩ := body cdv A outer s H vs Q E (room.deeper _) guards hsp
  have I0 : Inv (cxOf CX P w K mg base N qual (defScope st) f cdv A outer s H E) [] (start N vs) H s1 :=
    inv_start S room.hd env hlen vals ic
  apply wpAny_mono (ht.run [] s1 (start N vs) H _ I0 hq)
  · intro fl s' hs
    cases fl with
    | ret u =>
      obtain ⟨v, σ', H', J, rv, q⟩ := hs
      exact ⟨v, H', J.os, J.bare, J.base, J.hok, rv, q⟩
    | next =>
      obtain ⟨σ', H', J, q⟩ := hs
      exact ⟨.non, H', J.os, J.bare, J.base, J.hok, rfl, q⟩
    | brk => obtain ⟨_, _, _, q⟩ := hs; exact q.elim
    | cont => obtain ⟨_, _, _, q⟩ := hs; exact q.elim
  · intro e s' hs
    exact hs

section
variable {X : Cx} {CX : CXT} {k n : Nat} {f : Addr} {fd : FuncData} {ps ks : List Str} {sp : Sp}
  {E : XK} {x : Str} {p pos : Pos} {e : Expr} {es : List Expr} {kws : List Keyword} {t tk : TA}
  {g : List Value → List Value → List Value} {gV : List V → List V → List V}

theorem fg_end {pins : List (Addr × Obj)} {σ : L2.St} {H : Hp} {s : Shared} {Q : VK} {c : Code}
    (hx : Passes CX X E) (I : Inv X pins σ H s)
    (h : codeAny (model X.prog X.w) X.A c (CR CX X.stack X.prog X.w H s Q E) s) :
    codeAny (model X.prog X.w) X.A c (fun r s' => match r with
      | .ok (.ret u) => EP X pins σ Q u s'
      | .ok _ => False
      | .error e => X.xe e s') s := by
  refine codeAny_mono h fun r s' hq => ?_
  match r, hq with
  | .error e, hq => exact hx pins σ H s e s' I hq
  | .ok (.ret u), hq => exact I.after hq

/-- the call, positional and keyword values bound -/
theorem fg_run {pins : List (Addr × Obj)} {σ : L2.St} {H : Hp} {s : Shared} {Q : VK} {us : List Value}
    {vs : List V} {args : Args}
    (F : FG X.prog X.w X.K X.mg X.base CX k f fd ps sp) (hr : Room k X.A) (hg : X.A.guards = some [])
    (hb : BindsTo s fd args (ps.zip us)) (hx : Passes CX X E) (I : Inv X pins σ H s) (r : Vals vs us)
    (h : sp vs H Q E) : codeAny (model X.prog X.w) X.A (.call (.ref f) args) (fun r s' => match r with
      | .ok (.ret u) => EP X pins σ Q u s'
      | .ok _ => False
      | .error e => X.xe e s') s :=
  fg_end hx I (F.run X.A X.stack s H args us vs Q E hr hg I.env0 hb r h)
end

/-- the law's call at the end of the top -/
theorem law_g {P : Program} {w : World} {K : PySem.W.Frag} {mg mb : Str → Option Value} {CX : CXT}
    {k : Nat} {fa a : Addr} {fd : FuncData} {x : Str} {sp : Sp} {s0 : Shared} {vs : List Value} {ns : List Int}
    (kin : K.In s0.heap) (nsg : s0.heap.Ns mainGlobals mg) (nsb : s0.heap.Ns builtinsNs mb)
    (bb : ∀ y : Str, y ≠ "__name__" → mb y = bootBuiltins y) (lim : s0.heap.NoLimit) (gens : s0.gens = #[])
    (ha : s0.heap.get? a = some { cls := .type "list", data := .seq vs.toArray }) (hints : IntsAre vs ns)
    (line : ns.length ≤ sizeLine) (room : Room k callerA)
    (F : ∀ base : Heap, K.In base → base.Ns mainGlobals mg → FG P w K mg base CX k fa fd [x] sp)
    (bind : ∀ (s : Shared) (u : Value), BindsTo s fd ⟨[u], []⟩ [(x, u)])
    (hsp : ∀ H : Hp, Only H → SqL K H a (ns.map V.int) → sp [.ref a] H (fun v _ => v = .bl true) fun _ _ _ => False)
    (hCX : ∀ H e s', CX [] H s0 (fun _ _ _ => False) e s' → False) :
    codeAny (model P w) callerA (.call (.ref fa) ⟨[.ref a], []⟩)
      (fun r s' => r = .ok (.ret (.bool true)) ∧ OldK s0.heap s'.heap ∧ s'.os = s0.os ∧ AllBare s'.gens) s0 := by
  have vals := vals_ints hints
  have ilen := hints.length
  suffices core : ∀ H : Hp, Only H → SqL K H a (ns.map V.int) → HOk P w H s0.heap → (∀ b, H b ≠ none → b = a) →
      (H a ≠ none → K.lookup a = none) → codeAny (model P w) callerA (.call (.ref fa) ⟨[.ref a], []⟩)
        (fun r s' => r = .ok (.ret (.bool true)) ∧ OldK s0.heap s'.heap ∧ s'.os = s0.os ∧ AllBare s'.gens) s0 by
    cases lk : K.lookup a with
    | some o =>
      have e := kin a o lk
      rw [ha] at e
      cases e
      apply core (fun _ => none) (fun _ => .inl rfl)
      · exact .inr ⟨_, vs.toArray, _, lk, rfl, rfl, rfl, by rw [List.size_toArray, ilen]; exact line, by simpa using vals⟩
      · intro b u z; exact nomatch z
      · intro b z; exact absurd rfl z
      · intro z; exact absurd rfl z
    | none =>
      apply core (fun b => if b = a then some (.frz { cls := .type "list", data := .seq vs.toArray } (.lst (ns.map V.int))) else none)
      · intro b
        by_cases hb : b = a
        · exact .inr ⟨_, _, if_pos hb⟩
        · exact .inl (if_neg hb)
      · exact .inl (.inr ⟨{ cls := .type "list", data := .seq vs.toArray }, if_pos rfl⟩)
      · intro b u z
        by_cases hb : b = a
        · replace z := (if_pos hb).symm.trans z
          cases z
          subst hb
          exact ⟨ha, by rw [List.length_map]; exact line, vs, _, vals, ha⟩
        · replace z := (if_neg hb).symm.trans z
          cases z
      · intro b z
        by_cases hb : b = a
        · exact hb
        · exact absurd (if_neg hb) z
      · exact fun _ => lk
  intro H only seq hok hA hK
  have hid : ∀ {b : Addr} {o : Obj}, s0.heap.get? b = some o → H b = none → (hidT s0.heap H).get? b = some o :=
    fun e n => hidT_get e n
  have dictFree : ∀ {b : Addr} {o : Obj} {es : Array DictEntry} {ep : Nat},
      s0.heap.get? b = some o → o.data = .dict es ep → H b = none := by
    intro b o es ep e d
    cases q : H b with
    | none => rfl
    | some u =>
      have eb : b = a := hA b (by rw [q]; simp)
      subst eb
      rw [ha] at e
      cases e
      exact nomatch (show Data.seq vs.toArray _ = Data.dict es ep from d)
  have nsHid : ∀ {b : Addr} {m : Str → Option Value}, s0.heap.Ns b m → (hidT s0.heap H).Ns b m := by
    intro b m ⟨o, es, ep, e, d, r⟩
    exact ⟨o, es, ep, hid e (dictFree e d), d, r⟩
  have kinHid : K.In (hidT s0.heap H) := by
    intro b o e
    apply hid (kin b o e)
    cases q : H b with
    | none => rfl
    | some u =>
      have eb : b = a := hA b (by rw [q]; simp)
      subst eb
      rw [hK (by rw [q]; simp)] at e
      cases e
  have modHid : Mod K mg (hidT s0.heap H) := by
    refine ⟨kinHid, nsHid nsg, ⟨mb, nsHid nsb, bb⟩, ?_⟩
    obtain ⟨mc, h1, h2⟩ := lim
    exact ⟨mc, nsHid h1, h2⟩
  have env0 : Env0 P w K mg (hidT s0.heap H) callerA [] s0 H :=
    ⟨rfl, modHid, fun b o e => of_hidT e, Nat.le_of_eq (hidT_size _ _), trivial, fun b hb => (by cases hb), hok, AllBare.of_eq gens⟩
  have R := (F _ kinHid (nsHid nsg)).run callerA [] s0 H ⟨[.ref a], []⟩ [.ref a] [.ref a] _ _ room rfl env0
    (bind s0 (.ref a)) (.cons rfl .nil) (hsp H only seq)
  refine codeAny_mono R fun r s' h => ?_
  match r, h with
  | .error e, h => exact (hCX H e s' h).elim
  | .ok (.ret u), h =>
    obtain ⟨v, H', os, bare, un, hok', rv, q⟩ := h
    cases (show v = .bl true from q)
    cases (show u = Value.bool true from rv)
    refine ⟨rfl, OldK.of_keep fun b o e => ?_, os, bare⟩
    cases q : H b with
    | none => exact un.keep b o e q (by intro z; cases z) (by simp)
    | some u =>
      cases only b with
      | inl z => rw [q] at z; cases z
      | inr z =>
        obtain ⟨ob, xs, z⟩ := z
        have z2 := un.frzs b ob _ z
        obtain ⟨e1, _⟩ := hok b _ z
        obtain ⟨e2, _⟩ := hok' b _ z2
        rw [e] at e1
        cases e1
        exact e2

/-- the walk of a law row -/
theorem walk_g {l : PySem.W.OpenLaw} {n k : Nat} {q : Program} {loose : List Str}
    {XP : (Str → Option Value) → Heap → Prop} {YP : World → Heap → Prop} {d : DefRec} {K : Params → PySem.W.Frag}
    {CX : CXT} {sp : PySem.W.Frag → Sp} {x : Str}
    (hn : l.most = some n) (hn2 : n ≤ sizeLine) (hdf : d.params.defaults = []) (room : Room k callerA)
    (hY : ∀ (w : World) (h : Heap), YP w h → (K w.params).In h)
    (F : ∀ (w : World) (mg : Str → Option Value) (fa : Addr) (h : Heap), (K w.params).In h → h.Ns mainGlobals mg →
      mg d.name = some (.ref fa) → ∃ fd : FuncData, (∀ (s : Shared) (u : Value), BindsTo s fd ⟨[u], []⟩ [(x, u)]) ∧
        ∀ base : Heap, (K w.params).In base → base.Ns mainGlobals mg →
          FG l.prog w (K w.params) mg base CX k fa fd [x] (sp (K w.params)))
    (hsp : ∀ (K : PySem.W.Frag) (H : Hp) (a : Addr) (ns : List Int), ns.length ≤ n → Only H →
      SqL K H a (ns.map V.int) → sp K [.ref a] H (fun v _ => v = .bl true) fun _ _ _ => False)
    (hCX : ∀ (H : Hp) (s : Shared) (e : Value) (s' : Shared), CX [] H s (fun _ _ _ => False) e s' → False) :
    PySem.W.WalkO q loose XP YP l.row.toRowW d [] (fun f vs => PySem.call f vs) := by
  refine Att.attach_call hn hdf fun w t0 t1 mg mb fa o pm cd doc a vs ns G Y ho hd hcd hmg hobj hints hlen hg => ?_
  have kin := hY w _ Y
  obtain ⟨fd, hb, hF⟩ := F w mg fa _ kin G.T.g hmg
  exact law_g kin G.T.g G.T.b G.T.builtins G.T.nolimit hg hobj hints (Nat.le_trans hlen hn2) room hF hb
    (fun H hO hS => hsp _ H a ns hlen hO hS) fun H e t => hCX H t1 e t
end Kd


set_option Elab.async false
set_option linter.all false
set_option maxRecDepth 100000
set_option maxHeartbeats 4000000
/-! Data on the abstract heap, a small language for expressions and statements, its evaluator on data. -/
namespace Kd
open PySem PySem.Spec PyProof.Rows L2

/-! ### data -/
def kD : Key → PyData
  | .inl i => .int i
  | .inr x => .str x
mutual
inductive Dv (K : PySem.W.Frag) (B : Hp) : V → PyData → Prop
  | non : Dv K B .non .none
  | bl (b : Bool) : Dv K B (.bl b) (.bool b)
  | int (i : Int) : Dv K B (.int i) (.int i)
  | str (x : Str) : Dv K B (.str x) (.str x)
  | lst {a : Addr} {xs : List V} {ds : List PyData} (h : B a = some (.lst xs)) (r : DvL K B xs ds) : Dv K B (.ref a) (.list ds)
  | tup {a : Addr} {xs : List V} {ds : List PyData} (h : SqT K B a xs) (r : DvL K B xs ds) : Dv K B (.ref a) (.tuple ds)
  | dct {a : Addr} {kvs : List (Key × V)} {ds : List (PyData × PyData)} (h : B a = some (.dK kvs)) (r : DvK K B kvs ds) : Dv K B (.ref a) (.dict ds)
  | exc {a C d : Addr} {x : Str} {fs : List (Str × V)} {ds : List (PyData × PyData)} (hx : PySem.W.nsIn K mainGlobals x = some (some (.ref C))) (h1 : B a = some (exo a C (some d))) (h2 : B d = some (exd d fs)) (r : DvK K B (fs.map fun p => (Sum.inr p.1, p.2)) ds) :
    Dv K B (.ref a) (.dict ((.none, .str x) :: ds))
  | ins {a C dx : Addr} {x : Str} {fs : List (Str × V)} {ds : List (PyData × PyData)} (hx : PySem.W.nsIn K mainGlobals x = some (some (.ref C))) (h1 : B a = some (.ins C dx fs)) (r : DvK K B (fs.map fun p => (Sum.inr p.1, p.2)) ds) :
    Dv K B (.ref a) (.dict ((.bool true, .str x) :: ds))
inductive DvL (K : PySem.W.Frag) (B : Hp) : List V → List PyData → Prop
  | nil : DvL K B [] []
  | cons {v : V} {vs : List V} {d : PyData} {ds : List PyData} (h : Dv K B v d) (r : DvL K B vs ds) : DvL K B (v :: vs) (d :: ds)
inductive DvK (K : PySem.W.Frag) (B : Hp) : List (Key × V) → List (PyData × PyData) → Prop
  | nil : DvK K B [] []
  | cons {k : Key} {v : V} {kvs : List (Key × V)} {d : PyData} {ds : List (PyData × PyData)} (h : Dv K B v d) (r : DvK K B kvs ds) : DvK K B ((k, v) :: kvs) ((kD k, d) :: ds)
end
section
variable {K : PySem.W.Frag} {B B' : Hp}
theorem same_t {a : Addr} {xs : List V} (e : Same B B') (h : SqT K B a xs) : SqT K B' a xs := by
  rcases h with (h | ⟨o, h⟩) | h
  · exact .inl (.inl (e _ _ h))
  · exact .inl (.inr ⟨o, e _ _ h⟩)
  · exact .inr h
mutual
theorem Dv.mono (e : Same B B') : ∀ {v : V} {d : PyData}, Dv K B v d → Dv K B' v d
  | _, _, .non => .non
  | _, _, .bl b => .bl b
  | _, _, .int i => .int i
  | _, _, .str x => .str x
  | _, _, .lst h r => .lst (e _ _ h) (DvL.mono e r)
  | _, _, .tup h r => .tup (same_t e h) (DvL.mono e r)
  | _, _, .dct h r => .dct (e _ _ h) (DvK.mono e r)
  | _, _, .exc hx h1 h2 r => .exc hx (e _ _ h1) (e _ _ h2) (DvK.mono e r)
  | _, _, .ins hx h1 r => .ins hx (e _ _ h1) (DvK.mono e r)
theorem DvL.mono (e : Same B B') : ∀ {vs : List V} {ds : List PyData}, DvL K B vs ds → DvL K B' vs ds
  | _, _, .nil => .nil
  | _, _, .cons h r => .cons (Dv.mono e h) (DvL.mono e r)
theorem DvK.mono (e : Same B B') : ∀ {vs : List (Key × V)} {ds : List (PyData × PyData)}, DvK K B vs ds → DvK K B' vs ds
  | _, _, .nil => .nil
  | _, _, .cons h r => .cons (Dv.mono e h) (DvK.mono e r)
end
theorem DvL.length : ∀ {vs : List V} {ds : List PyData}, DvL K B vs ds → vs.length = ds.length
  | _, _, .nil => rfl
  | _, _, .cons _ r => congrArg (· + 1) (DvL.length r)
theorem DvL.get : ∀ {vs : List V} {ds : List PyData}, DvL K B vs ds → ∀ {i : Nat} {v : V}, vs[i]? = some v → ∃ d, ds[i]? = some d ∧ Dv K B v d
  | _, _, .nil, i, v, h => by simp at h
  | _, _, .cons h r, 0, v, e => by
    cases Option.some.inj e
    exact ⟨_, rfl, h⟩
  | _, _, .cons h r, i + 1, v, e => DvL.get r (i := i) (by simpa using e)
theorem DvL.get' : ∀ {vs : List V} {ds : List PyData}, DvL K B vs ds → ∀ {i : Nat} {d : PyData}, ds[i]? = some d → ∃ v, vs[i]? = some v ∧ Dv K B v d
  | _, _, .nil, i, v, h => by simp at h
  | _, _, .cons h r, 0, v, e => by
    cases Option.some.inj e
    exact ⟨_, rfl, h⟩
  | _, _, .cons h r, i + 1, v, e => DvL.get' r (i := i) (by simpa using e)
theorem DvL.append : ∀ {vs ws : List V} {ds es : List PyData}, DvL K B vs ds → DvL K B ws es → DvL K B (vs ++ ws) (ds ++ es)
  | _, _, _, _, .nil, r => r
  | _, _, _, _, .cons h t, r => .cons h (DvL.append t r)
/-- a row put together anew, by places -/
def pick {α : Type} (pm : List Nat) (l : List α) : List α := pm.filterMap (l[·]?)
theorem DvL.pick {vs : List V} {ds : List PyData} (r : DvL K B vs ds) : ∀ pm : List Nat, DvL K B (pick pm vs) (pick pm ds)
  | [] => .nil
  | i :: pm => by
    have t := DvL.pick r pm
    cases e : vs[i]? with
    | none =>
      have e2 : ds[i]? = none := by
        rw [List.getElem?_eq_none_iff] at e ⊢
        rw [← r.length]
        exact e
      simp only [Kd.pick, List.filterMap_cons, e, e2]
      exact t
    | some v =>
      obtain ⟨d, e2, h⟩ := r.get e
      simp only [Kd.pick, List.filterMap_cons, e, e2]
      exact .cons h t
mutual
theorem Dv.dp (e : Same B B') : ∀ {v : V} {d : PyData}, Dv K B v d → d.hasDict = false → Dp K B' v d
  | _, _, .non, _ => .non
  | _, _, .bl b, _ => .bl b
  | _, _, .int i, _ => .int i
  | _, _, .str x, _ => .str x
  | _, _, .lst h r, n => .lst (.of (e _ _ h)) (DvL.dp e r (by simpa [PyData.hasDict] using n))
  | _, _, .tup h r, n => .tup (same_t e h) (DvL.dp e r (by simpa [PyData.hasDict] using n))
  | _, _, .dct h r, n => by simp [PyData.hasDict] at n
  | _, _, .exc _ _ _ r, n => by simp [PyData.hasDict] at n
  | _, _, .ins _ _ r, n => by simp [PyData.hasDict] at n
theorem DvL.dp (e : Same B B') : ∀ {vs : List V} {ds : List PyData}, DvL K B vs ds → PyData.hasDictAll ds = false → DpAll K B' vs ds
  | _, _, .nil, _ => .nil
  | _, _, .cons h r, n => by
    simp only [PyData.hasDictAll, Bool.or_eq_false_iff] at n
    exact .cons (Dv.dp e h n.1) (DvL.dp e r n.2)
end
end

/-! ### the kinds of data -/
def tyD : PyData → String
  | .none => "NoneType"
  | .bool _ => "bool"
  | .int _ => "int"
  | .str _ => "str"
  | .list _ => "list"
  | .tuple _ => "tuple"
  | .dict _ => "dict"
/-- an instance, by what stands ahead -/
def isObj : PyData → Bool
  | .dict ((.none, _) :: _) => true
  | .dict ((.bool _, _) :: _) => true
  | _ => false
mutual
/-- no instance in it -/
def noObj : PyData → Bool
  | .list xs => noObjAll xs
  | .tuple xs => noObjAll xs
  | .dict ds => !isObj (.dict ds) && noObjKv ds
  | _ => true
def noObjAll : List PyData → Bool
  | [] => true
  | x :: xs => noObj x && noObjAll xs
def noObjKv : List (PyData × PyData) → Bool
  | [] => true
  | (_, v) :: r => noObj v && noObjKv r
end
def isiG (d : PyData) : List String → Option Bool
  | [] => some false
  | t :: ts => match kitB (tyD d) t with
    | some true => some true
    | some false => isiG d ts
    | none => none
def isiD (d : PyData) (ts : List String) : Option Bool := if isObj d then none else isiG d ts
def truthD : PyData → Option Bool
  | .none => some false
  | .bool b => some b
  | .int i => some (i != 0)
  | .str x => if x.length ≤ 100000 then some ((x.length : Int) != 0) else none
  | .list xs => some (!xs.isEmpty)
  | .tuple xs => some (!xs.isEmpty)
  | .dict _ => none
def itemsD : PyData → Option (List PyData)
  | .list xs => some xs
  | .tuple xs => some xs
  | .str x => some (x.cps.toList.map fun c => .str ⟨#[c]⟩)
  | _ => none
def boolsD : List PyData → Option (List Bool)
  | [] => some []
  | .bool b :: ds => (boolsD ds).map (b :: ·)
  | _ :: _ => none
def small (n : Nat) : Bool := decide (n ≤ 100000)

def flatD : PyData → Bool
  | .none => true
  | .bool _ => true
  | .int _ => true
  | .str _ => true
  | _ => false
def binD : Operator → PyData → PyData → Option PyData
  | .Add, .int i, .int j => some (.int (i + j))
  | .Sub, .int i, .int j => some (.int (i - j))
  | .Mult, .int i, .int j => if (-(2 ^ 64) < i ∧ i < 2 ^ 64) ∨ (-(2 ^ 64) < j ∧ j < 2 ^ 64) then some (.int (i * j)) else none
  | .FloorDiv, .int i, .int j => if 0 < j ∧ j < 1073741824 then some (.int (i / j)) else none
  | .Mod, .int i, .int j => if 0 < j then some (.int (i % j)) else none
  | .Pow, .int i, .int j => if 0 ≤ j ∧ j ≤ 1000000 ∧ i.natAbs < 2 ^ 64 then some (.int (i ^ j.toNat)) else none
  | .Add, .str x, .str y => if small (x.length + y.length) then some (.str (x ++ y)) else none
  | _, _, _ => none
def cmpD : CmpOp → PyData → PyData → Option Bool
  | .Is, d, .none => some (match d with | .none => true | _ => false)
  | .IsNot, d, .none => some (match d with | .none => false | _ => true)
  | .Lt, .int i, .int j => some (decide (i < j))
  | .LtE, .int i, .int j => some (decide (i ≤ j))
  | .Gt, .int i, .int j => some (decide (j < i))
  | .GtE, .int i, .int j => some (decide (j ≤ i))
  | .Eq, .str x, .str y => some (x == y)
  | .NotEq, .str x, .str y => some (!(x == y))
  | .Eq, d, e => if SeqAt.shaped d && SeqAt.shaped e then some (PyData.eqv d e) else none
  | .NotEq, d, e => if SeqAt.shaped d && SeqAt.shaped e then some (!PyData.eqv d e) else none
  | .In, .str x, .str y => some (!(Builtin.Str.occurrences y x 0 y.length 1).isEmpty)
  | .In, d, .list ds => if flatD d && ds.all flatD then some (ds.any fun z => PyData.eqv z d) else
      if SeqAt.shaped d && SeqAt.shaped (.list ds) then some (ds.any fun z => PyData.eqv z d) else none
  | .In, d, .tuple ds => if flatD d && ds.all flatD then some (ds.any fun z => PyData.eqv z d) else none
  | _, _, _ => none

/-! ### the language -/
inductive Bt
  | len | all | any | repr | toTup | toList | toInt | abs
mutual
inductive C
  | var (i : Nat)
  | cst (d : PyData)
  | glb (d : PyData)
  | and_ (a b : C)
  | or_ (a b : C)
  | not_ (a : C)
  | ite (t a b : C)
  | bin (op : Operator) (a b : C)
  | neg (a : C)
  | cmp (op : CmpOp) (a b : C)
  | chain (o1 o2 : CmpOp) (a b c : C)
  | tup (es : Cs)
  | lst (es : Cs)
  | dct1 (k : Str) (v : C)
  | lset (a : C)
  | lenO (i : Nat)
  | neO (i : Nat)
  | popO (i : Nat) (c : C)
  | frz (i : Nat)
  | penG (j : Nat) (k : Nat)
  | penAt (j : Nat) (c : C)
  | penLen (j : Nat)
  | penNe (j : Nat)
  | isi (a : C) (tys : List String)
  | call (f : Nat) (es : Cs)
  | pcall (f j : Nat) (es : Cs)
  | blt (b : Bt) (a : C)
  | comp (elt : C) (i : Nat) (it : Ci)
  | sub (a i : C)
  | upto (a n : C)
  | cat (a b : C)
  | attr (c : C) (f : Str) (cE cI : List Str)
  | isc (c : C) (tE tI : List (Str × Bool)) (tO : List String)
  | rep (a n : C)
  | op (i : Nat) (es : Cs)
inductive Cs
  | nil
  | cons (c : C) (cs : Cs)
inductive Ci
  | seq (c : C)
  | rng (c : C)
inductive Co
  | disp (es : Cs)
  | lst (c : C)
  | comp (elt : C) (i : Nat) (it : Ci)
end
mutual
inductive Sd
  | asg (i : Nat) (c : C)
  | par (i j : Nat) (a b : C)
  | ret (c : C)
  | ifs (t : C) (a b : Sds)
  | for_ (i : Nat) (it : Ci) (b : Sds)
  | expr (c : C)
  | asgO (i : Nat) (c : Co)
  | parO (i j : Nat) (a b : Co)
  | appO (i : Nat) (c : C)
  | while_ (t : C) (b : Sds)
  | penS (j : Nat) (k : Nat) (c : C)
  | par3 (i j l : Nat) (a b c : C)
  | forE (i j : Nat) (c : C) (b : Sds)
  | op (i : Nat) (es : Cs) (js : List Nat)
inductive Sds
  | nil
  | cons (s : Sd) (ss : Sds)
end

structure Pen where
  ns : List Int
  lap : Int
  g : Int
inductive SD
  | unk
  | dat (d : PyData)
  | pen
  | own (ds : List PyData)
structure S where
  δ : List SD
  π : Option Pen
structure Fns where
  fn : Nat → List PyData → Option PyData
  pf : Nat → List PyData → Pen → Option (PyData × Pen)
  ox : Nat → List PyData → Option PyData := fun _ _ => none

/-- lists that may change are out of reach -/
def hushD : SD → SD
  | .own _ => .unk
  | x => x
def S.hush (st : S) : S := ⟨st.δ.map hushD, st.π⟩
def S.own (st : S) (i : Nat) (ds : List PyData) : S := ⟨st.δ.set i (.own ds), st.π⟩
def S.set (st : S) (i : Nat) (d : PyData) : S := ⟨st.δ.set i (.dat d), st.π⟩
def setD : List SD → List Nat → List PyData → List SD
  | l, j :: js, d :: ds => setD (l.set j (.dat d)) js ds
  | l, _, _ => l
def S.setAll (st : S) (js : List Nat) (ds : List PyData) : S := ⟨setD st.δ js ds, st.π⟩
def S.get (st : S) (i : Nat) : Option PyData := match st.δ[i]? with
  | some (.dat d) => some d
  | _ => none

def strsD : List PyData → Option (List Str)
  | [] => some []
  | .str x :: ds => (strsD ds).map (x :: ·)
  | _ :: _ => none
def ddS (l : List Str) (x : Str) : List Str := if l.any (· == x) then l else l ++ [x]
def uniqS (xs : List Str) : List Str := xs.foldl ddS []
/-- len(set(..)) -/
def lsetD : PyData → Option PyData
  | .list xs => match strsD xs with
    | some ss => if ss.length ≤ 4000 then some (.int (uniqS ss).length) else none
    | none => none
  | .tuple xs => match strsD xs with
    | some ss => if ss.length ≤ 4000 then some (.int (uniqS ss).length) else none
    | none => none
  | _ => none
def bltD : Bt → PyData → Option PyData
  | .len, .list xs => some (.int xs.length)
  | .len, .tuple xs => some (.int xs.length)
  | .len, .str x => if small x.length then some (.int x.length) else none
  | .all, .list xs => (boolsD xs).map fun bs => .bool (bs.all id)
  | .any, .list xs => (boolsD xs).map fun bs => .bool (bs.any id)
  | .repr, d => if d.showable && noObj d && small d.shown.length && decide (d.depth ≤ 60) then some (.str d.shown) else none
  | .toTup, .list xs => some (.tuple xs)
  | .toTup, .tuple xs => some (.tuple xs)
  | .toList, .list xs => some (.list xs)
  | .toList, .tuple xs => some (.list xs)
  | .toInt, .int i => some (.int i)
  | .toInt, .bool b => some (.int (if b then 1 else 0))
  | .abs, .int i => some (.int (if i < 0 then -i else i))
  | _, _ => none
/-- a field of an instance -/
def fldD (f : Str) : List (PyData × PyData) → Option PyData
  | [] => none
  | (.str g, d) :: ds => if f = g then some d else fldD f ds
  | _ :: _ => none
def attrD (f : Str) (cE cI : List Str) : PyData → Option PyData
  | .dict ((.none, .str x) :: ds) => if x ∈ cE then fldD f ds else none
  | .dict ((.bool true, .str x) :: ds) => if x ∈ cI then fldD f ds else none
  | _ => none
/-- isinstance(d, an own class) -/
def iscD (tE tI : List (Str × Bool)) (tO : List String) : PyData → Option Bool
  | .dict ((.none, .str x) :: _) => tE.lookup x
  | .dict ((.bool true, .str x) :: _) => tI.lookup x
  | d => if isObj d then none else if tyD d ∈ tO then some false else none
/-- a[i] -/
def subD : PyData → PyData → Option PyData
  | .list xs, .int i => atI xs i
  | .tuple xs, .int i => atI xs i
  | _, _ => none

/-- a comprehension's turns -/
def compLoop (step : S → Option (PyData × S)) (i : Nat) : List PyData → S → Option (List PyData × Option Pen)
  | [], st => some ([], st.π)
  | x :: xs, st => match step (st.set i x) with
    | some (d, st') => match compLoop step i xs ⟨st.δ, st'.π⟩ with
      | some (ds, p) => some (d :: ds, p)
      | none => none
    | none => none

section
variable (F : Fns)
mutual
def evalE : C → S → Option (PyData × S)
  | .var i, st => match st.get i with
    | some d => some (d, st)
    | none => none
  | .cst d, st => some (d, st)
  | .glb d, st => some (d, st)
  | .and_ a b, st => match evalE a st with
    | some (.bool true, st1) => evalE b st1
    | some (.bool false, st1) => some (.bool false, st1)
    | _ => none
  | .or_ a b, st => match evalE a st with
    | some (.bool true, st1) => some (.bool true, st1)
    | some (.bool false, st1) => evalE b st1
    | _ => none
  | .not_ a, st => match evalE a st with
    | some (.bool b, st1) => some (.bool (!b), st1)
    | _ => none
  | .ite t a b, st => match evalE t st with
    | some (d, st1) => match truthD d with
      | some true => evalE a st1
      | some false => evalE b st1
      | none => none
    | none => none
  | .bin op a b, st => match evalE a st with
    | some (x, st1) => match evalE b st1 with
      | some (y, st2) => match binD op x y with
        | some z => some (z, st2)
        | none => none
      | none => none
    | none => none
  | .neg a, st => match evalE a st with
    | some (.int i, st1) => some (.int (-i), st1)
    | _ => none
  | .cmp op a b, st => match evalE a st with
    | some (x, st1) => match evalE b st1 with
      | some (y, st2) => match cmpD op x y with
        | some z => some (.bool z, st2)
        | none => none
      | none => none
    | none => none
  | .chain o1 o2 a b c, st => match evalE a st with
    | some (x, st1) => match evalE b st1 with
      | some (y, st2) => match cmpD o1 x y with
        | some true => match evalE c st2 with
          | some (z, st3) => match cmpD o2 y z with
            | some r => some (.bool r, st3)
            | none => none
          | none => none
        | some false => some (.bool false, st2)
        | none => none
      | none => none
    | none => none
  | .tup es, st => match evalL es st with
    | some (ds, st1) => if small ds.length then some (.tuple ds, st1) else none
    | none => none
  | .lst es, st => match evalL es st with
    | some (ds, st1) => if small ds.length then some (.list ds, st1) else none
    | none => none
  | .dct1 k v, st => match evalE v st.hush with
    | some (d, st1) => some (.dict [(.str k, d)], ⟨st.δ, st1.π⟩)
    | none => none
  | .lset a, st => match evalE a st with
    | some (x, st1) => match lsetD x with
      | some z => some (z, st1)
      | none => none
    | none => none
  | .lenO i, st => match st.δ[i]? with
    | some (.own ds) => some (.int ds.length, st)
    | _ => none
  | .neO i, st => match st.δ[i]? with
    | some (.own ds) => if SeqAt.shaped (.list ds) then some (.bool (!ds.isEmpty), st) else none
    | _ => none
  | .popO i c, st => match st.δ[i]? with
    | some (.own _) => match evalE c st with
      | some (.int k, st1) => match st1.δ[i]? with
        | some (.own ds) => if 0 ≤ k ∧ k < ds.length ∧ small ds.length then match ds[k.toNat]? with
            | some d => some (d, st1.own i (ds.eraseIdx k.toNat))
            | none => none
          else none
        | _ => none
      | _ => none
    | _ => none
  | .frz i, st => match st.δ[i]? with
    | some (.own ds) => some (.list ds, st.set i (.list ds))
    | _ => none
  | .penG j k, st => match st.δ[j]?, st.π with
    | some .pen, some π => match k with
      | 1 => some (.int π.lap, st)
      | 2 => some (.int π.g, st)
      | _ => none
    | _, _ => none
  | .penAt j c, st => match st.δ[j]?, st.π with
    | some .pen, some π => match evalE c st with
      | some (.int k, st1) => match atI π.ns k with
        | some n => some (.int n, st1)
        | none => none
      | _ => none
    | _, _ => none
  | .penLen j, st => match st.δ[j]?, st.π with
    | some .pen, some π => some (.int π.ns.length, st)
    | _, _ => none
  | .penNe j, st => match st.δ[j]?, st.π with
    | some .pen, some π => some (.bool (!π.ns.isEmpty), st)
    | _, _ => none
  | .isi a tys, st => match evalE a st with
    | some (d, st1) => match isiD d tys with
      | some b => some (.bool b, st1)
      | none => none
    | none => none
  | .call f es, st => match evalL es st with
    | some (ds, st1) => match F.fn f ds with
      | some d => some (d, st1)
      | none => none
    | none => none
  | .pcall f j es, st => match st.δ[j]? with
    | some .pen => match evalL es st with
      | some (ds, st1) => match st1.π with
        | some p => match F.pf f ds p with
          | some (d, p') => some (d, ⟨st1.δ, some p'⟩)
          | none => none
        | none => none
      | none => none
    | _ => none
  | .blt b a, st => match evalE a st with
    | some (x, st1) => match bltD b x with
      | some z => some (z, st1)
      | none => none
    | none => none
  | .comp elt i it, st => match evalI it st with
    | some (xs, st1) => if small xs.length then match compLoop (evalE elt) i xs st1.hush with
        | some (ds, p) => some (.list ds, ⟨st1.δ, p⟩)
        | none => none
      else none
    | none => none
  | .sub a i, st => match evalE a st with
    | some (x, st1) => match evalE i st1 with
      | some (y, st2) => match subD x y with
        | some z => some (z, st2)
        | none => none
      | none => none
    | none => none
  | .upto a n, st => match evalE a st with
    | some (.list xs, st1) => match evalE n st1 with
      | some (.int k, st2) => if 0 ≤ k then some (.list (xs.take k.toNat), st2) else none
      | _ => none
    | _ => none
  | .cat a b, st => match evalE a st with
    | some (.list xs, st1) => match evalE b st1 with
      | some (.list ys, st2) => if small (xs.length + ys.length) then some (.list (xs ++ ys), st2) else none
      | _ => none
    | _ => none
  | .attr c f cE cI, st => match evalE c st with
    | some (x, st1) => match attrD f cE cI x with
      | some z => some (z, st1)
      | none => none
    | none => none
  | .isc c tE tI tO, st => match evalE c st with
    | some (x, st1) => match iscD tE tI tO x with
      | some b => some (.bool b, st1)
      | none => none
    | none => none
  | .rep a n, st => match evalE a st with
    | some (.list xs, st1) => match evalE n st1 with
      | some (.int k, st2) => if 0 ≤ k ∧ k ≤ 100000 ∧ small (xs.length * k.toNat) then some (.list (List.replicate k.toNat xs).flatten, st2) else none
      | _ => none
    | _ => none
  | .op i es, st => match evalL es st with
    | some (ds, st1) => match F.ox i ds with
      | some d => some (d, st1)
      | none => none
    | none => none
def evalL : Cs → S → Option (List PyData × S)
  | .nil, st => some ([], st)
  | .cons c cs, st => match evalE c st with
    | some (d, st1) => match evalL cs st1 with
      | some (ds, st2) => some (d :: ds, st2)
      | none => none
    | none => none
def evalI : Ci → S → Option (List PyData × S)
  | .seq c, st => match evalE c st with
    | some (d, st1) => match itemsD d with
      | some xs => some (xs, st1)
      | none => none
    | none => none
  | .rng c, st => match evalE c st with
    | some (.int n, st1) => if -100000 ≤ n ∧ n ≤ 100000 then some ((List.range n.toNat).map fun (k : Nat) => .int k, st1) else none
    | _ => none
def evalO : Co → S → Option (List PyData × S)
  | .disp es, st => match evalL es st with
    | some (ds, st1) => if small ds.length then some (ds, st1) else none
    | none => none
  | .lst c, st => match evalE c st with
    | some (.list ds, st1) => some (ds, st1)
    | some (.tuple ds, st1) => some (ds, st1)
    | _ => none
  | .comp elt i it, st => match evalI it st with
    | some (xs, st1) => if small xs.length then match compLoop (evalE elt) i xs st1.hush with
        | some (ds, p) => some (ds, ⟨st1.δ, p⟩)
        | none => none
      else none
    | none => none
end

inductive Out
  | nx (st : S)
  | rt (d : PyData) (p : Option Pen)

/-- a loop's turns -/
def forLoop (body : S → Option Out) (i : Nat) : List PyData → S → Option Out
  | [], st => some (.nx st)
  | x :: xs, st => match body (st.set i x) with
    | some (.nx st') => forLoop body i xs st'
    | some (.rt d p) => some (.rt d p)
    | none => none
/-- for i, j in enumerate(..) -/
def enumLoop (body : S → Option Out) (i j : Nat) : Nat → List PyData → S → Option Out
  | _, [], st => some (.nx st)
  | n, x :: xs, st => match body ((st.set i (.int n)).set j x) with
    | some (.nx st') => enumLoop body i j (n + 1) xs st'
    | some (.rt d p) => some (.rt d p)
    | none => none
def whileLoop (t : S → Option (PyData × S)) (body : S → Option Out) : Nat → S → Option Out
  | 0, _ => none
  | n + 1, st => match t st with
    | some (d, st1) => match truthD d with
      | some true => match body st1 with
        | some (.nx st2) => whileLoop t body n st2
        | some (.rt d p) => some (.rt d p)
        | none => none
      | some false => some (.nx st1)
      | none => none
    | none => none
def fuel : Nat := 1000000
mutual
def evalS : Sd → S → Option Out
  | .asg i c, st => match evalE F c st with
    | some (d, st1) => some (.nx (st1.set i d))
    | none => none
  | .par i j a b, st => match evalE F a st with
    | some (x, st1) => match evalE F b st1 with
      | some (y, st2) => some (.nx ((st2.set i x).set j y))
      | none => none
    | none => none
  | .ret c, st => match evalE F c st with
    | some (d, st1) => some (.rt d st1.π)
    | none => none
  | .ifs t a b, st => match evalE F t st with
    | some (d, st1) => match truthD d with
      | some true => evalSs a st1
      | some false => evalSs b st1
      | none => none
    | none => none
  | .for_ i it b, st => match evalI F it st with
    | some (xs, st1) => if small xs.length then forLoop (evalSs b) i xs st1 else none
    | none => none
  | .expr c, st => match evalE F c st with
    | some (_, st1) => some (.nx st1)
    | none => none
  | .asgO i c, st => match evalO F c st with
    | some (ds, st1) => some (.nx (st1.own i ds))
    | none => none
  | .parO i j a b, st => match evalO F a st with
    | some (xs, st1) => match evalO F b st1.hush with
      | some (ys, st2) => if i = j then none else some (.nx ((S.own ⟨st1.δ, st2.π⟩ i xs).own j ys))
      | none => none
    | none => none
  | .appO i c, st => match st.δ[i]? with
    | some (.own _) => match evalE F c st with
      | some (d, st1) => match st1.δ[i]? with
        | some (.own ds) => if small ds.length then some (.nx (st1.own i (ds ++ [d]))) else none
        | _ => none
      | none => none
    | _ => none
  | .while_ t b, st => whileLoop (evalE F t) (evalSs b) fuel st
  | .penS j k c, st => match evalE F c st with
    | some (.int n, st1) => match st1.δ[j]?, st1.π with
      | some .pen, some π => match k with
        | 1 => some (.nx ⟨st1.δ, some ⟨π.ns, n, π.g⟩⟩)
        | 2 => some (.nx ⟨st1.δ, some ⟨π.ns, π.lap, n⟩⟩)
        | _ => none
      | _, _ => none
    | _ => none
  | .par3 i j l a b c, st => match evalE F a st with
    | some (x, st1) => match evalE F b st1 with
      | some (y, st2) => match evalE F c st2 with
        | some (z, st3) => some (.nx (((st3.set i x).set j y).set l z))
        | none => none
      | none => none
    | none => none
  | .forE i j c b, st => match evalE F c st with
    | some (.list xs, st1) => if small xs.length then enumLoop (evalSs b) i j 0 xs st1 else none
    | _ => none
  | .op i es js, st => match evalL F es st with
    | some (ds, st1) => match F.ox i ds with
      | some (.list zs) => if zs.length = js.length then some (.nx (st1.setAll js zs)) else none
      | _ => none
    | none => none
def evalSs : Sds → S → Option Out
  | .nil, st => some (.nx st)
  | .cons s ss, st => match evalS s st with
    | some (.nx st1) => evalSs ss st1
    | some (.rt d p) => some (.rt d p)
    | none => none
end
end
end Kd


set_option Elab.async false
set_option linter.all false
set_option maxRecDepth 100000
set_option maxHeartbeats 4000000
/-! What the evaluator says is what runs: the relation of states, helpers. -/
namespace Kd
open PySem PySem.Spec PyProof.Rows L2

/-! ### readings by what runs -/
def wE (X : Cx) (e : Expr) : TE := fun σ H Q => ∀ pins s, Inv X pins σ H s → wpAny (model X.prog X.w) X.A (eval e X.env) (EP X pins σ Q) X.xe s
def wT (X : Cx) (e : Expr) : TT := fun σ H Q => ∀ pins s, Inv X pins σ H s → wpAny (model X.prog X.w) X.A (isTrue e X.env (eval e X.env)) (TP X pins σ Q) X.xe s
def wW (X : Cx) (e : Expr) : TT := fun σ H Q => ∀ whole pins s, Inv X pins σ H s → wpAny (model X.prog X.w) X.A (isTrue e X.env whole) (TP X pins σ Q) X.xe s
def wA (X : Cx) (es : List Expr) : TA := fun σ H Q => ∀ pos pins s, Inv X pins σ H s → wpAny (model X.prog X.w) X.A (spliced (backTo pos (starEach es X.env))) (AP X pins σ Q) X.xe s
def wK (X : Cx) (ks : List Keyword) : TA := fun σ H Q => ∀ pos pins s, Inv X pins σ H s → wpAny (model X.prog X.w) X.A (evalAll ((backToKw pos (keywordEach ks X.env)).map (·.2))) (AP X pins σ Q) X.xe s
def wS (X : Cx) (st : Stmt) : TS := fun D σ H => ∀ pins s, Inv X pins σ H s → wpAny (model X.prog X.w) X.A (exec st X.env) (SP X pins D) X.xe s
def wSs (X : Cx) (st : List Stmt) : TS := fun D σ H => ∀ pins s, Inv X pins σ H s → wpAny (model X.prog X.w) X.A (execs st X.env) (SP X pins D) X.xe s
def wI (X : Cx) (tg it : Expr) : TI := fun σ H R => ∀ pins s, Inv X pins σ H s →
  wpAny (model X.prog X.w) X.A (eval it X.env) (fun v s1 => wpAny (model X.prog X.w) X.A (pyIter v) (PIE X pins σ tg R) X.xe s1) X.xe s
/-- one after another -/
def wL (X : Cx) : List Expr → TA
  | [] => fun _ H Q => Q [] H
  | e :: es => fun σ H Q => wE X e σ H fun v H1 => wL X es σ H1 fun vs H2 => Q (v :: vs) H2
section
variable {X : Cx} {e tg it : Expr} {es : List Expr} {ks : List Keyword} {st : Stmt} {sts : List Stmt} {σ : L2.St} {H : Hp}
theorem pe_w : PE X e (wE X e) := ⟨fun pins s σ H Q I h => h pins s I⟩
theorem pt_w : PT X e (wT X e) := ⟨fun pins s σ H Q I h => h pins s I⟩
theorem pw_w : PW X e (wW X e) := ⟨fun wh pins s σ H Q I h => h wh pins s I⟩
theorem pa_w : PA X es (wA X es) := ⟨fun pos pins s σ H Q I h => h pos pins s I⟩
theorem pk_w : PK X ks (wK X ks) := ⟨fun pos pins s σ H Q I h => h pos pins s I⟩
theorem ps_w : PS X st (wS X st) := ⟨fun pins s σ H D I h => h pins s I⟩
theorem pss_w : PSs X sts (wSs X sts) := ⟨fun pins s σ H D I h => h pins s I⟩
theorem pi_w : PI X tg it (wI X tg it) := ⟨fun pins s σ H R I h => h pins s I⟩
theorem w_pe {t : TE} {Q : VK} (h : PE X e t) (q : t σ H Q) : wE X e σ H Q := fun pins s I => h.run pins s σ H Q I q
theorem w_pt {t : TT} {Q : Bool → Hp → Prop} (h : PT X e t) (q : t σ H Q) : wT X e σ H Q := fun pins s I => h.run pins s σ H Q I q
theorem w_pw {t : TT} {Q : Bool → Hp → Prop} (h : PW X e t) (q : t σ H Q) : wW X e σ H Q := fun wh pins s I => h.run wh pins s σ H Q I q
theorem w_pa {t : TA} {Q : List V → Hp → Prop} (h : PA X es t) (q : t σ H Q) : wA X es σ H Q := fun pos pins s I => h.run pos pins s σ H Q I q
theorem w_pk {t : TA} {Q : List V → Hp → Prop} (h : PK X ks t) (q : t σ H Q) : wK X ks σ H Q := fun pos pins s I => h.run pos pins s σ H Q I q
theorem w_ps {t : TS} {D : Ends} (h : PS X st t) (q : t D σ H) : wS X st D σ H := fun pins s I => h.run pins s σ H D I q
theorem w_pss {t : TS} {D : Ends} (h : PSs X sts t) (q : t D σ H) : wSs X sts D σ H := fun pins s I => h.run pins s σ H D I q
theorem w_pi {t : TI} {R : It → Hp → Prop} (h : PI X tg it t) (q : t σ H R) : wI X tg it σ H R := fun pins s I => h.run pins s σ H R I q
end

/-! ### the relation -/
def PenAt (K : PySem.W.Frag) (B H : Hp) (a : Addr) (p : Pen) : Prop :=
  ∃ q, H a = some (.lst [.ref q, .int p.lap, .int p.g]) ∧ SqL K B q (p.ns.map .int)
def PenR (K : PySem.W.Frag) (p : Option Addr) (B H : Hp) : Option Pen → Prop
  | none => p = none
  | some π => ∃ a, p = some a ∧ PenAt K B H a π
structure Rel (K : PySem.W.Frag) (p : Option Addr) (B0 H0 B H : Hp) (σ : L2.St) (st : S) : Prop where
  fr : ∀ b o, p ≠ some b → H0 b = some o → H b = some o
  ext : Same B H
  up : Same B0 B
  new : ∀ a o, B a = some o → (∃ o', B0 a = some o') ∨ H0 a = none
  pn : ∀ a, p = some a → B a = none
  h0 : ∀ a, p = some a → H0 a ≠ none
  len : σ.length = st.δ.length
  sl : ∀ (i : Nat) (d : PyData), st.get i = some d → ∃ v, σ[i]? = some (some v) ∧ Dv K B v d
  pen : PenR K p B H st.π
  pv : ∀ i : Nat, st.δ[i]? = some SD.pen → ∃ a, p = some a ∧ σ[i]? = some (some (V.ref a))
  ow : ∀ (i : Nat) (ds : List PyData), st.δ[i]? = some (SD.own ds) → ∃ l xs, σ[i]? = some (some (V.ref l)) ∧ H l = some (.lst xs) ∧ B l = none ∧ H0 l = none ∧ DvL K B xs ds
  dj : ∀ (i j : Nat) (ds es : List PyData), i ≠ j → st.δ[i]? = some (SD.own ds) → st.δ[j]? = some (SD.own es) → σ[i]? ≠ σ[j]?
section
variable {K : PySem.W.Frag} {p : Option Addr} {B0 H0 B H B' H' : Hp} {σ σ' : L2.St} {st st' : S}
theorem PenR.there {o : Option Pen} (h : PenR K p B H o) {a : Addr} (e : p = some a) : H a ≠ none := by
  cases o with
  | none => rw [show p = none from h] at e; cases e
  | some π =>
    obtain ⟨b, e2, q, h1, _⟩ := h
    rw [e2] at e
    cases e
    rw [h1]
    exact fun z => nomatch z
theorem PenR.mono {o : Option Pen} (h : PenR K p B H o) (b : Same B B') (e : ∀ a, p = some a → H' a = H a) : PenR K p B' H' o := by
  cases o with
  | none => exact h
  | some π =>
    obtain ⟨a, e2, q, h1, h2⟩ := h
    exact ⟨a, e2, q, by rw [e a e2]; exact h1, b.seq h2⟩
theorem PenR.same {o : Option Pen} (h : PenR K p B H o) (b : Same B B') (e : Same H H') : PenR K p B' H' o := by
  cases o with
  | none => exact h
  | some π =>
    obtain ⟨a, e2, q, h1, h2⟩ := h
    exact ⟨a, e2, q, e _ _ h1, b.seq h2⟩
/-- the heap grows, nothing of it is data -/
theorem Rel.heap (R : Rel K p B0 H0 B H σ st) (e : Same H H') : Rel K p B0 H0 B H' σ st :=
  ⟨fun b o n h => e _ _ (R.fr b o n h), R.ext.trans e, R.up, R.new, R.pn, R.h0, R.len, R.sl, R.pen.same (Same.refl _) e, R.pv, fun i ds h => let ⟨l, xs, h1, h2, h3⟩ := R.ow i ds h; ⟨l, xs, h1, e _ _ h2, h3⟩, R.dj⟩
theorem Rel.free (R : Rel K p B0 H0 B H σ st) {q : Addr} (h : H q = none) : H0 q = none ∧ p ≠ some q ∧ B q = none := by
  have np : p ≠ some q := fun e => R.pen.there e h
  refine ⟨?_, np, R.ext.free h⟩
  cases e : H0 q with
  | none => rfl
  | some o => rw [R.fr q o np e] at h; cases h
theorem same_upd {q : Addr} {o : HO} (h : B q = none) : Same B (upd B q o) := fun b u e => by
  rw [upd_ne (ne_of_none e h)]
  exact e
theorem same_upd2 {q : Addr} {o : HO} (e : Same B H) : Same (upd B q o) (upd H q o) := fun b u h => by
  by_cases z : b = q
  · subst z
    rw [upd_same] at h ⊢
    exact h
  · rw [upd_ne z] at h ⊢
    exact e _ _ h
/-- a new object that is data -/
theorem Rel.alloc (R : Rel K p B0 H0 B H σ st) {q : Addr} {o : HO} (h : H q = none) : Rel K p B0 H0 (upd B q o) (upd H q o) σ st := by
  obtain ⟨f1, f2, f3⟩ := R.free h
  have sb : Same B (upd B q o) := same_upd f3
  have sh : Same H (upd H q o) := same_upd h
  refine ⟨fun b u n e => sh _ _ (R.fr b u n e), same_upd2 R.ext, R.up.trans sb, fun a u e => ?_, fun a e => ?_, R.h0, R.len, fun i d e => ?_, R.pen.same sb sh, R.pv, fun i ds h' => ?_, R.dj⟩
  · by_cases z : a = q
    · subst z; exact .inr f1
    · rw [upd_ne z] at e; exact R.new a u e
  · rw [upd_ne (fun (z : a = q) => f2 (by rw [← z]; exact e))]
    exact R.pn a e
  · obtain ⟨v, h1, h2⟩ := R.sl i d e
    exact ⟨v, h1, h2.mono sb⟩
  · obtain ⟨l, xs, h1, h2, h3, h4, h5⟩ := R.ow i ds h'
    refine ⟨l, xs, h1, sh _ _ h2, ?_, h4, h5.mono sb⟩
    rw [upd_ne (ne_of_none h2 h)]
    exact h3
theorem hush_get {i : Nat} {x : SD} (h : st.hush.δ[i]? = some x) (n : x ≠ .unk) : st.δ[i]? = some x := by
  have h : (st.δ.map hushD)[i]? = some x := h
  rw [List.getElem?_map, Option.map_eq_some_iff] at h
  obtain ⟨y, h1, h2⟩ := h
  cases y with
  | own ds => exact absurd h2.symm n
  | unk => exact absurd h2.symm n
  | dat d => rw [h1, ← h2] <;> rfl
  | pen => rw [h1, ← h2] <;> rfl
theorem hush_own {i : Nat} {ds : List PyData} (h : st.hush.δ[i]? = some (.own ds)) : False := by
  have h : (st.δ.map hushD)[i]? = some (.own ds) := h
  rw [List.getElem?_map, Option.map_eq_some_iff] at h
  obtain ⟨y, h1, h2⟩ := h
  cases y <;> cases h2
theorem hush_dat {i : Nat} {d : PyData} (h : st.hush.get i = some d) : st.get i = some d := by
  unfold S.get at h ⊢
  split at h
  · rename_i d' e
    cases h
    rw [hush_get e (by intro z; cases z)]
  · cases h
/-- the base anew -/
theorem Rel.here (R : Rel K p B0 H0 B H σ st) : Rel K p B H B H σ st.hush :=
  ⟨fun _ _ _ h => h, R.ext, Same.refl _, fun a o h => .inl ⟨o, h⟩, R.pn, fun a e => R.pen.there e, by rw [R.len]; exact (List.length_map _).symm, fun i d h => R.sl i d (hush_dat h), R.pen,
    fun i h => R.pv i (hush_get h (by intro z; cases z)), fun i ds h => (hush_own h).elim, fun i j ds es _ h => (hush_own h).elim⟩
theorem Rel.hush (R : Rel K p B0 H0 B H σ st) : Rel K p B0 H0 B H σ st.hush :=
  ⟨R.fr, R.ext, R.up, R.new, R.pn, R.h0, by rw [R.len]; exact (List.length_map _).symm, fun i d h => R.sl i d (hush_dat h), R.pen,
    fun i h => R.pv i (hush_get h (by intro z; cases z)), fun i ds h => (hush_own h).elim, fun i j ds es _ h => (hush_own h).elim⟩
/-- a list of a slot's own is no pen -/
theorem Rel.npen (R : Rel K p B0 H0 B H σ st) {l : Addr} (h : H0 l = none) : p ≠ some l := fun e => R.h0 l e h
/-- behind something that began here -/
theorem Rel.back (R : Rel K p B0 H0 B H σ st) {H1 : Hp} (e1 : Same H H1) (R' : Rel K p B H1 B' H' σ' st') : Rel K p B0 H0 B' H' σ ⟨st.δ, st'.π⟩ := by
  refine ⟨fun b o n h => R'.fr b o n (e1 _ _ (R.fr b o n h)), R'.ext, R.up.trans R'.up, fun a o h => (R'.new a o h).elim (fun ⟨o', h'⟩ => R.new a o' h') fun h' => .inr (R.free (e1.free h')).1, R'.pn, R.h0, R.len,
    fun i d e => let ⟨v, h1, h2⟩ := R.sl i d e; ⟨v, h1, h2.mono R'.up⟩, R'.pen, R.pv, fun i ds h => ?_, R.dj⟩
  obtain ⟨l, xs, h1, h2, h3, h4, h5⟩ := R.ow i ds h
  refine ⟨l, xs, h1, R'.fr l _ (R.npen h4) (e1 _ _ h2), ?_, h4, h5.mono R'.up⟩
  cases z : B' l with
  | none => rfl
  | some o =>
    rcases R'.new l o z with ⟨o', z'⟩ | z'
    · rw [h3] at z'; cases z'
    · rw [e1 _ _ h2] at z'; cases z'
theorem get_set {i j : Nat} {x d : PyData} (h : (st.set i x).get j = some d) : (j = i ∧ d = x ∧ i < st.δ.length) ∨ (j ≠ i ∧ st.get j = some d) := by
  unfold S.get S.set at h
  by_cases e : i = j
  · subst e
    by_cases l : i < st.δ.length
    · simp only [List.getElem?_set_self l] at h
      cases h
      exact .inl ⟨rfl, rfl, l⟩
    · rw [List.getElem?_eq_none (by rw [List.length_set]; omega)] at h
      cases h
  · simp only [List.getElem?_set_ne e] at h
    exact .inr ⟨fun z => e z.symm, h⟩
theorem set_other {l : List SD} {i j : Nat} {x y : SD} (n : x ≠ y) (h : (l.set i x)[j]? = some y) : i ≠ j ∧ l[j]? = some y := by
  by_cases z : i = j
  · subst z
    by_cases q : i < l.length
    · rw [List.getElem?_set_self q] at h
      exact absurd (Option.some.inj h) n
    · rw [List.getElem?_eq_none (by rw [List.length_set]; omega)] at h; cases h
  · rw [List.getElem?_set_ne z] at h
    exact ⟨z, h⟩
/-- a slot is set -/
theorem Rel.put (R : Rel K p B0 H0 B H σ st) {i : Nat} {v : V} {d : PyData} (h : Dv K B v d) : Rel K p B0 H0 B H (σ.set i (some v)) (st.set i d) := by
  refine ⟨R.fr, R.ext, R.up, R.new, R.pn, R.h0, by show (σ.set i _).length = (st.δ.set i _).length; rw [List.length_set, List.length_set, R.len], fun j x e => ?_, R.pen, fun j e => ?_, fun j ds e => ?_, fun j j' ds es n e e' => ?_⟩
  · rcases get_set e with ⟨rfl, rfl, l⟩ | ⟨n, e⟩
    · exact ⟨v, by rw [List.getElem?_set_self (by rw [R.len]; exact l)], h⟩
    · obtain ⟨w, h1, h2⟩ := R.sl j x e
      exact ⟨w, by rw [List.getElem?_set_ne (fun z => n z.symm)]; exact h1, h2⟩
  · have e : (st.δ.set i (.dat d))[j]? = some .pen := e
    by_cases z : i = j
    · subst z
      by_cases l : i < st.δ.length
      · rw [List.getElem?_set_self l] at e; cases e
      · rw [List.getElem?_eq_none (by rw [List.length_set]; omega)] at e; cases e
    · rw [List.getElem?_set_ne z] at e
      obtain ⟨a, h1, h2⟩ := R.pv j e
      exact ⟨a, h1, by rw [List.getElem?_set_ne z]; exact h2⟩
  · obtain ⟨z, e⟩ := set_other (by intro q; cases q) e
    obtain ⟨l, xs, h1, h2⟩ := R.ow j ds e
    exact ⟨l, xs, by rw [List.getElem?_set_ne z]; exact h1, h2⟩
  · obtain ⟨z, e⟩ := set_other (by intro q; cases q) e
    obtain ⟨z', e'⟩ := set_other (by intro q; cases q) e'
    rw [List.getElem?_set_ne z, List.getElem?_set_ne z']
    exact R.dj j j' ds es n e e'
/-- a slot is set to a list of its own -/
theorem Rel.putO (R : Rel K p B0 H0 B H σ st) {i : Nat} {l : Addr} {xs : List V} {ds : List PyData} (hl : H l = some (.lst xs)) (hb : B l = none) (h0 : H0 l = none) (hd : DvL K B xs ds)
    (hn : ∀ (j : Nat) es, j ≠ i → st.δ[j]? = some (.own es) → σ[j]? ≠ some (some (V.ref l))) : Rel K p B0 H0 B H (σ.set i (some (.ref l))) (st.own i ds) := by
  refine ⟨R.fr, R.ext, R.up, R.new, R.pn, R.h0, by show (σ.set i _).length = (st.δ.set i _).length; rw [List.length_set, List.length_set, R.len], fun j x e => ?_, R.pen, fun j e => ?_, fun j es e => ?_, fun j j' es es' n e e' => ?_⟩
  · unfold S.get S.own at e
    by_cases z : i = j
    · subst z
      by_cases q : i < st.δ.length
      · simp only [List.getElem?_set_self q] at e; cases e
      · rw [List.getElem?_eq_none (by rw [List.length_set]; omega)] at e; cases e
    · simp only [List.getElem?_set_ne z] at e
      obtain ⟨w, h1, h2⟩ := R.sl j x e
      exact ⟨w, by rw [List.getElem?_set_ne z]; exact h1, h2⟩
  · obtain ⟨z, e⟩ := set_other (by intro q; cases q) e
    obtain ⟨a, h1, h2⟩ := R.pv j e
    exact ⟨a, h1, by rw [List.getElem?_set_ne z]; exact h2⟩
  · by_cases z : i = j
    · subst z
      have e : (st.δ.set i (.own ds))[i]? = some (.own es) := e
      by_cases q : i < st.δ.length
      · rw [List.getElem?_set_self q] at e
        cases e
        exact ⟨l, xs, by rw [List.getElem?_set_self (by rw [R.len]; exact q)], hl, hb, h0, hd⟩
      · rw [List.getElem?_eq_none (by rw [List.length_set]; omega)] at e; cases e
    · have e : (st.δ.set i (.own ds))[j]? = some (.own es) := e
      rw [List.getElem?_set_ne z] at e
      obtain ⟨l', ys, h1, h2⟩ := R.ow j es e
      exact ⟨l', ys, by rw [List.getElem?_set_ne z]; exact h1, h2⟩
  · have e : (st.δ.set i (.own ds))[j]? = some (.own es) := e
    have e' : (st.δ.set i (.own ds))[j']? = some (.own es') := e'
    have at_i : ∀ {m : Nat} {x : SD}, (st.δ.set i (.own ds))[m]? = some x → m = i → (σ.set i (some (V.ref l)))[m]? = some (some (.ref l)) := by
      intro m x h hm
      subst hm
      by_cases q : m < st.δ.length
      · rw [List.getElem?_set_self (by rw [R.len]; exact q)]
      · rw [List.getElem?_eq_none (by rw [List.length_set]; omega)] at h; cases h
    by_cases z : i = j
    · subst z
      have z' : i ≠ j' := n
      rw [at_i e rfl, List.getElem?_set_ne z']
      rw [List.getElem?_set_ne z'] at e'
      exact fun q => hn j' es' (fun k => z' k.symm) e' q.symm
    · by_cases z' : i = j'
      · subst z'
        rw [at_i e' rfl, List.getElem?_set_ne z]
        rw [List.getElem?_set_ne z] at e
        exact hn j es (fun k => z k.symm) e
      · rw [List.getElem?_set_ne z, List.getElem?_set_ne z']
        rw [List.getElem?_set_ne z] at e
        rw [List.getElem?_set_ne z'] at e'
        exact R.dj j j' es es' n e e'
end

/-! ### data and the readings of values -/
section
variable {K : PySem.W.Frag} {B H : Hp}
theorem small_line {n : Nat} (h : small n = true) : n ≤ sizeLine := Nat.le_trans (of_decide_eq_true h) (by decide)
theorem small_lt {n : Nat} (h : small n = true) : n < sizeLine := Nat.lt_of_le_of_lt (of_decide_eq_true h) (by decide)
theorem ty_ok (e : Same B H) : ∀ {v : V} {d : PyData}, Dv K B v d → isObj d = false → TyX K H v (.type (tyD d))
  | _, _, .non, _ => .base .non
  | _, _, .bl b, _ => .base (.bl b)
  | _, _, .int i, _ => .base (.int i)
  | _, _, .str x, _ => .base (.str x)
  | _, _, .lst h r, _ => .base (.lst (e _ _ h))
  | _, _, .tup h r, _ => by
    rcases h with (h | ⟨o, h⟩) | ⟨o, its, n, h, c, _⟩
    · exact .base (.tup (e _ _ h))
    · exact .fTuple (e _ _ h)
    · exact .kTuple h c
  | _, _, .dct h r, _ => .base (.dK (e _ _ h))
  | _, _, .exc _ _ _ _, z => by cases z
  | _, _, .ins _ _ _, z => by cases z
theorem tru_dv (e : Same B H) : ∀ {v : V} {d : PyData} {b : Bool}, Dv K B v d → truthD d = some b → TruV K v H b
  | _, _, _, .non, h => by cases h; rfl
  | _, _, _, .bl b, h => by cases h; rfl
  | _, _, _, .int i, h => by cases h; rfl
  | _, _, b, .str x, h => by
    have h : (if x.length ≤ 100000 then some ((x.length : Int) != 0) else none) = some b := h
    split at h
    · rename_i hl
      cases h
      exact ⟨Nat.le_trans hl (by decide), rfl⟩
    · cases h
  | _, _, b, .lst (xs := xs) (ds := ds) h r, q => by
    cases q
    refine .inl ⟨xs, .of (e _ _ h), ?_⟩
    cases r <;> rfl
  | _, _, b, .tup (xs := xs) (ds := ds) h r, q => by
    cases q
    refine .inr (.inl ⟨xs, same_t e h, ?_⟩)
    cases r <;> rfl
  | _, _, _, .dct h r, q => by cases q
  | _, _, _, .exc _ _ _ _, q => by cases q
  | _, _, _, .ins _ _ _, q => by cases q
theorem flat_dv : ∀ {v : V} {d : PyData}, Dv K B v d → flatD d = true → flatV v = true
  | _, _, .non, _ => rfl
  | _, _, .bl b, _ => rfl
  | _, _, .int i, _ => rfl
  | _, _, .str x, _ => rfl
  | _, _, .lst h r, q => by cases q
  | _, _, .tup h r, q => by cases q
  | _, _, .dct h r, q => by cases q
theorem eq_dv {v w : V} {d e : PyData} (h : Dv K B v d) (g : Dv K B w e) (f1 : flatD d = true) (f2 : flatD e = true) : eqV v w = PyData.eqv d e := by
  cases h <;> cases g <;> first
    | rfl
    | exact nomatch f1
    | exact nomatch f2
theorem flat_dvs : ∀ {vs : List V} {ds : List PyData}, DvL K B vs ds → ds.all flatD = true → vs.all flatV = true
  | _, _, .nil, _ => rfl
  | _, _, .cons h r, q => by
    rw [List.all_cons, Bool.and_eq_true] at q ⊢
    exact ⟨flat_dv h q.1, flat_dvs r q.2⟩
theorem in_dv {x : V} {d : PyData} (g : Dv K B x d) (f : flatD d = true) : ∀ {vs : List V} {ds : List PyData}, DvL K B vs ds → ds.all flatD = true → inV x vs = ds.any fun z => PyData.eqv z d
  | _, _, .nil, _ => rfl
  | _, _, .cons h r, q => by
    rw [List.all_cons, Bool.and_eq_true] at q
    unfold inV
    rw [List.any_cons, List.any_cons, eq_dv h g q.1 f]
    congr 1
    exact in_dv g f r q.2
theorem bools_dv : ∀ {vs : List V} {ds : List PyData} {bs : List Bool}, DvL K B vs ds → boolsD ds = some bs → vs = bs.map V.bl
  | _, _, _, .nil, h => by cases h; rfl
  | _, _, bs, .cons (d := d) h r, q => by
    cases h <;> first
      | cases q
      | (simp only [boolsD, Option.map_eq_some_iff] at q
         obtain ⟨bs', h1, h2⟩ := q
         subst h2
         rw [bools_dv r h1]
         rfl)
end
end Kd


set_option Elab.async false
set_option linter.all false
set_option maxRecDepth 100000
set_option maxHeartbeats 4000000
namespace Kd
open PySem PySem.Spec PyProof.Rows L2
/-! ### data read off the heap, dicts too -/
section
variable {X : Cx} {pins : List (Addr × Obj)} {σ : L2.St} {B H : Hp} {s : Shared}
theorem reads_key {h : Heap} {k : Key} {v : Value} (hk : keyIs k v = true) : Reads h v (kD k) [] := by
  rcases keyIs_shape hk with ⟨i, t, rfl, rfl⟩ | ⟨x, t, rfl, rfl⟩
  · exact Reads.int i t
  · exact Reads.str x t
mutual
theorem Dv.reads (I : L2.Inv X pins σ H s) (e : Same B H) : ∀ (d : PyData) (v : V) (u : Value), Dv X.K B v d → noObj d = true → L2.RelV v u → ∃ as, Reads s.heap u d as ∧ ∀ a ∈ as, H a ≠ none
  | .none, _, _, h, _, r => by
    cases h
    cases r
    exact ⟨_, Reads.none, by simp⟩
  | .bool b, _, _, h, _, r => by
    cases h
    cases r
    exact ⟨_, Reads.bool b, by simp⟩
  | .int i, _, _, h, _, r => by
    cases h
    obtain ⟨t, rfl⟩ := r
    exact ⟨_, Reads.int i t, by simp⟩
  | .str x, _, _, h, _, r => by
    cases h
    obtain ⟨t, rfl⟩ := r
    exact ⟨_, Reads.str x t, by simp⟩
  | .list ds, _, _, h, n, r => by
    cases h with
    | @lst a xs _ hs ha =>
      cases r
      obtain ⟨its, rv, ⟨o, m, ho, hc, _, hd⟩, _⟩ := I.list (.of (e _ _ hs))
      obtain ⟨as, hr, hn⟩ := DvL.reads I e ds _ its ha (by simpa [noObj] using n) rv
      refine ⟨_, Reads.list ho hc hd hr, fun b hb => ?_⟩
      rcases List.mem_cons.mp hb with rfl | hb
      · rw [e _ _ hs]; simp
      · exact hn b hb
  | .tuple ds, _, _, h, n, r => by
    cases h with
    | tup hs ha =>
      cases r
      obtain ⟨its, rv, ⟨o, ho, hc, m, hd⟩, _⟩ := I.tuple (same_t e hs)
      obtain ⟨as, hr, hn⟩ := DvL.reads I e ds _ its ha (by simpa [noObj] using n) rv
      exact ⟨_, Reads.tuple ho hc hd hr, hn⟩
  | .dict ds, _, _, h, n, r => by
    simp only [noObj, Bool.and_eq_true, Bool.not_eq_true'] at n
    cases h with
    | @dct a kvs _ hs ha =>
      cases r
      obtain ⟨hz, hsm, vs, kv, o, es, ep, ho, hx, hdat, _, prs, _⟩ := (show ObjOk X.prog X.w H s.heap a (.dK kvs) from I.hok a _ (e _ _ hs))
      obtain ⟨bs, h1, h2, hn⟩ := DvK.reads I e ds _ vs _ ha n.2 kv prs
      refine ⟨_, Reads.dict ho hx.1 hdat h1 h2, fun b hb => ?_⟩
      rcases List.mem_append.mp hb with hb | hb
      · rcases List.mem_cons.mp hb with rfl | hb
        · rw [e _ _ hs]; simp
        · cases hb
      · exact hn b hb
    | exc _ _ _ _ => exact absurd n.1 (by simp [isObj])
    | ins _ _ _ => exact absurd n.1 (by simp [isObj])
theorem DvL.reads (I : L2.Inv X pins σ H s) (e : Same B H) : ∀ (ds : List PyData) (vs : List V) (us : List Value), DvL X.K B vs ds → noObjAll ds = true → Vals vs us → ∃ as, ReadsAll s.heap us ds as ∧ ∀ a ∈ as, H a ≠ none
  | [], _, _, h, _, r => by
    cases h
    cases r
    exact ⟨_, ReadsAll.nil, by simp⟩
  | d :: ds, _, _, h, n, r => by
    simp only [noObjAll, Bool.and_eq_true] at n
    cases h with
    | cons h1 h2 =>
      cases r with
      | cons r1 r2 =>
        obtain ⟨as, q1, n1⟩ := Dv.reads I e d _ _ h1 n.1 r1
        obtain ⟨bs, q2, n2⟩ := DvL.reads I e ds _ _ h2 n.2 r2
        exact ⟨_, ReadsAll.cons q1 q2, fun b hb => (List.mem_append.mp hb).elim (n1 b) (n2 b)⟩
theorem DvK.reads (I : L2.Inv X pins σ H s) (e : Same B H) : ∀ (ds : List (PyData × PyData)) (kvs : List (Key × V)) (vs : List (Key × Value)) (es : List DictEntry), DvK X.K B kvs ds → noObjKv ds = true → KV kvs vs → PySem.Pairs (mixKind X.prog X.w) es vs →
    ∃ bs, ReadsAll s.heap (es.map (·.key)) (ds.map (·.1)) [] ∧ ReadsAll s.heap (es.map (·.val)) (ds.map (·.2)) bs ∧ ∀ a ∈ bs, H a ≠ none
  | [], _, _, _, h, _, r, p => by
    cases h
    cases r
    cases p
    exact ⟨[], ReadsAll.nil, ReadsAll.nil, by simp⟩
  | _ :: ds, _, _, _, h, n, r, p => by
    cases h with
    | cons h1 h2 =>
      simp only [noObjKv, Bool.and_eq_true] at n
      cases r with
      | cons r1 r2 =>
        cases p with
        | cons p1 p2 p3 =>
          obtain ⟨rk, rv⟩ := r1
          obtain ⟨as, q1, n1⟩ := Dv.reads I e _ _ _ h1 n.1 rv
          obtain ⟨bs, k2, q2, n2⟩ := DvK.reads I e ds _ _ _ h2 n.2 r2 p3
          refine ⟨as ++ bs, ?_, ?_, fun b hb => (List.mem_append.mp hb).elim (n1 b) (n2 b)⟩
          · have kk := reads_key (h := s.heap) (k := _) (v := _) p1
            rw [← rk] at kk
            exact ReadsAll.cons kk k2
          · have e2 := p2
            rw [← e2] at q1
            exact ReadsAll.cons q1 q2
end
end
end Kd


set_option Elab.async false
set_option linter.all false
set_option maxRecDepth 100000
set_option maxHeartbeats 4000000
namespace Kd
open PySem PySem.Spec PyProof.Rows L2
/-! ### repr of data with dicts: a tracked dict is not sys.modules -/
section
variable {X : Cx} {pins : List (Addr × Obj)} {σ : L2.St} {B H : Hp} {s : Shared}
mutual
theorem Dv.reprK (I : L2.Inv X pins σ H s) (e : Same B H) : ∀ (d : PyData) (v : V) (u : Value), Dv X.K B v d → noObj d = true → L2.RelV v u → d.showable = true → d.shown.length ≤ sizeLine →
    ∃ bs, ReadAtMost s.heap d.depth bs ∧ ReprK X.prog X.w bs s.heap d.depth u d.shown
  | .none, _, _, h, n, r, hs, hz => by
    cases h
    cases r
    exact ReprK.of_reads .none hs (fun z => by cases z) hz
  | .bool b, _, _, h, n, r, hs, hz => by
    cases h
    cases r
    exact ReprK.of_reads (.bool b) hs (fun z => by cases z) hz
  | .int i, _, _, h, n, r, hs, hz => by
    cases h
    obtain ⟨t, rfl⟩ := r
    exact ReprK.of_reads (.int i t) hs (fun z => by cases z) hz
  | .str x, _, _, h, n, r, hs, hz => by
    cases h
    obtain ⟨t, rfl⟩ := r
    exact ReprK.of_reads (.str x t) hs (fun z => by cases z) hz
  | .list ds, v, u, h, n, r, hs, hz => by
    obtain ⟨as, rd, _⟩ := Dv.reads I e _ v u h n r
    cases h with
    | @lst a xs _ h0 ha =>
      cases r
      obtain ⟨its, rv, ⟨o, m, ho, hc, _, hd⟩, _⟩ := I.list (.of (e _ _ h0))
      have hz2 : (listText (PyData.shownAll ds)).length ≤ sizeLine := by simpa only [PyData.shown] using hz
      obtain ⟨bs, hb, hk⟩ := DvL.reprK I e ds _ its ha (by simpa [noObj] using n) rv (by simpa [PyData.showable] using hs) (fun t ht => Nat.le_trans (listText_mem_le ht) hz2)
      have hna : a ∉ bs := not_mem_of_deeper rd (by simp only [PyData.depth]; omega) hb
      refine ⟨a :: bs, .cons rd (by simp only [PyData.depth]; omega) hb, ?_⟩
      simp only [PyData.depth, PyData.shown]
      cases its with
      | nil =>
        cases rv
        cases ha
        simp only [PyData.shownAll, listText_nil]
        exact ReprK.listEmpty ho hc hd
      | cons y l => exact ReprK.list ho hc hd hna (by simpa using hk.length_eq) (fun i y e => hk.item i y (by simpa using e))
  | .tuple ds, v, u, h, n, r, hs, hz => by
    obtain ⟨as, rd, _⟩ := Dv.reads I e _ v u h n r
    cases h with
    | @tup a xs _ h0 ha =>
      cases r
      obtain ⟨its, rv, ⟨o, ho, hc, m, hd⟩, _⟩ := I.tuple (same_t e h0)
      have hz2 : (tupleText (PyData.shownAll ds)).length ≤ sizeLine := by simpa only [PyData.shown] using hz
      obtain ⟨bs, hb, hk⟩ := DvL.reprK I e ds _ its ha (by simpa [noObj] using n) rv (by simpa [PyData.showable] using hs) (fun t ht => Nat.le_trans (tupleText_mem_le ht) hz2)
      have hna : a ∉ bs := not_mem_of_deeper rd (by simp only [PyData.depth]; omega) hb
      refine ⟨a :: bs, .cons rd (by simp only [PyData.depth]; omega) hb, ?_⟩
      simp only [PyData.depth, PyData.shown]
      exact ReprK.tuple ho hc hd hna (by simpa using hk)
  | .dict ds, v, u, h, n, r, hs, hz => by
    obtain ⟨as, rd, _⟩ := Dv.reads I e _ v u h n r
    simp only [noObj, Bool.and_eq_true, Bool.not_eq_true'] at n
    cases h with
    | @dct a kvs _ h0 ha =>
      cases r
      obtain ⟨_, hsm, vs, kv, o, es, ep, ho, hx, hdat, _, prs, _⟩ := (show ObjOk X.prog X.w H s.heap a (.dK kvs) from I.hok a _ (e _ _ h0))
      have hz2 : (dictText (PyData.shownKv ds)).length ≤ sizeLine := by simpa only [PyData.shown] using hz
      obtain ⟨s1, s2⟩ := PyData.showableKv_split ds (by simpa [PyData.showable] using hs)
      obtain ⟨_, rk, _, _⟩ := DvK.reads I e ds _ vs _ ha n.2 kv prs
      obtain ⟨c1, hc1, k1⟩ := ReprAllK.of_readsAll (prog := X.prog) (w := X.w) rk s1 (fun _ z => by cases z) (fun t ht => by
        obtain ⟨p, hp, hl⟩ := PyData.shownKv_key_le ds t ht
        exact Nat.le_trans hl (Nat.le_trans (dictText_mem_le hp) hz2))
      obtain ⟨c2, hc2, k2⟩ := DvK.reprK I e ds _ vs _ ha n.2 kv prs s2 (fun t ht => by
        obtain ⟨p, hp, hl⟩ := PyData.shownKv_val_le ds t ht
        exact Nat.le_trans hl (Nat.le_trans (dictText_mem_le hp) hz2))
      have hb : ReadAtMost s.heap (PyData.depthKv ds) (c1 ++ c2) := (hc1.mono (PyData.depthAll_keys_le ds)).append (hc2.mono (PyData.depthAll_vals_le ds))
      have hna : a ∉ c1 ++ c2 := not_mem_of_deeper rd (by simp only [PyData.depth]; omega) hb
      refine ⟨a :: (c1 ++ c2), .cons rd (by simp only [PyData.depth]; omega) hb, ?_⟩
      simp only [PyData.depth, PyData.shown, PyData.shownKv_eq]
      exact ReprK.dict ho hx.1 hdat hsm hna (ReprEntriesK.of_two es.toList _ _ (k1.more_le (fun b z => List.mem_append_left _ z) (PyData.depthAll_keys_le ds)) (k2.more_le (fun b z => List.mem_append_right _ z) (PyData.depthAll_vals_le ds)))
    | exc _ _ _ _ => exact absurd n.1 (by simp [isObj])
    | ins _ _ _ => exact absurd n.1 (by simp [isObj])
theorem DvL.reprK (I : L2.Inv X pins σ H s) (e : Same B H) : ∀ (ds : List PyData) (vs : List V) (us : List Value), DvL X.K B vs ds → noObjAll ds = true → Vals vs us → PyData.showableAll ds = true → (∀ t ∈ PyData.shownAll ds, t.length ≤ sizeLine) →
    ∃ bs, ReadAtMost s.heap (PyData.depthAll ds) bs ∧ ReprAllK X.prog X.w bs s.heap (PyData.depthAll ds) us (PyData.shownAll ds)
  | [], _, _, h, n, r, hs, hz => by
    cases h
    cases r
    exact ⟨[], (fun _ h => nomatch h), by simp only [PyData.shownAll]; exact .nil⟩
  | d :: ds, _, _, h, n, r, hs, hz => by
    simp only [noObjAll, Bool.and_eq_true] at n
    simp only [PyData.showableAll, Bool.and_eq_true] at hs
    cases h with
    | cons h1 h2 =>
      cases r with
      | cons r1 r2 =>
        obtain ⟨c1, hc1, k1⟩ := Dv.reprK I e d _ _ h1 n.1 r1 hs.1 (hz _ (by simp only [PyData.shownAll]; exact List.mem_cons_self ..))
        obtain ⟨c2, hc2, k2⟩ := DvL.reprK I e ds _ _ h2 n.2 r2 hs.2 (fun t z => hz t (by simp only [PyData.shownAll]; exact List.mem_cons_of_mem _ z))
        refine ⟨c1 ++ c2, ?_, ?_⟩
        · simp only [PyData.depthAll]
          exact (hc1.mono (Nat.le_max_left _ _)).append (hc2.mono (Nat.le_max_right _ _))
        · simp only [PyData.depthAll, PyData.shownAll]
          exact .cons ((k1.more fun b z => List.mem_append_left _ z).level_le (Nat.le_max_left _ _)) (k2.more_le (fun b z => List.mem_append_right _ z) (Nat.le_max_right _ _))
theorem DvK.reprK (I : L2.Inv X pins σ H s) (e : Same B H) : ∀ (ds : List (PyData × PyData)) (kvs : List (Key × V)) (vs : List (Key × Value)) (es : List DictEntry), DvK X.K B kvs ds → noObjKv ds = true → KV kvs vs → PySem.Pairs (mixKind X.prog X.w) es vs →
    PyData.showableAll (ds.map (·.2)) = true → (∀ t ∈ PyData.shownAll (ds.map (·.2)), t.length ≤ sizeLine) →
    ∃ bs, ReadAtMost s.heap (PyData.depthAll (ds.map (·.2))) bs ∧ ReprAllK X.prog X.w bs s.heap (PyData.depthAll (ds.map (·.2))) (es.map (·.val)) (PyData.shownAll (ds.map (·.2)))
  | [], _, _, _, h, n, r, p, hs, hz => by
    cases h
    cases r
    cases p
    exact ⟨[], (fun _ h => nomatch h), by simp only [List.map_nil, PyData.shownAll]; exact .nil⟩
  | (kd, d) :: ds, _, _, _, h, n, r, p, hs, hz => by
    simp only [noObjKv, Bool.and_eq_true] at n
    simp only [List.map_cons, PyData.showableAll, Bool.and_eq_true] at hs
    cases h with
    | cons h1 h2 =>
      cases r with
      | cons r1 r2 =>
        cases p with
        | cons p1 p2 p3 =>
          obtain ⟨_, rv⟩ := r1
          rw [← p2] at rv
          obtain ⟨c1, hc1, k1⟩ := Dv.reprK I e d _ _ h1 n.1 rv hs.1 (hz _ (by simp only [List.map_cons, PyData.shownAll]; exact List.mem_cons_self ..))
          obtain ⟨c2, hc2, k2⟩ := DvK.reprK I e ds _ _ _ h2 n.2 r2 p3 hs.2 (fun t z => hz t (by simp only [List.map_cons, PyData.shownAll]; exact List.mem_cons_of_mem _ z))
          refine ⟨c1 ++ c2, ?_, ?_⟩
          · simp only [List.map_cons, PyData.depthAll]
            exact (hc1.mono (Nat.le_max_left _ _)).append (hc2.mono (Nat.le_max_right _ _))
          · simp only [List.map_cons, PyData.depthAll, PyData.shownAll]
            exact .cons ((k1.more fun b z => List.mem_append_left _ z).level_le (Nat.le_max_left _ _)) (k2.more_le (fun b z => List.mem_append_right _ z) (Nat.le_max_right _ _))
end
end
end Kd


set_option Elab.async false
set_option linter.all false
set_option maxRecDepth 100000
set_option maxHeartbeats 4000000
namespace Kd
open PySem PySem.Spec PyProof.Rows L2
theorem call_repr {X : Cx} (hg : X.A.guards = some []) (hu : X.A.units + 64 < cLine) : CallR X (.builtin "repr") (fun xs H Q => ∃ v d, xs = [v] ∧ Dp X.K H v d ∧ d.showable = true ∧ d.hasDict = false ∧ d.shown.length ≤ sizeLine ∧ d.depth ≤ 60 ∧ Q (.str d.shown) H) := by
  intro pins s σ H xs us Q I r h
  obtain ⟨v, d, rfl, dp, hs, hn, hl, hd, q⟩ := h
  obtain ⟨u, rfl, rv⟩ := vals1 r
  obtain ⟨as, rd⟩ := Dp.reads I d v u dp rv
  have fin : ∀ (h' : Heap) (u' : Tok) (tk : Nat), (∀ b o, s.heap.get? b = some o → h'.get? b = some o) → EP X pins σ Q (.str d.shown u') { s with heap := h', toks := tk } := fun h' u' tk k =>
    ⟨.str _, H, I.kept (t' := tk) k, ⟨_, rfl⟩, q⟩
  cases rd with
  | none => simp only [PyData.shown] at fin; exact PySem.P.repr_of_none (fin s.heap _ _ fun _ _ e => e)
  | bool b => simp only [PyData.shown] at fin; exact PySem.P.repr_of_bool (fin s.heap _ _ fun _ _ e => e)
  | int i t => simp only [PyData.shown] at fin; exact PySem.P.repr_of_int (by simpa [PyData.showable] using hs) (fin s.heap _ _ fun _ _ e => e)
  | str x t => simp only [PyData.shown] at fin hl; exact PySem.P.repr_of_str (fin s.heap _ _ fun _ _ e => e) hl
  | list a b c e => exact repr_of_reads' (.list a b c e) hs (fun z => by rw [hn] at z; cases z) hg (by omega) (fun _ _ z => z) fin hl
  | tuple a b c e => exact repr_of_reads' (.tuple a b c e) hs (fun z => by rw [hn] at z; cases z) hg (by omega) (fun _ _ z => z) fin hl
  | dict a b c e f => simp [PyData.hasDict] at hn

/-- repr of data, dicts too -/
theorem call_reprD {X : Cx} (hg : X.A.guards = some []) (hu : X.A.units + 64 < cLine) : CallR X (.builtin "repr") (fun xs H Q => ∃ v d B, xs = [v] ∧ Same B H ∧ Dv X.K B v d ∧ noObj d = true ∧ d.showable = true ∧ d.shown.length ≤ sizeLine ∧ d.depth ≤ 60 ∧ Q (.str d.shown) H) := by
  intro pins s σ H xs us Q I r h
  obtain ⟨v, d, B, rfl, e, dv, n, hs, hz, hd, q⟩ := h
  by_cases nd : d.hasDict = false
  · exact call_repr hg hu pins s σ H [v] us Q I r ⟨v, d, rfl, dv.dp e nd, hs, nd, hz, hd, q⟩
  · obtain ⟨u, rfl, rv⟩ := vals1 r
    obtain ⟨as, rd, _⟩ := Dv.reads I e d v u dv n rv
    have fin : ∀ (h' : Heap) (u' : Tok) (tk : Nat), (∀ b o, s.heap.get? b = some o → h'.get? b = some o) → EP X pins σ Q (.str d.shown u') { s with heap := h', toks := tk } := fun h' u' tk k =>
      ⟨.str _, H, I.kept (t' := tk) k, ⟨_, rfl⟩, q⟩
    cases dv with
    | non => exact absurd rfl nd
    | bl b => exact absurd rfl nd
    | int i => exact absurd rfl nd
    | str x => exact absurd rfl nd
    | exc _ _ _ _ => exact absurd n (by simp [noObj, isObj])
    | ins _ _ _ => exact absurd n (by simp [noObj, isObj])
    | @lst a ys ds h0 ha =>
      cases rv
      obtain ⟨its, rl, ⟨o, m, ho, hc, _, hdat⟩, _⟩ := I.list (.of (e _ _ h0))
      have hz2 : (listText (PyData.shownAll ds)).length ≤ sizeLine := by simpa only [PyData.shown] using hz
      obtain ⟨bs, hb, hk⟩ := DvL.reprK I e ds _ its ha (by simpa [noObj] using n) rl (by simpa [PyData.showable] using hs) (fun t ht => Nat.le_trans (listText_mem_le ht) hz2)
      have hna : a ∉ bs := not_mem_of_deeper rd (by simp only [PyData.depth]; omega) hb
      simp only [PyData.depth] at hd
      simp only [PyData.shown] at fin
      cases its with
      | nil =>
        cases rl
        cases ha
        exact absurd (by simp [PyData.hasDict, PyData.hasDictAll]) nd
      | cons y l =>
        exact call_repr_slot (by omega) ⟨o, ho, hc⟩ F.slot_list_repr.toG (call_list_reprK ho hc hdat hna (by simpa using hk.length_eq) (fun i y e => hk.item i y (by simpa using e)) hg (fun b _ => Clear.nil b) (by show X.A.units + 1 + _ < cLine; omega) (fun _ _ z => z) (fun h' u tk k => ⟨_, _, rfl, fin h' u tk k⟩) hz2)
    | @tup a ys ds h0 ha =>
      cases rv
      obtain ⟨its, rl, ⟨o, ho, hc, m, hdat⟩, _⟩ := I.tuple (same_t e h0)
      have hz2 : (tupleText (PyData.shownAll ds)).length ≤ sizeLine := by simpa only [PyData.shown] using hz
      obtain ⟨bs, hb, hk⟩ := DvL.reprK I e ds _ its ha (by simpa [noObj] using n) rl (by simpa [PyData.showable] using hs) (fun t ht => Nat.le_trans (tupleText_mem_le ht) hz2)
      have hna : a ∉ bs := not_mem_of_deeper rd (by simp only [PyData.depth]; omega) hb
      simp only [PyData.depth] at hd
      simp only [PyData.shown] at fin
      exact call_repr_slot (by omega) ⟨o, ho, hc⟩ F.slot_tuple_repr (call_tuple_reprK ho hc hdat hna (by simpa using hk) hg (fun b _ => Clear.nil b) (by show X.A.units + 1 + _ < cLine; omega) (fun _ _ z => z) (fun h' u tk k => ⟨_, _, rfl, fin h' u tk k⟩) hz2)
    | @dct a kvs ds h0 ha =>
      cases rv
      simp only [noObj, Bool.and_eq_true, Bool.not_eq_true'] at n
      obtain ⟨_, hsm, vs, kv, o, es, ep, ho, hx, hdat, _, prs, _⟩ := (show ObjOk X.prog X.w H s.heap a (.dK kvs) from I.hok a _ (e _ _ h0))
      have hz2 : (dictText (PyData.shownKv ds)).length ≤ sizeLine := by simpa only [PyData.shown] using hz
      obtain ⟨s1, s2⟩ := PyData.showableKv_split ds (by simpa [PyData.showable] using hs)
      obtain ⟨_, rk, _, _⟩ := DvK.reads I e ds _ vs _ ha n.2 kv prs
      obtain ⟨c1, hc1, k1⟩ := ReprAllK.of_readsAll (prog := X.prog) (w := X.w) rk s1 (fun _ z => by cases z) (fun t ht => by
        obtain ⟨p, hp, hl⟩ := PyData.shownKv_key_le ds t ht
        exact Nat.le_trans hl (Nat.le_trans (dictText_mem_le hp) hz2))
      obtain ⟨c2, hc2, k2⟩ := DvK.reprK I e ds _ vs _ ha n.2 kv prs s2 (fun t ht => by
        obtain ⟨p, hp, hl⟩ := PyData.shownKv_val_le ds t ht
        exact Nat.le_trans hl (Nat.le_trans (dictText_mem_le hp) hz2))
      have hb : ReadAtMost s.heap (PyData.depthKv ds) (c1 ++ c2) := (hc1.mono (PyData.depthAll_keys_le ds)).append (hc2.mono (PyData.depthAll_vals_le ds))
      have hna : a ∉ c1 ++ c2 := not_mem_of_deeper rd (by simp only [PyData.depth]; omega) hb
      simp only [PyData.depth] at hd
      simp only [PyData.shown, PyData.shownKv_eq] at fin
      exact call_repr_slot (by omega) ⟨o, ho, hx.1⟩ F.slot_dict_repr (call_dict_reprK ho hx.1 hdat hsm hna (ReprEntriesK.of_two es.toList _ _ (k1.more_le (fun b z => List.mem_append_left _ z) (PyData.depthAll_keys_le ds)) (k2.more_le (fun b z => List.mem_append_right _ z) (PyData.depthAll_vals_le ds)))
        hg (fun b _ => Clear.nil b) (by show X.A.units + 1 + _ < cLine; omega) (fun _ _ z => z) (fun h' u tk k => ⟨_, _, rfl, fin h' u tk k⟩) (by rw [← PyData.shownKv_eq]; exact hz2))
end Kd


set_option Elab.async false
set_option linter.all false
set_option maxRecDepth 100000
set_option maxHeartbeats 4000000
/-! Operators, built-ins, own functions on data. -/
namespace Kd
open PySem PySem.Spec PyProof.Rows L2

/-- an operation on values that gives plain data -/
def OpOk (K : PySem.W.Frag) (r : R2) (x y z : PyData) : Prop := ∀ (B H : Hp) (v w : V), Same B H → Dv K B v x → Dv K B w y → ∀ Q : VK, (∀ u, Dv K B u z → Q u H) → r v w H Q
theorem opok_I0 {K : PySem.W.Frag} {g : Int → Int → V} {i j : Int} {z : PyData} (h : ∀ B, Dv K B (g i j) z) : OpOk K (rI0 g) (.int i) (.int j) z := fun B H v w e d1 d2 Q q => by
  cases d1; cases d2
  exact ⟨i, j, rfl, rfl, q _ (h B)⟩
theorem opok_I {K : PySem.W.Frag} {C : Int → Int → Prop} {g : Int → Int → V} {i j : Int} {z : PyData} (hc : C i j) (h : ∀ B, Dv K B (g i j) z) : OpOk K (rI C g) (.int i) (.int j) z := fun B H v w e d1 d2 Q q => by
  cases d1; cases d2
  exact ⟨i, j, rfl, rfl, hc, q _ (h B)⟩
theorem ite_some {c : Prop} [Decidable c] {α : Type} {a z : α} (h : (if c then some a else none) = some z) : c ∧ a = z := by
  split at h
  · rename_i hc
    exact ⟨hc, Option.some.inj h⟩
  · cases h
theorem bin_ok {X : Cx} {op : Operator} {x y z : PyData} (h : binD op x y = some z) : ∃ r, OpR X (binaryOp op) r ∧ OpOk X.K r x y z := by
  unfold binD at h
  split at h
  · cases h; exact ⟨_, op_add, opok_I0 fun B => .int _⟩
  · cases h; exact ⟨_, op_sub, opok_I0 fun B => .int _⟩
  · obtain ⟨hc, rfl⟩ := ite_some h; exact ⟨_, op_mul, opok_I hc fun B => .int _⟩
  · obtain ⟨hc, rfl⟩ := ite_some h; exact ⟨_, op_fdiv, opok_I hc fun B => .int _⟩
  · obtain ⟨hc, rfl⟩ := ite_some h; exact ⟨_, op_mod, opok_I hc fun B => .int _⟩
  · obtain ⟨hc, rfl⟩ := ite_some h; exact ⟨_, op_pow, opok_I hc fun B => .int _⟩
  · obtain ⟨hc, rfl⟩ := ite_some h
    exact ⟨_, op_add_str, fun B H v w e d1 d2 Q q => by cases d1; cases d2; exact ⟨_, _, rfl, rfl, small_line hc, q _ (.str _)⟩⟩
  · cases h
theorem nodict_shaped {d : PyData} (h : SeqAt.shaped d = true) : d.hasDict = false := PyData.hasDict_of_canLay d (SeqAt.canLay_of_shaped h)
theorem cmp_ok {X : Cx} (hu : X.A.units + 65 < cLine) {op : CmpOp} {x y : PyData} {b : Bool} (h : cmpD op x y = some b) : ∃ r, OpR X (compareOp op) r ∧ OpOk X.K r x y (.bool b) := by
  have hu' : X.A.units + 64 < cLine := by omega
  unfold cmpD at h
  split at h
  · cases h
    refine ⟨_, op_isN, fun B H v w e d1 d2 Q q => ?_⟩
    cases d2
    refine ⟨rfl, q _ ?_⟩
    cases d1 <;> exact .bl _
  · cases h
    refine ⟨_, op_notN, fun B H v w e d1 d2 Q q => ?_⟩
    cases d2
    refine ⟨rfl, q _ ?_⟩
    cases d1 <;> exact .bl _
  · cases h; exact ⟨_, op_lt, opok_I0 fun B => .bl _⟩
  · cases h; exact ⟨_, op_le, opok_I0 fun B => .bl _⟩
  · cases h; exact ⟨_, op_gt, opok_I0 fun B => .bl _⟩
  · cases h; exact ⟨_, op_ge, opok_I0 fun B => .bl _⟩
  · cases h
    refine ⟨_, op_eq, fun B H v w e d1 d2 Q q => ?_⟩
    cases d1; cases d2
    rename_i s t
    refine ⟨rfl, q _ ?_⟩
    have e1 : decide (V.str s = V.str t) = (s == t) := by
      by_cases z : s = t
      · subst z; simp
      · rw [decide_eq_false (fun k => z (V.str.inj k))]
        exact (beq_eq_false_iff_ne.mpr z).symm
    rw [e1]
    exact .bl _
  · cases h
    refine ⟨_, op_ne, fun B H v w e d1 d2 Q q => ?_⟩
    cases d1; cases d2
    rename_i s t
    refine ⟨rfl, q _ ?_⟩
    have e1 : decide (V.str s = V.str t) = (s == t) := by
      by_cases z : s = t
      · subst z; simp
      · rw [decide_eq_false (fun k => z (V.str.inj k))]
        exact (beq_eq_false_iff_ne.mpr z).symm
    rw [e1]
    exact .bl _
  · obtain ⟨hc, rfl⟩ := ite_some h
    rw [Bool.and_eq_true] at hc
    exact ⟨_, op_eqD hu', fun B H v w e d1 d2 Q q => ⟨_, _, d1.dp e (nodict_shaped hc.1), d2.dp e (nodict_shaped hc.2), hc.1, hc.2, q _ (.bl _)⟩⟩
  · obtain ⟨hc, rfl⟩ := ite_some h
    rw [Bool.and_eq_true] at hc
    exact ⟨_, op_neD hu', fun B H v w e d1 d2 Q q => ⟨_, _, d1.dp e (nodict_shaped hc.1), d2.dp e (nodict_shaped hc.2), hc.1, hc.2, q _ (.bl _)⟩⟩
  · cases h
    exact ⟨_, op_in_str, fun B H v w e d1 d2 Q q => by cases d1; cases d2; exact ⟨_, _, rfl, rfl, q _ (.bl _)⟩⟩
  · rename_i d ds _
    split at h
    · rename_i hc
      rw [Bool.and_eq_true] at hc
      cases h
      refine ⟨_, op_in_seq, fun B H v w e d1 d2 Q q => ?_⟩
      cases d2 with
      | lst hs r =>
        refine ⟨_, _, rfl, .inl (.of (e _ _ hs)), flat_dv d1 hc.1, flat_dvs r hc.2, q _ ?_⟩
        rw [if_neg Bool.false_ne_true, in_dv d1 hc.1 r hc.2]
        exact .bl _
    · obtain ⟨hc, rfl⟩ := ite_some h
      rw [Bool.and_eq_true] at hc
      exact ⟨_, op_inD hu, fun B H v w e d1 d2 Q q => ⟨_, _, d1.dp e (nodict_shaped hc.1), d2.dp e (nodict_shaped hc.2), hc.1, hc.2, q _ (.bl _)⟩⟩
  · rename_i d ds _
    obtain ⟨hc, rfl⟩ := ite_some h
    rw [Bool.and_eq_true] at hc
    refine ⟨_, op_in_seq, fun B H v w e d1 d2 Q q => ?_⟩
    cases d2 with
    | tup hs r =>
      refine ⟨_, _, rfl, .inr (same_t e hs), flat_dv d1 hc.1, flat_dvs r hc.2, q _ ?_⟩
      rw [if_neg Bool.false_ne_true, in_dv d1 hc.1 r hc.2]
      exact .bl _
  · cases h

/-- a built-in of one argument on data: its answer is plain, or a new object -/
def CallOk (K : PySem.W.Frag) (r : List V → Hp → VK → Prop) (x z : PyData) : Prop := ∀ (B H : Hp) (v : V), Same B H → Dv K B v x → ∀ Q : VK, (∀ u, Dv K B u z → Q u H) →
  (∀ q o, H q = none → (∀ B', Same B B' → Same B' (upd H q o) → B' q = some o → Dv K B' (.ref q) z) → Q (.ref q) (upd H q o)) → r [v] H Q
theorem showb_str (b : Bool) : PyData.shown (.bool b) = if b then ("True" : Str) else "False" := by simp only [PyData.shown]
inductive BtV
  | fn (id : String)
  | ty (n : String)
def btV : Bt → BtV
  | .len => .fn "len"
  | .all => .fn "all"
  | .any => .fn "any"
  | .repr => .fn "repr"
  | .toTup => .ty "tuple"
  | .toList => .ty "list"
  | .toInt => .ty "int"
  | .abs => .fn "abs"
def BtV.val : BtV → Value
  | .fn id => .builtin id
  | .ty n => .type n
theorem list_dv {K : PySem.W.Frag} {B : Hp} {v : V} {ds : List PyData} (h : Dv K B v (.list ds)) : ∃ a xs, v = .ref a ∧ SqL K B a xs ∧ DvL K B xs ds := by
  cases h with
  | lst h r => exact ⟨_, _, rfl, .of h, r⟩
theorem tup_dv {K : PySem.W.Frag} {B : Hp} {v : V} {ds : List PyData} (h : Dv K B v (.tuple ds)) : ∃ a xs, v = .ref a ∧ SqT K B a xs ∧ DvL K B xs ds := by
  cases h with
  | tup h r => exact ⟨_, _, rfl, h, r⟩
theorem blt_ok {X : Cx} (hc : X.calm = true) (hg : X.A.guards = some []) (hu : X.A.units + 65 < cLine) {b : Bt} {x z : PyData} (h : bltD b x = some z) :
    ∃ r, CallR X (btV b).val r ∧ CallOk X.K r x z := by
  unfold bltD at h
  split at h
  · cases h
    refine ⟨_, call_len_seq, fun B H v e d Q q _ => ?_⟩
    obtain ⟨a, xs, rfl, hs, r⟩ := list_dv d
    exact ⟨_, _, rfl, .inl (e.seq hs), q _ (by rw [r.length]; exact .int _)⟩
  · cases h
    refine ⟨_, call_len_seq, fun B H v e d Q q _ => ?_⟩
    obtain ⟨a, xs, rfl, hs, r⟩ := tup_dv d
    exact ⟨_, _, rfl, .inr (same_t e hs), q _ (by rw [r.length]; exact .int _)⟩
  · obtain ⟨hs, rfl⟩ := ite_some h
    refine ⟨_, call_len_str, fun B H v e d Q q _ => ?_⟩
    cases d
    exact ⟨_, rfl, small_line hs, q _ (.int _)⟩
  · obtain ⟨bs, h1, rfl⟩ := Option.map_eq_some_iff.mp h
    refine ⟨_, cr_all hc, fun B H v e d Q q _ => ?_⟩
    obtain ⟨a, xs, rfl, hs, r⟩ := list_dv d
    refine ⟨a, bs, rfl, ?_, q _ (.bl _)⟩
    rw [← bools_dv r h1]
    exact e.seq hs
  · obtain ⟨bs, h1, rfl⟩ := Option.map_eq_some_iff.mp h
    refine ⟨_, cr_any hc, fun B H v e d Q q _ => ?_⟩
    obtain ⟨a, xs, rfl, hs, r⟩ := list_dv d
    refine ⟨a, bs, rfl, ?_, q _ (.bl _)⟩
    rw [← bools_dv r h1]
    exact e.seq hs
  · obtain ⟨hs, rfl⟩ := ite_some h
    simp only [Bool.and_eq_true, Bool.not_eq_true', decide_eq_true_eq] at hs
    obtain ⟨⟨⟨h1, h2⟩, h3⟩, h4⟩ := hs
    refine ⟨_, call_reprD hg (by omega), fun B H v e d Q q _ => ?_⟩
    exact ⟨_, _, B, rfl, e, d, h2, h1, small_line h3, h4, q _ (.str _)⟩
  · cases h
    refine ⟨_, call_tuple_of, fun B H v e d Q q q2 => ?_⟩
    obtain ⟨a, xs, rfl, hs, r⟩ := list_dv d
    exact ⟨_, _, rfl, .inl ⟨e.seq hs, fun l hl => q2 l _ hl fun B' s1 s2 hb => .tup (.of hb) (r.mono s1)⟩⟩
  · cases h
    refine ⟨_, call_tuple_of, fun B H v e d Q q q2 => ?_⟩
    obtain ⟨a, xs, rfl, hs, r⟩ := tup_dv d
    exact ⟨_, _, rfl, .inr ⟨same_t e hs, q _ d⟩⟩
  · cases h
    refine ⟨_, call_list_of, fun B H v e d Q q q2 => ?_⟩
    obtain ⟨a, xs, rfl, hs, r⟩ := list_dv d
    exact ⟨_, _, rfl, .inl (e.seq hs), fun l hl => q2 l _ hl fun B' s1 s2 hb => .lst hb (r.mono s1)⟩
  · cases h
    refine ⟨_, call_list_of, fun B H v e d Q q q2 => ?_⟩
    obtain ⟨a, xs, rfl, hs, r⟩ := tup_dv d
    exact ⟨_, _, rfl, .inr (same_t e hs), fun l hl => q2 l _ hl fun B' s1 s2 hb => .lst hb (r.mono s1)⟩
  · cases h
    refine ⟨_, call_int1, fun B H v e d Q q _ => ?_⟩
    cases d
    exact .inl ⟨_, rfl, q _ (.int _)⟩
  · cases h
    refine ⟨_, call_int1, fun B H v e d Q q _ => ?_⟩
    cases d
    exact .inr ⟨_, rfl, q _ (.int _)⟩
  · cases h
    refine ⟨_, call_abs, fun B H v e d Q q _ => ?_⟩
    cases d
    exact ⟨_, rfl, q _ (.int _)⟩
  · cases h
theorem atI_dv {K : PySem.W.Frag} {B : Hp} {xs : List V} {ds : List PyData} {i : Int} {d : PyData} (r : DvL K B xs ds) (h : atI ds i = some d) : ∃ v, atI xs i = some v ∧ Dv K B v d := by
  unfold atI at h ⊢
  rw [r.length]
  cases e : ixN ds.length i with
  | none => rw [e] at h; cases h
  | some j =>
    rw [e] at h
    obtain ⟨v, h1, h2⟩ := r.get' h
    exact ⟨v, h1, h2⟩
theorem sub_ok {X : Cx} {x y z : PyData} (h : subD x y = some z) : ∃ r, IxR X r ∧ OpOk X.K r x y z := by
  unfold subD at h
  split at h
  · refine ⟨_, ix_list, fun B H v w e d1 d2 Q q => ?_⟩
    obtain ⟨a, xs, rfl, hs, r⟩ := list_dv d1
    cases d2
    obtain ⟨u, h1, h2⟩ := atI_dv r h
    exact ⟨a, xs, _, u, rfl, rfl, e.seq hs, h1, q u h2⟩
  · refine ⟨_, ix_tup, fun B H v w e d1 d2 Q q => ?_⟩
    obtain ⟨a, xs, rfl, hs, r⟩ := tup_dv d1
    cases d2
    obtain ⟨u, h1, h2⟩ := atI_dv r h
    exact ⟨a, xs, _, u, rfl, rfl, same_t e hs, h1, q u h2⟩
  · cases h
end Kd


set_option Elab.async false
set_option linter.all false
set_option maxRecDepth 100000
set_option maxHeartbeats 4000000
/-! The text and its code (Cor), and that the code's answer is the text's (sound). -/
namespace Kd
open PySem PySem.Spec PyProof.Rows L2

/-! ### promises on data -/
def New (B H B' : Hp) : Prop := ∀ a o, B' a = some o → (∃ o', B a = some o') ∨ H a = none
/-- a def on data: no more than new objects -/
def SpF (K : PySem.W.Frag) (m : List PyData → Option PyData) : Sp := fun vs H Q _ => ∃ ds d B, Same B H ∧ DvL K B vs ds ∧ m ds = some d ∧
  ∀ v B' H', Same B B' → Same B' H' → Same H H' → New B H B' → Dv K B' v d → Q v H'
/-- a def that draws: the pen first -/
def SpP (K : PySem.W.Frag) (m : List PyData → Pen → Option (PyData × Pen)) : Sp := fun vs H Q _ => ∃ a ws ds d B p p', vs = .ref a :: ws ∧ B a = none ∧ Same B H ∧ PenAt K B H a p ∧ DvL K B ws ds ∧ m ds p = some (d, p') ∧
  ∀ v B' H', Same B B' → Same B' H' → (∀ b o, b ≠ a → H b = some o → H' b = some o) → New B H B' → PenAt K B' H' a p' → Dv K B' v d → Q v H'

/-- a shape of text that is proved apart: of an expression by its parts, of a test, of a statement by its parts and slots -/
structure Shp where
  e : Scope → List Expr → Expr → Prop := fun _ _ _ => False
  t : Scope → List Expr → Expr → Prop := fun _ _ _ => False
  s : Scope → List Str → List Expr → List Nat → Stmt → Prop := fun _ _ _ _ _ => False
def setV : L2.St → List Nat → List V → L2.St
  | σ, j :: js, v :: vs => setV (σ.set j (some v)) js vs
  | σ, _, _ => σ
/-- what is asked of such a shape -/
structure OxOk (X : Cx) (Sh : Shp) (m : List PyData → Option PyData) : Prop where
  e : ∀ es x, Sh.e X.env.scope es x → ∀ {p : Option Addr} {B0 H0 B H : Hp} {σ : L2.St} {st1 : S} {ds : List PyData} {z : PyData} {Q : VK}, m ds = some z →
    (∀ Q' : List V → Hp → Prop, (∀ vs B1 H1, Rel X.K p B0 H0 B1 H1 σ st1 → Same B B1 → DvL X.K B1 vs ds → Q' vs H1) → wL X es σ H Q') →
    (∀ v B' H', Rel X.K p B0 H0 B' H' σ st1 → Same B B' → Dv X.K B' v z → Q v H') → wE X x σ H Q
  t : ∀ es x, Sh.t X.env.scope es x → ∀ {p : Option Addr} {B0 H0 B H : Hp} {σ : L2.St} {st1 : S} {ds : List PyData} {z : PyData} {b : Bool} {Q : Bool → Hp → Prop}, m ds = some z → truthD z = some b →
    (∀ Q' : List V → Hp → Prop, (∀ vs B1 H1, Rel X.K p B0 H0 B1 H1 σ st1 → Same B B1 → DvL X.K B1 vs ds → Q' vs H1) → wL X es σ H Q') →
    (∀ B' H', Rel X.K p B0 H0 B' H' σ st1 → Same B B' → Q b H') → wT X x σ H Q
  s : (∀ x, X.fn x = true) → PassesOwn (model X.prog X.w) X.A X.env X.xe → ∀ es js x, Sh.s X.env.scope X.N es js x → ∀ {p : Option Addr} {B0 H0 B H : Hp} {σ : L2.St} {st1 : S} {ds zs : List PyData} {D : Ends}, m ds = some (.list zs) → zs.length = js.length →
    (∀ Q' : List V → Hp → Prop, (∀ vs B1 H1, Rel X.K p B0 H0 B1 H1 σ st1 → Same B B1 → DvL X.K B1 vs ds → Q' vs H1) → wL X es σ H Q') →
    (∀ ws B' H', Rel X.K p B0 H0 B' H' σ st1 → Same B B' → DvL X.K B' ws zs → D.nx (setV σ js ws) H') → wS X x D σ H
def OxF (P : Program) (w : World) (K : PySem.W.Frag) (mg : Str → Option Value) (base : Heap) (k : Nat) (Sh : Shp) (m : List PyData → Option PyData) : Prop :=
  ∀ X : Cx, X.prog = P → X.w = w → X.K = K → X.mg = mg → X.base = base → Room k X.A → X.A.guards = some [] → X.calm = true → X.N.Nodup → OxOk X Sh m
structure En where
  x : Str
  n : Nat
  ks : List Str
  pm : List Nat
structure Gam where
  bs : List Str
  gs : List (Str × PyData)
  es : List En
  ps : List Str
  ats : List (Str × List Str × List Str) := []
  ics : List (Str × List (Str × Bool) × List (Str × Bool) × List String) := []
  ox : List Shp := []
structure FnF (P : Program) (w : World) (K : PySem.W.Frag) (mg : Str → Option Value) (base : Heap) (k : Nat) (e : En) (m : List PyData → Option PyData) : Prop where
  ex : ∃ f, mg e.x = some (.ref f) ∧ PySem.W.keepIn K (.ref f) = true ∧ ∀ (A : Around) (outer : List Env) (s : Shared) (H : Hp) (us ws : List Value) (vs : List V) (Q : VK) (ds : List PyData) (d : PyData) (B : Hp), Room k A → A.guards = some [] → Env0 P w K mg base A outer s H →
    us.length = e.n → ws.length = e.ks.length → Vals vs (us ++ ws) → Same B H → DvL K B vs ds → m ds = some d → (∀ v B' H', Same B B' → Same B' H' → Same H H' → New B H B' → Dv K B' v d → Q v H') →
    codeAny (model P w) A (.call (.ref f) ⟨us, e.ks.zip ws⟩) (CR CX0 outer P w H s Q fun _ _ _ => False) s
structure PfF (P : Program) (w : World) (K : PySem.W.Frag) (mg : Str → Option Value) (base : Heap) (k : Nat) (x : Str) (m : List PyData → Pen → Option (PyData × Pen)) : Prop where
  ex : ∃ f fd ps, mg x = some (.ref f) ∧ PySem.W.keepIn K (.ref f) = true ∧ FG P w K mg base CX0 k f fd ps (SpP K m) ∧ Binds K fd ps []
/-- what is asked of a class whose instances are looked at -/
def AtOk (K : PySem.W.Frag) (f : Str) (cE cI : List Str) : Prop := (∀ x C, x ∈ cE → PySem.W.nsIn K mainGlobals x = some (some (.ref C)) → XfC K C ∧ PySem.W.findIn K (.ref C) f = some none) ∧
  ∀ x C, x ∈ cI → PySem.W.nsIn K mainGlobals x = some (some (.ref C)) → Cls K C ∧ NoAttr K C f
structure InC (K : PySem.W.Frag) (C : Addr) : Prop where
  cl : Cls K C
  ha : PySem.W.findIn K (.ref C) "__class__" = some (some (.builtin "object.__class__"))
  hn : PySem.W.specialIn K (.builtin "object.__class__") "__get__" = some (some (.builtin "getset_descriptor.__get__"))
  ht : PySem.W.takesIn K (.builtin "object.__class__") = some true
  hm : PySem.W.mroIn K C (.type "object") = some true
def IcOk (K : PySem.W.Frag) (mg : Str → Option Value) (t : Str) (tE tI : List (Str × Bool)) (tO : List String) : Prop := ∃ T, mg t = some (.ref T) ∧
  (∀ x C b, tE.lookup x = some b → PySem.W.nsIn K mainGlobals x = some (some (.ref C)) → L2.ExcC K C ∧ PySem.W.kitOne K (.ref C) (.ref T) = some b) ∧
  (∀ x C b, tI.lookup x = some b → PySem.W.nsIn K mainGlobals x = some (some (.ref C)) → InC K C ∧ PySem.W.kitOne K (.ref C) (.ref T) = some b) ∧ ∀ n ∈ tO, PySem.W.kitOne K (.type n) (.ref T) = some false
/-- what a body leans on -/
structure Ok (Γ : Gam) (F : Fns) (N : List Str) (k : Nat) (X : Cx) : Prop where
  hN : X.N = N
  calm : X.calm = true
  nd : N.Nodup
  room : Room k X.A
  gd : X.A.guards = some []
  bl : ∀ x ∈ Γ.bs, X.mg x = none
  gl : ∀ (i : Nat) x d, Γ.gs[i]? = some (x, d) → ∃ v u, X.mg x = some u ∧ RelV v u ∧ ∀ B, Dv X.K B v d
  fn : ∀ i e, Γ.es[i]? = some e → FnF X.prog X.w X.K X.mg X.base k e (F.fn i)
  pf : ∀ i x, Γ.ps[i]? = some x → PfF X.prog X.w X.K X.mg X.base k x (F.pf i)
  at_ : ∀ f cE cI, (f, cE, cI) ∈ Γ.ats → AtOk X.K f cE cI
  ic : ∀ t tE tI tO, (t, tE, tI, tO) ∈ Γ.ics → IcOk X.K X.mg t tE tI tO
  ox : ∀ i Sh, Γ.ox[i]? = some Sh → OxF X.prog X.w X.K X.mg X.base k Sh (F.ox i)

/-! ### the text and its code -/
def Pl (sc : Scope) (x : Str) : Prop := sc.names.lookup x = some .globalImplicit
mutual
inductive Cor (Γ : Gam) (N : List Str) : Scope → Expr → C → Prop
  | var {sc : Scope} {x : Str} {pos : Pos} {i : Nat} (h : N[i]? = some x) (hv : Vis sc x) (h1 : (x == ("__debug__" : Str)) = false) (h2 : (x == ("__classdict__" : Str)) = false) : Cor Γ N sc (.Name x pos) (.var i)
  | int {sc : Scope} {i : Int} {j : Nat} {pos : Pos} : Cor Γ N sc (.Constant (.int i) j pos) (.cst (.int i))
  | bl {sc : Scope} {b : Bool} {j : Nat} {pos : Pos} : Cor Γ N sc (.Constant (.bool b) j pos) (.cst (.bool b))
  | non {sc : Scope} {j : Nat} {pos : Pos} : Cor Γ N sc (.Constant .none j pos) (.cst .none)
  | str {sc : Scope} {x : Str} {j : Nat} {pos : Pos} : Cor Γ N sc (.Constant (.str x) j pos) (.cst (.str x))
  | glb {sc : Scope} {x : Str} {pos : Pos} {d : PyData} (i : Nat) (h : Pl sc x) (hm : Γ.gs[i]? = some (x, d)) (h1 : (x == ("__debug__" : Str)) = false) : Cor Γ N sc (.Name x pos) (.glb d)
  | one {sc : Scope} {op : BoolOp} {a : Expr} {pos : Pos} {ca : C} (ha : Cor Γ N sc a ca) : Cor Γ N sc (.BoolOp op [a] pos) ca
  | and_ {sc : Scope} {a b : Expr} {rest : List Expr} {pos : Pos} {ca cb : C} (ha : Cor Γ N sc a ca) (hb : Cor Γ N sc (.BoolOp .And (b :: rest) pos) cb) : Cor Γ N sc (.BoolOp .And (a :: b :: rest) pos) (.and_ ca cb)
  | or_ {sc : Scope} {a b : Expr} {rest : List Expr} {pos : Pos} {ca cb : C} (ha : Cor Γ N sc a ca) (hb : Cor Γ N sc (.BoolOp .Or (b :: rest) pos) cb) : Cor Γ N sc (.BoolOp .Or (a :: b :: rest) pos) (.or_ ca cb)
  | not_ {sc : Scope} {a : Expr} {pos : Pos} {ca : C} (ha : Cor Γ N sc a ca) : Cor Γ N sc (.UnaryOp .Not a pos) (.not_ ca)
  | ite {sc : Scope} {t a b : Expr} {pos : Pos} {ct ca cb : C} (ht : CorT Γ N sc t ct) (ha : Cor Γ N sc a ca) (hb : Cor Γ N sc b cb) : Cor Γ N sc (.IfExp t a b pos) (.ite ct ca cb)
  | bin {sc : Scope} {op : Operator} {a b : Expr} {pos : Pos} {ca cb : C} (ha : Cor Γ N sc a ca) (hb : Cor Γ N sc b cb) : Cor Γ N sc (.BinOp a op b pos) (.bin op ca cb)
  | cat {sc : Scope} {a b : Expr} {pos : Pos} {ca cb : C} (ha : Cor Γ N sc a ca) (hb : Cor Γ N sc b cb) : Cor Γ N sc (.BinOp a .Add b pos) (.cat ca cb)
  | neg {sc : Scope} {a : Expr} {pos : Pos} {ca : C} (ha : Cor Γ N sc a ca) : Cor Γ N sc (.UnaryOp .USub a pos) (.neg ca)
  | cmp {sc : Scope} {op : CmpOp} {a b : Expr} {pos : Pos} {ca cb : C} (ha : Cor Γ N sc a ca) (hb : Cor Γ N sc b cb) (hm : behindInMarks op b = false) : Cor Γ N sc (.Compare a [op] [b] pos) (.cmp op ca cb)
  | chain {sc : Scope} {o1 o2 : CmpOp} {a b c : Expr} {pos : Pos} {ca cb cc : C} (ha : Cor Γ N sc a ca) (hb : Cor Γ N sc b cb) (hc : Cor Γ N sc c cc) (hm : lastMarks [o1, o2] [b, c] = false) : Cor Γ N sc (.Compare a [o1, o2] [b, c] pos) (.chain o1 o2 ca cb cc)
  | tup {sc : Scope} {es : List Expr} {k : Nat} {pos : Pos} {cs : Cs} (h : CorL Γ N sc es cs) : Cor Γ N sc (.Tuple es k pos) (.tup cs)
  | lst {sc : Scope} {es : List Expr} {pos : Pos} {cs : Cs} (h : CorL Γ N sc es cs) : Cor Γ N sc (.List es pos) (.lst cs)
  | dct1 {sc : Scope} {v : Expr} {x : Str} {j : Nat} {p1 pos : Pos} {cv : C} (h : Cor Γ N sc v cv) : Cor Γ N sc (.Dict [some (.Constant (.str x) j p1)] [v] pos) (.dct1 x cv)
  | lset {sc : Scope} {a : Expr} {p p2 q pos : Pos} {ca : C} (ha : Cor Γ N sc a ca) (h1 : Pl sc "len") (h2 : ("len" : Str) ∈ Γ.bs) (h3 : Pl sc "set") (h4 : ("set" : Str) ∈ Γ.bs) (hs : ∀ env, starEach [a] env = (false, eval a env) :: starEach [] env) :
    Cor Γ N sc (.Call (.Name "len" p) [.Call (.Name "set" p2) [a] [] q] [] pos) (.lset ca)
  | lenO {sc : Scope} {i : Nat} {x : Str} {p p2 pos : Pos} (hx : N[i]? = some x) (hv : Vis sc x) (h3 : (x == ("__debug__" : Str)) = false) (h4 : (x == ("__classdict__" : Str)) = false) (h1 : Pl sc "len") (h2 : ("len" : Str) ∈ Γ.bs) : Cor Γ N sc (.Call (.Name "len" p) [.Name x p2] [] pos) (.lenO i)
  | neO {sc : Scope} {i : Nat} {x : Str} {p p2 pos : Pos} (hx : N[i]? = some x) (hv : Vis sc x) (h3 : (x == ("__debug__" : Str)) = false) (h4 : (x == ("__classdict__" : Str)) = false) : Cor Γ N sc (.Compare (.Name x p) [.NotEq] [.List [] p2] pos) (.neO i)
  | popO {sc : Scope} {i : Nat} {x : Str} {e : Expr} {p ap cp : Pos} {c : C} (hx : N[i]? = some x) (hv : Vis sc x) (h3 : (x == ("__debug__" : Str)) = false) (h4 : (x == ("__classdict__" : Str)) = false) (he : Cor Γ N sc e c) (hl : (ap.endLine == cp.line) = true)
    (hs : ∀ env, starEach [e] env = (false, eval e env) :: starEach [] env) : Cor Γ N sc (.Call (.Attribute (.Name x p) "pop" ap) [e] [] cp) (.popO i c)
  | frz {sc : Scope} {i : Nat} {x : Str} {p : Pos} (hx : N[i]? = some x) (hv : Vis sc x) (h3 : (x == ("__debug__" : Str)) = false) (h4 : (x == ("__classdict__" : Str)) = false) : Cor Γ N sc (.Name x p) (.frz i)
  | penG {sc : Scope} {j n : Nat} {k : Int} {y : Str} {p p2 pos : Pos} (hx : N[j]? = some y) (hv : Vis sc y) (h3 : (y == ("__debug__" : Str)) = false) (h4 : (y == ("__classdict__" : Str)) = false) (hk : k = 1 ∨ k = 2) : Cor Γ N sc (.Subscript (.Name y p) (.Constant (.int k) n p2) pos) (.penG j k.toNat)
  | penAt {sc : Scope} {j n : Nat} {y : Str} {e : Expr} {p p2 p3 pos : Pos} {c : C} (hx : N[j]? = some y) (hv : Vis sc y) (h3 : (y == ("__debug__" : Str)) = false) (h4 : (y == ("__classdict__" : Str)) = false) (he : Cor Γ N sc e c) (hp : PlainIx e) :
    Cor Γ N sc (.Subscript (.Subscript (.Name y p) (.Constant (.int 0) n p2) p3) e pos) (.penAt j c)
  | penLen {sc : Scope} {j n : Nat} {y : Str} {p0 p p2 p3 pos : Pos} (hx : N[j]? = some y) (hv : Vis sc y) (h3 : (y == ("__debug__" : Str)) = false) (h4 : (y == ("__classdict__" : Str)) = false) (h1 : Pl sc "len") (h2 : ("len" : Str) ∈ Γ.bs) :
    Cor Γ N sc (.Call (.Name "len" p0) [.Subscript (.Name y p) (.Constant (.int 0) n p2) p3] [] pos) (.penLen j)
  | isi1 {sc : Scope} {a : Expr} {t : Str} {T : String} {p p2 pos : Pos} {ca : C} (ha : Cor Γ N sc a ca) (h1 : Pl sc "isinstance") (h2 : ("isinstance" : Str) ∈ Γ.bs) (h3 : Pl sc t) (h4 : t ∈ Γ.bs) (h5 : bootBuiltins t = some (.type T)) (h6 : t ≠ "__name__") (h7 : (t == ("__debug__" : Str)) = false)
    (hs : ∀ env, starEach [a, .Name t p2] env = (false, eval a env) :: starEach [.Name t p2] env) : Cor Γ N sc (.Call (.Name "isinstance" p) [a, .Name t p2] [] pos) (.isi ca [T])
  | isi2 {sc : Scope} {a : Expr} {t t' : Str} {T T' : String} {p p2 p3 p4 pos : Pos} {k : Nat} {ca : C} (ha : Cor Γ N sc a ca) (h1 : Pl sc "isinstance") (h2 : ("isinstance" : Str) ∈ Γ.bs) (h3 : Pl sc t) (h4 : t ∈ Γ.bs) (h5 : bootBuiltins t = some (.type T)) (h6 : t ≠ "__name__") (h7 : (t == ("__debug__" : Str)) = false)
    (h3' : Pl sc t') (h4' : t' ∈ Γ.bs) (h5' : bootBuiltins t' = some (.type T')) (h6' : t' ≠ "__name__") (h7' : (t' == ("__debug__" : Str)) = false)
    (hs : ∀ env, starEach [a, .Tuple [.Name t p2, .Name t' p3] k p4] env = (false, eval a env) :: starEach [.Tuple [.Name t p2, .Name t' p3] k p4] env) : Cor Γ N sc (.Call (.Name "isinstance" p) [a, .Tuple [.Name t p2, .Name t' p3] k p4] [] pos) (.isi ca [T, T'])
  | call {sc : Scope} {i n : Nat} {x : Str} {pm : List Nat} {es : List Expr} {p pos : Pos} {cs : Cs} (he : Γ.es[i]? = some ⟨x, n, [], pm⟩) (h : CorL Γ N sc es cs) (hn : es.length = n) (h1 : Pl sc x) (h2 : (x == ("__debug__" : Str)) = false) : Cor Γ N sc (.Call (.Name x p) es [] pos) (.call i cs)
  | callK {sc : Scope} {i : Nat} {x : Str} {ks : List Str} {pm : List Nat} {kws : List Keyword} {es : List Expr} {p pos : Pos} {cs : Cs} (he : Γ.es[i]? = some ⟨x, 0, ks, pm⟩) (hv : kws.map (fun k => k.value) = es) (h : CorL Γ N sc es cs) (hk : kws.map (fun k => k.arg) = ks.map some) (h1 : Pl sc x) (h2 : (x == ("__debug__" : Str)) = false) :
    Cor Γ N sc (.Call (.Name x p) [] kws pos) (.call i cs)
  | pcall {sc : Scope} {i j : Nat} {x y : Str} {es : List Expr} {p p2 pos : Pos} {cs : Cs} (hx : Γ.ps[i]? = some x) (hy : N[j]? = some y) (hv : Vis sc y) (h : CorL Γ N sc es cs) (h1 : Pl sc x) (h2 : (x == ("__debug__" : Str)) = false) (h3 : (y == ("__debug__" : Str)) = false) (h4 : (y == ("__classdict__" : Str)) = false) :
    Cor Γ N sc (.Call (.Name x p) (.Name y p2 :: es) [] pos) (.pcall i j cs)
  | bltF {sc : Scope} {b : Bt} {id : String} {x : Str} {a : Expr} {p pos : Pos} {ca : C} (hb : btV b = .fn id) (ha : Cor Γ N sc a ca) (h1 : Pl sc x) (h2 : x ∈ Γ.bs) (h3 : bootBuiltins x = some (.builtin id)) (h4 : x ≠ "__name__") (h5 : (x == ("__debug__" : Str)) = false)
    (hs : ∀ env, starEach [a] env = (false, eval a env) :: starEach [] env) : Cor Γ N sc (.Call (.Name x p) [a] [] pos) (.blt b ca)
  | bltT {sc : Scope} {b : Bt} {id : String} {x : Str} {a : Expr} {p pos : Pos} {ca : C} (hb : btV b = .ty id) (ha : Cor Γ N sc a ca) (h1 : Pl sc x) (h2 : x ∈ Γ.bs) (h3 : bootBuiltins x = some (.type id)) (h4 : x ≠ "__name__") (h5 : (x == ("__debug__" : Str)) = false)
    (hs : ∀ env, starEach [a] env = (false, eval a env) :: starEach [] env) : Cor Γ N sc (.Call (.Name x p) [a] [] pos) (.blt b ca)
  | comp {sc scope : Scope} {i : Nat} {x : Str} {elt iter : Expr} {p pos : Pos} {ce : C} {ci : Ci} (hi : CorI Γ N sc iter ci) (hb : BlkOk N sc scope [(x, i)]) (hx : N[i]? = some x) (hl : (relS scope sc).names.lookup x = some .local) (he : Cor Γ N (relS scope sc) elt ce)
    (hs : ∀ env v, foldedSetIterable iter env v = pure v) : Cor Γ N sc (.ListComp elt [⟨.Name x p, iter, [], 0⟩] scope pos) (.comp ce i ci)
  | sub {sc : Scope} {a i : Expr} {pos : Pos} {ca ci : C} (ha : Cor Γ N sc a ca) (hi : Cor Γ N sc i ci) (hs : PlainIx i) : Cor Γ N sc (.Subscript a i pos) (.sub ca ci)
  | upto {sc : Scope} {a n : Expr} {p pos : Pos} {ca cn : C} (ha : Cor Γ N sc a ca) (hn : Cor Γ N sc n cn) : Cor Γ N sc (.Subscript a (.Slice none (some n) none p) pos) (.upto ca cn)
  | attr {sc : Scope} {a : Expr} {f : Str} {pos : Pos} {ca : C} {cE cI : List Str} (ha : Cor Γ N sc a ca) (hm : (f, cE, cI) ∈ Γ.ats) (hb : ∀ env, attributeBase a f env (eval a env) = eval a env) : Cor Γ N sc (.Attribute a f pos) (.attr ca f cE cI)
  | isc {sc : Scope} {a : Expr} {t : Str} {p p2 pos : Pos} {ca : C} {tE tI : List (Str × Bool)} {tO : List String} (ha : Cor Γ N sc a ca) (h1 : Pl sc "isinstance") (h2 : ("isinstance" : Str) ∈ Γ.bs) (h3 : Pl sc t) (h7 : (t == ("__debug__" : Str)) = false) (hm : (t, tE, tI, tO) ∈ Γ.ics)
    (hs : ∀ env, starEach [a, .Name t p2] env = (false, eval a env) :: starEach [.Name t p2] env) : Cor Γ N sc (.Call (.Name "isinstance" p) [a, .Name t p2] [] pos) (.isc ca tE tI tO)
  | rep {sc : Scope} {a b : Expr} {pos : Pos} {ca cb : C} (ha : Cor Γ N sc a ca) (hb : Cor Γ N sc b cb) : Cor Γ N sc (.BinOp a .Mult b pos) (.rep ca cb)
  | op {sc : Scope} {i : Nat} {Sh : Shp} {es : List Expr} {e : Expr} {cs : Cs} (h : Γ.ox[i]? = some Sh) (hs : Sh.e sc es e) (hl : CorL Γ N sc es cs) : Cor Γ N sc e (.op i cs)
inductive CorT (Γ : Gam) (N : List Str) : Scope → Expr → C → Prop
  | val {sc : Scope} {e : Expr} {c : C} (h : Cor Γ N sc e c) (he : ∀ env whole, isTrue e env whole = (do let v ← whole; standAt e.pos; holding [v] (truthy v))) : CorT Γ N sc e c
  | not_ {sc : Scope} {a : Expr} {pos : Pos} {ca : C} (ha : CorT Γ N sc a ca) : CorT Γ N sc (.UnaryOp .Not a pos) (.not_ ca)
  | cmp {sc : Scope} {op : CmpOp} {a b : Expr} {pos : Pos} {ca cb : C} (ha : Cor Γ N sc a ca) (hb : Cor Γ N sc b cb) (hm : behindInMarks op b = false) : CorT Γ N sc (.Compare a [op] [b] pos) (.cmp op ca cb)
  | chain {sc : Scope} {o1 o2 : CmpOp} {a b c : Expr} {pos : Pos} {ca cb cc : C} (ha : Cor Γ N sc a ca) (hb : Cor Γ N sc b cb) (hc : Cor Γ N sc c cc) (hm : lastMarks [o1, o2] [b, c] = false) : CorT Γ N sc (.Compare a [o1, o2] [b, c] pos) (.chain o1 o2 ca cb cc)
  | neO {sc : Scope} {i : Nat} {x : Str} {p p2 pos : Pos} (hx : N[i]? = some x) (hv : Vis sc x) (h3 : (x == ("__debug__" : Str)) = false) (h4 : (x == ("__classdict__" : Str)) = false) : CorT Γ N sc (.Compare (.Name x p) [.NotEq] [.List [] p2] pos) (.neO i)
  | penNe {sc : Scope} {j n : Nat} {y : Str} {p p2 p3 p4 pos : Pos} (hx : N[j]? = some y) (hv : Vis sc y) (h3 : (y == ("__debug__" : Str)) = false) (h4 : (y == ("__classdict__" : Str)) = false) :
    CorT Γ N sc (.Compare (.Subscript (.Name y p) (.Constant (.int 0) n p2) p3) [.NotEq] [.List [] p4] pos) (.penNe j)
  | bool {sc : Scope} {e : Expr} {c : C} (h : CorW Γ N sc e c) : CorT Γ N sc e c
  | op {sc : Scope} {i : Nat} {Sh : Shp} {es : List Expr} {e : Expr} {cs : Cs} (h : Γ.ox[i]? = some Sh) (hs : Sh.t sc es e) (hl : CorL Γ N sc es cs) : CorT Γ N sc e (.op i cs)
inductive CorW (Γ : Gam) (N : List Str) : Scope → Expr → C → Prop
  | one {sc : Scope} {op : BoolOp} {a : Expr} {pos : Pos} {ca : C} (ha : CorT Γ N sc a ca) : CorW Γ N sc (.BoolOp op [a] pos) ca
  | and_ {sc : Scope} {a b : Expr} {rest : List Expr} {pos : Pos} {ca cb : C} (ha : CorT Γ N sc a ca) (hb : CorW Γ N sc (.BoolOp .And (b :: rest) pos) cb) : CorW Γ N sc (.BoolOp .And (a :: b :: rest) pos) (.and_ ca cb)
  | or_ {sc : Scope} {a b : Expr} {rest : List Expr} {pos : Pos} {ca cb : C} (ha : CorT Γ N sc a ca) (hb : CorW Γ N sc (.BoolOp .Or (b :: rest) pos) cb) : CorW Γ N sc (.BoolOp .Or (a :: b :: rest) pos) (.or_ ca cb)
inductive CorL (Γ : Gam) (N : List Str) : Scope → List Expr → Cs → Prop
  | nil {sc : Scope} : CorL Γ N sc [] .nil
  | cons {sc : Scope} {e : Expr} {es : List Expr} {c : C} {cs : Cs} (h : Cor Γ N sc e c) (r : CorL Γ N sc es cs) (hs : ∀ env, starEach (e :: es) env = (false, eval e env) :: starEach es env) : CorL Γ N sc (e :: es) (.cons c cs)
inductive CorI (Γ : Gam) (N : List Str) : Scope → Expr → Ci → Prop
  | seq {sc : Scope} {e : Expr} {c : C} (h : Cor Γ N sc e c) : CorI Γ N sc e (.seq c)
  | rng {sc : Scope} {a : Expr} {p pos : Pos} {c : C} (h : Cor Γ N sc a c) (h1 : Pl sc "range") (h2 : ("range" : Str) ∈ Γ.bs) (hs : ∀ env, starEach [a] env = [(false, eval a env)]) : CorI Γ N sc (.Call (.Name "range" p) [a] [] pos) (.rng c)
end
end Kd


set_option Elab.async false
set_option linter.all false
set_option maxRecDepth 100000
set_option maxHeartbeats 8000000
namespace Kd
open PySem PySem.Spec PyProof.Rows L2

def SndE (Γ : Gam) (F : Fns) (N : List Str) (k : Nat) (sc : Scope) (e : Expr) (c : C) : Prop :=
  ∀ X, Ok Γ F N k X → X.env.scope = sc → ∀ p B0 H0 B H σ st d st', Rel X.K p B0 H0 B H σ st → evalE F c st = some (d, st') →
    ∀ Q : VK, (∀ v B' H', Rel X.K p B0 H0 B' H' σ st' → Same B B' → Dv X.K B' v d → Q v H') → wE X e σ H Q
def SndT (Γ : Gam) (F : Fns) (N : List Str) (k : Nat) (sc : Scope) (e : Expr) (c : C) : Prop :=
  ∀ X, Ok Γ F N k X → X.env.scope = sc → ∀ p B0 H0 B H σ st d st' b, Rel X.K p B0 H0 B H σ st → evalE F c st = some (d, st') → truthD d = some b →
    ∀ Q : Bool → Hp → Prop, (∀ B' H', Rel X.K p B0 H0 B' H' σ st' → Same B B' → Q b H') → wT X e σ H Q
def SndW (Γ : Gam) (F : Fns) (N : List Str) (k : Nat) (sc : Scope) (e : Expr) (c : C) : Prop :=
  ∀ X, Ok Γ F N k X → X.env.scope = sc → ∀ p B0 H0 B H σ st d st' b, Rel X.K p B0 H0 B H σ st → evalE F c st = some (d, st') → truthD d = some b →
    ∀ Q : Bool → Hp → Prop, (∀ B' H', Rel X.K p B0 H0 B' H' σ st' → Same B B' → Q b H') → wW X e σ H Q
def SndL (Γ : Gam) (F : Fns) (N : List Str) (k : Nat) (sc : Scope) (es : List Expr) (cs : Cs) : Prop :=
  ∀ X, Ok Γ F N k X → X.env.scope = sc → ∀ p B0 H0 B H σ st ds st', Rel X.K p B0 H0 B H σ st → evalL F cs st = some (ds, st') →
    (∀ Q : List V → Hp → Prop, (∀ vs B' H', Rel X.K p B0 H0 B' H' σ st' → Same B B' → DvL X.K B' vs ds → Q vs H') → wA X es σ H Q) ∧
    (∀ kws : List Keyword, kws.map (fun k => k.value) = es → ∀ Q : List V → Hp → Prop, (∀ vs B' H', Rel X.K p B0 H0 B' H' σ st' → Same B B' → DvL X.K B' vs ds → Q vs H') → wK X kws σ H Q) ∧
    (∀ Q : List V → Hp → Prop, (∀ vs B' H', Rel X.K p B0 H0 B' H' σ st' → Same B B' → DvL X.K B' vs ds → Q vs H') → wL X es σ H Q)
/-- what an iteration gives -/
def Yd (K : PySem.W.Frag) (B H : Hp) (x : V) (H' : Hp) (d : PyData) : Prop := (H' = H ∧ Dv K B x d)
def SndI (Γ : Gam) (F : Fns) (N : List Str) (k : Nat) (sc : Scope) (e : Expr) (c : Ci) : Prop :=
  ∀ X, Ok Γ F N k X → X.env.scope = sc → ∀ p B0 H0 B H σ st xs st', Rel X.K p B0 H0 B H σ st → evalI F c st = some (xs, st') →
    ∀ (tg : Expr) (R : It → Hp → Prop), (∀ J B' H' G Y, Rel X.K p B0 H0 B' H' σ st' → Same B B' → Walk J xs.length G Y → (∀ H2, Same B' H2 → G H2) →
      (∀ i H2 x H3, i < xs.length → Same B' H2 → Y i H2 x H3 → ∃ d, xs[i]? = some d ∧ Yd X.K B' H2 x H3 d) → R J H') → wI X tg e σ H R

section
variable {Γ : Gam} {F : Fns} {N : List Str} {k : Nat} {sc : Scope}
theorem snd_cst {e : Expr} {d : PyData} {v : V} (h : ∀ X, PE X e (tC v)) (hd : ∀ K B, Dv K B v d) : SndE Γ F N k sc e (.cst d) := by
  intro X ok hs p B0 H0 B H σ st d' st' R ev Q q
  cases ev
  exact w_pe (h X) (q v B H R (Same.refl _) (hd _ _))
theorem some2 {α β : Type} {a a' : α} {b b' : β} (h : some (a, b) = some (a', b')) : a = a' ∧ b = b' := by
  cases h
  exact ⟨rfl, rfl⟩
theorem ok_units {X : Cx} (ok : Ok Γ F N k X) : X.A.units + 65 < cLine := by
  have := ok.room.un
  omega
theorem snd_var {x : Str} {pos : Pos} {i : Nat} (h : N[i]? = some x) (hv : Vis sc x) (h1 : (x == ("__debug__" : Str)) = false) (h2 : (x == ("__classdict__" : Str)) = false) : SndE Γ F N k sc (.Name x pos) (.var i) := by
  intro X ok hs p B0 H0 B H σ st d st' R ev Q q
  simp only [evalE] at ev
  split at ev
  · rename_i d0 e0
    obtain ⟨rfl, rfl⟩ := some2 ev
    obtain ⟨v, s1, s2⟩ := R.sl i _ e0
    exact w_pe (pe_var (by rw [ok.hN]; exact h) (by rw [hs]; exact hv) h1 h2) ⟨v, s1, q v B H R (Same.refl _) s2⟩
  · cases ev
theorem snd_glb {x : Str} {pos : Pos} {d : PyData} {i : Nat} (h : Pl sc x) (hm : Γ.gs[i]? = some (x, d)) (h1 : (x == ("__debug__" : Str)) = false) : SndE Γ F N k sc (.Name x pos) (.glb d) := by
  intro X ok hs p B0 H0 B H σ st d' st' R ev Q q
  obtain ⟨rfl, rfl⟩ := some2 ev
  obtain ⟨v, u, g1, g2, g3⟩ := ok.gl i x _ hm
  exact w_pe (pe_glob (by show X.env.scope.names.lookup x = _; rw [hs]; exact h) g1 g2 h1) (q v B H R (Same.refl _) (g3 _))
theorem snd_and {a b : Expr} {rest : List Expr} {pos : Pos} {ca cb : C} (ha : SndE Γ F N k sc a ca) (hb : SndE Γ F N k sc (.BoolOp .And (b :: rest) pos) cb) : SndE Γ F N k sc (.BoolOp .And (a :: b :: rest) pos) (.and_ ca cb) := by
  intro X ok hs p B0 H0 B H σ st d st' R ev Q q
  simp only [evalE] at ev
  refine w_pe (pe_and pe_w pe_w) ?_
  split at ev
  · rename_i st1 e1
    refine ha X ok hs _ _ _ _ _ _ _ _ _ R e1 _ fun v B1 H1 R1 s1 d1 => ?_
    cases d1
    exact ⟨true, rfl, iteT (hb X ok hs _ _ _ _ _ _ _ _ _ R1 ev _ fun v B2 H2 R2 s2 d2 => q v B2 H2 R2 (s1.trans s2) d2)⟩
  · rename_i st1 e1
    obtain ⟨rfl, rfl⟩ := some2 ev
    refine ha X ok hs _ _ _ _ _ _ _ _ _ R e1 _ fun v B1 H1 R1 s1 d1 => ?_
    cases d1
    exact ⟨false, rfl, iteF (q _ B1 H1 R1 s1 (.bl _))⟩
  · cases ev
theorem snd_or {a b : Expr} {rest : List Expr} {pos : Pos} {ca cb : C} (ha : SndE Γ F N k sc a ca) (hb : SndE Γ F N k sc (.BoolOp .Or (b :: rest) pos) cb) : SndE Γ F N k sc (.BoolOp .Or (a :: b :: rest) pos) (.or_ ca cb) := by
  intro X ok hs p B0 H0 B H σ st d st' R ev Q q
  simp only [evalE] at ev
  refine w_pe (pe_or pe_w pe_w) ?_
  split at ev
  · rename_i st1 e1
    obtain ⟨rfl, rfl⟩ := some2 ev
    refine ha X ok hs _ _ _ _ _ _ _ _ _ R e1 _ fun v B1 H1 R1 s1 d1 => ?_
    cases d1
    exact ⟨true, rfl, iteT (q _ B1 H1 R1 s1 (.bl _))⟩
  · rename_i st1 e1
    refine ha X ok hs _ _ _ _ _ _ _ _ _ R e1 _ fun v B1 H1 R1 s1 d1 => ?_
    cases d1
    exact ⟨false, rfl, iteF (hb X ok hs _ _ _ _ _ _ _ _ _ R1 ev _ fun v B2 H2 R2 s2 d2 => q v B2 H2 R2 (s1.trans s2) d2)⟩
  · cases ev
theorem snd_not {a : Expr} {pos : Pos} {ca : C} (ha : SndE Γ F N k sc a ca) : SndE Γ F N k sc (.UnaryOp .Not a pos) (.not_ ca) := by
  intro X ok hs p B0 H0 B H σ st d st' R ev Q q
  simp only [evalE] at ev
  refine w_pe (pe_not pe_w) ?_
  split at ev
  · rename_i b st1 e1
    obtain ⟨rfl, rfl⟩ := some2 ev
    refine ha X ok hs _ _ _ _ _ _ _ _ _ R e1 _ fun v B1 H1 R1 s1 d1 => ?_
    cases d1
    exact ⟨_, rfl, q _ B1 H1 R1 s1 (.bl _)⟩
  · cases ev
theorem snd_one {op : BoolOp} {a : Expr} {pos : Pos} {ca : C} (ha : SndE Γ F N k sc a ca) : SndE Γ F N k sc (.BoolOp op [a] pos) ca := by
  intro X ok hs p B0 H0 B H σ st d st' R ev Q q
  exact w_pe (pe_one pe_w) (ha X ok hs _ _ _ _ _ _ _ _ _ R ev Q q)
theorem snd_ite {t a b : Expr} {pos : Pos} {ct ca cb : C} (ht : SndT Γ F N k sc t ct) (ha : SndE Γ F N k sc a ca) (hb : SndE Γ F N k sc b cb) : SndE Γ F N k sc (.IfExp t a b pos) (.ite ct ca cb) := by
  intro X ok hs p B0 H0 B H σ st d st' R ev Q q
  simp only [evalE] at ev
  refine w_pe (pe_ifExp pt_w pe_w pe_w) ?_
  split at ev
  · rename_i d0 st1 e1
    split at ev
    · rename_i t1
      exact ht X ok hs _ _ _ _ _ _ _ _ _ _ R e1 t1 _ fun B1 H1 R1 s1 => iteT (ha X ok hs _ _ _ _ _ _ _ _ _ R1 ev _ fun v B2 H2 R2 s2 d2 => q v B2 H2 R2 (s1.trans s2) d2)
    · rename_i t1
      exact ht X ok hs _ _ _ _ _ _ _ _ _ _ R e1 t1 _ fun B1 H1 R1 s1 => iteF (hb X ok hs _ _ _ _ _ _ _ _ _ R1 ev _ fun v B2 H2 R2 s2 d2 => q v B2 H2 R2 (s1.trans s2) d2)
    · cases ev
  · cases ev
theorem snd_bin {op : Operator} {a b : Expr} {pos : Pos} {ca cb : C} (ha : SndE Γ F N k sc a ca) (hb : SndE Γ F N k sc b cb) : SndE Γ F N k sc (.BinOp a op b pos) (.bin op ca cb) := by
  intro X ok hs p B0 H0 B H σ st d st' R ev Q q
  simp only [evalE] at ev
  split at ev
  · rename_i x st1 e1
    split at ev
    · rename_i y st2 e2
      split at ev
      · rename_i z e3
        obtain ⟨rfl, rfl⟩ := some2 ev
        obtain ⟨r, hr, hk⟩ := bin_ok (X := X) e3
        refine w_pe (pe_op hr pe_w pe_w) ?_
        refine ha X ok hs _ _ _ _ _ _ _ _ _ R e1 _ fun v B1 H1 R1 s1 d1 => ?_
        refine hb X ok hs _ _ _ _ _ _ _ _ _ R1 e2 _ fun w B2 H2 R2 s2 d2 => ?_
        exact hk B2 H2 v w R2.ext (d1.mono s2) d2 Q fun u d3 => q u B2 H2 R2 (s1.trans s2) d3
      · cases ev
    · cases ev
  · cases ev
theorem snd_neg {a : Expr} {pos : Pos} {ca : C} (ha : SndE Γ F N k sc a ca) : SndE Γ F N k sc (.UnaryOp .USub a pos) (.neg ca) := by
  intro X ok hs p B0 H0 B H σ st d st' R ev Q q
  simp only [evalE] at ev
  refine w_pe (pe_un un_neg pe_w) ?_
  split at ev
  · rename_i i st1 e1
    obtain ⟨rfl, rfl⟩ := some2 ev
    refine ha X ok hs _ _ _ _ _ _ _ _ _ R e1 _ fun v B1 H1 R1 s1 d1 => ?_
    cases d1
    exact ⟨_, rfl, q _ B1 H1 R1 s1 (.int _)⟩
  · cases ev
theorem snd_cmp {op : CmpOp} {a b : Expr} {pos : Pos} {ca cb : C} (ha : SndE Γ F N k sc a ca) (hb : SndE Γ F N k sc b cb) (hm : behindInMarks op b = false) : SndE Γ F N k sc (.Compare a [op] [b] pos) (.cmp op ca cb) := by
  intro X ok hs p B0 H0 B H σ st d st' R ev Q q
  simp only [evalE] at ev
  split at ev
  · rename_i x st1 e1
    split at ev
    · rename_i y st2 e2
      split at ev
      · rename_i z e3
        obtain ⟨rfl, rfl⟩ := some2 ev
        obtain ⟨r, hr, hk⟩ := cmp_ok (ok_units ok) e3
        refine w_pe (pe_cmpR hr pe_w pe_w hm) ?_
        refine ha X ok hs _ _ _ _ _ _ _ _ _ R e1 _ fun v B1 H1 R1 s1 d1 => ?_
        refine hb X ok hs _ _ _ _ _ _ _ _ _ R1 e2 _ fun w B2 H2 R2 s2 d2 => ?_
        exact hk B2 H2 v w R2.ext (d1.mono s2) d2 Q fun u d3 => q u B2 H2 R2 (s1.trans s2) d3
      · cases ev
    · cases ev
  · cases ev
theorem snd_cmpT {op : CmpOp} {a b : Expr} {pos : Pos} {ca cb : C} (ha : SndE Γ F N k sc a ca) (hb : SndE Γ F N k sc b cb) (hm : behindInMarks op b = false) : SndT Γ F N k sc (.Compare a [op] [b] pos) (.cmp op ca cb) := by
  intro X ok hs p B0 H0 B H σ st d st' b' R ev tr Q q
  simp only [evalE] at ev
  split at ev
  · rename_i x st1 e1
    split at ev
    · rename_i y st2 e2
      split at ev
      · rename_i z e3
        obtain ⟨rfl, rfl⟩ := some2 ev
        cases tr
        obtain ⟨r, hr, hk⟩ := cmp_ok (ok_units ok) e3
        refine w_pt (pt_cmpR hr pe_w pe_w hm) ?_
        refine ha X ok hs _ _ _ _ _ _ _ _ _ R e1 _ fun v B1 H1 R1 s1 d1 => ?_
        refine hb X ok hs _ _ _ _ _ _ _ _ _ R1 e2 _ fun w B2 H2 R2 s2 d2 => ?_
        refine hk B2 H2 v w R2.ext (d1.mono s2) d2 _ fun u d3 => ?_
        cases d3
        exact ⟨_, rfl, q B2 H2 R2 (s1.trans s2)⟩
      · cases ev
    · cases ev
  · cases ev
theorem snd_chain_core {X : Cx} (ok : Ok Γ F N k X) (hs : X.env.scope = sc) {o1 o2 : CmpOp} {a b c : Expr} {ca cb cc : C} (ha : SndE Γ F N k sc a ca) (hb : SndE Γ F N k sc b cb) (hc : SndE Γ F N k sc c cc)
    {p B0 H0 B H σ st d st'} (R : Rel X.K p B0 H0 B H σ st) (ev : evalE F (.chain o1 o2 ca cb cc) st = some (d, st')) :
    ∃ r r' t, d = .bool t ∧ OpR X (compareOp o1) r ∧ OpR X (compareOp o2) r' ∧ ∀ Q : VK, (∀ B' H', Rel X.K p B0 H0 B' H' σ st' → Same B B' → Q (.bl t) H') → tChain r r' (wE X a) (wE X b) (wE X c) σ H Q := by
  simp only [evalE] at ev
  split at ev
  · rename_i x st1 e1
    split at ev
    · rename_i y st2 e2
      split at ev
      · rename_i e3
        split at ev
        · rename_i z st3 e4
          split at ev
          · rename_i t e5
            obtain ⟨rfl, rfl⟩ := some2 ev
            obtain ⟨r, hr, hk⟩ := cmp_ok (X := X) (ok_units ok) e3
            obtain ⟨r', hr', hk'⟩ := cmp_ok (X := X) (ok_units ok) e5
            refine ⟨r, r', t, rfl, hr, hr', fun Q q => ?_⟩
            refine ha X ok hs _ _ _ _ _ _ _ _ _ R e1 _ fun v B1 H1 R1 s1 d1 => ?_
            refine hb X ok hs _ _ _ _ _ _ _ _ _ R1 e2 _ fun w B2 H2 R2 s2 d2 => ?_
            refine hk B2 H2 v w R2.ext (d1.mono s2) d2 _ fun u d3 => ?_
            cases d3
            refine ⟨true, rfl, iteT ?_⟩
            refine hc X ok hs _ _ _ _ _ _ _ _ _ R2 e4 _ fun w' B3 H3 R3 s3 d4 => ?_
            refine hk' B3 H3 w w' R3.ext (d2.mono s3) d4 _ fun u d5 => ?_
            cases d5
            exact q B3 H3 R3 ((s1.trans s2).trans s3)
          · cases ev
        · cases ev
      · rename_i e3
        obtain ⟨rfl, rfl⟩ := some2 ev
        obtain ⟨r, hr, hk⟩ := cmp_ok (X := X) (ok_units ok) e3
        refine ⟨r, fun _ _ _ _ => False, false, rfl, hr, fun _ _ _ _ _ _ _ _ _ _ _ _ h => h.elim, fun Q q => ?_⟩
        refine ha X ok hs _ _ _ _ _ _ _ _ _ R e1 _ fun v B1 H1 R1 s1 d1 => ?_
        refine hb X ok hs _ _ _ _ _ _ _ _ _ R1 e2 _ fun w B2 H2 R2 s2 d2 => ?_
        refine hk B2 H2 v w R2.ext (d1.mono s2) d2 _ fun u d3 => ?_
        cases d3
        exact ⟨false, rfl, iteF (q B2 H2 R2 (s1.trans s2))⟩
      · cases ev
    · cases ev
  · cases ev
theorem snd_chain {o1 o2 : CmpOp} {a b c : Expr} {pos : Pos} {ca cb cc : C} (ha : SndE Γ F N k sc a ca) (hb : SndE Γ F N k sc b cb) (hc : SndE Γ F N k sc c cc) (hm : lastMarks [o1, o2] [b, c] = false) : SndE Γ F N k sc (.Compare a [o1, o2] [b, c] pos) (.chain o1 o2 ca cb cc) := by
  intro X ok hs p B0 H0 B H σ st d st' R ev Q q
  obtain ⟨r, r', t, rfl, h1, h2, h3⟩ := snd_chain_core ok hs ha hb hc R ev
  exact w_pe (pe_chain h1 h2 pe_w pe_w pe_w hm) (h3 Q fun B' H' R' s' => q _ B' H' R' s' (.bl _))
theorem snd_chainT {o1 o2 : CmpOp} {a b c : Expr} {pos : Pos} {ca cb cc : C} (ha : SndE Γ F N k sc a ca) (hb : SndE Γ F N k sc b cb) (hc : SndE Γ F N k sc c cc) (hm : lastMarks [o1, o2] [b, c] = false) : SndT Γ F N k sc (.Compare a [o1, o2] [b, c] pos) (.chain o1 o2 ca cb cc) := by
  intro X ok hs p B0 H0 B H σ st d st' b' R ev tr Q q
  obtain ⟨r, r', t, rfl, h1, h2, h3⟩ := snd_chain_core ok hs ha hb hc R ev
  cases tr
  exact w_pt (pt_chain h1 h2 pe_w pe_w pe_w hm) (h3 _ fun B' H' R' s' => ⟨_, rfl, q B' H' R' s'⟩)
theorem snd_val {e : Expr} {c : C} (h : SndE Γ F N k sc e c) (he : ∀ env whole, isTrue e env whole = (do let v ← whole; standAt e.pos; holding [v] (truthy v))) : SndT Γ F N k sc e c := by
  intro X ok hs p B0 H0 B H σ st d st' b R ev tr Q q
  refine w_pt (pt_truth pe_w (he X.env)) ?_
  exact h X ok hs _ _ _ _ _ _ _ _ _ R ev _ fun v B1 H1 R1 s1 d1 => ⟨b, tru_dv R1.ext d1 tr, q B1 H1 R1 s1⟩
theorem snd_notT {a : Expr} {pos : Pos} {ca : C} (ha : SndT Γ F N k sc a ca) : SndT Γ F N k sc (.UnaryOp .Not a pos) (.not_ ca) := by
  intro X ok hs p B0 H0 B H σ st d st' b R ev tr Q q
  simp only [evalE] at ev
  refine w_pt (pt_not pt_w) ?_
  split at ev
  · rename_i b0 st1 e1
    obtain ⟨rfl, rfl⟩ := some2 ev
    cases tr
    exact ha X ok hs _ _ _ _ _ _ _ _ _ _ R e1 rfl _ fun B1 H1 R1 s1 => q B1 H1 R1 s1
  · cases ev
theorem snd_boolT {e : Expr} {c : C} (h : SndW Γ F N k sc e c) : SndT Γ F N k sc e c := by
  intro X ok hs p B0 H0 B H σ st d st' b R ev tr Q q
  exact w_pt pw_w.pt (h X ok hs _ _ _ _ _ _ _ _ _ _ R ev tr Q q)
theorem snd_oneW {op : BoolOp} {a : Expr} {pos : Pos} {ca : C} (ha : SndT Γ F N k sc a ca) : SndW Γ F N k sc (.BoolOp op [a] pos) ca := by
  intro X ok hs p B0 H0 B H σ st d st' b R ev tr Q q
  cases op
  · exact w_pw (pw_and1 pt_w) (ha X ok hs _ _ _ _ _ _ _ _ _ _ R ev tr Q q)
  · exact w_pw (pw_or1 pt_w) (ha X ok hs _ _ _ _ _ _ _ _ _ _ R ev tr Q q)
theorem snd_andW {a b : Expr} {rest : List Expr} {pos : Pos} {ca cb : C} (ha : SndT Γ F N k sc a ca) (hb : SndW Γ F N k sc (.BoolOp .And (b :: rest) pos) cb) : SndW Γ F N k sc (.BoolOp .And (a :: b :: rest) pos) (.and_ ca cb) := by
  intro X ok hs p B0 H0 B H σ st d st' b' R ev tr Q q
  simp only [evalE] at ev
  refine w_pw (pw_and pt_w pw_w) ?_
  split at ev
  · rename_i st1 e1
    exact ha X ok hs _ _ _ _ _ _ _ _ _ _ R e1 rfl _ fun B1 H1 R1 s1 => iteT (hb X ok hs _ _ _ _ _ _ _ _ _ _ R1 ev tr _ fun B2 H2 R2 s2 => q B2 H2 R2 (s1.trans s2))
  · rename_i st1 e1
    obtain ⟨rfl, rfl⟩ := some2 ev
    cases tr
    exact ha X ok hs _ _ _ _ _ _ _ _ _ _ R e1 rfl _ fun B1 H1 R1 s1 => iteF (q B1 H1 R1 s1)
  · cases ev
theorem snd_orW {a b : Expr} {rest : List Expr} {pos : Pos} {ca cb : C} (ha : SndT Γ F N k sc a ca) (hb : SndW Γ F N k sc (.BoolOp .Or (b :: rest) pos) cb) : SndW Γ F N k sc (.BoolOp .Or (a :: b :: rest) pos) (.or_ ca cb) := by
  intro X ok hs p B0 H0 B H σ st d st' b' R ev tr Q q
  simp only [evalE] at ev
  refine w_pw (pw_or pt_w pw_w) ?_
  split at ev
  · rename_i st1 e1
    obtain ⟨rfl, rfl⟩ := some2 ev
    cases tr
    exact ha X ok hs _ _ _ _ _ _ _ _ _ _ R e1 rfl _ fun B1 H1 R1 s1 => iteT (q B1 H1 R1 s1)
  · rename_i st1 e1
    exact ha X ok hs _ _ _ _ _ _ _ _ _ _ R e1 rfl _ fun B1 H1 R1 s1 => iteF (hb X ok hs _ _ _ _ _ _ _ _ _ _ R1 ev tr _ fun B2 H2 R2 s2 => q B2 H2 R2 (s1.trans s2))
  · cases ev
theorem snd_op {i : Nat} {Sh : Shp} {es : List Expr} {e : Expr} {cs : Cs} (h : Γ.ox[i]? = some Sh) (hsh : Sh.e sc es e) (hl : SndL Γ F N k sc es cs) : SndE Γ F N k sc e (.op i cs) := by
  intro X ok hs p B0 H0 B H σ st d st' R ev Q q
  simp only [evalE] at ev
  split at ev
  · rename_i ds st1 e1
    split at ev
    · rename_i z e2
      obtain ⟨rfl, rfl⟩ := some2 ev
      have o := ok.ox i Sh h X rfl rfl rfl rfl rfl ok.room ok.gd ok.calm (by rw [ok.hN]; exact ok.nd)
      exact o.e es e (by rw [hs]; exact hsh) e2 (hl X ok hs _ _ _ _ _ _ _ _ _ R e1).2.2 q
    · cases ev
  · cases ev
theorem snd_opT {i : Nat} {Sh : Shp} {es : List Expr} {e : Expr} {cs : Cs} (h : Γ.ox[i]? = some Sh) (hsh : Sh.t sc es e) (hl : SndL Γ F N k sc es cs) : SndT Γ F N k sc e (.op i cs) := by
  intro X ok hs p B0 H0 B H σ st d st' b R ev tr Q q
  simp only [evalE] at ev
  split at ev
  · rename_i ds st1 e1
    split at ev
    · rename_i z e2
      obtain ⟨rfl, rfl⟩ := some2 ev
      have o := ok.ox i Sh h X rfl rfl rfl rfl rfl ok.room ok.gd ok.calm (by rw [ok.hN]; exact ok.nd)
      exact o.t es e (by rw [hs]; exact hsh) e2 tr (hl X ok hs _ _ _ _ _ _ _ _ _ R e1).2.2 q
    · cases ev
  · cases ev
end
end Kd


set_option Elab.async false
set_option linter.all false
set_option maxRecDepth 100000
set_option maxHeartbeats 8000000
namespace Kd
open PySem PySem.Spec PyProof.Rows L2

/-! ### relations behind calls -/
section
variable {K : PySem.W.Frag} {p : Option Addr} {B0 H0 B H B' H' : Hp} {σ : L2.St} {st : S}
theorem Rel.pure (R : Rel K p B0 H0 B H σ st) (s1 : Same B B') (s2 : Same B' H') (s3 : Same H H') (nw : New B H B') : Rel K p B0 H0 B' H' σ st := by
  refine ⟨fun b o n h => s3 _ _ (R.fr b o n h), s2, R.up.trans s1, fun a o h => ?_, fun a e => ?_, R.h0, R.len, fun i d e => ?_, R.pen.same s1 s3, R.pv, fun i ds h => ?_, R.dj⟩
  · rcases nw a o h with ⟨o', h'⟩ | h'
    · exact R.new a o' h'
    · exact .inr (R.free h').1
  · cases h : B' a with
    | none => rfl
    | some o =>
      rcases nw a o h with ⟨o', h'⟩ | h'
      · rw [R.pn a e] at h'; cases h'
      · exact absurd h' (R.pen.there e)
  · obtain ⟨v, h1, h2⟩ := R.sl i d e
    exact ⟨v, h1, h2.mono s1⟩
  · obtain ⟨l, xs, h1, h2, h3, h4, h5⟩ := R.ow i ds h
    refine ⟨l, xs, h1, s3 _ _ h2, ?_, h4, h5.mono s1⟩
    cases z : B' l with
    | none => rfl
    | some o =>
      rcases nw l o z with ⟨o', z'⟩ | z'
      · rw [h3] at z'; cases z'
      · rw [h2] at z'; cases z'
theorem Rel.draw (R : Rel K p B0 H0 B H σ st) {a : Addr} {π' : Pen} (ha : p = some a) (s1 : Same B B') (s2 : Same B' H') (s3 : ∀ b o, b ≠ a → H b = some o → H' b = some o) (nw : New B H B') (pe : PenAt K B' H' a π') :
    Rel K p B0 H0 B' H' σ ⟨st.δ, some π'⟩ := by
  refine ⟨fun b o n h => s3 b o (fun z => n (by rw [ha, z])) (R.fr b o n h), s2, R.up.trans s1, fun b o h => ?_, fun b e => ?_, R.h0, R.len, fun i d e => ?_, ⟨a, ha, pe⟩, R.pv, fun i ds h => ?_, R.dj⟩
  · rcases nw b o h with ⟨o', h'⟩ | h'
    · exact R.new b o' h'
    · exact .inr (R.free h').1
  · cases h : B' b with
    | none => rfl
    | some o =>
      rcases nw b o h with ⟨o', h'⟩ | h'
      · rw [R.pn b e] at h'; cases h'
      · exact absurd h' (R.pen.there e)
  · obtain ⟨v, h1, h2⟩ := R.sl i d e
    exact ⟨v, h1, h2.mono s1⟩
  · obtain ⟨l, xs, h1, h2, h3, h4, h5⟩ := R.ow i ds h
    have nl : l ≠ a := fun z => R.npen h4 (by rw [ha, z])
    refine ⟨l, xs, h1, s3 _ _ nl h2, ?_, h4, h5.mono s1⟩
    cases z : B' l with
    | none => rfl
    | some o =>
      rcases nw l o z with ⟨o', z'⟩ | z'
      · rw [h3] at z'; cases z'
      · rw [h2] at z'; cases z'
end
theorem paired_none {α β : Type} {F : α → β → Prop} : ∀ {l : List α} {m : List β} {i : Nat}, Paired F l m → l[i]? = none → m[i]? = none := fun {l m i} r e => by
  rw [List.getElem?_eq_none_iff] at e ⊢
  rw [← Paired.length r]
  exact e
theorem vals_pick {vs : List V} {us : List Value} (r : Vals vs us) : ∀ pm : List Nat, Vals (pick pm vs) (pick pm us)
  | [] => .nil
  | i :: pm => by
    have t := vals_pick r pm
    cases e : vs[i]? with
    | none =>
      have e2 := paired_none r e
      simp only [pick, List.filterMap_cons, e, e2]
      exact t
    | some v =>
      obtain ⟨u, e2, h⟩ := r.get e
      simp only [pick, List.filterMap_cons, e, e2]
      exact .cons h t
theorem kw_args : ∀ (kws : List Keyword) (env : Env) (pos : Pos), (backToKw pos (keywordEach kws env)).map (·.1) = kws.map (fun k => k.arg)
  | [], _, _ => rfl
  | ⟨n, v, q⟩ :: r, env, pos => by
    show n :: (backToKw pos (keywordEach r env)).map (·.1) = n :: r.map (fun k => k.arg)
    rw [kw_args r env pos]
theorem kw_names {kws : List Keyword} {ks : List Str} (h : kws.map (fun k => k.arg) = ks.map some) (env : Env) (pos : Pos) :
    (backToKw pos (keywordEach kws env)).all (·.1.isSome) = true ∧ (backToKw pos (keywordEach kws env)).filterMap (·.1) = ks ∧ (backToKw pos (keywordEach kws env)).any (·.1.isNone) = false := by
  have e := (kw_args kws env pos).trans h
  generalize backToKw pos (keywordEach kws env) = l at e
  clear h
  induction ks generalizing l with
  | nil =>
    cases l with
    | nil => exact ⟨rfl, rfl, rfl⟩
    | cons a r => cases e
  | cons x xs ih =>
    cases l with
    | nil => cases e
    | cons a r =>
      obtain ⟨a1, a2⟩ := a
      simp only [List.map_cons, List.cons.injEq] at e
      obtain ⟨e1, e2⟩ := e
      subst e1
      obtain ⟨h1, h2, h3⟩ := ih r e2
      refine ⟨?_, ?_, ?_⟩
      · simp only [List.all_cons, Option.isSome_some, Bool.true_and]; exact h1
      · simp only [List.filterMap_cons]; rw [h2]
      · simp only [List.any_cons, Option.isNone_some, Bool.false_or]; exact h3

section
variable {Γ : Gam} {F : Fns} {N : List Str} {k : Nat} {sc : Scope}
theorem corL_plain : ∀ {es : List Expr} {cs : Cs}, CorL Γ N sc es cs → ∀ (env : Env) (pos : Pos), (backTo pos (starEach es env)).any (·.1) = false
  | _, _, .nil, _, _ => rfl
  | _, _, .cons h r hs, env, pos => by
    rw [hs env]
    show (false || (backTo pos (starEach _ env)).any (·.1)) = false
    rw [corL_plain r env pos] <;> rfl
theorem vals_split : ∀ {vs : List V} {us : List Value}, Vals vs us → Vals vs (us ++ []) := fun r => by rw [List.append_nil]; exact r

/-- a def's call at its values -/
theorem fn_core {X : Cx} (ok : Ok Γ F N k X) {i : Nat} {e : En} (he : Γ.es[i]? = some e) : ∃ f, X.mg e.x = some (.ref f) ∧ PySem.W.keepIn X.K (.ref f) = true ∧
    ∀ {p B0 H0 B H σ st} {pins : List (Addr × Obj)} {s : Shared} {us ws : List Value} {vs : List V} {ds : List PyData} {d : PyData} {Q : VK}, Rel X.K p B0 H0 B H σ st → Inv X pins σ H s → Vals vs (us ++ ws) → us.length = e.n → ws.length = e.ks.length →
      DvL X.K B vs ds → F.fn i ds = some d → (∀ v B' H', Rel X.K p B0 H0 B' H' σ st → Same B B' → Dv X.K B' v d → Q v H') →
      wpAny (model X.prog X.w) X.A (call (.ref f) us (e.ks.zip ws)) (EP X pins σ Q) X.xe s := by
  obtain ⟨f, h1, h2, h3⟩ := (ok.fn i e he).ex
  refine ⟨f, h1, h2, fun {p B0 H0 B H σ st pins s us ws vs ds d Q} R I rv l1 l2 dv hf q => ?_⟩
  have run := h3 X.A X.stack s H us ws vs Q ds d B ok.room ok.gd I.env0 l1 l2 rv R.ext dv hf fun v B' H' s1 s2 s3 nw d3 => q v B' H' (R.pure s1 s2 s3 nw) s1 d3
  refine wpAny_call (codeAny_mono run fun r s' hq => ?_)
  cases r with
  | error er => exact False.elim hq
  | ok fl =>
    cases fl with
    | ret u => exact I.after hq
    | next => exact False.elim hq
    | brk => exact False.elim hq
    | cont => exact False.elim hq
theorem pf_core {X : Cx} (ok : Ok Γ F N k X) {i : Nat} {x : Str} (hx : Γ.ps[i]? = some x) : ∃ f, X.mg x = some (.ref f) ∧ PySem.W.keepIn X.K (.ref f) = true ∧
    ∀ {p B0 H0 B H σ st a π π'} {pins : List (Addr × Obj)} {s : Shared} {us : List Value} {vs : List V} {ds : List PyData} {d : PyData} {Q : VK}, Rel X.K p B0 H0 B H σ st → Inv X pins σ H s → Vals (.ref a :: vs) us → p = some a → st.π = some π →
      DvL X.K B vs ds → F.pf i ds π = some (d, π') → (∀ v B' H', Rel X.K p B0 H0 B' H' σ ⟨st.δ, some π'⟩ → Same B B' → Dv X.K B' v d → Q v H') →
      wpAny (model X.prog X.w) X.A (call (.ref f) us) (EP X pins σ Q) X.xe s := by
  obtain ⟨f, fd, ps, h1, h2, h3, h5⟩ := (ok.pf i x hx).ex
  refine ⟨f, h1, h2, fun {p B0 H0 B H σ st a π π' pins s us vs ds d Q} R I rv ha hπ dv hf q => ?_⟩
  have pen := R.pen
  rw [hπ] at pen
  obtain ⟨a', ea, pen⟩ := pen
  rw [ha] at ea
  cases ea
  have hsp : SpP X.K (F.pf i) (.ref a :: vs) H Q (fun _ _ _ => False) := ⟨a, vs, ds, d, B, π, π', rfl, R.pn a ha, R.ext, pen, dv, hf, fun v B' H' s1 s2 s3 nw pe d3 => q v B' H' (R.draw ha s1 s2 s3 nw pe) s1 d3⟩
  have hl : (us ++ []).length = ps.length := by rw [List.append_nil, ← Paired.length rv]; exact h3.len _ _ _ _ hsp
  have bt := h5 s us I.kIn hl
  rw [List.append_nil] at bt
  have run := h3.run X.A X.stack s H ⟨us, []⟩ us (.ref a :: vs) Q (fun _ _ _ => False) ok.room ok.gd I.env0 bt rv hsp
  refine wpAny_call (codeAny_mono run fun r s' hq => ?_)
  cases r with
  | error er => exact False.elim hq
  | ok fl =>
    cases fl with
    | ret u => exact I.after hq
    | next => exact False.elim hq
    | brk => exact False.elim hq
    | cont => exact False.elim hq

theorem len_cor : ∀ {es : List Expr} {us : List Value} {vs : List V}, Vals vs us → vs.length = es.length → us.length = es.length := fun r h => by rw [← Paired.length r]; exact h
theorem evalL_len : ∀ {es : List Expr} {cs : Cs}, CorL Γ N sc es cs → ∀ {st ds st'}, evalL F cs st = some (ds, st') → ds.length = es.length
  | _, _, .nil, st, ds, st', h => by cases h; rfl
  | _, _, .cons h r hs, st, ds, st', ev => by
    simp only [evalL] at ev
    split at ev
    · split at ev
      · rename_i e2
        obtain ⟨rfl, rfl⟩ := some2 ev
        exact congrArg (· + 1) (evalL_len r e2)
      · cases ev
    · cases ev
theorem snd_call {i : Nat} {e : En} {es : List Expr} {p pos : Pos} {cs : Cs} (he : Γ.es[i]? = some e) (hc : CorL Γ N sc es cs) (h : SndL Γ F N k sc es cs) (hn : es.length = e.n) (hk : e.ks = []) (h1 : Pl sc e.x) (h2 : (e.x == ("__debug__" : Str)) = false) :
    SndE Γ F N k sc (.Call (.Name e.x p) es [] pos) (.call i cs) := by
  intro X ok hs p B0 H0 B H σ st d st' R ev Q q
  simp only [evalE] at ev
  split at ev
  · rename_i ds st1 e1
    split at ev
    · rename_i d' e2
      obtain ⟨rfl, rfl⟩ := some2 ev
      obtain ⟨f, g1, g2, g3⟩ := fn_core ok he
      intro pins s I
      refine wpAny_Call_Name_kw (ld_glob I (by show X.env.scope.names.lookup _ = _; rw [hs]; exact h1) g1 ?_ h2)
      have hl := evalL_len hc e1
      cases hc with
      | nil =>
        cases e1
        have q0 := g3 (us := []) (ws := []) (vs := []) R I .nil hn (by rw [hk] <;> rfl) .nil e2 q
        exact PySem.W.callWith_K0 I.kIn g2 (by rw [hk] at q0; exact q0)
      | cons ha hr hst =>
        have hargs := (h X ok hs _ _ _ _ _ _ _ _ _ R e1).1 (fun vs H1 => ∃ B1, Rel X.K _ _ _ B1 H1 σ st1 ∧ Same B B1 ∧ DvL X.K B1 vs ds) (fun vs B' H' R' s' d' => ⟨B', R', s', d'⟩) pos pins s I
        refine PySem.W.callWith_K (h₀ := X.base) I.ok.mod.kin g2 (thn hargs fun us s1 ⟨vs, H1, I1, r, B1, R1, s1', dv⟩ => ⟨I1.kIn, ?_⟩) (hst X.env) (corL_plain hr X.env pos)
        have lu : us.length = e.n := by rw [← Paired.length r, dv.length, hl, hn]
        have q0 := g3 (us := us) (ws := []) R1 I1 (vals_split r) lu (by rw [hk] <;> rfl) dv e2 fun v B' H' R' s' dv' => q v B' H' R' (s1'.trans s') dv'
        rw [hk] at q0
        exact q0
    · cases ev
  · cases ev
theorem snd_callK {i : Nat} {e : En} {kws : List Keyword} {p pos : Pos} {cs : Cs} (he : Γ.es[i]? = some e) {es : List Expr} (hv : kws.map (fun k => k.value) = es) (hc : CorL Γ N sc es cs) (h : SndL Γ F N k sc es cs) (hn : e.n = 0) (hk : kws.map (fun k => k.arg) = e.ks.map some)
    (h1 : Pl sc e.x) (h2 : (e.x == ("__debug__" : Str)) = false) : SndE Γ F N k sc (.Call (.Name e.x p) [] kws pos) (.call i cs) := by
  intro X ok hs p B0 H0 B H σ st d st' R ev Q q
  simp only [evalE] at ev
  split at ev
  · rename_i ds st1 e1
    split at ev
    · rename_i d' e2
      obtain ⟨rfl, rfl⟩ := some2 ev
      obtain ⟨f, g1, g2, g3⟩ := fn_core ok he
      intro pins s I
      refine wpAny_Call_Name_kw (ld_glob I (by show X.env.scope.names.lookup _ = _; rw [hs]; exact h1) g1 ?_ h2)
      have hl := evalL_len hc e1
      obtain ⟨k1, k2, k3⟩ := kw_names hk X.env pos
      have hargs := (h X ok hs _ _ _ _ _ _ _ _ _ R e1).2.1 kws hv (fun vs H1 => ∃ B1, Rel X.K _ _ _ B1 H1 σ st1 ∧ Same B B1 ∧ DvL X.K B1 vs ds) (fun vs B' H' R' s' d' => ⟨B', R', s', d'⟩) pos pins s I
      refine PySem.W.callWith_KW0 (first := []) I.kIn g2 k1 (thn hargs fun ws s1 ⟨vs, H1, I1, r, B1, R1, s1', dv⟩ => ⟨I1.kIn, ?_⟩) (by rw [k3] <;> rfl)
      rw [k2]
      have lw : ws.length = e.ks.length := by
        have lk := congrArg List.length hk
        have lv := congrArg List.length hv
        simp only [List.length_map] at lk lv
        rw [← Paired.length r, dv.length, hl, ← lv, lk]
      exact g3 (us := []) (ws := ws) R1 I1 r hn.symm lw dv e2 fun v B' H' R' s' dv' => q v B' H' R' (s1'.trans s') dv'
    · cases ev
  · cases ev
theorem snd_pcall {i j : Nat} {x y : Str} {es : List Expr} {p p2 pos : Pos} {cs : Cs} (hx : Γ.ps[i]? = some x) (hy : N[j]? = some y) (hv : Vis sc y) (hc : CorL Γ N sc es cs) (h : SndL Γ F N k sc es cs) (h1 : Pl sc x) (h2 : (x == ("__debug__" : Str)) = false)
    (h3 : (y == ("__debug__" : Str)) = false) (h4 : (y == ("__classdict__" : Str)) = false) : SndE Γ F N k sc (.Call (.Name x p) (.Name y p2 :: es) [] pos) (.pcall i j cs) := by
  intro X ok hs p B0 H0 B H σ st d st' R ev Q q
  simp only [evalE] at ev
  split at ev
  · rename_i ej
    split at ev
    · rename_i ds st1 e1
      split at ev
      · rename_i π e3
        split at ev
        · rename_i d' π' e2
          obtain ⟨rfl, rfl⟩ := some2 ev
          obtain ⟨f, g1, g2, g3⟩ := pf_core ok hx
          obtain ⟨a, ha, hσ⟩ := R.pv j ej
          intro pins s I
          refine wpAny_Call_Name_kw (ld_glob I (by show X.env.scope.names.lookup _ = _; rw [hs]; exact h1) g1 ?_ h2)
          have pv : PE X (.Name y p2) (tVar j) := pe_var (by rw [ok.hN]; exact hy) (by rw [hs]; exact hv) h3 h4
          have hargs := (pa_cons (es := es) pv pa_w).run pos pins s σ H (fun vs H1 => ∃ ws B1, vs = V.ref a :: ws ∧ Rel X.K _ _ _ B1 H1 σ st1 ∧ Same B B1 ∧ DvL X.K B1 ws ds) I
            ⟨_, hσ, (h X ok hs _ _ _ _ _ _ _ _ _ R e1).1 _ fun vs B' H' R' s' d' => ⟨vs, B', rfl, R', s', d'⟩⟩
          refine PySem.W.callWith_K (h₀ := X.base) I.ok.mod.kin g2 (thn hargs fun us s1 ⟨vs, H1, I1, r, ws, B1, ev, R1, s1', dv⟩ => ⟨I1.kIn, ?_⟩) rfl (corL_plain hc X.env pos)
          subst ev
          exact g3 R1 I1 r ha e3 dv e2 fun v B' H' R' s' dv' => q v B' H' R' (s1'.trans s') dv'
        · cases ev
      · cases ev
    · cases ev
  · cases ev
end
end Kd


set_option Elab.async false
set_option linter.all false
set_option maxRecDepth 100000
set_option maxHeartbeats 8000000
namespace Kd
open PySem PySem.Spec PyProof.Rows L2
/-- an object made on the way, changed till now, is data from here on -/
theorem Rel.fin {K : PySem.W.Frag} {p : Option Addr} {B0 H0 B H : Hp} {σ : L2.St} {st : S} (R : Rel K p B0 H0 B H σ st) {a : Addr} {o : HO} (h0 : H0 a = none) (hp : p ≠ some a) (hb : B a = none)
    (hn : ∀ (i : Nat) ds, st.δ[i]? = some (SD.own ds) → σ[i]? ≠ some (some (V.ref a))) : Rel K p B0 H0 (upd B a o) (upd H a o) σ st := by
  have sb : Same B (upd B a o) := same_upd hb
  refine ⟨fun b u n h => ?_, same_upd2 R.ext, R.up.trans sb, fun b u h => ?_, fun b e => ?_, R.h0, R.len, fun i d e => ?_, R.pen.mono sb fun b e => ?_, R.pv, fun i ds h => ?_, R.dj⟩
  · rw [upd_ne (ne_of_none h h0)]; exact R.fr b u n h
  · by_cases z : b = a
    · subst z; exact .inr h0
    · rw [upd_ne z] at h; exact R.new b u h
  · rw [upd_ne (fun (z : b = a) => hp (by rw [← z]; exact e))]; exact R.pn b e
  · obtain ⟨v, h1, h2⟩ := R.sl i d e
    exact ⟨v, h1, h2.mono sb⟩
  · exact upd_ne (fun (z : b = a) => hp (by rw [← z]; exact e))
  · obtain ⟨l, xs, h1, h2, h3, h4, h5⟩ := R.ow i ds h
    have nl : l ≠ a := fun z => hn i ds h (by rw [h1, z])
    exact ⟨l, xs, h1, by rw [upd_ne nl]; exact h2, by rw [upd_ne nl]; exact h3, h4, h5.mono sb⟩
/-- who was not there is no slot's own -/
theorem Rel.nown {K : PySem.W.Frag} {p : Option Addr} {B0 H0 B H : Hp} {σ : L2.St} {st : S} (R : Rel K p B0 H0 B H σ st) {a : Addr} (h : H a = none) (i : Nat) (ds : List PyData) (e : st.δ[i]? = some (SD.own ds)) : σ[i]? ≠ some (some (V.ref a)) := by
  obtain ⟨l, xs, h1, h2, _⟩ := R.ow i ds e
  rw [h1]
  intro z
  cases z
  rw [h] at h2
  cases h2
theorem DvL.take {K : PySem.W.Frag} {B : Hp} : ∀ {vs : List V} {ds : List PyData} (n : Nat), DvL K B vs ds → DvL K B (vs.take n) (ds.take n)
  | _, _, 0, _ => .nil
  | _, _, n + 1, .nil => .nil
  | _, _, n + 1, .cons h r => .cons h (DvL.take n r)
theorem cut_upto (xs : List V) {k : Int} (h : 0 ≤ k) : cutV xs none (some k) = xs.take k.toNat := by
  unfold cutV HT.sIx
  simp only [List.drop_zero, Nat.sub_zero]
  split
  · omega
  · by_cases e : k.toNat ≤ xs.length
    · first
      | (rw [Nat.min_eq_left e])
      | (rw [Nat.min_eq_right e])
    · first
      | (rw [Nat.min_eq_right (by omega), List.take_length, List.take_of_length_le (by omega)])
      | (rw [Nat.min_eq_left (by omega), List.take_length, List.take_of_length_le (by omega)])
section
variable {Γ : Gam} {F : Fns} {N : List Str} {k : Nat} {sc : Scope}
theorem snd_nilL : SndL Γ F N k sc [] .nil := by
  intro X ok hs p B0 H0 B H σ st ds st' R ev
  cases ev
  refine ⟨fun Q q => w_pa pa_nil (q [] B H R (Same.refl _) .nil), fun kws hk Q q => ?_, fun Q q => q [] B H R (Same.refl _) .nil⟩
  cases kws with
  | nil => exact w_pk pk_nil (q [] B H R (Same.refl _) .nil)
  | cons a r => cases hk
theorem snd_consL {e : Expr} {es : List Expr} {c : C} {cs : Cs} (h : SndE Γ F N k sc e c) (r : SndL Γ F N k sc es cs) (hst : ∀ env, starEach (e :: es) env = (false, eval e env) :: starEach es env) : SndL Γ F N k sc (e :: es) (.cons c cs) := by
  intro X ok hs p B0 H0 B H σ st ds st' R ev
  simp only [evalL] at ev
  split at ev
  · rename_i d1 st1 e1
    split at ev
    · rename_i ds1 st2 e2
      obtain ⟨rfl, rfl⟩ := some2 ev
      refine ⟨fun Q q => w_pa (pa_cons pe_w pa_w (hst X.env)) ?_, fun kws hk Q q => ?_, fun Q q => ?_⟩
      · refine h X ok hs _ _ _ _ _ _ _ _ _ R e1 _ fun v B1 H1 R1 s1 dv => ?_
        exact (r X ok hs _ _ _ _ _ _ _ _ _ R1 e2).1 _ fun vs B2 H2 R2 s2 dvs => q (v :: vs) B2 H2 R2 (s1.trans s2) (.cons (dv.mono s2) dvs)
      · cases kws with
        | nil => cases hk
        | cons a l =>
          obtain ⟨nm, e0, kp⟩ := a
          have hk' : e0 :: l.map (fun k => k.value) = e :: es := hk
          injection hk' with k1 k2
          subst k1
          refine w_pk (pk_cons pe_w pk_w) ?_
          refine h X ok hs _ _ _ _ _ _ _ _ _ R e1 _ fun v B1 H1 R1 s1 dv => ?_
          exact (r X ok hs _ _ _ _ _ _ _ _ _ R1 e2).2.1 l k2 _ fun vs B2 H2 R2 s2 dvs => q (v :: vs) B2 H2 R2 (s1.trans s2) (.cons (dv.mono s2) dvs)
      · refine h X ok hs _ _ _ _ _ _ _ _ _ R e1 _ fun v B1 H1 R1 s1 dv => ?_
        exact (r X ok hs _ _ _ _ _ _ _ _ _ R1 e2).2.2 _ fun vs B2 H2 R2 s2 dvs => q (v :: vs) B2 H2 R2 (s1.trans s2) (.cons (dv.mono s2) dvs)
    · cases ev
  · cases ev
theorem snd_tup {es : List Expr} {kk : Nat} {pos : Pos} {cs : Cs} (h : SndL Γ F N k sc es cs) : SndE Γ F N k sc (.Tuple es kk pos) (.tup cs) := by
  intro X ok hs p B0 H0 B H σ st d st' R ev Q q
  simp only [evalE] at ev
  split at ev
  · rename_i ds st1 e1
    split at ev
    · rename_i hz
      obtain ⟨rfl, rfl⟩ := some2 ev
      refine w_pe (pe_tup pa_w) ?_
      refine (h X ok hs _ _ _ _ _ _ _ _ _ R e1).1 _ fun vs B1 H1 R1 s1 dvs => ?_
      refine ⟨by rw [dvs.length]; exact small_line hz, fun a ha => ?_⟩
      have sb : Same B1 (upd B1 a (.tup vs)) := same_upd (R1.free ha).2.2
      exact q (.ref a) _ _ (R1.alloc ha) (s1.trans sb) (.tup (.of upd_same) (dvs.mono sb))
    · cases ev
  · cases ev
theorem snd_lst {es : List Expr} {pos : Pos} {cs : Cs} (h : SndL Γ F N k sc es cs) : SndE Γ F N k sc (.List es pos) (.lst cs) := by
  intro X ok hs p B0 H0 B H σ st d st' R ev Q q
  simp only [evalE] at ev
  split at ev
  · rename_i ds st1 e1
    split at ev
    · rename_i hz
      obtain ⟨rfl, rfl⟩ := some2 ev
      refine w_pe (pe_lst pa_w) ?_
      refine (h X ok hs _ _ _ _ _ _ _ _ _ R e1).1 _ fun vs B1 H1 R1 s1 dvs => ?_
      refine ⟨by rw [dvs.length]; exact small_line hz, fun a ha => ?_⟩
      have sb : Same B1 (upd B1 a (.lst vs)) := same_upd (R1.free ha).2.2
      exact q (.ref a) _ _ (R1.alloc ha) (s1.trans sb) (.lst upd_same (dvs.mono sb))
    · cases ev
  · cases ev
theorem snd_dct1 {v : Expr} {x : Str} {j : Nat} {p1 pos : Pos} {cv : C} (h : SndE Γ F N k sc v cv) : SndE Γ F N k sc (.Dict [some (.Constant (.str x) j p1)] [v] pos) (.dct1 x cv) := by
  intro X ok hs p B0 H0 B H σ st d st' R ev Q q
  simp only [evalE] at ev
  split at ev
  · rename_i d1 st1 e1
    obtain ⟨rfl, rfl⟩ := some2 ev
    refine w_pe (pe_disp (pps_cons pe_str pe_w pps_nil) rfl rfl (fun z => by cases z) (by show 1 ≤ 15; decide)) ?_
    intro a ha
    obtain ⟨f1, f2, f3⟩ := R.free ha
    have sh : Same H (upd H a (.dK [])) := same_upd ha
    have Ra : Rel X.K p B (upd H a (.dK [])) B (upd H a (.dK [])) σ st.hush := (R.heap sh).here
    refine h X ok hs _ _ _ _ _ _ _ _ _ Ra e1 _ fun w B1 H1 R1 s1 dw => ?_
    have e0 : H1 a = some (.dK []) := R1.fr a _ f2 upd_same
    refine ⟨e0, [(Sum.inr x, w)], rfl, by show 1 ≤ 15; decide, ?_⟩
    have R2 := R.back sh R1
    have fb : B1 a = none := by
      cases z : B1 a with
      | none => rfl
      | some o =>
        rcases R1.new a o z with ⟨o', z'⟩ | z'
        · rw [f3] at z'; cases z'
        · rw [upd_same] at z'; cases z'
    have sb : Same B1 (upd B1 a (.dK [(Sum.inr x, w)])) := same_upd fb
    refine q (.ref a) _ _ (R2.fin f1 f2 fb (R.nown ha)) (s1.trans sb) (.dct upd_same (.cons (dw.mono sb) .nil))
  · cases ev
end
end Kd


set_option Elab.async false
set_option linter.all false
set_option maxRecDepth 100000
set_option maxHeartbeats 8000000
namespace Kd
open PySem PySem.Spec PyProof.Rows L2
section
variable {Γ : Gam} {F : Fns} {N : List Str} {k : Nat} {sc : Scope}
theorem gl_of {X : Cx} {x : Str} (hs : X.env.scope = sc) (h : Pl sc x) : Gl X x := by
  show X.env.scope.names.lookup x = _
  rw [hs]
  exact h
theorem isi_all {K : PySem.W.Frag} {d : PyData} : ∀ {ts : List String} {b : Bool}, isiG d ts = some b → PySem.W.kitAny K (.type (tyD d)) (ts.map Value.type) = some b
  | [], b, h => by cases h; exact kitAny_nil
  | t :: ts, b, h => by
    unfold isiG at h
    split at h
    · rename_i e
      cases h
      exact kitAny_cons (kit_ty e) (fun z => by cases z) fun _ => rfl
    · rename_i e
      exact kitAny_cons (kit_ty e) (fun _ => isi_all h) fun z => by cases z
    · cases h
theorem isi_plain {d : PyData} {ts : List String} {b : Bool} (h : isiD d ts = some b) : isObj d = false ∧ isiG d ts = some b := by
  unfold isiD at h
  split at h
  · cases h
  · rename_i z
    exact ⟨by simpa using z, h⟩
theorem snd_isi1 {a : Expr} {t : Str} {T : String} {p p2 pos : Pos} {ca : C} (ha : SndE Γ F N k sc a ca) (h1 : Pl sc "isinstance") (h2 : ("isinstance" : Str) ∈ Γ.bs) (h3 : Pl sc t) (h4 : t ∈ Γ.bs) (h5 : bootBuiltins t = some (.type T)) (h6 : t ≠ "__name__")
    (h7 : (t == ("__debug__" : Str)) = false) (hst : ∀ env, starEach [a, .Name t p2] env = (false, eval a env) :: starEach [.Name t p2] env) : SndE Γ F N k sc (.Call (.Name "isinstance" p) [a, .Name t p2] [] pos) (.isi ca [T]) := by
  intro X ok hs p B0 H0 B H σ st d st' R ev Q q
  simp only [evalE] at ev
  split at ev
  · rename_i d1 st1 e1
    split at ev
    · rename_i b e2
      obtain ⟨rfl, rfl⟩ := some2 ev
      obtain ⟨e0, e2⟩ := isi_plain e2
      refine w_pe (pe_callB call_isi (gl_of hs h1) (ok.bl _ h2) (by decide +kernel) (pa_cons pe_w (pa_cons (pe_bltn (v := .ty T) (gl_of hs h3) (ok.bl _ h4) h5 rfl h6 h7) pa_nil) (hst X.env)) (by decide) (by decide) (hst X.env) rfl) ?_
      refine ha X ok hs _ _ _ _ _ _ _ _ _ R e1 _ fun v B1 H1 R1 s1 dv => ?_
      have e3 : kitB (tyD d1) T = some b := by
        unfold isiG at e2
        split at e2
        · rename_i z; cases e2; exact z
        · rename_i z; cases e2; exact z
        · cases e2
      exact ⟨v, .ty T, _, _, b, rfl, .ty T, ty_ok R1.ext dv e0, kit_ty e3, q _ B1 H1 R1 s1 (.bl _)⟩
    · cases ev
  · cases ev
theorem snd_isi2 {a : Expr} {t t' : Str} {T T' : String} {p p2 p3 p4 pos : Pos} {kk : Nat} {ca : C} (ha : SndE Γ F N k sc a ca) (h1 : Pl sc "isinstance") (h2 : ("isinstance" : Str) ∈ Γ.bs) (h3 : Pl sc t) (h4 : t ∈ Γ.bs) (h5 : bootBuiltins t = some (.type T)) (h6 : t ≠ "__name__")
    (h7 : (t == ("__debug__" : Str)) = false) (h3' : Pl sc t') (h4' : t' ∈ Γ.bs) (h5' : bootBuiltins t' = some (.type T')) (h6' : t' ≠ "__name__") (h7' : (t' == ("__debug__" : Str)) = false)
    (hst : ∀ env, starEach [a, .Tuple [.Name t p2, .Name t' p3] kk p4] env = (false, eval a env) :: starEach [.Tuple [.Name t p2, .Name t' p3] kk p4] env) : SndE Γ F N k sc (.Call (.Name "isinstance" p) [a, .Tuple [.Name t p2, .Name t' p3] kk p4] [] pos) (.isi ca [T, T']) := by
  intro X ok hs p B0 H0 B H σ st d st' R ev Q q
  simp only [evalE] at ev
  split at ev
  · rename_i d1 st1 e1
    split at ev
    · rename_i b e2
      obtain ⟨rfl, rfl⟩ := some2 ev
      obtain ⟨e0, e2⟩ := isi_plain e2
      refine w_pe (pe_callB call_isiT (gl_of hs h1) (ok.bl _ h2) (by decide +kernel) (pa_cons pe_w (pa_cons (pe_tup (pa_cons (pe_bltn (v := .ty T) (gl_of hs h3) (ok.bl _ h4) h5 rfl h6 h7) (pa_cons (pe_bltn (v := .ty T') (gl_of hs h3') (ok.bl _ h4') h5' rfl h6' h7') pa_nil))) pa_nil) (hst X.env))
        (by decide) (by decide) (hst X.env) rfl) ?_
      refine ha X ok hs _ _ _ _ _ _ _ _ _ R e1 _ fun v B1 H1 R1 s1 dv => ?_
      refine ⟨by show 2 ≤ sizeLine; decide, fun q0 hq0 => ?_⟩
      have sh : Same H1 (upd H1 q0 (.tup [.ty T, .ty T'])) := same_upd hq0
      exact ⟨v, q0, [.ty T, .ty T'], _, _, b, rfl, upd_same, .cons (.ty T) (.cons (.ty T') .nil), ty_ok (R1.ext.trans sh) dv e0, isi_all e2, q _ B1 _ (R1.heap sh) s1 (.bl _)⟩
    · cases ev
  · cases ev
theorem snd_blt {b : Bt} {a : Expr} {x : Str} {p pos : Pos} {ca : C} (ha : SndE Γ F N k sc a ca) (hw : ∀ (X : Cx), Ok Γ F N k X → X.env.scope = sc → ∀ r, CallR X (btV b).val r → PE X (.Call (.Name x p) [a] [] pos) (tCB r (tCons (wE X a) tNil))) : SndE Γ F N k sc (.Call (.Name x p) [a] [] pos) (.blt b ca) := by
  intro X ok hs p B0 H0 B H σ st d st' R ev Q q
  simp only [evalE] at ev
  split at ev
  · rename_i x1 st1 e1
    split at ev
    · rename_i z e2
      obtain ⟨rfl, rfl⟩ := some2 ev
      obtain ⟨r, hr, hk⟩ := blt_ok ok.calm ok.gd (ok_units ok) e2
      refine w_pe (hw X ok hs r hr) ?_
      refine ha X ok hs _ _ _ _ _ _ _ _ _ R e1 _ fun v B1 H1 R1 s1 dv => ?_
      refine hk B1 H1 v R1.ext dv Q (fun u du => q u B1 H1 R1 s1 du) fun q0 o hq0 hd => ?_
      have sb : Same B1 (upd B1 q0 o) := same_upd (R1.free hq0).2.2
      exact q (.ref q0) _ _ (R1.alloc hq0) (s1.trans sb) (hd _ sb (same_upd2 R1.ext) upd_same)
    · cases ev
  · cases ev
theorem snd_bltF {b : Bt} {id : String} {x : Str} {a : Expr} {p pos : Pos} {ca : C} (hb : btV b = .fn id) (ha : SndE Γ F N k sc a ca) (h1 : Pl sc x) (h2 : x ∈ Γ.bs) (h3 : bootBuiltins x = some (.builtin id)) (h4 : x ≠ "__name__") (h5 : (x == ("__debug__" : Str)) = false)
    (hst : ∀ env, starEach [a] env = (false, eval a env) :: starEach [] env) : SndE Γ F N k sc (.Call (.Name x p) [a] [] pos) (.blt b ca) :=
  snd_blt ha fun X ok hs r hr => pe_callB (by rw [hb] at hr; exact hr) (gl_of hs h1) (ok.bl _ h2) h3 (pa_cons pe_w pa_nil (hst X.env)) h4 h5 (hst X.env) rfl
theorem snd_bltT {b : Bt} {id : String} {x : Str} {a : Expr} {p pos : Pos} {ca : C} (hb : btV b = .ty id) (ha : SndE Γ F N k sc a ca) (h1 : Pl sc x) (h2 : x ∈ Γ.bs) (h3 : bootBuiltins x = some (.type id)) (h4 : x ≠ "__name__") (h5 : (x == ("__debug__" : Str)) = false)
    (hst : ∀ env, starEach [a] env = (false, eval a env) :: starEach [] env) : SndE Γ F N k sc (.Call (.Name x p) [a] [] pos) (.blt b ca) :=
  snd_blt ha fun X ok hs r hr => pe_callTy (by rw [hb] at hr; exact hr) (gl_of hs h1) (ok.bl _ h2) h3 (pa_cons pe_w pa_nil (hst X.env)) h4 h5 (hst X.env) rfl
theorem snd_sub {a i : Expr} {pos : Pos} {ca ci : C} (ha : SndE Γ F N k sc a ca) (hi : SndE Γ F N k sc i ci) (hp : PlainIx i) : SndE Γ F N k sc (.Subscript a i pos) (.sub ca ci) := by
  intro X ok hs p B0 H0 B H σ st d st' R ev Q q
  simp only [evalE] at ev
  split at ev
  · rename_i x st1 e1
    split at ev
    · rename_i y st2 e2
      split at ev
      · rename_i z e3
        obtain ⟨rfl, rfl⟩ := some2 ev
        obtain ⟨r, hr, hk⟩ := sub_ok (X := X) e3
        refine w_pe (pe_ix hr pe_w pe_w hp) ?_
        refine ha X ok hs _ _ _ _ _ _ _ _ _ R e1 _ fun v B1 H1 R1 s1 d1 => ?_
        refine hi X ok hs _ _ _ _ _ _ _ _ _ R1 e2 _ fun w B2 H2 R2 s2 d2 => ?_
        exact hk B2 H2 v w R2.ext (d1.mono s2) d2 Q fun u d3 => q u B2 H2 R2 (s1.trans s2) d3
      · cases ev
    · cases ev
  · cases ev
theorem lst_dv {K : PySem.W.Frag} {B : Hp} {v : V} {ds : List PyData} (h : Dv K B v (.list ds)) : ∃ a xs, v = .ref a ∧ B a = some (.lst xs) ∧ DvL K B xs ds := by
  cases h with
  | lst h r => exact ⟨_, _, rfl, h, r⟩
theorem snd_upto {a n : Expr} {p pos : Pos} {ca cn : C} (ha : SndE Γ F N k sc a ca) (hn : SndE Γ F N k sc n cn) : SndE Γ F N k sc (.Subscript a (.Slice none (some n) none p) pos) (.upto ca cn) := by
  intro X ok hs p B0 H0 B H σ st d st' R ev Q q
  simp only [evalE] at ev
  split at ev
  · rename_i xs st1 e1
    split at ev
    · rename_i j st2 e2
      split at ev
      · rename_i hj
        obtain ⟨rfl, rfl⟩ := some2 ev
        refine w_pe (pe_slice sl_list pe_w po_none (po_some pe_w)) ?_
        refine ha X ok hs _ _ _ _ _ _ _ _ _ R e1 _ fun v B1 H1 R1 s1 d1 => ?_
        refine hn X ok hs _ _ _ _ _ _ _ _ _ R1 e2 _ fun w B2 H2 R2 s2 d2 => ?_
        cases d2
        obtain ⟨q1, vs, rfl, hq, r⟩ := lst_dv (d1.mono s2)
        refine ⟨_, rfl, q1, vs, rfl, .of (R2.ext _ _ hq), fun q0 hq0 => ?_⟩
        have sb : Same B2 (upd B2 q0 (.lst (cutV vs none (some j)))) := same_upd (R2.free hq0).2.2
        refine q (.ref q0) _ _ (R2.alloc hq0) ((s1.trans s2).trans sb) (.lst upd_same (DvL.mono sb ?_))
        rw [cut_upto vs hj]
        exact r.take _
      · cases ev
    · cases ev
  · cases ev
theorem snd_cat {a b : Expr} {pos : Pos} {ca cb : C} (ha : SndE Γ F N k sc a ca) (hb : SndE Γ F N k sc b cb) : SndE Γ F N k sc (.BinOp a .Add b pos) (.cat ca cb) := by
  intro X ok hs p B0 H0 B H σ st d st' R ev Q q
  simp only [evalE] at ev
  split at ev
  · rename_i xs st1 e1
    split at ev
    · rename_i ys st2 e2
      split at ev
      · rename_i hz
        obtain ⟨rfl, rfl⟩ := some2 ev
        refine w_pe (pe_op op_cat pe_w pe_w) ?_
        refine ha X ok hs _ _ _ _ _ _ _ _ _ R e1 _ fun v B1 H1 R1 s1 d1 => ?_
        refine hb X ok hs _ _ _ _ _ _ _ _ _ R1 e2 _ fun w B2 H2 R2 s2 d2 => ?_
        obtain ⟨q1, vs, rfl, hq, r⟩ := lst_dv (d1.mono s2)
        obtain ⟨q2, ws, rfl, hq2, r2⟩ := lst_dv d2
        refine ⟨q1, q2, vs, ws, rfl, rfl, R2.ext _ _ hq, R2.ext _ _ hq2, by rw [r.length, r2.length]; exact small_line hz, fun q0 hq0 => ?_⟩
        have sb : Same B2 (upd B2 q0 (.lst (vs ++ ws))) := same_upd (R2.free hq0).2.2
        exact q (.ref q0) _ _ (R2.alloc hq0) ((s1.trans s2).trans sb) (.lst upd_same ((r.append r2).mono sb))
      · cases ev
    · cases ev
  · cases ev
/-! ### what is gone over -/
theorem snd_rng {a : Expr} {p pos : Pos} {c : C} (h : SndE Γ F N k sc a c) (h1 : Pl sc "range") (h2 : ("range" : Str) ∈ Γ.bs) (hst : ∀ env, starEach [a] env = [(false, eval a env)]) : SndI Γ F N k sc (.Call (.Name "range" p) [a] [] pos) (.rng c) := by
  intro X ok hs p B0 H0 B H σ st xs st' R ev tg Rr q
  simp only [evalI] at ev
  split at ev
  · rename_i n st1 e1
    split at ev
    · rename_i hn
      obtain ⟨rfl, rfl⟩ := some2 ev
      refine w_pi (pi_range1 (gl_of hs h1) (ok.bl _ h2) (pa_cons pe_w pa_nil (by rw [hst X.env] <;> rfl)) (hst X.env)) ?_
      refine h X ok hs _ _ _ _ _ _ _ _ _ R e1 _ fun v B1 H1 R1 s1 d1 => ?_
      cases d1
      refine ⟨n, rfl, by omega, by omega, ?_⟩
      refine q _ B1 H1 (fun _ => True) _ R1 s1 (by rw [List.length_map, List.length_range]; exact walk_range) (fun H2 e2 => True.intro) fun i H2 x H3 hi e2 y => ?_
      obtain ⟨rfl, rfl⟩ := y
      rw [List.length_map, List.length_range] at hi
      refine ⟨.int ((i : Nat) : Int), ?_, rfl, ?_⟩
      · rw [List.getElem?_map, List.getElem?_range hi] <;> rfl
      · show Dv X.K B1 (V.int (0 + (i : Int))) _
        rw [Int.zero_add]; exact .int _
    · cases ev
  · cases ev
theorem snd_seq {e : Expr} {c : C} (h : SndE Γ F N k sc e c) : SndI Γ F N k sc e (.seq c) := by
  intro X ok hs p B0 H0 B H σ st xs st' R ev tg Rr q
  simp only [evalI] at ev
  split at ev
  · rename_i d st1 e1
    split at ev
    · rename_i ds e2
      obtain ⟨rfl, rfl⟩ := some2 ev
      cases d with
      | list zs =>
        cases e2
        refine w_pi (pi_list pe_w) ?_
        refine h X ok hs _ _ _ _ _ _ _ _ _ R e1 _ fun v B1 H1 R1 s1 d1 => ?_
        obtain ⟨q1, vs, rfl, hq, r⟩ := lst_dv d1
        refine ⟨q1, rfl, ⟨vs, .of (R1.ext _ _ hq)⟩, ?_⟩
        refine q _ B1 H1 (fun H => SqL X.K H q1 vs) (YAt vs) R1 s1 (by rw [← r.length]; exact walk_list (xs := vs)) (fun H2 e2 => .of (e2 _ _ hq)) fun i H2 x H3 hi e2 y => ?_
        obtain ⟨rfl, hx⟩ := y
        obtain ⟨d2, g1, g2⟩ := r.get hx
        exact ⟨d2, g1, rfl, g2⟩
      | tuple zs =>
        cases e2
        refine w_pi (pi_tup pe_w) ?_
        refine h X ok hs _ _ _ _ _ _ _ _ _ R e1 _ fun v B1 H1 R1 s1 d1 => ?_
        obtain ⟨q1, vs, rfl, hq, r⟩ := tup_dv d1
        refine ⟨q1, rfl, ⟨vs, same_t R1.ext hq⟩, ?_⟩
        refine q _ B1 H1 (fun H => SqT X.K H q1 vs) (YAt vs) R1 s1 (by rw [← r.length]; exact walk_tup (xs := vs)) (fun H2 e2 => same_t e2 hq) fun i H2 x H3 hi e2 y => ?_
        obtain ⟨rfl, hx⟩ := y
        obtain ⟨d2, g1, g2⟩ := r.get hx
        exact ⟨d2, g1, rfl, g2⟩
      | str z =>
        cases e2
        refine w_pi (pi_str pe_w) ?_
        refine h X ok hs _ _ _ _ _ _ _ _ _ R e1 _ fun v B1 H1 R1 s1 d1 => ?_
        cases d1
        refine ⟨z, rfl, ?_⟩
        refine q _ B1 H1 (fun _ => True) _ R1 s1 (by rw [List.length_map, Array.length_toList]; exact walk_str (z := z)) (fun H2 e2 => True.intro) fun i H2 x H3 hi e2 y => ?_
        obtain ⟨rfl, ch, hx, rfl⟩ := y
        refine ⟨.str ⟨#[ch]⟩, ?_, rfl, .str _⟩
        rw [List.getElem?_map, Array.getElem?_toList, hx] <;> rfl
      | none => cases e2
      | bool b => cases e2
      | int b => cases e2
      | dict b => cases e2
    · cases ev
  · cases ev
end
end Kd


set_option Elab.async false
set_option linter.all false
set_option maxRecDepth 100000
set_option maxHeartbeats 4000000
namespace Kd
open PySem PySem.Spec PyProof.Rows L2
/-! ### instances: their fields, their classes -/
theorem ite_some' {c : Prop} [Decidable c] {α : Type} {a : Option α} {z : α} (h : (if c then a else none) = some z) : c ∧ a = some z := by
  split at h
  · rename_i hc
    exact ⟨hc, h⟩
  · cases h
theorem dvk_key {K : PySem.W.Frag} {B : Hp} {kvs : List (Key × V)} {l : List (PyData × PyData)} (h : DvK K B kvs l) {m x : PyData} {ds : List (PyData × PyData)} (e : l = (m, x) :: ds) : ∃ k : Key, m = kD k := by
  cases h with
  | nil => cases e
  | cons h r =>
    cases e
    exact ⟨_, rfl⟩
theorem dvk_none {K : PySem.W.Frag} {B : Hp} {kvs : List (Key × V)} {x : PyData} {ds : List (PyData × PyData)} (h : DvK K B kvs ((.none, x) :: ds)) : False := by
  obtain ⟨k, z⟩ := dvk_key h rfl
  cases k <;> cases z
theorem dvk_true {K : PySem.W.Frag} {B : Hp} {kvs : List (Key × V)} {x : PyData} {ds : List (PyData × PyData)} {b : Bool} (h : DvK K B kvs ((.bool b, x) :: ds)) : False := by
  obtain ⟨k, z⟩ := dvk_key h rfl
  cases k <;> cases z
theorem fld_dv {K : PySem.W.Frag} {B : Hp} {f : Str} : ∀ {fs : List (Str × V)} {ds : List (PyData × PyData)} {z : PyData}, DvK K B (fs.map fun p => (Sum.inr p.1, p.2)) ds → fldD f ds = some z → ∃ v, fs.lookup f = some v ∧ Dv K B v z
  | [], _, _, r, h => by
    cases r
    cases h
  | (g, v) :: fs, _, z, r, h => by
    have r' : DvK K B ((Sum.inr g, v) :: fs.map fun p => (Sum.inr p.1, p.2)) _ := r
    cases r' with
    | cons hd tl =>
      simp only [kD, fldD] at h
      split at h
      · rename_i e
        cases h
        subst e
        exact ⟨v, by simp [List.lookup], hd⟩
      · rename_i e
        obtain ⟨u, h1, h2⟩ := fld_dv tl h
        have e' : (f == g) = false := by simpa using e
        exact ⟨u, by simp only [List.lookup, e']; exact h1, h2⟩
section
variable {Γ : Gam} {F : Fns} {N : List Str} {k : Nat} {sc : Scope}
theorem snd_attr {a : Expr} {f : Str} {pos : Pos} {ca : C} {cE cI : List Str} (ha : SndE Γ F N k sc a ca) (hm : (f, cE, cI) ∈ Γ.ats) (hb : ∀ env, attributeBase a f env (eval a env) = eval a env) : SndE Γ F N k sc (.Attribute a f pos) (.attr ca f cE cI) := by
  intro X ok hs p B0 H0 B H σ st d st' R ev Q q
  obtain ⟨oE, oI⟩ := ok.at_ f cE cI hm
  simp only [evalE] at ev
  split at ev
  · rename_i x st1 e1
    split at ev
    · rename_i z e2
      obtain ⟨rfl, rfl⟩ := some2 ev
      unfold attrD at e2
      split at e2
      · rename_i cn ds
        obtain ⟨hin, e2⟩ := ite_some' e2
        refine fun pins s I => attr_of (hb X.env) (thn ((ha X ok hs _ _ _ _ _ _ _ _ _ R e1 (fun v H1 => ∃ B1, Rel X.K _ _ _ B1 H1 σ st1 ∧ Same B B1 ∧ Dv X.K B1 v _) (fun v B1 H1 R1 s1 dv => ⟨B1, R1, s1, dv⟩)) pins s I) fun u s2 ⟨v, H1, I1, rv, B1, R1, s1, dv⟩ => ?_)
        cases dv with
        | dct h r => exact (dvk_none r).elim
        | exc hx h1 h2 r =>
          obtain ⟨w, hw, dw⟩ := fld_dv r e2
          obtain ⟨T, hno⟩ := oE _ _ hin hx
          obtain rfl : u = Value.ref _ := rv
          obtain ⟨t0, hobj⟩ := exo_at I1.hok (R1.ext _ _ h1)
          obtain ⟨mA, hns, hr⟩ := exd_at I1.hok (R1.ext _ _ h2)
          obtain ⟨od, ho, hl⟩ := lookIn_ns hns
          obtain ⟨u, hu, ru⟩ := RelO.some_of (v := w) (o := mA f) (by rw [← hw]; exact hr f)
          exact HandSPX.exc_get I1.kIn ⟨hobj, rfl, rfl, ho⟩ T.ga T.gg T.exC (PySem.W.findObj_own T.hdC hno rfl (by rw [hl, hu])) (handed_of ru) ⟨w, H1, I1.tok _, ru, q w B1 H1 R1 s1 dw⟩
      · rename_i cn ds
        obtain ⟨hin, e2⟩ := ite_some' e2
        refine fun pins s I => attr_of (hb X.env) (thn ((ha X ok hs _ _ _ _ _ _ _ _ _ R e1 (fun v H1 => ∃ B1, Rel X.K _ _ _ B1 H1 σ st1 ∧ Same B B1 ∧ Dv X.K B1 v _) (fun v B1 H1 R1 s1 dv => ⟨B1, R1, s1, dv⟩)) pins s I) fun u s2 ⟨v, H1, I1, rv, B1, R1, s1, dv⟩ => ?_)
        cases dv with
        | dct h r => exact (dvk_true r).elim
        | ins hx h1 r =>
          obtain ⟨w, hw, dw⟩ := fld_dv r e2
          obtain ⟨c, n⟩ := oI _ _ hin hx
          obtain rfl : u = Value.ref _ := rv
          exact getattr_ok I1 (R1.ext _ _ h1) c n hw fun u' s3 I3 ru => ⟨w, H1, I3, ru, q w B1 H1 R1 s1 dw⟩
      · cases e2
    · cases ev
  · cases ev
theorem flat_dvl {K : PySem.W.Frag} {B : Hp} {vs : List V} {ds : List PyData} (r : DvL K B vs ds) : ∀ n : Nat, DvL K B (List.replicate n vs).flatten (List.replicate n ds).flatten
  | 0 => .nil
  | n + 1 => by
    rw [List.replicate_succ, List.replicate_succ, List.flatten_cons, List.flatten_cons]
    exact r.append (flat_dvl r n)
theorem snd_rep {a b : Expr} {pos : Pos} {ca cb : C} (ha : SndE Γ F N k sc a ca) (hb : SndE Γ F N k sc b cb) : SndE Γ F N k sc (.BinOp a .Mult b pos) (.rep ca cb) := by
  intro X ok hs p B0 H0 B H σ st d st' R ev Q q
  simp only [evalE] at ev
  split at ev
  · rename_i xs st1 e1
    split at ev
    · rename_i kk st2 e2
      split at ev
      · rename_i hz
        obtain ⟨z1, z2, z3⟩ := hz
        obtain ⟨rfl, rfl⟩ := some2 ev
        refine w_pe (pe_op op_rep pe_w pe_w) ?_
        refine ha X ok hs _ _ _ _ _ _ _ _ _ R e1 _ fun v B1 H1 R1 s1 d1 => ?_
        refine hb X ok hs _ _ _ _ _ _ _ _ _ R1 e2 _ fun w B2 H2 R2 s2 d2 => ?_
        obtain ⟨q1, vs, rfl, hq, r⟩ := lst_dv (d1.mono s2)
        cases d2
        refine ⟨q1, kk, vs, rfl, rfl, R2.ext _ _ hq, by omega, by omega, by rw [r.length]; exact small_line z3, fun q0 hq0 => ?_⟩
        have sb : Same B2 (upd B2 q0 (.lst (List.replicate kk.toNat vs).flatten)) := same_upd (R2.free hq0).2.2
        exact q (.ref q0) _ _ (R2.alloc hq0) ((s1.trans s2).trans sb) (.lst upd_same ((flat_dvl r _).mono sb))
      · cases ev
    · cases ev
  · cases ev
/-- what the library's isinstance asks of an instance, an error's too -/
def KitV (K : PySem.W.Frag) (B : Hp) (v : V) (t : Value) : Prop := TyX K B v t ∨ ∃ a C d fs, v = .ref a ∧ t = .ref C ∧ B a = some (exo a C (some d)) ∧ B d = some (exd d fs) ∧ L2.ExcC K C
theorem call_isv {X : Cx} : CallR X (.builtin "isinstance") fun xs H Q => ∃ (x c : V) (t u : Value) (b : Bool), xs = [x, c] ∧ ClsV c u ∧ KitV X.K H x t ∧ PySem.W.kitOne X.K t u = some b ∧ Q (.bl b) H := by
  intro pins s σ H xs us Q I r h
  obtain ⟨x, c, t, u, b, rfl, k, ty, e, q⟩ := h
  obtain ⟨u1, u2, rfl, r1, r2⟩ := vals2 r
  have e2 := k.eq r2
  subst e2
  rcases ty with ty | ⟨a, C, d, fs, rfl, rfl, h1, h2, T⟩
  · obtain ⟨P, Z, p, hx⟩ := kit_of I r1 ty
    exact PySem.W.kia_one Z I.kIn p e hx fun tk => ⟨.bl b, H, I.tok tk, rfl, q⟩
  · obtain rfl : u1 = Value.ref a := r1
    obtain ⟨t0, hobj⟩ := exo_at I.hok h1
    obtain ⟨mA, hns, hr⟩ := exd_at I.hok h2
    obtain ⟨od, ho, hl⟩ := lookIn_ns hns
    obtain ⟨cd, hcd, _⟩ := PySem.W.any_some T.hd
    exact PySem.W.kia_one (PySem.W.kitx_exc (od := some od) (by rw [hcd]; rfl) T.hg T.hk T.hs T.ha T.hn T.ht T.hm) I.kIn ⟨hobj, rfl, rfl, ho⟩ e (fun z => nomatch z) fun tk => ⟨.bl b, H, I.tok tk, rfl, q⟩
theorem snd_isc {a : Expr} {t : Str} {p p2 pos : Pos} {ca : C} {tE tI : List (Str × Bool)} {tO : List String} (ha : SndE Γ F N k sc a ca) (h1 : Pl sc "isinstance") (h2 : ("isinstance" : Str) ∈ Γ.bs) (h3 : Pl sc t) (h7 : (t == ("__debug__" : Str)) = false) (hm : (t, tE, tI, tO) ∈ Γ.ics)
    (hst : ∀ env, starEach [a, .Name t p2] env = (false, eval a env) :: starEach [.Name t p2] env) : SndE Γ F N k sc (.Call (.Name "isinstance" p) [a, .Name t p2] [] pos) (.isc ca tE tI tO) := by
  intro X ok hs p B0 H0 B H σ st d st' R ev Q q
  obtain ⟨T, hT, fE, fI, fO⟩ := ok.ic t tE tI tO hm
  simp only [evalE] at ev
  split at ev
  · rename_i d1 st1 e1
    split at ev
    · rename_i b e2
      obtain ⟨rfl, rfl⟩ := some2 ev
      refine w_pe (pe_callB call_isv (gl_of hs h1) (ok.bl _ h2) (by decide +kernel) (pa_cons pe_w (pa_cons (pe_glob (v := V.ref T) (gl_of hs h3) hT rfl h7) pa_nil) (hst X.env)) (by decide) (by decide) (hst X.env) rfl) ?_
      refine ha X ok hs _ _ _ _ _ _ _ _ _ R e1 _ fun v B1 H1 R1 s1 dv => ?_
      unfold iscD at e2
      split at e2
      · cases dv with
        | dct h r => exact (dvk_none r).elim
        | exc hx g1 g2 r =>
          obtain ⟨k1, k2⟩ := fE _ _ _ e2 hx
          exact ⟨_, .ref T, _, _, b, rfl, .own T, .inr ⟨_, _, _, _, rfl, rfl, R1.ext _ _ g1, R1.ext _ _ g2, k1⟩, k2, q _ B1 H1 R1 s1 (.bl _)⟩
      · cases dv with
        | dct h r => exact (dvk_true r).elim
        | ins hx g1 r =>
          obtain ⟨k1, k2⟩ := fI _ _ _ e2 hx
          exact ⟨_, .ref T, _, _, b, rfl, .own T, .inl (.base (.ins (R1.ext _ _ g1) k1.cl k1.ha k1.hn k1.ht k1.hm)), k2, q _ B1 H1 R1 s1 (.bl _)⟩
      · split at e2
        · cases e2
        · rename_i z
          obtain ⟨hin, e2⟩ := ite_some' e2
          cases e2
          exact ⟨v, .ref T, _, _, false, rfl, .own T, .inl (ty_ok R1.ext dv (by simpa using z)), fO _ hin, q _ B1 H1 R1 s1 (.bl _)⟩
    · cases ev
  · cases ev
end
end Kd


set_option Elab.async false
set_option linter.all false
set_option maxRecDepth 100000
set_option maxHeartbeats 8000000
namespace Kd
open PySem PySem.Spec PyProof.Rows L2
theorem DvL.erase {K : PySem.W.Frag} {B : Hp} : ∀ {vs : List V} {ds : List PyData} (n : Nat), DvL K B vs ds → DvL K B (vs.eraseIdx n) (ds.eraseIdx n)
  | _, _, _, .nil => .nil
  | _, _, 0, .cons _ r => r
  | _, _, n + 1, .cons h r => .cons h (DvL.erase n r)
section
variable {K : PySem.W.Frag} {p : Option Addr} {B0 H0 B H : Hp} {σ : L2.St} {st : S}
/-- a slot's own list is data from here on -/
theorem Rel.frz (R : Rel K p B0 H0 B H σ st) {i : Nat} {ds : List PyData} (e : st.δ[i]? = some (SD.own ds)) : ∃ l xs, σ[i]? = some (some (V.ref l)) ∧ H l = some (.lst xs) ∧ Rel K p B0 H0 (upd B l (.lst xs)) H σ (st.set i (.list ds)) ∧
    Same B (upd B l (.lst xs)) ∧ Dv K (upd B l (.lst xs)) (.ref l) (.list ds) := by
  obtain ⟨l, xs, h1, h2, h3, h4, h5⟩ := R.ow i ds e
  have sb : Same B (upd B l (.lst xs)) := same_upd h3
  have dv : Dv K (upd B l (.lst xs)) (.ref l) (.list ds) := .lst upd_same (h5.mono sb)
  refine ⟨l, xs, h1, h2, ⟨R.fr, fun b u h => ?_, R.up.trans sb, fun b u h => ?_, fun b q => ?_, R.h0, by show σ.length = (st.δ.set i _).length; rw [List.length_set, R.len], fun j x q => ?_, R.pen.mono sb fun _ _ => rfl, fun j q => ?_, fun j es q => ?_, fun j j' es es' n q q' => ?_⟩, sb, dv⟩
  · by_cases z : b = l
    · subst z; rw [upd_same] at h; rw [h2, h]
    · rw [upd_ne z] at h; exact R.ext _ _ h
  · by_cases z : b = l
    · subst z; exact .inr h4
    · rw [upd_ne z] at h; exact R.new b u h
  · rw [upd_ne (fun (z : b = l) => R.npen h4 (by rw [← z]; exact q))]; exact R.pn b q
  · rcases get_set q with ⟨rfl, rfl, _⟩ | ⟨_, q⟩
    · exact ⟨_, h1, dv⟩
    · obtain ⟨v, g1, g2⟩ := R.sl j x q
      exact ⟨v, g1, g2.mono sb⟩
  · obtain ⟨_, q⟩ := set_other (by intro z; cases z) q
    exact R.pv j q
  · obtain ⟨z, q⟩ := set_other (by intro z; cases z) q
    obtain ⟨l', ys, g1, g2, g3, g4, g5⟩ := R.ow j es q
    have nl : l' ≠ l := fun k => R.dj i j ds es z e q (by rw [h1, g1, k])
    exact ⟨l', ys, g1, g2, by rw [upd_ne nl]; exact g3, g4, g5.mono sb⟩
  · obtain ⟨_, q⟩ := set_other (by intro z; cases z) q
    obtain ⟨_, q'⟩ := set_other (by intro z; cases z) q'
    exact R.dj j j' es es' n q q'
theorem own_other {l : List SD} {i j : Nat} {ds es : List PyData} {z : List PyData} (h0 : l[i]? = some (.own z)) (h : (l.set i (.own ds))[j]? = some (.own es)) : (j = i ∧ es = ds) ∨ (j ≠ i ∧ l[j]? = some (.own es)) := by
  by_cases q : i = j
  · subst q
    rw [List.getElem?_set_self (List.getElem?_eq_some_iff.mp h0).1] at h
    cases h
    exact .inl ⟨rfl, rfl⟩
  · rw [List.getElem?_set_ne q] at h
    exact .inr ⟨fun k => q k.symm, h⟩
/-- a slot's own list is changed -/
theorem Rel.chg (R : Rel K p B0 H0 B H σ st) {i : Nat} {ds es : List PyData} {l : Addr} {ys : List V} (e : st.δ[i]? = some (SD.own ds)) (hl : σ[i]? = some (some (V.ref l))) (d : DvL K B ys es) :
    Rel K p B0 H0 B (upd H l (.lst ys)) σ (st.own i es) := by
  obtain ⟨l', xs, h1, h2, h3, h4, h5⟩ := R.ow i ds e
  rw [hl] at h1
  cases h1
  refine ⟨fun b u n h => ?_, fun b u h => ?_, R.up, R.new, R.pn, R.h0, by show σ.length = (st.δ.set i _).length; rw [List.length_set, R.len], fun j x q => ?_, R.pen.mono (Same.refl _) fun b q => ?_, fun j q => ?_, fun j zs q => ?_, fun j j' zs zs' n q q' => ?_⟩
  · rw [upd_ne (ne_of_none h h4)]; exact R.fr b u n h
  · rw [upd_ne (ne_of_none h h3)]; exact R.ext _ _ h
  · unfold S.get S.own at q
    by_cases z : i = j
    · subst z
      simp only [List.getElem?_set_self (List.getElem?_eq_some_iff.mp e).1] at q
      cases q
    · simp only [List.getElem?_set_ne z] at q
      exact R.sl j x q
  · exact upd_ne (fun (z : b = l) => R.npen h4 (by rw [← z]; exact q))
  · obtain ⟨_, q⟩ := set_other (by intro z; cases z) q
    exact R.pv j q
  · rcases own_other e q with ⟨rfl, rfl⟩ | ⟨z, q⟩
    · exact ⟨l, ys, hl, upd_same, h3, h4, d⟩
    · obtain ⟨m, ws, g1, g2, g3⟩ := R.ow j zs q
      have nl : m ≠ l := fun k => R.dj i j ds zs (fun w => z w.symm) e q (by rw [hl, g1, k])
      exact ⟨m, ws, g1, by rw [upd_ne nl]; exact g2, g3⟩
  · have old : ∀ {m : Nat} {zs : List PyData}, (st.own i es).δ[m]? = some (.own zs) → ∃ os, st.δ[m]? = some (.own os) := by
      intro m zs w
      rcases own_other e w with ⟨rfl, _⟩ | ⟨_, w⟩
      · exact ⟨_, e⟩
      · exact ⟨_, w⟩
    obtain ⟨_, o1⟩ := old q
    obtain ⟨_, o2⟩ := old q'
    exact R.dj j j' _ _ n o1 o2
/-- the pen's list is stored to -/
theorem Rel.store (R : Rel K p B0 H0 B H σ st) {a : Addr} {π' : Pen} {H' : Hp} (ha : p = some a) (hH : ∀ b, b ≠ a → H' b = H b) (pe : PenAt K B H' a π') : Rel K p B0 H0 B H' σ ⟨st.δ, some π'⟩ := by
  refine ⟨fun b o n h => ?_, fun b o h => ?_, R.up, R.new, R.pn, R.h0, R.len, R.sl, ⟨a, ha, pe⟩, R.pv, fun i ds h => ?_, R.dj⟩
  · rw [hH b fun z => n (by rw [ha, z])]; exact R.fr b o n h
  · rw [hH b fun (z : b = a) => by
      have := R.pn a ha
      rw [← z, h] at this
      cases this]
    exact R.ext _ _ h
  · obtain ⟨l, xs, h1, h2, h3, h4, h5⟩ := R.ow i ds h
    exact ⟨l, xs, h1, by rw [hH l fun z => R.npen h4 (by rw [ha, z])]; exact h2, h3, h4, h5⟩
end
section
variable {Γ : Gam} {F : Fns} {N : List Str} {k : Nat} {sc : Scope}
theorem pv_of {X : Cx} (ok : Ok Γ F N k X) (hs : X.env.scope = sc) {i : Nat} {x : Str} {pos : Pos} (hx : N[i]? = some x) (hv : Vis sc x) (h3 : (x == ("__debug__" : Str)) = false) (h4 : (x == ("__classdict__" : Str)) = false) : PE X (.Name x pos) (tVar i) :=
  pe_var (by rw [ok.hN]; exact hx) (by rw [hs]; exact hv) h3 h4
theorem snd_frz {i : Nat} {x : Str} {p : Pos} (hx : N[i]? = some x) (hv : Vis sc x) (h3 : (x == ("__debug__" : Str)) = false) (h4 : (x == ("__classdict__" : Str)) = false) : SndE Γ F N k sc (.Name x p) (.frz i) := by
  intro X ok hs p B0 H0 B H σ st d st' R ev Q q
  simp only [evalE] at ev
  split at ev
  · rename_i ds e
    obtain ⟨rfl, rfl⟩ := some2 ev
    obtain ⟨l, xs, g1, g2, R', sb, dv⟩ := R.frz e
    exact w_pe (pv_of ok hs hx hv h3 h4) ⟨_, g1, q _ _ _ R' sb dv⟩
  · cases ev
theorem snd_lenO {i : Nat} {x : Str} {p p2 pos : Pos} (hx : N[i]? = some x) (hv : Vis sc x) (h3 : (x == ("__debug__" : Str)) = false) (h4 : (x == ("__classdict__" : Str)) = false) (h1 : Pl sc "len") (h2 : ("len" : Str) ∈ Γ.bs) : SndE Γ F N k sc (.Call (.Name "len" p) [.Name x p2] [] pos) (.lenO i) := by
  intro X ok hs p B0 H0 B H σ st d st' R ev Q q
  simp only [evalE] at ev
  split at ev
  · rename_i ds e
    obtain ⟨rfl, rfl⟩ := some2 ev
    obtain ⟨l, xs, g1, g2, g3, g4, g5⟩ := R.ow i ds e
    refine w_pe (pe_callB call_len_seq (gl_of hs h1) (ok.bl _ h2) PySem.boot_len (pa_cons (pv_of ok hs hx hv h3 h4) pa_nil)) ⟨_, g1, l, xs, rfl, .inl (.of g2), ?_⟩
    rw [g5.length]
    exact q _ B H R (Same.refl _) (.int _)
  · cases ev
theorem ne_core {X : Cx} (ok : Ok Γ F N k X) (hs : X.env.scope = sc) {i : Nat} {p : Option Addr} {B0 H0 B H σ st} {ds : List PyData} (R : Rel X.K p B0 H0 B H σ st) (e : st.δ[i]? = some (SD.own ds)) (sh : SeqAt.shaped (.list ds) = true) {Q : VK}
    (q : ∀ H', Rel X.K p B0 H0 B H' σ st → Q (.bl (!ds.isEmpty)) H') : tOp (rNeD X.K) (tVar i) (tLst tNil) σ H Q := by
  obtain ⟨l, xs, g1, g2, g3, g4, g5⟩ := R.ow i ds e
  refine ⟨_, g1, by show 0 ≤ sizeLine; decide, fun a ha => ?_⟩
  have sh2 : Same H (upd H a (.lst [])) := same_upd ha
  have nd := nodict_shaped sh
  refine ⟨.list ds, .list [], .lst (.of (sh2 _ _ g2)) (DvL.dp (R.ext.trans sh2) g5 (by simpa [PyData.hasDict] using nd)), .lst (.of upd_same) .nil, sh, by decide +kernel, ?_⟩
  have ee : PyData.eqv (.list ds) (.list []) = ds.isEmpty := by
    cases ds with
    | nil => simp [PyData.eqv, PyData.eqvAll]
    | cons a r => simp [PyData.eqv, PyData.eqvAll]
  rw [ee]
  exact q _ (R.heap sh2)
theorem snd_neO {i : Nat} {x : Str} {p p2 pos : Pos} (hx : N[i]? = some x) (hv : Vis sc x) (h3 : (x == ("__debug__" : Str)) = false) (h4 : (x == ("__classdict__" : Str)) = false) : SndE Γ F N k sc (.Compare (.Name x p) [.NotEq] [.List [] p2] pos) (.neO i) := by
  intro X ok hs p B0 H0 B H σ st d st' R ev Q q
  simp only [evalE] at ev
  split at ev
  · rename_i ds e
    obtain ⟨hc, ev⟩ := ite_some ev
    obtain ⟨rfl, rfl⟩ := Prod.mk.inj ev
    exact w_pe (pe_cmpR (op_neD ok.room.units) (pv_of ok hs hx hv h3 h4) (pe_lst pa_nil) (nomark _)) (ne_core ok hs R e hc fun H' R' => q _ B H' R' (Same.refl _) (.bl _))
  · cases ev
theorem snd_neOT {i : Nat} {x : Str} {p p2 pos : Pos} (hx : N[i]? = some x) (hv : Vis sc x) (h3 : (x == ("__debug__" : Str)) = false) (h4 : (x == ("__classdict__" : Str)) = false) : SndT Γ F N k sc (.Compare (.Name x p) [.NotEq] [.List [] p2] pos) (.neO i) := by
  intro X ok hs p B0 H0 B H σ st d st' b R ev tr Q q
  simp only [evalE] at ev
  split at ev
  · rename_i ds e
    obtain ⟨hc, ev⟩ := ite_some ev
    obtain ⟨rfl, rfl⟩ := Prod.mk.inj ev
    cases tr
    exact w_pt (pt_cmpR (op_neD ok.room.units) (pv_of ok hs hx hv h3 h4) (pe_lst pa_nil) (nomark _)) (ne_core ok hs R e hc fun H' R' => ⟨_, rfl, q B H' R' (Same.refl _)⟩)
  · cases ev
theorem seq_at {n : Nat} {i : Int} (h0 : 0 ≤ i) (h1 : i < n) : seqIndex? i n = some i.toNat := by
  unfold seqIndex?
  split
  · omega
  · show (if (decide (0 ≤ i) && decide (i < n)) = true then some i.toNat else none) = _
    rw [if_pos (by simp [h0, h1])]
theorem snd_popO {i : Nat} {x : Str} {e : Expr} {p ap cp : Pos} {c : C} (hx : N[i]? = some x) (hv : Vis sc x) (h3 : (x == ("__debug__" : Str)) = false) (h4 : (x == ("__classdict__" : Str)) = false) (he : SndE Γ F N k sc e c) (hl : (ap.endLine == cp.line) = true)
    (hst : ∀ env, starEach [e] env = (false, eval e env) :: starEach [] env) : SndE Γ F N k sc (.Call (.Attribute (.Name x p) "pop" ap) [e] [] cp) (.popO i c) := by
  intro X ok hs p B0 H0 B H σ st d st' R ev Q q
  simp only [evalE] at ev
  split at ev
  · rename_i ds0 e0
    split at ev
    · rename_i n st1 e1
      split at ev
      · rename_i ds e2
        split at ev
        · rename_i hn
          split at ev
          · rename_i d1 e3
            obtain ⟨rfl, rfl⟩ := some2 ev
            obtain ⟨l, xs0, g1, g2, _⟩ := R.ow i ds0 e0
            refine w_pe (pe_bm PySem.F.plainAttrs_list PySem.F.slot_list_pop PySem.F.type_list_pop mt_popAt (pv_of ok hs hx hv h3 h4) (pa_cons pe_w pa_nil (hst X.env)) (by rfl) (by rw [hst X.env] <;> rfl) hl (hst X.env) rfl) ?_
            refine ⟨_, g1, .inl ⟨rfl, xs0, .of g2⟩, ?_⟩
            refine he X ok hs _ _ _ _ _ _ _ _ _ R e1 _ fun v B1 H1 R1 s1 dv => ?_
            cases dv
            obtain ⟨l', xs, k1, k2, k3, k4, k5⟩ := R1.ow i ds e2
            rw [g1] at k1
            cases k1
            obtain ⟨u, m1, m2⟩ := k5.get' e3
            have hz : xs.length ≤ 100000 := by rw [k5.length]; exact of_decide_eq_true hn.2.2
            have hlt : n < (xs.length : Int) := by rw [k5.length]; exact hn.2.1
            refine ⟨l, xs, n, n.toNat, u, rfl, rfl, k2, by omega, by omega, seq_at hn.1 hlt, m1, ?_⟩
            exact q u B1 _ (R1.chg e2 g1 (k5.erase _)) s1 m2
          · cases ev
        · cases ev
      · cases ev
    · cases ev
  · cases ev
theorem pen_at {K : PySem.W.Frag} {p : Option Addr} {B0 H0 B H : Hp} {σ : L2.St} {st : S} (R : Rel K p B0 H0 B H σ st) {j : Nat} {π : Pen} (e : st.δ[j]? = some SD.pen) (hπ : st.π = some π) : ∃ a, p = some a ∧ σ[j]? = some (some (V.ref a)) ∧ PenAt K B H a π := by
  obtain ⟨a, ha, h1⟩ := R.pv j e
  have pe := R.pen
  rw [hπ] at pe
  obtain ⟨a', ha', pe⟩ := pe
  rw [ha] at ha'
  cases ha'
  exact ⟨a, ha, h1, pe⟩
theorem snd_penG {j n : Nat} {kk : Int} {y : Str} {p p2 pos : Pos} (hx : N[j]? = some y) (hv : Vis sc y) (h3 : (y == ("__debug__" : Str)) = false) (h4 : (y == ("__classdict__" : Str)) = false) (hk : kk = 1 ∨ kk = 2) :
    SndE Γ F N k sc (.Subscript (.Name y p) (.Constant (.int kk) n p2) pos) (.penG j kk.toNat) := by
  intro X ok hs p B0 H0 B H σ st d st' R ev Q q
  simp only [evalE] at ev
  split at ev
  · rename_i π e hπ
    obtain ⟨a, ha, h1, r, g1, g2⟩ := pen_at R e hπ
    refine w_pe (pe_ix ix_list (pv_of ok hs hx hv h3 h4) pe_int (fun _ _ => rfl)) ⟨_, h1, a, [V.ref r, V.int π.lap, V.int π.g], kk, ?_⟩
    rcases hk with rfl | rfl
    · obtain ⟨rfl, rfl⟩ := some2 ev
      exact ⟨_, rfl, rfl, .of g1, rfl, q _ B H R (Same.refl _) (.int _)⟩
    · obtain ⟨rfl, rfl⟩ := some2 ev
      exact ⟨_, rfl, rfl, .of g1, rfl, q _ B H R (Same.refl _) (.int _)⟩
  · cases ev
theorem snd_penAt {j n : Nat} {y : Str} {e : Expr} {p p2 p3 pos : Pos} {c : C} (hx : N[j]? = some y) (hv : Vis sc y) (h3 : (y == ("__debug__" : Str)) = false) (h4 : (y == ("__classdict__" : Str)) = false) (he : SndE Γ F N k sc e c) (hp : PlainIx e) :
    SndE Γ F N k sc (.Subscript (.Subscript (.Name y p) (.Constant (.int 0) n p2) p3) e pos) (.penAt j c) := by
  intro X ok hs p B0 H0 B H σ st d st' R ev Q q
  simp only [evalE] at ev
  split at ev
  · rename_i π e0 hπ
    split at ev
    · rename_i i st1 e1
      split at ev
      · rename_i m e3
        obtain ⟨rfl, rfl⟩ := some2 ev
        obtain ⟨a, ha, h1, r, g1, g2⟩ := pen_at R e0 hπ
        refine w_pe (pe_ix ix_list (pe_ix ix_list (pv_of ok hs hx hv h3 h4) pe_int (fun _ _ => rfl)) pe_w hp) ⟨_, h1, a, _, 0, _, rfl, rfl, .of g1, rfl, ?_⟩
        refine he X ok hs _ _ _ _ _ _ _ _ _ R e1 _ fun v B1 H1 R1 s1 dv => ?_
        cases dv
        refine ⟨r, _, i, .int m, rfl, rfl, R1.ext.seq (s1.seq g2), ?_, q _ B1 H1 R1 s1 (.int _)⟩
        unfold atI at e3 ⊢
        rw [List.length_map]
        cases z : ixN π.ns.length i with
        | none => rw [z] at e3; cases e3
        | some j =>
          rw [z] at e3
          show (π.ns.map V.int)[j]? = _
          have e3 : π.ns[j]? = some m := e3
          rw [List.getElem?_map, e3] <;> rfl
      · cases ev
    · cases ev
  · cases ev
theorem snd_penLen {j n : Nat} {y : Str} {p0 p p2 p3 pos : Pos} (hx : N[j]? = some y) (hv : Vis sc y) (h3 : (y == ("__debug__" : Str)) = false) (h4 : (y == ("__classdict__" : Str)) = false) (h1 : Pl sc "len") (h2 : ("len" : Str) ∈ Γ.bs) :
    SndE Γ F N k sc (.Call (.Name "len" p0) [.Subscript (.Name y p) (.Constant (.int 0) n p2) p3] [] pos) (.penLen j) := by
  intro X ok hs p B0 H0 B H σ st d st' R ev Q q
  simp only [evalE] at ev
  split at ev
  · rename_i π e0 hπ
    obtain ⟨rfl, rfl⟩ := some2 ev
    obtain ⟨a, ha, g0, r, g1, g2⟩ := pen_at R e0 hπ
    refine w_pe (pe_callB call_len_seq (gl_of hs h1) (ok.bl _ h2) PySem.boot_len (pa_cons (pe_ix ix_list (pv_of ok hs hx hv h3 h4) pe_int (fun _ _ => rfl)) pa_nil)) ⟨_, g0, a, _, 0, _, rfl, rfl, .of g1, rfl, r, _, rfl, .inl (R.ext.seq g2), ?_⟩
    rw [List.length_map]
    exact q _ B H R (Same.refl _) (.int _)
  · cases ev
theorem ints_lay : ∀ ns : List Int, PyData.canLayAll0 (ns.map PyData.int) = true
  | [] => by simp [PyData.canLayAll0]
  | n :: ns => by simp [PyData.canLayAll0, PyData.canLay0, ints_lay ns]
theorem ints_depth : ∀ ns : List Int, PyData.depthAll (ns.map PyData.int) ≤ 1
  | [] => by simp [PyData.depthAll]
  | n :: ns => by
    have := ints_depth ns
    simp only [List.map_cons, PyData.depthAll, PyData.depth]
    omega
theorem ints_shaped (ns : List Int) : SeqAt.shaped (.list (ns.map PyData.int)) = true := by
  unfold SeqAt.shaped
  rw [Bool.and_eq_true]
  have := ints_depth ns
  exact ⟨by simp [PyData.canLay0, ints_lay], decide_eq_true (by simp only [PyData.depth]; omega)⟩
theorem ints_dp {K : PySem.W.Frag} {H : Hp} : ∀ ns : List Int, DpAll K H (ns.map V.int) (ns.map PyData.int)
  | [] => .nil
  | n :: ns => .cons (.int n) (ints_dp ns)
theorem snd_penNeT {j n : Nat} {y : Str} {p p2 p3 p4 pos : Pos} (hx : N[j]? = some y) (hv : Vis sc y) (h3 : (y == ("__debug__" : Str)) = false) (h4 : (y == ("__classdict__" : Str)) = false) :
    SndT Γ F N k sc (.Compare (.Subscript (.Name y p) (.Constant (.int 0) n p2) p3) [.NotEq] [.List [] p4] pos) (.penNe j) := by
  intro X ok hs p B0 H0 B H σ st d st' b R ev tr Q q
  simp only [evalE] at ev
  split at ev
  · rename_i π e0 hπ
    obtain ⟨rfl, rfl⟩ := some2 ev
    cases tr
    obtain ⟨a, ha, g0, r, g1, g2⟩ := pen_at R e0 hπ
    refine w_pt (pt_cmpR (op_neD ok.room.units) (pe_ix ix_list (pv_of ok hs hx hv h3 h4) pe_int (fun _ _ => rfl)) (pe_lst pa_nil) (nomark _)) ⟨_, g0, a, _, 0, _, rfl, rfl, .of g1, rfl, by show 0 ≤ sizeLine; decide, fun l hl => ?_⟩
    have sh : Same H (upd H l (.lst [])) := same_upd hl
    refine ⟨.list (π.ns.map PyData.int), .list [], .lst ((R.ext.trans sh).seq g2) (ints_dp _), .lst (.of upd_same) .nil, ints_shaped _, by decide +kernel, ?_⟩
    have ee : PyData.eqv (.list (π.ns.map PyData.int)) (.list []) = π.ns.isEmpty := by
      cases π.ns with
      | nil => simp [PyData.eqv, PyData.eqvAll]
      | cons a r => simp [PyData.eqv, PyData.eqvAll]
    rw [ee]
    exact ⟨_, rfl, q B _ (R.heap sh) (Same.refl _)⟩
  · cases ev
end
end Kd


set_option Elab.async false
set_option linter.all false
set_option maxRecDepth 100000
set_option maxHeartbeats 8000000
/-! How many unlike texts: len(set(..)). -/
namespace Kd
open PySem PySem.Spec PyProof.Rows L2

theorem uniqS_snoc (xs : List Str) (x : Str) : uniqS (xs ++ [x]) = ddS (uniqS xs) x := by
  unfold uniqS
  rw [List.foldl_append] <;> rfl
theorem ddS_len (l : List Str) (x : Str) : (ddS l x).length = if l.any (· == x) then l.length else l.length + 1 := by
  unfold ddS
  split <;> simp
theorem ddS_any (l : List Str) (x k : Str) : (ddS l x).any (· == k) = (l.any (· == k) || decide (k = x)) := by
  unfold ddS
  by_cases h : l.any (· == x) = true
  · rw [if_pos h]
    by_cases e : k = x
    · subst e; rw [h] <;> simp
    · simp [e]
  · rw [if_neg h, List.any_append]
    by_cases e : k = x
    · subst e; simp
    · have : (x == k) = false := beq_eq_false_iff_ne.mpr fun z => e z.symm
      simp [this, e]
theorem uniqS_le : ∀ (xs : List Str) (l : List Str), (xs.foldl ddS l).length ≤ l.length + xs.length
  | [], l => Nat.le_refl _
  | x :: xs, l => by
    have h := uniqS_le xs (ddS l x)
    have g := ddS_len l x
    show (xs.foldl ddS (ddS l x)).length ≤ _
    rw [List.length_cons]
    split at g <;> omega
theorem uniqS_nodup : ∀ (xs l : List Str), (l ++ xs).Nodup → xs.foldl ddS l = l ++ xs
  | [], l, _ => (List.append_nil l).symm
  | x :: xs, l, h => by
    have nx : l.any (· == x) = false := by
      rw [List.any_eq_false]
      intro y hy e
      have e' : y = x := by simpa using e
      subst e'
      rw [List.nodup_append] at h
      exact h.2.2 y hy y (List.mem_cons_self ..) rfl
    show xs.foldl ddS (ddS l x) = _
    have e : ddS l x = l ++ [x] := by
      unfold ddS
      rw [nx] <;> rfl
    rw [e, uniqS_nodup xs (l ++ [x]) (by rw [List.append_assoc]; exact h), List.append_assoc] <;> rfl

section
variable {prog : Program} {w : World} {A : Around} {R : Result → Shared → Prop} {it S : Addr} {fp wr : List Addr}
  {G : Array GenState → Array GenState → Prop} {n : Nat} {P : Nat → Value → Prop} {St : Nat → Shared → Prop}
theorem strs_loop (W : WalksS prog w A.in1 it fp wr G n P St) (out : S ∉ fp) (xs : List Str) (len : xs.length = n) (room : n + 1 < scanBound)
    (vals : ∀ (i : Nat) (v : Value), P i v → ∃ x t, xs[i]? = some x ∧ v = Value.str x t) : ∀ (left i : Nat) (s : Shared), i + left = n → St i s →
      s.heap.SetOf (PySem.strKind prog w) S (fun k => (uniqS (xs.take i)).any (· == k)) (uniqS (xs.take i)).length →
      (∀ s', Moved (S :: wr) G s s' → s'.heap.SetOf (PySem.strKind prog w) S (fun k => (uniqS xs).any (· == k)) (uniqS xs).length → R (.ok (.ret .none)) s') →
      codeAny (model prog w) A (.builtin "set.update.loop" ⟨[.ref S, .ref it], []⟩) R s := by
  have outW : S ∉ wr := fun z => out (W.sub _ z)
  have wrS : ∀ b ∈ wr, b ∈ S :: wr := fun b z => List.mem_cons_of_mem _ z
  intro left
  induction left with
  | zero =>
    intro i s hi st set fin
    obtain rfl : i = n := by omega
    apply codeAny_builtin PyProof.Rows.F.entry_set_update_loop
    rw [Around.under_plainId PyProof.Rows.F.plain_set_update_loop _]
    show wpAny _ A.in1 (pyNext (.ref it) >>= _) _ _ s
    apply wpAny_bind
    apply W.done s _ _ st
    intro s' mv
    show wpAny _ A.in1 (ret Value.none) _ _ s'
    apply wpAny_pure
    apply fin s' (mv.mono wrS)
    rw [← len, List.take_length] at set
    obtain ⟨o, es, ep, tb, ho, more⟩ := set
    exact ⟨o, es, ep, tb, mv.heap S _ outW ho, more⟩
  | succ left ih =>
    intro i s hi st set fin
    have lt : i < n := by omega
    apply codeAny_builtin PyProof.Rows.F.entry_set_update_loop
    rw [Around.under_plainId PyProof.Rows.F.plain_set_update_loop _]
    show wpAny _ A.in1 (pyNext (.ref it) >>= _) _ _ s
    apply wpAny_bind
    apply W.item i s _ _ lt st
    intro v s1 pv st1 mv
    obtain ⟨x, t, hx, rfl⟩ := vals i v pv
    have set1 : s1.heap.SetOf (PySem.strKind prog w) S (fun k => (uniqS (xs.take i)).any (· == k)) (uniqS (xs.take i)).length := by
      obtain ⟨o, es, ep, tb, ho, more⟩ := set
      exact ⟨o, es, ep, tb, mv.heap S _ outW ho, more⟩
    show wpAny _ A.in1 (holding [Value.str x t] (setAdd S (.str x t)) >>= _) _ _ s1
    apply wpAny_bind
    apply wpAny_holding
    unfold setAdd
    apply wpAny_holding
    apply wpAny_bind
    apply (PySem.strKind prog w).pyHash (k := x) (strKind_is _ _ _ _)
    have few : (uniqS (xs.take i)).length + 1 < scanBound := by
      have l1 := uniqS_le (xs.take i) []
      have l2 : (xs.take i).length ≤ i := List.length_take_le i xs
      show ((xs.take i).foldl ddS []).length + 1 < scanBound
      simp only [List.length_nil] at l1
      omega
    have tk : uniqS (xs.take (i + 1)) = ddS (uniqS (xs.take i)) x := by
      rw [List.take_add_one, hx]
      exact uniqS_snoc _ _
    apply wpAny_setAddHashed_of (knd := PySem.strKind prog w) (s := { s1 with toks := s1.toks + 1 }) (strKind_is _ _ _ _) rfl set1 few
    intro h' sb set2
    have set3 : h'.SetOf (PySem.strKind prog w) S (fun k => (uniqS (xs.take (i + 1))).any (· == k)) (uniqS (xs.take (i + 1))).length :=
      SetOf_congr set2 (fun k => by rw [tk, ddS_any]) (by rw [tk, ddS_len])
    apply wpAny_pure
    refine ⟨plainId_quiet PyProof.Rows.F.plain_set_update_loop _, ih (i + 1) _ (by omega) ?_ set3 fun s2 mv2 set4 => fin s2 ?_ set4⟩
    · apply W.frame _ s1 _ _ st1 (Nat.le_succ _)
      intro b hb o e
      rw [sb.2 b fun (z : b = S) => out (by rw [← z]; exact hb)]
      exact e
    · apply Moved.trans W.gtrans _ mv2
      apply (mv.mono wrS).then_heap (Nat.le_succ _)
      intro b o hb e
      rw [sb.2 b fun (z : b = S) => hb (by rw [z]; exact List.mem_cons_self ..)]
      exact e
end
theorem strs_of : ∀ {xs : List Str} {us : List Value}, Vals (xs.map V.str) us → ∀ (i : Nat) (v : Value), us[i]? = some v → ∃ x t, xs[i]? = some x ∧ v = Value.str x t
  | [], _, .nil, i, v, h => by simp at h
  | x :: xs, _, .cons r t, 0, v, h => by
    cases Option.some.inj h
    obtain ⟨k, rfl⟩ := r
    exact ⟨x, k, rfl, rfl⟩
  | x :: xs, _, .cons r t, i + 1, v, h => strs_of t i v (by simpa using h)

set_option maxHeartbeats 6400000 in
theorem set_of_list {prog : Program} {w : World} {A : Around} {E : Value → Shared → Prop} {s : Shared} {q : Addr} {its : Array Value} {xs : List Str} {Q : Value → Shared → Prop}
    (calm : A.handled = none) (at_ : s.heap.IsList q its) (vals : ∀ (i : Nat) (v : Value), its[i]? = some v → ∃ x t, xs[i]? = some x ∧ v = Value.str x t) (len : xs.length = its.size) (room : xs.length + 1 < scanBound)
    (k : ∀ (h' : Heap) (tk : Nat), h'.SetOf (PySem.strKind prog w) s.heap.objs.size (fun y => (uniqS xs).any (· == y)) (uniqS xs).length →
      (∀ b o, b < s.heap.objs.size → s.heap.get? b = some o → h'.get? b = some o) → Q (.ref s.heap.objs.size) { s with heap := h', toks := tk }) :
    wpAny (model prog w) A (call (.type "set") [.ref q]) Q E s := by
  have ⟨c, tl, mro⟩ := PySem.F.called_set.mro
  have m1 := PySem.F.called_set.made
  have m2 := PySem.F.called_set.sub
  apply wpAny_call
  apply codeAny_of_tree
  show wpAny _ _ (callAny (.type "set") _) _ _ _
  apply wpAny_pure
  refine ⟨Code.quiet_builtin _ (by decide +kernel), ?_⟩
  apply codeAny_builtin PySem.F.entry_type_call
  rw [Around.under_plain (weight_type_call_type "set" [.ref q] []) rfl]
  have m3 := PySem.F.called_set.notType
  have m4 := PySem.F.called_set.canCreate
  have m5 := PySem.F.typeCall_set_1 (.ref q)
  repeat (any_goals (first | wp_step | assumption))
  apply codeAny_mono
  · exact code_set_new_1 (.ref q) (E := E) (Q₁ := fun ob t => ∃ led : Bool,
      ob = .ref s.heap.objs.size ∧ t = { s with heap := s.heap.push { cls := .type "set", dict := none, data := .set #[] 0 (.fresh 0 0 led) } })
      fun led => ⟨led, rfl, rfl⟩
  intro r1 t1 hr
  match r1, hr with
  | .error e, hr => exact hr
  | .ok (.ret ob), hr =>
    obtain ⟨led, rfl, rfl⟩ := hr
    have gS : (s.heap.push { cls := .type "set", dict := none, data := .set #[] 0 (.fresh 0 0 led) }).get? s.heap.objs.size = some { cls := .type "set", dict := none, data := .set #[] 0 (.fresh 0 0 led) } :=
      Heap.get?_push_size _ rfl
    have tS : Shared.TypeIs { s with heap := s.heap.push { cls := .type "set", dict := none, data := .set #[] 0 (.fresh 0 0 led) } } (.ref s.heap.objs.size) "set" := ⟨_, gS, rfl⟩
    have n1 := PySem.F.called_set.init.lookup
    have n2 := PySem.F.called_set.init.bind (.ref s.heap.objs.size)
    repeat (any_goals (first | wp_step | assumption))
    apply codeAny_mono
    · apply codeAny_call_builtin (R := wants (fun r t => r = .none ∧ ∃ h' tk, t = { s with heap := h', toks := tk } ∧
          h'.SetOf (PySem.strKind prog w) s.heap.objs.size (fun y => (uniqS xs).any (· == y)) (uniqS xs).length ∧
          ∀ b o, b < s.heap.objs.size → s.heap.get? b = some o → h'.get? b = some o) E)
        PySem.F.called_set.init.plain PySem.F.entry_set_init
      apply check_set_init_1 tS
      obtain ⟨oq, gq, cq, nq, dq⟩ := at_
      obtain ⟨oc, od, dat, sl⟩ := oq
      dsimp only at cq dq
      subst cq dq
      have gq' : (s.heap.push { cls := .type "set", dict := none, data := .set #[] 0 (.fresh 0 0 led) }).get? q = some { cls := .type "list", dict := od, data := .seq its nq, slots := sl } :=
        Heap.get?_push_of_some _ gq
      have u1 := PySem.F.sub_list_set
      have u2 := PySem.F.sub_list_frozenset
      have u3 : (Value.type "list" == Value.type "dict") = false := by decide
      have at2 : (s.heap.push { cls := .type "set", dict := none, data := .set #[] 0 (.fresh 0 0 led) }).IsList q its :=
        ⟨_, gq', rfl, nq, rfl⟩
      unfold Builtin.«set.__init__» noKeywords
      unfold Builtin.Frozenset.updateFrom
      generalize ePI : pyIter = PIt
      wp_walk
      subst ePI
      apply wpAny_pyIter_list at2
      apply wpAny_bind
      apply wpAny_runValue
      have qlt : q < s.heap.objs.size := Heap.lt_size gq
      have calm3 : A.in1.in1.in1.handled = none := by simp [calm]
      have sz := Heap.size_push s.heap { cls := .type "set", dict := none, data := .set #[] 0 (.fresh 0 0 led) }
      have qne : q ≠ (s.heap.push { cls := .type "set", dict := none, data := .set #[] 0 (.fresh 0 0 led) }).objs.size := by
        rw [Heap.size_push]
        exact Nat.ne_of_lt (Nat.lt_succ_of_lt qlt)
      have nS : s.heap.objs.size ∉ [(s.heap.push { cls := .type "set", dict := none, data := .set #[] 0 (.fresh 0 0 led) }).objs.size, q] := by
        simp only [List.mem_cons, List.not_mem_nil, or_false, not_or]
        rw [Heap.size_push]
        exact ⟨Nat.ne_of_lt (Nat.lt_succ_self _), Nat.ne_of_gt qlt⟩
      apply strs_loop ((Walks.list calm3 _ q qne its).toS) nS xs len (by rw [← len]; exact room) vals its.size 0
      · omega
      · exact ⟨⟨_, Heap.get?_push_size _ rfl, rfl, rfl⟩, at2.push _⟩
      · have g2 := Heap.get?_push_of_some { cls := .type "list_iterator", data := .fields #[.ref q, .int 0 0] } gS
        exact SetOf_congr ((setObjOf_fresh (knd := PySem.strKind prog w) led).setOf g2 (by unfold scanBound; omega)) (fun _ => rfl) rfl
      · intro t2 mv set2
        obtain ⟨h2, g2, d2, k2, o2⟩ := t2
        cases (show g2 = s.gens from mv.gens)
        cases (show d2 = s.drawn from mv.drawn)
        cases (show o2 = s.os from mv.os)
        show wpAny _ _ _ _ _ _
        apply wpAny_pure
        show wpAny _ _ (ret Value.none) _ _ _
        apply wpAny_pure
        refine ⟨rfl, h2, k2, rfl, set2, ?_⟩
        intro b o hb e
        apply mv.heap b o
        · simp only [List.mem_cons, List.not_mem_nil, or_false, not_or]
          refine ⟨Nat.ne_of_lt hb, ?_⟩
          rw [Heap.size_push]
          exact Nat.ne_of_lt (Nat.lt_succ_of_lt hb)
        · exact Heap.get?_push_of_some _ (Heap.get?_push_of_some _ e)
    · intro r2 t2 hr2
      match r2, hr2 with
      | .error e, hr2 => exact hr2
      | .ok (.ret v), hr2 =>
        obtain ⟨rfl, h2, k2, rfl, set2, old⟩ := hr2
        repeat (any_goals (first | wp_step | assumption))
        exact k _ _ set2 old

set_option maxHeartbeats 6400000 in
theorem set_of_tup {prog : Program} {w : World} {A : Around} {E : Value → Shared → Prop} {s : Shared} {q : Addr} {its : Array Value} {xs : List Str} {Q : Value → Shared → Prop}
    (calm : A.handled = none) (at_ : s.heap.IsTuple q its) (vals : ∀ (i : Nat) (v : Value), its[i]? = some v → ∃ x t, xs[i]? = some x ∧ v = Value.str x t) (len : xs.length = its.size) (room : xs.length + 1 < scanBound)
    (k : ∀ (h' : Heap) (tk : Nat), h'.SetOf (PySem.strKind prog w) s.heap.objs.size (fun y => (uniqS xs).any (· == y)) (uniqS xs).length →
      (∀ b o, b < s.heap.objs.size → s.heap.get? b = some o → h'.get? b = some o) → Q (.ref s.heap.objs.size) { s with heap := h', toks := tk }) :
    wpAny (model prog w) A (call (.type "set") [.ref q]) Q E s := by
  have ⟨c, tl, mro⟩ := PySem.F.called_set.mro
  have m1 := PySem.F.called_set.made
  have m2 := PySem.F.called_set.sub
  apply wpAny_call
  apply codeAny_of_tree
  show wpAny _ _ (callAny (.type "set") _) _ _ _
  apply wpAny_pure
  refine ⟨Code.quiet_builtin _ (by decide +kernel), ?_⟩
  apply codeAny_builtin PySem.F.entry_type_call
  rw [Around.under_plain (weight_type_call_type "set" [.ref q] []) rfl]
  have m3 := PySem.F.called_set.notType
  have m4 := PySem.F.called_set.canCreate
  have m5 := PySem.F.typeCall_set_1 (.ref q)
  repeat (any_goals (first | wp_step | assumption))
  apply codeAny_mono
  · exact code_set_new_1 (.ref q) (E := E) (Q₁ := fun ob t => ∃ led : Bool,
      ob = .ref s.heap.objs.size ∧ t = { s with heap := s.heap.push { cls := .type "set", dict := none, data := .set #[] 0 (.fresh 0 0 led) } })
      fun led => ⟨led, rfl, rfl⟩
  intro r1 t1 hr
  match r1, hr with
  | .error e, hr => exact hr
  | .ok (.ret ob), hr =>
    obtain ⟨led, rfl, rfl⟩ := hr
    have gS : (s.heap.push { cls := .type "set", dict := none, data := .set #[] 0 (.fresh 0 0 led) }).get? s.heap.objs.size = some { cls := .type "set", dict := none, data := .set #[] 0 (.fresh 0 0 led) } :=
      Heap.get?_push_size _ rfl
    have tS : Shared.TypeIs { s with heap := s.heap.push { cls := .type "set", dict := none, data := .set #[] 0 (.fresh 0 0 led) } } (.ref s.heap.objs.size) "set" := ⟨_, gS, rfl⟩
    have n1 := PySem.F.called_set.init.lookup
    have n2 := PySem.F.called_set.init.bind (.ref s.heap.objs.size)
    repeat (any_goals (first | wp_step | assumption))
    apply codeAny_mono
    · apply codeAny_call_builtin (R := wants (fun r t => r = .none ∧ ∃ h' tk, t = { s with heap := h', toks := tk } ∧
          h'.SetOf (PySem.strKind prog w) s.heap.objs.size (fun y => (uniqS xs).any (· == y)) (uniqS xs).length ∧
          ∀ b o, b < s.heap.objs.size → s.heap.get? b = some o → h'.get? b = some o) E)
        PySem.F.called_set.init.plain PySem.F.entry_set_init
      apply check_set_init_1 tS
      obtain ⟨oq, gq, cq, nq, dq⟩ := at_
      obtain ⟨oc, od, dat, sl⟩ := oq
      dsimp only at cq dq
      subst cq dq
      have gq' : (s.heap.push { cls := .type "set", dict := none, data := .set #[] 0 (.fresh 0 0 led) }).get? q = some { cls := .type "tuple", dict := od, data := .seq its nq, slots := sl } :=
        Heap.get?_push_of_some _ gq
      have u1 := PySem.F.sub_tuple_set
      have u2 := PySem.F.sub_tuple_frozenset
      have u3 : (Value.type "tuple" == Value.type "dict") = false := by decide
      have at2 : (s.heap.push { cls := .type "set", dict := none, data := .set #[] 0 (.fresh 0 0 led) }).IsTuple q its :=
        ⟨_, gq', rfl, nq, rfl⟩
      unfold Builtin.«set.__init__» noKeywords
      unfold Builtin.Frozenset.updateFrom
      generalize ePI : pyIter = PIt
      wp_walk
      subst ePI
      apply wpAny_pyIter_tuple at2
      apply wpAny_bind
      apply wpAny_runValue
      have qlt : q < s.heap.objs.size := Heap.lt_size gq
      have calm3 : A.in1.in1.in1.handled = none := by simp [calm]
      have sz := Heap.size_push s.heap { cls := .type "set", dict := none, data := .set #[] 0 (.fresh 0 0 led) }
      have qne : q ≠ (s.heap.push { cls := .type "set", dict := none, data := .set #[] 0 (.fresh 0 0 led) }).objs.size := by
        rw [Heap.size_push]
        exact Nat.ne_of_lt (Nat.lt_succ_of_lt qlt)
      have nS : s.heap.objs.size ∉ [(s.heap.push { cls := .type "set", dict := none, data := .set #[] 0 (.fresh 0 0 led) }).objs.size, q] := by
        simp only [List.mem_cons, List.not_mem_nil, or_false, not_or]
        rw [Heap.size_push]
        exact ⟨Nat.ne_of_lt (Nat.lt_succ_self _), Nat.ne_of_gt qlt⟩
      apply strs_loop ((Walks.tuple calm3 _ q qne its).toS) nS xs len (by rw [← len]; exact room) vals its.size 0
      · omega
      · exact ⟨⟨_, Heap.get?_push_size _ rfl, rfl, rfl⟩, at2.push _⟩
      · have g2 := Heap.get?_push_of_some { cls := .type "tuple_iterator", data := .fields #[.ref q, .int 0 0] } gS
        exact SetOf_congr ((setObjOf_fresh (knd := PySem.strKind prog w) led).setOf g2 (by unfold scanBound; omega)) (fun _ => rfl) rfl
      · intro t2 mv set2
        obtain ⟨h2, g2, d2, k2, o2⟩ := t2
        cases (show g2 = s.gens from mv.gens)
        cases (show d2 = s.drawn from mv.drawn)
        cases (show o2 = s.os from mv.os)
        show wpAny _ _ _ _ _ _
        apply wpAny_pure
        show wpAny _ _ (ret Value.none) _ _ _
        apply wpAny_pure
        refine ⟨rfl, h2, k2, rfl, set2, ?_⟩
        intro b o hb e
        apply mv.heap b o
        · simp only [List.mem_cons, List.not_mem_nil, or_false, not_or]
          refine ⟨Nat.ne_of_lt hb, ?_⟩
          rw [Heap.size_push]
          exact Nat.ne_of_lt (Nat.lt_succ_of_lt hb)
        · exact Heap.get?_push_of_some _ (Heap.get?_push_of_some _ e)
    · intro r2 t2 hr2
      match r2, hr2 with
      | .error e, hr2 => exact hr2
      | .ok (.ret v), hr2 =>
        obtain ⟨rfl, h2, k2, rfl, set2, old⟩ := hr2
        repeat (any_goals (first | wp_step | assumption))
        exact k _ _ set2 old

/-- len(set(a)), a a list or tuple of texts -/
def tUniq (K : PySem.W.Frag) (ta : TE) : TE := fun σ H Q => ta σ H fun x H1 => ∃ q, ∃ xs : List Str,
  x = .ref q ∧ (SqL K H1 q (xs.map V.str) ∨ SqT K H1 q (xs.map V.str)) ∧ xs.length ≤ 4000 ∧ Q (.int (uniqS xs).length) H1
theorem pe_uniq {X : Cx} {a : Expr} {ta : TE} {p p2 q pos : Pos} (calm : X.calm = true) (g1 : Gl X "len") (m1 : X.mg "len" = none) (g2 : Gl X "set") (m2 : X.mg "set" = none) (ha : PE X a ta)
    (st : starEach [a] X.env = (false, eval a X.env) :: starEach [] X.env) : PE X (.Call (.Name "len" p) [.Call (.Name "set" p2) [a] [] q] [] pos) (tUniq X.K ta) := by
  constructor
  intro pins s σ H Q I h
  refine Call_ (ld_blt I g1 m1 boot_len (PyProof.Rows.callWith_builtin1 (PyProof.Rows.args_cons (Call_ (ld_blt I g2 m2 boot_set ?_)) rfl) rfl rfl))
  refine PyProof.Rows.callWith_type1 (PyProof.Rows.args_cons (thn (ha.run pins s σ H _ I h) ?_) st) st rfl
  intro v s1 ⟨x, H1, I1, r1, l, xs, ex, hq, few, q1⟩
  refine PyProof.Rows.args_nil ?_
  subst ex
  cases r1
  have room : xs.length + 1 < scanBound := by unfold scanBound; omega
  have last : ∀ (h' : Heap) (tk : Nat), h'.SetOf (PySem.strKind X.prog X.w) s1.heap.objs.size (fun y => (uniqS xs).any (· == y)) (uniqS xs).length →
      (∀ b o, b < s1.heap.objs.size → s1.heap.get? b = some o → h'.get? b = some o) →
      wpAny (model X.prog X.w) X.A (spliced (backTo pos (starEach [] X.env))) (fun vs t => wpAny (model X.prog X.w) X.A
        (call (.builtin "len") (Value.ref s1.heap.objs.size :: vs)) (EP X pins σ Q) X.xe t) X.xe { s1 with heap := h', toks := tk } := by
    intro h' tk set old
    apply PyProof.Rows.args_nil
    have ul : (uniqS xs).length ≤ xs.length := by
      have l1 : (uniqS xs).length ≤ ([] : List Str).length + xs.length := uniqS_le xs []
      simpa using l1
    obtain ⟨o, es, ep, t, ho, hex, hd, _, _, _, hf, hn⟩ := set
    have I2 : Inv X pins σ H1 { s1 with heap := h', toks := tk } := I1.kept fun b o e => old b o (Heap.lt_size e) e
    refine call_len_set ho hex hd hf (by rw [hn]; omega) ?_
    exact ⟨.int (uniqS xs).length, H1, I2.tok _, ⟨_, by rw [hn]⟩, q1⟩
  cases hq with
  | inl hq =>
    obtain ⟨its, r, pl, hz⟩ := I1.list hq
    have ln : xs.length = its.toArray.size := by
      have := r.length
      simpa using this
    exact set_of_list (I1.ok.hd calm) pl.isList (fun i v e => strs_of r i v (by simpa using e)) ln room last
  | inr hq =>
    obtain ⟨its, r, pl, hz⟩ := I1.tuple hq
    have ln : xs.length = its.toArray.size := by
      have := r.length
      simpa using this
    exact set_of_tup (I1.ok.hd calm) pl (fun i v e => strs_of r i v (by simpa using e)) ln room last
end Kd


set_option Elab.async false
set_option linter.all false
set_option maxRecDepth 100000
set_option maxHeartbeats 8000000
namespace Kd
open PySem PySem.Spec PyProof.Rows L2
theorem upd_self {H : Hp} {a : Addr} {o : HO} (h : H a = some o) : upd H a o = H := by
  funext b
  by_cases z : b = a
  · subst z; rw [upd_same, h]
  · rw [upd_ne z]
theorem Rel.touch {K : PySem.W.Frag} {p : Option Addr} {B0 H0 B H : Hp} {σ : L2.St} {st : S} (R : Rel K p B0 H0 B H σ st) {a : Addr} {o : HO} (h0 : H0 a = none) (hp : p ≠ some a) (hb : B a = none)
    (hn : ∀ (i : Nat) ds, st.δ[i]? = some (SD.own ds) → σ[i]? ≠ some (some (V.ref a))) : Rel K p B0 H0 B (upd H a o) σ st := by
  refine ⟨fun b u n h => ?_, fun b u h => ?_, R.up, R.new, R.pn, R.h0, R.len, R.sl, R.pen.mono (Same.refl _) fun b e => ?_, R.pv, fun i ds h => ?_, R.dj⟩
  · rw [upd_ne (ne_of_none h h0)]; exact R.fr b u n h
  · rw [upd_ne (ne_of_none h hb)]; exact R.ext _ _ h
  · exact upd_ne (fun (z : b = a) => hp (by rw [← z]; exact e))
  · obtain ⟨l, xs, h1, h2, h3⟩ := R.ow i ds h
    have nl : l ≠ a := fun z => hn i ds h (by rw [h1, z])
    exact ⟨l, xs, h1, by rw [upd_ne nl]; exact h2, h3⟩
section
variable {Γ : Gam} {F : Fns} {N : List Str} {k : Nat} {sc : Scope}
theorem ok_blk {X : Cx} (ok : Ok Γ F N k X) {s : Shared} {H : Hp} {scope : Scope} {cenv : Env} {fp : List Addr} : Ok Γ F N k (X.blk s H scope cenv fp) :=
  ⟨ok.hN, ok.calm, ok.nd, ok.room, ok.gd, ok.bl, ok.gl, ok.fn, ok.pf, ok.at_, ok.ic, ok.ox⟩
/-- a comprehension's element, in any block -/
def teB (X : Cx) (scope : Scope) (elt : Expr) : TE := fun σ H Q => ∀ (s : Shared) (H' : Hp) (C : Addr) (cl : List (Str × Addr)) (fp : List Addr), wE (X.blk s H' scope (compEnvC scope cl C X.env) fp) elt σ H Q
theorem hush2 {st : S} {π : Option Pen} : (⟨st.hush.δ, π⟩ : S).hush = ⟨st.hush.δ, π⟩ := by
  have e : (st.hush.δ).map hushD = st.hush.δ := by
    show (st.δ.map hushD).map hushD = st.δ.map hushD
    rw [List.map_map]
    congr 1
    funext x
    cases x <;> rfl
  show (⟨(st.hush.δ).map hushD, π⟩ : S) = _
  rw [e]
theorem comp_readO {scope : Scope} {i : Nat} {x : Str} {elt iter : Expr} {p : Pos} {ce : C} {ci : Ci} (hi : SndI Γ F N k sc iter ci) (he : SndE Γ F N k (relS scope sc) elt ce)
    {X : Cx} (ok : Ok Γ F N k X) (hs : X.env.scope = sc) {p0 B0 H0 B H σ st xs st1 ds π} (R : Rel X.K p0 B0 H0 B H σ st) (e1 : evalI F ci st = some (xs, st1)) (hz : small xs.length = true) (e2 : compLoop (evalE F ce) i xs st1.hush = some (ds, π))
    {Q : VK} (q : ∀ D acc B' H', Rel X.K p0 B0 H0 B' H' σ ⟨st1.δ, π⟩ → Same B B' → H' D = some (.lst acc) → B' D = none → H0 D = none → p0 ≠ some D → (∀ (j : Nat) es, st1.δ[j]? = some (SD.own es) → σ[j]? ≠ some (some (V.ref D))) → DvL X.K B' acc ds → Q (.ref D) H') :
    tLc (wI X (.Name x p) iter) (gName i) tYes (teB X scope elt) [i] σ H Q := by
  refine hi X ok hs _ _ _ _ _ _ _ _ _ R e1 _ _ fun J B1 H1 G Y R1 s1 W hG hY => ?_
  intro D hD
  obtain ⟨f1, f2, f3⟩ := R1.free hD
  refine lc_it W (fun j H' => ∃ B' acc dn rs πj, Rel X.K p0 B1 H1 B' H' σ ⟨st1.hush.δ, πj⟩ ∧ B' D = none ∧ H' D = some (.lst acc) ∧ DvL X.K B' acc dn ∧ dn.length = j ∧ compLoop (evalE F ce) i (xs.drop j) ⟨st1.hush.δ, πj⟩ = some (rs, π) ∧ ds = dn ++ rs)
    ⟨B1, [], [], ds, st1.π, (R1.here).touch hD f2 f3 (fun _ _ h => (hush_own h).elim), f3, upd_same, .nil, rfl, e2, rfl⟩ (fun j H' _ ⟨B', _, _, _, _, Rj, _⟩ => hG _ (Rj.up.trans Rj.ext)) ?_ ?_
  · rintro j y H2 H3 hj ⟨B', acc, dn, rs, πj, Rj, bD, hD2, da, dl, ev2, hds⟩ hy
    obtain ⟨dy, g1, rfl, g2⟩ := hY j H2 y H3 hj (Rj.up.trans Rj.ext) hy
    have hxs : xs.drop j = dy :: xs.drop (j + 1) := by
      obtain ⟨l, e⟩ := List.getElem?_eq_some_iff.mp g1
      rw [List.drop_eq_getElem_cons l, e]
    rw [hxs] at ev2
    simp only [compLoop] at ev2
    split at ev2
    · rename_i dv stv e3
      split at ev2
      · rename_i rs' π'' e4
        obtain ⟨rfl, rfl⟩ := some2 ev2
        have hw : (wipe σ [i]).set i (some y) = σ.set i (some y) := by
          show (σ.set i none).set i (some y) = _
          rw [List.set_set]
        show wipe ((wipe σ [i]).set i (some y)) [i] = wipe σ [i] ∧ teB X scope elt ((wipe σ [i]).set i (some y)) H3 _
        refine ⟨by rw [hw]; show (σ.set i (some y)).set i none = σ.set i none; rw [List.set_set], ?_⟩
        rw [hw]
        intro s0 H4 C0 cl0 fp0
        have Rp : Rel X.K p0 B' H3 B' H3 (σ.set i (some y)) ((⟨st1.hush.δ, πj⟩ : S).set i dy) := (hush2 (st := st1) ▸ Rj.here).put (g2.mono Rj.up)
        refine he (X.blk s0 H4 scope (compEnvC scope cl0 C0 X.env) fp0) (ok_blk ok) (by show relS scope X.env.scope = _; rw [hs]) _ _ _ _ _ _ _ _ _ Rp e3 _ fun v B5 H5 R5 s5 d5 => ?_
        have hD5 : H5 D = some (.lst acc) := R5.fr D _ f2 hD2
        have bD5 : B5 D = none := by
          cases z : B5 D with
          | none => rfl
          | some o =>
            rcases R5.new D o z with ⟨o', z'⟩ | z'
            · rw [bD] at z'; cases z'
            · rw [hD2] at z'; cases z'
        have Rn : Rel X.K p0 B1 H1 B5 H5 σ ⟨st1.hush.δ, stv.π⟩ := Rj.back (Same.refl _) R5
        refine ⟨acc, hD5, ?_, B5, acc ++ [v], dn ++ [dv], rs', stv.π, Rn.touch hD f2 bD5 (fun _ _ h => (hush_own h).elim), bD5, upd_same, (da.mono s5).append (.cons d5 .nil), by rw [List.length_append, dl] <;> rfl, e4, by rw [hds, List.append_assoc] <;> rfl⟩
        have := small_lt hz
        have := da.length
        omega
      · cases ev2
    · cases ev2
  · rintro H2 ⟨B', acc, dn, rs, πj, Rj, bD, hD2, da, dl, ev2, hds⟩
    rw [List.drop_length] at ev2
    simp only [compLoop] at ev2
    obtain ⟨rfl, rfl⟩ := some2 ev2
    rw [List.append_nil] at hds
    subst hds
    exact q D acc B' H2 (R1.back (Same.refl _) Rj) (s1.trans Rj.up) hD2 bD f1 f2 (R1.nown hD) da

theorem comp_read {scope : Scope} {i : Nat} {x : Str} {elt iter : Expr} {p : Pos} {ce : C} {ci : Ci} (hi : SndI Γ F N k sc iter ci) (he : SndE Γ F N k (relS scope sc) elt ce)
    {X : Cx} (ok : Ok Γ F N k X) (hs : X.env.scope = sc) {p0 B0 H0 B H σ st d st'} (R : Rel X.K p0 B0 H0 B H σ st) (ev : evalE F (.comp ce i ci) st = some (d, st'))
    {Q : VK} (q : ∀ v B' H', Rel X.K p0 B0 H0 B' H' σ st' → Same B B' → Dv X.K B' v d → Q v H') : tLc (wI X (.Name x p) iter) (gName i) tYes (teB X scope elt) [i] σ H Q := by
  simp only [evalE] at ev
  split at ev
  · rename_i xs st1 e1
    split at ev
    · rename_i hz
      split at ev
      · rename_i ds π e2
        obtain ⟨rfl, rfl⟩ := some2 ev
        refine comp_readO hi he ok hs R e1 hz e2 fun D acc B' H2 R2 s2 hD2 bD f1 f2 nD da => ?_
        have Rf := R2.fin (o := .lst acc) f1 f2 bD nD
        rw [upd_self hD2] at Rf
        have sb : Same B' (upd B' D (.lst acc)) := same_upd bD
        exact q (.ref D) _ _ Rf (s2.trans sb) (.lst upd_same (da.mono sb))
      · cases ev
    · cases ev
  · cases ev
theorem snd_comp {scope : Scope} {i : Nat} {x : Str} {elt iter : Expr} {p pos : Pos} {ce : C} {ci : Ci} (hi : SndI Γ F N k sc iter ci) (hb : BlkOk N sc scope [(x, i)]) (hx : N[i]? = some x) (hl : (relS scope sc).names.lookup x = some .local) (he : SndE Γ F N k (relS scope sc) elt ce)
    (hst : ∀ env v, foldedSetIterable iter env v = pure v) : SndE Γ F N k sc (.ListComp elt [⟨.Name x p, iter, [], 0⟩] scope pos) (.comp ce i ci) := by
  intro X ok hs p0 B0 H0 B H σ st d st' R ev Q q
  exact w_pe (pe_lc (X := X) (own := [(x, i)]) (g := gName i) (tt := tYes) (te := teB X scope elt) (tg := .Name x p) (pos := pos) ok.calm (by rw [ok.hN]; exact ok.nd) (pi_w (X := X) (tg := .Name x p) (it := iter)) (by rw [ok.hN, hs]; exact hb)
    (fun s H' C cl fp => pg_name (by show X.N.Nodup; rw [ok.hN]; exact ok.nd) (by show X.N[i]? = _; rw [ok.hN]; exact hx) (.inl (by show (relS scope X.env.scope).names.lookup x = _; rw [hs]; exact hl)) (.inr (by show (relS scope X.env.scope).names.lookup x = _; rw [hs]; exact hl)))
    (fun _ _ _ _ _ => pts_nil) (fun s H' C cl fp => ⟨fun pins s' σ' H'' Q' I h => h s H' C cl fp pins s' I⟩) (fun v => hst X.env v)) (comp_read hi he ok hs R ev q)

theorem strs_dv {K : PySem.W.Frag} {B : Hp} : ∀ {vs : List V} {ds : List PyData} {ss : List Str}, DvL K B vs ds → strsD ds = some ss → vs = ss.map V.str
  | _, _, _, .nil, h => by cases h; rfl
  | _, _, ss, .cons h r, q => by
    cases h <;> first
      | cases q
      | (simp only [strsD, Option.map_eq_some_iff] at q
         obtain ⟨ss', h1, h2⟩ := q
         subst h2
         rw [strs_dv r h1]
         rfl)
theorem snd_lset {a : Expr} {p p2 q pos : Pos} {ca : C} (ha : SndE Γ F N k sc a ca) (h1 : Pl sc "len") (h2 : ("len" : Str) ∈ Γ.bs) (h3 : Pl sc "set") (h4 : ("set" : Str) ∈ Γ.bs) (hst : ∀ env, starEach [a] env = (false, eval a env) :: starEach [] env) :
    SndE Γ F N k sc (.Call (.Name "len" p) [.Call (.Name "set" p2) [a] [] q] [] pos) (.lset ca) := by
  intro X ok hs p B0 H0 B H σ st d st' R ev Q q
  simp only [evalE] at ev
  split at ev
  · rename_i x st1 e1
    split at ev
    · rename_i z e2
      obtain ⟨rfl, rfl⟩ := some2 ev
      refine w_pe (pe_uniq ok.calm (gl_of hs h1) (ok.bl _ h2) (gl_of hs h3) (ok.bl _ h4) pe_w (hst X.env)) ?_
      refine ha X ok hs _ _ _ _ _ _ _ _ _ R e1 _ fun v B1 H1 R1 s1 dv => ?_
      unfold lsetD at e2
      split at e2
      · split at e2
        · rename_i ss e3
          obtain ⟨hl, rfl⟩ := ite_some e2
          obtain ⟨q1, vs, rfl, hq, r⟩ := lst_dv dv
          rw [strs_dv r e3] at hq
          exact ⟨q1, ss, rfl, .inl (.of (R1.ext _ _ hq)), hl, q _ B1 H1 R1 s1 (.int _)⟩
        · cases e2
      · split at e2
        · rename_i ss e3
          obtain ⟨hl, rfl⟩ := ite_some e2
          obtain ⟨q1, vs, rfl, hq, r⟩ := tup_dv dv
          rw [strs_dv r e3] at hq
          exact ⟨q1, ss, rfl, .inr (same_t R1.ext hq), hl, q _ B1 H1 R1 s1 (.int _)⟩
        · cases e2
      · cases e2
    · cases ev
  · cases ev
mutual
theorem sound : ∀ {sc : Scope} {e : Expr} {c : C}, Cor Γ N sc e c → SndE Γ F N k sc e c
  | _, _, _, .var h hv h1 h2 => snd_var h hv h1 h2
  | _, _, _, .int => snd_cst (fun _ => pe_int) fun _ _ => .int _
  | _, _, _, .bl => snd_cst (fun _ => pe_bl) fun _ _ => .bl _
  | _, _, _, .non => snd_cst (fun _ => pe_non) fun _ _ => .non
  | _, _, _, .str => snd_cst (fun _ => pe_str) fun _ _ => .str _
  | _, _, _,   .glb i h hm h1 => snd_glb h hm h1
  | _, _, _, .one ha => snd_one (sound ha)
  | _, _, _, .and_ ha hb => snd_and (sound ha) (sound hb)
  | _, _, _, .or_ ha hb => snd_or (sound ha) (sound hb)
  | _, _, _, .not_ ha => snd_not (sound ha)
  | _, _, _, .ite ht ha hb => snd_ite (soundT ht) (sound ha) (sound hb)
  | _, _, _, .bin ha hb => snd_bin (sound ha) (sound hb)
  | _, _, _, .cat ha hb => snd_cat (sound ha) (sound hb)
  | _, _, _, .neg ha => snd_neg (sound ha)
  | _, _, _, .cmp ha hb hm => snd_cmp (sound ha) (sound hb) hm
  | _, _, _, .chain ha hb hc hm => snd_chain (sound ha) (sound hb) (sound hc) hm
  | _, _, _, .tup h => snd_tup (soundL h)
  | _, _, _, .lst h => snd_lst (soundL h)
  | _, _, _, .dct1 h => snd_dct1 (sound h)
  | _, _, _, .isi1 ha h1 h2 h3 h4 h5 h6 h7 hs => snd_isi1 (sound ha) h1 h2 h3 h4 h5 h6 h7 hs
  | _, _, _, .isi2 ha h1 h2 h3 h4 h5 h6 h7 g3 g4 g5 g6 g7 hs => snd_isi2 (sound ha) h1 h2 h3 h4 h5 h6 h7 g3 g4 g5 g6 g7 hs
  | _, _, _, .call (x := x) (n := n) (pm := pm) he h hn h1 h2 => snd_call (e := ⟨x, n, [], pm⟩) he h (soundL h) hn rfl h1 h2
  | _, _, _, .callK (x := x) (ks := ks) (pm := pm) he hv h hk h1 h2 => snd_callK (e := ⟨x, 0, ks, pm⟩) he hv h (soundL h) rfl hk h1 h2
  | _, _, _, .pcall hx hy hv h h1 h2 h3 h4 => snd_pcall hx hy hv h (soundL h) h1 h2 h3 h4
  | _, _, _, .bltF hb ha h1 h2 h3 h4 h5 hs => snd_bltF hb (sound ha) h1 h2 h3 h4 h5 hs
  | _, _, _, .bltT hb ha h1 h2 h3 h4 h5 hs => snd_bltT hb (sound ha) h1 h2 h3 h4 h5 hs
  | _, _, _, .comp hi hb hx hl he hs => snd_comp (soundI hi) hb hx hl (sound he) hs
  | _, _, _, .sub ha hi hs => snd_sub (sound ha) (sound hi) hs
  | _, _, _, .upto ha hn => snd_upto (sound ha) (sound hn)
  | _, _, _, .attr ha hm hb => snd_attr (sound ha) hm hb
  | _, _, _, .rep ha hb => snd_rep (sound ha) (sound hb)
  | _, _, _, .op h hs hl => snd_op h hs (soundL hl)
  | _, _, _, .isc ha h1 h2 h3 h7 hm hs => snd_isc (sound ha) h1 h2 h3 h7 hm hs
  | _, _, _, .lset ha h1 h2 h3 h4 hs => snd_lset (sound ha) h1 h2 h3 h4 hs
  | _, _, _, .lenO hx hv h3 h4 h1 h2 => snd_lenO hx hv h3 h4 h1 h2
  | _, _, _, .neO hx hv h3 h4 => snd_neO hx hv h3 h4
  | _, _, _, .popO hx hv h3 h4 he hl hs => snd_popO hx hv h3 h4 (sound he) hl hs
  | _, _, _, .frz hx hv h3 h4 => snd_frz hx hv h3 h4
  | _, _, _, .penG hx hv h3 h4 hk => snd_penG hx hv h3 h4 hk
  | _, _, _, .penAt hx hv h3 h4 he hp => snd_penAt hx hv h3 h4 (sound he) hp
  | _, _, _, .penLen hx hv h3 h4 h1 h2 => snd_penLen hx hv h3 h4 h1 h2
theorem soundT : ∀ {sc : Scope} {e : Expr} {c : C}, CorT Γ N sc e c → SndT Γ F N k sc e c
  | _, _, _, .val h he => snd_val (sound h) he
  | _, _, _, .not_ ha => snd_notT (soundT ha)
  | _, _, _, .cmp ha hb hm => snd_cmpT (sound ha) (sound hb) hm
  | _, _, _, .chain ha hb hc hm => snd_chainT (sound ha) (sound hb) (sound hc) hm
  | _, _, _, .bool h => snd_boolT (soundW h)
  | _, _, _, .neO hx hv h3 h4 => snd_neOT hx hv h3 h4
  | _, _, _, .penNe hx hv h3 h4 => snd_penNeT hx hv h3 h4
  | _, _, _, .op h hs hl => snd_opT h hs (soundL hl)
theorem soundW : ∀ {sc : Scope} {e : Expr} {c : C}, CorW Γ N sc e c → SndW Γ F N k sc e c
  | _, _, _, .one ha => snd_oneW (soundT ha)
  | _, _, _, .and_ ha hb => snd_andW (soundT ha) (soundW hb)
  | _, _, _, .or_ ha hb => snd_orW (soundT ha) (soundW hb)
theorem soundL : ∀ {sc : Scope} {es : List Expr} {cs : Cs}, CorL Γ N sc es cs → SndL Γ F N k sc es cs
  | _, _, _, .nil => snd_nilL
  | _, _, _, .cons h r hs => snd_consL (sound h) (soundL r) hs
theorem soundI : ∀ {sc : Scope} {e : Expr} {c : Ci}, CorI Γ N sc e c → SndI Γ F N k sc e c
  | _, _, _, .seq h => snd_seq (sound h)
  | _, _, _, .rng h h1 h2 hs => snd_rng (sound h) h1 h2 hs
end
end
end Kd


set_option Elab.async false
set_option linter.all false
set_option maxRecDepth 100000
set_option maxHeartbeats 8000000
namespace Kd
open PySem PySem.Spec PyProof.Rows L2

/-! ### statements -/
inductive CorO (Γ : Gam) (N : List Str) (sc : Scope) : Expr → Co → Prop
  | disp {es : List Expr} {pos : Pos} {cs : Cs} (h : CorL Γ N sc es cs) : CorO Γ N sc (.List es pos) (.disp cs)
  | lst {a : Expr} {p pos : Pos} {c : C} (h : Cor Γ N sc a c) (h1 : Pl sc "list") (h2 : ("list" : Str) ∈ Γ.bs) (hs : ∀ env, starEach [a] env = (false, eval a env) :: starEach [] env) : CorO Γ N sc (.Call (.Name "list" p) [a] [] pos) (.lst c)
mutual
inductive CorS (Γ : Gam) (N : List Str) (sc : Scope) : Stmt → Sd → Prop
  | asg {i : Nat} {x : Str} {e : Expr} {p pos : Pos} {c : C} (hx : N[i]? = some x) (hl : Loc sc x) (h : Cor Γ N sc e c) (hw : ∀ env, swapsWith e (some (.Name x p)) pos.line env = pure false) : CorS Γ N sc (.Assign [.Name x p] e pos) (.asg i c)
  | asgLc {scope : Scope} {i j : Nat} {x y : Str} {elt iter : Expr} {p p2 pos pos2 : Pos} {ce : C} {ci : Ci} (hy : N[j]? = some y) (hyl : sc.names.lookup y = some .local) (hk : sc.kind = .function) (hln : (p2.line == pos.line) = true)
    (hany : (scope.names.any fun (n, k) => n == y && (k == .local || k == .cell)) = false)
    (hi : CorI Γ N sc iter ci) (hb : BlkOk N sc scope [(x, i)]) (hx : N[i]? = some x) (hl : (relS scope sc).names.lookup x = some .local) (he : Cor Γ N (relS scope sc) elt ce) (hs : ∀ env v, foldedSetIterable iter env v = pure v) :
    CorS Γ N sc (.Assign [.Name y p2] (.ListComp elt [⟨.Name x p, iter, [], 0⟩] scope pos) pos2) (.asg j (.comp ce i ci))
  | par {i j : Nat} {x y : Str} {a b : Expr} {px py pt pt2 pos : Pos} {kt k2 : Nat} {ca cb : C} (hi : N[i]? = some x) (hj : N[j]? = some y) (hij : i ≠ j) (hx : sc.names.lookup x = some .local) (hy : sc.names.lookup y = some .local) (ha : Cor Γ N sc a ca) (hb : Cor Γ N sc b cb)
    (hsa : ∀ env, starEach [a, b] env = (false, eval a env) :: starEach [b] env) (hsb : ∀ env, starEach [b] env = (false, eval b env) :: starEach [] env)
    (hw : ∀ env : Env, env.scope = sc → swappedStores [.Tuple [.Name x px, .Name y py] kt pt] (.Tuple [a, b] k2 pt2) env = pure (some [x, y]))
    (hs : ∀ env : Env, swapsWithSole [.Tuple [.Name x px, .Name y py] kt pt] (.Tuple [a, b] k2 pt2) pos.line env = pure false) : CorS Γ N sc (.Assign [.Tuple [.Name x px, .Name y py] kt pt] (.Tuple [a, b] k2 pt2) pos) (.par i j ca cb)
  | ret {e : Expr} {pos : Pos} {c : C} (h : Cor Γ N sc e c) : CorS Γ N sc (.Return (some e) pos) (.ret c)
  | ifs {t : Expr} {a b : List Stmt} {pos : Pos} {ct : C} {ca cb : Sds} (ht : CorT Γ N sc t ct) (ha : CorSs Γ N sc a ca) (hb : CorSs Γ N sc b cb) : CorS Γ N sc (.If t a b pos) (.ifs ct ca cb)
  | for_ {i : Nat} {x : Str} {it : Expr} {b : List Stmt} {p pos : Pos} {ci : Ci} {cb : Sds} (hx : N[i]? = some x) (hl : Loc sc x) (hi : CorI Γ N sc it ci) (hb : CorSs Γ N sc b cb) (hs : ∀ env v, foldedSetIterable it env v = pure v) : CorS Γ N sc (.For (.Name x p) it b [] pos) (.for_ i ci cb)
  | asgO {i : Nat} {x : Str} {e : Expr} {p pos : Pos} {c : Co} (hx : N[i]? = some x) (hl : Loc sc x) (h : CorO Γ N sc e c) (hw : ∀ env, swapsWith e (some (.Name x p)) pos.line env = pure false) : CorS Γ N sc (.Assign [.Name x p] e pos) (.asgO i c)
  | parO {i j : Nat} {x y : Str} {a b : Expr} {px py pt pt2 pos : Pos} {kt k2 : Nat} {ca cb : Co} (hi : N[i]? = some x) (hj : N[j]? = some y) (hij : i ≠ j) (hx : sc.names.lookup x = some .local) (hy : sc.names.lookup y = some .local) (ha : CorO Γ N sc a ca) (hb : CorO Γ N sc b cb)
    (hsa : ∀ env, starEach [a, b] env = (false, eval a env) :: starEach [b] env) (hsb : ∀ env, starEach [b] env = (false, eval b env) :: starEach [] env)
    (hw : ∀ env : Env, env.scope = sc → swappedStores [.Tuple [.Name x px, .Name y py] kt pt] (.Tuple [a, b] k2 pt2) env = pure (some [x, y]))
    (hs : ∀ env : Env, swapsWithSole [.Tuple [.Name x px, .Name y py] kt pt] (.Tuple [a, b] k2 pt2) pos.line env = pure false) : CorS Γ N sc (.Assign [.Tuple [.Name x px, .Name y py] kt pt] (.Tuple [a, b] k2 pt2) pos) (.parO i j ca cb)
  | appO {i : Nat} {x : Str} {e : Expr} {p ap cp pos : Pos} {c : C} (hx : N[i]? = some x) (hv : Vis sc x) (h3 : (x == ("__debug__" : Str)) = false) (h4 : (x == ("__classdict__" : Str)) = false) (he : Cor Γ N sc e c) (hl : (ap.endLine == cp.line) = true)
    (hs : ∀ env, starEach [e] env = (false, eval e env) :: starEach [] env) : CorS Γ N sc (.Expr (.Call (.Attribute (.Name x p) "append" ap) [e] [] cp) pos) (.appO i c)
  | while_ {t : Expr} {b : List Stmt} {pos : Pos} {ct : C} {cb : Sds} (ht : CorT Γ N sc t ct) (hb : CorSs Γ N sc b cb) : CorS Γ N sc (.While t b [] pos) (.while_ ct cb)
  | penS {j n : Nat} {k : Int} {y : Str} {e : Expr} {p p2 p3 pos : Pos} {c : C} (hx : N[j]? = some y) (hv : Vis sc y) (h3 : (y == ("__debug__" : Str)) = false) (h4 : (y == ("__classdict__" : Str)) = false) (he : Cor Γ N sc e c) (hk : k = 1 ∨ k = 2)
    (hw : ∀ env, swapsWithSole [.Subscript (.Name y p) (.Constant (.int k) n p2) p3] e pos.line env = pure false) (hw2 : ∀ env, swappedStores [.Subscript (.Name y p) (.Constant (.int k) n p2) p3] e env = pure none) :
    CorS Γ N sc (.Assign [.Subscript (.Name y p) (.Constant (.int k) n p2) p3] e pos) (.penS j k.toNat c)
  | par3 {i j l : Nat} {x y z : Str} {a b c : Expr} {px py pz pt pt2 pos : Pos} {kt k2 : Nat} {ca cb cc : C} (hi : N[i]? = some x) (hj : N[j]? = some y) (hl : N[l]? = some z) (hij : i ≠ j) (hil : i ≠ l) (hjl : j ≠ l) (hx : sc.names.lookup x = some .local) (hy : sc.names.lookup y = some .local) (hz : sc.names.lookup z = some .local)
    (ha : Cor Γ N sc a ca) (hb : Cor Γ N sc b cb) (hc : Cor Γ N sc c cc) (hsa : ∀ env, starEach [a, b, c] env = (false, eval a env) :: starEach [b, c] env) (hsb : ∀ env, starEach [b, c] env = (false, eval b env) :: starEach [c] env) (hsc : ∀ env, starEach [c] env = (false, eval c env) :: starEach [] env)
    (hw : ∀ env : Env, env.scope = sc → swappedStores [.Tuple [.Name x px, .Name y py, .Name z pz] kt pt] (.Tuple [a, b, c] k2 pt2) env = pure (some [x, y, z]))
    (hs : ∀ env : Env, swapsWithSole [.Tuple [.Name x px, .Name y py, .Name z pz] kt pt] (.Tuple [a, b, c] k2 pt2) pos.line env = pure false) : CorS Γ N sc (.Assign [.Tuple [.Name x px, .Name y py, .Name z pz] kt pt] (.Tuple [a, b, c] k2 pt2) pos) (.par3 i j l ca cb cc)
  | forE {i j : Nat} {x y : Str} {e : Expr} {b : List Stmt} {px py pt p p2 pos : Pos} {kt : Nat} {c : C} {cb : Sds} (hi : N[i]? = some x) (hj : N[j]? = some y) (hx : Loc sc x) (hy : Loc sc y) (h1 : Pl sc "enumerate") (h2 : ("enumerate" : Str) ∈ Γ.bs) (he : Cor Γ N sc e c) (hb : CorSs Γ N sc b cb)
    (hs : ∀ env, starEach [e] env = [(false, eval e env)]) (hf : ∀ env v, foldedSetIterable (.Call (.Name "enumerate" p) [e] [] p2) env v = pure v) : CorS Γ N sc (.For (.Tuple [.Name x px, .Name y py] kt pt) (.Call (.Name "enumerate" p) [e] [] p2) b [] pos) (.forE i j c cb)
  | expr {e : Expr} {pos : Pos} {c : C} (h : Cor Γ N sc e c) (hw : ∀ env, swapsWith e none pos.line env = pure false) : CorS Γ N sc (.Expr e pos) (.expr c)
  | op {i : Nat} {Sh : Shp} {es : List Expr} {js : List Nat} {x : Stmt} {cs : Cs} (h : Γ.ox[i]? = some Sh) (hs : Sh.s sc N es js x) (hl : CorL Γ N sc es cs) : CorS Γ N sc x (.op i cs js)
inductive CorSs (Γ : Gam) (N : List Str) (sc : Scope) : List Stmt → Sds → Prop
  | nil : CorSs Γ N sc [] .nil
  | cons {s : Stmt} {ss : List Stmt} {c : Sd} {cs : Sds} (h : CorS Γ N sc s c) (r : CorSs Γ N sc ss cs) : CorSs Γ N sc (s :: ss) (.cons c cs)
end
structure OkS (Γ : Gam) (F : Fns) (N : List Str) (k : Nat) (X : Cx) : Prop where
  ok : Ok Γ F N k X
  ps : PassesOwn (model X.prog X.w) X.A X.env X.xe
  fn : ∀ x, X.fn x = true
/-- what is wanted behind a run that ends so -/
def Wants (K : PySem.W.Frag) (p : Option Addr) (B0 H0 B : Hp) (out : Out) (D : Ends) : Prop := match out with
  | .nx st' => ∀ σ' B' H', Rel K p B0 H0 B' H' σ' st' → Same B B' → D.nx σ' H'
  | .rt d π => ∀ v σ' st' B' H', Rel K p B0 H0 B' H' σ' st' → st'.π = π → Same B B' → Dv K B' v d → D.rt v H'
theorem Wants.mono {K : PySem.W.Frag} {p : Option Addr} {B0 H0 B B1 : Hp} {out : Out} {D : Ends} (h : Wants K p B0 H0 B out D) (e : Same B B1) : Wants K p B0 H0 B1 out D := by
  cases out with
  | nx st' => exact fun σ' B' H' R s => h σ' B' H' R (e.trans s)
  | rt d π => exact fun v σ' st' B' H' R z s dv => h v σ' st' B' H' R z (e.trans s) dv
def SndS (Γ : Gam) (F : Fns) (N : List Str) (k : Nat) (sc : Scope) (s : Stmt) (c : Sd) : Prop :=
  ∀ X, OkS Γ F N k X → X.env.scope = sc → ∀ p B0 H0 B H σ st out, Rel X.K p B0 H0 B H σ st → evalS F c st = some out → ∀ D : Ends, Wants X.K p B0 H0 B out D → wS X s D σ H
def SndSs (Γ : Gam) (F : Fns) (N : List Str) (k : Nat) (sc : Scope) (s : List Stmt) (c : Sds) : Prop :=
  ∀ X, OkS Γ F N k X → X.env.scope = sc → ∀ p B0 H0 B H σ st out, Rel X.K p B0 H0 B H σ st → evalSs F c st = some out → ∀ D : Ends, Wants X.K p B0 H0 B out D → wSs X s D σ H
section
variable {Γ : Gam} {F : Fns} {N : List Str} {k : Nat} {sc : Scope}
theorem snd_asg {i : Nat} {x : Str} {e : Expr} {p pos : Pos} {c : C} (hx : N[i]? = some x) (hl : Loc sc x) (h : SndE Γ F N k sc e c) (hw : ∀ env, swapsWith e (some (.Name x p)) pos.line env = pure false) : SndS Γ F N k sc (.Assign [.Name x p] e pos) (.asg i c) := by
  intro X ok hs p B0 H0 B H σ st out R ev D wd
  simp only [evalS] at ev
  split at ev
  · rename_i d st1 e1
    cases ev
    refine w_ps (ps_set (i := i) (by rw [ok.ok.hN]; exact ok.ok.nd) (by rw [ok.ok.hN]; exact hx) (by rw [hs]; exact hl) pe_w (hw X.env) (.inl (ok.fn x))) ?_
    exact h X ok.ok hs _ _ _ _ _ _ _ _ _ R e1 _ fun v B1 H1 R1 s1 dv => wd _ B1 H1 (R1.put dv) s1
  · cases ev
theorem snd_asgLc {scope : Scope} {i j : Nat} {x y : Str} {elt iter : Expr} {p p2 pos pos2 : Pos} {ce : C} {ci : Ci} (hy : N[j]? = some y) (hyl : sc.names.lookup y = some .local) (hk : sc.kind = .function) (hln : (p2.line == pos.line) = true)
    (hany : (scope.names.any fun (n, k) => n == y && (k == .local || k == .cell)) = false)
    (hi : SndI Γ F N k sc iter ci) (hb : BlkOk N sc scope [(x, i)]) (hx : N[i]? = some x) (hl : (relS scope sc).names.lookup x = some .local) (he : SndE Γ F N k (relS scope sc) elt ce) (hst : ∀ env v, foldedSetIterable iter env v = pure v) :
    SndS Γ F N k sc (.Assign [.Name y p2] (.ListComp elt [⟨.Name x p, iter, [], 0⟩] scope pos) pos2) (.asg j (.comp ce i ci)) := by
  intro X okS hs p0 B0 H0 B H σ st out R ev D wd
  have ok := okS.ok
  simp only [evalS] at ev
  split at ev
  · rename_i d st1 e1
    cases ev
    refine w_ps (ps_setLc (X := X) (i := j) (own := [(x, i)]) (g := gName i) (tt := tYes) (te := teB X scope elt) (tg := .Name x p) (pos := pos) ok.calm (by rw [ok.hN]; exact ok.nd) (by rw [ok.hN]; exact hy) (by rw [hs]; exact hyl)
      (sw_true (by rw [hs]; exact hk) (by rw [hs]; exact hyl) hln hany) (pi_w (X := X) (tg := .Name x p) (it := iter)) (by rw [ok.hN, hs]; exact hb)
      (fun s H' C cl fp => pg_name (by show X.N.Nodup; rw [ok.hN]; exact ok.nd) (by show X.N[i]? = _; rw [ok.hN]; exact hx) (.inl (by show (relS scope X.env.scope).names.lookup x = _; rw [hs]; exact hl)) (.inr (by show (relS scope X.env.scope).names.lookup x = _; rw [hs]; exact hl)))
      (fun _ _ _ _ _ => pts_nil) (fun s H' C cl fp => ⟨fun pins s' σ' H'' Q' I h => h s H' C cl fp pins s' I⟩) (fun v => hst X.env v)) ?_
    exact comp_read hi he ok hs R e1 fun v B1 H1 R1 s1 dv => wd _ B1 H1 (R1.put dv) s1
  · cases ev
theorem snd_par {i j : Nat} {x y : Str} {a b : Expr} {px py pt pt2 pos : Pos} {kt k2 : Nat} {ca cb : C} (hi : N[i]? = some x) (hj : N[j]? = some y) (hij : i ≠ j) (hx : sc.names.lookup x = some .local) (hy : sc.names.lookup y = some .local) (ha : SndE Γ F N k sc a ca) (hb : SndE Γ F N k sc b cb)
    (hsa : ∀ env, starEach [a, b] env = (false, eval a env) :: starEach [b] env) (hsb : ∀ env, starEach [b] env = (false, eval b env) :: starEach [] env)
    (hw : ∀ env : Env, env.scope = sc → swappedStores [.Tuple [.Name x px, .Name y py] kt pt] (.Tuple [a, b] k2 pt2) env = pure (some [x, y]))
    (hss : ∀ env : Env, swapsWithSole [.Tuple [.Name x px, .Name y py] kt pt] (.Tuple [a, b] k2 pt2) pos.line env = pure false) : SndS Γ F N k sc (.Assign [.Tuple [.Name x px, .Name y py] kt pt] (.Tuple [a, b] k2 pt2) pos) (.par i j ca cb) := by
  intro X ok hs p B0 H0 B H σ st out R ev D wd
  simp only [evalS] at ev
  split at ev
  · rename_i d st1 e1
    split at ev
    · rename_i d2 st2 e2
      cases ev
      refine w_ps (ps_par ok.ok.calm (by rw [ok.ok.hN]; exact ok.ok.nd) (by rw [ok.ok.hN]; exact hi) (by rw [ok.ok.hN]; exact hj) hij (by rw [hs]; exact hx) (by rw [hs]; exact hy) (pa_cons pe_w (pa_cons pe_w pa_nil (hsb X.env)) (hsa X.env)) (hw X.env hs) (hss X.env)) ?_
      refine ha X ok.ok hs _ _ _ _ _ _ _ _ _ R e1 _ fun v B1 H1 R1 s1 dv => ?_
      refine hb X ok.ok hs _ _ _ _ _ _ _ _ _ R1 e2 _ fun w B2 H2 R2 s2 dw => ?_
      exact ⟨v, w, rfl, wd _ B2 H2 ((R2.put (dv.mono s2)).put dw) (s1.trans s2)⟩
    · cases ev
  · cases ev
theorem snd_ret {e : Expr} {pos : Pos} {c : C} (h : SndE Γ F N k sc e c) : SndS Γ F N k sc (.Return (some e) pos) (.ret c) := by
  intro X ok hs p B0 H0 B H σ st out R ev D wd
  simp only [evalS] at ev
  split at ev
  · rename_i d st1 e1
    cases ev
    refine w_ps (ps_ret pe_w) ?_
    exact h X ok.ok hs _ _ _ _ _ _ _ _ _ R e1 _ fun v B1 H1 R1 s1 dv => wd v σ st1 B1 H1 R1 rfl s1 dv
  · cases ev
theorem snd_expr {e : Expr} {pos : Pos} {c : C} (h : SndE Γ F N k sc e c) (hw : ∀ env, swapsWith e none pos.line env = pure false) : SndS Γ F N k sc (.Expr e pos) (.expr c) := by
  intro X ok hs p B0 H0 B H σ st out R ev D wd
  simp only [evalS] at ev
  split at ev
  · rename_i d st1 e1
    cases ev
    refine w_ps (ps_expr pe_w (hw X.env)) ?_
    exact h X ok.ok hs _ _ _ _ _ _ _ _ _ R e1 _ fun v B1 H1 R1 s1 dv => wd σ B1 H1 R1 s1
  · cases ev
theorem snd_ifs {t : Expr} {a b : List Stmt} {pos : Pos} {ct : C} {ca cb : Sds} (ht : SndT Γ F N k sc t ct) (ha : SndSs Γ F N k sc a ca) (hb : SndSs Γ F N k sc b cb) : SndS Γ F N k sc (.If t a b pos) (.ifs ct ca cb) := by
  intro X ok hs p B0 H0 B H σ st out R ev D wd
  simp only [evalS] at ev
  split at ev
  · rename_i d st1 e1
    refine w_ps (ps_if pt_w pss_w pss_w) ?_
    split at ev
    · rename_i t1
      exact ht X ok.ok hs _ _ _ _ _ _ _ _ _ _ R e1 t1 _ fun B1 H1 R1 s1 => iteT (ha X ok hs _ _ _ _ _ _ _ _ R1 ev D (wd.mono s1))
    · rename_i t1
      exact ht X ok.ok hs _ _ _ _ _ _ _ _ _ _ R e1 t1 _ fun B1 H1 R1 s1 => iteF (hb X ok hs _ _ _ _ _ _ _ _ R1 ev D (wd.mono s1))
    · cases ev
  · cases ev
theorem snd_for {i : Nat} {x : Str} {it : Expr} {b : List Stmt} {p pos : Pos} {ci : Ci} {cb : Sds} (hx : N[i]? = some x) (hl : Loc sc x) (hi : SndI Γ F N k sc it ci) (hb : SndSs Γ F N k sc b cb) (hst : ∀ env v, foldedSetIterable it env v = pure v) :
    SndS Γ F N k sc (.For (.Name x p) it b [] pos) (.for_ i ci cb) := by
  intro X ok hs p0 B0 H0 B H σ st out R ev D wd
  simp only [evalS] at ev
  split at ev
  · rename_i xs st1 e1
    split at ev
    · rename_i hz
      refine w_ps (ps_for ok.ps ok.ok.calm pi_w (pg_name (i := i) (by rw [ok.ok.hN]; exact ok.ok.nd) (by rw [ok.ok.hN]; exact hx) (by rw [hs]; exact hl) (.inl (ok.fn x))) pss_w (fun v => hst X.env v)) ?_
      refine hi X ok.ok hs _ _ _ _ _ _ _ _ _ R e1 _ _ fun J B1 H1 G Y R1 s1 W hG hY => ?_
      refine for_it W (fun j σ' H' => ∃ B' stj, Rel X.K p0 B0 H0 B' H' σ' stj ∧ Same B1 B' ∧ forLoop (evalSs F cb) i (xs.drop j) stj = some out) ⟨B1, st1, R1, Same.refl _, ev⟩ (fun j σ' H' _ ⟨B', _, Rj, sj, _⟩ => hG _ (sj.trans Rj.ext)) ?_ ?_
      · rintro j y σ' H2 H3 hj ⟨B', stj, Rj, sj, evj⟩ hy
        obtain ⟨dy, g1, rfl, g2⟩ := hY j H2 y H3 hj (sj.trans Rj.ext) hy
        have hxs : xs.drop j = dy :: xs.drop (j + 1) := by
          obtain ⟨l, e⟩ := List.getElem?_eq_some_iff.mp g1
          rw [List.drop_eq_getElem_cons l, e]
        rw [hxs] at evj
        simp only [forLoop] at evj
        have Rp : Rel X.K p0 B0 H0 B' H3 (σ'.set i (some y)) (stj.set i dy) := Rj.put (g2.mono sj)
        show wSs X b _ (σ'.set i (some y)) H3
        split at evj
        · rename_i st2 e2
          exact hb X ok hs _ _ _ _ _ _ _ _ Rp e2 _ fun σ2 B2 H2 R2 s2 => ⟨B2, st2, R2, sj.trans s2, evj⟩
        · rename_i d π e2
          cases evj
          exact hb X ok hs _ _ _ _ _ _ _ _ Rp e2 _ fun v σ2 st2 B2 H2 R2 z s2 dv => wd v σ2 st2 B2 H2 R2 z ((s1.trans sj).trans s2) dv
        · cases evj
      · rintro σ' H2 ⟨B', stj, Rj, sj, evj⟩
        rw [List.drop_length] at evj
        cases evj
        exact wd σ' B' H2 Rj (s1.trans sj)
    · cases ev
  · cases ev
theorem snd_par3 {i j l : Nat} {x y z : Str} {a b c : Expr} {px py pz pt pt2 pos : Pos} {kt k2 : Nat} {ca cb cc : C} (hi : N[i]? = some x) (hj : N[j]? = some y) (hl : N[l]? = some z) (hij : i ≠ j) (hil : i ≠ l) (hjl : j ≠ l) (hx : sc.names.lookup x = some .local) (hy : sc.names.lookup y = some .local) (hz : sc.names.lookup z = some .local)
    (ha : SndE Γ F N k sc a ca) (hb : SndE Γ F N k sc b cb) (hc : SndE Γ F N k sc c cc) (hsa : ∀ env, starEach [a, b, c] env = (false, eval a env) :: starEach [b, c] env) (hsb : ∀ env, starEach [b, c] env = (false, eval b env) :: starEach [c] env) (hsc : ∀ env, starEach [c] env = (false, eval c env) :: starEach [] env)
    (hw : ∀ env : Env, env.scope = sc → swappedStores [.Tuple [.Name x px, .Name y py, .Name z pz] kt pt] (.Tuple [a, b, c] k2 pt2) env = pure (some [x, y, z]))
    (hss : ∀ env : Env, swapsWithSole [.Tuple [.Name x px, .Name y py, .Name z pz] kt pt] (.Tuple [a, b, c] k2 pt2) pos.line env = pure false) : SndS Γ F N k sc (.Assign [.Tuple [.Name x px, .Name y py, .Name z pz] kt pt] (.Tuple [a, b, c] k2 pt2) pos) (.par3 i j l ca cb cc) := by
  intro X ok hs p B0 H0 B H σ st out R ev D wd
  simp only [evalS] at ev
  split at ev
  · rename_i d st1 e1
    split at ev
    · rename_i d2 st2 e2
      split at ev
      · rename_i d3 st3 e3
        cases ev
        refine w_ps (ps_par3 ok.ok.calm (by rw [ok.ok.hN]; exact ok.ok.nd) (by rw [ok.ok.hN]; exact hi) (by rw [ok.ok.hN]; exact hj) (by rw [ok.ok.hN]; exact hl) hij hil hjl (by rw [hs]; exact hx) (by rw [hs]; exact hy) (by rw [hs]; exact hz)
          (pa_cons pe_w (pa_cons pe_w (pa_cons pe_w pa_nil (hsc X.env)) (hsb X.env)) (hsa X.env)) (hw X.env hs) (hss X.env)) ?_
        refine ha X ok.ok hs _ _ _ _ _ _ _ _ _ R e1 _ fun v B1 H1 R1 s1 dv => ?_
        refine hb X ok.ok hs _ _ _ _ _ _ _ _ _ R1 e2 _ fun w B2 H2 R2 s2 dw => ?_
        refine hc X ok.ok hs _ _ _ _ _ _ _ _ _ R2 e3 _ fun u B3 H3 R3 s3 du => ?_
        exact ⟨v, w, u, rfl, wd _ B3 H3 (((R3.put (dv.mono (s2.trans s3))).put (dw.mono s3)).put du) ((s1.trans s2).trans s3)⟩
      · cases ev
    · cases ev
  · cases ev
theorem snd_forE {i j : Nat} {x y : Str} {e : Expr} {b : List Stmt} {px py pt p p2 pos : Pos} {kt : Nat} {c : C} {cb : Sds} (hi : N[i]? = some x) (hj : N[j]? = some y) (hx : Loc sc x) (hy : Loc sc y) (h1 : Pl sc "enumerate") (h2 : ("enumerate" : Str) ∈ Γ.bs) (he : SndE Γ F N k sc e c) (hb : SndSs Γ F N k sc b cb)
    (hst : ∀ env, starEach [e] env = [(false, eval e env)]) (hf : ∀ env v, foldedSetIterable (.Call (.Name "enumerate" p) [e] [] p2) env v = pure v) : SndS Γ F N k sc (.For (.Tuple [.Name x px, .Name y py] kt pt) (.Call (.Name "enumerate" p) [e] [] p2) b [] pos) (.forE i j c cb) := by
  intro X ok hs p0 B0 H0 B H σ st out R ev D wd
  simp only [evalS] at ev
  split at ev
  · rename_i xs st1 e1
    split at ev
    · rename_i hz
      refine w_ps (ps_for ok.ps ok.ok.calm (pi_enum (gl_of hs h1) (ok.ok.bl _ h2) (pa_cons pe_w pa_nil (by rw [hst X.env] <;> rfl)) (hst X.env))
        (pg_tup ok.ok.calm (pgs_cons (pg_name (i := i) (by rw [ok.ok.hN]; exact ok.ok.nd) (by rw [ok.ok.hN]; exact hi) (by rw [hs]; exact hx) (.inl (ok.fn x))) (pgs_cons (pg_name (i := j) (by rw [ok.ok.hN]; exact ok.ok.nd) (by rw [ok.ok.hN]; exact hj) (by rw [hs]; exact hy) (.inl (ok.fn y))) pgs_nil))) pss_w (fun v => hf X.env v)) ?_
      refine he X ok.ok hs _ _ _ _ _ _ _ _ _ R e1 _ fun v B1 H1 R1 s1 dv => ?_
      obtain ⟨a, vs, rfl, ha, r⟩ := lst_dv dv
      refine ⟨a, vs, rfl, .of (R1.ext _ _ ha), ?_⟩
      refine for_it (walk_enum (K := X.K) (a := a) (xs := vs)) (fun n σ' H' => ∃ B' stj, Rel X.K p0 B0 H0 B' H' σ' stj ∧ Same B1 B' ∧ enumLoop (evalSs F cb) i j n (xs.drop n) stj = some out) ⟨B1, st1, R1, Same.refl _, ev⟩ (fun n σ' H' _ ⟨B', _, Rj, sj, _⟩ => .of (Rj.ext _ _ (sj _ _ ha))) ?_ ?_
      · rintro n y' σ' H2 H3 hn ⟨B', stj, Rj, sj, evj⟩ ⟨T, x1, x2, rfl, hT, rfl, hx1, hx2⟩
        cases hx1
        obtain ⟨dy, g1, g2⟩ := r.get hx2
        have hxs : xs.drop n = dy :: xs.drop (n + 1) := by
          obtain ⟨l, e⟩ := List.getElem?_eq_some_iff.mp g1
          rw [List.drop_eq_getElem_cons l, e]
        rw [hxs] at evj
        simp only [enumLoop] at evj
        have sT : Same B' (upd B' T (.tup [.int (n : Nat), x2])) := same_upd (Rj.free hT).2.2
        have Ra := Rj.alloc (o := .tup [.int (n : Nat), x2]) hT
        refine ⟨T, _, rfl, .of upd_same, rfl, _, _, rfl, _, _, rfl, rfl, ?_⟩
        have Rp := (Ra.put (i := i) (v := .int (n : Nat)) (d := .int (n : Nat)) (.int _)).put (i := j) (v := x2) (d := dy) ((g2.mono sj).mono sT)
        split at evj
        · rename_i st2 e2
          exact hb X ok hs _ _ _ _ _ _ _ _ Rp e2 _ fun σ2 B2 H4 R2 s2 => ⟨B2, st2, R2, (sj.trans sT).trans s2, evj⟩
        · rename_i d π e2
          cases evj
          exact hb X ok hs _ _ _ _ _ _ _ _ Rp e2 _ fun v σ2 st2 B2 H4 R2 z s2 dv => wd v σ2 st2 B2 H4 R2 z (((s1.trans sj).trans sT).trans s2) dv
        · cases evj
      · rintro σ' H2 ⟨B', stj, Rj, sj, evj⟩
        rw [r.length, List.drop_length] at evj
        cases evj
        exact wd σ' B' H2 Rj (s1.trans sj)
    · cases ev
  · cases ev
theorem snd_O {X : Cx} (ok : Ok Γ F N k X) (hs : X.env.scope = sc) {e : Expr} {c : Co} (h : CorO Γ N sc e c) {p B0 H0 B H σ st ds st'} (R : Rel X.K p B0 H0 B H σ st) (ev : evalO F c st = some (ds, st'))
    {Q : VK} (q : ∀ l xs B' H', Rel X.K p B0 H0 B' H' σ st' → Same B B' → H' l = some (.lst xs) → B' l = none → H0 l = none → (∀ (j : Nat) es, st'.δ[j]? = some (SD.own es) → σ[j]? ≠ some (some (V.ref l))) → DvL X.K B' xs ds → Q (.ref l) H') : wE X e σ H Q := by
  cases h with
  | disp h =>
    simp only [evalO] at ev
    split at ev
    · rename_i ds' st1 e1
      obtain ⟨hz, ev⟩ := ite_some ev
      obtain ⟨rfl, rfl⟩ := Prod.mk.inj ev
      refine w_pe (pe_lst pa_w) ?_
      refine (soundL h X ok hs _ _ _ _ _ _ _ _ _ R e1).1 _ fun vs B1 H1 R1 s1 dvs => ?_
      refine ⟨by rw [dvs.length]; exact small_line hz, fun a ha => ?_⟩
      exact q a vs B1 _ (R1.heap (same_upd ha)) s1 upd_same (R1.free ha).2.2 (R1.free ha).1 (R1.nown ha) dvs
    · cases ev
  | lst h h1 h2 hst =>
    simp only [evalO] at ev
    split at ev
    · rename_i ds' st1 e1
      obtain ⟨rfl, rfl⟩ := some2 ev
      refine w_pe (pe_callTy call_list_of (gl_of hs h1) (ok.bl _ h2) (by decide +kernel) (pa_cons pe_w pa_nil (hst X.env)) (by decide +kernel) rfl (hst X.env) rfl) ?_
      refine sound h X ok hs _ _ _ _ _ _ _ _ _ R e1 _ fun v B1 H1 R1 s1 dv => ?_
      obtain ⟨q1, vs, rfl, hq, r⟩ := lst_dv dv
      refine ⟨q1, vs, rfl, .inl (.of (R1.ext _ _ hq)), fun a ha => ?_⟩
      exact q a vs B1 _ (R1.heap (same_upd ha)) s1 upd_same (R1.free ha).2.2 (R1.free ha).1 (R1.nown ha) r
    · rename_i ds' st1 e1
      obtain ⟨rfl, rfl⟩ := some2 ev
      refine w_pe (pe_callTy call_list_of (gl_of hs h1) (ok.bl _ h2) (by decide +kernel) (pa_cons pe_w pa_nil (hst X.env)) (by decide +kernel) rfl (hst X.env) rfl) ?_
      refine sound h X ok hs _ _ _ _ _ _ _ _ _ R e1 _ fun v B1 H1 R1 s1 dv => ?_
      obtain ⟨q1, vs, rfl, hq, r⟩ := tup_dv dv
      refine ⟨q1, vs, rfl, .inr (same_t R1.ext hq), fun a ha => ?_⟩
      exact q a vs B1 _ (R1.heap (same_upd ha)) s1 upd_same (R1.free ha).2.2 (R1.free ha).1 (R1.nown ha) r
    · cases ev
theorem snd_asgO {i : Nat} {x : Str} {e : Expr} {p pos : Pos} {c : Co} (hx : N[i]? = some x) (hl : Loc sc x) (h : CorO Γ N sc e c) (hw : ∀ env, swapsWith e (some (.Name x p)) pos.line env = pure false) : SndS Γ F N k sc (.Assign [.Name x p] e pos) (.asgO i c) := by
  intro X ok hs p B0 H0 B H σ st out R ev D wd
  simp only [evalS] at ev
  split at ev
  · rename_i ds st1 e1
    cases ev
    refine w_ps (ps_set (i := i) (by rw [ok.ok.hN]; exact ok.ok.nd) (by rw [ok.ok.hN]; exact hx) (by rw [hs]; exact hl) pe_w (hw X.env) (.inl (ok.fn x))) ?_
    exact snd_O ok.ok hs h R e1 fun l xs B1 H1 R1 s1 g1 g2 g3 g4 g5 => wd _ B1 H1 (R1.putO g1 g2 g3 g5 fun j es _ hj => g4 j es hj) s1
  · cases ev
theorem snd_parO {i j : Nat} {x y : Str} {a b : Expr} {px py pt pt2 pos : Pos} {kt k2 : Nat} {ca cb : Co} (hi : N[i]? = some x) (hj : N[j]? = some y) (hij : i ≠ j) (hx : sc.names.lookup x = some .local) (hy : sc.names.lookup y = some .local) (ha : CorO Γ N sc a ca) (hb : CorO Γ N sc b cb)
    (hsa : ∀ env, starEach [a, b] env = (false, eval a env) :: starEach [b] env) (hsb : ∀ env, starEach [b] env = (false, eval b env) :: starEach [] env)
    (hw : ∀ env : Env, env.scope = sc → swappedStores [.Tuple [.Name x px, .Name y py] kt pt] (.Tuple [a, b] k2 pt2) env = pure (some [x, y]))
    (hss : ∀ env : Env, swapsWithSole [.Tuple [.Name x px, .Name y py] kt pt] (.Tuple [a, b] k2 pt2) pos.line env = pure false) : SndS Γ F N k sc (.Assign [.Tuple [.Name x px, .Name y py] kt pt] (.Tuple [a, b] k2 pt2) pos) (.parO i j ca cb) := by
  intro X ok hs p B0 H0 B H σ st out R ev D wd
  simp only [evalS] at ev
  split at ev
  · rename_i xs st1 e1
    split at ev
    · rename_i ys st2 e2
      rw [if_neg hij] at ev
      cases ev
      refine w_ps (ps_par ok.ok.calm (by rw [ok.ok.hN]; exact ok.ok.nd) (by rw [ok.ok.hN]; exact hi) (by rw [ok.ok.hN]; exact hj) hij (by rw [hs]; exact hx) (by rw [hs]; exact hy) (pa_cons pe_w (pa_cons pe_w pa_nil (hsb X.env)) (hsa X.env)) (hw X.env hs) (hss X.env)) ?_
      refine snd_O ok.ok hs ha R e1 fun l vs B1 H1 R1 s1 g1 g2 g3 g4 g5 => ?_
      refine snd_O ok.ok hs hb R1.here e2 fun m ws B2 H2 R2 s2 k1 k2 k3 k4 k5 => ?_
      have R3 := R1.back (Same.refl _) R2
      have np := R1.npen g3
      have l2 : H2 l = some (.lst vs) := R2.fr l _ np g1
      have b2 : B2 l = none := by
        cases z : B2 l with
        | none => rfl
        | some o =>
          rcases R2.new l o z with ⟨o', z'⟩ | z'
          · rw [g2] at z'; cases z'
          · rw [g1] at z'; cases z'
      have m0 : H0 m = none := (R1.free k3).1
      have ml : m ≠ l := fun z => by rw [z, g1] at k3; cases k3
      have R4 := R3.putO (i := i) l2 b2 g3 (g5.mono s2) fun j' es _ hj' => g4 j' es hj'
      refine ⟨_, _, rfl, wd _ B2 H2 (R4.putO (i := j) k1 k2 m0 k5 fun j' es nj hj' => ?_) (s1.trans s2)⟩
      intro w
      by_cases z : i = j'
      · subst z
        have hlen : i < σ.length := by
          have := (List.getElem?_eq_some_iff.mp hj').1
          rw [show (S.own ⟨st1.δ, st2.π⟩ i xs).δ = st1.δ.set i (.own xs) from rfl, List.length_set] at this
          rw [R1.len]
          exact this
        rw [List.getElem?_set_self hlen] at w
        cases w
        exact ml rfl
      · rw [List.getElem?_set_ne z] at w
        have hj' : (st1.δ.set i (.own xs))[j']? = some (.own es) := hj'
        rw [List.getElem?_set_ne z] at hj'
        obtain ⟨l', us, h1, h2, _⟩ := R1.ow j' es hj'
        rw [h1] at w
        cases w
        rw [k3] at h2
        cases h2
    · cases ev
  · cases ev
theorem snd_appO {i : Nat} {x : Str} {e : Expr} {p ap cp pos : Pos} {c : C} (hx : N[i]? = some x) (hv : Vis sc x) (h3 : (x == ("__debug__" : Str)) = false) (h4 : (x == ("__classdict__" : Str)) = false) (he : SndE Γ F N k sc e c) (hl : (ap.endLine == cp.line) = true)
    (hst : ∀ env, starEach [e] env = (false, eval e env) :: starEach [] env) : SndS Γ F N k sc (.Expr (.Call (.Attribute (.Name x p) "append" ap) [e] [] cp) pos) (.appO i c) := by
  intro X ok hs p B0 H0 B H σ st out R ev D wd
  simp only [evalS] at ev
  split at ev
  · rename_i ds0 e0
    split at ev
    · rename_i d st1 e1
      split at ev
      · rename_i ds e2
        obtain ⟨hz, ev⟩ := ite_some ev
        subst ev
        obtain ⟨l, xs0, g1, g2, _⟩ := R.ow i ds0 e0
        refine w_ps (ps_expr (pe_bm PySem.F.plainAttrs_list PySem.F.slot_list_append PySem.F.type_list_append mt_append (pv_of ok.ok hs hx hv h3 h4) (pa_cons pe_w pa_nil (hst X.env)) (by rfl) (by rw [hst X.env] <;> rfl) hl (hst X.env) rfl) (by rfl)) ?_
        refine ⟨_, g1, .inl ⟨rfl, xs0, .of g2⟩, ?_⟩
        refine he X ok.ok hs _ _ _ _ _ _ _ _ _ R e1 _ fun v B1 H1 R1 s1 dv => ?_
        obtain ⟨l', xs, k1, k2, k3, k4, k5⟩ := R1.ow i ds e2
        rw [g1] at k1
        cases k1
        refine ⟨l, xs, v, rfl, rfl, k2, by rw [k5.length]; exact small_lt hz, ?_⟩
        exact wd _ B1 _ (R1.chg e2 g1 (k5.append (.cons dv .nil))) s1
      · cases ev
    · cases ev
  · cases ev
theorem snd_while {t : Expr} {b : List Stmt} {pos : Pos} {ct : C} {cb : Sds} (ht : SndT Γ F N k sc t ct) (hb : SndSs Γ F N k sc b cb) : SndS Γ F N k sc (.While t b [] pos) (.while_ ct cb) := by
  intro X ok hs p B0 H0 B H σ st out R ev D wd
  simp only [evalS] at ev
  refine w_ps (ps_while ok.ps pt_w pss_w) ?_
  refine ⟨fun m σ' H' => ∃ B' st', Rel X.K p B0 H0 B' H' σ' st' ∧ Same B B' ∧ whileLoop (evalE F ct) (evalSs F cb) m st' = some out, ⟨fuel, B, st, R, Same.refl _, ev⟩, ?_⟩
  rintro m σ' H' ⟨B', st', R', s', ev'⟩
  cases m with
  | zero => cases ev'
  | succ m =>
    simp only [whileLoop] at ev'
    split at ev'
    · rename_i d st1 e1
      split at ev'
      · rename_i t1
        refine ht X ok.ok hs _ _ _ _ _ _ _ _ _ _ R' e1 t1 _ fun B1 H1 R1 s1 => iteT ?_
        refine ⟨fun σ2 H2 => ∃ B2 st2, Rel X.K p B0 H0 B2 H2 σ2 st2 ∧ Same B B2 ∧ whileLoop (evalE F ct) (evalSs F cb) m st2 = some out, fun σ2 H2 h => ⟨m, Nat.lt_succ_self m, h⟩, ?_⟩
        split at ev'
        · rename_i st2 e2
          exact hb X ok hs _ _ _ _ _ _ _ _ R1 e2 _ fun σ2 B2 H2 R2 s2 => ⟨B2, st2, R2, (s'.trans s1).trans s2, ev'⟩
        · rename_i d2 π e2
          cases ev'
          exact hb X ok hs _ _ _ _ _ _ _ _ R1 e2 _ fun v σ2 st2 B2 H2 R2 z s2 dv => wd v σ2 st2 B2 H2 R2 z ((s'.trans s1).trans s2) dv
        · cases ev'
      · rename_i t1
        cases ev'
        exact ht X ok.ok hs _ _ _ _ _ _ _ _ _ _ R' e1 t1 _ fun B1 H1 R1 s1 => iteF (wd σ' B1 H1 R1 (s'.trans s1))
      · cases ev'
    · cases ev'
theorem snd_penS {j n : Nat} {kk : Int} {y : Str} {e : Expr} {p p2 p3 pos : Pos} {c : C} (hx : N[j]? = some y) (hv : Vis sc y) (h3 : (y == ("__debug__" : Str)) = false) (h4 : (y == ("__classdict__" : Str)) = false) (he : SndE Γ F N k sc e c) (hk : kk = 1 ∨ kk = 2)
    (hw : ∀ env, swapsWithSole [.Subscript (.Name y p) (.Constant (.int kk) n p2) p3] e pos.line env = pure false) (hw2 : ∀ env, swappedStores [.Subscript (.Name y p) (.Constant (.int kk) n p2) p3] e env = pure none) :
    SndS Γ F N k sc (.Assign [.Subscript (.Name y p) (.Constant (.int kk) n p2) p3] e pos) (.penS j kk.toNat c) := by
  intro X ok hs p B0 H0 B H σ st out R ev D wd
  simp only [evalS] at ev
  split at ev
  · rename_i m st1 e1
    split at ev
    · rename_i π e2 hπ
      refine w_ps (ps_asg pe_w (pg_sub (pv_of ok.ok hs hx hv h3 h4) pe_int set_list) (hw X.env) (hw2 X.env)) ?_
      refine he X ok.ok hs _ _ _ _ _ _ _ _ _ R e1 _ fun v B1 H1 R1 s1 dv => ?_
      cases dv
      obtain ⟨a, ha, g0, r, g1, g2⟩ := pen_at R1 e2 hπ
      refine ⟨_, g0, a, [V.ref r, V.int π.lap, V.int π.g], kk, kk.toNat, rfl, rfl, g1, ?_, ?_⟩
      · rcases hk with rfl | rfl <;> rfl
      · rcases hk with rfl | rfl
        · cases ev
          exact wd σ B1 _ (R1.store (π' := ⟨π.ns, m, π.g⟩) ha (fun b hb => upd_ne hb) ⟨r, upd_same, g2⟩) s1
        · cases ev
          exact wd σ B1 _ (R1.store (π' := ⟨π.ns, π.lap, m⟩) ha (fun b hb => upd_ne hb) ⟨r, upd_same, g2⟩) s1
    · cases ev
  · cases ev
theorem snd_nilS : SndSs Γ F N k sc [] .nil := by
  intro X ok hs p B0 H0 B H σ st out R ev D wd
  cases ev
  exact w_pss pss_nil (wd σ B H R (Same.refl _))
theorem snd_consS {s : Stmt} {ss : List Stmt} {c : Sd} {cs : Sds} (h : SndS Γ F N k sc s c) (r : SndSs Γ F N k sc ss cs) : SndSs Γ F N k sc (s :: ss) (.cons c cs) := by
  intro X ok hs p B0 H0 B H σ st out R ev D wd
  simp only [evalSs] at ev
  refine w_pss (pss_cons ps_w pss_w) ?_
  split at ev
  · rename_i st1 e1
    exact h X ok hs _ _ _ _ _ _ _ _ R e1 _ fun σ1 B1 H1 R1 s1 => r X ok hs _ _ _ _ _ _ _ _ R1 ev D (wd.mono s1)
  · rename_i d π e1
    cases ev
    exact h X ok hs _ _ _ _ _ _ _ _ R e1 _ fun v σ1 st1 B1 H1 R1 z s1 dv => wd v σ1 st1 B1 H1 R1 z s1 dv
  · cases ev
theorem len_setD : ∀ {l : List SD} {js : List Nat} {ds : List PyData}, (setD l js ds).length = l.length
  | _, [], _ => rfl
  | _, _ :: _, [] => rfl
  | l, j :: js, d :: ds => by
    show (setD (l.set j (.dat d)) js ds).length = _
    rw [len_setD, List.length_set]
theorem Rel.putAll {K : PySem.W.Frag} {p : Option Addr} {B0 H0 B H : Hp} : ∀ {js : List Nat} {ws : List V} {zs : List PyData} {σ : L2.St} {st : S}, Rel K p B0 H0 B H σ st → DvL K B ws zs → Rel K p B0 H0 B H (setV σ js ws) (st.setAll js zs)
  | [], _, _, σ, st, R, _ => by
    show Rel K p B0 H0 B H σ ⟨setD st.δ [] _, st.π⟩
    exact R
  | j :: js, _, _, σ, st, R, .nil => R
  | j :: js, _, _, σ, st, R, .cons (v := v) (d := d) h r => Rel.putAll (js := js) (σ := σ.set j (some v)) (st := st.set j d) (R.put h) r
theorem snd_opS {i : Nat} {Sh : Shp} {es : List Expr} {js : List Nat} {x : Stmt} {cs : Cs} (h : Γ.ox[i]? = some Sh) (hsh : Sh.s sc N es js x) (hl : SndL Γ F N k sc es cs) : SndS Γ F N k sc x (.op i cs js) := by
  intro X okS hs p B0 H0 B H σ st out R ev D wd
  have ok := okS.ok
  simp only [evalS] at ev
  split at ev
  · rename_i ds st1 e1
    split at ev
    · rename_i zs e2
      split at ev
      · rename_i hz
        cases ev
        have o := ok.ox i Sh h X rfl rfl rfl rfl rfl ok.room ok.gd ok.calm (by rw [ok.hN]; exact ok.nd)
        exact o.s okS.fn okS.ps es js x (by rw [hs, ok.hN]; exact hsh) e2 hz (hl X ok hs _ _ _ _ _ _ _ _ _ R e1).2.2 fun ws B' H' R' s' dv => wd _ B' H' (R'.putAll dv) s'
      · cases ev
    · cases ev
  · cases ev
mutual
theorem soundS : ∀ {s : Stmt} {c : Sd}, CorS Γ N sc s c → SndS Γ F N k sc s c
  | _, _, .asg hx hl h hw => snd_asg hx hl (sound h) hw
  | _, _, .asgLc hy hyl hk hln hany hi hb hx hl he hs => snd_asgLc hy hyl hk hln hany (soundI hi) hb hx hl (sound he) hs
  | _, _, .par hi hj hij hx hy ha hb hsa hsb hw hs => snd_par hi hj hij hx hy (sound ha) (sound hb) hsa hsb hw hs
  | _, _, .ret h => snd_ret (sound h)
  | _, _, .ifs ht ha hb => snd_ifs (soundT ht) (soundSs ha) (soundSs hb)
  | _, _, .for_ hx hl hi hb hs => snd_for hx hl (soundI hi) (soundSs hb) hs
  | _, _, .expr h hw => snd_expr (sound h) hw
  | _, _, .asgO hx hl h hw => snd_asgO hx hl h hw
  | _, _, .parO hi hj hij hx hy ha hb hsa hsb hw hs => snd_parO hi hj hij hx hy ha hb hsa hsb hw hs
  | _, _, .appO hx hv h3 h4 he hl hs => snd_appO hx hv h3 h4 (sound he) hl hs
  | _, _, .while_ ht hb => snd_while (soundT ht) (soundSs hb)
  | _, _, .par3 hi hj hl hij hil hjl hx hy hz ha hb hc hsa hsb hsc hw hs => snd_par3 hi hj hl hij hil hjl hx hy hz (sound ha) (sound hb) (sound hc) hsa hsb hsc hw hs
  | _, _, .forE hi hj hx hy h1 h2 he hb hs hf => snd_forE hi hj hx hy h1 h2 (sound he) (soundSs hb) hs hf
  | _, _, .penS hx hv h3 h4 he hk hw hw2 => snd_penS hx hv h3 h4 (sound he) hk hw hw2
  | _, _, .op h hs hl => snd_opS h hs (soundL hl)
theorem soundSs : ∀ {s : List Stmt} {c : Sds}, CorSs Γ N sc s c → SndSs Γ F N k sc s c
  | _, _, .nil => snd_nilS
  | _, _, .cons h r => snd_consS (soundS h) (soundSs r)
end
end

/-! ### a def -/
structure Md (Γ : Gam) (F : Fns) (P : Program) (w : World) (K : PySem.W.Frag) (mg : Str → Option Value) (base : Heap) (k : Nat) : Prop where
  bl : ∀ x ∈ Γ.bs, mg x = none
  gl : ∀ (i : Nat) x d, Γ.gs[i]? = some (x, d) → ∃ v u, mg x = some u ∧ RelV v u ∧ ∀ B, Dv K B v d
  fn : ∀ i e, Γ.es[i]? = some e → FnF P w K mg base k e (F.fn i)
  pf : ∀ i x, Γ.ps[i]? = some x → PfF P w K mg base k x (F.pf i)
  at_ : ∀ f cE cI, (f, cE, cI) ∈ Γ.ats → AtOk K f cE cI := by intro f cE cI h; cases h
  ic : ∀ t tE tI tO, (t, tE, tI, tO) ∈ Γ.ics → IcOk K mg t tE tI tO := by intro t tE tI tO h; cases h
  ox : ∀ i Sh, Γ.ox[i]? = some Sh → OxF P w K mg base k Sh (F.ox i) := by intro i Sh h; exact nomatch (show (none : Option Shp) = some Sh from h)
def init (N : List Str) (ds : List SD) : List SD := ds ++ List.replicate (N.length - ds.length) .unk
/-- what a def's body gives -/
def bodyD (F : Fns) (c : Sds) (N : List Str) (ds : List PyData) : Option PyData := match evalSs F c ⟨init N (ds.map .dat), none⟩ with
  | some (.rt d none) => some d
  | some (.nx ⟨_, none⟩) => some .none
  | _ => none
def bodyP (F : Fns) (c : Sds) (N : List Str) (ds : List PyData) (π : Pen) : Option (PyData × Pen) := match evalSs F c ⟨init N (.pen :: ds.map .dat), some π⟩ with
  | some (.rt d (some π')) => some (d, π')
  | some (.nx ⟨_, some π'⟩) => some (.none, π')
  | _ => none
section
variable {Γ : Gam} {F : Fns} {P : Program} {w : World} {K : PySem.W.Frag} {mg : Str → Option Value} {base : Heap} {k : Nat}
theorem okS_of {N ps : List Str} {qual : Str} {sc : Scope} {f : Addr} {cdv : Value} {A : Around} {outer : List Env} {s : Shared} {H : Hp} {E : XK} (Sc : FnScope N ps sc) (M : Md Γ F P w K mg base k) (hr : Room k (A.deeper (envOfC qual sc s.heap.objs.size f cdv))) (hg : A.guards = some []) :
    OkS Γ F N k (cxOf CX0 P w K mg base N qual sc f cdv A outer s H E).nox :=
  ⟨⟨rfl, rfl, Sc.nd, hr, hg, M.bl, M.gl, M.fn, M.pf, M.at_, M.ic, M.ox⟩, PassesOwn.never, fun _ => rfl⟩
theorem start_get {N : List Str} {vs : List V} {i : Nat} {v : V} (h : vs[i]? = some v) : (start N vs)[i]? = some (some v) := by
  unfold L2.start
  have hi := (List.getElem?_eq_some_iff.mp h).1
  rw [List.getElem?_append_left (by simpa using hi), List.getElem?_map, h] <;> rfl
theorem init_dat {N : List Str} {l : List SD} {i : Nat} {d : PyData} {π : Option Pen} (h : (⟨init N l, π⟩ : S).get i = some d) : l[i]? = some (.dat d) := by
  unfold S.get init at h
  by_cases hi : i < l.length
  · rw [List.getElem?_append_left hi] at h
    split at h
    · rename_i z; cases h; exact z
    · cases h
  · rw [List.getElem?_append_right (by omega), List.getElem?_replicate] at h
    split at h
    · rename_i z
      split at z <;> cases z
    · cases h
theorem init_own {N : List Str} {ds : List PyData} {i : Nat} {es : List PyData} (h : (init N (ds.map .dat))[i]? = some (SD.own es)) : False := by
  unfold init at h
  by_cases hi : i < (ds.map SD.dat).length
  · rw [List.getElem?_append_left hi, List.getElem?_map, Option.map_eq_some_iff] at h
    obtain ⟨_, _, z⟩ := h
    cases z
  · rw [List.getElem?_append_right (by omega), List.getElem?_replicate] at h
    split at h <;> cases h
theorem init_ownP {N : List Str} {ds : List PyData} {i : Nat} {es : List PyData} (h : (init N (.pen :: ds.map .dat))[i]? = some (SD.own es)) : False := by
  unfold init at h
  by_cases hi : i < (SD.pen :: ds.map SD.dat).length
  · rw [List.getElem?_append_left hi] at h
    cases i with
    | zero => cases h
    | succ i =>
      rw [List.getElem?_cons_succ, List.getElem?_map, Option.map_eq_some_iff] at h
      obtain ⟨_, _, z⟩ := h
      cases z
  · rw [List.getElem?_append_right (by omega), List.getElem?_replicate] at h
    split at h <;> cases h
theorem rel_start {N ps : List Str} {B H : Hp} {vs : List V} {ds : List PyData} (hN : vs.length ≤ N.length) (e : Same B H) (dv : DvL K B vs ds) : Rel K none B H B H (start N vs) ⟨init N (ds.map .dat), none⟩ := by
  refine ⟨fun _ _ _ h => h, e, Same.refl _, fun a o h => .inl ⟨o, h⟩, fun a h => (by cases h), fun a h => (by cases h), ?_, fun i d h => ?_, rfl, fun i h => ?_, fun i es h => (init_own h).elim, fun i j es es' _ h => (init_own h).elim⟩
  · unfold L2.start init
    simp only [List.length_append, List.length_map, List.length_replicate, dv.length]
  · have z := init_dat h
    rw [List.getElem?_map, Option.map_eq_some_iff] at z
    obtain ⟨d', z1, z2⟩ := z
    cases z2
    obtain ⟨v, h1, h2⟩ := dv.get' z1
    exact ⟨v, start_get h1, h2⟩
  · have h : (init N (ds.map .dat))[i]? = some .pen := h
    unfold init at h
    by_cases hi : i < (ds.map SD.dat).length
    · rw [List.getElem?_append_left hi, List.getElem?_map, Option.map_eq_some_iff] at h
      obtain ⟨_, _, z⟩ := h
      cases z
    · rw [List.getElem?_append_right (by omega), List.getElem?_replicate] at h
      split at h <;> cases h
/-- THE RULE for a def without a pen -/
theorem fg_pure {x qual : Str} {st : Stmt} {f : Addr} {fd : FuncData} {N ps : List Str} {c : Sds} {m : List PyData → Option PyData} (Fu : Fun K x qual st f fd) (Sc : FnScope N ps (defScope st)) (hc : CorSs Γ N (defScope st) (defBody st) c) (M : Md Γ F P w K mg base k)
    (hN : ps.length ≤ N.length) (hm : ∀ ds d, m ds = some d → ds.length = ps.length ∧ bodyD F c N ds = some d) : FG P w K mg base CX0 (k + 1) f fd ps (SpF K m) := by
  refine fg_of Fu Sc (fun vs H Q E h => ?_) fun cdv A outer s H vs Q E hr hg h => ?_
  · obtain ⟨ds, d, B, _, dv, e, _⟩ := h
    rw [dv.length]
    exact (hm ds d e).1
  · obtain ⟨ds, d, B, sb, dv, e, q⟩ := h
    obtain ⟨l1, e2⟩ := hm ds d e
    have ok := okS_of (qual := qual) (f := f) (cdv := cdv) (outer := outer) (s := s) (H := H) (E := E) Sc M hr hg
    have R : Rel K none B H B H (start N vs) ⟨init N (ds.map .dat), none⟩ := rel_start (ps := ps) (by rw [dv.length, l1]; exact hN) sb dv
    refine ⟨_, PSs.nox pss_w, ?_⟩
    unfold bodyD at e2
    split at e2
    · rename_i d' ev
      cases e2
      refine soundSs hc _ ok rfl _ _ _ _ _ _ _ _ R ev _ fun v σ' st' B' H' R' z s' dv' => ?_
      exact q v B' H' s' R'.ext (fun b o hb => R'.fr b o (by intro z; cases z) hb) R'.new dv'
    · rename_i st' π0 ev
      cases e2
      refine soundSs hc _ ok rfl _ _ _ _ _ _ _ _ R ev _ fun σ' B' H' R' s' => ?_
      exact q .non B' H' s' R'.ext (fun b o hb => R'.fr b o (by intro z; cases z) hb) R'.new .non
    · cases e2
theorem rel_startP {N ps : List Str} {B H : Hp} {a : Addr} {π : Pen} {vs : List V} {ds : List PyData} (hN : vs.length + 1 ≤ N.length) (e : Same B H) (ba : B a = none) (pe : PenAt K B H a π) (dv : DvL K B vs ds) :
    Rel K (some a) B H B H (start N (.ref a :: vs)) ⟨init N (.pen :: ds.map .dat), some π⟩ := by
  have ha : H a ≠ none := by
    obtain ⟨q, h1, _⟩ := pe
    rw [h1]
    exact fun z => nomatch z
  refine ⟨fun _ _ _ h => h, e, Same.refl _, fun a o h => .inl ⟨o, h⟩, fun b h => (by cases h; exact ba), fun b h => (by cases h; exact ha), ?_, fun i d h => ?_, ⟨a, rfl, pe⟩, fun i h => ?_, fun i es h => (init_ownP h).elim, fun i j es es' _ h => (init_ownP h).elim⟩
  · unfold L2.start init
    simp only [List.length_append, List.length_map, List.length_replicate, List.length_cons, dv.length]
  · have z := init_dat h
    cases i with
    | zero => cases z
    | succ i =>
      rw [List.getElem?_cons_succ, List.getElem?_map, Option.map_eq_some_iff] at z
      obtain ⟨d', z1, z2⟩ := z
      cases z2
      obtain ⟨v, h1, h2⟩ := dv.get' z1
      exact ⟨v, start_get (by rw [List.getElem?_cons_succ]; exact h1), h2⟩
  · have h : (init N (.pen :: ds.map .dat))[i]? = some .pen := h
    cases i with
    | zero => exact ⟨a, rfl, start_get rfl⟩
    | succ i =>
      unfold init at h
      by_cases hi : i + 1 < (SD.pen :: ds.map SD.dat).length
      · rw [List.getElem?_append_left hi, List.getElem?_cons_succ, List.getElem?_map, Option.map_eq_some_iff] at h
        obtain ⟨_, _, z⟩ := h
        cases z
      · rw [List.getElem?_append_right (by omega), List.getElem?_replicate] at h
        split at h <;> cases h
/-- THE RULE for a def that draws -/
theorem fg_pen {x qual : Str} {st : Stmt} {f : Addr} {fd : FuncData} {N ps : List Str} {c : Sds} {m : List PyData → Pen → Option (PyData × Pen)} (Fu : Fun K x qual st f fd) (Sc : FnScope N ps (defScope st)) (hc : CorSs Γ N (defScope st) (defBody st) c) (M : Md Γ F P w K mg base k)
    (hN : ps.length ≤ N.length) (hm : ∀ ds π d π', m ds π = some (d, π') → ds.length + 1 = ps.length ∧ bodyP F c N ds π = some (d, π')) : FG P w K mg base CX0 (k + 1) f fd ps (SpP K m) := by
  refine fg_of Fu Sc (fun vs H Q E h => ?_) fun cdv A outer s H vs Q E hr hg h => ?_
  · obtain ⟨a, ws, ds, d, B, π, π', rfl, _, _, _, dv, e, _⟩ := h
    rw [List.length_cons, dv.length]
    exact (hm ds π d π' e).1
  · obtain ⟨a, ws, ds, d, B, π, π', rfl, ba, sb, pe, dv, e, q⟩ := h
    obtain ⟨l1, e2⟩ := hm ds π d π' e
    have ok := okS_of (qual := qual) (f := f) (cdv := cdv) (outer := outer) (s := s) (H := H) (E := E) Sc M hr hg
    have R := rel_startP (N := N) (ps := ps) (by rw [dv.length, l1]; exact hN) sb ba pe dv
    have back : ∀ {σ' : L2.St} {st' : S} {B' H' : Hp} {v : V}, Rel K (some a) B H B' H' σ' st' → st'.π = some π' → Same B B' → Dv K B' v d → Q v H' := by
      intro σ' st' B' H' v R' z s' dv'
      have pe' := R'.pen
      rw [z] at pe'
      obtain ⟨a', ea, pe'⟩ := pe'
      cases ea
      exact q v B' H' s' R'.ext (fun b o nb hb => R'.fr b o (by intro z; cases z; exact nb rfl) hb) R'.new pe' dv'
    refine ⟨_, PSs.nox pss_w, ?_⟩
    unfold bodyP at e2
    split at e2
    · rename_i d' π0 ev
      cases e2
      exact soundSs hc _ ok rfl _ _ _ _ _ _ _ _ R ev _ fun v σ' st' B' H' R' z s' dv' => back R' z s' dv'
    · rename_i st' π0 ev
      cases e2
      exact soundSs hc _ ok rfl _ _ _ _ _ _ _ _ R ev _ fun σ' B' H' R' s' => back R' rfl s' .non
    · cases e2
end
end Kd


set_option Elab.async false
set_option linter.all false
set_option maxRecDepth 100000
set_option maxHeartbeats 8000000
namespace Kd
open PySem PySem.Spec PyProof.Rows L2

/-! ### a run foretold: less known, draws by a tape -/
mutual
/-- the pen's cells are not looked at -/
def npE : C → Bool
  | .var _ => true
  | .cst _ => true
  | .glb _ => true
  | .and_ a b => npE a && npE b
  | .or_ a b => npE a && npE b
  | .not_ a => npE a
  | .ite t a b => npE t && (npE a && npE b)
  | .bin _ a b => npE a && npE b
  | .neg a => npE a
  | .cmp _ a b => npE a && npE b
  | .chain _ _ a b c => npE a && (npE b && npE c)
  | .tup es => npL es
  | .lst es => npL es
  | .dct1 _ v => npE v
  | .lset a => npE a
  | .lenO _ => true
  | .neO _ => true
  | .popO _ c => npE c
  | .frz _ => true
  | .penG _ _ => false
  | .penAt _ _ => false
  | .penLen _ => false
  | .penNe _ => false
  | .isi a _ => npE a
  | .call _ es => npL es
  | .op _ es => npL es
  | .pcall _ _ es => npL es
  | .blt _ a => npE a
  | .comp e _ it => npE e && npI it
  | .sub a i => npE a && npE i
  | .upto a n => npE a && npE n
  | .cat a b => npE a && npE b
  | .attr c _ _ _ => npE c
  | .isc c _ _ _ => npE c
  | .rep a n => npE a && npE n
def npL : Cs → Bool
  | .nil => true
  | .cons c cs => npE c && npL cs
def npI : Ci → Bool
  | .seq c => npE c
  | .rng c => npE c
end
def npO : Co → Bool
  | .disp es => npL es
  | .lst c => npE c
  | .comp e _ it => npE e && npI it
mutual
def npS : Sd → Bool
  | .asg _ c => npE c
  | .par _ _ a b => npE a && npE b
  | .ret c => npE c
  | .ifs t a b => npE t && (npSs a && npSs b)
  | .for_ _ it b => npI it && npSs b
  | .expr c => npE c
  | .asgO _ c => npO c
  | .parO _ _ a b => npO a && npO b
  | .appO _ c => npE c
  | .while_ t b => npE t && npSs b
  | .penS _ _ _ => false
  | .par3 _ _ _ a b c => npE a && (npE b && npE c)
  | .forE _ _ c b => npE c && npSs b
  | .op _ es _ => npL es
def npSs : Sds → Bool
  | .nil => true
  | .cons s ss => npS s && npSs ss
end
/-- what is less known -/
def LeP (R : Pen → Pen → Prop) : Option Pen → Option Pen → Prop
  | some a, some b => R a b
  | none, none => True
  | _, _ => False
structure Le (R : Pen → Pen → Prop) (st st' : S) : Prop where
  len : st.δ.length = st'.δ.length
  at_ : ∀ (i : Nat) x, st.δ[i]? = some x → x = .unk ∨ st'.δ[i]? = some x
  pen : LeP R st.π st'.π
section
variable {R : Pen → Pen → Prop} {st st' : S}
theorem Le.get (h : Le R st st') {i : Nat} {d : PyData} (e : st.get i = some d) : st'.get i = some d := by
  unfold S.get at *
  split at e
  · rename_i d' e1
    cases e
    rcases h.at_ i _ e1 with z | z
    · cases z
    · rw [z]
  · cases e
theorem Le.δp (h : Le R st st') {i : Nat} (e : st.δ[i]? = some .pen) : st'.δ[i]? = some .pen := by
  rcases h.at_ i _ e with z | z
  · cases z
  · exact z
theorem Le.δo (h : Le R st st') {i : Nat} {ds : List PyData} (e : st.δ[i]? = some (.own ds)) : st'.δ[i]? = some (.own ds) := by
  rcases h.at_ i _ e with z | z
  · cases z
  · exact z
theorem Le.put (h : Le R st st') (i : Nat) (x : SD) : Le R ⟨st.δ.set i x, st.π⟩ ⟨st'.δ.set i x, st'.π⟩ := by
  refine ⟨by simpa using h.len, fun j y e => ?_, h.pen⟩
  rw [List.getElem?_set] at e ⊢
  split at e
  · rename_i ij
    subst ij
    split at e
    · cases e
      rename_i l
      right
      rw [if_pos rfl, if_pos (by rw [← h.len]; exact l)]
    · cases e
  · rename_i ij
    rw [if_neg ij]
    exact h.at_ j y e
theorem Le.hush (h : Le R st st') : Le R st.hush st'.hush := by
  refine ⟨by simpa [S.hush] using h.len, fun j y e => ?_, h.pen⟩
  unfold S.hush at *
  simp only [List.getElem?_map, Option.map_eq_some_iff] at e ⊢
  obtain ⟨x, e1, e2⟩ := e
  rcases h.at_ j x e1 with z | z
  · subst z; subst e2; exact .inl rfl
  · exact .inr ⟨x, z, e2⟩
theorem Le.swap (h : Le R st st') {p p' : Option Pen} (hp : LeP R p p') : Le R ⟨st.δ, p⟩ ⟨st'.δ, p'⟩ := ⟨h.len, h.at_, hp⟩
end
section
variable {R : Pen → Pen → Prop} {F F' : Fns}
structure Sim (R : Pen → Pen → Prop) (F F' : Fns) : Prop where
  fn : ∀ i ds d, F.fn i ds = some d → F'.fn i ds = some d
  pf : ∀ i ds π π' d π1, R π π' → F.pf i ds π = some (d, π1) → ∃ π1', F'.pf i ds π' = some (d, π1') ∧ R π1 π1'
  ox : ∀ i ds d, F.ox i ds = some d → F'.ox i ds = some d
theorem sim_comp {e : C} (ih : ∀ st st' d st1, Le R st st' → evalE F e st = some (d, st1) → ∃ st1', evalE F' e st' = some (d, st1') ∧ Le R st1 st1') (i : Nat) :
    ∀ xs st st' ds p, Le R st st' → compLoop (evalE F e) i xs st = some (ds, p) → ∃ p', compLoop (evalE F' e) i xs st' = some (ds, p') ∧ LeP R p p'
  | [], st, st', ds, p, le, ev => by
    cases ev
    exact ⟨_, rfl, le.pen⟩
  | x :: xs, st, st', ds, p, le, ev => by
    simp only [compLoop] at ev ⊢
    split at ev
    · rename_i d st1 e1
      obtain ⟨s1, f1, l1⟩ := ih _ (st'.set i x) _ _ (le.put i (.dat x)) e1
      split at ev
      · rename_i ds' p' e2
        cases ev
        obtain ⟨p2, f2, l2⟩ := sim_comp ih i xs _ ⟨st'.δ, s1.π⟩ _ _ (le.swap l1.pen) e2
        exact ⟨p2, by simp only [f1, f2], l2⟩
      · cases ev
    · cases ev
mutual
theorem simE (h : Sim R F F') : ∀ c st st' d st1, npE c = true → Le R st st' → evalE F c st = some (d, st1) → ∃ st1', evalE F' c st' = some (d, st1') ∧ Le R st1 st1'
  | .var i, st, st', d, st1, np, le, ev => by
    simp only [evalE] at ev ⊢
    split at ev
    · rename_i d' e
      cases ev
      exact ⟨st', by simp only [le.get e], le⟩
    · cases ev
  | .cst d, st, st', _, st1, np, le, ev => by
    cases ev
    exact ⟨st', rfl, le⟩
  | .glb d, st, st', _, st1, np, le, ev => by
    cases ev
    exact ⟨st', rfl, le⟩
  | .and_ a b, st, st', d, st1, np, le, ev => by
    simp only [npE, Bool.and_eq_true] at np
    simp only [evalE] at ev ⊢
    split at ev
    · rename_i s1 e1
      obtain ⟨s1', f1, l1⟩ := simE h a _ _ _ _ np.1 le e1
      obtain ⟨s2', f2, l2⟩ := simE h b _ _ _ _ np.2 l1 ev
      exact ⟨s2', by simp only [f1, f2], l2⟩
    · rename_i s1 e1
      cases ev
      obtain ⟨s1', f1, l1⟩ := simE h a _ _ _ _ np.1 le e1
      exact ⟨s1', by simp only [f1], l1⟩
    · cases ev
  | .or_ a b, st, st', d, st1, np, le, ev => by
    simp only [npE, Bool.and_eq_true] at np
    simp only [evalE] at ev ⊢
    split at ev
    · rename_i s1 e1
      cases ev
      obtain ⟨s1', f1, l1⟩ := simE h a _ _ _ _ np.1 le e1
      exact ⟨s1', by simp only [f1], l1⟩
    · rename_i s1 e1
      obtain ⟨s1', f1, l1⟩ := simE h a _ _ _ _ np.1 le e1
      obtain ⟨s2', f2, l2⟩ := simE h b _ _ _ _ np.2 l1 ev
      exact ⟨s2', by simp only [f1, f2], l2⟩
    · cases ev
  | .not_ a, st, st', d, st1, np, le, ev => by
    simp only [npE] at np
    simp only [evalE] at ev ⊢
    split at ev
    · rename_i b s1 e1
      cases ev
      obtain ⟨s1', f1, l1⟩ := simE h a _ _ _ _ np le e1
      exact ⟨s1', by simp only [f1], l1⟩
    · cases ev
  | .ite t a b, st, st', d, st1, np, le, ev => by
    simp only [npE, Bool.and_eq_true] at np
    simp only [evalE] at ev ⊢
    split at ev
    · rename_i x s1 e1
      obtain ⟨s1', f1, l1⟩ := simE h t _ _ _ _ np.1 le e1
      split at ev
      · rename_i e2
        obtain ⟨s2', f2, l2⟩ := simE h a _ _ _ _ np.2.1 l1 ev
        exact ⟨s2', by simp only [f1, e2, f2], l2⟩
      · rename_i e2
        obtain ⟨s2', f2, l2⟩ := simE h b _ _ _ _ np.2.2 l1 ev
        exact ⟨s2', by simp only [f1, e2, f2], l2⟩
      · cases ev
    · cases ev
  | .bin op a b, st, st', d, st1, np, le, ev => by
    simp only [npE, Bool.and_eq_true] at np
    simp only [evalE] at ev ⊢
    split at ev
    · rename_i x s1 e1
      obtain ⟨s1', f1, l1⟩ := simE h a _ _ _ _ np.1 le e1
      split at ev
      · rename_i y s2 e2
        obtain ⟨s2', f2, l2⟩ := simE h b _ _ _ _ np.2 l1 e2
        split at ev
        · rename_i z e3
          cases ev
          exact ⟨s2', by simp only [f1, f2, e3], l2⟩
        · cases ev
      · cases ev
    · cases ev
  | .neg a, st, st', d, st1, np, le, ev => by
    simp only [npE] at np
    simp only [evalE] at ev ⊢
    split at ev
    · rename_i b s1 e1
      cases ev
      obtain ⟨s1', f1, l1⟩ := simE h a _ _ _ _ np le e1
      exact ⟨s1', by simp only [f1], l1⟩
    · cases ev
  | .cmp op a b, st, st', d, st1, np, le, ev => by
    simp only [npE, Bool.and_eq_true] at np
    simp only [evalE] at ev ⊢
    split at ev
    · rename_i x s1 e1
      obtain ⟨s1', f1, l1⟩ := simE h a _ _ _ _ np.1 le e1
      split at ev
      · rename_i y s2 e2
        obtain ⟨s2', f2, l2⟩ := simE h b _ _ _ _ np.2 l1 e2
        split at ev
        · rename_i z e3
          cases ev
          exact ⟨s2', by simp only [f1, f2, e3], l2⟩
        · cases ev
      · cases ev
    · cases ev
  | .chain o1 o2 a b c, st, st', d, st1, np, le, ev => by
    simp only [npE, Bool.and_eq_true] at np
    simp only [evalE] at ev ⊢
    split at ev
    · rename_i x s1 e1
      obtain ⟨s1', f1, l1⟩ := simE h a _ _ _ _ np.1 le e1
      split at ev
      · rename_i y s2 e2
        obtain ⟨s2', f2, l2⟩ := simE h b _ _ _ _ np.2.1 l1 e2
        split at ev
        · rename_i e3
          split at ev
          · rename_i z s3 e4
            obtain ⟨s3', f4, l3⟩ := simE h c _ _ _ _ np.2.2 l2 e4
            split at ev
            · rename_i r e5
              cases ev
              exact ⟨s3', by simp only [f1, f2, e3, f4, e5], l3⟩
            · cases ev
          · cases ev
        · rename_i e3
          cases ev
          exact ⟨s2', by simp only [f1, f2, e3], l2⟩
        · cases ev
      · cases ev
    · cases ev
  | .tup es, st, st', d, st1, np, le, ev => by
    simp only [npE] at np
    simp only [evalE] at ev ⊢
    split at ev
    · rename_i ds s1 e1
      obtain ⟨s1', f1, l1⟩ := simL h es _ _ _ _ np le e1
      split at ev
      · rename_i z
        cases ev
        exact ⟨s1', by simp only [f1, z, if_true], l1⟩
      · cases ev
    · cases ev
  | .lst es, st, st', d, st1, np, le, ev => by
    simp only [npE] at np
    simp only [evalE] at ev ⊢
    split at ev
    · rename_i ds s1 e1
      obtain ⟨s1', f1, l1⟩ := simL h es _ _ _ _ np le e1
      split at ev
      · rename_i z
        cases ev
        exact ⟨s1', by simp only [f1, z, if_true], l1⟩
      · cases ev
    · cases ev
  | .dct1 k v, st, st', d, st1, np, le, ev => by
    simp only [npE] at np
    simp only [evalE] at ev ⊢
    split at ev
    · rename_i x s1 e1
      cases ev
      obtain ⟨s1', f1, l1⟩ := simE h v _ _ _ _ np le.hush e1
      exact ⟨⟨st'.δ, s1'.π⟩, by simp only [f1], le.swap l1.pen⟩
    · cases ev
  | .lset a, st, st', d, st1, np, le, ev => by
    simp only [npE] at np
    simp only [evalE] at ev ⊢
    split at ev
    · rename_i x s1 e1
      obtain ⟨s1', f1, l1⟩ := simE h a _ _ _ _ np le e1
      split at ev
      · rename_i z e2
        cases ev
        exact ⟨s1', by simp only [f1, e2], l1⟩
      · cases ev
    · cases ev
  | .lenO i, st, st', d, st1, np, le, ev => by
    simp only [evalE] at ev ⊢
    split at ev
    · rename_i ds e1
      cases ev
      exact ⟨st', by simp only [le.δo e1], le⟩
    · cases ev
  | .neO i, st, st', d, st1, np, le, ev => by
    simp only [evalE] at ev ⊢
    split at ev
    · rename_i ds e1
      split at ev
      · rename_i z
        cases ev
        exact ⟨st', by simp only [le.δo e1, z, if_true], le⟩
      · cases ev
    · cases ev
  | .popO i c, st, st', d, st1, np, le, ev => by
    simp only [npE] at np
    simp only [evalE] at ev ⊢
    split at ev
    · rename_i ds0 e0
      split at ev
      · rename_i k s1 e1
        obtain ⟨s1', f1, l1⟩ := simE h c _ _ _ _ np le e1
        split at ev
        · rename_i ds e2
          split at ev
          · rename_i z
            split at ev
            · rename_i x e3
              cases ev
              exact ⟨s1'.own i (ds.eraseIdx k.toNat), by simp only [le.δo e0, f1, l1.δo e2, z, if_true, e3, and_self], l1.put i _⟩
            · cases ev
          · cases ev
        · cases ev
      · cases ev
    · cases ev
  | .frz i, st, st', d, st1, np, le, ev => by
    simp only [evalE] at ev ⊢
    split at ev
    · rename_i ds e1
      cases ev
      exact ⟨st'.set i (.list ds), by simp only [le.δo e1], le.put i _⟩
    · cases ev
  | .isi a tys, st, st', d, st1, np, le, ev => by
    simp only [npE] at np
    simp only [evalE] at ev ⊢
    split at ev
    · rename_i x s1 e1
      obtain ⟨s1', f1, l1⟩ := simE h a _ _ _ _ np le e1
      split at ev
      · rename_i z e2
        cases ev
        exact ⟨s1', by simp only [f1, e2], l1⟩
      · cases ev
    · cases ev
  | .call f es, st, st', d, st1, np, le, ev => by
    simp only [npE] at np
    simp only [evalE] at ev ⊢
    split at ev
    · rename_i ds s1 e1
      obtain ⟨s1', f1, l1⟩ := simL h es _ _ _ _ np le e1
      split at ev
      · rename_i z e2
        cases ev
        exact ⟨s1', by simp only [f1, h.fn _ _ _ e2], l1⟩
      · cases ev
    · cases ev
  | .op f es, st, st', d, st1, np, le, ev => by
    simp only [npE] at np
    simp only [evalE] at ev ⊢
    split at ev
    · rename_i ds s1 e1
      obtain ⟨s1', f1, l1⟩ := simL h es _ _ _ _ np le e1
      split at ev
      · rename_i z e2
        cases ev
        exact ⟨s1', by simp only [f1, h.ox _ _ _ e2], l1⟩
      · cases ev
    · cases ev
  | .pcall f j es, st, st', d, st1, np, le, ev => by
    simp only [npE] at np
    simp only [evalE] at ev ⊢
    split at ev
    · rename_i e0
      split at ev
      · rename_i ds s1 e1
        obtain ⟨s1', f1, l1⟩ := simL h es _ _ _ _ np le e1
        split at ev
        · rename_i p e2
          split at ev
          · rename_i x p' e3
            cases ev
            have lp := l1.pen
            rw [e2] at lp
            cases e4 : s1'.π with
            | none => rw [e4] at lp; exact lp.elim
            | some q =>
              rw [e4] at lp
              obtain ⟨q', f3, r⟩ := h.pf _ _ _ _ _ _ lp e3
              exact ⟨⟨s1'.δ, some q'⟩, by simp only [le.δp e0, f1, e4, f3], l1.swap r⟩
          · cases ev
        · cases ev
      · cases ev
    · cases ev
  | .blt b a, st, st', d, st1, np, le, ev => by
    simp only [npE] at np
    simp only [evalE] at ev ⊢
    split at ev
    · rename_i x s1 e1
      obtain ⟨s1', f1, l1⟩ := simE h a _ _ _ _ np le e1
      split at ev
      · rename_i z e2
        cases ev
        exact ⟨s1', by simp only [f1, e2], l1⟩
      · cases ev
    · cases ev
  | .comp e i it, st, st', d, st1, np, le, ev => by
    simp only [npE, Bool.and_eq_true] at np
    simp only [evalE] at ev ⊢
    split at ev
    · rename_i xs s1 e1
      obtain ⟨s1', f1, l1⟩ := simI h it _ _ _ _ np.2 le e1
      split at ev
      · rename_i z
        split at ev
        · rename_i ds p e2
          cases ev
          obtain ⟨p', f2, l2⟩ := sim_comp (fun st st' d st1 le ev => simE h e st st' d st1 np.1 le ev) i xs _ _ _ _ l1.hush e2
          exact ⟨⟨s1'.δ, p'⟩, by simp only [f1, z, if_true, f2], l1.swap l2⟩
        · cases ev
      · cases ev
    · cases ev
  | .sub a i, st, st', d, st1, np, le, ev => by
    simp only [npE, Bool.and_eq_true] at np
    simp only [evalE] at ev ⊢
    split at ev
    · rename_i x s1 e1
      obtain ⟨s1', f1, l1⟩ := simE h a _ _ _ _ np.1 le e1
      split at ev
      · rename_i y s2 e2
        obtain ⟨s2', f2, l2⟩ := simE h i _ _ _ _ np.2 l1 e2
        split at ev
        · rename_i z e3
          cases ev
          exact ⟨s2', by simp only [f1, f2, e3], l2⟩
        · cases ev
      · cases ev
    · cases ev
  | .upto a n, st, st', d, st1, np, le, ev => by
    simp only [npE, Bool.and_eq_true] at np
    simp only [evalE] at ev ⊢
    split at ev
    · rename_i xs s1 e1
      obtain ⟨s1', f1, l1⟩ := simE h a _ _ _ _ np.1 le e1
      split at ev
      · rename_i k s2 e2
        obtain ⟨s2', f2, l2⟩ := simE h n _ _ _ _ np.2 l1 e2
        split at ev
        · rename_i z
          cases ev
          exact ⟨s2', by simp only [f1, f2, z, if_true], l2⟩
        · cases ev
      · cases ev
    · cases ev
  | .cat a b, st, st', d, st1, np, le, ev => by
    simp only [npE, Bool.and_eq_true] at np
    simp only [evalE] at ev ⊢
    split at ev
    · rename_i xs s1 e1
      obtain ⟨s1', f1, l1⟩ := simE h a _ _ _ _ np.1 le e1
      split at ev
      · rename_i ys s2 e2
        obtain ⟨s2', f2, l2⟩ := simE h b _ _ _ _ np.2 l1 e2
        split at ev
        · rename_i z
          cases ev
          exact ⟨s2', by simp only [f1, f2, z, if_true], l2⟩
        · cases ev
      · cases ev
    · cases ev
  | .attr a f cE cI, st, st', d, st1, np, le, ev => by
    simp only [npE] at np
    simp only [evalE] at ev ⊢
    split at ev
    · rename_i x s1 e1
      obtain ⟨s1', f1, l1⟩ := simE h a _ _ _ _ np le e1
      split at ev
      · rename_i z e2
        cases ev
        exact ⟨s1', by simp only [f1, e2], l1⟩
      · cases ev
    · cases ev
  | .isc a tE tI tO, st, st', d, st1, np, le, ev => by
    simp only [npE] at np
    simp only [evalE] at ev ⊢
    split at ev
    · rename_i x s1 e1
      obtain ⟨s1', f1, l1⟩ := simE h a _ _ _ _ np le e1
      split at ev
      · rename_i z e2
        cases ev
        exact ⟨s1', by simp only [f1, e2], l1⟩
      · cases ev
    · cases ev
  | .rep a n, st, st', d, st1, np, le, ev => by
    simp only [npE, Bool.and_eq_true] at np
    simp only [evalE] at ev ⊢
    split at ev
    · rename_i xs s1 e1
      obtain ⟨s1', f1, l1⟩ := simE h a _ _ _ _ np.1 le e1
      split at ev
      · rename_i k s2 e2
        obtain ⟨s2', f2, l2⟩ := simE h n _ _ _ _ np.2 l1 e2
        split at ev
        · rename_i z
          cases ev
          exact ⟨s2', by simp only [f1, f2]; rw [if_pos z], l2⟩
        · cases ev
      · cases ev
    · cases ev
theorem simL (h : Sim R F F') : ∀ c st st' d st1, npL c = true → Le R st st' → evalL F c st = some (d, st1) → ∃ st1', evalL F' c st' = some (d, st1') ∧ Le R st1 st1'
  | .nil, st, st', d, st1, np, le, ev => by
    cases ev
    exact ⟨st', rfl, le⟩
  | .cons c cs, st, st', d, st1, np, le, ev => by
    simp only [npL, Bool.and_eq_true] at np
    simp only [evalL] at ev ⊢
    split at ev
    · rename_i x s1 e1
      obtain ⟨s1', f1, l1⟩ := simE h c _ _ _ _ np.1 le e1
      split at ev
      · rename_i y s2 e2
        cases ev
        obtain ⟨s2', f2, l2⟩ := simL h cs _ _ _ _ np.2 l1 e2
        exact ⟨s2', by simp only [f1, f2], l2⟩
      · cases ev
    · cases ev
theorem simI (h : Sim R F F') : ∀ c st st' d st1, npI c = true → Le R st st' → evalI F c st = some (d, st1) → ∃ st1', evalI F' c st' = some (d, st1') ∧ Le R st1 st1'
  | .seq c, st, st', d, st1, np, le, ev => by
    simp only [npI] at np
    simp only [evalI] at ev ⊢
    split at ev
    · rename_i x s1 e1
      obtain ⟨s1', f1, l1⟩ := simE h c _ _ _ _ np le e1
      split at ev
      · rename_i z e2
        cases ev
        exact ⟨s1', by simp only [f1, e2], l1⟩
      · cases ev
    · cases ev
  | .rng c, st, st', d, st1, np, le, ev => by
    simp only [npI] at np
    simp only [evalI] at ev ⊢
    split at ev
    · rename_i n s1 e1
      obtain ⟨s1', f1, l1⟩ := simE h c _ _ _ _ np le e1
      split at ev
      · rename_i z
        cases ev
        exact ⟨s1', by simp only [f1, z, if_true, and_self], l1⟩
      · cases ev
    · cases ev
end
theorem simO (h : Sim R F F') : ∀ c st st' d st1, npO c = true → Le R st st' → evalO F c st = some (d, st1) → ∃ st1', evalO F' c st' = some (d, st1') ∧ Le R st1 st1'
  | .disp es, st, st', d, st1, np, le, ev => by
    simp only [npO] at np
    simp only [evalO] at ev ⊢
    split at ev
    · rename_i ds s1 e1
      obtain ⟨s1', f1, l1⟩ := simL h es _ _ _ _ np le e1
      split at ev
      · rename_i z
        cases ev
        exact ⟨s1', by simp only [f1, z, if_true], l1⟩
      · cases ev
    · cases ev
  | .lst c, st, st', d, st1, np, le, ev => by
    simp only [npO] at np
    simp only [evalO] at ev ⊢
    split at ev
    · rename_i ds s1 e1
      cases ev
      obtain ⟨s1', f1, l1⟩ := simE h c _ _ _ _ np le e1
      exact ⟨s1', by simp only [f1], l1⟩
    · rename_i ds s1 e1
      cases ev
      obtain ⟨s1', f1, l1⟩ := simE h c _ _ _ _ np le e1
      exact ⟨s1', by simp only [f1], l1⟩
    · cases ev
  | .comp e i it, st, st', d, st1, np, le, ev => by
    simp only [npO, Bool.and_eq_true] at np
    simp only [evalO] at ev ⊢
    split at ev
    · rename_i xs s1 e1
      obtain ⟨s1', f1, l1⟩ := simI h it _ _ _ _ np.2 le e1
      split at ev
      · rename_i z
        split at ev
        · rename_i ds p e2
          cases ev
          obtain ⟨p', f2, l2⟩ := sim_comp (fun st st' d st1 le ev => simE h e st st' d st1 np.1 le ev) i xs _ _ _ _ l1.hush e2
          exact ⟨⟨s1'.δ, p'⟩, by simp only [f1, z, if_true, f2], l1.swap l2⟩
        · cases ev
      · cases ev
    · cases ev
/-- ends alike -/
def LeO (R : Pen → Pen → Prop) : Out → Out → Prop
  | .nx a, .nx b => Le R a b
  | .rt d p, .rt d' p' => d = d' ∧ LeP R p p'
  | _, _ => False
theorem sim_for {b : S → Option Out} {b' : S → Option Out} (ih : ∀ st st' out, Le R st st' → b st = some out → ∃ out', b' st' = some out' ∧ LeO R out out') (i : Nat) :
    ∀ xs st st' out, Le R st st' → forLoop b i xs st = some out → ∃ out', forLoop b' i xs st' = some out' ∧ LeO R out out'
  | [], st, st', out, le, ev => by
    cases ev
    exact ⟨.nx st', rfl, le⟩
  | x :: xs, st, st', out, le, ev => by
    simp only [forLoop] at ev ⊢
    split at ev
    · rename_i s1 e1
      obtain ⟨o1, f1, l1⟩ := ih _ (st'.set i x) _ (le.put i (.dat x)) e1
      cases o1 with
      | nx s1' =>
        obtain ⟨o2, f2, l2⟩ := sim_for ih i xs _ s1' _ l1 ev
        exact ⟨o2, by simp only [f1, f2], l2⟩
      | rt _ _ => exact l1.elim
    · rename_i d p e1
      cases ev
      obtain ⟨o1, f1, l1⟩ := ih _ (st'.set i x) _ (le.put i (.dat x)) e1
      cases o1 with
      | nx s1' => exact l1.elim
      | rt d' p' => exact ⟨.rt d' p', by simp only [f1], l1⟩
    · cases ev
theorem sim_enum {b : S → Option Out} {b' : S → Option Out} (ih : ∀ st st' out, Le R st st' → b st = some out → ∃ out', b' st' = some out' ∧ LeO R out out') (i j : Nat) :
    ∀ n xs st st' out, Le R st st' → enumLoop b i j n xs st = some out → ∃ out', enumLoop b' i j n xs st' = some out' ∧ LeO R out out'
  | n, [], st, st', out, le, ev => by
    cases ev
    exact ⟨.nx st', rfl, le⟩
  | n, x :: xs, st, st', out, le, ev => by
    simp only [enumLoop] at ev ⊢
    split at ev
    · rename_i s1 e1
      obtain ⟨o1, f1, l1⟩ := ih _ ((st'.set i (.int n)).set j x) _ ((le.put i (.dat (.int n))).put j (.dat x)) e1
      cases o1 with
      | nx s1' =>
        obtain ⟨o2, f2, l2⟩ := sim_enum ih i j (n + 1) xs _ s1' _ l1 ev
        exact ⟨o2, by simp only [f1, f2], l2⟩
      | rt _ _ => exact l1.elim
    · rename_i d p e1
      cases ev
      obtain ⟨o1, f1, l1⟩ := ih _ ((st'.set i (.int n)).set j x) _ ((le.put i (.dat (.int n))).put j (.dat x)) e1
      cases o1 with
      | nx s1' => exact l1.elim
      | rt d' p' => exact ⟨.rt d' p', by simp only [f1], l1⟩
    · cases ev
theorem sim_while {t t' : S → Option (PyData × S)} {b b' : S → Option Out} (it : ∀ st st' d st1, Le R st st' → t st = some (d, st1) → ∃ st1', t' st' = some (d, st1') ∧ Le R st1 st1') (ih : ∀ st st' out, Le R st st' → b st = some out → ∃ out', b' st' = some out' ∧ LeO R out out') :
    ∀ n st st' out, Le R st st' → whileLoop t b n st = some out → ∃ out', whileLoop t' b' n st' = some out' ∧ LeO R out out'
  | 0, st, st', out, le, ev => by cases ev
  | n + 1, st, st', out, le, ev => by
    simp only [whileLoop] at ev ⊢
    split at ev
    · rename_i d s1 e1
      obtain ⟨s1', f1, l1⟩ := it _ _ _ _ le e1
      split at ev
      · rename_i e2
        split at ev
        · rename_i s2 e3
          obtain ⟨o3, f3, l3⟩ := ih _ _ _ l1 e3
          cases o3 with
          | nx s2' =>
            obtain ⟨o4, f4, l4⟩ := sim_while it ih n _ s2' _ l3 ev
            exact ⟨o4, by simp only [f1, e2, f3, f4], l4⟩
          | rt _ _ => exact l3.elim
        · rename_i d' p e3
          cases ev
          obtain ⟨o3, f3, l3⟩ := ih _ _ _ l1 e3
          cases o3 with
          | nx s2' => exact l3.elim
          | rt d2 p2 => exact ⟨.rt d2 p2, by simp only [f1, e2, f3], l3⟩
        · cases ev
      · rename_i e2
        cases ev
        exact ⟨.nx s1', by simp only [f1, e2], l1⟩
      · cases ev
    · cases ev
theorem Le.putAll {R : Pen → Pen → Prop} : ∀ {js : List Nat} {zs : List PyData} {st st' : S}, Le R st st' → Le R (st.setAll js zs) (st'.setAll js zs)
  | [], _, _, _, l => l
  | _ :: _, [], _, _, l => l
  | j :: js, z :: zs, _, _, l => Le.putAll (js := js) (zs := zs) (l.put j (.dat z))
mutual
theorem simS (h : Sim R F F') : ∀ c st st' out, npS c = true → Le R st st' → evalS F c st = some out → ∃ out', evalS F' c st' = some out' ∧ LeO R out out'
  | .asg i c, st, st', out, np, le, ev => by
    simp only [npS] at np
    simp only [evalS] at ev ⊢
    split at ev
    · rename_i d s1 e1
      cases ev
      obtain ⟨s1', f1, l1⟩ := simE h c _ _ _ _ np le e1
      exact ⟨.nx (s1'.set i d), by simp only [f1], l1.put i _⟩
    · cases ev
  | .par i j a b, st, st', out, np, le, ev => by
    simp only [npS, Bool.and_eq_true] at np
    simp only [evalS] at ev ⊢
    split at ev
    · rename_i x s1 e1
      obtain ⟨s1', f1, l1⟩ := simE h a _ _ _ _ np.1 le e1
      split at ev
      · rename_i y s2 e2
        cases ev
        obtain ⟨s2', f2, l2⟩ := simE h b _ _ _ _ np.2 l1 e2
        exact ⟨.nx ((s2'.set i x).set j y), by simp only [f1, f2], (l2.put i (.dat x)).put j (.dat y)⟩
      · cases ev
    · cases ev
  | .ret c, st, st', out, np, le, ev => by
    simp only [npS] at np
    simp only [evalS] at ev ⊢
    split at ev
    · rename_i d s1 e1
      cases ev
      obtain ⟨s1', f1, l1⟩ := simE h c _ _ _ _ np le e1
      exact ⟨.rt d s1'.π, by simp only [f1], rfl, l1.pen⟩
    · cases ev
  | .ifs t a b, st, st', out, np, le, ev => by
    simp only [npS, Bool.and_eq_true] at np
    simp only [evalS] at ev ⊢
    split at ev
    · rename_i d s1 e1
      obtain ⟨s1', f1, l1⟩ := simE h t _ _ _ _ np.1 le e1
      split at ev
      · rename_i e2
        obtain ⟨o2, f2, l2⟩ := simSs h a _ _ _ np.2.1 l1 ev
        exact ⟨o2, by simp only [f1, e2, f2], l2⟩
      · rename_i e2
        obtain ⟨o2, f2, l2⟩ := simSs h b _ _ _ np.2.2 l1 ev
        exact ⟨o2, by simp only [f1, e2, f2], l2⟩
      · cases ev
    · cases ev
  | .for_ i it b, st, st', out, np, le, ev => by
    simp only [npS, Bool.and_eq_true] at np
    simp only [evalS] at ev ⊢
    split at ev
    · rename_i xs s1 e1
      obtain ⟨s1', f1, l1⟩ := simI h it _ _ _ _ np.1 le e1
      split at ev
      · rename_i z
        obtain ⟨o2, f2, l2⟩ := sim_for (fun st st' out le ev => simSs h b st st' out np.2 le ev) i xs _ _ _ l1 ev
        exact ⟨o2, by simp only [f1, z, if_true, f2], l2⟩
      · cases ev
    · cases ev
  | .par3 i j l a b c, st, st', out, np, le, ev => by
    simp only [npS, Bool.and_eq_true] at np
    simp only [evalS] at ev ⊢
    split at ev
    · rename_i x s1 e1
      obtain ⟨s1', f1, l1⟩ := simE h a _ _ _ _ np.1 le e1
      split at ev
      · rename_i y s2 e2
        obtain ⟨s2', f2, l2⟩ := simE h b _ _ _ _ np.2.1 l1 e2
        split at ev
        · rename_i z s3 e3
          obtain ⟨s3', f3, l3⟩ := simE h c _ _ _ _ np.2.2 l2 e3
          cases ev
          exact ⟨.nx (((s3'.set i x).set j y).set l z), by simp only [f1, f2, f3], ((l3.put i (.dat x)).put j (.dat y)).put l (.dat z)⟩
        · cases ev
      · cases ev
    · cases ev
  | .op f es js, st, st', out, np, le, ev => by
    simp only [npS] at np
    simp only [evalS] at ev ⊢
    split at ev
    · rename_i ds s1 e1
      obtain ⟨s1', f1, l1⟩ := simL h es _ _ _ _ np le e1
      split at ev
      · rename_i zs e2
        split at ev
        · rename_i hz
          cases ev
          exact ⟨.nx (s1'.setAll js zs), by simp only [f1, h.ox _ _ _ e2, hz, if_true], l1.putAll⟩
        · cases ev
      · cases ev
    · cases ev
  | .forE i j c b, st, st', out, np, le, ev => by
    simp only [npS, Bool.and_eq_true] at np
    simp only [evalS] at ev ⊢
    split at ev
    · rename_i xs s1 e1
      obtain ⟨s1', f1, l1⟩ := simE h c _ _ _ _ np.1 le e1
      split at ev
      · rename_i z
        obtain ⟨o2, f2, l2⟩ := sim_enum (fun st st' out le ev => simSs h b st st' out np.2 le ev) i j 0 xs _ _ _ l1 ev
        exact ⟨o2, by simp only [f1, z, if_true, f2], l2⟩
      · cases ev
    · cases ev
  | .expr c, st, st', out, np, le, ev => by
    simp only [npS] at np
    simp only [evalS] at ev ⊢
    split at ev
    · rename_i d s1 e1
      cases ev
      obtain ⟨s1', f1, l1⟩ := simE h c _ _ _ _ np le e1
      exact ⟨.nx s1', by simp only [f1], l1⟩
    · cases ev
  | .asgO i c, st, st', out, np, le, ev => by
    simp only [npS] at np
    simp only [evalS] at ev ⊢
    split at ev
    · rename_i d s1 e1
      cases ev
      obtain ⟨s1', f1, l1⟩ := simO h c _ _ _ _ np le e1
      exact ⟨.nx (s1'.own i d), by simp only [f1], l1.put i _⟩
    · cases ev
  | .parO i j a b, st, st', out, np, le, ev => by
    simp only [npS, Bool.and_eq_true] at np
    simp only [evalS] at ev ⊢
    split at ev
    · rename_i x s1 e1
      obtain ⟨s1', f1, l1⟩ := simO h a _ _ _ _ np.1 le e1
      split at ev
      · rename_i y s2 e2
        obtain ⟨s2', f2, l2⟩ := simO h b _ _ _ _ np.2 l1.hush e2
        split at ev
        · cases ev
        · rename_i z
          cases ev
          exact ⟨.nx ((S.own ⟨s1'.δ, s2'.π⟩ i x).own j y), by simp only [f1, f2, z, if_false], ((l1.swap l2.pen).put i (.own x)).put j (.own y)⟩
      · cases ev
    · cases ev
  | .appO i c, st, st', out, np, le, ev => by
    simp only [npS] at np
    simp only [evalS] at ev ⊢
    split at ev
    · rename_i ds0 e0
      split at ev
      · rename_i d s1 e1
        obtain ⟨s1', f1, l1⟩ := simE h c _ _ _ _ np le e1
        split at ev
        · rename_i ds e2
          split at ev
          · rename_i z
            cases ev
            exact ⟨.nx (s1'.own i (ds ++ [d])), by simp only [le.δo e0, f1, l1.δo e2, z, if_true], l1.put i _⟩
          · cases ev
        · cases ev
      · cases ev
    · cases ev
  | .while_ t b, st, st', out, np, le, ev => by
    simp only [npS, Bool.and_eq_true] at np
    simp only [evalS] at ev ⊢
    exact sim_while (fun st st' d st1 le ev => simE h t st st' d st1 np.1 le ev) (fun st st' out le ev => simSs h b st st' out np.2 le ev) _ _ _ _ le ev
theorem simSs (h : Sim R F F') : ∀ c st st' out, npSs c = true → Le R st st' → evalSs F c st = some out → ∃ out', evalSs F' c st' = some out' ∧ LeO R out out'
  | .nil, st, st', out, np, le, ev => by
    cases ev
    exact ⟨.nx st', rfl, le⟩
  | .cons s ss, st, st', out, np, le, ev => by
    simp only [npSs, Bool.and_eq_true] at np
    simp only [evalSs] at ev ⊢
    split at ev
    · rename_i s1 e1
      obtain ⟨o1, f1, l1⟩ := simS h s _ _ _ np.1 le e1
      cases o1 with
      | nx s1' =>
        obtain ⟨o2, f2, l2⟩ := simSs h ss _ _ _ np.2 l1 ev
        exact ⟨o2, by simp only [f1, f2], l2⟩
      | rt _ _ => exact l1.elim
    · rename_i d p e1
      cases ev
      obtain ⟨o1, f1, l1⟩ := simS h s _ _ _ np.1 le e1
      cases o1 with
      | nx s1' => exact l1.elim
      | rt d' p' => exact ⟨.rt d' p', by simp only [f1], l1⟩
    · cases ev
end
end
end Kd


set_option Elab.async false
set_option linter.all false
set_option maxRecDepth 100000
set_option maxHeartbeats 8000000
namespace Kd
open PySem PySem.Spec PyProof.Rows L2
/-! ### a run step by step -/
section
variable {F : Fns} {st st1 st2 st3 : S} {a b c t : C} {x y z d : PyData} {op : Operator}
theorem ev_var {i : Nat} (h : st.get i = some d) : evalE F (.var i) st = some (d, st) := by simp only [evalE, h]
theorem ev_cst : evalE F (.cst d) st = some (d, st) := rfl
theorem ev_bin (ha : evalE F a st = some (x, st1)) (hb : evalE F b st1 = some (y, st2)) (h : binD op x y = some z) : evalE F (.bin op a b) st = some (z, st2) := by simp only [evalE, ha, hb, h]
theorem ev_cmp {op : CmpOp} {r : Bool} (ha : evalE F a st = some (x, st1)) (hb : evalE F b st1 = some (y, st2)) (h : cmpD op x y = some r) : evalE F (.cmp op a b) st = some (.bool r, st2) := by simp only [evalE, ha, hb, h]
theorem ev_blt {k : Bt} (ha : evalE F a st = some (x, st1)) (h : bltD k x = some z) : evalE F (.blt k a) st = some (z, st1) := by simp only [evalE, ha, h]
theorem ev_andT {o : Option (PyData × S)} (ha : evalE F a st = some (.bool true, st1)) (hb : evalE F b st1 = o) : evalE F (.and_ a b) st = o := by simp only [evalE, ha, hb]
theorem ev_andF (ha : evalE F a st = some (.bool false, st1)) : evalE F (.and_ a b) st = some (.bool false, st1) := by simp only [evalE, ha]
theorem ev_penAt {j : Nat} {π : Pen} {k n : Int} (h1 : st.δ[j]? = some .pen) (h2 : st.π = some π) (h : evalE F c st = some (.int k, st1)) (h3 : atI π.ns k = some n) : evalE F (.penAt j c) st = some (.int n, st1) := by simp only [evalE, h1, h2, h, h3]
theorem s_asg {i : Nat} (h : evalE F a st = some (d, st1)) : evalS F (.asg i a) st = some (.nx (st1.set i d)) := by simp only [evalS, h]
theorem s_ret (h : evalE F a st = some (d, st1)) : evalS F (.ret a) st = some (.rt d st1.π) := by simp only [evalS, h]
theorem s_penS1 {j : Nat} {n : Int} {π : Pen} (h : evalE F a st = some (.int n, st1)) (h1 : st1.δ[j]? = some .pen) (h2 : st1.π = some π) : evalS F (.penS j 1 a) st = some (.nx ⟨st1.δ, some ⟨π.ns, n, π.g⟩⟩) := by simp only [evalS, h, h1, h2]
theorem s_penS2 {j : Nat} {n : Int} {π : Pen} (h : evalE F a st = some (.int n, st1)) (h1 : st1.δ[j]? = some .pen) (h2 : st1.π = some π) : evalS F (.penS j 2 a) st = some (.nx ⟨st1.δ, some ⟨π.ns, π.lap, n⟩⟩) := by simp only [evalS, h, h1, h2]
theorem s_ifT {a b : Sds} {o : Option Out} (h : evalE F t st = some (d, st1)) (ht : truthD d = some true) (ha : evalSs F a st1 = o) : evalS F (.ifs t a b) st = o := by simp only [evalS, h, ht, ha]
theorem s_ifF {a b : Sds} {o : Option Out} (h : evalE F t st = some (d, st1)) (ht : truthD d = some false) (hb : evalSs F b st1 = o) : evalS F (.ifs t a b) st = o := by simp only [evalS, h, ht, hb]
theorem ss_nx {s : Sd} {ss : Sds} {o : Option Out} (h : evalS F s st = some (.nx st1)) (r : evalSs F ss st1 = o) : evalSs F (.cons s ss) st = o := by simp only [evalSs, h, r]
theorem ss_rt {s : Sd} {ss : Sds} {p : Option Pen} (h : evalS F s st = some (.rt d p)) : evalSs F (.cons s ss) st = some (.rt d p) := by simp only [evalSs, h]
theorem ss_nil : evalSs F .nil st = some (.nx st) := rfl
end
def atS : Sds → Nat → Sd
  | .cons s _, 0 => s
  | .cons _ ss, n + 1 => atS ss n
  | .nil, _ => .ret (.cst .none)
def dropS : Sds → Nat → Sds
  | ss, 0 => ss
  | .cons _ ss, n + 1 => dropS ss n
  | .nil, _ => .nil
theorem b_add (i j : Int) : binD .Add (.int i) (.int j) = some (.int (i + j)) := rfl
theorem b_sub (i j : Int) : binD .Sub (.int i) (.int j) = some (.int (i - j)) := rfl
theorem b_multL (i j : Int) (h : -(2 ^ 64) < i ∧ i < 2 ^ 64) : binD .Mult (.int i) (.int j) = some (.int (i * j)) := if_pos (.inl h)
theorem b_multR (i j : Int) (h : -(2 ^ 64) < j ∧ j < 2 ^ 64) : binD .Mult (.int i) (.int j) = some (.int (i * j)) := if_pos (.inr h)
theorem b_fdiv (i j : Int) (h0 : 0 < j) (h1 : j < 1073741824) : binD .FloorDiv (.int i) (.int j) = some (.int (i / j)) := if_pos ⟨h0, h1⟩
theorem b_mod (i j : Int) (h0 : 0 < j) : binD .Mod (.int i) (.int j) = some (.int (i % j)) := if_pos h0
theorem b_pow {i j : Int} (n : Nat) (hj : j = n) (h : (n : Int) ≤ 1000000) (h2 : i.natAbs < 2 ^ 64) : binD .Pow (.int i) (.int j) = some (.int (i ^ n)) := by
  subst hj
  exact if_pos ⟨by omega, h, h2⟩
theorem t_bool (b : Bool) : bltD .toInt (.bool b) = some (.int (if b then 1 else 0)) := rfl
theorem t_abs (i : Int) : bltD .abs (.int i) = some (.int (if i < 0 then -i else i)) := rfl
theorem c_lt (i j : Int) : cmpD .Lt (.int i) (.int j) = some (decide (i < j)) := rfl
theorem c_gt (i j : Int) : cmpD .Gt (.int i) (.int j) = some (decide (j < i)) := rfl
theorem c_ge (i j : Int) : cmpD .GtE (.int i) (.int j) = some (decide (j ≤ i)) := rfl
theorem atI_ok {ns : List Int} {i : Int} (h0 : 0 ≤ i) (h1 : i < ns.length) : ∃ n, atI ns i = some n := by
  obtain ⟨k, rfl⟩ : ∃ k : Nat, i = k := ⟨i.toNat, by omega⟩
  have hk : k < ns.length := by omega
  refine ⟨ns[k], ?_⟩
  unfold atI ixN
  simp [hk, show ((k : Int) < ns.length) by omega]
/-! ### draws by a tape: number of ways and the draw, by turns -/
def TpR (dr : List PyData → Pen → Option (PyData × Pen)) (E : Pen → Prop) : List Int → Pen → Prop
  | [], π => E π
  | [_], _ => False
  | m :: t :: ts, π => ∃ π', dr [.int m] π = some (.int t, π') ∧ TpR dr E ts π'
def tapeF (ds : List PyData) (π : Pen) : Option (PyData × Pen) := match ds with
  | [.int m] => match π.ns with
    | m' :: t :: ts => if m' = m then some (.int t, ⟨ts, 0, 0⟩) else none
    | _ => none
  | _ => none
def TpS (dr : List PyData → Pen → Option (PyData × Pen)) (E : Pen → Prop) (π1 π2 : Pen) : Prop := TpR dr E π1.ns π2
theorem sim_tape {dr : List PyData → Pen → Option (PyData × Pen)} {E : Pen → Prop} {ds : List PyData} {π π' : Pen} {d : PyData} {π1 : Pen} (r : TpS dr E π π') (h : tapeF ds π = some (d, π1)) : ∃ π1', dr ds π' = some (d, π1') ∧ TpS dr E π1 π1' := by
  unfold tapeF at h
  split at h
  · rename_i m
    split at h
    · rename_i m' t ts e
      split at h
      · rename_i em
        cases h
        subst em
        unfold TpS at r ⊢
        rw [e] at r
        exact r
      · cases h
    · cases h
  · cases h
theorem sim_bodyP {R : Pen → Pen → Prop} {F F' : Fns} (h : Sim R F F') {c : Sds} (np : npSs c = true) {N : List Str} {ds : List PyData} {π π' : Pen} {d : PyData} {π1 : Pen} (r : R π π') (e : bodyP F c N ds π = some (d, π1)) : ∃ π1', bodyP F' c N ds π' = some (d, π1') ∧ R π1 π1' := by
  unfold bodyP at e ⊢
  have le : Le R ⟨init N (.pen :: ds.map .dat), some π⟩ ⟨init N (.pen :: ds.map .dat), some π'⟩ := ⟨rfl, fun i x h => .inr h, r⟩
  split at e
  · rename_i d' p' ev
    cases e
    obtain ⟨o, f, l⟩ := simSs h c _ _ _ np le ev
    cases o with
    | nx s => exact l.elim
    | rt d2 p2 =>
      obtain ⟨rfl, l⟩ := l
      cases p2 with
      | none => exact l.elim
      | some q => exact ⟨q, by rw [f], l⟩
  · rename_i s p' ev
    cases e
    obtain ⟨o, f, l⟩ := simSs h c _ _ _ np le ev
    cases o with
    | rt d2 p2 => exact l.elim
    | nx s2 =>
      have lp := l.pen
      obtain ⟨δ2, p2⟩ := s2
      cases p2 with
      | none => exact lp.elim
      | some q => exact ⟨q, by rw [f], lp⟩
  · cases e
/-- a pen whose laps are few -/
structure Pg (b : Int) (π : Pen) : Prop where
  lo : 0 ≤ π.lap
  hi : π.lap ≤ b
/-- what a draw does -/
def Draws (dr : List PyData → Pen → Option (PyData × Pen)) : Prop := ∀ π b m, Pg b π → b ≤ 1000000 → 0 < m → m < 1073741824 → ∃ d π', dr [.int m] π = some (.int d, π') ∧ 0 ≤ d ∧ d < m ∧ Pg (b + 1) π'
/-- numbers drawn, each below its many -/
def Low : List Int → List Int → Prop
  | [], [] => True
  | m :: ms, t :: ts => (0 ≤ t ∧ t < m) ∧ Low ms ts
  | _, _ => False
def zipT : List Int → List Int → List Int
  | m :: ms, t :: ts => m :: t :: zipT ms ts
  | _, _ => []
theorem tape_ex {dr : List PyData → Pen → Option (PyData × Pen)} (D : Draws dr) : ∀ (ms : List Int) {b : Int} {π : Pen}, Pg b π → b + ms.length ≤ 1000000 → (∀ m ∈ ms, 0 < m ∧ m < 1073741824) → ∃ ts, Low ms ts ∧ TpR dr (Pg (b + ms.length)) (zipT ms ts) π
  | [], b, π, P, _, _ => ⟨[], trivial, by show Pg _ _; simpa using P⟩
  | m :: ms, b, π, P, hb, hm => by
    simp only [List.length_cons] at hb
    have h1 := hm m (List.mem_cons_self ..)
    obtain ⟨d, π', e, d0, d1, P'⟩ := D π b m P (by omega) h1.1 h1.2
    obtain ⟨ts, l, r⟩ := tape_ex D ms P' (by omega) fun m' h' => hm m' (List.mem_cons_of_mem _ h')
    refine ⟨d :: ts, ⟨⟨d0, d1⟩, l⟩, π', e, ?_⟩
    have z : b + ((m :: ms).length : Int) = b + 1 + ms.length := by simp only [List.length_cons]; omega
    rw [z]
    exact r
/-- all rows of numbers below their many -/
def rows : List Int → List (List Int)
  | [] => [[]]
  | m :: ms => (List.range m.toNat).flatMap fun (t : Nat) => (rows ms).map fun l => (t : Int) :: l
theorem low_rows : ∀ {ms ts : List Int}, Low ms ts → ts ∈ rows ms
  | [], [], _ => List.mem_singleton.mpr rfl
  | [], _ :: _, h => h.elim
  | _ :: _, [], h => h.elim
  | m :: ms, t :: ts, ⟨h, r⟩ => by
    unfold rows
    rw [List.mem_flatMap]
    refine ⟨t.toNat, List.mem_range.mpr (by omega), ?_⟩
    rw [List.mem_map]
    exact ⟨ts, low_rows r, by rw [Int.toNat_of_nonneg h.1]⟩
end Kd


set_option Elab.async false
set_option linter.all false
set_option maxRecDepth 100000
set_option maxHeartbeats 8000000
namespace Kd
open PySem PySem.Spec PyProof.Rows L2
/-! ### defs that stand in the module -/
structure Df (K : PySem.W.Frag) (mg : Str → Option Value) (x : Str) (st : Stmt) : Prop where
  ex : ∃ f fd, mg x = some (.ref f) ∧ Fun K x x st f fd
theorem df_mk {K : PySem.W.Frag} {h : Heap} {mg : Str → Option Value} (X : K.In h) (G : h.Ns mainGlobals mg) {x : Str} {st : Stmt} {f : Addr} {oc : Value} {od an : Option Addr} {osl : Array (Option Value)} {kV doc pm cdv ct : Value}
    (a : PySem.W.nsIn K mainGlobals x = some (some (.ref f))) (l : K.lookup f = some ⟨oc, od, .func (PySem.W.fnOf x x (defArgs st) (defBody st) (defScope st) .none kV doc pm an cdv ct), osl⟩)
    (c : PySem.W.codeIn K cdv x = true) (k : PySem.W.keepIn K (.ref f) = true) : Df K mg x st := ⟨f, _, PySem.W.mg_of X G a, fun_mk l c k⟩
def BindAt (x : Str) (st : Stmt) (ps : List Str) (e : En) : Prop := ∀ (kV doc pm : Value) (an : Option Addr) (cdv ct : Value) (us ws : List Value), us.length = e.n → ws.length = e.ks.length →
  bindArgs (PySem.W.fnOf x x (defArgs st) (defBody st) (defScope st) .none kV doc pm an cdv ct) ⟨us, e.ks.zip ws⟩ = pure (ps.zip (pick e.pm (us ++ ws)))
def BindAll (x : Str) (st : Stmt) (ps : List Str) : Prop := ∀ (kV doc pm : Value) (an : Option Addr) (cdv ct : Value) (us : List Value), us.length = ps.length →
  bindArgs (PySem.W.fnOf x x (defArgs st) (defBody st) (defScope st) .none kV doc pm an cdv ct) ⟨us, []⟩ = pure (ps.zip us)
section
variable {P : Program} {w : World} {K : PySem.W.Frag} {mg : Str → Option Value} {base : Heap} {j k : Nat} {st : Stmt} {ps : List Str}
theorem fnF_of {e : En} {m0 m : List PyData → Option PyData} (D : Df K mg e.x st) (hF : ∀ f fd, Fun K e.x e.x st f fd → FG P w K mg base CX0 j f fd ps (SpF K m0)) (hj : j ≤ k) (hb : BindAt e.x st ps e) (hm : ∀ ds d, m ds = some d → m0 (pick e.pm ds) = some d) :
    FnF P w K mg base k e m := by
  obtain ⟨f, fd, h1, F⟩ := D.ex
  have G := (hF f fd F).mono hj
  have kp := F.kp
  obtain ⟨oc, od, kV, doc, pm, an, cdv, ct, osl, rfl, lk, hcd⟩ := F.ex
  exact ⟨f, h1, kp, fun A outer s H us ws vs Q ds d B room gd env hu hw rv sb dv hd q => G.run A outer s H ⟨us, e.ks.zip ws⟩ (pick e.pm (us ++ ws)) (pick e.pm vs) Q (fun _ _ _ => False) room gd env (.of_eq (hb kV doc pm an cdv ct us ws hu hw)) (vals_pick rv _)
    ⟨pick e.pm ds, d, B, sb, dv.pick _, hm _ _ hd, q⟩⟩
theorem pfF_of {x : Str} {m : List PyData → Pen → Option (PyData × Pen)} (D : Df K mg x st) (hF : ∀ f fd, Fun K x x st f fd → FG P w K mg base CX0 j f fd ps (SpP K m)) (hj : j ≤ k) (hb : BindAll x st ps) : PfF P w K mg base k x m := by
  obtain ⟨f, fd, h1, F⟩ := D.ex
  exact ⟨f, fd, ps, h1, F.kp, (hF f fd F).mono hj, F.binds hb⟩
theorem bl_of {BL l : List Str} (T : ∀ y ∈ BL, mg y = none) (h : (l.all fun y => BL.contains y) = true) : ∀ y ∈ l, mg y = none := fun y hy => T y (by simpa using List.all_eq_true.mp h y hy)
theorem gl_str {x : Str} {s : Str} {t : Tok} (h : mg x = some (.str s t)) : ∃ v u, mg x = some u ∧ RelV v u ∧ ∀ B, Dv K B v (.str s) := ⟨.str s, _, h, ⟨t, rfl⟩, fun _ => .str s⟩
end
end Kd
namespace Kd
open PySem PySem.Spec PyProof.Rows L2
theorem gl_tup {K : PySem.W.Frag} {mg : Str → Option Value} {x : Str} {a : Addr} {od : Option Addr} {its : Array Value} {n : Nat} {sl : Array (Option Value)} {vs : List V} {ds : List PyData} (h : mg x = some (.ref a))
    (l : K.lookup a = some ⟨.type "tuple", od, .seq its n, sl⟩) (hz : its.size ≤ sizeLine) (r : Vals vs its.toList) (dv : ∀ B, DvL K B vs ds) : ∃ v u, mg x = some u ∧ RelV v u ∧ ∀ B, Dv K B v (.tuple ds) :=
  ⟨.ref a, _, h, rfl, fun B => .tup (.inr ⟨_, its, n, l, rfl, rfl, hz, r⟩) (dv B)⟩
end Kd


set_option Elab.async false
set_option linter.all false
set_option maxRecDepth 100000
set_option maxHeartbeats 4000000
namespace Kd
open PySem PySem.Spec PyProof.Rows L2

/-! ### methods that name super: one free name, the class -/
abbrev envS (qual : Str) (sc : Scope) (n f : Addr) (cd : Value) (cc : Addr) : Env := PySem.W.envX qual sc n f cd [("__class__", cc)]
def cxS (CX : CXT) (P : Program) (w : World) (K : PySem.W.Frag) (mg : Str → Option Value) (base : Heap) (N : List Str) (qual : Str) (scope : Scope) (f : Addr) (cd : Value) (cc : Addr) (A : Around) (outer : List Env) (s : Shared) (H : Hp) (E : XK) : Cx :=
  { cxOf CX P w K mg base N qual scope f cd A outer s H E with
    A := A.deeper (envS qual scope s.heap.objs.size f cd cc)
    env := envS qual scope s.heap.objs.size f cd cc
    stack := envS qual scope s.heap.objs.size f cd cc :: outer
    fn := fun y => !(y == "__class__")
    xe := fun e s' => wpAny (model P w) (A.deeper (envS qual scope s.heap.objs.size f cd cc)) (leaving (envS qual scope s.heap.objs.size f cd cc) e) (fun _ s'' => CX outer H s E e s'') (fun e' s'' => CX outer H s E e' s'') s' }
structure ScS (N P : List Str) (sc : Scope) : Prop where
  kind : sc.kind = .function
  co : sc.isCoroutine = false
  gen : sc.isGenerator = false
  nd : N.Nodup
  pre : N.take P.length = P
  par : ∀ x ∈ P, sc.names.lookup x = some .local
  nocell : ∀ y ∈ sc.names, y.2 ≠ .cell
  free : ∀ y ∈ sc.names, y.2 = .free → y.1 = "__class__"
/-- the cell of the class, in the written part -/
def CellIn (K : PySem.W.Frag) (cc D : Addr) : Prop := ∃ cl cld csl, K.lookup cc = some ⟨cl, cld, .cell (some (.ref D)), csl⟩
theorem bindL_zip {ps : List Str} {us : List Value} (nd : ps.Nodup) {i : Nat} {x : Str} {u : Value} (hx : ps[i]? = some x) (hu : us[i]? = some u) : (ps.zip us).reverse.lookup x = some u := by
  have hm : (x, u) ∈ ps.zip us := by
    refine List.mem_of_getElem? (i := i) ?_
    rw [List.getElem?_zip_eq_some]
    exact ⟨hx, hu⟩
  have un : ∀ v, (x, v) ∈ (ps.zip us).reverse → v = u := by
    intro v hv
    obtain ⟨j, hj⟩ := List.mem_iff_getElem?.mp (List.mem_reverse.mp hv)
    rw [List.getElem?_zip_eq_some] at hj
    have e : i = j := (List.getElem?_inj (List.getElem?_eq_some_iff.mp hx).1 nd).mp (hx.trans hj.1.symm)
    rw [← e, hu] at hj
    exact (Option.some.inj hj.2).symm
  have key : ∀ (l : List (Str × Value)), (∀ v, (x, v) ∈ l → v = u) → (x, u) ∈ l → l.lookup x = some u := by
    intro l
    induction l with
    | nil => intro _ h; cases h
    | cons p l ih =>
      obtain ⟨y, v⟩ := p
      intro n h
      by_cases e : x = y
      · subst e
        rw [n v (List.mem_cons_self ..)]
        simp [List.lookup]
      · have e' : (x == y) = false := by simpa using e
        simp only [List.lookup, e']
        refine ih (fun v h => n v (List.mem_cons_of_mem _ h)) ?_
        rcases List.mem_cons.mp h with h | h
        · cases h
          exact absurd rfl e
        · exact h
  exact key _ un (List.mem_reverse.mpr hm)
theorem inv_startS {CX : CXT} {P : Program} {w : World} {K : PySem.W.Frag} {mg : Str → Option Value} {base : Heap} {N ps : List Str} {qual : Str} {scope : Scope} {f cc D : Addr} {cd : Value} {A : Around} {outer : List Env} {s : Shared} {H : Hp} {E : XK} {us : List Value} {vs : List V} {h1 : Heap} {tk : Nat}
    (S : ScS N ps scope) (hd : A.handled = none) (e0 : Env0 P w K mg base A outer s H) (hl : vs.length = ps.length) (r : Vals vs us) (hc : CellIn K cc D)
    (ns : h1.Ns s.heap.objs.size fun x => (ps.zip us).reverse.lookup x) (hk : ∀ b o, s.heap.get? b = some o → h1.get? b = some o) :
    Inv (cxS CX P w K mg base N qual scope f cd cc A outer s H E) [] (L2.start N vs) H { s with heap := h1, toks := tk } := by
  have hpl : ps.length ≤ N.length := by
    have q := congrArg List.length S.pre
    rw [List.length_take] at q
    omega
  obtain ⟨cl, cld, csl, hcc⟩ := hc
  have hb := e0.mod.kin _ _ hcc
  have look : ∀ {x c}, ([("__class__", cc)] : List (Str × Addr)).lookup x = some c → x = "__class__" ∧ c = cc := fun {x c} h => by
    simp only [List.lookup] at h
    split at h
    · rename_i e
      exact ⟨by simpa using e, (Option.some.inj h).symm⟩
    · cases h
  have noA : ∀ b : Addr, b ∉ ([] : List Addr) := fun b => by simp
  refine ⟨⟨e0.mod, S.kind, rfl, rfl, Nat.le_refl _, fun y z c h1 h2 => ?_, fun y hy => ?_, fun y c hf h => ?_, fun _ => hd, Around.frames_deeper e0.frames, .inr ⟨rfl, rfl⟩, fun b z => absurd z (noA b), e0.bs, e0.bsz, fun b _ _ => noA b, fun b z => absurd z (noA b), e0.funs, e0.frf⟩,
    rfl, e0.bare, Un.kept hk, ⟨_, ns, fun i y v g1 g2 g3 => ?_⟩, fun y c h => ?_, e0.hok.fresh (Nat.le_refl _), fun y c h => ?_, fun p hp => absurd (show p ∈ ([] : List (Addr × Obj)) from hp) (by simp), e0.hok.kept hk, ?_⟩
  · rw [(look h1).1, (look h2).1]
  · have hy : scope.names.lookup y = some .cell ∨ scope.names.lookup y = some .free := hy
    rcases hy with hy | hy
    · exact absurd rfl (S.nocell _ (PySem.mem_of_lookup hy))
    · have e : y = "__class__" := S.free _ (PySem.mem_of_lookup hy) rfl
      exact ⟨cc, by rw [e]; show List.lookup ("__class__" : Str) [(("__class__" : Str), cc)] = some cc; simp [List.lookup]⟩
  · have e := (look h).1
    subst e
    have z : (!(("__class__" : Str) == "__class__")) = true := hf
    simp at z
  · have hi : i < vs.length := by
      unfold L2.start at g2
      by_cases hi : i < vs.length
      · exact hi
      · rw [List.getElem?_append_right (by simpa using hi), List.getElem?_replicate] at g2
        split at g2 <;> cases g2
    have ha : vs[i]? = some v := by
      unfold L2.start at g2
      rw [List.getElem?_append_left (by simpa using hi), List.getElem?_map, Option.map_eq_some_iff] at g2
      obtain ⟨a, e, z⟩ := g2
      cases z
      exact e
    obtain ⟨u, hu, rv⟩ := r.get ha
    have hp : ps[i]? = some y := by
      rw [← S.pre, List.getElem?_take_of_lt (by omega)]
      exact g1
    have ndP : ps.Nodup := by
      rw [← S.pre]
      exact S.nd.sublist (List.take_sublist _ _)
    exact ⟨u, rv, .inl ⟨S.par y (List.mem_of_getElem? hp), bindL_zip ndP hp hu⟩⟩
  · have e := (look h).2
    subst e
    exact ⟨_, ⟨_, hk _ _ (e0.bs _ _ hb).1, rfl⟩⟩
  · have e := (look h).2
    subst e
    exact (e0.bs _ _ hb).2
  · unfold L2.start
    show _ = N.length
    rw [List.length_append, List.length_map, List.length_replicate]
    omega
end Kd


set_option Elab.async false
set_option linter.all false
set_option maxRecDepth 100000
set_option maxHeartbeats 4000000
namespace Kd
open PySem PySem.Spec PyProof.Rows L2
abbrev veMro : List Value := [.type "ValueError", .type "Exception", .type "BaseException", .type "object"]
/-- what the written part says of an __init__ of the class C that calls super's: its function at f, its code at cda, the cell at cc; the instance's class is C too -/
structure SupV (P : Program) (K : PySem.W.Frag) (mg : Str → Option Value) (C f cda cc : Addr) : Prop where
  code : ∃ ccl cdd vs file tf ccs, K.lookup cda = some ⟨ccl, cdd, .fields vs, ccs⟩ ∧ vs[2]? = some (.str file tf) ∧ ((P.main.file : Str) == file) = true
  top : (P.main.scope.names.lookup ("super" : Str)).isSome = false
  cell : CellIn K cc C
  cls : ∃ cd, PySem.W.clsIn K C = some cd
  self : PySem.W.mroIn K C (.ref C) = some true
  sup : mg "super" = none
  ini : PySem.W.ks_superIn K C C "__init__" = some (some (.builtin "ValueError.__init__"))
  ve : PySem.W.subIn K (.ref C) (.type "ValueError") = some true
  third : PySem.W.nsIn K cStatics "thirdparty.any" = some none
  over : PySem.W.excInitIn K C veMro "ValueError.__new__" = true
section
variable {CX : CXT} {P : Program} {w : World} {K : PySem.W.Frag} {mg : Str → Option Value} {base : Heap} {N : List Str} {qual : Str} {sc : Scope} {f cc C cda : Addr} {A : Around} {outer : List Env} {s0 : Shared} {H0 : Hp} {E : XK}
/-- a pin more -/
theorem Inv.pinned {X : Cx} {pins : List (Addr × Obj)} {σ : L2.St} {H : Hp} {s : Shared} (I : Inv X pins σ H s) {q : Addr} {o : Obj} (h1 : s.heap.get? q = some o) (h2 : H q = none) (h3 : q ≠ X.env.locals) (h4 : q ∉ X.fs) (h5 : ∀ v, o.data ≠ .cell v) : Inv X ((q, o) :: pins) σ H s :=
  ⟨I.ok, I.os, I.bare, I.base, I.loc, I.cell, I.free, I.freeC, fun p hp => by
    rcases List.mem_append.mp hp with hp | hp
    · exact I.pin p (List.mem_append_left _ hp)
    · rcases List.mem_cons.mp hp with rfl | hp
      · exact ⟨h1, h2, h3, h4, h5⟩
      · exact I.pin p (List.mem_append_right _ hp), I.hok, I.len⟩
theorem Inv.unpinned {X : Cx} {pins : List (Addr × Obj)} {p : Addr × Obj} {σ : L2.St} {H : Hp} {s : Shared} (I : Inv X (p :: pins) σ H s) : Inv X pins σ H s :=
  ⟨I.ok, I.os, I.bare, I.base, I.loc, I.cell, I.free, I.freeC, fun q hq => by
    rcases List.mem_append.mp hq with hq | hq
    · exact I.pin q (List.mem_append_left _ hq)
    · exact I.pin q (List.mem_append_right _ (List.mem_cons_of_mem _ hq)), I.hok, I.len⟩
/-- super().__init__(e, ..) in an own error class's __init__, the text's rest behind it -/
theorem super_initV {body rest : List Stmt} {e : Expr} {es : List Expr} {p0 p1 p2 p3 p4 : Pos} {pins : List (Addr × Obj)} {σ : L2.St} {H : Hp} {s : Shared} {ta : TA} {a : Addr} {fd : FuncData} {oc : Value} {od : Option Addr} {osl : Array (Option Value)} {ar : Arg} {Post : Flow → Shared → Prop} {G : Hp → Prop}
    (T : SupV P K mg C f cda cc) (hf : K.lookup f = some ⟨oc, od, .func fd, osl⟩) (hp : (fd.params.posonlyargs ++ fd.params.args).head? = some ar) (hN : N[0]? = some ar.arg) (hks : sc.names.lookup ("super" : Str) = some .globalImplicit) (hkc : sc.names.lookup ("__class__" : Str) = some .free) (hka : sc.names.lookup ar.arg = some .local) (hk : sc.kind = .function)
    (I : Inv (cxS CX P w K mg base N qual sc f (.ref cda) cc A outer s0 H0 E) pins σ H s) (hσ : σ[0]? = some (some (.ref a))) (ha : H a = some (exo a C none)) (pa : PA (cxS CX P w K mg base N qual sc f (.ref cda) cc A outer s0 H0 E) (e :: es) ta)
    (h : ta σ H fun vs H1 => vs.length ≤ 1000 ∧ H1 a = some (exo a C none) ∧ G H1)
    (hr : ∀ H1 s1, Inv (cxS CX P w K mg base N qual sc f (.ref cda) cc A outer s0 H0 E) pins σ H1 s1 → G H1 → H1 a = some (exo a C none) →
      _root_.PySem.wpAt (model P w) (A.deeper (envS qual sc s0.heap.objs.size f (.ref cda) cc)) (.func body (envS qual sc s0.heap.objs.size f (.ref cda) cc)) (execs rest (envS qual sc s0.heap.objs.size f (.ref cda) cc)) Post (cxS CX P w K mg base N qual sc f (.ref cda) cc A outer s0 H0 E).xe s1)
    (hint : interactive (envS qual sc s0.heap.objs.size f (.ref cda) cc) = false := by rfl)
    (he : starEach (e :: es) (envS qual sc s0.heap.objs.size f (.ref cda) cc) = (false, eval e (envS qual sc s0.heap.objs.size f (.ref cda) cc)) :: starEach es (envS qual sc s0.heap.objs.size f (.ref cda) cc) := by rfl)
    (hpl : (backTo p3 (starEach es (envS qual sc s0.heap.objs.size f (.ref cda) cc))).any (·.1) = false := by rfl)
    (hcall : eval (.Call (.Attribute (.Call (.Name "super" p0) [] [] p1) "__init__" p2) (e :: es) [] p3) (envS qual sc s0.heap.objs.size f (.ref cda) cc) = (do
      let ov ← attributeBase (.Call (.Name "super" p0) [] [] p1) "__init__" (envS qual sc s0.heap.objs.size f (.ref cda) cc) (eval (.Call (.Name "super" p0) [] [] p1) (envS qual sc s0.heap.objs.size f (.ref cda) cc))
      standAt p2.atName
      let (g, first) ← holding [ov] (getMethod ov "__init__" (pure false))
      callWith p3 g first (backTo p3 (starEach (e :: es) (envS qual sc s0.heap.objs.size f (.ref cda) cc))) []) := by rfl) :
    _root_.PySem.wpAt (model P w) (A.deeper (envS qual sc s0.heap.objs.size f (.ref cda) cc)) (.func body (envS qual sc s0.heap.objs.size f (.ref cda) cc)) (execs (.Expr (.Call (.Attribute (.Call (.Name "super" p0) [] [] p1) "__init__" p2) (e :: es) [] p3) p4 :: rest) (envS qual sc s0.heap.objs.size f (.ref cda) cc)) Post
      (cxS CX P w K mg base N qual sc f (.ref cda) cc A outer s0 H0 E).xe s := by
  obtain ⟨ccl, cdd, vs, file, tf, ccs, hcode, hvs, hfile⟩ := T.code
  obtain ⟨cl, cld, csl, hcell⟩ := T.cell
  obtain ⟨cdC, hcls⟩ := T.cls
  have X := I.kIn
  have hga := I.ok.mod.glob
  obtain ⟨mb, hb, hbb⟩ := I.ok.mod.blt
  refine PySem.ks_wpAt_execs_cons (PySem.ks_wpAt_Expr_any ?_ hint)
  refine PySem.ks_wpAt_MethodCall (pl := pure false) ?_ hcall
  refine PySem.ks_wpAt_super_base (env := envS qual sc s0.heap.objs.size f (.ref cda) cc) hks hkc (by decide) rfl (X _ _ hf) rfl hp rfl (X _ _ hcode) rfl hvs hfile T.top ?_
  -- super
  refine PySem.W.ks_loadName_global hk hks (Calls.loadGlobal_builtin (env := envS qual sc s0.heap.objs.size f (.ref cda) cc) (hga.keeps I.bk) T.sup (hb.keeps I.bk) ((hbb _ (by decide +kernel)).trans (by decide +kernel : bootBuiltins "super" = some (.type "super"))) ⟨rfl, ?_⟩)
  -- __class__
  refine wpAny_loadName_free hk hkc (c := cc) (by show List.lookup ("__class__" : Str) [(("__class__" : Str), cc)] = some cc; simp [List.lookup]) ⟨_, X _ _ hcell, rfl⟩ ?_
  -- self
  obtain ⟨m, hm, hlook⟩ := I.loc
  obtain ⟨u, ru, hl⟩ := hlook 0 ar.arg (.ref a) hN hσ (.inl hka)
  obtain rfl : u = Value.ref a := ru
  have hml : m ar.arg = some (.ref a) := by
    rcases hl with hl | ⟨hl, _⟩
    · exact hl.2
    · rcases hl with hl | hl
      · exact absurd (hka.symm.trans hl) (by intro z; cases z)
      · exact absurd (hka.symm.trans hl) (by intro z; cases z)
  refine wpAny_loadName_local hk hka hm hml ?_
  obtain ⟨oD, hD1, hD2⟩ : ∃ oD, s.heap.get? C = some oD ∧ oD.data = .cls cdC := by
    unfold PySem.W.clsIn at hcls
    split at hcls
    · rename_i c d cd' sl ho
      cases hcls
      exact ⟨_, X _ _ ho, rfl⟩
    · cases hcls
  obtain ⟨t1, hae⟩ := exo_at I.hok ha
  refine PySem.ks_wpAny_isType_cls hD1 hD2 ⟨rfl, ?_⟩
  obtain ⟨hp0, g0, d0, tk0, os0⟩ := s
  refine PySem.ks_wpAny_call_super hD1 hD2 hae rfl (fun c z => by cases z) (PySem.W.looks_mroIn X T.self) (fun h' hso k => ?_)
  have I1 := I.kept (h' := h') (t' := tk0) k
  have X1 := I1.kIn
  have hae1 := k _ _ hae
  -- its __init__
  have hIa : PySem.W.InstAt h' a _ C none := ⟨hae1, rfl, rfl, trivial⟩
  have hini := T.ini
  unfold PySem.W.ks_superIn at hini
  rw [hcls] at hini
  refine PySem.W.kxs_getMethod PySem.W.kxs_ValueError hso (PySem.W.looks_opaque X1 T.third) (l₀ := cdC.mro) ?_ rfl X1 hini (hIa.type.andThen (PySem.W.looks_subIn X1 T.ve)) (PySem.W.ks_ne X1 hIa hcls) (by decide) ?_
  · exact fun A Q E s k q => wpAny_bind ((PySem.W.looks_clsIn X1 hcls) A _ E s k (wpAny_pure q))
  have hq : (h'.push (PySem.W.kxs_mw "ValueError.__init__" a)).get? h'.objs.size = some (PySem.W.kxs_mw "ValueError.__init__" a) := Heap.get?_push_at rfl rfl
  have I2 := I1.kept (h' := h'.push (PySem.W.kxs_mw "ValueError.__init__" a)) (t' := tk0 + 1) (fun b o z => Heap.get?_push_of_some _ z)
  have hqn : H h'.objs.size = none := I1.hok.fresh (Nat.le_refl _)
  have I3 := Inv.pinned I2 hq hqn (Nat.ne_of_gt (Nat.lt_of_lt_of_le I1.lt (Nat.le_refl _))) (I1.nofs (Nat.le_refl _)) (fun v z => by cases z)
  refine PySem.W.kxs_callWith (i := "ValueError.__init__") (x := a) (by rw [he]; show (false || (backTo p3 (starEach es _)).any (·.1)) = false; rw [hpl]; rfl) ?_
  rw [he]
  refine Calls.evalArgs_plain ?_
  have run := pa.run p3 _ _ σ H _ I3 h
  rw [show starEach (e :: es) (cxS CX P w K mg base N qual sc f (.ref cda) cc A outer s0 H0 E).env = (false, eval e (envS qual sc s0.heap.objs.size f (.ref cda) cc)) :: starEach es (envS qual sc s0.heap.objs.size f (.ref cda) cc) from he] at run
  refine thn run fun us s1 ⟨ws, H1, I4, r1, hlen, ha4, hG⟩ => ?_
  obtain ⟨hq4, _⟩ := I4.pin _ (List.mem_append_right _ List.mem_cons_self)
  refine ⟨hq4, ?_⟩
  obtain ⟨t4, hae4⟩ := exo_at I4.hok ha4
  have X4 := I4.kIn
  obtain ⟨nm, N', qn, bs, bm, hdct, sn, sub, ab, col, dd, k0, k1, k2, k3, k5, hC, hT⟩ := PySem.W.excInit_of X4 T.over
  have hus : us.length ≤ sizeLine := by
    rw [← Paired.length r1, sizeLine_eq]
    omega
  obtain ⟨hp5, g5, d5, tk5, os5⟩ := s1
  refine wpAny_call (codeAny_of_tree ?_)
  show wpAny _ _ (callAny (.ref h'.objs.size) ⟨us, []⟩) _ _ _
  simp only [callAny]
  refine wpAny_bind (wpAny_load hq4 ?_)
  simp only [PySem.W.kxs_mw, show (Value.type "method-wrapper" == Value.type "method" || Value.type "method-wrapper" == Value.type "builtin_function_or_method" || Value.type "method-wrapper" == Value.type "method-wrapper") = true by decide, if_true]
  refine PySem.W.KFB.if_so (by decide) ?_
  refine wpAny_bind (PySem.W.check_bound_init F.excBase_ValueError.toExcCallFacts hC hae4 rfl ?_)
  refine wpAny_bind (wpAny_pure (wpAny_pure ?_))
  refine ⟨Code.quiet_builtin _ (by decide +kernel), codeAny_builtin F.excBase_ValueError.initEntry ?_⟩
  refine PySem.W.exc_init_tree (cls := .ref C) (t0 := t4) (dv := none) (c2 := .none) (c3 := .none) (b4 := .bool false) hae4 hus fun h6 k6 e6 _ => ?_
  have J := I4.write (t' := tk5) (x := a) (e := a) (o := exo a C none) (by rw [ha4]; exact True.intro) (.inl rfl) k6 ⟨_, e6⟩ (exo_ok e6)
  have eu : upd H1 a (exo a C none) = H1 := by
    funext b
    by_cases hb : b = a
    · rw [hb, upd_same, ha4]
    · rw [upd_ne hb]
  rw [eu] at J
  exact hr H1 _ (Inv.unpinned J) hG ha4
end
end Kd


set_option Elab.async false
set_option linter.all false
set_option maxRecDepth 100000
set_option maxHeartbeats 4000000
namespace Kd
open PySem PySem.Spec PyProof.Rows L2
/-- a method of the class with the cell cc, as the top has written it -/
structure FunS (K : PySem.W.Frag) (x qual : Str) (st : Stmt) (f cda cc : Addr) (fd : FuncData) : Prop where
  ex : ∃ (oc : Value) (od : Option Addr) (kV doc pm : Value) (an : Option Addr) (ct : Value) (osl : Array (Option Value)),
    fd = PySem.W.fnX x qual (defArgs st) (defBody st) (defScope st) [("__class__", cc)] .none kV doc pm an (.ref cda) ct ∧ K.lookup f = some ⟨oc, od, .func fd, osl⟩ ∧ PySem.W.codeIn K (.ref cda) qual = true
section
variable {CX : CXT} {P : Program} {w : World} {K : PySem.W.Frag} {mg : Str → Option Value} {base : Heap} {N ps : List Str} {x qual : Str} {st : Stmt} {f cc C cda : Addr} {fd : FuncData} {k : Nat} {sp : Sp}
theorem exc_fn {rest : List Stmt} {e : Expr} {es : List Expr} {p0 p1 p2 p3 p4 : Pos} {ar : Arg} (T : SupV P K mg C f cda cc) (F : FunS K x qual st f cda cc fd) (S : ScS N ps (defScope st)) (hb : defBody st = .Expr (.Call (.Attribute (.Call (.Name "super" p0) [] [] p1) "__init__" p2) (e :: es) [] p3) p4 :: rest)
    (hp : ((defArgs st).posonlyargs ++ (defArgs st).args).head? = some ar) (hN : N[0]? = some ar.arg) (hks : (defScope st).names.lookup ("super" : Str) = some .globalImplicit) (hkc : (defScope st).names.lookup ("__class__" : Str) = some .free) (hka : (defScope st).names.lookup ar.arg = some .local)
    (he : ∀ env, starEach (e :: es) env = (false, eval e env) :: starEach es env) (hpl : ∀ env, (backTo p3 (starEach es env)).any (·.1) = false)
    (hcall : ∀ env, eval (.Call (.Attribute (.Call (.Name "super" p0) [] [] p1) "__init__" p2) (e :: es) [] p3) env = (do
      let ov ← attributeBase (.Call (.Name "super" p0) [] [] p1) "__init__" env (eval (.Call (.Name "super" p0) [] [] p1) env)
      standAt p2.atName
      let (g, first) ← holding [ov] (getMethod ov "__init__" (pure false))
      callWith p3 g first (backTo p3 (starEach (e :: es) env)) []))
    (len : ∀ vs H Q E, sp vs H Q E → vs.length = ps.length)
    (hbody : ∀ (A : Around) (outer : List Env) (s : Shared) (H : Hp) (vs : List V) (Q : VK) (E : XK), Room k (A.deeper (envS qual (defScope st) s.heap.objs.size f (.ref cda) cc)) → sp vs H Q E →
      ∃ a us ta t, vs = .ref a :: us ∧ H a = some (exo a C none) ∧ PA (cxS CX P w K mg base N qual (defScope st) f (.ref cda) cc A outer s H E) (e :: es) ta ∧ (ta (L2.start N vs) H fun ws H1 => ws.length ≤ 1000 ∧ H1 a = some (exo a C none) ∧ H1 = H) ∧
        PSs (cxS CX P w K mg base N qual (defScope st) f (.ref cda) cc A outer s H E) rest t ∧ t { nx := fun _ H' => Q .non H', rt := Q } (L2.start N vs) H) :
    FnOk P w K mg base CX (k + 1) f fd ps sp := by
  obtain ⟨oc, od, kV, doc, pm, an, ct, osl, rfl, lk, hcd⟩ := F.ex
  constructor
  · exact len
  intro A outer s H args us vs Q E room env bt vals hsp
  have hlen := len _ _ _ _ hsp
  have kin : K.In s.heap := env.mod.kin.keeps fun b o e => (env.bs b o e).1
  have nolim : s.heap.NoLimit := env.mod.nolimit.keeps fun b o e => (env.bs b o e).1
  have hloc : ∀ y ∈ ps.zip us, (defScope st).names.lookup y.1 = some .local := by
    intro ⟨n, v⟩ hy
    exact S.par n (List.of_mem_zip hy).1
  refine PySem.ks_codeAny_call_defAt (body := defBody st) (binds := ps.zip us) room.depth (kin _ _ lk) rfl nolim (PySem.W.codeRec_of kin hcd) rfl bt S.nocell hloc (fun h₀ hns hk => ?_) S.co S.gen S.kind
  obtain ⟨a, us', ta, t, rfl, ha, hpa, hta, hps, ht⟩ := hbody A outer s H vs Q E (room.deeper _) hsp
  have I0 := inv_startS (CX := CX) (E := E) (qual := qual) (f := f) (cd := .ref cda) S room.hd env hlen vals T.cell hns hk (tk := s.toks + (ps.zip us).length)
  show _root_.PySem.wpAt (model P w) (A.deeper (envS qual (defScope st) s.heap.objs.size f (.ref cda) cc)) (.func (defBody st) (envS qual (defScope st) s.heap.objs.size f (.ref cda) cc)) (execs (defBody st) (envS qual (defScope st) s.heap.objs.size f (.ref cda) cc)) _ _ _
  refine PySem.ks_wpAt_mono (Q := SP (cxS CX P w K mg base N qual (defScope st) f (.ref cda) cc A outer s H E) [] { nx := fun _ H' => Q .non H', rt := Q }) (E := (cxS CX P w K mg base N qual (defScope st) f (.ref cda) cc A outer s H E).xe) ?_ ?_ fun e s' h => ?_
  · have hn0 : 0 < N.length := (List.getElem?_eq_some_iff.mp hN).1
    rw [hb]
    refine super_initV (body := _) (G := fun H1 => H1 = H) T lk hp hN hks hkc hka S.kind I0 (by unfold L2.start; rfl) ha hpa hta (fun H1 s1 J hG _ => ?_) (by unfold interactive; show ((defScope st).kind == .module && _) = false; rw [S.kind]; rfl) (he _) (hpl _) (hcall _)
    subst hG
    exact PySem.wpAt_of_wpAny (hps.run [] s1 _ _ _ J ht)
  · intro fl s' hs
    cases fl with
    | ret u =>
      obtain ⟨v, σ', H', J, rv, q⟩ := hs
      exact ⟨v, H', J.os, J.bare, J.base, J.hok, rv, q⟩
    | next =>
      obtain ⟨σ', H', J, q⟩ := hs
      exact ⟨.non, H', J.os, J.bare, J.base, J.hok, rfl, q⟩
    | brk => obtain ⟨_, _, _, q⟩ := hs; exact q.elim
    | cont => obtain ⟨_, _, _, q⟩ := hs; exact q.elim
  · exact h
end
end Kd


set_option Elab.async false
set_option linter.all false
set_option maxRecDepth 100000
set_option maxHeartbeats 4000000
namespace PySem
namespace KdV
open PySem.W PySem.Calls PyProof.Rows PySem.HandSPX
section
variable {M : Model} {A : Around} {E : Value → Shared → Prop} {h : Heap} {g : Array GenState} {d : Drawn} {t : Nat} {os : OsState} {kw : List (Str × Value)}
variable {nm q : Str} {C N : Addr} {bs bm bmB : List Value} {hdct : Bool} {sn : List Str} {sub : List Value} {ab : Bool} {col : Option Bool} {dd : Option Addr} {k0 k1 k2 k3 k5 : Option Value} {B newId initId : String}
/-- type.__call__ may be asked, with keywords -/
theorem ask_call {rest : List Value} {Q : Unit → Shared → Prop} (hC : h.get? C = some (excClassObj nm q C N bs bm hdct sn sub ab col dd k0 k1 k2 k3 k5 newId)) (hq : Q () ⟨h, g, d, t, os⟩) :
    wpAny M A (checkBuiltinCall "type.__call__" ⟨.ref C :: rest, kw⟩) Q E ⟨h, g, d, t, os⟩ := by
  have f3 := tc_sub
  have hT : (⟨h, g, d, t, os⟩ : Shared).TypeIs (.ref C) "type" := ⟨_, hC, rfl⟩
  simp only [checkBuiltinCall, tc_kind, tc_split]; repeat (any_goals (first | assumption | with_reducible refine wpAny_loadPart_at hC ?_ | with_reducible refine wpAny_onRaise ?_ | with_reducible refine wpAny_map ?_ | wp_step))
theorem ask_new (F : ExcBaseFacts B newId initId bmB) (hT : ∀ X : String, bm.contains (.type X) = bmB.contains (.type X)) {rest : List Value} {Q : Unit → Shared → Prop}
    (hC : h.get? C = some (excClassObj nm q C N bs bm hdct sn sub ab col dd k0 k1 k2 k3 k5 newId)) (hq : Q () ⟨h, g, d, t, os⟩) : wpAny M A (checkBuiltinCall newId ⟨.ref C :: rest, kw⟩) Q E ⟨h, g, d, t, os⟩ := by
  have hcont : (Value.ref C :: bm).contains (.type B) = true := by rw [List.contains_cons, hT, F.hasB, Bool.or_true]
  have hstar := F.noStar
  simp only [checkBuiltinCall, F.newKind, F.newSplit, F.newRow]; repeat (first | refine wpAny_loadPart_at hC ?_ | (refine wpAny_isSubtype_exc hC ?_; rw [hcont]) | refine wpAny_staticBase_exc hC ?_ | refine wpAny_madeBy_exc hC ?_ | simp only [bne_self_eq_false, Bool.false_eq_true, if_false] | wp_step)
  exact hq
end
section
variable {prog : Program} {w : World} {A : Around} {E : Value → Shared → Prop} {R : Result → Shared → Prop} {h : Heap} {g : Array GenState} {d : Drawn} {t : Nat} {os : OsState} {kw : List (Str × Value)}
variable {nm q : Str} {C N : Addr} {bs bm bmB : List Value} {hdct : Bool} {sn : List Str} {sub : List Value} {ab : Bool} {col : Option Bool} {dd : Option Addr} {k0 k1 k2 k3 k5 : Option Value} {B newId initId : String}
/-- the object, made with keywords: they are not kept -/
theorem made_new (F : ExcBaseFacts B newId initId bmB) (hT : ∀ X : String, bm.contains (.type X) = bmB.contains (.type X)) {rest : List Value}
    (hC : h.get? C = some (excClassObj nm q C N bs bm hdct sn sub ab col dd k0 k1 k2 k3 k5 newId)) (hq : R (.ok (.ret (.ref (h.objs.size + 1)))) ⟨(h.push (kdv_tup rest)).push (excO C h.objs.size), g, d, t, os⟩) (hrest : rest.length ≤ sizeLine) :
    codeAny (model prog w) A (.builtin newId ⟨.ref C :: rest, kw⟩) R ⟨h, g, d, t, os⟩ := by
  have hends := F.ends
  have hcB : (Value.ref C :: bm).contains (.type B) = true := by rw [List.contains_cons, hT, F.hasB, Bool.or_true]
  have hcA : (Value.ref C :: bm).contains (.type "AttributeError") = false := by rw [List.contains_cons, hT, F.noAttr]; rfl
  have hcN : (Value.ref C :: bm).contains (.type "NameError") = false := by rw [List.contains_cons, hT, F.noName]; rfl
  refine codeAny_builtinAt F.entry ?_; unfold Builtin.«BaseException.__new__»; refine wpAt_bind ?_; show wpAt _ _ _ (stack >>= _) _ _ _
  refine wpAt_bind (wpAt_stack fun p below => wpAt_of_wpAny ?_); wp_walk; refine wpAt_of_wpAny ?_; rw [F.owner]
  repeat (first | with_reducible refine wpAny_madeHere_exc F.canon hC ?_ | with_reducible refine wpAny_loadPart_at hC ?_ | (with_reducible refine wpAny_isSubtype_exc hC ?_; first | rw [hcB] | rw [hcA] | rw [hcN]) | wp_step)
  show R _ _; rw [Heap.size_push]; exact hq
theorem made_type (F : ExcBaseFacts B newId initId bmB) (hT : ∀ X : String, bm.contains (.type X) = bmB.contains (.type X)) {rest : List Value} {fI : Addr} {Q : Fin → Shared → Prop}
    (hC : h.get? C = some (excClassObj nm q C N bs bm hdct sn sub ab col dd k0 k1 k2 k3 k5 newId)) (hi : W.Looks (model prog w) h (typeLookup (.ref C) "__init__") (some (.ref fI))) (hb : ∀ self, W.Looks (model prog w) h (bindSpecial (.ref fI) self) (.ref fI, [self])) (hrest : rest.length ≤ sizeLine)
    (hq : codeAny (model prog w) A (.call (.ref fI) ⟨.ref (h.objs.size + 1) :: rest, kw⟩) (fun r s' => match r with | .ok (.ret v) => v = .none ∧ Q (.done (.ret (.ref (h.objs.size + 1)))) s' | .ok _ => False | .error e => E e s')
      ⟨(h.push (kdv_tup rest)).push (excO C h.objs.size), g, d, t, os⟩) :
    wpAny (model prog w) A (Builtin.«type.__call__» ⟨.ref C :: rest, kw⟩) Q E ⟨h, g, d, t, os⟩ := by
  repeat (first | with_reducible refine wpAny_loadPart_at hC ?_ | with_reducible refine wpAny_madeBy_exc hC ?_ | wp_step)
  refine codeAny_call_builtin_code (Code.quiet_builtin _ F.quiet) (ask_new F hT hC ?_); refine made_new F hT hC ?_ hrest; show wpAny _ _ _ _ _ _
  have k : ∀ b o, h.get? b = some o → ((h.push (kdv_tup rest)).push (excO C h.objs.size)).get? b = some o := fun b o e => Heap.get?_push_of_some _ (Heap.get?_push_of_some _ e)
  have hC₁ := k _ _ hC
  have hget : ((h.push (kdv_tup rest)).push (excO C h.objs.size)).get? (h.objs.size + 1) = some (excO C h.objs.size) := by heap_get
  have hcC : (Value.ref C :: bm).contains (.ref C) = true := by simp
  have i1 := hi.keeps k
  have b1 := (hb (.ref (h.objs.size + 1))).keeps k
  unfold isInstance; repeat (first | with_reducible refine wpAny_loadPart_at hget ?_ | (with_reducible refine wpAny_isSubtype_exc hC₁ ?_; rw [hcC]) | wp_step)
  show wpAny _ _ (typeLookup (.ref C) _) _ _ _; refine i1.at ?_; refine wpAny_holding (wpAny_bind (b1.at ?_)); refine wpAny_bind (wpAny_call (codeAny_mono hq fun r s' z => ?_))
  rcases r with e | (v | _ | _ | _) <;> first | exact z | exact z.elim | skip
  obtain ⟨rfl, z⟩ := z; first | exact wpAny_pure (wpAny_pure z) | (wp_walk; exact z)
/-- C(.., k = ..), C an own error class -/
theorem made_call (F : ExcBaseFacts B newId initId bmB) (hT : ∀ X : String, bm.contains (.type X) = bmB.contains (.type X)) {rest : List Value} {fI : Addr}
    (hC : h.get? C = some (excClassObj nm q C N bs bm hdct sn sub ab col dd k0 k1 k2 k3 k5 newId)) (hi : W.Looks (model prog w) h (typeLookup (.ref C) "__init__") (some (.ref fI))) (hb : ∀ self, W.Looks (model prog w) h (bindSpecial (.ref fI) self) (.ref fI, [self])) (hrest : rest.length ≤ sizeLine)
    (hq : codeAny (model prog w) (A.under (.builtin "type.__call__" ⟨.ref C :: rest, kw⟩)) (.call (.ref fI) ⟨.ref (h.objs.size + 1) :: rest, kw⟩) (W.InitBack (h.objs.size + 1) R) ⟨(h.push (kdv_tup rest)).push (excO C h.objs.size), g, d, t, os⟩) :
    codeAny (model prog w) A (.call (.ref C) ⟨rest, kw⟩) R ⟨h, g, d, t, os⟩ := by
  have f1 := tc_lookup
  have f2 := tc_bind (.ref C)
  have hTy : (⟨h, g, d, t, os⟩ : Shared).TypeIs (.ref C) "type" := ⟨_, hC, rfl⟩
  refine codeAny_of_tree ?_; show wpAny _ _ (callAny (.ref C) _) _ _ _
  repeat (any_goals (first | assumption | with_reducible refine wpAny_loadPart_at hC ?_ | wp_step))
  refine ⟨rfl, ?_⟩; refine codeAny_call_builtin_at (Code.quiet_builtin _ (by decide +kernel)) entry_typeCall (ask_call hC (made_type F hT hC hi hb hrest ?_))
  refine codeAny_mono hq fun r s' z => ?_; rcases r with e | (v | _ | _ | _) <;> exact z
end
end KdV
end PySem


set_option Elab.async false
set_option linter.all false
set_option maxRecDepth 100000
set_option maxHeartbeats 4000000
namespace Kd
open PySem PySem.Spec PyProof.Rows L2
/-- an error class's __init__: super's, then each parameter is kept under its name -/
def spI (C : Addr) (names : List Str) : Sp := fun vs H Q _ => ∃ a us, vs = .ref a :: us ∧ us.length = names.length ∧ H a = some (exo a C none) ∧
  ∀ d H', H d = none → d ≠ a → H' a = some (exo a C (some d)) → H' d = some (exd d (names.zip us).reverse) → (∀ b, b ≠ a → b ≠ d → H' b = H b) → Q .non H'
/-- C(..), as data -/
def excM (x : Str) (names : List Str) (e : En) (ds : List PyData) : Option PyData := if ds.length = e.n + e.ks.length ∧ (pick e.pm ds).length = names.length then
  some (.dict ((.none, .str x) :: ((names.zip (pick e.pm ds)).reverse.map fun p => (.str p.1, p.2)))) else none
theorem DvK.rev {K : PySem.W.Frag} {B : Hp} : ∀ {names : List Str} {vs : List V} {ds : List PyData} {kvs : List (Key × V)} {es : List (PyData × PyData)}, DvL K B vs ds → DvK K B kvs es →
    DvK K B (((names.zip vs).reverse.map fun p => (Sum.inr p.1, p.2)) ++ kvs) (((names.zip ds).reverse.map fun p => (PyData.str p.1, p.2)) ++ es)
  | [], _, _, _, _, _, r => by simpa using r
  | _ :: _, _, _, _, _, .nil, r => by simpa using r
  | n :: names, _, _, kvs, es, .cons (v := v) (vs := vs) (d := d) (ds := ds) h t, r => by
    have z := DvK.rev (names := names) t (DvK.cons (k := Sum.inr n) h r)
    simpa [List.zip_cons_cons, List.reverse_cons, List.map_append, kD] using z
section
variable {P : Program} {w : World} {K : PySem.W.Frag} {mg : Str → Option Value} {base : Heap} {j k : Nat}
theorem fnF_exc {C fI : Addr} {fd : FuncData} {names : List Str} {e : En} (hx : PySem.W.nsIn K mainGlobals e.x = some (some (.ref C))) (hmg : mg e.x = some (.ref C)) (O : OexC K C) (iC : PySem.W.findIn K (.ref C) "__init__" = some (some (.ref fI))) (tI : PySem.W.typeIn K (.ref fI) = some (.type "function"))
    (G : FnOk P w K mg base CX0 j fI fd (("self" : Str) :: names) (spI C names)) (hj : j + 1 ≤ k)
    (hb : ∀ (s : Shared) (self : Value) (us ws : List Value), us.length = e.n → ws.length = e.ks.length → BindsTo s fd ⟨self :: us, e.ks.zip ws⟩ ((("self" : Str) :: names).zip (self :: pick e.pm (us ++ ws)))) (hn : e.n ≤ 1000) :
    FnF P w K mg base k e (excM e.x names e) := by
  refine ⟨C, hmg, O.kC, fun A outer s H us ws vs Q ds d B room gd env hu hw rv sb dv hd q => ?_⟩
  obtain ⟨nm, qn, N, bs, bm, sn, sub, ab, col, dd, k0, k1, k2, k3, k5, hC, hbm⟩ := O.cls
  unfold excM at hd
  split at hd
  · rename_i hl
    obtain ⟨hl1, hl2⟩ := hl
    cases hd
    have kin : K.In s.heap := env.mod.kin.keeps fun b o e => (env.bs b o e).1
    obtain ⟨hp, g, dr, tk, os⟩ := s
    have hus : us.length ≤ sizeLine := by
      rw [hu, sizeLine_eq]
      omega
    have kk : ∀ b o, hp.get? b = some o → ((hp.push (PySem.W.kdv_tup us)).push (PySem.HandSPX.excO C hp.objs.size)).get? b = some o := fun b o e => Heap.get?_push_of_some _ (Heap.get?_push_of_some _ e)
    have hget : ((hp.push (PySem.W.kdv_tup us)).push (PySem.HandSPX.excO C hp.objs.size)).get? (hp.objs.size + 1) = some (PySem.HandSPX.excO C hp.objs.size) := by heap_get
    have hsz : hp.objs.size ≤ hp.objs.size + 1 := Nat.le_succ _
    have hna : H (hp.objs.size + 1) = none := env.hok.fresh hsz
    have ne : ∀ {b : Addr} {o : Obj}, hp.get? b = some o → b ≠ hp.objs.size + 1 := fun {b o} z => Nat.ne_of_lt (Nat.lt_succ_of_lt (Heap.lt_size z))
    have hok1 : HOk P w (upd H (hp.objs.size + 1) (exo (hp.objs.size + 1) C none)) ((hp.push (PySem.W.kdv_tup us)).push (PySem.HandSPX.excO C hp.objs.size)) := env.hok.laid kk hsz (exo_ok hget)
    have env1 : Env0 P w K mg base A outer ⟨(hp.push (PySem.W.kdv_tup us)).push (PySem.HandSPX.excO C hp.objs.size), g, dr, tk, os⟩ (upd H (hp.objs.size + 1) (exo (hp.objs.size + 1) C none)) :=
      ⟨env.frames, env.mod, fun b o z => ⟨kk b o (env.bs b o z).1, by rw [upd_ne (ne (env.bs b o z).1)]; exact (env.bs b o z).2⟩, Nat.le_trans env.bsz (by simp only [Heap.size_push]; omega), env.funs.of_keeps fun b o z _ => ⟨o, kk b o z, rfl⟩, fun b hb => by
        obtain ⟨_, o, z, _⟩ := env.funs.mem hb
        rw [upd_ne (ne z)]
        exact env.frf b hb, hok1, env.bare⟩
    have room1 : Room (j + 1) A := room.mono hj
    have hsp : spI C names (.ref (hp.objs.size + 1) :: pick e.pm vs) (upd H (hp.objs.size + 1) (exo (hp.objs.size + 1) C none))
        (fun v H' => v = .non ∧ Q (.ref (hp.objs.size + 1)) H') (fun _ _ _ => False) := by
      have r := dv.pick e.pm
      refine ⟨_, _, rfl, by rw [r.length]; exact hl2, upd_same, fun dx H' hdx hda h1 h2 h3 => ⟨rfl, ?_⟩⟩
      have hdx0 : H dx = none := by rw [upd_ne hda] at hdx; exact hdx
      have fB : ∀ b, H b = none → B b = none := fun b z => by
        cases y : B b with
        | none => rfl
        | some o => rw [sb b o y] at z; cases z
      have s1 : Same B (upd (upd B (hp.objs.size + 1) (exo (hp.objs.size + 1) C (some dx))) dx (exd dx (names.zip (pick e.pm vs)).reverse)) := fun b o z => by
        rw [upd_ne (ne_of_none z (fB _ hdx0)), upd_ne (ne_of_none z (fB _ hna))]
        exact z
      have s2 : Same H H' := fun b o z => by
        rw [h3 b (ne_of_none z hna) (ne_of_none z hdx0), upd_ne (ne_of_none z hna)]
        exact z
      refine q _ _ H' s1 (fun b o z => ?_) s2 (fun b o z => ?_) ?_
      · by_cases y : b = dx
        · subst y
          rw [upd_same] at z
          cases z
          exact h2
        · rw [upd_ne y] at z
          by_cases y2 : b = hp.objs.size + 1
          · subst y2
            rw [upd_same] at z
            cases z
            exact h1
          · rw [upd_ne y2] at z
            exact s2 b o (sb b o z)
      · by_cases y : b = dx
        · subst y; exact .inr hdx0
        · rw [upd_ne y] at z
          by_cases y2 : b = hp.objs.size + 1
          · subst y2; exact .inr hna
          · rw [upd_ne y2] at z
            exact .inl ⟨o, z⟩
      · refine .exc hx (by rw [upd_ne hda.symm, upd_same]) upd_same ?_
        have z := DvK.rev (names := names) (r.mono s1) (DvK.nil (K := K))
        simpa using z
    refine PySem.KdV.made_call F.excBase_ValueError (fun Y => PySem.HandSPX.refsVE_contains Y bm hbm) (kin _ _ hC) (PySem.W.looks_findIn kin iC) (fun self => PySem.W.bind_fn kin self tI) hus
      (codeAny_mono (G.run _ outer _ _ ⟨.ref (hp.objs.size + 1) :: us, e.ks.zip ws⟩ (.ref (hp.objs.size + 1) :: pick e.pm (us ++ ws)) _ _ (fun _ _ _ => False) (room1.make C us (e.ks.zip ws)) (env1.make C us (e.ks.zip ws)) (hb _ _ us ws hu hw) (show Vals (V.ref (hp.objs.size + 1) :: pick e.pm vs) (Value.ref (hp.objs.size + 1) :: pick e.pm (us ++ ws)) from .cons (show L2.RelV (V.ref (hp.objs.size + 1)) (Value.ref (hp.objs.size + 1)) from rfl) (vals_pick rv _)) hsp) fun r s' hq => ?_)
    cases r with
    | error er => exact False.elim hq
    | ok fl =>
      cases fl with
      | ret u =>
        obtain ⟨v, H', os', bare, un, hok, rv', ev, q'⟩ := hq
        subst ev
        exact ⟨rv', .ref (hp.objs.size + 1), H', os', bare, (Un.laid kk hsz hna).trans un, hok, rfl, q'⟩
      | next => exact False.elim hq
      | brk => exact False.elim hq
      | cont => exact False.elim hq
  · cases hd
end
end Kd


set_option Elab.async false
set_option linter.all false
set_option maxRecDepth 100000
set_option maxHeartbeats 4000000
namespace Kd
open PySem PySem.Spec PyProof.Rows L2
/-! Plain classes: super().__init__(..), instances made by a call, where no guarded builtin runs around. -/
/-- a def's promise at raw values, where no guarded builtin runs around it -/
def FGR (P : Program) (w : World) (K : PySem.W.Frag) (mg : Str → Option Value) (base : Heap) (k : Nat) (f : Addr) (n : Nat) (ks : List Str) (sp : Sp) : Prop :=
  ∀ (A : Around) (outer : List Env) (s : Shared) (H : Hp) (us ws : List Value) (vs : List V) (Q : VK), Room k A → A.guards = some [] → Env0 P w K mg base A outer s H → us.length = n → ws.length = ks.length → Vals vs (us ++ ws) → sp vs H Q (fun _ _ _ => False) →
    codeAny (model P w) A (.call (.ref f) ⟨us, ks.zip ws⟩) (CR CX0 outer P w H s Q fun _ _ _ => False) s
section
variable {P : Program} {w : World} {K : PySem.W.Frag} {mg : Str → Option Value} {base : Heap} {j k n : Nat} {f : Addr} {ks : List Str} {sp sp' : Sp}
theorem FGR.mono (F : FGR P w K mg base j f n ks sp) (h : j ≤ k) : FGR P w K mg base k f n ks sp := fun A o s H us ws vs Q r => F A o s H us ws vs Q (r.mono h)
theorem FGR.imp (F : FGR P w K mg base k f n ks sp) (h : ∀ vs H Q E, sp' vs H Q E → sp vs H Q E) : FGR P w K mg base k f n ks sp' := fun A o s H us ws vs Q r g e l1 l2 v q => F A o s H us ws vs Q r g e l1 l2 v (h _ _ _ _ q)
theorem make_guards {A : Around} {C : Addr} {us : List Value} {kw : List (Str × Value)} (h : A.guards = some []) : (A.under (.builtin "type.__call__" ⟨.ref C :: us, kw⟩)).guards = some [] := by
  have e : (Code.builtin "type.__call__" ⟨.ref C :: us, kw⟩).guards = [] := by
    unfold Code.guards
    rw [if_neg]
    simp [Code.isGuard]
    try decide +kernel
  show pushGuards (Code.builtin "type.__call__" ⟨.ref C :: us, kw⟩).guards A.guards = some []
  rw [e, h]
  rfl
/-- C(..): a new instance, then its __init__ -/
theorem fgr_make {C : Addr} (M : Mk K C f) (F : FGR P w K mg base k f (n + 1) ks sp) : FGR P w K mg base (k + 1) C n ks (fun vs H Q _ => ∀ x dx, H x = none → H dx = none → dx ≠ x →
    sp (.ref x :: vs) (upd (upd H dx (.own x)) x (.ins C dx [])) (fun v H2 => v = .non ∧ Q (.ref x) H2) fun _ _ _ => False) := by
  intro A outer s H us ws vs Q room gd env l1 l2 rv h
  have kin : K.In s.heap := env.mod.kin.keeps fun b o e => (env.bs b o e).1
  have hq := h (s.heap.objs.size + 1) s.heap.objs.size (env.hok.fresh (Nat.le_succ _)) (env.hok.fresh (Nat.le_refl _)) (Nat.ne_of_lt (Nat.lt_succ_self _))
  have e1 : (s.heap.push PySem.W.emptyDict).get? s.heap.objs.size = some PySem.W.emptyDict := Heap.get?_push_size s.heap rfl
  have e2 : ((s.heap.push PySem.W.emptyDict).push (PySem.W.instObj C s.heap.objs.size)).get? (s.heap.objs.size + 1) = some (PySem.W.instObj C s.heap.objs.size) := by
    have := Heap.get?_push_size (s.heap.push PySem.W.emptyDict) (o := PySem.W.instObj C s.heap.objs.size) rfl
    rwa [Heap.size_push] at this
  have e3 : (s.heap.push PySem.W.emptyDict).Ns s.heap.objs.size (fun _ => none) := ⟨PySem.W.emptyDict, #[], _, e1, rfl, (fun e he => absurd he (by simp)), fun _ => rfl⟩
  have hn0 : H s.heap.objs.size = none := env.hok.fresh (Nat.le_refl _)
  have hn1 : H (s.heap.objs.size + 1) = none := env.hok.fresh (Nat.le_succ _)
  have ne : s.heap.objs.size ≠ s.heap.objs.size + 1 := Nat.ne_of_lt (Nat.lt_succ_self _)
  have k1 : ∀ b o, s.heap.get? b = some o → (s.heap.push PySem.W.emptyDict).get? b = some o := fun b o q => Heap.get?_push_of_some _ q
  have k2 : ∀ b o, (s.heap.push PySem.W.emptyDict).get? b = some o → ((s.heap.push PySem.W.emptyDict).push (PySem.W.instObj C s.heap.objs.size)).get? b = some o := fun b o q => Heap.get?_push_of_some _ q
  have ok1 : HOk P w (upd H s.heap.objs.size (.own (s.heap.objs.size + 1))) (s.heap.push PySem.W.emptyDict) := env.hok.laid k1 (Nat.le_refl _) ⟨_, e1⟩
  have ok2 : HOk P w (upd (upd H s.heap.objs.size (.own (s.heap.objs.size + 1))) (s.heap.objs.size + 1) (.ins C s.heap.objs.size [])) ((s.heap.push PySem.W.emptyDict).push (PySem.W.instObj C s.heap.objs.size)) :=
    ok1.laid k2 (Nat.le_of_eq (Heap.size_push _ _)) (by
      refine ⟨by rw [upd_ne ne, upd_same], Nat.zero_le _, ne, e2, fun _ => none, (Heap.Ns1.of_empty e3).at fun o q => Heap.get?_push_of_some _ q, fun _ => True.intro, fun y hy => absurd rfl hy⟩)
  have nb : ∀ {b : Addr} {o : Obj}, s.heap.get? b = some o → b ≠ s.heap.objs.size ∧ b ≠ s.heap.objs.size + 1 := fun {b o} z => ⟨Nat.ne_of_lt (Heap.lt_size z), Nat.ne_of_lt (Nat.lt_succ_of_lt (Heap.lt_size z))⟩
  have env1 : Env0 P w K mg base A outer { s with heap := (s.heap.push PySem.W.emptyDict).push (PySem.W.instObj C s.heap.objs.size) } (upd (upd H s.heap.objs.size (.own (s.heap.objs.size + 1))) (s.heap.objs.size + 1) (.ins C s.heap.objs.size [])) :=
    ⟨env.frames, env.mod, fun b o z => ⟨k2 _ _ (k1 b o (env.bs b o z).1), by rw [upd_ne (nb (env.bs b o z).1).2, upd_ne (nb (env.bs b o z).1).1]; exact (env.bs b o z).2⟩, Nat.le_trans env.bsz (by simp only [Heap.size_push]; omega), env.funs.of_keeps fun b o z _ => ⟨o, k2 _ _ (k1 b o z), rfl⟩, fun b hb => by
      obtain ⟨_, o, z, _⟩ := env.funs.mem hb
      rw [upd_ne (nb z).2, upd_ne (nb z).1]
      exact env.frf b hb, ok2, env.bare⟩
  refine make_map (f := f) kin M.makes M.init (beq_iff_eq.mp M.fn) (codeAny_mono (F _ outer _ _ (.ref (s.heap.objs.size + 1) :: us) ws (.ref (s.heap.objs.size + 1) :: vs) _ (room.make C us (ks.zip ws)) (make_guards gd) (env1.make C us (ks.zip ws)) (by rw [List.length_cons, l1]) l2 (.cons rfl rv) hq) fun r s' hq' => ?_)
  cases r with
  | error er => exact False.elim hq'
  | ok fl =>
    cases fl with
    | ret u =>
      obtain ⟨v, H', os', bare, un, hok, rv', ev, q'⟩ := hq'
      subst ev
      have u1 : Un (frs outer) [] H (upd H s.heap.objs.size (.own (s.heap.objs.size + 1))) s.heap (s.heap.push PySem.W.emptyDict) := Un.laid k1 (Nat.le_refl _) hn0
      have u2 : Un (frs outer) [] (upd H s.heap.objs.size (.own (s.heap.objs.size + 1))) (upd (upd H s.heap.objs.size (.own (s.heap.objs.size + 1))) (s.heap.objs.size + 1) (.ins C s.heap.objs.size [])) (s.heap.push PySem.W.emptyDict) ((s.heap.push PySem.W.emptyDict).push (PySem.W.instObj C s.heap.objs.size)) :=
        Un.laid k2 (Nat.le_of_eq (Heap.size_push _ _)) (by rw [upd_ne ne.symm]; exact hn1)
      exact ⟨rv', .ref (s.heap.objs.size + 1), H', os', bare, (u1.trans u2).trans un, hok, rfl, q'⟩
    | next => exact False.elim hq'
    | brk => exact False.elim hq'
    | cont => exact False.elim hq'
end
end Kd


set_option Elab.async false
set_option linter.all false
set_option maxRecDepth 100000
set_option maxHeartbeats 4000000
namespace Kd
open PySem PySem.Spec PyProof.Rows L2
/-! Targets o.f; super().__init__(..) in plain classes; defs with *v. -/
section
variable {X : Cx} {o : Expr} {to : TE} {f : Str} {pos : Pos}
/-- .., o.f, .. = -/
def gFld (K : PySem.W.Frag) (to : TE) (f : Str) : TG := fun v σ H Q => to σ H fun x H2 => ∃ a C dx fs, x = .ref a ∧ H2 a = some (.ins C dx fs) ∧ Cls K C ∧ NoAttr K C f ∧ fs.length < 1000 ∧ Q σ (upd H2 a (.ins C dx (putF f v fs)))
theorem pg_fld (ho : PE X o to) : PG X (.Attribute o f pos) (gFld X.K to f) := by
  refine ⟨fun pins s σ H v u Q I r h => ?_⟩
  rw [assign_Attribute]
  refine wpAny_bind (wpAny_holding (thn (ho.run pins s σ H _ I h) fun ov s1 ⟨x, H1, I1, r1, a, C, dx, fs, ex, ea, c, n, l, q⟩ => ?_))
  subst ex
  obtain rfl : ov = Value.ref a := r1
  refine wpAny_bind (wpAny_standAt (wpAny_bind (wpAny_holding (setattr_ok I1 ea c n l r fun s2 I2 => ?_))))
  exact wpAny_release ⟨σ, _, I2, q⟩
end

section
variable {X : Cx} {k n : Nat} {f : Addr} {sp : Sp} {ks : List Str}
theorem fgr_run {pins : List (Addr × Obj)} {σ : L2.St} {H : Hp} {s : Shared} {Q : VK} {us ws : List Value} {vs : List V} (F : FGR X.prog X.w X.K X.mg X.base k f n ks sp) (hr : Room k X.A) (hg : X.A.guards = some []) (I : Inv X pins σ H s) (l1 : us.length = n) (l2 : ws.length = ks.length) (r : Vals vs (us ++ ws))
    (h : sp vs H Q fun _ _ _ => False) : codeAny (model X.prog X.w) X.A (.call (.ref f) ⟨us, ks.zip ws⟩) (fun r s' => match r with | .ok (.ret v) => EP X pins σ Q v s' | .ok _ => False | .error e => X.xe e s') s := by
  refine codeAny_mono (F X.A X.stack s H us ws vs Q hr hg I.env0 l1 l2 r h) fun r s' hq => ?_
  cases r with
  | error e => exact False.elim hq
  | ok fl =>
    cases fl with
    | ret u => exact I.after hq
    | next => exact False.elim hq
    | brk => exact False.elim hq
    | cont => exact False.elim hq
/-- x(e, ..), x a def or a class of the module -/
theorem pe_callG {x : Str} {p pos : Pos} {e : Expr} {es : List Expr} {t : TA} (F : FGR X.prog X.w X.K X.mg X.base k f n [] sp) (hr : Room k X.A) (hg : X.A.guards = some []) (hk : PySem.W.keepIn X.K (.ref f) = true) (gl : Gl X x) (hm : X.mg x = some (.ref f)) (ha : PA X (e :: es) t) (hd : (x == ("__debug__" : Str)) = false := by decide)
    (he : starEach (e :: es) X.env = (false, eval e X.env) :: starEach es X.env := by rfl) (hpl : (backTo pos (starEach es X.env)).any (·.1) = false := by rfl) :
    PE X (.Call (.Name x p) (e :: es) [] pos) (fun σ H Q => t σ H fun vs H1 => vs.length = n ∧ sp vs H1 Q fun _ _ _ => False) := by
  refine ⟨fun pins s σ H Q I h => ?_⟩
  refine wpAny_Call_Name_kw (ld_glob I gl hm ?_ hd)
  refine PySem.W.callWith_K (h₀ := X.base) I.ok.mod.kin hk (thn (ha.run pos pins s σ H _ I h) fun us s1 ⟨vs, H1, I1, r, hl, q⟩ => ⟨I1.kIn, ?_⟩) he hpl
  exact wpAny_call (fgr_run (us := us) (ws := []) F hr hg I1 (by rw [← r.length]; exact hl) rfl (by rw [List.append_nil]; exact r) q)
end

/-! ### def f(a, .., *v) -/
section
variable {P : Program} {w : World} {K : PySem.W.Frag} {mg : Str → Option Value} {base : Heap} {k n : Nat} {f : Addr} {name qual : Str} {params : Arguments} {body : List Stmt} {scope : Scope} {dV kV doc pm cdv ct oc : Value} {an od : Option Addr}
  {osl : Array (Option Value)} {N ps : List Str} {sp : Sp}
theorem fgr_star {pv : Str} (lk : K.lookup f = some ⟨oc, od, .func (PySem.W.fnOf name qual params body scope dV kV doc pm an cdv ct), osl⟩) (hcd : PySem.W.codeIn K cdv qual = true) (S : FnScope N (ps ++ [pv]) scope)
    (hb : ∀ us rest : List Value, us.length = ps.length → us.length + rest.length = n → bindArgs (PySem.W.fnOf name qual params body scope dV kV doc pm an cdv ct) ⟨us ++ rest, []⟩ = (newTuple rest >>= fun t => pure (ps.zip us ++ [(pv, t)])))
    (hbody : ∀ (A : Around) (outer : List Env) (s : Shared) (H : Hp) (vs : List V) (Q : VK), Room k (A.deeper (envOfC qual scope s.heap.objs.size f cdv)) → A.guards = some [] → sp vs H Q (fun _ _ _ => False) →
      ∃ t, PSs (cxOf CX0 P w K mg base N qual scope f cdv A outer s H fun _ _ _ => False) body t ∧ t { nx := fun _ H' => Q .non H', rt := Q } (start N vs) H) :
    FGR P w K mg base (k + 1) f n [] (fun vs H Q _ => ∃ ws rest, vs = ws ++ rest ∧ ws.length = ps.length ∧ rest.length ≤ sizeLine ∧ ∀ p, H p = Option.none → sp (ws ++ [V.ref p]) (upd H p (.tup rest)) Q fun _ _ _ => False) := by
  intro A outer s H us ws0 vs Q hr hg e0 l1 l2 r hsp
  obtain rfl : ws0 = [] := List.length_eq_zero_iff.mp l2
  rw [List.append_nil] at r
  obtain ⟨ws, rest, ev, hl, hz, hq⟩ := hsp
  subst ev
  obtain ⟨u1, u2, eu, r1, r2⟩ := StX.vals_split r
  subst eu
  have hn : H s.heap.objs.size = Option.none := e0.hok.fresh (Nat.le_refl _)
  have hl1 : u1.length = ps.length := by rw [← r1.length]; exact hl
  have hl2 : u2.length ≤ sizeLine := by rw [← r2.length]; exact hz
  refine StX.run_bnd lk hcd S hr e0 (E := fun _ _ _ => False) (G := fun xs H2 => ∃ p, H p = Option.none ∧ xs = ws ++ [V.ref p] ∧ H2 = upd H p (.tup rest)) (fun A' Ex Q' h => ?_) fun s2 H2 xs ⟨p, hp, ex, eH⟩ hr' => ?_
  · show wpAny _ _ (bindArgs _ ⟨u1 ++ u2, []⟩) _ _ _
    rw [hb u1 u2 hl1 (by rw [← List.length_append]; exact l1)]
    refine wpAny_bind (wpAny_newTuple (wpAny_pure ?_) hl2)
    have new : ObjOk P w (upd H s.heap.objs.size (.tup rest)) (s.heap.push ({ cls := .type "tuple", data := .seq u2.toArray } : Obj)) s.heap.objs.size (.tup rest) := ⟨hz, u2, r2, ⟨_, Heap.get?_push_size _ rfl, rfl, _, rfl⟩⟩
    have un := StX.un_laid (fs := frs outer) (s := s) (o := ({ cls := .type "tuple", data := .seq u2.toArray } : Obj)) (u := .tup rest) hn
    have z := h _ _ (ws ++ [V.ref s.heap.objs.size]) (u1 ++ [Value.ref s.heap.objs.size]) (StX.env0_laid e0 new) un rfl (fun e s' q => q.elim) (r1.append (.cons rfl .nil))
      (by rw [List.length_append, List.length_append, hl] <;> rfl) ⟨_, hn, rfl, rfl⟩
    rw [List.zip_append hl1.symm] at z
    exact z
  · subst ex eH
    exact hbody A outer s2 _ _ Q hr' hg (hq p hp)
end
/-! ### super().__init__(..) -/
/-- what the written part says of an __init__ of the plain class C that calls super's, which is the def at f2 -/
structure SupP (P : Program) (K : PySem.W.Frag) (mg : Str → Option Value) (C f cda cc f2 : Addr) : Prop where
  code : ∃ ccl cdd vs file tf ccs, K.lookup cda = some ⟨ccl, cdd, .fields vs, ccs⟩ ∧ vs[2]? = some (.str file tf) ∧ ((P.main.file : Str) == file) = true
  top : (P.main.scope.names.lookup ("super" : Str)).isSome = false
  cell : CellIn K cc C
  cls : ∃ cd, PySem.W.clsIn K C = some cd
  self : PySem.W.mroIn K C (.ref C) = some true
  sup : mg "super" = none
  ini : PySem.W.ks_superIn K C C "__init__" = some (some (.ref f2))
  third : PySem.W.nsIn K cStatics "thirdparty.any" = some none
  ft : PySem.W.typeIn K (.ref f2) = some (.type "function")
  fi : PySem.W.fnIn K f2 = true
section
variable {CX : CXT} {P : Program} {w : World} {K : PySem.W.Frag} {mg : Str → Option Value} {base : Heap} {N : List Str} {qual : Str} {sc : Scope} {f f2 cc C cda : Addr} {A : Around} {outer : List Env} {s0 : Shared} {H0 : Hp} {E : XK}
theorem super_initP {k n : Nat} {sp : Sp} {body rest : List Stmt} {e : Expr} {es : List Expr} {p0 p1 p2 p3 p4 : Pos} {pins : List (Addr × Obj)} {σ : L2.St} {H : Hp} {s : Shared} {ta : TA} {a dx : Addr} {fs : List (Str × V)} {fd : FuncData} {oc : Value} {od : Option Addr} {osl : Array (Option Value)} {ar : Arg} {Post : Flow → Shared → Prop} {G : Hp → Prop}
    (T : SupP P K mg C f cda cc f2) (F : FGR P w K mg base k f2 (n + 1) [] sp) (hroom : Room k (A.deeper (envS qual sc s0.heap.objs.size f (.ref cda) cc))) (hgd : A.guards = some [])
    (hf : K.lookup f = some ⟨oc, od, .func fd, osl⟩) (hp : (fd.params.posonlyargs ++ fd.params.args).head? = some ar) (hN : N[0]? = some ar.arg) (hks : sc.names.lookup ("super" : Str) = some .globalImplicit) (hkc : sc.names.lookup ("__class__" : Str) = some .free) (hka : sc.names.lookup ar.arg = some .local) (hk : sc.kind = .function)
    (I : Inv (cxS CX P w K mg base N qual sc f (.ref cda) cc A outer s0 H0 E) pins σ H s) (hσ : σ[0]? = some (some (.ref a))) (ha : H a = some (.ins C dx fs)) (pa : PA (cxS CX P w K mg base N qual sc f (.ref cda) cc A outer s0 H0 E) (e :: es) ta)
    (h : ta σ H fun vs H1 => vs.length = n ∧ sp (.ref a :: vs) H1 (fun _ H2 => G H2) fun _ _ _ => False)
    (hr : ∀ H1 s1, Inv (cxS CX P w K mg base N qual sc f (.ref cda) cc A outer s0 H0 E) pins σ H1 s1 → G H1 →
      _root_.PySem.wpAt (model P w) (A.deeper (envS qual sc s0.heap.objs.size f (.ref cda) cc)) (.func body (envS qual sc s0.heap.objs.size f (.ref cda) cc)) (execs rest (envS qual sc s0.heap.objs.size f (.ref cda) cc)) Post (cxS CX P w K mg base N qual sc f (.ref cda) cc A outer s0 H0 E).xe s1)
    (hint : interactive (envS qual sc s0.heap.objs.size f (.ref cda) cc) = false := by rfl)
    (he : starEach (e :: es) (envS qual sc s0.heap.objs.size f (.ref cda) cc) = (false, eval e (envS qual sc s0.heap.objs.size f (.ref cda) cc)) :: starEach es (envS qual sc s0.heap.objs.size f (.ref cda) cc) := by rfl)
    (hpl : (backTo p3 (starEach es (envS qual sc s0.heap.objs.size f (.ref cda) cc))).any (·.1) = false := by rfl)
    (hcall : eval (.Call (.Attribute (.Call (.Name "super" p0) [] [] p1) "__init__" p2) (e :: es) [] p3) (envS qual sc s0.heap.objs.size f (.ref cda) cc) = (do
      let ov ← attributeBase (.Call (.Name "super" p0) [] [] p1) "__init__" (envS qual sc s0.heap.objs.size f (.ref cda) cc) (eval (.Call (.Name "super" p0) [] [] p1) (envS qual sc s0.heap.objs.size f (.ref cda) cc))
      standAt p2.atName
      let (g, first) ← holding [ov] (getMethod ov "__init__" (pure false))
      callWith p3 g first (backTo p3 (starEach (e :: es) (envS qual sc s0.heap.objs.size f (.ref cda) cc))) []) := by rfl) :
    _root_.PySem.wpAt (model P w) (A.deeper (envS qual sc s0.heap.objs.size f (.ref cda) cc)) (.func body (envS qual sc s0.heap.objs.size f (.ref cda) cc)) (execs (.Expr (.Call (.Attribute (.Call (.Name "super" p0) [] [] p1) "__init__" p2) (e :: es) [] p3) p4 :: rest) (envS qual sc s0.heap.objs.size f (.ref cda) cc)) Post
      (cxS CX P w K mg base N qual sc f (.ref cda) cc A outer s0 H0 E).xe s := by
  obtain ⟨ccl, cdd, vs, file, tf, ccs, hcode, hvs, hfile⟩ := T.code
  obtain ⟨cl, cld, csl, hcell⟩ := T.cell
  obtain ⟨cdC, hcls⟩ := T.cls
  have X := I.kIn
  have hga := I.ok.mod.glob
  obtain ⟨mb, hb, hbb⟩ := I.ok.mod.blt
  refine PySem.ks_wpAt_execs_cons (PySem.ks_wpAt_Expr_any ?_ hint)
  refine PySem.ks_wpAt_MethodCall (pl := pure false) ?_ hcall
  refine PySem.ks_wpAt_super_base (env := envS qual sc s0.heap.objs.size f (.ref cda) cc) hks hkc (by decide) rfl (X _ _ hf) rfl hp rfl (X _ _ hcode) rfl hvs hfile T.top ?_
  refine PySem.W.ks_loadName_global hk hks (Calls.loadGlobal_builtin (env := envS qual sc s0.heap.objs.size f (.ref cda) cc) (hga.keeps I.bk) T.sup (hb.keeps I.bk) ((hbb _ (by decide +kernel)).trans (by decide +kernel : bootBuiltins "super" = some (.type "super"))) ⟨rfl, ?_⟩)
  refine wpAny_loadName_free hk hkc (c := cc) (by show List.lookup ("__class__" : Str) [(("__class__" : Str), cc)] = some cc; simp [List.lookup]) ⟨_, X _ _ hcell, rfl⟩ ?_
  obtain ⟨m, hm, hlook⟩ := I.loc
  obtain ⟨u, ru, hl⟩ := hlook 0 ar.arg (.ref a) hN hσ (.inl hka)
  obtain rfl : u = Value.ref a := ru
  have hml : m ar.arg = some (.ref a) := by
    rcases hl with hl | ⟨hl, _⟩
    · exact hl.2
    · rcases hl with hl | hl
      · exact absurd (hka.symm.trans hl) (by intro z; cases z)
      · exact absurd (hka.symm.trans hl) (by intro z; cases z)
  refine wpAny_loadName_local hk hka hm hml ?_
  obtain ⟨oD, hD1, hD2⟩ : ∃ oD, s.heap.get? C = some oD ∧ oD.data = .cls cdC := by
    unfold PySem.W.clsIn at hcls
    split at hcls
    · rename_i c d cd' sl ho
      cases hcls
      exact ⟨_, X _ _ ho, rfl⟩
    · cases hcls
  obtain ⟨mA, O, _⟩ := ins_get I.hok ha
  have hae : s.heap.get? a = some (PySem.W.instObj C dx) := (show ObjOk P w H s.heap a (.ins C dx fs) from I.hok a _ ha).2.2.2.1
  refine PySem.ks_wpAny_isType_cls hD1 hD2 ⟨rfl, ?_⟩
  obtain ⟨hp0, g0, d0, tk0, os0⟩ := s
  refine PySem.ks_wpAny_call_super hD1 hD2 hae rfl (fun c z => by cases z) (PySem.W.looks_mroIn X T.self) (fun h' hso k => ?_)
  have I1 := I.kept (h' := h') (t' := tk0) k
  have X1 := I1.kIn
  have hae1 := k _ _ hae
  obtain ⟨mA1, O1, _⟩ := ins_get I1.hok ha
  obtain ⟨odx, J1, _⟩ := O1.look
  have hini := T.ini
  unfold PySem.W.ks_superIn at hini
  rw [hcls] at hini
  obtain ⟨of, hof, hofc⟩ : ∃ of, h'.get? f2 = some of ∧ of.cls = .type "function" := by
    have ht' : (K.lookup f2).map (·.cls) = some (.type "function") := T.ft
    cases z : K.lookup f2 with
    | none => rw [z] at ht'; cases ht'
    | some of => rw [z] at ht'; exact ⟨of, X1 _ _ z, Option.some.inj ht'⟩
  refine PySem.ks_wpAny_getMethod_super hso (PySem.W.looks_opaque X1 T.third) (l₀ := cdC.mro) ?_ rfl X1 hini hof hofc (PySem.W.ks_ne X1 J1 hcls) (by decide) ?_
  · exact fun A Q E s k q => wpAny_bind ((PySem.W.looks_clsIn X1 hcls) A _ E s k (wpAny_pure q))
  have I2 := ClX.met_new (C := a) (g := f2) I1
  have hb0 : base.get? h'.objs.size = none := ClX.base_none I1 (Nat.le_refl _)
  have run := pa.run p3 _ _ σ H _ I2 h
  refine ClX.callwith_cm (C := a) (g := f2) (q := h'.objs.size) I2 hb0 T.fi (thn run fun us s1 ⟨ws, H1, I4, r1, hlen, hsp⟩ => ?_) he hpl
  refine ⟨⟨ClX.pin_at I4, I4.kIn⟩, ?_⟩
  refine wpAny_call (PySem.W.method_call (ClX.pin_at I4) ?_)
  have z := fgr_run (X := cxS CX P w K mg base N qual sc f (.ref cda) cc A outer s0 H0 E) (us := .ref a :: us) (ws := []) (vs := .ref a :: ws) F hroom hgd I4 (by rw [List.length_cons, ← Paired.length r1, hlen]) rfl (by rw [List.append_nil]; exact .cons rfl r1) hsp
  refine codeAny_mono z fun r s2 hq => ?_
  cases r with
  | error er => exact hq
  | ok fl =>
    cases fl with
    | ret u =>
      obtain ⟨v, H2, I5, _, hG⟩ := ClX.unpinE hq
      exact hr H2 s2 I5 hG
    | next => exact hq
    | brk => exact hq
    | cont => exact hq
end
end Kd


set_option Elab.async false
set_option linter.all false
set_option maxRecDepth 100000
set_option maxHeartbeats 4000000
namespace Kd
open PySem PySem.Spec PyProof.Rows L2
section
variable {P : Program} {w : World} {K : PySem.W.Frag} {mg : Str → Option Value} {base : Heap} {N ps : List Str} {x qual : Str} {st : Stmt} {f f2 cc C cda : Addr} {fd : FuncData} {k n n2 : Nat} {ks : List Str} {pm : List Nat} {sp sp2 : Sp}
theorem fgr_of {sp : Sp} (G : FG P w K mg base CX0 k f fd ps sp) (b : Binds K fd ps []) : FGR P w K mg base k f ps.length [] sp := by
  intro A outer s H us ws vs Q hr hg e0 l1 l2 r h
  obtain rfl : ws = [] := List.length_eq_zero_iff.mp l2
  have kin : K.In s.heap := e0.mod.kin.keeps fun b o e => (e0.bs b o e).1
  have bt := b s us kin (by rw [List.append_nil]; exact l1)
  rw [List.append_nil] at bt r
  exact G.run A outer s H ⟨us, []⟩ us vs Q _ hr hg e0 bt r h
/-- an __init__ of a plain class whose first row is super().__init__(..) -/
theorem sup_fn {rest : List Stmt} {e : Expr} {es : List Expr} {p0 p1 p2 p3 p4 : Pos} {ar : Arg} (T : SupP P K mg C f cda cc f2) (F2 : FGR P w K mg base k f2 (n2 + 1) [] sp2) (F : FunS K x qual st f cda cc fd) (S : ScS N ps (defScope st)) (hb : defBody st = .Expr (.Call (.Attribute (.Call (.Name "super" p0) [] [] p1) "__init__" p2) (e :: es) [] p3) p4 :: rest)
    (hp : ((defArgs st).posonlyargs ++ (defArgs st).args).head? = some ar) (hN : N[0]? = some ar.arg) (hks : (defScope st).names.lookup ("super" : Str) = some .globalImplicit) (hkc : (defScope st).names.lookup ("__class__" : Str) = some .free) (hka : (defScope st).names.lookup ar.arg = some .local)
    (he : ∀ env, starEach (e :: es) env = (false, eval e env) :: starEach es env) (hpl : ∀ env, (backTo p3 (starEach es env)).any (·.1) = false)
    (hcall : ∀ env, eval (.Call (.Attribute (.Call (.Name "super" p0) [] [] p1) "__init__" p2) (e :: es) [] p3) env = (do
      let ov ← attributeBase (.Call (.Name "super" p0) [] [] p1) "__init__" env (eval (.Call (.Name "super" p0) [] [] p1) env)
      standAt p2.atName
      let (g, first) ← holding [ov] (getMethod ov "__init__" (pure false))
      callWith p3 g first (backTo p3 (starEach (e :: es) env)) []))
    (hbind : ∀ (s : Shared) (us ws : List Value), us.length = n → ws.length = ks.length → BindsTo s fd ⟨us, ks.zip ws⟩ (ps.zip (pick pm (us ++ ws))))
    (len : ∀ vs H Q E, sp vs H Q E → vs.length = ps.length)
    (hbody : ∀ (A : Around) (outer : List Env) (s : Shared) (H : Hp) (vs : List V) (Q : VK), Room k (A.deeper (envS qual (defScope st) s.heap.objs.size f (.ref cda) cc)) → A.guards = some [] → sp vs H Q (fun _ _ _ => False) →
      ∃ a us dx fs ta t, ∃ G : Hp → Prop, vs = .ref a :: us ∧ H a = some (.ins C dx fs) ∧ PA (cxS CX0 P w K mg base N qual (defScope st) f (.ref cda) cc A outer s H fun _ _ _ => False) (e :: es) ta ∧ (ta (L2.start N vs) H fun ws H1 => ws.length = n2 ∧ sp2 (.ref a :: ws) H1 (fun _ H2 => G H2) fun _ _ _ => False) ∧
        PSs (cxS CX0 P w K mg base N qual (defScope st) f (.ref cda) cc A outer s H fun _ _ _ => False) rest t ∧ ∀ H1, G H1 → t { nx := fun _ H' => Q .non H', rt := Q } (L2.start N vs) H1) :
    FGR P w K mg base (k + 1) f n ks (fun vs H Q E => sp (pick pm vs) H Q E) := by
  obtain ⟨oc, od, kV, doc, pm', an, ct, osl, rfl, lk, hcd⟩ := F.ex
  intro A outer s H us0 ws0 vs0 Q room gd env l1 l2 rv hsp
  have bt := hbind s us0 ws0 l1 l2
  have vals := vals_pick rv pm
  have hlen := len _ _ _ _ hsp
  have kin : K.In s.heap := env.mod.kin.keeps fun b o e => (env.bs b o e).1
  have nolim : s.heap.NoLimit := env.mod.nolimit.keeps fun b o e => (env.bs b o e).1
  have hloc : ∀ y ∈ ps.zip (pick pm (us0 ++ ws0)), (defScope st).names.lookup y.1 = some .local := by
    intro ⟨n, v⟩ hy
    exact S.par n (List.of_mem_zip hy).1
  refine PySem.ks_codeAny_call_defAt (body := defBody st) (binds := ps.zip (pick pm (us0 ++ ws0))) room.depth (kin _ _ lk) rfl nolim (PySem.W.codeRec_of kin hcd) rfl bt S.nocell hloc (fun h₀ hns hk => ?_) S.co S.gen S.kind
  obtain ⟨a, us', dx, fs, ta, t, G, hvs, ha, hpa, hta, hps, ht⟩ := hbody A outer s H _ Q (room.deeper _) gd hsp
  have I0 := inv_startS (CX := CX0) (E := fun _ _ _ => False) (qual := qual) (f := f) (cd := .ref cda) S room.hd env hlen vals T.cell hns hk (tk := s.toks + (ps.zip (pick pm (us0 ++ ws0))).length)
  show _root_.PySem.wpAt (model P w) (A.deeper (envS qual (defScope st) s.heap.objs.size f (.ref cda) cc)) (.func (defBody st) (envS qual (defScope st) s.heap.objs.size f (.ref cda) cc)) (execs (defBody st) (envS qual (defScope st) s.heap.objs.size f (.ref cda) cc)) _ _ _
  refine PySem.ks_wpAt_mono (Q := SP (cxS CX0 P w K mg base N qual (defScope st) f (.ref cda) cc A outer s H fun _ _ _ => False) [] { nx := fun _ H' => Q .non H', rt := Q }) (E := (cxS CX0 P w K mg base N qual (defScope st) f (.ref cda) cc A outer s H fun _ _ _ => False).xe) ?_ ?_ fun e s' h => ?_
  · have hn0 : 0 < N.length := (List.getElem?_eq_some_iff.mp hN).1
    rw [hb]
    refine super_initP (body := _) (G := G) T F2 (room.deeper _) gd lk hp hN hks hkc hka S.kind I0 (by rw [hvs]; unfold L2.start; rfl) ha hpa hta (fun H1 s1 J hG => ?_) (by unfold interactive; show ((defScope st).kind == .module && _) = false; rw [S.kind]; rfl) (he _) (hpl _) (hcall _)
    exact PySem.wpAt_of_wpAny (hps.run [] s1 _ _ _ J (ht H1 hG))
  · intro fl s' hs
    cases fl with
    | ret u =>
      obtain ⟨v, σ', H', J, rv, q⟩ := hs
      exact ⟨v, H', J.os, J.bare, J.base, J.hok, rv, q⟩
    | next =>
      obtain ⟨σ', H', J, q⟩ := hs
      exact ⟨.non, H', J.os, J.bare, J.base, J.hok, rfl, q⟩
    | brk => obtain ⟨_, _, _, q⟩ := hs; exact q.elim
    | cont => obtain ⟨_, _, _, q⟩ := hs; exact q.elim
  · exact h
end
end Kd


set_option Elab.async false
set_option linter.all false
set_option maxRecDepth 100000
set_option maxHeartbeats 4000000
namespace Kd
open PySem PySem.Spec PyProof.Rows L2
/-! == of data with dicts. -/
section
variable {prog : Program} {w : World} {A : Around} {s : Shared} {E : Value → Shared → Prop}
theorem dict_declines {a : Addr} {y : Value} {T : String} {nm : Str} {Q : Value → Shared → Prop} (ha : s.TypeIs (.ref a) "dict") (hy : s.TypeIs y T) (hs : isSubtype (.type T) (.type "dict") = pure false) (hslot : Slot "dict" nm "dict.__eq__")
    (h : Q .notImplemented s) : wpAny (model prog w) A (call (.builtin "dict.__eq__") [.ref a, y]) Q E s := by
  refine wpAny_call_entry hslot ha F.entry_dict_eq ?_ (F.args_dict_eq_2 _ _)
  show wpAny _ _ (Builtin.Dict.dictSlotArgs "__eq__" ⟨[.ref a, y], []⟩ >>= _) _ _ s
  refine wpAny_bind ?_
  unfold Builtin.Dict.dictSlotArgs
  refine wpAny_bind (wpAny_notOrdered_dict ha ?_)
  show wpAny _ _ (pure (Value.ref a, y)) _ _ s
  refine wpAny_pure ?_
  refine wpAny_bind (wpAny_isInstance (T := T) (U := "dict") hy hs ?_)
  simp only [Bool.not_false, if_true]
  obtain ⟨hp, g, d, tk, os⟩ := s
  wp_walk
  exact ⟨_, rfl, h⟩
end
open AutoSeq1 (wpAny_loadPart')
open MeetsSeq MeetsSeq2 MeetsSeq3 SeqRoads2
open PySem.SeqAt
theorem int_declines_dict (b : Int) (u : Tok) (l : Addr) (es : Array DictEntry) (n : Nat) (dd : Option Addr) (sl : Array (Option Value)) :
    Meets (Builtin.«int.__eq__» ⟨[.int b u, .ref l], []⟩) (fun _ R s => s.heap.get? l = some { cls := .type "dict", dict := dd, data := .dict es n, slots := sl } ∧ R (.ok (.ret .notImplemented)) s) :=
  .of_wp fun prog w A R s h => by obtain ⟨hp, g, d, tk, os⟩ := s; obtain ⟨hl, h⟩ := h; wp_walk using wpAny_loadPart' hl, wpAny_load hl; exact ⟨_, rfl, h⟩
theorem tuple_declines_dict (l b : Addr) (items : Array Value) (es : Array DictEntry) (n n2 : Nat) (dd dd2 : Option Addr) (sl sl2 : Array (Option Value)) :
    Meets (Builtin.«tuple.__eq__» ⟨[.ref l, .ref b], []⟩) (fun _ R s => s.heap.get? l = some { cls := .type "tuple", dict := dd, data := .seq items n, slots := sl } ∧ s.heap.get? b = some { cls := .type "dict", dict := dd2, data := .dict es n2, slots := sl2 } ∧ R (.ok (.ret .notImplemented)) s) :=
  .of_wp fun prog w A R s h => by obtain ⟨hp, g, d, tk, os⟩ := s; obtain ⟨hl, hb, h⟩ := h; have f1 := F.sub_dict_tuple; wp_walk using wpAny_loadPart' hl, wpAny_loadPart' hb; exact ⟨_, rfl, h⟩
section
variable {A : Around} {s : Shared} {a : Addr} {dd : Option Addr} {es : Array DictEntry} {n : Nat} {sl : Array (Option Value)}
theorem rc_dict_int (ho : s.heap.get? a = some { cls := .type "dict", dict := dd, data := .dict es n, slots := sl }) (b : Int) (u : Tok) (hu : A.units < cLine) : RcAt A s (.ref a) (.int b u) false := fun prog w E Q h =>
  rc_eq_decline_or (k := false) ⟨_, ho, rfl⟩ (typeIs_int s b u) (by decide) F.sub_int_dict F.slot_dict_eq F.slot_int_eq_refl
    (fun _ hq => dict_declines ⟨_, ho, rfl⟩ (typeIs_int s b u) F.sub_int_dict F.slot_dict_eq hq)
    (fun _ hq => call_meets F.slot_int_eq_refl (typeIs_int s b u) F.entry_int_eq (F.args_int_eq_2 _ _) (int_declines_dict b u a es n dd sl) ⟨ho, hq⟩)
    (fun _ hq => wpAny_of_eq (rfl : isSame (.ref a) (.int b u) = pure false) hq) (.inr hu) h
theorem rc_int_dict (ho : s.heap.get? a = some { cls := .type "dict", dict := dd, data := .dict es n, slots := sl }) (b : Int) (u : Tok) (hu : A.units < cLine) : RcAt A s (.int b u) (.ref a) false := fun prog w E Q h =>
  rc_eq_decline_or (k := false) (typeIs_int s b u) ⟨_, ho, rfl⟩ (by decide) F.sub_dict_int F.slot_int_eq F.slot_dict_eq_refl
    (fun _ hq => call_meets F.slot_int_eq (typeIs_int s b u) F.entry_int_eq (F.args_int_eq_2 _ _) (int_declines_dict b u a es n dd sl) ⟨ho, hq⟩)
    (fun _ hq => dict_declines ⟨_, ho, rfl⟩ (typeIs_int s b u) F.sub_int_dict F.slot_dict_eq_refl hq)
    (fun _ hq => wpAny_of_eq (rfl : isSame (.int b u) (.ref a) = pure false) hq) (.inr hu) h
theorem ea_dict_int (ho : s.heap.get? a = some { cls := .type "dict", dict := dd, data := .dict es n, slots := sl }) (b : Int) (u : Tok) (hu : A.units < cLine) : EqAt A s (.ref a) (.int b u) false := fun prog w E Q h => by
  unfold eqBool
  refine wpAny_holding ?_
  refine wpAny_ite_split (fun hab => absurd (eq_of_beq hab) nofun) (fun _ => ?_)
  exact wpAny_bind (rc_dict_int ho b u hu prog w E _ (wpAny_truthy_bool h))
theorem ea_int_dict (ho : s.heap.get? a = some { cls := .type "dict", dict := dd, data := .dict es n, slots := sl }) (b : Int) (u : Tok) (hu : A.units < cLine) : EqAt A s (.int b u) (.ref a) false := fun prog w E Q h => by
  unfold eqBool
  refine wpAny_holding ?_
  refine wpAny_ite_split (fun hab => absurd (eq_of_beq hab) nofun) (fun _ => ?_)
  exact wpAny_bind (rc_int_dict ho b u hu prog w E _ (wpAny_truthy_bool h))
theorem ne_dict_tuple {l : Addr} {items : Array Value} (ho : s.heap.get? a = some { cls := .type "dict", dict := dd, data := .dict es n, slots := sl }) (hl : s.heap.IsTuple l items) : a ≠ l := fun e => by
  subst e
  obtain ⟨o2, ho2, hc2, _⟩ := hl
  rw [ho] at ho2
  cases ho2
  exact absurd hc2 (by simp)
theorem ea_dict_tuple {l : Addr} {items : Array Value} (ho : s.heap.get? a = some { cls := .type "dict", dict := dd, data := .dict es n, slots := sl }) (hl : s.heap.IsTuple l items) (hu : A.units < cLine) : EqAt A s (.ref a) (.ref l) false := by
  have hne := ne_dict_tuple ho hl
  refine .of_refs hne fun prog w E Q h => ?_
  obtain ⟨⟨cls, d2, data, sl2⟩, ho2, hc, m, hd⟩ := id hl
  simp only at hc hd
  subst hc hd
  exact rc_eq_decline_or (k := false) ⟨_, ho, rfl⟩ ⟨_, ho2, rfl⟩ (by decide) F.sub_tuple_dict F.slot_dict_eq F.slot_tuple_eq_refl
    (fun _ hq => dict_declines ⟨_, ho, rfl⟩ ⟨_, ho2, rfl⟩ F.sub_tuple_dict F.slot_dict_eq hq)
    (fun _ hq => call_meets F.slot_tuple_eq_refl ⟨_, ho2, rfl⟩ F.entry_tuple_eq (F.args_tuple_eq_2 _ _) (tuple_declines_dict l a items es m n d2 dd sl2 sl) ⟨ho2, ho, hq⟩)
    (fun _ hq => wpAny_isSame_ref_other hne ho ho2 (by simp) hq) (.inr hu) h
theorem ea_tuple_dict {l : Addr} {items : Array Value} (ho : s.heap.get? a = some { cls := .type "dict", dict := dd, data := .dict es n, slots := sl }) (hl : s.heap.IsTuple l items) (hu : A.units < cLine) : EqAt A s (.ref l) (.ref a) false := by
  have hne := (ne_dict_tuple ho hl).symm
  refine .of_refs hne fun prog w E Q h => ?_
  obtain ⟨⟨cls, d2, data, sl2⟩, ho2, hc, m, hd⟩ := id hl
  simp only at hc hd
  subst hc hd
  exact rc_eq_decline_or (k := false) ⟨_, ho2, rfl⟩ ⟨_, ho, rfl⟩ (by decide) F.sub_dict_tuple F.slot_tuple_eq F.slot_dict_eq_refl
    (fun _ hq => call_meets F.slot_tuple_eq ⟨_, ho2, rfl⟩ F.entry_tuple_eq (F.args_tuple_eq_2 _ _) (tuple_declines_dict l a items es m n d2 dd sl2 sl) ⟨ho2, ho, hq⟩)
    (fun _ hq => dict_declines ⟨_, ho, rfl⟩ ⟨_, ho2, rfl⟩ F.sub_tuple_dict F.slot_dict_eq_refl hq)
    (fun _ hq => wpAny_isSame_ref_other' hne ho2 ho (by simp) hq) (.inr hu) h
end
end Kd


set_option Elab.async false
set_option linter.all false
set_option maxRecDepth 100000
set_option maxHeartbeats 4000000
namespace Kd
open PySem PySem.Spec PyProof.Rows L2
section
variable {X : Cx} {pins : List (Addr × Obj)} {σ : L2.St} {B H : Hp} {s : Shared}
theorem Inv.not_both (I : L2.Inv X pins σ H s) {a : Addr} {xs ys : List V} (h : SqL X.K H a xs) (h' : SqT X.K H a ys) : False := by
  obtain ⟨its, r, ⟨o, n, e, c, _, d⟩, _⟩ := I.list h
  obtain ⟨its', r', ⟨o', e', c', n', d'⟩, _⟩ := I.tuple h'
  rw [e] at e'; cases e'
  rw [c] at c'
  exact absurd c' (by decide)
theorem Inv.nokT (I : L2.Inv X pins σ H s) {a : Addr} {ys : List V} {kvs : List (Key × V)} (h : H a = some (.dK kvs)) (h' : SqT X.K H a ys) : False := by
  obtain ⟨its', r', ⟨o', e', c', n', d'⟩, _⟩ := I.tuple h'
  obtain ⟨_, _, vs, _, o, es, ep, e, x, d, _⟩ := (show ObjOk X.prog X.w H s.heap a (.dK kvs) from I.hok a _ h)
  rw [e] at e'; cases e'
  rw [d] at d'
  cases d'
mutual
theorem Dv.inj (I : L2.Inv X pins σ H s) (e : Same B H) : ∀ (d : PyData) (v : V) (d' : PyData), Dv X.K B v d → Dv X.K B v d' → noObj d = true → noObj d' = true → d = d'
  | .none, _, d', h, h', _, _ => by cases h; cases h'; rfl
  | .bool b, _, d', h, h', _, _ => by cases h; cases h'; rfl
  | .int i, _, d', h, h', _, _ => by cases h; cases h'; rfl
  | .str x, _, d', h, h', _, _ => by cases h; cases h'; rfl
  | .list ds, _, d', h, h', n, n' => by
    cases h with
    | lst h1 r1 =>
      cases h' with
      | lst h2 r2 =>
        rw [h1] at h2; cases h2
        rw [DvL.inj I e ds _ _ r1 r2 (by simpa [noObj] using n) (by simpa [noObj] using n')]
      | tup h2 r2 => exact (Inv.not_both I (.of (e _ _ h1)) (same_t e h2)).elim
      | dct h2 r2 => rw [h1] at h2; cases h2
      | exc _ h2 _ _ => exact absurd n' (by simp [noObj, isObj])
      | ins _ h2 _ => exact absurd n' (by simp [noObj, isObj])
  | .tuple ds, _, d', h, h', n, n' => by
    cases h with
    | tup h1 r1 =>
      cases h' with
      | lst h2 r2 => exact (Inv.not_both I (.of (e _ _ h2)) (same_t e h1)).elim
      | tup h2 r2 =>
        have z := I.tuple_inj (same_t e h1) (same_t e h2)
        subst z
        rw [DvL.inj I e ds _ _ r1 r2 (by simpa [noObj] using n) (by simpa [noObj] using n')]
      | dct h2 r2 => exact (Inv.nokT I (e _ _ h2) (same_t e h1)).elim
      | exc _ h2 _ _ => exact absurd n' (by simp [noObj, isObj])
      | ins _ h2 _ => exact absurd n' (by simp [noObj, isObj])
  | .dict ds, _, d', h, h', n, n' => by
    cases h with
    | dct h1 r1 =>
      cases h' with
      | lst h2 r2 => rw [h1] at h2; cases h2
      | tup h2 r2 => exact (Inv.nokT I (e _ _ h1) (same_t e h2)).elim
      | dct h2 r2 =>
        rw [h1] at h2; cases h2
        simp only [noObj, Bool.and_eq_true] at n n'
        rw [DvK.inj I e ds _ _ r1 r2 n.2 n'.2]
      | exc _ h2 _ _ => exact absurd n' (by simp [noObj, isObj])
      | ins _ h2 _ => exact absurd n' (by simp [noObj, isObj])
    | exc _ h2 _ _ => exact absurd n (by simp [noObj, isObj])
    | ins _ h2 _ => exact absurd n (by simp [noObj, isObj])
theorem DvL.inj (I : L2.Inv X pins σ H s) (e : Same B H) : ∀ (ds : List PyData) (vs : List V) (ds' : List PyData), DvL X.K B vs ds → DvL X.K B vs ds' → noObjAll ds = true → noObjAll ds' = true → ds = ds'
  | [], _, _, h, h', _, _ => by cases h; cases h'; rfl
  | d :: ds, _, _, h, h', n, n' => by
    cases h with
    | cons h1 r1 =>
      cases h' with
      | cons h2 r2 =>
        simp only [noObjAll, Bool.and_eq_true] at n n'
        rw [Dv.inj I e d _ _ h1 h2 n.1 n'.1, DvL.inj I e ds _ _ r1 r2 n.2 n'.2]
theorem DvK.inj (I : L2.Inv X pins σ H s) (e : Same B H) : ∀ (ds : List (PyData × PyData)) (kvs : List (Key × V)) (ds' : List (PyData × PyData)), DvK X.K B kvs ds → DvK X.K B kvs ds' → noObjKv ds = true → noObjKv ds' = true → ds = ds'
  | [], _, _, h, h', _, _ => by cases h; cases h'; rfl
  | _ :: ds, _, _, h, h', n, n' => by
    cases h with
    | cons h1 r1 =>
      cases h' with
      | cons h2 r2 =>
        simp only [noObjKv, Bool.and_eq_true] at n n'
        rw [Dv.inj I e _ _ _ h1 h2 n.1 n'.1, DvK.inj I e ds _ _ r1 r2 n.2 n'.2]
end
end
/-! ### == of data, dicts of one entry too -/
def eqZ (f : PyData → PyData → Option Bool) : List PyData → List PyData → Option Bool
  | x :: xs, y :: ys => match f x y, eqZ f xs ys with
    | some a, some b => some (a && b)
    | _, _ => none
  | _, _ => some true
def eqM (f : PyData → PyData → Option Bool) : PyData → PyData → Option Bool
  | .tuple xs, .tuple ys => match eqZ f xs ys with
    | some b => some (b && xs.length == ys.length)
    | none => none
  | .dict [(.str x, v)], .dict [(.str y, w)] => if x = y then f v w else none
  | .dict [(.str _, _)], .int _ => some false
  | .int _, .dict [(.str _, _)] => some false
  | .dict [(.str _, _)], .tuple _ => some false
  | .tuple _, .dict [(.str _, _)] => some false
  | .tuple _, .none => some false
  | .none, .tuple _ => some false
  | .tuple _, .int _ => some false
  | .int _, .tuple _ => some false
  | .tuple _, .str _ => some false
  | .str _, .tuple _ => some false
  | _, _ => none
def eqG : Nat → PyData → PyData → Option Bool
  | 0, _, _ => none
  | n + 1, d, e => if SeqAt.shaped d && SeqAt.shaped e then some (PyData.eqv d e) else eqM (eqG n) d e
theorem eqZ_refl {f : PyData → PyData → Option Bool} (h : ∀ d b, f d d = some b → b = true) : ∀ (xs : List PyData) (b : Bool), eqZ f xs xs = some b → b = true
  | [], b, e => by cases e; rfl
  | x :: xs, b, e => by
    unfold eqZ at e
    split at e
    · rename_i a c h1 h2
      cases e
      rw [h _ _ h1, eqZ_refl h xs c h2]
      rfl
    · cases e
theorem eqM_refl {f : PyData → PyData → Option Bool} (hf : ∀ d b, f d d = some b → b = true) (d : PyData) (b : Bool) (h : eqM f d d = some b) : b = true := by
  cases d with
  | tuple xs =>
    simp only [eqM] at h
    split at h
    · rename_i c hz
      cases h
      rw [eqZ_refl hf _ _ hz]
      simp
    · cases h
  | list xs => cases h
  | dict ds =>
    match ds, h with
    | [], h => cases h
    | [(.str x, v)], h =>
      simp only [eqM, if_true] at h
      exact hf _ _ h
    | [(.none, v)], h => cases h
    | [(.bool _, v)], h => cases h
    | [(.int _, v)], h => cases h
    | [(.list _, v)], h => cases h
    | [(.tuple _, v)], h => cases h
    | [(.dict _, v)], h => cases h
    | _ :: _ :: _, h => simp [eqM] at h
  | none => cases h
  | bool b => cases h
  | int b => cases h
  | str b => cases h
theorem eqG_refl : ∀ (n : Nat) (d : PyData) (b : Bool), eqG n d d = some b → b = true
  | 0, d, b, h => by cases h
  | n + 1, d, b, h => by
    unfold eqG at h
    split at h
    · rename_i hs
      cases h
      exact PySem.SeqAt.eqv_refl_plain d (PyData.plain_of_canLay0 d (SeqAt.canLay_of_shaped (Bool.and_eq_true_iff.mp hs).1))
    · exact eqM_refl (eqG_refl n) d b h

theorem eqZ_all {f : PyData → PyData → Option Bool} : ∀ (xs ys : List PyData) (c : Bool), eqZ f xs ys = some c → ∃ e : Nat → Bool, c = (List.range (min xs.length ys.length)).all e ∧ ∀ j x y, xs[j]? = some x → ys[j]? = some y → f x y = some (e j)
  | [], ys, c, h => by
    have h : some true = some c := by cases ys <;> exact h
    cases h
    exact ⟨fun _ => true, by simp, fun j x y h => by simp at h⟩
  | x :: xs, [], c, h => by
    have h : some true = some c := h
    cases h
    exact ⟨fun _ => true, by simp, fun j x y _ h => by simp at h⟩
  | x :: xs, y :: ys, c, h => by
    unfold eqZ at h
    split at h
    · rename_i a d h1 h2
      cases h
      obtain ⟨e, he, hj⟩ := eqZ_all xs ys d h2
      refine ⟨fun j => match j with | 0 => a | j + 1 => e j, ?_, fun j x' y' g1 g2 => ?_⟩
      · rw [he, List.length_cons, List.length_cons, Nat.succ_min_succ, List.range_succ_eq_map, List.all_cons, List.all_map]
        rfl
      · cases j with
        | zero =>
          cases g1
          cases g2
          exact h1
        | succ j => exact hj j x' y' (by simpa using g1) (by simpa using g2)
    · cases h
section
variable {X : Cx} {pins : List (Addr × Obj)} {σ : L2.St} {B H : Hp} {s : Shared}
theorem dct_obj (I : L2.Inv X pins σ H s) {a : Addr} {kvs : List (Key × V)} (h : H a = some (.dK kvs)) : ∃ dd es n sl vs, s.heap.get? a = some { cls := .type "dict", dict := dd, data := .dict es n, slots := sl } ∧ (a == sysModules) = false ∧ KV kvs vs ∧ s.heap.DictOf (mixKind X.prog X.w) a vs := by
  obtain ⟨hz, hsm, vs, kv, dof⟩ := (show ObjOk X.prog X.w H s.heap a (.dK kvs) from I.hok a _ h)
  obtain ⟨⟨cls, dd, data, sl⟩, es, ep, ho, hx, hdat, _⟩ := id dof
  have hc := hx.1
  simp only at hc hdat
  subst hc hdat
  exact ⟨_, _, _, _, vs, ho, hsm, kv, dof⟩
theorem DvK.one {K : PySem.W.Frag} {kvs : List (Key × V)} {x : Str} {d : PyData} (r : DvK K B kvs [(.str x, d)]) : ∃ w, kvs = [(.inr x, w)] ∧ Dv K B w d := by
  generalize hl : [(PyData.str x, d)] = l at r
  cases r with
  | nil => cases hl
  | @cons k v kvs d' ds h t =>
    injection hl with e1 e2
    injection e1 with e3 e4
    subst e4
    subst e2
    cases t
    cases k with
    | inl i => exact nomatch e3
    | inr y =>
      injection e3 with e3
      subst e3
      exact ⟨v, rfl, h⟩
theorem KV.one {k : Key} {w : V} {vs : List (Key × Value)} (r : KV [(k, w)] vs) : ∃ u, vs = [(k, u)] ∧ L2.RelV w u := by
  unfold KV at r
  cases r with
  | cons h t =>
    cases t
    rename_i q
    obtain ⟨k', u⟩ := q
    obtain ⟨h1, h2⟩ := h
    have h1 : k = k' := h1
    subst h1
    exact ⟨u, rfl, h2⟩
theorem dict_tree (I : L2.Inv X pins σ H s) (e : Same B H) {a a' : Addr} {kvs kvs' : List (Key × V)} {x : Str} {d1 d2 : PyData} {n : Nat} {b : Bool} (ne : a ≠ a') (h1 : B a = some (.dK kvs)) (h2 : B a' = some (.dK kvs')) (r1 : DvK X.K B kvs [(.str x, d1)]) (r2 : DvK X.K B kvs' [(.str x, d2)])
    (ih : ∀ w1 w2 u u', Dv X.K B w1 d1 → Dv X.K B w2 d2 → L2.RelV w1 u → L2.RelV w2 u' → PySem.W.EqTree X.prog X.w s n u u' b) : PySem.W.EqTree X.prog X.w s (n + 1) (.ref a) (.ref a') b := by
  obtain ⟨w1, rfl, g1⟩ := r1.one
  obtain ⟨w2, rfl, g2⟩ := r2.one
  obtain ⟨dd, es, m, sl, vs, o1, m1, k1, f1⟩ := dct_obj I (e _ _ h1)
  obtain ⟨dd', es', m', sl', vs', o2, m2, k2, f2⟩ := dct_obj I (e _ _ h2)
  obtain ⟨u1, rfl, q1⟩ := KV.one k1
  obtain ⟨u2, rfl, q2⟩ := KV.one k2
  have t := PySem.W.EqTree.dicts (prog := X.prog) (w := X.w) (n := n) (e := fun _ => b) ne m1 m2 f1 f2 fun k v y hm hv => ?_
  · have z : (([(Sum.inr x, u1)] : List (Key × Value)).length == ([(Sum.inr x, u2)] : List (Key × Value)).length && ([(Sum.inr x, u1)] : List (Key × Value)).all fun p => (valueAt [(Sum.inr x, u2)] p.1).isSome && b) = b := by
      simp [valueAt]
    rw [z] at t
    exact t
  · have e1 : k = Sum.inr x ∧ v = u1 := by
      have := List.mem_singleton.mp hm
      cases this
      exact ⟨rfl, rfl⟩
    obtain ⟨rfl, rfl⟩ := e1
    have e2 : y = u2 := by
      simp [valueAt] at hv
      exact hv.symm
    subst e2
    exact ih w1 w2 _ _ g1 g2 q1 q2
end
end Kd


set_option Elab.async false
set_option linter.all false
set_option maxRecDepth 100000
set_option maxHeartbeats 4000000
namespace Kd
open PySem PySem.Spec PyProof.Rows L2
inductive EqMI (f : PyData → PyData → Option Bool) : PyData → PyData → Bool → Prop
  | tt {xs ys : List PyData} {c : Bool} (h : eqZ f xs ys = some c) : EqMI f (.tuple xs) (.tuple ys) (c && xs.length == ys.length)
  | dd {x : Str} {v w : PyData} {b : Bool} (h : f v w = some b) : EqMI f (.dict [(.str x, v)]) (.dict [(.str x, w)]) b
  | di {x : Str} {v : PyData} {i : Int} : EqMI f (.dict [(.str x, v)]) (.int i) false
  | id {x : Str} {v : PyData} {i : Int} : EqMI f (.int i) (.dict [(.str x, v)]) false
  | dt {x : Str} {v : PyData} {xs : List PyData} : EqMI f (.dict [(.str x, v)]) (.tuple xs) false
  | td {x : Str} {v : PyData} {xs : List PyData} : EqMI f (.tuple xs) (.dict [(.str x, v)]) false
  | tn {xs : List PyData} : EqMI f (.tuple xs) .none false
  | nt {xs : List PyData} : EqMI f .none (.tuple xs) false
  | ti {xs : List PyData} {i : Int} : EqMI f (.tuple xs) (.int i) false
  | it {xs : List PyData} {i : Int} : EqMI f (.int i) (.tuple xs) false
  | ts {xs : List PyData} {x : Str} : EqMI f (.tuple xs) (.str x) false
  | st {xs : List PyData} {x : Str} : EqMI f (.str x) (.tuple xs) false
theorem eqM_inv {f : PyData → PyData → Option Bool} {d e : PyData} {b : Bool} (h : eqM f d e = some b) : EqMI f d e b := by
  unfold eqM at h
  split at h
  · split at h
    · rename_i hz; cases h; exact .tt hz
    · cases h
  · split at h
    · rename_i hx; subst hx; exact .dd h
    · cases h
  · cases h; exact .di
  · cases h; exact .id
  · cases h; exact .dt
  · cases h; exact .td
  · cases h; exact .tn
  · cases h; exact .nt
  · cases h; exact .ti
  · cases h; exact .it
  · cases h; exact .ts
  · cases h; exact .st
  · cases h
theorem noObj_at : ∀ (l : List PyData) (i : Nat) (x : PyData), noObjAll l = true → l[i]? = some x → noObj x = true
  | [], i, x, _, h => by simp at h
  | p :: l, 0, x, hn, h => by
    simp only [noObjAll, Bool.and_eq_true] at hn
    cases h; exact hn.1
  | p :: l, i + 1, x, hn, h => by
    simp only [noObjAll, Bool.and_eq_true] at hn
    exact noObj_at l i x hn.2 (by simpa using h)
section
variable {X : Cx} {pins : List (Addr × Obj)} {σ : L2.St} {B H : Hp} {s : Shared}
theorem tup_tree (I : L2.Inv X pins σ H s) (e : Same B H) {a a' : Addr} {vs vs' : List V} {xs ys : List PyData} {n : Nat} {c : Bool} {f : PyData → PyData → Option Bool} (ne : a ≠ a') (h1 : SqT X.K B a vs) (h2 : SqT X.K B a' vs') (r1 : DvL X.K B vs xs) (r2 : DvL X.K B vs' ys) (hz : eqZ f xs ys = some c)
    (ih : ∀ (j : Nat) (x y : PyData) (b : Bool) (v v' : V) (u u' : Value), xs[j]? = some x → ys[j]? = some y → f x y = some b → Dv X.K B v x → Dv X.K B v' y → L2.RelV v u → L2.RelV v' u' → PySem.W.EqTree X.prog X.w s n u u' b) : PySem.W.EqTree X.prog X.w s (n + 1) (.ref a) (.ref a') (c && xs.length == ys.length) := by
  obtain ⟨us, q1, t1, _⟩ := I.tuple (same_t e h1)
  obtain ⟨us', q2, t2, _⟩ := I.tuple (same_t e h2)
  obtain ⟨ee, hc, hj⟩ := eqZ_all xs ys c hz
  have l1 : us.toArray.size = xs.length := by rw [List.size_toArray, ← q1.length, r1.length]
  have l2 : us'.toArray.size = ys.length := by rw [List.size_toArray, ← q2.length, r2.length]
  have t := PySem.W.EqTree.tuples (prog := X.prog) (w := X.w) (n := n) (e := ee) ne t1 t2 fun j g1 g2 => ?_
  · rw [l1, l2, ← hc] at t
    exact t
  · rw [List.size_toArray] at g1 g2
    obtain ⟨v, hv⟩ : ∃ v, vs[j]? = some v := ⟨_, List.getElem?_eq_getElem (by rw [q1.length]; exact g1)⟩
    obtain ⟨v', hv'⟩ : ∃ v, vs'[j]? = some v := ⟨_, List.getElem?_eq_getElem (by rw [q2.length]; exact g2)⟩
    obtain ⟨x, x1, x2⟩ := r1.get hv
    obtain ⟨y, y1, y2⟩ := r2.get hv'
    obtain ⟨w1, w2, w3⟩ := q1.get hv
    obtain ⟨w1', w2', w3'⟩ := q2.get hv'
    have k := ih j x y (ee j) v v' w1 w1' x1 y1 (hj j x y x1 y1) x2 y2 w3 w3'
    have m1 : us.toArray[j] = w1 := by
      rw [List.getElem?_eq_getElem g1] at w2
      simpa using Option.some.inj w2
    have m2 : us'.toArray[j] = w1' := by
      rw [List.getElem?_eq_getElem g2] at w2'
      simpa using Option.some.inj w2'
    rw [m1, m2]
    exact k
theorem eq_tree (I : L2.Inv X pins σ H s) (e : Same B H) : ∀ (n : Nat) (d d' : PyData) (b : Bool) (v v' : V) (u u' : Value), eqG n d d' = some b → Dv X.K B v d → Dv X.K B v' d' → noObj d = true → noObj d' = true → L2.RelV v u → L2.RelV v' u' → PySem.W.EqTree X.prog X.w s (64 + n) u u' b
  | 0, _, _, _, _, _, _, _, h, _, _, _, _, _, _ => by cases h
  | n + 1, d, d', b, v, v', u, u', h, hv, hv', nd, nd', r, r' => by
    have h0 := h
    unfold eqG at h
    by_cases hs : (SeqAt.shaped d && SeqAt.shaped d') = true
    · rw [if_pos hs] at h
      obtain ⟨h1, h2⟩ := Bool.and_eq_true_iff.mp hs
      cases h
      obtain ⟨as, ra, _⟩ := Dv.reads I e d v u hv nd r
      obtain ⟨bs, rb, _⟩ := Dv.reads I e d' v' u' hv' nd' r'
      exact .leaf fun A hu => SeqAt.eqAt_reads d d' A s u u' as bs ra rb (SeqAt.canLay_of_shaped h1) (SeqAt.canLay_of_shaped h2) (SeqAt.room_of_shaped h1 (by omega))
    · rw [if_neg hs] at h
      have ih := eq_tree I e n
      have same : ∀ {a : Addr}, v = .ref a → v' = .ref a → PySem.W.EqTree X.prog X.w s (64 + (n + 1)) u u' b := fun {a} e1 e2 => by
        subst e1 e2
        cases r
        cases r'
        have z := Dv.inj I e d _ d' hv hv' nd nd'
        subst z
        rw [eqG_refl _ _ _ h0]
        exact .same
      cases eqM_inv h with
      | tt hz =>
        obtain ⟨a, vs, rfl, ha, ra⟩ := tup_dv hv
        obtain ⟨a', vs', rfl, ha', ra'⟩ := tup_dv hv'
        by_cases z : a = a'
        · subst z; exact same rfl rfl
        · cases r
          cases r'
          simp only [noObj] at nd nd'
          exact tup_tree I e z ha ha' ra ra' hz fun j x y b v v' u u' g1 g2 g3 g4 g5 g6 g7 => ih x y b v v' u u' g3 g4 g5 (noObj_at _ _ _ nd g1) (noObj_at _ _ _ nd' g2) g6 g7
      | dd hz =>
        simp only [noObj, noObjKv, Bool.and_eq_true] at nd nd'
        cases hv with
        | dct h1 r1 =>
          cases hv' with
          | dct h2 r2 =>
            rename_i a kvs a' kvs'
            by_cases z : a = a'
            · subst z; exact same rfl rfl
            · cases r
              cases r'
              exact dict_tree I e z h1 h2 r1 r2 fun w1 w2 u u' g4 g5 g6 g7 => ih _ _ _ w1 w2 u u' hz g4 g5 nd.2.1 nd'.2.1 g6 g7
      | di =>
        cases hv with
        | dct h1 r1 =>
          cases hv'
          cases r
          obtain ⟨t, rfl⟩ := r'
          obtain ⟨dd, es, m, sl, vs, o1, _⟩ := dct_obj I (e _ _ h1)
          exact .leaf fun A hu => ea_dict_int o1 _ _ (by omega)
      | id =>
        cases hv' with
        | dct h1 r1 =>
          cases hv
          cases r'
          obtain ⟨t, rfl⟩ := r
          obtain ⟨dd, es, m, sl, vs, o1, _⟩ := dct_obj I (e _ _ h1)
          exact .leaf fun A hu => ea_int_dict o1 _ _ (by omega)
      | dt =>
        obtain ⟨a', vs', rfl, ha', ra'⟩ := tup_dv hv'
        cases hv with
        | dct h1 r1 =>
          cases r
          cases r'
          obtain ⟨dd, es, m, sl, vs, o1, _⟩ := dct_obj I (e _ _ h1)
          obtain ⟨us, q1, t1, _⟩ := I.tuple (same_t e ha')
          exact .leaf fun A hu => ea_dict_tuple o1 t1 (by omega)
      | td =>
        obtain ⟨a', vs', rfl, ha', ra'⟩ := tup_dv hv
        cases hv' with
        | dct h1 r1 =>
          cases r
          cases r'
          obtain ⟨dd, es, m, sl, vs, o1, _⟩ := dct_obj I (e _ _ h1)
          obtain ⟨us, q1, t1, _⟩ := I.tuple (same_t e ha')
          exact .leaf fun A hu => ea_tuple_dict o1 t1 (by omega)
      | tn =>
        obtain ⟨a', vs', rfl, ha', ra'⟩ := tup_dv hv
        cases hv'
        cases r
        cases r'
        obtain ⟨us, q1, t1, _⟩ := I.tuple (same_t e ha')
        exact .leaf fun A hu => SeqAt.EqAt.tuple_none t1 (by omega)
      | nt =>
        obtain ⟨a', vs', rfl, ha', ra'⟩ := tup_dv hv'
        cases hv
        cases r
        cases r'
        obtain ⟨us, q1, t1, _⟩ := I.tuple (same_t e ha')
        exact .leaf fun A hu => SeqAt.EqAt.none_tuple t1 (by omega)
      | ti =>
        obtain ⟨a', vs', rfl, ha', ra'⟩ := tup_dv hv
        cases hv'
        cases r
        obtain ⟨t, rfl⟩ := r'
        obtain ⟨us, q1, t1, _⟩ := I.tuple (same_t e ha')
        exact .leaf fun A hu => SeqAt.EqAt.tuple_int _ _ t1 (by omega)
      | it =>
        obtain ⟨a', vs', rfl, ha', ra'⟩ := tup_dv hv'
        cases hv
        cases r'
        obtain ⟨t, rfl⟩ := r
        obtain ⟨us, q1, t1, _⟩ := I.tuple (same_t e ha')
        exact .leaf fun A hu => SeqAt.EqAt.int_tuple _ _ t1 (by omega)
      | ts =>
        obtain ⟨a', vs', rfl, ha', ra'⟩ := tup_dv hv
        cases hv'
        cases r
        obtain ⟨t, rfl⟩ := r'
        obtain ⟨us, q1, t1, _⟩ := I.tuple (same_t e ha')
        exact .leaf fun A hu => SeqAt.EqAt.tuple_str _ _ t1 (by omega)
      | st =>
        obtain ⟨a', vs', rfl, ha', ra'⟩ := tup_dv hv'
        cases hv
        cases r'
        obtain ⟨t, rfl⟩ := r
        obtain ⟨us, q1, t1, _⟩ := I.tuple (same_t e ha')
        exact .leaf fun A hu => SeqAt.EqAt.str_tuple _ _ t1 (by omega)
end
end Kd


set_option Elab.async false
set_option linter.all false
set_option maxRecDepth 100000
set_option maxHeartbeats 4000000
namespace PySem.KdN
open PySem PySem.W PySem.Calls PyProof.Rows Builtin Builtin.ObjectAttr Builtin.Getset_descriptor
section
variable {prog : Program} {w : World} {A : Around} {E : Value → Shared → Prop} {s : Shared} {K : Frag} {C : Addr} {R : Result → Shared → Prop}
theorem name_get {tp v : Value} {cl : Value} {dd : Option Addr} {dt : Data} {sl : Array (Option Value)} (hC : s.heap.get? C = some ⟨cl, dd, dt, sl⟩) (hc : cl = .type "type") (hv : (sl[2]?).join = some v) (h : R (.ok (.ret v)) s) :
    codeAny (model prog w) A (.call (.builtin "getset_descriptor.__get__") ⟨[.builtin "type.__name__", .ref C, tp], []⟩) R s := by
  subst hc
  obtain ⟨hh, g, dr, t, os⟩ := s
  have L0 : Looks (model prog w) hh (typeOf (.ref C)) (.type "type") := fun A Q E s k q => wpAny_typeOf (T := "type") ⟨_, k _ _ hC, rfl⟩ q
  have L1 : Looks (model prog w) hh (isSubtype (.type "type") (.type "type")) true := Looks.of_pure (by rw [isSubtype_type]; kernel_rfl)
  refine codeAny_call_builtin KF.slot_gs.plain KF.entry_gs (KF.slot_gs.check _ _ _ _ _ _ _ _ ktyn_type (KF.args_gs _ _ _) ?_)
  unfold Builtin.«getset_descriptor.__get__» descrGet
  rw [dga_obj]
  refine wpAny_bind (wpAny_pure ?_)
  unfold descrGetter descrCheckInstance descrNameAndClass isInstance
  simp only [ktyn_owner]
  repeat lk
  refine ⟨Code.quiet_builtin _ (by decide +kernel), codeAny_builtin ktyn_entry ?_⟩
  unfold Builtin.«type.__name__» keptObject slotAt
  dsimp only
  refine wpAny_bind (wpAny_bind (wpAny_loadPart_at hC (wpAny_pure ?_)))
  show wpAny _ _ (match (sl[2]?).join with
        | some v => ret v
        | x => _) _ _ _
  rw [hv]
  exact wpAny_pure h
end
end PySem.KdN
namespace Kd
open PySem PySem.Spec PyProof.Rows L2
/-- the name that a class keeps -/
def nameIn (K : PySem.W.Frag) (C : Addr) : Option Str := match K.lookup C with
  | some ⟨.type t, _, _, (sl : Array (Option Value))⟩ => if t = "type" then (match (sl[2]?).join with
    | some (Value.str x _) => some x
    | _ => none) else none
  | _ => none
structure NmC (K : PySem.W.Frag) (C : Addr) (nm : Str) : Prop where
  ic : InC K C
  rd : PySem.W.readsIn K C (.type "type") = true
  at_ : PySem.W.findCls K (.ref C) (.type "type") "__name__" = some (.get (.builtin "getset_descriptor.__get__") (.builtin "type.__name__") (.ref C) (.type "type"))
  nm : nameIn K C = some nm
section
variable {X : Cx} {pins : List (Addr × Obj)} {σ : L2.St} {H : Hp} {s : Shared} {a C dx : Addr} {fs : List (Str × V)} {nm : Str} {A : Around} {E : Value → Shared → Prop} {Q : Value → Shared → Prop} {b : Bool}
theorem getclass_ok (I : Inv X pins σ H s) (e : H a = some (.ins C dx fs)) (n : InC X.K C) (h : ∀ s', Inv X pins σ H s' → Q (.ref C) s') : wpAny (model X.prog X.w) A (getAttr (.ref a) "__class__" b) Q E s := by
  obtain ⟨mA, O, _⟩ := ins_get I.hok e
  obtain ⟨od, J, _⟩ := O.look
  exact PySem.W.get_bind I.kIn J (PySem.W.plainGet_of n.cl.pg).1 (PySem.W.findObj_data (by obtain ⟨cd, hc, _⟩ := PySem.W.any_some n.cl.hd; rw [hc]; rfl) n.ha n.hn n.ht) (PySem.W.plainGet_of n.cl.pg).2
    (wpAny_call (PySem.W.class_get (s := { s with toks := s.toks + 1 }) I.kIn J n.hm (PySem.W.handed_on rfl (h _ (I.tok _)))))
theorem getname_ok (I : Inv X pins σ H s) (n : NmC X.K C nm) (h : ∀ s' t, Inv X pins σ H s' → Q (.str nm t) s') : wpAny (model X.prog X.w) A (getAttr (.ref C) "__name__" b) Q E s := by
  have hn := n.nm
  unfold nameIn at hn
  split at hn
  · rename_i t dd dt sl hk
    split at hn
    · rename_i ht
      subst ht
      split at hn
      · rename_i x tk hv
        cases hn
        refine PySem.W.cls_bind I.kIn n.rd n.at_ ?_
        refine wpAny_call (PySem.KdN.name_get (s := { s with toks := s.toks + 1 }) (I.kIn _ _ hk) rfl hv (PySem.W.handed_on rfl (h _ tk (I.tok _))))
      · cases hn
    · cases hn
  · cases hn
/-- e.__class__.__name__ -/
def tNm (K : PySem.W.Frag) (te : TE) : TE := fun σ H Q => te σ H fun x H1 => ∃ a C dx fs nm, x = .ref a ∧ H1 a = some (.ins C dx fs) ∧ NmC K C nm ∧ Q (.str nm) H1
theorem pe_nm {e : Expr} {te : TE} {p p2 : Pos} (he : PE X e te) (h1 : attributeBase (.Attribute e "__class__" p) "__name__" X.env (eval (.Attribute e "__class__" p) X.env) = eval (.Attribute e "__class__" p) X.env := by rfl) (h2 : attributeBase e "__class__" X.env (eval e X.env) = eval e X.env := by rfl) :
    PE X (.Attribute (.Attribute e "__class__" p) "__name__" p2) (tNm X.K te) := by
  refine ⟨fun pins s σ H Q I h => ?_⟩
  refine attr_of h1 (attr_of h2 (thn (he.run pins s σ H _ I h) fun u s1 ⟨x, H1, I1, rx, a, C, dx, fs, nm, ex, ea, n, q⟩ => ?_))
  subst ex
  obtain rfl : u = Value.ref a := rx
  refine getclass_ok I1 ea n.ic fun s2 I2 => ?_
  exact getname_ok I2 n fun s3 t I3 => ⟨.str nm, H1, I3, ⟨t, rfl⟩, q⟩
end
end Kd


set_option Elab.async false
set_option linter.all false
set_option maxRecDepth 100000
set_option maxHeartbeats 8000000
namespace K00
open PySem PySem.Spec PyProof.Rows L2 Kd
def top (i : Nat) : Stmt := PySem.Challenge.pw_foreverkept_k00_errors_and_papers_keep_w.main.body.getD i (.Pass ⟨0, 0, 0, 0⟩)
abbrev s_BadValue : Stmt := inClass (top 6) 0
theorem sc_BadValue : ScS ["self", "part"] ["self", "part"] (defScope s_BadValue) := ⟨rfl, rfl, rfl, by decide +kernel, rfl, by decide +kernel, by decide +kernel, by decide +kernel⟩
theorem ini_BadValue {P : Program} {w : World} {K : PySem.W.Frag} {mg : Str → Option Value} {base : Heap} {C f cda cc : Addr} {fd : FuncData} (T : SupV P K mg C f cda cc) (O : OexC K C) (hp : ∀ p ∈ (["part"] : List Str), PySem.W.findIn K (.ref C) p = some none) (F : FunS K "__init__" "BadValue.__init__" s_BadValue f cda cc fd) :
    FnOk P w K mg base CX0 1 f fd ["self", "part"] (spI C ["part"]) := by
  refine exc_fn T F sc_BadValue rfl rfl rfl rfl rfl rfl (fun _ => rfl) (fun _ => rfl) (fun _ => rfl) (fun vs H Q E h => by obtain ⟨a, us, rfl, hl, _⟩ := h; simpa using hl) fun A outer s H vs Q E hr h => ?_
  obtain ⟨a, us, rfl, hl, ha, q⟩ := h
  match us, hl with
  | [v1], _ =>
    refine ⟨a, [v1], _, _, rfl, ha, pa_cons (pv 1) pa_nil, ⟨v1, rfl, by show 1 ≤ 1000; decide, ha, rfl⟩, pss_one (ps_ost (pv 0) (pv 1)), ?_⟩
    refine ⟨v1, rfl, .ref a, rfl, a, C, rfl, O, hp _ (by decide +kernel), .inl ⟨ha, fun dx hdx hne => ?_⟩⟩
    exact q dx _ hdx hne upd_same (by rw [upd_ne hne]; exact upd_same) (fun b h1 h2 => by rw [upd_ne h1, upd_ne h2])
abbrev s_BadNumber : Stmt := inClass (top 7) 0
theorem sc_BadNumber : ScS ["self", "part"] ["self", "part"] (defScope s_BadNumber) := ⟨rfl, rfl, rfl, by decide +kernel, rfl, by decide +kernel, by decide +kernel, by decide +kernel⟩
theorem ini_BadNumber {P : Program} {w : World} {K : PySem.W.Frag} {mg : Str → Option Value} {base : Heap} {C f cda cc : Addr} {fd : FuncData} (T : SupV P K mg C f cda cc) (O : OexC K C) (hp : ∀ p ∈ (["part"] : List Str), PySem.W.findIn K (.ref C) p = some none) (F : FunS K "__init__" "BadNumber.__init__" s_BadNumber f cda cc fd) :
    FnOk P w K mg base CX0 1 f fd ["self", "part"] (spI C ["part"]) := by
  refine exc_fn T F sc_BadNumber rfl rfl rfl rfl rfl rfl (fun _ => rfl) (fun _ => rfl) (fun _ => rfl) (fun vs H Q E h => by obtain ⟨a, us, rfl, hl, _⟩ := h; simpa using hl) fun A outer s H vs Q E hr h => ?_
  obtain ⟨a, us, rfl, hl, ha, q⟩ := h
  match us, hl with
  | [v1], _ =>
    refine ⟨a, [v1], _, _, rfl, ha, pa_cons (pv 1) pa_nil, ⟨v1, rfl, by show 1 ≤ 1000; decide, ha, rfl⟩, pss_one (ps_ost (pv 0) (pv 1)), ?_⟩
    refine ⟨v1, rfl, .ref a, rfl, a, C, rfl, O, hp _ (by decide +kernel), .inl ⟨ha, fun dx hdx hne => ?_⟩⟩
    exact q dx _ hdx hne upd_same (by rw [upd_ne hne]; exact upd_same) (fun b h1 h2 => by rw [upd_ne h1, upd_ne h2])
abbrev s_BadBoard : Stmt := inClass (top 8) 0
theorem sc_BadBoard : ScS ["self", "part"] ["self", "part"] (defScope s_BadBoard) := ⟨rfl, rfl, rfl, by decide +kernel, rfl, by decide +kernel, by decide +kernel, by decide +kernel⟩
theorem ini_BadBoard {P : Program} {w : World} {K : PySem.W.Frag} {mg : Str → Option Value} {base : Heap} {C f cda cc : Addr} {fd : FuncData} (T : SupV P K mg C f cda cc) (O : OexC K C) (hp : ∀ p ∈ (["part"] : List Str), PySem.W.findIn K (.ref C) p = some none) (F : FunS K "__init__" "BadBoard.__init__" s_BadBoard f cda cc fd) :
    FnOk P w K mg base CX0 1 f fd ["self", "part"] (spI C ["part"]) := by
  refine exc_fn T F sc_BadBoard rfl rfl rfl rfl rfl rfl (fun _ => rfl) (fun _ => rfl) (fun _ => rfl) (fun vs H Q E h => by obtain ⟨a, us, rfl, hl, _⟩ := h; simpa using hl) fun A outer s H vs Q E hr h => ?_
  obtain ⟨a, us, rfl, hl, ha, q⟩ := h
  match us, hl with
  | [v1], _ =>
    refine ⟨a, [v1], _, _, rfl, ha, pa_cons (pv 1) pa_nil, ⟨v1, rfl, by show 1 ≤ 1000; decide, ha, rfl⟩, pss_one (ps_ost (pv 0) (pv 1)), ?_⟩
    refine ⟨v1, rfl, .ref a, rfl, a, C, rfl, O, hp _ (by decide +kernel), .inl ⟨ha, fun dx hdx hne => ?_⟩⟩
    exact q dx _ hdx hne upd_same (by rw [upd_ne hne]; exact upd_same) (fun b h1 h2 => by rw [upd_ne h1, upd_ne h2])
abbrev s_BadMove : Stmt := inClass (top 9) 0
theorem sc_BadMove : ScS ["self", "state", "index", "part"] ["self", "state", "index", "part"] (defScope s_BadMove) := ⟨rfl, rfl, rfl, by decide +kernel, rfl, by decide +kernel, by decide +kernel, by decide +kernel⟩
theorem ini_BadMove {P : Program} {w : World} {K : PySem.W.Frag} {mg : Str → Option Value} {base : Heap} {C f cda cc : Addr} {fd : FuncData} (T : SupV P K mg C f cda cc) (O : OexC K C) (hp : ∀ p ∈ (["state", "index", "part"] : List Str), PySem.W.findIn K (.ref C) p = some none) (F : FunS K "__init__" "BadMove.__init__" s_BadMove f cda cc fd) :
    FnOk P w K mg base CX0 1 f fd ["self", "state", "index", "part"] (spI C ["state", "index", "part"]) := by
  refine exc_fn T F sc_BadMove rfl rfl rfl rfl rfl rfl (fun _ => rfl) (fun _ => rfl) (fun _ => rfl) (fun vs H Q E h => by obtain ⟨a, us, rfl, hl, _⟩ := h; simpa using hl) fun A outer s H vs Q E hr h => ?_
  obtain ⟨a, us, rfl, hl, ha, q⟩ := h
  match us, hl with
  | [v1, v2, v3], _ =>
    refine ⟨a, [v1, v2, v3], _, _, rfl, ha, pa_cons (pv 1) (pa_cons (pv 2) (pa_cons (pv 3) pa_nil)), ⟨v1, rfl, v2, rfl, v3, rfl, by show 3 ≤ 1000; decide, ha, rfl⟩, pss_cons (ps_ost (pv 0) (pv 1)) (pss_cons (ps_ost (pv 0) (pv 2)) (pss_one (ps_ost (pv 0) (pv 3)))), ?_⟩
    refine ⟨v1, rfl, .ref a, rfl, a, C, rfl, O, hp _ (by decide +kernel), .inl ⟨ha, fun dx hdx hne => ?_⟩⟩
    refine ⟨v2, rfl, .ref a, rfl, a, C, rfl, O, hp _ (by decide +kernel), .inr ⟨dx, [("state", v1)], upd_same, by rw [upd_ne hne]; exact upd_same, by show 1 ≤ 900; decide, ?_⟩⟩
    refine ⟨v3, rfl, .ref a, rfl, a, C, rfl, O, hp _ (by decide +kernel), .inr ⟨dx, [("index", v2), ("state", v1)], by rw [upd_ne hne.symm]; exact upd_same, upd_same, by show 2 ≤ 900; decide, ?_⟩⟩
    exact q dx _ hdx hne (by rw [upd_ne hne.symm, upd_ne hne.symm]; exact upd_same) upd_same (fun b h1 h2 => by rw [upd_ne h2, upd_ne h2, upd_ne h1, upd_ne h2])
abbrev s_Misfit : Stmt := inClass (top 10) 0
theorem sc_Misfit : ScS ["self", "part"] ["self", "part"] (defScope s_Misfit) := ⟨rfl, rfl, rfl, by decide +kernel, rfl, by decide +kernel, by decide +kernel, by decide +kernel⟩
theorem ini_Misfit {P : Program} {w : World} {K : PySem.W.Frag} {mg : Str → Option Value} {base : Heap} {C f cda cc : Addr} {fd : FuncData} (T : SupV P K mg C f cda cc) (O : OexC K C) (hp : ∀ p ∈ (["part"] : List Str), PySem.W.findIn K (.ref C) p = some none) (F : FunS K "__init__" "Misfit.__init__" s_Misfit f cda cc fd) :
    FnOk P w K mg base CX0 1 f fd ["self", "part"] (spI C ["part"]) := by
  refine exc_fn T F sc_Misfit rfl rfl rfl rfl rfl rfl (fun _ => rfl) (fun _ => rfl) (fun _ => rfl) (fun vs H Q E h => by obtain ⟨a, us, rfl, hl, _⟩ := h; simpa using hl) fun A outer s H vs Q E hr h => ?_
  obtain ⟨a, us, rfl, hl, ha, q⟩ := h
  match us, hl with
  | [v1], _ =>
    refine ⟨a, [v1], _, _, rfl, ha, pa_cons (pv 1) pa_nil, ⟨v1, rfl, by show 1 ≤ 1000; decide, ha, rfl⟩, pss_one (ps_ost (pv 0) (pv 1)), ?_⟩
    refine ⟨v1, rfl, .ref a, rfl, a, C, rfl, O, hp _ (by decide +kernel), .inl ⟨ha, fun dx hdx hne => ?_⟩⟩
    exact q dx _ hdx hne upd_same (by rw [upd_ne hne]; exact upd_same) (fun b h1 h2 => by rw [upd_ne h1, upd_ne h2])
abbrev s_TooMany : Stmt := inClass (top 11) 0
theorem sc_TooMany : ScS ["self", "what", "most"] ["self", "what", "most"] (defScope s_TooMany) := ⟨rfl, rfl, rfl, by decide +kernel, rfl, by decide +kernel, by decide +kernel, by decide +kernel⟩
theorem ini_TooMany {P : Program} {w : World} {K : PySem.W.Frag} {mg : Str → Option Value} {base : Heap} {C f cda cc : Addr} {fd : FuncData} (T : SupV P K mg C f cda cc) (O : OexC K C) (hp : ∀ p ∈ (["what", "most"] : List Str), PySem.W.findIn K (.ref C) p = some none) (F : FunS K "__init__" "TooMany.__init__" s_TooMany f cda cc fd) :
    FnOk P w K mg base CX0 1 f fd ["self", "what", "most"] (spI C ["what", "most"]) := by
  refine exc_fn T F sc_TooMany rfl rfl rfl rfl rfl rfl (fun _ => rfl) (fun _ => rfl) (fun _ => rfl) (fun vs H Q E h => by obtain ⟨a, us, rfl, hl, _⟩ := h; simpa using hl) fun A outer s H vs Q E hr h => ?_
  obtain ⟨a, us, rfl, hl, ha, q⟩ := h
  match us, hl with
  | [v1, v2], _ =>
    refine ⟨a, [v1, v2], _, _, rfl, ha, pa_cons (pv 1) (pa_cons (pv 2) pa_nil), ⟨v1, rfl, v2, rfl, by show 2 ≤ 1000; decide, ha, rfl⟩, pss_cons (ps_ost (pv 0) (pv 1)) (pss_one (ps_ost (pv 0) (pv 2))), ?_⟩
    refine ⟨v1, rfl, .ref a, rfl, a, C, rfl, O, hp _ (by decide +kernel), .inl ⟨ha, fun dx hdx hne => ?_⟩⟩
    refine ⟨v2, rfl, .ref a, rfl, a, C, rfl, O, hp _ (by decide +kernel), .inr ⟨dx, [("what", v1)], upd_same, by rw [upd_ne hne]; exact upd_same, by show 1 ≤ 900; decide, ?_⟩⟩
    exact q dx _ hdx hne (by rw [upd_ne hne.symm]; exact upd_same) upd_same (fun b h1 h2 => by rw [upd_ne h2, upd_ne h1, upd_ne h2])
abbrev s_NoName : Stmt := inClass (top 12) 0
theorem sc_NoName : ScS ["self", "name"] ["self", "name"] (defScope s_NoName) := ⟨rfl, rfl, rfl, by decide +kernel, rfl, by decide +kernel, by decide +kernel, by decide +kernel⟩
theorem ini_NoName {P : Program} {w : World} {K : PySem.W.Frag} {mg : Str → Option Value} {base : Heap} {C f cda cc : Addr} {fd : FuncData} (T : SupV P K mg C f cda cc) (O : OexC K C) (hp : ∀ p ∈ (["name"] : List Str), PySem.W.findIn K (.ref C) p = some none) (F : FunS K "__init__" "NoName.__init__" s_NoName f cda cc fd) :
    FnOk P w K mg base CX0 1 f fd ["self", "name"] (spI C ["name"]) := by
  refine exc_fn T F sc_NoName rfl rfl rfl rfl rfl rfl (fun _ => rfl) (fun _ => rfl) (fun _ => rfl) (fun vs H Q E h => by obtain ⟨a, us, rfl, hl, _⟩ := h; simpa using hl) fun A outer s H vs Q E hr h => ?_
  obtain ⟨a, us, rfl, hl, ha, q⟩ := h
  match us, hl with
  | [v1], _ =>
    refine ⟨a, [v1], _, _, rfl, ha, pa_cons (pv 1) pa_nil, ⟨v1, rfl, by show 1 ≤ 1000; decide, ha, rfl⟩, pss_one (ps_ost (pv 0) (pv 1)), ?_⟩
    refine ⟨v1, rfl, .ref a, rfl, a, C, rfl, O, hp _ (by decide +kernel), .inl ⟨ha, fun dx hdx hne => ?_⟩⟩
    exact q dx _ hdx hne upd_same (by rw [upd_ne hne]; exact upd_same) (fun b h1 h2 => by rw [upd_ne h1, upd_ne h2])
abbrev s_Nothing : Stmt := inClass (top 13) 0
theorem sc_Nothing : ScS ["self", "word"] ["self", "word"] (defScope s_Nothing) := ⟨rfl, rfl, rfl, by decide +kernel, rfl, by decide +kernel, by decide +kernel, by decide +kernel⟩
theorem ini_Nothing {P : Program} {w : World} {K : PySem.W.Frag} {mg : Str → Option Value} {base : Heap} {C f cda cc : Addr} {fd : FuncData} (T : SupV P K mg C f cda cc) (O : OexC K C) (hp : ∀ p ∈ (["word"] : List Str), PySem.W.findIn K (.ref C) p = some none) (F : FunS K "__init__" "Nothing.__init__" s_Nothing f cda cc fd) :
    FnOk P w K mg base CX0 1 f fd ["self", "word"] (spI C ["word"]) := by
  refine exc_fn T F sc_Nothing rfl rfl rfl rfl rfl rfl (fun _ => rfl) (fun _ => rfl) (fun _ => rfl) (fun vs H Q E h => by obtain ⟨a, us, rfl, hl, _⟩ := h; simpa using hl) fun A outer s H vs Q E hr h => ?_
  obtain ⟨a, us, rfl, hl, ha, q⟩ := h
  match us, hl with
  | [v1], _ =>
    refine ⟨a, [v1], _, _, rfl, ha, pa_cons (pv 1) pa_nil, ⟨v1, rfl, by show 1 ≤ 1000; decide, ha, rfl⟩, pss_one (ps_ost (pv 0) (pv 1)), ?_⟩
    refine ⟨v1, rfl, .ref a, rfl, a, C, rfl, O, hp _ (by decide +kernel), .inl ⟨ha, fun dx hdx hne => ?_⟩⟩
    exact q dx _ hdx hne upd_same (by rw [upd_ne hne]; exact upd_same) (fun b h1 h2 => by rw [upd_ne h1, upd_ne h2])
abbrev s_BadText : Stmt := inClass (top 14) 0
theorem sc_BadText : ScS ["self", "line", "word"] ["self", "line", "word"] (defScope s_BadText) := ⟨rfl, rfl, rfl, by decide +kernel, rfl, by decide +kernel, by decide +kernel, by decide +kernel⟩
theorem ini_BadText {P : Program} {w : World} {K : PySem.W.Frag} {mg : Str → Option Value} {base : Heap} {C f cda cc : Addr} {fd : FuncData} (T : SupV P K mg C f cda cc) (O : OexC K C) (hp : ∀ p ∈ (["line", "word"] : List Str), PySem.W.findIn K (.ref C) p = some none) (F : FunS K "__init__" "BadText.__init__" s_BadText f cda cc fd) :
    FnOk P w K mg base CX0 1 f fd ["self", "line", "word"] (spI C ["line", "word"]) := by
  refine exc_fn T F sc_BadText rfl rfl rfl rfl rfl rfl (fun _ => rfl) (fun _ => rfl) (fun _ => rfl) (fun vs H Q E h => by obtain ⟨a, us, rfl, hl, _⟩ := h; simpa using hl) fun A outer s H vs Q E hr h => ?_
  obtain ⟨a, us, rfl, hl, ha, q⟩ := h
  match us, hl with
  | [v1, v2], _ =>
    refine ⟨a, [v1, v2], _, _, rfl, ha, pa_cons (pv 1) (pa_cons (pv 2) pa_nil), ⟨v1, rfl, v2, rfl, by show 2 ≤ 1000; decide, ha, rfl⟩, pss_cons (ps_ost (pv 0) (pv 1)) (pss_one (ps_ost (pv 0) (pv 2))), ?_⟩
    refine ⟨v1, rfl, .ref a, rfl, a, C, rfl, O, hp _ (by decide +kernel), .inl ⟨ha, fun dx hdx hne => ?_⟩⟩
    refine ⟨v2, rfl, .ref a, rfl, a, C, rfl, O, hp _ (by decide +kernel), .inr ⟨dx, [("line", v1)], upd_same, by rw [upd_ne hne]; exact upd_same, by show 1 ≤ 900; decide, ?_⟩⟩
    exact q dx _ hdx hne (by rw [upd_ne hne.symm]; exact upd_same) upd_same (fun b h1 h2 => by rw [upd_ne h2, upd_ne h1, upd_ne h2])
abbrev s_BadLine : Stmt := inClass (top 15) 0
theorem sc_BadLine : ScS ["self", "word"] ["self", "word"] (defScope s_BadLine) := ⟨rfl, rfl, rfl, by decide +kernel, rfl, by decide +kernel, by decide +kernel, by decide +kernel⟩
theorem ini_BadLine {P : Program} {w : World} {K : PySem.W.Frag} {mg : Str → Option Value} {base : Heap} {C f cda cc : Addr} {fd : FuncData} (T : SupV P K mg C f cda cc) (O : OexC K C) (hp : ∀ p ∈ (["word"] : List Str), PySem.W.findIn K (.ref C) p = some none) (F : FunS K "__init__" "BadLine.__init__" s_BadLine f cda cc fd) :
    FnOk P w K mg base CX0 1 f fd ["self", "word"] (spI C ["word"]) := by
  refine exc_fn T F sc_BadLine rfl rfl rfl rfl rfl rfl (fun _ => rfl) (fun _ => rfl) (fun _ => rfl) (fun vs H Q E h => by obtain ⟨a, us, rfl, hl, _⟩ := h; simpa using hl) fun A outer s H vs Q E hr h => ?_
  obtain ⟨a, us, rfl, hl, ha, q⟩ := h
  match us, hl with
  | [v1], _ =>
    refine ⟨a, [v1], _, _, rfl, ha, pa_cons (pv 1) pa_nil, ⟨v1, rfl, by show 1 ≤ 1000; decide, ha, rfl⟩, pss_one (ps_ost (pv 0) (pv 1)), ?_⟩
    refine ⟨v1, rfl, .ref a, rfl, a, C, rfl, O, hp _ (by decide +kernel), .inl ⟨ha, fun dx hdx hne => ?_⟩⟩
    exact q dx _ hdx hne upd_same (by rw [upd_ne hne]; exact upd_same) (fun b h1 h2 => by rw [upd_ne h1, upd_ne h2])
end K00


set_option Elab.async false
set_option linter.all false
set_option maxRecDepth 100000
set_option maxHeartbeats 8000000
namespace K00
open PySem PySem.Spec PyProof.Rows L2 Kd
abbrev s_law_draw : Stmt := top 21
def n_law_draw : List Str := ["pen", "many", "digit", "lap", "cell", "great", "mixed"]
theorem sc_law_draw : FnScope n_law_draw ["pen", "many"] (defScope s_law_draw) := ⟨rfl, rfl, rfl, by decide +kernel, rfl, by decide +kernel, by decide +kernel⟩
def g_law_draw : Gam := ⟨["int", "len", "abs"], [], [], [], [], [], []⟩
def c_law_draw : Sds := (.cons (.ifs (.cmp .Gt (.penG 0 2) (.cst (.int (0)))) (.cons (.asg 2 (.bin .Mod (.blt .toInt (.penG 0 2)) (.var 1)))
    (.cons (.penS 0 2 (.bin .FloorDiv (.blt .toInt (.penG 0 2)) (.var 1)))
    (.cons (.ret (.var 2))
    .nil))) .nil)
    (.cons (.asg 3 (.penG 0 1))
    (.cons (.penS 0 1 (.bin .Add (.var 3) (.cst (.int (1)))))
    (.cons (.asg 4 (.bin .Add (.bin .Mult (.cst (.int (41011))) (.var 3)) (.cst (.int (6121)))))
    (.cons (.ifs (.penNe 0) (.cons (.asg 4 (.penAt 0 (.bin .Mod (.blt .toInt (.var 3)) (.penLen 0))))
    .nil) .nil)
    (.cons (.ifs (.and_ (.cmp .Lt (.var 3) (.penLen 0)) (.cmp .GtE (.blt .abs (.var 4)) (.bin .Pow (.cst (.int (10))) (.cst (.int (18)))))) (.cons (.asg 5 (.bin .Add (.bin .Mult (.cst (.int (2))) (.bin .Sub (.blt .abs (.var 4)) (.bin .Pow (.cst (.int (10))) (.cst (.int (18)))))) (.blt .toInt (.cmp .Lt (.var 4) (.cst (.int (0)))))))
    (.cons (.penS 0 2 (.bin .FloorDiv (.blt .toInt (.var 5)) (.var 1)))
    (.cons (.ret (.bin .Mod (.blt .toInt (.var 5)) (.var 1)))
    .nil))) .nil)
    (.cons (.asg 6 (.bin .Mod (.blt .toInt (.bin .Pow (.bin .Add (.bin .Add (.bin .Mod (.blt .toInt (.var 4)) (.cst (.int (2147483549)))) (.bin .Mult (.cst (.int (50021))) (.var 3))) (.cst (.int (6121)))) (.cst (.int (5))))) (.cst (.int (2147483629)))))
    (.cons (.asg 6 (.bin .Mod (.blt .toInt (.bin .Pow (.bin .Add (.bin .Add (.bin .Mult (.var 6) (.bin .Add (.bin .Mult (.cst (.int (2))) (.var 3)) (.cst (.int (1201))))) (.bin .Mult (.bin .Mult (.cst (.int (90007))) (.var 3)) (.var 3))) (.cst (.int (41011)))) (.cst (.int (3))))) (.cst (.int (2147483587)))))
    (.cons (.ret (.bin .Mod (.blt .toInt (.bin .FloorDiv (.var 6) (.cst (.int (32))))) (.var 1)))
    .nil)))))))))
theorem k_law_draw : CorSs g_law_draw n_law_draw (defScope s_law_draw) (defBody s_law_draw) c_law_draw := (.cons (.ifs (.cmp (.penG (k := 2) rfl (.inl rfl) rfl rfl (.inr rfl)) .int (nomark _)) (.cons (.asg rfl (.inl rfl) (.bin (.bltT rfl (.penG (k := 2) rfl (.inl rfl) rfl rfl (.inr rfl)) rfl (by decide +kernel) (by decide +kernel) (by decide +kernel) rfl (fun _ => rfl)) (.var rfl (.inl rfl) rfl rfl)) (fun _ => rfl))
    (.cons (.penS (k := 2) rfl (.inl rfl) rfl rfl (.bin (.bltT rfl (.penG (k := 2) rfl (.inl rfl) rfl rfl (.inr rfl)) rfl (by decide +kernel) (by decide +kernel) (by decide +kernel) rfl (fun _ => rfl)) (.var rfl (.inl rfl) rfl rfl)) (.inr rfl) (fun _ => rfl) (fun _ => rfl))
    (.cons (.ret (.var rfl (.inl rfl) rfl rfl))
    .nil))) .nil)
    (.cons (.asg rfl (.inl rfl) (.penG (k := 1) rfl (.inl rfl) rfl rfl (.inl rfl)) (fun _ => rfl))
    (.cons (.penS (k := 1) rfl (.inl rfl) rfl rfl (.bin (.var rfl (.inl rfl) rfl rfl) .int) (.inl rfl) (fun _ => rfl) (fun _ => rfl))
    (.cons (.asg rfl (.inl rfl) (.bin (.bin .int (.var rfl (.inl rfl) rfl rfl)) .int) (fun _ => rfl))
    (.cons (.ifs (.penNe rfl (.inl rfl) rfl rfl) (.cons (.asg rfl (.inl rfl) (.penAt rfl (.inl rfl) rfl rfl (.bin (.bltT rfl (.var rfl (.inl rfl) rfl rfl) rfl (by decide +kernel) (by decide +kernel) (by decide +kernel) rfl (fun _ => rfl)) (.penLen rfl (.inl rfl) rfl rfl rfl (by decide +kernel))) (fun _ _ => rfl)) (fun _ => rfl))
    .nil) .nil)
    (.cons (.ifs (.bool (.and_ (.cmp (.var rfl (.inl rfl) rfl rfl) (.penLen rfl (.inl rfl) rfl rfl rfl (by decide +kernel)) (nomark _)) (.one (.cmp (.bltF rfl (.var rfl (.inl rfl) rfl rfl) rfl (by decide +kernel) (by decide +kernel) (by decide +kernel) rfl (fun _ => rfl)) (.bin .int .int) (nomark _))))) (.cons (.asg rfl (.inl rfl) (.bin (.bin .int (.bin (.bltF rfl (.var rfl (.inl rfl) rfl rfl) rfl (by decide +kernel) (by decide +kernel) (by decide +kernel) rfl (fun _ => rfl)) (.bin .int .int))) (.bltT rfl (.cmp (.var rfl (.inl rfl) rfl rfl) .int (nomark _)) rfl (by decide +kernel) (by decide +kernel) (by decide +kernel) rfl (fun _ => rfl))) (fun _ => rfl))
    (.cons (.penS (k := 2) rfl (.inl rfl) rfl rfl (.bin (.bltT rfl (.var rfl (.inl rfl) rfl rfl) rfl (by decide +kernel) (by decide +kernel) (by decide +kernel) rfl (fun _ => rfl)) (.var rfl (.inl rfl) rfl rfl)) (.inr rfl) (fun _ => rfl) (fun _ => rfl))
    (.cons (.ret (.bin (.bltT rfl (.var rfl (.inl rfl) rfl rfl) rfl (by decide +kernel) (by decide +kernel) (by decide +kernel) rfl (fun _ => rfl)) (.var rfl (.inl rfl) rfl rfl)))
    .nil))) .nil)
    (.cons (.asg rfl (.inl rfl) (.bin (.bltT rfl (.bin (.bin (.bin (.bin (.bltT rfl (.var rfl (.inl rfl) rfl rfl) rfl (by decide +kernel) (by decide +kernel) (by decide +kernel) rfl (fun _ => rfl)) .int) (.bin .int (.var rfl (.inl rfl) rfl rfl))) .int) .int) rfl (by decide +kernel) (by decide +kernel) (by decide +kernel) rfl (fun _ => rfl)) .int) (fun _ => rfl))
    (.cons (.asg rfl (.inl rfl) (.bin (.bltT rfl (.bin (.bin (.bin (.bin (.var rfl (.inl rfl) rfl rfl) (.bin (.bin .int (.var rfl (.inl rfl) rfl rfl)) .int)) (.bin (.bin .int (.var rfl (.inl rfl) rfl rfl)) (.var rfl (.inl rfl) rfl rfl))) .int) .int) rfl (by decide +kernel) (by decide +kernel) (by decide +kernel) rfl (fun _ => rfl)) .int) (fun _ => rfl))
    (.cons (.ret (.bin (.bltT rfl (.bin (.var rfl (.inl rfl) rfl rfl) .int) rfl (by decide +kernel) (by decide +kernel) (by decide +kernel) rfl (fun _ => rfl)) (.var rfl (.inl rfl) rfl rfl)))
    .nil)))))))))
abbrev s_law_pick : Stmt := top 22
def n_law_pick : List Str := ["pen", "some"]
theorem sc_law_pick : FnScope n_law_pick ["pen", "some"] (defScope s_law_pick) := ⟨rfl, rfl, rfl, by decide +kernel, rfl, by decide +kernel, by decide +kernel⟩
def g_law_pick : Gam := ⟨["len"], [], [], ["_law_draw"], [], [], []⟩
def c_law_pick : Sds := (.cons (.ret (.sub (.var 1) (.pcall 0 0 (.cons (.blt .len (.var 1)) .nil))))
    .nil)
theorem k_law_pick : CorSs g_law_pick n_law_pick (defScope s_law_pick) (defBody s_law_pick) c_law_pick := (.cons (.ret (.sub (.var rfl (.inl rfl) rfl rfl) (.pcall (i := 0) rfl rfl (.inl rfl) (.cons (.bltF rfl (.var rfl (.inl rfl) rfl rfl) rfl (by decide +kernel) (by decide +kernel) (by decide +kernel) rfl (fun _ => rfl)) .nil (fun _ => rfl)) rfl rfl rfl rfl) (fun _ _ => rfl)))
    .nil)
end K00


set_option Elab.async false
set_option linter.all false
set_option maxRecDepth 100000
set_option maxHeartbeats 8000000
namespace K00
open PySem PySem.Spec PyProof.Rows L2 Kd
abbrev s_fixed : Stmt := top 1
def n_fixed : List Str := ["value", "part"]
theorem sc_fixed : FnScope n_fixed ["value"] (defScope s_fixed) := ⟨rfl, rfl, rfl, by decide +kernel, rfl, by decide +kernel, by decide +kernel⟩
def g_fixed : Gam := ⟨["isinstance", "list", "tuple"], [], [⟨"fixed", 1, [], [0]⟩], [], [], [], []⟩
def c_fixed : Sds := (.cons (.ifs (.isi (.var 0) ["list", "tuple"]) (.cons (.ret (.blt .toTup (.comp (.call 0 (.cons (.var 1) .nil)) 1 (.seq (.var 0)))))
    .nil) .nil)
    (.cons (.ret (.var 0))
    .nil))
theorem k_fixed : CorSs g_fixed n_fixed (defScope s_fixed) (defBody s_fixed) c_fixed := (.cons (.ifs (.val (.isi2 (.var rfl (by first | exact .inl rfl | exact .inr (.inl rfl) | exact .inr (.inr rfl)) rfl rfl) rfl (by decide +kernel) rfl (by decide +kernel) (by decide +kernel) (by decide +kernel) rfl rfl (by decide +kernel) (by decide +kernel) (by decide +kernel) rfl (fun _ => rfl)) (fun _ _ => rfl)) (.cons (.ret (.bltT rfl (.comp (.seq (.var rfl (by first | exact .inl rfl | exact .inr (.inl rfl) | exact .inr (.inr rfl)) rfl rfl)) (blkOk_by (by decide +kernel)) rfl rfl (.call (i := 0) rfl (.cons (.var rfl (by first | exact .inl rfl | exact .inr (.inl rfl) | exact .inr (.inr rfl)) rfl rfl) .nil (fun _ => rfl)) rfl rfl rfl) (fun _ _ => rfl)) rfl (by decide +kernel) (by decide +kernel) (by decide +kernel) rfl (fun _ => rfl)))
    .nil) .nil)
    (.cons (.ret (.var rfl (by first | exact .inl rfl | exact .inr (.inl rfl) | exact .inr (.inr rfl)) rfl rfl))
    .nil))
/-- fixed, to a depth -/
def F_fixed (m : List PyData → Option PyData) : Fns := ⟨fun i ds => match i with | 0 => m (pick [0] ds) | _ => none, fun _ _ _ => none, fun _ _ => none⟩
def m_fixed : Nat → List PyData → Option PyData
  | 0, _ => none
  | n + 1, ds => if ds.length = 1 then bodyD (F_fixed (m_fixed n)) c_fixed n_fixed ds else none
theorem fg_fixed {P : Program} {w : World} {K : PySem.W.Frag} {mg : Str → Option Value} {base : Heap} (bl : ∀ y ∈ (["isinstance", "list", "tuple"] : List Str), mg y = none) (D : Df K mg "fixed" s_fixed) :
    ∀ (n : Nat) (f : Addr) (fd : FuncData) (F : Fun K "fixed" "fixed" s_fixed f fd), FG P w K mg base CX0 n f fd ["value"] (SpF K (m_fixed n))
  | 0, f, fd, F => ⟨fun vs H Q E h => (by
      obtain ⟨ds, d, B, _, _, z, _⟩ := h
      exact nomatch z), fun A o s H ar us vs Q E r g e b v h => (by
      obtain ⟨ds, d, B, _, _, z, _⟩ := h
      exact nomatch z)⟩
  | n + 1, f, fd, F => fg_pure (F := F_fixed (m_fixed n)) F sc_fixed k_fixed {
      bl := bl_of bl (by decide +kernel)
      gl := fun i x d h => by simp [g_fixed] at h
      fn := fun i e h => match i, h with
        | 0, h => by cases h; exact fnF_of D (fg_fixed bl D n) (Nat.le_refl _) (fun _ _ _ _ _ _ us ws hu hw => match us, ws, hu, hw with | [u0], [], _, _ => rfl) (fun _ _ h => h)
        | n + 1, h => by simp [g_fixed] at h
      pf := fun i e h => by simp [g_fixed] at h } (by decide) fun ds d h => by
    unfold m_fixed at h
    split at h
    · rename_i l
      exact ⟨l, h⟩
    · cases h
theorem fixed_try : m_fixed 5 [.list [.int 1, .list [.int 2, .tuple []]]] = some (.tuple [.int 1, .tuple [.int 2, .tuple []]]) := rfl
end K00


set_option Elab.async false
set_option linter.all false
set_option maxRecDepth 100000
set_option maxHeartbeats 8000000
namespace K00
open PySem PySem.Spec PyProof.Rows L2 Kd
/-! Papers. -/
abbrev s_Paper : Stmt := inClass (top 2) 0
theorem sc_Paper : FnScope ["self", "word", "parts"] ((["self", "word"] : List Str) ++ [("parts" : Str)]) (defScope s_Paper) := ⟨rfl, rfl, rfl, by decide +kernel, rfl, by decide +kernel, by decide +kernel⟩
/-- Paper.__init__ behind its binding -/
def spPap0 (K : PySem.W.Frag) (m : Nat) : Sp := fun vs H Q _ => ∃ a C dx w p xs B ds dp, vs = [.ref a, w, .ref p] ∧ H a = some (.ins C dx []) ∧ Cls K C ∧ NoAttr K C "word" ∧ NoAttr K C "parts" ∧ B a = none ∧ Same B H ∧ B p = some (.tup xs) ∧ DvL K B xs ds ∧ m_fixed m [.tuple ds] = some dp ∧
  ∀ v B' H', Same B B' → Same B' H' → (∀ b o, b ≠ a → H b = some o → H' b = some o) → New B H B' → Dv K B' v dp → H' a = some (.ins C dx [("word", w), ("parts", v)]) → Q .non H'
/-- .. ahead of it -/
def spPap (K : PySem.W.Frag) (m : Nat) : Sp := fun vs H Q _ => ∃ a C dx w xs B ds dp, vs = .ref a :: w :: xs ∧ xs.length ≤ 1000 ∧ H a = some (.ins C dx []) ∧ Cls K C ∧ NoAttr K C "word" ∧ NoAttr K C "parts" ∧ B a = none ∧ Same B H ∧ DvL K B xs ds ∧ m_fixed m [.tuple ds] = some dp ∧
  ∀ v B' H', Same B B' → Same B' H' → (∀ b o, b ≠ a → H b = some o → H' b = some o) → New B H B' → Dv K B' v dp → H' a = some (.ins C dx [("word", w), ("parts", v)]) → Q .non H'
section
variable {P : Program} {w : World} {K : PySem.W.Frag} {mg : Str → Option Value} {base : Heap} {f : Addr} {fd : FuncData}
theorem fgr_Paper {n m : Nat} (hn : n = 2 ∨ n = 4) (bl : ∀ y ∈ (["isinstance", "list", "tuple"] : List Str), mg y = none) (D : Df K mg "fixed" s_fixed) (F : Fun K "__init__" "Paper.__init__" s_Paper f fd) : FGR P w K mg base (m + 1) f n [] (spPap K m) := by
  obtain ⟨oc, od, kV, doc, pm, an, cdv, ct, osl, rfl, lk, hcd⟩ := F.ex
  obtain ⟨fx, fdx, hmx, Fx⟩ := D.ex
  have Gx : FGR P w K mg base m fx 1 [] (SpF K (m_fixed m)) := fgr_of (ps := ["value"]) (fg_fixed bl D m fx fdx Fx) (Fx.binds fun _ _ _ _ _ _ us hu => match us, hu with | [_], _ => rfl)
  refine (fgr_star (n := n) (pv := "parts") (ps := ["self", "word"]) (sp := spPap0 K m) lk hcd sc_Paper (fun us rest hu hr => match us, rest, hu, hr with
    | [_, _], [], _, _ => rfl
    | [_, _], [_, _], _, _ => rfl
    | [_, _], [_], _, hr => by rcases hn with rfl | rfl <;> cases hr
    | [_, _], _ :: _ :: _ :: _, _, hr => by rcases hn with rfl | rfl <;> (simp only [List.length_cons] at hr; omega)) fun A outer s H vs Q hr hg h => ?_).imp fun vs H Q E h => ?_
  · obtain ⟨a, C, dx, w0, p, xs, B, ds, dp, rfl, ha, hc, n1, n2, ba, sb, hp, dv, hm, q⟩ := h
    refine ⟨_, pss_cons (ps_fld (pv 0) (pv 1) rfl) (pss_one (ps_fld (pv 0) (pe_callG Gx hr hg Fx.kp rfl hmx (pa_cons (pv 2) pa_nil)) rfl)), ?_⟩
    refine ⟨w0, rfl, .ref a, rfl, a, C, dx, [], rfl, ha, hc, n1, by decide, ?_⟩
    have s1 : Same B (upd H a (.ins C dx (putF "word" w0 []))) := fun b o z => by
      rw [upd_ne (ne_of_none z ba)]
      exact sb b o z
    refine ⟨.ref p, rfl, rfl, [.tuple ds], dp, B, s1, .cons (.tup (.inl (.inl hp)) dv) .nil, hm, fun v B' H' t1 t2 t3 nw d => ?_⟩
    have ha' : H' a = some (.ins C dx (putF "word" w0 [])) := t3 _ _ upd_same
    have ba' : B' a = none := by
      cases z : B' a with
      | none => rfl
      | some o =>
        rcases nw a o z with ⟨o', z'⟩ | z'
        · rw [ba] at z'; cases z'
        · rw [upd_same] at z'; cases z'
    refine ⟨.ref a, rfl, a, C, dx, _, rfl, ha', hc, n2, by show 1 < 1000; decide, ?_⟩
    refine q v B' _ t1 (fun b o z => ?_) (fun b o hb z => ?_) (fun b o z => ?_) d upd_same
    · rw [upd_ne (ne_of_none z ba')]
      exact t2 b o z
    · rw [upd_ne hb]
      exact t3 b o (by rw [upd_ne hb]; exact z)
    · rcases nw b o z with z' | z'
      · exact .inl z'
      · by_cases y : b = a
        · subst y; rw [ba'] at z; cases z
        · rw [upd_ne y] at z'; exact .inr z'
  · obtain ⟨a, C, dx, w0, xs, B, ds, dp, rfl, hl, ha, hc, n1, n2, ba, sb, dv, hm, q⟩ := h
    refine ⟨[.ref a, w0], xs, rfl, rfl, by rw [sizeLine_eq]; omega, fun p hp => ?_⟩
    have bp : B p = none := by
      cases z : B p with
      | none => rfl
      | some o => rw [sb p o z] at hp; cases hp
    have hpa : a ≠ p := fun z => by rw [z, hp] at ha; cases ha
    have s1 : Same B (upd B p (.tup xs)) := same_upd bp
    refine ⟨a, C, dx, w0, p, xs, upd B p (.tup xs), ds, dp, rfl, by rw [upd_ne hpa]; exact ha, hc, n1, n2, by rw [upd_ne hpa]; exact ba, same_upd2 sb, upd_same, dv.mono s1, hm, fun v B' H' t1 t2 t3 nw d e => ?_⟩
    refine q v B' H' (s1.trans t1) t2 (fun b o hb z => t3 b o hb (by rw [upd_ne (ne_of_none z hp)]; exact z)) (fun b o z => ?_) d e
    rcases nw b o z with ⟨o', z'⟩ | z'
    · by_cases y : b = p
      · subst y; exact .inr hp
      · rw [upd_ne y] at z'; exact .inl ⟨o', z'⟩
    · by_cases y : b = p
      · subst y; rw [upd_same] at z'; cases z'
      · rw [upd_ne y] at z'; exact .inr z'
end
end K00


set_option Elab.async false
set_option linter.all false
set_option maxRecDepth 100000
set_option maxHeartbeats 8000000
namespace K00
open PySem PySem.Spec PyProof.Rows L2 Kd
/-- the __init__ of Kept, of Beaten -/
def spKept (K : PySem.W.Frag) (C : Addr) (word : Str) (m : Nat) : Sp := fun vs H Q _ => ∃ a dx v1 v2 B d1 d2 x y, vs = [.ref a, v1, v2] ∧ H a = some (.ins C dx []) ∧ Cls K C ∧ NoAttr K C "word" ∧ NoAttr K C "parts" ∧ NoAttr K C "machine" ∧ NoAttr K C "ranks" ∧ B a = none ∧ Same B H ∧
  Dv K B v1 d1 ∧ Dv K B v2 d2 ∧ m_fixed m [.tuple [d1, d2]] = some (.tuple [x, y]) ∧
  ∀ v w1 w2 B' H', Same B B' → Same B' H' → (∀ b o, b ≠ a → H b = some o → H' b = some o) → New B H B' → Dv K B' v (.tuple [x, y]) → Dv K B' w1 x → Dv K B' w2 y → H' a = some (.ins C dx [("word", .str word), ("parts", v), ("machine", w1), ("ranks", w2)]) → Q .non H'

abbrev s_Kept : Stmt := inClass (top 17) 0
theorem sc_Kept : ScS ["self", "machine", "ranks"] ["self", "machine", "ranks"] (defScope s_Kept) := ⟨rfl, rfl, rfl, by decide +kernel, rfl, by decide +kernel, by decide +kernel, by decide +kernel⟩
section
variable {P : Program} {w : World} {K : PySem.W.Frag} {mg : Str → Option Value} {base : Heap} {f f2 cc C cda : Addr} {fd : FuncData} {k n m : Nat} {ks : List Str} {pm : List Nat}
theorem fgr_Kept (T : SupP P K mg C f cda cc f2) (F2 : FGR P w K mg base k f2 4 [] (spPap K m)) (F : FunS K "__init__" "Kept.__init__" s_Kept f cda cc fd)
    (hbind : ∀ (s : Shared) (us ws : List Value), us.length = n → ws.length = ks.length → BindsTo s fd ⟨us, ks.zip ws⟩ ((["self", "machine", "ranks"] : List Str).zip (pick pm (us ++ ws)))) :
    FGR P w K mg base (k + 1) f n ks (fun vs H Q E => spKept K C "kept" m (pick pm vs) H Q E) := by
  refine sup_fn T F2 F sc_Kept rfl rfl rfl rfl rfl rfl (fun _ => rfl) (fun _ => rfl) (fun _ => rfl) hbind (fun vs H Q E h => by obtain ⟨a, dx, v1, v2, B, d1, d2, x, y, rfl, _⟩ := h; rfl) fun A outer s H vs Q hr hg h => ?_
  obtain ⟨a, dx, v1, v2, B, d1, d2, x, y, rfl, ha, hc, n1, n2, n3, n4, ba, sb, h1, h2, hm, q⟩ := h
  refine ⟨a, [v1, v2], dx, [], _, _, fun H2 => ∃ v B', Same B B' ∧ Same B' H2 ∧ (∀ b o, b ≠ a → H b = some o → H2 b = some o) ∧ New B H B' ∧ Dv K B' v (.tuple [x, y]) ∧ H2 a = some (.ins C dx [("word", .str "kept"), ("parts", v)]), rfl, ha,
    pa_cons pe_str (pa_cons (pv 1) (pa_cons (pv 2) pa_nil)), ⟨v1, rfl, v2, rfl, rfl, ?_⟩, pss_one (ps_asg (pe_fld (pv 0) rfl) (pg_tup rfl (pgs_cons (pg_fld (pv 0)) (pgs_cons (pg_fld (pv 0)) pgs_nil)))), ?_⟩
  · exact ⟨a, C, dx, _, [v1, v2], B, [d1, d2], .tuple [x, y], rfl, by show 2 ≤ 1000; decide, ha, hc, n1, n2, ba, sb, .cons h1 (.cons h2 .nil), hm, fun v B' H' t1 t2 t3 nw d e => ⟨v, B', t1, t2, t3, nw, d, e⟩⟩
  · rintro H2 ⟨v, B', t1, t2, t3, nw, d, e⟩
    obtain ⟨p, xs, rfl, hp, dv⟩ := tup_dv d
    cases dv with
    | cons e1 r1 =>
      cases r1 with
      | cons e2 r2 =>
        cases r2
        rename_i w1 w2
        have ba' : B' a = none := by
          cases z : B' a with
          | none => rfl
          | some o =>
            rcases nw a o z with ⟨o', z'⟩ | z'
            · rw [ba] at z'; cases z'
            · rw [ha] at z'; cases z'
        refine ⟨.ref a, rfl, a, C, dx, _, .ref p, rfl, e, hc, n2, rfl, p, [w1, w2], rfl, same_t t2 hp, rfl, ?_⟩
        refine ⟨w1, [w2], rfl, .ref a, rfl, a, C, dx, _, rfl, e, hc, n3, by show 2 < 1000; decide, ?_⟩
        refine ⟨w2, [], rfl, .ref a, rfl, a, C, dx, _, rfl, upd_same, hc, n4, by show 3 < 1000; decide, rfl, ?_⟩
        rw [upd_upd]
        refine q (.ref p) w1 w2 B' _ t1 (fun b o z => ?_) (fun b o hb z => ?_) nw d e1 e2 upd_same
        · rw [upd_ne (ne_of_none z ba')]
          exact t2 b o z
        · rw [upd_ne hb]
          exact t3 b o hb z
end

abbrev s_Beaten : Stmt := inClass (top 18) 0
theorem sc_Beaten : ScS ["self", "machine", "ranks"] ["self", "machine", "ranks"] (defScope s_Beaten) := ⟨rfl, rfl, rfl, by decide +kernel, rfl, by decide +kernel, by decide +kernel, by decide +kernel⟩
section
variable {P : Program} {w : World} {K : PySem.W.Frag} {mg : Str → Option Value} {base : Heap} {f f2 cc C cda : Addr} {fd : FuncData} {k n m : Nat} {ks : List Str} {pm : List Nat}
theorem fgr_Beaten (T : SupP P K mg C f cda cc f2) (F2 : FGR P w K mg base k f2 4 [] (spPap K m)) (F : FunS K "__init__" "Beaten.__init__" s_Beaten f cda cc fd)
    (hbind : ∀ (s : Shared) (us ws : List Value), us.length = n → ws.length = ks.length → BindsTo s fd ⟨us, ks.zip ws⟩ ((["self", "machine", "ranks"] : List Str).zip (pick pm (us ++ ws)))) :
    FGR P w K mg base (k + 1) f n ks (fun vs H Q E => spKept K C "beaten" m (pick pm vs) H Q E) := by
  refine sup_fn T F2 F sc_Beaten rfl rfl rfl rfl rfl rfl (fun _ => rfl) (fun _ => rfl) (fun _ => rfl) hbind (fun vs H Q E h => by obtain ⟨a, dx, v1, v2, B, d1, d2, x, y, rfl, _⟩ := h; rfl) fun A outer s H vs Q hr hg h => ?_
  obtain ⟨a, dx, v1, v2, B, d1, d2, x, y, rfl, ha, hc, n1, n2, n3, n4, ba, sb, h1, h2, hm, q⟩ := h
  refine ⟨a, [v1, v2], dx, [], _, _, fun H2 => ∃ v B', Same B B' ∧ Same B' H2 ∧ (∀ b o, b ≠ a → H b = some o → H2 b = some o) ∧ New B H B' ∧ Dv K B' v (.tuple [x, y]) ∧ H2 a = some (.ins C dx [("word", .str "beaten"), ("parts", v)]), rfl, ha,
    pa_cons pe_str (pa_cons (pv 1) (pa_cons (pv 2) pa_nil)), ⟨v1, rfl, v2, rfl, rfl, ?_⟩, pss_one (ps_asg (pe_fld (pv 0) rfl) (pg_tup rfl (pgs_cons (pg_fld (pv 0)) (pgs_cons (pg_fld (pv 0)) pgs_nil)))), ?_⟩
  · exact ⟨a, C, dx, _, [v1, v2], B, [d1, d2], .tuple [x, y], rfl, by show 2 ≤ 1000; decide, ha, hc, n1, n2, ba, sb, .cons h1 (.cons h2 .nil), hm, fun v B' H' t1 t2 t3 nw d e => ⟨v, B', t1, t2, t3, nw, d, e⟩⟩
  · rintro H2 ⟨v, B', t1, t2, t3, nw, d, e⟩
    obtain ⟨p, xs, rfl, hp, dv⟩ := tup_dv d
    cases dv with
    | cons e1 r1 =>
      cases r1 with
      | cons e2 r2 =>
        cases r2
        rename_i w1 w2
        have ba' : B' a = none := by
          cases z : B' a with
          | none => rfl
          | some o =>
            rcases nw a o z with ⟨o', z'⟩ | z'
            · rw [ba] at z'; cases z'
            · rw [ha] at z'; cases z'
        refine ⟨.ref a, rfl, a, C, dx, _, .ref p, rfl, e, hc, n2, rfl, p, [w1, w2], rfl, same_t t2 hp, rfl, ?_⟩
        refine ⟨w1, [w2], rfl, .ref a, rfl, a, C, dx, _, rfl, e, hc, n3, by show 2 < 1000; decide, ?_⟩
        refine ⟨w2, [], rfl, .ref a, rfl, a, C, dx, _, rfl, upd_same, hc, n4, by show 3 < 1000; decide, rfl, ?_⟩
        rw [upd_upd]
        refine q (.ref p) w1 w2 B' _ t1 (fun b o z => ?_) (fun b o hb z => ?_) nw d e1 e2 upd_same
        · rw [upd_ne (ne_of_none z ba')]
          exact t2 b o z
        · rw [upd_ne hb]
          exact t3 b o hb z
end
end K00


set_option Elab.async false
set_option linter.all false
set_option maxRecDepth 100000
set_option maxHeartbeats 8000000
namespace K00
open PySem PySem.Spec PyProof.Rows L2 Kd
/-! Papers as data. -/
/-- a new instance, filled, as data -/
theorem ins_end {K : PySem.W.Frag} {B B' H H' : Hp} {x C dx : Addr} {name : Str} {fs : List (Str × V)} {ds : List (PyData × PyData)} {Q : VK} (hx0 : H x = none) (hd0 : H dx = none) (hne : dx ≠ x) (sb : Same B H) (hx : PySem.W.nsIn K mainGlobals name = some (some (.ref C)))
    (t1 : Same B B') (t2 : Same B' H') (t3 : ∀ b o, b ≠ x → (upd (upd H dx (.own x)) x (.ins C dx [])) b = some o → H' b = some o) (nw : New B (upd (upd H dx (.own x)) x (.ins C dx [])) B') (e : H' x = some (.ins C dx fs)) (r : DvK K B' (fs.map fun p => (Sum.inr p.1, p.2)) ds)
    (q : ∀ v B' H', Same B B' → Same B' H' → Same H H' → New B H B' → Dv K B' v (.dict ((.bool true, .str name) :: ds)) → Q v H') : Q (.ref x) H' := by
  have bx : B x = none := by
    cases z : B x with
    | none => rfl
    | some o => rw [sb x o z] at hx0; cases hx0
  have bx' : B' x = none := by
    cases z : B' x with
    | none => rfl
    | some o =>
      rcases nw x o z with ⟨o', z'⟩ | z'
      · rw [bx] at z'; cases z'
      · rw [upd_same] at z'; cases z'
  have s1 : Same B' (upd B' x (.ins C dx fs)) := same_upd bx'
  refine q (.ref x) (upd B' x (.ins C dx fs)) H' (t1.trans s1) (fun b o z => ?_) (fun b o z => ?_) (fun b o z => ?_) (.ins hx upd_same (r.mono s1))
  · by_cases y : b = x
    · subst y; rw [upd_same] at z; cases z; exact e
    · rw [upd_ne y] at z; exact t2 b o z
  · exact t3 b o (ne_of_none z hx0) (by rw [upd_ne (ne_of_none z hx0), upd_ne (ne_of_none z hd0)]; exact z)
  · by_cases y : b = x
    · subst y; exact .inr hx0
    · rw [upd_ne y] at z
      rcases nw b o z with z' | z'
      · exact .inl z'
      · rw [upd_ne y] at z'
        by_cases y2 : b = dx
        · subst y2; exact .inr hd0
        · rw [upd_ne y2] at z'; exact .inr z'
/-- Paper(word, ..), Denial(word, ..) -/
def papM (m : Nat) (x : Str) (n : Nat) (ds : List PyData) : Option PyData := match ds with
  | dw :: rest => if rest.length + 1 = n then (match m_fixed m [.tuple rest] with
    | some dp => some (.dict [(.bool true, .str x), (.str "word", dw), (.str "parts", dp)])
    | none => none) else none
  | [] => none
/-- Kept(machine, ranks), Beaten(machine, ranks) -/
def keptM (m : Nat) (x word : Str) (pm : List Nat) (ds : List PyData) : Option PyData := match pick pm ds with
  | [d1, d2] => if ds.length = 2 then (match m_fixed m [.tuple [d1, d2]] with
    | some (.tuple [a, b]) => some (.dict [(.bool true, .str x), (.str "word", .str word), (.str "parts", .tuple [a, b]), (.str "machine", a), (.str "ranks", b)])
    | _ => none) else none
  | _ => none
section
variable {P : Program} {w : World} {K : PySem.W.Frag} {mg : Str → Option Value} {base : Heap} {j k m : Nat} {C f : Addr}
theorem fnF_pap {x : Str} {n : Nat} (hx : PySem.W.nsIn K mainGlobals x = some (some (.ref C))) (hmg : mg x = some (.ref C)) (M : Mk K C f) (c : Cls K C) (n1 : NoAttr K C "word") (n2 : NoAttr K C "parts") (G : FGR P w K mg base j f (n + 1) [] (spPap K m)) (hj : j + 1 ≤ k) (hn : n ≤ 1000) :
    FnF P w K mg base k ⟨x, n, [], List.range n⟩ (papM m x n) := by
  refine ⟨C, hmg, M.kp, fun A outer s H us ws vs Q ds d B room gd env hu hw rv sb dv hd q => ?_⟩
  refine (fgr_make M G).mono hj A outer s H us ws vs Q room gd env hu hw rv fun x' dx h1 h2 h3 => ?_
  unfold papM at hd
  split at hd
  · rename_i dw rest
    split at hd
    · rename_i hl
      split at hd
      · rename_i dp hm
        cases hd
        cases dv with
        | cons e1 r1 =>
          rename_i w0 xs
          have nb : ∀ b o, B b = some o → b ≠ x' ∧ b ≠ dx := fun b o z => ⟨ne_of_none (sb b o z) h1, ne_of_none (sb b o z) h2⟩
          have bx : B x' = none := by
            cases z : B x' with
            | none => rfl
            | some o => rw [sb x' o z] at h1; cases h1
          refine ⟨x', C, dx, w0, xs, B, rest, dp, rfl, by rw [r1.length]; omega, upd_same, c, n1, n2, bx, fun b o z => by rw [upd_ne (nb b o z).1, upd_ne (nb b o z).2]; exact sb b o z, r1, hm, fun v B' H' t1 t2 t3 nw d e => ⟨rfl, ?_⟩⟩
          exact ins_end h1 h2 h3 sb hx t1 t2 t3 nw e (.cons (e1.mono t1) (.cons d .nil)) q
      · cases hd
    · cases hd
  · cases hd
theorem fnF_kept {x word : Str} {n : Nat} {ks : List Str} {pm : List Nat} (hx : PySem.W.nsIn K mainGlobals x = some (some (.ref C))) (hmg : mg x = some (.ref C)) (M : Mk K C f) (c : Cls K C) (n1 : NoAttr K C "word") (n2 : NoAttr K C "parts") (n3 : NoAttr K C "machine") (n4 : NoAttr K C "ranks")
    (G : FGR P w K mg base j f (n + 1) ks (fun vs H Q E => spKept K C word m (pick (0 :: pm.map (· + 1)) vs) H Q E)) (hj : j + 1 ≤ k) :
    FnF P w K mg base k ⟨x, n, ks, pm⟩ (keptM m x word pm) := by
  refine ⟨C, hmg, M.kp, fun A outer s H us ws vs Q ds d B room gd env hu hw rv sb dv hd q => ?_⟩
  refine (fgr_make M G).mono hj A outer s H us ws vs Q room gd env hu hw rv fun x' dx h1 h2 h3 => ?_
  unfold keptM at hd
  have r := dv.pick pm
  split at hd
  · rename_i d1 d2 hp
    split at hd
    · split at hd
      · rename_i a b hm
        cases hd
        rw [hp] at r
        have ep : pick (0 :: pm.map (· + 1)) (V.ref x' :: vs) = .ref x' :: pick pm vs := by
          unfold pick
          rw [List.filterMap_cons]
          show _ :: _ = _
          congr 1
          rw [List.filterMap_map]
          rfl
        generalize pick pm vs = pvs at r ep
        match pvs, r with
        | [v1, v2], .cons e1 (.cons e2 .nil) =>
          show spKept K C word m (pick (0 :: pm.map (· + 1)) (V.ref x' :: vs)) _ _ _
          rw [ep]
          have nb : ∀ b o, B b = some o → b ≠ x' ∧ b ≠ dx := fun b o z => ⟨ne_of_none (sb b o z) h1, ne_of_none (sb b o z) h2⟩
          have bx : B x' = none := by
            cases z : B x' with
            | none => rfl
            | some o => rw [sb x' o z] at h1; cases h1
          refine ⟨x', dx, v1, v2, B, d1, d2, a, b, rfl, upd_same, c, n1, n2, n3, n4, bx, fun b o z => by rw [upd_ne (nb b o z).1, upd_ne (nb b o z).2]; exact sb b o z, e1, e2, hm, fun v w1 w2 B' H' t1 t2 t3 nw d da db e => ⟨rfl, ?_⟩⟩
          exact ins_end h1 h2 h3 sb hx t1 t2 t3 nw e (.cons (.str _) (.cons d (.cons da (.cons db .nil)))) q
      · cases hd
    · cases hd
  · cases hd
end
end K00


set_option Elab.async false
set_option linter.all false
set_option maxRecDepth 100000
set_option maxHeartbeats 4000000
namespace Kd
open PySem PySem.Spec PyProof.Rows L2
/-! == of instances that have a word and parts. -/
/-- == by data -/
def eqQ (dw ew : PyData) (ps qs : List PyData) : Option Bool := match dw, ew with
  | .str a, .str b => if noObjAll ps = true ∧ noObjAll qs = true then (if a = b then (match eqZ (eqG 20) ps qs with
    | some c => some (c && ps.length == qs.length)
    | none => none) else some false) else none
  | _, _ => none
def eqR (cs : List Str) (x : Str) (dw : PyData) (ps : List PyData) : PyData → Option Bool
  | .dict ((.bool true, .str y) :: (.str w2, ew) :: (.str p2, .tuple qs) :: _) => if y ∈ cs ∧ w2 = "word" ∧ p2 = "parts" then (if x = y then eqQ dw ew ps qs else some false) else none
  | .tuple _ => some false
  | _ => none
def eqI (cs : List Str) : PyData → PyData → Option Bool
  | .dict ((.bool true, .str x) :: (.str w1, dw) :: (.str p1, .tuple ps) :: _), e => if x ∈ cs ∧ w1 = "word" ∧ p1 = "parts" then eqR cs x dw ps e else none
  | _, _ => none
def eqPm (cs : List Str) (ds : List PyData) : Option PyData := match ds with
  | [d, e] => (eqI cs d e).map .bool
  | _ => none
/-- what is asked of the classes with such a == -/
structure PapF (K : PySem.W.Frag) (mg : Str → Option Value) (cs : List Str) (T : Addr) : Prop where
  mg : mg "Paper" = some (.ref T)
  cl : ∀ x C, x ∈ cs → PySem.W.nsIn K mainGlobals x = some (some (.ref C)) → Cls K C ∧ NoAttr K C "word" ∧ NoAttr K C "parts" ∧ NmC K C x ∧ PySem.W.kitOne K (.ref C) (.ref T) = some true
  tu : PySem.W.kitOne K (.type "tuple") (.ref T) = some false
/-- what data of an instance tells of it -/
theorem ins_two {K : PySem.W.Frag} {B : Hp} {v : V} {x w1 p1 : Str} {dw dp : PyData} {r : List (PyData × PyData)} (h : Dv K B v (.dict ((.bool true, .str x) :: (.str w1, dw) :: (.str p1, dp) :: r))) :
    ∃ a C dx fs v1 v2, v = .ref a ∧ PySem.W.nsIn K mainGlobals x = some (some (.ref C)) ∧ B a = some (.ins C dx ((w1, v1) :: (p1, v2) :: fs)) ∧ Dv K B v1 dw ∧ Dv K B v2 dp := by
  cases h with
  | dct _ r => exact (dvk_true r).elim
  | ins hx h1 r =>
    rename_i a C dx fs
    match fs, r with
    | [], r => cases r
    | [(n1, u1)], r =>
      generalize hl : (PyData.str w1, dw) :: (PyData.str p1, dp) :: _ = l at r
      cases r with
      | cons g t => cases t; cases hl
    | (n1, u1) :: (n2, u2) :: fs, r =>
      generalize hl : (PyData.str w1, dw) :: (PyData.str p1, dp) :: _ = l at r
      cases r with
      | cons g t =>
        cases t with
        | cons g2 t2 =>
          simp only [kD, List.cons.injEq, Prod.mk.injEq, PyData.str.injEq] at hl
          obtain ⟨⟨rfl, rfl⟩, ⟨rfl, rfl⟩, rfl⟩ := hl
          exact ⟨a, C, dx, fs, u1, u2, rfl, hx, h1, g, g2⟩
section
variable {X : Cx} {pins : List (Addr × Obj)} {σ : L2.St} {B H : Hp} {s : Shared}
/-- == of tuples of data -/
def rEqT (K : PySem.W.Frag) : R2 := fun x y H Q => ∃ B xs ys n c, Same B H ∧ Dv K B x (.tuple xs) ∧ Dv K B y (.tuple ys) ∧ noObjAll xs = true ∧ noObjAll ys = true ∧ eqZ (eqG n) xs ys = some c ∧ n ≤ 20 ∧ Q (.bl (c && xs.length == ys.length)) H
theorem op_eqT (hu : X.A.units + 100 < cLine) : OpR X (compareOp .Eq) (rEqT X.K) := by
  intro pins s σ H x y u v Q I rx ry h
  obtain ⟨B, xs, ys, n, c, e, hv, hv', nd, nd', hz, hn, q⟩ := h
  obtain ⟨a, vs, rfl, h1, r1⟩ := tup_dv hv
  obtain ⟨a', vs', rfl, h2, r2⟩ := tup_dv hv'
  cases rx
  cases ry
  obtain ⟨us, q1, t1, _⟩ := I.tuple (same_t e h1)
  obtain ⟨us', q2, t2, _⟩ := I.tuple (same_t e h2)
  obtain ⟨ee, hc, hj⟩ := eqZ_all xs ys c hz
  have l1 : us.toArray.size = xs.length := by rw [List.size_toArray, ← q1.length, r1.length]
  have l2 : us'.toArray.size = ys.length := by rw [List.size_toArray, ← q2.length, r2.length]
  refine PySem.W.eq_tuplesT (prog := X.prog) (w := X.w) (n := 64 + n) (e := ee) t1 t2 (fun j g1 g2 => ?_) (by omega) ?_
  · rw [List.size_toArray] at g1 g2
    obtain ⟨v, hv⟩ : ∃ v, vs[j]? = some v := ⟨_, List.getElem?_eq_getElem (by rw [q1.length]; exact g1)⟩
    obtain ⟨v', hv'⟩ : ∃ v, vs'[j]? = some v := ⟨_, List.getElem?_eq_getElem (by rw [q2.length]; exact g2)⟩
    obtain ⟨x, x1, x2⟩ := r1.get hv
    obtain ⟨y, y1, y2⟩ := r2.get hv'
    obtain ⟨w1, w2, w3⟩ := q1.get hv
    obtain ⟨w1', w2', w3'⟩ := q2.get hv'
    have k := eq_tree I e n x y (ee j) v v' w1 w1' (hj j x y x1 y1) x2 y2 (noObj_at _ _ _ nd x1) (noObj_at _ _ _ nd' y1) w3 w3'
    have m1 : us.toArray[j] = w1 := by
      rw [List.getElem?_eq_getElem g1] at w2
      simpa using Option.some.inj w2
    have m2 : us'.toArray[j] = w1' := by
      rw [List.getElem?_eq_getElem g2] at w2'
      simpa using Option.some.inj w2'
    rw [m1, m2]
    exact k
  · rw [l1, l2, ← hc]
    exact ⟨.bl _, H, I, rfl, q⟩
end
inductive EqII (cs : List Str) : PyData → PyData → Bool → Prop
  | tup {x : Str} {dw dp : PyData} {r : List (PyData × PyData)} {xs : List PyData} (h : x ∈ cs) : EqII cs (.dict ((.bool true, .str x) :: (.str "word", dw) :: (.str "parts", dp) :: r)) (.tuple xs) false
  | ne {x y : Str} {dw dp ew ep : PyData} {r r' : List (PyData × PyData)} (h : x ∈ cs) (h' : y ∈ cs) (n : x ≠ y) : EqII cs (.dict ((.bool true, .str x) :: (.str "word", dw) :: (.str "parts", dp) :: r)) (.dict ((.bool true, .str y) :: (.str "word", ew) :: (.str "parts", ep) :: r')) false
  | same {x a b : Str} {ps qs : List PyData} {r r' : List (PyData × PyData)} {c : Bool} (h : x ∈ cs) (h1 : noObjAll ps = true) (h2 : noObjAll qs = true) (hc : a = b → ∃ d, eqZ (eqG 20) ps qs = some d ∧ c = (d && ps.length == qs.length)) (hn : a ≠ b → c = false) :
    EqII cs (.dict ((.bool true, .str x) :: (.str "word", .str a) :: (.str "parts", .tuple ps) :: r)) (.dict ((.bool true, .str x) :: (.str "word", .str b) :: (.str "parts", .tuple qs) :: r')) c
theorem eqI_inv {cs : List Str} {d e : PyData} {c : Bool} (h : eqI cs d e = some c) : EqII cs d e c := by
  unfold eqI at h
  split at h
  · rename_i x w1 dw p1 ps r
    split at h
    · rename_i hx
      obtain ⟨hx, rfl, rfl⟩ := hx
      unfold eqR at h
      split at h
      · rename_i y w2 ew p2 qs r'
        split at h
        · rename_i hy
          obtain ⟨hy, rfl, rfl⟩ := hy
          split at h
          · rename_i z
            subst z
            unfold eqQ at h
            split at h
            · rename_i a b
              split at h
              · rename_i hn
                split at h
                · rename_i z
                  split at h
                  · rename_i d hd
                    cases h
                    exact .same hx hn.1 hn.2 (fun _ => ⟨d, hd, rfl⟩) fun n => absurd z n
                  · cases h
                · rename_i z
                  cases h
                  exact .same hx hn.1 hn.2 (fun n => absurd n z) fun _ => rfl
              · cases h
            · cases h
          · rename_i z
            cases h
            exact .ne hx hy z
        · cases h
      · cases h
        exact .tup hx
      · cases h
    · cases h
  · cases h
end Kd


set_option Elab.async false
set_option linter.all false
set_option maxRecDepth 100000
set_option maxHeartbeats 8000000
namespace K00
open PySem PySem.Spec PyProof.Rows L2 Kd
/-! Paper.__eq__ -/
abbrev s_eq : Stmt := inClass (top 2) 1
theorem sc_eq : FnScope ["self", "other"] ["self", "other"] (defScope s_eq) := ⟨rfl, rfl, rfl, by decide +kernel, rfl, by decide +kernel, by decide +kernel⟩
section
variable {P : Program} {w : World} {K : PySem.W.Frag} {mg : Str → Option Value} {base : Heap} {f : Addr} {fd : FuncData}
theorem fgr_eq {cs : List Str} {T : Addr} (bl : ∀ y ∈ (["isinstance", "bool"] : List Str), mg y = none) (PF : PapF K mg cs T) (F : Fun K "__eq__" "Paper.__eq__" s_eq f fd) : FGR P w K mg base 1 f 2 [] (SpF K (eqPm cs)) := by
  refine fgr_of (ps := ["self", "other"]) (fd := fd) ?_ (F.binds fun _ _ _ _ _ _ us hu => match us, hu with | [_, _], _ => rfl)
  refine fg_of F sc_eq (fun vs H Q E h => ?_) fun cdv A outer s H vs Q E hr hg h => ?_
  · obtain ⟨ds, d, B, _, r, hm, _⟩ := h
    unfold eqPm at hm
    split at hm
    · rw [r.length]; rfl
    · cases hm
  · obtain ⟨ds, d, B, sb, r, hm, q⟩ := h
    unfold eqPm at hm
    split at hm
    · rename_i d1 d2
      obtain ⟨c, hc, rfl⟩ := Option.map_eq_some_iff.mp hm
      match vs, r with
      | [v1, v2], .cons e1 (.cons e2 .nil) =>
        have hu : (A.deeper (envOfC "Paper.__eq__" (defScope s_eq) s.heap.objs.size f cdv)).units + 100 < cLine := by have := hr.un; omega
        have hq : ∀ k, k = c → Q (.bl k) H := fun k z => q (.bl k) B H (Same.refl _) sb (Same.refl _) (fun a o z => .inl ⟨o, z⟩) (by rw [z]; exact .bl c)
        refine ⟨_, pss_cons (ps_if (PW.pt (pw_or (pt_not (pt_val (pe_callB call_isv rfl (bl _ (by decide)) (by decide +kernel) (pa_cons (pv 1) (pa_cons (pe_glob (x := "Paper") (v := V.ref T) rfl PF.mg rfl) pa_nil))))) (pw_or1 (pt_cmpR op_ne (pe_nm (pv 0)) (pe_nm (pv 1)) rfl)))) (pss_one (ps_ret pe_bl)) pss_nil) (pss_one (ps_ret (pe_callTy call_bool1 rfl (bl _ (by decide)) (by decide +kernel)
          (pa_cons (pe_and (pe_cmpR op_eq (pe_fld (pv 0) rfl) (pe_fld (pv 1) rfl) rfl) (pe_one (pe_cmpR (op_eqT hu) (pe_fld (pv 0) rfl) (pe_fld (pv 1) rfl) rfl))) pa_nil)))), ?_⟩
        cases eqI_inv hc with
        | tup hx =>
          refine ⟨v2, rfl, v2, .ref T, _, _, false, rfl, .own T, .inl (ty_ok sb e2 rfl), PF.tu, false, rfl, ?_⟩
          exact hq false rfl
        | ne hx hy n =>
          obtain ⟨a, C, dx, fs, u1, u2, rfl, hC, ha, g1, g2⟩ := ins_two e1
          obtain ⟨a', C', dx', fs', u1', u2', rfl, hC', ha', g1', g2'⟩ := ins_two e2
          obtain ⟨c1, n1, n2, nm, ki⟩ := PF.cl _ _ hx hC
          obtain ⟨c1', n1', n2', nm', ki'⟩ := PF.cl _ _ hy hC'
          refine ⟨.ref a', rfl, .ref a', .ref T, _, _, true, rfl, .own T, .inl (.base (.ins (sb _ _ ha') nm'.ic.cl nm'.ic.ha nm'.ic.hn nm'.ic.ht nm'.ic.hm)), ki', true, rfl, ?_⟩
          refine ⟨.ref a, rfl, a, C, dx, _, _, rfl, sb _ _ ha, nm, .ref a', rfl, a', C', dx', _, _, rfl, sb _ _ ha', nm', rfl, !decide (V.str _ = V.str _), rfl, ?_⟩
          rw [decide_eq_false (fun z => n (V.str.inj z))]
          exact hq false rfl
        | @same _ b1 b2 _ _ _ _ _ hx n1 n2 hc hn =>
          obtain ⟨a, C, dx, fs, u1, u2, rfl, hC, ha, g1, g2⟩ := ins_two e1
          obtain ⟨a', C', dx', fs', u1', u2', rfl, hC', ha', g1', g2'⟩ := ins_two e2
          obtain ⟨c1, m1, m2, nm, ki⟩ := PF.cl _ _ hx hC
          rw [hC] at hC'
          cases hC'
          cases g1
          cases g1'
          refine ⟨.ref a', rfl, .ref a', .ref T, _, _, true, rfl, .own T, .inl (.base (.ins (sb _ _ ha') nm.ic.cl nm.ic.ha nm.ic.hn nm.ic.ht nm.ic.hm)), ki, true, rfl, ?_⟩
          refine ⟨.ref a, rfl, a, C, dx, _, _, rfl, sb _ _ ha, nm, .ref a', rfl, a', C, dx', _, _, rfl, sb _ _ ha', nm, rfl, !decide (V.str _ = V.str _), rfl, ?_⟩
          rw [decide_eq_true rfl]
          refine ⟨.ref a, rfl, a, C, dx, _, V.str b1, rfl, sb _ _ ha, c1, m1, rfl, .ref a', rfl, a', C, dx', _, V.str b2, rfl, sb _ _ ha', c1, m1, rfl, rfl, _, rfl, ?_⟩
          by_cases z : b1 = b2
          · subst z
            rw [decide_eq_true rfl, if_pos rfl]
            obtain ⟨d, hd, hcd⟩ := hc rfl
            refine ⟨.ref a, rfl, a, C, dx, _, u2, rfl, sb _ _ ha, c1, m2, rfl, .ref a', rfl, a', C, dx', _, u2', rfl, sb _ _ ha', c1, m2, rfl, B, _, _, 20, d, sb, g2, g2', n1, n2, hd, by decide, ?_⟩
            exact .inr ⟨_, rfl, hq _ hcd.symm⟩
          · rw [decide_eq_false (fun y => z (V.str.inj y)), if_neg Bool.false_ne_true]
            exact .inr ⟨_, rfl, hq _ (hn z).symm⟩
    · cases hm
end
end K00


set_option Elab.async false
set_option linter.all false
set_option maxRecDepth 100000
set_option maxHeartbeats 4000000
namespace Kd
open PySem PySem.Spec PyProof.Rows L2
/-! == and != of instances by an own __eq__, by data. -/
section
variable {X : Cx} {pins : List (Addr × Obj)} {σ : L2.St} {B H : Hp} {s : Shared} {k : Nat} {f : Addr} {m : List PyData → Option PyData}
theorem own_call {A : Around} {x y : V} {u v : Value} {dx dy z : PyData} {Q : VK} (F : FGR X.prog X.w X.K X.mg X.base k f 2 [] (SpF X.K m)) (hr : Room k A) (hg : A.guards = some []) (fr : A.frames = X.A.frames) (I : Inv X pins σ H s) (r1 : L2.RelV x u) (r2 : L2.RelV y v)
    (sb : Same B H) (d1 : Dv X.K B x dx) (d2 : Dv X.K B y dy) (hm : m [dx, dy] = some z) (q : ∀ w B' H', Same B B' → Same B' H' → Same H H' → New B H B' → Dv X.K B' w z → Q w H') :
    wpAny (model X.prog X.w) A (call (.ref f) [u, v]) (EP X pins σ Q) X.xe s := by
  have e0 : Env0 X.prog X.w X.K X.mg X.base A X.stack s H := by
    have e := I.env0
    exact ⟨by rw [fr]; exact e.frames, e.mod, e.bs, e.bsz, e.funs, e.frf, e.hok, e.bare⟩
  refine wpAny_call (codeAny_mono (F A X.stack s H [u, v] [] [x, y] Q hr hg e0 rfl rfl (.cons r1 (.cons r2 .nil)) ⟨[dx, dy], z, B, sb, .cons d1 (.cons d2 .nil), hm, q⟩) fun r s' hq => ?_)
  cases r with
  | error e => exact False.elim hq
  | ok fl =>
    cases fl with
    | ret u => exact I.after hq
    | next => exact False.elim hq
    | brk => exact False.elim hq
    | cont => exact False.elim hq
/-- which side is asked first -/
structure EqC (K : PySem.W.Frag) (C f : Addr) : Prop where
  ob : PySem.W.mroIn K C (.type "object") = some true
  eq : PySem.W.findIn K (.ref C) "__eq__" = some (some (.ref f))
  ne : PySem.W.findIn K (.ref C) "__ne__" = some (some (.builtin "object.__ne__"))
  fn : PySem.W.isFn K (.ref f) = true
end
end Kd
namespace PySem.KfN
open PySem PySem.W PySem.Calls PyProof.Rows
section
variable {M : Model} {prog : Program} {w : World} {A A₀ : Around} {E : Value → Shared → Prop} {s : Shared} {K : Frag} {x y C D L f : Addr} {h₀ : Heap} {m : Str → Option Value} {ox oy : Obj} {od od' : Option Obj} {name : Str} {b tb : Value}
/-- the right side is asked first -/
theorem cmp_KR {Q : Value → Shared → Prop} (hu : A.units < cLine) (X : K.In s.heap) (I : InstAt s.heap x ox C od) (J : InstAt s.heap y oy D od') (hn : D ≠ C) (hsub : subIn K (.ref D) (.ref C) = some true)
    (hs : findIn K (.ref D) "__eq__" = some (some (.ref f))) (hf : isFn K (.ref f) = true)
    (h : wpAny (model prog w) A (call (.ref f) [.ref y, .ref x]) (PySem.W.CmpBack Q) E s) : wpAny (model prog w) A (richCompare .Eq (.ref x) (.ref y)) Q E s := by
  have one : wpAny (model prog w) A (tryCompare (.ref y) "__eq__" (.ref x)) (fun r s' => ∃ v, r = some v ∧ Q v s') E s := by
    unfold tryCompare
    refine wpAny_bind (ifBound_K X J hs hf (wpAny_mono h (fun v s' hv => ?_) fun _ _ e => e))
    cases v <;> first | exact hv.elim | exact wpAny_pure ⟨_, rfl, hv⟩
  unfold richCompare
  simp only [oneThing_ref]
  refine wpAny_holding (wpAny_bind (wpAny_cRoomFor hu ?_))
  refine wpAny_bind (I.type.here (wpAny_bind (J.type.here ?_)))
  split
  · refine wpAny_bind ((looks_subIn X hsub).here ?_)
    simp only [if_true]
    refine wpAny_bind (wpAny_mono one (fun r s' z => ?_) fun _ _ e => e)
    obtain ⟨v, rfl, hq⟩ := z
    exact wpAny_bind (wpAny_rule (wpAny_pure hq))
  · rename_i q
    exact absurd (by simpa using Ne.symm hn) q
theorem ifBound_objNe {args : List Value} {Q : Option Value → Shared → Prop} (X : K.In s.heap) (I : InstAt s.heap x ox C od) (hs : findIn K (.ref C) "__ne__" = some (some (.builtin "object.__ne__")))
    (h : wpAny M A (call (.builtin "object.__ne__") (.ref x :: args)) (fun v => Q (some v)) E s) : wpAny M A (callSpecialIfBound? (.ref x) "__ne__" args) Q E s := by
  simp only [callSpecialIfBound?, bindSpecialIfBound?]
  refine wpAny_holding (wpAny_bind (wpAny_bind (wpAny_bind (I.type.here ((looks_findIn X hs).here ?_)))))
  refine wpAny_bind (wpAny_askSetting (wpAny_ite ?_))
  have fin : wpAny M A (call (.builtin "object.__ne__") ([.ref x] ++ args) >>= fun v => pure (some v)) Q E s := wpAny_bind (wpAny_mono h (fun v s' h' => wpAny_pure h') fun _ _ h' => h')
  split
  · exact wpAny_bind (wpAny_of_eq (F.cmp_object.ne.bind _) (wpAny_pure (by exact fin)))
  · exact wpAny_tryCatch (wpAny_bind (wpAny_of_eq (F.cmp_object.ne.bind _) (wpAny_pure (by exact fin))))
theorem entry_ne {Q : Fin → Shared → Prop} (hu : A.units < cLine) (X : K.In s.heap) (I : InstAt s.heap x ox C od) (he : findIn K (.ref C) "__eq__" = some (some (.ref f))) (hf : isFn K (.ref f) = true)
    (h : wpAny M A (call (.ref f) [.ref x, b]) (fun v s' => ∃ c, v = .bool c ∧ Q (.done (.ret (.bool (!c)))) s') E s) : wpAny M A (Builtin.«object.__ne__» ⟨[.ref x, b], []⟩) Q E s := by
  unfold Builtin.«object.__ne__»
  repeat (first
    | with_reducible refine wpAny_cRoomFor hu ?_
    | (refine wpAny_bind (m := callSpecialIfBound? (.ref x) (Str.ofString "__eq__") [b]) (ifBound_K X I he hf (wpAny_mono h (fun r s' hr => by
          obtain ⟨c, rfl, hq⟩ := hr
          repeat (first | exact hq | exact wpAny_pure hq | exact wpAny_truthy_bool hq | (refine wpAny_bind (m := truthy (.bool _)) (wpAny_truthy_bool ?_)) | wp_step)) fun _ _ e => e)))
    | wp_step)
theorem cmp_Kne {Q : Value → Shared → Prop} (hu : A.units + 1 < cLine) (X : K.In s.heap) (I : InstAt s.heap x ox C od) (hb : Looks (model prog w) s.heap (typeOf b) tb) (hn : notFirst K C tb = true)
    (hob : mroIn K C (.type "object") = some true) (hne : findIn K (.ref C) "__ne__" = some (some (.builtin "object.__ne__"))) (he : findIn K (.ref C) "__eq__" = some (some (.ref f))) (hf : isFn K (.ref f) = true)
    (h : wpAny (model prog w) A.in1 (call (.ref f) [.ref x, b]) (fun v s' => ∃ c, v = .bool c ∧ Q (.bool (!c)) s') E s) : wpAny (model prog w) A (richCompare .NotEq (.ref x) b) Q E s := by
  have one : wpAny (model prog w) A (tryCompare (.ref x) "__ne__" b) (fun r s' => ∃ v, r = some v ∧ Q v s') E s := by
    unfold tryCompare
    refine wpAny_bind (ifBound_objNe X I hne (wpAny_call (codeAny_call_builtin F.cmp_object.ne.plain F.cmpEntry_ne (PySem.W.check_slot F.cmpKind_ne F.cmpSplit_ne (I.type.andThen (PySem.W.looks_mroIn X hob)) (F.cmpArgs_ne _ _) (entry_ne (A := A.in1) (by exact hu) X I he hf
      (wpAny_mono h (fun v s' hv => ?_) fun _ _ e => e))))))
    obtain ⟨c, rfl, hq⟩ := hv
    exact ⟨c, rfl, wpAny_pure ⟨_, rfl, hq⟩⟩
  unfold richCompare
  simp only [oneThing_ref]
  refine wpAny_holding (wpAny_bind (wpAny_cRoomFor (by omega) ?_))
  refine wpAny_bind (I.type.here (wpAny_bind (hb.here ?_)))
  split
  · rename_i q
    have e : subIn K tb (.ref C) = some false := by
      rcases Bool.or_eq_true_iff.mp hn with e | e
      · rw [beq_iff_eq.mp e] at q; simp at q
      · exact beq_iff_eq.mp e
    refine wpAny_bind ((looks_subIn X e).here ?_)
    simp only [Bool.false_eq_true, if_false]
    refine wpAny_bind (wpAny_mono one (fun r s' z => ?_) fun _ _ e => e)
    obtain ⟨v, rfl, hq⟩ := z
    exact wpAny_pure hq
  · refine wpAny_bind (wpAny_pure ?_)
    simp only [Bool.false_eq_true, if_false]
    refine wpAny_bind (wpAny_mono one (fun r s' z => ?_) fun _ _ e => e)
    obtain ⟨v, rfl, hq⟩ := z
    exact wpAny_pure hq
end
end PySem.KfN


set_option Elab.async false
set_option linter.all false
set_option maxRecDepth 100000
set_option maxHeartbeats 4000000
namespace Kd
open PySem PySem.Spec PyProof.Rows L2
def clsD : PyData → Option Str
  | .dict ((.bool true, .str x) :: _) => some x
  | _ => none
/-- == : the left side is asked first where lf says so -/
def eqOx (cs : List Str) (lf : Str → Str → Bool) (ds : List PyData) : Option PyData := match ds with
  | [d, e] => match clsD d with
    | some x => match clsD e with
      | some y => if lf x y = true then eqPm cs [d, e] else eqPm cs [e, d]
      | none => eqPm cs [d, e]
    | none => none
  | _ => none
def notO : Option PyData → Option PyData
  | some (.bool b) => some (.bool (!b))
  | _ => none
def neOx (cs : List Str) (lf : Str → Str → Bool) (ds : List PyData) : Option PyData := match ds with
  | [d, e] => match clsD d with
    | some x => match clsD e with
      | some y => if lf x y = true then notO (eqPm cs [d, e]) else none
      | none => none
    | none => none
  | _ => none
structure EqF (K : PySem.W.Frag) (cs : List Str) (lf : Str → Str → Bool) (f : Addr) : Prop where
  cl : ∀ x C, x ∈ cs → PySem.W.nsIn K mainGlobals x = some (some (.ref C)) → EqC K C f ∧ PySem.W.notFirst K C (.type "tuple") = true
  first : ∀ x y C D, x ∈ cs → y ∈ cs → PySem.W.nsIn K mainGlobals x = some (some (.ref C)) → PySem.W.nsIn K mainGlobals y = some (some (.ref D)) → (lf x y = true → PySem.W.notFirst K C (.ref D) = true) ∧ (lf x y = false → D ≠ C ∧ PySem.W.subIn K (.ref D) (.ref C) = some true)
/-- what both sides are where == is by the own def -/
inductive OwnP (K : PySem.W.Frag) (cs : List Str) (B : Hp) : V → V → PyData → PyData → Bool → Prop
  | tup {x : Str} {C a p dx : Addr} {fs : List (Str × V)} {d : PyData} {ws : List V} {xs : List PyData} (hx : x ∈ cs) (hC : PySem.W.nsIn K mainGlobals x = some (some (.ref C))) (hd : clsD d = some x) (h : B a = some (.ins C dx fs)) (hp : SqT K B p ws) (e : clsD (.tuple xs) = none) : OwnP K cs B (.ref a) (.ref p) d (.tuple xs) false
  | ins {x y : Str} {C D a b dx dy : Addr} {fs gs : List (Str × V)} {d e : PyData} {c : Bool} (hx : x ∈ cs) (hy : y ∈ cs) (hC : PySem.W.nsIn K mainGlobals x = some (some (.ref C))) (hD : PySem.W.nsIn K mainGlobals y = some (some (.ref D))) (hd : clsD d = some x) (he : clsD e = some y)
    (h : B a = some (.ins C dx fs)) (h' : B b = some (.ins D dy gs)) : OwnP K cs B (.ref a) (.ref b) d e c
theorem own_p {K : PySem.W.Frag} {cs : List Str} {B : Hp} {v w : V} {d e : PyData} {c : Bool} (h : EqII cs d e c) (h1 : Dv K B v d) (h2 : Dv K B w e) : OwnP K cs B v w d e c := by
  cases h with
  | tup hx =>
    obtain ⟨a, C, dx, fs, u1, u2, rfl, hC, ha, _⟩ := ins_two h1
    obtain ⟨p, ws, rfl, hp, _⟩ := tup_dv h2
    exact .tup hx hC rfl ha hp rfl
  | ne hx hy _ =>
    obtain ⟨a, C, dx, fs, u1, u2, rfl, hC, ha, _⟩ := ins_two h1
    obtain ⟨a', C', dx', fs', u1', u2', rfl, hC', ha', _⟩ := ins_two h2
    exact .ins hx hy hC hC' rfl rfl ha ha'
  | same hx _ _ _ _ =>
    obtain ⟨a, C, dx, fs, u1, u2, rfl, hC, ha, _⟩ := ins_two h1
    obtain ⟨a', C', dx', fs', u1', u2', rfl, hC', ha', _⟩ := ins_two h2
    exact .ins hx hx hC hC' rfl rfl ha ha'
theorem eqPm_inv {cs : List Str} {d e z : PyData} (h : eqPm cs [d, e] = some z) : ∃ c, z = .bool c ∧ EqII cs d e c := by
  obtain ⟨c, hc, rfl⟩ := Option.map_eq_some_iff.mp (show (eqI cs d e).map PyData.bool = some z from h)
  exact ⟨c, rfl, eqI_inv hc⟩
def rOwn (K : PySem.W.Frag) (g : List PyData → Option PyData) : R2 := fun x y H Q => ∃ B dx dy b, Same B H ∧ Dv K B x dx ∧ Dv K B y dy ∧ g [dx, dy] = some (.bool b) ∧ ∀ H', Same H H' → Q (.bl b) H'
section
variable {X : Cx} {k : Nat} {f : Addr} {cs : List Str} {lf : Str → Str → Bool}
theorem op_own_eq (F : FGR X.prog X.w X.K X.mg X.base k f 2 [] (SpF X.K (eqPm cs))) (hr : Room k X.A) (hg : X.A.guards = some []) (EF : EqF X.K cs lf f) : OpR X (compareOp .Eq) (rOwn X.K (eqOx cs lf)) := by
  intro pins s σ H x y u v Q I rx ry h
  obtain ⟨B, dx, dy, b, sb, d1, d2, hm, q⟩ := h
  obtain ⟨m, hF⟩ := I.fr
  have fin : ∀ (w : Value) (s' : Shared), EP X pins σ (fun w H' => w = .bl b ∧ Q (.bl b) H') w s' → PySem.W.CmpBack (EP X pins σ Q) w s' := by
    rintro w s' ⟨z, H', I', rz, rfl, qz⟩
    cases rz
    exact ⟨.bl b, H', I', rfl, qz⟩
  have qq : ∀ w B' H', Same B B' → Same B' H' → Same H H' → New B H B' → Dv X.K B' w (.bool b) → (w = .bl b ∧ Q (.bl b) H') := fun w B' H' _ _ t _ d => by
    cases d
    exact ⟨rfl, q H' t⟩
  show wpAny _ _ (richCompare .Eq u v) _ _ _
  simp only [eqOx] at hm
  split at hm
  · rename_i x1 hx1
    split at hm
    · rename_i y1 hy1
      split at hm
      · rename_i hl
        obtain ⟨c, hc, E⟩ := eqPm_inv hm
        cases own_p E d1 d2 with
        | tup _ _ _ _ _ e => rw [e] at hy1; cases hy1
        | ins hx hy hC hD hd he h1 h2 =>
          rw [hd] at hx1; cases hx1
          rw [he] at hy1; cases hy1
          cases rx
          cases ry
          obtain ⟨mA, J, _⟩ := ins_get I.hok (sb _ _ h1)
          obtain ⟨mB, J', _⟩ := ins_get I.hok (sb _ _ h2)
          obtain ⟨od, J, _⟩ := J.look
          obtain ⟨od', J', _⟩ := J'.look
          obtain ⟨ec, _⟩ := EF.cl _ _ hx hC
          exact PySem.W.cmp_K (op := .Eq) hr.units0 hF I.ok.mod.kin J J'.type ((EF.first _ _ _ _ hx hy hC hD).1 hl) ec.eq ec.fn
            (wpAny_mono (own_call (x := .ref _) (y := .ref _) F hr hg rfl I rfl rfl sb d1 d2 hm qq) fin fun _ _ e => e)
      · rename_i hl
        obtain ⟨c, hc, E⟩ := eqPm_inv hm
        cases own_p E d2 d1 with
        | tup _ _ _ _ _ e => rw [e] at hx1; cases hx1
        | ins hy hx hD hC he hd h2 h1 =>
          rw [hd] at hx1; cases hx1
          rw [he] at hy1; cases hy1
          cases rx
          cases ry
          obtain ⟨mA, J, _⟩ := ins_get I.hok (sb _ _ h1)
          obtain ⟨mB, J', _⟩ := ins_get I.hok (sb _ _ h2)
          obtain ⟨od, J, _⟩ := J.look
          obtain ⟨od', J', _⟩ := J'.look
          obtain ⟨ec, _⟩ := EF.cl _ _ hy hD
          obtain ⟨n1, n2⟩ := (EF.first _ _ _ _ hx hy hC hD).2 (by simpa using hl)
          exact PySem.KfN.cmp_KR hr.units0 I.kIn J J' n1 n2 ec.eq ec.fn
            (wpAny_mono (own_call (x := .ref _) (y := .ref _) F hr hg rfl I rfl rfl sb d2 d1 hm qq) fin fun _ _ e => e)
    · rename_i hy1
      obtain ⟨c, hc, E⟩ := eqPm_inv hm
      cases own_p E d1 d2 with
      | tup hx hC hd h1 hp _ =>
        cases rx
        cases ry
        obtain ⟨mA, J, _⟩ := ins_get I.hok (sb _ _ h1)
        obtain ⟨od, J, _⟩ := J.look
        obtain ⟨ec, nt⟩ := EF.cl _ _ hx hC
        obtain ⟨us, q1, t1, _⟩ := I.tuple (same_t sb hp)
        obtain ⟨o, ho, hoc, _⟩ := t1
        exact PySem.W.cmp_K (op := .Eq) (tb := .type "tuple") hr.units0 hF I.ok.mod.kin J (fun A Q E s k q => wpAny_typeOf (T := "tuple") ⟨_, k _ _ ho, hoc⟩ q) nt ec.eq ec.fn
          (wpAny_mono (own_call (x := .ref _) (y := .ref _) F hr hg rfl I rfl rfl sb d1 d2 hm qq) fin fun _ _ e => e)
      | ins hx hy hC hD hd he h1 h2 => rw [he] at hy1; cases hy1
  · cases hm
theorem op_own_ne (F : FGR X.prog X.w X.K X.mg X.base k f 2 [] (SpF X.K (eqPm cs))) (hr : Room (k + 1) X.A) (hg : X.A.guards = some []) (EF : EqF X.K cs lf f) : OpR X (compareOp .NotEq) (rOwn X.K (neOx cs lf)) := by
  intro pins s σ H x y u v Q I rx ry h
  obtain ⟨B, dx, dy, b, sb, d1, d2, hm, q⟩ := h
  show wpAny _ _ (richCompare .NotEq u v) _ _ _
  simp only [neOx] at hm
  split at hm
  · rename_i x1 hx1
    split at hm
    · rename_i y1 hy1
      split at hm
      · rename_i hl
        unfold notO at hm
        split at hm
        · rename_i c hm'
          cases hm
          obtain ⟨_, hc, E⟩ := eqPm_inv hm'
          cases own_p E d1 d2 with
          | tup _ _ _ _ _ e => rw [e] at hy1; cases hy1
          | ins hx hy hC hD hd he h1 h2 =>
            rw [hd] at hx1; cases hx1
            rw [he] at hy1; cases hy1
            cases rx
            cases ry
            obtain ⟨mA, J, _⟩ := ins_get I.hok (sb _ _ h1)
            obtain ⟨mB, J', _⟩ := ins_get I.hok (sb _ _ h2)
            obtain ⟨od, J, _⟩ := J.look
            obtain ⟨od', J', _⟩ := J'.look
            obtain ⟨ec, _⟩ := EF.cl _ _ hx hC
            refine PySem.KfN.cmp_Kne (by have := hr.un; omega) I.kIn J J'.type ((EF.first _ _ _ _ hx hy hC hD).1 hl) ec.ob ec.ne ec.eq ec.fn
              (wpAny_mono (own_call (x := .ref _) (y := .ref _) (Q := fun w H' => w = .bl c ∧ Q (.bl (!c)) H') F hr.in1 hg rfl I rfl rfl sb d1 d2 hm' fun w B' H' _ _ t _ d => by cases d; exact ⟨rfl, q H' t⟩) ?_ fun _ _ e => e)
            rintro w s' ⟨z, H', I', rz, rfl, qz⟩
            cases rz
            exact ⟨c, rfl, .bl (!c), H', I', rfl, qz⟩
        · cases hm
      · cases hm
    · cases hm
  · cases hm
end
/-! ### as shapes -/
def shCmp (op : CmpOp) : Shp := { e := fun _ es x => ∃ a b pos, es = [a, b] ∧ x = .Compare a [op] [b] pos, t := fun _ es x => ∃ a b pos, es = [a, b] ∧ x = .Compare a [op] [b] pos }
/-- two parts, an operation, plain data -/
theorem ox_op {X : Cx} {op : CmpOp} {g : List PyData → Option PyData} (ho : OpR X (compareOp op) (rOwn X.K g)) (hb : ∀ b, behindInMarks op b = false) (hz : ∀ ds z, g ds = some z → ∃ d e b, ds = [d, e] ∧ z = .bool b) :
    OxOk X (shCmp op) g where
  e := by
    rintro es x ⟨a, b, pos, rfl, rfl⟩ p B0 H0 B H σ st1 ds z Q hm hl q
    refine w_pe (pe_cmpR ho pe_w pe_w (hb b)) ?_
    exact hl (fun vs H2 => match vs with
      | [v, w] => rOwn X.K g v w H2 Q
      | _ => False) fun vs B1 H1 R s dv => by
        obtain ⟨d1, d2, c, rfl, rfl⟩ := hz _ _ hm
        cases dv with
        | cons e1 r => cases r with
          | cons e2 r => cases r with
            | nil => exact ⟨B1, d1, d2, c, R.ext, e1, e2, hm, fun H' t => q _ B1 H' (R.heap t) s (.bl c)⟩
  t := by
    rintro es x ⟨a, b, pos, rfl, rfl⟩ p B0 H0 B H σ st1 ds z t Q hm tr hl q
    refine w_pt (pt_cmpR ho pe_w pe_w (hb b)) ?_
    exact hl (fun vs H2 => match vs with
      | [v, w] => rOwn X.K g v w H2 (fun x H' => ∃ k, x = .bl k ∧ Q k H')
      | _ => False) fun vs B1 H1 R s dv => by
        obtain ⟨d1, d2, c, rfl, rfl⟩ := hz _ _ hm
        cases tr
        cases dv with
        | cons e1 r => cases r with
          | cons e2 r => cases r with
            | nil => exact ⟨B1, d1, d2, _, R.ext, e1, e2, hm, fun H3 g => ⟨_, rfl, q B1 H3 (R.heap g) s⟩⟩
  s := fun _ _ es js x h => h.elim
theorem eqOx_bool {cs : List Str} {lf : Str → Str → Bool} : ∀ ds z, eqOx cs lf ds = some z → ∃ d e b, ds = [d, e] ∧ z = .bool b := by
  intro ds z h
  match ds, h with
  | [d, e], h =>
    simp only [eqOx] at h
    split at h
    · split at h
      · split at h
        · obtain ⟨c, rfl, _⟩ := eqPm_inv h
          exact ⟨d, e, c, rfl, rfl⟩
        · obtain ⟨c, rfl, _⟩ := eqPm_inv h
          exact ⟨d, e, c, rfl, rfl⟩
      · obtain ⟨c, rfl, _⟩ := eqPm_inv h
        exact ⟨d, e, c, rfl, rfl⟩
    · cases h
theorem neOx_bool {cs : List Str} {lf : Str → Str → Bool} : ∀ ds z, neOx cs lf ds = some z → ∃ d e b, ds = [d, e] ∧ z = .bool b := by
  intro ds z h
  match ds, h with
  | [d, e], h =>
    simp only [neOx] at h
    split at h
    · split at h
      · split at h
        · unfold notO at h
          split at h
          · cases h
            exact ⟨d, e, _, rfl, rfl⟩
          · cases h
        · cases h
      · cases h
    · cases h
section
variable {P : Program} {w : World} {K : PySem.W.Frag} {mg : Str → Option Value} {base : Heap} {k : Nat} {f : Addr} {cs : List Str} {lf : Str → Str → Bool}
theorem oxf_eq (F : FGR P w K mg base k f 2 [] (SpF K (eqPm cs))) (EF : EqF K cs lf f) : OxF P w K mg base k (shCmp .Eq) (eqOx cs lf) := by
  rintro X rfl rfl rfl rfl rfl hr hg hc hn
  exact ox_op (op_own_eq F hr hg EF) (fun b => nobehind _ (by decide) (by decide)) eqOx_bool
theorem oxf_ne (F : FGR P w K mg base k f 2 [] (SpF K (eqPm cs))) (EF : EqF K cs lf f) : OxF P w K mg base (k + 1) (shCmp .NotEq) (neOx cs lf) := by
  rintro X rfl rfl rfl rfl rfl hr hg hc hn
  exact ox_op (op_own_ne F hr hg EF) (fun b => nobehind _ (by decide) (by decide)) neOx_bool
end
end Kd


set_option Elab.async false
set_option linter.all false
set_option maxRecDepth 100000
set_option maxHeartbeats 4000000
namespace Kd
open PySem PySem.Spec PyProof.Rows L2
/-! The truth of instances with an own __bool__; (a, b), (c, d) = e, f. -/
theorem ins_at {K : PySem.W.Frag} {B : Hp} {v : V} {d : PyData} {x : Str} (h : Dv K B v d) (hx : clsD d = some x) : ∃ a C dx fs, v = .ref a ∧ PySem.W.nsIn K mainGlobals x = some (some (.ref C)) ∧ B a = some (.ins C dx fs) := by
  unfold clsD at hx
  split at hx
  · cases hx
    cases h with
    | dct _ r => exact (dvk_true r).elim
    | ins hC h1 r => exact ⟨_, _, _, _, rfl, hC, h1⟩
  · cases hx
def truOx (tv : List (Str × Bool)) (ds : List PyData) : Option PyData := match ds with
  | [d] => match clsD d with
    | some x => (tv.lookup x).map .bool
    | none => none
  | _ => none
/-- a def that gives the same in any case -/
def constD (b : Bool) : List PyData → Option PyData
  | [_] => some (.bool b)
  | _ => none
def TruF (P : Program) (w : World) (K : PySem.W.Frag) (mg : Str → Option Value) (base : Heap) (k : Nat) (tv : List (Str × Bool)) : Prop :=
  ∀ x C b, tv.lookup x = some b → PySem.W.nsIn K mainGlobals x = some (some (.ref C)) → ∃ f, PySem.W.findIn K (.ref C) "__bool__" = some (some (.ref f)) ∧ PySem.W.isFn K (.ref f) = true ∧ FGR P w K mg base k f 1 [] (SpF K (constD b))
def shTru : Shp := { t := fun _ es x => es = [x] ∧ ∀ env whole, isTrue x env whole = (do let v ← whole; standAt x.pos; holding [v] (truthy v)) }
section
variable {X : Cx} {k : Nat} {tv : List (Str × Bool)}
theorem own_call1 {pins : List (Addr × Obj)} {σ : L2.St} {B H : Hp} {s : Shared} {f : Addr} {m : List PyData → Option PyData} {x : V} {u : Value} {dx z : PyData} {Q : VK} (F : FGR X.prog X.w X.K X.mg X.base k f 1 [] (SpF X.K m)) (hr : Room k X.A) (hg : X.A.guards = some []) (I : Inv X pins σ H s) (r1 : L2.RelV x u)
    (sb : Same B H) (d1 : Dv X.K B x dx) (hm : m [dx] = some z) (q : ∀ w B' H', Same B B' → Same B' H' → Same H H' → New B H B' → Dv X.K B' w z → Q w H') :
    wpAny (model X.prog X.w) X.A (call (.ref f) [u]) (EP X pins σ Q) X.xe s := by
  refine wpAny_call (codeAny_mono (F X.A X.stack s H [u] [] [x] Q hr hg I.env0 rfl rfl (.cons r1 .nil) ⟨[dx], z, B, sb, .cons d1 .nil, hm, q⟩) fun r s' hq => ?_)
  cases r with
  | error e => exact False.elim hq
  | ok fl =>
    cases fl with
    | ret u => exact I.after hq
    | next => exact False.elim hq
    | brk => exact False.elim hq
    | cont => exact False.elim hq
theorem tru_own (T : TruF X.prog X.w X.K X.mg X.base k tv) (hr : Room k X.A) (hg : X.A.guards = some []) : TruR X (fun x H Q => ∃ B d b, Same B H ∧ Dv X.K B x d ∧ truOx tv [d] = some (.bool b) ∧ ∀ H', Same H H' → Q b H') := by
  intro pins s σ H x v Q I r h
  obtain ⟨B, d, b, sb, dv, hm, q⟩ := h
  simp only [truOx] at hm
  split at hm
  · rename_i c hc
    obtain ⟨b', hb, hbb⟩ := Option.map_eq_some_iff.mp hm
    cases hbb
    obtain ⟨a, C, dx, fs, rfl, hC, ha⟩ := ins_at dv hc
    obtain ⟨f, h1, h2, F⟩ := T _ _ _ hb hC
    cases r
    obtain ⟨m, hF⟩ := I.fr
    obtain ⟨mA, J, _⟩ := ins_get I.hok (sb _ _ ha)
    obtain ⟨od, J, _⟩ := J.look
    refine PySem.W.truthy_K hF I.ok.mod.kin J h1 h2 (wpAny_mono (own_call1 (x := .ref _) (Q := fun w H' => w = .bl b ∧ Q b H') F hr hg I rfl sb dv rfl fun w B' H' _ _ t _ d => by cases d; exact ⟨rfl, q H' t⟩) ?_ fun _ _ e => e)
    rintro w s' ⟨z, H', I', rz, rfl, qz⟩
    cases rz
    exact ⟨H', I', qz⟩
  · cases hm
end
theorem truOx_bool {tv : List (Str × Bool)} : ∀ ds z, truOx tv ds = some z → ∃ d b, ds = [d] ∧ z = .bool b := by
  intro ds z h
  match ds, h with
  | [d], h =>
    simp only [truOx] at h
    split at h
    · obtain ⟨b, _, rfl⟩ := Option.map_eq_some_iff.mp h
      exact ⟨d, b, rfl, rfl⟩
    · cases h
theorem oxf_tru {P : Program} {w : World} {K : PySem.W.Frag} {mg : Str → Option Value} {base : Heap} {k : Nat} {tv : List (Str × Bool)} (T : TruF P w K mg base k tv) : OxF P w K mg base k shTru (truOx tv) := by
  rintro X rfl rfl rfl rfl rfl hr hg hc hn
  constructor
  · exact fun es x h => h.elim
  · rintro es x ⟨rfl, he⟩ p B0 H0 B H σ st1 ds z t Q hm tr hl q
    refine w_pt (pt_truthR pe_w (tru_own T hr hg) (he X.env)) ?_
    exact hl (fun vs H2 => match vs with
      | [v] => ∃ B d b, Same B H2 ∧ Dv X.K B v d ∧ truOx tv [d] = some (.bool b) ∧ ∀ H', Same H2 H' → Q b H'
      | _ => False) fun vs B1 H1 R s dv => by
        obtain ⟨d1, c, rfl, rfl⟩ := truOx_bool _ _ hm
        cases tr
        cases dv with
        | cons e1 r => cases r with
          | nil => exact ⟨B1, d1, _, R.ext, e1, hm, fun H3 g => q B1 H3 (R.heap g) s⟩
  · exact fun _ _ es js x h => h.elim
/-! ### (a, b), (c, d) = e, f -/
def un4 (ds : List PyData) : Option PyData := match ds with
  | [.tuple [a, b], .tuple [c, d]] => some (.list [a, b, c, d])
  | _ => none
inductive ShU (sc : Scope) (N : List Str) : List Expr → List Nat → Stmt → Prop
  | mk {a b : Expr} {x1 x2 x3 x4 : Str} {j1 j2 j3 j4 : Nat} {p1 p2 p3 p4 q1 q2 q q' pos : Pos} {k1 k2 k k' : Nat} (n1 : N[j1]? = some x1) (n2 : N[j2]? = some x2) (n3 : N[j3]? = some x3) (n4 : N[j4]? = some x4) (l1 : Loc sc x1) (l2 : Loc sc x2) (l3 : Loc sc x3) (l4 : Loc sc x4)
      (s1 : ∀ env, starEach [a, b] env = (false, eval a env) :: starEach [b] env) (s2 : ∀ env, starEach [b] env = (false, eval b env) :: starEach [] env)
      (hss : ∀ env : Env, swapsWithSole [.Tuple [.Tuple [.Name x1 p1, .Name x2 p2] k1 q1, .Tuple [.Name x3 p3, .Name x4 p4] k2 q2] k q] (.Tuple [a, b] k' q') pos.line env = pure false)
      (hsw : ∀ env : Env, env.scope = sc → swappedStores [.Tuple [.Tuple [.Name x1 p1, .Name x2 p2] k1 q1, .Tuple [.Name x3 p3, .Name x4 p4] k2 q2] k q] (.Tuple [a, b] k' q') env = pure none) :
      ShU sc N [a, b] [j1, j2, j3, j4] (.Assign [.Tuple [.Tuple [.Name x1 p1, .Name x2 p2] k1 q1, .Tuple [.Name x3 p3, .Name x4 p4] k2 q2] k q] (.Tuple [a, b] k' q') pos)
def shU : Shp := { s := ShU }
theorem un4_inv {ds zs : List PyData} (h : un4 ds = some (.list zs)) : ∃ a b c d, ds = [.tuple [a, b], .tuple [c, d]] ∧ zs = [a, b, c, d] := by
  unfold un4 at h
  split at h
  · cases h
    exact ⟨_, _, _, _, rfl, rfl⟩
  · cases h
theorem un4_fin {K : PySem.W.Frag} {σ : L2.St} {H1 : Hp} {p a1 a2 : Addr} {w1 w2 w3 w4 : V} {j1 j2 j3 j4 : Nat} {Q : L2.St → Hp → Prop} (hp : H1 p = none) (t1 : SqT K H1 a1 [w1, w2]) (t2 : SqT K H1 a2 [w3, w4]) (q : Q (setV σ [j1, j2, j3, j4] [w1, w2, w3, w4]) (upd H1 p (.tup [.ref a1, .ref a2]))) :
    gTup K 2 (gCons (gTup K 2 (gCons (gName j1) (gCons (gName j2) gNil))) (gCons (gTup K 2 (gCons (gName j3) (gCons (gName j4) gNil))) gNil)) (.ref p) σ (upd H1 p (.tup [.ref a1, .ref a2])) Q := by
  have sh : Same H1 (upd H1 p (.tup [.ref a1, .ref a2])) := same_upd hp
  refine ⟨p, [.ref a1, .ref a2], rfl, .inl (.inl upd_same), rfl, .ref a1, [.ref a2], rfl, ?_⟩
  refine ⟨a1, [w1, w2], rfl, same_t sh t1, rfl, w1, [w2], rfl, w2, [], rfl, rfl, .ref a2, [], rfl, ?_⟩
  exact ⟨a2, [w3, w4], rfl, same_t sh t2, rfl, w3, [w4], rfl, w4, [], rfl, rfl, rfl, q⟩
theorem oxf_u {P : Program} {w : World} {K : PySem.W.Frag} {mg : Str → Option Value} {base : Heap} {k : Nat} : OxF P w K mg base k shU un4 := by
  rintro X rfl rfl rfl rfl rfl hr hg hc hn
  constructor
  · exact fun es x h => h.elim
  · exact fun es x h => h.elim
  · intro hf hps es js st h p B0 H0 B H σ st1 ds zs D hm hlen hl q
    cases (show ShU X.env.scope X.N es js st from h)
    rename_i a b x1 x2 x3 x4 j1 j2 j3 j4 p1 p2 p3 p4 q1 q2 qq q' pos k1 k2 k3 k' n1 n2 n3 n4 l1 l2 l3 l4 s1 s2 hss hsw
    refine w_ps (ps_asg (pe_tup (pa_cons pe_w (pa_cons pe_w pa_nil (s2 X.env)) (s1 X.env))) (pg_tup hc (pgs_cons (pg_tup hc (pgs_cons (pg_name hn n1 l1 (.inl (hf _))) (pgs_cons (pg_name hn n2 l2 (.inl (hf _))) pgs_nil)))
      (pgs_cons (pg_tup hc (pgs_cons (pg_name hn n3 l3 (.inl (hf _))) (pgs_cons (pg_name hn n4 l4 (.inl (hf _))) pgs_nil))) pgs_nil))) (hss X.env) (hsw X.env rfl) rfl) ?_
    obtain ⟨d1, d2, d3, d4, rfl, rfl⟩ := un4_inv hm
    refine hl (fun vs H1 => vs.length ≤ sizeLine ∧ ∀ p, H1 p = none → gTup X.K 2 (gCons (gTup X.K 2 (gCons (gName j1) (gCons (gName j2) gNil))) (gCons (gTup X.K 2 (gCons (gName j3) (gCons (gName j4) gNil))) gNil)) (.ref p) σ (upd H1 p (.tup vs)) D.nx) fun vs B1 H1 R s dv => ?_
    cases dv with
    | cons e1 r => cases r with
      | cons e2 r => cases r with
        | nil =>
          refine ⟨by rw [sizeLine_eq]; show 2 ≤ _; decide, fun p hp => ?_⟩
          obtain ⟨a1, ws1, rfl, t1, r1⟩ := tup_dv e1
          obtain ⟨a2, ws2, rfl, t2, r2⟩ := tup_dv e2
          cases r1 with
          | cons f1 r => cases r with
            | cons f2 r => cases r with
              | nil => cases r2 with
                | cons f3 r => cases r with
                  | cons f4 r => cases r with
                    | nil => exact un4_fin hp (same_t R.ext t1) (same_t R.ext t2) (q _ B1 _ (R.heap (same_upd hp)) s (.cons f1 (.cons f2 (.cons f3 (.cons f4 .nil)))))
end Kd


set_option Elab.async false
set_option linter.all false
set_option maxRecDepth 100000
set_option maxHeartbeats 8000000
namespace K00
open PySem PySem.Spec PyProof.Rows L2 Kd
/-- isinstance(ForeverError(1, "x"), ValueError) -/
inductive ShFE (sc : Scope) : List Expr → Expr → Prop
  | mk {p1 p2 p3 p4 p5 p6 p7 : Pos} {k1 k2 : Nat} (h1 : Pl sc "isinstance") (h2 : Pl sc "ForeverError") (h3 : Pl sc "ValueError") :
    ShFE sc [] (.Call (.Name "isinstance" p1) [.Call (.Name "ForeverError" p2) [.Constant (.int 1) k1 p3, .Constant (.str "x") k2 p4] [] p5, .Name "ValueError" p6] [] p7)
def shFE : Shp := { e := ShFE }
def yesD (ds : List PyData) : Option PyData := match ds with
  | [] => some (.bool true)
  | _ => none
abbrev s_law_errors_right : Stmt := top 23
def n_law_errors_right : List Str := ["pen", "some", "lap", "made", "told", "a", "b", "c", "move", "many", "text", "at", "error", "kinds", "spot"]
theorem sc_law_errors_right : FnScope n_law_errors_right ["pen"] (defScope s_law_errors_right) := ⟨rfl, rfl, rfl, by decide +kernel, rfl, by decide +kernel, by decide +kernel⟩
def g_law_errors_right : Gam := ⟨["isinstance", "range", "enumerate", "repr"], [], [⟨"TooMany", 2, [], [0, 1]⟩, ⟨"BadMove", 3, [], [0, 1, 2]⟩, ⟨"BadMove", 0, ["index", "state", "part"], [1, 0, 2]⟩, ⟨"TooMany", 0, ["most", "what"], [1, 0]⟩, ⟨"BadText", 0, ["word", "line"], [1, 0]⟩, ⟨"BadLine", 1, [], [0]⟩, ⟨"Nothing", 0, ["word"], [0]⟩, ⟨"NoName", 0, ["name"], [0]⟩, ⟨"Misfit", 1, [], [0]⟩, ⟨"BadBoard", 0, ["part"], [0]⟩, ⟨"BadNumber", 1, [], [0]⟩, ⟨"BadValue", 0, ["part"], [0]⟩], ["_law_pick"], [("what", ["TooMany"], []), ("part", ["BadValue", "BadNumber", "BadBoard", "BadMove", "Misfit"], []), ("word", ["Nothing", "BadText", "BadLine"], []), ("line", ["BadText"], []), ("most", ["TooMany"], []), ("index", ["BadMove"], []), ("state", ["BadMove"], []), ("name", ["NoName"], [])], [("ForeverError", [("BadValue", true), ("BadNumber", true), ("BadBoard", true), ("BadMove", true), ("Misfit", true), ("TooMany", true), ("NoName", true), ("Nothing", true), ("BadText", true), ("BadLine", true)], [], []), ("BadText", [("BadValue", false), ("BadNumber", false), ("BadBoard", false), ("BadMove", false), ("Misfit", false), ("TooMany", false), ("NoName", false), ("Nothing", false), ("BadText", true), ("BadLine", false)], [], []), ("TooMany", [("BadValue", false), ("BadNumber", false), ("BadBoard", false), ("BadMove", false), ("Misfit", false), ("TooMany", true), ("NoName", false), ("Nothing", false), ("BadText", false), ("BadLine", false)], [], []), ("BadMove", [("BadValue", false), ("BadNumber", false), ("BadBoard", false), ("BadMove", true), ("Misfit", false), ("TooMany", false), ("NoName", false), ("Nothing", false), ("BadText", false), ("BadLine", false)], [], []), ("BadLine", [("BadValue", false), ("BadNumber", false), ("BadBoard", false), ("BadMove", false), ("Misfit", false), ("TooMany", false), ("NoName", false), ("Nothing", false), ("BadText", false), ("BadLine", true)], [], []), ("Nothing", [("BadValue", false), ("BadNumber", false), ("BadBoard", false), ("BadMove", false), ("Misfit", false), ("TooMany", false), ("NoName", false), ("Nothing", true), ("BadText", false), ("BadLine", false)], [], []), ("NoName", [("BadValue", false), ("BadNumber", false), ("BadBoard", false), ("BadMove", false), ("Misfit", false), ("TooMany", false), ("NoName", true), ("Nothing", false), ("BadText", false), ("BadLine", false)], [], []), ("Misfit", [("BadValue", false), ("BadNumber", false), ("BadBoard", false), ("BadMove", false), ("Misfit", true), ("TooMany", false), ("NoName", false), ("Nothing", false), ("BadText", false), ("BadLine", false)], [], []), ("BadBoard", [("BadValue", false), ("BadNumber", false), ("BadBoard", true), ("BadMove", false), ("Misfit", false), ("TooMany", false), ("NoName", false), ("Nothing", false), ("BadText", false), ("BadLine", false)], [], []), ("BadNumber", [("BadValue", false), ("BadNumber", true), ("BadBoard", false), ("BadMove", false), ("Misfit", false), ("TooMany", false), ("NoName", false), ("Nothing", false), ("BadText", false), ("BadLine", false)], [], []), ("BadValue", [("BadValue", true), ("BadNumber", false), ("BadBoard", false), ("BadMove", false), ("Misfit", false), ("TooMany", false), ("NoName", false), ("Nothing", false), ("BadText", false), ("BadLine", false)], [], [])], [shFE]⟩
def c_law_errors_right : Sds := (.cons (.asg 1 (.lst (.cons (.cst .none) (.cons (.cst (.int (5))) (.cons (.cst (.str "cells")) (.cons (.lst (.cons (.cst (.int (1))) (.cons (.lst (.cons (.cst (.int (2))) .nil)) .nil))) (.cons (.dct1 "a" (.lst (.cons (.cst (.int (1))) .nil))) (.cons (.tup .nil) (.cons (.cst (.bool true)) (.cons (.bin .Pow (.cst (.int (10))) (.cst (.int (50)))) .nil))))))))))
    (.cons (.for_ 2 (.rng (.cst (.int (4)))) (.cons (.par3 5 6 7 (.pcall 0 0 (.cons (.var 1) .nil)) (.pcall 0 0 (.cons (.var 1) .nil)) (.pcall 0 0 (.cons (.var 1) .nil)))
    (.cons (.asg 3 (.lst (.cons (.call 11 (.cons (.var 5) .nil)) (.cons (.call 10 (.cons (.var 5) .nil)) (.cons (.call 9 (.cons (.var 5) .nil)) (.cons (.call 8 (.cons (.var 5) .nil)) (.cons (.call 7 (.cons (.var 5) .nil)) (.cons (.call 6 (.cons (.var 5) .nil)) (.cons (.call 5 (.cons (.var 5) .nil)) .nil)))))))))
    (.cons (.asg 4 (.lst (.cons (.attr (.sub (.var 3) (.cst (.int (0)))) "part" ["BadValue", "BadNumber", "BadBoard", "BadMove", "Misfit"] []) (.cons (.attr (.sub (.var 3) (.cst (.int (1)))) "part" ["BadValue", "BadNumber", "BadBoard", "BadMove", "Misfit"] []) (.cons (.attr (.sub (.var 3) (.cst (.int (2)))) "part" ["BadValue", "BadNumber", "BadBoard", "BadMove", "Misfit"] []) (.cons (.attr (.sub (.var 3) (.cst (.int (3)))) "part" ["BadValue", "BadNumber", "BadBoard", "BadMove", "Misfit"] []) (.cons (.attr (.sub (.var 3) (.cst (.int (4)))) "name" ["NoName"] []) (.cons (.attr (.sub (.var 3) (.cst (.int (5)))) "word" ["Nothing", "BadText", "BadLine"] []) (.cons (.attr (.sub (.var 3) (.cst (.int (6)))) "word" ["Nothing", "BadText", "BadLine"] []) .nil)))))))))
    (.cons (.ifs (.cmp .NotEq (.blt .repr (.var 4)) (.blt .repr (.rep (.lst (.cons (.var 5) .nil)) (.cst (.int (7)))))) (.cons (.ret (.cst (.bool false)))
    .nil) .nil)
    (.cons (.par3 8 9 10 (.call 2 (.cons (.var 6) (.cons (.var 5) (.cons (.var 7) .nil)))) (.call 3 (.cons (.var 6) (.cons (.var 5) .nil))) (.call 4 (.cons (.var 6) (.cons (.var 5) .nil))))
    (.cons (.ifs (.cmp .NotEq (.blt .repr (.lst (.cons (.attr (.var 8) "state" ["BadMove"] []) (.cons (.attr (.var 8) "index" ["BadMove"] []) (.cons (.attr (.var 8) "part" ["BadValue", "BadNumber", "BadBoard", "BadMove", "Misfit"] []) (.cons (.attr (.var 9) "what" ["TooMany"] []) (.cons (.attr (.var 9) "most" ["TooMany"] []) (.cons (.attr (.var 10) "line" ["BadText"] []) (.cons (.attr (.var 10) "word" ["Nothing", "BadText", "BadLine"] []) .nil))))))))) (.blt .repr (.lst (.cons (.var 5) (.cons (.var 6) (.cons (.var 7) (.cons (.var 5) (.cons (.var 6) (.cons (.var 5) (.cons (.var 6) .nil)))))))))) (.cons (.ret (.cst (.bool false)))
    .nil) .nil)
    (.cons (.forE 11 12 (.cat (.var 3) (.lst (.cons (.var 8) (.cons (.var 9) (.cons (.var 10) .nil))))) (.cons (.asg 13 (.lst (.cons (.isc (.var 12) [("BadValue", true), ("BadNumber", false), ("BadBoard", false), ("BadMove", false), ("Misfit", false), ("TooMany", false), ("NoName", false), ("Nothing", false), ("BadText", false), ("BadLine", false)] [] []) (.cons (.isc (.var 12) [("BadValue", false), ("BadNumber", true), ("BadBoard", false), ("BadMove", false), ("Misfit", false), ("TooMany", false), ("NoName", false), ("Nothing", false), ("BadText", false), ("BadLine", false)] [] []) (.cons (.isc (.var 12) [("BadValue", false), ("BadNumber", false), ("BadBoard", true), ("BadMove", false), ("Misfit", false), ("TooMany", false), ("NoName", false), ("Nothing", false), ("BadText", false), ("BadLine", false)] [] []) (.cons (.isc (.var 12) [("BadValue", false), ("BadNumber", false), ("BadBoard", false), ("BadMove", false), ("Misfit", true), ("TooMany", false), ("NoName", false), ("Nothing", false), ("BadText", false), ("BadLine", false)] [] []) (.cons (.isc (.var 12) [("BadValue", false), ("BadNumber", false), ("BadBoard", false), ("BadMove", false), ("Misfit", false), ("TooMany", false), ("NoName", true), ("Nothing", false), ("BadText", false), ("BadLine", false)] [] []) .nil)))))))
    (.cons (.asg 13 (.cat (.var 13) (.lst (.cons (.isc (.var 12) [("BadValue", false), ("BadNumber", false), ("BadBoard", false), ("BadMove", false), ("Misfit", false), ("TooMany", false), ("NoName", false), ("Nothing", true), ("BadText", false), ("BadLine", false)] [] []) (.cons (.isc (.var 12) [("BadValue", false), ("BadNumber", false), ("BadBoard", false), ("BadMove", false), ("Misfit", false), ("TooMany", false), ("NoName", false), ("Nothing", false), ("BadText", false), ("BadLine", true)] [] []) (.cons (.isc (.var 12) [("BadValue", false), ("BadNumber", false), ("BadBoard", false), ("BadMove", true), ("Misfit", false), ("TooMany", false), ("NoName", false), ("Nothing", false), ("BadText", false), ("BadLine", false)] [] []) (.cons (.isc (.var 12) [("BadValue", false), ("BadNumber", false), ("BadBoard", false), ("BadMove", false), ("Misfit", false), ("TooMany", true), ("NoName", false), ("Nothing", false), ("BadText", false), ("BadLine", false)] [] []) (.cons (.isc (.var 12) [("BadValue", false), ("BadNumber", false), ("BadBoard", false), ("BadMove", false), ("Misfit", false), ("TooMany", false), ("NoName", false), ("Nothing", false), ("BadText", true), ("BadLine", false)] [] []) .nil))))))))
    (.cons (.ifs (.or_ (.not_ (.isc (.var 12) [("BadValue", true), ("BadNumber", true), ("BadBoard", true), ("BadMove", true), ("Misfit", true), ("TooMany", true), ("NoName", true), ("Nothing", true), ("BadText", true), ("BadLine", true)] [] [])) (.cmp .NotEq (.var 13) (.comp (.cmp .Eq (.var 14) (.var 11)) 14 (.rng (.cst (.int (10))))))) (.cons (.ret (.cst (.bool false)))
    .nil) .nil)
    .nil))))
    .nil))))))))
    (.cons (.ret (.and_ (.op 0 .nil) (.cmp .Eq (.lst (.cons (.attr (.call 1 (.cons (.cst (.int (1))) (.cons (.cst (.int (2))) (.cons (.cst (.str "next")) .nil)))) "part" ["BadValue", "BadNumber", "BadBoard", "BadMove", "Misfit"] []) (.cons (.attr (.call 0 (.cons (.cst (.str "marks")) (.cons (.cst (.int (6))) .nil))) "what" ["TooMany"] []) .nil))) (.lst (.cons (.cst (.str "next")) (.cons (.cst (.str "marks")) .nil))))))
    .nil)))
theorem k_law_errors_right : CorSs g_law_errors_right n_law_errors_right (defScope s_law_errors_right) (defBody s_law_errors_right) c_law_errors_right := (.cons (.asg rfl (by first | exact .inl rfl | exact .inr rfl) (.lst (.cons .non (.cons .int (.cons .str (.cons (.lst (.cons .int (.cons (.lst (.cons .int .nil (fun _ => rfl))) .nil (fun _ => rfl)) (fun _ => rfl))) (.cons (.dct1 (.lst (.cons .int .nil (fun _ => rfl)))) (.cons (.tup .nil) (.cons .bl (.cons (.bin .int .int) .nil (fun _ => rfl)) (fun _ => rfl)) (fun _ => rfl)) (fun _ => rfl)) (fun _ => rfl)) (fun _ => rfl)) (fun _ => rfl)) (fun _ => rfl))) (fun _ => rfl))
    (.cons (.for_ rfl (by first | exact .inl rfl | exact .inr rfl) (.rng .int rfl (by decide +kernel) (fun _ => rfl)) (.cons (.par3 rfl rfl rfl (by decide) (by decide) (by decide) rfl rfl rfl (.pcall (i := 0) rfl rfl (.inl rfl) (.cons (.var rfl (by first | exact .inl rfl | exact .inr (.inl rfl) | exact .inr (.inr rfl)) rfl rfl) .nil (fun _ => rfl)) rfl rfl rfl rfl) (.pcall (i := 0) rfl rfl (.inl rfl) (.cons (.var rfl (by first | exact .inl rfl | exact .inr (.inl rfl) | exact .inr (.inr rfl)) rfl rfl) .nil (fun _ => rfl)) rfl rfl rfl rfl) (.pcall (i := 0) rfl rfl (.inl rfl) (.cons (.var rfl (by first | exact .inl rfl | exact .inr (.inl rfl) | exact .inr (.inr rfl)) rfl rfl) .nil (fun _ => rfl)) rfl rfl rfl rfl) (fun _ => rfl) (fun _ => rfl) (fun _ => rfl) (fun env h => by cases env; cases h; rfl) (fun _ => rfl))
    (.cons (.asg rfl (by first | exact .inl rfl | exact .inr rfl) (.lst (.cons (.callK (i := 11) rfl rfl (.cons (.var rfl (by first | exact .inl rfl | exact .inr (.inl rfl) | exact .inr (.inr rfl)) rfl rfl) .nil (fun _ => rfl)) rfl rfl rfl) (.cons (.call (i := 10) rfl (.cons (.var rfl (by first | exact .inl rfl | exact .inr (.inl rfl) | exact .inr (.inr rfl)) rfl rfl) .nil (fun _ => rfl)) rfl rfl rfl) (.cons (.callK (i := 9) rfl rfl (.cons (.var rfl (by first | exact .inl rfl | exact .inr (.inl rfl) | exact .inr (.inr rfl)) rfl rfl) .nil (fun _ => rfl)) rfl rfl rfl) (.cons (.call (i := 8) rfl (.cons (.var rfl (by first | exact .inl rfl | exact .inr (.inl rfl) | exact .inr (.inr rfl)) rfl rfl) .nil (fun _ => rfl)) rfl rfl rfl) (.cons (.callK (i := 7) rfl rfl (.cons (.var rfl (by first | exact .inl rfl | exact .inr (.inl rfl) | exact .inr (.inr rfl)) rfl rfl) .nil (fun _ => rfl)) rfl rfl rfl) (.cons (.callK (i := 6) rfl rfl (.cons (.var rfl (by first | exact .inl rfl | exact .inr (.inl rfl) | exact .inr (.inr rfl)) rfl rfl) .nil (fun _ => rfl)) rfl rfl rfl) (.cons (.call (i := 5) rfl (.cons (.var rfl (by first | exact .inl rfl | exact .inr (.inl rfl) | exact .inr (.inr rfl)) rfl rfl) .nil (fun _ => rfl)) rfl rfl rfl) .nil (fun _ => rfl)) (fun _ => rfl)) (fun _ => rfl)) (fun _ => rfl)) (fun _ => rfl)) (fun _ => rfl)) (fun _ => rfl))) (fun _ => rfl))
    (.cons (.asg rfl (by first | exact .inl rfl | exact .inr rfl) (.lst (.cons (.attr (.sub (.var rfl (by first | exact .inl rfl | exact .inr (.inl rfl) | exact .inr (.inr rfl)) rfl rfl) .int (fun _ _ => rfl)) (by decide +kernel) (fun _ => rfl)) (.cons (.attr (.sub (.var rfl (by first | exact .inl rfl | exact .inr (.inl rfl) | exact .inr (.inr rfl)) rfl rfl) .int (fun _ _ => rfl)) (by decide +kernel) (fun _ => rfl)) (.cons (.attr (.sub (.var rfl (by first | exact .inl rfl | exact .inr (.inl rfl) | exact .inr (.inr rfl)) rfl rfl) .int (fun _ _ => rfl)) (by decide +kernel) (fun _ => rfl)) (.cons (.attr (.sub (.var rfl (by first | exact .inl rfl | exact .inr (.inl rfl) | exact .inr (.inr rfl)) rfl rfl) .int (fun _ _ => rfl)) (by decide +kernel) (fun _ => rfl)) (.cons (.attr (.sub (.var rfl (by first | exact .inl rfl | exact .inr (.inl rfl) | exact .inr (.inr rfl)) rfl rfl) .int (fun _ _ => rfl)) (by decide +kernel) (fun _ => rfl)) (.cons (.attr (.sub (.var rfl (by first | exact .inl rfl | exact .inr (.inl rfl) | exact .inr (.inr rfl)) rfl rfl) .int (fun _ _ => rfl)) (by decide +kernel) (fun _ => rfl)) (.cons (.attr (.sub (.var rfl (by first | exact .inl rfl | exact .inr (.inl rfl) | exact .inr (.inr rfl)) rfl rfl) .int (fun _ _ => rfl)) (by decide +kernel) (fun _ => rfl)) .nil (fun _ => rfl)) (fun _ => rfl)) (fun _ => rfl)) (fun _ => rfl)) (fun _ => rfl)) (fun _ => rfl)) (fun _ => rfl))) (fun _ => rfl))
    (.cons (.ifs (.cmp (.bltF rfl (.var rfl (by first | exact .inl rfl | exact .inr (.inl rfl) | exact .inr (.inr rfl)) rfl rfl) rfl (by decide +kernel) (by decide +kernel) (by decide +kernel) rfl (fun _ => rfl)) (.bltF rfl (.rep (.lst (.cons (.var rfl (by first | exact .inl rfl | exact .inr (.inl rfl) | exact .inr (.inr rfl)) rfl rfl) .nil (fun _ => rfl))) .int) rfl (by decide +kernel) (by decide +kernel) (by decide +kernel) rfl (fun _ => rfl)) (nomark _)) (.cons (.ret .bl)
    .nil) .nil)
    (.cons (.par3 rfl rfl rfl (by decide) (by decide) (by decide) rfl rfl rfl (.callK (i := 2) rfl rfl (.cons (.var rfl (by first | exact .inl rfl | exact .inr (.inl rfl) | exact .inr (.inr rfl)) rfl rfl) (.cons (.var rfl (by first | exact .inl rfl | exact .inr (.inl rfl) | exact .inr (.inr rfl)) rfl rfl) (.cons (.var rfl (by first | exact .inl rfl | exact .inr (.inl rfl) | exact .inr (.inr rfl)) rfl rfl) .nil (fun _ => rfl)) (fun _ => rfl)) (fun _ => rfl)) rfl rfl rfl) (.callK (i := 3) rfl rfl (.cons (.var rfl (by first | exact .inl rfl | exact .inr (.inl rfl) | exact .inr (.inr rfl)) rfl rfl) (.cons (.var rfl (by first | exact .inl rfl | exact .inr (.inl rfl) | exact .inr (.inr rfl)) rfl rfl) .nil (fun _ => rfl)) (fun _ => rfl)) rfl rfl rfl) (.callK (i := 4) rfl rfl (.cons (.var rfl (by first | exact .inl rfl | exact .inr (.inl rfl) | exact .inr (.inr rfl)) rfl rfl) (.cons (.var rfl (by first | exact .inl rfl | exact .inr (.inl rfl) | exact .inr (.inr rfl)) rfl rfl) .nil (fun _ => rfl)) (fun _ => rfl)) rfl rfl rfl) (fun _ => rfl) (fun _ => rfl) (fun _ => rfl) (fun env h => by cases env; cases h; rfl) (fun _ => rfl))
    (.cons (.ifs (.cmp (.bltF rfl (.lst (.cons (.attr (.var rfl (by first | exact .inl rfl | exact .inr (.inl rfl) | exact .inr (.inr rfl)) rfl rfl) (by decide +kernel) (fun _ => rfl)) (.cons (.attr (.var rfl (by first | exact .inl rfl | exact .inr (.inl rfl) | exact .inr (.inr rfl)) rfl rfl) (by decide +kernel) (fun _ => rfl)) (.cons (.attr (.var rfl (by first | exact .inl rfl | exact .inr (.inl rfl) | exact .inr (.inr rfl)) rfl rfl) (by decide +kernel) (fun _ => rfl)) (.cons (.attr (.var rfl (by first | exact .inl rfl | exact .inr (.inl rfl) | exact .inr (.inr rfl)) rfl rfl) (by decide +kernel) (fun _ => rfl)) (.cons (.attr (.var rfl (by first | exact .inl rfl | exact .inr (.inl rfl) | exact .inr (.inr rfl)) rfl rfl) (by decide +kernel) (fun _ => rfl)) (.cons (.attr (.var rfl (by first | exact .inl rfl | exact .inr (.inl rfl) | exact .inr (.inr rfl)) rfl rfl) (by decide +kernel) (fun _ => rfl)) (.cons (.attr (.var rfl (by first | exact .inl rfl | exact .inr (.inl rfl) | exact .inr (.inr rfl)) rfl rfl) (by decide +kernel) (fun _ => rfl)) .nil (fun _ => rfl)) (fun _ => rfl)) (fun _ => rfl)) (fun _ => rfl)) (fun _ => rfl)) (fun _ => rfl)) (fun _ => rfl))) rfl (by decide +kernel) (by decide +kernel) (by decide +kernel) rfl (fun _ => rfl)) (.bltF rfl (.lst (.cons (.var rfl (by first | exact .inl rfl | exact .inr (.inl rfl) | exact .inr (.inr rfl)) rfl rfl) (.cons (.var rfl (by first | exact .inl rfl | exact .inr (.inl rfl) | exact .inr (.inr rfl)) rfl rfl) (.cons (.var rfl (by first | exact .inl rfl | exact .inr (.inl rfl) | exact .inr (.inr rfl)) rfl rfl) (.cons (.var rfl (by first | exact .inl rfl | exact .inr (.inl rfl) | exact .inr (.inr rfl)) rfl rfl) (.cons (.var rfl (by first | exact .inl rfl | exact .inr (.inl rfl) | exact .inr (.inr rfl)) rfl rfl) (.cons (.var rfl (by first | exact .inl rfl | exact .inr (.inl rfl) | exact .inr (.inr rfl)) rfl rfl) (.cons (.var rfl (by first | exact .inl rfl | exact .inr (.inl rfl) | exact .inr (.inr rfl)) rfl rfl) .nil (fun _ => rfl)) (fun _ => rfl)) (fun _ => rfl)) (fun _ => rfl)) (fun _ => rfl)) (fun _ => rfl)) (fun _ => rfl))) rfl (by decide +kernel) (by decide +kernel) (by decide +kernel) rfl (fun _ => rfl)) (nomark _)) (.cons (.ret .bl)
    .nil) .nil)
    (.cons (.forE rfl rfl (by first | exact .inl rfl | exact .inr rfl) (by first | exact .inl rfl | exact .inr rfl) rfl (by decide +kernel) (.cat (.var rfl (by first | exact .inl rfl | exact .inr (.inl rfl) | exact .inr (.inr rfl)) rfl rfl) (.lst (.cons (.var rfl (by first | exact .inl rfl | exact .inr (.inl rfl) | exact .inr (.inr rfl)) rfl rfl) (.cons (.var rfl (by first | exact .inl rfl | exact .inr (.inl rfl) | exact .inr (.inr rfl)) rfl rfl) (.cons (.var rfl (by first | exact .inl rfl | exact .inr (.inl rfl) | exact .inr (.inr rfl)) rfl rfl) .nil (fun _ => rfl)) (fun _ => rfl)) (fun _ => rfl)))) (.cons (.asg rfl (by first | exact .inl rfl | exact .inr rfl) (.lst (.cons (.isc (.var rfl (by first | exact .inl rfl | exact .inr (.inl rfl) | exact .inr (.inr rfl)) rfl rfl) rfl (by decide +kernel) rfl rfl (by decide +kernel) (fun _ => rfl)) (.cons (.isc (.var rfl (by first | exact .inl rfl | exact .inr (.inl rfl) | exact .inr (.inr rfl)) rfl rfl) rfl (by decide +kernel) rfl rfl (by decide +kernel) (fun _ => rfl)) (.cons (.isc (.var rfl (by first | exact .inl rfl | exact .inr (.inl rfl) | exact .inr (.inr rfl)) rfl rfl) rfl (by decide +kernel) rfl rfl (by decide +kernel) (fun _ => rfl)) (.cons (.isc (.var rfl (by first | exact .inl rfl | exact .inr (.inl rfl) | exact .inr (.inr rfl)) rfl rfl) rfl (by decide +kernel) rfl rfl (by decide +kernel) (fun _ => rfl)) (.cons (.isc (.var rfl (by first | exact .inl rfl | exact .inr (.inl rfl) | exact .inr (.inr rfl)) rfl rfl) rfl (by decide +kernel) rfl rfl (by decide +kernel) (fun _ => rfl)) .nil (fun _ => rfl)) (fun _ => rfl)) (fun _ => rfl)) (fun _ => rfl)) (fun _ => rfl))) (fun _ => rfl))
    (.cons (.asg rfl (by first | exact .inl rfl | exact .inr rfl) (.cat (.var rfl (by first | exact .inl rfl | exact .inr (.inl rfl) | exact .inr (.inr rfl)) rfl rfl) (.lst (.cons (.isc (.var rfl (by first | exact .inl rfl | exact .inr (.inl rfl) | exact .inr (.inr rfl)) rfl rfl) rfl (by decide +kernel) rfl rfl (by decide +kernel) (fun _ => rfl)) (.cons (.isc (.var rfl (by first | exact .inl rfl | exact .inr (.inl rfl) | exact .inr (.inr rfl)) rfl rfl) rfl (by decide +kernel) rfl rfl (by decide +kernel) (fun _ => rfl)) (.cons (.isc (.var rfl (by first | exact .inl rfl | exact .inr (.inl rfl) | exact .inr (.inr rfl)) rfl rfl) rfl (by decide +kernel) rfl rfl (by decide +kernel) (fun _ => rfl)) (.cons (.isc (.var rfl (by first | exact .inl rfl | exact .inr (.inl rfl) | exact .inr (.inr rfl)) rfl rfl) rfl (by decide +kernel) rfl rfl (by decide +kernel) (fun _ => rfl)) (.cons (.isc (.var rfl (by first | exact .inl rfl | exact .inr (.inl rfl) | exact .inr (.inr rfl)) rfl rfl) rfl (by decide +kernel) rfl rfl (by decide +kernel) (fun _ => rfl)) .nil (fun _ => rfl)) (fun _ => rfl)) (fun _ => rfl)) (fun _ => rfl)) (fun _ => rfl)))) (fun _ => rfl))
    (.cons (.ifs (.bool (.or_ (.not_ (.val (.isc (.var rfl (by first | exact .inl rfl | exact .inr (.inl rfl) | exact .inr (.inr rfl)) rfl rfl) rfl (by decide +kernel) rfl rfl (by decide +kernel) (fun _ => rfl)) (fun _ _ => rfl))) (.one (.cmp (.var rfl (by first | exact .inl rfl | exact .inr (.inl rfl) | exact .inr (.inr rfl)) rfl rfl) (.comp (.rng .int rfl (by decide +kernel) (fun _ => rfl)) (blkOk_by (by decide +kernel)) rfl rfl (.cmp (.var rfl (by first | exact .inl rfl | exact .inr (.inl rfl) | exact .inr (.inr rfl)) rfl rfl) (.var rfl (by first | exact .inl rfl | exact .inr (.inl rfl) | exact .inr (.inr rfl)) rfl rfl) (nomark _)) (fun _ _ => rfl)) (nomark _))))) (.cons (.ret .bl)
    .nil) .nil)
    .nil))) (fun _ => rfl) (fun _ _ => rfl))
    .nil))))))) (fun _ _ => rfl))
    (.cons (.ret (.and_ (.op (i := 0) (Sh := shFE) rfl (by exact .mk rfl rfl rfl) .nil) (.one (.cmp (.lst (.cons (.attr (.call (i := 1) rfl (.cons .int (.cons .int (.cons .str .nil (fun _ => rfl)) (fun _ => rfl)) (fun _ => rfl)) rfl rfl rfl) (by decide +kernel) (fun _ => rfl)) (.cons (.attr (.call (i := 0) rfl (.cons .str (.cons .int .nil (fun _ => rfl)) (fun _ => rfl)) rfl rfl rfl) (by decide +kernel) (fun _ => rfl)) .nil (fun _ => rfl)) (fun _ => rfl))) (.lst (.cons .str (.cons .str .nil (fun _ => rfl)) (fun _ => rfl))) (nomark _)))))
    .nil)))
abbrev s_law_papers_right : Stmt := top 24
def n_law_papers_right : List Str := ["pen", "deep", "told", "lap", "some", "paper", "denial", "kept", "beaten", "one", "due", "other", "its", "passed", "held"]
theorem sc_law_papers_right : FnScope n_law_papers_right ["pen"] (defScope s_law_papers_right) := ⟨rfl, rfl, rfl, by decide +kernel, rfl, by decide +kernel, by decide +kernel⟩
def g_law_papers_right : Gam := ⟨["range", "repr", "isinstance"], [], [⟨"Kept", 2, [], [0, 1]⟩, ⟨"Paper", 3, [], [0, 1, 2]⟩, ⟨"Kept", 0, ["ranks", "machine"], [1, 0]⟩, ⟨"Beaten", 2, [], [0, 1]⟩, ⟨"fixed", 0, ["value"], [0]⟩, ⟨"fixed", 1, [], [0]⟩, ⟨"Denial", 3, [], [0, 1, 2]⟩], ["_law_pick"], [("ranks", [], ["Kept", "Beaten"]), ("word", [], ["Paper", "Denial", "Kept", "Beaten"]), ("parts", [], ["Paper", "Denial", "Kept", "Beaten"]), ("machine", [], ["Kept", "Beaten"])], [("Denial", [], [("Paper", false), ("Denial", true), ("Kept", false), ("Beaten", true)], []), ("Paper", [], [("Paper", true), ("Denial", true), ("Kept", true), ("Beaten", true)], [])], [shCmp .Eq, shTru, shCmp .NotEq, shU]⟩
def c_law_papers_right : Sds := (.cons (.par 1 2 (.lst (.cons (.cst (.int (1))) .nil)) (.tup (.cons (.cst (.int (1))) .nil)))
    (.cons (.for_ 3 (.rng (.cst (.int (10)))) (.cons (.par 1 2 (.lst (.cons (.var 1) (.cons (.var 3) .nil))) (.tup (.cons (.var 2) (.cons (.var 3) .nil))))
    .nil))
    (.cons (.asg 4 (.lst (.cons (.tup (.cons (.cst .none) (.cons (.cst .none) .nil))) (.cons (.tup (.cons (.var 1) (.cons (.var 2) .nil))) (.cons (.tup (.cons (.cst (.int (5))) (.cons (.cst (.int (5))) .nil))) (.cons (.tup (.cons (.lst (.cons (.cst (.int (1))) (.cons (.lst (.cons (.cst (.int (2))) (.cons (.tup .nil) .nil))) .nil))) (.cons (.tup (.cons (.cst (.int (1))) (.cons (.tup (.cons (.cst (.int (2))) (.cons (.tup .nil) .nil))) .nil))) .nil))) (.cons (.tup (.cons (.lst .nil) (.cons (.tup .nil) .nil))) (.cons (.tup (.cons (.cst (.str "kept")) (.cons (.cst (.str "kept")) .nil))) (.cons (.tup (.cons (.tup (.cons (.cst (.int (1))) (.cons (.lst (.cons (.cst (.int (3))) .nil)) .nil))) (.cons (.tup (.cons (.cst (.int (1))) (.cons (.tup (.cons (.cst (.int (3))) .nil)) .nil))) .nil))) (.cons (.tup (.cons (.lst (.cons (.dct1 "a" (.lst (.cons (.cst (.int (1))) .nil))) .nil)) (.cons (.tup (.cons (.dct1 "a" (.lst (.cons (.cst (.int (1))) .nil))) .nil)) .nil))) .nil))))))))))
    (.cons (.for_ 3 (.rng (.cst (.int (4)))) (.cons (.op 3 (.cons (.pcall 0 0 (.cons (.var 4) .nil)) (.cons (.pcall 0 0 (.cons (.var 4) .nil)) .nil)) [9, 10, 11, 12])
    (.cons (.par 5 6 (.call 1 (.cons (.cst (.str "word")) (.cons (.var 9) (.cons (.var 11) .nil)))) (.call 6 (.cons (.cst (.str "word")) (.cons (.var 9) (.cons (.var 11) .nil)))))
    (.cons (.ifs (.cmp .NotEq (.blt .repr (.lst (.cons (.attr (.var 5) "word" [] ["Paper", "Denial", "Kept", "Beaten"]) (.cons (.attr (.var 5) "parts" [] ["Paper", "Denial", "Kept", "Beaten"]) (.cons (.attr (.var 6) "parts" [] ["Paper", "Denial", "Kept", "Beaten"]) (.cons (.call 5 (.cons (.var 9) .nil)) (.cons (.call 4 (.cons (.var 11) .nil)) .nil))))))) (.blt .repr (.lst (.cons (.cst (.str "word")) (.cons (.tup (.cons (.var 10) (.cons (.var 12) .nil))) (.cons (.tup (.cons (.var 10) (.cons (.var 12) .nil))) (.cons (.var 10) (.cons (.var 12) .nil)))))))) (.cons (.ret (.cst (.bool false)))
    .nil) .nil)
    (.cons (.ifs (.or_ (.not_ (.op 1 (.cons (.var 5) .nil))) (.or_ (.op 1 (.cons (.var 6) .nil)) (.or_ (.op 0 (.cons (.var 5) (.cons (.var 6) .nil))) (.or_ (.op 2 (.cons (.var 5) (.cons (.call 1 (.cons (.cst (.str "word")) (.cons (.var 10) (.cons (.var 12) .nil)))) .nil))) (.or_ (.op 0 (.cons (.var 5) (.cons (.call 1 (.cons (.cst (.str "words")) (.cons (.var 10) (.cons (.var 12) .nil)))) .nil))) (.op 0 (.cons (.var 5) (.cons (.tup (.cons (.var 10) (.cons (.var 12) .nil))) .nil)))))))) (.cons (.ret (.cst (.bool false)))
    .nil) .nil)
    (.cons (.par 7 8 (.call 2 (.cons (.var 11) (.cons (.var 9) .nil))) (.call 3 (.cons (.var 9) (.cons (.var 11) .nil))))
    (.cons (.ifs (.cmp .NotEq (.blt .repr (.lst (.cons (.attr (.var 7) "machine" [] ["Kept", "Beaten"]) (.cons (.attr (.var 7) "ranks" [] ["Kept", "Beaten"]) (.cons (.attr (.var 7) "parts" [] ["Paper", "Denial", "Kept", "Beaten"]) (.cons (.attr (.var 7) "word" [] ["Paper", "Denial", "Kept", "Beaten"]) (.cons (.attr (.var 8) "word" [] ["Paper", "Denial", "Kept", "Beaten"]) (.cons (.attr (.var 8) "ranks" [] ["Kept", "Beaten"]) .nil)))))))) (.blt .repr (.lst (.cons (.var 10) (.cons (.var 12) (.cons (.tup (.cons (.var 10) (.cons (.var 12) .nil))) (.cons (.cst (.str "kept")) (.cons (.cst (.str "beaten")) (.cons (.var 12) .nil))))))))) (.cons (.ret (.cst (.bool false)))
    .nil) .nil)
    (.cons (.ifs (.or_ (.not_ (.op 1 (.cons (.var 7) .nil))) (.or_ (.op 1 (.cons (.var 8) .nil)) (.or_ (.op 0 (.cons (.var 7) (.cons (.var 8) .nil))) (.or_ (.op 2 (.cons (.var 7) (.cons (.call 0 (.cons (.var 10) (.cons (.var 12) .nil))) .nil))) (.or_ (.not_ (.isc (.var 8) [] [("Paper", false), ("Denial", true), ("Kept", false), ("Beaten", true)] [])) (.or_ (.isc (.var 7) [] [("Paper", false), ("Denial", true), ("Kept", false), ("Beaten", true)] []) (.not_ (.isc (.var 8) [] [("Paper", true), ("Denial", true), ("Kept", true), ("Beaten", true)] [])))))))) (.cons (.ret (.cst (.bool false)))
    .nil) .nil)
    (.cons (.ifs (.or_ (.and_ (.cmp .NotEq (.blt .repr (.var 10)) (.blt .repr (.var 12))) (.op 0 (.cons (.call 0 (.cons (.var 10) (.cons (.cst (.int (1))) .nil))) (.cons (.call 0 (.cons (.var 12) (.cons (.cst (.int (1))) .nil))) .nil)))) (.op 0 (.cons (.var 7) (.cons (.call 1 (.cons (.cst (.str "kept")) (.cons (.var 10) (.cons (.var 12) .nil)))) .nil)))) (.cons (.ret (.cst (.bool false)))
    .nil) .nil)
    .nil)))))))))
    .nil))))
theorem k_law_papers_right : CorSs g_law_papers_right n_law_papers_right (defScope s_law_papers_right) ((defBody s_law_papers_right).take 4) c_law_papers_right := (.cons (.par rfl rfl (by decide) rfl rfl (.lst (.cons .int .nil (fun _ => rfl))) (.tup (.cons .int .nil (fun _ => rfl))) (fun _ => rfl) (fun _ => rfl) (fun env h => by cases env; cases h; rfl) (fun _ => rfl))
    (.cons (.for_ rfl (.inl rfl) (.rng .int rfl (by decide +kernel) (fun _ => rfl)) (.cons (.par rfl rfl (by decide) rfl rfl (.lst (.cons (.var rfl (.inl rfl) rfl rfl) (.cons (.var rfl (.inl rfl) rfl rfl) .nil (fun _ => rfl)) (fun _ => rfl))) (.tup (.cons (.var rfl (.inl rfl) rfl rfl) (.cons (.var rfl (.inl rfl) rfl rfl) .nil (fun _ => rfl)) (fun _ => rfl))) (fun _ => rfl) (fun _ => rfl) (fun env h => by cases env; cases h; rfl) (fun _ => rfl))
    .nil) (fun _ _ => rfl))
    (.cons (.asg rfl (.inl rfl) (.lst (.cons (.tup (.cons .non (.cons .non .nil (fun _ => rfl)) (fun _ => rfl))) (.cons (.tup (.cons (.var rfl (.inl rfl) rfl rfl) (.cons (.var rfl (.inl rfl) rfl rfl) .nil (fun _ => rfl)) (fun _ => rfl))) (.cons (.tup (.cons .int (.cons .int .nil (fun _ => rfl)) (fun _ => rfl))) (.cons (.tup (.cons (.lst (.cons .int (.cons (.lst (.cons .int (.cons (.tup .nil) .nil (fun _ => rfl)) (fun _ => rfl))) .nil (fun _ => rfl)) (fun _ => rfl))) (.cons (.tup (.cons .int (.cons (.tup (.cons .int (.cons (.tup .nil) .nil (fun _ => rfl)) (fun _ => rfl))) .nil (fun _ => rfl)) (fun _ => rfl))) .nil (fun _ => rfl)) (fun _ => rfl))) (.cons (.tup (.cons (.lst .nil) (.cons (.tup .nil) .nil (fun _ => rfl)) (fun _ => rfl))) (.cons (.tup (.cons .str (.cons .str .nil (fun _ => rfl)) (fun _ => rfl))) (.cons (.tup (.cons (.tup (.cons .int (.cons (.lst (.cons .int .nil (fun _ => rfl))) .nil (fun _ => rfl)) (fun _ => rfl))) (.cons (.tup (.cons .int (.cons (.tup (.cons .int .nil (fun _ => rfl))) .nil (fun _ => rfl)) (fun _ => rfl))) .nil (fun _ => rfl)) (fun _ => rfl))) (.cons (.tup (.cons (.lst (.cons (.dct1 (.lst (.cons .int .nil (fun _ => rfl)))) .nil (fun _ => rfl))) (.cons (.tup (.cons (.dct1 (.lst (.cons .int .nil (fun _ => rfl)))) .nil (fun _ => rfl))) .nil (fun _ => rfl)) (fun _ => rfl))) .nil (fun _ => rfl)) (fun _ => rfl)) (fun _ => rfl)) (fun _ => rfl)) (fun _ => rfl)) (fun _ => rfl)) (fun _ => rfl)) (fun _ => rfl))) (fun _ => rfl))
    (.cons (.for_ rfl (.inl rfl) (.rng .int rfl (by decide +kernel) (fun _ => rfl)) (.cons (.op (i := 3) (Sh := shU) rfl (.mk rfl rfl rfl rfl (.inl rfl) (.inl rfl) (.inl rfl) (.inl rfl) (fun _ => rfl) (fun _ => rfl) (fun _ => rfl) (fun env h => by cases env; cases h; rfl)) (.cons (.pcall (i := 0) rfl rfl (.inl rfl) (.cons (.var rfl (.inl rfl) rfl rfl) .nil (fun _ => rfl)) rfl rfl rfl rfl) (.cons (.pcall (i := 0) rfl rfl (.inl rfl) (.cons (.var rfl (.inl rfl) rfl rfl) .nil (fun _ => rfl)) rfl rfl rfl rfl) .nil (fun _ => rfl)) (fun _ => rfl)))
    (.cons (.par rfl rfl (by decide) rfl rfl (.call (i := 1) rfl (.cons .str (.cons (.var rfl (.inl rfl) rfl rfl) (.cons (.var rfl (.inl rfl) rfl rfl) .nil (fun _ => rfl)) (fun _ => rfl)) (fun _ => rfl)) rfl rfl rfl) (.call (i := 6) rfl (.cons .str (.cons (.var rfl (.inl rfl) rfl rfl) (.cons (.var rfl (.inl rfl) rfl rfl) .nil (fun _ => rfl)) (fun _ => rfl)) (fun _ => rfl)) rfl rfl rfl) (fun _ => rfl) (fun _ => rfl) (fun env h => by cases env; cases h; rfl) (fun _ => rfl))
    (.cons (.ifs (.cmp (.bltF rfl (.lst (.cons (.attr (.var rfl (.inl rfl) rfl rfl) (by decide +kernel) (fun _ => rfl)) (.cons (.attr (.var rfl (.inl rfl) rfl rfl) (by decide +kernel) (fun _ => rfl)) (.cons (.attr (.var rfl (.inl rfl) rfl rfl) (by decide +kernel) (fun _ => rfl)) (.cons (.call (i := 5) rfl (.cons (.var rfl (.inl rfl) rfl rfl) .nil (fun _ => rfl)) rfl rfl rfl) (.cons (.callK (i := 4) rfl rfl (.cons (.var rfl (.inl rfl) rfl rfl) .nil (fun _ => rfl)) rfl rfl rfl) .nil (fun _ => rfl)) (fun _ => rfl)) (fun _ => rfl)) (fun _ => rfl)) (fun _ => rfl))) rfl (by decide +kernel) (by decide +kernel) (by decide +kernel) rfl (fun _ => rfl)) (.bltF rfl (.lst (.cons .str (.cons (.tup (.cons (.var rfl (.inl rfl) rfl rfl) (.cons (.var rfl (.inl rfl) rfl rfl) .nil (fun _ => rfl)) (fun _ => rfl))) (.cons (.tup (.cons (.var rfl (.inl rfl) rfl rfl) (.cons (.var rfl (.inl rfl) rfl rfl) .nil (fun _ => rfl)) (fun _ => rfl))) (.cons (.var rfl (.inl rfl) rfl rfl) (.cons (.var rfl (.inl rfl) rfl rfl) .nil (fun _ => rfl)) (fun _ => rfl)) (fun _ => rfl)) (fun _ => rfl)) (fun _ => rfl))) rfl (by decide +kernel) (by decide +kernel) (by decide +kernel) rfl (fun _ => rfl)) (nomark _)) (.cons (.ret .bl)
    .nil) .nil)
    (.cons (.ifs (.bool (.or_ (.not_ (.op (i := 1) (Sh := shTru) rfl ⟨rfl, fun _ _ => rfl⟩ (.cons (.var rfl (.inl rfl) rfl rfl) .nil (fun _ => rfl)))) (.or_ (.op (i := 1) (Sh := shTru) rfl ⟨rfl, fun _ _ => rfl⟩ (.cons (.var rfl (.inl rfl) rfl rfl) .nil (fun _ => rfl))) (.or_ (.op (i := 0) (Sh := shCmp .Eq) rfl ⟨_, _, _, rfl, rfl⟩ (.cons (.var rfl (.inl rfl) rfl rfl) (.cons (.var rfl (.inl rfl) rfl rfl) .nil (fun _ => rfl)) (fun _ => rfl))) (.or_ (.op (i := 2) (Sh := shCmp .NotEq) rfl ⟨_, _, _, rfl, rfl⟩ (.cons (.var rfl (.inl rfl) rfl rfl) (.cons (.call (i := 1) rfl (.cons .str (.cons (.var rfl (.inl rfl) rfl rfl) (.cons (.var rfl (.inl rfl) rfl rfl) .nil (fun _ => rfl)) (fun _ => rfl)) (fun _ => rfl)) rfl rfl rfl) .nil (fun _ => rfl)) (fun _ => rfl))) (.or_ (.op (i := 0) (Sh := shCmp .Eq) rfl ⟨_, _, _, rfl, rfl⟩ (.cons (.var rfl (.inl rfl) rfl rfl) (.cons (.call (i := 1) rfl (.cons .str (.cons (.var rfl (.inl rfl) rfl rfl) (.cons (.var rfl (.inl rfl) rfl rfl) .nil (fun _ => rfl)) (fun _ => rfl)) (fun _ => rfl)) rfl rfl rfl) .nil (fun _ => rfl)) (fun _ => rfl))) (.one (.op (i := 0) (Sh := shCmp .Eq) rfl ⟨_, _, _, rfl, rfl⟩ (.cons (.var rfl (.inl rfl) rfl rfl) (.cons (.tup (.cons (.var rfl (.inl rfl) rfl rfl) (.cons (.var rfl (.inl rfl) rfl rfl) .nil (fun _ => rfl)) (fun _ => rfl))) .nil (fun _ => rfl)) (fun _ => rfl)))))))))) (.cons (.ret .bl)
    .nil) .nil)
    (.cons (.par rfl rfl (by decide) rfl rfl (.callK (i := 2) rfl rfl (.cons (.var rfl (.inl rfl) rfl rfl) (.cons (.var rfl (.inl rfl) rfl rfl) .nil (fun _ => rfl)) (fun _ => rfl)) rfl rfl rfl) (.call (i := 3) rfl (.cons (.var rfl (.inl rfl) rfl rfl) (.cons (.var rfl (.inl rfl) rfl rfl) .nil (fun _ => rfl)) (fun _ => rfl)) rfl rfl rfl) (fun _ => rfl) (fun _ => rfl) (fun env h => by cases env; cases h; rfl) (fun _ => rfl))
    (.cons (.ifs (.cmp (.bltF rfl (.lst (.cons (.attr (.var rfl (.inl rfl) rfl rfl) (by decide +kernel) (fun _ => rfl)) (.cons (.attr (.var rfl (.inl rfl) rfl rfl) (by decide +kernel) (fun _ => rfl)) (.cons (.attr (.var rfl (.inl rfl) rfl rfl) (by decide +kernel) (fun _ => rfl)) (.cons (.attr (.var rfl (.inl rfl) rfl rfl) (by decide +kernel) (fun _ => rfl)) (.cons (.attr (.var rfl (.inl rfl) rfl rfl) (by decide +kernel) (fun _ => rfl)) (.cons (.attr (.var rfl (.inl rfl) rfl rfl) (by decide +kernel) (fun _ => rfl)) .nil (fun _ => rfl)) (fun _ => rfl)) (fun _ => rfl)) (fun _ => rfl)) (fun _ => rfl)) (fun _ => rfl))) rfl (by decide +kernel) (by decide +kernel) (by decide +kernel) rfl (fun _ => rfl)) (.bltF rfl (.lst (.cons (.var rfl (.inl rfl) rfl rfl) (.cons (.var rfl (.inl rfl) rfl rfl) (.cons (.tup (.cons (.var rfl (.inl rfl) rfl rfl) (.cons (.var rfl (.inl rfl) rfl rfl) .nil (fun _ => rfl)) (fun _ => rfl))) (.cons .str (.cons .str (.cons (.var rfl (.inl rfl) rfl rfl) .nil (fun _ => rfl)) (fun _ => rfl)) (fun _ => rfl)) (fun _ => rfl)) (fun _ => rfl)) (fun _ => rfl))) rfl (by decide +kernel) (by decide +kernel) (by decide +kernel) rfl (fun _ => rfl)) (nomark _)) (.cons (.ret .bl)
    .nil) .nil)
    (.cons (.ifs (.bool (.or_ (.not_ (.op (i := 1) (Sh := shTru) rfl ⟨rfl, fun _ _ => rfl⟩ (.cons (.var rfl (.inl rfl) rfl rfl) .nil (fun _ => rfl)))) (.or_ (.op (i := 1) (Sh := shTru) rfl ⟨rfl, fun _ _ => rfl⟩ (.cons (.var rfl (.inl rfl) rfl rfl) .nil (fun _ => rfl))) (.or_ (.op (i := 0) (Sh := shCmp .Eq) rfl ⟨_, _, _, rfl, rfl⟩ (.cons (.var rfl (.inl rfl) rfl rfl) (.cons (.var rfl (.inl rfl) rfl rfl) .nil (fun _ => rfl)) (fun _ => rfl))) (.or_ (.op (i := 2) (Sh := shCmp .NotEq) rfl ⟨_, _, _, rfl, rfl⟩ (.cons (.var rfl (.inl rfl) rfl rfl) (.cons (.call (i := 0) rfl (.cons (.var rfl (.inl rfl) rfl rfl) (.cons (.var rfl (.inl rfl) rfl rfl) .nil (fun _ => rfl)) (fun _ => rfl)) rfl rfl rfl) .nil (fun _ => rfl)) (fun _ => rfl))) (.or_ (.not_ (.val (.isc (.var rfl (.inl rfl) rfl rfl) rfl (by decide +kernel) rfl rfl (by decide +kernel) (fun _ => rfl)) (fun _ _ => rfl))) (.or_ (.val (.isc (.var rfl (.inl rfl) rfl rfl) rfl (by decide +kernel) rfl rfl (by decide +kernel) (fun _ => rfl)) (fun _ _ => rfl)) (.one (.not_ (.val (.isc (.var rfl (.inl rfl) rfl rfl) rfl (by decide +kernel) rfl rfl (by decide +kernel) (fun _ => rfl)) (fun _ _ => rfl))))))))))) (.cons (.ret .bl)
    .nil) .nil)
    (.cons (.ifs (.bool (.or_ (.bool (.and_ (.cmp (.bltF rfl (.var rfl (.inl rfl) rfl rfl) rfl (by decide +kernel) (by decide +kernel) (by decide +kernel) rfl (fun _ => rfl)) (.bltF rfl (.var rfl (.inl rfl) rfl rfl) rfl (by decide +kernel) (by decide +kernel) (by decide +kernel) rfl (fun _ => rfl)) (nomark _)) (.one (.op (i := 0) (Sh := shCmp .Eq) rfl ⟨_, _, _, rfl, rfl⟩ (.cons (.call (i := 0) rfl (.cons (.var rfl (.inl rfl) rfl rfl) (.cons .int .nil (fun _ => rfl)) (fun _ => rfl)) rfl rfl rfl) (.cons (.call (i := 0) rfl (.cons (.var rfl (.inl rfl) rfl rfl) (.cons .int .nil (fun _ => rfl)) (fun _ => rfl)) rfl rfl rfl) .nil (fun _ => rfl)) (fun _ => rfl)))))) (.one (.op (i := 0) (Sh := shCmp .Eq) rfl ⟨_, _, _, rfl, rfl⟩ (.cons (.var rfl (.inl rfl) rfl rfl) (.cons (.call (i := 1) rfl (.cons .str (.cons (.var rfl (.inl rfl) rfl rfl) (.cons (.var rfl (.inl rfl) rfl rfl) .nil (fun _ => rfl)) (fun _ => rfl)) (fun _ => rfl)) rfl rfl rfl) .nil (fun _ => rfl)) (fun _ => rfl)))))) (.cons (.ret .bl)
    .nil) .nil)
    .nil)))))))) (fun _ _ => rfl))
    .nil))))
end K00


set_option Elab.async false
set_option linter.all false
set_option maxRecDepth 100000
set_option maxHeartbeats 8000000
namespace K00
open PySem PySem.Spec PyProof.Rows L2 Kd
def F0 : Fns := ⟨fun _ _ => none, fun _ _ _ => none, fun _ _ => none⟩
def m_law_draw (ds : List PyData) (π : Pen) : Option (PyData × Pen) := if ds.length = 1 then bodyP F0 c_law_draw n_law_draw ds π else none
def restP (o : Option Out) : Option (PyData × Pen) := match o with
        | some (.rt d (some π')) => some (d, π')
        | some (.nx ⟨_, some π'⟩) => some (.none, π')
        | _ => none
theorem pow_lt {x : Int} (h0 : 0 ≤ x) (h : x < 18446744073709551616) : x.natAbs < 2 ^ 64 := by omega
abbrev stp (ns : List Int) (lap g m cell : Int) : S := ⟨[.pen, .dat (.int m), .unk, .dat (.int lap), .dat (.int cell), .unk, .unk], some ⟨ns, lap + 1, g⟩⟩
theorem draws : Draws m_law_draw := by
  intro π b m P hb h0 h1
  obtain ⟨ns, lap, g⟩ := π
  obtain ⟨lo, hi⟩ := P
  simp only at lo hi
  have e0 : m_law_draw [.int m] ⟨ns, lap, g⟩ = restP (evalSs F0 c_law_draw ⟨[.pen, .dat (.int m), .unk, .unk, .unk, .unk, .unk], some ⟨ns, lap, g⟩⟩) := rfl
  rw [e0]
  by_cases hg : 0 < g
  · refine ⟨g % m, ⟨ns, lap, g / m⟩, ?_, Int.emod_nonneg _ (by omega), Int.emod_lt_of_pos _ h0, by show 0 ≤ lap; omega, by show lap ≤ b + 1; omega⟩
    have r : evalSs F0 c_law_draw ⟨[.pen, .dat (.int m), .unk, .unk, .unk, .unk, .unk], some ⟨ns, lap, g⟩⟩ = some (.rt (.int (g % m)) (some ⟨ns, lap, g / m⟩)) :=
      ss_rt (s_ifT (ev_cmp rfl ev_cst (c_gt _ _)) (by simp [truthD, hg]) (ss_nx (s_asg (ev_bin (ev_blt rfl rfl) (ev_var rfl) (b_mod _ _ h0))) (ss_nx (s_penS2 (ev_bin (ev_blt rfl rfl) (ev_var rfl) (b_fdiv _ _ h0 h1)) rfl rfl) (ss_rt (s_ret (ev_var rfl))))))
    rw [r]
    rfl
  · have head : ∀ o, evalSs F0 (dropS c_law_draw 4) ⟨[.pen, .dat (.int m), .unk, .dat (.int lap), .dat (.int (41011 * lap + 6121)), .unk, .unk], some ⟨ns, lap + 1, g⟩⟩ = o →
        evalSs F0 c_law_draw ⟨[.pen, .dat (.int m), .unk, .unk, .unk, .unk, .unk], some ⟨ns, lap, g⟩⟩ = o := fun o h =>
      ss_nx (s_ifF (ev_cmp rfl ev_cst (c_gt _ _)) (by simp [truthD, hg]) ss_nil) (ss_nx (s_asg rfl) (ss_nx (s_penS1 (ev_bin (ev_var rfl) ev_cst (b_add _ _)) rfl rfl)
        (ss_nx (s_asg (ev_bin (ev_bin ev_cst (ev_var rfl) (b_multL _ _ (by decide))) ev_cst (b_add _ _))) h)))
    have mid : ∃ cell, evalS F0 (atS c_law_draw 4) ⟨[.pen, .dat (.int m), .unk, .dat (.int lap), .dat (.int (41011 * lap + 6121)), .unk, .unk], some ⟨ns, lap + 1, g⟩⟩ = some (.nx ⟨[.pen, .dat (.int m), .unk, .dat (.int lap), .dat (.int cell), .unk, .unk], some ⟨ns, lap + 1, g⟩⟩) := by
      cases ns with
      | nil => exact ⟨_, s_ifF (st1 := ⟨[.pen, .dat (.int m), .unk, .dat (.int lap), .dat (.int (41011 * lap + 6121)), .unk, .unk], some ⟨[], lap + 1, g⟩⟩) (d := .bool false) rfl rfl ss_nil⟩
      | cons n0 l =>
        have hl : (0 : Int) < ((n0 :: l).length : Int) := by simp only [List.length_cons]; omega
        obtain ⟨cell, hcell⟩ := atI_ok (ns := n0 :: l) (i := lap % ((n0 :: l).length : Int)) (Int.emod_nonneg _ (by omega)) (Int.emod_lt_of_pos _ hl)
        exact ⟨cell, s_ifT (st1 := ⟨[.pen, .dat (.int m), .unk, .dat (.int lap), .dat (.int (41011 * lap + 6121)), .unk, .unk], some ⟨n0 :: l, lap + 1, g⟩⟩) (d := .bool true) rfl rfl
          (ss_nx (s_asg (ev_penAt rfl rfl (ev_bin (ev_blt (ev_var rfl) rfl) rfl (b_mod _ _ hl)) hcell)) ss_nil)⟩
    obtain ⟨cell, hm⟩ := mid
    have tail : ∃ d π', evalSs F0 (dropS c_law_draw 5) ⟨[.pen, .dat (.int m), .unk, .dat (.int lap), .dat (.int cell), .unk, .unk], some ⟨ns, lap + 1, g⟩⟩ = some (.rt (.int d) (some π')) ∧ 0 ≤ d ∧ d < m ∧ Pg (b + 1) π' := by
      have p18 : binD .Pow (.int 10) (.int 18) = some (.int (10 ^ 18)) := b_pow 18 rfl (by decide) (by decide)
      have last : ∀ o, evalSs F0 (dropS c_law_draw 6) ⟨[.pen, .dat (.int m), .unk, .dat (.int lap), .dat (.int cell), .unk, .unk], some ⟨ns, lap + 1, g⟩⟩ = o →
          evalS F0 (atS c_law_draw 5) ⟨[.pen, .dat (.int m), .unk, .dat (.int lap), .dat (.int cell), .unk, .unk], some ⟨ns, lap + 1, g⟩⟩ = some (.nx ⟨[.pen, .dat (.int m), .unk, .dat (.int lap), .dat (.int cell), .unk, .unk], some ⟨ns, lap + 1, g⟩⟩) →
          evalSs F0 (dropS c_law_draw 5) ⟨[.pen, .dat (.int m), .unk, .dat (.int lap), .dat (.int cell), .unk, .unk], some ⟨ns, lap + 1, g⟩⟩ = o := fun o h h5 => ss_nx h5 h
      have fin : ∃ d, evalSs F0 (dropS c_law_draw 6) ⟨[.pen, .dat (.int m), .unk, .dat (.int lap), .dat (.int cell), .unk, .unk], some ⟨ns, lap + 1, g⟩⟩ = some (.rt (.int d) (some ⟨ns, lap + 1, g⟩)) ∧ 0 ≤ d ∧ d < m := by
        have hx0 : 0 ≤ cell % 2147483549 := Int.emod_nonneg _ (by decide)
        have hx1 : cell % 2147483549 < 2147483549 := Int.emod_lt_of_pos _ (by decide)
        have q1 : (cell % 2147483549 + 50021 * lap + 6121).natAbs < 2 ^ 64 := pow_lt (by omega) (by omega)
        generalize hz : (cell % 2147483549 + 50021 * lap + 6121) ^ 5 % 2147483629 = z
        have hz0 : 0 ≤ z := by rw [← hz]; exact Int.emod_nonneg _ (by decide)
        have hz1 : z < 2147483629 := by rw [← hz]; exact Int.emod_lt_of_pos _ (by decide)
        have y0 : 0 ≤ z * (2 * lap + 1201) := Int.mul_nonneg hz0 (by omega)
        have y1 : z * (2 * lap + 1201) ≤ 2147483629 * 2001201 := Int.mul_le_mul (by omega) (by omega) (by omega) (by omega)
        have w0 : 0 ≤ 90007 * lap * lap := Int.mul_nonneg (by omega) lo
        have w1 : 90007 * lap * lap ≤ 90007000000 * 1000000 := Int.mul_le_mul (by omega) (by omega) lo (by omega)
        have q2 : (z * (2 * lap + 1201) + 90007 * lap * lap + 41011).natAbs < 2 ^ 64 := pow_lt (by omega) (by omega)
        refine ⟨_, ss_nx (s_asg (ev_bin (ev_blt (ev_bin (ev_bin (ev_bin (ev_bin (ev_blt (ev_var rfl) rfl) ev_cst (b_mod _ _ (by decide))) (ev_bin ev_cst (ev_var rfl) (b_multL _ _ (by decide))) (b_add _ _)) ev_cst (b_add _ _)) ev_cst (b_pow 5 rfl (by decide) q1)) rfl) ev_cst (b_mod _ _ (by decide))))
          (ss_nx (s_asg (ev_bin (ev_blt (ev_bin (ev_bin (ev_bin (ev_bin (ev_var rfl) (ev_bin (ev_bin ev_cst (ev_var rfl) (b_multL _ _ (by decide))) ev_cst (b_add _ _)) (b_multL _ _ (by rw [hz]; omega)))
            (ev_bin (ev_bin ev_cst (ev_var rfl) (b_multL _ _ (by decide))) (ev_var rfl) (b_multR _ _ (by omega))) (b_add _ _)) ev_cst (b_add _ _)) ev_cst (b_pow 3 rfl (by decide) (by rw [hz]; exact q2))) rfl) ev_cst (b_mod _ _ (by decide))))
          (ss_rt (s_ret (ev_bin (ev_blt (ev_bin (ev_var rfl) ev_cst (b_fdiv _ _ (by decide) (by decide))) rfl) (ev_var rfl) (b_mod _ _ h0))))), Int.emod_nonneg _ (by omega), Int.emod_lt_of_pos _ h0⟩
      obtain ⟨d, fd, d0, d1⟩ := fin
      have go : evalS F0 (atS c_law_draw 5) (stp ns lap g m cell) = some (.nx (stp ns lap g m cell)) → ∃ d π', evalSs F0 (dropS c_law_draw 5) (stp ns lap g m cell) = some (.rt (.int d) (some π')) ∧ 0 ≤ d ∧ d < m ∧ Pg (b + 1) π' :=
        fun h5 => ⟨d, ⟨ns, lap + 1, g⟩, last _ fd h5, d0, d1, by show 0 ≤ lap + 1; omega, by show lap + 1 ≤ b + 1; omega⟩
      by_cases hc : lap < (ns.length : Int)
      · have hA : evalE F0 (.cmp .Lt (.var 3) (.penLen 0)) (stp ns lap g m cell) = some (.bool true, stp ns lap g m cell) := by
          rw [← decide_eq_true hc]
          exact ev_cmp (ev_var rfl) rfl (c_lt _ _)
        by_cases hb : (10:Int) ^ 18 ≤ (if cell < 0 then -cell else cell)
        · have hB : evalE F0 (.cmp .GtE (.blt .abs (.var 4)) (.bin .Pow (.cst (.int (10))) (.cst (.int (18))))) (stp ns lap g m cell) = some (.bool true, stp ns lap g m cell) := by
            rw [← decide_eq_true hb]
            exact ev_cmp (ev_blt (ev_var rfl) (t_abs _)) (ev_bin ev_cst ev_cst p18) (c_ge _ _)
          have r : evalSs F0 (dropS c_law_draw 5) (stp ns lap g m cell) = some (.rt (.int ((2 * ((if cell < 0 then -cell else cell) - 10 ^ 18) + (if decide (cell < 0) then 1 else 0)) % m)) (some ⟨ns, lap + 1, (2 * ((if cell < 0 then -cell else cell) - 10 ^ 18) + (if decide (cell < 0) then 1 else 0)) / m⟩)) :=
            ss_rt (s_ifT (ev_andT hA hB) rfl
            (ss_nx (s_asg (ev_bin (ev_bin ev_cst (ev_bin (ev_blt (ev_var rfl) (t_abs _)) (ev_bin ev_cst ev_cst p18) (b_sub _ _)) (b_multL _ _ (by decide))) (ev_blt (ev_cmp (ev_var rfl) ev_cst (c_lt _ _)) (t_bool _)) (b_add _ _)))
            (ss_nx (s_penS2 (ev_bin (ev_blt (ev_var rfl) rfl) (ev_var rfl) (b_fdiv _ _ h0 h1)) rfl rfl)
            (ss_rt (s_ret (ev_bin (ev_blt (ev_var rfl) rfl) (ev_var rfl) (b_mod _ _ h0)))))))
          exact ⟨_, _, r, Int.emod_nonneg _ (by omega), Int.emod_lt_of_pos _ h0, by show 0 ≤ lap + 1; omega, by show lap + 1 ≤ b + 1; omega⟩
        · have hB : evalE F0 (.cmp .GtE (.blt .abs (.var 4)) (.bin .Pow (.cst (.int (10))) (.cst (.int (18))))) (stp ns lap g m cell) = some (.bool false, stp ns lap g m cell) := by
            rw [← decide_eq_false hb]
            exact ev_cmp (ev_blt (ev_var rfl) (t_abs _)) (ev_bin ev_cst ev_cst p18) (c_ge _ _)
          exact go (s_ifF (ev_andT hA hB) rfl ss_nil)
      · have hA : evalE F0 (.cmp .Lt (.var 3) (.penLen 0)) (stp ns lap g m cell) = some (.bool false, stp ns lap g m cell) := by
          rw [← decide_eq_false hc]
          exact ev_cmp (ev_var rfl) rfl (c_lt _ _)
        exact go (s_ifF (ev_andF hA) rfl ss_nil)
    obtain ⟨d, π', ht, q⟩ := tail
    exact ⟨d, π', by rw [head _ (ss_nx hm ht)]; rfl, q⟩
end K00


set_option Elab.async false
set_option linter.all false
set_option maxRecDepth 100000
set_option maxHeartbeats 8000000
namespace Kd
open PySem PySem.Spec PyProof.Rows L2
mutual
def sameD : PyData → PyData → Bool
  | .none, .none => true
  | .bool a, .bool b => a == b
  | .int a, .int b => decide (a = b)
  | .str a, .str b => decide (a = b)
  | .list a, .list b => sameL a b
  | .tuple a, .tuple b => sameL a b
  | .dict a, .dict b => sameK a b
  | _, _ => false
def sameL : List PyData → List PyData → Bool
  | [], [] => true
  | x :: xs, y :: ys => sameD x y && sameL xs ys
  | _, _ => false
def sameK : List (PyData × PyData) → List (PyData × PyData) → Bool
  | [], [] => true
  | (x, v) :: xs, (y, w) :: ys => sameD x y && (sameD v w && sameK xs ys)
  | _, _ => false
end
mutual
theorem sameD_eq : ∀ (d e : PyData), sameD d e = true → d = e
  | .none, e, h => by cases e <;> first | rfl | cases h
  | .bool a, e, h => by
    cases e with
    | bool b => simp only [sameD, beq_iff_eq] at h; rw [h]
    | _ => cases h
  | .int a, e, h => by
    cases e with
    | int b => simp only [sameD, decide_eq_true_eq] at h; rw [h]
    | _ => cases h
  | .str a, e, h => by
    cases e with
    | str b => simp only [sameD, decide_eq_true_eq] at h; rw [h]
    | _ => cases h
  | .list a, e, h => by
    cases e with
    | list b => simp only [sameD] at h; rw [sameL_eq a b h]
    | _ => cases h
  | .tuple a, e, h => by
    cases e with
    | tuple b => simp only [sameD] at h; rw [sameL_eq a b h]
    | _ => cases h
  | .dict a, e, h => by
    cases e with
    | dict b => simp only [sameD] at h; rw [sameK_eq a b h]
    | _ => cases h
theorem sameL_eq : ∀ (d e : List PyData), sameL d e = true → d = e
  | [], [], _ => rfl
  | [], _ :: _, h => by simp [sameL] at h
  | _ :: _, [], h => by simp [sameL] at h
  | x :: xs, y :: ys, h => by
    simp only [sameL, Bool.and_eq_true] at h
    rw [sameD_eq x y h.1, sameL_eq xs ys h.2]
theorem sameK_eq : ∀ (d e : List (PyData × PyData)), sameK d e = true → d = e
  | [], [], _ => rfl
  | [], _ :: _, h => by simp [sameK] at h
  | _ :: _, [], h => by simp [sameK] at h
  | (x, v) :: xs, (y, w) :: ys, h => by
    simp only [sameK, Bool.and_eq_true] at h
    rw [sameD_eq x y h.1, sameD_eq v w h.2.1, sameK_eq xs ys h.2.2]
end
end Kd
namespace K00
open PySem PySem.Spec PyProof.Rows L2 Kd
def csP : List Str := ["Paper", "Denial", "Kept", "Beaten"]
/-- the left side of == is asked first, but where the right one's class stands below -/
def lfP (x y : Str) : Bool := !decide ((x, y) ∈ ([("Paper", "Denial"), ("Paper", "Kept"), ("Denial", "Beaten"), ("Paper", "Beaten")] : List (Str × Str)))
def tvP : List (Str × Bool) := [("Paper", true), ("Denial", false), ("Kept", true), ("Beaten", false)]
def F_law_pick : Fns := ⟨fun _ _ => none, fun i ds π => match i with | 0 => m_law_draw ds π | _ => none, fun _ _ => none⟩
def G_law_pick : Fns := ⟨fun _ _ => none, fun i ds π => match i with | 0 => tapeF ds π | _ => none, fun _ _ => none⟩
def m_law_pick (ds : List PyData) (π : Pen) : Option (PyData × Pen) := if ds.length = 1 then bodyP F_law_pick c_law_pick n_law_pick ds π else none
def t_law_pick (ds : List PyData) (π : Pen) : Option (PyData × Pen) := if ds.length = 1 then bodyP G_law_pick c_law_pick n_law_pick ds π else none
def F_err : Fns := ⟨fun i ds => match i with
    | 0 => excM "TooMany" ["what", "most"] ⟨"TooMany", 2, [], [0, 1]⟩ ds
    | 1 => excM "BadMove" ["state", "index", "part"] ⟨"BadMove", 3, [], [0, 1, 2]⟩ ds
    | 2 => excM "BadMove" ["state", "index", "part"] ⟨"BadMove", 0, ["index", "state", "part"], [1, 0, 2]⟩ ds
    | 3 => excM "TooMany" ["what", "most"] ⟨"TooMany", 0, ["most", "what"], [1, 0]⟩ ds
    | 4 => excM "BadText" ["line", "word"] ⟨"BadText", 0, ["word", "line"], [1, 0]⟩ ds
    | 5 => excM "BadLine" ["word"] ⟨"BadLine", 1, [], [0]⟩ ds
    | 6 => excM "Nothing" ["word"] ⟨"Nothing", 0, ["word"], [0]⟩ ds
    | 7 => excM "NoName" ["name"] ⟨"NoName", 0, ["name"], [0]⟩ ds
    | 8 => excM "Misfit" ["part"] ⟨"Misfit", 1, [], [0]⟩ ds
    | 9 => excM "BadBoard" ["part"] ⟨"BadBoard", 0, ["part"], [0]⟩ ds
    | 10 => excM "BadNumber" ["part"] ⟨"BadNumber", 1, [], [0]⟩ ds
    | 11 => excM "BadValue" ["part"] ⟨"BadValue", 0, ["part"], [0]⟩ ds
    | _ => none,
    fun i ds π => match i with | 0 => m_law_pick ds π | _ => none,
    fun i ds => match i with | 0 => yesD ds | _ => none⟩
def G_err : Fns := ⟨fun i ds => match i with
    | 0 => excM "TooMany" ["what", "most"] ⟨"TooMany", 2, [], [0, 1]⟩ ds
    | 1 => excM "BadMove" ["state", "index", "part"] ⟨"BadMove", 3, [], [0, 1, 2]⟩ ds
    | 2 => excM "BadMove" ["state", "index", "part"] ⟨"BadMove", 0, ["index", "state", "part"], [1, 0, 2]⟩ ds
    | 3 => excM "TooMany" ["what", "most"] ⟨"TooMany", 0, ["most", "what"], [1, 0]⟩ ds
    | 4 => excM "BadText" ["line", "word"] ⟨"BadText", 0, ["word", "line"], [1, 0]⟩ ds
    | 5 => excM "BadLine" ["word"] ⟨"BadLine", 1, [], [0]⟩ ds
    | 6 => excM "Nothing" ["word"] ⟨"Nothing", 0, ["word"], [0]⟩ ds
    | 7 => excM "NoName" ["name"] ⟨"NoName", 0, ["name"], [0]⟩ ds
    | 8 => excM "Misfit" ["part"] ⟨"Misfit", 1, [], [0]⟩ ds
    | 9 => excM "BadBoard" ["part"] ⟨"BadBoard", 0, ["part"], [0]⟩ ds
    | 10 => excM "BadNumber" ["part"] ⟨"BadNumber", 1, [], [0]⟩ ds
    | 11 => excM "BadValue" ["part"] ⟨"BadValue", 0, ["part"], [0]⟩ ds
    | _ => none,
    fun i ds π => match i with | 0 => t_law_pick ds π | _ => none,
    fun i ds => match i with | 0 => yesD ds | _ => none⟩
def F_pap : Fns := ⟨fun i ds => match i with
    | 0 => keptM 16 "Kept" "kept" [0, 1] ds
    | 1 => papM 16 "Paper" 3 ds
    | 2 => keptM 16 "Kept" "kept" [1, 0] ds
    | 3 => keptM 16 "Beaten" "beaten" [0, 1] ds
    | 4 => m_fixed 16 (pick [0] ds)
    | 5 => m_fixed 16 (pick [0] ds)
    | 6 => papM 16 "Denial" 3 ds
    | _ => none,
    fun i ds π => match i with | 0 => m_law_pick ds π | _ => none,
    fun i ds => match i with | 0 => eqOx csP lfP ds | 1 => truOx tvP ds | 2 => neOx csP lfP ds | 3 => un4 ds | _ => none⟩
def G_pap : Fns := ⟨fun i ds => match i with
    | 0 => keptM 16 "Kept" "kept" [0, 1] ds
    | 1 => papM 16 "Paper" 3 ds
    | 2 => keptM 16 "Kept" "kept" [1, 0] ds
    | 3 => keptM 16 "Beaten" "beaten" [0, 1] ds
    | 4 => m_fixed 16 (pick [0] ds)
    | 5 => m_fixed 16 (pick [0] ds)
    | 6 => papM 16 "Denial" 3 ds
    | _ => none,
    fun i ds π => match i with | 0 => t_law_pick ds π | _ => none,
    fun i ds => match i with | 0 => eqOx csP lfP ds | 1 => truOx tvP ds | 2 => neOx csP lfP ds | 3 => un4 ds | _ => none⟩
theorem sim_pick {E : Pen → Prop} : Sim (TpS m_law_draw E) G_law_pick F_law_pick := ⟨fun i ds d h => h, fun i ds π π' d π1 r h => match i, h with
  | 0, h => sim_tape r h
  | _ + 1, h => (nomatch h), fun i ds d h => h⟩
theorem sim_pick1 {E : Pen → Prop} {ds : List PyData} {π π' : Pen} {d : PyData} {π1 : Pen} (r : TpS m_law_draw E π π') (h : t_law_pick ds π = some (d, π1)) : ∃ π1', m_law_pick ds π' = some (d, π1') ∧ TpS m_law_draw E π1 π1' := by
  unfold t_law_pick at h
  split at h
  · rename_i l
    obtain ⟨q, e, r2⟩ := sim_bodyP sim_pick (c := c_law_pick) (by decide +kernel) r h
    exact ⟨q, by unfold m_law_pick; rw [if_pos l]; exact e, r2⟩
  · cases h
theorem sim_err {E : Pen → Prop} : Sim (TpS m_law_draw E) G_err F_err := ⟨fun i ds d h => h, fun i ds π π' d π1 r h => match i, h with
  | 0, h => sim_pick1 r h
  | _ + 1, h => (nomatch h), fun i ds d h => h⟩
theorem sim_pap {E : Pen → Prop} : Sim (TpS m_law_draw E) G_pap F_pap := ⟨fun i ds d h => h, fun i ds π π' d π1 r h => match i, h with
  | 0, h => sim_pick1 r h
  | _ + 1, h => (nomatch h), fun i ds d h => h⟩
def isPen : Option SD → Bool
  | some .pen => true
  | _ => false
def isDat (d : PyData) : Option SD → Bool
  | some (.dat e) => sameD e d
  | _ => false
theorem isPen_eq {o : Option SD} (h : isPen o = true) : o = some .pen := by
  unfold isPen at h
  split at h
  · rfl
  · cases h
theorem isDat_eq {d : PyData} {o : Option SD} (h : isDat d o = true) : o = some (.dat d) := by
  unfold isDat at h
  split at h
  · rw [sameD_eq _ _ h]
  · cases h
/-! ### errors -/
def srcE (d : PyData) (l : List Int) : S := ⟨.pen :: .dat d :: List.replicate 13 .unk, some ⟨l, 0, 0⟩⟩
def someE : PyData := match evalS F_err (atS c_law_errors_right 0) ⟨.pen :: List.replicate 14 .unk, some ⟨[], 0, 0⟩⟩ with
  | some (.nx ⟨δ, _⟩) => (match (δ[1]? : Option SD) with | some (.dat d) => d | _ => .none)
  | _ => .none
def loopE : Sds := match atS c_law_errors_right 1 with | .for_ _ _ b => b | _ => .nil
def okE (ts : List Int) : Bool := match evalSs G_err loopE (srcE someE (zipT [8, 8, 8] ts)) with
  | some (.nx ⟨δ, some π⟩) => isPen δ[0]? && (isDat someE δ[1]? && (π.ns.isEmpty && δ.length == 15))
  | _ => false
def okEe : Bool := match evalSs G_err (dropS c_law_errors_right 2) (srcE someE []) with
  | some (.rt (.bool true) (some π)) => π.ns.isEmpty
  | _ => false
def ckE (a b : Nat) : Bool := (rows [8]).all fun ts => okE ((a : Int) :: (b : Int) :: ts)
/-! ### papers -/
def srcP (d : PyData) (l : List Int) : S := ⟨.pen :: .unk :: .unk :: .unk :: .dat d :: List.replicate 10 .unk, some ⟨l, 0, 0⟩⟩
def takeS : Sds → Nat → Sds
  | .cons s ss, n + 1 => .cons s (takeS ss n)
  | _, _ => .nil
def preP : Option Out := evalSs G_pap (takeS c_law_papers_right 3) ⟨.pen :: List.replicate 14 .unk, some ⟨[], 0, 0⟩⟩
def someP : PyData := match preP with
  | some (.nx ⟨δ, _⟩) => (match (δ[4]? : Option SD) with | some (.dat d) => d | _ => .none)
  | _ => .none
def loopP : Sds := match atS c_law_papers_right 3 with | .for_ _ _ b => b | _ => .nil
def okP0 : Bool := match preP with
  | some (.nx ⟨δ, some π⟩) => isPen δ[0]? && (isDat someP δ[4]? && (π.ns.isEmpty && δ.length == 15))
  | _ => false
def okP (ts : List Int) : Bool := match evalSs G_pap loopP (srcP someP (zipT [8, 8] ts)) with
  | some (.nx ⟨δ, some π⟩) => isPen δ[0]? && (isDat someP δ[4]? && (π.ns.isEmpty && δ.length == 15))
  | _ => false
def ckP (a : Nat) : Bool := (rows [8]).all fun ts => okP ((a : Int) :: ts)
end K00


set_option Elab.async false
set_option linter.all false
set_option maxRecDepth 100000
set_option maxHeartbeats 80000000
namespace K00
open PySem Kd
theorem okP0_ : okP0 = true := by decide +kernel
theorem okEe_ : okEe = true := by decide +kernel
theorem p00 : okP [0, 0] = true := by decide +kernel
theorem p01 : okP [0, 1] = true := by decide +kernel
theorem p02 : okP [0, 2] = true := by decide +kernel
theorem p03 : okP [0, 3] = true := by decide +kernel
theorem p04 : okP [0, 4] = true := by decide +kernel
theorem p05 : okP [0, 5] = true := by decide +kernel
theorem p06 : okP [0, 6] = true := by decide +kernel
theorem p07 : okP [0, 7] = true := by decide +kernel
theorem p10 : okP [1, 0] = true := by decide +kernel
theorem p11 : okP [1, 1] = true := by decide +kernel
theorem p12 : okP [1, 2] = true := by decide +kernel
theorem p13 : okP [1, 3] = true := by decide +kernel
theorem p14 : okP [1, 4] = true := by decide +kernel
theorem p15 : okP [1, 5] = true := by decide +kernel
theorem p16 : okP [1, 6] = true := by decide +kernel
theorem p17 : okP [1, 7] = true := by decide +kernel
theorem p20 : okP [2, 0] = true := by decide +kernel
theorem p21 : okP [2, 1] = true := by decide +kernel
theorem p22 : okP [2, 2] = true := by decide +kernel
theorem p23 : okP [2, 3] = true := by decide +kernel
theorem p24 : okP [2, 4] = true := by decide +kernel
theorem p25 : okP [2, 5] = true := by decide +kernel
theorem p26 : okP [2, 6] = true := by decide +kernel
theorem p27 : okP [2, 7] = true := by decide +kernel
theorem p30 : okP [3, 0] = true := by decide +kernel
theorem p31 : okP [3, 1] = true := by decide +kernel
theorem p32 : okP [3, 2] = true := by decide +kernel
theorem p33 : okP [3, 3] = true := by decide +kernel
theorem p34 : okP [3, 4] = true := by decide +kernel
theorem p35 : okP [3, 5] = true := by decide +kernel
theorem p36 : okP [3, 6] = true := by decide +kernel
theorem p37 : okP [3, 7] = true := by decide +kernel
theorem p40 : okP [4, 0] = true := by decide +kernel
theorem p41 : okP [4, 1] = true := by decide +kernel
theorem p42 : okP [4, 2] = true := by decide +kernel
theorem p43 : okP [4, 3] = true := by decide +kernel
theorem p44 : okP [4, 4] = true := by decide +kernel
theorem p45 : okP [4, 5] = true := by decide +kernel
theorem p46 : okP [4, 6] = true := by decide +kernel
theorem p47 : okP [4, 7] = true := by decide +kernel
theorem p50 : okP [5, 0] = true := by decide +kernel
theorem p51 : okP [5, 1] = true := by decide +kernel
theorem p52 : okP [5, 2] = true := by decide +kernel
theorem p53 : okP [5, 3] = true := by decide +kernel
theorem p54 : okP [5, 4] = true := by decide +kernel
theorem p55 : okP [5, 5] = true := by decide +kernel
theorem p56 : okP [5, 6] = true := by decide +kernel
theorem p57 : okP [5, 7] = true := by decide +kernel
theorem p60 : okP [6, 0] = true := by decide +kernel
theorem p61 : okP [6, 1] = true := by decide +kernel
theorem p62 : okP [6, 2] = true := by decide +kernel
theorem p63 : okP [6, 3] = true := by decide +kernel
theorem p64 : okP [6, 4] = true := by decide +kernel
theorem p65 : okP [6, 5] = true := by decide +kernel
theorem p66 : okP [6, 6] = true := by decide +kernel
theorem p67 : okP [6, 7] = true := by decide +kernel
theorem p70 : okP [7, 0] = true := by decide +kernel
theorem p71 : okP [7, 1] = true := by decide +kernel
theorem p72 : okP [7, 2] = true := by decide +kernel
theorem p73 : okP [7, 3] = true := by decide +kernel
theorem p74 : okP [7, 4] = true := by decide +kernel
theorem p75 : okP [7, 5] = true := by decide +kernel
theorem p76 : okP [7, 6] = true := by decide +kernel
theorem p77 : okP [7, 7] = true := by decide +kernel
theorem ps : ∀ a b : Nat, a < 8 → b < 8 → okP [(a : Int), (b : Int)] = true
  | 0, 0, _, _ => p00
  | 0, 1, _, _ => p01
  | 0, 2, _, _ => p02
  | 0, 3, _, _ => p03
  | 0, 4, _, _ => p04
  | 0, 5, _, _ => p05
  | 0, 6, _, _ => p06
  | 0, 7, _, _ => p07
  | 1, 0, _, _ => p10
  | 1, 1, _, _ => p11
  | 1, 2, _, _ => p12
  | 1, 3, _, _ => p13
  | 1, 4, _, _ => p14
  | 1, 5, _, _ => p15
  | 1, 6, _, _ => p16
  | 1, 7, _, _ => p17
  | 2, 0, _, _ => p20
  | 2, 1, _, _ => p21
  | 2, 2, _, _ => p22
  | 2, 3, _, _ => p23
  | 2, 4, _, _ => p24
  | 2, 5, _, _ => p25
  | 2, 6, _, _ => p26
  | 2, 7, _, _ => p27
  | 3, 0, _, _ => p30
  | 3, 1, _, _ => p31
  | 3, 2, _, _ => p32
  | 3, 3, _, _ => p33
  | 3, 4, _, _ => p34
  | 3, 5, _, _ => p35
  | 3, 6, _, _ => p36
  | 3, 7, _, _ => p37
  | 4, 0, _, _ => p40
  | 4, 1, _, _ => p41
  | 4, 2, _, _ => p42
  | 4, 3, _, _ => p43
  | 4, 4, _, _ => p44
  | 4, 5, _, _ => p45
  | 4, 6, _, _ => p46
  | 4, 7, _, _ => p47
  | 5, 0, _, _ => p50
  | 5, 1, _, _ => p51
  | 5, 2, _, _ => p52
  | 5, 3, _, _ => p53
  | 5, 4, _, _ => p54
  | 5, 5, _, _ => p55
  | 5, 6, _, _ => p56
  | 5, 7, _, _ => p57
  | 6, 0, _, _ => p60
  | 6, 1, _, _ => p61
  | 6, 2, _, _ => p62
  | 6, 3, _, _ => p63
  | 6, 4, _, _ => p64
  | 6, 5, _, _ => p65
  | 6, 6, _, _ => p66
  | 6, 7, _, _ => p67
  | 7, 0, _, _ => p70
  | 7, 1, _, _ => p71
  | 7, 2, _, _ => p72
  | 7, 3, _, _ => p73
  | 7, 4, _, _ => p74
  | 7, 5, _, _ => p75
  | 7, 6, _, _ => p76
  | 7, 7, _, _ => p77
  | a + 8, _, h, _ => absurd h (by omega)
  | _, b + 8, _, h => absurd h (by omega)
end K00


set_option Elab.async false
set_option linter.all false
set_option maxRecDepth 100000
set_option maxHeartbeats 8000000
namespace K00
open PySem PySem.Spec PyProof.Rows L2 Kd
/-! the errors' part, for all draws at once -/
theorem atI_mem {α : Type} {xs : List α} {i : Int} (h0 : 0 ≤ i) (h1 : i < xs.length) : ∃ x ∈ xs, atI xs i = some x := by
  obtain ⟨k, rfl⟩ : ∃ k : Nat, i = k := ⟨i.toNat, by omega⟩
  have hk : k < xs.length := by omega
  refine ⟨xs[k], List.getElem_mem hk, ?_⟩
  unfold atI ixN
  simp [hk, show ((k : Int) < xs.length) by omega]
theorem pick_ok {π : Pen} {b : Int} {xs : List PyData} (P : Pg b π) (hb : b ≤ 1000000) (h0 : 0 < xs.length) (h1 : (xs.length : Int) < 1073741824) : ∃ d π', m_law_pick [.list xs] π = some (d, π') ∧ d ∈ xs ∧ Pg (b + 1) π' := by
  obtain ⟨d, π', e, d0, d1, P'⟩ := draws π b xs.length P hb (by omega) h1
  obtain ⟨x, hx, ex⟩ := atI_mem d0 d1
  refine ⟨x, π', ?_, hx, P'⟩
  have q : evalSs F_law_pick c_law_pick ⟨init n_law_pick [.pen, .dat (.list xs)], some π⟩ = some (.rt x (some π')) := by
    refine ss_rt (s_ret (st1 := ⟨init n_law_pick [.pen, .dat (.list xs)], some π'⟩) ?_)
    have e1 : F_law_pick.pf 0 [.int xs.length] π = some (.int d, π') := e
    have e2 : evalE F_law_pick (.pcall 0 0 (.cons (.blt .len (.var 1)) .nil)) ⟨init n_law_pick [.pen, .dat (.list xs)], some π⟩ = some (.int d, ⟨init n_law_pick [.pen, .dat (.list xs)], some π'⟩) := by
      show (match F_law_pick.pf 0 [.int xs.length] π with
          | some (d, p') => some (d, (⟨init n_law_pick [.pen, .dat (.list xs)], some p'⟩ : S))
          | none => none) = _
      rw [e1]
    show (match evalE F_law_pick (.pcall 0 0 (.cons (.blt .len (.var 1)) .nil)) ⟨init n_law_pick [.pen, .dat (.list xs)], some π⟩ with
      | some (y, st2) => (match subD (.list xs) y with
        | some z => some (z, st2)
        | none => none)
      | none => none) = _
    rw [e2]
    show (match atI xs d with
        | some z => some (z, _)
        | none => none) = _
    rw [ex]
  unfold m_law_pick bodyP
  rw [if_pos (show [PyData.list xs].length = 1 from rfl)]
  show (match evalSs F_law_pick c_law_pick ⟨init n_law_pick [.pen, .dat (.list xs)], some π⟩ with
    | some (.rt d (some π')) => some (d, π')
    | some (.nx ⟨_, some π'⟩) => some (.none, π')
    | _ => none) = _
  rw [q]
/-! ### one lap -/
def nxS (o : Option Out) (d : S) : S := match o with
  | some (.nx s) => s
  | _ => d
def e0 (a b c : PyData) (π : Pen) : S := ⟨[.pen, .dat someE, .unk, .unk, .unk, .dat a, .dat b, .dat c, .unk, .unk, .unk, .unk, .unk, .unk, .unk], some π⟩
def e1 (a b c : PyData) (π : Pen) : S := nxS (evalS F_err (atS loopE 1) (e0 a b c π)) (e0 a b c π)
def e2 (a b c : PyData) (π : Pen) : S := nxS (evalS F_err (atS loopE 2) (e1 a b c π)) (e0 a b c π)
def e3 (a b c : PyData) (π : Pen) : S := nxS (evalS F_err (atS loopE 4) (e2 a b c π)) (e0 a b c π)
def e4 (a b c : PyData) (π : Pen) : S := nxS (evalS F_err (atS loopE 6) (e3 a b c π)) (e0 a b c π)
theorem r1 (a b c : PyData) (π : Pen) : evalS F_err (atS loopE 1) (e0 a b c π) = some (.nx (e1 a b c π)) := by kernel_rfl
theorem r2 (a b c : PyData) (π : Pen) : evalS F_err (atS loopE 2) (e1 a b c π) = some (.nx (e2 a b c π)) := by kernel_rfl
def tst (s : Sd) : C := match s with | .ifs t _ _ => t | _ => .cst .none
def lhs (c : C) : C := match c with | .cmp _ (.blt _ a) _ => a | _ => c
def rhs (c : C) : C := match c with | .cmp _ _ (.blt _ a) => a | _ => c
theorem r3l (a b c : PyData) (π : Pen) : evalE F_err (lhs (tst (atS loopE 3))) (e2 a b c π) = some (.list [a, a, a, a, a, a, a], e2 a b c π) := by kernel_rfl
theorem r3r (a b c : PyData) (π : Pen) : evalE F_err (rhs (tst (atS loopE 3))) (e2 a b c π) = some (.list [a, a, a, a, a, a, a], e2 a b c π) := by kernel_rfl
theorem r4 (a b c : PyData) (π : Pen) : evalS F_err (atS loopE 4) (e2 a b c π) = some (.nx (e3 a b c π)) := by kernel_rfl
theorem r5l (a b c : PyData) (π : Pen) : evalE F_err (lhs (tst (atS loopE 5))) (e3 a b c π) = some (.list [a, b, c, a, b, a, b], e3 a b c π) := by kernel_rfl
theorem r5r (a b c : PyData) (π : Pen) : evalE F_err (rhs (tst (atS loopE 5))) (e3 a b c π) = some (.list [a, b, c, a, b, a, b], e3 a b c π) := by kernel_rfl
theorem r6 (a b c : PyData) (π : Pen) : evalS F_err (atS loopE 6) (e3 a b c π) = some (.nx (e4 a b c π)) := by kernel_rfl
theorem e4_pen (a b c : PyData) (π : Pen) : (e4 a b c π).δ[0]? = some .pen := by kernel_rfl
theorem e4_som (a b c : PyData) (π : Pen) : (e4 a b c π).δ[1]? = some (.dat someE) := by kernel_rfl
theorem e4_len (a b c : PyData) (π : Pen) : (e4 a b c π).δ.length = 15 := by kernel_rfl
theorem e4_pi (a b c : PyData) (π : Pen) : (e4 a b c π).π = some π := by kernel_rfl
def repOk (d : PyData) : Bool := match bltD .repr d with
  | some (.str _) => true
  | _ => false
theorem repOk_ex {d : PyData} (h : repOk d = true) : ∃ s, bltD .repr d = some (.str s) := by
  unfold repOk at h
  split at h
  · rename_i s e; exact ⟨s, e⟩
  · cases h
theorem ne_repr {l r : C} {st : S} {d : PyData} {s : Str} {A B : Sds} {o : Option Out} (h1 : evalE F_err l st = some (d, st)) (h2 : evalE F_err r st = some (d, st)) (h : bltD .repr d = some (.str s)) (k : evalSs F_err B st = o) : evalS F_err (.ifs (.cmp .NotEq (.blt .repr l) (.blt .repr r)) A B) st = o := by
  have c : cmpD .NotEq (.str s) (.str s) = some false := by simp [cmpD]
  exact s_ifF (ev_cmp (ev_blt h1 h) (ev_blt h2 h) c) rfl k
theorem errors_body (a b c : PyData) (π : Pen) (h1 : repOk (.list [a, a, a, a, a, a, a]) = true) (h2 : repOk (.list [a, b, c, a, b, a, b]) = true) : evalSs F_err (dropS loopE 1) (e0 a b c π) = some (.nx (e4 a b c π)) := by
  obtain ⟨s1, h1⟩ := repOk_ex h1
  obtain ⟨s2, h2⟩ := repOk_ex h2
  exact ss_nx (r1 a b c π) (ss_nx (r2 a b c π) (ss_nx (ne_repr (r3l a b c π) (r3r a b c π) h1 ss_nil) (ss_nx (r4 a b c π) (ss_nx (ne_repr (r5l a b c π) (r5r a b c π) h2 ss_nil) (ss_nx (r6 a b c π) ss_nil)))))
end K00


set_option Elab.async false
set_option linter.all false
set_option maxRecDepth 100000
set_option maxHeartbeats 8000000
namespace K00
open PySem PySem.Spec PyProof.Rows L2 Kd
def itE : List PyData := [.none, .int 5, .str "cells", .list [.int 1, .list [.int 2]], .dict [(.str "a", .list [.int 1])], .tuple [], .bool true, .int (10 ^ 50)]
theorem someE_eq : someE = .list itE := by kernel_rfl
theorem itE_len : itE.length = 8 := rfl
theorem rep7 : (itE.all fun a => repOk (.list [a, a, a, a, a, a, a])) = true := by decide +kernel
def rpA (a : PyData) : Bool := itE.all fun b => itE.all fun c => repOk (.list [a, b, c, a, b, a, b])
def rpB (a b : PyData) : Bool := itE.all fun c => repOk (.list [a, b, c, a, b, a, b])
theorem rp00 : rpB (.none) (.none) = true := by decide +kernel
theorem rp01 : rpB (.none) (.int 5) = true := by decide +kernel
theorem rp02 : rpB (.none) (.str "cells") = true := by decide +kernel
theorem rp03 : rpB (.none) (.list [.int 1, .list [.int 2]]) = true := by decide +kernel
theorem rp04 : rpB (.none) (.dict [(.str "a", .list [.int 1])]) = true := by decide +kernel
theorem rp05 : rpB (.none) (.tuple []) = true := by decide +kernel
theorem rp06 : rpB (.none) (.bool true) = true := by decide +kernel
theorem rp07 : rpB (.none) (.int (10 ^ 50)) = true := by decide +kernel
theorem rp10 : rpB (.int 5) (.none) = true := by decide +kernel
theorem rp11 : rpB (.int 5) (.int 5) = true := by decide +kernel
theorem rp12 : rpB (.int 5) (.str "cells") = true := by decide +kernel
theorem rp13 : rpB (.int 5) (.list [.int 1, .list [.int 2]]) = true := by decide +kernel
theorem rp14 : rpB (.int 5) (.dict [(.str "a", .list [.int 1])]) = true := by decide +kernel
theorem rp15 : rpB (.int 5) (.tuple []) = true := by decide +kernel
theorem rp16 : rpB (.int 5) (.bool true) = true := by decide +kernel
theorem rp17 : rpB (.int 5) (.int (10 ^ 50)) = true := by decide +kernel
theorem rp20 : rpB (.str "cells") (.none) = true := by decide +kernel
theorem rp21 : rpB (.str "cells") (.int 5) = true := by decide +kernel
theorem rp22 : rpB (.str "cells") (.str "cells") = true := by decide +kernel
theorem rp23 : rpB (.str "cells") (.list [.int 1, .list [.int 2]]) = true := by decide +kernel
theorem rp24 : rpB (.str "cells") (.dict [(.str "a", .list [.int 1])]) = true := by decide +kernel
theorem rp25 : rpB (.str "cells") (.tuple []) = true := by decide +kernel
theorem rp26 : rpB (.str "cells") (.bool true) = true := by decide +kernel
theorem rp27 : rpB (.str "cells") (.int (10 ^ 50)) = true := by decide +kernel
theorem rp30 : rpB (.list [.int 1, .list [.int 2]]) (.none) = true := by decide +kernel
theorem rp31 : rpB (.list [.int 1, .list [.int 2]]) (.int 5) = true := by decide +kernel
theorem rp32 : rpB (.list [.int 1, .list [.int 2]]) (.str "cells") = true := by decide +kernel
theorem rp33 : rpB (.list [.int 1, .list [.int 2]]) (.list [.int 1, .list [.int 2]]) = true := by decide +kernel
theorem rp34 : rpB (.list [.int 1, .list [.int 2]]) (.dict [(.str "a", .list [.int 1])]) = true := by decide +kernel
theorem rp35 : rpB (.list [.int 1, .list [.int 2]]) (.tuple []) = true := by decide +kernel
theorem rp36 : rpB (.list [.int 1, .list [.int 2]]) (.bool true) = true := by decide +kernel
theorem rp37 : rpB (.list [.int 1, .list [.int 2]]) (.int (10 ^ 50)) = true := by decide +kernel
theorem rp40 : rpB (.dict [(.str "a", .list [.int 1])]) (.none) = true := by decide +kernel
theorem rp41 : rpB (.dict [(.str "a", .list [.int 1])]) (.int 5) = true := by decide +kernel
theorem rp42 : rpB (.dict [(.str "a", .list [.int 1])]) (.str "cells") = true := by decide +kernel
theorem rp43 : rpB (.dict [(.str "a", .list [.int 1])]) (.list [.int 1, .list [.int 2]]) = true := by decide +kernel
theorem rp44 : rpB (.dict [(.str "a", .list [.int 1])]) (.dict [(.str "a", .list [.int 1])]) = true := by decide +kernel
theorem rp45 : rpB (.dict [(.str "a", .list [.int 1])]) (.tuple []) = true := by decide +kernel
theorem rp46 : rpB (.dict [(.str "a", .list [.int 1])]) (.bool true) = true := by decide +kernel
theorem rp47 : rpB (.dict [(.str "a", .list [.int 1])]) (.int (10 ^ 50)) = true := by decide +kernel
theorem rp50 : rpB (.tuple []) (.none) = true := by decide +kernel
theorem rp51 : rpB (.tuple []) (.int 5) = true := by decide +kernel
theorem rp52 : rpB (.tuple []) (.str "cells") = true := by decide +kernel
theorem rp53 : rpB (.tuple []) (.list [.int 1, .list [.int 2]]) = true := by decide +kernel
theorem rp54 : rpB (.tuple []) (.dict [(.str "a", .list [.int 1])]) = true := by decide +kernel
theorem rp55 : rpB (.tuple []) (.tuple []) = true := by decide +kernel
theorem rp56 : rpB (.tuple []) (.bool true) = true := by decide +kernel
theorem rp57 : rpB (.tuple []) (.int (10 ^ 50)) = true := by decide +kernel
theorem rp60 : rpB (.bool true) (.none) = true := by decide +kernel
theorem rp61 : rpB (.bool true) (.int 5) = true := by decide +kernel
theorem rp62 : rpB (.bool true) (.str "cells") = true := by decide +kernel
theorem rp63 : rpB (.bool true) (.list [.int 1, .list [.int 2]]) = true := by decide +kernel
theorem rp64 : rpB (.bool true) (.dict [(.str "a", .list [.int 1])]) = true := by decide +kernel
theorem rp65 : rpB (.bool true) (.tuple []) = true := by decide +kernel
theorem rp66 : rpB (.bool true) (.bool true) = true := by decide +kernel
theorem rp67 : rpB (.bool true) (.int (10 ^ 50)) = true := by decide +kernel
theorem rp70 : rpB (.int (10 ^ 50)) (.none) = true := by decide +kernel
theorem rp71 : rpB (.int (10 ^ 50)) (.int 5) = true := by decide +kernel
theorem rp72 : rpB (.int (10 ^ 50)) (.str "cells") = true := by decide +kernel
theorem rp73 : rpB (.int (10 ^ 50)) (.list [.int 1, .list [.int 2]]) = true := by decide +kernel
theorem rp74 : rpB (.int (10 ^ 50)) (.dict [(.str "a", .list [.int 1])]) = true := by decide +kernel
theorem rp75 : rpB (.int (10 ^ 50)) (.tuple []) = true := by decide +kernel
theorem rp76 : rpB (.int (10 ^ 50)) (.bool true) = true := by decide +kernel
theorem rp77 : rpB (.int (10 ^ 50)) (.int (10 ^ 50)) = true := by decide +kernel
theorem rp0 : rpA (.none) = true := by
  show (rpB (.none) (.none) && (rpB (.none) (.int 5) && (rpB (.none) (.str "cells") && (rpB (.none) (.list [.int 1, .list [.int 2]]) && (rpB (.none) (.dict [(.str "a", .list [.int 1])]) && (rpB (.none) (.tuple []) && (rpB (.none) (.bool true) && (rpB (.none) (.int (10 ^ 50)) && true)))))))) = true
  rw [rp00, rp01, rp02, rp03, rp04, rp05, rp06, rp07]
  rfl
theorem rp1 : rpA (.int 5) = true := by
  show (rpB (.int 5) (.none) && (rpB (.int 5) (.int 5) && (rpB (.int 5) (.str "cells") && (rpB (.int 5) (.list [.int 1, .list [.int 2]]) && (rpB (.int 5) (.dict [(.str "a", .list [.int 1])]) && (rpB (.int 5) (.tuple []) && (rpB (.int 5) (.bool true) && (rpB (.int 5) (.int (10 ^ 50)) && true)))))))) = true
  rw [rp10, rp11, rp12, rp13, rp14, rp15, rp16, rp17]
  rfl
theorem rp2 : rpA (.str "cells") = true := by
  show (rpB (.str "cells") (.none) && (rpB (.str "cells") (.int 5) && (rpB (.str "cells") (.str "cells") && (rpB (.str "cells") (.list [.int 1, .list [.int 2]]) && (rpB (.str "cells") (.dict [(.str "a", .list [.int 1])]) && (rpB (.str "cells") (.tuple []) && (rpB (.str "cells") (.bool true) && (rpB (.str "cells") (.int (10 ^ 50)) && true)))))))) = true
  rw [rp20, rp21, rp22, rp23, rp24, rp25, rp26, rp27]
  rfl
theorem rp3 : rpA (.list [.int 1, .list [.int 2]]) = true := by
  show (rpB (.list [.int 1, .list [.int 2]]) (.none) && (rpB (.list [.int 1, .list [.int 2]]) (.int 5) && (rpB (.list [.int 1, .list [.int 2]]) (.str "cells") && (rpB (.list [.int 1, .list [.int 2]]) (.list [.int 1, .list [.int 2]]) && (rpB (.list [.int 1, .list [.int 2]]) (.dict [(.str "a", .list [.int 1])]) && (rpB (.list [.int 1, .list [.int 2]]) (.tuple []) && (rpB (.list [.int 1, .list [.int 2]]) (.bool true) && (rpB (.list [.int 1, .list [.int 2]]) (.int (10 ^ 50)) && true)))))))) = true
  rw [rp30, rp31, rp32, rp33, rp34, rp35, rp36, rp37]
  rfl
theorem rp4 : rpA (.dict [(.str "a", .list [.int 1])]) = true := by
  show (rpB (.dict [(.str "a", .list [.int 1])]) (.none) && (rpB (.dict [(.str "a", .list [.int 1])]) (.int 5) && (rpB (.dict [(.str "a", .list [.int 1])]) (.str "cells") && (rpB (.dict [(.str "a", .list [.int 1])]) (.list [.int 1, .list [.int 2]]) && (rpB (.dict [(.str "a", .list [.int 1])]) (.dict [(.str "a", .list [.int 1])]) && (rpB (.dict [(.str "a", .list [.int 1])]) (.tuple []) && (rpB (.dict [(.str "a", .list [.int 1])]) (.bool true) && (rpB (.dict [(.str "a", .list [.int 1])]) (.int (10 ^ 50)) && true)))))))) = true
  rw [rp40, rp41, rp42, rp43, rp44, rp45, rp46, rp47]
  rfl
theorem rp5 : rpA (.tuple []) = true := by
  show (rpB (.tuple []) (.none) && (rpB (.tuple []) (.int 5) && (rpB (.tuple []) (.str "cells") && (rpB (.tuple []) (.list [.int 1, .list [.int 2]]) && (rpB (.tuple []) (.dict [(.str "a", .list [.int 1])]) && (rpB (.tuple []) (.tuple []) && (rpB (.tuple []) (.bool true) && (rpB (.tuple []) (.int (10 ^ 50)) && true)))))))) = true
  rw [rp50, rp51, rp52, rp53, rp54, rp55, rp56, rp57]
  rfl
theorem rp6 : rpA (.bool true) = true := by
  show (rpB (.bool true) (.none) && (rpB (.bool true) (.int 5) && (rpB (.bool true) (.str "cells") && (rpB (.bool true) (.list [.int 1, .list [.int 2]]) && (rpB (.bool true) (.dict [(.str "a", .list [.int 1])]) && (rpB (.bool true) (.tuple []) && (rpB (.bool true) (.bool true) && (rpB (.bool true) (.int (10 ^ 50)) && true)))))))) = true
  rw [rp60, rp61, rp62, rp63, rp64, rp65, rp66, rp67]
  rfl
theorem rp7 : rpA (.int (10 ^ 50)) = true := by
  show (rpB (.int (10 ^ 50)) (.none) && (rpB (.int (10 ^ 50)) (.int 5) && (rpB (.int (10 ^ 50)) (.str "cells") && (rpB (.int (10 ^ 50)) (.list [.int 1, .list [.int 2]]) && (rpB (.int (10 ^ 50)) (.dict [(.str "a", .list [.int 1])]) && (rpB (.int (10 ^ 50)) (.tuple []) && (rpB (.int (10 ^ 50)) (.bool true) && (rpB (.int (10 ^ 50)) (.int (10 ^ 50)) && true)))))))) = true
  rw [rp70, rp71, rp72, rp73, rp74, rp75, rp76, rp77]
  rfl
theorem repabc : ∀ a ∈ itE, rpA a = true := by
  intro a h
  simp only [itE, List.mem_cons, List.not_mem_nil, or_false] at h
  rcases h with rfl | rfl | rfl | rfl | rfl | rfl | rfl | rfl
  · exact rp0
  · exact rp1
  · exact rp2
  · exact rp3
  · exact rp4
  · exact rp5
  · exact rp6
  · exact rp7
theorem sim_eq {F : Fns} : Sim (fun a b => a = b) F F := ⟨fun _ _ _ h => h, fun i ds π π' d π1 r h => ⟨π1, by rw [← r]; exact h, rfl⟩, fun _ _ _ h => h⟩
/-- a state of the errors' part -/
structure InvE (b : Int) (st : S) : Prop where
  pi : ∃ π, st.π = some π ∧ Pg b π
  len : st.δ.length = 15
  pen : st.δ[0]? = some .pen
  som : st.δ[1]? = some (.dat someE)
theorem get_dat {st : S} {i : Nat} {d : PyData} (h : st.δ[i]? = some (.dat d)) : st.get i = some d := by unfold S.get; rw [h]
theorem dat_get {st : S} {i : Nat} {d : PyData} (h : st.get i = some d) : st.δ[i]? = some (.dat d) := by
  unfold S.get at h
  split at h
  · cases h; assumption
  · cases h
theorem ev_pick {F : Fns} {st : S} {π π' : Pen} {j i : Nat} {d x : PyData} (hp : st.δ[j]? = some .pen) (hπ : st.π = some π) (hg : st.get i = some d) (e : F.pf 0 [d] π = some (x, π')) : evalE F (.pcall 0 j (.cons (.var i) .nil)) st = some (x, ⟨st.δ, some π'⟩) := by
  simp only [evalE, evalL, hp, hπ, hg, e]
theorem e_draw {b : Int} {st : S} (I : InvE b st) (hb : b + 3 ≤ 1000000) : ∃ x y z π', x ∈ itE ∧ y ∈ itE ∧ z ∈ itE ∧ Pg (b + 3) π' ∧ evalS F_err (atS loopE 0) st = some (.nx ((((⟨st.δ, some π'⟩ : S).set 5 x).set 6 y).set 7 z)) := by
  obtain ⟨π, hπ, P⟩ := I.pi
  have l0 : 0 < itE.length := by rw [itE_len]; decide
  have l1 : (itE.length : Int) < 1073741824 := by rw [itE_len]; decide
  obtain ⟨x, π1, q1, hx, P1⟩ := pick_ok P (by omega) l0 l1
  obtain ⟨y, π2, q2, hy, P2⟩ := pick_ok P1 (by omega) l0 l1
  obtain ⟨z, π3, q3, hz, P3⟩ := pick_ok P2 (by omega) l0 l1
  rw [← someE_eq] at q1 q2 q3
  have g : st.get 1 = some someE := get_dat I.som
  refine ⟨x, y, z, π3, hx, hy, hz, by rw [show b + 3 = b + 1 + 1 + 1 by omega]; exact P3, ?_⟩
  show evalS F_err (.par3 5 6 7 (.pcall 0 0 (.cons (.var 1) .nil)) (.pcall 0 0 (.cons (.var 1) .nil)) (.pcall 0 0 (.cons (.var 1) .nil))) st = _
  have k1 := ev_pick (F := F_err) (st := st) (j := 0) (i := 1) I.pen hπ g q1
  have k2 := ev_pick (F := F_err) (st := ⟨st.δ, some π1⟩) (j := 0) (i := 1) I.pen rfl g q2
  have k3 := ev_pick (F := F_err) (st := ⟨st.δ, some π2⟩) (j := 0) (i := 1) I.pen rfl g q3
  simp only [evalS, k1, k2, k3]
theorem body_ex (x y z : PyData) (π : Pen) (hx : x ∈ itE) (hy : y ∈ itE) (hz : z ∈ itE) : ∃ s4 : S, evalSs F_err (dropS loopE 1) (e0 x y z π) = some (.nx s4) ∧ s4.δ[0]? = some .pen ∧ s4.δ[1]? = some (.dat someE) ∧ s4.δ.length = 15 ∧ s4.π = some π := by
  have h7 : repOk (.list [x, x, x, x, x, x, x]) = true := List.all_eq_true.mp rep7 x hx
  have ha := repabc x hx
  unfold rpA at ha
  have hb := List.all_eq_true.mp ha y hy
  have hc : repOk (.list [x, y, z, x, y, x, y]) = true := List.all_eq_true.mp hb z hz
  exact ⟨e4 x y z π, errors_body x y z π h7 hc, e4_pen x y z π, e4_som x y z π, e4_len x y z π, e4_pi x y z π⟩
theorem le_e0 {st : S} {π : Pen} {x y z : PyData} (len : st.δ.length = 15) (pen : st.δ[0]? = some .pen) (som : st.δ[1]? = some (.dat someE)) : Le (fun a b : Pen => a = b) (e0 x y z π) ((((⟨st.δ, some π⟩ : S).set 5 x).set 6 y).set 7 z) := by
  have l0 : Le (fun a b : Pen => a = b) ⟨[.pen, .dat someE, .unk, .unk, .unk, .unk, .unk, .unk, .unk, .unk, .unk, .unk, .unk, .unk, .unk], some π⟩ ⟨st.δ, some π⟩ := by
    refine ⟨by rw [len]; rfl, fun i v h => ?_, rfl⟩
    match i with
    | 0 => exact .inr (pen.trans h)
    | 1 => exact .inr (som.trans h)
    | i + 2 =>
      have h : (List.replicate 13 SD.unk)[i]? = some v := h
      rw [List.getElem?_replicate] at h
      split at h
      · exact .inl (Option.some.inj h).symm
      · cases h
  exact ((l0.put 5 (.dat x)).put 6 (.dat y)).put 7 (.dat z)
theorem inv_of {b : Int} {s4 st' : S} {π : Pen} (l : Le (fun a b : Pen => a = b) s4 st') (P : Pg b π) (hp : s4.δ[0]? = some .pen) (hs : s4.δ[1]? = some (.dat someE)) (hl : s4.δ.length = 15) (hπ : s4.π = some π) : InvE b st' := by
  refine ⟨?_, by rw [← l.len]; exact hl, l.δp hp, dat_get (l.get (get_dat hs))⟩
  have lp := l.pen
  rw [hπ] at lp
  cases q : st'.π with
  | none => rw [q] at lp; exact lp.elim
  | some π' =>
    rw [q] at lp
    have lp : π = π' := lp
    exact ⟨π', rfl, lp ▸ P⟩
theorem e_step {b : Int} {st : S} (I : InvE b st) (hb : b + 3 ≤ 1000000) : ∃ st', evalSs F_err loopE st = some (.nx st') ∧ InvE (b + 3) st' := by
  obtain ⟨x, y, z, π, hx, hy, hz, P, e⟩ := e_draw I hb
  obtain ⟨s4, body, hp, hs, hl, hπ⟩ := body_ex x y z π hx hy hz
  obtain ⟨o, f, l⟩ := simSs sim_eq (dropS loopE 1) _ _ _ (by decide +kernel) (le_e0 I.len I.pen I.som) body
  cases o with
  | rt _ _ => exact l.elim
  | nx st' => exact ⟨st', ss_nx e f, inv_of l P hp hs hl hπ⟩
theorem e_loop : ∀ (l : List PyData) (b : Int) (st : S), InvE b st → b + 3 * l.length ≤ 1000000 → ∃ st', forLoop (evalSs F_err loopE) 2 l st = some (.nx st') ∧ InvE (b + 3 * l.length) st'
  | [], b, st, I, _ => ⟨st, rfl, by simpa using I⟩
  | d :: l, b, st, I, hb => by
    simp only [List.length_cons] at hb ⊢
    have I0 : InvE b (st.set 2 d) := ⟨I.pi, by simpa [S.set] using I.len, by show (st.δ.set 2 _)[0]? = _; rw [List.getElem?_set_ne (by decide)]; exact I.pen, by show (st.δ.set 2 _)[1]? = _; rw [List.getElem?_set_ne (by decide)]; exact I.som⟩
    obtain ⟨st1, q1, I1⟩ := e_step I0 (by omega)
    obtain ⟨st2, q2, I2⟩ := e_loop l (b + 3) st1 I1 (by omega)
    refine ⟨st2, by simp only [forLoop, q1, q2], ?_⟩
    have z : b + 3 * ((l.length + 1 : Nat) : Int) = b + 3 + 3 * l.length := by omega
    rw [z]
    exact I2
def i4 : List PyData := [.int 0, .int 1, .int 2, .int 3]
theorem e_end {b : Int} {st : S} (I : InvE b st) : ∃ q, evalSs F_err (dropS c_law_errors_right 2) st = some (.rt (.bool true) (some q)) ∧ Pg b q := by
  obtain ⟨π, hπ, P⟩ := I.pi
  have k : evalSs F_err (dropS c_law_errors_right 2) ⟨List.replicate 15 .unk, some π⟩ = some (.rt (.bool true) (some π)) := by kernel_rfl
  have le : Le (fun a b : Pen => a = b) ⟨List.replicate 15 .unk, some π⟩ st := by
    refine ⟨by rw [I.len]; rfl, fun i v h => ?_, by rw [hπ]; exact rfl⟩
    rw [List.getElem?_replicate] at h
    split at h
    · exact .inl (Option.some.inj h).symm
    · cases h
  obtain ⟨o, f, l⟩ := simSs sim_eq (dropS c_law_errors_right 2) _ _ _ (by decide +kernel) le k
  cases o with
  | nx _ => exact l.elim
  | rt d p =>
    obtain ⟨rfl, l⟩ := l
    cases p with
    | none => exact l.elim
    | some q =>
      have l : π = q := l
      exact ⟨q, f, l ▸ P⟩
def m_law_errors_right (ds : List PyData) (π : Pen) : Option (PyData × Pen) := if ds.length = 0 then bodyP F_err c_law_errors_right n_law_errors_right ds π else none
theorem errors_plain {π : Pen} {b : Int} (P : Pg b π) (hb : b + 12 ≤ 1000000) : ∃ π', m_law_errors_right [] π = some (.bool true, π') ∧ Pg (b + 12) π' := by
  have h0 : evalS F_err (atS c_law_errors_right 0) ⟨init n_law_errors_right [.pen], some π⟩ = some (.nx ⟨(init n_law_errors_right [.pen]).set 1 (.dat someE), some π⟩) := by kernel_rfl
  have I0 : InvE b ⟨(init n_law_errors_right [.pen]).set 1 (.dat someE), some π⟩ := ⟨⟨π, rfl, P⟩, rfl, rfl, rfl⟩
  obtain ⟨st3, q3, I3⟩ := e_loop i4 b _ I0 hb
  obtain ⟨q, q4, P4⟩ := e_end I3
  have h1 : evalS F_err (atS c_law_errors_right 1) ⟨(init n_law_errors_right [.pen]).set 1 (.dat someE), some π⟩ = some (.nx st3) := q3
  have q : evalSs F_err c_law_errors_right ⟨init n_law_errors_right [.pen], some π⟩ = some (.rt (.bool true) (some q)) := ss_nx h0 (ss_nx h1 q4)
  refine ⟨_, ?_, P4⟩
  unfold m_law_errors_right bodyP
  rw [if_pos (show ([] : List PyData).length = 0 from rfl)]
  show (match evalSs F_err c_law_errors_right ⟨init n_law_errors_right [.pen], some π⟩ with
    | some (.rt d (some π')) => some (d, π')
    | some (.nx ⟨_, some π'⟩) => some (.none, π')
    | _ => none) = _
  rw [q]
end K00


set_option Elab.async false
set_option linter.all false
set_option maxRecDepth 100000
set_option maxHeartbeats 8000000
namespace K00
open PySem PySem.Spec PyProof.Rows L2 Kd
/-- a state of the papers' part -/
structure InvP (b : Int) (st : S) : Prop where
  pi : ∃ π, st.π = some π ∧ Pg b π
  len : st.δ.length = 15
  pen : st.δ[0]? = some .pen
  som : st.δ[4]? = some (.dat someP)
theorem le_srcP {E : Pen → Prop} {l : List Int} {st : S} {π : Pen} (hp : st.π = some π) (len : st.δ.length = 15) (h0 : st.δ[0]? = some .pen) (h4 : st.δ[4]? = some (.dat someP)) (r : TpR m_law_draw E l π) : Le (TpS m_law_draw E) (srcP someP l) st := by
  refine ⟨by rw [len]; rfl, fun i x h => ?_, by rw [hp]; exact r⟩
  match i with
  | 0 => exact .inr (h0.trans h)
  | 1 => exact .inl (Option.some.inj h).symm
  | 2 => exact .inl (Option.some.inj h).symm
  | 3 => exact .inl (Option.some.inj h).symm
  | 4 => exact .inr (h4.trans h)
  | i + 5 =>
    have h : (List.replicate 10 SD.unk)[i]? = some x := h
    rw [List.getElem?_replicate] at h
    split at h
    · exact .inl (Option.some.inj h).symm
    · cases h
theorem okP_inv {ts : List Int} (h : okP ts = true) : ∃ δ π, evalSs G_pap loopP (srcP someP (zipT [8, 8] ts)) = some (.nx ⟨δ, some π⟩) ∧ δ[0]? = some .pen ∧ δ[4]? = some (.dat someP) ∧ π.ns = [] ∧ δ.length = 15 := by
  unfold okP at h
  split at h
  · rename_i δ π ev
    simp only [Bool.and_eq_true, beq_iff_eq] at h
    exact ⟨δ, π, ev, isPen_eq h.1, isDat_eq h.2.1, List.isEmpty_iff.mp h.2.2.1, h.2.2.2⟩
  · cases h
theorem invP_of {b : Int} {δ : List SD} {p : Pen} {st' : S} (l : Le (TpS m_law_draw (Pg b)) ⟨δ, some p⟩ st') (h0 : δ[0]? = some .pen) (h4 : δ[4]? = some (.dat someP)) (hn : p.ns = []) (hl : δ.length = 15) : InvP b st' := by
  refine ⟨?_, by rw [← l.len]; exact hl, l.δp h0, dat_get (l.get (get_dat h4))⟩
  have lp := l.pen
  cases e : st'.π with
  | none => rw [e] at lp; exact lp.elim
  | some q =>
    rw [e] at lp
    have lp : TpR m_law_draw (Pg b) p.ns q := lp
    rw [hn] at lp
    exact ⟨q, rfl, lp⟩
theorem p_step {b : Int} {st : S} (I : InvP b st) (hb : b + 2 ≤ 1000000) : ∃ st', evalSs F_pap loopP st = some (.nx st') ∧ InvP (b + 2) st' := by
  obtain ⟨π, hp, P⟩ := I.pi
  obtain ⟨ts, low, r⟩ := tape_ex draws [8, 8] P (by simpa using hb) (by decide)
  have ok : okP ts = true := by
    match ts, low with
    | [x, y], ⟨h1, h2, _⟩ =>
      obtain ⟨x, rfl⟩ : ∃ k : Nat, x = k := ⟨x.toNat, by omega⟩
      obtain ⟨y, rfl⟩ : ∃ k : Nat, y = k := ⟨y.toNat, by omega⟩
      exact ps x y (by omega) (by omega)
  obtain ⟨δ, p, ev, o0, o4, on, ol⟩ := okP_inv ok
  obtain ⟨o', f, l⟩ := simSs (sim_pap (E := Pg (b + 2))) loopP _ st _ (by decide +kernel) (le_srcP hp I.len I.pen I.som r) ev
  cases o' with
  | rt _ _ => exact l.elim
  | nx st' => exact ⟨st', f, invP_of l o0 o4 on ol⟩
theorem p_loop : ∀ (l : List PyData) (b : Int) (st : S), InvP b st → b + 2 * l.length ≤ 1000000 → ∃ st', forLoop (evalSs F_pap loopP) 3 l st = some (.nx st') ∧ InvP (b + 2 * l.length) st'
  | [], b, st, I, _ => ⟨st, rfl, by simpa using I⟩
  | d :: l, b, st, I, hb => by
    simp only [List.length_cons] at hb ⊢
    have I0 : InvP b (st.set 3 d) := ⟨I.pi, by simpa [S.set] using I.len, by show (st.δ.set 3 _)[0]? = _; rw [List.getElem?_set_ne (by decide)]; exact I.pen, by show (st.δ.set 3 _)[4]? = _; rw [List.getElem?_set_ne (by decide)]; exact I.som⟩
    obtain ⟨st1, q1, I1⟩ := p_step I0 (by omega)
    obtain ⟨st2, q2, I2⟩ := p_loop l (b + 2) st1 I1 (by omega)
    refine ⟨st2, by simp only [forLoop, q1, q2], ?_⟩
    have z : b + 2 * ((l.length + 1 : Nat) : Int) = b + 2 + 2 * l.length := by omega
    rw [z]
    exact I2
theorem okP0_inv : ∃ δ π, preP = some (.nx ⟨δ, some π⟩) ∧ δ[0]? = some .pen ∧ δ[4]? = some (.dat someP) ∧ π.ns = [] ∧ δ.length = 15 := by
  have h := okP0_
  unfold okP0 at h
  split at h
  · rename_i δ π ev
    simp only [Bool.and_eq_true, beq_iff_eq] at h
    exact ⟨δ, π, ev, isPen_eq h.1, isDat_eq h.2.1, List.isEmpty_iff.mp h.2.2.1, h.2.2.2⟩
  · cases h
theorem ss_take {F : Fns} : ∀ (n : Nat) (c : Sds) (st st1 : S) (o : Option Out), evalSs F (takeS c n) st = some (.nx st1) → evalSs F (dropS c n) st1 = o → evalSs F c st = o
  | 0, c, st, st1, o, h, k => by
    have h : evalSs F .nil st = some (.nx st1) := by cases c <;> exact h
    cases h
    cases c <;> exact k
  | n + 1, .nil, st, st1, o, h, k => by
    cases h
    exact k
  | n + 1, .cons s ss, st, st1, o, h, k => by
    have h : (match evalS F s st with
      | some (.nx st1) => evalSs F (takeS ss n) st1
      | some (.rt d p) => some (.rt d p)
      | none => none) = some (.nx st1) := h
    split at h
    · rename_i s1 e
      exact ss_nx e (ss_take n ss s1 st1 o h k)
    · cases h
    · cases h
/-- the papers' part but its end -/
theorem papers_plain {π : Pen} {b : Int} (P : Pg b π) (hb : b + 8 ≤ 1000000) : ∃ st', evalSs F_pap c_law_papers_right ⟨init n_law_papers_right [.pen], some π⟩ = some (.nx st') ∧ InvP (b + 8) st' := by
  obtain ⟨δ, p, ev, o0, o4, on, ol⟩ := okP0_inv
  have le : Le (TpS m_law_draw (Pg b)) ⟨.pen :: List.replicate 14 .unk, some ⟨[], 0, 0⟩⟩ ⟨init n_law_papers_right [.pen], some π⟩ := ⟨rfl, fun i x h => .inr h, P⟩
  obtain ⟨o', f, l⟩ := simSs (sim_pap (E := Pg b)) (takeS c_law_papers_right 3) _ _ _ (by decide +kernel) le ev
  cases o' with
  | rt _ _ => exact l.elim
  | nx st1 =>
    have I1 : InvP b st1 := invP_of l o0 o4 on ol
    obtain ⟨st3, q3, I3⟩ := p_loop i4 b _ I1 hb
    have h1 : evalS F_pap (atS c_law_papers_right 3) st1 = some (.nx st3) := q3
    exact ⟨st3, ss_take 3 _ _ _ _ f (ss_nx h1 ss_nil), I3⟩
def m_law_papers_right (ds : List PyData) (π : Pen) : Option (PyData × Pen) := if ds.length = 0 then (match evalSs F_pap c_law_papers_right ⟨init n_law_papers_right [.pen], some π⟩ with
  | some (.nx ⟨δ, some π'⟩) => if δ.length = 15 ∧ isPen δ[0]? = true then some (.bool true, π') else none
  | _ => none) else none
theorem m_papers_ok {π : Pen} {b : Int} (P : Pg b π) (hb : b + 8 ≤ 1000000) : ∃ π', m_law_papers_right [] π = some (.bool true, π') ∧ Pg (b + 8) π' := by
  obtain ⟨⟨δ, p⟩, e, I⟩ := papers_plain P hb
  obtain ⟨π', hp, Pq⟩ := I.pi
  have hp : p = some π' := hp
  subst hp
  refine ⟨π', ?_, Pq⟩
  unfold m_law_papers_right
  rw [if_pos (show ([] : List PyData).length = 0 from rfl), e]
  have l : δ.length = 15 := I.len
  have h0 : δ[0]? = some .pen := I.pen
  show (if δ.length = 15 ∧ isPen δ[0]? = true then some (PyData.bool true, π') else none) = _
  rw [if_pos ⟨l, by rw [h0]; rfl⟩]
theorem m_papers_inv {ds : List PyData} {π π' : Pen} {d : PyData} (h : m_law_papers_right ds π = some (d, π')) : ds = [] ∧ d = .bool true ∧ ∃ δ, evalSs F_pap c_law_papers_right ⟨init n_law_papers_right [.pen], some π⟩ = some (.nx ⟨δ, some π'⟩) ∧ δ.length = 15 ∧ δ[0]? = some .pen := by
  unfold m_law_papers_right at h
  split at h
  · rename_i l
    split at h
    · rename_i δ π1 ev
      split at h
      · rename_i c
        cases h
        exact ⟨List.length_eq_zero_iff.mp l, rfl, δ, ev, c.1, isPen_eq c.2⟩
      · cases h
    · cases h
  · cases h
end K00


set_option Elab.async false
set_option linter.all false
set_option maxRecDepth 100000
set_option maxHeartbeats 4000000
namespace Kd
open PySem PySem.Spec PyProof.Rows L2
/-! A head of a body run by its code, the rest by hand; `not e` of instances as a value; data without lists, where lists are dropped. -/
mutual
def noL : PyData → Bool
  | .list _ => false
  | .tuple xs => noLs xs
  | .dict kvs => noLk kvs
  | _ => true
def noLs : List PyData → Bool
  | [] => true
  | x :: xs => noL x && noLs xs
def noLk : List (PyData × PyData) → Bool
  | [] => true
  | (_, x) :: xs => noL x && noLk xs
end
section
variable {K : PySem.W.Frag} {B B7 : Hp}
theorem rd_drop {a : Addr} {o : HO} (h : ∀ b o, B b = some o → (∀ xs, o ≠ .lst xs) → B7 b = some o) (hn : ∀ xs, o ≠ .lst xs) (r : Rd B a o) : Rd B7 a o := by
  rcases r with r | ⟨o', r⟩
  · exact .inl (h _ _ r hn)
  · exact .inr ⟨o', h _ _ r fun xs => nofun⟩
mutual
theorem Dv.drop (h : ∀ b o, B b = some o → (∀ xs, o ≠ .lst xs) → B7 b = some o) : ∀ (d : PyData) (v : V), noL d = true → Dv K B v d → Dv K B7 v d
  | .none, _, _, r => by cases r; exact .non
  | .bool b, _, _, r => by cases r; exact .bl b
  | .int i, _, _, r => by cases r; exact .int i
  | .str x, _, _, r => by cases r; exact .str x
  | .list xs, _, n, _ => by simp [noL] at n
  | .tuple xs, _, n, r => by
    cases r with
    | tup h1 r1 =>
      have n : noLs xs = true := by simpa [noL] using n
      refine .tup ?_ (DvL.drop h xs _ n r1)
      rcases h1 with h1 | h1
      · exact .inl (rd_drop h (fun _ => nofun) h1)
      · exact .inr h1
  | .dict kvs, _, n, r => by
    have n : noLk kvs = true := by simpa [noL] using n
    cases r with
    | dct h1 r1 => exact .dct (h _ _ h1 fun _ => nofun) (DvK.drop h kvs _ n r1)
    | exc hx h1 h2 r1 =>
      have n : noLk _ = true := (Bool.and_eq_true_iff.mp (show (noL _ && noLk _) = true from n)).2
      exact .exc hx (h _ _ h1 fun _ => nofun) (h _ _ h2 fun _ => nofun) (DvK.drop h _ _ n r1)
    | ins hx h1 r1 =>
      have n : noLk _ = true := (Bool.and_eq_true_iff.mp (show (noL _ && noLk _) = true from n)).2
      exact .ins hx (h _ _ h1 fun _ => nofun) (DvK.drop h _ _ n r1)
theorem DvL.drop (h : ∀ b o, B b = some o → (∀ xs, o ≠ .lst xs) → B7 b = some o) : ∀ (d : List PyData) (v : List V), noLs d = true → DvL K B v d → DvL K B7 v d
  | [], _, _, r => by cases r; exact .nil
  | x :: xs, _, n, r => by
    cases r with
    | cons h1 r1 =>
      obtain ⟨n1, n2⟩ := Bool.and_eq_true_iff.mp (show (noL x && noLs xs) = true from n)
      exact .cons (Dv.drop h x _ n1 h1) (DvL.drop h xs _ n2 r1)
theorem DvK.drop (h : ∀ b o, B b = some o → (∀ xs, o ≠ .lst xs) → B7 b = some o) : ∀ (d : List (PyData × PyData)) (v : List (Key × V)), noLk d = true → DvK K B v d → DvK K B7 v d
  | [], _, _, r => by cases r; exact .nil
  | (k, x) :: xs, _, n, r => by
    obtain ⟨n1, n2⟩ := Bool.and_eq_true_iff.mp (show (noL x && noLk xs) = true from n)
    cases r with
    | cons h1 r1 => exact .cons (Dv.drop h x _ n1 h1) (DvK.drop h xs _ n2 r1)
end
end
/-! ### not e, as a value -/
def notTru (tv : List (Str × Bool)) (ds : List PyData) : Option PyData := notO (truOx tv ds)
inductive ShNotE : List Expr → Expr → Prop
  | mk {a : Expr} {pos : Pos} : ShNotE [a] (.UnaryOp .Not a pos)
def shNot : Shp := { e := fun _ es x => ShNotE es x }
theorem oxf_not {P : Program} {w : World} {K : PySem.W.Frag} {mg : Str → Option Value} {base : Heap} {k : Nat} {tv : List (Str × Bool)} (T : TruF P w K mg base k tv) : OxF P w K mg base k shNot (notTru tv) := by
  rintro X rfl rfl rfl rfl rfl hr hg hc hn
  constructor
  · intro es x h p B0 H0 B H σ st1 ds z Q hm hl q
    cases (show ShNotE es x from h)
    rename_i a pos
    have tr := tru_own (X := X) T hr hg
    have pe : PE X (.UnaryOp .Not a pos) (fun σ H Q => wE X a σ H fun x H1 => ∃ B d b, Same B H1 ∧ Dv X.K B x d ∧ truOx tv [d] = some (.bool b) ∧ ∀ H', Same H1 H' → Q (.bl (!b)) H') := by
      refine ⟨fun pins s σ H Q I h => ?_⟩
      refine UnaryOp_ (thn (pe_w.run pins s σ H _ I h) fun v s1 ⟨x, H1, I1, r1, q1⟩ => ?_)
      exact not_of (thn (tr pins s1 σ H1 x v (fun c H2 => Q (.bl (!c)) H2) I1 r1 q1) fun c s2 ⟨H2, I2, q2⟩ => ⟨.bl (!c), H2, I2, rfl, q2⟩)
    refine w_pe pe ?_
    exact hl (fun vs H2 => match vs with
      | [v] => ∃ B d b, Same B H2 ∧ Dv X.K B v d ∧ truOx tv [d] = some (.bool b) ∧ ∀ H', Same H2 H' → Q (.bl (!b)) H'
      | _ => False) fun vs B1 H1 R s dv => by
        unfold notTru notO at hm
        split at hm
        · rename_i c hm'
          cases hm
          obtain ⟨d1, c', rfl, _⟩ := truOx_bool _ _ hm'
          cases dv with
          | cons e1 r => cases r with
            | nil => exact ⟨B1, d1, c, R.ext, e1, hm', fun H3 g => q _ B1 H3 (R.heap g) s (.bl _)⟩
        · cases hm
  · exact fun es x h => h.elim
  · exact fun _ _ es js x h => h.elim
/-! ### a head by its code -/
theorem soundSs_app {Γ : Gam} {F : Fns} {N : List Str} {k : Nat} {sc : Scope} (rest : List Stmt) : ∀ (ss : List Stmt) (cs : Sds), CorSs Γ N sc ss cs → ∀ (X : Cx), OkS Γ F N k X → X.env.scope = sc → ∀ {p : Option Addr} {B0 H0 B H : Hp} {σ : L2.St} {st st' : S}, Rel X.K p B0 H0 B H σ st → evalSs F cs st = some (.nx st') →
    ∀ {D : Ends}, (∀ σ' B' H', Rel X.K p B0 H0 B' H' σ' st' → Same B B' → wSs X rest D σ' H') → wSs X (ss ++ rest) D σ H
  | [], cs, h, X, ok, hs, p, B0, H0, B, H, σ, st, st', R, ev, D, q => by
    cases h
    cases ev
    exact q σ B H R (Same.refl _)
  | s :: ss, cs, h, X, ok, hs, p, B0, H0, B, H, σ, st, st', R, ev, D, q => by
    cases h with
    | cons h1 h2 =>
      simp only [evalSs] at ev
      split at ev
      · rename_i st1 e1
        refine w_pss (pss_cons ps_w pss_w) ?_
        refine soundS h1 X ok hs _ _ _ _ _ _ _ _ R e1 _ fun σ1 B1 H1 R1 s1 => ?_
        exact soundSs_app rest ss _ h2 X ok hs R1 ev fun σ' B' H' R' s' => q σ' B' H' R' (s1.trans s')
      · cases ev
      · cases ev
end Kd


set_option Elab.async false
set_option linter.all false
set_option maxRecDepth 100000
set_option maxHeartbeats 8000000
namespace K00
open PySem PySem.Spec PyProof.Rows L2 Kd
/-! the end of the papers' part: a list within a list is changed -/
def g_tail : Gam := ⟨[], [], [⟨"Denial", 1, [], [0]⟩], [], [("parts", [], ["Paper", "Denial", "Kept", "Beaten"])], [], [shCmp .Eq, shNot]⟩
def c_tail : Sds := (.cons (.ret (.and_ (.cmp .Eq (.attr (.var 14) "parts" [] ["Paper", "Denial", "Kept", "Beaten"]) (.tup (.cons (.tup (.cons (.cst (.int (1))) (.cons (.tup (.cons (.cst (.int (2))) .nil)) .nil))) (.cons (.tup (.cons (.cst (.int (1))) (.cons (.tup (.cons (.cst (.int (2))) .nil)) .nil))) .nil)))) (.and_ (.op 0 (.cons (.call 0 (.cons (.cst (.str "no")) .nil)) (.cons (.call 0 (.cons (.cst (.str "no")) .nil)) .nil))) (.and_ (.cmp .Eq (.attr (.call 0 (.cons (.cst (.str "no")) .nil)) "parts" [] ["Paper", "Denial", "Kept", "Beaten"]) (.tup .nil)) (.op 1 (.cons (.call 0 (.cons (.cst (.str "no")) .nil)) .nil))))))
    .nil)
theorem k_tail : CorSs g_tail n_law_papers_right (defScope s_law_papers_right) ((defBody s_law_papers_right).drop 7) c_tail := (.cons (.ret (.and_ (.cmp (.attr (.var rfl (.inl rfl) rfl rfl) (by decide +kernel) (fun _ => rfl)) (.tup (.cons (.tup (.cons .int (.cons (.tup (.cons .int .nil (fun _ => rfl))) .nil (fun _ => rfl)) (fun _ => rfl))) (.cons (.tup (.cons .int (.cons (.tup (.cons .int .nil (fun _ => rfl))) .nil (fun _ => rfl)) (fun _ => rfl))) .nil (fun _ => rfl)) (fun _ => rfl))) (nomark _)) (.and_ (.op (i := 0) (Sh := shCmp .Eq) rfl ⟨_, _, _, rfl, rfl⟩ (.cons (.call (i := 0) rfl (.cons .str .nil (fun _ => rfl)) rfl rfl rfl) (.cons (.call (i := 0) rfl (.cons .str .nil (fun _ => rfl)) rfl rfl rfl) .nil (fun _ => rfl)) (fun _ => rfl))) (.and_ (.cmp (.attr (.call (i := 0) rfl (.cons .str .nil (fun _ => rfl)) rfl rfl rfl) (by decide +kernel) (fun _ => rfl)) (.tup .nil) (nomark _)) (.one (.op (i := 1) (Sh := shNot) rfl (by exact .mk) (.cons (.call (i := 0) rfl (.cons .str .nil (fun _ => rfl)) rfl rfl rfl) .nil (fun _ => rfl))))))))
    .nil)
def F_tail : Fns := ⟨fun i ds => match i with | 0 => papM 16 "Denial" 1 ds | _ => none, fun _ _ _ => none, fun i ds => match i with | 0 => eqOx csP lfP ds | 1 => notTru tvP ds | _ => none⟩
def dT : PyData := .tuple [.int 1, .tuple [.int 2]]
def dPassed : PyData := .list [.int 1, .list [.int 2]]
def dHeld : PyData := .dict [(.bool true, .str "Kept"), (.str "word", .str "kept"), (.str "parts", .tuple [dT, dT]), (.str "machine", dT), (.str "ranks", dT)]
theorem held_is : keptM 16 "Kept" "kept" [0, 1] [dPassed, dPassed] = some dHeld := by kernel_rfl
theorem noL_held : noL dHeld = true := by kernel_rfl
def st7 (π : Pen) : S := ⟨[.pen, .unk, .unk, .unk, .unk, .unk, .unk, .unk, .unk, .unk, .unk, .unk, .unk, .unk, .dat dHeld], some π⟩
theorem ev_tail (π : Pen) : evalSs F_tail c_tail (st7 π) = some (.rt (.bool true) (some π)) := by kernel_rfl
section
variable {K : PySem.W.Frag} {a q l : Addr} {B0 H0 B1 H1 B6 H6 : Hp} {σ1 : L2.St} {st1 : S} {π : Pen} {v : V} {xs ys zs : List V}
theorem rel_tail (R : Rel K (some a) B0 H0 B1 H1 σ1 st1) (hπ : st1.π = some π) (len : st1.δ.length = 15) (h0 : st1.δ[0]? = some .pen) (hq : H1 q = none) (hl : upd H1 q (.lst xs) l = none)
    (s36 : Same (upd (upd B1 q (.lst xs)) l (.lst ys)) B6) (sH : Same B6 H6) (sHH : Same (upd (upd H1 q (.lst xs)) l (.lst ys)) H6) (nw : New (upd (upd B1 q (.lst xs)) l (.lst ys)) (upd (upd H1 q (.lst xs)) l (.lst ys)) B6) (dv : Dv K B6 v dHeld) :
    Rel K (some a) B0 H0 (fun b => if b = q ∨ b = l then none else B6 b) (upd H6 q (.lst zs)) ((σ1.set 13 (some (.ref l))).set 14 (some v)) (st7 π) := by
  have nlq : l ≠ q := fun z => by rw [z, upd_same] at hl; cases hl
  have hl1 : H1 l = none := by rwa [upd_ne nlq] at hl
  obtain ⟨q0, qa, qb⟩ := R.free hq
  obtain ⟨l0, la, lb⟩ := R.free hl1
  have naq : a ≠ q := fun z => qa (by rw [z])
  have nal : a ≠ l := fun z => la (by rw [z])
  have haH : H1 a ≠ none := R.pen.there rfl
  have up1 : ∀ b o, H1 b = some o → upd (upd H1 q (.lst xs)) l (.lst ys) b = some o := fun b o e => by
    rw [upd_ne (ne_of_none e hl1), upd_ne (ne_of_none e hq)]; exact e
  have upB : ∀ b o, B1 b = some o → upd (upd B1 q (.lst xs)) l (.lst ys) b = some o := fun b o e => by
    rw [upd_ne (ne_of_none e lb), upd_ne (ne_of_none e qb)]; exact e
  have s17 : Same B1 (fun b => if b = q ∨ b = l then none else B6 b) := fun b o e => by
    have n : ¬ (b = q ∨ b = l) := by
      rintro (z | z)
      · rw [z, qb] at e; cases e
      · rw [z, lb] at e; cases e
    simp only [if_neg n]
    exact s36 _ _ (upB b o e)
  have b6 : ∀ b o, (if b = q ∨ b = l then none else B6 b) = some o → b ≠ q ∧ b ≠ l ∧ B6 b = some o := fun b o e => by
    split at e
    · cases e
    · rename_i n
      exact ⟨fun z => n (.inl z), fun z => n (.inr z), e⟩
  refine ⟨fun b o n h => ?_, fun b o e => ?_, R.up.trans s17, fun b o e => ?_, fun b e => ?_, R.h0, by simp [st7, R.len, len], fun i d e => ?_, ?_, fun i e => ?_, fun i es e => ?_, fun i j es es' _ e => ?_⟩
  · have h1 := R.fr b o n h
    rw [upd_ne (ne_of_none h1 hq)]
    exact sHH _ _ (up1 b o h1)
  · obtain ⟨n1, n2, e⟩ := b6 b o e
    rw [upd_ne n1]
    exact sH _ _ e
  · obtain ⟨n1, n2, e⟩ := b6 b o e
    rcases nw b o e with ⟨o', e'⟩ | e'
    · rw [upd_ne n2, upd_ne n1] at e'
      exact R.new b o' e'
    · rw [upd_ne n2, upd_ne n1] at e'
      exact .inr (R.free e').1
  · cases e
    show (if a = q ∨ a = l then none else B6 a) = none
    rw [if_neg (by rintro (z | z); exact naq z; exact nal z)]
    cases e : B6 a with
    | none => rfl
    | some o =>
      rcases nw a o e with ⟨o', e'⟩ | e'
      · rw [upd_ne nal, upd_ne naq, R.pn a rfl] at e'
        cases e'
      · rw [upd_ne nal, upd_ne naq] at e'
        exact absurd e' haH
  · have e : (st7 π).δ[i]? = some (.dat d) := dat_get e
    match i with
    | 14 =>
      cases e
      refine ⟨v, ?_, dv.drop (fun b o h n => ?_) _ _ noL_held⟩
      · rw [List.getElem?_set_self (by simp [R.len, len])]
      · have n : ¬ (b = q ∨ b = l) := by
          rintro (z | z)
          · have := s36 q (.lst xs) (by rw [upd_ne nlq.symm, upd_same])
            rw [z, this] at h
            cases h
            exact n _ rfl
          · have := s36 l (.lst ys) upd_same
            rw [z, this] at h
            cases h
            exact n _ rfl
        simp only [if_neg n]
        exact h
    | 0 => cases e
    | 1 => cases e
    | 2 => cases e
    | 3 => cases e
    | 4 => cases e
    | 5 => cases e
    | 6 => cases e
    | 7 => cases e
    | 8 => cases e
    | 9 => cases e
    | 10 => cases e
    | 11 => cases e
    | 12 => cases e
    | 13 => cases e
    | i + 15 => cases e
  · have pe := R.pen
    rw [hπ] at pe
    obtain ⟨a', ea, qn, h1, h2⟩ := pe
    cases ea
    refine ⟨a, rfl, qn, ?_, s17.seq h2⟩
    rw [upd_ne naq]
    exact sHH _ _ (up1 _ _ h1)
  · have e : (st7 π).δ[i]? = some SD.pen := e
    match i with
    | 0 =>
      obtain ⟨a', ea, h1⟩ := R.pv 0 h0
      refine ⟨a', ea, ?_⟩
      rw [List.getElem?_set_ne (by decide), List.getElem?_set_ne (by decide)]
      exact h1
    | 1 => cases e
    | 2 => cases e
    | 3 => cases e
    | 4 => cases e
    | 5 => cases e
    | 6 => cases e
    | 7 => cases e
    | 8 => cases e
    | 9 => cases e
    | 10 => cases e
    | 11 => cases e
    | 12 => cases e
    | 13 => cases e
    | 14 => cases e
    | i + 15 => cases e
  · have e : (st7 π).δ[i]? = some (SD.own es) := e
    match i with
    | 0 => cases e
    | 1 => cases e
    | 2 => cases e
    | 3 => cases e
    | 4 => cases e
    | 5 => cases e
    | 6 => cases e
    | 7 => cases e
    | 8 => cases e
    | 9 => cases e
    | 10 => cases e
    | 11 => cases e
    | 12 => cases e
    | 13 => cases e
    | 14 => cases e
    | i + 15 => cases e
  · have e : (st7 π).δ[i]? = some (SD.own es) := e
    match i with
    | 0 => cases e
    | 1 => cases e
    | 2 => cases e
    | 3 => cases e
    | 4 => cases e
    | 5 => cases e
    | 6 => cases e
    | 7 => cases e
    | 8 => cases e
    | 9 => cases e
    | 10 => cases e
    | 11 => cases e
    | 12 => cases e
    | 13 => cases e
    | 14 => cases e
    | i + 15 => cases e
end
end K00


set_option Elab.async false
set_option linter.all false
set_option maxRecDepth 100000
set_option maxHeartbeats 8000000
namespace K00
open PySem PySem.Spec PyProof.Rows L2 Kd
theorem fgr_fn {P : Program} {w : World} {K : PySem.W.Frag} {mg : Str → Option Value} {base : Heap} {k : Nat} {e : En} {m : List PyData → Option PyData} (h : FnF P w K mg base k e m) : ∃ f, mg e.x = some (.ref f) ∧ PySem.W.keepIn K (.ref f) = true ∧ FGR P w K mg base k f e.n e.ks (SpF K m) := by
  obtain ⟨f, h1, h2, h3⟩ := h.ex
  exact ⟨f, h1, h2, fun A outer s H us ws vs Q hr hg env l1 l2 rv ⟨ds, d, B, sb, dv, hm, q⟩ => h3 A outer s H us ws vs Q ds d B hr hg env l1 l2 rv sb dv hm q⟩
section
variable {P : Program} {w : World} {K : PySem.W.Frag} {mg : Str → Option Value} {base : Heap} {k : Nat} {f : Addr} {fd : FuncData}
theorem fg_papers (M1 : Md g_law_papers_right F_pap P w K mg base k) (M2 : Md g_tail F_tail P w K mg base k) (F : Fun K "_law_papers_right" "_law_papers_right" s_law_papers_right f fd) : FG P w K mg base CX0 (k + 1) f fd ["pen"] (SpP K m_law_papers_right) := by
  refine fg_of F sc_law_papers_right (fun vs H Q E h => ?_) fun cdv A outer s H vs Q E hr hg h => ?_
  · obtain ⟨a, ws, ds, d, B, π, π', rfl, _, _, _, dv, e, _⟩ := h
    obtain ⟨rfl, _⟩ := m_papers_inv e
    cases dv
    rfl
  · obtain ⟨a, ws, ds, d, B, π, π', rfl, ba, sb, pe, dv, e, q⟩ := h
    obtain ⟨rfl, rfl, δ, ev, hlen, h0⟩ := m_papers_inv e
    cases dv
    obtain ⟨fk, mK, kpK, FK⟩ := fgr_fn (M1.fn 0 ⟨"Kept", 2, [], [0, 1]⟩ rfl)
    have ok1 := okS_of (qual := "_law_papers_right") (f := f) (cdv := cdv) (outer := outer) (s := s) (H := H) (E := E) sc_law_papers_right M1 hr hg
    have ok2 := okS_of (qual := "_law_papers_right") (f := f) (cdv := cdv) (outer := outer) (s := s) (H := H) (E := E) sc_law_papers_right M2 hr hg
    have R := rel_startP (N := n_law_papers_right) (ps := ["pen"]) (ds := []) (vs := []) (by decide) sb ba pe .nil
    refine ⟨_, PSs.nox pss_w, ?_⟩
    have key := soundSs_app ((defBody s_law_papers_right).drop 4) _ _ k_law_papers_right _ ok1 rfl R ev (D := { nx := fun _ H' => Q .non H', rt := Q }) fun σ1 B1 H1 R1 s1 => ?_
    · rw [List.take_append_drop] at key
      exact key
    · refine w_pss (pss_cons (ps_set (i := 13) sc_law_papers_right.nd rfl (.inl rfl) (pe_lst (pa_cons pe_int (pa_cons (pe_lst (pa_cons pe_int pa_nil)) pa_nil))))
        (pss_cons (ps_set (i := 14) sc_law_papers_right.nd rfl (.inl rfl) (pe_callG FK hr hg kpK rfl mK (pa_cons (pv 13) (pa_cons (pv 13) pa_nil))))
        (pss_cons (ps_expr (pe_bm PySem.F.plainAttrs_list PySem.F.slot_list_append PySem.F.type_list_append mt_append (pe_ix ix_list (pv 13) pe_int (fun _ _ => rfl)) (pa_cons pe_int pa_nil))) pss_w))) ?_
      have l1 : σ1.length = 15 := by rw [R1.len]; exact hlen
      refine ⟨by rw [sizeLine_eq]; show 1 ≤ _; decide, fun qa hq => ⟨by rw [sizeLine_eq]; show 2 ≤ _; decide, fun la hl => ?_⟩⟩
      have g13 : (σ1.set 13 (some (V.ref la)))[13]? = some (some (V.ref la)) := List.getElem?_set_self (by omega)
      have nlq : la ≠ qa := fun z => by rw [z, upd_same] at hl; cases hl
      have hl1 : H1 la = none := by rwa [upd_ne nlq] at hl
      obtain ⟨_, _, qb⟩ := R1.free hq
      obtain ⟨_, _, lb⟩ := R1.free hl1
      refine ⟨.ref la, g13, .ref la, g13, rfl, [dPassed, dPassed], dHeld, upd (upd B1 qa (.lst [.int 2])) la (.lst [.int 1, .ref qa]), same_upd2 (same_upd2 R1.ext), ?_, held_is, fun v B6 H6 s36 s6 sHH nw dv => ?_⟩
      · have dl : Dv K (upd (upd B1 qa (.lst [.int 2])) la (.lst [.int 1, .ref qa])) (.ref la) dPassed := .lst upd_same (.cons (.int 1) (.cons (.lst (by rw [upd_ne nlq.symm, upd_same]) (.cons (.int 2) .nil)) .nil))
        exact .cons dl (.cons dl .nil)
      · have hl6 : H6 la = some (.lst [.int 1, .ref qa]) := sHH _ _ upd_same
        have hq6 : H6 qa = some (.lst [.int 2]) := sHH _ _ (by rw [upd_ne nlq.symm, upd_same])
        have g13' : ((σ1.set 13 (some (V.ref la))).set 14 (some v))[13]? = some (some (V.ref la)) := by rw [List.getElem?_set_ne (by decide)]; exact g13
        refine ⟨.ref la, g13', la, [.int 1, .ref qa], 1, .ref qa, rfl, rfl, .of hl6, rfl, .inl ⟨rfl, [.int 2], .of hq6⟩, ?_⟩
        refine ⟨qa, [.int 2], .int 3, rfl, rfl, hq6, by rw [sizeLine_eq]; show 1 < _; decide, ?_⟩
        have R7 := rel_tail (zs := [.int 2] ++ [.int 3]) R1 rfl hlen h0 hq hl s36 s6 sHH nw dv
        refine soundSs k_tail _ ok2 rfl _ _ _ _ _ _ _ _ R7 (ev_tail π') _ fun v' σ' st' B' H' R' z s' dv' => ?_
        have pe' := R'.pen
        rw [z] at pe'
        obtain ⟨a', ea, pe'⟩ := pe'
        cases ea
        exact q v' B' H' R'.up R'.ext (fun b o nb hb => R'.fr b o (by intro z; cases z; exact nb rfl) hb) R'.new pe' dv'
end
end K00


set_option Elab.async false
set_option linter.all false
set_option maxRecDepth 100000
set_option maxHeartbeats 4000000
/-! An own error class without an __init__ of its own, called; isinstance of what it makes. -/
namespace PySem
namespace KdV
open PySem.W PySem.Calls PyProof.Rows PySem.HandSPX
section
variable {prog : Program} {w : World} {A : Around} {E : Value → Shared → Prop} {R : Result → Shared → Prop} {h : Heap} {g : Array GenState} {d : Drawn} {t : Nat} {os : OsState} {kw : List (Str × Value)}
variable {nm q : Str} {C N : Addr} {bs bm bmB : List Value} {hdct : Bool} {sn : List Str} {sub : List Value} {ab : Bool} {col : Option Bool} {dd : Option Addr} {k0 k1 k2 k3 k5 : Option Value} {B newId initId : String}
theorem made_typeV (F : ExcBaseFacts B newId initId bmB) (hT : ∀ X : String, bm.contains (.type X) = bmB.contains (.type X)) {rest : List Value} {fv : Value} {Q : Fin → Shared → Prop}
    (hC : h.get? C = some (excClassObj nm q C N bs bm hdct sn sub ab col dd k0 k1 k2 k3 k5 newId)) (hi : W.Looks (model prog w) h (typeLookup (.ref C) "__init__") (some fv)) (hb : ∀ self, W.Looks (model prog w) h (bindSpecial fv self) (fv, [self])) (hrest : rest.length ≤ sizeLine)
    (hq : codeAny (model prog w) A (.call fv ⟨.ref (h.objs.size + 1) :: rest, kw⟩) (fun r s' => match r with | .ok (.ret v) => v = .none ∧ Q (.done (.ret (.ref (h.objs.size + 1)))) s' | .ok _ => False | .error e => E e s')
      ⟨(h.push (kdv_tup rest)).push (excO C h.objs.size), g, d, t, os⟩) :
    wpAny (model prog w) A (Builtin.«type.__call__» ⟨.ref C :: rest, kw⟩) Q E ⟨h, g, d, t, os⟩ := by
  repeat (first | with_reducible refine wpAny_loadPart_at hC ?_ | with_reducible refine wpAny_madeBy_exc hC ?_ | wp_step)
  refine codeAny_call_builtin_code (Code.quiet_builtin _ F.quiet) (ask_new F hT hC ?_); refine made_new F hT hC ?_ hrest; show wpAny _ _ _ _ _ _
  have k : ∀ b o, h.get? b = some o → ((h.push (kdv_tup rest)).push (excO C h.objs.size)).get? b = some o := fun b o e => Heap.get?_push_of_some _ (Heap.get?_push_of_some _ e)
  have hC₁ := k _ _ hC
  have hget : ((h.push (kdv_tup rest)).push (excO C h.objs.size)).get? (h.objs.size + 1) = some (excO C h.objs.size) := by heap_get
  have hcC : (Value.ref C :: bm).contains (.ref C) = true := by simp
  have i1 := hi.keeps k
  have b1 := (hb (.ref (h.objs.size + 1))).keeps k
  unfold isInstance; repeat (first | with_reducible refine wpAny_loadPart_at hget ?_ | (with_reducible refine wpAny_isSubtype_exc hC₁ ?_; rw [hcC]) | wp_step)
  show wpAny _ _ (typeLookup (.ref C) _) _ _ _; refine i1.at ?_; refine wpAny_holding (wpAny_bind (b1.at ?_)); refine wpAny_bind (wpAny_call (codeAny_mono hq fun r s' z => ?_))
  rcases r with e | (v | _ | _ | _) <;> first | exact z | exact z.elim | skip
  obtain ⟨rfl, z⟩ := z; first | exact wpAny_pure (wpAny_pure z) | (wp_walk; exact z)
/-- C(.., k = ..), C an own error class -/
theorem made_callV (F : ExcBaseFacts B newId initId bmB) (hT : ∀ X : String, bm.contains (.type X) = bmB.contains (.type X)) {rest : List Value} {fv : Value}
    (hC : h.get? C = some (excClassObj nm q C N bs bm hdct sn sub ab col dd k0 k1 k2 k3 k5 newId)) (hi : W.Looks (model prog w) h (typeLookup (.ref C) "__init__") (some fv)) (hb : ∀ self, W.Looks (model prog w) h (bindSpecial fv self) (fv, [self])) (hrest : rest.length ≤ sizeLine)
    (hq : codeAny (model prog w) (A.under (.builtin "type.__call__" ⟨.ref C :: rest, kw⟩)) (.call fv ⟨.ref (h.objs.size + 1) :: rest, kw⟩) (W.InitBack (h.objs.size + 1) R) ⟨(h.push (kdv_tup rest)).push (excO C h.objs.size), g, d, t, os⟩) :
    codeAny (model prog w) A (.call (.ref C) ⟨rest, kw⟩) R ⟨h, g, d, t, os⟩ := by
  have f1 := tc_lookup
  have f2 := tc_bind (.ref C)
  have hTy : (⟨h, g, d, t, os⟩ : Shared).TypeIs (.ref C) "type" := ⟨_, hC, rfl⟩
  refine codeAny_of_tree ?_; show wpAny _ _ (callAny (.ref C) _) _ _ _
  repeat (any_goals (first | assumption | with_reducible refine wpAny_loadPart_at hC ?_ | wp_step))
  refine ⟨rfl, ?_⟩; refine codeAny_call_builtin_at (Code.quiet_builtin _ (by decide +kernel)) entry_typeCall (ask_call hC (made_typeV F hT hC hi hb hrest ?_))
  refine codeAny_mono hq fun r s' z => ?_; rcases r with e | (v | _ | _ | _) <;> exact z
end
end KdV
end PySem
namespace Kd
open PySem PySem.Spec PyProof.Rows L2
section
variable {X : Cx} {x : Str} {p pos : Pos} {e : Expr} {es : List Expr} {t : TA} {C : Addr}
theorem pe_excN (O : OexC X.K C) (hi : PySem.W.findIn X.K (.ref C) "__init__" = some (some (.builtin "ValueError.__init__"))) (gl : Gl X x) (hm : X.mg x = some (.ref C)) (ha : PA X (e :: es) t) (hd : (x == ("__debug__" : Str)) = false := by decide)
    (he : starEach (e :: es) X.env = (false, eval e X.env) :: starEach es X.env := by rfl) (hpl : (backTo pos (starEach es X.env)).any (·.1) = false := by rfl) :
    PE X (.Call (.Name x p) (e :: es) [] pos) (fun σ H Q => t σ H fun vs H1 => vs.length ≤ 1000 ∧ ∀ b, H1 b = none → Q (.ref b) (upd H1 b (exo b C none))) := by
  refine ⟨fun pins s σ H Q I h => ?_⟩
  refine wpAny_Call_Name_kw (ld_glob I gl hm ?_ hd)
  refine PySem.W.callWith_K (h₀ := X.base) I.ok.mod.kin O.kC (thn (ha.run pos pins s σ H _ I h) fun us s1 ⟨vs, H1, I1, r, hl, q⟩ => ⟨I1.kIn, ?_⟩) he hpl
  obtain ⟨nm, qn, N, bs, bm, sn, sub, ab, col, dd, k0, k1, k2, k3, k5, hC, hbm⟩ := O.cls
  have kin := I1.kIn
  obtain ⟨hp, g, dr, tk, os⟩ := s1
  have hus : us.length ≤ sizeLine := by
    rw [← r.length, sizeLine_eq]
    omega
  have kk : ∀ b o, hp.get? b = some o → ((hp.push (PySem.W.kdv_tup us)).push (PySem.HandSPX.excO C hp.objs.size)).get? b = some o := fun b o e => Heap.get?_push_of_some _ (Heap.get?_push_of_some _ e)
  have hget : ((hp.push (PySem.W.kdv_tup us)).push (PySem.HandSPX.excO C hp.objs.size)).get? (hp.objs.size + 1) = some (PySem.HandSPX.excO C hp.objs.size) := by heap_get
  refine wpAny_call (PySem.KdV.made_callV (kw := []) PySem.F.excBase_ValueError (fun Y => PySem.HandSPX.refsVE_contains Y bm hbm) (kin _ _ hC) (PySem.W.looks_findIn kin hi) (fun self => PySem.W.Looks.of_pure (PySem.F.excBase_ValueError.init.bind _)) hus ?_)
  refine PySem.HandSPX.init_base PySem.F.excBase_ValueError (fun Y => PySem.HandSPX.refsVE_contains Y bm hbm) (kk _ _ (kin _ _ hC)) hget hus fun h' t1 hk he' => ?_
  have I2 : Inv X pins σ (upd H1 (hp.objs.size + 1) (exo (hp.objs.size + 1) C none)) ⟨h', g, dr, tk, os⟩ :=
    I1.laid (t' := tk) (fun b u z => hk b u (Nat.ne_of_lt (Nat.lt_succ_of_lt (Heap.lt_size z))) (kk b u z)) (Nat.le_succ _) (exo_ok he')
  exact ⟨rfl, .ref (hp.objs.size + 1), _, I2, rfl, q _ (I1.hok.fresh (Nat.le_succ _))⟩
theorem call_isx0 : CallR X (.builtin "isinstance") fun xs H Q => ∃ (a C : Addr) (c : V) (u : Value) (b : Bool), xs = [.ref a, c] ∧ ClsV c u ∧ H a = some (exo a C none) ∧ L2.ExcC X.K C ∧ PySem.W.kitOne X.K (.ref C) u = some b ∧ Q (.bl b) H := by
  intro pins s σ H xs us Q I r h
  obtain ⟨a, C, c, u, b, rfl, k, h1, T, e, q⟩ := h
  obtain ⟨u1, u2, rfl, r1, r2⟩ := vals2 r
  have e2 := k.eq r2
  subst e2
  obtain rfl : u1 = Value.ref a := r1
  obtain ⟨⟨t0, hobj⟩, _⟩ := (show ObjOk X.prog X.w H s.heap a (exo a C none) from I.hok a _ h1)
  obtain ⟨cd, hcd, _⟩ := PySem.W.any_some T.hd
  exact PySem.W.kia_one (PySem.W.kitx_exc (od := none) (by rw [hcd]; rfl) T.hg T.hk T.hs T.ha T.hn T.ht T.hm) I.kIn ⟨hobj, rfl, rfl, trivial⟩ e (fun z => nomatch z) fun tk => ⟨.bl b, H, I.tok tk, rfl, q⟩
end
end Kd


set_option Elab.async false
set_option linter.all false
set_option maxRecDepth 100000
set_option maxHeartbeats 8000000
namespace K00
open PySem PySem.Spec PyProof.Rows L2 Kd
/-! isinstance(ForeverError(1, "x"), ValueError) -/
structure FeF (K : PySem.W.Frag) (mg : Str → Option Value) (C : Addr) : Prop where
  mg : mg "ForeverError" = some (.ref C)
  o : OexC K C
  ini : PySem.W.findIn K (.ref C) "__init__" = some (some (.builtin "ValueError.__init__"))
  x : L2.ExcC K C
  kit : PySem.W.kitOne K (.ref C) (.type "ValueError") = some true
theorem oxf_fe {P : Program} {w : World} {K : PySem.W.Frag} {mg : Str → Option Value} {base : Heap} {k : Nat} {C : Addr} (T : FeF K mg C) (b1 : mg "isinstance" = none) (b2 : mg "ValueError" = none) : OxF P w K mg base k shFE yesD := by
  rintro X rfl rfl rfl rfl rfl hr hg hc hn
  constructor
  · intro es x h p B0 H0 B H σ st1 ds z Q hm hl q
    cases (show ShFE X.env.scope es x from h)
    rename_i p1 p2 p3 p4 p5 p6 p7 k1 k2 h1 h2 h3
    refine w_pe (pe_callB call_isx0 (gl_of rfl h1) b1 (by decide +kernel) (pa_cons (pe_excN T.o T.ini (gl_of rfl h2) T.mg (pa_cons pe_int (pa_cons pe_str pa_nil))) (pa_cons (pe_bltn (v := .ty "ValueError") (gl_of rfl h3) b2 (by decide +kernel : bootBuiltins "ValueError" = some (.type "ValueError")) rfl) pa_nil))) ?_
    exact hl (fun vs H2 => (2 ≤ 1000) ∧ ∀ b, H2 b = none → ∃ (a C : Addr) (c : V) (u : Value) (k : Bool), ([V.ref b, V.ty "ValueError"] : List V) = [.ref a, c] ∧ ClsV c u ∧ upd H2 b (exo b _ none) a = some (exo a C none) ∧ L2.ExcC X.K C ∧ PySem.W.kitOne X.K (.ref C) u = some k ∧ Q (.bl k) (upd H2 b (exo b _ none))) fun vs B1 H1 R s dv => ⟨by decide, fun b hb => ⟨b, C, .ty "ValueError", _, true, rfl, .ty _, upd_same, T.x, T.kit, by
        unfold yesD at hm
        split at hm
        · cases hm
          exact q _ B1 _ (R.heap (same_upd hb)) s (.bl true)
        · cases hm⟩⟩
  · exact fun es x h => h.elim
  · exact fun _ _ es js x h => h.elim
end K00


set_option Elab.async false
set_option linter.all false
set_option maxRecDepth 100000
set_option maxHeartbeats 8000000
namespace K00
open PySem PySem.Spec PyProof.Rows L2 Kd
/-! what the written part says of own error classes, and what follows for the errors' part -/
structure ErrF (P : Program) (K : PySem.W.Frag) (mg : Str → Option Value) (x q : Str) (names : List Str) (st : Stmt) : Prop where
  ex : ∃ C f cda cc fd, PySem.W.nsIn K mainGlobals x = some (some (.ref C)) ∧ mg x = some (.ref C) ∧ PySem.W.findIn K (.ref C) "__init__" = some (some (.ref f)) ∧ PySem.W.typeIn K (.ref f) = some (.type "function") ∧ FunS K "__init__" q st f cda cc fd ∧
    SupV P K mg C f cda cc ∧ OexC K C ∧ XfC K C ∧ L2.ExcC K C ∧ ∀ p ∈ names, PySem.W.findIn K (.ref C) p = some none
/-- an error class: what can be asked at once -/
def excB (K : PySem.W.Frag) (C : Addr) : Bool :=
  decide (PySem.W.findIn K (.ref C) "__setattr__" = some (some (.builtin "object.__setattr__"))) && (decide (PySem.W.subIn K (.ref C) (.type "BaseException") = some true) && (decide (PySem.W.typeIn K (.ref C) = some (.type "type")) && (PySem.W.keepIn K (.ref C) &&
  (decide (PySem.W.findIn K (.ref C) "__getattribute__" = some (some (.builtin "BaseException.__getattribute__"))) && (decide (PySem.W.findIn K (.ref C) "__getattr__" = some none) && (PySem.W.hasDictIn K C &&
  (decide (PySem.W.findIn K (.ref C) "__class__" = some (some (.builtin "object.__class__"))) && (decide (PySem.W.specialIn K (.builtin "object.__class__") "__get__" = some (some (.builtin "getset_descriptor.__get__"))) && (decide (PySem.W.takesIn K (.builtin "object.__class__") = some true) &&
  decide (PySem.W.mroIn K C (.type "object") = some true))))))))))
def errB (K : PySem.W.Frag) (C f : Addr) (names : List Str) : Bool :=
  excB K C && (decide (PySem.W.typeIn K (.ref f) = some (.type "function")) && ((PySem.W.clsIn K C).isSome && (decide (PySem.W.mroIn K C (.ref C) = some true) && (decide (PySem.W.ks_superIn K C C "__init__" = some (some (.builtin "ValueError.__init__"))) && (decide (PySem.W.subIn K (.ref C) (.type "ValueError") = some true) &&
  (decide (PySem.W.nsIn K cStatics "thirdparty.any" = some none) && (PySem.W.excInitIn K C veMro "ValueError.__new__" && names.all fun p => decide (PySem.W.findIn K (.ref C) p = some none))))))))
theorem excB_ok {K : PySem.W.Frag} {C : Addr} {nm q : Str} {N : Addr} {bs bm : List Value} {sn : List Str} {sub : List Value} {ab : Bool} {col : Option Bool} {dd : Option Addr} {k0 k1 k2 k3 k5 : Option Value}
    (ob : K.lookup C = some (excClassObj nm q C N bs bm true sn sub ab col dd k0 k1 k2 k3 k5 "ValueError.__new__")) (rb : PySem.HandSPX.refsVE bm = true) (h : excB K C = true) : OexC K C ∧ XfC K C ∧ L2.ExcC K C := by
  simp only [excB, Bool.and_eq_true, decide_eq_true_eq] at h
  obtain ⟨sa, ex, ty, kp, ga, gg, hd, ha, hn, ht, hm⟩ := h
  exact ⟨⟨⟨nm, q, N, bs, bm, sn, sub, ab, col, dd, k0, k1, k2, k3, k5, ob, rb⟩, sa, ex, ty, kp⟩, ⟨ga, gg, ex, hd⟩, ⟨ga, gg, ex, hd, ha, hn, ht, hm⟩⟩
theorem err_mk {P : Program} {K : PySem.W.Frag} {h : Heap} {mg : Str → Option Value} (X : K.In h) (G : h.Ns mainGlobals mg) (x qn : Str) (names : List Str) (st : Stmt) {C f cda cc : Addr} {oc kV doc pm ct : Value} {od an : Option Addr} {osl : Array (Option Value)}
    {ccl : Value} {cdd : Option Addr} {vs : Array Value} {file : Str} {tf : Tok} {ccs : Array (Option Value)} {cl : Value} {cld : Option Addr} {csl : Array (Option Value)}
    {nm q : Str} {N : Addr} {bs bm : List Value} {sn : List Str} {sub : List Value} {ab : Bool} {col : Option Bool} {dd : Option Addr} {k0 k1 k2 k3 k5 : Option Value}
    (aC : PySem.W.nsIn K mainGlobals x = some (some (.ref C))) (af : PySem.W.findIn K (.ref C) "__init__" = some (some (.ref f)))
    (lf : K.lookup f = some ⟨oc, od, .func (PySem.W.fnX "__init__" qn (defArgs st) (defBody st) (defScope st) [("__class__", cc)] .none kV doc pm an (.ref cda) ct), osl⟩)
    (lc : K.lookup cda = some ⟨ccl, cdd, .fields vs, ccs⟩) (vf : vs[2]? = some (.str file tf)) (fm : ((P.main.file : Str) == file) = true) (tp : (P.main.scope.names.lookup ("super" : Str)).isSome = false)
    (lcc : K.lookup cc = some ⟨cl, cld, .cell (some (.ref C)), csl⟩) (sp : PySem.W.nsIn K mainGlobals "super" = some none)
    (ob : K.lookup C = some (excClassObj nm q C N bs bm true sn sub ab col dd k0 k1 k2 k3 k5 "ValueError.__new__")) (rb : PySem.HandSPX.refsVE bm = true) (cq : PySem.W.codeIn K (.ref cda) qn = true) (bb : errB K C f names = true) : ErrF P K mg x qn names st := by
  simp only [errB, Bool.and_eq_true, decide_eq_true_eq, List.all_eq_true] at bb
  obtain ⟨b1, tI, cls, sf, ini, ve, th, ov, hp⟩ := bb
  obtain ⟨o1, o2, o3⟩ := excB_ok ob rb b1
  exact ⟨C, f, cda, cc, _, aC, PySem.W.mg_of X G aC, af, tI, ⟨_, _, _, _, _, _, _, _, rfl, lf, cq⟩, ⟨⟨ccl, cdd, vs, file, tf, ccs, lc, vf, fm⟩, tp, ⟨cl, cld, csl, lcc⟩, Option.isSome_iff_exists.mp cls, sf, PySem.W.mg_none_of X G sp, ini, ve, th, ov⟩, o1, o2, o3, hp⟩
section
variable {P : Program} {w : World} {K : PySem.W.Frag} {mg : Str → Option Value} {base : Heap} {k : Nat}
theorem fn_err {x q : Str} {names : List Str} {st : Stmt} {n : Nat} {ks : List Str} {pm : List Nat} (T : ErrF P K mg x q names st)
    (ini : ∀ {C f cda cc : Addr} {fd : FuncData}, SupV P K mg C f cda cc → OexC K C → (∀ p ∈ names, PySem.W.findIn K (.ref C) p = some none) → FunS K "__init__" q st f cda cc fd → FnOk P w K mg base CX0 1 f fd (("self" : Str) :: names) (spI C names))
    (hb : ∀ (cc : Addr) (kV doc pm' : Value) (an : Option Addr) (cdv ct self : Value) (us ws : List Value), us.length = n → ws.length = ks.length →
      bindArgs (PySem.W.fnX "__init__" q (defArgs st) (defBody st) (defScope st) [("__class__", cc)] .none kV doc pm' an cdv ct) ⟨self :: us, ks.zip ws⟩ = pure ((("self" : Str) :: names).zip (self :: pick pm (us ++ ws)))) (hk : 2 ≤ k) (hn : n ≤ 1000) :
    FnF P w K mg base k ⟨x, n, ks, pm⟩ (excM x names ⟨x, n, ks, pm⟩) := by
  obtain ⟨C, f, cda, cc, fd, h1, h2, h3, h4, F, T1, O, _, _, hp⟩ := T.ex
  have G := ini (C := C) (f := f) (cda := cda) (cc := cc) (fd := fd) T1 O hp F
  obtain ⟨oc, od, kV, doc, pm', an, ct, osl, rfl, lk, hcd⟩ := F.ex
  exact fnF_exc (e := ⟨x, n, ks, pm⟩) h1 h2 O h3 h4 G hk (fun s self us ws hu hw => .of_eq (hb _ _ _ _ _ _ _ _ _ _ hu hw)) hn
theorem at_err {f : Str} {cE : List Str} (h : ∀ x ∈ cE, ∃ q names st, ErrF P K mg x q names st ∧ f ∈ names) : AtOk K f cE [] := by
  refine ⟨fun x C hx hC => ?_, fun x C hx => by simp at hx⟩
  obtain ⟨q, names, st, T, hf⟩ := h x hx
  obtain ⟨C', _, _, _, _, h1, _, _, _, _, _, _, xf, _, hp⟩ := T.ex
  rw [hC] at h1
  cases h1
  exact ⟨xf, hp f hf⟩
/-- isinstance by a table -/
def kitB (K : PySem.W.Frag) (xs ts : List Str) (tbl : Str → Str → Bool) : Bool := xs.all fun x => ts.all fun t => match PySem.W.nsIn K mainGlobals x, PySem.W.nsIn K mainGlobals t with
  | some (some (.ref C)), some (some (.ref T)) => decide (PySem.W.kitOne K (.ref C) (.ref T) = some (tbl t x))
  | _, _ => false
theorem kit_at {xs ts : List Str} {tbl : Str → Str → Bool} (h : kitB K xs ts tbl = true) {x t : Str} {C T : Addr} (hx : x ∈ xs) (ht : t ∈ ts) (hC : PySem.W.nsIn K mainGlobals x = some (some (.ref C))) (hT : PySem.W.nsIn K mainGlobals t = some (some (.ref T))) : PySem.W.kitOne K (.ref C) (.ref T) = some (tbl t x) := by
  have z := List.all_eq_true.mp (List.all_eq_true.mp h x hx) t ht
  rw [hC, hT] at z
  simpa using z
theorem ic_err {t : Str} {tE : List (Str × Bool)} {xs ts : List Str} {tbl : Str → Str → Bool} {T : Addr} (h : kitB K xs ts tbl = true) (ht : t ∈ ts) (hT : PySem.W.nsIn K mainGlobals t = some (some (.ref T))) (hm : mg t = some (.ref T))
    (hx : ∀ x ∈ xs, ∃ q names st, ErrF P K mg x q names st) (hE : ∀ x b, tE.lookup x = some b → x ∈ xs ∧ tbl t x = b) : IcOk K mg t tE [] [] := by
  refine ⟨T, hm, fun x C b e hC => ?_, fun x C b e => by simp at e, fun n e => by simp at e⟩
  obtain ⟨h1, h2⟩ := hE x b e
  obtain ⟨q, names, st, T'⟩ := hx x h1
  obtain ⟨C', _, _, _, _, g1, _, _, _, _, _, _, _, xc, _⟩ := T'.ex
  rw [hC] at g1
  cases g1
  exact ⟨xc, by rw [kit_at h h1 ht hC hT, h2]⟩
end
end K00


set_option Elab.async false
set_option linter.all false
set_option maxRecDepth 100000
set_option maxHeartbeats 8000000
namespace K00
open PySem PySem.Spec PyProof.Rows L2 Kd
def xsE : List Str := ["BadValue", "BadNumber", "BadBoard", "BadMove", "Misfit", "TooMany", "NoName", "Nothing", "BadText", "BadLine"]
def tsE : List Str := ["BadValue", "BadNumber", "BadBoard", "BadMove", "Misfit", "TooMany", "NoName", "Nothing", "BadText", "BadLine", "ForeverError"]
def tblE (t x : Str) : Bool := decide (t = x) || decide (t = "ForeverError")
def BL : List Str := ["int", "len", "abs", "isinstance", "list", "tuple", "range", "enumerate", "repr", "bool", "ValueError"]
structure TxtE (P : Program) (K : PySem.W.Frag) (mg : Str → Option Value) : Prop where
  bl : ∀ y ∈ BL, mg y = none
  e_BadValue : ErrF P K mg "BadValue" "BadValue.__init__" ["part"] s_BadValue
  e_BadNumber : ErrF P K mg "BadNumber" "BadNumber.__init__" ["part"] s_BadNumber
  e_BadBoard : ErrF P K mg "BadBoard" "BadBoard.__init__" ["part"] s_BadBoard
  e_BadMove : ErrF P K mg "BadMove" "BadMove.__init__" ["state", "index", "part"] s_BadMove
  e_Misfit : ErrF P K mg "Misfit" "Misfit.__init__" ["part"] s_Misfit
  e_TooMany : ErrF P K mg "TooMany" "TooMany.__init__" ["what", "most"] s_TooMany
  e_NoName : ErrF P K mg "NoName" "NoName.__init__" ["name"] s_NoName
  e_Nothing : ErrF P K mg "Nothing" "Nothing.__init__" ["word"] s_Nothing
  e_BadText : ErrF P K mg "BadText" "BadText.__init__" ["line", "word"] s_BadText
  e_BadLine : ErrF P K mg "BadLine" "BadLine.__init__" ["word"] s_BadLine
  kit : kitB K xsE tsE tblE = true
  fe : ∃ C, PySem.W.nsIn K mainGlobals "ForeverError" = some (some (.ref C)) ∧ FeF K mg C
  d_draw : Df K mg "_law_draw" s_law_draw
  d_pick : Df K mg "_law_pick" s_law_pick
theorem look_all {t : Str} {tE : List (Str × Bool)} (h : (tE.all fun p => decide (p.1 ∈ xsE) && decide (tblE t p.1 = p.2)) = true) : ∀ x b, tE.lookup x = some b → x ∈ xsE ∧ tblE t x = b := by
  intro x b e
  induction tE with
  | nil => simp at e
  | cons p l ih =>
    obtain ⟨y, c⟩ := p
    simp only [List.all_cons, Bool.and_eq_true, decide_eq_true_eq] at h
    rw [List.lookup_cons] at e
    by_cases z : x = y
    · subst z
      simp only [beq_self_eq_true] at e
      cases e
      exact h.1
    · have z' : (x == y) = false := by simpa using z
      rw [z'] at e
      exact ih h.2 e
section
variable {P : Program} {w : World} {K : PySem.W.Frag} {mg : Str → Option Value} {base : Heap}
theorem all_err (T : TxtE P K mg) : ∀ x ∈ xsE, ∃ q names st, ErrF P K mg x q names st := by
  intro x hx
  simp only [xsE, List.mem_cons, List.not_mem_nil, or_false] at hx
  rcases hx with rfl | rfl | rfl | rfl | rfl | rfl | rfl | rfl | rfl | rfl
  · exact ⟨_, _, _, T.e_BadValue⟩
  · exact ⟨_, _, _, T.e_BadNumber⟩
  · exact ⟨_, _, _, T.e_BadBoard⟩
  · exact ⟨_, _, _, T.e_BadMove⟩
  · exact ⟨_, _, _, T.e_Misfit⟩
  · exact ⟨_, _, _, T.e_TooMany⟩
  · exact ⟨_, _, _, T.e_NoName⟩
  · exact ⟨_, _, _, T.e_Nothing⟩
  · exact ⟨_, _, _, T.e_BadText⟩
  · exact ⟨_, _, _, T.e_BadLine⟩
theorem ty_err {x q : Str} {names : List Str} {st : Stmt} (T : ErrF P K mg x q names st) : ∃ C, PySem.W.nsIn K mainGlobals x = some (some (.ref C)) ∧ mg x = some (.ref C) := by
  obtain ⟨C, _, _, _, _, h1, h2, _⟩ := T.ex
  exact ⟨C, h1, h2⟩
theorem ic_t (T : TxtE P K mg) {t : Str} {tE : List (Str × Bool)} (ht : t ∈ tsE) (h : ∃ C, PySem.W.nsIn K mainGlobals t = some (some (.ref C)) ∧ mg t = some (.ref C)) (hE : (tE.all fun p => decide (p.1 ∈ xsE) && decide (tblE t p.1 = p.2)) = true) : IcOk K mg t tE [] [] := by
  obtain ⟨C, h1, h2⟩ := h
  exact ic_err T.kit ht h1 h2 (all_err T) (look_all hE)
theorem fg_law_draw (T : TxtE P K mg) (f : Addr) (fd : FuncData) (F : Fun K "_law_draw" "_law_draw" s_law_draw f fd) : FG P w K mg base CX0 1 f fd ["pen", "many"] (SpP K m_law_draw) :=
  fg_pen (k := 0) (F := F0) F sc_law_draw k_law_draw {
    bl := bl_of T.bl (by decide +kernel)
    gl := fun i x d h => by simp [g_law_draw] at h
    fn := fun i e h => by simp [g_law_draw] at h
    pf := fun i e h => by simp [g_law_draw] at h } (by decide) fun ds π d π' h => by
    unfold m_law_draw at h
    split at h
    · rename_i l
      exact ⟨by rw [l]; rfl, h⟩
    · cases h
theorem fg_law_pick (T : TxtE P K mg) (f : Addr) (fd : FuncData) (F : Fun K "_law_pick" "_law_pick" s_law_pick f fd) : FG P w K mg base CX0 2 f fd ["pen", "some"] (SpP K m_law_pick) :=
  fg_pen (k := 1) (F := F_law_pick) F sc_law_pick k_law_pick {
    bl := bl_of T.bl (by decide +kernel)
    gl := fun i x d h => by simp [g_law_pick] at h
    fn := fun i e h => by simp [g_law_pick] at h
    pf := fun i e h => match i, h with
      | 0, h => by cases h; exact pfF_of (ps := ["pen", "many"]) (m := m_law_draw) T.d_draw (fg_law_draw T) (by decide) (fun _ _ _ _ _ _ us hu => match us, hu with | [u0, u1], _ => rfl)
      | n + 1, h => by simp [g_law_pick] at h } (by decide) fun ds π d π' h => by
    unfold m_law_pick at h
    split at h
    · rename_i l
      exact ⟨by rw [l]; rfl, h⟩
    · cases h
theorem pf_pick (T : TxtE P K mg) : PfF P w K mg base 2 "_law_pick" m_law_pick := pfF_of (ps := ["pen", "some"]) (m := m_law_pick) T.d_pick (fg_law_pick T) (by decide) (fun _ _ _ _ _ _ us hu => match us, hu with | [u0, u1], _ => rfl)
theorem fn_e (T : TxtE P K mg) (i : Nat) (e : En) (h : g_law_errors_right.es[i]? = some e) : FnF P w K mg base 2 e (F_err.fn i) := match i, h with
  | 0, h => by cases h; exact fn_err T.e_TooMany ini_TooMany (fun _ _ _ _ _ _ _ _ us ws hu hw => match us, ws, hu, hw with | [u0, u1], [], _, _ => rfl) (by decide) (by decide)
  | 1, h => by cases h; exact fn_err T.e_BadMove ini_BadMove (fun _ _ _ _ _ _ _ _ us ws hu hw => match us, ws, hu, hw with | [u0, u1, u2], [], _, _ => rfl) (by decide) (by decide)
  | 2, h => by cases h; exact fn_err T.e_BadMove ini_BadMove (fun _ _ _ _ _ _ _ _ us ws hu hw => match us, ws, hu, hw with | [], [w0, w1, w2], _, _ => rfl) (by decide) (by decide)
  | 3, h => by cases h; exact fn_err T.e_TooMany ini_TooMany (fun _ _ _ _ _ _ _ _ us ws hu hw => match us, ws, hu, hw with | [], [w0, w1], _, _ => rfl) (by decide) (by decide)
  | 4, h => by cases h; exact fn_err T.e_BadText ini_BadText (fun _ _ _ _ _ _ _ _ us ws hu hw => match us, ws, hu, hw with | [], [w0, w1], _, _ => rfl) (by decide) (by decide)
  | 5, h => by cases h; exact fn_err T.e_BadLine ini_BadLine (fun _ _ _ _ _ _ _ _ us ws hu hw => match us, ws, hu, hw with | [u0], [], _, _ => rfl) (by decide) (by decide)
  | 6, h => by cases h; exact fn_err T.e_Nothing ini_Nothing (fun _ _ _ _ _ _ _ _ us ws hu hw => match us, ws, hu, hw with | [], [w0], _, _ => rfl) (by decide) (by decide)
  | 7, h => by cases h; exact fn_err T.e_NoName ini_NoName (fun _ _ _ _ _ _ _ _ us ws hu hw => match us, ws, hu, hw with | [], [w0], _, _ => rfl) (by decide) (by decide)
  | 8, h => by cases h; exact fn_err T.e_Misfit ini_Misfit (fun _ _ _ _ _ _ _ _ us ws hu hw => match us, ws, hu, hw with | [u0], [], _, _ => rfl) (by decide) (by decide)
  | 9, h => by cases h; exact fn_err T.e_BadBoard ini_BadBoard (fun _ _ _ _ _ _ _ _ us ws hu hw => match us, ws, hu, hw with | [], [w0], _, _ => rfl) (by decide) (by decide)
  | 10, h => by cases h; exact fn_err T.e_BadNumber ini_BadNumber (fun _ _ _ _ _ _ _ _ us ws hu hw => match us, ws, hu, hw with | [u0], [], _, _ => rfl) (by decide) (by decide)
  | 11, h => by cases h; exact fn_err T.e_BadValue ini_BadValue (fun _ _ _ _ _ _ _ _ us ws hu hw => match us, ws, hu, hw with | [], [w0], _, _ => rfl) (by decide) (by decide)
  | n + 12, h => by simp [g_law_errors_right] at h
theorem at_e (T : TxtE P K mg) (f : Str) (cE cI : List Str) (h : (f, cE, cI) ∈ g_law_errors_right.ats) : AtOk K f cE cI := by
  simp only [g_law_errors_right, List.mem_cons, List.not_mem_nil, or_false, Prod.mk.injEq] at h
  rcases h with ⟨rfl, rfl, rfl⟩ | ⟨rfl, rfl, rfl⟩ | ⟨rfl, rfl, rfl⟩ | ⟨rfl, rfl, rfl⟩ | ⟨rfl, rfl, rfl⟩ | ⟨rfl, rfl, rfl⟩ | ⟨rfl, rfl, rfl⟩ | ⟨rfl, rfl, rfl⟩
  · refine at_err (P := P) (mg := mg) fun x hx => ?_
    simp only [List.mem_cons, List.not_mem_nil, or_false] at hx
    subst hx
    · exact ⟨_, _, _, T.e_TooMany, by decide +kernel⟩
  · refine at_err (P := P) (mg := mg) fun x hx => ?_
    simp only [List.mem_cons, List.not_mem_nil, or_false] at hx
    rcases hx with rfl | rfl | rfl | rfl | rfl
    · exact ⟨_, _, _, T.e_BadValue, by decide +kernel⟩
    · exact ⟨_, _, _, T.e_BadNumber, by decide +kernel⟩
    · exact ⟨_, _, _, T.e_BadBoard, by decide +kernel⟩
    · exact ⟨_, _, _, T.e_BadMove, by decide +kernel⟩
    · exact ⟨_, _, _, T.e_Misfit, by decide +kernel⟩
  · refine at_err (P := P) (mg := mg) fun x hx => ?_
    simp only [List.mem_cons, List.not_mem_nil, or_false] at hx
    rcases hx with rfl | rfl | rfl
    · exact ⟨_, _, _, T.e_Nothing, by decide +kernel⟩
    · exact ⟨_, _, _, T.e_BadText, by decide +kernel⟩
    · exact ⟨_, _, _, T.e_BadLine, by decide +kernel⟩
  · refine at_err (P := P) (mg := mg) fun x hx => ?_
    simp only [List.mem_cons, List.not_mem_nil, or_false] at hx
    subst hx
    · exact ⟨_, _, _, T.e_BadText, by decide +kernel⟩
  · refine at_err (P := P) (mg := mg) fun x hx => ?_
    simp only [List.mem_cons, List.not_mem_nil, or_false] at hx
    subst hx
    · exact ⟨_, _, _, T.e_TooMany, by decide +kernel⟩
  · refine at_err (P := P) (mg := mg) fun x hx => ?_
    simp only [List.mem_cons, List.not_mem_nil, or_false] at hx
    subst hx
    · exact ⟨_, _, _, T.e_BadMove, by decide +kernel⟩
  · refine at_err (P := P) (mg := mg) fun x hx => ?_
    simp only [List.mem_cons, List.not_mem_nil, or_false] at hx
    subst hx
    · exact ⟨_, _, _, T.e_BadMove, by decide +kernel⟩
  · refine at_err (P := P) (mg := mg) fun x hx => ?_
    simp only [List.mem_cons, List.not_mem_nil, or_false] at hx
    subst hx
    · exact ⟨_, _, _, T.e_NoName, by decide +kernel⟩
theorem ic_e (T : TxtE P K mg) (t : Str) (tE tI : List (Str × Bool)) (tO : List String) (h : (t, tE, tI, tO) ∈ g_law_errors_right.ics) : IcOk K mg t tE tI tO := by
  simp only [g_law_errors_right, List.mem_cons, List.not_mem_nil, or_false, Prod.mk.injEq] at h
  rcases h with ⟨rfl, rfl, rfl, rfl⟩ | ⟨rfl, rfl, rfl, rfl⟩ | ⟨rfl, rfl, rfl, rfl⟩ | ⟨rfl, rfl, rfl, rfl⟩ | ⟨rfl, rfl, rfl, rfl⟩ | ⟨rfl, rfl, rfl, rfl⟩ | ⟨rfl, rfl, rfl, rfl⟩ | ⟨rfl, rfl, rfl, rfl⟩ | ⟨rfl, rfl, rfl, rfl⟩ | ⟨rfl, rfl, rfl, rfl⟩ | ⟨rfl, rfl, rfl, rfl⟩
  · obtain ⟨C, h1, h2⟩ := T.fe
    exact ic_t T (by decide +kernel) ⟨C, h1, h2.mg⟩ (by decide +kernel)
  · exact ic_t T (by decide +kernel) (ty_err T.e_BadText) (by decide +kernel)
  · exact ic_t T (by decide +kernel) (ty_err T.e_TooMany) (by decide +kernel)
  · exact ic_t T (by decide +kernel) (ty_err T.e_BadMove) (by decide +kernel)
  · exact ic_t T (by decide +kernel) (ty_err T.e_BadLine) (by decide +kernel)
  · exact ic_t T (by decide +kernel) (ty_err T.e_Nothing) (by decide +kernel)
  · exact ic_t T (by decide +kernel) (ty_err T.e_NoName) (by decide +kernel)
  · exact ic_t T (by decide +kernel) (ty_err T.e_Misfit) (by decide +kernel)
  · exact ic_t T (by decide +kernel) (ty_err T.e_BadBoard) (by decide +kernel)
  · exact ic_t T (by decide +kernel) (ty_err T.e_BadNumber) (by decide +kernel)
  · exact ic_t T (by decide +kernel) (ty_err T.e_BadValue) (by decide +kernel)
theorem md_err (T : TxtE P K mg) : Md g_law_errors_right F_err P w K mg base 2 := {
    bl := bl_of T.bl (by decide +kernel)
    gl := fun i x d h => by simp [g_law_errors_right] at h
    fn := fn_e T
    pf := fun i e h => match i, h with
      | 0, h => by cases h; exact pf_pick T
      | n + 1, h => by simp [g_law_errors_right] at h
    at_ := at_e T
    ic := ic_e T
    ox := fun i Sh h => match i, h with
      | 0, h => by
        cases h
        obtain ⟨C, _, fe⟩ := T.fe
        exact oxf_fe fe (T.bl _ (by decide +kernel)) (T.bl _ (by decide +kernel))
      | n + 1, h => by simp [g_law_errors_right] at h }
theorem fg_errors (T : TxtE P K mg) (f : Addr) (fd : FuncData) (F : Fun K "_law_errors_right" "_law_errors_right" s_law_errors_right f fd) : FG P w K mg base CX0 3 f fd ["pen"] (SpP K m_law_errors_right) :=
  fg_pen (k := 2) (F := F_err) F sc_law_errors_right k_law_errors_right (md_err T) (by decide) fun ds π d π' h => by
    unfold m_law_errors_right at h
    split at h
    · rename_i l
      exact ⟨by rw [l]; rfl, h⟩
    · cases h
end
end K00


set_option Elab.async false
set_option linter.all false
set_option maxRecDepth 100000
set_option maxHeartbeats 8000000
namespace K00
open PySem PySem.Spec PyProof.Rows L2 Kd
/-! what the written part says of the papers, and what follows -/
abbrev s_b1 : Stmt := inClass (top 2) 2
abbrev s_b2 : Stmt := inClass (top 3) 0
theorem sc_b1 : FnScope ["self"] ["self"] (defScope s_b1) := ⟨rfl, rfl, rfl, by decide +kernel, rfl, by decide +kernel, by decide +kernel⟩
theorem sc_b2 : FnScope ["self"] ["self"] (defScope s_b2) := ⟨rfl, rfl, rfl, by decide +kernel, rfl, by decide +kernel, by decide +kernel⟩
section
variable {P : Program} {w : World} {K : PySem.W.Frag} {mg : Str → Option Value} {base : Heap} {f : Addr} {fd : FuncData}
theorem fgr_b1 (F : Fun K "__bool__" "Paper.__bool__" s_b1 f fd) : FGR P w K mg base 1 f 1 [] (SpF K (constD true)) := by
  refine fgr_of (ps := ["self"]) (fd := fd) ?_ (F.binds fun _ _ _ _ _ _ us hu => match us, hu with | [_], _ => rfl)
  refine fg_of F sc_b1 (fun vs H Q E h => ?_) fun cdv A outer s H vs Q E hr hg h => ?_
  · obtain ⟨ds, d, B, _, r, hm, _⟩ := h
    unfold constD at hm
    split at hm
    · rw [r.length]; rfl
    · cases hm
  · obtain ⟨ds, d, B, sb, r, hm, q⟩ := h
    refine ⟨_, pss_one (ps_ret pe_bl), ?_⟩
    unfold constD at hm
    split at hm
    · cases hm
      exact q (.bl true) B H (Same.refl _) sb (Same.refl _) (fun a o z => .inl ⟨o, z⟩) (.bl true)
    · cases hm
theorem fgr_b2 (F : Fun K "__bool__" "Denial.__bool__" s_b2 f fd) : FGR P w K mg base 1 f 1 [] (SpF K (constD false)) := by
  refine fgr_of (ps := ["self"]) (fd := fd) ?_ (F.binds fun _ _ _ _ _ _ us hu => match us, hu with | [_], _ => rfl)
  refine fg_of F sc_b2 (fun vs H Q E h => ?_) fun cdv A outer s H vs Q E hr hg h => ?_
  · obtain ⟨ds, d, B, _, r, hm, _⟩ := h
    unfold constD at hm
    split at hm
    · rw [r.length]; rfl
    · cases hm
  · obtain ⟨ds, d, B, sb, r, hm, q⟩ := h
    refine ⟨_, pss_one (ps_ret pe_bl), ?_⟩
    unfold constD at hm
    split at hm
    · cases hm
      exact q (.bl false) B H (Same.refl _) sb (Same.refl _) (fun a o z => .inl ⟨o, z⟩) (.bl false)
    · cases hm
end
/-- a plain class -/
structure PlaC (K : PySem.W.Frag) (C : Addr) (x : Str) (fs : List Str) (fE : Addr) : Prop where
  cl : Cls K C
  nm : NmC K C x
  no : ∀ f ∈ fs, NoAttr K C f
  eq : EqC K C fE
  nt : PySem.W.notFirst K C (.type "tuple") = true
def plaB (K : PySem.W.Frag) (C : Addr) (x : Str) (fs : List Str) (fE : Addr) : Bool :=
  PySem.W.plainGet K C Str.empty && (PySem.W.hasDictIn K C && (PySem.W.plainOver K C && (decide (PySem.W.findIn K (.ref C) "__setattr__" = some (some (.builtin "object.__setattr__"))) &&
  (decide (PySem.W.findIn K (.ref C) "__class__" = some (some (.builtin "object.__class__"))) && (decide (PySem.W.specialIn K (.builtin "object.__class__") "__get__" = some (some (.builtin "getset_descriptor.__get__"))) && (decide (PySem.W.takesIn K (.builtin "object.__class__") = some true) && (decide (PySem.W.mroIn K C (.type "object") = some true) &&
  (PySem.W.readsIn K C (.type "type") && (decide (nameIn K C = some x) && ((fs.all fun f => decide (PySem.W.findIn K (.ref C) f = some none)) &&
  (decide (PySem.W.findIn K (.ref C) "__eq__" = some (some (.ref fE))) && (decide (PySem.W.findIn K (.ref C) "__ne__" = some (some (.builtin "object.__ne__"))) && (PySem.W.isFn K (.ref fE) && PySem.W.notFirst K C (.type "tuple"))))))))))))))
theorem pla_of {K : PySem.W.Frag} {C : Addr} {x : Str} {fs : List Str} {fE : Addr} (h : plaB K C x fs fE = true) (hn : PySem.W.findCls K (.ref C) (.type "type") "__name__" = some (.get (.builtin "getset_descriptor.__get__") (.builtin "type.__name__") (.ref C) (.type "type"))) : PlaC K C x fs fE := by
  simp only [plaB, Bool.and_eq_true, decide_eq_true_eq, List.all_eq_true] at h
  obtain ⟨pg, hd, po, sa, ha, hnn, ht, hm, rd, nm, no, eq, ne, fn, nt⟩ := h
  have cl : Cls K C := ⟨pg, hd, po, sa⟩
  exact ⟨cl, ⟨⟨cl, ha, hnn, ht, hm⟩, rd, hn, nm⟩, no, ⟨hm, eq, ne, fn⟩, nt⟩
def fstB (K : PySem.W.Frag) : Bool := csP.all fun x => csP.all fun y => match PySem.W.nsIn K mainGlobals x, PySem.W.nsIn K mainGlobals y with
  | some (some (.ref C)), some (some (.ref D)) => if lfP x y = true then PySem.W.notFirst K C (.ref D) else !decide (D = C) && decide (PySem.W.subIn K (.ref D) (.ref C) = some true)
  | _, _ => false
def tblP (t x : Str) : Bool := decide (t = "Paper") || (decide (x = "Denial") || decide (x = "Beaten"))
structure PapX (P : Program) (K : PySem.W.Frag) (mg : Str → Option Value) (cP cD cK cB fP fE b1 b2 fK cdaK ccK fB cdaB ccB : Addr) (fdP fdE fd1 fd2 fdK fdB : FuncData) : Prop where
  nP : PySem.W.nsIn K mainGlobals "Paper" = some (some (.ref cP))
  nD : PySem.W.nsIn K mainGlobals "Denial" = some (some (.ref cD))
  nK : PySem.W.nsIn K mainGlobals "Kept" = some (some (.ref cK))
  nB : PySem.W.nsIn K mainGlobals "Beaten" = some (some (.ref cB))
  mP : mg "Paper" = some (.ref cP)
  mD : mg "Denial" = some (.ref cD)
  mK : mg "Kept" = some (.ref cK)
  mB : mg "Beaten" = some (.ref cB)
  pP : PlaC K cP "Paper" ["word", "parts"] fE
  pD : PlaC K cD "Denial" ["word", "parts"] fE
  pK : PlaC K cK "Kept" ["word", "parts", "machine", "ranks"] fE
  pB : PlaC K cB "Beaten" ["word", "parts", "machine", "ranks"] fE
  iP : Mk K cP fP
  iD : Mk K cD fP
  iK : Mk K cK fK
  iB : Mk K cB fB
  dP : Fun K "__init__" "Paper.__init__" s_Paper fP fdP
  dE : Fun K "__eq__" "Paper.__eq__" s_eq fE fdE
  d1 : Fun K "__bool__" "Paper.__bool__" s_b1 b1 fd1
  d2 : Fun K "__bool__" "Denial.__bool__" s_b2 b2 fd2
  sK : SupP P K mg cK fK cdaK ccK fP
  FK : FunS K "__init__" "Kept.__init__" s_Kept fK cdaK ccK fdK
  sB : SupP P K mg cB fB cdaB ccB fP
  FB : FunS K "__init__" "Beaten.__init__" s_Beaten fB cdaB ccB fdB
  kit : kitB K csP ["Paper", "Denial"] tblP = true
  tu : PySem.W.kitOne K (.type "tuple") (.ref cP) = some false
  fst : fstB K = true
  bP : PySem.W.findIn K (.ref cP) "__bool__" = some (some (.ref b1))
  bD : PySem.W.findIn K (.ref cD) "__bool__" = some (some (.ref b2))
  bK : PySem.W.findIn K (.ref cK) "__bool__" = some (some (.ref b1))
  bB : PySem.W.findIn K (.ref cB) "__bool__" = some (some (.ref b2))
  f1 : PySem.W.isFn K (.ref b1) = true
  f2 : PySem.W.isFn K (.ref b2) = true
section
variable {P : Program} {w : World} {K : PySem.W.Frag} {mg : Str → Option Value} {base : Heap} {cP cD cK cB fP fE b1 b2 fK cdaK ccK fB cdaB ccB : Addr} {fdP fdE fd1 fd2 fdK fdB : FuncData}
theorem PapX.cls (T : PapX P K mg cP cD cK cB fP fE b1 b2 fK cdaK ccK fB cdaB ccB fdP fdE fd1 fd2 fdK fdB) : ∀ x C, x ∈ csP → PySem.W.nsIn K mainGlobals x = some (some (.ref C)) → PlaC K C x ["word", "parts"] fE := by
  intro x C hx hC
  have two : ∀ {x : Str} {C : Addr} {fs : List Str}, (∀ f ∈ (["word", "parts"] : List Str), f ∈ fs) → PlaC K C x fs fE → PlaC K C x ["word", "parts"] fE := fun h p => ⟨p.cl, p.nm, fun f hf => p.no f (h f hf), p.eq, p.nt⟩
  simp only [csP, List.mem_cons, List.not_mem_nil, or_false] at hx
  rcases hx with rfl | rfl | rfl | rfl
  · rw [T.nP] at hC; cases hC; exact T.pP
  · rw [T.nD] at hC; cases hC; exact T.pD
  · rw [T.nK] at hC; cases hC; exact two (by decide +kernel) T.pK
  · rw [T.nB] at hC; cases hC; exact two (by decide +kernel) T.pB
theorem PapX.pap (T : PapX P K mg cP cD cK cB fP fE b1 b2 fK cdaK ccK fB cdaB ccB fdP fdE fd1 fd2 fdK fdB) : PapF K mg csP cP :=
  ⟨T.mP, fun x C hx hC => by
    have p := T.cls x C hx hC
    exact ⟨p.cl, p.no _ (by decide +kernel), p.no _ (by decide +kernel), p.nm, by rw [kit_at T.kit hx (by decide +kernel) hC T.nP]; rfl⟩, T.tu⟩
theorem PapX.eqf (T : PapX P K mg cP cD cK cB fP fE b1 b2 fK cdaK ccK fB cdaB ccB fdP fdE fd1 fd2 fdK fdB) : EqF K csP lfP fE :=
  ⟨fun x C hx hC => ⟨(T.cls x C hx hC).eq, (T.cls x C hx hC).nt⟩, fun x y C D hx hy hC hD => by
    have z := List.all_eq_true.mp (List.all_eq_true.mp T.fst x hx) y hy
    rw [hC, hD] at z
    refine ⟨fun h => ?_, fun h => ?_⟩
    · simpa [h] using z
    · simpa [h] using z⟩
theorem PapX.tru (T : PapX P K mg cP cD cK cB fP fE b1 b2 fK cdaK ccK fB cdaB ccB fdP fdE fd1 fd2 fdK fdB) : TruF P w K mg base 1 tvP := by
  intro x C b hb hC
  have hx : x = "Paper" ∧ b = true ∨ x = "Denial" ∧ b = false ∨ x = "Kept" ∧ b = true ∨ x = "Beaten" ∧ b = false := by
    unfold tvP at hb
    simp only [List.lookup_cons, List.lookup_nil] at hb
    split at hb
    · rename_i e; cases hb; exact .inl ⟨by simpa using e, rfl⟩
    · split at hb
      · rename_i e; cases hb; exact .inr (.inl ⟨by simpa using e, rfl⟩)
      · split at hb
        · rename_i e; cases hb; exact .inr (.inr (.inl ⟨by simpa using e, rfl⟩))
        · split at hb
          · rename_i e; cases hb; exact .inr (.inr (.inr ⟨by simpa using e, rfl⟩))
          · cases hb
  rcases hx with ⟨rfl, rfl⟩ | ⟨rfl, rfl⟩ | ⟨rfl, rfl⟩ | ⟨rfl, rfl⟩
  · rw [T.nP] at hC; cases hC; exact ⟨b1, T.bP, T.f1, fgr_b1 T.d1⟩
  · rw [T.nD] at hC; cases hC; exact ⟨b2, T.bD, T.f2, fgr_b2 T.d2⟩
  · rw [T.nK] at hC; cases hC; exact ⟨b1, T.bK, T.f1, fgr_b1 T.d1⟩
  · rw [T.nB] at hC; cases hC; exact ⟨b2, T.bB, T.f2, fgr_b2 T.d2⟩
end
end K00


set_option Elab.async false
set_option linter.all false
set_option maxRecDepth 100000
set_option maxHeartbeats 8000000
namespace K00
open PySem PySem.Spec PyProof.Rows L2 Kd
theorem look_g {xs : List Str} {tbl : Str → Bool} {tE : List (Str × Bool)} (h : (tE.all fun p => decide (p.1 ∈ xs) && decide (tbl p.1 = p.2)) = true) : ∀ x b, tE.lookup x = some b → x ∈ xs ∧ tbl x = b := by
  intro x b e
  induction tE with
  | nil => simp at e
  | cons p l ih =>
    obtain ⟨y, c⟩ := p
    simp only [List.all_cons, Bool.and_eq_true, decide_eq_true_eq] at h
    rw [List.lookup_cons] at e
    by_cases z : x = y
    · subst z
      simp only [beq_self_eq_true] at e
      cases e
      exact h.1
    · have z' : (x == y) = false := by simpa using z
      rw [z'] at e
      exact ih h.2 e
section
variable {P : Program} {w : World} {K : PySem.W.Frag} {mg : Str → Option Value} {base : Heap} {cP cD cK cB fP fE b1 b2 fK cdaK ccK fB cdaB ccB : Addr} {fdP fdE fd1 fd2 fdK fdB : FuncData}
theorem fnF_kept1 (T : PapX P K mg cP cD cK cB fP fE b1 b2 fK cdaK ccK fB cdaB ccB fdP fdE fd1 fd2 fdK fdB) (bl : ∀ y ∈ (["isinstance", "list", "tuple"] : List Str), mg y = none) (D : Df K mg "fixed" s_fixed) :
    FnF P w K mg base 20 ⟨"Kept", 2, [], [0, 1]⟩ (keptM 16 "Kept" "kept" [0, 1]) := by
  obtain ⟨oc, od, kV, doc, pm, an, ct, osl, e, _⟩ := T.FK.ex
  exact fnF_kept T.nK T.mK T.iK T.pK.cl (T.pK.no _ (by decide +kernel)) (T.pK.no _ (by decide +kernel)) (T.pK.no _ (by decide +kernel)) (T.pK.no _ (by decide +kernel))
    (fgr_Kept (n := 3) (pm := [0, 1, 2]) T.sK (fgr_Paper (.inr rfl) bl D T.dP) T.FK (fun s us ws hu hw => by
      subst e
      match us, ws, hu, hw with | [_, _, _], [], _, _ => exact .of_eq rfl)) (by decide)
theorem fnF_kept2 (T : PapX P K mg cP cD cK cB fP fE b1 b2 fK cdaK ccK fB cdaB ccB fdP fdE fd1 fd2 fdK fdB) (bl : ∀ y ∈ (["isinstance", "list", "tuple"] : List Str), mg y = none) (D : Df K mg "fixed" s_fixed) :
    FnF P w K mg base 20 ⟨"Kept", 0, ["ranks", "machine"], [1, 0]⟩ (keptM 16 "Kept" "kept" [1, 0]) := by
  obtain ⟨oc, od, kV, doc, pm, an, ct, osl, e, _⟩ := T.FK.ex
  exact fnF_kept T.nK T.mK T.iK T.pK.cl (T.pK.no _ (by decide +kernel)) (T.pK.no _ (by decide +kernel)) (T.pK.no _ (by decide +kernel)) (T.pK.no _ (by decide +kernel))
    (fgr_Kept (n := 1) (ks := ["ranks", "machine"]) (pm := [0, 2, 1]) T.sK (fgr_Paper (.inr rfl) bl D T.dP) T.FK (fun s us ws hu hw => by
      subst e
      match us, ws, hu, hw with | [_], [_, _], _, _ => exact .of_eq rfl)) (by decide)
theorem fnF_beaten (T : PapX P K mg cP cD cK cB fP fE b1 b2 fK cdaK ccK fB cdaB ccB fdP fdE fd1 fd2 fdK fdB) (bl : ∀ y ∈ (["isinstance", "list", "tuple"] : List Str), mg y = none) (D : Df K mg "fixed" s_fixed) :
    FnF P w K mg base 20 ⟨"Beaten", 2, [], [0, 1]⟩ (keptM 16 "Beaten" "beaten" [0, 1]) := by
  obtain ⟨oc, od, kV, doc, pm, an, ct, osl, e, _⟩ := T.FB.ex
  exact fnF_kept T.nB T.mB T.iB T.pB.cl (T.pB.no _ (by decide +kernel)) (T.pB.no _ (by decide +kernel)) (T.pB.no _ (by decide +kernel)) (T.pB.no _ (by decide +kernel))
    (fgr_Beaten (n := 3) (pm := [0, 1, 2]) T.sB (fgr_Paper (.inr rfl) bl D T.dP) T.FB (fun s us ws hu hw => by
      subst e
      match us, ws, hu, hw with | [_, _, _], [], _, _ => exact .of_eq rfl)) (by decide)
theorem fn_p (E : TxtE P K mg) (T : PapX P K mg cP cD cK cB fP fE b1 b2 fK cdaK ccK fB cdaB ccB fdP fdE fd1 fd2 fdK fdB) (D : Df K mg "fixed" s_fixed) (i : Nat) (e : En) (h : g_law_papers_right.es[i]? = some e) : FnF P w K mg base 20 e (F_pap.fn i) := by
  have bl : ∀ y ∈ (["isinstance", "list", "tuple"] : List Str), mg y = none := bl_of E.bl (by decide +kernel)
  match i, h with
  | 0, h => cases h; exact fnF_kept1 T bl D
  | 1, h => cases h; exact fnF_pap T.nP T.mP T.iP T.pP.cl (T.pP.no _ (by decide +kernel)) (T.pP.no _ (by decide +kernel)) (fgr_Paper (.inr rfl) bl D T.dP) (by decide) (by decide)
  | 2, h => cases h; exact fnF_kept2 T bl D
  | 3, h => cases h; exact fnF_beaten T bl D
  | 4, h => cases h; exact fnF_of D (fg_fixed bl D 16) (by decide) (fun _ _ _ _ _ _ us ws hu hw => match us, ws, hu, hw with | [], [w0], _, _ => rfl) (fun _ _ h => h)
  | 5, h => cases h; exact fnF_of D (fg_fixed bl D 16) (by decide) (fun _ _ _ _ _ _ us ws hu hw => match us, ws, hu, hw with | [u0], [], _, _ => rfl) (fun _ _ h => h)
  | 6, h => cases h; exact fnF_pap T.nD T.mD T.iD T.pD.cl (T.pD.no _ (by decide +kernel)) (T.pD.no _ (by decide +kernel)) (fgr_Paper (.inr rfl) bl D T.dP) (by decide) (by decide)
  | n + 7, h => simp [g_law_papers_right] at h
theorem at_two (T : PapX P K mg cP cD cK cB fP fE b1 b2 fK cdaK ccK fB cdaB ccB fdP fdE fd1 fd2 fdK fdB) {f : Str} (hf : f ∈ (["word", "parts"] : List Str)) : AtOk K f [] ["Paper", "Denial", "Kept", "Beaten"] :=
  ⟨fun x C hx => by simp at hx, fun x C hx hC => ⟨(T.cls x C hx hC).cl, (T.cls x C hx hC).no f hf⟩⟩
theorem at_own (T : PapX P K mg cP cD cK cB fP fE b1 b2 fK cdaK ccK fB cdaB ccB fdP fdE fd1 fd2 fdK fdB) {f : Str} (hf : f ∈ (["word", "parts", "machine", "ranks"] : List Str)) : AtOk K f [] ["Kept", "Beaten"] :=
  ⟨fun x C hx => by simp at hx, fun x C hx hC => by
    simp only [List.mem_cons, List.not_mem_nil, or_false] at hx
    rcases hx with rfl | rfl
    · rw [T.nK] at hC; cases hC; exact ⟨T.pK.cl, T.pK.no f hf⟩
    · rw [T.nB] at hC; cases hC; exact ⟨T.pB.cl, T.pB.no f hf⟩⟩
theorem ic_p (T : PapX P K mg cP cD cK cB fP fE b1 b2 fK cdaK ccK fB cdaB ccB fdP fdE fd1 fd2 fdK fdB) {t : Str} {tI : List (Str × Bool)} {C0 : Addr} (ht : t ∈ (["Paper", "Denial"] : List Str)) (hn : PySem.W.nsIn K mainGlobals t = some (some (.ref C0))) (hm : mg t = some (.ref C0))
    (hE : (tI.all fun p => decide (p.1 ∈ csP) && decide (tblP t p.1 = p.2)) = true) : IcOk K mg t [] tI [] := by
  refine ⟨C0, hm, fun x C b e => by simp at e, fun x C b e hC => ?_, fun n e => by simp at e⟩
  obtain ⟨h1, h2⟩ := look_g hE x b e
  exact ⟨(T.cls x C h1 hC).nm.ic, by rw [kit_at T.kit h1 ht hC hn, h2]⟩
theorem tru_mono {j k : Nat} {tv : List (Str × Bool)} (T : TruF P w K mg base j tv) (h : j ≤ k) : TruF P w K mg base k tv := fun x C b hb hC =>
  let ⟨f, h1, h2, F⟩ := T x C b hb hC
  ⟨f, h1, h2, F.mono h⟩
theorem fE_at (E : TxtE P K mg) (T : PapX P K mg cP cD cK cB fP fE b1 b2 fK cdaK ccK fB cdaB ccB fdP fdE fd1 fd2 fdK fdB) {k : Nat} (h : 1 ≤ k) : FGR P w K mg base k fE 2 [] (SpF K (eqPm csP)) := (fgr_eq (bl_of E.bl (by decide +kernel)) T.pap T.dE).mono h
theorem md_pap (E : TxtE P K mg) (T : PapX P K mg cP cD cK cB fP fE b1 b2 fK cdaK ccK fB cdaB ccB fdP fdE fd1 fd2 fdK fdB) (D : Df K mg "fixed" s_fixed) : Md g_law_papers_right F_pap P w K mg base 20 := {
    bl := bl_of E.bl (by decide +kernel)
    gl := fun i x d h => by simp [g_law_papers_right] at h
    fn := fn_p E T D
    pf := fun i e h => match i, h with
      | 0, h => by cases h; exact pfF_of (ps := ["pen", "some"]) (m := m_law_pick) E.d_pick (fg_law_pick E) (by decide) (fun _ _ _ _ _ _ us hu => match us, hu with | [u0, u1], _ => rfl)
      | n + 1, h => by simp [g_law_papers_right] at h
    at_ := fun f cE cI h => by
      simp only [g_law_papers_right, List.mem_cons, List.not_mem_nil, or_false, Prod.mk.injEq] at h
      rcases h with ⟨rfl, rfl, rfl⟩ | ⟨rfl, rfl, rfl⟩ | ⟨rfl, rfl, rfl⟩ | ⟨rfl, rfl, rfl⟩
      · exact at_own T (by decide +kernel)
      · exact at_two T (by decide +kernel)
      · exact at_two T (by decide +kernel)
      · exact at_own T (by decide +kernel)
    ic := fun t tE tI tO h => by
      simp only [g_law_papers_right, List.mem_cons, List.not_mem_nil, or_false, Prod.mk.injEq] at h
      rcases h with ⟨rfl, rfl, rfl, rfl⟩ | ⟨rfl, rfl, rfl, rfl⟩
      · exact ic_p T (by decide +kernel) T.nD T.mD (by decide +kernel)
      · exact ic_p T (by decide +kernel) T.nP T.mP (by decide +kernel)
    ox := fun i Sh h => match i, h with
      | 0, h => by cases h; exact oxf_eq (fE_at E T (by decide)) T.eqf
      | 1, h => by cases h; exact oxf_tru (tru_mono T.tru (by decide))
      | 2, h => by cases h; exact oxf_ne (k := 19) (fE_at E T (by decide)) T.eqf
      | 3, h => by cases h; exact oxf_u
      | n + 4, h => by simp [g_law_papers_right] at h }
theorem md_tail (E : TxtE P K mg) (T : PapX P K mg cP cD cK cB fP fE b1 b2 fK cdaK ccK fB cdaB ccB fdP fdE fd1 fd2 fdK fdB) (D : Df K mg "fixed" s_fixed) : Md g_tail F_tail P w K mg base 20 := {
    bl := fun x h => by simp [g_tail] at h
    gl := fun i x d h => by simp [g_tail] at h
    fn := fun i e h => match i, h with
      | 0, h => by cases h; exact fnF_pap T.nD T.mD T.iD T.pD.cl (T.pD.no _ (by decide +kernel)) (T.pD.no _ (by decide +kernel)) (fgr_Paper (.inl rfl) (bl_of E.bl (by decide +kernel)) D T.dP) (by decide) (by decide)
      | n + 1, h => by simp [g_tail] at h
    pf := fun i e h => by simp [g_tail] at h
    at_ := fun f cE cI h => by
      simp only [g_tail, List.mem_cons, List.not_mem_nil, or_false, Prod.mk.injEq] at h
      obtain ⟨rfl, rfl, rfl⟩ := h
      exact at_two T (by decide +kernel)
    ox := fun i Sh h => match i, h with
      | 0, h => by cases h; exact oxf_eq (fE_at E T (by decide)) T.eqf
      | 1, h => by cases h; exact oxf_not (tru_mono T.tru (by decide))
      | n + 2, h => by simp [g_tail] at h }
end
end K00


set_option Elab.async false
set_option linter.all false
set_option maxRecDepth 100000
set_option maxHeartbeats 8000000
namespace K00
open PySem PySem.Spec PyProof.Rows L2 Kd
abbrev s_pen : Stmt := top 20
def n_pen : List Str := ["script", "cell"]
theorem sc_pen : FnScope n_pen ["script"] (defScope s_pen) := ⟨rfl, rfl, rfl, by decide +kernel, rfl, by decide +kernel, by decide +kernel⟩
def spPen (K : PySem.W.Frag) : Sp := fun vs H Q _ => ∃ (a : Addr) (ns : List Int), vs = [.ref a] ∧ SqL K H a (ns.map V.int) ∧ ns.length ≤ 63 ∧
  ∀ q p H', H q = none → H p = none → p ≠ q → Same H H' → H' q = some (.lst (ns.map V.int)) → H' p = some (.lst [.ref q, .int 0, .int 0]) → Q (.ref p) H'
theorem ok_lawpen {P : Program} {w : World} {K : PySem.W.Frag} {mg : Str → Option Value} {base : Heap} {f : Addr} {fd : FuncData} (F : Fun K "_law_pen" "_law_pen" s_pen f fd) (mi : mg "int" = none) :
    FnOk P w K mg base CX0 1 f fd ["script"] (spPen K) := by
  refine F.ok sc_pen (fun vs H Q E h => ?_) fun cdv A outer s H vs Q E hr h => ?_
  · obtain ⟨a, ns, rfl, _⟩ := h
    rfl
  · obtain ⟨a, ns, rfl, hS, hl, k⟩ := h
    refine ⟨_, pss_one (ps_ret (pe_lst (pa_cons (pe_lc (own := [("cell", 1)]) rfl sc_pen.nd (pi_list (pe_slice sl_list (pv 0) po_none (po_some pe_int))) (by exact blkOk_by (N := n_pen) (sc := defScope s_pen) (by decide +kernel))
      (fun s H' C cl fp => pg_name (i := 1) sc_pen.nd rfl (.inl rfl) (.inr rfl)) (fun _ _ _ _ _ => pts_nil)
      (fun s H' C cl fp => pe_callTy call_int1 (by rfl) mi PyProof.Rows.boot_int (pa_cons (pv 1) pa_nil))) (pa_cons pe_int (pa_cons pe_int pa_nil))))), ?_⟩
    refine ⟨.ref a, rfl, 63, rfl, a, _, rfl, hS, fun p hp => ⟨p, rfl, ⟨_, .of upd_same⟩, fun D hD => ?_⟩⟩
    have ex : cutV (ns.map V.int) none (some 63) = ns.map V.int := by
      rw [cut_upto _ (by decide)]
      exact List.take_of_length_le (by simpa using hl)
    rw [ex] at hD ⊢
    have np : D ≠ p := by
      intro z
      subst z
      rw [upd_same] at hD
      cases hD
    have hD0 : H D = none := by rw [upd_ne np] at hD; exact hD
    refine lc_list (K := K) (a := p) (xs := ns.map V.int) (fun i H' => H' D = some (.lst ((ns.map V.int).take i)) ∧ Same H H' ∧ H' p = some (.lst (ns.map V.int))) ⟨upd_same, fun b o hb => ?_, ?_⟩ (fun i H' _ h => .of h.2.2) ?_ ?_
    · rw [upd_ne (ne_of_none hb hD0), upd_ne (ne_of_none hb hp)]
      exact hb
    · rw [upd_ne np.symm, upd_same]
    · rintro i x H' hx ⟨h1, h2, h3⟩
      obtain ⟨n, _, rfl⟩ : ∃ n, n ∈ ns ∧ V.int n = x := by
        have := List.mem_of_getElem? hx
        simpa using this
      have hil : i < (ns.map V.int).length := (List.getElem?_eq_some_iff.mp hx).1
      refine ⟨rfl, _, rfl, .inl ⟨n, rfl, _, h1, ?_, ?_, fun b o hb => ?_, ?_⟩⟩
      · rw [List.length_take]
        have : (ns.map V.int).length ≤ 63 := by simpa using hl
        unfold sizeLine
        omega
      · rw [upd_same, List.take_add_one, hx]
        rfl
      · rw [upd_ne (ne_of_none hb hD0)]
        exact h2 b o hb
      · rw [upd_ne np.symm]
        exact h3
    · rintro H' ⟨h1, h2, h3⟩
      refine ⟨(by show 3 ≤ sizeLine; decide), fun P hP => ?_⟩
      have nPD : P ≠ D := by
        intro z; subst z; rw [h1] at hP; cases hP
      refine k D P _ hD0 ?_ nPD (fun b o hb => ?_) ?_ upd_same
      · cases e : H P with
        | none => rfl
        | some o => rw [h2 P o e] at hP; cases hP
      · rw [upd_ne (ne_of_none (h2 b o hb) hP)]
        exact h2 b o hb
      · rw [upd_ne nPD.symm, h1, List.take_of_length_le (Nat.le_refl _)]
end K00


set_option Elab.async false
set_option linter.all false
set_option maxRecDepth 100000
set_option maxHeartbeats 8000000
namespace K00
open PySem PySem.Spec PyProof.Rows L2 Kd
abbrev s_law : Stmt := top 25
def n_law : List Str := ["script", "pen"]
theorem sc_law : FnScope n_law ["script"] (defScope s_law) := ⟨rfl, rfl, rfl, by decide +kernel, rfl, by decide +kernel, by decide +kernel⟩
def g_law : Gam := ⟨[], [], [], ["_law_errors_right", "_law_papers_right"], [], [], []⟩
def c_law : Sds := (.cons (.ret (.and_ (.pcall 0 1 .nil) (.pcall 1 1 .nil)))
    .nil)
theorem k_law : CorSs g_law n_law (defScope s_law) ((defBody s_law).drop 1) c_law := (.cons (.ret (.and_ (.pcall (i := 0) rfl rfl (.inl rfl) .nil rfl rfl rfl rfl) (.one (.pcall (i := 1) rfl rfl (.inl rfl) .nil rfl rfl rfl rfl))))
    .nil)
def F_law : Fns := ⟨fun _ _ => none, fun i ds π => match i with | 0 => m_law_errors_right ds π | 1 => m_law_papers_right ds π | _ => none, fun _ _ => none⟩
def st0 (ns : List Int) : S := ⟨[.unk, .pen], some ⟨ns, 0, 0⟩⟩
theorem ev_pen0 {F : Fns} {st : S} {π π' : Pen} {i j : Nat} {x : PyData} (hp : st.δ[j]? = some .pen) (hπ : st.π = some π) (e : F.pf i [] π = some (x, π')) : evalE F (.pcall i j .nil) st = some (x, ⟨st.δ, some π'⟩) := by
  simp only [evalE, evalL, hp, hπ, e]
theorem pf0 : F_law.pf 0 = m_law_errors_right := rfl
theorem pf1 : F_law.pf 1 = m_law_papers_right := rfl
theorem law_run {F : Fns} {ns : List Int} {π1 π2 : Pen} (e1 : F.pf 0 [] ⟨ns, 0, 0⟩ = some (.bool true, π1)) (e2 : F.pf 1 [] π1 = some (.bool true, π2)) : evalSs F c_law (st0 ns) = some (.rt (.bool true) (some π2)) := by
  have k1 : evalE F (.pcall 0 1 .nil) (st0 ns) = some (.bool true, ⟨[.unk, .pen], some π1⟩) := ev_pen0 (st := st0 ns) rfl rfl e1
  have k2 : evalE F (.pcall 1 1 .nil) ⟨[.unk, .pen], some π1⟩ = some (.bool true, ⟨[.unk, .pen], some π2⟩) := ev_pen0 (st := ⟨[.unk, .pen], some π1⟩) rfl rfl e2
  have k3 : evalE F (.and_ (.pcall 0 1 .nil) (.pcall 1 1 .nil)) (st0 ns) = some (.bool true, ⟨[.unk, .pen], some π2⟩) := ev_andT k1 k2
  exact ss_rt (s_ret k3)
theorem plain (ns : List Int) : ∃ q, evalSs F_law c_law (st0 ns) = some (.rt (.bool true) (some q)) := by
  obtain ⟨π1, e1, P1⟩ := errors_plain (π := ⟨ns, 0, 0⟩) (b := 0) ⟨Int.le_refl _, Int.le_refl _⟩ (by decide)
  obtain ⟨π2, e2, P2⟩ := m_papers_ok P1 (by decide)
  rw [← pf0] at e1
  rw [← pf1] at e2
  exact ⟨π2, law_run e1 e2⟩
def spLaw (K : PySem.W.Frag) : Sp := fun vs H Q _ => ∃ (a : Addr) (ns : List Int), vs = [.ref a] ∧ SqL K H a (ns.map V.int) ∧ ns.length ≤ 63 ∧ ∀ H', Q (.bl true) H'
theorem st0_at {ns : List Int} {i : Nat} {x : SD} (h : (st0 ns).δ[i]? = some x) : x = .unk ∨ (i = 1 ∧ x = .pen) := by
  match i with
  | 0 => exact .inl (Option.some.inj h).symm
  | 1 => exact .inr ⟨rfl, (Option.some.inj h).symm⟩
  | i + 2 => cases h
theorem rel0 {K : PySem.W.Frag} {H : Hp} {p q : Addr} {ns : List Int} {v0 : V} (npq : p ≠ q) (hq : H q = some (.lst (ns.map V.int))) (hp : H p = some (.lst [.ref q, .int 0, .int 0])) :
    Rel K (some p) (fun b => if b = p then none else H b) H (fun b => if b = p then none else H b) H ((start n_law [v0]).set 1 (some (.ref p))) (st0 ns) := by
  have sub : Same (fun b => if b = p then none else H b) H := by
    intro b o e
    by_cases z : b = p
    · simp only [if_pos z] at e; cases e
    · simp only [if_neg z] at e; exact e
  refine ⟨fun _ _ _ h => h, sub, Same.refl _, fun a o h => .inl ⟨o, h⟩, fun a e => ?_, fun a e => ?_, rfl, fun i d e => ?_, ?_, fun i e => ?_, fun i es e => ?_, fun i j es es' _ e => ?_⟩
  · cases e; simp
  · cases e; rw [hp]; exact fun z => nomatch z
  · unfold S.get at e
    split at e
    · rename_i d' e1
      rcases st0_at e1 with z | ⟨_, z⟩ <;> cases z
    · cases e
  · exact ⟨p, rfl, q, hp, .of (by simp only [if_neg npq.symm]; exact hq)⟩
  · rcases st0_at e with z | ⟨z, _⟩
    · cases z
    · subst z; exact ⟨p, rfl, rfl⟩
  · rcases st0_at e with z | ⟨_, z⟩ <;> cases z
  · rcases st0_at e with z | ⟨_, z⟩ <;> cases z
section
variable {P : Program} {w : World} {K : PySem.W.Frag} {mg : Str → Option Value} {base : Heap} {cP cD cK cB fP fE b1 b2 fK cdaK ccK fB cdaB ccB : Addr} {fdP fdE fd1 fd2 fdK fdB : FuncData}
theorem md_law (E : TxtE P K mg) (T : PapX P K mg cP cD cK cB fP fE b1 b2 fK cdaK ccK fB cdaB ccB fdP fdE fd1 fd2 fdK fdB) (D : Df K mg "fixed" s_fixed) (D1 : Df K mg "_law_errors_right" s_law_errors_right) (D2 : Df K mg "_law_papers_right" s_law_papers_right) : Md g_law F_law P w K mg base 21 := {
    bl := fun x h => by simp [g_law] at h
    gl := fun i x d h => by simp [g_law] at h
    fn := fun i e h => by simp [g_law] at h
    pf := fun i e h => match i, h with
      | 0, h => by cases h; exact pfF_of (ps := ["pen"]) (m := m_law_errors_right) D1 (fg_errors E) (by decide) (fun _ _ _ _ _ _ us hu => match us, hu with | [u0], _ => rfl)
      | 1, h => by cases h; exact pfF_of (ps := ["pen"]) (m := m_law_papers_right) D2 (fun f fd F => fg_papers (md_pap E T D) (md_tail E T D) F) (by decide) (fun _ _ _ _ _ _ us hu => match us, hu with | [u0], _ => rfl)
      | n + 2, h => by simp [g_law] at h }
theorem fg_law (E : TxtE P K mg) (T : PapX P K mg cP cD cK cB fP fE b1 b2 fK cdaK ccK fB cdaB ccB fdP fdE fd1 fd2 fdK fdB) (D : Df K mg "fixed" s_fixed) (D1 : Df K mg "_law_errors_right" s_law_errors_right) (D2 : Df K mg "_law_papers_right" s_law_papers_right) (D3 : Df K mg "_law_pen" s_pen)
    (f : Addr) (fd : FuncData) (F : Fun K "law" "law" s_law f fd) : FG P w K mg base CX0 22 f fd ["script"] (spLaw K) := by
  refine fg_of F sc_law (fun vs H Q E h => ?_) fun cdv A outer s H vs Q Ex hr hg h => ?_
  · obtain ⟨a, ns, rfl, _⟩ := h
    rfl
  · obtain ⟨a, ns, rfl, hS, hl, k⟩ := h
    obtain ⟨fp, fdp, mp, Fp⟩ := D3.ex
    have GP : FnOk P w K mg base CX0 1 fp fdp ["script"] (spPen K) := ok_lawpen Fp (E.bl _ (by decide +kernel))
    have ok := okS_of (F := F_law) (Γ := g_law) (k := 21) (qual := "law") (f := f) (cdv := cdv) (outer := outer) (s := s) (H := H) (E := Ex) (P := P) (w := w) (K := K) (mg := mg) (base := base) sc_law (md_law E T D D1 D2) hr hg
    refine ⟨_, PSs.nox (pss_cons (ps_set (i := 1) sc_law.nd rfl (.inl rfl) (pe_call GP (hr.mono (by decide)) rfl mp Fp.kp (Fp.binds fun _ _ _ _ _ _ us hu => match us, hu with | [_], _ => rfl) .nil pass0 (pa_cons (pv 0) pa_nil))) pss_w), ?_⟩
    refine ⟨.ref a, rfl, a, ns, rfl, hS, hl, fun q p H' hq hp npq sm hq' hp' => ?_⟩
    obtain ⟨π, ev⟩ := plain ns
    refine soundSs k_law _ ok rfl _ _ _ _ _ _ _ _ (rel0 npq hq' hp') ev _ fun v σ' st' B' H2 R' z s' dv' => ?_
    cases dv'
    exact k H2
end
end K00


set_option Elab.async false
set_option linter.all false
set_option maxRecDepth 100000
set_option maxHeartbeats 8000000
namespace K00
open PySem PySem.Spec PyProof.Rows L2 Kd
def mkB (K : PySem.W.Frag) (C f : Addr) : Bool := PySem.W.makesIn K C && (decide (PySem.W.findIn K (.ref C) "__init__" = some (some (.ref f))) && (PySem.W.isFn K (.ref f) && PySem.W.keepIn K (.ref C)))
theorem mk_of_b {K : PySem.W.Frag} {C f : Addr} (h : mkB K C f = true) : Mk K C f := by
  simp only [mkB, Bool.and_eq_true, decide_eq_true_eq] at h
  obtain ⟨a, b, c, d⟩ := h
  exact ⟨a, b, c, d⟩
def supB (K : PySem.W.Frag) (C fP : Addr) : Bool := (PySem.W.clsIn K C).isSome && (decide (PySem.W.mroIn K C (.ref C) = some true) && (decide (PySem.W.ks_superIn K C C "__init__" = some (some (.ref fP))) && (decide (PySem.W.nsIn K cStatics "thirdparty.any" = some none) && (decide (PySem.W.typeIn K (.ref fP) = some (.type "function")) && PySem.W.fnIn K fP))))
theorem sup_mk {P : Program} {K : PySem.W.Frag} {h : Heap} {mg : Str → Option Value} (X : K.In h) (G : h.Ns mainGlobals mg) {C f cda cc fP : Addr} {ccl : Value} {cdd : Option Addr} {vs : Array Value} {file : Str} {tf : Tok} {ccs : Array (Option Value)} {cl : Value} {cld : Option Addr} {csl : Array (Option Value)}
    (lc : K.lookup cda = some ⟨ccl, cdd, .fields vs, ccs⟩) (vf : vs[2]? = some (.str file tf)) (fm : ((P.main.file : Str) == file) = true) (tp : (P.main.scope.names.lookup ("super" : Str)).isSome = false)
    (lcc : K.lookup cc = some ⟨cl, cld, .cell (some (.ref C)), csl⟩) (sp : PySem.W.nsIn K mainGlobals "super" = some none) (bb : supB K C fP = true) : SupP P K mg C f cda cc fP := by
  simp only [supB, Bool.and_eq_true, decide_eq_true_eq] at bb
  obtain ⟨b1, b2, b3, b4, b5, b6⟩ := bb
  exact ⟨⟨ccl, cdd, vs, file, tf, ccs, lc, vf, fm⟩, tp, ⟨cl, cld, csl, lcc⟩, Option.isSome_iff_exists.mp b1, b2, PySem.W.mg_none_of X G sp, b3, b4, b5, b6⟩
def papB (K : PySem.W.Frag) (cP cD cK cB fP fE b1 b2 fK fB : Addr) : Bool :=
  plaB K cP "Paper" ["word", "parts"] fE && (plaB K cD "Denial" ["word", "parts"] fE && (plaB K cK "Kept" ["word", "parts", "machine", "ranks"] fE && (plaB K cB "Beaten" ["word", "parts", "machine", "ranks"] fE &&
  (mkB K cP fP && (mkB K cD fP && (mkB K cK fK && (mkB K cB fB && (supB K cK fP && (supB K cB fP && (kitB K csP ["Paper", "Denial"] tblP && (decide (PySem.W.kitOne K (.type "tuple") (.ref cP) = some false) && (fstB K &&
  (decide (PySem.W.findIn K (.ref cP) "__bool__" = some (some (.ref b1))) && (decide (PySem.W.findIn K (.ref cD) "__bool__" = some (some (.ref b2))) && (decide (PySem.W.findIn K (.ref cK) "__bool__" = some (some (.ref b1))) && (decide (PySem.W.findIn K (.ref cB) "__bool__" = some (some (.ref b2))) &&
  (PySem.W.isFn K (.ref b1) && PySem.W.isFn K (.ref b2))))))))))))))))))
theorem pap_mk {P : Program} {K : PySem.W.Frag} {h : Heap} {mg : Str → Option Value} (X : K.In h) (G : h.Ns mainGlobals mg) {cP cD cK cB fP fE b1 b2 fK cdaK ccK fB cdaB ccB : Addr} {ocP kVP dcP pmP cdP ctP : Value} {odP anP : Option Addr} {slP : Array (Option Value)} {ocE kVE dcE pmE cdE ctE : Value} {odE anE : Option Addr} {slE : Array (Option Value)} {oc1 kV1 dc1 pm1 cd1 ct1 : Value} {od1 an1 : Option Addr} {sl1 : Array (Option Value)} {oc2 kV2 dc2 pm2 cd2 ct2 : Value} {od2 an2 : Option Addr} {sl2 : Array (Option Value)} {ocK kVK dcK pmK ctK : Value} {odK anK : Option Addr} {slK : Array (Option Value)} {ocB kVB dcB pmB ctB : Value} {odB anB : Option Addr} {slB : Array (Option Value)}
    {cclK : Value} {cddK : Option Addr} {vsK : Array Value} {fileK : Str} {tfK : Tok} {ccsK : Array (Option Value)} {clK : Value} {cldK : Option Addr} {cslK : Array (Option Value)}
    {cclB : Value} {cddB : Option Addr} {vsB : Array Value} {fileB : Str} {tfB : Tok} {ccsB : Array (Option Value)} {clB : Value} {cldB : Option Addr} {cslB : Array (Option Value)}
    (nP : PySem.W.nsIn K mainGlobals "Paper" = some (some (.ref cP)))
    (nD : PySem.W.nsIn K mainGlobals "Denial" = some (some (.ref cD)))
    (nK : PySem.W.nsIn K mainGlobals "Kept" = some (some (.ref cK)))
    (nB : PySem.W.nsIn K mainGlobals "Beaten" = some (some (.ref cB)))
    (iP : PySem.W.findIn K (.ref cP) "__init__" = some (some (.ref fP)))
    (iE : PySem.W.findIn K (.ref cP) "__eq__" = some (some (.ref fE)))
    (i1 : PySem.W.findIn K (.ref cP) "__bool__" = some (some (.ref b1)))
    (i2 : PySem.W.findIn K (.ref cD) "__bool__" = some (some (.ref b2)))
    (iK : PySem.W.findIn K (.ref cK) "__init__" = some (some (.ref fK)))
    (iB : PySem.W.findIn K (.ref cB) "__init__" = some (some (.ref fB)))
    (lP : K.lookup fP = some ⟨ocP, odP, .func (PySem.W.fnOf "__init__" "Paper.__init__" (defArgs s_Paper) (defBody s_Paper) (defScope s_Paper) .none kVP dcP pmP anP cdP ctP), slP⟩)
    (qP : PySem.W.codeIn K cdP "Paper.__init__" = true)
    (kP : PySem.W.keepIn K (.ref fP) = true)
    (lE : K.lookup fE = some ⟨ocE, odE, .func (PySem.W.fnOf "__eq__" "Paper.__eq__" (defArgs s_eq) (defBody s_eq) (defScope s_eq) .none kVE dcE pmE anE cdE ctE), slE⟩)
    (qE : PySem.W.codeIn K cdE "Paper.__eq__" = true)
    (kE : PySem.W.keepIn K (.ref fE) = true)
    (l1 : K.lookup b1 = some ⟨oc1, od1, .func (PySem.W.fnOf "__bool__" "Paper.__bool__" (defArgs s_b1) (defBody s_b1) (defScope s_b1) .none kV1 dc1 pm1 an1 cd1 ct1), sl1⟩)
    (q1 : PySem.W.codeIn K cd1 "Paper.__bool__" = true)
    (k1 : PySem.W.keepIn K (.ref b1) = true)
    (l2 : K.lookup b2 = some ⟨oc2, od2, .func (PySem.W.fnOf "__bool__" "Denial.__bool__" (defArgs s_b2) (defBody s_b2) (defScope s_b2) .none kV2 dc2 pm2 an2 cd2 ct2), sl2⟩)
    (q2 : PySem.W.codeIn K cd2 "Denial.__bool__" = true)
    (k2 : PySem.W.keepIn K (.ref b2) = true)
    (lK : K.lookup fK = some ⟨ocK, odK, .func (PySem.W.fnX "__init__" "Kept.__init__" (defArgs s_Kept) (defBody s_Kept) (defScope s_Kept) [("__class__", ccK)] .none kVK dcK pmK anK (.ref cdaK) ctK), slK⟩)
    (lcK : K.lookup cdaK = some ⟨cclK, cddK, .fields vsK, ccsK⟩)
    (vfK : vsK[2]? = some (.str fileK tfK))
    (fmK : ((P.main.file : Str) == fileK) = true)
    (lccK : K.lookup ccK = some ⟨clK, cldK, .cell (some (.ref cK)), cslK⟩)
    (qK : PySem.W.codeIn K (.ref cdaK) "Kept.__init__" = true)
    (lB : K.lookup fB = some ⟨ocB, odB, .func (PySem.W.fnX "__init__" "Beaten.__init__" (defArgs s_Beaten) (defBody s_Beaten) (defScope s_Beaten) [("__class__", ccB)] .none kVB dcB pmB anB (.ref cdaB) ctB), slB⟩)
    (lcB : K.lookup cdaB = some ⟨cclB, cddB, .fields vsB, ccsB⟩)
    (vfB : vsB[2]? = some (.str fileB tfB))
    (fmB : ((P.main.file : Str) == fileB) = true)
    (lccB : K.lookup ccB = some ⟨clB, cldB, .cell (some (.ref cB)), cslB⟩)
    (qB : PySem.W.codeIn K (.ref cdaB) "Beaten.__init__" = true)
    (tp : (P.main.scope.names.lookup ("super" : Str)).isSome = false)
    (sp : PySem.W.nsIn K mainGlobals "super" = some none)
    (hnP : PySem.W.findCls K (.ref cP) (.type "type") "__name__" = some (.get (.builtin "getset_descriptor.__get__") (.builtin "type.__name__") (.ref cP) (.type "type")))
    (hnD : PySem.W.findCls K (.ref cD) (.type "type") "__name__" = some (.get (.builtin "getset_descriptor.__get__") (.builtin "type.__name__") (.ref cD) (.type "type")))
    (hnK : PySem.W.findCls K (.ref cK) (.type "type") "__name__" = some (.get (.builtin "getset_descriptor.__get__") (.builtin "type.__name__") (.ref cK) (.type "type")))
    (hnB : PySem.W.findCls K (.ref cB) (.type "type") "__name__" = some (.get (.builtin "getset_descriptor.__get__") (.builtin "type.__name__") (.ref cB) (.type "type")))
    (bb : papB K cP cD cK cB fP fE b1 b2 fK fB = true) : ∃ fdP fdE fd1 fd2 fdK fdB, PapX P K mg cP cD cK cB fP fE b1 b2 fK cdaK ccK fB cdaB ccB fdP fdE fd1 fd2 fdK fdB := by
  simp only [papB, Bool.and_eq_true, decide_eq_true_eq] at bb
  obtain ⟨p1, p2, p3, p4, m1, m2, m3, m4, s1, s2, kt, tu, fs, x1, x2, x3, x4, g1, g2⟩ := bb
  exact ⟨_, _, _, _, _, _, nP, nD, nK, nB, PySem.W.mg_of X G nP, PySem.W.mg_of X G nD, PySem.W.mg_of X G nK, PySem.W.mg_of X G nB, pla_of p1 hnP, pla_of p2 hnD, pla_of p3 hnK, pla_of p4 hnB, mk_of_b m1, mk_of_b m2, mk_of_b m3, mk_of_b m4,
    fun_mk (st := s_Paper) lP qP kP, fun_mk (st := s_eq) lE qE kE, fun_mk (st := s_b1) l1 q1 k1, fun_mk (st := s_b2) l2 q2 k2, sup_mk X G lcK vfK fmK tp lccK sp s1, ⟨_, _, _, _, _, _, _, _, rfl, lK, qK⟩, sup_mk X G lcB vfB fmB tp lccB sp s2, ⟨_, _, _, _, _, _, _, _, rfl, lB, qB⟩, kt, tu, fs, x1, x2, x3, x4, g1, g2⟩
theorem all_mk {l : PySem.W.OpenLaw} {w : World} {K : PySem.W.Frag} {h : Heap} {mg : Str → Option Value} {fa : Addr} (X : K.In h) (G : h.Ns mainGlobals mg) (hfa : mg "law" = some (.ref fa)) {cF fL N : Addr} {nm qF : Str} {bs bm : List Value} {sn : List Str} {sub : List Value} {ab : Bool} {col : Option Bool} {dd : Option Addr} {k0 k1 k2 k3 k5 : Option Value} {ocL kVL dcL pmL cdL ctL : Value} {odL anL : Option Addr} {slL : Array (Option Value)} {cP cD cK cB fP fE b1 b2 fK cdaK ccK fB cdaB ccB : Addr}
    (e0 : ErrF l.prog K mg "BadValue" "BadValue.__init__" ["part"] s_BadValue)
    (e1 : ErrF l.prog K mg "BadNumber" "BadNumber.__init__" ["part"] s_BadNumber)
    (e2 : ErrF l.prog K mg "BadBoard" "BadBoard.__init__" ["part"] s_BadBoard)
    (e3 : ErrF l.prog K mg "BadMove" "BadMove.__init__" ["state", "index", "part"] s_BadMove)
    (e4 : ErrF l.prog K mg "Misfit" "Misfit.__init__" ["part"] s_Misfit)
    (e5 : ErrF l.prog K mg "TooMany" "TooMany.__init__" ["what", "most"] s_TooMany)
    (e6 : ErrF l.prog K mg "NoName" "NoName.__init__" ["name"] s_NoName)
    (e7 : ErrF l.prog K mg "Nothing" "Nothing.__init__" ["word"] s_Nothing)
    (e8 : ErrF l.prog K mg "BadText" "BadText.__init__" ["line", "word"] s_BadText)
    (e9 : ErrF l.prog K mg "BadLine" "BadLine.__init__" ["word"] s_BadLine)
    (kt : kitB K xsE tsE tblE = true)
    (aF : PySem.W.nsIn K mainGlobals "ForeverError" = some (some (.ref cF)))
    (obF : K.lookup cF = some (excClassObj nm qF cF N bs bm true sn sub ab col dd k0 k1 k2 k3 k5 "ValueError.__new__"))
    (rbF : PySem.HandSPX.refsVE bm = true)
    (bF : excB K cF = true)
    (iF : PySem.W.findIn K (.ref cF) "__init__" = some (some (.builtin "ValueError.__init__")))
    (kF : PySem.W.kitOne K (.ref cF) (.type "ValueError") = some true)
    (D0 : Df K mg "_law_draw" s_law_draw)
    (D1 : Df K mg "_law_pick" s_law_pick)
    (D2 : Df K mg "fixed" s_fixed)
    (D3 : Df K mg "_law_errors_right" s_law_errors_right)
    (D4 : Df K mg "_law_papers_right" s_law_papers_right)
    (D5 : Df K mg "_law_pen" s_pen)
    (aL : PySem.W.nsIn K mainGlobals "law" = some (some (.ref fL)))
    (lL : K.lookup fL = some ⟨ocL, odL, .func (PySem.W.fnOf "law" "law" (defArgs s_law) (defBody s_law) (defScope s_law) .none kVL dcL pmL anL cdL ctL), slL⟩)
    (cL : PySem.W.codeIn K cdL "law" = true)
    (kL : PySem.W.keepIn K (.ref fL) = true)
    (T : ∃ fdP fdE fd1 fd2 fdK fdB, PapX l.prog K mg cP cD cK cB fP fE b1 b2 fK cdaK ccK fB cdaB ccB fdP fdE fd1 fd2 fdK fdB)
    (z0 : PySem.W.nsIn K mainGlobals "int" = some none)
    (z1 : PySem.W.nsIn K mainGlobals "len" = some none)
    (z2 : PySem.W.nsIn K mainGlobals "abs" = some none)
    (z3 : PySem.W.nsIn K mainGlobals "isinstance" = some none)
    (z4 : PySem.W.nsIn K mainGlobals "list" = some none)
    (z5 : PySem.W.nsIn K mainGlobals "tuple" = some none)
    (z6 : PySem.W.nsIn K mainGlobals "range" = some none)
    (z7 : PySem.W.nsIn K mainGlobals "enumerate" = some none)
    (z8 : PySem.W.nsIn K mainGlobals "repr" = some none)
    (z9 : PySem.W.nsIn K mainGlobals "bool" = some none)
    (z10 : PySem.W.nsIn K mainGlobals "ValueError" = some none) :
    ∃ fd : FuncData, (∀ (s : Shared) (v : Value), BindsTo s fd ⟨[v], []⟩ [("script", v)]) ∧ ∀ base : Heap, K.In base → base.Ns mainGlobals mg → FG l.prog w K mg base CX0 22 fa fd ["script"] (spLaw K) := by
  have e := hfa.symm.trans (PySem.W.mg_of X G aL)
  cases e
  obtain ⟨fdP, fdE, fd1, fd2, fdK, fdB, T⟩ := T
  obtain ⟨o1, _, o3⟩ := excB_ok obF rbF bF
  have E : TxtE l.prog K mg := ⟨fun y hy => by
    simp only [BL, List.mem_cons, List.mem_nil_iff, or_false] at hy
    rcases hy with rfl | rfl | rfl | rfl | rfl | rfl | rfl | rfl | rfl | rfl | rfl
    · exact PySem.W.mg_none_of X G z0
    · exact PySem.W.mg_none_of X G z1
    · exact PySem.W.mg_none_of X G z2
    · exact PySem.W.mg_none_of X G z3
    · exact PySem.W.mg_none_of X G z4
    · exact PySem.W.mg_none_of X G z5
    · exact PySem.W.mg_none_of X G z6
    · exact PySem.W.mg_none_of X G z7
    · exact PySem.W.mg_none_of X G z8
    · exact PySem.W.mg_none_of X G z9
    · exact PySem.W.mg_none_of X G z10,
    e0, e1, e2, e3, e4, e5, e6, e7, e8, e9, kt, ⟨cF, aF, PySem.W.mg_of X G aF, o1, iF, o3, kF⟩, D0, D1⟩
  have F := fun_mk (st := s_law) lL cL kL
  exact ⟨_, fun s v => .of_eq rfl, fun base _ _ => fg_law E T D2 D3 D4 D5 _ _ F⟩
theorem walk {l : PySem.W.OpenLaw} {q : Program} {loose : List Str} {XP : (Str → Option Value) → Heap → Prop} {YP : World → Heap → Prop} {d : DefRec} {K : Params → PySem.W.Frag} (hn : l.most = some 63) (hdf : d.params.defaults = [])
    (hY : ∀ (w : World) (h : Heap), YP w h → (K w.params).In h)
    (F : ∀ (w : World) (mg : Str → Option Value) (fa : Addr) (h : Heap), (K w.params).In h → h.Ns mainGlobals mg → mg d.name = some (.ref fa) →
      ∃ fd : FuncData, (∀ (s : Shared) (u : Value), BindsTo s fd ⟨[u], []⟩ [("script", u)]) ∧ ∀ base : Heap, (K w.params).In base → base.Ns mainGlobals mg → FG l.prog w (K w.params) mg base CX0 22 fa fd ["script"] (spLaw (K w.params))) :
    PySem.W.WalkO q loose XP YP l.row.toRowW d [] (fun f vs => PySem.call f vs) :=
  walk_g (n := 63) (k := 22) (x := "script") (CX := CX0) (sp := fun K => spLaw K) hn (by decide) hdf ⟨rfl, by decide, by decide⟩ hY F (fun _ _ a ns hl _ hS => ⟨a, ns, rfl, hS, hl, fun _ => rfl⟩) fun _ _ _ _ z => z
end K00


open PySem PySem.W PyProof.Rows
set_option maxRecDepth 100000 in
set_option maxHeartbeats 0 in
theorem PySem.Challenge.cw_foreverkept_k00_errors_and_papers_keep_w_holds : PySem.Challenge.rw_foreverkept_k00_errors_and_papers_keep_w.Holds := by
  w_on; o_law; k_head; (case hw => w_witness2)
  k_fill
  refine K00.walk (l := PySem.Challenge.rw_foreverkept_k00_errors_and_papers_keep_w) rfl rfl (fun w h Y => PySem.W.kIn_of Y) ?F
  case F =>
    intro w mg fa h KX G hmg
    refine' K00.all_mk KX G hmg (K00.err_mk KX G "BadValue" "BadValue.__init__" ["part"] K00.s_BadValue ?aC0 ?af0 ?lf0 ?lc0 ?vf0 ?fm0 ?tp0 ?lcc0 ?sp0 ?ob0 ?rb0 ?cq0 ?bb0) (K00.err_mk KX G "BadNumber" "BadNumber.__init__" ["part"] K00.s_BadNumber ?aC1 ?af1 ?lf1 ?lc1 ?vf1 ?fm1 ?tp1 ?lcc1 ?sp1 ?ob1 ?rb1 ?cq1 ?bb1) (K00.err_mk KX G "BadBoard" "BadBoard.__init__" ["part"] K00.s_BadBoard ?aC2 ?af2 ?lf2 ?lc2 ?vf2 ?fm2 ?tp2 ?lcc2 ?sp2 ?ob2 ?rb2 ?cq2 ?bb2) (K00.err_mk KX G "BadMove" "BadMove.__init__" ["state", "index", "part"] K00.s_BadMove ?aC3 ?af3 ?lf3 ?lc3 ?vf3 ?fm3 ?tp3 ?lcc3 ?sp3 ?ob3 ?rb3 ?cq3 ?bb3) (K00.err_mk KX G "Misfit" "Misfit.__init__" ["part"] K00.s_Misfit ?aC4 ?af4 ?lf4 ?lc4 ?vf4 ?fm4 ?tp4 ?lcc4 ?sp4 ?ob4 ?rb4 ?cq4 ?bb4) (K00.err_mk KX G "TooMany" "TooMany.__init__" ["what", "most"] K00.s_TooMany ?aC5 ?af5 ?lf5 ?lc5 ?vf5 ?fm5 ?tp5 ?lcc5 ?sp5 ?ob5 ?rb5 ?cq5 ?bb5) (K00.err_mk KX G "NoName" "NoName.__init__" ["name"] K00.s_NoName ?aC6 ?af6 ?lf6 ?lc6 ?vf6 ?fm6 ?tp6 ?lcc6 ?sp6 ?ob6 ?rb6 ?cq6 ?bb6) (K00.err_mk KX G "Nothing" "Nothing.__init__" ["word"] K00.s_Nothing ?aC7 ?af7 ?lf7 ?lc7 ?vf7 ?fm7 ?tp7 ?lcc7 ?sp7 ?ob7 ?rb7 ?cq7 ?bb7) (K00.err_mk KX G "BadText" "BadText.__init__" ["line", "word"] K00.s_BadText ?aC8 ?af8 ?lf8 ?lc8 ?vf8 ?fm8 ?tp8 ?lcc8 ?sp8 ?ob8 ?rb8 ?cq8 ?bb8) (K00.err_mk KX G "BadLine" "BadLine.__init__" ["word"] K00.s_BadLine ?aC9 ?af9 ?lf9 ?lc9 ?vf9 ?fm9 ?tp9 ?lcc9 ?sp9 ?ob9 ?rb9 ?cq9 ?bb9) ?kt ?aF ?obF ?rbF ?bF ?iF ?kF (Kd.df_mk KX G ?a_0 ?l_0 ?c_0 ?k_0) (Kd.df_mk KX G ?a_1 ?l_1 ?c_1 ?k_1) (Kd.df_mk KX G ?a_2 ?l_2 ?c_2 ?k_2) (Kd.df_mk KX G ?a_3 ?l_3 ?c_3 ?k_3) (Kd.df_mk KX G ?a_4 ?l_4 ?c_4 ?k_4) (Kd.df_mk KX G ?a_5 ?l_5 ?c_5 ?k_5) ?aL ?lL ?cL ?kL (K00.pap_mk KX G ?p_nP ?p_nD ?p_nK ?p_nB ?p_iP ?p_iE ?p_i1 ?p_i2 ?p_iK ?p_iB ?p_lP ?p_qP ?p_kP ?p_lE ?p_qE ?p_kE ?p_l1 ?p_q1 ?p_k1 ?p_l2 ?p_q2 ?p_k2 ?p_lK ?p_lcK ?p_vfK ?p_fmK ?p_lccK ?p_qK ?p_lB ?p_lcB ?p_vfB ?p_fmB ?p_lccB ?p_qB ?p_tp ?p_sp ?p_hnP ?p_hnD ?p_hnK ?p_hnB ?p_bb) ?z0 ?z1 ?z2 ?z3 ?z4 ?z5 ?z6 ?z7 ?z8 ?z9 ?z10
    (case aC0 => k_is)
    (case af0 => k_is)
    (case lf0 => k_is)
    (case lc0 => k_is)
    (case vf0 => first | rfl | k_is)
    (case fm0 => first | decide +kernel | rfl)
    (case tp0 => first | decide +kernel | rfl)
    (case lcc0 => k_is)
    (case sp0 => k_is)
    (case ob0 => k_is)
    (case rb0 => first | rfl | decide +kernel)
    (case cq0 => k_is)
    (case bb0 => first | kernel_rfl | decide +kernel)
    (case aC1 => k_is)
    (case af1 => k_is)
    (case lf1 => k_is)
    (case lc1 => k_is)
    (case vf1 => first | rfl | k_is)
    (case fm1 => first | decide +kernel | rfl)
    (case tp1 => first | decide +kernel | rfl)
    (case lcc1 => k_is)
    (case sp1 => k_is)
    (case ob1 => k_is)
    (case rb1 => first | rfl | decide +kernel)
    (case cq1 => k_is)
    (case bb1 => first | kernel_rfl | decide +kernel)
    (case aC2 => k_is)
    (case af2 => k_is)
    (case lf2 => k_is)
    (case lc2 => k_is)
    (case vf2 => first | rfl | k_is)
    (case fm2 => first | decide +kernel | rfl)
    (case tp2 => first | decide +kernel | rfl)
    (case lcc2 => k_is)
    (case sp2 => k_is)
    (case ob2 => k_is)
    (case rb2 => first | rfl | decide +kernel)
    (case cq2 => k_is)
    (case bb2 => first | kernel_rfl | decide +kernel)
    (case aC3 => k_is)
    (case af3 => k_is)
    (case lf3 => k_is)
    (case lc3 => k_is)
    (case vf3 => first | rfl | k_is)
    (case fm3 => first | decide +kernel | rfl)
    (case tp3 => first | decide +kernel | rfl)
    (case lcc3 => k_is)
    (case sp3 => k_is)
    (case ob3 => k_is)
    (case rb3 => first | rfl | decide +kernel)
    (case cq3 => k_is)
    (case bb3 => first | kernel_rfl | decide +kernel)
    (case aC4 => k_is)
    (case af4 => k_is)
    (case lf4 => k_is)
    (case lc4 => k_is)
    (case vf4 => first | rfl | k_is)
    (case fm4 => first | decide +kernel | rfl)
    (case tp4 => first | decide +kernel | rfl)
    (case lcc4 => k_is)
    (case sp4 => k_is)
    (case ob4 => k_is)
    (case rb4 => first | rfl | decide +kernel)
    (case cq4 => k_is)
    (case bb4 => first | kernel_rfl | decide +kernel)
    (case aC5 => k_is)
    (case af5 => k_is)
    (case lf5 => k_is)
    (case lc5 => k_is)
    (case vf5 => first | rfl | k_is)
    (case fm5 => first | decide +kernel | rfl)
    (case tp5 => first | decide +kernel | rfl)
    (case lcc5 => k_is)
    (case sp5 => k_is)
    (case ob5 => k_is)
    (case rb5 => first | rfl | decide +kernel)
    (case cq5 => k_is)
    (case bb5 => first | kernel_rfl | decide +kernel)
    (case aC6 => k_is)
    (case af6 => k_is)
    (case lf6 => k_is)
    (case lc6 => k_is)
    (case vf6 => first | rfl | k_is)
    (case fm6 => first | decide +kernel | rfl)
    (case tp6 => first | decide +kernel | rfl)
    (case lcc6 => k_is)
    (case sp6 => k_is)
    (case ob6 => k_is)
    (case rb6 => first | rfl | decide +kernel)
    (case cq6 => k_is)
    (case bb6 => first | kernel_rfl | decide +kernel)
    (case aC7 => k_is)
    (case af7 => k_is)
    (case lf7 => k_is)
    (case lc7 => k_is)
    (case vf7 => first | rfl | k_is)
    (case fm7 => first | decide +kernel | rfl)
    (case tp7 => first | decide +kernel | rfl)
    (case lcc7 => k_is)
    (case sp7 => k_is)
    (case ob7 => k_is)
    (case rb7 => first | rfl | decide +kernel)
    (case cq7 => k_is)
    (case bb7 => first | kernel_rfl | decide +kernel)
    (case aC8 => k_is)
    (case af8 => k_is)
    (case lf8 => k_is)
    (case lc8 => k_is)
    (case vf8 => first | rfl | k_is)
    (case fm8 => first | decide +kernel | rfl)
    (case tp8 => first | decide +kernel | rfl)
    (case lcc8 => k_is)
    (case sp8 => k_is)
    (case ob8 => k_is)
    (case rb8 => first | rfl | decide +kernel)
    (case cq8 => k_is)
    (case bb8 => first | kernel_rfl | decide +kernel)
    (case aC9 => k_is)
    (case af9 => k_is)
    (case lf9 => k_is)
    (case lc9 => k_is)
    (case vf9 => first | rfl | k_is)
    (case fm9 => first | decide +kernel | rfl)
    (case tp9 => first | decide +kernel | rfl)
    (case lcc9 => k_is)
    (case sp9 => k_is)
    (case ob9 => k_is)
    (case rb9 => first | rfl | decide +kernel)
    (case cq9 => k_is)
    (case bb9 => first | kernel_rfl | decide +kernel)
    (case kt => first | kernel_rfl | decide +kernel)
    (case aF => k_is)
    (case obF => k_is)
    (case rbF => first | rfl | decide +kernel)
    (case bF => first | kernel_rfl | decide +kernel)
    (case iF => k_is)
    (case kF => first | k_is | kernel_rfl)
    (case a_0 => k_is)
    (case l_0 => k_is)
    (case c_0 => k_is)
    (case k_0 => k_is)
    (case a_1 => k_is)
    (case l_1 => k_is)
    (case c_1 => k_is)
    (case k_1 => k_is)
    (case a_2 => k_is)
    (case l_2 => k_is)
    (case c_2 => k_is)
    (case k_2 => k_is)
    (case a_3 => k_is)
    (case l_3 => k_is)
    (case c_3 => k_is)
    (case k_3 => k_is)
    (case a_4 => k_is)
    (case l_4 => k_is)
    (case c_4 => k_is)
    (case k_4 => k_is)
    (case a_5 => k_is)
    (case l_5 => k_is)
    (case c_5 => k_is)
    (case k_5 => k_is)
    (case aL => k_is)
    (case lL => k_is)
    (case cL => k_is)
    (case kL => k_is)
    (case p_nP => k_is)
    (case p_nD => k_is)
    (case p_nK => k_is)
    (case p_nB => k_is)
    (case p_iP => k_is)
    (case p_iE => k_is)
    (case p_i1 => k_is)
    (case p_i2 => k_is)
    (case p_iK => k_is)
    (case p_iB => k_is)
    (case p_lP => k_is)
    (case p_qP => k_is)
    (case p_kP => k_is)
    (case p_lE => k_is)
    (case p_qE => k_is)
    (case p_kE => k_is)
    (case p_l1 => k_is)
    (case p_q1 => k_is)
    (case p_k1 => k_is)
    (case p_l2 => k_is)
    (case p_q2 => k_is)
    (case p_k2 => k_is)
    (case p_lK => k_is)
    (case p_lcK => k_is)
    (case p_vfK => first | rfl | k_is)
    (case p_fmK => first | decide +kernel | rfl)
    (case p_lccK => k_is)
    (case p_qK => k_is)
    (case p_lB => k_is)
    (case p_lcB => k_is)
    (case p_vfB => first | rfl | k_is)
    (case p_fmB => first | decide +kernel | rfl)
    (case p_lccB => k_is)
    (case p_qB => k_is)
    (case p_tp => first | decide +kernel | rfl)
    (case p_sp => k_is)
    (case p_hnP => first | kernel_rfl | k_is)
    (case p_hnD => first | kernel_rfl | k_is)
    (case p_hnK => first | kernel_rfl | k_is)
    (case p_hnB => first | kernel_rfl | k_is)
    (case p_bb => first | kernel_rfl | decide +kernel)
    (case z0 => k_is)
    (case z1 => k_is)
    (case z2 => k_is)
    (case z3 => k_is)
    (case z4 => k_is)
    (case z5 => k_is)
    (case z6 => k_is)
    (case z7 => k_is)
    (case z8 => k_is)
    (case z9 => k_is)
    (case z10 => k_is)

