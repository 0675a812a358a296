import PyProof.Rows.All
import Wide.All
import OpenK.AllK
import Wide.FinOn
import HandS.ForMost
import HandS.IsInst
import HandS.Defaults
import HandS.RaiseMore
import HandS.Deep
import HandS.Walk
import HandS.ExcInit
import HandS.Lambda
import KE.KExcIs
import HandS.ExcField
import HandS.ExcIs
import HandS.Comp
import KE.KDflt
import HandS.Style
import HandS.TupAny
import HandS.Wide
import HandS.Iter
import HandS.More
import HandS.Small
import PyProof.Rows.StrMeet
import KE.KUnpack
import KE.KExcSuper
import KE.KSuper
import HandS.Exc
import HandS.EndTab
import PyProof.SumAny
import PyProof.Walks
import PyProof.Rows.SeqMore
import KE.KDictPairs
import HandS.Conv
import HandS.ExcValue
import HandS.Head2
import HandS.HeadEnd
import HandS.HeadHook4
import HandS.HeadWalk
import KE.KStateDown
import PySem.Challenge.RW_foreverkept_k09_whole_wishes_granted_by
set_option Elab.async false
set_option linter.all false
set_option maxRecDepth 100000
set_option maxHeartbeats 4000000
/-! Calls with an empty list of guards: what repr of a list wants. -/
namespace Nv
open PySem PySem.Spec PyProof.Rows L2

/-- a def's promise where no guarded builtin runs around it -/
structure FG (P : Program) (w : World) (K : PySem.W.Frag) (mg : Str → Option Value) (base : Heap)
    (CX : CXT) (k : Nat) (f : Addr) (fd : FuncData) (ps : List Str) (sp : Sp) : Prop where
  len : ∀ vs H Q E, sp vs H Q E → vs.length = ps.length
  run : ∀ (A : Around) (outer : List Env) (s : Shared) (H : Hp) (args : Args)
    (us : List Value) (vs : List V) (Q : VK) (E : XK), Room k A → A.guards = some [] →
    Env0 P w K mg base A outer s H → BindsTo s fd args (ps.zip us) → Vals vs us → sp vs H Q E →
    codeAny (model P w) A (.call (.ref f) args) (CR CX outer P w H s Q E) s

theorem FG.of_ok {P : Program} {w : World} {K : PySem.W.Frag} {mg : Str → Option Value} {base : Heap}
    {CX : CXT} {k : Nat} {f : Addr} {fd : FuncData} {ps : List Str} {sp : Sp}
    (F : FnOk P w K mg base CX k f fd ps sp) : FG P w K mg base CX k f fd ps sp :=
  ⟨F.len, fun A o s H ar us vs Q E r _ e b v h => F.run A o s H ar us vs Q E r e b v h⟩
theorem FG.mono {P : Program} {w : World} {K : PySem.W.Frag} {mg : Str → Option Value} {base : Heap}
    {CX : CXT} {j k : Nat} {f : Addr} {fd : FuncData} {ps : List Str} {sp : Sp}
    (F : FG P w K mg base CX j f fd ps sp) (h : j ≤ k) : FG P w K mg base CX k f fd ps sp :=
  ⟨F.len, fun A o s H ar us vs Q E r g => F.run A o s H ar us vs Q E (r.mono h) g⟩
theorem FG.imp {P : Program} {w : World} {K : PySem.W.Frag} {mg : Str → Option Value} {base : Heap}
    {CX : CXT} {k : Nat} {f : Addr} {fd : FuncData} {ps : List Str} {sp sp' : Sp}
    (F : FG P w K mg base CX k f fd ps sp) (h : ∀ vs H Q E, sp' vs H Q E → sp vs H Q E) :
    FG P w K mg base CX k f fd ps sp' :=
  ⟨fun vs H Q E q => F.len vs H Q E (h _ _ _ _ q),
   fun A o s H ar us vs Q E r g e b v q => F.run A o s H ar us vs Q E r g e b v (h _ _ _ _ q)⟩

theorem deeper_guards {A : Around} {env : Env} (h : A.guards = some []) : (A.deeper env).guards = some [] := h

/-- a def by its body -/
theorem fg_of {CX : CXT} {P : Program} {w : World} {K : PySem.W.Frag} {mg : Str → Option Value}
    {base : Heap} {k : Nat} {x qual : Str} {st : Stmt} {f : Addr} {fd : FuncData}
    {N ps : List Str} {sp : Sp} (F : Fun K x qual st f fd) (S : FnScope N ps (defScope st))
    (len : ∀ vs H Q E, sp vs H Q E → vs.length = ps.length)
    (body : ∀ (cdv : Value) (A : Around) (outer : List Env) (s : Shared) (H : Hp) (vs : List V)
      (Q : VK) (E : XK), Room k (A.deeper (envOfC qual (defScope st) s.heap.objs.size f cdv)) →
      A.guards = some [] → sp vs H Q E →
      ∃ t, PSs (cxOf CX P w K mg base N qual (defScope st) f cdv A outer s H E) (defBody st) t ∧
        t { nx := fun _ H' => Q .non H', rt := Q } (start N vs) H) :
    FG P w K mg base CX (k + 1) f fd ps sp := by
  obtain ⟨oc, od, kV, doc, pm, an, cdv, ct, osl, rfl, lk, hcd⟩ := F.ex
  constructor
  · exact len
  intro A outer s H args us vs Q E room guards env bt vals hsp
  have hlen := len _ _ _ _ hsp
  have kin : K.In s.heap := env.mod.kin.keeps fun b o e => (env.bs b o e).1
  have nolim : s.heap.NoLimit := env.mod.nolimit.keeps fun b o e => (env.bs b o e).1
  have kinds : ∀ y ∈ ps.zip us, (defScope st).names.lookup y.1 = some .local ∨
      ((defScope st).names.lookup y.1 = some .cell ∧
        ((cellsFrom (s.heap.objs.size + 1) (defScope st).names []).lookup y.1).isSome = true) := by
    intro ⟨n, v⟩ hy
    cases S.par n (List.of_mem_zip hy).1 with
    | inl q => exact .inl q
    | inr q => exact .inr ⟨q, PySem.W.cellsFrom_some _ _ _ (.inl q)⟩
  apply codeAny_call_function room.depth (kin _ _ lk) rfl S.co S.gen rfl (PySem.W.codeRec_of kin hcd)
  apply bt
  apply wpAny_newFunctionEnv_cells S.kind kinds
  intro env' he s1 ic
  subst he
  refine ⟨nolim.keeps ic.toInCall.keep, codeAny_func ?_⟩
  obtain ⟨t, ht, hq⟩ := body cdv A outer s H vs Q E (room.deeper _) guards hsp
  have I0 : Inv (cxOf CX P w K mg base N qual (defScope st) f cdv A outer s H E) [] (start N vs) H s1 :=
    inv_start S room.hd env hlen vals ic
  apply wpAny_mono (ht.run [] s1 (start N vs) H _ I0 hq)
  · intro fl s' hs
    cases fl with
    | ret u =>
      obtain ⟨v, σ', H', J, rv, q⟩ := hs
      exact ⟨v, H', J.os, J.bare, J.base, J.hok, rv, q⟩
    | next =>
      obtain ⟨σ', H', J, q⟩ := hs
      exact ⟨.non, H', J.os, J.bare, J.base, J.hok, rfl, q⟩
    | brk => obtain ⟨_, _, _, q⟩ := hs; exact q.elim
    | cont => obtain ⟨_, _, _, q⟩ := hs; exact q.elim
  · intro e s' hs
    exact hs

section
variable {X : Cx} {CX : CXT} {k n : Nat} {f : Addr} {fd : FuncData} {ps ks : List Str} {sp : Sp}
  {E : XK} {x : Str} {p pos : Pos} {e : Expr} {es : List Expr} {kws : List Keyword} {t tk : TA}
  {g : List Value → List Value → List Value} {gV : List V → List V → List V}

theorem fg_end {pins : List (Addr × Obj)} {σ : L2.St} {H : Hp} {s : Shared} {Q : VK} {c : Code}
    (hx : Passes CX X E) (I : Inv X pins σ H s)
    (h : codeAny (model X.prog X.w) X.A c (CR CX X.stack X.prog X.w H s Q E) s) :
    codeAny (model X.prog X.w) X.A c (fun r s' => match r with
      | .ok (.ret u) => EP X pins σ Q u s'
      | .ok _ => False
      | .error e => X.xe e s') s := by
  refine codeAny_mono h fun r s' hq => ?_
  match r, hq with
  | .error e, hq => exact hx pins σ H s e s' I hq
  | .ok (.ret u), hq => exact I.after hq

/-- the call, positional and keyword values bound -/
theorem fg_run {pins : List (Addr × Obj)} {σ : L2.St} {H : Hp} {s : Shared} {Q : VK} {us : List Value}
    {vs : List V} {args : Args}
    (F : FG X.prog X.w X.K X.mg X.base CX k f fd ps sp) (hr : Room k X.A) (hg : X.A.guards = some [])
    (hb : BindsTo s fd args (ps.zip us)) (hx : Passes CX X E) (I : Inv X pins σ H s) (r : Vals vs us)
    (h : sp vs H Q E) : codeAny (model X.prog X.w) X.A (.call (.ref f) args) (fun r s' => match r with
      | .ok (.ret u) => EP X pins σ Q u s'
      | .ok _ => False
      | .error e => X.xe e s') s :=
  fg_end hx I (F.run X.A X.stack s H args us vs Q E hr hg I.env0 hb r h)
end

/-- the law's call at the end of the top -/
theorem law_g {P : Program} {w : World} {K : PySem.W.Frag} {mg mb : Str → Option Value} {CX : CXT}
    {k : Nat} {fa a : Addr} {fd : FuncData} {x : Str} {sp : Sp} {s0 : Shared} {vs : List Value} {ns : List Int}
    (kin : K.In s0.heap) (nsg : s0.heap.Ns mainGlobals mg) (nsb : s0.heap.Ns builtinsNs mb)
    (bb : ∀ y : Str, y ≠ "__name__" → mb y = bootBuiltins y) (lim : s0.heap.NoLimit) (gens : s0.gens = #[])
    (ha : s0.heap.get? a = some { cls := .type "list", data := .seq vs.toArray }) (hints : IntsAre vs ns)
    (line : ns.length ≤ sizeLine) (room : Room k callerA)
    (F : ∀ base : Heap, K.In base → base.Ns mainGlobals mg → FG P w K mg base CX k fa fd [x] sp)
    (bind : ∀ (s : Shared) (u : Value), BindsTo s fd ⟨[u], []⟩ [(x, u)])
    (hsp : ∀ H : Hp, Only H → SqL K H a (ns.map V.int) → sp [.ref a] H (fun v _ => v = .bl true) fun _ _ _ => False)
    (hCX : ∀ H e s', CX [] H s0 (fun _ _ _ => False) e s' → False) :
    codeAny (model P w) callerA (.call (.ref fa) ⟨[.ref a], []⟩)
      (fun r s' => r = .ok (.ret (.bool true)) ∧ OldK s0.heap s'.heap ∧ s'.os = s0.os ∧ AllBare s'.gens) s0 := by
  have vals := vals_ints hints
  have ilen := hints.length
  suffices core : ∀ H : Hp, Only H → SqL K H a (ns.map V.int) → HOk P w H s0.heap → (∀ b, H b ≠ none → b = a) →
      (H a ≠ none → K.lookup a = none) → codeAny (model P w) callerA (.call (.ref fa) ⟨[.ref a], []⟩)
        (fun r s' => r = .ok (.ret (.bool true)) ∧ OldK s0.heap s'.heap ∧ s'.os = s0.os ∧ AllBare s'.gens) s0 by
    cases lk : K.lookup a with
    | some o =>
      have e := kin a o lk
      rw [ha] at e
      cases e
      apply core (fun _ => none) (fun _ => .inl rfl)
      · exact .inr ⟨_, vs.toArray, _, lk, rfl, rfl, rfl, by rw [List.size_toArray, ilen]; exact line, by simpa using vals⟩
      · intro b u z; exact nomatch z
      · intro b z; exact absurd rfl z
      · intro z; exact absurd rfl z
    | none =>
      apply core (fun b => if b = a then some (.frz { cls := .type "list", data := .seq vs.toArray } (.lst (ns.map V.int))) else none)
      · intro b
        by_cases hb : b = a
        · exact .inr ⟨_, _, if_pos hb⟩
        · exact .inl (if_neg hb)
      · exact .inl (.inr ⟨{ cls := .type "list", data := .seq vs.toArray }, if_pos rfl⟩)
      · intro b u z
        by_cases hb : b = a
        · replace z := (if_pos hb).symm.trans z
          cases z
          subst hb
          exact ⟨ha, by rw [List.length_map]; exact line, vs, _, vals, ha⟩
        · replace z := (if_neg hb).symm.trans z
          cases z
      · intro b z
        by_cases hb : b = a
        · exact hb
        · exact absurd (if_neg hb) z
      · exact fun _ => lk
  intro H only seq hok hA hK
  have hid : ∀ {b : Addr} {o : Obj}, s0.heap.get? b = some o → H b = none → (hidT s0.heap H).get? b = some o :=
    fun e n => hidT_get e n
  have dictFree : ∀ {b : Addr} {o : Obj} {es : Array DictEntry} {ep : Nat},
      s0.heap.get? b = some o → o.data = .dict es ep → H b = none := by
    intro b o es ep e d
    cases q : H b with
    | none => rfl
    | some u =>
      have eb : b = a := hA b (by rw [q]; simp)
      subst eb
      rw [ha] at e
      cases e
      exact nomatch (show Data.seq vs.toArray _ = Data.dict es ep from d)
  have nsHid : ∀ {b : Addr} {m : Str → Option Value}, s0.heap.Ns b m → (hidT s0.heap H).Ns b m := by
    intro b m ⟨o, es, ep, e, d, r⟩
    exact ⟨o, es, ep, hid e (dictFree e d), d, r⟩
  have kinHid : K.In (hidT s0.heap H) := by
    intro b o e
    apply hid (kin b o e)
    cases q : H b with
    | none => rfl
    | some u =>
      have eb : b = a := hA b (by rw [q]; simp)
      subst eb
      rw [hK (by rw [q]; simp)] at e
      cases e
  have modHid : Mod K mg (hidT s0.heap H) := by
    refine ⟨kinHid, nsHid nsg, ⟨mb, nsHid nsb, bb⟩, ?_⟩
    obtain ⟨mc, h1, h2⟩ := lim
    exact ⟨mc, nsHid h1, h2⟩
  have env0 : Env0 P w K mg (hidT s0.heap H) callerA [] s0 H :=
    ⟨rfl, modHid, fun b o e => of_hidT e, Nat.le_of_eq (hidT_size _ _), trivial, fun b hb => (by cases hb), hok, AllBare.of_eq gens⟩
  have R := (F _ kinHid (nsHid nsg)).run callerA [] s0 H ⟨[.ref a], []⟩ [.ref a] [.ref a] _ _ room rfl env0
    (bind s0 (.ref a)) (.cons rfl .nil) (hsp H only seq)
  refine codeAny_mono R fun r s' h => ?_
  match r, h with
  | .error e, h => exact (hCX H e s' h).elim
  | .ok (.ret u), h =>
    obtain ⟨v, H', os, bare, un, hok', rv, q⟩ := h
    cases (show v = .bl true from q)
    cases (show u = Value.bool true from rv)
    refine ⟨rfl, OldK.of_keep fun b o e => ?_, os, bare⟩
    cases q : H b with
    | none => exact un.keep b o e q (by intro z; cases z) (by simp)
    | some u =>
      cases only b with
      | inl z => rw [q] at z; cases z
      | inr z =>
        obtain ⟨ob, xs, z⟩ := z
        have z2 := un.frzs b ob _ z
        obtain ⟨e1, _⟩ := hok b _ z
        obtain ⟨e2, _⟩ := hok' b _ z2
        rw [e] at e1
        cases e1
        exact e2

/-- the walk of a law row -/
theorem walk_g {l : PySem.W.OpenLaw} {n k : Nat} {q : Program} {loose : List Str}
    {XP : (Str → Option Value) → Heap → Prop} {YP : World → Heap → Prop} {d : DefRec} {K : Params → PySem.W.Frag}
    {CX : CXT} {sp : PySem.W.Frag → Sp} {x : Str}
    (hn : l.most = some n) (hn2 : n ≤ sizeLine) (hdf : d.params.defaults = []) (room : Room k callerA)
    (hY : ∀ (w : World) (h : Heap), YP w h → (K w.params).In h)
    (F : ∀ (w : World) (mg : Str → Option Value) (fa : Addr) (h : Heap), (K w.params).In h → h.Ns mainGlobals mg →
      mg d.name = some (.ref fa) → ∃ fd : FuncData, (∀ (s : Shared) (u : Value), BindsTo s fd ⟨[u], []⟩ [(x, u)]) ∧
        ∀ base : Heap, (K w.params).In base → base.Ns mainGlobals mg →
          FG l.prog w (K w.params) mg base CX k fa fd [x] (sp (K w.params)))
    (hsp : ∀ (K : PySem.W.Frag) (H : Hp) (a : Addr) (ns : List Int), ns.length ≤ n → Only H →
      SqL K H a (ns.map V.int) → sp K [.ref a] H (fun v _ => v = .bl true) fun _ _ _ => False)
    (hCX : ∀ (H : Hp) (s : Shared) (e : Value) (s' : Shared), CX [] H s (fun _ _ _ => False) e s' → False) :
    PySem.W.WalkO q loose XP YP l.row.toRowW d [] (fun f vs => PySem.call f vs) := by
  refine Att.attach_call hn hdf fun w t0 t1 mg mb fa o pm cd doc a vs ns G Y ho hd hcd hmg hobj hints hlen hg => ?_
  have kin := hY w _ Y
  obtain ⟨fd, hb, hF⟩ := F w mg fa _ kin G.T.g hmg
  exact law_g kin G.T.g G.T.b G.T.builtins G.T.nolimit hg hobj hints (Nat.le_trans hlen hn2) room hF hb
    (fun H hO hS => hsp _ H a ns hlen hO hS) fun H e t => hCX H t1 e t
end Nv


set_option Elab.async false
set_option linter.all false
set_option maxRecDepth 100000
set_option maxHeartbeats 4000000
/-! Data on the abstract heap, operations on data. -/
namespace Nv
open PySem PySem.Spec PyProof.Rows L2
/-- an exception that was caught and is kept: its class and its dict stand -/
def kexo (e C : Addr) (d : Option Addr) : HO := .ext fun h => ∃ oe : Obj, h.get? e = some oe ∧ oe.cls = .ref C ∧ oe.dict = d ∧ ∃ vs, oe.data = .fields vs
/-! ### data -/
def kD : Key → PyData
  | .inl i => .int i
  | .inr x => .str x
mutual
inductive Dv (K : PySem.W.Frag) (B : Hp) : V → PyData → Prop
  | non : Dv K B .non .none
  | bl (b : Bool) : Dv K B (.bl b) (.bool b)
  | int (i : Int) : Dv K B (.int i) (.int i)
  | str (x : Str) : Dv K B (.str x) (.str x)
  | lst {a : Addr} {xs : List V} {ds : List PyData} (h : B a = some (.lst xs)) (r : DvL K B xs ds) : Dv K B (.ref a) (.list ds)
  | tup {a : Addr} {xs : List V} {ds : List PyData} (h : SqT K B a xs) (r : DvL K B xs ds) : Dv K B (.ref a) (.tuple ds)
  | dct {a : Addr} {kvs : List (Key × V)} {ds : List (PyData × PyData)} (h : B a = some (.dK kvs)) (r : DvK K B kvs ds) : Dv K B (.ref a) (.dict ds)
  | exc {a C d : Addr} {x : Str} {fs : List (Str × V)} {ds : List (PyData × PyData)} (hx : PySem.W.nsIn K mainGlobals x = some (some (.ref C))) (h1 : B a = some (kexo a C (some d))) (h2 : B d = some (.xd fs)) (r : DvK K B (fs.map fun p => (Sum.inr p.1, p.2)) ds) :
    Dv K B (.ref a) (.dict ((.none, .str x) :: ds))
  | ins {a C dx : Addr} {x : Str} {fs : List (Str × V)} {ds : List (PyData × PyData)} (hx : PySem.W.nsIn K mainGlobals x = some (some (.ref C))) (h1 : B a = some (.ins C dx fs)) (r : DvK K B (fs.map fun p => (Sum.inr p.1, p.2)) ds) :
    Dv K B (.ref a) (.dict ((.bool true, .str x) :: ds))
inductive DvL (K : PySem.W.Frag) (B : Hp) : List V → List PyData → Prop
  | nil : DvL K B [] []
  | cons {v : V} {vs : List V} {d : PyData} {ds : List PyData} (h : Dv K B v d) (r : DvL K B vs ds) : DvL K B (v :: vs) (d :: ds)
inductive DvK (K : PySem.W.Frag) (B : Hp) : List (Key × V) → List (PyData × PyData) → Prop
  | nil : DvK K B [] []
  | cons {k : Key} {v : V} {kvs : List (Key × V)} {d : PyData} {ds : List (PyData × PyData)} (h : Dv K B v d) (r : DvK K B kvs ds) : DvK K B ((k, v) :: kvs) ((kD k, d) :: ds)
end
section
variable {K : PySem.W.Frag} {B B' : Hp}
theorem same_t {a : Addr} {xs : List V} (e : Same B B') (h : SqT K B a xs) : SqT K B' a xs := by
  rcases h with (h | ⟨o, h⟩) | h
  · exact .inl (.inl (e _ _ h))
  · exact .inl (.inr ⟨o, e _ _ h⟩)
  · exact .inr h
mutual
theorem Dv.mono (e : Same B B') : ∀ {v : V} {d : PyData}, Dv K B v d → Dv K B' v d
  | _, _, .non => .non
  | _, _, .bl b => .bl b
  | _, _, .int i => .int i
  | _, _, .str x => .str x
  | _, _, .lst h r => .lst (e _ _ h) (DvL.mono e r)
  | _, _, .tup h r => .tup (same_t e h) (DvL.mono e r)
  | _, _, .dct h r => .dct (e _ _ h) (DvK.mono e r)
  | _, _, .exc hx h1 h2 r => .exc hx (e _ _ h1) (e _ _ h2) (DvK.mono e r)
  | _, _, .ins hx h1 r => .ins hx (e _ _ h1) (DvK.mono e r)
theorem DvL.mono (e : Same B B') : ∀ {vs : List V} {ds : List PyData}, DvL K B vs ds → DvL K B' vs ds
  | _, _, .nil => .nil
  | _, _, .cons h r => .cons (Dv.mono e h) (DvL.mono e r)
theorem DvK.mono (e : Same B B') : ∀ {vs : List (Key × V)} {ds : List (PyData × PyData)}, DvK K B vs ds → DvK K B' vs ds
  | _, _, .nil => .nil
  | _, _, .cons h r => .cons (Dv.mono e h) (DvK.mono e r)
end
theorem DvL.length : ∀ {vs : List V} {ds : List PyData}, DvL K B vs ds → vs.length = ds.length
  | _, _, .nil => rfl
  | _, _, .cons _ r => congrArg (· + 1) (DvL.length r)
theorem DvL.get : ∀ {vs : List V} {ds : List PyData}, DvL K B vs ds → ∀ {i : Nat} {v : V}, vs[i]? = some v → ∃ d, ds[i]? = some d ∧ Dv K B v d
  | _, _, .nil, i, v, h => by simp at h
  | _, _, .cons h r, 0, v, e => by
    cases Option.some.inj e
    exact ⟨_, rfl, h⟩
  | _, _, .cons h r, i + 1, v, e => DvL.get r (i := i) (by simpa using e)
theorem DvL.get' : ∀ {vs : List V} {ds : List PyData}, DvL K B vs ds → ∀ {i : Nat} {d : PyData}, ds[i]? = some d → ∃ v, vs[i]? = some v ∧ Dv K B v d
  | _, _, .nil, i, v, h => by simp at h
  | _, _, .cons h r, 0, v, e => by
    cases Option.some.inj e
    exact ⟨_, rfl, h⟩
  | _, _, .cons h r, i + 1, v, e => DvL.get' r (i := i) (by simpa using e)
theorem DvL.append : ∀ {vs ws : List V} {ds es : List PyData}, DvL K B vs ds → DvL K B ws es → DvL K B (vs ++ ws) (ds ++ es)
  | _, _, _, _, .nil, r => r
  | _, _, _, _, .cons h t, r => .cons h (DvL.append t r)
/-- a row put together anew, by places -/
def pick {α : Type} (pm : List Nat) (l : List α) : List α := pm.filterMap (l[·]?)
theorem DvL.pick {vs : List V} {ds : List PyData} (r : DvL K B vs ds) : ∀ pm : List Nat, DvL K B (pick pm vs) (pick pm ds)
  | [] => .nil
  | i :: pm => by
    have t := DvL.pick r pm
    cases e : vs[i]? with
    | none =>
      have e2 : ds[i]? = none := by
        rw [List.getElem?_eq_none_iff] at e ⊢
        rw [← r.length]
        exact e
      simp only [Nv.pick, List.filterMap_cons, e, e2]
      exact t
    | some v =>
      obtain ⟨d, e2, h⟩ := r.get e
      simp only [Nv.pick, List.filterMap_cons, e, e2]
      exact .cons h t
mutual
theorem Dv.dp (e : Same B B') : ∀ {v : V} {d : PyData}, Dv K B v d → d.hasDict = false → Dp K B' v d
  | _, _, .non, _ => .non
  | _, _, .bl b, _ => .bl b
  | _, _, .int i, _ => .int i
  | _, _, .str x, _ => .str x
  | _, _, .lst h r, n => .lst (.of (e _ _ h)) (DvL.dp e r (by simpa [PyData.hasDict] using n))
  | _, _, .tup h r, n => .tup (same_t e h) (DvL.dp e r (by simpa [PyData.hasDict] using n))
  | _, _, .dct h r, n => by simp [PyData.hasDict] at n
  | _, _, .exc _ _ _ r, n => by simp [PyData.hasDict] at n
  | _, _, .ins _ _ r, n => by simp [PyData.hasDict] at n
theorem DvL.dp (e : Same B B') : ∀ {vs : List V} {ds : List PyData}, DvL K B vs ds → PyData.hasDictAll ds = false → DpAll K B' vs ds
  | _, _, .nil, _ => .nil
  | _, _, .cons h r, n => by
    simp only [PyData.hasDictAll, Bool.or_eq_false_iff] at n
    exact .cons (Dv.dp e h n.1) (DvL.dp e r n.2)
end
end

/-! ### the kinds of data -/
def tyD : PyData → String
  | .none => "NoneType"
  | .bool _ => "bool"
  | .int _ => "int"
  | .str _ => "str"
  | .list _ => "list"
  | .tuple _ => "tuple"
  | .dict _ => "dict"
/-- an instance, by what stands ahead -/
def isObj : PyData → Bool
  | .dict ((.none, _) :: _) => true
  | .dict ((.bool _, _) :: _) => true
  | _ => false
mutual
/-- no instance in it -/
def noObj : PyData → Bool
  | .list xs => noObjAll xs
  | .tuple xs => noObjAll xs
  | .dict ds => !isObj (.dict ds) && noObjKv ds
  | _ => true
def noObjAll : List PyData → Bool
  | [] => true
  | x :: xs => noObj x && noObjAll xs
def noObjKv : List (PyData × PyData) → Bool
  | [] => true
  | (_, v) :: r => noObj v && noObjKv r
end
def isiG (d : PyData) : List String → Option Bool
  | [] => some false
  | t :: ts => match kitB (tyD d) t with
    | some true => some true
    | some false => isiG d ts
    | none => none
def isiD (d : PyData) (ts : List String) : Option Bool := if isObj d then none else isiG d ts
def truthD : PyData → Option Bool
  | .none => some false
  | .bool b => some b
  | .int i => some (i != 0)
  | .str x => if x.length ≤ 100000 then some ((x.length : Int) != 0) else none
  | .list xs => some (!xs.isEmpty)
  | .tuple xs => some (!xs.isEmpty)
  | .dict _ => none
def itemsD : PyData → Option (List PyData)
  | .list xs => some xs
  | .tuple xs => some xs
  | .str x => some (x.cps.toList.map fun c => .str ⟨#[c]⟩)
  | _ => none
def boolsD : List PyData → Option (List Bool)
  | [] => some []
  | .bool b :: ds => (boolsD ds).map (b :: ·)
  | _ :: _ => none
def small (n : Nat) : Bool := decide (n ≤ 100000)

def flatD : PyData → Bool
  | .none => true
  | .bool _ => true
  | .int _ => true
  | .str _ => true
  | _ => false
def binD : Operator → PyData → PyData → Option PyData
  | .Add, .int i, .int j => some (.int (i + j))
  | .Sub, .int i, .int j => some (.int (i - j))
  | .Mult, .int i, .int j => if (-(2 ^ 64) < i ∧ i < 2 ^ 64) ∨ (-(2 ^ 64) < j ∧ j < 2 ^ 64) then some (.int (i * j)) else none
  | .FloorDiv, .int i, .int j => if 0 < j ∧ j < 1073741824 then some (.int (i / j)) else none
  | .Mod, .int i, .int j => if 0 < j then some (.int (i % j)) else none
  | .Pow, .int i, .int j => if 0 ≤ j ∧ j ≤ 1000000 ∧ i.natAbs < 2 ^ 64 then some (.int (i ^ j.toNat)) else none
  | .Add, .str x, .str y => if small (x.length + y.length) then some (.str (x ++ y)) else none
  | _, _, _ => none
def cmpD : CmpOp → PyData → PyData → Option Bool
  | .Is, d, .none => some (match d with | .none => true | _ => false)
  | .IsNot, d, .none => some (match d with | .none => false | _ => true)
  | .Lt, .int i, .int j => some (decide (i < j))
  | .LtE, .int i, .int j => some (decide (i ≤ j))
  | .Gt, .int i, .int j => some (decide (j < i))
  | .GtE, .int i, .int j => some (decide (j ≤ i))
  | .Eq, .str x, .str y => some (x == y)
  | .NotEq, .str x, .str y => some (!(x == y))
  | .Eq, d, e => if SeqAt.shaped d && SeqAt.shaped e then some (PyData.eqv d e) else none
  | .NotEq, d, e => if SeqAt.shaped d && SeqAt.shaped e then some (!PyData.eqv d e) else none
  | .In, .str x, .str y => some (!(Builtin.Str.occurrences y x 0 y.length 1).isEmpty)
  | .In, d, .list ds => if flatD d && ds.all flatD then some (ds.any fun z => PyData.eqv z d) else
      if SeqAt.shaped d && SeqAt.shaped (.list ds) then some (ds.any fun z => PyData.eqv z d) else none
  | .In, d, .tuple ds => if flatD d && ds.all flatD then some (ds.any fun z => PyData.eqv z d) else none
  | _, _, _ => none

/-! ### built-ins of one argument -/
inductive Bt
  | len | all | any | repr | toTup | toList | toInt | abs
def strsD : List PyData → Option (List Str)
  | [] => some []
  | .str x :: ds => (strsD ds).map (x :: ·)
  | _ :: _ => none
def ddS (l : List Str) (x : Str) : List Str := if l.any (· == x) then l else l ++ [x]
def uniqS (xs : List Str) : List Str := xs.foldl ddS []
/-- len(set(..)) -/
def lsetD : PyData → Option PyData
  | .list xs => match strsD xs with
    | some ss => if ss.length ≤ 4000 then some (.int (uniqS ss).length) else none
    | none => none
  | .tuple xs => match strsD xs with
    | some ss => if ss.length ≤ 4000 then some (.int (uniqS ss).length) else none
    | none => none
  | _ => none
def bltD : Bt → PyData → Option PyData
  | .len, .list xs => some (.int xs.length)
  | .len, .tuple xs => some (.int xs.length)
  | .len, .str x => if small x.length then some (.int x.length) else none
  | .all, .list xs => (boolsD xs).map fun bs => .bool (bs.all id)
  | .any, .list xs => (boolsD xs).map fun bs => .bool (bs.any id)
  | .repr, d => if d.showable && noObj d && small d.shown.length && decide (d.depth ≤ 60) then some (.str d.shown) else none
  | .toTup, .list xs => some (.tuple xs)
  | .toTup, .tuple xs => some (.tuple xs)
  | .toList, .list xs => some (.list xs)
  | .toList, .tuple xs => some (.list xs)
  | .toInt, .int i => some (.int i)
  | .toInt, .bool b => some (.int (if b then 1 else 0))
  | .abs, .int i => some (.int (if i < 0 then -i else i))
  | _, _ => none
/-- a field of an instance -/
def fldD (f : Str) : List (PyData × PyData) → Option PyData
  | [] => none
  | (.str g, d) :: ds => if f = g then some d else fldD f ds
  | _ :: _ => none
def attrD (f : Str) (cE cI : List Str) : PyData → Option PyData
  | .dict ((.none, .str x) :: ds) => if x ∈ cE then fldD f ds else none
  | .dict ((.bool true, .str x) :: ds) => if x ∈ cI then fldD f ds else none
  | _ => none
/-- isinstance(d, an own class) -/
def iscD (tE tI : List (Str × Bool)) (tO : List String) : PyData → Option Bool
  | .dict ((.none, .str x) :: _) => tE.lookup x
  | .dict ((.bool true, .str x) :: _) => tI.lookup x
  | d => if isObj d then none else if tyD d ∈ tO then some false else none
/-- a[i] -/
def subD : PyData → PyData → Option PyData
  | .list xs, .int i => atI xs i
  | .tuple xs, .int i => atI xs i
  | _, _ => none

end Nv


set_option Elab.async false
set_option linter.all false
set_option maxRecDepth 100000
set_option maxHeartbeats 4000000
namespace Nv
open PySem PySem.Spec PyProof.Rows L2
/-! ### readings by what runs -/
def wE (X : Cx) (e : Expr) : TE := fun σ H Q => ∀ pins s, Inv X pins σ H s → wpAny (model X.prog X.w) X.A (eval e X.env) (EP X pins σ Q) X.xe s
def wT (X : Cx) (e : Expr) : TT := fun σ H Q => ∀ pins s, Inv X pins σ H s → wpAny (model X.prog X.w) X.A (isTrue e X.env (eval e X.env)) (TP X pins σ Q) X.xe s
def wW (X : Cx) (e : Expr) : TT := fun σ H Q => ∀ whole pins s, Inv X pins σ H s → wpAny (model X.prog X.w) X.A (isTrue e X.env whole) (TP X pins σ Q) X.xe s
def wA (X : Cx) (es : List Expr) : TA := fun σ H Q => ∀ pos pins s, Inv X pins σ H s → wpAny (model X.prog X.w) X.A (spliced (backTo pos (starEach es X.env))) (AP X pins σ Q) X.xe s
def wK (X : Cx) (ks : List Keyword) : TA := fun σ H Q => ∀ pos pins s, Inv X pins σ H s → wpAny (model X.prog X.w) X.A (evalAll ((backToKw pos (keywordEach ks X.env)).map (·.2))) (AP X pins σ Q) X.xe s
def wS (X : Cx) (st : Stmt) : TS := fun D σ H => ∀ pins s, Inv X pins σ H s → wpAny (model X.prog X.w) X.A (exec st X.env) (SP X pins D) X.xe s
def wSs (X : Cx) (st : List Stmt) : TS := fun D σ H => ∀ pins s, Inv X pins σ H s → wpAny (model X.prog X.w) X.A (execs st X.env) (SP X pins D) X.xe s
def wI (X : Cx) (tg it : Expr) : TI := fun σ H R => ∀ pins s, Inv X pins σ H s →
  wpAny (model X.prog X.w) X.A (eval it X.env) (fun v s1 => wpAny (model X.prog X.w) X.A (pyIter v) (PIE X pins σ tg R) X.xe s1) X.xe s
/-- one after another -/
def wL (X : Cx) : List Expr → TA
  | [] => fun _ H Q => Q [] H
  | e :: es => fun σ H Q => wE X e σ H fun v H1 => wL X es σ H1 fun vs H2 => Q (v :: vs) H2
section
variable {X : Cx} {e tg it : Expr} {es : List Expr} {ks : List Keyword} {st : Stmt} {sts : List Stmt} {σ : L2.St} {H : Hp}
theorem pe_w : PE X e (wE X e) := ⟨fun pins s σ H Q I h => h pins s I⟩
theorem pt_w : PT X e (wT X e) := ⟨fun pins s σ H Q I h => h pins s I⟩
theorem pw_w : PW X e (wW X e) := ⟨fun wh pins s σ H Q I h => h wh pins s I⟩
theorem pa_w : PA X es (wA X es) := ⟨fun pos pins s σ H Q I h => h pos pins s I⟩
theorem pk_w : PK X ks (wK X ks) := ⟨fun pos pins s σ H Q I h => h pos pins s I⟩
theorem ps_w : PS X st (wS X st) := ⟨fun pins s σ H D I h => h pins s I⟩
theorem pss_w : PSs X sts (wSs X sts) := ⟨fun pins s σ H D I h => h pins s I⟩
theorem pi_w : PI X tg it (wI X tg it) := ⟨fun pins s σ H R I h => h pins s I⟩
theorem w_pe {t : TE} {Q : VK} (h : PE X e t) (q : t σ H Q) : wE X e σ H Q := fun pins s I => h.run pins s σ H Q I q
theorem w_pt {t : TT} {Q : Bool → Hp → Prop} (h : PT X e t) (q : t σ H Q) : wT X e σ H Q := fun pins s I => h.run pins s σ H Q I q
theorem w_pw {t : TT} {Q : Bool → Hp → Prop} (h : PW X e t) (q : t σ H Q) : wW X e σ H Q := fun wh pins s I => h.run wh pins s σ H Q I q
theorem w_pa {t : TA} {Q : List V → Hp → Prop} (h : PA X es t) (q : t σ H Q) : wA X es σ H Q := fun pos pins s I => h.run pos pins s σ H Q I q
theorem w_pk {t : TA} {Q : List V → Hp → Prop} (h : PK X ks t) (q : t σ H Q) : wK X ks σ H Q := fun pos pins s I => h.run pos pins s σ H Q I q
theorem w_ps {t : TS} {D : Ends} (h : PS X st t) (q : t D σ H) : wS X st D σ H := fun pins s I => h.run pins s σ H D I q
theorem w_pss {t : TS} {D : Ends} (h : PSs X sts t) (q : t D σ H) : wSs X sts D σ H := fun pins s I => h.run pins s σ H D I q
theorem w_pi {t : TI} {R : It → Hp → Prop} (h : PI X tg it t) (q : t σ H R) : wI X tg it σ H R := fun pins s I => h.run pins s σ H R I q
end
section
variable {B H : Hp}
theorem same_upd {q : Addr} {o : HO} (h : B q = none) : Same B (upd B q o) := fun b u e => by
  rw [upd_ne (ne_of_none e h)]
  exact e
theorem same_upd2 {q : Addr} {o : HO} (e : Same B H) : Same (upd B q o) (upd H q o) := fun b u h => by
  by_cases z : b = q
  · subst z
    rw [upd_same] at h ⊢
    exact h
  · rw [upd_ne z] at h ⊢
    exact e _ _ h
end
/-! ### data and the readings of values -/
section
variable {K : PySem.W.Frag} {B H : Hp}
theorem small_line {n : Nat} (h : small n = true) : n ≤ sizeLine := Nat.le_trans (of_decide_eq_true h) (by decide)
theorem small_lt {n : Nat} (h : small n = true) : n < sizeLine := Nat.lt_of_le_of_lt (of_decide_eq_true h) (by decide)
theorem ty_ok (e : Same B H) : ∀ {v : V} {d : PyData}, Dv K B v d → isObj d = false → TyX K H v (.type (tyD d))
  | _, _, .non, _ => .base .non
  | _, _, .bl b, _ => .base (.bl b)
  | _, _, .int i, _ => .base (.int i)
  | _, _, .str x, _ => .base (.str x)
  | _, _, .lst h r, _ => .base (.lst (e _ _ h))
  | _, _, .tup h r, _ => by
    rcases h with (h | ⟨o, h⟩) | ⟨o, its, n, h, c, _⟩
    · exact .base (.tup (e _ _ h))
    · exact .fTuple (e _ _ h)
    · exact .kTuple h c
  | _, _, .dct h r, _ => .base (.dK (e _ _ h))
  | _, _, .exc _ _ _ _, z => by cases z
  | _, _, .ins _ _ _, z => by cases z
theorem tru_dv (e : Same B H) : ∀ {v : V} {d : PyData} {b : Bool}, Dv K B v d → truthD d = some b → TruV K v H b
  | _, _, _, .non, h => by cases h; rfl
  | _, _, _, .bl b, h => by cases h; rfl
  | _, _, _, .int i, h => by cases h; rfl
  | _, _, b, .str x, h => by
    have h : (if x.length ≤ 100000 then some ((x.length : Int) != 0) else none) = some b := h
    split at h
    · rename_i hl
      cases h
      exact ⟨Nat.le_trans hl (by decide), rfl⟩
    · cases h
  | _, _, b, .lst (xs := xs) (ds := ds) h r, q => by
    cases q
    refine .inl ⟨xs, .of (e _ _ h), ?_⟩
    cases r <;> rfl
  | _, _, b, .tup (xs := xs) (ds := ds) h r, q => by
    cases q
    refine .inr (.inl ⟨xs, same_t e h, ?_⟩)
    cases r <;> rfl
  | _, _, _, .dct h r, q => by cases q
  | _, _, _, .exc _ _ _ _, q => by cases q
  | _, _, _, .ins _ _ _, q => by cases q
theorem flat_dv : ∀ {v : V} {d : PyData}, Dv K B v d → flatD d = true → flatV v = true
  | _, _, .non, _ => rfl
  | _, _, .bl b, _ => rfl
  | _, _, .int i, _ => rfl
  | _, _, .str x, _ => rfl
  | _, _, .lst h r, q => by cases q
  | _, _, .tup h r, q => by cases q
  | _, _, .dct h r, q => by cases q
theorem eq_dv {v w : V} {d e : PyData} (h : Dv K B v d) (g : Dv K B w e) (f1 : flatD d = true) (f2 : flatD e = true) : eqV v w = PyData.eqv d e := by
  cases h <;> cases g <;> first
    | rfl
    | exact nomatch f1
    | exact nomatch f2
theorem flat_dvs : ∀ {vs : List V} {ds : List PyData}, DvL K B vs ds → ds.all flatD = true → vs.all flatV = true
  | _, _, .nil, _ => rfl
  | _, _, .cons h r, q => by
    rw [List.all_cons, Bool.and_eq_true] at q ⊢
    exact ⟨flat_dv h q.1, flat_dvs r q.2⟩
theorem in_dv {x : V} {d : PyData} (g : Dv K B x d) (f : flatD d = true) : ∀ {vs : List V} {ds : List PyData}, DvL K B vs ds → ds.all flatD = true → inV x vs = ds.any fun z => PyData.eqv z d
  | _, _, .nil, _ => rfl
  | _, _, .cons h r, q => by
    rw [List.all_cons, Bool.and_eq_true] at q
    unfold inV
    rw [List.any_cons, List.any_cons, eq_dv h g q.1 f]
    congr 1
    exact in_dv g f r q.2
theorem bools_dv : ∀ {vs : List V} {ds : List PyData} {bs : List Bool}, DvL K B vs ds → boolsD ds = some bs → vs = bs.map V.bl
  | _, _, _, .nil, h => by cases h; rfl
  | _, _, bs, .cons (d := d) h r, q => by
    cases h <;> first
      | cases q
      | (simp only [boolsD, Option.map_eq_some_iff] at q
         obtain ⟨bs', h1, h2⟩ := q
         subst h2
         rw [bools_dv r h1]
         rfl)
end
end Nv


set_option Elab.async false
set_option linter.all false
set_option maxRecDepth 100000
set_option maxHeartbeats 4000000
namespace Nv
open PySem PySem.Spec PyProof.Rows L2
/-! ### data read off the heap, dicts too -/
section
variable {X : Cx} {pins : List (Addr × Obj)} {σ : L2.St} {B H : Hp} {s : Shared}
theorem reads_key {h : Heap} {k : Key} {v : Value} (hk : keyIs k v = true) : Reads h v (kD k) [] := by
  rcases keyIs_shape hk with ⟨i, t, rfl, rfl⟩ | ⟨x, t, rfl, rfl⟩
  · exact Reads.int i t
  · exact Reads.str x t
mutual
theorem Dv.reads (I : L2.Inv X pins σ H s) (e : Same B H) : ∀ (d : PyData) (v : V) (u : Value), Dv X.K B v d → noObj d = true → L2.RelV v u → ∃ as, Reads s.heap u d as ∧ ∀ a ∈ as, H a ≠ none
  | .none, _, _, h, _, r => by
    cases h
    cases r
    exact ⟨_, Reads.none, by simp⟩
  | .bool b, _, _, h, _, r => by
    cases h
    cases r
    exact ⟨_, Reads.bool b, by simp⟩
  | .int i, _, _, h, _, r => by
    cases h
    obtain ⟨t, rfl⟩ := r
    exact ⟨_, Reads.int i t, by simp⟩
  | .str x, _, _, h, _, r => by
    cases h
    obtain ⟨t, rfl⟩ := r
    exact ⟨_, Reads.str x t, by simp⟩
  | .list ds, _, _, h, n, r => by
    cases h with
    | @lst a xs _ hs ha =>
      cases r
      obtain ⟨its, rv, ⟨o, m, ho, hc, _, hd⟩, _⟩ := I.list (.of (e _ _ hs))
      obtain ⟨as, hr, hn⟩ := DvL.reads I e ds _ its ha (by simpa [noObj] using n) rv
      refine ⟨_, Reads.list ho hc hd hr, fun b hb => ?_⟩
      rcases List.mem_cons.mp hb with rfl | hb
      · rw [e _ _ hs]; simp
      · exact hn b hb
  | .tuple ds, _, _, h, n, r => by
    cases h with
    | tup hs ha =>
      cases r
      obtain ⟨its, rv, ⟨o, ho, hc, m, hd⟩, _⟩ := I.tuple (same_t e hs)
      obtain ⟨as, hr, hn⟩ := DvL.reads I e ds _ its ha (by simpa [noObj] using n) rv
      exact ⟨_, Reads.tuple ho hc hd hr, hn⟩
  | .dict ds, _, _, h, n, r => by
    simp only [noObj, Bool.and_eq_true, Bool.not_eq_true'] at n
    cases h with
    | @dct a kvs _ hs ha =>
      cases r
      obtain ⟨hz, hsm, vs, kv, o, es, ep, ho, hx, hdat, _, prs, _⟩ := (show ObjOk X.prog X.w H s.heap a (.dK kvs) from I.hok a _ (e _ _ hs))
      obtain ⟨bs, h1, h2, hn⟩ := DvK.reads I e ds _ vs _ ha n.2 kv prs
      refine ⟨_, Reads.dict ho hx.1 hdat h1 h2, fun b hb => ?_⟩
      rcases List.mem_append.mp hb with hb | hb
      · rcases List.mem_cons.mp hb with rfl | hb
        · rw [e _ _ hs]; simp
        · cases hb
      · exact hn b hb
    | exc _ _ _ _ => exact absurd n.1 (by simp [isObj])
    | ins _ _ _ => exact absurd n.1 (by simp [isObj])
theorem DvL.reads (I : L2.Inv X pins σ H s) (e : Same B H) : ∀ (ds : List PyData) (vs : List V) (us : List Value), DvL X.K B vs ds → noObjAll ds = true → Vals vs us → ∃ as, ReadsAll s.heap us ds as ∧ ∀ a ∈ as, H a ≠ none
  | [], _, _, h, _, r => by
    cases h
    cases r
    exact ⟨_, ReadsAll.nil, by simp⟩
  | d :: ds, _, _, h, n, r => by
    simp only [noObjAll, Bool.and_eq_true] at n
    cases h with
    | cons h1 h2 =>
      cases r with
      | cons r1 r2 =>
        obtain ⟨as, q1, n1⟩ := Dv.reads I e d _ _ h1 n.1 r1
        obtain ⟨bs, q2, n2⟩ := DvL.reads I e ds _ _ h2 n.2 r2
        exact ⟨_, ReadsAll.cons q1 q2, fun b hb => (List.mem_append.mp hb).elim (n1 b) (n2 b)⟩
theorem DvK.reads (I : L2.Inv X pins σ H s) (e : Same B H) : ∀ (ds : List (PyData × PyData)) (kvs : List (Key × V)) (vs : List (Key × Value)) (es : List DictEntry), DvK X.K B kvs ds → noObjKv ds = true → KV kvs vs → PySem.Pairs (mixKind X.prog X.w) es vs →
    ∃ bs, ReadsAll s.heap (es.map (·.key)) (ds.map (·.1)) [] ∧ ReadsAll s.heap (es.map (·.val)) (ds.map (·.2)) bs ∧ ∀ a ∈ bs, H a ≠ none
  | [], _, _, _, h, _, r, p => by
    cases h
    cases r
    cases p
    exact ⟨[], ReadsAll.nil, ReadsAll.nil, by simp⟩
  | _ :: ds, _, _, _, h, n, r, p => by
    cases h with
    | cons h1 h2 =>
      simp only [noObjKv, Bool.and_eq_true] at n
      cases r with
      | cons r1 r2 =>
        cases p with
        | cons p1 p2 p3 =>
          obtain ⟨rk, rv⟩ := r1
          obtain ⟨as, q1, n1⟩ := Dv.reads I e _ _ _ h1 n.1 rv
          obtain ⟨bs, k2, q2, n2⟩ := DvK.reads I e ds _ _ _ h2 n.2 r2 p3
          refine ⟨as ++ bs, ?_, ?_, fun b hb => (List.mem_append.mp hb).elim (n1 b) (n2 b)⟩
          · have kk := reads_key (h := s.heap) (k := _) (v := _) p1
            rw [← rk] at kk
            exact ReadsAll.cons kk k2
          · have e2 := p2
            rw [← e2] at q1
            exact ReadsAll.cons q1 q2
end
end
end Nv


set_option Elab.async false
set_option linter.all false
set_option maxRecDepth 100000
set_option maxHeartbeats 4000000
namespace Nv
open PySem PySem.Spec PyProof.Rows L2
/-! ### repr of data with dicts: a tracked dict is not sys.modules -/
section
variable {X : Cx} {pins : List (Addr × Obj)} {σ : L2.St} {B H : Hp} {s : Shared}
mutual
theorem Dv.reprK (I : L2.Inv X pins σ H s) (e : Same B H) : ∀ (d : PyData) (v : V) (u : Value), Dv X.K B v d → noObj d = true → L2.RelV v u → d.showable = true → d.shown.length ≤ sizeLine →
    ∃ bs, ReadAtMost s.heap d.depth bs ∧ ReprK X.prog X.w bs s.heap d.depth u d.shown
  | .none, _, _, h, n, r, hs, hz => by
    cases h
    cases r
    exact ReprK.of_reads .none hs (fun z => by cases z) hz
  | .bool b, _, _, h, n, r, hs, hz => by
    cases h
    cases r
    exact ReprK.of_reads (.bool b) hs (fun z => by cases z) hz
  | .int i, _, _, h, n, r, hs, hz => by
    cases h
    obtain ⟨t, rfl⟩ := r
    exact ReprK.of_reads (.int i t) hs (fun z => by cases z) hz
  | .str x, _, _, h, n, r, hs, hz => by
    cases h
    obtain ⟨t, rfl⟩ := r
    exact ReprK.of_reads (.str x t) hs (fun z => by cases z) hz
  | .list ds, v, u, h, n, r, hs, hz => by
    obtain ⟨as, rd, _⟩ := Dv.reads I e _ v u h n r
    cases h with
    | @lst a xs _ h0 ha =>
      cases r
      obtain ⟨its, rv, ⟨o, m, ho, hc, _, hd⟩, _⟩ := I.list (.of (e _ _ h0))
      have hz2 : (listText (PyData.shownAll ds)).length ≤ sizeLine := by simpa only [PyData.shown] using hz
      obtain ⟨bs, hb, hk⟩ := DvL.reprK I e ds _ its ha (by simpa [noObj] using n) rv (by simpa [PyData.showable] using hs) (fun t ht => Nat.le_trans (listText_mem_le ht) hz2)
      have hna : a ∉ bs := not_mem_of_deeper rd (by simp only [PyData.depth]; omega) hb
      refine ⟨a :: bs, .cons rd (by simp only [PyData.depth]; omega) hb, ?_⟩
      simp only [PyData.depth, PyData.shown]
      cases its with
      | nil =>
        cases rv
        cases ha
        simp only [PyData.shownAll, listText_nil]
        exact ReprK.listEmpty ho hc hd
      | cons y l => exact ReprK.list ho hc hd hna (by simpa using hk.length_eq) (fun i y e => hk.item i y (by simpa using e))
  | .tuple ds, v, u, h, n, r, hs, hz => by
    obtain ⟨as, rd, _⟩ := Dv.reads I e _ v u h n r
    cases h with
    | @tup a xs _ h0 ha =>
      cases r
      obtain ⟨its, rv, ⟨o, ho, hc, m, hd⟩, _⟩ := I.tuple (same_t e h0)
      have hz2 : (tupleText (PyData.shownAll ds)).length ≤ sizeLine := by simpa only [PyData.shown] using hz
      obtain ⟨bs, hb, hk⟩ := DvL.reprK I e ds _ its ha (by simpa [noObj] using n) rv (by simpa [PyData.showable] using hs) (fun t ht => Nat.le_trans (tupleText_mem_le ht) hz2)
      have hna : a ∉ bs := not_mem_of_deeper rd (by simp only [PyData.depth]; omega) hb
      refine ⟨a :: bs, .cons rd (by simp only [PyData.depth]; omega) hb, ?_⟩
      simp only [PyData.depth, PyData.shown]
      exact ReprK.tuple ho hc hd hna (by simpa using hk)
  | .dict ds, v, u, h, n, r, hs, hz => by
    obtain ⟨as, rd, _⟩ := Dv.reads I e _ v u h n r
    simp only [noObj, Bool.and_eq_true, Bool.not_eq_true'] at n
    cases h with
    | @dct a kvs _ h0 ha =>
      cases r
      obtain ⟨_, hsm, vs, kv, o, es, ep, ho, hx, hdat, _, prs, _⟩ := (show ObjOk X.prog X.w H s.heap a (.dK kvs) from I.hok a _ (e _ _ h0))
      have hz2 : (dictText (PyData.shownKv ds)).length ≤ sizeLine := by simpa only [PyData.shown] using hz
      obtain ⟨s1, s2⟩ := PyData.showableKv_split ds (by simpa [PyData.showable] using hs)
      obtain ⟨_, rk, _, _⟩ := DvK.reads I e ds _ vs _ ha n.2 kv prs
      obtain ⟨c1, hc1, k1⟩ := ReprAllK.of_readsAll (prog := X.prog) (w := X.w) rk s1 (fun _ z => by cases z) (fun t ht => by
        obtain ⟨p, hp, hl⟩ := PyData.shownKv_key_le ds t ht
        exact Nat.le_trans hl (Nat.le_trans (dictText_mem_le hp) hz2))
      obtain ⟨c2, hc2, k2⟩ := DvK.reprK I e ds _ vs _ ha n.2 kv prs s2 (fun t ht => by
        obtain ⟨p, hp, hl⟩ := PyData.shownKv_val_le ds t ht
        exact Nat.le_trans hl (Nat.le_trans (dictText_mem_le hp) hz2))
      have hb : ReadAtMost s.heap (PyData.depthKv ds) (c1 ++ c2) := (hc1.mono (PyData.depthAll_keys_le ds)).append (hc2.mono (PyData.depthAll_vals_le ds))
      have hna : a ∉ c1 ++ c2 := not_mem_of_deeper rd (by simp only [PyData.depth]; omega) hb
      refine ⟨a :: (c1 ++ c2), .cons rd (by simp only [PyData.depth]; omega) hb, ?_⟩
      simp only [PyData.depth, PyData.shown, PyData.shownKv_eq]
      exact ReprK.dict ho hx.1 hdat hsm hna (ReprEntriesK.of_two es.toList _ _ (k1.more_le (fun b z => List.mem_append_left _ z) (PyData.depthAll_keys_le ds)) (k2.more_le (fun b z => List.mem_append_right _ z) (PyData.depthAll_vals_le ds)))
    | exc _ _ _ _ => exact absurd n.1 (by simp [isObj])
    | ins _ _ _ => exact absurd n.1 (by simp [isObj])
theorem DvL.reprK (I : L2.Inv X pins σ H s) (e : Same B H) : ∀ (ds : List PyData) (vs : List V) (us : List Value), DvL X.K B vs ds → noObjAll ds = true → Vals vs us → PyData.showableAll ds = true → (∀ t ∈ PyData.shownAll ds, t.length ≤ sizeLine) →
    ∃ bs, ReadAtMost s.heap (PyData.depthAll ds) bs ∧ ReprAllK X.prog X.w bs s.heap (PyData.depthAll ds) us (PyData.shownAll ds)
  | [], _, _, h, n, r, hs, hz => by
    cases h
    cases r
    exact ⟨[], (fun _ h => nomatch h), by simp only [PyData.shownAll]; exact .nil⟩
  | d :: ds, _, _, h, n, r, hs, hz => by
    simp only [noObjAll, Bool.and_eq_true] at n
    simp only [PyData.showableAll, Bool.and_eq_true] at hs
    cases h with
    | cons h1 h2 =>
      cases r with
      | cons r1 r2 =>
        obtain ⟨c1, hc1, k1⟩ := Dv.reprK I e d _ _ h1 n.1 r1 hs.1 (hz _ (by simp only [PyData.shownAll]; exact List.mem_cons_self ..))
        obtain ⟨c2, hc2, k2⟩ := DvL.reprK I e ds _ _ h2 n.2 r2 hs.2 (fun t z => hz t (by simp only [PyData.shownAll]; exact List.mem_cons_of_mem _ z))
        refine ⟨c1 ++ c2, ?_, ?_⟩
        · simp only [PyData.depthAll]
          exact (hc1.mono (Nat.le_max_left _ _)).append (hc2.mono (Nat.le_max_right _ _))
        · simp only [PyData.depthAll, PyData.shownAll]
          exact .cons ((k1.more fun b z => List.mem_append_left _ z).level_le (Nat.le_max_left _ _)) (k2.more_le (fun b z => List.mem_append_right _ z) (Nat.le_max_right _ _))
theorem DvK.reprK (I : L2.Inv X pins σ H s) (e : Same B H) : ∀ (ds : List (PyData × PyData)) (kvs : List (Key × V)) (vs : List (Key × Value)) (es : List DictEntry), DvK X.K B kvs ds → noObjKv ds = true → KV kvs vs → PySem.Pairs (mixKind X.prog X.w) es vs →
    PyData.showableAll (ds.map (·.2)) = true → (∀ t ∈ PyData.shownAll (ds.map (·.2)), t.length ≤ sizeLine) →
    ∃ bs, ReadAtMost s.heap (PyData.depthAll (ds.map (·.2))) bs ∧ ReprAllK X.prog X.w bs s.heap (PyData.depthAll (ds.map (·.2))) (es.map (·.val)) (PyData.shownAll (ds.map (·.2)))
  | [], _, _, _, h, n, r, p, hs, hz => by
    cases h
    cases r
    cases p
    exact ⟨[], (fun _ h => nomatch h), by simp only [List.map_nil, PyData.shownAll]; exact .nil⟩
  | (kd, d) :: ds, _, _, _, h, n, r, p, hs, hz => by
    simp only [noObjKv, Bool.and_eq_true] at n
    simp only [List.map_cons, PyData.showableAll, Bool.and_eq_true] at hs
    cases h with
    | cons h1 h2 =>
      cases r with
      | cons r1 r2 =>
        cases p with
        | cons p1 p2 p3 =>
          obtain ⟨_, rv⟩ := r1
          rw [← p2] at rv
          obtain ⟨c1, hc1, k1⟩ := Dv.reprK I e d _ _ h1 n.1 rv hs.1 (hz _ (by simp only [List.map_cons, PyData.shownAll]; exact List.mem_cons_self ..))
          obtain ⟨c2, hc2, k2⟩ := DvK.reprK I e ds _ _ _ h2 n.2 r2 p3 hs.2 (fun t z => hz t (by simp only [List.map_cons, PyData.shownAll]; exact List.mem_cons_of_mem _ z))
          refine ⟨c1 ++ c2, ?_, ?_⟩
          · simp only [List.map_cons, PyData.depthAll]
            exact (hc1.mono (Nat.le_max_left _ _)).append (hc2.mono (Nat.le_max_right _ _))
          · simp only [List.map_cons, PyData.depthAll, PyData.shownAll]
            exact .cons ((k1.more fun b z => List.mem_append_left _ z).level_le (Nat.le_max_left _ _)) (k2.more_le (fun b z => List.mem_append_right _ z) (Nat.le_max_right _ _))
end
end
end Nv


set_option Elab.async false
set_option linter.all false
set_option maxRecDepth 100000
set_option maxHeartbeats 4000000
namespace Nv
open PySem PySem.Spec PyProof.Rows L2
theorem call_repr {X : Cx} (hg : X.A.guards = some []) (hu : X.A.units + 64 < cLine) : CallR X (.builtin "repr") (fun xs H Q => ∃ v d, xs = [v] ∧ Dp X.K H v d ∧ d.showable = true ∧ d.hasDict = false ∧ d.shown.length ≤ sizeLine ∧ d.depth ≤ 60 ∧ Q (.str d.shown) H) := by
  intro pins s σ H xs us Q I r h
  obtain ⟨v, d, rfl, dp, hs, hn, hl, hd, q⟩ := h
  obtain ⟨u, rfl, rv⟩ := vals1 r
  obtain ⟨as, rd⟩ := Dp.reads I d v u dp rv
  have fin : ∀ (h' : Heap) (u' : Tok) (tk : Nat), (∀ b o, s.heap.get? b = some o → h'.get? b = some o) → EP X pins σ Q (.str d.shown u') { s with heap := h', toks := tk } := fun h' u' tk k =>
    ⟨.str _, H, I.kept (t' := tk) k, ⟨_, rfl⟩, q⟩
  cases rd with
  | none => simp only [PyData.shown] at fin; exact PySem.P.repr_of_none (fin s.heap _ _ fun _ _ e => e)
  | bool b => simp only [PyData.shown] at fin; exact PySem.P.repr_of_bool (fin s.heap _ _ fun _ _ e => e)
  | int i t => simp only [PyData.shown] at fin; exact PySem.P.repr_of_int (by simpa [PyData.showable] using hs) (fin s.heap _ _ fun _ _ e => e)
  | str x t => simp only [PyData.shown] at fin hl; exact PySem.P.repr_of_str (fin s.heap _ _ fun _ _ e => e) hl
  | list a b c e => exact repr_of_reads' (.list a b c e) hs (fun z => by rw [hn] at z; cases z) hg (by omega) (fun _ _ z => z) fin hl
  | tuple a b c e => exact repr_of_reads' (.tuple a b c e) hs (fun z => by rw [hn] at z; cases z) hg (by omega) (fun _ _ z => z) fin hl
  | dict a b c e f => simp [PyData.hasDict] at hn

/-- repr of data, dicts too -/
theorem call_reprD {X : Cx} (hg : X.A.guards = some []) (hu : X.A.units + 64 < cLine) : CallR X (.builtin "repr") (fun xs H Q => ∃ v d B, xs = [v] ∧ Same B H ∧ Dv X.K B v d ∧ noObj d = true ∧ d.showable = true ∧ d.shown.length ≤ sizeLine ∧ d.depth ≤ 60 ∧ Q (.str d.shown) H) := by
  intro pins s σ H xs us Q I r h
  obtain ⟨v, d, B, rfl, e, dv, n, hs, hz, hd, q⟩ := h
  by_cases nd : d.hasDict = false
  · exact call_repr hg hu pins s σ H [v] us Q I r ⟨v, d, rfl, dv.dp e nd, hs, nd, hz, hd, q⟩
  · obtain ⟨u, rfl, rv⟩ := vals1 r
    obtain ⟨as, rd, _⟩ := Dv.reads I e d v u dv n rv
    have fin : ∀ (h' : Heap) (u' : Tok) (tk : Nat), (∀ b o, s.heap.get? b = some o → h'.get? b = some o) → EP X pins σ Q (.str d.shown u') { s with heap := h', toks := tk } := fun h' u' tk k =>
      ⟨.str _, H, I.kept (t' := tk) k, ⟨_, rfl⟩, q⟩
    cases dv with
    | non => exact absurd rfl nd
    | bl b => exact absurd rfl nd
    | int i => exact absurd rfl nd
    | str x => exact absurd rfl nd
    | exc _ _ _ _ => exact absurd n (by simp [noObj, isObj])
    | ins _ _ _ => exact absurd n (by simp [noObj, isObj])
    | @lst a ys ds h0 ha =>
      cases rv
      obtain ⟨its, rl, ⟨o, m, ho, hc, _, hdat⟩, _⟩ := I.list (.of (e _ _ h0))
      have hz2 : (listText (PyData.shownAll ds)).length ≤ sizeLine := by simpa only [PyData.shown] using hz
      obtain ⟨bs, hb, hk⟩ := DvL.reprK I e ds _ its ha (by simpa [noObj] using n) rl (by simpa [PyData.showable] using hs) (fun t ht => Nat.le_trans (listText_mem_le ht) hz2)
      have hna : a ∉ bs := not_mem_of_deeper rd (by simp only [PyData.depth]; omega) hb
      simp only [PyData.depth] at hd
      simp only [PyData.shown] at fin
      cases its with
      | nil =>
        cases rl
        cases ha
        exact absurd (by simp [PyData.hasDict, PyData.hasDictAll]) nd
      | cons y l =>
        exact call_repr_slot (by omega) ⟨o, ho, hc⟩ F.slot_list_repr.toG (call_list_reprK ho hc hdat hna (by simpa using hk.length_eq) (fun i y e => hk.item i y (by simpa using e)) hg (fun b _ => Clear.nil b) (by show X.A.units + 1 + _ < cLine; omega) (fun _ _ z => z) (fun h' u tk k => ⟨_, _, rfl, fin h' u tk k⟩) hz2)
    | @tup a ys ds h0 ha =>
      cases rv
      obtain ⟨its, rl, ⟨o, ho, hc, m, hdat⟩, _⟩ := I.tuple (same_t e h0)
      have hz2 : (tupleText (PyData.shownAll ds)).length ≤ sizeLine := by simpa only [PyData.shown] using hz
      obtain ⟨bs, hb, hk⟩ := DvL.reprK I e ds _ its ha (by simpa [noObj] using n) rl (by simpa [PyData.showable] using hs) (fun t ht => Nat.le_trans (tupleText_mem_le ht) hz2)
      have hna : a ∉ bs := not_mem_of_deeper rd (by simp only [PyData.depth]; omega) hb
      simp only [PyData.depth] at hd
      simp only [PyData.shown] at fin
      exact call_repr_slot (by omega) ⟨o, ho, hc⟩ F.slot_tuple_repr (call_tuple_reprK ho hc hdat hna (by simpa using hk) hg (fun b _ => Clear.nil b) (by show X.A.units + 1 + _ < cLine; omega) (fun _ _ z => z) (fun h' u tk k => ⟨_, _, rfl, fin h' u tk k⟩) hz2)
    | @dct a kvs ds h0 ha =>
      cases rv
      simp only [noObj, Bool.and_eq_true, Bool.not_eq_true'] at n
      obtain ⟨_, hsm, vs, kv, o, es, ep, ho, hx, hdat, _, prs, _⟩ := (show ObjOk X.prog X.w H s.heap a (.dK kvs) from I.hok a _ (e _ _ h0))
      have hz2 : (dictText (PyData.shownKv ds)).length ≤ sizeLine := by simpa only [PyData.shown] using hz
      obtain ⟨s1, s2⟩ := PyData.showableKv_split ds (by simpa [PyData.showable] using hs)
      obtain ⟨_, rk, _, _⟩ := DvK.reads I e ds _ vs _ ha n.2 kv prs
      obtain ⟨c1, hc1, k1⟩ := ReprAllK.of_readsAll (prog := X.prog) (w := X.w) rk s1 (fun _ z => by cases z) (fun t ht => by
        obtain ⟨p, hp, hl⟩ := PyData.shownKv_key_le ds t ht
        exact Nat.le_trans hl (Nat.le_trans (dictText_mem_le hp) hz2))
      obtain ⟨c2, hc2, k2⟩ := DvK.reprK I e ds _ vs _ ha n.2 kv prs s2 (fun t ht => by
        obtain ⟨p, hp, hl⟩ := PyData.shownKv_val_le ds t ht
        exact Nat.le_trans hl (Nat.le_trans (dictText_mem_le hp) hz2))
      have hb : ReadAtMost s.heap (PyData.depthKv ds) (c1 ++ c2) := (hc1.mono (PyData.depthAll_keys_le ds)).append (hc2.mono (PyData.depthAll_vals_le ds))
      have hna : a ∉ c1 ++ c2 := not_mem_of_deeper rd (by simp only [PyData.depth]; omega) hb
      simp only [PyData.depth] at hd
      simp only [PyData.shown, PyData.shownKv_eq] at fin
      exact call_repr_slot (by omega) ⟨o, ho, hx.1⟩ F.slot_dict_repr (call_dict_reprK ho hx.1 hdat hsm hna (ReprEntriesK.of_two es.toList _ _ (k1.more_le (fun b z => List.mem_append_left _ z) (PyData.depthAll_keys_le ds)) (k2.more_le (fun b z => List.mem_append_right _ z) (PyData.depthAll_vals_le ds)))
        hg (fun b _ => Clear.nil b) (by show X.A.units + 1 + _ < cLine; omega) (fun _ _ z => z) (fun h' u tk k => ⟨_, _, rfl, fin h' u tk k⟩) (by rw [← PyData.shownKv_eq]; exact hz2))
end Nv


set_option Elab.async false
set_option linter.all false
set_option maxRecDepth 100000
set_option maxHeartbeats 4000000
/-! Operators, built-ins, own functions on data. -/
namespace Nv
open PySem PySem.Spec PyProof.Rows L2

/-- an operation on values that gives plain data -/
def OpOk (K : PySem.W.Frag) (r : R2) (x y z : PyData) : Prop := ∀ (B H : Hp) (v w : V), Same B H → Dv K B v x → Dv K B w y → ∀ Q : VK, (∀ u, Dv K B u z → Q u H) → r v w H Q
theorem opok_I0 {K : PySem.W.Frag} {g : Int → Int → V} {i j : Int} {z : PyData} (h : ∀ B, Dv K B (g i j) z) : OpOk K (rI0 g) (.int i) (.int j) z := fun B H v w e d1 d2 Q q => by
  cases d1; cases d2
  exact ⟨i, j, rfl, rfl, q _ (h B)⟩
theorem opok_I {K : PySem.W.Frag} {C : Int → Int → Prop} {g : Int → Int → V} {i j : Int} {z : PyData} (hc : C i j) (h : ∀ B, Dv K B (g i j) z) : OpOk K (rI C g) (.int i) (.int j) z := fun B H v w e d1 d2 Q q => by
  cases d1; cases d2
  exact ⟨i, j, rfl, rfl, hc, q _ (h B)⟩
theorem ite_some {c : Prop} [Decidable c] {α : Type} {a z : α} (h : (if c then some a else none) = some z) : c ∧ a = z := by
  split at h
  · rename_i hc
    exact ⟨hc, Option.some.inj h⟩
  · cases h
theorem bin_ok {X : Cx} {op : Operator} {x y z : PyData} (h : binD op x y = some z) : ∃ r, OpR X (binaryOp op) r ∧ OpOk X.K r x y z := by
  unfold binD at h
  split at h
  · cases h; exact ⟨_, op_add, opok_I0 fun B => .int _⟩
  · cases h; exact ⟨_, op_sub, opok_I0 fun B => .int _⟩
  · obtain ⟨hc, rfl⟩ := ite_some h; exact ⟨_, op_mul, opok_I hc fun B => .int _⟩
  · obtain ⟨hc, rfl⟩ := ite_some h; exact ⟨_, op_fdiv, opok_I hc fun B => .int _⟩
  · obtain ⟨hc, rfl⟩ := ite_some h; exact ⟨_, op_mod, opok_I hc fun B => .int _⟩
  · obtain ⟨hc, rfl⟩ := ite_some h; exact ⟨_, op_pow, opok_I hc fun B => .int _⟩
  · obtain ⟨hc, rfl⟩ := ite_some h
    exact ⟨_, op_add_str, fun B H v w e d1 d2 Q q => by cases d1; cases d2; exact ⟨_, _, rfl, rfl, small_line hc, q _ (.str _)⟩⟩
  · cases h
theorem nodict_shaped {d : PyData} (h : SeqAt.shaped d = true) : d.hasDict = false := PyData.hasDict_of_canLay d (SeqAt.canLay_of_shaped h)
theorem cmp_ok {X : Cx} (hu : X.A.units + 65 < cLine) {op : CmpOp} {x y : PyData} {b : Bool} (h : cmpD op x y = some b) : ∃ r, OpR X (compareOp op) r ∧ OpOk X.K r x y (.bool b) := by
  have hu' : X.A.units + 64 < cLine := by omega
  unfold cmpD at h
  split at h
  · cases h
    refine ⟨_, op_isN, fun B H v w e d1 d2 Q q => ?_⟩
    cases d2
    refine ⟨rfl, q _ ?_⟩
    cases d1 <;> exact .bl _
  · cases h
    refine ⟨_, op_notN, fun B H v w e d1 d2 Q q => ?_⟩
    cases d2
    refine ⟨rfl, q _ ?_⟩
    cases d1 <;> exact .bl _
  · cases h; exact ⟨_, op_lt, opok_I0 fun B => .bl _⟩
  · cases h; exact ⟨_, op_le, opok_I0 fun B => .bl _⟩
  · cases h; exact ⟨_, op_gt, opok_I0 fun B => .bl _⟩
  · cases h; exact ⟨_, op_ge, opok_I0 fun B => .bl _⟩
  · cases h
    refine ⟨_, op_eq, fun B H v w e d1 d2 Q q => ?_⟩
    cases d1; cases d2
    rename_i s t
    refine ⟨rfl, q _ ?_⟩
    have e1 : decide (V.str s = V.str t) = (s == t) := by
      by_cases z : s = t
      · subst z; simp
      · rw [decide_eq_false (fun k => z (V.str.inj k))]
        exact (beq_eq_false_iff_ne.mpr z).symm
    rw [e1]
    exact .bl _
  · cases h
    refine ⟨_, op_ne, fun B H v w e d1 d2 Q q => ?_⟩
    cases d1; cases d2
    rename_i s t
    refine ⟨rfl, q _ ?_⟩
    have e1 : decide (V.str s = V.str t) = (s == t) := by
      by_cases z : s = t
      · subst z; simp
      · rw [decide_eq_false (fun k => z (V.str.inj k))]
        exact (beq_eq_false_iff_ne.mpr z).symm
    rw [e1]
    exact .bl _
  · obtain ⟨hc, rfl⟩ := ite_some h
    rw [Bool.and_eq_true] at hc
    exact ⟨_, op_eqD hu', fun B H v w e d1 d2 Q q => ⟨_, _, d1.dp e (nodict_shaped hc.1), d2.dp e (nodict_shaped hc.2), hc.1, hc.2, q _ (.bl _)⟩⟩
  · obtain ⟨hc, rfl⟩ := ite_some h
    rw [Bool.and_eq_true] at hc
    exact ⟨_, op_neD hu', fun B H v w e d1 d2 Q q => ⟨_, _, d1.dp e (nodict_shaped hc.1), d2.dp e (nodict_shaped hc.2), hc.1, hc.2, q _ (.bl _)⟩⟩
  · cases h
    exact ⟨_, op_in_str, fun B H v w e d1 d2 Q q => by cases d1; cases d2; exact ⟨_, _, rfl, rfl, q _ (.bl _)⟩⟩
  · rename_i d ds _
    split at h
    · rename_i hc
      rw [Bool.and_eq_true] at hc
      cases h
      refine ⟨_, op_in_seq, fun B H v w e d1 d2 Q q => ?_⟩
      cases d2 with
      | lst hs r =>
        refine ⟨_, _, rfl, .inl (.of (e _ _ hs)), flat_dv d1 hc.1, flat_dvs r hc.2, q _ ?_⟩
        rw [if_neg Bool.false_ne_true, in_dv d1 hc.1 r hc.2]
        exact .bl _
    · obtain ⟨hc, rfl⟩ := ite_some h
      rw [Bool.and_eq_true] at hc
      exact ⟨_, op_inD hu, fun B H v w e d1 d2 Q q => ⟨_, _, d1.dp e (nodict_shaped hc.1), d2.dp e (nodict_shaped hc.2), hc.1, hc.2, q _ (.bl _)⟩⟩
  · rename_i d ds _
    obtain ⟨hc, rfl⟩ := ite_some h
    rw [Bool.and_eq_true] at hc
    refine ⟨_, op_in_seq, fun B H v w e d1 d2 Q q => ?_⟩
    cases d2 with
    | tup hs r =>
      refine ⟨_, _, rfl, .inr (same_t e hs), flat_dv d1 hc.1, flat_dvs r hc.2, q _ ?_⟩
      rw [if_neg Bool.false_ne_true, in_dv d1 hc.1 r hc.2]
      exact .bl _
  · cases h

/-- a built-in of one argument on data: its answer is plain, or a new object -/
def CallOk (K : PySem.W.Frag) (r : List V → Hp → VK → Prop) (x z : PyData) : Prop := ∀ (B H : Hp) (v : V), Same B H → Dv K B v x → ∀ Q : VK, (∀ u, Dv K B u z → Q u H) →
  (∀ q o, H q = none → (∀ ps, o ≠ .tbl ps) → (∀ B', Same B B' → Same B' (upd H q o) → B' q = some o → Dv K B' (.ref q) z) → Q (.ref q) (upd H q o)) → r [v] H Q
theorem showb_str (b : Bool) : PyData.shown (.bool b) = if b then ("True" : Str) else "False" := by simp only [PyData.shown]
inductive BtV
  | fn (id : String)
  | ty (n : String)
def btV : Bt → BtV
  | .len => .fn "len"
  | .all => .fn "all"
  | .any => .fn "any"
  | .repr => .fn "repr"
  | .toTup => .ty "tuple"
  | .toList => .ty "list"
  | .toInt => .ty "int"
  | .abs => .fn "abs"
def BtV.val : BtV → Value
  | .fn id => .builtin id
  | .ty n => .type n
theorem list_dv {K : PySem.W.Frag} {B : Hp} {v : V} {ds : List PyData} (h : Dv K B v (.list ds)) : ∃ a xs, v = .ref a ∧ SqL K B a xs ∧ DvL K B xs ds := by
  cases h with
  | lst h r => exact ⟨_, _, rfl, .of h, r⟩
theorem tup_dv {K : PySem.W.Frag} {B : Hp} {v : V} {ds : List PyData} (h : Dv K B v (.tuple ds)) : ∃ a xs, v = .ref a ∧ SqT K B a xs ∧ DvL K B xs ds := by
  cases h with
  | tup h r => exact ⟨_, _, rfl, h, r⟩
theorem blt_ok {X : Cx} (hc : X.calm = true) (hg : X.A.guards = some []) (hu : X.A.units + 65 < cLine) {b : Bt} {x z : PyData} (h : bltD b x = some z) :
    ∃ r, CallR X (btV b).val r ∧ CallOk X.K r x z := by
  unfold bltD at h
  split at h
  · cases h
    refine ⟨_, call_len_seq, fun B H v e d Q q _ => ?_⟩
    obtain ⟨a, xs, rfl, hs, r⟩ := list_dv d
    exact ⟨_, _, rfl, .inl (e.seq hs), q _ (by rw [r.length]; exact .int _)⟩
  · cases h
    refine ⟨_, call_len_seq, fun B H v e d Q q _ => ?_⟩
    obtain ⟨a, xs, rfl, hs, r⟩ := tup_dv d
    exact ⟨_, _, rfl, .inr (same_t e hs), q _ (by rw [r.length]; exact .int _)⟩
  · obtain ⟨hs, rfl⟩ := ite_some h
    refine ⟨_, call_len_str, fun B H v e d Q q _ => ?_⟩
    cases d
    exact ⟨_, rfl, small_line hs, q _ (.int _)⟩
  · obtain ⟨bs, h1, rfl⟩ := Option.map_eq_some_iff.mp h
    refine ⟨_, cr_all hc, fun B H v e d Q q _ => ?_⟩
    obtain ⟨a, xs, rfl, hs, r⟩ := list_dv d
    refine ⟨a, bs, rfl, ?_, q _ (.bl _)⟩
    rw [← bools_dv r h1]
    exact e.seq hs
  · obtain ⟨bs, h1, rfl⟩ := Option.map_eq_some_iff.mp h
    refine ⟨_, cr_any hc, fun B H v e d Q q _ => ?_⟩
    obtain ⟨a, xs, rfl, hs, r⟩ := list_dv d
    refine ⟨a, bs, rfl, ?_, q _ (.bl _)⟩
    rw [← bools_dv r h1]
    exact e.seq hs
  · obtain ⟨hs, rfl⟩ := ite_some h
    simp only [Bool.and_eq_true, Bool.not_eq_true', decide_eq_true_eq] at hs
    obtain ⟨⟨⟨h1, h2⟩, h3⟩, h4⟩ := hs
    refine ⟨_, call_reprD hg (by omega), fun B H v e d Q q _ => ?_⟩
    exact ⟨_, _, B, rfl, e, d, h2, h1, small_line h3, h4, q _ (.str _)⟩
  · cases h
    refine ⟨_, call_tuple_of, fun B H v e d Q q q2 => ?_⟩
    obtain ⟨a, xs, rfl, hs, r⟩ := list_dv d
    exact ⟨_, _, rfl, .inl ⟨e.seq hs, fun l hl => q2 l _ hl (fun _ z => by cases z) fun B' s1 s2 hb => .tup (.of hb) (r.mono s1)⟩⟩
  · cases h
    refine ⟨_, call_tuple_of, fun B H v e d Q q q2 => ?_⟩
    obtain ⟨a, xs, rfl, hs, r⟩ := tup_dv d
    exact ⟨_, _, rfl, .inr ⟨same_t e hs, q _ d⟩⟩
  · cases h
    refine ⟨_, call_list_of, fun B H v e d Q q q2 => ?_⟩
    obtain ⟨a, xs, rfl, hs, r⟩ := list_dv d
    exact ⟨_, _, rfl, .inl (e.seq hs), fun l hl => q2 l _ hl (fun _ z => by cases z) fun B' s1 s2 hb => .lst hb (r.mono s1)⟩
  · cases h
    refine ⟨_, call_list_of, fun B H v e d Q q q2 => ?_⟩
    obtain ⟨a, xs, rfl, hs, r⟩ := tup_dv d
    exact ⟨_, _, rfl, .inr (same_t e hs), fun l hl => q2 l _ hl (fun _ z => by cases z) fun B' s1 s2 hb => .lst hb (r.mono s1)⟩
  · cases h
    refine ⟨_, call_int1, fun B H v e d Q q _ => ?_⟩
    cases d
    exact .inl ⟨_, rfl, q _ (.int _)⟩
  · cases h
    refine ⟨_, call_int1, fun B H v e d Q q _ => ?_⟩
    cases d
    exact .inr ⟨_, rfl, q _ (.int _)⟩
  · cases h
    refine ⟨_, call_abs, fun B H v e d Q q _ => ?_⟩
    cases d
    exact ⟨_, rfl, q _ (.int _)⟩
  · cases h
theorem atI_dv {K : PySem.W.Frag} {B : Hp} {xs : List V} {ds : List PyData} {i : Int} {d : PyData} (r : DvL K B xs ds) (h : atI ds i = some d) : ∃ v, atI xs i = some v ∧ Dv K B v d := by
  unfold atI at h ⊢
  rw [r.length]
  cases e : ixN ds.length i with
  | none => rw [e] at h; cases h
  | some j =>
    rw [e] at h
    obtain ⟨v, h1, h2⟩ := r.get' h
    exact ⟨v, h1, h2⟩
theorem sub_ok {X : Cx} {x y z : PyData} (h : subD x y = some z) : ∃ r, IxR X r ∧ OpOk X.K r x y z := by
  unfold subD at h
  split at h
  · refine ⟨_, ix_list, fun B H v w e d1 d2 Q q => ?_⟩
    obtain ⟨a, xs, rfl, hs, r⟩ := list_dv d1
    cases d2
    obtain ⟨u, h1, h2⟩ := atI_dv r h
    exact ⟨a, xs, _, u, rfl, rfl, e.seq hs, h1, q u h2⟩
  · refine ⟨_, ix_tup, fun B H v w e d1 d2 Q q => ?_⟩
    obtain ⟨a, xs, rfl, hs, r⟩ := tup_dv d1
    cases d2
    obtain ⟨u, h1, h2⟩ := atI_dv r h
    exact ⟨a, xs, _, u, rfl, rfl, same_t e hs, h1, q u h2⟩
  · cases h
end Nv


set_option Elab.async false
set_option linter.all false
set_option maxRecDepth 100000
set_option maxHeartbeats 4000000
/-! A small language for expressions and statements and its evaluator: values are data, or references to cells (lists, dicts, instances that may change). -/
namespace Nv
open PySem PySem.Spec PyProof.Rows L2

inductive Vv
  | d (x : PyData)
  | r (n : Nat)
inductive Ob
  | lst (xs : List Vv)
  | dct (kvs : List (PyData × Vv))
  | ins (C : Str) (fs : List (Str × Vv))
  | dead
inductive Rs (α : Type)
  | ok (x : α)
  | ex (e : PyData)
abbrev Hh := List Ob
abbrev Env_ := List (Option Vv)
abbrev Ev (α : Type) := Option (Rs α × Hh)
def bnd {α β : Type} (m : Ev α) (f : α → Hh → Ev β) : Ev β := match m with
  | some (.ok x, h) => f x h
  | some (.ex e, h) => some (.ex e, h)
  | none => none
/-- a plain answer -/
def giv (o : Option PyData) (h : Hh) : Ev Vv := match o with
  | some z => some (.ok (.d z), h)
  | none => none
def getS (δ : Env_) (i : Nat) : Option Vv := match δ[i]? with
  | some (some x) => some x
  | _ => none
def datV : Vv → Option PyData
  | .d x => some x
  | .r _ => none
def datL : List Vv → Option (List PyData)
  | [] => some []
  | .d x :: vs => match datL vs with
    | some ds => some (x :: ds)
    | none => none
  | .r _ :: _ => none

def dd1 {α : Type} (x : Vv) (f : PyData → Option α) : Option α := match x with
  | .d a => f a
  | .r _ => none
def dd2 {α : Type} (x y : Vv) (f : PyData → PyData → Option α) : Option α := dd1 x fun a => dd1 y fun b => f a b
theorem dd1_some {α : Type} {x : Vv} {f : PyData → Option α} {o : α} (h : dd1 x f = some o) : ∃ a, x = .d a ∧ f a = some o := by
  cases x with
  | d a => exact ⟨a, rfl, h⟩
  | r n => cases h
theorem dd2_some {α : Type} {x y : Vv} {f : PyData → PyData → Option α} {o : α} (h : dd2 x y f = some o) : ∃ a b, x = .d a ∧ y = .d b ∧ f a b = some o := by
  obtain ⟨a, rfl, h⟩ := dd1_some h
  have h : (dd1 y fun b => f a b) = some o := h
  obtain ⟨b, rfl, h⟩ := dd1_some h
  exact ⟨a, b, rfl, rfl, h⟩

/-! ### calls with cells -/
def refsOf : List Vv → List Nat
  | [] => []
  | .d _ :: vs => refsOf vs
  | .r n :: vs => n :: refsOf vs
def closedV : Vv → Bool
  | .d _ => true
  | .r _ => false
def closedO : Ob → Bool
  | .lst xs => xs.all closedV
  | .dct kvs => kvs.all fun p => closedV p.2
  | .ins _ fs => fs.all fun p => closedV p.2
  | .dead => true
def gather (h : Hh) : List Nat → Option Hh
  | [] => some []
  | n :: ns => match h[n]? with
    | some o => match gather h ns with
      | some os => some (o :: os)
      | none => none
    | none => none
/-- references counted anew from k on -/
def renum : List Vv → Nat → List Vv
  | [], _ => []
  | .d x :: vs, k => .d x :: renum vs k
  | .r _ :: vs, k => .r k :: renum vs (k + 1)
def putBack (h : Hh) : List Nat → Hh → Hh
  | n :: ns, o :: os => putBack (h.set n o) ns os
  | _, _ => h
def nodupB : List Nat → Bool
  | [] => true
  | n :: ns => !ns.contains n && nodupB ns
/-- behind a call with cells: what it answered, the cells put back; a new cell may be handed out -/
def finC (rs : List Nat) (h : Hh) (obs : Hh) : Rs Vv → Ev Vv
  | .ex e => some (.ex e, putBack h rs obs)
  | .ok (.d x) => some (.ok (.d x), putBack h rs obs)
  | .ok (.r j) => if j < rs.length then none else match obs[j]? with
    | some o => if closedO o then some (.ok (.r (putBack h rs obs).length), putBack h rs obs ++ [o]) else none
    | none => none
/-- a call that sees the cells that it is handed alone -/
def cellCall (m : List Vv → Hh → Ev Vv) (vs : List Vv) (h : Hh) : Ev Vv :=
  if nodupB (refsOf vs) then match gather h (refsOf vs) with
    | some obs => if obs.all closedO then match m (renum vs 0) obs with
        | some (r, obs') => if (obs'.take (refsOf vs).length).all closedO && decide ((refsOf vs).length ≤ obs'.length) then finC (refsOf vs) h obs' r else none
        | none => none
      else none
    | none => none
  else none
structure Fns where
  fn : Nat → List Vv → Hh → Ev Vv
  ox : Nat → List PyData → Option PyData := fun _ _ => none
  hr : PyData → Hh → Ev Vv := fun _ _ => none
/-- what a call leaves for the handler: None, or the error -/
def errOf : Rs Vv → PyData
  | .ok _ => .none
  | .ex e => e

/-! ### operations -/
def binN : Operator → PyData → PyData → Option PyData
  | .Add, .list xs, .list ys => if small (xs.length + ys.length) then some (.list (xs ++ ys)) else none
  | .Add, .tuple xs, .tuple ys => if small (xs.length + ys.length) then some (.tuple (xs ++ ys)) else none
  | .Mult, .list xs, .int k => if 0 ≤ k ∧ k ≤ 100000 ∧ small (xs.length * k.toNat) then some (.list (List.replicate k.toNat xs).flatten) else none
  | .Mult, .int i, .int j => if ((-(2 ^ 64) < i ∧ i < 2 ^ 64) ∨ (-(2 ^ 64) < j ∧ j < 2 ^ 64)) ∨ i.natAbs.log2 + j.natAbs.log2 < 1000000 then some (.int (i * j)) else none
  | .FloorDiv, .int i, .int j => if 0 < j ∧ j.natAbs.log2 < 9000 then some (.int (i / j)) else none
  | op, x, y => binD op x y
def cmpN : CmpOp → PyData → PyData → Option Bool
  | .Is, .bool a, .bool b => some (a == b)
  | .IsNot, .bool a, .bool b => some (!(a == b))
  | .NotIn, x, y => (cmpD .In x y).map not
  | op, x, y => cmpD op x y
/-- an item of a list that is referred to -/
def subV (x : Vv) (i : Vv) (h : Hh) : Ev Vv := match x, i with
  | .d x, .d y => giv (subD x y) h
  | .r n, .d (.int k) => match h[n]? with
    | some (.lst xs) => match atI xs k with
      | some v => some (.ok v, h)
      | none => none
    | _ => none
  | _, _ => none
def lenV (x : Vv) (h : Hh) : Option PyData := match x with
  | .d x => bltD .len x
  | .r n => match h[n]? with
    | some (.lst xs) => some (.int xs.length)
    | _ => none
def bltV (b : Bt) (x : Vv) (h : Hh) : Option PyData := match b with
  | .len => lenV x h
  | b => match x with
    | .d x => bltD b x
    | .r _ => none
/-- x != [], x == [] -/
def neE (ne : Bool) (x : Vv) (h : Hh) : Option PyData := match x with
  | .d (.list xs) => some (.bool (xs.isEmpty != ne))
  | .d _ => none
  | .r n => match h[n]? with
    | some (.lst xs) => some (.bool (xs.isEmpty != ne))
    | _ => none
/-- a cell's content as data, at its end -/
def frzV (x : Vv) (h : Hh) : Ev Vv := match x with
  | .d x => some (.ok (.d x), h)
  | .r n => match h[n]? with
    | some (.lst xs) => match datL xs with
      | some ds => some (.ok (.d (.list ds)), h.set n .dead)
      | none => none
    | _ => none
def isLst (x : Vv) (h : Hh) : Bool := match x with
  | .r n => match h[n]? with
    | some (.lst _) => true
    | _ => false
  | .d _ => false
def popL (x : Vv) (h : Hh) : Ev Vv := match x with
  | .r n => match h[n]? with
    | some (.lst xs) => match xs[xs.length - 1]? with
      | some v => if xs.length ≤ 100000 then some (.ok v, h.set n (.lst xs.dropLast)) else none
      | none => none
    | _ => none
  | _ => none
def popA (x i : Vv) (h : Hh) : Ev Vv := match x, i with
  | .r n, .d (.int k) => match h[n]? with
    | some (.lst xs) => if 0 ≤ k ∧ k < xs.length ∧ small xs.length then match xs[k.toNat]? with
        | some v => some (.ok v, h.set n (.lst (xs.eraseIdx k.toNat)))
        | none => none
      else none
    | _ => none
  | _, _ => none
/-- dict(pairs), list(dict) and so on are shapes; x[:n] -/
def uptoD : PyData → PyData → Option PyData
  | .list xs, .int k => if 0 ≤ k then some (.list (xs.take k.toNat)) else none
  | _, _ => none

/-! ### texts in order; dicts -/
def ltS (x y : Str) : Bool := ltCps x.cps.toList y.cps.toList
def insS (x : Str) : List Str → List Str
  | [] => [x]
  | y :: r => if ltS y x then y :: insS x r else x :: y :: r
def sortS : List Str → List Str
  | [] => []
  | x :: r => insS x (sortS r)
def keyOf : PyData → Option Key
  | .int i => some (.inl i)
  | .str s => some (.inr s)
  | _ => none
def putD (kvs : List (PyData × Vv)) (k : Key) (v : Vv) : List (PyData × Vv) :=
  if (kvs.any fun p => decide (keyOf p.1 = some k)) = true then kvs.map (fun p => if keyOf p.1 = some k then (p.1, v) else p) else kvs ++ [(kD k, v)]
def strKeys : List (PyData × Vv) → Option (List Str)
  | [] => some []
  | (.str s, _) :: r => match strKeys r with
    | some ks => some (s :: ks)
    | none => none
  | _ :: _ => none
/-- sorted(d), the keys texts -/
def sortKV (x : Vv) (h : Hh) : Ev Vv := match x with
  | .r n => match h[n]? with
    | some (.dct kvs) => match strKeys kvs with
      | some ks => if ks.length < 64 then some (.ok (.d (.list ((sortS ks).map .str))), h) else none
      | none => none
    | _ => none
  | .d _ => none
/-! ### targets -/
inductive Tg
  | one (i : Nat)
  | many (is : List Nat)
def setMany : Env_ → List Nat → List PyData → Option Env_
  | δ, [], [] => some δ
  | δ, i :: is, d :: ds => setMany (δ.set i (some (.d d))) is ds
  | _, _, _ => none
def setTg : Tg → Vv → Env_ → Option Env_
  | .one i, v, δ => some (δ.set i (some v))
  | .many is, .d (.tuple ds), δ => setMany δ is ds
  | .many is, .d (.list ds), δ => setMany δ is ds
  | _, _, _ => none

/-! ### the language -/
mutual
inductive C
  | var (i : Nat)
  | cst (d : PyData)
  | glb (d : PyData)
  | and_ (a b : C)
  | or_ (a b : C)
  | not_ (a : C)
  | ite (t a b : C)
  | bin (op : Operator) (a b : C)
  | neg (a : C)
  | cmp (op : CmpOp) (a b : C)
  | chain (o1 o2 : CmpOp) (a b c : C)
  | neE (ne : Bool) (a : C)
  | tup (es : Cs)
  | lst (es : Cs)
  | newL (es : Cs)
  | dct1 (k : Str) (v : C)
  | isi (a : C) (tys : List String)
  | isc (c : C) (tE tI : List (Str × Bool)) (tO : List String)
  | call (f : Nat) (es : Cs)
  | gcall (f : Nat) (es : Cs)
  | blt (b : Bt) (a : C)
  | comp (elt : C) (tg : Tg) (it : Ci) (t : Option' )
  | sub (a i : C)
  | upto (a n : C)
  | attr (c : C) (f : Str) (cE cI : List Str)
  | frz (a : C)
  | thaw (a : C)
  | popL (a : C)
  | popA (a i : C)
  | op (i : Nat) (es : Cs)
  | heard (c : C)
  | newD
  | sortK (a : C)
inductive Option'
  | non
  | som (c : C)
inductive Cs
  | nil
  | cons (c : C) (cs : Cs)
inductive Ci
  | seq (c : C)
  | rng (c : C)
  | rng2 (a b : C)
  | enu (c : C)
  | zip (a b : C)
end
mutual
inductive Sd
  | asg (i : Nat) (c : C)
  | par (i j : Nat) (a b : C)
  | par3 (i j l : Nat) (a b c : C)
  | unp (is : List Nat) (c : C)
  | aug (i : Nat) (op : Operator) (c : C)
  | ret (c : C)
  | ifs (t : C) (a b : Sds)
  | for_ (tg : Tg) (it : Ci) (b : Sds)
  | while_ (t : C) (b : Sds)
  | expr (c : C)
  | app (a c : C)
  | ext (a c : C)
  | setI (a i c : C)
  | pass
  | brk
  | cnt
  | raise_ (x : Str) (fs : List Str) (es : Cs)
  | op (i : Nat) (es : Cs) (js : List Nat)
inductive Sds
  | nil
  | cons (s : Sd) (ss : Sds)
end

/-- zip and enumerate want a tuple of targets -/
def okTg : Ci → Tg → Bool
  | .enu _, .one _ => false
  | .zip _ _, .one _ => false
  | _, _ => true
/-! ### the evaluator -/
/-- a comprehension's turns -/
def compLoop (test elt : Env_ → Hh → Ev Vv) (tg : Tg) (δ : Env_) : List PyData → Hh → Option (List Vv × Hh)
  | [], h => some ([], h)
  | x :: xs, h => match setTg tg (.d x) δ with
    | some δ' => match test δ' h with
      | some (.ok (.d t), h1) => match truthD t with
        | some true => match elt δ' h1 with
          | some (.ok v, h2) => match compLoop test elt tg δ xs h2 with
            | some (vs, h3) => some (v :: vs, h3)
            | none => none
          | _ => none
        | some false => compLoop test elt tg δ xs h1
        | none => none
      | _ => none
    | none => none
def enumD (n : Nat) : List PyData → List PyData
  | [] => []
  | x :: xs => .tuple [.int n, x] :: enumD (n + 1) xs
def zipD : List PyData → List PyData → List PyData
  | x :: xs, y :: ys => .tuple [x, y] :: zipD xs ys
  | _, _ => []
def boolT (x : Vv) : Option Bool := match x with
  | .d (.bool b) => some b
  | _ => none
section
variable (F : Fns)
mutual
def evalE : C → Env_ → Hh → Ev Vv
  | .var i, δ, h => match getS δ i with
    | some v => some (.ok v, h)
    | none => none
  | .cst d, _, h => some (.ok (.d d), h)
  | .glb d, _, h => some (.ok (.d d), h)
  | .and_ a b, δ, h => bnd (evalE a δ h) fun x h1 => match boolT x with
    | some true => evalE b δ h1
    | some false => some (.ok (.d (.bool false)), h1)
    | none => none
  | .or_ a b, δ, h => bnd (evalE a δ h) fun x h1 => match boolT x with
    | some true => some (.ok (.d (.bool true)), h1)
    | some false => evalE b δ h1
    | none => none
  | .not_ a, δ, h => bnd (evalE a δ h) fun x h1 => match boolT x with
    | some b => some (.ok (.d (.bool (!b))), h1)
    | none => none
  | .ite t a b, δ, h => bnd (evalE t δ h) fun x h1 => match (datV x).bind truthD with
    | some true => evalE a δ h1
    | some false => evalE b δ h1
    | none => none
  | .bin op a b, δ, h => bnd (evalE a δ h) fun x h1 => bnd (evalE b δ h1) fun y h2 => dd2 x y fun x y => giv (binN op x y) h2
  | .neg a, δ, h => bnd (evalE a δ h) fun x h1 => match x with
    | .d (.int i) => some (.ok (.d (.int (-i))), h1)
    | _ => none
  | .cmp op a b, δ, h => bnd (evalE a δ h) fun x h1 => bnd (evalE b δ h1) fun y h2 => dd2 x y fun x y => giv ((cmpN op x y).map .bool) h2
  | .chain o1 o2 a b c, δ, h => bnd (evalE a δ h) fun x h1 => bnd (evalE b δ h1) fun y h2 => dd2 x y fun x y => match cmpN o1 x y with
      | some true => bnd (evalE c δ h2) fun z h3 => dd1 z fun z => giv ((cmpN o2 y z).map .bool) h3
      | some false => some (.ok (.d (.bool false)), h2)
      | none => none
  | .neE ne a, δ, h => bnd (evalE a δ h) fun x h1 => giv (neE ne x h1) h1
  | .tup es, δ, h => bnd (evalL es δ h) fun vs h1 => match datL vs with
    | some ds => if small ds.length then some (.ok (.d (.tuple ds)), h1) else none
    | none => none
  | .lst es, δ, h => bnd (evalL es δ h) fun vs h1 => match datL vs with
    | some ds => if small ds.length then some (.ok (.d (.list ds)), h1) else none
    | none => none
  | .newL es, δ, h => bnd (evalL es δ h) fun vs h1 => if small vs.length then some (.ok (.r h1.length), h1 ++ [.lst vs]) else none
  | .dct1 k v, δ, h => bnd (evalE v δ h) fun x h1 => dd1 x fun x => some (.ok (.d (.dict [(.str k, x)])), h1)
  | .isi a tys, δ, h => bnd (evalE a δ h) fun x h1 => dd1 x fun x => giv ((isiD x tys).map .bool) h1
  | .isc a tE tI tO, δ, h => bnd (evalE a δ h) fun x h1 => dd1 x fun x => giv ((iscD tE tI tO x).map .bool) h1
  | .call f es, δ, h => bnd (evalL es δ h) fun vs h1 => cellCall (F.fn f) vs h1
  | .gcall f es, δ, h => bnd (evalL es δ h) fun vs h1 => F.fn f vs h1
  | .blt b a, δ, h => bnd (evalE a δ h) fun x h1 => giv (bltV b x h1) h1
  | .comp elt tg it t, δ, h => bnd (evalI it δ h) fun xs h1 => if small xs.length then match compLoop (fun δ h => match t with | .non => some (.ok (.d (.bool true)), h) | .som c => evalE c δ h) (evalE elt) tg δ xs h1 with
      | some (vs, h2) => match datL vs with
        | some ds => some (.ok (.d (.list ds)), h2)
        | none => none
      | none => none
    else none
  | .sub a i, δ, h => bnd (evalE a δ h) fun x h1 => bnd (evalE i δ h1) fun y h2 => subV x y h2
  | .upto a n, δ, h => bnd (evalE a δ h) fun x h1 => bnd (evalE n δ h1) fun y h2 => dd2 x y fun x y => giv (uptoD x y) h2
  | .attr a f cE cI, δ, h => bnd (evalE a δ h) fun x h1 => dd1 x fun x => giv (attrD f cE cI x) h1
  | .frz a, δ, h => bnd (evalE a δ h) fun x h1 => frzV x h1
  | .thaw a, δ, h => bnd (evalE a δ h) fun x h1 => match x with
    | .d (.list ds) => some (.ok (.r h1.length), h1 ++ [.lst (ds.map .d)])
    | .d (.tuple ds) => some (.ok (.r h1.length), h1 ++ [.lst (ds.map .d)])
    | _ => none
  | .popL a, δ, h => bnd (evalE a δ h) fun x h1 => popL x h1
  | .popA a i, δ, h => bnd (evalE a δ h) fun x h1 => if isLst x h1 then bnd (evalE i δ h1) fun y h2 => popA x y h2 else none
  | .op i es, δ, h => bnd (evalL es δ h) fun vs h1 => match datL vs with
    | some ds => giv (F.ox i ds) h1
    | none => none
  | .heard c, δ, h => match evalE c δ h with
    | some (r, h1) => F.hr (errOf r) h1
    | none => none
  | .newD, _, h => some (.ok (.r h.length), h ++ [.dct []])
  | .sortK a, δ, h => bnd (evalE a δ h) fun x h1 => sortKV x h1
def evalL : Cs → Env_ → Hh → Ev (List Vv)
  | .nil, _, h => some (.ok [], h)
  | .cons c cs, δ, h => bnd (evalE c δ h) fun x h1 => bnd (evalL cs δ h1) fun xs h2 => some (.ok (x :: xs), h2)
/-- what is walked, item by item -/
def evalI : Ci → Env_ → Hh → Ev (List PyData)
  | .seq c, δ, h => bnd (evalE c δ h) fun x h1 => match (datV x).bind itemsD with
    | some xs => some (.ok xs, h1)
    | none => none
  | .rng c, δ, h => bnd (evalE c δ h) fun x h1 => match x with
    | .d (.int n) => if -100000 ≤ n ∧ n ≤ 100000 then some (.ok ((List.range n.toNat).map fun (k : Nat) => .int k), h1) else none
    | _ => none
  | .rng2 a b, δ, h => bnd (evalE a δ h) fun x h1 => bnd (evalE b δ h1) fun y h2 => match x, y with
    | .d (.int m), .d (.int n) => if -100000 ≤ m ∧ m ≤ 100000 ∧ -100000 ≤ n ∧ n ≤ 100000 then some (.ok ((List.range (n - m).toNat).map fun (k : Nat) => .int (m + k)), h2) else none
    | _, _ => none
  | .enu c, δ, h => bnd (evalE c δ h) fun x h1 => match x with
    | .d (.list xs) => some (.ok (enumD 0 xs), h1)
    | _ => none
  | .zip a b, δ, h => bnd (evalE a δ h) fun x h1 => bnd (evalE b δ h1) fun y h2 => match x, y with
    | .d (.list xs), .d (.list ys) => some (.ok (zipD xs ys), h2)
    | _, _ => none
end

inductive Out
  | nx (δ : Env_) (h : Hh)
  | rt (v : Vv) (h : Hh)
  | ex (e : PyData) (h : Hh)
  | bk (δ : Env_) (h : Hh)
  | ct (δ : Env_) (h : Hh)
/-- an expression's answer, used by a statement -/
def bndS {α : Type} (m : Ev α) (f : α → Hh → Option Out) : Option Out := match m with
  | some (.ok x, h) => f x h
  | some (.ex e, h) => some (.ex e h)
  | none => none
def thenS (o : Option Out) (f : Env_ → Hh → Option Out) : Option Out := match o with
  | some (.nx δ h) => f δ h
  | o => o
/-- a loop's turns -/
def forLoop (body : Env_ → Hh → Option Out) (tg : Tg) : List PyData → Env_ → Hh → Option Out
  | [], δ, h => some (.nx δ h)
  | x :: xs, δ, h => match setTg tg (.d x) δ with
    | some δ' => match body δ' h with
      | some (.nx δ1 h1) => forLoop body tg xs δ1 h1
      | some (.ct δ1 h1) => forLoop body tg xs δ1 h1
      | some (.bk δ1 h1) => some (.nx δ1 h1)
      | o => o
    | none => none
def whileLoop (t : Env_ → Hh → Ev Vv) (body : Env_ → Hh → Option Out) : Nat → Env_ → Hh → Option Out
  | 0, _, _ => none
  | n + 1, δ, h => bndS (t δ h) fun x h1 => match (datV x).bind truthD with
    | some true => match body δ h1 with
      | some (.nx δ2 h2) => whileLoop t body n δ2 h2
      | some (.ct δ2 h2) => whileLoop t body n δ2 h2
      | some (.bk δ2 h2) => some (.nx δ2 h2)
      | o => o
    | some false => some (.nx δ h1)
    | none => none
def fuel : Nat := 1000000
def setVs : Env_ → List Nat → List Vv → Option Env_
  | δ, [], [] => some δ
  | δ, i :: is, v :: vs => setVs (δ.set i (some v)) is vs
  | _, _, _ => none
/-- a += b: numbers, texts, tuples -/
def augD (op : Operator) (x y : PyData) : Option PyData := match op, x, y with
  | .Add, .int i, .int j => some (.int (i + j))
  | .Sub, .int i, .int j => some (.int (i - j))
  | _, _, _ => none
def appO (x v : Vv) (δ : Env_) (h : Hh) : Option Out := match x with
  | .r n => match h[n]? with
    | some (.lst xs) => if small xs.length then some (.nx δ (h.set n (.lst (xs ++ [v])))) else none
    | _ => none
  | _ => none
def extO (x v : Vv) (δ : Env_) (h : Hh) : Option Out := match x, v with
  | .r n, .d (.list ys) => match h[n]? with
    | some (.lst xs) => if small (xs.length + ys.length) then some (.nx δ (h.set n (.lst (xs ++ ys.map .d)))) else none
    | _ => none
  | .r n, .d (.tuple ys) => match h[n]? with
    | some (.lst xs) => if small (xs.length + ys.length) then some (.nx δ (h.set n (.lst (xs ++ ys.map .d)))) else none
    | _ => none
  | _, _ => none
def setIO (x i v : Vv) (δ : Env_) (h : Hh) : Option Out := match x, i with
  | .r n, .d k => match h[n]? with
    | some (.lst xs) => match k with
      | .int k => match ixN xs.length k with
        | some j => some (.nx δ (h.set n (.lst (xs.set j v))))
        | none => none
      | _ => none
    | some (.dct kvs) => match keyOf k with
      | some k => if small (kvs.length + 1) then some (.nx δ (h.set n (.dct (putD kvs k v)))) else none
      | none => none
    | _ => none
  | _, _ => none
mutual
def evalS : Sd → Env_ → Hh → Option Out
  | .asg i c, δ, h => bndS (evalE F c δ h) fun x h1 => some (.nx (δ.set i (some x)) h1)
  | .par i j a b, δ, h => bndS (evalE F a δ h) fun x h1 => bndS (evalE F b δ h1) fun y h2 => some (.nx ((δ.set i (some x)).set j (some y)) h2)
  | .par3 i j l a b c, δ, h => bndS (evalE F a δ h) fun x h1 => bndS (evalE F b δ h1) fun y h2 => bndS (evalE F c δ h2) fun z h3 => some (.nx (((δ.set i (some x)).set j (some y)).set l (some z)) h3)
  | .unp is c, δ, h => bndS (evalE F c δ h) fun x h1 => match setTg (.many is) x δ with
    | some δ' => some (.nx δ' h1)
    | none => none
  | .aug i op c, δ, h => match getS δ i with
    | some (.d x) => bndS (evalE F c δ h) fun y h1 => match y with
      | .d y => match augD op x y with
        | some z => some (.nx (δ.set i (some (.d z))) h1)
        | none => none
      | .r _ => none
    | _ => none
  | .ret c, δ, h => bndS (evalE F c δ h) fun x h1 => some (.rt x h1)
  | .ifs t a b, δ, h => bndS (evalE F t δ h) fun x h1 => match (datV x).bind truthD with
    | some true => evalSs a δ h1
    | some false => evalSs b δ h1
    | none => none
  | .for_ tg it b, δ, h => bndS (evalI F it δ h) fun xs h1 => if small xs.length then forLoop (evalSs b) tg xs δ h1 else none
  | .while_ t b, δ, h => whileLoop (evalE F t) (evalSs b) fuel δ h
  | .expr c, δ, h => bndS (evalE F c δ h) fun _ h1 => some (.nx δ h1)
  | .app a c, δ, h => bndS (evalE F a δ h) fun x h1 => if isLst x h1 then bndS (evalE F c δ h1) fun v h2 => appO x v δ h2 else none
  | .ext a c, δ, h => bndS (evalE F a δ h) fun x h1 => if isLst x h1 then bndS (evalE F c δ h1) fun v h2 => extO x v δ h2 else none
  | .setI a i c, δ, h => bndS (evalE F c δ h) fun v h1 => bndS (evalE F a δ h1) fun x h2 => bndS (evalE F i δ h2) fun y h3 => setIO x y v δ h3
  | .pass, δ, h => some (.nx δ h)
  | .brk, δ, h => some (.bk δ h)
  | .cnt, δ, h => some (.ct δ h)
  | .raise_ x fs es, δ, h => bndS (evalL F es δ h) fun vs h1 => match datL vs with
    | some ds => if ds.length = fs.length then some (.ex (.dict ((.none, .str x) :: ((fs.zip ds).reverse.map fun p => (PyData.str p.1, p.2)))) h1) else none
    | none => none
  | .op i es js, δ, h => bndS (evalL F es δ h) fun vs h1 => match datL vs with
    | some ds => match F.ox i ds with
      | some (.list zs) => match setMany δ js zs with
        | some δ' => some (.nx δ' h1)
        | none => none
      | _ => none
    | none => none
def evalSs : Sds → Env_ → Hh → Option Out
  | .nil, δ, h => some (.nx δ h)
  | .cons s ss, δ, h => thenS (evalS s δ h) fun δ1 h1 => evalSs ss δ1 h1
end
end
end Nv


set_option Elab.async false
set_option linter.all false
set_option maxRecDepth 100000
set_option maxHeartbeats 4000000
/-! The relation of the evaluator's states and what runs. -/
namespace Nv
open PySem PySem.Spec PyProof.Rows L2
/-- B: the objects that are data; φ: where the cells stand -/
structure Wd where
  B : Hp
  φ : List Addr
structure Wd.Le (W W' : Wd) : Prop where
  b : Same W.B W'.B
  f : ∃ l, W'.φ = W.φ ++ l
theorem Wd.Le.refl (W : Wd) : W.Le W := ⟨Same.refl _, [], (List.append_nil _).symm⟩
theorem Wd.Le.trans {W W' W'' : Wd} (a : W.Le W') (b : W'.Le W'') : W.Le W'' := ⟨a.b.trans b.b, by
  obtain ⟨l, e⟩ := a.f
  obtain ⟨m, e'⟩ := b.f
  exact ⟨l ++ m, by rw [e', e, List.append_assoc]⟩⟩
theorem Wd.Le.get {W W' : Wd} (a : W.Le W') {n : Nat} {x : Addr} (h : W.φ[n]? = some x) : W'.φ[n]? = some x := by
  obtain ⟨l, e⟩ := a.f
  rw [e, List.getElem?_append_left (List.getElem?_eq_some_iff.mp h).1]
  exact h
theorem Wd.Le.mem {W W' : Wd} (a : W.Le W') {x : Addr} (h : x ∈ W.φ) : x ∈ W'.φ := by
  obtain ⟨l, e⟩ := a.f
  rw [e]
  exact List.mem_append_left _ h
def Rv (K : PySem.W.Frag) (W : Wd) : Vv → V → Prop
  | .d x, v => Dv K W.B v x
  | .r n, v => ∃ a, W.φ[n]? = some a ∧ v = .ref a
abbrev RvL (K : PySem.W.Frag) (W : Wd) : List Vv → List V → Prop := Paired (Rv K W)
abbrev RvF (K : PySem.W.Frag) (W : Wd) : List (Str × Vv) → List (Str × V) → Prop := Paired fun p q => p.1 = q.1 ∧ Rv K W p.2 q.2
abbrev RvK (K : PySem.W.Frag) (W : Wd) : List (PyData × Vv) → List (Key × V) → Prop := Paired fun p q => p.1 = kD q.1 ∧ Rv K W p.2 q.2
section
variable {K : PySem.W.Frag} {W W' : Wd}
theorem Rv.mono (e : W.Le W') : ∀ {x : Vv} {v : V}, Rv K W x v → Rv K W' x v
  | .d _, _, h => Dv.mono e.b h
  | .r _, _, ⟨a, h, q⟩ => ⟨a, e.get h, q⟩
theorem RvL.mono (e : W.Le W') {xs : List Vv} {vs : List V} (h : RvL K W xs vs) : RvL K W' xs vs := Paired.mono (fun _ _ => Rv.mono e) h
theorem RvF.mono (e : W.Le W') {xs : List (Str × Vv)} {vs : List (Str × V)} (h : RvF K W xs vs) : RvF K W' xs vs := Paired.mono (fun _ _ q => ⟨q.1, q.2.mono e⟩) h
theorem RvK.mono (e : W.Le W') {xs : List (PyData × Vv)} {vs : List (Key × V)} (h : RvK K W xs vs) : RvK K W' xs vs := Paired.mono (fun _ _ q => ⟨q.1, q.2.mono e⟩) h
theorem rv_dat {W : Wd} : ∀ {ds : List PyData} {vs : List V}, DvL K W.B vs ds → RvL K W (ds.map .d) vs
  | [], _, .nil => .nil
  | _ :: _, _, .cons h r => .cons h (rv_dat r)
theorem datL_some {W : Wd} : ∀ {xs : List Vv} {ds : List PyData}, datL xs = some ds → xs = ds.map .d
  | [], _, h => by cases h; rfl
  | .d x :: xs, ds, h => by
    simp only [datL] at h
    split at h
    · rename_i es e
      cases h
      rw [datL_some (W := W) e]
      rfl
    · cases h
  | .r _ :: _, _, h => by cases h
theorem dat_rv {W : Wd} : ∀ {ds : List PyData} {vs : List V}, RvL K W (ds.map .d) vs → DvL K W.B vs ds
  | [], _, .nil => .nil
  | _ :: _, _, .cons h r => .cons h (dat_rv r)
theorem datL_rv {W : Wd} {xs : List Vv} {ds : List PyData} {vs : List V} (h : datL xs = some ds) (r : RvL K W xs vs) : DvL K W.B vs ds := by
  rw [datL_some (W := W) h] at r
  exact dat_rv r
end
section
variable {α β : Type} {F : α → β → Prop}
theorem pr_get : ∀ {l : List α} {m : List β} {i : Nat} {x : α}, Paired F l m → l[i]? = some x → ∃ y, m[i]? = some y ∧ F x y
  | _, _, _, _, .nil, e => by simp at e
  | _, _, 0, _, .cons r _, e => by
    cases Option.some.inj e
    exact ⟨_, rfl, r⟩
  | _, _, i + 1, x, .cons _ t, e => pr_get (i := i) t (by simpa using e)
theorem pr_get' : ∀ {l : List α} {m : List β} {i : Nat} {y : β}, Paired F l m → m[i]? = some y → ∃ x, l[i]? = some x ∧ F x y
  | _, _, _, _, .nil, e => by simp at e
  | _, _, 0, _, .cons r _, e => by
    cases Option.some.inj e
    exact ⟨_, rfl, r⟩
  | _, _, i + 1, x, .cons _ t, e => pr_get' (i := i) t (by simpa using e)
theorem pr_app : ∀ {l l' : List α} {m m' : List β}, Paired F l m → Paired F l' m' → Paired F (l ++ l') (m ++ m')
  | _, _, _, _, .nil, s => s
  | _, _, _, _, .cons r t, s => .cons r (pr_app t s)
theorem pr_set {x : α} {y : β} (r : F x y) : ∀ {l : List α} {m : List β} (i : Nat), Paired F l m → Paired F (l.set i x) (m.set i y)
  | _, _, _, .nil => .nil
  | _, _, 0, .cons _ t => .cons r t
  | _, _, i + 1, .cons q t => .cons q (pr_set r i t)
theorem pr_erase : ∀ {l : List α} {m : List β} (i : Nat), Paired F l m → Paired F (l.eraseIdx i) (m.eraseIdx i)
  | _, _, _, .nil => .nil
  | _, _, 0, .cons _ t => t
  | _, _, i + 1, .cons q t => .cons q (pr_erase i t)
theorem pr_drop : ∀ {l : List α} {m : List β}, Paired F l m → Paired F l.dropLast m.dropLast
  | _, _, .nil => .nil
  | _, _, .cons _ .nil => .nil
  | _, _, .cons q (.cons r t) => .cons q (pr_drop (.cons r t))
end

/-! ### cells -/
def CellR (K : PySem.W.Frag) (W : Wd) (H : Hp) (a : Addr) : Ob → Prop
  | .lst xs => W.B a = none ∧ ∃ vs, H a = some (.lst vs) ∧ RvL K W xs vs
  | .dct kvs => W.B a = none ∧ ∃ vs, H a = some (.dK vs) ∧ RvK K W kvs vs
  | .ins C fs => W.B a = none ∧ ∃ Ca dx vs, PySem.W.nsIn K mainGlobals C = some (some (.ref Ca)) ∧ H a = some (.ins Ca dx vs) ∧ RvF K W fs vs
  | .dead => True
/-- all stands but what is in φ, and tables of code objects -/
def Kp (H H' : Hp) (φ : List Addr) : Prop := ∀ b o, b ∉ φ → (∀ ps, o ≠ .tbl ps) → H b = some o → H' b = some o
/-- neither a table of code objects nor one of these -/
def Pln (o : HO) : Prop := (∀ ps, o ≠ .tbl ps) ∧ ∀ c q, o ≠ LamX.CodeO c q
structure Rel (K : PySem.W.Frag) (T : List (Addr × Str)) (W0 : Wd) (H0 : Hp) (W : Wd) (H : Hp) (σ : L2.St) (δ : Env_) (h : Hh) : Prop where
  fr : Kp H0 H W0.φ
  tl : ∀ b ps, H0 b = some (.tbl ps) → H b ≠ none
  ext : Same W.B H
  up : W0.Le W
  new : ∀ a o, W.B a = some o → (∃ o', W0.B a = some o') ∨ H0 a = none ∨ a ∈ W0.φ
  fsh : ∀ a ∈ W.φ, a ∈ W0.φ ∨ H0 a = none
  len : σ.length = δ.length
  sl : ∀ (i : Nat) (x : Vv), getS δ i = some x → ∃ v, σ[i]? = some (some v) ∧ Rv K W x v
  hl : h.length = W.φ.length
  cell : ∀ (n : Nat) (o : Ob) (a : Addr), h[n]? = some o → W.φ[n]? = some a → CellR K W H a o
  nd : W.φ.Nodup
  ev : ∀ a ∈ W.φ, ∃ o, H a = some o ∧ Pln o
  tb : LamX.Tabs T H
  nt : ∀ a o, W.B a = some o → ∀ ps, o ≠ .tbl ps
section
variable {K : PySem.W.Frag} {T : List (Addr × Str)} {W0 W W' : Wd} {H0 H H' : Hp} {σ σ' : L2.St} {δ δ' : Env_} {h h' : Hh}
theorem Kp.refl (H : Hp) (φ : List Addr) : Kp H H φ := fun _ _ _ _ e => e
theorem Kp.of (e : Same H H') (φ : List Addr) : Kp H H' φ := fun b o _ _ q => e b o q
theorem Kp.trans {H1 H2 : Hp} {φ : List Addr} (a : Kp H H1 φ) (b : Kp H1 H2 φ) : Kp H H2 φ := fun c o h n q => b c o h n (a c o h n q)
theorem CellR.mono (e : W.Le W') (hb : ∀ a, W.B a = none → a ∈ W.φ → W'.B a = none) (hh : ∀ o, (∀ ps, o ≠ .tbl ps) → H a = some o → H' a = some o) {o : Ob} (ha : a ∈ W.φ) (c : CellR K W H a o) : CellR K W' H' a o := by
  cases o with
  | lst xs =>
    obtain ⟨c1, vs, c2, c3⟩ := c
    exact ⟨hb a c1 ha, vs, hh _ (fun _ z => by cases z) c2, RvL.mono e c3⟩
  | dct xs =>
    obtain ⟨c1, vs, c2, c3⟩ := c
    exact ⟨hb a c1 ha, vs, hh _ (fun _ z => by cases z) c2, RvK.mono e c3⟩
  | ins C fs =>
    obtain ⟨c1, Ca, dx, vs, c0, c2, c3⟩ := c
    exact ⟨hb a c1 ha, Ca, dx, vs, c0, hh _ (fun _ z => by cases z) c2, RvF.mono e c3⟩
  | dead => trivial
theorem tabs_upd {a : Addr} {o : HO} (t : LamX.Tabs T H) (h1 : ∀ ps, H a ≠ some (.tbl ps)) (h2 : ∀ c q, H a ≠ some (LamX.CodeO c q)) : LamX.Tabs T (upd H a o) := fun p hp => by
  obtain ⟨ps, e1, e2, e3⟩ := t p hp
  refine ⟨ps, by rw [upd_ne (fun z => h1 ps (by rw [← z]; exact e1))]; exact e1, e2, fun pos cv hc => ?_⟩
  obtain ⟨c, k1, k2⟩ := e3 pos cv hc
  exact ⟨c, k1, by rw [upd_ne (fun z => h2 c p.2 (by rw [← z]; exact k2))]; exact k2⟩
theorem tabs_same (t : LamX.Tabs T H) (e : Same H H') : LamX.Tabs T H' := t.ext e
theorem tabs_upd' {a : Addr} {o u : HO} (t : LamX.Tabs T H) (e : H a = some u) (p : Pln u) : LamX.Tabs T (upd H a o) :=
  tabs_upd t (fun ps z => p.1 ps (Option.some.inj (e.symm.trans z))) fun c q z => p.2 c q (Option.some.inj (e.symm.trans z))
theorem Kp.fresh {b : Addr} {φ : List Addr} (k : Kp H H' φ) (tl : ∀ b ps, H b = some (.tbl ps) → H' b ≠ none) (n : b ∉ φ) (e : H' b = none) : H b = none := by
  cases z : H b with
  | none => rfl
  | some o =>
    by_cases q : ∃ ps, o = .tbl ps
    · obtain ⟨ps, rfl⟩ := q
      exact absurd e (tl b ps z)
    · rw [k b o n (fun ps w => q ⟨ps, w⟩) z] at e
      cases e
/-- the heap grows, nothing of it is data or a cell -/
theorem Rel.heap (R : Rel K T W0 H0 W H σ δ h) (e : Same H H') : Rel K T W0 H0 W H' σ δ h where
  fr := R.fr.trans (.of e _)
  tl := fun b ps q z => R.tl b ps q (e.free z)
  ext := R.ext.trans e
  up := R.up
  new := R.new
  fsh := R.fsh
  len := R.len
  sl := R.sl
  hl := R.hl
  cell := fun n o a h1 h2 => (R.cell n o a h1 h2).mono (Wd.Le.refl _) (fun _ q _ => q) (fun _ _ q => e _ _ q) (List.mem_of_getElem? h2)
  nd := R.nd
  ev := fun a ha => let ⟨o, h1, h2⟩ := R.ev a ha; ⟨o, e _ _ h1, h2⟩
  tb := tabs_same R.tb e
  nt := R.nt
theorem Rel.free (R : Rel K T W0 H0 W H σ δ h) {q : Addr} (e : H q = none) : H0 q = none ∧ W.B q = none ∧ q ∉ W.φ := by
  have nf : q ∉ W.φ := fun z => by
    obtain ⟨o, h1, _⟩ := R.ev q z
    rw [e] at h1
    cases h1
  refine ⟨R.fr.fresh R.tl (fun z => nf (R.up.mem z)) e, ?_, nf⟩
  cases z : W.B q with
  | none => rfl
  | some o => rw [R.ext _ _ z] at e; cases e
/-- a new object that is data -/
theorem Rel.alloc (R : Rel K T W0 H0 W H σ δ h) {q : Addr} {o : HO} (e : H q = none) (pn : ∀ ps, o ≠ .tbl ps) : Rel K T W0 H0 ⟨upd W.B q o, W.φ⟩ (upd H q o) σ δ h ∧ W.Le ⟨upd W.B q o, W.φ⟩ := by
  obtain ⟨f1, f2, f3⟩ := R.free e
  have sb : Same W.B (upd W.B q o) := same_upd f2
  have sh : Same H (upd H q o) := same_upd e
  have le : W.Le ⟨upd W.B q o, W.φ⟩ := ⟨sb, [], (List.append_nil _).symm⟩
  refine ⟨?_, le⟩
  exact {
    fr := R.fr.trans (.of sh _)
    tl := fun b ps q z => R.tl b ps q (sh.free z)
    ext := same_upd2 R.ext
    up := R.up.trans le
    new := fun a u e => by
      by_cases z : a = q
      · subst z; exact .inr (.inl f1)
      · exact R.new a u (by rw [← e]; exact (upd_ne z).symm)
    fsh := R.fsh
    len := R.len
    sl := fun i x e => let ⟨v, h1, h2⟩ := R.sl i x e; ⟨v, h1, h2.mono le⟩
    hl := R.hl
    cell := fun n o a h1 h2 => (R.cell n o a h1 h2).mono le (fun a q hm => by
      show upd W.B _ _ a = none
      rw [upd_ne (fun z => f3 (by rw [← z]; exact hm))]
      exact q) (fun _ _ q => sh _ _ q) (List.mem_of_getElem? h2)
    nd := R.nd
    ev := fun a ha => let ⟨o, h1, h2⟩ := R.ev a ha; ⟨o, sh _ _ h1, h2⟩
    tb := tabs_same R.tb sh
    nt := fun a u e => by
      by_cases z : a = q
      · subst z
        have e : upd W.B a o a = some u := e
        rw [upd_same] at e
        cases e
        exact pn
      · exact R.nt a u (by rw [← e]; exact (upd_ne z).symm) }
/-- a new cell -/
theorem Rel.cellN (R : Rel K T W0 H0 W H σ δ h) {q : Addr} {o : HO} {ob : Ob} (e : H q = none) (p : Pln o) (c : CellR K ⟨W.B, W.φ ++ [q]⟩ (upd H q o) q ob) : Rel K T W0 H0 ⟨W.B, W.φ ++ [q]⟩ (upd H q o) σ δ (h ++ [ob]) ∧ W.Le ⟨W.B, W.φ ++ [q]⟩ := by
  obtain ⟨f1, f2, f3⟩ := R.free e
  have sh : Same H (upd H q o) := same_upd e
  have le : W.Le ⟨W.B, W.φ ++ [q]⟩ := ⟨Same.refl _, [q], rfl⟩
  refine ⟨?_, le⟩
  exact {
    fr := R.fr.trans (.of sh _)
    tl := fun b ps q z => R.tl b ps q (sh.free z)
    ext := R.ext.trans sh
    up := R.up.trans le
    new := R.new
    fsh := fun a ha => by
      rcases List.mem_append.mp ha with z | z
      · exact R.fsh a z
      · rw [List.mem_singleton] at z; subst z; exact .inr f1
    len := R.len
    sl := fun i x e => let ⟨v, h1, h2⟩ := R.sl i x e; ⟨v, h1, h2.mono le⟩
    hl := by rw [List.length_append, List.length_append, R.hl] <;> rfl
    cell := fun n o' a h1 h2 => by
      by_cases l : n < W.φ.length
      · rw [List.getElem?_append_left (by rw [R.hl]; exact l)] at h1
        have h2 : (W.φ ++ [q])[n]? = some a := h2
        rw [List.getElem?_append_left l] at h2
        exact (R.cell n o' a h1 h2).mono le (fun _ z _ => z) (fun _ _ z => sh _ _ z) (List.mem_of_getElem? h2)
      · have hn : n = W.φ.length := by
          have := (List.getElem?_eq_some_iff.mp h2).1
          have : n < (W.φ ++ [q]).length := this
          rw [List.length_append, List.length_singleton] at this
          omega
        subst hn
        have h2 : (W.φ ++ [q])[W.φ.length]? = some a := h2
        rw [List.getElem?_append_right (Nat.le_refl _), Nat.sub_self] at h2
        cases Option.some.inj h2
        rw [List.getElem?_append_right (by rw [R.hl] <;> exact Nat.le_refl _), R.hl, Nat.sub_self] at h1
        cases Option.some.inj h1
        exact c
    nd := List.nodup_append.mpr ⟨R.nd, by simp, fun a ha b hb z => by
      rw [List.mem_singleton] at hb
      subst hb; subst z
      exact f3 ha⟩
    ev := fun a ha => by
      rcases List.mem_append.mp ha with z | z
      · obtain ⟨o', h1, h2⟩ := R.ev a z
        exact ⟨o', sh _ _ h1, h2⟩
      · rw [List.mem_singleton] at z; subst z
        exact ⟨o, upd_same, p⟩
    tb := tabs_same R.tb sh
    nt := R.nt }
theorem nodup_at : ∀ {l : List Addr}, l.Nodup → ∀ {i j : Nat} {a : Addr}, l[i]? = some a → l[j]? = some a → i = j
  | [], _, _, _, _, h1, _ => by simp at h1
  | b :: l, hd, 0, 0, _, _, _ => rfl
  | b :: l, hd, 0, j + 1, a, h1, h2 => by
    have h1 : b = a := Option.some.inj h1
    subst h1
    exact absurd (List.mem_of_getElem? (show l[j]? = some b from h2)) (List.nodup_cons.mp hd).1
  | b :: l, hd, i + 1, 0, a, h1, h2 => by
    have h2 : b = a := Option.some.inj h2
    subst h2
    exact absurd (List.mem_of_getElem? (show l[i]? = some b from h1)) (List.nodup_cons.mp hd).1
  | b :: l, hd, i + 1, j + 1, a, h1, h2 => congrArg (· + 1) (nodup_at (List.nodup_cons.mp hd).2 (show l[i]? = some a from h1) (show l[j]? = some a from h2))
/-- a cell is changed -/
theorem Rel.chg (R : Rel K T W0 H0 W H σ δ h) {n : Nat} {a : Addr} {u : HO} {ob : Ob} (hn : W.φ[n]? = some a) (bn : W.B a = none) (p : Pln u) (c : CellR K W (upd H a u) a ob) : Rel K T W0 H0 W (upd H a u) σ δ (h.set n ob) := by
  have hm := List.mem_of_getElem? hn
  obtain ⟨o0, e0, p0⟩ := R.ev a hm
  exact {
    fr := fun b o nb nt e => by
      have q := R.fr b o nb nt e
      rcases R.fsh a hm with z | z
      · rw [upd_ne (fun w => nb (by rw [w]; exact z))]; exact q
      · rw [upd_ne (fun w => by rw [w, z] at e; cases e)]; exact q
    tl := fun b ps q z => by
      by_cases w : b = a
      · subst w; rw [upd_same] at z; cases z
      · rw [upd_ne w] at z; exact R.tl b ps q z
    ext := fun b o q => by
      rw [upd_ne (fun w => by rw [w, bn] at q; cases q)]
      exact R.ext _ _ q
    up := R.up
    new := R.new
    fsh := R.fsh
    len := R.len
    sl := R.sl
    hl := by rw [List.length_set]; exact R.hl
    cell := fun m o b h1 h2 => by
      by_cases w : n = m
      · subst w
        rw [hn] at h2
        cases Option.some.inj h2
        have hlt : n < h.length := by rw [R.hl]; exact (List.getElem?_eq_some_iff.mp hn).1
        rw [List.getElem?_set_self hlt] at h1
        cases Option.some.inj h1
        exact c
      · rw [List.getElem?_set_ne w] at h1
        have nb : b ≠ a := fun z => w (nodup_at R.nd hn (by rw [h2, z]))
        have hc := R.cell m o b h1 h2
        cases o with
        | lst xs =>
          obtain ⟨c1, vs, c2, c3⟩ := hc
          exact ⟨c1, vs, by rw [upd_ne nb]; exact c2, c3⟩
        | dct xs =>
          obtain ⟨c1, vs, c2, c3⟩ := hc
          exact ⟨c1, vs, by rw [upd_ne nb]; exact c2, c3⟩
        | ins C fs =>
          obtain ⟨c1, Ca, dx, vs, c0, c2, c3⟩ := hc
          exact ⟨c1, Ca, dx, vs, c0, by rw [upd_ne nb]; exact c2, c3⟩
        | dead => trivial
    nd := R.nd
    ev := fun b hb => by
      by_cases w : b = a
      · subst w; exact ⟨u, upd_same, p⟩
      · obtain ⟨o, h1, h2⟩ := R.ev b hb
        exact ⟨o, by rw [upd_ne w]; exact h1, h2⟩
    tb := tabs_upd' R.tb e0 p0
    nt := R.nt }
/-- a cell becomes data -/
theorem Rel.fix (R : Rel K T W0 H0 W H σ δ h) {n : Nat} {a : Addr} {u : HO} (hn : W.φ[n]? = some a) (bn : W.B a = none) (e : H a = some u) : Rel K T W0 H0 ⟨upd W.B a u, W.φ⟩ H σ δ (h.set n .dead) ∧ W.Le ⟨upd W.B a u, W.φ⟩ := by
  have hm := List.mem_of_getElem? hn
  have sb : Same W.B (upd W.B a u) := same_upd bn
  have le : W.Le ⟨upd W.B a u, W.φ⟩ := ⟨sb, [], (List.append_nil _).symm⟩
  refine ⟨?_, le⟩
  exact {
    fr := R.fr
    tl := R.tl
    ext := fun b o q => by
      by_cases w : b = a
      · subst w
        have q : upd W.B b u b = some o := q
        rw [upd_same] at q; cases q; exact e
      · have q : upd W.B a u b = some o := q
        rw [upd_ne w] at q; exact R.ext _ _ q
    up := R.up.trans le
    new := fun b o q => by
      by_cases w : b = a
      · subst w
        rcases R.fsh b hm with z | z
        · exact .inr (.inr z)
        · exact .inr (.inl z)
      · have q : upd W.B a u b = some o := q
        rw [upd_ne w] at q; exact R.new b o q
    fsh := R.fsh
    len := R.len
    sl := fun i x e => let ⟨v, h1, h2⟩ := R.sl i x e; ⟨v, h1, h2.mono le⟩
    hl := by rw [List.length_set]; exact R.hl
    cell := fun m o b h1 h2 => by
      by_cases w : n = m
      · subst w
        have hlt : n < h.length := by rw [R.hl]; exact (List.getElem?_eq_some_iff.mp hn).1
        rw [List.getElem?_set_self hlt] at h1
        cases Option.some.inj h1
        trivial
      · rw [List.getElem?_set_ne w] at h1
        have nb : b ≠ a := fun z => w (nodup_at R.nd hn (by have h2 : W.φ[m]? = some b := h2; rw [h2, z]))
        have hb : upd W.B a u b = W.B b := upd_ne nb
        have hc := R.cell m o b h1 h2
        cases o with
        | lst xs =>
          obtain ⟨c1, vs, c2, c3⟩ := hc
          exact ⟨by rw [← c1]; exact hb, vs, c2, RvL.mono le c3⟩
        | dct xs =>
          obtain ⟨c1, vs, c2, c3⟩ := hc
          exact ⟨by rw [← c1]; exact hb, vs, c2, RvK.mono le c3⟩
        | ins C fs =>
          obtain ⟨c1, Ca, dx, vs, c0, c2, c3⟩ := hc
          exact ⟨by rw [← c1]; exact hb, Ca, dx, vs, c0, c2, RvF.mono le c3⟩
        | dead => trivial
    nd := R.nd
    ev := R.ev
    tb := R.tb
    nt := fun b o q => by
      by_cases w : b = a
      · subst w
        have q : upd W.B b u b = some o := q
        rw [upd_same] at q
        cases q
        obtain ⟨o', h1, h2⟩ := R.ev b hm
        rw [e] at h1
        cases h1
        exact h2.1
      · have q : upd W.B a u b = some o := q
        rw [upd_ne w] at q; exact R.nt b o q }
/-! ### slots -/
theorem getS_set {i j : Nat} {x y : Vv} (e : getS (δ.set i (some x)) j = some y) : (j = i ∧ y = x ∧ i < δ.length) ∨ (j ≠ i ∧ getS δ j = some y) := by
  unfold getS at e ⊢
  by_cases w : i = j
  · subst w
    by_cases l : i < δ.length
    · rw [List.getElem?_set_self l] at e
      cases e
      exact .inl ⟨rfl, rfl, l⟩
    · rw [List.getElem?_eq_none (by rw [List.length_set]; omega)] at e
      cases e
  · rw [List.getElem?_set_ne w] at e
    exact .inr ⟨fun z => w z.symm, e⟩
theorem Rel.put (R : Rel K T W0 H0 W H σ δ h) {i : Nat} {v : V} {x : Vv} (r : Rv K W x v) : Rel K T W0 H0 W H (σ.set i (some v)) (δ.set i (some x)) h :=
  { R with
    len := by rw [List.length_set, List.length_set]; exact R.len
    sl := fun j y e => by
      rcases getS_set e with ⟨rfl, rfl, l⟩ | ⟨n, e⟩
      · exact ⟨v, by rw [List.getElem?_set_self (by rw [R.len]; exact l)], r⟩
      · obtain ⟨w, h1, h2⟩ := R.sl j y e
        exact ⟨w, by rw [List.getElem?_set_ne (fun z => n z.symm)]; exact h1, h2⟩ }
/-- the base anew -/
theorem Rel.here (R : Rel K T W0 H0 W H σ δ h) : Rel K T W H W H σ δ h :=
  { R with
    fr := .refl _ _
    tl := fun b ps q z => by rw [q] at z; cases z
    up := Wd.Le.refl _
    new := fun a o e => .inl ⟨o, e⟩
    fsh := fun a ha => .inl ha }
/-- behind something that began here -/
theorem Rel.back (R : Rel K T W0 H0 W H σ δ h) {H1 : Hp} {σ' : L2.St} {δ' : Env_} {h' : Hh} (e1 : Same H H1) (R' : Rel K T W H1 W' H' σ' δ' h') : Rel K T W0 H0 W' H' σ δ h' where
  fr := fun b o nb nt e => by
    have e2 := e1 _ _ (R.fr b o nb nt e)
    by_cases hm : b ∈ W.φ
    · rcases R.fsh b hm with z | z
      · exact absurd z nb
      · rw [z] at e; cases e
    · exact R'.fr b o hm nt e2
  tl := fun b ps q z => by
    by_cases hm : b ∈ W.φ
    · rcases R.fsh b hm with w | w
      · obtain ⟨o, k1, _⟩ := R'.ev b (R'.up.mem hm)
        rw [k1] at z; cases z
      · rw [w] at q; cases q
    · exact R.tl b ps q (e1.free (R'.fr.fresh R'.tl hm z))
  ext := R'.ext
  up := R.up.trans R'.up
  new := fun a o e => by
    rcases R'.new a o e with ⟨o', z⟩ | z | z
    · exact R.new a o' z
    · exact .inr (.inl (R.free (e1.free z)).1)
    · rcases R.fsh a z with w | w
      · exact .inr (.inr w)
      · exact .inr (.inl w)
  fsh := fun a ha => by
    rcases R'.fsh a ha with z | z
    · exact R.fsh a z
    · exact .inr (R.free (e1.free z)).1
  len := R.len
  sl := fun i x e => let ⟨v, h1, h2⟩ := R.sl i x e; ⟨v, h1, h2.mono R'.up⟩
  hl := R'.hl
  cell := R'.cell
  nd := R'.nd
  ev := R'.ev
  tb := R'.tb
  nt := R'.nt
/-- tables of code objects may grow -/
theorem Rel.extN (R : Rel K T W0 H0 W H σ δ h) (e : LamX.ExtN H H') (ht : ∀ b ps, H b = some (.tbl ps) → H' b ≠ none) (tb : LamX.Tabs T H') : Rel K T W0 H0 W H' σ δ h :=
  { R with
    fr := fun b o nb nt q => e b o (R.fr b o nb nt q) nt
    tl := fun b ps q z => by
      cases w : H b with
      | none => exact R.tl b ps q w
      | some o =>
        by_cases p : ∃ qs, o = .tbl qs
        · obtain ⟨qs, rfl⟩ := p
          exact ht b qs w z
        · rw [e b o w (fun qs y => p ⟨qs, y⟩)] at z
          cases z
    ext := fun b o q => e b o (R.ext b o q) (R.nt b o q)
    cell := fun n o a h1 h2 => (R.cell n o a h1 h2).mono (Wd.Le.refl _) (fun _ q _ => q) (fun o np q => e _ _ q np) (List.mem_of_getElem? h2)
    ev := fun a ha => let ⟨o, h1, h2⟩ := R.ev a ha; ⟨o, e _ _ h1 h2.1, h2⟩
    tb := tb }
end
end Nv


set_option Elab.async false
set_option linter.all false
set_option maxRecDepth 100000
set_option maxHeartbeats 4000000
/-! Promises, and the text and its code (Cor). -/
namespace Nv
open PySem PySem.Spec PyProof.Rows L2

/-- a lambda's parameters: none, or one with a number as its default -/
inductive LamP (params : Arguments) (body : Expr) (scope : Scope) : Prop
  | non (hd : ∀ env, defaultsOf params env = ([], [])) (hb : ∀ (q : Str) (cl : List (Str × Addr)) (doc pm cv ctv : Value), bindArgs (PySem.W.kdv_fn "<lambda>" q params (.expr body) scope cl .none doc pm cv ctv) ⟨[], []⟩ = pure [])
  | one (y : Str) (i : Int) (j : Nat) (p : Pos) (hd : params.defaults = [.Constant (.int i) j p]) (hk : params.kw_defaults = []) (hy : scope.names.lookup y = some .local)
      (hb : ∀ (q : Str) (cl : List (Str × Addr)) (TT : Addr) (doc pm cv ctv : Value), ∃ k, bindArgs (PySem.W.kdv_fn "<lambda>" q params (.expr body) scope cl (.ref TT) doc pm cv ctv) ⟨[], []⟩ = seqItems? (.ref TT) >>= k ∧ ∀ u, k (some #[u]) = pure [(y, u)])
/-- its names: captured ones, globals, and its own that nobody asks for -/
structure LamN (N : List Str) (sc scope : Scope) : Prop where
  kind : scope.kind = .function
  co : scope.isCoroutine = false
  gen : scope.isGenerator = false
  own : ∀ y ∈ scope.names, y.2 ≠ .cell ∧ (y.2 = .local → y.1 ∉ N)
  free : ∀ y ∈ scope.names, y.2 = .free → sc.names.lookup y.1 = some .cell ∨ sc.names.lookup y.1 = some .free
def lamNB (N : List Str) (sc scope : Scope) : Bool :=
  decide (scope.kind = .function) && (!scope.isCoroutine && (!scope.isGenerator && scope.names.all fun y => !decide (y.2 = .cell) && ((!decide (y.2 = .local) || !decide (y.1 ∈ N)) && (!decide (y.2 = .free) || (decide (sc.names.lookup y.1 = some .cell) || decide (sc.names.lookup y.1 = some .free))))))
theorem lamN_by {N : List Str} {sc scope : Scope} (h : lamNB N sc scope = true) : LamN N sc scope := by
  unfold lamNB at h
  simp only [Bool.and_eq_true, Bool.or_eq_true, Bool.not_eq_true', decide_eq_true_eq, decide_eq_false_iff_not, List.all_eq_true] at h
  obtain ⟨a, b, c, d⟩ := h
  refine ⟨a, b, c, fun y hy => ⟨(d y hy).1, fun e => ?_⟩, fun y hy e => ?_⟩
  · rcases (d y hy).2.1 with z | z
    · exact absurd e z
    · exact z
  · rcases (d y hy).2.2 with z | z
    · exact absurd e z
    · exact z
/-! ### promises -/
/-- an error in the air: its class, its dict -/
def ExR (K : PySem.W.Frag) (W : Wd) (e : PyData) (cls : Value) (d : Option Addr) : Prop := ∃ (x : Str) (C dd : Addr) (fs : List (Str × V)) (ds : List (PyData × PyData)),
  e = .dict ((.none, .str x) :: ds) ∧ cls = .ref C ∧ PySem.W.nsIn K mainGlobals x = some (some (.ref C)) ∧ d = some dd ∧ W.B dd = some (.xd fs) ∧ DvK K W.B (fs.map fun p => (Sum.inr p.1, p.2)) ds
theorem ExR.mono {K : PySem.W.Frag} {W W' : Wd} {e : PyData} {cls : Value} {d : Option Addr} (l : W.Le W') (h : ExR K W e cls d) : ExR K W' e cls d := by
  obtain ⟨x, C, dd, fs, ds, h1, h2, h3, h4, h5, h6⟩ := h
  exact ⟨x, C, dd, fs, ds, h1, h2, h3, h4, l.b _ _ h5, h6.mono l.b⟩
/-- what is wanted behind an answer -/
def PostR (K : PySem.W.Frag) (r : Rs Vv) (Q : VK) (E : XK) (W' : Wd) (H' : Hp) : Prop := match r with
  | .ok x => ∀ v, Rv K W' x v → Q v H'
  | .ex e => ∀ cls d, ExR K W' e cls d → E cls d H'
/-- a def by its meaning on values and cells -/
def SpC (K : PySem.W.Frag) (T : List (Addr × Str)) (m : List Vv → Hh → Ev Vv) : Sp := fun vs H Q E => ∃ as obs W r obs', Rel K T W H W H [] [] obs ∧ RvL K W as vs ∧ m as obs = some (r, obs') ∧
  ∀ W' H', Rel K T W H W' H' [] [] obs' → PostR K r Q E W' H'

/-- a shape of text that is proved apart: of an expression by its parts, of a test, of a statement by its parts and slots -/
structure Shp where
  e : Scope → List Expr → Expr → Prop := fun _ _ _ => False
  t : Scope → List Expr → Expr → Prop := fun _ _ _ => False
  s : Scope → List Str → List Expr → List Nat → Stmt → Prop := fun _ _ _ _ _ => False
def setV : L2.St → List Nat → List V → L2.St
  | σ, j :: js, v :: vs => setV (σ.set j (some v)) js vs
  | σ, _, _ => σ
/-- what is asked of such a shape: of its parts B and H1 are told, data at vs; new data may be made -/
structure OxOk (X : Cx) (Sh : Shp) (m : List PyData → Option PyData) : Prop where
  r : ∀ es x, Sh.e X.env.scope es x → ∀ {σ : L2.St} {H : Hp} {Q : VK}, (∀ Q' : List V → Hp → Prop, wL X es σ H Q') → wE X x σ H Q
  rt : ∀ es x, Sh.t X.env.scope es x → ∀ {σ : L2.St} {H : Hp} {Q : Bool → Hp → Prop}, (∀ Q' : List V → Hp → Prop, wL X es σ H Q') → wT X x σ H Q
  rs : ∀ es js x, Sh.s X.env.scope X.N es js x → ∀ {σ : L2.St} {H : Hp} {D : Ends}, (∀ Q' : List V → Hp → Prop, wL X es σ H Q') → wS X x D σ H
  e : ∀ es x, Sh.e X.env.scope es x → ∀ {σ : L2.St} {H : Hp} {ds : List PyData} {z : PyData} {Q : VK} {G : Hp → Hp → Prop}, m ds = some z →
    (∀ Q' : List V → Hp → Prop, (∀ vs B1 H1, Same B1 H1 → G B1 H1 → DvL X.K B1 vs ds → Q' vs H1) → wL X es σ H Q') →
    (∀ v B1 H1 B2 H2, G B1 H1 → Same B1 B2 → Same B2 H2 → Same H1 H2 → (∀ a o, B2 a = some o → (∃ o', B1 a = some o') ∨ H1 a = none ∧ ∀ ps, o ≠ .tbl ps) → Dv X.K B2 v z → Q v H2) → wE X x σ H Q
  t : ∀ es x, Sh.t X.env.scope es x → ∀ {σ : L2.St} {H : Hp} {ds : List PyData} {z : PyData} {b : Bool} {Q : Bool → Hp → Prop} {G : Hp → Hp → Prop}, m ds = some z → truthD z = some b →
    (∀ Q' : List V → Hp → Prop, (∀ vs B1 H1, Same B1 H1 → G B1 H1 → DvL X.K B1 vs ds → Q' vs H1) → wL X es σ H Q') →
    (∀ B1 H1 H2, G B1 H1 → Same H1 H2 → Q b H2) → wT X x σ H Q
  s : (∀ x, X.fn x = true) → ∀ es js x, Sh.s X.env.scope X.N es js x → ∀ {σ : L2.St} {H : Hp} {ds zs : List PyData} {D : Ends} {G : Hp → Hp → Prop}, m ds = some (.list zs) → zs.length = js.length →
    (∀ Q' : List V → Hp → Prop, (∀ vs B1 H1, Same B1 H1 → G B1 H1 → DvL X.K B1 vs ds → Q' vs H1) → wL X es σ H Q') →
    (∀ ws B1 H1 B2 H2, G B1 H1 → Same B1 B2 → Same B2 H2 → Same H1 H2 → (∀ a o, B2 a = some o → (∃ o', B1 a = some o') ∨ H1 a = none ∧ ∀ ps, o ≠ .tbl ps) → DvL X.K B2 ws zs → D.nx (setV σ js ws) H2) → wS X x D σ H
def OxF (P : Program) (w : World) (K : PySem.W.Frag) (mg : Str → Option Value) (base : Heap) (k : Nat) (Sh : Shp) (m : List PyData → Option PyData) : Prop :=
  ∀ X : Cx, X.prog = P → X.w = w → X.K = K → X.mg = mg → X.base = base → Room k X.A → X.A.guards = some [] → X.calm = true → X.N.Nodup → OxOk X Sh m
/-- a def's entry: its name, how many values by place, by which names the others, the defaults behind -/
structure En where
  x : Str
  n : Nat
  ks : List Str
/-- an error class's entry -/
structure Er where
  x : Str
  fs : List Str
structure Gam where
  bs : List Str
  gs : List (Str × PyData)
  es : List En
  xs : List Er := []
  ats : List (Str × List Str × List Str) := []
  ics : List (Str × List (Str × Bool) × List (Str × Bool) × List String) := []
  ox : List Shp := []
  hd : Option Str := none
  lsc : Option Nat := none
def lsNe : Option Nat → Nat → Bool
  | none, _ => true
  | some m, n => m != n
theorem lsNe_of {o : Option Nat} {n : Nat} (h : lsNe o n = true) : ∀ m, o = some m → n = m → False := fun m e z => by
  subst e
  subst z
  simp [lsNe] at h
structure FnF (P : Program) (w : World) (K : PySem.W.Frag) (T : List (Addr × Str)) (mg : Str → Option Value) (base : Heap) (k : Nat) (e : En) (m : List Vv → Hh → Ev Vv) : Prop where
  ex : ∃ f, mg e.x = some (.ref f) ∧ PySem.W.keepIn K (.ref f) = true ∧ ∀ (A : Around) (outer : List Env) (s : Shared) (H : Hp) (us ws : List Value) (vs : List V) (Q : VK) (E : XK), Room k A → A.guards = some [] → Env0 P w K mg base A outer s H →
    us.length = e.n → ws.length = e.ks.length → Vals vs (us ++ ws) → SpC K T m vs H Q E →
    codeAny (model P w) A (.call (.ref f) ⟨us, e.ks.zip ws⟩) (CR (L2.CX P w) outer P w H s Q E) s
/-- X(..) of an error class, to be raised -/
structure ErF (P : Program) (w : World) (K : PySem.W.Frag) (mg : Str → Option Value) (base : Heap) (k : Nat) (e : Er) : Prop where
  ex : ∃ C, PySem.W.nsIn K mainGlobals e.x = some (some (.ref C)) ∧ ∀ X : Cx, X.prog = P → X.w = w → X.K = K → X.mg = mg → X.base = base → Room k X.A → X.A.guards = some [] → X.calm = true → Gl X e.x → ∀ (es : List Expr) (p pos : Pos), es.length = e.fs.length →
    (∀ env, ∀ a l, es = a :: l → starEach (a :: l) env = (false, eval a env) :: starEach l env) → (∀ a l, es = a :: l → (backTo pos (starEach l X.env)).any (·.1) = false) →
    PMk X (.Call (.Name e.x p) es [] pos) fun σ H Q => wA X es σ H fun vs H1 => vs.length = e.fs.length ∧ ∀ d, H1 d = none → Q (.ref C) (some d) (upd H1 d (.xd (e.fs.zip vs).reverse))
/-- what is asked of a class whose instances are looked at -/
def AtOk (K : PySem.W.Frag) (f : Str) (cE cI : List Str) : Prop := (∀ x C, x ∈ cE → PySem.W.nsIn K mainGlobals x = some (some (.ref C)) → XfC K C ∧ PySem.W.findIn K (.ref C) f = some none) ∧
  ∀ x C, x ∈ cI → PySem.W.nsIn K mainGlobals x = some (some (.ref C)) → Cls K C ∧ NoAttr K C f
structure InC (K : PySem.W.Frag) (C : Addr) : Prop where
  cl : Cls K C
  ha : PySem.W.findIn K (.ref C) "__class__" = some (some (.builtin "object.__class__"))
  hn : PySem.W.specialIn K (.builtin "object.__class__") "__get__" = some (some (.builtin "getset_descriptor.__get__"))
  ht : PySem.W.takesIn K (.builtin "object.__class__") = some true
  hm : PySem.W.mroIn K C (.type "object") = some true
def IcOk (K : PySem.W.Frag) (mg : Str → Option Value) (t : Str) (tE tI : List (Str × Bool)) (tO : List String) : Prop := ∃ T, mg t = some (.ref T) ∧
  (∀ x C b, tE.lookup x = some b → PySem.W.nsIn K mainGlobals x = some (some (.ref C)) → L2.ExcC K C ∧ PySem.W.kitOne K (.ref C) (.ref T) = some b) ∧
  (∀ x C b, tI.lookup x = some b → PySem.W.nsIn K mainGlobals x = some (some (.ref C)) → InC K C ∧ PySem.W.kitOne K (.ref C) (.ref T) = some b) ∧ ∀ n ∈ tO, PySem.W.kitOne K (.type n) (.ref T) = some false
/-- what a call of the function at f does, from the state s0 on -/
def LamRun (P : Program) (w : World) (K : PySem.W.Frag) (T : List (Addr × Str)) (mg : Str → Option Value) (base : Heap) (k : Nat) (f : Addr) (fs : List Addr) (s0 : Shared) (H1 : Hp) (W : Wd) (h : Hh) (r : Rs Vv) (h2 : Hh) : Prop :=
  ∀ (A : Around) (outer : List Env) (s : Shared) (HZ : Hp) (WZ : Wd) (Q : VK) (E : XK), Room (k + 1) A → A.guards = some [] → Env0 P w K mg base A outer s HZ → Un fs [] H1 HZ s0.heap s.heap → Rel K T W H1 WZ HZ [] [] h →
    (∀ W' H', Rel K T WZ HZ W' H' [] [] h2 → PostR K r Q E W' H') → codeAny (model P w) A (.call (.ref f) ⟨[], []⟩) (CR (L2.CX P w) outer P w HZ s Q E) s
/-- a def that calls the function it is given, and tells what is left for its handler -/
structure HeardF (P : Program) (w : World) (K : PySem.W.Frag) (T : List (Addr × Str)) (mg : Str → Option Value) (base : Heap) (k : Nat) (x : Str) (m : PyData → Hh → Ev Vv) : Prop where
  ex : ∃ g, mg x = some (.ref g) ∧ PySem.W.keepIn K (.ref g) = true ∧ ∀ (A : Around) (outer : List Env) (s : Shared) (H1 : Hp) (f : Addr) (W : Wd) (h : Hh) (r : Rs Vv) (h2 : Hh) (rr : Rs Vv) (h3 : Hh) (Q : VK) (E : XK), Room (k + 2) A → A.guards = some [] → Env0 P w K mg base A outer s H1 →
    PySem.W.FnAt f s.heap → H1 f = none → f ∉ frs outer → Rel K T W H1 W H1 [] [] h → LamRun P w K T mg base k f (frs outer) s H1 W h r h2 → m (errOf r) h2 = some (rr, h3) → (∀ W' H', Rel K T W H1 W' H' [] [] h3 → PostR K rr Q E W' H') →
    codeAny (model P w) A (.call (.ref g) ⟨[.ref f], []⟩) (CR (L2.CX P w) outer P w H1 s Q E) s
/-- what the making of a lambda asks of the maker -/
structure LamOk (T : List (Addr × Str)) (k : Nat) (X : Cx) : Prop where
  ex : ∃ c P, X.env.code = .ref c ∧ LamX.TabB X.base X.mg c P ∧ (P, X.env.qual ++ "<lambda>") ∈ T ∧ (∀ p ∈ T, p.1 = P → p.2 = X.env.qual ++ "<lambda>") ∧ Room (k + 2) X.A
/-- what a body leans on -/
structure Ok (Γ : Gam) (F : Fns) (N : List Str) (k : Nat) (T : List (Addr × Str)) (X : Cx) : Prop where
  hN : X.N = N
  calm : X.calm = true
  nd : N.Nodup
  room : Room k X.A
  gd : X.A.guards = some []
  bl : ∀ x ∈ Γ.bs, X.mg x = none
  gl : ∀ (i : Nat) x d, Γ.gs[i]? = some (x, d) → ∃ v u, X.mg x = some u ∧ RelV v u ∧ ∀ B, Dv X.K B v d
  fn : ∀ i e, Γ.es[i]? = some e → FnF X.prog X.w X.K T X.mg X.base k e (F.fn i)
  er : ∀ e ∈ Γ.xs, ErF X.prog X.w X.K X.mg X.base k e
  at_ : ∀ f cE cI, (f, cE, cI) ∈ Γ.ats → AtOk X.K f cE cI
  ic : ∀ t tE tI tO, (t, tE, tI, tO) ∈ Γ.ics → IcOk X.K X.mg t tE tI tO
  ox : ∀ i Sh, Γ.ox[i]? = some Sh → OxF X.prog X.w X.K X.mg X.base k Sh (F.ox i)
  hr : ∀ x, Γ.hd = some x → HeardF X.prog X.w X.K T X.mg X.base k x F.hr
  lam : ∀ n, Γ.lsc = some n → X.env.scope.names.length = n → LamOk T k X
end Nv


set_option Elab.async false
set_option linter.all false
set_option maxRecDepth 100000
set_option maxHeartbeats 4000000
namespace Nv
open PySem PySem.Spec PyProof.Rows L2
/-! ### the text and its code -/
def Pl (sc : Scope) (x : Str) : Prop := sc.names.lookup x = some .globalImplicit
/-! ### targets -/
inductive CorNs (N : List Str) : List Expr → List Nat → List (Str × Nat) → Prop
  | nil : CorNs N [] [] []
  | cons {x : Str} {p : Pos} {i : Nat} {es : List Expr} {is : List Nat} {own : List (Str × Nat)} (hx : N[i]? = some x) (r : CorNs N es is own) : CorNs N (.Name x p :: es) (i :: is) ((x, i) :: own)
inductive CorTg (N : List Str) : Expr → Tg → List (Str × Nat) → Prop
  | one {x : Str} {p : Pos} {i : Nat} (hx : N[i]? = some x) : CorTg N (.Name x p) (.one i) [(x, i)]
  | many {es : List Expr} {is : List Nat} {own : List (Str × Nat)} {k : Nat} {p : Pos} (h : CorNs N es is own) : CorTg N (.Tuple es k p) (.many is) own
mutual
inductive Cor (Γ : Gam) (N : List Str) : Scope → Expr → C → Prop
  | var {sc : Scope} {x : Str} {pos : Pos} {i : Nat} (h : N[i]? = some x) (hv : Vis sc x) (h1 : (x == ("__debug__" : Str)) = false) (h2 : (x == ("__classdict__" : Str)) = false) : Cor Γ N sc (.Name x pos) (.var i)
  | int {sc : Scope} {i : Int} {j : Nat} {pos : Pos} : Cor Γ N sc (.Constant (.int i) j pos) (.cst (.int i))
  | bl {sc : Scope} {b : Bool} {j : Nat} {pos : Pos} : Cor Γ N sc (.Constant (.bool b) j pos) (.cst (.bool b))
  | non {sc : Scope} {j : Nat} {pos : Pos} : Cor Γ N sc (.Constant .none j pos) (.cst .none)
  | str {sc : Scope} {x : Str} {j : Nat} {pos : Pos} : Cor Γ N sc (.Constant (.str x) j pos) (.cst (.str x))
  | glb {sc : Scope} {x : Str} {pos : Pos} {d : PyData} (i : Nat) (h : Pl sc x) (hm : Γ.gs[i]? = some (x, d)) (h1 : (x == ("__debug__" : Str)) = false) : Cor Γ N sc (.Name x pos) (.glb d)
  | one {sc : Scope} {op : BoolOp} {a : Expr} {pos : Pos} {ca : C} (ha : Cor Γ N sc a ca) : Cor Γ N sc (.BoolOp op [a] pos) ca
  | and_ {sc : Scope} {a b : Expr} {rest : List Expr} {pos : Pos} {ca cb : C} (ha : Cor Γ N sc a ca) (hb : Cor Γ N sc (.BoolOp .And (b :: rest) pos) cb) : Cor Γ N sc (.BoolOp .And (a :: b :: rest) pos) (.and_ ca cb)
  | or_ {sc : Scope} {a b : Expr} {rest : List Expr} {pos : Pos} {ca cb : C} (ha : Cor Γ N sc a ca) (hb : Cor Γ N sc (.BoolOp .Or (b :: rest) pos) cb) : Cor Γ N sc (.BoolOp .Or (a :: b :: rest) pos) (.or_ ca cb)
  | not_ {sc : Scope} {a : Expr} {pos : Pos} {ca : C} (ha : Cor Γ N sc a ca) : Cor Γ N sc (.UnaryOp .Not a pos) (.not_ ca)
  | ite {sc : Scope} {t a b : Expr} {pos : Pos} {ct ca cb : C} (ht : CorT Γ N sc t ct) (ha : Cor Γ N sc a ca) (hb : Cor Γ N sc b cb) : Cor Γ N sc (.IfExp t a b pos) (.ite ct ca cb)
  | bin {sc : Scope} {op : Operator} {a b : Expr} {pos : Pos} {ca cb : C} (ha : Cor Γ N sc a ca) (hb : Cor Γ N sc b cb) : Cor Γ N sc (.BinOp a op b pos) (.bin op ca cb)
  | neg {sc : Scope} {a : Expr} {pos : Pos} {ca : C} (ha : Cor Γ N sc a ca) : Cor Γ N sc (.UnaryOp .USub a pos) (.neg ca)
  | cmp {sc : Scope} {op : CmpOp} {a b : Expr} {pos : Pos} {ca cb : C} (ha : Cor Γ N sc a ca) (hb : Cor Γ N sc b cb) (hm : behindInMarks op b = false) : Cor Γ N sc (.Compare a [op] [b] pos) (.cmp op ca cb)
  | chain {sc : Scope} {o1 o2 : CmpOp} {a b c : Expr} {pos : Pos} {ca cb cc : C} (ha : Cor Γ N sc a ca) (hb : Cor Γ N sc b cb) (hc : Cor Γ N sc c cc) (hm : lastMarks [o1, o2] [b, c] = false) : Cor Γ N sc (.Compare a [o1, o2] [b, c] pos) (.chain o1 o2 ca cb cc)
  | tup {sc : Scope} {es : List Expr} {k : Nat} {pos : Pos} {cs : Cs} (h : CorL Γ N sc es cs) : Cor Γ N sc (.Tuple es k pos) (.tup cs)
  | lst {sc : Scope} {es : List Expr} {pos : Pos} {cs : Cs} (h : CorL Γ N sc es cs) : Cor Γ N sc (.List es pos) (.lst cs)
  | dct1 {sc : Scope} {v : Expr} {x : Str} {j : Nat} {p1 pos : Pos} {cv : C} (h : Cor Γ N sc v cv) : Cor Γ N sc (.Dict [some (.Constant (.str x) j p1)] [v] pos) (.dct1 x cv)
  | isi1 {sc : Scope} {a : Expr} {t : Str} {T : String} {p p2 pos : Pos} {ca : C} (ha : Cor Γ N sc a ca) (h1 : Pl sc "isinstance") (h2 : ("isinstance" : Str) ∈ Γ.bs) (h3 : Pl sc t) (h4 : t ∈ Γ.bs) (h5 : bootBuiltins t = some (.type T)) (h6 : t ≠ "__name__") (h7 : (t == ("__debug__" : Str)) = false)
    (hs : ∀ env, starEach [a, .Name t p2] env = (false, eval a env) :: starEach [.Name t p2] env) : Cor Γ N sc (.Call (.Name "isinstance" p) [a, .Name t p2] [] pos) (.isi ca [T])
  | isi2 {sc : Scope} {a : Expr} {t t' : Str} {T T' : String} {p p2 p3 p4 pos : Pos} {k : Nat} {ca : C} (ha : Cor Γ N sc a ca) (h1 : Pl sc "isinstance") (h2 : ("isinstance" : Str) ∈ Γ.bs) (h3 : Pl sc t) (h4 : t ∈ Γ.bs) (h5 : bootBuiltins t = some (.type T)) (h6 : t ≠ "__name__") (h7 : (t == ("__debug__" : Str)) = false)
    (h3' : Pl sc t') (h4' : t' ∈ Γ.bs) (h5' : bootBuiltins t' = some (.type T')) (h6' : t' ≠ "__name__") (h7' : (t' == ("__debug__" : Str)) = false)
    (hs : ∀ env, starEach [a, .Tuple [.Name t p2, .Name t' p3] k p4] env = (false, eval a env) :: starEach [.Tuple [.Name t p2, .Name t' p3] k p4] env) : Cor Γ N sc (.Call (.Name "isinstance" p) [a, .Tuple [.Name t p2, .Name t' p3] k p4] [] pos) (.isi ca [T, T'])
  | call {sc : Scope} {i n : Nat} {x : Str} {es : List Expr} {p pos : Pos} {cs : Cs} (he : Γ.es[i]? = some ⟨x, n, []⟩) (h : CorL Γ N sc es cs) (hn : es.length = n) (h1 : Pl sc x) (h2 : (x == ("__debug__" : Str)) = false) : Cor Γ N sc (.Call (.Name x p) es [] pos) (.call i cs)
  | callK {sc : Scope} {i : Nat} {x : Str} {ks : List Str} {kws : List Keyword} {es : List Expr} {p pos : Pos} {cs : Cs} (he : Γ.es[i]? = some ⟨x, 0, ks⟩) (hv : kws.map (fun k => k.value) = es) (h : CorL Γ N sc es cs) (hk : kws.map (fun k => k.arg) = ks.map some) (h1 : Pl sc x) (h2 : (x == ("__debug__" : Str)) = false) :
    Cor Γ N sc (.Call (.Name x p) [] kws pos) (.call i cs)
  | bltF {sc : Scope} {b : Bt} {id : String} {x : Str} {a : Expr} {p pos : Pos} {ca : C} (hb : btV b = .fn id) (ha : Cor Γ N sc a ca) (h1 : Pl sc x) (h2 : x ∈ Γ.bs) (h3 : bootBuiltins x = some (.builtin id)) (h4 : x ≠ "__name__") (h5 : (x == ("__debug__" : Str)) = false)
    (hs : ∀ env, starEach [a] env = (false, eval a env) :: starEach [] env) : Cor Γ N sc (.Call (.Name x p) [a] [] pos) (.blt b ca)
  | bltT {sc : Scope} {b : Bt} {id : String} {x : Str} {a : Expr} {p pos : Pos} {ca : C} (hb : btV b = .ty id) (ha : Cor Γ N sc a ca) (h1 : Pl sc x) (h2 : x ∈ Γ.bs) (h3 : bootBuiltins x = some (.type id)) (h4 : x ≠ "__name__") (h5 : (x == ("__debug__" : Str)) = false)
    (hs : ∀ env, starEach [a] env = (false, eval a env) :: starEach [] env) : Cor Γ N sc (.Call (.Name x p) [a] [] pos) (.blt b ca)
  | sub {sc : Scope} {a i : Expr} {pos : Pos} {ca ci : C} (ha : Cor Γ N sc a ca) (hi : Cor Γ N sc i ci) (hs : PlainIx i) : Cor Γ N sc (.Subscript a i pos) (.sub ca ci)
  | upto {sc : Scope} {a n : Expr} {p pos : Pos} {ca cn : C} (ha : Cor Γ N sc a ca) (hn : Cor Γ N sc n cn) : Cor Γ N sc (.Subscript a (.Slice none (some n) none p) pos) (.upto ca cn)
  | attr {sc : Scope} {a : Expr} {f : Str} {pos : Pos} {ca : C} {cE cI : List Str} (ha : Cor Γ N sc a ca) (hm : (f, cE, cI) ∈ Γ.ats) (hb : ∀ env, attributeBase a f env (eval a env) = eval a env) : Cor Γ N sc (.Attribute a f pos) (.attr ca f cE cI)
  | isc {sc : Scope} {a : Expr} {t : Str} {p p2 pos : Pos} {ca : C} {tE tI : List (Str × Bool)} {tO : List String} (ha : Cor Γ N sc a ca) (h1 : Pl sc "isinstance") (h2 : ("isinstance" : Str) ∈ Γ.bs) (h3 : Pl sc t) (h7 : (t == ("__debug__" : Str)) = false) (hm : (t, tE, tI, tO) ∈ Γ.ics)
    (hs : ∀ env, starEach [a, .Name t p2] env = (false, eval a env) :: starEach [.Name t p2] env) : Cor Γ N sc (.Call (.Name "isinstance" p) [a, .Name t p2] [] pos) (.isc ca tE tI tO)
  | neE {sc : Scope} {a : Expr} {p2 pos : Pos} {ca : C} (ha : Cor Γ N sc a ca) : Cor Γ N sc (.Compare a [.NotEq] [.List [] p2] pos) (.neE true ca)
  | eqE {sc : Scope} {a : Expr} {p2 pos : Pos} {ca : C} (ha : Cor Γ N sc a ca) : Cor Γ N sc (.Compare a [.Eq] [.List [] p2] pos) (.neE false ca)
  | newL {sc : Scope} {es : List Expr} {pos : Pos} {cs : Cs} (h : CorL Γ N sc es cs) : Cor Γ N sc (.List es pos) (.newL cs)
  | newLst {sc : Scope} {a : Expr} {p pos : Pos} {ca : C} (ha : Cor Γ N sc a ca) (h1 : Pl sc "list") (h2 : ("list" : Str) ∈ Γ.bs) (hs : ∀ env, starEach [a] env = (false, eval a env) :: starEach [] env) : Cor Γ N sc (.Call (.Name "list" p) [a] [] pos) (.thaw ca)
  | gcall {sc : Scope} {i n : Nat} {x : Str} {es : List Expr} {p pos : Pos} {cs : Cs} (he : Γ.es[i]? = some ⟨x, n, []⟩) (h : CorL Γ N sc es cs) (hn : es.length = n) (h1 : Pl sc x) (h2 : (x == ("__debug__" : Str)) = false) : Cor Γ N sc (.Call (.Name x p) es [] pos) (.gcall i cs)
  | comp {sc scope : Scope} {tg elt iter : Expr} {ifs : List Expr} {tc : Tg} {own : List (Str × Nat)} {pos : Pos} {ce : C} {ci : Ci} {q : Option'} (hi : CorI Γ N sc iter ci) (hb : BlkOk N sc scope own) (ht : CorTg N tg tc own) (hz : okTg ci tc = true) (hl : ∀ p ∈ own, (relS scope sc).names.lookup p.1 = some .local) (hq : CorQ Γ N (relS scope sc) ifs q) (he : Cor Γ N (relS scope sc) elt ce)
    (hs : ∀ env v, foldedSetIterable iter env v = pure v) (hz2 : lsNe Γ.lsc scope.names.length = true) : Cor Γ N sc (.ListComp elt [⟨tg, iter, ifs, 0⟩] scope pos) (.comp ce tc ci q)
  | frz {sc : Scope} {a : Expr} {ca : C} (ha : Cor Γ N sc a ca) : Cor Γ N sc a (.frz ca)
  | popL {sc : Scope} {a : Expr} {ap cp : Pos} {ca : C} (ha : Cor Γ N sc a ca) (hl : (ap.endLine == cp.line) = true) (hb : ∀ env, attributeBase a "pop" env (eval a env) = eval a env) : Cor Γ N sc (.Call (.Attribute a "pop" ap) [] [] cp) (.popL ca)
  | popA {sc : Scope} {a e : Expr} {ap cp : Pos} {ca c : C} (ha : Cor Γ N sc a ca) (he : Cor Γ N sc e c) (hl : (ap.endLine == cp.line) = true) (hb : ∀ env, attributeBase a "pop" env (eval a env) = eval a env)
    (hs : ∀ env, starEach [e] env = (false, eval e env) :: starEach [] env) : Cor Γ N sc (.Call (.Attribute a "pop" ap) [e] [] cp) (.popA ca c)
  | op {sc : Scope} {i : Nat} {Sh : Shp} {es : List Expr} {e : Expr} {cs : Cs} (h : Γ.ox[i]? = some Sh) (hs : Sh.e sc es e) (hl : CorL Γ N sc es cs) : Cor Γ N sc e (.op i cs)
  | heard {sc scope : Scope} {x : Str} {params : Arguments} {e : Expr} {p lpos pos : Pos} {ce : C} (hx : Γ.hd = some x) (h1 : Pl sc x) (h2 : (x == ("__debug__" : Str)) = false) (hl : Γ.lsc = some sc.names.length) (hz : lsNe Γ.lsc scope.names.length = true) (L : LamN N sc scope) (LP : LamP params e scope) (he : Cor Γ N scope e ce) :
    Cor Γ N sc (.Call (.Name x p) [.Lambda params e scope lpos] [] pos) (.heard ce)
  | newD {sc : Scope} {pos : Pos} : Cor Γ N sc (.Dict [] [] pos) .newD
  | sortK {sc : Scope} {a : Expr} {p pos : Pos} {ca : C} (ha : Cor Γ N sc a ca) (h1 : Pl sc "sorted") (h2 : ("sorted" : Str) ∈ Γ.bs) (hs : ∀ env, starEach [a] env = (false, eval a env) :: starEach [] env) : Cor Γ N sc (.Call (.Name "sorted" p) [a] [] pos) (.sortK ca)
inductive CorT (Γ : Gam) (N : List Str) : Scope → Expr → C → Prop
  | val {sc : Scope} {e : Expr} {c : C} (h : Cor Γ N sc e c) (he : ∀ env whole, isTrue e env whole = (do let v ← whole; standAt e.pos; holding [v] (truthy v))) : CorT Γ N sc e c
  | not_ {sc : Scope} {a : Expr} {pos : Pos} {ca : C} (ha : CorT Γ N sc a ca) : CorT Γ N sc (.UnaryOp .Not a pos) (.not_ ca)
  | cmp {sc : Scope} {op : CmpOp} {a b : Expr} {pos : Pos} {ca cb : C} (ha : Cor Γ N sc a ca) (hb : Cor Γ N sc b cb) (hm : behindInMarks op b = false) : CorT Γ N sc (.Compare a [op] [b] pos) (.cmp op ca cb)
  | chain {sc : Scope} {o1 o2 : CmpOp} {a b c : Expr} {pos : Pos} {ca cb cc : C} (ha : Cor Γ N sc a ca) (hb : Cor Γ N sc b cb) (hc : Cor Γ N sc c cc) (hm : lastMarks [o1, o2] [b, c] = false) : CorT Γ N sc (.Compare a [o1, o2] [b, c] pos) (.chain o1 o2 ca cb cc)
  | neE {sc : Scope} {a : Expr} {p2 pos : Pos} {ca : C} (ha : Cor Γ N sc a ca) : CorT Γ N sc (.Compare a [.NotEq] [.List [] p2] pos) (.neE true ca)
  | eqE {sc : Scope} {a : Expr} {p2 pos : Pos} {ca : C} (ha : Cor Γ N sc a ca) : CorT Γ N sc (.Compare a [.Eq] [.List [] p2] pos) (.neE false ca)
  | bool {sc : Scope} {e : Expr} {c : C} (h : CorW Γ N sc e c) : CorT Γ N sc e c
  | op {sc : Scope} {i : Nat} {Sh : Shp} {es : List Expr} {e : Expr} {cs : Cs} (h : Γ.ox[i]? = some Sh) (hs : Sh.t sc es e) (hl : CorL Γ N sc es cs) : CorT Γ N sc e (.op i cs)
inductive CorW (Γ : Gam) (N : List Str) : Scope → Expr → C → Prop
  | one {sc : Scope} {op : BoolOp} {a : Expr} {pos : Pos} {ca : C} (ha : CorT Γ N sc a ca) : CorW Γ N sc (.BoolOp op [a] pos) ca
  | and_ {sc : Scope} {a b : Expr} {rest : List Expr} {pos : Pos} {ca cb : C} (ha : CorT Γ N sc a ca) (hb : CorW Γ N sc (.BoolOp .And (b :: rest) pos) cb) : CorW Γ N sc (.BoolOp .And (a :: b :: rest) pos) (.and_ ca cb)
  | or_ {sc : Scope} {a b : Expr} {rest : List Expr} {pos : Pos} {ca cb : C} (ha : CorT Γ N sc a ca) (hb : CorW Γ N sc (.BoolOp .Or (b :: rest) pos) cb) : CorW Γ N sc (.BoolOp .Or (a :: b :: rest) pos) (.or_ ca cb)
inductive CorL (Γ : Gam) (N : List Str) : Scope → List Expr → Cs → Prop
  | nil {sc : Scope} : CorL Γ N sc [] .nil
  | cons {sc : Scope} {e : Expr} {es : List Expr} {c : C} {cs : Cs} (h : Cor Γ N sc e c) (r : CorL Γ N sc es cs) (hs : ∀ env, starEach (e :: es) env = (false, eval e env) :: starEach es env) : CorL Γ N sc (e :: es) (.cons c cs)
inductive CorI (Γ : Gam) (N : List Str) : Scope → Expr → Ci → Prop
  | seq {sc : Scope} {e : Expr} {c : C} (h : Cor Γ N sc e c) : CorI Γ N sc e (.seq c)
  | rng {sc : Scope} {a : Expr} {p pos : Pos} {c : C} (h : Cor Γ N sc a c) (h1 : Pl sc "range") (h2 : ("range" : Str) ∈ Γ.bs) (hs : ∀ env, starEach [a] env = [(false, eval a env)]) : CorI Γ N sc (.Call (.Name "range" p) [a] [] pos) (.rng c)
  | rng2 {sc : Scope} {a b : Expr} {p pos : Pos} {ca cb : C} (ha : Cor Γ N sc a ca) (hb : Cor Γ N sc b cb) (h1 : Pl sc "range") (h2 : ("range" : Str) ∈ Γ.bs) (hsa : ∀ env, starEach [a, b] env = (false, eval a env) :: starEach [b] env) (hsb : ∀ env, starEach [b] env = (false, eval b env) :: starEach [] env) : CorI Γ N sc (.Call (.Name "range" p) [a, b] [] pos) (.rng2 ca cb)
  | enu {sc : Scope} {a : Expr} {p pos : Pos} {c : C} (h : Cor Γ N sc a c) (h1 : Pl sc "enumerate") (h2 : ("enumerate" : Str) ∈ Γ.bs) (hs : ∀ env, starEach [a] env = [(false, eval a env)]) : CorI Γ N sc (.Call (.Name "enumerate" p) [a] [] pos) (.enu c)
  | zip {sc : Scope} {a b : Expr} {p pos : Pos} {ca cb : C} (ha : Cor Γ N sc a ca) (hb : Cor Γ N sc b cb) (h1 : Pl sc "zip") (h2 : ("zip" : Str) ∈ Γ.bs) (hsa : ∀ env, starEach [a, b] env = (false, eval a env) :: starEach [b] env) (hsb : ∀ env, starEach [b] env = (false, eval b env) :: starEach [] env) : CorI Γ N sc (.Call (.Name "zip" p) [a, b] [] pos) (.zip ca cb)
inductive CorQ (Γ : Gam) (N : List Str) : Scope → List Expr → Option' → Prop
  | non {sc : Scope} : CorQ Γ N sc [] .non
  | som {sc : Scope} {e : Expr} {c : C} (h : CorT Γ N sc e c) : CorQ Γ N sc [e] (.som c)
end
end Nv


set_option Elab.async false
set_option linter.all false
set_option maxRecDepth 100000
set_option maxHeartbeats 8000000
/-! What the evaluator says is what runs: plain expressions and tests. -/
namespace Nv
open PySem PySem.Spec PyProof.Rows L2

/-- what is wanted where something is raised -/
def PostX {α : Type} (K : PySem.W.Frag) (T : List (Addr × Str)) (W0 : Wd) (H0 : Hp) (W : Wd) (σ : L2.St) (δ : Env_) (o : Rs α × Hh) (E : XK) : Prop := match o with
  | (.ok _, _) => True
  | (.ex e, h') => ∀ cls d W' H', Rel K T W0 H0 W' H' σ δ h' → W.Le W' → ExR K W' e cls d → E cls d H'
def PostE (K : PySem.W.Frag) (T : List (Addr × Str)) (W0 : Wd) (H0 : Hp) (W : Wd) (σ : L2.St) (δ : Env_) (o : Rs Vv × Hh) (Q : VK) (E : XK) : Prop := match o with
  | (.ok x, h') => ∀ v W' H', Rel K T W0 H0 W' H' σ δ h' → W.Le W' → Rv K W' x v → Q v H'
  | (.ex e, h') => ∀ cls d W' H', Rel K T W0 H0 W' H' σ δ h' → W.Le W' → ExR K W' e cls d → E cls d H'
def PostT (K : PySem.W.Frag) (T : List (Addr × Str)) (W0 : Wd) (H0 : Hp) (W : Wd) (σ : L2.St) (δ : Env_) (o : Rs Vv × Hh) (Q : Bool → Hp → Prop) (E : XK) : Prop := match o with
  | (.ok x, h') => ∃ b, (datV x).bind truthD = some b ∧ ∀ W' H', Rel K T W0 H0 W' H' σ δ h' → W.Le W' → Q b H'
  | (.ex e, h') => ∀ cls d W' H', Rel K T W0 H0 W' H' σ δ h' → W.Le W' → ExR K W' e cls d → E cls d H'
def PostL (K : PySem.W.Frag) (T : List (Addr × Str)) (W0 : Wd) (H0 : Hp) (W : Wd) (σ : L2.St) (δ : Env_) (o : Rs (List Vv) × Hh) (Q : List V → Hp → Prop) (E : XK) : Prop := match o with
  | (.ok xs, h') => ∀ vs W' H', Rel K T W0 H0 W' H' σ δ h' → W.Le W' → RvL K W' xs vs → Q vs H'
  | (.ex e, h') => ∀ cls d W' H', Rel K T W0 H0 W' H' σ δ h' → W.Le W' → ExR K W' e cls d → E cls d H'
section
variable {K : PySem.W.Frag} {T : List (Addr × Str)} {W0 W W1 : Wd} {H0 : Hp} {σ : L2.St} {δ : Env_} {E : XK}
theorem PostE.x {o : Rs Vv × Hh} {Q : VK} (h : PostE K T W0 H0 W σ δ o Q E) : PostX K T W0 H0 W σ δ o E := by
  obtain ⟨r, h'⟩ := o
  cases r with
  | ok x => trivial
  | ex e => exact h
theorem PostT.x {o : Rs Vv × Hh} {Q : Bool → Hp → Prop} (h : PostT K T W0 H0 W σ δ o Q E) : PostX K T W0 H0 W σ δ o E := by
  obtain ⟨r, h'⟩ := o
  cases r with
  | ok x => trivial
  | ex e => exact h
theorem PostL.x {o : Rs (List Vv) × Hh} {Q : List V → Hp → Prop} (h : PostL K T W0 H0 W σ δ o Q E) : PostX K T W0 H0 W σ δ o E := by
  obtain ⟨r, h'⟩ := o
  cases r with
  | ok x => trivial
  | ex e => exact h
theorem PostX.mono {α : Type} {o : Rs α × Hh} (h : PostX K T W0 H0 W σ δ o E) (l : W.Le W1) : PostX K T W0 H0 W1 σ δ o E := by
  obtain ⟨r, h'⟩ := o
  cases r with
  | ok x => trivial
  | ex e => exact fun cls d W' H' R l' x => h cls d W' H' R (l.trans l') x
theorem PostE.mono {o : Rs Vv × Hh} {Q : VK} (h : PostE K T W0 H0 W σ δ o Q E) (l : W.Le W1) : PostE K T W0 H0 W1 σ δ o Q E := by
  obtain ⟨r, h'⟩ := o
  cases r with
  | ok x => exact fun v W' H' R l' r => h v W' H' R (l.trans l') r
  | ex e => exact fun cls d W' H' R l' x => h cls d W' H' R (l.trans l') x
theorem PostT.mono {o : Rs Vv × Hh} {Q : Bool → Hp → Prop} (h : PostT K T W0 H0 W σ δ o Q E) (l : W.Le W1) : PostT K T W0 H0 W1 σ δ o Q E := by
  obtain ⟨r, h'⟩ := o
  cases r with
  | ok x =>
    obtain ⟨b, h1, h2⟩ := h
    exact ⟨b, h1, fun W' H' R l' => h2 W' H' R (l.trans l')⟩
  | ex e => exact fun cls d W' H' R l' x => h cls d W' H' R (l.trans l') x
theorem PostL.mono {o : Rs (List Vv) × Hh} {Q : List V → Hp → Prop} (h : PostL K T W0 H0 W σ δ o Q E) (l : W.Le W1) : PostL K T W0 H0 W1 σ δ o Q E := by
  obtain ⟨r, h'⟩ := o
  cases r with
  | ok x => exact fun v W' H' R l' r => h v W' H' R (l.trans l') r
  | ex e => exact fun cls d W' H' R l' x => h cls d W' H' R (l.trans l') x
end
def SndE (Γ : Gam) (F : Fns) (N : List Str) (k : Nat) (T : List (Addr × Str)) (sc : Scope) (e : Expr) (c : C) : Prop :=
  ∀ X, Ok Γ F N k T X → X.env.scope = sc → ∀ Wx : WX, Takes X Wx → ∀ W0 H0 W H σ δ h o, Rel X.K T W0 H0 W H σ δ h → evalE F c δ h = some o →
    ∀ Q : VK, PostE X.K T W0 H0 W σ δ o Q (fun cls d H' => Wx cls d σ H') → wE X e σ H Q
def SndT (Γ : Gam) (F : Fns) (N : List Str) (k : Nat) (T : List (Addr × Str)) (sc : Scope) (e : Expr) (c : C) : Prop :=
  ∀ X, Ok Γ F N k T X → X.env.scope = sc → ∀ Wx : WX, Takes X Wx → ∀ W0 H0 W H σ δ h o, Rel X.K T W0 H0 W H σ δ h → evalE F c δ h = some o →
    ∀ Q : Bool → Hp → Prop, PostT X.K T W0 H0 W σ δ o Q (fun cls d H' => Wx cls d σ H') → wT X e σ H Q
def SndW (Γ : Gam) (F : Fns) (N : List Str) (k : Nat) (T : List (Addr × Str)) (sc : Scope) (e : Expr) (c : C) : Prop :=
  ∀ X, Ok Γ F N k T X → X.env.scope = sc → ∀ Wx : WX, Takes X Wx → ∀ W0 H0 W H σ δ h o, Rel X.K T W0 H0 W H σ δ h → evalE F c δ h = some o →
    ∀ Q : Bool → Hp → Prop, PostT X.K T W0 H0 W σ δ o Q (fun cls d H' => Wx cls d σ H') → wW X e σ H Q
def SndL (Γ : Gam) (F : Fns) (N : List Str) (k : Nat) (T : List (Addr × Str)) (sc : Scope) (es : List Expr) (cs : Cs) : Prop :=
  ∀ X, Ok Γ F N k T X → X.env.scope = sc → ∀ Wx : WX, Takes X Wx → ∀ W0 H0 W H σ δ h o, Rel X.K T W0 H0 W H σ δ h → evalL F cs δ h = some o →
    ∀ Q : List V → Hp → Prop, PostL X.K T W0 H0 W σ δ o Q (fun cls d H' => Wx cls d σ H') →
      wA X es σ H Q ∧ (∀ kws : List Keyword, kws.map (fun k => k.value) = es → wK X kws σ H Q) ∧ wL X es σ H Q
theorem bnd_some {α β : Type} {m : Ev α} {f : α → Hh → Ev β} {o : Rs β × Hh} (h : bnd m f = some o) : (∃ x h1, m = some (.ok x, h1) ∧ f x h1 = some o) ∨ ∃ e h1, m = some (.ex e, h1) ∧ o = (.ex e, h1) := by
  unfold bnd at h
  split at h
  · rename_i x h1
    exact .inl ⟨x, h1, rfl, h⟩
  · rename_i e h1
    cases h
    exact .inr ⟨e, h1, rfl, rfl⟩
  · cases h
theorem giv_some {z : Option PyData} {h : Hh} {o : Rs Vv × Hh} (e : giv z h = some o) : ∃ d, z = some d ∧ o = (.ok (.d d), h) := by
  unfold giv at e
  split at e
  · rename_i d
    cases e
    exact ⟨d, rfl, rfl⟩
  · cases e
theorem some_pair {α β : Type} {a a' : α} {b b' : β} (h : some (a, b) = some (a', b')) : a = a' ∧ b = b' := by
  cases h
  exact ⟨rfl, rfl⟩
section
variable {Γ : Gam} {F : Fns} {N : List Str} {k : Nat} {T : List (Addr × Str)} {sc : Scope}
section
variable {X : Cx} {Wx : WX} {W0 W : Wd} {H0 H : Hp} {σ : L2.St} {δ : Env_} {h : Hh}
/-- a part, then the rest -/
theorem bnd_E {a : Expr} {ca : C} (ha : SndE Γ F N k T sc a ca) (ok : Ok Γ F N k T X) (hs : X.env.scope = sc) (tk : Takes X Wx) (R : Rel X.K T W0 H0 W H σ δ h) {β : Type} {f : Vv → Hh → Ev β} {o : Rs β × Hh} (ev : bnd (evalE F ca δ h) f = some o)
    (px : PostX X.K T W0 H0 W σ δ o fun cls d H' => Wx cls d σ H') {Q : VK} (q : ∀ x h1, evalE F ca δ h = some (.ok x, h1) → f x h1 = some o → ∀ v W1 H1, Rel X.K T W0 H0 W1 H1 σ δ h1 → W.Le W1 → Rv X.K W1 x v → Q v H1) : wE X a σ H Q := by
  rcases bnd_some ev with ⟨x, h1, e1, e2⟩ | ⟨e, h1, e1, rfl⟩
  · exact ha X ok hs Wx tk W0 H0 W H σ δ h _ R e1 Q fun v W1 H1 R1 l1 r1 => q x h1 e1 e2 v W1 H1 R1 l1 r1
  · exact ha X ok hs Wx tk W0 H0 W H σ δ h _ R e1 Q px
theorem bnd_T {a : Expr} {ca : C} (ha : SndT Γ F N k T sc a ca) (ok : Ok Γ F N k T X) (hs : X.env.scope = sc) (tk : Takes X Wx) (R : Rel X.K T W0 H0 W H σ δ h) {β : Type} {f : Vv → Hh → Ev β} {o : Rs β × Hh} (ev : bnd (evalE F ca δ h) f = some o)
    (px : PostX X.K T W0 H0 W σ δ o fun cls d H' => Wx cls d σ H') {Q : Bool → Hp → Prop} (q : ∀ x h1, f x h1 = some o → ∃ b, (datV x).bind truthD = some b ∧ ∀ W1 H1, Rel X.K T W0 H0 W1 H1 σ δ h1 → W.Le W1 → Q b H1) : wT X a σ H Q := by
  rcases bnd_some ev with ⟨x, h1, e1, e2⟩ | ⟨e, h1, e1, rfl⟩
  · exact ha X ok hs Wx tk W0 H0 W H σ δ h _ R e1 Q (q x h1 e2)
  · exact ha X ok hs Wx tk W0 H0 W H σ δ h _ R e1 Q px
theorem ok_units (ok : Ok Γ F N k T X) : X.A.units + 65 < cLine := by
  have := ok.room.un
  omega
theorem gl_of {x : Str} (hs : X.env.scope = sc) (h : Pl sc x) : Gl X x := by
  show X.env.scope.names.lookup x = _
  rw [hs]
  exact h
end
theorem snd_cst {e : Expr} {d : PyData} {v : V} (h : ∀ X, PE X e (tC v)) (hd : ∀ K B, Dv K B v d) : SndE Γ F N k T sc e (.cst d) := by
  intro X ok hs Wx tk W0 H0 W H σ δ hh o R ev Q q
  cases ev
  exact w_pe (h X) (q v W H R (Wd.Le.refl _) (hd _ _))
theorem snd_var {x : Str} {pos : Pos} {i : Nat} (h : N[i]? = some x) (hv : Vis sc x) (h1 : (x == ("__debug__" : Str)) = false) (h2 : (x == ("__classdict__" : Str)) = false) : SndE Γ F N k T sc (.Name x pos) (.var i) := by
  intro X ok hs Wx tk W0 H0 W H σ δ hh o R ev Q q
  simp only [evalE] at ev
  split at ev
  · rename_i d0 e0
    cases ev
    obtain ⟨v, s1, s2⟩ := R.sl i _ e0
    exact w_pe (pe_var (by rw [ok.hN]; exact h) (by rw [hs]; exact hv) h1 h2) ⟨v, s1, q v W H R (Wd.Le.refl _) s2⟩
  · cases ev
theorem snd_glb {x : Str} {pos : Pos} {d : PyData} {i : Nat} (h : Pl sc x) (hm : Γ.gs[i]? = some (x, d)) (h1 : (x == ("__debug__" : Str)) = false) : SndE Γ F N k T sc (.Name x pos) (.glb d) := by
  intro X ok hs Wx tk W0 H0 W H σ δ hh o R ev Q q
  cases ev
  obtain ⟨v, u, g1, g2, g3⟩ := ok.gl i x _ hm
  exact w_pe (pe_glob (gl_of hs h) g1 g2 h1) (q v W H R (Wd.Le.refl _) (g3 _))
theorem boolT_dv {K : PySem.W.Frag} {W : Wd} {x : Vv} {b : Bool} {v : V} (e : boolT x = some b) (r : Rv K W x v) : v = .bl b := by
  unfold boolT at e
  split at e
  · cases e
    cases r
    rfl
  · cases e
theorem boolT_truth {x : Vv} {b : Bool} (e : boolT x = some b) : (datV x).bind truthD = some b := by
  unfold boolT at e
  split at e
  · cases e
    rfl
  · cases e
theorem snd_and {a b : Expr} {rest : List Expr} {pos : Pos} {ca cb : C} (ha : SndE Γ F N k T sc a ca) (hb : SndE Γ F N k T sc (.BoolOp .And (b :: rest) pos) cb) : SndE Γ F N k T sc (.BoolOp .And (a :: b :: rest) pos) (.and_ ca cb) := by
  intro X ok hs Wx tk W0 H0 W H σ δ hh o R ev Q q
  simp only [evalE] at ev
  refine w_pe (pe_and pe_w pe_w) ?_
  refine bnd_E ha ok hs tk R ev q.x fun x h1 _ ev v W1 H1 R1 l1 r1 => ?_
  split at ev
  · rename_i e1
    exact ⟨true, boolT_dv e1 r1, iteT (hb X ok hs Wx tk _ _ _ _ _ _ _ _ R1 ev _ (q.mono l1))⟩
  · rename_i e1
    cases ev
    exact ⟨false, boolT_dv e1 r1, iteF (q _ W1 H1 R1 l1 (.bl _))⟩
  · cases ev
theorem snd_or {a b : Expr} {rest : List Expr} {pos : Pos} {ca cb : C} (ha : SndE Γ F N k T sc a ca) (hb : SndE Γ F N k T sc (.BoolOp .Or (b :: rest) pos) cb) : SndE Γ F N k T sc (.BoolOp .Or (a :: b :: rest) pos) (.or_ ca cb) := by
  intro X ok hs Wx tk W0 H0 W H σ δ hh o R ev Q q
  simp only [evalE] at ev
  refine w_pe (pe_or pe_w pe_w) ?_
  refine bnd_E ha ok hs tk R ev q.x fun x h1 _ ev v W1 H1 R1 l1 r1 => ?_
  split at ev
  · rename_i e1
    cases ev
    exact ⟨true, boolT_dv e1 r1, iteT (q _ W1 H1 R1 l1 (.bl _))⟩
  · rename_i e1
    exact ⟨false, boolT_dv e1 r1, iteF (hb X ok hs Wx tk _ _ _ _ _ _ _ _ R1 ev _ (q.mono l1))⟩
  · cases ev
theorem snd_not {a : Expr} {pos : Pos} {ca : C} (ha : SndE Γ F N k T sc a ca) : SndE Γ F N k T sc (.UnaryOp .Not a pos) (.not_ ca) := by
  intro X ok hs Wx tk W0 H0 W H σ δ hh o R ev Q q
  simp only [evalE] at ev
  refine w_pe (pe_not pe_w) ?_
  refine bnd_E ha ok hs tk R ev q.x fun x h1 _ ev v W1 H1 R1 l1 r1 => ?_
  split at ev
  · rename_i b e1
    cases ev
    exact ⟨_, boolT_dv e1 r1, q _ W1 H1 R1 l1 (.bl _)⟩
  · cases ev
theorem snd_one {op : BoolOp} {a : Expr} {pos : Pos} {ca : C} (ha : SndE Γ F N k T sc a ca) : SndE Γ F N k T sc (.BoolOp op [a] pos) ca := by
  intro X ok hs Wx tk W0 H0 W H σ δ hh o R ev Q q
  exact w_pe (pe_one pe_w) (ha X ok hs Wx tk _ _ _ _ _ _ _ _ R ev Q q)
theorem snd_ite {t a b : Expr} {pos : Pos} {ct ca cb : C} (ht : SndT Γ F N k T sc t ct) (ha : SndE Γ F N k T sc a ca) (hb : SndE Γ F N k T sc b cb) : SndE Γ F N k T sc (.IfExp t a b pos) (.ite ct ca cb) := by
  intro X ok hs Wx tk W0 H0 W H σ δ hh o R ev Q q
  simp only [evalE] at ev
  refine w_pe (pe_ifExp pt_w pe_w pe_w) ?_
  refine bnd_T ht ok hs tk R ev q.x fun x h1 ev => ?_
  split at ev
  · rename_i t1
    exact ⟨true, t1, fun W1 H1 R1 l1 => iteT (ha X ok hs Wx tk _ _ _ _ _ _ _ _ R1 ev _ (q.mono l1))⟩
  · rename_i t1
    exact ⟨false, t1, fun W1 H1 R1 l1 => iteF (hb X ok hs Wx tk _ _ _ _ _ _ _ _ R1 ev _ (q.mono l1))⟩
  · cases ev
theorem snd_neg {a : Expr} {pos : Pos} {ca : C} (ha : SndE Γ F N k T sc a ca) : SndE Γ F N k T sc (.UnaryOp .USub a pos) (.neg ca) := by
  intro X ok hs Wx tk W0 H0 W H σ δ hh o R ev Q q
  simp only [evalE] at ev
  refine w_pe (pe_un un_neg pe_w) ?_
  refine bnd_E ha ok hs tk R ev q.x fun x h1 _ ev v W1 H1 R1 l1 r1 => ?_
  split at ev
  · rename_i i
    cases ev
    cases r1
    exact ⟨_, rfl, q _ W1 H1 R1 l1 (.int _)⟩
  · cases ev
theorem snd_val {e : Expr} {c : C} (h : SndE Γ F N k T sc e c) (he : ∀ env whole, isTrue e env whole = (do let v ← whole; standAt e.pos; holding [v] (truthy v))) : SndT Γ F N k T sc e c := by
  intro X ok hs Wx tk W0 H0 W H σ δ hh o R ev Q q
  refine w_pt (pt_truth pe_w (he X.env)) ?_
  refine h X ok hs Wx tk _ _ _ _ _ _ _ _ R ev _ ?_
  obtain ⟨r, h'⟩ := o
  cases r with
  | ex e => exact q
  | ok x =>
    obtain ⟨b, e1, q⟩ := q
    intro v W1 H1 R1 l1 r1
    cases x with
    | r n => cases e1
    | d z => exact ⟨b, tru_dv R1.ext r1 e1, q W1 H1 R1 l1⟩
theorem snd_notT {a : Expr} {pos : Pos} {ca : C} (ha : SndT Γ F N k T sc a ca) : SndT Γ F N k T sc (.UnaryOp .Not a pos) (.not_ ca) := by
  intro X ok hs Wx tk W0 H0 W H σ δ hh o R ev Q q
  simp only [evalE] at ev
  refine w_pt (pt_not pt_w) ?_
  refine bnd_T ha ok hs tk R ev q.x fun x h1 ev => ?_
  split at ev
  · rename_i b e1
    cases ev
    obtain ⟨b', e2, q⟩ := q
    cases e2
    exact ⟨b, boolT_truth e1, q⟩
  · cases ev
theorem snd_boolT {e : Expr} {c : C} (h : SndW Γ F N k T sc e c) : SndT Γ F N k T sc e c := by
  intro X ok hs Wx tk W0 H0 W H σ δ hh o R ev Q q
  exact w_pt pw_w.pt (h X ok hs Wx tk _ _ _ _ _ _ _ _ R ev Q q)
theorem snd_oneW {op : BoolOp} {a : Expr} {pos : Pos} {ca : C} (ha : SndT Γ F N k T sc a ca) : SndW Γ F N k T sc (.BoolOp op [a] pos) ca := by
  intro X ok hs Wx tk W0 H0 W H σ δ hh o R ev Q q
  cases op
  · exact w_pw (pw_and1 pt_w) (ha X ok hs Wx tk _ _ _ _ _ _ _ _ R ev Q q)
  · exact w_pw (pw_or1 pt_w) (ha X ok hs Wx tk _ _ _ _ _ _ _ _ R ev Q q)
theorem snd_andW {a b : Expr} {rest : List Expr} {pos : Pos} {ca cb : C} (ha : SndT Γ F N k T sc a ca) (hb : SndW Γ F N k T sc (.BoolOp .And (b :: rest) pos) cb) : SndW Γ F N k T sc (.BoolOp .And (a :: b :: rest) pos) (.and_ ca cb) := by
  intro X ok hs Wx tk W0 H0 W H σ δ hh o R ev Q q
  simp only [evalE] at ev
  refine w_pw (pw_and pt_w pw_w) ?_
  refine bnd_T ha ok hs tk R ev q.x fun x h1 ev => ?_
  split at ev
  · rename_i e1
    exact ⟨true, boolT_truth e1, fun W1 H1 R1 l1 => iteT (hb X ok hs Wx tk _ _ _ _ _ _ _ _ R1 ev _ (q.mono l1))⟩
  · rename_i e1
    cases ev
    obtain ⟨b', e2, q⟩ := q
    cases e2
    exact ⟨false, boolT_truth e1, fun W1 H1 R1 l1 => iteF (q W1 H1 R1 l1)⟩
  · cases ev
theorem snd_orW {a b : Expr} {rest : List Expr} {pos : Pos} {ca cb : C} (ha : SndT Γ F N k T sc a ca) (hb : SndW Γ F N k T sc (.BoolOp .Or (b :: rest) pos) cb) : SndW Γ F N k T sc (.BoolOp .Or (a :: b :: rest) pos) (.or_ ca cb) := by
  intro X ok hs Wx tk W0 H0 W H σ δ hh o R ev Q q
  simp only [evalE] at ev
  refine w_pw (pw_or pt_w pw_w) ?_
  refine bnd_T ha ok hs tk R ev q.x fun x h1 ev => ?_
  split at ev
  · rename_i e1
    cases ev
    obtain ⟨b', e2, q⟩ := q
    cases e2
    exact ⟨true, boolT_truth e1, fun W1 H1 R1 l1 => iteT (q W1 H1 R1 l1)⟩
  · rename_i e1
    exact ⟨false, boolT_truth e1, fun W1 H1 R1 l1 => iteF (hb X ok hs Wx tk _ _ _ _ _ _ _ _ R1 ev _ (q.mono l1))⟩
  · cases ev
end
end Nv


set_option Elab.async false
set_option linter.all false
set_option maxRecDepth 100000
set_option maxHeartbeats 8000000
/-! Operators, comparisons, displays. -/
namespace Nv
open PySem PySem.Spec PyProof.Rows L2
/-- an operation whose answer is plain data, or a new object -/
def OpOk2 (K : PySem.W.Frag) (r : R2) (x y z : PyData) : Prop := ∀ (B H : Hp) (v w : V), Same B H → Dv K B v x → Dv K B w y → ∀ Q : VK, (∀ u, Dv K B u z → Q u H) →
  (∀ q o, H q = none → (∀ ps, o ≠ .tbl ps) → (∀ B', Same B B' → B' q = some o → Dv K B' (.ref q) z) → Q (.ref q) (upd H q o)) → r v w H Q
theorem OpOk.two {K : PySem.W.Frag} {r : R2} {x y z : PyData} (h : OpOk K r x y z) : OpOk2 K r x y z := fun B H v w e d1 d2 Q q _ => h B H v w e d1 d2 Q q
theorem lst_dv {K : PySem.W.Frag} {B : Hp} {v : V} {ds : List PyData} (h : Dv K B v (.list ds)) : ∃ a xs, v = .ref a ∧ B a = some (.lst xs) ∧ DvL K B xs ds := by
  cases h with
  | lst h r => exact ⟨_, _, rfl, h, r⟩
theorem flat_dvl {K : PySem.W.Frag} {B : Hp} {vs : List V} {ds : List PyData} (r : DvL K B vs ds) : ∀ n : Nat, DvL K B (List.replicate n vs).flatten (List.replicate n ds).flatten
  | 0 => .nil
  | n + 1 => by
    rw [List.replicate_succ, List.replicate_succ, List.flatten_cons, List.flatten_cons]
    exact r.append (flat_dvl r n)
theorem dvl_nil {K : PySem.W.Frag} {B : Hp} {vs : List V} {ds : List PyData} (r : DvL K B vs ds) : vs = [] ↔ ds = [] := by
  cases r <;> simp
theorem binN_ok {X : Cx} {op : Operator} {x y z : PyData} (h : binN op x y = some z) : ∃ r, OpR X (binaryOp op) r ∧ OpOk2 X.K r x y z := by
  unfold binN at h
  split at h
  · obtain ⟨hz, rfl⟩ := ite_some h
    refine ⟨_, op_cat, fun B H v w e d1 d2 Q q q2 => ?_⟩
    obtain ⟨a, vs, rfl, ha, r1⟩ := lst_dv d1
    obtain ⟨b, ws, rfl, hb, r2⟩ := lst_dv d2
    exact ⟨a, b, vs, ws, rfl, rfl, e _ _ ha, e _ _ hb, by rw [r1.length, r2.length]; exact small_line hz, fun p hp => q2 p _ hp (fun _ z => by cases z) fun B' s hq => .lst hq ((r1.append r2).mono s)⟩
  · obtain ⟨hz, rfl⟩ := ite_some h
    refine ⟨_, op_catA, fun B H v w e d1 d2 Q q q2 => ?_⟩
    obtain ⟨a, vs, rfl, ha, r1⟩ := tup_dv d1
    obtain ⟨b, ws, rfl, hb, r2⟩ := tup_dv d2
    refine ⟨a, b, vs, ws, rfl, rfl, same_t e ha, same_t e hb, by rw [r1.length, r2.length]; exact small_line hz, fun n => ?_, fun _ n => ?_, fun _ _ p hp => q2 p _ hp (fun _ z => by cases z) fun B' s hq => .tup (.of hq) ((r1.append r2).mono s)⟩
    · have e1 := (dvl_nil r1).mp n
      subst e1
      exact q _ d2
    · have e1 := (dvl_nil r2).mp n
      subst e1
      rw [List.append_nil] at q
      exact q _ d1
  · obtain ⟨hz, rfl⟩ := ite_some h
    obtain ⟨z1, z2, z3⟩ := hz
    refine ⟨_, op_rep, fun B H v w e d1 d2 Q q q2 => ?_⟩
    obtain ⟨a, vs, rfl, ha, r1⟩ := lst_dv d1
    cases d2
    exact ⟨a, _, vs, rfl, rfl, e _ _ ha, by omega, by omega, by rw [r1.length]; exact small_line z3, fun p hp => q2 p _ hp (fun _ z => by cases z) fun B' s hq => .lst hq ((flat_dvl r1 _).mono s)⟩
  · rename_i i j
    obtain ⟨hz, rfl⟩ := ite_some h
    rcases hz with hz | hz
    · obtain ⟨r, h1, h2⟩ := bin_ok (X := X) (op := .Mult) (x := .int i) (y := .int j) (z := .int (i * j)) (by unfold binD; exact if_pos hz)
      exact ⟨r, h1, h2.two⟩
    · exact ⟨_, op_mulW, (opok_I hz fun B => .int _).two⟩
  · obtain ⟨hz, rfl⟩ := ite_some h
    exact ⟨_, op_fdivW, (opok_I hz fun B => .int _).two⟩
  · obtain ⟨r, h1, h2⟩ := bin_ok (X := X) h
    exact ⟨r, h1, h2.two⟩
theorem notin_ok {X : Cx} (hu : X.A.units + 65 < cLine) {x y : PyData} {b : Bool} (h : cmpD .In x y = some b) : ∃ r, OpR X (compareOp .NotIn) r ∧ OpOk X.K r x y (.bool (!b)) := by
  unfold cmpD at h
  split at h
  · cases ‹CmpOp.In = CmpOp.Is›
  · cases ‹CmpOp.In = CmpOp.IsNot›
  · cases ‹CmpOp.In = CmpOp.Lt›
  · cases ‹CmpOp.In = CmpOp.LtE›
  · cases ‹CmpOp.In = CmpOp.Gt›
  · cases ‹CmpOp.In = CmpOp.GtE›
  · cases ‹CmpOp.In = CmpOp.Eq›
  · cases ‹CmpOp.In = CmpOp.NotEq›
  · cases ‹CmpOp.In = CmpOp.Eq›
  · cases ‹CmpOp.In = CmpOp.NotEq›
  · cases h
    exact ⟨_, op_notIn_str, fun B H v w e d1 d2 Q q => by cases d1; cases d2; exact ⟨_, _, rfl, rfl, q _ (.bl _)⟩⟩
  · rename_i d ds _
    split at h
    · rename_i hc
      rw [Bool.and_eq_true] at hc
      cases h
      refine ⟨_, op_notIn_seq, fun B H v w e d1 d2 Q q => ?_⟩
      cases d2 with
      | lst hs r =>
        refine ⟨_, _, rfl, .inl (.of (e _ _ hs)), flat_dv d1 hc.1, flat_dvs r hc.2, q _ ?_⟩
        rw [if_pos rfl, in_dv d1 hc.1 r hc.2]
        exact .bl _
    · obtain ⟨hc, rfl⟩ := ite_some h
      rw [Bool.and_eq_true] at hc
      exact ⟨_, op_notInD hu, fun B H v w e d1 d2 Q q => ⟨_, _, d1.dp e (nodict_shaped hc.1), d2.dp e (nodict_shaped hc.2), hc.1, hc.2, q _ (.bl _)⟩⟩
  · rename_i d ds _
    obtain ⟨hc, rfl⟩ := ite_some h
    rw [Bool.and_eq_true] at hc
    refine ⟨_, op_notIn_seq, fun B H v w e d1 d2 Q q => ?_⟩
    cases d2 with
    | tup hs r =>
      refine ⟨_, _, rfl, .inr (same_t e hs), flat_dv d1 hc.1, flat_dvs r hc.2, q _ ?_⟩
      rw [if_pos rfl, in_dv d1 hc.1 r hc.2]
      exact .bl _
  · cases h
theorem cmpN_ok {X : Cx} (hu : X.A.units + 65 < cLine) {op : CmpOp} {x y : PyData} {b : Bool} (h : cmpN op x y = some b) : ∃ r, OpR X (compareOp op) r ∧ OpOk X.K r x y (.bool b) := by
  unfold cmpN at h
  split at h
  · cases h
    refine ⟨_, op_isBl, fun B H v w e d1 d2 Q q => ?_⟩
    cases d1; cases d2
    rename_i a c
    refine ⟨_, _, rfl, rfl, q _ ?_⟩
    have z : decide (a = c) = (a == c) := by cases a <;> cases c <;> rfl
    rw [z]
    exact .bl _
  · cases h
    refine ⟨_, op_notBl, fun B H v w e d1 d2 Q q => ?_⟩
    cases d1; cases d2
    rename_i a c
    refine ⟨_, _, rfl, rfl, q _ ?_⟩
    have z : decide (a = c) = (a == c) := by cases a <;> cases c <;> rfl
    rw [z]
    exact .bl _
  · obtain ⟨b', h1, rfl⟩ := Option.map_eq_some_iff.mp h
    exact notin_ok hu h1
  · exact cmp_ok hu h
section
variable {Γ : Gam} {F : Fns} {N : List Str} {k : Nat} {T : List (Addr × Str)} {sc : Scope}
/-- new data, behind an expression -/
theorem new_data {K : PySem.W.Frag} {W0 W W1 : Wd} {H0 H1 : Hp} {σ : L2.St} {δ : Env_} {h1 : Hh} {Q : VK} {E : XK} {z : PyData} (q : PostE K T W0 H0 W σ δ (.ok (.d z), h1) Q E) (R1 : Rel K T W0 H0 W1 H1 σ δ h1) (l : W.Le W1) {p : Addr} {o : HO} (hp : H1 p = none) (hn : ∀ ps, o ≠ .tbl ps)
    (hd : ∀ B', Same W1.B B' → B' p = some o → Dv K B' (.ref p) z) : Q (.ref p) (upd H1 p o) := by
  obtain ⟨R2, l2⟩ := R1.alloc (o := o) hp hn
  exact q (.ref p) _ _ R2 (l.trans l2) (hd _ l2.b upd_same)
/-- an operation by whichever of its rules -/
theorem opr_any {X : Cx} {f : Value → Value → Sem Value} : OpR X f fun x y H Q => ∃ r, OpR X f r ∧ r x y H Q := fun pins s σ H x y v u Q I rx ry ⟨r, h1, h2⟩ => h1 pins s σ H x y v u Q I rx ry h2
theorem snd_bin {op : Operator} {a b : Expr} {pos : Pos} {ca cb : C} (ha : SndE Γ F N k T sc a ca) (hb : SndE Γ F N k T sc b cb) : SndE Γ F N k T sc (.BinOp a op b pos) (.bin op ca cb) := by
  intro X ok hs Wx tk W0 H0 W H σ δ hh o R ev Q q
  simp only [evalE] at ev
  refine w_pe (pe_op opr_any pe_w pe_w) ?_
  refine bnd_E ha ok hs tk R ev q.x fun x h1 _ ev v W1 H1 R1 l1 r1 => ?_
  refine bnd_E hb ok hs tk R1 ev (q.x.mono l1) fun y h2 _ ev w W2 H2 R2 l2 r2 => ?_
  obtain ⟨x, y, rfl, rfl, ew⟩ := dd2_some ev
  replace ev := ew
  · obtain ⟨z, ez, rfl⟩ := giv_some ev
    obtain ⟨r, hr, hk⟩ := binN_ok (X := X) ez
    have r1 : Dv X.K W1.B v x := r1
    exact ⟨r, hr, hk W2.B H2 v w R2.ext (r1.mono l2.b) r2 Q (fun u du => q u W2 H2 R2 (l1.trans l2) du) fun p o hp hn hd => new_data q R2 (l1.trans l2) hp hn hd⟩
theorem snd_cmp {op : CmpOp} {a b : Expr} {pos : Pos} {ca cb : C} (ha : SndE Γ F N k T sc a ca) (hb : SndE Γ F N k T sc b cb) (hm : behindInMarks op b = false) : SndE Γ F N k T sc (.Compare a [op] [b] pos) (.cmp op ca cb) := by
  intro X ok hs Wx tk W0 H0 W H σ δ hh o R ev Q q
  simp only [evalE] at ev
  refine w_pe (pe_cmpR opr_any pe_w pe_w hm) ?_
  refine bnd_E ha ok hs tk R ev q.x fun x h1 _ ev v W1 H1 R1 l1 r1 => ?_
  refine bnd_E hb ok hs tk R1 ev (q.x.mono l1) fun y h2 _ ev w W2 H2 R2 l2 r2 => ?_
  obtain ⟨x, y, rfl, rfl, ew⟩ := dd2_some ev
  replace ev := ew
  · obtain ⟨z, ez, rfl⟩ := giv_some ev
    obtain ⟨b, e1, rfl⟩ := Option.map_eq_some_iff.mp ez
    obtain ⟨r, hr, hk⟩ := cmpN_ok (ok_units ok) e1
    have r1 : Dv X.K W1.B v x := r1
    exact ⟨r, hr, hk W2.B H2 v w R2.ext (r1.mono l2.b) r2 Q fun u du => q u W2 H2 R2 (l1.trans l2) du⟩
theorem snd_cmpT {op : CmpOp} {a b : Expr} {pos : Pos} {ca cb : C} (ha : SndE Γ F N k T sc a ca) (hb : SndE Γ F N k T sc b cb) (hm : behindInMarks op b = false) : SndT Γ F N k T sc (.Compare a [op] [b] pos) (.cmp op ca cb) := by
  intro X ok hs Wx tk W0 H0 W H σ δ hh o R ev Q q
  simp only [evalE] at ev
  refine w_pt (pt_cmpR opr_any pe_w pe_w hm) ?_
  refine bnd_E ha ok hs tk R ev q.x fun x h1 _ ev v W1 H1 R1 l1 r1 => ?_
  refine bnd_E hb ok hs tk R1 ev (q.x.mono l1) fun y h2 _ ev w W2 H2 R2 l2 r2 => ?_
  obtain ⟨x, y, rfl, rfl, ew⟩ := dd2_some ev
  replace ev := ew
  · obtain ⟨z, ez, rfl⟩ := giv_some ev
    obtain ⟨b, e1, rfl⟩ := Option.map_eq_some_iff.mp ez
    obtain ⟨r, hr, hk⟩ := cmpN_ok (ok_units ok) e1
    have r1 : Dv X.K W1.B v x := r1
    obtain ⟨b', e2, q⟩ := q
    cases e2
    refine ⟨r, hr, hk W2.B H2 v w R2.ext (r1.mono l2.b) r2 _ fun u du => ?_⟩
    cases du
    exact ⟨_, rfl, q W2 H2 R2 (l1.trans l2)⟩
/-- a chain, for whatever stands behind -/
theorem chain_core {X : Cx} (ok : Ok Γ F N k T X) (hs : X.env.scope = sc) {Wx : WX} (tk : Takes X Wx) {o1 o2 : CmpOp} {a b c : Expr} {ca cb cc : C} (ha : SndE Γ F N k T sc a ca) (hb : SndE Γ F N k T sc b cb) (hc : SndE Γ F N k T sc c cc)
    {W0 W : Wd} {H0 H : Hp} {σ : L2.St} {δ : Env_} {h : Hh} {o : Rs Vv × Hh} (R : Rel X.K T W0 H0 W H σ δ h) (ev : evalE F (.chain o1 o2 ca cb cc) δ h = some o) {Q : VK} (px : PostX X.K T W0 H0 W σ δ o fun cls d H' => Wx cls d σ H')
    (q : ∀ t h', o = (.ok (.d (.bool t)), h') → ∀ W' H', Rel X.K T W0 H0 W' H' σ δ h' → W.Le W' → Q (.bl t) H') :
    tChain (fun x y H Q => ∃ r, OpR X (compareOp o1) r ∧ r x y H Q) (fun x y H Q => ∃ r, OpR X (compareOp o2) r ∧ r x y H Q) (wE X a) (wE X b) (wE X c) σ H Q := by
  simp only [evalE] at ev
  refine bnd_E ha ok hs tk R ev px fun x h1 _ ev v W1 H1 R1 l1 r1 => ?_
  refine bnd_E hb ok hs tk R1 ev (px.mono l1) fun y h2 _ ev w W2 H2 R2 l2 r2 => ?_
  obtain ⟨x, y, rfl, rfl, ew⟩ := dd2_some ev
  replace ev := ew
  · have r1 : Dv X.K W1.B v x := r1
    have r2 : Dv X.K W2.B w y := r2
    split at ev
    · rename_i e1
      obtain ⟨r, hr, hk⟩ := cmpN_ok (X := X) (ok_units ok) e1
      refine ⟨r, hr, hk W2.B H2 v w R2.ext (r1.mono l2.b) r2 _ fun u du => ?_⟩
      cases du
      refine ⟨true, rfl, iteT ?_⟩
      refine bnd_E hc ok hs tk R2 ev (px.mono (l1.trans l2)) fun z h3 _ ev u W3 H3 R3 l3 r3 => ?_
      obtain ⟨z, rfl, ew⟩ := dd1_some ev
      replace ev := ew
      · have r3 : Dv X.K W3.B u z := r3
        obtain ⟨zz, ez, rfl⟩ := giv_some ev
        obtain ⟨b, e2, rfl⟩ := Option.map_eq_some_iff.mp ez
        obtain ⟨r', hr', hk'⟩ := cmpN_ok (X := X) (ok_units ok) e2
        refine ⟨r', hr', hk' W3.B H3 w u R3.ext (r2.mono l3.b) r3 _ fun u' du => ?_⟩
        cases du
        exact q b _ rfl W3 H3 R3 ((l1.trans l2).trans l3)
    · rename_i e1
      cases ev
      obtain ⟨r, hr, hk⟩ := cmpN_ok (X := X) (ok_units ok) e1
      refine ⟨r, hr, hk W2.B H2 v w R2.ext (r1.mono l2.b) r2 _ fun u du => ?_⟩
      cases du
      exact ⟨false, rfl, iteF (q false _ rfl W2 H2 R2 (l1.trans l2))⟩
    · cases ev
theorem snd_chain {o1 o2 : CmpOp} {a b c : Expr} {pos : Pos} {ca cb cc : C} (ha : SndE Γ F N k T sc a ca) (hb : SndE Γ F N k T sc b cb) (hc : SndE Γ F N k T sc c cc) (hm : lastMarks [o1, o2] [b, c] = false) : SndE Γ F N k T sc (.Compare a [o1, o2] [b, c] pos) (.chain o1 o2 ca cb cc) := by
  intro X ok hs Wx tk W0 H0 W H σ δ hh o R ev Q q
  refine w_pe (pe_chain opr_any opr_any pe_w pe_w pe_w hm) (chain_core ok hs tk ha hb hc R ev q.x fun t h' e W' H' R' l => ?_)
  subst e
  exact q _ W' H' R' l (.bl _)
theorem snd_chainT {o1 o2 : CmpOp} {a b c : Expr} {pos : Pos} {ca cb cc : C} (ha : SndE Γ F N k T sc a ca) (hb : SndE Γ F N k T sc b cb) (hc : SndE Γ F N k T sc c cc) (hm : lastMarks [o1, o2] [b, c] = false) : SndT Γ F N k T sc (.Compare a [o1, o2] [b, c] pos) (.chain o1 o2 ca cb cc) := by
  intro X ok hs Wx tk W0 H0 W H σ δ hh o R ev Q q
  refine w_pt (pt_chain opr_any opr_any pe_w pe_w pe_w hm) (chain_core ok hs tk ha hb hc R ev q.x fun t h' e W' H' R' l => ?_)
  subst e
  obtain ⟨b', e2, q⟩ := q
  cases e2
  exact ⟨_, rfl, q W' H' R' l⟩
end
end Nv


set_option Elab.async false
set_option linter.all false
set_option maxRecDepth 100000
set_option maxHeartbeats 8000000
/-! Displays, built-ins, items, slices, cells. -/
namespace Nv
open PySem PySem.Spec PyProof.Rows L2
/-- a list beside an empty one -/
def rNil (K : PySem.W.Frag) (ne : Bool) : R2 := fun x y H Q => ∃ a b xs, x = .ref a ∧ y = .ref b ∧ SqL K H a xs ∧ SqL K H b [] ∧ Q (.bl (xs.isEmpty != ne)) H
theorem op_nil {X : Cx} (hu : X.A.units + 65 < cLine) (ne : Bool) : OpR X (compareOp (if ne then .NotEq else .Eq)) (rNil X.K ne) := by
  intro pins s σ H x y v u Q I rx ry h
  obtain ⟨a, b, xs, rfl, rfl, h1, h2, q⟩ := h
  obtain ⟨its, r1, p1, _⟩ := I.list h1
  obtain ⟨its2, r2, p2, _⟩ := I.list h2
  cases r2
  cases rx
  cases ry
  have hu' : X.A.units < cLine := by omega
  have fin : ∀ k, k = (xs.isEmpty != ne) → EP X pins σ Q (.bool k) s := fun k e => ⟨.bl k, H, I, rfl, by rw [e]; exact q⟩
  cases xs with
  | nil =>
    cases r1
    cases ne with
    | true => exact (SeqAt.RcNeAt.lists (e := fun _ => true) p1.isList p2.isList rfl hu' fun j h1 _ => absurd h1 (by simp)) _ _ _ _ (fin _ rfl)
    | false => exact (SeqAt.RcAt.lists (e := fun _ => true) p1.isList p2.isList rfl hu' fun j h1 _ => absurd h1 (by simp)) _ _ _ _ (fin _ rfl)
  | cons x xs =>
    have hz : (its.toArray.size != ([] : List Value).toArray.size) = true := by
      cases r1
      simp
    cases ne with
    | true => exact (SeqAt.RcNeAt.lists_lengths p1.isList p2.isList hz hu') _ _ _ _ (fin _ rfl)
    | false => exact (SeqAt.RcAt.lists_lengths p1.isList p2.isList hz hu') _ _ _ _ (fin _ rfl)
theorem cut_upto (xs : List V) {k : Int} (h : 0 ≤ k) : cutV xs none (some k) = xs.take k.toNat := by
  unfold cutV HT.sIx
  simp only [List.drop_zero, Nat.sub_zero]
  split
  · omega
  · by_cases e : k.toNat ≤ xs.length
    · first
      | (rw [Nat.min_eq_left e])
      | (rw [Nat.min_eq_right e])
    · first
      | (rw [Nat.min_eq_right (by omega), List.take_length, List.take_of_length_le (by omega)])
      | (rw [Nat.min_eq_left (by omega), List.take_length, List.take_of_length_le (by omega)])
theorem DvL.take {K : PySem.W.Frag} {B : Hp} : ∀ {vs : List V} {ds : List PyData} (n : Nat), DvL K B vs ds → DvL K B (vs.take n) (ds.take n)
  | _, _, 0, _ => .nil
  | _, _, n + 1, .nil => .nil
  | _, _, n + 1, .cons h r => .cons h (DvL.take n r)
theorem pln_lst {xs : List V} : Pln (.lst xs) := ⟨fun _ z => (by cases z), fun c q z => (by unfold LamX.CodeO at z; cases z)⟩
theorem pln_dK {xs : List (Key × V)} : Pln (.dK xs) := ⟨fun _ z => (by cases z), fun c q z => (by unfold LamX.CodeO at z; cases z)⟩
theorem pln_ins {C dx : Addr} {xs : List (Str × V)} : Pln (.ins C dx xs) := ⟨fun _ z => (by cases z), fun c q z => (by unfold LamX.CodeO at z; cases z)⟩
section
variable {K : PySem.W.Frag} {T : List (Addr × Str)} {W0 W : Wd} {H0 H : Hp} {σ : L2.St} {δ : Env_} {h : Hh}
/-- where a cell stands -/
theorem Rel.at_ (R : Rel K T W0 H0 W H σ δ h) {n : Nat} {o : Ob} {a : Addr} (e : h[n]? = some o) (ha : W.φ[n]? = some a) : CellR K W H a o := R.cell n o a e ha
theorem Rel.lst_ (R : Rel K T W0 H0 W H σ δ h) {n : Nat} {xs : List Vv} {v : V} (e : h[n]? = some (.lst xs)) (r : Rv K W (.r n) v) : ∃ a vs, v = .ref a ∧ W.φ[n]? = some a ∧ W.B a = none ∧ H a = some (.lst vs) ∧ RvL K W xs vs := by
  obtain ⟨a, ha, rfl⟩ := r
  obtain ⟨c1, vs, c2, c3⟩ := R.cell n _ a e ha
  exact ⟨a, vs, rfl, ha, c1, c2, c3⟩
/-- a list's cell is changed -/
theorem Rel.chgL (R : Rel K T W0 H0 W H σ δ h) {n : Nat} {a : Addr} {xs : List Vv} {vs : List V} (ha : W.φ[n]? = some a) (bn : W.B a = none) (r : RvL K W xs vs) : Rel K T W0 H0 W (upd H a (.lst vs)) σ δ (h.set n (.lst xs)) :=
  R.chg ha bn pln_lst ⟨bn, vs, upd_same, r⟩
end
section
variable {Γ : Gam} {F : Fns} {N : List Str} {k : Nat} {T : List (Addr × Str)} {sc : Scope}
theorem snd_nil (ne : Bool) {a : Expr} {p2 pos : Pos} {ca : C} (ha : SndE Γ F N k T sc a ca) : SndE Γ F N k T sc (.Compare a [if ne then .NotEq else .Eq] [.List [] p2] pos) (.neE ne ca) := by
  intro X ok hs Wx tk W0 H0 W H σ δ hh o R ev Q q
  simp only [evalE] at ev
  refine w_pe (pe_cmpR (op_nil (ok_units ok) ne) pe_w (pe_lst pa_nil) (by cases ne <;> rfl)) ?_
  refine bnd_E ha ok hs tk R ev q.x fun x h1 _ ev v W1 H1 R1 l1 r1 => ?_
  obtain ⟨z, ez, rfl⟩ := giv_some ev
  refine ⟨by show 0 ≤ sizeLine; decide, fun p hp => ?_⟩
  have sh : Same H1 (upd H1 p (.lst [])) := same_upd hp
  unfold neE at ez
  split at ez
  · rename_i ds _
    cases ez
    obtain ⟨b, vs, rfl, hb, r⟩ := lst_dv (show Dv X.K W1.B v _ from r1)
    refine ⟨b, p, vs, rfl, rfl, .of (sh _ _ (R1.ext _ _ hb)), .of upd_same, ?_⟩
    have e1 : vs.isEmpty = ds.isEmpty := by cases r <;> rfl
    rw [e1]
    exact q _ W1 _ (R1.heap sh) l1 (.bl _)
  · cases ez
  · split at ez
    · rename_i n xs e0
      cases ez
      obtain ⟨b, vs, rfl, hb, hn, hl, r⟩ := R1.lst_ e0 r1
      refine ⟨b, p, vs, rfl, rfl, .of (sh _ _ hl), .of upd_same, ?_⟩
      have e1 : vs.isEmpty = xs.isEmpty := by cases r <;> rfl
      rw [e1]
      exact q _ W1 _ (R1.heap sh) l1 (.bl _)
    · cases ez
theorem snd_nilT (ne : Bool) {a : Expr} {p2 pos : Pos} {ca : C} (ha : SndE Γ F N k T sc a ca) : SndT Γ F N k T sc (.Compare a [if ne then .NotEq else .Eq] [.List [] p2] pos) (.neE ne ca) := by
  intro X ok hs Wx tk W0 H0 W H σ δ hh o R ev Q q
  simp only [evalE] at ev
  refine w_pt (pt_cmpR (op_nil (ok_units ok) ne) pe_w (pe_lst pa_nil) (by cases ne <;> rfl)) ?_
  refine bnd_E ha ok hs tk R ev q.x fun x h1 _ ev v W1 H1 R1 l1 r1 => ?_
  obtain ⟨z, ez, rfl⟩ := giv_some ev
  obtain ⟨b', e2, q⟩ := q
  refine ⟨by show 0 ≤ sizeLine; decide, fun p hp => ?_⟩
  have sh : Same H1 (upd H1 p (.lst [])) := same_upd hp
  unfold neE at ez
  split at ez
  · rename_i ds _
    cases ez
    cases e2
    obtain ⟨b, vs, rfl, hb, r⟩ := lst_dv (show Dv X.K W1.B v _ from r1)
    refine ⟨b, p, vs, rfl, rfl, .of (sh _ _ (R1.ext _ _ hb)), .of upd_same, ?_⟩
    have e1 : vs.isEmpty = ds.isEmpty := by cases r <;> rfl
    rw [e1]
    exact ⟨_, rfl, q W1 _ (R1.heap sh) l1⟩
  · cases ez
  · split at ez
    · rename_i n xs e0
      cases ez
      cases e2
      obtain ⟨b, vs, rfl, hb, hn, hl, r⟩ := R1.lst_ e0 r1
      refine ⟨b, p, vs, rfl, rfl, .of (sh _ _ hl), .of upd_same, ?_⟩
      have e1 : vs.isEmpty = xs.isEmpty := by cases r <;> rfl
      rw [e1]
      exact ⟨_, rfl, q W1 _ (R1.heap sh) l1⟩
    · cases ez
/-! ### rows of expressions -/
theorem snd_nilL : SndL Γ F N k T sc [] .nil := by
  intro X ok hs Wx tk W0 H0 W H σ δ hh o R ev Q q
  cases ev
  refine ⟨w_pa pa_nil (q [] W H R (Wd.Le.refl _) .nil), fun kws hk => ?_, q [] W H R (Wd.Le.refl _) .nil⟩
  cases kws with
  | nil => exact w_pk pk_nil (q [] W H R (Wd.Le.refl _) .nil)
  | cons a r => cases hk
theorem snd_consL {e : Expr} {es : List Expr} {c : C} {cs : Cs} (h : SndE Γ F N k T sc e c) (r : SndL Γ F N k T sc es cs) (hst : ∀ env, starEach (e :: es) env = (false, eval e env) :: starEach es env) : SndL Γ F N k T sc (e :: es) (.cons c cs) := by
  intro X ok hs Wx tk W0 H0 W H σ δ hh o R ev Q q
  simp only [evalL] at ev
  have rest : ∀ x h1, (bnd (evalL F cs δ h1) fun xs h2 => some (.ok (x :: xs), h2)) = some o → ∀ v W1 H1, Rel X.K T W0 H0 W1 H1 σ δ h1 → W.Le W1 → Rv X.K W1 x v → ∃ o', evalL F cs δ h1 = some o' ∧ PostL X.K T W0 H0 W1 σ δ o' (fun vs H2 => Q (v :: vs) H2) fun cls d H' => Wx cls d σ H' := by
    intro x h1 ev v W1 H1 R1 l1 r1
    rcases bnd_some ev with ⟨xs, h2, e1, e2⟩ | ⟨e, h2, e1, rfl⟩
    · cases e2
      exact ⟨_, e1, fun vs W2 H2 R2 l2 r2 => q (v :: vs) W2 H2 R2 (l1.trans l2) (.cons (r1.mono l2) r2)⟩
    · exact ⟨_, e1, fun cls d W2 H2 R2 l2 x => q cls d W2 H2 R2 (l1.trans l2) x⟩
  refine ⟨w_pa (pa_cons pe_w pa_w (hst X.env)) ?_, fun kws hk => ?_, ?_⟩
  · refine bnd_E h ok hs tk R ev q.x fun x h1 _ ev v W1 H1 R1 l1 r1 => ?_
    obtain ⟨o', e1, q1⟩ := rest x h1 ev v W1 H1 R1 l1 r1
    exact (r X ok hs Wx tk _ _ _ _ _ _ _ _ R1 e1 _ q1).1
  · cases kws with
    | nil => cases hk
    | cons a l =>
      obtain ⟨nm, e0, kp⟩ := a
      have hk' : e0 :: l.map (fun k => k.value) = e :: es := hk
      injection hk' with k1 k2
      subst k1
      refine w_pk (pk_cons pe_w pk_w) ?_
      refine bnd_E h ok hs tk R ev q.x fun x h1 _ ev v W1 H1 R1 l1 r1 => ?_
      obtain ⟨o', e1, q1⟩ := rest x h1 ev v W1 H1 R1 l1 r1
      exact (r X ok hs Wx tk _ _ _ _ _ _ _ _ R1 e1 _ q1).2.1 l k2
  · refine bnd_E h ok hs tk R ev q.x fun x h1 _ ev v W1 H1 R1 l1 r1 => ?_
    obtain ⟨o', e1, q1⟩ := rest x h1 ev v W1 H1 R1 l1 r1
    exact (r X ok hs Wx tk _ _ _ _ _ _ _ _ R1 e1 _ q1).2.2
section
variable {X : Cx} {Wx : WX} {W0 W : Wd} {H0 H : Hp} {σ : L2.St} {δ : Env_} {h : Hh}
/-- parts by place, then the rest -/
theorem bnd_A {es : List Expr} {cs : Cs} (hl : SndL Γ F N k T sc es cs) (ok : Ok Γ F N k T X) (hs : X.env.scope = sc) (tk : Takes X Wx) (R : Rel X.K T W0 H0 W H σ δ h) {β : Type} {f : List Vv → Hh → Ev β} {o : Rs β × Hh} (ev : bnd (evalL F cs δ h) f = some o)
    (px : PostX X.K T W0 H0 W σ δ o fun cls d H' => Wx cls d σ H') {Q : List V → Hp → Prop} (q : ∀ xs h1, evalL F cs δ h = some (.ok xs, h1) → f xs h1 = some o → ∀ vs W1 H1, Rel X.K T W0 H0 W1 H1 σ δ h1 → W.Le W1 → RvL X.K W1 xs vs → Q vs H1) :
    wA X es σ H Q ∧ (∀ kws : List Keyword, kws.map (fun k => k.value) = es → wK X kws σ H Q) ∧ wL X es σ H Q := by
  rcases bnd_some ev with ⟨x, h1, e1, e2⟩ | ⟨e, h1, e1, rfl⟩
  · exact hl X ok hs Wx tk W0 H0 W H σ δ h _ R e1 Q fun v W1 H1 R1 l1 r1 => q x h1 e1 e2 v W1 H1 R1 l1 r1
  · exact hl X ok hs Wx tk W0 H0 W H σ δ h _ R e1 Q px
end
theorem snd_tup {es : List Expr} {kk : Nat} {pos : Pos} {cs : Cs} (hl : SndL Γ F N k T sc es cs) : SndE Γ F N k T sc (.Tuple es kk pos) (.tup cs) := by
  intro X ok hs Wx tk W0 H0 W H σ δ hh o R ev Q q
  simp only [evalE] at ev
  refine w_pe (pe_tup pa_w) ?_
  refine (bnd_A hl ok hs tk R ev q.x fun xs h1 _ ev vs W1 H1 R1 l1 r1 => ?_).1
  split at ev
  · rename_i ds e1
    obtain ⟨hz, ev⟩ := ite_some ev
    cases ev
    have dv := datL_rv e1 r1
    exact ⟨by rw [dv.length]; exact small_line hz, fun p hp => new_data q R1 l1 hp (fun _ z => by cases z) fun B' s hb => .tup (.of hb) (dv.mono s)⟩
  · cases ev
theorem snd_lst {es : List Expr} {pos : Pos} {cs : Cs} (hl : SndL Γ F N k T sc es cs) : SndE Γ F N k T sc (.List es pos) (.lst cs) := by
  intro X ok hs Wx tk W0 H0 W H σ δ hh o R ev Q q
  simp only [evalE] at ev
  refine w_pe (pe_lst pa_w) ?_
  refine (bnd_A hl ok hs tk R ev q.x fun xs h1 _ ev vs W1 H1 R1 l1 r1 => ?_).1
  split at ev
  · rename_i ds e1
    obtain ⟨hz, ev⟩ := ite_some ev
    cases ev
    have dv := datL_rv e1 r1
    exact ⟨by rw [dv.length]; exact small_line hz, fun p hp => new_data q R1 l1 hp (fun _ z => by cases z) fun B' s hb => .lst hb (dv.mono s)⟩
  · cases ev
/-- a new list of its own -/
theorem new_cell {K : PySem.W.Frag} {W0 W W1 : Wd} {H0 H1 : Hp} {σ : L2.St} {δ : Env_} {h1 : Hh} {Q : VK} {E : XK} {xs : List Vv} {vs : List V} (q : PostE K T W0 H0 W σ δ (.ok (.r h1.length), h1 ++ [.lst xs]) Q E) (R1 : Rel K T W0 H0 W1 H1 σ δ h1) (l : W.Le W1) (r : RvL K W1 xs vs) {p : Addr} (hp : H1 p = none) :
    Q (.ref p) (upd H1 p (.lst vs)) := by
  obtain ⟨f1, f2, f3⟩ := R1.free hp
  have le : W1.Le ⟨W1.B, W1.φ ++ [p]⟩ := ⟨Same.refl _, [p], rfl⟩
  obtain ⟨R2, l2⟩ := R1.cellN (o := .lst vs) (ob := .lst xs) hp pln_lst ⟨f2, vs, upd_same, RvL.mono le r⟩
  exact q (.ref p) _ _ R2 (l.trans l2) ⟨p, by show (W1.φ ++ [p])[h1.length]? = some p; rw [R1.hl, List.getElem?_append_right (Nat.le_refl _), Nat.sub_self]; rfl, rfl⟩
theorem snd_newL {es : List Expr} {pos : Pos} {cs : Cs} (hl : SndL Γ F N k T sc es cs) : SndE Γ F N k T sc (.List es pos) (.newL cs) := by
  intro X ok hs Wx tk W0 H0 W H σ δ hh o R ev Q q
  simp only [evalE] at ev
  refine w_pe (pe_lst pa_w) ?_
  refine (bnd_A hl ok hs tk R ev q.x fun xs h1 _ ev vs W1 H1 R1 l1 r1 => ?_).1
  obtain ⟨hz, ev⟩ := ite_some ev
  cases ev
  exact ⟨by rw [← Paired.length r1]; exact small_line hz, fun p hp => new_cell q R1 l1 r1 hp⟩
theorem snd_thaw {a : Expr} {p pos : Pos} {ca : C} (ha : SndE Γ F N k T sc a ca) (h1 : Pl sc "list") (h2 : ("list" : Str) ∈ Γ.bs) (hst : ∀ env, starEach [a] env = (false, eval a env) :: starEach [] env) : SndE Γ F N k T sc (.Call (.Name "list" p) [a] [] pos) (.thaw ca) := by
  intro X ok hs Wx tk W0 H0 W H σ δ hh o R ev Q q
  simp only [evalE] at ev
  refine w_pe (pe_callTy call_list_of (gl_of hs h1) (ok.bl _ h2) (by decide +kernel) (pa_cons pe_w pa_nil (hst X.env)) (by decide +kernel) rfl (hst X.env) rfl) ?_
  refine bnd_E ha ok hs tk R ev q.x fun x h1 _ ev v W1 H1 R1 l1 r1 => ?_
  split at ev
  · cases ev
    obtain ⟨b, vs, rfl, hb, r⟩ := lst_dv (show Dv X.K W1.B v _ from r1)
    exact ⟨b, vs, rfl, .inl (.of (R1.ext _ _ hb)), fun p hp => new_cell q R1 l1 (rv_dat r) hp⟩
  · cases ev
    obtain ⟨b, vs, rfl, hb, r⟩ := tup_dv (show Dv X.K W1.B v _ from r1)
    exact ⟨b, vs, rfl, .inr (same_t R1.ext hb), fun p hp => new_cell q R1 l1 (rv_dat r) hp⟩
  · cases ev
/-! ### items, slices, cells -/
theorem ixr_any {X : Cx} : IxR X fun x y H Q => ∃ r, IxR X r ∧ r x y H Q := fun a b pins s σ H x y v u Q I rx ry ⟨r, h1, h2⟩ hs => h1 a b pins s σ H x y v u Q I rx ry h2 hs
theorem atI_rv {K : PySem.W.Frag} {W : Wd} {xs : List Vv} {vs : List V} {i : Int} {x : Vv} (r : RvL K W xs vs) (h : atI xs i = some x) : ∃ v, atI vs i = some v ∧ Rv K W x v := by
  unfold atI at h ⊢
  rw [← Paired.length r]
  cases e : ixN xs.length i with
  | none => rw [e] at h; cases h
  | some j =>
    rw [e] at h
    exact pr_get r h
theorem snd_sub {a i : Expr} {pos : Pos} {ca ci : C} (ha : SndE Γ F N k T sc a ca) (hi : SndE Γ F N k T sc i ci) (hp : PlainIx i) : SndE Γ F N k T sc (.Subscript a i pos) (.sub ca ci) := by
  intro X ok hs Wx tk W0 H0 W H σ δ hh o R ev Q q
  simp only [evalE] at ev
  refine w_pe (pe_ix ixr_any pe_w pe_w hp) ?_
  refine bnd_E ha ok hs tk R ev q.x fun x h1 _ ev v W1 H1 R1 l1 r1 => ?_
  refine bnd_E hi ok hs tk R1 ev (q.x.mono l1) fun y h2 _ ev w W2 H2 R2 l2 r2 => ?_
  replace r1 := Rv.mono l2 r1
  unfold subV at ev
  split at ev
  · obtain ⟨z, ez, rfl⟩ := giv_some ev
    obtain ⟨r, hr, hk⟩ := sub_ok (X := X) ez
    exact ⟨r, hr, hk W2.B H2 v w R2.ext r1 r2 Q fun u du => q u W2 H2 R2 (l1.trans l2) du⟩
  · split at ev
    · rename_i e0
      split at ev
      · rename_i z ez
        cases ev
        obtain ⟨b, vs, rfl, hb, hn, hl, r⟩ := R2.lst_ e0 r1
        obtain ⟨u, eu, ru⟩ := atI_rv r ez
        cases r2
        exact ⟨_, ix_list, b, vs, _, u, rfl, rfl, .of hl, eu, q u W2 H2 R2 (l1.trans l2) ru⟩
      · cases ev
    · cases ev
  · cases ev
theorem snd_upto {a n : Expr} {p pos : Pos} {ca cn : C} (ha : SndE Γ F N k T sc a ca) (hn : SndE Γ F N k T sc n cn) : SndE Γ F N k T sc (.Subscript a (.Slice none (some n) none p) pos) (.upto ca cn) := by
  intro X ok hs Wx tk W0 H0 W H σ δ hh o R ev Q q
  simp only [evalE] at ev
  refine w_pe (pe_slice sl_list pe_w po_none (po_some pe_w)) ?_
  refine bnd_E ha ok hs tk R ev q.x fun x h1 _ ev v W1 H1 R1 l1 r1 => ?_
  refine bnd_E hn ok hs tk R1 ev (q.x.mono l1) fun y h2 _ ev w W2 H2 R2 l2 r2 => ?_
  obtain ⟨x, y, rfl, rfl, ew⟩ := dd2_some ev
  replace ev := ew
  obtain ⟨z, ez, rfl⟩ := giv_some ev
  unfold uptoD at ez
  split at ez
  · obtain ⟨hj, rfl⟩ := ite_some ez
    replace r1 := Rv.mono l2 r1
    obtain ⟨b, vs, rfl, hb, r⟩ := lst_dv (show Dv X.K W2.B v _ from r1)
    cases r2
    refine ⟨_, rfl, b, vs, rfl, .of (R2.ext _ _ hb), fun p hp => new_data q R2 (l1.trans l2) hp (fun _ z => by cases z) fun B' s hq => .lst hq (DvL.mono s ?_)⟩
    rw [cut_upto vs hj]
    exact r.take _
  · cases ez
theorem snd_frz {a : Expr} {ca : C} (ha : SndE Γ F N k T sc a ca) : SndE Γ F N k T sc a (.frz ca) := by
  intro X ok hs Wx tk W0 H0 W H σ δ hh o R ev Q q
  simp only [evalE] at ev
  refine bnd_E ha ok hs tk R ev q.x fun x h1 _ ev v W1 H1 R1 l1 r1 => ?_
  unfold frzV at ev
  split at ev
  · cases ev
    exact q v W1 H1 R1 l1 r1
  · split at ev
    · rename_i e0
      split at ev
      · rename_i ds e1
        cases ev
        obtain ⟨b, vs, rfl, hb, hn, hl, r⟩ := R1.lst_ e0 r1
        obtain ⟨R2, l2⟩ := R1.fix hb hn hl
        exact q _ _ H1 R2 (l1.trans l2) (.lst upd_same ((datL_rv e1 r).mono l2.b))
      · cases ev
    · cases ev
theorem seq_at {n : Nat} {i : Int} (h0 : 0 ≤ i) (h1 : i < n) : seqIndex? i n = some i.toNat := by
  unfold seqIndex?
  split
  · omega
  · show (if (decide (0 ≤ i) && decide (i < n)) = true then some i.toNat else none) = _
    rw [if_pos (by simp [h0, h1])]
theorem pr_none {α β : Type} {F : α → β → Prop} {l : List α} {m : List β} (r : Paired F l m) {i : Nat} (e : l[i]? = none) : m[i]? = none := by
  rw [List.getElem?_eq_none_iff] at e ⊢
  rw [← Paired.length r]
  exact e
theorem lst_ty {K : PySem.W.Frag} {W0 W : Wd} {H0 H : Hp} {σ : L2.St} {δ : Env_} {h : Hh} (R : Rel K T W0 H0 W H σ δ h) {x : Vv} {v : V} (e : isLst x h = true) (r : Rv K W x v) : ∃ b vs, v = .ref b ∧ H b = some (.lst vs) := by
  unfold isLst at e
  split at e
  · split at e
    · rename_i e0
      obtain ⟨b, vs, rfl, _, _, hl, _⟩ := R.lst_ e0 r
      exact ⟨b, vs, rfl, hl⟩
    · cases e
  · cases e
theorem ite_some' {c : Prop} [Decidable c] {α : Type} {a : Option α} {z : α} (h : (if c then a else none) = some z) : c ∧ a = some z := by
  split at h
  · rename_i hc
    exact ⟨hc, h⟩
  · cases h
theorem snd_popA {a e : Expr} {ap cp : Pos} {ca c : C} (ha : SndE Γ F N k T sc a ca) (he : SndE Γ F N k T sc e c) (hl : (ap.endLine == cp.line) = true) (hb : ∀ env, attributeBase a "pop" env (eval a env) = eval a env)
    (hst : ∀ env, starEach [e] env = (false, eval e env) :: starEach [] env) : SndE Γ F N k T sc (.Call (.Attribute a "pop" ap) [e] [] cp) (.popA ca c) := by
  intro X ok hs Wx tk W0 H0 W H σ δ hh o R ev Q q
  simp only [evalE] at ev
  refine w_pe (pe_bm PySem.F.plainAttrs_list PySem.F.slot_list_pop PySem.F.type_list_pop mt_popAt pe_w (pa_cons pe_w pa_nil (hst X.env)) (hb X.env) (by rw [hst X.env] <;> rfl) hl (hst X.env) rfl) ?_
  refine bnd_E ha ok hs tk R ev q.x fun x h1 _ ev v W1 H1 R1 l1 r1 => ?_
  obtain ⟨hL, ev⟩ := ite_some' ev
  obtain ⟨b, vs, eb, hv⟩ := lst_ty R1 hL r1
  refine ⟨by rw [eb]; exact .inl ⟨rfl, vs, .of hv⟩, ?_⟩
  refine bnd_E he ok hs tk R1 ev (q.x.mono l1) fun y h2 _ ev w W2 H2 R2 l2 r2 => ?_
  replace r1 := Rv.mono l2 r1
  unfold popA at ev
  split at ev
  · split at ev
    · rename_i xs e0
      obtain ⟨hc, ev⟩ := ite_some' ev
      obtain ⟨c1, c2, c3⟩ := hc
      split at ev
      · rename_i z ez
        cases ev
        obtain ⟨b', vs, rfl, hb, hn, hl, r⟩ := R2.lst_ e0 r1
        obtain ⟨u, eu, ru⟩ := pr_get r ez
        cases r2
        have hlen := Paired.length r
        have hz := of_decide_eq_true c3
        exact ⟨b', vs, _, _, u, rfl, rfl, hl, by omega, by omega, seq_at c1 (by omega), eu, q u W2 _ (R2.chgL hb hn (pr_erase _ r)) (l1.trans l2) ru⟩
      · cases ev
    · cases ev
  · cases ev
theorem snd_popL {a : Expr} {ap cp : Pos} {ca : C} (ha : SndE Γ F N k T sc a ca) (hl : (ap.endLine == cp.line) = true) (hb : ∀ env, attributeBase a "pop" env (eval a env) = eval a env) : SndE Γ F N k T sc (.Call (.Attribute a "pop" ap) [] [] cp) (.popL ca) := by
  intro X ok hs Wx tk W0 H0 W H σ δ hh o R ev Q q
  simp only [evalE] at ev
  refine w_pe (pe_bm0 PySem.F.plainAttrs_list PySem.F.slot_list_pop PySem.F.type_list_pop mt_pop pe_w (hb X.env) hl) ?_
  refine bnd_E ha ok hs tk R ev q.x fun x h1 _ ev v W1 H1 R1 l1 r1 => ?_
  unfold popL at ev
  split at ev
  · split at ev
    · rename_i xs e0
      split at ev
      · rename_i z ez
        obtain ⟨c1, ev⟩ := ite_some ev
        cases ev
        obtain ⟨b', vs, rfl, hb, hn, hl, r⟩ := R1.lst_ e0 r1
        have hlen := Paired.length r
        rw [hlen] at ez
        obtain ⟨u, eu, ru⟩ := pr_get r ez
        exact ⟨.inl ⟨rfl, vs, .of hl⟩, b', vs, u, rfl, rfl, hl, eu, q u W1 _ (R1.chgL hb hn (pr_drop r)) l1 ru⟩
      · cases ev
    · cases ev
  · cases ev
end
end Nv


set_option Elab.async false
set_option linter.all false
set_option maxRecDepth 100000
set_option maxHeartbeats 8000000
/-! isinstance, built-ins, fields, dict displays, shapes. -/
namespace Nv
open PySem PySem.Spec PyProof.Rows L2
theorem dvk_key {K : PySem.W.Frag} {B : Hp} {kvs : List (Key × V)} {l : List (PyData × PyData)} (h : DvK K B kvs l) {m x : PyData} {ds : List (PyData × PyData)} (e : l = (m, x) :: ds) : ∃ k : Key, m = kD k := by
  cases h with
  | nil => cases e
  | cons h r =>
    cases e
    exact ⟨_, rfl⟩
theorem dvk_none {K : PySem.W.Frag} {B : Hp} {kvs : List (Key × V)} {x : PyData} {ds : List (PyData × PyData)} (h : DvK K B kvs ((.none, x) :: ds)) : False := by
  obtain ⟨k, z⟩ := dvk_key h rfl
  cases k <;> cases z
theorem dvk_true {K : PySem.W.Frag} {B : Hp} {kvs : List (Key × V)} {x : PyData} {ds : List (PyData × PyData)} {b : Bool} (h : DvK K B kvs ((.bool b, x) :: ds)) : False := by
  obtain ⟨k, z⟩ := dvk_key h rfl
  cases k <;> cases z
theorem fld_dv {K : PySem.W.Frag} {B : Hp} {f : Str} : ∀ {fs : List (Str × V)} {ds : List (PyData × PyData)} {z : PyData}, DvK K B (fs.map fun p => (Sum.inr p.1, p.2)) ds → fldD f ds = some z → ∃ v, fs.lookup f = some v ∧ Dv K B v z
  | [], _, _, r, h => by
    cases r
    cases h
  | (g, v) :: fs, _, z, r, h => by
    have r' : DvK K B ((Sum.inr g, v) :: fs.map fun p => (Sum.inr p.1, p.2)) _ := r
    cases r' with
    | cons hd tl =>
      simp only [kD, fldD] at h
      split at h
      · rename_i e
        cases h
        subst e
        exact ⟨v, by simp [List.lookup], hd⟩
      · rename_i e
        obtain ⟨u, h1, h2⟩ := fld_dv tl h
        have e' : (f == g) = false := by simpa using e
        exact ⟨u, by simp only [List.lookup, e']; exact h1, h2⟩
theorem isi_all {K : PySem.W.Frag} {d : PyData} : ∀ {ts : List String} {b : Bool}, isiG d ts = some b → PySem.W.kitAny K (.type (tyD d)) (ts.map Value.type) = some b
  | [], b, h => by cases h; exact kitAny_nil
  | t :: ts, b, h => by
    unfold isiG at h
    split at h
    · rename_i e
      cases h
      exact kitAny_cons (kit_ty e) (fun z => by cases z) fun _ => rfl
    · rename_i e
      exact kitAny_cons (kit_ty e) (fun _ => isi_all h) fun z => by cases z
    · cases h
theorem isi_plain {d : PyData} {ts : List String} {b : Bool} (h : isiD d ts = some b) : isObj d = false ∧ isiG d ts = some b := by
  unfold isiD at h
  split at h
  · cases h
  · rename_i z
    exact ⟨by simpa using z, h⟩

/-- what the library's isinstance asks of an instance, an error's too -/
def KitV (K : PySem.W.Frag) (B : Hp) (v : V) (t : Value) : Prop := TyX K B v t ∨ ∃ a C d fs, v = .ref a ∧ t = .ref C ∧ B a = some (kexo a C (some d)) ∧ B d = some (.xd fs) ∧ L2.ExcC K C
theorem kexo_at {P : Program} {w : World} {H : Hp} {h : Heap} {e C : Addr} {d : Option Addr} (hok : HOk P w H h) (he : H e = some (kexo e C d)) : ∃ oe : Obj, h.get? e = some oe ∧ oe.cls = .ref C ∧ oe.dict = d ∧ ∃ vs, oe.data = .fields vs := (hok e _ he).1
theorem xd_at {P : Program} {w : World} {H : Hp} {h : Heap} {d : Addr} {fs : List (Str × V)} (hok : HOk P w H h) (he : H d = some (.xd fs)) : ∃ mA, h.Ns1 d mA ∧ ∀ f, RelO (fs.lookup f) (mA f) := hok d _ he
theorem call_isv {X : Cx} : CallR X (.builtin "isinstance") fun xs H Q => ∃ (x c : V) (t u : Value) (b : Bool), xs = [x, c] ∧ ClsV c u ∧ KitV X.K H x t ∧ PySem.W.kitOne X.K t u = some b ∧ Q (.bl b) H := by
  intro pins s σ H xs us Q I r h
  obtain ⟨x, c, t, u, b, rfl, k, ty, e, q⟩ := h
  obtain ⟨u1, u2, rfl, r1, r2⟩ := vals2 r
  have e2 := k.eq r2
  subst e2
  rcases ty with ty | ⟨a, C, d, fs, rfl, rfl, h1, h2, T⟩
  · obtain ⟨P, Z, p, hx⟩ := kit_of I r1 ty
    exact PySem.W.kia_one Z I.kIn p e hx fun tk => ⟨.bl b, H, I.tok tk, rfl, q⟩
  · obtain rfl : u1 = Value.ref a := r1
    obtain ⟨oe, hobj, hc, hd, vs, hv⟩ := kexo_at I.hok h1
    obtain ⟨mA, hns, hr⟩ := xd_at I.hok h2
    obtain ⟨od, ho, hl⟩ := lookIn_ns hns
    obtain ⟨cd, hcd, _⟩ := PySem.W.any_some T.hd
    exact PySem.W.kia_one (PySem.W.kitx_exc (od := some od) (by rw [hcd]; rfl) T.hg T.hk T.hs T.ha T.hn T.ht T.hm) I.kIn ⟨hobj, hc, by unfold PySem.W.notCls; rw [hv], hd ▸ ho⟩ e (fun z => nomatch z) fun tk => ⟨.bl b, H, I.tok tk, rfl, q⟩
theorem callr_any {X : Cx} {f : Value} : CallR X f fun xs H Q => ∃ r, CallR X f r ∧ r xs H Q := fun pins s σ H xs us Q I rx ⟨r, h1, h2⟩ => h1 pins s σ H xs us Q I rx h2
section
variable {Γ : Gam} {F : Fns} {N : List Str} {k : Nat} {T : List (Addr × Str)} {sc : Scope}
theorem snd_isi1 {a : Expr} {t : Str} {Ty : String} {p p2 pos : Pos} {ca : C} (ha : SndE Γ F N k T sc a ca) (h1 : Pl sc "isinstance") (h2 : ("isinstance" : Str) ∈ Γ.bs) (h3 : Pl sc t) (h4 : t ∈ Γ.bs) (h5 : bootBuiltins t = some (.type Ty)) (h6 : t ≠ "__name__")
    (h7 : (t == ("__debug__" : Str)) = false) (hst : ∀ env, starEach [a, .Name t p2] env = (false, eval a env) :: starEach [.Name t p2] env) : SndE Γ F N k T sc (.Call (.Name "isinstance" p) [a, .Name t p2] [] pos) (.isi ca [Ty]) := by
  intro X ok hs Wx tk W0 H0 W H σ δ hh o R ev Q q
  simp only [evalE] at ev
  refine w_pe (pe_callB call_isi (gl_of hs h1) (ok.bl _ h2) (by decide +kernel) (pa_cons pe_w (pa_cons (pe_bltn (v := .ty Ty) (gl_of hs h3) (ok.bl _ h4) h5 rfl h6 h7) pa_nil) (hst X.env)) (by decide) (by decide) (hst X.env) rfl) ?_
  refine bnd_E ha ok hs tk R ev q.x fun x h1 _ ev v W1 H1 R1 l1 r1 => ?_
  obtain ⟨d1, rfl, ew⟩ := dd1_some ev
  replace ev := ew
  obtain ⟨z, ez, rfl⟩ := giv_some ev
  obtain ⟨b, e2, rfl⟩ := Option.map_eq_some_iff.mp ez
  obtain ⟨e0, e2⟩ := isi_plain e2
  have e3 : kitB (tyD d1) Ty = some b := by
    unfold isiG at e2
    split at e2
    · rename_i z; cases e2; exact z
    · rename_i z; cases e2; exact z
    · cases e2
  exact ⟨v, .ty Ty, _, _, b, rfl, .ty Ty, ty_ok R1.ext (show Dv X.K W1.B v d1 from r1) e0, kit_ty e3, q _ W1 H1 R1 l1 (.bl _)⟩
theorem snd_isi2 {a : Expr} {t t' : Str} {Ty Ty' : String} {p p2 p3 p4 pos : Pos} {kk : Nat} {ca : C} (ha : SndE Γ F N k T sc a ca) (h1 : Pl sc "isinstance") (h2 : ("isinstance" : Str) ∈ Γ.bs) (h3 : Pl sc t) (h4 : t ∈ Γ.bs) (h5 : bootBuiltins t = some (.type Ty)) (h6 : t ≠ "__name__")
    (h7 : (t == ("__debug__" : Str)) = false) (h3' : Pl sc t') (h4' : t' ∈ Γ.bs) (h5' : bootBuiltins t' = some (.type Ty')) (h6' : t' ≠ "__name__") (h7' : (t' == ("__debug__" : Str)) = false)
    (hst : ∀ env, starEach [a, .Tuple [.Name t p2, .Name t' p3] kk p4] env = (false, eval a env) :: starEach [.Tuple [.Name t p2, .Name t' p3] kk p4] env) : SndE Γ F N k T sc (.Call (.Name "isinstance" p) [a, .Tuple [.Name t p2, .Name t' p3] kk p4] [] pos) (.isi ca [Ty, Ty']) := by
  intro X ok hs Wx tk W0 H0 W H σ δ hh o R ev Q q
  simp only [evalE] at ev
  refine w_pe (pe_callB call_isiT (gl_of hs h1) (ok.bl _ h2) (by decide +kernel) (pa_cons pe_w (pa_cons (pe_tup (pa_cons (pe_bltn (v := .ty Ty) (gl_of hs h3) (ok.bl _ h4) h5 rfl h6 h7) (pa_cons (pe_bltn (v := .ty Ty') (gl_of hs h3') (ok.bl _ h4') h5' rfl h6' h7') pa_nil))) pa_nil) (hst X.env))
    (by decide) (by decide) (hst X.env) rfl) ?_
  refine bnd_E ha ok hs tk R ev q.x fun x h1 _ ev v W1 H1 R1 l1 r1 => ?_
  obtain ⟨d1, rfl, ew⟩ := dd1_some ev
  replace ev := ew
  obtain ⟨z, ez, rfl⟩ := giv_some ev
  obtain ⟨b, e2, rfl⟩ := Option.map_eq_some_iff.mp ez
  obtain ⟨e0, e2⟩ := isi_plain e2
  refine ⟨by show 2 ≤ sizeLine; decide, fun q0 hq0 => ?_⟩
  have sh : Same H1 (upd H1 q0 (.tup [.ty Ty, .ty Ty'])) := same_upd hq0
  exact ⟨v, q0, [.ty Ty, .ty Ty'], _, _, b, rfl, upd_same, .cons (.ty Ty) (.cons (.ty Ty') .nil), ty_ok (R1.ext.trans sh) (show Dv X.K W1.B v d1 from r1) e0, isi_all e2, q _ W1 _ (R1.heap sh) l1 (.bl _)⟩
theorem snd_isc {a : Expr} {t : Str} {p p2 pos : Pos} {ca : C} {tE tI : List (Str × Bool)} {tO : List String} (ha : SndE Γ F N k T sc a ca) (h1 : Pl sc "isinstance") (h2 : ("isinstance" : Str) ∈ Γ.bs) (h3 : Pl sc t) (h7 : (t == ("__debug__" : Str)) = false) (hm : (t, tE, tI, tO) ∈ Γ.ics)
    (hst : ∀ env, starEach [a, .Name t p2] env = (false, eval a env) :: starEach [.Name t p2] env) : SndE Γ F N k T sc (.Call (.Name "isinstance" p) [a, .Name t p2] [] pos) (.isc ca tE tI tO) := by
  intro X ok hs Wx tk W0 H0 W H σ δ hh o R ev Q q
  obtain ⟨TT, hT, fE, fI, fO⟩ := ok.ic t tE tI tO hm
  simp only [evalE] at ev
  refine w_pe (pe_callB call_isv (gl_of hs h1) (ok.bl _ h2) (by decide +kernel) (pa_cons pe_w (pa_cons (pe_glob (v := V.ref TT) (gl_of hs h3) hT rfl h7) pa_nil) (hst X.env)) (by decide) (by decide) (hst X.env) rfl) ?_
  refine bnd_E ha ok hs tk R ev q.x fun x h1 _ ev v W1 H1 R1 l1 r1 => ?_
  obtain ⟨d1, rfl, ew⟩ := dd1_some ev
  replace ev := ew
  obtain ⟨z, ez, rfl⟩ := giv_some ev
  obtain ⟨b, e2, rfl⟩ := Option.map_eq_some_iff.mp ez
  have dv : Dv X.K W1.B v d1 := r1
  clear r1
  unfold iscD at e2
  split at e2
  · cases dv with
    | dct h r => exact (dvk_none r).elim
    | exc hx g1 g2 r =>
      obtain ⟨k1, k2⟩ := fE _ _ _ e2 hx
      exact ⟨_, .ref TT, _, _, b, rfl, .own TT, .inr ⟨_, _, _, _, rfl, rfl, R1.ext _ _ g1, R1.ext _ _ g2, k1⟩, k2, q _ W1 H1 R1 l1 (.bl _)⟩
  · cases dv with
    | dct h r => exact (dvk_true r).elim
    | ins hx g1 r =>
      obtain ⟨k1, k2⟩ := fI _ _ _ e2 hx
      exact ⟨_, .ref TT, _, _, b, rfl, .own TT, .inl (.base (.ins (R1.ext _ _ g1) k1.cl k1.ha k1.hn k1.ht k1.hm)), k2, q _ W1 H1 R1 l1 (.bl _)⟩
  · split at e2
    · cases e2
    · rename_i z
      obtain ⟨hin, e2⟩ := ite_some' e2
      cases e2
      exact ⟨v, .ref TT, _, _, false, rfl, .own TT, .inl (ty_ok R1.ext dv (by simpa using z)), fO _ hin, q _ W1 H1 R1 l1 (.bl _)⟩
theorem snd_blt {b : Bt} {a : Expr} {x : Str} {p pos : Pos} {ca : C} (ha : SndE Γ F N k T sc a ca) (hw : ∀ (X : Cx), Ok Γ F N k T X → X.env.scope = sc → ∀ r, CallR X (btV b).val r → PE X (.Call (.Name x p) [a] [] pos) (tCB r (tCons (wE X a) tNil))) : SndE Γ F N k T sc (.Call (.Name x p) [a] [] pos) (.blt b ca) := by
  intro X ok hs Wx tk W0 H0 W H σ δ hh o R ev Q q
  simp only [evalE] at ev
  refine w_pe (hw X ok hs _ callr_any) ?_
  refine bnd_E ha ok hs tk R ev q.x fun x h1 _ ev v W1 H1 R1 l1 r1 => ?_
  obtain ⟨z, ez, rfl⟩ := giv_some ev
  have plain : ∀ d, x = .d d → bltD b d = some z → ∃ r, CallR X (btV b).val r ∧ r [v] H1 Q := by
    rintro d rfl e
    obtain ⟨r, hr, hk⟩ := blt_ok ok.calm ok.gd (ok_units ok) e
    refine ⟨r, hr, hk W1.B H1 v R1.ext r1 Q (fun u du => q u W1 H1 R1 l1 du) fun p0 o hp0 hn hd => ?_⟩
    obtain ⟨R2, l2⟩ := R1.alloc (o := o) hp0 hn
    exact q (.ref p0) _ _ R2 (l1.trans l2) (hd _ l2.b R2.ext upd_same)
  cases x with
  | d d =>
    refine plain d rfl ?_
    cases b <;> exact ez
  | r n =>
    cases b with
    | len =>
      have ez : lenV (.r n) h1 = some z := ez
      unfold lenV at ez
      split at ez
      · cases ‹Vv.r n = Vv.d _›
      · rename_i m e0
        cases e0
        split at ez
        · rename_i xs e1
          cases ez
          obtain ⟨b', vs, rfl, hb, hn, hl, r⟩ := R1.lst_ e1 r1
          refine ⟨_, call_len_seq, b', vs, rfl, .inl (.of hl), ?_⟩
          rw [← Paired.length r]
          exact q _ W1 H1 R1 l1 (.int _)
        · cases ez
    | _ => cases ez
theorem snd_bltF {b : Bt} {id : String} {x : Str} {a : Expr} {p pos : Pos} {ca : C} (hb : btV b = .fn id) (ha : SndE Γ F N k T sc a ca) (h1 : Pl sc x) (h2 : x ∈ Γ.bs) (h3 : bootBuiltins x = some (.builtin id)) (h4 : x ≠ "__name__") (h5 : (x == ("__debug__" : Str)) = false)
    (hst : ∀ env, starEach [a] env = (false, eval a env) :: starEach [] env) : SndE Γ F N k T sc (.Call (.Name x p) [a] [] pos) (.blt b ca) :=
  snd_blt ha fun X ok hs r hr => pe_callB (by rw [hb] at hr; exact hr) (gl_of hs h1) (ok.bl _ h2) h3 (pa_cons pe_w pa_nil (hst X.env)) h4 h5 (hst X.env) rfl
theorem snd_bltT {b : Bt} {id : String} {x : Str} {a : Expr} {p pos : Pos} {ca : C} (hb : btV b = .ty id) (ha : SndE Γ F N k T sc a ca) (h1 : Pl sc x) (h2 : x ∈ Γ.bs) (h3 : bootBuiltins x = some (.type id)) (h4 : x ≠ "__name__") (h5 : (x == ("__debug__" : Str)) = false)
    (hst : ∀ env, starEach [a] env = (false, eval a env) :: starEach [] env) : SndE Γ F N k T sc (.Call (.Name x p) [a] [] pos) (.blt b ca) :=
  snd_blt ha fun X ok hs r hr => pe_callTy (by rw [hb] at hr; exact hr) (gl_of hs h1) (ok.bl _ h2) h3 (pa_cons pe_w pa_nil (hst X.env)) h4 h5 (hst X.env) rfl
theorem snd_attr {a : Expr} {f : Str} {pos : Pos} {ca : C} {cE cI : List Str} (ha : SndE Γ F N k T sc a ca) (hm : (f, cE, cI) ∈ Γ.ats) (hb : ∀ env, attributeBase a f env (eval a env) = eval a env) : SndE Γ F N k T sc (.Attribute a f pos) (.attr ca f cE cI) := by
  intro X ok hs Wx tk W0 H0 W H σ δ hh o R ev Q q
  obtain ⟨oE, oI⟩ := ok.at_ f cE cI hm
  simp only [evalE] at ev
  refine fun pins s I => attr_of (hb X.env) (thn ((bnd_E ha ok hs tk R ev q.x (Q := fun v H1 => ∃ W1 d h1, Rel X.K T W0 H0 W1 H1 σ δ h1 ∧ W.Le W1 ∧ Dv X.K W1.B v d ∧ giv (attrD f cE cI d) h1 = some o) fun x h1 _ ev v W1 H1 R1 l1 r1 => ?_) pins s I) fun u s2 ⟨v, H1, I1, rv, W1, d, h1, R1, l1, dv, ev⟩ => ?_)
  · obtain ⟨d, rfl, ew⟩ := dd1_some ev
    exact ⟨W1, d, h1, R1, l1, r1, ew⟩
  · obtain ⟨z, e2, rfl⟩ := giv_some ev
    unfold attrD at e2
    split at e2
    · rename_i cn ds
      obtain ⟨hin, e2⟩ := ite_some' e2
      cases dv with
      | dct h r => exact (dvk_none r).elim
      | exc hx g1 g2 r =>
        obtain ⟨w, hw, dw⟩ := fld_dv r e2
        obtain ⟨TT, hno⟩ := oE _ _ hin hx
        obtain rfl : u = Value.ref _ := rv
        obtain ⟨oe, hobj, hc, hd, vs, hv⟩ := kexo_at I1.hok (R1.ext _ _ g1)
        obtain ⟨mA, hns, hr⟩ := xd_at I1.hok (R1.ext _ _ g2)
        obtain ⟨od, ho, hl⟩ := lookIn_ns hns
        obtain ⟨u, hu, ru⟩ := RelO.some_of (v := w) (o := mA f) (by rw [← hw]; exact hr f)
        exact HandSPX.exc_get I1.kIn ⟨hobj, hc, by unfold PySem.W.notCls; rw [hv], by rw [hd]; exact ho⟩ TT.ga TT.gg TT.exC (PySem.W.findObj_own TT.hdC hno rfl (by rw [hl, hu])) (handed_of ru) ⟨w, H1, I1.tok _, ru, q w W1 H1 R1 l1 dw⟩
    · rename_i cn ds
      obtain ⟨hin, e2⟩ := ite_some' e2
      cases dv with
      | dct h r => exact (dvk_true r).elim
      | ins hx g1 r =>
        obtain ⟨w, hw, dw⟩ := fld_dv r e2
        obtain ⟨c, n⟩ := oI _ _ hin hx
        obtain rfl : u = Value.ref _ := rv
        exact getattr_ok I1 (R1.ext _ _ g1) c n hw fun u' s3 I3 ru => ⟨w, H1, I3, ru, q w W1 H1 R1 l1 dw⟩
    · cases e2
/-! ### shapes -/
theorem data_of {K : PySem.W.Frag} {W0 W1 : Wd} {H0 H1 H2 B2 : Hp} {σ : L2.St} {δ : Env_} {h1 : Hh} (R1 : Rel K T W0 H0 W1 H1 σ δ h1) (s1 : Same W1.B B2) (s2 : Same B2 H2) (s3 : Same H1 H2) (nw : ∀ a o, B2 a = some o → (∃ o', W1.B a = some o') ∨ H1 a = none ∧ ∀ ps, o ≠ .tbl ps) :
    Rel K T W0 H0 ⟨B2, W1.φ⟩ H2 σ δ h1 ∧ W1.Le ⟨B2, W1.φ⟩ := by
  have le : W1.Le ⟨B2, W1.φ⟩ := ⟨s1, [], (List.append_nil _).symm⟩
  have R2 := R1.heap s3
  refine ⟨?_, le⟩
  exact { R2 with
    ext := s2
    up := R1.up.trans le
    new := fun a o e => by
      rcases nw a o e with ⟨o', z⟩ | z
      · exact R1.new a o' z
      · exact .inr (.inl (R1.free z.1).1)
    nt := fun a o e => by
      rcases nw a o e with ⟨o', z⟩ | z
      · cases Option.some.inj ((s1 _ _ z).symm.trans e)
        exact R1.nt a _ z
      · exact z.2
    sl := fun i x e => let ⟨v, g1, g2⟩ := R1.sl i x e; ⟨v, g1, g2.mono le⟩
    cell := fun n o a e1 e2 => (R1.cell n o a e1 e2).mono le (fun b z hm => by
      cases y : B2 b with
      | none => exact y
      | some o' =>
        rcases nw b o' y with ⟨o2, y'⟩ | y'
        · rw [z] at y'; cases y'
        · obtain ⟨o3, g1, _⟩ := R1.ev b hm
          rw [y'.1] at g1; cases g1) (fun _ _ z => s3 _ _ z) (List.mem_of_getElem? e2) }
theorem snd_op {i : Nat} {Sh : Shp} {es : List Expr} {e : Expr} {cs : Cs} (h : Γ.ox[i]? = some Sh) (hsh : Sh.e sc es e) (hl : SndL Γ F N k T sc es cs) : SndE Γ F N k T sc e (.op i cs) := by
  intro X ok hs Wx tk W0 H0 W H σ δ hh o R ev Q q
  have ox := ok.ox i Sh h X rfl rfl rfl rfl rfl ok.room ok.gd ok.calm (by rw [ok.hN]; exact ok.nd)
  simp only [evalE] at ev
  rcases bnd_some ev with ⟨xs, h1, e1, e2⟩ | ⟨ee, h1, e1, rfl⟩
  · split at e2
    · rename_i ds e3
      obtain ⟨z, ez, rfl⟩ := giv_some e2
      refine ox.e es e (by rw [hs]; exact hsh) (G := fun B1 H1 => ∃ W1, B1 = W1.B ∧ Rel X.K T W0 H0 W1 H1 σ δ h1 ∧ W.Le W1) ez (fun Q' q' => ?_) fun v B1 H1 B2 H2 ⟨W1, eB, R1, l1⟩ s1 s2 s3 nw dv => ?_
      · exact (hl X ok hs Wx tk _ _ _ _ _ _ _ _ R e1 Q' fun vs W1 H1 R1 l1 r1 => q' vs W1.B H1 R1.ext ⟨W1, rfl, R1, l1⟩ (datL_rv e3 r1)).2.2
      · subst eB
        obtain ⟨R2, l2⟩ := data_of R1 s1 s2 s3 nw
        exact q v _ H2 R2 (l1.trans l2) dv
    · cases e2
  · refine ox.r es e (by rw [hs]; exact hsh) fun Q' => ?_
    exact (hl X ok hs Wx tk _ _ _ _ _ _ _ _ R e1 Q' q).2.2
theorem snd_opT {i : Nat} {Sh : Shp} {es : List Expr} {e : Expr} {cs : Cs} (h : Γ.ox[i]? = some Sh) (hsh : Sh.t sc es e) (hl : SndL Γ F N k T sc es cs) : SndT Γ F N k T sc e (.op i cs) := by
  intro X ok hs Wx tk W0 H0 W H σ δ hh o R ev Q q
  have ox := ok.ox i Sh h X rfl rfl rfl rfl rfl ok.room ok.gd ok.calm (by rw [ok.hN]; exact ok.nd)
  simp only [evalE] at ev
  rcases bnd_some ev with ⟨xs, h1, e1, e2⟩ | ⟨ee, h1, e1, rfl⟩
  · split at e2
    · rename_i ds e3
      obtain ⟨z, ez, rfl⟩ := giv_some e2
      obtain ⟨b, eb, q⟩ := q
      refine ox.t es e (by rw [hs]; exact hsh) (G := fun B1 H1 => ∃ W1, B1 = W1.B ∧ Rel X.K T W0 H0 W1 H1 σ δ h1 ∧ W.Le W1) ez eb (fun Q' q' => ?_) fun B1 H1 H2 ⟨W1, eB, R1, l1⟩ s1 => ?_
      · exact (hl X ok hs Wx tk _ _ _ _ _ _ _ _ R e1 Q' fun vs W1 H1 R1 l1 r1 => q' vs W1.B H1 R1.ext ⟨W1, rfl, R1, l1⟩ (datL_rv e3 r1)).2.2
      · exact q W1 H2 (R1.heap s1) l1
    · cases e2
  · refine ox.rt es e (by rw [hs]; exact hsh) fun Q' => ?_
    exact (hl X ok hs Wx tk _ _ _ _ _ _ _ _ R e1 Q' q).2.2
end
end Nv


set_option Elab.async false
set_option linter.all false
set_option maxRecDepth 100000
set_option maxHeartbeats 8000000
/-! Calls of defs. -/
namespace Nv
open PySem PySem.Spec PyProof.Rows L2
section
variable {K : PySem.W.Frag} {T : List (Addr × Str)} {W0 W : Wd} {H0 H : Hp} {σ : L2.St} {δ : Env_} {h : Hh}
/-- without slots -/
theorem Rel.bare (R : Rel K T W0 H0 W H σ δ h) : Rel K T W0 H0 W H [] [] h :=
  { R with
    len := rfl
    sl := fun i x e => by simp [getS] at e }
theorem spc_gen {m : List Vv → Hh → Ev Vv} {as : List Vv} {vs : List V} {o : Rs Vv × Hh} {Q : VK} {E : XK} (R : Rel K T W0 H0 W H σ δ h) (rv : RvL K W as vs) (em : m as h = some o) (q : PostE K T W0 H0 W σ δ o Q E) : SpC K T m vs H Q E := by
  obtain ⟨r, h'⟩ := o
  refine ⟨as, h, W, r, h', R.here.bare, rv, em, fun W' H' R' => ?_⟩
  have R2 := R.back (Same.refl _) R'
  cases r with
  | ok x => exact fun v r => q v W' H' R2 R'.up r
  | ex e => exact fun cls d x => q cls d W' H' R2 R'.up x
theorem CellR.at1 {W' : Wd} {H' : Hp} {a : Addr} (e : W.Le W') (hb : W.B a = none → W'.B a = none) (hh : ∀ o, (∀ ps, o ≠ .tbl ps) → H a = some o → H' a = some o) {o : Ob} (c : CellR K W H a o) : CellR K W' H' a o := by
  cases o with
  | lst xs =>
    obtain ⟨c1, vs, c2, c3⟩ := c
    exact ⟨hb c1, vs, hh _ (fun _ z => by cases z) c2, RvL.mono e c3⟩
  | dct xs =>
    obtain ⟨c1, vs, c2, c3⟩ := c
    exact ⟨hb c1, vs, hh _ (fun _ z => by cases z) c2, RvK.mono e c3⟩
  | ins C fs =>
    obtain ⟨c1, Ca, dx, vs, c0, c2, c3⟩ := c
    exact ⟨hb c1, Ca, dx, vs, c0, hh _ (fun _ z => by cases z) c2, RvF.mono e c3⟩
  | dead => trivial
/-! ### cells that are handed over -/
def adr (W : Wd) (n : Nat) : Addr := W.φ.getD n 0
theorem adr_at {n : Nat} {a : Addr} (e : W.φ[n]? = some a) : adr W n = a := by
  unfold adr
  rw [List.getD_eq_getElem?_getD, e] <;> rfl
def adrs (W : Wd) (as : List Vv) : List Addr := (refsOf as).map (adr W)
theorem rv_renum : ∀ {as : List Vv} {vs : List V} {pre : List Addr}, RvL K W as vs → RvL K ⟨W.B, pre ++ adrs W as⟩ (renum as pre.length) vs
  | [], _, _, .nil => .nil
  | .d x :: as, _, pre, .cons r t => .cons r (rv_renum (as := as) t)
  | .r n :: as, _, pre, .cons r t => by
    obtain ⟨a, ha, rfl⟩ := r
    refine .cons ⟨a, ?_, rfl⟩ ?_
    · show (pre ++ (adr W n :: adrs W as))[pre.length]? = some a
      rw [List.getElem?_append_right (Nat.le_refl _), Nat.sub_self, adr_at ha]
      rfl
    · have z := rv_renum (as := as) (pre := pre ++ [adr W n]) t
      rw [List.length_append, List.length_singleton, List.append_assoc] at z
      exact z
theorem closed_rv {W' : Wd} (e : Same W.B W'.B) : ∀ {xs : List Vv} {vs : List V}, xs.all closedV = true → RvL K W xs vs → RvL K W' xs vs
  | [], _, _, .nil => .nil
  | .d x :: xs, _, c, .cons r t => by
    rw [List.all_cons, Bool.and_eq_true] at c
    exact .cons (Dv.mono e r) (closed_rv e c.2 t)
  | .r n :: xs, _, c, _ => by
    rw [List.all_cons, Bool.and_eq_true] at c
    exact nomatch c.1
theorem closed_rk {W' : Wd} (e : Same W.B W'.B) : ∀ {xs : List (PyData × Vv)} {vs : List (Key × V)}, (xs.all fun p => closedV p.2) = true → RvK K W xs vs → RvK K W' xs vs
  | [], _, _, .nil => .nil
  | (y, .d x) :: xs, _, c, .cons r t => by
    rw [List.all_cons, Bool.and_eq_true] at c
    exact .cons ⟨r.1, Dv.mono e r.2⟩ (closed_rk e c.2 t)
  | (y, .r n) :: xs, _, c, _ => by
    rw [List.all_cons, Bool.and_eq_true] at c
    exact nomatch c.1
theorem closed_rf {W' : Wd} (e : Same W.B W'.B) : ∀ {xs : List (Str × Vv)} {vs : List (Str × V)}, (xs.all fun p => closedV p.2) = true → RvF K W xs vs → RvF K W' xs vs
  | [], _, _, .nil => .nil
  | (y, .d x) :: xs, _, c, .cons r t => by
    rw [List.all_cons, Bool.and_eq_true] at c
    exact .cons ⟨r.1, Dv.mono e r.2⟩ (closed_rf e c.2 t)
  | (y, .r n) :: xs, _, c, _ => by
    rw [List.all_cons, Bool.and_eq_true] at c
    exact nomatch c.1
theorem closed_cell {W' : Wd} {a : Addr} (e : Same W.B W'.B) (hb : W.B a = none → W'.B a = none) {o : Ob} (c : closedO o = true) (r : CellR K W H a o) : CellR K W' H a o := by
  cases o with
  | lst xs =>
    obtain ⟨r1, vs, r2, r3⟩ := r
    exact ⟨hb r1, vs, r2, closed_rv e c r3⟩
  | dct xs =>
    obtain ⟨r1, vs, r2, r3⟩ := r
    exact ⟨hb r1, vs, r2, closed_rk e c r3⟩
  | ins C fs =>
    obtain ⟨r1, Ca, dx, vs, r0, r2, r3⟩ := r
    exact ⟨hb r1, Ca, dx, vs, r0, r2, closed_rf e c r3⟩
  | dead => trivial
theorem nodup_of : ∀ {l : List Nat}, nodupB l = true → l.Nodup
  | [], _ => .nil
  | n :: l, e => by
    simp only [nodupB, Bool.and_eq_true, Bool.not_eq_true'] at e
    refine List.nodup_cons.mpr ⟨fun z => ?_, nodup_of e.2⟩
    rw [List.contains_iff_mem.mpr z] at e
    exact nomatch e.1
theorem gather_at : ∀ {rs : List Nat} {obs : Hh}, gather h rs = some obs → obs.length = rs.length ∧ ∀ (j n : Nat), rs[j]? = some n → ∃ o : Ob, h[n]? = some o ∧ obs[j]? = some o
  | [], obs, e => by
    cases e
    exact ⟨rfl, fun j n z => by simp at z⟩
  | m :: rs, obs, e => by
    simp only [gather] at e
    split at e
    · rename_i o e0
      split at e
      · rename_i os e1
        cases e
        obtain ⟨h1, h2⟩ := gather_at e1
        refine ⟨by rw [List.length_cons, List.length_cons, h1], fun j n z => ?_⟩
        cases j with
        | zero =>
          cases Option.some.inj z
          exact ⟨o, e0, rfl⟩
        | succ j => exact h2 j n z
      · cases e
    · cases e
theorem put_len : ∀ (rs : List Nat) (os h : Hh), (putBack h rs os).length = h.length
  | [], os, h => by simp [putBack]
  | n :: rs, [], h => by simp [putBack]
  | n :: rs, o :: os, h => by
    simp only [putBack]
    rw [put_len rs os (h.set n o), List.length_set]
theorem put_other : ∀ (rs : List Nat) (os h : Hh) {n : Nat}, n ∉ rs → (putBack h rs os)[n]? = h[n]?
  | [], os, h, n, _ => by simp [putBack]
  | m :: rs, [], h, n, _ => by simp [putBack]
  | m :: rs, o :: os, h, n, hn => by
    simp only [putBack]
    rw [put_other rs os (h.set m o) (fun z => hn (List.mem_cons_of_mem _ z)), List.getElem?_set_ne (fun z => hn (by rw [z]; exact List.mem_cons_self))]
theorem put_at : ∀ (rs : List Nat) (os h : Hh) {j n : Nat} {o : Ob}, rs.Nodup → rs[j]? = some n → os[j]? = some o → n < h.length → (putBack h rs os)[n]? = some o
  | [], os, h, j, n, o, _, e, _, _ => by simp at e
  | m :: rs, [], h, j, n, o, _, _, e, _ => by simp at e
  | m :: rs, u :: os, h, 0, n, o, hd, e1, e2, l => by
    cases Option.some.inj e1
    cases Option.some.inj e2
    simp only [putBack]
    rw [put_other rs os _ (List.nodup_cons.mp hd).1, List.getElem?_set_self l]
  | m :: rs, u :: os, h, j + 1, n, o, hd, e1, e2, l => by
    simp only [putBack]
    exact put_at rs os (h.set m u) (List.nodup_cons.mp hd).2 e1 e2 (by rw [List.length_set]; exact l)
theorem mem_at {l : List Nat} {n : Nat} (h : n ∈ l) : ∃ j : Nat, l[j]? = some n := by
  obtain ⟨j, hj, e⟩ := List.mem_iff_getElem.mp h
  exact ⟨j, by rw [List.getElem?_eq_getElem hj, e]⟩
theorem refs_lt : ∀ {as : List Vv} {vs : List V}, RvL K W as vs → ∀ n ∈ refsOf as, ∃ a, W.φ[n]? = some a
  | [], _, .nil, n, hn => by simp [refsOf] at hn
  | .d x :: as, _, .cons _ t, n, hn => refs_lt t n hn
  | .r m :: as, _, .cons r t, n, hn => by
    rcases List.mem_cons.mp hn with rfl | hn
    · obtain ⟨a, ha, _⟩ := r
      exact ⟨a, ha⟩
    · exact refs_lt t n hn
theorem spc_cells {m : List Vv → Hh → Ev Vv} {as : List Vv} {vs : List V} {o : Rs Vv × Hh} {Q : VK} {E : XK} (R : Rel K T W0 H0 W H σ δ h) (rv : RvL K W as vs) (em : cellCall m as h = some o) (q : PostE K T W0 H0 W σ δ o Q E) : SpC K T m vs H Q E := by
  unfold cellCall at em
  obtain ⟨hnd, em⟩ := ite_some' em
  have hnd := nodup_of hnd
  split at em
  · rename_i obs eg
    obtain ⟨hcl, em⟩ := ite_some' em
    split at em
    · rename_i r obs' er
      obtain ⟨hcl2, em⟩ := ite_some' em
      rw [Bool.and_eq_true] at hcl2
      obtain ⟨hcl2, hlen⟩ := hcl2
      replace hlen := of_decide_eq_true hlen
      obtain ⟨g1, g2⟩ := gather_at eg
      have refs := refs_lt rv
      -- the addresses
      have aat : ∀ j n, (refsOf as)[j]? = some n → ∃ a, W.φ[n]? = some a ∧ (adrs W as)[j]? = some a := fun j n e => by
        obtain ⟨a, ha⟩ := refs n (List.mem_of_getElem? e)
        refine ⟨a, ha, ?_⟩
        unfold adrs
        rw [List.getElem?_map, e]
        show some (adr W n) = some a
        rw [adr_at ha]
      have alen : (adrs W as).length = (refsOf as).length := by unfold adrs; exact List.length_map _
      have afrom : ∀ {j : Nat} {a : Addr}, (adrs W as)[j]? = some a → ∃ n, (refsOf as)[j]? = some n ∧ W.φ[n]? = some a := fun {j a} e => by
        have l := (List.getElem?_eq_some_iff.mp e).1
        rw [alen] at l
        obtain ⟨a', h1, h2⟩ := aat j _ (List.getElem?_eq_getElem l)
        rw [e] at h2
        cases h2
        exact ⟨_, List.getElem?_eq_getElem l, h1⟩
      have asub : ∀ a ∈ adrs W as, a ∈ W.φ := fun a ha => by
        obtain ⟨j, e, z⟩ := List.mem_iff_getElem.mp ha
        obtain ⟨n, _, h2⟩ := afrom (j := j) (a := a) (by rw [List.getElem?_eq_getElem e, z])
        exact List.mem_of_getElem? h2
      have anot : ∀ {n : Nat} {a : Addr}, W.φ[n]? = some a → n ∉ refsOf as → a ∉ adrs W as := fun {n a} ha hn hm => by
        obtain ⟨j, e, z⟩ := List.mem_iff_getElem.mp hm
        obtain ⟨n', h1, h2⟩ := afrom (j := j) (a := a) (by rw [List.getElem?_eq_getElem e, z])
        have e2 := nodup_at R.nd ha h2
        subst e2
        exact hn (List.mem_of_getElem? h1)
      have and_ : (adrs W as).Nodup := by
        unfold adrs
        have gen : ∀ {rs : List Nat}, rs.Nodup → (∀ n ∈ rs, ∃ a, W.φ[n]? = some a) → (rs.map (adr W)).Nodup := by
          intro rs
          induction rs with
          | nil => intro _ _; exact .nil
          | cons m rs ih =>
            intro hd hr
            obtain ⟨d1, d2⟩ := List.nodup_cons.mp hd
            refine List.nodup_cons.mpr ⟨fun z => ?_, ih d2 fun n hn => hr n (List.mem_cons_of_mem _ hn)⟩
            obtain ⟨n, hn, e⟩ := List.mem_map.mp z
            obtain ⟨a, ha⟩ := hr m List.mem_cons_self
            obtain ⟨b, hb⟩ := hr n (List.mem_cons_of_mem _ hn)
            rw [adr_at ha, adr_at hb] at e
            subst e
            have e2 := nodup_at R.nd ha hb
            subst e2
            exact d1 hn
        exact gen hnd refs
      have R1 : Rel K T ⟨W.B, adrs W as⟩ H ⟨W.B, adrs W as⟩ H [] [] obs := {
        fr := .refl _ _
        tl := fun b ps q z => by rw [q] at z; cases z
        ext := R.ext
        up := Wd.Le.refl _
        new := fun a o e => .inl ⟨o, e⟩
        fsh := fun a ha => .inl ha
        len := rfl
        sl := fun i x e => by simp [getS] at e
        hl := by rw [g1]; exact alen.symm
        cell := fun j ob a e1 e2 => by
          obtain ⟨n, h1, h2⟩ := afrom e2
          obtain ⟨ob', h3, h4⟩ := g2 j n h1
          rw [e1] at h4
          cases h4
          exact closed_cell (W := W) (W' := ⟨W.B, adrs W as⟩) (Same.refl W.B) (fun z => z) (List.all_eq_true.mp hcl ob (List.mem_of_getElem? e1)) (R.cell n ob a h3 h2)
        nd := and_
        ev := fun a ha => R.ev a (asub a ha)
        tb := R.tb
        nt := R.nt }
      refine ⟨renum as 0, obs, _, r, obs', R1, ?_, er, fun W' H' R' => ?_⟩
      · have z := rv_renum (pre := []) rv
        rw [List.nil_append] at z
        exact z
      -- back
      have bnone : ∀ {n : Nat} {a : Addr}, W.φ[n]? = some a → n ∉ refsOf as → W.B a = none → W'.B a = none := fun {n a} ha hn hb => by
        cases z : W'.B a with
        | none => rfl
        | some u =>
          rcases R'.new a u z with ⟨u', z'⟩ | z' | z'
          · have z' : W.B a = some u' := z'
            rw [hb] at z'; cases z'
          · obtain ⟨o3, k1, _⟩ := R.ev a (List.mem_of_getElem? ha)
            rw [z'] at k1; cases k1
          · exact absurd z' (anot ha hn)
      have le : W.Le ⟨W'.B, W.φ⟩ := ⟨R'.up.b, [], (List.append_nil _).symm⟩
      have phi : ∀ {j : Nat} {a : Addr}, (adrs W as)[j]? = some a → W'.φ[j]? = some a := fun e => R'.up.get e
      have R2 : Rel K T W0 H0 ⟨W'.B, W.φ⟩ H' σ δ (putBack h (refsOf as) obs') := {
        nt := R'.nt
        fr := fun b u nb nt e => by
          have e2 := R.fr b u nb nt e
          by_cases hm : b ∈ W.φ
          · rcases R.fsh b hm with z | z
            · exact absurd z nb
            · rw [z] at e; cases e
          · exact R'.fr b u (fun z => hm (asub b z)) nt e2
        tl := fun b ps q z => by
          by_cases hm : b ∈ W.φ
          · rcases R.fsh b hm with w | w
            · obtain ⟨o3, k1, p1⟩ := R.ev b hm
              by_cases hm2 : b ∈ adrs W as
              · obtain ⟨o4, k2, _⟩ := R'.ev b (R'.up.mem hm2)
                rw [k2] at z; cases z
              · rw [R'.fr b o3 hm2 p1.1 k1] at z; cases z
            · rw [w] at q; cases q
          · exact R.tl b ps q (R'.fr.fresh R'.tl (fun z => hm (asub b z)) z)
        ext := R'.ext
        up := R.up.trans le
        new := fun a u e => by
          rcases R'.new a u e with ⟨u', z⟩ | z | z
          · exact R.new a u' z
          · exact .inr (.inl (R.free z).1)
          · rcases R.fsh a (asub a z) with w | w
            · exact .inr (.inr w)
            · exact .inr (.inl w)
        fsh := R.fsh
        len := R.len
        sl := fun i x e => let ⟨v, k1, k2⟩ := R.sl i x e; ⟨v, k1, k2.mono le⟩
        hl := by rw [put_len]; exact R.hl
        cell := fun n ob a e1 e2 => by
          by_cases hm : n ∈ refsOf as
          · obtain ⟨j, ej⟩ := mem_at hm
            obtain ⟨a', k1, k2⟩ := aat j n ej
            have e2 : W.φ[n]? = some a := e2
            rw [e2] at k1
            cases k1
            have jl := (List.getElem?_eq_some_iff.mp ej).1
            have jo : j < obs'.length := by omega
            have lt : n < h.length := by rw [R.hl]; exact (List.getElem?_eq_some_iff.mp e2).1
            have eo := List.getElem?_eq_getElem jo
            rw [put_at _ _ _ hnd ej eo lt] at e1
            cases e1
            have cl : closedO obs'[j] = true := List.all_eq_true.mp hcl2 _ (List.mem_of_getElem? (i := j) (by rw [List.getElem?_take_of_lt jl]; exact eo))
            exact closed_cell (W := W') (W' := ⟨W'.B, W.φ⟩) (Same.refl W'.B) (fun z => z) cl (R'.cell j _ a eo (phi k2))
          · rw [put_other _ _ _ hm] at e1
            have e2 : W.φ[n]? = some a := e2
            have hna := anot e2 hm
            exact (R.cell n ob a e1 e2).at1 le (bnone e2 hm) fun u nt z => R'.fr a u hna nt z
        nd := R.nd
        ev := fun a ha => by
          obtain ⟨o3, k1, p1⟩ := R.ev a ha
          by_cases hm : a ∈ adrs W as
          · exact R'.ev a (R'.up.mem hm)
          · exact ⟨o3, R'.fr a o3 hm p1.1 k1, p1⟩
        tb := R'.tb }
      cases r with
      | ex e =>
        cases em
        exact fun cls d x => q cls d _ H' R2 le x
      | ok x =>
        cases x with
        | d z =>
          cases em
          exact fun v rz => q v _ H' R2 le rz
        | r j =>
          intro v rz
          obtain ⟨a, ha, rfl⟩ := rz
          unfold finC at em
          split at em
          · cases ‹Rs.ok (Vv.r j) = Rs.ex _›
          · cases ‹Rs.ok (Vv.r j) = Rs.ok (Vv.d _)›
          · rename_i j' ej
            cases ej
            split at em
            · cases em
            · rename_i hj
              split at em
              · rename_i ob eo
                obtain ⟨hc, em⟩ := ite_some em
                cases em
                -- the new cell
                have hfree : a ∉ W.φ := fun hm => by
                  rcases R'.fsh a (List.mem_of_getElem? ha) with z | z
                  · obtain ⟨j2, l2, z2⟩ := List.mem_iff_getElem.mp z
                    have e2 := nodup_at R'.nd ha (phi (j := j2) (by rw [List.getElem?_eq_getElem l2, z2]))
                    have l2 : j2 < (adrs W as).length := l2
                    rw [alen] at l2
                    omega
                  · obtain ⟨o3, k1, _⟩ := R.ev a hm
                    rw [z] at k1; cases k1
                have hH : H a = none := by
                  rcases R'.fsh a (List.mem_of_getElem? ha) with z | z
                  · exact absurd (asub a z) hfree
                  · exact z
                have le2 : (⟨W'.B, W.φ⟩ : Wd).Le ⟨W'.B, W.φ ++ [a]⟩ := ⟨Same.refl _, [a], rfl⟩
                refine q _ ⟨W'.B, W.φ ++ [a]⟩ H' ?_ (le.trans le2) ⟨a, ?_, rfl⟩
                · exact {
                    nt := R2.nt
                    fr := R2.fr
                    tl := R2.tl
                    ext := R2.ext
                    up := R2.up.trans le2
                    new := R2.new
                    fsh := fun b hb => by
                      rcases List.mem_append.mp hb with z | z
                      · exact R2.fsh b z
                      · rw [List.mem_singleton] at z
                        subst z
                        exact .inr (R.free hH).1
                    len := R2.len
                    sl := fun i x e => let ⟨v, k1, k2⟩ := R2.sl i x e; ⟨v, k1, k2.mono le2⟩
                    hl := by rw [List.length_append, R2.hl]; show _ = (W.φ ++ [a]).length; rw [List.length_append] <;> rfl
                    cell := fun n ob' b e1 e2 => by
                      have e2 : (W.φ ++ [a])[n]? = some b := e2
                      have hl2 : (putBack h (refsOf as) obs').length = W.φ.length := R2.hl
                      by_cases l : n < W.φ.length
                      · rw [List.getElem?_append_left (by rw [hl2]; exact l)] at e1
                        rw [List.getElem?_append_left l] at e2
                        exact (R2.cell n ob' b e1 e2).at1 le2 id fun _ _ z => z
                      · have ln : n = W.φ.length := by
                          have := (List.getElem?_eq_some_iff.mp e2).1
                          rw [List.length_append, List.length_singleton] at this
                          omega
                        subst ln
                        rw [List.getElem?_append_right (Nat.le_refl _), Nat.sub_self] at e2
                        cases Option.some.inj e2
                        rw [List.getElem?_append_right (by rw [hl2] <;> exact Nat.le_refl _), hl2, Nat.sub_self] at e1
                        cases Option.some.inj e1
                        exact closed_cell (W := W') (W' := ⟨W'.B, W.φ ++ [a]⟩) (Same.refl W'.B) (fun z => z) hc (R'.cell j _ a eo ha)
                    nd := List.nodup_append.mpr ⟨R.nd, by simp, fun b hb c hc z => by
                      rw [List.mem_singleton] at hc
                      subst hc; subst z
                      exact hfree hb⟩
                    ev := fun b hb => by
                      rcases List.mem_append.mp hb with z | z
                      · exact R2.ev b z
                      · rw [List.mem_singleton] at z
                        subst z
                        exact R'.ev b (List.mem_of_getElem? ha)
                    tb := R'.tb }
                · have hl2 : (putBack h (refsOf as) obs').length = W.φ.length := R2.hl
                  show (W.φ ++ [a])[_]? = some a
                  rw [hl2, List.getElem?_append_right (Nat.le_refl _), Nat.sub_self]
                  rfl
              · cases em
    · cases em
  · cases em
end
end Nv


set_option Elab.async false
set_option linter.all false
set_option maxRecDepth 100000
set_option maxHeartbeats 8000000
/-! Lambdas with or without a default: made, called. -/
namespace Nv
open PySem PySem.Spec PyProof.Rows L2 LamX
section
variable {X : Cx} {pins : List (Addr × Obj)} {σ : L2.St} {H : Hp} {s : Shared} {N : List Str}
theorem LamN.has {scope : Scope} (L : LamN N X.env.scope scope) (ok : X.Ok) : ∀ y ∈ scope.names, y.2 = .free → ∃ c, X.env.cells.lookup y.1 = some c := fun y hy e =>
  (L.free y hy e).elim (fun k => ok.has _ (.inl k)) fun k => ok.has _ (.inr k)
abbrev lamQ (X : Cx) : Str := X.env.qual ++ "<lambda>"
abbrev lamO (X : Cx) (params : Arguments) (body : Expr) (scope : Scope) (dV doc pm : Value) (c' : Addr) (ctv : Value) : Obj :=
  PySem.W.kdv_obj "<lambda>" (lamQ X) params (.expr body) scope (cloFrom X.env.cells scope.names []) dV doc pm c' ctv
/-- what is known behind the making -/
structure Made (X : Cx) (T : List (Addr × Str)) (pins : List (Addr × Obj)) (σ : L2.St) (H : Hp) (s : Shared) (params : Arguments) (body : Expr) (scope : Scope) (dV : Value) (f : Addr) (s' : Shared) : Prop where
  ex : ∃ (c' : Addr) (doc pm ctv : Value) (H1 : Hp), Inv X pins σ H1 s' ∧ ExtN H H1 ∧ Tabs T H1 ∧ s'.heap.get? f = some (lamO X params body scope dV doc pm c' ctv) ∧ H1 f = none ∧ f ∉ frs X.stack ∧ H1 c' = some (CodeO c' (lamQ X)) ∧ (∀ b, b < s.heap.objs.size → H b = none → H1 b = none) ∧ ∀ b ps, H b = some (.tbl ps) → H1 b ≠ none
  old : ∀ b o, s.heap.get? b = some o → H b = none → s'.heap.get? b = some o
theorem tail_made {T : List (Addr × Str)} {c P : Addr} {params : Arguments} {body : Expr} {scope : Scope} {pos : Pos} {dV : Value} {E Q : Value → Shared → Prop} (I : Inv X pins σ H s) (TB : TabB X.base X.mg c P) (hcode : X.env.code = .ref c)
    (hm : (P, lamQ X) ∈ T) (hu : ∀ p ∈ T, p.1 = P → p.2 = lamQ X) (hT : Tabs T H) (hfree : ∀ y ∈ scope.names, y.2 = .free → ∃ c, X.env.cells.lookup y.1 = some c)
    (h : ∀ (f : Addr) (s' : Shared) (H1 : Hp), (∀ a, H a = none → True) → Made X T pins σ H s params body scope dV f s' → Q (.ref f) s') :
    wpAny (model X.prog X.w) X.A (makeTail "<lambda>" (lamQ X) params (.expr body) scope X.env dV .none none pos pos.line) Q E s := by
  obtain ⟨ps, hP, ht, ha⟩ := hT _ hm
  have bP : s.heap.BuiltinsAt X.mg P := TB.bm.keeps I.bk
  have hP' : s.heap.get? P = some { cls := .none, data := .fields ps } := I.hok P _ hP
  have stk : ∀ g, s.heap.objs.size ≤ g → g ∉ frs X.stack := by
    intro g hg z
    cases List.mem_cons.mp (I.stkSub _ z) with
    | inl e =>
      have l := I.lt
      rw [← e] at l
      exact Nat.lt_irrefl _ (Nat.lt_of_lt_of_le l hg)
    | inr e => exact I.nofs hg e
  cases hc : codeAmong pos ps.toList with
  | some cv =>
    obtain ⟨c', rfl, hco⟩ := ha pos cv hc
    refine PySem.W.kdv_makeTailHit (mg := X.mg) (c := c) (P := P) (ps := ps) (closure_ok hfree) I.ok.glob (I.mod.glob.keeps I.bk) hcode (TB.code.keeps I.bk) hP' ht hc bP ?_
    intro ctv doc h' tk hx hsz
    refine h _ _ H (fun _ _ => trivial) ⟨⟨c', doc, _, ctv, H, I.kept fun b o e => Heap.get?_push_of_some _ (hx b o e), ExtN.refl H, hT, Heap.get?_push_size _ rfl, I.hok.fresh hsz, stk _ hsz, hco, fun _ _ n => n, fun b qs e z => by rw [e] at z; cases z⟩, fun b o e _ => Heap.get?_push_of_some _ (hx b o e)⟩
  | none =>
    refine PySem.W.kdv_makeTail (mg := X.mg) (c := c) (P := P) (ps := ps) (closure_ok hfree) I.ok.glob (I.mod.glob.keeps I.bk) hcode (TB.code.keeps I.bk) hP' ht hc TB.gP bP ?_
    intro c' ctv doc h' tk hx hge hlt hrec htb
    obtain ⟨c2, oc, vs, t, e2, hoc, hd, hv⟩ := hrec
    cases e2
    have hsz : s.heap.objs.size ≤ h'.objs.size := by omega
    have nC : H c' = none := I.hok.fresh hge
    have mv := inv_table (t' := tk) (more := #[rawInt pos.line, rawInt pos.col, .ref c']) (h' := h'.push (lamO X params body scope dV doc ((X.mg "__name__").getD .none) c' ctv)) I hP
      (fun b o hb e => Heap.get?_push_of_some _ (hx b o hb e)) (Heap.get?_push_of_some _ htb) hge ⟨oc, vs, t, Heap.get?_push_of_some _ hoc, hd, hv⟩
    have ext : ExtN H (upd (upd H P (.tbl (ps ++ #[rawInt pos.line, rawInt pos.col, .ref c']))) c' (CodeO c' (lamQ X))) := by
      intro b o e n
      have n2 : b ≠ P := fun z => by
        rw [z, hP] at e
        exact n ps (Option.some.inj e).symm
      rw [upd_ne (ne_of_none e nC), upd_ne n2]
      exact e
    have rows : (ps ++ #[rawInt pos.line, rawInt pos.col, .ref c']).toList = ps.toList ++ [rawInt pos.line, rawInt pos.col, .ref c'] := by simp
    have tabs : Tabs T (upd (upd H P (.tbl (ps ++ #[rawInt pos.line, rawInt pos.col, .ref c']))) c' (CodeO c' (lamQ X))) := by
      intro p hp
      by_cases hb : p.1 = P
      · rw [hu p hp hb, hb]
        refine ⟨_, by rw [upd_ne (ne_of_none hP nC), upd_same], by rw [rows]; exact PySem.TriplesOk_snoc _ _ _ _ ht, fun p' cv hcv => ?_⟩
        rw [rows] at hcv
        cases among_app _ ht hcv with
        | inl z =>
          obtain ⟨c0, k1, k2⟩ := ha p' cv z
          exact ⟨c0, k1, ext _ _ k2 codeO_ne⟩
        | inr z => exact ⟨c', z, upd_same⟩
      · obtain ⟨ps', a1, a2, a3⟩ := hT p hp
        refine ⟨ps', by rw [upd_ne (ne_of_none a1 nC), upd_ne hb]; exact a1, a2, fun p' cv hcv => ?_⟩
        obtain ⟨c0, k1, k2⟩ := a3 p' cv hcv
        exact ⟨c0, k1, ext _ _ k2 codeO_ne⟩
    have nf : upd (upd H P (.tbl (ps ++ #[rawInt pos.line, rawInt pos.col, .ref c']))) c' (CodeO c' (lamQ X)) h'.objs.size = none := by
      have lP := Heap.lt_size hP'
      rw [upd_ne (Nat.ne_of_gt hlt), upd_ne (Nat.ne_of_gt (Nat.lt_of_lt_of_le lP hsz))]
      exact I.hok.fresh hsz
    refine h _ _ H (fun _ _ => trivial) ⟨⟨c', doc, _, ctv, _, mv, ext, tabs, Heap.get?_push_size _ rfl, nf, stk _ hsz, upd_same, fun b hb n => by rw [upd_ne (Nat.ne_of_lt (Nat.lt_of_lt_of_le hb hge)), upd_ne (fun z => by rw [z, hP] at n; cases n)]; exact n, fun b qs e z => ?_⟩, fun b o e n => Heap.get?_push_of_some _ (hx b o (fun z => ?_) e)⟩
    · rw [upd_ne (ne_of_none e nC)] at z
      by_cases w : b = P
      · rw [w, upd_same] at z
        cases z
      · rw [upd_ne w, e] at z
        cases z
    rw [z, hP] at n
    cases n
/-- how its call binds, from then on -/
def BindL (X : Cx) (params : Arguments) (body : Expr) (scope : Scope) (dV : Value) (H1 : Hp) (s' : Shared) (binds : List (Str × Value)) : Prop :=
  ∀ (s1 : Shared) (doc pm cv ctv : Value), (∀ b o, s'.heap.get? b = some o → H1 b = none → b ∉ frs X.stack → s1.heap.get? b = some o) →
    BindsTo s1 (PySem.W.kdv_fn "<lambda>" (lamQ X) params (.expr body) scope (cloFrom X.env.cells scope.names []) dV doc pm cv ctv) ⟨[], []⟩ binds
theorem lam_made {T : List (Addr × Str)} {c P : Addr} {params : Arguments} {body : Expr} {scope : Scope} {pos : Pos} {Q : Value → Shared → Prop} (I : Inv X pins σ H s) (TB : TabB X.base X.mg c P) (hcode : X.env.code = .ref c)
    (hm : (P, lamQ X) ∈ T) (hu : ∀ p ∈ T, p.1 = P → p.2 = lamQ X) (hT : Tabs T H) (hfree : ∀ y ∈ scope.names, y.2 = .free → ∃ c, X.env.cells.lookup y.1 = some c) (LP : LamP params body scope)
    (h : ∀ (f c' : Addr) (dV doc pm ctv : Value) (H1 : Hp) (s' : Shared) (binds : List (Str × Value)), Inv X pins σ H1 s' → ExtN H H1 → Tabs T H1 → (∀ b ps, H b = some (.tbl ps) → H1 b ≠ none) → s'.heap.get? f = some (lamO X params body scope dV doc pm c' ctv) → H1 f = none → f ∉ frs X.stack → H1 c' = some (CodeO c' (lamQ X)) →
      BindL X params body scope dV H1 s' binds → (∀ y ∈ binds, scope.names.lookup y.1 = some .local) → Q (.ref f) s') :
    wpAny (model X.prog X.w) X.A (eval (.Lambda params body scope pos) X.env) Q X.xe s := by
  cases LP with
  | non hd hb =>
    refine PySem.W.kla_eval (hd X.env) ?_
    rw [makeFunction_eq]
    simp only [List.zip_nil_right, List.filterMap_nil, List.isEmpty_nil, if_true, pure_bind]
    refine tail_made I TB hcode hm hu hT hfree fun f s' _ _ m => ?_
    obtain ⟨c', doc, pm, ctv, H1, I1, e1, t1, g1, n1, st1, k1, _, ht⟩ := m.ex
    exact h f c' .none doc pm ctv H1 s' [] I1 e1 t1 ht g1 n1 st1 k1 (fun s1 doc pm cv ctv _ => .of_eq (hb _ _ _ _ _ _)) fun y hy => nomatch hy
  | one y i j p hd hk hy hb =>
    refine PySem.W.kdv_lam (by rw [hd]; rfl) hk ?_
    rw [hd]
    refine PySem.W.kdv_all1 ?_
    refine wpAny_mono ((pe_int (X := X) (i := i) (j := j) (pos := p)).run pins s σ H (fun v H' => v = .int i ∧ H' = H) I ⟨rfl, rfl⟩) (fun u s1 hu1 => ?_) fun _ _ z => ?_
    · obtain ⟨v, H', I1, rv, rfl, rfl⟩ := hu1
      refine PySem.W.kdv_all0 ?_
      rw [makeFunction_eq]
      simp only [List.zip_nil_right, List.filterMap_nil, List.isEmpty_nil, List.isEmpty_cons, if_true, pure_bind, Bool.false_eq_true, if_false]
      refine wpAny_bind (wpAny_newTextTuple ?_)
      have I2 : Inv X pins σ H' { s1 with heap := s1.heap.push { cls := .type "tuple", data := .seq ([u] : List Value).toArray } } := I1.kept fun b o e => Heap.get?_push_of_some _ e
      have nT : H' s1.heap.objs.size = none := I1.hok.fresh (Nat.le_refl _)
      refine tail_made I2 TB hcode hm hu hT hfree fun f s' _ _ m => ?_
      obtain ⟨c', doc, pm, ctv, H1, I3, e1, t1, g1, n1, st1, k1, hn, ht⟩ := m.ex
      have old := m.old s1.heap.objs.size _ (Heap.get?_push_size _ rfl) nT
      refine h f c' (.ref s1.heap.objs.size) doc pm ctv H1 s' [(y, u)] I3 e1 t1 ht g1 n1 st1 k1 (fun s2 doc pm cv ctv kp => ?_) fun z hz => ?_
      · obtain ⟨k, b1, b2⟩ := hb (lamQ X) (cloFrom X.env.cells scope.names []) s1.heap.objs.size doc pm cv ctv
        have nT1 : H1 s1.heap.objs.size = none := hn _ (by simp [Heap.push]) nT
        have nS : s1.heap.objs.size ∉ frs X.stack := by
          intro z
          cases List.mem_cons.mp (I1.stkSub _ z) with
          | inl e =>
            have l := I1.lt
            rw [← e] at l
            exact Nat.lt_irrefl _ l
          | inr e => exact I1.nofs (Nat.le_refl _) e
        exact BindsTo.of_defaults (T := s1.heap.objs.size) rfl (kp _ _ old nT1 nS) rfl b1 (b2 u)
      · cases List.mem_singleton.mp hz
        exact hy
    · exact z
/-! ### its call -/
/-- the frame of its body -/
theorem lam_start {HZ : Hp} {s1 : Shared} {A : Around} {outer : List Env} {E : XK} {scope : Scope} {f c' : Addr} {h1 : Heap} {tk : Nat} {binds : List (Str × Value)} (I : Inv X pins σ H s) (hN : X.N = N) (L : LamN N X.env.scope scope) (e0 : Env0 X.prog X.w X.K X.mg X.base A outer s1 HZ) (hd : A.handled = none)
    (un : Un (frs X.stack) [] H HZ s.heap s1.heap) (hns : h1.Ns s1.heap.objs.size fun y => binds.reverse.lookup y) (kp : ∀ b o, s1.heap.get? b = some o → h1.get? b = some o) : Inv (lamCx X A outer s1 HZ E scope f c') [] σ HZ { s1 with heap := h1, toks := tk } := by
  have same : ∀ {y c}, (cloFrom X.env.cells scope.names []).lookup y = some c → X.env.cells.lookup y = some c := by
    intro y c e
    cases cloFrom_mem (PySem.mem_of_lookup e) with
    | inl z => cases z
    | inr z =>
      obtain ⟨c1, hc⟩ := L.has I.ok _ z.1 rfl
      have hc : X.env.cells.lookup y = some c1 := hc
      have z2 := z.2
      rw [hc] at z2
      have z2 : c = c1 := z2
      rw [z2]
      exact hc
  have into : ∀ {y}, scope.names.lookup y = some .free → ∃ c, (cloFrom X.env.cells scope.names []).lookup y = some c := by
    intro y hl
    exact mem_lookup (cloFrom_has (cells := X.env.cells) (acc := []) (show (y, NameKind.free) ∈ scope.names from PySem.mem_of_lookup hl))
  have stays : ∀ {c : Addr} {v : Option Value}, H c = none → s.heap.IsCell c v → h1.IsCell c v := by
    intro c v n z
    obtain ⟨o, ho, hd⟩ := z
    obtain ⟨sl, q⟩ := un.any ho n (fun z => nomatch z)
    exact ⟨_, kp _ _ q, hd⟩
  have none_ : ∀ b : Addr, ¬ b ∈ (lamCx X A outer s1 HZ E scope f c').ex := by
    intro b z
    exact nomatch (show b ∈ ([] : List Addr) from z)
  have fr : ∀ y, scope.names.lookup y = some .free → X.env.scope.names.lookup y = some .cell ∨ X.env.scope.names.lookup y = some .free := fun y k => L.free _ (PySem.mem_of_lookup k) rfl
  have okL : (lamCx X A outer s1 HZ E scope f c').Ok := by
    refine ⟨e0.mod, L.kind, rfl, rfl, Nat.le_refl _, ?_, ?_, ?_, fun _ => hd, Around.frames_deeper e0.frames, .inr ⟨rfl, rfl⟩, ?_, e0.bs, e0.bsz, fun b _ _ => none_ b, ?_, e0.funs, e0.frf⟩
    · exact fun y z c e1 e2 => I.ok.inj y z c (same e1) (same e2)
    · intro y hy
      have hy : scope.names.lookup y = some .cell ∨ scope.names.lookup y = some .free := hy
      cases hy with
      | inl k => exact absurd rfl (L.own _ (PySem.mem_of_lookup k)).1
      | inr k => exact into k
    · intro y c z
      exact fun _ => nomatch (show false = true from z)
    · exact fun b z => absurd z (none_ b)
    · exact fun b z => absurd z (none_ b)
  refine { ok := okL, os := rfl, bare := e0.bare, base := Un.kept kp, loc := ⟨_, hns, ?_⟩, cell := ?_, free := e0.hok.fresh (Nat.le_refl _), freeC := ?_, pin := fun q hq => (nomatch (show q ∈ ([] : List (Addr × Obj)) from hq)), hok := e0.hok.kept kp, len := I.len }
  · intro i y v e1 e2 e3
    have e3 : Vis scope y := e3
    have e1 : X.N[i]? = some y := e1
    rcases e3 with k | k | k
    · exact absurd (by rw [← hN]; exact List.mem_of_getElem? e1) ((L.own _ (PySem.mem_of_lookup k)).2 rfl)
    · exact absurd rfl (L.own _ (PySem.mem_of_lookup k)).1
    · obtain ⟨m, _, look⟩ := I.loc
      obtain ⟨u, r, q⟩ := look i y v e1 e2 ((fr y k).elim (fun z => .inr (.inl z)) fun z => .inr (.inr z))
      obtain ⟨c2, h2⟩ := into k
      have c1 := same h2
      refine ⟨u, r, .inr ⟨.inr k, c2, h2, ?_⟩⟩
      rcases q with ⟨k1, _⟩ | ⟨_, c3, e4, z⟩
      · have k1 : X.env.scope.names.lookup y = some .local := k1
        cases fr y k with
        | inl k2 => rw [k2] at k1; cases k1
        | inr k2 => rw [k2] at k1; cases k1
      · rw [c1] at e4
        cases e4
        exact stays (I.freeC y _ c1) z
  · intro y c e
    obtain ⟨v, z⟩ := I.cell y c (same e)
    exact ⟨v, stays (I.freeC y c (same e)) z⟩
  · intro y c e
    obtain ⟨v, o, ho, _⟩ := I.cell y c (same e)
    exact un.free c o ho (I.freeC y c (same e)) (fun z => nomatch z)
end
section
variable {Γ : Gam} {F : Fns} {N : List Str} {k : Nat} {T : List (Addr × Str)} {sc : Scope}
theorem lam_run {X : Cx} {pins : List (Addr × Obj)} {σ : L2.St} {H0 H1 : Hp} {s1 : Shared} {W0 W : Wd} {δ : Env_} {h h2 : Hh} {r : Rs Vv} {params : Arguments} {e : Expr} {scope : Scope} {ce : C} {f c' : Addr} {dV doc pm ctv : Value} {binds : List (Str × Value)} (he : SndE Γ F N k T scope e ce) (ok : Ok Γ F N k T X) (hz : lsNe Γ.lsc scope.names.length = true)
    (I1 : Inv X pins σ H1 s1) (L : LamN N X.env.scope scope) (hf : s1.heap.get? f = some (lamO X params e scope dV doc pm c' ctv)) (hfn : H1 f = none) (hfr : f ∉ frs X.stack) (hco : H1 c' = some (CodeO c' (lamQ X))) (hb : BindL X params e scope dV H1 s1 binds) (hbl : ∀ y ∈ binds, scope.names.lookup y.1 = some .local)
    (R : Rel X.K T W0 H0 W H1 σ δ h) (ev : evalE F ce δ h = some (r, h2)) : LamRun X.prog X.w X.K T X.mg X.base k f (frs X.stack) s1 H1 W h r h2 := by
  intro A outer s HZ WZ Q E hr hg e0 un RZ q
  have at1 : s.heap.get? f = some (lamO X params e scope dV doc pm c' ctv) := un.keep f _ hf hfn hfr (fun z => nomatch z)
  have nc : c' ∉ W.φ := fun z => by
    obtain ⟨o, k1, k2⟩ := R.ev c' z
    rw [hco] at k1
    exact k2.2 _ _ (Option.some.inj k1).symm
  have hc := RZ.fr c' _ nc codeO_ne hco
  obtain ⟨⟨oc, vs, t, hoc, hdc, hvc⟩, _, _⟩ := e0.hok c' _ hc
  refine PySem.W.kla_callFunE hr.depth at1 rfl L.co L.gen rfl ⟨c', oc, vs, t, rfl, hoc, hdc, hvc⟩ ?_
  apply hb s doc pm (.ref c') ctv (fun b o e1 e2 e3 => un.keep b o e1 e2 e3 (fun z => nomatch z))
  refine wpAny_newFunctionEnv (fun y hy => (L.own y hy).1) hbl (fun h1 hns hsb => ⟨(e0.mod.nolimit.keeps fun b o e => (e0.bs b o e).1).fresh _ hsb, ?_⟩) L.kind
  show codeAny _ _ (.expr e (lamEnv X scope s.heap.objs.size f c')) _ _
  have kp : ∀ b o, s.heap.get? b = some o → h1.get? b = some o := fun b o e => hsb.extBut b o (Nat.ne_of_lt (Heap.lt_size e)) (Heap.get?_push_of_some _ e)
  have J := lam_start (E := E) (f := f) (c' := c') (tk := s.toks + binds.length) I1 ok.hN L e0 hr.hd un hns kp
  have okL : Ok Γ F N k T (lamCx X A outer s HZ E scope f c') := { ok with
    calm := rfl, room := hr.deeper _, gd := hg, lam := fun n e z => (lsNe_of hz n e z).elim }
  have RL : Rel X.K T WZ HZ WZ HZ σ δ h := { RZ.here with
    len := R.len, sl := fun i x e => let ⟨v, g1, g2⟩ := R.sl i x e; ⟨v, g1, g2.mono RZ.up⟩ }
  refine PySem.W.kla_codeExpr (wpAny_mono (he (lamCx X A outer s HZ E scope f c') okL rfl _ (takes_of rfl rfl rfl rfl) _ _ _ _ _ _ _ _ RL ev Q ?_ [] _ J) (fun v s' hq => ?_) fun _ _ z => z)
  · cases r with
    | ok x => exact fun v W' H' R' l r => q W' H' R'.bare v r
    | ex x => exact fun cls d W' H' R' l y => q W' H' R'.bare cls d y
  · obtain ⟨v1, H', J', rv, q'⟩ := hq
    exact ⟨v1, H', J'.os, J'.bare, J'.base, J'.hok, rv, q'⟩
/-- the def that hears, called with a lambda -/
theorem snd_heard {scope : Scope} {x : Str} {params : Arguments} {e : Expr} {p lpos pos : Pos} {ce : C} (hx : Γ.hd = some x) (h1 : Pl sc x) (h2 : (x == ("__debug__" : Str)) = false) (hl : Γ.lsc = some sc.names.length) (hz : lsNe Γ.lsc scope.names.length = true) (L : LamN N sc scope) (LP : LamP params e scope)
    (he : SndE Γ F N k T scope e ce) : SndE Γ F N k T sc (.Call (.Name x p) [.Lambda params e scope lpos] [] pos) (.heard ce) := by
  intro X ok hs Wx tk W0 H0 W H σ δ h o R ev Q q
  subst hs
  obtain ⟨rr, h3⟩ := o
  simp only [evalE] at ev
  split at ev
  · rename_i r hh2 ev1
    obtain ⟨c, P, hcode, TB, hmT, hu, hroom⟩ := (ok.lam _ hl rfl).ex
    obtain ⟨g, hm, hk, hcall⟩ := (ok.hr x hx).ex
    intro pins s I
    refine wpAny_Call_Name_kw (ld_glob I (gl_of rfl h1) hm ?_ h2)
    refine PySem.W.callWith_K (h₀ := X.base) I.ok.mod.kin hk ?_ (by rfl) (by rfl)
    show wpAny _ _ (spliced ((false, eval (.Lambda params e scope lpos) X.env) :: backTo pos (starEach [] X.env))) _ _ s
    refine Calls.spliced_cons (lam_made I TB hcode hmT hu R.tb (L.has I.ok) LP fun f c' dV doc pm ctv H1 s' binds I1 eN T1 ht hf hfn hfr hco hb hbl => ?_)
    refine Calls.spliced_nil ⟨I1.kIn, ?_⟩
    have R1 := R.extN eN ht T1
    have rc := hcall X.A X.stack s' H1 f W h r hh2 rr h3 Q (fun cls d H' => Wx cls d σ H') hroom ok.gd I1.env0 ⟨_, _, _, _, hf⟩ hfn hfr R1.here.bare (lam_run he ok hz I1 L hf hfn hfr hco hb hbl R1 ev1) ev (fun W' H' R' => by
      cases rr with
      | ok x => exact fun v rv => q v W' H' (R1.back (Same.refl _) R') R'.up rv
      | ex x => exact fun cls d y => q cls d W' H' (R1.back (Same.refl _) R') R'.up y)
    refine wpAny_call (codeAny_mono rc fun r s2 hq => ?_)
    cases r with
    | error er => exact tk _ _ (XE.of_call I1 (fun cls d H' z => z) hq)
    | ok fl =>
      cases fl with
      | ret u => exact I1.after hq
      | next => exact hq.elim
      | brk => exact hq.elim
      | cont => exact hq.elim
  · cases ev
end
end Nv


set_option Elab.async false
set_option linter.all false
set_option maxRecDepth 100000
set_option maxHeartbeats 8000000
/-! Dicts of their own; texts in order; list.extend by tuples. -/
namespace Nv
open PySem PySem.Spec PyProof.Rows L2
/-! ### texts in order -/
theorem ltS_iff {x y : Str} : ltS x y = true ↔ x.cps.toList < y.cps.toList := by
  unfold ltS
  rw [PyProof.Rows.ltCps_eq]
  exact decide_eq_true_iff
theorem ltS_not {x y : Str} : ltS x y = false ↔ y.cps.toList ≤ x.cps.toList := by
  rw [← List.not_lt, ← ltS_iff]
  simp
theorem cps_inj {x y : Str} (h : x.cps.toList = y.cps.toList) : x = y := by
  cases x; cases y
  exact congrArg _ (Array.toList_inj.mp h)
abbrev leS (x y : Str) : Prop := x.cps.toList ≤ y.cps.toList
theorem rising_pw : ∀ (r : List Str) (p : Str), risingS p r = true → (p :: r).Pairwise leS
  | [], p, _ => by simp
  | x :: r, p, h => by
    unfold risingS at h
    simp only [Bool.and_eq_true, Bool.not_eq_true'] at h
    have t := rising_pw r x h.2
    have px : leS p x := ltS_not.mp h.1
    refine List.pairwise_cons.mpr ⟨fun y hy => ?_, t⟩
    rcases List.mem_cons.mp hy with rfl | hy
    · exact px
    · exact List.le_trans px ((List.pairwise_cons.mp t).1 y hy)
theorem sorted_pw {l : List Str} (h : sortedS l = true) : l.Pairwise leS := by
  cases l with
  | nil => exact .nil
  | cons x r => exact rising_pw r x h
theorem ins_perm (x : Str) : ∀ l : List Str, (insS x l).Perm (x :: l)
  | [] => .refl _
  | y :: r => by
    unfold insS
    split
    · exact ((ins_perm x r).cons y).trans (.swap ..)
    · exact .refl _
theorem sort_perm : ∀ l : List Str, (sortS l).Perm l
  | [] => .refl _
  | x :: r => (ins_perm x _).trans ((sort_perm r).cons x)
theorem ins_pw (x : Str) : ∀ l : List Str, l.Pairwise leS → (insS x l).Pairwise leS
  | [], _ => by simp [insS]
  | y :: r, h => by
    have h2 := List.pairwise_cons.mp h
    unfold insS
    split
    · rename_i w
      refine List.pairwise_cons.mpr ⟨fun z hz => ?_, ins_pw x r h2.2⟩
      rcases List.mem_cons.mp ((ins_perm x r).mem_iff.mp hz) with rfl | hz
      · exact List.le_of_lt (ltS_iff.mp w)
      · exact h2.1 z hz
    · rename_i w
      have w : leS x y := ltS_not.mp (by simpa using w)
      refine List.pairwise_cons.mpr ⟨fun z hz => ?_, h⟩
      rcases List.mem_cons.mp hz with rfl | hz
      · exact w
      · exact List.le_trans w (h2.1 z hz)
theorem sort_pw : ∀ l : List Str, (sortS l).Pairwise leS
  | [] => .nil
  | x :: r => ins_pw x _ (sort_pw r)
theorem pw_uniq {l m : List Str} (h : l.Perm m) (a : l.Pairwise leS) (b : m.Pairwise leS) : l = m :=
  h.eq_of_pairwise (fun x y _ _ h1 h2 => cps_inj (List.le_antisymm h1 h2)) a b
theorem sort_uniq {ks ys : List Str} (p : ys.Perm ks) (h : sortedS ys = true) : ys = sortS ks := pw_uniq (p.trans (sort_perm ks).symm) (sorted_pw h) (sort_pw ks)
/-! ### dicts -/
section
variable {K : PySem.W.Frag} {T : List (Addr × Str)} {W0 W : Wd} {H0 H : Hp} {σ : L2.St} {δ : Env_} {h : Hh}
theorem Rel.dct_ (R : Rel K T W0 H0 W H σ δ h) {n : Nat} {xs : List (PyData × Vv)} {v : V} (e : h[n]? = some (.dct xs)) (r : Rv K W (.r n) v) : ∃ a vs, v = .ref a ∧ W.φ[n]? = some a ∧ W.B a = none ∧ H a = some (.dK vs) ∧ RvK K W xs vs := by
  obtain ⟨a, ha, rfl⟩ := r
  obtain ⟨c1, vs, c2, c3⟩ := R.cell n _ a e ha
  exact ⟨a, vs, rfl, ha, c1, c2, c3⟩
theorem Rel.chgD (R : Rel K T W0 H0 W H σ δ h) {n : Nat} {a : Addr} {xs : List (PyData × Vv)} {vs : List (Key × V)} (ha : W.φ[n]? = some a) (bn : W.B a = none) (r : RvK K W xs vs) : Rel K T W0 H0 W (upd H a (.dK vs)) σ δ (h.set n (.dct xs)) :=
  R.chg ha bn pln_dK ⟨bn, vs, upd_same, r⟩
theorem keyOf_kD (k : Key) : keyOf (kD k) = some k := by cases k <;> rfl
theorem key_dv {d : PyData} {k : Key} {u : V} {B : Hp} (e : keyOf d = some k) (r : Dv K B u d) : u = kV k := by
  unfold keyOf at e
  split at e
  · cases e; cases r; rfl
  · cases e; cases r; rfl
  · cases e
theorem rk_any {kvs : List (PyData × Vv)} {vs : List (Key × V)} (r : RvK K W kvs vs) (k : Key) : (kvs.any fun p => decide (keyOf p.1 = some k)) = vs.any fun p => decide (p.1 = k) := by
  induction r with
  | nil => rfl
  | cons h _ ih =>
    rw [List.any_cons, List.any_cons, ih, h.1, keyOf_kD]
    simp
theorem rk_map {kvs : List (PyData × Vv)} {vs : List (Key × V)} (r : RvK K W kvs vs) {k : Key} {x : Vv} {v : V} (h : Rv K W x v) : RvK K W (kvs.map fun p => if keyOf p.1 = some k then (p.1, x) else p) (vs.map fun p => if p.1 = k then (p.1, v) else p) := by
  induction r with
  | nil => exact .nil
  | @cons p q l m hp _ ih =>
    refine .cons ?_ ih
    dsimp only
    by_cases e : q.1 = k
    · rw [if_pos e, if_pos (by rw [hp.1, keyOf_kD, e])]
      exact ⟨hp.1, h⟩
    · rw [if_neg e, if_neg (by rw [hp.1, keyOf_kD]; exact fun z => e (Option.some.inj z))]
      exact hp
theorem rk_put {kvs : List (PyData × Vv)} {vs : List (Key × V)} (r : RvK K W kvs vs) {k : Key} {x : Vv} {v : V} (h : Rv K W x v) : RvK K W (putD kvs k x) (putK vs k v) := by
  unfold putD putK
  rw [rk_any r k]
  split
  · exact rk_map r h
  · exact pr_app r (.cons ⟨rfl, h⟩ .nil)
theorem rk_keys {kvs : List (PyData × Vv)} {vs : List (Key × V)} (r : RvK K W kvs vs) {ks : List Str} (e : strKeys kvs = some ks) : vs.map (·.1) = ks.map Sum.inr := by
  induction r generalizing ks with
  | nil => cases e; rfl
  | @cons p q l m hp _ ih =>
    obtain ⟨d, x⟩ := p
    unfold strKeys at e
    split at e
    · rename_i e0
      cases e0
    · rename_i s y r' e0
      cases e0
      split at e
      · rename_i ks' e1
        cases e
        have k := hp.1
        have : q.1 = .inr s := by
          have k : PyData.str s = kD q.1 := k
          cases hq : q.1 with
          | inl i => rw [hq] at k; cases k
          | inr z => rw [hq] at k; cases k; rfl
        rw [List.map_cons, List.map_cons, ih e1, this]
      · cases e
    · cases e
end
section
variable {X : Cx}
theorem pset_any : PSet X fun o i v H Q => ∃ t, PSet X t ∧ t o i v H Q := fun pins s σ H o i v ov iv u Q I ro ri rv ⟨t, h1, h2⟩ => h1 pins s σ H o i v ov iv u Q I ro ri rv h2
theorem ext_meets {ty : String} (hty : ty = "list" ∨ ty = "tuple") (l : Addr) (items : Array Value) (n : Nat) (b : Addr) (items2 : Array Value) (n2 : Nat) (d0 : Option Addr) (sl : Array (Option Value)) (h1 : ¬(!items.isEmpty && Builtin.List.listTooLong (items.size + items2.size)) = true) (h2 : items.size ≤ sizeLine) (h3 : items.size + items2.size ≤ sizeLine + 1) :
    Meets (Builtin.«list.extend» ⟨[.ref l, .ref b], []⟩) fun _ R s => s.heap.get? l = some { cls := .type "list", dict := none, data := .seq items n, slots := #[] } ∧ s.heap.get? b = some { cls := .type ty, dict := d0, data := .seq items2 n2, slots := sl } ∧
      R (.ok (.ret Value.none)) { s with heap := s.heap.update l (Obj.mapSeq fun x => x ++ items2), toks := s.toks } := by
  refine .of_wp fun prog w A R s h => ?_
  obtain ⟨hp, g, d, tk, os⟩ := s
  obtain ⟨hl, hb, h⟩ := h
  have f1 := AutoSeq1.idx_int
  have f2 := AutoSeq1.sub_tuple_tuple
  have f3 := AutoSeq1.sub_list_list
  have f4 := AutoSeq1.sub_tuple_list
  have f5 := AutoSeq1.sub_list_tuple
  have hz' : (items ++ items2).size ≤ sizeLine + 1 := by rw [Array.size_append]; exact h3
  rcases hty with rfl | rfl
  · wp_walk using (wpAny_updateSeq hl rfl (hz := h2) (_hz' := hz')), wpAny_loadPart' hl, wpAny_loadPart' hb
    exact ⟨_, rfl, h⟩
  · wp_walk using (wpAny_updateSeq hl rfl (hz := h2) (_hz' := hz')), wpAny_loadPart' hl, wpAny_loadPart' hb
    exact ⟨_, rfl, h⟩
/-- xs.extend(ys), ys a list or a tuple -/
theorem mt_ext : MtM X "list.extend" fun x vs H Q => ∃ l b xs zs, x = .ref l ∧ vs = [.ref b] ∧ H l = some (.lst xs) ∧ (SqL X.K H b zs ∨ SqT X.K H b zs) ∧ xs.length + zs.length ≤ sizeLine ∧ Q .non (upd H l (.lst (xs ++ zs))) := by
  intro pins s σ H x vs v us Q I rx rv h
  obtain ⟨l, b, xs, zs, rfl, rfl, hH, hB, hz, q⟩ := h
  cases rx
  obtain ⟨u, rfl, ru⟩ := rv.one
  cases ru
  obtain ⟨z, its, n, r, hl, e⟩ := I.lstM hH
  have arg : ∃ (ty : String) (its2 : List Value) (n2 : Nat) (d0 : Option Addr) (sl : Array (Option Value)), (ty = "list" ∨ ty = "tuple") ∧ Vals zs its2 ∧ s.heap.get? b = some { cls := .type ty, dict := d0, data := .seq its2.toArray n2, slots := sl } := by
    rcases hB with hB | hB
    · obtain ⟨its2, r2, ⟨⟨c, d0, dt, sl⟩, n2, e2, e3, e4, e5⟩, _⟩ := I.list hB
      have e3 : c = _ := e3
      have e5 : dt = _ := e5
      subst e3; subst e5
      exact ⟨_, its2, n2, d0, sl, .inl rfl, r2, e2⟩
    · obtain ⟨its2, r2, ⟨⟨c, d0, dt, sl⟩, e2, e3, n2, e5⟩, _⟩ := I.tuple hB
      have e3 : c = _ := e3
      have e5 : dt = _ := e5
      subst e3; subst e5
      exact ⟨_, its2, n2, d0, sl, .inr rfl, r2, e2⟩
  obtain ⟨ty, its2, n2, d0, sl, hty, r2, e2⟩ := arg
  have l2 := r2.length
  have hsz : its.toArray.size + its2.toArray.size ≤ sizeLine := by rw [List.size_toArray, List.size_toArray]; omega
  have hlong : ¬ (!its.toArray.isEmpty && Builtin.List.listTooLong (its.toArray.size + its2.toArray.size)) = true := by
    rw [notLongL hsz, Bool.and_false]
    exact Bool.false_ne_true
  refine call_meets F.slot_list_extend ⟨_, e, rfl⟩ F.entry_list_extend (F.args_list_extend_2 _ _) (ext_meets hty l its.toArray n b its2.toArray n2 d0 sl hlong (by rw [List.size_toArray]; omega) (by omega)) ⟨e, e2, ?_⟩
  refine ⟨.non, _, I.lset (its' := its ++ its2) hH e (by simp) (r.append r2) ?_, rfl, q⟩
  rw [List.length_append]
  omega
end
section
variable {Γ : Gam} {F : Fns} {N : List Str} {k : Nat} {T : List (Addr × Str)} {sc : Scope}
theorem snd_newD {pos : Pos} : SndE Γ F N k T sc (.Dict [] [] pos) .newD := by
  intro X ok hs Wx tk W0 H0 W H σ δ hh o R ev Q q
  simp only [evalE] at ev
  cases ev
  refine w_pe pe_dnewK fun p hp => ?_
  obtain ⟨f1, f2, f3⟩ := R.free hp
  have le : W.Le ⟨W.B, W.φ ++ [p]⟩ := ⟨Same.refl _, [p], rfl⟩
  obtain ⟨R2, l2⟩ := R.cellN (o := .dK []) (ob := .dct []) hp pln_dK ⟨f2, [], upd_same, .nil⟩
  exact q (.ref p) _ _ R2 l2 ⟨p, by show (W.φ ++ [p])[hh.length]? = some p; rw [R.hl, List.getElem?_append_right (Nat.le_refl _), Nat.sub_self]; rfl, rfl⟩
theorem dvl_strs {K : PySem.W.Frag} {B : Hp} : ∀ l : List Str, DvL K B (l.map V.str) (l.map .str)
  | [] => .nil
  | x :: r => .cons (.str x) (dvl_strs r)
theorem snd_sortK {a : Expr} {p pos : Pos} {ca : C} (ha : SndE Γ F N k T sc a ca) (h1 : Pl sc "sorted") (h2 : ("sorted" : Str) ∈ Γ.bs) (hst : ∀ env, starEach [a] env = (false, eval a env) :: starEach [] env) : SndE Γ F N k T sc (.Call (.Name "sorted" p) [a] [] pos) (.sortK ca) := by
  intro X ok hs Wx tk W0 H0 W H σ δ hh o R ev Q q
  simp only [evalE] at ev
  refine w_pe (pe_callB (call_sortedD ok.calm) (gl_of hs h1) (ok.bl _ h2) (by decide +kernel) (pa_cons pe_w pa_nil (hst X.env)) (by decide +kernel) rfl (hst X.env) rfl) ?_
  refine bnd_E ha ok hs tk R ev q.x fun x h1 _ ev v W1 H1 R1 l1 r1 => ?_
  unfold sortKV at ev
  split at ev
  · split at ev
    · rename_i kvs e0
      split at ev
      · rename_i ks ek
        obtain ⟨hz, ev⟩ := ite_some' ev
        cases ev
        obtain ⟨b, vs, rfl, hb, hn, hl, r⟩ := R1.dct_ e0 r1
        refine ⟨b, vs, ks, rfl, .of hl, rk_keys r ek, by simpa using hz, fun ys p hp hsrt hpn => ?_⟩
        rw [sort_uniq hp hsrt]
        exact new_data q R1 l1 hpn (fun _ z => by cases z) fun B' s hb => .lst hb (dvl_strs _)
      · cases ev
    · cases ev
  · cases ev
end
end Nv


set_option Elab.async false
set_option linter.all false
set_option maxRecDepth 100000
set_option maxHeartbeats 8000000
namespace Nv
open PySem PySem.Spec PyProof.Rows L2
theorem kw_args : ∀ (kws : List Keyword) (env : Env) (pos : Pos), (backToKw pos (keywordEach kws env)).map (·.1) = kws.map (fun k => k.arg)
  | [], _, _ => rfl
  | ⟨n, v, q⟩ :: r, env, pos => by
    show n :: (backToKw pos (keywordEach r env)).map (·.1) = n :: r.map (fun k => k.arg)
    rw [kw_args r env pos]
theorem kw_names {kws : List Keyword} {ks : List Str} (h : kws.map (fun k => k.arg) = ks.map some) (env : Env) (pos : Pos) :
    (backToKw pos (keywordEach kws env)).all (·.1.isSome) = true ∧ (backToKw pos (keywordEach kws env)).filterMap (·.1) = ks ∧ (backToKw pos (keywordEach kws env)).any (·.1.isNone) = false := by
  have e := (kw_args kws env pos).trans h
  generalize backToKw pos (keywordEach kws env) = l at e
  clear h
  induction ks generalizing l with
  | nil =>
    cases l with
    | nil => exact ⟨rfl, rfl, rfl⟩
    | cons a r => cases e
  | cons x xs ih =>
    cases l with
    | nil => cases e
    | cons a r =>
      obtain ⟨a1, a2⟩ := a
      simp only [List.map_cons, List.cons.injEq] at e
      obtain ⟨e1, e2⟩ := e
      subst e1
      obtain ⟨h1, h2, h3⟩ := ih r e2
      refine ⟨?_, ?_, ?_⟩
      · simp only [List.all_cons, Option.isSome_some, Bool.true_and]; exact h1
      · simp only [List.filterMap_cons]; rw [h2]
      · simp only [List.any_cons, Option.isNone_some, Bool.false_or]; exact h3


section
variable {K : PySem.W.Frag} {T : List (Addr × Str)} {W0 W : Wd} {H0 H : Hp} {σ : L2.St} {δ : Env_} {h : Hh}
/-- an object that is neither data nor a cell is written anew -/
theorem Rel.touch (R : Rel K T W0 H0 W H σ δ h) {a : Addr} {o u : HO} (e : H a = some u) (p : Pln u) (na : a ∉ W.φ) (ba : W.B a = none) (h0 : H0 a = none) : Rel K T W0 H0 W (upd H a o) σ δ h where
  fr := fun b v nb nt q => by
    rw [upd_ne (fun z => by rw [z, h0] at q; cases q)]
    exact R.fr b v nb nt q
  tl := fun b ps q => by
    rw [upd_ne (fun z => by rw [z, h0] at q; cases q)]
    exact R.tl b ps q
  ext := fun b v q => by
    rw [upd_ne (fun z => by rw [z, ba] at q; cases q)]
    exact R.ext _ _ q
  up := R.up
  new := R.new
  fsh := R.fsh
  len := R.len
  sl := R.sl
  hl := R.hl
  cell := fun n ob b e1 e2 => (R.cell n ob b e1 e2).at1 (Wd.Le.refl _) (fun z => z) fun v _ q => by
    rw [upd_ne (fun z => na (by rw [← z]; exact List.mem_of_getElem? e2))]
    exact q
  nd := R.nd
  ev := fun b hb => by
    obtain ⟨v, k1, k2⟩ := R.ev b hb
    exact ⟨v, by rw [upd_ne (fun z => na (by rw [← z]; exact hb))]; exact k1, k2⟩
  tb := tabs_upd' R.tb e p
  nt := R.nt
/-- .. and is data from now on -/
theorem Rel.done (R : Rel K T W0 H0 W H σ δ h) {a : Addr} {o : HO} (e : H a = some o) (na : a ∉ W.φ) (ba : W.B a = none) (h0 : H0 a = none) (pn : ∀ ps, o ≠ .tbl ps) : Rel K T W0 H0 ⟨upd W.B a o, W.φ⟩ H σ δ h ∧ W.Le ⟨upd W.B a o, W.φ⟩ := by
  have le : W.Le ⟨upd W.B a o, W.φ⟩ := ⟨same_upd ba, [], (List.append_nil _).symm⟩
  refine ⟨?_, le⟩
  exact { R with
    ext := fun b v q => by
      have q : upd W.B a o b = some v := q
      by_cases z : b = a
      · subst z
        rw [upd_same] at q
        cases q
        exact e
      · rw [upd_ne z] at q
        exact R.ext _ _ q
    up := R.up.trans le
    new := fun b v q => by
      have q : upd W.B a o b = some v := q
      by_cases z : b = a
      · subst z
        exact .inr (.inl h0)
      · rw [upd_ne z] at q
        exact R.new b v q
    nt := fun b v q => by
      have q : upd W.B a o b = some v := q
      by_cases z : b = a
      · subst z
        rw [upd_same] at q
        cases q
        exact pn
      · rw [upd_ne z] at q
        exact R.nt b v q
    sl := fun i x q => let ⟨v, k1, k2⟩ := R.sl i x q; ⟨v, k1, k2.mono le⟩
    cell := fun n ob b e1 e2 => (R.cell n ob b e1 e2).at1 le (fun q => by
      show upd W.B a o b = none
      rw [upd_ne (fun z => na (by rw [← z]; exact List.mem_of_getElem? e2))]
      exact q) fun v _ q => q }
end
section
variable {Γ : Gam} {F : Fns} {N : List Str} {k : Nat} {T : List (Addr × Str)} {sc : Scope}
theorem corL_plain : ∀ {es : List Expr} {cs : Cs}, CorL Γ N sc es cs → ∀ (env : Env) (pos : Pos), (backTo pos (starEach es env)).any (·.1) = false
  | _, _, .nil, _, _ => rfl
  | _, _, .cons h r hs, env, pos => by
    rw [hs env]
    show (false || (backTo pos (starEach _ env)).any (·.1)) = false
    rw [corL_plain r env pos] <;> rfl
theorem evalL_len : ∀ {es : List Expr} {cs : Cs}, CorL Γ N sc es cs → ∀ {δ h xs h'}, evalL F cs δ h = some (.ok xs, h') → xs.length = es.length
  | _, _, .nil, δ, h, xs, h', e => by cases e; rfl
  | _, _, .cons hc r hs, δ, h, xs, h', e => by
    simp only [evalL] at e
    rcases bnd_some e with ⟨x, h1, e1, e2⟩ | ⟨ee, h1, e1, e2⟩
    · rcases bnd_some e2 with ⟨ys, h2, e3, e4⟩ | ⟨ee, h2, e3, e4⟩
      · cases e4
        exact congrArg (· + 1) (evalL_len r e3)
      · cases e4
    · cases e2
theorem vals_split {vs : List V} {us : List Value} (r : Vals vs us) : Vals vs (us ++ []) := by rw [List.append_nil]; exact r
/-- a def's call at its values -/
theorem fn_core {X : Cx} (ok : Ok Γ F N k T X) {Wx : WX} (tk : Takes X Wx) {i : Nat} {e : En} (he : Γ.es[i]? = some e) : ∃ f, X.mg e.x = some (.ref f) ∧ PySem.W.keepIn X.K (.ref f) = true ∧
    ∀ {σ : L2.St} {H : Hp} {pins : List (Addr × Obj)} {s : Shared} {us ws : List Value} {vs : List V} {Q : VK}, Inv X pins σ H s → Vals vs (us ++ ws) → us.length = e.n → ws.length = e.ks.length →
      SpC X.K T (F.fn i) vs H Q (fun cls d H' => Wx cls d σ H') → wpAny (model X.prog X.w) X.A (call (.ref f) us (e.ks.zip ws)) (EP X pins σ Q) X.xe s := by
  obtain ⟨f, h1, h2, h3⟩ := (ok.fn i e he).ex
  refine ⟨f, h1, h2, fun {σ H pins s us ws vs Q} I rv l1 l2 sp => ?_⟩
  have run := h3 X.A X.stack s H us ws vs Q (fun cls d H' => Wx cls d σ H') ok.room ok.gd I.env0 l1 l2 rv sp
  refine wpAny_call (codeAny_mono run fun r s' hq => ?_)
  cases r with
  | error er => exact passAt tk σ pins H s er s' I hq
  | ok fl =>
    cases fl with
    | ret u => exact I.after hq
    | next => exact False.elim hq
    | brk => exact False.elim hq
    | cont => exact False.elim hq
/-- a call of a def, for either way of handing over -/
theorem call_core {i : Nat} {e : En} {es : List Expr} {p pos : Pos} {cs : Cs} (he : Γ.es[i]? = some e) (hc : CorL Γ N sc es cs) (hl : SndL Γ F N k T sc es cs) (hn : es.length = e.n) (hk : e.ks = []) (h1 : Pl sc e.x) (h2 : (e.x == ("__debug__" : Str)) = false)
    {X : Cx} (ok : Ok Γ F N k T X) (hs : X.env.scope = sc) {Wx : WX} (tk : Takes X Wx) {W0 W : Wd} {H0 H : Hp} {σ : L2.St} {δ : Env_} {h : Hh} {o : Rs Vv × Hh} (R : Rel X.K T W0 H0 W H σ δ h) {f : List Vv → Hh → Ev Vv} (ev : bnd (evalL F cs δ h) f = some o) {Q : VK}
    (px : PostX X.K T W0 H0 W σ δ o fun cls d H' => Wx cls d σ H') (q : ∀ xs h1, f xs h1 = some o → ∀ vs W1 H1, Rel X.K T W0 H0 W1 H1 σ δ h1 → W.Le W1 → RvL X.K W1 xs vs → SpC X.K T (F.fn i) vs H1 Q fun cls d H' => Wx cls d σ H') : wE X (.Call (.Name e.x p) es [] pos) σ H Q := by
  obtain ⟨f', g1, g2, g3⟩ := fn_core ok tk he
  intro pins s I
  refine wpAny_Call_Name_kw (ld_glob I (gl_of hs h1) g1 ?_ h2)
  cases hc with
  | nil =>
    have q0 := q [] h ev [] W H R (Wd.Le.refl _) .nil
    have q1 := g3 (us := []) (ws := []) (vs := []) I .nil hn (by rw [hk] <;> rfl) q0
    exact PySem.W.callWith_K0 I.kIn g2 (by rw [hk] at q1; exact q1)
  | cons ha hr hst =>
    have hargs := (bnd_A hl ok hs tk R ev px (Q := fun vs H1 => vs.length = e.n ∧ SpC X.K T (F.fn i) vs H1 Q fun cls d H' => Wx cls d σ H') fun xs h1 e1 ev vs W1 H1 R1 l1 r1 => ⟨by rw [← Paired.length r1, ← hn]; exact evalL_len (.cons ha hr hst) e1, q xs h1 ev vs W1 H1 R1 l1 r1⟩).1 pos pins s I
    refine PySem.W.callWith_K (h₀ := X.base) I.ok.mod.kin g2 (thn hargs fun us s1 ⟨vs, H1, I1, r, hlen, sp⟩ => ⟨I1.kIn, ?_⟩) (hst X.env) (corL_plain hr X.env pos)
    have lu : us.length = e.n := by rw [← Paired.length r, hlen]
    have q0 := g3 (us := us) (ws := []) I1 (vals_split r) lu (by rw [hk] <;> rfl) sp
    rw [hk] at q0
    exact q0
theorem snd_call {i : Nat} {e : En} {es : List Expr} {p pos : Pos} {cs : Cs} (he : Γ.es[i]? = some e) (hc : CorL Γ N sc es cs) (hl : SndL Γ F N k T sc es cs) (hn : es.length = e.n) (hk : e.ks = []) (h1 : Pl sc e.x) (h2 : (e.x == ("__debug__" : Str)) = false) :
    SndE Γ F N k T sc (.Call (.Name e.x p) es [] pos) (.call i cs) := by
  intro X ok hs Wx tk W0 H0 W H σ δ hh o R ev Q q
  simp only [evalE] at ev
  exact call_core he hc hl hn hk h1 h2 ok hs tk R ev q.x fun xs h1 ev vs W1 H1 R1 l1 r1 => spc_cells R1 r1 ev (q.mono l1)
theorem snd_gcall {i : Nat} {e : En} {es : List Expr} {p pos : Pos} {cs : Cs} (he : Γ.es[i]? = some e) (hc : CorL Γ N sc es cs) (hl : SndL Γ F N k T sc es cs) (hn : es.length = e.n) (hk : e.ks = []) (h1 : Pl sc e.x) (h2 : (e.x == ("__debug__" : Str)) = false) :
    SndE Γ F N k T sc (.Call (.Name e.x p) es [] pos) (.gcall i cs) := by
  intro X ok hs Wx tk W0 H0 W H σ δ hh o R ev Q q
  simp only [evalE] at ev
  exact call_core he hc hl hn hk h1 h2 ok hs tk R ev q.x fun xs h1 ev vs W1 H1 R1 l1 r1 => spc_gen R1 r1 ev (q.mono l1)
/-- by keywords alone -/
theorem snd_callK {i : Nat} {e : En} {kws : List Keyword} {p pos : Pos} {cs : Cs} (he : Γ.es[i]? = some e) {es : List Expr} (hv : kws.map (fun k => k.value) = es) (hc : CorL Γ N sc es cs) (hl : SndL Γ F N k T sc es cs) (hn : e.n = 0) (hk : kws.map (fun k => k.arg) = e.ks.map some)
    (h1 : Pl sc e.x) (h2 : (e.x == ("__debug__" : Str)) = false) : SndE Γ F N k T sc (.Call (.Name e.x p) [] kws pos) (.call i cs) := by
  intro X ok hs Wx tk W0 H0 W H σ δ hh o R ev Q q
  simp only [evalE] at ev
  obtain ⟨f', g1, g2, g3⟩ := fn_core ok tk he
  intro pins s I
  refine wpAny_Call_Name_kw (ld_glob I (gl_of hs h1) g1 ?_ h2)
  obtain ⟨k1, k2, k3⟩ := kw_names hk X.env pos
  have hargs := (bnd_A hl ok hs tk R ev q.x (Q := fun vs H1 => vs.length = es.length ∧ SpC X.K T (F.fn i) vs H1 Q fun cls d H' => Wx cls d σ H') fun xs h1 e1 ev vs W1 H1 R1 l1 r1 => ⟨by rw [← Paired.length r1]; exact evalL_len hc e1, spc_cells R1 r1 ev (q.mono l1)⟩).2.1 kws hv pos pins s I
  refine PySem.W.callWith_KW0 (first := []) I.kIn g2 k1 (thn hargs fun ws s1 ⟨vs, H1, I1, r, hlen, sp⟩ => ⟨I1.kIn, ?_⟩) (by rw [k3] <;> rfl)
  rw [k2]
  have lw : ws.length = e.ks.length := by
    have lk := congrArg List.length hk
    have lv := congrArg List.length hv
    simp only [List.length_map] at lk lv
    rw [← Paired.length r, hlen, ← lv, lk]
  exact g3 (us := []) (ws := ws) I1 r hn.symm lw sp
theorem snd_dct1 {v : Expr} {x : Str} {j : Nat} {p1 pos : Pos} {cv : C} (hv : SndE Γ F N k T sc v cv) : SndE Γ F N k T sc (.Dict [some (.Constant (.str x) j p1)] [v] pos) (.dct1 x cv) := by
  intro X ok hs Wx tk W0 H0 W H σ δ hh o R ev Q q
  simp only [evalE] at ev
  refine w_pe (pe_disp (pps_cons pe_str pe_w pps_nil) rfl rfl (fun z => by cases z) (by show 1 ≤ 15; decide)) ?_
  intro a ha
  have sh : Same H (upd H a (.dK [])) := same_upd ha
  obtain ⟨f1, f2, f3⟩ := R.free ha
  have Ra := (R.heap sh).here
  refine bnd_E hv ok hs tk Ra ev ?_ fun y h1 _ ev w W1 H1 R1 l1 r1 => ?_
  · obtain ⟨r, h'⟩ := o
    cases r with
    | ok z => trivial
    | ex e => exact fun cls d W1 H1 R1 l1 z => q cls d W1 H1 (R.back sh R1) l1 z
  · obtain ⟨z, rfl, ew⟩ := dd1_some ev
    cases ew
    have e0 : H1 a = some (.dK []) := R1.fr a _ f3 (fun _ z => by cases z) upd_same
    have na : a ∉ W1.φ := fun hm => by
      rcases R1.fsh a hm with z | z
      · exact f3 z
      · rw [upd_same] at z; cases z
    have ba : W1.B a = none := by
      cases y : W1.B a with
      | none => rfl
      | some u =>
        rcases R1.new a u y with ⟨u', y'⟩ | y' | y'
        · rw [f2] at y'; cases y'
        · rw [upd_same] at y'; cases y'
        · exact absurd y' f3
    refine ⟨e0, [(Sum.inr x, w)], rfl, by show 1 ≤ 15; decide, ?_⟩
    have R2 := (R.back sh R1).touch (o := .dK [(Sum.inr x, w)]) e0 pln_dK na ba f1
    obtain ⟨R3, l3⟩ := R2.done upd_same na ba f1 (fun _ z => by cases z)
    exact q (.ref a) _ _ R3 (l1.trans l3) (.dct upd_same (.cons (Dv.mono l3.b r1) .nil))
end
end Nv


set_option Elab.async false
set_option linter.all false
set_option maxRecDepth 100000
set_option maxHeartbeats 8000000
/-! What is walked; comprehensions. -/
namespace Nv
open PySem PySem.Spec PyProof.Rows L2
/-- what an iteration gives -/
def Yd (K : PySem.W.Frag) (B H : Hp) (x : V) (H' : Hp) (d : PyData) : Prop := ∃ B', Same B B' ∧ Same B' H' ∧ Same H H' ∧ (∀ a o, B' a = some o → (∃ o', B a = some o') ∨ H a = none ∧ ∀ ps, o ≠ .tbl ps) ∧ Dv K B' x d
theorem Yd.plain {K : PySem.W.Frag} {B H : Hp} {x : V} {d : PyData} (e : Same B H) (h : Dv K B x d) : Yd K B H x H d := ⟨B, Same.refl _, e, Same.refl _, fun a o z => .inl ⟨o, z⟩, h⟩
def TgOk : Ci → Expr → Prop
  | .enu _, tg => ∃ es k p, tg = .Tuple es k p
  | .zip _ _, tg => ∃ es k p, tg = .Tuple es k p
  | _, _ => True
def PostI (K : PySem.W.Frag) (T : List (Addr × Str)) (W0 : Wd) (H0 : Hp) (W : Wd) (σ : L2.St) (δ : Env_) (o : Rs (List PyData) × Hh) (Rr : It → Hp → Prop) (E : XK) : Prop := match o with
  | (.ok xs, h') => ∀ J W' H' G Y, Rel K T W0 H0 W' H' σ δ h' → W.Le W' → Walk J xs.length G Y → (∀ H2, Same W'.B H2 → G H2) → (∀ i H2 x H3 B, i < xs.length → Same W'.B B → Same B H2 → Y i H2 x H3 → ∃ d, xs[i]? = some d ∧ Yd K B H2 x H3 d) → Rr J H'
  | (.ex e, h') => ∀ cls d W' H', Rel K T W0 H0 W' H' σ δ h' → W.Le W' → ExR K W' e cls d → E cls d H'
def SndI (Γ : Gam) (F : Fns) (N : List Str) (k : Nat) (T : List (Addr × Str)) (sc : Scope) (e : Expr) (c : Ci) : Prop :=
  ∀ X, Ok Γ F N k T X → X.env.scope = sc → ∀ Wx : WX, Takes X Wx → ∀ W0 H0 W H σ δ h o, Rel X.K T W0 H0 W H σ δ h → evalI F c δ h = some o → ∀ tg, TgOk c tg →
    ∀ Rr : It → Hp → Prop, PostI X.K T W0 H0 W σ δ o Rr (fun cls d H' => Wx cls d σ H') → wI X tg e σ H Rr
theorem PostI.x {K : PySem.W.Frag} {T : List (Addr × Str)} {W0 W : Wd} {H0 : Hp} {σ : L2.St} {δ : Env_} {E : XK} {o : Rs (List PyData) × Hh} {Rr : It → Hp → Prop} (h : PostI K T W0 H0 W σ δ o Rr E) : PostX K T W0 H0 W σ δ o E := by
  obtain ⟨r, h'⟩ := o
  cases r with
  | ok x => trivial
  | ex e => exact h
theorem ydp {K : PySem.W.Frag} {B H : Hp} {p : Addr} {x y : V} {d e : PyData} (s : Same B H) (hp : H p = none) (hx : Dv K B x d) (hy : Dv K B y e) : Yd K B H (.ref p) (upd H p (.tup [x, y])) (.tuple [d, e]) := by
  have bp : B p = none := by
    cases z : B p with
    | none => rfl
    | some o => rw [s _ _ z] at hp; cases hp
  have sb : Same B (upd B p (.tup [x, y])) := same_upd bp
  refine ⟨upd B p (.tup [x, y]), sb, same_upd2 s, same_upd hp, fun a o z => ?_, .tup (.of upd_same) (.cons (hx.mono sb) (.cons (hy.mono sb) .nil))⟩
  by_cases e : a = p
  · subst e
    rw [upd_same] at z
    cases z
    exact .inr ⟨hp, fun _ z => by cases z⟩
  · rw [upd_ne e] at z; exact .inl ⟨o, z⟩
theorem enumD_get : ∀ {xs : List PyData} {n i : Nat}, (enumD n xs)[i]? = (xs[i]?).map fun x => .tuple [.int (n + i : Nat), x]
  | [], n, i => by simp [enumD]
  | x :: xs, n, 0 => by simp [enumD]
  | x :: xs, n, i + 1 => by
    simp only [enumD, List.getElem?_cons_succ]
    rw [enumD_get]
    have e : n + 1 + i = n + (i + 1) := by omega
    rw [e]
theorem enumD_len : ∀ {xs : List PyData} {n : Nat}, (enumD n xs).length = xs.length
  | [], n => rfl
  | x :: xs, n => by
    simp only [enumD, List.length_cons]
    rw [enumD_len]
theorem zipD_len : ∀ {xs ys : List PyData}, (zipD xs ys).length = min xs.length ys.length
  | [], ys => by simp [zipD]
  | x :: xs, [] => by simp [zipD]
  | x :: xs, y :: ys => by
    simp only [zipD, List.length_cons]
    rw [zipD_len]
    omega
theorem zipD_get : ∀ {xs ys : List PyData} {i : Nat} {x y : PyData}, xs[i]? = some x → ys[i]? = some y → (zipD xs ys)[i]? = some (.tuple [x, y])
  | [], ys, i, x, y, h1, h2 => by simp at h1
  | x :: xs, [], i, _, _, h1, h2 => by simp at h2
  | x :: xs, y :: ys, 0, _, _, h1, h2 => by
    cases Option.some.inj h1
    cases Option.some.inj h2
    rfl
  | x :: xs, y :: ys, i + 1, _, _, h1, h2 => by
    simp only [zipD, List.getElem?_cons_succ] at h1 h2 ⊢
    exact zipD_get h1 h2
section
variable {Γ : Gam} {F : Fns} {N : List Str} {k : Nat} {T : List (Addr × Str)} {sc : Scope}
theorem snd_rng {a : Expr} {p pos : Pos} {c : C} (h : SndE Γ F N k T sc a c) (h1 : Pl sc "range") (h2 : ("range" : Str) ∈ Γ.bs) (hst : ∀ env, starEach [a] env = [(false, eval a env)]) : SndI Γ F N k T sc (.Call (.Name "range" p) [a] [] pos) (.rng c) := by
  intro X ok hs Wx tk W0 H0 W H σ δ hh o R ev tg htg Rr q
  simp only [evalI] at ev
  refine w_pi (pi_range1 (gl_of hs h1) (ok.bl _ h2) (pa_cons pe_w pa_nil (by rw [hst X.env] <;> rfl)) (hst X.env)) ?_
  refine bnd_E h ok hs tk R ev q.x fun x h1 _ ev v W1 H1 R1 l1 r1 => ?_
  split at ev
  · obtain ⟨hn, ev⟩ := ite_some ev
    cases ev
    cases r1
    refine ⟨_, rfl, by omega, by omega, ?_⟩
    refine q _ W1 H1 (fun _ => True) _ R1 l1 (by rw [List.length_map, List.length_range]; exact walk_range) (fun H2 e2 => True.intro) fun i H2 x H3 B hi e2 e3 y => ?_
    obtain ⟨rfl, rfl⟩ := y
    rw [List.length_map, List.length_range] at hi
    refine ⟨.int ((i : Nat) : Int), ?_, Yd.plain e3 ?_⟩
    · rw [List.getElem?_map, List.getElem?_range hi] <;> rfl
    · show Dv X.K B (V.int (0 + (i : Int))) _
      rw [Int.zero_add]; exact .int _
  · cases ev
theorem snd_rng2 {a b : Expr} {p pos : Pos} {ca cb : C} (ha : SndE Γ F N k T sc a ca) (hb : SndE Γ F N k T sc b cb) (h1 : Pl sc "range") (h2 : ("range" : Str) ∈ Γ.bs) (hsa : ∀ env, starEach [a, b] env = (false, eval a env) :: starEach [b] env) (hsb : ∀ env, starEach [b] env = (false, eval b env) :: starEach [] env) :
    SndI Γ F N k T sc (.Call (.Name "range" p) [a, b] [] pos) (.rng2 ca cb) := by
  intro X ok hs Wx tk W0 H0 W H σ δ hh o R ev tg htg Rr q
  simp only [evalI] at ev
  refine w_pi (pi_range2 (gl_of hs h1) (ok.bl _ h2) (pa_cons pe_w (pa_cons pe_w pa_nil (hsb X.env)) (hsa X.env)) (by rw [hsa X.env, hsb X.env] <;> rfl) (by rw [hsb X.env] <;> rfl)) ?_
  refine bnd_E ha ok hs tk R ev q.x fun x h1 _ ev v W1 H1 R1 l1 r1 => ?_
  refine bnd_E hb ok hs tk R1 ev (q.x.mono l1) fun y h2 _ ev w W2 H2 R2 l2 r2 => ?_
  split at ev
  · obtain ⟨hn, ev⟩ := ite_some ev
    cases ev
    cases r1
    cases r2
    refine ⟨_, _, rfl, by omega, ?_⟩
    refine q _ W2 H2 (fun _ => True) _ R2 (l1.trans l2) (by rw [List.length_map, List.length_range]; exact walk_range) (fun H2 e2 => True.intro) fun i H2 x H3 B hi e2 e3 y => ?_
    obtain ⟨rfl, rfl⟩ := y
    rw [List.length_map, List.length_range] at hi
    exact ⟨_, by rw [List.getElem?_map, List.getElem?_range hi] <;> rfl, Yd.plain e3 (.int _)⟩
  · cases ev
theorem snd_enu {a : Expr} {p pos : Pos} {c : C} (h : SndE Γ F N k T sc a c) (h1 : Pl sc "enumerate") (h2 : ("enumerate" : Str) ∈ Γ.bs) (hst : ∀ env, starEach [a] env = [(false, eval a env)]) : SndI Γ F N k T sc (.Call (.Name "enumerate" p) [a] [] pos) (.enu c) := by
  intro X ok hs Wx tk W0 H0 W H σ δ hh o R ev tg htg Rr q
  obtain ⟨es, kk, pp, rfl⟩ := htg
  simp only [evalI] at ev
  refine w_pi (pi_enum (gl_of hs h1) (ok.bl _ h2) (pa_cons pe_w pa_nil (by rw [hst X.env] <;> rfl)) (hst X.env)) ?_
  refine bnd_E h ok hs tk R ev q.x fun x h1 _ ev v W1 H1 R1 l1 r1 => ?_
  split at ev
  · rename_i xs
    cases ev
    obtain ⟨b, vs, rfl, hb, r⟩ := lst_dv (show Dv X.K W1.B v _ from r1)
    refine ⟨b, vs, rfl, .of (R1.ext _ _ hb), ?_⟩
    refine q _ W1 H1 (fun H => SqL X.K H b vs) _ R1 l1 (by rw [enumD_len, ← r.length]; exact walk_enum (xs := vs)) (fun H2 e2 => .of (e2 _ _ hb)) fun i H2 x H3 B hi e2 e3 y => ?_
    obtain ⟨T1, x1, x2, rfl, hT, rfl, hx1, hx2⟩ := y
    cases hx1
    obtain ⟨d2, g1, g2⟩ := r.get hx2
    refine ⟨_, by rw [enumD_get, g1] <;> rfl, ydp e3 hT ?_ (g2.mono e2)⟩
    rw [Nat.zero_add]
    exact .int _
  · cases ev
theorem snd_zip {a b : Expr} {p pos : Pos} {ca cb : C} (ha : SndE Γ F N k T sc a ca) (hb : SndE Γ F N k T sc b cb) (h1 : Pl sc "zip") (h2 : ("zip" : Str) ∈ Γ.bs) (hsa : ∀ env, starEach [a, b] env = (false, eval a env) :: starEach [b] env) (hsb : ∀ env, starEach [b] env = (false, eval b env) :: starEach [] env) :
    SndI Γ F N k T sc (.Call (.Name "zip" p) [a, b] [] pos) (.zip ca cb) := by
  intro X ok hs Wx tk W0 H0 W H σ δ hh o R ev tg htg Rr q
  obtain ⟨es, kk, pp, rfl⟩ := htg
  simp only [evalI] at ev
  refine w_pi (pi_zip (gl_of hs h1) (ok.bl _ h2) (pa_cons pe_w (pa_cons pe_w pa_nil (hsb X.env)) (hsa X.env)) (hsa X.env) (by rw [hsb X.env] <;> rfl)) ?_
  refine bnd_E ha ok hs tk R ev q.x fun x h1 _ ev v W1 H1 R1 l1 r1 => ?_
  refine bnd_E hb ok hs tk R1 ev (q.x.mono l1) fun y h2 _ ev w W2 H2 R2 l2 r2 => ?_
  replace r1 := Rv.mono l2 r1
  split at ev
  · rename_i xs ys
    cases ev
    obtain ⟨b, vs, rfl, hb, r⟩ := lst_dv (show Dv X.K W2.B v _ from r1)
    obtain ⟨b', vs', rfl, hb', r'⟩ := lst_dv (show Dv X.K W2.B w _ from r2)
    refine ⟨b, b', vs, vs', rfl, .of (R2.ext _ _ hb), .of (R2.ext _ _ hb'), ?_⟩
    refine q _ W2 H2 (fun H => SqL X.K H b vs ∧ SqL X.K H b' vs') _ R2 (l1.trans l2) (walk_zip (xs := vs) (ys := vs') (by rw [zipD_len, r.length, r'.length])) (fun H2 e2 => ⟨.of (e2 _ _ hb), .of (e2 _ _ hb')⟩) fun i H2 x H3 B hi e2 e3 y => ?_
    obtain ⟨T1, x1, x2, rfl, hT, rfl, hx1, hx2⟩ := y
    obtain ⟨d1, g1, g2⟩ := r.get hx1
    obtain ⟨d2, g3, g4⟩ := r'.get hx2
    exact ⟨_, zipD_get g1 g3, ydp e3 hT (g2.mono e2) (g4.mono e2)⟩
  · cases ev
theorem snd_seq {e : Expr} {c : C} (h : SndE Γ F N k T sc e c) : SndI Γ F N k T sc e (.seq c) := by
  intro X ok hs Wx tk W0 H0 W H σ δ hh o R ev tg htg Rr q
  simp only [evalI] at ev
  rcases bnd_some ev with ⟨x, h1, e1, e2⟩ | ⟨ee, h1, e1, rfl⟩
  · cases x with
    | r n => cases e2
    | d d =>
      cases d with
      | list zs =>
        cases e2
        refine w_pi (pi_list pe_w) ?_
        refine h X ok hs Wx tk _ _ _ _ _ _ _ _ R e1 _ fun v W1 H1 R1 l1 r1 => ?_
        obtain ⟨b, vs, rfl, hb, r⟩ := lst_dv (show Dv X.K W1.B v _ from r1)
        refine ⟨b, rfl, ⟨vs, .of (R1.ext _ _ hb)⟩, ?_⟩
        refine q _ W1 H1 (fun H => SqL X.K H b vs) (YAt vs) R1 l1 (by rw [← r.length]; exact walk_list (xs := vs)) (fun H2 e2 => .of (e2 _ _ hb)) fun i H2 x H3 B hi e2 e3 y => ?_
        obtain ⟨rfl, hx⟩ := y
        obtain ⟨d2, g1, g2⟩ := r.get hx
        exact ⟨d2, g1, Yd.plain e3 (g2.mono e2)⟩
      | tuple zs =>
        cases e2
        refine w_pi (pi_tup pe_w) ?_
        refine h X ok hs Wx tk _ _ _ _ _ _ _ _ R e1 _ fun v W1 H1 R1 l1 r1 => ?_
        obtain ⟨b, vs, rfl, hb, r⟩ := tup_dv (show Dv X.K W1.B v _ from r1)
        refine ⟨b, rfl, ⟨vs, same_t R1.ext hb⟩, ?_⟩
        refine q _ W1 H1 (fun H => SqT X.K H b vs) (YAt vs) R1 l1 (by rw [← r.length]; exact walk_tup (xs := vs)) (fun H2 e2 => same_t e2 hb) fun i H2 x H3 B hi e2 e3 y => ?_
        obtain ⟨rfl, hx⟩ := y
        obtain ⟨d2, g1, g2⟩ := r.get hx
        exact ⟨d2, g1, Yd.plain e3 (g2.mono e2)⟩
      | str z =>
        cases e2
        refine w_pi (pi_str pe_w) ?_
        refine h X ok hs Wx tk _ _ _ _ _ _ _ _ R e1 _ fun v W1 H1 R1 l1 r1 => ?_
        cases r1
        refine ⟨z, rfl, ?_⟩
        refine q _ W1 H1 (fun _ => True) _ R1 l1 (by rw [List.length_map, Array.length_toList]; exact walk_str (z := z)) (fun H2 e2 => True.intro) fun i H2 x H3 B hi e2 e3 y => ?_
        obtain ⟨rfl, ch, hx, rfl⟩ := y
        refine ⟨.str ⟨#[ch]⟩, ?_, Yd.plain e3 (.str _)⟩
        rw [List.getElem?_map, Array.getElem?_toList, hx] <;> rfl
      | none => cases e2
      | bool b => cases e2
      | int b => cases e2
      | dict b => cases e2
  · refine w_pi (pi_list pe_w) ?_
    exact h X ok hs Wx tk _ _ _ _ _ _ _ _ R e1 _ q
end
end Nv


set_option Elab.async false
set_option linter.all false
set_option maxRecDepth 100000
set_option maxHeartbeats 8000000
/-! Targets; comprehensions. -/
namespace Nv
open PySem PySem.Spec PyProof.Rows L2
/-! ### targets -/
def gMany : List Nat → TGs
  | [] => gNil
  | i :: is => gCons (gName i) (gMany is)
/-- (a, b, ..) = a tuple or a list of that length -/
def gSeq (K : PySem.W.Frag) (n : Nat) (t : TGs) : TG := fun v σ H Q => ∃ a xs, v = .ref a ∧ (SqT K H a xs ∨ SqL K H a xs) ∧ xs.length = n ∧ t xs σ H Q
theorem pg_seq {X : Cx} {es : List Expr} {k : Nat} {t : TGs} {n : Nat} {pos : Pos} (hc : X.calm = true) (h : PGs X es t) (hn : (assignEach es X.env).length = n) (hst : (assignEach es X.env).findIdx? (·.1) = none) : PG X (.Tuple es k pos) (gSeq X.K n t) := by
  refine ⟨fun pins s σ H v u Q I r hw => ?_⟩
  obtain ⟨a, xs, rfl, hq, hl, hw⟩ := hw
  cases r
  have go : ∀ {its : List Value} {h' : Heap}, Vals xs its → Heap.ExtBut s.heap.objs.size s.heap h' → wpAny (model X.prog X.w) X.A (assignInOrder ((assignEach es X.env).map (·.2)) its.toArray.toList) (fun _ s' => ∃ σ' H', Inv X pins σ' H' s' ∧ Q σ' H') X.xe { s with heap := h' } := by
    intro its h' rv hx
    have I1 : Inv X pins σ H { s with heap := h' } := I.kept (t' := s.toks) fun b o e => hx b o (Nat.ne_of_lt (Heap.lt_size e)) e
    exact h.run pins _ σ H xs _ Q I1 (by simpa using rv) hw
  rcases hq with hq | hq
  · obtain ⟨its, rv, ht, hz⟩ := I.tuple hq
    exact assign_Tuple_tuple (I.ok.hd hc) ht (by simp [hn, ← hl, rv.length]) hst fun h' hx => go rv hx
  · obtain ⟨its, rv, ht, hz⟩ := I.list hq
    rw [assign_Tuple]
    refine wpAny_bind (wpAny_standAt ?_)
    unfold unpack
    rw [hst, show (assignEach es X.env).length = its.toArray.size by simp [hn, ← hl, rv.length]]
    exact wpAny_bind (wpAny_holding (PySem.W.kun_itemsOf (I.ok.hd hc) ht.isList fun h' hx => go rv hx))
def gTg (K : PySem.W.Frag) : Tg → TG
  | .one i => gName i
  | .many is => gSeq K is.length (gMany is)
def Tg.slots : Tg → List Nat
  | .one i => [i]
  | .many is => is
/-- where a value goes -/
def putTg (σ : L2.St) : Tg → List V → L2.St
  | .one i, v :: _ => σ.set i (some v)
  | .one _, [] => σ
  | .many is, vs => setV σ is vs
section
variable {K : PySem.W.Frag} {T : List (Addr × Str)} {W0 W : Wd} {H0 H : Hp} {σ : L2.St} {δ δ' : Env_} {h : Hh}
theorem gMany_ok : ∀ {is : List Nat} {vs : List V} {σ : L2.St} {Q : L2.St → Hp → Prop}, vs.length = is.length → Q (setV σ is vs) H → gMany is vs σ H Q
  | [], [], σ, Q, _, q => ⟨rfl, q⟩
  | [], _ :: _, _, _, l, _ => by cases l
  | _ :: _, [], _, _, l, _ => by cases l
  | i :: is, v :: vs, σ, Q, l, q => ⟨v, vs, rfl, gMany_ok (is := is) (by simpa using l) q⟩
theorem setMany_len : ∀ {δ δ' : Env_} {is : List Nat} {ds : List PyData}, setMany δ is ds = some δ' → ds.length = is.length
  | _, _, [], [], _ => rfl
  | _, _, i :: is, d :: ds, e => congrArg (· + 1) (setMany_len (by simpa [setMany] using e))
  | _, _, [], _ :: _, e => by simp [setMany] at e
  | _, _, _ :: _, [], e => by simp [setMany] at e
theorem Rel.putMany : ∀ {is : List Nat} {ds : List PyData} {vs : List V} {σ : L2.St} {δ δ' : Env_}, Rel K T W0 H0 W H σ δ h → DvL K W.B vs ds → setMany δ is ds = some δ' → Rel K T W0 H0 W H (setV σ is vs) δ' h
  | [], [], _, σ, δ, δ', R, .nil, e => by
    simp only [setMany] at e
    cases e
    exact R
  | i :: is, d :: ds, _, σ, δ, δ', R, .cons (v := v) hd r, e => Rel.putMany (is := is) (R.put (i := i) (v := v) (x := .d d) hd) r (by simpa [setMany] using e)
  | [], _ :: _, _, σ, δ, δ', R, _, e => by simp [setMany] at e
  | _ :: _, [], _, σ, δ, δ', R, _, e => by simp [setMany] at e
/-- a value at a target -/
theorem tg_put {t : Tg} {x : Vv} {v : V} (R : Rel K T W0 H0 W H σ δ h) (r : Rv K W x v) (e : setTg t x δ = some δ') : ∃ vs, Rel K T W0 H0 W H (putTg σ t vs) δ' h ∧ vs.length = t.slots.length ∧ ∀ (σ2 : L2.St) (Q : L2.St → Hp → Prop), Q (putTg σ2 t vs) H → gTg K t v σ2 H Q := by
  cases t with
  | one i =>
    cases e
    exact ⟨[v], R.put r, rfl, fun σ2 Q q => q⟩
  | many is =>
    cases x with
    | r n => cases e
    | d d =>
      cases d with
      | tuple ds =>
        have e : setMany δ is ds = some δ' := e
        obtain ⟨a, vs, rfl, ha, rr⟩ := tup_dv (show Dv K W.B v _ from r)
        have l := setMany_len e
        have lv : vs.length = is.length := by rw [rr.length, l]
        exact ⟨vs, R.putMany rr e, lv, fun σ2 Q q => ⟨a, vs, rfl, .inl (same_t R.ext ha), lv, gMany_ok lv q⟩⟩
      | list ds =>
        have e : setMany δ is ds = some δ' := e
        obtain ⟨a, vs, rfl, ha, rr⟩ := list_dv (show Dv K W.B v _ from r)
        have l := setMany_len e
        have lv : vs.length = is.length := by rw [rr.length, l]
        exact ⟨vs, R.putMany rr e, lv, fun σ2 Q q => ⟨a, vs, rfl, .inr (R.ext.seq ha), lv, gMany_ok lv q⟩⟩
      | _ => cases e
end
/-! ### slots that are forgotten -/
theorem setV_len : ∀ (is : List Nat) (vs : List V) (σ : L2.St), (setV σ is vs).length = σ.length
  | [], vs, σ => by cases vs <;> rfl
  | i :: is, [], σ => rfl
  | i :: is, v :: vs, σ => by
    show (setV (σ.set i (some v)) is vs).length = _
    rw [setV_len is vs, List.length_set]
theorem setV_agree : ∀ (is : List Nat) (vs : List V) (σ τ : L2.St), vs.length = is.length → σ.length = τ.length → (∀ j, j ∉ is → σ[j]? = τ[j]?) → setV σ is vs = setV τ is vs
  | [], [], σ, τ, _, l, a => List.ext_getElem? fun j => a j (by simp)
  | [], _ :: _, _, _, l, _, _ => by cases l
  | _ :: _, [], _, _, l, _, _ => by cases l
  | i :: is, v :: vs, σ, τ, l, l2, a => by
    refine setV_agree is vs (σ.set i (some v)) (τ.set i (some v)) (by simpa using l) (by rw [List.length_set, List.length_set, l2]) fun j hj => ?_
    by_cases e : i = j
    · subst e
      by_cases q : i < σ.length
      · rw [List.getElem?_set_self q, List.getElem?_set_self (by rw [← l2]; exact q)]
      · rw [List.getElem?_eq_none (by rw [List.length_set]; omega), List.getElem?_eq_none (by rw [List.length_set]; omega)]
    · rw [List.getElem?_set_ne e, List.getElem?_set_ne e]
      exact a j fun z => by
        rcases List.mem_cons.mp z with z | z
        · exact e z.symm
        · exact hj z
theorem wipe_at : ∀ (is : List Nat) (σ : L2.St) (j : Nat), j ∉ is → (wipe σ is)[j]? = σ[j]?
  | [], σ, j, _ => rfl
  | i :: is, σ, j, hj => by
    show ((wipe σ is).set i none)[j]? = _
    rw [List.getElem?_set_ne (fun z => hj (by rw [z]; exact List.mem_cons_self)), wipe_at is σ j fun z => hj (List.mem_cons_of_mem _ z)]
theorem wipe_in : ∀ (is : List Nat) (σ : L2.St) (j : Nat), j ∈ is → (wipe σ is)[j]? = if j < σ.length then some none else none
  | [], σ, j, hj => by simp at hj
  | i :: is, σ, j, hj => by
    show ((wipe σ is).set i none)[j]? = _
    by_cases e : i = j
    · subst e
      by_cases q : i < σ.length
      · rw [List.getElem?_set_self (by rw [wipe_length]; exact q), if_pos q]
      · rw [List.getElem?_eq_none (by rw [List.length_set, wipe_length]; omega), if_neg q]
    · rw [List.getElem?_set_ne e]
      rcases List.mem_cons.mp hj with z | z
      · exact absurd z.symm e
      · exact wipe_in is σ j z
theorem wipe_agree (is : List Nat) (σ τ : L2.St) (l : σ.length = τ.length) (a : ∀ j, j ∉ is → σ[j]? = τ[j]?) : wipe σ is = wipe τ is := List.ext_getElem? fun j => by
  by_cases h : j ∈ is
  · rw [wipe_in is σ j h, wipe_in is τ j h, l]
  · rw [wipe_at is σ j h, wipe_at is τ j h, a j h]
theorem setV_at : ∀ (is : List Nat) (vs : List V) (σ : L2.St) (j : Nat), j ∉ is → (setV σ is vs)[j]? = σ[j]?
  | [], vs, σ, j, _ => by cases vs <;> rfl
  | i :: is, [], σ, j, _ => rfl
  | i :: is, v :: vs, σ, j, hj => by
    show (setV (σ.set i (some v)) is vs)[j]? = _
    rw [setV_at is vs _ j (fun z => hj (List.mem_cons_of_mem _ z)), List.getElem?_set_ne (fun z => hj (by rw [z]; exact List.mem_cons_self))]
theorem putTg_wipe {t : Tg} {vs : List V} {σ : L2.St} (l : vs.length = t.slots.length) : putTg (wipe σ t.slots) t vs = putTg σ t vs := by
  cases t with
  | one i =>
    cases vs with
    | nil => cases l
    | cons v vs =>
      show ((σ.set i none).set i (some v)) = σ.set i (some v)
      rw [List.set_set]
  | many is => exact setV_agree is vs _ _ l (wipe_length _ _) fun j hj => wipe_at is σ j hj
theorem wipe_putTg {t : Tg} {vs : List V} {σ : L2.St} (l : vs.length = t.slots.length) : wipe (putTg σ t vs) t.slots = wipe σ t.slots := by
  cases t with
  | one i =>
    cases vs with
    | nil => cases l
    | cons v vs =>
      show (σ.set i (some v)).set i none = σ.set i none
      rw [List.set_set]
  | many is => exact wipe_agree is _ _ (setV_len is vs σ) fun j hj => setV_at is vs σ j hj
section
variable {Γ : Gam} {F : Fns} {N : List Str} {k : Nat} {T : List (Addr × Str)} {sc : Scope}
theorem ok_blk {X : Cx} (ok : Ok Γ F N k T X) {s : Shared} {H : Hp} {scope : Scope} {cenv : Env} {fp : List Addr} (hz : lsNe Γ.lsc cenv.scope.names.length = true) : Ok Γ F N k T (X.blk s H scope cenv fp) :=
  ⟨ok.hN, ok.calm, ok.nd, ok.room, ok.gd, ok.bl, ok.gl, ok.fn, ok.er, ok.at_, ok.ic, ok.ox, ok.hr, fun n e z => (lsNe_of hz n e z).elim⟩
theorem corNs_own : ∀ {es : List Expr} {is : List Nat} {own : List (Str × Nat)}, CorNs N es is own → own.map (·.2) = is
  | _, _, _, .nil => rfl
  | _, _, _, .cons hx r => congrArg (_ :: ·) (corNs_own r)
theorem corTg_own {tg : Expr} {t : Tg} {own : List (Str × Nat)} (h : CorTg N tg t own) : own.map (·.2) = t.slots := by
  cases h with
  | one hx => rfl
  | many h => exact corNs_own h
/-- a comprehension's element, in any block -/
def teB (X : Cx) (scope : Scope) (elt : Expr) : TE := fun σ H Q => ∀ (s : Shared) (H' : Hp) (C : Addr) (cl : List (Str × Addr)) (fp : List Addr), wE (X.blk s H' scope (compEnvC scope cl C X.env) fp) elt σ H Q
def ttB (X : Cx) (scope : Scope) : List Expr → TT
  | [] => tYes
  | e :: _ => fun σ H Q => ∀ (s : Shared) (H' : Hp) (C : Addr) (cl : List (Str × Addr)) (fp : List Addr), wT (X.blk s H' scope (compEnvC scope cl C X.env) fp) e σ H Q
theorem pgs_own {X : Cx} (hN : X.N = N) (hnd : N.Nodup) : ∀ {es : List Expr} {is : List Nat} {own : List (Str × Nat)}, CorNs N es is own → (∀ p ∈ own, X.env.scope.names.lookup p.1 = some .local) → PGs X es (gMany is)
  | _, _, _, .nil, _ => pgs_nil
  | _, _, _, .cons (x := x) (i := i) hx r, hl => pgs_cons (pg_name (i := i) (by rw [hN]; exact hnd) (by rw [hN]; exact hx) (.inl (hl (x, i) List.mem_cons_self)) (.inr (hl (x, i) List.mem_cons_self))) (pgs_own hN hnd r fun p hp => hl p (List.mem_cons_of_mem _ hp))
theorem corNs_len : ∀ {es : List Expr} {is : List Nat} {own : List (Str × Nat)}, CorNs N es is own → es.length = is.length
  | _, _, _, .nil => rfl
  | _, _, _, .cons hx r => congrArg (· + 1) (corNs_len r)
theorem assign_ns : ∀ {es : List Expr} {is : List Nat} {own : List (Str × Nat)}, CorNs N es is own → ∀ env : Env, (assignEach es env).length = is.length ∧ (assignEach es env).findIdx? (·.1) = none
  | _, _, _, .nil, env => ⟨rfl, rfl⟩
  | _, _, _, .cons (x := x) (p := p) (es := es) hx r, env => by
    obtain ⟨h1, h2⟩ := assign_ns r env
    have e : ∃ y, assignEach (.Name x p :: es) env = (false, y) :: assignEach es env := ⟨_, rfl⟩
    obtain ⟨y, e⟩ := e
    rw [e]
    refine ⟨by rw [List.length_cons, List.length_cons, h1], ?_⟩
    rw [List.findIdx?_cons, h2]
    rfl
theorem pg_own {X : Cx} (hN : X.N = N) (hnd : N.Nodup) (hc : X.calm = true) {tg : Expr} {t : Tg} {own : List (Str × Nat)} (h : CorTg N tg t own) (hl : ∀ p ∈ own, X.env.scope.names.lookup p.1 = some .local) : PG X tg (gTg X.K t) := by
  cases h with
  | one hx => exact pg_name (by rw [hN]; exact hnd) (by rw [hN]; exact hx) (.inl (hl _ List.mem_cons_self)) (.inr (hl _ List.mem_cons_self))
  | @many es is own kk p h =>
    exact pg_seq hc (pgs_own hN hnd h hl) (assign_ns h X.env).1 (assign_ns h X.env).2
theorem tgOk_of {c : Ci} {t : Tg} {tg : Expr} {own : List (Str × Nat)} (h : CorTg N tg t own) (z : okTg c t = true) : TgOk c tg := by
  cases c with
  | enu c => cases h with
    | one hx => cases z
    | many h => exact ⟨_, _, _, rfl⟩
  | zip a b => cases h with
    | one hx => cases z
    | many h => exact ⟨_, _, _, rfl⟩
  | _ => trivial
/-- the test of a comprehension -/
def testOf (F : Fns) (q : Option') : Env_ → Hh → Ev Vv := fun δ h => match q with | .non => some (.ok (.d (.bool true)), h) | .som c => evalE F c δ h
def SndQ (Γ : Gam) (F : Fns) (N : List Str) (k : Nat) (T : List (Addr × Str)) (sc : Scope) : List Expr → Option' → Prop
  | [], .non => True
  | [e], .som c => SndT Γ F N k T sc e c
  | _, _ => False
theorem comp_read {scope : Scope} {tg elt iter : Expr} {ifs : List Expr} {tc : Tg} {own : List (Str × Nat)} {ce : C} {ci : Ci} {qq : Option'} (hi : SndI Γ F N k T sc iter ci) (ht : CorTg N tg tc own) (hz : okTg ci tc = true) (hq : SndQ Γ F N k T (relS scope sc) ifs qq) (he : SndE Γ F N k T (relS scope sc) elt ce) (hz2 : lsNe Γ.lsc scope.names.length = true)
    {X : Cx} (ok : Ok Γ F N k T X) (hs : X.env.scope = sc) {Wx : WX} (tk : Takes X Wx) {W0 W : Wd} {H0 H : Hp} {σ : L2.St} {δ : Env_} {hh : Hh} {o : Rs Vv × Hh} (R : Rel X.K T W0 H0 W H σ δ hh) (ev : evalE F (.comp ce tc ci qq) δ hh = some o)
    {Q : VK} (q : PostE X.K T W0 H0 W σ δ o Q fun cls d H' => Wx cls d σ H') : tLc (wI X tg iter) (gTg X.K tc) (ttB X scope ifs) (teB X scope elt) (own.map (·.2)) σ H Q := by
  simp only [evalE] at ev
  rw [corTg_own ht]
  rcases bnd_some ev with ⟨xs, h1, e1, ew⟩ | ⟨ee, h1, e1, rfl⟩
  · refine hi X ok hs Wx tk _ _ _ _ _ _ _ _ R e1 tg (tgOk_of ht hz) _ fun J W1 H1 G Y R1 l1 Wk hG hY => ?_
    obtain ⟨hsm, ew⟩ := ite_some' ew
    split at ew
    · rename_i vs h2 el
      split at ew
      · rename_i ds ed
        cases ew
        intro D hD
        obtain ⟨f1, f2, f3⟩ := R1.free hD
        refine lc_it Wk (fun j H' => ∃ Wj hj acc dn rs, Rel X.K T W1 H1 Wj H' σ δ hj ∧ Wj.B D = none ∧ D ∉ Wj.φ ∧ H' D = some (.lst acc) ∧ RvL X.K Wj dn acc ∧ dn.length ≤ j ∧ compLoop (testOf F qq) (evalE F ce) tc δ (xs.drop j) hj = some (rs, h2) ∧ vs = dn ++ rs)
          ⟨W1, h1, [], [], vs, R1.here.heap (same_upd hD), f2, f3, upd_same, .nil, Nat.le_refl _, el, rfl⟩ (fun j H' _ ⟨Wj, _, _, _, _, Rj, _⟩ => hG _ (Rj.up.b.trans Rj.ext)) ?_ ?_
        · rintro j y H2 H3 hj ⟨Wj, hj', acc, dn, rs, Rj, bD, nD, hD2, da, dl, el2, hds⟩ hy
          obtain ⟨dy, g1, B', s1, s2, s3, nw, dv⟩ := hY j H2 y H3 Wj.B hj Rj.up.b Rj.ext hy
          obtain ⟨Rk, lk⟩ := data_of Rj s1 s2 s3 nw
          have bD' : B' D = none := by
            cases z : B' D with
            | none => rfl
            | some u =>
              rcases nw D u z with ⟨u', z'⟩ | z'
              · rw [bD] at z'; cases z'
              · rw [hD2] at z'; cases z'.1
          have hD3 : H3 D = some (.lst acc) := s3 _ _ hD2
          have hxs : xs.drop j = dy :: xs.drop (j + 1) := by
            obtain ⟨l, e⟩ := List.getElem?_eq_some_iff.mp g1
            rw [List.drop_eq_getElem_cons l, e]
          rw [hxs] at el2
          simp only [compLoop] at el2
          split at el2
          · rename_i δ' eδ
            obtain ⟨ws, Rp, lw, hg⟩ := tg_put (σ := σ) Rk.here (x := .d dy) (v := y) dv eδ
            refine hg _ _ ?_
            rw [putTg_wipe lw]
            refine ⟨wipe_putTg lw, ?_⟩
            have bt := LamX.takes0 (X := X)
            -- the test
            have tst : ∀ (Q2 : Bool → Hp → Prop), (∀ b h3, (∃ z, testOf F qq δ' hj' = some (.ok (.d z), h3) ∧ truthD z = some b) → ∀ W4 H4, Rel X.K T ⟨B', Wj.φ⟩ H3 W4 H4 (putTg σ tc ws) δ' h3 → Q2 b H4) → ttB X scope ifs (putTg σ tc ws) H3 Q2 := by
              intro Q2 q2
              match ifs, qq, hq with
              | [], .non, _ => exact q2 true hj' ⟨.bool true, rfl, rfl⟩ _ _ Rp
              | [e], .som c, hq =>
                intro s0 H4 C0 cl0 fp0
                split at el2
                · rename_i z h3 et
                  split at el2
                  · rename_i tz
                    exact hq (X.blk s0 H4 scope (compEnvC scope cl0 C0 X.env) fp0) (ok_blk ok (by rw [← hz2]; exact congrArg _ (List.length_map ..))) (by show relS scope X.env.scope = _; rw [hs]) _ LamX.takes0 _ _ _ _ _ _ _ _ Rp et _ ⟨true, tz, fun W4 H4 R4 _ => q2 true h3 ⟨z, et, tz⟩ W4 H4 R4⟩
                  · rename_i tz
                    exact hq (X.blk s0 H4 scope (compEnvC scope cl0 C0 X.env) fp0) (ok_blk ok (by rw [← hz2]; exact congrArg _ (List.length_map ..))) (by show relS scope X.env.scope = _; rw [hs]) _ LamX.takes0 _ _ _ _ _ _ _ _ Rp et _ ⟨false, tz, fun W4 H4 R4 _ => q2 false h3 ⟨z, et, tz⟩ W4 H4 R4⟩
                  · cases el2
                · cases el2
            refine tst _ fun b h3 ⟨z, et, tz⟩ W4 H4 R4 => ?_
            have nD4 : D ∉ W4.φ := fun hm => by
              rcases R4.fsh D hm with w | w
              · exact nD w
              · rw [hD3] at w; cases w
            have bD4 : W4.B D = none := by
              cases w : W4.B D with
              | none => rfl
              | some u =>
                rcases R4.new D u w with ⟨u', w'⟩ | w' | w'
                · have w' : B' D = some u' := w'
                  rw [bD'] at w'; cases w'
                · rw [hD3] at w'; cases w'
                · exact absurd w' nD
            have hD4 : H4 D = some (.lst acc) := R4.fr D _ nD (fun _ z => by cases z) hD3
            have Rn4 : Rel X.K T W1 H1 W4 H4 σ δ h3 := Rk.back (Same.refl _) R4
            rw [et] at el2
            cases b with
            | true =>
              simp only [tz] at el2
              rw [if_pos rfl]
              intro s0 H5 C0 cl0 fp0
              split at el2
              · rename_i v h4 eE
                split at el2
                · rename_i rs' h5 el3
                  cases el2
                  refine he (X.blk s0 H5 scope (compEnvC scope cl0 C0 X.env) fp0) (ok_blk ok (by rw [← hz2]; exact congrArg _ (List.length_map ..))) (by show relS scope X.env.scope = _; rw [hs]) _ LamX.takes0 _ _ _ _ _ _ _ _ R4.here eE _ fun w W5 H6 R5 l5 r5 => ?_
                  have nD5 : D ∉ W5.φ := fun hm => by
                    rcases R5.fsh D hm with w | w
                    · exact nD4 w
                    · rw [hD4] at w; cases w
                  have bD5 : W5.B D = none := by
                    cases w : W5.B D with
                    | none => rfl
                    | some u =>
                      rcases R5.new D u w with ⟨u', w'⟩ | w' | w'
                      · rw [bD4] at w'; cases w'
                      · rw [hD4] at w'; cases w'
                      · exact absurd w' nD4
                  have hD5 : H6 D = some (.lst acc) := R5.fr D _ nD4 (fun _ z => by cases z) hD4
                  have Rn : Rel X.K T W1 H1 W5 H6 σ δ h4 := Rn4.back (Same.refl _) R5
                  have le5 : Wj.Le W5 := (lk.trans R4.up).trans l5
                  refine ⟨acc, hD5, ?_, W5, h4, acc ++ [w], dn ++ [v], rs', Rn.touch hD5 pln_lst nD5 bD5 hD, bD5, nD5, upd_same, pr_app (RvL.mono le5 da) (.cons r5 .nil), by rw [List.length_append, List.length_singleton]; omega, el3, by rw [hds, List.append_assoc] <;> rfl⟩
                  have := Paired.length da
                  have := small_lt hsm
                  omega
                · cases el2
              · cases el2
            | false =>
              simp only [tz] at el2
              rw [if_neg Bool.false_ne_true]
              exact ⟨W4, h3, acc, dn, rs, Rn4, bD4, nD4, hD4, RvL.mono (lk.trans R4.up) da, by omega, el2, hds⟩
          · cases el2
        · rintro H2 ⟨Wj, hj', acc, dn, rs, Rj, bD, nD, hD2, da, dl, el2, hds⟩
          rw [List.drop_length] at el2
          simp only [compLoop] at el2
          cases el2
          rw [List.append_nil] at hds
          subst hds
          have R2 := R1.back (Same.refl _) Rj
          obtain ⟨R3, l3⟩ := R2.done hD2 nD bD f1 (fun _ z => by cases z)
          exact q (.ref D) _ H2 R3 ((l1.trans Rj.up).trans l3) (.lst upd_same ((datL_rv ed da).mono l3.b))
      · cases ew
    · cases ew
  · exact hi X ok hs Wx tk _ _ _ _ _ _ _ _ R e1 tg (tgOk_of ht hz) _ q
end
end Nv


set_option Elab.async false
set_option linter.all false
set_option maxRecDepth 100000
set_option maxHeartbeats 8000000
/-! The code's answer is the text's: expressions. -/
namespace Nv
open PySem PySem.Spec PyProof.Rows L2
section
variable {Γ : Gam} {F : Fns} {N : List Str} {k : Nat} {T : List (Addr × Str)} {sc : Scope}
theorem ttB_pts {X : Cx} {scope : Scope} : ∀ {ifs : List Expr}, ifs.length ≤ 1 → ∀ (s : Shared) (H : Hp) (C : Addr) (cl : List (Str × Addr)) (fp : List Addr), PTs (X.blk s H scope (compEnvC scope cl C X.env) fp) ifs (ttB X scope ifs)
  | [], _, _, _, _, _, _ => pts_nil
  | [e], _, s, H, C, cl, fp => pts_one ⟨fun pins s' σ' H'' Q' I h => h s H C cl fp pins s' I⟩
  | _ :: _ :: _, l, _, _, _, _, _ => absurd l (by simp)
theorem sndQ_len {ifs : List Expr} {q : Option'} (h : SndQ Γ F N k T sc ifs q) : ifs.length ≤ 1 := by
  match ifs, q, h with
  | [], .non, _ => exact Nat.zero_le _
  | [e], .som c, _ => exact Nat.le_refl _
theorem snd_comp {scope : Scope} {tg elt iter : Expr} {ifs : List Expr} {tc : Tg} {own : List (Str × Nat)} {pos : Pos} {ce : C} {ci : Ci} {qq : Option'} (hi : SndI Γ F N k T sc iter ci) (hb : BlkOk N sc scope own) (ht : CorTg N tg tc own) (hz : okTg ci tc = true)
    (hl : ∀ p ∈ own, (relS scope sc).names.lookup p.1 = some .local) (hq : SndQ Γ F N k T (relS scope sc) ifs qq) (he : SndE Γ F N k T (relS scope sc) elt ce) (hst : ∀ env v, foldedSetIterable iter env v = pure v) (hz2 : lsNe Γ.lsc scope.names.length = true) :
    SndE Γ F N k T sc (.ListComp elt [⟨tg, iter, ifs, 0⟩] scope pos) (.comp ce tc ci qq) := by
  intro X ok hs Wx tk W0 H0 W H σ δ hh o R ev Q q
  exact w_pe (pe_lc (X := X) (own := own) (g := gTg X.K tc) (tt := ttB X scope ifs) (te := teB X scope elt) (tg := tg) (pos := pos) ok.calm (by rw [ok.hN]; exact ok.nd) (pi_w (X := X) (tg := tg) (it := iter)) (by rw [ok.hN, hs]; exact hb)
    (fun s H' C cl fp => pg_own (X := X.blk s H' scope (compEnvC scope cl C X.env) fp) ok.hN ok.nd ok.calm ht (fun p hp => by show (relS scope X.env.scope).names.lookup p.1 = _; rw [hs]; exact hl p hp))
    (fun s H' C cl fp => ttB_pts (sndQ_len hq) s H' C cl fp) (fun s H' C cl fp => ⟨fun pins s' σ' H'' Q' I h => h s H' C cl fp pins s' I⟩) (fun v => hst X.env v)) (comp_read hi ht hz hq he hz2 ok hs tk R ev q)
mutual
theorem sound : ∀ {sc : Scope} {e : Expr} {c : C}, Cor Γ N sc e c → SndE Γ F N k T sc e c
  | _, _, _, .var h hv h1 h2 => snd_var h hv h1 h2
  | _, _, _, .int => snd_cst (fun _ => pe_int) fun _ _ => .int _
  | _, _, _, .bl => snd_cst (fun _ => pe_bl) fun _ _ => .bl _
  | _, _, _, .non => snd_cst (fun _ => pe_non) fun _ _ => .non
  | _, _, _, .str => snd_cst (fun _ => pe_str) fun _ _ => .str _
  | _, _, _, .glb i h hm h1 => snd_glb h hm h1
  | _, _, _, .one ha => snd_one (sound ha)
  | _, _, _, .and_ ha hb => snd_and (sound ha) (sound hb)
  | _, _, _, .or_ ha hb => snd_or (sound ha) (sound hb)
  | _, _, _, .not_ ha => snd_not (sound ha)
  | _, _, _, .ite ht ha hb => snd_ite (soundT ht) (sound ha) (sound hb)
  | _, _, _, .bin ha hb => snd_bin (sound ha) (sound hb)
  | _, _, _, .neg ha => snd_neg (sound ha)
  | _, _, _, .cmp ha hb hm => snd_cmp (sound ha) (sound hb) hm
  | _, _, _, .chain ha hb hc hm => snd_chain (sound ha) (sound hb) (sound hc) hm
  | _, _, _, .tup h => snd_tup (soundL h)
  | _, _, _, .lst h => snd_lst (soundL h)
  | _, _, _, .dct1 h => snd_dct1 (sound h)
  | _, _, _, .isi1 ha h1 h2 h3 h4 h5 h6 h7 hs => snd_isi1 (sound ha) h1 h2 h3 h4 h5 h6 h7 hs
  | _, _, _, .isi2 ha h1 h2 h3 h4 h5 h6 h7 g3 g4 g5 g6 g7 hs => snd_isi2 (sound ha) h1 h2 h3 h4 h5 h6 h7 g3 g4 g5 g6 g7 hs
  | _, _, _, .call (x := x) (n := n) he h hn h1 h2 => snd_call (e := ⟨x, n, []⟩) he h (soundL h) hn rfl h1 h2
  | _, _, _, .gcall (x := x) (n := n) he h hn h1 h2 => snd_gcall (e := ⟨x, n, []⟩) he h (soundL h) hn rfl h1 h2
  | _, _, _, .callK (x := x) (ks := ks) he hv h hk h1 h2 => snd_callK (e := ⟨x, 0, ks⟩) he hv h (soundL h) rfl hk h1 h2
  | _, _, _, .bltF hb ha h1 h2 h3 h4 h5 hs => snd_bltF hb (sound ha) h1 h2 h3 h4 h5 hs
  | _, _, _, .bltT hb ha h1 h2 h3 h4 h5 hs => snd_bltT hb (sound ha) h1 h2 h3 h4 h5 hs
  | _, _, _, .sub ha hi hs => snd_sub (sound ha) (sound hi) hs
  | _, _, _, .upto ha hn => snd_upto (sound ha) (sound hn)
  | _, _, _, .attr ha hm hb => snd_attr (sound ha) hm hb
  | _, _, _, .isc ha h1 h2 h3 h7 hm hs => snd_isc (sound ha) h1 h2 h3 h7 hm hs
  | _, _, _, .neE ha => snd_nil true (sound ha)
  | _, _, _, .eqE ha => snd_nil false (sound ha)
  | _, _, _, .newL h => snd_newL (soundL h)
  | _, _, _, .newLst ha h1 h2 hs => snd_thaw (sound ha) h1 h2 hs
  | _, _, _, .comp hi hb ht hz hl hq he hs hz2 => snd_comp (soundI hi) hb ht hz hl (soundQ hq) (sound he) hs hz2
  | _, _, _, .frz ha => snd_frz (sound ha)
  | _, _, _, .popL ha hl hb => snd_popL (sound ha) hl hb
  | _, _, _, .popA ha he hl hb hs => snd_popA (sound ha) (sound he) hl hb hs
  | _, _, _, .op h hs hl => snd_op h hs (soundL hl)
  | _, _, _, .newD => snd_newD
  | _, _, _, .sortK ha h1 h2 hs => snd_sortK (sound ha) h1 h2 hs
  | _, _, _, .heard hx h1 h2 hl hz L LP he => snd_heard hx h1 h2 hl hz L LP (sound he)
theorem soundT : ∀ {sc : Scope} {e : Expr} {c : C}, CorT Γ N sc e c → SndT Γ F N k T sc e c
  | _, _, _, .val h he => snd_val (sound h) he
  | _, _, _, .not_ ha => snd_notT (soundT ha)
  | _, _, _, .cmp ha hb hm => snd_cmpT (sound ha) (sound hb) hm
  | _, _, _, .chain ha hb hc hm => snd_chainT (sound ha) (sound hb) (sound hc) hm
  | _, _, _, .neE ha => snd_nilT true (sound ha)
  | _, _, _, .eqE ha => snd_nilT false (sound ha)
  | _, _, _, .bool h => snd_boolT (soundW h)
  | _, _, _, .op h hs hl => snd_opT h hs (soundL hl)
theorem soundW : ∀ {sc : Scope} {e : Expr} {c : C}, CorW Γ N sc e c → SndW Γ F N k T sc e c
  | _, _, _, .one ha => snd_oneW (soundT ha)
  | _, _, _, .and_ ha hb => snd_andW (soundT ha) (soundW hb)
  | _, _, _, .or_ ha hb => snd_orW (soundT ha) (soundW hb)
theorem soundL : ∀ {sc : Scope} {es : List Expr} {cs : Cs}, CorL Γ N sc es cs → SndL Γ F N k T sc es cs
  | _, _, _, .nil => snd_nilL
  | _, _, _, .cons h r hs => snd_consL (sound h) (soundL r) hs
theorem soundI : ∀ {sc : Scope} {e : Expr} {c : Ci}, CorI Γ N sc e c → SndI Γ F N k T sc e c
  | _, _, _, .seq h => snd_seq (sound h)
  | _, _, _, .rng h h1 h2 hs => snd_rng (sound h) h1 h2 hs
  | _, _, _, .rng2 ha hb h1 h2 hsa hsb => snd_rng2 (sound ha) (sound hb) h1 h2 hsa hsb
  | _, _, _, .enu h h1 h2 hs => snd_enu (sound h) h1 h2 hs
  | _, _, _, .zip ha hb h1 h2 hsa hsb => snd_zip (sound ha) (sound hb) h1 h2 hsa hsb
theorem soundQ : ∀ {sc : Scope} {es : List Expr} {c : Option'}, CorQ Γ N sc es c → SndQ Γ F N k T sc es c
  | _, _, _, .non => True.intro
  | _, _, _, .som h => soundT h
end
end
end Nv


set_option Elab.async false
set_option linter.all false
set_option maxRecDepth 100000
set_option maxHeartbeats 8000000
/-! Statements. -/
namespace Nv
open PySem PySem.Spec PyProof.Rows L2
mutual
inductive CorS (Γ : Gam) (N : List Str) (sc : Scope) : Stmt → Sd → Prop
  | asg {i : Nat} {x : Str} {e : Expr} {p pos : Pos} {c : C} (hx : N[i]? = some x) (hl : Loc sc x) (h : Cor Γ N sc e c) (hw : ∀ env, swapsWith e (some (.Name x p)) pos.line env = pure false) : CorS Γ N sc (.Assign [.Name x p] e pos) (.asg i c)
  | asgLc {scope : Scope} {j : Nat} {y : Str} {tg elt iter : Expr} {ifs : List Expr} {tc : Tg} {own : List (Str × Nat)} {p2 pos pos2 : Pos} {ce : C} {ci : Ci} {q : Option'} (hy : N[j]? = some y) (hyl : sc.names.lookup y = some .local) (hk : sc.kind = .function) (hln : (p2.line == pos.line) = true)
    (hany : (scope.names.any fun (n, k) => n == y && (k == .local || k == .cell)) = false) (hi : CorI Γ N sc iter ci) (hb : BlkOk N sc scope own) (ht : CorTg N tg tc own) (hz : okTg ci tc = true) (hl : ∀ p ∈ own, (relS scope sc).names.lookup p.1 = some .local)
    (hq : CorQ Γ N (relS scope sc) ifs q) (he : Cor Γ N (relS scope sc) elt ce) (hs : ∀ env v, foldedSetIterable iter env v = pure v) (hz2 : lsNe Γ.lsc scope.names.length = true) :
    CorS Γ N sc (.Assign [.Name y p2] (.ListComp elt [⟨tg, iter, ifs, 0⟩] scope pos) pos2) (.asg j (.comp ce tc ci q))
  | par {i j : Nat} {x y : Str} {a b : Expr} {px py pt pt2 pos : Pos} {kt k2 : Nat} {ca cb : C} (hi : N[i]? = some x) (hj : N[j]? = some y) (hij : i ≠ j) (hx : sc.names.lookup x = some .local) (hy : sc.names.lookup y = some .local) (ha : Cor Γ N sc a ca) (hb : Cor Γ N sc b cb)
    (hsa : ∀ env, starEach [a, b] env = (false, eval a env) :: starEach [b] env) (hsb : ∀ env, starEach [b] env = (false, eval b env) :: starEach [] env)
    (hw : ∀ env : Env, env.scope = sc → swappedStores [.Tuple [.Name x px, .Name y py] kt pt] (.Tuple [a, b] k2 pt2) env = pure (some [x, y]))
    (hs : ∀ env : Env, swapsWithSole [.Tuple [.Name x px, .Name y py] kt pt] (.Tuple [a, b] k2 pt2) pos.line env = pure false) : CorS Γ N sc (.Assign [.Tuple [.Name x px, .Name y py] kt pt] (.Tuple [a, b] k2 pt2) pos) (.par i j ca cb)
  | par3 {i j l : Nat} {x y z : Str} {a b c : Expr} {px py pz pt pt2 pos : Pos} {kt k2 : Nat} {ca cb cc : C} (hi : N[i]? = some x) (hj : N[j]? = some y) (hl : N[l]? = some z) (hij : i ≠ j) (hil : i ≠ l) (hjl : j ≠ l) (hx : sc.names.lookup x = some .local) (hy : sc.names.lookup y = some .local) (hz : sc.names.lookup z = some .local)
    (ha : Cor Γ N sc a ca) (hb : Cor Γ N sc b cb) (hc : Cor Γ N sc c cc) (hsa : ∀ env, starEach [a, b, c] env = (false, eval a env) :: starEach [b, c] env) (hsb : ∀ env, starEach [b, c] env = (false, eval b env) :: starEach [c] env) (hsc : ∀ env, starEach [c] env = (false, eval c env) :: starEach [] env)
    (hw : ∀ env : Env, env.scope = sc → swappedStores [.Tuple [.Name x px, .Name y py, .Name z pz] kt pt] (.Tuple [a, b, c] k2 pt2) env = pure (some [x, y, z]))
    (hs : ∀ env : Env, swapsWithSole [.Tuple [.Name x px, .Name y py, .Name z pz] kt pt] (.Tuple [a, b, c] k2 pt2) pos.line env = pure false) : CorS Γ N sc (.Assign [.Tuple [.Name x px, .Name y py, .Name z pz] kt pt] (.Tuple [a, b, c] k2 pt2) pos) (.par3 i j l ca cb cc)
  | unp {es : List Expr} {is : List Nat} {own : List (Str × Nat)} {e : Expr} {kt : Nat} {pt pos : Pos} {c : C} (ht : CorNs N es is own) (hl : ∀ p ∈ own, Loc sc p.1) (he : Cor Γ N sc e c) (hs : ∀ env : Env, swapsWithSole [.Tuple es kt pt] e pos.line env = pure false) (hw : ∀ env : Env, swappedStores [.Tuple es kt pt] e env = pure none) :
    CorS Γ N sc (.Assign [.Tuple es kt pt] e pos) (.unp is c)
  | aug {i : Nat} {x : Str} {op : Operator} {e : Expr} {p pos : Pos} {c : C} (hx : N[i]? = some x) (hl : Loc sc x) (he : Cor Γ N sc e c) (ho : op = .Add ∨ op = .Sub) : CorS Γ N sc (.AugAssign (.Name x p) op e pos) (.aug i op c)
  | ret {e : Expr} {pos : Pos} {c : C} (h : Cor Γ N sc e c) : CorS Γ N sc (.Return (some e) pos) (.ret c)
  | ifs {t : Expr} {a b : List Stmt} {pos : Pos} {ct : C} {ca cb : Sds} (ht : CorT Γ N sc t ct) (ha : CorSs Γ N sc a ca) (hb : CorSs Γ N sc b cb) : CorS Γ N sc (.If t a b pos) (.ifs ct ca cb)
  | for_ {tg it : Expr} {tc : Tg} {own : List (Str × Nat)} {b : List Stmt} {pos : Pos} {ci : Ci} {cb : Sds} (ht : CorTg N tg tc own) (hz : okTg ci tc = true) (hl : ∀ p ∈ own, Loc sc p.1) (hi : CorI Γ N sc it ci) (hb : CorSs Γ N sc b cb) (hs : ∀ env v, foldedSetIterable it env v = pure v) : CorS Γ N sc (.For tg it b [] pos) (.for_ tc ci cb)
  | while_ {t : Expr} {b : List Stmt} {pos : Pos} {ct : C} {cb : Sds} (ht : CorT Γ N sc t ct) (hb : CorSs Γ N sc b cb) : CorS Γ N sc (.While t b [] pos) (.while_ ct cb)
  | expr {e : Expr} {pos : Pos} {c : C} (h : Cor Γ N sc e c) (hw : ∀ env, swapsWith e none pos.line env = pure false) : CorS Γ N sc (.Expr e pos) (.expr c)
  | doc {x : Str} {j : Nat} {p pos : Pos} : CorS Γ N sc (.Expr (.Constant (.str x) j p) pos) .pass
  | pass {pos : Pos} : CorS Γ N sc (.Pass pos) .pass
  | brk {pos : Pos} : CorS Γ N sc (.Break pos) .brk
  | cnt {pos : Pos} : CorS Γ N sc (.Continue pos) .cnt
  | app {a e : Expr} {ap cp pos : Pos} {ca c : C} (ha : Cor Γ N sc a ca) (he : Cor Γ N sc e c) (hl : (ap.endLine == cp.line) = true) (hb : ∀ env, attributeBase a "append" env (eval a env) = eval a env)
    (hs : ∀ env, starEach [e] env = (false, eval e env) :: starEach [] env) (hw : ∀ env, swapsWith (.Call (.Attribute a "append" ap) [e] [] cp) none pos.line env = pure false) : CorS Γ N sc (.Expr (.Call (.Attribute a "append" ap) [e] [] cp) pos) (.app ca c)
  | ext {a e : Expr} {ap cp pos : Pos} {ca c : C} (ha : Cor Γ N sc a ca) (he : Cor Γ N sc e c) (hl : (ap.endLine == cp.line) = true) (hb : ∀ env, attributeBase a "extend" env (eval a env) = eval a env)
    (hs : ∀ env, starEach [e] env = (false, eval e env) :: starEach [] env) (hw : ∀ env, swapsWith (.Call (.Attribute a "extend" ap) [e] [] cp) none pos.line env = pure false) : CorS Γ N sc (.Expr (.Call (.Attribute a "extend" ap) [e] [] cp) pos) (.ext ca c)
  | setI {a i e : Expr} {p3 pos : Pos} {ca ci c : C} (ha : Cor Γ N sc a ca) (hi : Cor Γ N sc i ci) (he : Cor Γ N sc e c) (hw : ∀ env, swapsWithSole [.Subscript a i p3] e pos.line env = pure false) (hw2 : ∀ env, swappedStores [.Subscript a i p3] e env = pure none) (hp : PlainIx i)
    (hst : ∀ env, (assignEach [.Subscript a i p3] env).map (·.2) = [assign (.Subscript a i p3) env])
    (hst2 : ∀ env v, assign (.Subscript a i p3) env v = (do
      let ov ← holding [v] (eval a env)
      let iv ← holding [v, ov] (eval i env)
      standAt p3
      holding [v, ov, iv] (setItem ov iv v)
      release [v, ov, iv] [])) : CorS Γ N sc (.Assign [.Subscript a i p3] e pos) (.setI ca ci c)
  | raise_ {x : Str} {fs : List Str} {es : List Expr} {cs : Cs} {p pos pos2 : Pos} (hx : (⟨x, fs⟩ : Er) ∈ Γ.xs) (hl : CorL Γ N sc es cs) (hn : es.length = fs.length) (h1 : Pl sc x) : CorS Γ N sc (.Raise (some (.Call (.Name x p) es [] pos)) none pos2) (.raise_ x fs cs)
  | op {i : Nat} {Sh : Shp} {es : List Expr} {js : List Nat} {x : Stmt} {cs : Cs} (h : Γ.ox[i]? = some Sh) (hs : Sh.s sc N es js x) (hl : CorL Γ N sc es cs) : CorS Γ N sc x (.op i cs js)
inductive CorSs (Γ : Gam) (N : List Str) (sc : Scope) : List Stmt → Sds → Prop
  | nil : CorSs Γ N sc [] .nil
  | cons {s : Stmt} {ss : List Stmt} {c : Sd} {cs : Sds} (h : CorS Γ N sc s c) (r : CorSs Γ N sc ss cs) : CorSs Γ N sc (s :: ss) (.cons c cs)
end
structure OkS (Γ : Gam) (F : Fns) (N : List Str) (k : Nat) (T : List (Addr × Str)) (X : Cx) : Prop where
  ok : Ok Γ F N k T X
  ps : PassesOwn (model X.prog X.w) X.A X.env X.xe
  fn : ∀ x, X.fn x = true
/-- what is wanted behind a run that ends so -/
def Wants (K : PySem.W.Frag) (T : List (Addr × Str)) (W0 : Wd) (H0 : Hp) (W : Wd) (out : Out) (D : Ends) (Wx : WX) : Prop := match out with
  | .nx δ' h' => ∀ σ' W' H', Rel K T W0 H0 W' H' σ' δ' h' → W.Le W' → D.nx σ' H'
  | .bk δ' h' => ∀ σ' W' H', Rel K T W0 H0 W' H' σ' δ' h' → W.Le W' → D.bk σ' H'
  | .ct δ' h' => ∀ σ' W' H', Rel K T W0 H0 W' H' σ' δ' h' → W.Le W' → D.ct σ' H'
  | .rt x h' => ∀ v σ' δ' W' H', Rel K T W0 H0 W' H' σ' δ' h' → W.Le W' → Rv K W' x v → D.rt v H'
  | .ex e h' => ∀ cls d σ' δ' W' H', Rel K T W0 H0 W' H' σ' δ' h' → W.Le W' → ExR K W' e cls d → Wx cls d σ' H'
theorem Wants.mono {K : PySem.W.Frag} {T : List (Addr × Str)} {W0 W W1 : Wd} {H0 : Hp} {out : Out} {D : Ends} {Wx : WX} (h : Wants K T W0 H0 W out D Wx) (l : W.Le W1) : Wants K T W0 H0 W1 out D Wx := by
  cases out with
  | nx δ' h' => exact fun σ' W' H' R l' => h σ' W' H' R (l.trans l')
  | bk δ' h' => exact fun σ' W' H' R l' => h σ' W' H' R (l.trans l')
  | ct δ' h' => exact fun σ' W' H' R l' => h σ' W' H' R (l.trans l')
  | rt x h' => exact fun v σ' δ' W' H' R l' r => h v σ' δ' W' H' R (l.trans l') r
  | ex e h' => exact fun cls d σ' δ' W' H' R l' r => h cls d σ' δ' W' H' R (l.trans l') r
def SndS (Γ : Gam) (F : Fns) (N : List Str) (k : Nat) (T : List (Addr × Str)) (sc : Scope) (s : Stmt) (c : Sd) : Prop :=
  ∀ X, OkS Γ F N k T X → X.env.scope = sc → ∀ Wx : WX, Takes X Wx → ∀ W0 H0 W H σ δ h out, Rel X.K T W0 H0 W H σ δ h → evalS F c δ h = some out → ∀ D : Ends, Wants X.K T W0 H0 W out D Wx → wS X s D σ H
def SndSs (Γ : Gam) (F : Fns) (N : List Str) (k : Nat) (T : List (Addr × Str)) (sc : Scope) (s : List Stmt) (c : Sds) : Prop :=
  ∀ X, OkS Γ F N k T X → X.env.scope = sc → ∀ Wx : WX, Takes X Wx → ∀ W0 H0 W H σ δ h out, Rel X.K T W0 H0 W H σ δ h → evalSs F c δ h = some out → ∀ D : Ends, Wants X.K T W0 H0 W out D Wx → wSs X s D σ H
theorem bndS_some {α : Type} {m : Ev α} {f : α → Hh → Option Out} {o : Out} (h : bndS m f = some o) : (∃ x h1, m = some (.ok x, h1) ∧ f x h1 = some o) ∨ ∃ e h1, m = some (.ex e, h1) ∧ o = .ex e h1 := by
  unfold bndS at h
  split at h
  · rename_i x h1
    exact .inl ⟨x, h1, rfl, h⟩
  · rename_i e h1
    cases h
    exact .inr ⟨e, h1, rfl, rfl⟩
  · cases h
section
variable {Γ : Gam} {F : Fns} {N : List Str} {k : Nat} {T : List (Addr × Str)} {sc : Scope}
section
variable {X : Cx} {Wx : WX} {W0 W : Wd} {H0 H : Hp} {σ : L2.St} {δ : Env_} {h : Hh}
/-- what is wanted where it is raised -/
def WantX (K : PySem.W.Frag) (T : List (Addr × Str)) (W0 : Wd) (H0 : Hp) (W : Wd) (out : Out) (Wx : WX) : Prop := match out with
  | .ex e h' => ∀ cls d σ' δ' W' H', Rel K T W0 H0 W' H' σ' δ' h' → W.Le W' → ExR K W' e cls d → Wx cls d σ' H'
  | _ => True
theorem Wants.x {K : PySem.W.Frag} {T : List (Addr × Str)} {W0 W : Wd} {H0 : Hp} {out : Out} {D : Ends} {Wx : WX} (h : Wants K T W0 H0 W out D Wx) : WantX K T W0 H0 W out Wx := by
  cases out with
  | ex e h' => exact h
  | _ => trivial
theorem WantX.mono {K : PySem.W.Frag} {T : List (Addr × Str)} {W0 W W1 : Wd} {H0 : Hp} {out : Out} {Wx : WX} (h : WantX K T W0 H0 W out Wx) (l : W.Le W1) : WantX K T W0 H0 W1 out Wx := by
  cases out with
  | ex e h' => exact fun cls d σ' δ' W' H' R l' r => h cls d σ' δ' W' H' R (l.trans l') r
  | _ => trivial
theorem bndS_E {a : Expr} {ca : C} (ha : SndE Γ F N k T sc a ca) (ok : Ok Γ F N k T X) (hs : X.env.scope = sc) (tk : Takes X Wx) (R : Rel X.K T W0 H0 W H σ δ h) {f : Vv → Hh → Option Out} {o : Out} (ev : bndS (evalE F ca δ h) f = some o)
    (px : WantX X.K T W0 H0 W o Wx) {Q : VK} (q : ∀ x h1, f x h1 = some o → ∀ v W1 H1, Rel X.K T W0 H0 W1 H1 σ δ h1 → W.Le W1 → Rv X.K W1 x v → Q v H1) : wE X a σ H Q := by
  rcases bndS_some ev with ⟨x, h1, e1, e2⟩ | ⟨e, h1, e1, rfl⟩
  · exact ha X ok hs Wx tk W0 H0 W H σ δ h _ R e1 Q fun v W1 H1 R1 l1 r1 => q x h1 e2 v W1 H1 R1 l1 r1
  · exact ha X ok hs Wx tk W0 H0 W H σ δ h _ R e1 Q fun cls d W1 H1 R1 l1 x => px cls d σ δ W1 H1 R1 l1 x
theorem bndS_T {a : Expr} {ca : C} (ha : SndT Γ F N k T sc a ca) (ok : Ok Γ F N k T X) (hs : X.env.scope = sc) (tk : Takes X Wx) (R : Rel X.K T W0 H0 W H σ δ h) {f : Vv → Hh → Option Out} {o : Out} (ev : bndS (evalE F ca δ h) f = some o)
    (px : WantX X.K T W0 H0 W o Wx) {Q : Bool → Hp → Prop} (q : ∀ x h1, f x h1 = some o → ∃ b, (datV x).bind truthD = some b ∧ ∀ W1 H1, Rel X.K T W0 H0 W1 H1 σ δ h1 → W.Le W1 → Q b H1) : wT X a σ H Q := by
  rcases bndS_some ev with ⟨x, h1, e1, e2⟩ | ⟨e, h1, e1, rfl⟩
  · exact ha X ok hs Wx tk W0 H0 W H σ δ h _ R e1 Q (q x h1 e2)
  · exact ha X ok hs Wx tk W0 H0 W H σ δ h _ R e1 Q fun cls d W1 H1 R1 l1 x => px cls d σ δ W1 H1 R1 l1 x
theorem bndS_A {es : List Expr} {cs : Cs} (hl : SndL Γ F N k T sc es cs) (ok : Ok Γ F N k T X) (hs : X.env.scope = sc) (tk : Takes X Wx) (R : Rel X.K T W0 H0 W H σ δ h) {f : List Vv → Hh → Option Out} {o : Out} (ev : bndS (evalL F cs δ h) f = some o)
    (px : WantX X.K T W0 H0 W o Wx) {Q : List V → Hp → Prop} (q : ∀ xs h1, evalL F cs δ h = some (.ok xs, h1) → f xs h1 = some o → ∀ vs W1 H1, Rel X.K T W0 H0 W1 H1 σ δ h1 → W.Le W1 → RvL X.K W1 xs vs → Q vs H1) :
    wA X es σ H Q ∧ (∀ kws : List Keyword, kws.map (fun k => k.value) = es → wK X kws σ H Q) ∧ wL X es σ H Q := by
  rcases bndS_some ev with ⟨x, h1, e1, e2⟩ | ⟨e, h1, e1, rfl⟩
  · exact hl X ok hs Wx tk W0 H0 W H σ δ h _ R e1 Q fun v W1 H1 R1 l1 r1 => q x h1 e1 e2 v W1 H1 R1 l1 r1
  · exact hl X ok hs Wx tk W0 H0 W H σ δ h _ R e1 Q fun cls d W1 H1 R1 l1 x => px cls d σ δ W1 H1 R1 l1 x
end
theorem sd_asg {i : Nat} {x : Str} {e : Expr} {p pos : Pos} {c : C} (hx : N[i]? = some x) (hl : Loc sc x) (h : SndE Γ F N k T sc e c) (hw : ∀ env, swapsWith e (some (.Name x p)) pos.line env = pure false) : SndS Γ F N k T sc (.Assign [.Name x p] e pos) (.asg i c) := by
  intro X ok hs Wx tk W0 H0 W H σ δ hh out R ev D wd
  simp only [evalS] at ev
  refine w_ps (ps_set (i := i) (by rw [ok.ok.hN]; exact ok.ok.nd) (by rw [ok.ok.hN]; exact hx) (by rw [hs]; exact hl) pe_w (hw X.env) (.inl (ok.fn x))) ?_
  refine bndS_E h ok.ok hs tk R ev wd.x fun y h1 ev v W1 H1 R1 l1 r1 => ?_
  cases ev
  exact wd _ W1 H1 (R1.put r1) l1
theorem sd_asgLc {scope : Scope} {j : Nat} {y : Str} {tg elt iter : Expr} {ifs : List Expr} {tc : Tg} {own : List (Str × Nat)} {p2 pos pos2 : Pos} {ce : C} {ci : Ci} {qq : Option'} (hy : N[j]? = some y) (hyl : sc.names.lookup y = some .local) (hk : sc.kind = .function) (hln : (p2.line == pos.line) = true)
    (hany : (scope.names.any fun (n, k) => n == y && (k == .local || k == .cell)) = false) (hi : SndI Γ F N k T sc iter ci) (hb : BlkOk N sc scope own) (ht : CorTg N tg tc own) (hz : okTg ci tc = true) (hl : ∀ p ∈ own, (relS scope sc).names.lookup p.1 = some .local)
    (hq : SndQ Γ F N k T (relS scope sc) ifs qq) (he : SndE Γ F N k T (relS scope sc) elt ce) (hst : ∀ env v, foldedSetIterable iter env v = pure v) (hz2 : lsNe Γ.lsc scope.names.length = true) :
    SndS Γ F N k T sc (.Assign [.Name y p2] (.ListComp elt [⟨tg, iter, ifs, 0⟩] scope pos) pos2) (.asg j (.comp ce tc ci qq)) := by
  intro X okS hs Wx tk W0 H0 W H σ δ hh out R ev D wd
  have ok := okS.ok
  simp only [evalS] at ev
  refine w_ps (ps_setLc (X := X) (i := j) (own := own) (g := gTg X.K tc) (tt := ttB X scope ifs) (te := teB X scope elt) (tg := tg) (pos := pos) ok.calm (by rw [ok.hN]; exact ok.nd) (by rw [ok.hN]; exact hy) (by rw [hs]; exact hyl)
    (sw_true (by rw [hs]; exact hk) (by rw [hs]; exact hyl) hln hany) (pi_w (X := X) (tg := tg) (it := iter)) (by rw [ok.hN, hs]; exact hb)
    (fun s H' C cl fp => pg_own (X := X.blk s H' scope (compEnvC scope cl C X.env) fp) ok.hN ok.nd ok.calm ht (fun p hp => by show (relS scope X.env.scope).names.lookup p.1 = _; rw [hs]; exact hl p hp))
    (fun s H' C cl fp => ttB_pts (sndQ_len hq) s H' C cl fp) (fun s H' C cl fp => ⟨fun pins s' σ' H'' Q' I h => h s H' C cl fp pins s' I⟩) (fun v => hst X.env v)) ?_
  rcases bndS_some ev with ⟨x, h1, e1, e2⟩ | ⟨e, h1, e1, rfl⟩
  · cases e2
    exact comp_read hi ht hz hq he hz2 ok hs tk R e1 fun v W1 H1 R1 l1 r1 => wd _ W1 H1 (R1.put r1) l1
  · exact comp_read hi ht hz hq he hz2 ok hs tk R e1 fun cls d W1 H1 R1 l1 x => wd cls d σ δ W1 H1 R1 l1 x
theorem sd_par {i j : Nat} {x y : Str} {a b : Expr} {px py pt pt2 pos : Pos} {kt k2 : Nat} {ca cb : C} (hi : N[i]? = some x) (hj : N[j]? = some y) (hij : i ≠ j) (hx : sc.names.lookup x = some .local) (hy : sc.names.lookup y = some .local) (ha : SndE Γ F N k T sc a ca) (hb : SndE Γ F N k T sc b cb)
    (hsa : ∀ env, starEach [a, b] env = (false, eval a env) :: starEach [b] env) (hsb : ∀ env, starEach [b] env = (false, eval b env) :: starEach [] env)
    (hw : ∀ env : Env, env.scope = sc → swappedStores [.Tuple [.Name x px, .Name y py] kt pt] (.Tuple [a, b] k2 pt2) env = pure (some [x, y]))
    (hss : ∀ env : Env, swapsWithSole [.Tuple [.Name x px, .Name y py] kt pt] (.Tuple [a, b] k2 pt2) pos.line env = pure false) : SndS Γ F N k T sc (.Assign [.Tuple [.Name x px, .Name y py] kt pt] (.Tuple [a, b] k2 pt2) pos) (.par i j ca cb) := by
  intro X ok hs Wx tk W0 H0 W H σ δ hh out R ev D wd
  simp only [evalS] at ev
  refine w_ps (ps_par ok.ok.calm (by rw [ok.ok.hN]; exact ok.ok.nd) (by rw [ok.ok.hN]; exact hi) (by rw [ok.ok.hN]; exact hj) hij (by rw [hs]; exact hx) (by rw [hs]; exact hy) (pa_cons pe_w (pa_cons pe_w pa_nil (hsb X.env)) (hsa X.env)) (hw X.env hs) (hss X.env)) ?_
  refine bndS_E ha ok.ok hs tk R ev wd.x fun x' h1 ev v W1 H1 R1 l1 r1 => ?_
  refine bndS_E hb ok.ok hs tk R1 ev (wd.x.mono l1) fun y' h2 ev w W2 H2 R2 l2 r2 => ?_
  cases ev
  exact ⟨v, w, rfl, wd _ W2 H2 ((R2.put (Rv.mono l2 r1)).put r2) (l1.trans l2)⟩
theorem sd_par3 {i j l : Nat} {x y z : Str} {a b c : Expr} {px py pz pt pt2 pos : Pos} {kt k2 : Nat} {ca cb cc : C} (hi : N[i]? = some x) (hj : N[j]? = some y) (hl : N[l]? = some z) (hij : i ≠ j) (hil : i ≠ l) (hjl : j ≠ l) (hx : sc.names.lookup x = some .local) (hy : sc.names.lookup y = some .local) (hz : sc.names.lookup z = some .local)
    (ha : SndE Γ F N k T sc a ca) (hb : SndE Γ F N k T sc b cb) (hc : SndE Γ F N k T sc c cc) (hsa : ∀ env, starEach [a, b, c] env = (false, eval a env) :: starEach [b, c] env) (hsb : ∀ env, starEach [b, c] env = (false, eval b env) :: starEach [c] env) (hsc : ∀ env, starEach [c] env = (false, eval c env) :: starEach [] env)
    (hw : ∀ env : Env, env.scope = sc → swappedStores [.Tuple [.Name x px, .Name y py, .Name z pz] kt pt] (.Tuple [a, b, c] k2 pt2) env = pure (some [x, y, z]))
    (hss : ∀ env : Env, swapsWithSole [.Tuple [.Name x px, .Name y py, .Name z pz] kt pt] (.Tuple [a, b, c] k2 pt2) pos.line env = pure false) : SndS Γ F N k T sc (.Assign [.Tuple [.Name x px, .Name y py, .Name z pz] kt pt] (.Tuple [a, b, c] k2 pt2) pos) (.par3 i j l ca cb cc) := by
  intro X ok hs Wx tk W0 H0 W H σ δ hh out R ev D wd
  simp only [evalS] at ev
  refine w_ps (ps_par3 ok.ok.calm (by rw [ok.ok.hN]; exact ok.ok.nd) (by rw [ok.ok.hN]; exact hi) (by rw [ok.ok.hN]; exact hj) (by rw [ok.ok.hN]; exact hl) hij hil hjl (by rw [hs]; exact hx) (by rw [hs]; exact hy) (by rw [hs]; exact hz)
    (pa_cons pe_w (pa_cons pe_w (pa_cons pe_w pa_nil (hsc X.env)) (hsb X.env)) (hsa X.env)) (hw X.env hs) (hss X.env)) ?_
  refine bndS_E ha ok.ok hs tk R ev wd.x fun x' h1 ev v W1 H1 R1 l1 r1 => ?_
  refine bndS_E hb ok.ok hs tk R1 ev (wd.x.mono l1) fun y' h2 ev w W2 H2 R2 l2 r2 => ?_
  refine bndS_E hc ok.ok hs tk R2 ev (wd.x.mono (l1.trans l2)) fun z' h3 ev u W3 H3 R3 l3 r3 => ?_
  cases ev
  exact ⟨v, w, u, rfl, wd _ W3 H3 (((R3.put (Rv.mono (l2.trans l3) r1)).put (Rv.mono l3 r2)).put r3) ((l1.trans l2).trans l3)⟩
theorem pgs_loc {X : Cx} (hN : X.N = N) (hnd : N.Nodup) (hfn : ∀ x, X.fn x = true) : ∀ {es : List Expr} {is : List Nat} {own : List (Str × Nat)}, CorNs N es is own → (∀ p ∈ own, Loc X.env.scope p.1) → PGs X es (gMany is)
  | _, _, _, .nil, _ => pgs_nil
  | _, _, _, .cons (x := x) (i := i) hx r, hl => pgs_cons (pg_name (i := i) (by rw [hN]; exact hnd) (by rw [hN]; exact hx) (hl (x, i) List.mem_cons_self) (.inl (hfn x))) (pgs_loc hN hnd hfn r fun p hp => hl p (List.mem_cons_of_mem _ hp))
theorem pg_loc {X : Cx} (hN : X.N = N) (hnd : N.Nodup) (hc : X.calm = true) (hfn : ∀ x, X.fn x = true) {tg : Expr} {t : Tg} {own : List (Str × Nat)} (h : CorTg N tg t own) (hl : ∀ p ∈ own, Loc X.env.scope p.1) : PG X tg (gTg X.K t) := by
  cases h with
  | one hx => exact pg_name (by rw [hN]; exact hnd) (by rw [hN]; exact hx) (hl _ List.mem_cons_self) (.inl (hfn _))
  | @many es is own kk p h => exact pg_seq hc (pgs_loc hN hnd hfn h hl) (assign_ns h X.env).1 (assign_ns h X.env).2
theorem sd_unp {es : List Expr} {is : List Nat} {own : List (Str × Nat)} {e : Expr} {kt : Nat} {pt pos : Pos} {c : C} (ht : CorNs N es is own) (hl : ∀ p ∈ own, Loc sc p.1) (he : SndE Γ F N k T sc e c) (hss : ∀ env : Env, swapsWithSole [.Tuple es kt pt] e pos.line env = pure false) (hw : ∀ env : Env, swappedStores [.Tuple es kt pt] e env = pure none) :
    SndS Γ F N k T sc (.Assign [.Tuple es kt pt] e pos) (.unp is c) := by
  intro X ok hs Wx tk W0 H0 W H σ δ hh out R ev D wd
  simp only [evalS] at ev
  refine w_ps (ps_asg pe_w (pg_loc (X := X) (t := .many is) ok.ok.hN ok.ok.nd ok.ok.calm ok.fn (.many ht) (fun p hp => by rw [hs]; exact hl p hp)) (hss X.env) (hw X.env)) ?_
  refine bndS_E he ok.ok hs tk R ev wd.x fun x h1 ev v W1 H1 R1 l1 r1 => ?_
  split at ev
  · rename_i δ' eδ
    cases ev
    obtain ⟨vs, Rp, lw, hg⟩ := tg_put R1 r1 eδ
    exact hg _ _ (wd _ W1 H1 Rp l1)
  · cases ev
theorem sd_aug {i : Nat} {x : Str} {op : Operator} {e : Expr} {p pos : Pos} {c : C} (hx : N[i]? = some x) (hl : Loc sc x) (he : SndE Γ F N k T sc e c) (ho : op = .Add ∨ op = .Sub) : SndS Γ F N k T sc (.AugAssign (.Name x p) op e pos) (.aug i op c) := by
  intro X ok hs Wx tk W0 H0 W H σ δ hh out R ev D wd
  simp only [evalS] at ev
  split at ev
  · rename_i z ez
    obtain ⟨v0, s1, s2⟩ := R.sl i _ ez
    have go : ∀ (f : Int → Int → Int), PIp X op (ipI f) → (∀ x y z, augD op x y = some z → ∃ a b, x = .int a ∧ y = .int b ∧ z = .int (f a b)) → wS X (.AugAssign (.Name x p) op e pos) D σ H := by
      intro f hp hf
      refine w_ps (ps_aug (i := i) (by rw [ok.ok.hN]; exact ok.ok.nd) (by rw [ok.ok.hN]; exact hx) (by rw [hs]; exact hl) pe_w hp (.inl (ok.fn x))) ⟨v0, s1, ?_⟩
      refine bndS_E he ok.ok hs tk R ev wd.x fun y h1 ev v W1 H1 R1 l1 r1 => ?_
      replace s2 : Rv X.K W1 (.d z) v0 := Rv.mono l1 s2
      split at ev
      · rename_i y
        split at ev
        · rename_i w ew
          cases ev
          obtain ⟨a, b, rfl, rfl, rfl⟩ := hf _ _ _ ew
          cases s2
          cases r1
          exact ⟨_, _, rfl, rfl, wd _ W1 H1 (R1.put (i := i) (x := .d (.int (f a b))) (v := .int (f a b)) (.int _)) l1⟩
        · cases ev
      · cases ev
    rcases ho with rfl | rfl
    · refine go (fun i j => i + j) ip_add fun x y z h => ?_
      unfold augD at h
      split at h
      · cases h; exact ⟨_, _, rfl, rfl, rfl⟩
      · cases ‹Operator.Add = Operator.Sub›
      · cases h
    · refine go (fun i j => i - j) ip_sub fun x y z h => ?_
      unfold augD at h
      split at h
      · cases ‹Operator.Sub = Operator.Add›
      · cases h; exact ⟨_, _, rfl, rfl, rfl⟩
      · cases h
  · cases ev
theorem sd_ret {e : Expr} {pos : Pos} {c : C} (h : SndE Γ F N k T sc e c) : SndS Γ F N k T sc (.Return (some e) pos) (.ret c) := by
  intro X ok hs Wx tk W0 H0 W H σ δ hh out R ev D wd
  simp only [evalS] at ev
  refine w_ps (ps_ret pe_w) ?_
  refine bndS_E h ok.ok hs tk R ev wd.x fun x h1 ev v W1 H1 R1 l1 r1 => ?_
  cases ev
  exact wd v σ δ W1 H1 R1 l1 r1
theorem sd_expr {e : Expr} {pos : Pos} {c : C} (h : SndE Γ F N k T sc e c) (hw : ∀ env, swapsWith e none pos.line env = pure false) : SndS Γ F N k T sc (.Expr e pos) (.expr c) := by
  intro X ok hs Wx tk W0 H0 W H σ δ hh out R ev D wd
  simp only [evalS] at ev
  refine w_ps (ps_expr pe_w (hw X.env)) ?_
  refine bndS_E h ok.ok hs tk R ev wd.x fun x h1 ev v W1 H1 R1 l1 r1 => ?_
  cases ev
  exact wd σ W1 H1 R1 l1
theorem sd_ifs {t : Expr} {a b : List Stmt} {pos : Pos} {ct : C} {ca cb : Sds} (ht : SndT Γ F N k T sc t ct) (ha : SndSs Γ F N k T sc a ca) (hb : SndSs Γ F N k T sc b cb) : SndS Γ F N k T sc (.If t a b pos) (.ifs ct ca cb) := by
  intro X ok hs Wx tk W0 H0 W H σ δ hh out R ev D wd
  simp only [evalS] at ev
  refine w_ps (ps_if pt_w pss_w pss_w) ?_
  refine bndS_T ht ok.ok hs tk R ev wd.x fun x h1 ev => ?_
  split at ev
  · rename_i t1
    exact ⟨true, t1, fun W1 H1 R1 l1 => iteT (ha X ok hs Wx tk _ _ _ _ _ _ _ _ R1 ev D (wd.mono l1))⟩
  · rename_i t1
    exact ⟨false, t1, fun W1 H1 R1 l1 => iteF (hb X ok hs Wx tk _ _ _ _ _ _ _ _ R1 ev D (wd.mono l1))⟩
  · cases ev
end
end Nv


set_option Elab.async false
set_option linter.all false
set_option maxRecDepth 100000
set_option maxHeartbeats 8000000
/-! Loops, cells written, raise; the code's answer is the text's. -/
namespace Nv
open PySem PySem.Spec PyProof.Rows L2
section
variable {Γ : Gam} {F : Fns} {N : List Str} {k : Nat} {T : List (Addr × Str)} {sc : Scope}
/-- the wishes of a loop's body -/
theorem wants_loop {K : PySem.W.Frag} {W0 W : Wd} {H0 : Hp} {D : Ends} {Wx : WX} {o : Out} {P : L2.St → Hp → Prop} {out : Out}
    (hn : ∀ δ1 h1, (o = .nx δ1 h1 ∨ o = .ct δ1 h1) → ∀ σ' W' H', Rel K T W0 H0 W' H' σ' δ1 h1 → W.Le W' → P σ' H')
    (hb : ∀ δ1 h1, o = .bk δ1 h1 → ∀ σ' W' H', Rel K T W0 H0 W' H' σ' δ1 h1 → W.Le W' → D.nx σ' H')
    (ho : (∀ δ1 h1, o ≠ .nx δ1 h1) → (∀ δ1 h1, o ≠ .ct δ1 h1) → (∀ δ1 h1, o ≠ .bk δ1 h1) → o = out) (wd : Wants K T W0 H0 W out D Wx) : Wants K T W0 H0 W o { D with nx := P, ct := P, bk := D.nx } Wx := by
  cases o with
  | nx δ1 h1 => exact fun σ' W' H' R l => hn δ1 h1 (.inl rfl) σ' W' H' R l
  | ct δ1 h1 => exact fun σ' W' H' R l => hn δ1 h1 (.inr rfl) σ' W' H' R l
  | bk δ1 h1 => exact fun σ' W' H' R l => hb δ1 h1 rfl σ' W' H' R l
  | rt x h1 =>
    have e := ho (fun _ _ z => by cases z) (fun _ _ z => by cases z) fun _ _ z => by cases z
    subst e
    exact wd
  | ex e h1 =>
    have e := ho (fun _ _ z => by cases z) (fun _ _ z => by cases z) fun _ _ z => by cases z
    subst e
    exact wd
theorem sd_for {tg it : Expr} {tc : Tg} {own : List (Str × Nat)} {b : List Stmt} {pos : Pos} {ci : Ci} {cb : Sds} (ht : CorTg N tg tc own) (hz : okTg ci tc = true) (hl : ∀ p ∈ own, Loc sc p.1) (hi : SndI Γ F N k T sc it ci) (hb : SndSs Γ F N k T sc b cb) (hst : ∀ env v, foldedSetIterable it env v = pure v) :
    SndS Γ F N k T sc (.For tg it b [] pos) (.for_ tc ci cb) := by
  intro X ok hs Wx tk W0 H0 W H σ δ hh out R ev D wd
  simp only [evalS] at ev
  refine w_ps (ps_for ok.ps ok.ok.calm pi_w (pg_loc ok.ok.hN ok.ok.nd ok.ok.calm ok.fn ht (fun p hp => by rw [hs]; exact hl p hp)) pss_w (fun v => hst X.env v)) ?_
  rcases bndS_some ev with ⟨xs, h1, e1, ew⟩ | ⟨ee, h1, e1, rfl⟩
  · obtain ⟨hsm, ew⟩ := ite_some' ew
    refine hi X ok.ok hs Wx tk _ _ _ _ _ _ _ _ R e1 tg (tgOk_of ht hz) _ fun J W1 H1 G Y R1 l1 Wk hG hY => ?_
    refine for_it Wk (fun j σ' H' => ∃ Wj δj hj, Rel X.K T W0 H0 Wj H' σ' δj hj ∧ W1.Le Wj ∧ forLoop (evalSs F cb) tc (xs.drop j) δj hj = some out) ⟨W1, δ, h1, R1, Wd.Le.refl _, ew⟩ (fun j σ' H' _ ⟨Wj, _, _, Rj, lj, _⟩ => hG _ (lj.b.trans Rj.ext)) ?_ ?_
    · rintro j y σ' H2 H3 hj ⟨Wj, δj, hj', Rj, lj, evj⟩ hy
      obtain ⟨dy, g1, B', s1, s2, s3, nw, dv⟩ := hY j H2 y H3 Wj.B hj lj.b Rj.ext hy
      obtain ⟨Rk, lk⟩ := data_of Rj s1 s2 s3 nw
      have hxs : xs.drop j = dy :: xs.drop (j + 1) := by
        obtain ⟨l, e⟩ := List.getElem?_eq_some_iff.mp g1
        rw [List.drop_eq_getElem_cons l, e]
      rw [hxs] at evj
      simp only [forLoop] at evj
      split at evj
      · rename_i δ' eδ
        obtain ⟨ws, Rp, lw, hg⟩ := tg_put (x := .d dy) (v := y) Rk dv eδ
        refine hg _ _ ?_
        have lj2 : W1.Le ⟨B', Wj.φ⟩ := lj.trans lk
        cases eb : evalSs F cb δ' hj' with
        | none => rw [eb] at evj; cases evj
        | some o =>
          rw [eb] at evj
          refine hb X ok hs Wx tk _ _ _ _ _ _ _ _ Rp eb _ (wants_loop (out := out) (fun δ1 h2 e σ2 W2 H4 R2 l2 => ⟨W2, δ1, h2, R2, lj2.trans l2, ?_⟩) (fun δ1 h2 e σ2 W2 H4 R2 l2 => ?_) (fun n1 n2 n3 => ?_) (wd.mono (l1.trans lj2)))
          · rcases e with rfl | rfl
            · exact evj
            · exact evj
          · subst e
            cases evj
            exact wd σ2 W2 H4 R2 ((l1.trans lj2).trans l2)
          · cases o with
            | nx δ1 h2 => exact absurd rfl (n1 δ1 h2)
            | ct δ1 h2 => exact absurd rfl (n2 δ1 h2)
            | bk δ1 h2 => exact absurd rfl (n3 δ1 h2)
            | rt x h2 => exact Option.some.inj evj
            | ex x h2 => exact Option.some.inj evj
      · cases evj
    · rintro σ' H2 ⟨Wj, δj, hj', Rj, lj, evj⟩
      rw [List.drop_length] at evj
      cases evj
      exact wd σ' Wj H2 Rj (l1.trans lj)
  · exact hi X ok.ok hs Wx tk _ _ _ _ _ _ _ _ R e1 tg (tgOk_of ht hz) _ fun cls d W1 H1 R1 l1 x => wd cls d σ δ W1 H1 R1 l1 x
theorem sd_while {t : Expr} {b : List Stmt} {pos : Pos} {ct : C} {cb : Sds} (ht : SndT Γ F N k T sc t ct) (hb : SndSs Γ F N k T sc b cb) : SndS Γ F N k T sc (.While t b [] pos) (.while_ ct cb) := by
  intro X ok hs Wx tk W0 H0 W H σ δ hh out R ev D wd
  simp only [evalS] at ev
  refine w_ps (ps_while ok.ps pt_w pss_w) ?_
  refine ⟨fun m σ' H' => ∃ W' δ' h', Rel X.K T W0 H0 W' H' σ' δ' h' ∧ W.Le W' ∧ whileLoop (evalE F ct) (evalSs F cb) m δ' h' = some out, ⟨fuel, W, δ, hh, R, Wd.Le.refl _, ev⟩, ?_⟩
  rintro m σ' H' ⟨W', δ', h', R', l', ev'⟩
  cases m with
  | zero => cases ev'
  | succ m =>
    simp only [whileLoop] at ev'
    refine bndS_T ht ok.ok hs tk R' ev' (wd.x.mono l') fun x h1 ev1 => ?_
    split at ev1
    · rename_i t1
      refine ⟨true, t1, fun W1 H1 R1 l1 => iteT ?_⟩
      refine ⟨fun σ2 H2 => ∃ W2 δ2 h2, Rel X.K T W0 H0 W2 H2 σ2 δ2 h2 ∧ W.Le W2 ∧ whileLoop (evalE F ct) (evalSs F cb) m δ2 h2 = some out, fun σ2 H2 h => ⟨m, Nat.lt_succ_self m, h⟩, ?_⟩
      cases eb : evalSs F cb δ' h1 with
      | none => rw [eb] at ev1; cases ev1
      | some o =>
        rw [eb] at ev1
        refine hb X ok hs Wx tk _ _ _ _ _ _ _ _ R1 eb _ (wants_loop (out := out) (fun δ1 h2 e σ2 W2 H4 R2 l2 => ⟨W2, δ1, h2, R2, (l'.trans l1).trans l2, ?_⟩) (fun δ1 h2 e σ2 W2 H4 R2 l2 => ?_) (fun n1 n2 n3 => ?_) (wd.mono (l'.trans l1)))
        · rcases e with rfl | rfl
          · exact ev1
          · exact ev1
        · subst e
          cases ev1
          exact wd σ2 W2 H4 R2 ((l'.trans l1).trans l2)
        · cases o with
          | nx δ1 h2 => exact absurd rfl (n1 δ1 h2)
          | ct δ1 h2 => exact absurd rfl (n2 δ1 h2)
          | bk δ1 h2 => exact absurd rfl (n3 δ1 h2)
          | rt x h2 => exact Option.some.inj ev1
          | ex x h2 => exact Option.some.inj ev1
    · rename_i t1
      cases ev1
      exact ⟨false, t1, fun W1 H1 R1 l1 => iteF (wd σ' W1 H1 R1 (l'.trans l1))⟩
    · cases ev1
theorem sd_app {a e : Expr} {ap cp pos : Pos} {ca c : C} (ha : SndE Γ F N k T sc a ca) (he : SndE Γ F N k T sc e c) (hl : (ap.endLine == cp.line) = true) (hb : ∀ env, attributeBase a "append" env (eval a env) = eval a env)
    (hst : ∀ env, starEach [e] env = (false, eval e env) :: starEach [] env) (hw : ∀ env, swapsWith (.Call (.Attribute a "append" ap) [e] [] cp) none pos.line env = pure false) : SndS Γ F N k T sc (.Expr (.Call (.Attribute a "append" ap) [e] [] cp) pos) (.app ca c) := by
  intro X ok hs Wx tk W0 H0 W H σ δ hh out R ev D wd
  simp only [evalS] at ev
  refine w_ps (ps_expr (pe_bm PySem.F.plainAttrs_list PySem.F.slot_list_append PySem.F.type_list_append mt_append pe_w (pa_cons pe_w pa_nil (hst X.env)) (hb X.env) (by rw [hst X.env] <;> rfl) hl (hst X.env) rfl) (hw X.env)) ?_
  refine bndS_E ha ok.ok hs tk R ev wd.x fun x h1 ev v W1 H1 R1 l1 r1 => ?_
  obtain ⟨hL, ev⟩ := ite_some' ev
  obtain ⟨b, vs, eb, hv⟩ := lst_ty R1 hL r1
  refine ⟨by rw [eb]; exact .inl ⟨rfl, vs, .of hv⟩, ?_⟩
  refine bndS_E he ok.ok hs tk R1 ev (wd.x.mono l1) fun y h2 ev w W2 H2 R2 l2 r2 => ?_
  replace r1 := Rv.mono l2 r1
  unfold appO at ev
  split at ev
  · split at ev
    · rename_i xs e0
      obtain ⟨hz, ev⟩ := ite_some ev
      cases ev
      obtain ⟨b', vs, rfl, hb, hn, hl, r⟩ := R2.lst_ e0 r1
      exact ⟨b', vs, w, rfl, rfl, hl, by rw [← Paired.length r]; exact small_lt hz, wd σ W2 _ (R2.chgL hb hn (pr_app r (.cons r2 .nil))) (l1.trans l2)⟩
    · cases ev
  · cases ev
theorem sd_ext {a e : Expr} {ap cp pos : Pos} {ca c : C} (ha : SndE Γ F N k T sc a ca) (he : SndE Γ F N k T sc e c) (hl : (ap.endLine == cp.line) = true) (hb : ∀ env, attributeBase a "extend" env (eval a env) = eval a env)
    (hst : ∀ env, starEach [e] env = (false, eval e env) :: starEach [] env) (hw : ∀ env, swapsWith (.Call (.Attribute a "extend" ap) [e] [] cp) none pos.line env = pure false) : SndS Γ F N k T sc (.Expr (.Call (.Attribute a "extend" ap) [e] [] cp) pos) (.ext ca c) := by
  intro X ok hs Wx tk W0 H0 W H σ δ hh out R ev D wd
  simp only [evalS] at ev
  refine w_ps (ps_expr (pe_bm PySem.F.plainAttrs_list PySem.F.slot_list_extend PySem.F.type_list_extend mt_ext pe_w (pa_cons pe_w pa_nil (hst X.env)) (hb X.env) (by rw [hst X.env] <;> rfl) hl (hst X.env) rfl) (hw X.env)) ?_
  refine bndS_E ha ok.ok hs tk R ev wd.x fun x h1 ev v W1 H1 R1 l1 r1 => ?_
  obtain ⟨hL, ev⟩ := ite_some' ev
  obtain ⟨b, vs, eb, hv⟩ := lst_ty R1 hL r1
  refine ⟨by rw [eb]; exact .inl ⟨rfl, vs, .of hv⟩, ?_⟩
  refine bndS_E he ok.ok hs tk R1 ev (wd.x.mono l1) fun y h2 ev w W2 H2 R2 l2 r2 => ?_
  replace r1 := Rv.mono l2 r1
  unfold extO at ev
  split at ev
  · split at ev
    · rename_i xs e0
      obtain ⟨hz, ev⟩ := ite_some ev
      cases ev
      obtain ⟨b', vs, rfl, hb, hn, hl, r⟩ := R2.lst_ e0 r1
      obtain ⟨c', ws, rfl, hc, rw_⟩ := lst_dv (show Dv X.K W2.B w _ from r2)
      exact ⟨b', c', vs, ws, rfl, rfl, hl, .inl (.of (R2.ext _ _ hc)), by rw [← Paired.length r, rw_.length]; exact small_line hz, wd σ W2 _ (R2.chgL hb hn (pr_app r (rv_dat rw_))) (l1.trans l2)⟩
    · cases ev
  · split at ev
    · rename_i xs e0
      obtain ⟨hz, ev⟩ := ite_some ev
      cases ev
      obtain ⟨b', vs, rfl, hb, hn, hl, r⟩ := R2.lst_ e0 r1
      obtain ⟨c', ws, rfl, hc, rw_⟩ := tup_dv (show Dv X.K W2.B w _ from r2)
      exact ⟨b', c', vs, ws, rfl, rfl, hl, .inr (same_t R2.ext hc), by rw [← Paired.length r, rw_.length]; exact small_line hz, wd σ W2 _ (R2.chgL hb hn (pr_app r (rv_dat rw_))) (l1.trans l2)⟩
    · cases ev
  · cases ev
theorem sd_setI {a i e : Expr} {p3 pos : Pos} {ca ci c : C} (ha : SndE Γ F N k T sc a ca) (hi : SndE Γ F N k T sc i ci) (he : SndE Γ F N k T sc e c) (hw : ∀ env, swapsWithSole [.Subscript a i p3] e pos.line env = pure false) (hw2 : ∀ env, swappedStores [.Subscript a i p3] e env = pure none) (hp : PlainIx i)
    (hst : ∀ env, (assignEach [.Subscript a i p3] env).map (·.2) = [assign (.Subscript a i p3) env])
    (hst2 : ∀ env v, assign (.Subscript a i p3) env v = (do
      let ov ← holding [v] (eval a env)
      let iv ← holding [v, ov] (eval i env)
      standAt p3
      holding [v, ov, iv] (setItem ov iv v)
      release [v, ov, iv] [])) : SndS Γ F N k T sc (.Assign [.Subscript a i p3] e pos) (.setI ca ci c) := by
  intro X ok hs Wx tk W0 H0 W H σ δ hh out R ev D wd
  simp only [evalS] at ev
  refine w_ps (ps_asg pe_w (pg_sub pe_w pe_w (pset_any (X := X)) (hst2 X.env)) (hw X.env) (hw2 X.env) (hst X.env)) ?_
  refine bndS_E he ok.ok hs tk R ev wd.x fun x h1 ev v W1 H1 R1 l1 r1 => ?_
  refine bndS_E ha ok.ok hs tk R1 ev (wd.x.mono l1) fun y h2 ev w W2 H2 R2 l2 r2 => ?_
  refine bndS_E hi ok.ok hs tk R2 ev (wd.x.mono (l1.trans l2)) fun z h3 ev u W3 H3 R3 l3 r3 => ?_
  replace r1 := Rv.mono (l2.trans l3) r1
  replace r2 := Rv.mono l3 r2
  unfold setIO at ev
  split at ev
  · split at ev
    · rename_i xs e0
      split at ev
      · split at ev
        · rename_i j ej
          cases ev
          obtain ⟨b', vs, rfl, hb, hn, hl, r⟩ := R3.lst_ e0 r2
          cases r3
          exact ⟨_, set_list, b', vs, _, j, rfl, rfl, hl, by rw [← Paired.length r]; exact ej, wd σ W3 _ (R3.chgL hb hn (pr_set r1 j r)) ((l1.trans l2).trans l3)⟩
        · cases ev
      · cases ev
    · rename_i kvs e0
      split at ev
      · rename_i key ek
        obtain ⟨hz, ev⟩ := ite_some ev
        cases ev
        obtain ⟨b', vs, rfl, hb, hn, hl, r⟩ := R3.dct_ e0 r2
        have eu := key_dv ek (show Dv X.K W3.B u _ from r3)
        subst eu
        have lt : vs.length < sizeLine := by
          rw [← Paired.length r]
          exact Nat.lt_of_lt_of_le (Nat.lt_succ_self _) (small_line hz)
        exact ⟨_, set_dict (by have := ok_units ok.ok; omega), b', _, rfl, .k hl lt, wd σ W3 _ (R3.chgD hb hn (rk_put r r1)) ((l1.trans l2).trans l3)⟩
      · cases ev
    · cases ev
  · cases ev
theorem DvK.app {K : PySem.W.Frag} {B : Hp} : ∀ {a b : List (Key × V)} {c d : List (PyData × PyData)}, DvK K B a c → DvK K B b d → DvK K B (a ++ b) (c ++ d)
  | _, _, _, _, .nil, s => s
  | _, _, _, _, .cons h r, s => .cons h (DvK.app r s)
theorem rev_zip_dv {K : PySem.W.Frag} {B : Hp} {fs : List Str} {vs : List V} {ds : List PyData} (r : DvL K B vs ds) : DvK K B ((fs.zip vs).reverse.map fun p => (Sum.inr p.1, p.2)) ((fs.zip ds).reverse.map fun p => (PyData.str p.1, p.2)) := by
  induction fs generalizing vs ds with
  | nil => exact .nil
  | cons f fs ih =>
    cases r with
    | nil => exact .nil
    | cons hd tl =>
      simp only [List.zip_cons_cons, List.reverse_cons, List.map_append, List.map_cons, List.map_nil]
      exact (ih tl).app (.cons (k := Sum.inr f) hd .nil)
theorem sd_raise {x : Str} {fs : List Str} {es : List Expr} {cs : Cs} {p pos pos2 : Pos} (hx : (⟨x, fs⟩ : Er) ∈ Γ.xs) (hc : CorL Γ N sc es cs) (hl : SndL Γ F N k T sc es cs) (hn : es.length = fs.length) (h1 : Pl sc x) : SndS Γ F N k T sc (.Raise (some (.Call (.Name x p) es [] pos)) none pos2) (.raise_ x fs cs) := by
  intro X ok hs Wx tk W0 H0 W H σ δ hh out R ev D wd
  simp only [evalS] at ev
  obtain ⟨C, hC, mk⟩ := (ok.ok.er _ hx).ex
  have pm := mk X rfl rfl rfl rfl rfl ok.ok.room ok.ok.gd ok.ok.calm (gl_of hs h1) es p pos hn
    (fun env a l e => by subst e; cases hc with | cons _ _ h => exact h env) (fun a l e => by subst e; cases hc with | cons _ r _ => exact corL_plain r X.env pos)
  refine w_ps (ps_raise (pos := pos2) ok.ok.calm tk pm) ?_
  refine (bndS_A hl ok.ok hs tk R ev wd.x fun xs h1 e1 ev vs W1 H1 R1 l1 r1 => ?_).1
  split at ev
  · rename_i ds ed
    obtain ⟨hlen, ev⟩ := ite_some ev
    cases ev
    have dv := datL_rv ed r1
    refine ⟨by rw [dv.length, hlen], fun d hd => ?_⟩
    obtain ⟨R2, l2⟩ := R1.alloc (o := .xd (fs.zip vs).reverse) hd (fun _ z => by cases z)
    exact wd _ _ σ δ _ _ R2 (l1.trans l2) ⟨x, C, d, (fs.zip vs).reverse, _, rfl, rfl, hC, rfl, upd_same, rev_zip_dv (dv.mono l2.b)⟩
  · cases ev
theorem sd_op {i : Nat} {Sh : Shp} {es : List Expr} {js : List Nat} {x : Stmt} {cs : Cs} (h : Γ.ox[i]? = some Sh) (hsh : Sh.s sc N es js x) (hl : SndL Γ F N k T sc es cs) : SndS Γ F N k T sc x (.op i cs js) := by
  intro X okS hs Wx tk W0 H0 W H σ δ hh out R ev D wd
  have ok := okS.ok
  have ox := ok.ox i Sh h X rfl rfl rfl rfl rfl ok.room ok.gd ok.calm (by rw [ok.hN]; exact ok.nd)
  simp only [evalS] at ev
  rcases bndS_some ev with ⟨xs, h1, e1, e2⟩ | ⟨ee, h1, e1, rfl⟩
  · split at e2
    · rename_i ds e3
      split at e2
      · rename_i zs ez
        split at e2
        · rename_i δ' eδ
          cases e2
          refine ox.s okS.fn es js x (by rw [hs, ok.hN]; exact hsh) (G := fun B1 H1 => ∃ W1, B1 = W1.B ∧ Rel X.K T W0 H0 W1 H1 σ δ h1 ∧ W.Le W1) ez (setMany_len eδ) (fun Q' q' => ?_) fun ws B1 H1 B2 H2 ⟨W1, eB, R1, l1⟩ s1 s2 s3 nw dv => ?_
          · exact (hl X ok hs Wx tk _ _ _ _ _ _ _ _ R e1 Q' fun vs W1 H1 R1 l1 r1 => q' vs W1.B H1 R1.ext ⟨W1, rfl, R1, l1⟩ (datL_rv e3 r1)).2.2
          · subst eB
            obtain ⟨R2, l2⟩ := data_of R1 s1 s2 s3 nw
            exact wd _ _ H2 (R2.putMany dv eδ) (l1.trans l2)
        · cases e2
      · cases e2
    · cases e2
  · refine ox.rs es js x (by rw [hs, ok.hN]; exact hsh) fun Q' => ?_
    exact (hl X ok hs Wx tk _ _ _ _ _ _ _ _ R e1 Q' fun cls d W1 H1 R1 l1 x => wd cls d σ δ W1 H1 R1 l1 x).2.2
theorem sd_pass {s : Stmt} (h : ∀ X, PS X s tNext) : SndS Γ F N k T sc s .pass := by
  intro X okS hs Wx tk W0 H0 W H σ δ hh out R ev D wd
  cases ev
  exact w_ps (h X) (wd σ W H R (Wd.Le.refl _))
theorem sd_brk {pos : Pos} : SndS Γ F N k T sc (.Break pos) .brk := by
  intro X okS hs Wx tk W0 H0 W H σ δ hh out R ev D wd
  cases ev
  exact w_ps ps_break (wd σ W H R (Wd.Le.refl _))
theorem sd_cnt {pos : Pos} : SndS Γ F N k T sc (.Continue pos) .cnt := by
  intro X okS hs Wx tk W0 H0 W H σ δ hh out R ev D wd
  cases ev
  exact w_ps ps_continue (wd σ W H R (Wd.Le.refl _))
theorem sd_nil : SndSs Γ F N k T sc [] .nil := by
  intro X okS hs Wx tk W0 H0 W H σ δ hh out R ev D wd
  cases ev
  exact w_pss pss_nil (wd σ W H R (Wd.Le.refl _))
theorem sd_cons {s : Stmt} {ss : List Stmt} {c : Sd} {cs : Sds} (h : SndS Γ F N k T sc s c) (r : SndSs Γ F N k T sc ss cs) : SndSs Γ F N k T sc (s :: ss) (.cons c cs) := by
  intro X okS hs Wx tk W0 H0 W H σ δ hh out R ev D wd
  simp only [evalSs] at ev
  refine w_pss (pss_cons ps_w pss_w) ?_
  cases e1 : evalS F c δ hh with
  | none => rw [e1] at ev; cases ev
  | some o =>
    rw [e1] at ev
    refine h X okS hs Wx tk _ _ _ _ _ _ _ _ R e1 _ ?_
    cases o with
    | nx δ1 h1 => exact fun σ1 W1 H1 R1 l1 => r X okS hs Wx tk _ _ _ _ _ _ _ _ R1 ev D (wd.mono l1)
    | rt x h1 => cases ev; exact wd
    | ex x h1 => cases ev; exact wd
    | bk δ1 h1 => cases ev; exact wd
    | ct δ1 h1 => cases ev; exact wd
mutual
theorem soundS : ∀ {s : Stmt} {c : Sd}, CorS Γ N sc s c → SndS Γ F N k T sc s c
  | _, _, .asg hx hl h hw => sd_asg hx hl (sound h) hw
  | _, _, .asgLc hy hyl hk hln hany hi hb ht hz hl hq he hs hz2 => sd_asgLc hy hyl hk hln hany (soundI hi) hb ht hz hl (soundQ hq) (sound he) hs hz2
  | _, _, .par hi hj hij hx hy ha hb hsa hsb hw hs => sd_par hi hj hij hx hy (sound ha) (sound hb) hsa hsb hw hs
  | _, _, .par3 hi hj hl hij hil hjl hx hy hz ha hb hc hsa hsb hsc hw hs => sd_par3 hi hj hl hij hil hjl hx hy hz (sound ha) (sound hb) (sound hc) hsa hsb hsc hw hs
  | _, _, .unp ht hl he hs hw => sd_unp ht hl (sound he) hs hw
  | _, _, .aug hx hl he ho => sd_aug hx hl (sound he) ho
  | _, _, .ret h => sd_ret (sound h)
  | _, _, .ifs ht ha hb => sd_ifs (soundT ht) (soundSs ha) (soundSs hb)
  | _, _, .for_ ht hz hl hi hb hs => sd_for ht hz hl (soundI hi) (soundSs hb) hs
  | _, _, .while_ ht hb => sd_while (soundT ht) (soundSs hb)
  | _, _, .expr h hw => sd_expr (sound h) hw
  | _, _, .doc => sd_pass fun _ => ps_doc
  | _, _, .pass => sd_pass fun _ => ps_pass
  | _, _, .brk => sd_brk
  | _, _, .cnt => sd_cnt
  | _, _, .app ha he hl hb hs hw => sd_app (sound ha) (sound he) hl hb hs hw
  | _, _, .ext ha he hl hb hs hw => sd_ext (sound ha) (sound he) hl hb hs hw
  | _, _, .setI ha hi he hw hw2 hp hst hst2 => sd_setI (sound ha) (sound hi) (sound he) hw hw2 hp hst hst2
  | _, _, .raise_ hx hl hn h1 => sd_raise hx hl (soundL hl) hn h1
  | _, _, .op h hs hl => sd_op h hs (soundL hl)
theorem soundSs : ∀ {s : List Stmt} {c : Sds}, CorSs Γ N sc s c → SndSs Γ F N k T sc s c
  | _, _, .nil => sd_nil
  | _, _, .cons h r => sd_cons (soundS h) (soundSs r)
end
end
end Nv


set_option Elab.async false
set_option linter.all false
set_option maxRecDepth 100000
set_option maxHeartbeats 8000000
/-! A def by its code. -/
namespace Nv
open PySem PySem.Spec PyProof.Rows L2
/-- what a def's body gives -/
def initS (N : List Str) (as : List Vv) : Env_ := as.map some ++ List.replicate (N.length - as.length) none
def bodyM (F : Fns) (c : Sds) (N : List Str) (as : List Vv) (obs : Hh) : Ev Vv := match evalSs F c (initS N as) obs with
  | some (.rt x h) => some (.ok x, h)
  | some (.nx _ h) => some (.ok (.d .none), h)
  | some (.ex e h) => some (.ex e, h)
  | _ => none
structure Md (Γ : Gam) (F : Fns) (P : Program) (w : World) (K : PySem.W.Frag) (T : List (Addr × Str)) (mg : Str → Option Value) (base : Heap) (k : Nat) : Prop where
  bl : ∀ x ∈ Γ.bs, mg x = none
  gl : ∀ (i : Nat) x d, Γ.gs[i]? = some (x, d) → ∃ v u, mg x = some u ∧ RelV v u ∧ ∀ B, Dv K B v d
  fn : ∀ i e, Γ.es[i]? = some e → FnF P w K T mg base k e (F.fn i)
  er : ∀ e ∈ Γ.xs, ErF P w K mg base k e := by intro e h; cases h
  at_ : ∀ f cE cI, (f, cE, cI) ∈ Γ.ats → AtOk K f cE cI := by intro f cE cI h; cases h
  ic : ∀ t tE tI tO, (t, tE, tI, tO) ∈ Γ.ics → IcOk K mg t tE tI tO := by intro t tE tI tO h; cases h
  ox : ∀ i Sh, Γ.ox[i]? = some Sh → OxF P w K mg base k Sh (F.ox i) := by intro i Sh h; exact nomatch (show (none : Option Shp) = some Sh from h)
  hr : ∀ x, Γ.hd = some x → HeardF P w K T mg base k x F.hr := by intro x h; exact nomatch (show (none : Option Str) = some x from h)
/-- a def as it stands behind the top; dvs: its defaults -/
structure FunN (K : PySem.W.Frag) (x qual : Str) (st : Stmt) (dvs : List V) (f : Addr) (fd : FuncData) : Prop where
  ex : ∃ (oc : Value) (od : Option Addr) (dV kV doc pm : Value) (an : Option Addr) (cdv ct : Value) (osl : Array (Option Value)),
    fd = PySem.W.fnOf x qual (defArgs st) (defBody st) (defScope st) dV kV doc pm an cdv ct ∧ K.lookup f = some ⟨oc, od, .func fd, osl⟩ ∧ PySem.W.codeIn K cdv qual = true ∧ DflV K dV dvs
  kp : PySem.W.keepIn K (.ref f) = true
section
variable {Γ : Gam} {F : Fns} {P : Program} {w : World} {K : PySem.W.Frag} {T : List (Addr × Str)} {mg : Str → Option Value} {base : Heap} {k : Nat}
theorem fg_raw {CX : CXT} {x qual : Str} {st : Stmt} {dvs : List V} {f : Addr} {fd : FuncData} {N ps : List Str} {sp : Sp} (Fu : FunN K x qual st dvs f fd) (S : FnScope N ps (defScope st)) (len : ∀ vs H Q E, sp vs H Q E → vs.length = ps.length)
    (body : ∀ (cdv : Value) (A : Around) (outer : List Env) (s : Shared) (H : Hp) (vs : List V) (Q : VK) (E : XK), Room k (A.deeper (envOfC qual (defScope st) s.heap.objs.size f cdv)) → A.guards = some [] → sp vs H Q E →
      ∃ t, PSs (cxOf CX P w K mg base N qual (defScope st) f cdv A outer s H E) (defBody st) t ∧ t { nx := fun _ H' => Q .non H', rt := Q } (start N vs) H) :
    FG P w K mg base CX (k + 1) f fd ps sp := by
  obtain ⟨oc, od, dV, kV, doc, pm, an, cdv, ct, osl, rfl, lk, hcd, _⟩ := Fu.ex
  refine ⟨len, fun A outer s H args us vs Q E room guards env bt vals hsp => ?_⟩
  have hlen := len _ _ _ _ hsp
  have kin : K.In s.heap := env.mod.kin.keeps fun b o e => (env.bs b o e).1
  have nolim : s.heap.NoLimit := env.mod.nolimit.keeps fun b o e => (env.bs b o e).1
  have kinds : ∀ y ∈ ps.zip us, (defScope st).names.lookup y.1 = some .local ∨ ((defScope st).names.lookup y.1 = some .cell ∧ ((cellsFrom (s.heap.objs.size + 1) (defScope st).names []).lookup y.1).isSome = true) := by
    intro ⟨n, v⟩ hy
    rcases S.par n (List.of_mem_zip hy).1 with q | q
    · exact .inl q
    · exact .inr ⟨q, PySem.W.cellsFrom_some _ _ _ (.inl q)⟩
  apply codeAny_call_function room.depth (kin _ _ lk) rfl S.co S.gen rfl (PySem.W.codeRec_of kin hcd)
  apply bt
  apply wpAny_newFunctionEnv_cells S.kind kinds
  intro env' he s1 ic
  subst he
  refine ⟨nolim.keeps ic.toInCall.keep, codeAny_func ?_⟩
  obtain ⟨t, ht, hq⟩ := body cdv A outer s H vs Q E (room.deeper _) guards hsp
  have I0 : Inv (cxOf CX P w K mg base N qual (defScope st) f cdv A outer s H E) [] (start N vs) H s1 := inv_start S room.hd env hlen vals ic
  refine wpAny_mono (ht.run [] s1 (start N vs) H _ I0 hq) (fun fl s' hs => ?_) fun e s' hs => hs
  cases fl with
  | ret u =>
    obtain ⟨v, σ', H', J, rv, q⟩ := hs
    exact ⟨v, H', J.os, J.bare, J.base, J.hok, rv, q⟩
  | next =>
    obtain ⟨σ', H', J, q⟩ := hs
    exact ⟨.non, H', J.os, J.bare, J.base, J.hok, rfl, q⟩
  | brk => obtain ⟨_, _, _, q⟩ := hs; exact q.elim
  | cont => obtain ⟨_, _, _, q⟩ := hs; exact q.elim
theorem okS_of {N ps : List Str} {qual : Str} {sc : Scope} {f : Addr} {cdv : Value} {A : Around} {outer : List Env} {s : Shared} {H : Hp} {E : XK} (Sc : FnScope N ps sc) (M : Md Γ F P w K T mg base k) (hr : Room k (A.deeper (envOfC qual sc s.heap.objs.size f cdv))) (hg : A.guards = some []) (hl : ∀ n, Γ.lsc = some n → sc.names.length = n → LamOk T k (cxOf (L2.CX P w) P w K mg base N qual sc f cdv A outer s H E)) :
    OkS Γ F N k T (cxOf (L2.CX P w) P w K mg base N qual sc f cdv A outer s H E) :=
  ⟨⟨rfl, rfl, Sc.nd, hr, hg, M.bl, M.gl, M.fn, M.er, M.at_, M.ic, M.ox, M.hr, hl⟩, passes_of rfl, fun _ => rfl⟩
theorem start_get {N : List Str} {vs : List V} {i : Nat} {v : V} (h : vs[i]? = some v) : (start N vs)[i]? = some (some v) := by
  unfold L2.start
  have hi := (List.getElem?_eq_some_iff.mp h).1
  rw [List.getElem?_append_left (by simpa using hi), List.getElem?_map, h] <;> rfl
theorem init_get {N : List Str} {as : List Vv} {i : Nat} {x : Vv} (h : getS (initS N as) i = some x) : as[i]? = some x := by
  unfold getS initS at h
  by_cases hi : i < as.length
  · rw [List.getElem?_append_left (by simpa using hi), List.getElem?_map] at h
    cases e : as[i]? with
    | none => rw [e] at h; cases h
    | some y => rw [e] at h; cases h; rfl
  · rw [List.getElem?_append_right (by simpa using hi), List.getElem?_replicate] at h
    split at h
    · rename_i e
      split at e <;> cases e
    · cases h
theorem rel_start {N : List Str} {W : Wd} {H : Hp} {as : List Vv} {vs : List V} {obs : Hh} (R : Rel K T W H W H [] [] obs) (rv : RvL K W as vs) : Rel K T W H W H (start N vs) (initS N as) obs :=
  { R with
    len := by
      unfold L2.start initS
      simp only [List.length_append, List.length_map, List.length_replicate, Paired.length rv]
    sl := fun i x e => by
      obtain ⟨v, h1, h2⟩ := pr_get rv (init_get e)
      exact ⟨v, start_get h1, h2⟩ }
/-- THE RULE for a def -/
theorem fg_fun {x qual : Str} {st : Stmt} {dvs : List V} {f : Addr} {fd : FuncData} {N ps : List Str} {c : Sds} {m : List Vv → Hh → Ev Vv} (Fu : FunN K x qual st dvs f fd) (Sc : FnScope N ps (defScope st)) (hc : CorSs Γ N (defScope st) (defBody st) c) (M : Md Γ F P w K T mg base k) (hz : lsNe Γ.lsc (defScope st).names.length = true)
    (hm : ∀ as obs o, m as obs = some o → as.length = ps.length ∧ bodyM F c N as obs = some o) : FG P w K mg base (L2.CX P w) (k + 1) f fd ps (SpC K T m) := by
  refine fg_raw Fu Sc (fun vs H Q E h => ?_) fun cdv A outer s H vs Q E hr hg h => ?_
  · obtain ⟨as, obs, W, r, obs', _, rv, e, _⟩ := h
    rw [← Paired.length rv]
    exact (hm as obs _ e).1
  · obtain ⟨as, obs, W, r, obs', R0, rv, e, q⟩ := h
    obtain ⟨l1, e2⟩ := hm as obs _ e
    have ok := okS_of (qual := qual) (f := f) (cdv := cdv) (outer := outer) (s := s) (H := H) (E := E) Sc M hr hg (fun n e z => (lsNe_of hz n e z).elim)
    have R := rel_start (N := N) R0 rv
    refine ⟨_, pss_w, ?_⟩
    unfold bodyM at e2
    cases ev : evalSs F c (initS N as) obs with
    | none => rw [ev] at e2; cases e2
    | some out =>
      rw [ev] at e2
      refine soundSs hc _ ok rfl _ (takes_of rfl rfl rfl rfl) _ _ _ _ _ _ _ _ R ev _ ?_
      cases out with
      | rt x h1 =>
        cases e2
        exact fun v σ' δ' W' H' R' l' r' => q W' H' R'.bare v r'
      | nx δ1 h1 =>
        cases e2
        exact fun σ' W' H' R' l' => q W' H' R'.bare .non .non
      | ex e h1 =>
        cases e2
        exact fun cls d σ' δ' W' H' R' l' x => q W' H' R'.bare cls d x
      | bk δ1 h1 => cases e2
      | ct δ1 h1 => cases e2
end
/-! ### defs that stand in the module -/
structure Df (K : PySem.W.Frag) (mg : Str → Option Value) (x : Str) (st : Stmt) (dvs : List V) : Prop where
  ex : ∃ f fd, mg x = some (.ref f) ∧ FunN K x x st dvs f fd
theorem df_mk {K : PySem.W.Frag} {h : Heap} {mg : Str → Option Value} (X : K.In h) (G : h.Ns mainGlobals mg) {x : Str} {st : Stmt} {f : Addr} {oc : Value} {od an : Option Addr} {osl : Array (Option Value)} {kV doc pm cdv ct : Value}
    (a : PySem.W.nsIn K mainGlobals x = some (some (.ref f))) (l : K.lookup f = some ⟨oc, od, .func (PySem.W.fnOf x x (defArgs st) (defBody st) (defScope st) .none kV doc pm an cdv ct), osl⟩)
    (c : PySem.W.codeIn K cdv x = true) (k : PySem.W.keepIn K (.ref f) = true) : Df K mg x st [] := ⟨f, _, PySem.W.mg_of X G a, ⟨oc, od, .none, kV, doc, pm, an, cdv, ct, osl, rfl, l, c, .inl ⟨rfl, rfl⟩⟩, k⟩
/-- with defaults -/
theorem df_mkD {K : PySem.W.Frag} {h : Heap} {mg : Str → Option Value} (X : K.In h) (G : h.Ns mainGlobals mg) {x : Str} {st : Stmt} {f TT : Addr} {oc : Value} {od an : Option Addr} {osl : Array (Option Value)} {kV doc pm cdv ct : Value} {dvs : List V} {ot : Obj} {its : List Value} {n : Nat}
    (a : PySem.W.nsIn K mainGlobals x = some (some (.ref f))) (l : K.lookup f = some ⟨oc, od, .func (PySem.W.fnOf x x (defArgs st) (defBody st) (defScope st) (.ref TT) kV doc pm an cdv ct), osl⟩)
    (c : PySem.W.codeIn K cdv x = true) (k : PySem.W.keepIn K (.ref f) = true) (t : K.lookup TT = some ot) (td : ot.data = .seq its.toArray n) (tv : Vals dvs its) (ne : dvs ≠ []) : Df K mg x st dvs :=
  ⟨f, _, PySem.W.mg_of X G a, ⟨oc, od, .ref TT, kV, doc, pm, an, cdv, ct, osl, rfl, l, c, .inr ⟨ne, TT, ot, its, n, rfl, t, td, tv⟩⟩, k⟩
def BindAt (x : Str) (st : Stmt) (ps : List Str) (e : En) (pm : List Nat) : Prop := ∀ (kV doc pmv : Value) (an : Option Addr) (cdv ct : Value) (us ws : List Value), us.length = e.n → ws.length = e.ks.length →
  bindArgs (PySem.W.fnOf x x (defArgs st) (defBody st) (defScope st) .none kV doc pmv an cdv ct) ⟨us, e.ks.zip ws⟩ = pure (ps.zip (pick pm (us ++ ws)))
theorem pick_rv {K : PySem.W.Frag} {W : Wd} {as : List Vv} {vs : List V} (r : RvL K W as vs) : ∀ pm : List Nat, RvL K W (pick pm as) (pick pm vs)
  | [] => .nil
  | i :: pm => by
    have t := pick_rv r pm
    cases e : as[i]? with
    | none =>
      have e2 := pr_none r e
      simp only [pick, List.filterMap_cons, e, e2]
      exact t
    | some v =>
      obtain ⟨u, e2, h⟩ := pr_get r e
      simp only [pick, List.filterMap_cons, e, e2]
      exact .cons h t
theorem vals_pick {vs : List V} {us : List Value} (r : Vals vs us) : ∀ pm : List Nat, Vals (pick pm vs) (pick pm us)
  | [] => .nil
  | i :: pm => by
    have t := vals_pick r pm
    cases e : vs[i]? with
    | none =>
      have e2 := pr_none r e
      simp only [pick, List.filterMap_cons, e, e2]
      exact t
    | some v =>
      obtain ⟨u, e2, h⟩ := r.get e
      simp only [pick, List.filterMap_cons, e, e2]
      exact .cons h t
section
variable {P : Program} {w : World} {K : PySem.W.Frag} {T : List (Addr × Str)} {mg : Str → Option Value} {base : Heap} {j k : Nat} {st : Stmt} {ps : List Str}
theorem SpC.imp {m m0 : List Vv → Hh → Ev Vv} {vs : List V} {H : Hp} {Q : VK} {E : XK} (pm : List Nat) (hm : ∀ as obs o, m as obs = some o → m0 (pick pm as) obs = some o) (h : SpC K T m vs H Q E) : SpC K T m0 (pick pm vs) H Q E := by
  obtain ⟨as, obs, W, r, obs', R, rv, e, q⟩ := h
  exact ⟨pick pm as, obs, W, r, obs', R, pick_rv rv pm, hm _ _ _ e, q⟩
theorem fnF_of {e : En} {pm : List Nat} {m0 m : List Vv → Hh → Ev Vv} (D : Df K mg e.x st []) (hF : ∀ f fd, FunN K e.x e.x st [] f fd → FG P w K mg base (L2.CX P w) j f fd ps (SpC K T m0)) (hj : j ≤ k) (hb : BindAt e.x st ps e pm) (hm : ∀ as obs o, m as obs = some o → m0 (pick pm as) obs = some o) :
    FnF P w K T mg base k e m := by
  obtain ⟨f, fd, h1, Fu⟩ := D.ex
  have G := (hF f fd Fu).mono hj
  have kp := Fu.kp
  obtain ⟨oc, od, dV, kV, doc, pmv, an, cdv, ct, osl, rfl, lk, hcd, hd⟩ := Fu.ex
  rcases hd with ⟨_, rfl⟩ | ⟨ne, _⟩
  · exact ⟨f, h1, kp, fun A outer s H us ws vs Q E room gd env hu hw rv sp => G.run A outer s H ⟨us, e.ks.zip ws⟩ (pick pm (us ++ ws)) (pick pm vs) Q E room gd env (.of_eq (hb kV doc pmv an cdv ct us ws hu hw)) (vals_pick rv _) (sp.imp pm hm)⟩
  · exact absurd rfl ne
/-- by place, the defaults behind -/
theorem fnF_dfl {x : Str} {n : Nat} {m0 : List Vv → Hh → Ev Vv} {dvs : List V} {ds : List PyData} (D : Df K mg x st dvs) (hF : ∀ f fd, FunN K x x st dvs f fd → FG P w K mg base (L2.CX P w) j f fd ps (SpC K T m0)) (hj : j ≤ k) (ne : dvs ≠ []) (hd : ∀ B, DvL K B dvs ds)
    (hb : ∀ (TT : Addr) (kV doc pm : Value) (an : Option Addr) (cdv ct : Value) (us its : List Value), us.length = n → its.length = dvs.length →
      ∃ k, bindArgs (PySem.W.fnOf x x (defArgs st) (defBody st) (defScope st) (.ref TT) kV doc pm an cdv ct) ⟨us, []⟩ = seqItems? (.ref TT) >>= k ∧ k (some its.toArray) = pure (ps.zip (us ++ its))) :
    FnF P w K T mg base k ⟨x, n, []⟩ fun as obs => m0 (as ++ ds.map .d) obs := by
  obtain ⟨f, fd, h1, Fu⟩ := D.ex
  have G := (hF f fd Fu).mono hj
  have kp := Fu.kp
  obtain ⟨oc, od, dV, kV, doc, pmv, an, cdv, ct, osl, rfl, lk, hcd, hd'⟩ := Fu.ex
  rcases hd' with ⟨e, _⟩ | ⟨_, TT, ot, its, n', rfl, lT, oT, rT⟩
  · exact absurd e ne
  · refine ⟨f, h1, kp, fun A outer s H us ws vs Q E room gd env hu hw rv sp => ?_⟩
    cases ws with
    | cons a l => cases hw
    | nil =>
      rw [List.append_nil] at rv
      have X : K.In s.heap := env.mod.kin.keeps fun b o e => (env.bs b o e).1
      refine G.run A outer s H ⟨us, []⟩ (us ++ its) (vs ++ dvs) Q E room gd env ?_ (rv.append rT) ?_
      · obtain ⟨kk, e1, e2⟩ := hb TT kV doc pmv an cdv ct us its hu rT.length.symm
        refine BindsTo.of_looks fun M => ?_
        rw [e1]
        exact looks_items X lT oT (by rw [e2]; exact PySem.W.Looks.of_pure rfl)
      · obtain ⟨as, obs, W, r, obs', R, rvs, e, q⟩ := sp
        exact ⟨as ++ ds.map .d, obs, W, r, obs', R, pr_app rvs (rv_dat (hd _)), e, q⟩
theorem bl_of {BL l : List Str} (T : ∀ y ∈ BL, mg y = none) (h : (l.all fun y => BL.contains y) = true) : ∀ y ∈ l, mg y = none := fun y hy => T y (by simpa using List.all_eq_true.mp h y hy)
theorem gl_str {x : Str} {s : Str} {t : Tok} (h : mg x = some (.str s t)) : ∃ v u, mg x = some u ∧ RelV v u ∧ ∀ B, Dv K B v (.str s) := ⟨.str s, _, h, ⟨t, rfl⟩, fun _ => .str s⟩
theorem gl_int {x : Str} {i : Int} {t : Tok} (h : mg x = some (.int i t)) : ∃ v u, mg x = some u ∧ RelV v u ∧ ∀ B, Dv K B v (.int i) := ⟨.int i, _, h, ⟨t, rfl⟩, fun _ => .int i⟩
theorem gl_tup {x : Str} {a : Addr} {od : Option Addr} {its : Array Value} {n : Nat} {sl : Array (Option Value)} {vs : List V} {ds : List PyData} (h : mg x = some (.ref a))
    (l : K.lookup a = some ⟨.type "tuple", od, .seq its n, sl⟩) (hz : its.size ≤ sizeLine) (r : Vals vs its.toList) (dv : ∀ B, DvL K B vs ds) : ∃ v u, mg x = some u ∧ RelV v u ∧ ∀ B, Dv K B v (.tuple ds) :=
  ⟨.ref a, _, h, rfl, fun B => .tup (.inr ⟨_, its, n, l, rfl, rfl, hz, r⟩) (dv B)⟩
end
end Nv


set_option Elab.async false
set_option linter.all false
set_option maxRecDepth 100000
set_option maxHeartbeats 8000000
/-! Own error classes: super().__init__(..), then the fields; raised. -/
namespace Nv
open PySem PySem.Spec PyProof.Rows L2

/-! ### methods that name super: one free name, the class -/
abbrev envS (qual : Str) (sc : Scope) (n f : Addr) (cd : Value) (cc : Addr) : Env := PySem.W.envX qual sc n f cd [("__class__", cc)]
def cxS (CX : CXT) (P : Program) (w : World) (K : PySem.W.Frag) (mg : Str → Option Value) (base : Heap) (N : List Str) (qual : Str) (scope : Scope) (f : Addr) (cd : Value) (cc : Addr) (A : Around) (outer : List Env) (s : Shared) (H : Hp) (E : XK) : Cx :=
  { cxOf CX P w K mg base N qual scope f cd A outer s H E with
    A := A.deeper (envS qual scope s.heap.objs.size f cd cc)
    env := envS qual scope s.heap.objs.size f cd cc
    stack := envS qual scope s.heap.objs.size f cd cc :: outer
    fn := fun y => !(y == "__class__")
    xe := fun e s' => wpAny (model P w) (A.deeper (envS qual scope s.heap.objs.size f cd cc)) (leaving (envS qual scope s.heap.objs.size f cd cc) e) (fun _ s'' => CX outer H s E e s'') (fun e' s'' => CX outer H s E e' s'') s' }
structure ScS (N P : List Str) (sc : Scope) : Prop where
  kind : sc.kind = .function
  co : sc.isCoroutine = false
  gen : sc.isGenerator = false
  nd : N.Nodup
  pre : N.take P.length = P
  par : ∀ x ∈ P, sc.names.lookup x = some .local
  nocell : ∀ y ∈ sc.names, y.2 ≠ .cell
  free : ∀ y ∈ sc.names, y.2 = .free → y.1 = "__class__"
/-- the cell of the class, in the written part -/
def CellIn (K : PySem.W.Frag) (cc D : Addr) : Prop := ∃ cl cld csl, K.lookup cc = some ⟨cl, cld, .cell (some (.ref D)), csl⟩
theorem bindL_zip {ps : List Str} {us : List Value} (nd : ps.Nodup) {i : Nat} {x : Str} {u : Value} (hx : ps[i]? = some x) (hu : us[i]? = some u) : (ps.zip us).reverse.lookup x = some u := by
  have hm : (x, u) ∈ ps.zip us := by
    refine List.mem_of_getElem? (i := i) ?_
    rw [List.getElem?_zip_eq_some]
    exact ⟨hx, hu⟩
  have un : ∀ v, (x, v) ∈ (ps.zip us).reverse → v = u := by
    intro v hv
    obtain ⟨j, hj⟩ := List.mem_iff_getElem?.mp (List.mem_reverse.mp hv)
    rw [List.getElem?_zip_eq_some] at hj
    have e : i = j := (List.getElem?_inj (List.getElem?_eq_some_iff.mp hx).1 nd).mp (hx.trans hj.1.symm)
    rw [← e, hu] at hj
    exact (Option.some.inj hj.2).symm
  have key : ∀ (l : List (Str × Value)), (∀ v, (x, v) ∈ l → v = u) → (x, u) ∈ l → l.lookup x = some u := by
    intro l
    induction l with
    | nil => intro _ h; cases h
    | cons p l ih =>
      obtain ⟨y, v⟩ := p
      intro n h
      by_cases e : x = y
      · subst e
        rw [n v (List.mem_cons_self ..)]
        simp [List.lookup]
      · have e' : (x == y) = false := by simpa using e
        simp only [List.lookup, e']
        refine ih (fun v h => n v (List.mem_cons_of_mem _ h)) ?_
        rcases List.mem_cons.mp h with h | h
        · cases h
          exact absurd rfl e
        · exact h
  exact key _ un (List.mem_reverse.mpr hm)
theorem inv_startS {CX : CXT} {P : Program} {w : World} {K : PySem.W.Frag} {mg : Str → Option Value} {base : Heap} {N ps : List Str} {qual : Str} {scope : Scope} {f cc D : Addr} {cd : Value} {A : Around} {outer : List Env} {s : Shared} {H : Hp} {E : XK} {us : List Value} {vs : List V} {h1 : Heap} {tk : Nat}
    (S : ScS N ps scope) (hd : A.handled = none) (e0 : Env0 P w K mg base A outer s H) (hl : vs.length = ps.length) (r : Vals vs us) (hc : CellIn K cc D)
    (ns : h1.Ns s.heap.objs.size fun x => (ps.zip us).reverse.lookup x) (hk : ∀ b o, s.heap.get? b = some o → h1.get? b = some o) :
    Inv (cxS CX P w K mg base N qual scope f cd cc A outer s H E) [] (L2.start N vs) H { s with heap := h1, toks := tk } := by
  have hpl : ps.length ≤ N.length := by
    have q := congrArg List.length S.pre
    rw [List.length_take] at q
    omega
  obtain ⟨cl, cld, csl, hcc⟩ := hc
  have hb := e0.mod.kin _ _ hcc
  have look : ∀ {x c}, ([("__class__", cc)] : List (Str × Addr)).lookup x = some c → x = "__class__" ∧ c = cc := fun {x c} h => by
    simp only [List.lookup] at h
    split at h
    · rename_i e
      exact ⟨by simpa using e, (Option.some.inj h).symm⟩
    · cases h
  have noA : ∀ b : Addr, b ∉ ([] : List Addr) := fun b => by simp
  refine ⟨⟨e0.mod, S.kind, rfl, rfl, Nat.le_refl _, fun y z c h1 h2 => ?_, fun y hy => ?_, fun y c hf h => ?_, fun _ => hd, Around.frames_deeper e0.frames, .inr ⟨rfl, rfl⟩, fun b z => absurd z (noA b), e0.bs, e0.bsz, fun b _ _ => noA b, fun b z => absurd z (noA b), e0.funs, e0.frf⟩,
    rfl, e0.bare, Un.kept hk, ⟨_, ns, fun i y v g1 g2 g3 => ?_⟩, fun y c h => ?_, e0.hok.fresh (Nat.le_refl _), fun y c h => ?_, fun p hp => absurd (show p ∈ ([] : List (Addr × Obj)) from hp) (by simp), e0.hok.kept hk, ?_⟩
  · rw [(look h1).1, (look h2).1]
  · have hy : scope.names.lookup y = some .cell ∨ scope.names.lookup y = some .free := hy
    rcases hy with hy | hy
    · exact absurd rfl (S.nocell _ (PySem.mem_of_lookup hy))
    · have e : y = "__class__" := S.free _ (PySem.mem_of_lookup hy) rfl
      exact ⟨cc, by rw [e]; show List.lookup ("__class__" : Str) [(("__class__" : Str), cc)] = some cc; simp [List.lookup]⟩
  · have e := (look h).1
    subst e
    have z : (!(("__class__" : Str) == "__class__")) = true := hf
    simp at z
  · have hi : i < vs.length := by
      unfold L2.start at g2
      by_cases hi : i < vs.length
      · exact hi
      · rw [List.getElem?_append_right (by simpa using hi), List.getElem?_replicate] at g2
        split at g2 <;> cases g2
    have ha : vs[i]? = some v := by
      unfold L2.start at g2
      rw [List.getElem?_append_left (by simpa using hi), List.getElem?_map, Option.map_eq_some_iff] at g2
      obtain ⟨a, e, z⟩ := g2
      cases z
      exact e
    obtain ⟨u, hu, rv⟩ := r.get ha
    have hp : ps[i]? = some y := by
      rw [← S.pre, List.getElem?_take_of_lt (by omega)]
      exact g1
    have ndP : ps.Nodup := by
      rw [← S.pre]
      exact S.nd.sublist (List.take_sublist _ _)
    exact ⟨u, rv, .inl ⟨S.par y (List.mem_of_getElem? hp), bindL_zip ndP hp hu⟩⟩
  · have e := (look h).2
    subst e
    exact ⟨_, ⟨_, hk _ _ (e0.bs _ _ hb).1, rfl⟩⟩
  · have e := (look h).2
    subst e
    exact (e0.bs _ _ hb).2
  · unfold L2.start
    show _ = N.length
    rw [List.length_append, List.length_map, List.length_replicate]
    omega
end Nv
namespace Nv
open PySem PySem.Spec PyProof.Rows L2
abbrev veMro : List Value := [.type "ValueError", .type "Exception", .type "BaseException", .type "object"]
/-- what the written part says of an __init__ of the class C that calls super's: its function at f, its code at cda, the cell at cc; the instance's class is C too -/
structure SupV (P : Program) (K : PySem.W.Frag) (mg : Str → Option Value) (C f cda cc : Addr) : Prop where
  code : ∃ ccl cdd vs file tf ccs, K.lookup cda = some ⟨ccl, cdd, .fields vs, ccs⟩ ∧ vs[2]? = some (.str file tf) ∧ ((P.main.file : Str) == file) = true
  top : (P.main.scope.names.lookup ("super" : Str)).isSome = false
  cell : CellIn K cc C
  cls : ∃ cd, PySem.W.clsIn K C = some cd
  self : PySem.W.mroIn K C (.ref C) = some true
  sup : mg "super" = none
  ini : PySem.W.ks_superIn K C C "__init__" = some (some (.builtin "ValueError.__init__"))
  ve : PySem.W.subIn K (.ref C) (.type "ValueError") = some true
  third : PySem.W.nsIn K cStatics "thirdparty.any" = some none
  over : PySem.W.excInitIn K C veMro "ValueError.__new__" = true
section
variable {CX : CXT} {P : Program} {w : World} {K : PySem.W.Frag} {mg : Str → Option Value} {base : Heap} {N : List Str} {qual : Str} {sc : Scope} {f cc C cda : Addr} {A : Around} {outer : List Env} {s0 : Shared} {H0 : Hp} {E : XK}
/-- a pin more -/
theorem Inv.pinned {X : Cx} {pins : List (Addr × Obj)} {σ : L2.St} {H : Hp} {s : Shared} (I : Inv X pins σ H s) {q : Addr} {o : Obj} (h1 : s.heap.get? q = some o) (h2 : H q = none) (h3 : q ≠ X.env.locals) (h4 : q ∉ X.fs) (h5 : ∀ v, o.data ≠ .cell v) : Inv X ((q, o) :: pins) σ H s :=
  ⟨I.ok, I.os, I.bare, I.base, I.loc, I.cell, I.free, I.freeC, fun p hp => by
    rcases List.mem_append.mp hp with hp | hp
    · exact I.pin p (List.mem_append_left _ hp)
    · rcases List.mem_cons.mp hp with rfl | hp
      · exact ⟨h1, h2, h3, h4, h5⟩
      · exact I.pin p (List.mem_append_right _ hp), I.hok, I.len⟩
theorem Inv.unpinned {X : Cx} {pins : List (Addr × Obj)} {p : Addr × Obj} {σ : L2.St} {H : Hp} {s : Shared} (I : Inv X (p :: pins) σ H s) : Inv X pins σ H s :=
  ⟨I.ok, I.os, I.bare, I.base, I.loc, I.cell, I.free, I.freeC, fun q hq => by
    rcases List.mem_append.mp hq with hq | hq
    · exact I.pin q (List.mem_append_left _ hq)
    · exact I.pin q (List.mem_append_right _ (List.mem_cons_of_mem _ hq)), I.hok, I.len⟩
/-- super().__init__(e, ..) in an own error class's __init__, the text's rest behind it -/
theorem super_initV {body rest : List Stmt} {e : Expr} {es : List Expr} {p0 p1 p2 p3 p4 : Pos} {pins : List (Addr × Obj)} {σ : L2.St} {H : Hp} {s : Shared} {ta : TA} {a : Addr} {fd : FuncData} {oc : Value} {od : Option Addr} {osl : Array (Option Value)} {ar : Arg} {Post : Flow → Shared → Prop} {G : Hp → Prop}
    (T : SupV P K mg C f cda cc) (hf : K.lookup f = some ⟨oc, od, .func fd, osl⟩) (hp : (fd.params.posonlyargs ++ fd.params.args).head? = some ar) (hN : N[0]? = some ar.arg) (hks : sc.names.lookup ("super" : Str) = some .globalImplicit) (hkc : sc.names.lookup ("__class__" : Str) = some .free) (hka : sc.names.lookup ar.arg = some .local) (hk : sc.kind = .function)
    (I : Inv (cxS CX P w K mg base N qual sc f (.ref cda) cc A outer s0 H0 E) pins σ H s) (hσ : σ[0]? = some (some (.ref a))) (ha : H a = some (exo a C none)) (pa : PA (cxS CX P w K mg base N qual sc f (.ref cda) cc A outer s0 H0 E) (e :: es) ta)
    (h : ta σ H fun vs H1 => vs.length ≤ 1000 ∧ H1 a = some (exo a C none) ∧ G H1)
    (hr : ∀ H1 s1, Inv (cxS CX P w K mg base N qual sc f (.ref cda) cc A outer s0 H0 E) pins σ H1 s1 → G H1 → H1 a = some (exo a C none) →
      _root_.PySem.wpAt (model P w) (A.deeper (envS qual sc s0.heap.objs.size f (.ref cda) cc)) (.func body (envS qual sc s0.heap.objs.size f (.ref cda) cc)) (execs rest (envS qual sc s0.heap.objs.size f (.ref cda) cc)) Post (cxS CX P w K mg base N qual sc f (.ref cda) cc A outer s0 H0 E).xe s1)
    (hint : interactive (envS qual sc s0.heap.objs.size f (.ref cda) cc) = false := by rfl)
    (he : starEach (e :: es) (envS qual sc s0.heap.objs.size f (.ref cda) cc) = (false, eval e (envS qual sc s0.heap.objs.size f (.ref cda) cc)) :: starEach es (envS qual sc s0.heap.objs.size f (.ref cda) cc) := by rfl)
    (hpl : (backTo p3 (starEach es (envS qual sc s0.heap.objs.size f (.ref cda) cc))).any (·.1) = false := by rfl)
    (hcall : eval (.Call (.Attribute (.Call (.Name "super" p0) [] [] p1) "__init__" p2) (e :: es) [] p3) (envS qual sc s0.heap.objs.size f (.ref cda) cc) = (do
      let ov ← attributeBase (.Call (.Name "super" p0) [] [] p1) "__init__" (envS qual sc s0.heap.objs.size f (.ref cda) cc) (eval (.Call (.Name "super" p0) [] [] p1) (envS qual sc s0.heap.objs.size f (.ref cda) cc))
      standAt p2.atName
      let (g, first) ← holding [ov] (getMethod ov "__init__" (pure false))
      callWith p3 g first (backTo p3 (starEach (e :: es) (envS qual sc s0.heap.objs.size f (.ref cda) cc))) []) := by rfl) :
    _root_.PySem.wpAt (model P w) (A.deeper (envS qual sc s0.heap.objs.size f (.ref cda) cc)) (.func body (envS qual sc s0.heap.objs.size f (.ref cda) cc)) (execs (.Expr (.Call (.Attribute (.Call (.Name "super" p0) [] [] p1) "__init__" p2) (e :: es) [] p3) p4 :: rest) (envS qual sc s0.heap.objs.size f (.ref cda) cc)) Post
      (cxS CX P w K mg base N qual sc f (.ref cda) cc A outer s0 H0 E).xe s := by
  obtain ⟨ccl, cdd, vs, file, tf, ccs, hcode, hvs, hfile⟩ := T.code
  obtain ⟨cl, cld, csl, hcell⟩ := T.cell
  obtain ⟨cdC, hcls⟩ := T.cls
  have X := I.kIn
  have hga := I.ok.mod.glob
  obtain ⟨mb, hb, hbb⟩ := I.ok.mod.blt
  refine PySem.ks_wpAt_execs_cons (PySem.ks_wpAt_Expr_any ?_ hint)
  refine PySem.ks_wpAt_MethodCall (pl := pure false) ?_ hcall
  refine PySem.ks_wpAt_super_base (env := envS qual sc s0.heap.objs.size f (.ref cda) cc) hks hkc (by decide) rfl (X _ _ hf) rfl hp rfl (X _ _ hcode) rfl hvs hfile T.top ?_
  -- super
  refine PySem.W.ks_loadName_global hk hks (Calls.loadGlobal_builtin (env := envS qual sc s0.heap.objs.size f (.ref cda) cc) (hga.keeps I.bk) T.sup (hb.keeps I.bk) ((hbb _ (by decide +kernel)).trans (by decide +kernel : bootBuiltins "super" = some (.type "super"))) ⟨rfl, ?_⟩)
  -- __class__
  refine wpAny_loadName_free hk hkc (c := cc) (by show List.lookup ("__class__" : Str) [(("__class__" : Str), cc)] = some cc; simp [List.lookup]) ⟨_, X _ _ hcell, rfl⟩ ?_
  -- self
  obtain ⟨m, hm, hlook⟩ := I.loc
  obtain ⟨u, ru, hl⟩ := hlook 0 ar.arg (.ref a) hN hσ (.inl hka)
  obtain rfl : u = Value.ref a := ru
  have hml : m ar.arg = some (.ref a) := by
    rcases hl with hl | ⟨hl, _⟩
    · exact hl.2
    · rcases hl with hl | hl
      · exact absurd (hka.symm.trans hl) (by intro z; cases z)
      · exact absurd (hka.symm.trans hl) (by intro z; cases z)
  refine wpAny_loadName_local hk hka hm hml ?_
  obtain ⟨oD, hD1, hD2⟩ : ∃ oD, s.heap.get? C = some oD ∧ oD.data = .cls cdC := by
    unfold PySem.W.clsIn at hcls
    split at hcls
    · rename_i c d cd' sl ho
      cases hcls
      exact ⟨_, X _ _ ho, rfl⟩
    · cases hcls
  obtain ⟨t1, hae⟩ := exo_at I.hok ha
  refine PySem.ks_wpAny_isType_cls hD1 hD2 ⟨rfl, ?_⟩
  obtain ⟨hp0, g0, d0, tk0, os0⟩ := s
  refine PySem.ks_wpAny_call_super hD1 hD2 hae rfl (fun c z => by cases z) (PySem.W.looks_mroIn X T.self) (fun h' hso k => ?_)
  have I1 := I.kept (h' := h') (t' := tk0) k
  have X1 := I1.kIn
  have hae1 := k _ _ hae
  -- its __init__
  have hIa : PySem.W.InstAt h' a _ C none := ⟨hae1, rfl, rfl, trivial⟩
  have hini := T.ini
  unfold PySem.W.ks_superIn at hini
  rw [hcls] at hini
  refine PySem.W.kxs_getMethod PySem.W.kxs_ValueError hso (PySem.W.looks_opaque X1 T.third) (l₀ := cdC.mro) ?_ rfl X1 hini (hIa.type.andThen (PySem.W.looks_subIn X1 T.ve)) (PySem.W.ks_ne X1 hIa hcls) (by decide) ?_
  · exact fun A Q E s k q => wpAny_bind ((PySem.W.looks_clsIn X1 hcls) A _ E s k (wpAny_pure q))
  have hq : (h'.push (PySem.W.kxs_mw "ValueError.__init__" a)).get? h'.objs.size = some (PySem.W.kxs_mw "ValueError.__init__" a) := Heap.get?_push_at rfl rfl
  have I2 := I1.kept (h' := h'.push (PySem.W.kxs_mw "ValueError.__init__" a)) (t' := tk0 + 1) (fun b o z => Heap.get?_push_of_some _ z)
  have hqn : H h'.objs.size = none := I1.hok.fresh (Nat.le_refl _)
  have I3 := Inv.pinned I2 hq hqn (Nat.ne_of_gt (Nat.lt_of_lt_of_le I1.lt (Nat.le_refl _))) (I1.nofs (Nat.le_refl _)) (fun v z => by cases z)
  refine PySem.W.kxs_callWith (i := "ValueError.__init__") (x := a) (by rw [he]; show (false || (backTo p3 (starEach es _)).any (·.1)) = false; rw [hpl]; rfl) ?_
  rw [he]
  refine Calls.evalArgs_plain ?_
  have run := pa.run p3 _ _ σ H _ I3 h
  rw [show starEach (e :: es) (cxS CX P w K mg base N qual sc f (.ref cda) cc A outer s0 H0 E).env = (false, eval e (envS qual sc s0.heap.objs.size f (.ref cda) cc)) :: starEach es (envS qual sc s0.heap.objs.size f (.ref cda) cc) from he] at run
  refine thn run fun us s1 ⟨ws, H1, I4, r1, hlen, ha4, hG⟩ => ?_
  obtain ⟨hq4, _⟩ := I4.pin _ (List.mem_append_right _ List.mem_cons_self)
  refine ⟨hq4, ?_⟩
  obtain ⟨t4, hae4⟩ := exo_at I4.hok ha4
  have X4 := I4.kIn
  obtain ⟨nm, N', qn, bs, bm, hdct, sn, sub, ab, col, dd, k0, k1, k2, k3, k5, hC, hT⟩ := PySem.W.excInit_of X4 T.over
  have hus : us.length ≤ sizeLine := by
    rw [← Paired.length r1, sizeLine_eq]
    omega
  obtain ⟨hp5, g5, d5, tk5, os5⟩ := s1
  refine wpAny_call (codeAny_of_tree ?_)
  show wpAny _ _ (callAny (.ref h'.objs.size) ⟨us, []⟩) _ _ _
  simp only [callAny]
  refine wpAny_bind (wpAny_load hq4 ?_)
  simp only [PySem.W.kxs_mw, show (Value.type "method-wrapper" == Value.type "method" || Value.type "method-wrapper" == Value.type "builtin_function_or_method" || Value.type "method-wrapper" == Value.type "method-wrapper") = true by decide, if_true]
  refine PySem.W.KFB.if_so (by decide) ?_
  refine wpAny_bind (PySem.W.check_bound_init F.excBase_ValueError.toExcCallFacts hC hae4 rfl ?_)
  refine wpAny_bind (wpAny_pure (wpAny_pure ?_))
  refine ⟨Code.quiet_builtin _ (by decide +kernel), codeAny_builtin F.excBase_ValueError.initEntry ?_⟩
  refine PySem.W.exc_init_tree (cls := .ref C) (t0 := t4) (dv := none) (c2 := .none) (c3 := .none) (b4 := .bool false) hae4 hus fun h6 k6 e6 _ => ?_
  have J := I4.write (t' := tk5) (x := a) (e := a) (o := exo a C none) (by rw [ha4]; exact True.intro) (.inl rfl) k6 ⟨_, e6⟩ (exo_ok e6)
  have eu : upd H1 a (exo a C none) = H1 := by
    funext b
    by_cases hb : b = a
    · rw [hb, upd_same, ha4]
    · rw [upd_ne hb]
  rw [eu] at J
  exact hr H1 _ (Inv.unpinned J) hG ha4
end
end Nv
namespace Nv
open PySem PySem.Spec PyProof.Rows L2
/-- a method of the class with the cell cc, as the top has written it -/
structure FunS (K : PySem.W.Frag) (x qual : Str) (st : Stmt) (f cda cc : Addr) (fd : FuncData) : Prop where
  ex : ∃ (oc : Value) (od : Option Addr) (kV doc pm : Value) (an : Option Addr) (ct : Value) (osl : Array (Option Value)),
    fd = PySem.W.fnX x qual (defArgs st) (defBody st) (defScope st) [("__class__", cc)] .none kV doc pm an (.ref cda) ct ∧ K.lookup f = some ⟨oc, od, .func fd, osl⟩ ∧ PySem.W.codeIn K (.ref cda) qual = true
section
variable {CX : CXT} {P : Program} {w : World} {K : PySem.W.Frag} {mg : Str → Option Value} {base : Heap} {N ps : List Str} {x qual : Str} {st : Stmt} {f cc C cda : Addr} {fd : FuncData} {k : Nat} {sp : Sp}
theorem exc_fn {rest : List Stmt} {e : Expr} {es : List Expr} {p0 p1 p2 p3 p4 : Pos} {ar : Arg} (T : SupV P K mg C f cda cc) (F : FunS K x qual st f cda cc fd) (S : ScS N ps (defScope st)) (hb : defBody st = .Expr (.Call (.Attribute (.Call (.Name "super" p0) [] [] p1) "__init__" p2) (e :: es) [] p3) p4 :: rest)
    (hp : ((defArgs st).posonlyargs ++ (defArgs st).args).head? = some ar) (hN : N[0]? = some ar.arg) (hks : (defScope st).names.lookup ("super" : Str) = some .globalImplicit) (hkc : (defScope st).names.lookup ("__class__" : Str) = some .free) (hka : (defScope st).names.lookup ar.arg = some .local)
    (he : ∀ env, starEach (e :: es) env = (false, eval e env) :: starEach es env) (hpl : ∀ env, (backTo p3 (starEach es env)).any (·.1) = false)
    (hcall : ∀ env, eval (.Call (.Attribute (.Call (.Name "super" p0) [] [] p1) "__init__" p2) (e :: es) [] p3) env = (do
      let ov ← attributeBase (.Call (.Name "super" p0) [] [] p1) "__init__" env (eval (.Call (.Name "super" p0) [] [] p1) env)
      standAt p2.atName
      let (g, first) ← holding [ov] (getMethod ov "__init__" (pure false))
      callWith p3 g first (backTo p3 (starEach (e :: es) env)) []))
    (len : ∀ vs H Q E, sp vs H Q E → vs.length = ps.length)
    (hbody : ∀ (A : Around) (outer : List Env) (s : Shared) (H : Hp) (vs : List V) (Q : VK) (E : XK), Room k (A.deeper (envS qual (defScope st) s.heap.objs.size f (.ref cda) cc)) → sp vs H Q E →
      ∃ a us ta t, vs = .ref a :: us ∧ H a = some (exo a C none) ∧ PA (cxS CX P w K mg base N qual (defScope st) f (.ref cda) cc A outer s H E) (e :: es) ta ∧ (ta (L2.start N vs) H fun ws H1 => ws.length ≤ 1000 ∧ H1 a = some (exo a C none) ∧ H1 = H) ∧
        PSs (cxS CX P w K mg base N qual (defScope st) f (.ref cda) cc A outer s H E) rest t ∧ t { nx := fun _ H' => Q .non H', rt := Q } (L2.start N vs) H) :
    FnOk P w K mg base CX (k + 1) f fd ps sp := by
  obtain ⟨oc, od, kV, doc, pm, an, ct, osl, rfl, lk, hcd⟩ := F.ex
  constructor
  · exact len
  intro A outer s H args us vs Q E room env bt vals hsp
  have hlen := len _ _ _ _ hsp
  have kin : K.In s.heap := env.mod.kin.keeps fun b o e => (env.bs b o e).1
  have nolim : s.heap.NoLimit := env.mod.nolimit.keeps fun b o e => (env.bs b o e).1
  have hloc : ∀ y ∈ ps.zip us, (defScope st).names.lookup y.1 = some .local := by
    intro ⟨n, v⟩ hy
    exact S.par n (List.of_mem_zip hy).1
  refine PySem.ks_codeAny_call_defAt (body := defBody st) (binds := ps.zip us) room.depth (kin _ _ lk) rfl nolim (PySem.W.codeRec_of kin hcd) rfl bt S.nocell hloc (fun h₀ hns hk => ?_) S.co S.gen S.kind
  obtain ⟨a, us', ta, t, rfl, ha, hpa, hta, hps, ht⟩ := hbody A outer s H vs Q E (room.deeper _) hsp
  have I0 := inv_startS (CX := CX) (E := E) (qual := qual) (f := f) (cd := .ref cda) S room.hd env hlen vals T.cell hns hk (tk := s.toks + (ps.zip us).length)
  show _root_.PySem.wpAt (model P w) (A.deeper (envS qual (defScope st) s.heap.objs.size f (.ref cda) cc)) (.func (defBody st) (envS qual (defScope st) s.heap.objs.size f (.ref cda) cc)) (execs (defBody st) (envS qual (defScope st) s.heap.objs.size f (.ref cda) cc)) _ _ _
  refine PySem.ks_wpAt_mono (Q := SP (cxS CX P w K mg base N qual (defScope st) f (.ref cda) cc A outer s H E) [] { nx := fun _ H' => Q .non H', rt := Q }) (E := (cxS CX P w K mg base N qual (defScope st) f (.ref cda) cc A outer s H E).xe) ?_ ?_ fun e s' h => ?_
  · have hn0 : 0 < N.length := (List.getElem?_eq_some_iff.mp hN).1
    rw [hb]
    refine super_initV (body := _) (G := fun H1 => H1 = H) T lk hp hN hks hkc hka S.kind I0 (by unfold L2.start; rfl) ha hpa hta (fun H1 s1 J hG _ => ?_) (by unfold interactive; show ((defScope st).kind == .module && _) = false; rw [S.kind]; rfl) (he _) (hpl _) (hcall _)
    subst hG
    exact PySem.wpAt_of_wpAny (hps.run [] s1 _ _ _ J ht)
  · intro fl s' hs
    cases fl with
    | ret u =>
      obtain ⟨v, σ', H', J, rv, q⟩ := hs
      exact ⟨v, H', J.os, J.bare, J.base, J.hok, rv, q⟩
    | next =>
      obtain ⟨σ', H', J, q⟩ := hs
      exact ⟨.non, H', J.os, J.bare, J.base, J.hok, rfl, q⟩
    | brk => obtain ⟨_, _, _, q⟩ := hs; exact q.elim
    | cont => obtain ⟨_, _, _, q⟩ := hs; exact q.elim
  · exact h
end
end Nv
namespace Nv
open PySem PySem.Spec PyProof.Rows L2
/-- an error class's __init__: super's, then each parameter is kept under its name -/
def spI (C : Addr) (names : List Str) : Sp := fun vs H Q _ => ∃ a us, vs = .ref a :: us ∧ us.length = names.length ∧ H a = some (exo a C none) ∧
  ∀ d H', H d = none → d ≠ a → H' a = some (exo a C (some d)) → H' d = some (exd d (names.zip us).reverse) → (∀ b, b ≠ a → b ≠ d → H' b = H b) → Q .non H'
/-! what the written part says of own error classes, and what follows for the errors' part -/
structure ErrF (P : Program) (K : PySem.W.Frag) (mg : Str → Option Value) (x q : Str) (names : List Str) (st : Stmt) : Prop where
  ex : ∃ C f cda cc fd, PySem.W.nsIn K mainGlobals x = some (some (.ref C)) ∧ mg x = some (.ref C) ∧ PySem.W.findIn K (.ref C) "__init__" = some (some (.ref f)) ∧ PySem.W.typeIn K (.ref f) = some (.type "function") ∧ FunS K "__init__" q st f cda cc fd ∧
    SupV P K mg C f cda cc ∧ OexC K C ∧ XfC K C ∧ L2.ExcC K C ∧ ∀ p ∈ names, PySem.W.findIn K (.ref C) p = some none
/-- an error class: what can be asked at once -/
def excB (K : PySem.W.Frag) (C : Addr) : Bool :=
  decide (PySem.W.findIn K (.ref C) "__setattr__" = some (some (.builtin "object.__setattr__"))) && (decide (PySem.W.subIn K (.ref C) (.type "BaseException") = some true) && (decide (PySem.W.typeIn K (.ref C) = some (.type "type")) && (PySem.W.keepIn K (.ref C) &&
  (decide (PySem.W.findIn K (.ref C) "__getattribute__" = some (some (.builtin "BaseException.__getattribute__"))) && (decide (PySem.W.findIn K (.ref C) "__getattr__" = some none) && (PySem.W.hasDictIn K C &&
  (decide (PySem.W.findIn K (.ref C) "__class__" = some (some (.builtin "object.__class__"))) && (decide (PySem.W.specialIn K (.builtin "object.__class__") "__get__" = some (some (.builtin "getset_descriptor.__get__"))) && (decide (PySem.W.takesIn K (.builtin "object.__class__") = some true) &&
  decide (PySem.W.mroIn K C (.type "object") = some true))))))))))
def errB (K : PySem.W.Frag) (C f : Addr) (names : List Str) : Bool :=
  excB K C && (decide (PySem.W.typeIn K (.ref f) = some (.type "function")) && ((PySem.W.clsIn K C).isSome && (decide (PySem.W.mroIn K C (.ref C) = some true) && (decide (PySem.W.ks_superIn K C C "__init__" = some (some (.builtin "ValueError.__init__"))) && (decide (PySem.W.subIn K (.ref C) (.type "ValueError") = some true) &&
  (decide (PySem.W.nsIn K cStatics "thirdparty.any" = some none) && (PySem.W.excInitIn K C veMro "ValueError.__new__" && names.all fun p => decide (PySem.W.findIn K (.ref C) p = some none))))))))
theorem excB_ok {K : PySem.W.Frag} {C : Addr} {nm q : Str} {N : Addr} {bs bm : List Value} {sn : List Str} {sub : List Value} {ab : Bool} {col : Option Bool} {dd : Option Addr} {k0 k1 k2 k3 k5 : Option Value}
    (ob : K.lookup C = some (excClassObj nm q C N bs bm true sn sub ab col dd k0 k1 k2 k3 k5 "ValueError.__new__")) (rb : PySem.HandSPX.refsVE bm = true) (h : excB K C = true) : OexC K C ∧ XfC K C ∧ L2.ExcC K C := by
  simp only [excB, Bool.and_eq_true, decide_eq_true_eq] at h
  obtain ⟨sa, ex, ty, kp, ga, gg, hd, ha, hn, ht, hm⟩ := h
  exact ⟨⟨⟨nm, q, N, bs, bm, sn, sub, ab, col, dd, k0, k1, k2, k3, k5, ob, rb⟩, sa, ex, ty, kp⟩, ⟨ga, gg, ex, hd⟩, ⟨ga, gg, ex, hd, ha, hn, ht, hm⟩⟩
theorem err_mk {P : Program} {K : PySem.W.Frag} {h : Heap} {mg : Str → Option Value} (X : K.In h) (G : h.Ns mainGlobals mg) (x qn : Str) (names : List Str) (st : Stmt) {C f cda cc : Addr} {oc kV doc pm ct : Value} {od an : Option Addr} {osl : Array (Option Value)}
    {ccl : Value} {cdd : Option Addr} {vs : Array Value} {file : Str} {tf : Tok} {ccs : Array (Option Value)} {cl : Value} {cld : Option Addr} {csl : Array (Option Value)}
    {nm q : Str} {N : Addr} {bs bm : List Value} {sn : List Str} {sub : List Value} {ab : Bool} {col : Option Bool} {dd : Option Addr} {k0 k1 k2 k3 k5 : Option Value}
    (aC : PySem.W.nsIn K mainGlobals x = some (some (.ref C))) (af : PySem.W.findIn K (.ref C) "__init__" = some (some (.ref f)))
    (lf : K.lookup f = some ⟨oc, od, .func (PySem.W.fnX "__init__" qn (defArgs st) (defBody st) (defScope st) [("__class__", cc)] .none kV doc pm an (.ref cda) ct), osl⟩)
    (lc : K.lookup cda = some ⟨ccl, cdd, .fields vs, ccs⟩) (vf : vs[2]? = some (.str file tf)) (fm : ((P.main.file : Str) == file) = true) (tp : (P.main.scope.names.lookup ("super" : Str)).isSome = false)
    (lcc : K.lookup cc = some ⟨cl, cld, .cell (some (.ref C)), csl⟩) (sp : PySem.W.nsIn K mainGlobals "super" = some none)
    (ob : K.lookup C = some (excClassObj nm q C N bs bm true sn sub ab col dd k0 k1 k2 k3 k5 "ValueError.__new__")) (rb : PySem.HandSPX.refsVE bm = true) (cq : PySem.W.codeIn K (.ref cda) qn = true) (bb : errB K C f names = true) : ErrF P K mg x qn names st := by
  simp only [errB, Bool.and_eq_true, decide_eq_true_eq, List.all_eq_true] at bb
  obtain ⟨b1, tI, cls, sf, ini, ve, th, ov, hp⟩ := bb
  obtain ⟨o1, o2, o3⟩ := excB_ok ob rb b1
  exact ⟨C, f, cda, cc, _, aC, PySem.W.mg_of X G aC, af, tI, ⟨_, _, _, _, _, _, _, _, rfl, lf, cq⟩, ⟨⟨ccl, cdd, vs, file, tf, ccs, lc, vf, fm⟩, tp, ⟨cl, cld, csl, lcc⟩, Option.isSome_iff_exists.mp cls, sf, PySem.W.mg_none_of X G sp, ini, ve, th, ov⟩, o1, o2, o3, hp⟩

section
variable {P : Program} {w : World} {K : PySem.W.Frag} {mg : Str → Option Value} {base : Heap} {k : Nat}
/-- such a class, raised -/
theorem erF_of {x q : Str} {n : Str} {names : List Str} {st : Stmt} (T : ErrF P K mg x q (n :: names) st) (hdb : (x == ("__debug__" : Str)) = false) (hk : 2 ≤ k) (hn : names.length ≤ 900)
    (ini : ∀ {C f cda cc : Addr} {fd : FuncData}, SupV P K mg C f cda cc → OexC K C → (∀ p ∈ n :: names, PySem.W.findIn K (.ref C) p = some none) → FunS K "__init__" q st f cda cc fd → FnOk P w K mg base CX0 1 f fd (("self" : Str) :: n :: names) (spI C (n :: names)))
    (hb : ∀ (kV doc pm : Value) (an : Option Addr) (cda cc : Addr) (ct : Value) (us : List Value), us.length = names.length + 2 → bindArgs (PySem.W.fnX "__init__" q (defArgs st) (defBody st) (defScope st) [("__class__", cc)] .none kV doc pm an (.ref cda) ct) ⟨us, []⟩ = pure ((("self" : Str) :: n :: names).zip us)) :
    ErF P w K mg base k ⟨x, n :: names⟩ := by
  obtain ⟨C, f, cda, cc, fd, nC, gC, iC, tI, Fu, S, O, _, _, hp⟩ := T.ex
  refine ⟨C, nC, fun X hP hw hK hmg hbase hr hgd hc hg es p pos hl hs1 hs2 => ?_⟩
  subst hP hw hK hmg hbase
  have G := ini S O hp Fu
  cases es with
  | nil => cases hl
  | cons e es =>
    have hbind : Binds X.K fd (("self" : Str) :: n :: names) [] := by
      obtain ⟨oc, od, kV, doc, pm, an, ct, osl, rfl, lk, hcd⟩ := Fu.ex
      intro s us hK hlen
      rw [List.append_nil] at hlen ⊢
      exact .of_eq (hb kV doc pm an cda cc ct us (by simpa using hlen))
    have pm := pmk_oex (p := p) (pos := pos) O iC tI G (hr.mono hk) hbind .nil pass0 hg gC pa_w hdb (hs1 X.env e es rfl) (hs2 e es rfl)
    intro pins s σ H Q I h
    refine pm pins s σ H Q I ?_
    intro pos' pins' s' I'
    refine thn (h pos' pins' s' I') fun us s2 ⟨vs, H1, I1, rv, hlen, q⟩ => ⟨vs, H1, I1, rv, ?_, fun a ha => ?_⟩
    · have hlen : vs.length = names.length + 1 := hlen
      omega
    · refine ⟨a, vs, by rw [List.append_nil], hlen, upd_same, fun d H' hd hda e1 e2 e3 => ⟨rfl, d, _, e1, e2, ?_, ?_⟩⟩
      · rw [upd_ne hda] at hd; exact hd
      · have hd : H1 d = none := by rw [upd_ne hda] at hd; exact hd
        have ee : upd (del H' a) d (.xd ((n :: names).zip vs).reverse) = upd H1 d (.xd ((n :: names).zip vs).reverse) := by
          funext b
          by_cases z : b = d
          · subst z; rw [upd_same, upd_same]
          · rw [upd_ne z, upd_ne z]
            by_cases y : b = a
            · subst y; rw [del_same, ha]
            · rw [del_ne y, e3 b y z, upd_ne y]
        rw [ee]
        exact q d hd
end
end Nv


set_option Elab.async false
set_option linter.all false
set_option maxRecDepth 100000
set_option maxHeartbeats 8000000
/-! try: .. except X as n: v = n: the caught error lives on. A def that hears. -/
namespace Nv
open PySem PySem.Spec PyProof.Rows L2
section
variable {X : Cx} {pins : List (Addr × Obj)} {σ : L2.St} {H : Hp} {s : Shared}
/-- a pinned error is known from now on -/
theorem Inv.promote {a C : Addr} {d : Option Addr} {oe : Obj} (I : Inv X ((a, oe) :: pins) σ H s) (hc : oe.cls = .ref C) (hd : oe.dict = d) (hv : ∃ vs, oe.data = .fields vs) (n0 : X.s_0.heap.get? a = none) (np : ∀ p ∈ X.pn ++ pins, p.1 ≠ a) : Inv X pins σ (upd H a (kexo a C d)) s := by
  obtain ⟨ha, na, nL, nF, nc⟩ := I.pin (a, oe) (List.mem_append_right _ List.mem_cons_self)
  have ha : s.heap.get? a = some oe := ha
  have na : H a = none := na
  have other : ∀ {b : Addr} {u : HO}, H b = some u → upd H a (kexo a C d) b = some u := fun {b u} e => by
    rw [upd_ne (ne_of_none e na)]
    exact e
  refine { ok := I.ok, os := I.os, bare := I.bare, base := ?_, loc := I.loc, cell := I.cell, free := ?_, freeC := fun x c e => ?_, pin := fun p hp => ?_, hok := fun b u e => ?_, len := I.len }
  · refine { keep := I.base.keep, slot := I.base.slot, free := fun b o e n hx => ?_, there := I.base.there, tups := fun b xs e => other (I.base.tups b xs e), frzs := fun b o u e => other (I.base.frzs b o u e), tbls := fun b ps e => ?_ }
    · rw [upd_ne (fun z => by rw [z, n0] at e; cases e)]
      exact I.base.free b o e n hx
    · obtain ⟨more, k⟩ := I.base.tbls b ps e
      exact ⟨more, other k⟩
  · rw [upd_ne (fun z => nL z.symm)]
    exact I.free
  · obtain ⟨v, o, ho, hd⟩ := I.cell x c e
    rw [upd_ne (fun z => by
      rw [z, ha] at ho
      cases ho
      exact nc v hd)]
    exact I.freeC x c e
  · obtain ⟨k1, k2, k3⟩ := I.pin p (by
      rcases List.mem_append.mp hp with z | z
      · exact List.mem_append_left _ z
      · exact List.mem_append_right _ (List.mem_cons_of_mem _ z))
    exact ⟨k1, by rw [upd_ne (np p hp)]; exact k2, k3⟩
  · by_cases hb : b = a
    · subst hb
      rw [upd_same] at e
      cases e
      exact ⟨⟨oe, ha, hc, hd, hv⟩, ⟨oe, ha⟩, fun h1 h2 ⟨o, e1, e2⟩ st => ⟨o, st _ e1, e2⟩⟩
    · rw [upd_ne hb] at e
      exact (I.hok b u e).stay (fun _ _ _ q => q) (fun _ q => other q) fun _ _ q => other q
end
/-- what the clause keeps -/
def wKeep (K : PySem.W.Frag) (c : Value) (i : Nat) (ts : Addr → Value → Option Addr → TS) (D : Ends) : WX := fun cls d σ H => ∃ C, cls = .ref C ∧ PySem.W.exmOne K cls c = some true ∧
  ∀ a, H a = none → ts a cls d { nx := fun σ' H' => H' a = none → D.nx (σ'.set i none) (upd H' a (kexo a C d)), rt := fun _ _ => False, bk := fun _ _ => False, ct := fun _ _ => False } (σ.set i (some (.ref a))) H
section
variable {X : Cx}
theorem ps_try_keep {x n : Str} {c : Value} {i : Nat} {body suite : List Stmt} {b0 : Stmt} {np pos pos' : Pos} {tb : WX → TS} {ts : Addr → Value → Option Addr → TS} (hs : X.stack = X.env :: X.outer) (hf : X.env.frame = some X.env.locals) (hex : X.ex = []) (hN : X.N.Nodup) (hi : X.N[i]? = some n)
    (hln : X.env.kindOf n = some .local) (hc : Names X x c) (hb : ∀ (W : WX) (pn : List (Addr × Obj)) (xe : Value → Shared → Prop), Takes (X.tr pn xe) W → PassesOwn (model X.prog X.w) X.A X.env xe → PSs (X.tr pn xe) body (tb W))
    (hsu : ∀ (a : Addr) (oe : Obj) (cls : Value) (d : Option Addr) (pn : List (Addr × Obj)), Zc cls d oe → (∃ vs, oe.data = .fields vs) → PSs (X.suite a ((a, oe) :: pn)) (b0 :: suite) (ts a cls d)) :
    PS X (.Try body [.ExceptHandler (some (.Name x np)) (some n) (b0 :: suite) pos'] [] [] pos) fun D σ H => tb (wKeep X.K c i ts D) D σ H := by
  constructor
  intro pins s σ H D I h
  have ok := I.ok
  have frames : X.A.frames = some (X.env :: X.outer) := ok.frames.trans (congrArg some hs)
  apply wpAny_Try_except
  have run := (hb (wKeep X.K c i ts D) (X.pn ++ pins) (fun e s1 => wpAny (model X.prog X.w) X.A (noteFrame e X.env) (fun _ s2 => wpAny (model X.prog X.w) X.A (setFlight e none) (fun _ s3 =>
    wpAny (model X.prog X.w) X.A (handleBy e X.env [.ExceptHandler (some (.Name x np)) (some n) (b0 :: suite) pos']) (SP X pins D) X.xe s3) X.xe s2) X.xe s1) ?caught PassesOwn.looking).run [] s σ H D (I.toTry _) h
  case caught =>
    intro u s' xx
    obtain ⟨a, B, sI, pins', σ', H', cls, d, rfl, J', nb, up, sky, na, os, ag, C, rfl, hm, hyes⟩ := xx
    have J : Inv X pins σ' H' sI := J'.ofTry ok
    rw [hs] at sky
    show wpAny (model X.prog X.w) X.A (noteFrame (.ref a) X.env) _ _ _
    refine Sky.land Zc.steady frames hf sky fun h3 fl3 up3 => ?_
    have J3 : Inv X pins σ' H' { s' with heap := h3 } := J.landed nb fl3.1 (up.trans up3) os ag
    obtain ⟨oe3, vs3, he3, hz3, hd3⟩ := fl3.there
    have nfr : a ∉ frs (X.env :: X.outer) := by
      intro hm
      obtain ⟨_, o', e', hnf⟩ := fl3.2.2.1.mem hm
      rw [he3] at e'
      cases e'
      exact hnf _ hd3
    have nL : a ≠ X.env.locals := by
      intro z
      exact nfr (List.mem_filterMap.mpr ⟨X.env, List.mem_cons_self, by rw [hf, z]⟩)
    have nF : a ∉ X.fs := by
      intro hm
      obtain ⟨e, he, q⟩ := List.mem_filterMap.mp hm
      exact nfr (List.mem_filterMap.mpr ⟨e, List.mem_cons_of_mem _ he, q⟩)
    -- it is new
    have nI : sI.heap.get? a = none := by
      cases e : sI.heap.get? a with
      | none => rfl
      | some o =>
        have z := nb a o e (by rw [hs]; exact nfr)
        rw [show B.get? a = none from fl3.2.1] at z
        cases z
    have n0 : X.s_0.heap.get? a = none := by
      cases e : X.s_0.heap.get? a with
      | none => rfl
      | some o =>
        obtain ⟨o', z⟩ := J.base.there a o e (by rw [hex]; exact fun z => nomatch z)
        rw [nI] at z
        cases z
    have nP : ∀ p ∈ X.pn ++ pins, p.1 ≠ a := by
      intro p hp z
      have k := (J.pin p hp).1
      rw [z, nI] at k
      cases k
    have S3 := J3.suite he3 hd3 na nL nF
    refine wpAny_handleBy_cons (codeAny_handlers_test ?_) (fun q => nomatch q)
    have LT : PySem.W.Looks (model X.prog X.w) h3 (typeOf (.ref a)) (.ref C) := by
      intro A Q E s k q
      exact wpAny_typeOf_ref (k _ _ he3) (by rw [hz3.1]; exact q)
    have LM := PySem.W.exm_one (M := model X.prog X.w) (J3.kIn) LT hm
    have test : ∀ {Q E : Value → Shared → Prop}, Q c { s' with heap := h3 } → wpAny (model X.prog X.w) (X.A.mark (some (.ref a))) (eval (.Name x np) X.env) Q E { s' with heap := h3 } := by
      intro Q E q
      obtain ⟨hg, hdbg, hm⟩ := hc
      cases hm with
      | inl k => exact ld_glob (X := X.suite a ((a, oe3) :: (X.pn ++ pins))) S3 hg k q hdbg
      | inr k => exact ld_blt (X := X.suite a ((a, oe3) :: (X.pn ++ pins))) S3 hg k.1 k.2.1 q k.2.2 hdbg
    refine test (LM.here ?_)
    refine codeAny_handlers_suite_as ?_
    refine HandSPX.lands_againZ fl3 fun h4 fl4 up4 => ?_
    have J4 : Inv X pins σ' H' { s' with heap := h4 } := J.landed nb fl4.1 ((up.trans up3).trans up4) os ag
    obtain ⟨oe4, vs4, he4, hz4, hd4⟩ := fl4.there
    have S4 := J4.suite he4 hd4 na nL nF
    refine store_ok (X := X.suite a ((a, oe4) :: (X.pn ++ pins))) (v := .ref a) S4 hN hi (.inl hln) rfl (fun s5 S5 => ?_) (.inr hln)
    refine wpAny_mono ((hsu a oe4 (.ref C) d (X.pn ++ pins) hz4 ⟨_, hd4⟩).run [] s5 _ H' _ S5 (hyes a na)) (fun f s6 hsp => ?_) (fun _ _ z => False.elim z)
    cases f with
    | next =>
      obtain ⟨σ6, H6, S6, q6⟩ := hsp
      have S7 : Inv X ((a, oe4) :: pins) σ6 H6 s6 := { ok := ok, os := S6.os, bare := S6.bare, base := S6.base, loc := S6.loc, cell := S6.cell, free := S6.free, freeC := S6.freeC, hok := S6.hok, len := S6.len, pin := fun p hp => S6.pin p (by
        rcases List.mem_append.mp hp with z | z
        · exact List.mem_append_left _ (List.mem_cons_of_mem _ (List.mem_append_left _ z))
        · rcases List.mem_cons.mp z with z | z
          · rw [z]; exact List.mem_append_left _ List.mem_cons_self
          · exact List.mem_append_left _ (List.mem_cons_of_mem _ (List.mem_append_right _ z))) }
      have n6 : H6 a = none := (S7.pin (a, oe4) (List.mem_append_right _ List.mem_cons_self)).2.1
      exact gone_ok S7 hN hi hln fun s7 J7 => ⟨_, _, Inv.promote J7 hz4.1 hz4.2 ⟨_, hd4⟩ n0 nP, q6 n6⟩
    | brk =>
      obtain ⟨_, _, _, q⟩ := hsp
      exact q.elim
    | cont =>
      obtain ⟨_, _, _, q⟩ := hsp
      exact q.elim
    | ret u =>
      obtain ⟨_, _, _, _, _, q⟩ := hsp
      exact q.elim
  refine wpAny_mono run (fun f s1 hsp => ?_) (fun _ _ z => z)
  cases f with
  | next =>
    obtain ⟨σ', H', J, q⟩ := hsp
    exact wpAny_execs_nil ⟨σ', H', J.ofTry ok, q⟩
  | brk =>
    obtain ⟨σ', H', J, q⟩ := hsp
    exact ⟨σ', H', J.ofTry ok, q⟩
  | cont =>
    obtain ⟨σ', H', J, q⟩ := hsp
    exact ⟨σ', H', J.ofTry ok, q⟩
  | ret u =>
    obtain ⟨v, σ', H', J, r, q⟩ := hsp
    exact ⟨v, σ', H', J.ofTry ok, r, q⟩
end
/-! ### the def that hears -/
def restD (N : List Str) (ic : Nat) (e : PyData) : Env_ := (List.replicate N.length none).set ic (some (.d e))
def restM (F : Fns) (c : Sds) (N : List Str) (ic : Nat) (e : PyData) (h : Hh) : Ev Vv := match evalSs F c (restD N ic e) h with
  | some (.rt x h) => some (.ok x, h)
  | some (.nx _ h) => some (.ok (.d .none), h)
  | some (.ex e h) => some (.ex e, h)
  | _ => none
theorem restD_get {N : List Str} {ic i : Nat} {e : PyData} {x : Vv} (h : getS (restD N ic e) i = some x) : i = ic ∧ x = .d e := by
  rcases getS_set h with ⟨a, b, _⟩ | ⟨_, z⟩
  · exact ⟨a, b⟩
  · unfold getS at z
    rw [List.getElem?_replicate] at z
    split at z
    · rename_i w
      split at w <;> cases w
    · cases z
section
variable {Γ : Gam} {F : Fns} {P : Program} {w : World} {K : PySem.W.Frag} {T : List (Addr × Str)} {mg : Str → Option Value} {base : Heap} {k : Nat}
theorem heard_f {x a cN en B : Str} {st : Stmt} {N : List Str} {ic ie j0 : Nat} {rest : List Stmt} {c : Sds} {CB : Addr} {XS : List Str} {m : PyData → Hh → Ev Vv} {q0 q1 q2 p1 p2 p3 p4 p5 p6 p7 p8 p9 : Pos} (D : Df K mg x st []) (Sc : FnScope N [a] (defScope st))
    (hb : defBody st = .Assign [.Name cN q0] (.Constant .none j0 q1) q2 :: .Try [.Expr (.Call (.Name a p1) [] [] p2) p3] [.ExceptHandler (some (.Name B p4)) (some en) [.Assign [.Name cN p5] (.Name en p6) p7] p8] [] [] p9 :: rest) (hbind : BindAt x st [a] ⟨x, 1, []⟩ [0])
    (h0 : N[0]? = some a) (hic : N[ic]? = some cN) (hie : N[ie]? = some en) (nc : ic ≠ 0) (ne : ie ≠ 0) (nce : ic ≠ ie) (la : (defScope st).names.lookup a = some .local) (lc : (defScope st).names.lookup cN = some .local) (le : (defScope st).names.lookup en = some .local)
    (da : (a == ("__debug__" : Str)) = false) (da2 : (a == ("__classdict__" : Str)) = false) (de : (en == ("__debug__" : Str)) = false) (de2 : (en == ("__classdict__" : Str)) = false) (hB : Pl (defScope st) B) (dB : (B == ("__debug__" : Str)) = false) (hmB : mg B = some (.ref CB))
    (hX : ∀ y ∈ XS, ∀ C, PySem.W.nsIn K mainGlobals y = some (some (.ref C)) → PySem.W.exmOne K (.ref C) (.ref CB) = some true) (hc : CorSs Γ N (defScope st) rest c) (M : Md Γ F P w K T mg base k) (hz : lsNe Γ.lsc (defScope st).names.length = true)
    (hm : ∀ e h o, m e h = some o → (e = .none ∨ ∃ y ds, e = .dict ((.none, .str y) :: ds) ∧ y ∈ XS) ∧ restM F c N ic e h = some o)
    (sw1 : ∀ env, swapsWith (.Constant .none j0 q1) (some (.Name cN q0)) q2.line env = pure false) (sw2 : ∀ env, swapsWith (.Name en p6) (some (.Name cN p5)) p7.line env = pure false) (sw3 : ∀ env, swapsWith (.Call (.Name a p1) [] [] p2) none p3.line env = pure false) : HeardF P w K T mg base k x m := by
  obtain ⟨g, fd, hmg, Fu⟩ := D.ex
  have kp := Fu.kp
  obtain ⟨oc, od, dV, kV, doc, pmv, an, cdv, ct, osl, rfl, lk, hcd, hdv⟩ := Fu.ex
  have dn : dV = .none := by
    rcases hdv with ⟨_, e⟩ | ⟨nn, _⟩
    · exact e
    · exact absurd rfl nn
  subst dn
  refine ⟨g, hmg, kp, fun A outer s H1 f W h r h2 rr h3 Q E hr hg e0 hf hfn hfr R lam em post => ?_⟩
  obtain ⟨hcls, em⟩ := hm _ _ _ em
  refine LamX.run_ofS (CX := L2.CX P w) (N := N) (ps := [a]) (us := [.ref f]) (vs := [.ref f]) lk hcd Sc hr e0 (.of_eq (hbind kV doc pmv an cdv ct [.ref f] [] rfl rfl)) (.cons rfl .nil) rfl fun hr' => ?_
  have okZ := okS_of (qual := x) (f := g) (cdv := cdv) (outer := outer) (s := s) (H := H1) (E := E) Sc M (hr'.mono (Nat.le_succ k)) hg (fun n e z => (lsNe_of hz n e z).elim)
  generalize hZ : cxOf (L2.CX P w) P w K mg base N x (defScope st) g cdv A outer s H1 E = Z at okZ ⊢
  refine ⟨_, pss_w, ?_⟩
  have len0 : (start N [V.ref f]).length = N.length := by
    unfold L2.start
    have : 1 ≤ N.length := (List.getElem?_eq_some_iff.mp h0).1
    simp only [List.length_append, List.length_map, List.length_replicate, List.length_cons, List.length_nil]
    omega
  have lic : ic < N.length := (List.getElem?_eq_some_iff.mp hic).1
  -- the rest, in whatever world
  have fin : ∀ (W' : Wd) (H' : Hp) (σ' : L2.St) (e : PyData) (v : V), Rel K T W H1 W' H' [] [] h2 → e = errOf r → σ'.length = N.length → σ'[ic]? = some (some v) → Dv K W'.B v e → wSs Z rest { nx := fun _ H' => Q .non H', rt := Q } σ' H' := by
    intro W' H' σ' e v R' ee l1 l2 dv
    have RR : Rel K T W H1 W' H' σ' (restD N ic e) h2 := { R' with
      len := by unfold restD; rw [l1, List.length_set, List.length_replicate]
      sl := fun i y z => by
        obtain ⟨rfl, rfl⟩ := restD_get z
        exact ⟨v, l2, dv⟩ }
    subst ee
    unfold restM at em
    cases ev : evalSs F c (restD N ic (errOf r)) h2 with
    | none => rw [ev] at em; cases em
    | some out =>
      rw [ev] at em
      subst hZ
      refine soundSs hc _ okZ rfl _ (takes_of rfl rfl rfl rfl) _ _ _ _ _ _ _ _ RR ev _ ?_
      cases out with
      | rt y h4 =>
        cases em
        exact fun u σ'' δ' W2 H2 R2 l r => post W2 H2 R2.bare u r
      | nx δ1 h4 =>
        cases em
        exact fun σ'' W2 H2 R2 l => post W2 H2 R2.bare .non .non
      | ex ee h4 =>
        cases em
        exact fun cls d σ'' δ' W2 H2 R2 l y => post W2 H2 R2.bare cls d y
      | bk δ1 h4 => cases em
      | ct δ1 h4 => cases em
  rw [hb]
  subst hZ
  -- the call in the suite
  have act : ∀ (Wx : WX) (pn : List (Addr × Obj)) (xe : Value → Shared → Prop), Takes ((cxOf (L2.CX P w) P w K mg base N x (defScope st) g cdv A outer s H1 E).tr pn xe) Wx →
      PE ((cxOf (L2.CX P w) P w K mg base N x (defScope st) g cdv A outer s H1 E).tr pn xe) (.Call (.Name a p1) [] [] p2) fun σZ HZ Q' => σZ[0]? = some (some (.ref f)) ∧ ∃ WZ, Rel K T W H1 WZ HZ [] [] h ∧ ∀ W' H', Rel K T WZ HZ W' H' [] [] h2 → PostR K r Q' (fun cls d H' => Wx cls d σZ H') W' H' := by
    intro Wx pn xe tk
    refine ⟨fun pinsZ sZ σZ HZ Q' IZ hh => ?_⟩
    obtain ⟨z0, WZ, RZ, pz⟩ := hh
    refine wpAny_Call_Name_kw (thn ((pe_var (pos := p1) (i := 0) h0 (.inl la) da da2).run pinsZ sZ σZ HZ (fun v H2 => v = .ref f ∧ H2 = HZ) IZ ⟨.ref f, z0, rfl, rfl⟩) fun u s1 hu => ?_)
    obtain ⟨v, H2, I1, r1, rfl, rfl⟩ := hu
    obtain rfl : u = Value.ref f := r1
    have un : Un (frs outer) [] H1 H2 s.heap s1.heap := I1.base
    obtain ⟨o1, o2, o3, o4, of0⟩ := hf
    have of1 : PySem.W.FnAt f s1.heap := ⟨o1, o2, o3, o4, un.keep f _ of0 hfn hfr (fun z => nomatch z)⟩
    refine PySem.W.callWith_F0 of1 ?_
    have rc := lam (A.deeper (envOfC x (defScope st) s.heap.objs.size g cdv)) (envOfC x (defScope st) s.heap.objs.size g cdv :: outer) s1 H2 WZ Q' (fun cls d H' => Wx cls d σZ H') hr' hg I1.env0 un RZ pz
    refine wpAny_call (codeAny_mono rc fun res s2 hq => ?_)
    cases res with
    | error er => exact tk _ _ (XE.of_call I1 (fun cls d H' z => z) hq)
    | ok fl =>
      cases fl with
      | ret u => exact I1.after hq
      | next => exact hq.elim
      | brk => exact hq.elim
      | cont => exact hq.elim
  refine w_pss (pss_cons (ps_set (i := ic) Sc.nd hic (.inl lc) pe_non (sw1 _) (.inl rfl)) (pss_cons (ps_try_keep (c := .ref CB) (i := ie) (ts := fun a cls d => tSeq (tAsg (tVar ie) (gName ic)) tNext) rfl rfl rfl Sc.nd hie le ⟨hB, dB, .inl hmB⟩
    (fun Wx pn xe tk _ => pss_one (ps_expr (act Wx pn xe tk) (sw3 _))) (fun a oe cls d pn _ _ => pss_cons (ps_set (i := ic) Sc.nd hic (.inl lc) (pe_var hie (.inl le) de de2) (sw2 _) (.inl rfl)) pss_nil)) pss_w)) ?_
  refine ⟨?_, W, R, fun W' H' R' => ?_⟩
  · rw [List.getElem?_set_ne nc]
    exact start_get rfl
  · cases r with
    | ok y =>
      intro v rv
      refine fin W' H' _ .none .non R' rfl ?_ ?_ .non
      · rw [List.length_set]; exact len0
      · exact List.getElem?_set_self (by rw [len0]; exact lic)
    | ex e =>
      intro cls d xx
      obtain ⟨y, C, dd, fs, ds, rfl, rfl, hn, rfl, hdd, hds⟩ := xx
      have hy : y ∈ XS := by
        rcases hcls with z | ⟨y', ds', z, hy⟩
        · cases z
        · cases z
          exact hy
      refine ⟨C, rfl, hX y hy C hn, fun a na => ?_⟩
      have lie : ie < N.length := (List.getElem?_eq_some_iff.mp hie).1
      refine ⟨.ref a, ?_, ?_⟩
      · exact List.getElem?_set_self (by rw [List.length_set, len0]; exact lie)
      · intro na2
        obtain ⟨R2, l2⟩ := R'.alloc (o := kexo a C (some dd)) na (fun ps z => by cases z)
        refine fin _ _ _ _ (.ref a) R2 rfl ?_ ?_ (.exc hn upd_same (l2.b _ _ hdd) (hds.mono l2.b))
        · simp only [List.length_set]; exact len0
        · rw [List.getElem?_set_ne (fun z => nce z.symm)]
          exact List.getElem?_set_self (by simp only [List.length_set]; rw [len0]; exact lic)
end
end Nv


set_option Elab.async false
set_option linter.all false
set_option maxRecDepth 100000
set_option maxHeartbeats 8000000
/-! The end of a law row with tables of code objects; the law's def. -/
namespace Nv
open PySem PySem.Spec PyProof.Rows L2
/-- nothing is known but the tables, empty, and frozen lists -/
def OnlyT (ts : List Addr) (H : Hp) : Prop := (∀ b, H b = none ∨ (b ∈ ts ∧ H b = some (.tbl #[])) ∨ ∃ o xs, H b = some (.frz o (.lst xs))) ∧ ∀ b ∈ ts, H b = some (.tbl #[])
/-- the law's call at the end of the top -/
theorem law_gT {P : Program} {w : World} {K : PySem.W.Frag} {mg mb : Str → Option Value} {CX : CXT}
    {k : Nat} {fa a : Addr} {fd : FuncData} {x : Str} {sp : Sp} {s0 : Shared} {cs : List (Addr × Addr)} {vs : List Value} {ns : List Int}
    (kin : K.In s0.heap) (nsg : s0.heap.Ns mainGlobals mg) (nsb : s0.heap.Ns builtinsNs mb)
    (bb : ∀ y : Str, y ≠ "__name__" → mb y = bootBuiltins y) (lim : s0.heap.NoLimit) (gens : s0.gens = #[])
    (ha : s0.heap.get? a = some { cls := .type "list", data := .seq vs.toArray }) (hints : IntsAre vs ns)
    (line : ns.length ≤ sizeLine) (room : Room k callerA)
    (hT : ∀ p ∈ cs, s0.heap.get? p.2 = some { cls := .none, data := .fields #[] }) (nT : ∀ p ∈ cs, K.lookup p.2 = none) (hC : ∀ p ∈ cs, PySem.W.CodeHd s0.heap p.1 p.2)
    (hbm : ∃ (bm : Addr) (ob : Obj), mg "__builtins__" = some (.ref bm) ∧ bm ≠ builtinsNs ∧ s0.heap.get? bm = some ob ∧ ob.cls = .type "module" ∧ ob.dict = some builtinsNs ∧ ob.data = .plain)
    (F : ∀ base : Heap, K.In base → base.Ns mainGlobals mg → (∀ p ∈ cs, LamX.TabB base mg p.1 p.2) → FG P w K mg base CX k fa fd [x] sp)
    (bind : ∀ (s : Shared) (u : Value), BindsTo s fd ⟨[u], []⟩ [(x, u)])
    (hsp : ∀ H : Hp, OnlyT (cs.map (·.2)) H → SqL K H a (ns.map V.int) → sp [.ref a] H (fun v _ => v = .bl true) fun _ _ _ => False)
    (hCX : ∀ H e s', CX [] H s0 (fun _ _ _ => False) e s' → False) :
    codeAny (model P w) callerA (.call (.ref fa) ⟨[.ref a], []⟩)
      (fun r s' => r = .ok (.ret (.bool true)) ∧ OldK s0.heap s'.heap ∧ s'.os = s0.os ∧ AllBare s'.gens) s0 := by
  have vals := vals_ints hints
  have ilen := hints.length
  suffices core : ∀ H : Hp, OnlyT (cs.map (·.2)) H → SqL K H a (ns.map V.int) → HOk P w H s0.heap → (∀ b, H b ≠ none → b = a ∨ b ∈ cs.map (·.2)) →
      (H a ≠ none → K.lookup a = none) → codeAny (model P w) callerA (.call (.ref fa) ⟨[.ref a], []⟩)
        (fun r s' => r = .ok (.ret (.bool true)) ∧ OldK s0.heap s'.heap ∧ s'.os = s0.os ∧ AllBare s'.gens) s0 by
    have tb : ∀ b ∈ cs.map (·.2), s0.heap.get? b = some { cls := .none, data := .fields #[] } := by
      intro b hb
      obtain ⟨p, hp, rfl⟩ := List.mem_map.mp hb
      exact hT p hp
    have na : a ∉ cs.map (·.2) := by
      intro z
      have q := tb a z
      rw [ha] at q
      exact nomatch (show Data.seq vs.toArray _ = Data.fields #[] from congrArg Obj.data (Option.some.inj q))
    cases lk : K.lookup a with
    | some o =>
      have e := kin a o lk
      rw [ha] at e
      cases e
      have at_ : ∀ {b : Addr}, b ∈ cs.map (·.2) → (fun b : Addr => if b ∈ cs.map (·.2) then some (HO.tbl #[]) else none) b = some (.tbl #[]) := fun h => if_pos h
      apply core (fun b => if b ∈ cs.map (·.2) then some (.tbl #[]) else none)
      · refine ⟨fun b => ?_, fun b hb => if_pos hb⟩
        by_cases hb : b ∈ cs.map (·.2)
        · exact .inr (.inl ⟨hb, if_pos hb⟩)
        · exact .inl (if_neg hb)
      · exact .inr ⟨_, vs.toArray, _, lk, rfl, rfl, rfl, by rw [List.size_toArray, ilen]; exact line, by simpa using vals⟩
      · intro b u z
        by_cases hb : b ∈ cs.map (·.2)
        · cases (if_pos hb).symm.trans z
          exact tb b hb
        · cases (if_neg hb).symm.trans z
      · intro b z
        by_cases hb : b ∈ cs.map (·.2)
        · exact .inr hb
        · exact absurd (if_neg hb) z
      · intro z; exact absurd (if_neg na) z
    | none =>
      apply core (fun b => if b = a then some (.frz { cls := .type "list", data := .seq vs.toArray } (.lst (ns.map V.int))) else if b ∈ cs.map (·.2) then some (.tbl #[]) else none)
      · refine ⟨fun b => ?_, fun b hb => (if_neg (fun z => na (by rw [← z]; exact hb))).trans (if_pos hb)⟩
        by_cases hb : b = a
        · exact .inr (.inr ⟨_, _, if_pos hb⟩)
        · by_cases h2 : b ∈ cs.map (·.2)
          · exact .inr (.inl ⟨h2, (if_neg hb).trans (if_pos h2)⟩)
          · exact .inl ((if_neg hb).trans (if_neg h2))
      · exact .inl (.inr ⟨{ cls := .type "list", data := .seq vs.toArray }, if_pos rfl⟩)
      · intro b u z
        by_cases hb : b = a
        · replace z := (if_pos hb).symm.trans z
          cases z
          subst hb
          exact ⟨ha, by rw [List.length_map]; exact line, vs, _, vals, ha⟩
        · replace z := (if_neg hb).symm.trans z
          by_cases h2 : b ∈ cs.map (·.2)
          · cases (if_pos h2).symm.trans z
            exact tb b h2
          · cases (if_neg h2).symm.trans z
      · intro b z
        by_cases hb : b = a
        · exact .inl hb
        · by_cases h2 : b ∈ cs.map (·.2)
          · exact .inr h2
          · exact absurd ((if_neg hb).trans (if_neg h2)) z
      · exact fun _ => lk
  intro H only seq hok hA hK
  have hid : ∀ {b : Addr} {o : Obj}, s0.heap.get? b = some o → H b = none → (hidT s0.heap H).get? b = some o :=
    fun e n => hidT_get e n
  have tb : ∀ b ∈ cs.map (·.2), s0.heap.get? b = some { cls := .none, data := .fields #[] } := by
    intro b hb
    obtain ⟨p, hp, rfl⟩ := List.mem_map.mp hb
    exact hT p hp
  have freeD : ∀ {b : Addr} {o : Obj}, s0.heap.get? b = some o → (∀ vs n, o.data ≠ .seq vs n) → o.data ≠ .fields #[] → H b = none := by
    intro b o e n1 n2
    cases q : H b with
    | none => rfl
    | some u =>
      cases hA b (by rw [q]; simp) with
      | inl z =>
        subst z
        rw [ha] at e
        cases e
        exact absurd rfl (n1 _ _)
      | inr z =>
        rw [tb b z] at e
        cases e
        exact absurd rfl n2
  have dictFree : ∀ {b : Addr} {o : Obj} {es : Array DictEntry} {ep : Nat},
      s0.heap.get? b = some o → o.data = .dict es ep → H b = none := by
    intro b o es ep e d
    exact freeD e (fun vs n z => by rw [d] at z; cases z) (fun z => by rw [d] at z; cases z)
  have nsHid : ∀ {b : Addr} {m : Str → Option Value}, s0.heap.Ns b m → (hidT s0.heap H).Ns b m := by
    intro b m ⟨o, es, ep, e, d, r⟩
    exact ⟨o, es, ep, hid e (dictFree e d), d, r⟩
  have kinHid : K.In (hidT s0.heap H) := by
    intro b o e
    apply hid (kin b o e)
    cases q : H b with
    | none => rfl
    | some u =>
      cases hA b (by rw [q]; simp) with
      | inl z =>
        subst z
        rw [hK (by rw [q]; simp)] at e
        cases e
      | inr z =>
        obtain ⟨p, hp, rfl⟩ := List.mem_map.mp z
        rw [nT p hp] at e
        cases e
  have modHid : Mod K mg (hidT s0.heap H) := by
    refine ⟨kinHid, nsHid nsg, ⟨mb, nsHid nsb, bb⟩, ?_⟩
    obtain ⟨mc, h1, h2⟩ := lim
    exact ⟨mc, nsHid h1, h2⟩
  have env0 : Env0 P w K mg (hidT s0.heap H) callerA [] s0 H :=
    ⟨rfl, modHid, fun b o e => of_hidT e, Nat.le_of_eq (hidT_size _ _), trivial, fun b hb => (by cases hb), hok, AllBare.of_eq gens⟩
  have TB : ∀ p ∈ cs, LamX.TabB (hidT s0.heap H) mg p.1 p.2 := by
    intro p hp
    have tp := hT p hp
    refine ⟨?_, ?_, ?_⟩
    · obtain ⟨o, us, file, tf, flags, tg, inF, text, tt, e1, r1, r2, r3, r4⟩ := hC p hp
      refine ⟨o, us, file, tf, flags, tg, inF, text, tt, hid e1 (freeD e1 (fun vs n z => by rw [r2] at z; cases z) (fun z => ?_)), r1, r2, r3, r4⟩
      rw [r2] at z
      cases z
      simp at r3
    · obtain ⟨bm, ob, b1, b2, b3, b4, b5, b6⟩ := hbm
      refine ⟨bm, ob, b1, b2, ?_, ?_, hid b3 (freeD b3 (fun vs n z => by rw [b6] at z; cases z) (fun z => by rw [b6] at z; cases z)), b4, b5, b6⟩
      · intro q
        obtain ⟨o, es, ep, e, hd, _⟩ := nsg
        rw [q, e] at b3
        cases b3
        rw [hd] at b6
        cases b6
      · intro q
        rw [q, tp] at b3
        cases b3
        cases b6
    · intro z
      obtain ⟨o, es, ep, e, hd, _⟩ := nsg
      rw [z, tp] at e
      cases e
      cases hd
  have R := (F _ kinHid (nsHid nsg) TB).run callerA [] s0 H ⟨[.ref a], []⟩ [.ref a] [.ref a] _ _ room rfl env0
    (bind s0 (.ref a)) (.cons rfl .nil) (hsp H only seq)
  refine codeAny_mono R fun r s' h => ?_
  match r, h with
  | .error e, h => exact (hCX H e s' h).elim
  | .ok (.ret u), h =>
    obtain ⟨v, H', os, bare, un, hok', rv, q⟩ := h
    cases (show v = .bl true from q)
    cases (show u = Value.bool true from rv)
    have key : ∀ b o, b ∉ cs.map (·.2) → s0.heap.get? b = some o → s'.heap.get? b = some o := by
      intro b o nb e
      cases q : H b with
      | none => exact un.keep b o e q (fun z => nomatch z) (fun z => nomatch z)
      | some u =>
        rcases only.1 b with z | ⟨z, _⟩ | ⟨ob, xs, z⟩
        · rw [q] at z; cases z
        · exact absurd z nb
        · have z2 := un.frzs b ob _ z
          obtain ⟨e1, _⟩ := hok b _ z
          obtain ⟨e2, _⟩ := hok' b _ z2
          rw [e] at e1
          cases e1
          exact e2
    have more : ∀ p ∈ cs, ∃ m : Array Value, s'.heap.get? p.2 = some { cls := .none, data := .fields m } := by
      intro p hp
      obtain ⟨m, z⟩ := un.tbls p.2 #[] (only.2 _ (List.mem_map.mpr ⟨p, hp, rfl⟩))
      exact ⟨_, hok' p.2 _ z⟩
    refine ⟨rfl, ⟨fun b o e => ?_, fun b o e => ?_⟩, os, bare⟩
    · by_cases hb : b ∈ cs.map (·.2)
      · obtain ⟨p, hp, rfl⟩ := List.mem_map.mp hb
        obtain ⟨m, hm⟩ := more p hp
        rw [hT p hp] at e
        cases e
        exact .inr (.inl ⟨((hC p hp).tab (hT p hp)).isCodeTable, rfl, #[], m, rfl, by rw [Array.empty_append]; exact hm⟩)
      · exact .inl (key b o hb e)
    · by_cases hb : b ∈ cs.map (·.2)
      · obtain ⟨p, hp, rfl⟩ := List.mem_map.mp hb
        obtain ⟨m, hm⟩ := more p hp
        exact ⟨_, hm⟩
      · exact ⟨o, key b o hb e⟩

/-- the walk of a law row, with tables of code objects -/
theorem walk_gT {l : PySem.W.OpenLaw} {n k : Nat} {q : Program} {loose : List Str}
    {XP : (Str → Option Value) → Heap → Prop} {YP : World → Heap → Prop} {d : DefRec} {K : Params → PySem.W.Frag}
    {CX : World → CXT} {x : Str}
    (hn : l.most = some n) (hn2 : n ≤ sizeLine) (hdf : d.params.defaults = []) (room : Room k callerA)
    (hY : ∀ (w : World) (h : Heap), YP w h → (K w.params).In h)
    (F : ∀ (w : World) (mg : Str → Option Value) (fa : Addr) (h : Heap), YP w h → (K w.params).In h → h.Ns mainGlobals mg → mg d.name = some (.ref fa) → ∃ (fd : FuncData) (cs : List (Addr × Addr)) (sp : Sp),
      (∀ p ∈ cs, h.get? p.2 = some { cls := .none, data := .fields #[] }) ∧ (∀ p ∈ cs, (K w.params).lookup p.2 = none) ∧ (∀ p ∈ cs, PySem.W.CodeHd h p.1 p.2) ∧ (∀ (s : Shared) (u : Value), BindsTo s fd ⟨[u], []⟩ [(x, u)]) ∧
        (∀ (H : Hp) (a : Addr) (ns : List Int), ns.length ≤ n → (∀ z ∈ ns, Builtin.Int.intBits z ≤ 1048576) → OnlyT (cs.map (·.2)) H → SqL (K w.params) H a (ns.map V.int) → sp [.ref a] H (fun v _ => v = .bl true) fun _ _ _ => False) ∧
        ∀ base : Heap, (K w.params).In base → base.Ns mainGlobals mg → (∀ p ∈ cs, LamX.TabB base mg p.1 p.2) → FG l.prog w (K w.params) mg base (CX w) k fa fd [x] sp)
    (hCX : ∀ (w : World) (H : Hp) (s : Shared) (e : Value) (s' : Shared), CX w [] H s (fun _ _ _ => False) e s' → False) :
    PySem.W.WalkO q loose XP YP l.row.toRowW d [] (fun f vs => PySem.call f vs) := by
  refine Att.attach_callB hn hdf fun w t0 t1 mg mb fa o pm cd doc a vs ns G Y ho hd hcd hmg hobj hints hlen hbits hg => ?_
  have kin := hY w _ Y
  obtain ⟨fd, cs, sp, hT, nT, hC, hb, hsp, hF⟩ := F w mg fa _ Y kin G.T.g hmg
  exact law_gT kin G.T.g G.T.b G.T.builtins G.T.nolimit hg hobj hints (Nat.le_trans hlen hn2) room hT nT hC G.T.bmain hF hb
    (fun H hO hS => hsp H a ns hlen hbits hO hS) fun H e t => hCX w H t1 e t
end Nv


set_option Elab.async false
set_option linter.all false
set_option maxRecDepth 100000
set_option maxHeartbeats 8000000
/-! The law's def: its pen, its rest by its code. -/
namespace Nv
open PySem PySem.Spec PyProof.Rows L2
def n_pen : List Str := ["script", "cell"]
/-- the text of what makes the pen -/
structure PenTxt (st : Stmt) : Prop where
  sc : FnScope n_pen ["script"] (defScope st)
  ls : (defScope st).names.lookup ("script" : Str) = some .local
  ex : ∃ (scope : Scope) (j j1 j2 : Nat) (p1 p2 p3 p4 p5 p6 p7 p8 p9 p10 p11 p12 p13 : Pos),
    defBody st = [.Return (some (.List [.ListComp (.Call (.Name "int" p1) [.Name "cell" p2] [] p3) [⟨.Name "cell" p4, .Subscript (.Name "script" p5) (.Slice none (some (.Constant (.int 63) j p6)) none p7) p8, [], 0⟩] scope p9, .Constant (.int 0) j1 p10, .Constant (.int 0) j2 p11] p12)) p13] ∧
    BlkOk n_pen (defScope st) scope [("cell", 1)] ∧ (relS scope (defScope st)).names.lookup ("cell" : Str) = some .local ∧ (relS scope (defScope st)).names.lookup ("int" : Str) = some .globalImplicit
def spPen (K : PySem.W.Frag) : Sp := fun vs H Q _ => ∃ (a : Addr) (ns : List Int), vs = [.ref a] ∧ SqL K H a (ns.map V.int) ∧ ns.length ≤ 63 ∧
  ∀ q p H', H q = none → H p = none → p ≠ q → Same H H' → H' q = some (.lst (ns.map V.int)) → H' p = some (.lst [.ref q, .int 0, .int 0]) → Q (.ref p) H'
theorem pen_ok {P : Program} {w : World} {K : PySem.W.Frag} {mg : Str → Option Value} {base : Heap} {st : Stmt} {x : Str} {f : Addr} {fd : FuncData} (Fu : FunN K x x st [] f fd) (Tx : PenTxt st) (mi : mg "int" = none) : FG P w K mg base (L2.CX P w) 1 f fd ["script"] (spPen K) := by
  refine fg_raw Fu Tx.sc (fun vs H Q E h => ?_) fun cdv A outer s H vs Q E hr hg h => ?_
  · obtain ⟨a, ns, rfl, _⟩ := h
    rfl
  · obtain ⟨a, ns, rfl, hS, hl, k⟩ := h
    obtain ⟨scope, j, j1, j2, p1, p2, p3, p4, p5, p6, p7, p8, p9, p10, p11, p12, p13, hb, blk, lc, gi⟩ := Tx.ex
    rw [hb]
    refine ⟨_, pss_one (ps_ret (pe_lst (pa_cons (pe_lc (own := [("cell", 1)]) rfl Tx.sc.nd (pi_list (pe_slice sl_list (pe_var (i := 0) rfl (.inl Tx.ls)) po_none (po_some pe_int))) blk
      (fun s H' C cl fp => pg_name (i := 1) Tx.sc.nd rfl (.inl lc) (.inr lc)) (fun _ _ _ _ _ => pts_nil)
      (fun s H' C cl fp => pe_callTy call_int1 gi mi PyProof.Rows.boot_int (pa_cons (pe_var (i := 1) rfl (.inl lc)) pa_nil))) (pa_cons pe_int (pa_cons pe_int pa_nil))))), ?_⟩
    refine ⟨.ref a, rfl, 63, rfl, a, _, rfl, hS, fun p hp => ⟨p, rfl, ⟨_, .of upd_same⟩, fun D hD => ?_⟩⟩
    have all : cutV (ns.map V.int) none (some 63) = ns.map V.int := by
      rw [cut_upto _ (by decide)]
      exact List.take_of_length_le (by simpa using hl)
    rw [all] at hD ⊢
    have np : D ≠ p := by
      intro z
      subst z
      rw [upd_same] at hD
      cases hD
    have hD0 : H D = none := by rw [upd_ne np] at hD; exact hD
    refine lc_list (K := K) (a := p) (xs := ns.map V.int) (fun i H' => H' D = some (.lst ((ns.map V.int).take i)) ∧ Same H H' ∧ H' p = some (.lst (ns.map V.int))) ⟨upd_same, fun b o hb => ?_, ?_⟩ (fun i H' _ h => .of h.2.2) ?_ ?_
    · rw [upd_ne (ne_of_none hb hD0), upd_ne (ne_of_none hb hp)]
      exact hb
    · rw [upd_ne np.symm, upd_same]
    · rintro i y H' hx ⟨h1, h2, h3⟩
      obtain ⟨n, _, rfl⟩ : ∃ n, n ∈ ns ∧ V.int n = y := by
        have := List.mem_of_getElem? hx
        simpa using this
      have hil : i < (ns.map V.int).length := (List.getElem?_eq_some_iff.mp hx).1
      refine ⟨rfl, _, rfl, .inl ⟨n, rfl, _, h1, ?_, ?_, fun b o hb => ?_, ?_⟩⟩
      · rw [List.length_take]
        have : (ns.map V.int).length ≤ 63 := by simpa using hl
        unfold sizeLine
        omega
      · rw [upd_same, List.take_add_one, hx]
        rfl
      · rw [upd_ne (ne_of_none hb hD0)]
        exact h2 b o hb
      · rw [upd_ne np.symm]
        exact h3
    · rintro H' ⟨h1, h2, h3⟩
      refine ⟨(by show 3 ≤ sizeLine; decide), fun P hP => ?_⟩
      have nPD : P ≠ D := by
        intro z; subst z; rw [h1] at hP; cases hP
      refine k D P _ hD0 ?_ nPD (fun b o hb => ?_) ?_ upd_same
      · cases e : H P with
        | none => rfl
        | some o => rw [h2 P o e] at hP; cases hP
      · rw [upd_ne (ne_of_none (h2 b o hb) hP)]
        exact h2 b o hb
      · rw [upd_ne nPD.symm, h1, List.take_of_length_le (Nat.le_refl _)]
/-- what is known at the law's call -/
def spLaw (K : PySem.W.Frag) (ts : List Addr) : Sp := fun vs H Q _ => ∃ (a : Addr) (ns : List Int), vs = [.ref a] ∧ SqL K H a (ns.map V.int) ∧ ns.length ≤ 63 ∧ (∀ z ∈ ns, Builtin.Int.intBits z ≤ 1048576) ∧ OnlyT ts H ∧ ∀ H', Q (.bl true) H'
theorem dvl_ints {K : PySem.W.Frag} {B : Hp} : ∀ ns : List Int, DvL K B (ns.map V.int) (ns.map .int)
  | [] => .nil
  | n :: ns => .cons (.int n) (dvl_ints ns)
def pen0 (ns : List Int) : Ob := .lst [.d (.list (ns.map .int)), .d (.int 0), .d (.int 0)]
def lawD (N : List Str) (ip : Nat) : Env_ := (List.replicate N.length none).set ip (some (.r 0))
theorem rel_pen {K : PySem.W.Frag} {T : List (Addr × Str)} {H : Hp} {p q ip : Nat} {N : List Str} {ns : List Int} {a : V} (npq : p ≠ q) (hq : H q = some (.lst (ns.map V.int))) (hp : H p = some (.lst [.ref q, .int 0, .int 0])) (tb : LamX.Tabs T H) (lN : 1 ≤ N.length) (li : ip < N.length) :
    Rel K T ⟨fun b => if b = q then some (.lst (ns.map V.int)) else none, [p]⟩ H ⟨fun b => if b = q then some (.lst (ns.map V.int)) else none, [p]⟩ H ((start N [a]).set ip (some (.ref p))) (lawD N ip) [pen0 ns] := by
  have at_ : ∀ {b : Addr} {o : HO}, (fun b : Addr => if b = q then some (HO.lst (ns.map V.int)) else none) b = some o → b = q ∧ o = .lst (ns.map V.int) := fun {b o} e => by
    by_cases z : b = q
    · cases (if_pos z).symm.trans e
      exact ⟨z, rfl⟩
    · cases (if_neg z).symm.trans e
  have len0 : (start N [a]).length = N.length := by
    unfold L2.start
    simp only [List.length_append, List.length_map, List.length_replicate, List.length_cons, List.length_nil]
    omega
  exact {
    fr := .refl _ _
    tl := fun b ps q z => by rw [q] at z; cases z
    ext := fun b o e => by obtain ⟨rfl, rfl⟩ := at_ e; exact hq
    up := Wd.Le.refl _
    new := fun a o e => .inl ⟨o, e⟩
    fsh := fun a ha => .inl ha
    len := by unfold lawD; simp only [List.length_set, List.length_replicate]; exact len0
    sl := fun i x e => by
      rcases getS_set e with ⟨rfl, rfl, _⟩ | ⟨_, z⟩
      · exact ⟨.ref p, List.getElem?_set_self (by rw [len0]; exact li), p, rfl, rfl⟩
      · unfold getS at z
        rw [List.getElem?_replicate] at z
        split at z
        · rename_i w
          split at w <;> cases w
        · cases z
    hl := rfl
    cell := fun n o b e1 e2 => by
      match n with
      | 0 =>
        cases e1
        cases e2
        exact ⟨if_neg npq, _, hp, .cons (.lst (if_pos rfl) (dvl_ints ns)) (.cons (.int 0) (.cons (.int 0) .nil))⟩
      | n + 1 => cases e1
    nd := by simp
    ev := fun b hb => by
      cases List.mem_singleton.mp hb
      exact ⟨_, hp, pln_lst⟩
    tb := tb
    nt := fun b o e ps z => by
      obtain ⟨_, rfl⟩ := at_ e
      cases z }
section
variable {Γ : Gam} {F : Fns} {P : Program} {w : World} {K : PySem.W.Frag} {T : List (Addr × Str)} {mg : Str → Option Value} {base : Heap} {k : Nat}
theorem fg_lawT {lw : Str} {st s_pen : Stmt} {N : List Str} {ip : Nat} {rest : List Stmt} {c : Sds} {f cA : Addr} {q0 q1 q2 q3 q4 : Pos} {oc kV doc pm ct : Value} {od an : Option Addr} {osl : Array (Option Value)} (lk : K.lookup f = some ⟨oc, od, .func (PySem.W.fnOf lw lw (defArgs st) (defBody st) (defScope st) .none kV doc pm an (.ref cA) ct), osl⟩)
    (hcd : PySem.W.codeIn K (.ref cA) lw = true) (hkp : PySem.W.keepIn K (.ref f) = true) (Sc : FnScope N ["script"] (defScope st)) (hb : defBody st = .Assign [.Name "pen" q0] (.Call (.Name "_law_pen" q1) [.Name "script" q2] [] q3) q4 :: rest)
    (h0 : N[0]? = some ("script" : Str)) (hip : N[ip]? = some ("pen" : Str)) (ls : (defScope st).names.lookup ("script" : Str) = some .local) (lp : (defScope st).names.lookup ("pen" : Str) = some .local) (gp : Pl (defScope st) "_law_pen") (D : Df K mg "_law_pen" s_pen []) (Tx : PenTxt s_pen)
    (bp : ∀ (kV doc pm : Value) (an : Option Addr) (cdv ct : Value) (u : Value), bindArgs (PySem.W.fnOf "_law_pen" "_law_pen" (defArgs s_pen) (defBody s_pen) (defScope s_pen) .none kV doc pm an cdv ct) ⟨[u], []⟩ = pure [(("script" : Str), u)]) (mi : mg "int" = none)
    (sw : ∀ env, swapsWith (.Call (.Name "_law_pen" q1) [.Name "script" q2] [] q3) (some (.Name "pen" q0)) q4.line env = pure false)
    (hc : CorSs Γ N (defScope st) rest c) (M : Md Γ F P w K T mg base k) (hl : ∀ n, Γ.lsc = some n → ∃ Pt, LamX.TabB base mg cA Pt ∧ (Pt, (lw ++ ".<locals>.") ++ "<lambda>") ∈ T ∧ ∀ p ∈ T, p.1 = Pt → p.2 = (lw ++ ".<locals>.") ++ "<lambda>")
    (plain : ∀ ns : List Int, ns.length ≤ 63 → (∀ z ∈ ns, Builtin.Int.intBits z ≤ 1048576) → ∃ h', evalSs F c (lawD N ip) [pen0 ns] = some (.rt (.d (.bool true)) h')) (hk : 1 ≤ k) :
    FG P w K mg base (L2.CX P w) (k + 3) f (PySem.W.fnOf lw lw (defArgs st) (defBody st) (defScope st) .none kV doc pm an (.ref cA) ct) ["script"] (spLaw K (T.map (·.1))) := by
  refine ⟨fun vs H Q E h => ?_, fun A outer s H args us vs Q E room guards env bt vals hsp => ?_⟩
  · obtain ⟨a, ns, rfl, _⟩ := h
    rfl
  · obtain ⟨a, ns, rfl, hS, hlen, hbits, only, kq⟩ := hsp
    cases vals with
    | cons hv hr0 =>
    cases hr0
    rename_i u
    obtain ⟨fp, fdp, mp, Fp⟩ := D.ex
    have GP := pen_ok (P := P) (w := w) (base := base) Fp Tx mi
    have kpP := Fp.kp
    obtain ⟨oc', od', dV', kV', doc', pm', an', cdv', ct', osl', rfl, lk', hcd', hdv'⟩ := Fp.ex
    have dn : dV' = .none := by
      rcases hdv' with ⟨_, e⟩ | ⟨nn, _⟩
      · exact e
      · exact absurd rfl nn
    subst dn
    refine LamX.run_ofS (CX := L2.CX P w) (N := N) (ps := ["script"]) (us := [u]) (vs := [.ref a]) lk hcd Sc room env bt (.cons hv .nil) rfl fun hr => ?_
    have okZ := okS_of (qual := lw) (f := f) (cdv := .ref cA) (outer := outer) (s := s) (H := H) (E := E) Sc M (hr.mono (by omega)) guards (fun n e z => by
      obtain ⟨Pt, TB, hm, hu⟩ := hl n e
      exact ⟨cA, Pt, rfl, TB, hm, hu, hr⟩)
    refine ⟨_, pss_w, ?_⟩
    rw [hb]
    refine w_pss (pss_cons (ps_set (i := ip) Sc.nd hip (.inl lp) pe_w (sw _) (.inl rfl)) pss_w) ?_
    intro pins s1 I
    refine wpAny_Call_Name_kw (ld_glob I gp mp ?_ (by decide))
    refine PySem.W.callWith_K (h₀ := base) I.ok.mod.kin kpP ?_ (by rfl) (by rfl)
    show wpAny _ _ (spliced ((false, eval (.Name "script" q2) _) :: backTo q3 (starEach [] _))) _ _ s1
    refine Calls.spliced_cons ((pe_var (i := 0) h0 (.inl ls)).run pins s1 _ H (fun v H2 => v = .ref a ∧ H2 = H) I ⟨.ref a, start_get rfl, rfl, rfl⟩ |> fun z => wpAny_mono z (fun v s2 hv2 => ?_) fun _ _ z => z)
    obtain ⟨v', H2, I2, r2, rfl, rfl⟩ := hv2
    refine Calls.spliced_nil ⟨I2.kIn, ?_⟩
    have rc := GP.run _ _ s2 H2 ⟨[v], []⟩ [v] [.ref a] (fun y H1 => wSs (cxOf (L2.CX P w) P w K mg base N lw (defScope st) f (.ref cA) A outer s H2 E) rest { nx := fun _ H' => Q .non H', rt := Q } ((start N [.ref a]).set ip (some y)) H1) (fun _ _ _ => False) (hr.mono (by omega)) guards I2.env0 (.of_eq (bp _ _ _ _ _ _ _)) (.cons r2 .nil)
      ⟨a, ns, rfl, hS, hlen, fun q p H' h1 h2 npq sm hq hp => by
        obtain ⟨h', ev⟩ := plain ns hlen hbits
        have tb : LamX.Tabs T H' := fun pq hpq => (LamX.TabS.nil (only.2 _ (List.mem_map.mpr ⟨pq, hpq, rfl⟩))).ext sm
        refine soundSs hc _ okZ rfl _ (takes_of rfl rfl rfl rfl) _ _ _ _ _ _ _ _ (rel_pen npq hq hp tb (by have := (List.getElem?_eq_some_iff.mp h0).1; omega) (List.getElem?_eq_some_iff.mp hip).1) ev _ ?_
        intro y σ' δ' W' H2 R' l' r'
        cases r'
        exact kq H2⟩
    refine wpAny_call (codeAny_mono rc fun r s' hq => ?_)
    cases r with
    | error e =>
      obtain ⟨_, _, _, _, _, _, _, _, _, _, _, _, z⟩ := hq
      exact z.elim
    | ok fl =>
      cases fl with
      | ret u => exact I2.after hq
      | next => exact hq.elim
      | brk => exact hq.elim
      | cont => exact hq.elim
end
end Nv


set_option Elab.async false
set_option linter.all false
set_option maxRecDepth 100000
set_option maxHeartbeats 8000000
/-! sum(lists, start). -/
namespace Nv
open PySem PySem.Spec PyProof.Rows L2
theorem args_sum2 (a b : Value) : argsOk "sum" ⟨[a, b], []⟩ := by unfold argsOk; kernel_rfl
theorem no_str : isSubtype (.type "list") (.type "str") = pure false := by rw [isSubtype_type]; kernel_rfl
theorem no_bytes : isSubtype (.type "list") (.type "bytes") = pure false := by rw [isSubtype_type]; kernel_rfl
theorem no_barr : isSubtype (.type "list") (.type "bytearray") = pure false := by rw [isSubtype_type]; kernel_rfl
section
variable {prog : Program} {w : World} {A : Around} {E : Value → Shared → Prop} {s : Shared}
theorem cat_lists {l b : Addr} {vs ws : List Value} {Q : Value → Shared → Prop} (hl : s.heap.IsList l vs.toArray) (hb : s.heap.IsList b ws.toArray) (hsz : vs.length + ws.length ≤ sizeLine)
    (h : Q (.ref s.heap.objs.size) { s with heap := s.heap.push { cls := .type "list", data := .seq (vs ++ ws).toArray } }) : wpAny (model prog w) A (binaryOp .Add (.ref l) (.ref b)) Q E s := by
  obtain ⟨⟨c1, d1, dt1, s1⟩, ho1, hc1, n1, hd1⟩ := hl
  obtain ⟨⟨c2, d2, dt2, s2⟩, ho2, hc2, n2, hd2⟩ := hb
  simp only at hc1 hd1 hc2 hd2
  subst hc1 hd1 hc2 hd2
  refine concat_meets ⟨_, ho1, rfl⟩ ⟨_, ho2, rfl⟩ noFill_list_add seq_list_add PySem.F.slot_list_add PySem.F.entry_list_add (PySem.F.args_list_add_2 _ _) (list_addW l b vs.toArray ws.toArray n1 n2 d1 d2 s1 s2 (by simpa using hsz)) ⟨ho1, ho2, ?_⟩
  rw [show vs.toArray ++ ws.toArray = (vs ++ ws).toArray by simp]
  exact h
theorem list_at {h h' : Heap} {a : Addr} {xs : Array Value} (x : h.IsList a xs) (e : ∀ o, h.get? a = some o → h'.get? a = some o) : h'.IsList a xs := by
  obtain ⟨o, h1, h2⟩ := x
  exact ⟨o, e o h1, h2⟩
theorem sum_lists_loop {R : Result → Shared → Prop} {I : Addr} {fp wr : List Addr} {G : Array GenState → Array GenState → Prop} {n : Nat} {P : Nat → Value → Prop} {St : Nat → Shared → Prop} (W : WalksS prog w A.in1 I fp wr G n P St) (Ls : Nat → Addr) (hval : ∀ i v, P i v → v = .ref (Ls i)) (S : Addr) (hSf : S ∉ fp) (hwr : ∀ i s, St i s → ∀ b ∈ wr, b < s.heap.objs.size) :
    ∀ (its : List (List Value)) (i : Nat) (s : Shared) (t : Addr) (acc : List Value) (c : Nat), i + its.length = n → St i s → s.heap.get? S = some { cls := .type "list", dict := none, data := .seq #[.ref t] c, slots := #[] } → s.heap.IsList t acc.toArray → t ∉ S :: wr →
    (∀ (j : Nat) (xs : List Value), its[j]? = some xs → s.heap.IsList (Ls (i + j)) xs.toArray ∧ Ls (i + j) ∉ S :: wr) → acc.length + its.flatten.length ≤ sizeLine →
    (∀ s' t', Moved (S :: wr) G s s' → s'.heap.IsList t' (acc ++ its.flatten).toArray → (its = [] → t' = t) → (its ≠ [] → t' ∉ S :: wr ∧ s.heap.get? t' = none ∧ ∃ m, s'.heap.get? t' = some { cls := .type "list", data := .seq (acc ++ its.flatten).toArray m }) → R (.ok (.ret (.ref t'))) s') →
    codeAny (model prog w) A (.builtin "sum.loop" ⟨[.ref I, .ref S, rawInt 2, rawInt 0], []⟩) R s := by
  have hSw : S ∉ wr := fun h => hSf (W.sub _ h)
  have hsub : ∀ b ∈ wr, b ∈ S :: wr := fun b hb => List.mem_cons_of_mem _ hb
  intro its
  induction its with
  | nil =>
    intro i s t acc c hk hst hS ht htw _ _ hR
    have hin : i = n := by simpa using hk
    subst hin
    refine codeAny_builtin F.entry_sum_loop ?_
    rw [Around.under_plainId F.plain_sum_loop _]
    show wpAny _ A.in1 (seqItems? (.ref S) >>= _) _ _ s
    refine wpAny_bind (wpAny_seqItems hS rfl ?_)
    show wpAny _ A.in1 (tryCatch (pyNext (.ref I)) _ >>= _) _ _ s
    refine wpAny_bind (wpAny_tryCatch (W.done s _ _ hst fun s' hm => ?_))
    refine wpAny_pure (hR s' t (hm.mono hsub) ?_ (fun _ => rfl) fun z => absurd rfl z)
    rw [List.flatten_nil, List.append_nil]
    exact list_at ht fun o e => hm.heap t o (fun z => htw (hsub _ z)) e
  | cons xs rest ih =>
    intro i s t acc c hk hst hS ht htw hits hz hR
    have hin : i < n := by rw [List.length_cons] at hk; omega
    obtain ⟨hx, hxw⟩ := hits 0 xs rfl
    refine codeAny_builtin F.entry_sum_loop ?_
    rw [Around.under_plainId F.plain_sum_loop _]
    show wpAny _ A.in1 (seqItems? (.ref S) >>= _) _ _ s
    refine wpAny_bind (wpAny_seqItems hS rfl ?_)
    show wpAny _ A.in1 (tryCatch (pyNext (.ref I)) _ >>= _) _ _ s
    refine wpAny_bind (wpAny_tryCatch (W.item i s _ _ hin hst fun v s' hP hst' hm => ?_))
    obtain rfl := hval i v hP
    have hS' := hm.heap S _ hSw hS
    have hx' : s'.heap.IsList (Ls i) xs.toArray := list_at hx fun o e => hm.heap _ o (fun z => hxw (hsub _ z)) e
    have ht' : s'.heap.IsList t acc.toArray := list_at ht fun o e => hm.heap _ o (fun z => htw (hsub _ z)) e
    show wpAny _ A.in1 ((holding [Value.ref (Ls i)] (binaryOp .Add (.ref t) (.ref (Ls i)))).attempt >>= _) _ _ _
    rw [List.flatten_cons, List.length_append] at hz
    refine wpAny_bind (wpAny_attempt (wpAny_holding (cat_lists ht' hx' (by omega) ?_)))
    have lift : ∀ {b : Addr} {o : Obj}, s'.heap.get? b = some o → (s'.heap.push { cls := .type "list", data := .seq (acc ++ xs).toArray }).get? b = some o := fun e => Heap.get?_push_of_some _ e
    have hS1 := lift hS'
    have hlt' : ∀ b ∈ S :: wr, b < s'.heap.objs.size := fun b hb => by
      rcases List.mem_cons.mp hb with rfl | hb
      · exact Heap.lt_size hS'
      · exact hwr _ _ hst' b hb
    show wpAny _ A.in1 (updateSeq S (fun _ => #[.ref s'.heap.objs.size]) >>= _) _ _ _
    refine wpAny_bind (wpAny_updateSeq hS1 rfl ?_)
    have hS2 := Heap.get?_update_self (Obj.mapSeq fun _ => #[Value.ref s'.heap.objs.size]) hS1 rfl
    refine wpAny_bind (wpAny_letGo ?_)
    refine wpAny_bind (wpAny_updateSeq hS2 rfl (wpAny_pure ⟨plainId_quiet F.plain_sum_loop _, ?_⟩))
    have kept : ∀ {b : Addr} {o : Obj}, b ≠ S → s'.heap.get? b = some o → (((s'.heap.push { cls := .type "list", data := .seq (acc ++ xs).toArray }).update S (Obj.mapSeq fun _ => #[Value.ref s'.heap.objs.size])).update S (Obj.mapSeq fun _ => #[Value.ref s'.heap.objs.size])).get? b = some o := fun {b o} nb e =>
      (Heap.get?_update_other _ _ (fun h : S = b => nb h.symm)).trans ((Heap.get?_update_other _ _ (fun h : S = b => nb h.symm)).trans (lift e))
    have nS : s'.heap.objs.size ≠ S := fun z => Nat.lt_irrefl _ (z ▸ hlt' S List.mem_cons_self)
    have tnew : (((s'.heap.push { cls := .type "list", data := .seq (acc ++ xs).toArray }).update S (Obj.mapSeq fun _ => #[Value.ref s'.heap.objs.size])).update S (Obj.mapSeq fun _ => #[Value.ref s'.heap.objs.size])).get? s'.heap.objs.size = some { cls := .type "list", data := .seq (acc ++ xs).toArray } :=
      (Heap.get?_update_other _ _ (fun h : S = _ => nS h.symm)).trans ((Heap.get?_update_other _ _ (fun h : S = _ => nS h.symm)).trans (Heap.get?_push_size _ rfl))
    have nin : s'.heap.objs.size ∉ S :: wr := fun z => Nat.lt_irrefl _ (hlt' _ z)
    have toIh := (hm.mono hsub).then_heap (tk := s'.toks) (h' := ((s'.heap.push { cls := .type "list", data := .seq (acc ++ xs).toArray }).update S (Obj.mapSeq fun _ => #[Value.ref s'.heap.objs.size])).update S (Obj.mapSeq fun _ => #[Value.ref s'.heap.objs.size])) (Nat.le_refl _) (fun b o hb e => kept (fun z => hb (by rw [z]; exact List.mem_cons_self)) e)
    refine ih (i + 1) _ s'.heap.objs.size (acc ++ xs) _ (by rw [List.length_cons] at hk; omega) (W.frame _ s' _ _ hst' (Nat.le_refl _) fun b hb o e => kept (fun z => hSf (by rw [← z]; exact hb)) e) (Heap.get?_update_self _ hS2 rfl) ⟨_, tnew, rfl, _, rfl⟩ nin (fun j ys hj => ?_) (by rw [List.length_append]; omega) fun s2 t2 hm2 hl2 hn hc => ?_
    · obtain ⟨k1, k2⟩ := hits (j + 1) ys hj
      rw [show i + (j + 1) = i + 1 + j by omega] at k1 k2
      exact ⟨list_at k1 fun o e => kept (fun z => k2 (by rw [z]; exact List.mem_cons_self)) (hm.heap _ o (fun z => k2 (hsub _ z)) e), k2⟩
    · have joined : acc ++ (xs :: rest).flatten = acc ++ xs ++ rest.flatten := by rw [List.flatten_cons, List.append_assoc]
      refine hR s2 t2 (Moved.trans W.gtrans toIh hm2) (by rw [joined]; exact hl2) (fun z => nomatch z) fun _ => ?_
      rw [joined]
      cases rest with
      | nil =>
        have e := hn rfl
        subst e
        refine ⟨nin, ?_, 0, by rw [List.flatten_nil, List.append_nil]; exact hm2.heap _ _ nin tnew⟩
        cases z : s.heap.get? s'.heap.objs.size with
        | none => rfl
        | some o => exact absurd (Heap.lt_size (hm.heap _ o (fun y => nin (hsub _ y)) z)) (Nat.lt_irrefl _)
      | cons y r =>
        obtain ⟨k0, k1, k2⟩ := hc (fun z => nomatch z)
        refine ⟨k0, ?_, k2⟩
        cases z : s.heap.get? t2 with
        | none => rfl
        | some o =>
          have k3 := toIh.heap _ o k0 z
          rw [k1] at k3
          cases k3
/-- sum(xs, start), lists -/
theorem sum_lists {x p : Addr} {ls : List Addr} {acc : List Value} {its : List (List Value)} {Q : Value → Shared → Prop} (hh : A.handled = none) (hx : s.heap.IsList x (ls.map Value.ref).toArray) (hp : s.heap.IsList p acc.toArray) (hl : its.length = ls.length)
    (hi : ∀ (j : Nat) (a : Addr) (xs : List Value), ls[j]? = some a → its[j]? = some xs → s.heap.IsList a xs.toArray) (hz : acc.length + its.flatten.length ≤ sizeLine)
    (h0 : ls = [] → ∀ h' tk, (∀ b o, s.heap.get? b = some o → h'.get? b = some o) → Q (.ref p) { s with heap := h', toks := tk })
    (h1 : ls ≠ [] → ∀ h' tk q m, (∀ b o, s.heap.get? b = some o → h'.get? b = some o) → s.heap.get? q = none → h'.get? q = some { cls := .type "list", data := .seq (acc ++ its.flatten).toArray m } → Q (.ref q) { s with heap := h', toks := tk }) :
    wpAny (model prog w) A (call (.builtin "sum") [.ref x, .ref p]) Q E s := by
  obtain ⟨ox, ex, cx, nx, dx⟩ := id hx
  obtain ⟨op, ep, cp, np, dp⟩ := id hp
  have hne : x ≠ s.heap.objs.size := Nat.ne_of_lt (Heap.lt_size ex)
  have W := (Walks.list (prog := prog) (w := w) (A := A.in1) hh s.heap.objs.size x hne (ls.map Value.ref).toArray).toS
  refine call_function_tree F.kind_sum F.plain_sum F.entry_sum (args_sum2 _ _) ?_
  unfold Builtin.«sum»
  simp only [List.length_cons, List.length_nil]
  rw [if_neg (by decide)]
  refine wpAny_bind (wpAny_of_eq (show Builtin.Builtins.bindParams "sum" ["start"] 0 ⟨[.ref p], []⟩ = pure [some (.ref p)] from rfl) ?_)
  refine wpAny_bind (wpAny_pyIter_list hx ?_)
  refine wpAny_bind (wpAny_pure ?_)
  simp only [List.forIn_cons, List.forIn_nil]
  have tp : ({ s with heap := s.heap.push { cls := .type "list_iterator", data := .fields #[.ref x, .int 0 0] } } : Shared).TypeIs (.ref p) "list" := ⟨_, Heap.get?_push_of_some _ ep, cp⟩
  refine wpAny_bind (wpAny_bind (wpAny_bind (wpAny_isInstance (T := "list") (b := false) tp no_str ?_)))
  simp only [Bool.false_eq_true, if_false]
  refine wpAny_pure (wpAny_bind (wpAny_bind (wpAny_isInstance (T := "list") (b := false) tp no_bytes ?_)))
  simp only [Bool.false_eq_true, if_false]
  refine wpAny_pure (wpAny_bind (wpAny_bind (wpAny_isInstance (T := "list") (b := false) tp no_barr ?_)))
  simp only [Bool.false_eq_true, if_false]
  refine wpAny_pure (wpAny_pure ?_)
  refine wpAny_bind (wpAny_newObj_type ?_)
  have off : ∀ {a : Addr} {o : Obj}, s.heap.get? a = some o → a ≠ s.heap.objs.size := fun e => Nat.ne_of_lt (Heap.lt_size e)
  have offS : ∀ {a : Addr} {o : Obj}, s.heap.get? a = some o → a ≠ (s.heap.push { cls := .type "list_iterator", data := .fields #[.ref x, .int 0 0] }).objs.size := fun e => Nat.ne_of_lt (Heap.lt_size (Heap.get?_push_of_some _ e))
  have inL : ∀ {a : Addr} {o : Obj}, s.heap.get? a = some o → a ∉ (s.heap.push { cls := .type "list_iterator", data := .fields #[.ref x, .int 0 0] }).objs.size :: [s.heap.objs.size] := fun e z => by
    rcases List.mem_cons.mp z with z | z
    · exact offS e z
    · exact off e (List.mem_singleton.mp z)
  have up : ∀ {a : Addr} {o : Obj}, s.heap.get? a = some o → ((s.heap.push { cls := .type "list_iterator", data := .fields #[.ref x, .int 0 0] }).push { cls := .type "list", data := .seq #[.ref p] }).get? a = some o := fun e => Heap.get?_push_of_some _ (Heap.get?_push_of_some _ e)
  have hI : ((s.heap.push { cls := .type "list_iterator", data := .fields #[.ref x, .int 0 0] }).push { cls := .type "list", data := .seq #[.ref p] }).IsListIter s.heap.objs.size x 0 := ⟨_, Heap.get?_push_of_some _ (Heap.get?_push_size _ rfl), rfl, rfl⟩
  refine wpAny_pure ⟨plainId_quiet F.plain_sum_loop _, sum_lists_loop W (fun i => (ls[i]?).getD 0) (fun i v hP => ?_) (s.heap.push { cls := .type "list_iterator", data := .fields #[.ref x, .int 0 0] }).objs.size ?_ (fun i s' st b hb => ?_) its 0 _ p acc 0 (by simp [hl]) ⟨hI, list_at hx fun o e => up e⟩ (Heap.get?_push_size _ rfl) (list_at hp fun o e => up e) (inL ep) (fun j xs hj => ?_) hz fun s' t' hm hl' hn hc => ?_⟩
  · have hP : (ls.map Value.ref).toArray[i]? = some v := hP
    rw [List.getElem?_toArray, List.getElem?_map] at hP
    cases e : ls[i]? with
    | none => rw [e] at hP; cases hP
    | some a => rw [e] at hP; cases hP; rfl
  · intro z
    rcases List.mem_cons.mp z with z | z
    · exact Nat.succ_ne_self _ ((Heap.size_push _ _).symm.trans z)
    · exact offS ex (List.mem_singleton.mp z).symm
  · obtain rfl := List.mem_singleton.mp hb
    obtain ⟨o, e, _⟩ := st.1
    exact Heap.lt_size e
  · have hj2 : j < ls.length := by rw [← hl]; exact (List.getElem?_eq_some_iff.mp hj).1
    obtain ⟨a, ea⟩ : ∃ a, ls[j]? = some a := ⟨_, List.getElem?_eq_getElem hj2⟩
    have k := hi j a xs ea hj
    obtain ⟨o, e, _⟩ := id k
    rw [Nat.zero_add]
    have eq : (ls[j]?).getD 0 = a := by rw [ea]; rfl
    rw [eq]
    exact ⟨list_at k fun o e => up e, inL e⟩
  · have keep : ∀ b o, s.heap.get? b = some o → s'.heap.get? b = some o := fun b o e => hm.heap b o (inL e) (up e)
    obtain ⟨h', g', d', tk', os'⟩ := s'
    have e1 : g' = s.gens := hm.gens
    have e2 : d' = s.drawn := hm.drawn
    have e3 : os' = s.os := hm.os
    subst e1 e2 e3
    by_cases z : ls = []
    · have zi : its = [] := List.length_eq_zero_iff.mp (by rw [hl, z]; rfl)
      rw [hn zi]
      exact h0 z h' tk' keep
    · have zi : its ≠ [] := fun y => z (List.length_eq_zero_iff.mp (by rw [← hl, y]; rfl))
      obtain ⟨k0, k1, m, k2⟩ := hc zi
      refine h1 z h' tk' t' m keep ?_ k2
      cases y : s.heap.get? t' with
      | none => rfl
      | some o => rw [up y] at k1; cases k1
end
end Nv


set_option Elab.async false
set_option linter.all false
set_option maxRecDepth 100000
set_option maxHeartbeats 8000000
/-! Shapes: sorted(texts), list(dict(pairs)), sum(lists, []). -/
namespace Nv
open PySem PySem.Spec PyProof.Rows L2
instance : DecidableEq Er := fun a b => if h : a.x = b.x ∧ a.fs = b.fs then isTrue (by
  obtain ⟨h1, h2⟩ := h
  cases a; cases b
  cases h1; cases h2
  rfl) else isFalse fun e => h (by subst e; exact ⟨rfl, rfl⟩)
instance {sc : Scope} {x : Str} : Decidable (L2.Loc sc x) := by unfold L2.Loc; infer_instance
/-! ### dict(pairs) -/
def nubS : List Str → List Str → List Str
  | acc, [] => acc
  | acc, k :: r => nubS (if acc.any (fun a => decide (a = k)) then acc else acc ++ [k]) r
theorem stored_keys (kvs : List (Key × Value)) (k : Key) (v : Value) : (stored kvs k v).map (·.1) = if kvs.any (fun kv => decide (kv.1 = k)) then kvs.map (·.1) else kvs.map (·.1) ++ [k] := by
  unfold stored
  split
  · rw [List.map_map]
    refine List.map_congr_left fun p _ => ?_
    show (if p.1 = k then (p.1, v) else p).1 = p.1
    split <;> rfl
  · rw [List.map_append]
    rfl
theorem merged_keys : ∀ (more : List (Str × Value)) (kvs : List (Key × Value)) (ks : List Str), kvs.map (·.1) = ks.map Sum.inr → (merged kvs (more.map fun p => ((Sum.inr p.1 : Key), p.2))).map (·.1) = (nubS ks (more.map (·.1))).map Sum.inr
  | [], kvs, ks, e => e
  | p :: r, kvs, ks, e => by
    show (merged (stored kvs (Sum.inr p.1) p.2) _).map _ = (nubS (if ks.any (fun a => decide (a = p.1)) then ks else ks ++ [p.1]) (r.map (·.1))).map _
    refine merged_keys r _ _ ?_
    have a : (kvs.any fun kv => decide (kv.1 = Sum.inr p.1)) = ks.any fun a => decide (a = p.1) := by
      have h1 : (kvs.any fun kv => decide (kv.1 = Sum.inr p.1)) = (kvs.map (·.1)).any fun k => decide (k = Sum.inr p.1) := by rw [List.any_map]; rfl
      rw [h1, e, List.any_map]
      congr 1
      funext x
      simp
    rw [stored_keys, a]
    split
    · exact e
    · rw [e, List.map_append]
      rfl
section
variable {X : Cx}
/-- what the pairs are -/
theorem pair_items {H : Hp} {s : Shared} {pins : List (Addr × Obj)} {σ : L2.St} (I : Inv X pins σ H s) : ∀ {ts : List V} {ks : List Str}, Paired (fun t k => ∃ b v, t = .ref b ∧ SqT X.K H b [.str k, v]) ts ks → ∀ {its : List Value}, Vals ts its →
    ∃ (ls : List Addr) (ps : List (Value × Value)) (vs : List (Key × V)), its = ls.map Value.ref ∧ ps.length = ls.length ∧ (∀ (j : Nat) (k v : Value), ps[j]? = some (k, v) → ∃ b, ls[j]? = some b ∧ s.heap.IsTuple b #[k, v]) ∧
      ∃ (kv : List (Str × Value)), kv.map (·.1) = ks ∧ (∀ (i : Nat) (k v : Value), ps[i]? = some (k, v) → ∃ x, kv[i]? = some (x, v) ∧ Value.isStrOf x k = true) ∧ kv.length = ps.length ∧ ∀ v ∈ kv, ∃ y, L2.RelV y v.2
  | [], [], .nil, its, h => by
    cases h
    exact ⟨[], [], [], rfl, rfl, fun j k v e => (by cases e), [], rfl, fun j k v e => (by cases e), rfl, fun v hv => nomatch hv⟩
  | t :: ts, k :: ks, .cons h r, its, hv => by
    obtain ⟨b, v, rfl, hq⟩ := h
    cases hv with
    | cons hu hr =>
    rename_i u us
    obtain ⟨ls, ps, _, rfl, l1, h1, kv, e1, h2, l2, h3⟩ := pair_items I r hr
    obtain rfl : u = Value.ref b := hu
    obtain ⟨i2, rv, ht, _⟩ := I.tuple hq
    cases rv with
    | cons ha rb =>
    cases rb with
    | cons hb rc =>
    cases rc
    rename_i ka va
    obtain ⟨tk, rfl⟩ := ha
    refine ⟨b :: ls, (.str k tk, va) :: ps, [], rfl, by rw [List.length_cons, List.length_cons, l1], fun j x y e => ?_, (k, va) :: kv, by rw [List.map_cons, e1], fun j x y e => ?_, by rw [List.length_cons, List.length_cons, l2], fun z hz => ?_⟩
    · match j with
      | 0 => cases e; exact ⟨b, rfl, ht⟩
      | j + 1 => exact h1 j x y e
    · match j with
      | 0 => cases e; exact ⟨k, rfl, by simp [Value.isStrOf]⟩
      | j + 1 => exact h2 j x y e
    · rcases List.mem_cons.mp hz with rfl | hz
      · exact ⟨v, hb⟩
      · exact h3 z hz
def rDictP (K : PySem.W.Frag) : List V → Hp → VK → Prop := fun xs H Q => ∃ (a : Addr) (ts : List V) (ks : List Str), xs = [.ref a] ∧ SqL K H a ts ∧ Paired (fun t k => ∃ b v, t = .ref b ∧ SqT K H b [.str k, v]) ts ks ∧
    ∀ p kvs, H p = none → kvs.map (·.1) = (nubS [] ks).map Sum.inr → Q (.ref p) (upd H p (.dK kvs))
theorem call_dictP (hc : X.calm = true) : CallR X (.type "dict") (rDictP X.K) := by
  intro pins s σ H xs us Q I r h
  obtain ⟨a, ts, ks, rfl, hs, hp, q⟩ := h
  obtain ⟨its, rv, hl, hz⟩ := I.list hs
  rw [Vals.ref1 r]
  obtain ⟨ls, ps, _, rfl, l1, h1, kv, rfl, h2, l2, h3⟩ := pair_items I hp rv
  obtain ⟨o, n, e1, e2, e3, e4⟩ := hl
  have hlen := rv.length
  rw [List.length_map] at hlen
  refine PySem.call_dict_pairs (knd := mixKind X.prog X.w) (kvs := kv.map fun p => ((Sum.inr p.1 : Key), p.2)) (PairArg.list a (ls.map Value.ref).toArray (fun j => (ls[j]?).getD 0) ps) (I.ok.hd hc) ⟨⟨o, n, e1, e2, e3, e4⟩, by simp [l1], fun j k v e => ?_⟩ ⟨by rw [List.length_map, l2], fun i k v e => ?_⟩ (by omega) fun h' tk hd keep => ?_
  · obtain ⟨b, e5, ht⟩ := h1 j k v e
    have eb : (ls[j]?).getD 0 = b := by rw [e5]; rfl
    dsimp only
    rw [eb]
    exact ⟨by simp [e5], .inl ht⟩
  · obtain ⟨x, e5, e6⟩ := h2 i k v e
    exact ⟨.inr x, by rw [List.getElem?_map, e5]; rfl, e6⟩
  · -- what the dict holds
    have vals : ∀ l : List (Key × Value), (∀ p ∈ l, ∃ y, L2.RelV y p.2) → ∃ vs : List (Key × V), KV vs l := by
      intro l
      induction l with
      | nil => exact fun _ => ⟨[], .nil⟩
      | cons p r ih =>
        intro hh
        obtain ⟨y, hy⟩ := hh p List.mem_cons_self
        obtain ⟨vs, hvs⟩ := ih fun z hz => hh z (List.mem_cons_of_mem _ hz)
        exact ⟨(p.1, y) :: vs, .cons ⟨rfl, hy⟩ hvs⟩
    have all : ∀ (more : List (Key × Value)) (acc : List (Key × Value)), (∀ p ∈ acc, ∃ y, L2.RelV y p.2) → (∀ p ∈ more, ∃ y, L2.RelV y p.2) → ∀ p ∈ merged acc more, ∃ y, L2.RelV y p.2 := by
      intro more
      induction more with
      | nil => exact fun acc h _ => h
      | cons p r ih =>
        intro acc ha hm
        refine ih _ (fun z hz => ?_) fun z hz => hm z (List.mem_cons_of_mem _ hz)
        unfold stored at hz
        dsimp only at hz
        split at hz
        · obtain ⟨y, hy, rfl⟩ := List.mem_map.mp hz
          split
          · exact hm p List.mem_cons_self
          · exact ha y hy
        · rcases List.mem_append.mp hz with hz | hz
          · exact ha z hz
          · cases List.mem_singleton.mp hz
            exact hm p List.mem_cons_self
    obtain ⟨vs, hvs⟩ := vals (merged [] (kv.map fun p => ((Sum.inr p.1 : Key), p.2))) (all _ [] (fun p hp => nomatch hp) fun p hp => by
      obtain ⟨y, hy, rfl⟩ := List.mem_map.mp hp
      exact h3 y hy)
    have kl : ∀ {vs : List (Key × V)} {l : List (Key × Value)}, KV vs l → vs.map (·.1) = l.map (·.1) := by
      intro vs l h
      induction h with
      | nil => rfl
      | cons h _ ih => rw [List.map_cons, List.map_cons, ih, h.1]
    have keys := (kl hvs).trans (merged_keys kv [] [] rfl)
    have le := merged_length_le ([] : List (Key × Value)) (kv.map fun p => ((Sum.inr p.1 : Key), p.2))
    rw [List.length_nil, List.length_map, Nat.zero_add] at le
    have lv := Paired.length hvs
    exact ⟨.ref _, upd H s.heap.objs.size (.dK vs), I.laid (fun b o e => keep b o (fun z => nomatch z) e) (Nat.le_refl _) ⟨by omega, beq_eq_false_iff_ne.mpr (Ne.symm (Nat.ne_of_lt I.big)), _, hvs, hd⟩, rfl, q _ vs (I.hok.fresh (Nat.le_refl _)) keys⟩
end
/-! ### shapes of one part -/
/-- an expression by its one part: its reading t is the part's, then g -/
structure OneOk (X : Cx) (Sh : Shp) (m : PyData → Option PyData) : Prop where
  run : ∀ es x, Sh.e X.env.scope es x → ∃ (a : Expr) (g : V → Hp → VK → Prop), es = [a] ∧ (∀ σ H Q, wE X a σ H (fun v H1 => g v H1 Q) → wE X x σ H Q) ∧
    ∀ (d z : PyData) (v : V) (B1 H1 : Hp) (Q : VK), m d = some z → Same B1 H1 → Dv X.K B1 v d → (∀ u B2 H2, Same B1 B2 → Same B2 H2 → Same H1 H2 → (∀ a o, B2 a = some o → (∃ o', B1 a = some o') ∨ H1 a = none ∧ ∀ ps, o ≠ .tbl ps) → Dv X.K B2 u z → Q u H2) → g v H1 Q
  nt : ∀ sc es x, ¬ Sh.t sc es x
  ns : ∀ sc N es js x, ¬ Sh.s sc N es js x
def one_ (m : PyData → Option PyData) : List PyData → Option PyData
  | [d] => m d
  | _ => none
theorem one_ox {X : Cx} {Sh : Shp} {m : PyData → Option PyData} (O : OneOk X Sh m) : OxOk X Sh (one_ m) where
  r := fun es x h σ H Q hall => by
    obtain ⟨a, g, rfl, w, _⟩ := O.run es x h
    exact w σ H Q (hall fun vs H1 => match vs with | [v] => g v H1 Q | _ => False)
  rt := fun es x h => absurd h (O.nt _ es x)
  rs := fun es js x h => absurd h (O.ns _ _ es js x)
  e := fun es x h σ H ds z Q G hm hall fin => by
    obtain ⟨a, g, rfl, w, hd⟩ := O.run es x h
    refine w σ H Q (hall (fun vs H1 => match vs with | [v] => g v H1 Q | _ => False) fun vs B1 H1 s1 hG dv => ?_)
    match ds, hm with
    | [d], hm =>
      match vs, dv with
      | [v], .cons dv _ => exact hd d z v B1 H1 Q hm s1 dv fun u B2 H2 k1 k2 k3 k4 k5 => fin u B1 H1 B2 H2 hG k1 k2 k3 k4 k5
  t := fun es x h => absurd h (O.nt _ es x)
  s := fun _ es js x h => absurd h (O.ns _ _ es js x)
theorem strs_dv {K : PySem.W.Frag} {B : Hp} : ∀ {vs : List V} {ds : List PyData} {ks : List Str}, DvL K B vs ds → strsD ds = some ks → vs = ks.map V.str
  | _, [], ks, .nil, e => by cases e; rfl
  | _, .str s :: r, ks, .cons h t, e => by
    unfold strsD at e
    obtain ⟨ks', e1, rfl⟩ := Option.map_eq_some_iff.mp e
    cases h
    rw [strs_dv t e1]
    rfl
/-- new data beside what is there -/
theorem fresh_data {K : PySem.W.Frag} {B1 H1 : Hp} {Q : VK} {z : PyData} {q : Addr} {o : HO} (s1 : Same B1 H1) (hq : H1 q = none) (hn : ∀ ps, o ≠ .tbl ps) (hd : ∀ B', Same B1 B' → B' q = some o → Dv K B' (.ref q) z)
    (fin : ∀ u B2 H2, Same B1 B2 → Same B2 H2 → Same H1 H2 → (∀ a o, B2 a = some o → (∃ o', B1 a = some o') ∨ H1 a = none ∧ ∀ ps, o ≠ .tbl ps) → Dv K B2 u z → Q u H2) : Q (.ref q) (upd H1 q o) := by
  have bq : B1 q = none := by
    cases e : B1 q with
    | none => rfl
    | some u => rw [s1 _ _ e] at hq; cases hq
  have sb := same_upd (o := o) bq
  refine fin (.ref q) (upd B1 q o) (upd H1 q o) sb (same_upd2 s1) (same_upd hq) (fun a u e => ?_) (hd _ sb upd_same)
  by_cases w : a = q
  · subst w
    rw [upd_same] at e
    cases e
    exact .inr ⟨hq, hn⟩
  · rw [upd_ne w] at e
    exact .inl ⟨u, e⟩
/-! ### sorted(texts) -/
def shSrt : Shp := { e := fun sc es x => ∃ (a : Expr) (p pos : Pos), es = [a] ∧ x = .Call (.Name "sorted" p) [a] [] pos ∧ Pl sc "sorted" ∧ ∀ env, starEach [a] env = (false, eval a env) :: starEach [] env }
def m_srt : PyData → Option PyData
  | .list ds => match strsD ds with
    | some ks => if ks.length < 64 then some (.list ((sortS ks).map .str)) else none
    | none => none
  | _ => none
theorem one_srt {X : Cx} (hb : X.mg "sorted" = none) : OneOk X shSrt m_srt where
  run := fun es x h => by
    obtain ⟨a, p, pos, rfl, rfl, hp, hst⟩ := h
    refine ⟨a, fun v H1 Q => rSortedS X.K [v] H1 Q, rfl, fun σ H Q h => ?_, fun d z v B1 H1 Q hm s1 dv fin => ?_⟩
    · exact w_pe (pe_callB cr_sortedS hp hb (by decide +kernel) (pa_cons pe_w pa_nil (hst X.env)) (by decide +kernel) rfl (hst X.env) rfl) h
    · unfold m_srt at hm
      split at hm
      · rename_i ds
        split at hm
        · rename_i ks ek
          obtain ⟨hz, hm⟩ := ite_some' hm
          cases hm
          obtain ⟨b, vs, rfl, hb, r⟩ := lst_dv dv
          have := strs_dv r ek
          subst this
          refine ⟨b, ks, rfl, .of (s1 _ _ hb), by simpa using hz, fun ys q hq hs hn => ?_⟩
          rw [sort_uniq hq hs]
          exact fresh_data s1 hn (fun _ z => by cases z) (fun B' _ hb => .lst hb (dvl_strs _)) fin
        · cases hm
      · cases hm
  nt := fun _ _ _ h => h
  ns := fun _ _ _ _ _ h => h
/-! ### list(dict(pairs)) -/
def IsLD (sc : Scope) (es : List Expr) (x : Expr) : Prop := ∃ (a : Expr) (p p2 pos pos2 : Pos), es = [a] ∧ x = .Call (.Name "list" p) [.Call (.Name "dict" p2) [a] [] pos2] [] pos ∧ Pl sc "list" ∧ Pl sc "dict" ∧ (∀ env, starEach [a] env = (false, eval a env) :: starEach [] env) ∧
  ∀ env, starEach [.Call (.Name "dict" p2) [a] [] pos2] env = (false, eval (.Call (.Name "dict" p2) [a] [] pos2) env) :: starEach [] env
def shLD : Shp := { e := IsLD }
def pairKs : List PyData → Option (List Str)
  | [] => some []
  | .tuple [.str s, _] :: r => match pairKs r with
    | some ks => some (s :: ks)
    | none => none
  | _ :: _ => none
def m_ld : PyData → Option PyData
  | .list ds => match pairKs ds with
    | some ks => some (.list ((nubS [] ks).map .str))
    | none => none
  | _ => none
theorem pair_dv {K : PySem.W.Frag} {B H : Hp} (s1 : Same B H) : ∀ {vs : List V} {ds : List PyData} {ks : List Str}, DvL K B vs ds → pairKs ds = some ks → Paired (fun t k => ∃ b v, t = .ref b ∧ SqT K H b [.str k, v]) vs ks
  | _, [], ks, .nil, e => by cases e; exact .nil
  | _, d :: r, ks, .cons h t, e => by
    unfold pairKs at e
    split at e
    · rename_i e0; cases e0
    · rename_i s x r' e0
      cases e0
      split at e
      · rename_i ks' e1
        cases e
        obtain ⟨b, vs, rfl, hb, rr⟩ := tup_dv h
        cases rr with
        | cons h1 r1 =>
        cases h1
        cases r1 with
        | cons h2 r2 =>
        cases r2
        exact .cons ⟨b, _, rfl, same_t s1 hb⟩ (pair_dv s1 t e1)
      · cases e
    · cases e
theorem one_ld {X : Cx} (hc : X.calm = true) (hb1 : X.mg "list" = none) (hb2 : X.mg "dict" = none) : OneOk X shLD m_ld where
  run := fun es x h => by
    obtain ⟨a, p, p2, pos, pos2, rfl, rfl, hp, hp2, hst, hst2⟩ := h
    refine ⟨a, fun v H1 Q => rDictP X.K [v] H1 fun y H2 => rListD [y] H2 Q, rfl, fun σ H Q h => ?_, fun d z v B1 H1 Q hm s1 dv fin => ?_⟩
    · exact w_pe (pe_callTy (call_list_dK hc) hp hb1 (by decide +kernel) (pa_cons (pe_callTy (call_dictP hc) hp2 hb2 (by decide +kernel) (pa_cons pe_w pa_nil (hst X.env)) (by decide +kernel) rfl (hst X.env) rfl) pa_nil (hst2 X.env)) (by decide +kernel) rfl (hst2 X.env) rfl) h
    · unfold m_ld at hm
      split at hm
      · rename_i ds
        split at hm
        · rename_i ks ek
          cases hm
          obtain ⟨b, vs, rfl, hb, r⟩ := lst_dv dv
          refine ⟨b, vs, ks, rfl, .of (s1 _ _ hb), pair_dv s1 r ek, fun q kvs hq hk => ⟨q, kvs, rfl, upd_same, fun l hl => ?_⟩⟩
          have ek2 : (kvs.map fun kv => kV kv.1) = (nubS [] ks).map V.str := by
            have := congrArg (List.map kV) hk
            rw [List.map_map, List.map_map] at this
            exact this
          rw [ek2]
          have hl1 : H1 l = none := by
            by_cases w : l = q
            · subst w; exact hq
            · rw [upd_ne w] at hl; exact hl
          have bl : B1 l = none := by
            cases e : B1 l with
            | none => rfl
            | some u => rw [s1 _ _ e] at hl1; cases hl1
          have nlq : l ≠ q := fun w => by subst w; rw [upd_same] at hl; cases hl
          refine fin (.ref l) (upd B1 l (.lst ((nubS [] ks).map V.str))) _ (same_upd bl) (fun c u e => ?_) ((same_upd hq).trans (same_upd hl)) (fun c u e => ?_) (.lst upd_same (dvl_strs _))
          · by_cases w : c = l
            · subst w; rw [upd_same] at e ⊢; exact e
            · rw [upd_ne w] at e ⊢
              rw [upd_ne (fun y => by subst y; rw [s1 _ _ e] at hq; cases hq)]
              exact s1 _ _ e
          · by_cases w : c = l
            · subst w; rw [upd_same] at e; cases e; exact .inr ⟨hl1, fun _ z => by cases z⟩
            · rw [upd_ne w] at e; exact .inl ⟨u, e⟩
        · cases hm
      · cases hm
  nt := fun _ _ _ h => h
  ns := fun _ _ _ _ _ h => h
/-! ### sum(lists, []) -/
theorem obj_there {P : Program} {w : World} {H : Hp} {h : Heap} {a : Addr} {o : HO} (x : ObjOk P w H h a o) : ∃ u, h.get? a = some u := by
  cases o with
  | lst xs => obtain ⟨_, _, _, _, e⟩ := x; exact ⟨_, e⟩
  | tup xs => obtain ⟨_, _, _, u, e, _⟩ := x; exact ⟨u, e⟩
  | dK kvs => obtain ⟨_, _, _, _, u, _, _, e, _⟩ := x; exact ⟨u, e⟩
  | dT kvs => obtain ⟨_, _, _, _, u, _, _, e, _⟩ := x; exact ⟨u, e⟩
  | set S n => obtain ⟨u, _, _, _, e, _⟩ := x; exact ⟨u, e⟩
  | ins C dx fs => obtain ⟨_, _, _, e, _⟩ := x; exact ⟨_, e⟩
  | own y => exact x
  | xd fs => obtain ⟨_, ⟨u, _, _, e, _⟩, _⟩ := x; exact ⟨u, e⟩
  | rng lo hi => obtain ⟨_, _, _, e⟩ := x; exact ⟨_, e⟩
  | frz ob u => exact ⟨ob, x.1⟩
  | tbl ps => exact ⟨_, x⟩
  | met f y => exact ⟨_, x⟩
  | ext φ => exact x.2.1
def rSumL (K : PySem.W.Frag) : List V → Hp → VK → Prop := fun xs H Q => ∃ (x p : Addr) (ls : List Addr) (its : List (List V)), xs = [.ref x, .ref p] ∧ SqL K H x (ls.map V.ref) ∧ SqL K H p [] ∧ Paired (fun a ys => SqL K H a ys) ls its ∧ its.flatten.length ≤ sizeLine ∧
  (ls = [] → Q (.ref p) H) ∧ ∀ q, H q = none → Q (.ref q) (upd H q (.lst its.flatten))
theorem Paired.flat {s : Shared} {X : Cx} {pins : List (Addr × Obj)} {σ : L2.St} {H : Hp} (I : Inv X pins σ H s) : ∀ {ls : List Addr} {its : List (List V)}, Paired (fun a ys => SqL X.K H a ys) ls its → ∃ us : List (List Value), us.length = ls.length ∧ Vals its.flatten us.flatten ∧
    ∀ (j : Nat) (a : Addr) (xs : List Value), ls[j]? = some a → us[j]? = some xs → s.heap.IsList a xs.toArray
  | [], [], .nil => ⟨[], rfl, .nil, fun j a xs e => (by cases e)⟩
  | a :: ls, ys :: its, .cons h r => by
    obtain ⟨us, l, rv, hh⟩ := Paired.flat I r
    obtain ⟨u, ru, hl, _⟩ := I.list h
    refine ⟨u :: us, by rw [List.length_cons, List.length_cons, l], by rw [List.flatten_cons, List.flatten_cons]; exact ru.append rv, fun j b xs e1 e2 => ?_⟩
    match j with
    | 0 => cases e1; cases e2; exact hl.isList
    | j + 1 => exact hh j b xs e1 e2
theorem call_sumL {X : Cx} (hc : X.calm = true) : CallR X (.builtin "sum") (rSumL X.K) := by
  intro pins s σ H xs us Q I r h
  obtain ⟨x, p, ls, its, rfl, hx, hp, pr, hz, q0, q1⟩ := h
  cases r with
  | cons h1 r1 =>
  cases r1 with
  | cons h2 r2 =>
  cases r2
  cases h1
  cases h2
  obtain ⟨ix, rx, lx, zx⟩ := I.list hx
  clear zx
  obtain ⟨ip, rp, lp, _⟩ := I.list hp
  cases rp
  have ex : ix = ls.map Value.ref := by
    clear lx hx pr q0 q1
    induction ls generalizing ix with
    | nil => cases rx; rfl
    | cons a l ih =>
      cases rx with
      | cons ha hr =>
        rename_i u us
        obtain rfl : u = Value.ref a := ha
        rw [List.map_cons, ih _ hr]
  subst ex
  obtain ⟨us, l, rv, hh⟩ := Paired.flat I pr
  have lf := rv.length
  refine sum_lists (acc := []) (its := us) (I.ok.hd hc) lx.isList lp.isList l hh (by simpa [← lf] using hz) (fun z h' tk keep => ⟨.ref p, H, I.kept (t' := tk) keep, rfl, q0 z⟩) fun z h' tk q m keep hq hat => ?_
  have hn : H q = none := by
    cases e : H q with
    | none => rfl
    | some o =>
      obtain ⟨o2, e2⟩ := obj_there (I.hok q o e)
      rw [hq] at e2
      cases e2
  exact ⟨.ref q, upd H q (.lst its.flatten), I.laidN (t' := tk) keep hq hn ⟨hz, _, _, rv, by simpa using hat⟩, rfl, q1 q hn⟩
def IsSum (sc : Scope) (es : List Expr) (x : Expr) : Prop := ∃ (a : Expr) (p p2 pos : Pos), es = [a] ∧ x = .Call (.Name "sum" p) [a, .List [] p2] [] pos ∧ Pl sc "sum" ∧ (∀ env, starEach [a, .List [] p2] env = (false, eval a env) :: starEach [.List [] p2] env)
def shSum : Shp := { e := IsSum }
def listsD : List PyData → Option (List (List PyData))
  | [] => some []
  | .list xs :: r => match listsD r with
    | some ys => some (xs :: ys)
    | none => none
  | _ :: _ => none
def m_sum : PyData → Option PyData
  | .list ds => match listsD ds with
    | some xs => if small xs.flatten.length then some (.list xs.flatten) else none
    | none => none
  | _ => none
theorem lists_dv {K : PySem.W.Frag} {B H : Hp} (s1 : Same B H) : ∀ {vs : List V} {ds : List PyData} {xs : List (List PyData)}, DvL K B vs ds → listsD ds = some xs → ∃ (ls : List Addr) (its : List (List V)), vs = ls.map V.ref ∧ Paired (fun a ys => SqL K H a ys) ls its ∧ DvL K B its.flatten xs.flatten
  | _, [], xs, .nil, e => by cases e; exact ⟨[], [], rfl, .nil, .nil⟩
  | _, d :: r, xs, .cons h t, e => by
    unfold listsD at e
    split at e
    · rename_i e0; cases e0
    · rename_i ys r' e0
      cases e0
      split at e
      · rename_i xs' e1
        cases e
        obtain ⟨b, vs, rfl, hb, rr⟩ := lst_dv h
        obtain ⟨ls, its, rfl, k1, k2⟩ := lists_dv s1 t e1
        exact ⟨b :: ls, vs :: its, rfl, .cons (.of (s1 _ _ hb)) k1, by rw [List.flatten_cons, List.flatten_cons]; exact rr.append k2⟩
      · cases e
    · cases e
theorem one_sum {X : Cx} (hc : X.calm = true) (hb : X.mg "sum" = none) : OneOk X shSum m_sum where
  run := fun es x h => by
    obtain ⟨a, p, p2, pos, rfl, rfl, hp, hst⟩ := h
    refine ⟨a, fun v H1 Q => (0 ≤ sizeLine) ∧ ∀ p, H1 p = none → rSumL X.K [v, .ref p] (upd H1 p (.lst [])) Q, rfl, fun σ H Q h => ?_, fun d z v B1 H1 Q hm s1 dv fin => ?_⟩
    · exact w_pe (pe_callB (call_sumL hc) hp hb (by decide +kernel) (pa_cons pe_w (pa_cons (pe_lst pa_nil) pa_nil rfl) (hst X.env)) (by decide +kernel) rfl (hst X.env) rfl) h
    · unfold m_sum at hm
      split at hm
      · rename_i ds
        split at hm
        · rename_i xs ek
          obtain ⟨hz, hm⟩ := ite_some hm
          cases hm
          refine ⟨Nat.zero_le _, fun q hq => ?_⟩
          obtain ⟨b, vs, rfl, hb, r⟩ := lst_dv dv
          have sh := same_upd (o := HO.lst []) hq
          obtain ⟨ls, its, rfl, k1, k2⟩ := lists_dv (s1.trans sh) r ek
          have bq : B1 q = none := by
            cases e : B1 q with
            | none => rfl
            | some u => rw [s1 _ _ e] at hq; cases hq
          refine ⟨b, q, ls, its, rfl, .of (sh _ _ (s1 _ _ hb)), .of upd_same, k1, by rw [k2.length]; exact small_line hz, fun z => ?_, fun l hl => ?_⟩
          · subst z
            cases k1
            refine fin (.ref q) (upd B1 q (.lst [])) _ (same_upd bq) (same_upd2 s1) sh (fun c u e => ?_) (.lst upd_same (k2.mono (same_upd bq)))
            by_cases w : c = q
            · subst w; rw [upd_same] at e; cases e; exact .inr ⟨hq, fun _ z => by cases z⟩
            · rw [upd_ne w] at e; exact .inl ⟨u, e⟩
          · have hl1 : H1 l = none := by
              by_cases w : l = q
              · subst w; exact hq
              · rw [upd_ne w] at hl; exact hl
            have bl : B1 l = none := by
              cases e : B1 l with
              | none => rfl
              | some u => rw [s1 _ _ e] at hl1; cases hl1
            refine fin (.ref l) (upd B1 l (.lst its.flatten)) _ (same_upd bl) (fun c u e => ?_) (sh.trans (same_upd hl)) (fun c u e => ?_) (.lst upd_same (k2.mono (same_upd bl)))
            · by_cases w : c = l
              · subst w; rw [upd_same] at e ⊢; exact e
              · rw [upd_ne w] at e ⊢
                rw [upd_ne (fun y => by subst y; rw [s1 _ _ e] at hq; cases hq)]
                exact s1 _ _ e
            · by_cases w : c = l
              · subst w; rw [upd_same] at e; cases e; exact .inr ⟨hl1, fun _ z => by cases z⟩
              · rw [upd_ne w] at e; exact .inl ⟨u, e⟩
        · cases hm
      · cases hm
  nt := fun _ _ _ h => h
  ns := fun _ _ _ _ _ h => h
section
variable {P : Program} {w : World} {K : PySem.W.Frag} {mg : Str → Option Value} {base : Heap} {k : Nat}
theorem ox_srt (h : mg "sorted" = none) : OxF P w K mg base k shSrt (one_ m_srt) := fun X e1 e2 e3 e4 e5 _ _ _ _ => one_ox (one_srt (by rw [e4]; exact h))
theorem ox_ld (h1 : mg "list" = none) (h2 : mg "dict" = none) : OxF P w K mg base k shLD (one_ m_ld) := fun X e1 e2 e3 e4 e5 _ _ hc _ => one_ox (one_ld hc (by rw [e4]; exact h1) (by rw [e4]; exact h2))
theorem ox_sum (h : mg "sum" = none) : OxF P w K mg base k shSum (one_ m_sum) := fun X e1 e2 e3 e4 e5 _ _ hc _ => one_ox (one_sum hc (by rw [e4]; exact h))
end
end Nv


set_option Elab.async false
set_option linter.all false
set_option maxRecDepth 100000
set_option maxHeartbeats 8000000
/-! Own error classes looked at; promises of nothing. -/
namespace Nv
open PySem PySem.Spec PyProof.Rows L2
section
variable {P : Program} {w : World} {K : PySem.W.Frag} {mg : Str → Option Value} {base : Heap} {k : Nat}
theorem at_err {f : Str} {cE : List Str} (h : ∀ x ∈ cE, ∃ q names st, ErrF P K mg x q names st ∧ f ∈ names) : AtOk K f cE [] := by
  refine ⟨fun x C hx hC => ?_, fun x C hx => by simp at hx⟩
  obtain ⟨q, names, st, T, hf⟩ := h x hx
  obtain ⟨C', _, _, _, _, h1, _, _, _, _, _, _, xf, _, hp⟩ := T.ex
  rw [hC] at h1
  cases h1
  exact ⟨xf, hp f hf⟩
/-- isinstance by a table -/
def kitB (K : PySem.W.Frag) (xs ts : List Str) (tbl : Str → Str → Bool) : Bool := xs.all fun x => ts.all fun t => match PySem.W.nsIn K mainGlobals x, PySem.W.nsIn K mainGlobals t with
  | some (some (.ref C)), some (some (.ref T)) => decide (PySem.W.kitOne K (.ref C) (.ref T) = some (tbl t x))
  | _, _ => false
theorem kit_at {xs ts : List Str} {tbl : Str → Str → Bool} (h : kitB K xs ts tbl = true) {x t : Str} {C T : Addr} (hx : x ∈ xs) (ht : t ∈ ts) (hC : PySem.W.nsIn K mainGlobals x = some (some (.ref C))) (hT : PySem.W.nsIn K mainGlobals t = some (some (.ref T))) : PySem.W.kitOne K (.ref C) (.ref T) = some (tbl t x) := by
  have z := List.all_eq_true.mp (List.all_eq_true.mp h x hx) t ht
  rw [hC, hT] at z
  simpa using z
theorem ic_err {t : Str} {tE : List (Str × Bool)} {xs ts : List Str} {tbl : Str → Str → Bool} {T : Addr} (h : kitB K xs ts tbl = true) (ht : t ∈ ts) (hT : PySem.W.nsIn K mainGlobals t = some (some (.ref T))) (hm : mg t = some (.ref T))
    (hx : ∀ x ∈ xs, ∃ q names st, ErrF P K mg x q names st) (hE : ∀ x b, tE.lookup x = some b → x ∈ xs ∧ tbl t x = b) : IcOk K mg t tE [] [] := by
  refine ⟨T, hm, fun x C b e hC => ?_, fun x C b e => by simp at e, fun n e => by simp at e⟩
  obtain ⟨h1, h2⟩ := hE x b e
  obtain ⟨q, names, st, T'⟩ := hx x h1
  obtain ⟨C', _, _, _, _, g1, _, _, _, _, _, _, _, xc, _⟩ := T'.ex
  rw [hC] at g1
  cases g1
  exact ⟨xc, by rw [kit_at h h1 ht hC hT, h2]⟩
/-- except by a table -/
def exmB (K : PySem.W.Frag) (xs : List Str) (t : Str) : Bool := xs.all fun x => match PySem.W.nsIn K mainGlobals x, PySem.W.nsIn K mainGlobals t with
  | some (some (.ref C)), some (some (.ref T)) => decide (PySem.W.exmOne K (.ref C) (.ref T) = some true)
  | _, _ => false
theorem exm_at {xs : List Str} {t : Str} (h : exmB K xs t = true) {T : Addr} (hT : PySem.W.nsIn K mainGlobals t = some (some (.ref T))) : ∀ y ∈ xs, ∀ C, PySem.W.nsIn K mainGlobals y = some (some (.ref C)) → PySem.W.exmOne K (.ref C) (.ref T) = some true := fun y hy C hC => by
  have z := List.all_eq_true.mp h y hy
  rw [hC, hT] at z
  simpa using z
theorem fg_no {CX : CXT} {T : List (Addr × Str)} {f : Addr} {fd : FuncData} {ps : List Str} {j : Nat} : FG P w K mg base CX j f fd ps (SpC K T fun _ _ => none) :=
  ⟨fun vs H Q E h => (by obtain ⟨_, _, _, _, _, _, _, e, _⟩ := h; cases e), fun A outer s H args us vs Q E _ _ _ _ _ h => (by obtain ⟨_, _, _, _, _, _, _, e, _⟩ := h; cases e)⟩
theorem ty_err {x q : Str} {names : List Str} {st : Stmt} (T : ErrF P K mg x q names st) : ∃ C, PySem.W.nsIn K mainGlobals x = some (some (.ref C)) ∧ mg x = some (.ref C) := by
  obtain ⟨C, _, _, _, _, h1, h2, _⟩ := T.ex
  exact ⟨C, h1, h2⟩
theorem look_tbl {xs : List Str} {t : Str} {tbl : Str → Str → Bool} {tE : List (Str × Bool)} (h : (tE.all fun p => decide (p.1 ∈ xs) && decide (tbl t p.1 = p.2)) = true) : ∀ x b, tE.lookup x = some b → x ∈ xs ∧ tbl t x = b := by
  intro x b e
  induction tE with
  | nil => simp at e
  | cons p l ih =>
    obtain ⟨y, c⟩ := p
    simp only [List.all_cons, Bool.and_eq_true, decide_eq_true_eq] at h
    rw [List.lookup_cons] at e
    by_cases z : x = y
    · subst z
      simp only [beq_self_eq_true] at e
      cases e
      exact h.1
    · have z' : (x == y) = false := by simpa using z
      rw [z'] at e
      exact ih h.2 e
end
end Nv


set_option Elab.async false
set_option linter.all false
set_option maxRecDepth 100000
set_option maxHeartbeats 8000000
/-! The head's facts for Nv: defs by names, own error classes, tables of code objects. -/
namespace Nv
open PySem PySem.Spec PyProof.Rows L2
/-- the object of a class below ValueError -/
def clsShape (K : PySem.W.Frag) (C : Addr) : Bool := match K.lookup C with
  | some ⟨.type "type", _, .cls cd, sl⟩ => (match cd.mro, sl.toList with
    | .ref D :: bm, [_, _, _, _, some (.builtin n), _] => decide (D = C) && (decide (n = "ValueError.__new__") && (!cd.hasDel && (cd.hasDict && PySem.HandSPX.refsVE bm)))
    | _, _ => false)
  | _ => false
theorem clsShape_ok {K : PySem.W.Frag} {C : Addr} (h : clsShape K C = true) : ∃ nm q N bs bm sn sub ab col dd k0 k1 k2 k3 k5, K.lookup C = some (excClassObj nm q C N bs bm true sn sub ab col dd k0 k1 k2 k3 k5 "ValueError.__new__") ∧ PySem.HandSPX.refsVE bm = true := by
  unfold clsShape at h
  split at h
  · rename_i dd cd sl ho
    split at h
    · rename_i D bm k0 k1 k2 k3 n k5 hm hs
      simp only [Bool.and_eq_true, decide_eq_true_eq, Bool.not_eq_true'] at h
      obtain ⟨rfl, rfl, hdel, hd, hb⟩ := h
      obtain ⟨nm, bs, mro, ns, qn, hdct, sn, sub, ab, col, del⟩ := cd
      dsimp only at hm hdel hd
      subst hm hdel hd
      have es : sl = #[k0, k1, k2, k3, some (.builtin "ValueError.__new__"), k5] := by
        obtain ⟨l⟩ := sl
        have hs : l = _ := hs
        rw [hs]
      subst es
      exact ⟨nm, qn, ns, bs, bm, sn, sub, ab, col, dd, k0, k1, k2, k3, k5, ho, hb⟩
    · cases h
  · cases h
abbrev ErW : Type := Option (Str × Str × Arguments × FuncBody × Scope × Addr × List Str × Addr)
/-- an own error class's __init__, as it stands -/
def errW (K : PySem.W.Frag) (x : Str) : ErW := match K.lookup (He.fAd K (x, some "__init__")) with
  | some ⟨_, _, .func fd, _⟩ => some (fd.name, fd.qualname, fd.params, fd.body, fd.scope, fd.globals, fd.closure.map (·.1), fd.builtins)
  | _ => none
structure ErD where
  x : Str
  q : Str
  names : List Str
  st : Stmt
def ErD.val (e : ErD) : ErW := some ("__init__", e.q, defArgs e.st, .stmts (defBody e.st), defScope e.st, mainGlobals, ["__class__"], builtinsNs)
def fdOk (K : PySem.W.Frag) (file q : Str) (C : Addr) (fd : FuncData) : Bool :=
  (match fd.defaults with
  | .none => true
  | _ => false) && ((match fd.code with
  | .ref cda => PySem.W.codeIn K (.ref cda) q && (match K.lookup cda with
    | some ⟨_, _, .fields vs, _⟩ => (match (vs[2]? : Option Value) with
      | some (.str f _) => file == f
      | _ => false)
    | _ => false)
  | _ => false) && (match fd.closure with
  | [(_, cc)] => (match K.lookup cc with
    | some ⟨_, _, .cell (some (.ref D)), _⟩ => decide (D = C)
    | _ => false)
  | _ => false))
def errX (file : Str) (K : PySem.W.Frag) (e : ErD) : Bool :=
  He.eqO (PySem.W.nsIn K mainGlobals e.x) (some (some (.ref (He.ga K e.x)))) && (He.eqO (PySem.W.findIn K (.ref (He.ga K e.x)) "__init__") (some (some (.ref (He.fAd K (e.x, some "__init__"))))) && (clsShape K (He.ga K e.x) && (errB K (He.ga K e.x) (He.fAd K (e.x, some "__init__")) e.names &&
  (He.eqO (PySem.W.nsIn K mainGlobals "super") (some none) && (match K.lookup (He.fAd K (e.x, some "__init__")) with
    | some ⟨_, _, .func fd, _⟩ => fdOk K file e.q (He.ga K e.x) fd
    | _ => false)))))
theorem errF_ok {P : Program} {K : PySem.W.Frag} {h : Heap} {mg : Str → Option Value} (X : K.In h) (G : h.Ns mainGlobals mg) (tp : (P.main.scope.names.lookup ("super" : Str)).isSome = false) {e : ErD} (b : errX (P.main.file : Str) K e = true) (o : errW K e.x = e.val) : ErrF P K mg e.x e.q e.names e.st := by
  simp only [errX, Bool.and_eq_true] at b
  obtain ⟨b1, b2, b3, b4, b5, b6⟩ := b
  replace b1 := He.eqO_ok b1
  replace b2 := He.eqO_ok b2
  replace b5 := He.eqO_ok b5
  obtain ⟨nm, q, N, bs, bm, sn, sub, ab, col, dd, k0, k1, k2, k3, k5, ob, rb⟩ := clsShape_ok b3
  cases hl : K.lookup (He.fAd K (e.x, some "__init__")) with
  | none => rw [hl] at b6; cases b6
  | some ob2 =>
    obtain ⟨oc, od, dt, osl⟩ := ob2
    unfold errW at o
    rw [hl] at b6 o
    cases dt with
    | func fd =>
      obtain ⟨n1, n2, n3, n4, n5, n6, n7, n8, n9, n10, n11, n12, n13, n14, n15⟩ := fd
      have o2 : (some (n1, n2, n3, n4, n5, n6, n7.map (·.1), n15) : ErW) = some (("__init__" : Str), e.q, defArgs e.st, FuncBody.stmts (defBody e.st), defScope e.st, mainGlobals, [("__class__" : Str)], builtinsNs) := o
      simp only [Option.some.injEq, Prod.mk.injEq] at o2
      obtain ⟨h1, h2, h3, h4, h5, h6, h7, h8⟩ := o2
      subst h1 h2 h3 h4 h5 h6 h8
      have b7 : fdOk K (P.main.file : Str) e.q (He.ga K e.x) _ = true := b6
      simp only [fdOk, Bool.and_eq_true] at b7
      obtain ⟨c1, c2, c3⟩ := b7
      cases n8 with
      | none =>
        cases n13 with
        | ref cda =>
          obtain ⟨c4, c5⟩ := He.ba c2
          cases hc : K.lookup cda with
          | none => rw [hc] at c5; cases c5
          | some ob3 =>
            obtain ⟨ccl, cdd, cdt, ccs⟩ := ob3
            rw [hc] at c5
            cases cdt with
            | fields vs =>
              cases hv : vs[2]? with
              | none => simp only [hv] at c5; cases c5
              | some vv =>
                cases vv with
                | str file tf =>
                  simp only [hv] at c5
                  cases n7 with
                  | nil => cases h7
                  | cons p r =>
                    cases r with
                    | cons p2 r2 => exact absurd (congrArg List.length h7) (by simp)
                    | nil =>
                      obtain ⟨pn, cc⟩ := p
                      have e7 : pn = ("__class__" : Str) := (List.cons.inj h7).1
                      subst e7
                      cases hcc : K.lookup cc with
                      | none => simp only [hcc] at c3; cases c3
                      | some ob4 =>
                        obtain ⟨cl, cld, cdt, csl⟩ := ob4
                        simp only [hcc] at c3
                        cases cdt with
                        | cell v =>
                          cases v with
                          | none => cases c3
                          | some v =>
                            cases v with
                            | ref D =>
                              have eD : D = He.ga K e.x := of_decide_eq_true c3
                              subst eD
                              exact err_mk X G e.x e.q e.names e.st b1 b2 hl hc hv c5 tp hcc b5 ob rb c4 b4
                            | _ => cases c3
                        | _ => cases c3
                | _ => simp only [hv] at c5; cases c5
            | _ => cases c5
        | _ => cases c2
      | _ => cases c1
    | _ => cases o
/-! ### the Hook -/
abbrev AlN : Type := (He.AlT × Bool) × List ErW
/-- what is looked at: all that the globals reach in so many steps, and the machine's own names -/
def asN (g : Addr → Option Obj) (n : Nat) : List Addr := cStatics :: He.asD g n
section
variable (n : Nat) (fa : List He.Fa) (fn : List He.DefD) (es : List ErD) (tf : List He.Defn) (ex : PySem.W.Frag → Bool)
def obsN (g : Addr → Option Obj) : AlN := ((He.obsT fa fn [] (He.frT g (asN g n)), ex (He.frT g (asN g n)) && He.tabsB g tf (He.frT g (asN g n))), es.map fun e => errW (He.frT g (asN g n)) e.x)
def valN (w : World) : AlN := ((He.valT fn [] w, true), es.map ErD.val)
structure SaysN (w : World) (h : Heap) (K : PySem.W.Frag) : Prop where
  x : He.SaysX fa fn [] tf ex w h K
  e : ∀ e ∈ es, errW K e.x = e.val
theorem saysN_x {w : World} {h : Heap} (e1 : He.obsT fa fn [] (He.frT h.get? (asN h.get? n)) = He.valT fn [] w) (e2 : (ex (He.frT h.get? (asN h.get? n)) && He.tabsB h.get? tf (He.frT h.get? (asN h.get? n))) = true) : He.SaysX fa fn [] tf ex w h (He.frT h.get? (asN h.get? n)) := by
  generalize asN h.get? n = as at e1 e2
  obtain ⟨h1, h2⟩ := He.ba e2
  have key : ∀ p ∈ tf, PySem.W.codeHdIn (He.frT h.get? as) (He.cT (He.frT h.get? as) p).1 (He.cT (He.frT h.get? as) p).2 = true ∧ ∃ o, h.get? (He.cT (He.frT h.get? as) p).2 = some o ∧ He.emptyTab o = true := by
    intro p hp
    obtain ⟨h3, h4⟩ := He.ba (List.all_eq_true.mp h2 p hp)
    refine ⟨h3, ?_⟩
    cases q : h.get? (He.cT (He.frT h.get? as) p).2 with
    | none => rw [q] at h4; cases h4
    | some o => rw [q] at h4; exact ⟨o, rfl, h4⟩
  refine ⟨e1, h1, fun p hp => (key p hp).1, fun p hp => ?_, fun p hp => ?_⟩
  · obtain ⟨_, o, q, z⟩ := key p hp
    exact He.frT_none q z
  · obtain ⟨_, o, q, z⟩ := key p hp
    rw [q, He.emptyTab_eq z]
def hookN : PySem.W.Hook where
  α := AlN
  obs := fun s => obsN n fa fn es tf ex s.heap.get?
  val := fun w => valN fn es w
  says := fun w h => ∃ K : PySem.W.Frag, K.In h ∧ SaysN fa fn es tf ex w h K
  of := fun _ _ e => ⟨_, He.frT_in, saysN_x n fa fn tf ex (congrArg (fun z : AlN => z.1.1) e) (congrArg (fun z : AlN => z.1.2) e), by
    have z := congrArg (fun z : AlN => z.2) e
    intro d hd
    obtain ⟨i, hi, eq⟩ := List.mem_iff_getElem.mp hd
    have z : es.map (fun e => errW _ e.x) = es.map ErD.val := z
    have k := congrArg (fun l => l[i]?) z
    simp only [List.getElem?_map, List.getElem?_eq_getElem hi, Option.map_some, Option.some.injEq] at k
    rw [eq] at k
    exact k⟩
  keeps := fun _ _ _ ⟨K, hK, c⟩ k => ⟨K, PySem.W.Frag.In.keeps hK k, ⟨c.x.t, c.x.more, c.x.hd, c.x.out, fun p hp => k _ _ (c.x.empty p hp)⟩, c.e⟩
end
theorem obsN_eq {n : Nat} {fa : List He.Fa} {fn : List He.DefD} {es : List ErD} {tf : List He.Defn} {ex : PySem.W.Frag → Bool} {g : Addr → Option Obj} {s : Shared} (h : ∀ a, g a = s.heap.get? a) : obsN n fa fn es tf ex g = (hookN n fa fn es tf ex).obs s := by
  have e : g = s.heap.get? := funext h
  rw [e] <;> rfl
/-- a def of the module, told by the head -/
theorem df_says {fa : List He.Fa} {fn : List He.DefD} {ts : List He.Tab} {w : World} {K : PySem.W.Frag} {h : Heap} {mg : Str → Option Value} (X : K.In h) (G : h.Ns mainGlobals mg) (c : He.SaysT fa fn ts w K) {x : Str} {st : Stmt} {dfl : List He.Dv} (hf : He.Fa.glo x ∈ fa)
    (hd : (⟨(x, none), x, x, defArgs st, defBody st, defScope st, dfl, []⟩ : He.DefD) ∈ fn) : Df K mg x st (dfl.map (He.Dv.v K)) := by
  obtain ⟨fd, F⟩ := He.SaysD.defs c.d hd
  have g := He.glo_ok X G (He.SaysD.facts c.d hf)
  obtain ⟨oc, od, dV, kV, doc, pm, an, cdv, ct, osl, e, lk, hc, hdv, _⟩ := F.ex
  exact ⟨_, fd, g, ⟨oc, od, dV, kV, doc, pm, an, cdv, ct, osl, e, lk, hc, hdv⟩, F.kp⟩
/-- the walk of a law row, with tables of code objects -/
theorem walk_gTE {l : PySem.W.OpenLaw} {n k : Nat} {q : Program} {loose : List Str}
    {XP : (Str → Option Value) → Heap → Prop} {YP : World → Heap → Prop} {d : DefRec} 
    {CX : World → CXT} {x : Str}
    (hn : l.most = some n) (hn2 : n ≤ sizeLine) (hdf : d.params.defaults = []) (room : Room k callerA)
    (F : ∀ (w : World) (mg : Str → Option Value) (fa : Addr) (h : Heap), YP w h → h.Ns mainGlobals mg → mg d.name = some (.ref fa) → ∃ (K : PySem.W.Frag) (fd : FuncData) (cs : List (Addr × Addr)) (sp : Sp),
      K.In h ∧ (∀ p ∈ cs, h.get? p.2 = some { cls := .none, data := .fields #[] }) ∧ (∀ p ∈ cs, K.lookup p.2 = none) ∧ (∀ p ∈ cs, PySem.W.CodeHd h p.1 p.2) ∧ (∀ (s : Shared) (u : Value), BindsTo s fd ⟨[u], []⟩ [(x, u)]) ∧
        (∀ (H : Hp) (a : Addr) (ns : List Int), ns.length ≤ n → (∀ z ∈ ns, Builtin.Int.intBits z ≤ 1048576) → OnlyT (cs.map (·.2)) H → SqL K H a (ns.map V.int) → sp [.ref a] H (fun v _ => v = .bl true) fun _ _ _ => False) ∧
        ∀ base : Heap, K.In base → base.Ns mainGlobals mg → (∀ p ∈ cs, LamX.TabB base mg p.1 p.2) → FG l.prog w K mg base (CX w) k fa fd [x] sp)
    (hCX : ∀ (w : World) (H : Hp) (s : Shared) (e : Value) (s' : Shared), CX w [] H s (fun _ _ _ => False) e s' → False) :
    PySem.W.WalkO q loose XP YP l.row.toRowW d [] (fun f vs => PySem.call f vs) := by
  refine Att.attach_callB hn hdf fun w t0 t1 mg mb fa o pm cd doc a vs ns G Y ho hd hcd hmg hobj hints hlen hbits hg => ?_
  obtain ⟨K, fd, cs, sp, kin, hT, nT, hC, hb, hsp, hF⟩ := F w mg fa _ Y G.T.g hmg
  exact law_gT kin G.T.g G.T.b G.T.builtins G.T.nolimit hg hobj hints (Nat.le_trans hlen hn2) room hT nT hC G.T.bmain hF hb
    (fun H hO hS => hsp H a ns hlen hbits hO hS) fun H e t => hCX w H t1 e t
end Nv


set_option Elab.async false
set_option linter.all false
set_option maxRecDepth 100000
set_option maxHeartbeats 8000000
/-! Big steps: what a code does, step by step, for symbolic runs. -/
namespace Nv
open PySem PySem.Spec PyProof.Rows L2
section
variable {F : Fns} {δ δ1 : Env_} {h h1 h2 h3 : Hh} {o : Out} {v x y : Vv} {e : PyData}
theorem ss_nil : evalSs F .nil δ h = some (.nx δ h) := by simp only [evalSs]
theorem ss_nx {s : Sd} {ss : Sds} (a : evalS F s δ h = some (.nx δ1 h1)) {r : Option Out} (b : evalSs F ss δ1 h1 = r) : evalSs F (.cons s ss) δ h = r := by simp only [evalSs, a, thenS, b]
theorem ss_rt {s : Sd} {ss : Sds} (a : evalS F s δ h = some (.rt v h1)) : evalSs F (.cons s ss) δ h = some (.rt v h1) := by simp only [evalSs, a, thenS]
theorem ss_ex {s : Sd} {ss : Sds} (a : evalS F s δ h = some (.ex e h1)) : evalSs F (.cons s ss) δ h = some (.ex e h1) := by simp only [evalSs, a, thenS]
theorem s_asg {i : Nat} {c : C} (a : evalE F c δ h = some (.ok v, h1)) : evalS F (.asg i c) δ h = some (.nx (δ.set i (some v)) h1) := by simp only [evalS, a, bndS]
theorem s_asgX {i : Nat} {c : C} (a : evalE F c δ h = some (.ex e, h1)) : evalS F (.asg i c) δ h = some (.ex e h1) := by simp only [evalS, a, bndS]
theorem s_ret {c : C} (a : evalE F c δ h = some (.ok v, h1)) : evalS F (.ret c) δ h = some (.rt v h1) := by simp only [evalS, a, bndS]
theorem s_retX {c : C} (a : evalE F c δ h = some (.ex e, h1)) : evalS F (.ret c) δ h = some (.ex e h1) := by simp only [evalS, a, bndS]
theorem s_expr {c : C} (a : evalE F c δ h = some (.ok v, h1)) : evalS F (.expr c) δ h = some (.nx δ h1) := by simp only [evalS, a, bndS]
theorem s_ifT {t : C} {p q : Sds} {d : PyData} (a : evalE F t δ h = some (.ok (.d d), h1)) (b : truthD d = some true) : evalS F (.ifs t p q) δ h = evalSs F p δ h1 := by simp only [evalS, a, bndS, datV, Option.bind, b]
theorem s_ifF {t : C} {p q : Sds} {d : PyData} (a : evalE F t δ h = some (.ok (.d d), h1)) (b : truthD d = some false) : evalS F (.ifs t p q) δ h = evalSs F q δ h1 := by simp only [evalS, a, bndS, datV, Option.bind, b]
theorem s_ifB {t : C} {p q : Sds} {b : Bool} (a : evalE F t δ h = some (.ok (.d (.bool b)), h1)) : evalS F (.ifs t p q) δ h = if b then evalSs F p δ h1 else evalSs F q δ h1 := by
  cases b
  · rw [s_ifF a rfl]; rfl
  · rw [s_ifT a rfl]; rfl
theorem s_par {i j : Nat} {a b : C} (ea : evalE F a δ h = some (.ok x, h1)) (eb : evalE F b δ h1 = some (.ok y, h2)) : evalS F (.par i j a b) δ h = some (.nx ((δ.set i (some x)).set j (some y)) h2) := by simp only [evalS, ea, eb, bndS]
theorem s_unp {is : List Nat} {c : C} (a : evalE F c δ h = some (.ok v, h1)) (b : setTg (.many is) v δ = some δ1) : evalS F (.unp is c) δ h = some (.nx δ1 h1) := by simp only [evalS, a, bndS, b]
theorem s_for {tg : Tg} {it : Ci} {b : Sds} {xs : List PyData} {r : Option Out} (a : evalI F it δ h = some (.ok xs, h1)) (z : small xs.length = true) (l : forLoop (evalSs F b) tg xs δ h1 = r) : evalS F (.for_ tg it b) δ h = r := by simp only [evalS, a, bndS, z, if_true, l]
theorem for_nil {b : Env_ → Hh → Option Out} {tg : Tg} : forLoop b tg [] δ h = some (.nx δ h) := rfl
theorem for_nx {b : Env_ → Hh → Option Out} {tg : Tg} {d : PyData} {ds : List PyData} {δ2 : Env_} {r : Option Out} (s : setTg tg (.d d) δ = some δ1) (a : b δ1 h = some (.nx δ2 h1)) (l : forLoop b tg ds δ2 h1 = r) : forLoop b tg (d :: ds) δ h = r := by simp only [forLoop, s, a, l]
theorem for_rt {b : Env_ → Hh → Option Out} {tg : Tg} {d : PyData} {ds : List PyData} (s : setTg tg (.d d) δ = some δ1) (a : b δ1 h = some (.rt v h1)) : forLoop b tg (d :: ds) δ h = some (.rt v h1) := by simp only [forLoop, s, a]
theorem s_while {t : C} {b : Sds} {r : Option Out} (a : whileLoop (evalE F t) (evalSs F b) fuel δ h = r) : evalS F (.while_ t b) δ h = r := by simp only [evalS, a]
theorem wh_stop {t : Env_ → Hh → Ev Vv} {b : Env_ → Hh → Option Out} {n : Nat} {d : PyData} (a : t δ h = some (.ok (.d d), h1)) (f : truthD d = some false) : whileLoop t b (n + 1) δ h = some (.nx δ h1) := by simp only [whileLoop, a, bndS, datV, Option.bind, f]
theorem wh_nx {t : Env_ → Hh → Ev Vv} {b : Env_ → Hh → Option Out} {n : Nat} {d : PyData} {r : Option Out} (a : t δ h = some (.ok (.d d), h1)) (f : truthD d = some true) (g : b δ h1 = some (.nx δ1 h2)) (l : whileLoop t b n δ1 h2 = r) : whileLoop t b (n + 1) δ h = r := by simp only [whileLoop, a, bndS, datV, Option.bind, f, g, l]
/-! expressions -/
theorem e_var {i : Nat} (a : getS δ i = some v) : evalE F (.var i) δ h = some (.ok v, h) := by simp only [evalE, a]
theorem e_cst {d : PyData} : evalE F (.cst d) δ h = some (.ok (.d d), h) := by simp only [evalE]
theorem e_glb {d : PyData} : evalE F (.glb d) δ h = some (.ok (.d d), h) := by simp only [evalE]
theorem l_nil : evalL F .nil δ h = some (.ok [], h) := by simp only [evalL]
theorem l_cons {c : C} {cs : Cs} {vs : List Vv} (a : evalE F c δ h = some (.ok v, h1)) (b : evalL F cs δ h1 = some (.ok vs, h2)) : evalL F (.cons c cs) δ h = some (.ok (v :: vs), h2) := by simp only [evalL, a, b, bnd]
theorem e_call {f : Nat} {es : Cs} {vs : List Vv} {r : Ev Vv} (a : evalL F es δ h = some (.ok vs, h1)) (b : cellCall (F.fn f) vs h1 = r) : evalE F (.call f es) δ h = r := by simp only [evalE, a, bnd, b]
theorem e_op {i : Nat} {es : Cs} {vs : List Vv} {ds : List PyData} {z : PyData} (a : evalL F es δ h = some (.ok vs, h1)) (b : datL vs = some ds) (c : F.ox i ds = some z) : evalE F (.op i es) δ h = some (.ok (.d z), h1) := by simp only [evalE, a, bnd, b, c, giv]
theorem e_andT {a b : C} {r : Ev Vv} (ea : evalE F a δ h = some (.ok (.d (.bool true)), h1)) (eb : evalE F b δ h1 = r) : evalE F (.and_ a b) δ h = r := by simp only [evalE, ea, bnd, boolT, eb]
theorem e_andF {a b : C} (ea : evalE F a δ h = some (.ok (.d (.bool false)), h1)) : evalE F (.and_ a b) δ h = some (.ok (.d (.bool false)), h1) := by simp only [evalE, ea, bnd, boolT]
theorem e_orT {a b : C} (ea : evalE F a δ h = some (.ok (.d (.bool true)), h1)) : evalE F (.or_ a b) δ h = some (.ok (.d (.bool true)), h1) := by simp only [evalE, ea, bnd, boolT]
theorem e_orF {a b : C} {r : Ev Vv} (ea : evalE F a δ h = some (.ok (.d (.bool false)), h1)) (eb : evalE F b δ h1 = r) : evalE F (.or_ a b) δ h = r := by simp only [evalE, ea, bnd, boolT, eb]
theorem e_not {a : C} {b : Bool} (ea : evalE F a δ h = some (.ok (.d (.bool b)), h1)) : evalE F (.not_ a) δ h = some (.ok (.d (.bool (!b))), h1) := by simp only [evalE, ea, bnd, boolT]
theorem e_iteT {t a b : C} {d : PyData} {r : Ev Vv} (et : evalE F t δ h = some (.ok (.d d), h1)) (z : truthD d = some true) (ea : evalE F a δ h1 = r) : evalE F (.ite t a b) δ h = r := by simp only [evalE, et, bnd, datV, Option.bind, z, ea]
theorem e_iteF {t a b : C} {d : PyData} {r : Ev Vv} (et : evalE F t δ h = some (.ok (.d d), h1)) (z : truthD d = some false) (ea : evalE F b δ h1 = r) : evalE F (.ite t a b) δ h = r := by simp only [evalE, et, bnd, datV, Option.bind, z, ea]
theorem e_bin {op : Operator} {a b : C} {p q z : PyData} (ea : evalE F a δ h = some (.ok (.d p), h1)) (eb : evalE F b δ h1 = some (.ok (.d q), h2)) (k : binN op p q = some z) : evalE F (.bin op a b) δ h = some (.ok (.d z), h2) := by simp only [evalE, ea, eb, bnd, dd2, dd1, giv, k]
theorem e_cmp {op : CmpOp} {a b : C} {p q : PyData} {z : Bool} (ea : evalE F a δ h = some (.ok (.d p), h1)) (eb : evalE F b δ h1 = some (.ok (.d q), h2)) (k : cmpN op p q = some z) : evalE F (.cmp op a b) δ h = some (.ok (.d (.bool z)), h2) := by simp only [evalE, ea, eb, bnd, dd2, dd1, giv, k, Option.map]
theorem e_neE {ne : Bool} {a : C} {z : PyData} (ea : evalE F a δ h = some (.ok x, h1)) (k : neE ne x h1 = some z) : evalE F (.neE ne a) δ h = some (.ok (.d z), h1) := by simp only [evalE, ea, bnd, giv, k]
theorem e_blt {b : Bt} {a : C} {z : PyData} (ea : evalE F a δ h = some (.ok x, h1)) (k : bltV b x h1 = some z) : evalE F (.blt b a) δ h = some (.ok (.d z), h1) := by simp only [evalE, ea, bnd, giv, k]
theorem e_sub {a i : C} {r : Ev Vv} (ea : evalE F a δ h = some (.ok x, h1)) (ei : evalE F i δ h1 = some (.ok y, h2)) (k : subV x y h2 = r) : evalE F (.sub a i) δ h = r := by simp only [evalE, ea, ei, bnd, k]
theorem e_tup {es : Cs} {vs : List Vv} {ds : List PyData} (a : evalL F es δ h = some (.ok vs, h1)) (b : datL vs = some ds) (c : small ds.length = true) : evalE F (.tup es) δ h = some (.ok (.d (.tuple ds)), h1) := by simp only [evalE, a, bnd, b, c, if_true]
theorem e_lst {es : Cs} {vs : List Vv} {ds : List PyData} (a : evalL F es δ h = some (.ok vs, h1)) (b : datL vs = some ds) (c : small ds.length = true) : evalE F (.lst es) δ h = some (.ok (.d (.list ds)), h1) := by simp only [evalE, a, bnd, b, c, if_true]
theorem e_isi {a : C} {tys : List String} {d : PyData} {b : Bool} (ea : evalE F a δ h = some (.ok (.d d), h1)) (k : isiD d tys = some b) : evalE F (.isi a tys) δ h = some (.ok (.d (.bool b)), h1) := by simp only [evalE, ea, bnd, dd1, giv, k, Option.map]
theorem e_isc {a : C} {tE tI : List (Str × Bool)} {tO : List String} {d : PyData} {b : Bool} (ea : evalE F a δ h = some (.ok (.d d), h1)) (k : iscD tE tI tO d = some b) : evalE F (.isc a tE tI tO) δ h = some (.ok (.d (.bool b)), h1) := by simp only [evalE, ea, bnd, dd1, giv, k, Option.map]
theorem e_attr {a : C} {f : Str} {cE cI : List Str} {d z : PyData} (ea : evalE F a δ h = some (.ok (.d d), h1)) (k : attrD f cE cI d = some z) : evalE F (.attr a f cE cI) δ h = some (.ok (.d z), h1) := by simp only [evalE, ea, bnd, dd1, giv, k]
theorem e_upto {a n : C} {d e z : PyData} (ea : evalE F a δ h = some (.ok (.d d), h1)) (en : evalE F n δ h1 = some (.ok (.d e), h2)) (k : uptoD d e = some z) : evalE F (.upto a n) δ h = some (.ok (.d z), h2) := by simp only [evalE, ea, en, bnd, dd2, dd1, giv, k]
theorem e_neg {a : C} {i : Int} (ea : evalE F a δ h = some (.ok (.d (.int i)), h1)) : evalE F (.neg a) δ h = some (.ok (.d (.int (-i))), h1) := by simp only [evalE, ea, bnd]
theorem e_newL {es : Cs} {vs : List Vv} (a : evalL F es δ h = some (.ok vs, h1)) (z : small vs.length = true) : evalE F (.newL es) δ h = some (.ok (.r h1.length), h1 ++ [.lst vs]) := by simp only [evalE, a, bnd, z, if_true]
theorem e_newD : evalE F .newD δ h = some (.ok (.r h.length), h ++ [.dct []]) := by simp only [evalE]
theorem e_popL {a : C} {r : Ev Vv} (ea : evalE F a δ h = some (.ok x, h1)) (k : popL x h1 = r) : evalE F (.popL a) δ h = r := by simp only [evalE, ea, bnd, k]
theorem e_popA {a i : C} {r : Ev Vv} (ea : evalE F a δ h = some (.ok x, h1)) (z : isLst x h1 = true) (ei : evalE F i δ h1 = some (.ok y, h2)) (k : popA x y h2 = r) : evalE F (.popA a i) δ h = r := by simp only [evalE, ea, bnd, z, if_true, ei, k]
theorem e_frz {a : C} {r : Ev Vv} (ea : evalE F a δ h = some (.ok x, h1)) (k : frzV x h1 = r) : evalE F (.frz a) δ h = r := by simp only [evalE, ea, bnd, k]
theorem e_sortK {a : C} {r : Ev Vv} (ea : evalE F a δ h = some (.ok x, h1)) (k : sortKV x h1 = r) : evalE F (.sortK a) δ h = r := by simp only [evalE, ea, bnd, k]
theorem e_callX {f : Nat} {es : Cs} (a : evalL F es δ h = some (.ex e, h1)) : evalE F (.call f es) δ h = some (.ex e, h1) := by simp only [evalE, a, bnd]
theorem s_app {a c : C} {r : Option Out} (ea : evalE F a δ h = some (.ok x, h1)) (z : isLst x h1 = true) (ec : evalE F c δ h1 = some (.ok v, h2)) (k : appO x v δ h2 = r) : evalS F (.app a c) δ h = r := by simp only [evalS, ea, bndS, z, if_true, ec, k]
theorem s_ext {a c : C} {r : Option Out} (ea : evalE F a δ h = some (.ok x, h1)) (z : isLst x h1 = true) (ec : evalE F c δ h1 = some (.ok v, h2)) (k : extO x v δ h2 = r) : evalS F (.ext a c) δ h = r := by simp only [evalS, ea, bndS, z, if_true, ec, k]
theorem s_setI {a i c : C} {r : Option Out} (ec : evalE F c δ h = some (.ok v, h1)) (ea : evalE F a δ h1 = some (.ok x, h2)) (ei : evalE F i δ h2 = some (.ok y, h3)) (k : setIO x y v δ h3 = r) : evalS F (.setI a i c) δ h = r := by simp only [evalS, ec, ea, ei, bndS, k]
theorem s_aug {i : Nat} {op : Operator} {c : C} {p q z : PyData} (g : getS δ i = some (.d p)) (ec : evalE F c δ h = some (.ok (.d q), h1)) (k : augD op p q = some z) : evalS F (.aug i op c) δ h = some (.nx (δ.set i (some (.d z))) h1) := by simp only [evalS, g, ec, bndS, k]
theorem s_raise {x : Str} {fs : List Str} {es : Cs} {vs : List Vv} {ds : List PyData} (a : evalL F es δ h = some (.ok vs, h1)) (b : datL vs = some ds) (l : ds.length = fs.length) : evalS F (.raise_ x fs es) δ h = some (.ex (.dict ((.none, .str x) :: ((fs.zip ds).reverse.map fun p => (PyData.str p.1, p.2)))) h1) := by simp only [evalS, a, bndS, b, l, if_true]
theorem e_heard {c : C} {r : Rs Vv} {k : Ev Vv} (a : evalE F c δ h = some (r, h1)) (b : F.hr (errOf r) h1 = k) : evalE F (.heard c) δ h = k := by simp only [evalE, a, b]
/-- a comprehension without a test, whose items are what f says -/
theorem comp_map {elt : Env_ → Hh → Ev Vv} {tg : Tg} {f : PyData → PyData} : ∀ {xs : List PyData}, (∀ x ∈ xs, ∃ δ', setTg tg (.d x) δ = some δ' ∧ elt δ' h = some (.ok (.d (f x)), h)) → compLoop (fun _ h => some (.ok (.d (.bool true)), h)) elt tg δ xs h = some ((xs.map f).map .d, h)
  | [], _ => rfl
  | x :: xs, hx => by
    obtain ⟨δ', s, a⟩ := hx x List.mem_cons_self
    have t := comp_map (xs := xs) fun y hy => hx y (List.mem_cons_of_mem _ hy)
    simp only [compLoop, s, truthD, a, t, List.map_cons]
/-- .. item by item -/
theorem comp_rel {elt : Env_ → Hh → Ev Vv} {tg : Tg} : ∀ {xs zs : List PyData}, Paired (fun x z => ∃ δ', setTg tg (.d x) δ = some δ' ∧ elt δ' h = some (.ok (.d z), h)) xs zs → compLoop (fun _ h => some (.ok (.d (.bool true)), h)) elt tg δ xs h = some (zs.map .d, h)
  | [], [], .nil => rfl
  | x :: xs, z :: zs, .cons hx r => by
    obtain ⟨δ', s, a⟩ := hx
    simp only [compLoop, s, truthD, a, comp_rel r, List.map_cons]
theorem datL_map : ∀ ds : List PyData, datL (ds.map .d) = some ds
  | [] => rfl
  | d :: ds => by simp only [List.map_cons, datL, datL_map ds]
theorem e_comp {elt : C} {tg : Tg} {it : Ci} {xs : List PyData} {f : PyData → PyData} (a : evalI F it δ h = some (.ok xs, h1)) (z : small xs.length = true) (l : ∀ x ∈ xs, ∃ δ', setTg tg (.d x) δ = some δ' ∧ evalE F elt δ' h1 = some (.ok (.d (f x)), h1)) : evalE F (.comp elt tg it .non) δ h = some (.ok (.d (.list (xs.map f))), h1) := by
  simp only [evalE, a, bnd, z, if_true, comp_map l, datL_map]
theorem e_compR {elt : C} {tg : Tg} {it : Ci} {xs zs : List PyData} (a : evalI F it δ h = some (.ok xs, h1)) (z : small xs.length = true) (l : Paired (fun x z => ∃ δ', setTg tg (.d x) δ = some δ' ∧ evalE F elt δ' h1 = some (.ok (.d z), h1)) xs zs) : evalE F (.comp elt tg it .non) δ h = some (.ok (.d (.list zs)), h1) := by
  simp only [evalE, a, bnd, z, if_true, comp_rel l, datL_map]
theorem i_seq {c : C} {d : PyData} {xs : List PyData} (a : evalE F c δ h = some (.ok (.d d), h1)) (b : itemsD d = some xs) : evalI F (.seq c) δ h = some (.ok xs, h1) := by simp only [evalI, a, bnd, datV, Option.bind, b]
end
theorem pr_mapR {α β γ : Type} {F : α → γ → Prop} {g : β → γ} : ∀ {l : List α} {m : List β}, Paired (fun a b => F a (g b)) l m → Paired F l (m.map g)
  | _, _, .nil => .nil
  | _, _, .cons h r => .cons h (pr_mapR r)
theorem pr_imp {α β : Type} {F G : α → β → Prop} (f : ∀ a b, F a b → G a b) : ∀ {l : List α} {m : List β}, Paired F l m → Paired G l m
  | _, _, .nil => .nil
  | _, _, .cons h r => .cons (f _ _ h) (pr_imp f r)
theorem pr_two {α β γ : Type} {F : β → γ → Prop} {f : α → β} {g : α → γ} : ∀ {l : List α}, (∀ a ∈ l, F (f a) (g a)) → Paired F (l.map f) (l.map g)
  | [], _ => .nil
  | a :: l, h => .cons (h a List.mem_cons_self) (pr_two fun b hb => h b (List.mem_cons_of_mem _ hb))
/-! calls that see no cells -/
theorem refs_no : ∀ {vs : List Vv}, vs.all closedV = true → refsOf vs = [] ∧ ∀ k, renum vs k = vs
  | [], _ => ⟨rfl, fun _ => rfl⟩
  | .d x :: r, hv => by
    rw [List.all_cons, Bool.and_eq_true] at hv
    obtain ⟨h1, h2⟩ := refs_no hv.2
    exact ⟨h1, fun k => by show Vv.d x :: renum r k = _; rw [h2]⟩
  | .r n :: r, hv => by simp [closedV] at hv
theorem call_d {m : List Vv → Hh → Ev Vv} {vs : List Vv} {h obs : Hh} {z : PyData} (hv : vs.all closedV = true) (e : m vs [] = some (.ok (.d z), obs)) : cellCall m vs h = some (.ok (.d z), h) := by
  obtain ⟨k1, k2⟩ := refs_no hv
  unfold cellCall
  rw [k1, k2]
  simp only [nodupB, if_true, gather, List.all_nil, e]
  simp [finC, putBack]
theorem call_x {m : List Vv → Hh → Ev Vv} {vs : List Vv} {h obs : Hh} {z : PyData} (hv : vs.all closedV = true) (e : m vs [] = some (.ex z, obs)) : cellCall m vs h = some (.ex z, h) := by
  obtain ⟨k1, k2⟩ := refs_no hv
  unfold cellCall
  rw [k1, k2]
  simp only [nodupB, if_true, gather, List.all_nil, e]
  simp [finC, putBack]
theorem body_rt {F : Fns} {c : Sds} {N : List Str} {as : List Vv} {h h1 : Hh} {v : Vv} (e : evalSs F c (initS N as) h = some (.rt v h1)) : bodyM F c N as h = some (.ok v, h1) := by unfold bodyM; rw [e]
theorem body_nx {F : Fns} {c : Sds} {N : List Str} {as : List Vv} {h h1 : Hh} {δ : Env_} (e : evalSs F c (initS N as) h = some (.nx δ h1)) : bodyM F c N as h = some (.ok (.d .none), h1) := by unfold bodyM; rw [e]
theorem body_ex {F : Fns} {c : Sds} {N : List Str} {as : List Vv} {h h1 : Hh} {x : PyData} (e : evalSs F c (initS N as) h = some (.ex x h1)) : bodyM F c N as h = some (.ex x, h1) := by unfold bodyM; rw [e]
end Nv


set_option Elab.async false
set_option linter.all false
set_option maxRecDepth 100000
set_option maxHeartbeats 8000000
namespace K09
open PySem PySem.Spec PyProof.Rows L2 Nv
def top (i : Nat) : Stmt := PySem.Challenge.pw_foreverkept_k09_whole_wishes_granted_by.main.body.getD i (.Pass ⟨0, 0, 0, 0⟩)
abbrev s_is_listed : Stmt := top 2
def n_is_listed : List Str := ["value"]
theorem sc_is_listed : FnScope n_is_listed ["value"] (defScope s_is_listed) := ⟨rfl, rfl, rfl, by decide +kernel, rfl, by decide +kernel, by decide +kernel⟩
def g_is_listed : Gam := { bs := ["isinstance", "list", "tuple"], gs := [], es := [], xs := [], ats := [], ics := [], ox := [] }
def c_is_listed : Sds := (.cons (.ret (.isi (.var 0) ["list", "tuple"]))
    .nil)
theorem k_is_listed : CorSs g_is_listed n_is_listed (defScope s_is_listed) (defBody s_is_listed) c_is_listed := (.cons (.ret (.isi2 (.var rfl (by first | exact .inl rfl | exact .inr (.inl rfl) | exact .inr (.inr rfl)) rfl rfl) rfl (by decide +kernel) rfl (by decide +kernel) (by decide +kernel) (by decide +kernel) rfl rfl (by decide +kernel) (by decide +kernel) (by decide +kernel) rfl (fun _ => rfl)))
    .nil)
abbrev s_is_row : Stmt := top 3
def n_is_row : List Str := ["value", "many"]
theorem sc_is_row : FnScope n_is_row ["value", "many"] (defScope s_is_row) := ⟨rfl, rfl, rfl, by decide +kernel, rfl, by decide +kernel, by decide +kernel⟩
def g_is_row : Gam := { bs := ["len"], gs := [], es := [⟨"is_listed", 1, []⟩], xs := [], ats := [], ics := [], ox := [] }
def c_is_row : Sds := (.cons (.ret (.and_ (.call 0 (.cons (.var 0) .nil)) (.cmp .Eq (.blt .len (.var 0)) (.var 1))))
    .nil)
theorem k_is_row : CorSs g_is_row n_is_row (defScope s_is_row) (defBody s_is_row) c_is_row := (.cons (.ret (.and_ (.call (i := 0) rfl (.cons (.var rfl (by first | exact .inl rfl | exact .inr (.inl rfl) | exact .inr (.inr rfl)) rfl rfl) .nil (fun _ => rfl)) rfl rfl rfl) (.one (.cmp (.bltF rfl (.var rfl (by first | exact .inl rfl | exact .inr (.inl rfl) | exact .inr (.inr rfl)) rfl rfl) rfl (by decide +kernel) (by decide +kernel) (by decide +kernel) rfl (fun _ => rfl)) (.var rfl (by first | exact .inl rfl | exact .inr (.inl rfl) | exact .inr (.inr rfl)) rfl rfl) (nomark _)))))
    .nil)
abbrev s_is_name : Stmt := top 4
def n_is_name : List Str := ["value", "letter"]
theorem sc_is_name : FnScope n_is_name ["value"] (defScope s_is_name) := ⟨rfl, rfl, rfl, by decide +kernel, rfl, by decide +kernel, by decide +kernel⟩
def g_is_name : Gam := { bs := ["isinstance", "str", "len", "all"], gs := [("LETTERS", (.str "abcdefghijklmnopqrstuvwxyz"))], es := [], xs := [], ats := [], ics := [], ox := [] }
def c_is_name : Sds := (.cons (.ret (.and_ (.isi (.var 0) ["str"]) (.and_ (.chain .LtE .LtE (.cst (.int (1))) (.blt .len (.var 0)) (.cst (.int (8)))) (.blt .all (.comp (.cmp .In (.var 1) (.glb (.str "abcdefghijklmnopqrstuvwxyz"))) (.one 1) (.seq (.var 0)) .non)))))
    .nil)
theorem k_is_name : CorSs g_is_name n_is_name (defScope s_is_name) (defBody s_is_name) c_is_name := (.cons (.ret (.and_ (.isi1 (.var rfl (by first | exact .inl rfl | exact .inr (.inl rfl) | exact .inr (.inr rfl)) rfl rfl) rfl (by decide +kernel) rfl (by decide +kernel) (by decide +kernel) (by decide +kernel) rfl (fun _ => rfl)) (.and_ (.chain .int (.bltF rfl (.var rfl (by first | exact .inl rfl | exact .inr (.inl rfl) | exact .inr (.inr rfl)) rfl rfl) rfl (by decide +kernel) (by decide +kernel) (by decide +kernel) rfl (fun _ => rfl)) .int rfl) (.one (.bltF rfl (.comp (.seq (.var rfl (by first | exact .inl rfl | exact .inr (.inl rfl) | exact .inr (.inr rfl)) rfl rfl)) (blkOk_by (by decide +kernel)) (.one rfl) rfl (by decide +kernel) .non (.cmp (.var rfl (by first | exact .inl rfl | exact .inr (.inl rfl) | exact .inr (.inr rfl)) rfl rfl) (.glb 0 rfl rfl rfl) rfl) (fun _ _ => rfl) (by decide +kernel)) rfl (by decide +kernel) (by decide +kernel) (by decide +kernel) rfl (fun _ => rfl))))))
    .nil)
abbrev s_fixed : Stmt := top 15
def n_fixed : List Str := ["value", "part"]
theorem sc_fixed : FnScope n_fixed ["value"] (defScope s_fixed) := ⟨rfl, rfl, rfl, by decide +kernel, rfl, by decide +kernel, by decide +kernel⟩
def g_fixed : Gam := { bs := ["isinstance", "list", "tuple"], gs := [], es := [⟨"fixed", 1, []⟩], xs := [], ats := [], ics := [], ox := [] }
def c_fixed : Sds := (.cons (.ifs (.isi (.var 0) ["list", "tuple"]) (.cons (.ret (.blt .toTup (.comp (.call 0 (.cons (.var 1) .nil)) (.one 1) (.seq (.var 0)) .non)))
    .nil) .nil)
    (.cons (.ret (.var 0))
    .nil))
theorem k_fixed : CorSs g_fixed n_fixed (defScope s_fixed) (defBody s_fixed) c_fixed := (.cons (.ifs (.val (.isi2 (.var rfl (by first | exact .inl rfl | exact .inr (.inl rfl) | exact .inr (.inr rfl)) rfl rfl) rfl (by decide +kernel) rfl (by decide +kernel) (by decide +kernel) (by decide +kernel) rfl rfl (by decide +kernel) (by decide +kernel) (by decide +kernel) rfl (fun _ => rfl)) (fun _ _ => rfl)) (.cons (.ret (.bltT rfl (.comp (.seq (.var rfl (by first | exact .inl rfl | exact .inr (.inl rfl) | exact .inr (.inr rfl)) rfl rfl)) (blkOk_by (by decide +kernel)) (.one rfl) rfl (by decide +kernel) .non (.call (i := 0) rfl (.cons (.var rfl (by first | exact .inl rfl | exact .inr (.inl rfl) | exact .inr (.inr rfl)) rfl rfl) .nil (fun _ => rfl)) rfl rfl rfl) (fun _ _ => rfl) (by decide +kernel)) rfl (by decide +kernel) (by decide +kernel) (by decide +kernel) rfl (fun _ => rfl)))
    .nil) .nil)
    (.cons (.ret (.var rfl (by first | exact .inl rfl | exact .inr (.inl rfl) | exact .inr (.inr rfl)) rfl rfl))
    .nil))
abbrev s_within_wish : Stmt := top 25
def n_within_wish : List Str := ["wish"]
theorem sc_within_wish : FnScope n_within_wish ["wish"] (defScope s_within_wish) := ⟨rfl, rfl, rfl, by decide +kernel, rfl, by decide +kernel, by decide +kernel⟩
def g_within_wish : Gam := { bs := ["tuple"], gs := [("NOT", (.str "not")), ("OFTEN", (.str "often"))], es := [], xs := [], ats := [], ics := [], ox := [] }
def c_within_wish : Sds := (.cons (.ifs (.cmp .Eq (.sub (.var 0) (.cst (.int (0)))) (.glb (.str "often"))) (.cons (.ret (.tup .nil))
    .nil) .nil)
    (.cons (.ret (.ite (.cmp .Eq (.sub (.var 0) (.cst (.int (0)))) (.glb (.str "not"))) (.tup (.cons (.sub (.var 0) (.cst (.int (1)))) .nil)) (.blt .toTup (.sub (.var 0) (.cst (.int (1)))))))
    .nil))
theorem k_within_wish : CorSs g_within_wish n_within_wish (defScope s_within_wish) (defBody s_within_wish) c_within_wish := (.cons (.ifs (.cmp (.sub (.var rfl (by first | exact .inl rfl | exact .inr (.inl rfl) | exact .inr (.inr rfl)) rfl rfl) .int (fun _ _ => rfl)) (.glb 1 rfl rfl rfl) (nomark _)) (.cons (.ret (.tup .nil))
    .nil) .nil)
    (.cons (.ret (.ite (.cmp (.sub (.var rfl (by first | exact .inl rfl | exact .inr (.inl rfl) | exact .inr (.inr rfl)) rfl rfl) .int (fun _ _ => rfl)) (.glb 0 rfl rfl rfl) (nomark _)) (.tup (.cons (.sub (.var rfl (by first | exact .inl rfl | exact .inr (.inl rfl) | exact .inr (.inr rfl)) rfl rfl) .int (fun _ _ => rfl)) .nil (fun _ => rfl))) (.bltT rfl (.sub (.var rfl (by first | exact .inl rfl | exact .inr (.inl rfl) | exact .inr (.inr rfl)) rfl rfl) .int (fun _ _ => rfl)) rfl (by decide +kernel) (by decide +kernel) (by decide +kernel) rfl (fun _ => rfl))))
    .nil))
abbrev s_marks_in : Stmt := top 26
def n_marks_in : List Str := ["wish", "found", "line", "one"]
theorem sc_marks_in : FnScope n_marks_in ["wish"] (defScope s_marks_in) := ⟨rfl, rfl, rfl, by decide +kernel, rfl, by decide +kernel, by decide +kernel⟩
def g_marks_in : Gam := { bs := ["sorted", "tuple"], gs := [("OFTEN", (.str "often"))], es := [⟨"within_wish", 1, []⟩], xs := [], ats := [], ics := [], ox := [] }
def c_marks_in : Sds := (.cons (.par 1 2 .newD (.newL (.cons (.var 0) .nil)))
    (.cons (.while_ (.neE true (.var 2)) (.cons (.asg 3 (.popL (.var 2)))
    (.cons (.ifs (.cmp .Eq (.sub (.var 3) (.cst (.int (0)))) (.glb (.str "often"))) (.cons (.setI (.var 1) (.sub (.var 3) (.cst (.int (1)))) (.cst (.bool true)))
    .nil) .nil)
    (.cons (.ext (.var 2) (.call 0 (.cons (.var 3) .nil)))
    .nil))))
    (.cons (.ret (.blt .toTup (.sortK (.var 1))))
    .nil)))
theorem k_marks_in : CorSs g_marks_in n_marks_in (defScope s_marks_in) (defBody s_marks_in) c_marks_in := (.cons (.par rfl rfl (by decide) rfl rfl .newD (.newL (.cons (.var rfl (by first | exact .inl rfl | exact .inr (.inl rfl) | exact .inr (.inr rfl)) rfl rfl) .nil (fun _ => rfl))) (fun _ => rfl) (fun _ => rfl) (fun env h => by cases env; cases h; rfl) (fun _ => rfl))
    (.cons (.while_ (.neE (.var rfl (by first | exact .inl rfl | exact .inr (.inl rfl) | exact .inr (.inr rfl)) rfl rfl)) (.cons (.asg rfl (by first | exact .inl rfl | exact .inr rfl) (.popL (.var rfl (by first | exact .inl rfl | exact .inr (.inl rfl) | exact .inr (.inr rfl)) rfl rfl) rfl (fun _ => rfl)) (fun _ => rfl))
    (.cons (.ifs (.cmp (.sub (.var rfl (by first | exact .inl rfl | exact .inr (.inl rfl) | exact .inr (.inr rfl)) rfl rfl) .int (fun _ _ => rfl)) (.glb 0 rfl rfl rfl) (nomark _)) (.cons (.setI (.var rfl (by first | exact .inl rfl | exact .inr (.inl rfl) | exact .inr (.inr rfl)) rfl rfl) (.sub (.var rfl (by first | exact .inl rfl | exact .inr (.inl rfl) | exact .inr (.inr rfl)) rfl rfl) .int (fun _ _ => rfl)) .bl (fun _ => rfl) (fun _ => rfl) (fun _ _ => rfl) (fun _ => rfl) (fun _ _ => rfl))
    .nil) .nil)
    (.cons (.ext (.var rfl (by first | exact .inl rfl | exact .inr (.inl rfl) | exact .inr (.inr rfl)) rfl rfl) (.call (i := 0) rfl (.cons (.var rfl (by first | exact .inl rfl | exact .inr (.inl rfl) | exact .inr (.inr rfl)) rfl rfl) .nil (fun _ => rfl)) rfl rfl rfl) rfl (fun _ => rfl) (fun _ => rfl) (fun _ => rfl))
    .nil))))
    (.cons (.ret (.bltT rfl (.sortK (.var rfl (by first | exact .inl rfl | exact .inr (.inl rfl) | exact .inr (.inr rfl)) rfl rfl) rfl (by decide +kernel) (fun _ => rfl)) rfl (by decide +kernel) (by decide +kernel) (by decide +kernel) rfl (fun _ => rfl)))
    .nil)))
abbrev s_holds : Stmt := top 27
def n_holds : List Str := ["wish", "lot", "some", "one"]
theorem sc_holds : FnScope n_holds ["wish", "lot"] (defScope s_holds) := ⟨rfl, rfl, rfl, by decide +kernel, rfl, by decide +kernel, by decide +kernel⟩
def g_holds : Gam := { bs := ["all", "any"], gs := [("AND", (.str "and")), ("NOT", (.str "not")), ("OFTEN", (.str "often"))], es := [⟨"holds", 2, []⟩], xs := [], ats := [], ics := [], ox := [] }
def c_holds : Sds := (.cons (.ifs (.cmp .Eq (.sub (.var 0) (.cst (.int (0)))) (.glb (.str "often"))) (.cons (.ret (.cmp .In (.sub (.var 0) (.cst (.int (1)))) (.var 1)))
    .nil) .nil)
    (.cons (.ifs (.cmp .Eq (.sub (.var 0) (.cst (.int (0)))) (.glb (.str "not"))) (.cons (.ret (.not_ (.call 0 (.cons (.sub (.var 0) (.cst (.int (1)))) (.cons (.var 1) .nil)))))
    .nil) .nil)
    (.cons (.asg 2 (.comp (.call 0 (.cons (.var 3) (.cons (.var 1) .nil))) (.one 3) (.seq (.sub (.var 0) (.cst (.int (1))))) .non))
    (.cons (.ret (.ite (.cmp .Eq (.sub (.var 0) (.cst (.int (0)))) (.glb (.str "and"))) (.blt .all (.var 2)) (.blt .any (.var 2))))
    .nil))))
theorem k_holds : CorSs g_holds n_holds (defScope s_holds) (defBody s_holds) c_holds := (.cons (.ifs (.cmp (.sub (.var rfl (by first | exact .inl rfl | exact .inr (.inl rfl) | exact .inr (.inr rfl)) rfl rfl) .int (fun _ _ => rfl)) (.glb 2 rfl rfl rfl) (nomark _)) (.cons (.ret (.cmp (.sub (.var rfl (by first | exact .inl rfl | exact .inr (.inl rfl) | exact .inr (.inr rfl)) rfl rfl) .int (fun _ _ => rfl)) (.var rfl (by first | exact .inl rfl | exact .inr (.inl rfl) | exact .inr (.inr rfl)) rfl rfl) rfl))
    .nil) .nil)
    (.cons (.ifs (.cmp (.sub (.var rfl (by first | exact .inl rfl | exact .inr (.inl rfl) | exact .inr (.inr rfl)) rfl rfl) .int (fun _ _ => rfl)) (.glb 1 rfl rfl rfl) (nomark _)) (.cons (.ret (.not_ (.call (i := 0) rfl (.cons (.sub (.var rfl (by first | exact .inl rfl | exact .inr (.inl rfl) | exact .inr (.inr rfl)) rfl rfl) .int (fun _ _ => rfl)) (.cons (.var rfl (by first | exact .inl rfl | exact .inr (.inl rfl) | exact .inr (.inr rfl)) rfl rfl) .nil (fun _ => rfl)) (fun _ => rfl)) rfl rfl rfl)))
    .nil) .nil)
    (.cons (.asgLc rfl rfl rfl rfl (by decide +kernel) (.seq (.sub (.var rfl (by first | exact .inl rfl | exact .inr (.inl rfl) | exact .inr (.inr rfl)) rfl rfl) .int (fun _ _ => rfl))) (blkOk_by (by decide +kernel)) (.one rfl) rfl (by decide +kernel) .non (.call (i := 0) rfl (.cons (.var rfl (by first | exact .inl rfl | exact .inr (.inl rfl) | exact .inr (.inr rfl)) rfl rfl) (.cons (.var rfl (by first | exact .inl rfl | exact .inr (.inl rfl) | exact .inr (.inr rfl)) rfl rfl) .nil (fun _ => rfl)) (fun _ => rfl)) rfl rfl rfl) (fun _ _ => rfl) (by decide +kernel))
    (.cons (.ret (.ite (.cmp (.sub (.var rfl (by first | exact .inl rfl | exact .inr (.inl rfl) | exact .inr (.inr rfl)) rfl rfl) .int (fun _ _ => rfl)) (.glb 0 rfl rfl rfl) (nomark _)) (.bltF rfl (.var rfl (by first | exact .inl rfl | exact .inr (.inl rfl) | exact .inr (.inr rfl)) rfl rfl) rfl (by decide +kernel) (by decide +kernel) (by decide +kernel) rfl (fun _ => rfl)) (.bltF rfl (.var rfl (by first | exact .inl rfl | exact .inr (.inl rfl) | exact .inr (.inr rfl)) rfl rfl) rfl (by decide +kernel) (by decide +kernel) (by decide +kernel) rfl (fun _ => rfl))))
    .nil))))
abbrev s_parts_of : Stmt := top 28
def n_parts_of : List Str := ["value", "deep", "word", "told", "many", "one", "found"]
theorem sc_parts_of : FnScope n_parts_of ["value", "deep"] (defScope s_parts_of) := ⟨rfl, rfl, rfl, by decide +kernel, rfl, by decide +kernel, by decide +kernel⟩
def g_parts_of : Gam := { bs := ["len", "isinstance", "str"], gs := [("NOT", (.str "not")), ("OR", (.str "or")), ("AND", (.str "and")), ("MOST_ROWS", (.int (8))), ("OFTEN", (.str "often"))], es := [⟨"parts_of", 2, []⟩, ⟨"is_listed", 1, []⟩, ⟨"is_name", 1, []⟩, ⟨"is_row", 2, []⟩], xs := [], ats := [], ics := [], ox := [] }
def c_parts_of : Sds := (.cons (.ifs (.or_ (.cmp .Eq (.var 1) (.cst (.int (0)))) (.or_ (.not_ (.call 3 (.cons (.var 0) (.cons (.cst (.int (2))) .nil)))) (.not_ (.isi (.sub (.var 0) (.cst (.int (0)))) ["str"])))) (.cons (.ret (.cst .none))
    .nil) .nil)
    (.cons (.unp [2, 3] (.var 0))
    (.cons (.ifs (.cmp .Eq (.var 2) (.glb (.str "often"))) (.cons (.ret (.ite (.call 2 (.cons (.var 3) .nil)) (.cst (.int (1))) (.cst .none)))
    .nil) .nil)
    (.cons (.ifs (.and_ (.cmp .NotEq (.var 2) (.glb (.str "not"))) (.or_ (.cmp .NotIn (.var 2) (.tup (.cons (.glb (.str "and")) (.cons (.glb (.str "or")) .nil)))) (.or_ (.not_ (.call 1 (.cons (.var 3) .nil))) (.cmp .Gt (.blt .len (.var 3)) (.glb (.int (8))))))) (.cons (.ret (.cst .none))
    .nil) .nil)
    (.cons (.asg 4 (.cst (.int (1))))
    (.cons (.for_ (.one 5) (.seq (.ite (.cmp .Eq (.var 2) (.glb (.str "not"))) (.lst (.cons (.var 3) .nil)) (.var 3))) (.cons (.asg 6 (.call 0 (.cons (.var 5) (.cons (.bin .Sub (.var 1) (.cst (.int (1)))) .nil))))
    (.cons (.ifs (.cmp .Is (.var 6) (.cst .none)) (.cons (.ret (.cst .none))
    .nil) .nil)
    (.cons (.aug 4 .Add (.var 6))
    .nil))))
    (.cons (.ret (.var 4))
    .nil)))))))
theorem k_parts_of : CorSs g_parts_of n_parts_of (defScope s_parts_of) (defBody s_parts_of) c_parts_of := (.cons (.ifs (.bool (.or_ (.cmp (.var rfl (by first | exact .inl rfl | exact .inr (.inl rfl) | exact .inr (.inr rfl)) rfl rfl) .int (nomark _)) (.or_ (.not_ (.val (.call (i := 3) rfl (.cons (.var rfl (by first | exact .inl rfl | exact .inr (.inl rfl) | exact .inr (.inr rfl)) rfl rfl) (.cons .int .nil (fun _ => rfl)) (fun _ => rfl)) rfl rfl rfl) (fun _ _ => rfl))) (.one (.not_ (.val (.isi1 (.sub (.var rfl (by first | exact .inl rfl | exact .inr (.inl rfl) | exact .inr (.inr rfl)) rfl rfl) .int (fun _ _ => rfl)) rfl (by decide +kernel) rfl (by decide +kernel) (by decide +kernel) (by decide +kernel) rfl (fun _ => rfl)) (fun _ _ => rfl))))))) (.cons (.ret .non)
    .nil) .nil)
    (.cons (.unp (.cons rfl (.cons rfl .nil)) (by decide +kernel) (.var rfl (by first | exact .inl rfl | exact .inr (.inl rfl) | exact .inr (.inr rfl)) rfl rfl) (fun _ => rfl) (fun _ => rfl))
    (.cons (.ifs (.cmp (.var rfl (by first | exact .inl rfl | exact .inr (.inl rfl) | exact .inr (.inr rfl)) rfl rfl) (.glb 4 rfl rfl rfl) (nomark _)) (.cons (.ret (.ite (.val (.call (i := 2) rfl (.cons (.var rfl (by first | exact .inl rfl | exact .inr (.inl rfl) | exact .inr (.inr rfl)) rfl rfl) .nil (fun _ => rfl)) rfl rfl rfl) (fun _ _ => rfl)) .int .non))
    .nil) .nil)
    (.cons (.ifs (.bool (.and_ (.cmp (.var rfl (by first | exact .inl rfl | exact .inr (.inl rfl) | exact .inr (.inr rfl)) rfl rfl) (.glb 0 rfl rfl rfl) (nomark _)) (.one (.bool (.or_ (.cmp (.var rfl (by first | exact .inl rfl | exact .inr (.inl rfl) | exact .inr (.inr rfl)) rfl rfl) (.tup (.cons (.glb 2 rfl rfl rfl) (.cons (.glb 1 rfl rfl rfl) .nil (fun _ => rfl)) (fun _ => rfl))) rfl) (.or_ (.not_ (.val (.call (i := 1) rfl (.cons (.var rfl (by first | exact .inl rfl | exact .inr (.inl rfl) | exact .inr (.inr rfl)) rfl rfl) .nil (fun _ => rfl)) rfl rfl rfl) (fun _ _ => rfl))) (.one (.cmp (.bltF rfl (.var rfl (by first | exact .inl rfl | exact .inr (.inl rfl) | exact .inr (.inr rfl)) rfl rfl) rfl (by decide +kernel) (by decide +kernel) (by decide +kernel) rfl (fun _ => rfl)) (.glb 3 rfl rfl rfl) (nomark _))))))))) (.cons (.ret .non)
    .nil) .nil)
    (.cons (.asg rfl (by first | exact .inl rfl | exact .inr rfl) .int (fun _ => rfl))
    (.cons (.for_ (.one rfl) rfl (by decide +kernel) (.seq (.ite (.cmp (.var rfl (by first | exact .inl rfl | exact .inr (.inl rfl) | exact .inr (.inr rfl)) rfl rfl) (.glb 0 rfl rfl rfl) (nomark _)) (.lst (.cons (.var rfl (by first | exact .inl rfl | exact .inr (.inl rfl) | exact .inr (.inr rfl)) rfl rfl) .nil (fun _ => rfl))) (.var rfl (by first | exact .inl rfl | exact .inr (.inl rfl) | exact .inr (.inr rfl)) rfl rfl))) (.cons (.asg rfl (by first | exact .inl rfl | exact .inr rfl) (.call (i := 0) rfl (.cons (.var rfl (by first | exact .inl rfl | exact .inr (.inl rfl) | exact .inr (.inr rfl)) rfl rfl) (.cons (.bin (.var rfl (by first | exact .inl rfl | exact .inr (.inl rfl) | exact .inr (.inr rfl)) rfl rfl) .int) .nil (fun _ => rfl)) (fun _ => rfl)) rfl rfl rfl) (fun _ => rfl))
    (.cons (.ifs (.cmp (.var rfl (by first | exact .inl rfl | exact .inr (.inl rfl) | exact .inr (.inr rfl)) rfl rfl) .non (nomark _)) (.cons (.ret .non)
    .nil) .nil)
    (.cons (.aug rfl (by first | exact .inl rfl | exact .inr rfl) (.var rfl (by first | exact .inl rfl | exact .inr (.inl rfl) | exact .inr (.inr rfl)) rfl rfl) (.inl rfl))
    .nil))) (fun _ _ => rfl))
    (.cons (.ret (.var rfl (by first | exact .inl rfl | exact .inr (.inl rfl) | exact .inr (.inr rfl)) rfl rfl))
    .nil)))))))
abbrev s_is_wish : Stmt := top 29
def n_is_wish : List Str := ["value", "many"]
theorem sc_is_wish : FnScope n_is_wish ["value"] (defScope s_is_wish) := ⟨rfl, rfl, rfl, by decide +kernel, rfl, by decide +kernel, by decide +kernel⟩
def g_is_wish : Gam := { bs := ["len"], gs := [("MOST_PARTS", (.int (40))), ("MOST_MARKS", (.int (6))), ("MOST_DEEP", (.int (8)))], es := [⟨"marks_in", 1, []⟩, ⟨"parts_of", 2, []⟩], xs := [], ats := [], ics := [], ox := [] }
def c_is_wish : Sds := (.cons (.asg 1 (.call 1 (.cons (.var 0) (.cons (.glb (.int (8))) .nil))))
    (.cons (.ret (.and_ (.cmp .IsNot (.var 1) (.cst .none)) (.and_ (.cmp .LtE (.var 1) (.glb (.int (40)))) (.cmp .LtE (.blt .len (.call 0 (.cons (.var 0) .nil))) (.glb (.int (6)))))))
    .nil))
theorem k_is_wish : CorSs g_is_wish n_is_wish (defScope s_is_wish) (defBody s_is_wish) c_is_wish := (.cons (.asg rfl (by first | exact .inl rfl | exact .inr rfl) (.call (i := 1) rfl (.cons (.var rfl (by first | exact .inl rfl | exact .inr (.inl rfl) | exact .inr (.inr rfl)) rfl rfl) (.cons (.glb 2 rfl rfl rfl) .nil (fun _ => rfl)) (fun _ => rfl)) rfl rfl rfl) (fun _ => rfl))
    (.cons (.ret (.and_ (.cmp (.var rfl (by first | exact .inl rfl | exact .inr (.inl rfl) | exact .inr (.inr rfl)) rfl rfl) .non (nomark _)) (.and_ (.cmp (.var rfl (by first | exact .inl rfl | exact .inr (.inl rfl) | exact .inr (.inr rfl)) rfl rfl) (.glb 0 rfl rfl rfl) (nomark _)) (.one (.cmp (.bltF rfl (.call (i := 0) rfl (.cons (.var rfl (by first | exact .inl rfl | exact .inr (.inl rfl) | exact .inr (.inr rfl)) rfl rfl) .nil (fun _ => rfl)) rfl rfl rfl) rfl (by decide +kernel) (by decide +kernel) (by decide +kernel) rfl (fun _ => rfl)) (.glb 1 rfl rfl rfl) (nomark _))))))
    .nil))
abbrev s_need_wish : Stmt := top 30
def n_need_wish : List Str := ["value", "part"]
theorem sc_need_wish : FnScope n_need_wish ["value", "part"] (defScope s_need_wish) := ⟨rfl, rfl, rfl, by decide +kernel, rfl, by decide +kernel, by decide +kernel⟩
def g_need_wish : Gam := { bs := [], gs := [], es := [⟨"fixed", 1, []⟩, ⟨"is_wish", 1, []⟩], xs := [⟨"BadValue", ["part"]⟩], ats := [], ics := [], ox := [] }
def c_need_wish : Sds := (.cons (.ifs (.not_ (.call 1 (.cons (.var 0) .nil))) (.cons (.raise_ "BadValue" ["part"] (.cons (.var 1) .nil))
    .nil) .nil)
    (.cons (.ret (.call 0 (.cons (.var 0) .nil)))
    .nil))
theorem k_need_wish : CorSs g_need_wish n_need_wish (defScope s_need_wish) (defBody s_need_wish) c_need_wish := (.cons (.ifs (.not_ (.val (.call (i := 1) rfl (.cons (.var rfl (by first | exact .inl rfl | exact .inr (.inl rfl) | exact .inr (.inr rfl)) rfl rfl) .nil (fun _ => rfl)) rfl rfl rfl) (fun _ _ => rfl))) (.cons (.raise_ (by decide +kernel) (.cons (.var rfl (by first | exact .inl rfl | exact .inr (.inl rfl) | exact .inr (.inr rfl)) rfl rfl) .nil (fun _ => rfl)) rfl rfl)
    .nil) .nil)
    (.cons (.ret (.call (i := 0) rfl (.cons (.var rfl (by first | exact .inl rfl | exact .inr (.inl rfl) | exact .inr (.inr rfl)) rfl rfl) .nil (fun _ => rfl)) rfl rfl rfl))
    .nil))
abbrev s_marks_of : Stmt := top 31
def n_marks_of : List Str := ["wish"]
theorem sc_marks_of : FnScope n_marks_of ["wish"] (defScope s_marks_of) := ⟨rfl, rfl, rfl, by decide +kernel, rfl, by decide +kernel, by decide +kernel⟩
def g_marks_of : Gam := { bs := [], gs := [], es := [⟨"marks_in", 1, []⟩, ⟨"need_wish", 1, []⟩], xs := [], ats := [], ics := [], ox := [] }
def c_marks_of : Sds := (.cons (.ret (.call 0 (.cons (.call 1 (.cons (.var 0) .nil)) .nil)))
    .nil)
theorem k_marks_of : CorSs g_marks_of n_marks_of (defScope s_marks_of) (defBody s_marks_of) c_marks_of := (.cons (.ret (.call (i := 0) rfl (.cons (.call (i := 1) rfl (.cons (.var rfl (by first | exact .inl rfl | exact .inr (.inl rfl) | exact .inr (.inr rfl)) rfl rfl) .nil (fun _ => rfl)) rfl rfl rfl) .nil (fun _ => rfl)) rfl rfl rfl))
    .nil)
abbrev s_grants : Stmt := top 32
def n_grants : List Str := ["wish", "lot", "told", "mark"]
theorem sc_grants : FnScope n_grants ["wish", "lot"] (defScope s_grants) := ⟨rfl, rfl, rfl, by decide +kernel, rfl, by decide +kernel, by decide +kernel⟩
def g_grants : Gam := { bs := ["all"], gs := [], es := [⟨"holds", 2, []⟩, ⟨"is_listed", 1, []⟩, ⟨"is_name", 1, []⟩, ⟨"need_wish", 1, []⟩], xs := [⟨"BadValue", ["part"]⟩], ats := [], ics := [], ox := [] }
def c_grants : Sds := (.cons (.asg 2 (.call 3 (.cons (.var 0) .nil)))
    (.cons (.ifs (.or_ (.not_ (.call 1 (.cons (.var 1) .nil))) (.not_ (.blt .all (.comp (.call 2 (.cons (.var 3) .nil)) (.one 3) (.seq (.var 1)) .non)))) (.cons (.raise_ "BadValue" ["part"] (.cons (.cst (.str "lot")) .nil))
    .nil) .nil)
    (.cons (.ret (.call 0 (.cons (.var 2) (.cons (.var 1) .nil))))
    .nil)))
theorem k_grants : CorSs g_grants n_grants (defScope s_grants) (defBody s_grants) c_grants := (.cons (.asg rfl (by first | exact .inl rfl | exact .inr rfl) (.call (i := 3) rfl (.cons (.var rfl (by first | exact .inl rfl | exact .inr (.inl rfl) | exact .inr (.inr rfl)) rfl rfl) .nil (fun _ => rfl)) rfl rfl rfl) (fun _ => rfl))
    (.cons (.ifs (.bool (.or_ (.not_ (.val (.call (i := 1) rfl (.cons (.var rfl (by first | exact .inl rfl | exact .inr (.inl rfl) | exact .inr (.inr rfl)) rfl rfl) .nil (fun _ => rfl)) rfl rfl rfl) (fun _ _ => rfl))) (.one (.not_ (.val (.bltF rfl (.comp (.seq (.var rfl (by first | exact .inl rfl | exact .inr (.inl rfl) | exact .inr (.inr rfl)) rfl rfl)) (blkOk_by (by decide +kernel)) (.one rfl) rfl (by decide +kernel) .non (.call (i := 2) rfl (.cons (.var rfl (by first | exact .inl rfl | exact .inr (.inl rfl) | exact .inr (.inr rfl)) rfl rfl) .nil (fun _ => rfl)) rfl rfl rfl) (fun _ _ => rfl) (by decide +kernel)) rfl (by decide +kernel) (by decide +kernel) (by decide +kernel) rfl (fun _ => rfl)) (fun _ _ => rfl)))))) (.cons (.raise_ (by decide +kernel) (.cons .str .nil (fun _ => rfl)) rfl rfl)
    .nil) .nil)
    (.cons (.ret (.call (i := 0) rfl (.cons (.var rfl (by first | exact .inl rfl | exact .inr (.inl rfl) | exact .inr (.inr rfl)) rfl rfl) (.cons (.var rfl (by first | exact .inl rfl | exact .inr (.inl rfl) | exact .inr (.inr rfl)) rfl rfl) .nil (fun _ => rfl)) (fun _ => rfl)) rfl rfl rfl))
    .nil)))
abbrev s_law_draw : Stmt := top 35
def n_law_draw : List Str := ["pen", "many", "digit", "lap", "cell", "great", "mixed"]
theorem sc_law_draw : FnScope n_law_draw ["pen", "many"] (defScope s_law_draw) := ⟨rfl, rfl, rfl, by decide +kernel, rfl, by decide +kernel, by decide +kernel⟩
def g_law_draw : Gam := { bs := ["int", "len", "abs"], gs := [], es := [], xs := [], ats := [], ics := [], ox := [] }
def c_law_draw : Sds := (.cons (.ifs (.cmp .Gt (.sub (.var 0) (.cst (.int (2)))) (.cst (.int (0)))) (.cons (.asg 2 (.bin .Mod (.blt .toInt (.sub (.var 0) (.cst (.int (2))))) (.var 1)))
    (.cons (.setI (.var 0) (.cst (.int (2))) (.bin .FloorDiv (.blt .toInt (.sub (.var 0) (.cst (.int (2))))) (.var 1)))
    (.cons (.ret (.var 2))
    .nil))) .nil)
    (.cons (.asg 3 (.sub (.var 0) (.cst (.int (1)))))
    (.cons (.setI (.var 0) (.cst (.int (1))) (.bin .Add (.var 3) (.cst (.int (1)))))
    (.cons (.asg 4 (.bin .Add (.bin .Mult (.cst (.int (44044))) (.var 3)) (.cst (.int (6760)))))
    (.cons (.ifs (.neE true (.sub (.var 0) (.cst (.int (0))))) (.cons (.asg 4 (.sub (.sub (.var 0) (.cst (.int (0)))) (.bin .Mod (.blt .toInt (.var 3)) (.blt .len (.sub (.var 0) (.cst (.int (0))))))))
    .nil) .nil)
    (.cons (.ifs (.and_ (.cmp .Lt (.var 3) (.blt .len (.sub (.var 0) (.cst (.int (0)))))) (.cmp .GtE (.blt .abs (.var 4)) (.bin .Pow (.cst (.int (10))) (.cst (.int (18)))))) (.cons (.asg 5 (.bin .Add (.bin .Mult (.cst (.int (2))) (.bin .Sub (.blt .abs (.var 4)) (.bin .Pow (.cst (.int (10))) (.cst (.int (18)))))) (.blt .toInt (.cmp .Lt (.var 4) (.cst (.int (0)))))))
    (.cons (.setI (.var 0) (.cst (.int (2))) (.bin .FloorDiv (.blt .toInt (.var 5)) (.var 1)))
    (.cons (.ret (.bin .Mod (.blt .toInt (.var 5)) (.var 1)))
    .nil))) .nil)
    (.cons (.asg 6 (.bin .Mod (.blt .toInt (.bin .Pow (.bin .Add (.bin .Add (.bin .Mod (.blt .toInt (.var 4)) (.cst (.int (2147483549)))) (.bin .Mult (.cst (.int (51740))) (.var 3))) (.cst (.int (6760)))) (.cst (.int (5))))) (.cst (.int (2147483629)))))
    (.cons (.asg 6 (.bin .Mod (.blt .toInt (.bin .Pow (.bin .Add (.bin .Add (.bin .Mult (.var 6) (.bin .Add (.bin .Mult (.cst (.int (2))) (.var 3)) (.cst (.int (1318))))) (.bin .Mult (.bin .Mult (.cst (.int (90880))) (.var 3)) (.var 3))) (.cst (.int (44044)))) (.cst (.int (3))))) (.cst (.int (2147483587)))))
    (.cons (.ret (.bin .Mod (.blt .toInt (.bin .FloorDiv (.var 6) (.cst (.int (32))))) (.var 1)))
    .nil)))))))))
theorem k_law_draw : CorSs g_law_draw n_law_draw (defScope s_law_draw) (defBody s_law_draw) c_law_draw := (.cons (.ifs (.cmp (.sub (.var rfl (by first | exact .inl rfl | exact .inr (.inl rfl) | exact .inr (.inr rfl)) rfl rfl) .int (fun _ _ => rfl)) .int (nomark _)) (.cons (.asg rfl (by first | exact .inl rfl | exact .inr rfl) (.bin (.bltT rfl (.sub (.var rfl (by first | exact .inl rfl | exact .inr (.inl rfl) | exact .inr (.inr rfl)) rfl rfl) .int (fun _ _ => rfl)) rfl (by decide +kernel) (by decide +kernel) (by decide +kernel) rfl (fun _ => rfl)) (.var rfl (by first | exact .inl rfl | exact .inr (.inl rfl) | exact .inr (.inr rfl)) rfl rfl)) (fun _ => rfl))
    (.cons (.setI (.var rfl (by first | exact .inl rfl | exact .inr (.inl rfl) | exact .inr (.inr rfl)) rfl rfl) .int (.bin (.bltT rfl (.sub (.var rfl (by first | exact .inl rfl | exact .inr (.inl rfl) | exact .inr (.inr rfl)) rfl rfl) .int (fun _ _ => rfl)) rfl (by decide +kernel) (by decide +kernel) (by decide +kernel) rfl (fun _ => rfl)) (.var rfl (by first | exact .inl rfl | exact .inr (.inl rfl) | exact .inr (.inr rfl)) rfl rfl)) (fun _ => rfl) (fun _ => rfl) (fun _ _ => rfl) (fun _ => rfl) (fun _ _ => rfl))
    (.cons (.ret (.var rfl (by first | exact .inl rfl | exact .inr (.inl rfl) | exact .inr (.inr rfl)) rfl rfl))
    .nil))) .nil)
    (.cons (.asg rfl (by first | exact .inl rfl | exact .inr rfl) (.sub (.var rfl (by first | exact .inl rfl | exact .inr (.inl rfl) | exact .inr (.inr rfl)) rfl rfl) .int (fun _ _ => rfl)) (fun _ => rfl))
    (.cons (.setI (.var rfl (by first | exact .inl rfl | exact .inr (.inl rfl) | exact .inr (.inr rfl)) rfl rfl) .int (.bin (.var rfl (by first | exact .inl rfl | exact .inr (.inl rfl) | exact .inr (.inr rfl)) rfl rfl) .int) (fun _ => rfl) (fun _ => rfl) (fun _ _ => rfl) (fun _ => rfl) (fun _ _ => rfl))
    (.cons (.asg rfl (by first | exact .inl rfl | exact .inr rfl) (.bin (.bin .int (.var rfl (by first | exact .inl rfl | exact .inr (.inl rfl) | exact .inr (.inr rfl)) rfl rfl)) .int) (fun _ => rfl))
    (.cons (.ifs (.neE (.sub (.var rfl (by first | exact .inl rfl | exact .inr (.inl rfl) | exact .inr (.inr rfl)) rfl rfl) .int (fun _ _ => rfl))) (.cons (.asg rfl (by first | exact .inl rfl | exact .inr rfl) (.sub (.sub (.var rfl (by first | exact .inl rfl | exact .inr (.inl rfl) | exact .inr (.inr rfl)) rfl rfl) .int (fun _ _ => rfl)) (.bin (.bltT rfl (.var rfl (by first | exact .inl rfl | exact .inr (.inl rfl) | exact .inr (.inr rfl)) rfl rfl) rfl (by decide +kernel) (by decide +kernel) (by decide +kernel) rfl (fun _ => rfl)) (.bltF rfl (.sub (.var rfl (by first | exact .inl rfl | exact .inr (.inl rfl) | exact .inr (.inr rfl)) rfl rfl) .int (fun _ _ => rfl)) rfl (by decide +kernel) (by decide +kernel) (by decide +kernel) rfl (fun _ => rfl))) (fun _ _ => rfl)) (fun _ => rfl))
    .nil) .nil)
    (.cons (.ifs (.bool (.and_ (.cmp (.var rfl (by first | exact .inl rfl | exact .inr (.inl rfl) | exact .inr (.inr rfl)) rfl rfl) (.bltF rfl (.sub (.var rfl (by first | exact .inl rfl | exact .inr (.inl rfl) | exact .inr (.inr rfl)) rfl rfl) .int (fun _ _ => rfl)) rfl (by decide +kernel) (by decide +kernel) (by decide +kernel) rfl (fun _ => rfl)) (nomark _)) (.one (.cmp (.bltF rfl (.var rfl (by first | exact .inl rfl | exact .inr (.inl rfl) | exact .inr (.inr rfl)) rfl rfl) rfl (by decide +kernel) (by decide +kernel) (by decide +kernel) rfl (fun _ => rfl)) (.bin .int .int) (nomark _))))) (.cons (.asg rfl (by first | exact .inl rfl | exact .inr rfl) (.bin (.bin .int (.bin (.bltF rfl (.var rfl (by first | exact .inl rfl | exact .inr (.inl rfl) | exact .inr (.inr rfl)) rfl rfl) rfl (by decide +kernel) (by decide +kernel) (by decide +kernel) rfl (fun _ => rfl)) (.bin .int .int))) (.bltT rfl (.cmp (.var rfl (by first | exact .inl rfl | exact .inr (.inl rfl) | exact .inr (.inr rfl)) rfl rfl) .int (nomark _)) rfl (by decide +kernel) (by decide +kernel) (by decide +kernel) rfl (fun _ => rfl))) (fun _ => rfl))
    (.cons (.setI (.var rfl (by first | exact .inl rfl | exact .inr (.inl rfl) | exact .inr (.inr rfl)) rfl rfl) .int (.bin (.bltT rfl (.var rfl (by first | exact .inl rfl | exact .inr (.inl rfl) | exact .inr (.inr rfl)) rfl rfl) rfl (by decide +kernel) (by decide +kernel) (by decide +kernel) rfl (fun _ => rfl)) (.var rfl (by first | exact .inl rfl | exact .inr (.inl rfl) | exact .inr (.inr rfl)) rfl rfl)) (fun _ => rfl) (fun _ => rfl) (fun _ _ => rfl) (fun _ => rfl) (fun _ _ => rfl))
    (.cons (.ret (.bin (.bltT rfl (.var rfl (by first | exact .inl rfl | exact .inr (.inl rfl) | exact .inr (.inr rfl)) rfl rfl) rfl (by decide +kernel) (by decide +kernel) (by decide +kernel) rfl (fun _ => rfl)) (.var rfl (by first | exact .inl rfl | exact .inr (.inl rfl) | exact .inr (.inr rfl)) rfl rfl)))
    .nil))) .nil)
    (.cons (.asg rfl (by first | exact .inl rfl | exact .inr rfl) (.bin (.bltT rfl (.bin (.bin (.bin (.bin (.bltT rfl (.var rfl (by first | exact .inl rfl | exact .inr (.inl rfl) | exact .inr (.inr rfl)) rfl rfl) rfl (by decide +kernel) (by decide +kernel) (by decide +kernel) rfl (fun _ => rfl)) .int) (.bin .int (.var rfl (by first | exact .inl rfl | exact .inr (.inl rfl) | exact .inr (.inr rfl)) rfl rfl))) .int) .int) rfl (by decide +kernel) (by decide +kernel) (by decide +kernel) rfl (fun _ => rfl)) .int) (fun _ => rfl))
    (.cons (.asg rfl (by first | exact .inl rfl | exact .inr rfl) (.bin (.bltT rfl (.bin (.bin (.bin (.bin (.var rfl (by first | exact .inl rfl | exact .inr (.inl rfl) | exact .inr (.inr rfl)) rfl rfl) (.bin (.bin .int (.var rfl (by first | exact .inl rfl | exact .inr (.inl rfl) | exact .inr (.inr rfl)) rfl rfl)) .int)) (.bin (.bin .int (.var rfl (by first | exact .inl rfl | exact .inr (.inl rfl) | exact .inr (.inr rfl)) rfl rfl)) (.var rfl (by first | exact .inl rfl | exact .inr (.inl rfl) | exact .inr (.inr rfl)) rfl rfl))) .int) .int) rfl (by decide +kernel) (by decide +kernel) (by decide +kernel) rfl (fun _ => rfl)) .int) (fun _ => rfl))
    (.cons (.ret (.bin (.bltT rfl (.bin (.var rfl (by first | exact .inl rfl | exact .inr (.inl rfl) | exact .inr (.inr rfl)) rfl rfl) .int) rfl (by decide +kernel) (by decide +kernel) (by decide +kernel) rfl (fun _ => rfl)) (.var rfl (by first | exact .inl rfl | exact .inr (.inl rfl) | exact .inr (.inr rfl)) rfl rfl)))
    .nil)))))))))
abbrev s_law_pick : Stmt := top 36
def n_law_pick : List Str := ["pen", "some"]
theorem sc_law_pick : FnScope n_law_pick ["pen", "some"] (defScope s_law_pick) := ⟨rfl, rfl, rfl, by decide +kernel, rfl, by decide +kernel, by decide +kernel⟩
def g_law_pick : Gam := { bs := ["len"], gs := [], es := [⟨"_law_draw", 2, []⟩], xs := [], ats := [], ics := [], ox := [] }
def c_law_pick : Sds := (.cons (.ret (.sub (.var 1) (.call 0 (.cons (.var 0) (.cons (.blt .len (.var 1)) .nil)))))
    .nil)
theorem k_law_pick : CorSs g_law_pick n_law_pick (defScope s_law_pick) (defBody s_law_pick) c_law_pick := (.cons (.ret (.sub (.var rfl (by first | exact .inl rfl | exact .inr (.inl rfl) | exact .inr (.inr rfl)) rfl rfl) (.call (i := 0) rfl (.cons (.var rfl (by first | exact .inl rfl | exact .inr (.inl rfl) | exact .inr (.inr rfl)) rfl rfl) (.cons (.bltF rfl (.var rfl (by first | exact .inl rfl | exact .inr (.inl rfl) | exact .inr (.inr rfl)) rfl rfl) rfl (by decide +kernel) (by decide +kernel) (by decide +kernel) rfl (fun _ => rfl)) .nil (fun _ => rfl)) (fun _ => rfl)) rfl rfl rfl) (fun _ _ => rfl)))
    .nil)
abbrev s_law_mixed : Stmt := top 37
def n_law_mixed : List Str := ["pen", "some", "rest", "found"]
theorem sc_law_mixed : FnScope n_law_mixed ["pen", "some"] (defScope s_law_mixed) := ⟨rfl, rfl, rfl, by decide +kernel, rfl, by decide +kernel, by decide +kernel⟩
def g_law_mixed : Gam := { bs := ["len", "list"], gs := [], es := [⟨"_law_draw", 2, []⟩], xs := [], ats := [], ics := [], ox := [] }
def c_law_mixed : Sds := (.cons (.par 2 3 (.thaw (.var 1)) (.newL .nil))
    (.cons (.while_ (.neE true (.var 2)) (.cons (.app (.var 3) (.popA (.var 2) (.call 0 (.cons (.var 0) (.cons (.blt .len (.var 2)) .nil)))))
    .nil))
    (.cons (.ret (.frz (.var 3)))
    .nil)))
theorem k_law_mixed : CorSs g_law_mixed n_law_mixed (defScope s_law_mixed) (defBody s_law_mixed) c_law_mixed := (.cons (.par rfl rfl (by decide) rfl rfl (.newLst (.var rfl (by first | exact .inl rfl | exact .inr (.inl rfl) | exact .inr (.inr rfl)) rfl rfl) rfl (by decide +kernel) (fun _ => rfl)) (.newL .nil) (fun _ => rfl) (fun _ => rfl) (fun env h => by cases env; cases h; rfl) (fun _ => rfl))
    (.cons (.while_ (.neE (.var rfl (by first | exact .inl rfl | exact .inr (.inl rfl) | exact .inr (.inr rfl)) rfl rfl)) (.cons (.app (.var rfl (by first | exact .inl rfl | exact .inr (.inl rfl) | exact .inr (.inr rfl)) rfl rfl) (.popA (.var rfl (by first | exact .inl rfl | exact .inr (.inl rfl) | exact .inr (.inr rfl)) rfl rfl) (.call (i := 0) rfl (.cons (.var rfl (by first | exact .inl rfl | exact .inr (.inl rfl) | exact .inr (.inr rfl)) rfl rfl) (.cons (.bltF rfl (.var rfl (by first | exact .inl rfl | exact .inr (.inl rfl) | exact .inr (.inr rfl)) rfl rfl) rfl (by decide +kernel) (by decide +kernel) (by decide +kernel) rfl (fun _ => rfl)) .nil (fun _ => rfl)) (fun _ => rfl)) rfl rfl rfl) rfl (fun _ => rfl) (fun _ => rfl)) rfl (fun _ => rfl) (fun _ => rfl) (fun _ => rfl))
    .nil))
    (.cons (.ret (.frz (.var rfl (by first | exact .inl rfl | exact .inr (.inl rfl) | exact .inr (.inr rfl)) rfl rfl)))
    .nil)))
abbrev s_law_sort_marks : Stmt := top 38
def n_law_sort_marks : List Str := ["marks", "mark"]
theorem sc_law_sort_marks : FnScope n_law_sort_marks ["marks"] (defScope s_law_sort_marks) := ⟨rfl, rfl, rfl, by decide +kernel, rfl, by decide +kernel, by decide +kernel⟩
def g_law_sort_marks : Gam := { bs := ["sorted", "tuple"], gs := [], es := [], xs := [], ats := [], ics := [], ox := [shSrt, shLD] }
def c_law_sort_marks : Sds := (.cons (.ret (.blt .toTup (.op 0 (.cons (.op 1 (.cons (.comp (.tup (.cons (.var 1) (.cons (.cst (.bool true)) .nil))) (.one 1) (.seq (.var 0)) .non) .nil)) .nil))))
    .nil)
theorem k_law_sort_marks : CorSs g_law_sort_marks n_law_sort_marks (defScope s_law_sort_marks) (defBody s_law_sort_marks) c_law_sort_marks := (.cons (.ret (.bltT rfl (.op (i := 0) (Sh := shSrt) rfl ⟨_, _, _, rfl, rfl, rfl, fun _ => rfl⟩ (.cons (.op (i := 1) (Sh := shLD) rfl ⟨_, _, _, _, _, rfl, rfl, rfl, rfl, fun _ => rfl, fun _ => rfl⟩ (.cons (.comp (.seq (.var rfl (by first | exact .inl rfl | exact .inr (.inl rfl) | exact .inr (.inr rfl)) rfl rfl)) (blkOk_by (by decide +kernel)) (.one rfl) rfl (by decide +kernel) .non (.tup (.cons (.var rfl (by first | exact .inl rfl | exact .inr (.inl rfl) | exact .inr (.inr rfl)) rfl rfl) (.cons .bl .nil (fun _ => rfl)) (fun _ => rfl))) (fun _ _ => rfl) (by decide +kernel)) .nil (fun _ => rfl))) .nil (fun _ => rfl))) rfl (by decide +kernel) (by decide +kernel) (by decide +kernel) rfl (fun _ => rfl)))
    .nil)
abbrev s_law_some_marks : Stmt := top 39
def n_law_some_marks : List Str := ["pen", "most"]
theorem sc_law_some_marks : FnScope n_law_some_marks ["pen", "most"] (defScope s_law_some_marks) := ⟨rfl, rfl, rfl, by decide +kernel, rfl, by decide +kernel, by decide +kernel⟩
def g_law_some_marks : Gam := { bs := ["sorted"], gs := [], es := [⟨"_law_mixed", 2, []⟩, ⟨"_law_draw", 2, []⟩], xs := [], ats := [], ics := [], ox := [shSrt] }
def c_law_some_marks : Sds := (.cons (.ret (.op 0 (.cons (.upto (.call 0 (.cons (.var 0) (.cons (.lst (.cons (.cst (.str "a")) (.cons (.cst (.str "b")) (.cons (.cst (.str "m")) (.cons (.cst (.str "abcdefgh")) (.cons (.cst (.str "abcdefgi")) (.cons (.cst (.str "z")) .nil))))))) .nil))) (.bin .Add (.cst (.int (1))) (.call 1 (.cons (.var 0) (.cons (.var 1) .nil))))) .nil)))
    .nil)
theorem k_law_some_marks : CorSs g_law_some_marks n_law_some_marks (defScope s_law_some_marks) (defBody s_law_some_marks) c_law_some_marks := (.cons (.ret (.op (i := 0) (Sh := shSrt) rfl ⟨_, _, _, rfl, rfl, rfl, fun _ => rfl⟩ (.cons (.upto (.call (i := 0) rfl (.cons (.var rfl (by first | exact .inl rfl | exact .inr (.inl rfl) | exact .inr (.inr rfl)) rfl rfl) (.cons (.lst (.cons .str (.cons .str (.cons .str (.cons .str (.cons .str (.cons .str .nil (fun _ => rfl)) (fun _ => rfl)) (fun _ => rfl)) (fun _ => rfl)) (fun _ => rfl)) (fun _ => rfl))) .nil (fun _ => rfl)) (fun _ => rfl)) rfl rfl rfl) (.bin .int (.call (i := 1) rfl (.cons (.var rfl (by first | exact .inl rfl | exact .inr (.inl rfl) | exact .inr (.inr rfl)) rfl rfl) (.cons (.var rfl (by first | exact .inl rfl | exact .inr (.inl rfl) | exact .inr (.inr rfl)) rfl rfl) .nil (fun _ => rfl)) (fun _ => rfl)) rfl rfl rfl))) .nil (fun _ => rfl))))
    .nil)
abbrev s_law_wish : Stmt := top 40
def n_law_wish : List Str := ["pen", "marks", "deep", "way", "many", "lap"]
theorem sc_law_wish : FnScope n_law_wish ["pen", "marks", "deep"] (defScope s_law_wish) := ⟨rfl, rfl, rfl, by decide +kernel, rfl, by decide +kernel, by decide +kernel⟩
def g_law_wish : Gam := { bs := ["range", "tuple"], gs := [], es := [⟨"_law_wish", 3, []⟩, ⟨"_law_pick", 2, []⟩, ⟨"_law_draw", 2, []⟩], xs := [], ats := [], ics := [], ox := [] }
def c_law_wish : Sds := (.cons (.asg 3 (.call 2 (.cons (.var 0) (.cons (.cst (.int (6))) .nil))))
    (.cons (.ifs (.or_ (.cmp .Lt (.var 2) (.cst (.int (2)))) (.cmp .Lt (.var 3) (.cst (.int (2))))) (.cons (.ret (.tup (.cons (.cst (.str "often")) (.cons (.call 1 (.cons (.var 0) (.cons (.var 1) .nil))) .nil))))
    .nil) .nil)
    (.cons (.ifs (.cmp .Eq (.var 3) (.cst (.int (2)))) (.cons (.ret (.tup (.cons (.cst (.str "not")) (.cons (.call 0 (.cons (.var 0) (.cons (.var 1) (.cons (.bin .Sub (.var 2) (.cst (.int (1)))) .nil)))) .nil))))
    .nil) .nil)
    (.cons (.asg 4 (.call 1 (.cons (.var 0) (.cons (.lst (.cons (.cst (.int (1))) (.cons (.cst (.int (2))) (.cons (.cst (.int (2))) (.cons (.cst (.int (2))) (.cons (.cst (.int (3))) (.cons (.cst (.int (0))) .nil))))))) .nil))))
    (.cons (.ret (.tup (.cons (.call 1 (.cons (.var 0) (.cons (.lst (.cons (.cst (.str "and")) (.cons (.cst (.str "or")) .nil))) .nil))) (.cons (.blt .toTup (.comp (.call 0 (.cons (.var 0) (.cons (.var 1) (.cons (.bin .Sub (.var 2) (.cst (.int (1)))) .nil)))) (.one 5) (.rng (.var 4)) .non)) .nil))))
    .nil)))))
theorem k_law_wish : CorSs g_law_wish n_law_wish (defScope s_law_wish) (defBody s_law_wish) c_law_wish := (.cons (.asg rfl (by first | exact .inl rfl | exact .inr rfl) (.call (i := 2) rfl (.cons (.var rfl (by first | exact .inl rfl | exact .inr (.inl rfl) | exact .inr (.inr rfl)) rfl rfl) (.cons .int .nil (fun _ => rfl)) (fun _ => rfl)) rfl rfl rfl) (fun _ => rfl))
    (.cons (.ifs (.bool (.or_ (.cmp (.var rfl (by first | exact .inl rfl | exact .inr (.inl rfl) | exact .inr (.inr rfl)) rfl rfl) .int (nomark _)) (.one (.cmp (.var rfl (by first | exact .inl rfl | exact .inr (.inl rfl) | exact .inr (.inr rfl)) rfl rfl) .int (nomark _))))) (.cons (.ret (.tup (.cons .str (.cons (.call (i := 1) rfl (.cons (.var rfl (by first | exact .inl rfl | exact .inr (.inl rfl) | exact .inr (.inr rfl)) rfl rfl) (.cons (.var rfl (by first | exact .inl rfl | exact .inr (.inl rfl) | exact .inr (.inr rfl)) rfl rfl) .nil (fun _ => rfl)) (fun _ => rfl)) rfl rfl rfl) .nil (fun _ => rfl)) (fun _ => rfl))))
    .nil) .nil)
    (.cons (.ifs (.cmp (.var rfl (by first | exact .inl rfl | exact .inr (.inl rfl) | exact .inr (.inr rfl)) rfl rfl) .int (nomark _)) (.cons (.ret (.tup (.cons .str (.cons (.call (i := 0) rfl (.cons (.var rfl (by first | exact .inl rfl | exact .inr (.inl rfl) | exact .inr (.inr rfl)) rfl rfl) (.cons (.var rfl (by first | exact .inl rfl | exact .inr (.inl rfl) | exact .inr (.inr rfl)) rfl rfl) (.cons (.bin (.var rfl (by first | exact .inl rfl | exact .inr (.inl rfl) | exact .inr (.inr rfl)) rfl rfl) .int) .nil (fun _ => rfl)) (fun _ => rfl)) (fun _ => rfl)) rfl rfl rfl) .nil (fun _ => rfl)) (fun _ => rfl))))
    .nil) .nil)
    (.cons (.asg rfl (by first | exact .inl rfl | exact .inr rfl) (.call (i := 1) rfl (.cons (.var rfl (by first | exact .inl rfl | exact .inr (.inl rfl) | exact .inr (.inr rfl)) rfl rfl) (.cons (.lst (.cons .int (.cons .int (.cons .int (.cons .int (.cons .int (.cons .int .nil (fun _ => rfl)) (fun _ => rfl)) (fun _ => rfl)) (fun _ => rfl)) (fun _ => rfl)) (fun _ => rfl))) .nil (fun _ => rfl)) (fun _ => rfl)) rfl rfl rfl) (fun _ => rfl))
    (.cons (.ret (.tup (.cons (.call (i := 1) rfl (.cons (.var rfl (by first | exact .inl rfl | exact .inr (.inl rfl) | exact .inr (.inr rfl)) rfl rfl) (.cons (.lst (.cons .str (.cons .str .nil (fun _ => rfl)) (fun _ => rfl))) .nil (fun _ => rfl)) (fun _ => rfl)) rfl rfl rfl) (.cons (.bltT rfl (.comp (.rng (.var rfl (by first | exact .inl rfl | exact .inr (.inl rfl) | exact .inr (.inr rfl)) rfl rfl) rfl (by decide +kernel) (fun _ => rfl)) (blkOk_by (by decide +kernel)) (.one rfl) rfl (by decide +kernel) .non (.call (i := 0) rfl (.cons (.var rfl (by first | exact .inl rfl | exact .inr (.inl rfl) | exact .inr (.inr rfl)) rfl rfl) (.cons (.var rfl (by first | exact .inl rfl | exact .inr (.inl rfl) | exact .inr (.inr rfl)) rfl rfl) (.cons (.bin (.var rfl (by first | exact .inl rfl | exact .inr (.inl rfl) | exact .inr (.inr rfl)) rfl rfl) .int) .nil (fun _ => rfl)) (fun _ => rfl)) (fun _ => rfl)) rfl rfl rfl) (fun _ _ => rfl) (by decide +kernel)) rfl (by decide +kernel) (by decide +kernel) (by decide +kernel) rfl (fun _ => rfl)) .nil (fun _ => rfl)) (fun _ => rfl))))
    .nil)))))
abbrev s_law_holds : Stmt := top 41
def n_law_holds : List Str := ["wish", "lot", "some", "one"]
theorem sc_law_holds : FnScope n_law_holds ["wish", "lot"] (defScope s_law_holds) := ⟨rfl, rfl, rfl, by decide +kernel, rfl, by decide +kernel, by decide +kernel⟩
def g_law_holds : Gam := { bs := [], gs := [], es := [⟨"_law_holds", 2, []⟩], xs := [], ats := [], ics := [], ox := [] }
def c_law_holds : Sds := (.cons (.ifs (.cmp .Eq (.sub (.var 0) (.cst (.int (0)))) (.cst (.str "often"))) (.cons (.ret (.cmp .In (.sub (.var 0) (.cst (.int (1)))) (.var 1)))
    .nil) .nil)
    (.cons (.ifs (.cmp .Eq (.sub (.var 0) (.cst (.int (0)))) (.cst (.str "not"))) (.cons (.ret (.not_ (.call 0 (.cons (.sub (.var 0) (.cst (.int (1)))) (.cons (.var 1) .nil)))))
    .nil) .nil)
    (.cons (.asg 2 (.comp (.call 0 (.cons (.var 3) (.cons (.var 1) .nil))) (.one 3) (.seq (.sub (.var 0) (.cst (.int (1))))) .non))
    (.cons (.ret (.ite (.cmp .Eq (.sub (.var 0) (.cst (.int (0)))) (.cst (.str "and"))) (.cmp .NotIn (.cst (.bool false)) (.var 2)) (.cmp .In (.cst (.bool true)) (.var 2))))
    .nil))))
theorem k_law_holds : CorSs g_law_holds n_law_holds (defScope s_law_holds) (defBody s_law_holds) c_law_holds := (.cons (.ifs (.cmp (.sub (.var rfl (by first | exact .inl rfl | exact .inr (.inl rfl) | exact .inr (.inr rfl)) rfl rfl) .int (fun _ _ => rfl)) .str (nomark _)) (.cons (.ret (.cmp (.sub (.var rfl (by first | exact .inl rfl | exact .inr (.inl rfl) | exact .inr (.inr rfl)) rfl rfl) .int (fun _ _ => rfl)) (.var rfl (by first | exact .inl rfl | exact .inr (.inl rfl) | exact .inr (.inr rfl)) rfl rfl) rfl))
    .nil) .nil)
    (.cons (.ifs (.cmp (.sub (.var rfl (by first | exact .inl rfl | exact .inr (.inl rfl) | exact .inr (.inr rfl)) rfl rfl) .int (fun _ _ => rfl)) .str (nomark _)) (.cons (.ret (.not_ (.call (i := 0) rfl (.cons (.sub (.var rfl (by first | exact .inl rfl | exact .inr (.inl rfl) | exact .inr (.inr rfl)) rfl rfl) .int (fun _ _ => rfl)) (.cons (.var rfl (by first | exact .inl rfl | exact .inr (.inl rfl) | exact .inr (.inr rfl)) rfl rfl) .nil (fun _ => rfl)) (fun _ => rfl)) rfl rfl rfl)))
    .nil) .nil)
    (.cons (.asgLc rfl rfl rfl rfl (by decide +kernel) (.seq (.sub (.var rfl (by first | exact .inl rfl | exact .inr (.inl rfl) | exact .inr (.inr rfl)) rfl rfl) .int (fun _ _ => rfl))) (blkOk_by (by decide +kernel)) (.one rfl) rfl (by decide +kernel) .non (.call (i := 0) rfl (.cons (.var rfl (by first | exact .inl rfl | exact .inr (.inl rfl) | exact .inr (.inr rfl)) rfl rfl) (.cons (.var rfl (by first | exact .inl rfl | exact .inr (.inl rfl) | exact .inr (.inr rfl)) rfl rfl) .nil (fun _ => rfl)) (fun _ => rfl)) rfl rfl rfl) (fun _ _ => rfl) (by decide +kernel))
    (.cons (.ret (.ite (.cmp (.sub (.var rfl (by first | exact .inl rfl | exact .inr (.inl rfl) | exact .inr (.inr rfl)) rfl rfl) .int (fun _ _ => rfl)) .str (nomark _)) (.cmp .bl (.var rfl (by first | exact .inl rfl | exact .inr (.inl rfl) | exact .inr (.inr rfl)) rfl rfl) rfl) (.cmp .bl (.var rfl (by first | exact .inl rfl | exact .inr (.inl rfl) | exact .inr (.inr rfl)) rfl rfl) rfl)))
    .nil))))
abbrev s_law_marks : Stmt := top 42
def n_law_marks : List Str := ["wish", "one"]
theorem sc_law_marks : FnScope n_law_marks ["wish"] (defScope s_law_marks) := ⟨rfl, rfl, rfl, by decide +kernel, rfl, by decide +kernel, by decide +kernel⟩
def g_law_marks : Gam := { bs := ["list"], gs := [], es := [⟨"_law_sort_marks", 1, []⟩, ⟨"_law_marks", 1, []⟩], xs := [], ats := [], ics := [], ox := [shSum] }
def c_law_marks : Sds := (.cons (.ifs (.cmp .Eq (.sub (.var 0) (.cst (.int (0)))) (.cst (.str "often"))) (.cons (.ret (.tup (.cons (.sub (.var 0) (.cst (.int (1)))) .nil)))
    .nil) .nil)
    (.cons (.ret (.call 0 (.cons (.op 0 (.cons (.comp (.blt .toList (.call 1 (.cons (.var 1) .nil))) (.one 1) (.seq (.ite (.cmp .Eq (.sub (.var 0) (.cst (.int (0)))) (.cst (.str "not"))) (.lst (.cons (.sub (.var 0) (.cst (.int (1)))) .nil)) (.sub (.var 0) (.cst (.int (1)))))) .non) .nil)) .nil)))
    .nil))
theorem k_law_marks : CorSs g_law_marks n_law_marks (defScope s_law_marks) (defBody s_law_marks) c_law_marks := (.cons (.ifs (.cmp (.sub (.var rfl (by first | exact .inl rfl | exact .inr (.inl rfl) | exact .inr (.inr rfl)) rfl rfl) .int (fun _ _ => rfl)) .str (nomark _)) (.cons (.ret (.tup (.cons (.sub (.var rfl (by first | exact .inl rfl | exact .inr (.inl rfl) | exact .inr (.inr rfl)) rfl rfl) .int (fun _ _ => rfl)) .nil (fun _ => rfl))))
    .nil) .nil)
    (.cons (.ret (.call (i := 0) rfl (.cons (.op (i := 0) (Sh := shSum) rfl ⟨_, _, _, _, rfl, rfl, rfl, fun _ => rfl⟩ (.cons (.comp (.seq (.ite (.cmp (.sub (.var rfl (by first | exact .inl rfl | exact .inr (.inl rfl) | exact .inr (.inr rfl)) rfl rfl) .int (fun _ _ => rfl)) .str (nomark _)) (.lst (.cons (.sub (.var rfl (by first | exact .inl rfl | exact .inr (.inl rfl) | exact .inr (.inr rfl)) rfl rfl) .int (fun _ _ => rfl)) .nil (fun _ => rfl))) (.sub (.var rfl (by first | exact .inl rfl | exact .inr (.inl rfl) | exact .inr (.inr rfl)) rfl rfl) .int (fun _ _ => rfl)))) (blkOk_by (by decide +kernel)) (.one rfl) rfl (by decide +kernel) .non (.bltT rfl (.call (i := 1) rfl (.cons (.var rfl (by first | exact .inl rfl | exact .inr (.inl rfl) | exact .inr (.inr rfl)) rfl rfl) .nil (fun _ => rfl)) rfl rfl rfl) rfl (by decide +kernel) (by decide +kernel) (by decide +kernel) rfl (fun _ => rfl)) (fun _ _ => rfl) (by decide +kernel)) .nil (fun _ => rfl))) .nil (fun _ => rfl)) rfl rfl rfl))
    .nil))
abbrev s_law_lots : Stmt := top 43
def n_law_lots : List Str := ["marks", "found", "mark", "one"]
theorem sc_law_lots : FnScope n_law_lots ["marks"] (defScope s_law_lots) := ⟨rfl, rfl, rfl, by decide +kernel, rfl, by decide +kernel, by decide +kernel⟩
def g_law_lots : Gam := { bs := [], gs := [], es := [], xs := [], ats := [], ics := [], ox := [] }
def c_law_lots : Sds := (.cons (.asg 1 (.lst (.cons (.tup .nil) .nil)))
    (.cons (.for_ (.one 2) (.seq (.var 0)) (.cons (.asg 1 (.bin .Add (.var 1) (.comp (.bin .Add (.var 3) (.tup (.cons (.var 2) .nil))) (.one 3) (.seq (.var 1)) .non)))
    .nil))
    (.cons (.ret (.var 1))
    .nil)))
theorem k_law_lots : CorSs g_law_lots n_law_lots (defScope s_law_lots) (defBody s_law_lots) c_law_lots := (.cons (.asg rfl (by first | exact .inl rfl | exact .inr rfl) (.lst (.cons (.tup .nil) .nil (fun _ => rfl))) (fun _ => rfl))
    (.cons (.for_ (.one rfl) rfl (by decide +kernel) (.seq (.var rfl (by first | exact .inl rfl | exact .inr (.inl rfl) | exact .inr (.inr rfl)) rfl rfl)) (.cons (.asg rfl (by first | exact .inl rfl | exact .inr rfl) (.bin (.var rfl (by first | exact .inl rfl | exact .inr (.inl rfl) | exact .inr (.inr rfl)) rfl rfl) (.comp (.seq (.var rfl (by first | exact .inl rfl | exact .inr (.inl rfl) | exact .inr (.inr rfl)) rfl rfl)) (blkOk_by (by decide +kernel)) (.one rfl) rfl (by decide +kernel) .non (.bin (.var rfl (by first | exact .inl rfl | exact .inr (.inl rfl) | exact .inr (.inr rfl)) rfl rfl) (.tup (.cons (.var rfl (by first | exact .inl rfl | exact .inr (.inl rfl) | exact .inr (.inr rfl)) rfl rfl) .nil (fun _ => rfl)))) (fun _ _ => rfl) (by decide +kernel))) (fun _ => rfl))
    .nil) (fun _ _ => rfl))
    (.cons (.ret (.var rfl (by first | exact .inl rfl | exact .inr (.inl rfl) | exact .inr (.inr rfl)) rfl rfl))
    .nil)))
abbrev s_law_otherwise : Stmt := top 45
def n_law_otherwise : List Str := ["wish", "other", "one"]
theorem sc_law_otherwise : FnScope n_law_otherwise ["wish"] (defScope s_law_otherwise) := ⟨rfl, rfl, rfl, by decide +kernel, rfl, by decide +kernel, by decide +kernel⟩
def g_law_otherwise : Gam := { bs := ["list"], gs := [], es := [⟨"_law_otherwise", 1, []⟩], xs := [], ats := [], ics := [], ox := [] }
def c_law_otherwise : Sds := (.cons (.ifs (.cmp .Eq (.sub (.var 0) (.cst (.int (0)))) (.cst (.str "often"))) (.cons (.ret (.lst (.cons (.cst (.str "not")) (.cons (.lst (.cons (.cst (.str "not")) (.cons (.blt .toList (.var 0)) .nil))) .nil))))
    .nil) .nil)
    (.cons (.ifs (.cmp .Eq (.sub (.var 0) (.cst (.int (0)))) (.cst (.str "not"))) (.cons (.ret (.lst (.cons (.cst (.str "not")) (.cons (.call 0 (.cons (.sub (.var 0) (.cst (.int (1)))) .nil)) .nil))))
    .nil) .nil)
    (.cons (.asg 1 (.ite (.cmp .Eq (.sub (.var 0) (.cst (.int (0)))) (.cst (.str "and"))) (.cst (.str "or")) (.cst (.str "and"))))
    (.cons (.ret (.lst (.cons (.cst (.str "not")) (.cons (.lst (.cons (.var 1) (.cons (.comp (.lst (.cons (.cst (.str "not")) (.cons (.call 0 (.cons (.var 2) .nil)) .nil))) (.one 2) (.seq (.sub (.var 0) (.cst (.int (1))))) .non) .nil))) .nil))))
    .nil))))
theorem k_law_otherwise : CorSs g_law_otherwise n_law_otherwise (defScope s_law_otherwise) (defBody s_law_otherwise) c_law_otherwise := (.cons (.ifs (.cmp (.sub (.var rfl (by first | exact .inl rfl | exact .inr (.inl rfl) | exact .inr (.inr rfl)) rfl rfl) .int (fun _ _ => rfl)) .str (nomark _)) (.cons (.ret (.lst (.cons .str (.cons (.lst (.cons .str (.cons (.bltT rfl (.var rfl (by first | exact .inl rfl | exact .inr (.inl rfl) | exact .inr (.inr rfl)) rfl rfl) rfl (by decide +kernel) (by decide +kernel) (by decide +kernel) rfl (fun _ => rfl)) .nil (fun _ => rfl)) (fun _ => rfl))) .nil (fun _ => rfl)) (fun _ => rfl))))
    .nil) .nil)
    (.cons (.ifs (.cmp (.sub (.var rfl (by first | exact .inl rfl | exact .inr (.inl rfl) | exact .inr (.inr rfl)) rfl rfl) .int (fun _ _ => rfl)) .str (nomark _)) (.cons (.ret (.lst (.cons .str (.cons (.call (i := 0) rfl (.cons (.sub (.var rfl (by first | exact .inl rfl | exact .inr (.inl rfl) | exact .inr (.inr rfl)) rfl rfl) .int (fun _ _ => rfl)) .nil (fun _ => rfl)) rfl rfl rfl) .nil (fun _ => rfl)) (fun _ => rfl))))
    .nil) .nil)
    (.cons (.asg rfl (by first | exact .inl rfl | exact .inr rfl) (.ite (.cmp (.sub (.var rfl (by first | exact .inl rfl | exact .inr (.inl rfl) | exact .inr (.inr rfl)) rfl rfl) .int (fun _ _ => rfl)) .str (nomark _)) .str .str) (fun _ => rfl))
    (.cons (.ret (.lst (.cons .str (.cons (.lst (.cons (.var rfl (by first | exact .inl rfl | exact .inr (.inl rfl) | exact .inr (.inr rfl)) rfl rfl) (.cons (.comp (.seq (.sub (.var rfl (by first | exact .inl rfl | exact .inr (.inl rfl) | exact .inr (.inr rfl)) rfl rfl) .int (fun _ _ => rfl))) (blkOk_by (by decide +kernel)) (.one rfl) rfl (by decide +kernel) .non (.lst (.cons .str (.cons (.call (i := 0) rfl (.cons (.var rfl (by first | exact .inl rfl | exact .inr (.inl rfl) | exact .inr (.inr rfl)) rfl rfl) .nil (fun _ => rfl)) rfl rfl rfl) .nil (fun _ => rfl)) (fun _ => rfl))) (fun _ _ => rfl) (by decide +kernel)) .nil (fun _ => rfl)) (fun _ => rfl))) .nil (fun _ => rfl)) (fun _ => rfl))))
    .nil))))
abbrev s_law_deep : Stmt := top 46
def n_law_deep : List Str := ["many", "found", "lap"]
theorem sc_law_deep : FnScope n_law_deep ["many"] (defScope s_law_deep) := ⟨rfl, rfl, rfl, by decide +kernel, rfl, by decide +kernel, by decide +kernel⟩
def g_law_deep : Gam := { bs := ["range"], gs := [], es := [], xs := [], ats := [], ics := [], ox := [] }
def c_law_deep : Sds := (.cons (.asg 1 (.tup (.cons (.cst (.str "often")) (.cons (.cst (.str "a")) .nil))))
    (.cons (.for_ (.one 2) (.rng (.bin .Sub (.var 0) (.cst (.int (1))))) (.cons (.asg 1 (.tup (.cons (.cst (.str "not")) (.cons (.var 1) .nil))))
    .nil))
    (.cons (.ret (.var 1))
    .nil)))
theorem k_law_deep : CorSs g_law_deep n_law_deep (defScope s_law_deep) (defBody s_law_deep) c_law_deep := (.cons (.asg rfl (by first | exact .inl rfl | exact .inr rfl) (.tup (.cons .str (.cons .str .nil (fun _ => rfl)) (fun _ => rfl))) (fun _ => rfl))
    (.cons (.for_ (.one rfl) rfl (by decide +kernel) (.rng (.bin (.var rfl (by first | exact .inl rfl | exact .inr (.inl rfl) | exact .inr (.inr rfl)) rfl rfl) .int) rfl (by decide +kernel) (fun _ => rfl)) (.cons (.asg rfl (by first | exact .inl rfl | exact .inr rfl) (.tup (.cons .str (.cons (.var rfl (by first | exact .inl rfl | exact .inr (.inl rfl) | exact .inr (.inr rfl)) rfl rfl) .nil (fun _ => rfl)) (fun _ => rfl))) (fun _ => rfl))
    .nil) (fun _ _ => rfl))
    (.cons (.ret (.var rfl (by first | exact .inl rfl | exact .inr (.inl rfl) | exact .inr (.inr rfl)) rfl rfl))
    .nil)))
abbrev s_law_heard : Stmt := top 44
def n_law_heard : List Str := ["ask", "caught", "error", "words", "told", "word", "is_one"]
theorem sc_law_heard : FnScope n_law_heard ["ask"] (defScope s_law_heard) := ⟨rfl, rfl, rfl, by decide +kernel, rfl, by decide +kernel, by decide +kernel⟩
def g_law_heard : Gam := { bs := ["len", "isinstance"], gs := [], es := [], xs := [], ats := [("part", ["BadValue", "BadNumber", "BadBoard", "BadMove", "Misfit"], []), ("word", ["Nothing"], []), ("index", ["BadMove"], []), ("state", ["BadMove"], []), ("most", ["TooMany"], []), ("what", ["TooMany"], [])], ics := [("Misfit", [("BadValue", false), ("BadNumber", false), ("BadBoard", false), ("BadMove", false), ("Misfit", true), ("TooMany", false), ("Nothing", false)], [], []), ("BadBoard", [("BadValue", false), ("BadNumber", false), ("BadBoard", true), ("BadMove", false), ("Misfit", false), ("TooMany", false), ("Nothing", false)], [], []), ("BadNumber", [("BadValue", false), ("BadNumber", true), ("BadBoard", false), ("BadMove", false), ("Misfit", false), ("TooMany", false), ("Nothing", false)], [], []), ("BadValue", [("BadValue", true), ("BadNumber", false), ("BadBoard", false), ("BadMove", false), ("Misfit", false), ("TooMany", false), ("Nothing", false)], [], []), ("Nothing", [("BadValue", false), ("BadNumber", false), ("BadBoard", false), ("BadMove", false), ("Misfit", false), ("TooMany", false), ("Nothing", true)], [], []), ("BadMove", [("BadValue", false), ("BadNumber", false), ("BadBoard", false), ("BadMove", true), ("Misfit", false), ("TooMany", false), ("Nothing", false)], [], []), ("TooMany", [("BadValue", false), ("BadNumber", false), ("BadBoard", false), ("BadMove", false), ("Misfit", false), ("TooMany", true), ("Nothing", false)], [], [])], ox := [] }
def c_law_heard : Sds := (.cons (.ifs (.cmp .Is (.var 1) (.cst .none)) (.cons (.ret (.cst .none))
    .nil) .nil)
    (.cons (.ifs (.isc (.var 1) [("BadValue", false), ("BadNumber", false), ("BadBoard", false), ("BadMove", false), ("Misfit", false), ("TooMany", true), ("Nothing", false)] [] []) (.cons (.ret (.tup (.cons (.cst (.str "many")) (.cons (.attr (.var 1) "what" ["TooMany"] []) (.cons (.attr (.var 1) "most" ["TooMany"] []) .nil)))))
    .nil) .nil)
    (.cons (.ifs (.isc (.var 1) [("BadValue", false), ("BadNumber", false), ("BadBoard", false), ("BadMove", true), ("Misfit", false), ("TooMany", false), ("Nothing", false)] [] []) (.cons (.ret (.tup (.cons (.cst (.str "move")) (.cons (.attr (.var 1) "state" ["BadMove"] []) (.cons (.attr (.var 1) "index" ["BadMove"] []) (.cons (.attr (.var 1) "part" ["BadValue", "BadNumber", "BadBoard", "BadMove", "Misfit"] []) .nil))))))
    .nil) .nil)
    (.cons (.ifs (.isc (.var 1) [("BadValue", false), ("BadNumber", false), ("BadBoard", false), ("BadMove", false), ("Misfit", false), ("TooMany", false), ("Nothing", true)] [] []) (.cons (.ret (.tup (.cons (.cst (.str "nothing")) (.cons (.attr (.var 1) "word" ["Nothing"] []) .nil))))
    .nil) .nil)
    (.cons (.asg 3 (.lst (.cons (.tup (.cons (.cst (.str "value")) (.cons (.isc (.var 1) [("BadValue", true), ("BadNumber", false), ("BadBoard", false), ("BadMove", false), ("Misfit", false), ("TooMany", false), ("Nothing", false)] [] []) .nil))) (.cons (.tup (.cons (.cst (.str "number")) (.cons (.isc (.var 1) [("BadValue", false), ("BadNumber", true), ("BadBoard", false), ("BadMove", false), ("Misfit", false), ("TooMany", false), ("Nothing", false)] [] []) .nil))) (.cons (.tup (.cons (.cst (.str "board")) (.cons (.isc (.var 1) [("BadValue", false), ("BadNumber", false), ("BadBoard", true), ("BadMove", false), ("Misfit", false), ("TooMany", false), ("Nothing", false)] [] []) .nil))) (.cons (.tup (.cons (.cst (.str "misfit")) (.cons (.isc (.var 1) [("BadValue", false), ("BadNumber", false), ("BadBoard", false), ("BadMove", false), ("Misfit", true), ("TooMany", false), ("Nothing", false)] [] []) .nil))) .nil))))))
    (.cons (.asg 4 (.comp (.var 5) (.many [5, 6]) (.seq (.var 3)) (.som (.var 6))))
    (.cons (.ret (.ite (.cmp .Eq (.blt .len (.var 4)) (.cst (.int (1)))) (.tup (.cons (.sub (.var 4) (.cst (.int (0)))) (.cons (.attr (.var 1) "part" ["BadValue", "BadNumber", "BadBoard", "BadMove", "Misfit"] []) .nil))) (.tup (.cons (.cst (.str "other")) .nil))))
    .nil)))))))
theorem k_law_heard : CorSs g_law_heard n_law_heard (defScope s_law_heard) ((defBody s_law_heard).drop 2) c_law_heard := (.cons (.ifs (.cmp (.var rfl (by first | exact .inl rfl | exact .inr (.inl rfl) | exact .inr (.inr rfl)) rfl rfl) .non (nomark _)) (.cons (.ret .non)
    .nil) .nil)
    (.cons (.ifs (.val (.isc (.var rfl (by first | exact .inl rfl | exact .inr (.inl rfl) | exact .inr (.inr rfl)) rfl rfl) rfl (by decide +kernel) rfl rfl (by decide +kernel) (fun _ => rfl)) (fun _ _ => rfl)) (.cons (.ret (.tup (.cons .str (.cons (.attr (.var rfl (by first | exact .inl rfl | exact .inr (.inl rfl) | exact .inr (.inr rfl)) rfl rfl) (by decide +kernel) (fun _ => rfl)) (.cons (.attr (.var rfl (by first | exact .inl rfl | exact .inr (.inl rfl) | exact .inr (.inr rfl)) rfl rfl) (by decide +kernel) (fun _ => rfl)) .nil (fun _ => rfl)) (fun _ => rfl)) (fun _ => rfl))))
    .nil) .nil)
    (.cons (.ifs (.val (.isc (.var rfl (by first | exact .inl rfl | exact .inr (.inl rfl) | exact .inr (.inr rfl)) rfl rfl) rfl (by decide +kernel) rfl rfl (by decide +kernel) (fun _ => rfl)) (fun _ _ => rfl)) (.cons (.ret (.tup (.cons .str (.cons (.attr (.var rfl (by first | exact .inl rfl | exact .inr (.inl rfl) | exact .inr (.inr rfl)) rfl rfl) (by decide +kernel) (fun _ => rfl)) (.cons (.attr (.var rfl (by first | exact .inl rfl | exact .inr (.inl rfl) | exact .inr (.inr rfl)) rfl rfl) (by decide +kernel) (fun _ => rfl)) (.cons (.attr (.var rfl (by first | exact .inl rfl | exact .inr (.inl rfl) | exact .inr (.inr rfl)) rfl rfl) (by decide +kernel) (fun _ => rfl)) .nil (fun _ => rfl)) (fun _ => rfl)) (fun _ => rfl)) (fun _ => rfl))))
    .nil) .nil)
    (.cons (.ifs (.val (.isc (.var rfl (by first | exact .inl rfl | exact .inr (.inl rfl) | exact .inr (.inr rfl)) rfl rfl) rfl (by decide +kernel) rfl rfl (by decide +kernel) (fun _ => rfl)) (fun _ _ => rfl)) (.cons (.ret (.tup (.cons .str (.cons (.attr (.var rfl (by first | exact .inl rfl | exact .inr (.inl rfl) | exact .inr (.inr rfl)) rfl rfl) (by decide +kernel) (fun _ => rfl)) .nil (fun _ => rfl)) (fun _ => rfl))))
    .nil) .nil)
    (.cons (.asg rfl (by first | exact .inl rfl | exact .inr rfl) (.lst (.cons (.tup (.cons .str (.cons (.isc (.var rfl (by first | exact .inl rfl | exact .inr (.inl rfl) | exact .inr (.inr rfl)) rfl rfl) rfl (by decide +kernel) rfl rfl (by decide +kernel) (fun _ => rfl)) .nil (fun _ => rfl)) (fun _ => rfl))) (.cons (.tup (.cons .str (.cons (.isc (.var rfl (by first | exact .inl rfl | exact .inr (.inl rfl) | exact .inr (.inr rfl)) rfl rfl) rfl (by decide +kernel) rfl rfl (by decide +kernel) (fun _ => rfl)) .nil (fun _ => rfl)) (fun _ => rfl))) (.cons (.tup (.cons .str (.cons (.isc (.var rfl (by first | exact .inl rfl | exact .inr (.inl rfl) | exact .inr (.inr rfl)) rfl rfl) rfl (by decide +kernel) rfl rfl (by decide +kernel) (fun _ => rfl)) .nil (fun _ => rfl)) (fun _ => rfl))) (.cons (.tup (.cons .str (.cons (.isc (.var rfl (by first | exact .inl rfl | exact .inr (.inl rfl) | exact .inr (.inr rfl)) rfl rfl) rfl (by decide +kernel) rfl rfl (by decide +kernel) (fun _ => rfl)) .nil (fun _ => rfl)) (fun _ => rfl))) .nil (fun _ => rfl)) (fun _ => rfl)) (fun _ => rfl)) (fun _ => rfl))) (fun _ => rfl))
    (.cons (.asgLc rfl rfl rfl rfl (by decide +kernel) (.seq (.var rfl (by first | exact .inl rfl | exact .inr (.inl rfl) | exact .inr (.inr rfl)) rfl rfl)) (blkOk_by (by decide +kernel)) (.many (.cons rfl (.cons rfl .nil))) rfl (by decide +kernel) (.som (.val (.var rfl (by first | exact .inl rfl | exact .inr (.inl rfl) | exact .inr (.inr rfl)) rfl rfl) (fun _ _ => rfl))) (.var rfl (by first | exact .inl rfl | exact .inr (.inl rfl) | exact .inr (.inr rfl)) rfl rfl) (fun _ _ => rfl) (by decide +kernel))
    (.cons (.ret (.ite (.cmp (.bltF rfl (.var rfl (by first | exact .inl rfl | exact .inr (.inl rfl) | exact .inr (.inr rfl)) rfl rfl) rfl (by decide +kernel) (by decide +kernel) (by decide +kernel) rfl (fun _ => rfl)) .int (nomark _)) (.tup (.cons (.sub (.var rfl (by first | exact .inl rfl | exact .inr (.inl rfl) | exact .inr (.inr rfl)) rfl rfl) .int (fun _ _ => rfl)) (.cons (.attr (.var rfl (by first | exact .inl rfl | exact .inr (.inl rfl) | exact .inr (.inr rfl)) rfl rfl) (by decide +kernel) (fun _ => rfl)) .nil (fun _ => rfl)) (fun _ => rfl))) (.tup (.cons .str .nil (fun _ => rfl)))))
    .nil)))))))
abbrev s_law : Stmt := top 47
def n_law : List Str := ["script", "pen", "lap", "marks", "wish", "other", "lot", "due", "bad", "none", "heard", "eight", "nine", "row", "forty", "six", "seven", "name", "names", "one", "more"]
theorem sc_law : FnScope n_law ["script"] (defScope s_law) := ⟨rfl, rfl, rfl, by decide +kernel, rfl, by decide +kernel, by decide +kernel⟩
def g_law : Gam := { bs := ["range", "list", "repr"], gs := [], es := [⟨"is_wish", 1, []⟩, ⟨"grants", 2, []⟩, ⟨"marks_of", 1, []⟩, ⟨"_law_deep", 1, []⟩, ⟨"_law_pick", 2, []⟩, ⟨"_law_lots", 1, []⟩, ⟨"grants", 0, ["lot", "wish"]⟩, ⟨"_law_holds", 2, []⟩, ⟨"_law_marks", 1, []⟩, ⟨"marks_of", 0, ["wish"]⟩, ⟨"_law_otherwise", 1, []⟩, ⟨"_law_wish", 3, []⟩, ⟨"_law_some_marks", 2, []⟩], xs := [], ats := [], ics := [], ox := [], hd := some "_law_heard", lsc := some (defScope s_law).names.length }
def c_law : Sds := (.cons (.for_ (.one 2) (.rng (.cst (.int (4)))) (.cons (.asg 3 (.call 12 (.cons (.var 1) (.cons (.cst (.int (4))) .nil))))
    (.cons (.asg 4 (.call 11 (.cons (.var 1) (.cons (.var 3) (.cons (.call 4 (.cons (.var 1) (.cons (.lst (.cons (.cst (.int (1))) (.cons (.cst (.int (2))) (.cons (.cst (.int (3))) .nil)))) .nil))) .nil)))))
    (.cons (.asg 5 (.call 10 (.cons (.var 4) .nil)))
    (.cons (.ifs (.or_ (.cmp .IsNot (.call 0 (.cons (.var 4) .nil)) (.cst (.bool true))) (.or_ (.cmp .NotEq (.blt .repr (.call 2 (.cons (.var 4) .nil))) (.blt .repr (.call 8 (.cons (.var 4) .nil)))) (.cmp .NotEq (.call 9 (.cons (.ite (.call 0 (.cons (.var 5) .nil)) (.var 5) (.var 4)) .nil)) (.call 8 (.cons (.var 4) .nil))))) (.cons (.ret (.cst (.bool false)))
    .nil) .nil)
    (.cons (.for_ (.one 6) (.seq (.call 5 (.cons (.bin .Add (.var 3) (.lst (.cons (.cst (.str "other")) .nil))) .nil))) (.cons (.asg 7 (.call 7 (.cons (.var 4) (.cons (.var 6) .nil))))
    (.cons (.ifs (.or_ (.cmp .NotEq (.blt .repr (.lst (.cons (.call 1 (.cons (.var 4) (.cons (.var 6) .nil))) (.cons (.call 6 (.cons (.bin .Add (.blt .toList (.var 6)) (.blt .toList (.var 6))) (.cons (.var 4) .nil))) .nil)))) (.blt .repr (.lst (.cons (.var 7) (.cons (.var 7) .nil))))) (.and_ (.call 0 (.cons (.var 5) .nil)) (.cmp .NotEq (.call 1 (.cons (.var 5) (.cons (.var 6) .nil))) (.var 7)))) (.cons (.ret (.cst (.bool false)))
    .nil) .nil)
    .nil)))
    (.cons (.asg 8 (.call 4 (.cons (.var 1) (.cons (.lst (.cons (.cst .none) (.cons (.cst (.int (5))) (.cons (.lst (.cons (.cst (.int (5))) .nil)) (.cons (.cst (.str "ab")) (.cons (.lst (.cons (.cst (.str "")) .nil)) (.cons (.dct1 "a" (.cst (.int (1)))) .nil))))))) .nil))))
    (.cons (.asg 9 (.call 4 (.cons (.var 1) (.cons (.lst (.cons (.cst .none) (.cons (.cst (.int (5))) (.cons (.tup .nil) (.cons (.tup (.cons (.cst (.str "often")) .nil)) (.cons (.tup (.cons (.cst (.str "often")) (.cons (.cst (.str "A")) .nil))) (.cons (.tup (.cons (.cst (.str "often")) (.cons (.cst (.str "a")) (.cons (.cst (.str "b")) .nil)))) (.cons (.tup (.cons (.cst (.str "never")) (.cons (.cst (.str "a")) .nil))) (.cons (.tup (.cons (.cst (.str "not")) (.cons (.cst (.str "a")) .nil))) (.cons (.tup (.cons (.cst (.str "and")) (.cons (.var 4) .nil))) (.cons (.tup (.cons (.cst (.str "or")) (.cons (.cst .none) .nil))) (.cons (.tup (.cons (.cst (.str "and")) (.cons (.lst (.cons (.cst .none) .nil)) .nil))) (.cons (.cst (.str "often")) .nil))))))))))))) .nil))))
    (.cons (.asg 10 (.lst (.cons (.heard (.call 2 (.cons (.var 9) .nil))) (.cons (.heard (.call 1 (.cons (.var 9) (.cons (.var 8) .nil)))) (.cons (.heard (.call 1 (.cons (.var 4) (.cons (.var 8) .nil)))) .nil)))))
    (.cons (.ifs (.or_ (.cmp .NotEq (.var 10) (.lst (.cons (.tup (.cons (.cst (.str "value")) (.cons (.cst (.str "wish")) .nil))) (.cons (.tup (.cons (.cst (.str "value")) (.cons (.cst (.str "wish")) .nil))) (.cons (.tup (.cons (.cst (.str "value")) (.cons (.cst (.str "lot")) .nil))) .nil))))) (.cmp .IsNot (.call 0 (.cons (.var 9) .nil)) (.cst (.bool false)))) (.cons (.ret (.cst (.bool false)))
    .nil) .nil)
    .nil))))))))))
    (.cons (.par 11 12 (.call 3 (.cons (.cst (.int (8))) .nil)) (.call 3 (.cons (.cst (.int (9))) .nil)))
    (.cons (.asg 13 (.bin .Mult (.lst (.cons (.tup (.cons (.cst (.str "often")) (.cons (.cst (.str "a")) .nil))) .nil)) (.cst (.int (8)))))
    (.cons (.asg 14 (.tup (.cons (.cst (.str "and")) (.cons (.bin .Add (.bin .Add (.bin .Mult (.lst (.cons (.tup (.cons (.cst (.str "or")) (.cons (.var 13) .nil))) .nil)) (.cst (.int (4)))) (.lst (.cons (.tup (.cons (.cst (.str "not")) (.cons (.tup (.cons (.cst (.str "often")) (.cons (.cst (.str "a")) .nil))) .nil))) .nil))) (.lst (.cons (.tup (.cons (.cst (.str "often")) (.cons (.cst (.str "b")) .nil))) .nil))) .nil))))
    (.cons (.unp [15, 16] (.comp (.tup (.cons (.cst (.str "and")) (.cons (.comp (.tup (.cons (.cst (.str "often")) (.cons (.var 17) .nil))) (.one 17) (.seq (.var 18)) .non) .nil))) (.one 18) (.seq (.tup (.cons (.cst (.str "abcdef")) (.cons (.cst (.str "abcdefg")) .nil)))) .non))
    (.cons (.ifs (.cmp .NotEq (.comp (.call 0 (.cons (.var 19) .nil)) (.one 19) (.seq (.tup (.cons (.var 11) (.cons (.var 12) (.cons (.tup (.cons (.cst (.str "and")) (.cons (.var 13) .nil))) (.cons (.tup (.cons (.cst (.str "and")) (.cons (.bin .Add (.var 13) (.upto (.var 13) (.cst (.int (1))))) .nil))) (.cons (.var 15) (.cons (.var 16) (.cons (.tup (.cons (.cst (.str "and")) (.cons (.lst .nil) .nil))) (.cons (.lst (.cons (.cst (.str "or")) (.cons (.tup .nil) .nil))) .nil)))))))))) .non) (.lst (.cons (.cst (.bool true)) (.cons (.cst (.bool false)) (.cons (.cst (.bool true)) (.cons (.cst (.bool false)) (.cons (.cst (.bool true)) (.cons (.cst (.bool false)) (.cons (.cst (.bool true)) (.cons (.cst (.bool true)) .nil)))))))))) (.cons (.ret (.cst (.bool false)))
    .nil) .nil)
    (.cons (.asg 20 (.tup (.cons (.cst (.str "and")) (.cons (.bin .Add (.sub (.var 14) (.cst (.int (1)))) (.lst (.cons (.tup (.cons (.cst (.str "often")) (.cons (.cst (.str "c")) .nil))) .nil))) .nil))))
    (.cons (.ret (.and_ (.cmp .Is (.call 0 (.cons (.var 14) .nil)) (.cst (.bool true))) (.and_ (.cmp .Is (.call 0 (.cons (.var 20) .nil)) (.cst (.bool false))) (.and_ (.cmp .Eq (.lst (.cons (.call 1 (.cons (.tup (.cons (.cst (.str "and")) (.cons (.lst .nil) .nil))) (.cons (.lst .nil) .nil))) (.cons (.call 1 (.cons (.tup (.cons (.cst (.str "or")) (.cons (.lst .nil) .nil))) (.cons (.lst (.cons (.cst (.str "a")) .nil)) .nil))) .nil))) (.lst (.cons (.cst (.bool true)) (.cons (.cst (.bool false)) .nil)))) (.cmp .Eq (.call 2 (.cons (.tup (.cons (.cst (.str "or")) (.cons (.lst .nil) .nil))) .nil)) (.tup .nil))))))
    .nil))))))))
theorem k_law : CorSs g_law n_law (defScope s_law) ((defBody s_law).drop 1) c_law := (.cons (.for_ (.one rfl) rfl (by decide +kernel) (.rng .int rfl (by decide +kernel) (fun _ => rfl)) (.cons (.asg rfl (by first | exact .inl rfl | exact .inr rfl) (.call (i := 12) rfl (.cons (.var rfl (by first | exact .inl rfl | exact .inr (.inl rfl) | exact .inr (.inr rfl)) rfl rfl) (.cons .int .nil (fun _ => rfl)) (fun _ => rfl)) rfl rfl rfl) (fun _ => rfl))
    (.cons (.asg rfl (by first | exact .inl rfl | exact .inr rfl) (.call (i := 11) rfl (.cons (.var rfl (by first | exact .inl rfl | exact .inr (.inl rfl) | exact .inr (.inr rfl)) rfl rfl) (.cons (.var rfl (by first | exact .inl rfl | exact .inr (.inl rfl) | exact .inr (.inr rfl)) rfl rfl) (.cons (.call (i := 4) rfl (.cons (.var rfl (by first | exact .inl rfl | exact .inr (.inl rfl) | exact .inr (.inr rfl)) rfl rfl) (.cons (.lst (.cons .int (.cons .int (.cons .int .nil (fun _ => rfl)) (fun _ => rfl)) (fun _ => rfl))) .nil (fun _ => rfl)) (fun _ => rfl)) rfl rfl rfl) .nil (fun _ => rfl)) (fun _ => rfl)) (fun _ => rfl)) rfl rfl rfl) (fun _ => rfl))
    (.cons (.asg rfl (by first | exact .inl rfl | exact .inr rfl) (.call (i := 10) rfl (.cons (.var rfl (by first | exact .inl rfl | exact .inr (.inl rfl) | exact .inr (.inr rfl)) rfl rfl) .nil (fun _ => rfl)) rfl rfl rfl) (fun _ => rfl))
    (.cons (.ifs (.bool (.or_ (.cmp (.call (i := 0) rfl (.cons (.var rfl (by first | exact .inl rfl | exact .inr (.inl rfl) | exact .inr (.inr rfl)) rfl rfl) .nil (fun _ => rfl)) rfl rfl rfl) .bl (nomark _)) (.or_ (.cmp (.bltF rfl (.call (i := 2) rfl (.cons (.var rfl (by first | exact .inl rfl | exact .inr (.inl rfl) | exact .inr (.inr rfl)) rfl rfl) .nil (fun _ => rfl)) rfl rfl rfl) rfl (by decide +kernel) (by decide +kernel) (by decide +kernel) rfl (fun _ => rfl)) (.bltF rfl (.call (i := 8) rfl (.cons (.var rfl (by first | exact .inl rfl | exact .inr (.inl rfl) | exact .inr (.inr rfl)) rfl rfl) .nil (fun _ => rfl)) rfl rfl rfl) rfl (by decide +kernel) (by decide +kernel) (by decide +kernel) rfl (fun _ => rfl)) (nomark _)) (.one (.cmp (.callK (i := 9) rfl rfl (.cons (.ite (.val (.call (i := 0) rfl (.cons (.var rfl (by first | exact .inl rfl | exact .inr (.inl rfl) | exact .inr (.inr rfl)) rfl rfl) .nil (fun _ => rfl)) rfl rfl rfl) (fun _ _ => rfl)) (.var rfl (by first | exact .inl rfl | exact .inr (.inl rfl) | exact .inr (.inr rfl)) rfl rfl) (.var rfl (by first | exact .inl rfl | exact .inr (.inl rfl) | exact .inr (.inr rfl)) rfl rfl)) .nil (fun _ => rfl)) rfl rfl rfl) (.call (i := 8) rfl (.cons (.var rfl (by first | exact .inl rfl | exact .inr (.inl rfl) | exact .inr (.inr rfl)) rfl rfl) .nil (fun _ => rfl)) rfl rfl rfl) (nomark _)))))) (.cons (.ret .bl)
    .nil) .nil)
    (.cons (.for_ (.one rfl) rfl (by decide +kernel) (.seq (.call (i := 5) rfl (.cons (.bin (.var rfl (by first | exact .inl rfl | exact .inr (.inl rfl) | exact .inr (.inr rfl)) rfl rfl) (.lst (.cons .str .nil (fun _ => rfl)))) .nil (fun _ => rfl)) rfl rfl rfl)) (.cons (.asg rfl (by first | exact .inl rfl | exact .inr rfl) (.call (i := 7) rfl (.cons (.var rfl (by first | exact .inl rfl | exact .inr (.inl rfl) | exact .inr (.inr rfl)) rfl rfl) (.cons (.var rfl (by first | exact .inl rfl | exact .inr (.inl rfl) | exact .inr (.inr rfl)) rfl rfl) .nil (fun _ => rfl)) (fun _ => rfl)) rfl rfl rfl) (fun _ => rfl))
    (.cons (.ifs (.bool (.or_ (.cmp (.bltF rfl (.lst (.cons (.call (i := 1) rfl (.cons (.var rfl (by first | exact .inl rfl | exact .inr (.inl rfl) | exact .inr (.inr rfl)) rfl rfl) (.cons (.var rfl (by first | exact .inl rfl | exact .inr (.inl rfl) | exact .inr (.inr rfl)) rfl rfl) .nil (fun _ => rfl)) (fun _ => rfl)) rfl rfl rfl) (.cons (.callK (i := 6) rfl rfl (.cons (.bin (.bltT rfl (.var rfl (by first | exact .inl rfl | exact .inr (.inl rfl) | exact .inr (.inr rfl)) rfl rfl) rfl (by decide +kernel) (by decide +kernel) (by decide +kernel) rfl (fun _ => rfl)) (.bltT rfl (.var rfl (by first | exact .inl rfl | exact .inr (.inl rfl) | exact .inr (.inr rfl)) rfl rfl) rfl (by decide +kernel) (by decide +kernel) (by decide +kernel) rfl (fun _ => rfl))) (.cons (.var rfl (by first | exact .inl rfl | exact .inr (.inl rfl) | exact .inr (.inr rfl)) rfl rfl) .nil (fun _ => rfl)) (fun _ => rfl)) rfl rfl rfl) .nil (fun _ => rfl)) (fun _ => rfl))) rfl (by decide +kernel) (by decide +kernel) (by decide +kernel) rfl (fun _ => rfl)) (.bltF rfl (.lst (.cons (.var rfl (by first | exact .inl rfl | exact .inr (.inl rfl) | exact .inr (.inr rfl)) rfl rfl) (.cons (.var rfl (by first | exact .inl rfl | exact .inr (.inl rfl) | exact .inr (.inr rfl)) rfl rfl) .nil (fun _ => rfl)) (fun _ => rfl))) rfl (by decide +kernel) (by decide +kernel) (by decide +kernel) rfl (fun _ => rfl)) (nomark _)) (.one (.bool (.and_ (.val (.call (i := 0) rfl (.cons (.var rfl (by first | exact .inl rfl | exact .inr (.inl rfl) | exact .inr (.inr rfl)) rfl rfl) .nil (fun _ => rfl)) rfl rfl rfl) (fun _ _ => rfl)) (.one (.cmp (.call (i := 1) rfl (.cons (.var rfl (by first | exact .inl rfl | exact .inr (.inl rfl) | exact .inr (.inr rfl)) rfl rfl) (.cons (.var rfl (by first | exact .inl rfl | exact .inr (.inl rfl) | exact .inr (.inr rfl)) rfl rfl) .nil (fun _ => rfl)) (fun _ => rfl)) rfl rfl rfl) (.var rfl (by first | exact .inl rfl | exact .inr (.inl rfl) | exact .inr (.inr rfl)) rfl rfl) (nomark _)))))))) (.cons (.ret .bl)
    .nil) .nil)
    .nil)) (fun _ _ => rfl))
    (.cons (.asg rfl (by first | exact .inl rfl | exact .inr rfl) (.call (i := 4) rfl (.cons (.var rfl (by first | exact .inl rfl | exact .inr (.inl rfl) | exact .inr (.inr rfl)) rfl rfl) (.cons (.lst (.cons .non (.cons .int (.cons (.lst (.cons .int .nil (fun _ => rfl))) (.cons .str (.cons (.lst (.cons .str .nil (fun _ => rfl))) (.cons (.dct1 .int) .nil (fun _ => rfl)) (fun _ => rfl)) (fun _ => rfl)) (fun _ => rfl)) (fun _ => rfl)) (fun _ => rfl))) .nil (fun _ => rfl)) (fun _ => rfl)) rfl rfl rfl) (fun _ => rfl))
    (.cons (.asg rfl (by first | exact .inl rfl | exact .inr rfl) (.call (i := 4) rfl (.cons (.var rfl (by first | exact .inl rfl | exact .inr (.inl rfl) | exact .inr (.inr rfl)) rfl rfl) (.cons (.lst (.cons .non (.cons .int (.cons (.tup .nil) (.cons (.tup (.cons .str .nil (fun _ => rfl))) (.cons (.tup (.cons .str (.cons .str .nil (fun _ => rfl)) (fun _ => rfl))) (.cons (.tup (.cons .str (.cons .str (.cons .str .nil (fun _ => rfl)) (fun _ => rfl)) (fun _ => rfl))) (.cons (.tup (.cons .str (.cons .str .nil (fun _ => rfl)) (fun _ => rfl))) (.cons (.tup (.cons .str (.cons .str .nil (fun _ => rfl)) (fun _ => rfl))) (.cons (.tup (.cons .str (.cons (.var rfl (by first | exact .inl rfl | exact .inr (.inl rfl) | exact .inr (.inr rfl)) rfl rfl) .nil (fun _ => rfl)) (fun _ => rfl))) (.cons (.tup (.cons .str (.cons .non .nil (fun _ => rfl)) (fun _ => rfl))) (.cons (.tup (.cons .str (.cons (.lst (.cons .non .nil (fun _ => rfl))) .nil (fun _ => rfl)) (fun _ => rfl))) (.cons .str .nil (fun _ => rfl)) (fun _ => rfl)) (fun _ => rfl)) (fun _ => rfl)) (fun _ => rfl)) (fun _ => rfl)) (fun _ => rfl)) (fun _ => rfl)) (fun _ => rfl)) (fun _ => rfl)) (fun _ => rfl)) (fun _ => rfl))) .nil (fun _ => rfl)) (fun _ => rfl)) rfl rfl rfl) (fun _ => rfl))
    (.cons (.asg rfl (by first | exact .inl rfl | exact .inr rfl) (.lst (.cons (.heard rfl rfl rfl rfl (by decide +kernel) (lamN_by (by decide +kernel)) (.non (fun _ => rfl) (fun _ _ _ _ _ _ => rfl)) (.call (i := 2) rfl (.cons (.var rfl (by first | exact .inl rfl | exact .inr (.inl rfl) | exact .inr (.inr rfl)) rfl rfl) .nil (fun _ => rfl)) rfl rfl rfl)) (.cons (.heard rfl rfl rfl rfl (by decide +kernel) (lamN_by (by decide +kernel)) (.one _ _ _ _ rfl rfl rfl (fun _ _ _ _ _ _ _ => ⟨_, rfl, fun _ => rfl⟩)) (.call (i := 1) rfl (.cons (.var rfl (by first | exact .inl rfl | exact .inr (.inl rfl) | exact .inr (.inr rfl)) rfl rfl) (.cons (.var rfl (by first | exact .inl rfl | exact .inr (.inl rfl) | exact .inr (.inr rfl)) rfl rfl) .nil (fun _ => rfl)) (fun _ => rfl)) rfl rfl rfl)) (.cons (.heard rfl rfl rfl rfl (by decide +kernel) (lamN_by (by decide +kernel)) (.one _ _ _ _ rfl rfl rfl (fun _ _ _ _ _ _ _ => ⟨_, rfl, fun _ => rfl⟩)) (.call (i := 1) rfl (.cons (.var rfl (by first | exact .inl rfl | exact .inr (.inl rfl) | exact .inr (.inr rfl)) rfl rfl) (.cons (.var rfl (by first | exact .inl rfl | exact .inr (.inl rfl) | exact .inr (.inr rfl)) rfl rfl) .nil (fun _ => rfl)) (fun _ => rfl)) rfl rfl rfl)) .nil (fun _ => rfl)) (fun _ => rfl)) (fun _ => rfl))) (fun _ => rfl))
    (.cons (.ifs (.bool (.or_ (.cmp (.var rfl (by first | exact .inl rfl | exact .inr (.inl rfl) | exact .inr (.inr rfl)) rfl rfl) (.lst (.cons (.tup (.cons .str (.cons .str .nil (fun _ => rfl)) (fun _ => rfl))) (.cons (.tup (.cons .str (.cons .str .nil (fun _ => rfl)) (fun _ => rfl))) (.cons (.tup (.cons .str (.cons .str .nil (fun _ => rfl)) (fun _ => rfl))) .nil (fun _ => rfl)) (fun _ => rfl)) (fun _ => rfl))) (nomark _)) (.one (.cmp (.call (i := 0) rfl (.cons (.var rfl (by first | exact .inl rfl | exact .inr (.inl rfl) | exact .inr (.inr rfl)) rfl rfl) .nil (fun _ => rfl)) rfl rfl rfl) .bl (nomark _))))) (.cons (.ret .bl)
    .nil) .nil)
    .nil))))))))) (fun _ _ => rfl))
    (.cons (.par rfl rfl (by decide) rfl rfl (.call (i := 3) rfl (.cons .int .nil (fun _ => rfl)) rfl rfl rfl) (.call (i := 3) rfl (.cons .int .nil (fun _ => rfl)) rfl rfl rfl) (fun _ => rfl) (fun _ => rfl) (fun env h => by cases env; cases h; rfl) (fun _ => rfl))
    (.cons (.asg rfl (by first | exact .inl rfl | exact .inr rfl) (.bin (.lst (.cons (.tup (.cons .str (.cons .str .nil (fun _ => rfl)) (fun _ => rfl))) .nil (fun _ => rfl))) .int) (fun _ => rfl))
    (.cons (.asg rfl (by first | exact .inl rfl | exact .inr rfl) (.tup (.cons .str (.cons (.bin (.bin (.bin (.lst (.cons (.tup (.cons .str (.cons (.var rfl (by first | exact .inl rfl | exact .inr (.inl rfl) | exact .inr (.inr rfl)) rfl rfl) .nil (fun _ => rfl)) (fun _ => rfl))) .nil (fun _ => rfl))) .int) (.lst (.cons (.tup (.cons .str (.cons (.tup (.cons .str (.cons .str .nil (fun _ => rfl)) (fun _ => rfl))) .nil (fun _ => rfl)) (fun _ => rfl))) .nil (fun _ => rfl)))) (.lst (.cons (.tup (.cons .str (.cons .str .nil (fun _ => rfl)) (fun _ => rfl))) .nil (fun _ => rfl)))) .nil (fun _ => rfl)) (fun _ => rfl))) (fun _ => rfl))
    (.cons (.unp (.cons rfl (.cons rfl .nil)) (by decide +kernel) (.comp (.seq (.tup (.cons .str (.cons .str .nil (fun _ => rfl)) (fun _ => rfl)))) (blkOk_by (by decide +kernel)) (.one rfl) rfl (by decide +kernel) .non (.tup (.cons .str (.cons (.comp (.seq (.var rfl (by first | exact .inl rfl | exact .inr (.inl rfl) | exact .inr (.inr rfl)) rfl rfl)) (blkOk_by (by decide +kernel)) (.one rfl) rfl (by decide +kernel) .non (.tup (.cons .str (.cons (.var rfl (by first | exact .inl rfl | exact .inr (.inl rfl) | exact .inr (.inr rfl)) rfl rfl) .nil (fun _ => rfl)) (fun _ => rfl))) (fun _ _ => rfl) (by decide +kernel)) .nil (fun _ => rfl)) (fun _ => rfl))) (fun _ _ => rfl) (by decide +kernel)) (fun _ => rfl) (fun _ => rfl))
    (.cons (.ifs (.cmp (.comp (.seq (.tup (.cons (.var rfl (by first | exact .inl rfl | exact .inr (.inl rfl) | exact .inr (.inr rfl)) rfl rfl) (.cons (.var rfl (by first | exact .inl rfl | exact .inr (.inl rfl) | exact .inr (.inr rfl)) rfl rfl) (.cons (.tup (.cons .str (.cons (.var rfl (by first | exact .inl rfl | exact .inr (.inl rfl) | exact .inr (.inr rfl)) rfl rfl) .nil (fun _ => rfl)) (fun _ => rfl))) (.cons (.tup (.cons .str (.cons (.bin (.var rfl (by first | exact .inl rfl | exact .inr (.inl rfl) | exact .inr (.inr rfl)) rfl rfl) (.upto (.var rfl (by first | exact .inl rfl | exact .inr (.inl rfl) | exact .inr (.inr rfl)) rfl rfl) .int)) .nil (fun _ => rfl)) (fun _ => rfl))) (.cons (.var rfl (by first | exact .inl rfl | exact .inr (.inl rfl) | exact .inr (.inr rfl)) rfl rfl) (.cons (.var rfl (by first | exact .inl rfl | exact .inr (.inl rfl) | exact .inr (.inr rfl)) rfl rfl) (.cons (.tup (.cons .str (.cons (.lst .nil) .nil (fun _ => rfl)) (fun _ => rfl))) (.cons (.lst (.cons .str (.cons (.tup .nil) .nil (fun _ => rfl)) (fun _ => rfl))) .nil (fun _ => rfl)) (fun _ => rfl)) (fun _ => rfl)) (fun _ => rfl)) (fun _ => rfl)) (fun _ => rfl)) (fun _ => rfl)) (fun _ => rfl)))) (blkOk_by (by decide +kernel)) (.one rfl) rfl (by decide +kernel) .non (.call (i := 0) rfl (.cons (.var rfl (by first | exact .inl rfl | exact .inr (.inl rfl) | exact .inr (.inr rfl)) rfl rfl) .nil (fun _ => rfl)) rfl rfl rfl) (fun _ _ => rfl) (by decide +kernel)) (.lst (.cons .bl (.cons .bl (.cons .bl (.cons .bl (.cons .bl (.cons .bl (.cons .bl (.cons .bl .nil (fun _ => rfl)) (fun _ => rfl)) (fun _ => rfl)) (fun _ => rfl)) (fun _ => rfl)) (fun _ => rfl)) (fun _ => rfl)) (fun _ => rfl))) (nomark _)) (.cons (.ret .bl)
    .nil) .nil)
    (.cons (.asg rfl (by first | exact .inl rfl | exact .inr rfl) (.tup (.cons .str (.cons (.bin (.sub (.var rfl (by first | exact .inl rfl | exact .inr (.inl rfl) | exact .inr (.inr rfl)) rfl rfl) .int (fun _ _ => rfl)) (.lst (.cons (.tup (.cons .str (.cons .str .nil (fun _ => rfl)) (fun _ => rfl))) .nil (fun _ => rfl)))) .nil (fun _ => rfl)) (fun _ => rfl))) (fun _ => rfl))
    (.cons (.ret (.and_ (.cmp (.call (i := 0) rfl (.cons (.var rfl (by first | exact .inl rfl | exact .inr (.inl rfl) | exact .inr (.inr rfl)) rfl rfl) .nil (fun _ => rfl)) rfl rfl rfl) .bl (nomark _)) (.and_ (.cmp (.call (i := 0) rfl (.cons (.var rfl (by first | exact .inl rfl | exact .inr (.inl rfl) | exact .inr (.inr rfl)) rfl rfl) .nil (fun _ => rfl)) rfl rfl rfl) .bl (nomark _)) (.and_ (.cmp (.lst (.cons (.call (i := 1) rfl (.cons (.tup (.cons .str (.cons (.lst .nil) .nil (fun _ => rfl)) (fun _ => rfl))) (.cons (.lst .nil) .nil (fun _ => rfl)) (fun _ => rfl)) rfl rfl rfl) (.cons (.call (i := 1) rfl (.cons (.tup (.cons .str (.cons (.lst .nil) .nil (fun _ => rfl)) (fun _ => rfl))) (.cons (.lst (.cons .str .nil (fun _ => rfl))) .nil (fun _ => rfl)) (fun _ => rfl)) rfl rfl rfl) .nil (fun _ => rfl)) (fun _ => rfl))) (.lst (.cons .bl (.cons .bl .nil (fun _ => rfl)) (fun _ => rfl))) (nomark _)) (.one (.cmp (.call (i := 2) rfl (.cons (.tup (.cons .str (.cons (.lst .nil) .nil (fun _ => rfl)) (fun _ => rfl))) .nil (fun _ => rfl)) rfl rfl rfl) (.tup .nil) (nomark _)))))))
    .nil))))))))
end K09


set_option Elab.async false
set_option linter.all false
set_option maxRecDepth 100000
set_option maxHeartbeats 8000000
namespace K09
open PySem PySem.Spec PyProof.Rows L2 Nv
abbrev s_BadValue : Stmt := inClass (top 7) 0
theorem sc_BadValue : ScS ["self", "part"] ["self", "part"] (defScope s_BadValue) := ⟨rfl, rfl, rfl, by decide +kernel, rfl, by decide +kernel, by decide +kernel, by decide +kernel⟩
theorem ini_BadValue {P : Program} {w : World} {K : PySem.W.Frag} {mg : Str → Option Value} {base : Heap} {C f cda cc : Addr} {fd : FuncData} (T : SupV P K mg C f cda cc) (O : OexC K C) (hp : ∀ p ∈ (["part"] : List Str), PySem.W.findIn K (.ref C) p = some none) (F : FunS K "__init__" "BadValue.__init__" s_BadValue f cda cc fd) :
    FnOk P w K mg base CX0 1 f fd ["self", "part"] (spI C ["part"]) := by
  refine exc_fn T F sc_BadValue rfl rfl rfl rfl rfl rfl (fun _ => rfl) (fun _ => rfl) (fun _ => rfl) (fun vs H Q E h => by obtain ⟨a, us, rfl, hl, _⟩ := h; simpa using hl) fun A outer s H vs Q E hr h => ?_
  obtain ⟨a, us, rfl, hl, ha, q⟩ := h
  match us, hl with
  | [v1], _ =>
    refine ⟨a, [v1], _, _, rfl, ha, pa_cons (pv 1) pa_nil, ⟨v1, rfl, by show 1 ≤ 1000; decide, ha, rfl⟩, pss_one (ps_ost (pv 0) (pv 1)), ?_⟩
    refine ⟨v1, rfl, .ref a, rfl, a, C, rfl, O, hp _ (by decide +kernel), .inl ⟨ha, fun dx hdx hne => ?_⟩⟩
    exact q dx _ hdx hne upd_same (by rw [upd_ne hne]; exact upd_same) (fun b h1 h2 => by rw [upd_ne h1, upd_ne h2])
abbrev s_BadNumber : Stmt := inClass (top 8) 0
theorem sc_BadNumber : ScS ["self", "part"] ["self", "part"] (defScope s_BadNumber) := ⟨rfl, rfl, rfl, by decide +kernel, rfl, by decide +kernel, by decide +kernel, by decide +kernel⟩
theorem ini_BadNumber {P : Program} {w : World} {K : PySem.W.Frag} {mg : Str → Option Value} {base : Heap} {C f cda cc : Addr} {fd : FuncData} (T : SupV P K mg C f cda cc) (O : OexC K C) (hp : ∀ p ∈ (["part"] : List Str), PySem.W.findIn K (.ref C) p = some none) (F : FunS K "__init__" "BadNumber.__init__" s_BadNumber f cda cc fd) :
    FnOk P w K mg base CX0 1 f fd ["self", "part"] (spI C ["part"]) := by
  refine exc_fn T F sc_BadNumber rfl rfl rfl rfl rfl rfl (fun _ => rfl) (fun _ => rfl) (fun _ => rfl) (fun vs H Q E h => by obtain ⟨a, us, rfl, hl, _⟩ := h; simpa using hl) fun A outer s H vs Q E hr h => ?_
  obtain ⟨a, us, rfl, hl, ha, q⟩ := h
  match us, hl with
  | [v1], _ =>
    refine ⟨a, [v1], _, _, rfl, ha, pa_cons (pv 1) pa_nil, ⟨v1, rfl, by show 1 ≤ 1000; decide, ha, rfl⟩, pss_one (ps_ost (pv 0) (pv 1)), ?_⟩
    refine ⟨v1, rfl, .ref a, rfl, a, C, rfl, O, hp _ (by decide +kernel), .inl ⟨ha, fun dx hdx hne => ?_⟩⟩
    exact q dx _ hdx hne upd_same (by rw [upd_ne hne]; exact upd_same) (fun b h1 h2 => by rw [upd_ne h1, upd_ne h2])
abbrev s_BadBoard : Stmt := inClass (top 9) 0
theorem sc_BadBoard : ScS ["self", "part"] ["self", "part"] (defScope s_BadBoard) := ⟨rfl, rfl, rfl, by decide +kernel, rfl, by decide +kernel, by decide +kernel, by decide +kernel⟩
theorem ini_BadBoard {P : Program} {w : World} {K : PySem.W.Frag} {mg : Str → Option Value} {base : Heap} {C f cda cc : Addr} {fd : FuncData} (T : SupV P K mg C f cda cc) (O : OexC K C) (hp : ∀ p ∈ (["part"] : List Str), PySem.W.findIn K (.ref C) p = some none) (F : FunS K "__init__" "BadBoard.__init__" s_BadBoard f cda cc fd) :
    FnOk P w K mg base CX0 1 f fd ["self", "part"] (spI C ["part"]) := by
  refine exc_fn T F sc_BadBoard rfl rfl rfl rfl rfl rfl (fun _ => rfl) (fun _ => rfl) (fun _ => rfl) (fun vs H Q E h => by obtain ⟨a, us, rfl, hl, _⟩ := h; simpa using hl) fun A outer s H vs Q E hr h => ?_
  obtain ⟨a, us, rfl, hl, ha, q⟩ := h
  match us, hl with
  | [v1], _ =>
    refine ⟨a, [v1], _, _, rfl, ha, pa_cons (pv 1) pa_nil, ⟨v1, rfl, by show 1 ≤ 1000; decide, ha, rfl⟩, pss_one (ps_ost (pv 0) (pv 1)), ?_⟩
    refine ⟨v1, rfl, .ref a, rfl, a, C, rfl, O, hp _ (by decide +kernel), .inl ⟨ha, fun dx hdx hne => ?_⟩⟩
    exact q dx _ hdx hne upd_same (by rw [upd_ne hne]; exact upd_same) (fun b h1 h2 => by rw [upd_ne h1, upd_ne h2])
abbrev s_BadMove : Stmt := inClass (top 10) 0
theorem sc_BadMove : ScS ["self", "state", "index", "part"] ["self", "state", "index", "part"] (defScope s_BadMove) := ⟨rfl, rfl, rfl, by decide +kernel, rfl, by decide +kernel, by decide +kernel, by decide +kernel⟩
theorem ini_BadMove {P : Program} {w : World} {K : PySem.W.Frag} {mg : Str → Option Value} {base : Heap} {C f cda cc : Addr} {fd : FuncData} (T : SupV P K mg C f cda cc) (O : OexC K C) (hp : ∀ p ∈ (["state", "index", "part"] : List Str), PySem.W.findIn K (.ref C) p = some none) (F : FunS K "__init__" "BadMove.__init__" s_BadMove f cda cc fd) :
    FnOk P w K mg base CX0 1 f fd ["self", "state", "index", "part"] (spI C ["state", "index", "part"]) := by
  refine exc_fn T F sc_BadMove rfl rfl rfl rfl rfl rfl (fun _ => rfl) (fun _ => rfl) (fun _ => rfl) (fun vs H Q E h => by obtain ⟨a, us, rfl, hl, _⟩ := h; simpa using hl) fun A outer s H vs Q E hr h => ?_
  obtain ⟨a, us, rfl, hl, ha, q⟩ := h
  match us, hl with
  | [v1, v2, v3], _ =>
    refine ⟨a, [v1, v2, v3], _, _, rfl, ha, pa_cons (pv 1) (pa_cons (pv 2) (pa_cons (pv 3) pa_nil)), ⟨v1, rfl, v2, rfl, v3, rfl, by show 3 ≤ 1000; decide, ha, rfl⟩, pss_cons (ps_ost (pv 0) (pv 1)) (pss_cons (ps_ost (pv 0) (pv 2)) (pss_one (ps_ost (pv 0) (pv 3)))), ?_⟩
    refine ⟨v1, rfl, .ref a, rfl, a, C, rfl, O, hp _ (by decide +kernel), .inl ⟨ha, fun dx hdx hne => ?_⟩⟩
    refine ⟨v2, rfl, .ref a, rfl, a, C, rfl, O, hp _ (by decide +kernel), .inr ⟨dx, [("state", v1)], upd_same, by rw [upd_ne hne]; exact upd_same, by show 1 ≤ 900; decide, ?_⟩⟩
    refine ⟨v3, rfl, .ref a, rfl, a, C, rfl, O, hp _ (by decide +kernel), .inr ⟨dx, [("index", v2), ("state", v1)], by rw [upd_ne hne.symm]; exact upd_same, upd_same, by show 2 ≤ 900; decide, ?_⟩⟩
    exact q dx _ hdx hne (by rw [upd_ne hne.symm, upd_ne hne.symm]; exact upd_same) upd_same (fun b h1 h2 => by rw [upd_ne h2, upd_ne h2, upd_ne h1, upd_ne h2])
abbrev s_Misfit : Stmt := inClass (top 11) 0
theorem sc_Misfit : ScS ["self", "part"] ["self", "part"] (defScope s_Misfit) := ⟨rfl, rfl, rfl, by decide +kernel, rfl, by decide +kernel, by decide +kernel, by decide +kernel⟩
theorem ini_Misfit {P : Program} {w : World} {K : PySem.W.Frag} {mg : Str → Option Value} {base : Heap} {C f cda cc : Addr} {fd : FuncData} (T : SupV P K mg C f cda cc) (O : OexC K C) (hp : ∀ p ∈ (["part"] : List Str), PySem.W.findIn K (.ref C) p = some none) (F : FunS K "__init__" "Misfit.__init__" s_Misfit f cda cc fd) :
    FnOk P w K mg base CX0 1 f fd ["self", "part"] (spI C ["part"]) := by
  refine exc_fn T F sc_Misfit rfl rfl rfl rfl rfl rfl (fun _ => rfl) (fun _ => rfl) (fun _ => rfl) (fun vs H Q E h => by obtain ⟨a, us, rfl, hl, _⟩ := h; simpa using hl) fun A outer s H vs Q E hr h => ?_
  obtain ⟨a, us, rfl, hl, ha, q⟩ := h
  match us, hl with
  | [v1], _ =>
    refine ⟨a, [v1], _, _, rfl, ha, pa_cons (pv 1) pa_nil, ⟨v1, rfl, by show 1 ≤ 1000; decide, ha, rfl⟩, pss_one (ps_ost (pv 0) (pv 1)), ?_⟩
    refine ⟨v1, rfl, .ref a, rfl, a, C, rfl, O, hp _ (by decide +kernel), .inl ⟨ha, fun dx hdx hne => ?_⟩⟩
    exact q dx _ hdx hne upd_same (by rw [upd_ne hne]; exact upd_same) (fun b h1 h2 => by rw [upd_ne h1, upd_ne h2])
abbrev s_TooMany : Stmt := inClass (top 12) 0
theorem sc_TooMany : ScS ["self", "what", "most"] ["self", "what", "most"] (defScope s_TooMany) := ⟨rfl, rfl, rfl, by decide +kernel, rfl, by decide +kernel, by decide +kernel, by decide +kernel⟩
theorem ini_TooMany {P : Program} {w : World} {K : PySem.W.Frag} {mg : Str → Option Value} {base : Heap} {C f cda cc : Addr} {fd : FuncData} (T : SupV P K mg C f cda cc) (O : OexC K C) (hp : ∀ p ∈ (["what", "most"] : List Str), PySem.W.findIn K (.ref C) p = some none) (F : FunS K "__init__" "TooMany.__init__" s_TooMany f cda cc fd) :
    FnOk P w K mg base CX0 1 f fd ["self", "what", "most"] (spI C ["what", "most"]) := by
  refine exc_fn T F sc_TooMany rfl rfl rfl rfl rfl rfl (fun _ => rfl) (fun _ => rfl) (fun _ => rfl) (fun vs H Q E h => by obtain ⟨a, us, rfl, hl, _⟩ := h; simpa using hl) fun A outer s H vs Q E hr h => ?_
  obtain ⟨a, us, rfl, hl, ha, q⟩ := h
  match us, hl with
  | [v1, v2], _ =>
    refine ⟨a, [v1, v2], _, _, rfl, ha, pa_cons (pv 1) (pa_cons (pv 2) pa_nil), ⟨v1, rfl, v2, rfl, by show 2 ≤ 1000; decide, ha, rfl⟩, pss_cons (ps_ost (pv 0) (pv 1)) (pss_one (ps_ost (pv 0) (pv 2))), ?_⟩
    refine ⟨v1, rfl, .ref a, rfl, a, C, rfl, O, hp _ (by decide +kernel), .inl ⟨ha, fun dx hdx hne => ?_⟩⟩
    refine ⟨v2, rfl, .ref a, rfl, a, C, rfl, O, hp _ (by decide +kernel), .inr ⟨dx, [("what", v1)], upd_same, by rw [upd_ne hne]; exact upd_same, by show 1 ≤ 900; decide, ?_⟩⟩
    exact q dx _ hdx hne (by rw [upd_ne hne.symm]; exact upd_same) upd_same (fun b h1 h2 => by rw [upd_ne h2, upd_ne h1, upd_ne h2])
abbrev s_Nothing : Stmt := inClass (top 13) 0
theorem sc_Nothing : ScS ["self", "word"] ["self", "word"] (defScope s_Nothing) := ⟨rfl, rfl, rfl, by decide +kernel, rfl, by decide +kernel, by decide +kernel, by decide +kernel⟩
theorem ini_Nothing {P : Program} {w : World} {K : PySem.W.Frag} {mg : Str → Option Value} {base : Heap} {C f cda cc : Addr} {fd : FuncData} (T : SupV P K mg C f cda cc) (O : OexC K C) (hp : ∀ p ∈ (["word"] : List Str), PySem.W.findIn K (.ref C) p = some none) (F : FunS K "__init__" "Nothing.__init__" s_Nothing f cda cc fd) :
    FnOk P w K mg base CX0 1 f fd ["self", "word"] (spI C ["word"]) := by
  refine exc_fn T F sc_Nothing rfl rfl rfl rfl rfl rfl (fun _ => rfl) (fun _ => rfl) (fun _ => rfl) (fun vs H Q E h => by obtain ⟨a, us, rfl, hl, _⟩ := h; simpa using hl) fun A outer s H vs Q E hr h => ?_
  obtain ⟨a, us, rfl, hl, ha, q⟩ := h
  match us, hl with
  | [v1], _ =>
    refine ⟨a, [v1], _, _, rfl, ha, pa_cons (pv 1) pa_nil, ⟨v1, rfl, by show 1 ≤ 1000; decide, ha, rfl⟩, pss_one (ps_ost (pv 0) (pv 1)), ?_⟩
    refine ⟨v1, rfl, .ref a, rfl, a, C, rfl, O, hp _ (by decide +kernel), .inl ⟨ha, fun dx hdx hne => ?_⟩⟩
    exact q dx _ hdx hne upd_same (by rw [upd_ne hne]; exact upd_same) (fun b h1 h2 => by rw [upd_ne h1, upd_ne h2])

abbrev s_law_pen : Stmt := top 34
def xsE : List Str := ["BadValue", "BadNumber", "BadBoard", "BadMove", "Misfit", "TooMany", "Nothing"]
def errIn (xs : List Str) : PyData → Bool
  | .none => true
  | .dict ((.none, .str x) :: _) => decide (x ∈ xs)
  | _ => false
def F_is_listed : Fns := { fn := fun _ _ _ => none, ox := fun _ _ => none }
def m_is_listed (as : List Vv) (obs : Hh) : Ev Vv := if as.length = 1 then bodyM F_is_listed c_is_listed n_is_listed as obs else none
def F_is_row : Fns := { fn := fun i => match i with | 0 => fun as obs => m_is_listed (pick [0] as) obs | _ => fun _ _ => none, ox := fun _ _ => none }
def m_is_row (as : List Vv) (obs : Hh) : Ev Vv := if as.length = 2 then bodyM F_is_row c_is_row n_is_row as obs else none
def F_is_name : Fns := { fn := fun _ _ _ => none, ox := fun _ _ => none }
def m_is_name (as : List Vv) (obs : Hh) : Ev Vv := if as.length = 1 then bodyM F_is_name c_is_name n_is_name as obs else none
def F_fixed (self : List Vv → Hh → Ev Vv) : Fns := { fn := fun i => match i with | 0 => fun as obs => self (pick [0] as) obs | _ => fun _ _ => none, ox := fun _ _ => none }
def mr_fixed : Nat → List Vv → Hh → Ev Vv
  | 0, _, _ => none
  | n + 1, as, obs => if as.length = 1 then bodyM (F_fixed (mr_fixed n)) c_fixed n_fixed as obs else none
abbrev m_fixed : List Vv → Hh → Ev Vv := mr_fixed 30
def F_within_wish : Fns := { fn := fun _ _ _ => none, ox := fun _ _ => none }
def m_within_wish (as : List Vv) (obs : Hh) : Ev Vv := if as.length = 1 then bodyM F_within_wish c_within_wish n_within_wish as obs else none
def F_marks_in : Fns := { fn := fun i => match i with | 0 => fun as obs => m_within_wish (pick [0] as) obs | _ => fun _ _ => none, ox := fun _ _ => none }
def m_marks_in (as : List Vv) (obs : Hh) : Ev Vv := if as.length = 1 then bodyM F_marks_in c_marks_in n_marks_in as obs else none
def F_holds (self : List Vv → Hh → Ev Vv) : Fns := { fn := fun i => match i with | 0 => fun as obs => self (pick [0, 1] as) obs | _ => fun _ _ => none, ox := fun _ _ => none }
def mr_holds : Nat → List Vv → Hh → Ev Vv
  | 0, _, _ => none
  | n + 1, as, obs => if as.length = 2 then bodyM (F_holds (mr_holds n)) c_holds n_holds as obs else none
abbrev m_holds : List Vv → Hh → Ev Vv := mr_holds 30
def F_parts_of (self : List Vv → Hh → Ev Vv) : Fns := { fn := fun i => match i with | 0 => fun as obs => self (pick [0, 1] as) obs | 1 => fun as obs => m_is_listed (pick [0] as) obs | 2 => fun as obs => m_is_name (pick [0] as) obs | 3 => fun as obs => m_is_row (pick [0, 1] as) obs | _ => fun _ _ => none, ox := fun _ _ => none }
def mr_parts_of : Nat → List Vv → Hh → Ev Vv
  | 0, _, _ => none
  | n + 1, as, obs => if as.length = 2 then bodyM (F_parts_of (mr_parts_of n)) c_parts_of n_parts_of as obs else none
abbrev m_parts_of : List Vv → Hh → Ev Vv := mr_parts_of 30
def F_is_wish : Fns := { fn := fun i => match i with | 0 => fun as obs => m_marks_in (pick [0] as) obs | 1 => fun as obs => m_parts_of (pick [0, 1] as) obs | _ => fun _ _ => none, ox := fun _ _ => none }
def m_is_wish (as : List Vv) (obs : Hh) : Ev Vv := if as.length = 1 then bodyM F_is_wish c_is_wish n_is_wish as obs else none
def F_need_wish : Fns := { fn := fun i => match i with | 0 => fun as obs => m_fixed (pick [0] as) obs | 1 => fun as obs => m_is_wish (pick [0] as) obs | _ => fun _ _ => none, ox := fun _ _ => none }
def m_need_wish (as : List Vv) (obs : Hh) : Ev Vv := if as.length = 2 then bodyM F_need_wish c_need_wish n_need_wish as obs else none
def F_marks_of : Fns := { fn := fun i => match i with | 0 => fun as obs => m_marks_in (pick [0] as) obs | 1 => fun as obs => m_need_wish (as ++ ([(.str "wish")] : List PyData).map .d) obs | _ => fun _ _ => none, ox := fun _ _ => none }
def m_marks_of (as : List Vv) (obs : Hh) : Ev Vv := if as.length = 1 then bodyM F_marks_of c_marks_of n_marks_of as obs else none
def F_grants : Fns := { fn := fun i => match i with | 0 => fun as obs => m_holds (pick [0, 1] as) obs | 1 => fun as obs => m_is_listed (pick [0] as) obs | 2 => fun as obs => m_is_name (pick [0] as) obs | 3 => fun as obs => m_need_wish (as ++ ([(.str "wish")] : List PyData).map .d) obs | _ => fun _ _ => none, ox := fun _ _ => none }
def m_grants (as : List Vv) (obs : Hh) : Ev Vv := if as.length = 2 then bodyM F_grants c_grants n_grants as obs else none
def F_law_draw : Fns := { fn := fun _ _ _ => none, ox := fun _ _ => none }
def m_law_draw (as : List Vv) (obs : Hh) : Ev Vv := if as.length = 2 then bodyM F_law_draw c_law_draw n_law_draw as obs else none
def F_law_pick : Fns := { fn := fun i => match i with | 0 => fun as obs => m_law_draw (pick [0, 1] as) obs | _ => fun _ _ => none, ox := fun _ _ => none }
def m_law_pick (as : List Vv) (obs : Hh) : Ev Vv := if as.length = 2 then bodyM F_law_pick c_law_pick n_law_pick as obs else none
def F_law_mixed : Fns := { fn := fun i => match i with | 0 => fun as obs => m_law_draw (pick [0, 1] as) obs | _ => fun _ _ => none, ox := fun _ _ => none }
def m_law_mixed (as : List Vv) (obs : Hh) : Ev Vv := if as.length = 2 then bodyM F_law_mixed c_law_mixed n_law_mixed as obs else none
def F_law_sort_marks : Fns := { fn := fun _ _ _ => none, ox := fun i => match i with | 0 => one_ m_srt | 1 => one_ m_ld | _ => fun _ => none }
def m_law_sort_marks (as : List Vv) (obs : Hh) : Ev Vv := if as.length = 1 then bodyM F_law_sort_marks c_law_sort_marks n_law_sort_marks as obs else none
def F_law_some_marks : Fns := { fn := fun i => match i with | 0 => fun as obs => m_law_mixed (pick [0, 1] as) obs | 1 => fun as obs => m_law_draw (pick [0, 1] as) obs | _ => fun _ _ => none, ox := fun i => match i with | 0 => one_ m_srt | _ => fun _ => none }
def m_law_some_marks (as : List Vv) (obs : Hh) : Ev Vv := if as.length = 2 then bodyM F_law_some_marks c_law_some_marks n_law_some_marks as obs else none
def F_law_wish (self : List Vv → Hh → Ev Vv) : Fns := { fn := fun i => match i with | 0 => fun as obs => self (pick [0, 1, 2] as) obs | 1 => fun as obs => m_law_pick (pick [0, 1] as) obs | 2 => fun as obs => m_law_draw (pick [0, 1] as) obs | _ => fun _ _ => none, ox := fun _ _ => none }
def mr_law_wish : Nat → List Vv → Hh → Ev Vv
  | 0, _, _ => none
  | n + 1, as, obs => if as.length = 3 then bodyM (F_law_wish (mr_law_wish n)) c_law_wish n_law_wish as obs else none
abbrev m_law_wish : List Vv → Hh → Ev Vv := mr_law_wish 30
def F_law_holds (self : List Vv → Hh → Ev Vv) : Fns := { fn := fun i => match i with | 0 => fun as obs => self (pick [0, 1] as) obs | _ => fun _ _ => none, ox := fun _ _ => none }
def mr_law_holds : Nat → List Vv → Hh → Ev Vv
  | 0, _, _ => none
  | n + 1, as, obs => if as.length = 2 then bodyM (F_law_holds (mr_law_holds n)) c_law_holds n_law_holds as obs else none
abbrev m_law_holds : List Vv → Hh → Ev Vv := mr_law_holds 30
def F_law_marks (self : List Vv → Hh → Ev Vv) : Fns := { fn := fun i => match i with | 0 => fun as obs => m_law_sort_marks (pick [0] as) obs | 1 => fun as obs => self (pick [0] as) obs | _ => fun _ _ => none, ox := fun i => match i with | 0 => one_ m_sum | _ => fun _ => none }
def mr_law_marks : Nat → List Vv → Hh → Ev Vv
  | 0, _, _ => none
  | n + 1, as, obs => if as.length = 1 then bodyM (F_law_marks (mr_law_marks n)) c_law_marks n_law_marks as obs else none
abbrev m_law_marks : List Vv → Hh → Ev Vv := mr_law_marks 30
def F_law_lots : Fns := { fn := fun _ _ _ => none, ox := fun _ _ => none }
def m_law_lots (as : List Vv) (obs : Hh) : Ev Vv := if as.length = 1 then bodyM F_law_lots c_law_lots n_law_lots as obs else none
def F_law_otherwise (self : List Vv → Hh → Ev Vv) : Fns := { fn := fun i => match i with | 0 => fun as obs => self (pick [0] as) obs | _ => fun _ _ => none, ox := fun _ _ => none }
def mr_law_otherwise : Nat → List Vv → Hh → Ev Vv
  | 0, _, _ => none
  | n + 1, as, obs => if as.length = 1 then bodyM (F_law_otherwise (mr_law_otherwise n)) c_law_otherwise n_law_otherwise as obs else none
abbrev m_law_otherwise : List Vv → Hh → Ev Vv := mr_law_otherwise 30
def F_law_deep : Fns := { fn := fun _ _ _ => none, ox := fun _ _ => none }
def m_law_deep (as : List Vv) (obs : Hh) : Ev Vv := if as.length = 1 then bodyM F_law_deep c_law_deep n_law_deep as obs else none
def F_law_heard : Fns := { fn := fun _ _ _ => none, ox := fun _ _ => none }
def m_law_heard : PyData → Hh → Ev Vv := fun e h => if errIn xsE e then restM F_law_heard c_law_heard n_law_heard 1 e h else none
def F_law : Fns := { fn := fun i => match i with | 0 => fun as obs => m_is_wish (pick [0] as) obs | 1 => fun as obs => m_grants (pick [0, 1] as) obs | 2 => fun as obs => m_marks_of (pick [0] as) obs | 3 => fun as obs => m_law_deep (pick [0] as) obs | 4 => fun as obs => m_law_pick (pick [0, 1] as) obs | 5 => fun as obs => m_law_lots (pick [0] as) obs | 6 => fun as obs => m_grants (pick [1, 0] as) obs | 7 => fun as obs => m_law_holds (pick [0, 1] as) obs | 8 => fun as obs => m_law_marks (pick [0] as) obs | 9 => fun as obs => m_marks_of (pick [0] as) obs | 10 => fun as obs => m_law_otherwise (pick [0] as) obs | 11 => fun as obs => m_law_wish (pick [0, 1, 2] as) obs | 12 => fun as obs => m_law_some_marks (pick [0, 1] as) obs | _ => fun _ _ => none, ox := fun _ _ => none, hr := m_law_heard }
def BL : List Str := ["abs", "all", "any", "dict", "int", "isinstance", "len", "list", "range", "repr", "sorted", "str", "sum", "super", "tuple"]
def tsE : List Str := ["BadValue", "BadNumber", "BadBoard", "BadMove", "Misfit", "TooMany", "Nothing", "ForeverError"]
def tblE (t x : Str) : Bool := decide (t = x) || decide (t = "ForeverError")
structure Txt (P : Program) (K : PySem.W.Frag) (mg : Str → Option Value) : Prop where
  bl : ∀ y ∈ BL, mg y = none
  c_AND : ∃ v u, mg "AND" = some u ∧ RelV v u ∧ ∀ B, Dv K B v (.str "and")
  c_LETTERS : ∃ v u, mg "LETTERS" = some u ∧ RelV v u ∧ ∀ B, Dv K B v (.str "abcdefghijklmnopqrstuvwxyz")
  c_MOST_DEEP : ∃ v u, mg "MOST_DEEP" = some u ∧ RelV v u ∧ ∀ B, Dv K B v (.int (8))
  c_MOST_MARKS : ∃ v u, mg "MOST_MARKS" = some u ∧ RelV v u ∧ ∀ B, Dv K B v (.int (6))
  c_MOST_PARTS : ∃ v u, mg "MOST_PARTS" = some u ∧ RelV v u ∧ ∀ B, Dv K B v (.int (40))
  c_MOST_ROWS : ∃ v u, mg "MOST_ROWS" = some u ∧ RelV v u ∧ ∀ B, Dv K B v (.int (8))
  c_NOT : ∃ v u, mg "NOT" = some u ∧ RelV v u ∧ ∀ B, Dv K B v (.str "not")
  c_OFTEN : ∃ v u, mg "OFTEN" = some u ∧ RelV v u ∧ ∀ B, Dv K B v (.str "often")
  c_OR : ∃ v u, mg "OR" = some u ∧ RelV v u ∧ ∀ B, Dv K B v (.str "or")
  e_BadValue : ErrF P K mg "BadValue" "BadValue.__init__" ["part"] s_BadValue
  e_BadNumber : ErrF P K mg "BadNumber" "BadNumber.__init__" ["part"] s_BadNumber
  e_BadBoard : ErrF P K mg "BadBoard" "BadBoard.__init__" ["part"] s_BadBoard
  e_BadMove : ErrF P K mg "BadMove" "BadMove.__init__" ["state", "index", "part"] s_BadMove
  e_Misfit : ErrF P K mg "Misfit" "Misfit.__init__" ["part"] s_Misfit
  e_TooMany : ErrF P K mg "TooMany" "TooMany.__init__" ["what", "most"] s_TooMany
  e_Nothing : ErrF P K mg "Nothing" "Nothing.__init__" ["word"] s_Nothing
  kit : kitB K xsE tsE tblE = true
  exm : exmB K xsE "ForeverError" = true
  fe : ∃ C, PySem.W.nsIn K mainGlobals "ForeverError" = some (some (.ref C)) ∧ mg "ForeverError" = some (.ref C)
  d_is_listed : Df K mg "is_listed" s_is_listed []
  d_is_row : Df K mg "is_row" s_is_row []
  d_is_name : Df K mg "is_name" s_is_name []
  d_fixed : Df K mg "fixed" s_fixed []
  d_within_wish : Df K mg "within_wish" s_within_wish []
  d_marks_in : Df K mg "marks_in" s_marks_in []
  d_holds : Df K mg "holds" s_holds []
  d_parts_of : Df K mg "parts_of" s_parts_of []
  d_is_wish : Df K mg "is_wish" s_is_wish []
  d_need_wish : Df K mg "need_wish" s_need_wish [.str "wish"]
  d_marks_of : Df K mg "marks_of" s_marks_of []
  d_grants : Df K mg "grants" s_grants []
  d_law_draw : Df K mg "_law_draw" s_law_draw []
  d_law_pick : Df K mg "_law_pick" s_law_pick []
  d_law_mixed : Df K mg "_law_mixed" s_law_mixed []
  d_law_sort_marks : Df K mg "_law_sort_marks" s_law_sort_marks []
  d_law_some_marks : Df K mg "_law_some_marks" s_law_some_marks []
  d_law_wish : Df K mg "_law_wish" s_law_wish []
  d_law_holds : Df K mg "_law_holds" s_law_holds []
  d_law_marks : Df K mg "_law_marks" s_law_marks []
  d_law_lots : Df K mg "_law_lots" s_law_lots []
  d_law_otherwise : Df K mg "_law_otherwise" s_law_otherwise []
  d_law_deep : Df K mg "_law_deep" s_law_deep []
  d_law_heard : Df K mg "_law_heard" s_law_heard []
  d_law_pen : Df K mg "_law_pen" s_law_pen []
section
variable {P : Program} {w : World} {K : PySem.W.Frag} {mg : Str → Option Value} {base : Heap} {Tt : List (Addr × Str)}
theorem all_err (T : Txt P K mg) : ∀ x ∈ xsE, ∃ q names st, ErrF P K mg x q names st := by
  intro x hx
  simp only [xsE, List.mem_cons, List.not_mem_nil, or_false] at hx
  rcases hx with rfl | rfl | rfl | rfl | rfl | rfl | rfl
  · exact ⟨_, _, _, T.e_BadValue⟩
  · exact ⟨_, _, _, T.e_BadNumber⟩
  · exact ⟨_, _, _, T.e_BadBoard⟩
  · exact ⟨_, _, _, T.e_BadMove⟩
  · exact ⟨_, _, _, T.e_Misfit⟩
  · exact ⟨_, _, _, T.e_TooMany⟩
  · exact ⟨_, _, _, T.e_Nothing⟩
theorem fg_is_listed (T : Txt P K mg) (f : Addr) (fd : FuncData) (Fu : FunN K "is_listed" "is_listed" s_is_listed [] f fd) : FG P w K mg base (L2.CX P w) 1 f fd ["value"] (SpC K Tt m_is_listed) := fg_fun (k := 0) (F := F_is_listed) Fu sc_is_listed k_is_listed {
    bl := bl_of T.bl (by decide +kernel)
    gl := fun i x d h => by simp [g_is_listed] at h
    fn := fun i e h => by simp [g_is_listed] at h } rfl fun as obs o h => by
    unfold m_is_listed at h
    split at h
    · rename_i l
      exact ⟨l, h⟩
    · cases h
theorem fg_is_row (T : Txt P K mg) (f : Addr) (fd : FuncData) (Fu : FunN K "is_row" "is_row" s_is_row [] f fd) : FG P w K mg base (L2.CX P w) 2 f fd ["value", "many"] (SpC K Tt m_is_row) := fg_fun (k := 1) (F := F_is_row) Fu sc_is_row k_is_row {
    bl := bl_of T.bl (by decide +kernel)
    gl := fun i x d h => by simp [g_is_row] at h
    fn := fun i e h => match i, h with
      | 0, h => by cases h; exact fnF_of T.d_is_listed (fg_is_listed T) (by decide) (fun _ _ _ _ _ _ us ws hu hw => match us, ws, hu, hw with | [u0], [], _, _ => rfl) (fun _ _ _ h => h)
      | n + 1, h => by simp [g_is_row] at h } rfl fun as obs o h => by
    unfold m_is_row at h
    split at h
    · rename_i l
      exact ⟨l, h⟩
    · cases h
theorem fg_is_name (T : Txt P K mg) (f : Addr) (fd : FuncData) (Fu : FunN K "is_name" "is_name" s_is_name [] f fd) : FG P w K mg base (L2.CX P w) 1 f fd ["value"] (SpC K Tt m_is_name) := fg_fun (k := 0) (F := F_is_name) Fu sc_is_name k_is_name {
    bl := bl_of T.bl (by decide +kernel)
    gl := fun i x d h => match i, h with
      | 0, h => by cases h; exact T.c_LETTERS
      | n + 1, h => by simp [g_is_name] at h
    fn := fun i e h => by simp [g_is_name] at h } rfl fun as obs o h => by
    unfold m_is_name at h
    split at h
    · rename_i l
      exact ⟨l, h⟩
    · cases h
theorem fgr_fixed (T : Txt P K mg) : ∀ (n : Nat) (f : Addr) (fd : FuncData), FunN K "fixed" "fixed" s_fixed [] f fd → FG P w K mg base (L2.CX P w) (1 + n) f fd ["value"] (SpC K Tt (mr_fixed n))
  | 0, f, fd, _ => fg_no
  | n + 1, f, fd, Fu => fg_fun (k := 1 + n) (F := F_fixed (mr_fixed n)) Fu sc_fixed k_fixed {
    bl := bl_of T.bl (by decide +kernel)
    gl := fun i x d h => by simp [g_fixed] at h
    fn := fun i e h => match i, h with
      | 0, h => by cases h; exact fnF_of T.d_fixed (fgr_fixed T n) (by omega) (fun _ _ _ _ _ _ us ws hu hw => match us, ws, hu, hw with | [u0], [], _, _ => rfl) (fun _ _ _ h => h)
      | n + 1, h => by simp [g_fixed] at h } rfl fun as obs o h => by
    unfold mr_fixed at h
    split at h
    · rename_i l
      exact ⟨l, h⟩
    · cases h
theorem fg_fixed (T : Txt P K mg) (f : Addr) (fd : FuncData) (Fu : FunN K "fixed" "fixed" s_fixed [] f fd) : FG P w K mg base (L2.CX P w) 31 f fd ["value"] (SpC K Tt m_fixed) := (fgr_fixed T 30 f fd Fu).mono (by decide)
theorem fg_within_wish (T : Txt P K mg) (f : Addr) (fd : FuncData) (Fu : FunN K "within_wish" "within_wish" s_within_wish [] f fd) : FG P w K mg base (L2.CX P w) 1 f fd ["wish"] (SpC K Tt m_within_wish) := fg_fun (k := 0) (F := F_within_wish) Fu sc_within_wish k_within_wish {
    bl := bl_of T.bl (by decide +kernel)
    gl := fun i x d h => match i, h with
      | 0, h => by cases h; exact T.c_NOT
      | 1, h => by cases h; exact T.c_OFTEN
      | n + 2, h => by simp [g_within_wish] at h
    fn := fun i e h => by simp [g_within_wish] at h } rfl fun as obs o h => by
    unfold m_within_wish at h
    split at h
    · rename_i l
      exact ⟨l, h⟩
    · cases h
theorem fg_marks_in (T : Txt P K mg) (f : Addr) (fd : FuncData) (Fu : FunN K "marks_in" "marks_in" s_marks_in [] f fd) : FG P w K mg base (L2.CX P w) 2 f fd ["wish"] (SpC K Tt m_marks_in) := fg_fun (k := 1) (F := F_marks_in) Fu sc_marks_in k_marks_in {
    bl := bl_of T.bl (by decide +kernel)
    gl := fun i x d h => match i, h with
      | 0, h => by cases h; exact T.c_OFTEN
      | n + 1, h => by simp [g_marks_in] at h
    fn := fun i e h => match i, h with
      | 0, h => by cases h; exact fnF_of T.d_within_wish (fg_within_wish T) (by decide) (fun _ _ _ _ _ _ us ws hu hw => match us, ws, hu, hw with | [u0], [], _, _ => rfl) (fun _ _ _ h => h)
      | n + 1, h => by simp [g_marks_in] at h } rfl fun as obs o h => by
    unfold m_marks_in at h
    split at h
    · rename_i l
      exact ⟨l, h⟩
    · cases h
theorem fgr_holds (T : Txt P K mg) : ∀ (n : Nat) (f : Addr) (fd : FuncData), FunN K "holds" "holds" s_holds [] f fd → FG P w K mg base (L2.CX P w) (1 + n) f fd ["wish", "lot"] (SpC K Tt (mr_holds n))
  | 0, f, fd, _ => fg_no
  | n + 1, f, fd, Fu => fg_fun (k := 1 + n) (F := F_holds (mr_holds n)) Fu sc_holds k_holds {
    bl := bl_of T.bl (by decide +kernel)
    gl := fun i x d h => match i, h with
      | 0, h => by cases h; exact T.c_AND
      | 1, h => by cases h; exact T.c_NOT
      | 2, h => by cases h; exact T.c_OFTEN
      | n + 3, h => by simp [g_holds] at h
    fn := fun i e h => match i, h with
      | 0, h => by cases h; exact fnF_of T.d_holds (fgr_holds T n) (by omega) (fun _ _ _ _ _ _ us ws hu hw => match us, ws, hu, hw with | [u0, u1], [], _, _ => rfl) (fun _ _ _ h => h)
      | n + 1, h => by simp [g_holds] at h } rfl fun as obs o h => by
    unfold mr_holds at h
    split at h
    · rename_i l
      exact ⟨l, h⟩
    · cases h
theorem fg_holds (T : Txt P K mg) (f : Addr) (fd : FuncData) (Fu : FunN K "holds" "holds" s_holds [] f fd) : FG P w K mg base (L2.CX P w) 31 f fd ["wish", "lot"] (SpC K Tt m_holds) := (fgr_holds T 30 f fd Fu).mono (by decide)
theorem fgr_parts_of (T : Txt P K mg) : ∀ (n : Nat) (f : Addr) (fd : FuncData), FunN K "parts_of" "parts_of" s_parts_of [] f fd → FG P w K mg base (L2.CX P w) (3 + n) f fd ["value", "deep"] (SpC K Tt (mr_parts_of n))
  | 0, f, fd, _ => fg_no
  | n + 1, f, fd, Fu => fg_fun (k := 3 + n) (F := F_parts_of (mr_parts_of n)) Fu sc_parts_of k_parts_of {
    bl := bl_of T.bl (by decide +kernel)
    gl := fun i x d h => match i, h with
      | 0, h => by cases h; exact T.c_NOT
      | 1, h => by cases h; exact T.c_OR
      | 2, h => by cases h; exact T.c_AND
      | 3, h => by cases h; exact T.c_MOST_ROWS
      | 4, h => by cases h; exact T.c_OFTEN
      | n + 5, h => by simp [g_parts_of] at h
    fn := fun i e h => match i, h with
      | 0, h => by cases h; exact fnF_of T.d_parts_of (fgr_parts_of T n) (by omega) (fun _ _ _ _ _ _ us ws hu hw => match us, ws, hu, hw with | [u0, u1], [], _, _ => rfl) (fun _ _ _ h => h)
      | 1, h => by cases h; exact fnF_of T.d_is_listed (fg_is_listed T) (by omega) (fun _ _ _ _ _ _ us ws hu hw => match us, ws, hu, hw with | [u0], [], _, _ => rfl) (fun _ _ _ h => h)
      | 2, h => by cases h; exact fnF_of T.d_is_name (fg_is_name T) (by omega) (fun _ _ _ _ _ _ us ws hu hw => match us, ws, hu, hw with | [u0], [], _, _ => rfl) (fun _ _ _ h => h)
      | 3, h => by cases h; exact fnF_of T.d_is_row (fg_is_row T) (by omega) (fun _ _ _ _ _ _ us ws hu hw => match us, ws, hu, hw with | [u0, u1], [], _, _ => rfl) (fun _ _ _ h => h)
      | n + 4, h => by simp [g_parts_of] at h } rfl fun as obs o h => by
    unfold mr_parts_of at h
    split at h
    · rename_i l
      exact ⟨l, h⟩
    · cases h
theorem fg_parts_of (T : Txt P K mg) (f : Addr) (fd : FuncData) (Fu : FunN K "parts_of" "parts_of" s_parts_of [] f fd) : FG P w K mg base (L2.CX P w) 33 f fd ["value", "deep"] (SpC K Tt m_parts_of) := (fgr_parts_of T 30 f fd Fu).mono (by decide)
theorem fg_is_wish (T : Txt P K mg) (f : Addr) (fd : FuncData) (Fu : FunN K "is_wish" "is_wish" s_is_wish [] f fd) : FG P w K mg base (L2.CX P w) 34 f fd ["value"] (SpC K Tt m_is_wish) := fg_fun (k := 33) (F := F_is_wish) Fu sc_is_wish k_is_wish {
    bl := bl_of T.bl (by decide +kernel)
    gl := fun i x d h => match i, h with
      | 0, h => by cases h; exact T.c_MOST_PARTS
      | 1, h => by cases h; exact T.c_MOST_MARKS
      | 2, h => by cases h; exact T.c_MOST_DEEP
      | n + 3, h => by simp [g_is_wish] at h
    fn := fun i e h => match i, h with
      | 0, h => by cases h; exact fnF_of T.d_marks_in (fg_marks_in T) (by decide) (fun _ _ _ _ _ _ us ws hu hw => match us, ws, hu, hw with | [u0], [], _, _ => rfl) (fun _ _ _ h => h)
      | 1, h => by cases h; exact fnF_of T.d_parts_of (fg_parts_of T) (by decide) (fun _ _ _ _ _ _ us ws hu hw => match us, ws, hu, hw with | [u0, u1], [], _, _ => rfl) (fun _ _ _ h => h)
      | n + 2, h => by simp [g_is_wish] at h } rfl fun as obs o h => by
    unfold m_is_wish at h
    split at h
    · rename_i l
      exact ⟨l, h⟩
    · cases h
theorem fg_need_wish (T : Txt P K mg) (f : Addr) (fd : FuncData) (Fu : FunN K "need_wish" "need_wish" s_need_wish [.str "wish"] f fd) : FG P w K mg base (L2.CX P w) 35 f fd ["value", "part"] (SpC K Tt m_need_wish) := fg_fun (k := 34) (F := F_need_wish) Fu sc_need_wish k_need_wish {
    bl := bl_of T.bl (by decide +kernel)
    gl := fun i x d h => by simp [g_need_wish] at h
    fn := fun i e h => match i, h with
      | 0, h => by cases h; exact fnF_of T.d_fixed (fg_fixed T) (by decide) (fun _ _ _ _ _ _ us ws hu hw => match us, ws, hu, hw with | [u0], [], _, _ => rfl) (fun _ _ _ h => h)
      | 1, h => by cases h; exact fnF_of T.d_is_wish (fg_is_wish T) (by decide) (fun _ _ _ _ _ _ us ws hu hw => match us, ws, hu, hw with | [u0], [], _, _ => rfl) (fun _ _ _ h => h)
      | n + 2, h => by simp [g_need_wish] at h
    er := fun e h => by
      simp only [g_need_wish, List.mem_cons, List.not_mem_nil, or_false] at h
      rcases h with rfl
      · exact erF_of T.e_BadValue (by decide +kernel) (by decide) (by decide) ini_BadValue (fun _ _ _ _ _ _ _ us hu => match us, hu with | [u0, u1], _ => rfl) } rfl fun as obs o h => by
    unfold m_need_wish at h
    split at h
    · rename_i l
      exact ⟨l, h⟩
    · cases h
theorem fg_marks_of (T : Txt P K mg) (f : Addr) (fd : FuncData) (Fu : FunN K "marks_of" "marks_of" s_marks_of [] f fd) : FG P w K mg base (L2.CX P w) 36 f fd ["wish"] (SpC K Tt m_marks_of) := fg_fun (k := 35) (F := F_marks_of) Fu sc_marks_of k_marks_of {
    bl := bl_of T.bl (by decide +kernel)
    gl := fun i x d h => by simp [g_marks_of] at h
    fn := fun i e h => match i, h with
      | 0, h => by cases h; exact fnF_of T.d_marks_in (fg_marks_in T) (by decide) (fun _ _ _ _ _ _ us ws hu hw => match us, ws, hu, hw with | [u0], [], _, _ => rfl) (fun _ _ _ h => h)
      | 1, h => by cases h; exact fnF_dfl (ds := [(.str "wish")]) T.d_need_wish (fg_need_wish T) (by decide) (fun z => nomatch z) (fun _ => .cons (.str _) (.nil)) (fun _ _ _ _ _ _ _ us its hu hi => match us, its, hu, hi with | [u0], [i0], _, _ => ⟨_, rfl, rfl⟩)
      | n + 2, h => by simp [g_marks_of] at h } rfl fun as obs o h => by
    unfold m_marks_of at h
    split at h
    · rename_i l
      exact ⟨l, h⟩
    · cases h
theorem fg_grants (T : Txt P K mg) (f : Addr) (fd : FuncData) (Fu : FunN K "grants" "grants" s_grants [] f fd) : FG P w K mg base (L2.CX P w) 36 f fd ["wish", "lot"] (SpC K Tt m_grants) := fg_fun (k := 35) (F := F_grants) Fu sc_grants k_grants {
    bl := bl_of T.bl (by decide +kernel)
    gl := fun i x d h => by simp [g_grants] at h
    fn := fun i e h => match i, h with
      | 0, h => by cases h; exact fnF_of T.d_holds (fg_holds T) (by decide) (fun _ _ _ _ _ _ us ws hu hw => match us, ws, hu, hw with | [u0, u1], [], _, _ => rfl) (fun _ _ _ h => h)
      | 1, h => by cases h; exact fnF_of T.d_is_listed (fg_is_listed T) (by decide) (fun _ _ _ _ _ _ us ws hu hw => match us, ws, hu, hw with | [u0], [], _, _ => rfl) (fun _ _ _ h => h)
      | 2, h => by cases h; exact fnF_of T.d_is_name (fg_is_name T) (by decide) (fun _ _ _ _ _ _ us ws hu hw => match us, ws, hu, hw with | [u0], [], _, _ => rfl) (fun _ _ _ h => h)
      | 3, h => by cases h; exact fnF_dfl (ds := [(.str "wish")]) T.d_need_wish (fg_need_wish T) (by decide) (fun z => nomatch z) (fun _ => .cons (.str _) (.nil)) (fun _ _ _ _ _ _ _ us its hu hi => match us, its, hu, hi with | [u0], [i0], _, _ => ⟨_, rfl, rfl⟩)
      | n + 4, h => by simp [g_grants] at h
    er := fun e h => by
      simp only [g_grants, List.mem_cons, List.not_mem_nil, or_false] at h
      rcases h with rfl
      · exact erF_of T.e_BadValue (by decide +kernel) (by decide) (by decide) ini_BadValue (fun _ _ _ _ _ _ _ us hu => match us, hu with | [u0, u1], _ => rfl) } rfl fun as obs o h => by
    unfold m_grants at h
    split at h
    · rename_i l
      exact ⟨l, h⟩
    · cases h
theorem fg_law_draw (T : Txt P K mg) (f : Addr) (fd : FuncData) (Fu : FunN K "_law_draw" "_law_draw" s_law_draw [] f fd) : FG P w K mg base (L2.CX P w) 1 f fd ["pen", "many"] (SpC K Tt m_law_draw) := fg_fun (k := 0) (F := F_law_draw) Fu sc_law_draw k_law_draw {
    bl := bl_of T.bl (by decide +kernel)
    gl := fun i x d h => by simp [g_law_draw] at h
    fn := fun i e h => by simp [g_law_draw] at h } rfl fun as obs o h => by
    unfold m_law_draw at h
    split at h
    · rename_i l
      exact ⟨l, h⟩
    · cases h
theorem fg_law_pick (T : Txt P K mg) (f : Addr) (fd : FuncData) (Fu : FunN K "_law_pick" "_law_pick" s_law_pick [] f fd) : FG P w K mg base (L2.CX P w) 2 f fd ["pen", "some"] (SpC K Tt m_law_pick) := fg_fun (k := 1) (F := F_law_pick) Fu sc_law_pick k_law_pick {
    bl := bl_of T.bl (by decide +kernel)
    gl := fun i x d h => by simp [g_law_pick] at h
    fn := fun i e h => match i, h with
      | 0, h => by cases h; exact fnF_of T.d_law_draw (fg_law_draw T) (by decide) (fun _ _ _ _ _ _ us ws hu hw => match us, ws, hu, hw with | [u0, u1], [], _, _ => rfl) (fun _ _ _ h => h)
      | n + 1, h => by simp [g_law_pick] at h } rfl fun as obs o h => by
    unfold m_law_pick at h
    split at h
    · rename_i l
      exact ⟨l, h⟩
    · cases h
theorem fg_law_mixed (T : Txt P K mg) (f : Addr) (fd : FuncData) (Fu : FunN K "_law_mixed" "_law_mixed" s_law_mixed [] f fd) : FG P w K mg base (L2.CX P w) 2 f fd ["pen", "some"] (SpC K Tt m_law_mixed) := fg_fun (k := 1) (F := F_law_mixed) Fu sc_law_mixed k_law_mixed {
    bl := bl_of T.bl (by decide +kernel)
    gl := fun i x d h => by simp [g_law_mixed] at h
    fn := fun i e h => match i, h with
      | 0, h => by cases h; exact fnF_of T.d_law_draw (fg_law_draw T) (by decide) (fun _ _ _ _ _ _ us ws hu hw => match us, ws, hu, hw with | [u0, u1], [], _, _ => rfl) (fun _ _ _ h => h)
      | n + 1, h => by simp [g_law_mixed] at h } rfl fun as obs o h => by
    unfold m_law_mixed at h
    split at h
    · rename_i l
      exact ⟨l, h⟩
    · cases h
theorem fg_law_sort_marks (T : Txt P K mg) (f : Addr) (fd : FuncData) (Fu : FunN K "_law_sort_marks" "_law_sort_marks" s_law_sort_marks [] f fd) : FG P w K mg base (L2.CX P w) 1 f fd ["marks"] (SpC K Tt m_law_sort_marks) := fg_fun (k := 0) (F := F_law_sort_marks) Fu sc_law_sort_marks k_law_sort_marks {
    bl := bl_of T.bl (by decide +kernel)
    gl := fun i x d h => by simp [g_law_sort_marks] at h
    fn := fun i e h => by simp [g_law_sort_marks] at h
    ox := fun i Sh h => match i, h with
      | 0, h => by cases h; exact ox_srt (T.bl _ (by decide +kernel))
      | 1, h => by cases h; exact ox_ld (T.bl _ (by decide +kernel)) (T.bl _ (by decide +kernel))
      | n + 2, h => by simp [g_law_sort_marks] at h } rfl fun as obs o h => by
    unfold m_law_sort_marks at h
    split at h
    · rename_i l
      exact ⟨l, h⟩
    · cases h
theorem fg_law_some_marks (T : Txt P K mg) (f : Addr) (fd : FuncData) (Fu : FunN K "_law_some_marks" "_law_some_marks" s_law_some_marks [] f fd) : FG P w K mg base (L2.CX P w) 3 f fd ["pen", "most"] (SpC K Tt m_law_some_marks) := fg_fun (k := 2) (F := F_law_some_marks) Fu sc_law_some_marks k_law_some_marks {
    bl := bl_of T.bl (by decide +kernel)
    gl := fun i x d h => by simp [g_law_some_marks] at h
    fn := fun i e h => match i, h with
      | 0, h => by cases h; exact fnF_of T.d_law_mixed (fg_law_mixed T) (by decide) (fun _ _ _ _ _ _ us ws hu hw => match us, ws, hu, hw with | [u0, u1], [], _, _ => rfl) (fun _ _ _ h => h)
      | 1, h => by cases h; exact fnF_of T.d_law_draw (fg_law_draw T) (by decide) (fun _ _ _ _ _ _ us ws hu hw => match us, ws, hu, hw with | [u0, u1], [], _, _ => rfl) (fun _ _ _ h => h)
      | n + 2, h => by simp [g_law_some_marks] at h
    ox := fun i Sh h => match i, h with
      | 0, h => by cases h; exact ox_srt (T.bl _ (by decide +kernel))
      | n + 1, h => by simp [g_law_some_marks] at h } rfl fun as obs o h => by
    unfold m_law_some_marks at h
    split at h
    · rename_i l
      exact ⟨l, h⟩
    · cases h
theorem fgr_law_wish (T : Txt P K mg) : ∀ (n : Nat) (f : Addr) (fd : FuncData), FunN K "_law_wish" "_law_wish" s_law_wish [] f fd → FG P w K mg base (L2.CX P w) (3 + n) f fd ["pen", "marks", "deep"] (SpC K Tt (mr_law_wish n))
  | 0, f, fd, _ => fg_no
  | n + 1, f, fd, Fu => fg_fun (k := 3 + n) (F := F_law_wish (mr_law_wish n)) Fu sc_law_wish k_law_wish {
    bl := bl_of T.bl (by decide +kernel)
    gl := fun i x d h => by simp [g_law_wish] at h
    fn := fun i e h => match i, h with
      | 0, h => by cases h; exact fnF_of T.d_law_wish (fgr_law_wish T n) (by omega) (fun _ _ _ _ _ _ us ws hu hw => match us, ws, hu, hw with | [u0, u1, u2], [], _, _ => rfl) (fun _ _ _ h => h)
      | 1, h => by cases h; exact fnF_of T.d_law_pick (fg_law_pick T) (by omega) (fun _ _ _ _ _ _ us ws hu hw => match us, ws, hu, hw with | [u0, u1], [], _, _ => rfl) (fun _ _ _ h => h)
      | 2, h => by cases h; exact fnF_of T.d_law_draw (fg_law_draw T) (by omega) (fun _ _ _ _ _ _ us ws hu hw => match us, ws, hu, hw with | [u0, u1], [], _, _ => rfl) (fun _ _ _ h => h)
      | n + 3, h => by simp [g_law_wish] at h } rfl fun as obs o h => by
    unfold mr_law_wish at h
    split at h
    · rename_i l
      exact ⟨l, h⟩
    · cases h
theorem fg_law_wish (T : Txt P K mg) (f : Addr) (fd : FuncData) (Fu : FunN K "_law_wish" "_law_wish" s_law_wish [] f fd) : FG P w K mg base (L2.CX P w) 33 f fd ["pen", "marks", "deep"] (SpC K Tt m_law_wish) := (fgr_law_wish T 30 f fd Fu).mono (by decide)
theorem fgr_law_holds (T : Txt P K mg) : ∀ (n : Nat) (f : Addr) (fd : FuncData), FunN K "_law_holds" "_law_holds" s_law_holds [] f fd → FG P w K mg base (L2.CX P w) (1 + n) f fd ["wish", "lot"] (SpC K Tt (mr_law_holds n))
  | 0, f, fd, _ => fg_no
  | n + 1, f, fd, Fu => fg_fun (k := 1 + n) (F := F_law_holds (mr_law_holds n)) Fu sc_law_holds k_law_holds {
    bl := bl_of T.bl (by decide +kernel)
    gl := fun i x d h => by simp [g_law_holds] at h
    fn := fun i e h => match i, h with
      | 0, h => by cases h; exact fnF_of T.d_law_holds (fgr_law_holds T n) (by omega) (fun _ _ _ _ _ _ us ws hu hw => match us, ws, hu, hw with | [u0, u1], [], _, _ => rfl) (fun _ _ _ h => h)
      | n + 1, h => by simp [g_law_holds] at h } rfl fun as obs o h => by
    unfold mr_law_holds at h
    split at h
    · rename_i l
      exact ⟨l, h⟩
    · cases h
theorem fg_law_holds (T : Txt P K mg) (f : Addr) (fd : FuncData) (Fu : FunN K "_law_holds" "_law_holds" s_law_holds [] f fd) : FG P w K mg base (L2.CX P w) 31 f fd ["wish", "lot"] (SpC K Tt m_law_holds) := (fgr_law_holds T 30 f fd Fu).mono (by decide)
theorem fgr_law_marks (T : Txt P K mg) : ∀ (n : Nat) (f : Addr) (fd : FuncData), FunN K "_law_marks" "_law_marks" s_law_marks [] f fd → FG P w K mg base (L2.CX P w) (2 + n) f fd ["wish"] (SpC K Tt (mr_law_marks n))
  | 0, f, fd, _ => fg_no
  | n + 1, f, fd, Fu => fg_fun (k := 2 + n) (F := F_law_marks (mr_law_marks n)) Fu sc_law_marks k_law_marks {
    bl := bl_of T.bl (by decide +kernel)
    gl := fun i x d h => by simp [g_law_marks] at h
    fn := fun i e h => match i, h with
      | 0, h => by cases h; exact fnF_of T.d_law_sort_marks (fg_law_sort_marks T) (by omega) (fun _ _ _ _ _ _ us ws hu hw => match us, ws, hu, hw with | [u0], [], _, _ => rfl) (fun _ _ _ h => h)
      | 1, h => by cases h; exact fnF_of T.d_law_marks (fgr_law_marks T n) (by omega) (fun _ _ _ _ _ _ us ws hu hw => match us, ws, hu, hw with | [u0], [], _, _ => rfl) (fun _ _ _ h => h)
      | n + 2, h => by simp [g_law_marks] at h
    ox := fun i Sh h => match i, h with
      | 0, h => by cases h; exact ox_sum (T.bl _ (by decide +kernel))
      | n + 1, h => by simp [g_law_marks] at h } rfl fun as obs o h => by
    unfold mr_law_marks at h
    split at h
    · rename_i l
      exact ⟨l, h⟩
    · cases h
theorem fg_law_marks (T : Txt P K mg) (f : Addr) (fd : FuncData) (Fu : FunN K "_law_marks" "_law_marks" s_law_marks [] f fd) : FG P w K mg base (L2.CX P w) 32 f fd ["wish"] (SpC K Tt m_law_marks) := (fgr_law_marks T 30 f fd Fu).mono (by decide)
theorem fg_law_lots (T : Txt P K mg) (f : Addr) (fd : FuncData) (Fu : FunN K "_law_lots" "_law_lots" s_law_lots [] f fd) : FG P w K mg base (L2.CX P w) 1 f fd ["marks"] (SpC K Tt m_law_lots) := fg_fun (k := 0) (F := F_law_lots) Fu sc_law_lots k_law_lots {
    bl := bl_of T.bl (by decide +kernel)
    gl := fun i x d h => by simp [g_law_lots] at h
    fn := fun i e h => by simp [g_law_lots] at h } rfl fun as obs o h => by
    unfold m_law_lots at h
    split at h
    · rename_i l
      exact ⟨l, h⟩
    · cases h
theorem fgr_law_otherwise (T : Txt P K mg) : ∀ (n : Nat) (f : Addr) (fd : FuncData), FunN K "_law_otherwise" "_law_otherwise" s_law_otherwise [] f fd → FG P w K mg base (L2.CX P w) (1 + n) f fd ["wish"] (SpC K Tt (mr_law_otherwise n))
  | 0, f, fd, _ => fg_no
  | n + 1, f, fd, Fu => fg_fun (k := 1 + n) (F := F_law_otherwise (mr_law_otherwise n)) Fu sc_law_otherwise k_law_otherwise {
    bl := bl_of T.bl (by decide +kernel)
    gl := fun i x d h => by simp [g_law_otherwise] at h
    fn := fun i e h => match i, h with
      | 0, h => by cases h; exact fnF_of T.d_law_otherwise (fgr_law_otherwise T n) (by omega) (fun _ _ _ _ _ _ us ws hu hw => match us, ws, hu, hw with | [u0], [], _, _ => rfl) (fun _ _ _ h => h)
      | n + 1, h => by simp [g_law_otherwise] at h } rfl fun as obs o h => by
    unfold mr_law_otherwise at h
    split at h
    · rename_i l
      exact ⟨l, h⟩
    · cases h
theorem fg_law_otherwise (T : Txt P K mg) (f : Addr) (fd : FuncData) (Fu : FunN K "_law_otherwise" "_law_otherwise" s_law_otherwise [] f fd) : FG P w K mg base (L2.CX P w) 31 f fd ["wish"] (SpC K Tt m_law_otherwise) := (fgr_law_otherwise T 30 f fd Fu).mono (by decide)
theorem fg_law_deep (T : Txt P K mg) (f : Addr) (fd : FuncData) (Fu : FunN K "_law_deep" "_law_deep" s_law_deep [] f fd) : FG P w K mg base (L2.CX P w) 1 f fd ["many"] (SpC K Tt m_law_deep) := fg_fun (k := 0) (F := F_law_deep) Fu sc_law_deep k_law_deep {
    bl := bl_of T.bl (by decide +kernel)
    gl := fun i x d h => by simp [g_law_deep] at h
    fn := fun i e h => by simp [g_law_deep] at h } rfl fun as obs o h => by
    unfold m_law_deep at h
    split at h
    · rename_i l
      exact ⟨l, h⟩
    · cases h
end
end K09


set_option Elab.async false
set_option linter.all false
set_option maxRecDepth 100000
set_option maxHeartbeats 8000000
namespace K09
open PySem PySem.Spec PyProof.Rows L2 Nv
/-! wishes -/
inductive W
  | often (m : Str)
  | not (w : W)
  | and (ws : List W)
  | or (ws : List W)
mutual
def enc : W → PyData
  | .often m => .tuple [.str "often", .str m]
  | .not w => .tuple [.str "not", enc w]
  | .and ws => .tuple [.str "and", .tuple (encs ws)]
  | .or ws => .tuple [.str "or", .tuple (encs ws)]
def encs : List W → List PyData
  | [] => []
  | w :: ws => enc w :: encs ws
end
mutual
def holdsW (l : List Str) : W → Bool
  | .often m => l.any fun z => PyData.eqv (.str z) (.str m)
  | .not w => !holdsW l w
  | .and ws => allW l ws
  | .or ws => anyW l ws
def allW (l : List Str) : List W → Bool
  | [] => true
  | w :: ws => holdsW l w && allW l ws
def anyW (l : List Str) : List W → Bool
  | [] => false
  | w :: ws => holdsW l w || anyW l ws
end
mutual
def deepW : W → Nat
  | .often _ => 1
  | .not w => deepW w + 1
  | .and ws => deepL ws + 1
  | .or ws => deepL ws + 1
def deepL : List W → Nat
  | [] => 0
  | w :: ws => max (deepW w) (deepL ws)
end
abbrev FH (n : Nat) : Fns := F_law_holds (mr_law_holds n)
/-- a lot as it may be told -/
def Lot (d : PyData) (l : List Str) : Prop := d = .tuple (l.map .str) ∨ d = .list (l.map .str)
theorem flat_strs (l : List Str) : (l.map PyData.str).all flatD = true := by
  rw [List.all_map]
  exact List.all_eq_true.mpr fun _ _ => rfl
theorem in_tup {d : PyData} {ds : List PyData} (h1 : flatD d = true) (h2 : ds.all flatD = true) : cmpN .In d (.tuple ds) = some (ds.any fun z => PyData.eqv z d) := by
  cases d <;> first
    | (cases h1; done)
    | simp only [cmpN, cmpD, h2, flatD, Bool.and_self, Bool.true_and, if_true]
theorem in_lst {d : PyData} {ds : List PyData} (h1 : flatD d = true) (h2 : ds.all flatD = true) : cmpN .In d (.list ds) = some (ds.any fun z => PyData.eqv z d) := by
  cases d <;> first
    | (cases h1; done)
    | simp only [cmpN, cmpD, h2, flatD, Bool.and_self, Bool.true_and, if_true]
theorem in_lot {d : PyData} {l : List Str} (h : Lot d l) (m : Str) : cmpN .In (.str m) d = some (l.any fun z => PyData.eqv (.str z) (.str m)) := by
  rcases h with rfl | rfl
  · rw [in_tup rfl (flat_strs l), List.any_map]
    rfl
  · rw [in_lst rfl (flat_strs l), List.any_map]
    rfl
theorem flat_bools (bs : List Bool) : (bs.map PyData.bool).all flatD = true := by
  rw [List.all_map]
  exact List.all_eq_true.mpr fun _ _ => rfl
theorem in_bools (bs : List Bool) : cmpN .In (.bool true) (.list (bs.map .bool)) = some (bs.any id) := by
  rw [in_lst rfl (flat_bools bs), List.any_map]
  congr 1
  induction bs with
  | nil => rfl
  | cons b r ih =>
    rw [List.any_cons, ih, List.any_cons]
    cases b <;> rfl
theorem notin_bools (bs : List Bool) : cmpN .NotIn (.bool false) (.list (bs.map .bool)) = some (bs.all id) := by
  have e : cmpN .NotIn (.bool false) (.list (bs.map .bool)) = (cmpN .In (.bool false) (.list (bs.map .bool))).map not := by simp only [cmpN]
  rw [e, in_lst rfl (flat_bools bs), List.any_map]
  clear e
  show some (!_) = _
  congr 1
  induction bs with
  | nil => rfl
  | cons b r ih =>
    rw [List.any_cons, Bool.not_or, ih, List.all_cons]
    cases b <;> rfl
/-! _law_holds -/
theorem lh_often (n : Nat) (m : Str) (lot : PyData) (l : List Str) (h : Hh) (hl : Lot lot l) : mr_law_holds (n + 1) [.d (.tuple [.str "often", .str m]), .d lot] h = some (.ok (.d (.bool (l.any fun z => PyData.eqv (.str z) (.str m)))), h) := by
  refine body_rt (F := FH n) (ss_rt ?_)
  rw [s_ifT (d := .bool true) (h1 := h) (by kernel_rfl) rfl]
  exact ss_rt (s_ret (e_cmp (p := .str m) (q := lot) (h1 := h) (h2 := h) (by kernel_rfl) (by kernel_rfl) (in_lot hl m)))
theorem lh_not (n : Nat) (d lot : PyData) (b : Bool) (obs h : Hh) (ih : mr_law_holds n [.d d, .d lot] [] = some (.ok (.d (.bool b)), obs)) : mr_law_holds (n + 1) [.d (.tuple [.str "not", d]), .d lot] h = some (.ok (.d (.bool (!b))), h) := by
  refine body_rt (F := FH n) (ss_nx (δ1 := initS n_law_holds [.d (.tuple [.str "not", d]), .d lot]) (h1 := h) (by kernel_rfl) (ss_rt ?_))
  rw [s_ifT (d := .bool true) (h1 := h) (by kernel_rfl) rfl]
  exact ss_rt (s_ret (e_not (e_call (vs := [.d d, .d lot]) (h1 := h) (by kernel_rfl) (call_d rfl ih))))
def headS (x : Str) : Bool := decide (x = "and") || decide (x = "or")
theorem lh_row (n : Nat) (ds : List PyData) (bs : List Bool) (lot : PyData) (h : Hh) (hz : small ds.length = true) (ih : Paired (fun d b => ∃ obs, mr_law_holds n [.d d, .d lot] [] = some (.ok (.d (.bool b)), obs)) ds bs) :
    mr_law_holds (n + 1) [.d (.tuple [.str "and", .tuple ds]), .d lot] h = some (.ok (.d (.bool (bs.all id))), h) ∧ mr_law_holds (n + 1) [.d (.tuple [.str "or", .tuple ds]), .d lot] h = some (.ok (.d (.bool (bs.any id))), h) := by
  have go : ∀ (x : Str) (δ0 : Env_), δ0 = initS n_law_holds [.d (.tuple [.str x, .tuple ds]), .d lot] → evalS (FH n) (.asg 2 (.comp (.call 0 (.cons (.var 3) (.cons (.var 1) .nil))) (.one 3) (.seq (.sub (.var 0) (.cst (.int 1)))) .non)) δ0 h = some (.nx (δ0.set 2 (some (.d (.list (bs.map .bool))))) h) := by
    intro x δ0 e0
    subst e0
    refine s_asg (e_compR (h1 := h) (i_seq (d := .tuple ds) (by kernel_rfl) rfl) hz ?_)
    refine pr_mapR (pr_imp (fun d b hd => ?_) ih)
    obtain ⟨obs, e⟩ := hd
    exact ⟨_, rfl, e_call (vs := [.d d, .d lot]) (h1 := h) (by kernel_rfl) (call_d rfl e)⟩
  constructor
  · refine body_rt (F := FH n) (ss_nx (δ1 := initS n_law_holds [.d (.tuple [.str "and", .tuple ds]), .d lot]) (h1 := h) (by kernel_rfl) (ss_nx (δ1 := initS n_law_holds [.d (.tuple [.str "and", .tuple ds]), .d lot]) (h1 := h) (by kernel_rfl) (ss_nx (go "and" _ rfl) (ss_rt (s_ret (e_iteT (d := .bool true) (h1 := h) (by kernel_rfl) rfl ?_))))))
    exact e_cmp (p := .bool false) (q := .list (bs.map .bool)) (h1 := h) (h2 := h) (by kernel_rfl) (by kernel_rfl) (notin_bools bs)
  · refine body_rt (F := FH n) (ss_nx (δ1 := initS n_law_holds [.d (.tuple [.str "or", .tuple ds]), .d lot]) (h1 := h) (by kernel_rfl) (ss_nx (δ1 := initS n_law_holds [.d (.tuple [.str "or", .tuple ds]), .d lot]) (h1 := h) (by kernel_rfl) (ss_nx (go "or" _ rfl) (ss_rt (s_ret (e_iteF (d := .bool false) (h1 := h) (by kernel_rfl) rfl ?_))))))
    exact e_cmp (p := .bool true) (q := .list (bs.map .bool)) (h1 := h) (h2 := h) (by kernel_rfl) (by kernel_rfl) (in_bools bs)
mutual
/-- no row is longer than eight -/
def wideW : W → Prop
  | .often _ => True
  | .not w => wideW w
  | .and ws => ws.length ≤ 8 ∧ wideL ws
  | .or ws => ws.length ≤ 8 ∧ wideL ws
def wideL : List W → Prop
  | [] => True
  | w :: ws => wideW w ∧ wideL ws
end
theorem encs_map : ∀ ws : List W, encs ws = ws.map enc
  | [] => rfl
  | w :: ws => by rw [encs, encs_map ws]; rfl
theorem allW_map (l : List Str) : ∀ ws : List W, allW l ws = (ws.map (holdsW l)).all id
  | [] => rfl
  | w :: ws => by rw [allW, allW_map l ws]; rfl
theorem anyW_map (l : List Str) : ∀ ws : List W, anyW l ws = (ws.map (holdsW l)).any id
  | [] => rfl
  | w :: ws => by rw [anyW, anyW_map l ws]; rfl
theorem wideL_mem : ∀ {ws : List W}, wideL ws → ∀ w ∈ ws, wideW w
  | [], _, w, hw => nomatch hw
  | v :: ws, h, w, hw => by
    rcases List.mem_cons.mp hw with rfl | hw
    · exact h.1
    · exact wideL_mem h.2 w hw
theorem deepL_mem : ∀ {ws : List W}, ∀ w ∈ ws, deepW w ≤ deepL ws
  | [], w, hw => nomatch hw
  | v :: ws, w, hw => by
    unfold deepL
    rcases List.mem_cons.mp hw with rfl | hw
    · exact Nat.le_max_left _ _
    · exact Nat.le_trans (deepL_mem w hw) (Nat.le_max_right _ _)
/-- _law_holds of a wish, by itself -/
theorem lh_ok {lot : PyData} {l : List Str} (hl : Lot lot l) : ∀ (n : Nat) (w : W) (h : Hh), deepW w ≤ n → wideW w → mr_law_holds n [.d (enc w), .d lot] h = some (.ok (.d (.bool (holdsW l w))), h)
  | 0, w, h, hd, _ => by cases w <;> simp [deepW] at hd
  | n + 1, .often m, h, _, _ => lh_often n m lot l h hl
  | n + 1, .not w, h, hd, hw => lh_not n (enc w) lot _ _ h (lh_ok hl n w [] (by simpa [deepW] using hd) hw)
  | n + 1, .and ws, h, hd, hw => by
    have r := lh_row n (ws.map enc) (ws.map (holdsW l)) lot h (by rw [List.length_map]; unfold small; have := hw.1; simp; omega) (pr_two fun w hm => ⟨_, lh_ok hl n w [] (Nat.le_trans (deepL_mem w hm) (by simpa [deepW] using hd)) (wideL_mem hw.2 w hm)⟩)
    rw [enc, encs_map, holdsW, allW_map]
    exact r.1
  | n + 1, .or ws, h, hd, hw => by
    have r := lh_row n (ws.map enc) (ws.map (holdsW l)) lot h (by rw [List.length_map]; unfold small; have := hw.1; simp; omega) (pr_two fun w hm => ⟨_, lh_ok hl n w [] (Nat.le_trans (deepL_mem w hm) (by simpa [deepW] using hd)) (wideL_mem hw.2 w hm)⟩)
    rw [enc, encs_map, holdsW, anyW_map]
    exact r.2
theorem boolsD_map : ∀ bs : List Bool, boolsD (bs.map .bool) = some bs
  | [] => rfl
  | b :: bs => by simp only [List.map_cons, boolsD, boolsD_map bs, Option.map]
theorem all_bools {h : Hh} (bs : List Bool) : bltV .all (.d (.list (bs.map .bool))) h = some (.bool (bs.all id)) := by
  simp only [bltV, bltD, boolsD_map, Option.map]
theorem any_bools {h : Hh} (bs : List Bool) : bltV .any (.d (.list (bs.map .bool))) h = some (.bool (bs.any id)) := by
  simp only [bltV, bltD, boolsD_map, Option.map]
/-! holds -/
abbrev FHo (n : Nat) : Fns := F_holds (mr_holds n)
theorem ho_often (n : Nat) (m : Str) (lot : PyData) (l : List Str) (h : Hh) (hl : Lot lot l) : mr_holds (n + 1) [.d (.tuple [.str "often", .str m]), .d lot] h = some (.ok (.d (.bool (l.any fun z => PyData.eqv (.str z) (.str m)))), h) := by
  refine body_rt (F := FHo n) (ss_rt ?_)
  rw [s_ifT (d := .bool true) (h1 := h) (by kernel_rfl) rfl]
  exact ss_rt (s_ret (e_cmp (p := .str m) (q := lot) (h1 := h) (h2 := h) (by kernel_rfl) (by kernel_rfl) (in_lot hl m)))
theorem ho_not (n : Nat) (d lot : PyData) (b : Bool) (obs h : Hh) (ih : mr_holds n [.d d, .d lot] [] = some (.ok (.d (.bool b)), obs)) : mr_holds (n + 1) [.d (.tuple [.str "not", d]), .d lot] h = some (.ok (.d (.bool (!b))), h) := by
  refine body_rt (F := FHo n) (ss_nx (δ1 := initS n_holds [.d (.tuple [.str "not", d]), .d lot]) (h1 := h) (by kernel_rfl) (ss_rt ?_))
  rw [s_ifT (d := .bool true) (h1 := h) (by kernel_rfl) rfl]
  exact ss_rt (s_ret (e_not (e_call (vs := [.d d, .d lot]) (h1 := h) (by kernel_rfl) (call_d rfl ih))))
theorem ho_row (n : Nat) (ds : List PyData) (bs : List Bool) (lot : PyData) (h : Hh) (hz : small ds.length = true) (ih : Paired (fun d b => ∃ obs, mr_holds n [.d d, .d lot] [] = some (.ok (.d (.bool b)), obs)) ds bs) :
    mr_holds (n + 1) [.d (.tuple [.str "and", .tuple ds]), .d lot] h = some (.ok (.d (.bool (bs.all id))), h) ∧ mr_holds (n + 1) [.d (.tuple [.str "or", .tuple ds]), .d lot] h = some (.ok (.d (.bool (bs.any id))), h) := by
  have go : ∀ (x : Str) (δ0 : Env_), δ0 = initS n_holds [.d (.tuple [.str x, .tuple ds]), .d lot] → evalS (FHo n) (.asg 2 (.comp (.call 0 (.cons (.var 3) (.cons (.var 1) .nil))) (.one 3) (.seq (.sub (.var 0) (.cst (.int 1)))) .non)) δ0 h = some (.nx (δ0.set 2 (some (.d (.list (bs.map .bool))))) h) := by
    intro x δ0 e0
    subst e0
    refine s_asg (e_compR (h1 := h) (i_seq (d := .tuple ds) (by kernel_rfl) rfl) hz ?_)
    refine pr_mapR (pr_imp (fun d b hd => ?_) ih)
    obtain ⟨obs, e⟩ := hd
    exact ⟨_, rfl, e_call (vs := [.d d, .d lot]) (h1 := h) (by kernel_rfl) (call_d rfl e)⟩
  constructor
  · refine body_rt (F := FHo n) (ss_nx (δ1 := initS n_holds [.d (.tuple [.str "and", .tuple ds]), .d lot]) (h1 := h) (by kernel_rfl) (ss_nx (δ1 := initS n_holds [.d (.tuple [.str "and", .tuple ds]), .d lot]) (h1 := h) (by kernel_rfl) (ss_nx (go "and" _ rfl) (ss_rt (s_ret (e_iteT (d := .bool true) (h1 := h) (by kernel_rfl) rfl ?_))))))
    exact e_blt (x := .d (.list (bs.map .bool))) (h1 := h) (by kernel_rfl) (all_bools bs)
  · refine body_rt (F := FHo n) (ss_nx (δ1 := initS n_holds [.d (.tuple [.str "or", .tuple ds]), .d lot]) (h1 := h) (by kernel_rfl) (ss_nx (δ1 := initS n_holds [.d (.tuple [.str "or", .tuple ds]), .d lot]) (h1 := h) (by kernel_rfl) (ss_nx (go "or" _ rfl) (ss_rt (s_ret (e_iteF (d := .bool false) (h1 := h) (by kernel_rfl) rfl ?_))))))
    exact e_blt (x := .d (.list (bs.map .bool))) (h1 := h) (by kernel_rfl) (any_bools bs)
/-- holds of a wish, by itself -/
theorem ho_ok {lot : PyData} {l : List Str} (hl : Lot lot l) : ∀ (n : Nat) (w : W) (h : Hh), deepW w ≤ n → wideW w → mr_holds n [.d (enc w), .d lot] h = some (.ok (.d (.bool (holdsW l w))), h)
  | 0, w, h, hd, _ => by cases w <;> simp [deepW] at hd
  | n + 1, .often m, h, _, _ => ho_often n m lot l h hl
  | n + 1, .not w, h, hd, hw => ho_not n (enc w) lot _ _ h (ho_ok hl n w [] (by simpa [deepW] using hd) hw)
  | n + 1, .and ws, h, hd, hw => by
    have r := ho_row n (ws.map enc) (ws.map (holdsW l)) lot h (by rw [List.length_map]; unfold small; have := hw.1; simp; omega) (pr_two fun w hm => ⟨_, ho_ok hl n w [] (Nat.le_trans (deepL_mem w hm) (by simpa [deepW] using hd)) (wideL_mem hw.2 w hm)⟩)
    rw [enc, encs_map, holdsW, allW_map]
    exact r.1
  | n + 1, .or ws, h, hd, hw => by
    have r := ho_row n (ws.map enc) (ws.map (holdsW l)) lot h (by rw [List.length_map]; unfold small; have := hw.1; simp; omega) (pr_two fun w hm => ⟨_, ho_ok hl n w [] (Nat.le_trans (deepL_mem w hm) (by simpa [deepW] using hd)) (wideL_mem hw.2 w hm)⟩)
    rw [enc, encs_map, holdsW, anyW_map]
    exact r.2
/-! a wish, told by tuples or lists -/
def Row (ds : List PyData) (d : PyData) : Prop := d = .tuple ds ∨ d = .list ds
mutual
inductive Enc : PyData → W → Prop
  | often {d : PyData} {m : Str} (h : Row [.str "often", .str m] d) : Enc d (.often m)
  | not {d e : PyData} {w : W} (h : Row [.str "not", e] d) (r : Enc e w) : Enc d (.not w)
  | and {d e : PyData} {ds : List PyData} {ws : List W} (h : Row [.str "and", e] d) (h2 : Row ds e) (r : EncL ds ws) : Enc d (.and ws)
  | or {d e : PyData} {ds : List PyData} {ws : List W} (h : Row [.str "or", e] d) (h2 : Row ds e) (r : EncL ds ws) : Enc d (.or ws)
inductive EncL : List PyData → List W → Prop
  | nil : EncL [] []
  | cons {d : PyData} {w : W} {ds : List PyData} {ws : List W} (h : Enc d w) (r : EncL ds ws) : EncL (d :: ds) (w :: ws)
end
theorem EncL.pr : ∀ {ds : List PyData} {ws : List W}, EncL ds ws → Paired Enc ds ws
  | _, _, .nil => .nil
  | _, _, .cons h r => .cons h r.pr
/-! fixed -/
abbrev FFx (n : Nat) : Fns := F_fixed (mr_fixed n)
theorem fx_str (n : Nat) (s : Str) (h : Hh) : mr_fixed (n + 1) [.d (.str s)] h = some (.ok (.d (.str s)), h) := by kernel_rfl
theorem fx_row (n : Nat) {ds zs : List PyData} {d : PyData} (hr : Row ds d) (h : Hh) (hz : small ds.length = true) (ih : Paired (fun d z => ∃ obs, mr_fixed n [.d d] [] = some (.ok (.d z), obs)) ds zs) : mr_fixed (n + 1) [.d d] h = some (.ok (.d (.tuple zs)), h) := by
  have t : ∃ b, isiD d ["list", "tuple"] = some b ∧ b = true ∧ itemsD d = some ds := by
    rcases hr with rfl | rfl
    · exact ⟨true, rfl, rfl, rfl⟩
    · exact ⟨true, rfl, rfl, rfl⟩
  obtain ⟨b, e1, rfl, e2⟩ := t
  refine body_rt (F := FFx n) (ss_rt ?_)
  rw [s_ifT (d := .bool true) (h1 := h) ?_ rfl]
  · refine ss_rt (s_ret (e_blt (x := .d (.list zs)) (h1 := h) (e_compR (h1 := h) (i_seq (d := d) (by kernel_rfl) e2) hz (pr_imp (fun d z hd => ?_) ih)) rfl))
    obtain ⟨obs, e⟩ := hd
    exact ⟨_, rfl, e_call (vs := [.d d]) (h1 := h) (by kernel_rfl) (call_d rfl e)⟩
  · exact e_isi (d := d) (by kernel_rfl) e1
mutual
/-- what fixed needs -/
def fuelF : W → Nat
  | .often _ => 2
  | .not w => fuelF w + 1
  | .and ws => fuelL ws + 2
  | .or ws => fuelL ws + 2
def fuelL : List W → Nat
  | [] => 0
  | w :: ws => max (fuelF w) (fuelL ws)
end
theorem fuel_two : ∀ w : W, 1 ≤ fuelF w
  | .often _ => by simp [fuelF]
  | .not w => by simp [fuelF]
  | .and ws => by simp [fuelF]
  | .or ws => by simp [fuelF]
theorem len_of {ds : List PyData} {ws : List W} (r : EncL ds ws) : ds.length = ws.length := Paired.length r.pr
theorem small8 {n : Nat} (h : n ≤ 8) : small n = true := by
  unfold small
  simp
  omega
mutual
theorem fx_ok : ∀ {d : PyData} {w : W}, Enc d w → ∀ (n : Nat) (h : Hh), fuelF w ≤ n → wideW w → mr_fixed n [.d d] h = some (.ok (.d (enc w)), h)
  | _, _, .often hr, n + 2, h, _, _ => fx_row (n + 1) hr h rfl (.cons ⟨_, fx_str n _ []⟩ (.cons ⟨_, fx_str n _ []⟩ .nil))
  | _, _, .often hr, 0, h, hf, _ => by simp [fuelF] at hf
  | _, _, .often hr, 1, h, hf, _ => by simp [fuelF] at hf
  | _, _, .not (w := w) hr r, n, h, hf, hw => by
    have h1 := fuel_two w
    simp only [fuelF] at hf
    match n, hf with
    | n + 2, hf => exact fx_row (n + 1) hr h rfl (.cons ⟨_, fx_str n _ []⟩ (.cons ⟨_, fx_ok r (n + 1) [] (by omega) hw⟩ .nil))
    | 0, hf => omega
    | 1, hf => omega
  | _, _, .and (ws := ws) hr h2 r, n, h, hf, hw => by
    simp only [fuelF] at hf
    match n, hf with
    | n + 2, hf => exact fx_row (n + 1) hr h rfl (.cons ⟨_, fx_str n _ []⟩ (.cons ⟨_, fx_row n h2 [] (by rw [len_of r]; exact small8 hw.1) (fx_list r n (by omega) hw.2)⟩ .nil))
    | 0, hf => omega
    | 1, hf => omega
  | _, _, .or (ws := ws) hr h2 r, n, h, hf, hw => by
    simp only [fuelF] at hf
    match n, hf with
    | n + 2, hf => exact fx_row (n + 1) hr h rfl (.cons ⟨_, fx_str n _ []⟩ (.cons ⟨_, fx_row n h2 [] (by rw [len_of r]; exact small8 hw.1) (fx_list r n (by omega) hw.2)⟩ .nil))
    | 0, hf => omega
    | 1, hf => omega
theorem fx_list : ∀ {ds : List PyData} {ws : List W}, EncL ds ws → ∀ (n : Nat), fuelL ws ≤ n → wideL ws → Paired (fun d z => ∃ obs, mr_fixed n [.d d] [] = some (.ok (.d z), obs)) ds (encs ws)
  | _, _, .nil, n, _, _ => .nil
  | _, _, .cons h r, n, hf, hw => by
    simp only [fuelL] at hf
    exact .cons ⟨_, fx_ok h n [] (by omega) hw.1⟩ (fx_list r n (by omega) hw.2)
end
/-! parts_of -/
abbrev FP (n : Nat) : Fns := F_parts_of (mr_parts_of n)
theorem row_two {a b d : PyData} (hr : Row [a, b] d) : m_is_row [.d d, .d (.int 2)] [] = some (.ok (.d (.bool true)), []) := by
  rcases hr with rfl | rfl <;> kernel_rfl
theorem po_zero (n : Nat) (d : PyData) (h : Hh) : mr_parts_of (n + 1) [.d d, .d (.int 0)] h = some (.ok (.d .none), h) := by kernel_rfl
/-- behind the first look: word and told are set -/
theorem po_head (n : Nat) {x : Str} {e d : PyData} {dp : Int} (hr : Row [.str x, e] d) (hd : cmpN .Eq (.int dp) (.int 0) = some false) (h : Hh) {ss : Sds} {r : Option Out}
    (k : evalSs (FP n) ss [some (.d d), some (.d (.int dp)), some (.d (.str x)), some (.d e), none, none, none] h = r) :
    evalSs (FP n) (.cons (.ifs (.or_ (.cmp .Eq (.var 1) (.cst (.int 0))) (.or_ (.not_ (.call 3 (.cons (.var 0) (.cons (.cst (.int 2)) .nil)))) (.not_ (.isi (.sub (.var 0) (.cst (.int 0))) ["str"])))) (.cons (.ret (.cst .none)) .nil) .nil) (.cons (.unp [2, 3] (.var 0)) ss)) (initS n_parts_of [.d d, .d (.int dp)]) h = r := by
  have sub0 : evalE (FP n) (.sub (.var 0) (.cst (.int 0))) (initS n_parts_of [.d d, .d (.int dp)]) h = some (.ok (.d (.str x)), h) := by
    rcases hr with rfl | rfl <;> kernel_rfl
  refine ss_nx (δ1 := initS n_parts_of [.d d, .d (.int dp)]) (h1 := h) ?_ (ss_nx (δ1 := [some (.d d), some (.d (.int dp)), some (.d (.str x)), some (.d e), none, none, none]) (h1 := h) (s_unp (v := .d d) (h1 := h) (by kernel_rfl) ?_) k)
  · rw [s_ifF (d := .bool false) (h1 := h) ?_ rfl]
    · exact ss_nil
    · refine e_orF (h1 := h) (e_cmp (p := .int dp) (q := .int 0) (h1 := h) (h2 := h) (by kernel_rfl) (by kernel_rfl) hd) (e_orF (h1 := h) (e_not (b := true) (e_call (vs := [.d d, .d (.int 2)]) (h1 := h) (by kernel_rfl) (call_d rfl (row_two hr)))) ?_)
      exact e_not (b := true) (e_isi sub0 rfl)
  · rcases hr with rfl | rfl <;> rfl
theorem po_often (n : Nat) {m : Str} {d : PyData} {dp : Int} (hr : Row [.str "often", .str m] d) (hd : cmpN .Eq (.int dp) (.int 0) = some false) (hm : m_is_name [.d (.str m)] [] = some (.ok (.d (.bool true)), [])) (h : Hh) : mr_parts_of (n + 1) [.d d, .d (.int dp)] h = some (.ok (.d (.int 1)), h) := by
  refine body_rt (F := FP n) (po_head n hr hd h (ss_rt ?_))
  rw [s_ifT (d := .bool true) (h1 := h) (by kernel_rfl) rfl]
  exact ss_rt (s_ret (e_iteT (d := .bool true) (h1 := h) (e_call (vs := [.d (.str m)]) (h1 := h) (by kernel_rfl) (call_d rfl hm)) rfl (by kernel_rfl)))
mutual
/-- how many parts a wish has, at most so many levels deep -/
def partsW : Nat → W → Option Int
  | 0, _ => none
  | _ + 1, .often _ => some 1
  | k + 1, .not w => match partsW k w with
    | some p => some (1 + p)
    | none => none
  | k + 1, .and ws => partsL k ws 1
  | k + 1, .or ws => partsL k ws 1
def partsL : Nat → List W → Int → Option Int
  | _, [], acc => some acc
  | k, w :: ws, acc => match partsW k w with
    | some p => partsL k ws (acc + p)
    | none => none
end
def optI : Option Int → PyData
  | some i => .int i
  | none => .none
/-- the loop over the parts -/
def bodyP : Sds := (.cons (.asg 6 (.call 0 (.cons (.var 5) (.cons (.bin .Sub (.var 1) (.cst (.int 1))) .nil)))) (.cons (.ifs (.cmp .Is (.var 6) (.cst .none)) (.cons (.ret (.cst .none)) .nil) .nil) (.cons (.aug 4 .Add (.var 6)) .nil)))
theorem po_loop (n : Nat) {dp : Int} {d e : PyData} {x : Str} (h : Hh) : ∀ {ds : List PyData} {zs : List (Option Int)}, Paired (fun d z => ∃ obs, mr_parts_of n [.d d, .d (.int (dp - 1))] [] = some (.ok (.d (optI z)), obs)) ds zs → ∀ (acc : Int) (o5 o6 : Option Vv),
    (∃ r o5' o6', zs.foldl (fun a z => match a, z with | some a, some z => some (a + z) | _, _ => none) (some acc) = some r ∧ forLoop (evalSs (FP n) bodyP) (.one 5) ds [some (.d d), some (.d (.int dp)), some (.d (.str x)), some (.d e), some (.d (.int acc)), o5, o6] h = some (.nx [some (.d d), some (.d (.int dp)), some (.d (.str x)), some (.d e), some (.d (.int r)), o5', o6'] h)) ∨
    (zs.foldl (fun a z => match a, z with | some a, some z => some (a + z) | _, _ => none) (some acc) = none ∧ forLoop (evalSs (FP n) bodyP) (.one 5) ds [some (.d d), some (.d (.int dp)), some (.d (.str x)), some (.d e), some (.d (.int acc)), o5, o6] h = some (.rt (.d .none) h))
  | [], [], .nil, acc, o5, o6 => .inl ⟨acc, o5, o6, rfl, rfl⟩
  | y :: ds, z :: zs, .cons hd r, acc, o5, o6 => by
    obtain ⟨obs, ec⟩ := hd
    have call : evalS (FP n) (.asg 6 (.call 0 (.cons (.var 5) (.cons (.bin .Sub (.var 1) (.cst (.int 1))) .nil)))) [some (.d d), some (.d (.int dp)), some (.d (.str x)), some (.d e), some (.d (.int acc)), some (.d y), o6] h = some (.nx [some (.d d), some (.d (.int dp)), some (.d (.str x)), some (.d e), some (.d (.int acc)), some (.d y), some (.d (optI z))] h) :=
      s_asg (e_call (vs := [.d y, .d (.int (dp - 1))]) (h1 := h) (by kernel_rfl) (call_d rfl ec))
    cases z with
    | none =>
      refine .inr ⟨?_, for_rt (δ1 := [some (.d d), some (.d (.int dp)), some (.d (.str x)), some (.d e), some (.d (.int acc)), some (.d y), o6]) rfl (ss_nx call (by kernel_rfl))⟩
      rw [List.foldl_cons]
      clear call r ec
      induction zs with
      | nil => rfl
      | cons z zs ih => exact ih
    | some p =>
      have step : evalSs (FP n) bodyP [some (.d d), some (.d (.int dp)), some (.d (.str x)), some (.d e), some (.d (.int acc)), some (.d y), o6] h = some (.nx [some (.d d), some (.d (.int dp)), some (.d (.str x)), some (.d e), some (.d (.int (acc + p))), some (.d y), some (.d (.int p))] h) := ss_nx call (by kernel_rfl)
      rcases po_loop n (dp := dp) (d := d) (e := e) (x := x) h r (acc + p) (some (.d y)) (some (.d (.int p))) with ⟨q, o5', o6', e1, e2⟩ | ⟨e1, e2⟩
      · exact .inl ⟨q, o5', o6', e1, for_nx (δ1 := [some (.d d), some (.d (.int dp)), some (.d (.str x)), some (.d e), some (.d (.int acc)), some (.d y), o6]) rfl step e2⟩
      · exact .inr ⟨e1, for_nx (δ1 := [some (.d d), some (.d (.int dp)), some (.d (.str x)), some (.d e), some (.d (.int acc)), some (.d y), o6]) rfl step e2⟩
def sumO (zs : List (Option Int)) (acc : Int) : Option Int := zs.foldl (fun a z => match a, z with | some a, some z => some (a + z) | _, _ => none) (some acc)
/-- behind the looks: many = 1, the loop, return many -/
theorem po_tail (n : Nat) {dp : Int} {d e : PyData} {x : Str} (h : Hh) {ds : List PyData} {zs : List (Option Int)} {it : Ci} (hi : evalI (FP n) it [some (.d d), some (.d (.int dp)), some (.d (.str x)), some (.d e), some (.d (.int 1)), none, none] h = some (.ok ds, h)) (hz : small ds.length = true)
    (r : Paired (fun d z => ∃ obs, mr_parts_of n [.d d, .d (.int (dp - 1))] [] = some (.ok (.d (optI z)), obs)) ds zs) :
    evalSs (FP n) (.cons (.asg 4 (.cst (.int 1))) (.cons (.for_ (.one 5) it bodyP) (.cons (.ret (.var 4)) .nil))) [some (.d d), some (.d (.int dp)), some (.d (.str x)), some (.d e), none, none, none] h = some (.rt (.d (optI (sumO zs 1))) h) := by
  refine ss_nx (δ1 := [some (.d d), some (.d (.int dp)), some (.d (.str x)), some (.d e), some (.d (.int 1)), none, none]) (h1 := h) (s_asg e_cst) ?_
  rcases po_loop n (dp := dp) (d := d) (e := e) (x := x) h r 1 none none with ⟨q, o5', o6', e1, e2⟩ | ⟨e1, e2⟩
  · rw [show sumO zs 1 = some q from e1]
    exact ss_nx (s_for hi hz e2) (ss_rt (s_ret (e_var rfl)))
  · rw [show sumO zs 1 = none from e1]
    exact ss_rt (s_for hi hz e2)
theorem po_not (n : Nat) {e d : PyData} {dp : Int} {z : Option Int} (hr : Row [.str "not", e] d) (hd : cmpN .Eq (.int dp) (.int 0) = some false) (h : Hh) (obs : Hh) (ih : mr_parts_of n [.d e, .d (.int (dp - 1))] [] = some (.ok (.d (optI z)), obs)) :
    mr_parts_of (n + 1) [.d d, .d (.int dp)] h = some (.ok (.d (optI (sumO [z] 1))), h) := by
  refine body_rt (F := FP n) (po_head n hr hd h (ss_nx (δ1 := [some (.d d), some (.d (.int dp)), some (.d (.str "not")), some (.d e), none, none, none]) (h1 := h) (by kernel_rfl) (ss_nx (δ1 := [some (.d d), some (.d (.int dp)), some (.d (.str "not")), some (.d e), none, none, none]) (h1 := h) (by kernel_rfl) ?_)))
  exact po_tail n h (ds := [e]) (by kernel_rfl) rfl (.cons ⟨obs, ih⟩ .nil)
theorem po_row (n : Nat) {e d : PyData} {ds : List PyData} {dp : Int} {zs : List (Option Int)} {x : Str} (hx : x = "and" ∨ x = "or") (hr : Row [.str x, e] d) (hr2 : Row ds e) (hl : ds.length ≤ 8) (hd : cmpN .Eq (.int dp) (.int 0) = some false) (h : Hh) (ih : Paired (fun d z => ∃ obs, mr_parts_of n [.d d, .d (.int (dp - 1))] [] = some (.ok (.d (optI z)), obs)) ds zs) :
    mr_parts_of (n + 1) [.d d, .d (.int dp)] h = some (.ok (.d (optI (sumO zs 1))), h) := by
  refine body_rt (F := FP n) (po_head n hr hd h (ss_nx (δ1 := [some (.d d), some (.d (.int dp)), some (.d (.str x)), some (.d e), none, none, none]) (h1 := h) ?_ (ss_nx (δ1 := [some (.d d), some (.d (.int dp)), some (.d (.str x)), some (.d e), none, none, none]) (h1 := h) ?_ ?_)))
  · rcases hx with rfl | rfl <;> kernel_rfl
  · have lenE : bltV .len (.d e) h = some (.int ds.length) := by rcases hr2 with rfl | rfl <;> rfl
    have gt : cmpN .Gt (.int (ds.length : Int)) (.int 8) = some false := by
      show some (decide _) = _
      congr 1
      simp
      omega
    rw [s_ifF (d := .bool false) (h1 := h) ?_ rfl]
    · exact ss_nil
    · refine e_andT (h1 := h) (by rcases hx with rfl | rfl <;> kernel_rfl) (e_orF (h1 := h) (by rcases hx with rfl | rfl <;> kernel_rfl) (e_orF (h1 := h) (e_not (b := true) (e_call (vs := [.d e]) (h1 := h) (by kernel_rfl) (call_d (obs := []) rfl ?_))) ?_))
      · rcases hr2 with rfl | rfl <;> kernel_rfl
      · exact e_cmp (p := .int ds.length) (q := .int 8) (h1 := h) (h2 := h) (e_blt (x := .d e) (h1 := h) (by kernel_rfl) lenE) (by kernel_rfl) gt
  · refine po_tail n h (ds := ds) ?_ (small8 hl) ih
    rcases hx with rfl | rfl <;> rcases hr2 with rfl | rfl <;> kernel_rfl
theorem sumO_none : ∀ zs : List (Option Int), zs.foldl (fun a z => match a, z with | some a, some z => some (a + z) | _, _ => none) (none : Option Int) = none
  | [] => rfl
  | z :: zs => sumO_none zs
theorem sum_parts (k : Nat) : ∀ (ws : List W) (acc : Int), sumO (ws.map (partsW k)) acc = partsL k ws acc
  | [], acc => by rw [partsL]; rfl
  | w :: ws, acc => by
    rw [partsL]
    unfold sumO
    rw [List.map_cons, List.foldl_cons]
    cases e : partsW k w with
    | none => exact sumO_none _
    | some p => exact sum_parts k ws (acc + p)
mutual
/-- all its marks are names -/
def namesW : W → Prop
  | .often m => m_is_name [.d (.str m)] [] = some (.ok (.d (.bool true)), [])
  | .not w => namesW w
  | .and ws => namesL ws
  | .or ws => namesL ws
def namesL : List W → Prop
  | [] => True
  | w :: ws => namesW w ∧ namesL ws
end
theorem ne_zero (k : Nat) : cmpN .Eq (.int ((k + 1 : Nat) : Int)) (.int 0) = some false := by
  have e : PyData.eqv (.int ((k + 1 : Nat) : Int)) (.int 0) = false := by
    simp [PyData.eqv]
    omega
  have s : cmpN .Eq (.int ((k + 1 : Nat) : Int)) (.int 0) = some (PyData.eqv (.int ((k + 1 : Nat) : Int)) (.int 0)) := by kernel_rfl
  rw [s, e]
mutual
theorem po_ok : ∀ {d : PyData} {w : W}, Enc d w → ∀ (k n : Nat) (h : Hh), k + 1 ≤ n → wideW w → namesW w → mr_parts_of n [.d d, .d (.int (k : Int))] h = some (.ok (.d (optI (partsW k w))), h)
  | d, w, en, 0, n, h, hn, _, _ => by
    match n, hn with
    | n + 1, _ =>
      rw [show partsW 0 w = none by cases w <;> rfl]
      exact po_zero n d h
  | _, _, .often hr, k + 1, n + 1, h, hn, _, hm => po_often n hr (ne_zero k) hm h
  | _, _, .not (w := w) hr r, k + 1, n + 1, h, hn, hw, hm => by
    have i := po_ok r k n [] (by omega) hw hm
    have e := po_not n (dp := ((k + 1 : Nat) : Int)) (z := partsW k w) hr (ne_zero k) h [] (by rw [show ((k + 1 : Nat) : Int) - 1 = (k : Int) by omega]; exact i)
    rw [e, partsW]
    cases partsW k w <;> rfl
  | _, _, .and (ws := ws) hr h2 r, k + 1, n + 1, h, hn, hw, hm => by
    rw [partsW, ← sum_parts]
    exact po_row n (.inl rfl) hr h2 (by rw [len_of r]; exact hw.1) (ne_zero k) h (po_list r k n (by omega) hw.2 hm)
  | _, _, .or (ws := ws) hr h2 r, k + 1, n + 1, h, hn, hw, hm => by
    rw [partsW, ← sum_parts]
    exact po_row n (.inr rfl) hr h2 (by rw [len_of r]; exact hw.1) (ne_zero k) h (po_list r k n (by omega) hw.2 hm)
theorem po_list : ∀ {ds : List PyData} {ws : List W}, EncL ds ws → ∀ (k n : Nat), k + 1 ≤ n → wideL ws → namesL ws → Paired (fun d z => ∃ obs, mr_parts_of n [.d d, .d (.int (((k + 1 : Nat) : Int) - 1))] [] = some (.ok (.d (optI z)), obs)) ds (ws.map (partsW k))
  | _, _, .nil, k, n, _, _, _ => .nil
  | _, _, .cons hd r, k, n, hn, hw, hm => .cons ⟨[], by rw [show ((k + 1 : Nat) : Int) - 1 = (k : Int) by omega]; exact po_ok hd k n [] hn hw.1 hm.1⟩ (po_list r k n hn hw.2 hm.2)
end
/-! marks_in -/
def within : W → List W
  | .often _ => []
  | .not w => [w]
  | .and ws => ws
  | .or ws => ws
theorem ww_ok {d : PyData} {w : W} (en : Enc d w) (h : Hh) : ∃ ds, EncL ds (within w) ∧ m_within_wish [.d d] h = some (.ok (.d (.tuple ds)), h) := by
  cases en with
  | often hr => exact ⟨[], .nil, by rcases hr with rfl | rfl <;> kernel_rfl⟩
  | not hr r => exact ⟨[_], .cons r .nil, by rcases hr with rfl | rfl <;> kernel_rfl⟩
  | and hr h2 r => exact ⟨_, r, by rcases hr with rfl | rfl <;> rcases h2 with rfl | rfl <;> kernel_rfl⟩
  | or hr h2 r => exact ⟨_, r, by rcases hr with rfl | rfl <;> rcases h2 with rfl | rfl <;> kernel_rfl⟩
def keyL (ks : List Str) : List (PyData × Vv) := ks.map fun k => (.str k, .d (.bool true))
def addK (ks : List Str) (m : Str) : List Str := if m ∈ ks then ks else ks ++ [m]
theorem put_key (ks : List Str) (m : Str) : putD (keyL ks) (.inr m) (.d (.bool true)) = keyL (addK ks m) := by
  have a : ((keyL ks).any fun p => decide (keyOf p.1 = some (.inr m))) = decide (m ∈ ks) := by
    unfold keyL
    rw [List.any_map]
    induction ks with
    | nil => rfl
    | cons k ks ih =>
      rw [List.any_cons, ih]
      by_cases e : m = k
      · subst e
        simp [keyOf]
      · simp [keyOf, e, Ne.symm e]
  unfold putD addK
  rw [a]
  by_cases e : m ∈ ks
  · simp only [e, decide_true, if_true]
    unfold keyL
    rw [List.map_map]
    refine List.map_congr_left fun k _ => ?_
    show (if _ then _ else _) = _
    split <;> rfl
  · simp only [e, decide_false, if_false]
    unfold keyL
    rw [List.map_append]
    rfl
theorem keys_of : ∀ ks : List Str, strKeys (keyL ks) = some ks
  | [] => rfl
  | k :: ks => by
    have := keys_of ks
    unfold keyL at this ⊢
    simp only [List.map_cons, strKeys, this]
theorem add_nodup {ks : List Str} (h : ks.Nodup) (m : Str) : (addK ks m).Nodup := by
  unfold addK
  split
  · exact h
  · rename_i e
    exact List.nodup_append.mpr ⟨h, by simp, fun a ha b hb z => by
      rw [List.mem_singleton] at hb
      subst hb; subst z
      exact e ha⟩
theorem add_mem {ks : List Str} {m k : Str} : k ∈ addK ks m ↔ k ∈ ks ∨ k = m := by
  unfold addK
  split
  · rename_i e
    refine ⟨.inl, fun h => ?_⟩
    rcases h with h | rfl
    · exact h
    · exact e
  · simp
mutual
def nodesW : W → Nat
  | .often _ => 1
  | .not w => nodesW w + 1
  | .and ws => nodesL ws + 1
  | .or ws => nodesL ws + 1
def nodesL : List W → Nat
  | [] => 0
  | w :: ws => nodesW w + nodesL ws
end
theorem nodesL_app : ∀ a b : List W, nodesL (a ++ b) = nodesL a + nodesL b
  | [], b => by simp [nodesL]
  | w :: a, b => by simp only [List.cons_append, nodesL, nodesL_app a b]; omega
theorem nodesL_rev : ∀ a : List W, nodesL a.reverse = nodesL a
  | [] => rfl
  | w :: a => by simp only [List.reverse_cons, nodesL_app, nodesL_rev a, nodesL]; omega
theorem nodes_within (w : W) : nodesL (within w) + 1 = nodesW w := by cases w <;> simp [within, nodesW, nodesL]
theorem nodes_pos (w : W) : 1 ≤ nodesW w := by have := nodes_within w; omega
theorem len_nodes : ∀ ws : List W, ws.length ≤ nodesL ws
  | [] => Nat.le_refl _
  | w :: ws => by have := len_nodes ws; have := nodes_pos w; simp only [List.length_cons, nodesL]; omega
theorem EncL.app : ∀ {a : List PyData} {u : List W} {b : List PyData} {v : List W}, EncL a u → EncL b v → EncL (a ++ b) (u ++ v)
  | _, _, _, _, .nil, s => s
  | _, _, _, _, .cons h r, s => .cons h (r.app s)
theorem EncL.rev : ∀ {a : List PyData} {u : List W}, EncL a u → EncL a.reverse u.reverse
  | _, _, .nil => .nil
  | _, _, .cons h r => by
    rw [List.reverse_cons, List.reverse_cons]
    exact r.rev.app (.cons h .nil)
/-- the marks that stand on top -/
def topM : W → List Str
  | .often m => [m]
  | _ => []
/-- the keys behind the walk over a stack -/
def walkK : Nat → List W → List Str → List Str
  | 0, _, ks => ks
  | _ + 1, [], ks => ks
  | m + 1, w :: ws, ks => walkK m ((within w).reverse ++ ws) ((topM w).foldl addK ks)
abbrev FM : Fns := F_marks_in
def bodyI : Sds := (.cons (.asg 3 (.popL (.var 2))) (.cons (.ifs (.cmp .Eq (.sub (.var 3) (.cst (.int 0))) (.glb (.str "often"))) (.cons (.setI (.var 1) (.sub (.var 3) (.cst (.int 1))) (.cst (.bool true))) .nil) .nil) (.cons (.ext (.var 2) (.call 0 (.cons (.var 3) .nil))) .nil)))
def stI (d : PyData) (o3 : Option Vv) : Env_ := [some (.d d), some (.r 0), some (.r 1), o3]
def hpI (ks : List Str) (rs : List PyData) : Hh := [.dct (keyL ks), .lst (rs.reverse.map .d)]
theorem mi_step {wd d : PyData} {w : W} {rs : List PyData} {ks : List Str} (o3 : Option Vv) (en : Enc d w) (hl : rs.length < 1000) (hk : ks.length < 1000) : ∃ ds, EncL ds (within w) ∧ (ds.length + rs.length < 100000 → evalSs FM bodyI (stI wd o3) (hpI ks (d :: rs)) = some (.nx (stI wd (some (.d d))) (hpI ((topM w).foldl addK ks) (ds.reverse ++ rs)))) := by
  obtain ⟨ds, e1, e2⟩ := ww_ok en []
  refine ⟨ds, e1, fun hz => ?_⟩
  have pop : popL (.r 1) (hpI ks (d :: rs)) = some (.ok (.d d), hpI ks rs) := by
    unfold popL hpI
    simp only [List.reverse_cons, List.map_append, List.map_cons, List.map_nil, List.getElem?_cons_succ, List.getElem?_cons_zero, List.length_append, List.length_map, List.length_reverse, List.length_cons, List.length_nil, Nat.add_sub_cancel, List.set_cons_succ, List.set_cons_zero]
    rw [List.getElem?_append_right (by simp)]
    simp
    omega
  have s1 : evalS FM (.asg 3 (.popL (.var 2))) (stI wd o3) (hpI ks (d :: rs)) = some (.nx (stI wd (some (.d d))) (hpI ks rs)) := s_asg (e_popL (x := .r 1) (h1 := hpI ks (d :: rs)) (by kernel_rfl) pop)
  refine ss_nx s1 ?_
  have s2 : evalS FM (.ifs (.cmp .Eq (.sub (.var 3) (.cst (.int 0))) (.glb (.str "often"))) (.cons (.setI (.var 1) (.sub (.var 3) (.cst (.int 1))) (.cst (.bool true))) .nil) .nil) (stI wd (some (.d d))) (hpI ks rs) = some (.nx (stI wd (some (.d d))) (hpI ((topM w).foldl addK ks) rs)) := by
    cases en with
    | @often _ m hr =>
      rw [s_ifT (d := .bool true) (h1 := hpI ks rs) (by rcases hr with rfl | rfl <;> kernel_rfl) rfl]
      refine ss_nx (δ1 := stI wd (some (.d d))) (h1 := hpI (addK ks m) rs) (s_setI (v := .d (.bool true)) (x := .r 0) (y := .d (.str m)) (h1 := hpI ks rs) (h2 := hpI ks rs) (h3 := hpI ks rs) (by kernel_rfl) (by kernel_rfl) (by rcases hr with rfl | rfl <;> kernel_rfl) ?_) ss_nil
      have z : small ((keyL ks).length + 1) = true := by
        unfold small keyL
        rw [List.length_map]
        simp
        omega
      show (if small ((keyL ks).length + 1) = true then some (Out.nx _ _) else none) = _
      rw [if_pos z, put_key]
      rfl
    | not hr r => rw [s_ifF (d := .bool false) (h1 := hpI ks rs) (by rcases hr with rfl | rfl <;> kernel_rfl) rfl]; exact ss_nil
    | and hr h2 r => rw [s_ifF (d := .bool false) (h1 := hpI ks rs) (by rcases hr with rfl | rfl <;> kernel_rfl) rfl]; exact ss_nil
    | or hr h2 r => rw [s_ifF (d := .bool false) (h1 := hpI ks rs) (by rcases hr with rfl | rfl <;> kernel_rfl) rfl]; exact ss_nil
  refine ss_nx s2 (ss_nx (δ1 := stI wd (some (.d d))) (h1 := hpI ((topM w).foldl addK ks) (ds.reverse ++ rs)) (s_ext (x := .r 1) (v := .d (.tuple ds)) (h1 := hpI ((topM w).foldl addK ks) rs) (h2 := hpI ((topM w).foldl addK ks) rs) (by kernel_rfl) rfl (e_call (vs := [.d d]) (h1 := hpI ((topM w).foldl addK ks) rs) (by kernel_rfl) (call_d rfl e2)) ?_) ss_nil)
  have z : small ((rs.reverse.map Vv.d).length + ds.length) = true := by
    unfold small
    rw [List.length_map, List.length_reverse]
    simp
    omega
  show (if small ((rs.reverse.map Vv.d).length + ds.length) = true then some (Out.nx _ _) else none) = _
  rw [if_pos z]
  unfold hpI
  rw [List.reverse_append, List.reverse_reverse, List.map_append]
  rfl
theorem add_len (ks : List Str) (m : Str) : (addK ks m).length ≤ ks.length + 1 := by
  unfold addK
  split <;> simp
theorem top_len (w : W) (ks : List Str) : ((topM w).foldl addK ks).length ≤ ks.length + 1 := by
  cases w with
  | often m => exact add_len ks m
  | not w => exact Nat.le_succ _
  | and ws => exact Nat.le_succ _
  | or ws => exact Nat.le_succ _
theorem mi_loop {wd : PyData} : ∀ (m : Nat) {rs : List PyData} {ws : List W} (ks : List Str) (o3 : Option Vv) (n : Nat), EncL rs ws → nodesL ws ≤ m → nodesL ws + ks.length ≤ 900 → m < n →
    ∃ o3', whileLoop (evalE FM (.neE true (.var 2))) (evalSs FM bodyI) n (stI wd o3) (hpI ks rs) = some (.nx (stI wd o3') (hpI (walkK m ws ks) []))
  | m, [], [], ks, o3, n + 1, .nil, _, _, _ => ⟨o3, by
    rw [show walkK m [] ks = ks by cases m <;> rfl]
    exact wh_stop (d := .bool false) (h1 := hpI ks []) (by kernel_rfl) rfl⟩
  | 0, _, _, ks, o3, n, .cons (w := w) h r, hm, _, _ => by
    have := nodes_pos w
    simp only [nodesL] at hm
    omega
  | m + 1, d :: rs, w :: ws, ks, o3, n + 1, .cons h r, hm, hb, hn => by
    have nw := nodes_within w
    simp only [nodesL] at hm hb
    have l1 := len_nodes ws
    have lr := len_of r
    obtain ⟨ds, e1, e2⟩ := mi_step (wd := wd) (ks := ks) (rs := rs) o3 h (by omega) (by omega)
    have l2 := len_nodes (within w)
    have ld := len_of e1
    have st := e2 (by omega)
    have tl := top_len w ks
    obtain ⟨o3', e⟩ := mi_loop (wd := wd) m (rs := ds.reverse ++ rs) (ws := (within w).reverse ++ ws) ((topM w).foldl addK ks) (some (.d d)) n (e1.rev.app r) (by rw [nodesL_app, nodesL_rev]; omega) (by rw [nodesL_app, nodesL_rev]; omega) (by omega)
    refine ⟨o3', wh_nx (d := .bool true) (h1 := hpI ks (d :: rs)) ?_ rfl st e⟩
    refine e_neE (x := .r 1) (h1 := hpI ks (d :: rs)) (by kernel_rfl) ?_
    show some (PyData.bool (((d :: rs).reverse.map Vv.d).isEmpty != true)) = _
    simp
theorem walk_len : ∀ (m : Nat) (ws : List W) (ks : List Str), (walkK m ws ks).length ≤ nodesL ws + ks.length
  | 0, ws, ks => Nat.le_add_left _ _
  | m + 1, [], ks => Nat.le_add_left _ _
  | m + 1, w :: ws, ks => by
    have a := walk_len m ((within w).reverse ++ ws) ((topM w).foldl addK ks)
    have b := top_len w ks
    have c := nodes_within w
    rw [nodesL_app, nodesL_rev] at a
    simp only [nodesL, walkK]
    omega
/-- the marks of a wish, as marks_in tells them -/
def marksI (w : W) : List Str := sortS (walkK 60 [w] [])
theorem mi_ok {d : PyData} {w : W} (en : Enc d w) (hn : nodesW w ≤ 60) : ∃ obs, m_marks_in [.d d] [] = some (.ok (.d (.tuple ((marksI w).map .str))), obs) := by
  obtain ⟨o3, e⟩ := mi_loop (wd := d) 60 (rs := [d]) (ws := [w]) [] none fuel (.cons en .nil) (by simpa [nodesL] using hn) (by simp [nodesL]; omega) (by decide)
  refine ⟨hpI (walkK 60 [w] []) [], body_rt (F := FM) (ss_nx (δ1 := stI d none) (h1 := hpI [] [d]) (by kernel_rfl) (ss_nx (s_while e) (ss_rt (s_ret (e_blt (x := .d (.list ((marksI w).map .str))) (h1 := hpI (walkK 60 [w] []) []) (e_sortK (x := .r 0) (h1 := hpI (walkK 60 [w] []) []) (by kernel_rfl) ?_) rfl)))))⟩
  have l := walk_len 60 [w] []
  simp only [nodesL, List.length_nil] at l
  show (match strKeys (keyL (walkK 60 [w] [])) with
    | some ks => if ks.length < 64 then some (Rs.ok (Vv.d (.list ((sortS ks).map .str))), hpI (walkK 60 [w] []) []) else none
    | none => none) = _
  rw [keys_of]
  show (if _ then _ else _) = _
  rw [if_pos (by omega)]
  rfl
mutual
theorem parts_nodes : ∀ (k : Nat) (w : W) (p : Int), partsW k w = some p → p = (nodesW w : Int)
  | 0, w, p, h => by cases w <;> simp [partsW] at h
  | k + 1, .often m, p, h => by simp only [partsW, Option.some.injEq] at h; subst h; rfl
  | k + 1, .not w, p, h => by
    simp only [partsW] at h
    cases e : partsW k w with
    | none => rw [e] at h; cases h
    | some q =>
      rw [e] at h
      cases h
      have := parts_nodes k w q e
      simp only [nodesW]
      omega
  | k + 1, .and ws, p, h => by
    simp only [partsW] at h
    have := parts_nodesL k ws 1 p h
    simp only [nodesW]
    omega
  | k + 1, .or ws, p, h => by
    simp only [partsW] at h
    have := parts_nodesL k ws 1 p h
    simp only [nodesW]
    omega
theorem parts_nodesL : ∀ (k : Nat) (ws : List W) (acc p : Int), partsL k ws acc = some p → p = acc + (nodesL ws : Int)
  | k, [], acc, p, h => by simp only [partsL, Option.some.injEq] at h; subst h; simp [nodesL]
  | k, w :: ws, acc, p, h => by
    simp only [partsL] at h
    cases e : partsW k w with
    | none => rw [e] at h; cases h
    | some q =>
      rw [e] at h
      have a := parts_nodes k w q e
      have b := parts_nodesL k ws (acc + q) p h
      simp only [nodesL]
      omega
end
def isW (w : W) : Bool := match partsW 8 w with
  | some p => decide (p ≤ 40) && decide ((marksI w).length ≤ 6)
  | none => false
theorem iw_ok {d : PyData} {w : W} (en : Enc d w) (hw : wideW w) (hm : namesW w) : ∃ obs, m_is_wish [.d d] [] = some (.ok (.d (.bool (isW w))), obs) := by
  have po := po_ok en 8 30 [] (by decide) hw hm
  have s1 : ∀ z, partsW 8 w = z → evalS F_is_wish (.asg 1 (.call 1 (.cons (.var 0) (.cons (.glb (.int 8)) .nil)))) (initS n_is_wish [.d d]) [] = some (.nx [some (.d d), some (.d (optI z))] []) := fun z e => by
    subst e
    exact s_asg (e_call (vs := [.d d, .d (.int 8)]) (h1 := []) (by kernel_rfl) (call_d rfl po))
  cases e : partsW 8 w with
  | none => exact ⟨[], by rw [show isW w = false by unfold isW; rw [e]]; exact body_rt (ss_nx (s1 _ e) (by kernel_rfl))⟩
  | some p =>
    have pn := parts_nodes 8 w p e
    by_cases hp : p ≤ 40
    · obtain ⟨obs, mi⟩ := mi_ok en (by omega)
      refine ⟨[], body_rt (ss_nx (s1 _ e) (ss_rt (s_ret (e_andT (h1 := []) (by kernel_rfl) (e_andT (h1 := []) ?_ ?_)))))⟩
      · exact e_cmp (p := .int p) (q := .int 40) (z := true) (h1 := []) (h2 := []) (by kernel_rfl) (by kernel_rfl) (by show some (decide _) = _; rw [decide_eq_true hp])
      · have i : isW w = decide ((((marksI w).map PyData.str).length : Int) ≤ 6) := by
          unfold isW
          rw [e, List.length_map]
          simp only [hp, decide_true, Bool.true_and]
          simp
          omega
        rw [i]
        exact e_cmp (p := .int (((marksI w).map PyData.str).length)) (q := .int 6) (h1 := []) (h2 := []) (e_blt (x := .d (.tuple ((marksI w).map .str))) (h1 := []) (e_call (vs := [.d d]) (h1 := []) (by kernel_rfl) (call_d rfl mi)) rfl) (by kernel_rfl) rfl
    · refine ⟨[], ?_⟩
      rw [show isW w = false by unfold isW; rw [e]; simp [hp]]
      exact body_rt (ss_nx (s1 _ e) (ss_rt (s_ret (e_andT (h1 := []) (by kernel_rfl) (e_andF (h1 := []) (e_cmp (p := .int p) (q := .int 40) (z := false) (h1 := []) (h2 := []) (by kernel_rfl) (by kernel_rfl) (by show some (decide _) = _; rw [decide_eq_false hp])))))))
mutual
theorem parts_deep : ∀ (k : Nat) (w : W) (p : Int), partsW k w = some p → deepW w ≤ k
  | 0, w, p, h => by cases w <;> simp [partsW] at h
  | k + 1, .often m, p, h => by simp [deepW]
  | k + 1, .not w, p, h => by
    simp only [partsW] at h
    cases e : partsW k w with
    | none => rw [e] at h; cases h
    | some q => have := parts_deep k w q e; simp only [deepW]; omega
  | k + 1, .and ws, p, h => by have := parts_deepL k ws 1 p (by simpa only [partsW] using h); simp only [deepW]; omega
  | k + 1, .or ws, p, h => by have := parts_deepL k ws 1 p (by simpa only [partsW] using h); simp only [deepW]; omega
theorem parts_deepL : ∀ (k : Nat) (ws : List W) (acc p : Int), partsL k ws acc = some p → deepL ws ≤ k
  | k, [], acc, p, h => by simp [deepL]
  | k, w :: ws, acc, p, h => by
    simp only [partsL] at h
    cases e : partsW k w with
    | none => rw [e] at h; cases h
    | some q =>
      rw [e] at h
      have a := parts_deep k w q e
      have b := parts_deepL k ws (acc + q) p h
      simp only [deepL]
      omega
end
mutual
theorem fuel_deep : ∀ w : W, fuelF w ≤ 2 * deepW w
  | .often _ => by simp [fuelF, deepW]
  | .not w => by have := fuel_deep w; simp only [fuelF, deepW]; omega
  | .and ws => by have := fuel_deepL ws; simp only [fuelF, deepW]; omega
  | .or ws => by have := fuel_deepL ws; simp only [fuelF, deepW]; omega
theorem fuel_deepL : ∀ ws : List W, fuelL ws ≤ 2 * deepL ws
  | [] => by simp [fuelL]
  | w :: ws => by have a := fuel_deep w; have b := fuel_deepL ws; simp only [fuelL, deepL]; omega
end
theorem isW_deep {w : W} (h : isW w = true) : deepW w ≤ 8 ∧ nodesW w ≤ 40 := by
  unfold isW at h
  cases e : partsW 8 w with
  | none => rw [e] at h; cases h
  | some p =>
    rw [e] at h
    simp only [Bool.and_eq_true, decide_eq_true_eq] at h
    have := parts_nodes 8 w p e
    exact ⟨parts_deep 8 w p e, by omega⟩
/-! need_wish, marks_of, grants -/
theorem enc_enc : ∀ w : W, Enc (enc w) w
  | .often m => .often (.inl (by rw [enc]))
  | .not w => .not (.inl (by rw [enc])) (enc_enc w)
  | .and ws => .and (.inl (by rw [enc])) (.inl rfl) (encs_enc ws)
  | .or ws => .or (.inl (by rw [enc])) (.inl rfl) (encs_enc ws)
where encs_enc : ∀ ws : List W, EncL (encs ws) ws
  | [] => by rw [encs]; exact .nil
  | w :: ws => by rw [encs]; exact .cons (enc_enc w) (encs_enc ws)
theorem nw_ok {d : PyData} {w : W} (p : PyData) (en : Enc d w) (hw : wideW w) (hm : namesW w) (hi : isW w = true) : ∃ obs, m_need_wish [.d d, .d p] [] = some (.ok (.d (enc w)), obs) := by
  obtain ⟨o1, iw⟩ := iw_ok en hw hm
  rw [hi] at iw
  have fx := fx_ok en 30 [] (by have := fuel_deep w; have := (isW_deep hi).1; omega) hw
  refine ⟨[], body_rt (F := F_need_wish) (ss_nx (δ1 := initS n_need_wish [.d d, .d p]) (h1 := []) ?_ (ss_rt (s_ret (e_call (vs := [.d d]) (h1 := []) (by kernel_rfl) (call_d rfl fx)))))⟩
  rw [s_ifF (d := .bool false) (h1 := []) (e_not (b := true) (e_call (vs := [.d d]) (h1 := []) (by kernel_rfl) (call_d rfl iw))) rfl]
  exact ss_nil
def bad (p : Str) : PyData := .dict [(.none, .str "BadValue"), (.str "part", .str p)]
theorem nw_no {d : PyData} (p : Str) {o1 : Hh} (iw : m_is_wish [.d d] [] = some (.ok (.d (.bool false)), o1)) : ∃ obs, m_need_wish [.d d, .d (.str p)] [] = some (.ex (bad p), obs) := by
  refine ⟨[], body_ex (F := F_need_wish) (ss_ex ?_)⟩
  rw [s_ifT (d := .bool true) (h1 := []) (e_not (b := false) (e_call (vs := [.d d]) (h1 := []) (by kernel_rfl) (call_d rfl iw))) rfl]
  exact ss_ex (s_raise (vs := [.d (.str p)]) (h1 := []) (by kernel_rfl) rfl rfl)
theorem mo_ok {d : PyData} {w : W} (en : Enc d w) (hw : wideW w) (hm : namesW w) (hi : isW w = true) : ∃ obs, m_marks_of [.d d] [] = some (.ok (.d (.tuple ((marksI w).map .str))), obs) := by
  obtain ⟨o1, nw⟩ := nw_ok (.str "wish") en hw hm hi
  obtain ⟨o2, mi⟩ := mi_ok (enc_enc w) (by have := (isW_deep hi).2; omega)
  exact ⟨[], body_rt (F := F_marks_of) (ss_rt (s_ret (e_call (vs := [.d (enc w)]) (h1 := []) (l_cons (e_call (vs := [.d d]) (h1 := []) (by kernel_rfl) (call_d rfl nw)) l_nil) (call_d rfl mi))))⟩
def NameOk (m : Str) : Prop := m_is_name [.d (.str m)] [] = some (.ok (.d (.bool true)), [])
theorem lot_items {lot : PyData} {l : List Str} (hl : Lot lot l) : itemsD lot = some (l.map .str) := by rcases hl with rfl | rfl <;> rfl
theorem all_true : ∀ l : List Str, (l.map fun _ => true).all id = true
  | [] => rfl
  | _ :: l => all_true l
theorem gr_ok {d lot : PyData} {w : W} {l : List Str} (en : Enc d w) (hw : wideW w) (hm : namesW w) (hi : isW w = true) (hl : Lot lot l) (hn : ∀ m ∈ l, NameOk m) (hz : l.length ≤ 1000) : ∃ obs, m_grants [.d d, .d lot] [] = some (.ok (.d (.bool (holdsW l w))), obs) := by
  obtain ⟨o1, nw⟩ := nw_ok (.str "wish") en hw hm hi
  have s1 : evalS F_grants (.asg 2 (.call 3 (.cons (.var 0) .nil))) (initS n_grants [.d d, .d lot]) [] = some (.nx [some (.d d), some (.d lot), some (.d (enc w)), none] []) := s_asg (e_call (vs := [.d d]) (h1 := []) (by kernel_rfl) (call_d rfl nw))
  refine ⟨[], body_rt (F := F_grants) (ss_nx s1 (ss_nx (δ1 := [some (.d d), some (.d lot), some (.d (enc w)), none]) (h1 := []) ?_ (ss_rt (s_ret (e_call (vs := [.d (enc w), .d lot]) (h1 := []) (by kernel_rfl) (call_d rfl (ho_ok hl 30 w [] (by have := (isW_deep hi).1; omega) hw)))))))⟩
  rw [s_ifF (d := .bool false) (h1 := []) ?_ rfl]
  · exact ss_nil
  · refine e_orF (h1 := []) (e_not (b := true) (e_call (vs := [.d lot]) (h1 := []) (by kernel_rfl) (call_d (obs := []) rfl ?_))) (e_not (b := true) ?_)
    · rcases hl with rfl | rfl <;> kernel_rfl
    · refine e_blt (x := .d (.list ((l.map fun _ => true).map .bool))) (h1 := []) (e_compR (h1 := []) (i_seq (d := lot) (by kernel_rfl) (lot_items hl)) (by unfold small; rw [List.length_map]; simp; omega) ?_) (by rw [all_bools, all_true])
      rw [List.map_map]
      refine pr_two fun m hm2 => ⟨_, rfl, e_call (vs := [.d (.str m)]) (h1 := []) (by kernel_rfl) (call_d rfl (hn m hm2))⟩
/-! _law_sort_marks, _law_marks -/
theorem strs_map : ∀ l : List Str, strsD (l.map .str) = some l
  | [] => rfl
  | s :: l => by simp only [List.map_cons, strsD, strs_map l, Option.map]
theorem pairs_map : ∀ l : List Str, pairKs (l.map fun m => PyData.tuple [.str m, .bool true]) = some l
  | [] => rfl
  | s :: l => by simp only [List.map_cons, pairKs, pairs_map l]
theorem nub_len : ∀ (l acc : List Str), (nubS acc l).length ≤ acc.length + l.length
  | [], acc => Nat.le_refl _
  | k :: l, acc => by
    have h1 := nub_len l acc
    have h2 := nub_len l (acc ++ [k])
    rw [List.length_append, List.length_singleton] at h2
    rw [List.length_cons]
    show (nubS (if acc.any (fun a => decide (a = k)) then acc else acc ++ [k]) l).length ≤ _
    split <;> omega
theorem sm_ok {l : List Str} (hz : l.length < 64) : ∃ obs, m_law_sort_marks [.d (.list (l.map .str))] [] = some (.ok (.d (.tuple ((sortS (nubS [] l)).map .str))), obs) := by
  have nl := nub_len l []
  rw [List.length_nil] at nl
  refine ⟨[], body_rt (F := F_law_sort_marks) (ss_rt (s_ret (e_blt (x := .d (.list ((sortS (nubS [] l)).map .str))) (h1 := []) (e_op (vs := [.d (.list ((nubS [] l).map .str))]) (ds := [.list ((nubS [] l).map .str)]) (h1 := []) (l_cons (e_op (vs := [.d (.list (l.map fun m => PyData.tuple [.str m, .bool true]))]) (ds := [.list (l.map fun m => PyData.tuple [.str m, .bool true])]) (h1 := []) (l_cons (e_compR (h1 := []) (i_seq (d := .list (l.map .str)) (by kernel_rfl) rfl) (by unfold small; rw [List.length_map]; simp; omega) (pr_two fun m _ => ⟨_, rfl, by kernel_rfl⟩)) l_nil) rfl ?_) l_nil) rfl ?_) rfl)))⟩
  · show m_ld (.list (l.map fun m => PyData.tuple [.str m, .bool true])) = _
    unfold m_ld
    simp only []
    rw [pairs_map]
  · show m_srt (.list ((nubS [] l).map .str)) = _
    unfold m_srt
    simp only []
    rw [strs_map]
    show (if _ then _ else _) = _
    rw [if_pos (by omega)]
end K09


set_option Elab.async false
set_option linter.all false
set_option maxRecDepth 100000
set_option maxHeartbeats 8000000
namespace K09
open PySem PySem.Spec PyProof.Rows L2 Nv
/-! _law_marks -/
mutual
def lmW : W → List Str
  | .often m => [m]
  | .not w => sortS (nubS [] (lmW w ++ []))
  | .and ws => sortS (nubS [] (lmL ws))
  | .or ws => sortS (nubS [] (lmL ws))
def lmL : List W → List Str
  | [] => []
  | w :: ws => lmW w ++ lmL ws
end
theorem lmL_flat : ∀ ws : List W, lmL ws = (ws.map lmW).flatten
  | [] => rfl
  | w :: ws => by rw [lmL, lmL_flat ws]; rfl
theorem sn_len (l : List Str) : (sortS (nubS [] l)).length ≤ l.length := by
  rw [(sort_perm _).length_eq]
  have := nub_len l []
  simpa using this
mutual
theorem lm_len : ∀ w : W, (lmW w).length ≤ nodesW w
  | .often m => by simp [lmW, nodesW]
  | .not w => by
    have a := lm_len w
    have b := sn_len (lmW w ++ [])
    rw [List.append_nil] at b
    simp only [lmW, nodesW, List.append_nil]
    omega
  | .and ws => by
    have a := lmL_len ws
    have b := sn_len (lmL ws)
    simp only [lmW, nodesW]
    omega
  | .or ws => by
    have a := lmL_len ws
    have b := sn_len (lmL ws)
    simp only [lmW, nodesW]
    omega
theorem lmL_len : ∀ ws : List W, (lmL ws).length ≤ nodesL ws
  | [] => Nat.le_refl _
  | w :: ws => by
    have a := lm_len w
    have b := lmL_len ws
    simp only [lmL, nodesL, List.length_append]
    omega
end
abbrev FLm (n : Nat) : Fns := F_law_marks (mr_law_marks n)
theorem lists_map : ∀ ls : List (List Str), listsD (ls.map fun l => PyData.list (l.map .str)) = some (ls.map fun l => l.map .str)
  | [] => rfl
  | l :: ls => by simp only [List.map_cons, listsD, lists_map ls]
theorem lm_often (n : Nat) (m : Str) (h : Hh) : mr_law_marks (n + 1) [.d (.tuple [.str "often", .str m])] h = some (.ok (.d (.tuple [.str m])), h) := by kernel_rfl
def itM : C := .ite (.cmp .Eq (.sub (.var 0) (.cst (.int (0)))) (.cst (.str "not"))) (.lst (.cons (.sub (.var 0) (.cst (.int (1)))) .nil)) (.sub (.var 0) (.cst (.int (1))))
theorem lm_row (n : Nat) {d e : PyData} {ds : List PyData} {ls : List (List Str)} (h : Hh) (hz : small ds.length = true) (hl : ls.flatten.length < 64)
    (s1 : evalS (FLm n) (.ifs (.cmp .Eq (.sub (.var 0) (.cst (.int (0)))) (.cst (.str "often"))) (.cons (.ret (.tup (.cons (.sub (.var 0) (.cst (.int (1)))) .nil))) .nil) .nil) (initS n_law_marks [.d d]) h = some (.nx (initS n_law_marks [.d d]) h))
    (hi : evalE (FLm n) itM (initS n_law_marks [.d d]) h = some (.ok (.d e), h)) (he : itemsD e = some ds)
    (ih : Paired (fun d l => ∃ obs, mr_law_marks n [.d d] [] = some (.ok (.d (.tuple (l.map .str))), obs)) ds ls) :
    mr_law_marks (n + 1) [.d d] h = some (.ok (.d (.tuple ((sortS (nubS [] ls.flatten)).map .str))), h) := by
  obtain ⟨obs, sm⟩ := sm_ok hl
  refine body_rt (F := FLm n) (ss_nx s1 (ss_rt (s_ret (e_call (vs := [.d (.list (ls.flatten.map .str))]) (h1 := h) (l_cons (e_op (vs := [.d (.list (ls.map fun l => PyData.list (l.map .str)))]) (ds := [.list (ls.map fun l => PyData.list (l.map .str))]) (h1 := h) (l_cons (e_compR (h1 := h) (i_seq (d := e) hi he) hz (pr_mapR (pr_imp (fun d l hd => ?_) ih))) l_nil) rfl ?_) l_nil) (call_d rfl sm)))))
  · obtain ⟨obs, e⟩ := hd
    exact ⟨_, rfl, e_blt (x := .d (.tuple (l.map .str))) (h1 := h) (e_call (vs := [.d d]) (h1 := h) (by kernel_rfl) (call_d rfl e)) rfl⟩
  · show m_sum (.list (ls.map fun l => PyData.list (l.map .str))) = _
    unfold m_sum
    simp only []
    rw [lists_map]
    have fl : (ls.map fun l => l.map PyData.str).flatten = ls.flatten.map .str := by rw [List.map_flatten]
    simp only [fl]
    rw [if_pos]
    unfold small
    rw [List.length_map]
    exact decide_eq_true (by omega)
theorem lm_ok : ∀ (n : Nat) (w : W) (h : Hh), deepW w ≤ n → wideW w → nodesW w ≤ 60 → mr_law_marks n [.d (enc w)] h = some (.ok (.d (.tuple ((lmW w).map .str))), h)
  | 0, w, h, hd, _, _ => by cases w <;> simp [deepW] at hd
  | n + 1, .often m, h, _, _, _ => lm_often n m h
  | n + 1, .not w, h, hd, hw, hn => by
    have a := lm_len w
    simp only [nodesW] at hn
    have r := lm_row n (d := enc (.not w)) (e := .list [enc w]) (ds := [enc w]) (ls := [lmW w]) h rfl (by simp; omega) (by kernel_rfl) (by kernel_rfl) rfl (.cons ⟨_, lm_ok n w [] (by simpa [deepW] using hd) hw (by omega)⟩ .nil)
    rw [r, lmW]
    simp
  | n + 1, .and ws, h, hd, hw, hn => by
    have a := lmL_len ws
    simp only [nodesW] at hn
    rw [lmW, lmL_flat]
    have hh : ∀ w ∈ ws, nodesW w ≤ nodesL ws := fun w hm => by
      clear a hn hd hw
      induction ws with
      | nil => cases hm
      | cons v ws ih =>
        simp only [nodesL]
        rcases List.mem_cons.mp hm with rfl | hm
        · omega
        · have := ih hm; omega
    refine lm_row n (d := enc (.and ws)) (e := .tuple (encs ws)) (ds := encs ws) (ls := ws.map lmW) h (by rw [encs_map, List.length_map]; exact small8 hw.1) (by rw [← lmL_flat]; omega) (by kernel_rfl) (by kernel_rfl) rfl ?_
    rw [encs_map]
    exact pr_two fun w hm => ⟨_, lm_ok n w [] (Nat.le_trans (deepL_mem w hm) (by simpa [deepW] using hd)) (wideL_mem hw.2 w hm) (by have := hh w hm; omega)⟩
  | n + 1, .or ws, h, hd, hw, hn => by
    have a := lmL_len ws
    simp only [nodesW] at hn
    rw [lmW, lmL_flat]
    have hh : ∀ w ∈ ws, nodesW w ≤ nodesL ws := fun w hm => by
      clear a hn hd hw
      induction ws with
      | nil => cases hm
      | cons v ws ih =>
        simp only [nodesL]
        rcases List.mem_cons.mp hm with rfl | hm
        · omega
        · have := ih hm; omega
    refine lm_row n (d := enc (.or ws)) (e := .tuple (encs ws)) (ds := encs ws) (ls := ws.map lmW) h (by rw [encs_map, List.length_map]; exact small8 hw.1) (by rw [← lmL_flat]; omega) (by kernel_rfl) (by kernel_rfl) rfl ?_
    rw [encs_map]
    exact pr_two fun w hm => ⟨_, lm_ok n w [] (Nat.le_trans (deepL_mem w hm) (by simpa [deepW] using hd)) (wideL_mem hw.2 w hm) (by have := hh w hm; omega)⟩
/-! both tell the same marks -/
mutual
def allM : W → List Str
  | .often m => [m]
  | .not w => allM w
  | .and ws => allML ws
  | .or ws => allML ws
def allML : List W → List Str
  | [] => []
  | w :: ws => allM w ++ allML ws
end
theorem nub_nodup : ∀ (l acc : List Str), acc.Nodup → (nubS acc l).Nodup
  | [], acc, h => h
  | k :: l, acc, h => by
    show (nubS (if acc.any (fun a => decide (a = k)) then acc else acc ++ [k]) l).Nodup
    refine nub_nodup l _ ?_
    split
    · exact h
    · rename_i e
      refine List.nodup_append.mpr ⟨h, by simp, fun a ha b hb z => e ?_⟩
      rw [List.mem_singleton] at hb
      subst hb; subst z
      exact List.any_eq_true.mpr ⟨a, ha, by simp⟩
theorem nub_mem : ∀ (l acc : List Str) (k : Str), k ∈ nubS acc l ↔ k ∈ acc ∨ k ∈ l
  | [], acc, k => by simp [nubS]
  | x :: l, acc, k => by
    show k ∈ nubS (if acc.any (fun a => decide (a = x)) then acc else acc ++ [x]) l ↔ _
    rw [nub_mem l]
    split
    · rename_i e
      obtain ⟨a, ha, e⟩ := List.any_eq_true.mp e
      have : a = x := by simpa using e
      subst this
      constructor
      · rintro (h | h)
        · exact .inl h
        · exact .inr (List.mem_cons_of_mem _ h)
      · rintro (h | h)
        · exact .inl h
        · rcases List.mem_cons.mp h with rfl | h
          · exact .inl ha
          · exact .inr h
    · simp only [List.mem_append, List.mem_singleton, List.mem_cons, List.not_mem_nil, false_or, or_assoc]
theorem sn_mem (l : List Str) (k : Str) : k ∈ sortS (nubS [] l) ↔ k ∈ l := by
  rw [(sort_perm _).mem_iff, nub_mem]
  simp
theorem sn_nodup (l : List Str) : (sortS (nubS [] l)).Nodup := (sort_perm _).nodup_iff.mpr (nub_nodup l [] (by simp))
mutual
theorem lm_mem : ∀ (w : W) (k : Str), k ∈ lmW w ↔ k ∈ allM w
  | .often m, k => by simp [lmW, allM]
  | .not w, k => by rw [lmW, sn_mem, List.append_nil, lm_mem w, allM]
  | .and ws, k => by rw [lmW, sn_mem, lmL_mem ws, allM]
  | .or ws, k => by rw [lmW, sn_mem, lmL_mem ws, allM]
theorem lmL_mem : ∀ (ws : List W) (k : Str), k ∈ lmL ws ↔ k ∈ allML ws
  | [], k => by simp [lmL, allML]
  | w :: ws, k => by rw [lmL, allML, List.mem_append, List.mem_append, lm_mem w, lmL_mem ws]
end
theorem lm_nodup (w : W) : (lmW w).Nodup := by
  cases w with
  | often m => simp [lmW]
  | not w => rw [lmW]; exact sn_nodup _
  | and ws => rw [lmW]; exact sn_nodup _
  | or ws => rw [lmW]; exact sn_nodup _
theorem lm_pw (w : W) : (lmW w).Pairwise leS := by
  cases w with
  | often m => simp [lmW]
  | not w => rw [lmW]; exact sort_pw _
  | and ws => rw [lmW]; exact sort_pw _
  | or ws => rw [lmW]; exact sort_pw _
theorem allML_app : ∀ a b : List W, allML (a ++ b) = allML a ++ allML b
  | [], b => rfl
  | w :: a, b => by rw [List.cons_append, allML, allML_app a b, allML, List.append_assoc]
theorem allML_rev (k : Str) : ∀ a : List W, k ∈ allML a.reverse ↔ k ∈ allML a
  | [] => Iff.rfl
  | w :: a => by
    rw [List.reverse_cons, allML_app, allML, List.mem_append, List.mem_append, allML_rev k a]
    simp [allML, or_comm]
theorem top_within (w : W) (k : Str) : k ∈ allM w ↔ k ∈ topM w ∨ k ∈ allML (within w) := by cases w <;> simp [allM, topM, within, allML]
theorem topK (w : W) (ks : List Str) : (ks.Nodup → ((topM w).foldl addK ks).Nodup) ∧ ∀ k, k ∈ (topM w).foldl addK ks ↔ k ∈ ks ∨ k ∈ topM w := by
  cases w with
  | often m => exact ⟨fun h => add_nodup h m, fun k => by show k ∈ addK ks m ↔ _; rw [add_mem]; simp [topM]⟩
  | not w => exact ⟨id, fun k => by simp [topM]⟩
  | and ws => exact ⟨id, fun k => by simp [topM]⟩
  | or ws => exact ⟨id, fun k => by simp [topM]⟩
theorem walk_nodup : ∀ (m : Nat) (ws : List W) (ks : List Str), ks.Nodup → (walkK m ws ks).Nodup
  | 0, ws, ks, h => h
  | m + 1, [], ks, h => h
  | m + 1, w :: ws, ks, h => walk_nodup m _ _ ((topK w ks).1 h)
theorem walk_mem : ∀ (m : Nat) (ws : List W) (ks : List Str) (k : Str), nodesL ws ≤ m → (k ∈ walkK m ws ks ↔ k ∈ ks ∨ k ∈ allML ws)
  | m, [], ks, k, _ => by cases m <;> simp [walkK, allML]
  | 0, w :: ws, ks, k, h => by
    have := nodes_pos w
    simp only [nodesL] at h
    omega
  | m + 1, w :: ws, ks, k, h => by
    have nw := nodes_within w
    simp only [nodesL] at h
    rw [walkK, walk_mem m _ _ k (by rw [nodesL_app, nodesL_rev]; omega), (topK w ks).2 k, allML_app, List.mem_append, allML_rev, allML, List.mem_append, top_within]
    simp only [or_assoc]
theorem mi_facts {w : W} (hn : nodesW w ≤ 60) : (marksI w).Nodup ∧ (marksI w).Pairwise leS ∧ ∀ k, k ∈ marksI w ↔ k ∈ allM w := by
  unfold marksI
  refine ⟨(sort_perm _).nodup_iff.mpr (walk_nodup 60 [w] [] (by simp)), sort_pw _, fun k => ?_⟩
  rw [(sort_perm _).mem_iff, walk_mem 60 [w] [] k (by simpa [nodesL] using hn)]
  simp [allML]
theorem same_marks {l m : List Str} (h1 : l.Nodup) (h2 : m.Nodup) (p1 : l.Pairwise leS) (p2 : m.Pairwise leS) (e : ∀ k, k ∈ l ↔ k ∈ m) : l = m := pw_uniq ((List.perm_ext_iff_of_nodup h1 h2).mpr e) p1 p2
theorem mi_lm {w : W} (hn : nodesW w ≤ 60) : marksI w = lmW w := by
  obtain ⟨a, b, c⟩ := mi_facts hn
  exact same_marks a (lm_nodup w) b (lm_pw w) fun k => by rw [c, lm_mem]
end K09


set_option Elab.async false
set_option linter.all false
set_option maxRecDepth 100000
set_option maxHeartbeats 8000000
namespace K09
open PySem PySem.Spec PyProof.Rows L2 Nv
/-! _law_otherwise -/
mutual
def othW : W → W
  | .often m => .not (.not (.often m))
  | .not w => .not (othW w)
  | .and ws => .not (.or (othL ws))
  | .or ws => .not (.and (othL ws))
def othL : List W → List W
  | [] => []
  | w :: ws => .not (othW w) :: othL ws
end
mutual
def encO : W → PyData
  | .often m => .list [.str "not", .list [.str "not", .list [.str "often", .str m]]]
  | .not w => .list [.str "not", encO w]
  | .and ws => .list [.str "not", .list [.str "or", .list (encOs ws)]]
  | .or ws => .list [.str "not", .list [.str "and", .list (encOs ws)]]
def encOs : List W → List PyData
  | [] => []
  | w :: ws => .list [.str "not", encO w] :: encOs ws
end
theorem encOs_map : ∀ ws : List W, encOs ws = ws.map fun w => .list [.str "not", encO w]
  | [] => rfl
  | w :: ws => by rw [encOs, encOs_map ws]; rfl
mutual
theorem encO_enc : ∀ w : W, Enc (encO w) (othW w)
  | .often m => by rw [encO, othW]; exact .not (.inr rfl) (.not (.inr rfl) (.often (.inr rfl)))
  | .not w => by rw [encO, othW]; exact .not (.inr rfl) (encO_enc w)
  | .and ws => by rw [encO, othW]; exact .not (.inr rfl) (.or (.inr rfl) (.inr rfl) (encOs_enc ws))
  | .or ws => by rw [encO, othW]; exact .not (.inr rfl) (.and (.inr rfl) (.inr rfl) (encOs_enc ws))
theorem encOs_enc : ∀ ws : List W, EncL (encOs ws) (othL ws)
  | [] => .nil
  | w :: ws => by rw [encOs, othL]; exact .cons (.not (.inr rfl) (encO_enc w)) (encOs_enc ws)
end
abbrev FOt (n : Nat) : Fns := F_law_otherwise (mr_law_otherwise n)
theorem ot_ok : ∀ (n : Nat) (w : W) (h : Hh), deepW w ≤ n → wideW w → mr_law_otherwise n [.d (enc w)] h = some (.ok (.d (encO w)), h)
  | 0, w, h, hd, _ => by cases w <;> simp [deepW] at hd
  | n + 1, .often m, h, _, _ => by kernel_rfl
  | n + 1, .not w, h, hd, hw => by
    refine body_rt (F := FOt n) (ss_nx (δ1 := initS n_law_otherwise [.d (enc (.not w))]) (h1 := h) (by kernel_rfl) (ss_rt ?_))
    rw [s_ifT (d := .bool true) (h1 := h) (by kernel_rfl) rfl]
    refine ss_rt (s_ret (e_lst (vs := [.d (.str "not"), .d (encO w)]) (h1 := h) (l_cons (h1 := h) e_cst (l_cons (e_call (vs := [.d (enc w)]) (h1 := h) (by kernel_rfl) (call_d rfl (ot_ok n w [] (by simpa [deepW] using hd) hw))) l_nil)) rfl rfl))
  | n + 1, .and ws, h, hd, hw => by
    refine body_rt (F := FOt n) (ss_nx (δ1 := initS n_law_otherwise [.d (enc (.and ws))]) (h1 := h) (by kernel_rfl) (ss_nx (δ1 := initS n_law_otherwise [.d (enc (.and ws))]) (h1 := h) (by kernel_rfl) (ss_nx (δ1 := [some (.d (enc (.and ws))), some (.d (.str "or")), none]) (h1 := h) (by kernel_rfl) (ss_rt (s_ret (e_lst (vs := [.d (.str "not"), .d (.list [.str "or", .list (encOs ws)])]) (h1 := h) (l_cons (h1 := h) e_cst (l_cons (e_lst (vs := [.d (.str "or"), .d (.list (encOs ws))]) (h1 := h) (l_cons (h1 := h) (by kernel_rfl) (l_cons (e_compR (h1 := h) (i_seq (d := .tuple (encs ws)) (by kernel_rfl) rfl) (by rw [encs_map, List.length_map]; exact small8 hw.1) ?_) l_nil)) rfl rfl) l_nil)) rfl rfl))))))
    rw [encs_map, encOs_map]
    refine pr_two fun w hm => ⟨_, rfl, e_lst (vs := [.d (.str "not"), .d (encO w)]) (h1 := h) (l_cons (h1 := h) e_cst (l_cons (e_call (vs := [.d (enc w)]) (h1 := h) (by kernel_rfl) (call_d rfl (ot_ok n w [] (Nat.le_trans (deepL_mem w hm) (by simpa [deepW] using hd)) (wideL_mem hw.2 w hm)))) l_nil)) rfl rfl⟩
  | n + 1, .or ws, h, hd, hw => by
    refine body_rt (F := FOt n) (ss_nx (δ1 := initS n_law_otherwise [.d (enc (.or ws))]) (h1 := h) (by kernel_rfl) (ss_nx (δ1 := initS n_law_otherwise [.d (enc (.or ws))]) (h1 := h) (by kernel_rfl) (ss_nx (δ1 := [some (.d (enc (.or ws))), some (.d (.str "and")), none]) (h1 := h) (by kernel_rfl) (ss_rt (s_ret (e_lst (vs := [.d (.str "not"), .d (.list [.str "and", .list (encOs ws)])]) (h1 := h) (l_cons (h1 := h) e_cst (l_cons (e_lst (vs := [.d (.str "and"), .d (.list (encOs ws))]) (h1 := h) (l_cons (h1 := h) (by kernel_rfl) (l_cons (e_compR (h1 := h) (i_seq (d := .tuple (encs ws)) (by kernel_rfl) rfl) (by rw [encs_map, List.length_map]; exact small8 hw.1) ?_) l_nil)) rfl rfl) l_nil)) rfl rfl))))))
    rw [encs_map, encOs_map]
    refine pr_two fun w hm => ⟨_, rfl, e_lst (vs := [.d (.str "not"), .d (encO w)]) (h1 := h) (l_cons (h1 := h) e_cst (l_cons (e_call (vs := [.d (enc w)]) (h1 := h) (by kernel_rfl) (call_d rfl (ot_ok n w [] (Nat.le_trans (deepL_mem w hm) (by simpa [deepW] using hd)) (wideL_mem hw.2 w hm)))) l_nil)) rfl rfl⟩
mutual
theorem oth_holds (l : List Str) : ∀ w : W, holdsW l (othW w) = holdsW l w
  | .often m => by simp [othW, holdsW]
  | .not w => by simp only [othW, holdsW]; rw [oth_holds l w]
  | .and ws => by simp only [othW, holdsW]; rw [(oth_holdsL l ws).1]; simp
  | .or ws => by simp only [othW, holdsW]; rw [(oth_holdsL l ws).2]; simp
theorem oth_holdsL (l : List Str) : ∀ ws : List W, anyW l (othL ws) = !allW l ws ∧ allW l (othL ws) = !anyW l ws
  | [] => ⟨rfl, rfl⟩
  | w :: ws => by
    obtain ⟨a, b⟩ := oth_holdsL l ws
    simp only [othL, anyW, allW, holdsW, a, b, oth_holds l w]
    constructor <;> cases holdsW l w <;> simp
end
mutual
theorem oth_marks : ∀ w : W, allM (othW w) = allM w
  | .often m => rfl
  | .not w => by simp only [othW, allM]; exact oth_marks w
  | .and ws => by simp only [othW, allM]; exact oth_marksL ws
  | .or ws => by simp only [othW, allM]; exact oth_marksL ws
theorem oth_marksL : ∀ ws : List W, allML (othL ws) = allML ws
  | [] => rfl
  | w :: ws => by simp only [othL, allML, allM]; rw [oth_marks w, oth_marksL ws]
end
theorem oth_len : ∀ ws : List W, (othL ws).length = ws.length
  | [] => rfl
  | w :: ws => by rw [othL, List.length_cons, List.length_cons, oth_len ws]
mutual
theorem oth_wide : ∀ {w : W}, wideW w → wideW (othW w)
  | .often m, _ => trivial
  | .not w, h => by simp only [othW, wideW]; exact oth_wide (w := w) h
  | .and ws, h => by simp only [othW, wideW]; exact ⟨by rw [oth_len]; exact h.1, oth_wideL h.2⟩
  | .or ws, h => by simp only [othW, wideW]; exact ⟨by rw [oth_len]; exact h.1, oth_wideL h.2⟩
theorem oth_wideL : ∀ {ws : List W}, wideL ws → wideL (othL ws)
  | [], _ => trivial
  | w :: ws, h => by simp only [othL, wideL, wideW]; exact ⟨oth_wide h.1, oth_wideL h.2⟩
end
mutual
theorem oth_names : ∀ {w : W}, namesW w → namesW (othW w)
  | .often m, h => h
  | .not w, h => by simp only [othW, namesW]; exact oth_names (w := w) h
  | .and ws, h => by simp only [othW, namesW]; exact oth_namesL h
  | .or ws, h => by simp only [othW, namesW]; exact oth_namesL h
theorem oth_namesL : ∀ {ws : List W}, namesL ws → namesL (othL ws)
  | [], _ => trivial
  | w :: ws, h => by simp only [othL, namesL, namesW]; exact ⟨oth_names h.1, oth_namesL h.2⟩
end
theorem oth_mi {w : W} (h1 : nodesW w ≤ 60) (h2 : nodesW (othW w) ≤ 60) : marksI (othW w) = marksI w := by
  obtain ⟨a, b, c⟩ := mi_facts h1
  obtain ⟨a2, b2, c2⟩ := mi_facts h2
  exact same_marks a2 a b2 b fun k => by rw [c, c2, oth_marks]
/-! _law_lots -/
def lotsW : List (List Str) → List Str → List (List Str)
  | fs, [] => fs
  | fs, m :: ms => lotsW (fs ++ fs.map (· ++ [m])) ms
def tupS (l : List Str) : PyData := .tuple (l.map .str)
theorem lots_len : ∀ (ms : List Str) (fs : List (List Str)), (lotsW fs ms).length = fs.length * 2 ^ ms.length
  | [], fs => by simp [lotsW]
  | m :: ms, fs => by
    rw [lotsW, lots_len ms, List.length_append, List.length_map, List.length_cons, Nat.pow_succ]
    rw [Nat.mul_comm (2 ^ ms.length) 2, ← Nat.mul_assoc]
    congr 1
    omega
theorem lots_mem : ∀ (ms : List Str) (fs : List (List Str)) (N : Nat), (∀ l ∈ fs, l.length ≤ N) → ∀ l ∈ lotsW fs ms, l.length ≤ N + ms.length ∧ ∀ m ∈ l, m ∈ ms ∨ ∃ f ∈ fs, m ∈ f
  | [], fs, N, h, l, hl => ⟨h l hl, fun m hm => .inr ⟨l, hl, hm⟩⟩
  | m :: ms, fs, N, h, l, hl => by
    obtain ⟨a, b⟩ := lots_mem ms (fs ++ fs.map (· ++ [m])) (N + 1) (fun f hf => by
      rcases List.mem_append.mp hf with hf | hf
      · have := h f hf; omega
      · obtain ⟨g, hg, rfl⟩ := List.mem_map.mp hf
        have := h g hg
        rw [List.length_append, List.length_singleton]
        omega) l hl
    refine ⟨by rw [List.length_cons]; omega, fun x hx => ?_⟩
    rcases b x hx with hx | ⟨f, hf, hx⟩
    · exact .inl (List.mem_cons_of_mem _ hx)
    · rcases List.mem_append.mp hf with hf | hf
      · exact .inr ⟨f, hf, hx⟩
      · obtain ⟨g, hg, rfl⟩ := List.mem_map.mp hf
        rcases List.mem_append.mp hx with hx | hx
        · exact .inr ⟨g, hg, hx⟩
        · exact .inl (by rw [List.mem_singleton.mp hx]; exact List.mem_cons_self)
def bodyLo : Sds := (.cons (.asg 1 (.bin .Add (.var 1) (.comp (.bin .Add (.var 3) (.tup (.cons (.var 2) .nil))) (.one 3) (.seq (.var 1)) .non))) .nil)
theorem lo_loop {d : PyData} {h : Hh} : ∀ (ms : List Str) (fs : List (List Str)) (o2 : Option Vv) (N : Nat), (∀ l ∈ fs, l.length ≤ N) → N + ms.length ≤ 100 → fs.length * 2 ^ ms.length ≤ 1000 →
    ∃ o2', forLoop (evalSs F_law_lots bodyLo) (.one 2) (ms.map .str) [some (.d d), some (.d (.list (fs.map tupS))), o2, none] h = some (.nx [some (.d d), some (.d (.list ((lotsW fs ms).map tupS))), o2', none] h)
  | [], fs, o2, _, _, _, _ => ⟨o2, rfl⟩
  | m :: ms, fs, o2, N, hN, hs, hl => by
    rw [List.length_cons] at hs
    rw [List.length_cons, Nat.pow_succ] at hl
    have p : 1 ≤ 2 ^ ms.length := Nat.one_le_two_pow
    have q : fs.length * 2 * 2 ^ ms.length ≤ 1000 := by
      rw [Nat.mul_assoc, Nat.mul_comm 2]
      exact hl
    have q2 : fs.length * 2 ≤ 1000 := Nat.le_trans (Nat.le_mul_of_pos_right _ p) q
    obtain ⟨o2', ih⟩ := lo_loop (d := d) (h := h) ms (fs ++ fs.map (· ++ [m])) (some (.d (.str m))) (N + 1) (fun f hf => by
      rcases List.mem_append.mp hf with hf | hf
      · have := hN f hf; omega
      · obtain ⟨g, hg, rfl⟩ := List.mem_map.mp hf
        have := hN g hg
        rw [List.length_append, List.length_singleton]
        omega) (by omega) (by
        rw [List.length_append, List.length_map]
        have : fs.length + fs.length = fs.length * 2 := by omega
        rw [this]
        exact q)
    refine ⟨o2', for_nx (δ1 := [some (.d d), some (.d (.list (fs.map tupS))), some (.d (.str m)), none]) (h1 := h) rfl (ss_nx (δ1 := [some (.d d), some (.d (.list ((fs ++ fs.map (· ++ [m])).map tupS))), some (.d (.str m)), none]) (h1 := h) (s_asg (e_bin (p := .list (fs.map tupS)) (q := .list ((fs.map (· ++ [m])).map tupS)) (h1 := h) (h2 := h) (by kernel_rfl) (e_compR (h1 := h) (i_seq (d := .list (fs.map tupS)) (by kernel_rfl) rfl) (by unfold small; rw [List.length_map]; simp; omega) ?_) ?_)) ss_nil) ih⟩
    · rw [List.map_map]
      refine pr_two fun f hf => ⟨_, rfl, e_bin (p := tupS f) (q := .tuple [.str m]) (h1 := h) (h2 := h) (by kernel_rfl) (by kernel_rfl) ?_⟩
      have := hN f hf
      show (if small ((f.map PyData.str).length + 1) = true then some (PyData.tuple (f.map .str ++ [.str m])) else none) = _
      rw [if_pos (by unfold small; rw [List.length_map]; simp; omega)]
      show _ = some (PyData.tuple ((f ++ [m]).map .str))
      rw [List.map_append]
      rfl
    · show (if small ((fs.map tupS).length + ((fs.map (· ++ [m])).map tupS).length) = true then some (PyData.list (fs.map tupS ++ (fs.map (· ++ [m])).map tupS)) else none) = _
      rw [if_pos (by unfold small; simp only [List.length_map]; simp; omega), List.map_append]
theorem lo_ok {ms : List Str} (hz : ms.length ≤ 8) : m_law_lots [.d (.list (ms.map .str))] [] = some (.ok (.d (.list ((lotsW [[]] ms).map tupS))), []) := by
  have p : 2 ^ ms.length ≤ 2 ^ 8 := Nat.pow_le_pow_right (by decide) hz
  obtain ⟨o2, e⟩ := lo_loop (d := .list (ms.map .str)) (h := []) ms [[]] none 0 (fun l hl => by rw [List.mem_singleton.mp hl]; exact Nat.le_refl _) (by omega) (by simp; omega)
  exact body_rt (F := F_law_lots) (ss_nx (δ1 := [some (.d (.list (ms.map .str))), some (.d (.list [.tuple []])), none, none]) (h1 := []) (by kernel_rfl) (ss_nx (s_for (xs := ms.map .str) (h1 := []) (i_seq (d := .list (ms.map .str)) (by kernel_rfl) rfl) (by unfold small; rw [List.length_map]; simp; omega) e) (ss_rt (s_ret (e_var rfl)))))
end K09


set_option Elab.async false
set_option linter.all false
set_option maxRecDepth 100000
set_option maxHeartbeats 8000000
namespace K09
open PySem PySem.Spec PyProof.Rows L2 Nv
/-! the pen -/
abbrev penO (ns : List Int) (lap g : Int) : Ob := .lst [.d (.list (ns.map .int)), .d (.int lap), .d (.int g)]
def PenIs (b : Nat) (o : Ob) : Prop := ∃ (ns : List Int) (lap g : Int), o = penO ns lap g ∧ 0 ≤ lap ∧ lap ≤ b
theorem pen_first (ns : List Int) : PenIs 0 (pen0 ns) := ⟨ns, 0, 0, rfl, by omega, by omega⟩
theorem pen_closed {b : Nat} {o : Ob} (h : PenIs b o) : closedO o = true := by obtain ⟨ns, lap, g, rfl, _⟩ := h; rfl
theorem pen_le {a b : Nat} {o : Ob} (h : PenIs a o) (z : a ≤ b) : PenIs b o := by obtain ⟨ns, lap, g, e, h1, h2⟩ := h; exact ⟨ns, lap, g, e, h1, by omega⟩
theorem b_add (i j : Int) : binN .Add (.int i) (.int j) = some (.int (i + j)) := rfl
theorem b_sub (i j : Int) : binN .Sub (.int i) (.int j) = some (.int (i - j)) := rfl
theorem b_multL (i j : Int) (h : -(2 ^ 64) < i ∧ i < 2 ^ 64) : binN .Mult (.int i) (.int j) = some (.int (i * j)) := by
  show (if _ then _ else _) = _
  rw [if_pos (.inl (.inl h))]
theorem b_multR (i j : Int) (h : -(2 ^ 64) < j ∧ j < 2 ^ 64) : binN .Mult (.int i) (.int j) = some (.int (i * j)) := by
  show (if _ then _ else _) = _
  rw [if_pos (.inl (.inr h))]
theorem b_mod (i j : Int) (h : 0 < j) : binN .Mod (.int i) (.int j) = some (.int (i % j)) := by
  show (if _ then _ else _) = _
  rw [if_pos h]
theorem b_fdiv (i j : Int) (h : 0 < j) (k : j < 2 ^ 30) : binN .FloorDiv (.int i) (.int j) = some (.int (i / j)) := by
  show (if _ then _ else _) = _
  have l : j.natAbs.log2 < 9000 := Nat.lt_of_lt_of_le ((Nat.log2_lt (by omega)).mpr (show j.natAbs < 2 ^ 30 by omega)) (by decide)
  rw [if_pos ⟨h, l⟩]
theorem b_pow {i j : Int} (n : Nat) (e : j = n) (h : n ≤ 1000000) (k : i.natAbs < 2 ^ 64) : binN .Pow (.int i) (.int j) = some (.int (i ^ n)) := by
  subst e
  show (if _ then _ else _) = _
  rw [if_pos ⟨by omega, by omega, k⟩, Int.toNat_natCast]
theorem pow_lt {x : Int} (h0 : 0 ≤ x) (h : x < 18446744073709551616) : x.natAbs < 2 ^ 64 := by omega
theorem ints_at {ns : List Int} {i : Int} (h0 : 0 ≤ i) (h1 : i < ns.length) : ∃ z, atI (ns.map PyData.int) i = some (.int z) := by
  obtain ⟨k, rfl⟩ := Int.eq_ofNat_of_zero_le h0
  have hk : k < ns.length := by omega
  refine ⟨ns[k], ?_⟩
  have : ixN (ns.map PyData.int).length (k : Int) = some k := by
    unfold ixN
    rw [List.length_map]
    rw [if_pos (by omega), Int.toNat_natCast]
    simp [hk]
  unfold atI
  rw [this]
  simp [List.getElem?_eq_getElem hk]
abbrev stp (m lap cell : Int) : Env_ := [some (.r 0), some (.d (.int m)), none, some (.d (.int lap)), some (.d (.int cell)), none, none]
def atS : Sds → Nat → Sd
  | .cons s _, 0 => s
  | .cons _ ss, n + 1 => atS ss n
  | .nil, _ => .pass
def dropS : Sds → Nat → Sds
  | ss, 0 => ss
  | .cons _ ss, n + 1 => dropS ss n
  | .nil, _ => .nil
theorem c_gt (i j : Int) : cmpN .Gt (.int i) (.int j) = some (decide (j < i)) := rfl
theorem c_lt (i j : Int) : cmpN .Lt (.int i) (.int j) = some (decide (i < j)) := rfl
theorem c_ge (i j : Int) : cmpN .GtE (.int i) (.int j) = some (decide (j ≤ i)) := rfl
abbrev FD : Fns := F_law_draw
theorem dr_ok {b : Nat} {o : Ob} {m : Int} (P : PenIs b o) (hb : b < 1000000) (h0 : 0 < m) (h1 : m < 2 ^ 30) : ∃ v o', m_law_draw [.r 0, .d (.int m)] [o] = some (.ok (.d (.int v)), [o']) ∧ 0 ≤ v ∧ v < m ∧ PenIs (b + 1) o' := by
  obtain ⟨ns, lap, g, rfl, lo, hi⟩ := P
  by_cases hg : 0 < g
  · refine ⟨g % m, penO ns lap (g / m), body_rt (F := FD) (ss_rt ?_), Int.emod_nonneg _ (by omega), Int.emod_lt_of_pos _ h0, ⟨ns, lap, g / m, rfl, lo, by omega⟩⟩
    rw [s_ifT (d := .bool true) (h1 := [penO ns lap g]) (e_cmp (p := .int g) (q := .int 0) (h1 := [penO ns lap g]) (h2 := [penO ns lap g]) (by kernel_rfl) e_cst (by rw [c_gt, decide_eq_true hg])) rfl]
    refine ss_nx (s_asg (e_bin (p := .int g) (q := .int m) (h1 := [penO ns lap g]) (h2 := [penO ns lap g]) (by kernel_rfl) (by kernel_rfl) (b_mod _ _ h0))) (ss_nx (δ1 := [some (.r 0), some (.d (.int m)), some (.d (.int (g % m))), none, none, none, none]) (h1 := [penO ns lap (g / m)]) (s_setI (v := .d (.int (g / m))) (x := .r 0) (y := .d (.int 2)) (h1 := [penO ns lap g]) (h2 := [penO ns lap g]) (h3 := [penO ns lap g]) (e_bin (p := .int g) (q := .int m) (h1 := [penO ns lap g]) (h2 := [penO ns lap g]) (by kernel_rfl) (by kernel_rfl) (b_fdiv _ _ h0 h1)) (by kernel_rfl) e_cst rfl) (ss_rt (s_ret (e_var rfl))))
  · have head : ∀ o, evalSs FD (dropS c_law_draw 4) (stp m lap (44044 * lap + 6760)) [penO ns (lap + 1) g] = o → evalSs FD c_law_draw (initS n_law_draw [.r 0, .d (.int m)]) [penO ns lap g] = o := fun o h => by
      refine ss_nx (δ1 := initS n_law_draw [.r 0, .d (.int m)]) (h1 := [penO ns lap g]) ?_ (ss_nx (δ1 := [some (.r 0), some (.d (.int m)), none, some (.d (.int lap)), none, none, none]) (h1 := [penO ns lap g]) (by kernel_rfl) (ss_nx (δ1 := [some (.r 0), some (.d (.int m)), none, some (.d (.int lap)), none, none, none]) (h1 := [penO ns (lap + 1) g]) (by kernel_rfl) (ss_nx (δ1 := stp m lap (44044 * lap + 6760)) (h1 := [penO ns (lap + 1) g]) (s_asg (e_bin (p := .int (44044 * lap)) (q := .int 6760) (h1 := [penO ns (lap + 1) g]) (h2 := [penO ns (lap + 1) g]) (e_bin (p := .int 44044) (q := .int lap) (h1 := [penO ns (lap + 1) g]) (h2 := [penO ns (lap + 1) g]) e_cst (by kernel_rfl) (b_multL _ _ (by decide))) e_cst rfl)) h)))
      rw [s_ifF (d := .bool false) (h1 := [penO ns lap g]) (e_cmp (p := .int g) (q := .int 0) (h1 := [penO ns lap g]) (h2 := [penO ns lap g]) (by kernel_rfl) e_cst (by rw [c_gt, decide_eq_false hg])) rfl]
      exact ss_nil
    generalize hH : [penO ns (lap + 1) g] = H at head
    have mid : ∃ cell, evalS FD (atS c_law_draw 4) (stp m lap (44044 * lap + 6760)) H = some (.nx (stp m lap cell) H) := by
      subst hH
      cases ns with
      | nil =>
        refine ⟨44044 * lap + 6760, ?_⟩
        show evalS FD (.ifs _ _ _) _ _ = _
        rw [s_ifF (d := .bool false) (h1 := [penO [] (lap + 1) g]) (by kernel_rfl) rfl]
        exact ss_nil
      | cons n0 l =>
        have hl : (0 : Int) < ((n0 :: l).length : Int) := by simp only [List.length_cons]; omega
        obtain ⟨cell, hcell⟩ := ints_at (ns := n0 :: l) (i := lap % ((n0 :: l).length : Int)) (Int.emod_nonneg _ (by omega)) (Int.emod_lt_of_pos _ hl)
        refine ⟨cell, ?_⟩
        show evalS FD (.ifs _ _ _) _ _ = _
        rw [s_ifT (d := .bool true) (h1 := [penO (n0 :: l) (lap + 1) g]) (by kernel_rfl) rfl]
        refine ss_nx (s_asg (e_sub (x := .d (.list ((n0 :: l).map .int))) (y := .d (.int (lap % ((n0 :: l).length : Int)))) (h1 := [penO (n0 :: l) (lap + 1) g]) (h2 := [penO (n0 :: l) (lap + 1) g]) (by kernel_rfl) (e_bin (p := .int lap) (q := .int ((n0 :: l).length : Int)) (h1 := [penO (n0 :: l) (lap + 1) g]) (h2 := [penO (n0 :: l) (lap + 1) g]) (by kernel_rfl) ?_ (b_mod _ _ hl)) ?_)) ss_nil
        · refine e_blt (x := .d (.list ((n0 :: l).map .int))) (h1 := [penO (n0 :: l) (lap + 1) g]) (by kernel_rfl) ?_
          show some (PyData.int (((n0 :: l).map PyData.int).length : Int)) = _
          rw [List.length_map]
        · show giv (subD _ _) _ = _
          show giv (atI _ _) _ = _
          rw [hcell]
          rfl
    obtain ⟨cell, hm⟩ := mid
    have fin : ∃ d, evalSs FD (dropS c_law_draw 6) (stp m lap cell) H = some (.rt (.d (.int d)) H) ∧ 0 ≤ d ∧ d < m := by
      have hx0 : 0 ≤ cell % 2147483549 := Int.emod_nonneg _ (by decide)
      have hx1 : cell % 2147483549 < 2147483549 := Int.emod_lt_of_pos _ (by decide)
      have q1 : (cell % 2147483549 + 51740 * lap + 6760).natAbs < 2 ^ 64 := pow_lt (by omega) (by omega)
      generalize hz : (cell % 2147483549 + 51740 * lap + 6760) ^ 5 % 2147483629 = z
      have hz0 : 0 ≤ z := by rw [← hz]; exact Int.emod_nonneg _ (by decide)
      have hz1 : z < 2147483629 := by rw [← hz]; exact Int.emod_lt_of_pos _ (by decide)
      have y0 : 0 ≤ z * (2 * lap + 1318) := Int.mul_nonneg hz0 (by omega)
      have y1 : z * (2 * lap + 1318) ≤ 2147483629 * 2001318 := Int.mul_le_mul (by omega) (by omega) (by omega) (by omega)
      have w0 : 0 ≤ 90880 * lap * lap := Int.mul_nonneg (by omega) lo
      have w1 : 90880 * lap * lap ≤ 90880000000 * 1000000 := Int.mul_le_mul (by omega) (by omega) lo (by omega)
      have q2 : (z * (2 * lap + 1318) + 90880 * lap * lap + 44044).natAbs < 2 ^ 64 := pow_lt (by omega) (by omega)
      generalize hu : (z * (2 * lap + 1318) + 90880 * lap * lap + 44044) ^ 3 % 2147483587 = u
      have a1 : evalS FD (atS c_law_draw 6) (stp m lap cell) H = some (.nx [some (.r 0), some (.d (.int m)), none, some (.d (.int lap)), some (.d (.int cell)), none, some (.d (.int z))] H) := by
        rw [← hz]
        exact s_asg (e_bin (h2 := H) (e_blt (e_bin (h2 := H) (e_bin (h2 := H) (e_bin (h2 := H) (e_bin (h2 := H) (e_blt (e_var rfl) rfl) e_cst (b_mod _ _ (by decide))) (e_bin (h2 := H) e_cst (e_var rfl) (b_multL _ _ (by decide))) (b_add _ _)) e_cst (b_add _ _)) e_cst (b_pow 5 rfl (by decide) q1)) rfl) e_cst (b_mod _ _ (by decide)))
      have a2 : evalS FD (atS c_law_draw 7) [some (.r 0), some (.d (.int m)), none, some (.d (.int lap)), some (.d (.int cell)), none, some (.d (.int z))] H = some (.nx [some (.r 0), some (.d (.int m)), none, some (.d (.int lap)), some (.d (.int cell)), none, some (.d (.int u))] H) := by
        rw [← hu]
        exact s_asg (e_bin (h2 := H) (e_blt (e_bin (h2 := H) (e_bin (h2 := H) (e_bin (h2 := H) (e_bin (h2 := H) (e_var rfl) (e_bin (h2 := H) (e_bin (h2 := H) e_cst (e_var rfl) (b_multL _ _ (by decide))) e_cst (b_add _ _)) (b_multL _ _ (by omega))) (e_bin (h2 := H) (e_bin (h2 := H) e_cst (e_var rfl) (b_multL _ _ (by decide))) (e_var rfl) (b_multR _ _ (by omega))) (b_add _ _)) e_cst (b_add _ _)) e_cst (b_pow 3 rfl (by decide) q2)) rfl) e_cst (b_mod _ _ (by decide)))
      exact ⟨_, ss_nx a1 (ss_nx a2 (ss_rt (s_ret (e_bin (h2 := H) (e_blt (e_bin (h2 := H) (e_var rfl) e_cst (b_fdiv _ _ (by decide) (by decide))) rfl) (e_var rfl) (b_mod _ _ h0))))), Int.emod_nonneg _ (by omega), Int.emod_lt_of_pos _ h0⟩
    obtain ⟨d, fd, d0, d1⟩ := fin
    have go : evalS FD (atS c_law_draw 5) (stp m lap cell) H = some (.nx (stp m lap cell) H) → ∃ v o', m_law_draw [.r 0, .d (.int m)] [penO ns lap g] = some (.ok (.d (.int v)), [o']) ∧ 0 ≤ v ∧ v < m ∧ PenIs (b + 1) o' :=
      fun h5 => ⟨d, penO ns (lap + 1) g, by rw [hH]; exact body_rt (F := FD) (head _ (ss_nx hm (ss_nx h5 fd))), d0, d1, ⟨ns, lap + 1, g, rfl, by omega, by omega⟩⟩
    have p18 : binN .Pow (.int 10) (.int 18) = some (.int (10 ^ 18)) := b_pow 18 rfl (by decide) (by decide)
    have lenE : evalE FD (.blt .len (.sub (.var 0) (.cst (.int (0))))) (stp m lap cell) H = some (.ok (.d (.int (ns.length : Int))), H) := by
      subst hH
      refine e_blt (x := .d (.list (ns.map .int))) (h1 := [penO ns (lap + 1) g]) (by kernel_rfl) ?_
      show some (PyData.int ((ns.map PyData.int).length : Int)) = _
      rw [List.length_map]
    by_cases hc : lap < (ns.length : Int)
    · have hA : evalE FD (.cmp .Lt (.var 3) (.blt .len (.sub (.var 0) (.cst (.int (0)))))) (stp m lap cell) H = some (.ok (.d (.bool true)), H) := by
        rw [← decide_eq_true hc]
        exact e_cmp (h1 := H) (e_var rfl) lenE (c_lt _ _)
      have abE : evalE FD (.blt .abs (.var 4)) (stp m lap cell) H = some (.ok (.d (.int (if cell < 0 then -cell else cell))), H) := e_blt (x := .d (.int cell)) (e_var rfl) rfl
      by_cases hb : (10:Int) ^ 18 ≤ (if cell < 0 then -cell else cell)
      · have hB : evalE FD (.cmp .GtE (.blt .abs (.var 4)) (.bin .Pow (.cst (.int (10))) (.cst (.int (18))))) (stp m lap cell) H = some (.ok (.d (.bool true)), H) := by
          rw [← decide_eq_true hb]
          exact e_cmp (h1 := H) abE (e_bin (h1 := H) e_cst e_cst p18) (c_ge _ _)
        generalize hgr : (2 * ((if cell < 0 then -cell else cell) - 10 ^ 18) + (if decide (cell < 0) then 1 else 0)) = gr
        have a5 : evalS FD (atS c_law_draw 5) (stp m lap cell) H = some (.rt (.d (.int (gr % m))) [penO ns (lap + 1) (gr / m)]) := by
          show evalS FD (.ifs _ _ _) _ _ = _
          rw [s_ifT (d := .bool true) (h1 := H) (e_andT hA hB) rfl]
          refine ss_nx (δ1 := [some (.r 0), some (.d (.int m)), none, some (.d (.int lap)), some (.d (.int cell)), some (.d (.int gr)), none]) (h1 := H) ?_ (ss_nx (δ1 := [some (.r 0), some (.d (.int m)), none, some (.d (.int lap)), some (.d (.int cell)), some (.d (.int gr)), none]) (h1 := [penO ns (lap + 1) (gr / m)]) ?_ (ss_rt (s_ret (e_bin (h2 := [penO ns (lap + 1) (gr / m)]) (e_blt (e_var rfl) rfl) (e_var rfl) (b_mod _ _ h0)))))
          · rw [← hgr]
            exact s_asg (e_bin (h1 := H) (e_bin (h1 := H) e_cst (e_bin (h1 := H) abE (e_bin (h1 := H) e_cst e_cst p18) (b_sub _ _)) (b_multL _ _ (by decide))) (e_blt (x := .d (.bool (decide (cell < 0)))) (h1 := H) (e_cmp (h1 := H) (e_var rfl) e_cst (c_lt _ _)) rfl) (b_add _ _))
          · refine s_setI (v := .d (.int (gr / m))) (x := .r 0) (y := .d (.int 2)) (h1 := H) (h2 := H) (h3 := H) (e_bin (h2 := H) (e_blt (e_var rfl) rfl) (e_var rfl) (b_fdiv _ _ h0 h1)) (e_var rfl) e_cst ?_
            rw [← hH]
            rfl
        exact ⟨gr % m, penO ns (lap + 1) (gr / m), body_rt (F := FD) (head _ (ss_nx hm (ss_rt a5))), Int.emod_nonneg _ (by omega), Int.emod_lt_of_pos _ h0, ⟨ns, lap + 1, gr / m, rfl, by omega, by omega⟩⟩
      · have hB : evalE FD (.cmp .GtE (.blt .abs (.var 4)) (.bin .Pow (.cst (.int (10))) (.cst (.int (18))))) (stp m lap cell) H = some (.ok (.d (.bool false)), H) := by
          rw [← decide_eq_false hb]
          exact e_cmp (h1 := H) abE (e_bin (h1 := H) e_cst e_cst p18) (c_ge _ _)
        refine go ?_
        show evalS FD (.ifs _ _ _) _ _ = _
        rw [s_ifF (d := .bool false) (h1 := H) (e_andT hA hB) rfl]
        exact ss_nil
    · have hA : evalE FD (.cmp .Lt (.var 3) (.blt .len (.sub (.var 0) (.cst (.int (0)))))) (stp m lap cell) H = some (.ok (.d (.bool false)), H) := by
        rw [← decide_eq_false hc]
        exact e_cmp (h1 := H) (e_var rfl) lenE (c_lt _ _)
      refine go ?_
      show evalS FD (.ifs _ _ _) _ _ = _
      rw [s_ifF (d := .bool false) (h1 := H) (e_andF hA) rfl]
      exact ss_nil
/-- a call that sees the pen alone -/
theorem call_p {m : List Vv → Hh → Ev Vv} {vs : List Vv} {h tl : Hh} {k : Nat} {o o' : Ob} {z : PyData} (hk : h[k]? = some o) (co : closedO o = true) (co' : closedO o' = true) (hv : vs.all closedV = true) (e : m (.r 0 :: vs) [o] = some (.ok (.d z), o' :: tl)) : cellCall m (.r k :: vs) h = some (.ok (.d z), h.set k o') := by
  obtain ⟨k1, k2⟩ := refs_no hv
  unfold cellCall
  have r1 : refsOf (.r k :: vs) = [k] := by
    show k :: refsOf vs = _
    rw [k1]
  have r2 : renum (.r k :: vs) 0 = .r 0 :: vs := by
    show Vv.r 0 :: renum vs 1 = _
    rw [k2]
  rw [r1, r2]
  simp only [nodupB, List.contains_nil, Bool.not_false, Bool.and_self, if_true, gather, hk, List.all_cons, co, List.all_nil, Bool.and_true, e]
  simp [co', finC, putBack]
end K09


set_option Elab.async false
set_option linter.all false
set_option maxRecDepth 100000
set_option maxHeartbeats 8000000
namespace K09
open PySem PySem.Spec PyProof.Rows L2 Nv
theorem call_p1 {m : List Vv → Hh → Ev Vv} {vs : List Vv} {tl : Hh} {o o' : Ob} {z : PyData} (co : closedO o = true) (co' : closedO o' = true) (hv : vs.all closedV = true) (e : m (.r 0 :: vs) [o] = some (.ok (.d z), o' :: tl)) : cellCall m (.r 0 :: vs) [o] = some (.ok (.d z), [o']) := call_p (h := [o]) (k := 0) rfl co co' hv e
/-! _law_pick -/
theorem ds_at {ds : List PyData} {i : Int} (h0 : 0 ≤ i) (h1 : i < ds.length) : ∃ z, z ∈ ds ∧ atI ds i = some z := by
  obtain ⟨k, rfl⟩ := Int.eq_ofNat_of_zero_le h0
  have hk : k < ds.length := by omega
  refine ⟨ds[k], List.getElem_mem hk, ?_⟩
  have : ixN ds.length (k : Int) = some k := by
    unfold ixN
    rw [if_pos (by omega), Int.toNat_natCast]
    simp [hk]
  unfold atI
  rw [this]
  exact List.getElem?_eq_getElem hk
theorem pk_ok {b : Nat} {o : Ob} {ds : List PyData} (P : PenIs b o) (hb : b < 1000000) (h0 : 0 < ds.length) (h1 : ds.length < 2 ^ 30) : ∃ z o', z ∈ ds ∧ m_law_pick [.r 0, .d (.list ds)] [o] = some (.ok (.d z), [o']) ∧ PenIs (b + 1) o' := by
  obtain ⟨v, o', e, v0, v1, P'⟩ := dr_ok (m := (ds.length : Int)) P hb (by omega) (by omega)
  obtain ⟨z, hz, ez⟩ := ds_at v0 v1
  refine ⟨z, o', hz, body_rt (F := F_law_pick) (ss_rt (s_ret (e_sub (x := .d (.list ds)) (y := .d (.int v)) (h1 := [o]) (h2 := [o']) (by kernel_rfl) (e_call (vs := [.r 0, .d (.int ds.length)]) (h1 := [o]) (by kernel_rfl) (call_p1 (pen_closed P) (pen_closed P') rfl e)) ?_))), P'⟩
  show giv (atI ds v) _ = _
  rw [ez]
  rfl
/-! _law_mixed -/
theorem map_erase {α β : Type} (f : α → β) : ∀ (l : List α) (k : Nat), (l.map f).eraseIdx k = (l.eraseIdx k).map f
  | [], _ => rfl
  | a :: l, 0 => rfl
  | a :: l, k + 1 => by simp only [List.map_cons, List.eraseIdx_cons_succ, map_erase f l k]
theorem erase_perm {α : Type} : ∀ {l : List α} {k : Nat} (h : k < l.length), (l[k] :: l.eraseIdx k).Perm l
  | a :: l, 0, _ => .refl _
  | a :: l, k + 1, h => by
    rw [List.eraseIdx_cons_succ, List.getElem_cons_succ]
    exact (List.Perm.swap _ _ _).trans (List.Perm.cons a (erase_perm (by simpa using h)))
abbrev vS (l : List Str) : List Vv := l.map fun s => .d (.str s)
abbrev hpX (o : Ob) (rest found : List Str) : Hh := [o, .lst (vS rest), .lst (vS found)]
abbrev dX (d : PyData) : Env_ := [some (.r 0), some (.d d), some (.r 1), some (.r 2)]
def bodyX : Sds := (.cons (.app (.var 3) (.popA (.var 2) (.call 0 (.cons (.var 0) (.cons (.blt .len (.var 2)) .nil))))) .nil)
theorem mx_step {b : Nat} {o : Ob} {d : PyData} {rest found : List Str} (P : PenIs b o) (hb : b < 1000000) (h0 : 0 < rest.length) (h1 : rest.length < 1000) (h2 : found.length < 1000) :
    ∃ o' rest' found', evalSs F_law_mixed bodyX (dX d) (hpX o rest found) = some (.nx (dX d) (hpX o' rest' found')) ∧ rest'.length + 1 = rest.length ∧ (found' ++ rest').Perm (found ++ rest) ∧ PenIs (b + 1) o' := by
  obtain ⟨v, o', e, v0, v1, P'⟩ := dr_ok (m := (rest.length : Int)) P hb (by omega) (by omega)
  obtain ⟨k, rfl⟩ := Int.eq_ofNat_of_zero_le v0
  have hk : k < rest.length := by omega
  refine ⟨o', rest.eraseIdx k, found ++ [rest[k]], ?_, by rw [List.length_eraseIdx]; simp [hk]; omega, ?_, P'⟩
  · have cl : cellCall (F_law_mixed.fn 0) [.r 0, .d (.int rest.length)] (hpX o rest found) = some (.ok (.d (.int k)), hpX o' rest found) := call_p (m := F_law_mixed.fn 0) (h := hpX o rest found) (k := 0) rfl (pen_closed P) (pen_closed P') rfl e
    have s1 : evalE F_law_mixed (.popA (.var 2) (.call 0 (.cons (.var 0) (.cons (.blt .len (.var 2)) .nil)))) (dX d) (hpX o rest found) = some (.ok (.d (.str rest[k])), hpX o' (rest.eraseIdx k) found) := by
      refine e_popA (x := .r 1) (y := .d (.int k)) (h1 := hpX o rest found) (h2 := hpX o' rest found) (by kernel_rfl) rfl (e_call (vs := [.r 0, .d (.int rest.length)]) (h1 := hpX o rest found) (l_cons (e_var rfl) (l_cons (e_blt (x := .r 1) (h1 := hpX o rest found) (e_var rfl) ?_) l_nil)) cl) ?_
      · show some (PyData.int ((vS rest).length : Int)) = _
        rw [List.length_map]
      · show (if 0 ≤ (k : Int) ∧ (k : Int) < ((vS rest).length : Int) ∧ small (vS rest).length = true then _ else _) = _
        rw [if_pos ⟨by omega, by rw [List.length_map]; omega, by unfold small; rw [List.length_map]; exact decide_eq_true (by omega)⟩, Int.toNat_natCast, map_erase]
        rw [show (vS rest)[k]? = some (.d (.str rest[k])) by simp [vS, hk]]
        rfl
    refine ss_nx (δ1 := dX d) (h1 := hpX o' (rest.eraseIdx k) (found ++ [rest[k]])) (s_app (x := .r 2) (h1 := hpX o rest found) (by kernel_rfl) rfl s1 ?_) ss_nil
    show (if small (vS found).length = true then some (Out.nx _ _) else none) = _
    rw [if_pos (by unfold small; rw [List.length_map]; exact decide_eq_true (by omega))]
    show some (Out.nx (dX d) [o', .lst (vS (rest.eraseIdx k)), .lst (vS found ++ [.d (.str rest[k])])]) = some (Out.nx (dX d) [o', .lst (vS (rest.eraseIdx k)), .lst (vS (found ++ [rest[k]]))])
    rw [show vS (found ++ [rest[k]]) = vS found ++ [.d (.str rest[k])] by simp [vS]]
  · rw [List.append_assoc]
    exact List.Perm.append_left found (erase_perm hk)
theorem mx_loop {d : PyData} : ∀ (n b m : Nat) (o : Ob) (rest found : List Str), rest.length = n → n < m → PenIs b o → b + n < 1000000 → n + found.length < 1000 →
    ∃ o' found', whileLoop (evalE F_law_mixed (.neE true (.var 2))) (evalSs F_law_mixed bodyX) m (dX d) (hpX o rest found) = some (.nx (dX d) (hpX o' [] found')) ∧ found'.Perm (found ++ rest) ∧ PenIs (b + n) o'
  | 0, b, m + 1, o, rest, found, hr, _, P, _, _ => by
    have : rest = [] := List.length_eq_zero_iff.mp hr
    subst this
    exact ⟨o, found, wh_stop (d := .bool false) (h1 := hpX o [] found) (by kernel_rfl) rfl, by simp, P⟩
  | n + 1, b, m + 1, o, rest, found, hr, hm, P, hb, hl => by
    obtain ⟨o1, rest1, found1, e, l, p, P1⟩ := mx_step (d := d) (found := found) P (by omega) (by omega : 0 < rest.length) (by omega) (by omega)
    have fl : found1.length + rest1.length = found.length + rest.length := by simpa using p.length_eq
    obtain ⟨o2, found2, e2, p2, P2⟩ := mx_loop n (b + 1) m o1 rest1 found1 (by omega) (by omega) P1 (by omega) (by omega)
    refine ⟨o2, found2, wh_nx (d := .bool true) (h1 := hpX o rest found) ?_ rfl e e2, p2.trans p, pen_le P2 (by omega)⟩
    refine e_neE (x := .r 1) (h1 := hpX o rest found) (by kernel_rfl) ?_
    cases rest with
    | nil => cases hr
    | cons a l => rfl
theorem mx_ok {b : Nat} {o : Ob} {l : List Str} (P : PenIs b o) (hb : b + l.length < 1000000) (hl : l.length < 1000) : ∃ (o' : Ob) (tl : Hh) (fs : List Str), m_law_mixed [.r 0, .d (.list (l.map .str))] [o] = some (.ok (.d (.list (fs.map .str))), o' :: tl) ∧ fs.Perm l ∧ PenIs (b + l.length) o' := by
  obtain ⟨o', fs, e, p, P'⟩ := mx_loop (d := .list (l.map .str)) l.length b fuel o l [] rfl (by unfold fuel; omega) P hb (by simpa using hl)
  refine ⟨o', [.lst [], .dead], fs, body_rt (F := F_law_mixed) (ss_nx (δ1 := dX (.list (l.map .str))) (h1 := hpX o l []) ?_ (ss_nx (s_while e) (ss_rt (s_ret (e_frz (x := .r 2) (h1 := hpX o' [] fs) (by kernel_rfl) ?_))))), by simpa using p, P'⟩
  · refine s_par (x := .r 1) (y := .r 2) (h1 := [o, .lst (vS l)]) (h2 := hpX o l []) ?_ (by kernel_rfl)
    have : evalE F_law_mixed (.thaw (.var 1)) (initS n_law_mixed [.r 0, .d (.list (l.map .str))]) [o] = some (.ok (.r 1), [o] ++ [.lst ((l.map .str).map .d)]) := by kernel_rfl
    rw [this, List.map_map]
    rfl
  · show (match datL (vS fs) with
      | some ds => some (Rs.ok (Vv.d (.list ds)), (hpX o' [] fs).set 2 .dead)
      | none => none) = _
    have : datL (vS fs) = some (fs.map .str) := by
      have := datL_map (fs.map .str)
      rw [List.map_map] at this
      exact this
    rw [this]
    rfl
/-! _law_some_marks -/
def six : List Str := ["a", "b", "m", "abcdefgh", "abcdefgi", "z"]
def MarksOk (ms : List Str) : Prop := ms.Nodup ∧ ms.Pairwise leS ∧ (∀ m ∈ ms, m ∈ six) ∧ 1 ≤ ms.length ∧ ms.length ≤ 4
theorem so_ok {b : Nat} {o : Ob} (P : PenIs b o) (hb : b + 8 < 1000000) : ∃ (o' : Ob) (tl : Hh) (ms : List Str), m_law_some_marks [.r 0, .d (.int 4)] [o] = some (.ok (.d (.list (ms.map .str))), o' :: tl) ∧ MarksOk ms ∧ PenIs (b + 7) o' := by
  obtain ⟨o1, tl, fs, e, p, P1⟩ := mx_ok (l := six) P (by show b + 6 < _; omega) (by decide)
  obtain ⟨v, o2, e2, v0, v1, P2⟩ := dr_ok (m := 4) P1 (by show b + 6 < _; omega) (by decide) (by decide)
  have fl : fs.length = 6 := p.length_eq
  have sl : (sortS (fs.take (1 + v).toNat)).length = (1 + v).toNat := by
    rw [(sort_perm _).length_eq, List.length_take, fl]
    omega
  refine ⟨o2, [], sortS (fs.take (1 + v).toNat), body_rt (F := F_law_some_marks) (ss_rt (s_ret (e_op (vs := [.d (.list ((fs.take (1 + v).toNat).map .str))]) (ds := [.list ((fs.take (1 + v).toNat).map .str)]) (h1 := [o2]) (l_cons (e_upto (d := .list (fs.map .str)) (e := .int (1 + v)) (h1 := [o1]) (h2 := [o2]) (e_call (vs := [.r 0, .d (.list (six.map .str))]) (h1 := [o]) (by kernel_rfl) (call_p1 (pen_closed P) (pen_closed P1) rfl e)) (e_bin (h1 := [o1]) e_cst (e_call (vs := [.r 0, .d (.int 4)]) (h1 := [o1]) (by kernel_rfl) (call_p1 (pen_closed P1) (pen_closed P2) rfl e2)) (b_add _ _)) ?_) l_nil) rfl ?_))), ⟨?_, sort_pw _, ?_, by omega, by omega⟩, P2⟩
  · show (if 0 ≤ 1 + v then some (PyData.list ((fs.map PyData.str).take (1 + v).toNat)) else none) = _
    rw [if_pos (by omega), List.map_take]
  · show m_srt (.list ((fs.take (1 + v).toNat).map .str)) = _
    unfold m_srt
    simp only []
    rw [strs_map]
    show (if _ then _ else _) = _
    rw [if_pos (by rw [List.length_take]; omega)]
  · refine (sort_perm _).nodup_iff.mpr (List.Nodup.sublist (List.take_sublist _ _) (p.nodup_iff.mpr (by decide +kernel)))
  · intro m hm
    exact p.mem_iff.mp (List.mem_of_mem_take ((sort_perm _).mem_iff.mp hm))
end K09


set_option Elab.async false
set_option linter.all false
set_option maxRecDepth 100000
set_option maxHeartbeats 8000000
namespace K09
open PySem PySem.Spec PyProof.Rows L2 Nv
section
variable {F : Fns} {δ : Env_} {h h1 h2 : Hh}
theorem e_compH {elt : C} {tg : Tg} {it : Ci} {xs ds : List PyData} {vs : List Vv} (a : evalI F it δ h = some (.ok xs, h1)) (z : small xs.length = true) (l : compLoop (fun _ h => some (.ok (.d (.bool true)), h)) (evalE F elt) tg δ xs h1 = some (vs, h2)) (d : datL vs = some ds) : evalE F (.comp elt tg it .non) δ h = some (.ok (.d (.list ds)), h2) := by
  simp only [evalE, a, bnd, z, if_true, l, d]
end
/-! _law_wish -/
def Nk : Nat → Nat
  | 0 => 0
  | k + 1 => 1 + 3 * Nk k
structure Good (ms : List Str) (k : Nat) (w : W) : Prop where
  deep : deepW w ≤ k
  nodes : nodesW w ≤ Nk k
  wide : wideW w
  marks : ∀ m ∈ allM w, m ∈ ms
structure GoodL (ms : List Str) (k n : Nat) (ws : List W) : Prop where
  len : ws.length ≤ n
  deep : deepL ws ≤ k
  nodes : nodesL ws ≤ n * Nk k
  wide : wideL ws
  marks : ∀ m ∈ allML ws, m ∈ ms
theorem GoodL.nil {ms : List Str} {k : Nat} : GoodL ms k 0 [] := ⟨Nat.le_refl _, Nat.zero_le _, Nat.zero_le _, trivial, fun m hm => by simp [allML] at hm⟩
theorem GoodL.cons {ms : List Str} {k n : Nat} {w : W} {ws : List W} (g : Good ms k w) (r : GoodL ms k n ws) : GoodL ms k (n + 1) (w :: ws) where
  len := by have := r.len; rw [List.length_cons]; omega
  deep := by have a := r.deep; have b := g.deep; simp only [deepL]; omega
  nodes := by have a := r.nodes; have b := g.nodes; simp only [nodesL]; rw [Nat.add_mul]; omega
  wide := ⟨g.wide, r.wide⟩
  marks := fun m hm => by
    rw [allML, List.mem_append] at hm
    rcases hm with hm | hm
    · exact g.marks m hm
    · exact r.marks m hm
abbrev FWi (n : Nat) : Fns := F_law_wish (mr_law_wish n)
theorem Nk_pos (k : Nat) : 1 ≤ Nk (k + 1) := by unfold Nk; omega
theorem cw_loop {ms : List Str} {k c : Nat} {elt : Env_ → Hh → Ev Vv} {δ : Env_} {N : Nat} (hs : ∀ (d : PyData) (o : Ob) (b : Nat), PenIs b o → b + c < N → ∃ w o', elt (δ.set 5 (some (.d d))) [o] = some (.ok (.d (enc w)), [o']) ∧ Good ms k w ∧ PenIs (b + c) o') :
    ∀ (xs : List PyData) (o : Ob) (b : Nat), PenIs b o → b + xs.length * c < N → ∃ ws o', compLoop (fun _ h => some (.ok (.d (.bool true)), h)) elt (.one 5) δ xs [o] = some ((encs ws).map .d, [o']) ∧ GoodL ms k xs.length ws ∧ PenIs (b + xs.length * c) o'
  | [], o, b, P, _ => ⟨[], o, rfl, .nil, by simpa using P⟩
  | x :: xs, o, b, P, hb => by
    rw [List.length_cons, Nat.add_mul, Nat.one_mul] at hb
    obtain ⟨w, o1, e, g, P1⟩ := hs x o b P (by omega)
    obtain ⟨ws, o2, e2, g2, P2⟩ := cw_loop hs xs o1 (b + c) P1 (by omega)
    refine ⟨w :: ws, o2, ?_, .cons g g2, ?_⟩
    · simp only [compLoop, setTg, truthD, e, e2, encs, List.map_cons]
    · rw [List.length_cons, Nat.add_mul, Nat.one_mul]
      exact pen_le P2 (by omega)
theorem wi_often (n : Nat) {b : Nat} {o : Ob} {ms : List Str} (k : Nat) (d : PyData) {way : Int} {δ : Env_} (hδ : δ = [some (.r 0), some (.d (.list (ms.map .str))), some (.d d), some (.d (.int way)), none, none]) (P : PenIs b o) (hb : b < 1000000) (hm : 0 < ms.length) (hm2 : ms.length ≤ 4) :
    ∃ m o', m ∈ ms ∧ evalS (FWi n) (.ret (.tup (.cons (.cst (.str "often")) (.cons (.call 1 (.cons (.var 0) (.cons (.var 1) .nil))) .nil)))) δ [o] = some (.rt (.d (enc (.often m))) [o']) ∧ PenIs (b + 1) o' := by
  subst hδ
  obtain ⟨z, o', hz, e, P'⟩ := pk_ok (ds := ms.map .str) P hb (by rw [List.length_map]; exact hm) (by rw [List.length_map]; omega)
  obtain ⟨m, hm, rfl⟩ := List.mem_map.mp hz
  exact ⟨m, o', hm, s_ret (e_tup (vs := [.d (.str "often"), .d (.str m)]) (h1 := [o']) (l_cons (h1 := [o]) e_cst (l_cons (e_call (vs := [.r 0, .d (.list (ms.map .str))]) (h1 := [o]) (by kernel_rfl) (call_p1 (pen_closed P) (pen_closed P') rfl e)) l_nil)) rfl rfl), P'⟩
theorem c_lt0 (i j : Int) : cmpN .Lt (.int i) (.int j) = some (decide (i < j)) := rfl
theorem c_eq (i j : Int) : cmpN .Eq (.int i) (.int j) = some (decide (i = j)) := by
  have s : cmpN .Eq (.int i) (.int j) = some (PyData.eqv (.int i) (.int j)) := by kernel_rfl
  rw [s]
  by_cases h : i = j
  · subst h; simp [PyData.eqv]
  · simp [PyData.eqv, h]
theorem wi_ok {ms : List Str} (hm : 0 < ms.length) (hm2 : ms.length ≤ 4) : ∀ (k n : Nat) (o : Ob) (b : Nat), k + 1 ≤ n → k ≤ 5 → PenIs b o → b + 3 * Nk (k + 1) < 1000000 →
    ∃ w o', mr_law_wish n [.r 0, .d (.list (ms.map .str)), .d (.int ((k + 1 : Nat) : Int))] [o] = some (.ok (.d (enc w)), [o']) ∧ Good ms (k + 1) w ∧ PenIs (b + 3 * Nk (k + 1)) o'
  | k, 0, o, b, hn, _, _, _ => absurd hn (by omega)
  | k, n + 1, o, b, hn, hk, P, hb => by
    obtain ⟨way, o1, e1, w0, w1, P1⟩ := dr_ok (m := 6) P (by omega) (by decide) (by decide)
    have np := Nk_pos k
    generalize hd : PyData.int ((k + 1 : Nat) : Int) = d
    have a1 : evalS (FWi n) (.asg 3 (.call 2 (.cons (.var 0) (.cons (.cst (.int (6))) .nil)))) (initS n_law_wish [.r 0, .d (.list (ms.map .str)), .d d]) [o] = some (.nx [some (.r 0), some (.d (.list (ms.map .str))), some (.d d), some (.d (.int way)), none, none] [o1]) :=
      s_asg (e_call (vs := [.r 0, .d (.int 6)]) (h1 := [o]) (by kernel_rfl) (call_p1 (pen_closed P) (pen_closed P1) rfl e1))
    generalize hδ : [some (Vv.r 0), some (.d (.list (ms.map .str))), some (.d d), some (.d (.int way)), none, none] = δ at a1
    have cmpW : evalE (FWi n) (.cmp .Lt (.var 3) (.cst (.int (2)))) δ [o1] = some (.ok (.d (.bool (decide (way < 2)))), [o1]) := by
      subst hδ
      exact e_cmp (h1 := [o1]) (e_var rfl) e_cst (c_lt0 _ _)
    have cmpD : evalE (FWi n) (.cmp .Lt (.var 2) (.cst (.int (2)))) δ [o1] = some (.ok (.d (.bool (decide (((k + 1 : Nat) : Int) < 2)))), [o1]) := by
      subst hδ
      subst hd
      exact e_cmp (h1 := [o1]) (e_var rfl) e_cst (c_lt0 _ _)
    have oft : evalE (FWi n) (.or_ (.cmp .Lt (.var 2) (.cst (.int (2)))) (.cmp .Lt (.var 3) (.cst (.int (2))))) δ [o1] = some (.ok (.d (.bool true)), [o1]) → ∃ w o', mr_law_wish (n + 1) [.r 0, .d (.list (ms.map .str)), .d d] [o] = some (.ok (.d (enc w)), [o']) ∧ Good ms (k + 1) w ∧ PenIs (b + 3 * Nk (k + 1)) o' := fun eo => by
      obtain ⟨m, o2, hmm, e2, P2⟩ := wi_often n k d hδ.symm P1 (by omega) hm hm2
      refine ⟨.often m, o2, body_rt (F := FWi n) (ss_nx a1 (ss_rt ?_)), ⟨by simp [deepW], by simp [nodesW]; exact np, trivial, fun x hx => by simp [allM] at hx; rw [hx]; exact hmm⟩, pen_le P2 (by omega)⟩
      rw [s_ifT (d := .bool true) (h1 := [o1]) eo rfl]
      exact ss_rt e2
    have nof : evalE (FWi n) (.or_ (.cmp .Lt (.var 2) (.cst (.int (2)))) (.cmp .Lt (.var 3) (.cst (.int (2))))) δ [o1] = some (.ok (.d (.bool false)), [o1]) → ∀ r, evalSs (FWi n) (dropS c_law_wish 2) δ [o1] = r → evalSs (FWi n) c_law_wish (initS n_law_wish [.r 0, .d (.list (ms.map .str)), .d d]) [o] = r := fun eo r er => by
      refine ss_nx a1 (ss_nx (δ1 := δ) (h1 := [o1]) ?_ er)
      rw [s_ifF (d := .bool false) (h1 := [o1]) eo rfl]
      exact ss_nil
    match k, hn, hk, hb, hd, np, cmpD, oft with
    | 0, hn, hk, hb, hd, np, cmpD, oft => exact oft (e_orT cmpD)
    | k + 1, hn, hk, hb, hd, np, cmpD, oft =>
      have kf : decide (((k + 1 + 1 : Nat) : Int) < 2) = false := decide_eq_false (by omega)
      rw [kf] at cmpD
      by_cases hw : way < 2
      · rw [decide_eq_true hw] at cmpW
        exact oft (e_orF cmpD cmpW)
      · rw [decide_eq_false hw] at cmpW
        have nf := nof (e_orF cmpD cmpW)
        have hb2 : Nk (k + 1 + 1) = 1 + 3 * Nk (k + 1) := rfl
        have subE : ∀ (o : Ob) (x4 x5 : Option Vv), evalL (FWi n) (.cons (.var 0) (.cons (.var 1) (.cons (.bin .Sub (.var 2) (.cst (.int (1)))) .nil))) [some (.r 0), some (.d (.list (ms.map .str))), some (.d d), some (.d (.int way)), x4, x5] [o] = some (.ok [.r 0, .d (.list (ms.map .str)), .d (.int ((k + 1 : Nat) : Int))], [o]) := fun o x4 x5 => by
          subst hd
          have : ((k + 1 + 1 : Nat) : Int) - 1 = ((k + 1 : Nat) : Int) := by omega
          rw [← this]
          kernel_rfl
        have eqE : evalE (FWi n) (.cmp .Eq (.var 3) (.cst (.int (2)))) δ [o1] = some (.ok (.d (.bool (decide (way = 2)))), [o1]) := by
          subst hδ
          exact e_cmp (h1 := [o1]) (e_var rfl) e_cst (c_eq _ _)
        by_cases hw2 : way = 2
        · rw [decide_eq_true hw2] at eqE
          obtain ⟨w, o2, e2, g, P2⟩ := wi_ok hm hm2 k n o1 (b + 1) (by omega) (by omega) P1 (by omega)
          refine ⟨.not w, o2, body_rt (F := FWi n) (nf _ (ss_rt ?_)), ⟨by have := g.deep; simp [deepW]; omega, by have := g.nodes; simp only [nodesW]; omega, g.wide, g.marks⟩, pen_le P2 (by omega)⟩
          rw [s_ifT (d := .bool true) (h1 := [o1]) eqE rfl]
          subst hδ
          exact ss_rt (s_ret (e_tup (vs := [.d (.str "not"), .d (enc w)]) (h1 := [o2]) (l_cons (h1 := [o1]) e_cst (l_cons (e_call (vs := [.r 0, .d (.list (ms.map .str)), .d (.int ((k + 1 : Nat) : Int))]) (h1 := [o1]) (subE o1 none none) (call_p1 (pen_closed P1) (pen_closed P2) rfl e2)) l_nil)) rfl rfl))
        · rw [decide_eq_false hw2] at eqE
          obtain ⟨z, o2, hz, e2, P2⟩ := pk_ok (ds := [.int 1, .int 2, .int 2, .int 2, .int 3, .int 0]) P1 (by omega) (by decide) (by decide)
          have hj : ∃ j : Nat, z = .int (j : Int) ∧ j ≤ 3 := by
            simp only [List.mem_cons, List.not_mem_nil, or_false] at hz
            rcases hz with rfl | rfl | rfl | rfl | rfl | rfl
            · exact ⟨1, rfl, by decide⟩
            · exact ⟨2, rfl, by decide⟩
            · exact ⟨2, rfl, by decide⟩
            · exact ⟨2, rfl, by decide⟩
            · exact ⟨3, rfl, by decide⟩
            · exact ⟨0, rfl, by decide⟩
          obtain ⟨j, rfl, hj⟩ := hj
          obtain ⟨z, o3, hz3, e3, P3⟩ := pk_ok (ds := [.str "and", .str "or"]) P2 (by omega) (by decide) (by decide)
          have hx : ∃ x : Str, z = .str x ∧ (x = "and" ∨ x = "or") := by
            simp only [List.mem_cons, List.not_mem_nil, or_false] at hz3
            rcases hz3 with rfl | rfl
            · exact ⟨_, rfl, .inl rfl⟩
            · exact ⟨_, rfl, .inr rfl⟩
          obtain ⟨x, rfl, hx⟩ := hx
          subst hδ
          have lp := cw_loop (ms := ms) (k := k + 1) (c := 3 * Nk (k + 1)) (N := 1000000) (elt := evalE (FWi n) (.call 0 (.cons (.var 0) (.cons (.var 1) (.cons (.bin .Sub (.var 2) (.cst (.int (1)))) .nil))))) (δ := [some (.r 0), some (.d (.list (ms.map .str))), some (.d d), some (.d (.int way)), some (.d (.int (j : Int))), none])
            (fun x o b P hb => by
              obtain ⟨w, o2, e2, g, P2⟩ := wi_ok hm hm2 k n o b (by omega) (by omega) P hb
              exact ⟨w, o2, e_call (vs := [.r 0, .d (.list (ms.map .str)), .d (.int ((k + 1 : Nat) : Int))]) (h1 := [o]) (subE o _ _) (call_p1 (pen_closed P) (pen_closed P2) rfl e2), g, P2⟩)
            ((List.range j).map fun (k : Nat) => .int k) o3 (b + 1 + 1 + 1) P3 (by
              rw [List.length_map, List.length_range]
              have : j * (3 * Nk (k + 1)) ≤ 3 * (3 * Nk (k + 1)) := Nat.mul_le_mul_right _ hj
              omega)
          obtain ⟨ws, o4, e4, g4, P4⟩ := lp
          rw [List.length_map, List.length_range] at g4 P4
          have nj : j * Nk (k + 1) ≤ 3 * Nk (k + 1) := Nat.mul_le_mul_right _ hj
          have nj3 : j * (3 * Nk (k + 1)) ≤ 3 * (3 * Nk (k + 1)) := Nat.mul_le_mul_right _ hj
          have run : mr_law_wish (n + 1) [.r 0, .d (.list (ms.map .str)), .d d] [o] = some (.ok (.d (.tuple [.str x, .tuple (encs ws)])), [o4]) := by
            refine body_rt (F := FWi n) (nf _ (ss_nx (δ1 := [some (.r 0), some (.d (.list (ms.map .str))), some (.d d), some (.d (.int way)), none, none]) (h1 := [o1]) ?_ (ss_nx (δ1 := [some (.r 0), some (.d (.list (ms.map .str))), some (.d d), some (.d (.int way)), some (.d (.int (j : Int))), none]) (h1 := [o2]) (s_asg (e_call (vs := [.r 0, .d (.list [.int 1, .int 2, .int 2, .int 2, .int 3, .int 0])]) (h1 := [o1]) (by kernel_rfl) (call_p1 (pen_closed P1) (pen_closed P2) rfl e2))) (ss_rt (s_ret (e_tup (vs := [.d (.str x), .d (.tuple (encs ws))]) (h1 := [o4]) (l_cons (h1 := [o3]) (e_call (vs := [.r 0, .d (.list [.str "and", .str "or"])]) (h1 := [o2]) (by kernel_rfl) (call_p1 (pen_closed P2) (pen_closed P3) rfl e3)) (l_cons (e_blt (x := .d (.list (encs ws))) (h1 := [o4]) (e_compH (h1 := [o3]) ?_ ?_ e4 (datL_map _)) rfl) l_nil)) rfl rfl))))))
            · rw [s_ifF (d := .bool false) (h1 := [o1]) eqE rfl]
              exact ss_nil
            · have : j = 0 ∨ j = 1 ∨ j = 2 ∨ j = 3 := by omega
              rcases this with rfl | rfl | rfl | rfl <;> kernel_rfl
            · rw [List.length_map, List.length_range]
              unfold small
              exact decide_eq_true (by omega)
          have gd := g4.deep
          have gn := g4.nodes
          rcases hx with rfl | rfl
          · exact ⟨.and ws, o4, run, ⟨by simp only [deepW]; omega, by simp only [nodesW]; omega, ⟨by have := g4.len; omega, g4.wide⟩, g4.marks⟩, pen_le P4 (by omega)⟩
          · exact ⟨.or ws, o4, run, ⟨by simp only [deepW]; omega, by simp only [nodesW]; omega, ⟨by have := g4.len; omega, g4.wide⟩, g4.marks⟩, pen_le P4 (by omega)⟩
end K09


set_option Elab.async false
set_option linter.all false
set_option maxRecDepth 100000
set_option maxHeartbeats 8000000
namespace K09
open PySem PySem.Spec PyProof.Rows L2 Nv
mutual
theorem parts_some : ∀ (k : Nat) (w : W), deepW w ≤ k → partsW k w = some (nodesW w : Int)
  | 0, w, h => by cases w <;> simp [deepW] at h
  | k + 1, .often m, _ => rfl
  | k + 1, .not w, h => by
    simp only [partsW]
    rw [parts_some k w (by simpa [deepW] using h)]
    simp only [nodesW]
    congr 1
    omega
  | k + 1, .and ws, h => by
    simp only [partsW]
    rw [partsL_some k ws 1 (by simpa [deepW] using h)]
    simp only [nodesW]
    congr 1
    omega
  | k + 1, .or ws, h => by
    simp only [partsW]
    rw [partsL_some k ws 1 (by simpa [deepW] using h)]
    simp only [nodesW]
    congr 1
    omega
theorem partsL_some : ∀ (k : Nat) (ws : List W) (acc : Int), deepL ws ≤ k → partsL k ws acc = some (acc + (nodesL ws : Int))
  | k, [], acc, _ => by simp [partsL, nodesL]
  | k, w :: ws, acc, h => by
    simp only [deepL] at h
    simp only [partsL]
    rw [parts_some k w (by omega)]
    simp only []
    rw [partsL_some k ws _ (by omega)]
    simp only [nodesL]
    congr 1
    omega
end
mutual
theorem names_of : ∀ {w : W}, (∀ m ∈ allM w, NameOk m) → namesW w
  | .often m, h => h m (by simp [allM])
  | .not w, h => by simp only [namesW]; exact names_of (w := w) h
  | .and ws, h => by simp only [namesW]; exact names_ofL (ws := ws) h
  | .or ws, h => by simp only [namesW]; exact names_ofL (ws := ws) h
theorem names_ofL : ∀ {ws : List W}, (∀ m ∈ allML ws, NameOk m) → namesL ws
  | [], _ => trivial
  | w :: ws, h => by
    simp only [namesL]
    exact ⟨names_of fun m hm => h m (by rw [allML]; exact List.mem_append_left _ hm), names_ofL fun m hm => h m (by rw [allML]; exact List.mem_append_right _ hm)⟩
end
theorem six_name : ∀ m ∈ six, NameOk m := by
  intro m hm
  simp only [six, List.mem_cons, List.not_mem_nil, or_false] at hm
  rcases hm with rfl | rfl | rfl | rfl | rfl | rfl <;> (unfold NameOk; kernel_rfl)
theorem other_name : NameOk "other" := by unfold NameOk; kernel_rfl
theorem nodup_sub : ∀ (l m : List Str), l.Nodup → (∀ x ∈ l, x ∈ m) → l.length ≤ m.length
  | [], m, _, _ => Nat.zero_le _
  | x :: l, m, h, s => by
    have hx : x ∈ m := s x List.mem_cons_self
    have r := nodup_sub l (m.erase x) (List.nodup_cons.mp h).2 fun y hy => (List.mem_erase_of_ne (fun e => (List.nodup_cons.mp h).1 (by rw [← e]; exact hy))).mpr (s y (List.mem_cons_of_mem _ hy))
    rw [List.length_erase_of_mem hx] at r
    have := List.length_pos_of_mem hx
    rw [List.length_cons]
    omega
/-! texts of marks -/
def shN : PyData → Bool := fun d => match bltD .repr d with
  | some (.str _) => true
  | _ => false
def chk (l : List Str) : Bool := shN (tupS l) && (cmpN .NotEq (tupS l) (tupS l) == some false)
def subs : List Str → List (List Str)
  | [] => [[]]
  | x :: xs => subs xs ++ (subs xs).map (x :: ·)
theorem subs_nil : ∀ s : List Str, [] ∈ subs s
  | [] => List.mem_singleton.mpr rfl
  | x :: xs => List.mem_append_left _ (subs_nil xs)
theorem subs_mem : ∀ (s l : List Str), s.Pairwise leS → l.Pairwise leS → l.Nodup → (∀ x ∈ l, x ∈ s) → l ∈ subs s
  | [], [], _, _, _, _ => List.mem_singleton.mpr rfl
  | [], x :: l, _, _, _, h => nomatch h x List.mem_cons_self
  | x :: xs, [], _, _, _, _ => subs_nil _
  | x :: xs, y :: l, hs, hl, hn, h => by
    have hs2 := List.pairwise_cons.mp hs
    have hl2 := List.pairwise_cons.mp hl
    have hn2 := List.nodup_cons.mp hn
    by_cases e : y = x
    · subst e
      refine List.mem_append_right _ (List.mem_map.mpr ⟨l, subs_mem xs l hs2.2 hl2.2 hn2.2 fun z hz => ?_, rfl⟩)
      rcases List.mem_cons.mp (h z (List.mem_cons_of_mem _ hz)) with rfl | hz2
      · exact absurd hz hn2.1
      · exact hz2
    · have yx : y ∈ xs := by
        rcases List.mem_cons.mp (h y List.mem_cons_self) with rfl | hz
        · exact absurd rfl e
        · exact hz
      refine List.mem_append_left _ (subs_mem xs (y :: l) hs2.2 hl hn fun z hz => ?_)
      rcases List.mem_cons.mp (h z hz) with rfl | hz2
      · rcases List.mem_cons.mp hz with rfl | hz
        · exact absurd rfl e
        · have a : leS z y := hs2.1 y yx
          have b : leS y z := hl2.1 z hz
          exact absurd (cps_inj (List.le_antisymm b a)) e
      · exact hz2
def sixS : List Str := ["a", "abcdefgh", "abcdefgi", "b", "m", "z"]
theorem chk_all : (subs sixS).all chk = true := by decide +kernel
theorem six_pw : sixS.Pairwise leS := by decide +kernel
theorem six_mem {m : Str} (h : m ∈ six) : m ∈ sixS := by
  simp only [six, sixS, List.mem_cons, List.not_mem_nil, or_false] at h ⊢
  rcases h with h | h | h | h | h | h <;> simp [h]
theorem chk_ok {l : List Str} (h1 : l.Pairwise leS) (h2 : l.Nodup) (hm : ∀ m ∈ l, m ∈ six) : (∃ s, bltD .repr (tupS l) = some (.str s)) ∧ cmpN .NotEq (tupS l) (tupS l) = some false := by
  have c := List.all_eq_true.mp chk_all l (subs_mem sixS l six_pw h1 h2 fun x hx => six_mem (hm x hx))
  unfold chk at c
  rw [Bool.and_eq_true] at c
  refine ⟨?_, by simpa using c.2⟩
  have c1 := c.1
  unfold shN at c1
  split at c1
  · rename_i s e; exact ⟨s, e⟩
  · cases c1
/-- all that a lap's wish has -/
structure Fit (ms : List Str) (w : W) : Prop where
  m : MarksOk ms
  wide : wideW w
  names : namesW w
  isw : isW w = true
  deep : deepW w ≤ 3
  nodes : nodesW w ≤ 13
  mi : marksI w = lmW w
  len : (marksI w).length ≤ 4
  mem : ∀ m ∈ marksI w, m ∈ six
theorem fit_of {ms : List Str} {k : Nat} {w : W} (hm : MarksOk ms) (hk : k ≤ 3) (g : Good ms k w) : Fit ms w := by
  have n13 : nodesW w ≤ 13 := by
    have := g.nodes
    have : Nk k ≤ 13 := by
      have : k = 0 ∨ k = 1 ∨ k = 2 ∨ k = 3 := by omega
      rcases this with rfl | rfl | rfl | rfl <;> decide
    omega
  have e := mi_lm (w := w) (by omega)
  obtain ⟨f1, f2, f3⟩ := mi_facts (w := w) (by omega)
  have sub : ∀ m ∈ marksI w, m ∈ ms := fun m h => g.marks m ((f3 m).mp h)
  have l4 : (marksI w).length ≤ 4 := Nat.le_trans (nodup_sub _ _ f1 sub) hm.2.2.2.2
  refine ⟨hm, g.wide, names_of fun m h => six_name m (hm.2.2.1 m (g.marks m h)), ?_, Nat.le_trans g.deep hk, n13, e, l4, fun m h => hm.2.2.1 m (sub m h)⟩
  unfold isW
  rw [parts_some 8 w (by have := g.deep; omega)]
  simp only [Bool.and_eq_true, decide_eq_true_eq]
  omega
mutual
theorem holds_dup (l : List Str) : ∀ w : W, holdsW (l ++ l) w = holdsW l w
  | .often m => by simp only [holdsW, List.any_append, Bool.or_self]
  | .not w => by simp only [holdsW, holds_dup l w]
  | .and ws => by simp only [holdsW]; exact (holds_dupL l ws).1
  | .or ws => by simp only [holdsW]; exact (holds_dupL l ws).2
theorem holds_dupL (l : List Str) : ∀ ws : List W, allW (l ++ l) ws = allW l ws ∧ anyW (l ++ l) ws = anyW l ws
  | [] => ⟨rfl, rfl⟩
  | w :: ws => by
    obtain ⟨a, b⟩ := holds_dupL l ws
    simp only [allW, anyW, a, b, holds_dup l w]
    trivial
end
end K09


set_option Elab.async false
set_option linter.all false
set_option maxRecDepth 100000
set_option maxHeartbeats 8000000
namespace K09
open PySem PySem.Spec PyProof.Rows L2 Nv
abbrev oth1 : List Str := ["other"]
abbrev dL (x2 x3 x4 x5 x6 x7 x8 x9 x10 : Option Vv) : Env_ := [none, some (.r 0), x2, x3, x4, x5, x6, x7, x8, x9, x10, none, none, none, none, none, none, none, none, none, none]
theorem rep_bltV {d z : PyData} {h : Hh} (e : bltD .repr d = some z) : bltV .repr (.d d) h = some z := e
theorem ne_str (s : Str) : cmpN .NotEq (.str s) (.str s) = some false := by
  show some (!(s == s)) = _
  rw [beq_self_eq_true]
  rfl
/-- the body of a lap -/
def lapB : Sds := match c_law with
  | .cons (.for_ _ _ b) _ => b
  | _ => .nil
section
variable {ms : List Str} {w : W} {o : Ob} {x2 x6 x7 x8 x9 x10 : Option Vv}
abbrev dW (ms : List Str) (w : W) (x2 x6 x7 x8 x9 x10 : Option Vv) : Env_ := dL x2 (some (.d (.list (ms.map .str)))) (some (.d (enc w))) (some (.d (encO w))) x6 x7 x8 x9 x10
theorem lap_if1 (ft : Fit ms w) : evalS F_law (atS lapB 3) (dW ms w x2 x6 x7 x8 x9 x10) [o] = some (.nx (dW ms w x2 x6 x7 x8 x9 x10) [o]) := by
  obtain ⟨f1, f2, f3⟩ := mi_facts (w := w) (by have := ft.nodes; omega)
  obtain ⟨⟨s, es⟩, ne⟩ := chk_ok f2 f1 ft.mem
  obtain ⟨o1, iw⟩ := iw_ok (enc_enc w) ft.wide ft.names
  rw [ft.isw] at iw
  obtain ⟨o2, mo⟩ := mo_ok (enc_enc w) ft.wide ft.names ft.isw
  have lm := lm_ok 30 w [] (by have := ft.deep; omega) ft.wide (by have := ft.nodes; omega)
  rw [← ft.mi] at lm
  have wO := oth_wide ft.wide
  have nO := oth_names ft.names
  obtain ⟨o3, iwO⟩ := iw_ok (encO_enc w) wO nO
  show evalS F_law (.ifs _ _ _) _ _ = _
  rw [s_ifF (d := .bool false) (h1 := [o]) ?_ rfl]
  · exact ss_nil
  · refine e_orF (h1 := [o]) (e_cmp (p := .bool true) (q := .bool true) (z := false) (h1 := [o]) (h2 := [o]) (e_call (vs := [.d (enc w)]) (h1 := [o]) (by kernel_rfl) (call_d rfl iw)) e_cst rfl) (e_orF (h1 := [o]) (e_cmp (p := .str s) (q := .str s) (z := false) (h1 := [o]) (h2 := [o]) (e_blt (x := .d (tupS (marksI w))) (h1 := [o]) (e_call (vs := [.d (enc w)]) (h1 := [o]) (by kernel_rfl) (call_d rfl mo)) (rep_bltV es)) (e_blt (x := .d (tupS (marksI w))) (h1 := [o]) (e_call (vs := [.d (enc w)]) (h1 := [o]) (by kernel_rfl) (call_d rfl lm)) (rep_bltV es)) (ne_str s)) ?_)
    have lmE : evalE F_law (.call 8 (.cons (.var 4) .nil)) (dW ms w x2 x6 x7 x8 x9 x10) [o] = some (.ok (.d (tupS (marksI w))), [o]) := e_call (vs := [.d (enc w)]) (h1 := [o]) (by kernel_rfl) (call_d rfl lm)
    have iwE : evalE F_law (.call 0 (.cons (.var 5) .nil)) (dW ms w x2 x6 x7 x8 x9 x10) [o] = some (.ok (.d (.bool (isW (othW w)))), [o]) := e_call (vs := [.d (encO w)]) (h1 := [o]) (by kernel_rfl) (call_d rfl iwO)
    cases hz : isW (othW w) with
    | true =>
      obtain ⟨o4, moO⟩ := mo_ok (encO_enc w) wO nO hz
      have mm : marksI (othW w) = marksI w := oth_mi (by have := ft.nodes; omega) (by have := (isW_deep hz).2; omega)
      rw [mm] at moO
      rw [hz] at iwE
      exact e_cmp (p := tupS (marksI w)) (q := tupS (marksI w)) (h1 := [o]) (h2 := [o]) (e_call (vs := [.d (encO w)]) (h1 := [o]) (l_cons (e_iteT (d := .bool true) (h1 := [o]) iwE rfl (e_var (v := .d (encO w)) rfl)) l_nil) (call_d rfl moO)) lmE ne
    | false =>
      rw [hz] at iwE
      exact e_cmp (p := tupS (marksI w)) (q := tupS (marksI w)) (h1 := [o]) (h2 := [o]) (e_call (vs := [.d (enc w)]) (h1 := [o]) (l_cons (e_iteF (d := .bool false) (h1 := [o]) iwE rfl (e_var (v := .d (enc w)) rfl)) l_nil) (call_d rfl mo)) lmE ne
/-- the body of the loop over the lots -/
def lotB : Sds := match atS lapB 4 with
  | .for_ _ _ b => b
  | _ => .nil
theorem rep_two (b : Bool) : ∃ s, bltD .repr (.list [.bool b, .bool b]) = some (.str s) := by
  refine ⟨(PyData.list [.bool b, .bool b]).shown, ?_⟩
  cases b <;> kernel_rfl
theorem ne_bool (b : Bool) : cmpN .NotEq (.bool b) (.bool b) = some false := by cases b <;> kernel_rfl
theorem lot_step (ft : Fit ms w) {l : List Str} (hl : l.length ≤ 5) (hn : ∀ m ∈ l, NameOk m) : evalSs F_law lotB (dW ms w x2 (some (.d (tupS l))) x7 x8 x9 x10) [o] = some (.nx (dW ms w x2 (some (.d (tupS l))) (some (.d (.bool (holdsW l w)))) x8 x9 x10) [o]) := by
  have d30 : deepW w ≤ 30 := by have := ft.deep; omega
  have lh := lh_ok (.inl rfl : Lot (tupS l) l) 30 w [] d30 ft.wide
  obtain ⟨o1, g1⟩ := gr_ok (enc_enc w) ft.wide ft.names ft.isw (.inl rfl : Lot (tupS l) l) hn (by omega)
  obtain ⟨o2, g2⟩ := gr_ok (enc_enc w) ft.wide ft.names ft.isw (.inr rfl : Lot (.list ((l ++ l).map .str)) (l ++ l)) (fun m hm => hn m ((List.mem_append.mp hm).elim id id)) (by rw [List.length_append]; omega)
  rw [holds_dup] at g2
  have wO := oth_wide ft.wide
  have nO := oth_names ft.names
  obtain ⟨o3, iwO⟩ := iw_ok (encO_enc w) wO nO
  generalize hb : holdsW l w = b at lh g1 g2
  obtain ⟨s, es⟩ := rep_two b
  refine ss_nx (δ1 := dW ms w x2 (some (.d (tupS l))) (some (.d (.bool b))) x8 x9 x10) (h1 := [o]) (s_asg (e_call (vs := [.d (enc w), .d (tupS l)]) (h1 := [o]) (by kernel_rfl) (call_d rfl lh))) (ss_nx (δ1 := dW ms w x2 (some (.d (tupS l))) (some (.d (.bool b))) x8 x9 x10) (h1 := [o]) ?_ ss_nil)
  rw [s_ifF (d := .bool false) (h1 := [o]) ?_ rfl]
  · exact ss_nil
  · refine e_orF (h1 := [o]) (e_cmp (p := .str s) (q := .str s) (z := false) (h1 := [o]) (h2 := [o]) (e_blt (x := .d (.list [.bool b, .bool b])) (h1 := [o]) (e_lst (vs := [.d (.bool b), .d (.bool b)]) (h1 := [o]) (l_cons (h1 := [o]) (e_call (vs := [.d (enc w), .d (tupS l)]) (h1 := [o]) (by kernel_rfl) (call_d rfl g1)) (l_cons (h1 := [o]) (e_call (vs := [.d (.list ((l ++ l).map .str)), .d (enc w)]) (h1 := [o]) (l_cons (h1 := [o]) (e_bin (p := .list (l.map .str)) (q := .list (l.map .str)) (h1 := [o]) (h2 := [o]) (by kernel_rfl) (by kernel_rfl) ?_) (by kernel_rfl)) (call_d rfl g2)) l_nil)) rfl rfl) (rep_bltV es)) (e_blt (x := .d (.list [.bool b, .bool b])) (h1 := [o]) (by kernel_rfl) (rep_bltV es)) (ne_str s)) ?_
    · show (if small ((l.map PyData.str).length + (l.map PyData.str).length) = true then some (PyData.list (l.map .str ++ l.map .str)) else none) = _
      rw [if_pos (by unfold small; rw [List.length_map]; exact decide_eq_true (by omega)), List.map_append]
    · have iwE : evalE F_law (.call 0 (.cons (.var 5) .nil)) (dW ms w x2 (some (.d (tupS l))) (some (.d (.bool b))) x8 x9 x10) [o] = some (.ok (.d (.bool (isW (othW w)))), [o]) := e_call (vs := [.d (encO w)]) (h1 := [o]) (by kernel_rfl) (call_d rfl iwO)
      cases hz : isW (othW w) with
      | false =>
        rw [hz] at iwE
        exact e_andF iwE
      | true =>
        rw [hz] at iwE
        obtain ⟨o4, g3⟩ := gr_ok (encO_enc w) wO nO hz (.inl rfl : Lot (tupS l) l) hn (by omega)
        rw [oth_holds, hb] at g3
        exact e_andT iwE (e_cmp (p := .bool b) (q := .bool b) (h1 := [o]) (h2 := [o]) (e_call (vs := [.d (encO w), .d (tupS l)]) (h1 := [o]) (by kernel_rfl) (call_d rfl g3)) (by kernel_rfl) (ne_bool b))
theorem lot_loop (ft : Fit ms w) : ∀ (ls : List (List Str)) (x6 x7 : Option Vv), (∀ l ∈ ls, l.length ≤ 5 ∧ ∀ m ∈ l, NameOk m) → ∃ y6 y7, forLoop (evalSs F_law lotB) (.one 6) (ls.map tupS) (dW ms w x2 x6 x7 x8 x9 x10) [o] = some (.nx (dW ms w x2 y6 y7 x8 x9 x10) [o])
  | [], x6, x7, _ => ⟨x6, x7, rfl⟩
  | l :: ls, x6, x7, h => by
    obtain ⟨a, b⟩ := h l List.mem_cons_self
    obtain ⟨y6, y7, e⟩ := lot_loop ft ls (some (.d (tupS l))) (some (.d (.bool (holdsW l w)))) fun l hl => h l (List.mem_cons_of_mem _ hl)
    exact ⟨y6, y7, for_nx (δ1 := dW ms w x2 (some (.d (tupS l))) x7 x8 x9 x10) rfl (lot_step ft a b) e⟩
theorem lap_lots (ft : Fit ms w) : ∃ y6 y7, evalS F_law (atS lapB 4) (dW ms w x2 x6 x7 x8 x9 x10) [o] = some (.nx (dW ms w x2 y6 y7 x8 x9 x10) [o]) := by
  have ml : (ms ++ oth1).length ≤ 5 := by
    have := ft.m.2.2.2.2
    rw [List.length_append, List.length_singleton]
    omega
  obtain ⟨y6, y7, e⟩ := lot_loop (o := o) (x2 := x2) (x8 := x8) (x9 := x9) (x10 := x10) ft (lotsW [[]] (ms ++ oth1)) x6 x7 fun l hl => by
    obtain ⟨a, b⟩ := lots_mem (ms ++ oth1) [[]] 0 (fun l hl => by rw [List.mem_singleton.mp hl]; exact Nat.le_refl _) l hl
    refine ⟨by omega, fun m hm => ?_⟩
    rcases b m hm with h | ⟨f, hf, h⟩
    · rcases List.mem_append.mp h with h | h
      · exact six_name m (ft.m.2.2.1 m h)
      · rw [List.mem_singleton.mp h]; exact other_name
    · rw [List.mem_singleton.mp hf] at h
      cases h
  refine ⟨y6, y7, s_for (h1 := [o]) (i_seq (d := .list ((lotsW [[]] (ms ++ oth1)).map tupS)) (e_call (vs := [.d (.list ((ms ++ oth1).map .str))]) (h1 := [o]) (l_cons (e_bin (p := .list (ms.map .str)) (q := .list [.str "other"]) (h1 := [o]) (h2 := [o]) (by kernel_rfl) (by kernel_rfl) ?_) l_nil) (call_d rfl (lo_ok (by omega)))) rfl) ?_ e⟩
  · show (if small ((ms.map PyData.str).length + 1) = true then some (PyData.list (ms.map .str ++ [.str "other"])) else none) = _
    rw [if_pos (by unfold small; rw [List.length_map]; exact decide_eq_true (by have := ft.m.2.2.2.2; omega)), List.map_append]
    rfl
  · rw [List.length_map, lots_len]
    have : 2 ^ (ms ++ oth1).length ≤ 2 ^ 5 := Nat.pow_le_pow_right (by decide) ml
    unfold small
    exact decide_eq_true (by simp only [List.length_singleton]; omega)
end
end K09


set_option Elab.async false
set_option linter.all false
set_option maxRecDepth 100000
set_option maxHeartbeats 8000000
namespace K09
open PySem PySem.Spec PyProof.Rows L2 Nv
section
variable {F : Fns} {δ : Env_} {h h1 : Hh} {e : PyData}
theorem l_consX {c : C} {cs : Cs} (a : evalE F c δ h = some (.ex e, h1)) : evalL F (.cons c cs) δ h = some (.ex e, h1) := by simp only [evalL, a, bnd]
end
/-! what is no wish, what is no lot -/
def bads : List PyData := [.none, .int 5, .list [.int 5], .str "ab", .list [.str ""], .dict [(.str "a", .int 1)]]
def nones (w : W) : List PyData := [.none, .int 5, .tuple [], .tuple [.str "often"], .tuple [.str "often", .str "A"], .tuple [.str "often", .str "a", .str "b"], .tuple [.str "never", .str "a"], .tuple [.str "not", .str "a"], .tuple [.str "and", enc w], .tuple [.str "or", .none], .tuple [.str "and", .list [.none]], .str "often"]
theorem no_wish (w : W) : ∀ d ∈ nones w, ∃ obs, m_is_wish [.d d] [] = some (.ok (.d (.bool false)), obs) := by
  intro d hd
  refine ⟨[], ?_⟩
  simp only [nones, List.mem_cons, List.not_mem_nil, or_false] at hd
  rcases hd with rfl | rfl | rfl | rfl | rfl | rfl | rfl | rfl | rfl | rfl | rfl | rfl
  · kernel_rfl
  · kernel_rfl
  · kernel_rfl
  · kernel_rfl
  · kernel_rfl
  · kernel_rfl
  · kernel_rfl
  · kernel_rfl
  · cases w with
    | often m => kernel_rfl
    | not w => kernel_rfl
    | and ws => kernel_rfl
    | or ws => kernel_rfl
  · kernel_rfl
  · kernel_rfl
  · kernel_rfl
theorem mo_no {d : PyData} {o1 : Hh} (iw : m_is_wish [.d d] [] = some (.ok (.d (.bool false)), o1)) : ∃ obs, m_marks_of [.d d] [] = some (.ex (bad "wish"), obs) := by
  obtain ⟨o2, nw⟩ := nw_no "wish" iw
  exact ⟨[], body_ex (F := F_marks_of) (ss_ex (s_retX (e_callX (l_consX (e_call (vs := [.d d]) (h1 := []) (by kernel_rfl) (call_x rfl nw))))))⟩
theorem gr_no {d e : PyData} {o1 : Hh} (iw : m_is_wish [.d d] [] = some (.ok (.d (.bool false)), o1)) : ∃ obs, m_grants [.d d, .d e] [] = some (.ex (bad "wish"), obs) := by
  obtain ⟨o2, nw⟩ := nw_no "wish" iw
  exact ⟨[], body_ex (F := F_grants) (ss_ex (s_asgX (e_call (vs := [.d d]) (h1 := []) (by kernel_rfl) (call_x rfl nw))))⟩
theorem gr_bad {w : W} (hw : wideW w) (hm : namesW w) (hi : isW w = true) : ∀ e ∈ bads, ∃ obs, m_grants [.d (enc w), .d e] [] = some (.ex (bad "lot"), obs) := by
  intro e he
  obtain ⟨o1, nw⟩ := nw_ok (.str "wish") (enc_enc w) hw hm hi
  have s1 : evalS F_grants (.asg 2 (.call 3 (.cons (.var 0) .nil))) (initS n_grants [.d (enc w), .d e]) [] = some (.nx [some (.d (enc w)), some (.d e), some (.d (enc w)), none] []) := s_asg (e_call (vs := [.d (enc w)]) (h1 := []) (by kernel_rfl) (call_d rfl nw))
  refine ⟨[], body_ex (F := F_grants) (ss_nx s1 ?_)⟩
  generalize enc w = d
  simp only [bads, List.mem_cons, List.not_mem_nil, or_false] at he
  rcases he with rfl | rfl | rfl | rfl | rfl | rfl
  · kernel_rfl
  · kernel_rfl
  · kernel_rfl
  · kernel_rfl
  · kernel_rfl
  · kernel_rfl
end K09


set_option Elab.async false
set_option linter.all false
set_option maxRecDepth 100000
set_option maxHeartbeats 8000000
namespace K09
open PySem PySem.Spec PyProof.Rows L2 Nv
theorem lap_heard {ms : List Str} {w : W} {o : Ob} {x2 x6 x7 x10 : Option Vv} (ft : Fit ms w) {a b : PyData} (ha : a ∈ bads) (hb : b ∈ nones w) :
    ∃ y10, evalSs F_law (dropS lapB 7) (dW ms w x2 x6 x7 (some (.d a)) (some (.d b)) x10) [o] = some (.nx (dW ms w x2 x6 x7 (some (.d a)) (some (.d b)) y10) [o]) := by
  obtain ⟨o1, nb⟩ := no_wish w b hb
  obtain ⟨o2, m1⟩ := mo_no nb
  obtain ⟨o3, g1⟩ := gr_no (e := a) nb
  obtain ⟨o4, g2⟩ := gr_bad ft.wide ft.names ft.isw a ha
  have c1 : cellCall (F_law.fn 2) [.d b] [o] = some (.ex (bad "wish"), [o]) := call_x (m := F_law.fn 2) rfl m1
  have c2 : cellCall (F_law.fn 1) [.d b, .d a] [o] = some (.ex (bad "wish"), [o]) := call_x (m := F_law.fn 1) rfl g1
  have c3 : cellCall (F_law.fn 1) [.d (enc w), .d a] [o] = some (.ex (bad "lot"), [o]) := call_x (m := F_law.fn 1) rfl g2
  have vw : F_law.hr (bad "wish") [o] = some (.ok (.d (.tuple [.str "value", .str "wish"])), [o]) := by kernel_rfl
  have vl : F_law.hr (bad "lot") [o] = some (.ok (.d (.tuple [.str "value", .str "lot"])), [o]) := by kernel_rfl
  refine ⟨some (.d (.list [.tuple [.str "value", .str "wish"], .tuple [.str "value", .str "wish"], .tuple [.str "value", .str "lot"]])), ss_nx (δ1 := dW ms w x2 x6 x7 (some (.d a)) (some (.d b)) (some (.d (.list [.tuple [.str "value", .str "wish"], .tuple [.str "value", .str "wish"], .tuple [.str "value", .str "lot"]])))) (h1 := [o]) (s_asg (e_lst (vs := [.d (.tuple [.str "value", .str "wish"]), .d (.tuple [.str "value", .str "wish"]), .d (.tuple [.str "value", .str "lot"])]) (h1 := [o]) (l_cons (h1 := [o]) (e_heard (r := .ex (bad "wish")) (h1 := [o]) (e_call (vs := [.d b]) (h1 := [o]) (by kernel_rfl) c1) vw) (l_cons (h1 := [o]) (e_heard (r := .ex (bad "wish")) (h1 := [o]) (e_call (vs := [.d b, .d a]) (h1 := [o]) (by kernel_rfl) c2) vw) (l_cons (h1 := [o]) (e_heard (r := .ex (bad "lot")) (h1 := [o]) (e_call (vs := [.d (enc w), .d a]) (h1 := [o]) (by kernel_rfl) c3) vl) l_nil))) rfl rfl)) (ss_nx (δ1 := dW ms w x2 x6 x7 (some (.d a)) (some (.d b)) (some (.d (.list [.tuple [.str "value", .str "wish"], .tuple [.str "value", .str "wish"], .tuple [.str "value", .str "lot"]])))) (h1 := [o]) ?_ ss_nil)⟩
  rw [s_ifF (d := .bool false) (h1 := [o]) ?_ rfl]
  · exact ss_nil
  · exact e_orF (h1 := [o]) (by kernel_rfl) (e_cmp (p := .bool false) (q := .bool false) (z := false) (h1 := [o]) (h2 := [o]) (e_call (vs := [.d b]) (h1 := [o]) (by kernel_rfl) (call_d rfl nb)) e_cst rfl)
theorem lapB_eq : lapB = .cons (atS lapB 0) (.cons (atS lapB 1) (.cons (atS lapB 2) (.cons (atS lapB 3) (.cons (atS lapB 4) (.cons (atS lapB 5) (.cons (atS lapB 6) (dropS lapB 7))))))) := by kernel_rfl
theorem lap_ok {b : Nat} {o : Ob} (P : PenIs b o) (hb : b + 60 < 1000000) (x2 x3 x4 x5 x6 x7 x8 x9 x10 : Option Vv) :
    ∃ y3 y4 y5 y6 y7 y8 y9 y10 o', evalSs F_law lapB (dL x2 x3 x4 x5 x6 x7 x8 x9 x10) [o] = some (.nx (dL x2 y3 y4 y5 y6 y7 y8 y9 y10) [o']) ∧ PenIs (b + 60) o' := by
  obtain ⟨o1, tl1, ms, e1, hm, P1⟩ := so_ok P (by omega)
  obtain ⟨z, o2, hz, e2, P2⟩ := pk_ok (ds := [.int 1, .int 2, .int 3]) P1 (by omega) (by decide) (by decide)
  have hk : ∃ k : Nat, z = .int ((k + 1 : Nat) : Int) ∧ k ≤ 2 := by
    simp only [List.mem_cons, List.not_mem_nil, or_false] at hz
    rcases hz with rfl | rfl | rfl
    · exact ⟨0, rfl, by decide⟩
    · exact ⟨1, rfl, by decide⟩
    · exact ⟨2, rfl, by decide⟩
  obtain ⟨k, rfl, hk⟩ := hk
  have nk : 3 * Nk (k + 1) ≤ 39 := by
    have : k = 0 ∨ k = 1 ∨ k = 2 := by omega
    rcases this with rfl | rfl | rfl <;> decide
  obtain ⟨w, o3, e3, g, P3⟩ := wi_ok (ms := ms) hm.2.2.2.1 hm.2.2.2.2 k 30 o2 (b + 7 + 1) (by omega) (by omega) P2 (by omega)
  have ft := fit_of hm (by omega) g
  have ot := ot_ok 30 w [] (by have := ft.deep; omega) ft.wide
  obtain ⟨y6, y7, eL⟩ := lap_lots (o := o3) (x2 := x2) (x6 := x6) (x7 := x7) (x8 := x8) (x9 := x9) (x10 := x10) ft
  obtain ⟨a, o4, ha, e4, P4⟩ := pk_ok (ds := bads) P3 (by omega) (by decide) (by decide)
  obtain ⟨d, o5, hd, e5, P5⟩ := pk_ok (ds := nones w) P4 (by omega) (by show 0 < 12; decide) (by show 12 < _; decide)
  obtain ⟨y10, e6⟩ := lap_heard (o := o5) (x2 := x2) (x6 := y6) (x7 := y7) (x10 := x10) ft ha hd
  refine ⟨some (.d (.list (ms.map .str))), some (.d (enc w)), some (.d (encO w)), y6, y7, some (.d a), some (.d d), y10, o5, ?_, pen_le P5 (by omega)⟩
  rw [lapB_eq]
  refine ss_nx (δ1 := dL x2 (some (.d (.list (ms.map .str)))) x4 x5 x6 x7 x8 x9 x10) (h1 := [o1]) (s_asg (e_call (vs := [.r 0, .d (.int 4)]) (h1 := [o]) (by kernel_rfl) (call_p1 (pen_closed P) (pen_closed P1) rfl e1))) ?_
  refine ss_nx (δ1 := dL x2 (some (.d (.list (ms.map .str)))) (some (.d (enc w))) x5 x6 x7 x8 x9 x10) (h1 := [o3]) (s_asg (e_call (vs := [.r 0, .d (.list (ms.map .str)), .d (.int ((k + 1 : Nat) : Int))]) (h1 := [o2]) (l_cons (h1 := [o1]) (e_var rfl) (l_cons (h1 := [o1]) (e_var rfl) (l_cons (h1 := [o2]) (e_call (vs := [.r 0, .d (.list [.int 1, .int 2, .int 3])]) (h1 := [o1]) (by kernel_rfl) (call_p1 (pen_closed P1) (pen_closed P2) rfl e2)) l_nil))) (call_p1 (pen_closed P2) (pen_closed P3) rfl e3))) ?_
  refine ss_nx (δ1 := dW ms w x2 x6 x7 x8 x9 x10) (h1 := [o3]) (s_asg (e_call (vs := [.d (enc w)]) (h1 := [o3]) (by kernel_rfl) (call_d rfl ot))) ?_
  refine ss_nx (lap_if1 ft) (ss_nx eL ?_)
  refine ss_nx (δ1 := dW ms w x2 y6 y7 (some (.d a)) x9 x10) (h1 := [o4]) (s_asg (e_call (vs := [.r 0, .d (.list bads)]) (h1 := [o3]) (by kernel_rfl) (call_p1 (pen_closed P3) (pen_closed P4) rfl e4))) ?_
  refine ss_nx (δ1 := dW ms w x2 y6 y7 (some (.d a)) (some (.d d)) x10) (h1 := [o5]) (s_asg (e_call (vs := [.r 0, .d (.list (nones w))]) (h1 := [o4]) (by kernel_rfl) (call_p1 (pen_closed P4) (pen_closed P5) rfl e5))) ?_
  exact e6
theorem law_tail (o : Ob) (x2 x3 x4 x5 x6 x7 x8 x9 x10 : Option Vv) : evalSs F_law (dropS c_law 1) (dL x2 x3 x4 x5 x6 x7 x8 x9 x10) [o] = some (.rt (.d (.bool true)) [o]) := by kernel_rfl
theorem law_laps : ∀ (xs : List PyData) (b : Nat) (o : Ob) (x2 x3 x4 x5 x6 x7 x8 x9 x10 : Option Vv), PenIs b o → b + 60 * xs.length < 1000000 →
    ∃ y2 y3 y4 y5 y6 y7 y8 y9 y10 o', forLoop (evalSs F_law lapB) (.one 2) xs (dL x2 x3 x4 x5 x6 x7 x8 x9 x10) [o] = some (.nx (dL y2 y3 y4 y5 y6 y7 y8 y9 y10) [o'])
  | [], b, o, x2, x3, x4, x5, x6, x7, x8, x9, x10, P, _ => ⟨x2, x3, x4, x5, x6, x7, x8, x9, x10, o, rfl⟩
  | x :: xs, b, o, x2, x3, x4, x5, x6, x7, x8, x9, x10, P, hb => by
    rw [List.length_cons] at hb
    obtain ⟨y3, y4, y5, y6, y7, y8, y9, y10, o1, e1, P1⟩ := lap_ok P (by omega) (some (.d x)) x3 x4 x5 x6 x7 x8 x9 x10
    obtain ⟨z2, z3, z4, z5, z6, z7, z8, z9, z10, o2, e2⟩ := law_laps xs (b + 60) o1 (some (.d x)) y3 y4 y5 y6 y7 y8 y9 y10 P1 (by omega)
    exact ⟨z2, z3, z4, z5, z6, z7, z8, z9, z10, o2, for_nx (δ1 := dL (some (.d x)) x3 x4 x5 x6 x7 x8 x9 x10) rfl e1 e2⟩
theorem plain (ns : List Int) (h1 : ns.length ≤ 63) (h2 : ∀ z ∈ ns, Builtin.Int.intBits z ≤ 1048576) : ∃ h', evalSs F_law c_law (lawD n_law 1) [pen0 ns] = some (.rt (.d (.bool true)) h') := by
  obtain ⟨y2, y3, y4, y5, y6, y7, y8, y9, y10, o', e⟩ := law_laps [.int 0, .int 1, .int 2, .int 3] 0 (pen0 ns) none none none none none none none none none (pen_first ns) (by decide)
  refine ⟨[o'], ss_nx (δ1 := dL y2 y3 y4 y5 y6 y7 y8 y9 y10) (h1 := [o']) ?_ (law_tail o' y2 y3 y4 y5 y6 y7 y8 y9 y10)⟩
  exact s_for (xs := [.int 0, .int 1, .int 2, .int 3]) (h1 := [pen0 ns]) (by kernel_rfl) rfl e
end K09


set_option Elab.async false
set_option linter.all false
set_option maxRecDepth 100000
set_option maxHeartbeats 8000000
namespace K09
open PySem PySem.Spec PyProof.Rows L2 Nv
theorem penTxt : PenTxt s_law_pen := ⟨⟨rfl, rfl, rfl, by decide +kernel, rfl, by decide +kernel, by decide +kernel⟩, rfl, _, _, _, _, _, _, _, _, _, _, _, _, _, _, _, _, _, rfl, blkOk_by (by decide +kernel), rfl, rfl⟩
section
variable {P : Program} {w : World} {K : PySem.W.Frag} {mg : Str → Option Value} {base : Heap} {Tt : List (Addr × Str)}
theorem md_law_heard (T : Txt P K mg) : Md g_law_heard F_law_heard P w K Tt mg base 36 :=
  {
    bl := bl_of T.bl (by decide +kernel)
    gl := fun i x d h => by simp [g_law_heard] at h
    fn := fun i e h => by simp [g_law_heard] at h
    at_ := fun f cE cI h => by
      simp only [g_law_heard, List.mem_cons, List.not_mem_nil, or_false, Prod.mk.injEq] at h
      rcases h with ⟨rfl, rfl, rfl⟩ | ⟨rfl, rfl, rfl⟩ | ⟨rfl, rfl, rfl⟩ | ⟨rfl, rfl, rfl⟩ | ⟨rfl, rfl, rfl⟩ | ⟨rfl, rfl, rfl⟩
      · refine at_err (P := P) (mg := mg) fun x hx => ?_
        simp only [List.mem_cons, List.not_mem_nil, or_false] at hx
        rcases hx with rfl | rfl | rfl | rfl | rfl
        · exact ⟨_, _, _, T.e_BadValue, by decide +kernel⟩
        · exact ⟨_, _, _, T.e_BadNumber, by decide +kernel⟩
        · exact ⟨_, _, _, T.e_BadBoard, by decide +kernel⟩
        · exact ⟨_, _, _, T.e_BadMove, by decide +kernel⟩
        · exact ⟨_, _, _, T.e_Misfit, by decide +kernel⟩
      · refine at_err (P := P) (mg := mg) fun x hx => ?_
        simp only [List.mem_cons, List.not_mem_nil, or_false] at hx
        subst hx
        · exact ⟨_, _, _, T.e_Nothing, by decide +kernel⟩
      · refine at_err (P := P) (mg := mg) fun x hx => ?_
        simp only [List.mem_cons, List.not_mem_nil, or_false] at hx
        subst hx
        · exact ⟨_, _, _, T.e_BadMove, by decide +kernel⟩
      · refine at_err (P := P) (mg := mg) fun x hx => ?_
        simp only [List.mem_cons, List.not_mem_nil, or_false] at hx
        subst hx
        · exact ⟨_, _, _, T.e_BadMove, by decide +kernel⟩
      · refine at_err (P := P) (mg := mg) fun x hx => ?_
        simp only [List.mem_cons, List.not_mem_nil, or_false] at hx
        subst hx
        · exact ⟨_, _, _, T.e_TooMany, by decide +kernel⟩
      · refine at_err (P := P) (mg := mg) fun x hx => ?_
        simp only [List.mem_cons, List.not_mem_nil, or_false] at hx
        subst hx
        · exact ⟨_, _, _, T.e_TooMany, by decide +kernel⟩
    ic := fun t tE tI tO h => by
      simp only [g_law_heard, List.mem_cons, List.not_mem_nil, or_false, Prod.mk.injEq] at h
      rcases h with ⟨rfl, rfl, rfl, rfl⟩ | ⟨rfl, rfl, rfl, rfl⟩ | ⟨rfl, rfl, rfl, rfl⟩ | ⟨rfl, rfl, rfl, rfl⟩ | ⟨rfl, rfl, rfl, rfl⟩ | ⟨rfl, rfl, rfl, rfl⟩ | ⟨rfl, rfl, rfl, rfl⟩
      · obtain ⟨C, h1, h2⟩ := ty_err T.e_Misfit
        exact ic_err T.kit (by decide +kernel) h1 h2 (all_err T) (look_tbl (by decide +kernel))
      · obtain ⟨C, h1, h2⟩ := ty_err T.e_BadBoard
        exact ic_err T.kit (by decide +kernel) h1 h2 (all_err T) (look_tbl (by decide +kernel))
      · obtain ⟨C, h1, h2⟩ := ty_err T.e_BadNumber
        exact ic_err T.kit (by decide +kernel) h1 h2 (all_err T) (look_tbl (by decide +kernel))
      · obtain ⟨C, h1, h2⟩ := ty_err T.e_BadValue
        exact ic_err T.kit (by decide +kernel) h1 h2 (all_err T) (look_tbl (by decide +kernel))
      · obtain ⟨C, h1, h2⟩ := ty_err T.e_Nothing
        exact ic_err T.kit (by decide +kernel) h1 h2 (all_err T) (look_tbl (by decide +kernel))
      · obtain ⟨C, h1, h2⟩ := ty_err T.e_BadMove
        exact ic_err T.kit (by decide +kernel) h1 h2 (all_err T) (look_tbl (by decide +kernel))
      · obtain ⟨C, h1, h2⟩ := ty_err T.e_TooMany
        exact ic_err T.kit (by decide +kernel) h1 h2 (all_err T) (look_tbl (by decide +kernel)) }
theorem heard (T : Txt P K mg) : HeardF P w K Tt mg base 36 "_law_heard" m_law_heard := by
  obtain ⟨CB, nB, mB⟩ := T.fe
  refine heard_f (XS := xsE) (ic := 1) (ie := 2) (N := n_law_heard) (F := F_law_heard) (rest := (defBody s_law_heard).drop 2) T.d_law_heard sc_law_heard rfl (fun _ _ _ _ _ _ us ws hu hw => match us, ws, hu, hw with | [u0], [], _, _ => rfl) rfl rfl rfl (by decide) (by decide) (by decide) rfl rfl rfl rfl rfl rfl rfl rfl rfl mB (exm_at T.exm nB) k_law_heard (md_law_heard T) rfl (fun e h o q => ?_) (fun _ => rfl) (fun _ => rfl) (fun _ => rfl)
  unfold m_law_heard at q
  split at q
  · rename_i z
    refine ⟨?_, q⟩
    unfold errIn at z
    split at z
    · exact .inl rfl
    · exact .inr ⟨_, _, rfl, of_decide_eq_true z⟩
    · cases z
  · cases q
theorem md_law (T : Txt P K mg) : Md g_law F_law P w K Tt mg base 36 :=
  {
    bl := bl_of T.bl (by decide +kernel)
    gl := fun i x d h => by simp [g_law] at h
    fn := fun i e h => match i, h with
      | 0, h => by cases h; exact fnF_of T.d_is_wish (fg_is_wish T) (by decide) (fun _ _ _ _ _ _ us ws hu hw => match us, ws, hu, hw with | [u0], [], _, _ => rfl) (fun _ _ _ h => h)
      | 1, h => by cases h; exact fnF_of T.d_grants (fg_grants T) (by decide) (fun _ _ _ _ _ _ us ws hu hw => match us, ws, hu, hw with | [u0, u1], [], _, _ => rfl) (fun _ _ _ h => h)
      | 2, h => by cases h; exact fnF_of T.d_marks_of (fg_marks_of T) (by decide) (fun _ _ _ _ _ _ us ws hu hw => match us, ws, hu, hw with | [u0], [], _, _ => rfl) (fun _ _ _ h => h)
      | 3, h => by cases h; exact fnF_of T.d_law_deep (fg_law_deep T) (by decide) (fun _ _ _ _ _ _ us ws hu hw => match us, ws, hu, hw with | [u0], [], _, _ => rfl) (fun _ _ _ h => h)
      | 4, h => by cases h; exact fnF_of T.d_law_pick (fg_law_pick T) (by decide) (fun _ _ _ _ _ _ us ws hu hw => match us, ws, hu, hw with | [u0, u1], [], _, _ => rfl) (fun _ _ _ h => h)
      | 5, h => by cases h; exact fnF_of T.d_law_lots (fg_law_lots T) (by decide) (fun _ _ _ _ _ _ us ws hu hw => match us, ws, hu, hw with | [u0], [], _, _ => rfl) (fun _ _ _ h => h)
      | 6, h => by cases h; exact fnF_of T.d_grants (fg_grants T) (by decide) (fun _ _ _ _ _ _ us ws hu hw => match us, ws, hu, hw with | [], [w0, w1], _, _ => rfl) (fun _ _ _ h => h)
      | 7, h => by cases h; exact fnF_of T.d_law_holds (fg_law_holds T) (by decide) (fun _ _ _ _ _ _ us ws hu hw => match us, ws, hu, hw with | [u0, u1], [], _, _ => rfl) (fun _ _ _ h => h)
      | 8, h => by cases h; exact fnF_of T.d_law_marks (fg_law_marks T) (by decide) (fun _ _ _ _ _ _ us ws hu hw => match us, ws, hu, hw with | [u0], [], _, _ => rfl) (fun _ _ _ h => h)
      | 9, h => by cases h; exact fnF_of T.d_marks_of (fg_marks_of T) (by decide) (fun _ _ _ _ _ _ us ws hu hw => match us, ws, hu, hw with | [], [w0], _, _ => rfl) (fun _ _ _ h => h)
      | 10, h => by cases h; exact fnF_of T.d_law_otherwise (fg_law_otherwise T) (by decide) (fun _ _ _ _ _ _ us ws hu hw => match us, ws, hu, hw with | [u0], [], _, _ => rfl) (fun _ _ _ h => h)
      | 11, h => by cases h; exact fnF_of T.d_law_wish (fg_law_wish T) (by decide) (fun _ _ _ _ _ _ us ws hu hw => match us, ws, hu, hw with | [u0, u1, u2], [], _, _ => rfl) (fun _ _ _ h => h)
      | 12, h => by cases h; exact fnF_of T.d_law_some_marks (fg_law_some_marks T) (by decide) (fun _ _ _ _ _ _ us ws hu hw => match us, ws, hu, hw with | [u0, u1], [], _, _ => rfl) (fun _ _ _ h => h)
      | n + 13, h => by simp [g_law] at h
    hr := fun x h => by cases h; exact heard T }
end
def es : List ErD := [⟨"BadValue", "BadValue.__init__", ["part"], s_BadValue⟩, ⟨"BadNumber", "BadNumber.__init__", ["part"], s_BadNumber⟩, ⟨"BadBoard", "BadBoard.__init__", ["part"], s_BadBoard⟩, ⟨"BadMove", "BadMove.__init__", ["state", "index", "part"], s_BadMove⟩, ⟨"Misfit", "Misfit.__init__", ["part"], s_Misfit⟩, ⟨"TooMany", "TooMany.__init__", ["what", "most"], s_TooMany⟩, ⟨"Nothing", "Nothing.__init__", ["word"], s_Nothing⟩]
def fnH : List He.DefD := [⟨("is_listed", none), "is_listed", "is_listed", defArgs s_is_listed, defBody s_is_listed, defScope s_is_listed, [], []⟩,
  ⟨("is_row", none), "is_row", "is_row", defArgs s_is_row, defBody s_is_row, defScope s_is_row, [], []⟩,
  ⟨("is_name", none), "is_name", "is_name", defArgs s_is_name, defBody s_is_name, defScope s_is_name, [], []⟩,
  ⟨("fixed", none), "fixed", "fixed", defArgs s_fixed, defBody s_fixed, defScope s_fixed, [], []⟩,
  ⟨("within_wish", none), "within_wish", "within_wish", defArgs s_within_wish, defBody s_within_wish, defScope s_within_wish, [], []⟩,
  ⟨("marks_in", none), "marks_in", "marks_in", defArgs s_marks_in, defBody s_marks_in, defScope s_marks_in, [], []⟩,
  ⟨("holds", none), "holds", "holds", defArgs s_holds, defBody s_holds, defScope s_holds, [], []⟩,
  ⟨("parts_of", none), "parts_of", "parts_of", defArgs s_parts_of, defBody s_parts_of, defScope s_parts_of, [], []⟩,
  ⟨("is_wish", none), "is_wish", "is_wish", defArgs s_is_wish, defBody s_is_wish, defScope s_is_wish, [], []⟩,
  ⟨("need_wish", none), "need_wish", "need_wish", defArgs s_need_wish, defBody s_need_wish, defScope s_need_wish, [.str "wish"], []⟩,
  ⟨("marks_of", none), "marks_of", "marks_of", defArgs s_marks_of, defBody s_marks_of, defScope s_marks_of, [], []⟩,
  ⟨("grants", none), "grants", "grants", defArgs s_grants, defBody s_grants, defScope s_grants, [], []⟩,
  ⟨("_law_draw", none), "_law_draw", "_law_draw", defArgs s_law_draw, defBody s_law_draw, defScope s_law_draw, [], []⟩,
  ⟨("_law_pick", none), "_law_pick", "_law_pick", defArgs s_law_pick, defBody s_law_pick, defScope s_law_pick, [], []⟩,
  ⟨("_law_mixed", none), "_law_mixed", "_law_mixed", defArgs s_law_mixed, defBody s_law_mixed, defScope s_law_mixed, [], []⟩,
  ⟨("_law_sort_marks", none), "_law_sort_marks", "_law_sort_marks", defArgs s_law_sort_marks, defBody s_law_sort_marks, defScope s_law_sort_marks, [], []⟩,
  ⟨("_law_some_marks", none), "_law_some_marks", "_law_some_marks", defArgs s_law_some_marks, defBody s_law_some_marks, defScope s_law_some_marks, [], []⟩,
  ⟨("_law_wish", none), "_law_wish", "_law_wish", defArgs s_law_wish, defBody s_law_wish, defScope s_law_wish, [], []⟩,
  ⟨("_law_holds", none), "_law_holds", "_law_holds", defArgs s_law_holds, defBody s_law_holds, defScope s_law_holds, [], []⟩,
  ⟨("_law_marks", none), "_law_marks", "_law_marks", defArgs s_law_marks, defBody s_law_marks, defScope s_law_marks, [], []⟩,
  ⟨("_law_lots", none), "_law_lots", "_law_lots", defArgs s_law_lots, defBody s_law_lots, defScope s_law_lots, [], []⟩,
  ⟨("_law_otherwise", none), "_law_otherwise", "_law_otherwise", defArgs s_law_otherwise, defBody s_law_otherwise, defScope s_law_otherwise, [], []⟩,
  ⟨("_law_deep", none), "_law_deep", "_law_deep", defArgs s_law_deep, defBody s_law_deep, defScope s_law_deep, [], []⟩,
  ⟨("_law_heard", none), "_law_heard", "_law_heard", defArgs s_law_heard, defBody s_law_heard, defScope s_law_heard, [], []⟩,
  ⟨("_law_pen", none), "_law_pen", "_law_pen", defArgs s_law_pen, defBody s_law_pen, defScope s_law_pen, [], []⟩,
  ⟨("law", none), "law", "law", defArgs s_law, defBody s_law, defScope s_law, [], []⟩]
def faG : List He.Fa := [.glo "is_listed", .glo "is_row", .glo "is_name", .glo "fixed", .glo "within_wish", .glo "marks_in", .glo "holds", .glo "parts_of", .glo "is_wish", .glo "need_wish", .glo "marks_of", .glo "grants", .glo "_law_draw", .glo "_law_pick", .glo "_law_mixed", .glo "_law_sort_marks", .glo "_law_some_marks", .glo "_law_wish", .glo "_law_holds", .glo "_law_marks", .glo "_law_lots", .glo "_law_otherwise", .glo "_law_deep", .glo "_law_heard", .glo "_law_pen", .glo "law", .glo "ForeverError"]
def faC : List He.Fa := [.str "AND" "and", .str "LETTERS" "abcdefghijklmnopqrstuvwxyz", .int "MOST_DEEP" (8), .int "MOST_MARKS" (6), .int "MOST_PARTS" (40), .int "MOST_ROWS" (8), .str "NOT" "not", .str "OFTEN" "often", .str "OR" "or"]
def faH : List He.Fa := faG ++ (faC ++ BL.map .free)
def exH (K : PySem.W.Frag) : Bool := kitB K xsE tsE tblE && (exmB K xsE "ForeverError" && es.all fun e => errX (PySem.Challenge.pw_foreverkept_k09_whole_wishes_granted_by.main.file : Str) K e)
def tfH : List He.Defn := [("law", none)]
theorem txt_of {w : World} {K : PySem.W.Frag} {h : Heap} {mg : Str → Option Value} (X : K.In h) (G : h.Ns mainGlobals mg) (c : SaysN faH fnH es tfH exH w h K) : Txt PySem.Challenge.pw_foreverkept_k09_whole_wishes_granted_by K mg := by
  have ex := c.x.more
  simp only [exH, Bool.and_eq_true] at ex
  obtain ⟨x1, x2, x3⟩ := ex
  have er : ∀ e ∈ es, ErrF PySem.Challenge.pw_foreverkept_k09_whole_wishes_granted_by K mg e.x e.q e.names e.st := fun e he => errF_ok X G (by decide +kernel) (List.all_eq_true.mp x3 e he) (c.e e he)
  have glo : ∀ f ∈ faG, f ∈ faH := fun f hf => List.mem_append_left _ hf
  have con : ∀ f ∈ faC, f ∈ faH := fun f hf => List.mem_append_right _ (List.mem_append_left _ hf)
  exact {
    bl := fun y hy => He.free_ok X G (He.SaysD.facts c.x.t.d (List.mem_append_right _ (List.mem_append_right _ (List.mem_map.mpr ⟨y, hy, rfl⟩))))
    c_AND := by
      obtain ⟨t, e⟩ := He.str_ok X G (He.SaysD.facts c.x.t.d (con _ (List.mem_of_getElem? (i := 0) rfl)))
      exact gl_str e
    c_LETTERS := by
      obtain ⟨t, e⟩ := He.str_ok X G (He.SaysD.facts c.x.t.d (con _ (List.mem_of_getElem? (i := 1) rfl)))
      exact gl_str e
    c_MOST_DEEP := by
      obtain ⟨t, e⟩ := He.int_ok X G (He.SaysD.facts c.x.t.d (con _ (List.mem_of_getElem? (i := 2) rfl)))
      exact gl_int e
    c_MOST_MARKS := by
      obtain ⟨t, e⟩ := He.int_ok X G (He.SaysD.facts c.x.t.d (con _ (List.mem_of_getElem? (i := 3) rfl)))
      exact gl_int e
    c_MOST_PARTS := by
      obtain ⟨t, e⟩ := He.int_ok X G (He.SaysD.facts c.x.t.d (con _ (List.mem_of_getElem? (i := 4) rfl)))
      exact gl_int e
    c_MOST_ROWS := by
      obtain ⟨t, e⟩ := He.int_ok X G (He.SaysD.facts c.x.t.d (con _ (List.mem_of_getElem? (i := 5) rfl)))
      exact gl_int e
    c_NOT := by
      obtain ⟨t, e⟩ := He.str_ok X G (He.SaysD.facts c.x.t.d (con _ (List.mem_of_getElem? (i := 6) rfl)))
      exact gl_str e
    c_OFTEN := by
      obtain ⟨t, e⟩ := He.str_ok X G (He.SaysD.facts c.x.t.d (con _ (List.mem_of_getElem? (i := 7) rfl)))
      exact gl_str e
    c_OR := by
      obtain ⟨t, e⟩ := He.str_ok X G (He.SaysD.facts c.x.t.d (con _ (List.mem_of_getElem? (i := 8) rfl)))
      exact gl_str e
    e_BadValue := er _ (List.mem_of_getElem? (i := 0) rfl)
    e_BadNumber := er _ (List.mem_of_getElem? (i := 1) rfl)
    e_BadBoard := er _ (List.mem_of_getElem? (i := 2) rfl)
    e_BadMove := er _ (List.mem_of_getElem? (i := 3) rfl)
    e_Misfit := er _ (List.mem_of_getElem? (i := 4) rfl)
    e_TooMany := er _ (List.mem_of_getElem? (i := 5) rfl)
    e_Nothing := er _ (List.mem_of_getElem? (i := 6) rfl)
    kit := x1
    exm := x2
    fe := ⟨_, He.eqO_ok (He.SaysD.facts c.x.t.d (f := .glo "ForeverError") (glo _ (List.mem_of_getElem? (i := 26) rfl))), He.glo_ok X G (He.SaysD.facts c.x.t.d (f := .glo "ForeverError") (glo _ (List.mem_of_getElem? (i := 26) rfl)))⟩
    d_is_listed := df_says (dfl := []) X G c.x.t (glo _ (List.mem_of_getElem? (i := 0) rfl)) (List.mem_of_getElem? (i := 0) rfl)
    d_is_row := df_says (dfl := []) X G c.x.t (glo _ (List.mem_of_getElem? (i := 1) rfl)) (List.mem_of_getElem? (i := 1) rfl)
    d_is_name := df_says (dfl := []) X G c.x.t (glo _ (List.mem_of_getElem? (i := 2) rfl)) (List.mem_of_getElem? (i := 2) rfl)
    d_fixed := df_says (dfl := []) X G c.x.t (glo _ (List.mem_of_getElem? (i := 3) rfl)) (List.mem_of_getElem? (i := 3) rfl)
    d_within_wish := df_says (dfl := []) X G c.x.t (glo _ (List.mem_of_getElem? (i := 4) rfl)) (List.mem_of_getElem? (i := 4) rfl)
    d_marks_in := df_says (dfl := []) X G c.x.t (glo _ (List.mem_of_getElem? (i := 5) rfl)) (List.mem_of_getElem? (i := 5) rfl)
    d_holds := df_says (dfl := []) X G c.x.t (glo _ (List.mem_of_getElem? (i := 6) rfl)) (List.mem_of_getElem? (i := 6) rfl)
    d_parts_of := df_says (dfl := []) X G c.x.t (glo _ (List.mem_of_getElem? (i := 7) rfl)) (List.mem_of_getElem? (i := 7) rfl)
    d_is_wish := df_says (dfl := []) X G c.x.t (glo _ (List.mem_of_getElem? (i := 8) rfl)) (List.mem_of_getElem? (i := 8) rfl)
    d_need_wish := df_says (dfl := [.str "wish"]) X G c.x.t (glo _ (List.mem_of_getElem? (i := 9) rfl)) (List.mem_of_getElem? (i := 9) rfl)
    d_marks_of := df_says (dfl := []) X G c.x.t (glo _ (List.mem_of_getElem? (i := 10) rfl)) (List.mem_of_getElem? (i := 10) rfl)
    d_grants := df_says (dfl := []) X G c.x.t (glo _ (List.mem_of_getElem? (i := 11) rfl)) (List.mem_of_getElem? (i := 11) rfl)
    d_law_draw := df_says (dfl := []) X G c.x.t (glo _ (List.mem_of_getElem? (i := 12) rfl)) (List.mem_of_getElem? (i := 12) rfl)
    d_law_pick := df_says (dfl := []) X G c.x.t (glo _ (List.mem_of_getElem? (i := 13) rfl)) (List.mem_of_getElem? (i := 13) rfl)
    d_law_mixed := df_says (dfl := []) X G c.x.t (glo _ (List.mem_of_getElem? (i := 14) rfl)) (List.mem_of_getElem? (i := 14) rfl)
    d_law_sort_marks := df_says (dfl := []) X G c.x.t (glo _ (List.mem_of_getElem? (i := 15) rfl)) (List.mem_of_getElem? (i := 15) rfl)
    d_law_some_marks := df_says (dfl := []) X G c.x.t (glo _ (List.mem_of_getElem? (i := 16) rfl)) (List.mem_of_getElem? (i := 16) rfl)
    d_law_wish := df_says (dfl := []) X G c.x.t (glo _ (List.mem_of_getElem? (i := 17) rfl)) (List.mem_of_getElem? (i := 17) rfl)
    d_law_holds := df_says (dfl := []) X G c.x.t (glo _ (List.mem_of_getElem? (i := 18) rfl)) (List.mem_of_getElem? (i := 18) rfl)
    d_law_marks := df_says (dfl := []) X G c.x.t (glo _ (List.mem_of_getElem? (i := 19) rfl)) (List.mem_of_getElem? (i := 19) rfl)
    d_law_lots := df_says (dfl := []) X G c.x.t (glo _ (List.mem_of_getElem? (i := 20) rfl)) (List.mem_of_getElem? (i := 20) rfl)
    d_law_otherwise := df_says (dfl := []) X G c.x.t (glo _ (List.mem_of_getElem? (i := 21) rfl)) (List.mem_of_getElem? (i := 21) rfl)
    d_law_deep := df_says (dfl := []) X G c.x.t (glo _ (List.mem_of_getElem? (i := 22) rfl)) (List.mem_of_getElem? (i := 22) rfl)
    d_law_heard := df_says (dfl := []) X G c.x.t (glo _ (List.mem_of_getElem? (i := 23) rfl)) (List.mem_of_getElem? (i := 23) rfl)
    d_law_pen := df_says (dfl := []) X G c.x.t (glo _ (List.mem_of_getElem? (i := 24) rfl)) (List.mem_of_getElem? (i := 24) rfl)
  }
theorem facts {w : World} {K : PySem.W.Frag} {h : Heap} {mg : Str → Option Value} {fa : Addr} (X : K.In h) (G : h.Ns mainGlobals mg) (hfa : mg "law" = some (.ref fa)) (c : SaysN faH fnH es tfH exH w h K) :
    ∃ (K : PySem.W.Frag) (fd : FuncData) (cs : List (Addr × Addr)) (sp : Sp), K.In h ∧ (∀ p ∈ cs, h.get? p.2 = some { cls := .none, data := .fields #[] }) ∧ (∀ p ∈ cs, K.lookup p.2 = none) ∧ (∀ p ∈ cs, PySem.W.CodeHd h p.1 p.2) ∧ (∀ (s : Shared) (u : Value), BindsTo s fd ⟨[u], []⟩ [(("script" : Str), u)]) ∧
      (∀ (H : Hp) (a : Addr) (ns : List Int), ns.length ≤ 63 → (∀ z ∈ ns, Builtin.Int.intBits z ≤ 1048576) → OnlyT (cs.map (·.2)) H → SqL K H a (ns.map V.int) → sp [.ref a] H (fun v _ => v = .bl true) fun _ _ _ => False) ∧
      ∀ base : Heap, K.In base → base.Ns mainGlobals mg → (∀ p ∈ cs, LamX.TabB base mg p.1 p.2) → FG PySem.Challenge.pw_foreverkept_k09_whole_wishes_granted_by w K mg base (L2.CX PySem.Challenge.pw_foreverkept_k09_whole_wishes_granted_by w) 39 fa fd [("script" : Str)] sp := by
  have T := txt_of X G c
  have hf : He.Fa.glo "law" ∈ faH := List.mem_append_left _ (List.mem_of_getElem? (i := 25) rfl)
  obtain ⟨f, fd, mf, Fu⟩ := df_says (x := "law") (st := s_law) (dfl := []) X G c.x.t hf (List.mem_of_getElem? (i := 25) rfl)
  have e := hfa.symm.trans mf
  cases e
  have eg := (He.glo_ok X G (He.SaysD.facts c.x.t.d hf)).symm.trans mf
  have ef : He.ga K "law" = fa := by cases eg; rfl
  have kp := Fu.kp
  obtain ⟨oc, od, dV, kV, doc, pm, an, cdv, ct, osl, rfl, lk, hcd, hdv⟩ := Fu.ex
  have dn : dV = .none := by
    rcases hdv with ⟨_, e⟩ | ⟨nn, _⟩
    · exact e
    · exact absurd rfl nn
  subst dn
  obtain ⟨cA, rfl⟩ := He.codeIn_ref hcd
  have eA : He.codeOf K ("law", none) = cA := He.codeOf_eq (p := ("law", none)) (by show K.lookup (He.ga K "law") = _; rw [ef]; exact lk) rfl
  have mem : ((("law", none) : He.Defn)) ∈ tfH := List.mem_singleton.mpr rfl
  refine ⟨K, PySem.W.fnOf "law" "law" (defArgs s_law) (defBody s_law) (defScope s_law) .none kV doc pm an (.ref cA) ct, [He.cT K ("law", none)], spLaw K [(He.cT K ("law", none)).2], X, fun p hp => ?_, fun p hp => ?_, fun p hp => ?_, fun s u => .of_eq rfl, fun H a ns h1 h2 h3 h4 => ⟨a, ns, rfl, h4, h1, h2, h3, fun _ => rfl⟩, fun base hb hg hT => ?_⟩
  · rw [List.mem_singleton.mp hp]; exact c.x.empty _ mem
  · rw [List.mem_singleton.mp hp]; exact c.x.out _ mem
  · rw [List.mem_singleton.mp hp]; exact PySem.W.codeHd_of_K X (c.x.hd _ mem)
  · exact fg_lawT (T := [((He.cT K ("law", none)).2, (("law" : Str) ++ ".<locals>.") ++ "<lambda>")]) (N := n_law) (ip := 1) (rest := (defBody s_law).drop 1) (F := F_law) lk hcd kp sc_law rfl rfl rfl rfl rfl rfl T.d_law_pen penTxt (fun _ _ _ _ _ _ _ => rfl) (T.bl _ (by decide +kernel)) (fun _ => rfl) k_law (md_law T) (fun n _ => ⟨(He.cT K ("law", none)).2, by
      have z := hT _ (List.mem_singleton.mpr rfl)
      have z1 : (He.cT K ("law", none)).1 = cA := eA
      rw [z1] at z
      exact z, List.mem_singleton.mpr rfl, fun p hp _ => by rw [List.mem_singleton.mp hp]⟩) plain (by decide)
abbrev R : PySem.W.OpenRow := PySem.W.OpenLaw.row PySem.Challenge.rw_foreverkept_k09_whole_wishes_granted_by
abbrev hk : PySem.W.Hook := hookN 4 faH fnH es tfH exH
def ob (s : PySem.W.SharedT) : AlN := obsN 4 faH fnH es tfH exH (HandSHeadRun.getT s)
theorem ob_eq (s : PySem.W.SharedT) : ob s = hk.obs s.abs := obsN_eq (HandSHeadRun.getT_eq s)
def loose : List Str := (["LETTERS", "is_listed", "is_row", "is_name", "ForeverError", "BadValue", "BadNumber", "BadBoard", "BadMove", "Misfit", "TooMany", "Nothing", "fixed", "OFTEN", "NOT", "AND", "OR", "MOST_DEEP", "MOST_ROWS", "MOST_PARTS", "MOST_MARKS", "within_wish", "marks_in", "holds", "parts_of", "is_wish", "need_wish", "marks_of", "grants", "_law_pen"] : List Str) ++ (["_law_draw", "_law_pick", "_law_mixed", "_law_sort_marks", "_law_some_marks", "_law_wish", "_law_holds", "_law_marks", "_law_lots", "_law_heard", "_law_otherwise", "_law_deep"] : List Str)
set_option maxHeartbeats 0 in
theorem run (w : World) : HandSHeadRun.RunEq R (PySem.W.view R.prog [47]) hk ob 20000 loose w := by
  intro os
  kernel_rfl
end K09
open PySem PySem.W PySem.Calls PyProof.Rows
set_option maxHeartbeats 0 in
theorem PySem.Challenge.cw_foreverkept_k09_whole_wishes_granted_by_holds : PySem.Challenge.rw_foreverkept_k09_whole_wishes_granted_by.Holds := by
  w_on; o_law
  refine HandSHeadRun.head_any (r := OpenLaw.row PySem.Challenge.rw_foreverkept_k09_whole_wishes_granted_by) (q := view (OpenLaw.row PySem.Challenge.rw_foreverkept_k09_whole_wishes_granted_by).prog [47]) (H := K09.hk) (ob := K09.ob) (M := 20000) (loose := K09.loose) (d := HandSHeadRun.topDef (OpenLaw.row PySem.Challenge.rw_foreverkept_k09_whole_wishes_granted_by).prog 47) (kwd := []) K09.ob_eq
    (by kernel_rfl) (fun s => by kernel_rfl) K09.run (by kernel_rfl) (by kernel_rfl) (by kernel_rfl) (by rfl) (by first | assumption | decide +kernel) (by decide +kernel) ⟨rfl, rfl, rfl, rfl, rfl, by decide +kernel⟩ ?hw ?hc
  case hw => w_witness2
  case hc =>
    refine Nv.walk_gTE (l := PySem.Challenge.rw_foreverkept_k09_whole_wishes_granted_by) (n := 63) (k := 39) (x := "script") (CX := fun w => L2.CX PySem.Challenge.pw_foreverkept_k09_whole_wishes_granted_by w) rfl (by decide) (by kernel_rfl) ⟨rfl, by decide, by decide⟩ ?F (fun w H s e s' z => by
      obtain ⟨_, _, _, _, _, _, _, _, _, _, _, _, y⟩ := z
      exact y)
    intro w mg fa h Y G hmg0
    obtain ⟨K, KX, c⟩ := Y
    have hmg : mg ("law" : PySem.Str) = some (.ref fa) := by
      have e : (HandSHeadRun.topDef (OpenLaw.row PySem.Challenge.rw_foreverkept_k09_whole_wishes_granted_by).prog 47).name = ("law" : PySem.Str) := by kernel_rfl
      rw [← e]
      exact hmg0
    exact K09.facts KX G hmg c

