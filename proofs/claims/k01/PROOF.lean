import PyProof.Rows.All
import Wide.All
import OpenK.AllK
import Wide.FinOn
import HandS.ForMost
import HandS.IsInst
import HandS.Defaults
import HandS.RaiseMore
import HandS.Deep
import HandS.Walk
import HandS.Strs
import PySem.Challenge.RW_foreverkept_k01_checks_of_any_values
set_option Elab.async false
set_option linter.all false
set_option maxRecDepth 100000
set_option maxHeartbeats 4000000
/-! Calls with an empty list of guards: what repr of a list wants. -/
namespace Kd
open PySem PySem.Spec PyProof.Rows L2

/-- a def's promise where no guarded builtin runs around it -/
structure FG (P : Program) (w : World) (K : PySem.W.Frag) (mg : Str → Option Value) (base : Heap)
    (CX : CXT) (k : Nat) (f : Addr) (fd : FuncData) (ps : List Str) (sp : Sp) : Prop where
  len : ∀ vs H Q E, sp vs H Q E → vs.length = ps.length
  run : ∀ (A : Around) (outer : List Env) (s : Shared) (H : Hp) (args : Args)
    (us : List Value) (vs : List V) (Q : VK) (E : XK), Room k A → A.guards = some [] →
    Env0 P w K mg base A outer s H → BindsTo s fd args (ps.zip us) → Vals vs us → sp vs H Q E →
    codeAny (model P w) A (.call (.ref f) args) (CR CX outer P w H s Q E) s

theorem FG.of_ok {P : Program} {w : World} {K : PySem.W.Frag} {mg : Str → Option Value} {base : Heap}
    {CX : CXT} {k : Nat} {f : Addr} {fd : FuncData} {ps : List Str} {sp : Sp}
    (F : FnOk P w K mg base CX k f fd ps sp) : FG P w K mg base CX k f fd ps sp :=
  ⟨F.len, fun A o s H ar us vs Q E r _ e b v h => F.run A o s H ar us vs Q E r e b v h⟩
theorem FG.mono {P : Program} {w : World} {K : PySem.W.Frag} {mg : Str → Option Value} {base : Heap}
    {CX : CXT} {j k : Nat} {f : Addr} {fd : FuncData} {ps : List Str} {sp : Sp}
    (F : FG P w K mg base CX j f fd ps sp) (h : j ≤ k) : FG P w K mg base CX k f fd ps sp :=
  ⟨F.len, fun A o s H ar us vs Q E r g => F.run A o s H ar us vs Q E (r.mono h) g⟩
theorem FG.imp {P : Program} {w : World} {K : PySem.W.Frag} {mg : Str → Option Value} {base : Heap}
    {CX : CXT} {k : Nat} {f : Addr} {fd : FuncData} {ps : List Str} {sp sp' : Sp}
    (F : FG P w K mg base CX k f fd ps sp) (h : ∀ vs H Q E, sp' vs H Q E → sp vs H Q E) :
    FG P w K mg base CX k f fd ps sp' :=
  ⟨fun vs H Q E q => F.len vs H Q E (h _ _ _ _ q),
   fun A o s H ar us vs Q E r g e b v q => F.run A o s H ar us vs Q E r g e b v (h _ _ _ _ q)⟩

theorem deeper_guards {A : Around} {env : Env} (h : A.guards = some []) : (A.deeper env).guards = some [] := h

/-- a def by its body -/
theorem fg_of {CX : CXT} {P : Program} {w : World} {K : PySem.W.Frag} {mg : Str → Option Value}
    {base : Heap} {k : Nat} {x qual : Str} {st : Stmt} {f : Addr} {fd : FuncData}
    {N ps : List Str} {sp : Sp} (F : Fun K x qual st f fd) (S : FnScope N ps (defScope st))
    (len : ∀ vs H Q E, sp vs H Q E → vs.length = ps.length)
    (body : ∀ (cdv : Value) (A : Around) (outer : List Env) (s : Shared) (H : Hp) (vs : List V)
      (Q : VK) (E : XK), Room k (A.deeper (envOfC qual (defScope st) s.heap.objs.size f cdv)) →
      A.guards = some [] → sp vs H Q E →
      ∃ t, PSs (cxOf CX P w K mg base N qual (defScope st) f cdv A outer s H E) (defBody st) t ∧
        t { nx := fun _ H' => Q .non H', rt := Q } (start N vs) H) :
    FG P w K mg base CX (k + 1) f fd ps sp := by
  obtain ⟨oc, od, kV, doc, pm, an, cdv, ct, osl, rfl, lk, hcd⟩ := F.ex
  constructor
  · exact len
  intro A outer s H args us vs Q E room guards env bt vals hsp
  have hlen := len _ _ _ _ hsp
  have kin : K.In s.heap := env.mod.kin.keeps fun b o e => (env.bs b o e).1
  have nolim : s.heap.NoLimit := env.mod.nolimit.keeps fun b o e => (env.bs b o e).1
  have kinds : ∀ y ∈ ps.zip us, (defScope st).names.lookup y.1 = some .local ∨
      ((defScope st).names.lookup y.1 = some .cell ∧
        ((cellsFrom (s.heap.objs.size + 1) (defScope st).names []).lookup y.1).isSome = true) := by
    intro ⟨n, v⟩ hy
    cases S.par n (List.of_mem_zip hy).1 with
    | inl q => exact .inl q
    | inr q => exact .inr ⟨q, PySem.W.cellsFrom_some _ _ _ (.inl q)⟩
  apply codeAny_call_function room.depth (kin _ _ lk) rfl S.co S.gen rfl (PySem.W.codeRec_of kin hcd)
  apply bt
  apply wpAny_newFunctionEnv_cells S.kind kinds
  intro env' he s1 ic
  subst he
  refine ⟨nolim.keeps ic.toInCall.keep, codeAny_func ?_⟩
  obtain ⟨t, ht, hq⟩ := body cdv A outer s H vs Q E (room.deeper _) guards hsp
  have I0 : Inv (cxOf CX P w K mg base N qual (defScope st) f cdv A outer s H E) [] (start N vs) H s1 :=
    inv_start S room.hd env hlen vals ic
  apply wpAny_mono (ht.run [] s1 (start N vs) H _ I0 hq)
  · intro fl s' hs
    cases fl with
    | ret u =>
      obtain ⟨v, σ', H', J, rv, q⟩ := hs
      exact ⟨v, H', J.os, J.bare, J.base, J.hok, rv, q⟩
    | next =>
      obtain ⟨σ', H', J, q⟩ := hs
      exact ⟨.non, H', J.os, J.bare, J.base, J.hok, rfl, q⟩
    | brk => obtain ⟨_, _, _, q⟩ := hs; exact q.elim
    | cont => obtain ⟨_, _, _, q⟩ := hs; exact q.elim
  · intro e s' hs
    exact hs

section
variable {X : Cx} {CX : CXT} {k n : Nat} {f : Addr} {fd : FuncData} {ps ks : List Str} {sp : Sp}
  {E : XK} {x : Str} {p pos : Pos} {e : Expr} {es : List Expr} {kws : List Keyword} {t tk : TA}
  {g : List Value → List Value → List Value} {gV : List V → List V → List V}

theorem fg_end {pins : List (Addr × Obj)} {σ : L2.St} {H : Hp} {s : Shared} {Q : VK} {c : Code}
    (hx : Passes CX X E) (I : Inv X pins σ H s)
    (h : codeAny (model X.prog X.w) X.A c (CR CX X.stack X.prog X.w H s Q E) s) :
    codeAny (model X.prog X.w) X.A c (fun r s' => match r with
      | .ok (.ret u) => EP X pins σ Q u s'
      | .ok _ => False
      | .error e => X.xe e s') s := by
  refine codeAny_mono h fun r s' hq => ?_
  match r, hq with
  | .error e, hq => exact hx pins σ H s e s' I hq
  | .ok (.ret u), hq => exact I.after hq

/-- the call, positional and keyword values bound -/
theorem fg_run {pins : List (Addr × Obj)} {σ : L2.St} {H : Hp} {s : Shared} {Q : VK} {us : List Value}
    {vs : List V} {args : Args}
    (F : FG X.prog X.w X.K X.mg X.base CX k f fd ps sp) (hr : Room k X.A) (hg : X.A.guards = some [])
    (hb : BindsTo s fd args (ps.zip us)) (hx : Passes CX X E) (I : Inv X pins σ H s) (r : Vals vs us)
    (h : sp vs H Q E) : codeAny (model X.prog X.w) X.A (.call (.ref f) args) (fun r s' => match r with
      | .ok (.ret u) => EP X pins σ Q u s'
      | .ok _ => False
      | .error e => X.xe e s') s :=
  fg_end hx I (F.run X.A X.stack s H args us vs Q E hr hg I.env0 hb r h)
end

/-- the law's call at the end of the top -/
theorem law_g {P : Program} {w : World} {K : PySem.W.Frag} {mg mb : Str → Option Value} {CX : CXT}
    {k : Nat} {fa a : Addr} {fd : FuncData} {x : Str} {sp : Sp} {s0 : Shared} {vs : List Value} {ns : List Int}
    (kin : K.In s0.heap) (nsg : s0.heap.Ns mainGlobals mg) (nsb : s0.heap.Ns builtinsNs mb)
    (bb : ∀ y : Str, y ≠ "__name__" → mb y = bootBuiltins y) (lim : s0.heap.NoLimit) (gens : s0.gens = #[])
    (ha : s0.heap.get? a = some { cls := .type "list", data := .seq vs.toArray }) (hints : IntsAre vs ns)
    (line : ns.length ≤ sizeLine) (room : Room k callerA)
    (F : ∀ base : Heap, K.In base → base.Ns mainGlobals mg → FG P w K mg base CX k fa fd [x] sp)
    (bind : ∀ (s : Shared) (u : Value), BindsTo s fd ⟨[u], []⟩ [(x, u)])
    (hsp : ∀ H : Hp, Only H → SqL K H a (ns.map V.int) → sp [.ref a] H (fun v _ => v = .bl true) fun _ _ _ => False)
    (hCX : ∀ H e s', CX [] H s0 (fun _ _ _ => False) e s' → False) :
    codeAny (model P w) callerA (.call (.ref fa) ⟨[.ref a], []⟩)
      (fun r s' => r = .ok (.ret (.bool true)) ∧ OldK s0.heap s'.heap ∧ s'.os = s0.os ∧ AllBare s'.gens) s0 := by
  have vals := vals_ints hints
  have ilen := hints.length
  suffices core : ∀ H : Hp, Only H → SqL K H a (ns.map V.int) → HOk P w H s0.heap → (∀ b, H b ≠ none → b = a) →
      (H a ≠ none → K.lookup a = none) → codeAny (model P w) callerA (.call (.ref fa) ⟨[.ref a], []⟩)
        (fun r s' => r = .ok (.ret (.bool true)) ∧ OldK s0.heap s'.heap ∧ s'.os = s0.os ∧ AllBare s'.gens) s0 by
    cases lk : K.lookup a with
    | some o =>
      have e := kin a o lk
      rw [ha] at e
      cases e
      apply core (fun _ => none) (fun _ => .inl rfl)
      · exact .inr ⟨_, vs.toArray, _, lk, rfl, rfl, rfl, by rw [List.size_toArray, ilen]; exact line, by simpa using vals⟩
      · intro b u z; exact nomatch z
      · intro b z; exact absurd rfl z
      · intro z; exact absurd rfl z
    | none =>
      apply core (fun b => if b = a then some (.frz { cls := .type "list", data := .seq vs.toArray } (.lst (ns.map V.int))) else none)
      · intro b
        by_cases hb : b = a
        · exact .inr ⟨_, _, if_pos hb⟩
        · exact .inl (if_neg hb)
      · exact .inl (.inr ⟨{ cls := .type "list", data := .seq vs.toArray }, if_pos rfl⟩)
      · intro b u z
        by_cases hb : b = a
        · replace z := (if_pos hb).symm.trans z
          cases z
          subst hb
          exact ⟨ha, by rw [List.length_map]; exact line, vs, _, vals, ha⟩
        · replace z := (if_neg hb).symm.trans z
          cases z
      · intro b z
        by_cases hb : b = a
        · exact hb
        · exact absurd (if_neg hb) z
      · exact fun _ => lk
  intro H only seq hok hA hK
  have hid : ∀ {b : Addr} {o : Obj}, s0.heap.get? b = some o → H b = none → (hidT s0.heap H).get? b = some o :=
    fun e n => hidT_get e n
  have dictFree : ∀ {b : Addr} {o : Obj} {es : Array DictEntry} {ep : Nat},
      s0.heap.get? b = some o → o.data = .dict es ep → H b = none := by
    intro b o es ep e d
    cases q : H b with
    | none => rfl
    | some u =>
      have eb : b = a := hA b (by rw [q]; simp)
      subst eb
      rw [ha] at e
      cases e
      exact nomatch (show Data.seq vs.toArray _ = Data.dict es ep from d)
  have nsHid : ∀ {b : Addr} {m : Str → Option Value}, s0.heap.Ns b m → (hidT s0.heap H).Ns b m := by
    intro b m ⟨o, es, ep, e, d, r⟩
    exact ⟨o, es, ep, hid e (dictFree e d), d, r⟩
  have kinHid : K.In (hidT s0.heap H) := by
    intro b o e
    apply hid (kin b o e)
    cases q : H b with
    | none => rfl
    | some u =>
      have eb : b = a := hA b (by rw [q]; simp)
      subst eb
      rw [hK (by rw [q]; simp)] at e
      cases e
  have modHid : Mod K mg (hidT s0.heap H) := by
    refine ⟨kinHid, nsHid nsg, ⟨mb, nsHid nsb, bb⟩, ?_⟩
    obtain ⟨mc, h1, h2⟩ := lim
    exact ⟨mc, nsHid h1, h2⟩
  have env0 : Env0 P w K mg (hidT s0.heap H) callerA [] s0 H :=
    ⟨rfl, modHid, fun b o e => of_hidT e, Nat.le_of_eq (hidT_size _ _), trivial, fun b hb => (by cases hb), hok, AllBare.of_eq gens⟩
  have R := (F _ kinHid (nsHid nsg)).run callerA [] s0 H ⟨[.ref a], []⟩ [.ref a] [.ref a] _ _ room rfl env0
    (bind s0 (.ref a)) (.cons rfl .nil) (hsp H only seq)
  refine codeAny_mono R fun r s' h => ?_
  match r, h with
  | .error e, h => exact (hCX H e s' h).elim
  | .ok (.ret u), h =>
    obtain ⟨v, H', os, bare, un, hok', rv, q⟩ := h
    cases (show v = .bl true from q)
    cases (show u = Value.bool true from rv)
    refine ⟨rfl, OldK.of_keep fun b o e => ?_, os, bare⟩
    cases q : H b with
    | none => exact un.keep b o e q (by intro z; cases z) (by simp)
    | some u =>
      cases only b with
      | inl z => rw [q] at z; cases z
      | inr z =>
        obtain ⟨ob, xs, z⟩ := z
        have z2 := un.frzs b ob _ z
        obtain ⟨e1, _⟩ := hok b _ z
        obtain ⟨e2, _⟩ := hok' b _ z2
        rw [e] at e1
        cases e1
        exact e2

/-- the walk of a law row -/
theorem walk_g {l : PySem.W.OpenLaw} {n k : Nat} {q : Program} {loose : List Str}
    {XP : (Str → Option Value) → Heap → Prop} {YP : World → Heap → Prop} {d : DefRec} {K : Params → PySem.W.Frag}
    {CX : CXT} {sp : PySem.W.Frag → Sp} {x : Str}
    (hn : l.most = some n) (hn2 : n ≤ sizeLine) (hdf : d.params.defaults = []) (room : Room k callerA)
    (hY : ∀ (w : World) (h : Heap), YP w h → (K w.params).In h)
    (F : ∀ (w : World) (mg : Str → Option Value) (fa : Addr) (h : Heap), (K w.params).In h → h.Ns mainGlobals mg →
      mg d.name = some (.ref fa) → ∃ fd : FuncData, (∀ (s : Shared) (u : Value), BindsTo s fd ⟨[u], []⟩ [(x, u)]) ∧
        ∀ base : Heap, (K w.params).In base → base.Ns mainGlobals mg →
          FG l.prog w (K w.params) mg base CX k fa fd [x] (sp (K w.params)))
    (hsp : ∀ (K : PySem.W.Frag) (H : Hp) (a : Addr) (ns : List Int), ns.length ≤ n → Only H →
      SqL K H a (ns.map V.int) → sp K [.ref a] H (fun v _ => v = .bl true) fun _ _ _ => False)
    (hCX : ∀ (H : Hp) (s : Shared) (e : Value) (s' : Shared), CX [] H s (fun _ _ _ => False) e s' → False) :
    PySem.W.WalkO q loose XP YP l.row.toRowW d [] (fun f vs => PySem.call f vs) := by
  refine Att.attach_call hn hdf fun w t0 t1 mg mb fa o pm cd doc a vs ns G Y ho hd hcd hmg hobj hints hlen hg => ?_
  have kin := hY w _ Y
  obtain ⟨fd, hb, hF⟩ := F w mg fa _ kin G.T.g hmg
  exact law_g kin G.T.g G.T.b G.T.builtins G.T.nolimit hg hobj hints (Nat.le_trans hlen hn2) room hF hb
    (fun H hO hS => hsp _ H a ns hlen hO hS) fun H e t => hCX H t1 e t
end Kd

set_option Elab.async false
set_option linter.all false
set_option maxRecDepth 100000
set_option maxHeartbeats 4000000
/-! Data on the abstract heap, a small language for expressions and statements, its evaluator on data. -/
namespace Kd
open PySem PySem.Spec PyProof.Rows L2

/-! ### data -/
def kD : Key → PyData
  | .inl i => .int i
  | .inr x => .str x
mutual
inductive Dv (K : PySem.W.Frag) (B : Hp) : V → PyData → Prop
  | non : Dv K B .non .none
  | bl (b : Bool) : Dv K B (.bl b) (.bool b)
  | int (i : Int) : Dv K B (.int i) (.int i)
  | str (x : Str) : Dv K B (.str x) (.str x)
  | lst {a : Addr} {xs : List V} {ds : List PyData} (h : B a = some (.lst xs)) (r : DvL K B xs ds) : Dv K B (.ref a) (.list ds)
  | tup {a : Addr} {xs : List V} {ds : List PyData} (h : SqT K B a xs) (r : DvL K B xs ds) : Dv K B (.ref a) (.tuple ds)
  | dct {a : Addr} {kvs : List (Key × V)} {ds : List (PyData × PyData)} (h : B a = some (.dK kvs)) (r : DvK K B kvs ds) : Dv K B (.ref a) (.dict ds)
inductive DvL (K : PySem.W.Frag) (B : Hp) : List V → List PyData → Prop
  | nil : DvL K B [] []
  | cons {v : V} {vs : List V} {d : PyData} {ds : List PyData} (h : Dv K B v d) (r : DvL K B vs ds) : DvL K B (v :: vs) (d :: ds)
inductive DvK (K : PySem.W.Frag) (B : Hp) : List (Key × V) → List (PyData × PyData) → Prop
  | nil : DvK K B [] []
  | cons {k : Key} {v : V} {kvs : List (Key × V)} {d : PyData} {ds : List (PyData × PyData)} (h : Dv K B v d) (r : DvK K B kvs ds) : DvK K B ((k, v) :: kvs) ((kD k, d) :: ds)
end
section
variable {K : PySem.W.Frag} {B B' : Hp}
theorem same_t {a : Addr} {xs : List V} (e : Same B B') (h : SqT K B a xs) : SqT K B' a xs := by
  rcases h with (h | ⟨o, h⟩) | h
  · exact .inl (.inl (e _ _ h))
  · exact .inl (.inr ⟨o, e _ _ h⟩)
  · exact .inr h
mutual
theorem Dv.mono (e : Same B B') : ∀ {v : V} {d : PyData}, Dv K B v d → Dv K B' v d
  | _, _, .non => .non
  | _, _, .bl b => .bl b
  | _, _, .int i => .int i
  | _, _, .str x => .str x
  | _, _, .lst h r => .lst (e _ _ h) (DvL.mono e r)
  | _, _, .tup h r => .tup (same_t e h) (DvL.mono e r)
  | _, _, .dct h r => .dct (e _ _ h) (DvK.mono e r)
theorem DvL.mono (e : Same B B') : ∀ {vs : List V} {ds : List PyData}, DvL K B vs ds → DvL K B' vs ds
  | _, _, .nil => .nil
  | _, _, .cons h r => .cons (Dv.mono e h) (DvL.mono e r)
theorem DvK.mono (e : Same B B') : ∀ {vs : List (Key × V)} {ds : List (PyData × PyData)}, DvK K B vs ds → DvK K B' vs ds
  | _, _, .nil => .nil
  | _, _, .cons h r => .cons (Dv.mono e h) (DvK.mono e r)
end
theorem DvL.length : ∀ {vs : List V} {ds : List PyData}, DvL K B vs ds → vs.length = ds.length
  | _, _, .nil => rfl
  | _, _, .cons _ r => congrArg (· + 1) (DvL.length r)
theorem DvL.get : ∀ {vs : List V} {ds : List PyData}, DvL K B vs ds → ∀ {i : Nat} {v : V}, vs[i]? = some v → ∃ d, ds[i]? = some d ∧ Dv K B v d
  | _, _, .nil, i, v, h => by simp at h
  | _, _, .cons h r, 0, v, e => by
    cases Option.some.inj e
    exact ⟨_, rfl, h⟩
  | _, _, .cons h r, i + 1, v, e => DvL.get r (i := i) (by simpa using e)
theorem DvL.get' : ∀ {vs : List V} {ds : List PyData}, DvL K B vs ds → ∀ {i : Nat} {d : PyData}, ds[i]? = some d → ∃ v, vs[i]? = some v ∧ Dv K B v d
  | _, _, .nil, i, v, h => by simp at h
  | _, _, .cons h r, 0, v, e => by
    cases Option.some.inj e
    exact ⟨_, rfl, h⟩
  | _, _, .cons h r, i + 1, v, e => DvL.get' r (i := i) (by simpa using e)
theorem DvL.append : ∀ {vs ws : List V} {ds es : List PyData}, DvL K B vs ds → DvL K B ws es → DvL K B (vs ++ ws) (ds ++ es)
  | _, _, _, _, .nil, r => r
  | _, _, _, _, .cons h t, r => .cons h (DvL.append t r)
/-- a row put together anew, by places -/
def pick {α : Type} (pm : List Nat) (l : List α) : List α := pm.filterMap (l[·]?)
theorem DvL.pick {vs : List V} {ds : List PyData} (r : DvL K B vs ds) : ∀ pm : List Nat, DvL K B (pick pm vs) (pick pm ds)
  | [] => .nil
  | i :: pm => by
    have t := DvL.pick r pm
    cases e : vs[i]? with
    | none =>
      have e2 : ds[i]? = none := by
        rw [List.getElem?_eq_none_iff] at e ⊢
        rw [← r.length]
        exact e
      simp only [Kd.pick, List.filterMap_cons, e, e2]
      exact t
    | some v =>
      obtain ⟨d, e2, h⟩ := r.get e
      simp only [Kd.pick, List.filterMap_cons, e, e2]
      exact .cons h t
mutual
theorem Dv.dp (e : Same B B') : ∀ {v : V} {d : PyData}, Dv K B v d → d.hasDict = false → Dp K B' v d
  | _, _, .non, _ => .non
  | _, _, .bl b, _ => .bl b
  | _, _, .int i, _ => .int i
  | _, _, .str x, _ => .str x
  | _, _, .lst h r, n => .lst (.of (e _ _ h)) (DvL.dp e r (by simpa [PyData.hasDict] using n))
  | _, _, .tup h r, n => .tup (same_t e h) (DvL.dp e r (by simpa [PyData.hasDict] using n))
  | _, _, .dct h r, n => by simp [PyData.hasDict] at n
theorem DvL.dp (e : Same B B') : ∀ {vs : List V} {ds : List PyData}, DvL K B vs ds → PyData.hasDictAll ds = false → DpAll K B' vs ds
  | _, _, .nil, _ => .nil
  | _, _, .cons h r, n => by
    simp only [PyData.hasDictAll, Bool.or_eq_false_iff] at n
    exact .cons (Dv.dp e h n.1) (DvL.dp e r n.2)
end
end

/-! ### the kinds of data -/
def tyD : PyData → String
  | .none => "NoneType"
  | .bool _ => "bool"
  | .int _ => "int"
  | .str _ => "str"
  | .list _ => "list"
  | .tuple _ => "tuple"
  | .dict _ => "dict"
def isiD (d : PyData) : List String → Option Bool
  | [] => some false
  | t :: ts => match kitB (tyD d) t with
    | some true => some true
    | some false => isiD d ts
    | none => none
def truthD : PyData → Option Bool
  | .none => some false
  | .bool b => some b
  | .int i => some (i != 0)
  | .str x => if x.length ≤ 100000 then some ((x.length : Int) != 0) else none
  | .list xs => some (!xs.isEmpty)
  | .tuple xs => some (!xs.isEmpty)
  | .dict _ => none
def itemsD : PyData → Option (List PyData)
  | .list xs => some xs
  | .tuple xs => some xs
  | .str x => some (x.cps.toList.map fun c => .str ⟨#[c]⟩)
  | _ => none
def boolsD : List PyData → Option (List Bool)
  | [] => some []
  | .bool b :: ds => (boolsD ds).map (b :: ·)
  | _ :: _ => none
def small (n : Nat) : Bool := decide (n ≤ 100000)

def flatD : PyData → Bool
  | .none => true
  | .bool _ => true
  | .int _ => true
  | .str _ => true
  | _ => false
def binD : Operator → PyData → PyData → Option PyData
  | .Add, .int i, .int j => some (.int (i + j))
  | .Sub, .int i, .int j => some (.int (i - j))
  | .Mult, .int i, .int j => if (-(2 ^ 64) < i ∧ i < 2 ^ 64) ∨ (-(2 ^ 64) < j ∧ j < 2 ^ 64) then some (.int (i * j)) else none
  | .FloorDiv, .int i, .int j => if 0 < j ∧ j < 1073741824 then some (.int (i / j)) else none
  | .Mod, .int i, .int j => if 0 < j then some (.int (i % j)) else none
  | .Pow, .int i, .int j => if 0 ≤ j ∧ j ≤ 1000000 ∧ i.natAbs < 2 ^ 64 then some (.int (i ^ j.toNat)) else none
  | .Add, .str x, .str y => if small (x.length + y.length) then some (.str (x ++ y)) else none
  | _, _, _ => none
def cmpD : CmpOp → PyData → PyData → Option Bool
  | .Is, d, .none => some (match d with | .none => true | _ => false)
  | .IsNot, d, .none => some (match d with | .none => false | _ => true)
  | .Lt, .int i, .int j => some (decide (i < j))
  | .LtE, .int i, .int j => some (decide (i ≤ j))
  | .Gt, .int i, .int j => some (decide (j < i))
  | .GtE, .int i, .int j => some (decide (j ≤ i))
  | .Eq, .str x, .str y => some (x == y)
  | .NotEq, .str x, .str y => some (!(x == y))
  | .Eq, d, e => if SeqAt.shaped d && SeqAt.shaped e then some (PyData.eqv d e) else none
  | .NotEq, d, e => if SeqAt.shaped d && SeqAt.shaped e then some (!PyData.eqv d e) else none
  | .In, .str x, .str y => some (!(Builtin.Str.occurrences y x 0 y.length 1).isEmpty)
  | .In, d, .list ds => if flatD d && ds.all flatD then some (ds.any fun z => PyData.eqv z d) else
      if SeqAt.shaped d && SeqAt.shaped (.list ds) then some (ds.any fun z => PyData.eqv z d) else none
  | .In, d, .tuple ds => if flatD d && ds.all flatD then some (ds.any fun z => PyData.eqv z d) else none
  | _, _, _ => none

/-! ### the language -/
inductive Bt
  | len | all | any | repr | toTup | toList | toInt | abs
mutual
inductive C
  | var (i : Nat)
  | cst (d : PyData)
  | glb (d : PyData)
  | and_ (a b : C)
  | or_ (a b : C)
  | not_ (a : C)
  | ite (t a b : C)
  | bin (op : Operator) (a b : C)
  | neg (a : C)
  | cmp (op : CmpOp) (a b : C)
  | chain (o1 o2 : CmpOp) (a b c : C)
  | tup (es : Cs)
  | lst (es : Cs)
  | dct1 (k : Str) (v : C)
  | lset (a : C)
  | lenO (i : Nat)
  | neO (i : Nat)
  | popO (i : Nat) (c : C)
  | frz (i : Nat)
  | penG (j : Nat) (k : Nat)
  | penAt (j : Nat) (c : C)
  | penLen (j : Nat)
  | penNe (j : Nat)
  | isi (a : C) (tys : List String)
  | call (f : Nat) (es : Cs)
  | pcall (f j : Nat) (es : Cs)
  | blt (b : Bt) (a : C)
  | comp (elt : C) (i : Nat) (it : Ci)
  | sub (a i : C)
  | upto (a n : C)
  | cat (a b : C)
inductive Cs
  | nil
  | cons (c : C) (cs : Cs)
inductive Ci
  | seq (c : C)
  | rng (c : C)
inductive Co
  | disp (es : Cs)
  | lst (c : C)
  | comp (elt : C) (i : Nat) (it : Ci)
end
mutual
inductive Sd
  | asg (i : Nat) (c : C)
  | par (i j : Nat) (a b : C)
  | ret (c : C)
  | ifs (t : C) (a b : Sds)
  | for_ (i : Nat) (it : Ci) (b : Sds)
  | expr (c : C)
  | asgO (i : Nat) (c : Co)
  | parO (i j : Nat) (a b : Co)
  | appO (i : Nat) (c : C)
  | while_ (t : C) (b : Sds)
  | penS (j : Nat) (k : Nat) (c : C)
inductive Sds
  | nil
  | cons (s : Sd) (ss : Sds)
end

structure Pen where
  ns : List Int
  lap : Int
  g : Int
inductive SD
  | unk
  | dat (d : PyData)
  | pen
  | own (ds : List PyData)
structure S where
  δ : List SD
  π : Option Pen
structure Fns where
  fn : Nat → List PyData → Option PyData
  pf : Nat → List PyData → Pen → Option (PyData × Pen)

/-- lists that may change are out of reach -/
def hushD : SD → SD
  | .own _ => .unk
  | x => x
def S.hush (st : S) : S := ⟨st.δ.map hushD, st.π⟩
def S.own (st : S) (i : Nat) (ds : List PyData) : S := ⟨st.δ.set i (.own ds), st.π⟩
def S.set (st : S) (i : Nat) (d : PyData) : S := ⟨st.δ.set i (.dat d), st.π⟩
def S.get (st : S) (i : Nat) : Option PyData := match st.δ[i]? with
  | some (.dat d) => some d
  | _ => none

def strsD : List PyData → Option (List Str)
  | [] => some []
  | .str x :: ds => (strsD ds).map (x :: ·)
  | _ :: _ => none
def ddS (l : List Str) (x : Str) : List Str := if l.any (· == x) then l else l ++ [x]
def uniqS (xs : List Str) : List Str := xs.foldl ddS []
/-- len(set(..)) -/
def lsetD : PyData → Option PyData
  | .list xs => match strsD xs with
    | some ss => if ss.length ≤ 4000 then some (.int (uniqS ss).length) else none
    | none => none
  | .tuple xs => match strsD xs with
    | some ss => if ss.length ≤ 4000 then some (.int (uniqS ss).length) else none
    | none => none
  | _ => none
def bltD : Bt → PyData → Option PyData
  | .len, .list xs => some (.int xs.length)
  | .len, .tuple xs => some (.int xs.length)
  | .len, .str x => if small x.length then some (.int x.length) else none
  | .all, .list xs => (boolsD xs).map fun bs => .bool (bs.all id)
  | .any, .list xs => (boolsD xs).map fun bs => .bool (bs.any id)
  | .repr, d => if d.showable && !d.hasDict && small d.shown.length && decide (d.depth ≤ 60) then some (.str d.shown) else none
  | .toTup, .list xs => some (.tuple xs)
  | .toTup, .tuple xs => some (.tuple xs)
  | .toList, .list xs => some (.list xs)
  | .toList, .tuple xs => some (.list xs)
  | .toInt, .int i => some (.int i)
  | .toInt, .bool b => some (.int (if b then 1 else 0))
  | .abs, .int i => some (.int (if i < 0 then -i else i))
  | _, _ => none
/-- a[i] -/
def subD : PyData → PyData → Option PyData
  | .list xs, .int i => atI xs i
  | .tuple xs, .int i => atI xs i
  | _, _ => none

/-- a comprehension's turns -/
def compLoop (step : S → Option (PyData × S)) (i : Nat) : List PyData → S → Option (List PyData × Option Pen)
  | [], st => some ([], st.π)
  | x :: xs, st => match step (st.set i x) with
    | some (d, st') => match compLoop step i xs ⟨st.δ, st'.π⟩ with
      | some (ds, p) => some (d :: ds, p)
      | none => none
    | none => none

section
variable (F : Fns)
mutual
def evalE : C → S → Option (PyData × S)
  | .var i, st => match st.get i with
    | some d => some (d, st)
    | none => none
  | .cst d, st => some (d, st)
  | .glb d, st => some (d, st)
  | .and_ a b, st => match evalE a st with
    | some (.bool true, st1) => evalE b st1
    | some (.bool false, st1) => some (.bool false, st1)
    | _ => none
  | .or_ a b, st => match evalE a st with
    | some (.bool true, st1) => some (.bool true, st1)
    | some (.bool false, st1) => evalE b st1
    | _ => none
  | .not_ a, st => match evalE a st with
    | some (.bool b, st1) => some (.bool (!b), st1)
    | _ => none
  | .ite t a b, st => match evalE t st with
    | some (d, st1) => match truthD d with
      | some true => evalE a st1
      | some false => evalE b st1
      | none => none
    | none => none
  | .bin op a b, st => match evalE a st with
    | some (x, st1) => match evalE b st1 with
      | some (y, st2) => match binD op x y with
        | some z => some (z, st2)
        | none => none
      | none => none
    | none => none
  | .neg a, st => match evalE a st with
    | some (.int i, st1) => some (.int (-i), st1)
    | _ => none
  | .cmp op a b, st => match evalE a st with
    | some (x, st1) => match evalE b st1 with
      | some (y, st2) => match cmpD op x y with
        | some z => some (.bool z, st2)
        | none => none
      | none => none
    | none => none
  | .chain o1 o2 a b c, st => match evalE a st with
    | some (x, st1) => match evalE b st1 with
      | some (y, st2) => match cmpD o1 x y with
        | some true => match evalE c st2 with
          | some (z, st3) => match cmpD o2 y z with
            | some r => some (.bool r, st3)
            | none => none
          | none => none
        | some false => some (.bool false, st2)
        | none => none
      | none => none
    | none => none
  | .tup es, st => match evalL es st with
    | some (ds, st1) => if small ds.length then some (.tuple ds, st1) else none
    | none => none
  | .lst es, st => match evalL es st with
    | some (ds, st1) => if small ds.length then some (.list ds, st1) else none
    | none => none
  | .dct1 k v, st => match evalE v st.hush with
    | some (d, st1) => some (.dict [(.str k, d)], ⟨st.δ, st1.π⟩)
    | none => none
  | .lset a, st => match evalE a st with
    | some (x, st1) => match lsetD x with
      | some z => some (z, st1)
      | none => none
    | none => none
  | .lenO i, st => match st.δ[i]? with
    | some (.own ds) => some (.int ds.length, st)
    | _ => none
  | .neO i, st => match st.δ[i]? with
    | some (.own ds) => if SeqAt.shaped (.list ds) then some (.bool (!ds.isEmpty), st) else none
    | _ => none
  | .popO i c, st => match st.δ[i]? with
    | some (.own _) => match evalE c st with
      | some (.int k, st1) => match st1.δ[i]? with
        | some (.own ds) => if 0 ≤ k ∧ k < ds.length ∧ small ds.length then match ds[k.toNat]? with
            | some d => some (d, st1.own i (ds.eraseIdx k.toNat))
            | none => none
          else none
        | _ => none
      | _ => none
    | _ => none
  | .frz i, st => match st.δ[i]? with
    | some (.own ds) => some (.list ds, st.set i (.list ds))
    | _ => none
  | .penG j k, st => match st.δ[j]?, st.π with
    | some .pen, some π => match k with
      | 1 => some (.int π.lap, st)
      | 2 => some (.int π.g, st)
      | _ => none
    | _, _ => none
  | .penAt j c, st => match st.δ[j]?, st.π with
    | some .pen, some π => match evalE c st with
      | some (.int k, st1) => match atI π.ns k with
        | some n => some (.int n, st1)
        | none => none
      | _ => none
    | _, _ => none
  | .penLen j, st => match st.δ[j]?, st.π with
    | some .pen, some π => some (.int π.ns.length, st)
    | _, _ => none
  | .penNe j, st => match st.δ[j]?, st.π with
    | some .pen, some π => some (.bool (!π.ns.isEmpty), st)
    | _, _ => none
  | .isi a tys, st => match evalE a st with
    | some (d, st1) => match isiD d tys with
      | some b => some (.bool b, st1)
      | none => none
    | none => none
  | .call f es, st => match evalL es st with
    | some (ds, st1) => match F.fn f ds with
      | some d => some (d, st1)
      | none => none
    | none => none
  | .pcall f j es, st => match st.δ[j]? with
    | some .pen => match evalL es st with
      | some (ds, st1) => match st1.π with
        | some p => match F.pf f ds p with
          | some (d, p') => some (d, ⟨st1.δ, some p'⟩)
          | none => none
        | none => none
      | none => none
    | _ => none
  | .blt b a, st => match evalE a st with
    | some (x, st1) => match bltD b x with
      | some z => some (z, st1)
      | none => none
    | none => none
  | .comp elt i it, st => match evalI it st with
    | some (xs, st1) => if small xs.length then match compLoop (evalE elt) i xs st1.hush with
        | some (ds, p) => some (.list ds, ⟨st1.δ, p⟩)
        | none => none
      else none
    | none => none
  | .sub a i, st => match evalE a st with
    | some (x, st1) => match evalE i st1 with
      | some (y, st2) => match subD x y with
        | some z => some (z, st2)
        | none => none
      | none => none
    | none => none
  | .upto a n, st => match evalE a st with
    | some (.list xs, st1) => match evalE n st1 with
      | some (.int k, st2) => if 0 ≤ k then some (.list (xs.take k.toNat), st2) else none
      | _ => none
    | _ => none
  | .cat a b, st => match evalE a st with
    | some (.list xs, st1) => match evalE b st1 with
      | some (.list ys, st2) => if small (xs.length + ys.length) then some (.list (xs ++ ys), st2) else none
      | _ => none
    | _ => none
def evalL : Cs → S → Option (List PyData × S)
  | .nil, st => some ([], st)
  | .cons c cs, st => match evalE c st with
    | some (d, st1) => match evalL cs st1 with
      | some (ds, st2) => some (d :: ds, st2)
      | none => none
    | none => none
def evalI : Ci → S → Option (List PyData × S)
  | .seq c, st => match evalE c st with
    | some (d, st1) => match itemsD d with
      | some xs => some (xs, st1)
      | none => none
    | none => none
  | .rng c, st => match evalE c st with
    | some (.int n, st1) => if -100000 ≤ n ∧ n ≤ 100000 then some ((List.range n.toNat).map fun (k : Nat) => .int k, st1) else none
    | _ => none
def evalO : Co → S → Option (List PyData × S)
  | .disp es, st => match evalL es st with
    | some (ds, st1) => if small ds.length then some (ds, st1) else none
    | none => none
  | .lst c, st => match evalE c st with
    | some (.list ds, st1) => some (ds, st1)
    | some (.tuple ds, st1) => some (ds, st1)
    | _ => none
  | .comp elt i it, st => match evalI it st with
    | some (xs, st1) => if small xs.length then match compLoop (evalE elt) i xs st1.hush with
        | some (ds, p) => some (ds, ⟨st1.δ, p⟩)
        | none => none
      else none
    | none => none
end

inductive Out
  | nx (st : S)
  | rt (d : PyData) (p : Option Pen)

/-- a loop's turns -/
def forLoop (body : S → Option Out) (i : Nat) : List PyData → S → Option Out
  | [], st => some (.nx st)
  | x :: xs, st => match body (st.set i x) with
    | some (.nx st') => forLoop body i xs st'
    | some (.rt d p) => some (.rt d p)
    | none => none
def whileLoop (t : S → Option (PyData × S)) (body : S → Option Out) : Nat → S → Option Out
  | 0, _ => none
  | n + 1, st => match t st with
    | some (d, st1) => match truthD d with
      | some true => match body st1 with
        | some (.nx st2) => whileLoop t body n st2
        | some (.rt d p) => some (.rt d p)
        | none => none
      | some false => some (.nx st1)
      | none => none
    | none => none
def fuel : Nat := 1000000
mutual
def evalS : Sd → S → Option Out
  | .asg i c, st => match evalE F c st with
    | some (d, st1) => some (.nx (st1.set i d))
    | none => none
  | .par i j a b, st => match evalE F a st with
    | some (x, st1) => match evalE F b st1 with
      | some (y, st2) => some (.nx ((st2.set i x).set j y))
      | none => none
    | none => none
  | .ret c, st => match evalE F c st with
    | some (d, st1) => some (.rt d st1.π)
    | none => none
  | .ifs t a b, st => match evalE F t st with
    | some (d, st1) => match truthD d with
      | some true => evalSs a st1
      | some false => evalSs b st1
      | none => none
    | none => none
  | .for_ i it b, st => match evalI F it st with
    | some (xs, st1) => if small xs.length then forLoop (evalSs b) i xs st1 else none
    | none => none
  | .expr c, st => match evalE F c st with
    | some (_, st1) => some (.nx st1)
    | none => none
  | .asgO i c, st => match evalO F c st with
    | some (ds, st1) => some (.nx (st1.own i ds))
    | none => none
  | .parO i j a b, st => match evalO F a st with
    | some (xs, st1) => match evalO F b st1.hush with
      | some (ys, st2) => if i = j then none else some (.nx ((S.own ⟨st1.δ, st2.π⟩ i xs).own j ys))
      | none => none
    | none => none
  | .appO i c, st => match st.δ[i]? with
    | some (.own _) => match evalE F c st with
      | some (d, st1) => match st1.δ[i]? with
        | some (.own ds) => if small ds.length then some (.nx (st1.own i (ds ++ [d]))) else none
        | _ => none
      | none => none
    | _ => none
  | .while_ t b, st => whileLoop (evalE F t) (evalSs b) fuel st
  | .penS j k c, st => match evalE F c st with
    | some (.int n, st1) => match st1.δ[j]?, st1.π with
      | some .pen, some π => match k with
        | 1 => some (.nx ⟨st1.δ, some ⟨π.ns, n, π.g⟩⟩)
        | 2 => some (.nx ⟨st1.δ, some ⟨π.ns, π.lap, n⟩⟩)
        | _ => none
      | _, _ => none
    | _ => none
def evalSs : Sds → S → Option Out
  | .nil, st => some (.nx st)
  | .cons s ss, st => match evalS s st with
    | some (.nx st1) => evalSs ss st1
    | some (.rt d p) => some (.rt d p)
    | none => none
end
end
end Kd

set_option Elab.async false
set_option linter.all false
set_option maxRecDepth 100000
set_option maxHeartbeats 4000000
/-! What the evaluator says is what runs: the relation of states, helpers. -/
namespace Kd
open PySem PySem.Spec PyProof.Rows L2

/-! ### readings by what runs -/
def wE (X : Cx) (e : Expr) : TE := fun σ H Q => ∀ pins s, Inv X pins σ H s → wpAny (model X.prog X.w) X.A (eval e X.env) (EP X pins σ Q) X.xe s
def wT (X : Cx) (e : Expr) : TT := fun σ H Q => ∀ pins s, Inv X pins σ H s → wpAny (model X.prog X.w) X.A (isTrue e X.env (eval e X.env)) (TP X pins σ Q) X.xe s
def wW (X : Cx) (e : Expr) : TT := fun σ H Q => ∀ whole pins s, Inv X pins σ H s → wpAny (model X.prog X.w) X.A (isTrue e X.env whole) (TP X pins σ Q) X.xe s
def wA (X : Cx) (es : List Expr) : TA := fun σ H Q => ∀ pos pins s, Inv X pins σ H s → wpAny (model X.prog X.w) X.A (spliced (backTo pos (starEach es X.env))) (AP X pins σ Q) X.xe s
def wK (X : Cx) (ks : List Keyword) : TA := fun σ H Q => ∀ pos pins s, Inv X pins σ H s → wpAny (model X.prog X.w) X.A (evalAll ((backToKw pos (keywordEach ks X.env)).map (·.2))) (AP X pins σ Q) X.xe s
def wS (X : Cx) (st : Stmt) : TS := fun D σ H => ∀ pins s, Inv X pins σ H s → wpAny (model X.prog X.w) X.A (exec st X.env) (SP X pins D) X.xe s
def wSs (X : Cx) (st : List Stmt) : TS := fun D σ H => ∀ pins s, Inv X pins σ H s → wpAny (model X.prog X.w) X.A (execs st X.env) (SP X pins D) X.xe s
def wI (X : Cx) (tg it : Expr) : TI := fun σ H R => ∀ pins s, Inv X pins σ H s →
  wpAny (model X.prog X.w) X.A (eval it X.env) (fun v s1 => wpAny (model X.prog X.w) X.A (pyIter v) (PIE X pins σ tg R) X.xe s1) X.xe s
section
variable {X : Cx} {e tg it : Expr} {es : List Expr} {ks : List Keyword} {st : Stmt} {sts : List Stmt} {σ : L2.St} {H : Hp}
theorem pe_w : PE X e (wE X e) := ⟨fun pins s σ H Q I h => h pins s I⟩
theorem pt_w : PT X e (wT X e) := ⟨fun pins s σ H Q I h => h pins s I⟩
theorem pw_w : PW X e (wW X e) := ⟨fun wh pins s σ H Q I h => h wh pins s I⟩
theorem pa_w : PA X es (wA X es) := ⟨fun pos pins s σ H Q I h => h pos pins s I⟩
theorem pk_w : PK X ks (wK X ks) := ⟨fun pos pins s σ H Q I h => h pos pins s I⟩
theorem ps_w : PS X st (wS X st) := ⟨fun pins s σ H D I h => h pins s I⟩
theorem pss_w : PSs X sts (wSs X sts) := ⟨fun pins s σ H D I h => h pins s I⟩
theorem pi_w : PI X tg it (wI X tg it) := ⟨fun pins s σ H R I h => h pins s I⟩
theorem w_pe {t : TE} {Q : VK} (h : PE X e t) (q : t σ H Q) : wE X e σ H Q := fun pins s I => h.run pins s σ H Q I q
theorem w_pt {t : TT} {Q : Bool → Hp → Prop} (h : PT X e t) (q : t σ H Q) : wT X e σ H Q := fun pins s I => h.run pins s σ H Q I q
theorem w_pw {t : TT} {Q : Bool → Hp → Prop} (h : PW X e t) (q : t σ H Q) : wW X e σ H Q := fun wh pins s I => h.run wh pins s σ H Q I q
theorem w_pa {t : TA} {Q : List V → Hp → Prop} (h : PA X es t) (q : t σ H Q) : wA X es σ H Q := fun pos pins s I => h.run pos pins s σ H Q I q
theorem w_pk {t : TA} {Q : List V → Hp → Prop} (h : PK X ks t) (q : t σ H Q) : wK X ks σ H Q := fun pos pins s I => h.run pos pins s σ H Q I q
theorem w_ps {t : TS} {D : Ends} (h : PS X st t) (q : t D σ H) : wS X st D σ H := fun pins s I => h.run pins s σ H D I q
theorem w_pss {t : TS} {D : Ends} (h : PSs X sts t) (q : t D σ H) : wSs X sts D σ H := fun pins s I => h.run pins s σ H D I q
theorem w_pi {t : TI} {R : It → Hp → Prop} (h : PI X tg it t) (q : t σ H R) : wI X tg it σ H R := fun pins s I => h.run pins s σ H R I q
end

/-! ### the relation -/
def PenAt (K : PySem.W.Frag) (B H : Hp) (a : Addr) (p : Pen) : Prop :=
  ∃ q, H a = some (.lst [.ref q, .int p.lap, .int p.g]) ∧ SqL K B q (p.ns.map .int)
def PenR (K : PySem.W.Frag) (p : Option Addr) (B H : Hp) : Option Pen → Prop
  | none => p = none
  | some π => ∃ a, p = some a ∧ PenAt K B H a π
structure Rel (K : PySem.W.Frag) (p : Option Addr) (B0 H0 B H : Hp) (σ : L2.St) (st : S) : Prop where
  fr : ∀ b o, p ≠ some b → H0 b = some o → H b = some o
  ext : Same B H
  up : Same B0 B
  new : ∀ a o, B a = some o → (∃ o', B0 a = some o') ∨ H0 a = none
  pn : ∀ a, p = some a → B a = none
  h0 : ∀ a, p = some a → H0 a ≠ none
  len : σ.length = st.δ.length
  sl : ∀ (i : Nat) (d : PyData), st.get i = some d → ∃ v, σ[i]? = some (some v) ∧ Dv K B v d
  pen : PenR K p B H st.π
  pv : ∀ i : Nat, st.δ[i]? = some SD.pen → ∃ a, p = some a ∧ σ[i]? = some (some (V.ref a))
  ow : ∀ (i : Nat) (ds : List PyData), st.δ[i]? = some (SD.own ds) → ∃ l xs, σ[i]? = some (some (V.ref l)) ∧ H l = some (.lst xs) ∧ B l = none ∧ H0 l = none ∧ DvL K B xs ds
  dj : ∀ (i j : Nat) (ds es : List PyData), i ≠ j → st.δ[i]? = some (SD.own ds) → st.δ[j]? = some (SD.own es) → σ[i]? ≠ σ[j]?
section
variable {K : PySem.W.Frag} {p : Option Addr} {B0 H0 B H B' H' : Hp} {σ σ' : L2.St} {st st' : S}
theorem PenR.there {o : Option Pen} (h : PenR K p B H o) {a : Addr} (e : p = some a) : H a ≠ none := by
  cases o with
  | none => rw [show p = none from h] at e; cases e
  | some π =>
    obtain ⟨b, e2, q, h1, _⟩ := h
    rw [e2] at e
    cases e
    rw [h1]
    exact fun z => nomatch z
theorem PenR.mono {o : Option Pen} (h : PenR K p B H o) (b : Same B B') (e : ∀ a, p = some a → H' a = H a) : PenR K p B' H' o := by
  cases o with
  | none => exact h
  | some π =>
    obtain ⟨a, e2, q, h1, h2⟩ := h
    exact ⟨a, e2, q, by rw [e a e2]; exact h1, b.seq h2⟩
theorem PenR.same {o : Option Pen} (h : PenR K p B H o) (b : Same B B') (e : Same H H') : PenR K p B' H' o := by
  cases o with
  | none => exact h
  | some π =>
    obtain ⟨a, e2, q, h1, h2⟩ := h
    exact ⟨a, e2, q, e _ _ h1, b.seq h2⟩
/-- the heap grows, nothing of it is data -/
theorem Rel.heap (R : Rel K p B0 H0 B H σ st) (e : Same H H') : Rel K p B0 H0 B H' σ st :=
  ⟨fun b o n h => e _ _ (R.fr b o n h), R.ext.trans e, R.up, R.new, R.pn, R.h0, R.len, R.sl, R.pen.same (Same.refl _) e, R.pv, fun i ds h => let ⟨l, xs, h1, h2, h3⟩ := R.ow i ds h; ⟨l, xs, h1, e _ _ h2, h3⟩, R.dj⟩
theorem Rel.free (R : Rel K p B0 H0 B H σ st) {q : Addr} (h : H q = none) : H0 q = none ∧ p ≠ some q ∧ B q = none := by
  have np : p ≠ some q := fun e => R.pen.there e h
  refine ⟨?_, np, R.ext.free h⟩
  cases e : H0 q with
  | none => rfl
  | some o => rw [R.fr q o np e] at h; cases h
theorem same_upd {q : Addr} {o : HO} (h : B q = none) : Same B (upd B q o) := fun b u e => by
  rw [upd_ne (ne_of_none e h)]
  exact e
theorem same_upd2 {q : Addr} {o : HO} (e : Same B H) : Same (upd B q o) (upd H q o) := fun b u h => by
  by_cases z : b = q
  · subst z
    rw [upd_same] at h ⊢
    exact h
  · rw [upd_ne z] at h ⊢
    exact e _ _ h
/-- a new object that is data -/
theorem Rel.alloc (R : Rel K p B0 H0 B H σ st) {q : Addr} {o : HO} (h : H q = none) : Rel K p B0 H0 (upd B q o) (upd H q o) σ st := by
  obtain ⟨f1, f2, f3⟩ := R.free h
  have sb : Same B (upd B q o) := same_upd f3
  have sh : Same H (upd H q o) := same_upd h
  refine ⟨fun b u n e => sh _ _ (R.fr b u n e), same_upd2 R.ext, R.up.trans sb, fun a u e => ?_, fun a e => ?_, R.h0, R.len, fun i d e => ?_, R.pen.same sb sh, R.pv, fun i ds h' => ?_, R.dj⟩
  · by_cases z : a = q
    · subst z; exact .inr f1
    · rw [upd_ne z] at e; exact R.new a u e
  · rw [upd_ne (fun (z : a = q) => f2 (by rw [← z]; exact e))]
    exact R.pn a e
  · obtain ⟨v, h1, h2⟩ := R.sl i d e
    exact ⟨v, h1, h2.mono sb⟩
  · obtain ⟨l, xs, h1, h2, h3, h4, h5⟩ := R.ow i ds h'
    refine ⟨l, xs, h1, sh _ _ h2, ?_, h4, h5.mono sb⟩
    rw [upd_ne (ne_of_none h2 h)]
    exact h3
theorem hush_get {i : Nat} {x : SD} (h : st.hush.δ[i]? = some x) (n : x ≠ .unk) : st.δ[i]? = some x := by
  have h : (st.δ.map hushD)[i]? = some x := h
  rw [List.getElem?_map, Option.map_eq_some_iff] at h
  obtain ⟨y, h1, h2⟩ := h
  cases y with
  | own ds => exact absurd h2.symm n
  | unk => exact absurd h2.symm n
  | dat d => rw [h1, ← h2] <;> rfl
  | pen => rw [h1, ← h2] <;> rfl
theorem hush_own {i : Nat} {ds : List PyData} (h : st.hush.δ[i]? = some (.own ds)) : False := by
  have h : (st.δ.map hushD)[i]? = some (.own ds) := h
  rw [List.getElem?_map, Option.map_eq_some_iff] at h
  obtain ⟨y, h1, h2⟩ := h
  cases y <;> cases h2
theorem hush_dat {i : Nat} {d : PyData} (h : st.hush.get i = some d) : st.get i = some d := by
  unfold S.get at h ⊢
  split at h
  · rename_i d' e
    cases h
    rw [hush_get e (by intro z; cases z)]
  · cases h
/-- the base anew -/
theorem Rel.here (R : Rel K p B0 H0 B H σ st) : Rel K p B H B H σ st.hush :=
  ⟨fun _ _ _ h => h, R.ext, Same.refl _, fun a o h => .inl ⟨o, h⟩, R.pn, fun a e => R.pen.there e, by rw [R.len]; exact (List.length_map _).symm, fun i d h => R.sl i d (hush_dat h), R.pen,
    fun i h => R.pv i (hush_get h (by intro z; cases z)), fun i ds h => (hush_own h).elim, fun i j ds es _ h => (hush_own h).elim⟩
theorem Rel.hush (R : Rel K p B0 H0 B H σ st) : Rel K p B0 H0 B H σ st.hush :=
  ⟨R.fr, R.ext, R.up, R.new, R.pn, R.h0, by rw [R.len]; exact (List.length_map _).symm, fun i d h => R.sl i d (hush_dat h), R.pen,
    fun i h => R.pv i (hush_get h (by intro z; cases z)), fun i ds h => (hush_own h).elim, fun i j ds es _ h => (hush_own h).elim⟩
/-- a list of a slot's own is no pen -/
theorem Rel.npen (R : Rel K p B0 H0 B H σ st) {l : Addr} (h : H0 l = none) : p ≠ some l := fun e => R.h0 l e h
/-- behind something that began here -/
theorem Rel.back (R : Rel K p B0 H0 B H σ st) {H1 : Hp} (e1 : Same H H1) (R' : Rel K p B H1 B' H' σ' st') : Rel K p B0 H0 B' H' σ ⟨st.δ, st'.π⟩ := by
  refine ⟨fun b o n h => R'.fr b o n (e1 _ _ (R.fr b o n h)), R'.ext, R.up.trans R'.up, fun a o h => (R'.new a o h).elim (fun ⟨o', h'⟩ => R.new a o' h') fun h' => .inr (R.free (e1.free h')).1, R'.pn, R.h0, R.len,
    fun i d e => let ⟨v, h1, h2⟩ := R.sl i d e; ⟨v, h1, h2.mono R'.up⟩, R'.pen, R.pv, fun i ds h => ?_, R.dj⟩
  obtain ⟨l, xs, h1, h2, h3, h4, h5⟩ := R.ow i ds h
  refine ⟨l, xs, h1, R'.fr l _ (R.npen h4) (e1 _ _ h2), ?_, h4, h5.mono R'.up⟩
  cases z : B' l with
  | none => rfl
  | some o =>
    rcases R'.new l o z with ⟨o', z'⟩ | z'
    · rw [h3] at z'; cases z'
    · rw [e1 _ _ h2] at z'; cases z'
theorem get_set {i j : Nat} {x d : PyData} (h : (st.set i x).get j = some d) : (j = i ∧ d = x ∧ i < st.δ.length) ∨ (j ≠ i ∧ st.get j = some d) := by
  unfold S.get S.set at h
  by_cases e : i = j
  · subst e
    by_cases l : i < st.δ.length
    · simp only [List.getElem?_set_self l] at h
      cases h
      exact .inl ⟨rfl, rfl, l⟩
    · rw [List.getElem?_eq_none (by rw [List.length_set]; omega)] at h
      cases h
  · simp only [List.getElem?_set_ne e] at h
    exact .inr ⟨fun z => e z.symm, h⟩
theorem set_other {l : List SD} {i j : Nat} {x y : SD} (n : x ≠ y) (h : (l.set i x)[j]? = some y) : i ≠ j ∧ l[j]? = some y := by
  by_cases z : i = j
  · subst z
    by_cases q : i < l.length
    · rw [List.getElem?_set_self q] at h
      exact absurd (Option.some.inj h) n
    · rw [List.getElem?_eq_none (by rw [List.length_set]; omega)] at h; cases h
  · rw [List.getElem?_set_ne z] at h
    exact ⟨z, h⟩
/-- a slot is set -/
theorem Rel.put (R : Rel K p B0 H0 B H σ st) {i : Nat} {v : V} {d : PyData} (h : Dv K B v d) : Rel K p B0 H0 B H (σ.set i (some v)) (st.set i d) := by
  refine ⟨R.fr, R.ext, R.up, R.new, R.pn, R.h0, by show (σ.set i _).length = (st.δ.set i _).length; rw [List.length_set, List.length_set, R.len], fun j x e => ?_, R.pen, fun j e => ?_, fun j ds e => ?_, fun j j' ds es n e e' => ?_⟩
  · rcases get_set e with ⟨rfl, rfl, l⟩ | ⟨n, e⟩
    · exact ⟨v, by rw [List.getElem?_set_self (by rw [R.len]; exact l)], h⟩
    · obtain ⟨w, h1, h2⟩ := R.sl j x e
      exact ⟨w, by rw [List.getElem?_set_ne (fun z => n z.symm)]; exact h1, h2⟩
  · have e : (st.δ.set i (.dat d))[j]? = some .pen := e
    by_cases z : i = j
    · subst z
      by_cases l : i < st.δ.length
      · rw [List.getElem?_set_self l] at e; cases e
      · rw [List.getElem?_eq_none (by rw [List.length_set]; omega)] at e; cases e
    · rw [List.getElem?_set_ne z] at e
      obtain ⟨a, h1, h2⟩ := R.pv j e
      exact ⟨a, h1, by rw [List.getElem?_set_ne z]; exact h2⟩
  · obtain ⟨z, e⟩ := set_other (by intro q; cases q) e
    obtain ⟨l, xs, h1, h2⟩ := R.ow j ds e
    exact ⟨l, xs, by rw [List.getElem?_set_ne z]; exact h1, h2⟩
  · obtain ⟨z, e⟩ := set_other (by intro q; cases q) e
    obtain ⟨z', e'⟩ := set_other (by intro q; cases q) e'
    rw [List.getElem?_set_ne z, List.getElem?_set_ne z']
    exact R.dj j j' ds es n e e'
/-- a slot is set to a list of its own -/
theorem Rel.putO (R : Rel K p B0 H0 B H σ st) {i : Nat} {l : Addr} {xs : List V} {ds : List PyData} (hl : H l = some (.lst xs)) (hb : B l = none) (h0 : H0 l = none) (hd : DvL K B xs ds)
    (hn : ∀ (j : Nat) es, j ≠ i → st.δ[j]? = some (.own es) → σ[j]? ≠ some (some (V.ref l))) : Rel K p B0 H0 B H (σ.set i (some (.ref l))) (st.own i ds) := by
  refine ⟨R.fr, R.ext, R.up, R.new, R.pn, R.h0, by show (σ.set i _).length = (st.δ.set i _).length; rw [List.length_set, List.length_set, R.len], fun j x e => ?_, R.pen, fun j e => ?_, fun j es e => ?_, fun j j' es es' n e e' => ?_⟩
  · unfold S.get S.own at e
    by_cases z : i = j
    · subst z
      by_cases q : i < st.δ.length
      · simp only [List.getElem?_set_self q] at e; cases e
      · rw [List.getElem?_eq_none (by rw [List.length_set]; omega)] at e; cases e
    · simp only [List.getElem?_set_ne z] at e
      obtain ⟨w, h1, h2⟩ := R.sl j x e
      exact ⟨w, by rw [List.getElem?_set_ne z]; exact h1, h2⟩
  · obtain ⟨z, e⟩ := set_other (by intro q; cases q) e
    obtain ⟨a, h1, h2⟩ := R.pv j e
    exact ⟨a, h1, by rw [List.getElem?_set_ne z]; exact h2⟩
  · by_cases z : i = j
    · subst z
      have e : (st.δ.set i (.own ds))[i]? = some (.own es) := e
      by_cases q : i < st.δ.length
      · rw [List.getElem?_set_self q] at e
        cases e
        exact ⟨l, xs, by rw [List.getElem?_set_self (by rw [R.len]; exact q)], hl, hb, h0, hd⟩
      · rw [List.getElem?_eq_none (by rw [List.length_set]; omega)] at e; cases e
    · have e : (st.δ.set i (.own ds))[j]? = some (.own es) := e
      rw [List.getElem?_set_ne z] at e
      obtain ⟨l', ys, h1, h2⟩ := R.ow j es e
      exact ⟨l', ys, by rw [List.getElem?_set_ne z]; exact h1, h2⟩
  · have e : (st.δ.set i (.own ds))[j]? = some (.own es) := e
    have e' : (st.δ.set i (.own ds))[j']? = some (.own es') := e'
    have at_i : ∀ {m : Nat} {x : SD}, (st.δ.set i (.own ds))[m]? = some x → m = i → (σ.set i (some (V.ref l)))[m]? = some (some (.ref l)) := by
      intro m x h hm
      subst hm
      by_cases q : m < st.δ.length
      · rw [List.getElem?_set_self (by rw [R.len]; exact q)]
      · rw [List.getElem?_eq_none (by rw [List.length_set]; omega)] at h; cases h
    by_cases z : i = j
    · subst z
      have z' : i ≠ j' := n
      rw [at_i e rfl, List.getElem?_set_ne z']
      rw [List.getElem?_set_ne z'] at e'
      exact fun q => hn j' es' (fun k => z' k.symm) e' q.symm
    · by_cases z' : i = j'
      · subst z'
        rw [at_i e' rfl, List.getElem?_set_ne z]
        rw [List.getElem?_set_ne z] at e
        exact hn j es (fun k => z k.symm) e
      · rw [List.getElem?_set_ne z, List.getElem?_set_ne z']
        rw [List.getElem?_set_ne z] at e
        rw [List.getElem?_set_ne z'] at e'
        exact R.dj j j' es es' n e e'
end

/-! ### data and the readings of values -/
section
variable {K : PySem.W.Frag} {B H : Hp}
theorem small_line {n : Nat} (h : small n = true) : n ≤ sizeLine := Nat.le_trans (of_decide_eq_true h) (by decide)
theorem small_lt {n : Nat} (h : small n = true) : n < sizeLine := Nat.lt_of_le_of_lt (of_decide_eq_true h) (by decide)
theorem ty_ok (e : Same B H) : ∀ {v : V} {d : PyData}, Dv K B v d → TyX K H v (.type (tyD d))
  | _, _, .non => .base .non
  | _, _, .bl b => .base (.bl b)
  | _, _, .int i => .base (.int i)
  | _, _, .str x => .base (.str x)
  | _, _, .lst h r => .base (.lst (e _ _ h))
  | _, _, .tup h r => by
    rcases h with (h | ⟨o, h⟩) | ⟨o, its, n, h, c, _⟩
    · exact .base (.tup (e _ _ h))
    · exact .fTuple (e _ _ h)
    · exact .kTuple h c
  | _, _, .dct h r => .base (.dK (e _ _ h))
theorem tru_dv (e : Same B H) : ∀ {v : V} {d : PyData} {b : Bool}, Dv K B v d → truthD d = some b → TruV K v H b
  | _, _, _, .non, h => by cases h; rfl
  | _, _, _, .bl b, h => by cases h; rfl
  | _, _, _, .int i, h => by cases h; rfl
  | _, _, b, .str x, h => by
    have h : (if x.length ≤ 100000 then some ((x.length : Int) != 0) else none) = some b := h
    split at h
    · rename_i hl
      cases h
      exact ⟨Nat.le_trans hl (by decide), rfl⟩
    · cases h
  | _, _, b, .lst (xs := xs) (ds := ds) h r, q => by
    cases q
    refine .inl ⟨xs, .of (e _ _ h), ?_⟩
    cases r <;> rfl
  | _, _, b, .tup (xs := xs) (ds := ds) h r, q => by
    cases q
    refine .inr (.inl ⟨xs, same_t e h, ?_⟩)
    cases r <;> rfl
  | _, _, _, .dct h r, q => by cases q
theorem flat_dv : ∀ {v : V} {d : PyData}, Dv K B v d → flatD d = true → flatV v = true
  | _, _, .non, _ => rfl
  | _, _, .bl b, _ => rfl
  | _, _, .int i, _ => rfl
  | _, _, .str x, _ => rfl
  | _, _, .lst h r, q => by cases q
  | _, _, .tup h r, q => by cases q
  | _, _, .dct h r, q => by cases q
theorem eq_dv {v w : V} {d e : PyData} (h : Dv K B v d) (g : Dv K B w e) (f1 : flatD d = true) (f2 : flatD e = true) : eqV v w = PyData.eqv d e := by
  cases h <;> cases g <;> first
    | rfl
    | exact nomatch f1
    | exact nomatch f2
theorem flat_dvs : ∀ {vs : List V} {ds : List PyData}, DvL K B vs ds → ds.all flatD = true → vs.all flatV = true
  | _, _, .nil, _ => rfl
  | _, _, .cons h r, q => by
    rw [List.all_cons, Bool.and_eq_true] at q ⊢
    exact ⟨flat_dv h q.1, flat_dvs r q.2⟩
theorem in_dv {x : V} {d : PyData} (g : Dv K B x d) (f : flatD d = true) : ∀ {vs : List V} {ds : List PyData}, DvL K B vs ds → ds.all flatD = true → inV x vs = ds.any fun z => PyData.eqv z d
  | _, _, .nil, _ => rfl
  | _, _, .cons h r, q => by
    rw [List.all_cons, Bool.and_eq_true] at q
    unfold inV
    rw [List.any_cons, List.any_cons, eq_dv h g q.1 f]
    congr 1
    exact in_dv g f r q.2
theorem bools_dv : ∀ {vs : List V} {ds : List PyData} {bs : List Bool}, DvL K B vs ds → boolsD ds = some bs → vs = bs.map V.bl
  | _, _, _, .nil, h => by cases h; rfl
  | _, _, bs, .cons (d := d) h r, q => by
    cases h <;> first
      | cases q
      | (simp only [boolsD, Option.map_eq_some_iff] at q
         obtain ⟨bs', h1, h2⟩ := q
         subst h2
         rw [bools_dv r h1]
         rfl)
end
end Kd

set_option Elab.async false
set_option linter.all false
set_option maxRecDepth 100000
set_option maxHeartbeats 4000000
/-! Operators, built-ins, own functions on data. -/
namespace Kd
open PySem PySem.Spec PyProof.Rows L2

/-- an operation on values that gives plain data -/
def OpOk (K : PySem.W.Frag) (r : R2) (x y z : PyData) : Prop := ∀ (B H : Hp) (v w : V), Same B H → Dv K B v x → Dv K B w y → ∀ Q : VK, (∀ u, Dv K B u z → Q u H) → r v w H Q
theorem opok_I0 {K : PySem.W.Frag} {g : Int → Int → V} {i j : Int} {z : PyData} (h : ∀ B, Dv K B (g i j) z) : OpOk K (rI0 g) (.int i) (.int j) z := fun B H v w e d1 d2 Q q => by
  cases d1; cases d2
  exact ⟨i, j, rfl, rfl, q _ (h B)⟩
theorem opok_I {K : PySem.W.Frag} {C : Int → Int → Prop} {g : Int → Int → V} {i j : Int} {z : PyData} (hc : C i j) (h : ∀ B, Dv K B (g i j) z) : OpOk K (rI C g) (.int i) (.int j) z := fun B H v w e d1 d2 Q q => by
  cases d1; cases d2
  exact ⟨i, j, rfl, rfl, hc, q _ (h B)⟩
theorem ite_some {c : Prop} [Decidable c] {α : Type} {a z : α} (h : (if c then some a else none) = some z) : c ∧ a = z := by
  split at h
  · rename_i hc
    exact ⟨hc, Option.some.inj h⟩
  · cases h
theorem bin_ok {X : Cx} {op : Operator} {x y z : PyData} (h : binD op x y = some z) : ∃ r, OpR X (binaryOp op) r ∧ OpOk X.K r x y z := by
  unfold binD at h
  split at h
  · cases h; exact ⟨_, op_add, opok_I0 fun B => .int _⟩
  · cases h; exact ⟨_, op_sub, opok_I0 fun B => .int _⟩
  · obtain ⟨hc, rfl⟩ := ite_some h; exact ⟨_, op_mul, opok_I hc fun B => .int _⟩
  · obtain ⟨hc, rfl⟩ := ite_some h; exact ⟨_, op_fdiv, opok_I hc fun B => .int _⟩
  · obtain ⟨hc, rfl⟩ := ite_some h; exact ⟨_, op_mod, opok_I hc fun B => .int _⟩
  · obtain ⟨hc, rfl⟩ := ite_some h; exact ⟨_, op_pow, opok_I hc fun B => .int _⟩
  · obtain ⟨hc, rfl⟩ := ite_some h
    exact ⟨_, op_add_str, fun B H v w e d1 d2 Q q => by cases d1; cases d2; exact ⟨_, _, rfl, rfl, small_line hc, q _ (.str _)⟩⟩
  · cases h
theorem nodict_shaped {d : PyData} (h : SeqAt.shaped d = true) : d.hasDict = false := PyData.hasDict_of_canLay d (SeqAt.canLay_of_shaped h)
theorem cmp_ok {X : Cx} (hu : X.A.units + 65 < cLine) {op : CmpOp} {x y : PyData} {b : Bool} (h : cmpD op x y = some b) : ∃ r, OpR X (compareOp op) r ∧ OpOk X.K r x y (.bool b) := by
  have hu' : X.A.units + 64 < cLine := by omega
  unfold cmpD at h
  split at h
  · cases h
    refine ⟨_, op_isN, fun B H v w e d1 d2 Q q => ?_⟩
    cases d2
    refine ⟨rfl, q _ ?_⟩
    cases d1 <;> exact .bl _
  · cases h
    refine ⟨_, op_notN, fun B H v w e d1 d2 Q q => ?_⟩
    cases d2
    refine ⟨rfl, q _ ?_⟩
    cases d1 <;> exact .bl _
  · cases h; exact ⟨_, op_lt, opok_I0 fun B => .bl _⟩
  · cases h; exact ⟨_, op_le, opok_I0 fun B => .bl _⟩
  · cases h; exact ⟨_, op_gt, opok_I0 fun B => .bl _⟩
  · cases h; exact ⟨_, op_ge, opok_I0 fun B => .bl _⟩
  · cases h
    refine ⟨_, op_eq, fun B H v w e d1 d2 Q q => ?_⟩
    cases d1; cases d2
    rename_i s t
    refine ⟨rfl, q _ ?_⟩
    have e1 : decide (V.str s = V.str t) = (s == t) := by
      by_cases z : s = t
      · subst z; simp
      · rw [decide_eq_false (fun k => z (V.str.inj k))]
        exact (beq_eq_false_iff_ne.mpr z).symm
    rw [e1]
    exact .bl _
  · cases h
    refine ⟨_, op_ne, fun B H v w e d1 d2 Q q => ?_⟩
    cases d1; cases d2
    rename_i s t
    refine ⟨rfl, q _ ?_⟩
    have e1 : decide (V.str s = V.str t) = (s == t) := by
      by_cases z : s = t
      · subst z; simp
      · rw [decide_eq_false (fun k => z (V.str.inj k))]
        exact (beq_eq_false_iff_ne.mpr z).symm
    rw [e1]
    exact .bl _
  · obtain ⟨hc, rfl⟩ := ite_some h
    rw [Bool.and_eq_true] at hc
    exact ⟨_, op_eqD hu', fun B H v w e d1 d2 Q q => ⟨_, _, d1.dp e (nodict_shaped hc.1), d2.dp e (nodict_shaped hc.2), hc.1, hc.2, q _ (.bl _)⟩⟩
  · obtain ⟨hc, rfl⟩ := ite_some h
    rw [Bool.and_eq_true] at hc
    exact ⟨_, op_neD hu', fun B H v w e d1 d2 Q q => ⟨_, _, d1.dp e (nodict_shaped hc.1), d2.dp e (nodict_shaped hc.2), hc.1, hc.2, q _ (.bl _)⟩⟩
  · cases h
    exact ⟨_, op_in_str, fun B H v w e d1 d2 Q q => by cases d1; cases d2; exact ⟨_, _, rfl, rfl, q _ (.bl _)⟩⟩
  · rename_i d ds _
    split at h
    · rename_i hc
      rw [Bool.and_eq_true] at hc
      cases h
      refine ⟨_, op_in_seq, fun B H v w e d1 d2 Q q => ?_⟩
      cases d2 with
      | lst hs r =>
        refine ⟨_, _, rfl, .inl (.of (e _ _ hs)), flat_dv d1 hc.1, flat_dvs r hc.2, q _ ?_⟩
        rw [if_neg Bool.false_ne_true, in_dv d1 hc.1 r hc.2]
        exact .bl _
    · obtain ⟨hc, rfl⟩ := ite_some h
      rw [Bool.and_eq_true] at hc
      exact ⟨_, op_inD hu, fun B H v w e d1 d2 Q q => ⟨_, _, d1.dp e (nodict_shaped hc.1), d2.dp e (nodict_shaped hc.2), hc.1, hc.2, q _ (.bl _)⟩⟩
  · rename_i d ds _
    obtain ⟨hc, rfl⟩ := ite_some h
    rw [Bool.and_eq_true] at hc
    refine ⟨_, op_in_seq, fun B H v w e d1 d2 Q q => ?_⟩
    cases d2 with
    | tup hs r =>
      refine ⟨_, _, rfl, .inr (same_t e hs), flat_dv d1 hc.1, flat_dvs r hc.2, q _ ?_⟩
      rw [if_neg Bool.false_ne_true, in_dv d1 hc.1 r hc.2]
      exact .bl _
  · cases h

/-- a built-in of one argument on data: its answer is plain, or a new object -/
def CallOk (K : PySem.W.Frag) (r : List V → Hp → VK → Prop) (x z : PyData) : Prop := ∀ (B H : Hp) (v : V), Same B H → Dv K B v x → ∀ Q : VK, (∀ u, Dv K B u z → Q u H) →
  (∀ q o, H q = none → (∀ B', Same B B' → Same B' (upd H q o) → B' q = some o → Dv K B' (.ref q) z) → Q (.ref q) (upd H q o)) → r [v] H Q
theorem showb_str (b : Bool) : PyData.shown (.bool b) = if b then ("True" : Str) else "False" := by simp only [PyData.shown]
theorem call_repr {X : Cx} (hg : X.A.guards = some []) (hu : X.A.units + 64 < cLine) : CallR X (.builtin "repr") (fun xs H Q => ∃ v d, xs = [v] ∧ Dp X.K H v d ∧ d.showable = true ∧ d.hasDict = false ∧ d.shown.length ≤ sizeLine ∧ d.depth ≤ 60 ∧ Q (.str d.shown) H) := by
  intro pins s σ H xs us Q I r h
  obtain ⟨v, d, rfl, dp, hs, hn, hl, hd, q⟩ := h
  obtain ⟨u, rfl, rv⟩ := vals1 r
  obtain ⟨as, rd⟩ := Dp.reads I d v u dp rv
  have fin : ∀ (h' : Heap) (u' : Tok) (tk : Nat), (∀ b o, s.heap.get? b = some o → h'.get? b = some o) → EP X pins σ Q (.str d.shown u') { s with heap := h', toks := tk } := fun h' u' tk k =>
    ⟨.str _, H, I.kept (t' := tk) k, ⟨_, rfl⟩, q⟩
  cases rd with
  | none => simp only [PyData.shown] at fin; exact PySem.P.repr_of_none (fin s.heap _ _ fun _ _ e => e)
  | bool b => simp only [PyData.shown] at fin; exact PySem.P.repr_of_bool (fin s.heap _ _ fun _ _ e => e)
  | int i t => simp only [PyData.shown] at fin; exact PySem.P.repr_of_int (by simpa [PyData.showable] using hs) (fin s.heap _ _ fun _ _ e => e)
  | str x t => simp only [PyData.shown] at fin hl; exact PySem.P.repr_of_str (fin s.heap _ _ fun _ _ e => e) hl
  | list a b c e => exact repr_of_reads' (.list a b c e) hs (fun z => by rw [hn] at z; cases z) hg (by omega) (fun _ _ z => z) fin hl
  | tuple a b c e => exact repr_of_reads' (.tuple a b c e) hs (fun z => by rw [hn] at z; cases z) hg (by omega) (fun _ _ z => z) fin hl
  | dict a b c e f => simp [PyData.hasDict] at hn

inductive BtV
  | fn (id : String)
  | ty (n : String)
def btV : Bt → BtV
  | .len => .fn "len"
  | .all => .fn "all"
  | .any => .fn "any"
  | .repr => .fn "repr"
  | .toTup => .ty "tuple"
  | .toList => .ty "list"
  | .toInt => .ty "int"
  | .abs => .fn "abs"
def BtV.val : BtV → Value
  | .fn id => .builtin id
  | .ty n => .type n
theorem list_dv {K : PySem.W.Frag} {B : Hp} {v : V} {ds : List PyData} (h : Dv K B v (.list ds)) : ∃ a xs, v = .ref a ∧ SqL K B a xs ∧ DvL K B xs ds := by
  cases h with
  | lst h r => exact ⟨_, _, rfl, .of h, r⟩
theorem tup_dv {K : PySem.W.Frag} {B : Hp} {v : V} {ds : List PyData} (h : Dv K B v (.tuple ds)) : ∃ a xs, v = .ref a ∧ SqT K B a xs ∧ DvL K B xs ds := by
  cases h with
  | tup h r => exact ⟨_, _, rfl, h, r⟩
theorem blt_ok {X : Cx} (hc : X.calm = true) (hg : X.A.guards = some []) (hu : X.A.units + 65 < cLine) {b : Bt} {x z : PyData} (h : bltD b x = some z) :
    ∃ r, CallR X (btV b).val r ∧ CallOk X.K r x z := by
  unfold bltD at h
  split at h
  · cases h
    refine ⟨_, call_len_seq, fun B H v e d Q q _ => ?_⟩
    obtain ⟨a, xs, rfl, hs, r⟩ := list_dv d
    exact ⟨_, _, rfl, .inl (e.seq hs), q _ (by rw [r.length]; exact .int _)⟩
  · cases h
    refine ⟨_, call_len_seq, fun B H v e d Q q _ => ?_⟩
    obtain ⟨a, xs, rfl, hs, r⟩ := tup_dv d
    exact ⟨_, _, rfl, .inr (same_t e hs), q _ (by rw [r.length]; exact .int _)⟩
  · obtain ⟨hs, rfl⟩ := ite_some h
    refine ⟨_, call_len_str, fun B H v e d Q q _ => ?_⟩
    cases d
    exact ⟨_, rfl, small_line hs, q _ (.int _)⟩
  · obtain ⟨bs, h1, rfl⟩ := Option.map_eq_some_iff.mp h
    refine ⟨_, cr_all hc, fun B H v e d Q q _ => ?_⟩
    obtain ⟨a, xs, rfl, hs, r⟩ := list_dv d
    refine ⟨a, bs, rfl, ?_, q _ (.bl _)⟩
    rw [← bools_dv r h1]
    exact e.seq hs
  · obtain ⟨bs, h1, rfl⟩ := Option.map_eq_some_iff.mp h
    refine ⟨_, cr_any hc, fun B H v e d Q q _ => ?_⟩
    obtain ⟨a, xs, rfl, hs, r⟩ := list_dv d
    refine ⟨a, bs, rfl, ?_, q _ (.bl _)⟩
    rw [← bools_dv r h1]
    exact e.seq hs
  · obtain ⟨hs, rfl⟩ := ite_some h
    simp only [Bool.and_eq_true, Bool.not_eq_true', decide_eq_true_eq] at hs
    obtain ⟨⟨⟨h1, h2⟩, h3⟩, h4⟩ := hs
    refine ⟨_, call_repr hg (by omega), fun B H v e d Q q _ => ?_⟩
    exact ⟨_, _, rfl, d.dp e h2, h1, h2, small_line h3, h4, q _ (.str _)⟩
  · cases h
    refine ⟨_, call_tuple_of, fun B H v e d Q q q2 => ?_⟩
    obtain ⟨a, xs, rfl, hs, r⟩ := list_dv d
    exact ⟨_, _, rfl, .inl ⟨e.seq hs, fun l hl => q2 l _ hl fun B' s1 s2 hb => .tup (.of hb) (r.mono s1)⟩⟩
  · cases h
    refine ⟨_, call_tuple_of, fun B H v e d Q q q2 => ?_⟩
    obtain ⟨a, xs, rfl, hs, r⟩ := tup_dv d
    exact ⟨_, _, rfl, .inr ⟨same_t e hs, q _ d⟩⟩
  · cases h
    refine ⟨_, call_list_of, fun B H v e d Q q q2 => ?_⟩
    obtain ⟨a, xs, rfl, hs, r⟩ := list_dv d
    exact ⟨_, _, rfl, .inl (e.seq hs), fun l hl => q2 l _ hl fun B' s1 s2 hb => .lst hb (r.mono s1)⟩
  · cases h
    refine ⟨_, call_list_of, fun B H v e d Q q q2 => ?_⟩
    obtain ⟨a, xs, rfl, hs, r⟩ := tup_dv d
    exact ⟨_, _, rfl, .inr (same_t e hs), fun l hl => q2 l _ hl fun B' s1 s2 hb => .lst hb (r.mono s1)⟩
  · cases h
    refine ⟨_, call_int1, fun B H v e d Q q _ => ?_⟩
    cases d
    exact .inl ⟨_, rfl, q _ (.int _)⟩
  · cases h
    refine ⟨_, call_int1, fun B H v e d Q q _ => ?_⟩
    cases d
    exact .inr ⟨_, rfl, q _ (.int _)⟩
  · cases h
    refine ⟨_, call_abs, fun B H v e d Q q _ => ?_⟩
    cases d
    exact ⟨_, rfl, q _ (.int _)⟩
  · cases h
theorem atI_dv {K : PySem.W.Frag} {B : Hp} {xs : List V} {ds : List PyData} {i : Int} {d : PyData} (r : DvL K B xs ds) (h : atI ds i = some d) : ∃ v, atI xs i = some v ∧ Dv K B v d := by
  unfold atI at h ⊢
  rw [r.length]
  cases e : ixN ds.length i with
  | none => rw [e] at h; cases h
  | some j =>
    rw [e] at h
    obtain ⟨v, h1, h2⟩ := r.get' h
    exact ⟨v, h1, h2⟩
theorem sub_ok {X : Cx} {x y z : PyData} (h : subD x y = some z) : ∃ r, IxR X r ∧ OpOk X.K r x y z := by
  unfold subD at h
  split at h
  · refine ⟨_, ix_list, fun B H v w e d1 d2 Q q => ?_⟩
    obtain ⟨a, xs, rfl, hs, r⟩ := list_dv d1
    cases d2
    obtain ⟨u, h1, h2⟩ := atI_dv r h
    exact ⟨a, xs, _, u, rfl, rfl, e.seq hs, h1, q u h2⟩
  · refine ⟨_, ix_tup, fun B H v w e d1 d2 Q q => ?_⟩
    obtain ⟨a, xs, rfl, hs, r⟩ := tup_dv d1
    cases d2
    obtain ⟨u, h1, h2⟩ := atI_dv r h
    exact ⟨a, xs, _, u, rfl, rfl, same_t e hs, h1, q u h2⟩
  · cases h
end Kd

set_option Elab.async false
set_option linter.all false
set_option maxRecDepth 100000
set_option maxHeartbeats 4000000
/-! The text and its code (Cor), and that the code's answer is the text's (sound). -/
namespace Kd
open PySem PySem.Spec PyProof.Rows L2

/-! ### promises on data -/
def New (B H B' : Hp) : Prop := ∀ a o, B' a = some o → (∃ o', B a = some o') ∨ H a = none
/-- a def on data: no more than new objects -/
def SpF (K : PySem.W.Frag) (m : List PyData → Option PyData) : Sp := fun vs H Q _ => ∃ ds d B, Same B H ∧ DvL K B vs ds ∧ m ds = some d ∧
  ∀ v B' H', Same B B' → Same B' H' → Same H H' → New B H B' → Dv K B' v d → Q v H'
/-- a def that draws: the pen first -/
def SpP (K : PySem.W.Frag) (m : List PyData → Pen → Option (PyData × Pen)) : Sp := fun vs H Q _ => ∃ a ws ds d B p p', vs = .ref a :: ws ∧ B a = none ∧ Same B H ∧ PenAt K B H a p ∧ DvL K B ws ds ∧ m ds p = some (d, p') ∧
  ∀ v B' H', Same B B' → Same B' H' → (∀ b o, b ≠ a → H b = some o → H' b = some o) → New B H B' → PenAt K B' H' a p' → Dv K B' v d → Q v H'

structure En where
  x : Str
  n : Nat
  ks : List Str
  pm : List Nat
structure Gam where
  bs : List Str
  gs : List (Str × PyData)
  es : List En
  ps : List Str
structure FnF (P : Program) (w : World) (K : PySem.W.Frag) (mg : Str → Option Value) (base : Heap) (k : Nat) (e : En) (m : List PyData → Option PyData) : Prop where
  ex : ∃ f fd ps m0, mg e.x = some (.ref f) ∧ PySem.W.keepIn K (.ref f) = true ∧ FG P w K mg base CX0 k f fd ps (SpF K m0) ∧ (∀ ds d, m ds = some d → m0 (pick e.pm ds) = some d) ∧
    (∀ (s : Shared) (us ws : List Value), K.In s.heap → us.length = e.n → ws.length = e.ks.length → BindsTo s fd ⟨us, e.ks.zip ws⟩ (ps.zip (pick e.pm (us ++ ws))))
structure PfF (P : Program) (w : World) (K : PySem.W.Frag) (mg : Str → Option Value) (base : Heap) (k : Nat) (x : Str) (m : List PyData → Pen → Option (PyData × Pen)) : Prop where
  ex : ∃ f fd ps, mg x = some (.ref f) ∧ PySem.W.keepIn K (.ref f) = true ∧ FG P w K mg base CX0 k f fd ps (SpP K m) ∧ Binds K fd ps []
/-- what a body leans on -/
structure Ok (Γ : Gam) (F : Fns) (N : List Str) (k : Nat) (X : Cx) : Prop where
  hN : X.N = N
  calm : X.calm = true
  nd : N.Nodup
  room : Room k X.A
  gd : X.A.guards = some []
  bl : ∀ x ∈ Γ.bs, X.mg x = none
  gl : ∀ (i : Nat) x d, Γ.gs[i]? = some (x, d) → ∃ v u, X.mg x = some u ∧ RelV v u ∧ ∀ B, Dv X.K B v d
  fn : ∀ i e, Γ.es[i]? = some e → FnF X.prog X.w X.K X.mg X.base k e (F.fn i)
  pf : ∀ i x, Γ.ps[i]? = some x → PfF X.prog X.w X.K X.mg X.base k x (F.pf i)

/-! ### the text and its code -/
def Pl (sc : Scope) (x : Str) : Prop := sc.names.lookup x = some .globalImplicit
mutual
inductive Cor (Γ : Gam) (N : List Str) : Scope → Expr → C → Prop
  | var {sc : Scope} {x : Str} {pos : Pos} {i : Nat} (h : N[i]? = some x) (hv : Vis sc x) (h1 : (x == ("__debug__" : Str)) = false) (h2 : (x == ("__classdict__" : Str)) = false) : Cor Γ N sc (.Name x pos) (.var i)
  | int {sc : Scope} {i : Int} {j : Nat} {pos : Pos} : Cor Γ N sc (.Constant (.int i) j pos) (.cst (.int i))
  | bl {sc : Scope} {b : Bool} {j : Nat} {pos : Pos} : Cor Γ N sc (.Constant (.bool b) j pos) (.cst (.bool b))
  | non {sc : Scope} {j : Nat} {pos : Pos} : Cor Γ N sc (.Constant .none j pos) (.cst .none)
  | str {sc : Scope} {x : Str} {j : Nat} {pos : Pos} : Cor Γ N sc (.Constant (.str x) j pos) (.cst (.str x))
  | glb {sc : Scope} {x : Str} {pos : Pos} {d : PyData} (i : Nat) (h : Pl sc x) (hm : Γ.gs[i]? = some (x, d)) (h1 : (x == ("__debug__" : Str)) = false) : Cor Γ N sc (.Name x pos) (.glb d)
  | one {sc : Scope} {op : BoolOp} {a : Expr} {pos : Pos} {ca : C} (ha : Cor Γ N sc a ca) : Cor Γ N sc (.BoolOp op [a] pos) ca
  | and_ {sc : Scope} {a b : Expr} {rest : List Expr} {pos : Pos} {ca cb : C} (ha : Cor Γ N sc a ca) (hb : Cor Γ N sc (.BoolOp .And (b :: rest) pos) cb) : Cor Γ N sc (.BoolOp .And (a :: b :: rest) pos) (.and_ ca cb)
  | or_ {sc : Scope} {a b : Expr} {rest : List Expr} {pos : Pos} {ca cb : C} (ha : Cor Γ N sc a ca) (hb : Cor Γ N sc (.BoolOp .Or (b :: rest) pos) cb) : Cor Γ N sc (.BoolOp .Or (a :: b :: rest) pos) (.or_ ca cb)
  | not_ {sc : Scope} {a : Expr} {pos : Pos} {ca : C} (ha : Cor Γ N sc a ca) : Cor Γ N sc (.UnaryOp .Not a pos) (.not_ ca)
  | ite {sc : Scope} {t a b : Expr} {pos : Pos} {ct ca cb : C} (ht : CorT Γ N sc t ct) (ha : Cor Γ N sc a ca) (hb : Cor Γ N sc b cb) : Cor Γ N sc (.IfExp t a b pos) (.ite ct ca cb)
  | bin {sc : Scope} {op : Operator} {a b : Expr} {pos : Pos} {ca cb : C} (ha : Cor Γ N sc a ca) (hb : Cor Γ N sc b cb) : Cor Γ N sc (.BinOp a op b pos) (.bin op ca cb)
  | cat {sc : Scope} {a b : Expr} {pos : Pos} {ca cb : C} (ha : Cor Γ N sc a ca) (hb : Cor Γ N sc b cb) : Cor Γ N sc (.BinOp a .Add b pos) (.cat ca cb)
  | neg {sc : Scope} {a : Expr} {pos : Pos} {ca : C} (ha : Cor Γ N sc a ca) : Cor Γ N sc (.UnaryOp .USub a pos) (.neg ca)
  | cmp {sc : Scope} {op : CmpOp} {a b : Expr} {pos : Pos} {ca cb : C} (ha : Cor Γ N sc a ca) (hb : Cor Γ N sc b cb) (hm : behindInMarks op b = false) : Cor Γ N sc (.Compare a [op] [b] pos) (.cmp op ca cb)
  | chain {sc : Scope} {o1 o2 : CmpOp} {a b c : Expr} {pos : Pos} {ca cb cc : C} (ha : Cor Γ N sc a ca) (hb : Cor Γ N sc b cb) (hc : Cor Γ N sc c cc) (hm : lastMarks [o1, o2] [b, c] = false) : Cor Γ N sc (.Compare a [o1, o2] [b, c] pos) (.chain o1 o2 ca cb cc)
  | tup {sc : Scope} {es : List Expr} {k : Nat} {pos : Pos} {cs : Cs} (h : CorL Γ N sc es cs) : Cor Γ N sc (.Tuple es k pos) (.tup cs)
  | lst {sc : Scope} {es : List Expr} {pos : Pos} {cs : Cs} (h : CorL Γ N sc es cs) : Cor Γ N sc (.List es pos) (.lst cs)
  | dct1 {sc : Scope} {v : Expr} {x : Str} {j : Nat} {p1 pos : Pos} {cv : C} (h : Cor Γ N sc v cv) : Cor Γ N sc (.Dict [some (.Constant (.str x) j p1)] [v] pos) (.dct1 x cv)
  | lset {sc : Scope} {a : Expr} {p p2 q pos : Pos} {ca : C} (ha : Cor Γ N sc a ca) (h1 : Pl sc "len") (h2 : ("len" : Str) ∈ Γ.bs) (h3 : Pl sc "set") (h4 : ("set" : Str) ∈ Γ.bs) (hs : ∀ env, starEach [a] env = (false, eval a env) :: starEach [] env) :
    Cor Γ N sc (.Call (.Name "len" p) [.Call (.Name "set" p2) [a] [] q] [] pos) (.lset ca)
  | lenO {sc : Scope} {i : Nat} {x : Str} {p p2 pos : Pos} (hx : N[i]? = some x) (hv : Vis sc x) (h3 : (x == ("__debug__" : Str)) = false) (h4 : (x == ("__classdict__" : Str)) = false) (h1 : Pl sc "len") (h2 : ("len" : Str) ∈ Γ.bs) : Cor Γ N sc (.Call (.Name "len" p) [.Name x p2] [] pos) (.lenO i)
  | neO {sc : Scope} {i : Nat} {x : Str} {p p2 pos : Pos} (hx : N[i]? = some x) (hv : Vis sc x) (h3 : (x == ("__debug__" : Str)) = false) (h4 : (x == ("__classdict__" : Str)) = false) : Cor Γ N sc (.Compare (.Name x p) [.NotEq] [.List [] p2] pos) (.neO i)
  | popO {sc : Scope} {i : Nat} {x : Str} {e : Expr} {p ap cp : Pos} {c : C} (hx : N[i]? = some x) (hv : Vis sc x) (h3 : (x == ("__debug__" : Str)) = false) (h4 : (x == ("__classdict__" : Str)) = false) (he : Cor Γ N sc e c) (hl : (ap.endLine == cp.line) = true)
    (hs : ∀ env, starEach [e] env = (false, eval e env) :: starEach [] env) : Cor Γ N sc (.Call (.Attribute (.Name x p) "pop" ap) [e] [] cp) (.popO i c)
  | frz {sc : Scope} {i : Nat} {x : Str} {p : Pos} (hx : N[i]? = some x) (hv : Vis sc x) (h3 : (x == ("__debug__" : Str)) = false) (h4 : (x == ("__classdict__" : Str)) = false) : Cor Γ N sc (.Name x p) (.frz i)
  | penG {sc : Scope} {j n : Nat} {k : Int} {y : Str} {p p2 pos : Pos} (hx : N[j]? = some y) (hv : Vis sc y) (h3 : (y == ("__debug__" : Str)) = false) (h4 : (y == ("__classdict__" : Str)) = false) (hk : k = 1 ∨ k = 2) : Cor Γ N sc (.Subscript (.Name y p) (.Constant (.int k) n p2) pos) (.penG j k.toNat)
  | penAt {sc : Scope} {j n : Nat} {y : Str} {e : Expr} {p p2 p3 pos : Pos} {c : C} (hx : N[j]? = some y) (hv : Vis sc y) (h3 : (y == ("__debug__" : Str)) = false) (h4 : (y == ("__classdict__" : Str)) = false) (he : Cor Γ N sc e c) (hp : PlainIx e) :
    Cor Γ N sc (.Subscript (.Subscript (.Name y p) (.Constant (.int 0) n p2) p3) e pos) (.penAt j c)
  | penLen {sc : Scope} {j n : Nat} {y : Str} {p0 p p2 p3 pos : Pos} (hx : N[j]? = some y) (hv : Vis sc y) (h3 : (y == ("__debug__" : Str)) = false) (h4 : (y == ("__classdict__" : Str)) = false) (h1 : Pl sc "len") (h2 : ("len" : Str) ∈ Γ.bs) :
    Cor Γ N sc (.Call (.Name "len" p0) [.Subscript (.Name y p) (.Constant (.int 0) n p2) p3] [] pos) (.penLen j)
  | isi1 {sc : Scope} {a : Expr} {t : Str} {T : String} {p p2 pos : Pos} {ca : C} (ha : Cor Γ N sc a ca) (h1 : Pl sc "isinstance") (h2 : ("isinstance" : Str) ∈ Γ.bs) (h3 : Pl sc t) (h4 : t ∈ Γ.bs) (h5 : bootBuiltins t = some (.type T)) (h6 : t ≠ "__name__") (h7 : (t == ("__debug__" : Str)) = false)
    (hs : ∀ env, starEach [a, .Name t p2] env = (false, eval a env) :: starEach [.Name t p2] env) : Cor Γ N sc (.Call (.Name "isinstance" p) [a, .Name t p2] [] pos) (.isi ca [T])
  | isi2 {sc : Scope} {a : Expr} {t t' : Str} {T T' : String} {p p2 p3 p4 pos : Pos} {k : Nat} {ca : C} (ha : Cor Γ N sc a ca) (h1 : Pl sc "isinstance") (h2 : ("isinstance" : Str) ∈ Γ.bs) (h3 : Pl sc t) (h4 : t ∈ Γ.bs) (h5 : bootBuiltins t = some (.type T)) (h6 : t ≠ "__name__") (h7 : (t == ("__debug__" : Str)) = false)
    (h3' : Pl sc t') (h4' : t' ∈ Γ.bs) (h5' : bootBuiltins t' = some (.type T')) (h6' : t' ≠ "__name__") (h7' : (t' == ("__debug__" : Str)) = false)
    (hs : ∀ env, starEach [a, .Tuple [.Name t p2, .Name t' p3] k p4] env = (false, eval a env) :: starEach [.Tuple [.Name t p2, .Name t' p3] k p4] env) : Cor Γ N sc (.Call (.Name "isinstance" p) [a, .Tuple [.Name t p2, .Name t' p3] k p4] [] pos) (.isi ca [T, T'])
  | call {sc : Scope} {i n : Nat} {x : Str} {pm : List Nat} {es : List Expr} {p pos : Pos} {cs : Cs} (he : Γ.es[i]? = some ⟨x, n, [], pm⟩) (h : CorL Γ N sc es cs) (hn : es.length = n) (h1 : Pl sc x) (h2 : (x == ("__debug__" : Str)) = false) : Cor Γ N sc (.Call (.Name x p) es [] pos) (.call i cs)
  | callK {sc : Scope} {i : Nat} {x : Str} {ks : List Str} {pm : List Nat} {kws : List Keyword} {es : List Expr} {p pos : Pos} {cs : Cs} (he : Γ.es[i]? = some ⟨x, 0, ks, pm⟩) (hv : kws.map (fun k => k.value) = es) (h : CorL Γ N sc es cs) (hk : kws.map (fun k => k.arg) = ks.map some) (h1 : Pl sc x) (h2 : (x == ("__debug__" : Str)) = false) :
    Cor Γ N sc (.Call (.Name x p) [] kws pos) (.call i cs)
  | pcall {sc : Scope} {i j : Nat} {x y : Str} {es : List Expr} {p p2 pos : Pos} {cs : Cs} (hx : Γ.ps[i]? = some x) (hy : N[j]? = some y) (hv : Vis sc y) (h : CorL Γ N sc es cs) (h1 : Pl sc x) (h2 : (x == ("__debug__" : Str)) = false) (h3 : (y == ("__debug__" : Str)) = false) (h4 : (y == ("__classdict__" : Str)) = false) :
    Cor Γ N sc (.Call (.Name x p) (.Name y p2 :: es) [] pos) (.pcall i j cs)
  | bltF {sc : Scope} {b : Bt} {id : String} {x : Str} {a : Expr} {p pos : Pos} {ca : C} (hb : btV b = .fn id) (ha : Cor Γ N sc a ca) (h1 : Pl sc x) (h2 : x ∈ Γ.bs) (h3 : bootBuiltins x = some (.builtin id)) (h4 : x ≠ "__name__") (h5 : (x == ("__debug__" : Str)) = false)
    (hs : ∀ env, starEach [a] env = (false, eval a env) :: starEach [] env) : Cor Γ N sc (.Call (.Name x p) [a] [] pos) (.blt b ca)
  | bltT {sc : Scope} {b : Bt} {id : String} {x : Str} {a : Expr} {p pos : Pos} {ca : C} (hb : btV b = .ty id) (ha : Cor Γ N sc a ca) (h1 : Pl sc x) (h2 : x ∈ Γ.bs) (h3 : bootBuiltins x = some (.type id)) (h4 : x ≠ "__name__") (h5 : (x == ("__debug__" : Str)) = false)
    (hs : ∀ env, starEach [a] env = (false, eval a env) :: starEach [] env) : Cor Γ N sc (.Call (.Name x p) [a] [] pos) (.blt b ca)
  | comp {sc scope : Scope} {i : Nat} {x : Str} {elt iter : Expr} {p pos : Pos} {ce : C} {ci : Ci} (hi : CorI Γ N sc iter ci) (hb : BlkOk N sc scope [(x, i)]) (hx : N[i]? = some x) (hl : (relS scope sc).names.lookup x = some .local) (he : Cor Γ N (relS scope sc) elt ce)
    (hs : ∀ env v, foldedSetIterable iter env v = pure v) : Cor Γ N sc (.ListComp elt [⟨.Name x p, iter, [], 0⟩] scope pos) (.comp ce i ci)
  | sub {sc : Scope} {a i : Expr} {pos : Pos} {ca ci : C} (ha : Cor Γ N sc a ca) (hi : Cor Γ N sc i ci) (hs : PlainIx i) : Cor Γ N sc (.Subscript a i pos) (.sub ca ci)
  | upto {sc : Scope} {a n : Expr} {p pos : Pos} {ca cn : C} (ha : Cor Γ N sc a ca) (hn : Cor Γ N sc n cn) : Cor Γ N sc (.Subscript a (.Slice none (some n) none p) pos) (.upto ca cn)
inductive CorT (Γ : Gam) (N : List Str) : Scope → Expr → C → Prop
  | val {sc : Scope} {e : Expr} {c : C} (h : Cor Γ N sc e c) (he : ∀ env whole, isTrue e env whole = (do let v ← whole; standAt e.pos; holding [v] (truthy v))) : CorT Γ N sc e c
  | not_ {sc : Scope} {a : Expr} {pos : Pos} {ca : C} (ha : CorT Γ N sc a ca) : CorT Γ N sc (.UnaryOp .Not a pos) (.not_ ca)
  | cmp {sc : Scope} {op : CmpOp} {a b : Expr} {pos : Pos} {ca cb : C} (ha : Cor Γ N sc a ca) (hb : Cor Γ N sc b cb) (hm : behindInMarks op b = false) : CorT Γ N sc (.Compare a [op] [b] pos) (.cmp op ca cb)
  | chain {sc : Scope} {o1 o2 : CmpOp} {a b c : Expr} {pos : Pos} {ca cb cc : C} (ha : Cor Γ N sc a ca) (hb : Cor Γ N sc b cb) (hc : Cor Γ N sc c cc) (hm : lastMarks [o1, o2] [b, c] = false) : CorT Γ N sc (.Compare a [o1, o2] [b, c] pos) (.chain o1 o2 ca cb cc)
  | neO {sc : Scope} {i : Nat} {x : Str} {p p2 pos : Pos} (hx : N[i]? = some x) (hv : Vis sc x) (h3 : (x == ("__debug__" : Str)) = false) (h4 : (x == ("__classdict__" : Str)) = false) : CorT Γ N sc (.Compare (.Name x p) [.NotEq] [.List [] p2] pos) (.neO i)
  | penNe {sc : Scope} {j n : Nat} {y : Str} {p p2 p3 p4 pos : Pos} (hx : N[j]? = some y) (hv : Vis sc y) (h3 : (y == ("__debug__" : Str)) = false) (h4 : (y == ("__classdict__" : Str)) = false) :
    CorT Γ N sc (.Compare (.Subscript (.Name y p) (.Constant (.int 0) n p2) p3) [.NotEq] [.List [] p4] pos) (.penNe j)
  | bool {sc : Scope} {e : Expr} {c : C} (h : CorW Γ N sc e c) : CorT Γ N sc e c
inductive CorW (Γ : Gam) (N : List Str) : Scope → Expr → C → Prop
  | one {sc : Scope} {op : BoolOp} {a : Expr} {pos : Pos} {ca : C} (ha : CorT Γ N sc a ca) : CorW Γ N sc (.BoolOp op [a] pos) ca
  | and_ {sc : Scope} {a b : Expr} {rest : List Expr} {pos : Pos} {ca cb : C} (ha : CorT Γ N sc a ca) (hb : CorW Γ N sc (.BoolOp .And (b :: rest) pos) cb) : CorW Γ N sc (.BoolOp .And (a :: b :: rest) pos) (.and_ ca cb)
  | or_ {sc : Scope} {a b : Expr} {rest : List Expr} {pos : Pos} {ca cb : C} (ha : CorT Γ N sc a ca) (hb : CorW Γ N sc (.BoolOp .Or (b :: rest) pos) cb) : CorW Γ N sc (.BoolOp .Or (a :: b :: rest) pos) (.or_ ca cb)
inductive CorL (Γ : Gam) (N : List Str) : Scope → List Expr → Cs → Prop
  | nil {sc : Scope} : CorL Γ N sc [] .nil
  | cons {sc : Scope} {e : Expr} {es : List Expr} {c : C} {cs : Cs} (h : Cor Γ N sc e c) (r : CorL Γ N sc es cs) (hs : ∀ env, starEach (e :: es) env = (false, eval e env) :: starEach es env) : CorL Γ N sc (e :: es) (.cons c cs)
inductive CorI (Γ : Gam) (N : List Str) : Scope → Expr → Ci → Prop
  | seq {sc : Scope} {e : Expr} {c : C} (h : Cor Γ N sc e c) : CorI Γ N sc e (.seq c)
  | rng {sc : Scope} {a : Expr} {p pos : Pos} {c : C} (h : Cor Γ N sc a c) (h1 : Pl sc "range") (h2 : ("range" : Str) ∈ Γ.bs) (hs : ∀ env, starEach [a] env = [(false, eval a env)]) : CorI Γ N sc (.Call (.Name "range" p) [a] [] pos) (.rng c)
end
end Kd

set_option Elab.async false
set_option linter.all false
set_option maxRecDepth 100000
set_option maxHeartbeats 8000000
namespace Kd
open PySem PySem.Spec PyProof.Rows L2

def SndE (Γ : Gam) (F : Fns) (N : List Str) (k : Nat) (sc : Scope) (e : Expr) (c : C) : Prop :=
  ∀ X, Ok Γ F N k X → X.env.scope = sc → ∀ p B0 H0 B H σ st d st', Rel X.K p B0 H0 B H σ st → evalE F c st = some (d, st') →
    ∀ Q : VK, (∀ v B' H', Rel X.K p B0 H0 B' H' σ st' → Same B B' → Dv X.K B' v d → Q v H') → wE X e σ H Q
def SndT (Γ : Gam) (F : Fns) (N : List Str) (k : Nat) (sc : Scope) (e : Expr) (c : C) : Prop :=
  ∀ X, Ok Γ F N k X → X.env.scope = sc → ∀ p B0 H0 B H σ st d st' b, Rel X.K p B0 H0 B H σ st → evalE F c st = some (d, st') → truthD d = some b →
    ∀ Q : Bool → Hp → Prop, (∀ B' H', Rel X.K p B0 H0 B' H' σ st' → Same B B' → Q b H') → wT X e σ H Q
def SndW (Γ : Gam) (F : Fns) (N : List Str) (k : Nat) (sc : Scope) (e : Expr) (c : C) : Prop :=
  ∀ X, Ok Γ F N k X → X.env.scope = sc → ∀ p B0 H0 B H σ st d st' b, Rel X.K p B0 H0 B H σ st → evalE F c st = some (d, st') → truthD d = some b →
    ∀ Q : Bool → Hp → Prop, (∀ B' H', Rel X.K p B0 H0 B' H' σ st' → Same B B' → Q b H') → wW X e σ H Q
def SndL (Γ : Gam) (F : Fns) (N : List Str) (k : Nat) (sc : Scope) (es : List Expr) (cs : Cs) : Prop :=
  ∀ X, Ok Γ F N k X → X.env.scope = sc → ∀ p B0 H0 B H σ st ds st', Rel X.K p B0 H0 B H σ st → evalL F cs st = some (ds, st') →
    (∀ Q : List V → Hp → Prop, (∀ vs B' H', Rel X.K p B0 H0 B' H' σ st' → Same B B' → DvL X.K B' vs ds → Q vs H') → wA X es σ H Q) ∧
    (∀ kws : List Keyword, kws.map (fun k => k.value) = es → ∀ Q : List V → Hp → Prop, (∀ vs B' H', Rel X.K p B0 H0 B' H' σ st' → Same B B' → DvL X.K B' vs ds → Q vs H') → wK X kws σ H Q)
/-- what an iteration gives -/
def Yd (K : PySem.W.Frag) (B H : Hp) (x : V) (H' : Hp) (d : PyData) : Prop := (H' = H ∧ Dv K B x d)
def SndI (Γ : Gam) (F : Fns) (N : List Str) (k : Nat) (sc : Scope) (e : Expr) (c : Ci) : Prop :=
  ∀ X, Ok Γ F N k X → X.env.scope = sc → ∀ p B0 H0 B H σ st xs st', Rel X.K p B0 H0 B H σ st → evalI F c st = some (xs, st') →
    ∀ (tg : Expr) (R : It → Hp → Prop), (∀ J B' H' G Y, Rel X.K p B0 H0 B' H' σ st' → Same B B' → Walk J xs.length G Y → (∀ H2, Same B' H2 → G H2) →
      (∀ i H2 x H3, i < xs.length → Same B' H2 → Y i H2 x H3 → ∃ d, xs[i]? = some d ∧ Yd X.K B' H2 x H3 d) → R J H') → wI X tg e σ H R

section
variable {Γ : Gam} {F : Fns} {N : List Str} {k : Nat} {sc : Scope}
theorem snd_cst {e : Expr} {d : PyData} {v : V} (h : ∀ X, PE X e (tC v)) (hd : ∀ K B, Dv K B v d) : SndE Γ F N k sc e (.cst d) := by
  intro X ok hs p B0 H0 B H σ st d' st' R ev Q q
  cases ev
  exact w_pe (h X) (q v B H R (Same.refl _) (hd _ _))
theorem some2 {α β : Type} {a a' : α} {b b' : β} (h : some (a, b) = some (a', b')) : a = a' ∧ b = b' := by
  cases h
  exact ⟨rfl, rfl⟩
theorem ok_units {X : Cx} (ok : Ok Γ F N k X) : X.A.units + 65 < cLine := by
  have := ok.room.un
  omega
theorem snd_var {x : Str} {pos : Pos} {i : Nat} (h : N[i]? = some x) (hv : Vis sc x) (h1 : (x == ("__debug__" : Str)) = false) (h2 : (x == ("__classdict__" : Str)) = false) : SndE Γ F N k sc (.Name x pos) (.var i) := by
  intro X ok hs p B0 H0 B H σ st d st' R ev Q q
  simp only [evalE] at ev
  split at ev
  · rename_i d0 e0
    obtain ⟨rfl, rfl⟩ := some2 ev
    obtain ⟨v, s1, s2⟩ := R.sl i _ e0
    exact w_pe (pe_var (by rw [ok.hN]; exact h) (by rw [hs]; exact hv) h1 h2) ⟨v, s1, q v B H R (Same.refl _) s2⟩
  · cases ev
theorem snd_glb {x : Str} {pos : Pos} {d : PyData} {i : Nat} (h : Pl sc x) (hm : Γ.gs[i]? = some (x, d)) (h1 : (x == ("__debug__" : Str)) = false) : SndE Γ F N k sc (.Name x pos) (.glb d) := by
  intro X ok hs p B0 H0 B H σ st d' st' R ev Q q
  obtain ⟨rfl, rfl⟩ := some2 ev
  obtain ⟨v, u, g1, g2, g3⟩ := ok.gl i x _ hm
  exact w_pe (pe_glob (by show X.env.scope.names.lookup x = _; rw [hs]; exact h) g1 g2 h1) (q v B H R (Same.refl _) (g3 _))
theorem snd_and {a b : Expr} {rest : List Expr} {pos : Pos} {ca cb : C} (ha : SndE Γ F N k sc a ca) (hb : SndE Γ F N k sc (.BoolOp .And (b :: rest) pos) cb) : SndE Γ F N k sc (.BoolOp .And (a :: b :: rest) pos) (.and_ ca cb) := by
  intro X ok hs p B0 H0 B H σ st d st' R ev Q q
  simp only [evalE] at ev
  refine w_pe (pe_and pe_w pe_w) ?_
  split at ev
  · rename_i st1 e1
    refine ha X ok hs _ _ _ _ _ _ _ _ _ R e1 _ fun v B1 H1 R1 s1 d1 => ?_
    cases d1
    exact ⟨true, rfl, iteT (hb X ok hs _ _ _ _ _ _ _ _ _ R1 ev _ fun v B2 H2 R2 s2 d2 => q v B2 H2 R2 (s1.trans s2) d2)⟩
  · rename_i st1 e1
    obtain ⟨rfl, rfl⟩ := some2 ev
    refine ha X ok hs _ _ _ _ _ _ _ _ _ R e1 _ fun v B1 H1 R1 s1 d1 => ?_
    cases d1
    exact ⟨false, rfl, iteF (q _ B1 H1 R1 s1 (.bl _))⟩
  · cases ev
theorem snd_or {a b : Expr} {rest : List Expr} {pos : Pos} {ca cb : C} (ha : SndE Γ F N k sc a ca) (hb : SndE Γ F N k sc (.BoolOp .Or (b :: rest) pos) cb) : SndE Γ F N k sc (.BoolOp .Or (a :: b :: rest) pos) (.or_ ca cb) := by
  intro X ok hs p B0 H0 B H σ st d st' R ev Q q
  simp only [evalE] at ev
  refine w_pe (pe_or pe_w pe_w) ?_
  split at ev
  · rename_i st1 e1
    obtain ⟨rfl, rfl⟩ := some2 ev
    refine ha X ok hs _ _ _ _ _ _ _ _ _ R e1 _ fun v B1 H1 R1 s1 d1 => ?_
    cases d1
    exact ⟨true, rfl, iteT (q _ B1 H1 R1 s1 (.bl _))⟩
  · rename_i st1 e1
    refine ha X ok hs _ _ _ _ _ _ _ _ _ R e1 _ fun v B1 H1 R1 s1 d1 => ?_
    cases d1
    exact ⟨false, rfl, iteF (hb X ok hs _ _ _ _ _ _ _ _ _ R1 ev _ fun v B2 H2 R2 s2 d2 => q v B2 H2 R2 (s1.trans s2) d2)⟩
  · cases ev
theorem snd_not {a : Expr} {pos : Pos} {ca : C} (ha : SndE Γ F N k sc a ca) : SndE Γ F N k sc (.UnaryOp .Not a pos) (.not_ ca) := by
  intro X ok hs p B0 H0 B H σ st d st' R ev Q q
  simp only [evalE] at ev
  refine w_pe (pe_not pe_w) ?_
  split at ev
  · rename_i b st1 e1
    obtain ⟨rfl, rfl⟩ := some2 ev
    refine ha X ok hs _ _ _ _ _ _ _ _ _ R e1 _ fun v B1 H1 R1 s1 d1 => ?_
    cases d1
    exact ⟨_, rfl, q _ B1 H1 R1 s1 (.bl _)⟩
  · cases ev
theorem snd_one {op : BoolOp} {a : Expr} {pos : Pos} {ca : C} (ha : SndE Γ F N k sc a ca) : SndE Γ F N k sc (.BoolOp op [a] pos) ca := by
  intro X ok hs p B0 H0 B H σ st d st' R ev Q q
  exact w_pe (pe_one pe_w) (ha X ok hs _ _ _ _ _ _ _ _ _ R ev Q q)
theorem snd_ite {t a b : Expr} {pos : Pos} {ct ca cb : C} (ht : SndT Γ F N k sc t ct) (ha : SndE Γ F N k sc a ca) (hb : SndE Γ F N k sc b cb) : SndE Γ F N k sc (.IfExp t a b pos) (.ite ct ca cb) := by
  intro X ok hs p B0 H0 B H σ st d st' R ev Q q
  simp only [evalE] at ev
  refine w_pe (pe_ifExp pt_w pe_w pe_w) ?_
  split at ev
  · rename_i d0 st1 e1
    split at ev
    · rename_i t1
      exact ht X ok hs _ _ _ _ _ _ _ _ _ _ R e1 t1 _ fun B1 H1 R1 s1 => iteT (ha X ok hs _ _ _ _ _ _ _ _ _ R1 ev _ fun v B2 H2 R2 s2 d2 => q v B2 H2 R2 (s1.trans s2) d2)
    · rename_i t1
      exact ht X ok hs _ _ _ _ _ _ _ _ _ _ R e1 t1 _ fun B1 H1 R1 s1 => iteF (hb X ok hs _ _ _ _ _ _ _ _ _ R1 ev _ fun v B2 H2 R2 s2 d2 => q v B2 H2 R2 (s1.trans s2) d2)
    · cases ev
  · cases ev
theorem snd_bin {op : Operator} {a b : Expr} {pos : Pos} {ca cb : C} (ha : SndE Γ F N k sc a ca) (hb : SndE Γ F N k sc b cb) : SndE Γ F N k sc (.BinOp a op b pos) (.bin op ca cb) := by
  intro X ok hs p B0 H0 B H σ st d st' R ev Q q
  simp only [evalE] at ev
  split at ev
  · rename_i x st1 e1
    split at ev
    · rename_i y st2 e2
      split at ev
      · rename_i z e3
        obtain ⟨rfl, rfl⟩ := some2 ev
        obtain ⟨r, hr, hk⟩ := bin_ok (X := X) e3
        refine w_pe (pe_op hr pe_w pe_w) ?_
        refine ha X ok hs _ _ _ _ _ _ _ _ _ R e1 _ fun v B1 H1 R1 s1 d1 => ?_
        refine hb X ok hs _ _ _ _ _ _ _ _ _ R1 e2 _ fun w B2 H2 R2 s2 d2 => ?_
        exact hk B2 H2 v w R2.ext (d1.mono s2) d2 Q fun u d3 => q u B2 H2 R2 (s1.trans s2) d3
      · cases ev
    · cases ev
  · cases ev
theorem snd_neg {a : Expr} {pos : Pos} {ca : C} (ha : SndE Γ F N k sc a ca) : SndE Γ F N k sc (.UnaryOp .USub a pos) (.neg ca) := by
  intro X ok hs p B0 H0 B H σ st d st' R ev Q q
  simp only [evalE] at ev
  refine w_pe (pe_un un_neg pe_w) ?_
  split at ev
  · rename_i i st1 e1
    obtain ⟨rfl, rfl⟩ := some2 ev
    refine ha X ok hs _ _ _ _ _ _ _ _ _ R e1 _ fun v B1 H1 R1 s1 d1 => ?_
    cases d1
    exact ⟨_, rfl, q _ B1 H1 R1 s1 (.int _)⟩
  · cases ev
theorem snd_cmp {op : CmpOp} {a b : Expr} {pos : Pos} {ca cb : C} (ha : SndE Γ F N k sc a ca) (hb : SndE Γ F N k sc b cb) (hm : behindInMarks op b = false) : SndE Γ F N k sc (.Compare a [op] [b] pos) (.cmp op ca cb) := by
  intro X ok hs p B0 H0 B H σ st d st' R ev Q q
  simp only [evalE] at ev
  split at ev
  · rename_i x st1 e1
    split at ev
    · rename_i y st2 e2
      split at ev
      · rename_i z e3
        obtain ⟨rfl, rfl⟩ := some2 ev
        obtain ⟨r, hr, hk⟩ := cmp_ok (ok_units ok) e3
        refine w_pe (pe_cmpR hr pe_w pe_w hm) ?_
        refine ha X ok hs _ _ _ _ _ _ _ _ _ R e1 _ fun v B1 H1 R1 s1 d1 => ?_
        refine hb X ok hs _ _ _ _ _ _ _ _ _ R1 e2 _ fun w B2 H2 R2 s2 d2 => ?_
        exact hk B2 H2 v w R2.ext (d1.mono s2) d2 Q fun u d3 => q u B2 H2 R2 (s1.trans s2) d3
      · cases ev
    · cases ev
  · cases ev
theorem snd_cmpT {op : CmpOp} {a b : Expr} {pos : Pos} {ca cb : C} (ha : SndE Γ F N k sc a ca) (hb : SndE Γ F N k sc b cb) (hm : behindInMarks op b = false) : SndT Γ F N k sc (.Compare a [op] [b] pos) (.cmp op ca cb) := by
  intro X ok hs p B0 H0 B H σ st d st' b' R ev tr Q q
  simp only [evalE] at ev
  split at ev
  · rename_i x st1 e1
    split at ev
    · rename_i y st2 e2
      split at ev
      · rename_i z e3
        obtain ⟨rfl, rfl⟩ := some2 ev
        cases tr
        obtain ⟨r, hr, hk⟩ := cmp_ok (ok_units ok) e3
        refine w_pt (pt_cmpR hr pe_w pe_w hm) ?_
        refine ha X ok hs _ _ _ _ _ _ _ _ _ R e1 _ fun v B1 H1 R1 s1 d1 => ?_
        refine hb X ok hs _ _ _ _ _ _ _ _ _ R1 e2 _ fun w B2 H2 R2 s2 d2 => ?_
        refine hk B2 H2 v w R2.ext (d1.mono s2) d2 _ fun u d3 => ?_
        cases d3
        exact ⟨_, rfl, q B2 H2 R2 (s1.trans s2)⟩
      · cases ev
    · cases ev
  · cases ev
theorem snd_chain_core {X : Cx} (ok : Ok Γ F N k X) (hs : X.env.scope = sc) {o1 o2 : CmpOp} {a b c : Expr} {ca cb cc : C} (ha : SndE Γ F N k sc a ca) (hb : SndE Γ F N k sc b cb) (hc : SndE Γ F N k sc c cc)
    {p B0 H0 B H σ st d st'} (R : Rel X.K p B0 H0 B H σ st) (ev : evalE F (.chain o1 o2 ca cb cc) st = some (d, st')) :
    ∃ r r' t, d = .bool t ∧ OpR X (compareOp o1) r ∧ OpR X (compareOp o2) r' ∧ ∀ Q : VK, (∀ B' H', Rel X.K p B0 H0 B' H' σ st' → Same B B' → Q (.bl t) H') → tChain r r' (wE X a) (wE X b) (wE X c) σ H Q := by
  simp only [evalE] at ev
  split at ev
  · rename_i x st1 e1
    split at ev
    · rename_i y st2 e2
      split at ev
      · rename_i e3
        split at ev
        · rename_i z st3 e4
          split at ev
          · rename_i t e5
            obtain ⟨rfl, rfl⟩ := some2 ev
            obtain ⟨r, hr, hk⟩ := cmp_ok (X := X) (ok_units ok) e3
            obtain ⟨r', hr', hk'⟩ := cmp_ok (X := X) (ok_units ok) e5
            refine ⟨r, r', t, rfl, hr, hr', fun Q q => ?_⟩
            refine ha X ok hs _ _ _ _ _ _ _ _ _ R e1 _ fun v B1 H1 R1 s1 d1 => ?_
            refine hb X ok hs _ _ _ _ _ _ _ _ _ R1 e2 _ fun w B2 H2 R2 s2 d2 => ?_
            refine hk B2 H2 v w R2.ext (d1.mono s2) d2 _ fun u d3 => ?_
            cases d3
            refine ⟨true, rfl, iteT ?_⟩
            refine hc X ok hs _ _ _ _ _ _ _ _ _ R2 e4 _ fun w' B3 H3 R3 s3 d4 => ?_
            refine hk' B3 H3 w w' R3.ext (d2.mono s3) d4 _ fun u d5 => ?_
            cases d5
            exact q B3 H3 R3 ((s1.trans s2).trans s3)
          · cases ev
        · cases ev
      · rename_i e3
        obtain ⟨rfl, rfl⟩ := some2 ev
        obtain ⟨r, hr, hk⟩ := cmp_ok (X := X) (ok_units ok) e3
        refine ⟨r, fun _ _ _ _ => False, false, rfl, hr, fun _ _ _ _ _ _ _ _ _ _ _ _ h => h.elim, fun Q q => ?_⟩
        refine ha X ok hs _ _ _ _ _ _ _ _ _ R e1 _ fun v B1 H1 R1 s1 d1 => ?_
        refine hb X ok hs _ _ _ _ _ _ _ _ _ R1 e2 _ fun w B2 H2 R2 s2 d2 => ?_
        refine hk B2 H2 v w R2.ext (d1.mono s2) d2 _ fun u d3 => ?_
        cases d3
        exact ⟨false, rfl, iteF (q B2 H2 R2 (s1.trans s2))⟩
      · cases ev
    · cases ev
  · cases ev
theorem snd_chain {o1 o2 : CmpOp} {a b c : Expr} {pos : Pos} {ca cb cc : C} (ha : SndE Γ F N k sc a ca) (hb : SndE Γ F N k sc b cb) (hc : SndE Γ F N k sc c cc) (hm : lastMarks [o1, o2] [b, c] = false) : SndE Γ F N k sc (.Compare a [o1, o2] [b, c] pos) (.chain o1 o2 ca cb cc) := by
  intro X ok hs p B0 H0 B H σ st d st' R ev Q q
  obtain ⟨r, r', t, rfl, h1, h2, h3⟩ := snd_chain_core ok hs ha hb hc R ev
  exact w_pe (pe_chain h1 h2 pe_w pe_w pe_w hm) (h3 Q fun B' H' R' s' => q _ B' H' R' s' (.bl _))
theorem snd_chainT {o1 o2 : CmpOp} {a b c : Expr} {pos : Pos} {ca cb cc : C} (ha : SndE Γ F N k sc a ca) (hb : SndE Γ F N k sc b cb) (hc : SndE Γ F N k sc c cc) (hm : lastMarks [o1, o2] [b, c] = false) : SndT Γ F N k sc (.Compare a [o1, o2] [b, c] pos) (.chain o1 o2 ca cb cc) := by
  intro X ok hs p B0 H0 B H σ st d st' b' R ev tr Q q
  obtain ⟨r, r', t, rfl, h1, h2, h3⟩ := snd_chain_core ok hs ha hb hc R ev
  cases tr
  exact w_pt (pt_chain h1 h2 pe_w pe_w pe_w hm) (h3 _ fun B' H' R' s' => ⟨_, rfl, q B' H' R' s'⟩)
theorem snd_val {e : Expr} {c : C} (h : SndE Γ F N k sc e c) (he : ∀ env whole, isTrue e env whole = (do let v ← whole; standAt e.pos; holding [v] (truthy v))) : SndT Γ F N k sc e c := by
  intro X ok hs p B0 H0 B H σ st d st' b R ev tr Q q
  refine w_pt (pt_truth pe_w (he X.env)) ?_
  exact h X ok hs _ _ _ _ _ _ _ _ _ R ev _ fun v B1 H1 R1 s1 d1 => ⟨b, tru_dv R1.ext d1 tr, q B1 H1 R1 s1⟩
theorem snd_notT {a : Expr} {pos : Pos} {ca : C} (ha : SndT Γ F N k sc a ca) : SndT Γ F N k sc (.UnaryOp .Not a pos) (.not_ ca) := by
  intro X ok hs p B0 H0 B H σ st d st' b R ev tr Q q
  simp only [evalE] at ev
  refine w_pt (pt_not pt_w) ?_
  split at ev
  · rename_i b0 st1 e1
    obtain ⟨rfl, rfl⟩ := some2 ev
    cases tr
    exact ha X ok hs _ _ _ _ _ _ _ _ _ _ R e1 rfl _ fun B1 H1 R1 s1 => q B1 H1 R1 s1
  · cases ev
theorem snd_boolT {e : Expr} {c : C} (h : SndW Γ F N k sc e c) : SndT Γ F N k sc e c := by
  intro X ok hs p B0 H0 B H σ st d st' b R ev tr Q q
  exact w_pt pw_w.pt (h X ok hs _ _ _ _ _ _ _ _ _ _ R ev tr Q q)
theorem snd_oneW {op : BoolOp} {a : Expr} {pos : Pos} {ca : C} (ha : SndT Γ F N k sc a ca) : SndW Γ F N k sc (.BoolOp op [a] pos) ca := by
  intro X ok hs p B0 H0 B H σ st d st' b R ev tr Q q
  cases op
  · exact w_pw (pw_and1 pt_w) (ha X ok hs _ _ _ _ _ _ _ _ _ _ R ev tr Q q)
  · exact w_pw (pw_or1 pt_w) (ha X ok hs _ _ _ _ _ _ _ _ _ _ R ev tr Q q)
theorem snd_andW {a b : Expr} {rest : List Expr} {pos : Pos} {ca cb : C} (ha : SndT Γ F N k sc a ca) (hb : SndW Γ F N k sc (.BoolOp .And (b :: rest) pos) cb) : SndW Γ F N k sc (.BoolOp .And (a :: b :: rest) pos) (.and_ ca cb) := by
  intro X ok hs p B0 H0 B H σ st d st' b' R ev tr Q q
  simp only [evalE] at ev
  refine w_pw (pw_and pt_w pw_w) ?_
  split at ev
  · rename_i st1 e1
    exact ha X ok hs _ _ _ _ _ _ _ _ _ _ R e1 rfl _ fun B1 H1 R1 s1 => iteT (hb X ok hs _ _ _ _ _ _ _ _ _ _ R1 ev tr _ fun B2 H2 R2 s2 => q B2 H2 R2 (s1.trans s2))
  · rename_i st1 e1
    obtain ⟨rfl, rfl⟩ := some2 ev
    cases tr
    exact ha X ok hs _ _ _ _ _ _ _ _ _ _ R e1 rfl _ fun B1 H1 R1 s1 => iteF (q B1 H1 R1 s1)
  · cases ev
theorem snd_orW {a b : Expr} {rest : List Expr} {pos : Pos} {ca cb : C} (ha : SndT Γ F N k sc a ca) (hb : SndW Γ F N k sc (.BoolOp .Or (b :: rest) pos) cb) : SndW Γ F N k sc (.BoolOp .Or (a :: b :: rest) pos) (.or_ ca cb) := by
  intro X ok hs p B0 H0 B H σ st d st' b' R ev tr Q q
  simp only [evalE] at ev
  refine w_pw (pw_or pt_w pw_w) ?_
  split at ev
  · rename_i st1 e1
    obtain ⟨rfl, rfl⟩ := some2 ev
    cases tr
    exact ha X ok hs _ _ _ _ _ _ _ _ _ _ R e1 rfl _ fun B1 H1 R1 s1 => iteT (q B1 H1 R1 s1)
  · rename_i st1 e1
    exact ha X ok hs _ _ _ _ _ _ _ _ _ _ R e1 rfl _ fun B1 H1 R1 s1 => iteF (hb X ok hs _ _ _ _ _ _ _ _ _ _ R1 ev tr _ fun B2 H2 R2 s2 => q B2 H2 R2 (s1.trans s2))
  · cases ev
end
end Kd

set_option Elab.async false
set_option linter.all false
set_option maxRecDepth 100000
set_option maxHeartbeats 8000000
namespace Kd
open PySem PySem.Spec PyProof.Rows L2

/-! ### relations behind calls -/
section
variable {K : PySem.W.Frag} {p : Option Addr} {B0 H0 B H B' H' : Hp} {σ : L2.St} {st : S}
theorem Rel.pure (R : Rel K p B0 H0 B H σ st) (s1 : Same B B') (s2 : Same B' H') (s3 : Same H H') (nw : New B H B') : Rel K p B0 H0 B' H' σ st := by
  refine ⟨fun b o n h => s3 _ _ (R.fr b o n h), s2, R.up.trans s1, fun a o h => ?_, fun a e => ?_, R.h0, R.len, fun i d e => ?_, R.pen.same s1 s3, R.pv, fun i ds h => ?_, R.dj⟩
  · rcases nw a o h with ⟨o', h'⟩ | h'
    · exact R.new a o' h'
    · exact .inr (R.free h').1
  · cases h : B' a with
    | none => rfl
    | some o =>
      rcases nw a o h with ⟨o', h'⟩ | h'
      · rw [R.pn a e] at h'; cases h'
      · exact absurd h' (R.pen.there e)
  · obtain ⟨v, h1, h2⟩ := R.sl i d e
    exact ⟨v, h1, h2.mono s1⟩
  · obtain ⟨l, xs, h1, h2, h3, h4, h5⟩ := R.ow i ds h
    refine ⟨l, xs, h1, s3 _ _ h2, ?_, h4, h5.mono s1⟩
    cases z : B' l with
    | none => rfl
    | some o =>
      rcases nw l o z with ⟨o', z'⟩ | z'
      · rw [h3] at z'; cases z'
      · rw [h2] at z'; cases z'
theorem Rel.draw (R : Rel K p B0 H0 B H σ st) {a : Addr} {π' : Pen} (ha : p = some a) (s1 : Same B B') (s2 : Same B' H') (s3 : ∀ b o, b ≠ a → H b = some o → H' b = some o) (nw : New B H B') (pe : PenAt K B' H' a π') :
    Rel K p B0 H0 B' H' σ ⟨st.δ, some π'⟩ := by
  refine ⟨fun b o n h => s3 b o (fun z => n (by rw [ha, z])) (R.fr b o n h), s2, R.up.trans s1, fun b o h => ?_, fun b e => ?_, R.h0, R.len, fun i d e => ?_, ⟨a, ha, pe⟩, R.pv, fun i ds h => ?_, R.dj⟩
  · rcases nw b o h with ⟨o', h'⟩ | h'
    · exact R.new b o' h'
    · exact .inr (R.free h').1
  · cases h : B' b with
    | none => rfl
    | some o =>
      rcases nw b o h with ⟨o', h'⟩ | h'
      · rw [R.pn b e] at h'; cases h'
      · exact absurd h' (R.pen.there e)
  · obtain ⟨v, h1, h2⟩ := R.sl i d e
    exact ⟨v, h1, h2.mono s1⟩
  · obtain ⟨l, xs, h1, h2, h3, h4, h5⟩ := R.ow i ds h
    have nl : l ≠ a := fun z => R.npen h4 (by rw [ha, z])
    refine ⟨l, xs, h1, s3 _ _ nl h2, ?_, h4, h5.mono s1⟩
    cases z : B' l with
    | none => rfl
    | some o =>
      rcases nw l o z with ⟨o', z'⟩ | z'
      · rw [h3] at z'; cases z'
      · rw [h2] at z'; cases z'
end
theorem paired_none {α β : Type} {F : α → β → Prop} : ∀ {l : List α} {m : List β} {i : Nat}, Paired F l m → l[i]? = none → m[i]? = none := fun {l m i} r e => by
  rw [List.getElem?_eq_none_iff] at e ⊢
  rw [← Paired.length r]
  exact e
theorem vals_pick {vs : List V} {us : List Value} (r : Vals vs us) : ∀ pm : List Nat, Vals (pick pm vs) (pick pm us)
  | [] => .nil
  | i :: pm => by
    have t := vals_pick r pm
    cases e : vs[i]? with
    | none =>
      have e2 := paired_none r e
      simp only [pick, List.filterMap_cons, e, e2]
      exact t
    | some v =>
      obtain ⟨u, e2, h⟩ := r.get e
      simp only [pick, List.filterMap_cons, e, e2]
      exact .cons h t
theorem kw_args : ∀ (kws : List Keyword) (env : Env) (pos : Pos), (backToKw pos (keywordEach kws env)).map (·.1) = kws.map (fun k => k.arg)
  | [], _, _ => rfl
  | ⟨n, v, q⟩ :: r, env, pos => by
    show n :: (backToKw pos (keywordEach r env)).map (·.1) = n :: r.map (fun k => k.arg)
    rw [kw_args r env pos]
theorem kw_names {kws : List Keyword} {ks : List Str} (h : kws.map (fun k => k.arg) = ks.map some) (env : Env) (pos : Pos) :
    (backToKw pos (keywordEach kws env)).all (·.1.isSome) = true ∧ (backToKw pos (keywordEach kws env)).filterMap (·.1) = ks ∧ (backToKw pos (keywordEach kws env)).any (·.1.isNone) = false := by
  have e := (kw_args kws env pos).trans h
  generalize backToKw pos (keywordEach kws env) = l at e
  clear h
  induction ks generalizing l with
  | nil =>
    cases l with
    | nil => exact ⟨rfl, rfl, rfl⟩
    | cons a r => cases e
  | cons x xs ih =>
    cases l with
    | nil => cases e
    | cons a r =>
      obtain ⟨a1, a2⟩ := a
      simp only [List.map_cons, List.cons.injEq] at e
      obtain ⟨e1, e2⟩ := e
      subst e1
      obtain ⟨h1, h2, h3⟩ := ih r e2
      refine ⟨?_, ?_, ?_⟩
      · simp only [List.all_cons, Option.isSome_some, Bool.true_and]; exact h1
      · simp only [List.filterMap_cons]; rw [h2]
      · simp only [List.any_cons, Option.isNone_some, Bool.false_or]; exact h3

section
variable {Γ : Gam} {F : Fns} {N : List Str} {k : Nat} {sc : Scope}
theorem corL_plain : ∀ {es : List Expr} {cs : Cs}, CorL Γ N sc es cs → ∀ (env : Env) (pos : Pos), (backTo pos (starEach es env)).any (·.1) = false
  | _, _, .nil, _, _ => rfl
  | _, _, .cons h r hs, env, pos => by
    rw [hs env]
    show (false || (backTo pos (starEach _ env)).any (·.1)) = false
    rw [corL_plain r env pos] <;> rfl
theorem vals_split : ∀ {vs : List V} {us : List Value}, Vals vs us → Vals vs (us ++ []) := fun r => by rw [List.append_nil]; exact r

/-- a def's call at its values -/
theorem fn_core {X : Cx} (ok : Ok Γ F N k X) {i : Nat} {e : En} (he : Γ.es[i]? = some e) : ∃ f, X.mg e.x = some (.ref f) ∧ PySem.W.keepIn X.K (.ref f) = true ∧
    ∀ {p B0 H0 B H σ st} {pins : List (Addr × Obj)} {s : Shared} {us ws : List Value} {vs : List V} {ds : List PyData} {d : PyData} {Q : VK}, Rel X.K p B0 H0 B H σ st → Inv X pins σ H s → Vals vs (us ++ ws) → us.length = e.n → ws.length = e.ks.length →
      DvL X.K B vs ds → F.fn i ds = some d → (∀ v B' H', Rel X.K p B0 H0 B' H' σ st → Same B B' → Dv X.K B' v d → Q v H') →
      wpAny (model X.prog X.w) X.A (call (.ref f) us (e.ks.zip ws)) (EP X pins σ Q) X.xe s := by
  obtain ⟨f, fd, ps, m0, h1, h2, h3, h4, h5⟩ := (ok.fn i e he).ex
  refine ⟨f, h1, h2, fun {p B0 H0 B H σ st pins s us ws vs ds d Q} R I rv l1 l2 dv hf q => ?_⟩
  have hsp : SpF X.K m0 (pick e.pm vs) H Q (fun _ _ _ => False) := ⟨pick e.pm ds, d, B, R.ext, dv.pick _, h4 _ _ hf, fun v B' H' s1 s2 s3 nw d3 => q v B' H' (R.pure s1 s2 s3 nw) s1 d3⟩
  have run := h3.run X.A X.stack s H ⟨us, e.ks.zip ws⟩ (pick e.pm (us ++ ws)) (pick e.pm vs) Q (fun _ _ _ => False) ok.room ok.gd I.env0 (h5 s us ws I.kIn l1 l2) (vals_pick rv _) hsp
  refine wpAny_call (codeAny_mono run fun r s' hq => ?_)
  cases r with
  | error er => exact False.elim hq
  | ok fl =>
    cases fl with
    | ret u => exact I.after hq
    | next => exact False.elim hq
    | brk => exact False.elim hq
    | cont => exact False.elim hq
theorem pf_core {X : Cx} (ok : Ok Γ F N k X) {i : Nat} {x : Str} (hx : Γ.ps[i]? = some x) : ∃ f, X.mg x = some (.ref f) ∧ PySem.W.keepIn X.K (.ref f) = true ∧
    ∀ {p B0 H0 B H σ st a π π'} {pins : List (Addr × Obj)} {s : Shared} {us : List Value} {vs : List V} {ds : List PyData} {d : PyData} {Q : VK}, Rel X.K p B0 H0 B H σ st → Inv X pins σ H s → Vals (.ref a :: vs) us → p = some a → st.π = some π →
      DvL X.K B vs ds → F.pf i ds π = some (d, π') → (∀ v B' H', Rel X.K p B0 H0 B' H' σ ⟨st.δ, some π'⟩ → Same B B' → Dv X.K B' v d → Q v H') →
      wpAny (model X.prog X.w) X.A (call (.ref f) us) (EP X pins σ Q) X.xe s := by
  obtain ⟨f, fd, ps, h1, h2, h3, h5⟩ := (ok.pf i x hx).ex
  refine ⟨f, h1, h2, fun {p B0 H0 B H σ st a π π' pins s us vs ds d Q} R I rv ha hπ dv hf q => ?_⟩
  have pen := R.pen
  rw [hπ] at pen
  obtain ⟨a', ea, pen⟩ := pen
  rw [ha] at ea
  cases ea
  have hsp : SpP X.K (F.pf i) (.ref a :: vs) H Q (fun _ _ _ => False) := ⟨a, vs, ds, d, B, π, π', rfl, R.pn a ha, R.ext, pen, dv, hf, fun v B' H' s1 s2 s3 nw pe d3 => q v B' H' (R.draw ha s1 s2 s3 nw pe) s1 d3⟩
  have hl : (us ++ []).length = ps.length := by rw [List.append_nil, ← Paired.length rv]; exact h3.len _ _ _ _ hsp
  have bt := h5 s us I.kIn hl
  rw [List.append_nil] at bt
  have run := h3.run X.A X.stack s H ⟨us, []⟩ us (.ref a :: vs) Q (fun _ _ _ => False) ok.room ok.gd I.env0 bt rv hsp
  refine wpAny_call (codeAny_mono run fun r s' hq => ?_)
  cases r with
  | error er => exact False.elim hq
  | ok fl =>
    cases fl with
    | ret u => exact I.after hq
    | next => exact False.elim hq
    | brk => exact False.elim hq
    | cont => exact False.elim hq

theorem len_cor : ∀ {es : List Expr} {us : List Value} {vs : List V}, Vals vs us → vs.length = es.length → us.length = es.length := fun r h => by rw [← Paired.length r]; exact h
theorem evalL_len : ∀ {es : List Expr} {cs : Cs}, CorL Γ N sc es cs → ∀ {st ds st'}, evalL F cs st = some (ds, st') → ds.length = es.length
  | _, _, .nil, st, ds, st', h => by cases h; rfl
  | _, _, .cons h r hs, st, ds, st', ev => by
    simp only [evalL] at ev
    split at ev
    · split at ev
      · rename_i e2
        obtain ⟨rfl, rfl⟩ := some2 ev
        exact congrArg (· + 1) (evalL_len r e2)
      · cases ev
    · cases ev
theorem snd_call {i : Nat} {e : En} {es : List Expr} {p pos : Pos} {cs : Cs} (he : Γ.es[i]? = some e) (hc : CorL Γ N sc es cs) (h : SndL Γ F N k sc es cs) (hn : es.length = e.n) (hk : e.ks = []) (h1 : Pl sc e.x) (h2 : (e.x == ("__debug__" : Str)) = false) :
    SndE Γ F N k sc (.Call (.Name e.x p) es [] pos) (.call i cs) := by
  intro X ok hs p B0 H0 B H σ st d st' R ev Q q
  simp only [evalE] at ev
  split at ev
  · rename_i ds st1 e1
    split at ev
    · rename_i d' e2
      obtain ⟨rfl, rfl⟩ := some2 ev
      obtain ⟨f, g1, g2, g3⟩ := fn_core ok he
      intro pins s I
      refine wpAny_Call_Name_kw (ld_glob I (by show X.env.scope.names.lookup _ = _; rw [hs]; exact h1) g1 ?_ h2)
      have hl := evalL_len hc e1
      cases hc with
      | nil =>
        cases e1
        have q0 := g3 (us := []) (ws := []) (vs := []) R I .nil hn (by rw [hk] <;> rfl) .nil e2 q
        exact PySem.W.callWith_K0 I.kIn g2 (by rw [hk] at q0; exact q0)
      | cons ha hr hst =>
        have hargs := (h X ok hs _ _ _ _ _ _ _ _ _ R e1).1 (fun vs H1 => ∃ B1, Rel X.K _ _ _ B1 H1 σ st1 ∧ Same B B1 ∧ DvL X.K B1 vs ds) (fun vs B' H' R' s' d' => ⟨B', R', s', d'⟩) pos pins s I
        refine PySem.W.callWith_K (h₀ := X.base) I.ok.mod.kin g2 (thn hargs fun us s1 ⟨vs, H1, I1, r, B1, R1, s1', dv⟩ => ⟨I1.kIn, ?_⟩) (hst X.env) (corL_plain hr X.env pos)
        have lu : us.length = e.n := by rw [← Paired.length r, dv.length, hl, hn]
        have q0 := g3 (us := us) (ws := []) R1 I1 (vals_split r) lu (by rw [hk] <;> rfl) dv e2 fun v B' H' R' s' dv' => q v B' H' R' (s1'.trans s') dv'
        rw [hk] at q0
        exact q0
    · cases ev
  · cases ev
theorem snd_callK {i : Nat} {e : En} {kws : List Keyword} {p pos : Pos} {cs : Cs} (he : Γ.es[i]? = some e) {es : List Expr} (hv : kws.map (fun k => k.value) = es) (hc : CorL Γ N sc es cs) (h : SndL Γ F N k sc es cs) (hn : e.n = 0) (hk : kws.map (fun k => k.arg) = e.ks.map some)
    (h1 : Pl sc e.x) (h2 : (e.x == ("__debug__" : Str)) = false) : SndE Γ F N k sc (.Call (.Name e.x p) [] kws pos) (.call i cs) := by
  intro X ok hs p B0 H0 B H σ st d st' R ev Q q
  simp only [evalE] at ev
  split at ev
  · rename_i ds st1 e1
    split at ev
    · rename_i d' e2
      obtain ⟨rfl, rfl⟩ := some2 ev
      obtain ⟨f, g1, g2, g3⟩ := fn_core ok he
      intro pins s I
      refine wpAny_Call_Name_kw (ld_glob I (by show X.env.scope.names.lookup _ = _; rw [hs]; exact h1) g1 ?_ h2)
      have hl := evalL_len hc e1
      obtain ⟨k1, k2, k3⟩ := kw_names hk X.env pos
      have hargs := (h X ok hs _ _ _ _ _ _ _ _ _ R e1).2 kws hv (fun vs H1 => ∃ B1, Rel X.K _ _ _ B1 H1 σ st1 ∧ Same B B1 ∧ DvL X.K B1 vs ds) (fun vs B' H' R' s' d' => ⟨B', R', s', d'⟩) pos pins s I
      refine PySem.W.callWith_KW0 (first := []) I.kIn g2 k1 (thn hargs fun ws s1 ⟨vs, H1, I1, r, B1, R1, s1', dv⟩ => ⟨I1.kIn, ?_⟩) (by rw [k3] <;> rfl)
      rw [k2]
      have lw : ws.length = e.ks.length := by
        have lk := congrArg List.length hk
        have lv := congrArg List.length hv
        simp only [List.length_map] at lk lv
        rw [← Paired.length r, dv.length, hl, ← lv, lk]
      exact g3 (us := []) (ws := ws) R1 I1 r hn.symm lw dv e2 fun v B' H' R' s' dv' => q v B' H' R' (s1'.trans s') dv'
    · cases ev
  · cases ev
theorem snd_pcall {i j : Nat} {x y : Str} {es : List Expr} {p p2 pos : Pos} {cs : Cs} (hx : Γ.ps[i]? = some x) (hy : N[j]? = some y) (hv : Vis sc y) (hc : CorL Γ N sc es cs) (h : SndL Γ F N k sc es cs) (h1 : Pl sc x) (h2 : (x == ("__debug__" : Str)) = false)
    (h3 : (y == ("__debug__" : Str)) = false) (h4 : (y == ("__classdict__" : Str)) = false) : SndE Γ F N k sc (.Call (.Name x p) (.Name y p2 :: es) [] pos) (.pcall i j cs) := by
  intro X ok hs p B0 H0 B H σ st d st' R ev Q q
  simp only [evalE] at ev
  split at ev
  · rename_i ej
    split at ev
    · rename_i ds st1 e1
      split at ev
      · rename_i π e3
        split at ev
        · rename_i d' π' e2
          obtain ⟨rfl, rfl⟩ := some2 ev
          obtain ⟨f, g1, g2, g3⟩ := pf_core ok hx
          obtain ⟨a, ha, hσ⟩ := R.pv j ej
          intro pins s I
          refine wpAny_Call_Name_kw (ld_glob I (by show X.env.scope.names.lookup _ = _; rw [hs]; exact h1) g1 ?_ h2)
          have pv : PE X (.Name y p2) (tVar j) := pe_var (by rw [ok.hN]; exact hy) (by rw [hs]; exact hv) h3 h4
          have hargs := (pa_cons (es := es) pv pa_w).run pos pins s σ H (fun vs H1 => ∃ ws B1, vs = V.ref a :: ws ∧ Rel X.K _ _ _ B1 H1 σ st1 ∧ Same B B1 ∧ DvL X.K B1 ws ds) I
            ⟨_, hσ, (h X ok hs _ _ _ _ _ _ _ _ _ R e1).1 _ fun vs B' H' R' s' d' => ⟨vs, B', rfl, R', s', d'⟩⟩
          refine PySem.W.callWith_K (h₀ := X.base) I.ok.mod.kin g2 (thn hargs fun us s1 ⟨vs, H1, I1, r, ws, B1, ev, R1, s1', dv⟩ => ⟨I1.kIn, ?_⟩) rfl (corL_plain hc X.env pos)
          subst ev
          exact g3 R1 I1 r ha e3 dv e2 fun v B' H' R' s' dv' => q v B' H' R' (s1'.trans s') dv'
        · cases ev
      · cases ev
    · cases ev
  · cases ev
end
end Kd

set_option Elab.async false
set_option linter.all false
set_option maxRecDepth 100000
set_option maxHeartbeats 8000000
namespace Kd
open PySem PySem.Spec PyProof.Rows L2
/-- an object made on the way, changed till now, is data from here on -/
theorem Rel.fin {K : PySem.W.Frag} {p : Option Addr} {B0 H0 B H : Hp} {σ : L2.St} {st : S} (R : Rel K p B0 H0 B H σ st) {a : Addr} {o : HO} (h0 : H0 a = none) (hp : p ≠ some a) (hb : B a = none)
    (hn : ∀ (i : Nat) ds, st.δ[i]? = some (SD.own ds) → σ[i]? ≠ some (some (V.ref a))) : Rel K p B0 H0 (upd B a o) (upd H a o) σ st := by
  have sb : Same B (upd B a o) := same_upd hb
  refine ⟨fun b u n h => ?_, same_upd2 R.ext, R.up.trans sb, fun b u h => ?_, fun b e => ?_, R.h0, R.len, fun i d e => ?_, R.pen.mono sb fun b e => ?_, R.pv, fun i ds h => ?_, R.dj⟩
  · rw [upd_ne (ne_of_none h h0)]; exact R.fr b u n h
  · by_cases z : b = a
    · subst z; exact .inr h0
    · rw [upd_ne z] at h; exact R.new b u h
  · rw [upd_ne (fun (z : b = a) => hp (by rw [← z]; exact e))]; exact R.pn b e
  · obtain ⟨v, h1, h2⟩ := R.sl i d e
    exact ⟨v, h1, h2.mono sb⟩
  · exact upd_ne (fun (z : b = a) => hp (by rw [← z]; exact e))
  · obtain ⟨l, xs, h1, h2, h3, h4, h5⟩ := R.ow i ds h
    have nl : l ≠ a := fun z => hn i ds h (by rw [h1, z])
    exact ⟨l, xs, h1, by rw [upd_ne nl]; exact h2, by rw [upd_ne nl]; exact h3, h4, h5.mono sb⟩
/-- who was not there is no slot's own -/
theorem Rel.nown {K : PySem.W.Frag} {p : Option Addr} {B0 H0 B H : Hp} {σ : L2.St} {st : S} (R : Rel K p B0 H0 B H σ st) {a : Addr} (h : H a = none) (i : Nat) (ds : List PyData) (e : st.δ[i]? = some (SD.own ds)) : σ[i]? ≠ some (some (V.ref a)) := by
  obtain ⟨l, xs, h1, h2, _⟩ := R.ow i ds e
  rw [h1]
  intro z
  cases z
  rw [h] at h2
  cases h2
theorem DvL.take {K : PySem.W.Frag} {B : Hp} : ∀ {vs : List V} {ds : List PyData} (n : Nat), DvL K B vs ds → DvL K B (vs.take n) (ds.take n)
  | _, _, 0, _ => .nil
  | _, _, n + 1, .nil => .nil
  | _, _, n + 1, .cons h r => .cons h (DvL.take n r)
theorem cut_upto (xs : List V) {k : Int} (h : 0 ≤ k) : cutV xs none (some k) = xs.take k.toNat := by
  unfold cutV HT.sIx
  simp only [List.drop_zero, Nat.sub_zero]
  split
  · omega
  · by_cases e : k.toNat ≤ xs.length
    · first
      | (rw [Nat.min_eq_left e])
      | (rw [Nat.min_eq_right e])
    · first
      | (rw [Nat.min_eq_right (by omega), List.take_length, List.take_of_length_le (by omega)])
      | (rw [Nat.min_eq_left (by omega), List.take_length, List.take_of_length_le (by omega)])
section
variable {Γ : Gam} {F : Fns} {N : List Str} {k : Nat} {sc : Scope}
theorem snd_nilL : SndL Γ F N k sc [] .nil := by
  intro X ok hs p B0 H0 B H σ st ds st' R ev
  cases ev
  refine ⟨fun Q q => w_pa pa_nil (q [] B H R (Same.refl _) .nil), fun kws hk Q q => ?_⟩
  cases kws with
  | nil => exact w_pk pk_nil (q [] B H R (Same.refl _) .nil)
  | cons a r => cases hk
theorem snd_consL {e : Expr} {es : List Expr} {c : C} {cs : Cs} (h : SndE Γ F N k sc e c) (r : SndL Γ F N k sc es cs) (hst : ∀ env, starEach (e :: es) env = (false, eval e env) :: starEach es env) : SndL Γ F N k sc (e :: es) (.cons c cs) := by
  intro X ok hs p B0 H0 B H σ st ds st' R ev
  simp only [evalL] at ev
  split at ev
  · rename_i d1 st1 e1
    split at ev
    · rename_i ds1 st2 e2
      obtain ⟨rfl, rfl⟩ := some2 ev
      refine ⟨fun Q q => w_pa (pa_cons pe_w pa_w (hst X.env)) ?_, fun kws hk Q q => ?_⟩
      · refine h X ok hs _ _ _ _ _ _ _ _ _ R e1 _ fun v B1 H1 R1 s1 dv => ?_
        exact (r X ok hs _ _ _ _ _ _ _ _ _ R1 e2).1 _ fun vs B2 H2 R2 s2 dvs => q (v :: vs) B2 H2 R2 (s1.trans s2) (.cons (dv.mono s2) dvs)
      · cases kws with
        | nil => cases hk
        | cons a l =>
          obtain ⟨nm, e0, kp⟩ := a
          have hk' : e0 :: l.map (fun k => k.value) = e :: es := hk
          injection hk' with k1 k2
          subst k1
          refine w_pk (pk_cons pe_w pk_w) ?_
          refine h X ok hs _ _ _ _ _ _ _ _ _ R e1 _ fun v B1 H1 R1 s1 dv => ?_
          exact (r X ok hs _ _ _ _ _ _ _ _ _ R1 e2).2 l k2 _ fun vs B2 H2 R2 s2 dvs => q (v :: vs) B2 H2 R2 (s1.trans s2) (.cons (dv.mono s2) dvs)
    · cases ev
  · cases ev
theorem snd_tup {es : List Expr} {kk : Nat} {pos : Pos} {cs : Cs} (h : SndL Γ F N k sc es cs) : SndE Γ F N k sc (.Tuple es kk pos) (.tup cs) := by
  intro X ok hs p B0 H0 B H σ st d st' R ev Q q
  simp only [evalE] at ev
  split at ev
  · rename_i ds st1 e1
    split at ev
    · rename_i hz
      obtain ⟨rfl, rfl⟩ := some2 ev
      refine w_pe (pe_tup pa_w) ?_
      refine (h X ok hs _ _ _ _ _ _ _ _ _ R e1).1 _ fun vs B1 H1 R1 s1 dvs => ?_
      refine ⟨by rw [dvs.length]; exact small_line hz, fun a ha => ?_⟩
      have sb : Same B1 (upd B1 a (.tup vs)) := same_upd (R1.free ha).2.2
      exact q (.ref a) _ _ (R1.alloc ha) (s1.trans sb) (.tup (.of upd_same) (dvs.mono sb))
    · cases ev
  · cases ev
theorem snd_lst {es : List Expr} {pos : Pos} {cs : Cs} (h : SndL Γ F N k sc es cs) : SndE Γ F N k sc (.List es pos) (.lst cs) := by
  intro X ok hs p B0 H0 B H σ st d st' R ev Q q
  simp only [evalE] at ev
  split at ev
  · rename_i ds st1 e1
    split at ev
    · rename_i hz
      obtain ⟨rfl, rfl⟩ := some2 ev
      refine w_pe (pe_lst pa_w) ?_
      refine (h X ok hs _ _ _ _ _ _ _ _ _ R e1).1 _ fun vs B1 H1 R1 s1 dvs => ?_
      refine ⟨by rw [dvs.length]; exact small_line hz, fun a ha => ?_⟩
      have sb : Same B1 (upd B1 a (.lst vs)) := same_upd (R1.free ha).2.2
      exact q (.ref a) _ _ (R1.alloc ha) (s1.trans sb) (.lst upd_same (dvs.mono sb))
    · cases ev
  · cases ev
theorem snd_dct1 {v : Expr} {x : Str} {j : Nat} {p1 pos : Pos} {cv : C} (h : SndE Γ F N k sc v cv) : SndE Γ F N k sc (.Dict [some (.Constant (.str x) j p1)] [v] pos) (.dct1 x cv) := by
  intro X ok hs p B0 H0 B H σ st d st' R ev Q q
  simp only [evalE] at ev
  split at ev
  · rename_i d1 st1 e1
    obtain ⟨rfl, rfl⟩ := some2 ev
    refine w_pe (pe_disp (pps_cons pe_str pe_w pps_nil) rfl rfl (fun z => by cases z) (by show 1 ≤ 15; decide)) ?_
    intro a ha
    obtain ⟨f1, f2, f3⟩ := R.free ha
    have sh : Same H (upd H a (.dK [])) := same_upd ha
    have Ra : Rel X.K p B (upd H a (.dK [])) B (upd H a (.dK [])) σ st.hush := (R.heap sh).here
    refine h X ok hs _ _ _ _ _ _ _ _ _ Ra e1 _ fun w B1 H1 R1 s1 dw => ?_
    have e0 : H1 a = some (.dK []) := R1.fr a _ f2 upd_same
    refine ⟨e0, [(Sum.inr x, w)], rfl, by show 1 ≤ 15; decide, ?_⟩
    have R2 := R.back sh R1
    have fb : B1 a = none := by
      cases z : B1 a with
      | none => rfl
      | some o =>
        rcases R1.new a o z with ⟨o', z'⟩ | z'
        · rw [f3] at z'; cases z'
        · rw [upd_same] at z'; cases z'
    have sb : Same B1 (upd B1 a (.dK [(Sum.inr x, w)])) := same_upd fb
    refine q (.ref a) _ _ (R2.fin f1 f2 fb (R.nown ha)) (s1.trans sb) (.dct upd_same (.cons (dw.mono sb) .nil))
  · cases ev
end
end Kd

set_option Elab.async false
set_option linter.all false
set_option maxRecDepth 100000
set_option maxHeartbeats 8000000
namespace Kd
open PySem PySem.Spec PyProof.Rows L2
section
variable {Γ : Gam} {F : Fns} {N : List Str} {k : Nat} {sc : Scope}
theorem gl_of {X : Cx} {x : Str} (hs : X.env.scope = sc) (h : Pl sc x) : Gl X x := by
  show X.env.scope.names.lookup x = _
  rw [hs]
  exact h
theorem isi_all {K : PySem.W.Frag} {d : PyData} : ∀ {ts : List String} {b : Bool}, isiD d ts = some b → PySem.W.kitAny K (.type (tyD d)) (ts.map Value.type) = some b
  | [], b, h => by cases h; exact kitAny_nil
  | t :: ts, b, h => by
    unfold isiD at h
    split at h
    · rename_i e
      cases h
      exact kitAny_cons (kit_ty e) (fun z => by cases z) fun _ => rfl
    · rename_i e
      exact kitAny_cons (kit_ty e) (fun _ => isi_all h) fun z => by cases z
    · cases h
theorem snd_isi1 {a : Expr} {t : Str} {T : String} {p p2 pos : Pos} {ca : C} (ha : SndE Γ F N k sc a ca) (h1 : Pl sc "isinstance") (h2 : ("isinstance" : Str) ∈ Γ.bs) (h3 : Pl sc t) (h4 : t ∈ Γ.bs) (h5 : bootBuiltins t = some (.type T)) (h6 : t ≠ "__name__")
    (h7 : (t == ("__debug__" : Str)) = false) (hst : ∀ env, starEach [a, .Name t p2] env = (false, eval a env) :: starEach [.Name t p2] env) : SndE Γ F N k sc (.Call (.Name "isinstance" p) [a, .Name t p2] [] pos) (.isi ca [T]) := by
  intro X ok hs p B0 H0 B H σ st d st' R ev Q q
  simp only [evalE] at ev
  split at ev
  · rename_i d1 st1 e1
    split at ev
    · rename_i b e2
      obtain ⟨rfl, rfl⟩ := some2 ev
      refine w_pe (pe_callB call_isi (gl_of hs h1) (ok.bl _ h2) (by decide +kernel) (pa_cons pe_w (pa_cons (pe_bltn (v := .ty T) (gl_of hs h3) (ok.bl _ h4) h5 rfl h6 h7) pa_nil) (hst X.env)) (by decide) (by decide) (hst X.env) rfl) ?_
      refine ha X ok hs _ _ _ _ _ _ _ _ _ R e1 _ fun v B1 H1 R1 s1 dv => ?_
      have e3 : kitB (tyD d1) T = some b := by
        unfold isiD at e2
        split at e2
        · rename_i z; cases e2; exact z
        · rename_i z; cases e2; exact z
        · cases e2
      exact ⟨v, .ty T, _, _, b, rfl, .ty T, ty_ok R1.ext dv, kit_ty e3, q _ B1 H1 R1 s1 (.bl _)⟩
    · cases ev
  · cases ev
theorem snd_isi2 {a : Expr} {t t' : Str} {T T' : String} {p p2 p3 p4 pos : Pos} {kk : Nat} {ca : C} (ha : SndE Γ F N k sc a ca) (h1 : Pl sc "isinstance") (h2 : ("isinstance" : Str) ∈ Γ.bs) (h3 : Pl sc t) (h4 : t ∈ Γ.bs) (h5 : bootBuiltins t = some (.type T)) (h6 : t ≠ "__name__")
    (h7 : (t == ("__debug__" : Str)) = false) (h3' : Pl sc t') (h4' : t' ∈ Γ.bs) (h5' : bootBuiltins t' = some (.type T')) (h6' : t' ≠ "__name__") (h7' : (t' == ("__debug__" : Str)) = false)
    (hst : ∀ env, starEach [a, .Tuple [.Name t p2, .Name t' p3] kk p4] env = (false, eval a env) :: starEach [.Tuple [.Name t p2, .Name t' p3] kk p4] env) : SndE Γ F N k sc (.Call (.Name "isinstance" p) [a, .Tuple [.Name t p2, .Name t' p3] kk p4] [] pos) (.isi ca [T, T']) := by
  intro X ok hs p B0 H0 B H σ st d st' R ev Q q
  simp only [evalE] at ev
  split at ev
  · rename_i d1 st1 e1
    split at ev
    · rename_i b e2
      obtain ⟨rfl, rfl⟩ := some2 ev
      refine w_pe (pe_callB call_isiT (gl_of hs h1) (ok.bl _ h2) (by decide +kernel) (pa_cons pe_w (pa_cons (pe_tup (pa_cons (pe_bltn (v := .ty T) (gl_of hs h3) (ok.bl _ h4) h5 rfl h6 h7) (pa_cons (pe_bltn (v := .ty T') (gl_of hs h3') (ok.bl _ h4') h5' rfl h6' h7') pa_nil))) pa_nil) (hst X.env))
        (by decide) (by decide) (hst X.env) rfl) ?_
      refine ha X ok hs _ _ _ _ _ _ _ _ _ R e1 _ fun v B1 H1 R1 s1 dv => ?_
      refine ⟨by show 2 ≤ sizeLine; decide, fun q0 hq0 => ?_⟩
      have sh : Same H1 (upd H1 q0 (.tup [.ty T, .ty T'])) := same_upd hq0
      exact ⟨v, q0, [.ty T, .ty T'], _, _, b, rfl, upd_same, .cons (.ty T) (.cons (.ty T') .nil), ty_ok (R1.ext.trans sh) dv, isi_all e2, q _ B1 _ (R1.heap sh) s1 (.bl _)⟩
    · cases ev
  · cases ev
theorem snd_blt {b : Bt} {a : Expr} {x : Str} {p pos : Pos} {ca : C} (ha : SndE Γ F N k sc a ca) (hw : ∀ (X : Cx), Ok Γ F N k X → X.env.scope = sc → ∀ r, CallR X (btV b).val r → PE X (.Call (.Name x p) [a] [] pos) (tCB r (tCons (wE X a) tNil))) : SndE Γ F N k sc (.Call (.Name x p) [a] [] pos) (.blt b ca) := by
  intro X ok hs p B0 H0 B H σ st d st' R ev Q q
  simp only [evalE] at ev
  split at ev
  · rename_i x1 st1 e1
    split at ev
    · rename_i z e2
      obtain ⟨rfl, rfl⟩ := some2 ev
      obtain ⟨r, hr, hk⟩ := blt_ok ok.calm ok.gd (ok_units ok) e2
      refine w_pe (hw X ok hs r hr) ?_
      refine ha X ok hs _ _ _ _ _ _ _ _ _ R e1 _ fun v B1 H1 R1 s1 dv => ?_
      refine hk B1 H1 v R1.ext dv Q (fun u du => q u B1 H1 R1 s1 du) fun q0 o hq0 hd => ?_
      have sb : Same B1 (upd B1 q0 o) := same_upd (R1.free hq0).2.2
      exact q (.ref q0) _ _ (R1.alloc hq0) (s1.trans sb) (hd _ sb (same_upd2 R1.ext) upd_same)
    · cases ev
  · cases ev
theorem snd_bltF {b : Bt} {id : String} {x : Str} {a : Expr} {p pos : Pos} {ca : C} (hb : btV b = .fn id) (ha : SndE Γ F N k sc a ca) (h1 : Pl sc x) (h2 : x ∈ Γ.bs) (h3 : bootBuiltins x = some (.builtin id)) (h4 : x ≠ "__name__") (h5 : (x == ("__debug__" : Str)) = false)
    (hst : ∀ env, starEach [a] env = (false, eval a env) :: starEach [] env) : SndE Γ F N k sc (.Call (.Name x p) [a] [] pos) (.blt b ca) :=
  snd_blt ha fun X ok hs r hr => pe_callB (by rw [hb] at hr; exact hr) (gl_of hs h1) (ok.bl _ h2) h3 (pa_cons pe_w pa_nil (hst X.env)) h4 h5 (hst X.env) rfl
theorem snd_bltT {b : Bt} {id : String} {x : Str} {a : Expr} {p pos : Pos} {ca : C} (hb : btV b = .ty id) (ha : SndE Γ F N k sc a ca) (h1 : Pl sc x) (h2 : x ∈ Γ.bs) (h3 : bootBuiltins x = some (.type id)) (h4 : x ≠ "__name__") (h5 : (x == ("__debug__" : Str)) = false)
    (hst : ∀ env, starEach [a] env = (false, eval a env) :: starEach [] env) : SndE Γ F N k sc (.Call (.Name x p) [a] [] pos) (.blt b ca) :=
  snd_blt ha fun X ok hs r hr => pe_callTy (by rw [hb] at hr; exact hr) (gl_of hs h1) (ok.bl _ h2) h3 (pa_cons pe_w pa_nil (hst X.env)) h4 h5 (hst X.env) rfl
theorem snd_sub {a i : Expr} {pos : Pos} {ca ci : C} (ha : SndE Γ F N k sc a ca) (hi : SndE Γ F N k sc i ci) (hp : PlainIx i) : SndE Γ F N k sc (.Subscript a i pos) (.sub ca ci) := by
  intro X ok hs p B0 H0 B H σ st d st' R ev Q q
  simp only [evalE] at ev
  split at ev
  · rename_i x st1 e1
    split at ev
    · rename_i y st2 e2
      split at ev
      · rename_i z e3
        obtain ⟨rfl, rfl⟩ := some2 ev
        obtain ⟨r, hr, hk⟩ := sub_ok (X := X) e3
        refine w_pe (pe_ix hr pe_w pe_w hp) ?_
        refine ha X ok hs _ _ _ _ _ _ _ _ _ R e1 _ fun v B1 H1 R1 s1 d1 => ?_
        refine hi X ok hs _ _ _ _ _ _ _ _ _ R1 e2 _ fun w B2 H2 R2 s2 d2 => ?_
        exact hk B2 H2 v w R2.ext (d1.mono s2) d2 Q fun u d3 => q u B2 H2 R2 (s1.trans s2) d3
      · cases ev
    · cases ev
  · cases ev
theorem lst_dv {K : PySem.W.Frag} {B : Hp} {v : V} {ds : List PyData} (h : Dv K B v (.list ds)) : ∃ a xs, v = .ref a ∧ B a = some (.lst xs) ∧ DvL K B xs ds := by
  cases h with
  | lst h r => exact ⟨_, _, rfl, h, r⟩
theorem snd_upto {a n : Expr} {p pos : Pos} {ca cn : C} (ha : SndE Γ F N k sc a ca) (hn : SndE Γ F N k sc n cn) : SndE Γ F N k sc (.Subscript a (.Slice none (some n) none p) pos) (.upto ca cn) := by
  intro X ok hs p B0 H0 B H σ st d st' R ev Q q
  simp only [evalE] at ev
  split at ev
  · rename_i xs st1 e1
    split at ev
    · rename_i j st2 e2
      split at ev
      · rename_i hj
        obtain ⟨rfl, rfl⟩ := some2 ev
        refine w_pe (pe_slice sl_list pe_w po_none (po_some pe_w)) ?_
        refine ha X ok hs _ _ _ _ _ _ _ _ _ R e1 _ fun v B1 H1 R1 s1 d1 => ?_
        refine hn X ok hs _ _ _ _ _ _ _ _ _ R1 e2 _ fun w B2 H2 R2 s2 d2 => ?_
        cases d2
        obtain ⟨q1, vs, rfl, hq, r⟩ := lst_dv (d1.mono s2)
        refine ⟨_, rfl, q1, vs, rfl, .of (R2.ext _ _ hq), fun q0 hq0 => ?_⟩
        have sb : Same B2 (upd B2 q0 (.lst (cutV vs none (some j)))) := same_upd (R2.free hq0).2.2
        refine q (.ref q0) _ _ (R2.alloc hq0) ((s1.trans s2).trans sb) (.lst upd_same (DvL.mono sb ?_))
        rw [cut_upto vs hj]
        exact r.take _
      · cases ev
    · cases ev
  · cases ev
theorem snd_cat {a b : Expr} {pos : Pos} {ca cb : C} (ha : SndE Γ F N k sc a ca) (hb : SndE Γ F N k sc b cb) : SndE Γ F N k sc (.BinOp a .Add b pos) (.cat ca cb) := by
  intro X ok hs p B0 H0 B H σ st d st' R ev Q q
  simp only [evalE] at ev
  split at ev
  · rename_i xs st1 e1
    split at ev
    · rename_i ys st2 e2
      split at ev
      · rename_i hz
        obtain ⟨rfl, rfl⟩ := some2 ev
        refine w_pe (pe_op op_cat pe_w pe_w) ?_
        refine ha X ok hs _ _ _ _ _ _ _ _ _ R e1 _ fun v B1 H1 R1 s1 d1 => ?_
        refine hb X ok hs _ _ _ _ _ _ _ _ _ R1 e2 _ fun w B2 H2 R2 s2 d2 => ?_
        obtain ⟨q1, vs, rfl, hq, r⟩ := lst_dv (d1.mono s2)
        obtain ⟨q2, ws, rfl, hq2, r2⟩ := lst_dv d2
        refine ⟨q1, q2, vs, ws, rfl, rfl, R2.ext _ _ hq, R2.ext _ _ hq2, by rw [r.length, r2.length]; exact small_line hz, fun q0 hq0 => ?_⟩
        have sb : Same B2 (upd B2 q0 (.lst (vs ++ ws))) := same_upd (R2.free hq0).2.2
        exact q (.ref q0) _ _ (R2.alloc hq0) ((s1.trans s2).trans sb) (.lst upd_same ((r.append r2).mono sb))
      · cases ev
    · cases ev
  · cases ev
/-! ### what is gone over -/
theorem snd_rng {a : Expr} {p pos : Pos} {c : C} (h : SndE Γ F N k sc a c) (h1 : Pl sc "range") (h2 : ("range" : Str) ∈ Γ.bs) (hst : ∀ env, starEach [a] env = [(false, eval a env)]) : SndI Γ F N k sc (.Call (.Name "range" p) [a] [] pos) (.rng c) := by
  intro X ok hs p B0 H0 B H σ st xs st' R ev tg Rr q
  simp only [evalI] at ev
  split at ev
  · rename_i n st1 e1
    split at ev
    · rename_i hn
      obtain ⟨rfl, rfl⟩ := some2 ev
      refine w_pi (pi_range1 (gl_of hs h1) (ok.bl _ h2) (pa_cons pe_w pa_nil (by rw [hst X.env] <;> rfl)) (hst X.env)) ?_
      refine h X ok hs _ _ _ _ _ _ _ _ _ R e1 _ fun v B1 H1 R1 s1 d1 => ?_
      cases d1
      refine ⟨n, rfl, by omega, by omega, ?_⟩
      refine q _ B1 H1 (fun _ => True) _ R1 s1 (by rw [List.length_map, List.length_range]; exact walk_range) (fun H2 e2 => True.intro) fun i H2 x H3 hi e2 y => ?_
      obtain ⟨rfl, rfl⟩ := y
      rw [List.length_map, List.length_range] at hi
      refine ⟨.int ((i : Nat) : Int), ?_, rfl, ?_⟩
      · rw [List.getElem?_map, List.getElem?_range hi] <;> rfl
      · show Dv X.K B1 (V.int (0 + (i : Int))) _
        rw [Int.zero_add]; exact .int _
    · cases ev
  · cases ev
theorem snd_seq {e : Expr} {c : C} (h : SndE Γ F N k sc e c) : SndI Γ F N k sc e (.seq c) := by
  intro X ok hs p B0 H0 B H σ st xs st' R ev tg Rr q
  simp only [evalI] at ev
  split at ev
  · rename_i d st1 e1
    split at ev
    · rename_i ds e2
      obtain ⟨rfl, rfl⟩ := some2 ev
      cases d with
      | list zs =>
        cases e2
        refine w_pi (pi_list pe_w) ?_
        refine h X ok hs _ _ _ _ _ _ _ _ _ R e1 _ fun v B1 H1 R1 s1 d1 => ?_
        obtain ⟨q1, vs, rfl, hq, r⟩ := lst_dv d1
        refine ⟨q1, rfl, ⟨vs, .of (R1.ext _ _ hq)⟩, ?_⟩
        refine q _ B1 H1 (fun H => SqL X.K H q1 vs) (YAt vs) R1 s1 (by rw [← r.length]; exact walk_list (xs := vs)) (fun H2 e2 => .of (e2 _ _ hq)) fun i H2 x H3 hi e2 y => ?_
        obtain ⟨rfl, hx⟩ := y
        obtain ⟨d2, g1, g2⟩ := r.get hx
        exact ⟨d2, g1, rfl, g2⟩
      | tuple zs =>
        cases e2
        refine w_pi (pi_tup pe_w) ?_
        refine h X ok hs _ _ _ _ _ _ _ _ _ R e1 _ fun v B1 H1 R1 s1 d1 => ?_
        obtain ⟨q1, vs, rfl, hq, r⟩ := tup_dv d1
        refine ⟨q1, rfl, ⟨vs, same_t R1.ext hq⟩, ?_⟩
        refine q _ B1 H1 (fun H => SqT X.K H q1 vs) (YAt vs) R1 s1 (by rw [← r.length]; exact walk_tup (xs := vs)) (fun H2 e2 => same_t e2 hq) fun i H2 x H3 hi e2 y => ?_
        obtain ⟨rfl, hx⟩ := y
        obtain ⟨d2, g1, g2⟩ := r.get hx
        exact ⟨d2, g1, rfl, g2⟩
      | str z =>
        cases e2
        refine w_pi (pi_str pe_w) ?_
        refine h X ok hs _ _ _ _ _ _ _ _ _ R e1 _ fun v B1 H1 R1 s1 d1 => ?_
        cases d1
        refine ⟨z, rfl, ?_⟩
        refine q _ B1 H1 (fun _ => True) _ R1 s1 (by rw [List.length_map, Array.length_toList]; exact walk_str (z := z)) (fun H2 e2 => True.intro) fun i H2 x H3 hi e2 y => ?_
        obtain ⟨rfl, ch, hx, rfl⟩ := y
        refine ⟨.str ⟨#[ch]⟩, ?_, rfl, .str _⟩
        rw [List.getElem?_map, Array.getElem?_toList, hx] <;> rfl
      | none => cases e2
      | bool b => cases e2
      | int b => cases e2
      | dict b => cases e2
    · cases ev
  · cases ev
end
end Kd

set_option Elab.async false
set_option linter.all false
set_option maxRecDepth 100000
set_option maxHeartbeats 8000000
namespace Kd
open PySem PySem.Spec PyProof.Rows L2
theorem DvL.erase {K : PySem.W.Frag} {B : Hp} : ∀ {vs : List V} {ds : List PyData} (n : Nat), DvL K B vs ds → DvL K B (vs.eraseIdx n) (ds.eraseIdx n)
  | _, _, _, .nil => .nil
  | _, _, 0, .cons _ r => r
  | _, _, n + 1, .cons h r => .cons h (DvL.erase n r)
section
variable {K : PySem.W.Frag} {p : Option Addr} {B0 H0 B H : Hp} {σ : L2.St} {st : S}
/-- a slot's own list is data from here on -/
theorem Rel.frz (R : Rel K p B0 H0 B H σ st) {i : Nat} {ds : List PyData} (e : st.δ[i]? = some (SD.own ds)) : ∃ l xs, σ[i]? = some (some (V.ref l)) ∧ H l = some (.lst xs) ∧ Rel K p B0 H0 (upd B l (.lst xs)) H σ (st.set i (.list ds)) ∧
    Same B (upd B l (.lst xs)) ∧ Dv K (upd B l (.lst xs)) (.ref l) (.list ds) := by
  obtain ⟨l, xs, h1, h2, h3, h4, h5⟩ := R.ow i ds e
  have sb : Same B (upd B l (.lst xs)) := same_upd h3
  have dv : Dv K (upd B l (.lst xs)) (.ref l) (.list ds) := .lst upd_same (h5.mono sb)
  refine ⟨l, xs, h1, h2, ⟨R.fr, fun b u h => ?_, R.up.trans sb, fun b u h => ?_, fun b q => ?_, R.h0, by show σ.length = (st.δ.set i _).length; rw [List.length_set, R.len], fun j x q => ?_, R.pen.mono sb fun _ _ => rfl, fun j q => ?_, fun j es q => ?_, fun j j' es es' n q q' => ?_⟩, sb, dv⟩
  · by_cases z : b = l
    · subst z; rw [upd_same] at h; rw [h2, h]
    · rw [upd_ne z] at h; exact R.ext _ _ h
  · by_cases z : b = l
    · subst z; exact .inr h4
    · rw [upd_ne z] at h; exact R.new b u h
  · rw [upd_ne (fun (z : b = l) => R.npen h4 (by rw [← z]; exact q))]; exact R.pn b q
  · rcases get_set q with ⟨rfl, rfl, _⟩ | ⟨_, q⟩
    · exact ⟨_, h1, dv⟩
    · obtain ⟨v, g1, g2⟩ := R.sl j x q
      exact ⟨v, g1, g2.mono sb⟩
  · obtain ⟨_, q⟩ := set_other (by intro z; cases z) q
    exact R.pv j q
  · obtain ⟨z, q⟩ := set_other (by intro z; cases z) q
    obtain ⟨l', ys, g1, g2, g3, g4, g5⟩ := R.ow j es q
    have nl : l' ≠ l := fun k => R.dj i j ds es z e q (by rw [h1, g1, k])
    exact ⟨l', ys, g1, g2, by rw [upd_ne nl]; exact g3, g4, g5.mono sb⟩
  · obtain ⟨_, q⟩ := set_other (by intro z; cases z) q
    obtain ⟨_, q'⟩ := set_other (by intro z; cases z) q'
    exact R.dj j j' es es' n q q'
theorem own_other {l : List SD} {i j : Nat} {ds es : List PyData} {z : List PyData} (h0 : l[i]? = some (.own z)) (h : (l.set i (.own ds))[j]? = some (.own es)) : (j = i ∧ es = ds) ∨ (j ≠ i ∧ l[j]? = some (.own es)) := by
  by_cases q : i = j
  · subst q
    rw [List.getElem?_set_self (List.getElem?_eq_some_iff.mp h0).1] at h
    cases h
    exact .inl ⟨rfl, rfl⟩
  · rw [List.getElem?_set_ne q] at h
    exact .inr ⟨fun k => q k.symm, h⟩
/-- a slot's own list is changed -/
theorem Rel.chg (R : Rel K p B0 H0 B H σ st) {i : Nat} {ds es : List PyData} {l : Addr} {ys : List V} (e : st.δ[i]? = some (SD.own ds)) (hl : σ[i]? = some (some (V.ref l))) (d : DvL K B ys es) :
    Rel K p B0 H0 B (upd H l (.lst ys)) σ (st.own i es) := by
  obtain ⟨l', xs, h1, h2, h3, h4, h5⟩ := R.ow i ds e
  rw [hl] at h1
  cases h1
  refine ⟨fun b u n h => ?_, fun b u h => ?_, R.up, R.new, R.pn, R.h0, by show σ.length = (st.δ.set i _).length; rw [List.length_set, R.len], fun j x q => ?_, R.pen.mono (Same.refl _) fun b q => ?_, fun j q => ?_, fun j zs q => ?_, fun j j' zs zs' n q q' => ?_⟩
  · rw [upd_ne (ne_of_none h h4)]; exact R.fr b u n h
  · rw [upd_ne (ne_of_none h h3)]; exact R.ext _ _ h
  · unfold S.get S.own at q
    by_cases z : i = j
    · subst z
      simp only [List.getElem?_set_self (List.getElem?_eq_some_iff.mp e).1] at q
      cases q
    · simp only [List.getElem?_set_ne z] at q
      exact R.sl j x q
  · exact upd_ne (fun (z : b = l) => R.npen h4 (by rw [← z]; exact q))
  · obtain ⟨_, q⟩ := set_other (by intro z; cases z) q
    exact R.pv j q
  · rcases own_other e q with ⟨rfl, rfl⟩ | ⟨z, q⟩
    · exact ⟨l, ys, hl, upd_same, h3, h4, d⟩
    · obtain ⟨m, ws, g1, g2, g3⟩ := R.ow j zs q
      have nl : m ≠ l := fun k => R.dj i j ds zs (fun w => z w.symm) e q (by rw [hl, g1, k])
      exact ⟨m, ws, g1, by rw [upd_ne nl]; exact g2, g3⟩
  · have old : ∀ {m : Nat} {zs : List PyData}, (st.own i es).δ[m]? = some (.own zs) → ∃ os, st.δ[m]? = some (.own os) := by
      intro m zs w
      rcases own_other e w with ⟨rfl, _⟩ | ⟨_, w⟩
      · exact ⟨_, e⟩
      · exact ⟨_, w⟩
    obtain ⟨_, o1⟩ := old q
    obtain ⟨_, o2⟩ := old q'
    exact R.dj j j' _ _ n o1 o2
/-- the pen's list is stored to -/
theorem Rel.store (R : Rel K p B0 H0 B H σ st) {a : Addr} {π' : Pen} {H' : Hp} (ha : p = some a) (hH : ∀ b, b ≠ a → H' b = H b) (pe : PenAt K B H' a π') : Rel K p B0 H0 B H' σ ⟨st.δ, some π'⟩ := by
  refine ⟨fun b o n h => ?_, fun b o h => ?_, R.up, R.new, R.pn, R.h0, R.len, R.sl, ⟨a, ha, pe⟩, R.pv, fun i ds h => ?_, R.dj⟩
  · rw [hH b fun z => n (by rw [ha, z])]; exact R.fr b o n h
  · rw [hH b fun (z : b = a) => by
      have := R.pn a ha
      rw [← z, h] at this
      cases this]
    exact R.ext _ _ h
  · obtain ⟨l, xs, h1, h2, h3, h4, h5⟩ := R.ow i ds h
    exact ⟨l, xs, h1, by rw [hH l fun z => R.npen h4 (by rw [ha, z])]; exact h2, h3, h4, h5⟩
end
section
variable {Γ : Gam} {F : Fns} {N : List Str} {k : Nat} {sc : Scope}
theorem pv_of {X : Cx} (ok : Ok Γ F N k X) (hs : X.env.scope = sc) {i : Nat} {x : Str} {pos : Pos} (hx : N[i]? = some x) (hv : Vis sc x) (h3 : (x == ("__debug__" : Str)) = false) (h4 : (x == ("__classdict__" : Str)) = false) : PE X (.Name x pos) (tVar i) :=
  pe_var (by rw [ok.hN]; exact hx) (by rw [hs]; exact hv) h3 h4
theorem snd_frz {i : Nat} {x : Str} {p : Pos} (hx : N[i]? = some x) (hv : Vis sc x) (h3 : (x == ("__debug__" : Str)) = false) (h4 : (x == ("__classdict__" : Str)) = false) : SndE Γ F N k sc (.Name x p) (.frz i) := by
  intro X ok hs p B0 H0 B H σ st d st' R ev Q q
  simp only [evalE] at ev
  split at ev
  · rename_i ds e
    obtain ⟨rfl, rfl⟩ := some2 ev
    obtain ⟨l, xs, g1, g2, R', sb, dv⟩ := R.frz e
    exact w_pe (pv_of ok hs hx hv h3 h4) ⟨_, g1, q _ _ _ R' sb dv⟩
  · cases ev
theorem snd_lenO {i : Nat} {x : Str} {p p2 pos : Pos} (hx : N[i]? = some x) (hv : Vis sc x) (h3 : (x == ("__debug__" : Str)) = false) (h4 : (x == ("__classdict__" : Str)) = false) (h1 : Pl sc "len") (h2 : ("len" : Str) ∈ Γ.bs) : SndE Γ F N k sc (.Call (.Name "len" p) [.Name x p2] [] pos) (.lenO i) := by
  intro X ok hs p B0 H0 B H σ st d st' R ev Q q
  simp only [evalE] at ev
  split at ev
  · rename_i ds e
    obtain ⟨rfl, rfl⟩ := some2 ev
    obtain ⟨l, xs, g1, g2, g3, g4, g5⟩ := R.ow i ds e
    refine w_pe (pe_callB call_len_seq (gl_of hs h1) (ok.bl _ h2) PySem.boot_len (pa_cons (pv_of ok hs hx hv h3 h4) pa_nil)) ⟨_, g1, l, xs, rfl, .inl (.of g2), ?_⟩
    rw [g5.length]
    exact q _ B H R (Same.refl _) (.int _)
  · cases ev
theorem ne_core {X : Cx} (ok : Ok Γ F N k X) (hs : X.env.scope = sc) {i : Nat} {p : Option Addr} {B0 H0 B H σ st} {ds : List PyData} (R : Rel X.K p B0 H0 B H σ st) (e : st.δ[i]? = some (SD.own ds)) (sh : SeqAt.shaped (.list ds) = true) {Q : VK}
    (q : ∀ H', Rel X.K p B0 H0 B H' σ st → Q (.bl (!ds.isEmpty)) H') : tOp (rNeD X.K) (tVar i) (tLst tNil) σ H Q := by
  obtain ⟨l, xs, g1, g2, g3, g4, g5⟩ := R.ow i ds e
  refine ⟨_, g1, by show 0 ≤ sizeLine; decide, fun a ha => ?_⟩
  have sh2 : Same H (upd H a (.lst [])) := same_upd ha
  have nd := nodict_shaped sh
  refine ⟨.list ds, .list [], .lst (.of (sh2 _ _ g2)) (DvL.dp (R.ext.trans sh2) g5 (by simpa [PyData.hasDict] using nd)), .lst (.of upd_same) .nil, sh, by decide +kernel, ?_⟩
  have ee : PyData.eqv (.list ds) (.list []) = ds.isEmpty := by
    cases ds with
    | nil => simp [PyData.eqv, PyData.eqvAll]
    | cons a r => simp [PyData.eqv, PyData.eqvAll]
  rw [ee]
  exact q _ (R.heap sh2)
theorem snd_neO {i : Nat} {x : Str} {p p2 pos : Pos} (hx : N[i]? = some x) (hv : Vis sc x) (h3 : (x == ("__debug__" : Str)) = false) (h4 : (x == ("__classdict__" : Str)) = false) : SndE Γ F N k sc (.Compare (.Name x p) [.NotEq] [.List [] p2] pos) (.neO i) := by
  intro X ok hs p B0 H0 B H σ st d st' R ev Q q
  simp only [evalE] at ev
  split at ev
  · rename_i ds e
    obtain ⟨hc, ev⟩ := ite_some ev
    obtain ⟨rfl, rfl⟩ := Prod.mk.inj ev
    exact w_pe (pe_cmpR (op_neD ok.room.units) (pv_of ok hs hx hv h3 h4) (pe_lst pa_nil) (nomark _)) (ne_core ok hs R e hc fun H' R' => q _ B H' R' (Same.refl _) (.bl _))
  · cases ev
theorem snd_neOT {i : Nat} {x : Str} {p p2 pos : Pos} (hx : N[i]? = some x) (hv : Vis sc x) (h3 : (x == ("__debug__" : Str)) = false) (h4 : (x == ("__classdict__" : Str)) = false) : SndT Γ F N k sc (.Compare (.Name x p) [.NotEq] [.List [] p2] pos) (.neO i) := by
  intro X ok hs p B0 H0 B H σ st d st' b R ev tr Q q
  simp only [evalE] at ev
  split at ev
  · rename_i ds e
    obtain ⟨hc, ev⟩ := ite_some ev
    obtain ⟨rfl, rfl⟩ := Prod.mk.inj ev
    cases tr
    exact w_pt (pt_cmpR (op_neD ok.room.units) (pv_of ok hs hx hv h3 h4) (pe_lst pa_nil) (nomark _)) (ne_core ok hs R e hc fun H' R' => ⟨_, rfl, q B H' R' (Same.refl _)⟩)
  · cases ev
theorem seq_at {n : Nat} {i : Int} (h0 : 0 ≤ i) (h1 : i < n) : seqIndex? i n = some i.toNat := by
  unfold seqIndex?
  split
  · omega
  · show (if (decide (0 ≤ i) && decide (i < n)) = true then some i.toNat else none) = _
    rw [if_pos (by simp [h0, h1])]
theorem snd_popO {i : Nat} {x : Str} {e : Expr} {p ap cp : Pos} {c : C} (hx : N[i]? = some x) (hv : Vis sc x) (h3 : (x == ("__debug__" : Str)) = false) (h4 : (x == ("__classdict__" : Str)) = false) (he : SndE Γ F N k sc e c) (hl : (ap.endLine == cp.line) = true)
    (hst : ∀ env, starEach [e] env = (false, eval e env) :: starEach [] env) : SndE Γ F N k sc (.Call (.Attribute (.Name x p) "pop" ap) [e] [] cp) (.popO i c) := by
  intro X ok hs p B0 H0 B H σ st d st' R ev Q q
  simp only [evalE] at ev
  split at ev
  · rename_i ds0 e0
    split at ev
    · rename_i n st1 e1
      split at ev
      · rename_i ds e2
        split at ev
        · rename_i hn
          split at ev
          · rename_i d1 e3
            obtain ⟨rfl, rfl⟩ := some2 ev
            obtain ⟨l, xs0, g1, g2, _⟩ := R.ow i ds0 e0
            refine w_pe (pe_bm PySem.F.plainAttrs_list PySem.F.slot_list_pop PySem.F.type_list_pop mt_popAt (pv_of ok hs hx hv h3 h4) (pa_cons pe_w pa_nil (hst X.env)) (by rfl) (by rw [hst X.env] <;> rfl) hl (hst X.env) rfl) ?_
            refine ⟨_, g1, .inl ⟨rfl, xs0, .of g2⟩, ?_⟩
            refine he X ok hs _ _ _ _ _ _ _ _ _ R e1 _ fun v B1 H1 R1 s1 dv => ?_
            cases dv
            obtain ⟨l', xs, k1, k2, k3, k4, k5⟩ := R1.ow i ds e2
            rw [g1] at k1
            cases k1
            obtain ⟨u, m1, m2⟩ := k5.get' e3
            have hz : xs.length ≤ 100000 := by rw [k5.length]; exact of_decide_eq_true hn.2.2
            have hlt : n < (xs.length : Int) := by rw [k5.length]; exact hn.2.1
            refine ⟨l, xs, n, n.toNat, u, rfl, rfl, k2, by omega, by omega, seq_at hn.1 hlt, m1, ?_⟩
            exact q u B1 _ (R1.chg e2 g1 (k5.erase _)) s1 m2
          · cases ev
        · cases ev
      · cases ev
    · cases ev
  · cases ev
theorem pen_at {K : PySem.W.Frag} {p : Option Addr} {B0 H0 B H : Hp} {σ : L2.St} {st : S} (R : Rel K p B0 H0 B H σ st) {j : Nat} {π : Pen} (e : st.δ[j]? = some SD.pen) (hπ : st.π = some π) : ∃ a, p = some a ∧ σ[j]? = some (some (V.ref a)) ∧ PenAt K B H a π := by
  obtain ⟨a, ha, h1⟩ := R.pv j e
  have pe := R.pen
  rw [hπ] at pe
  obtain ⟨a', ha', pe⟩ := pe
  rw [ha] at ha'
  cases ha'
  exact ⟨a, ha, h1, pe⟩
theorem snd_penG {j n : Nat} {kk : Int} {y : Str} {p p2 pos : Pos} (hx : N[j]? = some y) (hv : Vis sc y) (h3 : (y == ("__debug__" : Str)) = false) (h4 : (y == ("__classdict__" : Str)) = false) (hk : kk = 1 ∨ kk = 2) :
    SndE Γ F N k sc (.Subscript (.Name y p) (.Constant (.int kk) n p2) pos) (.penG j kk.toNat) := by
  intro X ok hs p B0 H0 B H σ st d st' R ev Q q
  simp only [evalE] at ev
  split at ev
  · rename_i π e hπ
    obtain ⟨a, ha, h1, r, g1, g2⟩ := pen_at R e hπ
    refine w_pe (pe_ix ix_list (pv_of ok hs hx hv h3 h4) pe_int (fun _ _ => rfl)) ⟨_, h1, a, [V.ref r, V.int π.lap, V.int π.g], kk, ?_⟩
    rcases hk with rfl | rfl
    · obtain ⟨rfl, rfl⟩ := some2 ev
      exact ⟨_, rfl, rfl, .of g1, rfl, q _ B H R (Same.refl _) (.int _)⟩
    · obtain ⟨rfl, rfl⟩ := some2 ev
      exact ⟨_, rfl, rfl, .of g1, rfl, q _ B H R (Same.refl _) (.int _)⟩
  · cases ev
theorem snd_penAt {j n : Nat} {y : Str} {e : Expr} {p p2 p3 pos : Pos} {c : C} (hx : N[j]? = some y) (hv : Vis sc y) (h3 : (y == ("__debug__" : Str)) = false) (h4 : (y == ("__classdict__" : Str)) = false) (he : SndE Γ F N k sc e c) (hp : PlainIx e) :
    SndE Γ F N k sc (.Subscript (.Subscript (.Name y p) (.Constant (.int 0) n p2) p3) e pos) (.penAt j c) := by
  intro X ok hs p B0 H0 B H σ st d st' R ev Q q
  simp only [evalE] at ev
  split at ev
  · rename_i π e0 hπ
    split at ev
    · rename_i i st1 e1
      split at ev
      · rename_i m e3
        obtain ⟨rfl, rfl⟩ := some2 ev
        obtain ⟨a, ha, h1, r, g1, g2⟩ := pen_at R e0 hπ
        refine w_pe (pe_ix ix_list (pe_ix ix_list (pv_of ok hs hx hv h3 h4) pe_int (fun _ _ => rfl)) pe_w hp) ⟨_, h1, a, _, 0, _, rfl, rfl, .of g1, rfl, ?_⟩
        refine he X ok hs _ _ _ _ _ _ _ _ _ R e1 _ fun v B1 H1 R1 s1 dv => ?_
        cases dv
        refine ⟨r, _, i, .int m, rfl, rfl, R1.ext.seq (s1.seq g2), ?_, q _ B1 H1 R1 s1 (.int _)⟩
        unfold atI at e3 ⊢
        rw [List.length_map]
        cases z : ixN π.ns.length i with
        | none => rw [z] at e3; cases e3
        | some j =>
          rw [z] at e3
          show (π.ns.map V.int)[j]? = _
          have e3 : π.ns[j]? = some m := e3
          rw [List.getElem?_map, e3] <;> rfl
      · cases ev
    · cases ev
  · cases ev
theorem snd_penLen {j n : Nat} {y : Str} {p0 p p2 p3 pos : Pos} (hx : N[j]? = some y) (hv : Vis sc y) (h3 : (y == ("__debug__" : Str)) = false) (h4 : (y == ("__classdict__" : Str)) = false) (h1 : Pl sc "len") (h2 : ("len" : Str) ∈ Γ.bs) :
    SndE Γ F N k sc (.Call (.Name "len" p0) [.Subscript (.Name y p) (.Constant (.int 0) n p2) p3] [] pos) (.penLen j) := by
  intro X ok hs p B0 H0 B H σ st d st' R ev Q q
  simp only [evalE] at ev
  split at ev
  · rename_i π e0 hπ
    obtain ⟨rfl, rfl⟩ := some2 ev
    obtain ⟨a, ha, g0, r, g1, g2⟩ := pen_at R e0 hπ
    refine w_pe (pe_callB call_len_seq (gl_of hs h1) (ok.bl _ h2) PySem.boot_len (pa_cons (pe_ix ix_list (pv_of ok hs hx hv h3 h4) pe_int (fun _ _ => rfl)) pa_nil)) ⟨_, g0, a, _, 0, _, rfl, rfl, .of g1, rfl, r, _, rfl, .inl (R.ext.seq g2), ?_⟩
    rw [List.length_map]
    exact q _ B H R (Same.refl _) (.int _)
  · cases ev
theorem ints_lay : ∀ ns : List Int, PyData.canLayAll0 (ns.map PyData.int) = true
  | [] => by simp [PyData.canLayAll0]
  | n :: ns => by simp [PyData.canLayAll0, PyData.canLay0, ints_lay ns]
theorem ints_depth : ∀ ns : List Int, PyData.depthAll (ns.map PyData.int) ≤ 1
  | [] => by simp [PyData.depthAll]
  | n :: ns => by
    have := ints_depth ns
    simp only [List.map_cons, PyData.depthAll, PyData.depth]
    omega
theorem ints_shaped (ns : List Int) : SeqAt.shaped (.list (ns.map PyData.int)) = true := by
  unfold SeqAt.shaped
  rw [Bool.and_eq_true]
  have := ints_depth ns
  exact ⟨by simp [PyData.canLay0, ints_lay], decide_eq_true (by simp only [PyData.depth]; omega)⟩
theorem ints_dp {K : PySem.W.Frag} {H : Hp} : ∀ ns : List Int, DpAll K H (ns.map V.int) (ns.map PyData.int)
  | [] => .nil
  | n :: ns => .cons (.int n) (ints_dp ns)
theorem snd_penNeT {j n : Nat} {y : Str} {p p2 p3 p4 pos : Pos} (hx : N[j]? = some y) (hv : Vis sc y) (h3 : (y == ("__debug__" : Str)) = false) (h4 : (y == ("__classdict__" : Str)) = false) :
    SndT Γ F N k sc (.Compare (.Subscript (.Name y p) (.Constant (.int 0) n p2) p3) [.NotEq] [.List [] p4] pos) (.penNe j) := by
  intro X ok hs p B0 H0 B H σ st d st' b R ev tr Q q
  simp only [evalE] at ev
  split at ev
  · rename_i π e0 hπ
    obtain ⟨rfl, rfl⟩ := some2 ev
    cases tr
    obtain ⟨a, ha, g0, r, g1, g2⟩ := pen_at R e0 hπ
    refine w_pt (pt_cmpR (op_neD ok.room.units) (pe_ix ix_list (pv_of ok hs hx hv h3 h4) pe_int (fun _ _ => rfl)) (pe_lst pa_nil) (nomark _)) ⟨_, g0, a, _, 0, _, rfl, rfl, .of g1, rfl, by show 0 ≤ sizeLine; decide, fun l hl => ?_⟩
    have sh : Same H (upd H l (.lst [])) := same_upd hl
    refine ⟨.list (π.ns.map PyData.int), .list [], .lst ((R.ext.trans sh).seq g2) (ints_dp _), .lst (.of upd_same) .nil, ints_shaped _, by decide +kernel, ?_⟩
    have ee : PyData.eqv (.list (π.ns.map PyData.int)) (.list []) = π.ns.isEmpty := by
      cases π.ns with
      | nil => simp [PyData.eqv, PyData.eqvAll]
      | cons a r => simp [PyData.eqv, PyData.eqvAll]
    rw [ee]
    exact ⟨_, rfl, q B _ (R.heap sh) (Same.refl _)⟩
  · cases ev
end
end Kd

set_option Elab.async false
set_option linter.all false
set_option maxRecDepth 100000
set_option maxHeartbeats 8000000
/-! How many unlike texts: len(set(..)). -/
namespace Kd
open PySem PySem.Spec PyProof.Rows L2

theorem uniqS_snoc (xs : List Str) (x : Str) : uniqS (xs ++ [x]) = ddS (uniqS xs) x := by
  unfold uniqS
  rw [List.foldl_append] <;> rfl
theorem ddS_len (l : List Str) (x : Str) : (ddS l x).length = if l.any (· == x) then l.length else l.length + 1 := by
  unfold ddS
  split <;> simp
theorem ddS_any (l : List Str) (x k : Str) : (ddS l x).any (· == k) = (l.any (· == k) || decide (k = x)) := by
  unfold ddS
  by_cases h : l.any (· == x) = true
  · rw [if_pos h]
    by_cases e : k = x
    · subst e; rw [h] <;> simp
    · simp [e]
  · rw [if_neg h, List.any_append]
    by_cases e : k = x
    · subst e; simp
    · have : (x == k) = false := beq_eq_false_iff_ne.mpr fun z => e z.symm
      simp [this, e]
theorem uniqS_le : ∀ (xs : List Str) (l : List Str), (xs.foldl ddS l).length ≤ l.length + xs.length
  | [], l => Nat.le_refl _
  | x :: xs, l => by
    have h := uniqS_le xs (ddS l x)
    have g := ddS_len l x
    show (xs.foldl ddS (ddS l x)).length ≤ _
    rw [List.length_cons]
    split at g <;> omega
theorem uniqS_nodup : ∀ (xs l : List Str), (l ++ xs).Nodup → xs.foldl ddS l = l ++ xs
  | [], l, _ => (List.append_nil l).symm
  | x :: xs, l, h => by
    have nx : l.any (· == x) = false := by
      rw [List.any_eq_false]
      intro y hy e
      have e' : y = x := by simpa using e
      subst e'
      rw [List.nodup_append] at h
      exact h.2.2 y hy y (List.mem_cons_self ..) rfl
    show xs.foldl ddS (ddS l x) = _
    have e : ddS l x = l ++ [x] := by
      unfold ddS
      rw [nx] <;> rfl
    rw [e, uniqS_nodup xs (l ++ [x]) (by rw [List.append_assoc]; exact h), List.append_assoc] <;> rfl

section
variable {prog : Program} {w : World} {A : Around} {R : Result → Shared → Prop} {it S : Addr} {fp wr : List Addr}
  {G : Array GenState → Array GenState → Prop} {n : Nat} {P : Nat → Value → Prop} {St : Nat → Shared → Prop}
theorem strs_loop (W : WalksS prog w A.in1 it fp wr G n P St) (out : S ∉ fp) (xs : List Str) (len : xs.length = n) (room : n + 1 < scanBound)
    (vals : ∀ (i : Nat) (v : Value), P i v → ∃ x t, xs[i]? = some x ∧ v = Value.str x t) : ∀ (left i : Nat) (s : Shared), i + left = n → St i s →
      s.heap.SetOf (PySem.strKind prog w) S (fun k => (uniqS (xs.take i)).any (· == k)) (uniqS (xs.take i)).length →
      (∀ s', Moved (S :: wr) G s s' → s'.heap.SetOf (PySem.strKind prog w) S (fun k => (uniqS xs).any (· == k)) (uniqS xs).length → R (.ok (.ret .none)) s') →
      codeAny (model prog w) A (.builtin "set.update.loop" ⟨[.ref S, .ref it], []⟩) R s := by
  have outW : S ∉ wr := fun z => out (W.sub _ z)
  have wrS : ∀ b ∈ wr, b ∈ S :: wr := fun b z => List.mem_cons_of_mem _ z
  intro left
  induction left with
  | zero =>
    intro i s hi st set fin
    obtain rfl : i = n := by omega
    apply codeAny_builtin PyProof.Rows.F.entry_set_update_loop
    rw [Around.under_plainId PyProof.Rows.F.plain_set_update_loop _]
    show wpAny _ A.in1 (pyNext (.ref it) >>= _) _ _ s
    apply wpAny_bind
    apply W.done s _ _ st
    intro s' mv
    show wpAny _ A.in1 (ret Value.none) _ _ s'
    apply wpAny_pure
    apply fin s' (mv.mono wrS)
    rw [← len, List.take_length] at set
    obtain ⟨o, es, ep, tb, ho, more⟩ := set
    exact ⟨o, es, ep, tb, mv.heap S _ outW ho, more⟩
  | succ left ih =>
    intro i s hi st set fin
    have lt : i < n := by omega
    apply codeAny_builtin PyProof.Rows.F.entry_set_update_loop
    rw [Around.under_plainId PyProof.Rows.F.plain_set_update_loop _]
    show wpAny _ A.in1 (pyNext (.ref it) >>= _) _ _ s
    apply wpAny_bind
    apply W.item i s _ _ lt st
    intro v s1 pv st1 mv
    obtain ⟨x, t, hx, rfl⟩ := vals i v pv
    have set1 : s1.heap.SetOf (PySem.strKind prog w) S (fun k => (uniqS (xs.take i)).any (· == k)) (uniqS (xs.take i)).length := by
      obtain ⟨o, es, ep, tb, ho, more⟩ := set
      exact ⟨o, es, ep, tb, mv.heap S _ outW ho, more⟩
    show wpAny _ A.in1 (holding [Value.str x t] (setAdd S (.str x t)) >>= _) _ _ s1
    apply wpAny_bind
    apply wpAny_holding
    unfold setAdd
    apply wpAny_holding
    apply wpAny_bind
    apply (PySem.strKind prog w).pyHash (k := x) (strKind_is _ _ _ _)
    have few : (uniqS (xs.take i)).length + 1 < scanBound := by
      have l1 := uniqS_le (xs.take i) []
      have l2 : (xs.take i).length ≤ i := List.length_take_le i xs
      show ((xs.take i).foldl ddS []).length + 1 < scanBound
      simp only [List.length_nil] at l1
      omega
    have tk : uniqS (xs.take (i + 1)) = ddS (uniqS (xs.take i)) x := by
      rw [List.take_add_one, hx]
      exact uniqS_snoc _ _
    apply wpAny_setAddHashed_of (knd := PySem.strKind prog w) (s := { s1 with toks := s1.toks + 1 }) (strKind_is _ _ _ _) rfl set1 few
    intro h' sb set2
    have set3 : h'.SetOf (PySem.strKind prog w) S (fun k => (uniqS (xs.take (i + 1))).any (· == k)) (uniqS (xs.take (i + 1))).length :=
      SetOf_congr set2 (fun k => by rw [tk, ddS_any]) (by rw [tk, ddS_len])
    apply wpAny_pure
    refine ⟨plainId_quiet PyProof.Rows.F.plain_set_update_loop _, ih (i + 1) _ (by omega) ?_ set3 fun s2 mv2 set4 => fin s2 ?_ set4⟩
    · apply W.frame _ s1 _ _ st1 (Nat.le_succ _)
      intro b hb o e
      rw [sb.2 b fun (z : b = S) => out (by rw [← z]; exact hb)]
      exact e
    · apply Moved.trans W.gtrans _ mv2
      apply (mv.mono wrS).then_heap (Nat.le_succ _)
      intro b o hb e
      rw [sb.2 b fun (z : b = S) => hb (by rw [z]; exact List.mem_cons_self ..)]
      exact e
end
theorem strs_of : ∀ {xs : List Str} {us : List Value}, Vals (xs.map V.str) us → ∀ (i : Nat) (v : Value), us[i]? = some v → ∃ x t, xs[i]? = some x ∧ v = Value.str x t
  | [], _, .nil, i, v, h => by simp at h
  | x :: xs, _, .cons r t, 0, v, h => by
    cases Option.some.inj h
    obtain ⟨k, rfl⟩ := r
    exact ⟨x, k, rfl, rfl⟩
  | x :: xs, _, .cons r t, i + 1, v, h => strs_of t i v (by simpa using h)

set_option maxHeartbeats 6400000 in
theorem set_of_list {prog : Program} {w : World} {A : Around} {E : Value → Shared → Prop} {s : Shared} {q : Addr} {its : Array Value} {xs : List Str} {Q : Value → Shared → Prop}
    (calm : A.handled = none) (at_ : s.heap.IsList q its) (vals : ∀ (i : Nat) (v : Value), its[i]? = some v → ∃ x t, xs[i]? = some x ∧ v = Value.str x t) (len : xs.length = its.size) (room : xs.length + 1 < scanBound)
    (k : ∀ (h' : Heap) (tk : Nat), h'.SetOf (PySem.strKind prog w) s.heap.objs.size (fun y => (uniqS xs).any (· == y)) (uniqS xs).length →
      (∀ b o, b < s.heap.objs.size → s.heap.get? b = some o → h'.get? b = some o) → Q (.ref s.heap.objs.size) { s with heap := h', toks := tk }) :
    wpAny (model prog w) A (call (.type "set") [.ref q]) Q E s := by
  have ⟨c, tl, mro⟩ := PySem.F.called_set.mro
  have m1 := PySem.F.called_set.made
  have m2 := PySem.F.called_set.sub
  apply wpAny_call
  apply codeAny_of_tree
  show wpAny _ _ (callAny (.type "set") _) _ _ _
  apply wpAny_pure
  refine ⟨Code.quiet_builtin _ (by decide +kernel), ?_⟩
  apply codeAny_builtin PySem.F.entry_type_call
  rw [Around.under_plain (weight_type_call_type "set" [.ref q] []) rfl]
  have m3 := PySem.F.called_set.notType
  have m4 := PySem.F.called_set.canCreate
  have m5 := PySem.F.typeCall_set_1 (.ref q)
  repeat (any_goals (first | wp_step | assumption))
  apply codeAny_mono
  · exact code_set_new_1 (.ref q) (E := E) (Q₁ := fun ob t => ∃ led : Bool,
      ob = .ref s.heap.objs.size ∧ t = { s with heap := s.heap.push { cls := .type "set", dict := none, data := .set #[] 0 (.fresh 0 0 led) } })
      fun led => ⟨led, rfl, rfl⟩
  intro r1 t1 hr
  match r1, hr with
  | .error e, hr => exact hr
  | .ok (.ret ob), hr =>
    obtain ⟨led, rfl, rfl⟩ := hr
    have gS : (s.heap.push { cls := .type "set", dict := none, data := .set #[] 0 (.fresh 0 0 led) }).get? s.heap.objs.size = some { cls := .type "set", dict := none, data := .set #[] 0 (.fresh 0 0 led) } :=
      Heap.get?_push_size _ rfl
    have tS : Shared.TypeIs { s with heap := s.heap.push { cls := .type "set", dict := none, data := .set #[] 0 (.fresh 0 0 led) } } (.ref s.heap.objs.size) "set" := ⟨_, gS, rfl⟩
    have n1 := PySem.F.called_set.init.lookup
    have n2 := PySem.F.called_set.init.bind (.ref s.heap.objs.size)
    repeat (any_goals (first | wp_step | assumption))
    apply codeAny_mono
    · apply codeAny_call_builtin (R := wants (fun r t => r = .none ∧ ∃ h' tk, t = { s with heap := h', toks := tk } ∧
          h'.SetOf (PySem.strKind prog w) s.heap.objs.size (fun y => (uniqS xs).any (· == y)) (uniqS xs).length ∧
          ∀ b o, b < s.heap.objs.size → s.heap.get? b = some o → h'.get? b = some o) E)
        PySem.F.called_set.init.plain PySem.F.entry_set_init
      apply check_set_init_1 tS
      obtain ⟨oq, gq, cq, nq, dq⟩ := at_
      obtain ⟨oc, od, dat, sl⟩ := oq
      dsimp only at cq dq
      subst cq dq
      have gq' : (s.heap.push { cls := .type "set", dict := none, data := .set #[] 0 (.fresh 0 0 led) }).get? q = some { cls := .type "list", dict := od, data := .seq its nq, slots := sl } :=
        Heap.get?_push_of_some _ gq
      have u1 := PySem.F.sub_list_set
      have u2 := PySem.F.sub_list_frozenset
      have u3 : (Value.type "list" == Value.type "dict") = false := by decide
      have at2 : (s.heap.push { cls := .type "set", dict := none, data := .set #[] 0 (.fresh 0 0 led) }).IsList q its :=
        ⟨_, gq', rfl, nq, rfl⟩
      unfold Builtin.«set.__init__» noKeywords
      unfold Builtin.Frozenset.updateFrom
      generalize ePI : pyIter = PIt
      wp_walk
      subst ePI
      apply wpAny_pyIter_list at2
      apply wpAny_bind
      apply wpAny_runValue
      have qlt : q < s.heap.objs.size := Heap.lt_size gq
      have calm3 : A.in1.in1.in1.handled = none := by simp [calm]
      have sz := Heap.size_push s.heap { cls := .type "set", dict := none, data := .set #[] 0 (.fresh 0 0 led) }
      have qne : q ≠ (s.heap.push { cls := .type "set", dict := none, data := .set #[] 0 (.fresh 0 0 led) }).objs.size := by
        rw [Heap.size_push]
        exact Nat.ne_of_lt (Nat.lt_succ_of_lt qlt)
      have nS : s.heap.objs.size ∉ [(s.heap.push { cls := .type "set", dict := none, data := .set #[] 0 (.fresh 0 0 led) }).objs.size, q] := by
        simp only [List.mem_cons, List.not_mem_nil, or_false, not_or]
        rw [Heap.size_push]
        exact ⟨Nat.ne_of_lt (Nat.lt_succ_self _), Nat.ne_of_gt qlt⟩
      apply strs_loop ((Walks.list calm3 _ q qne its).toS) nS xs len (by rw [← len]; exact room) vals its.size 0
      · omega
      · exact ⟨⟨_, Heap.get?_push_size _ rfl, rfl, rfl⟩, at2.push _⟩
      · have g2 := Heap.get?_push_of_some { cls := .type "list_iterator", data := .fields #[.ref q, .int 0 0] } gS
        exact SetOf_congr ((setObjOf_fresh (knd := PySem.strKind prog w) led).setOf g2 (by unfold scanBound; omega)) (fun _ => rfl) rfl
      · intro t2 mv set2
        obtain ⟨h2, g2, d2, k2, o2⟩ := t2
        cases (show g2 = s.gens from mv.gens)
        cases (show d2 = s.drawn from mv.drawn)
        cases (show o2 = s.os from mv.os)
        show wpAny _ _ _ _ _ _
        apply wpAny_pure
        show wpAny _ _ (ret Value.none) _ _ _
        apply wpAny_pure
        refine ⟨rfl, h2, k2, rfl, set2, ?_⟩
        intro b o hb e
        apply mv.heap b o
        · simp only [List.mem_cons, List.not_mem_nil, or_false, not_or]
          refine ⟨Nat.ne_of_lt hb, ?_⟩
          rw [Heap.size_push]
          exact Nat.ne_of_lt (Nat.lt_succ_of_lt hb)
        · exact Heap.get?_push_of_some _ (Heap.get?_push_of_some _ e)
    · intro r2 t2 hr2
      match r2, hr2 with
      | .error e, hr2 => exact hr2
      | .ok (.ret v), hr2 =>
        obtain ⟨rfl, h2, k2, rfl, set2, old⟩ := hr2
        repeat (any_goals (first | wp_step | assumption))
        exact k _ _ set2 old

set_option maxHeartbeats 6400000 in
theorem set_of_tup {prog : Program} {w : World} {A : Around} {E : Value → Shared → Prop} {s : Shared} {q : Addr} {its : Array Value} {xs : List Str} {Q : Value → Shared → Prop}
    (calm : A.handled = none) (at_ : s.heap.IsTuple q its) (vals : ∀ (i : Nat) (v : Value), its[i]? = some v → ∃ x t, xs[i]? = some x ∧ v = Value.str x t) (len : xs.length = its.size) (room : xs.length + 1 < scanBound)
    (k : ∀ (h' : Heap) (tk : Nat), h'.SetOf (PySem.strKind prog w) s.heap.objs.size (fun y => (uniqS xs).any (· == y)) (uniqS xs).length →
      (∀ b o, b < s.heap.objs.size → s.heap.get? b = some o → h'.get? b = some o) → Q (.ref s.heap.objs.size) { s with heap := h', toks := tk }) :
    wpAny (model prog w) A (call (.type "set") [.ref q]) Q E s := by
  have ⟨c, tl, mro⟩ := PySem.F.called_set.mro
  have m1 := PySem.F.called_set.made
  have m2 := PySem.F.called_set.sub
  apply wpAny_call
  apply codeAny_of_tree
  show wpAny _ _ (callAny (.type "set") _) _ _ _
  apply wpAny_pure
  refine ⟨Code.quiet_builtin _ (by decide +kernel), ?_⟩
  apply codeAny_builtin PySem.F.entry_type_call
  rw [Around.under_plain (weight_type_call_type "set" [.ref q] []) rfl]
  have m3 := PySem.F.called_set.notType
  have m4 := PySem.F.called_set.canCreate
  have m5 := PySem.F.typeCall_set_1 (.ref q)
  repeat (any_goals (first | wp_step | assumption))
  apply codeAny_mono
  · exact code_set_new_1 (.ref q) (E := E) (Q₁ := fun ob t => ∃ led : Bool,
      ob = .ref s.heap.objs.size ∧ t = { s with heap := s.heap.push { cls := .type "set", dict := none, data := .set #[] 0 (.fresh 0 0 led) } })
      fun led => ⟨led, rfl, rfl⟩
  intro r1 t1 hr
  match r1, hr with
  | .error e, hr => exact hr
  | .ok (.ret ob), hr =>
    obtain ⟨led, rfl, rfl⟩ := hr
    have gS : (s.heap.push { cls := .type "set", dict := none, data := .set #[] 0 (.fresh 0 0 led) }).get? s.heap.objs.size = some { cls := .type "set", dict := none, data := .set #[] 0 (.fresh 0 0 led) } :=
      Heap.get?_push_size _ rfl
    have tS : Shared.TypeIs { s with heap := s.heap.push { cls := .type "set", dict := none, data := .set #[] 0 (.fresh 0 0 led) } } (.ref s.heap.objs.size) "set" := ⟨_, gS, rfl⟩
    have n1 := PySem.F.called_set.init.lookup
    have n2 := PySem.F.called_set.init.bind (.ref s.heap.objs.size)
    repeat (any_goals (first | wp_step | assumption))
    apply codeAny_mono
    · apply codeAny_call_builtin (R := wants (fun r t => r = .none ∧ ∃ h' tk, t = { s with heap := h', toks := tk } ∧
          h'.SetOf (PySem.strKind prog w) s.heap.objs.size (fun y => (uniqS xs).any (· == y)) (uniqS xs).length ∧
          ∀ b o, b < s.heap.objs.size → s.heap.get? b = some o → h'.get? b = some o) E)
        PySem.F.called_set.init.plain PySem.F.entry_set_init
      apply check_set_init_1 tS
      obtain ⟨oq, gq, cq, nq, dq⟩ := at_
      obtain ⟨oc, od, dat, sl⟩ := oq
      dsimp only at cq dq
      subst cq dq
      have gq' : (s.heap.push { cls := .type "set", dict := none, data := .set #[] 0 (.fresh 0 0 led) }).get? q = some { cls := .type "tuple", dict := od, data := .seq its nq, slots := sl } :=
        Heap.get?_push_of_some _ gq
      have u1 := PySem.F.sub_tuple_set
      have u2 := PySem.F.sub_tuple_frozenset
      have u3 : (Value.type "tuple" == Value.type "dict") = false := by decide
      have at2 : (s.heap.push { cls := .type "set", dict := none, data := .set #[] 0 (.fresh 0 0 led) }).IsTuple q its :=
        ⟨_, gq', rfl, nq, rfl⟩
      unfold Builtin.«set.__init__» noKeywords
      unfold Builtin.Frozenset.updateFrom
      generalize ePI : pyIter = PIt
      wp_walk
      subst ePI
      apply wpAny_pyIter_tuple at2
      apply wpAny_bind
      apply wpAny_runValue
      have qlt : q < s.heap.objs.size := Heap.lt_size gq
      have calm3 : A.in1.in1.in1.handled = none := by simp [calm]
      have sz := Heap.size_push s.heap { cls := .type "set", dict := none, data := .set #[] 0 (.fresh 0 0 led) }
      have qne : q ≠ (s.heap.push { cls := .type "set", dict := none, data := .set #[] 0 (.fresh 0 0 led) }).objs.size := by
        rw [Heap.size_push]
        exact Nat.ne_of_lt (Nat.lt_succ_of_lt qlt)
      have nS : s.heap.objs.size ∉ [(s.heap.push { cls := .type "set", dict := none, data := .set #[] 0 (.fresh 0 0 led) }).objs.size, q] := by
        simp only [List.mem_cons, List.not_mem_nil, or_false, not_or]
        rw [Heap.size_push]
        exact ⟨Nat.ne_of_lt (Nat.lt_succ_self _), Nat.ne_of_gt qlt⟩
      apply strs_loop ((Walks.tuple calm3 _ q qne its).toS) nS xs len (by rw [← len]; exact room) vals its.size 0
      · omega
      · exact ⟨⟨_, Heap.get?_push_size _ rfl, rfl, rfl⟩, at2.push _⟩
      · have g2 := Heap.get?_push_of_some { cls := .type "tuple_iterator", data := .fields #[.ref q, .int 0 0] } gS
        exact SetOf_congr ((setObjOf_fresh (knd := PySem.strKind prog w) led).setOf g2 (by unfold scanBound; omega)) (fun _ => rfl) rfl
      · intro t2 mv set2
        obtain ⟨h2, g2, d2, k2, o2⟩ := t2
        cases (show g2 = s.gens from mv.gens)
        cases (show d2 = s.drawn from mv.drawn)
        cases (show o2 = s.os from mv.os)
        show wpAny _ _ _ _ _ _
        apply wpAny_pure
        show wpAny _ _ (ret Value.none) _ _ _
        apply wpAny_pure
        refine ⟨rfl, h2, k2, rfl, set2, ?_⟩
        intro b o hb e
        apply mv.heap b o
        · simp only [List.mem_cons, List.not_mem_nil, or_false, not_or]
          refine ⟨Nat.ne_of_lt hb, ?_⟩
          rw [Heap.size_push]
          exact Nat.ne_of_lt (Nat.lt_succ_of_lt hb)
        · exact Heap.get?_push_of_some _ (Heap.get?_push_of_some _ e)
    · intro r2 t2 hr2
      match r2, hr2 with
      | .error e, hr2 => exact hr2
      | .ok (.ret v), hr2 =>
        obtain ⟨rfl, h2, k2, rfl, set2, old⟩ := hr2
        repeat (any_goals (first | wp_step | assumption))
        exact k _ _ set2 old

/-- len(set(a)), a a list or tuple of texts -/
def tUniq (K : PySem.W.Frag) (ta : TE) : TE := fun σ H Q => ta σ H fun x H1 => ∃ q, ∃ xs : List Str,
  x = .ref q ∧ (SqL K H1 q (xs.map V.str) ∨ SqT K H1 q (xs.map V.str)) ∧ xs.length ≤ 4000 ∧ Q (.int (uniqS xs).length) H1
theorem pe_uniq {X : Cx} {a : Expr} {ta : TE} {p p2 q pos : Pos} (calm : X.calm = true) (g1 : Gl X "len") (m1 : X.mg "len" = none) (g2 : Gl X "set") (m2 : X.mg "set" = none) (ha : PE X a ta)
    (st : starEach [a] X.env = (false, eval a X.env) :: starEach [] X.env) : PE X (.Call (.Name "len" p) [.Call (.Name "set" p2) [a] [] q] [] pos) (tUniq X.K ta) := by
  constructor
  intro pins s σ H Q I h
  refine Call_ (ld_blt I g1 m1 boot_len (PyProof.Rows.callWith_builtin1 (PyProof.Rows.args_cons (Call_ (ld_blt I g2 m2 boot_set ?_)) rfl) rfl rfl))
  refine PyProof.Rows.callWith_type1 (PyProof.Rows.args_cons (thn (ha.run pins s σ H _ I h) ?_) st) st rfl
  intro v s1 ⟨x, H1, I1, r1, l, xs, ex, hq, few, q1⟩
  refine PyProof.Rows.args_nil ?_
  subst ex
  cases r1
  have room : xs.length + 1 < scanBound := by unfold scanBound; omega
  have last : ∀ (h' : Heap) (tk : Nat), h'.SetOf (PySem.strKind X.prog X.w) s1.heap.objs.size (fun y => (uniqS xs).any (· == y)) (uniqS xs).length →
      (∀ b o, b < s1.heap.objs.size → s1.heap.get? b = some o → h'.get? b = some o) →
      wpAny (model X.prog X.w) X.A (spliced (backTo pos (starEach [] X.env))) (fun vs t => wpAny (model X.prog X.w) X.A
        (call (.builtin "len") (Value.ref s1.heap.objs.size :: vs)) (EP X pins σ Q) X.xe t) X.xe { s1 with heap := h', toks := tk } := by
    intro h' tk set old
    apply PyProof.Rows.args_nil
    have ul : (uniqS xs).length ≤ xs.length := by
      have l1 : (uniqS xs).length ≤ ([] : List Str).length + xs.length := uniqS_le xs []
      simpa using l1
    obtain ⟨o, es, ep, t, ho, hex, hd, _, _, _, hf, hn⟩ := set
    have I2 : Inv X pins σ H1 { s1 with heap := h', toks := tk } := I1.kept fun b o e => old b o (Heap.lt_size e) e
    refine call_len_set ho hex hd hf (by rw [hn]; omega) ?_
    exact ⟨.int (uniqS xs).length, H1, I2.tok _, ⟨_, by rw [hn]⟩, q1⟩
  cases hq with
  | inl hq =>
    obtain ⟨its, r, pl, hz⟩ := I1.list hq
    have ln : xs.length = its.toArray.size := by
      have := r.length
      simpa using this
    exact set_of_list (I1.ok.hd calm) pl.isList (fun i v e => strs_of r i v (by simpa using e)) ln room last
  | inr hq =>
    obtain ⟨its, r, pl, hz⟩ := I1.tuple hq
    have ln : xs.length = its.toArray.size := by
      have := r.length
      simpa using this
    exact set_of_tup (I1.ok.hd calm) pl (fun i v e => strs_of r i v (by simpa using e)) ln room last
end Kd

set_option Elab.async false
set_option linter.all false
set_option maxRecDepth 100000
set_option maxHeartbeats 8000000
namespace Kd
open PySem PySem.Spec PyProof.Rows L2
theorem upd_self {H : Hp} {a : Addr} {o : HO} (h : H a = some o) : upd H a o = H := by
  funext b
  by_cases z : b = a
  · subst z; rw [upd_same, h]
  · rw [upd_ne z]
theorem Rel.touch {K : PySem.W.Frag} {p : Option Addr} {B0 H0 B H : Hp} {σ : L2.St} {st : S} (R : Rel K p B0 H0 B H σ st) {a : Addr} {o : HO} (h0 : H0 a = none) (hp : p ≠ some a) (hb : B a = none)
    (hn : ∀ (i : Nat) ds, st.δ[i]? = some (SD.own ds) → σ[i]? ≠ some (some (V.ref a))) : Rel K p B0 H0 B (upd H a o) σ st := by
  refine ⟨fun b u n h => ?_, fun b u h => ?_, R.up, R.new, R.pn, R.h0, R.len, R.sl, R.pen.mono (Same.refl _) fun b e => ?_, R.pv, fun i ds h => ?_, R.dj⟩
  · rw [upd_ne (ne_of_none h h0)]; exact R.fr b u n h
  · rw [upd_ne (ne_of_none h hb)]; exact R.ext _ _ h
  · exact upd_ne (fun (z : b = a) => hp (by rw [← z]; exact e))
  · obtain ⟨l, xs, h1, h2, h3⟩ := R.ow i ds h
    have nl : l ≠ a := fun z => hn i ds h (by rw [h1, z])
    exact ⟨l, xs, h1, by rw [upd_ne nl]; exact h2, h3⟩
section
variable {Γ : Gam} {F : Fns} {N : List Str} {k : Nat} {sc : Scope}
theorem ok_blk {X : Cx} (ok : Ok Γ F N k X) {s : Shared} {H : Hp} {scope : Scope} {cenv : Env} {fp : List Addr} : Ok Γ F N k (X.blk s H scope cenv fp) :=
  ⟨ok.hN, ok.calm, ok.nd, ok.room, ok.gd, ok.bl, ok.gl, ok.fn, ok.pf⟩
/-- a comprehension's element, in any block -/
def teB (X : Cx) (scope : Scope) (elt : Expr) : TE := fun σ H Q => ∀ (s : Shared) (H' : Hp) (C : Addr) (cl : List (Str × Addr)) (fp : List Addr), wE (X.blk s H' scope (compEnvC scope cl C X.env) fp) elt σ H Q
theorem hush2 {st : S} {π : Option Pen} : (⟨st.hush.δ, π⟩ : S).hush = ⟨st.hush.δ, π⟩ := by
  have e : (st.hush.δ).map hushD = st.hush.δ := by
    show (st.δ.map hushD).map hushD = st.δ.map hushD
    rw [List.map_map]
    congr 1
    funext x
    cases x <;> rfl
  show (⟨(st.hush.δ).map hushD, π⟩ : S) = _
  rw [e]
theorem comp_readO {scope : Scope} {i : Nat} {x : Str} {elt iter : Expr} {p : Pos} {ce : C} {ci : Ci} (hi : SndI Γ F N k sc iter ci) (he : SndE Γ F N k (relS scope sc) elt ce)
    {X : Cx} (ok : Ok Γ F N k X) (hs : X.env.scope = sc) {p0 B0 H0 B H σ st xs st1 ds π} (R : Rel X.K p0 B0 H0 B H σ st) (e1 : evalI F ci st = some (xs, st1)) (hz : small xs.length = true) (e2 : compLoop (evalE F ce) i xs st1.hush = some (ds, π))
    {Q : VK} (q : ∀ D acc B' H', Rel X.K p0 B0 H0 B' H' σ ⟨st1.δ, π⟩ → Same B B' → H' D = some (.lst acc) → B' D = none → H0 D = none → p0 ≠ some D → (∀ (j : Nat) es, st1.δ[j]? = some (SD.own es) → σ[j]? ≠ some (some (V.ref D))) → DvL X.K B' acc ds → Q (.ref D) H') :
    tLc (wI X (.Name x p) iter) (gName i) tYes (teB X scope elt) [i] σ H Q := by
  refine hi X ok hs _ _ _ _ _ _ _ _ _ R e1 _ _ fun J B1 H1 G Y R1 s1 W hG hY => ?_
  intro D hD
  obtain ⟨f1, f2, f3⟩ := R1.free hD
  refine lc_it W (fun j H' => ∃ B' acc dn rs πj, Rel X.K p0 B1 H1 B' H' σ ⟨st1.hush.δ, πj⟩ ∧ B' D = none ∧ H' D = some (.lst acc) ∧ DvL X.K B' acc dn ∧ dn.length = j ∧ compLoop (evalE F ce) i (xs.drop j) ⟨st1.hush.δ, πj⟩ = some (rs, π) ∧ ds = dn ++ rs)
    ⟨B1, [], [], ds, st1.π, (R1.here).touch hD f2 f3 (fun _ _ h => (hush_own h).elim), f3, upd_same, .nil, rfl, e2, rfl⟩ (fun j H' _ ⟨B', _, _, _, _, Rj, _⟩ => hG _ (Rj.up.trans Rj.ext)) ?_ ?_
  · rintro j y H2 H3 hj ⟨B', acc, dn, rs, πj, Rj, bD, hD2, da, dl, ev2, hds⟩ hy
    obtain ⟨dy, g1, rfl, g2⟩ := hY j H2 y H3 hj (Rj.up.trans Rj.ext) hy
    have hxs : xs.drop j = dy :: xs.drop (j + 1) := by
      obtain ⟨l, e⟩ := List.getElem?_eq_some_iff.mp g1
      rw [List.drop_eq_getElem_cons l, e]
    rw [hxs] at ev2
    simp only [compLoop] at ev2
    split at ev2
    · rename_i dv stv e3
      split at ev2
      · rename_i rs' π'' e4
        obtain ⟨rfl, rfl⟩ := some2 ev2
        have hw : (wipe σ [i]).set i (some y) = σ.set i (some y) := by
          show (σ.set i none).set i (some y) = _
          rw [List.set_set]
        show wipe ((wipe σ [i]).set i (some y)) [i] = wipe σ [i] ∧ teB X scope elt ((wipe σ [i]).set i (some y)) H3 _
        refine ⟨by rw [hw]; show (σ.set i (some y)).set i none = σ.set i none; rw [List.set_set], ?_⟩
        rw [hw]
        intro s0 H4 C0 cl0 fp0
        have Rp : Rel X.K p0 B' H3 B' H3 (σ.set i (some y)) ((⟨st1.hush.δ, πj⟩ : S).set i dy) := (hush2 (st := st1) ▸ Rj.here).put (g2.mono Rj.up)
        refine he (X.blk s0 H4 scope (compEnvC scope cl0 C0 X.env) fp0) (ok_blk ok) (by show relS scope X.env.scope = _; rw [hs]) _ _ _ _ _ _ _ _ _ Rp e3 _ fun v B5 H5 R5 s5 d5 => ?_
        have hD5 : H5 D = some (.lst acc) := R5.fr D _ f2 hD2
        have bD5 : B5 D = none := by
          cases z : B5 D with
          | none => rfl
          | some o =>
            rcases R5.new D o z with ⟨o', z'⟩ | z'
            · rw [bD] at z'; cases z'
            · rw [hD2] at z'; cases z'
        have Rn : Rel X.K p0 B1 H1 B5 H5 σ ⟨st1.hush.δ, stv.π⟩ := Rj.back (Same.refl _) R5
        refine ⟨acc, hD5, ?_, B5, acc ++ [v], dn ++ [dv], rs', stv.π, Rn.touch hD f2 bD5 (fun _ _ h => (hush_own h).elim), bD5, upd_same, (da.mono s5).append (.cons d5 .nil), by rw [List.length_append, dl] <;> rfl, e4, by rw [hds, List.append_assoc] <;> rfl⟩
        have := small_lt hz
        have := da.length
        omega
      · cases ev2
    · cases ev2
  · rintro H2 ⟨B', acc, dn, rs, πj, Rj, bD, hD2, da, dl, ev2, hds⟩
    rw [List.drop_length] at ev2
    simp only [compLoop] at ev2
    obtain ⟨rfl, rfl⟩ := some2 ev2
    rw [List.append_nil] at hds
    subst hds
    exact q D acc B' H2 (R1.back (Same.refl _) Rj) (s1.trans Rj.up) hD2 bD f1 f2 (R1.nown hD) da

theorem comp_read {scope : Scope} {i : Nat} {x : Str} {elt iter : Expr} {p : Pos} {ce : C} {ci : Ci} (hi : SndI Γ F N k sc iter ci) (he : SndE Γ F N k (relS scope sc) elt ce)
    {X : Cx} (ok : Ok Γ F N k X) (hs : X.env.scope = sc) {p0 B0 H0 B H σ st d st'} (R : Rel X.K p0 B0 H0 B H σ st) (ev : evalE F (.comp ce i ci) st = some (d, st'))
    {Q : VK} (q : ∀ v B' H', Rel X.K p0 B0 H0 B' H' σ st' → Same B B' → Dv X.K B' v d → Q v H') : tLc (wI X (.Name x p) iter) (gName i) tYes (teB X scope elt) [i] σ H Q := by
  simp only [evalE] at ev
  split at ev
  · rename_i xs st1 e1
    split at ev
    · rename_i hz
      split at ev
      · rename_i ds π e2
        obtain ⟨rfl, rfl⟩ := some2 ev
        refine comp_readO hi he ok hs R e1 hz e2 fun D acc B' H2 R2 s2 hD2 bD f1 f2 nD da => ?_
        have Rf := R2.fin (o := .lst acc) f1 f2 bD nD
        rw [upd_self hD2] at Rf
        have sb : Same B' (upd B' D (.lst acc)) := same_upd bD
        exact q (.ref D) _ _ Rf (s2.trans sb) (.lst upd_same (da.mono sb))
      · cases ev
    · cases ev
  · cases ev
theorem snd_comp {scope : Scope} {i : Nat} {x : Str} {elt iter : Expr} {p pos : Pos} {ce : C} {ci : Ci} (hi : SndI Γ F N k sc iter ci) (hb : BlkOk N sc scope [(x, i)]) (hx : N[i]? = some x) (hl : (relS scope sc).names.lookup x = some .local) (he : SndE Γ F N k (relS scope sc) elt ce)
    (hst : ∀ env v, foldedSetIterable iter env v = pure v) : SndE Γ F N k sc (.ListComp elt [⟨.Name x p, iter, [], 0⟩] scope pos) (.comp ce i ci) := by
  intro X ok hs p0 B0 H0 B H σ st d st' R ev Q q
  exact w_pe (pe_lc (X := X) (own := [(x, i)]) (g := gName i) (tt := tYes) (te := teB X scope elt) (tg := .Name x p) (pos := pos) ok.calm (by rw [ok.hN]; exact ok.nd) (pi_w (X := X) (tg := .Name x p) (it := iter)) (by rw [ok.hN, hs]; exact hb)
    (fun s H' C cl fp => pg_name (by show X.N.Nodup; rw [ok.hN]; exact ok.nd) (by show X.N[i]? = _; rw [ok.hN]; exact hx) (.inl (by show (relS scope X.env.scope).names.lookup x = _; rw [hs]; exact hl)) (.inr (by show (relS scope X.env.scope).names.lookup x = _; rw [hs]; exact hl)))
    (fun _ _ _ _ _ => pts_nil) (fun s H' C cl fp => ⟨fun pins s' σ' H'' Q' I h => h s H' C cl fp pins s' I⟩) (fun v => hst X.env v)) (comp_read hi he ok hs R ev q)

theorem strs_dv {K : PySem.W.Frag} {B : Hp} : ∀ {vs : List V} {ds : List PyData} {ss : List Str}, DvL K B vs ds → strsD ds = some ss → vs = ss.map V.str
  | _, _, _, .nil, h => by cases h; rfl
  | _, _, ss, .cons h r, q => by
    cases h <;> first
      | cases q
      | (simp only [strsD, Option.map_eq_some_iff] at q
         obtain ⟨ss', h1, h2⟩ := q
         subst h2
         rw [strs_dv r h1]
         rfl)
theorem snd_lset {a : Expr} {p p2 q pos : Pos} {ca : C} (ha : SndE Γ F N k sc a ca) (h1 : Pl sc "len") (h2 : ("len" : Str) ∈ Γ.bs) (h3 : Pl sc "set") (h4 : ("set" : Str) ∈ Γ.bs) (hst : ∀ env, starEach [a] env = (false, eval a env) :: starEach [] env) :
    SndE Γ F N k sc (.Call (.Name "len" p) [.Call (.Name "set" p2) [a] [] q] [] pos) (.lset ca) := by
  intro X ok hs p B0 H0 B H σ st d st' R ev Q q
  simp only [evalE] at ev
  split at ev
  · rename_i x st1 e1
    split at ev
    · rename_i z e2
      obtain ⟨rfl, rfl⟩ := some2 ev
      refine w_pe (pe_uniq ok.calm (gl_of hs h1) (ok.bl _ h2) (gl_of hs h3) (ok.bl _ h4) pe_w (hst X.env)) ?_
      refine ha X ok hs _ _ _ _ _ _ _ _ _ R e1 _ fun v B1 H1 R1 s1 dv => ?_
      unfold lsetD at e2
      split at e2
      · split at e2
        · rename_i ss e3
          obtain ⟨hl, rfl⟩ := ite_some e2
          obtain ⟨q1, vs, rfl, hq, r⟩ := lst_dv dv
          rw [strs_dv r e3] at hq
          exact ⟨q1, ss, rfl, .inl (.of (R1.ext _ _ hq)), hl, q _ B1 H1 R1 s1 (.int _)⟩
        · cases e2
      · split at e2
        · rename_i ss e3
          obtain ⟨hl, rfl⟩ := ite_some e2
          obtain ⟨q1, vs, rfl, hq, r⟩ := tup_dv dv
          rw [strs_dv r e3] at hq
          exact ⟨q1, ss, rfl, .inr (same_t R1.ext hq), hl, q _ B1 H1 R1 s1 (.int _)⟩
        · cases e2
      · cases e2
    · cases ev
  · cases ev
mutual
theorem sound : ∀ {sc : Scope} {e : Expr} {c : C}, Cor Γ N sc e c → SndE Γ F N k sc e c
  | _, _, _, .var h hv h1 h2 => snd_var h hv h1 h2
  | _, _, _, .int => snd_cst (fun _ => pe_int) fun _ _ => .int _
  | _, _, _, .bl => snd_cst (fun _ => pe_bl) fun _ _ => .bl _
  | _, _, _, .non => snd_cst (fun _ => pe_non) fun _ _ => .non
  | _, _, _, .str => snd_cst (fun _ => pe_str) fun _ _ => .str _
  | _, _, _,   .glb i h hm h1 => snd_glb h hm h1
  | _, _, _, .one ha => snd_one (sound ha)
  | _, _, _, .and_ ha hb => snd_and (sound ha) (sound hb)
  | _, _, _, .or_ ha hb => snd_or (sound ha) (sound hb)
  | _, _, _, .not_ ha => snd_not (sound ha)
  | _, _, _, .ite ht ha hb => snd_ite (soundT ht) (sound ha) (sound hb)
  | _, _, _, .bin ha hb => snd_bin (sound ha) (sound hb)
  | _, _, _, .cat ha hb => snd_cat (sound ha) (sound hb)
  | _, _, _, .neg ha => snd_neg (sound ha)
  | _, _, _, .cmp ha hb hm => snd_cmp (sound ha) (sound hb) hm
  | _, _, _, .chain ha hb hc hm => snd_chain (sound ha) (sound hb) (sound hc) hm
  | _, _, _, .tup h => snd_tup (soundL h)
  | _, _, _, .lst h => snd_lst (soundL h)
  | _, _, _, .dct1 h => snd_dct1 (sound h)
  | _, _, _, .isi1 ha h1 h2 h3 h4 h5 h6 h7 hs => snd_isi1 (sound ha) h1 h2 h3 h4 h5 h6 h7 hs
  | _, _, _, .isi2 ha h1 h2 h3 h4 h5 h6 h7 g3 g4 g5 g6 g7 hs => snd_isi2 (sound ha) h1 h2 h3 h4 h5 h6 h7 g3 g4 g5 g6 g7 hs
  | _, _, _, .call (x := x) (n := n) (pm := pm) he h hn h1 h2 => snd_call (e := ⟨x, n, [], pm⟩) he h (soundL h) hn rfl h1 h2
  | _, _, _, .callK (x := x) (ks := ks) (pm := pm) he hv h hk h1 h2 => snd_callK (e := ⟨x, 0, ks, pm⟩) he hv h (soundL h) rfl hk h1 h2
  | _, _, _, .pcall hx hy hv h h1 h2 h3 h4 => snd_pcall hx hy hv h (soundL h) h1 h2 h3 h4
  | _, _, _, .bltF hb ha h1 h2 h3 h4 h5 hs => snd_bltF hb (sound ha) h1 h2 h3 h4 h5 hs
  | _, _, _, .bltT hb ha h1 h2 h3 h4 h5 hs => snd_bltT hb (sound ha) h1 h2 h3 h4 h5 hs
  | _, _, _, .comp hi hb hx hl he hs => snd_comp (soundI hi) hb hx hl (sound he) hs
  | _, _, _, .sub ha hi hs => snd_sub (sound ha) (sound hi) hs
  | _, _, _, .upto ha hn => snd_upto (sound ha) (sound hn)
  | _, _, _, .lset ha h1 h2 h3 h4 hs => snd_lset (sound ha) h1 h2 h3 h4 hs
  | _, _, _, .lenO hx hv h3 h4 h1 h2 => snd_lenO hx hv h3 h4 h1 h2
  | _, _, _, .neO hx hv h3 h4 => snd_neO hx hv h3 h4
  | _, _, _, .popO hx hv h3 h4 he hl hs => snd_popO hx hv h3 h4 (sound he) hl hs
  | _, _, _, .frz hx hv h3 h4 => snd_frz hx hv h3 h4
  | _, _, _, .penG hx hv h3 h4 hk => snd_penG hx hv h3 h4 hk
  | _, _, _, .penAt hx hv h3 h4 he hp => snd_penAt hx hv h3 h4 (sound he) hp
  | _, _, _, .penLen hx hv h3 h4 h1 h2 => snd_penLen hx hv h3 h4 h1 h2
theorem soundT : ∀ {sc : Scope} {e : Expr} {c : C}, CorT Γ N sc e c → SndT Γ F N k sc e c
  | _, _, _, .val h he => snd_val (sound h) he
  | _, _, _, .not_ ha => snd_notT (soundT ha)
  | _, _, _, .cmp ha hb hm => snd_cmpT (sound ha) (sound hb) hm
  | _, _, _, .chain ha hb hc hm => snd_chainT (sound ha) (sound hb) (sound hc) hm
  | _, _, _, .bool h => snd_boolT (soundW h)
  | _, _, _, .neO hx hv h3 h4 => snd_neOT hx hv h3 h4
  | _, _, _, .penNe hx hv h3 h4 => snd_penNeT hx hv h3 h4
theorem soundW : ∀ {sc : Scope} {e : Expr} {c : C}, CorW Γ N sc e c → SndW Γ F N k sc e c
  | _, _, _, .one ha => snd_oneW (soundT ha)
  | _, _, _, .and_ ha hb => snd_andW (soundT ha) (soundW hb)
  | _, _, _, .or_ ha hb => snd_orW (soundT ha) (soundW hb)
theorem soundL : ∀ {sc : Scope} {es : List Expr} {cs : Cs}, CorL Γ N sc es cs → SndL Γ F N k sc es cs
  | _, _, _, .nil => snd_nilL
  | _, _, _, .cons h r hs => snd_consL (sound h) (soundL r) hs
theorem soundI : ∀ {sc : Scope} {e : Expr} {c : Ci}, CorI Γ N sc e c → SndI Γ F N k sc e c
  | _, _, _, .seq h => snd_seq (sound h)
  | _, _, _, .rng h h1 h2 hs => snd_rng (sound h) h1 h2 hs
end
end
end Kd

set_option Elab.async false
set_option linter.all false
set_option maxRecDepth 100000
set_option maxHeartbeats 8000000
namespace Kd
open PySem PySem.Spec PyProof.Rows L2

/-! ### statements -/
inductive CorO (Γ : Gam) (N : List Str) (sc : Scope) : Expr → Co → Prop
  | disp {es : List Expr} {pos : Pos} {cs : Cs} (h : CorL Γ N sc es cs) : CorO Γ N sc (.List es pos) (.disp cs)
  | lst {a : Expr} {p pos : Pos} {c : C} (h : Cor Γ N sc a c) (h1 : Pl sc "list") (h2 : ("list" : Str) ∈ Γ.bs) (hs : ∀ env, starEach [a] env = (false, eval a env) :: starEach [] env) : CorO Γ N sc (.Call (.Name "list" p) [a] [] pos) (.lst c)
mutual
inductive CorS (Γ : Gam) (N : List Str) (sc : Scope) : Stmt → Sd → Prop
  | asg {i : Nat} {x : Str} {e : Expr} {p pos : Pos} {c : C} (hx : N[i]? = some x) (hl : Loc sc x) (h : Cor Γ N sc e c) (hw : ∀ env, swapsWith e (some (.Name x p)) pos.line env = pure false) : CorS Γ N sc (.Assign [.Name x p] e pos) (.asg i c)
  | asgLc {scope : Scope} {i j : Nat} {x y : Str} {elt iter : Expr} {p p2 pos pos2 : Pos} {ce : C} {ci : Ci} (hy : N[j]? = some y) (hyl : sc.names.lookup y = some .local) (hk : sc.kind = .function) (hln : (p2.line == pos.line) = true)
    (hany : (scope.names.any fun (n, k) => n == y && (k == .local || k == .cell)) = false)
    (hi : CorI Γ N sc iter ci) (hb : BlkOk N sc scope [(x, i)]) (hx : N[i]? = some x) (hl : (relS scope sc).names.lookup x = some .local) (he : Cor Γ N (relS scope sc) elt ce) (hs : ∀ env v, foldedSetIterable iter env v = pure v) :
    CorS Γ N sc (.Assign [.Name y p2] (.ListComp elt [⟨.Name x p, iter, [], 0⟩] scope pos) pos2) (.asg j (.comp ce i ci))
  | par {i j : Nat} {x y : Str} {a b : Expr} {px py pt pt2 pos : Pos} {kt k2 : Nat} {ca cb : C} (hi : N[i]? = some x) (hj : N[j]? = some y) (hij : i ≠ j) (hx : sc.names.lookup x = some .local) (hy : sc.names.lookup y = some .local) (ha : Cor Γ N sc a ca) (hb : Cor Γ N sc b cb)
    (hsa : ∀ env, starEach [a, b] env = (false, eval a env) :: starEach [b] env) (hsb : ∀ env, starEach [b] env = (false, eval b env) :: starEach [] env)
    (hw : ∀ env : Env, env.scope = sc → swappedStores [.Tuple [.Name x px, .Name y py] kt pt] (.Tuple [a, b] k2 pt2) env = pure (some [x, y]))
    (hs : ∀ env : Env, swapsWithSole [.Tuple [.Name x px, .Name y py] kt pt] (.Tuple [a, b] k2 pt2) pos.line env = pure false) : CorS Γ N sc (.Assign [.Tuple [.Name x px, .Name y py] kt pt] (.Tuple [a, b] k2 pt2) pos) (.par i j ca cb)
  | ret {e : Expr} {pos : Pos} {c : C} (h : Cor Γ N sc e c) : CorS Γ N sc (.Return (some e) pos) (.ret c)
  | ifs {t : Expr} {a b : List Stmt} {pos : Pos} {ct : C} {ca cb : Sds} (ht : CorT Γ N sc t ct) (ha : CorSs Γ N sc a ca) (hb : CorSs Γ N sc b cb) : CorS Γ N sc (.If t a b pos) (.ifs ct ca cb)
  | for_ {i : Nat} {x : Str} {it : Expr} {b : List Stmt} {p pos : Pos} {ci : Ci} {cb : Sds} (hx : N[i]? = some x) (hl : Loc sc x) (hi : CorI Γ N sc it ci) (hb : CorSs Γ N sc b cb) (hs : ∀ env v, foldedSetIterable it env v = pure v) : CorS Γ N sc (.For (.Name x p) it b [] pos) (.for_ i ci cb)
  | asgO {i : Nat} {x : Str} {e : Expr} {p pos : Pos} {c : Co} (hx : N[i]? = some x) (hl : Loc sc x) (h : CorO Γ N sc e c) (hw : ∀ env, swapsWith e (some (.Name x p)) pos.line env = pure false) : CorS Γ N sc (.Assign [.Name x p] e pos) (.asgO i c)
  | parO {i j : Nat} {x y : Str} {a b : Expr} {px py pt pt2 pos : Pos} {kt k2 : Nat} {ca cb : Co} (hi : N[i]? = some x) (hj : N[j]? = some y) (hij : i ≠ j) (hx : sc.names.lookup x = some .local) (hy : sc.names.lookup y = some .local) (ha : CorO Γ N sc a ca) (hb : CorO Γ N sc b cb)
    (hsa : ∀ env, starEach [a, b] env = (false, eval a env) :: starEach [b] env) (hsb : ∀ env, starEach [b] env = (false, eval b env) :: starEach [] env)
    (hw : ∀ env : Env, env.scope = sc → swappedStores [.Tuple [.Name x px, .Name y py] kt pt] (.Tuple [a, b] k2 pt2) env = pure (some [x, y]))
    (hs : ∀ env : Env, swapsWithSole [.Tuple [.Name x px, .Name y py] kt pt] (.Tuple [a, b] k2 pt2) pos.line env = pure false) : CorS Γ N sc (.Assign [.Tuple [.Name x px, .Name y py] kt pt] (.Tuple [a, b] k2 pt2) pos) (.parO i j ca cb)
  | appO {i : Nat} {x : Str} {e : Expr} {p ap cp pos : Pos} {c : C} (hx : N[i]? = some x) (hv : Vis sc x) (h3 : (x == ("__debug__" : Str)) = false) (h4 : (x == ("__classdict__" : Str)) = false) (he : Cor Γ N sc e c) (hl : (ap.endLine == cp.line) = true)
    (hs : ∀ env, starEach [e] env = (false, eval e env) :: starEach [] env) : CorS Γ N sc (.Expr (.Call (.Attribute (.Name x p) "append" ap) [e] [] cp) pos) (.appO i c)
  | while_ {t : Expr} {b : List Stmt} {pos : Pos} {ct : C} {cb : Sds} (ht : CorT Γ N sc t ct) (hb : CorSs Γ N sc b cb) : CorS Γ N sc (.While t b [] pos) (.while_ ct cb)
  | penS {j n : Nat} {k : Int} {y : Str} {e : Expr} {p p2 p3 pos : Pos} {c : C} (hx : N[j]? = some y) (hv : Vis sc y) (h3 : (y == ("__debug__" : Str)) = false) (h4 : (y == ("__classdict__" : Str)) = false) (he : Cor Γ N sc e c) (hk : k = 1 ∨ k = 2)
    (hw : ∀ env, swapsWithSole [.Subscript (.Name y p) (.Constant (.int k) n p2) p3] e pos.line env = pure false) (hw2 : ∀ env, swappedStores [.Subscript (.Name y p) (.Constant (.int k) n p2) p3] e env = pure none) :
    CorS Γ N sc (.Assign [.Subscript (.Name y p) (.Constant (.int k) n p2) p3] e pos) (.penS j k.toNat c)
  | expr {e : Expr} {pos : Pos} {c : C} (h : Cor Γ N sc e c) (hw : ∀ env, swapsWith e none pos.line env = pure false) : CorS Γ N sc (.Expr e pos) (.expr c)
inductive CorSs (Γ : Gam) (N : List Str) (sc : Scope) : List Stmt → Sds → Prop
  | nil : CorSs Γ N sc [] .nil
  | cons {s : Stmt} {ss : List Stmt} {c : Sd} {cs : Sds} (h : CorS Γ N sc s c) (r : CorSs Γ N sc ss cs) : CorSs Γ N sc (s :: ss) (.cons c cs)
end
structure OkS (Γ : Gam) (F : Fns) (N : List Str) (k : Nat) (X : Cx) : Prop where
  ok : Ok Γ F N k X
  ps : PassesOwn (model X.prog X.w) X.A X.env X.xe
  fn : ∀ x, X.fn x = true
/-- what is wanted behind a run that ends so -/
def Wants (K : PySem.W.Frag) (p : Option Addr) (B0 H0 B : Hp) (out : Out) (D : Ends) : Prop := match out with
  | .nx st' => ∀ σ' B' H', Rel K p B0 H0 B' H' σ' st' → Same B B' → D.nx σ' H'
  | .rt d π => ∀ v σ' st' B' H', Rel K p B0 H0 B' H' σ' st' → st'.π = π → Same B B' → Dv K B' v d → D.rt v H'
theorem Wants.mono {K : PySem.W.Frag} {p : Option Addr} {B0 H0 B B1 : Hp} {out : Out} {D : Ends} (h : Wants K p B0 H0 B out D) (e : Same B B1) : Wants K p B0 H0 B1 out D := by
  cases out with
  | nx st' => exact fun σ' B' H' R s => h σ' B' H' R (e.trans s)
  | rt d π => exact fun v σ' st' B' H' R z s dv => h v σ' st' B' H' R z (e.trans s) dv
def SndS (Γ : Gam) (F : Fns) (N : List Str) (k : Nat) (sc : Scope) (s : Stmt) (c : Sd) : Prop :=
  ∀ X, OkS Γ F N k X → X.env.scope = sc → ∀ p B0 H0 B H σ st out, Rel X.K p B0 H0 B H σ st → evalS F c st = some out → ∀ D : Ends, Wants X.K p B0 H0 B out D → wS X s D σ H
def SndSs (Γ : Gam) (F : Fns) (N : List Str) (k : Nat) (sc : Scope) (s : List Stmt) (c : Sds) : Prop :=
  ∀ X, OkS Γ F N k X → X.env.scope = sc → ∀ p B0 H0 B H σ st out, Rel X.K p B0 H0 B H σ st → evalSs F c st = some out → ∀ D : Ends, Wants X.K p B0 H0 B out D → wSs X s D σ H
section
variable {Γ : Gam} {F : Fns} {N : List Str} {k : Nat} {sc : Scope}
theorem snd_asg {i : Nat} {x : Str} {e : Expr} {p pos : Pos} {c : C} (hx : N[i]? = some x) (hl : Loc sc x) (h : SndE Γ F N k sc e c) (hw : ∀ env, swapsWith e (some (.Name x p)) pos.line env = pure false) : SndS Γ F N k sc (.Assign [.Name x p] e pos) (.asg i c) := by
  intro X ok hs p B0 H0 B H σ st out R ev D wd
  simp only [evalS] at ev
  split at ev
  · rename_i d st1 e1
    cases ev
    refine w_ps (ps_set (i := i) (by rw [ok.ok.hN]; exact ok.ok.nd) (by rw [ok.ok.hN]; exact hx) (by rw [hs]; exact hl) pe_w (hw X.env) (.inl (ok.fn x))) ?_
    exact h X ok.ok hs _ _ _ _ _ _ _ _ _ R e1 _ fun v B1 H1 R1 s1 dv => wd _ B1 H1 (R1.put dv) s1
  · cases ev
theorem snd_asgLc {scope : Scope} {i j : Nat} {x y : Str} {elt iter : Expr} {p p2 pos pos2 : Pos} {ce : C} {ci : Ci} (hy : N[j]? = some y) (hyl : sc.names.lookup y = some .local) (hk : sc.kind = .function) (hln : (p2.line == pos.line) = true)
    (hany : (scope.names.any fun (n, k) => n == y && (k == .local || k == .cell)) = false)
    (hi : SndI Γ F N k sc iter ci) (hb : BlkOk N sc scope [(x, i)]) (hx : N[i]? = some x) (hl : (relS scope sc).names.lookup x = some .local) (he : SndE Γ F N k (relS scope sc) elt ce) (hst : ∀ env v, foldedSetIterable iter env v = pure v) :
    SndS Γ F N k sc (.Assign [.Name y p2] (.ListComp elt [⟨.Name x p, iter, [], 0⟩] scope pos) pos2) (.asg j (.comp ce i ci)) := by
  intro X okS hs p0 B0 H0 B H σ st out R ev D wd
  have ok := okS.ok
  simp only [evalS] at ev
  split at ev
  · rename_i d st1 e1
    cases ev
    refine w_ps (ps_setLc (X := X) (i := j) (own := [(x, i)]) (g := gName i) (tt := tYes) (te := teB X scope elt) (tg := .Name x p) (pos := pos) ok.calm (by rw [ok.hN]; exact ok.nd) (by rw [ok.hN]; exact hy) (by rw [hs]; exact hyl)
      (sw_true (by rw [hs]; exact hk) (by rw [hs]; exact hyl) hln hany) (pi_w (X := X) (tg := .Name x p) (it := iter)) (by rw [ok.hN, hs]; exact hb)
      (fun s H' C cl fp => pg_name (by show X.N.Nodup; rw [ok.hN]; exact ok.nd) (by show X.N[i]? = _; rw [ok.hN]; exact hx) (.inl (by show (relS scope X.env.scope).names.lookup x = _; rw [hs]; exact hl)) (.inr (by show (relS scope X.env.scope).names.lookup x = _; rw [hs]; exact hl)))
      (fun _ _ _ _ _ => pts_nil) (fun s H' C cl fp => ⟨fun pins s' σ' H'' Q' I h => h s H' C cl fp pins s' I⟩) (fun v => hst X.env v)) ?_
    exact comp_read hi he ok hs R e1 fun v B1 H1 R1 s1 dv => wd _ B1 H1 (R1.put dv) s1
  · cases ev
theorem snd_par {i j : Nat} {x y : Str} {a b : Expr} {px py pt pt2 pos : Pos} {kt k2 : Nat} {ca cb : C} (hi : N[i]? = some x) (hj : N[j]? = some y) (hij : i ≠ j) (hx : sc.names.lookup x = some .local) (hy : sc.names.lookup y = some .local) (ha : SndE Γ F N k sc a ca) (hb : SndE Γ F N k sc b cb)
    (hsa : ∀ env, starEach [a, b] env = (false, eval a env) :: starEach [b] env) (hsb : ∀ env, starEach [b] env = (false, eval b env) :: starEach [] env)
    (hw : ∀ env : Env, env.scope = sc → swappedStores [.Tuple [.Name x px, .Name y py] kt pt] (.Tuple [a, b] k2 pt2) env = pure (some [x, y]))
    (hss : ∀ env : Env, swapsWithSole [.Tuple [.Name x px, .Name y py] kt pt] (.Tuple [a, b] k2 pt2) pos.line env = pure false) : SndS Γ F N k sc (.Assign [.Tuple [.Name x px, .Name y py] kt pt] (.Tuple [a, b] k2 pt2) pos) (.par i j ca cb) := by
  intro X ok hs p B0 H0 B H σ st out R ev D wd
  simp only [evalS] at ev
  split at ev
  · rename_i d st1 e1
    split at ev
    · rename_i d2 st2 e2
      cases ev
      refine w_ps (ps_par ok.ok.calm (by rw [ok.ok.hN]; exact ok.ok.nd) (by rw [ok.ok.hN]; exact hi) (by rw [ok.ok.hN]; exact hj) hij (by rw [hs]; exact hx) (by rw [hs]; exact hy) (pa_cons pe_w (pa_cons pe_w pa_nil (hsb X.env)) (hsa X.env)) (hw X.env hs) (hss X.env)) ?_
      refine ha X ok.ok hs _ _ _ _ _ _ _ _ _ R e1 _ fun v B1 H1 R1 s1 dv => ?_
      refine hb X ok.ok hs _ _ _ _ _ _ _ _ _ R1 e2 _ fun w B2 H2 R2 s2 dw => ?_
      exact ⟨v, w, rfl, wd _ B2 H2 ((R2.put (dv.mono s2)).put dw) (s1.trans s2)⟩
    · cases ev
  · cases ev
theorem snd_ret {e : Expr} {pos : Pos} {c : C} (h : SndE Γ F N k sc e c) : SndS Γ F N k sc (.Return (some e) pos) (.ret c) := by
  intro X ok hs p B0 H0 B H σ st out R ev D wd
  simp only [evalS] at ev
  split at ev
  · rename_i d st1 e1
    cases ev
    refine w_ps (ps_ret pe_w) ?_
    exact h X ok.ok hs _ _ _ _ _ _ _ _ _ R e1 _ fun v B1 H1 R1 s1 dv => wd v σ st1 B1 H1 R1 rfl s1 dv
  · cases ev
theorem snd_expr {e : Expr} {pos : Pos} {c : C} (h : SndE Γ F N k sc e c) (hw : ∀ env, swapsWith e none pos.line env = pure false) : SndS Γ F N k sc (.Expr e pos) (.expr c) := by
  intro X ok hs p B0 H0 B H σ st out R ev D wd
  simp only [evalS] at ev
  split at ev
  · rename_i d st1 e1
    cases ev
    refine w_ps (ps_expr pe_w (hw X.env)) ?_
    exact h X ok.ok hs _ _ _ _ _ _ _ _ _ R e1 _ fun v B1 H1 R1 s1 dv => wd σ B1 H1 R1 s1
  · cases ev
theorem snd_ifs {t : Expr} {a b : List Stmt} {pos : Pos} {ct : C} {ca cb : Sds} (ht : SndT Γ F N k sc t ct) (ha : SndSs Γ F N k sc a ca) (hb : SndSs Γ F N k sc b cb) : SndS Γ F N k sc (.If t a b pos) (.ifs ct ca cb) := by
  intro X ok hs p B0 H0 B H σ st out R ev D wd
  simp only [evalS] at ev
  split at ev
  · rename_i d st1 e1
    refine w_ps (ps_if pt_w pss_w pss_w) ?_
    split at ev
    · rename_i t1
      exact ht X ok.ok hs _ _ _ _ _ _ _ _ _ _ R e1 t1 _ fun B1 H1 R1 s1 => iteT (ha X ok hs _ _ _ _ _ _ _ _ R1 ev D (wd.mono s1))
    · rename_i t1
      exact ht X ok.ok hs _ _ _ _ _ _ _ _ _ _ R e1 t1 _ fun B1 H1 R1 s1 => iteF (hb X ok hs _ _ _ _ _ _ _ _ R1 ev D (wd.mono s1))
    · cases ev
  · cases ev
theorem snd_for {i : Nat} {x : Str} {it : Expr} {b : List Stmt} {p pos : Pos} {ci : Ci} {cb : Sds} (hx : N[i]? = some x) (hl : Loc sc x) (hi : SndI Γ F N k sc it ci) (hb : SndSs Γ F N k sc b cb) (hst : ∀ env v, foldedSetIterable it env v = pure v) :
    SndS Γ F N k sc (.For (.Name x p) it b [] pos) (.for_ i ci cb) := by
  intro X ok hs p0 B0 H0 B H σ st out R ev D wd
  simp only [evalS] at ev
  split at ev
  · rename_i xs st1 e1
    split at ev
    · rename_i hz
      refine w_ps (ps_for ok.ps ok.ok.calm pi_w (pg_name (i := i) (by rw [ok.ok.hN]; exact ok.ok.nd) (by rw [ok.ok.hN]; exact hx) (by rw [hs]; exact hl) (.inl (ok.fn x))) pss_w (fun v => hst X.env v)) ?_
      refine hi X ok.ok hs _ _ _ _ _ _ _ _ _ R e1 _ _ fun J B1 H1 G Y R1 s1 W hG hY => ?_
      refine for_it W (fun j σ' H' => ∃ B' stj, Rel X.K p0 B0 H0 B' H' σ' stj ∧ Same B1 B' ∧ forLoop (evalSs F cb) i (xs.drop j) stj = some out) ⟨B1, st1, R1, Same.refl _, ev⟩ (fun j σ' H' _ ⟨B', _, Rj, sj, _⟩ => hG _ (sj.trans Rj.ext)) ?_ ?_
      · rintro j y σ' H2 H3 hj ⟨B', stj, Rj, sj, evj⟩ hy
        obtain ⟨dy, g1, rfl, g2⟩ := hY j H2 y H3 hj (sj.trans Rj.ext) hy
        have hxs : xs.drop j = dy :: xs.drop (j + 1) := by
          obtain ⟨l, e⟩ := List.getElem?_eq_some_iff.mp g1
          rw [List.drop_eq_getElem_cons l, e]
        rw [hxs] at evj
        simp only [forLoop] at evj
        have Rp : Rel X.K p0 B0 H0 B' H3 (σ'.set i (some y)) (stj.set i dy) := Rj.put (g2.mono sj)
        show wSs X b _ (σ'.set i (some y)) H3
        split at evj
        · rename_i st2 e2
          exact hb X ok hs _ _ _ _ _ _ _ _ Rp e2 _ fun σ2 B2 H2 R2 s2 => ⟨B2, st2, R2, sj.trans s2, evj⟩
        · rename_i d π e2
          cases evj
          exact hb X ok hs _ _ _ _ _ _ _ _ Rp e2 _ fun v σ2 st2 B2 H2 R2 z s2 dv => wd v σ2 st2 B2 H2 R2 z ((s1.trans sj).trans s2) dv
        · cases evj
      · rintro σ' H2 ⟨B', stj, Rj, sj, evj⟩
        rw [List.drop_length] at evj
        cases evj
        exact wd σ' B' H2 Rj (s1.trans sj)
    · cases ev
  · cases ev
theorem snd_O {X : Cx} (ok : Ok Γ F N k X) (hs : X.env.scope = sc) {e : Expr} {c : Co} (h : CorO Γ N sc e c) {p B0 H0 B H σ st ds st'} (R : Rel X.K p B0 H0 B H σ st) (ev : evalO F c st = some (ds, st'))
    {Q : VK} (q : ∀ l xs B' H', Rel X.K p B0 H0 B' H' σ st' → Same B B' → H' l = some (.lst xs) → B' l = none → H0 l = none → (∀ (j : Nat) es, st'.δ[j]? = some (SD.own es) → σ[j]? ≠ some (some (V.ref l))) → DvL X.K B' xs ds → Q (.ref l) H') : wE X e σ H Q := by
  cases h with
  | disp h =>
    simp only [evalO] at ev
    split at ev
    · rename_i ds' st1 e1
      obtain ⟨hz, ev⟩ := ite_some ev
      obtain ⟨rfl, rfl⟩ := Prod.mk.inj ev
      refine w_pe (pe_lst pa_w) ?_
      refine (soundL h X ok hs _ _ _ _ _ _ _ _ _ R e1).1 _ fun vs B1 H1 R1 s1 dvs => ?_
      refine ⟨by rw [dvs.length]; exact small_line hz, fun a ha => ?_⟩
      exact q a vs B1 _ (R1.heap (same_upd ha)) s1 upd_same (R1.free ha).2.2 (R1.free ha).1 (R1.nown ha) dvs
    · cases ev
  | lst h h1 h2 hst =>
    simp only [evalO] at ev
    split at ev
    · rename_i ds' st1 e1
      obtain ⟨rfl, rfl⟩ := some2 ev
      refine w_pe (pe_callTy call_list_of (gl_of hs h1) (ok.bl _ h2) (by decide +kernel) (pa_cons pe_w pa_nil (hst X.env)) (by decide +kernel) rfl (hst X.env) rfl) ?_
      refine sound h X ok hs _ _ _ _ _ _ _ _ _ R e1 _ fun v B1 H1 R1 s1 dv => ?_
      obtain ⟨q1, vs, rfl, hq, r⟩ := lst_dv dv
      refine ⟨q1, vs, rfl, .inl (.of (R1.ext _ _ hq)), fun a ha => ?_⟩
      exact q a vs B1 _ (R1.heap (same_upd ha)) s1 upd_same (R1.free ha).2.2 (R1.free ha).1 (R1.nown ha) r
    · rename_i ds' st1 e1
      obtain ⟨rfl, rfl⟩ := some2 ev
      refine w_pe (pe_callTy call_list_of (gl_of hs h1) (ok.bl _ h2) (by decide +kernel) (pa_cons pe_w pa_nil (hst X.env)) (by decide +kernel) rfl (hst X.env) rfl) ?_
      refine sound h X ok hs _ _ _ _ _ _ _ _ _ R e1 _ fun v B1 H1 R1 s1 dv => ?_
      obtain ⟨q1, vs, rfl, hq, r⟩ := tup_dv dv
      refine ⟨q1, vs, rfl, .inr (same_t R1.ext hq), fun a ha => ?_⟩
      exact q a vs B1 _ (R1.heap (same_upd ha)) s1 upd_same (R1.free ha).2.2 (R1.free ha).1 (R1.nown ha) r
    · cases ev
theorem snd_asgO {i : Nat} {x : Str} {e : Expr} {p pos : Pos} {c : Co} (hx : N[i]? = some x) (hl : Loc sc x) (h : CorO Γ N sc e c) (hw : ∀ env, swapsWith e (some (.Name x p)) pos.line env = pure false) : SndS Γ F N k sc (.Assign [.Name x p] e pos) (.asgO i c) := by
  intro X ok hs p B0 H0 B H σ st out R ev D wd
  simp only [evalS] at ev
  split at ev
  · rename_i ds st1 e1
    cases ev
    refine w_ps (ps_set (i := i) (by rw [ok.ok.hN]; exact ok.ok.nd) (by rw [ok.ok.hN]; exact hx) (by rw [hs]; exact hl) pe_w (hw X.env) (.inl (ok.fn x))) ?_
    exact snd_O ok.ok hs h R e1 fun l xs B1 H1 R1 s1 g1 g2 g3 g4 g5 => wd _ B1 H1 (R1.putO g1 g2 g3 g5 fun j es _ hj => g4 j es hj) s1
  · cases ev
theorem snd_parO {i j : Nat} {x y : Str} {a b : Expr} {px py pt pt2 pos : Pos} {kt k2 : Nat} {ca cb : Co} (hi : N[i]? = some x) (hj : N[j]? = some y) (hij : i ≠ j) (hx : sc.names.lookup x = some .local) (hy : sc.names.lookup y = some .local) (ha : CorO Γ N sc a ca) (hb : CorO Γ N sc b cb)
    (hsa : ∀ env, starEach [a, b] env = (false, eval a env) :: starEach [b] env) (hsb : ∀ env, starEach [b] env = (false, eval b env) :: starEach [] env)
    (hw : ∀ env : Env, env.scope = sc → swappedStores [.Tuple [.Name x px, .Name y py] kt pt] (.Tuple [a, b] k2 pt2) env = pure (some [x, y]))
    (hss : ∀ env : Env, swapsWithSole [.Tuple [.Name x px, .Name y py] kt pt] (.Tuple [a, b] k2 pt2) pos.line env = pure false) : SndS Γ F N k sc (.Assign [.Tuple [.Name x px, .Name y py] kt pt] (.Tuple [a, b] k2 pt2) pos) (.parO i j ca cb) := by
  intro X ok hs p B0 H0 B H σ st out R ev D wd
  simp only [evalS] at ev
  split at ev
  · rename_i xs st1 e1
    split at ev
    · rename_i ys st2 e2
      rw [if_neg hij] at ev
      cases ev
      refine w_ps (ps_par ok.ok.calm (by rw [ok.ok.hN]; exact ok.ok.nd) (by rw [ok.ok.hN]; exact hi) (by rw [ok.ok.hN]; exact hj) hij (by rw [hs]; exact hx) (by rw [hs]; exact hy) (pa_cons pe_w (pa_cons pe_w pa_nil (hsb X.env)) (hsa X.env)) (hw X.env hs) (hss X.env)) ?_
      refine snd_O ok.ok hs ha R e1 fun l vs B1 H1 R1 s1 g1 g2 g3 g4 g5 => ?_
      refine snd_O ok.ok hs hb R1.here e2 fun m ws B2 H2 R2 s2 k1 k2 k3 k4 k5 => ?_
      have R3 := R1.back (Same.refl _) R2
      have np := R1.npen g3
      have l2 : H2 l = some (.lst vs) := R2.fr l _ np g1
      have b2 : B2 l = none := by
        cases z : B2 l with
        | none => rfl
        | some o =>
          rcases R2.new l o z with ⟨o', z'⟩ | z'
          · rw [g2] at z'; cases z'
          · rw [g1] at z'; cases z'
      have m0 : H0 m = none := (R1.free k3).1
      have ml : m ≠ l := fun z => by rw [z, g1] at k3; cases k3
      have R4 := R3.putO (i := i) l2 b2 g3 (g5.mono s2) fun j' es _ hj' => g4 j' es hj'
      refine ⟨_, _, rfl, wd _ B2 H2 (R4.putO (i := j) k1 k2 m0 k5 fun j' es nj hj' => ?_) (s1.trans s2)⟩
      intro w
      by_cases z : i = j'
      · subst z
        have hlen : i < σ.length := by
          have := (List.getElem?_eq_some_iff.mp hj').1
          rw [show (S.own ⟨st1.δ, st2.π⟩ i xs).δ = st1.δ.set i (.own xs) from rfl, List.length_set] at this
          rw [R1.len]
          exact this
        rw [List.getElem?_set_self hlen] at w
        cases w
        exact ml rfl
      · rw [List.getElem?_set_ne z] at w
        have hj' : (st1.δ.set i (.own xs))[j']? = some (.own es) := hj'
        rw [List.getElem?_set_ne z] at hj'
        obtain ⟨l', us, h1, h2, _⟩ := R1.ow j' es hj'
        rw [h1] at w
        cases w
        rw [k3] at h2
        cases h2
    · cases ev
  · cases ev
theorem snd_appO {i : Nat} {x : Str} {e : Expr} {p ap cp pos : Pos} {c : C} (hx : N[i]? = some x) (hv : Vis sc x) (h3 : (x == ("__debug__" : Str)) = false) (h4 : (x == ("__classdict__" : Str)) = false) (he : SndE Γ F N k sc e c) (hl : (ap.endLine == cp.line) = true)
    (hst : ∀ env, starEach [e] env = (false, eval e env) :: starEach [] env) : SndS Γ F N k sc (.Expr (.Call (.Attribute (.Name x p) "append" ap) [e] [] cp) pos) (.appO i c) := by
  intro X ok hs p B0 H0 B H σ st out R ev D wd
  simp only [evalS] at ev
  split at ev
  · rename_i ds0 e0
    split at ev
    · rename_i d st1 e1
      split at ev
      · rename_i ds e2
        obtain ⟨hz, ev⟩ := ite_some ev
        subst ev
        obtain ⟨l, xs0, g1, g2, _⟩ := R.ow i ds0 e0
        refine w_ps (ps_expr (pe_bm PySem.F.plainAttrs_list PySem.F.slot_list_append PySem.F.type_list_append mt_append (pv_of ok.ok hs hx hv h3 h4) (pa_cons pe_w pa_nil (hst X.env)) (by rfl) (by rw [hst X.env] <;> rfl) hl (hst X.env) rfl) (by rfl)) ?_
        refine ⟨_, g1, .inl ⟨rfl, xs0, .of g2⟩, ?_⟩
        refine he X ok.ok hs _ _ _ _ _ _ _ _ _ R e1 _ fun v B1 H1 R1 s1 dv => ?_
        obtain ⟨l', xs, k1, k2, k3, k4, k5⟩ := R1.ow i ds e2
        rw [g1] at k1
        cases k1
        refine ⟨l, xs, v, rfl, rfl, k2, by rw [k5.length]; exact small_lt hz, ?_⟩
        exact wd _ B1 _ (R1.chg e2 g1 (k5.append (.cons dv .nil))) s1
      · cases ev
    · cases ev
  · cases ev
theorem snd_while {t : Expr} {b : List Stmt} {pos : Pos} {ct : C} {cb : Sds} (ht : SndT Γ F N k sc t ct) (hb : SndSs Γ F N k sc b cb) : SndS Γ F N k sc (.While t b [] pos) (.while_ ct cb) := by
  intro X ok hs p B0 H0 B H σ st out R ev D wd
  simp only [evalS] at ev
  refine w_ps (ps_while ok.ps pt_w pss_w) ?_
  refine ⟨fun m σ' H' => ∃ B' st', Rel X.K p B0 H0 B' H' σ' st' ∧ Same B B' ∧ whileLoop (evalE F ct) (evalSs F cb) m st' = some out, ⟨fuel, B, st, R, Same.refl _, ev⟩, ?_⟩
  rintro m σ' H' ⟨B', st', R', s', ev'⟩
  cases m with
  | zero => cases ev'
  | succ m =>
    simp only [whileLoop] at ev'
    split at ev'
    · rename_i d st1 e1
      split at ev'
      · rename_i t1
        refine ht X ok.ok hs _ _ _ _ _ _ _ _ _ _ R' e1 t1 _ fun B1 H1 R1 s1 => iteT ?_
        refine ⟨fun σ2 H2 => ∃ B2 st2, Rel X.K p B0 H0 B2 H2 σ2 st2 ∧ Same B B2 ∧ whileLoop (evalE F ct) (evalSs F cb) m st2 = some out, fun σ2 H2 h => ⟨m, Nat.lt_succ_self m, h⟩, ?_⟩
        split at ev'
        · rename_i st2 e2
          exact hb X ok hs _ _ _ _ _ _ _ _ R1 e2 _ fun σ2 B2 H2 R2 s2 => ⟨B2, st2, R2, (s'.trans s1).trans s2, ev'⟩
        · rename_i d2 π e2
          cases ev'
          exact hb X ok hs _ _ _ _ _ _ _ _ R1 e2 _ fun v σ2 st2 B2 H2 R2 z s2 dv => wd v σ2 st2 B2 H2 R2 z ((s'.trans s1).trans s2) dv
        · cases ev'
      · rename_i t1
        cases ev'
        exact ht X ok.ok hs _ _ _ _ _ _ _ _ _ _ R' e1 t1 _ fun B1 H1 R1 s1 => iteF (wd σ' B1 H1 R1 (s'.trans s1))
      · cases ev'
    · cases ev'
theorem snd_penS {j n : Nat} {kk : Int} {y : Str} {e : Expr} {p p2 p3 pos : Pos} {c : C} (hx : N[j]? = some y) (hv : Vis sc y) (h3 : (y == ("__debug__" : Str)) = false) (h4 : (y == ("__classdict__" : Str)) = false) (he : SndE Γ F N k sc e c) (hk : kk = 1 ∨ kk = 2)
    (hw : ∀ env, swapsWithSole [.Subscript (.Name y p) (.Constant (.int kk) n p2) p3] e pos.line env = pure false) (hw2 : ∀ env, swappedStores [.Subscript (.Name y p) (.Constant (.int kk) n p2) p3] e env = pure none) :
    SndS Γ F N k sc (.Assign [.Subscript (.Name y p) (.Constant (.int kk) n p2) p3] e pos) (.penS j kk.toNat c) := by
  intro X ok hs p B0 H0 B H σ st out R ev D wd
  simp only [evalS] at ev
  split at ev
  · rename_i m st1 e1
    split at ev
    · rename_i π e2 hπ
      refine w_ps (ps_asg pe_w (pg_sub (pv_of ok.ok hs hx hv h3 h4) pe_int set_list) (hw X.env) (hw2 X.env)) ?_
      refine he X ok.ok hs _ _ _ _ _ _ _ _ _ R e1 _ fun v B1 H1 R1 s1 dv => ?_
      cases dv
      obtain ⟨a, ha, g0, r, g1, g2⟩ := pen_at R1 e2 hπ
      refine ⟨_, g0, a, [V.ref r, V.int π.lap, V.int π.g], kk, kk.toNat, rfl, rfl, g1, ?_, ?_⟩
      · rcases hk with rfl | rfl <;> rfl
      · rcases hk with rfl | rfl
        · cases ev
          exact wd σ B1 _ (R1.store (π' := ⟨π.ns, m, π.g⟩) ha (fun b hb => upd_ne hb) ⟨r, upd_same, g2⟩) s1
        · cases ev
          exact wd σ B1 _ (R1.store (π' := ⟨π.ns, π.lap, m⟩) ha (fun b hb => upd_ne hb) ⟨r, upd_same, g2⟩) s1
    · cases ev
  · cases ev
theorem snd_nilS : SndSs Γ F N k sc [] .nil := by
  intro X ok hs p B0 H0 B H σ st out R ev D wd
  cases ev
  exact w_pss pss_nil (wd σ B H R (Same.refl _))
theorem snd_consS {s : Stmt} {ss : List Stmt} {c : Sd} {cs : Sds} (h : SndS Γ F N k sc s c) (r : SndSs Γ F N k sc ss cs) : SndSs Γ F N k sc (s :: ss) (.cons c cs) := by
  intro X ok hs p B0 H0 B H σ st out R ev D wd
  simp only [evalSs] at ev
  refine w_pss (pss_cons ps_w pss_w) ?_
  split at ev
  · rename_i st1 e1
    exact h X ok hs _ _ _ _ _ _ _ _ R e1 _ fun σ1 B1 H1 R1 s1 => r X ok hs _ _ _ _ _ _ _ _ R1 ev D (wd.mono s1)
  · rename_i d π e1
    cases ev
    exact h X ok hs _ _ _ _ _ _ _ _ R e1 _ fun v σ1 st1 B1 H1 R1 z s1 dv => wd v σ1 st1 B1 H1 R1 z s1 dv
  · cases ev
mutual
theorem soundS : ∀ {s : Stmt} {c : Sd}, CorS Γ N sc s c → SndS Γ F N k sc s c
  | _, _, .asg hx hl h hw => snd_asg hx hl (sound h) hw
  | _, _, .asgLc hy hyl hk hln hany hi hb hx hl he hs => snd_asgLc hy hyl hk hln hany (soundI hi) hb hx hl (sound he) hs
  | _, _, .par hi hj hij hx hy ha hb hsa hsb hw hs => snd_par hi hj hij hx hy (sound ha) (sound hb) hsa hsb hw hs
  | _, _, .ret h => snd_ret (sound h)
  | _, _, .ifs ht ha hb => snd_ifs (soundT ht) (soundSs ha) (soundSs hb)
  | _, _, .for_ hx hl hi hb hs => snd_for hx hl (soundI hi) (soundSs hb) hs
  | _, _, .expr h hw => snd_expr (sound h) hw
  | _, _, .asgO hx hl h hw => snd_asgO hx hl h hw
  | _, _, .parO hi hj hij hx hy ha hb hsa hsb hw hs => snd_parO hi hj hij hx hy ha hb hsa hsb hw hs
  | _, _, .appO hx hv h3 h4 he hl hs => snd_appO hx hv h3 h4 (sound he) hl hs
  | _, _, .while_ ht hb => snd_while (soundT ht) (soundSs hb)
  | _, _, .penS hx hv h3 h4 he hk hw hw2 => snd_penS hx hv h3 h4 (sound he) hk hw hw2
theorem soundSs : ∀ {s : List Stmt} {c : Sds}, CorSs Γ N sc s c → SndSs Γ F N k sc s c
  | _, _, .nil => snd_nilS
  | _, _, .cons h r => snd_consS (soundS h) (soundSs r)
end
end

/-! ### a def -/
structure Md (Γ : Gam) (F : Fns) (P : Program) (w : World) (K : PySem.W.Frag) (mg : Str → Option Value) (base : Heap) (k : Nat) : Prop where
  bl : ∀ x ∈ Γ.bs, mg x = none
  gl : ∀ (i : Nat) x d, Γ.gs[i]? = some (x, d) → ∃ v u, mg x = some u ∧ RelV v u ∧ ∀ B, Dv K B v d
  fn : ∀ i e, Γ.es[i]? = some e → FnF P w K mg base k e (F.fn i)
  pf : ∀ i x, Γ.ps[i]? = some x → PfF P w K mg base k x (F.pf i)
def init (N : List Str) (ds : List SD) : List SD := ds ++ List.replicate (N.length - ds.length) .unk
/-- what a def's body gives -/
def bodyD (F : Fns) (c : Sds) (N : List Str) (ds : List PyData) : Option PyData := match evalSs F c ⟨init N (ds.map .dat), none⟩ with
  | some (.rt d none) => some d
  | some (.nx ⟨_, none⟩) => some .none
  | _ => none
def bodyP (F : Fns) (c : Sds) (N : List Str) (ds : List PyData) (π : Pen) : Option (PyData × Pen) := match evalSs F c ⟨init N (.pen :: ds.map .dat), some π⟩ with
  | some (.rt d (some π')) => some (d, π')
  | some (.nx ⟨_, some π'⟩) => some (.none, π')
  | _ => none
section
variable {Γ : Gam} {F : Fns} {P : Program} {w : World} {K : PySem.W.Frag} {mg : Str → Option Value} {base : Heap} {k : Nat}
theorem okS_of {N ps : List Str} {qual : Str} {sc : Scope} {f : Addr} {cdv : Value} {A : Around} {outer : List Env} {s : Shared} {H : Hp} {E : XK} (Sc : FnScope N ps sc) (M : Md Γ F P w K mg base k) (hr : Room k (A.deeper (envOfC qual sc s.heap.objs.size f cdv))) (hg : A.guards = some []) :
    OkS Γ F N k (cxOf CX0 P w K mg base N qual sc f cdv A outer s H E).nox :=
  ⟨⟨rfl, rfl, Sc.nd, hr, hg, M.bl, M.gl, M.fn, M.pf⟩, PassesOwn.never, fun _ => rfl⟩
theorem start_get {N : List Str} {vs : List V} {i : Nat} {v : V} (h : vs[i]? = some v) : (start N vs)[i]? = some (some v) := by
  unfold L2.start
  have hi := (List.getElem?_eq_some_iff.mp h).1
  rw [List.getElem?_append_left (by simpa using hi), List.getElem?_map, h] <;> rfl
theorem init_dat {N : List Str} {l : List SD} {i : Nat} {d : PyData} {π : Option Pen} (h : (⟨init N l, π⟩ : S).get i = some d) : l[i]? = some (.dat d) := by
  unfold S.get init at h
  by_cases hi : i < l.length
  · rw [List.getElem?_append_left hi] at h
    split at h
    · rename_i z; cases h; exact z
    · cases h
  · rw [List.getElem?_append_right (by omega), List.getElem?_replicate] at h
    split at h
    · rename_i z
      split at z <;> cases z
    · cases h
theorem init_own {N : List Str} {ds : List PyData} {i : Nat} {es : List PyData} (h : (init N (ds.map .dat))[i]? = some (SD.own es)) : False := by
  unfold init at h
  by_cases hi : i < (ds.map SD.dat).length
  · rw [List.getElem?_append_left hi, List.getElem?_map, Option.map_eq_some_iff] at h
    obtain ⟨_, _, z⟩ := h
    cases z
  · rw [List.getElem?_append_right (by omega), List.getElem?_replicate] at h
    split at h <;> cases h
theorem init_ownP {N : List Str} {ds : List PyData} {i : Nat} {es : List PyData} (h : (init N (.pen :: ds.map .dat))[i]? = some (SD.own es)) : False := by
  unfold init at h
  by_cases hi : i < (SD.pen :: ds.map SD.dat).length
  · rw [List.getElem?_append_left hi] at h
    cases i with
    | zero => cases h
    | succ i =>
      rw [List.getElem?_cons_succ, List.getElem?_map, Option.map_eq_some_iff] at h
      obtain ⟨_, _, z⟩ := h
      cases z
  · rw [List.getElem?_append_right (by omega), List.getElem?_replicate] at h
    split at h <;> cases h
theorem rel_start {N ps : List Str} {B H : Hp} {vs : List V} {ds : List PyData} (hN : vs.length ≤ N.length) (e : Same B H) (dv : DvL K B vs ds) : Rel K none B H B H (start N vs) ⟨init N (ds.map .dat), none⟩ := by
  refine ⟨fun _ _ _ h => h, e, Same.refl _, fun a o h => .inl ⟨o, h⟩, fun a h => (by cases h), fun a h => (by cases h), ?_, fun i d h => ?_, rfl, fun i h => ?_, fun i es h => (init_own h).elim, fun i j es es' _ h => (init_own h).elim⟩
  · unfold L2.start init
    simp only [List.length_append, List.length_map, List.length_replicate, dv.length]
  · have z := init_dat h
    rw [List.getElem?_map, Option.map_eq_some_iff] at z
    obtain ⟨d', z1, z2⟩ := z
    cases z2
    obtain ⟨v, h1, h2⟩ := dv.get' z1
    exact ⟨v, start_get h1, h2⟩
  · have h : (init N (ds.map .dat))[i]? = some .pen := h
    unfold init at h
    by_cases hi : i < (ds.map SD.dat).length
    · rw [List.getElem?_append_left hi, List.getElem?_map, Option.map_eq_some_iff] at h
      obtain ⟨_, _, z⟩ := h
      cases z
    · rw [List.getElem?_append_right (by omega), List.getElem?_replicate] at h
      split at h <;> cases h
/-- THE RULE for a def without a pen -/
theorem fg_pure {x qual : Str} {st : Stmt} {f : Addr} {fd : FuncData} {N ps : List Str} {c : Sds} {m : List PyData → Option PyData} (Fu : Fun K x qual st f fd) (Sc : FnScope N ps (defScope st)) (hc : CorSs Γ N (defScope st) (defBody st) c) (M : Md Γ F P w K mg base k)
    (hN : ps.length ≤ N.length) (hm : ∀ ds d, m ds = some d → ds.length = ps.length ∧ bodyD F c N ds = some d) : FG P w K mg base CX0 (k + 1) f fd ps (SpF K m) := by
  refine fg_of Fu Sc (fun vs H Q E h => ?_) fun cdv A outer s H vs Q E hr hg h => ?_
  · obtain ⟨ds, d, B, _, dv, e, _⟩ := h
    rw [dv.length]
    exact (hm ds d e).1
  · obtain ⟨ds, d, B, sb, dv, e, q⟩ := h
    obtain ⟨l1, e2⟩ := hm ds d e
    have ok := okS_of (qual := qual) (f := f) (cdv := cdv) (outer := outer) (s := s) (H := H) (E := E) Sc M hr hg
    have R : Rel K none B H B H (start N vs) ⟨init N (ds.map .dat), none⟩ := rel_start (ps := ps) (by rw [dv.length, l1]; exact hN) sb dv
    refine ⟨_, PSs.nox pss_w, ?_⟩
    unfold bodyD at e2
    split at e2
    · rename_i d' ev
      cases e2
      refine soundSs hc _ ok rfl _ _ _ _ _ _ _ _ R ev _ fun v σ' st' B' H' R' z s' dv' => ?_
      exact q v B' H' s' R'.ext (fun b o hb => R'.fr b o (by intro z; cases z) hb) R'.new dv'
    · rename_i st' π0 ev
      cases e2
      refine soundSs hc _ ok rfl _ _ _ _ _ _ _ _ R ev _ fun σ' B' H' R' s' => ?_
      exact q .non B' H' s' R'.ext (fun b o hb => R'.fr b o (by intro z; cases z) hb) R'.new .non
    · cases e2
theorem rel_startP {N ps : List Str} {B H : Hp} {a : Addr} {π : Pen} {vs : List V} {ds : List PyData} (hN : vs.length + 1 ≤ N.length) (e : Same B H) (ba : B a = none) (pe : PenAt K B H a π) (dv : DvL K B vs ds) :
    Rel K (some a) B H B H (start N (.ref a :: vs)) ⟨init N (.pen :: ds.map .dat), some π⟩ := by
  have ha : H a ≠ none := by
    obtain ⟨q, h1, _⟩ := pe
    rw [h1]
    exact fun z => nomatch z
  refine ⟨fun _ _ _ h => h, e, Same.refl _, fun a o h => .inl ⟨o, h⟩, fun b h => (by cases h; exact ba), fun b h => (by cases h; exact ha), ?_, fun i d h => ?_, ⟨a, rfl, pe⟩, fun i h => ?_, fun i es h => (init_ownP h).elim, fun i j es es' _ h => (init_ownP h).elim⟩
  · unfold L2.start init
    simp only [List.length_append, List.length_map, List.length_replicate, List.length_cons, dv.length]
  · have z := init_dat h
    cases i with
    | zero => cases z
    | succ i =>
      rw [List.getElem?_cons_succ, List.getElem?_map, Option.map_eq_some_iff] at z
      obtain ⟨d', z1, z2⟩ := z
      cases z2
      obtain ⟨v, h1, h2⟩ := dv.get' z1
      exact ⟨v, start_get (by rw [List.getElem?_cons_succ]; exact h1), h2⟩
  · have h : (init N (.pen :: ds.map .dat))[i]? = some .pen := h
    cases i with
    | zero => exact ⟨a, rfl, start_get rfl⟩
    | succ i =>
      unfold init at h
      by_cases hi : i + 1 < (SD.pen :: ds.map SD.dat).length
      · rw [List.getElem?_append_left hi, List.getElem?_cons_succ, List.getElem?_map, Option.map_eq_some_iff] at h
        obtain ⟨_, _, z⟩ := h
        cases z
      · rw [List.getElem?_append_right (by omega), List.getElem?_replicate] at h
        split at h <;> cases h
/-- THE RULE for a def that draws -/
theorem fg_pen {x qual : Str} {st : Stmt} {f : Addr} {fd : FuncData} {N ps : List Str} {c : Sds} {m : List PyData → Pen → Option (PyData × Pen)} (Fu : Fun K x qual st f fd) (Sc : FnScope N ps (defScope st)) (hc : CorSs Γ N (defScope st) (defBody st) c) (M : Md Γ F P w K mg base k)
    (hN : ps.length ≤ N.length) (hm : ∀ ds π d π', m ds π = some (d, π') → ds.length + 1 = ps.length ∧ bodyP F c N ds π = some (d, π')) : FG P w K mg base CX0 (k + 1) f fd ps (SpP K m) := by
  refine fg_of Fu Sc (fun vs H Q E h => ?_) fun cdv A outer s H vs Q E hr hg h => ?_
  · obtain ⟨a, ws, ds, d, B, π, π', rfl, _, _, _, dv, e, _⟩ := h
    rw [List.length_cons, dv.length]
    exact (hm ds π d π' e).1
  · obtain ⟨a, ws, ds, d, B, π, π', rfl, ba, sb, pe, dv, e, q⟩ := h
    obtain ⟨l1, e2⟩ := hm ds π d π' e
    have ok := okS_of (qual := qual) (f := f) (cdv := cdv) (outer := outer) (s := s) (H := H) (E := E) Sc M hr hg
    have R := rel_startP (N := N) (ps := ps) (by rw [dv.length, l1]; exact hN) sb ba pe dv
    have back : ∀ {σ' : L2.St} {st' : S} {B' H' : Hp} {v : V}, Rel K (some a) B H B' H' σ' st' → st'.π = some π' → Same B B' → Dv K B' v d → Q v H' := by
      intro σ' st' B' H' v R' z s' dv'
      have pe' := R'.pen
      rw [z] at pe'
      obtain ⟨a', ea, pe'⟩ := pe'
      cases ea
      exact q v B' H' s' R'.ext (fun b o nb hb => R'.fr b o (by intro z; cases z; exact nb rfl) hb) R'.new pe' dv'
    refine ⟨_, PSs.nox pss_w, ?_⟩
    unfold bodyP at e2
    split at e2
    · rename_i d' π0 ev
      cases e2
      exact soundSs hc _ ok rfl _ _ _ _ _ _ _ _ R ev _ fun v σ' st' B' H' R' z s' dv' => back R' z s' dv'
    · rename_i st' π0 ev
      cases e2
      exact soundSs hc _ ok rfl _ _ _ _ _ _ _ _ R ev _ fun σ' B' H' R' s' => back R' rfl s' .non
    · cases e2
end
end Kd

set_option Elab.async false
set_option linter.all false
set_option maxRecDepth 100000
set_option maxHeartbeats 8000000
namespace Kd
open PySem PySem.Spec PyProof.Rows L2

/-! ### a run foretold: less known, draws by a tape -/
mutual
/-- the pen's cells are not looked at -/
def npE : C → Bool
  | .var _ => true
  | .cst _ => true
  | .glb _ => true
  | .and_ a b => npE a && npE b
  | .or_ a b => npE a && npE b
  | .not_ a => npE a
  | .ite t a b => npE t && (npE a && npE b)
  | .bin _ a b => npE a && npE b
  | .neg a => npE a
  | .cmp _ a b => npE a && npE b
  | .chain _ _ a b c => npE a && (npE b && npE c)
  | .tup es => npL es
  | .lst es => npL es
  | .dct1 _ v => npE v
  | .lset a => npE a
  | .lenO _ => true
  | .neO _ => true
  | .popO _ c => npE c
  | .frz _ => true
  | .penG _ _ => false
  | .penAt _ _ => false
  | .penLen _ => false
  | .penNe _ => false
  | .isi a _ => npE a
  | .call _ es => npL es
  | .pcall _ _ es => npL es
  | .blt _ a => npE a
  | .comp e _ it => npE e && npI it
  | .sub a i => npE a && npE i
  | .upto a n => npE a && npE n
  | .cat a b => npE a && npE b
def npL : Cs → Bool
  | .nil => true
  | .cons c cs => npE c && npL cs
def npI : Ci → Bool
  | .seq c => npE c
  | .rng c => npE c
end
def npO : Co → Bool
  | .disp es => npL es
  | .lst c => npE c
  | .comp e _ it => npE e && npI it
mutual
def npS : Sd → Bool
  | .asg _ c => npE c
  | .par _ _ a b => npE a && npE b
  | .ret c => npE c
  | .ifs t a b => npE t && (npSs a && npSs b)
  | .for_ _ it b => npI it && npSs b
  | .expr c => npE c
  | .asgO _ c => npO c
  | .parO _ _ a b => npO a && npO b
  | .appO _ c => npE c
  | .while_ t b => npE t && npSs b
  | .penS _ _ _ => false
def npSs : Sds → Bool
  | .nil => true
  | .cons s ss => npS s && npSs ss
end
/-- what is less known -/
def LeP (R : Pen → Pen → Prop) : Option Pen → Option Pen → Prop
  | some a, some b => R a b
  | none, none => True
  | _, _ => False
structure Le (R : Pen → Pen → Prop) (st st' : S) : Prop where
  len : st.δ.length = st'.δ.length
  at_ : ∀ (i : Nat) x, st.δ[i]? = some x → x = .unk ∨ st'.δ[i]? = some x
  pen : LeP R st.π st'.π
section
variable {R : Pen → Pen → Prop} {st st' : S}
theorem Le.get (h : Le R st st') {i : Nat} {d : PyData} (e : st.get i = some d) : st'.get i = some d := by
  unfold S.get at *
  split at e
  · rename_i d' e1
    cases e
    rcases h.at_ i _ e1 with z | z
    · cases z
    · rw [z]
  · cases e
theorem Le.δp (h : Le R st st') {i : Nat} (e : st.δ[i]? = some .pen) : st'.δ[i]? = some .pen := by
  rcases h.at_ i _ e with z | z
  · cases z
  · exact z
theorem Le.δo (h : Le R st st') {i : Nat} {ds : List PyData} (e : st.δ[i]? = some (.own ds)) : st'.δ[i]? = some (.own ds) := by
  rcases h.at_ i _ e with z | z
  · cases z
  · exact z
theorem Le.put (h : Le R st st') (i : Nat) (x : SD) : Le R ⟨st.δ.set i x, st.π⟩ ⟨st'.δ.set i x, st'.π⟩ := by
  refine ⟨by simpa using h.len, fun j y e => ?_, h.pen⟩
  rw [List.getElem?_set] at e ⊢
  split at e
  · rename_i ij
    subst ij
    split at e
    · cases e
      rename_i l
      right
      rw [if_pos rfl, if_pos (by rw [← h.len]; exact l)]
    · cases e
  · rename_i ij
    rw [if_neg ij]
    exact h.at_ j y e
theorem Le.hush (h : Le R st st') : Le R st.hush st'.hush := by
  refine ⟨by simpa [S.hush] using h.len, fun j y e => ?_, h.pen⟩
  unfold S.hush at *
  simp only [List.getElem?_map, Option.map_eq_some_iff] at e ⊢
  obtain ⟨x, e1, e2⟩ := e
  rcases h.at_ j x e1 with z | z
  · subst z; subst e2; exact .inl rfl
  · exact .inr ⟨x, z, e2⟩
theorem Le.swap (h : Le R st st') {p p' : Option Pen} (hp : LeP R p p') : Le R ⟨st.δ, p⟩ ⟨st'.δ, p'⟩ := ⟨h.len, h.at_, hp⟩
end
section
variable {R : Pen → Pen → Prop} {F F' : Fns}
structure Sim (R : Pen → Pen → Prop) (F F' : Fns) : Prop where
  fn : ∀ i ds d, F.fn i ds = some d → F'.fn i ds = some d
  pf : ∀ i ds π π' d π1, R π π' → F.pf i ds π = some (d, π1) → ∃ π1', F'.pf i ds π' = some (d, π1') ∧ R π1 π1'
theorem sim_comp {e : C} (ih : ∀ st st' d st1, Le R st st' → evalE F e st = some (d, st1) → ∃ st1', evalE F' e st' = some (d, st1') ∧ Le R st1 st1') (i : Nat) :
    ∀ xs st st' ds p, Le R st st' → compLoop (evalE F e) i xs st = some (ds, p) → ∃ p', compLoop (evalE F' e) i xs st' = some (ds, p') ∧ LeP R p p'
  | [], st, st', ds, p, le, ev => by
    cases ev
    exact ⟨_, rfl, le.pen⟩
  | x :: xs, st, st', ds, p, le, ev => by
    simp only [compLoop] at ev ⊢
    split at ev
    · rename_i d st1 e1
      obtain ⟨s1, f1, l1⟩ := ih _ (st'.set i x) _ _ (le.put i (.dat x)) e1
      split at ev
      · rename_i ds' p' e2
        cases ev
        obtain ⟨p2, f2, l2⟩ := sim_comp ih i xs _ ⟨st'.δ, s1.π⟩ _ _ (le.swap l1.pen) e2
        exact ⟨p2, by simp only [f1, f2], l2⟩
      · cases ev
    · cases ev
mutual
theorem simE (h : Sim R F F') : ∀ c st st' d st1, npE c = true → Le R st st' → evalE F c st = some (d, st1) → ∃ st1', evalE F' c st' = some (d, st1') ∧ Le R st1 st1'
  | .var i, st, st', d, st1, np, le, ev => by
    simp only [evalE] at ev ⊢
    split at ev
    · rename_i d' e
      cases ev
      exact ⟨st', by simp only [le.get e], le⟩
    · cases ev
  | .cst d, st, st', _, st1, np, le, ev => by
    cases ev
    exact ⟨st', rfl, le⟩
  | .glb d, st, st', _, st1, np, le, ev => by
    cases ev
    exact ⟨st', rfl, le⟩
  | .and_ a b, st, st', d, st1, np, le, ev => by
    simp only [npE, Bool.and_eq_true] at np
    simp only [evalE] at ev ⊢
    split at ev
    · rename_i s1 e1
      obtain ⟨s1', f1, l1⟩ := simE h a _ _ _ _ np.1 le e1
      obtain ⟨s2', f2, l2⟩ := simE h b _ _ _ _ np.2 l1 ev
      exact ⟨s2', by simp only [f1, f2], l2⟩
    · rename_i s1 e1
      cases ev
      obtain ⟨s1', f1, l1⟩ := simE h a _ _ _ _ np.1 le e1
      exact ⟨s1', by simp only [f1], l1⟩
    · cases ev
  | .or_ a b, st, st', d, st1, np, le, ev => by
    simp only [npE, Bool.and_eq_true] at np
    simp only [evalE] at ev ⊢
    split at ev
    · rename_i s1 e1
      cases ev
      obtain ⟨s1', f1, l1⟩ := simE h a _ _ _ _ np.1 le e1
      exact ⟨s1', by simp only [f1], l1⟩
    · rename_i s1 e1
      obtain ⟨s1', f1, l1⟩ := simE h a _ _ _ _ np.1 le e1
      obtain ⟨s2', f2, l2⟩ := simE h b _ _ _ _ np.2 l1 ev
      exact ⟨s2', by simp only [f1, f2], l2⟩
    · cases ev
  | .not_ a, st, st', d, st1, np, le, ev => by
    simp only [npE] at np
    simp only [evalE] at ev ⊢
    split at ev
    · rename_i b s1 e1
      cases ev
      obtain ⟨s1', f1, l1⟩ := simE h a _ _ _ _ np le e1
      exact ⟨s1', by simp only [f1], l1⟩
    · cases ev
  | .ite t a b, st, st', d, st1, np, le, ev => by
    simp only [npE, Bool.and_eq_true] at np
    simp only [evalE] at ev ⊢
    split at ev
    · rename_i x s1 e1
      obtain ⟨s1', f1, l1⟩ := simE h t _ _ _ _ np.1 le e1
      split at ev
      · rename_i e2
        obtain ⟨s2', f2, l2⟩ := simE h a _ _ _ _ np.2.1 l1 ev
        exact ⟨s2', by simp only [f1, e2, f2], l2⟩
      · rename_i e2
        obtain ⟨s2', f2, l2⟩ := simE h b _ _ _ _ np.2.2 l1 ev
        exact ⟨s2', by simp only [f1, e2, f2], l2⟩
      · cases ev
    · cases ev
  | .bin op a b, st, st', d, st1, np, le, ev => by
    simp only [npE, Bool.and_eq_true] at np
    simp only [evalE] at ev ⊢
    split at ev
    · rename_i x s1 e1
      obtain ⟨s1', f1, l1⟩ := simE h a _ _ _ _ np.1 le e1
      split at ev
      · rename_i y s2 e2
        obtain ⟨s2', f2, l2⟩ := simE h b _ _ _ _ np.2 l1 e2
        split at ev
        · rename_i z e3
          cases ev
          exact ⟨s2', by simp only [f1, f2, e3], l2⟩
        · cases ev
      · cases ev
    · cases ev
  | .neg a, st, st', d, st1, np, le, ev => by
    simp only [npE] at np
    simp only [evalE] at ev ⊢
    split at ev
    · rename_i b s1 e1
      cases ev
      obtain ⟨s1', f1, l1⟩ := simE h a _ _ _ _ np le e1
      exact ⟨s1', by simp only [f1], l1⟩
    · cases ev
  | .cmp op a b, st, st', d, st1, np, le, ev => by
    simp only [npE, Bool.and_eq_true] at np
    simp only [evalE] at ev ⊢
    split at ev
    · rename_i x s1 e1
      obtain ⟨s1', f1, l1⟩ := simE h a _ _ _ _ np.1 le e1
      split at ev
      · rename_i y s2 e2
        obtain ⟨s2', f2, l2⟩ := simE h b _ _ _ _ np.2 l1 e2
        split at ev
        · rename_i z e3
          cases ev
          exact ⟨s2', by simp only [f1, f2, e3], l2⟩
        · cases ev
      · cases ev
    · cases ev
  | .chain o1 o2 a b c, st, st', d, st1, np, le, ev => by
    simp only [npE, Bool.and_eq_true] at np
    simp only [evalE] at ev ⊢
    split at ev
    · rename_i x s1 e1
      obtain ⟨s1', f1, l1⟩ := simE h a _ _ _ _ np.1 le e1
      split at ev
      · rename_i y s2 e2
        obtain ⟨s2', f2, l2⟩ := simE h b _ _ _ _ np.2.1 l1 e2
        split at ev
        · rename_i e3
          split at ev
          · rename_i z s3 e4
            obtain ⟨s3', f4, l3⟩ := simE h c _ _ _ _ np.2.2 l2 e4
            split at ev
            · rename_i r e5
              cases ev
              exact ⟨s3', by simp only [f1, f2, e3, f4, e5], l3⟩
            · cases ev
          · cases ev
        · rename_i e3
          cases ev
          exact ⟨s2', by simp only [f1, f2, e3], l2⟩
        · cases ev
      · cases ev
    · cases ev
  | .tup es, st, st', d, st1, np, le, ev => by
    simp only [npE] at np
    simp only [evalE] at ev ⊢
    split at ev
    · rename_i ds s1 e1
      obtain ⟨s1', f1, l1⟩ := simL h es _ _ _ _ np le e1
      split at ev
      · rename_i z
        cases ev
        exact ⟨s1', by simp only [f1, z, if_true], l1⟩
      · cases ev
    · cases ev
  | .lst es, st, st', d, st1, np, le, ev => by
    simp only [npE] at np
    simp only [evalE] at ev ⊢
    split at ev
    · rename_i ds s1 e1
      obtain ⟨s1', f1, l1⟩ := simL h es _ _ _ _ np le e1
      split at ev
      · rename_i z
        cases ev
        exact ⟨s1', by simp only [f1, z, if_true], l1⟩
      · cases ev
    · cases ev
  | .dct1 k v, st, st', d, st1, np, le, ev => by
    simp only [npE] at np
    simp only [evalE] at ev ⊢
    split at ev
    · rename_i x s1 e1
      cases ev
      obtain ⟨s1', f1, l1⟩ := simE h v _ _ _ _ np le.hush e1
      exact ⟨⟨st'.δ, s1'.π⟩, by simp only [f1], le.swap l1.pen⟩
    · cases ev
  | .lset a, st, st', d, st1, np, le, ev => by
    simp only [npE] at np
    simp only [evalE] at ev ⊢
    split at ev
    · rename_i x s1 e1
      obtain ⟨s1', f1, l1⟩ := simE h a _ _ _ _ np le e1
      split at ev
      · rename_i z e2
        cases ev
        exact ⟨s1', by simp only [f1, e2], l1⟩
      · cases ev
    · cases ev
  | .lenO i, st, st', d, st1, np, le, ev => by
    simp only [evalE] at ev ⊢
    split at ev
    · rename_i ds e1
      cases ev
      exact ⟨st', by simp only [le.δo e1], le⟩
    · cases ev
  | .neO i, st, st', d, st1, np, le, ev => by
    simp only [evalE] at ev ⊢
    split at ev
    · rename_i ds e1
      split at ev
      · rename_i z
        cases ev
        exact ⟨st', by simp only [le.δo e1, z, if_true], le⟩
      · cases ev
    · cases ev
  | .popO i c, st, st', d, st1, np, le, ev => by
    simp only [npE] at np
    simp only [evalE] at ev ⊢
    split at ev
    · rename_i ds0 e0
      split at ev
      · rename_i k s1 e1
        obtain ⟨s1', f1, l1⟩ := simE h c _ _ _ _ np le e1
        split at ev
        · rename_i ds e2
          split at ev
          · rename_i z
            split at ev
            · rename_i x e3
              cases ev
              exact ⟨s1'.own i (ds.eraseIdx k.toNat), by simp only [le.δo e0, f1, l1.δo e2, z, if_true, e3, and_self], l1.put i _⟩
            · cases ev
          · cases ev
        · cases ev
      · cases ev
    · cases ev
  | .frz i, st, st', d, st1, np, le, ev => by
    simp only [evalE] at ev ⊢
    split at ev
    · rename_i ds e1
      cases ev
      exact ⟨st'.set i (.list ds), by simp only [le.δo e1], le.put i _⟩
    · cases ev
  | .isi a tys, st, st', d, st1, np, le, ev => by
    simp only [npE] at np
    simp only [evalE] at ev ⊢
    split at ev
    · rename_i x s1 e1
      obtain ⟨s1', f1, l1⟩ := simE h a _ _ _ _ np le e1
      split at ev
      · rename_i z e2
        cases ev
        exact ⟨s1', by simp only [f1, e2], l1⟩
      · cases ev
    · cases ev
  | .call f es, st, st', d, st1, np, le, ev => by
    simp only [npE] at np
    simp only [evalE] at ev ⊢
    split at ev
    · rename_i ds s1 e1
      obtain ⟨s1', f1, l1⟩ := simL h es _ _ _ _ np le e1
      split at ev
      · rename_i z e2
        cases ev
        exact ⟨s1', by simp only [f1, h.fn _ _ _ e2], l1⟩
      · cases ev
    · cases ev
  | .pcall f j es, st, st', d, st1, np, le, ev => by
    simp only [npE] at np
    simp only [evalE] at ev ⊢
    split at ev
    · rename_i e0
      split at ev
      · rename_i ds s1 e1
        obtain ⟨s1', f1, l1⟩ := simL h es _ _ _ _ np le e1
        split at ev
        · rename_i p e2
          split at ev
          · rename_i x p' e3
            cases ev
            have lp := l1.pen
            rw [e2] at lp
            cases e4 : s1'.π with
            | none => rw [e4] at lp; exact lp.elim
            | some q =>
              rw [e4] at lp
              obtain ⟨q', f3, r⟩ := h.pf _ _ _ _ _ _ lp e3
              exact ⟨⟨s1'.δ, some q'⟩, by simp only [le.δp e0, f1, e4, f3], l1.swap r⟩
          · cases ev
        · cases ev
      · cases ev
    · cases ev
  | .blt b a, st, st', d, st1, np, le, ev => by
    simp only [npE] at np
    simp only [evalE] at ev ⊢
    split at ev
    · rename_i x s1 e1
      obtain ⟨s1', f1, l1⟩ := simE h a _ _ _ _ np le e1
      split at ev
      · rename_i z e2
        cases ev
        exact ⟨s1', by simp only [f1, e2], l1⟩
      · cases ev
    · cases ev
  | .comp e i it, st, st', d, st1, np, le, ev => by
    simp only [npE, Bool.and_eq_true] at np
    simp only [evalE] at ev ⊢
    split at ev
    · rename_i xs s1 e1
      obtain ⟨s1', f1, l1⟩ := simI h it _ _ _ _ np.2 le e1
      split at ev
      · rename_i z
        split at ev
        · rename_i ds p e2
          cases ev
          obtain ⟨p', f2, l2⟩ := sim_comp (fun st st' d st1 le ev => simE h e st st' d st1 np.1 le ev) i xs _ _ _ _ l1.hush e2
          exact ⟨⟨s1'.δ, p'⟩, by simp only [f1, z, if_true, f2], l1.swap l2⟩
        · cases ev
      · cases ev
    · cases ev
  | .sub a i, st, st', d, st1, np, le, ev => by
    simp only [npE, Bool.and_eq_true] at np
    simp only [evalE] at ev ⊢
    split at ev
    · rename_i x s1 e1
      obtain ⟨s1', f1, l1⟩ := simE h a _ _ _ _ np.1 le e1
      split at ev
      · rename_i y s2 e2
        obtain ⟨s2', f2, l2⟩ := simE h i _ _ _ _ np.2 l1 e2
        split at ev
        · rename_i z e3
          cases ev
          exact ⟨s2', by simp only [f1, f2, e3], l2⟩
        · cases ev
      · cases ev
    · cases ev
  | .upto a n, st, st', d, st1, np, le, ev => by
    simp only [npE, Bool.and_eq_true] at np
    simp only [evalE] at ev ⊢
    split at ev
    · rename_i xs s1 e1
      obtain ⟨s1', f1, l1⟩ := simE h a _ _ _ _ np.1 le e1
      split at ev
      · rename_i k s2 e2
        obtain ⟨s2', f2, l2⟩ := simE h n _ _ _ _ np.2 l1 e2
        split at ev
        · rename_i z
          cases ev
          exact ⟨s2', by simp only [f1, f2, z, if_true], l2⟩
        · cases ev
      · cases ev
    · cases ev
  | .cat a b, st, st', d, st1, np, le, ev => by
    simp only [npE, Bool.and_eq_true] at np
    simp only [evalE] at ev ⊢
    split at ev
    · rename_i xs s1 e1
      obtain ⟨s1', f1, l1⟩ := simE h a _ _ _ _ np.1 le e1
      split at ev
      · rename_i ys s2 e2
        obtain ⟨s2', f2, l2⟩ := simE h b _ _ _ _ np.2 l1 e2
        split at ev
        · rename_i z
          cases ev
          exact ⟨s2', by simp only [f1, f2, z, if_true], l2⟩
        · cases ev
      · cases ev
    · cases ev
theorem simL (h : Sim R F F') : ∀ c st st' d st1, npL c = true → Le R st st' → evalL F c st = some (d, st1) → ∃ st1', evalL F' c st' = some (d, st1') ∧ Le R st1 st1'
  | .nil, st, st', d, st1, np, le, ev => by
    cases ev
    exact ⟨st', rfl, le⟩
  | .cons c cs, st, st', d, st1, np, le, ev => by
    simp only [npL, Bool.and_eq_true] at np
    simp only [evalL] at ev ⊢
    split at ev
    · rename_i x s1 e1
      obtain ⟨s1', f1, l1⟩ := simE h c _ _ _ _ np.1 le e1
      split at ev
      · rename_i y s2 e2
        cases ev
        obtain ⟨s2', f2, l2⟩ := simL h cs _ _ _ _ np.2 l1 e2
        exact ⟨s2', by simp only [f1, f2], l2⟩
      · cases ev
    · cases ev
theorem simI (h : Sim R F F') : ∀ c st st' d st1, npI c = true → Le R st st' → evalI F c st = some (d, st1) → ∃ st1', evalI F' c st' = some (d, st1') ∧ Le R st1 st1'
  | .seq c, st, st', d, st1, np, le, ev => by
    simp only [npI] at np
    simp only [evalI] at ev ⊢
    split at ev
    · rename_i x s1 e1
      obtain ⟨s1', f1, l1⟩ := simE h c _ _ _ _ np le e1
      split at ev
      · rename_i z e2
        cases ev
        exact ⟨s1', by simp only [f1, e2], l1⟩
      · cases ev
    · cases ev
  | .rng c, st, st', d, st1, np, le, ev => by
    simp only [npI] at np
    simp only [evalI] at ev ⊢
    split at ev
    · rename_i n s1 e1
      obtain ⟨s1', f1, l1⟩ := simE h c _ _ _ _ np le e1
      split at ev
      · rename_i z
        cases ev
        exact ⟨s1', by simp only [f1, z, if_true, and_self], l1⟩
      · cases ev
    · cases ev
end
theorem simO (h : Sim R F F') : ∀ c st st' d st1, npO c = true → Le R st st' → evalO F c st = some (d, st1) → ∃ st1', evalO F' c st' = some (d, st1') ∧ Le R st1 st1'
  | .disp es, st, st', d, st1, np, le, ev => by
    simp only [npO] at np
    simp only [evalO] at ev ⊢
    split at ev
    · rename_i ds s1 e1
      obtain ⟨s1', f1, l1⟩ := simL h es _ _ _ _ np le e1
      split at ev
      · rename_i z
        cases ev
        exact ⟨s1', by simp only [f1, z, if_true], l1⟩
      · cases ev
    · cases ev
  | .lst c, st, st', d, st1, np, le, ev => by
    simp only [npO] at np
    simp only [evalO] at ev ⊢
    split at ev
    · rename_i ds s1 e1
      cases ev
      obtain ⟨s1', f1, l1⟩ := simE h c _ _ _ _ np le e1
      exact ⟨s1', by simp only [f1], l1⟩
    · rename_i ds s1 e1
      cases ev
      obtain ⟨s1', f1, l1⟩ := simE h c _ _ _ _ np le e1
      exact ⟨s1', by simp only [f1], l1⟩
    · cases ev
  | .comp e i it, st, st', d, st1, np, le, ev => by
    simp only [npO, Bool.and_eq_true] at np
    simp only [evalO] at ev ⊢
    split at ev
    · rename_i xs s1 e1
      obtain ⟨s1', f1, l1⟩ := simI h it _ _ _ _ np.2 le e1
      split at ev
      · rename_i z
        split at ev
        · rename_i ds p e2
          cases ev
          obtain ⟨p', f2, l2⟩ := sim_comp (fun st st' d st1 le ev => simE h e st st' d st1 np.1 le ev) i xs _ _ _ _ l1.hush e2
          exact ⟨⟨s1'.δ, p'⟩, by simp only [f1, z, if_true, f2], l1.swap l2⟩
        · cases ev
      · cases ev
    · cases ev
/-- ends alike -/
def LeO (R : Pen → Pen → Prop) : Out → Out → Prop
  | .nx a, .nx b => Le R a b
  | .rt d p, .rt d' p' => d = d' ∧ LeP R p p'
  | _, _ => False
theorem sim_for {b : S → Option Out} {b' : S → Option Out} (ih : ∀ st st' out, Le R st st' → b st = some out → ∃ out', b' st' = some out' ∧ LeO R out out') (i : Nat) :
    ∀ xs st st' out, Le R st st' → forLoop b i xs st = some out → ∃ out', forLoop b' i xs st' = some out' ∧ LeO R out out'
  | [], st, st', out, le, ev => by
    cases ev
    exact ⟨.nx st', rfl, le⟩
  | x :: xs, st, st', out, le, ev => by
    simp only [forLoop] at ev ⊢
    split at ev
    · rename_i s1 e1
      obtain ⟨o1, f1, l1⟩ := ih _ (st'.set i x) _ (le.put i (.dat x)) e1
      cases o1 with
      | nx s1' =>
        obtain ⟨o2, f2, l2⟩ := sim_for ih i xs _ s1' _ l1 ev
        exact ⟨o2, by simp only [f1, f2], l2⟩
      | rt _ _ => exact l1.elim
    · rename_i d p e1
      cases ev
      obtain ⟨o1, f1, l1⟩ := ih _ (st'.set i x) _ (le.put i (.dat x)) e1
      cases o1 with
      | nx s1' => exact l1.elim
      | rt d' p' => exact ⟨.rt d' p', by simp only [f1], l1⟩
    · cases ev
theorem sim_while {t t' : S → Option (PyData × S)} {b b' : S → Option Out} (it : ∀ st st' d st1, Le R st st' → t st = some (d, st1) → ∃ st1', t' st' = some (d, st1') ∧ Le R st1 st1') (ih : ∀ st st' out, Le R st st' → b st = some out → ∃ out', b' st' = some out' ∧ LeO R out out') :
    ∀ n st st' out, Le R st st' → whileLoop t b n st = some out → ∃ out', whileLoop t' b' n st' = some out' ∧ LeO R out out'
  | 0, st, st', out, le, ev => by cases ev
  | n + 1, st, st', out, le, ev => by
    simp only [whileLoop] at ev ⊢
    split at ev
    · rename_i d s1 e1
      obtain ⟨s1', f1, l1⟩ := it _ _ _ _ le e1
      split at ev
      · rename_i e2
        split at ev
        · rename_i s2 e3
          obtain ⟨o3, f3, l3⟩ := ih _ _ _ l1 e3
          cases o3 with
          | nx s2' =>
            obtain ⟨o4, f4, l4⟩ := sim_while it ih n _ s2' _ l3 ev
            exact ⟨o4, by simp only [f1, e2, f3, f4], l4⟩
          | rt _ _ => exact l3.elim
        · rename_i d' p e3
          cases ev
          obtain ⟨o3, f3, l3⟩ := ih _ _ _ l1 e3
          cases o3 with
          | nx s2' => exact l3.elim
          | rt d2 p2 => exact ⟨.rt d2 p2, by simp only [f1, e2, f3], l3⟩
        · cases ev
      · rename_i e2
        cases ev
        exact ⟨.nx s1', by simp only [f1, e2], l1⟩
      · cases ev
    · cases ev
mutual
theorem simS (h : Sim R F F') : ∀ c st st' out, npS c = true → Le R st st' → evalS F c st = some out → ∃ out', evalS F' c st' = some out' ∧ LeO R out out'
  | .asg i c, st, st', out, np, le, ev => by
    simp only [npS] at np
    simp only [evalS] at ev ⊢
    split at ev
    · rename_i d s1 e1
      cases ev
      obtain ⟨s1', f1, l1⟩ := simE h c _ _ _ _ np le e1
      exact ⟨.nx (s1'.set i d), by simp only [f1], l1.put i _⟩
    · cases ev
  | .par i j a b, st, st', out, np, le, ev => by
    simp only [npS, Bool.and_eq_true] at np
    simp only [evalS] at ev ⊢
    split at ev
    · rename_i x s1 e1
      obtain ⟨s1', f1, l1⟩ := simE h a _ _ _ _ np.1 le e1
      split at ev
      · rename_i y s2 e2
        cases ev
        obtain ⟨s2', f2, l2⟩ := simE h b _ _ _ _ np.2 l1 e2
        exact ⟨.nx ((s2'.set i x).set j y), by simp only [f1, f2], (l2.put i (.dat x)).put j (.dat y)⟩
      · cases ev
    · cases ev
  | .ret c, st, st', out, np, le, ev => by
    simp only [npS] at np
    simp only [evalS] at ev ⊢
    split at ev
    · rename_i d s1 e1
      cases ev
      obtain ⟨s1', f1, l1⟩ := simE h c _ _ _ _ np le e1
      exact ⟨.rt d s1'.π, by simp only [f1], rfl, l1.pen⟩
    · cases ev
  | .ifs t a b, st, st', out, np, le, ev => by
    simp only [npS, Bool.and_eq_true] at np
    simp only [evalS] at ev ⊢
    split at ev
    · rename_i d s1 e1
      obtain ⟨s1', f1, l1⟩ := simE h t _ _ _ _ np.1 le e1
      split at ev
      · rename_i e2
        obtain ⟨o2, f2, l2⟩ := simSs h a _ _ _ np.2.1 l1 ev
        exact ⟨o2, by simp only [f1, e2, f2], l2⟩
      · rename_i e2
        obtain ⟨o2, f2, l2⟩ := simSs h b _ _ _ np.2.2 l1 ev
        exact ⟨o2, by simp only [f1, e2, f2], l2⟩
      · cases ev
    · cases ev
  | .for_ i it b, st, st', out, np, le, ev => by
    simp only [npS, Bool.and_eq_true] at np
    simp only [evalS] at ev ⊢
    split at ev
    · rename_i xs s1 e1
      obtain ⟨s1', f1, l1⟩ := simI h it _ _ _ _ np.1 le e1
      split at ev
      · rename_i z
        obtain ⟨o2, f2, l2⟩ := sim_for (fun st st' out le ev => simSs h b st st' out np.2 le ev) i xs _ _ _ l1 ev
        exact ⟨o2, by simp only [f1, z, if_true, f2], l2⟩
      · cases ev
    · cases ev
  | .expr c, st, st', out, np, le, ev => by
    simp only [npS] at np
    simp only [evalS] at ev ⊢
    split at ev
    · rename_i d s1 e1
      cases ev
      obtain ⟨s1', f1, l1⟩ := simE h c _ _ _ _ np le e1
      exact ⟨.nx s1', by simp only [f1], l1⟩
    · cases ev
  | .asgO i c, st, st', out, np, le, ev => by
    simp only [npS] at np
    simp only [evalS] at ev ⊢
    split at ev
    · rename_i d s1 e1
      cases ev
      obtain ⟨s1', f1, l1⟩ := simO h c _ _ _ _ np le e1
      exact ⟨.nx (s1'.own i d), by simp only [f1], l1.put i _⟩
    · cases ev
  | .parO i j a b, st, st', out, np, le, ev => by
    simp only [npS, Bool.and_eq_true] at np
    simp only [evalS] at ev ⊢
    split at ev
    · rename_i x s1 e1
      obtain ⟨s1', f1, l1⟩ := simO h a _ _ _ _ np.1 le e1
      split at ev
      · rename_i y s2 e2
        obtain ⟨s2', f2, l2⟩ := simO h b _ _ _ _ np.2 l1.hush e2
        split at ev
        · cases ev
        · rename_i z
          cases ev
          exact ⟨.nx ((S.own ⟨s1'.δ, s2'.π⟩ i x).own j y), by simp only [f1, f2, z, if_false], ((l1.swap l2.pen).put i (.own x)).put j (.own y)⟩
      · cases ev
    · cases ev
  | .appO i c, st, st', out, np, le, ev => by
    simp only [npS] at np
    simp only [evalS] at ev ⊢
    split at ev
    · rename_i ds0 e0
      split at ev
      · rename_i d s1 e1
        obtain ⟨s1', f1, l1⟩ := simE h c _ _ _ _ np le e1
        split at ev
        · rename_i ds e2
          split at ev
          · rename_i z
            cases ev
            exact ⟨.nx (s1'.own i (ds ++ [d])), by simp only [le.δo e0, f1, l1.δo e2, z, if_true], l1.put i _⟩
          · cases ev
        · cases ev
      · cases ev
    · cases ev
  | .while_ t b, st, st', out, np, le, ev => by
    simp only [npS, Bool.and_eq_true] at np
    simp only [evalS] at ev ⊢
    exact sim_while (fun st st' d st1 le ev => simE h t st st' d st1 np.1 le ev) (fun st st' out le ev => simSs h b st st' out np.2 le ev) _ _ _ _ le ev
theorem simSs (h : Sim R F F') : ∀ c st st' out, npSs c = true → Le R st st' → evalSs F c st = some out → ∃ out', evalSs F' c st' = some out' ∧ LeO R out out'
  | .nil, st, st', out, np, le, ev => by
    cases ev
    exact ⟨.nx st', rfl, le⟩
  | .cons s ss, st, st', out, np, le, ev => by
    simp only [npSs, Bool.and_eq_true] at np
    simp only [evalSs] at ev ⊢
    split at ev
    · rename_i s1 e1
      obtain ⟨o1, f1, l1⟩ := simS h s _ _ _ np.1 le e1
      cases o1 with
      | nx s1' =>
        obtain ⟨o2, f2, l2⟩ := simSs h ss _ _ _ np.2 l1 ev
        exact ⟨o2, by simp only [f1, f2], l2⟩
      | rt _ _ => exact l1.elim
    · rename_i d p e1
      cases ev
      obtain ⟨o1, f1, l1⟩ := simS h s _ _ _ np.1 le e1
      cases o1 with
      | nx s1' => exact l1.elim
      | rt d' p' => exact ⟨.rt d' p', by simp only [f1], l1⟩
    · cases ev
end
end
end Kd

set_option Elab.async false
set_option linter.all false
set_option maxRecDepth 100000
set_option maxHeartbeats 8000000
namespace Kd
open PySem PySem.Spec PyProof.Rows L2
/-! ### a run step by step -/
section
variable {F : Fns} {st st1 st2 st3 : S} {a b c t : C} {x y z d : PyData} {op : Operator}
theorem ev_var {i : Nat} (h : st.get i = some d) : evalE F (.var i) st = some (d, st) := by simp only [evalE, h]
theorem ev_cst : evalE F (.cst d) st = some (d, st) := rfl
theorem ev_bin (ha : evalE F a st = some (x, st1)) (hb : evalE F b st1 = some (y, st2)) (h : binD op x y = some z) : evalE F (.bin op a b) st = some (z, st2) := by simp only [evalE, ha, hb, h]
theorem ev_cmp {op : CmpOp} {r : Bool} (ha : evalE F a st = some (x, st1)) (hb : evalE F b st1 = some (y, st2)) (h : cmpD op x y = some r) : evalE F (.cmp op a b) st = some (.bool r, st2) := by simp only [evalE, ha, hb, h]
theorem ev_blt {k : Bt} (ha : evalE F a st = some (x, st1)) (h : bltD k x = some z) : evalE F (.blt k a) st = some (z, st1) := by simp only [evalE, ha, h]
theorem ev_andT {o : Option (PyData × S)} (ha : evalE F a st = some (.bool true, st1)) (hb : evalE F b st1 = o) : evalE F (.and_ a b) st = o := by simp only [evalE, ha, hb]
theorem ev_andF (ha : evalE F a st = some (.bool false, st1)) : evalE F (.and_ a b) st = some (.bool false, st1) := by simp only [evalE, ha]
theorem ev_penAt {j : Nat} {π : Pen} {k n : Int} (h1 : st.δ[j]? = some .pen) (h2 : st.π = some π) (h : evalE F c st = some (.int k, st1)) (h3 : atI π.ns k = some n) : evalE F (.penAt j c) st = some (.int n, st1) := by simp only [evalE, h1, h2, h, h3]
theorem s_asg {i : Nat} (h : evalE F a st = some (d, st1)) : evalS F (.asg i a) st = some (.nx (st1.set i d)) := by simp only [evalS, h]
theorem s_ret (h : evalE F a st = some (d, st1)) : evalS F (.ret a) st = some (.rt d st1.π) := by simp only [evalS, h]
theorem s_penS1 {j : Nat} {n : Int} {π : Pen} (h : evalE F a st = some (.int n, st1)) (h1 : st1.δ[j]? = some .pen) (h2 : st1.π = some π) : evalS F (.penS j 1 a) st = some (.nx ⟨st1.δ, some ⟨π.ns, n, π.g⟩⟩) := by simp only [evalS, h, h1, h2]
theorem s_penS2 {j : Nat} {n : Int} {π : Pen} (h : evalE F a st = some (.int n, st1)) (h1 : st1.δ[j]? = some .pen) (h2 : st1.π = some π) : evalS F (.penS j 2 a) st = some (.nx ⟨st1.δ, some ⟨π.ns, π.lap, n⟩⟩) := by simp only [evalS, h, h1, h2]
theorem s_ifT {a b : Sds} {o : Option Out} (h : evalE F t st = some (d, st1)) (ht : truthD d = some true) (ha : evalSs F a st1 = o) : evalS F (.ifs t a b) st = o := by simp only [evalS, h, ht, ha]
theorem s_ifF {a b : Sds} {o : Option Out} (h : evalE F t st = some (d, st1)) (ht : truthD d = some false) (hb : evalSs F b st1 = o) : evalS F (.ifs t a b) st = o := by simp only [evalS, h, ht, hb]
theorem ss_nx {s : Sd} {ss : Sds} {o : Option Out} (h : evalS F s st = some (.nx st1)) (r : evalSs F ss st1 = o) : evalSs F (.cons s ss) st = o := by simp only [evalSs, h, r]
theorem ss_rt {s : Sd} {ss : Sds} {p : Option Pen} (h : evalS F s st = some (.rt d p)) : evalSs F (.cons s ss) st = some (.rt d p) := by simp only [evalSs, h]
theorem ss_nil : evalSs F .nil st = some (.nx st) := rfl
end
def atS : Sds → Nat → Sd
  | .cons s _, 0 => s
  | .cons _ ss, n + 1 => atS ss n
  | .nil, _ => .ret (.cst .none)
def dropS : Sds → Nat → Sds
  | ss, 0 => ss
  | .cons _ ss, n + 1 => dropS ss n
  | .nil, _ => .nil
theorem b_add (i j : Int) : binD .Add (.int i) (.int j) = some (.int (i + j)) := rfl
theorem b_sub (i j : Int) : binD .Sub (.int i) (.int j) = some (.int (i - j)) := rfl
theorem b_multL (i j : Int) (h : -(2 ^ 64) < i ∧ i < 2 ^ 64) : binD .Mult (.int i) (.int j) = some (.int (i * j)) := if_pos (.inl h)
theorem b_multR (i j : Int) (h : -(2 ^ 64) < j ∧ j < 2 ^ 64) : binD .Mult (.int i) (.int j) = some (.int (i * j)) := if_pos (.inr h)
theorem b_fdiv (i j : Int) (h0 : 0 < j) (h1 : j < 1073741824) : binD .FloorDiv (.int i) (.int j) = some (.int (i / j)) := if_pos ⟨h0, h1⟩
theorem b_mod (i j : Int) (h0 : 0 < j) : binD .Mod (.int i) (.int j) = some (.int (i % j)) := if_pos h0
theorem b_pow {i j : Int} (n : Nat) (hj : j = n) (h : (n : Int) ≤ 1000000) (h2 : i.natAbs < 2 ^ 64) : binD .Pow (.int i) (.int j) = some (.int (i ^ n)) := by
  subst hj
  exact if_pos ⟨by omega, h, h2⟩
theorem t_bool (b : Bool) : bltD .toInt (.bool b) = some (.int (if b then 1 else 0)) := rfl
theorem t_abs (i : Int) : bltD .abs (.int i) = some (.int (if i < 0 then -i else i)) := rfl
theorem c_lt (i j : Int) : cmpD .Lt (.int i) (.int j) = some (decide (i < j)) := rfl
theorem c_gt (i j : Int) : cmpD .Gt (.int i) (.int j) = some (decide (j < i)) := rfl
theorem c_ge (i j : Int) : cmpD .GtE (.int i) (.int j) = some (decide (j ≤ i)) := rfl
theorem atI_ok {ns : List Int} {i : Int} (h0 : 0 ≤ i) (h1 : i < ns.length) : ∃ n, atI ns i = some n := by
  obtain ⟨k, rfl⟩ : ∃ k : Nat, i = k := ⟨i.toNat, by omega⟩
  have hk : k < ns.length := by omega
  refine ⟨ns[k], ?_⟩
  unfold atI ixN
  simp [hk, show ((k : Int) < ns.length) by omega]
/-! ### draws by a tape: number of ways and the draw, by turns -/
def TpR (dr : List PyData → Pen → Option (PyData × Pen)) (E : Pen → Prop) : List Int → Pen → Prop
  | [], π => E π
  | [_], _ => False
  | m :: t :: ts, π => ∃ π', dr [.int m] π = some (.int t, π') ∧ TpR dr E ts π'
def tapeF (ds : List PyData) (π : Pen) : Option (PyData × Pen) := match ds with
  | [.int m] => match π.ns with
    | m' :: t :: ts => if m' = m then some (.int t, ⟨ts, 0, 0⟩) else none
    | _ => none
  | _ => none
def TpS (dr : List PyData → Pen → Option (PyData × Pen)) (E : Pen → Prop) (π1 π2 : Pen) : Prop := TpR dr E π1.ns π2
theorem sim_tape {dr : List PyData → Pen → Option (PyData × Pen)} {E : Pen → Prop} {ds : List PyData} {π π' : Pen} {d : PyData} {π1 : Pen} (r : TpS dr E π π') (h : tapeF ds π = some (d, π1)) : ∃ π1', dr ds π' = some (d, π1') ∧ TpS dr E π1 π1' := by
  unfold tapeF at h
  split at h
  · rename_i m
    split at h
    · rename_i m' t ts e
      split at h
      · rename_i em
        cases h
        subst em
        unfold TpS at r ⊢
        rw [e] at r
        exact r
      · cases h
    · cases h
  · cases h
theorem sim_bodyP {R : Pen → Pen → Prop} {F F' : Fns} (h : Sim R F F') {c : Sds} (np : npSs c = true) {N : List Str} {ds : List PyData} {π π' : Pen} {d : PyData} {π1 : Pen} (r : R π π') (e : bodyP F c N ds π = some (d, π1)) : ∃ π1', bodyP F' c N ds π' = some (d, π1') ∧ R π1 π1' := by
  unfold bodyP at e ⊢
  have le : Le R ⟨init N (.pen :: ds.map .dat), some π⟩ ⟨init N (.pen :: ds.map .dat), some π'⟩ := ⟨rfl, fun i x h => .inr h, r⟩
  split at e
  · rename_i d' p' ev
    cases e
    obtain ⟨o, f, l⟩ := simSs h c _ _ _ np le ev
    cases o with
    | nx s => exact l.elim
    | rt d2 p2 =>
      obtain ⟨rfl, l⟩ := l
      cases p2 with
      | none => exact l.elim
      | some q => exact ⟨q, by rw [f], l⟩
  · rename_i s p' ev
    cases e
    obtain ⟨o, f, l⟩ := simSs h c _ _ _ np le ev
    cases o with
    | rt d2 p2 => exact l.elim
    | nx s2 =>
      have lp := l.pen
      obtain ⟨δ2, p2⟩ := s2
      cases p2 with
      | none => exact lp.elim
      | some q => exact ⟨q, by rw [f], lp⟩
  · cases e
/-- a pen whose laps are few -/
structure Pg (b : Int) (π : Pen) : Prop where
  lo : 0 ≤ π.lap
  hi : π.lap ≤ b
/-- what a draw does -/
def Draws (dr : List PyData → Pen → Option (PyData × Pen)) : Prop := ∀ π b m, Pg b π → b ≤ 1000000 → 0 < m → m < 1073741824 → ∃ d π', dr [.int m] π = some (.int d, π') ∧ 0 ≤ d ∧ d < m ∧ Pg (b + 1) π'
/-- numbers drawn, each below its many -/
def Low : List Int → List Int → Prop
  | [], [] => True
  | m :: ms, t :: ts => (0 ≤ t ∧ t < m) ∧ Low ms ts
  | _, _ => False
def zipT : List Int → List Int → List Int
  | m :: ms, t :: ts => m :: t :: zipT ms ts
  | _, _ => []
theorem tape_ex {dr : List PyData → Pen → Option (PyData × Pen)} (D : Draws dr) : ∀ (ms : List Int) {b : Int} {π : Pen}, Pg b π → b + ms.length ≤ 1000000 → (∀ m ∈ ms, 0 < m ∧ m < 1073741824) → ∃ ts, Low ms ts ∧ TpR dr (Pg (b + ms.length)) (zipT ms ts) π
  | [], b, π, P, _, _ => ⟨[], trivial, by show Pg _ _; simpa using P⟩
  | m :: ms, b, π, P, hb, hm => by
    simp only [List.length_cons] at hb
    have h1 := hm m (List.mem_cons_self ..)
    obtain ⟨d, π', e, d0, d1, P'⟩ := D π b m P (by omega) h1.1 h1.2
    obtain ⟨ts, l, r⟩ := tape_ex D ms P' (by omega) fun m' h' => hm m' (List.mem_cons_of_mem _ h')
    refine ⟨d :: ts, ⟨⟨d0, d1⟩, l⟩, π', e, ?_⟩
    have z : b + ((m :: ms).length : Int) = b + 1 + ms.length := by simp only [List.length_cons]; omega
    rw [z]
    exact r
/-- all rows of numbers below their many -/
def rows : List Int → List (List Int)
  | [] => [[]]
  | m :: ms => (List.range m.toNat).flatMap fun (t : Nat) => (rows ms).map fun l => (t : Int) :: l
theorem low_rows : ∀ {ms ts : List Int}, Low ms ts → ts ∈ rows ms
  | [], [], _ => List.mem_singleton.mpr rfl
  | [], _ :: _, h => h.elim
  | _ :: _, [], h => h.elim
  | m :: ms, t :: ts, ⟨h, r⟩ => by
    unfold rows
    rw [List.mem_flatMap]
    refine ⟨t.toNat, List.mem_range.mpr (by omega), ?_⟩
    rw [List.mem_map]
    exact ⟨ts, low_rows r, by rw [Int.toNat_of_nonneg h.1]⟩
end Kd

set_option Elab.async false
set_option linter.all false
set_option maxRecDepth 100000
set_option maxHeartbeats 8000000
namespace Kd
open PySem PySem.Spec PyProof.Rows L2
/-! ### defs that stand in the module -/
structure Df (K : PySem.W.Frag) (mg : Str → Option Value) (x : Str) (st : Stmt) : Prop where
  ex : ∃ f fd, mg x = some (.ref f) ∧ Fun K x x st f fd
theorem df_mk {K : PySem.W.Frag} {h : Heap} {mg : Str → Option Value} (X : K.In h) (G : h.Ns mainGlobals mg) {x : Str} {st : Stmt} {f : Addr} {oc : Value} {od an : Option Addr} {osl : Array (Option Value)} {kV doc pm cdv ct : Value}
    (a : PySem.W.nsIn K mainGlobals x = some (some (.ref f))) (l : K.lookup f = some ⟨oc, od, .func (PySem.W.fnOf x x (defArgs st) (defBody st) (defScope st) .none kV doc pm an cdv ct), osl⟩)
    (c : PySem.W.codeIn K cdv x = true) (k : PySem.W.keepIn K (.ref f) = true) : Df K mg x st := ⟨f, _, PySem.W.mg_of X G a, fun_mk l c k⟩
def BindAt (x : Str) (st : Stmt) (ps : List Str) (e : En) : Prop := ∀ (kV doc pm : Value) (an : Option Addr) (cdv ct : Value) (us ws : List Value), us.length = e.n → ws.length = e.ks.length →
  bindArgs (PySem.W.fnOf x x (defArgs st) (defBody st) (defScope st) .none kV doc pm an cdv ct) ⟨us, e.ks.zip ws⟩ = pure (ps.zip (pick e.pm (us ++ ws)))
def BindAll (x : Str) (st : Stmt) (ps : List Str) : Prop := ∀ (kV doc pm : Value) (an : Option Addr) (cdv ct : Value) (us : List Value), us.length = ps.length →
  bindArgs (PySem.W.fnOf x x (defArgs st) (defBody st) (defScope st) .none kV doc pm an cdv ct) ⟨us, []⟩ = pure (ps.zip us)
section
variable {P : Program} {w : World} {K : PySem.W.Frag} {mg : Str → Option Value} {base : Heap} {j k : Nat} {st : Stmt} {ps : List Str}
theorem fnF_of {e : En} {m0 m : List PyData → Option PyData} (D : Df K mg e.x st) (hF : ∀ f fd, Fun K e.x e.x st f fd → FG P w K mg base CX0 j f fd ps (SpF K m0)) (hj : j ≤ k) (hb : BindAt e.x st ps e) (hm : ∀ ds d, m ds = some d → m0 (pick e.pm ds) = some d) :
    FnF P w K mg base k e m := by
  obtain ⟨f, fd, h1, F⟩ := D.ex
  have G := (hF f fd F).mono hj
  have kp := F.kp
  obtain ⟨oc, od, kV, doc, pm, an, cdv, ct, osl, rfl, lk, hcd⟩ := F.ex
  exact ⟨f, _, ps, m0, h1, kp, G, hm, fun s us ws _ hu hw => .of_eq (hb kV doc pm an cdv ct us ws hu hw)⟩
theorem pfF_of {x : Str} {m : List PyData → Pen → Option (PyData × Pen)} (D : Df K mg x st) (hF : ∀ f fd, Fun K x x st f fd → FG P w K mg base CX0 j f fd ps (SpP K m)) (hj : j ≤ k) (hb : BindAll x st ps) : PfF P w K mg base k x m := by
  obtain ⟨f, fd, h1, F⟩ := D.ex
  exact ⟨f, fd, ps, h1, F.kp, (hF f fd F).mono hj, F.binds hb⟩
theorem bl_of {BL l : List Str} (T : ∀ y ∈ BL, mg y = none) (h : (l.all fun y => BL.contains y) = true) : ∀ y ∈ l, mg y = none := fun y hy => T y (by simpa using List.all_eq_true.mp h y hy)
theorem gl_str {x : Str} {s : Str} {t : Tok} (h : mg x = some (.str s t)) : ∃ v u, mg x = some u ∧ RelV v u ∧ ∀ B, Dv K B v (.str s) := ⟨.str s, _, h, ⟨t, rfl⟩, fun _ => .str s⟩
end
end Kd
namespace Kd
open PySem PySem.Spec PyProof.Rows L2
theorem gl_tup {K : PySem.W.Frag} {mg : Str → Option Value} {x : Str} {a : Addr} {od : Option Addr} {its : Array Value} {n : Nat} {sl : Array (Option Value)} {vs : List V} {ds : List PyData} (h : mg x = some (.ref a))
    (l : K.lookup a = some ⟨.type "tuple", od, .seq its n, sl⟩) (hz : its.size ≤ sizeLine) (r : Vals vs its.toList) (dv : ∀ B, DvL K B vs ds) : ∃ v u, mg x = some u ∧ RelV v u ∧ ∀ B, Dv K B v (.tuple ds) :=
  ⟨.ref a, _, h, rfl, fun B => .tup (.inr ⟨_, its, n, l, rfl, rfl, hz, r⟩) (dv B)⟩
end Kd

set_option Elab.async false
set_option linter.all false
set_option maxRecDepth 100000
set_option maxHeartbeats 8000000
namespace K01
open PySem PySem.Spec PyProof.Rows L2 Kd
def top (i : Nat) : Stmt := PySem.Challenge.pw_foreverkept_k01_checks_of_any_values.main.body.getD i (.Pass ⟨0, 0, 0, 0⟩)
abbrev s_is_integer : Stmt := top 5
def n_is_integer : List Str := ["value"]
theorem sc_is_integer : FnScope n_is_integer ["value"] (defScope s_is_integer) := ⟨rfl, rfl, rfl, by decide +kernel, rfl, by decide +kernel, by decide +kernel⟩
def g_is_integer : Gam := ⟨["isinstance", "int", "bool"], [], [], []⟩
def c_is_integer : Sds := (.cons (.ret (.and_ (.isi (.var 0) ["int"]) (.not_ (.isi (.var 0) ["bool"]))))
    .nil)
theorem k_is_integer : CorSs g_is_integer n_is_integer (defScope s_is_integer) (defBody s_is_integer) c_is_integer := (.cons (.ret (.and_ (.isi1 (.var rfl (.inl rfl) rfl rfl) rfl (by decide +kernel) rfl (by decide +kernel) (by decide +kernel) (by decide +kernel) rfl (fun _ => rfl)) (.one (.not_ (.isi1 (.var rfl (.inl rfl) rfl rfl) rfl (by decide +kernel) rfl (by decide +kernel) (by decide +kernel) (by decide +kernel) rfl (fun _ => rfl))))))
    .nil)
abbrev s_is_within : Stmt := top 6
def n_is_within : List Str := ["value", "least", "most"]
theorem sc_is_within : FnScope n_is_within ["value", "least", "most"] (defScope s_is_within) := ⟨rfl, rfl, rfl, by decide +kernel, rfl, by decide +kernel, by decide +kernel⟩
def g_is_within : Gam := ⟨[], [], [⟨"is_integer", 1, [], [0]⟩], []⟩
def c_is_within : Sds := (.cons (.ret (.and_ (.call 0 (.cons (.var 0) .nil)) (.and_ (.or_ (.cmp .Is (.var 1) (.cst .none)) (.cmp .GtE (.var 0) (.var 1))) (.or_ (.cmp .Is (.var 2) (.cst .none)) (.cmp .LtE (.var 0) (.var 2))))))
    .nil)
theorem k_is_within : CorSs g_is_within n_is_within (defScope s_is_within) (defBody s_is_within) c_is_within := (.cons (.ret (.and_ (.call (i := 0) rfl (.cons (.var rfl (.inl rfl) rfl rfl) .nil (fun _ => rfl)) rfl rfl rfl) (.and_ (.or_ (.cmp (.var rfl (.inl rfl) rfl rfl) .non (nomark _)) (.one (.cmp (.var rfl (.inl rfl) rfl rfl) (.var rfl (.inl rfl) rfl rfl) (nomark _)))) (.one (.or_ (.cmp (.var rfl (.inl rfl) rfl rfl) .non (nomark _)) (.one (.cmp (.var rfl (.inl rfl) rfl rfl) (.var rfl (.inl rfl) rfl rfl) (nomark _))))))))
    .nil)
abbrev s_is_truth : Stmt := top 7
def n_is_truth : List Str := ["value"]
theorem sc_is_truth : FnScope n_is_truth ["value"] (defScope s_is_truth) := ⟨rfl, rfl, rfl, by decide +kernel, rfl, by decide +kernel, by decide +kernel⟩
def g_is_truth : Gam := ⟨["isinstance", "bool"], [], [], []⟩
def c_is_truth : Sds := (.cons (.ret (.isi (.var 0) ["bool"]))
    .nil)
theorem k_is_truth : CorSs g_is_truth n_is_truth (defScope s_is_truth) (defBody s_is_truth) c_is_truth := (.cons (.ret (.isi1 (.var rfl (.inl rfl) rfl rfl) rfl (by decide +kernel) rfl (by decide +kernel) (by decide +kernel) (by decide +kernel) rfl (fun _ => rfl)))
    .nil)
abbrev s_is_listed : Stmt := top 8
def n_is_listed : List Str := ["value"]
theorem sc_is_listed : FnScope n_is_listed ["value"] (defScope s_is_listed) := ⟨rfl, rfl, rfl, by decide +kernel, rfl, by decide +kernel, by decide +kernel⟩
def g_is_listed : Gam := ⟨["isinstance", "list", "tuple"], [], [], []⟩
def c_is_listed : Sds := (.cons (.ret (.isi (.var 0) ["list", "tuple"]))
    .nil)
theorem k_is_listed : CorSs g_is_listed n_is_listed (defScope s_is_listed) (defBody s_is_listed) c_is_listed := (.cons (.ret (.isi2 (.var rfl (.inl rfl) rfl rfl) rfl (by decide +kernel) rfl (by decide +kernel) (by decide +kernel) (by decide +kernel) rfl rfl (by decide +kernel) (by decide +kernel) (by decide +kernel) rfl (fun _ => rfl)))
    .nil)
abbrev s_is_row : Stmt := top 9
def n_is_row : List Str := ["value", "many"]
theorem sc_is_row : FnScope n_is_row ["value", "many"] (defScope s_is_row) := ⟨rfl, rfl, rfl, by decide +kernel, rfl, by decide +kernel, by decide +kernel⟩
def g_is_row : Gam := ⟨["len"], [], [⟨"is_listed", 1, [], [0]⟩], []⟩
def c_is_row : Sds := (.cons (.ret (.and_ (.call 0 (.cons (.var 0) .nil)) (.cmp .Eq (.blt .len (.var 0)) (.var 1))))
    .nil)
theorem k_is_row : CorSs g_is_row n_is_row (defScope s_is_row) (defBody s_is_row) c_is_row := (.cons (.ret (.and_ (.call (i := 0) rfl (.cons (.var rfl (.inl rfl) rfl rfl) .nil (fun _ => rfl)) rfl rfl rfl) (.one (.cmp (.bltF rfl (.var rfl (.inl rfl) rfl rfl) rfl (by decide +kernel) (by decide +kernel) (by decide +kernel) rfl (fun _ => rfl)) (.var rfl (.inl rfl) rfl rfl) (nomark _)))))
    .nil)
abbrev s_is_name : Stmt := top 10
def n_is_name : List Str := ["value", "letter"]
theorem sc_is_name : FnScope n_is_name ["value"] (defScope s_is_name) := ⟨rfl, rfl, rfl, by decide +kernel, rfl, by decide +kernel, by decide +kernel⟩
def g_is_name : Gam := ⟨["isinstance", "str", "len", "all"], [("LETTERS", (.str "abcdefghijklmnopqrstuvwxyz"))], [], []⟩
def c_is_name : Sds := (.cons (.ret (.and_ (.isi (.var 0) ["str"]) (.and_ (.chain .LtE .LtE (.cst (.int (1))) (.blt .len (.var 0)) (.cst (.int (8)))) (.blt .all (.comp (.cmp .In (.var 1) (.glb (.str "abcdefghijklmnopqrstuvwxyz"))) 1 (.seq (.var 0)))))))
    .nil)
theorem k_is_name : CorSs g_is_name n_is_name (defScope s_is_name) (defBody s_is_name) c_is_name := (.cons (.ret (.and_ (.isi1 (.var rfl (.inl rfl) rfl rfl) rfl (by decide +kernel) rfl (by decide +kernel) (by decide +kernel) (by decide +kernel) rfl (fun _ => rfl)) (.and_ (.chain .int (.bltF rfl (.var rfl (.inl rfl) rfl rfl) rfl (by decide +kernel) (by decide +kernel) (by decide +kernel) rfl (fun _ => rfl)) .int rfl) (.one (.bltF rfl (.comp (.seq (.var rfl (.inl rfl) rfl rfl)) (blkOk_by (by decide +kernel)) rfl rfl (.cmp (.var rfl (.inl rfl) rfl rfl) (.glb 0 rfl rfl rfl) rfl) (fun _ _ => rfl)) rfl (by decide +kernel) (by decide +kernel) (by decide +kernel) rfl (fun _ => rfl))))))
    .nil)
abbrev s_are_names : Stmt := top 11
def n_are_names : List Str := ["value", "most", "name"]
theorem sc_are_names : FnScope n_are_names ["value", "most"] (defScope s_are_names) := ⟨rfl, rfl, rfl, by decide +kernel, rfl, by decide +kernel, by decide +kernel⟩
def g_are_names : Gam := ⟨["len", "set", "all"], [], [⟨"is_listed", 1, [], [0]⟩, ⟨"is_name", 1, [], [0]⟩], []⟩
def c_are_names : Sds := (.cons (.ifs (.or_ (.not_ (.call 0 (.cons (.var 0) .nil))) (.or_ (.cmp .Gt (.blt .len (.var 0)) (.var 1)) (.not_ (.blt .all (.comp (.call 1 (.cons (.var 2) .nil)) 2 (.seq (.var 0))))))) (.cons (.ret (.cst (.bool false)))
    .nil) .nil)
    (.cons (.ret (.cmp .Eq (.lset (.var 0)) (.blt .len (.var 0))))
    .nil))
theorem k_are_names : CorSs g_are_names n_are_names (defScope s_are_names) (defBody s_are_names) c_are_names := (.cons (.ifs (.bool (.or_ (.not_ (.val (.call (i := 0) rfl (.cons (.var rfl (.inl rfl) rfl rfl) .nil (fun _ => rfl)) rfl rfl rfl) (fun _ _ => rfl))) (.or_ (.cmp (.bltF rfl (.var rfl (.inl rfl) rfl rfl) rfl (by decide +kernel) (by decide +kernel) (by decide +kernel) rfl (fun _ => rfl)) (.var rfl (.inl rfl) rfl rfl) (nomark _)) (.one (.not_ (.val (.bltF rfl (.comp (.seq (.var rfl (.inl rfl) rfl rfl)) (blkOk_by (by decide +kernel)) rfl rfl (.call (i := 1) rfl (.cons (.var rfl (.inl rfl) rfl rfl) .nil (fun _ => rfl)) rfl rfl rfl) (fun _ _ => rfl)) rfl (by decide +kernel) (by decide +kernel) (by decide +kernel) rfl (fun _ => rfl)) (fun _ _ => rfl))))))) (.cons (.ret .bl)
    .nil) .nil)
    (.cons (.ret (.cmp (.lset (.var rfl (.inl rfl) rfl rfl) rfl (by decide +kernel) rfl (by decide +kernel) (fun _ => rfl)) (.bltF rfl (.var rfl (.inl rfl) rfl rfl) rfl (by decide +kernel) (by decide +kernel) (by decide +kernel) rfl (fun _ => rfl)) (nomark _)))
    .nil))
abbrev s_is_side : Stmt := top 12
def n_is_side : List Str := ["value"]
theorem sc_is_side : FnScope n_is_side ["value"] (defScope s_is_side) := ⟨rfl, rfl, rfl, by decide +kernel, rfl, by decide +kernel, by decide +kernel⟩
def g_is_side : Gam := ⟨["isinstance", "str"], [("SIDES", (.tuple [(.str "house"), (.str "world")]))], [], []⟩
def c_is_side : Sds := (.cons (.ret (.and_ (.isi (.var 0) ["str"]) (.cmp .In (.var 0) (.glb (.tuple [(.str "house"), (.str "world")])))))
    .nil)
theorem k_is_side : CorSs g_is_side n_is_side (defScope s_is_side) (defBody s_is_side) c_is_side := (.cons (.ret (.and_ (.isi1 (.var rfl (.inl rfl) rfl rfl) rfl (by decide +kernel) rfl (by decide +kernel) (by decide +kernel) (by decide +kernel) rfl (fun _ => rfl)) (.one (.cmp (.var rfl (.inl rfl) rfl rfl) (.glb 0 rfl rfl rfl) rfl))))
    .nil)
abbrev s_other_side : Stmt := top 13
def n_other_side : List Str := ["side"]
theorem sc_other_side : FnScope n_other_side ["side"] (defScope s_other_side) := ⟨rfl, rfl, rfl, by decide +kernel, rfl, by decide +kernel, by decide +kernel⟩
def g_other_side : Gam := ⟨[], [("HOUSE", (.str "house")), ("WORLD", (.str "world"))], [], []⟩
def c_other_side : Sds := (.cons (.ret (.ite (.cmp .Eq (.var 0) (.glb (.str "house"))) (.glb (.str "world")) (.glb (.str "house"))))
    .nil)
theorem k_other_side : CorSs g_other_side n_other_side (defScope s_other_side) (defBody s_other_side) c_other_side := (.cons (.ret (.ite (.cmp (.var rfl (.inl rfl) rfl rfl) (.glb 0 rfl rfl rfl) (nomark _)) (.glb 1 rfl rfl rfl) (.glb 0 rfl rfl rfl)))
    .nil)
abbrev s_law_draw : Stmt := top 16
def n_law_draw : List Str := ["pen", "many", "digit", "lap", "cell", "great", "mixed"]
theorem sc_law_draw : FnScope n_law_draw ["pen", "many"] (defScope s_law_draw) := ⟨rfl, rfl, rfl, by decide +kernel, rfl, by decide +kernel, by decide +kernel⟩
def g_law_draw : Gam := ⟨["int", "len", "abs"], [], [], []⟩
def c_law_draw : Sds := (.cons (.ifs (.cmp .Gt (.penG 0 2) (.cst (.int (0)))) (.cons (.asg 2 (.bin .Mod (.blt .toInt (.penG 0 2)) (.var 1)))
    (.cons (.penS 0 2 (.bin .FloorDiv (.blt .toInt (.penG 0 2)) (.var 1)))
    (.cons (.ret (.var 2))
    .nil))) .nil)
    (.cons (.asg 3 (.penG 0 1))
    (.cons (.penS 0 1 (.bin .Add (.var 3) (.cst (.int (1)))))
    (.cons (.asg 4 (.bin .Add (.bin .Mult (.cst (.int (41348))) (.var 3)) (.cst (.int (6192)))))
    (.cons (.ifs (.penNe 0) (.cons (.asg 4 (.penAt 0 (.bin .Mod (.blt .toInt (.var 3)) (.penLen 0))))
    .nil) .nil)
    (.cons (.ifs (.and_ (.cmp .Lt (.var 3) (.penLen 0)) (.cmp .GtE (.blt .abs (.var 4)) (.bin .Pow (.cst (.int (10))) (.cst (.int (18)))))) (.cons (.asg 5 (.bin .Add (.bin .Mult (.cst (.int (2))) (.bin .Sub (.blt .abs (.var 4)) (.bin .Pow (.cst (.int (10))) (.cst (.int (18)))))) (.blt .toInt (.cmp .Lt (.var 4) (.cst (.int (0)))))))
    (.cons (.penS 0 2 (.bin .FloorDiv (.blt .toInt (.var 5)) (.var 1)))
    (.cons (.ret (.bin .Mod (.blt .toInt (.var 5)) (.var 1)))
    .nil))) .nil)
    (.cons (.asg 6 (.bin .Mod (.blt .toInt (.bin .Pow (.bin .Add (.bin .Add (.bin .Mod (.blt .toInt (.var 4)) (.cst (.int (2147483549)))) (.bin .Mult (.cst (.int (50212))) (.var 3))) (.cst (.int (6192)))) (.cst (.int (5))))) (.cst (.int (2147483629)))))
    (.cons (.asg 6 (.bin .Mod (.blt .toInt (.bin .Pow (.bin .Add (.bin .Add (.bin .Mult (.var 6) (.bin .Add (.bin .Mult (.cst (.int (2))) (.var 3)) (.cst (.int (1214))))) (.bin .Mult (.bin .Mult (.cst (.int (90104))) (.var 3)) (.var 3))) (.cst (.int (41348)))) (.cst (.int (3))))) (.cst (.int (2147483587)))))
    (.cons (.ret (.bin .Mod (.blt .toInt (.bin .FloorDiv (.var 6) (.cst (.int (32))))) (.var 1)))
    .nil)))))))))
theorem k_law_draw : CorSs g_law_draw n_law_draw (defScope s_law_draw) (defBody s_law_draw) c_law_draw := (.cons (.ifs (.cmp (.penG (k := 2) rfl (.inl rfl) rfl rfl (.inr rfl)) .int (nomark _)) (.cons (.asg rfl (.inl rfl) (.bin (.bltT rfl (.penG (k := 2) rfl (.inl rfl) rfl rfl (.inr rfl)) rfl (by decide +kernel) (by decide +kernel) (by decide +kernel) rfl (fun _ => rfl)) (.var rfl (.inl rfl) rfl rfl)) (fun _ => rfl))
    (.cons (.penS (k := 2) rfl (.inl rfl) rfl rfl (.bin (.bltT rfl (.penG (k := 2) rfl (.inl rfl) rfl rfl (.inr rfl)) rfl (by decide +kernel) (by decide +kernel) (by decide +kernel) rfl (fun _ => rfl)) (.var rfl (.inl rfl) rfl rfl)) (.inr rfl) (fun _ => rfl) (fun _ => rfl))
    (.cons (.ret (.var rfl (.inl rfl) rfl rfl))
    .nil))) .nil)
    (.cons (.asg rfl (.inl rfl) (.penG (k := 1) rfl (.inl rfl) rfl rfl (.inl rfl)) (fun _ => rfl))
    (.cons (.penS (k := 1) rfl (.inl rfl) rfl rfl (.bin (.var rfl (.inl rfl) rfl rfl) .int) (.inl rfl) (fun _ => rfl) (fun _ => rfl))
    (.cons (.asg rfl (.inl rfl) (.bin (.bin .int (.var rfl (.inl rfl) rfl rfl)) .int) (fun _ => rfl))
    (.cons (.ifs (.penNe rfl (.inl rfl) rfl rfl) (.cons (.asg rfl (.inl rfl) (.penAt rfl (.inl rfl) rfl rfl (.bin (.bltT rfl (.var rfl (.inl rfl) rfl rfl) rfl (by decide +kernel) (by decide +kernel) (by decide +kernel) rfl (fun _ => rfl)) (.penLen rfl (.inl rfl) rfl rfl rfl (by decide +kernel))) (fun _ _ => rfl)) (fun _ => rfl))
    .nil) .nil)
    (.cons (.ifs (.bool (.and_ (.cmp (.var rfl (.inl rfl) rfl rfl) (.penLen rfl (.inl rfl) rfl rfl rfl (by decide +kernel)) (nomark _)) (.one (.cmp (.bltF rfl (.var rfl (.inl rfl) rfl rfl) rfl (by decide +kernel) (by decide +kernel) (by decide +kernel) rfl (fun _ => rfl)) (.bin .int .int) (nomark _))))) (.cons (.asg rfl (.inl rfl) (.bin (.bin .int (.bin (.bltF rfl (.var rfl (.inl rfl) rfl rfl) rfl (by decide +kernel) (by decide +kernel) (by decide +kernel) rfl (fun _ => rfl)) (.bin .int .int))) (.bltT rfl (.cmp (.var rfl (.inl rfl) rfl rfl) .int (nomark _)) rfl (by decide +kernel) (by decide +kernel) (by decide +kernel) rfl (fun _ => rfl))) (fun _ => rfl))
    (.cons (.penS (k := 2) rfl (.inl rfl) rfl rfl (.bin (.bltT rfl (.var rfl (.inl rfl) rfl rfl) rfl (by decide +kernel) (by decide +kernel) (by decide +kernel) rfl (fun _ => rfl)) (.var rfl (.inl rfl) rfl rfl)) (.inr rfl) (fun _ => rfl) (fun _ => rfl))
    (.cons (.ret (.bin (.bltT rfl (.var rfl (.inl rfl) rfl rfl) rfl (by decide +kernel) (by decide +kernel) (by decide +kernel) rfl (fun _ => rfl)) (.var rfl (.inl rfl) rfl rfl)))
    .nil))) .nil)
    (.cons (.asg rfl (.inl rfl) (.bin (.bltT rfl (.bin (.bin (.bin (.bin (.bltT rfl (.var rfl (.inl rfl) rfl rfl) rfl (by decide +kernel) (by decide +kernel) (by decide +kernel) rfl (fun _ => rfl)) .int) (.bin .int (.var rfl (.inl rfl) rfl rfl))) .int) .int) rfl (by decide +kernel) (by decide +kernel) (by decide +kernel) rfl (fun _ => rfl)) .int) (fun _ => rfl))
    (.cons (.asg rfl (.inl rfl) (.bin (.bltT rfl (.bin (.bin (.bin (.bin (.var rfl (.inl rfl) rfl rfl) (.bin (.bin .int (.var rfl (.inl rfl) rfl rfl)) .int)) (.bin (.bin .int (.var rfl (.inl rfl) rfl rfl)) (.var rfl (.inl rfl) rfl rfl))) .int) .int) rfl (by decide +kernel) (by decide +kernel) (by decide +kernel) rfl (fun _ => rfl)) .int) (fun _ => rfl))
    (.cons (.ret (.bin (.bltT rfl (.bin (.var rfl (.inl rfl) rfl rfl) .int) rfl (by decide +kernel) (by decide +kernel) (by decide +kernel) rfl (fun _ => rfl)) (.var rfl (.inl rfl) rfl rfl)))
    .nil)))))))))
abbrev s_law_pick : Stmt := top 17
def n_law_pick : List Str := ["pen", "some"]
theorem sc_law_pick : FnScope n_law_pick ["pen", "some"] (defScope s_law_pick) := ⟨rfl, rfl, rfl, by decide +kernel, rfl, by decide +kernel, by decide +kernel⟩
def g_law_pick : Gam := ⟨["len"], [], [], ["_law_draw"]⟩
def c_law_pick : Sds := (.cons (.ret (.sub (.var 1) (.pcall 0 0 (.cons (.blt .len (.var 1)) .nil))))
    .nil)
theorem k_law_pick : CorSs g_law_pick n_law_pick (defScope s_law_pick) (defBody s_law_pick) c_law_pick := (.cons (.ret (.sub (.var rfl (.inl rfl) rfl rfl) (.pcall (i := 0) rfl rfl (.inl rfl) (.cons (.bltF rfl (.var rfl (.inl rfl) rfl rfl) rfl (by decide +kernel) (by decide +kernel) (by decide +kernel) rfl (fun _ => rfl)) .nil (fun _ => rfl)) rfl rfl rfl rfl) (fun _ _ => rfl)))
    .nil)
abbrev s_law_mixed : Stmt := top 18
def n_law_mixed : List Str := ["pen", "some", "rest", "found"]
theorem sc_law_mixed : FnScope n_law_mixed ["pen", "some"] (defScope s_law_mixed) := ⟨rfl, rfl, rfl, by decide +kernel, rfl, by decide +kernel, by decide +kernel⟩
def g_law_mixed : Gam := ⟨["len", "list"], [], [], ["_law_draw"]⟩
def c_law_mixed : Sds := (.cons (.parO 2 3 (.lst (.var 1)) (.disp .nil))
    (.cons (.while_ (.neO 2) (.cons (.appO 3 (.popO 2 (.pcall 0 0 (.cons (.lenO 2) .nil))))
    .nil))
    (.cons (.ret (.frz 3))
    .nil)))
theorem k_law_mixed : CorSs g_law_mixed n_law_mixed (defScope s_law_mixed) (defBody s_law_mixed) c_law_mixed := (.cons (.parO rfl rfl (by decide) rfl rfl (.lst (.var rfl (.inl rfl) rfl rfl) rfl (by decide +kernel) (fun _ => rfl)) (.disp .nil) (fun _ => rfl) (fun _ => rfl) (fun env h => by cases env; cases h; rfl) (fun _ => rfl))
    (.cons (.while_ (.neO rfl (.inl rfl) rfl rfl) (.cons (.appO rfl (.inl rfl) rfl rfl (.popO rfl (.inl rfl) rfl rfl (.pcall (i := 0) rfl rfl (.inl rfl) (.cons (.lenO rfl (.inl rfl) rfl rfl rfl (by decide +kernel)) .nil (fun _ => rfl)) rfl rfl rfl rfl) rfl (fun _ => rfl)) rfl (fun _ => rfl))
    .nil))
    (.cons (.ret (.frz rfl (.inl rfl) rfl rfl))
    .nil)))
abbrev s_law : Stmt := top 19
def n_law : List Str := ["script", "pen", "some", "one", "whole", "listed", "named", "told", "due", "many", "least", "most", "names", "odd"]
theorem sc_law : FnScope n_law ["script"] (defScope s_law) := ⟨rfl, rfl, rfl, by decide +kernel, rfl, by decide +kernel, by decide +kernel⟩
def g_law : Gam := ⟨["len", "tuple", "repr", "isinstance", "str", "bool", "list", "int"], [], [⟨"other_side", 0, ["side"], [0]⟩, ⟨"other_side", 1, [], [0]⟩, ⟨"are_names", 2, [], [0, 1]⟩, ⟨"are_names", 0, ["most", "value"], [1, 0]⟩, ⟨"is_row", 2, [], [0, 1]⟩, ⟨"is_within", 3, [], [0, 1, 2]⟩, ⟨"is_within", 0, ["most", "least", "value"], [2, 1, 0]⟩, ⟨"is_side", 0, ["value"], [0]⟩, ⟨"is_name", 1, [], [0]⟩, ⟨"is_listed", 1, [], [0]⟩, ⟨"is_truth", 1, [], [0]⟩, ⟨"is_integer", 1, [], [0]⟩], ["_law_pick", "_law_draw", "_law_mixed"]⟩
def c_law : Sds := (.cons (.asg 2 (.lst (.cons (.cst .none) (.cons (.cst (.bool true)) (.cons (.cst (.bool false)) (.cons (.cst (.int (0))) (.cons (.cst (.int (5))) (.cons (.neg (.cst (.int (3)))) (.cons (.bin .Pow (.cst (.int (10))) (.cst (.int (50)))) (.cons (.cst (.str "")) (.cons (.cst (.str "a")) (.cons (.cst (.str "abcdefgh")) (.cons (.cst (.str "abcdefghi")) (.cons (.cst (.str "A")) (.cons (.cst (.str "a1")) (.cons (.cst (.str "a b")) (.cons (.cst (.str "zz")) (.cons (.tup .nil) (.cons (.lst .nil) (.cons (.lst (.cons (.cst (.int (1))) .nil)) (.cons (.tup (.cons (.cst (.str "a")) .nil)) (.cons (.lst (.cons (.cst (.str "a")) (.cons (.cst (.str "a")) .nil))) (.cons (.dct1 "a" (.cst (.int (1)))) (.cons (.cst (.str "house")) (.cons (.cst (.str "world")) (.cons (.cst (.str "houses")) (.cons (.lst (.cons (.cst (.str "house")) .nil)) (.cons (.tup (.cons (.cst (.int (1))) (.cons (.cst (.int (2))) .nil))) .nil))))))))))))))))))))))))))))
    (.cons (.for_ 3 (.seq (.var 2)) (.cons (.asg 4 (.and_ (.isi (.var 3) ["int"]) (.not_ (.isi (.var 3) ["bool"]))))
    (.cons (.asg 5 (.isi (.var 3) ["list", "tuple"]))
    (.cons (.asg 6 (.and_ (.isi (.var 3) ["str"]) (.cmp .In (.var 3) (.tup (.cons (.cst (.str "a")) (.cons (.cst (.str "abcdefgh")) (.cons (.cst (.str "zz")) (.cons (.cst (.str "house")) (.cons (.cst (.str "world")) (.cons (.cst (.str "houses")) .nil))))))))))
    (.cons (.asg 7 (.lst (.cons (.call 11 (.cons (.var 3) .nil)) (.cons (.call 10 (.cons (.var 3) .nil)) (.cons (.call 9 (.cons (.var 3) .nil)) (.cons (.call 8 (.cons (.var 3) .nil)) (.cons (.call 7 (.cons (.var 3) .nil)) .nil)))))))
    (.cons (.ifs (.cmp .NotEq (.blt .repr (.var 7)) (.blt .repr (.lst (.cons (.var 4) (.cons (.isi (.var 3) ["bool"]) (.cons (.var 5) (.cons (.var 6) (.cons (.and_ (.isi (.var 3) ["str"]) (.cmp .In (.var 3) (.tup (.cons (.cst (.str "house")) (.cons (.cst (.str "world")) .nil))))) .nil)))))))) (.cons (.ret (.cst (.bool false)))
    .nil) .nil)
    (.cons (.par 10 11 (.bin .Sub (.pcall 1 1 (.cons (.cst (.int (9))) .nil)) (.cst (.int (4)))) (.bin .Sub (.pcall 1 1 (.cons (.cst (.int (9))) .nil)) (.cst (.int (2)))))
    (.cons (.asg 8 (.lst (.cons (.and_ (.var 4) (.cmp .GtE (.var 3) (.var 10))) (.cons (.and_ (.var 4) (.cmp .LtE (.var 3) (.var 11))) (.cons (.and_ (.var 4) (.chain .LtE .LtE (.var 10) (.var 3) (.var 11))) (.cons (.var 4) .nil))))))
    (.cons (.ifs (.cmp .NotEq (.blt .repr (.lst (.cons (.call 5 (.cons (.var 3) (.cons (.var 10) (.cons (.cst .none) .nil)))) (.cons (.call 5 (.cons (.var 3) (.cons (.cst .none) (.cons (.var 11) .nil)))) (.cons (.call 6 (.cons (.var 11) (.cons (.var 10) (.cons (.var 3) .nil)))) (.cons (.call 5 (.cons (.var 3) (.cons (.cst .none) (.cons (.cst .none) .nil)))) .nil)))))) (.blt .repr (.var 8))) (.cons (.ret (.cst (.bool false)))
    .nil) .nil)
    (.cons (.asg 9 (.pcall 1 1 (.cons (.cst (.int (3))) .nil)))
    (.cons (.ifs (.cmp .NotEq (.blt .repr (.call 4 (.cons (.var 3) (.cons (.var 9) .nil)))) (.blt .repr (.and_ (.var 5) (.cmp .Eq (.blt .len (.var 3)) (.var 9))))) (.cons (.ret (.cst (.bool false)))
    .nil) .nil)
    .nil)))))))))))
    (.cons (.asg 12 (.upto (.pcall 2 1 (.cons (.lst (.cons (.cst (.str "a")) (.cons (.cst (.str "b")) (.cons (.cst (.str "abcdefgh")) (.cons (.cst (.str "zz")) .nil))))) .nil)) (.pcall 1 1 (.cons (.cst (.int (5))) .nil))))
    (.cons (.asg 11 (.pcall 1 1 (.cons (.cst (.int (5))) .nil)))
    (.cons (.asg 13 (.pcall 0 1 (.cons (.lst (.cons (.cat (.var 12) (.lst (.cons (.cst (.str "")) .nil))) (.cons (.cat (.var 12) (.lst (.cons (.cst (.str "a")) (.cons (.cst (.str "a")) .nil)))) (.cons (.cat (.var 12) (.lst (.cons (.cst (.int (5))) .nil))) (.cons (.cst (.str "ab")) (.cons (.cst .none) (.cons (.cat (.var 12) (.lst (.cons (.cst (.str "A")) .nil))) .nil))))))) .nil)))
    (.cons (.asg 7 (.lst (.cons (.call 2 (.cons (.var 12) (.cons (.var 11) .nil))) (.cons (.call 2 (.cons (.blt .toTup (.var 12)) (.cons (.blt .len (.var 12)) .nil))) (.cons (.call 3 (.cons (.cst (.int (9))) (.cons (.var 13) .nil))) (.cons (.call 2 (.cons (.lst .nil) (.cons (.cst (.int (0))) .nil))) .nil))))))
    (.cons (.ret (.and_ (.cmp .Eq (.var 7) (.lst (.cons (.cmp .LtE (.blt .len (.var 12)) (.var 11)) (.cons (.cst (.bool true)) (.cons (.cst (.bool false)) (.cons (.cst (.bool true)) .nil)))))) (.cmp .Eq (.lst (.cons (.call 1 (.cons (.cst (.str "house")) .nil)) (.cons (.call 0 (.cons (.cst (.str "world")) .nil)) .nil))) (.lst (.cons (.cst (.str "world")) (.cons (.cst (.str "house")) .nil))))))
    .nil)))))))
theorem k_law : CorSs g_law n_law (defScope s_law) ((defBody s_law).drop 1) c_law := (.cons (.asg rfl (.inl rfl) (.lst (.cons .non (.cons .bl (.cons .bl (.cons .int (.cons .int (.cons (.neg .int) (.cons (.bin .int .int) (.cons .str (.cons .str (.cons .str (.cons .str (.cons .str (.cons .str (.cons .str (.cons .str (.cons (.tup .nil) (.cons (.lst .nil) (.cons (.lst (.cons .int .nil (fun _ => rfl))) (.cons (.tup (.cons .str .nil (fun _ => rfl))) (.cons (.lst (.cons .str (.cons .str .nil (fun _ => rfl)) (fun _ => rfl))) (.cons (.dct1 .int) (.cons .str (.cons .str (.cons .str (.cons (.lst (.cons .str .nil (fun _ => rfl))) (.cons (.tup (.cons .int (.cons .int .nil (fun _ => rfl)) (fun _ => rfl))) .nil (fun _ => rfl)) (fun _ => rfl)) (fun _ => rfl)) (fun _ => rfl)) (fun _ => rfl)) (fun _ => rfl)) (fun _ => rfl)) (fun _ => rfl)) (fun _ => rfl)) (fun _ => rfl)) (fun _ => rfl)) (fun _ => rfl)) (fun _ => rfl)) (fun _ => rfl)) (fun _ => rfl)) (fun _ => rfl)) (fun _ => rfl)) (fun _ => rfl)) (fun _ => rfl)) (fun _ => rfl)) (fun _ => rfl)) (fun _ => rfl)) (fun _ => rfl)) (fun _ => rfl)) (fun _ => rfl)) (fun _ => rfl))) (fun _ => rfl))
    (.cons (.for_ rfl (.inl rfl) (.seq (.var rfl (.inl rfl) rfl rfl)) (.cons (.asg rfl (.inl rfl) (.and_ (.isi1 (.var rfl (.inl rfl) rfl rfl) rfl (by decide +kernel) rfl (by decide +kernel) (by decide +kernel) (by decide +kernel) rfl (fun _ => rfl)) (.one (.not_ (.isi1 (.var rfl (.inl rfl) rfl rfl) rfl (by decide +kernel) rfl (by decide +kernel) (by decide +kernel) (by decide +kernel) rfl (fun _ => rfl))))) (fun _ => rfl))
    (.cons (.asg rfl (.inl rfl) (.isi2 (.var rfl (.inl rfl) rfl rfl) rfl (by decide +kernel) rfl (by decide +kernel) (by decide +kernel) (by decide +kernel) rfl rfl (by decide +kernel) (by decide +kernel) (by decide +kernel) rfl (fun _ => rfl)) (fun _ => rfl))
    (.cons (.asg rfl (.inl rfl) (.and_ (.isi1 (.var rfl (.inl rfl) rfl rfl) rfl (by decide +kernel) rfl (by decide +kernel) (by decide +kernel) (by decide +kernel) rfl (fun _ => rfl)) (.one (.cmp (.var rfl (.inl rfl) rfl rfl) (.tup (.cons .str (.cons .str (.cons .str (.cons .str (.cons .str (.cons .str .nil (fun _ => rfl)) (fun _ => rfl)) (fun _ => rfl)) (fun _ => rfl)) (fun _ => rfl)) (fun _ => rfl))) rfl))) (fun _ => rfl))
    (.cons (.asg rfl (.inl rfl) (.lst (.cons (.call (i := 11) rfl (.cons (.var rfl (.inl rfl) rfl rfl) .nil (fun _ => rfl)) rfl rfl rfl) (.cons (.call (i := 10) rfl (.cons (.var rfl (.inl rfl) rfl rfl) .nil (fun _ => rfl)) rfl rfl rfl) (.cons (.call (i := 9) rfl (.cons (.var rfl (.inl rfl) rfl rfl) .nil (fun _ => rfl)) rfl rfl rfl) (.cons (.call (i := 8) rfl (.cons (.var rfl (.inl rfl) rfl rfl) .nil (fun _ => rfl)) rfl rfl rfl) (.cons (.callK (i := 7) rfl rfl (.cons (.var rfl (.inl rfl) rfl rfl) .nil (fun _ => rfl)) rfl rfl rfl) .nil (fun _ => rfl)) (fun _ => rfl)) (fun _ => rfl)) (fun _ => rfl)) (fun _ => rfl))) (fun _ => rfl))
    (.cons (.ifs (.cmp (.bltF rfl (.var rfl (.inl rfl) rfl rfl) rfl (by decide +kernel) (by decide +kernel) (by decide +kernel) rfl (fun _ => rfl)) (.bltF rfl (.lst (.cons (.var rfl (.inl rfl) rfl rfl) (.cons (.isi1 (.var rfl (.inl rfl) rfl rfl) rfl (by decide +kernel) rfl (by decide +kernel) (by decide +kernel) (by decide +kernel) rfl (fun _ => rfl)) (.cons (.var rfl (.inl rfl) rfl rfl) (.cons (.var rfl (.inl rfl) rfl rfl) (.cons (.and_ (.isi1 (.var rfl (.inl rfl) rfl rfl) rfl (by decide +kernel) rfl (by decide +kernel) (by decide +kernel) (by decide +kernel) rfl (fun _ => rfl)) (.one (.cmp (.var rfl (.inl rfl) rfl rfl) (.tup (.cons .str (.cons .str .nil (fun _ => rfl)) (fun _ => rfl))) rfl))) .nil (fun _ => rfl)) (fun _ => rfl)) (fun _ => rfl)) (fun _ => rfl)) (fun _ => rfl))) rfl (by decide +kernel) (by decide +kernel) (by decide +kernel) rfl (fun _ => rfl)) (nomark _)) (.cons (.ret .bl)
    .nil) .nil)
    (.cons (.par rfl rfl (by decide) rfl rfl (.bin (.pcall (i := 1) rfl rfl (.inl rfl) (.cons .int .nil (fun _ => rfl)) rfl rfl rfl rfl) .int) (.bin (.pcall (i := 1) rfl rfl (.inl rfl) (.cons .int .nil (fun _ => rfl)) rfl rfl rfl rfl) .int) (fun _ => rfl) (fun _ => rfl) (fun env h => by cases env; cases h; rfl) (fun _ => rfl))
    (.cons (.asg rfl (.inl rfl) (.lst (.cons (.and_ (.var rfl (.inl rfl) rfl rfl) (.one (.cmp (.var rfl (.inl rfl) rfl rfl) (.var rfl (.inl rfl) rfl rfl) (nomark _)))) (.cons (.and_ (.var rfl (.inl rfl) rfl rfl) (.one (.cmp (.var rfl (.inl rfl) rfl rfl) (.var rfl (.inl rfl) rfl rfl) (nomark _)))) (.cons (.and_ (.var rfl (.inl rfl) rfl rfl) (.one (.chain (.var rfl (.inl rfl) rfl rfl) (.var rfl (.inl rfl) rfl rfl) (.var rfl (.inl rfl) rfl rfl) rfl))) (.cons (.var rfl (.inl rfl) rfl rfl) .nil (fun _ => rfl)) (fun _ => rfl)) (fun _ => rfl)) (fun _ => rfl))) (fun _ => rfl))
    (.cons (.ifs (.cmp (.bltF rfl (.lst (.cons (.call (i := 5) rfl (.cons (.var rfl (.inl rfl) rfl rfl) (.cons (.var rfl (.inl rfl) rfl rfl) (.cons .non .nil (fun _ => rfl)) (fun _ => rfl)) (fun _ => rfl)) rfl rfl rfl) (.cons (.call (i := 5) rfl (.cons (.var rfl (.inl rfl) rfl rfl) (.cons .non (.cons (.var rfl (.inl rfl) rfl rfl) .nil (fun _ => rfl)) (fun _ => rfl)) (fun _ => rfl)) rfl rfl rfl) (.cons (.callK (i := 6) rfl rfl (.cons (.var rfl (.inl rfl) rfl rfl) (.cons (.var rfl (.inl rfl) rfl rfl) (.cons (.var rfl (.inl rfl) rfl rfl) .nil (fun _ => rfl)) (fun _ => rfl)) (fun _ => rfl)) rfl rfl rfl) (.cons (.call (i := 5) rfl (.cons (.var rfl (.inl rfl) rfl rfl) (.cons .non (.cons .non .nil (fun _ => rfl)) (fun _ => rfl)) (fun _ => rfl)) rfl rfl rfl) .nil (fun _ => rfl)) (fun _ => rfl)) (fun _ => rfl)) (fun _ => rfl))) rfl (by decide +kernel) (by decide +kernel) (by decide +kernel) rfl (fun _ => rfl)) (.bltF rfl (.var rfl (.inl rfl) rfl rfl) rfl (by decide +kernel) (by decide +kernel) (by decide +kernel) rfl (fun _ => rfl)) (nomark _)) (.cons (.ret .bl)
    .nil) .nil)
    (.cons (.asg rfl (.inl rfl) (.pcall (i := 1) rfl rfl (.inl rfl) (.cons .int .nil (fun _ => rfl)) rfl rfl rfl rfl) (fun _ => rfl))
    (.cons (.ifs (.cmp (.bltF rfl (.call (i := 4) rfl (.cons (.var rfl (.inl rfl) rfl rfl) (.cons (.var rfl (.inl rfl) rfl rfl) .nil (fun _ => rfl)) (fun _ => rfl)) rfl rfl rfl) rfl (by decide +kernel) (by decide +kernel) (by decide +kernel) rfl (fun _ => rfl)) (.bltF rfl (.and_ (.var rfl (.inl rfl) rfl rfl) (.one (.cmp (.bltF rfl (.var rfl (.inl rfl) rfl rfl) rfl (by decide +kernel) (by decide +kernel) (by decide +kernel) rfl (fun _ => rfl)) (.var rfl (.inl rfl) rfl rfl) (nomark _)))) rfl (by decide +kernel) (by decide +kernel) (by decide +kernel) rfl (fun _ => rfl)) (nomark _)) (.cons (.ret .bl)
    .nil) .nil)
    .nil)))))))))) (fun _ _ => rfl))
    (.cons (.asg rfl (.inl rfl) (.upto (.pcall (i := 2) rfl rfl (.inl rfl) (.cons (.lst (.cons .str (.cons .str (.cons .str (.cons .str .nil (fun _ => rfl)) (fun _ => rfl)) (fun _ => rfl)) (fun _ => rfl))) .nil (fun _ => rfl)) rfl rfl rfl rfl) (.pcall (i := 1) rfl rfl (.inl rfl) (.cons .int .nil (fun _ => rfl)) rfl rfl rfl rfl)) (fun _ => rfl))
    (.cons (.asg rfl (.inl rfl) (.pcall (i := 1) rfl rfl (.inl rfl) (.cons .int .nil (fun _ => rfl)) rfl rfl rfl rfl) (fun _ => rfl))
    (.cons (.asg rfl (.inl rfl) (.pcall (i := 0) rfl rfl (.inl rfl) (.cons (.lst (.cons (.cat (.var rfl (.inl rfl) rfl rfl) (.lst (.cons .str .nil (fun _ => rfl)))) (.cons (.cat (.var rfl (.inl rfl) rfl rfl) (.lst (.cons .str (.cons .str .nil (fun _ => rfl)) (fun _ => rfl)))) (.cons (.cat (.var rfl (.inl rfl) rfl rfl) (.lst (.cons .int .nil (fun _ => rfl)))) (.cons .str (.cons .non (.cons (.cat (.var rfl (.inl rfl) rfl rfl) (.lst (.cons .str .nil (fun _ => rfl)))) .nil (fun _ => rfl)) (fun _ => rfl)) (fun _ => rfl)) (fun _ => rfl)) (fun _ => rfl)) (fun _ => rfl))) .nil (fun _ => rfl)) rfl rfl rfl rfl) (fun _ => rfl))
    (.cons (.asg rfl (.inl rfl) (.lst (.cons (.call (i := 2) rfl (.cons (.var rfl (.inl rfl) rfl rfl) (.cons (.var rfl (.inl rfl) rfl rfl) .nil (fun _ => rfl)) (fun _ => rfl)) rfl rfl rfl) (.cons (.call (i := 2) rfl (.cons (.bltT rfl (.var rfl (.inl rfl) rfl rfl) rfl (by decide +kernel) (by decide +kernel) (by decide +kernel) rfl (fun _ => rfl)) (.cons (.bltF rfl (.var rfl (.inl rfl) rfl rfl) rfl (by decide +kernel) (by decide +kernel) (by decide +kernel) rfl (fun _ => rfl)) .nil (fun _ => rfl)) (fun _ => rfl)) rfl rfl rfl) (.cons (.callK (i := 3) rfl rfl (.cons .int (.cons (.var rfl (.inl rfl) rfl rfl) .nil (fun _ => rfl)) (fun _ => rfl)) rfl rfl rfl) (.cons (.call (i := 2) rfl (.cons (.lst .nil) (.cons .int .nil (fun _ => rfl)) (fun _ => rfl)) rfl rfl rfl) .nil (fun _ => rfl)) (fun _ => rfl)) (fun _ => rfl)) (fun _ => rfl))) (fun _ => rfl))
    (.cons (.ret (.and_ (.cmp (.var rfl (.inl rfl) rfl rfl) (.lst (.cons (.cmp (.bltF rfl (.var rfl (.inl rfl) rfl rfl) rfl (by decide +kernel) (by decide +kernel) (by decide +kernel) rfl (fun _ => rfl)) (.var rfl (.inl rfl) rfl rfl) (nomark _)) (.cons .bl (.cons .bl (.cons .bl .nil (fun _ => rfl)) (fun _ => rfl)) (fun _ => rfl)) (fun _ => rfl))) (nomark _)) (.one (.cmp (.lst (.cons (.call (i := 1) rfl (.cons .str .nil (fun _ => rfl)) rfl rfl rfl) (.cons (.callK (i := 0) rfl rfl (.cons .str .nil (fun _ => rfl)) rfl rfl rfl) .nil (fun _ => rfl)) (fun _ => rfl))) (.lst (.cons .str (.cons .str .nil (fun _ => rfl)) (fun _ => rfl))) (nomark _)))))
    .nil)))))))
end K01

set_option Elab.async false
set_option linter.all false
set_option maxRecDepth 100000
set_option maxHeartbeats 8000000
namespace K01
open PySem PySem.Spec PyProof.Rows L2 Kd
def F0 : Fns := ⟨fun _ _ => none, fun _ _ _ => none⟩
def m_law_draw (ds : List PyData) (π : Pen) : Option (PyData × Pen) := if ds.length = 1 then bodyP F0 c_law_draw n_law_draw ds π else none
def restP (o : Option Out) : Option (PyData × Pen) := match o with
        | some (.rt d (some π')) => some (d, π')
        | some (.nx ⟨_, some π'⟩) => some (.none, π')
        | _ => none
theorem pow_lt {x : Int} (h0 : 0 ≤ x) (h : x < 18446744073709551616) : x.natAbs < 2 ^ 64 := by omega
abbrev stp (ns : List Int) (lap g m cell : Int) : S := ⟨[.pen, .dat (.int m), .unk, .dat (.int lap), .dat (.int cell), .unk, .unk], some ⟨ns, lap + 1, g⟩⟩
theorem draws : Draws m_law_draw := by
  intro π b m P hb h0 h1
  obtain ⟨ns, lap, g⟩ := π
  obtain ⟨lo, hi⟩ := P
  simp only at lo hi
  have e0 : m_law_draw [.int m] ⟨ns, lap, g⟩ = restP (evalSs F0 c_law_draw ⟨[.pen, .dat (.int m), .unk, .unk, .unk, .unk, .unk], some ⟨ns, lap, g⟩⟩) := rfl
  rw [e0]
  by_cases hg : 0 < g
  · refine ⟨g % m, ⟨ns, lap, g / m⟩, ?_, Int.emod_nonneg _ (by omega), Int.emod_lt_of_pos _ h0, by show 0 ≤ lap; omega, by show lap ≤ b + 1; omega⟩
    have r : evalSs F0 c_law_draw ⟨[.pen, .dat (.int m), .unk, .unk, .unk, .unk, .unk], some ⟨ns, lap, g⟩⟩ = some (.rt (.int (g % m)) (some ⟨ns, lap, g / m⟩)) :=
      ss_rt (s_ifT (ev_cmp rfl ev_cst (c_gt _ _)) (by simp [truthD, hg]) (ss_nx (s_asg (ev_bin (ev_blt rfl rfl) (ev_var rfl) (b_mod _ _ h0))) (ss_nx (s_penS2 (ev_bin (ev_blt rfl rfl) (ev_var rfl) (b_fdiv _ _ h0 h1)) rfl rfl) (ss_rt (s_ret (ev_var rfl))))))
    rw [r]
    rfl
  · have head : ∀ o, evalSs F0 (dropS c_law_draw 4) ⟨[.pen, .dat (.int m), .unk, .dat (.int lap), .dat (.int (41348 * lap + 6192)), .unk, .unk], some ⟨ns, lap + 1, g⟩⟩ = o →
        evalSs F0 c_law_draw ⟨[.pen, .dat (.int m), .unk, .unk, .unk, .unk, .unk], some ⟨ns, lap, g⟩⟩ = o := fun o h =>
      ss_nx (s_ifF (ev_cmp rfl ev_cst (c_gt _ _)) (by simp [truthD, hg]) ss_nil) (ss_nx (s_asg rfl) (ss_nx (s_penS1 (ev_bin (ev_var rfl) ev_cst (b_add _ _)) rfl rfl)
        (ss_nx (s_asg (ev_bin (ev_bin ev_cst (ev_var rfl) (b_multL _ _ (by decide))) ev_cst (b_add _ _))) h)))
    have mid : ∃ cell, evalS F0 (atS c_law_draw 4) ⟨[.pen, .dat (.int m), .unk, .dat (.int lap), .dat (.int (41348 * lap + 6192)), .unk, .unk], some ⟨ns, lap + 1, g⟩⟩ = some (.nx ⟨[.pen, .dat (.int m), .unk, .dat (.int lap), .dat (.int cell), .unk, .unk], some ⟨ns, lap + 1, g⟩⟩) := by
      cases ns with
      | nil => exact ⟨_, s_ifF (st1 := ⟨[.pen, .dat (.int m), .unk, .dat (.int lap), .dat (.int (41348 * lap + 6192)), .unk, .unk], some ⟨[], lap + 1, g⟩⟩) (d := .bool false) rfl rfl ss_nil⟩
      | cons n0 l =>
        have hl : (0 : Int) < ((n0 :: l).length : Int) := by simp only [List.length_cons]; omega
        obtain ⟨cell, hcell⟩ := atI_ok (ns := n0 :: l) (i := lap % ((n0 :: l).length : Int)) (Int.emod_nonneg _ (by omega)) (Int.emod_lt_of_pos _ hl)
        exact ⟨cell, s_ifT (st1 := ⟨[.pen, .dat (.int m), .unk, .dat (.int lap), .dat (.int (41348 * lap + 6192)), .unk, .unk], some ⟨n0 :: l, lap + 1, g⟩⟩) (d := .bool true) rfl rfl
          (ss_nx (s_asg (ev_penAt rfl rfl (ev_bin (ev_blt (ev_var rfl) rfl) rfl (b_mod _ _ hl)) hcell)) ss_nil)⟩
    obtain ⟨cell, hm⟩ := mid
    have tail : ∃ d π', evalSs F0 (dropS c_law_draw 5) ⟨[.pen, .dat (.int m), .unk, .dat (.int lap), .dat (.int cell), .unk, .unk], some ⟨ns, lap + 1, g⟩⟩ = some (.rt (.int d) (some π')) ∧ 0 ≤ d ∧ d < m ∧ Pg (b + 1) π' := by
      have p18 : binD .Pow (.int 10) (.int 18) = some (.int (10 ^ 18)) := b_pow 18 rfl (by decide) (by decide)
      have last : ∀ o, evalSs F0 (dropS c_law_draw 6) ⟨[.pen, .dat (.int m), .unk, .dat (.int lap), .dat (.int cell), .unk, .unk], some ⟨ns, lap + 1, g⟩⟩ = o →
          evalS F0 (atS c_law_draw 5) ⟨[.pen, .dat (.int m), .unk, .dat (.int lap), .dat (.int cell), .unk, .unk], some ⟨ns, lap + 1, g⟩⟩ = some (.nx ⟨[.pen, .dat (.int m), .unk, .dat (.int lap), .dat (.int cell), .unk, .unk], some ⟨ns, lap + 1, g⟩⟩) →
          evalSs F0 (dropS c_law_draw 5) ⟨[.pen, .dat (.int m), .unk, .dat (.int lap), .dat (.int cell), .unk, .unk], some ⟨ns, lap + 1, g⟩⟩ = o := fun o h h5 => ss_nx h5 h
      have fin : ∃ d, evalSs F0 (dropS c_law_draw 6) ⟨[.pen, .dat (.int m), .unk, .dat (.int lap), .dat (.int cell), .unk, .unk], some ⟨ns, lap + 1, g⟩⟩ = some (.rt (.int d) (some ⟨ns, lap + 1, g⟩)) ∧ 0 ≤ d ∧ d < m := by
        have hx0 : 0 ≤ cell % 2147483549 := Int.emod_nonneg _ (by decide)
        have hx1 : cell % 2147483549 < 2147483549 := Int.emod_lt_of_pos _ (by decide)
        have q1 : (cell % 2147483549 + 50212 * lap + 6192).natAbs < 2 ^ 64 := pow_lt (by omega) (by omega)
        generalize hz : (cell % 2147483549 + 50212 * lap + 6192) ^ 5 % 2147483629 = z
        have hz0 : 0 ≤ z := by rw [← hz]; exact Int.emod_nonneg _ (by decide)
        have hz1 : z < 2147483629 := by rw [← hz]; exact Int.emod_lt_of_pos _ (by decide)
        have y0 : 0 ≤ z * (2 * lap + 1214) := Int.mul_nonneg hz0 (by omega)
        have y1 : z * (2 * lap + 1214) ≤ 2147483629 * 2001214 := Int.mul_le_mul (by omega) (by omega) (by omega) (by omega)
        have w0 : 0 ≤ 90104 * lap * lap := Int.mul_nonneg (by omega) lo
        have w1 : 90104 * lap * lap ≤ 90104000000 * 1000000 := Int.mul_le_mul (by omega) (by omega) lo (by omega)
        have q2 : (z * (2 * lap + 1214) + 90104 * lap * lap + 41348).natAbs < 2 ^ 64 := pow_lt (by omega) (by omega)
        refine ⟨_, ss_nx (s_asg (ev_bin (ev_blt (ev_bin (ev_bin (ev_bin (ev_bin (ev_blt (ev_var rfl) rfl) ev_cst (b_mod _ _ (by decide))) (ev_bin ev_cst (ev_var rfl) (b_multL _ _ (by decide))) (b_add _ _)) ev_cst (b_add _ _)) ev_cst (b_pow 5 rfl (by decide) q1)) rfl) ev_cst (b_mod _ _ (by decide))))
          (ss_nx (s_asg (ev_bin (ev_blt (ev_bin (ev_bin (ev_bin (ev_bin (ev_var rfl) (ev_bin (ev_bin ev_cst (ev_var rfl) (b_multL _ _ (by decide))) ev_cst (b_add _ _)) (b_multL _ _ (by rw [hz]; omega)))
            (ev_bin (ev_bin ev_cst (ev_var rfl) (b_multL _ _ (by decide))) (ev_var rfl) (b_multR _ _ (by omega))) (b_add _ _)) ev_cst (b_add _ _)) ev_cst (b_pow 3 rfl (by decide) (by rw [hz]; exact q2))) rfl) ev_cst (b_mod _ _ (by decide))))
          (ss_rt (s_ret (ev_bin (ev_blt (ev_bin (ev_var rfl) ev_cst (b_fdiv _ _ (by decide) (by decide))) rfl) (ev_var rfl) (b_mod _ _ h0))))), Int.emod_nonneg _ (by omega), Int.emod_lt_of_pos _ h0⟩
      obtain ⟨d, fd, d0, d1⟩ := fin
      have go : evalS F0 (atS c_law_draw 5) (stp ns lap g m cell) = some (.nx (stp ns lap g m cell)) → ∃ d π', evalSs F0 (dropS c_law_draw 5) (stp ns lap g m cell) = some (.rt (.int d) (some π')) ∧ 0 ≤ d ∧ d < m ∧ Pg (b + 1) π' :=
        fun h5 => ⟨d, ⟨ns, lap + 1, g⟩, last _ fd h5, d0, d1, by show 0 ≤ lap + 1; omega, by show lap + 1 ≤ b + 1; omega⟩
      by_cases hc : lap < (ns.length : Int)
      · have hA : evalE F0 (.cmp .Lt (.var 3) (.penLen 0)) (stp ns lap g m cell) = some (.bool true, stp ns lap g m cell) := by
          rw [← decide_eq_true hc]
          exact ev_cmp (ev_var rfl) rfl (c_lt _ _)
        by_cases hb : (10:Int) ^ 18 ≤ (if cell < 0 then -cell else cell)
        · have hB : evalE F0 (.cmp .GtE (.blt .abs (.var 4)) (.bin .Pow (.cst (.int (10))) (.cst (.int (18))))) (stp ns lap g m cell) = some (.bool true, stp ns lap g m cell) := by
            rw [← decide_eq_true hb]
            exact ev_cmp (ev_blt (ev_var rfl) (t_abs _)) (ev_bin ev_cst ev_cst p18) (c_ge _ _)
          have r : evalSs F0 (dropS c_law_draw 5) (stp ns lap g m cell) = some (.rt (.int ((2 * ((if cell < 0 then -cell else cell) - 10 ^ 18) + (if decide (cell < 0) then 1 else 0)) % m)) (some ⟨ns, lap + 1, (2 * ((if cell < 0 then -cell else cell) - 10 ^ 18) + (if decide (cell < 0) then 1 else 0)) / m⟩)) :=
            ss_rt (s_ifT (ev_andT hA hB) rfl
            (ss_nx (s_asg (ev_bin (ev_bin ev_cst (ev_bin (ev_blt (ev_var rfl) (t_abs _)) (ev_bin ev_cst ev_cst p18) (b_sub _ _)) (b_multL _ _ (by decide))) (ev_blt (ev_cmp (ev_var rfl) ev_cst (c_lt _ _)) (t_bool _)) (b_add _ _)))
            (ss_nx (s_penS2 (ev_bin (ev_blt (ev_var rfl) rfl) (ev_var rfl) (b_fdiv _ _ h0 h1)) rfl rfl)
            (ss_rt (s_ret (ev_bin (ev_blt (ev_var rfl) rfl) (ev_var rfl) (b_mod _ _ h0)))))))
          exact ⟨_, _, r, Int.emod_nonneg _ (by omega), Int.emod_lt_of_pos _ h0, by show 0 ≤ lap + 1; omega, by show lap + 1 ≤ b + 1; omega⟩
        · have hB : evalE F0 (.cmp .GtE (.blt .abs (.var 4)) (.bin .Pow (.cst (.int (10))) (.cst (.int (18))))) (stp ns lap g m cell) = some (.bool false, stp ns lap g m cell) := by
            rw [← decide_eq_false hb]
            exact ev_cmp (ev_blt (ev_var rfl) (t_abs _)) (ev_bin ev_cst ev_cst p18) (c_ge _ _)
          exact go (s_ifF (ev_andT hA hB) rfl ss_nil)
      · have hA : evalE F0 (.cmp .Lt (.var 3) (.penLen 0)) (stp ns lap g m cell) = some (.bool false, stp ns lap g m cell) := by
          rw [← decide_eq_false hc]
          exact ev_cmp (ev_var rfl) rfl (c_lt _ _)
        exact go (s_ifF (ev_andF hA) rfl ss_nil)
    obtain ⟨d, π', ht, q⟩ := tail
    exact ⟨d, π', by rw [head _ (ss_nx hm ht)]; rfl, q⟩
end K01

set_option Elab.async false
set_option linter.all false
set_option maxRecDepth 100000
set_option maxHeartbeats 8000000
namespace K01
open PySem PySem.Spec PyProof.Rows L2 Kd
def F_is_integer : Fns := ⟨fun _ _ => none, fun _ _ _ => none⟩
def m_is_integer (ds : List PyData) : Option PyData := if ds.length = 1 then bodyD F_is_integer c_is_integer n_is_integer ds else none
def F_is_within : Fns := ⟨fun i ds => match i with | 0 => m_is_integer (pick [0] ds) | _ => none, fun _ _ _ => none⟩
def m_is_within (ds : List PyData) : Option PyData := if ds.length = 3 then bodyD F_is_within c_is_within n_is_within ds else none
def F_is_truth : Fns := ⟨fun _ _ => none, fun _ _ _ => none⟩
def m_is_truth (ds : List PyData) : Option PyData := if ds.length = 1 then bodyD F_is_truth c_is_truth n_is_truth ds else none
def F_is_listed : Fns := ⟨fun _ _ => none, fun _ _ _ => none⟩
def m_is_listed (ds : List PyData) : Option PyData := if ds.length = 1 then bodyD F_is_listed c_is_listed n_is_listed ds else none
def F_is_row : Fns := ⟨fun i ds => match i with | 0 => m_is_listed (pick [0] ds) | _ => none, fun _ _ _ => none⟩
def m_is_row (ds : List PyData) : Option PyData := if ds.length = 2 then bodyD F_is_row c_is_row n_is_row ds else none
def F_is_name : Fns := ⟨fun _ _ => none, fun _ _ _ => none⟩
def m_is_name (ds : List PyData) : Option PyData := if ds.length = 1 then bodyD F_is_name c_is_name n_is_name ds else none
def F_are_names : Fns := ⟨fun i ds => match i with | 0 => m_is_listed (pick [0] ds) | 1 => m_is_name (pick [0] ds) | _ => none, fun _ _ _ => none⟩
def m_are_names (ds : List PyData) : Option PyData := if ds.length = 2 then bodyD F_are_names c_are_names n_are_names ds else none
def F_is_side : Fns := ⟨fun _ _ => none, fun _ _ _ => none⟩
def m_is_side (ds : List PyData) : Option PyData := if ds.length = 1 then bodyD F_is_side c_is_side n_is_side ds else none
def F_other_side : Fns := ⟨fun _ _ => none, fun _ _ _ => none⟩
def m_other_side (ds : List PyData) : Option PyData := if ds.length = 1 then bodyD F_other_side c_other_side n_other_side ds else none
def F_law_pick : Fns := ⟨fun _ _ => none, fun i ds π => match i with | 0 => m_law_draw ds π | _ => none⟩
def G_law_pick : Fns := ⟨fun _ _ => none, fun i ds π => match i with | 0 => tapeF ds π | _ => none⟩
def m_law_pick (ds : List PyData) (π : Pen) : Option (PyData × Pen) := if ds.length = 1 then bodyP F_law_pick c_law_pick n_law_pick ds π else none
def t_law_pick (ds : List PyData) (π : Pen) : Option (PyData × Pen) := if ds.length = 1 then bodyP G_law_pick c_law_pick n_law_pick ds π else none
def F_law_mixed : Fns := ⟨fun _ _ => none, fun i ds π => match i with | 0 => m_law_draw ds π | _ => none⟩
def G_law_mixed : Fns := ⟨fun _ _ => none, fun i ds π => match i with | 0 => tapeF ds π | _ => none⟩
def m_law_mixed (ds : List PyData) (π : Pen) : Option (PyData × Pen) := if ds.length = 1 then bodyP F_law_mixed c_law_mixed n_law_mixed ds π else none
def t_law_mixed (ds : List PyData) (π : Pen) : Option (PyData × Pen) := if ds.length = 1 then bodyP G_law_mixed c_law_mixed n_law_mixed ds π else none
def F_law : Fns := ⟨fun i ds => match i with | 0 => m_other_side (pick [0] ds) | 1 => m_other_side (pick [0] ds) | 2 => m_are_names (pick [0, 1] ds) | 3 => m_are_names (pick [1, 0] ds) | 4 => m_is_row (pick [0, 1] ds) | 5 => m_is_within (pick [0, 1, 2] ds) | 6 => m_is_within (pick [2, 1, 0] ds) | 7 => m_is_side (pick [0] ds) | 8 => m_is_name (pick [0] ds) | 9 => m_is_listed (pick [0] ds) | 10 => m_is_truth (pick [0] ds) | 11 => m_is_integer (pick [0] ds) | _ => none, fun i ds π => match i with | 0 => m_law_pick ds π | 1 => m_law_draw ds π | 2 => m_law_mixed ds π | _ => none⟩
def G_law : Fns := ⟨fun i ds => match i with | 0 => m_other_side (pick [0] ds) | 1 => m_other_side (pick [0] ds) | 2 => m_are_names (pick [0, 1] ds) | 3 => m_are_names (pick [1, 0] ds) | 4 => m_is_row (pick [0, 1] ds) | 5 => m_is_within (pick [0, 1, 2] ds) | 6 => m_is_within (pick [2, 1, 0] ds) | 7 => m_is_side (pick [0] ds) | 8 => m_is_name (pick [0] ds) | 9 => m_is_listed (pick [0] ds) | 10 => m_is_truth (pick [0] ds) | 11 => m_is_integer (pick [0] ds) | _ => none, fun i ds π => match i with | 0 => t_law_pick ds π | 1 => tapeF ds π | 2 => t_law_mixed ds π | _ => none⟩
theorem sim_pick {E : Pen → Prop} : Sim (TpS m_law_draw E) G_law_pick F_law_pick := ⟨fun i ds d h => h, fun i ds π π' d π1 r h => match i, h with
  | 0, h => sim_tape r h
  | _ + 1, h => nomatch h⟩
theorem sim_mixed {E : Pen → Prop} : Sim (TpS m_law_draw E) G_law_mixed F_law_mixed := ⟨fun i ds d h => h, fun i ds π π' d π1 r h => match i, h with
  | 0, h => sim_tape r h
  | _ + 1, h => nomatch h⟩
theorem sim_law {E : Pen → Prop} : Sim (TpS m_law_draw E) G_law F_law := by
  refine ⟨fun i ds d h => h, fun i ds π π' d π1 r h => ?_⟩
  match i, h with
  | 0, h =>
    have h : t_law_pick ds π = some (d, π1) := h
    unfold t_law_pick at h
    split at h
    · rename_i l
      obtain ⟨q, e, r2⟩ := sim_bodyP sim_pick (c := c_law_pick) (by decide +kernel) r h
      exact ⟨q, by show m_law_pick ds π' = _; unfold m_law_pick; rw [if_pos l]; exact e, r2⟩
    · cases h
  | 1, h => exact sim_tape r h
  | 2, h =>
    have h : t_law_mixed ds π = some (d, π1) := h
    unfold t_law_mixed at h
    split at h
    · rename_i l
      obtain ⟨q, e, r2⟩ := sim_bodyP sim_mixed (c := c_law_mixed) (by decide +kernel) r h
      exact ⟨q, by show m_law_mixed ds π' = _; unfold m_law_mixed; rw [if_pos l]; exact e, r2⟩
    · cases h
  | _ + 3, h => cases h
def items : List PyData := [.none, .bool true, .bool false, .int 0, .int 5, .int (-3), .int (10 ^ 50), .str "", .str "a", .str "abcdefgh", .str "abcdefghi", .str "A", .str "a1", .str "a b", .str "zz", .tuple [], .list [], .list [.int 1], .tuple [.str "a"], .list [.str "a", .str "a"], .dict [(.str "a", .int 1)],
  .str "house", .str "world", .str "houses", .list [.str "house"], .tuple [.int 1, .int 2]]
def loopB : Sds := match atS c_law 1 with | .for_ _ _ b => b | _ => .nil
def src (l : List Int) : S := ⟨SD.unk :: SD.pen :: List.replicate 12 SD.unk, some ⟨l, 0, 0⟩⟩
def okIt (d : PyData) (ts : List Int) : Bool := match evalSs G_law loopB ((src (zipT [9, 9, 3] ts)).set 3 d) with
  | some (.nx ⟨δ, some π⟩) => (match (δ[1]? : Option SD) with | some SD.pen => true | _ => false) && π.ns.isEmpty && δ.length == 14
  | _ => false
def okEnd (ts : List Int) : Bool := match evalSs G_law (dropS c_law 2) (src (zipT [4, 3, 2, 1, 5, 5, 6] ts)) with
  | some (.rt (.bool true) (some π)) => π.ns.isEmpty
  | _ => false
theorem ev_items (st : S) : evalS F_law (atS c_law 0) st = some (.nx (st.set 2 (.list items))) := rfl
end K01

set_option Elab.async false
set_option linter.all false
set_option maxRecDepth 100000
set_option maxHeartbeats 80000000
namespace K01
open PySem PySem.Spec PyProof.Rows L2 Kd
def itOk (i : Nat) : Bool := (rows [9, 9, 3]).all fun ts => match items[i]? with | some d => okIt d ts | none => false
def enOk (a b c : Nat) : Bool := (rows [5, 5, 6]).all fun ts => okEnd ((a : Int) :: (b : Int) :: (c : Int) :: 0 :: ts)
theorem items_len : items.length = 26 := by decide +kernel
theorem it0 : itOk 0 = true := by decide +kernel
theorem it1 : itOk 1 = true := by decide +kernel
theorem it2 : itOk 2 = true := by decide +kernel
theorem it3 : itOk 3 = true := by decide +kernel
theorem it4 : itOk 4 = true := by decide +kernel
theorem it5 : itOk 5 = true := by decide +kernel
theorem it6 : itOk 6 = true := by decide +kernel
theorem it7 : itOk 7 = true := by decide +kernel
theorem it8 : itOk 8 = true := by decide +kernel
theorem it9 : itOk 9 = true := by decide +kernel
theorem it10 : itOk 10 = true := by decide +kernel
theorem it11 : itOk 11 = true := by decide +kernel
theorem it12 : itOk 12 = true := by decide +kernel
theorem it13 : itOk 13 = true := by decide +kernel
theorem it14 : itOk 14 = true := by decide +kernel
theorem it15 : itOk 15 = true := by decide +kernel
theorem it16 : itOk 16 = true := by decide +kernel
theorem it17 : itOk 17 = true := by decide +kernel
theorem it18 : itOk 18 = true := by decide +kernel
theorem it19 : itOk 19 = true := by decide +kernel
theorem it20 : itOk 20 = true := by decide +kernel
theorem it21 : itOk 21 = true := by decide +kernel
theorem it22 : itOk 22 = true := by decide +kernel
theorem it23 : itOk 23 = true := by decide +kernel
theorem it24 : itOk 24 = true := by decide +kernel
theorem it25 : itOk 25 = true := by decide +kernel
theorem en000 : enOk 0 0 0 = true := by decide +kernel
theorem en001 : enOk 0 0 1 = true := by decide +kernel
theorem en010 : enOk 0 1 0 = true := by decide +kernel
theorem en011 : enOk 0 1 1 = true := by decide +kernel
theorem en020 : enOk 0 2 0 = true := by decide +kernel
theorem en021 : enOk 0 2 1 = true := by decide +kernel
theorem en100 : enOk 1 0 0 = true := by decide +kernel
theorem en101 : enOk 1 0 1 = true := by decide +kernel
theorem en110 : enOk 1 1 0 = true := by decide +kernel
theorem en111 : enOk 1 1 1 = true := by decide +kernel
theorem en120 : enOk 1 2 0 = true := by decide +kernel
theorem en121 : enOk 1 2 1 = true := by decide +kernel
theorem en200 : enOk 2 0 0 = true := by decide +kernel
theorem en201 : enOk 2 0 1 = true := by decide +kernel
theorem en210 : enOk 2 1 0 = true := by decide +kernel
theorem en211 : enOk 2 1 1 = true := by decide +kernel
theorem en220 : enOk 2 2 0 = true := by decide +kernel
theorem en221 : enOk 2 2 1 = true := by decide +kernel
theorem en300 : enOk 3 0 0 = true := by decide +kernel
theorem en301 : enOk 3 0 1 = true := by decide +kernel
theorem en310 : enOk 3 1 0 = true := by decide +kernel
theorem en311 : enOk 3 1 1 = true := by decide +kernel
theorem en320 : enOk 3 2 0 = true := by decide +kernel
theorem en321 : enOk 3 2 1 = true := by decide +kernel
theorem its : ∀ i : Nat, i < 26 → itOk i = true
  | 0, _ => it0
  | 1, _ => it1
  | 2, _ => it2
  | 3, _ => it3
  | 4, _ => it4
  | 5, _ => it5
  | 6, _ => it6
  | 7, _ => it7
  | 8, _ => it8
  | 9, _ => it9
  | 10, _ => it10
  | 11, _ => it11
  | 12, _ => it12
  | 13, _ => it13
  | 14, _ => it14
  | 15, _ => it15
  | 16, _ => it16
  | 17, _ => it17
  | 18, _ => it18
  | 19, _ => it19
  | 20, _ => it20
  | 21, _ => it21
  | 22, _ => it22
  | 23, _ => it23
  | 24, _ => it24
  | 25, _ => it25
  | n + 26, h => absurd h (by omega)
theorem ens : ∀ a b c : Nat, a < 4 → b < 3 → c < 2 → enOk a b c = true
  | 0, 0, 0, _, _, _ => en000
  | 0, 0, 1, _, _, _ => en001
  | 0, 1, 0, _, _, _ => en010
  | 0, 1, 1, _, _, _ => en011
  | 0, 2, 0, _, _, _ => en020
  | 0, 2, 1, _, _, _ => en021
  | 1, 0, 0, _, _, _ => en100
  | 1, 0, 1, _, _, _ => en101
  | 1, 1, 0, _, _, _ => en110
  | 1, 1, 1, _, _, _ => en111
  | 1, 2, 0, _, _, _ => en120
  | 1, 2, 1, _, _, _ => en121
  | 2, 0, 0, _, _, _ => en200
  | 2, 0, 1, _, _, _ => en201
  | 2, 1, 0, _, _, _ => en210
  | 2, 1, 1, _, _, _ => en211
  | 2, 2, 0, _, _, _ => en220
  | 2, 2, 1, _, _, _ => en221
  | 3, 0, 0, _, _, _ => en300
  | 3, 0, 1, _, _, _ => en301
  | 3, 1, 0, _, _, _ => en310
  | 3, 1, 1, _, _, _ => en311
  | 3, 2, 0, _, _, _ => en320
  | 3, 2, 1, _, _, _ => en321
  | a + 4, _, _, h, _, _ => absurd h (by omega)
  | _, b + 3, _, _, h, _ => absurd h (by omega)
  | _, _, c + 2, _, _, h => absurd h (by omega)
end K01

set_option Elab.async false
set_option linter.all false
set_option maxRecDepth 100000
set_option maxHeartbeats 80000000
namespace K01
open PySem PySem.Spec PyProof.Rows L2 Kd
def Inv (b : Int) (st : S) : Prop := ∃ π, st.π = some π ∧ Pg b π ∧ st.δ.length = 14 ∧ st.δ[1]? = some .pen
theorem le_src {E : Pen → Prop} {l : List Int} {st : S} {π : Pen} (hp : st.π = some π) (len : st.δ.length = 14) (h1 : st.δ[1]? = some .pen) (r : TpR m_law_draw E l π) : Le (TpS m_law_draw E) (src l) st := by
  refine ⟨by rw [len]; rfl, fun i x h => ?_, by rw [hp]; exact r⟩
  match i with
  | 0 => exact .inl (Option.some.inj h).symm
  | 1 => exact .inr (h1.trans h)
  | i + 2 =>
    have h : (List.replicate 12 SD.unk)[i]? = some x := h
    rw [List.getElem?_replicate] at h
    split at h
    · exact .inl (Option.some.inj h).symm
    · cases h
theorem it_step {b : Int} {st : S} {d : PyData} (I : Inv b st) (hb : b + 3 ≤ 1000000) (hd : d ∈ items) : ∃ st', evalSs F_law loopB (st.set 3 d) = some (.nx st') ∧ Inv (b + 3) st' := by
  obtain ⟨π, hp, P, len, h1⟩ := I
  obtain ⟨ts, low, r⟩ := tape_ex draws [9, 9, 3] P (by simpa using hb) (by decide)
  obtain ⟨i, hi⟩ := List.mem_iff_getElem?.mp hd
  have hi26 : i < 26 := by
    have := (List.getElem?_eq_some_iff.mp hi).1
    rwa [items_len] at this
  have ok := List.all_eq_true.mp (its i hi26) ts (low_rows low)
  rw [hi] at ok
  have ok : okIt d ts = true := ok
  unfold okIt at ok
  split at ok
  · rename_i δ p ev
    simp only [Bool.and_eq_true, beq_iff_eq] at ok
    obtain ⟨⟨o1, o2⟩, o3⟩ := ok
    obtain ⟨o', f, l⟩ := simSs (sim_law (E := Pg (b + 3))) loopB _ (st.set 3 d) _ (by decide +kernel) ((le_src hp len h1 r).put 3 (.dat d)) ev
    cases o' with
    | rt _ _ => exact l.elim
    | nx st' =>
      refine ⟨st', f, ?_⟩
      have lp := l.pen
      cases e : st'.π with
      | none => rw [e] at lp; exact lp.elim
      | some q =>
        rw [e] at lp
        have lp : TpR m_law_draw (Pg (b + 3)) p.ns q := lp
        rw [List.isEmpty_iff.mp o2] at lp
        refine ⟨q, e, lp, by rw [← l.len]; exact o3, l.δp ?_⟩
        split at o1
        · assumption
        · cases o1
  · cases ok
theorem it_loop : ∀ (l : List PyData) (b : Int) (st : S), (∀ d ∈ l, d ∈ items) → Inv b st → b + 3 * l.length ≤ 1000000 → ∃ st', forLoop (evalSs F_law loopB) 3 l st = some (.nx st') ∧ Inv (b + 3 * l.length) st'
  | [], b, st, _, I, _ => ⟨st, rfl, by simpa using I⟩
  | d :: l, b, st, h, I, hb => by
    simp only [List.length_cons] at hb ⊢
    obtain ⟨st1, e1, I1⟩ := it_step I (by omega) (h d (List.mem_cons_self ..))
    obtain ⟨st2, e2, I2⟩ := it_loop l (b + 3) st1 (fun d' h' => h d' (List.mem_cons_of_mem _ h')) I1 (by omega)
    refine ⟨st2, by simp only [forLoop, e1, e2], ?_⟩
    have z : b + 3 * ((l.length + 1 : Nat) : Int) = b + 3 + 3 * l.length := by omega
    rw [z]
    exact I2
theorem end_step {b : Int} {st : S} (I : Inv b st) (hb : b + 7 ≤ 1000000) : ∃ q, evalSs F_law (dropS c_law 2) st = some (.rt (.bool true) (some q)) := by
  obtain ⟨π, hp, P, len, h1⟩ := I
  obtain ⟨ts, low, r⟩ := tape_ex draws [4, 3, 2, 1, 5, 5, 6] P (by simpa using hb) (by decide)
  have ok : okEnd ts = true := by
    match ts, low with
    | a :: b :: c :: d :: l, ⟨h1, h2, h3, h4, low⟩ =>
      obtain ⟨a, rfl⟩ : ∃ k : Nat, a = k := ⟨a.toNat, by omega⟩
      obtain ⟨b, rfl⟩ : ∃ k : Nat, b = k := ⟨b.toNat, by omega⟩
      obtain ⟨c, rfl⟩ : ∃ k : Nat, c = k := ⟨c.toNat, by omega⟩
      obtain rfl : d = 0 := by omega
      exact List.all_eq_true.mp (ens a b c (by omega) (by omega) (by omega)) l (low_rows low)
  unfold okEnd at ok
  split at ok
  · rename_i p ev
    obtain ⟨o', f, l⟩ := simSs (sim_law (E := Pg (b + 7))) (dropS c_law 2) _ st _ (by decide +kernel) (le_src hp len h1 r) ev
    cases o' with
    | nx _ => exact l.elim
    | rt d' p' =>
      obtain ⟨rfl, l⟩ := l
      cases p' with
      | none => exact l.elim
      | some q => exact ⟨q, f⟩
  · cases ok
theorem law_plain {st : S} (I : Inv 0 st) : ∃ q, evalSs F_law c_law st = some (.rt (.bool true) (some q)) := by
  obtain ⟨π, hp, P, len, h1⟩ := I
  have I2 : Inv 0 (st.set 2 (.list items)) := by
    refine ⟨π, hp, P, by simpa [S.set] using len, ?_⟩
    show (st.δ.set 2 _)[1]? = _
    rw [List.getElem?_set_ne (by decide)]
    exact h1
  obtain ⟨st3, e3, I3⟩ := it_loop items 0 _ (fun d h => h) I2 (by rw [items_len]; decide)
  obtain ⟨q, e4⟩ := end_step I3 (by rw [items_len]; decide)
  refine ⟨q, ss_nx (ev_items st) (ss_nx (st1 := st3) ?_ e4)⟩
  have g2 : (st.set 2 (.list items)).get 2 = some (.list items) := by
    unfold S.get S.set
    rw [List.getElem?_set_self (by rw [len]; decide)]
  show evalS F_law (.for_ 3 (.seq (.var 2)) loopB) _ = _
  have s26 : small items.length = true := by rw [items_len]; rfl
  simp only [evalS, evalI, evalE, g2, itemsD, s26, if_true, e3]
end K01

set_option Elab.async false
set_option linter.all false
set_option maxRecDepth 100000
set_option maxHeartbeats 8000000
namespace K01
open PySem PySem.Spec PyProof.Rows L2 Kd
abbrev s_pen : Stmt := top 15
def n_pen : List Str := ["script", "cell"]
theorem sc_pen : FnScope n_pen ["script"] (defScope s_pen) := ⟨rfl, rfl, rfl, by decide +kernel, rfl, by decide +kernel, by decide +kernel⟩
def spPen (K : PySem.W.Frag) : Sp := fun vs H Q _ => ∃ (a : Addr) (ns : List Int), vs = [.ref a] ∧ SqL K H a (ns.map V.int) ∧ ns.length ≤ 63 ∧
  ∀ q p H', H q = none → H p = none → p ≠ q → Same H H' → H' q = some (.lst (ns.map V.int)) → H' p = some (.lst [.ref q, .int 0, .int 0]) → Q (.ref p) H'
theorem ok_lawpen {P : Program} {w : World} {K : PySem.W.Frag} {mg : Str → Option Value} {base : Heap} {f : Addr} {fd : FuncData} (F : Fun K "_law_pen" "_law_pen" s_pen f fd) (mi : mg "int" = none) :
    FnOk P w K mg base CX0 1 f fd ["script"] (spPen K) := by
  refine F.ok sc_pen (fun vs H Q E h => ?_) fun cdv A outer s H vs Q E hr h => ?_
  · obtain ⟨a, ns, rfl, _⟩ := h
    rfl
  · obtain ⟨a, ns, rfl, hS, hl, k⟩ := h
    refine ⟨_, pss_one (ps_ret (pe_lst (pa_cons (pe_lc (own := [("cell", 1)]) rfl sc_pen.nd (pi_list (pe_slice sl_list (pv 0) po_none (po_some pe_int))) (by exact blkOk_by (N := n_pen) (sc := defScope s_pen) (by decide +kernel))
      (fun s H' C cl fp => pg_name (i := 1) sc_pen.nd rfl (.inl rfl) (.inr rfl)) (fun _ _ _ _ _ => pts_nil)
      (fun s H' C cl fp => pe_callTy call_int1 (by rfl) mi PyProof.Rows.boot_int (pa_cons (pv 1) pa_nil))) (pa_cons pe_int (pa_cons pe_int pa_nil))))), ?_⟩
    refine ⟨.ref a, rfl, 63, rfl, a, _, rfl, hS, fun p hp => ⟨p, rfl, ⟨_, .of upd_same⟩, fun D hD => ?_⟩⟩
    have ex : cutV (ns.map V.int) none (some 63) = ns.map V.int := by
      rw [cut_upto _ (by decide)]
      exact List.take_of_length_le (by simpa using hl)
    rw [ex] at hD ⊢
    have np : D ≠ p := by
      intro z
      subst z
      rw [upd_same] at hD
      cases hD
    have hD0 : H D = none := by rw [upd_ne np] at hD; exact hD
    refine lc_list (K := K) (a := p) (xs := ns.map V.int) (fun i H' => H' D = some (.lst ((ns.map V.int).take i)) ∧ Same H H' ∧ H' p = some (.lst (ns.map V.int))) ⟨upd_same, fun b o hb => ?_, ?_⟩ (fun i H' _ h => .of h.2.2) ?_ ?_
    · rw [upd_ne (ne_of_none hb hD0), upd_ne (ne_of_none hb hp)]
      exact hb
    · rw [upd_ne np.symm, upd_same]
    · rintro i x H' hx ⟨h1, h2, h3⟩
      obtain ⟨n, _, rfl⟩ : ∃ n, n ∈ ns ∧ V.int n = x := by
        have := List.mem_of_getElem? hx
        simpa using this
      have hil : i < (ns.map V.int).length := (List.getElem?_eq_some_iff.mp hx).1
      refine ⟨rfl, _, rfl, .inl ⟨n, rfl, _, h1, ?_, ?_, fun b o hb => ?_, ?_⟩⟩
      · rw [List.length_take]
        have : (ns.map V.int).length ≤ 63 := by simpa using hl
        unfold sizeLine
        omega
      · rw [upd_same, List.take_add_one, hx]
        rfl
      · rw [upd_ne (ne_of_none hb hD0)]
        exact h2 b o hb
      · rw [upd_ne np.symm]
        exact h3
    · rintro H' ⟨h1, h2, h3⟩
      refine ⟨(by show 3 ≤ sizeLine; decide), fun P hP => ?_⟩
      have nPD : P ≠ D := by
        intro z; subst z; rw [h1] at hP; cases hP
      refine k D P _ hD0 ?_ nPD (fun b o hb => ?_) ?_ upd_same
      · cases e : H P with
        | none => rfl
        | some o => rw [h2 P o e] at hP; cases hP
      · rw [upd_ne (ne_of_none (h2 b o hb) hP)]
        exact h2 b o hb
      · rw [upd_ne nPD.symm, h1, List.take_of_length_le (Nat.le_refl _)]
end K01

set_option Elab.async false
set_option linter.all false
set_option maxRecDepth 100000
set_option maxHeartbeats 8000000
namespace K01
open PySem PySem.Spec PyProof.Rows L2 Kd
def BL : List Str := ["abs", "all", "bool", "int", "isinstance", "len", "list", "repr", "set", "str", "tuple"]
structure Txt (K : PySem.W.Frag) (mg : Str → Option Value) : Prop where
  bl : ∀ y ∈ BL, mg y = none
  c_HOUSE : ∃ v u, mg "HOUSE" = some u ∧ RelV v u ∧ ∀ B, Dv K B v (.str "house")
  c_LETTERS : ∃ v u, mg "LETTERS" = some u ∧ RelV v u ∧ ∀ B, Dv K B v (.str "abcdefghijklmnopqrstuvwxyz")
  c_SIDES : ∃ v u, mg "SIDES" = some u ∧ RelV v u ∧ ∀ B, Dv K B v (.tuple [(.str "house"), (.str "world")])
  c_WORLD : ∃ v u, mg "WORLD" = some u ∧ RelV v u ∧ ∀ B, Dv K B v (.str "world")
  d_is_integer : Df K mg "is_integer" s_is_integer
  d_is_within : Df K mg "is_within" s_is_within
  d_is_truth : Df K mg "is_truth" s_is_truth
  d_is_listed : Df K mg "is_listed" s_is_listed
  d_is_row : Df K mg "is_row" s_is_row
  d_is_name : Df K mg "is_name" s_is_name
  d_are_names : Df K mg "are_names" s_are_names
  d_is_side : Df K mg "is_side" s_is_side
  d_other_side : Df K mg "other_side" s_other_side
  d_law_draw : Df K mg "_law_draw" s_law_draw
  d_law_pick : Df K mg "_law_pick" s_law_pick
  d_law_mixed : Df K mg "_law_mixed" s_law_mixed
  d_pen : Df K mg "_law_pen" s_pen
section
variable {P : Program} {w : World} {K : PySem.W.Frag} {mg : Str → Option Value} {base : Heap}
theorem fg_is_integer (T : Txt K mg) (f : Addr) (fd : FuncData) (F : Fun K "is_integer" "is_integer" s_is_integer f fd) : FG P w K mg base CX0 1 f fd ["value"] (SpF K m_is_integer) :=
  fg_pure (F := F_is_integer) F sc_is_integer k_is_integer ⟨bl_of T.bl (by decide +kernel),
    fun i x d h => by simp [g_is_integer] at h,
    fun i e h => by simp [g_is_integer] at h,
    fun i e h => by simp [g_is_integer] at h⟩ (by decide) fun ds d h => by
    unfold m_is_integer at h
    split at h
    · rename_i l
      exact ⟨l, h⟩
    · cases h
theorem fg_is_within (T : Txt K mg) (f : Addr) (fd : FuncData) (F : Fun K "is_within" "is_within" s_is_within f fd) : FG P w K mg base CX0 2 f fd ["value", "least", "most"] (SpF K m_is_within) :=
  fg_pure (F := F_is_within) F sc_is_within k_is_within ⟨bl_of T.bl (by decide +kernel),
    fun i x d h => by simp [g_is_within] at h,
    fun i e h => match i, h with
      | 0, h => by cases h; exact fnF_of T.d_is_integer (fg_is_integer T) (by decide) (fun _ _ _ _ _ _ us ws hu hw => match us, ws, hu, hw with | [u0], [], _, _ => rfl) (fun _ _ h => h)
      | n + 1, h => by simp [g_is_within] at h,
    fun i e h => by simp [g_is_within] at h⟩ (by decide) fun ds d h => by
    unfold m_is_within at h
    split at h
    · rename_i l
      exact ⟨l, h⟩
    · cases h
theorem fg_is_truth (T : Txt K mg) (f : Addr) (fd : FuncData) (F : Fun K "is_truth" "is_truth" s_is_truth f fd) : FG P w K mg base CX0 1 f fd ["value"] (SpF K m_is_truth) :=
  fg_pure (F := F_is_truth) F sc_is_truth k_is_truth ⟨bl_of T.bl (by decide +kernel),
    fun i x d h => by simp [g_is_truth] at h,
    fun i e h => by simp [g_is_truth] at h,
    fun i e h => by simp [g_is_truth] at h⟩ (by decide) fun ds d h => by
    unfold m_is_truth at h
    split at h
    · rename_i l
      exact ⟨l, h⟩
    · cases h
theorem fg_is_listed (T : Txt K mg) (f : Addr) (fd : FuncData) (F : Fun K "is_listed" "is_listed" s_is_listed f fd) : FG P w K mg base CX0 1 f fd ["value"] (SpF K m_is_listed) :=
  fg_pure (F := F_is_listed) F sc_is_listed k_is_listed ⟨bl_of T.bl (by decide +kernel),
    fun i x d h => by simp [g_is_listed] at h,
    fun i e h => by simp [g_is_listed] at h,
    fun i e h => by simp [g_is_listed] at h⟩ (by decide) fun ds d h => by
    unfold m_is_listed at h
    split at h
    · rename_i l
      exact ⟨l, h⟩
    · cases h
theorem fg_is_row (T : Txt K mg) (f : Addr) (fd : FuncData) (F : Fun K "is_row" "is_row" s_is_row f fd) : FG P w K mg base CX0 2 f fd ["value", "many"] (SpF K m_is_row) :=
  fg_pure (F := F_is_row) F sc_is_row k_is_row ⟨bl_of T.bl (by decide +kernel),
    fun i x d h => by simp [g_is_row] at h,
    fun i e h => match i, h with
      | 0, h => by cases h; exact fnF_of T.d_is_listed (fg_is_listed T) (by decide) (fun _ _ _ _ _ _ us ws hu hw => match us, ws, hu, hw with | [u0], [], _, _ => rfl) (fun _ _ h => h)
      | n + 1, h => by simp [g_is_row] at h,
    fun i e h => by simp [g_is_row] at h⟩ (by decide) fun ds d h => by
    unfold m_is_row at h
    split at h
    · rename_i l
      exact ⟨l, h⟩
    · cases h
theorem fg_is_name (T : Txt K mg) (f : Addr) (fd : FuncData) (F : Fun K "is_name" "is_name" s_is_name f fd) : FG P w K mg base CX0 1 f fd ["value"] (SpF K m_is_name) :=
  fg_pure (F := F_is_name) F sc_is_name k_is_name ⟨bl_of T.bl (by decide +kernel),
    fun i x d h => match i, h with
      | 0, h => by cases h; exact T.c_LETTERS
      | n + 1, h => by simp [g_is_name] at h,
    fun i e h => by simp [g_is_name] at h,
    fun i e h => by simp [g_is_name] at h⟩ (by decide) fun ds d h => by
    unfold m_is_name at h
    split at h
    · rename_i l
      exact ⟨l, h⟩
    · cases h
theorem fg_are_names (T : Txt K mg) (f : Addr) (fd : FuncData) (F : Fun K "are_names" "are_names" s_are_names f fd) : FG P w K mg base CX0 2 f fd ["value", "most"] (SpF K m_are_names) :=
  fg_pure (F := F_are_names) F sc_are_names k_are_names ⟨bl_of T.bl (by decide +kernel),
    fun i x d h => by simp [g_are_names] at h,
    fun i e h => match i, h with
      | 0, h => by cases h; exact fnF_of T.d_is_listed (fg_is_listed T) (by decide) (fun _ _ _ _ _ _ us ws hu hw => match us, ws, hu, hw with | [u0], [], _, _ => rfl) (fun _ _ h => h)
      | 1, h => by cases h; exact fnF_of T.d_is_name (fg_is_name T) (by decide) (fun _ _ _ _ _ _ us ws hu hw => match us, ws, hu, hw with | [u0], [], _, _ => rfl) (fun _ _ h => h)
      | n + 2, h => by simp [g_are_names] at h,
    fun i e h => by simp [g_are_names] at h⟩ (by decide) fun ds d h => by
    unfold m_are_names at h
    split at h
    · rename_i l
      exact ⟨l, h⟩
    · cases h
theorem fg_is_side (T : Txt K mg) (f : Addr) (fd : FuncData) (F : Fun K "is_side" "is_side" s_is_side f fd) : FG P w K mg base CX0 1 f fd ["value"] (SpF K m_is_side) :=
  fg_pure (F := F_is_side) F sc_is_side k_is_side ⟨bl_of T.bl (by decide +kernel),
    fun i x d h => match i, h with
      | 0, h => by cases h; exact T.c_SIDES
      | n + 1, h => by simp [g_is_side] at h,
    fun i e h => by simp [g_is_side] at h,
    fun i e h => by simp [g_is_side] at h⟩ (by decide) fun ds d h => by
    unfold m_is_side at h
    split at h
    · rename_i l
      exact ⟨l, h⟩
    · cases h
theorem fg_other_side (T : Txt K mg) (f : Addr) (fd : FuncData) (F : Fun K "other_side" "other_side" s_other_side f fd) : FG P w K mg base CX0 1 f fd ["side"] (SpF K m_other_side) :=
  fg_pure (F := F_other_side) F sc_other_side k_other_side ⟨bl_of T.bl (by decide +kernel),
    fun i x d h => match i, h with
      | 0, h => by cases h; exact T.c_HOUSE
      | 1, h => by cases h; exact T.c_WORLD
      | n + 2, h => by simp [g_other_side] at h,
    fun i e h => by simp [g_other_side] at h,
    fun i e h => by simp [g_other_side] at h⟩ (by decide) fun ds d h => by
    unfold m_other_side at h
    split at h
    · rename_i l
      exact ⟨l, h⟩
    · cases h
theorem fg_law_draw (T : Txt K mg) (f : Addr) (fd : FuncData) (F : Fun K "_law_draw" "_law_draw" s_law_draw f fd) : FG P w K mg base CX0 1 f fd ["pen", "many"] (SpP K m_law_draw) :=
  fg_pen (F := F0) F sc_law_draw k_law_draw ⟨bl_of T.bl (by decide +kernel),
    fun i x d h => by simp [g_law_draw] at h,
    fun i e h => by simp [g_law_draw] at h,
    fun i e h => by simp [g_law_draw] at h⟩ (by decide) fun ds π d π' h => by
    unfold m_law_draw at h
    split at h
    · rename_i l
      exact ⟨by rw [l]; rfl, h⟩
    · cases h
theorem fg_law_pick (T : Txt K mg) (f : Addr) (fd : FuncData) (F : Fun K "_law_pick" "_law_pick" s_law_pick f fd) : FG P w K mg base CX0 2 f fd ["pen", "some"] (SpP K m_law_pick) :=
  fg_pen (F := F_law_pick) F sc_law_pick k_law_pick ⟨bl_of T.bl (by decide +kernel),
    fun i x d h => by simp [g_law_pick] at h,
    fun i e h => by simp [g_law_pick] at h,
    fun i e h => match i, h with
      | 0, h => by cases h; exact pfF_of (ps := ["pen", "many"]) (m := m_law_draw) T.d_law_draw (fg_law_draw T) (by decide) (fun _ _ _ _ _ _ us hu => match us, hu with | [u0, u1], _ => rfl)
      | n + 1, h => by simp [g_law_pick] at h⟩ (by decide) fun ds π d π' h => by
    unfold m_law_pick at h
    split at h
    · rename_i l
      exact ⟨by rw [l]; rfl, h⟩
    · cases h
theorem fg_law_mixed (T : Txt K mg) (f : Addr) (fd : FuncData) (F : Fun K "_law_mixed" "_law_mixed" s_law_mixed f fd) : FG P w K mg base CX0 2 f fd ["pen", "some"] (SpP K m_law_mixed) :=
  fg_pen (F := F_law_mixed) F sc_law_mixed k_law_mixed ⟨bl_of T.bl (by decide +kernel),
    fun i x d h => by simp [g_law_mixed] at h,
    fun i e h => by simp [g_law_mixed] at h,
    fun i e h => match i, h with
      | 0, h => by cases h; exact pfF_of (ps := ["pen", "many"]) (m := m_law_draw) T.d_law_draw (fg_law_draw T) (by decide) (fun _ _ _ _ _ _ us hu => match us, hu with | [u0, u1], _ => rfl)
      | n + 1, h => by simp [g_law_mixed] at h⟩ (by decide) fun ds π d π' h => by
    unfold m_law_mixed at h
    split at h
    · rename_i l
      exact ⟨by rw [l]; rfl, h⟩
    · cases h
theorem md_law (T : Txt K mg) : Md g_law F_law P w K mg base 2 :=
  ⟨bl_of T.bl (by decide +kernel),
    fun i x d h => by simp [g_law] at h,
    fun i e h => match i, h with
      | 0, h => by cases h; exact fnF_of T.d_other_side (fg_other_side T) (by decide) (fun _ _ _ _ _ _ us ws hu hw => match us, ws, hu, hw with | [], [w0], _, _ => rfl) (fun _ _ h => h)
      | 1, h => by cases h; exact fnF_of T.d_other_side (fg_other_side T) (by decide) (fun _ _ _ _ _ _ us ws hu hw => match us, ws, hu, hw with | [u0], [], _, _ => rfl) (fun _ _ h => h)
      | 2, h => by cases h; exact fnF_of T.d_are_names (fg_are_names T) (by decide) (fun _ _ _ _ _ _ us ws hu hw => match us, ws, hu, hw with | [u0, u1], [], _, _ => rfl) (fun _ _ h => h)
      | 3, h => by cases h; exact fnF_of T.d_are_names (fg_are_names T) (by decide) (fun _ _ _ _ _ _ us ws hu hw => match us, ws, hu, hw with | [], [w0, w1], _, _ => rfl) (fun _ _ h => h)
      | 4, h => by cases h; exact fnF_of T.d_is_row (fg_is_row T) (by decide) (fun _ _ _ _ _ _ us ws hu hw => match us, ws, hu, hw with | [u0, u1], [], _, _ => rfl) (fun _ _ h => h)
      | 5, h => by cases h; exact fnF_of T.d_is_within (fg_is_within T) (by decide) (fun _ _ _ _ _ _ us ws hu hw => match us, ws, hu, hw with | [u0, u1, u2], [], _, _ => rfl) (fun _ _ h => h)
      | 6, h => by cases h; exact fnF_of T.d_is_within (fg_is_within T) (by decide) (fun _ _ _ _ _ _ us ws hu hw => match us, ws, hu, hw with | [], [w0, w1, w2], _, _ => rfl) (fun _ _ h => h)
      | 7, h => by cases h; exact fnF_of T.d_is_side (fg_is_side T) (by decide) (fun _ _ _ _ _ _ us ws hu hw => match us, ws, hu, hw with | [], [w0], _, _ => rfl) (fun _ _ h => h)
      | 8, h => by cases h; exact fnF_of T.d_is_name (fg_is_name T) (by decide) (fun _ _ _ _ _ _ us ws hu hw => match us, ws, hu, hw with | [u0], [], _, _ => rfl) (fun _ _ h => h)
      | 9, h => by cases h; exact fnF_of T.d_is_listed (fg_is_listed T) (by decide) (fun _ _ _ _ _ _ us ws hu hw => match us, ws, hu, hw with | [u0], [], _, _ => rfl) (fun _ _ h => h)
      | 10, h => by cases h; exact fnF_of T.d_is_truth (fg_is_truth T) (by decide) (fun _ _ _ _ _ _ us ws hu hw => match us, ws, hu, hw with | [u0], [], _, _ => rfl) (fun _ _ h => h)
      | 11, h => by cases h; exact fnF_of T.d_is_integer (fg_is_integer T) (by decide) (fun _ _ _ _ _ _ us ws hu hw => match us, ws, hu, hw with | [u0], [], _, _ => rfl) (fun _ _ h => h)
      | n + 12, h => by simp [g_law] at h,
    fun i e h => match i, h with
      | 0, h => by cases h; exact pfF_of (ps := ["pen", "some"]) (m := m_law_pick) T.d_law_pick (fg_law_pick T) (by decide) (fun _ _ _ _ _ _ us hu => match us, hu with | [u0, u1], _ => rfl)
      | 1, h => by cases h; exact pfF_of (ps := ["pen", "many"]) (m := m_law_draw) T.d_law_draw (fg_law_draw T) (by decide) (fun _ _ _ _ _ _ us hu => match us, hu with | [u0, u1], _ => rfl)
      | 2, h => by cases h; exact pfF_of (ps := ["pen", "some"]) (m := m_law_mixed) T.d_law_mixed (fg_law_mixed T) (by decide) (fun _ _ _ _ _ _ us hu => match us, hu with | [u0, u1], _ => rfl)
      | n + 3, h => by simp [g_law] at h⟩
end
end K01

set_option Elab.async false
set_option linter.all false
set_option maxRecDepth 100000
set_option maxHeartbeats 8000000
namespace K01
open PySem PySem.Spec PyProof.Rows L2 Kd
def spLaw (K : PySem.W.Frag) : Sp := fun vs H Q _ => ∃ (a : Addr) (ns : List Int), vs = [.ref a] ∧ SqL K H a (ns.map V.int) ∧ ns.length ≤ 63 ∧ ∀ H', Q (.bl true) H'
def st0 (ns : List Int) : S := ⟨SD.unk :: SD.pen :: List.replicate 12 SD.unk, some ⟨ns, 0, 0⟩⟩
theorem st0_at {ns : List Int} {i : Nat} {x : SD} (h : (st0 ns).δ[i]? = some x) : x = .unk ∨ (i = 1 ∧ x = .pen) := by
  match i with
  | 0 => exact .inl (Option.some.inj h).symm
  | 1 => exact .inr ⟨rfl, (Option.some.inj h).symm⟩
  | i + 2 =>
    have h : (List.replicate 12 SD.unk)[i]? = some x := h
    rw [List.getElem?_replicate] at h
    split at h
    · exact .inl (Option.some.inj h).symm
    · cases h
theorem rel0 {K : PySem.W.Frag} {H : Hp} {p q : Addr} {ns : List Int} {v0 : V} (npq : p ≠ q) (hq : H q = some (.lst (ns.map V.int))) (hp : H p = some (.lst [.ref q, .int 0, .int 0])) :
    Rel K (some p) (fun b => if b = p then none else H b) H (fun b => if b = p then none else H b) H ((start n_law [v0]).set 1 (some (.ref p))) (st0 ns) := by
  have sub : Same (fun b => if b = p then none else H b) H := by
    intro b o e
    by_cases z : b = p
    · simp only [if_pos z] at e; cases e
    · simp only [if_neg z] at e; exact e
  refine ⟨fun _ _ _ h => h, sub, Same.refl _, fun a o h => .inl ⟨o, h⟩, fun a e => ?_, fun a e => ?_, rfl, fun i d e => ?_, ?_, fun i e => ?_, fun i es e => ?_, fun i j es es' _ e => ?_⟩
  · cases e; simp
  · cases e; rw [hp]; exact fun z => nomatch z
  · unfold S.get at e
    split at e
    · rename_i d' e1
      rcases st0_at e1 with z | ⟨_, z⟩ <;> cases z
    · cases e
  · exact ⟨p, rfl, q, hp, .of (by simp only [if_neg npq.symm]; exact hq)⟩
  · rcases st0_at e with z | ⟨z, _⟩
    · cases z
    · subst z; exact ⟨p, rfl, rfl⟩
  · rcases st0_at e with z | ⟨_, z⟩ <;> cases z
  · rcases st0_at e with z | ⟨_, z⟩ <;> cases z
section
variable {P : Program} {w : World} {K : PySem.W.Frag} {mg : Str → Option Value} {base : Heap}
theorem fg_law (plain : ∀ ns, ∃ q, evalSs F_law c_law (st0 ns) = some (.rt (.bool true) (some q))) (T : Txt K mg) (f : Addr) (fd : FuncData) (F : Fun K "law" "law" s_law f fd) : FG P w K mg base CX0 3 f fd ["script"] (spLaw K) := by
  refine fg_of F sc_law (fun vs H Q E h => ?_) fun cdv A outer s H vs Q E hr hg h => ?_
  · obtain ⟨a, ns, rfl, _⟩ := h
    rfl
  · obtain ⟨a, ns, rfl, hS, hl, k⟩ := h
    obtain ⟨fp, fdp, mp, Fp⟩ := T.d_pen.ex
    have GP : FnOk P w K mg base CX0 1 fp fdp ["script"] (spPen K) := ok_lawpen Fp (T.bl _ (by decide +kernel))
    have ok := okS_of (F := F_law) (Γ := g_law) (k := 2) (qual := "law") (f := f) (cdv := cdv) (outer := outer) (s := s) (H := H) (E := E) (P := P) (w := w) (K := K) (mg := mg) (base := base) sc_law (md_law T) hr hg
    refine ⟨_, PSs.nox (pss_cons (ps_set (i := 1) sc_law.nd rfl (.inl rfl) (pe_call GP (hr.mono (by decide)) rfl mp Fp.kp (Fp.binds fun _ _ _ _ _ _ us hu => match us, hu with | [_], _ => rfl) .nil pass0 (pa_cons (pv 0) pa_nil))) pss_w), ?_⟩
    refine ⟨.ref a, rfl, a, ns, rfl, hS, hl, fun q p H' hq hp npq sm hq' hp' => ?_⟩
    obtain ⟨π, ev⟩ := plain ns
    refine soundSs k_law _ ok rfl _ _ _ _ _ _ _ _ (rel0 npq hq' hp') ev _ fun v σ' st' B' H2 R' z s' dv' => ?_
    cases dv'
    exact k H2
end
end K01

set_option Elab.async false
set_option linter.all false
set_option maxRecDepth 100000
set_option maxHeartbeats 8000000
namespace K01
open PySem PySem.Spec PyProof.Rows L2 Kd
theorem plain (ns : List Int) : ∃ q, evalSs F_law c_law (st0 ns) = some (.rt (.bool true) (some q)) := law_plain ⟨⟨ns, 0, 0⟩, rfl, ⟨Int.le_refl _, Int.le_refl _⟩, rfl, rfl⟩
theorem all_mk {l : PySem.W.OpenLaw} {w : World} {K : PySem.W.Frag} {h : Heap} {mg : Str → Option Value} {fa : Addr} (X : K.In h) (G : h.Ns mainGlobals mg) (hfa : mg "law" = some (.ref fa))
    {f0 : Addr} {oc0 kV0 dc0 pm0 cd0 ct0 : Value} {od0 an0 : Option Addr} {sl0 : Array (Option Value)}
    {f1 : Addr} {oc1 kV1 dc1 pm1 cd1 ct1 : Value} {od1 an1 : Option Addr} {sl1 : Array (Option Value)}
    {f2 : Addr} {oc2 kV2 dc2 pm2 cd2 ct2 : Value} {od2 an2 : Option Addr} {sl2 : Array (Option Value)}
    {f3 : Addr} {oc3 kV3 dc3 pm3 cd3 ct3 : Value} {od3 an3 : Option Addr} {sl3 : Array (Option Value)}
    {f4 : Addr} {oc4 kV4 dc4 pm4 cd4 ct4 : Value} {od4 an4 : Option Addr} {sl4 : Array (Option Value)}
    {f5 : Addr} {oc5 kV5 dc5 pm5 cd5 ct5 : Value} {od5 an5 : Option Addr} {sl5 : Array (Option Value)}
    {f6 : Addr} {oc6 kV6 dc6 pm6 cd6 ct6 : Value} {od6 an6 : Option Addr} {sl6 : Array (Option Value)}
    {f7 : Addr} {oc7 kV7 dc7 pm7 cd7 ct7 : Value} {od7 an7 : Option Addr} {sl7 : Array (Option Value)}
    {f8 : Addr} {oc8 kV8 dc8 pm8 cd8 ct8 : Value} {od8 an8 : Option Addr} {sl8 : Array (Option Value)}
    {f9 : Addr} {oc9 kV9 dc9 pm9 cd9 ct9 : Value} {od9 an9 : Option Addr} {sl9 : Array (Option Value)}
    {f10 : Addr} {oc10 kV10 dc10 pm10 cd10 ct10 : Value} {od10 an10 : Option Addr} {sl10 : Array (Option Value)}
    {f11 : Addr} {oc11 kV11 dc11 pm11 cd11 ct11 : Value} {od11 an11 : Option Addr} {sl11 : Array (Option Value)}
    {f12 : Addr} {oc12 kV12 dc12 pm12 cd12 ct12 : Value} {od12 an12 : Option Addr} {sl12 : Array (Option Value)}
    {f13 : Addr} {oc13 kV13 dc13 pm13 cd13 ct13 : Value} {od13 an13 : Option Addr} {sl13 : Array (Option Value)}
    {tk0 : Tok}
    {tk1 : Tok}
    {gr2 : Addr} {tk2_0 tk2_1 : Tok} {god2 : Option Addr} {gn2 : Nat} {gsl2 : Array (Option Value)}
    {tk3 : Tok}
    (a0 : PySem.W.nsIn K mainGlobals "is_integer" = some (some (.ref f0))) (l0 : K.lookup f0 = some ⟨oc0, od0, .func (PySem.W.fnOf "is_integer" "is_integer" (defArgs s_is_integer) (defBody s_is_integer) (defScope s_is_integer) .none kV0 dc0 pm0 an0 cd0 ct0), sl0⟩) (c0 : PySem.W.codeIn K cd0 "is_integer" = true) (k0 : PySem.W.keepIn K (.ref f0) = true)
    (a1 : PySem.W.nsIn K mainGlobals "is_within" = some (some (.ref f1))) (l1 : K.lookup f1 = some ⟨oc1, od1, .func (PySem.W.fnOf "is_within" "is_within" (defArgs s_is_within) (defBody s_is_within) (defScope s_is_within) .none kV1 dc1 pm1 an1 cd1 ct1), sl1⟩) (c1 : PySem.W.codeIn K cd1 "is_within" = true) (k1 : PySem.W.keepIn K (.ref f1) = true)
    (a2 : PySem.W.nsIn K mainGlobals "is_truth" = some (some (.ref f2))) (l2 : K.lookup f2 = some ⟨oc2, od2, .func (PySem.W.fnOf "is_truth" "is_truth" (defArgs s_is_truth) (defBody s_is_truth) (defScope s_is_truth) .none kV2 dc2 pm2 an2 cd2 ct2), sl2⟩) (c2 : PySem.W.codeIn K cd2 "is_truth" = true) (k2 : PySem.W.keepIn K (.ref f2) = true)
    (a3 : PySem.W.nsIn K mainGlobals "is_listed" = some (some (.ref f3))) (l3 : K.lookup f3 = some ⟨oc3, od3, .func (PySem.W.fnOf "is_listed" "is_listed" (defArgs s_is_listed) (defBody s_is_listed) (defScope s_is_listed) .none kV3 dc3 pm3 an3 cd3 ct3), sl3⟩) (c3 : PySem.W.codeIn K cd3 "is_listed" = true) (k3 : PySem.W.keepIn K (.ref f3) = true)
    (a4 : PySem.W.nsIn K mainGlobals "is_row" = some (some (.ref f4))) (l4 : K.lookup f4 = some ⟨oc4, od4, .func (PySem.W.fnOf "is_row" "is_row" (defArgs s_is_row) (defBody s_is_row) (defScope s_is_row) .none kV4 dc4 pm4 an4 cd4 ct4), sl4⟩) (c4 : PySem.W.codeIn K cd4 "is_row" = true) (k4 : PySem.W.keepIn K (.ref f4) = true)
    (a5 : PySem.W.nsIn K mainGlobals "is_name" = some (some (.ref f5))) (l5 : K.lookup f5 = some ⟨oc5, od5, .func (PySem.W.fnOf "is_name" "is_name" (defArgs s_is_name) (defBody s_is_name) (defScope s_is_name) .none kV5 dc5 pm5 an5 cd5 ct5), sl5⟩) (c5 : PySem.W.codeIn K cd5 "is_name" = true) (k5 : PySem.W.keepIn K (.ref f5) = true)
    (a6 : PySem.W.nsIn K mainGlobals "are_names" = some (some (.ref f6))) (l6 : K.lookup f6 = some ⟨oc6, od6, .func (PySem.W.fnOf "are_names" "are_names" (defArgs s_are_names) (defBody s_are_names) (defScope s_are_names) .none kV6 dc6 pm6 an6 cd6 ct6), sl6⟩) (c6 : PySem.W.codeIn K cd6 "are_names" = true) (k6 : PySem.W.keepIn K (.ref f6) = true)
    (a7 : PySem.W.nsIn K mainGlobals "is_side" = some (some (.ref f7))) (l7 : K.lookup f7 = some ⟨oc7, od7, .func (PySem.W.fnOf "is_side" "is_side" (defArgs s_is_side) (defBody s_is_side) (defScope s_is_side) .none kV7 dc7 pm7 an7 cd7 ct7), sl7⟩) (c7 : PySem.W.codeIn K cd7 "is_side" = true) (k7 : PySem.W.keepIn K (.ref f7) = true)
    (a8 : PySem.W.nsIn K mainGlobals "other_side" = some (some (.ref f8))) (l8 : K.lookup f8 = some ⟨oc8, od8, .func (PySem.W.fnOf "other_side" "other_side" (defArgs s_other_side) (defBody s_other_side) (defScope s_other_side) .none kV8 dc8 pm8 an8 cd8 ct8), sl8⟩) (c8 : PySem.W.codeIn K cd8 "other_side" = true) (k8 : PySem.W.keepIn K (.ref f8) = true)
    (a9 : PySem.W.nsIn K mainGlobals "_law_draw" = some (some (.ref f9))) (l9 : K.lookup f9 = some ⟨oc9, od9, .func (PySem.W.fnOf "_law_draw" "_law_draw" (defArgs s_law_draw) (defBody s_law_draw) (defScope s_law_draw) .none kV9 dc9 pm9 an9 cd9 ct9), sl9⟩) (c9 : PySem.W.codeIn K cd9 "_law_draw" = true) (k9 : PySem.W.keepIn K (.ref f9) = true)
    (a10 : PySem.W.nsIn K mainGlobals "_law_pick" = some (some (.ref f10))) (l10 : K.lookup f10 = some ⟨oc10, od10, .func (PySem.W.fnOf "_law_pick" "_law_pick" (defArgs s_law_pick) (defBody s_law_pick) (defScope s_law_pick) .none kV10 dc10 pm10 an10 cd10 ct10), sl10⟩) (c10 : PySem.W.codeIn K cd10 "_law_pick" = true) (k10 : PySem.W.keepIn K (.ref f10) = true)
    (a11 : PySem.W.nsIn K mainGlobals "_law_mixed" = some (some (.ref f11))) (l11 : K.lookup f11 = some ⟨oc11, od11, .func (PySem.W.fnOf "_law_mixed" "_law_mixed" (defArgs s_law_mixed) (defBody s_law_mixed) (defScope s_law_mixed) .none kV11 dc11 pm11 an11 cd11 ct11), sl11⟩) (c11 : PySem.W.codeIn K cd11 "_law_mixed" = true) (k11 : PySem.W.keepIn K (.ref f11) = true)
    (a12 : PySem.W.nsIn K mainGlobals "law" = some (some (.ref f12))) (l12 : K.lookup f12 = some ⟨oc12, od12, .func (PySem.W.fnOf "law" "law" (defArgs s_law) (defBody s_law) (defScope s_law) .none kV12 dc12 pm12 an12 cd12 ct12), sl12⟩) (c12 : PySem.W.codeIn K cd12 "law" = true) (k12 : PySem.W.keepIn K (.ref f12) = true)
    (a13 : PySem.W.nsIn K mainGlobals "_law_pen" = some (some (.ref f13))) (l13 : K.lookup f13 = some ⟨oc13, od13, .func (PySem.W.fnOf "_law_pen" "_law_pen" (defArgs s_pen) (defBody s_pen) (defScope s_pen) .none kV13 dc13 pm13 an13 cd13 ct13), sl13⟩) (c13 : PySem.W.codeIn K cd13 "_law_pen" = true) (k13 : PySem.W.keepIn K (.ref f13) = true)
    (h0 : PySem.W.nsIn K mainGlobals "HOUSE" = some (some (.str "house" tk0)))
    (h1 : PySem.W.nsIn K mainGlobals "LETTERS" = some (some (.str "abcdefghijklmnopqrstuvwxyz" tk1)))
    (h2 : PySem.W.nsIn K mainGlobals "SIDES" = some (some (.ref gr2))) (q2 : K.lookup gr2 = some ⟨.type "tuple", god2, .seq #[.str "house" tk2_0, .str "world" tk2_1] gn2, gsl2⟩)
    (h3 : PySem.W.nsIn K mainGlobals "WORLD" = some (some (.str "world" tk3)))
    (z0 : PySem.W.nsIn K mainGlobals "abs" = some none)
    (z1 : PySem.W.nsIn K mainGlobals "all" = some none)
    (z2 : PySem.W.nsIn K mainGlobals "bool" = some none)
    (z3 : PySem.W.nsIn K mainGlobals "int" = some none)
    (z4 : PySem.W.nsIn K mainGlobals "isinstance" = some none)
    (z5 : PySem.W.nsIn K mainGlobals "len" = some none)
    (z6 : PySem.W.nsIn K mainGlobals "list" = some none)
    (z7 : PySem.W.nsIn K mainGlobals "repr" = some none)
    (z8 : PySem.W.nsIn K mainGlobals "set" = some none)
    (z9 : PySem.W.nsIn K mainGlobals "str" = some none)
    (z10 : PySem.W.nsIn K mainGlobals "tuple" = some none) :
    ∃ fd : FuncData, (∀ (s : Shared) (v : Value), BindsTo s fd ⟨[v], []⟩ [("script", v)]) ∧ ∀ base : Heap, K.In base → base.Ns mainGlobals mg → FG l.prog w K mg base CX0 3 fa fd ["script"] (spLaw K) := by
  have e := hfa.symm.trans (PySem.W.mg_of X G a12)
  cases e
  have T : Txt K mg := ⟨fun y hy => by
    simp only [BL, List.mem_cons, List.mem_nil_iff, or_false] at hy
    rcases hy with rfl | rfl | rfl | rfl | rfl | rfl | rfl | rfl | rfl | rfl | rfl
    · exact PySem.W.mg_none_of X G z0
    · exact PySem.W.mg_none_of X G z1
    · exact PySem.W.mg_none_of X G z2
    · exact PySem.W.mg_none_of X G z3
    · exact PySem.W.mg_none_of X G z4
    · exact PySem.W.mg_none_of X G z5
    · exact PySem.W.mg_none_of X G z6
    · exact PySem.W.mg_none_of X G z7
    · exact PySem.W.mg_none_of X G z8
    · exact PySem.W.mg_none_of X G z9
    · exact PySem.W.mg_none_of X G z10,
    gl_str (PySem.W.mg_of X G h0),
    gl_str (PySem.W.mg_of X G h1),
    gl_tup (vs := [.str "house", .str "world"]) (PySem.W.mg_of X G h2) q2 (by show 2 ≤ sizeLine; decide) (.cons ⟨_, rfl⟩ (.cons ⟨_, rfl⟩ (.nil))) (fun B => .cons (.str "house") (.cons (.str "world") (.nil))),
    gl_str (PySem.W.mg_of X G h3),
    df_mk X G a0 l0 c0 k0,
    df_mk X G a1 l1 c1 k1,
    df_mk X G a2 l2 c2 k2,
    df_mk X G a3 l3 c3 k3,
    df_mk X G a4 l4 c4 k4,
    df_mk X G a5 l5 c5 k5,
    df_mk X G a6 l6 c6 k6,
    df_mk X G a7 l7 c7 k7,
    df_mk X G a8 l8 c8 k8,
    df_mk X G a9 l9 c9 k9,
    df_mk X G a10 l10 c10 k10,
    df_mk X G a11 l11 c11 k11,
    df_mk X G a13 l13 c13 k13⟩
  have F := fun_mk (st := s_law) l12 c12 k12
  exact ⟨_, fun s v => .of_eq rfl, fun base _ _ => fg_law plain T _ _ F⟩
theorem walk {l : PySem.W.OpenLaw} {q : Program} {loose : List Str} {XP : (Str → Option Value) → Heap → Prop} {YP : World → Heap → Prop} {d : DefRec} {K : Params → PySem.W.Frag} (hn : l.most = some 63) (hdf : d.params.defaults = [])
    (hY : ∀ (w : World) (h : Heap), YP w h → (K w.params).In h)
    (F : ∀ (w : World) (mg : Str → Option Value) (fa : Addr) (h : Heap), (K w.params).In h → h.Ns mainGlobals mg → mg d.name = some (.ref fa) →
      ∃ fd : FuncData, (∀ (s : Shared) (u : Value), BindsTo s fd ⟨[u], []⟩ [("script", u)]) ∧ ∀ base : Heap, (K w.params).In base → base.Ns mainGlobals mg → FG l.prog w (K w.params) mg base CX0 3 fa fd ["script"] (spLaw (K w.params))) :
    PySem.W.WalkO q loose XP YP l.row.toRowW d [] (fun f vs => PySem.call f vs) :=
  walk_g (n := 63) (k := 3) (x := "script") (CX := CX0) (sp := fun K => spLaw K) hn (by decide) hdf ⟨rfl, by decide, by decide⟩ hY F (fun _ _ a ns hl _ hS => ⟨a, ns, rfl, hS, hl, fun _ => rfl⟩) fun _ _ _ _ z => z
end K01
open PySem PySem.W PyProof.Rows
set_option maxRecDepth 100000 in
set_option maxHeartbeats 0 in
theorem PySem.Challenge.cw_foreverkept_k01_checks_of_any_values_holds : PySem.Challenge.rw_foreverkept_k01_checks_of_any_values.Holds := by
  w_on; o_law; k_head; (case hw => w_witness2)
  k_fill
  refine K01.walk (l := PySem.Challenge.rw_foreverkept_k01_checks_of_any_values) rfl rfl (fun w h Y => PySem.W.kIn_of Y) ?F
  case F =>
    intro w mg fa h KX G hmg
    refine' K01.all_mk KX G hmg ?a0 ?l0 ?c0 ?k0 ?a1 ?l1 ?c1 ?k1 ?a2 ?l2 ?c2 ?k2 ?a3 ?l3 ?c3 ?k3 ?a4 ?l4 ?c4 ?k4 ?a5 ?l5 ?c5 ?k5 ?a6 ?l6 ?c6 ?k6 ?a7 ?l7 ?c7 ?k7 ?a8 ?l8 ?c8 ?k8 ?a9 ?l9 ?c9 ?k9 ?a10 ?l10 ?c10 ?k10 ?a11 ?l11 ?c11 ?k11 ?a12 ?l12 ?c12 ?k12 ?a13 ?l13 ?c13 ?k13 ?h0 ?h1 ?h2 ?q2 ?h3 ?z0 ?z1 ?z2 ?z3 ?z4 ?z5 ?z6 ?z7 ?z8 ?z9 ?z10
    (case a0 => k_is)
    (case l0 => k_is)
    (case c0 => k_is)
    (case k0 => k_is)
    (case a1 => k_is)
    (case l1 => k_is)
    (case c1 => k_is)
    (case k1 => k_is)
    (case a2 => k_is)
    (case l2 => k_is)
    (case c2 => k_is)
    (case k2 => k_is)
    (case a3 => k_is)
    (case l3 => k_is)
    (case c3 => k_is)
    (case k3 => k_is)
    (case a4 => k_is)
    (case l4 => k_is)
    (case c4 => k_is)
    (case k4 => k_is)
    (case a5 => k_is)
    (case l5 => k_is)
    (case c5 => k_is)
    (case k5 => k_is)
    (case a6 => k_is)
    (case l6 => k_is)
    (case c6 => k_is)
    (case k6 => k_is)
    (case a7 => k_is)
    (case l7 => k_is)
    (case c7 => k_is)
    (case k7 => k_is)
    (case a8 => k_is)
    (case l8 => k_is)
    (case c8 => k_is)
    (case k8 => k_is)
    (case a9 => k_is)
    (case l9 => k_is)
    (case c9 => k_is)
    (case k9 => k_is)
    (case a10 => k_is)
    (case l10 => k_is)
    (case c10 => k_is)
    (case k10 => k_is)
    (case a11 => k_is)
    (case l11 => k_is)
    (case c11 => k_is)
    (case k11 => k_is)
    (case a12 => k_is)
    (case l12 => k_is)
    (case c12 => k_is)
    (case k12 => k_is)
    (case a13 => k_is)
    (case l13 => k_is)
    (case c13 => k_is)
    (case k13 => k_is)
    (case h0 => k_is)
    (case h1 => k_is)
    (case h2 => k_is)
    (case q2 => k_is)
    (case h3 => k_is)
    (case z0 => k_is)
    (case z1 => k_is)
    (case z2 => k_is)
    (case z3 => k_is)
    (case z4 => k_is)
    (case z5 => k_is)
    (case z6 => k_is)
    (case z7 => k_is)
    (case z8 => k_is)
    (case z9 => k_is)
    (case z10 => k_is)
#print axioms PySem.Challenge.cw_foreverkept_k01_checks_of_any_values_holds

