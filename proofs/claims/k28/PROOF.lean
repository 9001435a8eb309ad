import PyProof.Rows.All
import HandS.Walk
import HandS.Words
import HandS.Ends
import Wide.All
import OpenK.AllK
import Wide.FinOn
import HandS.ForMost
import HandS.ForExc
import HandS.TupAny
import HandS.TupMul
import HandS.IsInst
import HandS.Zip
import HandS.Property
import HandS.Style
import HandS.ExcInit
import HandS.Deep
import PyProof.ReprRoads
import PyProof.Rows.IntBool
import PyProof.CallFns
import PyProof.ReprReads
import HandS.List
import KE.DataCmp
import HandS.Wide
import PyProof.StrBlock2
import PyProof.Rows.CallKwBuiltin
import PyProof.ListMulRoad
import KE.KTupSum
import PyProof.WalkInts
import HandS.SetFor
import HandS.Defaults
import HandS.MakeKw
import HandS.ExcField
import HandS.ExcIs
import HandS.Conv
import HandS.SlotsOwn
import KE.GoesMore
import HandS.IterVal
import PyProof.InstNe
import KE.GoesEnum
import KE.KExcIs
import HandS.ExcValue
import HandS.TryMany
import HandS.Codes
import PySem.Challenge.RW_fewmoments_k28_errors_and_bounds
set_option Elab.async false
set_option maxRecDepth 100000
set_option linter.all false
/-! DR4: a def's promise where nothing is being shown (repr's guards are empty); the law's own call. -/
namespace DL
open PySem PySem.Spec PyProof.Rows L2
section
variable (g : Bool) (P : Program) (w : World) (K : PySem.W.Frag) (mg : Str → Option Value) (base : Heap) (CX : CXT) (k : Nat) (f : Addr) (fd : FuncData) (ps : List Str) (sp : Sp)
/-- as FnOk; with g the place of the call shows nothing -/
structure FnR : Prop where
  len : ∀ vs H Q E, sp vs H Q E → vs.length = ps.length
  run : ∀ (A : Around) (outer : List Env) (s : Shared) (H : Hp) (args : Args) (us : List Value) (vs : List V) (Q : VK) (E : XK), (g = true → A.guards = some []) → Room k A → Env0 P w K mg base A outer s H →
    BindsTo s fd args (ps.zip us) → Vals vs us → sp vs H Q E → codeAny (model P w) A (.call (.ref f) args) (CR CX outer P w H s Q E) s
end
section
variable {g : Bool} {P : Program} {w : World} {K : PySem.W.Frag} {mg : Str → Option Value} {base : Heap} {CX : CXT} {k : Nat} {f : Addr} {fd : FuncData} {ps : List Str} {sp : Sp}
theorem fnR (F : FnOk P w K mg base CX k f fd ps sp) : FnR g P w K mg base CX k f fd ps sp :=
  ⟨F.len, fun A outer s H args us vs Q E _ hr he hb hv hs => F.run A outer s H args us vs Q E hr he hb hv hs⟩
theorem FnR.mono {j : Nat} (F : FnR g P w K mg base CX j f fd ps sp) (h : j ≤ k) : FnR g P w K mg base CX k f fd ps sp :=
  ⟨F.len, fun A outer s H args us vs Q E hg hr he hb hv hs => F.run A outer s H args us vs Q E hg (hr.mono h) he hb hv hs⟩
theorem FnR.up (F : FnR false P w K mg base CX k f fd ps sp) : FnR g P w K mg base CX k f fd ps sp :=
  ⟨F.len, fun A outer s H args us vs Q E _ hr he hb hv hs => F.run A outer s H args us vs Q E (fun z => by cases z) hr he hb hv hs⟩
theorem guards_deeper {A : Around} {env : Env} (h : A.guards = some []) : (A.deeper env).guards = some [] := h
/-- by the body, at each place of a call -/
theorem fnR_of {x qual : Str} {st : Stmt} {N : List Str} (F : Fun K x qual st f fd) (S : FnScope N ps (defScope st)) (len : ∀ vs H Q E, sp vs H Q E → vs.length = ps.length)
    (hbody : ∀ (cdv : Value) (A : Around) (outer : List Env) (s : Shared) (H : Hp) (vs : List V) (Q : VK) (E : XK), (g = true → A.guards = some []) → Room k (A.deeper (envOfC qual (defScope st) s.heap.objs.size f cdv)) → sp vs H Q E →
      ∃ t, PSs (cxOf CX P w K mg base N qual (defScope st) f cdv A outer s H E) (defBody st) t ∧ t { nx := fun _ H' => Q .non H', rt := Q } (start N vs) H) : FnR g P w K mg base CX (k + 1) f fd ps sp := by
  obtain ⟨oc, od, kV, doc, pm, an, cdv, ct, osl, rfl, look, code⟩ := F.ex
  refine ⟨len, fun A outer s H args us vs Q E guard room env0 bind vals promise => ?_⟩
  have inK := env0.mod.kin.keeps fun b o z => (env0.bs b o z).1
  have nolimit := env0.mod.nolimit.keeps fun b o z => (env0.bs b o z).1
  refine codeAny_call_function room.depth (inK _ _ look) rfl S.co S.gen rfl (PySem.W.codeRec_of inK code) (bind _ _ _ _ ?_)
  refine wpAny_newFunctionEnv_cells S.kind (fun q hq => (S.par q.1 (List.of_mem_zip hq).1).imp id fun z => ⟨z, PySem.W.cellsFrom_some _ _ _ (.inl z)⟩) fun env he s1 entry => ?_
  subst he
  refine ⟨nolimit.keeps entry.toInCall.keep, codeAny_func ?_⟩
  obtain ⟨t, proof, holds⟩ := hbody cdv A outer s H vs Q E guard (room.deeper _) promise
  refine wpAny_mono (proof.run [] s1 (start N vs) H _ (inv_start S room.hd env0 (len _ _ _ _ promise) vals entry) holds) (fun flow s' hs => ?_) fun _ _ hs => hs
  match flow, hs with
  | .ret u, ⟨v, _, H', J, rel, q⟩ => exact ⟨v, H', J.os, J.bare, J.base, J.hok, rel, q⟩
  | .next, ⟨_, H', J, q⟩ => exact ⟨V.non, H', J.os, J.bare, J.base, J.hok, rfl, q⟩
  | .brk, ⟨_, _, _, q⟩ => exact q.elim
  | .cont, ⟨_, _, _, q⟩ => exact q.elim
end
section
variable {X : Cx} {g : Bool} {k : Nat} {f : Addr} {fd : FuncData} {ps : List Str} {sp : Sp} {x : Str} {p pos : Pos} {e : Expr} {es : List Expr} {t : TA}
theorem run_r {pins : List (Addr × Obj)} {σ : L2.St} {H : Hp} {s : Shared} {Q : VK} {us : List Value} {vs : List V} (F : FnR g X.prog X.w X.K X.mg X.base CX0 k f fd ps sp) (hg : g = true → X.A.guards = some []) (hr : Room k X.A) (hb : Binds X.K fd ps [])
    (I : Inv X pins σ H s) (r : Vals vs us) (h : sp vs H Q E0) : wpAny (model X.prog X.w) X.A (call (.ref f) us) (EP X pins σ Q) X.xe s := by
  have b := hb s us I.kIn (by rw [List.append_nil, ← r.length]; exact F.len _ _ _ _ h)
  rw [List.append_nil] at b
  refine wpAny_call (codeAny_mono (F.run X.A X.stack s H ⟨us, []⟩ us vs Q E0 hg hr I.env0 b r h) fun res s' hq => ?_)
  match res, hq with
  | .ok (.ret u), hq => exact I.after hq
theorem run_rD {pins : List (Addr × Obj)} {σ : L2.St} {H : Hp} {s : Shared} {Q : VK} {us ds : List Value} {vs dvs : List V} (F : FnR g X.prog X.w X.K X.mg X.base CX0 k f fd ps sp) (hg : g = true → X.A.guards = some []) (hr : Room k X.A) (hb : Binds X.K fd ps ds) (hd : Vals dvs ds)
    (I : Inv X pins σ H s) (r : Vals vs us) (h : sp (vs ++ dvs) H Q E0) : wpAny (model X.prog X.w) X.A (call (.ref f) us) (EP X pins σ Q) X.xe s := by
  have b := hb s us I.kIn (by rw [List.length_append, ← r.length, ← hd.length, ← List.length_append]; exact F.len _ _ _ _ h)
  refine wpAny_call (codeAny_mono (F.run X.A X.stack s H ⟨us, []⟩ (us ++ ds) (vs ++ dvs) Q E0 hg hr I.env0 b (r.append hd) h) fun res s' hq => ?_)
  match res, hq with
  | .ok (.ret u), hq => exact I.after hq
theorem pr_call (F : FnR g X.prog X.w X.K X.mg X.base CX0 k f fd ps sp) (hgd : g = true → X.A.guards = some []) (hr : Room k X.A) (hg : Gl X x) (hm : X.mg x = some (.ref f)) (hk : PySem.W.keepIn X.K (.ref f) = true) (hb : Binds X.K fd ps [])
    (ha : PA X (e :: es) t) (hdb : (x == ("__debug__" : Str)) = false) (he : starEach (e :: es) X.env = (false, eval e X.env) :: starEach es X.env) (hpl : (backTo pos (starEach es X.env)).any (·.1) = false) :
    PE X (.Call (.Name x p) (e :: es) [] pos) (fun σ H Q => t σ H fun vs H1 => sp vs H1 Q E0) :=
  ⟨fun pins s σ H Q I h => wpAny_Call_Name_kw (ld_glob I hg hm (PySem.W.callWith_K (h₀ := X.base) I.ok.mod.kin hk (thn (ha.run pos pins s σ H _ I h) fun _ _ ⟨_, _, J, r, q⟩ => ⟨J.kIn, run_r F hgd hr hb J r q⟩) he hpl) hdb)⟩
theorem pr_call0 (F : FnR g X.prog X.w X.K X.mg X.base CX0 k f fd ps sp) (hgd : g = true → X.A.guards = some []) (hr : Room k X.A) (hg : Gl X x) (hm : X.mg x = some (.ref f)) (hk : PySem.W.keepIn X.K (.ref f) = true) (hb : Binds X.K fd ps [])
    (hdb : (x == ("__debug__" : Str)) = false) : PE X (.Call (.Name x p) [] [] pos) (fun _ H Q => sp [] H Q E0) :=
  ⟨fun pins s σ H Q I h => wpAny_Call_Name_kw (ld_glob I hg hm (PySem.W.callWith_K0 I.kIn hk (run_r (us := []) F hgd hr hb I .nil h)) hdb)⟩
end
/-- the law's own call: nothing is tracked but (at most) its script -/
theorem lawR {P : Program} {w : World} {K : PySem.W.Frag} {mg mb : Str → Option Value} {k : Nat} {fa a : Addr} {fd : FuncData} {x : Str} {sp : Sp} {s₁ : Shared} {vs : List Value} {ns : List Int}
    (inK : K.In s₁.heap) (glob : s₁.heap.Ns mainGlobals mg) (bltns : s₁.heap.Ns builtinsNs mb) (boot : ∀ x : Str, x ≠ "__name__" → mb x = bootBuiltins x) (lim : s₁.heap.NoLimit) (nogen : s₁.gens = #[])
    (there : s₁.heap.get? a = some { cls := .type "list", data := .seq vs.toArray }) (intv : IntsAre vs ns) (hl : ns.length ≤ sizeLine) (room : Room k callerA)
    (F : ∀ base : Heap, K.In base → base.Ns mainGlobals mg → FnR true P w K mg base CX0 k fa fd [x] sp) (bind : ∀ (s : Shared) (u : Value), BindsTo s fd ⟨[u], []⟩ [(x, u)])
    (promise : ∀ H : Hp, Only H → SqL K H a (ns.map V.int) → sp [.ref a] H (fun v _ => v = .bl true) fun _ _ _ => False) :
    codeAny (model P w) callerA (.call (.ref fa) ⟨[.ref a], []⟩) (fun r s' => r = .ok (.ret (.bool true)) ∧ OldK s₁.heap s'.heap ∧ s'.os = s₁.os ∧ AllBare s'.gens) s₁ := by
  have vals := vals_ints intv
  -- for each heap that tracks at most the script
  have key : ∀ H : Hp, Only H → SqL K H a (ns.map V.int) → HOk P w H s₁.heap → (∀ b u, H b = some u → b = a ∧ K.lookup a = none) →
      codeAny (model P w) callerA (.call (.ref fa) ⟨[.ref a], []⟩) (fun r s' => r = .ok (.ret (.bool true)) ∧ OldK s₁.heap s'.heap ∧ s'.os = s₁.os ∧ AllBare s'.gens) s₁ := by
    intro H only sq hok at_a
    have free : ∀ {b : Addr} {o : Obj}, s₁.heap.get? b = some o → o ≠ { cls := .type "list", data := .seq vs.toArray } → H b = none := fun {b o} z n => by
      cases q : H b with
      | none => rfl
      | some u =>
        obtain rfl := (at_a b u q).1
        rw [there] at z
        exact absurd (Option.some.inj z).symm n
    have ns_hid : ∀ {b : Addr} {m : Str → Option Value}, s₁.heap.Ns b m → (hidT s₁.heap H).Ns b m := fun {b m} ⟨o, es, ep, z, d, r⟩ =>
      ⟨o, es, ep, hidT_get z (free z fun y => by rw [y] at d; cases d), d, r⟩
    have k_hid : K.In (hidT s₁.heap H) := fun b o z => hidT_get (inK b o z) (by
      cases q : H b with
      | none => rfl
      | some u =>
        obtain ⟨rfl, no⟩ := at_a b u q
        rw [no] at z; cases z)
    have mod : Mod K mg (hidT s₁.heap H) := ⟨k_hid, ns_hid glob, ⟨mb, ns_hid bltns, boot⟩, let ⟨m, y, z⟩ := lim; ⟨m, ns_hid y, z⟩⟩
    have env0 : Env0 P w K mg (hidT s₁.heap H) callerA [] s₁ H := ⟨rfl, mod, fun b o z => of_hidT z, by rw [hidT_size]; exact Nat.le_refl _, trivial, fun b hb => (by cases hb), hok, .of_eq nogen⟩
    refine codeAny_mono ((F _ k_hid (ns_hid glob)).run callerA [] s₁ H ⟨[.ref a], []⟩ [.ref a] [.ref a] _ _ (fun _ => rfl) room env0 (bind s₁ (.ref a)) (.cons rfl .nil) (promise H only sq)) fun res s' hq => ?_
    match res, hq with
    | .ok (.ret u), ⟨v, H', os, bare, un, hok', rel, q⟩ =>
      obtain rfl : v = .bl true := q
      obtain rfl : u = Value.bool true := rel
      refine ⟨rfl, OldK.of_keep fun b o z => ?_, os, bare⟩
      rcases only b with n | ⟨ob, xs, n⟩
      · exact un.keep b o z n (fun y => by cases y) (by simp)
      · have e1 := (hok b _ n).1
        have e2 := (hok' b _ (un.frzs b ob _ n)).1
        rw [z] at e1; cases e1
        exact e2
  have wd : vs.toArray.size ≤ sizeLine := by rw [List.size_toArray, intv.length]; exact hl
  cases hk : K.lookup a with
  | some o =>
    have z := inK a o hk
    rw [there] at z
    cases z
    exact key (fun _ => none) (fun _ => .inl rfl) (.inr ⟨_, vs.toArray, _, hk, rfl, rfl, rfl, wd, by simpa using vals⟩) (fun b u z => by cases z) fun b u z => by cases z
  | none =>
    have at_a : (fun b => if b = a then some (HO.frz { cls := .type "list", data := .seq vs.toArray } (.lst (ns.map V.int))) else none : Hp) a = some (.frz { cls := .type "list", data := .seq vs.toArray } (.lst (ns.map V.int))) := if_pos rfl
    refine key (fun b => if b = a then some (.frz { cls := .type "list", data := .seq vs.toArray } (.lst (ns.map V.int))) else none) (fun b => ?_) (.inl (.inr ⟨_, at_a⟩)) (fun b u z => ?_) fun b u z => ?_
    · by_cases q : b = a
      · exact .inr ⟨_, _, if_pos q⟩
      · exact .inl (if_neg q)
    · by_cases q : b = a
      · subst q
        rw [at_a] at z; cases z
        exact ⟨there, by rw [List.length_map]; exact hl, vs, _, vals, there⟩
      · exact absurd ((if_neg q).symm.trans z) (by simp)
    · by_cases q : b = a
      · exact ⟨q, hk⟩
      · exact absurd ((if_neg q).symm.trans z) (by simp)
theorem walkR {l : PySem.W.OpenLaw} {n k : Nat} {q : Program} {loose : List Str} {XP : (Str → Option Value) → Heap → Prop} {YP : World → Heap → Prop} {d : DefRec} {K : Params → PySem.W.Frag} {sp : World → Sp} {x : Str}
    (most : l.most = some n) (small : n ≤ sizeLine) (nodef : d.params.defaults = []) (room : Room k callerA) (hY : ∀ (w : World) (h : Heap), YP w h → (K w.params).In h)
    (F : ∀ (w : World) (mg : Str → Option Value) (fa : Addr) (h : Heap), (K w.params).In h → h.Ns mainGlobals mg → mg d.name = some (.ref fa) →
      ∃ fd : FuncData, (∀ (s : Shared) (u : Value), BindsTo s fd ⟨[u], []⟩ [(x, u)]) ∧ ∀ base : Heap, (K w.params).In base → base.Ns mainGlobals mg → FnR true l.prog w (K w.params) mg base CX0 k fa fd [x] (sp w))
    (promise : ∀ (w : World) (H : Hp) (a : Addr) (ns : List Int), ns.length ≤ n → Only H → SqL (K w.params) H a (ns.map V.int) → sp w [.ref a] H (fun v _ => v = .bl true) fun _ _ _ => False) :
    PySem.W.WalkO q loose XP YP l.row.toRowW d [] (fun f vs => PySem.call f vs) :=
  Att.attach_call most nodef fun w s₀ s₁ mg mb fa o pm cd doc a vs ns G Y _ _ _ named there intv hlen nogen => by
    obtain ⟨fd, bind, FF⟩ := F w mg fa _ (hY w _ Y) G.T.g named
    exact lawR (hY w _ Y) G.T.g G.T.b G.T.builtins G.T.nolimit nogen there intv (Nat.le_trans hlen small) room FF bind fun H only sq => promise w H a ns hlen only sq
end DL

set_option Elab.async false
set_option maxRecDepth 100000
set_option linter.all false
/-! DL1: pure data values D, the abstract heap DH, how they stand in HandS's heap, the frame Ext. -/
namespace DL
open PySem PySem.Spec PyProof.Rows L2

inductive D where
  | non | bl (b : Bool) | int (i : Int) | str (s : Str) | tup (xs : List D) | ref (a : Addr) | scr (ns : List Int) | exc (C : Addr) (f : Str) (xs : List D)

/-- the law's script: a list that nobody writes -/
def ScrAt (K : PySem.W.Frag) (H : Hp) (a : Addr) (ns : List Int) : Prop :=
  (∃ o, H a = some (.frz o (.lst (ns.map V.int)))) ∨ ∃ (o : Obj) (its : Array Value) (n : Nat), K.lookup a = some o ∧ o.cls = .type "list" ∧ o.dict = none ∧ o.data = .seq its n ∧ its.size ≤ sizeLine ∧ Vals (ns.map V.int) its.toList
theorem ScrAt.sql {K : PySem.W.Frag} {H : Hp} {a : Addr} {ns : List Int} (h : ScrAt K H a ns) : SqL K H a (ns.map V.int) := by
  rcases h with h | h
  · exact .inl (.inr h)
  · exact .inr h
theorem scr_only {K : PySem.W.Frag} {H : Hp} {a : Addr} {ns : List Int} (o : Only H) (h : SqL K H a (ns.map V.int)) : ScrAt K H a ns := by
  rcases h with (h | h) | h
  · rcases o a with z | ⟨_, _, z⟩
    · rw [h] at z; cases z
    · rw [h] at z; cases z
  · exact .inl h
  · exact .inr h
/-- may these items be a dict's key -/
def keyI : D → Bool
  | .int i => decide (0 ≤ i)
  | _ => false
def keyB (xs : List D) : Bool := !xs.isEmpty && xs.all keyI
/-- a tuple; one that may be a key is tracked -/
structure TpT (K : PySem.W.Frag) (H : Hp) (xs : List D) (a : Addr) (vs : List V) : Prop where
  sq : SqT K H a vs
  key : keyB xs = true → H a = some (.tup vs)
theorem TpT.of {K : PySem.W.Frag} {H : Hp} {xs : List D} {a : Addr} {vs : List V} (e : H a = some (.tup vs)) : TpT K H xs a vs := ⟨SqT.of e, fun _ => e⟩
/-- an exception held as a value: of the class C, with no part of its own, or with one; nobody writes it -/
def ExAt (H : Hp) (a C : Addr) (f : Str) (vs : List V) : Prop :=
  (vs = [] ∧ ∃ o, H a = some (.frz o (exo a C none))) ∨ ∃ (w : V) (d : Addr) (o o' : Obj), vs = [w] ∧ H a = some (.frz o (exo a C (some d))) ∧ H d = some (.frz o' (exd d [(f, w)]))
section
variable (K : PySem.W.Frag) (H : Hp)
mutual
def VR : D → V → Prop
  | .non, v => v = .non
  | .bl b, v => v = .bl b
  | .int i, v => v = .int i
  | .str s, v => v = .str s
  | .ref a, v => v = .ref a
  | .scr ns, v => ∃ a, v = .ref a ∧ ScrAt K H a ns
  | .tup xs, v => ∃ a vs, v = .ref a ∧ TpT K H xs a vs ∧ VRs xs vs
  | .exc C f xs, v => ∃ a vs, v = .ref a ∧ ExAt H a C f vs ∧ VRs xs vs
def VRs : List D → List V → Prop
  | [], vs => vs = []
  | x :: xs, vs => ∃ v r, vs = v :: r ∧ VR x v ∧ VRs xs r
end
end

/-- what stands at an address of the abstract heap -/
inductive DO where
  | lst (xs : List D)
  | dk (kvs : List (Key × D))
  | dt (kvs : List (List Key × D))
  | fz (kvs : List (Key × D))
  | ins (C : Addr) (fs : List (Str × D))
  | deck
abbrev DH := Addr → Option DO
def dupd (h : DH) (a : Addr) (o : DO) : DH := fun b => if b = a then some o else h b
theorem dupd_same {h : DH} {a : Addr} {o : DO} : dupd h a o a = some o := if_pos rfl
theorem dupd_ne {h : DH} {a b : Addr} {o : DO} (e : b ≠ a) : dupd h a o b = h b := if_neg e
theorem dupd_dupd {h : DH} {a : Addr} {o u : DO} : dupd (dupd h a o) a u = dupd h a u := by
  funext b; unfold dupd; split <;> rfl

/-- fields, entries -/
def FR (K : PySem.W.Frag) (H : Hp) {α : Type} : List (α × D) → List (α × V) → Prop := Paired fun p q => p.1 = q.1 ∧ VR K H p.2 q.2

/-- the deck's two own lists -/
def Priv (H : Hp) (a b : Addr) : Prop := ∃ a0 a1 k, H a = some (.lst [.ref a0, .ref a1, .int k]) ∧ (b = a0 ∨ b = a1)
structure DeckAt (h : DH) (H : Hp) (a : Addr) : Prop where
  ex : ∃ (a0 a1 : Addr) (k : Int) (ns ms : List Int), H a = some (.lst [.ref a0, .ref a1, .int k]) ∧ H a0 = some (.lst (ns.map V.int)) ∧ H a1 = some (.lst (ms.map V.int)) ∧
    a0 ≠ a1 ∧ a ≠ a0 ∧ a ≠ a1 ∧ h a0 = none ∧ h a1 = none ∧ ms ≠ [] ∧ ms.length ≤ 64 ∧ ns.length ≤ 63 ∧ (∀ n ∈ ns, 0 ≤ n) ∧ (∀ n ∈ ms, 0 ≤ n) ∧ 0 ≤ k
  one : ∀ c, h c = some .deck → c = a
def OR (K : PySem.W.Frag) (h : DH) (H : Hp) (a : Addr) : DO → Prop
  | .lst xs => ∃ vs, H a = some (.lst vs) ∧ VRs K H xs vs
  | .dk kvs => ∃ kvs', H a = some (.dK kvs') ∧ FR K H kvs kvs'
  | .dt kvs => ∃ kvs', H a = some (.dT kvs') ∧ FR K H kvs kvs'
  | .fz kvs => ∃ o kvs', H a = some (.frz o (.dK kvs')) ∧ FR K H kvs kvs'
  | .ins C fs => ∃ dx fs', H a = some (.ins C dx fs') ∧ FR K H fs fs'
  | .deck => DeckAt h H a
def HR (K : PySem.W.Frag) (h : DH) (H : Hp) : Prop := ∀ a o, h a = some o → OR K h H a o
/-- what the abstract heap may change -/
def FP (h : DH) (H : Hp) (b : Addr) : Prop := h b ≠ none ∨ ∃ a, h a = some .deck ∧ Priv H a b
structure Ext (h : DH) (H : Hp) (h' : DH) (H' : Hp) : Prop where
  tup : ∀ a xs, H a = some (.tup xs) → H' a = some (.tup xs)
  frz : ∀ a o u, H a = some (.frz o u) → H' a = some (.frz o u)
  frame : ∀ b o, H b = some o → ¬ FP h H b → H' b = some o
  there : ∀ b, H b ≠ none → H' b ≠ none
  fp : ∀ b, FP h' H' b → FP h H b ∨ H b = none

theorem Ext.refl (h : DH) (H : Hp) : Ext h H h H := ⟨fun _ _ e => e, fun _ _ _ e => e, fun _ _ e _ => e, fun _ e => e, fun _ e => .inl e⟩
theorem Ext.trans {h h1 h2 : DH} {H H1 H2 : Hp} (a : Ext h H h1 H1) (b : Ext h1 H1 h2 H2) : Ext h H h2 H2 where
  tup := fun c xs e => b.tup c xs (a.tup c xs e)
  frz := fun c o u e => b.frz c o u (a.frz c o u e)
  frame := fun c o e n => b.frame c o (a.frame c o e n) fun z => (a.fp c z).elim n fun z => by rw [z] at e; cases e
  there := fun c e => b.there c (a.there c e)
  fp := fun c z => by
    rcases b.fp c z with z | z
    · exact a.fp c z
    · refine .inr ?_
      cases q : H c with
      | none => rfl
      | some o => exact absurd z (a.there c (by rw [q]; exact fun z => nomatch z))
theorem Ext.free {h h' : DH} {H H' : Hp} (a : Ext h H h' H') {p : Addr} (e : H' p = none) : H p = none := by
  cases q : H p with
  | none => rfl
  | some o => exact absurd e (a.there p (by rw [q]; exact fun z => nomatch z))

section
variable {K : PySem.W.Frag} {h h' : DH} {H H' : Hp}
theorem sqt_ext (e : Ext h H h' H') {a : Addr} {vs : List V} (s : SqT K H a vs) : SqT K H' a vs := by
  rcases s with (s | ⟨o, s⟩) | s
  · exact .inl (.inl (e.tup _ _ s))
  · exact .inl (.inr ⟨o, e.frz _ _ _ s⟩)
  · exact .inr s
/-- tuples stand -/
def TupK (H H' : Hp) : Prop := (∀ a xs, H a = some (.tup xs) → H' a = some (.tup xs)) ∧ ∀ a o u, (∀ kvs, u ≠ .dK kvs) → H a = some (.frz o u) → H' a = some (.frz o u)
theorem Ext.tk (e : Ext h H h' H') : TupK H H' := ⟨e.tup, fun a o u _ => e.frz a o u⟩
theorem TupK.sqt (e : TupK H H') {a : Addr} {vs : List V} (s : SqT K H a vs) : SqT K H' a vs := by
  rcases s with (s | ⟨o, s⟩) | s
  · exact .inl (.inl (e.1 _ _ s))
  · exact .inl (.inr ⟨o, e.2 _ _ _ (fun _ z => nomatch z) s⟩)
  · exact .inr s
theorem exo_dk {e C : Addr} {d : Option Addr} : ∀ kvs, exo e C d ≠ .dK kvs := fun kvs z => by
  have z' : HO.ext _ = HO.dK kvs := z
  cases z'
theorem exd_dk {e : Addr} {fs : List (Str × V)} : ∀ kvs, exd e fs ≠ .dK kvs := fun kvs z => by
  have z' : HO.ext _ = HO.dK kvs := z
  cases z'
theorem TupK.ex (e : TupK H H') {a C : Addr} {f : Str} {vs : List V} (s : ExAt H a C f vs) : ExAt H' a C f vs := by
  rcases s with ⟨z, o, s⟩ | ⟨w, d, o, o', z, s, t⟩
  · exact .inl ⟨z, o, e.2 _ _ _ exo_dk s⟩
  · exact .inr ⟨w, d, o, o', z, e.2 _ _ _ exo_dk s, e.2 _ _ _ exd_dk t⟩
mutual
theorem TupK.vr (e : TupK H H') : ∀ (d : D) (v : V), VR K H d v → VR K H' d v
  | .non, _, q => q
  | .bl _, _, q => q
  | .int _, _, q => q
  | .str _, _, q => q
  | .ref _, _, q => q
  | .scr ns, _, ⟨a, e1, e2⟩ => ⟨a, e1, e2.imp (fun ⟨o, z⟩ => ⟨o, e.2 _ _ _ (fun _ y => nomatch y) z⟩) id⟩
  | .tup xs, _, ⟨a, vs, e1, e2, e3⟩ => ⟨a, vs, e1, ⟨e.sqt e2.sq, fun z => e.1 _ _ (e2.key z)⟩, TupK.vrs e xs vs e3⟩
  | .exc C f xs, _, ⟨a, vs, e1, e2, e3⟩ => ⟨a, vs, e1, e.ex e2, TupK.vrs e xs vs e3⟩
theorem TupK.vrs (e : TupK H H') : ∀ (ds : List D) (vs : List V), VRs K H ds vs → VRs K H' ds vs
  | [], _, q => q
  | x :: xs, _, ⟨v, r, e1, e2, e3⟩ => ⟨v, r, e1, TupK.vr e x v e2, TupK.vrs e xs r e3⟩
end
theorem Ext.vr (e : Ext h H h' H') {d : D} {v : V} (q : VR K H d v) : VR K H' d v := e.tk.vr d v q
theorem Ext.vrs (e : Ext h H h' H') {d : List D} {v : List V} (q : VRs K H d v) : VRs K H' d v := e.tk.vrs d v q
theorem TupK.fr (e : TupK H H') {α : Type} : ∀ {fs : List (α × D)} {gs : List (α × V)}, FR K H fs gs → FR K H' fs gs
  | _, _, .nil => .nil
  | _, _, .cons r t => .cons ⟨r.1, e.vr _ _ r.2⟩ (TupK.fr e t)

theorem VRs.length : ∀ {ds : List D} {vs : List V}, VRs K H ds vs → ds.length = vs.length
  | [], _, q => by cases q; rfl
  | _ :: _, _, ⟨_, _, e, _, q⟩ => by subst e; rw [List.length_cons, List.length_cons, VRs.length q]
theorem VRs.nil : VRs K H [] [] := rfl
theorem VRs.cons {d : D} {v : V} {ds : List D} {vs : List V} (a : VR K H d v) (b : VRs K H ds vs) : VRs K H (d :: ds) (v :: vs) := ⟨v, vs, rfl, a, b⟩
theorem VRs.get : ∀ {ds : List D} {vs : List V} {i : Nat} {d : D}, VRs K H ds vs → ds[i]? = some d → ∃ v, vs[i]? = some v ∧ VR K H d v
  | [], _, _, _, _, e => by simp at e
  | _ :: _, _, 0, _, ⟨v, r, e1, e2, e3⟩, e => by subst e1; simp at e; subst e; exact ⟨v, rfl, e2⟩
  | _ :: _, _, i + 1, _, ⟨v, r, e1, e2, e3⟩, e => by
    subst e1
    obtain ⟨w, a, b⟩ := VRs.get (i := i) e3 (by simpa using e)
    exact ⟨w, by simpa using a, b⟩
theorem VRs.get' : ∀ {ds : List D} {vs : List V} {i : Nat} {v : V}, VRs K H ds vs → vs[i]? = some v → ∃ d, ds[i]? = some d ∧ VR K H d v
  | [], _, _, _, q, e => by cases q; simp at e
  | d :: _, _, 0, _, ⟨v, r, e1, e2, e3⟩, e => by subst e1; simp at e; subst e; exact ⟨d, rfl, e2⟩
  | _ :: _, _, i + 1, _, ⟨v, r, e1, e2, e3⟩, e => by
    subst e1
    obtain ⟨w, a, b⟩ := VRs.get' (i := i) e3 (by simpa using e)
    exact ⟨w, by simpa using a, b⟩
theorem VRs.append : ∀ {ds es : List D} {vs ws : List V}, VRs K H ds vs → VRs K H es ws → VRs K H (ds ++ es) (vs ++ ws)
  | [], _, _, _, q, r => by cases q; exact r
  | _ :: _, _, _, _, ⟨v, t, e, a, b⟩, r => by subst e; exact ⟨v, _, rfl, a, VRs.append b r⟩
theorem VRs.drop : ∀ {ds : List D} {vs : List V} (n : Nat), VRs K H ds vs → VRs K H (ds.drop n) (vs.drop n)
  | _, _, 0, q => q
  | [], _, n + 1, q => by cases q; exact rfl
  | _ :: _, _, n + 1, ⟨v, t, e, a, b⟩ => by subst e; exact VRs.drop n b
theorem VRs.take : ∀ {ds : List D} {vs : List V} (n : Nat), VRs K H ds vs → VRs K H (ds.take n) (vs.take n)
  | _, _, 0, _ => rfl
  | [], _, n + 1, q => by cases q; exact rfl
  | _ :: _, _, n + 1, ⟨v, t, e, a, b⟩ => by subst e; exact ⟨v, _, rfl, a, VRs.take n b⟩
theorem VRs.set : ∀ {ds : List D} {vs : List V} (i : Nat) {d : D} {v : V}, VRs K H ds vs → VR K H d v → VRs K H (ds.set i d) (vs.set i v)
  | [], _, _, _, _, q, _ => by cases q; exact rfl
  | _ :: _, _, 0, _, _, ⟨v, t, e, a, b⟩, r => by subst e; exact ⟨_, _, rfl, r, b⟩
  | _ :: _, _, i + 1, _, _, ⟨v, t, e, a, b⟩, r => by subst e; exact ⟨v, _, rfl, a, VRs.set i b r⟩
theorem VRs.eraseIdx : ∀ {ds : List D} {vs : List V} (i : Nat), VRs K H ds vs → VRs K H (ds.eraseIdx i) (vs.eraseIdx i)
  | [], _, _, q => by cases q; exact rfl
  | _ :: _, _, 0, ⟨v, t, e, a, b⟩ => by subst e; exact b
  | _ :: _, _, i + 1, ⟨v, t, e, a, b⟩ => by subst e; exact ⟨v, _, rfl, a, VRs.eraseIdx i b⟩
theorem VRs.dropLast : ∀ {ds : List D} {vs : List V}, VRs K H ds vs → VRs K H ds.dropLast vs.dropLast := fun {ds vs} q => by
  rw [List.dropLast_eq_take, List.dropLast_eq_take, q.length]; exact q.take _
theorem VRs.rep {ds : List D} {vs : List V} (q : VRs K H ds vs) : ∀ k : Nat, VRs K H (List.replicate k ds).flatten (List.replicate k vs).flatten
  | 0 => rfl
  | k + 1 => by rw [List.replicate_succ, List.replicate_succ, List.flatten_cons, List.flatten_cons]; exact q.append (VRs.rep q k)
theorem VRs.one {d : D} {v : V} (a : VR K H d v) : VRs K H [d] [v] := .cons a .nil
theorem VRs.ints : ∀ {ns : List Int} {vs : List V}, VRs K H (ns.map D.int) vs → vs = ns.map V.int
  | [], _, q => q
  | n :: ns, _, ⟨v, r, e, a, b⟩ => by subst e; rw [show v = V.int n from a, VRs.ints b]; rfl
theorem VRs.of_ints : ∀ {ns : List Int}, VRs K H (ns.map D.int) (ns.map V.int)
  | [] => rfl
  | n :: ns => .cons rfl VRs.of_ints
theorem VRs.strs : ∀ {ns : List Str} {vs : List V}, VRs K H (ns.map D.str) vs → vs = ns.map V.str
  | [], _, q => q
  | n :: ns, _, ⟨v, r, e, a, b⟩ => by subst e; rw [show v = V.str n from a, VRs.strs b]; rfl
theorem VRs.of_strs : ∀ {ns : List Str}, VRs K H (ns.map D.str) (ns.map V.str)
  | [] => rfl
  | n :: ns => .cons rfl VRs.of_strs
theorem VRs.bls : ∀ {ns : List Bool} {vs : List V}, VRs K H (ns.map D.bl) vs → vs = ns.map V.bl
  | [], _, q => q
  | n :: ns, _, ⟨v, r, e, a, b⟩ => by subst e; rw [show v = V.bl n from a, VRs.bls b]; rfl
theorem VRs.of_bls : ∀ {ns : List Bool}, VRs K H (ns.map D.bl) (ns.map V.bl)
  | [] => rfl
  | n :: ns => .cons rfl VRs.of_bls

/-! ### the heaps move -/
theorem HR.none_of (r : HR K h H) {a : Addr} (e : H a = none) : h a = none := by
  cases q : h a with
  | none => rfl
  | some o =>
    have z := r a o q
    cases o with
    | lst xs => obtain ⟨_, z, _⟩ := z; rw [e] at z; cases z
    | dk xs => obtain ⟨_, z, _⟩ := z; rw [e] at z; cases z
    | dt xs => obtain ⟨_, z, _⟩ := z; rw [e] at z; cases z
    | fz xs => obtain ⟨_, _, z, _⟩ := z; rw [e] at z; cases z
    | ins C fs => obtain ⟨_, _, z, _⟩ := z; rw [e] at z; cases z
    | deck => obtain ⟨_, _, _, _, _, z, _⟩ := z.ex; rw [e] at z; cases z
/-- the address of a deck's own list is tracked -/
theorem HR.priv_some (r : HR K h H) {a b : Addr} (e : h a = some .deck) (p : Priv H a b) : ∃ xs, H b = some (.lst xs) := by
  obtain ⟨a0, a1, k, ns, ms, e1, e2, e3, _⟩ := (r a _ e).ex
  obtain ⟨c0, c1, k', e', p⟩ := p
  rw [e1] at e'
  cases e'
  rcases p with rfl | rfl
  · exact ⟨_, e2⟩
  · exact ⟨_, e3⟩
theorem HR.priv_none (r : HR K h H) {a b : Addr} (e : h a = some .deck) (p : Priv H a b) : h b = none := by
  obtain ⟨a0, a1, k, ns, ms, e1, e2, e3, e4, e5, e6, e7, e8, _⟩ := (r a _ e).ex
  obtain ⟨c0, c1, k', e', p⟩ := p
  rw [e1] at e'
  cases e'
  rcases p with rfl | rfl
  · exact e7
  · exact e8
theorem HR.fp_some (r : HR K h H) {b : Addr} (f : FP h H b) : ∃ o, H b = some o ∧ (∀ xs, o ≠ .tup xs) := by
  rcases f with f | ⟨a, e, p⟩
  · cases q : h b with
    | none => exact absurd q f
    | some o =>
      have z := r b o q
      cases o with
      | lst xs => obtain ⟨_, z, _⟩ := z; exact ⟨_, z, fun _ z => nomatch z⟩
      | dk xs => obtain ⟨_, z, _⟩ := z; exact ⟨_, z, fun _ z => nomatch z⟩
      | dt xs => obtain ⟨_, z, _⟩ := z; exact ⟨_, z, fun _ z => nomatch z⟩
      | fz xs => obtain ⟨_, _, z, _⟩ := z; exact ⟨_, z, fun _ z => nomatch z⟩
      | ins C fs => obtain ⟨_, _, z, _⟩ := z; exact ⟨_, z, fun _ z => nomatch z⟩
      | deck => obtain ⟨_, _, _, _, _, z, _⟩ := z.ex; exact ⟨_, z, fun _ z => nomatch z⟩
  · obtain ⟨xs, z⟩ := r.priv_some e p
    exact ⟨_, z, fun _ z => nomatch z⟩
/-- fewer objects are spoken of -/
theorem HR.less {g : DH} (r : HR K h H) (s : ∀ a o, g a = some o → h a = some o) : HR K g H := fun a o e => by
  have z := r a o (s a o e)
  cases o with
  | lst xs => exact z
  | dk xs => exact z
  | dt xs => exact z
  | fz xs => exact z
  | ins C fs => exact z
  | deck =>
    obtain ⟨a0, a1, k, ns, ms, e1, e2, e3, e4, e5, e6, e7, e8, e9⟩ := z.ex
    have no : ∀ b, h b = none → g b = none := fun b e => by
      cases q : g b with
      | none => rfl
      | some o => have := s b o q; rw [e] at this; cases this
    exact ⟨⟨a0, a1, k, ns, ms, e1, e2, e3, e4, e5, e6, no _ e7, no _ e8, e9⟩, fun c e => z.one c (s c _ e)⟩
theorem FP.less {g : DH} (s : ∀ a o, g a = some o → h a = some o) {b : Addr} (f : FP g H b) : FP h H b := by
  rcases f with f | ⟨a, e, p⟩
  · cases q : g b with
    | none => exact absurd q f
    | some o => exact .inl (by rw [s b o q]; exact fun z => nomatch z)
  · exact .inr ⟨a, s a _ e, p⟩
theorem Ext.less {g : DH} (x : Ext h H h' H') (s : ∀ a o, g a = some o → h' a = some o) : Ext h H g H' :=
  ⟨x.tup, x.frz, x.frame, x.there, fun b f => x.fp b (f.less s)⟩
theorem OR.keep {g : DH} {a : Addr} {o : DO} (z : OR K h H a o) (t : TupK H H') (k : ∀ b u, (b = a ∨ (o = .deck ∧ Priv H a b)) → H b = some u → H' b = some u) (n : ∀ b, o = .deck → Priv H a b → h b = none → g b = none) (m : ∀ c, g c = some .deck → h c = some .deck) : OR K g H' a o := by
  cases o with
  | lst xs => obtain ⟨vs, e, q⟩ := z; exact ⟨vs, k _ _ (.inl rfl) e, t.vrs _ _ q⟩
  | dk kvs => obtain ⟨vs, e, q⟩ := z; exact ⟨vs, k _ _ (.inl rfl) e, t.fr q⟩
  | dt kvs => obtain ⟨vs, e, q⟩ := z; exact ⟨vs, k _ _ (.inl rfl) e, t.fr q⟩
  | fz kvs => obtain ⟨o, vs, e, q⟩ := z; exact ⟨o, vs, k _ _ (.inl rfl) e, t.fr q⟩
  | ins C fs => obtain ⟨dx, vs, e, q⟩ := z; exact ⟨dx, vs, k _ _ (.inl rfl) e, t.fr q⟩
  | deck =>
    obtain ⟨a0, a1, kk, ns, ms, e1, e2, e3, e4, e5, e6, e7, e8, e9⟩ := z.ex
    have p0 : Priv H a a0 := ⟨a0, a1, kk, e1, .inl rfl⟩
    have p1 : Priv H a a1 := ⟨a0, a1, kk, e1, .inr rfl⟩
    exact ⟨⟨a0, a1, kk, ns, ms, k _ _ (.inl rfl) e1, k _ _ (.inr ⟨rfl, p0⟩) e2, k _ _ (.inr ⟨rfl, p1⟩) e3, e4, e5, e6, n _ rfl p0 e7, n _ rfl p1 e8, e9⟩, fun c e => z.one c (m c e)⟩
/-- an untracked object is laid that the abstract heap does not speak of (a tuple) -/
theorem HR.laid (r : HR K h H) {p : Addr} {o : HO} (np : H p = none) : HR K h (upd H p o) := fun a u e =>
  (r a u e).keep ⟨fun b xs q => by rw [upd_ne (ne_of_none q np)]; exact q, fun b o u _ q => by rw [upd_ne (ne_of_none q np)]; exact q⟩ (fun b u _ q => by rw [upd_ne (ne_of_none q np)]; exact q) (fun _ _ _ e => e) fun _ e => e
theorem priv_upd {p a b : Addr} {o : HO} (np : H p = none) (e : H a ≠ none) : Priv (upd H p o) a b → Priv H a b := by
  rintro ⟨a0, a1, k, z, q⟩
  have ne : a ≠ p := fun z => e (z ▸ np)
  rw [upd_ne ne] at z
  exact ⟨a0, a1, k, z, q⟩
theorem HR.some_of (r : HR K h H) {a : Addr} {o : DO} (e : h a = some o) : H a ≠ none := fun z => by
  have := r.none_of z
  rw [e] at this; cases this
theorem Ext.laid (r : HR K h H) {p : Addr} {o : HO} (np : H p = none) : Ext h H h (upd H p o) where
  tup := fun b xs q => by rw [upd_ne (ne_of_none q np)]; exact q
  frz := fun b o u q => by rw [upd_ne (ne_of_none q np)]; exact q
  frame := fun b o q _ => by rw [upd_ne (ne_of_none q np)]; exact q
  there := fun b q => by
    by_cases e : b = p
    · subst e; rw [upd_same]; exact fun z => nomatch z
    · rw [upd_ne e]; exact q
  fp := fun b f => by
    rcases f with f | ⟨a, e, q⟩
    · exact .inl (.inl f)
    · exact .inl (.inr ⟨a, e, priv_upd np (r.some_of e) q⟩)
/-- a new object of which the abstract heap speaks -/
theorem HR.new (r : HR K h H) {p : Addr} {o : HO} {u : DO} (np : H p = none) (ho : OR K (dupd h p u) (upd H p o) p u) (hu : u ≠ .deck := by intro z; cases z) : HR K (dupd h p u) (upd H p o) := fun a w e => by
  by_cases q : a = p
  · subst q; rw [dupd_same] at e; cases e; exact ho
  · rw [dupd_ne q] at e
    refine (r a w e).keep ⟨fun b xs q => by rw [upd_ne (ne_of_none q np)]; exact q, fun b o u _ q => by rw [upd_ne (ne_of_none q np)]; exact q⟩ (fun b u _ q => by rw [upd_ne (ne_of_none q np)]; exact q) (fun b ew pr e' => ?_) fun c e => by
      by_cases z : c = p
      · subst z; rw [dupd_same] at e; exact absurd (Option.some.inj e) hu
      · rwa [dupd_ne z] at e
    have : b ≠ p := by
      subst ew
      obtain ⟨xs, z⟩ := r.priv_some e pr
      exact ne_of_none z np
    rw [dupd_ne this]; exact e'
theorem Ext.new (r : HR K h H) {p : Addr} {o : HO} {u : DO} (np : H p = none) (hu : u ≠ .deck) : Ext h H (dupd h p u) (upd H p o) where
  tup := fun b xs q => by rw [upd_ne (ne_of_none q np)]; exact q
  frz := fun b o u q => by rw [upd_ne (ne_of_none q np)]; exact q
  frame := fun b o q _ => by rw [upd_ne (ne_of_none q np)]; exact q
  there := fun b q => by
    by_cases e : b = p
    · subst e; rw [upd_same]; exact fun z => nomatch z
    · rw [upd_ne e]; exact q
  fp := fun b f => by
    rcases f with f | ⟨a, e, q⟩
    · by_cases e : b = p
      · subst e; exact .inr np
      · rw [dupd_ne e] at f; exact .inl (.inl f)
    · by_cases e' : a = p
      · subst e'
        rw [dupd_same] at e
        exact absurd (Option.some.inj e) hu
      · rw [dupd_ne e'] at e; exact .inl (.inr ⟨a, e, priv_upd np (r.some_of e) q⟩)
/-- an object of which the abstract heap speaks is written -/
def Wr : DO → Prop
  | .deck => False
  | .fz _ => False
  | _ => True
theorem HR.mut (r : HR K h H) {a : Addr} {u : DO} (e : h a = some u) (w : Wr u) : ∃ o, H a = some o ∧ (∀ xs, o ≠ .tup xs) ∧ (∀ ob v, o ≠ .frz ob v) := by
  have z := r a u e
  cases u with
  | lst xs => obtain ⟨_, z, _⟩ := z; exact ⟨_, z, (fun _ z => nomatch z), fun _ _ z => nomatch z⟩
  | dk xs => obtain ⟨_, z, _⟩ := z; exact ⟨_, z, (fun _ z => nomatch z), fun _ _ z => nomatch z⟩
  | dt xs => obtain ⟨_, z, _⟩ := z; exact ⟨_, z, (fun _ z => nomatch z), fun _ _ z => nomatch z⟩
  | fz xs => exact w.elim
  | ins C fs => obtain ⟨_, _, z, _⟩ := z; exact ⟨_, z, (fun _ z => nomatch z), fun _ _ z => nomatch z⟩
  | deck => exact w.elim
theorem HR.tk_put (r : HR K h H) {a : Addr} {u : DO} (e : h a = some u) (w : Wr u) {o' : HO} : TupK H (upd H a o') := by
  obtain ⟨o, z, n1, n2⟩ := r.mut e w
  exact ⟨fun b xs q => by rw [upd_ne (fun z' => by subst z'; rw [q] at z; cases z; exact n1 _ rfl)]; exact q,
    fun b ob v _ q => by rw [upd_ne (fun z' => by subst z'; rw [q] at z; cases z; exact n2 _ _ rfl)]; exact q⟩
theorem HR.put_keep (r : HR K h H) {a : Addr} {u u' : DO} (e : h a = some u) (w : Wr u) {o' : HO} {b : Addr} {x : DO} (hb : h b = some x) (ne : b ≠ a) (hu : u' ≠ .deck) : OR K (dupd h a u') (upd H a o') b x := by
  refine (r b x hb).keep (r.tk_put e w) (fun c v hc q => ?_) (fun c ex pr e' => ?_) fun c e => ?_
  · rw [upd_ne]
    · exact q
    rcases hc with rfl | ⟨rfl, pr⟩
    · exact ne
    · rintro rfl
      have := r.priv_none hb pr
      rw [e] at this; cases this
  · subst ex
    rw [dupd_ne]
    · exact e'
    rintro rfl
    rw [e] at e'; cases e'
  · by_cases z : c = a
    · subst z; rw [dupd_same] at e; exact absurd (Option.some.inj e) hu
    · rwa [dupd_ne z] at e
theorem HR.put (r : HR K h H) {a : Addr} {u u' : DO} (e : h a = some u) (w : Wr u) {o' : HO} (ho : OR K (dupd h a u') (upd H a o') a u') (hu : u' ≠ .deck := by intro z; cases z) : HR K (dupd h a u') (upd H a o') := fun b x q => by
  by_cases z : b = a
  · subst z; rw [dupd_same] at q; cases q; exact ho
  · rw [dupd_ne z] at q
    exact r.put_keep e w q z hu
theorem Ext.put (r : HR K h H) {a : Addr} {u u' : DO} (e : h a = some u) (w : Wr u) (hu : u' ≠ .deck) {o' : HO} : Ext h H (dupd h a u') (upd H a o') where
  tup := (r.tk_put e w).1
  frz := fun b ob v q => by
    obtain ⟨o, z, n1, n2⟩ := r.mut e w
    rw [upd_ne (fun z' => by subst z'; rw [q] at z; cases z; exact n2 _ _ rfl)]; exact q
  frame := fun b o q n => by
    rw [upd_ne]
    · exact q
    rintro rfl
    exact n (.inl (by rw [e]; exact fun z => nomatch z))
  there := fun b q => by
    by_cases e : b = a
    · subst e; rw [upd_same]; exact fun z => nomatch z
    · rw [upd_ne e]; exact q
  fp := fun b f => by
    rcases f with f | ⟨c, ec, q⟩
    · by_cases z : b = a
      · subst z; exact .inl (.inl (by rw [e]; exact fun z => nomatch z))
      · rw [dupd_ne z] at f; exact .inl (.inl f)
    · by_cases z : c = a
      · subst z
        rw [dupd_same] at ec
        exact absurd (Option.some.inj ec) hu
      · rw [dupd_ne z] at ec
        refine .inl (.inr ⟨c, ec, ?_⟩)
        obtain ⟨a0, a1, k, y, p⟩ := q
        rw [upd_ne z] at y
        exact ⟨a0, a1, k, y, p⟩
end

/-! ### slots -/
abbrev DEnv := List (Option D)
def SR (K : PySem.W.Frag) (H : Hp) (ρ : DEnv) (σ : L2.St) : Prop := ρ.length = σ.length ∧ ∀ (i : Nat) (d : D), ρ[i]? = some (some d) → ∃ v, σ[i]? = some (some v) ∧ VR K H d v
section
variable {K : PySem.W.Frag} {h h' : DH} {H H' : Hp} {ρ : DEnv} {σ : L2.St}
theorem SR.tk (s : SR K H ρ σ) (t : TupK H H') : SR K H' ρ σ := ⟨s.1, fun i d e => by
  obtain ⟨v, a, b⟩ := s.2 i d e
  exact ⟨v, a, t.vr _ _ b⟩⟩
theorem SR.ext (s : SR K H ρ σ) (e : Ext h H h' H') : SR K H' ρ σ := s.tk e.tk
theorem SR.set (s : SR K H ρ σ) (i : Nat) {d : D} {v : V} (r : VR K H d v) : SR K H (ρ.set i (some d)) (σ.set i (some v)) := by
  refine ⟨by rw [List.length_set, List.length_set]; exact s.1, fun j e q => ?_⟩
  by_cases hj : i = j
  · subst hj
    by_cases hl : i < ρ.length
    · rw [List.getElem?_set_self hl] at q
      cases q
      exact ⟨v, List.getElem?_set_self (by rw [← s.1]; exact hl), r⟩
    · rw [List.getElem?_eq_none (by rw [List.length_set]; omega)] at q; cases q
  · rw [List.getElem?_set_ne hj] at q ⊢
    exact s.2 j e q
def dwipe (ρ : DEnv) : List Nat → DEnv
  | [] => ρ
  | v :: vs => (dwipe ρ vs).set v none
theorem SR.wipe (s : SR K H ρ σ) : ∀ vs : List Nat, SR K H (dwipe ρ vs) (wipe σ vs)
  | [] => s
  | v :: vs => by
    have ih := SR.wipe s vs
    refine ⟨by unfold dwipe L2.wipe; rw [List.length_set, List.length_set]; exact ih.1, fun j e q => ?_⟩
    unfold dwipe at q
    unfold L2.wipe
    by_cases hj : v = j
    · subst hj
      by_cases hl : v < (dwipe ρ vs).length
      · rw [List.getElem?_set_self hl] at q; cases q
      · rw [List.getElem?_eq_none (by rw [List.length_set]; omega)] at q; cases q
    · rw [List.getElem?_set_ne hj] at q ⊢
      exact ih.2 j e q
theorem SR.start {N : List Str} : ∀ {ds : List D} {vs : List V}, VRs K H ds vs → SR K H (ds.map some ++ List.replicate (N.length - ds.length) none) (start N vs) := fun {ds vs} r => by
  unfold L2.start
  have hl := r.length
  refine ⟨by simp [hl], fun i d e => ?_⟩
  by_cases hi : i < ds.length
  · rw [List.getElem?_append_left (by simpa using hi), List.getElem?_map] at e
    cases q : ds[i]? with
    | none => rw [q] at e; cases e
    | some x =>
      rw [q] at e; cases e
      obtain ⟨v, a, b⟩ := r.get q
      exact ⟨v, by rw [List.getElem?_append_left (by simpa [← hl] using hi), List.getElem?_map, a]; rfl, b⟩
  · rw [List.getElem?_append_right (by simpa using hi), List.getElem?_replicate] at e
    split at e <;> cases e
end
theorem wipe_set {σ : L2.St} {i : Nat} {x : Option V} : ∀ {vs : List Nat}, i ∈ vs → wipe (σ.set i x) vs = wipe σ vs
  | v :: vs, h => by
    unfold wipe
    by_cases e : i = v
    · subst e
      by_cases q : i ∈ vs
      · rw [wipe_set q]
      · have : ∀ {vs : List Nat}, i ∉ vs → wipe (σ.set i x) vs = (wipe σ vs).set i x := by
          intro vs q
          induction vs with
          | nil => rfl
          | cons w ws ih =>
            unfold wipe
            rw [ih (fun z => q (List.mem_cons_of_mem _ z)), List.set_comm _ _ (fun z => q (by rw [z]; exact List.mem_cons_self))]
        rw [this q, List.set_set]
    · rw [wipe_set ((List.mem_cons.mp h).resolve_left e)]
theorem wipe_wipe {σ : L2.St} (vs : List Nat) : wipe (wipe σ vs) vs = wipe σ vs := by
  have key : ∀ us : List Nat, (∀ u ∈ us, u ∈ vs) → wipe (wipe σ us) vs = wipe σ vs := by
    intro us
    induction us with
    | nil => intro _; rfl
    | cons u us ih =>
      intro hu
      show wipe ((wipe σ us).set u none) vs = _
      rw [wipe_set (hu u List.mem_cons_self), ih fun w hw => hu w (List.mem_cons_of_mem _ hw)]
  exact key vs fun _ h => h
end DL

set_option Elab.async false
set_option linter.all false
set_option maxRecDepth 100000
set_option maxHeartbeats 4000000
/-! DR1: tuple * int, all cases. -/
namespace DL
open PySem PySem.Spec PyProof.Rows L2
theorem tuple_mul1 (l : Addr) (items : Array Value) (n : Nat) (dd : Option Addr) (sl : Array (Option Value)) (x : Int) (u : Tok) (c0 : (decide (x < -(2 ^ 63)) || decide (x ≥ 2 ^ 63)) = false) (c1 : (items.isEmpty || x == 1) = true) :
    Meets (Builtin.«tuple.__mul__» ⟨[.ref l, .int x u], []⟩) (fun _ R s => s.heap.get? l = some { cls := .type "tuple", dict := dd, data := .seq items n, slots := sl } ∧
      R (.ok (.ret (Value.ref l))) s) :=
  .of_wp fun prog w A R s h => by
    obtain ⟨hp, g, d, tk, os⟩ := s
    obtain ⟨hl, h⟩ := h
    have f1 := AutoSeq1.idx_int
    wp_walk using wpAny_loadPart' hl
    repeat (first
      | (refine wpAny_ite_false (decide_eq_false (by rw [c0]; exact Bool.false_ne_true)) ?_; wp_walk using wpAny_loadPart' hl)
      | (refine wpAny_ite_true (decide_eq_true c1) ?_; wp_walk using wpAny_loadPart' hl))
    all_goals exact ⟨_, rfl, h⟩
theorem tuple_mul0 (l : Addr) (items : Array Value) (n : Nat) (dd : Option Addr) (sl : Array (Option Value)) (x : Int) (u : Tok) (c0 : (decide (x < -(2 ^ 63)) || decide (x ≥ 2 ^ 63)) = false) (c1 : (items.isEmpty || x == 1) = false) (c2 : (decide (x ≤ 0) || items.isEmpty) = true) :
    Meets (Builtin.«tuple.__mul__» ⟨[.ref l, .int x u], []⟩) (fun _ R s => s.heap.get? l = some { cls := .type "tuple", dict := dd, data := .seq items n, slots := sl } ∧
      R (.ok (.ret (Value.ref s.heap.objs.size))) { s with heap := s.heap.push { cls := Value.type "tuple", data := Data.seq #[] }, toks := s.toks }) :=
  .of_wp fun prog w A R s h => by
    obtain ⟨hp, g, d, tk, os⟩ := s
    obtain ⟨hl, h⟩ := h
    have f1 := AutoSeq1.idx_int
    wp_walk using wpAny_loadPart' hl
    repeat (first
      | (refine wpAny_ite_false (decide_eq_false (by rw [c0]; exact Bool.false_ne_true)) ?_; wp_walk using wpAny_loadPart' hl)
      | (refine wpAny_ite_false (decide_eq_false (by rw [c1]; exact Bool.false_ne_true)) ?_; wp_walk using wpAny_loadPart' hl)
      | (refine wpAny_ite_true (decide_eq_true c2) ?_; wp_walk using wpAny_loadPart' hl))
    all_goals exact ⟨_, rfl, h⟩
/-- t * k -/
def rRepA (K : PySem.W.Frag) : R2 := fun x y H Q => ∃ l k xs, x = .ref l ∧ y = .int k ∧ SqT K H l xs ∧ -(2 ^ 63) ≤ k ∧ k ≤ 1000 ∧ xs.length ≤ 1000 ∧
  ((xs = [] ∨ k = 1) → Q (.ref l) H) ∧ (¬ (xs = [] ∨ k = 1) → ∀ p, H p = none → Q (.ref p) (upd H p (.tup (List.replicate k.toNat xs).flatten)))
section
variable {X : Cx}
theorem op_repA : OpR X (binaryOp .Mult) (rRepA X.K) := by
  intro pins s σ H x y v u Q I rx ry h
  obtain ⟨l, k, xs, rfl, rfl, hT, h0, h1, hz, q1, q2⟩ := h
  by_cases hbig : xs ≠ [] ∧ 2 ≤ k
  · exact op_repT pins s σ H _ _ v u Q I rx ry ⟨l, k, xs, rfl, rfl, hT, hbig.1, hbig.2, h1, hz, q2 (by rintro (z | z); exact hbig.1 z; omega)⟩
  cases rx
  obtain ⟨t, rfl⟩ := ry
  obtain ⟨its, r, ⟨⟨cls, dd, data, sl⟩, ho, hc, n, hd⟩, hs⟩ := I.tuple hT
  simp only at hc hd
  subst hc hd
  have hle : its.length = xs.length := r.length.symm
  have hemp : its.toArray.isEmpty = true ↔ xs = [] := by
    cases its with
    | nil => cases xs with
      | nil => simp
      | cons a b => simp at hle
    | cons a b => cases xs with
      | nil => simp at hle
      | cons c d => simp
  have c0 : (decide (k < -(2 ^ 63)) || decide (k ≥ 2 ^ 63)) = false := by
    rw [decide_eq_false (by omega), decide_eq_false (by omega)] <;> rfl
  by_cases hsame : xs = [] ∨ k = 1
  · have c1 : (its.toArray.isEmpty || k == 1) = true := by
      rw [Bool.or_eq_true, hemp, beq_iff_eq]; exact hsame
    refine wpAny_binaryOp_repeat_ref (T := "tuple") (U := "int") (by decide) ⟨_, ho, rfl⟩ (fun s' => typeIs_int s' k t) noFill_tuple_mul F.fills_int_mul F.slot_int_rmul repeat_tuple F.slot_int_index.lookup
      (call_meets F.slot_int_rmul (typeIs_int s k t) F.entry_int_rmul (F.args_int_rmul_2 _ _) (int_rmul_tuple k t l its.toArray n dd sl)
        ⟨ho, rfl, ⟨_, ho, rfl⟩, call_meets F.slot_tuple_mul ⟨_, ho, rfl⟩ F.entry_tuple_mul (F.args_tuple_mul_2 _ _) (tuple_mul1 l its.toArray n dd sl k t c0 c1) ⟨ho, ?_⟩⟩)
    exact ⟨.ref l, H, I, rfl, q1 hsame⟩
  · have c1 : (its.toArray.isEmpty || k == 1) = false := by
      cases q : (its.toArray.isEmpty || k == 1) with
      | false => rfl
      | true =>
        rw [Bool.or_eq_true, hemp, beq_iff_eq] at q
        exact absurd q hsame
    have hk : k ≤ 0 := by
      have a1 : xs ≠ [] := fun z => hsame (.inl z)
      have a2 : k ≠ 1 := fun z => hsame (.inr z)
      have a3 : ¬ 2 ≤ k := fun z => hbig ⟨a1, z⟩
      omega
    have c2 : (decide (k ≤ 0) || its.toArray.isEmpty) = true := by rw [decide_eq_true hk, Bool.true_or]
    refine wpAny_binaryOp_repeat_ref (T := "tuple") (U := "int") (by decide) ⟨_, ho, rfl⟩ (fun s' => typeIs_int s' k t) noFill_tuple_mul F.fills_int_mul F.slot_int_rmul repeat_tuple F.slot_int_index.lookup
      (call_meets F.slot_int_rmul (typeIs_int s k t) F.entry_int_rmul (F.args_int_rmul_2 _ _) (int_rmul_tuple k t l its.toArray n dd sl)
        ⟨ho, rfl, ⟨_, ho, rfl⟩, call_meets F.slot_tuple_mul ⟨_, ho, rfl⟩ F.entry_tuple_mul (F.args_tuple_mul_2 _ _) (tuple_mul0 l its.toArray n dd sl k t c0 c1 c2) ⟨ho, ?_⟩⟩)
    have e0 : (List.replicate k.toNat xs).flatten = [] := by rw [show k.toNat = 0 by omega]; rfl
    have q3 := q2 hsame
    rw [e0] at q3
    refine ⟨.ref s.heap.objs.size, _, I.laid (t' := s.toks) (o := .tup []) (fun b ob q => Heap.get?_push_of_some _ q) (Nat.le_refl _) ?_, rfl, q3 _ (I.hok.fresh (Nat.le_refl _))⟩
    exact ⟨Nat.zero_le _, [], .nil, IsTup.new _ _⟩
end
end DL

set_option Elab.async false
set_option linter.all false
/-! DR6: data that may hold empty dicts; lists of two lengths compared. -/
namespace L2
open PySem PySem.Spec PyProof.Rows
mutual
/-- Dp, and an empty dict too -/
inductive DpE (K : PySem.W.Frag) (H : Hp) : V → PyData → Prop
  | non : DpE K H .non .none
  | bl (b : Bool) : DpE K H (.bl b) (.bool b)
  | int (i : Int) : DpE K H (.int i) (.int i)
  | str (x : Str) : DpE K H (.str x) (.str x)
  | lst {a : Addr} {xs : List V} {ds : List PyData} : SqL K H a xs → DpEs K H xs ds → DpE K H (.ref a) (.list ds)
  | tup {a : Addr} {xs : List V} {ds : List PyData} : SqT K H a xs → DpEs K H xs ds → DpE K H (.ref a) (.tuple ds)
  | dk {a : Addr} : H a = some (.dK []) → DpE K H (.ref a) (.dict [])
inductive DpEs (K : PySem.W.Frag) (H : Hp) : List V → List PyData → Prop
  | nil : DpEs K H [] []
  | cons {v : V} {vs : List V} {d : PyData} {ds : List PyData} : DpE K H v d → DpEs K H vs ds → DpEs K H (v :: vs) (d :: ds)
end
section
variable {X : Cx} {pins : List (Addr × Obj)} {σ : St} {H : Hp} {s : Shared}
mutual
theorem DpE.reads (I : Inv X pins σ H s) : ∀ (d : PyData) (v : V) (u : Value), DpE X.K H v d → RelV v u → ∃ as, Reads s.heap u d as
  | .none, _, _, h, r => by
    cases h
    cases r
    exact ⟨_, Reads.none⟩
  | .bool b, _, _, h, r => by
    cases h
    cases r
    exact ⟨_, Reads.bool b⟩
  | .int i, _, _, h, r => by
    cases h
    obtain ⟨t, rfl⟩ := r
    exact ⟨_, Reads.int i t⟩
  | .str x, _, _, h, r => by
    cases h
    obtain ⟨t, rfl⟩ := r
    exact ⟨_, Reads.str x t⟩
  | .list ds, _, _, h, r => by
    cases h with
    | lst hs ha =>
      cases r
      obtain ⟨its, rv, ⟨o, n, ho, hc, _, hd⟩, _⟩ := I.list hs
      obtain ⟨as, hr⟩ := DpE.readsAll I ds _ its ha rv
      exact ⟨_, Reads.list ho hc hd hr⟩
  | .tuple ds, _, _, h, r => by
    cases h with
    | tup hs ha =>
      cases r
      obtain ⟨its, rv, ⟨o, ho, hc, n, hd⟩, _⟩ := I.tuple hs
      obtain ⟨as, hr⟩ := DpE.readsAll I ds _ its ha rv
      exact ⟨_, Reads.tuple ho hc hd hr⟩
  | .dict kvs, v, u, h, r => by
    cases h with
    | dk ha =>
      cases r
      obtain ⟨_, hsys, vs, kv, o, es, ep, ho, hex, hdat, _, hent, _⟩ := I.hok _ _ ha
      cases kv
      have e0 : es.toList = [] := by
        cases q : es.toList with
        | nil => rfl
        | cons x y => rw [q] at hent; cases hent
      exact ⟨_, .dict ho hex.1 hdat (by rw [e0]; exact .nil) (by rw [e0]; exact .nil)⟩
theorem DpE.readsAll (I : Inv X pins σ H s) : ∀ (ds : List PyData) (vs : List V) (us : List Value), DpEs X.K H vs ds → Vals vs us → ∃ as, ReadsAll s.heap us ds as
  | [], _, _, h, r => by
    cases h
    cases r
    exact ⟨_, ReadsAll.nil⟩
  | d :: ds, _, _, h, r => by
    cases h with
    | cons h1 h2 =>
      cases r with
      | cons r1 r2 =>
        obtain ⟨as, q1⟩ := DpE.reads I d _ _ h1 r1
        obtain ⟨bs, q2⟩ := DpE.readsAll I ds _ _ h2 r2
        exact ⟨_, ReadsAll.cons q1 q2⟩
end
/-- the parts' texts: what the reads of the whole give -/
def PartE (prog : Program) (w : World) (h : Heap) (u : Value) (d : PyData) : Prop := ∃ bs, ReadAtMost h d.depth bs ∧ ReprK prog w bs h d.depth u d.shown
def PartsE (prog : Program) (w : World) (h : Heap) (us : List Value) (ds : List PyData) : Prop := ∃ bs, ReadAtMost h (PyData.depthAll ds) bs ∧ ReprAllK prog w bs h (PyData.depthAll ds) us (PyData.shownAll ds)
variable {prog : Program} {w : World}
mutual
theorem DpE.part (I : Inv X pins σ H s) : ∀ (d : PyData) (v : V) (u : Value), DpE X.K H v d → RelV v u → d.showable = true → d.shown.length ≤ sizeLine → PartE prog w s.heap u d
  | .none, _, _, h, r, _, _ => by
    cases h
    cases r
    exact ReprK.of_reads .none (by simp [PyData.showable]) (fun z => by simp [PyData.hasDict] at z) (by simp only [PyData.shown]; decide)
  | .bool b, _, _, h, r, hs, hz => by
    cases h
    cases r
    exact ReprK.of_reads (.bool b) hs (fun z => by simp [PyData.hasDict] at z) hz
  | .int i, _, _, h, r, hs, hz => by
    cases h
    obtain ⟨t, rfl⟩ := r
    exact ReprK.of_reads (.int i t) hs (fun z => by simp [PyData.hasDict] at z) hz
  | .str x, _, _, h, r, hs, hz => by
    cases h
    obtain ⟨t, rfl⟩ := r
    exact ReprK.of_reads (.str x t) hs (fun z => by simp [PyData.hasDict] at z) hz
  | .list ds, v, u, h, r, hs, hz => by
    obtain ⟨as, rd⟩ := DpE.reads I _ v u h r
    cases h with
    | lst hq ha =>
      cases r
      obtain ⟨its, rv, ⟨o, n, ho, hc, _, hd⟩, _⟩ := I.list hq
      have hz' : (listText (PyData.shownAll ds)).length ≤ sizeLine := by simpa only [PyData.shown] using hz
      obtain ⟨bs, hb, hk⟩ := DpE.parts I ds _ its ha rv (by simpa [PyData.showable] using hs) (fun t ht => Nat.le_trans (listText_mem_le ht) hz')
      have hna := not_mem_of_deeper rd (by simp only [PyData.depth]; omega) hb
      refine ⟨_ :: bs, ReadAtMost.cons rd (by simp only [PyData.depth]; omega) hb, ?_⟩
      simp only [PyData.depth, PyData.shown]
      cases its with
      | nil =>
        cases rv
        cases ha
        simp only [PyData.shownAll, listText_nil]
        exact ReprK.listEmpty ho hc hd
      | cons x l => exact ReprK.list ho hc hd hna (by simpa using hk.length_eq) (fun i y e => hk.item i y (by simpa using e))
  | .tuple ds, v, u, h, r, hs, hz => by
    obtain ⟨as, rd⟩ := DpE.reads I _ v u h r
    cases h with
    | tup hq ha =>
      cases r
      obtain ⟨its, rv, ⟨o, ho, hc, n, hd⟩, _⟩ := I.tuple hq
      have hz' : (tupleText (PyData.shownAll ds)).length ≤ sizeLine := by simpa only [PyData.shown] using hz
      obtain ⟨bs, hb, hk⟩ := DpE.parts I ds _ its ha rv (by simpa [PyData.showable] using hs) (fun t ht => Nat.le_trans (tupleText_mem_le ht) hz')
      have hna := not_mem_of_deeper rd (by simp only [PyData.depth]; omega) hb
      refine ⟨_ :: bs, ReadAtMost.cons rd (by simp only [PyData.depth]; omega) hb, ?_⟩
      simp only [PyData.depth, PyData.shown]
      exact ReprK.tuple ho hc hd hna hk
  | .dict kvs, v, u, h, r, hs, hz => by
    obtain ⟨as, rd⟩ := DpE.reads I _ v u h r
    cases h with
    | dk ha =>
      cases r
      obtain ⟨_, hsys, vs, kv, o, es, ep, ho, hex, hdat, _, hent, _⟩ := I.hok _ _ ha
      cases kv
      have e0 : es.toList = [] := by
        cases q : es.toList with
        | nil => rfl
        | cons x y => rw [q] at hent; cases hent
      exact ReprK.of_reads (.dict ho hex.1 hdat (by rw [e0]; exact .nil) (by rw [e0]; exact .nil)) hs (fun _ z => by simp at z; subst z; simp at hsys) hz
theorem DpE.parts (I : Inv X pins σ H s) : ∀ (ds : List PyData) (vs : List V) (us : List Value), DpEs X.K H vs ds → Vals vs us → PyData.showableAll ds = true → (∀ t ∈ PyData.shownAll ds, t.length ≤ sizeLine) → PartsE prog w s.heap us ds
  | [], _, _, h, r, _, _ => by
    cases h
    cases r
    exact ⟨[], (fun _ h => nomatch h), by simp only [PyData.shownAll]; exact .nil⟩
  | d :: ds, _, _, h, r, hs, hz => by
    cases h with
    | cons h1 h2 =>
      cases r with
      | cons r1 r2 =>
        have hs' : d.showable = true ∧ PyData.showableAll ds = true := by simpa [PyData.showableAll] using hs
        obtain ⟨b1, hb1, k1⟩ := DpE.part I d _ _ h1 r1 hs'.1 (hz _ (by simp only [PyData.shownAll]; exact List.mem_cons_self ..))
        obtain ⟨b2, hb2, k2⟩ := DpE.parts I ds _ _ h2 r2 hs'.2 (fun t ht => hz t (by simp only [PyData.shownAll]; exact List.mem_cons_of_mem _ ht))
        refine ⟨b1 ++ b2, fun b hm => ?_, ?_⟩
        · simp only [PyData.depthAll]
          rcases List.mem_append.mp hm with hm | hm
          · obtain ⟨d', as', r', hd'⟩ := hb1 b hm
            exact ⟨d', as', r', Nat.le_trans hd' (Nat.le_max_left _ _)⟩
          · obtain ⟨d', as', r', hd'⟩ := hb2 b hm
            exact ⟨d', as', r', Nat.le_trans hd' (Nat.le_max_right _ _)⟩
        · simp only [PyData.depthAll, PyData.shownAll]
          exact .cons ((k1.more fun b hb => List.mem_append_left _ hb).level_le (Nat.le_max_left _ _)) (k2.more_le (fun b hb => List.mem_append_right _ hb) (Nat.le_max_right _ _))
end
theorem DpE.shows (I : Inv X pins σ H s) {d : PyData} {a : Addr} (h : DpE X.K H (.ref a) d) (hs : d.showable = true) (hz : d.shown.length ≤ sizeLine) : ∃ T idr, ShowsBy prog w s.heap a d T idr := by
  obtain ⟨as, rd⟩ := DpE.reads I _ _ (.ref a) h rfl
  cases h with
  | lst hq ha =>
    rename_i xs ds
    obtain ⟨its, rv, ⟨o, n, ho, hc, _, hd⟩, _⟩ := I.list hq
    have hz' : (listText (PyData.shownAll ds)).length ≤ sizeLine := by simpa only [PyData.shown] using hz
    obtain ⟨bs, hb, hk⟩ := DpE.parts (prog := prog) (w := w) I ds _ its ha rv (by simpa [PyData.showable] using hs) (fun t ht => Nat.le_trans (listText_mem_le ht) hz')
    have hna := not_mem_of_deeper rd (by simp only [PyData.depth]; omega) hb
    refine ⟨"list", "list.__repr__", F.slot_list_repr.toG, F.slot_list_str, F.slot_list_format, fun s hk0 => ⟨o, hk0 _ _ ho, hc⟩, fun A E s Q hg hu hk0 hQ => ?_⟩
    simp only [PyData.depth] at hu
    simp only [PyData.shown] at hQ
    cases its with
    | nil =>
      cases rv
      cases ha
      simp only [PyData.shownAll, listText_nil] at hQ
      exact call_list_repr_empty ⟨o, hk0 _ _ ho, hc⟩ (hk0 _ _ ho) hd (hQ s.heap _ _ fun _ _ e => e)
    | cons x l => exact call_list_reprK ho hc hd hna (by simpa using hk.length_eq) (fun i y e => hk.item i y (by simpa using e)) hg (fun b _ => Clear.nil b) hu hk0 hQ hz'
  | tup hq ha =>
    rename_i xs ds
    obtain ⟨its, rv, ⟨o, ho, hc, n, hd⟩, _⟩ := I.tuple hq
    have hz' : (tupleText (PyData.shownAll ds)).length ≤ sizeLine := by simpa only [PyData.shown] using hz
    obtain ⟨bs, hb, hk⟩ := DpE.parts (prog := prog) (w := w) I ds _ its ha rv (by simpa [PyData.showable] using hs) (fun t ht => Nat.le_trans (tupleText_mem_le ht) hz')
    have hna := not_mem_of_deeper rd (by simp only [PyData.depth]; omega) hb
    refine ⟨"tuple", "tuple.__repr__", F.slot_tuple_repr, F.slot_tuple_str, F.slot_tuple_format, fun s hk0 => ⟨o, hk0 _ _ ho, hc⟩, fun A E s Q hg hu hk0 hQ => ?_⟩
    simp only [PyData.depth] at hu
    simp only [PyData.shown] at hQ
    exact call_tuple_reprK ho hc hd hna hk hg (fun b _ => Clear.nil b) hu hk0 hQ hz'
  | dk ha =>
    obtain ⟨_, hsys, vs, kv, o, es, ep, ho, hex, hdat, _, hent, _⟩ := I.hok _ _ ha
    cases kv
    have e0 : es.toList = [] := by
      cases q : es.toList with
      | nil => rfl
      | cons x y => rw [q] at hent; cases hent
    exact showsBy_of_reads (.dict ho hex.1 hdat (by rw [e0]; exact .nil) (by rw [e0]; exact .nil)) hs (fun _ z => by simp at z; subst z; simp at hsys) hz
theorem repr_of_dpe {Q : Value → Shared → Prop} {E : Value → Shared → Prop} (I : Inv X pins σ H s) {d : PyData} {a : Addr} (h : DpE X.K H (.ref a) d) (hs : d.showable = true) (hz : d.shown.length ≤ sizeLine) (hg : X.A.guards = some []) (hu : X.A.units + (d.depth + 1) < cLine)
    (hQ : ∀ h' u tk, (∀ b o, s.heap.get? b = some o → h'.get? b = some o) → Q (.str d.shown u) { s with heap := h', toks := tk }) : wpAny (model X.prog X.w) X.A (call (.builtin "repr") [.ref a]) Q E s := by
  obtain ⟨T, idr, S⟩ := DpE.shows (prog := X.prog) (w := X.w) I h hs hz
  exact call_repr_slot (by omega) (S.typeIs s (fun _ _ e => e)) S.slotRepr (S.call X.A.in1 E s _ hg (by show X.A.units + 1 + d.depth < cLine; omega) (fun _ _ e => e) fun h' u tk hk => ⟨_, _, rfl, hQ h' u tk hk⟩)
end
section
variable {X : Cx}
def rEqE (K : PySem.W.Frag) : R2 := fun x y H Q => ∃ d e, DpE K H x d ∧ DpE K H y e ∧ SeqAt.shaped d = true ∧ SeqAt.shaped e = true ∧ Q (.bl (PyData.eqv d e)) H
def rNeE (K : PySem.W.Frag) : R2 := fun x y H Q => ∃ d e, DpE K H x d ∧ DpE K H y e ∧ SeqAt.shaped d = true ∧ SeqAt.shaped e = true ∧ Q (.bl (!PyData.eqv d e)) H
theorem op_eqE (hu : X.A.units + 64 < cLine) : OpR X (compareOp .Eq) (rEqE X.K) := by
  intro pins s σ H x y v u Q I rx ry h
  obtain ⟨d, e, hd, he, sd, se, q⟩ := h
  obtain ⟨as, r1⟩ := DpE.reads I d x v hd rx
  obtain ⟨bs, r2⟩ := DpE.reads I e y u he ry
  exact SeqAt.compareEq_shaped r1 r2 sd se hu ⟨.bl _, H, I, rfl, q⟩
theorem op_neE (hu : X.A.units + 64 < cLine) : OpR X (compareOp .NotEq) (rNeE X.K) := by
  intro pins s σ H x y v u Q I rx ry h
  obtain ⟨d, e, hd, he, sd, se, q⟩ := h
  obtain ⟨as, r1⟩ := DpE.reads I d x v hd rx
  obtain ⟨bs, r2⟩ := DpE.reads I e y u he ry
  exact SeqAt.compareNe_shaped r1 r2 sd se hu ⟨.bl _, H, I, rfl, q⟩
/-- two lists of two lengths -/
def rEqN (K : PySem.W.Frag) : R2 := fun x y H Q => ∃ a b xs ys, x = .ref a ∧ y = .ref b ∧ SqL K H a xs ∧ SqL K H b ys ∧ xs.length ≠ ys.length ∧ Q (.bl false) H
def rNeN (K : PySem.W.Frag) : R2 := fun x y H Q => ∃ a b xs ys, x = .ref a ∧ y = .ref b ∧ SqL K H a xs ∧ SqL K H b ys ∧ xs.length ≠ ys.length ∧ Q (.bl true) H
theorem op_eqN (hu : X.A.units < cLine) : OpR X (compareOp .Eq) (rEqN X.K) := by
  intro pins s σ H x y v u Q I rx ry h
  obtain ⟨a, b, xs, ys, rfl, rfl, h1, h2, ne, q⟩ := h
  cases rx
  cases ry
  obtain ⟨is, rv, ⟨o, n, ho, hc, _, hd⟩, _⟩ := I.list h1
  obtain ⟨js, rw_, ⟨o2, n2, ho2, hc2, _, hd2⟩, _⟩ := I.list h2
  have l1 := rv.length
  have l2 := rw_.length
  exact SeqAt.eq_list_lengthsAt ⟨o, ho, hc, n, hd⟩ ⟨o2, ho2, hc2, n2, hd2⟩ (by simp only [bne_iff_ne, ne_eq, ← Array.length_toList]; omega) hu ⟨.bl _, H, I, rfl, q⟩
theorem op_neN (hu : X.A.units < cLine) : OpR X (compareOp .NotEq) (rNeN X.K) := by
  intro pins s σ H x y v u Q I rx ry h
  obtain ⟨a, b, xs, ys, rfl, rfl, h1, h2, ne, q⟩ := h
  cases rx
  cases ry
  obtain ⟨is, rv, ⟨o, n, ho, hc, _, hd⟩, _⟩ := I.list h1
  obtain ⟨js, rw_, ⟨o2, n2, ho2, hc2, _, hd2⟩, _⟩ := I.list h2
  have l1 := rv.length
  have l2 := rw_.length
  exact SeqAt.RcNeAt.lists_lengths ⟨o, ho, hc, n, hd⟩ ⟨o2, ho2, hc2, n2, hd2⟩ (by simp only [bne_iff_ne, ne_eq, ← Array.length_toList]; omega) hu _ _ _ _ ⟨.bl _, H, I, rfl, q⟩
end
end L2
namespace L2
open PySem PySem.Spec PyProof.Rows
section
variable {K : PySem.W.Frag} {H : Hp}
mutual
theorem DpE.lay : ∀ {d : PyData} {v : V}, DpE K H v d → d.canLay0 = true → Dp K H v d
  | .none, _, h, _ => by cases h; exact .non
  | .bool _, _, h, _ => by cases h; exact .bl _
  | .int _, _, h, _ => by cases h; exact .int _
  | .str _, _, h, _ => by cases h; exact .str _
  | .list ds, _, h, c => by
    cases h with
    | lst a b => exact .lst a (DpEs.lay b (by simpa [PyData.canLay0] using c))
  | .tuple ds, _, h, c => by
    cases h with
    | tup a b => exact .tup a (DpEs.lay b (by simpa [PyData.canLay0] using c))
  | .dict _, _, _, c => by simp [PyData.canLay0] at c
theorem DpEs.lay : ∀ {ds : List PyData} {vs : List V}, DpEs K H vs ds → PyData.canLayAll0 ds = true → DpAll K H vs ds
  | [], _, h, _ => by cases h; exact .nil
  | d :: ds, _, h, c => by
    cases h with
    | cons a b =>
      have c' : d.canLay0 = true ∧ PyData.canLayAll0 ds = true := by simpa [PyData.canLayAll0] using c
      exact .cons (DpE.lay a c'.1) (DpEs.lay b c'.2)
end
end
end L2
namespace L2
open PySem PySem.Spec PyProof.Rows
/-- a bool and an int -/
def rAddBI : R2 := fun x y H Q => ∃ (b : Bool) (j : Int), x = .bl b ∧ y = .int j ∧ Q (.int ((if b = true then (1 : Int) else 0) + j)) H
theorem op_addBI {X : Cx} : OpR X (binaryOp .Add) rAddBI := by
  intro pins s σ H x y v u Q I rx ry h
  obtain ⟨b, j, rfl, rfl, q⟩ := h
  cases rx
  obtain ⟨t, rfl⟩ := ry
  exact PySem.IntBool.add_bool_int ⟨.int _, H, I.tok _, ⟨_, rfl⟩, q⟩
end L2

set_option Elab.async false
set_option linter.all false
set_option maxRecDepth 100000
/-! DR10: >= of two lists of ints. -/
namespace DL
open PySem PySem.Spec PyProof.Rows L2
/-- is the first list no less than the second -/
def geL (ns ms : List Int) : Bool := SeqAt.firstLt (fun j => decide (ns.getD j 0 = ms.getD j 0)) (fun j => decide (ms.getD j 0 ≤ ns.getD j 0)) (decide (ns.length ≥ ms.length)) (List.range (min ns.length ms.length))
def rGeL (K : PySem.W.Frag) : R2 := fun x y H Q => ∃ (p q : Addr) (ns ms : List Int), x = .ref p ∧ y = .ref q ∧ SqL K H p (ns.map V.int) ∧ SqL K H q (ms.map V.int) ∧ Q (.bl (geL ns ms)) H
theorem int_of {us : List Value} {ns : List Int} (r : IntsAre us ns) (j : Nat) (h : j < us.toArray.size) : ∃ t, us.toArray[j] = .int (ns.getD j 0) t :=
  PyProof.Rows.IntsAre.int_at r j _ (by have h := h; simp only [List.size_toArray] at h; simp [h])
theorem op_geL {X : Cx} (room : X.A.units < cLine) : OpR X (compareOp .GtE) (rGeL X.K) := by
  rintro pins s σ H x y v u Q I r1 r2 ⟨p, q, ns, ms, rfl, rfl, s1, s2, w⟩
  obtain ⟨us, v1, l1, _⟩ := I.list s1
  obtain ⟨ws, v2, l2, _⟩ := I.list s2
  have k1 := v1.ints
  have k2 := v2.ints
  cases r1
  cases r2
  have whole := SeqAt.RcOp.lists_ge (A := X.A) (s := s) (e := fun j => decide (ns.getD j 0 = ms.getD j 0)) (r := fun j => decide (ms.getD j 0 ≤ ns.getD j 0)) l1.isList l2.isList room
    (fun j g1 g2 => by
      obtain ⟨t1, q1⟩ := int_of k1 j g1
      obtain ⟨t2, q2⟩ := int_of k2 j g2
      rw [q1, q2, show decide (ns.getD j 0 = ms.getD j 0) = (ns.getD j 0 == ms.getD j 0) from (Bool.beq_eq_decide_eq _ _).symm]
      exact SeqAt.EqAt.int_int _ _ _ _)
    (fun j g1 g2 _ => by
      obtain ⟨t1, q1⟩ := int_of k1 j g1
      obtain ⟨t2, q2⟩ := int_of k2 j g2
      rw [q1, q2]
      exact fun _ _ _ _ z => PyProof.Rows.ge_int z)
  rw [List.size_toArray, List.size_toArray, k1.length, k2.length] at whole
  exact whole X.prog X.w X.xe (EP X pins σ Q) ⟨.bl (geL ns ms), H, I, rfl, w⟩
end DL

set_option Elab.async false
set_option linter.all false
set_option maxRecDepth 100000
/-! DL2: the operations over D, each with the rule of HandS that carries it. -/
namespace DL
open PySem PySem.Spec PyProof.Rows L2

abbrev WK := D → DH → Prop
/-- what is wanted of values, from what is wanted of data -/
def Post (K : PySem.W.Frag) (h : DH) (H : Hp) (Qd : WK) (Q : VK) : Prop := ∀ d h' v H', Ext h H h' H' → VR K H' d v → HR K h' H' → Qd d h' → Q v H'
theorem Post.here {K : PySem.W.Frag} {h : DH} {H : Hp} {Qd : WK} {Q : VK} (p : Post K h H Qd Q) (hr : HR K h H) {d : D} {v : V} (q : Qd d h) (r : VR K H d v) : Q v H := p d h v H (Ext.refl h H) r hr q
theorem Post.tup {K : PySem.W.Frag} {h : DH} {H : Hp} {Qd : WK} {Q : VK} (p : Post K h H Qd Q) (hr : HR K h H) {ds : List D} {vs : List V} (r : VRs K H ds vs) (q : Qd (.tup ds) h) {a : Addr} (na : H a = none) : Q (.ref a) (upd H a (.tup vs)) :=
  p (.tup ds) h (.ref a) _ (Ext.laid hr na) ⟨a, vs, rfl, TpT.of upd_same, (Ext.laid (h := h) (o := .tup vs) hr na).vrs r⟩ (hr.laid na) q
theorem Post.lst {K : PySem.W.Frag} {h : DH} {H : Hp} {Qd : WK} {Q : VK} (p : Post K h H Qd Q) (hr : HR K h H) {ds : List D} {vs : List V} (r : VRs K H ds vs) (q : ∀ a, h a = none → Qd (.ref a) (dupd h a (.lst ds))) {a : Addr} (na : H a = none) : Q (.ref a) (upd H a (.lst vs)) :=
  p (.ref a) _ (.ref a) _ (Ext.new (o := .lst vs) (u := .lst ds) hr na (fun z => nomatch z)) rfl (hr.new (o := .lst vs) (u := .lst ds) na ⟨vs, upd_same, (Ext.laid (h := h) (o := .lst vs) hr na).vrs r⟩) (q a (hr.none_of na))
theorem Post.put {K : PySem.W.Frag} {h : DH} {H : Hp} {Qd : WK} {Q : VK} (p : Post K h H Qd Q) (hr : HR K h H) {a : Addr} {xs ds : List D} (e : h a = some (.lst xs)) {vs : List V} (r : VRs K H ds vs) {d : D} {v : V} (rd : VR K H d v) (q : Qd d (dupd h a (.lst ds))) : Q v (upd H a (.lst vs)) := by
  have t := hr.tk_put (o' := .lst vs) e True.intro
  exact p d _ v _ (Ext.put (u' := .lst ds) (o' := .lst vs) hr e True.intro (fun z => nomatch z)) (t.vr _ _ rd) (hr.put (u' := .lst ds) (o' := .lst vs) e True.intro ⟨vs, upd_same, t.vrs _ _ r⟩) q

def Sim1 (K : PySem.W.Frag) (f : D → DH → WK → Prop) (r : V → Hp → VK → Prop) : Prop :=
  ∀ x h H vx (Qd : WK) (Q : VK), VR K H x vx → HR K h H → f x h Qd → Post K h H Qd Q → r vx H Q
def Sim2 (K : PySem.W.Frag) (f : D → D → DH → WK → Prop) (r : R2) : Prop :=
  ∀ x y h H vx vy (Qd : WK) (Q : VK), VR K H x vx → VR K H y vy → HR K h H → f x y h Qd → Post K h H Qd Q → r vx vy H Q
def SimL (K : PySem.W.Frag) (f : List D → DH → WK → Prop) (r : List V → Hp → VK → Prop) : Prop :=
  ∀ xs h H vs (Qd : WK) (Q : VK), VRs K H xs vs → HR K h H → f xs h Qd → Post K h H Qd Q → r vs H Q

/-! ### arithmetic -/
def fAdd : D → D → DH → WK → Prop
  | .int i, .int j, h, Q => Q (.int (i + j)) h
  | .str a, .str b, h, Q => a.length + b.length ≤ 16777216 ∧ Q (.str (a ++ b)) h
  | .tup xs, .tup ys, h, Q => xs.length + ys.length ≤ 16777216 ∧ Q (.tup (xs ++ ys)) h
  | .ref a, .ref b, h, Q => ∃ xs ys, h a = some (.lst xs) ∧ h b = some (.lst ys) ∧ xs.length + ys.length ≤ 16777216 ∧ ∀ p, h p = none → Q (.ref p) (dupd h p (.lst (xs ++ ys)))
  | .bl b, .int j, h, Q => Q (.int ((if b = true then (1 : Int) else 0) + j)) h
  | _, _, _, _ => False
def fSub : D → D → DH → WK → Prop
  | .int i, .int j, h, Q => Q (.int (i - j)) h
  | _, _, _, _ => False
def fMul : D → D → DH → WK → Prop
  | .int i, .int j, h, Q => (CMul i j ∨ CMulW i j) ∧ Q (.int (i * j)) h
  | .tup xs, .int k, h, Q => (-(2 ^ 63) ≤ k ∧ k ≤ 1000 ∧ xs.length ≤ 1000) ∧ Q (.tup (List.replicate k.toNat xs).flatten) h
  | .ref a, .int k, h, Q => ∃ xs, h a = some (.lst xs) ∧ (-(2 ^ 63) ≤ k ∧ k < 2 ^ 63 ∧ xs.length * k.toNat ≤ 16777216) ∧ ∀ p, h p = none → Q (.ref p) (dupd h p (.lst (List.replicate k.toNat xs).flatten))
  | .str z, .int k, h, Q => MulOk z k ∧ Q (.str (Txt.mul z k)) h
  | _, _, _, _ => False
def fDiv : D → D → DH → WK → Prop
  | .int i, .int j, h, Q => (0 < j ∧ j < 2 ^ 100) ∧ Q (.int (i / j)) h
  | _, _, _, _ => False
def fMod : D → D → DH → WK → Prop
  | .int i, .int j, h, Q => 0 < j ∧ Q (.int (i % j)) h
  | _, _, _, _ => False
def fPow : D → D → DH → WK → Prop
  | .int i, .int j, h, Q => CPow i j ∧ Q (.int (i ^ j.toNat)) h
  | _, _, _, _ => False
def fBin : Operator → D → D → DH → WK → Prop
  | .Add => fAdd | .Sub => fSub | .Mult => fMul | .FloorDiv => fDiv | .Mod => fMod | .Pow => fPow
  | _ => fun _ _ _ _ => False

section
variable {K : PySem.W.Frag}
theorem sim_add : Sim2 K fAdd (fun x y H Q => ((rI0 fun i j => .int (i + j)) x y H Q ∨ rAddBI x y H Q) ∨ ((∃ i j, x = .str i ∧ y = .str j ∧ i.length + j.length ≤ sizeLine ∧ Q (.str (i ++ j)) H) ∨ (rCatA K x y H Q ∨ rCat x y H Q))) := by
  intro x y h H vx vy Qd Q rx ry hr f p
  unfold fAdd at f
  split at f
  · cases rx; cases ry
    exact .inl (.inl ⟨_, _, rfl, rfl, p.here hr f rfl⟩)
  · cases rx; cases ry
    exact .inr (.inl ⟨_, _, rfl, rfl, by rw [sizeLine_eq]; exact f.1, p.here hr f.2 rfl⟩)
  · obtain ⟨a, vs, rfl, ha, ra⟩ := rx
    obtain ⟨b, ws, rfl, hb, rb⟩ := ry
    rename_i xs ys
    have l1 := ra.length
    have l2 := rb.length
    refine .inr (.inr (.inl ⟨a, b, vs, ws, rfl, rfl, ha.sq, hb.sq, by rw [sizeLine_eq]; have := f.1; omega, fun e => ?_, fun _ e => ?_, fun _ _ q nq => ?_⟩))
    · subst e
      have : xs = [] := List.eq_nil_of_length_eq_zero l1
      subst this
      exact p.here hr f.2 ⟨b, ws, rfl, hb, rb⟩
    · subst e
      have : ys = [] := List.eq_nil_of_length_eq_zero l2
      subst this
      have f2 := f.2
      rw [List.append_nil] at f2
      exact p.here hr f2 ⟨a, vs, rfl, ha, ra⟩
    · exact p.tup hr (ra.append rb) f.2 nq
  · obtain ⟨xs, ys, e1, e2, hz, q⟩ := f
    cases rx; cases ry
    obtain ⟨vs, a1, a2⟩ := hr _ _ e1
    obtain ⟨ws, b1, b2⟩ := hr _ _ e2
    have l1 := a2.length
    have l2 := b2.length
    exact .inr (.inr (.inr ⟨_, _, vs, ws, rfl, rfl, a1, b1, by rw [sizeLine_eq]; omega, fun r nr => p.lst hr (a2.append b2) q nr⟩))
  · cases rx; cases ry
    exact .inl (.inr ⟨_, _, rfl, rfl, p.here hr f rfl⟩)
  · exact f.elim
theorem sim_sub : Sim2 K fSub (rI0 fun i j => .int (i - j)) := by
  intro x y h H vx vy Qd Q rx ry hr f p
  unfold fSub at f
  split at f
  · cases rx; cases ry
    exact ⟨_, _, rfl, rfl, p.here hr f rfl⟩
  · exact f.elim
/-- a text times a number -/
def rMulS : R2 := fun x y H Q => ∃ z n, x = .str z ∧ y = .int n ∧ MulOk z n ∧ Q (.str (Txt.mul z n)) H
theorem op_mulS {X : Cx} : OpR X (binaryOp .Mult) rMulS := by
  intro pins s σ H x y v u Q I rx ry h
  obtain ⟨z, n, rfl, rfl, ok, q⟩ := h
  obtain ⟨t, rfl⟩ := rx
  obtain ⟨t', rfl⟩ := ry
  exact PySem.SB.mul ok fun t' tk => ⟨.str (Txt.mul z n), H, I.tok _, ⟨_, rfl⟩, q⟩
theorem sim_mul : Sim2 K fMul (fun x y H Q => (rI CMul fun i j => .int (i * j)) x y H Q ∨ ((rI CMulW fun i j => .int (i * j)) x y H Q ∨ (rRepA K x y H Q ∨ (rRep x y H Q ∨ rMulS x y H Q)))) := by
  intro x y h H vx vy Qd Q rx ry hr f p
  unfold fMul at f
  split at f
  · cases rx; cases ry
    rcases f.1 with c | c
    · exact .inl ⟨_, _, rfl, rfl, c, p.here hr f.2 rfl⟩
    · exact .inr (.inl ⟨_, _, rfl, rfl, c, p.here hr f.2 rfl⟩)
  · rename_i xs k
    obtain ⟨a, vs, rfl, ha, ra⟩ := rx
    cases ry
    have l1 := ra.length
    refine .inr (.inr (.inl ⟨a, k, vs, rfl, rfl, ha.sq, f.1.1, f.1.2.1, by have := f.1.2.2; omega, fun e => ?_, fun _ q nq => p.tup hr (ra.rep _) f.2 nq⟩))
    have f2 := f.2
    have ex : (List.replicate k.toNat xs).flatten = xs := by
      rcases e with e | e
      · subst e
        have : xs = [] := List.eq_nil_of_length_eq_zero l1
        subst this
        simp
      · subst e
        simp
    rw [ex] at f2
    exact p.here hr f2 ⟨a, vs, rfl, ha, ra⟩
  · obtain ⟨xs, e1, hz, q⟩ := f
    cases rx; cases ry
    obtain ⟨vs, a1, a2⟩ := hr _ _ e1
    have l1 := a2.length
    exact .inr (.inr (.inr (.inl ⟨_, _, vs, rfl, rfl, a1, hz.1, hz.2.1, by rw [sizeLine_eq, ← l1]; exact hz.2.2, fun r nr => p.lst hr (a2.rep _) q nr⟩)))
  · cases rx; cases ry
    exact .inr (.inr (.inr (.inr ⟨_, _, rfl, rfl, f.1, p.here hr f.2 rfl⟩)))
  · exact f.elim
theorem sim_div : Sim2 K fDiv (rI CDivW fun i j => .int (i / j)) := by
  intro x y h H vx vy Qd Q rx ry hr f p
  unfold fDiv at f
  split at f
  · cases rx; cases ry
    exact ⟨_, _, rfl, rfl, wide_div (b := 100) f.1.1 (by have := f.1.2; omega) (by decide) (by decide), p.here hr f.2 rfl⟩
  · exact f.elim
theorem sim_mod : Sim2 K fMod (rI (fun _ j => 0 < j) fun i j => .int (i % j)) := by
  intro x y h H vx vy Qd Q rx ry hr f p
  unfold fMod at f
  split at f
  · cases rx; cases ry
    exact ⟨_, _, rfl, rfl, f.1, p.here hr f.2 rfl⟩
  · exact f.elim
theorem sim_pow : Sim2 K fPow (rI CPow fun i j => .int (i ^ j.toNat)) := by
  intro x y h H vx vy Qd Q rx ry hr f p
  unfold fPow at f
  split at f
  · cases rx; cases ry
    exact ⟨_, _, rfl, rfl, f.1, p.here hr f.2 rfl⟩
  · exact f.elim
theorem bin_ok {X : Cx} (op : Operator) : ∃ r, OpR X (binaryOp op) r ∧ Sim2 X.K (fBin op) r := by
  cases op
  case Add => exact ⟨_, (op_add.or op_addBI).or (op_add_str.or (op_catA.or op_cat)), sim_add⟩
  case Sub => exact ⟨_, op_sub, sim_sub⟩
  case Mult => exact ⟨_, op_mul.or (op_mulW.or (op_repA.or (op_rep.or op_mulS))), sim_mul⟩
  case FloorDiv => exact ⟨_, op_fdivW, sim_div⟩
  case Mod => exact ⟨_, op_mod, sim_mod⟩
  case Pow => exact ⟨_, op_pow, sim_pow⟩
  all_goals exact ⟨fun _ _ _ _ => False, fun _ _ _ _ _ _ _ _ _ _ _ _ f => f.elim, fun _ _ _ _ _ _ _ _ _ _ _ f _ => f⟩
end

/-! ### data as PyData -/
mutual
def pyW (rf : Addr → Option PyData) : D → Option PyData
  | .non => some .none
  | .bl b => some (.bool b)
  | .int i => some (.int i)
  | .str s => some (.str s)
  | .ref a => rf a
  | .scr _ => none
  | .exc _ _ _ => none
  | .tup xs => (pyWs rf xs).map .tuple
def pyWs (rf : Addr → Option PyData) : List D → Option (List PyData)
  | [] => some []
  | x :: xs => (pyW rf x).bind fun a => (pyWs rf xs).map fun b => a :: b
end
def rfN (h : DH) : Nat → Addr → Option PyData
  | 0, _ => none
  | n + 1, a => match h a with
    | some (.lst xs) => (pyWs (rfN h n) xs).map .list
    | some (.dk kvs) => if kvs.length = 0 then some (.dict []) else none
    | _ => none
mutual
def py : D → PyData
  | .non => .none
  | .bl b => .bool b
  | .int i => .int i
  | .str s => .str s
  | .ref _ => .none
  | .scr _ => .none
  | .exc _ _ _ => .none
  | .tup xs => .tuple (pys xs)
def pys : List D → List PyData
  | [] => []
  | x :: xs => py x :: pys xs
end
mutual
def pure? : D → Bool
  | .ref _ => false
  | .scr _ => false
  | .exc _ _ _ => false
  | .tup xs => pures? xs
  | _ => true
def pures? : List D → Bool
  | [] => true
  | x :: xs => pure? x && pures? xs
end
mutual
theorem pyW_pure (rf : Addr → Option PyData) : ∀ d : D, pure? d = true → pyW rf d = some (py d)
  | .non, _ => rfl
  | .bl _, _ => rfl
  | .int _, _ => rfl
  | .str _, _ => rfl
  | .ref _, h => by simp [pure?] at h
  | .scr _, h => by simp [pure?] at h
  | .exc _ _ _, h => by simp [pure?] at h
  | .tup xs, h => by
    have := pyWs_pure rf xs (by simpa [pure?] using h)
    simp only [pyW, this, Option.map_some, py]
theorem pyWs_pure (rf : Addr → Option PyData) : ∀ ds : List D, pures? ds = true → pyWs rf ds = some (pys ds)
  | [], _ => rfl
  | x :: xs, h => by
    have h' : pure? x = true ∧ pures? xs = true := by simpa [pures?] using h
    simp only [pyWs, pyW_pure rf x h'.1, pyWs_pure rf xs h'.2, Option.bind_some, Option.map_some, pys]
end
section
variable {K : PySem.W.Frag} {H : Hp} {h : DH} {rf : Addr → Option PyData}
mutual
theorem dp_of (ok : ∀ a d, rf a = some d → DpE K H (.ref a) d) : ∀ (x : D) (v : V) (d : PyData), VR K H x v → pyW rf x = some d → DpE K H v d
  | .non, _, _, r, e => by cases r; cases e; exact .non
  | .bl b, _, _, r, e => by cases r; cases e; exact .bl b
  | .int i, _, _, r, e => by cases r; cases e; exact .int i
  | .str s, _, _, r, e => by cases r; cases e; exact .str s
  | .ref a, _, _, r, e => by cases r; exact ok a _ e
  | .scr _, _, _, r, e => by simp [pyW] at e
  | .exc _ _ _, _, _, r, e => by simp [pyW] at e
  | .tup xs, _, _, ⟨a, vs, e1, e2, e3⟩, e => by
    subst e1
    simp only [pyW] at e
    cases q : pyWs rf xs with
    | none => rw [q] at e; cases e
    | some ds => rw [q] at e; cases e; exact .tup e2.sq (dps_of ok xs vs ds e3 q)
theorem dps_of (ok : ∀ a d, rf a = some d → DpE K H (.ref a) d) : ∀ (xs : List D) (vs : List V) (ds : List PyData), VRs K H xs vs → pyWs rf xs = some ds → DpEs K H vs ds
  | [], _, _, r, e => by cases r; cases e; exact .nil
  | x :: xs, _, _, ⟨v, t, e1, e2, e3⟩, e => by
    subst e1
    simp only [pyWs] at e
    cases q : pyW rf x with
    | none => rw [q] at e; cases e
    | some d =>
      cases q2 : pyWs rf xs with
      | none => rw [q, q2] at e; cases e
      | some ds => rw [q, q2] at e; cases e; exact .cons (dp_of ok x v d e2 q) (dps_of ok xs t ds e3 q2)
end
theorem rf_ok (hr : HR K h H) : ∀ (n : Nat) (a : Addr) (d : PyData), rfN h n a = some d → DpE K H (.ref a) d
  | 0, _, _, e => by cases e
  | n + 1, a, d, e => by
    unfold rfN at e
    cases q : h a with
    | none => rw [q] at e; cases e
    | some o =>
      rw [q] at e
      cases o with
      | lst xs =>
        obtain ⟨vs, a1, a2⟩ := hr _ _ q
        simp only at e
        cases q2 : pyWs (rfN h n) xs with
        | none => rw [q2] at e; cases e
        | some ds => rw [q2] at e; cases e; exact .lst (SqL.of a1) (dps_of (rf_ok hr n) xs vs ds a2 q2)
      | dk kvs =>
        simp only at e
        split at e
        · rename_i z
          cases e
          obtain ⟨vs, a1, a2⟩ := hr _ _ q
          cases kvs with
          | nil => cases a2; exact .dk a1
          | cons x y => cases z
        · cases e
      | _ => cases e
end

/-! ### comparisons -/
def eqW (x y : D) (h : DH) (Q : Bool → Prop) : Prop :=
  match x, y with
  | .int i, .int j => Q (decide (i = j))
  | .str a, .str b => Q (decide (a = b))
  | x, y => (∃ n d e, pyW (rfN h n) x = some d ∧ pyW (rfN h n) y = some e ∧ SeqAt.shaped d = true ∧ SeqAt.shaped e = true ∧ Q (PyData.eqv d e)) ∨
    ∃ a b xs ys, x = .ref a ∧ y = .ref b ∧ h a = some (.lst xs) ∧ h b = some (.lst ys) ∧ xs.length ≠ ys.length ∧ Q false
def inW (x y : D) (h : DH) (Q : Bool → Prop) : Prop :=
  match y with
  | .tup ys => ∃ n d ds, pyW (rfN h n) x = some d ∧ pyWs (rfN h n) ys = some ds ∧ SeqAt.shaped d = true ∧ SeqAt.shaped (.tuple ds) = true ∧ Q (ds.any fun z => PyData.eqv z d)
  | .ref a => ∃ ys n d ds, h a = some (.lst ys) ∧ pyW (rfN h n) x = some d ∧ pyWs (rfN h n) ys = some ds ∧ SeqAt.shaped d = true ∧ SeqAt.shaped (.list ds) = true ∧ Q (ds.any fun z => PyData.eqv z d)
  | _ => False
def isNon : D → Bool
  | .non => true
  | _ => false
def ltW (p : Int → Int → Bool) (x y : D) (h : DH) (Q : WK) : Prop :=
  match x, y with
  | .int i, .int j => Q (.bl (p i j)) h
  | _, _ => False
/-- >=: of ints, of lists of ints -/
def geW (x y : D) (h : DH) (Q : WK) : Prop :=
  match x, y with
  | .int i, .int j => Q (.bl (decide (j ≤ i))) h
  | .ref a, .ref b => ∃ ns ms : List Int, h a = some (.lst (ns.map D.int)) ∧ h b = some (.lst (ms.map D.int)) ∧ Q (.bl (geL ns ms)) h
  | _, _ => False
def isW (neg : Bool) (x y : D) (h : DH) (Q : WK) : Prop :=
  match y with
  | .non => Q (.bl (if neg then !isNon x else isNon x)) h
  | _ => False
def fCmp : CmpOp → D → D → DH → WK → Prop
  | .Eq => fun x y h Q => eqW x y h fun b => Q (.bl b) h
  | .NotEq => fun x y h Q => eqW x y h fun b => Q (.bl (!b)) h
  | .Lt => ltW fun i j => decide (i < j)
  | .LtE => ltW fun i j => decide (i ≤ j)
  | .Gt => ltW fun i j => decide (j < i)
  | .GtE => geW
  | .Is => isW false
  | .IsNot => isW true
  | .In => fun x y h Q => inW x y h fun b => Q (.bl b) h
  | .NotIn => fun x y h Q => inW x y h fun b => Q (.bl (!b)) h

section
variable {X : Cx}
def rInT (K : PySem.W.Frag) (neg : Bool) : R2 := fun x y H Q => ∃ d ds, DpE K H x d ∧ DpE K H y (.tuple ds) ∧ SeqAt.shaped d = true ∧ SeqAt.shaped (.tuple ds) = true ∧ Q (.bl (if neg then !(ds.any fun z => PyData.eqv z d) else ds.any fun z => PyData.eqv z d)) H
theorem op_inT (hu : X.A.units + 65 < cLine) : OpR X (compareOp .In) (rInT X.K false) := by
  intro pins s σ H x y v u Q I rx ry h
  obtain ⟨d, ds, hd, he, sd, se, q⟩ := h
  obtain ⟨as, r1⟩ := DpE.reads I d x v hd rx
  obtain ⟨bs, r2⟩ := DpE.reads I (.tuple ds) y u he ry
  exact SeqAt.in_tuple_reads r2 r1 (SeqAt.canLay_of_shaped se) (SeqAt.canLay_of_shaped sd) (room_in_shaped sd hu) ⟨.bl _, H, I, rfl, q⟩
theorem op_notInT (hu : X.A.units + 65 < cLine) : OpR X (compareOp .NotIn) (rInT X.K true) := by
  intro pins s σ H x y v u Q I rx ry h
  obtain ⟨d, ds, hd, he, sd, se, q⟩ := h
  obtain ⟨as, r1⟩ := DpE.reads I d x v hd rx
  obtain ⟨bs, r2⟩ := DpE.reads I (.tuple ds) y u he ry
  exact SeqAt.notIn_tuple_reads r2 r1 (SeqAt.canLay_of_shaped se) (SeqAt.canLay_of_shaped sd) (room_in_shaped sd hu) ⟨.bl _, H, I, rfl, q⟩
variable {K : PySem.W.Frag}
theorem dec_v_int {i j : Int} : decide (V.int i = V.int j) = decide (i = j) := by simp
theorem dec_v_str {i j : Str} : decide (V.str i = V.str j) = decide (i = j) := by simp
theorem sim_eq : Sim2 K (fCmp .Eq) (fun x y H Q => rEq x y H Q ∨ rEqE K x y H Q ∨ rEqN K x y H Q) := by
  intro x y h H vx vy Qd Q rx ry hr f p
  unfold fCmp eqW at f
  simp only at f
  split at f
  · cases rx; cases ry
    exact .inl ⟨rfl, by rw [dec_v_int]; exact p.here hr f rfl⟩
  · cases rx; cases ry
    exact .inl ⟨rfl, by rw [dec_v_str]; exact p.here hr f rfl⟩
  · rcases f with ⟨n, d, e, h1, h2, h3, h4, q⟩ | ⟨a, b, xs, ys, rfl, rfl, h1, h2, h3, q⟩
    · exact .inr (.inl ⟨d, e, dp_of (rf_ok hr n) _ _ _ rx h1, dp_of (rf_ok hr n) _ _ _ ry h2, h3, h4, p.here hr q rfl⟩)
    · cases rx; cases ry
      obtain ⟨us, a1, a2⟩ := hr _ _ h1
      obtain ⟨ws, b1, b2⟩ := hr _ _ h2
      exact .inr (.inr ⟨a, b, us, ws, rfl, rfl, SqL.of a1, SqL.of b1, by rw [← a2.length, ← b2.length]; exact h3, p.here hr q rfl⟩)
theorem sim_ne : Sim2 K (fCmp .NotEq) (fun x y H Q => rNe x y H Q ∨ rNeE K x y H Q ∨ rNeN K x y H Q) := by
  intro x y h H vx vy Qd Q rx ry hr f p
  unfold fCmp eqW at f
  simp only at f
  split at f
  · cases rx; cases ry
    exact .inl ⟨rfl, by rw [dec_v_int]; exact p.here hr f rfl⟩
  · cases rx; cases ry
    exact .inl ⟨rfl, by rw [dec_v_str]; exact p.here hr f rfl⟩
  · rcases f with ⟨n, d, e, h1, h2, h3, h4, q⟩ | ⟨a, b, xs, ys, rfl, rfl, h1, h2, h3, q⟩
    · exact .inr (.inl ⟨d, e, dp_of (rf_ok hr n) _ _ _ rx h1, dp_of (rf_ok hr n) _ _ _ ry h2, h3, h4, p.here hr q rfl⟩)
    · cases rx; cases ry
      obtain ⟨us, a1, a2⟩ := hr _ _ h1
      obtain ⟨ws, b1, b2⟩ := hr _ _ h2
      exact .inr (.inr ⟨a, b, us, ws, rfl, rfl, SqL.of a1, SqL.of b1, by rw [← a2.length, ← b2.length]; exact h3, p.here hr q rfl⟩)
theorem sim_lt (q : Int → Int → Bool) : Sim2 K (ltW q) (rI0 fun i j => .bl (q i j)) := by
  intro x y h H vx vy Qd Q rx ry hr f p
  unfold ltW at f
  split at f
  · cases rx; cases ry
    exact ⟨_, _, rfl, rfl, p.here hr f rfl⟩
  · exact f.elim
theorem sim_ge : Sim2 K geW (fun x y H Q => (rI0 fun i j => .bl (decide (j ≤ i))) x y H Q ∨ rGeL K x y H Q) := by
  intro x y h H vx vy Qd Q rx ry hr f p
  unfold geW at f
  split at f
  · cases rx; cases ry
    exact .inl ⟨_, _, rfl, rfl, p.here hr f rfl⟩
  · rename_i a b
    obtain ⟨ns, ms, e1, e2, q⟩ := f
    obtain ⟨us, a1, a2⟩ := hr _ _ e1
    obtain ⟨ws, b1, b2⟩ := hr _ _ e2
    have := a2.ints
    subst this
    have := b2.ints
    subst this
    cases rx; cases ry
    exact .inr ⟨a, b, ns, ms, rfl, rfl, SqL.of a1, SqL.of b1, p.here hr q rfl⟩
  · exact f.elim
theorem isNon_of {H : Hp} {x : D} {v : V} (r : VR K H x v) : decide (v = .non) = isNon x := by
  cases x with
  | non => cases r; rfl
  | tup xs => obtain ⟨a, vs, e, _⟩ := r; subst e; rfl
  | scr ns => obtain ⟨a, e, _⟩ := r; subst e; rfl
  | exc C f xs => obtain ⟨a, vs, e, _⟩ := r; subst e; rfl
  | _ => cases r; rfl
theorem sim_is : Sim2 K (fCmp .Is) (fun x y H Q => y = .non ∧ Q (.bl (decide (x = .non))) H) := by
  intro x y h H vx vy Qd Q rx ry hr f p
  unfold fCmp isW at f
  simp only at f
  split at f
  · cases ry
    exact ⟨rfl, by rw [isNon_of rx]; exact p.here hr f rfl⟩
  · exact f.elim
theorem sim_isnot : Sim2 K (fCmp .IsNot) (fun x y H Q => y = .non ∧ Q (.bl (!decide (x = .non))) H) := by
  intro x y h H vx vy Qd Q rx ry hr f p
  unfold fCmp isW at f
  simp only at f
  split at f
  · cases ry
    exact ⟨rfl, by rw [isNon_of rx]; exact p.here hr f rfl⟩
  · exact f.elim
theorem sim_in : Sim2 K (fCmp .In) (fun x y H Q => rInT K false x y H Q ∨ rInD K x y H Q) := by
  intro x y h H vx vy Qd Q rx ry hr f p
  unfold fCmp inW at f
  simp only at f
  split at f
  · obtain ⟨n, d, ds, h1, h2, h3, h4, q⟩ := f
    obtain ⟨a, vs, e1, e2, e3⟩ := ry
    subst e1
    exact .inl ⟨d, ds, dp_of (rf_ok hr n) _ _ _ rx h1, .tup e2.sq (dps_of (rf_ok hr n) _ _ _ e3 h2), h3, h4, p.here hr q rfl⟩
  · obtain ⟨ys, n, d, ds, h0, h1, h2, h3, h4, q⟩ := f
    cases ry
    obtain ⟨vs, a1, a2⟩ := hr _ _ h0
    exact .inr ⟨d, ds, (dp_of (rf_ok hr n) _ _ _ rx h1).lay (SeqAt.canLay_of_shaped h3), DpE.lay (.lst (SqL.of a1) (dps_of (rf_ok hr n) _ _ _ a2 h2)) (SeqAt.canLay_of_shaped h4), h3, h4, p.here hr q rfl⟩
  · exact f.elim
theorem sim_notin : Sim2 K (fCmp .NotIn) (fun x y H Q => rInT K true x y H Q ∨ rNotInD K x y H Q) := by
  intro x y h H vx vy Qd Q rx ry hr f p
  unfold fCmp inW at f
  simp only at f
  split at f
  · obtain ⟨n, d, ds, h1, h2, h3, h4, q⟩ := f
    obtain ⟨a, vs, e1, e2, e3⟩ := ry
    subst e1
    exact .inl ⟨d, ds, dp_of (rf_ok hr n) _ _ _ rx h1, .tup e2.sq (dps_of (rf_ok hr n) _ _ _ e3 h2), h3, h4, p.here hr q rfl⟩
  · obtain ⟨ys, n, d, ds, h0, h1, h2, h3, h4, q⟩ := f
    cases ry
    obtain ⟨vs, a1, a2⟩ := hr _ _ h0
    exact .inr ⟨d, ds, (dp_of (rf_ok hr n) _ _ _ rx h1).lay (SeqAt.canLay_of_shaped h3), DpE.lay (.lst (SqL.of a1) (dps_of (rf_ok hr n) _ _ _ a2 h2)) (SeqAt.canLay_of_shaped h4), h3, h4, p.here hr q rfl⟩
  · exact f.elim
theorem cmp_ok (hu : X.A.units + 65 < cLine) (op : CmpOp) : ∃ r, OpR X (compareOp op) r ∧ Sim2 X.K (fCmp op) r := by
  cases op
  case Eq => exact ⟨_, op_eq.or ((op_eqE (by omega)).or (op_eqN (by omega))), sim_eq⟩
  case NotEq => exact ⟨_, op_ne.or ((op_neE (by omega)).or (op_neN (by omega))), sim_ne⟩
  case Lt => exact ⟨_, op_lt, sim_lt _⟩
  case LtE => exact ⟨_, op_le, sim_lt _⟩
  case Gt => exact ⟨_, op_gt, sim_lt _⟩
  case GtE => exact ⟨_, op_ge.or (op_geL (by omega)), sim_ge⟩
  case Is => exact ⟨_, op_isN, sim_is⟩
  case IsNot => exact ⟨_, op_notN, sim_isnot⟩
  case In => exact ⟨_, (op_inT hu).or (op_inD hu), sim_in⟩
  case NotIn => exact ⟨_, (op_notInT hu).or (op_notInD hu), sim_notin⟩
end

/-! ### items, slices -/
def fIx : D → D → DH → WK → Prop
  | .tup xs, .int i, h, Q => ∃ d, atI xs i = some d ∧ Q d h
  | .ref a, .int i, h, Q => ∃ xs d, h a = some (.lst xs) ∧ atI xs i = some d ∧ Q d h
  | _, _, _, _ => False
def cutD (xs : List D) (lo hi : Option Int) : List D := (xs.drop (HT.sIx xs.length 0 lo)).take (HT.sIx xs.length xs.length hi - HT.sIx xs.length 0 lo)
def fSl : D → Option Int → Option Int → DH → WK → Prop
  | .tup xs, lo, hi, h, Q => Q (.tup (cutD xs lo hi)) h
  | .ref a, lo, hi, h, Q => ∃ xs, h a = some (.lst xs) ∧ ∀ p, h p = none → Q (.ref p) (dupd h p (.lst (cutD xs lo hi)))
  | .scr ns, lo, hi, h, Q => ∀ p, h p = none → Q (.ref p) (dupd h p (.lst (cutD (ns.map .int) lo hi)))
  | _, _, _, _, _ => False
section
variable {K : PySem.W.Frag} {H : Hp}
theorem atI_of {xs : List D} {vs : List V} (r : VRs K H xs vs) {i : Int} {d : D} (e : atI xs i = some d) : ∃ v, atI vs i = some v ∧ VR K H d v := by
  unfold atI at e ⊢
  rw [← r.length]
  cases q : ixN xs.length i with
  | none => rw [q] at e; cases e
  | some j =>
    rw [q] at e
    obtain ⟨v, a, b⟩ := r.get (show xs[j]? = some d from e)
    exact ⟨v, a, b⟩
theorem sim_ix : Sim2 K fIx (rIx K) := by
  intro x y h H vx vy Qd Q rx ry hr f p
  unfold fIx at f
  split at f
  · obtain ⟨d, e, q⟩ := f
    obtain ⟨a, vs, e1, e2, e3⟩ := rx
    subst e1
    cases ry
    obtain ⟨v, e4, e5⟩ := atI_of e3 e
    exact .inr (.inl ⟨a, vs, _, v, rfl, rfl, e2.sq, e4, p.here hr q e5⟩)
  · obtain ⟨xs, d, e0, e, q⟩ := f
    cases rx; cases ry
    obtain ⟨vs, a1, a2⟩ := hr _ _ e0
    obtain ⟨v, e4, e5⟩ := atI_of a2 e
    exact .inl ⟨_, vs, _, v, rfl, rfl, SqL.of a1, e4, p.here hr q e5⟩
  · exact f.elim
theorem cut_of {xs : List D} {vs : List V} (r : VRs K H xs vs) (lo hi : Option Int) : VRs K H (cutD xs lo hi) (cutV vs lo hi) := by
  unfold cutD cutV
  rw [r.length]
  exact (r.drop _).take _
theorem sim_sl : ∀ x lo hi h H vx (Qd : WK) (Q : VK), VR K H x vx → HR K h H → fSl x lo hi h Qd → Post K h H Qd Q → (rSlA K vx lo hi H Q ∨ rSlL K vx lo hi H Q) := by
  intro x lo hi h H vx Qd Q rx hr f p
  unfold fSl at f
  split at f
  · rename_i xs
    obtain ⟨a, vs, e1, e2, e3⟩ := rx
    subst e1
    refine .inl ⟨a, vs, rfl, e2.sq, fun w => ?_, fun _ q nq => p.tup hr (cut_of e3 lo hi) f nq⟩
    have hl := e3.length
    have : cutD xs lo hi = xs := by
      unfold cutD
      rw [hl, w.1, w.2, List.drop_zero, Nat.sub_zero, ← hl, List.take_length]
    rw [this] at f
    exact p.here hr f ⟨a, vs, rfl, e2, e3⟩
  · obtain ⟨xs, e0, q⟩ := f
    cases rx
    obtain ⟨vs, a1, a2⟩ := hr _ _ e0
    exact .inr ⟨_, vs, rfl, SqL.of a1, fun r nr => p.lst hr (cut_of a2 lo hi) q nr⟩
  · obtain ⟨a, rfl, e⟩ := rx
    exact .inr ⟨_, _, rfl, e.sql, fun r nr => p.lst hr (cut_of VRs.of_ints lo hi) f nr⟩
  · exact f.elim
end
end DL

set_option Elab.async false
set_option linter.all false
set_option maxRecDepth 100000
set_option maxHeartbeats 4000000
/-! DR2: min(xs, default=d) of a list of ints. -/
namespace PySem
open Sem (wp)
section
variable {prog : Program} {w : World} {A : Around} {R : Result → Shared → Prop} {I : Addr} {fp wr : List Addr} {n : Nat} {P : Nat → Value → Prop} {St : Nat → Heap → Prop}
def kwD (d : Value) : List (Str × Value) := [("default", d)]
theorem mind_again : (toString "min" ++ toString ".loop" : String) = "min.loop" := by decide
theorem mind_loop (dv : Value) (W : Walks prog w A.in1 I fp wr n P St) (bt : Nat → Nat → Bool) (cm : CmpOf prog w A.in1 .Lt P bt) (S : Addr) (no : S ∉ fp) :
    ∀ (k j : Nat) (s : Shared) (vb : Value) (c : Nat), n - (j + 1) = k → j + 1 ≤ n → St (j + 1) s.heap → P (argBest bt j) vb →
    s.heap.get? S = some { cls := .type "list", dict := none, data := .seq #[vb, vb] c, slots := #[] } →
    (∀ v h' tk, P (argBest bt (n - 1)) v → (∀ b o, b ∉ wr → b ≠ S → s.heap.get? b = some o → h'.get? b = some o) → R (.ok (.ret v)) { s with heap := h', toks := tk }) →
    codeAny (model prog w) A (.builtin "min.loop" ⟨[.ref I, .none, .ref S], kwD dv⟩) R s := by
  have no2 : S ∉ wr := fun z => no (W.sub _ z)
  intro k
  induction k with
  | zero =>
    intro j s vb c hk hj st pb e q
    have all : j + 1 = n := by omega
    refine codeAny_builtin F.entry_min_loop ?_
    rw [Around.under_plainId F.plain_min_loop _]
    show wpAny _ A.in1 (seqItems? (.ref S) >>= _) _ _ s
    refine wpAny_bind (wpAny_seqItems e rfl ?_)
    show wpAny _ A.in1 (tryCatch (pyNext (.ref I)) _ >>= _) _ _ s
    refine wpAny_bind (wpAny_tryCatch (W.done s _ _ (all ▸ st) fun h' tk keep => ?_))
    have e' := keep S _ no2 e
    show wpAny _ A.in1 (updateSeq S (fun _ => #[]) >>= _) _ _ _
    refine wpAny_bind ?_
    refine wpAny_updateSeq e' rfl (wpAny_bind (wpAny_letGo (wpAny_pure ?_)))
    exact q vb _ tk (by rw [← all]; exact pb) fun b o h1 h2 z => (Heap.get?_update_other _ _ (Ne.symm h2)).trans (keep b o h1 z)
  | succ k ih =>
    intro j s vb c hk hj st pb e q
    have more : j + 1 < n := by omega
    refine codeAny_builtin F.entry_min_loop ?_
    rw [Around.under_plainId F.plain_min_loop _]
    show wpAny _ A.in1 (seqItems? (.ref S) >>= _) _ _ s
    refine wpAny_bind (wpAny_seqItems e rfl ?_)
    show wpAny _ A.in1 (tryCatch (pyNext (.ref I)) _ >>= _) _ _ s
    refine wpAny_bind (wpAny_tryCatch (W.item (j + 1) s _ _ more st fun v h' tk pv st' keep => ?_))
    have e' := keep S _ no2 e
    show wpAny _ A.in1 (tryCatch (holding [v, v] (richCompare .Lt v vb >>= _)) _ >>= _) _ _ _
    refine wpAny_bind (wpAny_tryCatch (wpAny_holding (wpAny_bind (cm (j + 1) (argBest bt j) v vb _ _ _ pv pb ?_))))
    refine wpAny_bind (wpAny_holding (wpAny_truthy_bool ?_))
    refine wpAny_bind (wpAny_letGo (wpAny_pure ?_))
    cases hb : bt (j + 1) (argBest bt j) with
    | true =>
      simp only [if_true]
      refine wpAny_bind ?_
      refine wpAny_updateSeq e' rfl (wpAny_bind (wpAny_letGo ?_))
      rw [mind_again]
      refine wpAny_pure ⟨plainId_quiet F.plain_min_loop _, ih (j + 1) _ v _ (by omega) more (W.frame _ _ _ st' fun b hf o z => ?_) (by simp only [argBest, hb, if_true]; exact pv) (Heap.get?_update_self _ e' rfl) fun v2 h2 tk2 p2 keep2 => ?_⟩
      · exact (Heap.get?_update_other _ _ (fun y : S = b => no (by rw [y]; exact hf))).trans z
      · exact q v2 h2 tk2 p2 fun b o h1 h2 z => keep2 b o h1 h2 ((Heap.get?_update_other _ _ (Ne.symm h2)).trans (keep b o h1 z))
    | false =>
      simp only [Bool.false_eq_true, if_false]
      refine wpAny_bind (wpAny_letGo ?_)
      rw [mind_again]
      refine wpAny_pure ⟨plainId_quiet F.plain_min_loop _, ih (j + 1) _ vb c (by omega) more st' (by simp only [argBest, hb, Bool.false_eq_true, if_false]; exact pb) e' fun v2 h2 tk2 p2 keep2 => ?_⟩
      exact q v2 h2 tk2 p2 fun b o h1 h2 z => keep2 b o h1 h2 (keep b o h1 z)
theorem mind_first (dv : Value) (W : Walks prog w A.in1 I fp wr n P St) (bt : Nat → Nat → Bool) (cm : CmpOf prog w A.in1 .Lt P bt) (S : Addr) (no : S ∉ fp) {s : Shared} {c : Nat} (st : St 0 s.heap)
    (e : s.heap.get? S = some { cls := .type "list", dict := none, data := .seq #[] c, slots := #[] })
    (q : ∀ v h' tk, 0 < n → P (argBest bt (n - 1)) v → (∀ b o, b ∉ wr → b ≠ S → s.heap.get? b = some o → h'.get? b = some o) → R (.ok (.ret v)) { s with heap := h', toks := tk })
    (q0 : ∀ h' tk, n = 0 → (∀ b o, b ∉ wr → b ≠ S → s.heap.get? b = some o → h'.get? b = some o) → R (.ok (.ret dv)) { s with heap := h', toks := tk }) :
    codeAny (model prog w) A (.builtin "min.loop" ⟨[.ref I, .none, .ref S], kwD dv⟩) R s := by
  have no2 : S ∉ wr := fun z => no (W.sub _ z)
  refine codeAny_builtin F.entry_min_loop ?_
  rw [Around.under_plainId F.plain_min_loop _]
  show wpAny _ A.in1 (seqItems? (.ref S) >>= _) _ _ s
  refine wpAny_bind (wpAny_seqItems e rfl ?_)
  show wpAny _ A.in1 (tryCatch (pyNext (.ref I)) _ >>= _) _ _ s
  by_cases hn : n = 0
  · refine wpAny_bind (wpAny_tryCatch (W.done s _ _ (hn ▸ st) fun h' tk keep => ?_))
    refine wpAny_bind (wpAny_rule ?_)
    exact wpAny_pure (q0 _ tk hn fun b o h1 _ z => keep b o h1 z)
  · have hp : 0 < n := Nat.pos_of_ne_zero hn
    refine wpAny_bind (wpAny_tryCatch (W.item 0 s _ _ hp st fun v h' tk pv st' keep => ?_))
    have e' := keep S _ no2 e
    show wpAny _ A.in1 (updateSeq S (fun _ => #[v, v]) >>= _) _ _ _
    refine wpAny_bind ?_
    refine wpAny_updateSeq e' rfl ?_
    rw [mind_again]
    refine wpAny_pure ⟨plainId_quiet F.plain_min_loop _, mind_loop dv W bt cm S no _ 0 _ v _ rfl hp (W.frame _ _ _ st' fun b hf o z => ?_) pv (Heap.get?_update_self _ e' rfl) fun v2 h2 tk2 p2 keep2 => ?_⟩
    · exact (Heap.get?_update_other _ _ (fun y : S = b => no (by rw [y]; exact hf))).trans z
    · exact q v2 h2 tk2 hp p2 fun b o h1 h2 z => keep2 b o h1 h2 ((Heap.get?_update_other _ _ (Ne.symm h2)).trans (keep b o h1 z))
end
section
variable {prog : Program} {w : World} {A : Around} {E : Value → Shared → Prop} {s : Shared}
theorem F.args_minD (a d : Value) : argsOk "min" ⟨[a], kwD d⟩ := by unfold argsOk; kernel_rfl
theorem mind_call {x dv : Value} {Q : Value → Shared → Prop}
    (h : wpAny (model prog w) A.in1 (pyIter x) (fun it s2 => ∃ I fp wr n P St bt, it = .ref I ∧ Walks prog w A.in1 I fp wr n P St ∧ St 0 s2.heap ∧ (∀ b ∈ fp, b < s2.heap.objs.size) ∧ CmpOf prog w A.in1 .Lt P bt ∧
      (∀ v h' tk, 0 < n → P (argBest bt (n - 1)) v → (∀ b o, b ∉ wr → s2.heap.get? b = some o → h'.get? b = some o) → Q v { s2 with heap := h', toks := tk }) ∧
      (∀ h' tk, n = 0 → (∀ b o, b ∉ wr → s2.heap.get? b = some o → h'.get? b = some o) → Q dv { s2 with heap := h', toks := tk })) E s) :
    wpAny (model prog w) A (call (.builtin "min") [x] (kwD dv)) Q E s := by
  have hsig := F.args_minD x dv
  have main : wpAny (model prog w) A.in1 (Builtin.«min» ⟨[x], kwD dv⟩) (fun fin s' => match fin with
      | .done f => (match (Except.ok f : Result) with | .ok (.ret v) => Q v s' | .ok _ => False | .error e => E e s')
      | .again c' => c'.quiet = true ∧ codeAny (model prog w) A c' (fun r s' => match r with | .ok (.ret v) => Q v s' | .ok _ => False | .error e => E e s') s') E s := by
    show wpAny _ A.in1 (Builtin.Builtins.bindParams "min" ["key", "default"] 0 ⟨[], kwD dv⟩ >>= _) _ _ s
    refine wpAny_bind (wpAny_of_eq (show Builtin.Builtins.bindParams "min" ["key", "default"] 0 ⟨[], kwD dv⟩ = pure [none, some dv] from by with_unfolding_all rfl) ?_)
    refine wpAny_bind (wpAny_pure ?_)
    refine wpAny_bind (wpAny_mono h (fun it s2 h2 => ?_) fun _ _ e => e)
    obtain ⟨I, fp, wr, n, P, St, bt, rfl, W, st, hfp, cm, q, q0⟩ := h2
    refine wpAny_bind (wpAny_newObj_type ?_)
    have no : s2.heap.objs.size ∉ fp := fun z => Nat.lt_irrefl _ (hfp _ z)
    rw [mind_again]
    refine wpAny_pure ⟨plainId_quiet F.plain_min_loop _, mind_first dv W bt cm s2.heap.objs.size no (W.frame _ _ _ st fun b _ o e => Heap.get?_push_of_some _ e) (Heap.get?_push_size _ rfl) (fun v h' tk hn pv keep => ?_) fun h' tk hn keep => ?_⟩
    · exact q v h' tk hn pv fun b o hw e => keep b o hw (Nat.ne_of_lt (Heap.lt_size e)) (Heap.get?_push_of_some _ e)
    · exact q0 h' tk hn fun b o hw e => keep b o hw (Nat.ne_of_lt (Heap.lt_size e)) (Heap.get?_push_of_some _ e)
  refine wpAny_call (codeAny_call_builtin F.plain_min F.entry_min ?_)
  simp only [checkBuiltinCall, F.kind_min]
  cases hs : Manifest.signature? "min" with
  | none => exact wpAny_pure main
  | some sig =>
    simp only [argsOk, hs] at hsig
    have h2 : Bind.checkArgs "min" sig ⟨[x], kwD dv⟩ = pure () := hsig
    show wpAny _ A.in1 (Bind.checkArgs "min" sig ⟨[x], kwD dv⟩) _ _ s
    rw [h2]
    exact wpAny_pure main
theorem mind_ints {l : Addr} {xs : Array (Int × Tok)} {dv : Value} {Q : Value → Shared → Prop} (hh : A.handled = none) (hl : s.heap.IsList l (intItems xs))
    (q : ∀ v h' tk, 0 < xs.size → (intItems xs)[argBest (fun i j => decide (numAt xs i < numAt xs j)) (xs.size - 1)]? = some v → (∀ b o, s.heap.get? b = some o → h'.get? b = some o) → Q v { s with heap := h', toks := tk })
    (q0 : ∀ h' tk, xs.size = 0 → (∀ b o, s.heap.get? b = some o → h'.get? b = some o) → Q dv { s with heap := h', toks := tk }) :
    wpAny (model prog w) A (call (.builtin "min") [.ref l] (kwD dv)) Q E s := by
  refine mind_call (iter_intList hl fun s2 e st hfp hlI => ?_)
  subst e
  refine ⟨_, _, _, _, _, _, _, rfl, Walks.list (A := A.in1) hh _ l hlI (intItems xs), st, hfp, CmpOf.ints_lt (numAt xs) (fun _ _ => intItems_at), fun v h' tk hn hP hk => ?_, fun h' tk hn hk => ?_⟩
  · exact q v h' tk (by simpa [intItems] using hn) (by simpa [intItems] using hP) (old_kept hk)
  · exact q0 h' tk (by simpa [intItems] using hn) (old_kept hk)
end
end PySem
namespace DL
open PySem PySem.Spec PyProof.Rows L2
/-- the least of a list of ints, or what stands for none -/
def leastOr (d : Int) : List Int → Int
  | [] => d
  | [x] => x
  | x :: y :: r => min x (leastOr d (y :: r))
theorem leastOr_mem (d : Int) : ∀ (ns : List Int), ns ≠ [] → leastOr d ns ∈ ns
  | [], h => absurd rfl h
  | [x], _ => List.mem_singleton.mpr rfl
  | x :: y :: r, _ => by
    have ih := leastOr_mem d (y :: r) (by simp)
    show min x (leastOr d (y :: r)) ∈ x :: y :: r
    by_cases c : x ≤ leastOr d (y :: r)
    · rw [Int.min_eq_left c]; exact List.mem_cons_self
    · rw [Int.min_eq_right (by omega)]; exact List.mem_cons_of_mem _ ih
theorem leastOr_le (d : Int) : ∀ (ns : List Int) (z : Int), z ∈ ns → leastOr d ns ≤ z
  | [], _, h => nomatch h
  | [x], z, h => by rw [List.mem_singleton.mp h]; exact Int.le_refl _
  | x :: y :: r, z, h => by
    have ih := leastOr_le d (y :: r)
    show min x (leastOr d (y :: r)) ≤ z
    rcases List.mem_cons.mp h with e | h
    · subst e; exact Int.min_le_left _ _
    · exact Int.le_trans (Int.min_le_right _ _) (ih z h)
theorem leastOr_eq {d : Int} {ns : List Int} {m : Int} (h1 : m ∈ ns) (h2 : ∀ z ∈ ns, m ≤ z) : leastOr d ns = m := by
  have a := leastOr_le d ns m h1
  have b := h2 _ (leastOr_mem d ns (fun e => by subst e; cases h1))
  omega
section
variable {X : Cx}
/-- min(xs, default=d) -/
def tMinD (K : PySem.W.Frag) (ta : TA) (td : TE) : TE := fun σ H Q => ta σ H fun vs H1 => td σ H1 fun y H2 => ∃ (a : Addr) (ns : List Int) (d : Int), vs = [.ref a] ∧ y = .int d ∧ SqL K H2 a (ns.map V.int) ∧ Q (.int (leastOr d ns)) H2
theorem pe_minD {e f : Expr} {ta : TA} {tf : TE} {p kp pos : Pos} (hc : X.calm = true) (hg : Gl X "min") (hm : X.mg "min" = none) (ha : PA X [e] ta) (hf : PE X f tf) (hns : starEach [e] X.env = [(false, eval e X.env)]) :
    PE X (.Call (.Name "min" p) [e] [⟨some "default", f, kp⟩] pos) (tMinD X.K ta tf) := by
  refine ⟨fun pins s σ H Q I h => ?_⟩
  refine wpAny_Call_Name_kw (ld_blt I hg hm boot_min ?_)
  refine callWith_kw (e := e) (rest := []) (thn (ha.run pos pins s σ H _ I h) fun us s1 ⟨vs, H1, I1, r1, q1⟩ => ?_) (by rw [hns]; rfl) (by rw [hns]; rfl)
  refine kws_cons (thn (hf.run pins s1 σ H1 _ I1 q1) fun u s2 ⟨y, H2, I2, r2, a, ns, d, e1, e2, hl, q⟩ => kws_nil ?_)
  subst e1; subst e2
  rw [Vals.ref1 r1]
  show wpAny _ _ (call (.builtin "min") [.ref a] (kwD u)) _ _ _
  obtain ⟨its, rv, pl, _⟩ := I2.list hl
  have ri := rv.ints
  obtain ⟨xs, ex⟩ := ri.allInts.items
  have hn : numsOf (intItems xs).toList = ns := by rw [← ex]; exact ri.numsOf
  rw [nums_intItems] at hn
  subst hn
  have pl' := pl.isList
  rw [ex] at pl'
  refine mind_ints (I2.ok.hd hc) pl' (fun v h' tk hn hv hk => ?_) fun h' tk hn hk => ?_
  · obtain ⟨t, rfl⟩ := intItems_at hv
    obtain ⟨h1, h2⟩ := argBest_lt (numAt xs) (xs.size - 1)
    refine ⟨.int _, H2, I2.kept hk, ⟨t, ?_⟩, q⟩
    congr 1
    refine (leastOr_eq ?_ fun z hz => ?_).symm
    · rw [numAt_eq]; exact PySem.getD_mem (by rw [List.length_map, Array.length_toList]; omega)
    · obtain ⟨j, hj, rfl⟩ := mem_getD hz
      rw [List.length_map, Array.length_toList] at hj
      rw [← numAt_eq]; exact h2 j (by omega)
  · obtain ⟨t, rfl⟩ := r2
    refine ⟨.int _, H2, I2.kept hk, ⟨t, ?_⟩, q⟩
    congr 1
    have : xs = #[] := Array.eq_empty_of_size_eq_zero hn
    subst this
    rfl
end
end DL

set_option Elab.async false
set_option linter.all false
set_option maxRecDepth 100000
set_option maxHeartbeats 4000000
/-! DR9: the greatest and the least of a tuple of numbers. -/
namespace DL
open PySem PySem.Spec PyProof.Rows L2
section
variable {prog : Program} {w : World} {A : Around} {E : Value → Shared → Prop} {s : Shared} {l : Addr} {xs : Array (Int × Tok)}
theorem iter_intTup {Q : Value → Shared → Prop} (hl : s.heap.IsTuple l (intItems xs))
    (h : ∀ s₂ : Shared, s₂ = { s with heap := s.heap.push { cls := .type "tuple_iterator", data := .fields #[.ref l, .int 0 0] } } →
      (s₂.heap.IsTupleIter s.heap.objs.size l 0 ∧ s₂.heap.IsTuple l (intItems xs)) → (∀ b ∈ [s.heap.objs.size, l], b < s₂.heap.objs.size) → l ≠ s.heap.objs.size → Q (.ref s.heap.objs.size) s₂) :
    wpAny (model prog w) A (pyIter (.ref l)) Q E s := by
  obtain ⟨o, ho, hc, n, hd⟩ := id hl
  have hlt : l < s.heap.objs.size := Heap.lt_size ho
  refine wpAny_pyIter_tuple hl (h _ rfl ⟨⟨_, Heap.get?_push_size _ rfl, rfl, rfl⟩, hl.at fun o e => Heap.get?_push_of_some _ e⟩ (fun b hb => ?_) (Nat.ne_of_lt hlt))
  show b < (s.heap.push _).objs.size
  rw [Heap.size_push]
  rcases List.mem_cons.mp hb with rfl | hb
  · exact Nat.lt_succ_self _
  · rcases List.mem_cons.mp hb with rfl | hb
    · exact Nat.lt_succ_of_lt hlt
    · cases hb
theorem old_keptT {o : Obj} {h' : Heap} (hk : ∀ b ob, b ∉ [s.heap.objs.size] → (s.heap.push o).get? b = some ob → h'.get? b = some ob) :
    ∀ b ob, s.heap.get? b = some ob → h'.get? b = some ob := fun b ob e => by
  refine hk b ob (fun hm => ?_) (Heap.get?_push_of_some _ e)
  rcases List.mem_cons.mp hm with e1 | hm
  · exact absurd (e1 ▸ Heap.lt_size e) (Nat.lt_irrefl _)
  · cases hm
theorem max_intTup {Q : Value → Shared → Prop} (hh : A.handled = none) (hl : s.heap.IsTuple l (intItems xs)) (hne : 0 < xs.size)
    (h : ∀ v h' tk, (intItems xs)[argBest (fun i j => decide (numAt xs i > numAt xs j)) (xs.size - 1)]? = some v → (∀ b o, s.heap.get? b = some o → h'.get? b = some o) → Q v { s with heap := h', toks := tk }) :
    wpAny (model prog w) A (call (.builtin "max") [.ref l]) Q E s := by
  refine call_max_walk (iter_intTup hl fun s₂ e st hfp hlI => ?_)
  subst e
  refine ⟨_, _, _, _, _, _, _, rfl, Walks.tuple (A := A.in1) hh _ l hlI (intItems xs), st, hfp, by simpa [intItems] using hne, CmpOf.ints_gt (PySem.numAt xs) (fun _ _ => intItems_at), fun v h' tk hP hk => ?_⟩
  exact h v h' tk (by simpa [intItems] using hP) (old_keptT hk)
theorem min_intTup {Q : Value → Shared → Prop} (hh : A.handled = none) (hl : s.heap.IsTuple l (intItems xs)) (hne : 0 < xs.size)
    (h : ∀ v h' tk, (intItems xs)[argBest (fun i j => decide (numAt xs i < numAt xs j)) (xs.size - 1)]? = some v → (∀ b o, s.heap.get? b = some o → h'.get? b = some o) → Q v { s with heap := h', toks := tk }) :
    wpAny (model prog w) A (call (.builtin "min") [.ref l]) Q E s := by
  refine call_min_walk (iter_intTup hl fun s₂ e st hfp hlI => ?_)
  subst e
  refine ⟨_, _, _, _, _, _, _, rfl, Walks.tuple (A := A.in1) hh _ l hlI (intItems xs), st, hfp, by simpa [intItems] using hne, CmpOf.ints_lt (PySem.numAt xs) (fun _ _ => intItems_at), fun v h' tk hP hk => ?_⟩
  exact h v h' tk (by simpa [intItems] using hP) (old_keptT hk)
end
section
variable {X : Cx}
def rMaxA (K : PySem.W.Frag) : List V → Hp → VK → Prop := fun vs H Q => ∃ (a : Addr) (ns : List Int), vs = [V.ref a] ∧ (SqL K H a (ns.map V.int) ∨ SqT K H a (ns.map V.int)) ∧ 0 < ns.length ∧ ∀ m, m ∈ ns → (∀ y, y ∈ ns → y ≤ m) → Q (.int m) H
def rMinA (K : PySem.W.Frag) : List V → Hp → VK → Prop := fun vs H Q => ∃ (a : Addr) (ns : List Int), vs = [V.ref a] ∧ (SqL K H a (ns.map V.int) ∨ SqT K H a (ns.map V.int)) ∧ 0 < ns.length ∧ ∀ m, m ∈ ns → (∀ y, y ∈ ns → m ≤ y) → Q (.int m) H
theorem cr_maxA (hc : X.calm = true) : CallR X (.builtin "max") (rMaxA X.K) := by
  intro pins s σ H vs us Q I r h
  obtain ⟨a, ns, rfl, hs | hs, hne, q⟩ := h
  · exact cr_max hc pins s σ H _ us Q I r ⟨a, ns, rfl, hs, hne, q⟩
  · obtain ⟨its, rv, ht, _⟩ := I.tuple hs
    rw [Vals.ref1 r]
    have ht : s.heap.IsTuple a its.toArray := ht
    obtain ⟨xs, e⟩ := rv.ints.allInts.items
    have hn : numsOf (intItems xs).toList = ns := by rw [← e]; exact rv.ints.numsOf
    rw [nums_intItems] at hn
    subst hn
    rw [e] at ht
    have hsz : 0 < xs.size := by simpa using hne
    refine max_intTup (I.ok.hd hc) ht hsz fun v h' tk hv hk => ?_
    obtain ⟨t, rfl⟩ := intItems_at hv
    obtain ⟨h1, h2⟩ := argBest_gt (PySem.numAt xs) (xs.size - 1)
    refine ⟨.int _, H, I.kept hk, ⟨_, rfl⟩, q _ ?_ fun b hb => ?_⟩
    · rw [numAt_eq]; exact PySem.getD_mem (by rw [List.length_map, Array.length_toList]; omega)
    · obtain ⟨j, hj, rfl⟩ := mem_getD hb
      rw [List.length_map, Array.length_toList] at hj
      rw [← numAt_eq]; exact h2 j (by omega)
theorem cr_minA (hc : X.calm = true) : CallR X (.builtin "min") (rMinA X.K) := by
  intro pins s σ H vs us Q I r h
  obtain ⟨a, ns, rfl, hs | hs, hne, q⟩ := h
  · exact cr_min hc pins s σ H _ us Q I r ⟨a, ns, rfl, hs, hne, q⟩
  · obtain ⟨its, rv, ht, _⟩ := I.tuple hs
    rw [Vals.ref1 r]
    have ht : s.heap.IsTuple a its.toArray := ht
    obtain ⟨xs, e⟩ := rv.ints.allInts.items
    have hn : numsOf (intItems xs).toList = ns := by rw [← e]; exact rv.ints.numsOf
    rw [nums_intItems] at hn
    subst hn
    rw [e] at ht
    have hsz : 0 < xs.size := by simpa using hne
    refine min_intTup (I.ok.hd hc) ht hsz fun v h' tk hv hk => ?_
    obtain ⟨t, rfl⟩ := intItems_at hv
    obtain ⟨h1, h2⟩ := argBest_lt (PySem.numAt xs) (xs.size - 1)
    refine ⟨.int _, H, I.kept hk, ⟨_, rfl⟩, q _ ?_ fun b hb => ?_⟩
    · rw [numAt_eq]; exact PySem.getD_mem (by rw [List.length_map, Array.length_toList]; omega)
    · obtain ⟨j, hj, rfl⟩ := mem_getD hb
      rw [List.length_map, Array.length_toList] at hj
      rw [← numAt_eq]; exact h2 j (by omega)
end
end DL

set_option Elab.async false
set_option linter.all false
set_option maxRecDepth 100000
/-! DL3: built-ins and methods of built-in types over D. -/
namespace DL
open PySem PySem.Spec PyProof.Rows L2

/-! ### repr -/
/-- the text of x may be made: its data, its size -/
def Shows (h : DH) (x : D) (d : PyData) : Prop := ∃ n, pyW (rfN h n) x = some d ∧ d.showable = true ∧ d.depth ≤ 64 ∧ d.shown.length ≤ 16777216
def fRepr : D → DH → WK → Prop := fun x h Q => ∃ d, (Shows h x d ∨ ∃ a, x = .ref a ∧ h a = some (.dk []) ∧ d = .dict []) ∧ Q (.str d.shown) h
def rRepr (K : PySem.W.Frag) : List V → Hp → VK → Prop := fun vs H Q => ∃ x d, vs = [x] ∧ ((DpE K H x d ∧ d.showable = true ∧ d.depth ≤ 64 ∧ d.shown.length ≤ 16777216) ∨ ∃ a, x = .ref a ∧ H a = some (.dK []) ∧ d = .dict []) ∧ Q (.str d.shown) H
theorem cr_repr {X : Cx} (hg : X.A.guards = some []) (hu : X.A.units + 70 < cLine) : CallR X (.builtin "repr") (rRepr X.K) := by
  intro pins s σ H xs us Q I r h
  obtain ⟨x, d, rfl, hd, q⟩ := h
  obtain ⟨u, rfl, rx⟩ := vals1 r
  have hs : sizeLine = 16777216 := sizeLine_eq
  rcases hd with ⟨hd, h1, h2, h3⟩ | ⟨a, rfl, ha, rfl⟩
  · cases hd with
    | non => cases rx; exact PySem.P.repr_of_none ⟨.str _, H, I.tok _, ⟨_, rfl⟩, by simpa only [PyData.shown] using q⟩
    | bl b => cases rx; exact PySem.P.repr_of_bool ⟨.str _, H, I.tok _, ⟨_, rfl⟩, by simpa only [PyData.shown] using q⟩
    | int i =>
      obtain ⟨t, rfl⟩ := rx
      exact PySem.P.repr_of_int (by simpa [PyData.showable] using h1) ⟨.str _, H, I.tok _, ⟨_, rfl⟩, by simpa only [PyData.shown] using q⟩
    | str z =>
      obtain ⟨t, rfl⟩ := rx
      exact PySem.P.repr_of_str ⟨.str _, H, I.tok _, ⟨_, rfl⟩, by simpa only [PyData.shown] using q⟩ (by simp only [PyData.shown] at h3; omega)
    | lst hl ha =>
      cases rx
      exact repr_of_dpe I (.lst hl ha) h1 (by omega) hg (by omega) (fun h' u tk hk => ⟨.str _, H, I.kept hk, ⟨_, rfl⟩, q⟩)
    | tup hl ha =>
      cases rx
      exact repr_of_dpe I (.tup hl ha) h1 (by omega) hg (by omega) (fun h' u tk hk => ⟨.str _, H, I.kept hk, ⟨_, rfl⟩, q⟩)
    | dk ha =>
      cases rx
      exact repr_of_dpe I (.dk ha) h1 (by omega) hg (by omega) (fun h' u tk hk => ⟨.str _, H, I.kept hk, ⟨_, rfl⟩, q⟩)
  · cases rx
    obtain ⟨_, hsys, vs, kv, o, es, ep, ho, hex, hdat, _, hent, _⟩ := I.hok a _ ha
    cases kv
    have e0 : es.toList = [] := by
      cases q : es.toList with
      | nil => rfl
      | cons x y => rw [q] at hent; cases hent
    have rd : Reads s.heap (.ref a) (.dict []) (a :: [] ++ []) := .dict ho hex.1 hdat (by rw [e0]; exact .nil) (by rw [e0]; exact .nil)
    have hsh : (PyData.dict []).showable = true := by simp [PyData.showable, PyData.showableKv]
    have hdp : (PyData.dict []).depth ≤ 1 := by simp [PyData.depth, PyData.depthKv]
    have hln : (PyData.dict []).shown.length ≤ sizeLine := by rw [hs]; simp only [PyData.shown, PyData.shownKv]; decide +kernel
    exact repr_of_reads' rd hsh (fun _ z => by simp at z; subst z; simp at hsys) hg (by omega) (fun _ _ e => e) (fun h' u tk hk => ⟨.str _, H, I.kept hk, ⟨_, rfl⟩, q⟩) hln
theorem sim_repr {K : PySem.W.Frag} : SimL K (fun xs h Q => match xs with | [x] => fRepr x h Q | _ => False) (rRepr K) := by
  intro xs h H vs Qd Q rx hr f p
  split at f
  · obtain ⟨v, t, e1, e2, e3⟩ := rx
    cases e3
    subst e1
    obtain ⟨d, hd, q⟩ := f
    refine ⟨v, d, rfl, ?_, p.here hr q rfl⟩
    rcases hd with ⟨n, h1, h2, h3, h4⟩ | ⟨a, rfl, ha, rfl⟩
    · exact .inl ⟨dp_of (rf_ok hr n) _ _ _ e2 h1, h2, h3, h4⟩
    · cases e2
      obtain ⟨kvs, e, q⟩ := hr _ _ ha
      cases q
      exact .inr ⟨a, rfl, e, rfl⟩
  · exact f.elim

/-! ### the others -/
def mostOr (d : Int) (ns : List Int) : Int := -(leastOr (-d) (ns.map fun z => -z))
theorem mostOr_eq {d : Int} {ns : List Int} {m : Int} (h1 : m ∈ ns) (h2 : ∀ z ∈ ns, z ≤ m) : mostOr d ns = m := by
  unfold mostOr
  rw [leastOr_eq (m := -m) (List.mem_map.mpr ⟨m, h1, rfl⟩) (fun z hz => by
    obtain ⟨y, hy, rfl⟩ := List.mem_map.mp hz
    have := h2 y hy
    omega)]
  omega
def lstOf (h : DH) (x : D) : Option (List D) :=
  match x with
  | .ref a => match h a with
    | some (.lst xs) => some xs
    | _ => none
  | _ => none
def seqOf (h : DH) (x : D) : Option (List D) :=
  match x with
  | .tup xs => some xs
  | x => lstOf h x
inductive Blt where
  | len | tuple | list | min | max | sum | all | any | repr | abs | int | str | sorted
def fLen : D → DH → WK → Prop
  | .str s, h, Q => s.length ≤ 16777216 ∧ Q (.int s.length) h
  | x, h, Q => ∃ xs, seqOf h x = some xs ∧ Q (.int xs.length) h
def on1 (g : D → DH → WK → Prop) : List D → DH → WK → Prop
  | [x], h, Q => g x h Q
  | _, _, _ => False
def fTuple : D → DH → WK → Prop := fun x h Q => ∃ xs, seqOf h x = some xs ∧ Q (.tup xs) h
def fList : D → DH → WK → Prop := fun x h Q => ∃ xs, seqOf h x = some xs ∧ ∀ p, h p = none → Q (.ref p) (dupd h p (.lst xs))
def fSorted : D → DH → WK → Prop := fun x h Q => ∃ ns : List Int, lstOf h x = some (ns.map D.int) ∧ ns.length < 64 ∧ ∀ (ns' : List Int) (p : Addr), ns'.Perm ns → ns'.Pairwise (· ≤ ·) → h p = none → Q (.ref p) (dupd h p (.lst (ns'.map D.int)))
def fInts (g : List Int → Int) : D → DH → WK → Prop := fun x h Q => ∃ ns : List Int, seqOf h x = some (ns.map D.int) ∧ ns ≠ [] ∧ Q (.int (g ns)) h
def fSum : D → DH → WK → Prop := fun x h Q => ∃ ns : List Int, seqOf h x = some (ns.map D.int) ∧ Q (.int ns.sum) h
def fBls (g : List Bool → Bool) : D → DH → WK → Prop := fun x h Q => ∃ bs : List Bool, lstOf h x = some (bs.map D.bl) ∧ Q (.bl (g bs)) h
def fTwo (g : Int → Int → Int) : D → D → DH → WK → Prop
  | .int i, .int j, h, Q => Q (.int (g i j)) h
  | _, _, _, _ => False
def fMM (g : List Int → Int) (g2 : Int → Int → Int) : List D → DH → WK → Prop
  | [x], h, Q => fInts g x h Q
  | [x, y], h, Q => fTwo g2 x y h Q
  | _, _, _ => False
def fAbs : D → DH → WK → Prop
  | .int i, h, Q => Q (.int (i.natAbs : Int)) h
  | _, _, _ => False
def fInt : D → DH → WK → Prop
  | .int i, h, Q => Q (.int i) h
  | .bl b, h, Q => Q (.int (if b then 1 else 0)) h
  | _, _, _ => False
def fStr : D → DH → WK → Prop
  | .int i, h, Q => i.natAbs.log2 < 1920 ∧ Q (.str (toString i)) h
  | _, _, _ => False
def fBlt : Blt → List D → DH → WK → Prop
  | .len => on1 fLen
  | .tuple => on1 fTuple
  | .list => on1 fList
  | .min => fMM (leastOr 0) min
  | .max => fMM (mostOr 0) max
  | .sum => on1 fSum
  | .all => on1 (fBls fun bs => bs.all id)
  | .any => on1 (fBls fun bs => bs.any id)
  | .repr => on1 fRepr
  | .abs => on1 fAbs
  | .int => on1 fInt
  | .str => on1 fStr
  | .sorted => on1 fSorted
section
variable {K : PySem.W.Frag} {H : Hp} {h : DH}
theorem lstOf_ok (hr : HR K h H) {x : D} {v : V} (rx : VR K H x v) {xs : List D} (e : lstOf h x = some xs) : ∃ a vs, x = .ref a ∧ v = .ref a ∧ h a = some (.lst xs) ∧ H a = some (.lst vs) ∧ VRs K H xs vs := by
  unfold lstOf at e
  split at e
  · split at e
    · cases rx
      cases e
      rename_i a _ q
      obtain ⟨vs, a1, a2⟩ := hr _ _ q
      exact ⟨a, vs, rfl, rfl, q, a1, a2⟩
    · cases e
  · cases e
theorem seqOf_ok (hr : HR K h H) {x : D} {v : V} (rx : VR K H x v) {xs : List D} (e : seqOf h x = some xs) : ∃ a vs, v = .ref a ∧ (SqL K H a vs ∨ TpT K H xs a vs) ∧ VRs K H xs vs := by
  unfold seqOf at e
  split at e
  · cases e
    obtain ⟨a, vs, e1, e2, e3⟩ := rx
    exact ⟨a, vs, e1, .inr e2, e3⟩
  · obtain ⟨a, vs, _, e1, _, e2, e3⟩ := lstOf_ok hr rx e
    exact ⟨a, vs, e1, .inl (SqL.of e2), e3⟩
theorem one_of {x : D} {vs : List V} (r : VRs K H [x] vs) : ∃ v, vs = [v] ∧ VR K H x v := by
  obtain ⟨v, t, e1, e2, e3⟩ := r
  cases e3
  exact ⟨v, e1, e2⟩
theorem two_of {x y : D} {vs : List V} (r : VRs K H [x, y] vs) : ∃ v w, vs = [v, w] ∧ VR K H x v ∧ VR K H y w := by
  obtain ⟨v, t, e1, e2, e3⟩ := r
  obtain ⟨w, rfl, e4⟩ := one_of e3
  exact ⟨v, w, e1, e2, e4⟩
end
/-- a built-in's name: a function or a type -/
def Blt.name : Blt → Str
  | .len => "len" | .tuple => "tuple" | .list => "list" | .min => "min" | .max => "max" | .sum => "sum" | .all => "all" | .any => "any" | .repr => "repr" | .abs => "abs" | .int => "int" | .str => "str" | .sorted => "sorted"
/-- it is carried by a rule -/
def BltOk (X : Cx) (x : Str) (f : List D → DH → WK → Prop) : Prop :=
  ∃ r, SimL X.K f r ∧ x ≠ "__name__" ∧ (x == ("__debug__" : Str)) = false ∧ ((∃ id, bootBuiltins x = some (.builtin id) ∧ CallR X (.builtin id) r) ∨ ∃ T, bootBuiltins x = some (.type T) ∧ CallR X (.type T) r)
section
variable {X : Cx}
theorem on1_ok {g : D → DH → WK → Prop} {r : List V → Hp → VK → Prop} (k : ∀ x h H v (Qd : WK) (Q : VK), VR X.K H x v → HR X.K h H → g x h Qd → Post X.K h H Qd Q → r [v] H Q) : SimL X.K (on1 g) r := by
  intro xs h H vs Qd Q rx hr f p
  unfold on1 at f
  split at f
  · obtain ⟨v, rfl, e2⟩ := one_of rx
    exact k _ h H v Qd Q e2 hr f p
  · exact f.elim
theorem blt_len : BltOk X "len" (fBlt .len) := by
  refine ⟨_, on1_ok fun x h H v Qd Q e2 hr f p => ?_, by decide, by decide, .inl ⟨_, PySem.boot_len, call_len⟩⟩
  unfold fLen at f
  split at f
  · cases e2
    exact ⟨_, _, rfl, ⟨by rw [sizeLine_eq]; exact f.1, rfl⟩, p.here hr f.2 rfl⟩
  · obtain ⟨xs, e, q⟩ := f
    obtain ⟨a, vs, rfl, hs, hv⟩ := seqOf_ok hr e2 e
    refine ⟨_, vs.length, rfl, hs.elim (fun z => .inl ⟨vs, z, rfl⟩) (fun z => .inr ⟨vs, z.sq, rfl⟩), ?_⟩
    rw [← hv.length]
    exact p.here hr q rfl
theorem blt_tuple : BltOk X "tuple" (fBlt .tuple) := by
  refine ⟨_, on1_ok fun x h H v Qd Q e2 hr f p => ?_, by decide, by decide, .inr ⟨_, by decide +kernel, call_tuple_of⟩⟩
  obtain ⟨xs, e, q⟩ := f
  obtain ⟨a, vs, rfl, hs, hv⟩ := seqOf_ok hr e2 e
  refine ⟨a, vs, rfl, ?_⟩
  rcases hs with z | z
  · exact .inl ⟨z, fun l nl => p.tup hr hv q nl⟩
  · exact .inr ⟨z.sq, p.here hr q ⟨a, vs, rfl, z, hv⟩⟩
theorem blt_list : BltOk X "list" (fBlt .list) := by
  refine ⟨_, on1_ok fun x h H v Qd Q e2 hr f p => ?_, by decide, by decide, .inr ⟨_, by decide +kernel, call_list_of⟩⟩
  obtain ⟨xs, e, q⟩ := f
  obtain ⟨a, vs, rfl, hs, hv⟩ := seqOf_ok hr e2 e
  exact ⟨a, vs, rfl, hs.imp id TpT.sq, fun l nl => p.lst hr hv q nl⟩
theorem blt_sorted : BltOk X "sorted" (fBlt .sorted) := by
  refine ⟨_, on1_ok fun x h H v Qd Q e2 hr f p => ?_, by decide, by decide, .inl ⟨_, by decide +kernel, cr_sorted⟩⟩
  obtain ⟨ns, e, l, q⟩ := f
  obtain ⟨a, vs, _, rfl, _, e3, hv⟩ := lstOf_ok hr e2 e
  have := hv.ints
  subst this
  exact ⟨a, ns, rfl, SqL.of e3, l, fun ns' p' pm so np => p.lst hr VRs.of_ints (fun b nb => q ns' b pm so nb) np⟩
theorem two_ok {g : Int → Int → Int} {x y : D} {h : DH} {H : Hp} {vs : List V} {Qd : WK} {Q : VK} (rx : VRs X.K H [x, y] vs) (hr : HR X.K h H) (f : fTwo g x y h Qd) (p : Post X.K h H Qd Q) : ∃ i j, vs = [.int i, .int j] ∧ Q (.int (g i j)) H := by
  obtain ⟨v, w, rfl, e2, e3⟩ := two_of rx
  unfold fTwo at f
  split at f
  · cases e2; cases e3
    exact ⟨_, _, rfl, p.here hr f rfl⟩
  · exact f.elim
theorem blt_min (hc : X.calm = true) : BltOk X "min" (fBlt .min) := by
  refine ⟨fun xs H Q => rMinA X.K xs H Q ∨ ∃ i j, xs = [.int i, .int j] ∧ Q (.int (if j < i then j else i)) H, ?_, by decide, by decide, .inl ⟨_, boot_min, (cr_minA hc).or (call_min2 hc)⟩⟩
  intro xs h H vs Qd Q rx hr f p
  show rMinA X.K vs H Q ∨ _
  have f : fMM (leastOr 0) min xs h Qd := f
  unfold fMM at f
  split at f
  · obtain ⟨v, rfl, e2⟩ := one_of rx
    obtain ⟨ns, e, ne, q⟩ := f
    obtain ⟨a, vs, rfl, e3, hv⟩ := seqOf_ok hr e2 e
    have := hv.ints
    subst this
    refine .inl ⟨a, ns, rfl, e3.imp id TpT.sq, List.length_pos_iff.mpr ne, fun m h1 h2 => ?_⟩
    rw [← leastOr_eq (d := 0) h1 h2]
    exact p.here hr q rfl
  · obtain ⟨i, j, rfl, q⟩ := two_ok rx hr f p
    refine .inr ⟨i, j, rfl, ?_⟩
    have : (if j < i then j else i) = min i j := by
      by_cases c : j < i
      · rw [if_pos c, Int.min_eq_right (by omega)]
      · rw [if_neg c, Int.min_eq_left (by omega)]
    rw [this]
    exact q
  · exact f.elim
theorem blt_max (hc : X.calm = true) : BltOk X "max" (fBlt .max) := by
  refine ⟨fun xs H Q => rMaxA X.K xs H Q ∨ ∃ i j, xs = [.int i, .int j] ∧ Q (.int (if j > i then j else i)) H, ?_, by decide, by decide, .inl ⟨_, by decide +kernel, (cr_maxA hc).or (call_max2 hc)⟩⟩
  intro xs h H vs Qd Q rx hr f p
  show rMaxA X.K vs H Q ∨ _
  have f : fMM (mostOr 0) max xs h Qd := f
  unfold fMM at f
  split at f
  · obtain ⟨v, rfl, e2⟩ := one_of rx
    obtain ⟨ns, e, ne, q⟩ := f
    obtain ⟨a, vs, rfl, e3, hv⟩ := seqOf_ok hr e2 e
    have := hv.ints
    subst this
    refine .inl ⟨a, ns, rfl, e3.imp id TpT.sq, List.length_pos_iff.mpr ne, fun m h1 h2 => ?_⟩
    rw [← mostOr_eq (d := 0) h1 h2]
    exact p.here hr q rfl
  · obtain ⟨i, j, rfl, q⟩ := two_ok rx hr f p
    refine .inr ⟨i, j, rfl, ?_⟩
    have : (if j > i then j else i) = max i j := by
      by_cases c : j > i
      · rw [if_pos c, Int.max_eq_right (by omega)]
      · rw [if_neg c, Int.max_eq_left (by omega)]
    rw [this]
    exact q
  · exact f.elim
theorem cr_sumA (hc : X.calm = true) : CallR X (.builtin "sum") (fun vs H Q => ∃ (a : Addr) (ns : List Int), vs = [V.ref a] ∧ (SqL X.K H a (ns.map V.int) ∨ SqT X.K H a (ns.map V.int)) ∧ Q (.int ns.sum) H) := by
  intro pins s σ H vs us Q I r h
  obtain ⟨a, ns, rfl, hs | hs, q⟩ := h
  · exact cr_sum hc pins s σ H _ us Q I r ⟨a, ns, rfl, hs, q⟩
  · obtain ⟨its, rv, ht, _⟩ := I.tuple hs
    rw [Vals.ref1 r]
    have ht : s.heap.IsTuple a its.toArray := ht
    have hi := rv.ints
    obtain ⟨xs, e⟩ := hi.allInts.items
    have hn : numsOf (intItems xs).toList = ns := by rw [← e]; exact hi.numsOf
    rw [nums_intItems] at hn
    rw [e] at ht
    refine PySem.W.ktm_sumG (I.ok.hd hc) ht fun h' tk t' hk => ?_
    rw [preSum_eq, List.take_of_length_le (by simp), hn]
    exact ⟨.int _, H, I.kept hk, ⟨_, rfl⟩, q⟩
theorem blt_sum (hc : X.calm = true) : BltOk X "sum" (fBlt .sum) := by
  refine ⟨_, on1_ok fun x h H v Qd Q e2 hr f p => ?_, by decide, by decide, .inl ⟨_, by decide +kernel, cr_sumA hc⟩⟩
  obtain ⟨ns, e, q⟩ := f
  cases x with
  | tup xs =>
    cases e
    obtain ⟨a, vs, rfl, hs, hv⟩ := e2
    have := hv.ints
    subst this
    exact ⟨a, ns, rfl, .inr hs.sq, p.here hr q rfl⟩
  | ref b =>
    obtain ⟨a, vs, _, rfl, _, e3, hv⟩ := lstOf_ok hr e2 (show lstOf h (.ref b) = _ from e)
    have := hv.ints
    subst this
    exact ⟨a, ns, rfl, .inl (SqL.of e3), p.here hr q rfl⟩
  | _ => cases e
theorem blt_all (hc : X.calm = true) : BltOk X "all" (fBlt .all) := by
  refine ⟨_, on1_ok fun x h H v Qd Q e2 hr f p => ?_, by decide, by decide, .inl ⟨_, by decide +kernel, cr_all hc⟩⟩
  obtain ⟨ns, e, q⟩ := f
  obtain ⟨a, vs, _, rfl, _, e3, hv⟩ := lstOf_ok hr e2 e
  have := hv.bls
  subst this
  exact ⟨a, ns, rfl, SqL.of e3, p.here hr q rfl⟩
theorem blt_any (hc : X.calm = true) : BltOk X "any" (fBlt .any) := by
  refine ⟨_, on1_ok fun x h H v Qd Q e2 hr f p => ?_, by decide, by decide, .inl ⟨_, by decide +kernel, cr_any hc⟩⟩
  obtain ⟨ns, e, q⟩ := f
  obtain ⟨a, vs, _, rfl, _, e3, hv⟩ := lstOf_ok hr e2 e
  have := hv.bls
  subst this
  exact ⟨a, ns, rfl, SqL.of e3, p.here hr q rfl⟩
theorem blt_repr (hg : X.A.guards = some []) (hu : X.A.units + 70 < cLine) : BltOk X "repr" (fBlt .repr) := by
  refine ⟨_, on1_ok fun x h H v Qd Q e2 hr f p => ?_, by decide, by decide, .inl ⟨_, by decide +kernel, cr_repr hg hu⟩⟩
  exact sim_repr [x] h H [v] Qd Q (VRs.one e2) hr f p
theorem blt_abs : BltOk X "abs" (fBlt .abs) := by
  refine ⟨_, on1_ok fun x h H v Qd Q e2 hr f p => ?_, by decide, by decide, .inl ⟨_, by decide +kernel, call_abs⟩⟩
  unfold fAbs at f
  split at f
  · cases e2
    rename_i i
    refine ⟨i, rfl, ?_⟩
    rw [show (if i < 0 then -i else i) = (i.natAbs : Int) by split <;> omega]
    exact p.here hr f rfl
  · exact f.elim
theorem blt_int : BltOk X "int" (fBlt .int) := by
  refine ⟨_, on1_ok fun x h H v Qd Q e2 hr f p => ?_, by decide, by decide, .inr ⟨_, by decide +kernel, call_int1⟩⟩
  unfold fInt at f
  split at f
  · cases e2
    exact .inl ⟨_, rfl, p.here hr f rfl⟩
  · cases e2
    exact .inr ⟨_, rfl, p.here hr f rfl⟩
  · exact f.elim
theorem blt_str : BltOk X "str" (fBlt .str) := by
  refine ⟨_, on1_ok fun x h H v Qd Q e2 hr f p => ?_, by decide, by decide, .inr ⟨_, by decide +kernel, call_str_int⟩⟩
  unfold fStr at f
  split at f
  · cases e2
    exact ⟨_, rfl, f.1, p.here hr f.2 rfl⟩
  · exact f.elim
theorem blt_ok (hc : X.calm = true) (hu : X.A.units + 70 < cLine) (b : Blt) (hg : b = .repr → X.A.guards = some []) : BltOk X b.name (fBlt b) := by
  cases b with
  | len => exact blt_len
  | tuple => exact blt_tuple
  | list => exact blt_list
  | min => exact blt_min hc
  | max => exact blt_max hc
  | sum => exact blt_sum hc
  | all => exact blt_all hc
  | any => exact blt_any hc
  | repr => exact blt_repr (hg rfl) hu
  | abs => exact blt_abs
  | int => exact blt_int
  | str => exact blt_str
  | sorted => exact blt_sorted
end
end DL

set_option Elab.async false
set_option linter.all false
set_option maxRecDepth 100000
/-! DL4: methods of built-in types, isinstance, over D. -/
namespace DL
open PySem PySem.Spec PyProof.Rows L2

inductive Mtd where
  | append | pop | popAt | extend | count | join | split | index
def fAppend : D → List D → DH → WK → Prop
  | .ref a, [y], h, Q => ∃ xs, h a = some (.lst xs) ∧ xs.length < 16777216 ∧ Q .non (dupd h a (.lst (xs ++ [y])))
  | _, _, _, _ => False
def fPop : D → List D → DH → WK → Prop
  | .ref a, [], h, Q => ∃ xs y, h a = some (.lst xs) ∧ xs[xs.length - 1]? = some y ∧ Q y (dupd h a (.lst xs.dropLast))
  | _, _, _, _ => False
def fPopAt : D → List D → DH → WK → Prop
  | .ref a, [.int i], h, Q => ∃ xs y, h a = some (.lst xs) ∧ 0 ≤ i ∧ i < 2 ^ 62 ∧ xs[i.toNat]? = some y ∧ Q y (dupd h a (.lst (xs.eraseIdx i.toNat)))
  | _, _, _, _ => False
def fExtend : D → List D → DH → WK → Prop
  | .ref a, [.ref b], h, Q => ∃ xs ys, h a = some (.lst xs) ∧ h b = some (.lst ys) ∧ xs.length + ys.length ≤ 16777216 ∧ Q .non (dupd h a (.lst (xs ++ ys)))
  | _, _, _, _ => False
def fCount : D → List D → DH → WK → Prop
  | x, [.int k], h, Q => ∃ ns : List Int, lstOf h x = some (ns.map D.int) ∧ Q (.int (ns.count k : Nat)) h
  | _, _, _, _ => False
def fJoin : D → List D → DH → WK → Prop
  | .str s, [x], h, Q => ∃ ys : List Str, seqOf h x = some (ys.map D.str) ∧ (ys.map (·.length)).sum + ys.length * s.length ≤ 16777216 ∧ Q (.str (Txt.join s ys)) h
  | _, _, _, _ => False
def fSplit : D → List D → DH → WK → Prop
  | .str a, [.str b], h, Q => (b.length == 0) = false ∧ a.length + 2 ≤ 16777216 ∧ ∀ p, h p = none → Q (.ref p) (dupd h p (.lst ((Txt.split a b).map D.str)))
  | _, _, _, _ => False
def fIndex : D → List D → DH → WK → Prop
  | x, [.str k], h, Q => ∃ ys : List Str, lstOf h x = some (ys.map D.str) ∧ k ∈ ys ∧ Q (.int (ys.idxOf k : Nat)) h
  | _, _, _, _ => False
def fMtd : Mtd → D → List D → DH → WK → Prop
  | .append => fAppend | .pop => fPop | .popAt => fPopAt | .extend => fExtend | .count => fCount | .join => fJoin | .split => fSplit | .index => fIndex
def Mtd.name : Mtd → Str
  | .append => "append" | .pop => "pop" | .popAt => "pop" | .extend => "extend" | .count => "count" | .join => "join" | .split => "split" | .index => "index"
/-- the receiver is of the method's type -/
def isRcv : Mtd → D → DH → Prop
  | .join, .str _, _ => True
  | .split, .str _, _ => True
  | .join, _, _ => False
  | .split, _, _ => False
  | _, x, h => (lstOf h x).isSome = true
def SimM (K : PySem.W.Frag) (f : D → List D → DH → WK → Prop) (r : V → List V → Hp → VK → Prop) : Prop :=
  ∀ x xs h H vx vs (Qd : WK) (Q : VK), VR K H x vx → VRs K H xs vs → HR K h H → f x xs h Qd → Post K h H Qd Q → r vx vs H Q
def MtdOk (X : Cx) (m : Mtd) : Prop :=
  ∃ T id r, PlainAttrs T ∧ Slot T m.name id ∧ typeOf (.builtin id) = pure (.type "method_descriptor") ∧ MtR X id r ∧ SimM X.K (fMtd m) r ∧ ∀ x h H v, VR X.K H x v → HR X.K h H → isRcv m x h → tyV X.K T v H
section
variable {X : Cx}
theorem rcv_list {K : PySem.W.Frag} {x : D} {h : DH} {H : Hp} {v : V} (r : VR K H x v) (hr : HR K h H) (i : (lstOf h x).isSome = true) : tyV K "list" v H := by
  obtain ⟨xs, e⟩ := Option.isSome_iff_exists.mp i
  obtain ⟨a, vs, _, rfl, _, e2, _⟩ := lstOf_ok hr r e
  exact .inl ⟨rfl, _, SqL.of e2⟩
theorem mtd_append : MtdOk X .append := by
  refine ⟨"list", _, _, PySem.F.plainAttrs_list, PySem.F.slot_list_append, PySem.F.type_list_append, mt_append, ?_, fun x h H v r hr i => rcv_list r hr i⟩
  intro x xs h H vx vs Qd Q rx rxs hr f p
  have f : fAppend x xs h Qd := f
  unfold fAppend at f
  split at f
  · obtain ⟨xs, e, hz, q⟩ := f
    cases rx
    obtain ⟨v, rfl, e2⟩ := one_of rxs
    obtain ⟨ws, a1, a2⟩ := hr _ _ e
    refine ⟨_, ws, v, rfl, rfl, a1, by rw [sizeLine_eq, ← a2.length]; exact hz, p.put hr e (a2.append (VRs.one e2)) (d := .non) rfl q⟩
  · exact f.elim
theorem mtd_pop : MtdOk X .pop := by
  refine ⟨"list", _, _, PySem.F.plainAttrs_list, PySem.F.slot_list_pop, PySem.F.type_list_pop, mt_pop, ?_, fun x h H v r hr i => rcv_list r hr i⟩
  intro x xs h H vx vs Qd Q rx rxs hr f p
  have f : fPop x xs h Qd := f
  unfold fPop at f
  split at f
  · obtain ⟨xs, y, e, hy, q⟩ := f
    cases rx
    cases rxs
    obtain ⟨ws, a1, a2⟩ := hr _ _ e
    obtain ⟨v, b1, b2⟩ := a2.get hy
    refine ⟨_, ws, v, rfl, rfl, a1, by rw [← a2.length]; exact b1, p.put hr e a2.dropLast b2 q⟩
  · exact f.elim
theorem mtd_popAt : MtdOk X .popAt := by
  refine ⟨"list", _, _, PySem.F.plainAttrs_list, PySem.F.slot_list_pop, PySem.F.type_list_pop, mt_popAt, ?_, fun x h H v r hr i => rcv_list r hr i⟩
  intro x xs h H vx vs Qd Q rx rxs hr f p
  have f : fPopAt x xs h Qd := f
  unfold fPopAt at f
  split at f
  · obtain ⟨xs, y, e, h0, h1, hy, q⟩ := f
    cases rx
    obtain ⟨v, rfl, e2⟩ := one_of rxs
    cases e2
    rename_i a i
    obtain ⟨ws, a1, a2⟩ := hr _ _ e
    obtain ⟨v, b1, b2⟩ := a2.get hy
    have hl : i.toNat < xs.length := (List.getElem?_eq_some_iff.mp hy).1
    refine ⟨_, ws, i, i.toNat, v, rfl, rfl, a1, by omega, by omega, ?_, b1, p.put hr e (a2.eraseIdx _) b2 q⟩
    have := (ixN_seq (n := ws.length) (i := i) (j := i.toNat) (by unfold ixN; rw [if_pos h0, if_pos (by rw [← a2.length]; omega)])).1
    exact this
  · exact f.elim
theorem mtd_extend : MtdOk X .extend := by
  refine ⟨"list", _, _, PySem.F.plainAttrs_list, PySem.F.slot_list_extend, PySem.F.type_list_extend, mt_extend, ?_, fun x h H v r hr i => rcv_list r hr i⟩
  intro x xs h H vx vs Qd Q rx rxs hr f p
  have f : fExtend x xs h Qd := f
  unfold fExtend at f
  split at f
  · obtain ⟨xs, ys, e, e', hz, q⟩ := f
    cases rx
    obtain ⟨v, rfl, e2⟩ := one_of rxs
    cases e2
    obtain ⟨ws, a1, a2⟩ := hr _ _ e
    obtain ⟨us, b1, b2⟩ := hr _ _ e'
    refine ⟨_, _, ws, us, rfl, rfl, a1, b1, by rw [sizeLine_eq, ← a2.length, ← b2.length]; exact hz, p.put hr e (a2.append b2) (d := .non) rfl q⟩
  · exact f.elim
theorem mtd_count : MtdOk X .count := by
  refine ⟨"list", _, _, PySem.F.plainAttrs_list, PySem.F.slot_list_count, PySem.F.type_list_count, mt_lcount, ?_, fun x h H v r hr i => rcv_list r hr i⟩
  intro x xs h H vx vs Qd Q rx rxs hr f p
  have f : fCount x xs h Qd := f
  unfold fCount at f
  split at f
  · obtain ⟨ns, e, q⟩ := f
    obtain ⟨v, rfl, e2⟩ := one_of rxs
    cases e2
    obtain ⟨a, ws, _, rfl, _, e3, hv⟩ := lstOf_ok hr rx e
    have := hv.ints
    subst this
    exact ⟨a, ns, _, rfl, rfl, SqL.of e3, p.here hr q rfl⟩
  · exact f.elim
theorem idx_first : ∀ {ys : List Str} {k : Str} (m : Nat), m < ys.idxOf k → ∀ z, ys[m]? = some z → (z == k) = false
  | [], _, m, h, z, e => by cases e
  | y :: ys, k, m, h, z, e => by
    rw [List.idxOf_cons] at h
    cases c : y == k with
    | true => rw [c] at h; exact absurd h (Nat.not_lt_zero _)
    | false =>
      rw [c] at h
      cases m with
      | zero => cases e; exact c
      | succ m => exact idx_first m (Nat.lt_of_succ_lt_succ h) z e
theorem mtd_index : MtdOk X .index := by
  refine ⟨"list", _, _, PySem.F.plainAttrs_list, PySem.F.slot_list_index, PySem.F.type_list_index, mt_index, ?_, fun x h H v r hr i => rcv_list r hr i⟩
  intro x xs h H vx vs Qd Q rx rxs hr f p
  have f : fIndex x xs h Qd := f
  unfold fIndex at f
  split at f
  · rename_i k _
    obtain ⟨ys, e, hm, q⟩ := f
    obtain ⟨v, rfl, e2⟩ := one_of rxs
    cases e2
    obtain ⟨a, ws, _, rfl, _, e3, hv⟩ := lstOf_ok hr rx e
    have := hv.strs
    subst this
    have hl := List.idxOf_lt_length_of_mem hm
    refine ⟨a, ys.map V.str, .str k, ys.idxOf k, .str (ys[ys.idxOf k]), rfl, rfl, SqL.of e3, rfl, ?_, ?_, ?_, fun m z' hm' hz => ?_, p.here hr q rfl⟩
    · rw [List.all_map]; exact List.all_eq_true.mpr fun _ _ => rfl
    · rw [List.getElem?_map, List.getElem?_eq_getElem hl]; rfl
    · show (ys[ys.idxOf k] == k) = true
      rw [List.getElem_idxOf hl]; exact beq_self_eq_true k
    · rw [List.getElem?_map] at hz
      cases c : ys[m]? with
      | none => rw [c] at hz; cases hz
      | some z =>
        rw [c] at hz
        obtain rfl : V.str z = z' := Option.some.inj hz
        exact idx_first m hm' z c
  · exact f.elim
theorem mtd_join : MtdOk X .join := by
  refine ⟨"str", _, _, PySem.F.plainAttrs_str, PySem.F.slot_str_join, PySem.F.type_str_join, mt_join, ?_, fun x h H v r hr i => ?_⟩
  · intro x xs h H vx vs Qd Q rx rxs hr f p
    have f : fJoin x xs h Qd := f
    unfold fJoin at f
    split at f
    · obtain ⟨ys, e, hz, q⟩ := f
      cases rx
      obtain ⟨v, rfl, e2⟩ := one_of rxs
      obtain ⟨a, ws, rfl, hs, hv⟩ := seqOf_ok hr e2 e
      have := hv.strs
      subst this
      exact ⟨_, a, ys, rfl, rfl, hs.imp id TpT.sq, hz, p.here hr q rfl⟩
    · exact f.elim
  · cases x <;> first | exact i.elim | skip
    cases r
    rfl
theorem mtd_split : MtdOk X .split := by
  refine ⟨"str", _, _, PySem.F.plainAttrs_str, PySem.F.slot_str_split, PySem.F.type_str_split, mt_split, ?_, fun x h H v r hr i => ?_⟩
  · intro x xs h H vx vs Qd Q rx rxs hr f p
    have f : fSplit x xs h Qd := f
    unfold fSplit at f
    split at f
    · obtain ⟨hb, hz, q⟩ := f
      cases rx
      obtain ⟨v, rfl, e2⟩ := one_of rxs
      cases e2
      exact ⟨_, _, rfl, rfl, hb, by rw [sizeLine_eq]; exact hz, fun l nl => p.lst hr VRs.of_strs q nl⟩
    · exact f.elim
  · cases x <;> first | exact i.elim | skip
    cases r
    rfl
theorem mtd_ok (m : Mtd) : MtdOk X m := by
  cases m with
  | append => exact mtd_append
  | pop => exact mtd_pop
  | popAt => exact mtd_popAt
  | extend => exact mtd_extend
  | count => exact mtd_count
  | join => exact mtd_join
  | split => exact mtd_split
  | index => exact mtd_index
end

/-! ### isinstance, one built-in class -/
inductive Tn where
  | int | bool | str | tuple | list
  deriving DecidableEq
def Tn.name : Tn → String
  | .int => "int" | .bool => "bool" | .str => "str" | .tuple => "tuple" | .list => "list"
def isiW (t : Tn) (x : D) (h : DH) (Q : Bool → Prop) : Prop :=
  match x with
  | .non => Q false
  | .bl _ => Q (t == .int || t == .bool)
  | .int _ => Q (t == .int)
  | .str _ => Q (t == .str)
  | .tup _ => Q (t == .tuple)
  | .ref a => match h a with
    | some (.lst _) => Q (t == .list)
    | some (.dk _) => Q false
    | some (.dt _) => Q false
    | _ => False
  | .scr _ => False
  | .exc _ _ _ => False
section
variable {X : Cx}
theorem kit5 {K : PySem.W.Frag} (t : Tn) : PySem.W.kitOne K (.type "NoneType") (.type t.name) = some false ∧ PySem.W.kitOne K (.type "bool") (.type t.name) = some (t == .int || t == .bool) ∧ PySem.W.kitOne K (.type "int") (.type t.name) = some (t == .int) ∧
    PySem.W.kitOne K (.type "str") (.type t.name) = some (t == .str) ∧ PySem.W.kitOne K (.type "tuple") (.type t.name) = some (t == .tuple) ∧ PySem.W.kitOne K (.type "list") (.type t.name) = some (t == .list) ∧ PySem.W.kitOne K (.type "dict") (.type t.name) = some false := by
  refine ⟨kit_ty ?_, kit_ty ?_, kit_ty ?_, kit_ty ?_, kit_ty ?_, kit_ty ?_, kit_ty ?_⟩ <;> cases t <;> decide +kernel
theorem sim_isi (t : Tn) : ∀ x h H v (Qd : WK) (Q : VK), VR X.K H x v → HR X.K h H → isiW t x h (fun b => Qd (.bl b) h) → Post X.K h H Qd Q → rIsi X.K [v, .ty t.name] H Q := by
  intro x h H v Qd Q rx hr f p
  obtain ⟨k1, k2, k3, k4, k5, k6, k7⟩ := kit5 (K := X.K) t
  unfold isiW at f
  split at f
  · cases rx; exact ⟨_, _, _, _, _, rfl, .ty _, .base .non, k1, p.here hr f rfl⟩
  · cases rx; exact ⟨_, _, _, _, _, rfl, .ty _, .base (.bl _), k2, p.here hr f rfl⟩
  · cases rx; exact ⟨_, _, _, _, _, rfl, .ty _, .base (.int _), k3, p.here hr f rfl⟩
  · cases rx; exact ⟨_, _, _, _, _, rfl, .ty _, .base (.str _), k4, p.here hr f rfl⟩
  · obtain ⟨a, vs, rfl, hs, _⟩ := rx
    rcases hs with (hs | ⟨o, hs⟩) | ⟨o, its, n, hk, hc, _⟩
    · exact ⟨_, _, _, _, _, rfl, .ty _, .base (.tup hs), k5, p.here hr f rfl⟩
    · exact ⟨_, _, _, _, _, rfl, .ty _, .fTuple hs, k5, p.here hr f rfl⟩
    · exact ⟨_, _, _, _, _, rfl, .ty _, .kTuple hk hc, k5, p.here hr f rfl⟩
  · cases rx
    split at f
    · rename_i e
      obtain ⟨vs, a1, _⟩ := hr _ _ e
      exact ⟨_, _, _, _, _, rfl, .ty _, .base (.lst a1), k6, p.here hr f rfl⟩
    · rename_i e
      obtain ⟨vs, a1, _⟩ := hr _ _ e
      exact ⟨_, _, _, _, _, rfl, .ty _, .base (.dK a1), k7, p.here hr f rfl⟩
    · rename_i e
      obtain ⟨vs, a1, _⟩ := hr _ _ e
      exact ⟨_, _, _, _, _, rfl, .ty _, .base (.dT a1), k7, p.here hr f rfl⟩
    · exact f.elim
  · exact f.elim
  · exact f.elim
end
end DL

set_option Elab.async false
set_option linter.all false
set_option maxRecDepth 100000
/-! DL5: the syntax that is read, what it asks (wp), how a text is held against it (chk). -/
namespace DL
open PySem PySem.Spec PyProof.Rows L2

inductive CT where
  | name (i : Nat)
  | tup (is : List Nat)
/-- further names: calls by keywords alone, own == and != beside any value, own `in`, isinstance of any value -/
inductive KX where
  | fn (j : Nat) (x : Str) (ks : List Str)
  | meth (j ci : Nat) (m : Str) (ks : List Str)
  | make (j ci : Nat) (ks : List Str)
  | eqA (j ci : Nat)
  | neA (j ci : Nat)
  | inO (j ci : Nat)
  | isA (ci : Nat)
  | mkx (ci : Nat) (f : Option Str)
  | isX (j : Nat) (z : Str)
  | fldX (ci : Nat) (f : Str)
  deriving DecidableEq
mutual
inductive CE where
  | var (i : Nat)
  | int (i : Int)
  | str (s : Str)
  | bl (b : Bool)
  | non
  | glob (i : Nat)
  | bin (op : Operator) (a b : CE)
  | neg (a : CE)
  | cmp (op : CmpOp) (a b : CE)
  | chain (op op' : CmpOp) (a b c : CE)
  | chain3 (op op' op2 : CmpOp) (a b c d : CE)
  | rev (a : CE)
  | and (a b : CE)
  | or (a b : CE)
  | not (a : CE)
  | ite (c a b : CE)
  | tup (es : CL)
  | lst (es : CL)
  | dnew (t : Bool)
  | ix (a b : CE)
  | slice (a : CE) (lo hi : CO)
  | blt (b : Blt) (es : CL)
  | mind (a d : CE)
  | isi (a : CE) (t : Tn)
  | call (f : Nat) (es : CL)
  | fld (ci : Nat) (f : Str) (o : CE)
  | meth (j ci : Nat) (m : Str) (o : CE) (es : CL)
  | prop (j ci : Nat) (m : Str) (o : CE)
  | lenO (j ci : Nat) (o : CE)
  | isiO (ci : Nat) (o : CE)
  | eqO (j ci : Nat) (a b : CE)
  | neO (j ci : Nat) (a b : CE)
  | make (j ci : Nat) (es : CL)
  | dix (d k : CE)
  | din (neg : Bool) (k d : CE)
  | bm (m : Mtd) (o : CE) (es : CL)
  | lrng1 (a : CE)
  | lrng2 (a b : CE)
  | lc (elt : CE) (tg : CT) (it : CI) (own : List (Str × Nat)) (cond : CO)
  | drop (e : CE)
  | lock (i : Nat) (e : CE)
  | dixF (d k : CE)
  | callK (j : Nat) (ks : List Str) (es : CL)
  | methK (j ci : Nat) (m : Str) (ks : List Str) (o : CE) (es : CL)
  | makeK (j ci : Nat) (ks : List Str) (es : CL)
  | eqA (j ci : Nat) (a b : CE)
  | neA (j ci : Nat) (a b : CE)
  | inO (j ci : Nat) (a b : CE)
  | isA (ci : Nat) (o : CE)
  | mkx0 (ci : Nat)
  | mkx1 (ci : Nat) (f : Str) (o : CE)
  | isX (j : Nat) (z : Str) (o : CE)
  | fldX (ci : Nat) (f : Str) (o : CE)
inductive CL where
  | nil
  | cons (e : CE) (r : CL)
inductive CO where
  | no
  | yes (e : CE)
inductive CI where
  | seq (e : CE)
  | rng1 (e : CE)
  | rng2 (a b : CE)
  | enum (e : CE)
  | zip (a b : CE)
  | own (ci : Nat) (f : Str) (e : CE)
  | keys (e : CE)
  | zip3 (a b c : CE)
end
/-- a def's promise over data: arguments, heap, wish -/
abbrev DSp := List D → DH → WK → Prop
/-- what the text's names are worth: constants, defs -/
structure Fx where
  cv : List D
  fs : List DSp
/-- the names of a text: constants, defs; methods (place among the promises, class among the constants, name), makings (place of __init__'s promise, class), fields (class, name) -/
structure Glb where
  cn : List Str
  fn : List Str
  rep : Bool
  ms : List (Nat × Nat × Str)
  mks : List (Nat × Nat)
  fd : List (Nat × Str)
  pr : List (Nat × Nat × Str)
  ic : List Nat
  it : List (Nat × Str)
  kw : List KX
/-- the names of own defs that are no properties -/
def dun (m : Str) : Bool := m == "__len__" || m == "__eq__" || m == "__ne__" || m == "__contains__"
def glb (cn fn : List Str) (rep : Bool) : Glb := ⟨cn, fn, rep, [], [], [], [], [], [], []⟩

/-- less is spoken of; or some lists are spoken of as a deck -/
def Abs (g h : DH) : Prop := ∀ (K : PySem.W.Frag) (H : Hp), HR K h H → HR K g H ∧ ∀ b, FP g H b → FP h H b
def Sub (g h : DH) : Prop := ∀ a o, g a = some o → h a = some o
theorem Sub.abs {g h : DH} (s : Sub g h) : Abs g h := fun _ _ r => ⟨r.less s, fun _ f => f.less s⟩
theorem Abs.refl (h : DH) : Abs h h := fun _ _ r => ⟨r, fun _ f => f⟩
def Ret (Q : WK) : WK := fun d h => ∃ g, Abs g h ∧ Q d g
theorem Ext.abs {K : PySem.W.Frag} {h h' g : DH} {H H' : Hp} (e : Ext h H h' H') (r : HR K h' H') (a : Abs g h') : Ext h H g H' := ⟨e.tup, e.frz, e.frame, e.there, fun b f => e.fp b ((a K H' r).2 b f)⟩
theorem Post.ret {K : PySem.W.Frag} {h : DH} {H : Hp} {Qd : WK} {Q : VK} (p : Post K h H Qd Q) : Post K h H (Ret Qd) Q := fun d h' v H' e r hr ⟨g, s, q⟩ => p d g v H' (e.abs hr s) r (s K H' hr).1 q
/-! ### what is asked -/
def refW (d : D) (k : Addr → Prop) : Prop :=
  match d with
  | .ref a => k a
  | _ => False
/-! dicts -/
def keyD : D → Option Key
  | .int i => some (.inl i)
  | .str s => some (.inr s)
  | _ => none
def keyV : Key → D
  | .inl i => .int i
  | .inr s => .str s
def keysD : List D → Option (List Key)
  | [] => some []
  | x :: xs => (keyD x).bind fun k => (keysD xs).map fun ks => k :: ks
def lookD {κ : Type} [DecidableEq κ] (kvs : List (κ × D)) (k : κ) : Option D := (kvs.find? fun kv => decide (kv.1 = k)).map (·.2)
def putKD {κ : Type} [DecidableEq κ] (kvs : List (κ × D)) (k : κ) (v : D) : List (κ × D) :=
  if (kvs.any fun kv => decide (kv.1 = k)) = true then kvs.map (fun kv => if kv.1 = k then (kv.1, v) else kv) else kvs ++ [(k, v)]
/-- what the dict x holds at y -/
def dgetW (x y : D) (h : DH) (k : Option D → Prop) : Prop :=
  refW x fun a => match y with
    | .tup ys => ∃ kvs ks, h a = some (.dt kvs) ∧ keyB ys = true ∧ keysD ys = some ks ∧ k (lookD kvs ks)
    | y => ∃ kvs kk, h a = some (.dk kvs) ∧ keyD y = some kk ∧ k (lookD kvs kk)
def dputW (x y v : D) (h : DH) (k : DH → Prop) : Prop :=
  refW x fun a => match y with
    | .tup ys => ∃ kvs ks, h a = some (.dt kvs) ∧ keyB ys = true ∧ keysD ys = some ks ∧ kvs.length < 16777216 ∧ k (dupd h a (.dt (putKD kvs ks v)))
    | y => ∃ kvs kk, h a = some (.dk kvs) ∧ keyD y = some kk ∧ kvs.length < 16777216 ∧ k (dupd h a (.dk (putKD kvs kk v)))
/-- the type of a value that is no instance -/
def kndD (d : D) (h : DH) : Option String :=
  match d with
  | .non => some "NoneType"
  | .bl _ => some "bool"
  | .int _ => some "int"
  | .str _ => some "str"
  | .tup _ => some "tuple"
  | .scr _ => none
  | .exc _ _ _ => none
  | .ref a => match h a with
    | some (.lst _) => some "list"
    | some (.dk _) => some "dict"
    | some (.dt _) => some "dict"
    | _ => none
/-- whether a value is an instance of the class C -/
def insD (C : Addr) (d : D) (h : DH) : Option Bool :=
  match d with
  | .ref a => match h a with
    | some (.ins C' _) => if C' = C then some true else none
    | some (.lst _) => some false
    | some (.dk _) => some false
    | some (.dt _) => some false
    | _ => none
  | .scr _ => none
  | .exc _ _ _ => none
  | _ => some false
/-- the places' items, in the places' order -/
def permL {α : Type} (is : List Nat) (xs : List α) : List α := is.filterMap fun i => xs[i]?
/-- a promise whose arguments are handed in another order -/
def spPerm (is : List Nat) (sp : DSp) : DSp := fun ds h Q => sp (permL is ds) h Q
/-- .. behind the first -/
def spPermM (is : List Nat) (sp : DSp) : DSp := fun ds h Q =>
  match ds with
  | d :: r => sp (d :: permL is r) h Q
  | [] => False
/-- the keywords are named so -/
def kwNames : List Keyword → List Str → Bool
  | [], [] => true
  | ⟨some x, _, _⟩ :: r, y :: ks => decide (x = y) && kwNames r ks
  | _, _ => false
/-- the fields, one of them stored -/
def putD (f : Str) (v : D) : List (Str × D) → List (Str × D)
  | [] => [(f, v)]
  | (g, x) :: r => if g = f then (g, v) :: r else (g, x) :: putD f v r
/-- the wish of a making, once __init__ is done -/
def mkW (C : Addr) (sp : DSp) (ds : List D) (h : DH) (Q : WK) : Prop := ∀ a, h a = none → sp (.ref a :: ds) (dupd h a (.ins C [])) fun v h2 => v = .non ∧ Q (.ref a) h2

def slotW : DEnv → Nat → (D → Prop) → Prop
  | some d :: _, 0, k => k d
  | _ :: r, n + 1, k => slotW r n k
  | _, _, _ => False
def nthW {α : Type} : List α → Nat → (α → Prop) → Prop
  | a :: _, 0, k => k a
  | _ :: r, n + 1, k => nthW r n k
  | [], _, _ => False
def boolW (d : D) (k : Bool → Prop) : Prop :=
  match d with
  | .bl b => k b
  | _ => False
def intW (d : D) (k : Int → Prop) : Prop :=
  match d with
  | .int i => k i
  | _ => False
def revW (d : D) (k : List D → Prop) : Prop :=
  match d with
  | .tup xs => k xs
  | _ => False
def iteW (b : Bool) (p q : Prop) : Prop :=
  match b with
  | true => p
  | false => q
def setAll (ρ : DEnv) : List Nat → List D → DEnv
  | i :: is, d :: ds => setAll (ρ.set i (some d)) is ds
  | _, _ => ρ
def tgtW : CT → D → DEnv → (DEnv → Prop) → Prop
  | .name i, d, ρ, k => k (ρ.set i (some d))
  | .tup is, .tup ds, ρ, k => ds.length = is.length ∧ k (setAll ρ is ds)
  | _, _, _, _ => False
/-- a comprehension's turns -/
def lcW (turn : D → DH → (Option D → DH → Prop) → Prop) (g : DH → Prop) : List D → DH → (List D → DH → Prop) → Prop
  | [], h, Q => g h ∧ Q [] h
  | x :: xs, h, Q => g h ∧ turn x h fun o h' => lcW turn g xs h' fun ys h2 => Q (o.toList ++ ys) h2
def rngD (lo : Int) (n : Nat) : List D := (List.range n).map fun (k : Nat) => D.int (lo + k)
def enumD (k : Nat) : List D → List D
  | [] => []
  | x :: xs => .tup [.int k, x] :: enumD (k + 1) xs
def zipD : List D → List D → List D
  | x :: xs, y :: ys => .tup [x, y] :: zipD xs ys
  | _, _ => []
def zip3D : List D → List D → List D → List D
  | x :: xs, y :: ys, z :: zs => .tup [x, y, z] :: zip3D xs ys zs
  | _, _, _ => []
def seqW (d : D) (h : DH) (k : List D → (DH → Prop) → DH → Prop) : Prop :=
  match d with
  | .tup xs => k xs (fun _ => True) h
  | .ref a => ∃ xs, h a = some (.lst xs) ∧ k xs (fun h' => h' a = some (.lst xs)) h
  | _ => False
def zipW (x y : D) (h : DH) (k : List D → (DH → Prop) → DH → Prop) : Prop :=
  match x, y with
  | .tup xs, .tup ys => k (zipD xs ys) (fun _ => True) h
  | .ref a, .ref b => ∃ xs ys, h a = some (.lst xs) ∧ h b = some (.lst ys) ∧ k (zipD xs ys) (fun h' => h' a = some (.lst xs) ∧ h' b = some (.lst ys)) h
  | _, _ => False
def zip3W (x y z : D) (h : DH) (k : List D → (DH → Prop) → DH → Prop) : Prop :=
  refW x fun a => refW y fun b => refW z fun c => ∃ xs ys zs, h a = some (.lst xs) ∧ h b = some (.lst ys) ∧ h c = some (.lst zs) ∧ ys.length = xs.length ∧ zs.length = xs.length ∧ k (zip3D xs ys zs) (fun h' => h' a = some (.lst xs) ∧ h' b = some (.lst ys) ∧ h' c = some (.lst zs)) h
mutual
def wpE (F : Fx) : CE → DEnv → DH → WK → Prop
  | .var i, ρ, h, Q => slotW ρ i fun d => Q d h
  | .int i, _, h, Q => Q (.int i) h
  | .str s, _, h, Q => Q (.str s) h
  | .bl b, _, h, Q => Q (.bl b) h
  | .non, _, h, Q => Q .non h
  | .glob i, _, h, Q => nthW F.cv i fun d => Q d h
  | .bin op a b, ρ, h, Q => wpE F a ρ h fun x h1 => wpE F b ρ h1 fun y h2 => fBin op x y h2 Q
  | .neg a, ρ, h, Q => wpE F a ρ h fun x h1 => intW x fun i => Q (.int (-i)) h1
  | .cmp op a b, ρ, h, Q => wpE F a ρ h fun x h1 => wpE F b ρ h1 fun y h2 => fCmp op x y h2 Q
  | .chain op op' a b c, ρ, h, Q => wpE F a ρ h fun x h1 => wpE F b ρ h1 fun y h2 => fCmp op x y h2 fun z h3 => boolW z fun k => iteW k (wpE F c ρ h3 fun u h4 => fCmp op' y u h4 Q) (Q (.bl false) h3)
  | .chain3 op op' op2 a b c d, ρ, h, Q => wpE F a ρ h fun x h1 => wpE F b ρ h1 fun y h2 => fCmp op x y h2 fun z h3 => boolW z fun k => iteW k (wpE F c ρ h3 fun u h4 => fCmp op' y u h4 fun z2 h5 => boolW z2 fun k2 => iteW k2 (wpE F d ρ h5 fun v h6 => fCmp op2 u v h6 Q) (Q (.bl false) h5)) (Q (.bl false) h3)
  | .rev a, ρ, h, Q => wpE F a ρ h fun x h1 => revW x fun xs => Q (.tup xs.reverse) h1
  | .and a b, ρ, h, Q => wpE F a ρ h fun x h1 => boolW x fun k => iteW k (wpE F b ρ h1 Q) (Q (.bl false) h1)
  | .or a b, ρ, h, Q => wpE F a ρ h fun x h1 => boolW x fun k => iteW k (Q (.bl true) h1) (wpE F b ρ h1 Q)
  | .not a, ρ, h, Q => wpE F a ρ h fun x h1 => boolW x fun k => Q (.bl (!k)) h1
  | .ite c a b, ρ, h, Q => wpE F c ρ h fun x h1 => boolW x fun k => iteW k (wpE F a ρ h1 Q) (wpE F b ρ h1 Q)
  | .tup es, ρ, h, Q => wpL F es ρ h fun ds h1 => ds.length ≤ 16777216 ∧ Q (.tup ds) h1
  | .lst es, ρ, h, Q => wpL F es ρ h fun ds h1 => ds.length ≤ 16777216 ∧ ∀ p, h1 p = none → Q (.ref p) (dupd h1 p (.lst ds))
  | .dnew t, _, h, Q => ∀ p, h p = none → Q (.ref p) (dupd h p (if t then .dt [] else .dk []))
  | .ix a b, ρ, h, Q => wpE F a ρ h fun x h1 => wpE F b ρ h1 fun y h2 => fIx x y h2 Q
  | .slice a lo hi, ρ, h, Q => wpE F a ρ h fun x h1 => wpO F lo ρ h1 fun l h2 => wpO F hi ρ h2 fun u h3 => fSl x l u h3 Q
  | .blt b es, ρ, h, Q => wpL F es ρ h fun ds h1 => fBlt b ds h1 Q
  | .mind a d, ρ, h, Q => wpE F a ρ h fun x h1 => wpE F d ρ h1 fun y h2 => ∃ (ns : List Int), lstOf h2 x = some (ns.map D.int) ∧ intW y fun i => Q (.int (leastOr i ns)) h2
  | .isi a t, ρ, h, Q => wpE F a ρ h fun x h1 => isiW t x h1 fun b => Q (.bl b) h1
  | .call f es, ρ, h, Q => wpL F es ρ h fun ds h1 => nthW F.fs f fun sp => sp ds h1 Q
  | .fld ci f o, ρ, h, Q => wpE F o ρ h fun x h1 => nthW F.cv ci fun c => refW c fun C => ∃ a fs v, x = .ref a ∧ h1 a = some (.ins C fs) ∧ fs.lookup f = some v ∧ Q v h1
  | .prop j ci m o, ρ, h, Q => wpE F o ρ h fun x h1 => nthW F.cv ci fun c => refW c fun C => ∃ a fs, x = .ref a ∧ h1 a = some (.ins C fs) ∧ nthW F.fs j fun sp => sp [.ref a] h1 Q
  | .isiO ci o, ρ, h, Q => wpE F o ρ h fun x h1 => nthW F.cv ci fun c => refW c fun C => ∃ a fs, x = .ref a ∧ h1 a = some (.ins C fs) ∧ Q (.bl true) h1
  | .lenO j ci o, ρ, h, Q => wpE F o ρ h fun x h1 => nthW F.cv ci fun c => refW c fun C => ∃ a fs, x = .ref a ∧ h1 a = some (.ins C fs) ∧ nthW F.fs j fun sp => sp [.ref a] h1 fun y h2 => ∃ n : Nat, y = .int n ∧ n < 2 ^ 62 ∧ Q y h2
  | .eqO j ci a b, ρ, h, Q => wpE F a ρ h fun x h1 => wpE F b ρ h1 fun y h2 => nthW F.cv ci fun c => refW c fun C => ∃ p q fs gs, x = .ref p ∧ y = .ref q ∧ h2 p = some (.ins C fs) ∧ h2 q = some (.ins C gs) ∧ nthW F.fs j fun sp => sp [.ref p, .ref q] h2 Q
  | .neO j ci a b, ρ, h, Q => wpE F a ρ h fun x h1 => wpE F b ρ h1 fun y h2 => nthW F.cv ci fun c => refW c fun C => ∃ p q fs gs, x = .ref p ∧ y = .ref q ∧ h2 p = some (.ins C fs) ∧ h2 q = some (.ins C gs) ∧ nthW F.fs j fun sp => sp [.ref p, .ref q] h2 fun z h3 => boolW z fun k => Q (.bl (!k)) h3
  | .meth j ci m o es, ρ, h, Q => wpE F o ρ h fun x h1 => nthW F.cv ci fun c => refW c fun C => ∃ a fs, x = .ref a ∧ h1 a = some (.ins C fs) ∧ fs.lookup m = none ∧ wpL F es ρ h1 fun ds h2 => nthW F.fs j fun sp => sp (.ref a :: ds) h2 Q
  | .make j ci es, ρ, h, Q => wpL F es ρ h fun ds h1 => nthW F.cv ci fun c => refW c fun C => nthW F.fs j fun sp => mkW C sp ds h1 Q
  | .dix d k, ρ, h, Q => wpE F d ρ h fun x h1 => wpE F k ρ h1 fun y h2 => dgetW x y h2 fun o => ∃ v, o = some v ∧ Q v h2
  | .din neg k d, ρ, h, Q => wpE F k ρ h fun y h1 => wpE F d ρ h1 fun x h2 => dgetW x y h2 fun o => Q (.bl (if neg then !o.isSome else o.isSome)) h2
  | .bm m o es, ρ, h, Q => wpE F o ρ h fun x h1 => isRcv m x h1 ∧ wpL F es ρ h1 fun ds h2 => fMtd m x ds h2 Q
  | .lrng1 a, ρ, h, Q => wpE F a ρ h fun x h1 => intW x fun j => (-(2 ^ 62) ≤ j ∧ j ≤ 16777216) ∧ ∀ p, h1 p = none → Q (.ref p) (dupd h1 p (.lst (rngD 0 j.toNat)))
  | .lrng2 a b, ρ, h, Q => wpE F a ρ h fun x h1 => wpE F b ρ h1 fun y h2 => intW x fun i => intW y fun j => (-(2 ^ 62) ≤ i ∧ i < 2 ^ 62 ∧ -(2 ^ 62) ≤ j ∧ j < 2 ^ 62 ∧ j - i ≤ 16777216) ∧ ∀ p, h2 p = none → Q (.ref p) (dupd h2 p (.lst (rngD i (j - i).toNat)))
  | .lc elt tg it own cond, ρ, h, Q => wpI F it ρ h fun xs g h1 => xs.length ≤ 16777216 ∧
      lcW (fun x h2 R => tgtW tg x (dwipe ρ (own.map (·.2))) fun ρ2 => wpC F cond ρ2 h2 fun b h3 => iteW b (wpE F elt ρ2 h3 fun y h4 => R (some y) h4) (R none h3)) g xs h1
        fun ys h5 => ∀ p, h5 p = none → Q (.ref p) (dupd h5 p (.lst ys))
  | .drop e, ρ, h, Q => wpE F e ρ h (Ret Q)
  | .lock i e, ρ, h, Q => slotW ρ i fun d => ∃ a kvs, d = .ref a ∧ h a = some (.dk kvs) ∧ wpE F e ρ (dupd h a (.fz kvs)) fun v h' => h' a = some (.fz kvs) ∧ Q v (dupd h' a (.dk kvs))
  | .dixF d k, ρ, h, Q => wpE F d ρ h fun x h1 => wpE F k ρ h1 fun y h2 => ∃ a kvs kk v, x = .ref a ∧ h2 a = some (.fz kvs) ∧ keyD y = some kk ∧ lookD kvs kk = some v ∧ Q v h2
  | .callK j ks es, ρ, h, Q => wpL F es ρ h fun ds h1 => ds.length = ks.length ∧ nthW F.fs j fun sp => sp ds h1 Q
  | .methK j ci m ks o es, ρ, h, Q => wpE F o ρ h fun x h1 => nthW F.cv ci fun c => refW c fun C => ∃ a fs, x = .ref a ∧ h1 a = some (.ins C fs) ∧ fs.lookup m = none ∧ wpL F es ρ h1 fun ds h2 => ds.length = ks.length ∧ nthW F.fs j fun sp => sp (.ref a :: ds) h2 Q
  | .makeK j ci ks es, ρ, h, Q => wpL F es ρ h fun ds h1 => ds.length = ks.length ∧ nthW F.cv ci fun c => refW c fun C => nthW F.fs j fun sp => mkW C sp ds h1 Q
  | .eqA j ci a b, ρ, h, Q => wpE F a ρ h fun x h1 => wpE F b ρ h1 fun y h2 => nthW F.cv ci fun c => refW c fun C => ∃ p fs k, x = .ref p ∧ h2 p = some (.ins C fs) ∧ insD C y h2 = some k ∧ nthW F.fs j fun sp => sp [.ref p, y] h2 Q
  | .neA j ci a b, ρ, h, Q => wpE F a ρ h fun x h1 => wpE F b ρ h1 fun y h2 => nthW F.cv ci fun c => refW c fun C => ∃ p fs k, x = .ref p ∧ h2 p = some (.ins C fs) ∧ insD C y h2 = some k ∧ nthW F.fs j fun sp => sp [.ref p, y] h2 fun z h3 => boolW z fun k => Q (.bl (!k)) h3
  | .inO j ci a b, ρ, h, Q => wpE F a ρ h fun y h1 => wpE F b ρ h1 fun x h2 => nthW F.cv ci fun c => refW c fun C => ∃ p fs, x = .ref p ∧ h2 p = some (.ins C fs) ∧ nthW F.fs j fun sp => sp [.ref p, y] h2 fun z h3 => boolW z fun k => Q (.bl k) h3
  | .isA ci o, ρ, h, Q => wpE F o ρ h fun x h1 => nthW F.cv ci fun c => refW c fun C => ∃ k, insD C x h1 = some k ∧ Q (.bl k) h1
  | .mkx0 ci, ρ, h, Q => nthW F.cv ci fun c => refW c fun C => Q (.exc C "" []) h
  | .mkx1 ci f o, ρ, h, Q => wpE F o ρ h fun x h1 => nthW F.cv ci fun c => refW c fun C => Q (.exc C f [x]) h1
  | .isX j z o, ρ, h, Q => wpE F o ρ h fun x h1 => nthW F.fs j fun sp => sp [x] h1 Q
  | .fldX ci f o, ρ, h, Q => wpE F o ρ h fun x h1 => nthW F.cv ci fun c => refW c fun C => ∃ y, x = .exc C f [y] ∧ Q y h1
def wpL (F : Fx) : CL → DEnv → DH → (List D → DH → Prop) → Prop
  | .nil, _, h, Q => Q [] h
  | .cons e r, ρ, h, Q => wpE F e ρ h fun d h1 => wpL F r ρ h1 fun ds h2 => Q (d :: ds) h2
def wpO (F : Fx) : CO → DEnv → DH → (Option Int → DH → Prop) → Prop
  | .no, _, h, Q => Q none h
  | .yes e, ρ, h, Q => wpE F e ρ h fun d h1 => intW d fun i => Q (some i) h1
def wpC (F : Fx) : CO → DEnv → DH → (Bool → DH → Prop) → Prop
  | .no, _, h, Q => Q true h
  | .yes e, ρ, h, Q => wpE F e ρ h fun d h1 => boolW d fun b => Q b h1
def wpI (F : Fx) : CI → DEnv → DH → (List D → (DH → Prop) → DH → Prop) → Prop
  | .seq e, ρ, h, k => wpE F e ρ h fun d h1 => seqW d h1 k
  | .rng1 e, ρ, h, k => wpE F e ρ h fun d h1 => intW d fun j => (-(2 ^ 62) ≤ j ∧ j < 2 ^ 62) ∧ k (rngD 0 j.toNat) (fun _ => True) h1
  | .rng2 a b, ρ, h, k => wpE F a ρ h fun x h1 => wpE F b ρ h1 fun y h2 => intW x fun i => intW y fun j => (-(2 ^ 62) ≤ i ∧ i < 2 ^ 62 ∧ -(2 ^ 62) ≤ j ∧ j < 2 ^ 62) ∧ k (rngD i (j - i).toNat) (fun _ => True) h2
  | .enum e, ρ, h, k => wpE F e ρ h fun d h1 => seqW d h1 fun xs g h2 => k (enumD 0 xs) g h2
  | .zip a b, ρ, h, k => wpE F a ρ h fun x h1 => wpE F b ρ h1 fun y h2 => zipW x y h2 k
  | .own ci f e, ρ, h, k => wpE F e ρ h fun x h1 => nthW F.cv ci fun c => refW c fun C => ∃ a fs xs, x = .ref a ∧ h1 a = some (.ins C fs) ∧ fs.lookup f = some (.tup xs) ∧ k xs (fun _ => True) h1
  | .keys e, ρ, h, k => wpE F e ρ h fun d h1 => ∃ a kvs, d = .ref a ∧ h1 a = some (.fz kvs) ∧ k (kvs.map fun kv => keyV kv.1) (fun _ => True) h1
  | .zip3 a b c, ρ, h, k => wpE F a ρ h fun x h1 => wpE F b ρ h1 fun y h2 => wpE F c ρ h2 fun z h3 => zip3W x y z h3 k
end

/-! ### how the text is held against it -/
def seenB (sc : Scope) (x : Str) : Bool :=
  match sc.names.lookup x with
  | some .local => true
  | some .cell => true
  | some .free => true
  | _ => false
def globB (sc : Scope) (x : Str) : Bool := decide (sc.names.lookup x = some .globalImplicit)
def okName (x : Str) : Bool := !(x == ("__debug__" : Str)) && !(x == ("__classdict__" : Str))
/-- a name that is stored: a local; at the def's own level a cell too -/
def storeB (top : Str → Bool) (sc : Scope) (x : Str) : Bool :=
  match sc.names.lookup x with
  | some .local => true
  | some .cell => top x
  | _ => false
def chkN (N : List Str) (top : Str → Bool) (sc : Scope) (i : Nat) : Expr → Bool
  | .Name x _ => decide (N[i]? = some x) && storeB top sc x
  | _ => false
def chkNs (N : List Str) (top : Str → Bool) (sc : Scope) : List Nat → List Expr → Bool
  | [], [] => true
  | i :: is, e :: es => chkN N top sc i e && chkNs N top sc is es
  | _, _ => false
def chkT (N : List Str) (top : Str → Bool) (sc : Scope) : CT → Expr → Bool
  | .name i, e => chkN N top sc i e
  | .tup is, e => match e with
    | .Tuple es _ _ => chkNs N top sc is es
    | _ => false
/-- may the whole stand as a test -/
def testB : CE → Bool
  | .ite _ _ _ => false
  | .not a => testB a
  | .and a b => testB a && testB b
  | .or a b => testB a && testB b
  | .drop a => testB a
  | _ => true
def plainB : Expr → Bool
  | .Call _ [] [] _ => false
  | _ => true
def ownB : CT → List (Str × Nat) → Bool
  | .name i, own => (own.map (·.2)).contains i
  | .tup is, own => is.all fun i => (own.map (·.2)).contains i
def enumB : CI → Bool
  | .enum _ => true
  | .zip _ _ => true
  | .zip3 _ _ _ => true
  | _ => false
def isTupT : CT → Bool
  | .tup _ => true
  | _ => false
mutual
def chkE (N : List Str) (G : Glb) : CE → Scope → Expr → Bool
  | .var i, sc, e => match e with
    | .Name x _ => decide (N[i]? = some x) && seenB sc x && okName x
    | _ => false
  | .int i, _, e => match e with
    | .Constant (.int j) _ _ => decide (i = j)
    | _ => false
  | .str s, _, e => match e with
    | .Constant (.str t) _ _ => decide (s = t)
    | _ => false
  | .bl b, _, e => match e with
    | .Constant (.bool c) _ _ => decide (b = c)
    | _ => false
  | .non, _, e => match e with
    | .Constant .none _ _ => true
    | _ => false
  | .glob i, sc, e => match e with
    | .Name x _ => decide (G.cn[i]? = some x) && globB sc x && okName x
    | _ => false
  | .bin op a b, sc, e => match e with
    | .BinOp l o r _ => decide (op = o) && chkE N G a sc l && chkE N G b sc r
    | _ => false
  | .neg a, sc, e => match e with
    | .UnaryOp .USub x _ => chkE N G a sc x
    | _ => false
  | .cmp op a b, sc, e => match e with
    | .Compare l [o] [r] _ => decide (op = o) && chkE N G a sc l && chkE N G b sc r
    | _ => false
  | .chain op op' a b c, sc, e => match e with
    | .Compare l [o, o'] [r, r'] _ => decide (op = o) && decide (op' = o') && chkE N G a sc l && chkE N G b sc r && chkE N G c sc r'
    | _ => false
  | .chain3 op op' op2 a b c d, sc, e => match e with
    | .Compare l [o, o', o2] [r, r', r2] _ => decide (op = o) && decide (op' = o') && decide (op2 = o2) && chkE N G a sc l && chkE N G b sc r && chkE N G c sc r' && chkE N G d sc r2
    | _ => false
  | .rev a, sc, e => match e with
    | .Subscript x (.Slice none none (some (.UnaryOp .USub (.Constant (.int 1) _ _) _)) _) _ => chkE N G a sc x
    | _ => false
  | .and a b, sc, e => match e with
    | .BoolOp .And [x, y] _ => chkE N G a sc x && chkE N G b sc y
    | .BoolOp .And (x :: y :: z :: r) pos => chkE N G a sc x && chkE N G b sc (.BoolOp .And (y :: z :: r) pos)
    | _ => false
  | .or a b, sc, e => match e with
    | .BoolOp .Or [x, y] _ => chkE N G a sc x && chkE N G b sc y
    | .BoolOp .Or (x :: y :: z :: r) pos => chkE N G a sc x && chkE N G b sc (.BoolOp .Or (y :: z :: r) pos)
    | _ => false
  | .not a, sc, e => match e with
    | .UnaryOp .Not x _ => testB a && chkE N G a sc x
    | _ => false
  | .ite c a b, sc, e => match e with
    | .IfExp t x y _ => testB c && chkE N G c sc t && chkE N G a sc x && chkE N G b sc y
    | _ => false
  | .tup cs, sc, e => match e with
    | .Tuple es _ _ => chkL N G cs sc es
    | _ => false
  | .lst cs, sc, e => match e with
    | .List es _ => chkL N G cs sc es
    | _ => false
  | .dnew _, _, e => match e with
    | .Dict [] [] _ => true
    | _ => false
  | .ix a b, sc, e => match e with
    | .Subscript x y _ => chkE N G a sc x && chkE N G b sc y
    | _ => false
  | .slice a lo hi, sc, e => match e with
    | .Subscript x (.Slice l u none _) _ => chkE N G a sc x && chkO N G lo sc l && chkO N G hi sc u
    | _ => false
  | .blt b cs, sc, e => match e with
    | .Call (.Name x _) (y :: es) [] _ => decide (x = b.name) && globB sc x && (match b with | .repr => G.rep | _ => true) && chkL N G cs sc (y :: es)
    | _ => false
  | .mind a d, sc, e => match e with
    | .Call (.Name x _) [y] [⟨k, f, _⟩] _ => decide (x = "min") && globB sc x && decide (k = some "default") && chkE N G a sc y && chkE N G d sc f
    | _ => false
  | .isi a t, sc, e => match e with
    | .Call (.Name x _) [y, .Name z _] [] _ => decide (x = "isinstance") && globB sc x && decide (z = Str.ofString t.name) && globB sc z && chkE N G a sc y
    | _ => false
  | .call f cs, sc, e => match e with
    | .Call (.Name x _) es [] _ => decide (G.fn[f]? = some x) && globB sc x && okName x && chkL N G cs sc es
    | _ => false
  | .fld ci f o, sc, e => match e with
    | .Attribute y g _ => decide (f = g) && G.fd.contains (ci, f) && plainB y && chkE N G o sc y
    | _ => false
  | .prop j ci m o, sc, e => match e with
    | .Attribute y g _ => decide (m = g) && G.pr.contains (j, ci, m) && !dun m && plainB y && chkE N G o sc y
    | _ => false
  | .isiO ci o, sc, e => match e with
    | .Call (.Name x _) [y, .Name z _] [] _ => decide (x = "isinstance") && globB sc x && G.ic.contains ci && decide (G.cn[ci]? = some z) && globB sc z && okName z && chkE N G o sc y
    | _ => false
  | .lenO j ci o, sc, e => match e with
    | .Call (.Name x _) [y] [] _ => decide (x = "len") && globB sc x && G.pr.contains (j, ci, "__len__") && chkE N G o sc y
    | _ => false
  | .eqO j ci a b, sc, e => match e with
    | .Compare l [o] [r] _ => decide (CmpOp.Eq = o) && G.pr.contains (j, ci, "__eq__") && chkE N G a sc l && chkE N G b sc r
    | _ => false
  | .neO j ci a b, sc, e => match e with
    | .Compare l [o] [r] _ => decide (CmpOp.NotEq = o) && G.pr.contains (j, ci, "__ne__") && chkE N G a sc l && chkE N G b sc r
    | _ => false
  | .meth j ci m o cs, sc, e => match e with
    | .Call (.Attribute y g apos) es [] pos => decide (m = g) && G.ms.contains (j, ci, m) && (apos.endLine == pos.line) && decide (es.length < 20) && plainB y && chkE N G o sc y && chkL N G cs sc es
    | _ => false
  | .make j ci cs, sc, e => match e with
    | .Call (.Name x _) es [] _ => G.mks.contains (j, ci) && decide (G.cn[ci]? = some x) && globB sc x && okName x && chkL N G cs sc es
    | _ => false
  | .dix d k, sc, e => match e with
    | .Subscript x y _ => chkE N G d sc x && chkE N G k sc y
    | _ => false
  | .din neg k d, sc, e => match e with
    | .Compare y [o] [x] _ => decide (o = if neg then .NotIn else .In) && chkE N G k sc y && chkE N G d sc x
    | _ => false
  | .bm m o cs, sc, e => match e with
    | .Call (.Attribute y f apos) [] [] pos => (match m with | .pop => true | _ => false) && decide (f = m.name) && (apos.endLine == pos.line) && plainB y && chkE N G o sc y && chkL N G cs sc []
    | .Call (.Attribute y f apos) (z :: es) [] pos => (match m with | .pop => false | _ => true) && decide (f = m.name) && (apos.endLine == pos.line) && decide ((z :: es).length < 20) && plainB y && chkE N G o sc y && chkL N G cs sc (z :: es)
    | _ => false
  | .lrng1 a, sc, e => match e with
    | .Call (.Name x _) [.Call (.Name z _) [y] [] _] [] _ => decide (x = "list") && decide (z = "range") && globB sc x && globB sc z && chkE N G a sc y
    | _ => false
  | .lrng2 a b, sc, e => match e with
    | .Call (.Name x _) [.Call (.Name z _) [y, u] [] _] [] _ => decide (x = "list") && decide (z = "range") && globB sc x && globB sc z && chkE N G a sc y && chkE N G b sc u
    | _ => false
  | .lc elt tg it own cond, sc, e => match e with
    | .ListComp y [⟨t, i, ifs, 0⟩] scope _ => blkC N sc scope own && ownB tg own && (!enumB it || isTupT tg) && chkI N G it sc i && chkT N (fun x => scope.names.lookup x == some .cell) (relS scope sc) tg t && chkCs N G cond (relS scope sc) ifs && chkE N G elt (relS scope sc) y
    | _ => false
  | .drop c, sc, e => chkE N G c sc e
  | .lock _ c, sc, e => match e with
    | .ListComp y gs scope pos => chkE N G c sc (.ListComp y gs scope pos)
    | _ => false
  | .dixF d k, sc, e => match e with
    | .Subscript x y _ => chkE N G d sc x && chkE N G k sc y
    | _ => false
  | .callK j ks cs, sc, e => match e with
    | .Call (.Name x _) [] kws _ => kwNames kws ks && G.kw.contains (.fn j x ks) && globB sc x && okName x && chkL N G cs sc (kws.map (·.value))
    | _ => false
  | .methK j ci m ks o cs, sc, e => match e with
    | .Call (.Attribute y g apos) [] kws pos => decide (m = g) && kwNames kws ks && G.kw.contains (.meth j ci m ks) && (apos.endLine == pos.line) && decide (kws.length < 20) && plainB y && chkE N G o sc y && chkL N G cs sc (kws.map (·.value))
    | _ => false
  | .makeK j ci ks cs, sc, e => match e with
    | .Call (.Name x _) [] kws _ => kwNames kws ks && G.kw.contains (.make j ci ks) && decide (G.cn[ci]? = some x) && globB sc x && okName x && chkL N G cs sc (kws.map (·.value))
    | _ => false
  | .eqA j ci a b, sc, e => match e with
    | .Compare l [o] [r] _ => decide (CmpOp.Eq = o) && G.kw.contains (.eqA j ci) && chkE N G a sc l && chkE N G b sc r
    | _ => false
  | .neA j ci a b, sc, e => match e with
    | .Compare l [o] [r] _ => decide (CmpOp.NotEq = o) && G.kw.contains (.neA j ci) && chkE N G a sc l && chkE N G b sc r
    | _ => false
  | .inO j ci a b, sc, e => match e with
    | .Compare l [o] [r] _ => decide (CmpOp.In = o) && G.kw.contains (.inO j ci) && chkE N G a sc l && chkE N G b sc r
    | _ => false
  | .isA ci o, sc, e => match e with
    | .Call (.Name x _) [y, .Name z _] [] _ => decide (x = "isinstance") && globB sc x && G.kw.contains (.isA ci) && decide (G.cn[ci]? = some z) && globB sc z && okName z && chkE N G o sc y
    | _ => false
  | .mkx0 ci, sc, e => match e with
    | .Call (.Name x _) [] [] _ => G.kw.contains (.mkx ci none) && decide (G.cn[ci]? = some x) && globB sc x && okName x
    | _ => false
  | .mkx1 ci f o, sc, e => match e with
    | .Call (.Name x _) [y] [] _ => G.kw.contains (.mkx ci (some f)) && decide (G.cn[ci]? = some x) && globB sc x && okName x && chkE N G o sc y
    | _ => false
  | .isX j z o, sc, e => match e with
    | .Call (.Name x _) [y, .Name z' _] [] _ => decide (x = "isinstance") && globB sc x && G.kw.contains (.isX j z) && decide (z = z') && globB sc z && okName z && chkE N G o sc y
    | _ => false
  | .fldX ci f o, sc, e => match e with
    | .Attribute y g _ => decide (f = g) && G.kw.contains (.fldX ci f) && plainB y && chkE N G o sc y
    | _ => false
def chkL (N : List Str) (G : Glb) : CL → Scope → List Expr → Bool
  | .nil, _, es => match es with
    | [] => true
    | _ => false
  | .cons c r, sc, es => match es with
    | e :: es => chkE N G c sc e && chkL N G r sc es
    | _ => false
def chkO (N : List Str) (G : Glb) : CO → Scope → Option Expr → Bool
  | .no, _, e => match e with
    | none => true
    | _ => false
  | .yes c, sc, e => match e with
    | some e => chkE N G c sc e
    | _ => false
def chkCs (N : List Str) (G : Glb) : CO → Scope → List Expr → Bool
  | .no, _, es => match es with
    | [] => true
    | _ => false
  | .yes c, sc, es => match es with
    | [e] => testB c && chkE N G c sc e
    | _ => false
def chkI (N : List Str) (G : Glb) : CI → Scope → Expr → Bool
  | .seq c, sc, e => chkE N G c sc e
  | .rng1 c, sc, e => match e with
    | .Call (.Name x _) [y] [] _ => decide (x = "range") && globB sc x && chkE N G c sc y
    | _ => false
  | .rng2 a b, sc, e => match e with
    | .Call (.Name x _) [y, z] [] _ => decide (x = "range") && globB sc x && chkE N G a sc y && chkE N G b sc z
    | _ => false
  | .enum c, sc, e => match e with
    | .Call (.Name x _) [y] [] _ => decide (x = "enumerate") && globB sc x && chkE N G c sc y
    | _ => false
  | .zip a b, sc, e => match e with
    | .Call (.Name x _) [y, z] [] _ => decide (x = "zip") && globB sc x && chkE N G a sc y && chkE N G b sc z
    | _ => false
  | .own ci f c, sc, e => G.it.contains (ci, f) && chkE N G c sc e
  | .keys c, sc, e => chkE N G c sc e
  | .zip3 a b c, sc, e => match e with
    | .Call (.Name x _) [y, z, u] [] _ => decide (x = "zip") && globB sc x && chkE N G a sc y && chkE N G b sc z && chkE N G c sc u
    | _ => false
end
end DL

set_option Elab.async false
set_option linter.all false
set_option maxRecDepth 100000
set_option maxHeartbeats 4000000
/-! DR5: a < b < c < d; t[::-1] of a tuple. -/
namespace DL
open PySem PySem.Spec PyProof.Rows L2
section
variable {X : Cx}
def tChain3 (r r' r2 : R2) (ta tb tc td : TE) : TE := fun σ H Q => ta σ H fun x H1 => tb σ H1 fun y H2 => r x y H2 fun z H3 => ∃ k, z = .bl k ∧
  (if k = true then tc σ H3 fun u H4 => r' y u H4 fun z' H5 => ∃ k', z' = .bl k' ∧ (if k' = true then td σ H5 fun v H6 => r2 u v H6 Q else Q (.bl false) H5) else Q (.bl false) H3)
theorem pe_chain3 {op op' op2 : CmpOp} {r r' r2 : R2} {a b c d : Expr} {ta tb tc td : TE} {pos : Pos} (ho : OpR X (compareOp op) r) (ho' : OpR X (compareOp op') r') (ho2 : OpR X (compareOp op2) r2) (ha : PE X a ta) (hb : PE X b tb) (hc : PE X c tc) (hd : PE X d td)
    (hm : lastMarks [op, op', op2] [b, c, d] = false) : PE X (.Compare a [op, op', op2] [b, c, d] pos) (tChain3 r r' r2 ta tb tc td) := by
  refine ⟨fun pins s σ H Q I h => ?_⟩
  refine Compare_chain (thn (ha.run pins s σ H _ I h) fun v s1 ⟨x, H1, I1, r1, q1⟩ => chain_link (thn (hb.run pins s1 σ H1 _ I1 q1) fun u s2 ⟨y, H2, I2, r2', q2⟩ =>
    thn (ho pins s2 σ H2 x y v u _ I2 r1 r2' q2) fun d s3 ⟨z, H3, I3, r3, k, e, q3⟩ => ?_)) hm
  subst e
  cases r3
  refine wpAny_truthy_bool ?_
  cases k with
  | false => exact ite_ff ⟨.bl false, H3, I3, rfl, q3⟩
  | true =>
    refine ite_tt (chain_link (thn (hc.run pins s3 σ H3 _ I3 q3) fun w' s4 ⟨z', H4, I4, r4, q4⟩ => thn (ho' pins s4 σ H4 y z' u w' _ I4 r2' r4 q4) fun d2 s5 ⟨z5, H5, I5, r5, k', e', q5⟩ => ?_))
    subst e'
    cases r5
    refine wpAny_truthy_bool ?_
    cases k' with
    | false => exact ite_ff ⟨.bl false, H5, I5, rfl, q5⟩
    | true => exact ite_tt (chain_last (thn (hd.run pins s5 σ H5 _ I5 q5) fun w2 s6 ⟨z6, H6, I6, r6, q6⟩ => ho2 pins s6 σ H6 z' z6 w' w2 Q I6 r4 r6 q6))
theorem pt_chain3 {op op' op2 : CmpOp} {r r' r2 : R2} {a b c d : Expr} {ta tb tc td : TE} {pos : Pos} (ho : OpR X (compareOp op) r) (ho' : OpR X (compareOp op') r') (ho2 : OpR X (compareOp op2) r2) (ha : PE X a ta) (hb : PE X b tb) (hc : PE X c tc) (hd : PE X d td)
    (hm : lastMarks [op, op', op2] [b, c, d] = false) : PT X (.Compare a [op, op', op2] [b, c, d] pos) (tTest (tChain3 r r' r2 ta tb tc td)) := by
  refine ⟨fun pins s σ H Q I h => ?_⟩
  refine isTrue_chain (thn (ha.run pins s σ H _ I h) fun v s1 ⟨x, H1, I1, r1, q1⟩ => test_link (thn (hb.run pins s1 σ H1 _ I1 q1) fun u s2 ⟨y, H2, I2, r2', q2⟩ =>
    thn (ho pins s2 σ H2 x y v u _ I2 r1 r2' q2) fun d s3 ⟨z, H3, I3, r3, k, e, q3⟩ => ?_)) hm
  subst e
  cases r3
  refine wpAny_truthy_bool ?_
  cases k with
  | false =>
    obtain ⟨k', e', q'⟩ := q3
    cases e'
    exact ite_ff ⟨H3, I3, q'⟩
  | true =>
    refine ite_tt (test_link (thn (hc.run pins s3 σ H3 _ I3 q3) fun w' s4 ⟨z', H4, I4, r4, q4⟩ => thn (ho' pins s4 σ H4 y z' u w' _ I4 r2' r4 q4) fun d2 s5 ⟨z5, H5, I5, r5, k', e', q5⟩ => ?_))
    subst e'
    cases r5
    refine wpAny_truthy_bool ?_
    cases k' with
    | false =>
      obtain ⟨k2, e2, q'⟩ := q5
      cases e2
      exact ite_ff ⟨H5, I5, q'⟩
    | true =>
      refine ite_tt (test_last (thn (hd.run pins s5 σ H5 _ I5 q5) fun w2 s6 ⟨z6, H6, I6, r6, q6⟩ => thn (ho2 pins s6 σ H6 z' z6 w' w2 _ I6 r4 r6 q6) fun d' s7 ⟨z7, H7, I7, r7, k2, e2, q7⟩ => ?_))
      subst e2
      cases r7
      exact wpAny_truthy_bool ⟨H7, I7, q7⟩
end
/-! ### t[::-1] -/
section
variable {prog : Program} {w : World} {A : Around} {E : Value → Shared → Prop} {s : Shared}
theorem adjust_rev (n : Nat) : Builtin.Slice.sliceAdjust none none (-1) (n : Int) = ((n : Int) - 1, -1) := rfl
theorem places_rev (n : Nat) : Builtin.Slice.slicePlaces ((n : Int) - 1) (-1) (-1) = n := by
  unfold Builtin.Slice.slicePlaces
  have h1 : ¬ ((-1 : Int) > 0) := by omega
  simp only [h1, if_false]
  split
  · have : ((n : Int) - 1 - -1 - 1) / -(-1) = (n : Int) - 1 := by
      rw [show -(-1 : Int) = 1 from rfl, Int.ediv_one]; omega
    rw [this]; omega
  · omega
theorem pick_rev (xs : Array Value) : ((List.range xs.size).filterMap fun (m : Nat) => xs[(((xs.size : Int) - 1) + (m : Int) * (-1)).toNat]?).toArray = xs.toList.reverse.toArray := by
  congr 1
  apply List.ext_getElem?
  intro i
  have key : (List.range xs.size).filterMap (fun (m : Nat) => xs[(((xs.size : Int) - 1) + (m : Int) * (-1)).toNat]?) = (List.range xs.size).map fun m => xs.toList.reverse[m]?.getD .none := by
    rw [← List.filterMap_eq_map']
    have : ∀ l : List Nat, (∀ m ∈ l, m < xs.size) → l.filterMap (fun (m : Nat) => xs[(((xs.size : Int) - 1) + (m : Int) * (-1)).toNat]?) = l.filterMap (fun m => some (xs.toList.reverse[m]?.getD .none)) := by
      intro l
      induction l with
      | nil => intro _; rfl
      | cons m l ih =>
        intro h
        have hm := h m List.mem_cons_self
        rw [List.filterMap_cons, List.filterMap_cons, ih fun y hy => h y (List.mem_cons_of_mem _ hy)]
        have e1 : (((xs.size : Int) - 1) + (m : Int) * (-1)).toNat = xs.size - 1 - m := by omega
        have e2 : xs.toList.reverse[m]? = some (xs[xs.size - 1 - m]'(by omega)) := by
          rw [List.getElem?_reverse (by simpa using hm)]
          simp
        rw [e1, e2, Array.getElem?_eq_getElem (by omega)]
        rfl
    exact this _ fun m hm => List.mem_range.mp hm
  rw [key, List.getElem?_map]
  by_cases hi : i < xs.size
  · have hi' : i < xs.toList.reverse.length := by simpa using hi
    rw [List.getElem?_range hi]
    simp only [Option.map_some]
    rw [List.getElem?_eq_getElem hi']
    rfl
  · rw [List.getElem?_eq_none (by rw [List.length_range]; omega), List.getElem?_eq_none (by simp; omega)]
    rfl
theorem sliceApplied_rev {sl : Addr} {vl vu vs : Value} {n : Nat} {Q : Int × Int × Nat → Shared → Prop} (hs : s.heap.IsSliceOf sl vl vu vs) (pl : IsPart vl none) (pu : IsPart vu none) (ps : IsPart vs (some (-1)))
    (h : Q ((n : Int) - 1, -1, n) s) : wpAny (model prog w) A (Builtin.Slice.sliceApplied (.ref sl) (pure (n : Int))) Q E s := by
  obtain ⟨os, hos, hcs, hds⟩ := id hs
  unfold Builtin.Slice.sliceApplied Builtin.Slice.sliceFields
  refine wpAny_bind (wpAny_bind (wpAny_field hos hds (x := vl) rfl (wpAny_bind (wpAny_field hos hds (x := vu) rfl (wpAny_bind (wpAny_field hos hds (x := vs) rfl (wpAny_pure ?_)))))))
  refine wpAny_bind (HT.slicePart_ ps ?_)
  show wpAny _ _ (if ((-1 : Int) == 0) = true then _ else _) _ _ s
  rw [if_neg (by decide)]
  refine wpAny_bind (HT.slicePart_ pl (wpAny_bind (HT.slicePart_ pu (wpAny_bind (wpAny_pure ?_)))))
  show wpAny _ _ (match Builtin.Slice.sliceAdjust none none (-1) (n : Int) with | (lo, hi) => pure (lo, (-1 : Int), Builtin.Slice.slicePlaces lo hi (-1))) _ _ s
  rw [adjust_rev n]
  show wpAny _ _ (pure ((n : Int) - 1, (-1 : Int), Builtin.Slice.slicePlaces ((n : Int) - 1) (-1) (-1))) _ _ s
  rw [places_rev]
  exact wpAny_pure h
theorem getItem_tuple_rev {t sl : Addr} {items : Array Value} {vl vu vs : Value} {Q : Value → Shared → Prop} (ht : IsTup s.heap t items) (hs : s.heap.IsSliceOf sl vl vu vs) (pl : IsPart vl none) (pu : IsPart vu none) (ps : IsPart vs (some (-1)))
    (h : Q (.ref s.heap.objs.size) { s with heap := s.heap.push { cls := .type "tuple", data := .seq items.toList.reverse.toArray } })
    (hsz : items.size ≤ sizeLine) : wpAny (model prog w) A (getItem (.ref t) (.ref sl)) Q E s := by
  have htake : sizeOk (.seq items.toList.reverse.toArray) := by
    show items.toList.reverse.toArray.size ≤ sizeLine
    rw [List.size_toArray, List.length_reverse, Array.length_toList]
    omega
  obtain ⟨os, hos, hcs, hds⟩ := id hs
  have hTs : s.TypeIs (.ref sl) "slice" := ⟨os, hos, hcs⟩
  unfold getItem
  try with_reducible refine wpAny_holding ?_
  first | refine wpAny_bind (wpAny_pure ?_) | skip
  refine wpAny_bind (wpAny_sequenceKey ht.typeIs (by decide) ?_)
  refine wpAny_bind (wpAny_callSpecial?_slot (name := Str.ofString "__getitem__") ht.typeIs PyProof.Rows.slot_tuple_getitem
    (wpAny_call_entry PyProof.Rows.slot_tuple_getitem ht.typeIs entry_tuple_getitem ?_ (args_tuple_getitem _ _)))
  show wpAny _ _ (Builtin.Tuple.tupleItemsOf (.ref t) >>= _) _ _ s
  refine wpAny_bind (tupleItemsOf_ ht ?_)
  refine wpAny_bind (wpAny_typeOf hTs ?_)
  rw [if_pos (by decide)]
  refine wpAny_bind (sliceApplied_rev hs pl pu ps ?_)
  have hno : ¬ ((((items.size : Int) - 1 == 0 && (-1 : Int) == 1 && items.size == items.size)) = true) := by
    intro q
    rw [Bool.and_eq_true, Bool.and_eq_true] at q
    exact absurd q.1.2 (by decide)
  show wpAny _ _ (if (((items.size : Int) - 1 == 0 && (-1 : Int) == 1 && items.size == items.size)) = true then _ else _) _ _ s
  rw [if_neg hno, pick_rev]
  first
    | exact wpAny_bind (m := Builtin.Tuple.tupleExact _) (wpAny_newObj_type (wpAny_pure ⟨_, rfl, wpAny_pure h⟩) htake)
    | exact wpAny_bind (m := Builtin.Tuple.tupleExact _) (wpAny_newObj_type (wpAny_bind (wpAny_pure (wpAny_pure ⟨_, rfl, wpAny_pure h⟩))) htake)
    | exact wpAny_bind (wpAny_bind (m := Builtin.Tuple.tupleExact _) (wpAny_newObj_type (wpAny_pure (wpAny_pure ⟨_, rfl, wpAny_pure h⟩)) htake))
    | exact wpAny_bind (wpAny_bind (m := Builtin.Tuple.tupleExact _) (wpAny_newObj_type (wpAny_pure ⟨_, rfl, wpAny_pure h⟩) htake))
end
section
variable {X : Cx}
def tRevT (K : PySem.W.Frag) (te : TE) : TE := fun σ H Q => te σ H fun x H1 => ∃ a xs, x = .ref a ∧ SqT K H1 a xs ∧ ∀ p, H1 p = none → Q (.ref p) (upd H1 p (.tup xs.reverse))
theorem pe_revT {e : Expr} {te : TE} {k : Nat} {p1 p2 p3 pos : Pos} (he : PE X e te) : PE X (.Subscript e (.Slice none none (some (.UnaryOp .USub (.Constant (.int 1) k p1) p2)) p3) pos) (tRevT X.K te) := by
  refine ⟨fun pins s σ H Q I h => ?_⟩
  refine Subscript_ (thn (he.run pins s σ H _ I h) fun v s1 ⟨x, H1, I1, r1, q1⟩ => ?_)
  obtain ⟨a, xs, ex, hx, q⟩ := q1
  subst ex
  cases r1
  have hst : PO X (some (.UnaryOp .USub (.Constant (.int 1) k p1) p2)) (tPart (tUn (rU fun i => .int (-i)) (tC (.int 1)))) := po_some (pe_un un_neg pe_int)
  refine wpAny_Slice (thn (po_none.run pins s1 σ H1 (fun o H2 => o = none ∧ H2 = H1) I1 ⟨rfl, rfl⟩) fun vl s2 ⟨l, H2, I2, pl, el, e2⟩ => ?_)
  subst el e2
  refine thn (po_none.run pins s2 σ H2 (fun o H3 => o = none ∧ H3 = H2) I2 ⟨rfl, rfl⟩) fun vu s3 ⟨u, H3, I3, pu, eu, e3⟩ => ?_
  subst eu e3
  refine thn (hst.run pins s3 σ H3 (fun o H4 => o = some (-1) ∧ H4 = H3) I3 ⟨1, rfl, -1, rfl, rfl, rfl⟩) fun vs s4 ⟨o, H4, I4, ps, eo, e4⟩ => ?_
  subst eo e4
  have I5 : Inv X pins σ H4 { s4 with heap := s4.heap.push { cls := .type "slice", data := .fields #[vl, vu, vs] } } := I4.kept (t' := s4.toks) fun b ob q => Heap.get?_push_of_some _ q
  obtain ⟨its, r, ht, hz⟩ := I5.tuple hx
  have hlen := r.length
  show wpAny (model X.prog X.w) X.A (subscriptTail e (.Slice none none (some (.UnaryOp .USub (.Constant (.int 1) k p1) p2)) p3) (.ref a) (.ref s4.heap.objs.size)) (EP X pins σ Q) X.xe { s4 with heap := s4.heap.push { cls := .type "slice", data := .fields #[vl, vu, vs] } }
  refine tail_any (ops := [.ref a, .ref s4.heap.objs.size]) ht.typeIs (PyProof.Rows.slot_tuple_getitem.lookup) ?_ (by with_unfolding_all rfl)
  refine getItem_tuple_rev ht (Heap.IsSliceOf.new _ vl vu vs) pl pu ps ?_ (by rw [List.size_toArray]; omega)
  refine ⟨.ref _, _, I5.laid (t' := s4.toks) (o := .tup xs.reverse) (fun b ob q => Heap.get?_push_of_some _ q) (Nat.le_refl _) ?_, rfl, q _ (I5.hok.fresh (Nat.le_refl _))⟩
  exact ⟨by rw [List.length_reverse]; exact hz, _, by simpa using r.reverse, IsTup.new _ _⟩
end
end DL

set_option Elab.async false
set_option linter.all false
set_option maxRecDepth 100000
/-! DR7: methods and the making of instances, over promises with guards. -/
namespace DL
open PySem PySem.Spec PyProof.Rows L2
theorem meth_eval {o : Expr} {m : Str} {apos pos : Pos} {args : List Expr} {env : Env} (hbase : attributeBase o m env (eval o env) = eval o env)
    (hfew : ((backTo pos (starEach args env)).all (fun x => !x.1) && (backToKw pos (keywordEach [] env)).all (fun x => x.1.isSome) && decide (args.length + ([] : List Keyword).length + (if ([] : List Keyword).isEmpty then 0 else 1) < 30)) = true)
    (hline : (apos.endLine == pos.line) = true) : eval (.Call (.Attribute o m apos) args [] pos) env = (do
      let ov ← eval o env
      standAt apos.atName
      let (f, first) ← holding [ov] (getMethod ov m (do return (← importBound o env).getD true))
      callWith pos f first (backTo pos (starEach args env)) (backToKw pos (keywordEach [] env))) := by
  have hform : methodCallForm (args.length + ([] : List Keyword).length) (backTo pos (starEach args env)) (backToKw pos (keywordEach [] env)) = true := hfew
  have hpos : methodCallPos true o env apos pos = pure pos := by unfold methodCallPos; simp [hline]
  rw [arm_eval_Call, hbase]
  unfold methodCall
  rw [hform, hpos]
  simp only [calleeOf, if_true, pure_bind]
def tMk (C : Addr) (sp : Sp) (t : TA) : TE := fun σ H Q => t σ H fun vs H1 => ∀ x dx, H1 x = none → H1 dx = none → dx ≠ x → sp (.ref x :: vs) (upd (upd H1 dx (.own x)) x (.ins C dx [])) (fun v H2 => v = .non ∧ Q (.ref x) H2) E0
section
variable {X : Cx} {g : Bool} {k : Nat} {f C : Addr} {fd : FuncData} {ps : List Str} {sp : Sp} {x m : Str} {p pos apos : Pos} {o e : Expr} {es : List Expr} {ta : TE} {t : TA}
theorem pr_meth {pl : Sem Bool} (he : PE X o ta) (c : Cls X.K C) (hm : Meth X.K C m f) (F : FnR g X.prog X.w X.K X.mg X.base CX0 k f fd ps sp) (hgd : g = true → X.A.guards = some []) (hr : Room k X.A) {ds : List Value} {dvs : List V} (hb : Binds X.K fd ps ds) (hd : Vals dvs ds) (ha : PA X (e :: es) t)
    (hst : starEach (e :: es) X.env = (false, eval e X.env) :: starEach es X.env) (hpl : (backTo pos (starEach es X.env)).any (·.1) = false)
    (ht : eval (.Call (.Attribute o m apos) (e :: es) [] pos) X.env = (do
      let ov ← eval o X.env
      standAt apos.atName
      let (f, first) ← holding [ov] (getMethod ov m pl)
      callWith pos f first (backTo pos (starEach (e :: es) X.env)) (backToKw pos (keywordEach [] X.env)))) :
    PE X (.Call (.Attribute o m apos) (e :: es) [] pos) (tMeth C m sp dvs E0 ta t) := by
  refine ⟨fun pins s σ H Q I h => ?_⟩
  refine PySem.W.methodCall_KW (pl := pl) (thn (he.run pins s σ H _ I h) fun u s1 ⟨x, H1, I1, rx, a, dx, fs, ex, ea, l, q⟩ => ?_) ht
  subst ex
  obtain rfl : u = Value.ref a := rx
  refine getmeth_ok I1 ea c hm l ?_
  refine PySem.W.callWith_K (first := [.ref a]) (h₀ := X.base) I.ok.mod.kin hm.kp (thn (ha.run pos pins s1 σ H1 _ I1 q) fun us s2 ⟨vs, H2, I2, r, q2⟩ => ⟨I2.kIn, ?_⟩) hst hpl
  exact run_rD (us := .ref a :: us) (vs := .ref a :: vs) F hgd hr hb hd I2 (.cons rfl r) q2
theorem pr_meth0 {pl : Sem Bool} (he : PE X o ta) (c : Cls X.K C) (hm : Meth X.K C m f) (F : FnR g X.prog X.w X.K X.mg X.base CX0 k f fd ps sp) (hgd : g = true → X.A.guards = some []) (hr : Room k X.A) {ds : List Value} {dvs : List V} (hb : Binds X.K fd ps ds) (hd : Vals dvs ds)
    (ht : eval (.Call (.Attribute o m apos) [] [] pos) X.env = (do
      let ov ← eval o X.env
      standAt apos.atName
      let (f, first) ← holding [ov] (getMethod ov m pl)
      callWith pos f first (backTo pos (starEach [] X.env)) (backToKw pos (keywordEach [] X.env)))) :
    PE X (.Call (.Attribute o m apos) [] [] pos) (tMeth C m sp dvs E0 ta tNil) := by
  refine ⟨fun pins s σ H Q I h => ?_⟩
  refine PySem.W.methodCall_KW (pl := pl) (thn (he.run pins s σ H _ I h) fun u s1 ⟨x, H1, I1, rx, a, dx, fs, ex, ea, l, q⟩ => ?_) ht
  subst ex
  obtain rfl : u = Value.ref a := rx
  refine getmeth_ok I1 ea c hm l ?_
  exact PySem.W.callWith_K0 (first := [.ref a]) I1.kIn hm.kp (run_rD (us := [.ref a]) (vs := [.ref a]) F hgd hr hb hd I1 (.cons rfl .nil) q)
theorem run_mk {pins : List (Addr × Obj)} {σ : L2.St} {H : Hp} {s : Shared} {Q : VK} {us : List Value} {vs : List V} (M : Mk X.K C f) (F : FnR g X.prog X.w X.K X.mg X.base CX0 k f fd ps sp) (hgd : g = true → X.A.guards = some []) (hr : Room (k + 1) X.A) (hb : Binds X.K fd ps [])
    (I : Inv X pins σ H s) (r : Vals vs us)
    (h : ∀ x dx, H x = none → H dx = none → dx ≠ x → sp (.ref x :: vs) (upd (upd H dx (.own x)) x (.ins C dx [])) (fun v H2 => v = .non ∧ Q (.ref x) H2) E0) :
    wpAny (model X.prog X.w) X.A (call (.ref C) us) (EP X pins σ Q) X.xe s := by
  have hq := h (s.heap.objs.size + 1) s.heap.objs.size (I.hok.fresh (Nat.le_succ _)) (I.hok.fresh (Nat.le_refl _)) (Nat.ne_of_lt (Nat.lt_succ_self _))
  have I2 := Inv.made (C := C) I
  have r2 : Vals (V.ref (s.heap.objs.size + 1) :: vs) (Value.ref (s.heap.objs.size + 1) :: us) := .cons rfl r
  have hl : ((Value.ref (s.heap.objs.size + 1) :: us) ++ []).length = ps.length := by
    have e := r2.length
    rw [F.len _ _ _ _ hq] at e
    rw [List.append_nil]
    exact e.symm
  have hbb := hb _ (Value.ref (s.heap.objs.size + 1) :: us) I2.kIn hl
  rw [List.append_nil] at hbb
  refine wpAny_call (make_map (f := f) I.kIn M.makes M.init (beq_iff_eq.mp M.fn) (codeAny_mono (F.run _ X.stack _ _ ⟨Value.ref (s.heap.objs.size + 1) :: us, []⟩ (Value.ref (s.heap.objs.size + 1) :: us) _ _ E0 (fun z => hgd z) (hr.make C us [])
    (I2.env0.make C us []) hbb r2 hq) fun r s' hq' => ?_))
  cases r with
  | error e => exact hq'.elim
  | ok fl =>
    cases fl with
    | ret u =>
      obtain ⟨v, H', I3, rv, ev, q3⟩ := I2.after hq'
      subst ev
      exact ⟨rv, ⟨V.ref (s.heap.objs.size + 1), H', I3, rfl, q3⟩⟩
    | next => exact False.elim hq'
    | brk => exact False.elim hq'
    | cont => exact False.elim hq'
theorem pr_make (M : Mk X.K C f) (F : FnR g X.prog X.w X.K X.mg X.base CX0 k f fd ps sp) (hgd : g = true → X.A.guards = some []) (hr : Room (k + 1) X.A) (hg : Gl X x) (hm : X.mg x = some (.ref C)) (hb : Binds X.K fd ps [])
    (ha : PA X (e :: es) t) (hdb : (x == ("__debug__" : Str)) = false) (he : starEach (e :: es) X.env = (false, eval e X.env) :: starEach es X.env) (hpl : (backTo pos (starEach es X.env)).any (·.1) = false) :
    PE X (.Call (.Name x p) (e :: es) [] pos) (tMk C sp t) :=
  ⟨fun pins s σ H Q I h => wpAny_Call_Name_kw (ld_glob I hg hm (PySem.W.callWith_K (h₀ := X.base) I.ok.mod.kin M.kp (thn (ha.run pos pins s σ H _ I h) fun _ _ ⟨_, _, J, r, q⟩ => ⟨J.kIn, run_mk M F hgd hr hb J r q⟩) he hpl) hdb)⟩
theorem pr_make0 (M : Mk X.K C f) (F : FnR g X.prog X.w X.K X.mg X.base CX0 k f fd ps sp) (hgd : g = true → X.A.guards = some []) (hr : Room (k + 1) X.A) (hg : Gl X x) (hm : X.mg x = some (.ref C)) (hb : Binds X.K fd ps [])
    (hdb : (x == ("__debug__" : Str)) = false) : PE X (.Call (.Name x p) [] [] pos) (tMk C sp tNil) :=
  ⟨fun pins s σ H Q I h => wpAny_Call_Name_kw (ld_glob I hg hm (PySem.W.callWith_K0 I.kIn M.kp (run_mk (us := []) M F hgd hr hb I .nil h)) hdb)⟩
end
end DL

set_option Elab.async false
set_option linter.all false
set_option maxRecDepth 100000
/-! DR14: calls by keywords alone: of a def, of a class, of a method; over promises with guards. -/
namespace DL
open PySem PySem.Spec PyProof.Rows L2
theorem meth_evalK {o : Expr} {m : Str} {apos pos : Pos} {kws : List Keyword} {env : Env} (hbase : attributeBase o m env (eval o env) = eval o env)
    (hfew : methodCallForm (([] : List Expr).length + kws.length) (backTo pos (starEach [] env)) (backToKw pos (keywordEach kws env)) = true)
    (hline : (apos.endLine == pos.line) = true) : eval (.Call (.Attribute o m apos) [] kws pos) env = (do
      let ov ← eval o env
      standAt apos.atName
      let (f, first) ← holding [ov] (getMethod ov m (do return (← importBound o env).getD true))
      callWith pos f first (backTo pos (starEach [] env)) (backToKw pos (keywordEach kws env))) := by
  have hpos : methodCallPos true o env apos pos = pure pos := by unfold methodCallPos; simp [hline]
  rw [arm_eval_Call, hbase]
  unfold methodCall
  rw [hfew, hpos]
  simp only [calleeOf, if_true, pure_bind]
def tCallK (n m : Nat) (vs : List V) (sp : Sp) (gV : List V → List V → List V) (tk : TA) : TE := fun σ H Q => tk σ H fun zs H1 => zs.length = m ∧ sp (gV vs zs) H1 Q E0
def tMkK (C : Addr) (m : Nat) (sp : Sp) (gV : List V → List V → List V) (tk : TA) : TE := fun σ H Q => tk σ H fun zs H1 => zs.length = m ∧ ∀ x dx, H1 x = none → H1 dx = none → dx ≠ x → sp (gV [.ref x] zs) (upd (upd H1 dx (.own x)) x (.ins C dx [])) (fun v H2 => v = .non ∧ Q (.ref x) H2) E0
def tMethK (C : Addr) (m : Str) (n : Nat) (sp : Sp) (gV : List V → List V → List V) (ta : TE) (tk : TA) : TE := fun σ H Q => ta σ H fun x H1 => ∃ a dx fs, x = .ref a ∧ H1 a = some (.ins C dx fs) ∧ fs.lookup m = none ∧ tk σ H1 fun zs H2 => zs.length = n ∧ sp (gV [.ref a] zs) H2 Q E0
section
variable {X : Cx} {g : Bool} {k n : Nat} {f C : Addr} {fd : FuncData} {ps ks : List Str} {sp : Sp} {x m : Str} {p pos apos : Pos} {o : Expr} {kws : List Keyword} {ta : TE} {tk : TA} {gg : List Value → List Value → List Value} {gV : List V → List V → List V}
theorem run_rK {pins : List (Addr × Obj)} {σ : L2.St} {H : Hp} {s : Shared} {Q : VK} {us ws : List Value} {vs zs : List V} (F : FnR g X.prog X.w X.K X.mg X.base CX0 k f fd ps sp) (hg : g = true → X.A.guards = some []) (hr : Room k X.A) (hb : KBn X.K fd ps n ks gg gV)
    (I : Inv X pins σ H s) (r : Vals vs us) (rz : Vals zs ws) (l1 : vs.length = n) (l2 : zs.length = ks.length) (h : sp (gV vs zs) H Q E0) : wpAny (model X.prog X.w) X.A (call (.ref f) us (ks.zip ws)) (EP X pins σ Q) X.xe s := by
  have r2 := hb.rel r rz
  refine wpAny_call (codeAny_mono (F.run X.A X.stack s H ⟨us, ks.zip ws⟩ (gg us ws) (gV vs zs) Q E0 hg hr I.env0 (hb.to s us ws I.kIn (r.length.symm.trans l1) (rz.length.symm.trans l2)) r2 h) fun res s' hq => ?_)
  match res, hq with
  | .ok (.ret u), hq => exact I.after hq
theorem pr_callK (F : FnR g X.prog X.w X.K X.mg X.base CX0 k f fd ps sp) (hgd : g = true → X.A.guards = some []) (hr : Room k X.A) (hg : Gl X x) (hm : X.mg x = some (.ref f)) (hk : PySem.W.keepIn X.K (.ref f) = true) (hb : KBn X.K fd ps 0 ks gg gV)
    (hkw : PK X kws tk) (hall : (backToKw pos (keywordEach kws X.env)).all (·.1.isSome) = true) (hks : (backToKw pos (keywordEach kws X.env)).filterMap (·.1) = ks) (hdb : (x == ("__debug__" : Str)) = false)
    (hpl : ((backTo pos (starEach [] X.env)).any (·.1) || (backToKw pos (keywordEach kws X.env)).any (·.1.isNone)) = false) : PE X (.Call (.Name x p) [] kws pos) (tCallK 0 ks.length [] sp gV tk) := by
  refine ⟨fun pins s σ H Q I h => ?_⟩
  refine wpAny_Call_Name_kw (ld_glob I hg hm ?_ hdb)
  refine PySem.W.callWith_KW0 (h₀ := X.base) I.ok.mod.kin hk hall ?_ hpl
  refine thn (hkw.run pos pins s σ H _ I h) fun ws s2 ⟨zs, H2, I2, rz, l2, q2⟩ => ⟨I2.kIn, ?_⟩
  rw [hks]
  exact run_rK (us := []) (vs := []) F hgd hr hb I2 .nil rz rfl l2 q2
theorem pr_methK {pl : Sem Bool} (he : PE X o ta) (c : Cls X.K C) (hm : Meth X.K C m f) (F : FnR g X.prog X.w X.K X.mg X.base CX0 k f fd ps sp) (hgd : g = true → X.A.guards = some []) (hr : Room k X.A) (hb : KBn X.K fd ps 1 ks gg gV)
    (hkw : PK X kws tk) (hall : (backToKw pos (keywordEach kws X.env)).all (·.1.isSome) = true) (hks : (backToKw pos (keywordEach kws X.env)).filterMap (·.1) = ks)
    (hpl : ((backTo pos (starEach [] X.env)).any (·.1) || (backToKw pos (keywordEach kws X.env)).any (·.1.isNone)) = false)
    (ht : eval (.Call (.Attribute o m apos) [] kws pos) X.env = (do
      let ov ← eval o X.env
      standAt apos.atName
      let (f, first) ← holding [ov] (getMethod ov m pl)
      callWith pos f first (backTo pos (starEach [] X.env)) (backToKw pos (keywordEach kws X.env)))) :
    PE X (.Call (.Attribute o m apos) [] kws pos) (tMethK C m ks.length sp gV ta tk) := by
  refine ⟨fun pins s σ H Q I h => ?_⟩
  refine PySem.W.methodCall_KW (pl := pl) (thn (he.run pins s σ H _ I h) fun u s1 ⟨x, H1, I1, rx, a, dx, fs, ex, ea, l, q⟩ => ?_) ht
  subst ex
  obtain rfl : u = Value.ref a := rx
  refine getmeth_ok I1 ea c hm l ?_
  refine PySem.W.callWith_KW0 (first := [.ref a]) (h₀ := X.base) I.ok.mod.kin hm.kp hall ?_ hpl
  refine thn (hkw.run pos pins s1 σ H1 _ I1 q) fun ws s2 ⟨zs, H2, I2, rz, l2, q2⟩ => ⟨I2.kIn, ?_⟩
  rw [hks]
  exact run_rK (us := [.ref a]) (vs := [.ref a]) F hgd hr hb I2 (.cons rfl .nil) rz rfl l2 q2
theorem run_mkK {pins : List (Addr × Obj)} {σ : L2.St} {H : Hp} {s : Shared} {Q : VK} {ws : List Value} {zs : List V} (M : Mk X.K C f) (F : FnR g X.prog X.w X.K X.mg X.base CX0 k f fd ps sp) (hgd : g = true → X.A.guards = some []) (hr : Room (k + 1) X.A) (hb : KBn X.K fd ps 1 ks gg gV)
    (I : Inv X pins σ H s) (rz : Vals zs ws) (l2 : zs.length = ks.length)
    (h : ∀ x dx, H x = none → H dx = none → dx ≠ x → sp (gV [.ref x] zs) (upd (upd H dx (.own x)) x (.ins C dx [])) (fun v H2 => v = .non ∧ Q (.ref x) H2) E0) :
    wpAny (model X.prog X.w) X.A (call (.ref C) [] (ks.zip ws)) (EP X pins σ Q) X.xe s := by
  have hq := h (s.heap.objs.size + 1) s.heap.objs.size (I.hok.fresh (Nat.le_succ _)) (I.hok.fresh (Nat.le_refl _)) (Nat.ne_of_lt (Nat.lt_succ_self _))
  have I2 := Inv.made (C := C) I
  have r1 : Vals [V.ref (s.heap.objs.size + 1)] [Value.ref (s.heap.objs.size + 1)] := .cons rfl .nil
  have r2 := hb.rel r1 rz
  refine wpAny_call (make_map (f := f) I.kIn M.makes M.init (beq_iff_eq.mp M.fn) (codeAny_mono (F.run _ X.stack _ _ ⟨[Value.ref (s.heap.objs.size + 1)], ks.zip ws⟩ (gg [Value.ref (s.heap.objs.size + 1)] ws) _ _ E0 (fun z => hgd z) (hr.make C [] (ks.zip ws))
    (I2.env0.make C [] (ks.zip ws)) (hb.to _ [Value.ref (s.heap.objs.size + 1)] ws I2.kIn rfl (rz.length.symm.trans l2)) r2 hq) fun r s' hq' => ?_))
  cases r with
  | error e => exact hq'.elim
  | ok fl =>
    cases fl with
    | ret u =>
      obtain ⟨v, H', I3, rv, ev, q3⟩ := I2.after hq'
      subst ev
      exact ⟨rv, ⟨V.ref (s.heap.objs.size + 1), H', I3, rfl, q3⟩⟩
    | next => exact False.elim hq'
    | brk => exact False.elim hq'
    | cont => exact False.elim hq'
theorem pr_makeK (M : Mk X.K C f) (F : FnR g X.prog X.w X.K X.mg X.base CX0 k f fd ps sp) (hgd : g = true → X.A.guards = some []) (hr : Room (k + 1) X.A) (hg : Gl X x) (hm : X.mg x = some (.ref C)) (hb : KBn X.K fd ps 1 ks gg gV)
    (hkw : PK X kws tk) (hall : (backToKw pos (keywordEach kws X.env)).all (·.1.isSome) = true) (hks : (backToKw pos (keywordEach kws X.env)).filterMap (·.1) = ks) (hdb : (x == ("__debug__" : Str)) = false)
    (hpl : ((backTo pos (starEach [] X.env)).any (·.1) || (backToKw pos (keywordEach kws X.env)).any (·.1.isNone)) = false) : PE X (.Call (.Name x p) [] kws pos) (tMkK C ks.length sp gV tk) := by
  refine ⟨fun pins s σ H Q I h => ?_⟩
  refine wpAny_Call_Name_kw (ld_glob I hg hm ?_ hdb)
  refine PySem.W.callWith_KW0 (h₀ := X.base) I.ok.mod.kin M.kp hall ?_ hpl
  refine thn (hkw.run pos pins s σ H _ I h) fun ws s2 ⟨zs, H2, I2, rz, l2, q2⟩ => ⟨I2.kIn, ?_⟩
  rw [hks]
  exact run_mkK M F hgd hr hb I2 rz l2 q2
end
end DL

set_option Elab.async false
set_option linter.all false
set_option maxRecDepth 100000
/-! DL6: what the check says holds: expressions. -/
namespace DL
open PySem PySem.Spec PyProof.Rows L2

def lift (K : PySem.W.Frag) (w : DEnv → DH → WK → Prop) : TE := fun σ H Q => ∃ ρ h Qd, SR K H ρ σ ∧ HR K h H ∧ w ρ h Qd ∧ Post K h H Qd Q
def PostL (K : PySem.W.Frag) (h : DH) (H : Hp) (Qd : List D → DH → Prop) (Q : List V → Hp → Prop) : Prop := ∀ ds h' vs H', Ext h H h' H' → VRs K H' ds vs → HR K h' H' → Qd ds h' → Q vs H'
def liftL (K : PySem.W.Frag) (w : DEnv → DH → (List D → DH → Prop) → Prop) : TA := fun σ H Q => ∃ ρ h Qd, SR K H ρ σ ∧ HR K h H ∧ w ρ h Qd ∧ PostL K h H Qd Q
def PostB (K : PySem.W.Frag) {α : Type} (h : DH) (H : Hp) (Qd : α → DH → Prop) (Q : α → Hp → Prop) : Prop := ∀ b h' H', Ext h H h' H' → HR K h' H' → Qd b h' → Q b H'
def liftB (K : PySem.W.Frag) {α : Type} (w : DEnv → DH → (α → DH → Prop) → Prop) : L2.St → Hp → (α → Hp → Prop) → Prop := fun σ H Q => ∃ ρ h Qd, SR K H ρ σ ∧ HR K h H ∧ w ρ h Qd ∧ PostB K h H Qd Q
theorem Post.later {K : PySem.W.Frag} {h h' : DH} {H H' : Hp} {Qd : WK} {Q : VK} (p : Post K h H Qd Q) (e : Ext h H h' H') : Post K h' H' Qd Q := fun d h2 v H2 e2 r hr q => p d h2 v H2 (e.trans e2) r hr q
theorem PostL.later {K : PySem.W.Frag} {h h' : DH} {H H' : Hp} {Qd : List D → DH → Prop} {Q : List V → Hp → Prop} (p : PostL K h H Qd Q) (e : Ext h H h' H') : PostL K h' H' Qd Q := fun d h2 v H2 e2 r hr q => p d h2 v H2 (e.trans e2) r hr q
theorem PostB.later {K : PySem.W.Frag} {α : Type} {h h' : DH} {H H' : Hp} {Qd : α → DH → Prop} {Q : α → Hp → Prop} (p : PostB K h H Qd Q) (e : Ext h H h' H') : PostB K h' H' Qd Q := fun d h2 H2 e2 hr q => p d h2 H2 (e.trans e2) hr q
theorem PostB.here {K : PySem.W.Frag} {α : Type} {h : DH} {H : Hp} {Qd : α → DH → Prop} {Q : α → Hp → Prop} (p : PostB K h H Qd Q) (hr : HR K h H) {b : α} (q : Qd b h) : Q b H := p b h H (Ext.refl h H) hr q

theorem pe_imp {X : Cx} {e : Expr} {t t' : TE} (p : PE X e t) (k : ∀ σ H Q, t' σ H Q → t σ H Q) : PE X e t' := ⟨fun pins s σ H Q I h => p.run pins s σ H Q I (k σ H Q h)⟩
theorem pt_imp {X : Cx} {e : Expr} {t t' : TT} (p : PT X e t) (k : ∀ σ H Q, t' σ H Q → t σ H Q) : PT X e t' := ⟨fun pins s σ H Q I h => p.run pins s σ H Q I (k σ H Q h)⟩
theorem pa_imp {X : Cx} {e : List Expr} {t t' : TA} (p : PA X e t) (k : ∀ σ H Q, t' σ H Q → t σ H Q) : PA X e t' := ⟨fun pos pins s σ H Q I h => p.run pos pins s σ H Q I (k σ H Q h)⟩
theorem po_imp {X : Cx} {e : Option Expr} {t t' : TO} (p : PO X e t) (k : ∀ σ H Q, t' σ H Q → t σ H Q) : PO X e t' := ⟨fun pins s σ H Q I h => p.run pins s σ H Q I (k σ H Q h)⟩

/-- a def over data -/
def liftSp (K : PySem.W.Frag) (sp : DSp) : Sp := fun vs H Q _ => ∃ ds h Qd, VRs K H ds vs ∧ HR K h H ∧ sp ds h Qd ∧ Post K h H Qd Q
structure Callee (X : Cx) (x : Str) (sp : DSp) : Prop where
  ex : ∃ g f fd ps k, FnR g X.prog X.w X.K X.mg X.base CX0 k f fd ps (liftSp X.K sp) ∧ (g = true → X.A.guards = some []) ∧ Room k X.A ∧ X.mg x = some (.ref f) ∧ PySem.W.keepIn X.K (.ref f) = true ∧ Binds X.K fd ps []
/-- a method's promise: behind what is handed stand the defaults dd -/
def FnM (g : Bool) (P : Program) (w : World) (K : PySem.W.Frag) (mg : Str → Option Value) (base : Heap) (k : Nat) (f : Addr) (fd : FuncData) (sp : DSp) : Prop :=
  ∃ (ps : List Str) (dd : List Int) (ds : List Value) (sp0 : DSp), FnR g P w K mg base CX0 k f fd ps (liftSp K sp0) ∧ Binds K fd ps ds ∧ Vals (dd.map V.int) ds ∧ ∀ as h Q, sp as h Q → sp0 (as ++ dd.map D.int) h Q
theorem FnM.all {g : Bool} {P : Program} {w : World} {K : PySem.W.Frag} {mg : Str → Option Value} {base : Heap} {k : Nat} {f : Addr} {fd : FuncData} {ps : List Str} {sp : DSp} (F : FnR g P w K mg base CX0 k f fd ps (liftSp K sp)) (b : Binds K fd ps []) : FnM g P w K mg base k f fd sp :=
  ⟨ps, [], [], sp, F, b, .nil, fun as h Q s => by rw [List.map_nil, List.append_nil]; exact s⟩
theorem FnM.mono {g : Bool} {P : Program} {w : World} {K : PySem.W.Frag} {mg : Str → Option Value} {base : Heap} {j k : Nat} {f : Addr} {fd : FuncData} {sp : DSp} (F : FnM g P w K mg base j f fd sp) (h : j ≤ k) : FnM g P w K mg base k f fd sp :=
  let ⟨ps, dd, ds, sp0, a, b⟩ := F; ⟨ps, dd, ds, sp0, a.mono h, b⟩
structure MethAt (X : Cx) (C : Addr) (m : Str) (sp : DSp) : Prop where
  ex : ∃ g f fd k, Cls X.K C ∧ Meth X.K C m f ∧ FnM g X.prog X.w X.K X.mg X.base k f fd sp ∧ (g = true → X.A.guards = some []) ∧ Room k X.A
/-- the def at f stands behind the name m of the class: a property's getter, or what len or == ask for -/
inductive OwnF (K : PySem.W.Frag) (C : Addr) (m : Str) (f : Addr) : Prop where
  | prop {p : Addr} : PropOf K C m p f → dun m = false → OwnF K C m f
  | ne : m = "__ne__" → PySem.W.findIn K (.ref C) "__ne__" = some (some (.builtin "object.__ne__")) → PySem.W.mroIn K C (.type "object") = some true → PySem.W.findIn K (.ref C) "__eq__" = some (some (.ref f)) → PySem.W.isFn K (.ref f) = true → PySem.W.notFirst K C (.ref C) = true → OwnF K C m f
  | slot : (m == "__len__" || m == "__eq__" || m == "__contains__") = true → PySem.W.findIn K (.ref C) m = some (some (.ref f)) → PySem.W.isFn K (.ref f) = true → PySem.W.notFirst K C (.ref C) = true → OwnF K C m f
structure PropAt (X : Cx) (C : Addr) (m : Str) (sp : DSp) : Prop where
  ex : ∃ f fd ps k, Cls X.K C ∧ OwnF X.K C m f ∧ FnR false X.prog X.w X.K X.mg X.base CX0 k f fd ps (liftSp X.K sp) ∧ Room (k + 1) X.A ∧ Binds X.K fd ps []
structure MakeAt (X : Cx) (C : Addr) (sp : DSp) : Prop where
  ex : ∃ g f fd ps k, Mk X.K C f ∧ FnR g X.prog X.w X.K X.mg X.base CX0 k f fd ps (liftSp X.K sp) ∧ (g = true → X.A.guards = some []) ∧ Room (k + 1) X.A ∧ Binds X.K fd ps []
def bltNames : List Str := ["len", "tuple", "list", "min", "max", "sum", "all", "any", "repr", "abs", "int", "str", "range", "enumerate", "zip", "isinstance", "bool", "sorted"]
/-- what isinstance asks of an own class -/
structure IsiC (K : PySem.W.Frag) (C : Addr) : Prop where
  cl : Cls K C
  ha : PySem.W.findIn K (.ref C) "__class__" = some (some (.builtin "object.__class__"))
  hn : PySem.W.specialIn K (.builtin "object.__class__") "__get__" = some (some (.builtin "getset_descriptor.__get__"))
  ht : PySem.W.takesIn K (.builtin "object.__class__") = some true
  hm : PySem.W.mroIn K C (.type "object") = some true
/-- return iter(self.f) -/
def iterB (sc : Scope) (f : Str) : List Stmt → Bool
  | [.Return (some (.Call (.Name x _) [.Attribute (.Name s1 _) g _] [] _)) _] => decide (x = "iter") && decide (s1 = "self") && decide (g = f) && globB sc x && seenB sc s1
  | _ => false
/-- what the top says of an own __iter__ -/
structure IterOf (K : PySem.W.Frag) (C : Addr) (f : Str) : Prop where
  ex : ∃ fi fd qual st, PySem.W.findIn K (.ref C) "__iter__" = some (some (.ref fi)) ∧ PySem.W.isFn K (.ref fi) = true ∧ Fun K "__iter__" qual st fi fd ∧ FnScope ["self"] ["self"] (defScope st) ∧ iterB (defScope st) f (defBody st) = true ∧ Cls K C ∧ NoAttr K C f ∧ Binds K fd ["self"] []
/-- how a def binds what is handed by keywords ks: the parameters' values are the keywords' at the places is -/
def KwB (K : PySem.W.Frag) (fd : FuncData) (ps : List Str) (n : Nat) (ks : List Str) (is : List Nat) : Prop := KBn K fd ps n ks (fun us ws => us ++ permL is ws) (fun vs zs => vs ++ permL is zs)
def anyTs : List String := ["NoneType", "bool", "int", "str", "tuple", "list", "dict"]
/-- what isinstance and == beside any value ask of an own class -/
structure AnyT (K : PySem.W.Frag) (C : Addr) : Prop where
  ic : IsiC K C
  hd : PySem.W.hasDictIn K C = true
  ty : PySem.W.typeIn K (.ref C) = some (.type "type")
  own : PySem.W.subIn K (.ref C) (.ref C) = some true
  no : ∀ t ∈ anyTs, PySem.W.subIn K (.type t) (.ref C) = some false
/-- an own def f behind the name m of the class C -/
structure SlotF (K : PySem.W.Frag) (C : Addr) (m : Str) (f : Addr) : Prop where
  cl : Cls K C
  find : PySem.W.findIn K (.ref C) m = some (some (.ref f))
  fn : PySem.W.isFn K (.ref f) = true
/-- an error's __init__ that stores what it is handed -/
def spXI (C : Addr) (f : Str) : Sp := fun vs H Q _ => ∃ (a : Addr) (v : V), vs = [.ref a, v] ∧ H a = some (exo a C none) ∧ ∀ d, H d = none → d ≠ a → Q .non (upd (upd H d (exd d [(f, v)])) a (exo a C (some d)))
structure OwnX (X : Cx) (C : Addr) (f : Str) : Prop where
  ex : ∃ fI fd ps k, OexC X.K C ∧ PySem.W.findIn X.K (.ref C) "__init__" = some (some (.ref fI)) ∧ PySem.W.typeIn X.K (.ref fI) = some (.type "function") ∧ FnOk X.prog X.w X.K X.mg X.base CX0 k fI fd ps (spXI C f) ∧ Room (k + 1) X.A ∧ Binds X.K fd ps []
def excBases : List Value := [.type "ValueError", .type "Exception", .type "BaseException", .type "object"]
/-- what a class's name is worth -/
def ClsN (mg : Str → Option Value) (z : Str) (c : V) (cv : Value) : Prop := (∃ A, c = .ref A ∧ cv = .ref A ∧ mg z = some (.ref A)) ∨ ∃ n, c = .ty n ∧ cv = .type n ∧ mg z = none ∧ bootBuiltins z = some (.type n) ∧ z ≠ "__name__"
/-- isinstance of an error by the class cv -/
def IsXsp (K : PySem.W.Frag) (cv : Value) (sp : DSp) : Prop := ∀ ds h Q, sp ds h Q → ∃ C f xs b, ds = [.exc C f xs] ∧ ExcC K C ∧ PySem.W.kitOne K (.ref C) cv = some b ∧ Q (.bl b) h
/-- the facts of a further name -/
def KxAt (X : Cx) (F : Fx) : KX → Prop
  | .fn j x ks => ∃ g f fd ps k is sp, F.fs[j]? = some (spPerm is sp) ∧ FnR g X.prog X.w X.K X.mg X.base CX0 k f fd ps (liftSp X.K sp) ∧ (g = true → X.A.guards = some []) ∧ Room k X.A ∧ X.mg x = some (.ref f) ∧ PySem.W.keepIn X.K (.ref f) = true ∧ KwB X.K fd ps 0 ks is
  | .meth j ci m ks => ∃ C g f fd ps k is sp, F.cv[ci]? = some (.ref C) ∧ F.fs[j]? = some (spPermM is sp) ∧ Cls X.K C ∧ Meth X.K C m f ∧ FnR g X.prog X.w X.K X.mg X.base CX0 k f fd ps (liftSp X.K sp) ∧ (g = true → X.A.guards = some []) ∧ Room k X.A ∧ KwB X.K fd ps 1 ks is
  | .make j ci ks => ∃ C g f fd ps k is sp, F.cv[ci]? = some (.ref C) ∧ F.fs[j]? = some (spPermM is sp) ∧ Mk X.K C f ∧ FnR g X.prog X.w X.K X.mg X.base CX0 k f fd ps (liftSp X.K sp) ∧ (g = true → X.A.guards = some []) ∧ Room (k + 1) X.A ∧ KwB X.K fd ps 1 ks is
  | .eqA j ci => ∃ C sp f fd ps k, F.cv[ci]? = some (.ref C) ∧ F.fs[j]? = some sp ∧ SlotF X.K C "__eq__" f ∧ AnyT X.K C ∧ FnR false X.prog X.w X.K X.mg X.base CX0 k f fd ps (liftSp X.K sp) ∧ Room (k + 1) X.A ∧ Binds X.K fd ps []
  | .neA j ci => ∃ C sp f fd ps k, F.cv[ci]? = some (.ref C) ∧ F.fs[j]? = some sp ∧ SlotF X.K C "__eq__" f ∧ AnyT X.K C ∧ PySem.W.findIn X.K (.ref C) "__ne__" = some (some (.builtin "object.__ne__")) ∧ FnR false X.prog X.w X.K X.mg X.base CX0 k f fd ps (liftSp X.K sp) ∧ Room (k + 1) X.A ∧ Binds X.K fd ps []
  | .inO j ci => ∃ C sp f fd ps k, F.cv[ci]? = some (.ref C) ∧ F.fs[j]? = some sp ∧ SlotF X.K C "__contains__" f ∧ FnR false X.prog X.w X.K X.mg X.base CX0 k f fd ps (liftSp X.K sp) ∧ Room (k + 1) X.A ∧ Binds X.K fd ps []
  | .isA ci => ∃ C, F.cv[ci]? = some (.ref C) ∧ AnyT X.K C
  | .mkx ci none => ∃ C, F.cv[ci]? = some (.ref C) ∧ PySem.W.keepIn X.K (.ref C) = true ∧ PySem.W.excIn X.K C excBases "ValueError.__new__" = true
  | .mkx ci (some f) => ∃ C, F.cv[ci]? = some (.ref C) ∧ OwnX X C f
  | .isX j z => ∃ sp c cv, F.fs[j]? = some sp ∧ ClsN X.mg z c cv ∧ IsXsp X.K cv sp
  | .fldX ci f => ∃ C, F.cv[ci]? = some (.ref C) ∧ XfC X.K C ∧ PySem.W.findIn X.K (.ref C) f = some none
/-- where a text that was held against the check stands -/
structure Ctx (N : List Str) (G : Glb) (F : Fx) (X : Cx) : Prop where
  hN : X.N = N
  nd : N.Nodup
  calm : X.calm = true
  hu : X.A.units + 100 < cLine
  grd : G.rep = true → X.A.guards = some []
  bl : ∀ x ∈ bltNames, X.mg x = none
  cn : ∀ (i : Nat) (x : Str), G.cn[i]? = some x → ∃ d u v, F.cv[i]? = some d ∧ X.mg x = some u ∧ RelV v u ∧ ∀ H, VR X.K H d v
  fn : ∀ (i : Nat) (x : Str), G.fn[i]? = some x → ∃ sp, F.fs[i]? = some sp ∧ Callee X x sp
  ms : ∀ (j ci : Nat) (m : Str), (j, ci, m) ∈ G.ms → ∃ C sp, F.cv[ci]? = some (.ref C) ∧ F.fs[j]? = some sp ∧ MethAt X C m sp
  mks : ∀ (j ci : Nat), (j, ci) ∈ G.mks → ∃ C sp, F.cv[ci]? = some (.ref C) ∧ F.fs[j]? = some sp ∧ MakeAt X C sp
  fd : ∀ (ci : Nat) (f : Str), (ci, f) ∈ G.fd → ∃ C, F.cv[ci]? = some (.ref C) ∧ Cls X.K C ∧ NoAttr X.K C f
  pr : ∀ (j ci : Nat) (m : Str), (j, ci, m) ∈ G.pr → ∃ C sp, F.cv[ci]? = some (.ref C) ∧ F.fs[j]? = some sp ∧ PropAt X C m sp
  ic : ∀ ci ∈ G.ic, ∃ C, F.cv[ci]? = some (.ref C) ∧ IsiC X.K C
  it : ∀ (ci : Nat) (f : Str), (ci, f) ∈ G.it → ∃ C, F.cv[ci]? = some (.ref C) ∧ IterOf X.K C f ∧ X.mg "iter" = none ∧ Room 1 X.A
  kw : ∀ e ∈ G.kw, KxAt X F e
theorem Ctx.blk {N : List Str} {G : Glb} {F : Fx} {X : Cx} (C : Ctx N G F X) (s : Shared) (H : Hp) (scope : Scope) (cenv : Env) (fp : List Addr) : Ctx N G F (X.blk s H scope cenv fp) :=
  ⟨C.hN, C.nd, C.calm, C.hu, C.grd, C.bl, C.cn, fun i x e => let ⟨sp, a, b⟩ := C.fn i x e; ⟨sp, a, ⟨b.ex⟩⟩, fun j ci m e => let ⟨c, sp, a, b, d⟩ := C.ms j ci m e; ⟨c, sp, a, b, ⟨d.ex⟩⟩, fun j ci e => let ⟨c, sp, a, b, d⟩ := C.mks j ci e; ⟨c, sp, a, b, ⟨d.ex⟩⟩, C.fd, fun j ci m e => let ⟨c, sp, a, b, d⟩ := C.pr j ci m e; ⟨c, sp, a, b, ⟨d.ex⟩⟩, C.ic, C.it, fun e h => by
    have z := C.kw e h
    cases e with
    | mkx ci f => cases f with
      | none => exact z
      | some f => exact let ⟨c, a, b⟩ := z; ⟨c, a, ⟨b.ex⟩⟩
    | _ => exact z⟩

section
variable {N : List Str} {G : Glb} {F : Fx} {X : Cx}
theorem slotW_get : ∀ {ρ : DEnv} {i : Nat} {k : D → Prop}, slotW ρ i k → ∃ d, ρ[i]? = some (some d) ∧ k d
  | [], _, _, h => h.elim
  | none :: _, 0, _, h => h.elim
  | some d :: _, 0, _, h => ⟨d, rfl, h⟩
  | o :: r, n + 1, k, h => by
    have h' : slotW r n k := by cases o <;> exact h
    obtain ⟨d, a, b⟩ := slotW_get h'
    exact ⟨d, by simpa using a, b⟩
theorem nthW_get {α : Type} : ∀ {l : List α} {i : Nat} {k : α → Prop}, nthW l i k → ∃ d, l[i]? = some d ∧ k d
  | [], _, _, h => h.elim
  | d :: _, 0, _, h => ⟨d, rfl, h⟩
  | o :: r, n + 1, k, h => by
    obtain ⟨d, a, b⟩ := nthW_get (l := r) h
    exact ⟨d, by simpa using a, b⟩
theorem nthW_eq {α : Type} : ∀ {l : List α} {i : Nat} {x : α} (k : α → Prop), l[i]? = some x → nthW l i k = k x
  | [], _, _, _, e => by simp at e
  | a :: r, 0, _, k, e => by simp at e; subst e; rfl
  | a :: r, i + 1, _, k, e => nthW_eq (l := r) k (by simpa using e)
theorem boolW_get {d : D} {k : Bool → Prop} (h : boolW d k) : ∃ b, d = .bl b ∧ k b := by
  unfold boolW at h
  split at h
  · exact ⟨_, rfl, h⟩
  · exact h.elim
theorem intW_get {d : D} {k : Int → Prop} (h : intW d k) : ∃ b, d = .int b ∧ k b := by
  unfold intW at h
  split at h
  · exact ⟨_, rfl, h⟩
  · exact h.elim

/-! ### no stars -/
theorem chk_drop : ∀ (ce : CE) {sc : Scope} {e : Expr}, chkE N G ce sc e = true → ∃ c : CE, (∀ c', c ≠ CE.drop c') ∧ chkE N G c sc e = true := fun ce sc e h => by
  have key : ∀ (n : Nat) (ce : CE), sizeOf ce ≤ n → chkE N G ce sc e = true → ∃ c : CE, (∀ c', c ≠ CE.drop c') ∧ chkE N G c sc e = true := by
    intro n
    induction n with
    | zero => intro ce hs; cases ce <;> simp at hs
    | succ n ih =>
      intro ce hs h
      by_cases q : ∃ c, ce = .drop c
      · obtain ⟨c, rfl⟩ := q
        exact ih c (by simp at hs; omega) h
      · exact ⟨ce, fun c z => q ⟨c, z⟩, h⟩
  exact key _ ce (Nat.le_refl _) h
theorem noStar {ce : CE} {sc : Scope} {e : Expr} (h : chkE N G ce sc e = true) : (∀ v p, e ≠ .Starred v p) ∧ (∀ a b c d, e ≠ .Slice a b c d) ∧ (∀ a b c, e ≠ .Set a b c) := by
  obtain ⟨c, nd, h⟩ := chk_drop _ h
  have no : ∀ {P : Prop} (e : Expr), (match e with | .Starred _ _ => True | .Slice _ _ _ _ => True | .Set _ _ _ => True | _ => False) → (∀ c' : CE, c ≠ CE.drop c') → chkE N G c sc e = true → P := fun {P} e he nd h => by
    cases c with
    | drop c' => exact absurd rfl (nd c')
    | _ => cases e <;> first | exact he.elim | exact absurd h Bool.false_ne_true
  exact ⟨fun v p z => no e (by rw [z]; trivial) nd h, fun _ _ _ _ z => no e (by rw [z]; trivial) nd h, fun _ _ _ z => no e (by rw [z]; trivial) nd h⟩
theorem star_cons {e : Expr} {es : List Expr} {env : Env} (h : ∀ v p, e ≠ .Starred v p) : starEach (e :: es) env = (false, eval e env) :: starEach es env := by
  cases e with
  | Starred v p => exact absurd rfl (h v p)
  | _ => rfl
theorem star_all : ∀ {cs : CL} {sc : Scope} {es : List Expr} (env : Env), chkL N G cs sc es = true → (starEach es env).all (fun x => !x.1) = true
  | .nil, _, [], _, _ => rfl
  | .nil, _, _ :: _, _, h => by simp [chkL] at h
  | .cons c r, _, [], _, h => by simp [chkL] at h
  | .cons c r, sc, e :: es, env, h => by
    have h' : chkE N G c sc e = true ∧ chkL N G r sc es = true := by simpa [chkL] using h
    rw [star_cons (noStar h'.1).1, List.all_cons, star_all env h'.2]
    rfl
theorem back_any {pos : Pos} : ∀ {l : List (Bool × Sem Value)}, l.all (fun x => !x.1) = true → (backTo pos l).any (·.1) = false
  | [], _ => rfl
  | x :: l, h => by
    rw [List.all_cons, Bool.and_eq_true] at h
    have ih := back_any (pos := pos) h.2
    obtain ⟨a, t⟩ := x
    cases a with
    | true => exact absurd h.1 (by simp)
    | false => show (false || (backTo pos l).any (·.1)) = false; rw [ih]; rfl
theorem back_all {pos : Pos} : ∀ {l : List (Bool × Sem Value)}, l.all (fun x => !x.1) = true → (backTo pos l).all (fun x => !x.1) = true
  | [], _ => rfl
  | x :: l, h => by
    rw [List.all_cons, Bool.and_eq_true] at h
    have ih := back_all (pos := pos) h.2
    obtain ⟨a, t⟩ := x
    cases a with
    | true => exact absurd h.1 (by simp)
    | false => show (!false && (backTo pos l).all (fun x => !x.1)) = true; rw [ih]; rfl
theorem noMark {c : CE} {sc : Scope} {e : Expr} (h : chkE N G c sc e = true) (op : CmpOp) : behindInMarks op e = false := by
  cases e with
  | Set a b d => exact absurd rfl ((noStar h).2.2 a b d)
  | _ => rfl
theorem glob_of {sc : Scope} {x : Str} (e : X.env.scope = sc) (h : globB sc x = true) : Gl X x := by
  unfold globB at h
  show X.env.scope.names.lookup x = some .globalImplicit
  rw [e]
  exact of_decide_eq_true h
theorem seen_of {sc : Scope} {x : Str} (e : X.env.scope = sc) (h : seenB sc x = true) : Vis X.env.scope x := by
  unfold seenB at h
  rw [e]
  unfold Vis
  split at h
  · exact .inl (by assumption)
  · exact .inr (.inl (by assumption))
  · exact .inr (.inr (by assumption))
  · cases h
theorem okName_of {x : Str} (h : okName x = true) : (x == ("__debug__" : Str)) = false ∧ (x == ("__classdict__" : Str)) = false := by
  unfold okName at h
  simpa using h

/-! ### the shapes -/
theorem le_bin {op : Operator} {wa wb : DEnv → DH → WK → Prop} {a b : Expr} {pos : Pos} (ha : PE X a (lift X.K wa)) (hb : PE X b (lift X.K wb)) :
    PE X (.BinOp a op b pos) (lift X.K fun ρ h Q => wa ρ h fun x h1 => wb ρ h1 fun y h2 => fBin op x y h2 Q) := by
  obtain ⟨r, ho, sim⟩ := bin_ok (X := X) op
  refine pe_imp (pe_op ho ha hb) fun σ H Q ⟨ρ, h, Qd, sr, hr, w, p⟩ => ⟨ρ, h, _, sr, hr, w, fun x h1 vx H1 e1 rx hr1 w1 => ⟨ρ, h1, _, sr.ext e1, hr1, w1, fun y h2 vy H2 e2 ry hr2 f => ?_⟩⟩
  exact sim x y h2 H2 vx vy Qd Q (e2.vr rx) ry hr2 f (p.later (e1.trans e2))
theorem cmp_core {op : CmpOp} (hu : X.A.units + 100 < cLine) : ∃ r, OpR X (compareOp op) r ∧ Sim2 X.K (fCmp op) r := cmp_ok (by omega) op
theorem lift_two {r : R2} {f : D → D → DH → WK → Prop} (sim : Sim2 X.K f r) {wa wb : DEnv → DH → WK → Prop} {σ : L2.St} {H : Hp} {Q : VK} (l : lift X.K (fun ρ h Q => wa ρ h fun x h1 => wb ρ h1 fun y h2 => f x y h2 Q) σ H Q) :
    tOp r (lift X.K wa) (lift X.K wb) σ H Q := by
  obtain ⟨ρ, h, Qd, sr, hr, w, p⟩ := l
  refine ⟨ρ, h, _, sr, hr, w, fun x h1 vx H1 e1 rx hr1 w1 => ⟨ρ, h1, _, sr.ext e1, hr1, w1, fun y h2 vy H2 e2 ry hr2 f => ?_⟩⟩
  exact sim x y h2 H2 vx vy Qd Q (e2.vr rx) ry hr2 f (p.later (e1.trans e2))
theorem le_cmp (hu : X.A.units + 100 < cLine) {op : CmpOp} {wa wb : DEnv → DH → WK → Prop} {a b : Expr} {pos : Pos} (ha : PE X a (lift X.K wa)) (hb : PE X b (lift X.K wb)) (hm : behindInMarks op b = false) :
    PE X (.Compare a [op] [b] pos) (lift X.K fun ρ h Q => wa ρ h fun x h1 => wb ρ h1 fun y h2 => fCmp op x y h2 Q) := by
  obtain ⟨r, ho, sim⟩ := cmp_core (X := X) (op := op) hu
  exact pe_imp (pe_cmpR ho ha hb hm) fun σ H Q l => lift_two sim l
theorem le_un {wa : DEnv → DH → WK → Prop} {a : Expr} {pos : Pos} (ha : PE X a (lift X.K wa)) : PE X (.UnaryOp .USub a pos) (lift X.K fun ρ h Q => wa ρ h fun x h1 => intW x fun i => Q (.int (-i)) h1) := by
  refine pe_imp (pe_un un_neg ha) fun σ H Q ⟨ρ, h, Qd, sr, hr, w, p⟩ => ⟨ρ, h, _, sr, hr, w, fun x h1 vx H1 e1 rx hr1 w1 => ?_⟩
  obtain ⟨i, rfl, q⟩ := intW_get w1
  cases rx
  exact ⟨i, rfl, (p.later e1).here hr1 q rfl⟩

theorem le_chain (hu : X.A.units + 100 < cLine) {op op' : CmpOp} {wa wb wc : DEnv → DH → WK → Prop} {a b c : Expr} {pos : Pos} (ha : PE X a (lift X.K wa)) (hb : PE X b (lift X.K wb)) (hc : PE X c (lift X.K wc)) (hm : lastMarks [op, op'] [b, c] = false) :
    PE X (.Compare a [op, op'] [b, c] pos) (lift X.K fun ρ h Q => wa ρ h fun x h1 => wb ρ h1 fun y h2 => fCmp op x y h2 fun z h3 => boolW z fun k => iteW k (wc ρ h3 fun u h4 => fCmp op' y u h4 Q) (Q (.bl false) h3)) := by
  obtain ⟨r, ho, sim⟩ := cmp_core (X := X) (op := op) hu
  obtain ⟨r', ho', sim'⟩ := cmp_core (X := X) (op := op') hu
  refine pe_imp (pe_chain ho ho' ha hb hc hm) fun σ H Q ⟨ρ, h, Qd, sr, hr, w, p⟩ => ⟨ρ, h, _, sr, hr, w, fun x h1 vx H1 e1 rx hr1 w1 => ⟨ρ, h1, _, sr.ext e1, hr1, w1, fun y h2 vy H2 e2 ry hr2 f => ?_⟩⟩
  refine sim x y h2 H2 vx vy _ _ (e2.vr rx) ry hr2 f fun z h3 vz H3 e3 rz hr3 w3 => ?_
  obtain ⟨k, rfl, w3⟩ := boolW_get w3
  cases rz
  refine ⟨k, rfl, ?_⟩
  cases k with
  | false => rw [if_neg Bool.false_ne_true]; exact (p.later ((e1.trans e2).trans e3)).here hr3 w3 rfl
  | true =>
    rw [if_pos rfl]
    exact ⟨ρ, h3, _, ((sr.ext e1).ext e2).ext e3, hr3, w3, fun u h4 vu H4 e4 ru hr4 f4 => sim' y u h4 H4 vy vu Qd Q (e4.vr (e3.vr ry)) ru hr4 f4 (p.later (((e1.trans e2).trans e3).trans e4))⟩
theorem revW_get {d : D} {k : List D → Prop} (h : revW d k) : ∃ xs, d = .tup xs ∧ k xs := by
  unfold revW at h
  split at h
  · exact ⟨_, rfl, h⟩
  · exact h.elim
theorem VRs.reverse {K : PySem.W.Frag} {H : Hp} : ∀ {ds : List D} {vs : List V}, VRs K H ds vs → VRs K H ds.reverse vs.reverse
  | [], _, q => by cases q; exact rfl
  | d :: ds, _, ⟨v, r, e, a, b⟩ => by subst e; rw [List.reverse_cons, List.reverse_cons]; exact (VRs.reverse b).append (.one a)
theorem le_rev {wa : DEnv → DH → WK → Prop} {a : Expr} {k : Nat} {p1 p2 p3 pos : Pos} (ha : PE X a (lift X.K wa)) : PE X (.Subscript a (.Slice none none (some (.UnaryOp .USub (.Constant (.int 1) k p1) p2)) p3) pos) (lift X.K fun ρ h Q => wa ρ h fun x h1 => revW x fun xs => Q (.tup xs.reverse) h1) :=
  pe_imp (pe_revT ha) fun σ H Q ⟨ρ, h, Qd, sr, hr, w, p⟩ => ⟨ρ, h, _, sr, hr, w, fun x h1 vx H1 e1 rx hr1 w1 => by
    obtain ⟨xs, rfl, q⟩ := revW_get w1
    obtain ⟨a, vs, rfl, ha, ra⟩ := rx
    exact ⟨a, vs, rfl, ha.sq, fun q' nq => (p.later e1).tup hr1 ra.reverse q nq⟩⟩
theorem le_chain3 (hu : X.A.units + 100 < cLine) {op op' op2 : CmpOp} {wa wb wc wd : DEnv → DH → WK → Prop} {a b c d : Expr} {pos : Pos} (ha : PE X a (lift X.K wa)) (hb : PE X b (lift X.K wb)) (hc : PE X c (lift X.K wc)) (hd : PE X d (lift X.K wd)) (hm : lastMarks [op, op', op2] [b, c, d] = false) :
    PE X (.Compare a [op, op', op2] [b, c, d] pos) (lift X.K fun ρ h Q => wa ρ h fun x h1 => wb ρ h1 fun y h2 => fCmp op x y h2 fun z h3 => boolW z fun k => iteW k (wc ρ h3 fun u h4 => fCmp op' y u h4 fun z2 h5 => boolW z2 fun k2 => iteW k2 (wd ρ h5 fun v h6 => fCmp op2 u v h6 Q) (Q (.bl false) h5)) (Q (.bl false) h3)) := by
  obtain ⟨r, ho, sim⟩ := cmp_core (X := X) (op := op) hu
  obtain ⟨r', ho', sim'⟩ := cmp_core (X := X) (op := op') hu
  obtain ⟨r2, ho2, sim2⟩ := cmp_core (X := X) (op := op2) hu
  refine pe_imp (pe_chain3 ho ho' ho2 ha hb hc hd hm) fun σ H Q ⟨ρ, h, Qd, sr, hr, w, p⟩ => ⟨ρ, h, _, sr, hr, w, fun x h1 vx H1 e1 rx hr1 w1 => ⟨ρ, h1, _, sr.ext e1, hr1, w1, fun y h2 vy H2 e2 ry hr2 f => ?_⟩⟩
  refine sim x y h2 H2 vx vy _ _ (e2.vr rx) ry hr2 f fun z h3 vz H3 e3 rz hr3 w3 => ?_
  obtain ⟨k, rfl, w3⟩ := boolW_get w3
  cases rz
  refine ⟨k, rfl, ?_⟩
  cases k with
  | false => rw [if_neg Bool.false_ne_true]; exact (p.later ((e1.trans e2).trans e3)).here hr3 w3 rfl
  | true =>
    rw [if_pos rfl]
    refine ⟨ρ, h3, _, ((sr.ext e1).ext e2).ext e3, hr3, w3, fun u h4 vu H4 e4 ru hr4 f4 => ?_⟩
    refine sim' y u h4 H4 vy vu _ _ (e4.vr (e3.vr ry)) ru hr4 f4 fun z5 h5 vz5 H5 e5 rz5 hr5 w5 => ?_
    obtain ⟨k2, rfl, w5⟩ := boolW_get w5
    cases rz5
    refine ⟨k2, rfl, ?_⟩
    cases k2 with
    | false => rw [if_neg Bool.false_ne_true]; exact (p.later ((((e1.trans e2).trans e3).trans e4).trans e5)).here hr5 w5 rfl
    | true =>
      rw [if_pos rfl]
      exact ⟨ρ, h5, _, ((((sr.ext e1).ext e2).ext e3).ext e4).ext e5, hr5, w5, fun v h6 vv H6 e6 rv hr6 f6 => sim2 u v h6 H6 vu vv Qd Q (e6.vr (e5.vr ru)) rv hr6 f6 (p.later (((((e1.trans e2).trans e3).trans e4).trans e5).trans e6))⟩
/-- what a bool asks, as a test -/
def wB (w : DEnv → DH → WK → Prop) : DEnv → DH → (Bool → DH → Prop) → Prop := fun ρ h Q => w ρ h fun d h1 => boolW d fun b => Q b h1
theorem lift_tB {w : DEnv → DH → WK → Prop} {σ : L2.St} {H : Hp} {Q : Bool → Hp → Prop} (l : liftB X.K (wB w) σ H Q) : tB (lift X.K w) σ H Q := by
  obtain ⟨ρ, h, Qd, sr, hr, w, p⟩ := l
  refine ⟨ρ, h, _, sr, hr, w, fun x h1 vx H1 e1 rx hr1 w1 => ?_⟩
  obtain ⟨k, rfl, w1⟩ := boolW_get w1
  cases rx
  exact ⟨k, rfl, p k h1 H1 e1 hr1 w1⟩
theorem lift_bool {w : DEnv → DH → WK → Prop} {K' : Bool → DEnv → DH → WK → Prop} {σ : L2.St} {H : Hp} {Q : VK} {k' : Bool → Hp → Prop}
    (l : lift X.K (fun ρ h Q => w ρ h fun x h1 => boolW x fun k => K' k ρ h1 Q) σ H Q) (go : ∀ k ρ h1 H1 Qd, SR X.K H1 ρ σ → HR X.K h1 H1 → K' k ρ h1 Qd → Post X.K h1 H1 Qd Q → k' k H1) :
    liftB X.K (wB w) σ H k' := by
  obtain ⟨ρ, h, Qd, sr, hr, w, p⟩ := l
  exact ⟨ρ, h, _, sr, hr, w, fun k h1 H1 e1 hr1 w1 => go k ρ h1 H1 Qd (sr.ext e1) hr1 w1 (p.later e1)⟩
theorem le_and {wa wb : DEnv → DH → WK → Prop} {a b : Expr} {rest : List Expr} {pos : Pos} (ha : PE X a (lift X.K wa)) (hb : PE X (.BoolOp .And (b :: rest) pos) (lift X.K wb)) :
    PE X (.BoolOp .And (a :: b :: rest) pos) (lift X.K fun ρ h Q => wa ρ h fun x h1 => boolW x fun k => iteW k (wb ρ h1 Q) (Q (.bl false) h1)) := by
  refine pe_imp (pe_and ha hb) fun σ H Q l => ?_
  refine lift_tB (lift_bool (k' := fun c H1 => if c = true then lift X.K wb σ H1 Q else Q (.bl false) H1) l fun k ρ h1 H1 Qd sr hr w p => ?_)
  cases k with
  | true => exact (if_pos rfl).mpr ⟨ρ, h1, Qd, sr, hr, w, p⟩
  | false => exact (if_neg Bool.false_ne_true).mpr (p.here hr w rfl)
theorem le_or {wa wb : DEnv → DH → WK → Prop} {a b : Expr} {rest : List Expr} {pos : Pos} (ha : PE X a (lift X.K wa)) (hb : PE X (.BoolOp .Or (b :: rest) pos) (lift X.K wb)) :
    PE X (.BoolOp .Or (a :: b :: rest) pos) (lift X.K fun ρ h Q => wa ρ h fun x h1 => boolW x fun k => iteW k (Q (.bl true) h1) (wb ρ h1 Q)) := by
  refine pe_imp (pe_or ha hb) fun σ H Q l => ?_
  refine lift_tB (lift_bool (k' := fun c H1 => if c = true then Q (.bl true) H1 else lift X.K wb σ H1 Q) l fun k ρ h1 H1 Qd sr hr w p => ?_)
  cases k with
  | false => exact (if_neg Bool.false_ne_true).mpr ⟨ρ, h1, Qd, sr, hr, w, p⟩
  | true => exact (if_pos rfl).mpr (p.here hr w rfl)
theorem le_not {wa : DEnv → DH → WK → Prop} {a : Expr} {pos : Pos} (ha : PE X a (lift X.K wa)) : PE X (.UnaryOp .Not a pos) (lift X.K fun ρ h Q => wa ρ h fun x h1 => boolW x fun k => Q (.bl (!k)) h1) := by
  refine pe_imp (pe_not ha) fun σ H Q l => ?_
  exact lift_tB (lift_bool (k' := fun c H1 => Q (.bl (!c)) H1) l fun k ρ h1 H1 Qd sr hr w p => p.here hr w rfl)
theorem le_ite {wc wa wb : DEnv → DH → WK → Prop} {c a b : Expr} {pos : Pos} (hc : PT X c (liftB X.K (wB wc))) (ha : PE X a (lift X.K wa)) (hb : PE X b (lift X.K wb)) :
    PE X (.IfExp c a b pos) (lift X.K fun ρ h Q => wc ρ h fun x h1 => boolW x fun k => iteW k (wa ρ h1 Q) (wb ρ h1 Q)) := by
  refine pe_imp (pe_ifExp hc ha hb) fun σ H Q l => ?_
  refine lift_bool (k' := fun c H1 => if c = true then lift X.K wa σ H1 Q else lift X.K wb σ H1 Q) l fun k ρ h1 H1 Qd sr hr w p => ?_
  cases k with
  | true => exact (if_pos rfl).mpr ⟨ρ, h1, Qd, sr, hr, w, p⟩
  | false => exact (if_neg Bool.false_ne_true).mpr ⟨ρ, h1, Qd, sr, hr, w, p⟩
theorem lt_val {w : DEnv → DH → WK → Prop} {e : Expr} (he : PE X e (lift X.K w)) (hi : ∀ whole, isTrue e X.env whole = (do let v ← whole; standAt e.pos; holding [v] (truthy v))) : PT X e (liftB X.K (wB w)) :=
  pt_imp (pt_val he hi) fun σ H Q l => lift_tB l
theorem lt_cmp (hu : X.A.units + 100 < cLine) {op : CmpOp} {wa wb : DEnv → DH → WK → Prop} {a b : Expr} {pos : Pos} (ha : PE X a (lift X.K wa)) (hb : PE X b (lift X.K wb)) (hm : behindInMarks op b = false) :
    PT X (.Compare a [op] [b] pos) (liftB X.K (wB fun ρ h Q => wa ρ h fun x h1 => wb ρ h1 fun y h2 => fCmp op x y h2 Q)) := by
  obtain ⟨r, ho, sim⟩ := cmp_core (X := X) (op := op) hu
  refine pt_imp (pt_cmpR ho ha hb hm) fun σ H Q l => ?_
  obtain ⟨ρ, h, Qd, sr, hr, w, p⟩ := l
  refine lift_two (X := X) sim ⟨ρ, h, _, sr, hr, w, fun x h1 vx H1 e1 rx hr1 w1 => ?_⟩
  obtain ⟨k, rfl, w1⟩ := boolW_get w1
  cases rx
  exact ⟨k, rfl, p k h1 H1 e1 hr1 w1⟩
theorem lt_chain (hu : X.A.units + 100 < cLine) {op op' : CmpOp} {wa wb wc : DEnv → DH → WK → Prop} {a b c : Expr} {pos : Pos} (ha : PE X a (lift X.K wa)) (hb : PE X b (lift X.K wb)) (hc : PE X c (lift X.K wc)) (hm : lastMarks [op, op'] [b, c] = false) :
    PT X (.Compare a [op, op'] [b, c] pos) (liftB X.K (wB fun ρ h Q => wa ρ h fun x h1 => wb ρ h1 fun y h2 => fCmp op x y h2 fun z h3 => boolW z fun k => iteW k (wc ρ h3 fun u h4 => fCmp op' y u h4 Q) (Q (.bl false) h3))) := by
  obtain ⟨r, ho, sim⟩ := cmp_core (X := X) (op := op) hu
  obtain ⟨r', ho', sim'⟩ := cmp_core (X := X) (op := op') hu
  refine pt_imp (pt_chain ho ho' ha hb hc hm) fun σ H Q ⟨ρ, h, Qd, sr, hr, w, p⟩ => ⟨ρ, h, _, sr, hr, w, fun x h1 vx H1 e1 rx hr1 w1 => ⟨ρ, h1, _, sr.ext e1, hr1, w1, fun y h2 vy H2 e2 ry hr2 f => ?_⟩⟩
  refine sim x y h2 H2 vx vy _ _ (e2.vr rx) ry hr2 f fun z h3 vz H3 e3 rz hr3 w3 => ?_
  obtain ⟨k, rfl, w3⟩ := boolW_get w3
  cases rz
  refine ⟨k, rfl, ?_⟩
  cases k with
  | false =>
    rw [if_neg Bool.false_ne_true]
    obtain ⟨k, e, w4⟩ := boolW_get w3
    cases e
    exact ⟨false, rfl, p false h3 H3 ((e1.trans e2).trans e3) hr3 w4⟩
  | true =>
    rw [if_pos rfl]
    refine ⟨ρ, h3, _, ((sr.ext e1).ext e2).ext e3, hr3, w3, fun u h4 vu H4 e4 ru hr4 f4 => sim' y u h4 H4 vy vu _ _ (e4.vr (e3.vr ry)) ru hr4 f4 fun z5 h5 v5 H5 e5 r5 hr5 w5 => ?_⟩
    obtain ⟨k, rfl, w5⟩ := boolW_get w5
    cases r5
    exact ⟨k, rfl, p k h5 H5 ((((e1.trans e2).trans e3).trans e4).trans e5) hr5 w5⟩
theorem lt_chain3 (hu : X.A.units + 100 < cLine) {op op' op2 : CmpOp} {wa wb wc wd : DEnv → DH → WK → Prop} {a b c d : Expr} {pos : Pos} (ha : PE X a (lift X.K wa)) (hb : PE X b (lift X.K wb)) (hc : PE X c (lift X.K wc)) (hd : PE X d (lift X.K wd)) (hm : lastMarks [op, op', op2] [b, c, d] = false) :
    PT X (.Compare a [op, op', op2] [b, c, d] pos) (liftB X.K (wB fun ρ h Q => wa ρ h fun x h1 => wb ρ h1 fun y h2 => fCmp op x y h2 fun z h3 => boolW z fun k => iteW k (wc ρ h3 fun u h4 => fCmp op' y u h4 fun z2 h5 => boolW z2 fun k2 => iteW k2 (wd ρ h5 fun v h6 => fCmp op2 u v h6 Q) (Q (.bl false) h5)) (Q (.bl false) h3))) := by
  obtain ⟨r, ho, sim⟩ := cmp_core (X := X) (op := op) hu
  obtain ⟨r', ho', sim'⟩ := cmp_core (X := X) (op := op') hu
  obtain ⟨r2, ho2, sim2⟩ := cmp_core (X := X) (op := op2) hu
  refine pt_imp (pt_chain3 ho ho' ho2 ha hb hc hd hm) fun σ H Q ⟨ρ, h, Qd, sr, hr, w, p⟩ => ⟨ρ, h, _, sr, hr, w, fun x h1 vx H1 e1 rx hr1 w1 => ⟨ρ, h1, _, sr.ext e1, hr1, w1, fun y h2 vy H2 e2 ry hr2 f => ?_⟩⟩
  refine sim x y h2 H2 vx vy _ _ (e2.vr rx) ry hr2 f fun z h3 vz H3 e3 rz hr3 w3 => ?_
  obtain ⟨k, rfl, w3⟩ := boolW_get w3
  cases rz
  refine ⟨k, rfl, ?_⟩
  cases k with
  | false =>
    rw [if_neg Bool.false_ne_true]
    obtain ⟨k, e, w4⟩ := boolW_get w3
    cases e
    exact ⟨false, rfl, p false h3 H3 ((e1.trans e2).trans e3) hr3 w4⟩
  | true =>
    rw [if_pos rfl]
    refine ⟨ρ, h3, _, ((sr.ext e1).ext e2).ext e3, hr3, w3, fun u h4 vu H4 e4 ru hr4 f4 => ?_⟩
    refine sim' y u h4 H4 vy vu _ _ (e4.vr (e3.vr ry)) ru hr4 f4 fun z5 h5 vz5 H5 e5 rz5 hr5 w5 => ?_
    obtain ⟨k2, rfl, w5⟩ := boolW_get w5
    cases rz5
    refine ⟨k2, rfl, ?_⟩
    cases k2 with
    | false =>
      rw [if_neg Bool.false_ne_true]
      obtain ⟨k, e, w4⟩ := boolW_get w5
      cases e
      exact ⟨false, rfl, p false h5 H5 ((((e1.trans e2).trans e3).trans e4).trans e5) hr5 w4⟩
    | true =>
      rw [if_pos rfl]
      refine ⟨ρ, h5, _, ((((sr.ext e1).ext e2).ext e3).ext e4).ext e5, hr5, w5, fun v h6 vv H6 e6 rv hr6 f6 => sim2 u v h6 H6 vu vv _ _ (e6.vr (e5.vr ru)) rv hr6 f6 fun z7 h7 v7 H7 e7 r7 hr7 w7 => ?_⟩
      obtain ⟨k, rfl, w7⟩ := boolW_get w7
      cases r7
      exact ⟨k, rfl, p k h7 H7 ((((((e1.trans e2).trans e3).trans e4).trans e5).trans e6).trans e7) hr7 w7⟩
theorem lt_and {wa wb : DEnv → DH → WK → Prop} {a b : Expr} {rest : List Expr} {pos : Pos} (ha : PT X a (liftB X.K (wB wa))) (hb : PW X (.BoolOp .And (b :: rest) pos) (liftB X.K (wB wb))) :
    PW X (.BoolOp .And (a :: b :: rest) pos) (liftB X.K (wB fun ρ h Q => wa ρ h fun x h1 => boolW x fun k => iteW k (wb ρ h1 Q) (Q (.bl false) h1))) := by
  refine ⟨fun wh pins s σ H Q I l => (pw_and ha hb).run wh pins s σ H Q I ?_⟩
  obtain ⟨ρ, h, Qd, sr, hr, w, p⟩ := l
  refine ⟨ρ, h, _, sr, hr, w, fun k h1 H1 e1 hr1 w1 => ?_⟩
  cases k with
  | true => exact (if_pos rfl).mpr ⟨ρ, h1, _, sr.ext e1, hr1, w1, fun k' h2 H2 e2 hr2 w2 => p k' h2 H2 (e1.trans e2) hr2 w2⟩
  | false =>
    exact (if_neg Bool.false_ne_true).mpr (p false h1 H1 e1 hr1 w1)
theorem lt_or {wa wb : DEnv → DH → WK → Prop} {a b : Expr} {rest : List Expr} {pos : Pos} (ha : PT X a (liftB X.K (wB wa))) (hb : PW X (.BoolOp .Or (b :: rest) pos) (liftB X.K (wB wb))) :
    PW X (.BoolOp .Or (a :: b :: rest) pos) (liftB X.K (wB fun ρ h Q => wa ρ h fun x h1 => boolW x fun k => iteW k (Q (.bl true) h1) (wb ρ h1 Q))) := by
  refine ⟨fun wh pins s σ H Q I l => (pw_or ha hb).run wh pins s σ H Q I ?_⟩
  obtain ⟨ρ, h, Qd, sr, hr, w, p⟩ := l
  refine ⟨ρ, h, _, sr, hr, w, fun k h1 H1 e1 hr1 w1 => ?_⟩
  cases k with
  | false => exact (if_neg Bool.false_ne_true).mpr ⟨ρ, h1, _, sr.ext e1, hr1, w1, fun k' h2 H2 e2 hr2 w2 => p k' h2 H2 (e1.trans e2) hr2 w2⟩
  | true =>
    exact (if_pos rfl).mpr (p true h1 H1 e1 hr1 w1)
theorem lt_not {wa : DEnv → DH → WK → Prop} {a : Expr} {pos : Pos} (ha : PT X a (liftB X.K (wB wa))) : PT X (.UnaryOp .Not a pos) (liftB X.K (wB fun ρ h Q => wa ρ h fun x h1 => boolW x fun k => Q (.bl (!k)) h1)) := by
  refine pt_imp (pt_not ha) fun σ H Q l => ?_
  obtain ⟨ρ, h, Qd, sr, hr, w, p⟩ := l
  refine ⟨ρ, h, _, sr, hr, w, fun k h1 H1 e1 hr1 w1 => p (!k) h1 H1 e1 hr1 w1⟩
end
end DL

set_option Elab.async false
set_option linter.all false
set_option maxRecDepth 100000
/-! DL7: displays, items, calls, walks, comprehensions. -/
namespace DL
open PySem PySem.Spec PyProof.Rows L2
section
variable {N : List Str} {G : Glb} {F : Fx} {X : Cx}
theorem la_nil : PA X [] (liftL X.K fun _ h Q => Q [] h) :=
  pa_imp pa_nil fun σ H Q ⟨ρ, h, Qd, sr, hr, w, p⟩ => p [] h [] H (Ext.refl h H) rfl hr w
theorem la_cons {e : Expr} {es : List Expr} {we : DEnv → DH → WK → Prop} {wr : DEnv → DH → (List D → DH → Prop) → Prop} (he : PE X e (lift X.K we)) (hr : PA X es (liftL X.K wr)) (hs : starEach (e :: es) X.env = (false, eval e X.env) :: starEach es X.env) :
    PA X (e :: es) (liftL X.K fun ρ h Q => we ρ h fun d h1 => wr ρ h1 fun ds h2 => Q (d :: ds) h2) :=
  pa_imp (pa_cons he hr hs) fun σ H Q ⟨ρ, h, Qd, sr, hr, w, p⟩ => ⟨ρ, h, _, sr, hr, w, fun x h1 vx H1 e1 rx hr1 w1 => ⟨ρ, h1, _, sr.ext e1, hr1, w1, fun ds h2 vs H2 e2 rs hr2 w2 => p (x :: ds) h2 (vx :: vs) H2 (e1.trans e2) (.cons (e2.vr rx) rs) hr2 w2⟩⟩
theorem le_tup {es : List Expr} {k : Nat} {pos : Pos} {w : DEnv → DH → (List D → DH → Prop) → Prop} (ha : PA X es (liftL X.K w)) : PE X (.Tuple es k pos) (lift X.K fun ρ h Q => w ρ h fun ds h1 => ds.length ≤ 16777216 ∧ Q (.tup ds) h1) :=
  pe_imp (pe_tup ha) fun σ H Q ⟨ρ, h, Qd, sr, hr, w, p⟩ => ⟨ρ, h, _, sr, hr, w, fun ds h1 vs H1 e1 rs hr1 w1 => ⟨by rw [sizeLine_eq, ← rs.length]; exact w1.1, fun q nq => (p.later e1).tup hr1 rs w1.2 nq⟩⟩
theorem le_lst {es : List Expr} {pos : Pos} {w : DEnv → DH → (List D → DH → Prop) → Prop} (ha : PA X es (liftL X.K w)) : PE X (.List es pos) (lift X.K fun ρ h Q => w ρ h fun ds h1 => ds.length ≤ 16777216 ∧ ∀ p, h1 p = none → Q (.ref p) (dupd h1 p (.lst ds))) :=
  pe_imp (pe_lst ha) fun σ H Q ⟨ρ, h, Qd, sr, hr, w, p⟩ => ⟨ρ, h, _, sr, hr, w, fun ds h1 vs H1 e1 rs hr1 w1 => ⟨by rw [sizeLine_eq, ← rs.length]; exact w1.1, fun q nq => (p.later e1).lst hr1 rs w1.2 nq⟩⟩
theorem le_dnew (t : Bool) {pos : Pos} : PE X (.Dict [] [] pos) (lift X.K fun _ h Q => ∀ p, h p = none → Q (.ref p) (dupd h p (if t then .dt [] else .dk []))) := by
  cases t with
  | false =>
    refine pe_imp pe_dnewK fun σ H Q ⟨ρ, h, Qd, sr, hr, w, p⟩ q nq => ?_
    exact p (.ref q) _ (.ref q) _ (Ext.new (u := .dk []) (o := .dK []) hr nq (fun z => nomatch z)) rfl (hr.new (u := .dk []) (o := .dK []) nq ⟨[], upd_same, .nil⟩) (w q (hr.none_of nq))
  | true =>
    refine pe_imp pe_dnewT fun σ H Q ⟨ρ, h, Qd, sr, hr, w, p⟩ q nq => ?_
    exact p (.ref q) _ (.ref q) _ (Ext.new (u := .dt []) (o := .dT []) hr nq (fun z => nomatch z)) rfl (hr.new (u := .dt []) (o := .dT []) nq ⟨[], upd_same, .nil⟩) (w q (hr.none_of nq))
theorem le_ix {a b : Expr} {pos : Pos} {wa wb : DEnv → DH → WK → Prop} (ha : PE X a (lift X.K wa)) (hb : PE X b (lift X.K wb)) (hs : PlainIx b) :
    PE X (.Subscript a b pos) (lift X.K fun ρ h Q => wa ρ h fun x h1 => wb ρ h1 fun y h2 => fIx x y h2 Q) :=
  pe_imp (pe_ix ix_seq ha hb hs) fun σ H Q l => lift_two (X := X) sim_ix l
theorem lo_no : PO X none (liftB X.K fun _ h Q => Q none h) := po_imp po_none fun σ H Q ⟨ρ, h, Qd, sr, hr, w, p⟩ => p.here hr w
theorem lo_yes {e : Expr} {w : DEnv → DH → WK → Prop} (he : PE X e (lift X.K w)) : PO X (some e) (liftB X.K fun ρ h Q => w ρ h fun d h1 => intW d fun i => Q (some i) h1) :=
  po_imp (po_some he) fun σ H Q ⟨ρ, h, Qd, sr, hr, w, p⟩ => ⟨ρ, h, _, sr, hr, w, fun x h1 vx H1 e1 rx hr1 w1 => by
    obtain ⟨i, rfl, q⟩ := intW_get w1
    cases rx
    exact ⟨i, rfl, p _ h1 H1 e1 hr1 q⟩⟩
theorem le_slice {a : Expr} {lo hi : Option Expr} {p2 pos : Pos} {wa : DEnv → DH → WK → Prop} {wl wh : DEnv → DH → (Option Int → DH → Prop) → Prop} (ha : PE X a (lift X.K wa)) (hl : PO X lo (liftB X.K wl)) (hh : PO X hi (liftB X.K wh)) :
    PE X (.Subscript a (.Slice lo hi none p2) pos) (lift X.K fun ρ h Q => wa ρ h fun x h1 => wl ρ h1 fun l h2 => wh ρ h2 fun u h3 => fSl x l u h3 Q) :=
  pe_imp (pe_slice (sl_tupA.or sl_list) ha hl hh) fun σ H Q ⟨ρ, h, Qd, sr, hr, w, p⟩ => ⟨ρ, h, _, sr, hr, w, fun x h1 vx H1 e1 rx hr1 w1 => ⟨ρ, h1, _, sr.ext e1, hr1, w1, fun l h2 H2 e2 hr2 w2 =>
    ⟨ρ, h2, _, (sr.ext e1).ext e2, hr2, w2, fun u h3 H3 e3 hr3 w3 => sim_sl x l u h3 H3 vx Qd Q (e3.vr (e2.vr rx)) hr3 w3 (p.later ((e1.trans e2).trans e3))⟩⟩⟩
theorem le_blt {x : Str} {f : List D → DH → WK → Prop} (B : BltOk X x f) {e : Expr} {es : List Expr} {q pos : Pos} {w : DEnv → DH → (List D → DH → Prop) → Prop} (hg : Gl X x) (hm : X.mg x = none) (ha : PA X (e :: es) (liftL X.K w))
    (he : starEach (e :: es) X.env = (false, eval e X.env) :: starEach es X.env) (hpl : (backTo pos (starEach es X.env)).any (·.1) = false) : PE X (.Call (.Name x q) (e :: es) [] pos) (lift X.K fun ρ h Q => w ρ h fun ds h1 => f ds h1 Q) := by
  obtain ⟨r, sim, h1, h2, h⟩ := B
  have fin : ∀ σ H Q, lift X.K (fun ρ h Q => w ρ h fun ds h1 => f ds h1 Q) σ H Q → tCB r (liftL X.K w) σ H Q := fun σ H Q ⟨ρ, h, Qd, sr, hr, w, p⟩ =>
    ⟨ρ, h, _, sr, hr, w, fun ds h1 vs H1 e1 rs hr1 w1 => sim ds h1 H1 vs Qd Q rs hr1 w1 (p.later e1)⟩
  rcases h with ⟨id, hv, hc⟩ | ⟨T, hv, hc⟩
  · exact pe_imp (pe_callB hc hg hm hv ha h1 h2 he hpl) fin
  · exact pe_imp (pe_callTy hc hg hm hv ha h1 h2 he hpl) fin
theorem le_mind {e f : Expr} {p kp pos : Pos} {we wf : DEnv → DH → WK → Prop} (hc : X.calm = true) (hg : Gl X "min") (hm : X.mg "min" = none) (he : PE X e (lift X.K we)) (hf : PE X f (lift X.K wf)) (ns : starEach [e] X.env = (false, eval e X.env) :: starEach [] X.env) :
    PE X (.Call (.Name "min" p) [e] [⟨some "default", f, kp⟩] pos) (lift X.K fun ρ h Q => we ρ h fun x h1 => wf ρ h1 fun y h2 => ∃ (ns : List Int), lstOf h2 x = some (ns.map D.int) ∧ intW y fun i => Q (.int (leastOr i ns)) h2) := by
  refine pe_imp (pe_minD hc hg hm (la_cons he la_nil ns) hf ns) fun σ H Q ⟨ρ, h, Qd, sr, hr, w, p⟩ => ⟨ρ, h, fun ds h1 => match ds with
      | [x] => wf ρ h1 fun y h2 => ∃ (ns : List Int), lstOf h2 x = some (ns.map D.int) ∧ intW y fun i => Qd (.int (leastOr i ns)) h2
      | _ => False, sr, hr, w, fun ds h1 vs H1 e1 rs hr1 w1 => ?_⟩
  dsimp only at w1
  split at w1
  · obtain ⟨v, rfl, rx⟩ := one_of rs
    refine ⟨ρ, h1, _, sr.ext e1, hr1, w1, fun y h2 vy H2 e2 ry hr2 w2 => ?_⟩
    obtain ⟨ms, e3, w3⟩ := w2
    obtain ⟨i, rfl, w4⟩ := intW_get w3
    cases ry
    obtain ⟨a, us, _, rfl, _, e4, hv⟩ := lstOf_ok hr2 (e2.vr rx) e3
    have := hv.ints
    subst this
    exact ⟨a, ms, i, rfl, rfl, SqL.of e4, (p.later (e1.trans e2)).here hr2 w4 rfl⟩
  · exact w1.elim
theorem le_isi (t : Tn) {e : Expr} {p p2 pos : Pos} {we : DEnv → DH → WK → Prop} (hg : Gl X "isinstance") (hm : X.mg "isinstance" = none) (hg2 : Gl X (Str.ofString t.name)) (hm2 : X.mg (Str.ofString t.name) = none) (he : PE X e (lift X.K we))
    (ns : starEach [e, .Name (Str.ofString t.name) p2] X.env = (false, eval e X.env) :: starEach [.Name (Str.ofString t.name) p2] X.env) :
    PE X (.Call (.Name "isinstance" p) [e, .Name (Str.ofString t.name) p2] [] pos) (lift X.K fun ρ h Q => we ρ h fun x h1 => isiW t x h1 fun b => Q (.bl b) h1) := by
  have hb : bootBuiltins (Str.ofString t.name) = some (.type t.name) := by cases t <;> decide +kernel
  have hn : Str.ofString t.name ≠ "__name__" := by cases t <;> decide
  have hd : (Str.ofString t.name == ("__debug__" : Str)) = false := by cases t <;> decide
  refine pe_imp (pe_callB call_isi hg hm (by decide +kernel) (pa_cons he (pa_cons (pe_bltn (v := .ty t.name) hg2 hm2 hb rfl hn hd) pa_nil rfl) ns) (by decide) (by decide) ns rfl) fun σ H Q ⟨ρ, h, Qd, sr, hr, w, p⟩ => ?_
  refine ⟨ρ, h, _, sr, hr, w, fun x h1 vx H1 e1 rx hr1 w1 => ?_⟩
  exact sim_isi (X := X) t x h1 H1 vx Qd Q rx hr1 w1 (p.later e1)
theorem le_call0 {x : Str} {sp : DSp} (B : Callee X x sp) {q pos : Pos} (hg : Gl X x) (hd : (x == ("__debug__" : Str)) = false) : PE X (.Call (.Name x q) [] [] pos) (lift X.K fun ρ h Q => sp [] h Q) := by
  obtain ⟨g, f, fd, ps, k, Fn, hgd, hr, hm, hk, hb⟩ := B.ex
  exact pe_imp (pr_call0 Fn hgd hr hg hm hk hb hd) fun σ H Q ⟨ρ, h, Qd, sr, hr, w, p⟩ => ⟨[], h, Qd, rfl, hr, w, p⟩
theorem le_call {x : Str} {sp : DSp} (B : Callee X x sp) {e : Expr} {es : List Expr} {q pos : Pos} {w : DEnv → DH → (List D → DH → Prop) → Prop} (hg : Gl X x) (hd : (x == ("__debug__" : Str)) = false) (ha : PA X (e :: es) (liftL X.K w))
    (he : starEach (e :: es) X.env = (false, eval e X.env) :: starEach es X.env) (hpl : (backTo pos (starEach es X.env)).any (·.1) = false) : PE X (.Call (.Name x q) (e :: es) [] pos) (lift X.K fun ρ h Q => w ρ h fun ds h1 => sp ds h1 Q) := by
  obtain ⟨g, f, fd, ps, k, Fn, hgd, hr, hm, hk, hb⟩ := B.ex
  refine pe_imp (pr_call Fn hgd hr hg hm hk hb ha hd he hpl) fun σ H Q ⟨ρ, h, Qd, sr, hr, w, p⟩ => ⟨ρ, h, _, sr, hr, w, fun ds h1 vs H1 e1 rs hr1 w1 => ?_⟩
  exact ⟨ds, h1, Qd, rs, hr1, w1, p.later e1⟩
theorem attr_base {e : Expr} {f : Str} {env : Env} {whole : Sem Value} (h : plainB e = true) : attributeBase e f env whole = whole := by
  cases e with
  | Call g as ks p =>
    cases as with
    | nil => cases ks with
      | nil => cases h
      | cons k ks => cases g <;> rfl
    | cons a as => cases g <;> rfl
  | _ => rfl
theorem le_bm0 (m : Mtd) {o : Expr} {apos cpos : Pos} {wo : DEnv → DH → WK → Prop} (ho : PE X o (lift X.K wo)) (hb : plainB o = true) (hl : (apos.endLine == cpos.line) = true) :
    PE X (.Call (.Attribute o m.name apos) [] [] cpos) (lift X.K fun ρ h Q => wo ρ h fun x h1 => isRcv m x h1 ∧ fMtd m x [] h1 Q) := by
  obtain ⟨T, id, r, pa, slot, hty, hm, sim, rc⟩ := mtd_ok (X := X) m
  exact pe_imp (pe_bm0 pa slot hty hm ho (attr_base hb) hl) fun σ H Q ⟨ρ, h, Qd, sr, hr, w, p⟩ => ⟨ρ, h, _, sr, hr, w, fun x h1 vx H1 e1 rx hr1 w1 => ⟨rc x h1 H1 vx rx hr1 w1.1, sim x [] h1 H1 vx [] Qd Q rx rfl hr1 w1.2 (p.later e1)⟩⟩
theorem few_of {cpos : Pos} {l : List (Bool × Sem Value)} {es : List Expr} {env : Env} (h : (backTo cpos l).all (fun x => !x.1) = true) (hn : es.length < 20) :
    ((backTo cpos l).all (fun x => !x.1) && (backToKw cpos (keywordEach [] env)).all (fun x => x.1.isSome) && decide (es.length + ([] : List Keyword).length + (if ([] : List Keyword).isEmpty then 0 else 1) < 30)) = true := by
  rw [h]
  show (true && true && decide (es.length + 0 + 0 < 30)) = true
  rw [decide_eq_true (by omega)]
  rfl
theorem le_bm (m : Mtd) {o e : Expr} {es : List Expr} {apos cpos : Pos} {wo : DEnv → DH → WK → Prop} {w : DEnv → DH → (List D → DH → Prop) → Prop} (ho : PE X o (lift X.K wo)) (hb : plainB o = true) (hl : (apos.endLine == cpos.line) = true) (ha : PA X (e :: es) (liftL X.K w))
    (hs : starEach (e :: es) X.env = (false, eval e X.env) :: starEach es X.env) (hall : (starEach (e :: es) X.env).all (fun x => !x.1) = true) (hn : (e :: es).length < 20) (hpl : (backTo cpos (starEach es X.env)).any (·.1) = false) :
    PE X (.Call (.Attribute o m.name apos) (e :: es) [] cpos) (lift X.K fun ρ h Q => wo ρ h fun x h1 => isRcv m x h1 ∧ w ρ h1 fun ds h2 => fMtd m x ds h2 Q) := by
  obtain ⟨T, id, r, pa, slot, hty, hm, sim, rc⟩ := mtd_ok (X := X) m
  exact pe_imp (pe_bm pa slot hty hm ho ha (attr_base hb) (few_of (back_all hall) hn) hl hs hpl) fun σ H Q ⟨ρ, h, Qd, sr, hr, w, p⟩ => ⟨ρ, h, _, sr, hr, w, fun x h1 vx H1 e1 rx hr1 w1 => ⟨rc x h1 H1 vx rx hr1 w1.1,
    ⟨ρ, h1, _, sr.ext e1, hr1, w1.2, fun ds h2 vs H2 e2 rs hr2 w2 => sim x ds h2 H2 vx vs Qd Q (e2.vr rx) rs hr2 w2 (p.later (e1.trans e2))⟩⟩⟩
theorem vrs_rng {H : Hp} (i : Int) : ∀ n : Nat, VRs X.K H (rngD i n) ((List.range n).map fun (k : Nat) => V.int (i + k)) := fun n => by
  unfold rngD
  generalize List.range n = l
  induction l with
  | nil => rfl
  | cons a r ih => exact .cons rfl ih
theorem le_lrng1 {a : Expr} {p p2 pos pos2 : Pos} {wa : DEnv → DH → WK → Prop} (hc : X.calm = true) (hg : Gl X "list") (hm : X.mg "list" = none) (hg2 : Gl X "range") (hm2 : X.mg "range" = none) (ha : PE X a (lift X.K wa)) (na : starEach [a] X.env = (false, eval a X.env) :: starEach [] X.env) :
    PE X (.Call (.Name "list" p) [.Call (.Name "range" p2) [a] [] pos2] [] pos) (lift X.K fun ρ h Q => wa ρ h fun x h1 => intW x fun j => (-(2 ^ 62) ≤ j ∧ j ≤ 16777216) ∧ ∀ p, h1 p = none → Q (.ref p) (dupd h1 p (.lst (rngD 0 j.toNat)))) := by
  refine pe_imp (pe_listRg hc hg hm (prg_1 hg2 hm2 ha na) rfl) fun σ H Q ⟨ρ, h, Qd, sr, hr, w, p⟩ => ⟨ρ, h, _, sr, hr, w, fun x h1 vx H1 e1 rx hr1 w1 => ?_⟩
  obtain ⟨j, rfl, ⟨h3, h4⟩, q⟩ := intW_get w1
  cases rx
  refine ⟨j, rfl, ⟨by omega, by omega, by omega, by omega, by omega⟩, fun q' nq => (p.later e1).lst hr1 ?_ q nq⟩
  unfold rgV
  rw [show (j - 0).toNat = j.toNat by omega]
  exact vrs_rng 0 _
theorem le_lrng2 {a b : Expr} {p p2 pos pos2 : Pos} {wa wb : DEnv → DH → WK → Prop} (hc : X.calm = true) (hg : Gl X "list") (hm : X.mg "list" = none) (hg2 : Gl X "range") (hm2 : X.mg "range" = none) (ha : PE X a (lift X.K wa)) (hb : PE X b (lift X.K wb))
    (na : starEach [a, b] X.env = (false, eval a X.env) :: starEach [b] X.env) (nb : starEach [b] X.env = (false, eval b X.env) :: starEach [] X.env) :
    PE X (.Call (.Name "list" p) [.Call (.Name "range" p2) [a, b] [] pos2] [] pos) (lift X.K fun ρ h Q => wa ρ h fun x h1 => wb ρ h1 fun y h2 => intW x fun i => intW y fun j => (-(2 ^ 62) ≤ i ∧ i < 2 ^ 62 ∧ -(2 ^ 62) ≤ j ∧ j < 2 ^ 62 ∧ j - i ≤ 16777216) ∧ ∀ p, h2 p = none → Q (.ref p) (dupd h2 p (.lst (rngD i (j - i).toNat)))) := by
  refine pe_imp (pe_listRg hc hg hm (prg_2 hg2 hm2 ha hb na nb (by rw [nb]; rfl)) rfl) fun σ H Q ⟨ρ, h, Qd, sr, hr, w, p⟩ => ⟨ρ, h, _, sr, hr, w, fun x h1 vx H1 e1 rx hr1 w1 => ⟨ρ, h1, _, sr.ext e1, hr1, w1, fun y h2 vy H2 e2 ry hr2 w2 => ?_⟩⟩
  obtain ⟨i, rfl, w3⟩ := intW_get w2
  obtain ⟨j, rfl, ⟨h3, h4, h5, h6, h7⟩, q⟩ := intW_get w3
  cases rx; cases ry
  exact ⟨i, j, rfl, rfl, ⟨by omega, by omega, by omega, by omega, by omega⟩, fun q' nq => (p.later (e1.trans e2)).lst hr2 (vrs_rng i _) q nq⟩
end
end DL

set_option Elab.async false
set_option linter.all false
set_option maxRecDepth 100000
/-! DR8: fields, methods and the making of instances, over D. -/
namespace DL
open PySem PySem.Spec PyProof.Rows L2
theorem FR.look {K : PySem.W.Frag} {H : Hp} {f : Str} : ∀ {fs : List (Str × D)} {gs : List (Str × V)}, FR K H fs gs → (∀ v, fs.lookup f = some v → ∃ u, gs.lookup f = some u ∧ VR K H v u) ∧ (fs.lookup f = none → gs.lookup f = none)
  | _, _, .nil => ⟨fun v e => (nomatch e), fun _ => rfl⟩
  | (k, x) :: fs, (j, y) :: gs, .cons ⟨e, r⟩ t => by
    have ih := FR.look (f := f) t
    have e : k = j := e
    subst e
    simp only [List.lookup_cons]
    cases q : f == k with
    | true => exact ⟨fun v z => by cases z; exact ⟨y, rfl, r⟩, fun z => by cases z⟩
    | false => exact ih
theorem FR.len {K : PySem.W.Frag} {H : Hp} {α : Type} : ∀ {fs : List (α × D)} {gs : List (α × V)}, FR K H fs gs → fs.length = gs.length
  | _, _, .nil => rfl
  | _, _, .cons _ t => by rw [List.length_cons, List.length_cons, FR.len t]
theorem FR.put {K : PySem.W.Frag} {H : Hp} {f : Str} {d : D} {v : V} (r : VR K H d v) : ∀ {fs : List (Str × D)} {gs : List (Str × V)}, FR K H fs gs → FR K H (putD f d fs) (putF f v gs)
  | _, _, .nil => .cons ⟨rfl, r⟩ .nil
  | (k, x) :: fs, (j, y) :: gs, .cons ⟨e, q⟩ t => by
    have e : k = j := e
    subst e
    unfold putD putF
    by_cases c : k = f
    · rw [if_pos c, if_pos c]; exact .cons ⟨rfl, r⟩ t
    · rw [if_neg c, if_neg c]; exact .cons ⟨rfl, q⟩ (FR.put r t)
section
variable {X : Cx} {C : Addr} {f m : Str} {o e : Expr} {es : List Expr} {p pos apos cpos : Pos} {wo : DEnv → DH → WK → Prop} {w : DEnv → DH → (List D → DH → Prop) → Prop}
theorem le_fld (c : Cls X.K C) (n : NoAttr X.K C f) (ho : PE X o (lift X.K wo)) (hb : plainB o = true) :
    PE X (.Attribute o f pos) (lift X.K fun ρ h Q => wo ρ h fun x h1 => ∃ a fs v, x = .ref a ∧ h1 a = some (.ins C fs) ∧ fs.lookup f = some v ∧ Q v h1) :=
  pe_imp (pe_fld ho (attr_base hb)) fun σ H Q ⟨ρ, h, Qd, sr, hr, w, p⟩ => ⟨ρ, h, _, sr, hr, w, fun x h1 vx H1 e1 rx hr1 w1 => by
    obtain ⟨a, fs, v, rfl, ea, l, q⟩ := w1
    cases rx
    obtain ⟨dx, gs, eg, fr⟩ := hr1 _ _ ea
    obtain ⟨u, lu, ru⟩ := (fr.look (f := f)).1 v l
    exact ⟨a, C, dx, gs, u, rfl, eg, c, n, lu, p v h1 u H1 e1 ru hr1 q⟩⟩
theorem le_prop {k : Nat} {pa fa : Addr} {fd : FuncData} {ps : List Str} {sp : DSp} (c : Cls X.K C) (hp : PropOf X.K C f pa fa) (F : FnR false X.prog X.w X.K X.mg X.base CX0 k fa fd ps (liftSp X.K sp)) (hr : Room (k + 1) X.A) (hb : Binds X.K fd ps [])
    (ho : PE X o (lift X.K wo)) (hl : plainB o = true) : PE X (.Attribute o f pos) (lift X.K fun ρ h Q => wo ρ h fun x h1 => ∃ a fs, x = .ref a ∧ h1 a = some (.ins C fs) ∧ sp [.ref a] h1 Q) :=
  pe_imp (pe_prop (dvs := []) (E := E0) ho c hp ⟨F.len, fun A outer s H args us vs Q E hr he hb hv hs => F.run A outer s H args us vs Q E (fun z => by cases z) hr he hb hv hs⟩ hr hb .nil pass0 (attr_base hl)) fun σ H Q ⟨ρ, h, Qd, sr, hrr, w, p⟩ => ⟨ρ, h, _, sr, hrr, w, fun x h1 vx H1 e1 rx hr1 w1 => by
    obtain ⟨a, fs, rfl, ea, q⟩ := w1
    cases rx
    obtain ⟨dx, gs, eg, fr⟩ := hr1 _ _ ea
    exact ⟨a, dx, gs, rfl, eg, [.ref a], h1, Qd, .cons rfl .nil, hr1, q, p.later e1⟩⟩
theorem vals_D {K : PySem.W.Frag} {H : Hp} : ∀ dd : List Int, VRs K H (dd.map D.int) (dd.map V.int)
  | [] => rfl
  | i :: dd => ⟨_, _, rfl, rfl, vals_D dd⟩
theorem le_meth {g : Bool} {k : Nat} {fa : Addr} {fd : FuncData} {sp : DSp} (c : Cls X.K C) (hm : Meth X.K C m fa) (FM : FnM g X.prog X.w X.K X.mg X.base k fa fd sp) (hgd : g = true → X.A.guards = some []) (hr : Room k X.A)
    (ho : PE X o (lift X.K wo)) (hp : plainB o = true) (hl : (apos.endLine == cpos.line) = true) (ha : PA X (e :: es) (liftL X.K w))
    (hs : starEach (e :: es) X.env = (false, eval e X.env) :: starEach es X.env) (hall : (starEach (e :: es) X.env).all (fun x => !x.1) = true) (hn : (e :: es).length < 20) (hpl : (backTo cpos (starEach es X.env)).any (·.1) = false) :
    PE X (.Call (.Attribute o m apos) (e :: es) [] cpos) (lift X.K fun ρ h Q => wo ρ h fun x h1 => ∃ a fs, x = .ref a ∧ h1 a = some (.ins C fs) ∧ fs.lookup m = none ∧ w ρ h1 fun ds h2 => sp (.ref a :: ds) h2 Q) :=
  let ⟨_, dd, _, _, F, hb, hd, imp⟩ := FM
  pe_imp (pr_meth ho c hm F hgd hr hb hd ha hs hpl (meth_eval (attr_base hp) (few_of (back_all hall) hn) hl)) fun σ H Q ⟨ρ, h, Qd, sr, hrr, w, p⟩ => ⟨ρ, h, _, sr, hrr, w, fun x h1 vx H1 e1 rx hr1 w1 => by
    obtain ⟨a, fs, rfl, ea, l, q⟩ := w1
    cases rx
    obtain ⟨dx, gs, eg, fr⟩ := hr1 _ _ ea
    refine ⟨a, dx, gs, rfl, eg, (fr.look (f := m)).2 l, ρ, h1, _, sr.ext e1, hr1, q, fun ds h2 vs H2 e2 rs hr2 q2 => ?_⟩
    exact ⟨.ref a :: (ds ++ dd.map D.int), h2, Qd, .cons rfl (rs.append (vals_D dd)), hr2, imp (.ref a :: ds) h2 Qd q2, p.later (e1.trans e2)⟩⟩
theorem le_meth0 {g : Bool} {k : Nat} {fa : Addr} {fd : FuncData} {sp : DSp} (c : Cls X.K C) (hm : Meth X.K C m fa) (FM : FnM g X.prog X.w X.K X.mg X.base k fa fd sp) (hgd : g = true → X.A.guards = some []) (hr : Room k X.A)
    (ho : PE X o (lift X.K wo)) (hp : plainB o = true) (hl : (apos.endLine == cpos.line) = true) :
    PE X (.Call (.Attribute o m apos) [] [] cpos) (lift X.K fun ρ h Q => wo ρ h fun x h1 => ∃ a fs, x = .ref a ∧ h1 a = some (.ins C fs) ∧ fs.lookup m = none ∧ sp [.ref a] h1 Q) :=
  let ⟨_, dd, _, _, F, hb, hd, imp⟩ := FM
  pe_imp (pr_meth0 ho c hm F hgd hr hb hd (meth_eval (attr_base hp) rfl hl)) fun σ H Q ⟨ρ, h, Qd, sr, hrr, w, p⟩ => ⟨ρ, h, _, sr, hrr, w, fun x h1 vx H1 e1 rx hr1 w1 => by
    obtain ⟨a, fs, rfl, ea, l, q⟩ := w1
    cases rx
    obtain ⟨dx, gs, eg, fr⟩ := hr1 _ _ ea
    exact ⟨a, dx, gs, rfl, eg, (fr.look (f := m)).2 l, .ref a :: dd.map D.int, h1, Qd, .cons rfl (vals_D dd), hr1, imp [.ref a] h1 Qd q, p.later e1⟩⟩
theorem mk_ok {sp : DSp} {ds : List D} {vs : List V} {h : DH} {H : Hp} {Qd : WK} {Q : VK} (rs : VRs X.K H ds vs) (hr : HR X.K h H) (q : mkW C sp ds h Qd) (p : Post X.K h H Qd Q) : ∀ x dx, H x = none → H dx = none → dx ≠ x →
    liftSp X.K sp (.ref x :: vs) (upd (upd H dx (.own x)) x (.ins C dx [])) (fun v H2 => v = .non ∧ Q (.ref x) H2) E0 := fun x dx nx nd ne => by
  have r1 := hr.laid (o := .own x) nd
  have x1 := Ext.laid (h := h) (o := .own x) hr nd
  have nx1 : upd H dx (.own x) x = none := by rw [upd_ne (Ne.symm ne)]; exact nx
  have x2 := Ext.new (o := .ins C dx []) (u := .ins C []) r1 nx1 (fun z => nomatch z)
  have r2 := r1.new (o := .ins C dx []) (u := .ins C []) nx1 ⟨dx, [], upd_same, .nil⟩
  refine ⟨.ref x :: ds, dupd h x (.ins C []), _, .cons rfl ((x1.trans x2).vrs rs), r2, q x (hr.none_of nx), fun d h' v H' e rd hr' ⟨z, q⟩ => ?_⟩
  subst z
  exact ⟨rd, p (.ref x) h' (.ref x) H' ((x1.trans x2).trans e) rfl hr' q⟩
theorem le_make {g : Bool} {k : Nat} {fa : Addr} {fd : FuncData} {ps : List Str} {sp : DSp} {x : Str} (M : Mk X.K C fa) (F : FnR g X.prog X.w X.K X.mg X.base CX0 k fa fd ps (liftSp X.K sp)) (hgd : g = true → X.A.guards = some []) (hr : Room (k + 1) X.A) (hg : Gl X x) (hm : X.mg x = some (.ref C)) (hb : Binds X.K fd ps [])
    (ha : PA X (e :: es) (liftL X.K w)) (hdb : (x == ("__debug__" : Str)) = false) (he : starEach (e :: es) X.env = (false, eval e X.env) :: starEach es X.env) (hpl : (backTo cpos (starEach es X.env)).any (·.1) = false) :
    PE X (.Call (.Name x p) (e :: es) [] cpos) (lift X.K fun ρ h Q => w ρ h fun ds h1 => mkW C sp ds h1 Q) :=
  pe_imp (pr_make M F hgd hr hg hm hb ha hdb he hpl) fun σ H Q ⟨ρ, h, Qd, sr, hrr, w, p⟩ => ⟨ρ, h, _, sr, hrr, w, fun ds h1 vs H1 e1 rs hr1 q => mk_ok rs hr1 q (p.later e1)⟩
theorem le_make0 {g : Bool} {k : Nat} {fa : Addr} {fd : FuncData} {ps : List Str} {sp : DSp} {x : Str} (M : Mk X.K C fa) (F : FnR g X.prog X.w X.K X.mg X.base CX0 k fa fd ps (liftSp X.K sp)) (hgd : g = true → X.A.guards = some []) (hr : Room (k + 1) X.A) (hg : Gl X x) (hm : X.mg x = some (.ref C)) (hb : Binds X.K fd ps [])
    (hdb : (x == ("__debug__" : Str)) = false) : PE X (.Call (.Name x p) [] [] cpos) (lift X.K fun _ h Q => mkW C sp [] h Q) :=
  pe_imp (pr_make0 M F hgd hr hg hm hb hdb) fun σ H Q ⟨ρ, h, Qd, sr, hrr, w, p⟩ => mk_ok (ds := []) (vs := []) rfl hrr w p
end
/-! dicts -/
section
variable {K : PySem.W.Frag} {H : Hp}
theorem FR.dict {κ : Type} [DecidableEq κ] {k : κ} : ∀ {kvs : List (κ × D)} {gs : List (κ × V)}, FR K H kvs gs → (∀ v, lookD kvs k = some v → ∃ u, valV gs k = some u ∧ VR K H v u) ∧ (lookD kvs k = none → valV gs k = none)
  | _, _, .nil => ⟨fun v e => (nomatch e), fun _ => rfl⟩
  | (j, x) :: fs, (j', y) :: gs, .cons ⟨e, r⟩ t => by
    have ih := FR.dict (k := k) t
    have e : j = j' := e
    subst e
    unfold lookD valV at ih ⊢
    simp only [List.find?_cons]
    cases q : decide (j = k) with
    | true => exact ⟨fun v z => by cases z; exact ⟨y, rfl, r⟩, fun z => by cases z⟩
    | false => exact ih
theorem FR.any {κ : Type} [DecidableEq κ] {k : κ} : ∀ {kvs : List (κ × D)} {gs : List (κ × V)}, FR K H kvs gs → (kvs.any fun kv => decide (kv.1 = k)) = gs.any fun kv => decide (kv.1 = k)
  | _, _, .nil => rfl
  | (j, x) :: fs, (j', y) :: gs, .cons ⟨e, r⟩ t => by
    have e : j = j' := e
    subst e
    simp only [List.any_cons, FR.any t]
theorem FR.app {κ : Type} : ∀ {a b : List (κ × D)} {c d : List (κ × V)}, FR K H a c → FR K H b d → FR K H (a ++ b) (c ++ d)
  | _, _, _, _, .nil, q => q
  | _, _, _, _, .cons r t, q => .cons r (FR.app t q)
theorem FR.putk {κ : Type} [DecidableEq κ] {k : κ} {d : D} {v : V} (r : VR K H d v) {kvs : List (κ × D)} {gs : List (κ × V)} (f : FR K H kvs gs) : FR K H (putKD kvs k d) (putK gs k v) := by
  unfold putKD putK
  rw [f.any]
  split
  · rename_i hz
    clear hz
    induction f with
    | nil => exact .nil
    | @cons p q ps qs h t ih =>
      refine .cons ?_ ih
      obtain ⟨j, x⟩ := p
      obtain ⟨j', y⟩ := q
      obtain ⟨e, z⟩ := h
      have e : j = j' := e
      subst e
      by_cases c : j = k
      · simp only [if_pos c]; exact ⟨by first | exact rfl | trivial, r⟩
      · simp only [if_neg c]; exact ⟨by first | exact rfl | trivial, z⟩
  · exact f.app (.cons ⟨rfl, r⟩ .nil)
theorem keyD_of {x : D} {v : V} {k : Key} (e : keyD x = some k) (r : VR K H x v) : v = kV k := by
  cases x with
  | int i => cases e; exact r
  | str i => cases e; exact r
  | _ => cases e
theorem keysD_of : ∀ {xs : List D} {vs : List V} {ks : List Key}, keysD xs = some ks → VRs K H xs vs → vs = ks.map kV
  | [], _, _, e, r => by cases e; exact r
  | x :: xs, _, ks, e, ⟨v, t, e1, e2, e3⟩ => by
    subst e1
    simp only [keysD] at e
    cases q : keyD x with
    | none => rw [q] at e; cases e
    | some k =>
      cases q2 : keysD xs with
      | none => rw [q, q2] at e; cases e
      | some js =>
        rw [q, q2] at e; cases e
        rw [keyD_of q e2, keysD_of q2 e3]; rfl
theorem refW_get {d : D} {k : Addr → Prop} (h : refW d k) : ∃ a, d = .ref a ∧ k a := by
  unfold refW at h
  split at h
  · exact ⟨_, rfl, h⟩
  · exact h.elim
theorem dget_ok {h : DH} {x y : D} {vx vy : V} {k : Option D → Prop} (hr : HR K h H) (rx : VR K H x vx) (ry : VR K H y vy) (g : dgetW x y h k) :
    ∃ a o o', vx = .ref a ∧ DGet H a vy o' ∧ k o ∧ (o = none → o' = none) ∧ ∀ v, o = some v → ∃ u, o' = some u ∧ VR K H v u := by
  obtain ⟨a, rfl, g⟩ := refW_get g
  cases rx
  have flat : ∀ {kvs : List (Key × D)} {kk : Key}, h a = some (.dk kvs) → keyD y = some kk → k (lookD kvs kk) → ∃ a' o o', V.ref a = .ref a' ∧ DGet H a' vy o' ∧ k o ∧ (o = none → o' = none) ∧ ∀ v, o = some v → ∃ u, o' = some u ∧ VR K H v u := fun {kvs kk} e ek q => by
    obtain ⟨gs, eg, fr⟩ := hr _ _ e
    have := keyD_of ek ry
    subst this
    exact ⟨a, _, _, rfl, .k eg, q, (fr.dict (k := kk)).2, (fr.dict (k := kk)).1⟩
  cases y with
  | tup ys =>
    obtain ⟨kvs, ks, e, kb, ek, q⟩ := g
    obtain ⟨gs, eg, fr⟩ := hr _ _ e
    obtain ⟨b, vs, rfl, tp, hv⟩ := ry
    have := keysD_of ek hv
    subst this
    exact ⟨a, _, _, rfl, .t eg (tp.key kb), q, (fr.dict (k := ks)).2, (fr.dict (k := ks)).1⟩
  | int i => obtain ⟨kvs, kk, e, ek, q⟩ := g; exact flat e ek q
  | str i => obtain ⟨kvs, kk, e, ek, q⟩ := g; exact flat e ek q
  | _ => obtain ⟨kvs, kk, e, ek, q⟩ := g; cases ek
end
theorem nosl_of {b : Expr} (h : ∀ a c d p, b ≠ .Slice a c d p) : NoSl b := by
  intro o i
  cases b with
  | Slice a c d p => exact absurd rfl (h a c d p)
  | _ => rfl
section
variable {X : Cx} {d e : Expr} {pos : Pos} {wd wk wv : DEnv → DH → WK → Prop}
theorem le_dix (hu : X.A.units + 100 < cLine) (hd : PE X d (lift X.K wd)) (hk : PE X e (lift X.K wk)) (hs : NoSl e) :
    PE X (.Subscript d e pos) (lift X.K fun ρ h Q => wd ρ h fun x h1 => wk ρ h1 fun y h2 => dgetW x y h2 fun o => ∃ v, o = some v ∧ Q v h2) :=
  pe_imp (pe_dget (by omega) hd hk hs) fun σ H Q ⟨ρ, h, Qd, sr, hr, w, p⟩ => ⟨ρ, h, _, sr, hr, w, fun x h1 vx H1 e1 rx hr1 w1 => ⟨ρ, h1, _, sr.ext e1, hr1, w1, fun y h2 vy H2 e2 ry hr2 w2 => by
    obtain ⟨a, o, o', rfl, g, ⟨v, eo, q⟩, _, hs⟩ := dget_ok hr2 (e2.vr rx) ry w2
    obtain ⟨u, eu, ru⟩ := hs v eo
    subst eu
    exact ⟨a, u, rfl, g, p v h2 u H2 (e1.trans e2) ru hr2 q⟩⟩⟩
theorem le_din (hu : X.A.units + 100 < cLine) (neg : Bool) (hk : PE X e (lift X.K wk)) (hd : PE X d (lift X.K wd)) (hm : behindInMarks (if neg then .NotIn else .In) d = false) :
    PE X (.Compare e [if neg then .NotIn else .In] [d] pos) (lift X.K fun ρ h Q => wk ρ h fun y h1 => wd ρ h1 fun x h2 => dgetW x y h2 fun o => Q (.bl (if neg then !o.isSome else o.isSome)) h2) := by
  cases neg with
  | false =>
    exact pe_imp (pe_cmp (pc_din (by omega) hk hd) hm) fun σ H Q ⟨ρ, h, Qd, sr, hr, w, p⟩ => ⟨ρ, h, _, sr, hr, w, fun y h1 vy H1 e1 ry hr1 w1 => ⟨ρ, h1, _, sr.ext e1, hr1, w1, fun x h2 vx H2 e2 rx hr2 w2 => by
      obtain ⟨a, o, o', rfl, g, q, hn, hs⟩ := dget_ok hr2 rx (e2.vr ry) w2
      have es : o.isSome = o'.isSome := by
        cases o with
        | none => rw [hn rfl]; rfl
        | some v => obtain ⟨u, eu, _⟩ := hs v rfl; rw [eu]; rfl
      exact ⟨a, o', rfl, g, by rw [← es]; exact p (.bl o.isSome) h2 (.bl o.isSome) H2 (e1.trans e2) rfl hr2 q⟩⟩⟩
  | true =>
    exact pe_imp (pe_cmp (pc_dnotin (by omega) hk hd) hm) fun σ H Q ⟨ρ, h, Qd, sr, hr, w, p⟩ => ⟨ρ, h, _, sr, hr, w, fun y h1 vy H1 e1 ry hr1 w1 => ⟨ρ, h1, _, sr.ext e1, hr1, w1, fun x h2 vx H2 e2 rx hr2 w2 => by
      obtain ⟨a, o, o', rfl, g, q, hn, hs⟩ := dget_ok hr2 rx (e2.vr ry) w2
      have es : o.isSome = o'.isSome := by
        cases o with
        | none => rw [hn rfl]; rfl
        | some v => obtain ⟨u, eu, _⟩ := hs v rfl; rw [eu]; rfl
      exact ⟨a, o', rfl, g, by rw [← es]; exact p (.bl (!o.isSome)) h2 (.bl (!o.isSome)) H2 (e1.trans e2) rfl hr2 q⟩⟩⟩
theorem lt_din (hu : X.A.units + 100 < cLine) (neg : Bool) (hk : PE X e (lift X.K wk)) (hd : PE X d (lift X.K wd)) (hm : behindInMarks (if neg then .NotIn else .In) d = false) :
    PT X (.Compare e [if neg then .NotIn else .In] [d] pos) (liftB X.K (wB fun ρ h Q => wk ρ h fun y h1 => wd ρ h1 fun x h2 => dgetW x y h2 fun o => Q (.bl (if neg then !o.isSome else o.isSome)) h2)) := by
  cases neg with
  | false =>
    exact pt_imp (pt_cmp (pc_din (by omega) hk hd) hm) fun σ H Q ⟨ρ, h, Qd, sr, hr, w, p⟩ => ⟨ρ, h, _, sr, hr, w, fun y h1 vy H1 e1 ry hr1 w1 => ⟨ρ, h1, _, sr.ext e1, hr1, w1, fun x h2 vx H2 e2 rx hr2 w2 => by
      obtain ⟨a, o, o', rfl, g, q, hn, hs⟩ := dget_ok hr2 rx (e2.vr ry) w2
      have es : o.isSome = o'.isSome := by
        cases o with
        | none => rw [hn rfl]; rfl
        | some v => obtain ⟨u, eu, _⟩ := hs v rfl; rw [eu]; rfl
      exact ⟨a, o', rfl, g, o'.isSome, rfl, by rw [← es]; exact p o.isSome h2 H2 (e1.trans e2) hr2 q⟩⟩⟩
  | true =>
    exact pt_imp (pt_cmp (pc_dnotin (by omega) hk hd) hm) fun σ H Q ⟨ρ, h, Qd, sr, hr, w, p⟩ => ⟨ρ, h, _, sr, hr, w, fun y h1 vy H1 e1 ry hr1 w1 => ⟨ρ, h1, _, sr.ext e1, hr1, w1, fun x h2 vx H2 e2 rx hr2 w2 => by
      obtain ⟨a, o, o', rfl, g, q, hn, hs⟩ := dget_ok hr2 rx (e2.vr ry) w2
      have es : o.isSome = o'.isSome := by
        cases o with
        | none => rw [hn rfl]; rfl
        | some v => obtain ⟨u, eu, _⟩ := hs v rfl; rw [eu]; rfl
      exact ⟨a, o', rfl, g, !o'.isSome, rfl, by rw [← es]; exact p (!o.isSome) h2 H2 (e1.trans e2) hr2 q⟩⟩⟩
end
end DL

set_option Elab.async false
set_option linter.all false
set_option maxRecDepth 100000
/-! DR11: len and == of instances whose class has its own defs for them. -/
namespace DL
open PySem PySem.Spec PyProof.Rows L2
section
variable {X : Cx} {C f : Addr} {k : Nat} {fd : FuncData} {ps : List Str} {sp : Sp} {pins : List (Addr × Obj)} {σ : L2.St} {H : Hp} {s : Shared}
theorem run_own {A : Around} {Q : VK} {us : List Value} {vs : List V} {E' : Value → Shared → Prop} (F : FnR false X.prog X.w X.K X.mg X.base CX0 k f fd ps sp) (room : Room k A) (e0 : Env0 X.prog X.w X.K X.mg X.base A X.stack s H) (hb : Binds X.K fd ps []) (I : Inv X pins σ H s)
    (r : Vals vs us) (q : sp vs H Q E0) : wpAny (model X.prog X.w) A (call (.ref f) us) (EP X pins σ Q) E' s := by
  have b := hb s us I.kIn (by rw [List.append_nil, ← r.length]; exact F.len _ _ _ _ q)
  rw [List.append_nil] at b
  refine wpAny_call (codeAny_mono (F.run A X.stack s H ⟨us, []⟩ us vs Q E0 (fun z => by cases z) room e0 b r q) fun res s' hq => ?_)
  match res, hq with
  | .ok (.ret u), hq => exact I.after hq
  | .ok .next, hq => exact hq.elim
  | .ok .brk, hq => exact hq.elim
  | .ok .cont, hq => exact hq.elim
  | .error e, hq => exact hq.elim
def rLenO (C : Addr) (sp : Sp) : List V → Hp → VK → Prop := fun xs H Q => ∃ (a dx : Addr) (fs : List (Str × V)), xs = [V.ref a] ∧ H a = some (.ins C dx fs) ∧ sp [.ref a] H (fun z H' => ∃ n : Nat, z = .int n ∧ n < 2 ^ 62 ∧ Q z H') E0
theorem call_lenO (hs : PySem.W.findIn X.K (.ref C) "__len__" = some (some (.ref f))) (hf : PySem.W.isFn X.K (.ref f) = true) (F : FnR false X.prog X.w X.K X.mg X.base CX0 k f fd ps sp) (room : Room (k + 1) X.A) (hb : Binds X.K fd ps []) : CallR X (.builtin "len") (rLenO C sp) := by
  rintro pins s σ H xs us Q I r ⟨a, dx, fs, rfl, ea, q⟩
  obtain ⟨u, rfl, ru⟩ := r.one
  cases (show u = Value.ref a from ru)
  obtain ⟨_, O, _⟩ := ins_get I.hok ea
  obtain ⟨od, J, _⟩ := O.look
  obtain ⟨_, fr⟩ := I.fr
  refine PySem.W.len_K fr I.ok.mod.kin J hs hf (thn (run_own (us := [.ref a]) (vs := [.ref a]) F (Room.in1 room) I.env0.in1 hb I (.cons rfl .nil) q) fun v s' z => ?_)
  obtain ⟨_, H', I', rv, n, rfl, hn, qn⟩ := z
  obtain ⟨t, rfl⟩ := (show ∃ t, v = Value.int (n : Nat) t from rv)
  exact ⟨⟨by omega, by omega⟩, .int n, H', I'.tok _, ⟨_, rfl⟩, qn⟩
def rEqO (C : Addr) (sp : Sp) : R2 := fun x y H Q => ∃ (a b dx dy : Addr) (fs gs : List (Str × V)), x = .ref a ∧ y = .ref b ∧ H a = some (.ins C dx fs) ∧ H b = some (.ins C dy gs) ∧ sp [.ref a, .ref b] H Q E0
theorem op_eqO (nf : PySem.W.notFirst X.K C (.ref C) = true) (hs : PySem.W.findIn X.K (.ref C) "__eq__" = some (some (.ref f))) (hf : PySem.W.isFn X.K (.ref f) = true) (F : FnR false X.prog X.w X.K X.mg X.base CX0 k f fd ps sp) (room : Room k X.A) (hb : Binds X.K fd ps []) :
    OpR X (compareOp .Eq) (rEqO C sp) := by
  rintro pins s σ H x y v u Q I rx ry ⟨a, b, dx, dy, fs, gs, rfl, rfl, ea, eb, q⟩
  cases (show v = Value.ref a from rx)
  cases (show u = Value.ref b from ry)
  obtain ⟨_, O, _⟩ := ins_get I.hok ea
  obtain ⟨od, J, _⟩ := O.look
  obtain ⟨_, O', _⟩ := ins_get I.hok eb
  obtain ⟨od', J', _⟩ := O'.look
  obtain ⟨_, fr⟩ := I.fr
  show wpAny _ _ (richCompare .Eq (.ref a) (.ref b)) _ _ _
  refine PySem.W.cmp_K (op := .Eq) (tb := .ref C) room.units0 fr I.ok.mod.kin J J'.type nf hs hf (thn (run_own (us := [.ref a, .ref b]) (vs := [.ref a, .ref b]) F room I.env0 hb I (.cons rfl (.cons rfl .nil)) q) fun w s' z => ?_)
  obtain ⟨z', H', I', rz, qz⟩ := z
  exact SlX.cmpback rz ⟨z', H', I', rz, qz⟩
end
section
variable {X : Cx} {C f : Addr} {k : Nat} {fd : FuncData} {ps : List Str} {sp : DSp} {e a b : Expr} {p pos : Pos} {we wa wb : DEnv → DH → WK → Prop}
theorem le_lenO (hs : PySem.W.findIn X.K (.ref C) "__len__" = some (some (.ref f))) (hf : PySem.W.isFn X.K (.ref f) = true) (F : FnR false X.prog X.w X.K X.mg X.base CX0 k f fd ps (liftSp X.K sp)) (room : Room (k + 1) X.A) (hb : Binds X.K fd ps [])
    (hg : Gl X "len") (hm : X.mg "len" = none) (he : PE X e (lift X.K we)) (ns : starEach [e] X.env = (false, eval e X.env) :: starEach [] X.env) :
    PE X (.Call (.Name "len" p) [e] [] pos) (lift X.K fun ρ h Q => we ρ h fun x h1 => ∃ a fs, x = .ref a ∧ h1 a = some (.ins C fs) ∧ sp [.ref a] h1 fun y h2 => ∃ n : Nat, y = .int n ∧ n < 2 ^ 62 ∧ Q y h2) := by
  refine pe_imp (pe_callB (call_lenO hs hf F room hb) hg hm (by decide +kernel) (pa_cons he pa_nil ns) (by decide) (by decide) ns rfl) fun σ H Q ⟨ρ, h, Qd, sr, hr, w, pp⟩ => ⟨ρ, h, _, sr, hr, w, fun x h1 vx H1 e1 rx hr1 w1 => ?_⟩
  obtain ⟨a, fs, rfl, ea, q⟩ := w1
  cases rx
  obtain ⟨dx, gs, eg, _⟩ := hr1 _ _ ea
  refine ⟨a, dx, gs, rfl, eg, [.ref a], h1, _, .cons rfl .nil, hr1, q, fun d h2 v H2 e2 rd hr2 z => ?_⟩
  obtain ⟨n, rfl, hn, qn⟩ := z
  cases rd
  exact ⟨n, rfl, hn, pp (D.int (n : Nat)) h2 _ H2 (e1.trans e2) rfl hr2 qn⟩
theorem sim_eqO : Sim2 X.K (fun x y h Q => ∃ p q fs gs, x = .ref p ∧ y = .ref q ∧ h p = some (.ins C fs) ∧ h q = some (.ins C gs) ∧ sp [.ref p, .ref q] h Q) (rEqO C (liftSp X.K sp)) := by
  rintro x y h H vx vy Qd Q rx ry hr ⟨p, q, fs, gs, rfl, rfl, e1, e2, w⟩ pp
  cases rx; cases ry
  obtain ⟨dx, us, a1, _⟩ := hr _ _ e1
  obtain ⟨dy, ws, b1, _⟩ := hr _ _ e2
  exact ⟨p, q, dx, dy, us, ws, rfl, rfl, a1, b1, [.ref p, .ref q], h, Qd, .cons rfl (.cons rfl .nil), hr, w, pp⟩
theorem le_eqO (nf : PySem.W.notFirst X.K C (.ref C) = true) (hs : PySem.W.findIn X.K (.ref C) "__eq__" = some (some (.ref f))) (hf : PySem.W.isFn X.K (.ref f) = true) (F : FnR false X.prog X.w X.K X.mg X.base CX0 k f fd ps (liftSp X.K sp)) (room : Room k X.A) (hb : Binds X.K fd ps [])
    (ha : PE X a (lift X.K wa)) (hb2 : PE X b (lift X.K wb)) (hm : behindInMarks .Eq b = false) :
    PE X (.Compare a [.Eq] [b] pos) (lift X.K fun ρ h Q => wa ρ h fun x h1 => wb ρ h1 fun y h2 => ∃ p q fs gs, x = .ref p ∧ y = .ref q ∧ h2 p = some (.ins C fs) ∧ h2 q = some (.ins C gs) ∧ sp [.ref p, .ref q] h2 Q) :=
  pe_imp (pe_cmpR (op_eqO nf hs hf F room hb) ha hb2 hm) fun σ H Q l => lift_two (X := X) sim_eqO l
theorem lt_eqO (nf : PySem.W.notFirst X.K C (.ref C) = true) (hs : PySem.W.findIn X.K (.ref C) "__eq__" = some (some (.ref f))) (hf : PySem.W.isFn X.K (.ref f) = true) (F : FnR false X.prog X.w X.K X.mg X.base CX0 k f fd ps (liftSp X.K sp)) (room : Room k X.A) (hb : Binds X.K fd ps [])
    (ha : PE X a (lift X.K wa)) (hb2 : PE X b (lift X.K wb)) (hm : behindInMarks .Eq b = false) :
    PT X (.Compare a [.Eq] [b] pos) (liftB X.K (wB fun ρ h Q => wa ρ h fun x h1 => wb ρ h1 fun y h2 => ∃ p q fs gs, x = .ref p ∧ y = .ref q ∧ h2 p = some (.ins C fs) ∧ h2 q = some (.ins C gs) ∧ sp [.ref p, .ref q] h2 Q)) := by
  refine pt_imp (pt_cmpR (op_eqO nf hs hf F room hb) ha hb2 hm) fun σ H Q ⟨ρ, h, Qd, sr, hr, w, p⟩ => ?_
  refine lift_two (X := X) sim_eqO ⟨ρ, h, _, sr, hr, w, fun x h1 vx H1 e1 rx hr1 w1 => ?_⟩
  obtain ⟨k, rfl, w1⟩ := boolW_get w1
  cases rx
  exact ⟨k, rfl, p k h1 H1 e1 hr1 w1⟩
theorem le_isiO {z : Str} {pz : Pos} (ic : IsiC X.K C) (hg : Gl X "isinstance") (hm : X.mg "isinstance" = none) (hz : Gl X z) (mz : X.mg z = some (.ref C)) (dz : (z == ("__debug__" : Str)) = false) (he : PE X e (lift X.K we)) (ns : starEach [e, .Name z pz] X.env = (false, eval e X.env) :: starEach [.Name z pz] X.env) :
    PE X (.Call (.Name "isinstance" p) [e, .Name z pz] [] pos) (lift X.K fun ρ h Q => we ρ h fun x h1 => ∃ a fs, x = .ref a ∧ h1 a = some (.ins C fs) ∧ Q (.bl true) h1) := by
  refine pe_imp (pe_callB call_isi hg hm (by decide +kernel) (pa_cons he (pa_cons (pe_glob (v := .ref C) hz mz rfl dz) pa_nil rfl) ns) (by decide) (by decide) ns rfl) fun σ H Q ⟨ρ, h, Qd, sr, hr, w, pp⟩ => ⟨ρ, h, _, sr, hr, w, fun x h1 vx H1 e1 rx hr1 w1 => ?_⟩
  obtain ⟨a, fs, rfl, ea, q⟩ := w1
  cases rx
  obtain ⟨dx, gs, eg, _⟩ := hr1 _ _ ea
  have same : PySem.W.kitOne X.K (.ref C) (.ref C) = some true := by unfold PySem.W.kitOne; rw [if_pos (beq_self_eq_true _)]
  exact ⟨.ref a, .ref C, .ref C, .ref C, true, rfl, .own C, .base (.ins eg ic.cl ic.ha ic.hn ic.ht ic.hm), same, pp (D.bl true) h1 _ H1 e1 rfl hr1 q⟩
end
end DL

set_option Elab.async false
set_option linter.all false
set_option maxRecDepth 100000
/-! DR15: calls by keywords alone, over data. -/
namespace DL
open PySem PySem.Spec PyProof.Rows L2
theorem VRs.perm {K : PySem.W.Frag} {H : Hp} {ds : List D} {vs : List V} (r : VRs K H ds vs) : ∀ is : List Nat, VRs K H (permL is ds) (permL is vs)
  | [] => rfl
  | i :: is => by
    unfold permL
    rw [List.filterMap_cons, List.filterMap_cons]
    cases e : ds[i]? with
    | some d =>
      obtain ⟨v, ev, rv⟩ := r.get e
      rw [ev]
      exact .cons rv (VRs.perm r is)
    | none =>
      have : vs[i]? = none := by
        rw [List.getElem?_eq_none_iff] at e ⊢
        rw [← r.length]; exact e
      rw [this]
      exact VRs.perm r is
theorem valsPerm {vs : List V} {us : List Value} (r : Vals vs us) : ∀ is : List Nat, Vals (permL is vs) (permL is us)
  | [] => .nil
  | i :: is => by
    unfold permL
    rw [List.filterMap_cons, List.filterMap_cons]
    cases e : vs[i]? with
    | some v =>
      obtain ⟨u, eu, ru⟩ := r.get e
      rw [eu]
      exact .cons ru (valsPerm r is)
    | none =>
      have : us[i]? = none := by
        rw [List.getElem?_eq_none_iff] at e ⊢
        rw [← r.length]; exact e
      rw [this]
      exact valsPerm r is
section
variable {X : Cx}
theorem lk_nil : PK X [] (liftL X.K fun _ h Q => Q [] h) :=
  ⟨fun pos pins s σ H Q I ⟨ρ, h, Qd, sr, hr, w, p⟩ => pk_nil.run pos pins s σ H Q I (p [] h [] H (Ext.refl h H) rfl hr w)⟩
theorem lk_cons {nm : Option Str} {e : Expr} {kpos : Pos} {kws : List Keyword} {we : DEnv → DH → WK → Prop} {wr : DEnv → DH → (List D → DH → Prop) → Prop} (he : PE X e (lift X.K we)) (hr : PK X kws (liftL X.K wr)) :
    PK X (⟨nm, e, kpos⟩ :: kws) (liftL X.K fun ρ h Q => we ρ h fun d h1 => wr ρ h1 fun ds h2 => Q (d :: ds) h2) :=
  ⟨fun pos pins s σ H Q I ⟨ρ, h, Qd, sr, hr', w, p⟩ => (pk_cons he hr).run pos pins s σ H Q I ⟨ρ, h, _, sr, hr', w, fun x h1 vx H1 e1 rx hr1 w1 => ⟨ρ, h1, _, sr.ext e1, hr1, w1, fun ds h2 vs H2 e2 rs hr2 w2 => p (x :: ds) h2 (vx :: vs) H2 (e1.trans e2) (.cons (e2.vr rx) rs) hr2 w2⟩⟩⟩
variable {g : Bool} {k : Nat} {f C : Addr} {fd : FuncData} {ps ks : List Str} {is : List Nat} {sp : DSp} {x m : Str} {p pos apos : Pos} {o : Expr} {kws : List Keyword} {w : DEnv → DH → (List D → DH → Prop) → Prop}
theorem le_callK (F : FnR g X.prog X.w X.K X.mg X.base CX0 k f fd ps (liftSp X.K sp)) (hgd : g = true → X.A.guards = some []) (hr : Room k X.A) (hg : Gl X x) (hm : X.mg x = some (.ref f)) (hk : PySem.W.keepIn X.K (.ref f) = true) (hb : KwB X.K fd ps 0 ks is)
    (hkw : PK X kws (liftL X.K w)) (hall : (backToKw pos (keywordEach kws X.env)).all (·.1.isSome) = true) (hks : (backToKw pos (keywordEach kws X.env)).filterMap (·.1) = ks) (hdb : (x == ("__debug__" : Str)) = false)
    (hpl : ((backTo pos (starEach [] X.env)).any (·.1) || (backToKw pos (keywordEach kws X.env)).any (·.1.isNone)) = false) :
    PE X (.Call (.Name x p) [] kws pos) (lift X.K fun ρ h Q => w ρ h fun ds h1 => ds.length = ks.length ∧ spPerm is sp ds h1 Q) :=
  pe_imp (pr_callK F hgd hr hg hm hk hb hkw hall hks hdb hpl) fun σ H Q ⟨ρ, h, Qd, sr, hr, w, p⟩ => ⟨ρ, h, _, sr, hr, w, fun ds h1 vs H1 e1 rs hr1 w1 => ⟨rs.length.symm.trans w1.1, permL is ds, h1, Qd, rs.perm is, hr1, w1.2, p.later e1⟩⟩
end
/-- from the def as it stands at the top -/
theorem kwb_of {K : PySem.W.Frag} {x qual : Str} {st : Stmt} {f : Addr} {fd : FuncData} {ps ks : List Str} {is : List Nat} {n : Nat} (F : Fun K x qual st f fd)
    (b : ∀ (kV doc pm : Value) (an : Option Addr) (cdv ct : Value) (us ws : List Value), us.length = n → ws.length = ks.length → bindArgs (PySem.W.fnOf x qual (defArgs st) (defBody st) (defScope st) .none kV doc pm an cdv ct) ⟨us, ks.zip ws⟩ = pure (ps.zip (us ++ permL is ws))) : KwB K fd ps n ks is where
  to := fun s us ws _ l1 l2 => by
    obtain ⟨oc, od, kV, doc, pm, an, cdv, ct, osl, rfl, _⟩ := F.ex
    exact BindsTo.of_eq (b kV doc pm an cdv ct us ws l1 l2)
  rel := fun r rz => r.append (valsPerm rz _)
end DL

set_option Elab.async false
set_option linter.all false
set_option maxRecDepth 100000
/-! DR16: methods and the making of instances by keywords alone, over data. -/
namespace DL
open PySem PySem.Spec PyProof.Rows L2
section
variable {X : Cx} {g : Bool} {k : Nat} {fa C : Addr} {fd : FuncData} {ps ks : List Str} {is : List Nat} {sp : DSp} {x m : Str} {p cpos apos : Pos} {o : Expr} {kws : List Keyword} {wo : DEnv → DH → WK → Prop} {w : DEnv → DH → (List D → DH → Prop) → Prop}
theorem le_methK (c : Cls X.K C) (hm : Meth X.K C m fa) (F : FnR g X.prog X.w X.K X.mg X.base CX0 k fa fd ps (liftSp X.K sp)) (hgd : g = true → X.A.guards = some []) (hr : Room k X.A) (hb : KwB X.K fd ps 1 ks is)
    (ho : PE X o (lift X.K wo)) (hp : plainB o = true) (hl : (apos.endLine == cpos.line) = true) (hkw : PK X kws (liftL X.K w)) (hall : (backToKw cpos (keywordEach kws X.env)).all (·.1.isSome) = true) (hks : (backToKw cpos (keywordEach kws X.env)).filterMap (·.1) = ks)
    (hpl : ((backTo cpos (starEach [] X.env)).any (·.1) || (backToKw cpos (keywordEach kws X.env)).any (·.1.isNone)) = false)
    (hfew : methodCallForm (([] : List Expr).length + kws.length) (backTo cpos (starEach [] X.env)) (backToKw cpos (keywordEach kws X.env)) = true) :
    PE X (.Call (.Attribute o m apos) [] kws cpos) (lift X.K fun ρ h Q => wo ρ h fun x h1 => ∃ a fs, x = .ref a ∧ h1 a = some (.ins C fs) ∧ fs.lookup m = none ∧ w ρ h1 fun ds h2 => ds.length = ks.length ∧ sp (.ref a :: permL is ds) h2 Q) :=
  pe_imp (pr_methK ho c hm F hgd hr hb hkw hall hks hpl (meth_evalK (attr_base hp) hfew hl)) fun σ H Q ⟨ρ, h, Qd, sr, hrr, w, p⟩ => ⟨ρ, h, _, sr, hrr, w, fun x h1 vx H1 e1 rx hr1 w1 => by
    obtain ⟨a, fs, rfl, ea, l, q⟩ := w1
    cases rx
    obtain ⟨dx, gs, eg, fr⟩ := hr1 _ _ ea
    refine ⟨a, dx, gs, rfl, eg, (fr.look (f := m)).2 l, ρ, h1, _, sr.ext e1, hr1, q, fun ds h2 vs H2 e2 rs hr2 q2 => ?_⟩
    exact ⟨rs.length.symm.trans q2.1, .ref a :: permL is ds, h2, Qd, .cons rfl (rs.perm is), hr2, q2.2, p.later (e1.trans e2)⟩⟩
theorem le_makeK (M : Mk X.K C fa) (F : FnR g X.prog X.w X.K X.mg X.base CX0 k fa fd ps (liftSp X.K sp)) (hgd : g = true → X.A.guards = some []) (hr : Room (k + 1) X.A) (hg : Gl X x) (hm : X.mg x = some (.ref C)) (hb : KwB X.K fd ps 1 ks is)
    (hkw : PK X kws (liftL X.K w)) (hall : (backToKw cpos (keywordEach kws X.env)).all (·.1.isSome) = true) (hks : (backToKw cpos (keywordEach kws X.env)).filterMap (·.1) = ks) (hdb : (x == ("__debug__" : Str)) = false)
    (hpl : ((backTo cpos (starEach [] X.env)).any (·.1) || (backToKw cpos (keywordEach kws X.env)).any (·.1.isNone)) = false) :
    PE X (.Call (.Name x p) [] kws cpos) (lift X.K fun ρ h Q => w ρ h fun ds h1 => ds.length = ks.length ∧ mkW C sp (permL is ds) h1 Q) :=
  pe_imp (pr_makeK M F hgd hr hg hm hb hkw hall hks hdb hpl) fun σ H Q ⟨ρ, h, Qd, sr, hrr, w, p⟩ => ⟨ρ, h, _, sr, hrr, w, fun ds h1 vs H1 e1 rs hr1 q => ⟨rs.length.symm.trans q.1, mk_ok (rs.perm is) hr1 q.2 (p.later e1)⟩⟩
end
end DL

set_option Elab.async false
set_option linter.all false
set_option maxRecDepth 100000
/-! DR17: what stands beside a list of keywords that all have names. -/
namespace DL
open PySem PySem.Spec PyProof.Rows L2
theorem kw_each {pos : Pos} {env : Env} : ∀ {kws : List Keyword} {ks : List Str}, kwNames kws ks = true →
    (backToKw pos (keywordEach kws env)).all (·.1.isSome) = true ∧ (backToKw pos (keywordEach kws env)).filterMap (·.1) = ks ∧ (backToKw pos (keywordEach kws env)).any (·.1.isNone) = false ∧ kws.length = ks.length
  | [], [], _ => ⟨rfl, rfl, rfl, rfl⟩
  | ⟨some x, v, p⟩ :: r, y :: ks, h => by
    have h0 : (decide (x = y) && kwNames r ks) = true := h
    have hr : kwNames r ks = true := (Bool.and_eq_true_iff.mp h0).2
    obtain rfl : x = y := of_decide_eq_true (Bool.and_eq_true_iff.mp h0).1
    obtain ⟨a, b, c, d⟩ := kw_each (pos := pos) (env := env) (kws := r) (ks := ks) hr
    refine ⟨?_, ?_, ?_, by rw [List.length_cons, List.length_cons, d]⟩
    · show ((some x).isSome && (backToKw pos (keywordEach r env)).all (·.1.isSome)) = true
      rw [a]; rfl
    · show List.filterMap _ ((some x, _) :: backToKw pos (keywordEach r env)) = _
      rw [List.filterMap_cons]
      show x :: (backToKw pos (keywordEach r env)).filterMap (·.1) = _
      rw [b]
    · show ((some x).isNone || (backToKw pos (keywordEach r env)).any (·.1.isNone)) = false
      rw [c]; rfl
  | [], _ :: _, h => by cases h
  | ⟨none, _, _⟩ :: _, _, h => by cases h
  | ⟨some _, _, _⟩ :: _, [], h => by cases h
theorem kw_plain {pos : Pos} {env : Env} {kws : List Keyword} {ks : List Str} (h : kwNames kws ks = true) : ((backTo pos (starEach [] env)).any (·.1) || (backToKw pos (keywordEach kws env)).any (·.1.isNone)) = false := by
  rw [(kw_each h).2.2.1]; rfl
theorem kw_form {pos : Pos} {env : Env} {kws : List Keyword} {ks : List Str} (h : kwNames kws ks = true) (hl : kws.length < 20) : methodCallForm (([] : List Expr).length + kws.length) (backTo pos (starEach [] env)) (backToKw pos (keywordEach kws env)) = true := by
  unfold methodCallForm
  rw [(kw_each h).1]
  have e : (backTo pos (starEach [] env)).all (fun x => !x.1) = true := rfl
  rw [e, Bool.true_and, Bool.true_and]
  refine decide_eq_true ?_
  rw [List.length_nil, Nat.zero_add]
  split <;> omega
end DL

set_option Elab.async false
set_option linter.all false
set_option maxRecDepth 100000
set_option maxHeartbeats 4000000
/-! DR3: enumerate of a tuple, walked. -/
namespace PySem
open Sem (wp)
open AutoSeq1 (wpAny_loadPart')
theorem enumT_new (l : Addr) (items : Array Value) (n : Nat) (dct : Option Addr) (sl : Array (Option Value)) :
    Meets (Builtin.«enumerate.__new__» ⟨[.type "enumerate", .ref l], []⟩) (fun _ R s => s.heap.get? l = some { cls := .type "tuple", dict := dct, data := .seq items n, slots := sl } ∧
      R (.ok (.ret (.ref (s.heap.push { cls := .type "tuple_iterator", data := .fields #[.ref l, .int 0 0] }).objs.size)))
        { s with heap := (s.heap.push { cls := .type "tuple_iterator", data := .fields #[.ref l, .int 0 0] }).push { cls := .type "enumerate", data := .fields #[.none, .bool false, .ref s.heap.objs.size, rawInt 0, .none, .none] } }) :=
  .of_wp fun prog w A R s h => by
    obtain ⟨hp, g, d, tk, os⟩ := s; obtain ⟨hl, h⟩ := h
    have sub := sub_enumerate
    have hT : Heap.IsTuple (Shared.heap ⟨hp, g, d, tk, os⟩) l items := ⟨_, hl, rfl, n, rfl⟩
    wp_walk using wpAny_loadPart' hl
    refine wpAny_stack_any fun st => wpAny_pure ?_
    split
    · rename_i c _ _ _ _ _
      cases (c == Value.type "enumerate") <;> (wp_walk using wpAny_loadPart' hl, wpAny_pyIter_tuple hT; exact ⟨_, rfl, h⟩)
    · wp_walk using wpAny_loadPart' hl, wpAny_pyIter_tuple hT
      exact ⟨_, rfl, h⟩
section
variable {prog : Program} {w : World} {A : Around} {E : Value → Shared → Prop} {s : Shared}
theorem enumT_call {l : Addr} {items : Array Value} {Q : Value → Shared → Prop} (hT : s.heap.IsTuple l items)
    (q : ∀ h', IsEnum h' (s.heap.objs.size + 1) s.heap.objs.size 0 .none → h'.IsTupleIter s.heap.objs.size l 0 → h'.objs.size = s.heap.objs.size + 2 →
      (∀ b o, s.heap.get? b = some o → h'.get? b = some o) → Q (.ref (s.heap.objs.size + 1)) { s with heap := h' }) :
    wpAny (model prog w) A (call (.type "enumerate") [.ref l]) Q E s := by
  obtain ⟨⟨c, dct, dt, sl⟩, hl, hc, n, hd⟩ := hT
  replace hc : c = .type "tuple" := hc
  replace hd : dt = .seq items n := hd
  subst hc hd
  refine callType_new F.called_enumerate (by decide) (F.typeCall_enumerate_1 _) (F.newCall_enumerate_1 _) (fun obj => F.args_object_init_2 obj _) F.entry_enumerate_new (enumT_new l items n dct sl) ⟨hl, ?_⟩
  have z1 : (s.heap.push { cls := .type "tuple_iterator", data := .fields #[.ref l, .int 0 0] }).objs.size = s.heap.objs.size + 1 := Heap.size_push ..
  show _ ∧ _
  rw [z1]
  have he : IsEnum ((s.heap.push { cls := .type "tuple_iterator", data := .fields #[.ref l, .int 0 0] }).push
      { cls := .type "enumerate", data := .fields #[.none, .bool false, .ref s.heap.objs.size, rawInt 0, .none, .none] }) (s.heap.objs.size + 1) s.heap.objs.size 0 .none := by
    have e := Heap.get?_push_size (s.heap.push { cls := .type "tuple_iterator", data := .fields #[.ref l, .int 0 0] })
      (o := { cls := .type "enumerate", data := .fields #[.none, .bool false, .ref s.heap.objs.size, rawInt 0, .none, .none] }) rfl
    rw [z1] at e; exact e
  exact ⟨⟨_, he, rfl⟩, q _ he ⟨_, Heap.get?_push_of_some _ (Heap.get?_push_size _ rfl), rfl, rfl⟩ (by rw [Heap.size_push, z1]) fun b o x => Heap.get?_push_of_some _ (Heap.get?_push_of_some _ x)⟩
end
end PySem
namespace DL
open PySem PySem.Spec PyProof.Rows L2
def IteT (K : PySem.W.Frag) (a : Addr) : It :=
  ⟨fun i H => ∃ (xs : List V) (x : V), SqT K H a xs ∧ xs[i]? = some x, fun i H v H' => ∃ T x, v = .ref T ∧ H T = none ∧ H' = upd H T (.tup [.int (i : Nat), x]) ∧ ∀ xs, SqT K H a xs → xs[i]? = some x, fun i H => ∃ xs : List V, SqT K H a xs ∧ xs.length ≤ i⟩
theorem turn_enumT {P : Program} {w : World} {K : PySem.W.Frag} {elts : List Expr} {kk : Nat} {tpos : Pos} (a e it : Addr) (hae : a ≠ e) (hai : a ≠ it) (items : Array Value) (xs : List V) (rv : Vals xs items.toList) :
    Turn P w K (.Tuple elts kk tpos) ⟨fun i H => SqT K H a xs ∧ i < xs.length, (IteT K a).yld, fun i H => SqT K H a xs ∧ xs.length = i⟩ [e, it] e (fun i h => (∃ old, IsEnum h e it ((i : Nat) : Int) old) ∧ h.IsTupleIter it a i ∧ e ≠ it) where
  mem := by simp
  obj := fun i h st b hb => by
    obtain ⟨⟨old, he⟩, ⟨o, ho, hc, hd⟩, _⟩ := st
    have e' : b = e ∨ b = it := by simpa using hb
    rcases e' with z | z
    · rw [z]; exact ⟨_, he, fun v q => nomatch q⟩
    · rw [z]; exact ⟨o, ho, fun v q => by rw [hd] at q; cases q⟩
  keep := fun i h h' st k => let ⟨⟨old, he⟩, hi, hne⟩ := st; ⟨⟨old, k e (by simp) _ he⟩, hi.at fun o q => k it (by simp) o q, hne⟩
  item := by
    intro X hP hw hK hc i pins s σ H E I hf st hg
    subst hP hw hK
    obtain ⟨⟨old, he⟩, hit, hne⟩ := st
    obtain ⟨hq, hlt⟩ := hg
    obtain ⟨its, rv2, p, hz⟩ := I.tuple hq
    have ht : s.heap.IsTuple a its.toArray := p
    obtain ⟨u, hu, ru⟩ := rv2.get (show xs[i]? = some xs[i] from List.getElem?_eq_getElem hlt)
    have hel : e < s.heap.objs.size := Heap.lt_size he
    have hil : it < s.heap.objs.size := by obtain ⟨_, q, _⟩ := hit; exact Heap.lt_size q
    have D := Draws.tuple (prog := X.prog) (w := X.w) (A := X.A.in1) (I.ok.hd hc) it a hai its.toArray
    have hn : i < its.toArray.size := by rw [List.size_toArray, ← rv2.length]; exact hlt
    refine wpAny_pyNext_enum_itemD D he ⟨hit, ht⟩ hn hne (by simp [hne, Ne.symm hae]) fun x h' tk hx ho st' hT hsz hk => ?_
    have hxu : x = u := by
      have : its.toArray[i]? = some u := by simpa using hu
      exact Option.some.inj (hx.symm.trans this)
    subst hxu
    refine ⟨_, rfl, wpAny_letOwnedTupleGo_enum (s := { s with heap := h', toks := tk + 1 }) ho fun h'' he' sb => ?_⟩
    have hT2 : h''.get? s.heap.objs.size = some { cls := .type "tuple", data := .seq #[.int i tk, x] } := (sb.2 _ (Nat.ne_of_gt hel)).trans hT
    have new : ObjOk X.prog X.w (upd H s.heap.objs.size (.tup [.int (i : Nat), xs[i]])) h'' s.heap.objs.size (.tup [.int (i : Nat), xs[i]]) :=
      ⟨by show 2 ≤ sizeLine; decide, [.int i tk, x], .cons ⟨_, rfl⟩ (.cons ru .nil), ⟨_, hT2, rfl, _, rfl⟩⟩
    have I1 : L2.Inv X pins σ (upd H s.heap.objs.size (.tup [.int (i : Nat), xs[i]])) { s with heap := h'', toks := tk + 1 } :=
      I.turnedNew (ch := [e, it]) (fun b ob hb q => (sb.2 b (fun z => hb (by simp [z]))).trans (hk b ob (fun z => hb (by simp [z])) (fun z => hb (by simp [z])) q)) hf (Nat.le_refl _) new
    refine ⟨.ref s.heap.objs.size, _, I1, rfl, ⟨_, xs[i], rfl, I.hok.fresh (Nat.le_refl _), rfl, fun ys hy => by rw [I.tuple_inj hy hq]; exact List.getElem?_eq_getElem hlt⟩, ⟨⟨x, ?_⟩, st'.1.at fun o q => (sb.2 it (Ne.symm hne)).trans q, hne⟩, fun b hb => ?_⟩
    · have e1 : ((i + 1 : Nat) : Int) = (i : Int) + 1 := by omega
      rw [e1]; exact he'
    · have hb' : b < s.heap.objs.size := by
        have e' : b = e ∨ b = it := by simpa using hb
        rcases e' with z | z
        · rw [z]; exact hel
        · rw [z]; exact hil
      rw [upd_ne (Nat.ne_of_lt hb')]
      exact (hf b hb).1
  done := by
    intro X hP hw hK hc i pins s σ H E I hf st hg
    subst hP hw hK
    obtain ⟨⟨old, he⟩, hit, hne⟩ := st
    obtain ⟨hq, hlt⟩ := hg
    obtain ⟨its, rv2, p, hz⟩ := I.tuple hq
    have ht : s.heap.IsTuple a its.toArray := p
    obtain ⟨f0, f1, f2, f3, f4, f5⟩ := hf it (by simp)
    have hl := rv2.length
    have D := Draws.tuple (prog := X.prog) (w := X.w) (A := X.A.in1) (I.ok.hd hc) it a hai its.toArray
    have hn : its.toArray.size = i := by rw [List.size_toArray, ← rv2.length]; exact hlt
    exact wpAny_pyNext_enum_endD D he ⟨by rw [hn]; exact hit, ht⟩ fun h' eb => ⟨rfl, I.turned (t' := s.toks) (fun b o hb q => eb b o hb q) f0 f1 f3 f4 f5⟩
  self := fun A i s Q E st h => let ⟨⟨_, he⟩, _⟩ := st; wpAny_pyIter_enum he h
def JeT (K : PySem.W.Frag) (a : Addr) (xs : List V) : It := ⟨fun i H => SqT K H a xs ∧ i < xs.length, (IteT K a).yld, fun i H => SqT K H a xs ∧ xs.length = i⟩
def iEnumT (K : PySem.W.Frag) (ta : TA) : TI := fun σ H R => ta σ H fun vs H1 => ∃ a xs, vs = [.ref a] ∧ ((SqL K H1 a xs ∧ R (Ite K a) H1) ∨ (SqT K H1 a xs ∧ R (JeT K a xs) H1))
theorem pi_enumT {X : Cx} {e : Expr} {ta : TA} {p pos tpos : Pos} {elts : List Expr} {kk : Nat} (hg : Gl X "enumerate") (hm : X.mg "enumerate" = none) (ha : PA X [e] ta) (hs : starEach [e] X.env = (false, eval e X.env) :: starEach [] X.env) :
    PI X (.Tuple elts kk tpos) (.Call (.Name "enumerate" p) [e] [] pos) (iEnumT X.K ta) := by
  refine ⟨fun pins s σ H R I h => ?_⟩
  refine Call_ (ld_blt I hg hm boot_enumerate (PyProof.Rows.callWith_type1 (thn (ha.run pos pins s σ H _ I h) fun us s1 ⟨vs, H1, I1, r1, q1⟩ => ?_) hs rfl))
  obtain ⟨a, xs, ex, q⟩ := q1
  subst ex
  have eu := Vals.ref1 r1
  subst eu
  have near : ∀ b, b ∈ [s1.heap.objs.size + 1, s1.heap.objs.size] → L2.FpOk X pins H1 b := fun b hb => by
    have e' : b = s1.heap.objs.size + 1 ∨ b = s1.heap.objs.size := by simpa using hb
    have hle : s1.heap.objs.size ≤ b := by rcases e' with z | z <;> omega
    exact I1.fpOk hle (I1.hok.fresh hle)
  rcases q with ⟨hq, q⟩ | ⟨hq, q⟩
  · obtain ⟨its, rv, p', hz⟩ := I1.list hq
    refine call_enumerate_list p'.isList fun h' he hit hsz hk => wpAny_pyIter_enum he ?_
    have I2 : L2.Inv X pins σ H1 { s1 with heap := h' } := I1.kept (t' := s1.toks) hk
    exact ⟨s1.heap.objs.size + 1, [s1.heap.objs.size + 1, s1.heap.objs.size], _, _, H1, rfl, I2, turn_enum a (s1.heap.objs.size + 1) s1.heap.objs.size, ⟨⟨.none, he⟩, hit, Nat.succ_ne_self _⟩, near, q⟩
  · obtain ⟨its, rv, p', hz⟩ := I1.tuple hq
    have ht : s1.heap.IsTuple a its.toArray := p'
    have hlt : a < s1.heap.objs.size := by obtain ⟨_, o, _⟩ := ht; exact Heap.lt_size o
    refine enumT_call ht fun h' he hit hsz hk => wpAny_pyIter_enum he ?_
    have I2 : L2.Inv X pins σ H1 { s1 with heap := h' } := I1.kept (t' := s1.toks) hk
    exact ⟨s1.heap.objs.size + 1, [s1.heap.objs.size + 1, s1.heap.objs.size], _, _, H1, rfl, I2, turn_enumT a (s1.heap.objs.size + 1) s1.heap.objs.size (Nat.ne_of_lt (Nat.lt_succ_of_lt hlt)) (Nat.ne_of_lt hlt) its.toArray xs (by simpa using rv), ⟨⟨.none, he⟩, hit, Nat.succ_ne_self _⟩, near, q⟩
end DL

set_option Elab.async false
set_option linter.all false
set_option maxRecDepth 100000
/-! DL8: what is walked; targets; comprehensions. -/
namespace DL
open PySem PySem.Spec PyProof.Rows L2

structure DWalk (K : PySem.W.Frag) (h1 : DH) (H1 : Hp) (J : It) (items : List D) (g : DH → Prop) : Prop where
  go : ∀ i h H, i < items.length → Ext h1 H1 h H → HR K h H → g h → J.go i H
  stop : ∀ h H, Ext h1 H1 h H → HR K h H → g h → J.stop items.length H
  yld : ∀ i h H x H', i < items.length → Ext h1 H1 h H → HR K h H → g h → J.yld i H x H' → ∃ d, items[i]? = some d ∧ VR K H' d x ∧ Ext h H h H' ∧ HR K h H'
abbrev WI := DEnv → DH → (List D → (DH → Prop) → DH → Prop) → Prop
def liftI (K : PySem.W.Frag) (w : WI) : TI := fun σ H R => ∃ ρ h Kd, SR K H ρ σ ∧ HR K h H ∧ w ρ h Kd ∧ ∀ items g h1 J H1, Ext h H h1 H1 → HR K h1 H1 → DWalk K h1 H1 J items g → Kd items g h1 → R J H1
theorem pi_imp {X : Cx} {tg e : Expr} {t t' : TI} (p : PI X tg e t) (k : ∀ σ H R, t' σ H R → t σ H R) : PI X tg e t' := ⟨fun pins s σ H R I h => p.run pins s σ H R I (k σ H R h)⟩
section
variable {K : PySem.W.Frag} {h1 : DH} {H1 : Hp}
theorem dw_tup {a : Addr} {xs : List D} {vs : List V} (hs : SqT K H1 a vs) (hv : VRs K H1 xs vs) : DWalk K h1 H1 (Itt K a) xs (fun _ => True) where
  go := fun i h H hi e hr _ => by
    have hl := hv.length
    exact ⟨vs, vs[i]'(by omega), e.tk.sqt hs, List.getElem?_eq_getElem _⟩
  stop := fun h H e hr _ => ⟨vs, e.tk.sqt hs, by rw [hv.length]; exact Nat.le_refl _⟩
  yld := fun i h H x H' hi e hr _ y => by
    obtain ⟨rfl, y⟩ := y
    have := y vs (e.tk.sqt hs)
    obtain ⟨d, a1, a2⟩ := hv.get' this
    exact ⟨d, a1, e.vr a2, Ext.refl _ _, hr⟩
theorem dw_lst {a : Addr} {xs : List D} : DWalk K h1 H1 (Itl K a) xs (fun h => h a = some (.lst xs)) where
  go := fun i h H hi e hr g => by
    obtain ⟨vs, b1, b2⟩ := hr _ _ g
    have hl := b2.length
    exact ⟨vs, vs[i]'(by omega), SqL.of b1, List.getElem?_eq_getElem _⟩
  stop := fun h H e hr g => by
    obtain ⟨vs, b1, b2⟩ := hr _ _ g
    exact ⟨vs, SqL.of b1, by rw [b2.length]; exact Nat.le_refl _⟩
  yld := fun i h H x H' hi e hr g y => by
    obtain ⟨rfl, y⟩ := y
    obtain ⟨vs, b1, b2⟩ := hr _ _ g
    obtain ⟨d, a1, a2⟩ := b2.get' (y vs (SqL.of b1))
    exact ⟨d, a1, a2, Ext.refl _ _, hr⟩
theorem rngD_get {lo : Int} {n i : Nat} (hi : i < n) : (rngD lo n)[i]? = some (.int (lo + i)) := by
  unfold rngD
  rw [List.getElem?_map, List.getElem?_range hi]
  rfl
theorem rngD_length {lo : Int} {n : Nat} : (rngD lo n).length = n := by unfold rngD; rw [List.length_map, List.length_range]
theorem dw_rng {lo : Int} {n : Nat} : DWalk K h1 H1 (Itr lo n) (rngD lo n) (fun _ => True) where
  go := fun i h H hi e hr _ => by rw [rngD_length] at hi; exact hi
  stop := fun h H e hr _ => by rw [rngD_length]; exact Nat.le_refl _
  yld := fun i h H x H' hi e hr _ y => by
    obtain ⟨rfl, rfl⟩ := y
    rw [rngD_length] at hi
    exact ⟨_, rngD_get hi, rfl, Ext.refl _ _, hr⟩
theorem enumD_get : ∀ {xs : List D} {k i : Nat}, (enumD k xs)[i]? = (xs[i]?).map fun x => .tup [.int ((k + i : Nat) : Int), x]
  | [], k, i => by simp [enumD]
  | x :: xs, k, 0 => by simp [enumD]
  | x :: xs, k, i + 1 => by
    unfold enumD
    rw [List.getElem?_cons_succ, List.getElem?_cons_succ, enumD_get, show k + 1 + i = k + (i + 1) by omega]
theorem enumD_length : ∀ {xs : List D} {k : Nat}, (enumD k xs).length = xs.length
  | [], _ => rfl
  | x :: xs, k => by unfold enumD; rw [List.length_cons, List.length_cons, enumD_length]
theorem new_pair {h : DH} {H : Hp} {T : Addr} {x y : V} {d e : D} (hr : HR K h H) (nT : H T = none) (rx : VR K H d x) (ry : VR K H e y) :
    VR K (upd H T (.tup [x, y])) (.tup [d, e]) (.ref T) ∧ Ext h H h (upd H T (.tup [x, y])) ∧ HR K h (upd H T (.tup [x, y])) := by
  have ex : Ext h H h (upd H T (.tup [x, y])) := Ext.laid hr nT
  exact ⟨⟨T, [x, y], rfl, TpT.of upd_same, .cons (ex.vr rx) (.cons (ex.vr ry) .nil)⟩, ex, hr.laid nT⟩
theorem dw_enumL {a : Addr} {xs : List D} : DWalk K h1 H1 (Ite K a) (enumD 0 xs) (fun h => h a = some (.lst xs)) where
  go := fun i h H hi e hr g => by
    rw [enumD_length] at hi
    obtain ⟨vs, b1, b2⟩ := hr _ _ g
    have hl := b2.length
    exact ⟨vs, vs[i]'(by omega), SqL.of b1, List.getElem?_eq_getElem _⟩
  stop := fun h H e hr g => by
    obtain ⟨vs, b1, b2⟩ := hr _ _ g
    exact ⟨vs, SqL.of b1, by rw [enumD_length, b2.length]; exact Nat.le_refl _⟩
  yld := fun i h H x H' hi e hr g y => by
    obtain ⟨T, v, rfl, nT, rfl, y⟩ := y
    obtain ⟨vs, b1, b2⟩ := hr _ _ g
    obtain ⟨d, a1, a2⟩ := b2.get' (y vs (SqL.of b1))
    obtain ⟨c1, c2, c3⟩ := new_pair hr nT (d := .int (i : Nat)) (x := .int (i : Nat)) rfl a2
    exact ⟨_, by rw [enumD_get, a1, Option.map_some, Nat.zero_add], c1, c2, c3⟩
theorem dw_enumT {a : Addr} {xs : List D} {vs : List V} (hs : SqT K H1 a vs) (hv : VRs K H1 xs vs) : DWalk K h1 H1 (JeT K a vs) (enumD 0 xs) (fun _ => True) where
  go := fun i h H hi e hr g => by
    rw [enumD_length] at hi
    exact ⟨e.tk.sqt hs, by rw [← hv.length]; exact hi⟩
  stop := fun h H e hr g => ⟨e.tk.sqt hs, by rw [enumD_length, hv.length]⟩
  yld := fun i h H x H' hi e hr g y => by
    obtain ⟨T, v, rfl, nT, rfl, y⟩ := y
    obtain ⟨d, a1, a2⟩ := hv.get' (y vs (e.tk.sqt hs))
    obtain ⟨c1, c2, c3⟩ := new_pair hr nT (d := .int (i : Nat)) (x := .int (i : Nat)) rfl (e.vr a2)
    exact ⟨_, by rw [enumD_get, a1, Option.map_some, Nat.zero_add], c1, c2, c3⟩
theorem zipD_get : ∀ {xs ys : List D} {i : Nat} {x y : D}, xs[i]? = some x → ys[i]? = some y → (zipD xs ys)[i]? = some (.tup [x, y])
  | [], _, _, _, _, h, _ => by simp at h
  | _ :: _, [], _, _, _, _, h => by simp at h
  | x :: xs, y :: ys, 0, _, _, h, h' => by simp at h h'; subst h; subst h'; rfl
  | x :: xs, y :: ys, i + 1, _, _, h, h' => by
    unfold zipD
    rw [List.getElem?_cons_succ]
    exact zipD_get (by simpa using h) (by simpa using h')
theorem zipD_length : ∀ {xs ys : List D}, (zipD xs ys).length = min xs.length ys.length
  | [], _ => by simp [zipD]
  | _ :: _, [] => by simp [zipD]
  | x :: xs, y :: ys => by
    unfold zipD
    rw [List.length_cons, zipD_length, List.length_cons, List.length_cons]
    omega
end
section
variable {X : Cx}
/-- a list or a tuple, walked -/
def iSeq (K : PySem.W.Frag) (tl : TE) : TI := fun σ H R => tl σ H fun x H1 => (∃ a, x = .ref a ∧ (∃ xs, SqL K H1 a xs) ∧ R (Itl K a) H1) ∨ ∃ a, x = .ref a ∧ (∃ xs, SqT K H1 a xs) ∧ R (Itt K a) H1
theorem pi_seq {tg l : Expr} {tl : TE} (hl : PE X l tl) : PI X tg l (iSeq X.K tl) := by
  refine ⟨fun pins s σ H R I h => thn (hl.run pins s σ H _ I h) fun v s1 ⟨x, H1, I1, r1, q1⟩ => ?_⟩
  have fresh : ∀ b ∈ [s1.heap.objs.size], FpOk X pins H1 b := fun b hb => by
    have e : b = s1.heap.objs.size := by simpa using hb
    subst e
    exact I1.fpOk (Nat.le_refl _) (I1.hok.fresh (Nat.le_refl _))
  rcases q1 with ⟨a, rfl, ⟨xs, hq⟩, q⟩ | ⟨a, rfl, ⟨xs, hq⟩, q⟩
  · cases r1
    obtain ⟨its, rv, p, hz⟩ := I1.list hq
    exact wpAny_pyIter_list p.isList ⟨s1.heap.objs.size, [s1.heap.objs.size], _, _, H1, rfl, I1.kept (t' := s1.toks) fun b o e => Heap.get?_push_of_some _ e, turn_list a _, ⟨_, Heap.get?_push_size _ rfl, rfl, rfl⟩, fresh, q⟩
  · cases r1
    obtain ⟨its, rv, p, hz⟩ := I1.tuple hq
    exact wpAny_pyIter_tuple (show s1.heap.IsTuple a its.toArray from p) ⟨s1.heap.objs.size, [s1.heap.objs.size], _, _, H1, rfl, I1.kept (t' := s1.toks) fun b o e => Heap.get?_push_of_some _ e, turn_tuple a _, ⟨_, Heap.get?_push_size _ rfl, rfl, rfl⟩, fresh, q⟩
theorem li_seq {tg e : Expr} {we : DEnv → DH → WK → Prop} (he : PE X e (lift X.K we)) : PI X tg e (liftI X.K fun ρ h k => we ρ h fun d h1 => seqW d h1 k) :=
  pi_imp (pi_seq he) fun σ H R ⟨ρ, h, Kd, sr, hr, w, p⟩ => ⟨ρ, h, _, sr, hr, w, fun d h1 v H1 e1 rd hr1 w1 => by
    unfold seqW at w1
    split at w1
    · obtain ⟨a, vs, rfl, hs, hv⟩ := rd
      exact .inr ⟨a, rfl, ⟨vs, hs.sq⟩, p _ _ h1 _ H1 e1 hr1 (dw_tup hs.sq hv) w1⟩
    · obtain ⟨xs, e, w2⟩ := w1
      cases rd
      obtain ⟨vs, b1, b2⟩ := hr1 _ _ e
      exact .inl ⟨_, rfl, ⟨vs, SqL.of b1⟩, p _ _ h1 _ H1 e1 hr1 dw_lst w2⟩
    · exact w1.elim⟩
theorem li_rng1 {tg a : Expr} {q pos : Pos} {wa : DEnv → DH → WK → Prop} (hg : Gl X "range") (hm : X.mg "range" = none) (ha : PE X a (lift X.K wa)) (na : starEach [a] X.env = (false, eval a X.env) :: starEach [] X.env) :
    PI X tg (.Call (.Name "range" q) [a] [] pos) (liftI X.K fun ρ h k => wa ρ h fun d h1 => intW d fun j => (-(2 ^ 62) ≤ j ∧ j < 2 ^ 62) ∧ k (rngD 0 j.toNat) (fun _ => True) h1) :=
  pi_imp (pi_range1 hg hm (pa_cons ha pa_nil na) na) fun σ H R ⟨ρ, h, Kd, sr, hr, w, p⟩ => ⟨ρ, h, _, sr, hr, w, fun d h1 v H1 e1 rd hr1 w1 => by
    obtain ⟨j, rfl, ⟨h3, h4⟩, w2⟩ := intW_get w1
    cases rd
    exact ⟨j, rfl, h3, h4, p _ _ h1 _ H1 e1 hr1 dw_rng w2⟩⟩
theorem li_rng2 {tg a b : Expr} {q pos : Pos} {wa wb : DEnv → DH → WK → Prop} (hg : Gl X "range") (hm : X.mg "range" = none) (ha : PE X a (lift X.K wa)) (hb : PE X b (lift X.K wb)) (na : starEach [a, b] X.env = (false, eval a X.env) :: starEach [b] X.env) (nb : starEach [b] X.env = (false, eval b X.env) :: starEach [] X.env) :
    PI X tg (.Call (.Name "range" q) [a, b] [] pos) (liftI X.K fun ρ h k => wa ρ h fun x h1 => wb ρ h1 fun y h2 => intW x fun i => intW y fun j => (-(2 ^ 62) ≤ i ∧ i < 2 ^ 62 ∧ -(2 ^ 62) ≤ j ∧ j < 2 ^ 62) ∧ k (rngD i (j - i).toNat) (fun _ => True) h2) :=
  pi_imp (pi_range2 hg hm (pa_cons ha (pa_cons hb pa_nil nb) na) (by rw [na, nb]; rfl) nb) fun σ H R ⟨ρ, h, Kd, sr, hr, w, p⟩ => ⟨ρ, h, _, sr, hr, w, fun d h1 v H1 e1 rd hr1 w1 => ⟨ρ, h1, _, sr.ext e1, hr1, w1, fun d2 h2 v2 H2 e2 rd2 hr2 w2 => by
    obtain ⟨i, rfl, w3⟩ := intW_get w2
    obtain ⟨j, rfl, b, w4⟩ := intW_get w3
    cases rd; cases rd2
    exact ⟨i, j, rfl, b, p _ _ h2 _ H2 (e1.trans e2) hr2 dw_rng w4⟩⟩⟩
theorem li_enum {e : Expr} {elts : List Expr} {kk : Nat} {tpos q pos : Pos} {we : DEnv → DH → WK → Prop} (hg : Gl X "enumerate") (hm : X.mg "enumerate" = none) (he : PE X e (lift X.K we)) (ne : starEach [e] X.env = (false, eval e X.env) :: starEach [] X.env) :
    PI X (.Tuple elts kk tpos) (.Call (.Name "enumerate" q) [e] [] pos) (liftI X.K fun ρ h k => we ρ h fun d h1 => seqW d h1 fun xs g h2 => k (enumD 0 xs) g h2) :=
  pi_imp (pi_enumT hg hm (pa_cons he pa_nil ne) ne) fun σ H R ⟨ρ, h, Kd, sr, hr, w, p⟩ => ⟨ρ, h, _, sr, hr, w, fun d h1 v H1 e1 rd hr1 w1 => by
    unfold seqW at w1
    split at w1
    · obtain ⟨a, vs, rfl, hs, hv⟩ := rd
      exact ⟨a, vs, rfl, .inr ⟨hs.sq, p _ _ h1 _ H1 e1 hr1 (dw_enumT hs.sq hv) w1⟩⟩
    · obtain ⟨xs, e, w2⟩ := w1
      cases rd
      obtain ⟨vs, b1, b2⟩ := hr1 _ _ e
      exact ⟨_, vs, rfl, .inl ⟨SqL.of b1, p _ _ h1 _ H1 e1 hr1 dw_enumL w2⟩⟩
    · exact w1.elim⟩
theorem dw_zipL {K : PySem.W.Frag} {h1 : DH} {H1 : Hp} {a b : Addr} {xs ys : List D} : DWalk K h1 H1 (Itz K a b) (zipD xs ys) (fun h => h a = some (.lst xs) ∧ h b = some (.lst ys)) where
  go := fun i h H hi e hr g => by
    rw [zipD_length] at hi
    obtain ⟨vs, b1, b2⟩ := hr _ _ g.1
    obtain ⟨ws, c1, c2⟩ := hr _ _ g.2
    have hl := b2.length
    have hl2 := c2.length
    exact ⟨vs, ws, vs[i]'(by omega), ws[i]'(by omega), SqL.of b1, SqL.of c1, List.getElem?_eq_getElem _, List.getElem?_eq_getElem _⟩
  stop := fun h H e hr g => by
    obtain ⟨vs, b1, b2⟩ := hr _ _ g.1
    obtain ⟨ws, c1, c2⟩ := hr _ _ g.2
    refine ⟨vs, ws, SqL.of b1, SqL.of c1, ?_⟩
    rw [zipD_length, b2.length, c2.length]
    omega
  yld := fun i h H x H' hi e hr g y => by
    obtain ⟨T, v, u, rfl, nT, rfl, y, y2⟩ := y
    obtain ⟨vs, b1, b2⟩ := hr _ _ g.1
    obtain ⟨ws, c1, c2⟩ := hr _ _ g.2
    obtain ⟨d, a1, a2⟩ := b2.get' (y vs (SqL.of b1))
    obtain ⟨d2, a3, a4⟩ := c2.get' (y2 ws (SqL.of c1))
    obtain ⟨z1, z2, z3⟩ := new_pair hr nT a2 a4
    exact ⟨_, zipD_get a1 a3, z1, z2, z3⟩
theorem dw_zipT {K : PySem.W.Frag} {h1 : DH} {H1 : Hp} {a b : Addr} {xs ys : List D} {vs ws : List V} (hs : SqT K H1 a vs) (hv : VRs K H1 xs vs) (hs2 : SqT K H1 b ws) (hv2 : VRs K H1 ys ws) : DWalk K h1 H1 (RZ.ItzT K a b) (zipD xs ys) (fun _ => True) where
  go := fun i h H hi e hr g => by
    rw [zipD_length] at hi
    have hl := hv.length
    have hl2 := hv2.length
    exact ⟨vs, ws, vs[i]'(by omega), ws[i]'(by omega), e.tk.sqt hs, e.tk.sqt hs2, List.getElem?_eq_getElem _, List.getElem?_eq_getElem _⟩
  stop := fun h H e hr g => by
    refine ⟨vs, ws, e.tk.sqt hs, e.tk.sqt hs2, ?_⟩
    rw [zipD_length, hv.length, hv2.length]
    omega
  yld := fun i h H x H' hi e hr g y => by
    obtain ⟨T, v, u, rfl, nT, rfl, y, y2⟩ := y
    obtain ⟨d, a1, a2⟩ := hv.get' (y vs (e.tk.sqt hs))
    obtain ⟨d2, a3, a4⟩ := hv2.get' (y2 ws (e.tk.sqt hs2))
    obtain ⟨z1, z2, z3⟩ := new_pair hr nT (e.vr a2) (e.vr a4)
    exact ⟨_, zipD_get a1 a3, z1, z2, z3⟩
theorem li_zip {e e2 : Expr} {elts : List Expr} {kk : Nat} {tpos q pos : Pos} {we we2 : DEnv → DH → WK → Prop} (hg : Gl X "zip") (hm : X.mg "zip" = none) (he : PE X e (lift X.K we)) (he2 : PE X e2 (lift X.K we2))
    (na : starEach [e, e2] X.env = (false, eval e X.env) :: starEach [e2] X.env) (nb : starEach [e2] X.env = (false, eval e2 X.env) :: starEach [] X.env) :
    PI X (.Tuple elts kk tpos) (.Call (.Name "zip" q) [e, e2] [] pos) (liftI X.K fun ρ h k => we ρ h fun x h1 => we2 ρ h1 fun y h2 => zipW x y h2 k) :=
  pi_imp (RZ.pi_zipA hg hm (pa_cons he (pa_cons he2 pa_nil nb) na) na (by rw [nb]; rfl)) fun σ H R ⟨ρ, h, Kd, sr, hr, w, p⟩ => ⟨ρ, h, _, sr, hr, w, fun d h1 v H1 e1 rd hr1 w1 => ⟨ρ, h1, _, sr.ext e1, hr1, w1, fun d2 h2 v2 H2 e2 rd2 hr2 w2 => by
    have rd := e2.vr rd
    unfold zipW at w2
    split at w2
    · obtain ⟨a, vs, rfl, hs, hv⟩ := rd
      obtain ⟨b, ws, rfl, hs2, hv2⟩ := rd2
      exact ⟨a, b, vs, ws, rfl, .inr ⟨hs.sq, hs2.sq, p _ _ h2 _ H2 (e1.trans e2) hr2 (dw_zipT hs.sq hv hs2.sq hv2) w2⟩⟩
    · obtain ⟨xs, ys, e3, e4, w3⟩ := w2
      cases rd; cases rd2
      obtain ⟨vs, b1, b2⟩ := hr2 _ _ e3
      obtain ⟨ws, c1, c2⟩ := hr2 _ _ e4
      exact ⟨_, _, vs, ws, rfl, .inl ⟨SqL.of b1, SqL.of c1, p _ _ h2 _ H2 (e1.trans e2) hr2 dw_zipL w3⟩⟩
    · exact w2.elim⟩⟩

/-! ### targets -/
abbrev WG := D → DEnv → (DEnv → Prop) → Prop
/-- a target: names alone; the heap is as it was -/
def ctS : CT → List Nat
  | .name i => [i]
  | .tup is => is
def liftG (K : PySem.W.Frag) (is : List Nat) (w : WG) : TG := fun v σ H Q => ∃ d ρ h Qd, VR K H d v ∧ SR K H ρ σ ∧ HR K h H ∧ w d ρ Qd ∧ ∀ ρ' σ', SR K H ρ' σ' → (∀ vs, (∀ i ∈ is, i ∈ vs) → wipe σ' vs = wipe σ vs) → Qd ρ' → Q σ' H
theorem pg_imp {tg : Expr} {t t' : TG} (p : PG X tg t) (k : ∀ v σ H Q, t' v σ H Q → t v σ H Q) : PG X tg t' := ⟨fun pins s σ H v u Q I r h => p.run pins s σ H v u Q I r (k v σ H Q h)⟩
theorem lg_name {i : Nat} {x : Str} {pos : Pos} (hN : X.N.Nodup) (hi : X.N[i]? = some x) (hx : Loc X.env.scope x) (hf : X.fn x = true ∨ X.env.scope.names.lookup x = some .local) : PG X (.Name x pos) (liftG X.K [i] fun d ρ k => k (ρ.set i (some d))) :=
  pg_imp (pg_name hN hi hx hf) fun v σ H Q ⟨d, ρ, h, Qd, rd, sr, hr, w, p⟩ => p _ _ (sr.set i rd) (fun vs hv => wipe_set (hv i (by simp))) w
def tgsT : List Nat → TGs
  | [] => gNil
  | i :: is => gCons (gName i) (tgsT is)
theorem tgsT_ok {K : PySem.W.Frag} {H : Hp} {Qd : DEnv → Prop} {Q : L2.St → Hp → Prop} {σ0 : L2.St} {all : List Nat} (p : ∀ ρ' σ', SR K H ρ' σ' → (∀ vs, (∀ i ∈ all, i ∈ vs) → wipe σ' vs = wipe σ0 vs) → Qd ρ' → Q σ' H) : ∀ {is : List Nat} {ds : List D} {vs : List V} {ρ : DEnv} {σ : L2.St}, (∀ i ∈ is, i ∈ all) → (∀ vs, (∀ i ∈ all, i ∈ vs) → wipe σ vs = wipe σ0 vs) → VRs K H ds vs → SR K H ρ σ → ds.length = is.length → Qd (setAll ρ is ds) → tgsT is vs σ H Q
  | [], [], vs, ρ, σ, _, hw, r, sr, _, q => ⟨r, p _ _ sr hw q⟩
  | [], _ :: _, _, _, _, _, _, _, _, hl, _ => by simp at hl
  | _ :: _, [], _, _, _, _, _, _, _, hl, _ => by simp at hl
  | i :: is, d :: ds, vs, ρ, σ, hi, hw, r, sr, hl, q => by
    obtain ⟨v, t, e, r1, r2⟩ := r
    exact ⟨v, t, e, tgsT_ok p (fun j hj => hi j (List.mem_cons_of_mem _ hj)) (fun ws hs => by rw [wipe_set (hs i (hi i List.mem_cons_self))]; exact hw ws hs) r2 (sr.set i r1) (by simpa using hl) q⟩
theorem assign_len : ∀ {es : List Expr} {env : Env}, (assignEach es env).length = es.length
  | [], _ => rfl
  | e :: es, env => by cases e <;> simp [assignEach, assign_len]
theorem lg_names {N : List Str} {sc : Scope} {top : Str → Bool} (hNX : X.N = N) (hsc : X.env.scope = sc) (hN : N.Nodup) (ht : ∀ x, top x = true → X.fn x = true) : ∀ {is : List Nat} {es : List Expr}, chkNs N top sc is es = true →
    PGs X es (tgsT is) ∧ (assignEach es X.env).findIdx? (·.1) = none ∧ es.length = is.length ∧ (assignEach es X.env).map (·.2) = es.map fun e => assign e X.env
  | [], [], _ => ⟨pgs_nil, rfl, rfl, rfl⟩
  | [], _ :: _, h => by simp [chkNs] at h
  | _ :: _, [], h => by simp [chkNs] at h
  | i :: is, e :: es, h => by
    have h' : chkN N top sc i e = true ∧ chkNs N top sc is es = true := by simpa [chkNs] using h
    obtain ⟨a1, a2, a3, a4⟩ := lg_names hNX hsc hN ht h'.2
    cases e with
    | Name x pos =>
      have h2 : N[i]? = some x ∧ storeB top sc x = true := by simpa [chkN] using h'.1
      have hx : L2.Loc X.env.scope x ∧ (X.fn x = true ∨ X.env.scope.names.lookup x = some .local) := by
        have h3 := h2.2
        unfold storeB at h3
        rw [hsc]
        unfold L2.Loc
        split at h3
        · rename_i q; exact ⟨.inl q, .inr q⟩
        · rename_i q; exact ⟨.inr q, .inl (ht x h3)⟩
        · cases h3
      refine ⟨pgs_cons (pg_name (by rw [hNX]; exact hN) (by rw [hNX]; exact h2.1) hx.1 hx.2) a1 rfl, ?_, by simp [a3], ?_⟩
      · show List.findIdx? (·.1) ((false, assign (.Name x pos) X.env) :: assignEach es X.env) = none
        rw [List.findIdx?_cons]
        simp [a2]
      · show assign (.Name x pos) X.env :: (assignEach es X.env).map (·.2) = _
        rw [a4]
        rfl
    | _ => exact absurd h'.1 Bool.false_ne_true
theorem lg_tup {N : List Str} {sc : Scope} {top : Str → Bool} (hc : X.calm = true) (hNX : X.N = N) (hsc : X.env.scope = sc) (hN : N.Nodup) (ht : ∀ x, top x = true → X.fn x = true) {is : List Nat} {es : List Expr} {k : Nat} {pos : Pos} (h : chkNs N top sc is es = true) :
    PG X (.Tuple es k pos) (liftG X.K is fun d ρ k => match d with | .tup ds => ds.length = is.length ∧ k (setAll ρ is ds) | _ => False) := by
  obtain ⟨a1, a2, a3, _⟩ := lg_names hNX hsc hN ht h
  refine pg_imp (pg_tup hc a1 (n := is.length) (by rw [assign_len, a3]) a2) fun v σ H Q ⟨d, ρ, h, Qd, rd, sr, hr, w, p⟩ => ?_
  dsimp only at w
  split at w
  · obtain ⟨a, vs, rfl, hs, hv⟩ := rd
    exact ⟨a, vs, rfl, hs.sq, by rw [← hv.length]; exact w.1, tgsT_ok p (fun _ h => h) (fun _ _ => rfl) hv sr w.1 w.2⟩
  · exact w.elim
theorem lg_ok {N : List Str} {sc : Scope} {top : Str → Bool} (hc : X.calm = true) (hNX : X.N = N) (hsc : X.env.scope = sc) (hN : N.Nodup) (ht : ∀ x, top x = true → X.fn x = true) {tg : CT} {e : Expr} (h : chkT N top sc tg e = true) :
    PG X e (liftG X.K (ctS tg) fun d ρ k => tgtW tg d ρ k) := by
  cases tg with
  | name i =>
    have h : chkN N top sc i e = true := h
    cases e with
    | Name x pos =>
      have h2 : N[i]? = some x ∧ storeB top sc x = true := by simpa [chkN] using h
      have hx : L2.Loc X.env.scope x ∧ (X.fn x = true ∨ X.env.scope.names.lookup x = some .local) := by
        have h3 := h2.2
        unfold storeB at h3
        rw [hsc]
        unfold L2.Loc
        split at h3
        · rename_i q; exact ⟨.inl q, .inr q⟩
        · rename_i q; exact ⟨.inr q, .inl (ht x h3)⟩
        · cases h3
      exact lg_name (by rw [hNX]; exact hN) (by rw [hNX]; exact h2.1) hx.1 hx.2
    | _ => exact absurd h Bool.false_ne_true
  | tup is =>
    cases e with
    | Tuple es k pos =>
      have h : chkNs N top sc is es = true := h
      refine pg_imp (lg_tup hc hNX hsc hN ht h) fun v σ H Q ⟨d, ρ, h, Qd, rd, sr, hr, w, p⟩ => ⟨d, ρ, h, Qd, rd, sr, hr, ?_, p⟩
      cases d with
      | tup ds => exact w
      | _ => exact w.elim
    | _ => exact absurd h Bool.false_ne_true
end
end DL

set_option Elab.async false
set_option linter.all false
set_option maxRecDepth 100000
/-! DL9: list comprehensions. -/
namespace DL
open PySem PySem.Spec PyProof.Rows L2
section
variable {K : PySem.W.Frag} {h0 h : DH} {H0 H : Hp} {p : Addr}
/-- an own object that the abstract heap does not speak of is written -/
theorem HR.own (r : HR K h H) (np : ¬ FP h H p) {xs : List V} (e : H p = some (.lst xs)) {o : HO} : HR K h (upd H p o) := fun a u q => by
  have ha : a ≠ p := fun z => by subst z; exact np (.inl (by rw [q]; exact fun z => nomatch z))
  refine (r a u q).keep ⟨fun b ys z => by rw [upd_ne (fun y => by subst y; rw [e] at z; cases z)]; exact z, fun b ob v _ z => by rw [upd_ne (fun y => by subst y; rw [e] at z; cases z)]; exact z⟩ (fun b v hb z => ?_) (fun _ _ _ z => z) fun _ z => z
  rw [upd_ne]
  · exact z
  rcases hb with rfl | ⟨rfl, pr⟩
  · exact ha
  · rintro rfl
    exact np (.inr ⟨a, q, pr⟩)
theorem Ext.own (x : Ext h0 H0 h H) (n0 : H0 p = none) (np : ¬ FP h H p) {o : HO} : Ext h0 H0 h (upd H p o) where
  tup := fun a xs e => by rw [upd_ne (ne_of_none e n0)]; exact x.tup a xs e
  frz := fun a ob u e => by rw [upd_ne (ne_of_none e n0)]; exact x.frz a ob u e
  frame := fun b ob e n => by rw [upd_ne (ne_of_none e n0)]; exact x.frame b ob e n
  there := fun b e => by
    by_cases z : b = p
    · subst z; exact absurd n0 e
    · rw [upd_ne z]; exact x.there b e
  fp := fun b f => by
    refine x.fp b ?_
    rcases f with f | ⟨a, e, q⟩
    · exact .inl f
    · have ha : a ≠ p := fun z => by subst z; exact np (.inl (by rw [e]; exact fun z => nomatch z))
      obtain ⟨a0, a1, k, y, z⟩ := q
      rw [upd_ne ha] at y
      exact .inr ⟨a, e, a0, a1, k, y, z⟩
/-- .. is spoken of from now on -/
theorem HR.adopt (r : HR K h H) (np : ¬ FP h H p) {xs : List D} {vs : List V} (e : H p = some (.lst vs)) (q : VRs K H xs vs) : HR K (dupd h p (.lst xs)) H := fun a u z => by
  by_cases y : a = p
  · subst y
    rw [dupd_same] at z
    cases z
    exact ⟨vs, e, q⟩
  · rw [dupd_ne y] at z
    refine (r a u z).keep ⟨fun _ _ e => e, fun _ _ _ _ e => e⟩ (fun _ _ _ e => e) (fun b ex pr e => ?_) fun c e => ?_
    rw [dupd_ne]
    · exact e
    rintro rfl
    subst ex
    exact np (.inr ⟨a, z, pr⟩)
    by_cases q : c = p
    · subst q; rw [dupd_same] at e; cases e
    · rwa [dupd_ne q] at e
theorem Ext.adopt (x : Ext h0 H0 h H) (n0 : H0 p = none) {xs : List D} : Ext h0 H0 (dupd h p (.lst xs)) H :=
  ⟨x.tup, x.frz, x.frame, x.there, fun b f => by
    rcases f with f | ⟨a, e, q⟩
    · by_cases z : b = p
      · subst z; exact .inr n0
      · rw [dupd_ne z] at f; exact x.fp b (.inl f)
    · by_cases z : a = p
      · subst z; rw [dupd_same] at e; cases e
      · rw [dupd_ne z] at e; exact x.fp b (.inr ⟨a, e, q⟩)⟩
theorem not_fp (x : Ext h0 H0 h H) (np : ¬ FP h0 H0 p) {o : HO} (e : H0 p = some o) : ¬ FP h H p := fun f => (x.fp p f).elim np fun z => by rw [e] at z; cases z
end
theorem lcW_g {turn : D → DH → (Option D → DH → Prop) → Prop} {g : DH → Prop} {xs : List D} {h : DH} {Q : List D → DH → Prop} (w : lcW turn g xs h Q) : g h := by
  cases xs with
  | nil => exact w.1
  | cons x xs => exact w.1
section
variable {X : Cx}
theorem le_lc {elt t it : Expr} {ifs : List Expr} {scope : Scope} {own : List (Str × Nat)} {pos : Pos} {is : List Nat} {wi : WI} {wt : WG} {wc : DEnv → DH → (Bool → DH → Prop) → Prop} {we : DEnv → DH → WK → Prop}
    (hown : ∀ i ∈ is, i ∈ own.map (·.2)) {σ : L2.St} {H : Hp} {Q : VK}
    (l : lift X.K (fun ρ h Q => wi ρ h fun xs g h1 => xs.length ≤ 16777216 ∧ lcW (fun x h2 R => wt x (dwipe ρ (own.map (·.2))) fun ρ2 => wc ρ2 h2 fun b h3 => iteW b (we ρ2 h3 fun y h4 => R (some y) h4) (R none h3)) g xs h1 fun ys h5 => ∀ p, h5 p = none → Q (.ref p) (dupd h5 p (.lst ys))) σ H Q) :
    tLc (liftI X.K wi) (liftG X.K is wt) (liftB X.K wc) (lift X.K we) (own.map (·.2)) σ H Q := by
  obtain ⟨ρ, h, Qd, sr, hr, w, p⟩ := l
  refine ⟨ρ, h, _, sr, hr, w, fun items g h1 J H1 e1 hr1 dw w1 da nD => ?_⟩
  obtain ⟨hz, w1⟩ := w1
  generalize hturn : (fun x h2 (R : Option D → DH → Prop) => wt x (dwipe ρ (own.map (·.2))) fun ρ2 => wc ρ2 h2 fun b h3 => iteW b (we ρ2 h3 fun y h4 => R (some y) h4) (R none h3)) = turn at w1
  have hw : Walk J items.length (fun H => ∃ h, Ext h1 H1 h H ∧ HR X.K h H ∧ g h) J.yld := ⟨fun i H hi ⟨h, e, r, q⟩ => dw.go i h H hi e r q, fun H ⟨h, e, r, q⟩ => dw.stop h H e r q, fun _ _ _ _ _ _ y => y⟩
  have nfp : ¬ FP h1 (upd H1 da (.lst [])) da := by
    rintro (f | ⟨a, e, q⟩)
    · exact f (hr1.none_of nD)
    · obtain ⟨xs, z⟩ := hr1.priv_some e (priv_upd nD (hr1.some_of e) q)
      rw [nD] at z; cases z
  refine lc_it hw (fun i H => ∃ h acc vacc, Ext h1 H1 h H ∧ HR X.K h H ∧ H da = some (.lst vacc) ∧ VRs X.K H acc vacc ∧ ¬ FP h H da ∧ acc.length ≤ i ∧ lcW turn g (items.drop i) h fun ys h5 => ∀ p, h5 p = none → Qd (.ref p) (dupd h5 p (.lst (acc ++ ys))))
    ⟨h1, [], [], Ext.laid hr1 nD, hr1.laid nD, upd_same, rfl, nfp, Nat.le_refl _, w1⟩ (fun i H _ ⟨h, acc, vacc, e, r, _, _, _, _, w⟩ => ⟨h, e, r, lcW_g w⟩) ?_ ?_
  · rintro i x H2 H3 hi ⟨h2, acc, vacc, e2, hr2, hD, ra, nf, hl, w2⟩ y
    rw [List.drop_eq_getElem_cons hi] at w2
    obtain ⟨wg, w2⟩ := w2
    obtain ⟨d, hd, rd, e3, hr3⟩ := dw.yld i h2 H2 x H3 hi e2 hr2 wg y
    rw [List.getElem?_eq_getElem hi] at hd
    obtain rfl := Option.some.inj hd
    subst hturn
    refine ⟨_, dwipe ρ (own.map (·.2)), h2, _, rd, (((sr.ext e1).ext e2).ext e3).wipe _, hr3, w2, fun ρ2 σ2 sr2 hw2 q => ⟨by rw [hw2 _ hown, wipe_wipe], ⟨ρ2, h2, _, sr2, hr3, q, fun b h4 H4 e4 hr4 wb => ?_⟩⟩⟩
    have e34 := e3.trans e4
    cases b with
    | false =>
      refine (if_neg Bool.false_ne_true).mpr ?_
      exact ⟨h4, acc, vacc, e2.trans e34, hr4, e34.frame da _ hD nf, e34.vrs ra, not_fp e34 nf hD, by omega, wb⟩
    | true =>
      refine (if_pos rfl).mpr ?_
      refine ⟨ρ2, h4, _, sr2.ext e4, hr4, wb, fun y h5 vy H5 e5 ry hr5 wy => ?_⟩
      have e345 := e34.trans e5
      have hD5 := e345.frame da _ hD nf
      have nf5 := not_fp e345 nf hD
      have ext5 := e2.trans e345
      refine ⟨vacc, hD5, by have := ra.length; rw [sizeLine_eq]; omega, h5, acc ++ [y], vacc ++ [vy], ext5.own nD nf5, hr5.own nf5 hD5, upd_same, ?_, ?_, by rw [List.length_append]; simp; omega, ?_⟩
      · have tk : TupK H5 (upd H5 da (.lst (vacc ++ [vy]))) := ⟨fun a xs z => by rw [upd_ne (fun q => by subst q; rw [hD5] at z; cases z)]; exact z, fun a ob u _ z => by rw [upd_ne (fun q => by subst q; rw [hD5] at z; cases z)]; exact z⟩
        exact tk.vrs _ _ ((e345.vrs ra).append (VRs.one ry))
      · rintro (f | ⟨a, e, q⟩)
        · exact nf5 (.inl f)
        · have ha : a ≠ da := fun z => by subst z; exact nf5 (.inl (by rw [e]; exact fun z => nomatch z))
          obtain ⟨a0, a1, k, y, z⟩ := q
          rw [upd_ne ha] at y
          exact nf5 (.inr ⟨a, e, a0, a1, k, y, z⟩)
      · have : (fun ys h5 => ∀ p, h5 p = none → Qd (.ref p) (dupd h5 p (.lst (acc ++ [y] ++ ys)))) = fun ys h5 => ∀ p, h5 p = none → Qd (.ref p) (dupd h5 p (.lst (acc ++ ((some y).toList ++ ys)))) := by
          funext ys h5
          simp
        rw [this]
        exact wy
  · rintro H2 ⟨h2, acc, vacc, e2, hr2, hD, ra, nf, hl, w2⟩
    rw [List.drop_length] at w2
    obtain ⟨_, q⟩ := w2
    rw [List.append_nil] at q
    have hn : h2 da = none := by
      cases z : h2 da with
      | none => rfl
      | some o => exact absurd (.inl (by rw [z]; exact fun z => nomatch z)) nf
    exact p (.ref da) _ (.ref da) H2 ((e1.trans e2).adopt (e1.free nD)) rfl (hr2.adopt nf hD ra) (q da hn)
end
end DL

set_option Elab.async false
set_option linter.all false
set_option maxRecDepth 100000
/-! DR12: an own __iter__ that answers iter(self.f), f a tuple: what it walks; != of instances with an own == (object.__ne__). -/
namespace DL
open PySem PySem.Spec PyProof.Rows L2
theorem band12 {a b : Bool} (h : (a && b) = true) : a = true ∧ b = true := by simpa using h
/-- at it a fresh iterator over the tuple at t -/
def ItT (t it : Addr) : HO := .ext fun h => h.IsTupleIter it t 0
theorem itT_ok {P : Program} {w : World} {H : Hp} {h : Heap} {t it : Addr} (e : h.IsTupleIter it t 0) : ObjOk P w H h it (ItT t it) := ⟨e, e.imp fun _ z => z.1, fun h1 h2 q k => q.at k⟩
section
variable {X : Cx}
def rIterT (K : PySem.W.Frag) (n : Nat) : List V → Hp → VK → Prop := fun xs H Q => ∃ (t : Addr) (zs : List V), xs = [.ref t] ∧ SqT K H t zs ∧ ∀ it, H it = none → n ≤ it → Q (.ref it) (upd H it (ItT t it))
theorem call_iterT : CallR X (.builtin "iter") (rIterT X.K X.s_0.heap.objs.size) := by
  intro pins s σ H xs us Q I r h
  obtain ⟨t, zs, rfl, hq, q⟩ := h
  obtain ⟨u, rfl, ru⟩ := r.one
  cases ru
  obtain ⟨its, rv, pl, hz⟩ := I.tuple hq
  refine Calls.call_function_entry (by decide +kernel) (by decide +kernel) PySem.W.kdk_entry_iter (PySem.W.kdk_args_iter _) ?_
  unfold Builtin.«iter»
  refine wpAny_bind (m := someArgs "iter" 1 2 _) (wpAny_of_eq (a := [Value.ref t]) (by first | rfl | kernel_rfl!) ?_)
  show wpAny _ _ (pyIter (.ref t) >>= _) _ _ _
  refine wpAny_bind (wpAny_pyIter_tuple (show s.heap.IsTuple t its.toArray from pl) ?_)
  refine wpAny_pure ⟨_, rfl, ?_⟩
  exact ⟨.ref s.heap.objs.size, _, I.laid (t' := s.toks) (fun b u e => Heap.get?_push_of_some _ e) (Nat.le_refl _) (itT_ok ⟨_, Heap.get?_push_size _ rfl, rfl, rfl⟩), rfl, q _ (I.hok.fresh (Nat.le_refl _)) I.sz⟩
end
section
variable {P : Program} {w : World} {K : PySem.W.Frag} {mg : Str → Option Value} {base : Heap} {C fi : Addr} {fd : FuncData} {f qual : Str} {st : Stmt}
theorem iter_run (T : Fun K "__iter__" qual st fi fd) (S : FnScope ["self"] ["self"] (defScope st)) (hb : iterB (defScope st) f (defBody st) = true) (cl : Cls K C) (na : NoAttr K C f) (mi : mg "iter" = none)
    {A : Around} {outer : List Env} {s : Shared} {H : Hp} {a dx t : Addr} {fs : List (Str × V)} {vs : List V} (room : Room 1 A) (env0 : Env0 P w K mg base A outer s H) (bind : BindsTo s fd ⟨[.ref a], []⟩ (([("self" : Str)] : List Str).zip [Value.ref a]))
    (ha : H a = some (.ins C dx fs)) (hl : fs.lookup f = some (.ref t)) (ht : SqT K H t vs) :
    codeAny (model P w) A (.call (.ref fi) ⟨[.ref a], []⟩) (CR CX0 outer P w H s (fun v H' => ∃ it, v = .ref it ∧ H it = none ∧ s.heap.objs.size ≤ it ∧ H' = upd H it (ItT t it)) E0) s := by
  obtain ⟨oc, od, kV, doc, pm, an, cdv, ct, osl, rfl, look, code⟩ := T.ex
  have inK := env0.mod.kin.keeps fun b o z => (env0.bs b o z).1
  have nolimit := env0.mod.nolimit.keeps fun b o z => (env0.bs b o z).1
  refine codeAny_call_function room.depth (inK _ _ look) rfl S.co S.gen rfl (PySem.W.codeRec_of inK code) (bind _ _ _ _ ?_)
  refine wpAny_newFunctionEnv_cells S.kind (fun q hq => (S.par q.1 (List.of_mem_zip hq).1).imp id fun z => ⟨z, PySem.W.cellsFrom_some _ _ _ (.inl z)⟩) fun env he s1 entry => ?_
  subst he
  refine ⟨nolimit.keeps entry.toInCall.keep, codeAny_func ?_⟩
  have body : ∃ ts, PSs (cxOf CX0 P w K mg base ["self"] qual (defScope st) fi cdv A outer s H E0) (defBody st) ts ∧ ts { nx := fun _ H' => False, rt := fun v H' => ∃ it, v = .ref it ∧ H it = none ∧ s.heap.objs.size ≤ it ∧ H' = upd H it (ItT t it) } (start ["self"] [.ref a]) H := by
    unfold iterB at hb
    split at hb
    · rename_i x p1 s1 p2 g p3 p4 p5 eb
      obtain ⟨hb, h5⟩ := band12 hb
      obtain ⟨hb, h4⟩ := band12 hb
      obtain ⟨hb, h3⟩ := band12 hb
      obtain ⟨h1, h2⟩ := band12 hb
      obtain rfl := of_decide_eq_true h1
      obtain rfl := of_decide_eq_true h2
      obtain rfl := of_decide_eq_true h3
      rw [eb]
      refine ⟨_, pss_one (ps_ret (pe_callB call_iterT (glob_of rfl h4) mi (by decide +kernel) (pa_cons (pe_fld (pe_var (i := 0) rfl (seen_of rfl h5) (by decide) (by decide)) rfl) pa_nil rfl) (by decide) (by decide) rfl rfl)), ?_⟩
      refine ⟨.ref a, rfl, a, C, dx, fs, .ref t, rfl, ha, cl, na, hl, t, vs, rfl, ht, fun it n1 n2 => ⟨it, rfl, n1, n2, rfl⟩⟩
    · cases hb
  obtain ⟨ts, proof, holds⟩ := body
  refine wpAny_mono (proof.run [] s1 (start ["self"] [.ref a]) H _ (inv_start S room.hd env0 rfl (.cons rfl .nil) entry) holds) (fun flow s' hs => ?_) fun _ _ hs => hs
  match flow, hs with
  | .ret u, ⟨v, _, H', J, rel, q⟩ => exact ⟨v, H', J.os, J.bare, J.base, J.hok, rel, q⟩
  | .next, ⟨_, H', J, q⟩ => exact q.elim
  | .brk, ⟨_, _, _, q⟩ => exact q.elim
  | .cont, ⟨_, _, _, q⟩ => exact q.elim
end
def iOwn (K : PySem.W.Frag) (C : Addr) (f : Str) (te : TE) : TI := fun σ H R => te σ H fun x H1 => ∃ a dx fs t, x = .ref a ∧ H1 a = some (.ins C dx fs) ∧ fs.lookup f = some (.ref t) ∧ (∃ vs, SqT K H1 t vs) ∧ R (Itt K t) H1
theorem pi_own {X : Cx} {C : Addr} {f : Str} {tg e : Expr} {te : TE} (O : IterOf X.K C f) (mi : X.mg "iter" = none) (room : Room 1 X.A) (he : PE X e te) : PI X tg e (iOwn X.K C f te) := by
  obtain ⟨fi, fd, qual, st, hs, hf, T, S, hb, cl, na, bd⟩ := O.ex
  refine ⟨fun pins s σ H R I h => ?_⟩
  refine thn (he.run pins s σ H _ I h) fun v s1 ⟨x, H1, I1, r1, a, dx, fs, t, ex, ea, hl, ⟨vs, ht⟩, q⟩ => ?_
  subst ex
  cases r1
  obtain ⟨_, O1, _⟩ := ins_get I1.hok ea
  obtain ⟨od, J, _⟩ := O1.look
  obtain ⟨_, fr⟩ := I1.fr
  have b := bd s1 [.ref a] I1.kIn rfl
  rw [List.append_nil] at b
  refine PySem.W.owit_iter fr I1.ok.mod.kin J hs hf (wpAny_call (codeAny_mono (iter_run T S hb cl na mi room I1.env0 b ea hl ht) fun res s' hq => ?_))
  match res, hq with
  | .ok (.ret u), hq =>
    obtain ⟨v, H', I2, rv, it, rfl, hn, hy, eH⟩ := I1.after hq
    cases rv
    have hit : H' it = some (ItT t it) := by rw [eH]; exact upd_same
    have st : s'.heap.IsTupleIter it t 0 := (I2.hok it _ hit).1
    show PySem.W.OwitIt _ _ _ _ (.ref it) s'
    unfold PySem.W.OwitIt
    refine wpAny_specialOf (name := Str.ofString "__next__") st.typeIs PySem.F.slot_tuple_iterator_next.lookup ?_
    refine ⟨it, [it], _, _, _, rfl, ItX.inv_drop I2 hit, turn_tuple t it, st, fun b hb => ?_, ?_⟩
    · have e : b = it := by simpa using hb
      subst e
      exact ItX.inv_fp I2 hit (Nat.le_trans I1.sz hy)
    · rw [eH, ItX.dropH_upd hn]
      exact q
section
variable {prog : Program} {w : World} {A : Around} {E : Value → Shared → Prop} {s : Shared} {K : PySem.W.Frag} {x C L f : Addr} {h₀ : Heap} {m : Str → Option Value} {ox : Obj} {od : Option Obj} {b tb : Value}
theorem ifBound_B {M : Model} {T : String} {nm name : Str} {id : String} {args : List Value} {Q : Option Value → Shared → Prop} (sl : Slot T nm id) (X : K.In s.heap) (I : PySem.W.InstAt s.heap x ox C od) (hs : PySem.W.findIn K (.ref C) name = some (some (.builtin id)))
    (h : wpAny M A (call (.builtin id) (.ref x :: args)) (fun v => Q (some v)) E s) : wpAny M A (callSpecialIfBound? (.ref x) name args) Q E s := by
  simp only [callSpecialIfBound?, bindSpecialIfBound?]
  refine wpAny_holding (wpAny_bind (wpAny_bind (wpAny_bind (I.type.here ((PySem.W.looks_findIn X hs).here ?_)))))
  refine wpAny_bind (wpAny_askSetting (wpAny_ite ?_))
  have fin : wpAny M A (call (.builtin id) ([.ref x] ++ args) >>= fun v => pure (some v)) Q E s := wpAny_bind (wpAny_mono h (fun v s' h' => wpAny_pure h') fun _ _ h' => h')
  split
  · exact wpAny_bind (wpAny_of_eq (sl.bind _) (wpAny_pure (by exact fin)))
  · exact wpAny_tryCatch (wpAny_bind (wpAny_of_eq (sl.bind _) (wpAny_pure (by exact fin))))
/-- != of an instance whose class has an own == and no own != -/
theorem ne_K {Q : Value → Shared → Prop} (hu : A.units + 1 < cLine) (F : Fr h₀ L s.heap m) (X₀ : K.In h₀) (I : PySem.W.InstAt s.heap x ox C od) (hb : PySem.W.Looks (model prog w) s.heap (typeOf b) tb) (hn : PySem.W.notFirst K C tb = true)
    (hne : PySem.W.findIn K (.ref C) "__ne__" = some (some (.builtin "object.__ne__"))) (hm : PySem.W.mroIn K C (.type "object") = some true) (hs : PySem.W.findIn K (.ref C) "__eq__" = some (some (.ref f))) (hf : PySem.W.isFn K (.ref f) = true)
    (h : wpAny (model prog w) A.in1 (call (.ref f) [.ref x, b]) (fun v s' => ∃ c, v = .bool c ∧ Q (.bool (!c)) s') E s) : wpAny (model prog w) A (richCompare .NotEq (.ref x) b) Q E s := by
  have X := X₀.keeps F.keep
  have entry : wpAny (model prog w) A.in1 (Builtin.«object.__ne__» ⟨[.ref x, b], []⟩) (fun fin s' => ∃ v, fin = .done (.ret v) ∧ (∃ c, v = .bool c ∧ Q (.bool c) s')) E s := by
    unfold Builtin.«object.__ne__»
    refine wpAny_bind (m := slotArgs "__ne__" 1 _) (wpAny_of_eq (a := (Value.ref x, [b])) (by first | rfl | kernel_rfl!) ?_)
    dsimp only
    refine wpAny_bind (wpAny_cRoomFor (by show A.units + 1 < cLine; exact hu) ?_)
    refine wpAny_bind (PySem.W.ifBound_K X I hs hf (wpAny_mono h (fun v s' hv => ?_) fun _ _ e => e))
    obtain ⟨c, rfl, q⟩ := hv
    dsimp only
    refine wpAny_bind (wpAny_truthy_bool ?_)
    exact wpAny_pure ⟨_, rfl, _, rfl, q⟩
  have one : wpAny (model prog w) A (tryCompare (.ref x) (cmpInfo .NotEq).2.1 b) (fun r s' => ∃ v, r = some v ∧ Q v s') E s := by
    unfold tryCompare
    refine wpAny_bind (ifBound_B PySem.F.cmp_object.ne X I hne (wpAny_call (codeAny_call_builtin PySem.F.cmp_object.ne.plain PySem.F.cmpEntry_ne (PySem.W.check_slot PySem.F.cmpKind_ne PySem.F.cmpSplit_ne ?_ (PySem.F.cmpArgs_ne _ _) (wpAny_mono entry (fun fin s' hf => ?_) fun _ _ e => e)))))
    · exact I.type.andThen (PySem.W.looks_mroIn X hm)
    · obtain ⟨v, rfl, c, rfl, q⟩ := hf
      exact wpAny_pure ⟨_, rfl, q⟩
  unfold richCompare
  simp only [oneThing_ref]
  refine wpAny_holding (wpAny_bind (wpAny_cRoomFor (by omega) ?_))
  refine wpAny_bind (I.type.here (wpAny_bind (hb.here ?_)))
  split
  · rename_i q
    have e : PySem.W.subIn K tb (.ref C) = some false := by
      rcases Bool.or_eq_true_iff.mp hn with e | e
      · rw [beq_iff_eq.mp e] at q; simp at q
      · exact beq_iff_eq.mp e
    refine wpAny_bind ((PySem.W.looks_subIn X e).here ?_)
    simp only [Bool.false_eq_true, if_false]
    refine wpAny_bind (wpAny_mono one (fun r s' z => ?_) fun _ _ e => e)
    obtain ⟨v, rfl, hq⟩ := z
    exact wpAny_pure hq
  · refine wpAny_bind (wpAny_pure ?_)
    simp only [Bool.false_eq_true, if_false]
    refine wpAny_bind (wpAny_mono one (fun r s' z => ?_) fun _ _ e => e)
    obtain ⟨v, rfl, hq⟩ := z
    exact wpAny_pure hq
end
section
variable {X : Cx} {C : Addr}
theorem li_own {f : Str} {tg e : Expr} {we : DEnv → DH → WK → Prop} (O : IterOf X.K C f) (mi : X.mg "iter" = none) (room : Room 1 X.A) (he : PE X e (lift X.K we)) :
    PI X tg e (liftI X.K fun ρ h k => we ρ h fun d h1 => ∃ a fs xs, d = .ref a ∧ h1 a = some (.ins C fs) ∧ fs.lookup f = some (.tup xs) ∧ k xs (fun _ => True) h1) :=
  pi_imp (pi_own O mi room he) fun σ H R ⟨ρ, h, Kd, sr, hr, w, p⟩ => ⟨ρ, h, _, sr, hr, w, fun d h1 v H1 e1 rd hr1 w1 => by
    obtain ⟨a, fs, xs, rfl, ea, l, q⟩ := w1
    cases rd
    obtain ⟨dx, gs, eg, fr⟩ := hr1 _ _ ea
    obtain ⟨u, lu, t, vs, rfl, ht, hv⟩ := (fr.look (f := f)).1 _ l
    exact ⟨a, dx, gs, t, rfl, eg, lu, ⟨vs, ht.sq⟩, p _ _ h1 _ H1 e1 hr1 (dw_tup ht.sq hv) q⟩⟩
end
section
variable {X : Cx} {C f : Addr} {k : Nat} {fd : FuncData} {ps : List Str} {sp : Sp}
def rNeO (C : Addr) (sp : Sp) : R2 := fun x y H Q => ∃ (a b dx dy : Addr) (fs gs : List (Str × V)), x = .ref a ∧ y = .ref b ∧ H a = some (.ins C dx fs) ∧ H b = some (.ins C dy gs) ∧ sp [.ref a, .ref b] H (fun v H' => ∃ c, v = .bl c ∧ Q (.bl (!c)) H') E0
theorem op_neO (nf : PySem.W.notFirst X.K C (.ref C) = true) (hne : PySem.W.findIn X.K (.ref C) "__ne__" = some (some (.builtin "object.__ne__"))) (hm : PySem.W.mroIn X.K C (.type "object") = some true) (hs : PySem.W.findIn X.K (.ref C) "__eq__" = some (some (.ref f))) (hf : PySem.W.isFn X.K (.ref f) = true)
    (F : FnR false X.prog X.w X.K X.mg X.base CX0 k f fd ps sp) (room : Room (k + 1) X.A) (hb : Binds X.K fd ps []) : OpR X (compareOp .NotEq) (rNeO C sp) := by
  rintro pins s σ H x y v u Q I rx ry ⟨a, b, dx, dy, fs, gs, rfl, rfl, ea, eb, q⟩
  cases (show v = Value.ref a from rx)
  cases (show u = Value.ref b from ry)
  obtain ⟨_, O, _⟩ := ins_get I.hok ea
  obtain ⟨od, J, _⟩ := O.look
  obtain ⟨_, O', _⟩ := ins_get I.hok eb
  obtain ⟨od', J', _⟩ := O'.look
  obtain ⟨_, fr⟩ := I.fr
  show wpAny _ _ (richCompare .NotEq (.ref a) (.ref b)) _ _ _
  have hu : X.A.units + 1 < cLine := (Room.in1 room).units0
  refine ne_K (tb := .ref C) hu fr I.ok.mod.kin J J'.type nf hne hm hs hf (thn (run_own (us := [.ref a, .ref b]) (vs := [.ref a, .ref b]) F (Room.in1 room) I.env0.in1 hb I (.cons rfl (.cons rfl .nil)) q) fun w s' z => ?_)
  obtain ⟨z', H', I', rz, c, rfl, qz⟩ := z
  exact ⟨c, rz, .bl (!c), H', I', rfl, qz⟩
end
section
variable {X : Cx} {C f : Addr} {k : Nat} {fd : FuncData} {ps : List Str} {sp : DSp} {a b : Expr} {pos : Pos} {wa wb : DEnv → DH → WK → Prop}
def wNeO (C : Addr) (sp : DSp) : D → D → DH → WK → Prop := fun x y h Q => ∃ p q fs gs, x = .ref p ∧ y = .ref q ∧ h p = some (.ins C fs) ∧ h q = some (.ins C gs) ∧ sp [.ref p, .ref q] h fun z h3 => boolW z fun k => Q (.bl (!k)) h3
theorem sim_neO : Sim2 X.K (wNeO C sp) (rNeO C (liftSp X.K sp)) := by
  rintro x y h H vx vy Qd Q rx ry hr ⟨p, q, fs, gs, rfl, rfl, e1, e2, w⟩ pp
  cases rx; cases ry
  obtain ⟨dx, us, a1, _⟩ := hr _ _ e1
  obtain ⟨dy, ws, b1, _⟩ := hr _ _ e2
  refine ⟨p, q, dx, dy, us, ws, rfl, rfl, a1, b1, [.ref p, .ref q], h, _, .cons rfl (.cons rfl .nil), hr, w, fun d h' v H' e r hr' z => ?_⟩
  obtain ⟨c, rfl, z⟩ := boolW_get z
  cases r
  exact ⟨c, rfl, pp (.bl (!c)) h' _ H' e rfl hr' z⟩
theorem le_neO (nf : PySem.W.notFirst X.K C (.ref C) = true) (hne : PySem.W.findIn X.K (.ref C) "__ne__" = some (some (.builtin "object.__ne__"))) (hm : PySem.W.mroIn X.K C (.type "object") = some true) (hs : PySem.W.findIn X.K (.ref C) "__eq__" = some (some (.ref f))) (hf : PySem.W.isFn X.K (.ref f) = true)
    (F : FnR false X.prog X.w X.K X.mg X.base CX0 k f fd ps (liftSp X.K sp)) (room : Room (k + 1) X.A) (hb : Binds X.K fd ps [])
    (ha : PE X a (lift X.K wa)) (hb2 : PE X b (lift X.K wb)) (hk : behindInMarks .NotEq b = false) :
    PE X (.Compare a [.NotEq] [b] pos) (lift X.K fun ρ h Q => wa ρ h fun x h1 => wb ρ h1 fun y h2 => wNeO C sp x y h2 Q) :=
  pe_imp (pe_cmpR (op_neO nf hne hm hs hf F room hb) ha hb2 hk) fun σ H Q l => lift_two (X := X) sim_neO l
theorem lt_neO (nf : PySem.W.notFirst X.K C (.ref C) = true) (hne : PySem.W.findIn X.K (.ref C) "__ne__" = some (some (.builtin "object.__ne__"))) (hm : PySem.W.mroIn X.K C (.type "object") = some true) (hs : PySem.W.findIn X.K (.ref C) "__eq__" = some (some (.ref f))) (hf : PySem.W.isFn X.K (.ref f) = true)
    (F : FnR false X.prog X.w X.K X.mg X.base CX0 k f fd ps (liftSp X.K sp)) (room : Room (k + 1) X.A) (hb : Binds X.K fd ps [])
    (ha : PE X a (lift X.K wa)) (hb2 : PE X b (lift X.K wb)) (hk : behindInMarks .NotEq b = false) :
    PT X (.Compare a [.NotEq] [b] pos) (liftB X.K (wB fun ρ h Q => wa ρ h fun x h1 => wb ρ h1 fun y h2 => wNeO C sp x y h2 Q)) := by
  refine pt_imp (pt_cmpR (op_neO nf hne hm hs hf F room hb) ha hb2 hk) fun σ H Q ⟨ρ, h, Qd, sr, hr, w, p⟩ => ?_
  refine lift_two (X := X) sim_neO ⟨ρ, h, _, sr, hr, w, fun x h1 vx H1 e1 rx hr1 w1 => ?_⟩
  obtain ⟨k, rfl, w1⟩ := boolW_get w1
  cases rx
  exact ⟨k, rfl, p k h1 H1 e1 hr1 w1⟩
end
end DL

set_option Elab.async false
set_option linter.all false
set_option maxRecDepth 100000
/-! DR13: a dict that is locked while its keys are walked. -/
namespace DL
open PySem PySem.Spec PyProof.Rows L2
section
variable {K : PySem.W.Frag} {h hl h' : DH} {H Hl H' : Hp} {a : Addr} {kvs : List (Key × D)} {gs : List (Key × V)} {o : Obj}
theorem HR.lock (r : HR K h H) (e : h a = some (.dk kvs)) (eg : H a = some (.dK gs)) (fr : FR K H kvs gs) : HR K (dupd h a (.fz kvs)) (upd H a (.frz o (.dK gs))) :=
  r.put e True.intro ⟨o, gs, upd_same, (r.tk_put (o' := .frz o (.dK gs)) e True.intro).fr fr⟩
theorem Ext.lock (r : HR K h H) (e : h a = some (.dk kvs)) : Ext h H (dupd h a (.fz kvs)) (upd H a (.frz o (.dK gs))) :=
  Ext.put (u' := .fz kvs) r e True.intro (by intro z; cases z)
/-- at the end it stands as ahead -/
theorem unlock_tk (ef : H' a = some (.frz o (.dK gs))) : TupK H' (upd H' a (.dK gs)) :=
  ⟨fun b xs q => by rw [upd_ne (fun z => by subst z; rw [ef] at q; cases q)]; exact q, fun b ob u n q => by rw [upd_ne (fun z => by subst z; rw [ef] at q; cases q; exact n _ rfl)]; exact q⟩
theorem HR.unlock (r : HR K h' H') (e : h' a = some (.fz kvs)) (ef : H' a = some (.frz o (.dK gs))) : HR K (dupd h' a (.dk kvs)) (upd H' a (.dK gs)) := fun b x q => by
  have tk := unlock_tk ef
  by_cases z : b = a
  · subst z
    rw [dupd_same] at q
    cases q
    obtain ⟨o2, gs2, e2, fr⟩ := r _ _ e
    rw [ef] at e2
    cases e2
    exact ⟨gs, upd_same, tk.fr fr⟩
  · rw [dupd_ne z] at q
    refine (r b x q).keep tk (fun c v hc q' => ?_) (fun c ex pr e' => ?_) fun c e' => ?_
    · rw [upd_ne]
      · exact q'
      rcases hc with rfl | ⟨rfl, pr⟩
      · exact z
      · rintro rfl
        have := r.priv_none q pr
        rw [e] at this; cases this
    · subst ex
      rw [dupd_ne]
      · exact e'
      rintro rfl
      rw [e] at e'; cases e'
    · by_cases y : c = a
      · subst y; rw [dupd_same] at e'; cases e'
      · rwa [dupd_ne y] at e'
theorem Ext.unlock (e : h a = some (.dk kvs)) (eg : H a = some (.dK gs)) (ef : H' a = some (.frz o (.dK gs))) (x1 : Ext h H hl Hl) (x2 : Ext hl Hl h' H') (tup : ∀ b xs, H b = some (.tup xs) → Hl b = some (.tup xs)) : Ext h H (dupd h' a (.dk kvs)) (upd H' a (.dK gs)) where
  tup := fun b xs q => by
    have y := x2.tup _ _ (x1.tup _ _ q)
    rw [upd_ne (fun z => by subst z; rw [ef] at y; cases y)]; exact y
  frz := fun b ob u q => by
    have y := x2.frz _ _ _ (x1.frz _ _ _ q)
    rw [upd_ne (fun z => by subst z; rw [eg] at q; cases q)]; exact y
  frame := fun b ob q n => by
    have y := x1.frame _ _ q n
    have y2 := x2.frame _ _ y fun f => (x1.fp b f).elim n fun z => by rw [z] at q; cases q
    rw [upd_ne]
    · exact y2
    rintro rfl
    exact n (.inl (by rw [e]; exact fun z => nomatch z))
  there := fun b q => by
    by_cases z : b = a
    · subst z; rw [upd_same]; exact fun z => nomatch z
    · rw [upd_ne z]; exact x2.there b (x1.there b q)
  fp := fun b f => by
    have back : FP h' H' b → FP h H b ∨ H b = none := fun f => by
      rcases x2.fp b f with f | f
      · exact x1.fp b f
      · exact .inr (x1.free f)
    rcases f with f | ⟨c, ec, q⟩
    · by_cases z : b = a
      · subst z; exact .inl (.inl (by rw [e]; exact fun z => nomatch z))
      · rw [dupd_ne z] at f; exact back (.inl f)
    · by_cases z : c = a
      · subst z
        rw [dupd_same] at ec
        cases ec
      · rw [dupd_ne z] at ec
        refine back (.inr ⟨c, ec, ?_⟩)
        obtain ⟨a0, a1, k, y, p⟩ := q
        rw [upd_ne z] at y
        exact ⟨a0, a1, k, y, p⟩
end
section
variable {X : Cx}
theorem le_lock {i : Nat} {e : Expr} {w : DEnv → DH → WK → Prop} (p : PE X e (lift X.K w)) : PE X e (lift X.K fun ρ h Q => slotW ρ i fun d => ∃ a kvs, d = .ref a ∧ h a = some (.dk kvs) ∧ w ρ (dupd h a (.fz kvs)) fun v h' => h' a = some (.fz kvs) ∧ Q v (dupd h' a (.dk kvs))) :=
  pe_imp (pe_lock p) fun σ H Q ⟨ρ, h, Qd, sr, hr, ww, po⟩ => by
    obtain ⟨d, _, ww⟩ := slotW_get ww
    obtain ⟨a, kvs, rfl, e, ww⟩ := ww
    obtain ⟨gs, eg, fr⟩ := hr _ _ e
    refine ⟨a, _, eg, True.intro, fun od => ?_⟩
    have x1 : Ext h H (dupd h a (.fz kvs)) (upd H a (.frz od (.dK gs))) := Ext.lock hr e
    refine ⟨ρ, _, _, sr.ext x1, HR.lock hr e eg fr, ww, fun v h' u H' x2 rv hr' ⟨ez, q⟩ => ?_⟩
    have ef : H' a = some (.frz od (.dK gs)) := x2.frz _ _ _ upd_same
    exact ⟨ef, po v _ u _ (Ext.unlock e eg ef x1 x2 x1.tup) ((unlock_tk ef).vr _ _ rv) (HR.unlock hr' ez ef) q⟩
theorem le_dixF (hu : X.A.units + 100 < cLine) {d e : Expr} {pos : Pos} {wd wk : DEnv → DH → WK → Prop} (hd : PE X d (lift X.K wd)) (hk : PE X e (lift X.K wk)) (hs : NoSl e) :
    PE X (.Subscript d e pos) (lift X.K fun ρ h Q => wd ρ h fun x h1 => wk ρ h1 fun y h2 => ∃ a kvs kk v, x = .ref a ∧ h2 a = some (.fz kvs) ∧ keyD y = some kk ∧ lookD kvs kk = some v ∧ Q v h2) :=
  pe_imp (pe_dget (by omega) hd hk hs) fun σ H Q ⟨ρ, h, Qd, sr, hr, w, p⟩ => ⟨ρ, h, _, sr, hr, w, fun x h1 vx H1 e1 rx hr1 w1 => ⟨ρ, h1, _, sr.ext e1, hr1, w1, fun y h2 vy H2 e2 ry hr2 w2 => by
    obtain ⟨a, kvs, kk, v, rfl, ef, ek, el, q⟩ := w2
    cases rx
    obtain ⟨od, gs, eg, fr⟩ := hr2 _ _ ef
    have := keyD_of ek ry
    subst this
    obtain ⟨u, eu, ru⟩ := (fr.dict (k := kk)).1 v el
    exact ⟨a, u, rfl, .inl ⟨gs, kk, .inr ⟨od, eg⟩, rfl, eu.symm⟩, p v h2 u H2 (e1.trans e2) ru hr2 q⟩⟩⟩
theorem FR.key_at {K : PySem.W.Frag} {H : Hp} : ∀ {kvs : List (Key × D)} {gs : List (Key × V)}, FR K H kvs gs → ∀ {i : Nat} {k : Key} {v : V}, gs[i]? = some (k, v) → (kvs.map fun kv => keyV kv.1)[i]? = some (keyV k)
  | _, _, .nil, i, k, v, e => by simp at e
  | (j, x) :: fs, (j', y) :: gs, .cons ⟨e, r⟩ t, 0, k, v, z => by
    have e : j = j' := e
    subst e
    simp at z
    rw [← z.1]
    rfl
  | (j, x) :: fs, (j', y) :: gs, .cons ⟨e, r⟩ t, i + 1, k, v, z => FR.key_at t (i := i) (by simpa using z)
theorem key_rel {K : PySem.W.Frag} {H : Hp} (k : Key) : VR K H (keyV k) (kV k) := by cases k <;> rfl
theorem dw_keys {K : PySem.W.Frag} {h1 : DH} {H1 : Hp} {a : Addr} {o : Obj} {kvs : List (Key × D)} {gs : List (Key × V)} (e : H1 a = some (.frz o (.dK gs))) (fr : FR K H1 kvs gs) : DWalk K h1 H1 (Itk a o gs) (kvs.map fun kv => keyV kv.1) (fun _ => True) where
  go := fun i h H hi x hr _ => ⟨x.frz _ _ _ e, by rw [List.length_map, fr.len] at hi; exact hi⟩
  stop := fun h H x hr _ => ⟨x.frz _ _ _ e, by rw [List.length_map, fr.len]; exact Nat.le_refl _⟩
  yld := fun i h H x H' hi ex hr _ y => by
    obtain ⟨rfl, k, v, ek, rfl⟩ := y
    exact ⟨_, FR.key_at fr ek, key_rel k, Ext.refl _ _, hr⟩
theorem li_keys {tg e : Expr} {we : DEnv → DH → WK → Prop} (he : PE X e (lift X.K we)) : PI X tg e (liftI X.K fun ρ h k => we ρ h fun d h1 => ∃ a kvs, d = .ref a ∧ h1 a = some (.fz kvs) ∧ k (kvs.map fun kv => keyV kv.1) (fun _ => True) h1) :=
  pi_imp (pi_keys he) fun σ H R ⟨ρ, h, Kd, sr, hr, w, p⟩ => ⟨ρ, h, _, sr, hr, w, fun d h1 v H1 e1 rd hr1 w1 => by
    obtain ⟨a, kvs, rfl, ef, w2⟩ := w1
    cases rd
    obtain ⟨od, gs, eg, fr⟩ := hr1 _ _ ef
    exact ⟨a, od, rfl, .inl ⟨gs, eg, p _ _ h1 _ H1 e1 hr1 (dw_keys eg fr) w2⟩⟩⟩
end
end DL

set_option Elab.async false
set_option linter.all false
set_option maxRecDepth 100000
/-! DR18: an own class's == and != beside any value, its `in`, isinstance of any value. -/
namespace DL
open PySem PySem.Spec PyProof.Rows L2
theorem kit_subA {K : PySem.W.Frag} {C : Addr} {cls : Value} {b : Bool} (hd : PySem.W.hasDictIn K C = true) (ty : PySem.W.typeIn K (.ref C) = some (.type "type")) (own : PySem.W.subIn K (.ref C) (.ref C) = some true) (s : PySem.W.subIn K cls (.ref C) = some b) : PySem.W.kitOne K cls (.ref C) = some b := by
  obtain ⟨cd, hc, _⟩ := PySem.W.any_some hd
  unfold PySem.W.kitOne
  by_cases z : (cls == Value.ref C) = true
  · rw [if_pos z]
    rw [beq_iff_eq.mp z, own] at s
    exact s
  · rw [if_neg z]
    have k : ((PySem.W.clsIn K C).isSome && PySem.W.typeIn K (.ref C) == some (.type "type")) = true := by rw [hc, ty] <;> rfl
    show (if ((PySem.W.clsIn K C).isSome && PySem.W.typeIn K (.ref C) == some (.type "type")) = true then PySem.W.subIn K cls (.ref C) else none) = some b
    rw [if_pos k]
    exact s
theorem AnyT.first {K : PySem.W.Frag} {C : Addr} (t : AnyT K C) {n : String} (h : n ∈ anyTs) : PySem.W.notFirst K C (.type n) = true := by
  unfold PySem.W.notFirst
  rw [t.no n h]
  simp
theorem notFirst_self {K : PySem.W.Frag} {C : Addr} : PySem.W.notFirst K C (.ref C) = true := by
  unfold PySem.W.notFirst
  rw [beq_self_eq_true]
  rfl
/-- a value's type, and what isinstance says of it -/
theorem ins_ty {K : PySem.W.Frag} {C : Addr} (t : AnyT K C) {y : D} {h : DH} {H : Hp} {v : V} {k : Bool} (r : VR K H y v) (hr : HR K h H) (e : insD C y h = some k) : ∃ tv, TyX K H v tv ∧ PySem.W.notFirst K C tv = true ∧ PySem.W.kitOne K tv (.ref C) = some k := by
  have no : ∀ n ∈ anyTs, PySem.W.kitOne K (.type n) (.ref C) = some false := fun n hn => kit_subA t.hd t.ty t.own (t.no n hn)
  unfold insD at e
  split at e
  · cases r
    split at e
    · rename_i a C' fs ea
      by_cases z : C' = C
      · subst z
        rw [if_pos rfl] at e
        cases e
        obtain ⟨dx, gs, eg, _⟩ := hr _ _ ea
        exact ⟨.ref C', .base (.ins eg t.ic.cl t.ic.ha t.ic.hn t.ic.ht t.ic.hm), notFirst_self, by unfold PySem.W.kitOne; rw [if_pos (beq_self_eq_true _)]⟩
      · rw [if_neg z] at e; cases e
    · rename_i e1
      cases e
      obtain ⟨vs, a1, _⟩ := hr _ _ e1
      exact ⟨_, .base (.lst a1), t.first (by decide), no _ (by decide)⟩
    · rename_i e1
      cases e
      obtain ⟨vs, a1, _⟩ := hr _ _ e1
      exact ⟨_, .base (.dK a1), t.first (by decide), no _ (by decide)⟩
    · rename_i e1
      cases e
      obtain ⟨vs, a1, _⟩ := hr _ _ e1
      exact ⟨_, .base (.dT a1), t.first (by decide), no _ (by decide)⟩
    · cases e
  · cases e
  · cases e
  · rename_i n1 n2 n3
    cases e
    cases y with
    | non => cases r; exact ⟨_, .base .non, t.first (by decide), no _ (by decide)⟩
    | bl b => cases r; exact ⟨_, .base (.bl _), t.first (by decide), no _ (by decide)⟩
    | int b => cases r; exact ⟨_, .base (.int _), t.first (by decide), no _ (by decide)⟩
    | str b => cases r; exact ⟨_, .base (.str _), t.first (by decide), no _ (by decide)⟩
    | ref a => exact absurd rfl (n1 a)
    | scr ns => exact absurd rfl (n2 ns)
    | exc C f xs => exact absurd rfl (n3 C f xs)
    | tup xs =>
      obtain ⟨a, vs, rfl, hs, _⟩ := r
      rcases hs.sq with (hs | ⟨o, hs⟩) | ⟨o, its, n, hk, hc, _⟩
      · exact ⟨_, .base (.tup hs), t.first (by decide), no _ (by decide)⟩
      · exact ⟨_, .fTuple hs, t.first (by decide), no _ (by decide)⟩
      · exact ⟨_, .kTuple hk hc, t.first (by decide), no _ (by decide)⟩
section
variable {X : Cx} {C f : Addr} {k : Nat} {fd : FuncData} {ps : List Str} {sp : Sp}
def rEqA (K : PySem.W.Frag) (C : Addr) (sp : Sp) : R2 := fun x y H Q => ∃ (a dx : Addr) (fs : List (Str × V)) (t : Value), x = .ref a ∧ H a = some (.ins C dx fs) ∧ TyX K H y t ∧ PySem.W.notFirst K C t = true ∧ sp [.ref a, y] H Q E0
theorem op_eqA (hs : PySem.W.findIn X.K (.ref C) "__eq__" = some (some (.ref f))) (hf : PySem.W.isFn X.K (.ref f) = true) (F : FnR false X.prog X.w X.K X.mg X.base CX0 k f fd ps sp) (room : Room k X.A) (hb : Binds X.K fd ps []) :
    OpR X (compareOp .Eq) (rEqA X.K C sp) := by
  rintro pins s σ H x y v u Q I rx ry ⟨a, dx, fs, t, rfl, ea, ty, nf, q⟩
  cases (show v = Value.ref a from rx)
  obtain ⟨_, O, _⟩ := ins_get I.hok ea
  obtain ⟨od, J, _⟩ := O.look
  obtain ⟨_, fr⟩ := I.fr
  obtain ⟨Pr, Z, z, _⟩ := kit_of I ry ty
  show wpAny _ _ (richCompare .Eq (.ref a) u) _ _ _
  refine PySem.W.cmp_K (op := .Eq) (tb := t) room.units0 fr I.ok.mod.kin J (Z.ty _ _ I.kIn z) nf hs hf (thn (run_own (us := [.ref a, u]) (vs := [.ref a, y]) F room I.env0 hb I (.cons rfl (.cons ry .nil)) q) fun w s' z => ?_)
  obtain ⟨z', H', I', rz, qz⟩ := z
  exact SlX.cmpback rz ⟨z', H', I', rz, qz⟩
def rNeA (K : PySem.W.Frag) (C : Addr) (sp : Sp) : R2 := fun x y H Q => ∃ (a dx : Addr) (fs : List (Str × V)) (t : Value), x = .ref a ∧ H a = some (.ins C dx fs) ∧ TyX K H y t ∧ PySem.W.notFirst K C t = true ∧ sp [.ref a, y] H (fun v H' => ∃ c, v = .bl c ∧ Q (.bl (!c)) H') E0
theorem op_neA (hne : PySem.W.findIn X.K (.ref C) "__ne__" = some (some (.builtin "object.__ne__"))) (hm : PySem.W.mroIn X.K C (.type "object") = some true) (hs : PySem.W.findIn X.K (.ref C) "__eq__" = some (some (.ref f))) (hf : PySem.W.isFn X.K (.ref f) = true)
    (F : FnR false X.prog X.w X.K X.mg X.base CX0 k f fd ps sp) (room : Room (k + 1) X.A) (hb : Binds X.K fd ps []) : OpR X (compareOp .NotEq) (rNeA X.K C sp) := by
  rintro pins s σ H x y v u Q I rx ry ⟨a, dx, fs, t, rfl, ea, ty, nf, q⟩
  cases (show v = Value.ref a from rx)
  obtain ⟨_, O, _⟩ := ins_get I.hok ea
  obtain ⟨od, J, _⟩ := O.look
  obtain ⟨_, fr⟩ := I.fr
  obtain ⟨Pr, Z, z, _⟩ := kit_of I ry ty
  show wpAny _ _ (richCompare .NotEq (.ref a) u) _ _ _
  have hu : X.A.units + 1 < cLine := (Room.in1 room).units0
  refine ne_K (tb := t) hu fr I.ok.mod.kin J (Z.ty _ _ I.kIn z) nf hne hm hs hf (thn (run_own (us := [.ref a, u]) (vs := [.ref a, y]) F (Room.in1 room) I.env0.in1 hb I (.cons rfl (.cons ry .nil)) q) fun w s' z => ?_)
  obtain ⟨z', H', I', rz, c, rfl, qz⟩ := z
  exact ⟨c, rz, .bl (!c), H', I', rfl, qz⟩
def rInO (C : Addr) (sp : Sp) : R2 := fun y x H Q => ∃ (a dx : Addr) (fs : List (Str × V)), x = .ref a ∧ H a = some (.ins C dx fs) ∧ sp [.ref a, y] H (fun v H' => ∃ c, v = .bl c ∧ Q (.bl c) H') E0
theorem op_inO (hs : PySem.W.findIn X.K (.ref C) "__contains__" = some (some (.ref f))) (hf : PySem.W.isFn X.K (.ref f) = true) (F : FnR false X.prog X.w X.K X.mg X.base CX0 k f fd ps sp) (room : Room k X.A) (hb : Binds X.K fd ps []) :
    OpR X (compareOp .In) (rInO C sp) := by
  rintro pins s σ H y x u v Q I ry rx ⟨a, dx, fs, rfl, ea, q⟩
  cases (show v = Value.ref a from rx)
  obtain ⟨_, O, _⟩ := ins_get I.hok ea
  obtain ⟨od, J, _⟩ := O.look
  obtain ⟨_, fr⟩ := I.fr
  refine PySem.W.in_K fr I.ok.mod.kin J hs hf (thn (run_own (us := [.ref a, u]) (vs := [.ref a, y]) F room I.env0 hb I (.cons rfl (.cons ry .nil)) q) fun w s' z => ?_)
  obtain ⟨z', H', I', rz, c, rfl, qz⟩ := z
  cases (show w = Value.bool c from rz)
  exact wpAny_truthy_bool ⟨.bl c, H', I', rfl, qz⟩
end
section
variable {X : Cx} {C f : Addr} {k : Nat} {fd : FuncData} {ps : List Str} {sp : DSp} {a b e : Expr} {p pos : Pos} {wa wb we : DEnv → DH → WK → Prop}
def wEqA (C : Addr) (sp : DSp) : D → D → DH → WK → Prop := fun x y h Q => ∃ p fs k, x = .ref p ∧ h p = some (.ins C fs) ∧ insD C y h = some k ∧ sp [.ref p, y] h Q
def wNeA (C : Addr) (sp : DSp) : D → D → DH → WK → Prop := fun x y h Q => ∃ p fs k, x = .ref p ∧ h p = some (.ins C fs) ∧ insD C y h = some k ∧ sp [.ref p, y] h fun z h3 => boolW z fun k => Q (.bl (!k)) h3
def wInO (C : Addr) (sp : DSp) : D → D → DH → WK → Prop := fun y x h Q => ∃ p fs, x = .ref p ∧ h p = some (.ins C fs) ∧ sp [.ref p, y] h fun z h3 => boolW z fun k => Q (.bl k) h3
theorem sim_eqA (t : AnyT X.K C) : Sim2 X.K (wEqA C sp) (rEqA X.K C (liftSp X.K sp)) := by
  rintro x y h H vx vy Qd Q rx ry hr ⟨p, fs, k, rfl, e1, e2, w⟩ pp
  cases rx
  obtain ⟨dx, us, a1, _⟩ := hr _ _ e1
  obtain ⟨tv, ty, nf, _⟩ := ins_ty t ry hr e2
  exact ⟨p, dx, us, tv, rfl, a1, ty, nf, [.ref p, y], h, Qd, .cons rfl (.cons ry .nil), hr, w, pp⟩
theorem sim_neA (t : AnyT X.K C) : Sim2 X.K (wNeA C sp) (rNeA X.K C (liftSp X.K sp)) := by
  rintro x y h H vx vy Qd Q rx ry hr ⟨p, fs, k, rfl, e1, e2, w⟩ pp
  cases rx
  obtain ⟨dx, us, a1, _⟩ := hr _ _ e1
  obtain ⟨tv, ty, nf, _⟩ := ins_ty t ry hr e2
  refine ⟨p, dx, us, tv, rfl, a1, ty, nf, [.ref p, y], h, _, .cons rfl (.cons ry .nil), hr, w, fun d h' v H' e r hr' z => ?_⟩
  obtain ⟨c, rfl, z⟩ := boolW_get z
  cases r
  exact ⟨c, rfl, pp (.bl (!c)) h' _ H' e rfl hr' z⟩
theorem sim_inO : Sim2 X.K (wInO C sp) (rInO C (liftSp X.K sp)) := by
  rintro y x h H vy vx Qd Q ry rx hr ⟨p, fs, rfl, e1, w⟩ pp
  cases rx
  obtain ⟨dx, us, a1, _⟩ := hr _ _ e1
  refine ⟨p, dx, us, rfl, a1, [.ref p, y], h, _, .cons rfl (.cons ry .nil), hr, w, fun d h' v H' e r hr' z => ?_⟩
  obtain ⟨c, rfl, z⟩ := boolW_get z
  cases r
  exact ⟨c, rfl, pp (.bl c) h' _ H' e rfl hr' z⟩
theorem le_cmpX {op : CmpOp} {r : R2} {f : D → D → DH → WK → Prop} (ho : OpR X (compareOp op) r) (sim : Sim2 X.K f r) (ha : PE X a (lift X.K wa)) (hb : PE X b (lift X.K wb)) (hm : behindInMarks op b = false) :
    PE X (.Compare a [op] [b] pos) (lift X.K fun ρ h Q => wa ρ h fun x h1 => wb ρ h1 fun y h2 => f x y h2 Q) :=
  pe_imp (pe_cmpR ho ha hb hm) fun σ H Q l => lift_two (X := X) sim l
theorem lt_cmpX {op : CmpOp} {r : R2} {f : D → D → DH → WK → Prop} (ho : OpR X (compareOp op) r) (sim : Sim2 X.K f r) (ha : PE X a (lift X.K wa)) (hb : PE X b (lift X.K wb)) (hm : behindInMarks op b = false) :
    PT X (.Compare a [op] [b] pos) (liftB X.K (wB fun ρ h Q => wa ρ h fun x h1 => wb ρ h1 fun y h2 => f x y h2 Q)) := by
  refine pt_imp (pt_cmpR ho ha hb hm) fun σ H Q ⟨ρ, h, Qd, sr, hr, w, p⟩ => ?_
  refine lift_two (X := X) sim ⟨ρ, h, _, sr, hr, w, fun x h1 vx H1 e1 rx hr1 w1 => ?_⟩
  obtain ⟨k, rfl, w1⟩ := boolW_get w1
  cases rx
  exact ⟨k, rfl, p k h1 H1 e1 hr1 w1⟩
theorem le_isA {z : Str} {pz : Pos} (t : AnyT X.K C) (hg : Gl X "isinstance") (hm : X.mg "isinstance" = none) (hz : Gl X z) (mz : X.mg z = some (.ref C)) (dz : (z == ("__debug__" : Str)) = false) (he : PE X e (lift X.K we)) (ns : starEach [e, .Name z pz] X.env = (false, eval e X.env) :: starEach [.Name z pz] X.env) :
    PE X (.Call (.Name "isinstance" p) [e, .Name z pz] [] pos) (lift X.K fun ρ h Q => we ρ h fun x h1 => ∃ k, insD C x h1 = some k ∧ Q (.bl k) h1) := by
  refine pe_imp (pe_callB call_isi hg hm (by decide +kernel) (pa_cons he (pa_cons (pe_glob (v := .ref C) hz mz rfl dz) pa_nil rfl) ns) (by decide) (by decide) ns rfl) fun σ H Q ⟨ρ, h, Qd, sr, hr, w, pp⟩ => ⟨ρ, h, _, sr, hr, w, fun x h1 vx H1 e1 rx hr1 w1 => ?_⟩
  obtain ⟨k, ek, q⟩ := w1
  obtain ⟨tv, ty, _, ko⟩ := ins_ty t rx hr1 ek
  exact ⟨vx, .ref C, tv, .ref C, k, rfl, .own C, ty, ko, pp (D.bl k) h1 _ H1 e1 rfl hr1 q⟩
end
end DL

set_option Elab.async false
set_option linter.all false
set_option maxRecDepth 100000
set_option maxHeartbeats 4000000
/-! DR19: zip of three lists, walked. -/
namespace DL
open PySem PySem.Spec PyProof.Rows L2
/-- the lists as they stand at each turn, of one length -/
def Itz3 (K : PySem.W.Frag) (a b c : Addr) : It :=
  ⟨fun i H => ∃ (xs ys zs : List V) (x y z : V), SqL K H a xs ∧ SqL K H b ys ∧ SqL K H c zs ∧ xs[i]? = some x ∧ ys[i]? = some y ∧ zs[i]? = some z,
    fun i H v H' => ∃ T x y z, v = .ref T ∧ H T = none ∧ H' = upd H T (.tup [x, y, z]) ∧ (∀ xs, SqL K H a xs → xs[i]? = some x) ∧ (∀ ys, SqL K H b ys → ys[i]? = some y) ∧ ∀ zs, SqL K H c zs → zs[i]? = some z,
    fun i H => ∃ xs ys zs : List V, SqL K H a xs ∧ SqL K H b ys ∧ SqL K H c zs ∧ xs.length = i ∧ ys.length = i ∧ zs.length = i⟩
theorem turn_zip3 {P : Program} {w : World} {K : PySem.W.Frag} {elts : List Expr} {kk : Nat} {tpos : Pos} {a b c : Addr} (N : Nat) (ha : a < N) (hb : b < N) (hc : c < N) :
    Turn P w K (.Tuple elts kk tpos) (Itz3 K a b c) [N + 5, N + 3, N + 4, N, N + 1, N + 2] (N + 5) (fun i h => IsZip h (N + 5) (N + 3) (N + 4) .none ∧ IsTupOf3 h (N + 3) (.ref N) (.ref (N + 1)) (.ref (N + 2)) ∧ (∃ x y z, IsTupOf3 h (N + 4) x y z) ∧ h.IsListIter N a i ∧ h.IsListIter (N + 1) b i ∧ h.IsListIter (N + 2) c i) where
  mem := by simp
  obj := fun i h st d hd => by
    obtain ⟨hz, hTI, ⟨x, y, z, hTO⟩, ⟨o1, e1, _, d1⟩, ⟨o2, e2, _, d2⟩, ⟨o3, e3, _, d3⟩⟩ := st
    have e' : d = N + 5 ∨ d = N + 3 ∨ d = N + 4 ∨ d = N ∨ d = N + 1 ∨ d = N + 2 := by simpa using hd
    rcases e' with q | q | q | q | q | q
    · rw [q]; exact ⟨_, hz, fun v q => nomatch q⟩
    · rw [q]; exact ⟨_, hTI, fun v q => nomatch q⟩
    · rw [q]; exact ⟨_, hTO, fun v q => nomatch q⟩
    · rw [q]; exact ⟨o1, e1, fun v q => by rw [d1] at q; cases q⟩
    · rw [q]; exact ⟨o2, e2, fun v q => by rw [d2] at q; cases q⟩
    · rw [q]; exact ⟨o3, e3, fun v q => by rw [d3] at q; cases q⟩
  keep := fun i h h' st k => by
    obtain ⟨hz, hTI, ⟨x, y, z, hTO⟩, h1, h2, h3⟩ := st
    exact ⟨k (N + 5) (by simp) _ hz, k (N + 3) (by simp) _ hTI, ⟨x, y, z, k (N + 4) (by simp) _ hTO⟩, h1.at fun o q => k N (by simp) o q, h2.at fun o q => k (N + 1) (by simp) o q, h3.at fun o q => k (N + 2) (by simp) o q⟩
  item := by
    intro X hP hw hK hcalm i pins s σ H E I hf st hg
    subst hP hw hK
    obtain ⟨hz, hTI, ⟨x0, y0, z0, hTO⟩, h1, h2, h3⟩ := st
    obtain ⟨xs, ys, zs, x, y, z, hqx, hqy, hqz, hx, hy, hzz⟩ := hg
    obtain ⟨its, rv, p, _⟩ := I.list hqx
    obtain ⟨its2, rv2, p2, _⟩ := I.list hqy
    obtain ⟨its3, rv3, p3, _⟩ := I.list hqz
    obtain ⟨u, hu, ru⟩ := rv.get hx
    obtain ⟨u2, hu2, ru2⟩ := rv2.get hy
    obtain ⟨u3, hu3, ru3⟩ := rv3.get hzz
    have hzl : N + 5 < s.heap.objs.size := Heap.lt_size hz
    have D1 := Draws.list (prog := X.prog) (w := X.w) (A := X.A.in1) (I.ok.hd hcalm) N a (Nat.ne_of_lt ha) its.toArray
    have D2 := Draws.list (prog := X.prog) (w := X.w) (A := X.A.in1) (I.ok.hd hcalm) (N + 1) b (Nat.ne_of_lt (Nat.lt_succ_of_lt hb)) its2.toArray
    have D3 := Draws.list (prog := X.prog) (w := X.w) (A := X.A.in1) (I.ok.hd hcalm) (N + 2) c (Nat.ne_of_lt (Nat.lt_succ_of_lt (Nat.lt_succ_of_lt hc))) its3.toArray
    have S := zip_sep3 (N := N) (fp1 := [a]) (fp2 := [b]) (fp3 := [c]) (fun d hd => by rw [List.mem_singleton.mp hd]; exact ha) (fun d hd => by rw [List.mem_singleton.mp hd]; exact hb) (fun d hd => by rw [List.mem_singleton.mp hd]; exact hc)
    have lt1 : i < its.toArray.size := by have := (List.getElem?_eq_some_iff.mp hu).1; simpa using this
    have lt2 : i < its2.toArray.size := by have := (List.getElem?_eq_some_iff.mp hu2).1; simpa using this
    have lt3 : i < its3.toArray.size := by have := (List.getElem?_eq_some_iff.mp hu3).1; simpa using this
    refine wpAny_pyNext_zipD3_item S D1 D2 D3 hz hTI hTO ⟨h1, p.isList⟩ ⟨h2, p2.isList⟩ ⟨h3, p3.isList⟩ lt1 lt2 lt3 fun x1 x2 x3 h' tk q1 q2 q3 z' TO' h1' h2' h3' hT hsz hk => ?_
    have e1 : x1 = u := by
      have : its.toArray[i]? = some u := by simpa using hu
      rw [q1] at this; exact Option.some.inj this
    have e2 : x2 = u2 := by
      have : its2.toArray[i]? = some u2 := by simpa using hu2
      rw [q2] at this; exact Option.some.inj this
    have e3 : x3 = u3 := by
      have : its3.toArray[i]? = some u3 := by simpa using hu3
      rw [q3] at this; exact Option.some.inj this
    subst e1 e2 e3
    refine ⟨_, rfl, wpAny_letOwnedTupleGo_zip (s := { s with heap := h', toks := tk }) z' fun h'' z'' sb => ?_⟩
    have hT2 : IsTupOf3 h'' s.heap.objs.size x1 x2 x3 := (sb.2 _ (Nat.ne_of_gt hzl)).trans hT
    have new : ObjOk X.prog X.w (upd H s.heap.objs.size (.tup [x, y, z])) h'' s.heap.objs.size (.tup [x, y, z]) :=
      ⟨by show 3 ≤ sizeLine; decide, [x1, x2, x3], .cons ru (.cons ru2 (.cons ru3 .nil)), ⟨_, hT2, rfl, _, rfl⟩⟩
    have I1 : L2.Inv X pins σ (upd H s.heap.objs.size (.tup [x, y, z])) { s with heap := h'', toks := tk } :=
      I.turnedNew (t' := tk) (ch := [N + 5, N + 3, N + 4, N, N + 1, N + 2]) (fun c o hb q => (sb.2 c (fun q' => hb (by simp [q']))).trans (hk c o (fun q' => hb (by simp [q'])) (fun q' => hb (by simp [q'])) (fun q' => hb (by simp [q'])) (fun q' => hb (by simp [q'])) (fun q' => hb (by simp [q'])) q)) hf (Nat.le_refl _) new
    refine ⟨.ref s.heap.objs.size, _, I1, rfl, ⟨_, x, y, z, rfl, I.hok.fresh (Nat.le_refl _), rfl, fun l hl => by rw [I.list_inj hl hqx]; exact hx, fun l hl => by rw [I.list_inj hl hqy]; exact hy, fun l hl => by rw [I.list_inj hl hqz]; exact hzz⟩, ⟨z'', ?_, ⟨x1, x2, x3, ?_⟩, ?_, ?_, ?_⟩, fun c hcm => ?_⟩
    · exact (sb.2 _ S.TIz).trans (hk _ _ S.TIz S.TITO S.TIi1 S.TIi2 S.TIi3 hTI)
    · exact (sb.2 _ S.TOz).trans TO'
    · exact h1'.1.at fun o q => (sb.2 _ (show N ≠ N + 5 by omega)).trans q
    · exact h2'.1.at fun o q => (sb.2 _ (show N + 1 ≠ N + 5 by omega)).trans q
    · exact h3'.1.at fun o q => (sb.2 _ (show N + 2 ≠ N + 5 by omega)).trans q
    · have hlt : c < s.heap.objs.size := by
        have e' : c = N + 5 ∨ c = N + 3 ∨ c = N + 4 ∨ c = N ∨ c = N + 1 ∨ c = N + 2 := by simpa using hcm
        have : (N + 5 : Nat) < s.heap.objs.size := hzl
        rcases e' with q | q | q | q | q | q
        · rw [q]; exact this
        · rw [q]; exact (show (N + 3 : Nat) < s.heap.objs.size by omega)
        · rw [q]; exact (show (N + 4 : Nat) < s.heap.objs.size by omega)
        · rw [q]; exact (show (N : Nat) < s.heap.objs.size by omega)
        · rw [q]; exact (show (N + 1 : Nat) < s.heap.objs.size by omega)
        · rw [q]; exact (show (N + 2 : Nat) < s.heap.objs.size by omega)
      rw [upd_ne (Nat.ne_of_lt hlt)]
      exact (hf c hcm).1
  done := by
    intro X hP hw hK hcalm i pins s σ H E I hf st hg
    subst hP hw hK
    obtain ⟨hz, hTI, ⟨x0, y0, z0, hTO⟩, h1, h2, h3⟩ := st
    obtain ⟨xs, ys, zs, hqx, hqy, hqz, l1, l2, l3⟩ := hg
    obtain ⟨its, rv, p, _⟩ := I.list hqx
    obtain ⟨its2, rv2, p2, _⟩ := I.list hqy
    obtain ⟨its3, rv3, p3, _⟩ := I.list hqz
    have D1 := Draws.list (prog := X.prog) (w := X.w) (A := X.A.in1) (I.ok.hd hcalm) N a (Nat.ne_of_lt ha) its.toArray
    have D2 := Draws.list (prog := X.prog) (w := X.w) (A := X.A.in1) (I.ok.hd hcalm) (N + 1) b (Nat.ne_of_lt (Nat.lt_succ_of_lt hb)) its2.toArray
    have D3 := Draws.list (prog := X.prog) (w := X.w) (A := X.A.in1) (I.ok.hd hcalm) (N + 2) c (Nat.ne_of_lt (Nat.lt_succ_of_lt (Nat.lt_succ_of_lt hc))) its3.toArray
    have S := zip_sep3 (N := N) (fp1 := [a]) (fp2 := [b]) (fp3 := [c]) (fun d hd => by rw [List.mem_singleton.mp hd]; exact ha) (fun d hd => by rw [List.mem_singleton.mp hd]; exact hb) (fun d hd => by rw [List.mem_singleton.mp hd]; exact hc)
    have m1 : its.toArray.size = i := by have := rv.length; simp; omega
    have m2 : its2.toArray.size = i := by have := rv2.length; simp; omega
    have m3 : its3.toArray.size = i := by have := rv3.length; simp; omega
    exact wpAny_pyNext_zipD3_end S D1 D2 D3 hz hTI hTO ⟨h1, p.isList⟩ ⟨h2, p2.isList⟩ ⟨h3, p3.isList⟩ (by omega) (by omega) (by omega) (.inl m1.symm) fun h' tk hk => ⟨rfl, I.turnedL (t' := tk) (ch := [N + 5, N + 3, N + 4, N, N + 1, N + 2]) (fun c o hb q =>
      hk c o (fun q' => hb (by simp [q'])) (fun q' => hb (by simp [q'])) (fun q' => hb (by simp [q'])) (fun q' => hb (by simp [q'])) (fun q' => hb (by simp [q'])) q) hf⟩
  self := fun A i s Q E st h => wpAny_pyIter_zip st.1 h
def iZip3 (K : PySem.W.Frag) (ta : TA) : TI := fun σ H R => ta σ H fun vs H1 => ∃ a b c xs ys zs, vs = [.ref a, .ref b, .ref c] ∧ SqL K H1 a xs ∧ SqL K H1 b ys ∧ SqL K H1 c zs ∧ R (Itz3 K a b c) H1
theorem pi_zip3 {X : Cx} {e e2 e3 : Expr} {ta : TA} {p pos tpos : Pos} {elts : List Expr} {kk : Nat} (hg : Gl X "zip") (hm : X.mg "zip" = none) (ha : PA X [e, e2, e3] ta)
    (hs : starEach [e, e2, e3] X.env = (false, eval e X.env) :: starEach [e2, e3] X.env) (hpl : (backTo pos (starEach [e2, e3] X.env)).any (·.1) = false) :
    PI X (.Tuple elts kk tpos) (.Call (.Name "zip" p) [e, e2, e3] [] pos) (iZip3 X.K ta) := by
  refine ⟨fun pins s σ H R I h => ?_⟩
  refine Call_ (ld_blt I hg hm PyProof.Rows.boot_zip (PyProof.Rows.callWith_type1 (thn (ha.run pos pins s σ H _ I h) fun us s1 ⟨vs, H1, I1, r1, q1⟩ => ?_) hs hpl))
  obtain ⟨a, b, c, xs, ys, zs, ex, hqx, hqy, hqz, q⟩ := q1
  subst ex
  cases r1 with
  | cons r rr =>
    cases rr with
    | cons r' rr =>
      cases rr with
      | cons r'' rr =>
        cases rr
        cases r
        cases r'
        cases r''
        obtain ⟨its, rv, p1, _⟩ := I1.list hqx
        obtain ⟨its2, rv2, p2, _⟩ := I1.list hqy
        obtain ⟨its3, rv3, p3, _⟩ := I1.list hqz
        have fresh6 : ∀ c, c ∈ [s1.heap.objs.size + 5, s1.heap.objs.size + 3, s1.heap.objs.size + 4, s1.heap.objs.size, s1.heap.objs.size + 1, s1.heap.objs.size + 2] → L2.FpOk X pins H1 c := fun c hcm => by
          have e' : c = s1.heap.objs.size + 5 ∨ c = s1.heap.objs.size + 3 ∨ c = s1.heap.objs.size + 4 ∨ c = s1.heap.objs.size ∨ c = s1.heap.objs.size + 1 ∨ c = s1.heap.objs.size + 2 := by simpa using hcm
          have hle : s1.heap.objs.size ≤ c := by
            rcases e' with z | z | z | z | z | z <;> rw [z] <;> omega
          exact I1.fpOk hle (I1.hok.fresh hle)
        refine zip_begins3 (begins_list a its.toArray) (begins_list b its2.toArray) (begins_list c its3.toArray) p1.isList p2.isList p3.isList fun h' hz hTI hTO h1 h2 h3 hsz hk => wpAny_pyIter_zip hz ?_
        have I2 : L2.Inv X pins σ H1 { s1 with heap := h' } := I1.kept (t' := s1.toks) hk
        exact ⟨s1.heap.objs.size + 5, _, _, _, H1, rfl, I2, turn_zip3 s1.heap.objs.size p1.lt p2.lt p3.lt, ⟨hz, hTI, ⟨_, _, _, hTO⟩, ⟨_, h1, rfl, rfl⟩, ⟨_, h2, rfl, rfl⟩, ⟨_, h3, rfl, rfl⟩⟩, fresh6, q⟩
theorem zip3D_get : ∀ {xs ys zs : List D} {i : Nat} {x y z : D}, xs[i]? = some x → ys[i]? = some y → zs[i]? = some z → (zip3D xs ys zs)[i]? = some (.tup [x, y, z])
  | [], _, _, _, _, _, _, h, _, _ => by simp at h
  | _ :: _, [], _, _, _, _, _, _, h, _ => by simp at h
  | _ :: _, _ :: _, [], _, _, _, _, _, _, h => by simp at h
  | x :: xs, y :: ys, z :: zs, 0, _, _, _, h, h', h'' => by simp at h h' h''; subst h h' h''; rfl
  | x :: xs, y :: ys, z :: zs, i + 1, _, _, _, h, h', h'' => by
    unfold zip3D
    rw [List.getElem?_cons_succ]
    exact zip3D_get (by simpa using h) (by simpa using h') (by simpa using h'')
theorem zip3D_length : ∀ {xs ys zs : List D}, ys.length = xs.length → zs.length = xs.length → (zip3D xs ys zs).length = xs.length
  | [], _, _, _, _ => by simp [zip3D]
  | _ :: _, [], _, h, _ => by simp at h
  | _ :: _, _ :: _, [], _, h => by simp at h
  | _ :: xs, _ :: ys, _ :: zs, h, h' => by
    unfold zip3D
    rw [List.length_cons, zip3D_length (by simpa using h) (by simpa using h'), List.length_cons]
theorem dw_zip3 {K : PySem.W.Frag} {h1 : DH} {H1 : Hp} {a b c : Addr} {xs ys zs : List D} (ly : ys.length = xs.length) (lz : zs.length = xs.length) : DWalk K h1 H1 (Itz3 K a b c) (zip3D xs ys zs) (fun h => h a = some (.lst xs) ∧ h b = some (.lst ys) ∧ h c = some (.lst zs)) where
  go := fun i h H hi e hr g => by
    rw [zip3D_length ly lz] at hi
    obtain ⟨vs, b1, b2⟩ := hr _ _ g.1
    obtain ⟨ws, c1, c2⟩ := hr _ _ g.2.1
    obtain ⟨us, d1, d2⟩ := hr _ _ g.2.2
    have hl := b2.length
    have hl2 := c2.length
    have hl3 := d2.length
    exact ⟨vs, ws, us, vs[i]'(by omega), ws[i]'(by omega), us[i]'(by omega), SqL.of b1, SqL.of c1, SqL.of d1, List.getElem?_eq_getElem _, List.getElem?_eq_getElem _, List.getElem?_eq_getElem _⟩
  stop := fun h H e hr g => by
    obtain ⟨vs, b1, b2⟩ := hr _ _ g.1
    obtain ⟨ws, c1, c2⟩ := hr _ _ g.2.1
    obtain ⟨us, d1, d2⟩ := hr _ _ g.2.2
    have hl := b2.length
    have hl2 := c2.length
    have hl3 := d2.length
    rw [zip3D_length ly lz]
    exact ⟨vs, ws, us, SqL.of b1, SqL.of c1, SqL.of d1, by omega, by omega, by omega⟩
  yld := fun i h H x H' hi e hr g y => by
    obtain ⟨T, v, u, t, rfl, nT, rfl, y, y2, y3⟩ := y
    obtain ⟨vs, b1, b2⟩ := hr _ _ g.1
    obtain ⟨ws, c1, c2⟩ := hr _ _ g.2.1
    obtain ⟨us, d1, d2⟩ := hr _ _ g.2.2
    obtain ⟨e1, a1, a2⟩ := b2.get' (y vs (SqL.of b1))
    obtain ⟨e2, a3, a4⟩ := c2.get' (y2 ws (SqL.of c1))
    obtain ⟨e3, a5, a6⟩ := d2.get' (y3 us (SqL.of d1))
    have ex : Ext h H h (upd H T (.tup [v, u, t])) := Ext.laid hr nT
    exact ⟨_, zip3D_get a1 a3 a5, ⟨T, [v, u, t], rfl, TpT.of upd_same, .cons (ex.vr a2) (.cons (ex.vr a4) (.cons (ex.vr a6) .nil))⟩, ex, hr.laid nT⟩
section
variable {X : Cx}
theorem li_zip3 {e e2 e3 : Expr} {elts : List Expr} {kk : Nat} {tpos q pos : Pos} {we we2 we3 : DEnv → DH → WK → Prop} (hg : Gl X "zip") (hm : X.mg "zip" = none) (he : PE X e (lift X.K we)) (he2 : PE X e2 (lift X.K we2)) (he3 : PE X e3 (lift X.K we3))
    (na : starEach [e, e2, e3] X.env = (false, eval e X.env) :: starEach [e2, e3] X.env) (nb : starEach [e2, e3] X.env = (false, eval e2 X.env) :: starEach [e3] X.env) (nc : starEach [e3] X.env = (false, eval e3 X.env) :: starEach [] X.env) :
    PI X (.Tuple elts kk tpos) (.Call (.Name "zip" q) [e, e2, e3] [] pos) (liftI X.K fun ρ h k => we ρ h fun x h1 => we2 ρ h1 fun y h2 => we3 ρ h2 fun z h3 => zip3W x y z h3 k) :=
  pi_imp (pi_zip3 hg hm (pa_cons he (pa_cons he2 (pa_cons he3 pa_nil nc) nb) na) na (by rw [nb, nc]; rfl)) fun σ H R ⟨ρ, h, Kd, sr, hr, w, p⟩ => ⟨ρ, h, _, sr, hr, w, fun d h1 v H1 e1 rd hr1 w1 => ⟨ρ, h1, _, sr.ext e1, hr1, w1, fun d2 h2 v2 H2 e2 rd2 hr2 w2 => ⟨ρ, h2, _, (sr.ext e1).ext e2, hr2, w2, fun d3 h3 v3 H3 e3 rd3 hr3 w3 => by
    have rd := e3.vr (e2.vr rd)
    have rd2 := e3.vr rd2
    obtain ⟨a, ea, w4⟩ := refW_get w3
    obtain ⟨b, eb, w5⟩ := refW_get w4
    obtain ⟨c, ec, w6⟩ := refW_get w5
    obtain ⟨xs, ys, zs, f1, f2, f3, ly, lz, w7⟩ := w6
    subst ea eb ec
    cases rd; cases rd2; cases rd3
    obtain ⟨vs, b1, b2⟩ := hr3 _ _ f1
    obtain ⟨ws, c1, c2⟩ := hr3 _ _ f2
    obtain ⟨us, d1, d2⟩ := hr3 _ _ f3
    exact ⟨_, _, _, vs, ws, us, rfl, SqL.of b1, SqL.of c1, SqL.of d1, p _ _ h3 _ H3 ((e1.trans e2).trans e3) hr3 (dw_zip3 ly lz) w7⟩⟩⟩⟩
end
end DL

set_option Elab.async false
set_option linter.all false
set_option maxRecDepth 100000
set_option maxHeartbeats 4000000
/-! DR20: exceptions held as values: made, asked of their class, their parts read. -/
namespace DL
open PySem PySem.Spec PyProof.Rows L2
section
variable {X : Cx} {C : Addr} {x : Str} {p pos : Pos}
/-- C(), a new object that nobody writes -/
theorem pe_mkx0 (q : PySem.W.excIn X.K C excBases "ValueError.__new__" = true) (gC : X.mg x = some (.ref C)) (kC : PySem.W.keepIn X.K (.ref C) = true) (hg : Gl X x) (hdb : (x == ("__debug__" : Str)) = false) :
    PE X (.Call (.Name x p) [] [] pos) (fun _ H Q => ∀ a o, H a = none → Q (.ref a) (upd H a (.frz o (exo a C none)))) := by
  refine ⟨fun pins s σ H Q I h => ?_⟩
  refine wpAny_Call_Name_kw (ld_glob I hg gC ?_ hdb)
  refine PySem.W.callWith_K0 I.kIn kC ?_
  obtain ⟨bm, N, nm, qn, bs, hdct, sn, sub, ab, col, dd, k0, k1, k2, k3, k5, mN, hC, hN, hni, T⟩ := exc_obj I.kIn q
  refine wpAny_call_exc_subT F.excBase_ValueError T hC hN hni (fun h' a hm => ?_) (Nat.zero_le _)
  have hn : H a = none := I.hok.gone hm.new
  obtain ⟨t, ht, _, _⟩ := hm.there
  exact ⟨.ref a, upd H a (.frz { cls := .ref C, data := .fields #[.ref t, .none, .none, .none, .bool false, .none] } (exo a C none)), I.laidN (t' := s.toks) hm.keeps hm.new hn ⟨ht, exo_ok ht⟩, rfl, h a _ hn⟩
end
section
variable {X : Cx} {C : Addr} {x f : Str} {e : Expr} {p pos : Pos} {ta : TA}
/-- C(e), its own __init__ stores what it is handed -/
theorem pe_mkx1 (O : OwnX X C f) (hg : Gl X x) (hm : X.mg x = some (.ref C)) (ha : PA X [e] ta) (hdb : (x == ("__debug__" : Str)) = false) (he : starEach [e] X.env = (false, eval e X.env) :: starEach [] X.env) :
    PE X (.Call (.Name x p) [e] [] pos) (fun σ H Q => ta σ H fun vs H1 => ∃ v, vs = [v] ∧ ∀ a d o o', H1 a = none → H1 d = none → d ≠ a → Q (.ref a) (upd (upd H1 d (.frz o' (exd d [(f, v)]))) a (.frz o (exo a C (some d))))) := by
  obtain ⟨fI, fd, ps, k, T, iC, tI, F1, hr, hb⟩ := O.ex
  refine ⟨fun pins s σ H Q I h => ?_⟩
  obtain ⟨nm, q, N, bs, bm, sn, sub, ab, col, dd, k0, k1, k2, k3, k5, hC, hbm⟩ := T.cls
  refine wpAny_Call_Name_kw (ld_glob I hg hm ?_ hdb)
  refine PySem.W.callWith_K (h₀ := X.base) I.ok.mod.kin T.kC (thn (ha.run pos pins s σ H _ I h) fun us s1 ⟨vs, H1, I1, r1, v, ev, q1⟩ => ⟨I1.kIn, ?_⟩) he (by rfl)
  subst ev
  show wpAny _ _ (call (.ref C) us) _ _ _
  obtain ⟨hp, g, dr, tk, os⟩ := s1
  have hsz : hp.objs.size ≤ hp.objs.size + 1 := Nat.le_succ _
  have hn : H1 (hp.objs.size + 1) = none := I1.hok.fresh hsz
  have kk : ∀ b o, hp.get? b = some o → ((hp.push (PySem.W.kdv_tup us)).push (PySem.HandSPX.excO C hp.objs.size)).get? b = some o := fun b o e => Heap.get?_push_of_some _ (Heap.get?_push_of_some _ e)
  have hget : ((hp.push (PySem.W.kdv_tup us)).push (PySem.HandSPX.excO C hp.objs.size)).get? (hp.objs.size + 1) = some (PySem.HandSPX.excO C hp.objs.size) := by heap_get
  generalize ha0 : hp.objs.size + 1 = a at *
  have I2 : L2.Inv X pins σ (upd H1 a (exo a C none)) ⟨(hp.push (PySem.W.kdv_tup us)).push (PySem.HandSPX.excO C hp.objs.size), g, dr, tk, os⟩ :=
    I1.laid (t' := tk) (a := a) (o := exo a C none) (h' := (hp.push (PySem.W.kdv_tup us)).push (PySem.HandSPX.excO C hp.objs.size)) kk hsz (exo_ok hget)
  have hq : spXI C f [.ref a, v] (upd H1 a (exo a C none)) (fun w H2 => w = .non ∧ ∃ d, H1 d = none ∧ d ≠ a ∧ H2 = upd (upd (upd H1 a (exo a C none)) d (exd d [(f, v)])) a (exo a C (some d))) (fun _ _ _ => False) :=
    ⟨a, v, rfl, upd_same, fun d nd ne => ⟨rfl, d, by rw [upd_ne ne] at nd; exact nd, ne, rfl⟩⟩
  have r2 : Vals (V.ref a :: [v]) (Value.ref a :: us) := .cons rfl r1
  have hl : (Value.ref a :: us ++ []).length = ps.length := by
    have e := r2.length
    rw [F1.len _ _ _ _ hq] at e
    rw [List.append_nil]
    exact e.symm
  have hus : us.length ≤ sizeLine := by
    have := Paired.length r1
    rw [← this, sizeLine_eq]
    simp
  have hbb := hb _ (Value.ref a :: us) I2.kIn hl
  rw [List.append_nil] at hbb
  refine wpAny_call (PySem.HandSPX.call_own F.excBase_ValueError (fun Y => PySem.HandSPX.refsVE_contains Y bm hbm) (I1.kIn _ _ hC) (PySem.W.looks_findIn I1.kIn iC) (fun self => PySem.W.bind_fn I1.kIn self tI) hus
    (codeAny_mono (by rw [ha0]; exact F1.run _ X.stack _ _ ⟨Value.ref a :: us, []⟩ (Value.ref a :: us) _ _ (fun _ _ _ => False) (hr.make C us []) (I2.env0.make C us []) hbb r2 hq) fun r s' hq' => ?_))
  cases r with
  | error er => exact hq'.elim
  | ok fl =>
    cases fl with
    | ret u =>
      obtain ⟨w, H2, os2, bare2, un, hok, rv, ew, d, nd, ne, eH⟩ := hq'
      subst ew
      obtain ⟨h2, g2, d2, t2, os'⟩ := s'
      rw [ha0]
      refine ⟨rv, ?_⟩
      have ea : H2 a = some (exo a C (some d)) := by rw [eH]; exact upd_same
      have ed : H2 d = some (exd d [(f, v)]) := by rw [eH, upd_ne ne]; exact upd_same
      have eo : ∀ b, b ≠ a → b ≠ d → H2 b = H1 b := fun b z1 z2 => by rw [eH, upd_ne z1, upd_ne z2, upd_ne z1]
      obtain ⟨t0, hoe⟩ := exo_at hok ea
      obtain ⟨mA, hns, rel⟩ := exd_at hok ed
      obtain ⟨od, es, ep, hod, hod2⟩ := id hns
      have nha : ∀ {b : Addr} {o : Obj}, hp.get? b = some o → b ≠ a := fun {b o} z => Nat.ne_of_lt (Nat.lt_of_lt_of_le (Heap.lt_size z) hsz)
      have up : ∀ {b : Addr}, b ≠ a → H1 b = none → upd H1 a (exo a C none) b = none := fun {b} hb n => by rw [upd_ne hb]; exact n
      have ndd : ∀ {b : Addr} {o : Obj}, hp.get? b = some o → H1 b = none → b ≠ d := fun {b o} z n e => by
        have y := un.free b o (kk b o z) (up (nha z) n) (by simp)
        rw [e, ed] at y
        cases y
      have U : Un (frs X.stack) [] H1 (upd (upd H1 d (.frz od (exd d [(f, v)]))) a (.frz { cls := .ref C, dict := some d, data := .fields #[.ref t0, .none, .none, .none, .bool false, .none] } (exo a C (some d)))) hp h2 := {
        keep := fun b o z n hf hx => un.keep b o (kk b o z) (up (nha z) n) hf hx
        slot := fun b o z n hf hx => un.slot b o (kk b o z) (up (nha z) n) hf hx
        free := fun b o z n hx => by rw [upd_ne (nha z), upd_ne (ndd z n)]; exact n
        there := fun b o z hx => un.there b o (kk b o z) hx
        tups := fun b xs z => by rw [upd_ne (ne_of_none z hn), upd_ne (ne_of_none z nd)]; exact z
        frzs := fun b o v z => by rw [upd_ne (ne_of_none z hn), upd_ne (ne_of_none z nd)]; exact z
        tbls := fun b ps z => ⟨#[], by rw [upd_ne (ne_of_none z hn), upd_ne (ne_of_none z nd), z]; simp⟩ }
      have hok3 : HOk X.prog X.w (upd (upd H1 d (.frz od (exd d [(f, v)]))) a (.frz { cls := .ref C, dict := some d, data := .fields #[.ref t0, .none, .none, .none, .bool false, .none] } (exo a C (some d)))) h2 := fun b o z => by
        by_cases hba : b = a
        · subst hba
          rw [upd_same] at z
          cases z
          exact ⟨hoe, exo_ok hoe⟩
        · rw [upd_ne hba] at z
          by_cases hbd : b = d
          · subst hbd
            rw [upd_same] at z
            cases z
            exact ⟨hod, exd_ok hns rel⟩
          · rw [upd_ne hbd] at z
            refine (hok b o (by rw [eo b hba hbd]; exact z)).stay (fun c v hc y => y) (fun c hc => ?_) (fun c xs hc => ?_)
            · have c1 := at_ne ea hc exo_own
              have c2 := at_ne ed hc exd_own
              rw [upd_ne c1, upd_ne c2, ← eo c c1 c2]; exact hc
            · have c1 := at_ne ea hc exo_tup
              have c2 := at_ne ed hc exd_tup
              rw [upd_ne c1, upd_ne c2, ← eo c c1 c2]; exact hc
      have J := I1.call' (ch := []) (s' := ⟨h2, g2, d2, t2, os'⟩) os2 U hok3 bare2 (fun b z => absurd z (by simp))
      exact ⟨.ref a, _, J, rfl, q1 a d _ _ hn nd ne⟩
    | next => exact False.elim hq'
    | brk => exact False.elim hq'
    | cont => exact False.elim hq'
end
section
variable {X : Cx} {K : PySem.W.Frag}
/-- the object that is held -/
theorem ExAt.inst {pins : List (Addr × Obj)} {σ : L2.St} {H : Hp} {s : Shared} {a C : Addr} {f : Str} {vs : List V} (I : L2.Inv X pins σ H s) (e : ExAt H a C f vs) : ∃ oe od, PySem.W.InstAt s.heap a oe C od ∧
    ∀ w, vs = [w] → ∃ (o : Obj) (mA : Str → Option Value), od = some o ∧ (∀ name, PySem.W.lookIn name o = some (mA name)) ∧ ∃ u, mA f = some u ∧ RelV w u := by
  rcases e with ⟨rfl, o, e⟩ | ⟨w, d, o, o', rfl, e, e2⟩
  · obtain ⟨g1, g2⟩ := (show s.heap.get? a = some o ∧ ObjOk X.prog X.w H s.heap a (exo a C none) from I.hok a _ e)
    obtain ⟨⟨t1, ho⟩, _⟩ := (show (∃ t1 : Addr, s.heap.get? a = some ({ cls := .ref C, dict := none, data := .fields #[.ref t1, .none, .none, .none, .bool false, .none] } : Obj)) ∧ _ from g2)
    exact ⟨_, none, ⟨ho, rfl, rfl, trivial⟩, fun w z => by cases z⟩
  · obtain ⟨g1, g2⟩ := (show s.heap.get? a = some o ∧ ObjOk X.prog X.w H s.heap a (exo a C (some d)) from I.hok a _ e)
    obtain ⟨⟨t1, ho⟩, _⟩ := (show (∃ t1 : Addr, s.heap.get? a = some ({ cls := .ref C, dict := some d, data := .fields #[.ref t1, .none, .none, .none, .bool false, .none] } : Obj)) ∧ _ from g2)
    obtain ⟨g3, g4⟩ := (show s.heap.get? d = some o' ∧ ObjOk X.prog X.w H s.heap d (exd d [(f, w)]) from I.hok d _ e2)
    obtain ⟨⟨mA, hns, rel⟩, _⟩ := (show (∃ mA, s.heap.Ns1 d mA ∧ ∀ g, RelO (([(f, w)] : List (Str × V)).lookup g) (mA g)) ∧ _ from g4)
    obtain ⟨od, hod, hl⟩ := lookIn_ns hns
    refine ⟨_, some od, ⟨ho, rfl, rfl, hod⟩, fun w' z => ?_⟩
    cases z
    obtain ⟨u, hu, ru⟩ := RelO.some_of (v := w) (o := mA f) (by have := rel f; rw [show ([(f, w)] : List (Str × V)).lookup f = some w by simp [List.lookup]] at this; exact this)
    exact ⟨od, mA, rfl, hl, u, hu, ru⟩
theorem clsIn_of {K : PySem.W.Frag} {C : Addr} (h : PySem.W.hasDictIn K C = true) : (PySem.W.clsIn K C).isSome = true := by
  obtain ⟨cd, hc, _⟩ := PySem.W.any_some h
  rw [hc]; rfl
def rIsV (K : PySem.W.Frag) : List V → Hp → VK → Prop := fun xs H Q => ∃ (a C : Addr) (f : Str) (vs : List V) (c : V) (cv : Value) (b : Bool), xs = [.ref a, c] ∧ ExAt H a C f vs ∧ ExcC K C ∧ (∀ u, RelV c u → u = cv) ∧ PySem.W.kitOne K (.ref C) cv = some b ∧ Q (.bl b) H
theorem call_isV : CallR X (.builtin "isinstance") (rIsV X.K) := by
  intro pins s σ H xs us Q I r h
  obtain ⟨a, C, f, vs, c, cv, b, rfl, ea, ec, hcv, e, q⟩ := h
  obtain ⟨u1, u2, rfl, r1, r2⟩ := vals2 r
  cases (show u1 = Value.ref a from r1)
  have := hcv _ r2
  subst this
  obtain ⟨oe, od, J, _⟩ := ea.inst I
  exact PySem.W.kia_one (PySem.W.kitx_exc (clsIn_of ec.hd) ec.hg ec.hk ec.hs ec.ha ec.hn ec.ht ec.hm) I.kIn J e (fun z => nomatch z) fun tk => ⟨.bl b, H, I.tok tk, rfl, q⟩
/-- e.f -/
theorem pe_fldX {C : Addr} {f : Str} {e : Expr} {te : TE} {pos : Pos} (T : XfC X.K C) (hno : PySem.W.findIn X.K (.ref C) f = some none) (he : PE X e te) (hb : attributeBase e f X.env (eval e X.env) = eval e X.env) :
    PE X (.Attribute e f pos) (fun σ H Q => te σ H fun x H1 => ∃ a w, x = .ref a ∧ ExAt H1 a C f [w] ∧ Q w H1) := by
  refine ⟨fun pins s σ H Q I h => ?_⟩
  refine attr_of hb (thn (he.run pins s σ H _ I h) fun u s1 hh => ?_)
  obtain ⟨x, H1, I1, rx, a, w, ex, ea, q⟩ := hh
  subst ex
  obtain rfl : u = Value.ref a := rx
  obtain ⟨oe, od, J, look⟩ := ea.inst I1
  obtain ⟨o, mA, rfl, hl, u, hu, ru⟩ := look w rfl
  exact HandSPX.exc_get I1.kIn J T.ga T.gg T.exC (PySem.W.findObj_own T.hdC hno rfl (by rw [hl, hu])) (handed_of ru) ⟨w, H1, I1.tok _, ru, q⟩
/-! ### over data -/
theorem ext_new {K : PySem.W.Frag} {h : DH} {H : Hp} {a : Addr} {o : HO} (hr : HR K h H) (na : H a = none) : Ext h H h (upd H a o) ∧ HR K h (upd H a o) := ⟨Ext.laid hr na, hr.laid na⟩
variable {C : Addr} {x f z : Str} {e : Expr} {p pos : Pos} {we : DEnv → DH → WK → Prop}
theorem le_mkx0 (q : PySem.W.excIn X.K C excBases "ValueError.__new__" = true) (gC : X.mg x = some (.ref C)) (kC : PySem.W.keepIn X.K (.ref C) = true) (hg : Gl X x) (hdb : (x == ("__debug__" : Str)) = false) :
    PE X (.Call (.Name x p) [] [] pos) (lift X.K fun ρ h Q => Q (.exc C "" []) h) :=
  pe_imp (pe_mkx0 q gC kC hg hdb) fun σ H Q ⟨ρ, h, Qd, sr, hr, w, pp⟩ a o na => by
    obtain ⟨e1, hr1⟩ := ext_new (o := .frz o (exo a C none)) hr na
    exact pp (.exc C "" []) h (.ref a) _ e1 ⟨a, [], rfl, .inl ⟨rfl, o, upd_same⟩, rfl⟩ hr1 w
theorem le_mkx1 (O : OwnX X C f) (hg : Gl X x) (hm : X.mg x = some (.ref C)) (he : PE X e (lift X.K we)) (hdb : (x == ("__debug__" : Str)) = false) (ns : starEach [e] X.env = (false, eval e X.env) :: starEach [] X.env) :
    PE X (.Call (.Name x p) [e] [] pos) (lift X.K fun ρ h Q => we ρ h fun y h1 => Q (.exc C f [y]) h1) :=
  pe_imp (pe_mkx1 O hg hm (pa_cons he pa_nil ns) hdb ns) fun σ H Q ⟨ρ, h, Qd, sr, hr, w, pp⟩ => ⟨ρ, h, _, sr, hr, w, fun y h1 vy H1 e1 ry hr1 w1 => ⟨vy, rfl, fun a d o o' na nd ne => by
    obtain ⟨e2, hr2⟩ := ext_new (o := .frz o' (exd d [(f, vy)])) hr1 nd
    have na2 : upd H1 d (.frz o' (exd d [(f, vy)])) a = none := by rw [upd_ne (Ne.symm ne)]; exact na
    obtain ⟨e3, hr3⟩ := ext_new (o := .frz o (exo a C (some d))) hr2 na2
    exact pp (.exc C f [y]) h1 (.ref a) _ ((e1.trans e2).trans e3) ⟨a, [vy], rfl, .inr ⟨vy, d, o, o', rfl, upd_same, by rw [upd_ne ne]; exact upd_same⟩, .cons ((e2.trans e3).vr ry) .nil⟩ hr3 w1⟩⟩
theorem le_fldX (T : XfC X.K C) (hno : PySem.W.findIn X.K (.ref C) f = some none) (he : PE X e (lift X.K we)) (hb : plainB e = true) :
    PE X (.Attribute e f pos) (lift X.K fun ρ h Q => we ρ h fun x h1 => ∃ y, x = .exc C f [y] ∧ Q y h1) :=
  pe_imp (pe_fldX T hno he (attr_base hb)) fun σ H Q ⟨ρ, h, Qd, sr, hr, w, pp⟩ => ⟨ρ, h, _, sr, hr, w, fun x h1 vx H1 e1 rx hr1 w1 => by
    obtain ⟨y, rfl, q⟩ := w1
    obtain ⟨a, vs, rfl, ea, u, r, rfl, ry, er⟩ := rx
    cases er
    exact ⟨a, u, rfl, ea, (pp.later e1).here hr1 q ry⟩⟩
theorem le_isX {sp : DSp} {c : V} {cv : Value} {pz : Pos} (cn : ClsN X.mg z c cv) (is : IsXsp X.K cv sp) (hg : Gl X "isinstance") (hm : X.mg "isinstance" = none) (hz : Gl X z) (dz : (z == ("__debug__" : Str)) = false) (he : PE X e (lift X.K we)) (ns : starEach [e, .Name z pz] X.env = (false, eval e X.env) :: starEach [.Name z pz] X.env) :
    PE X (.Call (.Name "isinstance" p) [e, .Name z pz] [] pos) (lift X.K fun ρ h Q => we ρ h fun x h1 => sp [x] h1 Q) := by
  have hc : PE X (.Name z pz) (tC c) ∧ ∀ u, RelV c u → u = cv := by
    rcases cn with ⟨A, rfl, rfl, mA⟩ | ⟨n, rfl, rfl, m0, hb, nn⟩
    · exact ⟨pe_glob (v := .ref A) hz mA rfl dz, fun u r => r⟩
    · exact ⟨pe_bltn (v := .ty n) hz m0 hb rfl nn dz, fun u r => r⟩
  refine pe_imp (pe_callB call_isV hg hm (by decide +kernel) (pa_cons he (pa_cons hc.1 pa_nil rfl) ns) (by decide) (by decide) ns rfl) fun σ H Q ⟨ρ, h, Qd, sr, hr, w, pp⟩ => ⟨ρ, h, _, sr, hr, w, fun x h1 vx H1 e1 rx hr1 w1 => ?_⟩
  obtain ⟨C, f, xs, b, ex, ec, ko, q⟩ := is _ _ _ w1
  cases ex
  obtain ⟨a, vs, rfl, ea, _⟩ := rx
  exact ⟨a, C, f, vs, c, cv, b, rfl, ea, ec, hc.2, ko, (pp.later e1).here hr1 q rfl⟩
end
end DL

set_option Elab.async false
set_option linter.all false
set_option maxRecDepth 100000
set_option maxHeartbeats 4000000
/-! DL10: what the check says holds: expressions. -/
namespace DL
open PySem PySem.Spec PyProof.Rows L2
def plainT : Expr → Bool
  | .UnaryOp .Not _ _ => false
  | .BoolOp _ _ _ => false
  | .IfExp _ _ _ _ => false
  | .Compare _ _ _ _ => false
  | _ => true
theorem plain_true {e : Expr} (h : plainT e = true) (env : Env) (whole : Sem Value) : isTrue e env whole = (do let v ← whole; standAt e.pos; holding [v] (truthy v)) := by
  cases e with
  | UnaryOp op a p => cases op <;> first | rfl | exact absurd h Bool.false_ne_true
  | BoolOp _ _ _ => exact absurd h Bool.false_ne_true
  | IfExp _ _ _ _ => exact absurd h Bool.false_ne_true
  | Compare _ _ _ _ => exact absurd h Bool.false_ne_true
  | _ => rfl
structure Snd (F : Fx) (X : Cx) (c : CE) (e : Expr) : Prop where
  pe : PE X e (lift X.K (wpE F c))
  pt : testB c = true → PT X e (liftB X.K (wB (wpE F c)))
  pw : testB c = true → ∀ op vs pos, e = .BoolOp op vs pos → PW X e (liftB X.K (wB (wpE F c)))
theorem Snd.val {F : Fx} {X : Cx} {c : CE} {e : Expr} (h : PE X e (lift X.K (wpE F c))) (p : plainT e = true) : Snd F X c e :=
  ⟨h, fun _ => lt_val h (plain_true p _), fun _ op vs pos z => by subst z; cases p⟩
theorem plainIx_of {b : Expr} (h : ∀ a c d p, b ≠ .Slice a c d p) : PlainIx b := by
  intro o i
  cases b with
  | Slice a c d p => exact absurd rfl (h a c d p)
  | _ => rfl
theorem band {a b : Bool} (h : (a && b) = true) : a = true ∧ b = true := by
  cases a with
  | true => exact ⟨rfl, h⟩
  | false => cases h
section
variable {N : List Str} {G : Glb} {F : Fx}
theorem mg_bl {X : Cx} (C : Ctx N G F X) {x : Str} (h : x ∈ bltNames) : X.mg x = none := C.bl x h
theorem blt_in (b : Blt) : b.name ∈ bltNames := by cases b <;> decide
theorem tn_in (t : Tn) : Str.ofString t.name ∈ bltNames := by cases t <;> decide
theorem noSetI {ci : CI} {sc : Scope} {e : Expr} {env : Env} (h : chkI N G ci sc e = true) {x : Value} : foldedSetIterable e env x = pure x := by
  have key : ∀ {e : Expr}, (∀ a b c, e ≠ .Set a b c) → foldedSetIterable e env x = pure x := fun {e} z => by
    cases e with
    | Set a b c => exact absurd rfl (z a b c)
    | _ => rfl
  cases ci with
  | seq c => exact key (noStar (ce := c) h).2.2
  | keys c => exact key (noStar (ce := c) h).2.2
  | own ci f c => exact key (noStar (ce := c) (Bool.and_eq_true_iff.mp (show (G.it.contains (ci, f) && chkE N G c sc e) = true from h)).2).2.2
  | _ => exact key fun a b c z => by subst z; exact absurd h Bool.false_ne_true
theorem drop_b {X : Cx} {w : DEnv → DH → WK → Prop} {σ : L2.St} {H : Hp} {Q : Bool → Hp → Prop} (l : liftB X.K (wB fun ρ h Q => w ρ h (Ret Q)) σ H Q) : liftB X.K (wB w) σ H Q := by
  obtain ⟨ρ, h, Qd, sr, hr, hw, p⟩ := l
  refine ⟨ρ, h, fun b h' => ∃ g, Abs g h' ∧ Qd b g, sr, hr, ?_, fun b h' H' e hr' ⟨g, a, q⟩ => p b g H' (e.abs hr' a) (a X.K H' hr').1 q⟩
  have : (fun d h1 => boolW d fun b => ∃ g, Abs g h1 ∧ Qd b g) = Ret (fun d h1 => boolW d fun b => Qd b h1) := by
    funext d h1
    cases d with
    | bl b => rfl
    | _ => exact propext ⟨fun z => z.elim, fun ⟨_, _, z⟩ => z.elim⟩
  show w ρ h (fun d h1 => boolW d fun b => ∃ g, Abs g h1 ∧ Qd b g)
  rw [this]
  assumption
mutual
theorem sndE : ∀ (c : CE) {X : Cx} {e : Expr}, Ctx N G F X → chkE N G c X.env.scope e = true → Snd F X c e
  | .var i, X, e, C, h => by
    cases e with
    | Name x pos =>
      have h' : (N[i]? = some x ∧ seenB X.env.scope x = true) ∧ okName x = true := by simpa [chkE] using h
      obtain ⟨n1, n2⟩ := okName_of h'.2
      exact .val (pe_imp (pe_var (i := i) (by rw [C.hN]; exact h'.1.1) (seen_of rfl h'.1.2) n1 n2) fun σ H Q ⟨ρ, h, Qd, sr, hr, w, p⟩ => by
        obtain ⟨d, a, b⟩ := slotW_get w
        obtain ⟨v, b1, b2⟩ := sr.2 i d a
        exact ⟨v, b1, p.here hr b b2⟩) rfl
    | _ => exact absurd h Bool.false_ne_true
  | .int i, X, e, C, h => by
    cases e with
    | Constant k j pos => cases k with
      | int j => have h' : i = j := by simpa [chkE] using h
                 subst h'
                 exact .val (pe_imp pe_int fun σ H Q ⟨ρ, h, Qd, sr, hr, w, p⟩ => p.here hr w rfl) rfl
      | _ => exact absurd h Bool.false_ne_true
    | _ => exact absurd h Bool.false_ne_true
  | .str i, X, e, C, h => by
    cases e with
    | Constant k j pos => cases k with
      | str j => have h' : i = j := by simpa [chkE] using h
                 subst h'
                 exact .val (pe_imp pe_str fun σ H Q ⟨ρ, h, Qd, sr, hr, w, p⟩ => p.here hr w rfl) rfl
      | _ => exact absurd h Bool.false_ne_true
    | _ => exact absurd h Bool.false_ne_true
  | .bl i, X, e, C, h => by
    cases e with
    | Constant k j pos => cases k with
      | bool j => have h' : i = j := by simpa [chkE] using h
                  subst h'
                  exact .val (pe_imp pe_bl fun σ H Q ⟨ρ, h, Qd, sr, hr, w, p⟩ => p.here hr w rfl) rfl
      | _ => exact absurd h Bool.false_ne_true
    | _ => exact absurd h Bool.false_ne_true
  | .non, X, e, C, h => by
    cases e with
    | Constant k j pos => cases k with
      | none => exact .val (pe_imp pe_non fun σ H Q ⟨ρ, h, Qd, sr, hr, w, p⟩ => p.here hr w rfl) rfl
      | _ => exact absurd h Bool.false_ne_true
    | _ => exact absurd h Bool.false_ne_true
  | .glob i, X, e, C, h => by
    cases e with
    | Name x pos =>
      have h' : (G.cn[i]? = some x ∧ globB X.env.scope x = true) ∧ okName x = true := by simpa [chkE] using h
      obtain ⟨n1, n2⟩ := okName_of h'.2
      obtain ⟨d, u, v, e1, e2, e3, e4⟩ := C.cn i x h'.1.1
      exact .val (pe_imp (pe_glob (glob_of rfl h'.1.2) e2 e3 n1) fun σ H Q ⟨ρ, h, Qd, sr, hr, w, p⟩ => by
        obtain ⟨d', a, b⟩ := nthW_get w
        rw [e1] at a
        cases a
        exact p.here hr b (e4 H)) rfl
    | _ => exact absurd h Bool.false_ne_true
  | .bin op a b, X, e, C, h => by
    cases e with
    | BinOp l o r pos =>
      have h' : (op = o ∧ chkE N G a X.env.scope l = true) ∧ chkE N G b X.env.scope r = true := by simpa [chkE] using h
      obtain ⟨⟨rfl, h1⟩, h2⟩ := h'
      exact .val (le_bin (sndE a C h1).pe (sndE b C h2).pe) rfl
    | _ => exact absurd h Bool.false_ne_true
  | .neg a, X, e, C, h => by
    cases e with
    | UnaryOp op x pos => cases op with
      | USub => exact .val (le_un (sndE a C h).pe) rfl
      | _ => exact absurd h Bool.false_ne_true
    | _ => exact absurd h Bool.false_ne_true
  | .cmp op a b, X, e, C, h => by
    unfold chkE at h
    split at h
    · rename_i l o r pos
      have h' : (op = o ∧ chkE N G a X.env.scope l = true) ∧ chkE N G b X.env.scope r = true := by simpa using h
      obtain ⟨⟨rfl, h1⟩, h2⟩ := h'
      exact ⟨le_cmp C.hu (sndE a C h1).pe (sndE b C h2).pe (noMark h2 _), fun _ => lt_cmp C.hu (sndE a C h1).pe (sndE b C h2).pe (noMark h2 _), fun _ _ _ _ z => nomatch z⟩
    · cases h
  | .chain op op' a b c, X, e, C, h => by
    unfold chkE at h
    split at h
    · rename_i l o o2 r r2 pos
      have h' : (((op = o ∧ op' = o2) ∧ chkE N G a X.env.scope l = true) ∧ chkE N G b X.env.scope r = true) ∧ chkE N G c X.env.scope r2 = true := by simpa using h
      obtain ⟨⟨⟨⟨rfl, rfl⟩, h1⟩, h2⟩, h3⟩ := h'
      exact ⟨le_chain C.hu (sndE a C h1).pe (sndE b C h2).pe (sndE c C h3).pe (noMark h3 _), fun _ => lt_chain C.hu (sndE a C h1).pe (sndE b C h2).pe (sndE c C h3).pe (noMark h3 _), fun _ _ _ _ z => nomatch z⟩
    · cases h
  | .chain3 op op' op2 a b c d, X, e, C, h => by
    unfold chkE at h
    split at h
    · rename_i l o o2 o3 r r2 r3 pos
      have h' : (((((op = o ∧ op' = o2) ∧ op2 = o3) ∧ chkE N G a X.env.scope l = true) ∧ chkE N G b X.env.scope r = true) ∧ chkE N G c X.env.scope r2 = true) ∧ chkE N G d X.env.scope r3 = true := by simpa using h
      obtain ⟨⟨⟨⟨⟨⟨rfl, rfl⟩, rfl⟩, h1⟩, h2⟩, h3⟩, h4⟩ := h'
      exact ⟨le_chain3 C.hu (sndE a C h1).pe (sndE b C h2).pe (sndE c C h3).pe (sndE d C h4).pe (noMark h4 _), fun _ => lt_chain3 C.hu (sndE a C h1).pe (sndE b C h2).pe (sndE c C h3).pe (sndE d C h4).pe (noMark h4 _), fun _ _ _ _ z => nomatch z⟩
    · cases h
  | .rev a, X, e, C, h => by
    unfold chkE at h
    split at h
    · exact .val (le_rev (sndE a C h).pe) rfl
    · cases h
  | .and a b, X, e, C, h => by
    unfold chkE at h
    split at h
    · rename_i x y pos
      have h' := band h
      have s1 := sndE a C h'.1
      have s2 := sndE b C h'.2
      have w : testB (.and a b) = true → PW X (.BoolOp .And [x, y] pos) (liftB X.K (wB (wpE F (.and a b)))) := fun t => by
        have t' : testB a = true ∧ testB b = true := by simpa [testB] using t
        exact lt_and (s1.pt t'.1) (pw_and1 (s2.pt t'.2))
      exact ⟨le_and s1.pe (pe_one s2.pe), fun t => (w t).pt, fun t _ _ _ _ => w t⟩
    · rename_i x y z r pos
      have h' := band h
      have s1 := sndE a C h'.1
      have s2 := sndE b C h'.2
      have w : testB (.and a b) = true → PW X (.BoolOp .And (x :: y :: z :: r) pos) (liftB X.K (wB (wpE F (.and a b)))) := fun t => by
        have t' : testB a = true ∧ testB b = true := by simpa [testB] using t
        exact lt_and (s1.pt t'.1) (s2.pw t'.2 _ _ _ rfl)
      exact ⟨le_and s1.pe s2.pe, fun t => (w t).pt, fun t _ _ _ _ => w t⟩
    · cases h
  | .or a b, X, e, C, h => by
    unfold chkE at h
    split at h
    · rename_i x y pos
      have h' := band h
      have s1 := sndE a C h'.1
      have s2 := sndE b C h'.2
      have w : testB (.or a b) = true → PW X (.BoolOp .Or [x, y] pos) (liftB X.K (wB (wpE F (.or a b)))) := fun t => by
        have t' : testB a = true ∧ testB b = true := by simpa [testB] using t
        exact lt_or (s1.pt t'.1) (pw_or1 (s2.pt t'.2))
      exact ⟨le_or s1.pe (pe_one s2.pe), fun t => (w t).pt, fun t _ _ _ _ => w t⟩
    · rename_i x y z r pos
      have h' := band h
      have s1 := sndE a C h'.1
      have s2 := sndE b C h'.2
      have w : testB (.or a b) = true → PW X (.BoolOp .Or (x :: y :: z :: r) pos) (liftB X.K (wB (wpE F (.or a b)))) := fun t => by
        have t' : testB a = true ∧ testB b = true := by simpa [testB] using t
        exact lt_or (s1.pt t'.1) (s2.pw t'.2 _ _ _ rfl)
      exact ⟨le_or s1.pe s2.pe, fun t => (w t).pt, fun t _ _ _ _ => w t⟩
    · cases h
  | .not a, X, e, C, h => by
    unfold chkE at h
    split at h
    · have h' := band h
      have s1 := sndE a C h'.2
      exact ⟨le_not s1.pe, fun _ => lt_not (s1.pt h'.1), fun _ _ _ _ z => nomatch z⟩
    · cases h
  | .ite c a b, X, e, C, h => by
    unfold chkE at h
    split at h
    · obtain ⟨h, h4⟩ := band h
      obtain ⟨h, h3⟩ := band h
      obtain ⟨h1, h2⟩ := band h
      exact ⟨le_ite ((sndE c C h2).pt h1) (sndE a C h3).pe (sndE b C h4).pe, fun z => (nomatch z), fun z => nomatch z⟩
    · cases h
  | .tup cs, X, e, C, h => by
    cases e with
    | Tuple es k pos => exact .val (le_tup (sndL cs C h)) rfl
    | _ => exact absurd h Bool.false_ne_true
  | .lst cs, X, e, C, h => by
    cases e with
    | List es pos => exact .val (le_lst (sndL cs C h)) rfl
    | _ => exact absurd h Bool.false_ne_true
  | .dnew t, X, e, C, h => by
    unfold chkE at h
    split at h
    · exact .val (le_dnew t) rfl
    · cases h
  | .ix a b, X, e, C, h => by
    cases e with
    | Subscript x y pos =>
      have h' : chkE N G a X.env.scope x = true ∧ chkE N G b X.env.scope y = true := by simpa [chkE] using h
      exact .val (le_ix (sndE a C h'.1).pe (sndE b C h'.2).pe (plainIx_of (noStar h'.2).2.1)) rfl
    | _ => exact absurd h Bool.false_ne_true
  | .slice a lo hi, X, e, C, h => by
    unfold chkE at h
    split at h
    · obtain ⟨h, h3⟩ := band h
      obtain ⟨h1, h2⟩ := band h
      exact .val (le_slice (sndE a C h1).pe (sndO lo C h2) (sndO hi C h3)) rfl
    · cases h
  | .blt b cs, X, e, C, h => by
    unfold chkE at h
    split at h
    · rename_i x px y es pos
      obtain ⟨h, h3⟩ := band h
      obtain ⟨h, h2⟩ := band h
      obtain ⟨hx, h1⟩ := band h
      have hx := of_decide_eq_true hx
      subst hx
      have hs := star_all X.env h3
      have hy : starEach (y :: es) X.env = (false, eval y X.env) :: starEach es X.env := by
        cases cs with
        | nil => exact absurd h3 Bool.false_ne_true
        | cons c r =>
          have h4 : chkE N G c X.env.scope y = true ∧ chkL N G r X.env.scope es = true := by simpa [chkL] using h3
          exact star_cons (noStar h4.1).1
      rw [hy, List.all_cons, Bool.and_eq_true] at hs
      exact .val (le_blt (blt_ok C.calm (by have := C.hu; omega) b fun e => C.grd (by subst e; exact h2)) (glob_of rfl h1) (mg_bl C (blt_in b)) (sndL cs C h3) hy (back_any hs.2)) rfl
    · cases h
  | .mind a d, X, e, C, h => by
    unfold chkE at h
    split at h
    · rename_i x px y k f pk pos
      have h' : (((x = "min" ∧ globB X.env.scope x = true) ∧ k = some "default") ∧ chkE N G a X.env.scope y = true) ∧ chkE N G d X.env.scope f = true := by simpa using h
      obtain ⟨⟨⟨⟨rfl, h1⟩, rfl⟩, h2⟩, h3⟩ := h'
      exact .val (le_mind C.calm (glob_of rfl h1) (mg_bl C (by decide)) (sndE a C h2).pe (sndE d C h3).pe (star_cons (noStar h2).1)) rfl
    · cases h
  | .isi a t, X, e, C, h => by
    unfold chkE at h
    split at h
    · rename_i x px y z pz pos
      have h' : (((x = "isinstance" ∧ globB X.env.scope x = true) ∧ z = Str.ofString t.name) ∧ globB X.env.scope z = true) ∧ chkE N G a X.env.scope y = true := by simpa using h
      obtain ⟨⟨⟨⟨rfl, h1⟩, rfl⟩, h2⟩, h3⟩ := h'
      exact .val (le_isi t (glob_of rfl h1) (mg_bl C (by decide)) (glob_of rfl h2) (mg_bl C (tn_in t)) (sndE a C h3).pe (star_cons (noStar h3).1)) rfl
    · cases h
  | .call f cs, X, e, C, h => by
    unfold chkE at h
    split at h
    · rename_i x px es pos
      have h' : ((G.fn[f]? = some x ∧ globB X.env.scope x = true) ∧ okName x = true) ∧ chkL N G cs X.env.scope es = true := by simpa using h
      obtain ⟨⟨⟨h1, h2⟩, h3⟩, h4⟩ := h'
      obtain ⟨sp, e1, B⟩ := C.fn f x h1
      have go : ∀ σ H Q, lift X.K (wpE F (.call f cs)) σ H Q → lift X.K (fun ρ h Q => wpL F cs ρ h fun ds h1 => sp ds h1 Q) σ H Q := fun σ H Q ⟨ρ, h, Qd, sr, hr, w, p⟩ => by
        refine ⟨ρ, h, Qd, sr, hr, ?_, p⟩
        have w : wpL F cs ρ h fun ds h1 => nthW F.fs f fun sp => sp ds h1 Qd := w
        have ext : (fun ds h1 => nthW F.fs f fun sp => sp ds h1 Qd) = fun ds h1 => sp ds h1 Qd := by
          funext ds h1
          have key : ∀ (l : List DSp) (i : Nat) (k : DSp → Prop), l[i]? = some sp → nthW l i k = k sp := by
            intro l
            induction l with
            | nil => intro i k z; simp at z
            | cons a r ih =>
              intro i k z
              cases i with
              | zero => simp at z; subst z; rfl
              | succ i => exact ih i k (by simpa using z)
          exact key F.fs f _ e1
        rw [ext] at w
        exact w
      cases es with
      | nil =>
        cases cs with
        | nil => exact .val (pe_imp (le_call0 B (glob_of rfl h2) (okName_of h3).1) go) rfl
        | cons c r => exact absurd h4 Bool.false_ne_true
      | cons y es =>
        have hs := star_all X.env h4
        have hy : starEach (y :: es) X.env = (false, eval y X.env) :: starEach es X.env := by
          cases cs with
          | nil => exact absurd h4 Bool.false_ne_true
          | cons c r =>
            have h5 : chkE N G c X.env.scope y = true ∧ chkL N G r X.env.scope es = true := by simpa [chkL] using h4
            exact star_cons (noStar h5.1).1
        rw [hy, List.all_cons, Bool.and_eq_true] at hs
        exact .val (pe_imp (le_call B (glob_of rfl h2) (okName_of h3).1 (sndL cs C h4) hy (back_any hs.2)) go) rfl
    · cases h
  | .fld ci f o, X, e, C, h => by
    unfold chkE at h
    split at h
    · rename_i y g pos
      obtain ⟨h, h4⟩ := band h
      obtain ⟨h, h3⟩ := band h
      obtain ⟨h1, h2⟩ := band h
      have h1 := of_decide_eq_true h1
      subst h1
      obtain ⟨c, e1, cl, na⟩ := C.fd ci f (by simpa using h2)
      refine .val (pe_imp (le_fld cl na (sndE o C h4).pe h3) fun σ H Q ⟨ρ, h, Qd, sr, hr, w, p⟩ => ⟨ρ, h, Qd, sr, hr, ?_, p⟩) rfl
      have : (fun (x : D) (h1 : DH) => nthW F.cv ci fun c => refW c fun C => ∃ a fs v, x = .ref a ∧ h1 a = some (.ins C fs) ∧ fs.lookup f = some v ∧ Qd v h1) = fun x h1 => ∃ a fs v, x = .ref a ∧ h1 a = some (.ins c fs) ∧ fs.lookup f = some v ∧ Qd v h1 := by
        funext x h1
        rw [nthW_eq _ e1]; rfl
      have w : wpE F o ρ h fun (x : D) (h1 : DH) => nthW F.cv ci fun c => refW c fun C => ∃ a fs v, x = .ref a ∧ h1 a = some (.ins C fs) ∧ fs.lookup f = some v ∧ Qd v h1 := w
      rw [this] at w
      exact w
    · cases h
  | .prop j ci m o, X, e, C, h => by
    unfold chkE at h
    split at h
    · rename_i y g pos
      obtain ⟨h, h4⟩ := band h
      obtain ⟨h, h3⟩ := band h
      obtain ⟨h, h5⟩ := band h
      obtain ⟨h1, h2⟩ := band h
      have h1 := of_decide_eq_true h1
      subst h1
      obtain ⟨c, sp, e1, e2, M⟩ := C.pr j ci m (by simpa using h2)
      obtain ⟨f, fd, ps, k, cl, po, Fn, rm, bd⟩ := M.ex
      cases po with
      | ne z _ _ _ _ _ => subst z; exact absurd h5 (by decide)
      | slot z _ _ _ =>
        have z : (m == "__len__" || m == "__eq__" || m == "__contains__") = true := z
        have : dun m = true := by
          revert z
          unfold dun
          generalize (m == ("__len__" : Str)) = b1
          generalize (m == ("__eq__" : Str)) = b2
          generalize (m == ("__ne__" : Str)) = b3
          generalize (m == ("__contains__" : Str)) = b4
          cases b1 <;> cases b2 <;> cases b3 <;> cases b4 <;> simp
        rw [this] at h5; cases h5
      | prop po _ =>
        refine .val (pe_imp (le_prop cl po Fn rm bd (sndE o C h4).pe h3) fun σ H Q ⟨ρ, h, Qd, sr, hr, w, p⟩ => ⟨ρ, h, Qd, sr, hr, ?_, p⟩) rfl
        have ext : (fun (x : D) (h1 : DH) => nthW F.cv ci fun c => refW c fun C => ∃ a fs, x = .ref a ∧ h1 a = some (.ins C fs) ∧ nthW F.fs j fun sp => sp [.ref a] h1 Qd) = fun x h1 => ∃ a fs, x = .ref a ∧ h1 a = some (.ins c fs) ∧ sp [.ref a] h1 Qd := by
          funext x h1
          rw [nthW_eq _ e1]
          show (∃ a fs, x = .ref a ∧ h1 a = some (.ins c fs) ∧ nthW F.fs j fun sp => sp [.ref a] h1 Qd) = _
          simp only [nthW_eq _ e2]
        have w : wpE F o ρ h fun (x : D) (h1 : DH) => nthW F.cv ci fun c => refW c fun C => ∃ a fs, x = .ref a ∧ h1 a = some (.ins C fs) ∧ nthW F.fs j fun sp => sp [.ref a] h1 Qd := w
        rw [ext] at w
        exact w
    · cases h
  | .isiO ci o, X, e, C, h => by
    unfold chkE at h
    split at h
    · rename_i x px y z pz pos
      obtain ⟨h, h7⟩ := band h
      obtain ⟨h, h6⟩ := band h
      obtain ⟨h, h5⟩ := band h
      obtain ⟨h, h4⟩ := band h
      obtain ⟨h, h3⟩ := band h
      obtain ⟨h1, h2⟩ := band h
      have h1 := of_decide_eq_true h1
      subst h1
      obtain ⟨c, e1, icc⟩ := C.ic ci (by simpa using h3)
      obtain ⟨d, u, v, a1, a2, a3, a4⟩ := C.cn ci z (of_decide_eq_true h4)
      have hm : X.mg z = some (.ref c) := by
        rw [e1] at a1
        cases a1
        have q : v = .ref c := a4 (fun _ => none)
        subst q
        rw [a2, show u = Value.ref c from a3]
      refine .val (pe_imp (le_isiO icc (glob_of rfl h2) (mg_bl C (by decide)) (glob_of rfl h5) hm (okName_of h6).1 (sndE o C h7).pe (star_cons (noStar h7).1)) fun σ H Q ⟨ρ, h, Qd, sr, hr, w, p⟩ => ⟨ρ, h, Qd, sr, hr, ?_, p⟩) rfl
      have ext : (fun (x : D) (h1 : DH) => nthW F.cv ci fun c => refW c fun C => ∃ a fs, x = .ref a ∧ h1 a = some (.ins C fs) ∧ Qd (.bl true) h1) = fun x h1 => ∃ a fs, x = .ref a ∧ h1 a = some (.ins c fs) ∧ Qd (.bl true) h1 := by
        funext x h1
        rw [nthW_eq _ e1]; rfl
      have w : wpE F o ρ h fun (x : D) (h1 : DH) => nthW F.cv ci fun c => refW c fun C => ∃ a fs, x = .ref a ∧ h1 a = some (.ins C fs) ∧ Qd (.bl true) h1 := w
      rw [ext] at w
      exact w
    · cases h
  | .lenO j ci o, X, e, C, h => by
    unfold chkE at h
    split at h
    · rename_i x px y pos
      obtain ⟨h, h4⟩ := band h
      obtain ⟨h, h3⟩ := band h
      obtain ⟨h1, h2⟩ := band h
      have h1 := of_decide_eq_true h1
      subst h1
      obtain ⟨c, sp, e1, e2, M⟩ := C.pr j ci "__len__" (by simpa using h3)
      obtain ⟨f, fd, ps, k, cl, po, Fn, rm, bd⟩ := M.ex
      cases po with
      | prop _ z => exact absurd z (by decide)
      | ne z _ _ _ _ _ => exact absurd z (by decide)
      | slot _ hs hf _ =>
        refine .val (pe_imp (le_lenO hs hf Fn rm bd (glob_of rfl h2) (mg_bl C (by decide)) (sndE o C h4).pe (star_cons (noStar h4).1)) fun σ H Q ⟨ρ, h, Qd, sr, hr, w, p⟩ => ⟨ρ, h, Qd, sr, hr, ?_, p⟩) rfl
        have ext : (fun (x : D) (h1 : DH) => nthW F.cv ci fun c => refW c fun C => ∃ a fs, x = .ref a ∧ h1 a = some (.ins C fs) ∧ nthW F.fs j fun sp => sp [.ref a] h1 fun y h2 => ∃ n : Nat, y = .int n ∧ n < 2 ^ 62 ∧ Qd y h2) = fun x h1 => ∃ a fs, x = .ref a ∧ h1 a = some (.ins c fs) ∧ sp [.ref a] h1 fun y h2 => ∃ n : Nat, y = .int n ∧ n < 2 ^ 62 ∧ Qd y h2 := by
          funext x h1
          rw [nthW_eq _ e1]
          show (∃ a fs, x = .ref a ∧ h1 a = some (.ins c fs) ∧ nthW F.fs j fun sp => sp [.ref a] h1 fun y h2 => ∃ n : Nat, y = .int n ∧ n < 2 ^ 62 ∧ Qd y h2) = _
          simp only [nthW_eq _ e2]
        have w : wpE F o ρ h fun (x : D) (h1 : DH) => nthW F.cv ci fun c => refW c fun C => ∃ a fs, x = .ref a ∧ h1 a = some (.ins C fs) ∧ nthW F.fs j fun sp => sp [.ref a] h1 fun y h2 => ∃ n : Nat, y = .int n ∧ n < 2 ^ 62 ∧ Qd y h2 := w
        rw [ext] at w
        exact w
    · cases h
  | .eqO j ci a b, X, e, C, h => by
    unfold chkE at h
    split at h
    · rename_i l o r pos
      obtain ⟨h, h4⟩ := band h
      obtain ⟨h, h3⟩ := band h
      obtain ⟨h1, h2⟩ := band h
      have h1 := of_decide_eq_true h1
      subst h1
      obtain ⟨c, sp, e1, e2, M⟩ := C.pr j ci "__eq__" (by simpa using h2)
      obtain ⟨f, fd, ps, k, cl, po, Fn, rm, bd⟩ := M.ex
      cases po with
      | prop _ z => exact absurd z (by decide)
      | ne z _ _ _ _ _ => exact absurd z (by decide)
      | slot _ hs hf nf =>
        have ext : ∀ Qd : WK, (fun (x y : D) (h2 : DH) => nthW F.cv ci fun c => refW c fun C => ∃ p q fs gs, x = .ref p ∧ y = .ref q ∧ h2 p = some (.ins C fs) ∧ h2 q = some (.ins C gs) ∧ nthW F.fs j fun sp => sp [.ref p, .ref q] h2 Qd) = fun x y h2 => ∃ p q fs gs, x = .ref p ∧ y = .ref q ∧ h2 p = some (.ins c fs) ∧ h2 q = some (.ins c gs) ∧ sp [.ref p, .ref q] h2 Qd := fun Qd => by
          funext x y h2
          rw [nthW_eq _ e1]
          show (∃ p q fs gs, x = .ref p ∧ y = .ref q ∧ h2 p = some (.ins c fs) ∧ h2 q = some (.ins c gs) ∧ nthW F.fs j fun sp => sp [.ref p, .ref q] h2 Qd) = _
          simp only [nthW_eq _ e2]
        have un : ∀ (ρ : DEnv) (h : DH) (Qd : WK), wpE F (.eqO j ci a b) ρ h Qd → wpE F a ρ h fun x h1 => wpE F b ρ h1 fun y h2 => ∃ p q fs gs, x = .ref p ∧ y = .ref q ∧ h2 p = some (.ins c fs) ∧ h2 q = some (.ins c gs) ∧ sp [.ref p, .ref q] h2 Qd := fun ρ h Qd w => by
          have w : wpE F a ρ h fun x h1 => wpE F b ρ h1 fun y h2 => (fun (x y : D) (h2 : DH) => nthW F.cv ci fun c => refW c fun C => ∃ p q fs gs, x = .ref p ∧ y = .ref q ∧ h2 p = some (.ins C fs) ∧ h2 q = some (.ins C gs) ∧ nthW F.fs j fun sp => sp [.ref p, .ref q] h2 Qd) x y h2 := w
          rw [ext Qd] at w
          exact w
        refine ⟨pe_imp (le_eqO nf hs hf Fn (rm.mono (Nat.le_succ k)) bd (sndE a C h3).pe (sndE b C h4).pe (noMark h4 _)) fun σ H Q ⟨ρ, h, Qd, sr, hr, w, p⟩ => ⟨ρ, h, Qd, sr, hr, un _ _ _ w, p⟩,
          fun _ => pt_imp (lt_eqO nf hs hf Fn (rm.mono (Nat.le_succ k)) bd (sndE a C h3).pe (sndE b C h4).pe (noMark h4 _)) fun σ H Q ⟨ρ, h, Qd, sr, hr, w, p⟩ => ⟨ρ, h, Qd, sr, hr, un _ _ _ w, p⟩, fun _ _ _ _ z => nomatch z⟩
    · cases h
  | .neO j ci a b, X, e, C, h => by
    unfold chkE at h
    split at h
    · rename_i l o r pos
      obtain ⟨h, h4⟩ := band h
      obtain ⟨h, h3⟩ := band h
      obtain ⟨h1, h2⟩ := band h
      have h1 := of_decide_eq_true h1
      subst h1
      obtain ⟨c, sp, e1, e2, M⟩ := C.pr j ci "__ne__" (by simpa using h2)
      obtain ⟨f, fd, ps, k, cl, po, Fn, rm, bd⟩ := M.ex
      cases po with
      | prop _ z => exact absurd z (by decide)
      | slot z _ _ _ => exact absurd z (by decide)
      | ne _ hne hm hs hf nf =>
        have ext : ∀ Qd : WK, (fun (x y : D) (h2 : DH) => nthW F.cv ci fun c => refW c fun C => ∃ p q fs gs, x = .ref p ∧ y = .ref q ∧ h2 p = some (.ins C fs) ∧ h2 q = some (.ins C gs) ∧ nthW F.fs j fun sp => sp [.ref p, .ref q] h2 fun z h3 => boolW z fun k => Qd (.bl (!k)) h3) = fun x y h2 => wNeO c sp x y h2 Qd := fun Qd => by
          funext x y h2
          rw [nthW_eq _ e1]
          show (∃ p q fs gs, x = .ref p ∧ y = .ref q ∧ h2 p = some (.ins c fs) ∧ h2 q = some (.ins c gs) ∧ nthW F.fs j fun sp => sp [.ref p, .ref q] h2 fun z h3 => boolW z fun k => Qd (.bl (!k)) h3) = _
          simp only [nthW_eq _ e2]
          rfl
        have un : ∀ (ρ : DEnv) (h : DH) (Qd : WK), wpE F (.neO j ci a b) ρ h Qd → wpE F a ρ h fun x h1 => wpE F b ρ h1 fun y h2 => wNeO c sp x y h2 Qd := fun ρ h Qd w => by
          have w : wpE F a ρ h fun x h1 => wpE F b ρ h1 fun y h2 => (fun (x y : D) (h2 : DH) => nthW F.cv ci fun c => refW c fun C => ∃ p q fs gs, x = .ref p ∧ y = .ref q ∧ h2 p = some (.ins C fs) ∧ h2 q = some (.ins C gs) ∧ nthW F.fs j fun sp => sp [.ref p, .ref q] h2 fun z h3 => boolW z fun k => Qd (.bl (!k)) h3) x y h2 := w
          rw [ext Qd] at w
          exact w
        refine ⟨pe_imp (le_neO nf hne hm hs hf Fn rm bd (sndE a C h3).pe (sndE b C h4).pe (noMark h4 _)) fun σ H Q ⟨ρ, h, Qd, sr, hr, w, p⟩ => ⟨ρ, h, Qd, sr, hr, un _ _ _ w, p⟩,
          fun _ => pt_imp (lt_neO nf hne hm hs hf Fn rm bd (sndE a C h3).pe (sndE b C h4).pe (noMark h4 _)) fun σ H Q ⟨ρ, h, Qd, sr, hr, w, p⟩ => ⟨ρ, h, Qd, sr, hr, un _ _ _ w, p⟩, fun _ _ _ _ z => nomatch z⟩
    · cases h
  | .meth j ci m o cs, X, e, C, h => by
    unfold chkE at h
    split at h
    · rename_i y g apos es pos
      obtain ⟨h, h7⟩ := band h
      obtain ⟨h, h6⟩ := band h
      obtain ⟨h, h5⟩ := band h
      obtain ⟨h, h4⟩ := band h
      obtain ⟨h, h3⟩ := band h
      obtain ⟨h1, h2⟩ := band h
      have h1 := of_decide_eq_true h1
      subst h1
      have h4 := of_decide_eq_true h4
      obtain ⟨c, sp, e1, e2, M⟩ := C.ms j ci m (by simpa using h2)
      obtain ⟨gd, f, fd, k, cl, me, Fn, hg, rm⟩ := M.ex
      have ext : ∀ (Qd : WK) (ρ : DEnv), (fun (x : D) (h1 : DH) => nthW F.cv ci fun c => refW c fun C => ∃ a fs, x = .ref a ∧ h1 a = some (.ins C fs) ∧ fs.lookup m = none ∧ wpL F cs ρ h1 fun ds h2 => nthW F.fs j fun sp => sp (.ref a :: ds) h2 Qd) =
          fun x h1 => ∃ a fs, x = .ref a ∧ h1 a = some (.ins c fs) ∧ fs.lookup m = none ∧ wpL F cs ρ h1 fun ds h2 => sp (.ref a :: ds) h2 Qd := by
        intro Qd ρ
        funext x h1
        rw [nthW_eq _ e1]
        have : ∀ a : Addr, (fun (ds : List D) (h2 : DH) => nthW F.fs j fun sp => sp (.ref a :: ds) h2 Qd) = fun ds h2 => sp (.ref a :: ds) h2 Qd := fun a => by
          funext ds h2
          rw [nthW_eq _ e2]
        simp only [refW, this]
      cases es with
      | nil =>
        cases cs with
        | cons c r => exact absurd h7 Bool.false_ne_true
        | nil =>
          refine .val (pe_imp (le_meth0 cl me Fn hg rm (sndE o C h6).pe h5 h3) fun σ H Q ⟨ρ, h, Qd, sr, hr, w, p⟩ => ⟨ρ, h, Qd, sr, hr, ?_, p⟩) rfl
          have w : wpE F o ρ h fun (x : D) (h1 : DH) => nthW F.cv ci fun c => refW c fun C => ∃ a fs, x = .ref a ∧ h1 a = some (.ins C fs) ∧ fs.lookup m = none ∧ wpL F .nil ρ h1 fun ds h2 => nthW F.fs j fun sp => sp (.ref a :: ds) h2 Qd := w
          rw [ext] at w
          exact w
      | cons z es =>
        have hs := star_all X.env h7
        have hy : starEach (z :: es) X.env = (false, eval z X.env) :: starEach es X.env := by
          cases cs with
          | nil => exact absurd h7 Bool.false_ne_true
          | cons c r =>
            have h5 : chkE N G c X.env.scope z = true ∧ chkL N G r X.env.scope es = true := by simpa [chkL] using h7
            exact star_cons (noStar h5.1).1
        have hs2 := hs
        rw [hy, List.all_cons, Bool.and_eq_true] at hs2
        refine .val (pe_imp (le_meth cl me Fn hg rm (sndE o C h6).pe h5 h3 (sndL cs C h7) hy hs h4 (back_any hs2.2)) fun σ H Q ⟨ρ, h, Qd, sr, hr, w, p⟩ => ⟨ρ, h, Qd, sr, hr, ?_, p⟩) rfl
        have w : wpE F o ρ h fun (x : D) (h1 : DH) => nthW F.cv ci fun c => refW c fun C => ∃ a fs, x = .ref a ∧ h1 a = some (.ins C fs) ∧ fs.lookup m = none ∧ wpL F cs ρ h1 fun ds h2 => nthW F.fs j fun sp => sp (.ref a :: ds) h2 Qd := w
        rw [ext] at w
        exact w
    · cases h
  | .make j ci cs, X, e, C, h => by
    unfold chkE at h
    split at h
    · rename_i x px es pos
      obtain ⟨h, h5⟩ := band h
      obtain ⟨h, h4⟩ := band h
      obtain ⟨h, h3⟩ := band h
      obtain ⟨h1, h2⟩ := band h
      have h2 := of_decide_eq_true h2
      obtain ⟨c, sp, e1, e2, M⟩ := C.mks j ci (by simpa using h1)
      obtain ⟨gd, f, fd, ps, k, mk, Fn, hg, rm, bd⟩ := M.ex
      obtain ⟨d, u, v, a1, a2, a3, a4⟩ := C.cn ci x h2
      have hm : X.mg x = some (.ref c) := by
        rw [e1] at a1
        cases a1
        have z : v = .ref c := a4 (fun _ => none)
        subst z
        rw [a2, show u = Value.ref c from a3]
      have hdb : (x == ("__debug__" : Str)) = false := by
        have := (band h4).1
        simpa using this
      have ext : ∀ Qd : WK, (fun (ds : List D) (h1 : DH) => nthW F.cv ci fun c => refW c fun C => nthW F.fs j fun sp => mkW C sp ds h1 Qd) = fun ds h1 => mkW c sp ds h1 Qd := by
        intro Qd
        funext ds h1
        rw [nthW_eq _ e1]
        show nthW F.fs j (fun sp => mkW c sp ds h1 Qd) = _
        rw [nthW_eq _ e2]
      cases es with
      | nil =>
        cases cs with
        | cons c r => exact absurd h5 Bool.false_ne_true
        | nil =>
          refine .val (pe_imp (le_make0 mk Fn hg rm (glob_of rfl h3) hm bd hdb) fun σ H Q ⟨ρ, h, Qd, sr, hr, w, p⟩ => ⟨ρ, h, Qd, sr, hr, ?_, p⟩) rfl
          have w : wpL F .nil ρ h fun (ds : List D) (h1 : DH) => nthW F.cv ci fun c => refW c fun C => nthW F.fs j fun sp => mkW C sp ds h1 Qd := w
          rw [ext] at w
          exact w
      | cons z es =>
        have hs := star_all X.env h5
        have hy : starEach (z :: es) X.env = (false, eval z X.env) :: starEach es X.env := by
          cases cs with
          | nil => exact absurd h5 Bool.false_ne_true
          | cons c r =>
            have h5 : chkE N G c X.env.scope z = true ∧ chkL N G r X.env.scope es = true := by simpa [chkL] using h5
            exact star_cons (noStar h5.1).1
        have hs2 := hs
        rw [hy, List.all_cons, Bool.and_eq_true] at hs2
        refine .val (pe_imp (le_make mk Fn hg rm (glob_of rfl h3) hm bd (sndL cs C h5) hdb hy (back_any hs2.2)) fun σ H Q ⟨ρ, h, Qd, sr, hr, w, p⟩ => ⟨ρ, h, Qd, sr, hr, ?_, p⟩) rfl
        have w : wpL F cs ρ h fun (ds : List D) (h1 : DH) => nthW F.cv ci fun c => refW c fun C => nthW F.fs j fun sp => mkW C sp ds h1 Qd := w
        rw [ext] at w
        exact w
    · cases h
  | .dix a b, X, e, C, h => by
    unfold chkE at h
    split at h
    · obtain ⟨h1, h2⟩ := band h
      exact .val (le_dix C.hu (sndE a C h1).pe (sndE b C h2).pe (nosl_of (noStar h2).2.1)) rfl
    · cases h
  | .din neg a b, X, e, C, h => by
    unfold chkE at h
    split at h
    · rename_i y o x pos
      obtain ⟨h, h3⟩ := band h
      obtain ⟨h1, h2⟩ := band h
      have h1 := of_decide_eq_true h1
      subst h1
      have key := le_din (pos := pos) C.hu neg (sndE a C h2).pe (sndE b C h3).pe (noMark h3 _)
      exact ⟨key, fun _ => lt_din C.hu neg (sndE a C h2).pe (sndE b C h3).pe (noMark h3 _), fun _ _ _ _ z => nomatch z⟩
    · cases h
  | .bm m o cs, X, e, C, h => by
    unfold chkE at h
    split at h
    · rename_i y f apos pos
      obtain ⟨h, h4⟩ := band h
      obtain ⟨h, h3⟩ := band h
      obtain ⟨h, h2⟩ := band h
      obtain ⟨h, h1⟩ := band h
      have hf := of_decide_eq_true (band h).2
      subst hf
      cases cs with
      | nil => exact .val (le_bm0 m (sndE o C h3).pe h2 h1) rfl
      | cons c r => exact absurd h4 Bool.false_ne_true
    · rename_i y f apos z es pos
      obtain ⟨h, h4⟩ := band h
      obtain ⟨h, h3⟩ := band h
      obtain ⟨h, h2⟩ := band h
      obtain ⟨h, h5⟩ := band h
      have h5 := of_decide_eq_true h5
      obtain ⟨h, h1⟩ := band h
      have hf := of_decide_eq_true (band h).2
      subst hf
      have hs := star_all X.env h4
      have hy : starEach (z :: es) X.env = (false, eval z X.env) :: starEach es X.env := by
        cases cs with
        | nil => exact absurd h4 Bool.false_ne_true
        | cons c r =>
          have h5 : chkE N G c X.env.scope z = true ∧ chkL N G r X.env.scope es = true := by simpa [chkL] using h4
          exact star_cons (noStar h5.1).1
      have hs2 := hs
      rw [hy, List.all_cons, Bool.and_eq_true] at hs2
      exact .val (le_bm m (sndE o C h3).pe h2 h1 (sndL cs C h4) hy hs h5 (back_any hs2.2)) rfl
    · cases h
  | .lrng1 a, X, e, C, h => by
    unfold chkE at h
    split at h
    · rename_i x px z pz y pos2 pos
      have h' : (((x = "list" ∧ z = "range") ∧ globB X.env.scope x = true) ∧ globB X.env.scope z = true) ∧ chkE N G a X.env.scope y = true := by simpa using h
      obtain ⟨⟨⟨⟨rfl, rfl⟩, h1⟩, h2⟩, h3⟩ := h'
      exact .val (le_lrng1 C.calm (glob_of rfl h1) (mg_bl C (by decide)) (glob_of rfl h2) (mg_bl C (by decide)) (sndE a C h3).pe (star_cons (noStar h3).1)) rfl
    · cases h
  | .lrng2 a b, X, e, C, h => by
    unfold chkE at h
    split at h
    · rename_i x px z pz y u pos2 pos
      have h' : ((((x = "list" ∧ z = "range") ∧ globB X.env.scope x = true) ∧ globB X.env.scope z = true) ∧ chkE N G a X.env.scope y = true) ∧ chkE N G b X.env.scope u = true := by simpa using h
      obtain ⟨⟨⟨⟨⟨rfl, rfl⟩, h1⟩, h2⟩, h3⟩, h4⟩ := h'
      exact .val (le_lrng2 C.calm (glob_of rfl h1) (mg_bl C (by decide)) (glob_of rfl h2) (mg_bl C (by decide)) (sndE a C h3).pe (sndE b C h4).pe (star_cons (noStar h3).1) (star_cons (noStar h4).1)) rfl
    · cases h
  | .lc elt tg it own cond, X, e, C, h => by
    unfold chkE at h
    split at h
    · rename_i y t i ifs scope pos
      obtain ⟨h, h7⟩ := band h
      obtain ⟨h, h6⟩ := band h
      obtain ⟨h, h5⟩ := band h
      obtain ⟨h, h4⟩ := band h
      obtain ⟨h, h3⟩ := band h
      obtain ⟨h1, h2⟩ := band h
      have hown : ∀ j ∈ ctS tg, j ∈ own.map (·.2) := fun j hj => by
        cases tg with
        | name k => simp only [ctS, List.mem_singleton] at hj; subst hj; simpa [ownB] using h2
        | tup is => have h2 : ∀ x ∈ is, (own.map (·.2)).contains x = true := by simpa [ownB] using h2
                    simpa using h2 j hj
      have tup : enumB it = true → ∃ es k p, t = .Tuple es k p := fun z => by
        rw [z] at h3
        have h3 : isTupT tg = true := by simpa using h3
        cases tg with
        | name k => cases h3
        | tup is => cases t with
          | Tuple es k p => exact ⟨es, k, p, rfl⟩
          | _ => exact absurd h5 Bool.false_ne_true
      refine .val (pe_imp (t := tLc (liftI X.K (wpI F it)) (liftG X.K (ctS tg) fun d ρ k => tgtW tg d ρ k) (liftB X.K (wpC F cond)) (lift X.K (wpE F elt)) (own.map (·.2))) (pe_lc (own := own) C.calm (by rw [C.hN]; exact C.nd) (sndI it C h4 tup) (blkOk_by (by rw [C.hN]; exact h1)) (fun s H A cl fp => ?_) (fun s H A cl fp => ?_) (fun s H A cl fp => ?_) (fun _ => ?_)) fun σ H Q l => ?_) rfl
      · exact lg_ok (X := X.blk s H scope (compEnvC scope cl A X.env) fp) (sc := relS scope X.env.scope) (top := fun x => scope.names.lookup x == some .cell) C.calm C.hN rfl C.nd (fun _ z => z) h5
      · exact sndC cond (C.blk ..) h6
      · exact (sndE elt (C.blk ..) h7).pe
      · exact noSetI h4
      · exact le_lc (elt := y) (t := t) (it := i) (ifs := ifs) (scope := scope) (pos := pos) hown l
    · cases h
  | .drop c, X, e, C, h => by
    have s := sndE c C h
    refine ⟨pe_imp s.pe fun σ H Q ⟨ρ, h, Qd, sr, hr, w, p⟩ => ⟨ρ, h, _, sr, hr, w, p.ret⟩, fun t => pt_imp (s.pt t) fun σ H Q l => drop_b l, fun t op vs pos z => ⟨fun wh pins s1 σ H Q I l => (s.pw t op vs pos z).run wh pins s1 σ H Q I (drop_b l)⟩⟩
  | .lock i c, X, e, C, h => by
    unfold chkE at h
    split at h
    · exact .val (le_lock (sndE c C h).pe) rfl
    · cases h
  | .dixF a b, X, e, C, h => by
    unfold chkE at h
    split at h
    · obtain ⟨h1, h2⟩ := band h
      exact .val (le_dixF C.hu (sndE a C h1).pe (sndE b C h2).pe (nosl_of (noStar h2).2.1)) rfl
    · cases h
  | .callK j ks cs, X, e, C, h => by
    unfold chkE at h
    split at h
    · rename_i x px kws pos
      obtain ⟨h, h5⟩ := band h
      obtain ⟨h, h4⟩ := band h
      obtain ⟨h, h3⟩ := band h
      obtain ⟨h1, h2⟩ := band h
      obtain ⟨g, f, fd, ps, k, is, sp, e1, Fn, hg, rm, mx, kp, kb⟩ := C.kw (.fn j x ks) (by simpa using h2)
      obtain ⟨k1, k2, k3, k4⟩ := kw_each (pos := pos) (env := X.env) h1
      refine .val (pe_imp (le_callK Fn hg rm (glob_of rfl h3) mx kp kb (sndK cs C h5) k1 k2 (okName_of h4).1 (kw_plain h1)) fun σ H Q ⟨ρ, h, Qd, sr, hr, w, p⟩ => ⟨ρ, h, Qd, sr, hr, ?_, p⟩) rfl
      have ext : (fun (ds : List D) (h1 : DH) => ds.length = ks.length ∧ nthW F.fs j fun sp => sp ds h1 Qd) = fun ds h1 => ds.length = ks.length ∧ spPerm is sp ds h1 Qd := by
        funext ds h1
        rw [nthW_eq _ e1]
      have w : wpL F cs ρ h fun (ds : List D) (h1 : DH) => ds.length = ks.length ∧ nthW F.fs j fun sp => sp ds h1 Qd := w
      rw [ext] at w
      exact w
    · cases h
  | .methK j ci m ks o cs, X, e, C, h => by
    unfold chkE at h
    split at h
    · rename_i y g apos kws pos
      obtain ⟨h, h8⟩ := band h
      obtain ⟨h, h7⟩ := band h
      obtain ⟨h, h6⟩ := band h
      obtain ⟨h, h5⟩ := band h
      obtain ⟨h, h4⟩ := band h
      obtain ⟨h, h3⟩ := band h
      obtain ⟨h1, h2⟩ := band h
      have h1 := of_decide_eq_true h1
      subst h1
      obtain ⟨c, gd, f, fd, ps, k, is, sp, e1, e2, cl, me, Fn, hg, rm, kb⟩ := C.kw (.meth j ci m ks) (by simpa using h3)
      obtain ⟨k1, k2, k3, k4⟩ := kw_each (pos := pos) (env := X.env) h2
      refine .val (pe_imp (le_methK cl me Fn hg rm kb (sndE o C h7).pe h6 h4 (sndK cs C h8) k1 k2 (kw_plain h2) (kw_form h2 (of_decide_eq_true h5))) fun σ H Q ⟨ρ, h, Qd, sr, hr, w, p⟩ => ⟨ρ, h, Qd, sr, hr, ?_, p⟩) rfl
      have ext : (fun (x : D) (h1 : DH) => nthW F.cv ci fun c => refW c fun C => ∃ a fs, x = .ref a ∧ h1 a = some (.ins C fs) ∧ fs.lookup m = none ∧ wpL F cs ρ h1 fun ds h2 => ds.length = ks.length ∧ nthW F.fs j fun sp => sp (.ref a :: ds) h2 Qd) =
          fun x h1 => ∃ a fs, x = .ref a ∧ h1 a = some (.ins c fs) ∧ fs.lookup m = none ∧ wpL F cs ρ h1 fun ds h2 => ds.length = ks.length ∧ sp (.ref a :: permL is ds) h2 Qd := by
        funext x h1
        rw [nthW_eq _ e1]
        have : ∀ a : Addr, (fun (ds : List D) (h2 : DH) => ds.length = ks.length ∧ nthW F.fs j fun sp => sp (.ref a :: ds) h2 Qd) = fun ds h2 => ds.length = ks.length ∧ sp (.ref a :: permL is ds) h2 Qd := fun a => by
          funext ds h2
          rw [nthW_eq _ e2]
          rfl
        simp only [refW, this]
      have w : wpE F o ρ h fun (x : D) (h1 : DH) => nthW F.cv ci fun c => refW c fun C => ∃ a fs, x = .ref a ∧ h1 a = some (.ins C fs) ∧ fs.lookup m = none ∧ wpL F cs ρ h1 fun ds h2 => ds.length = ks.length ∧ nthW F.fs j fun sp => sp (.ref a :: ds) h2 Qd := w
      rw [ext] at w
      exact w
    · cases h
  | .makeK j ci ks cs, X, e, C, h => by
    unfold chkE at h
    split at h
    · rename_i x px kws pos
      obtain ⟨h, h6⟩ := band h
      obtain ⟨h, h5⟩ := band h
      obtain ⟨h, h4⟩ := band h
      obtain ⟨h, h3⟩ := band h
      obtain ⟨h1, h2⟩ := band h
      obtain ⟨c, gd, f, fd, ps, k, is, sp, e1, e2, mk, Fn, hg, rm, kb⟩ := C.kw (.make j ci ks) (by simpa using h2)
      obtain ⟨k1, k2, k3, k4⟩ := kw_each (pos := pos) (env := X.env) h1
      obtain ⟨d, u, v, a1, a2, a3, a4⟩ := C.cn ci x (of_decide_eq_true h3)
      have hm : X.mg x = some (.ref c) := by
        rw [e1] at a1
        cases a1
        have z : v = .ref c := a4 (fun _ => none)
        subst z
        rw [a2, show u = Value.ref c from a3]
      refine .val (pe_imp (le_makeK mk Fn hg rm (glob_of rfl h4) hm kb (sndK cs C h6) k1 k2 (okName_of h5).1 (kw_plain h1)) fun σ H Q ⟨ρ, h, Qd, sr, hr, w, p⟩ => ⟨ρ, h, Qd, sr, hr, ?_, p⟩) rfl
      have ext : (fun (ds : List D) (h1 : DH) => ds.length = ks.length ∧ nthW F.cv ci fun c => refW c fun C => nthW F.fs j fun sp => mkW C sp ds h1 Qd) = fun ds h1 => ds.length = ks.length ∧ mkW c sp (permL is ds) h1 Qd := by
        funext ds h1
        rw [nthW_eq _ e1]
        show (ds.length = ks.length ∧ nthW F.fs j fun sp => mkW c sp ds h1 Qd) = _
        rw [nthW_eq _ e2]
        rfl
      have w : wpL F cs ρ h fun (ds : List D) (h1 : DH) => ds.length = ks.length ∧ nthW F.cv ci fun c => refW c fun C => nthW F.fs j fun sp => mkW C sp ds h1 Qd := w
      rw [ext] at w
      exact w
    · cases h
  | .eqA j ci a b, X, e, C, h => by
    unfold chkE at h
    split at h
    · rename_i l o r pos
      obtain ⟨h, h4⟩ := band h
      obtain ⟨h, h3⟩ := band h
      obtain ⟨h1, h2⟩ := band h
      have h1 := of_decide_eq_true h1
      subst h1
      obtain ⟨c, sp, f, fd, ps, k, e1, e2, sl, t, Fn, rm, bd⟩ := C.kw (.eqA j ci) (by simpa using h2)
      have ext : ∀ Qd : WK, (fun (x y : D) (h2 : DH) => nthW F.cv ci fun c => refW c fun C => ∃ p fs k, x = .ref p ∧ h2 p = some (.ins C fs) ∧ insD C y h2 = some k ∧ nthW F.fs j fun sp => sp [.ref p, y] h2 Qd) = fun x y h2 => wEqA c sp x y h2 Qd := fun Qd => by
        funext x y h2
        rw [nthW_eq _ e1]
        show (∃ p fs k, x = .ref p ∧ h2 p = some (.ins c fs) ∧ insD c y h2 = some k ∧ nthW F.fs j fun sp => sp [.ref p, y] h2 Qd) = _
        simp only [nthW_eq _ e2]
        rfl
      have un : ∀ (ρ : DEnv) (h : DH) (Qd : WK), wpE F (.eqA j ci a b) ρ h Qd → wpE F a ρ h fun x h1 => wpE F b ρ h1 fun y h2 => wEqA c sp x y h2 Qd := fun ρ h Qd w => by
        have w : wpE F a ρ h fun x h1 => wpE F b ρ h1 fun y h2 => (fun (x y : D) (h2 : DH) => nthW F.cv ci fun c => refW c fun C => ∃ p fs k, x = .ref p ∧ h2 p = some (.ins C fs) ∧ insD C y h2 = some k ∧ nthW F.fs j fun sp => sp [.ref p, y] h2 Qd) x y h2 := w
        rw [ext Qd] at w
        exact w
      have op := op_eqA (X := X) sl.find sl.fn Fn (rm.mono (Nat.le_succ k)) bd
      refine ⟨pe_imp (le_cmpX op (sim_eqA t) (sndE a C h3).pe (sndE b C h4).pe (noMark h4 _)) fun σ H Q ⟨ρ, h, Qd, sr, hr, w, p⟩ => ⟨ρ, h, Qd, sr, hr, un _ _ _ w, p⟩,
        fun _ => pt_imp (lt_cmpX op (sim_eqA t) (sndE a C h3).pe (sndE b C h4).pe (noMark h4 _)) fun σ H Q ⟨ρ, h, Qd, sr, hr, w, p⟩ => ⟨ρ, h, Qd, sr, hr, un _ _ _ w, p⟩, fun _ _ _ _ z => nomatch z⟩
    · cases h
  | .neA j ci a b, X, e, C, h => by
    unfold chkE at h
    split at h
    · rename_i l o r pos
      obtain ⟨h, h4⟩ := band h
      obtain ⟨h, h3⟩ := band h
      obtain ⟨h1, h2⟩ := band h
      have h1 := of_decide_eq_true h1
      subst h1
      obtain ⟨c, sp, f, fd, ps, k, e1, e2, sl, t, hne, Fn, rm, bd⟩ := C.kw (.neA j ci) (by simpa using h2)
      have ext : ∀ Qd : WK, (fun (x y : D) (h2 : DH) => nthW F.cv ci fun c => refW c fun C => ∃ p fs k, x = .ref p ∧ h2 p = some (.ins C fs) ∧ insD C y h2 = some k ∧ nthW F.fs j fun sp => sp [.ref p, y] h2 fun z h3 => boolW z fun k => Qd (.bl (!k)) h3) = fun x y h2 => wNeA c sp x y h2 Qd := fun Qd => by
        funext x y h2
        rw [nthW_eq _ e1]
        show (∃ p fs k, x = .ref p ∧ h2 p = some (.ins c fs) ∧ insD c y h2 = some k ∧ nthW F.fs j fun sp => sp [.ref p, y] h2 fun z h3 => boolW z fun k => Qd (.bl (!k)) h3) = _
        simp only [nthW_eq _ e2]
        rfl
      have un : ∀ (ρ : DEnv) (h : DH) (Qd : WK), wpE F (.neA j ci a b) ρ h Qd → wpE F a ρ h fun x h1 => wpE F b ρ h1 fun y h2 => wNeA c sp x y h2 Qd := fun ρ h Qd w => by
        have w : wpE F a ρ h fun x h1 => wpE F b ρ h1 fun y h2 => (fun (x y : D) (h2 : DH) => nthW F.cv ci fun c => refW c fun C => ∃ p fs k, x = .ref p ∧ h2 p = some (.ins C fs) ∧ insD C y h2 = some k ∧ nthW F.fs j fun sp => sp [.ref p, y] h2 fun z h3 => boolW z fun k => Qd (.bl (!k)) h3) x y h2 := w
        rw [ext Qd] at w
        exact w
      have op := op_neA (X := X) hne t.ic.hm sl.find sl.fn Fn rm bd
      refine ⟨pe_imp (le_cmpX op (sim_neA t) (sndE a C h3).pe (sndE b C h4).pe (noMark h4 _)) fun σ H Q ⟨ρ, h, Qd, sr, hr, w, p⟩ => ⟨ρ, h, Qd, sr, hr, un _ _ _ w, p⟩,
        fun _ => pt_imp (lt_cmpX op (sim_neA t) (sndE a C h3).pe (sndE b C h4).pe (noMark h4 _)) fun σ H Q ⟨ρ, h, Qd, sr, hr, w, p⟩ => ⟨ρ, h, Qd, sr, hr, un _ _ _ w, p⟩, fun _ _ _ _ z => nomatch z⟩
    · cases h
  | .inO j ci a b, X, e, C, h => by
    unfold chkE at h
    split at h
    · rename_i l o r pos
      obtain ⟨h, h4⟩ := band h
      obtain ⟨h, h3⟩ := band h
      obtain ⟨h1, h2⟩ := band h
      have h1 := of_decide_eq_true h1
      subst h1
      obtain ⟨c, sp, f, fd, ps, k, e1, e2, sl, Fn, rm, bd⟩ := C.kw (.inO j ci) (by simpa using h2)
      have ext : ∀ Qd : WK, (fun (y x : D) (h2 : DH) => nthW F.cv ci fun c => refW c fun C => ∃ p fs, x = .ref p ∧ h2 p = some (.ins C fs) ∧ nthW F.fs j fun sp => sp [.ref p, y] h2 fun z h3 => boolW z fun k => Qd (.bl k) h3) = fun y x h2 => wInO c sp y x h2 Qd := fun Qd => by
        funext y x h2
        rw [nthW_eq _ e1]
        show (∃ p fs, x = .ref p ∧ h2 p = some (.ins c fs) ∧ nthW F.fs j fun sp => sp [.ref p, y] h2 fun z h3 => boolW z fun k => Qd (.bl k) h3) = _
        simp only [nthW_eq _ e2]
        rfl
      have un : ∀ (ρ : DEnv) (h : DH) (Qd : WK), wpE F (.inO j ci a b) ρ h Qd → wpE F a ρ h fun x h1 => wpE F b ρ h1 fun y h2 => wInO c sp x y h2 Qd := fun ρ h Qd w => by
        have w : wpE F a ρ h fun y h1 => wpE F b ρ h1 fun x h2 => (fun (y x : D) (h2 : DH) => nthW F.cv ci fun c => refW c fun C => ∃ p fs, x = .ref p ∧ h2 p = some (.ins C fs) ∧ nthW F.fs j fun sp => sp [.ref p, y] h2 fun z h3 => boolW z fun k => Qd (.bl k) h3) y x h2 := w
        rw [ext Qd] at w
        exact w
      have op := op_inO (X := X) sl.find sl.fn Fn (rm.mono (Nat.le_succ k)) bd
      refine ⟨pe_imp (le_cmpX op sim_inO (sndE a C h3).pe (sndE b C h4).pe (noMark h4 _)) fun σ H Q ⟨ρ, h, Qd, sr, hr, w, p⟩ => ⟨ρ, h, Qd, sr, hr, un _ _ _ w, p⟩,
        fun _ => pt_imp (lt_cmpX op sim_inO (sndE a C h3).pe (sndE b C h4).pe (noMark h4 _)) fun σ H Q ⟨ρ, h, Qd, sr, hr, w, p⟩ => ⟨ρ, h, Qd, sr, hr, un _ _ _ w, p⟩, fun _ _ _ _ z => nomatch z⟩
    · cases h
  | .isA ci o, X, e, C, h => by
    unfold chkE at h
    split at h
    · rename_i x px y z pz pos
      obtain ⟨h, h7⟩ := band h
      obtain ⟨h, h6⟩ := band h
      obtain ⟨h, h5⟩ := band h
      obtain ⟨h, h4⟩ := band h
      obtain ⟨h, h3⟩ := band h
      obtain ⟨h1, h2⟩ := band h
      have h1 := of_decide_eq_true h1
      subst h1
      obtain ⟨c, e1, t⟩ := C.kw (.isA ci) (by simpa using h3)
      obtain ⟨d, u, v, a1, a2, a3, a4⟩ := C.cn ci z (of_decide_eq_true h4)
      have hm : X.mg z = some (.ref c) := by
        rw [e1] at a1
        cases a1
        have q : v = .ref c := a4 (fun _ => none)
        subst q
        rw [a2, show u = Value.ref c from a3]
      refine .val (pe_imp (le_isA t (glob_of rfl h2) (mg_bl C (by decide)) (glob_of rfl h5) hm (okName_of h6).1 (sndE o C h7).pe (star_cons (noStar h7).1)) fun σ H Q ⟨ρ, h, Qd, sr, hr, w, p⟩ => ⟨ρ, h, Qd, sr, hr, ?_, p⟩) rfl
      have ext : (fun (x : D) (h1 : DH) => nthW F.cv ci fun c => refW c fun C => ∃ k, insD C x h1 = some k ∧ Qd (.bl k) h1) = fun x h1 => ∃ k, insD c x h1 = some k ∧ Qd (.bl k) h1 := by
        funext x h1
        rw [nthW_eq _ e1]; rfl
      have w : wpE F o ρ h fun (x : D) (h1 : DH) => nthW F.cv ci fun c => refW c fun C => ∃ k, insD C x h1 = some k ∧ Qd (.bl k) h1 := w
      rw [ext] at w
      exact w
    · cases h
  | .mkx0 ci, X, e, C, h => by
    unfold chkE at h
    split at h
    · rename_i x px pos
      obtain ⟨h, h4⟩ := band h
      obtain ⟨h, h3⟩ := band h
      obtain ⟨h1, h2⟩ := band h
      obtain ⟨c, e1, kp, ex⟩ := C.kw (.mkx ci none) (by simpa using h1)
      obtain ⟨d, u, v, a1, a2, a3, a4⟩ := C.cn ci x (of_decide_eq_true h2)
      have hm : X.mg x = some (.ref c) := by
        rw [e1] at a1
        cases a1
        have q : v = .ref c := a4 (fun _ => none)
        subst q
        rw [a2, show u = Value.ref c from a3]
      refine .val (pe_imp (le_mkx0 ex hm kp (glob_of rfl h3) (okName_of h4).1) fun σ H Q ⟨ρ, h, Qd, sr, hr, w, p⟩ => ⟨ρ, h, Qd, sr, hr, ?_, p⟩) rfl
      have w : nthW F.cv ci fun c => refW c fun C => Qd (.exc C "" []) h := w
      rw [nthW_eq _ e1] at w
      exact w
    · cases h
  | .mkx1 ci f o, X, e, C, h => by
    unfold chkE at h
    split at h
    · rename_i x px y pos
      obtain ⟨h, h5⟩ := band h
      obtain ⟨h, h4⟩ := band h
      obtain ⟨h, h3⟩ := band h
      obtain ⟨h1, h2⟩ := band h
      obtain ⟨c, e1, ow⟩ := C.kw (.mkx ci (some f)) (by simpa using h1)
      obtain ⟨d, u, v, a1, a2, a3, a4⟩ := C.cn ci x (of_decide_eq_true h2)
      have hm : X.mg x = some (.ref c) := by
        rw [e1] at a1
        cases a1
        have q : v = .ref c := a4 (fun _ => none)
        subst q
        rw [a2, show u = Value.ref c from a3]
      refine .val (pe_imp (le_mkx1 ow (glob_of rfl h3) hm (sndE o C h5).pe (okName_of h4).1 (star_cons (noStar h5).1)) fun σ H Q ⟨ρ, h, Qd, sr, hr, w, p⟩ => ⟨ρ, h, Qd, sr, hr, ?_, p⟩) rfl
      have ext : (fun (x : D) (h1 : DH) => nthW F.cv ci fun c => refW c fun C => Qd (.exc C f [x]) h1) = fun x h1 => Qd (.exc c f [x]) h1 := by
        funext x h1
        rw [nthW_eq _ e1]; rfl
      have w : wpE F o ρ h fun (x : D) (h1 : DH) => nthW F.cv ci fun c => refW c fun C => Qd (.exc C f [x]) h1 := w
      rw [ext] at w
      exact w
    · cases h
  | .isX j z o, X, e, C, h => by
    unfold chkE at h
    split at h
    · rename_i x px y z' pz pos
      obtain ⟨h, h7⟩ := band h
      obtain ⟨h, h6⟩ := band h
      obtain ⟨h, h5⟩ := band h
      obtain ⟨h, h4⟩ := band h
      obtain ⟨h, h3⟩ := band h
      obtain ⟨h1, h2⟩ := band h
      have h1 := of_decide_eq_true h1
      have h4 := of_decide_eq_true h4
      subst h1 h4
      obtain ⟨sp, c, cv, e1, cn, is⟩ := C.kw (.isX j z) (by simpa using h3)
      refine .val (pe_imp (le_isX cn is (glob_of rfl h2) (mg_bl C (by decide)) (glob_of rfl h5) (okName_of h6).1 (sndE o C h7).pe (star_cons (noStar h7).1)) fun σ H Q ⟨ρ, h, Qd, sr, hr, w, p⟩ => ⟨ρ, h, Qd, sr, hr, ?_, p⟩) rfl
      have ext : (fun (x : D) (h1 : DH) => nthW F.fs j fun sp => sp [x] h1 Qd) = fun x h1 => sp [x] h1 Qd := by
        funext x h1
        rw [nthW_eq _ e1]
      have w : wpE F o ρ h fun (x : D) (h1 : DH) => nthW F.fs j fun sp => sp [x] h1 Qd := w
      rw [ext] at w
      exact w
    · cases h
  | .fldX ci f o, X, e, C, h => by
    unfold chkE at h
    split at h
    · rename_i y g pos
      obtain ⟨h, h4⟩ := band h
      obtain ⟨h, h3⟩ := band h
      obtain ⟨h1, h2⟩ := band h
      have h1 := of_decide_eq_true h1
      subst h1
      obtain ⟨c, e1, xf, no⟩ := C.kw (.fldX ci f) (by simpa using h2)
      refine .val (pe_imp (le_fldX xf no (sndE o C h4).pe h3) fun σ H Q ⟨ρ, h, Qd, sr, hr, w, p⟩ => ⟨ρ, h, Qd, sr, hr, ?_, p⟩) rfl
      have ext : (fun (x : D) (h1 : DH) => nthW F.cv ci fun c => refW c fun C => ∃ y, x = .exc C f [y] ∧ Qd y h1) = fun x h1 => ∃ y, x = .exc c f [y] ∧ Qd y h1 := by
        funext x h1
        rw [nthW_eq _ e1]; rfl
      have w : wpE F o ρ h fun (x : D) (h1 : DH) => nthW F.cv ci fun c => refW c fun C => ∃ y, x = .exc C f [y] ∧ Qd y h1 := w
      rw [ext] at w
      exact w
    · cases h
theorem sndK : ∀ (cs : CL) {X : Cx} {kws : List Keyword}, Ctx N G F X → chkL N G cs X.env.scope (kws.map (·.value)) = true → PK X kws (liftL X.K (wpL F cs))
  | .nil, X, kws, C, h => by
    cases kws with
    | nil => exact lk_nil
    | cons e es => exact absurd h Bool.false_ne_true
  | .cons c r, X, kws, C, h => by
    cases kws with
    | nil => exact absurd h Bool.false_ne_true
    | cons kw kws =>
      obtain ⟨nm, v, kp⟩ := kw
      have h' : chkE N G c X.env.scope v = true ∧ chkL N G r X.env.scope (kws.map (·.value)) = true := by simpa [chkL] using h
      exact lk_cons (sndE c C h'.1).pe (sndK r C h'.2)
theorem sndL : ∀ (cs : CL) {X : Cx} {es : List Expr}, Ctx N G F X → chkL N G cs X.env.scope es = true → PA X es (liftL X.K (wpL F cs))
  | .nil, X, es, C, h => by
    cases es with
    | nil => exact la_nil
    | cons e es => exact absurd h Bool.false_ne_true
  | .cons c r, X, es, C, h => by
    cases es with
    | nil => exact absurd h Bool.false_ne_true
    | cons e es =>
      have h' : chkE N G c X.env.scope e = true ∧ chkL N G r X.env.scope es = true := by simpa [chkL] using h
      exact la_cons (sndE c C h'.1).pe (sndL r C h'.2) (star_cons (noStar h'.1).1)
theorem sndO : ∀ (o : CO) {X : Cx} {e : Option Expr}, Ctx N G F X → chkO N G o X.env.scope e = true → PO X e (liftB X.K (wpO F o))
  | .no, X, e, C, h => by
    cases e with
    | none => exact lo_no
    | some e => exact absurd h Bool.false_ne_true
  | .yes c, X, e, C, h => by
    cases e with
    | none => exact absurd h Bool.false_ne_true
    | some e => exact lo_yes (sndE c C h).pe
theorem sndC : ∀ (o : CO) {X : Cx} {es : List Expr}, Ctx N G F X → chkCs N G o X.env.scope es = true → PTs X es (liftB X.K (wpC F o))
  | .no, X, es, C, h => by
    cases es with
    | nil => exact ⟨fun pins s σ H Q I ⟨ρ, h, Qd, sr, hr, w, p⟩ => pts_nil.run pins s σ H Q I (p.here hr w)⟩
    | cons e es => exact absurd h Bool.false_ne_true
  | .yes c, X, es, C, h => by
    unfold chkCs at h
    split at h
    · have h' := band h
      exact ⟨fun pins s σ H Q I l => (pts_one ((sndE c C h'.2).pt h'.1)).run pins s σ H Q I l⟩
    · cases h
theorem sndI : ∀ (ci : CI) {X : Cx} {tg e : Expr}, Ctx N G F X → chkI N G ci X.env.scope e = true → (enumB ci = true → ∃ es k p, tg = .Tuple es k p) → PI X tg e (liftI X.K (wpI F ci))
  | .seq c, X, tg, e, C, h, _ => li_seq (sndE c C h).pe
  | .rng1 c, X, tg, e, C, h, _ => by
    unfold chkI at h
    split at h
    · rename_i x px y pos
      have h' : (x = "range" ∧ globB X.env.scope x = true) ∧ chkE N G c X.env.scope y = true := by simpa using h
      obtain ⟨⟨rfl, h1⟩, h2⟩ := h'
      exact li_rng1 (glob_of rfl h1) (mg_bl C (by decide)) (sndE c C h2).pe (star_cons (noStar h2).1)
    · cases h
  | .rng2 a b, X, tg, e, C, h, _ => by
    unfold chkI at h
    split at h
    · rename_i x px y z pos
      have h' : ((x = "range" ∧ globB X.env.scope x = true) ∧ chkE N G a X.env.scope y = true) ∧ chkE N G b X.env.scope z = true := by simpa using h
      obtain ⟨⟨⟨rfl, h1⟩, h2⟩, h3⟩ := h'
      exact li_rng2 (glob_of rfl h1) (mg_bl C (by decide)) (sndE a C h2).pe (sndE b C h3).pe (star_cons (noStar h2).1) (star_cons (noStar h3).1)
    · cases h
  | .enum c, X, tg, e, C, h, t => by
    obtain ⟨es, k, p, rfl⟩ := t rfl
    unfold chkI at h
    split at h
    · rename_i x px y pos
      have h' : (x = "enumerate" ∧ globB X.env.scope x = true) ∧ chkE N G c X.env.scope y = true := by simpa using h
      obtain ⟨⟨rfl, h1⟩, h2⟩ := h'
      exact li_enum (glob_of rfl h1) (mg_bl C (by decide)) (sndE c C h2).pe (star_cons (noStar h2).1)
    · cases h
  | .zip a b, X, tg, e, C, h, t => by
    obtain ⟨es, k, p, rfl⟩ := t rfl
    unfold chkI at h
    split at h
    · rename_i x px y z pos
      have h' : ((x = "zip" ∧ globB X.env.scope x = true) ∧ chkE N G a X.env.scope y = true) ∧ chkE N G b X.env.scope z = true := by simpa using h
      obtain ⟨⟨⟨rfl, h1⟩, h2⟩, h3⟩ := h'
      exact li_zip (glob_of rfl h1) (mg_bl C (by decide)) (sndE a C h2).pe (sndE b C h3).pe (star_cons (noStar h2).1) (star_cons (noStar h3).1)
    · cases h
  | .keys c, X, tg, e, C, h, _ => li_keys (sndE c C h).pe
  | .zip3 a b c, X, tg, e, C, h, t => by
    obtain ⟨es, k, p, rfl⟩ := t rfl
    unfold chkI at h
    split at h
    · rename_i x px y z u pos
      have h' : (((x = "zip" ∧ globB X.env.scope x = true) ∧ chkE N G a X.env.scope y = true) ∧ chkE N G b X.env.scope z = true) ∧ chkE N G c X.env.scope u = true := by simpa using h
      obtain ⟨⟨⟨⟨rfl, h1⟩, h2⟩, h3⟩, h4⟩ := h'
      exact li_zip3 (glob_of rfl h1) (mg_bl C (by decide)) (sndE a C h2).pe (sndE b C h3).pe (sndE c C h4).pe (star_cons (noStar h2).1) (star_cons (noStar h3).1) (star_cons (noStar h4).1)
    · cases h
  | .own ci f c, X, tg, e, C, h, _ => by
    obtain ⟨h1, h2⟩ := band (show (G.it.contains (ci, f) && chkE N G c X.env.scope e) = true from h)
    obtain ⟨cl, e1, O, mi, rm⟩ := C.it ci f (by simpa using h1)
    refine pi_imp (li_own O mi rm (sndE c C h2).pe) fun σ H R ⟨ρ, h, Kd, sr, hr, w, p⟩ => ⟨ρ, h, Kd, sr, hr, ?_, p⟩
    have ext : (fun (x : D) (h1 : DH) => nthW F.cv ci fun c => refW c fun C => ∃ a fs xs, x = .ref a ∧ h1 a = some (.ins C fs) ∧ fs.lookup f = some (.tup xs) ∧ Kd xs (fun _ => True) h1) = fun x h1 => ∃ a fs xs, x = .ref a ∧ h1 a = some (.ins cl fs) ∧ fs.lookup f = some (.tup xs) ∧ Kd xs (fun _ => True) h1 := by
      funext x h1
      rw [nthW_eq _ e1]; rfl
    have w : wpE F c ρ h fun (x : D) (h1 : DH) => nthW F.cv ci fun c => refW c fun C => ∃ a fs xs, x = .ref a ∧ h1 a = some (.ins C fs) ∧ fs.lookup f = some (.tup xs) ∧ Kd xs (fun _ => True) h1 := w
    rw [ext] at w
    exact w
end
end
end DL

set_option Elab.async false
set_option linter.all false
set_option maxRecDepth 100000
set_option maxHeartbeats 4000000
/-! DL11: statements. -/
namespace DL
open PySem PySem.Spec PyProof.Rows L2
mutual
inductive CS where
  | pass
  | brk
  | cont
  | ex (e : CE)
  | set (i : Nat) (e : CE)
  | setT (is : List Nat) (e : CE)
  | par (is : List Nat) (es : CL)
  | six (o i v : CE)
  | fset (ci : Nat) (f : Str) (o v : CE)
  | dset (d k v : CE)
  | ret (e : CE)
  | retN
  | ite (c : CE) (a b : CB)
  | loop (tg : CT) (it : CI) (b : CB)
  | whl (c : CE) (b : CB)
  | never
inductive CB where
  | nil
  | cons (s : CS) (r : CB)
  | cut (s : CS) (r : CB)
  | stop
end
structure DEnds where
  nx : DEnv → DH → Prop
  rt : WK
  bk : DEnv → DH → Prop := fun _ _ => False
  ct : DEnv → DH → Prop := fun _ _ => False
def loopW (g : DH → Prop) (turn : D → DEnv → DH → (DEnv → DH → Prop) → Prop) (nx : DEnv → DH → Prop) : List D → DEnv → DH → Prop
  | [], ρ, h => g h ∧ nx ρ h
  | x :: xs, ρ, h => g h ∧ turn x ρ h fun ρ1 h1 => loopW g turn nx xs ρ1 h1
def fSet : D → D → D → DH → (DH → Prop) → Prop
  | .ref p, .int k, x, h, Q => ∃ xs n, h p = some (.lst xs) ∧ ixN xs.length k = some n ∧ Q (dupd h p (.lst (xs.set n x)))
  | _, _, _, _, _ => False
mutual
def wpS (F : Fx) : CS → DEnv → DH → DEnds → Prop
  | .pass, ρ, h, E => E.nx ρ h
  | .brk, ρ, h, E => E.bk ρ h
  | .cont, ρ, h, E => E.ct ρ h
  | .ex e, ρ, h, E => wpE F e ρ h fun _ h1 => E.nx ρ h1
  | .set i e, ρ, h, E => wpE F e ρ h fun d h1 => E.nx (ρ.set i (some d)) h1
  | .setT is e, ρ, h, E => wpE F e ρ h fun d h1 => tgtW (.tup is) d ρ fun ρ1 => E.nx ρ1 h1
  | .par is es, ρ, h, E => wpL F es ρ h fun ds h1 => ds.length = is.length ∧ E.nx (setAll ρ is ds) h1
  | .six o i v, ρ, h, E => wpE F v ρ h fun x h1 => wpE F o ρ h1 fun a h2 => wpE F i ρ h2 fun j h3 => fSet a j x h3 fun h4 => E.nx ρ h4
  | .fset ci f o v, ρ, h, E => wpE F v ρ h fun y h1 => wpE F o ρ h1 fun x h2 => nthW F.cv ci fun c => refW c fun C => ∃ a fs, x = .ref a ∧ h2 a = some (.ins C fs) ∧ fs.length < 1000 ∧ E.nx ρ (dupd h2 a (.ins C (putD f y fs)))
  | .dset d k v, ρ, h, E => wpE F v ρ h fun x h1 => wpE F d ρ h1 fun a h2 => wpE F k ρ h2 fun y h3 => dputW a y x h3 fun h4 => E.nx ρ h4
  | .ret e, ρ, h, E => wpE F e ρ h E.rt
  | .retN, ρ, h, E => E.rt .non h
  | .ite c a b, ρ, h, E => wpE F c ρ h fun x h1 => boolW x fun k => iteW k (wpB F a ρ h1 E) (wpB F b ρ h1 E)
  | .loop tg it b, ρ, h, E => wpI F it ρ h fun xs g h1 => loopW g (fun x ρ1 h2 N => tgtW tg x ρ1 fun ρ2 => wpB F b ρ2 h2 { nx := N, ct := N, bk := E.nx, rt := E.rt }) E.nx xs ρ h1
  | .whl c b, ρ, h, E => ∃ W : Nat → DEnv → DH → Prop, (∃ m, W m ρ h) ∧ ∀ m ρ h, W m ρ h → wpE F c ρ h fun x h1 => boolW x fun k =>
      iteW k (wpB F b ρ h1 { nx := fun ρ2 h2 => ∃ m', m' < m ∧ W m' ρ2 h2, ct := fun ρ2 h2 => ∃ m', m' < m ∧ W m' ρ2 h2, bk := E.nx, rt := E.rt }) (E.nx ρ h1)
  | .never, _, _, _ => False
def wpB (F : Fx) : CB → DEnv → DH → DEnds → Prop
  | .nil, ρ, h, E => E.nx ρ h
  | .cons s r, ρ, h, E => wpS F s ρ h { nx := fun ρ1 h1 => wpB F r ρ1 h1 E, rt := E.rt, bk := E.bk, ct := E.ct }
  | .cut s r, ρ, h, E => ∃ Mid : DEnv → DH → Prop, wpS F s ρ h { nx := Mid, rt := E.rt, bk := E.bk, ct := E.ct } ∧ ∀ ρ1 h1, Mid ρ1 h1 → wpB F r ρ1 h1 E
  | .stop, _, _, _ => False
end

/-! ### the check -/
/-- is the store of a comprehension swapped -/
def swB (sc : Scope) (e : Expr) (x : Str) (tp : Pos) : Bool :=
  match e with
  | .ListComp _ _ s pos => sc.names.lookup x == some .local && tp.line == pos.line && !(s.names.any fun (n, k) => n == x && (k == .local || k == .cell))
  | _ => false
def noComp : Expr → Bool
  | .ListComp _ _ _ _ => false
  | .SetComp _ _ _ _ => false
  | .DictComp _ _ _ _ _ => false
  | _ => true
def noComp2 : Expr → Bool
  | .SetComp _ _ _ _ => false
  | .DictComp _ _ _ _ _ => false
  | _ => true
theorem swaps_none {e : Expr} {line : Nat} {env : Env} (h : noComp e = true) : swapsWith e none line env = pure false := by
  cases e with
  | ListComp _ _ _ _ => cases h
  | SetComp _ _ _ _ => cases h
  | DictComp _ _ _ _ _ => cases h
  | _ => rfl
theorem swaps_name {e : Expr} {x : Str} {p : Pos} {line : Nat} {env : Env} (h : noComp2 e = true) (hk : env.blockKind = .function) : swapsWith e (some (.Name x p)) line env = pure (swB env.scope e x p) := by
  cases e with
  | SetComp _ _ _ _ => cases h
  | DictComp _ _ _ _ _ => cases h
  | ListComp a b s pos =>
    show pure (env.blockKind == .function && env.kindOf x == some .local && p.line == pos.line && !(s.names.any fun (n, k) => n == x && (k == .local || k == .cell))) = _
    rw [hk]
    rfl
  | _ => rfl
theorem swaps_else {t e : Expr} {line : Nat} {env : Env} (h : ∀ x p, t ≠ .Name x p) : swapsWithSole [t] e line env = pure false := by
  show swapsWith e (some t) line env = _
  unfold swapsWith
  cases t with
  | Name x p => exact absurd rfl (h x p)
  | _ => cases e <;> rfl
/-- the names of a tuple of plain locals in one line -/
def tnames (sc : Scope) (ts : List Expr) : List Str := ts.filterMap fun
  | .Name id pos => if sc.names.lookup id == some .local && pos.line == ((ts.head?.map (·.pos.line)).getD 0) then some id else none
  | _ => none
def starB : Expr → Bool
  | .Starred _ _ => true
  | _ => false
def swNone (sc : Scope) (ts : List Expr) (e : Expr) : Bool :=
  match e with
  | .Tuple vs _ _ => !(ts.length == 2 || ts.length == 3) || vs.length != ts.length || (!(vs.any starB) && (tnames sc ts).length != ts.length)
  | _ => true
def swSome (sc : Scope) (ts vs : List Expr) (names : List Str) : Bool :=
  (ts.length == 2 || ts.length == 3) && vs.length == ts.length && !(vs.any starB) && decide (tnames sc ts = names) && names.length == ts.length && names.eraseDups.length == names.length && !(vs.all (foldedForSure 8)) && !(vs.all (constantsAlone 8))
theorem stores_none {ts : List Expr} {k : Nat} {p : Pos} {e : Expr} {env : Env} (h : swNone env.scope ts e = true) : swappedStores [.Tuple ts k p] e env = pure none := by
  unfold swappedStores
  cases e with
  | Tuple vs k2 p2 =>
    unfold swNone at h
    dsimp only at h ⊢
    by_cases c : (!(ts.length == 2 || ts.length == 3) || vs.length != ts.length || env.blockKind != .function) = true
    · rw [if_pos c]
    · rw [if_neg c]
      have c1 : (!(ts.length == 2 || ts.length == 3) || vs.length != ts.length) = false := by
        cases q : (!(ts.length == 2 || ts.length == 3) || vs.length != ts.length) with
        | false => rfl
        | true => rw [q] at c; exact absurd rfl c
      rw [c1, Bool.false_or] at h
      obtain ⟨h1, h2⟩ := band h
      have s1 : vs.any starB = false := by simpa using h1
      refine (if_neg fun z => ?_).trans ?_
      · have z : vs.any starB = true := z
        rw [s1] at z; cases z
      have : ((tnames env.scope ts).length != ts.length || (tnames env.scope ts).eraseDups.length != (tnames env.scope ts).length) = true := by rw [h2]; rfl
      exact if_pos this
  | _ => rfl
theorem stores_some {ts vs : List Expr} {k k2 : Nat} {p p2 : Pos} {env : Env} {names : List Str} (hk : env.blockKind = .function) (h : swSome env.scope ts vs names = true) : swappedStores [.Tuple ts k p] (.Tuple vs k2 p2) env = pure (some names) := by
  unfold swappedStores
  obtain ⟨h, h8⟩ := band h
  obtain ⟨h, h7⟩ := band h
  obtain ⟨h, h6⟩ := band h
  obtain ⟨h, h5⟩ := band h
  obtain ⟨h, h4⟩ := band h
  obtain ⟨h, h3⟩ := band h
  obtain ⟨h1, h2⟩ := band h
  have h4 := of_decide_eq_true h4
  dsimp only
  have c : (!(ts.length == 2 || ts.length == 3) || vs.length != ts.length || env.blockKind != .function) = false := by
    rw [h1, hk]
    have : vs.length = ts.length := by simpa using h2
    simp [this]
  rw [c, if_neg Bool.false_ne_true]
  have s1 : vs.any starB = false := by simpa using h3
  refine (if_neg fun z => ?_).trans ?_
  · have z : vs.any starB = true := z
    rw [s1] at z; cases z
  have n1 : ((tnames env.scope ts).length != ts.length || (tnames env.scope ts).eraseDups.length != (tnames env.scope ts).length) = false := by
    rw [h4]
    have a : names.length = ts.length := by simpa using h5
    have b : names.eraseDups.length = names.length := by simpa using h6
    simp [a, b]
  have f1 : vs.all (foldedForSure 8) = false := by simpa using h7
  have f2 : vs.all (constantsAlone 8) = false := by simpa using h8
  show (if ((tnames env.scope ts).length != ts.length || (tnames env.scope ts).eraseDups.length != (tnames env.scope ts).length) = true then (pure none : Sem (Option (List Str))) else _) = _
  rw [n1, if_neg Bool.false_ne_true, f1, if_neg Bool.false_ne_true, f2, if_neg Bool.false_ne_true]
  show (pure (some (tnames env.scope ts)) : Sem (Option (List Str))) = _
  rw [h4]
def isLc : CE → Bool
  | .lc _ _ _ _ _ => true
  | _ => false
def locB (sc : Scope) (x : Str) : Bool := decide (sc.names.lookup x = some .local)
def chkPar (N : List Str) (sc : Scope) (is : List Nat) (ts vs : List Expr) : Bool :=
  match is, ts, vs with
  | [i, j], [.Name x _, .Name y _], [_, _] => decide (N[i]? = some x) && decide (N[j]? = some y) && decide (i ≠ j) && locB sc x && locB sc y && swSome sc ts vs [x, y]
  | [i, j, l], [.Name x _, .Name y _, .Name z _], [_, _, _] => decide (N[i]? = some x) && decide (N[j]? = some y) && decide (N[l]? = some z) && decide (i ≠ j) && decide (i ≠ l) && decide (j ≠ l) && locB sc x && locB sc y && locB sc z && swSome sc ts vs [x, y, z]
  | _, _, _ => false
mutual
def chkS (N : List Str) (G : Glb) (sc : Scope) : CS → Stmt → Bool
  | .pass, st => match st with
    | .Pass _ => true
    | _ => false
  | .brk, st => match st with
    | .Break _ => true
    | _ => false
  | .cont, st => match st with
    | .Continue _ => true
    | _ => false
  | .ex c, st => match st with
    | .Expr e _ => chkE N G c sc e && noComp e
    | _ => false
  | .set i c, st => match st with
    | .Assign [.Name x p] e _ => decide (N[i]? = some x) && storeB (fun _ => true) sc x && noComp2 e && (!(swB sc e x p) || (isLc c && locB sc x)) && chkE N G c sc e
    | _ => false
  | .setT is c, st => match st with
    | .Assign [.Tuple ts _ _] e _ => chkNs N (fun _ => true) sc is ts && swNone sc ts e && chkE N G c sc e
    | _ => false
  | .par is cs, st => match st with
    | .Assign [.Tuple ts _ _] (.Tuple vs _ _) _ => chkPar N sc is ts vs && chkL N G cs sc vs
    | _ => false
  | .six o i v, st => match st with
    | .Assign [.Subscript a b _] e _ => chkE N G o sc a && chkE N G i sc b && chkE N G v sc e
    | _ => false
  | .fset ci f o v, st => match st with
    | .Assign [.Attribute y g _] e _ => decide (f = g) && G.fd.contains (ci, f) && chkE N G o sc y && chkE N G v sc e
    | _ => false
  | .dset d k v, st => match st with
    | .Assign [.Subscript a b _] e _ => chkE N G d sc a && chkE N G k sc b && chkE N G v sc e
    | _ => false
  | .ret c, st => match st with
    | .Return (some e) _ => chkE N G c sc e
    | _ => false
  | .retN, st => match st with
    | .Return none _ => true
    | _ => false
  | .ite c a b, st => match st with
    | .If t x y _ => testB c && chkE N G c sc t && chkB N G sc a x && chkB N G sc b y
    | _ => false
  | .loop tg it b, st => match st with
    | .For t i body [] _ => chkI N G it sc i && chkT N (fun _ => true) sc tg t && (!enumB it || isTupT tg) && chkB N G sc b body
    | _ => false
  | .whl c b, st => match st with
    | .While t body [] _ => testB c && chkE N G c sc t && chkB N G sc b body
    | _ => false
  | .never, _ => true
def chkB (N : List Str) (G : Glb) (sc : Scope) : CB → List Stmt → Bool
  | .nil, st => match st with
    | [] => true
    | _ => false
  | .cons s r, st => match st with
    | a :: t => chkS N G sc s a && chkB N G sc r t
    | _ => false
  | .cut s r, st => match st with
    | a :: t => chkS N G sc s a && chkB N G sc r t
    | _ => false
  | .stop, _ => true
end

/-! ### what the check says holds -/
def PostN (K : PySem.W.Frag) (h : DH) (H : Hp) (Qd : DEnv → DH → Prop) (Q : L2.St → Hp → Prop) : Prop := ∀ ρ h' σ H', Ext h H h' H' → SR K H' ρ σ → HR K h' H' → Qd ρ h' → Q σ H'
theorem PostN.later {K : PySem.W.Frag} {h h' : DH} {H H' : Hp} {Qd : DEnv → DH → Prop} {Q : L2.St → Hp → Prop} (p : PostN K h H Qd Q) (e : Ext h H h' H') : PostN K h' H' Qd Q := fun ρ h2 σ H2 e2 sr hr q => p ρ h2 σ H2 (e.trans e2) sr hr q
theorem PostN.here {K : PySem.W.Frag} {h : DH} {H : Hp} {Qd : DEnv → DH → Prop} {Q : L2.St → Hp → Prop} (p : PostN K h H Qd Q) (hr : HR K h H) {ρ : DEnv} {σ : L2.St} (sr : SR K H ρ σ) (q : Qd ρ h) : Q σ H := p ρ h σ H (Ext.refl h H) sr hr q
structure PostS (K : PySem.W.Frag) (h : DH) (H : Hp) (E : DEnds) (D : Ends) : Prop where
  nx : PostN K h H E.nx D.nx
  rt : Post K h H E.rt D.rt
  bk : PostN K h H E.bk D.bk
  ct : PostN K h H E.ct D.ct
theorem PostS.later {K : PySem.W.Frag} {h h' : DH} {H H' : Hp} {E : DEnds} {D : Ends} (p : PostS K h H E D) (e : Ext h H h' H') : PostS K h' H' E D := ⟨p.nx.later e, p.rt.later e, p.bk.later e, p.ct.later e⟩
abbrev WS := DEnv → DH → DEnds → Prop
def liftS (K : PySem.W.Frag) (w : WS) : TS := fun D σ H => ∃ ρ h E, SR K H ρ σ ∧ HR K h H ∧ w ρ h E ∧ PostS K h H E D
theorem ps_imp {X : Cx} {e : Stmt} {t t' : TS} (p : PS X e t) (k : ∀ D σ H, t' D σ H → t D σ H) : PS X e t' := ⟨fun pins s σ H D I h => p.run pins s σ H D I (k D σ H h)⟩
theorem pss_imp {X : Cx} {e : List Stmt} {t t' : TS} (p : PSs X e t) (k : ∀ D σ H, t' D σ H → t D σ H) : PSs X e t' := ⟨fun pins s σ H D I h => p.run pins s σ H D I (k D σ H h)⟩
structure CtxS (N : List Str) (G : Glb) (F : Fx) (X : Cx) : Prop extends Ctx N G F X where
  bkd : X.env.blockKind = .function
  fna : ∀ x, X.fn x = true
  hp : PassesOwn (model X.prog X.w) X.A X.env X.xe
section
variable {X : Cx}
theorem ls_expr {we : DEnv → DH → WK → Prop} {e : Expr} {pos : Pos} (he : PE X e (lift X.K we)) (hs : swapsWith e none pos.line X.env = pure false) : PS X (.Expr e pos) (liftS X.K fun ρ h E => we ρ h fun _ h1 => E.nx ρ h1) :=
  ps_imp (ps_expr he hs) fun D σ H ⟨ρ, h, E, sr, hr, w, p⟩ => ⟨ρ, h, _, sr, hr, w, fun d h1 v H1 e1 rd hr1 q => p.nx ρ h1 σ H1 e1 (sr.ext e1) hr1 q⟩
theorem lt_asg {we : DEnv → DH → WK → Prop} {i : Nat} {D : Ends} {σ : L2.St} {H : Hp} (l : liftS X.K (fun ρ h E => we ρ h fun d h1 => E.nx (ρ.set i (some d)) h1) D σ H) : tAsg (lift X.K we) (gName i) D σ H := by
  obtain ⟨ρ, h, E, sr, hr, w, p⟩ := l
  exact ⟨ρ, h, _, sr, hr, w, fun d h1 v H1 e1 rd hr1 q => p.nx _ h1 _ H1 e1 ((sr.ext e1).set i rd) hr1 q⟩
theorem ls_asg {we : DEnv → DH → WK → Prop} {is : List Nat} {wt : WG} {tg e : Expr} {pos : Pos} (he : PE X e (lift X.K we)) (hg : PG X tg (liftG X.K is wt)) (hs : swapsWithSole [tg] e pos.line X.env = pure false) (hw : swappedStores [tg] e X.env = pure none)
    (h1 : (assignEach [tg] X.env).map (·.2) = [assign tg X.env]) : PS X (.Assign [tg] e pos) (liftS X.K fun ρ h E => we ρ h fun d h1 => wt d ρ fun ρ1 => E.nx ρ1 h1) :=
  ps_imp (ps_asg he hg hs hw h1) fun D σ H ⟨ρ, h, E, sr, hr, w, p⟩ => ⟨ρ, h, _, sr, hr, w, fun d h1 v H1 e1 rd hr1 q => ⟨d, ρ, h1, _, rd, sr.ext e1, hr1, q, fun ρ' σ' sr' _ q' => p.nx ρ' h1 σ' H1 e1 sr' hr1 q'⟩⟩
theorem ls_ret {we : DEnv → DH → WK → Prop} {e : Expr} {pos : Pos} (he : PE X e (lift X.K we)) : PS X (.Return (some e) pos) (liftS X.K fun ρ h E => we ρ h E.rt) :=
  ps_imp (ps_ret he) fun D σ H ⟨ρ, h, E, sr, hr, w, p⟩ => ⟨ρ, h, _, sr, hr, w, p.rt⟩
theorem ls_if {wc : DEnv → DH → WK → Prop} {wa wb : WS} {c : Expr} {a b : List Stmt} {pos : Pos} (hc : PT X c (liftB X.K (wB wc))) (ha : PSs X a (liftS X.K wa)) (hb : PSs X b (liftS X.K wb)) :
    PS X (.If c a b pos) (liftS X.K fun ρ h E => wc ρ h fun x h1 => boolW x fun k => iteW k (wa ρ h1 E) (wb ρ h1 E)) :=
  ps_imp (ps_if hc ha hb) fun D σ H ⟨ρ, h, E, sr, hr, w, p⟩ => ⟨ρ, h, _, sr, hr, w, fun k h1 H1 e1 hr1 q => by
    cases k with
    | true => exact (if_pos rfl).mpr ⟨ρ, h1, E, sr.ext e1, hr1, q, p.later e1⟩
    | false => exact (if_neg Bool.false_ne_true).mpr ⟨ρ, h1, E, sr.ext e1, hr1, q, p.later e1⟩⟩
theorem ls_cons {wa wb : WS} {st : Stmt} {rest : List Stmt} (ha : PS X st (liftS X.K wa)) (hb : PSs X rest (liftS X.K wb)) :
    PSs X (st :: rest) (liftS X.K fun ρ h E => wa ρ h { nx := fun ρ1 h1 => wb ρ1 h1 E, rt := E.rt, bk := E.bk, ct := E.ct }) :=
  pss_imp (pss_cons ha hb) fun D σ H ⟨ρ, h, E, sr, hr, w, p⟩ => ⟨ρ, h, _, sr, hr, w, ⟨fun ρ1 h1 σ1 H1 e1 sr1 hr1 q => ⟨ρ1, h1, E, sr1, hr1, q, p.later e1⟩, p.rt, p.bk, p.ct⟩⟩
theorem ls_for {wi : WI} {is : List Nat} {wt : WG} {wb : WS} {tg it : Expr} {body : List Stmt} {pos : Pos} (hp : PassesOwn (model X.prog X.w) X.A X.env X.xe) (hc : X.calm = true) (hi : PI X tg it (liftI X.K wi)) (hg : PG X tg (liftG X.K is wt)) (hb : PSs X body (liftS X.K wb))
    (hs : ∀ x, foldedSetIterable it X.env x = pure x) :
    PS X (.For tg it body [] pos) (liftS X.K fun ρ h E => wi ρ h fun xs g h1 => loopW g (fun x ρ1 h2 N => wt x ρ1 fun ρ2 => wb ρ2 h2 { nx := N, ct := N, bk := E.nx, rt := E.rt }) E.nx xs ρ h1) := by
  refine ps_imp (ps_for hp hc hi hg hb hs) fun D σ H ⟨ρ, h, E, sr, hr, w, p⟩ => ⟨ρ, h, _, sr, hr, w, fun items g h1 J H1 e1 hr1 dw w1 => ?_⟩
  refine ⟨fun i m σ H => m = items.length - i ∧ i ≤ items.length ∧ ∃ ρ h2, Ext h1 H1 h2 H ∧ SR X.K H ρ σ ∧ HR X.K h2 H ∧ loopW g (fun x ρ1 h2 N => wt x ρ1 fun ρ2 => wb ρ2 h2 { nx := N, ct := N, bk := E.nx, rt := E.rt }) E.nx (items.drop i) ρ h2,
    ⟨_, rfl, Nat.zero_le _, ρ, h1, Ext.refl _ _, sr.ext e1, hr1, w1⟩, ?_⟩
  rintro i m σ2 H2 ⟨rfl, hi, ρ2, h2, e2, sr2, hr2, w2⟩
  by_cases z : i < items.length
  · right
    rw [List.drop_eq_getElem_cons z] at w2
    obtain ⟨gg, w2⟩ := w2
    refine ⟨dw.go i h2 H2 z e2 hr2 gg, fun σ' H' => ∃ ρ3 h3, Ext h1 H1 h3 H' ∧ SR X.K H' ρ3 σ' ∧ HR X.K h3 H' ∧ loopW g (fun x ρ1 h2 N => wt x ρ1 fun ρ2 => wb ρ2 h2 { nx := N, ct := N, bk := E.nx, rt := E.rt }) E.nx (items.drop (i + 1)) ρ3 h3,
      fun σ' H' ⟨ρ3, h3, a1, a2, a3, a4⟩ => ⟨items.length - (i + 1), by omega, rfl, z, ρ3, h3, a1, a2, a3, a4⟩, fun x H3 y => ?_⟩
    obtain ⟨d, hd, rd, e3, hr3⟩ := dw.yld i h2 H2 x H3 z e2 hr2 gg y
    rw [List.getElem?_eq_getElem z] at hd
    obtain rfl := Option.some.inj hd
    refine ⟨_, ρ2, h2, _, rd, sr2.ext e3, hr3, w2, fun ρ4 σ4 sr4 _ q4 => ⟨ρ4, h2, _, sr4, hr3, q4, ?_⟩⟩
    have e13 := (e1.trans e2).trans e3
    exact ⟨fun ρ5 h5 σ5 H5 e5 sr5 hr5 q5 => ⟨ρ5, h5, (e2.trans e3).trans e5, sr5, hr5, q5⟩, p.rt.later e13, p.nx.later e13, fun ρ5 h5 σ5 H5 e5 sr5 hr5 q5 => ⟨ρ5, h5, (e2.trans e3).trans e5, sr5, hr5, q5⟩⟩
  · left
    have : i = items.length := by omega
    subst this
    rw [List.drop_length] at w2
    obtain ⟨gg, w2⟩ := w2
    exact ⟨dw.stop h2 H2 e2 hr2 gg, p.nx ρ2 h2 σ2 H2 (e1.trans e2) sr2 hr2 w2⟩
theorem ls_while {wc : DEnv → DH → WK → Prop} {wb : WS} {c : Expr} {body : List Stmt} {pos : Pos} (hp : PassesOwn (model X.prog X.w) X.A X.env X.xe) (hc : PT X c (liftB X.K (wB wc))) (hb : PSs X body (liftS X.K wb)) :
    PS X (.While c body [] pos) (liftS X.K fun ρ h E => ∃ W : Nat → DEnv → DH → Prop, (∃ m, W m ρ h) ∧ ∀ m ρ h, W m ρ h → wc ρ h fun x h1 => boolW x fun k =>
      iteW k (wb ρ h1 { nx := fun ρ2 h2 => ∃ m', m' < m ∧ W m' ρ2 h2, ct := fun ρ2 h2 => ∃ m', m' < m ∧ W m' ρ2 h2, bk := E.nx, rt := E.rt }) (E.nx ρ h1)) := by
  refine ps_imp (ps_while hp hc hb) fun D σ H ⟨ρ, h, E, sr, hr, ⟨W, ⟨m0, w0⟩, turn⟩, p⟩ => ?_
  refine ⟨fun m σ2 H2 => ∃ ρ2 h2, Ext h H h2 H2 ∧ SR X.K H2 ρ2 σ2 ∧ HR X.K h2 H2 ∧ W m ρ2 h2, ⟨m0, ρ, h, Ext.refl _ _, sr, hr, w0⟩, ?_⟩
  rintro m σ2 H2 ⟨ρ2, h2, e2, sr2, hr2, w2⟩
  refine ⟨ρ2, h2, _, sr2, hr2, turn m ρ2 h2 w2, fun k h3 H3 e3 hr3 q3 => ?_⟩
  have e23 := e2.trans e3
  cases k with
  | false => exact (if_neg Bool.false_ne_true).mpr (p.nx ρ2 h3 σ2 H3 e23 (sr2.ext e3) hr3 q3)
  | true =>
    refine (if_pos rfl).mpr ⟨fun σ' H' => ∃ ρ4 h4, Ext h H h4 H' ∧ SR X.K H' ρ4 σ' ∧ HR X.K h4 H' ∧ ∃ m', m' < m ∧ W m' ρ4 h4, fun σ' H' ⟨ρ4, h4, a1, a2, a3, m', a4, a5⟩ => ⟨m', a4, ρ4, h4, a1, a2, a3, a5⟩, ρ2, h3, _, sr2.ext e3, hr3, q3, ?_⟩
    exact ⟨fun ρ5 h5 σ5 H5 e5 sr5 hr5 q5 => ⟨ρ5, h5, e23.trans e5, sr5, hr5, q5⟩, p.rt.later e23, p.nx.later e23, fun ρ5 h5 σ5 H5 e5 sr5 hr5 q5 => ⟨ρ5, h5, e23.trans e5, sr5, hr5, q5⟩⟩
def rSet : TSet := fun o i v H Q => rSetL o i v H Q
theorem fset_ok {K : PySem.W.Frag} {a j x : D} {h : DH} {H : Hp} {va vj vx : V} {Qd : DH → Prop} {Q : Hp → Prop} (ra : VR K H a va) (rj : VR K H j vj) (rx : VR K H x vx) (hr : HR K h H) (f : fSet a j x h Qd)
    (p : ∀ h' H', Ext h H h' H' → HR K h' H' → Qd h' → Q H') : rSet va vj vx H Q := by
  unfold fSet at f
  split at f
  · rename_i pp k
    obtain ⟨xs, n, e1, e2, q⟩ := f
    cases ra; cases rj
    obtain ⟨vs, b1, b2⟩ := hr _ _ e1
    have t := hr.tk_put (o' := .lst (vs.set n vx)) e1 True.intro
    exact ⟨pp, vs, k, n, rfl, rfl, b1, by rw [← b2.length]; exact e2, p _ _ (Ext.put (u' := .lst (xs.set n x)) hr e1 True.intro (fun z => nomatch z)) (hr.put (u' := .lst (xs.set n x)) e1 True.intro ⟨_, upd_same, t.vrs _ _ (b2.set n rx)⟩) q⟩
  · exact f.elim
theorem asg_sub {o i : Expr} {tp : Pos} (hn : ∀ a b c d, i ≠ .Slice a b c d) : ∀ v, assign (.Subscript o i tp) X.env v = (do
      let ov ← holding [v] (eval o X.env)
      let iv ← holding [v, ov] (eval i X.env)
      standAt tp
      holding [v, ov, iv] (setItem ov iv v)
      release [v, ov, iv] []) := fun v => by
  cases i with
  | Slice a b c d => exact absurd rfl (hn a b c d)
  | _ => rfl
theorem ls_six {wo wi wv : DEnv → DH → WK → Prop} {o i e : Expr} {tp pos : Pos} (ho : PE X o (lift X.K wo)) (hi : PE X i (lift X.K wi)) (he : PE X e (lift X.K wv)) (hn : ∀ a b c d, i ≠ .Slice a b c d) :
    PS X (.Assign [.Subscript o i tp] e pos) (liftS X.K fun ρ h E => wv ρ h fun x h1 => wo ρ h1 fun a h2 => wi ρ h2 fun j h3 => fSet a j x h3 fun h4 => E.nx ρ h4) := by
  refine ps_imp (ps_asg he (pg_sub ho hi (show PSet X rSet from set_list) (ha := asg_sub hn)) (swaps_else fun x p z => nomatch z) rfl rfl) fun D σ H ⟨ρ, h, E, sr, hr, w, p⟩ => ?_
  refine ⟨ρ, h, _, sr, hr, w, fun d h1 v H1 e1 rd hr1 q1 => ⟨ρ, h1, _, sr.ext e1, hr1, q1, fun a h2 va H2 e2 ra hr2 q2 => ⟨ρ, h2, _, (sr.ext e1).ext e2, hr2, q2, fun j h3 vj H3 e3 rj hr3 q3 => ?_⟩⟩⟩
  exact fset_ok (e3.vr ra) rj ((e2.trans e3).vr rd) hr3 q3 fun h4 H4 e4 hr4 q4 => p.nx ρ h4 σ H4 (((e1.trans e2).trans e3).trans e4) ((((sr.ext e1).ext e2).ext e3).ext e4) hr4 q4
theorem ls_fset {C : Addr} {f : Str} {wo wv : DEnv → DH → WK → Prop} {o e : Expr} {tp pos : Pos} (c : Cls X.K C) (n : NoAttr X.K C f) (ho : PE X o (lift X.K wo)) (he : PE X e (lift X.K wv)) :
    PS X (.Assign [.Attribute o f tp] e pos) (liftS X.K fun ρ h E => wv ρ h fun y h1 => wo ρ h1 fun x h2 => ∃ a fs, x = .ref a ∧ h2 a = some (.ins C fs) ∧ fs.length < 1000 ∧ E.nx ρ (dupd h2 a (.ins C (putD f y fs)))) := by
  refine ps_imp (ps_fld ho he (swaps_else (t := .Attribute o f tp) (line := pos.line) (env := X.env) fun x p z => nomatch z)) fun D σ H ⟨ρ, h, E, sr, hr, w, p⟩ => ?_
  refine ⟨ρ, h, _, sr, hr, w, fun y h1 vy H1 e1 ry hr1 q1 => ⟨ρ, h1, _, sr.ext e1, hr1, q1, fun x h2 vx H2 e2 rx hr2 q2 => ?_⟩⟩
  obtain ⟨a, fs, rfl, ea, l, q⟩ := q2
  cases rx
  obtain ⟨dx, gs, eg, fr⟩ := hr2 _ _ ea
  have t := hr2.tk_put (o' := .ins C dx (putF f vy gs)) ea True.intro
  refine ⟨a, C, dx, gs, rfl, eg, c, n, by rw [← fr.len]; exact l, ?_⟩
  have e3 := Ext.put (u' := .ins C (putD f y fs)) (o' := .ins C dx (putF f vy gs)) hr2 ea True.intro (fun z => nomatch z)
  exact p.nx ρ _ σ _ ((e1.trans e2).trans e3) (((sr.ext e1).ext e2).ext e3) (hr2.put (u' := .ins C (putD f y fs)) ea True.intro ⟨dx, _, upd_same, FR.put (t.vr _ _ (e2.vr ry)) (t.fr fr)⟩) q
theorem ls_dset (hu : X.A.units + 100 < cLine) {wd wk wv : DEnv → DH → WK → Prop} {d k e : Expr} {tp pos : Pos} (hd : PE X d (lift X.K wd)) (hk : PE X k (lift X.K wk)) (he : PE X e (lift X.K wv)) :
    PS X (.Assign [.Subscript d k tp] e pos) (liftS X.K fun ρ h E => wv ρ h fun x h1 => wd ρ h1 fun a h2 => wk ρ h2 fun y h3 => dputW a y x h3 fun h4 => E.nx ρ h4) := by
  refine ps_imp (ps_dput (by omega) hd hk he (swaps_else (t := .Subscript d k tp) (line := pos.line) (env := X.env) fun x p z => nomatch z)) fun D σ H ⟨ρ, h, E, sr, hr, w, p⟩ => ?_
  refine ⟨ρ, h, _, sr, hr, w, fun x h1 vx H1 e1 rx hr1 q1 => ⟨ρ, h1, _, sr.ext e1, hr1, q1, fun a h2 va H2 e2 ra hr2 q2 => ⟨ρ, h2, _, (sr.ext e1).ext e2, hr2, q2, fun y h3 vy H3 e3 ry hr3 q3 => ?_⟩⟩⟩
  obtain ⟨b, rfl, g⟩ := refW_get q3
  have ra := e3.vr ra
  cases ra
  have rx3 := (e2.trans e3).vr rx
  have sr3 := ((sr.ext e1).ext e2).ext e3
  have flat : ∀ {kvs : List (Key × DL.D)} {kk : Key}, h3 b = some (.dk kvs) → keyD y = some kk → kvs.length < 16777216 → E.nx ρ (dupd h3 b (.dk (putKD kvs kk x))) → ∃ a' H4, V.ref b = .ref a' ∧ DPut H3 a' vy vx H4 ∧ D.nx σ H4 := fun {kvs kk} eb ek l q => by
    obtain ⟨gs, eg, fr⟩ := hr3 _ _ eb
    have := keyD_of ek ry
    subst this
    have t := hr3.tk_put (o' := .dK (putK gs kk vx)) eb True.intro
    have e4 := Ext.put (u' := .dk (putKD kvs kk x)) (o' := .dK (putK gs kk vx)) hr3 eb True.intro (fun z => nomatch z)
    exact ⟨b, _, rfl, .k eg (by rw [sizeLine_eq, ← fr.len]; exact l), p.nx ρ _ σ _ (((e1.trans e2).trans e3).trans e4) (sr3.ext e4) (hr3.put (u' := .dk (putKD kvs kk x)) eb True.intro ⟨_, upd_same, FR.putk (t.vr _ _ rx3) (t.fr fr)⟩) q⟩
  cases y with
  | tup ys =>
    obtain ⟨kvs, ks, eb, kb, ek, l, q⟩ := g
    obtain ⟨gs, eg, fr⟩ := hr3 _ _ eb
    obtain ⟨b2, vs, rfl, tp, hv⟩ := ry
    have := keysD_of ek hv
    subst this
    have t := hr3.tk_put (o' := .dT (putK gs ks vx)) eb True.intro
    have e4 := Ext.put (u' := .dt (putKD kvs ks x)) (o' := .dT (putK gs ks vx)) hr3 eb True.intro (fun z => nomatch z)
    exact ⟨b, _, rfl, .t eg (tp.key kb) (by rw [sizeLine_eq, ← fr.len]; exact l), p.nx ρ _ σ _ (((e1.trans e2).trans e3).trans e4) (sr3.ext e4) (hr3.put (u' := .dt (putKD kvs ks x)) eb True.intro ⟨_, upd_same, FR.putk (t.vr _ _ rx3) (t.fr fr)⟩) q⟩
  | int i => obtain ⟨kvs, kk, e, ek, l, q⟩ := g; exact flat e ek l q
  | str i => obtain ⟨kvs, kk, e, ek, l, q⟩ := g; exact flat e ek l q
  | _ => obtain ⟨kvs, kk, e, ek, l, q⟩ := g; cases ek
end
end DL

set_option Elab.async false
set_option linter.all false
set_option maxRecDepth 100000
set_option maxHeartbeats 4000000
/-! DL12: what the check says holds: statements; a def by its check. -/
namespace DL
open PySem PySem.Spec PyProof.Rows L2
section
variable {N : List Str} {G : Glb} {F : Fx}
theorem loc_of {X : Cx} (C : CtxS N G F X) {x : Str} (h : storeB (fun _ => true) X.env.scope x = true) : L2.Loc X.env.scope x := by
  unfold storeB at h
  unfold L2.Loc
  split at h
  · exact .inl (by assumption)
  · exact .inr (by assumption)
  · cases h
theorem nc2_of {c : CE} {sc : Scope} {e : Expr} (h : chkE N G c sc e = true) : noComp2 e = true := by
  obtain ⟨c, nd, h⟩ := chk_drop _ h
  have no : ∀ {P : Prop} (e : Expr), (match e with | .SetComp _ _ _ _ => True | .DictComp _ _ _ _ _ => True | _ => False) → (∀ c' : CE, c ≠ CE.drop c') → chkE N G c sc e = true → P := fun {P} e he nd h => by
    cases c with
    | drop c' => exact absurd rfl (nd c')
    | _ => cases e <;> first | exact he.elim | exact absurd h Bool.false_ne_true
  cases e with
  | SetComp _ _ _ _ => exact no _ trivial nd h
  | DictComp _ _ _ _ _ => exact no _ trivial nd h
  | _ => rfl
theorem ls_setLc {X : Cx} (C : CtxS N G F X) {i : Nat} {c : CE} {x : Str} {e : Expr} {p pos : Pos} (hi : N[i]? = some x) (hl : X.env.scope.names.lookup x = some .local) (hc : isLc c = true) (h : chkE N G c X.env.scope e = true)
    (hsw : swapsWith e (some (.Name x p)) pos.line X.env = pure true) : PS X (.Assign [.Name x p] e pos) (liftS X.K fun ρ h E => wpE F c ρ h fun d h1 => E.nx (ρ.set i (some d)) h1) := by
  cases c with
  | lc elt tg it own cond =>
    unfold chkE at h
    split at h
    · rename_i y t it' ifs scope lpos
      obtain ⟨h, h7⟩ := band h
      obtain ⟨h, h6⟩ := band h
      obtain ⟨h, h5⟩ := band h
      obtain ⟨h, h4⟩ := band h
      obtain ⟨h, h3⟩ := band h
      obtain ⟨h1, h2⟩ := band h
      have hown : ∀ j ∈ ctS tg, j ∈ own.map (·.2) := fun j hj => by
        cases tg with
        | name k => simp only [ctS, List.mem_singleton] at hj; subst hj; simpa [ownB] using h2
        | tup is => have h2 : ∀ x ∈ is, (own.map (·.2)).contains x = true := by simpa [ownB] using h2
                    simpa using h2 j hj
      have tup : enumB it = true → ∃ es k p, t = .Tuple es k p := fun z => by
        rw [z] at h3
        have h3 : isTupT tg = true := by simpa using h3
        cases tg with
        | name k => cases h3
        | tup is => cases t with
          | Tuple es k p => exact ⟨es, k, p, rfl⟩
          | _ => exact absurd h5 Bool.false_ne_true
      have C0 := C.toCtx
      refine ps_imp (t := tAsg (tLc (liftI X.K (wpI F it)) (liftG X.K (ctS tg) fun d ρ k => tgtW tg d ρ k) (liftB X.K (wpC F cond)) (lift X.K (wpE F elt)) (own.map (·.2))) (gName i)) (ps_setLc (own := own) C.calm (by rw [C.hN]; exact C.nd) (by rw [C.hN]; exact hi) hl hsw (sndI it C0 h4 tup) (blkOk_by (by rw [C.hN]; exact h1)) (fun s H A cl fp => ?_) (fun s H A cl fp => ?_) (fun s H A cl fp => ?_) (fun _ => ?_)) fun D σ H l => ?_
      · exact lg_ok (X := X.blk s H scope (compEnvC scope cl A X.env) fp) (sc := relS scope X.env.scope) (top := fun x => scope.names.lookup x == some .cell) C.calm C.hN rfl C.nd (fun _ z => z) h5
      · exact sndC cond (C0.blk ..) h6
      · exact (sndE elt (C0.blk ..) h7).pe
      · exact noSetI h4
      · exact le_lc (elt := y) (t := t) (it := it') (ifs := ifs) (scope := scope) (pos := pos) hown (lt_asg l)
    · cases h
  | _ => cases hc
theorem ls_par {X : Cx} (C : CtxS N G F X) {is : List Nat} {cs : CL} {ts vs : List Expr} {k k2 : Nat} {p p2 pos : Pos} (h : chkPar N X.env.scope is ts vs = true) (ha : PA X vs (liftL X.K (wpL F cs))) :
    PS X (.Assign [.Tuple ts k p] (.Tuple vs k2 p2) pos) (liftS X.K fun ρ h E => wpL F cs ρ h fun ds h1 => ds.length = is.length ∧ E.nx (setAll ρ is ds) h1) := by
  unfold chkPar at h
  split at h
  · rename_i i j x px y py va vb
    obtain ⟨h, h6⟩ := band h
    obtain ⟨h, h5⟩ := band h
    obtain ⟨h, h4⟩ := band h
    obtain ⟨h, h3⟩ := band h
    obtain ⟨h1, h2⟩ := band h
    refine ps_imp (ps_par C.calm (by rw [C.hN]; exact C.nd) (by rw [C.hN]; exact of_decide_eq_true h1) (by rw [C.hN]; exact of_decide_eq_true h2) (of_decide_eq_true h3) (of_decide_eq_true h4) (of_decide_eq_true h5) ha (stores_some C.bkd h6) (swaps_else fun x p z => nomatch z)) fun D σ H ⟨ρ, h, E, sr, hr, w, p⟩ => ?_
    refine ⟨ρ, h, _, sr, hr, w, fun ds h1 us H1 e1 rd hr1 q => ?_⟩
    obtain ⟨hn, q⟩ := q
    obtain ⟨d1, d2, rfl⟩ : ∃ d1 d2, ds = [d1, d2] := by
      match ds, hn with
      | [a, b], _ => exact ⟨a, b, rfl⟩
    obtain ⟨v, r, rfl, r1, u, r', rfl, r2, e⟩ := rd
    cases e
    exact ⟨v, u, rfl, p.nx _ h1 _ H1 e1 (((sr.ext e1).set i r1).set j r2) hr1 q⟩
  · rename_i i j l x px y py z pz va vb vc
    obtain ⟨h, h10⟩ := band h
    obtain ⟨h, h9⟩ := band h
    obtain ⟨h, h8⟩ := band h
    obtain ⟨h, h7⟩ := band h
    obtain ⟨h, h6⟩ := band h
    obtain ⟨h, h5⟩ := band h
    obtain ⟨h, h4⟩ := band h
    obtain ⟨h, h3⟩ := band h
    obtain ⟨h1, h2⟩ := band h
    refine ps_imp (ps_par3 C.calm (by rw [C.hN]; exact C.nd) (by rw [C.hN]; exact of_decide_eq_true h1) (by rw [C.hN]; exact of_decide_eq_true h2) (by rw [C.hN]; exact of_decide_eq_true h3) (of_decide_eq_true h4) (of_decide_eq_true h5) (of_decide_eq_true h6) (of_decide_eq_true h7) (of_decide_eq_true h8) (of_decide_eq_true h9) ha (stores_some C.bkd h10) (swaps_else fun x p z => nomatch z)) fun D σ H ⟨ρ, h, E, sr, hr, w, p⟩ => ?_
    refine ⟨ρ, h, _, sr, hr, w, fun ds h1 us H1 e1 rd hr1 q => ?_⟩
    obtain ⟨hn, q⟩ := q
    obtain ⟨d1, d2, d3, rfl⟩ : ∃ d1 d2 d3, ds = [d1, d2, d3] := by
      match ds, hn with
      | [a, b, c], _ => exact ⟨a, b, c, rfl⟩
    obtain ⟨v, r, rfl, r1, u, r', rfl, r2, w2, r'', rfl, r3, e⟩ := rd
    cases e
    exact ⟨v, u, w2, rfl, p.nx _ h1 _ H1 e1 ((((sr.ext e1).set i r1).set j r2).set l r3) hr1 q⟩
  · cases h
mutual
theorem sndS : ∀ (c : CS) {X : Cx} {st : Stmt}, CtxS N G F X → chkS N G X.env.scope c st = true → PS X st (liftS X.K (wpS F c))
  | .pass, X, st, C, h => by
    cases st with
    | Pass p => exact ps_imp ps_pass fun D σ H ⟨ρ, h, E, sr, hr, w, p⟩ => p.nx.here hr sr w
    | _ => exact absurd h Bool.false_ne_true
  | .brk, X, st, C, h => by
    cases st with
    | Break p => exact ps_imp ps_break fun D σ H ⟨ρ, h, E, sr, hr, w, p⟩ => p.bk.here hr sr w
    | _ => exact absurd h Bool.false_ne_true
  | .cont, X, st, C, h => by
    cases st with
    | Continue p => exact ps_imp ps_continue fun D σ H ⟨ρ, h, E, sr, hr, w, p⟩ => p.ct.here hr sr w
    | _ => exact absurd h Bool.false_ne_true
  | .ex c, X, st, C, h => by
    cases st with
    | Expr e p =>
      obtain ⟨h1, h2⟩ := band h
      exact ls_expr (sndE c C.toCtx h1).pe (swaps_none h2)
    | _ => exact absurd h Bool.false_ne_true
  | .set i c, X, st, C, h => by
    unfold chkS at h
    split at h
    · rename_i x p e pos
      obtain ⟨h, h5⟩ := band h
      obtain ⟨h, h4⟩ := band h
      obtain ⟨h, h3⟩ := band h
      obtain ⟨h1, h2⟩ := band h
      have h1 := of_decide_eq_true h1
      cases q : swB X.env.scope e x p with
      | false =>
        exact ps_imp (ps_set (by rw [C.hN]; exact C.nd) (by rw [C.hN]; exact h1) (loc_of C h2) (sndE c C.toCtx h5).pe ((swaps_name h3 C.bkd).trans (by rw [q])) (.inl (C.fna x))) fun D σ H l => lt_asg l
      | true =>
        rw [q] at h4
        obtain ⟨a, b⟩ := band (show (isLc c && locB X.env.scope x) = true from h4)
        exact ls_setLc C h1 (of_decide_eq_true b) a h5 ((swaps_name h3 C.bkd).trans (by rw [q]))
    · cases h
  | .setT is c, X, st, C, h => by
    unfold chkS at h
    split at h
    · rename_i ts k p e pos
      obtain ⟨h, h3⟩ := band h
      obtain ⟨h1, h2⟩ := band h
      exact ls_asg (is := is) (sndE c C.toCtx h3).pe (lg_ok (tg := .tup is) (top := fun _ => true) C.calm C.hN rfl C.nd (fun x _ => C.fna x) h1) (swaps_else fun x p z => nomatch z) (stores_none h2) rfl
    · cases h
  | .par is cs, X, st, C, h => by
    unfold chkS at h
    split at h
    · obtain ⟨h1, h2⟩ := band h
      exact ls_par C h1 (sndL cs C.toCtx h2)
    · cases h
  | .six o i v, X, st, C, h => by
    unfold chkS at h
    split at h
    · obtain ⟨h, h3⟩ := band h
      obtain ⟨h1, h2⟩ := band h
      exact ls_six (sndE o C.toCtx h1).pe (sndE i C.toCtx h2).pe (sndE v C.toCtx h3).pe (noStar h2).2.1
    · cases h
  | .fset ci f o v, X, st, C, h => by
    unfold chkS at h
    split at h
    · obtain ⟨h, h4⟩ := band h
      obtain ⟨h, h3⟩ := band h
      obtain ⟨h1, h2⟩ := band h
      have h1 := of_decide_eq_true h1
      subst h1
      obtain ⟨c, e1, cl, na⟩ := C.toCtx.fd ci f (by simpa using h2)
      refine ps_imp (ls_fset cl na (sndE o C.toCtx h3).pe (sndE v C.toCtx h4).pe) fun D σ H ⟨ρ, h, E, sr, hr, w, p⟩ => ⟨ρ, h, E, sr, hr, ?_, p⟩
      have ext : ∀ y : DL.D, (fun (x : DL.D) (h2 : DH) => nthW F.cv ci fun c => refW c fun C => ∃ a fs, x = .ref a ∧ h2 a = some (.ins C fs) ∧ fs.length < 1000 ∧ E.nx ρ (dupd h2 a (.ins C (putD f y fs)))) = fun x h2 => ∃ a fs, x = .ref a ∧ h2 a = some (.ins c fs) ∧ fs.length < 1000 ∧ E.nx ρ (dupd h2 a (.ins c (putD f y fs))) := fun y => by
        funext x h2
        rw [nthW_eq _ e1]; rfl
      have w : wpE F v ρ h fun y h1 => wpE F o ρ h1 fun (x : DL.D) (h2 : DH) => nthW F.cv ci fun c => refW c fun C => ∃ a fs, x = .ref a ∧ h2 a = some (.ins C fs) ∧ fs.length < 1000 ∧ E.nx ρ (dupd h2 a (.ins C (putD f y fs))) := w
      simp only [ext] at w
      exact w
    · cases h
  | .dset a b v, X, st, C, h => by
    unfold chkS at h
    split at h
    · obtain ⟨h, h3⟩ := band h
      obtain ⟨h1, h2⟩ := band h
      exact ls_dset C.toCtx.hu (sndE a C.toCtx h1).pe (sndE b C.toCtx h2).pe (sndE v C.toCtx h3).pe
    · cases h
  | .ret c, X, st, C, h => by
    unfold chkS at h
    split at h
    · exact ls_ret (sndE c C.toCtx h).pe
    · cases h
  | .retN, X, st, C, h => by
    unfold chkS at h
    split at h
    · exact ps_imp ps_retN fun D σ H ⟨ρ, h, E, sr, hr, w, p⟩ => p.rt.here hr w rfl
    · cases h
  | .ite c a b, X, st, C, h => by
    unfold chkS at h
    split at h
    · obtain ⟨h, h4⟩ := band h
      obtain ⟨h, h3⟩ := band h
      obtain ⟨h1, h2⟩ := band h
      exact ls_if ((sndE c C.toCtx h2).pt h1) (sndB a C h3) (sndB b C h4)
    · cases h
  | .loop tg it b, X, st, C, h => by
    unfold chkS at h
    split at h
    · rename_i t i body pos
      obtain ⟨h, h4⟩ := band h
      obtain ⟨h, h3⟩ := band h
      obtain ⟨h1, h2⟩ := band h
      have tup : enumB it = true → ∃ es k p, t = .Tuple es k p := fun z => by
        rw [z] at h3
        have h3 : isTupT tg = true := by simpa using h3
        cases tg with
        | name k => cases h3
        | tup is => cases t with
          | Tuple es k p => exact ⟨es, k, p, rfl⟩
          | _ => exact absurd h2 Bool.false_ne_true
      exact ls_for C.hp C.calm (sndI it C.toCtx h1 tup) (lg_ok (top := fun _ => true) C.calm C.hN rfl C.nd (fun x _ => C.fna x) h2) (sndB b C h4) fun _ => noSetI h1
    · cases h
  | .whl c b, X, st, C, h => by
    unfold chkS at h
    split at h
    · obtain ⟨h, h3⟩ := band h
      obtain ⟨h1, h2⟩ := band h
      exact ls_while C.hp ((sndE c C.toCtx h2).pt h1) (sndB b C h3)
    · cases h
  | .never, X, st, C, h => ps_imp ps_never fun D σ H ⟨ρ, h, E, sr, hr, w, p⟩ => w
theorem sndB : ∀ (c : CB) {X : Cx} {st : List Stmt}, CtxS N G F X → chkB N G X.env.scope c st = true → PSs X st (liftS X.K (wpB F c))
  | .nil, X, st, C, h => by
    cases st with
    | nil => exact pss_imp pss_nil fun D σ H ⟨ρ, h, E, sr, hr, w, p⟩ => p.nx.here hr sr w
    | cons _ _ => exact absurd h Bool.false_ne_true
  | .cons s r, X, st, C, h => by
    cases st with
    | nil => exact absurd h Bool.false_ne_true
    | cons a t =>
      obtain ⟨h1, h2⟩ := band h
      exact ls_cons (wa := wpS F s) (wb := wpB F r) (sndS s C h1) (sndB r C h2)
  | .cut s r, X, st, C, h => by
    cases st with
    | nil => exact absurd h Bool.false_ne_true
    | cons a t =>
      obtain ⟨h1, h2⟩ := band h
      exact pss_imp (pss_cons (sndS s C h1) (sndB r C h2)) fun D σ H ⟨ρ, h, E, sr, hr, ⟨Mid, w, go⟩, p⟩ =>
        ⟨ρ, h, _, sr, hr, w, ⟨fun ρ1 h1 σ1 H1 e1 sr1 hr1 q => ⟨ρ1, h1, E, sr1, hr1, go _ _ q, p.later e1⟩, p.rt, p.bk, p.ct⟩⟩
  | .stop, X, st, C, h => pss_imp pss_never fun D σ H ⟨ρ, h, E, sr, hr, w, p⟩ => w
end
end
/-! ### a def -/
def dstart (n : Nat) (ds : List D) : DEnv := ds.map some ++ List.replicate (n - ds.length) none
theorem sr_start {K : PySem.W.Frag} {H : Hp} {N : List Str} {ds : List D} {vs : List V} (r : VRs K H ds vs) : SR K H (dstart N.length ds) (start N vs) := SR.start r
section
variable {P : Program} {w : World} {K : PySem.W.Frag} {mg : Str → Option Value} {base : Heap}
/-- the facts of a further name, at any place of the call -/
def XNm (P : Program) (w : World) (K : PySem.W.Frag) (mg : Str → Option Value) (base : Heap) (k : Nat) (rep : Bool) (F : Fx) : KX → Prop
  | .fn j x ks => ∃ g f fd ps is sp, F.fs[j]? = some (spPerm is sp) ∧ (g = true → rep = true) ∧ FnR g P w K mg base CX0 k f fd ps (liftSp K sp) ∧ mg x = some (.ref f) ∧ PySem.W.keepIn K (.ref f) = true ∧ KwB K fd ps 0 ks is
  | .meth j ci m ks => ∃ C g f fd ps is sp, F.cv[ci]? = some (.ref C) ∧ F.fs[j]? = some (spPermM is sp) ∧ (g = true → rep = true) ∧ Cls K C ∧ Meth K C m f ∧ FnR g P w K mg base CX0 k f fd ps (liftSp K sp) ∧ KwB K fd ps 1 ks is
  | .make j ci ks => ∃ C g f fd ps k' is sp, F.cv[ci]? = some (.ref C) ∧ F.fs[j]? = some (spPermM is sp) ∧ (g = true → rep = true) ∧ Mk K C f ∧ k' + 1 ≤ k ∧ FnR g P w K mg base CX0 k' f fd ps (liftSp K sp) ∧ KwB K fd ps 1 ks is
  | .eqA j ci => ∃ C sp f fd ps k', F.cv[ci]? = some (.ref C) ∧ F.fs[j]? = some sp ∧ SlotF K C "__eq__" f ∧ AnyT K C ∧ k' + 1 ≤ k ∧ FnR false P w K mg base CX0 k' f fd ps (liftSp K sp) ∧ Binds K fd ps []
  | .neA j ci => ∃ C sp f fd ps k', F.cv[ci]? = some (.ref C) ∧ F.fs[j]? = some sp ∧ SlotF K C "__eq__" f ∧ AnyT K C ∧ PySem.W.findIn K (.ref C) "__ne__" = some (some (.builtin "object.__ne__")) ∧ k' + 1 ≤ k ∧ FnR false P w K mg base CX0 k' f fd ps (liftSp K sp) ∧ Binds K fd ps []
  | .inO j ci => ∃ C sp f fd ps k', F.cv[ci]? = some (.ref C) ∧ F.fs[j]? = some sp ∧ SlotF K C "__contains__" f ∧ k' + 1 ≤ k ∧ FnR false P w K mg base CX0 k' f fd ps (liftSp K sp) ∧ Binds K fd ps []
  | .isA ci => ∃ C, F.cv[ci]? = some (.ref C) ∧ AnyT K C
  | .mkx ci none => ∃ C, F.cv[ci]? = some (.ref C) ∧ PySem.W.keepIn K (.ref C) = true ∧ PySem.W.excIn K C excBases "ValueError.__new__" = true
  | .mkx ci (some f) => ∃ C fI fd ps k', F.cv[ci]? = some (.ref C) ∧ OexC K C ∧ PySem.W.findIn K (.ref C) "__init__" = some (some (.ref fI)) ∧ PySem.W.typeIn K (.ref fI) = some (.type "function") ∧ k' + 1 ≤ k ∧ FnOk P w K mg base CX0 k' fI fd ps (spXI C f) ∧ Binds K fd ps []
  | .isX j z => ∃ sp c cv, F.fs[j]? = some sp ∧ ClsN mg z c cv ∧ IsXsp K cv sp
  | .fldX ci f => ∃ C, F.cv[ci]? = some (.ref C) ∧ XfC K C ∧ PySem.W.findIn K (.ref C) f = some none
/-- what a def's text says of the names it calls, at any place of the call -/
structure Names (P : Program) (w : World) (K : PySem.W.Frag) (mg : Str → Option Value) (base : Heap) (k : Nat) (G : Glb) (F : Fx) : Prop where
  bl : ∀ x ∈ bltNames, mg x = none
  cn : ∀ (i : Nat) (x : Str), G.cn[i]? = some x → ∃ d u v, F.cv[i]? = some d ∧ mg x = some u ∧ RelV v u ∧ ∀ H, VR K H d v
  fn : ∀ (i : Nat) (x : Str), G.fn[i]? = some x → ∃ g sp f fd ps, F.fs[i]? = some sp ∧ (g = true → G.rep = true) ∧ FnR g P w K mg base CX0 k f fd ps (liftSp K sp) ∧ mg x = some (.ref f) ∧ PySem.W.keepIn K (.ref f) = true ∧ Binds K fd ps []
  ms : ∀ (j ci : Nat) (m : Str), (j, ci, m) ∈ G.ms → ∃ C sp g f fd, F.cv[ci]? = some (.ref C) ∧ F.fs[j]? = some sp ∧ (g = true → G.rep = true) ∧ Cls K C ∧ Meth K C m f ∧ FnM g P w K mg base k f fd sp
  mks : ∀ (j ci : Nat), (j, ci) ∈ G.mks → ∃ C sp g f fd ps k', F.cv[ci]? = some (.ref C) ∧ F.fs[j]? = some sp ∧ (g = true → G.rep = true) ∧ Mk K C f ∧ k' + 1 ≤ k ∧ FnR g P w K mg base CX0 k' f fd ps (liftSp K sp) ∧ Binds K fd ps []
  fd : ∀ (ci : Nat) (f : Str), (ci, f) ∈ G.fd → ∃ C, F.cv[ci]? = some (.ref C) ∧ Cls K C ∧ NoAttr K C f
  pr : ∀ (j ci : Nat) (m : Str), (j, ci, m) ∈ G.pr → ∃ C sp f fd ps k', F.cv[ci]? = some (.ref C) ∧ F.fs[j]? = some sp ∧ Cls K C ∧ OwnF K C m f ∧ k' + 1 ≤ k ∧ FnR false P w K mg base CX0 k' f fd ps (liftSp K sp) ∧ Binds K fd ps []
  ic : ∀ ci ∈ G.ic, ∃ C, F.cv[ci]? = some (.ref C) ∧ IsiC K C
  it : ∀ (ci : Nat) (f : Str), (ci, f) ∈ G.it → ∃ C, F.cv[ci]? = some (.ref C) ∧ IterOf K C f ∧ mg "iter" = none ∧ 1 ≤ k
  kw : ∀ e ∈ G.kw, XNm P w K mg base k G.rep F e
theorem xat {X : Cx} {F : Fx} {rep : Bool} {k : Nat} (hg : rep = true → X.A.guards = some []) (hr : Room k X.A) {e : KX} (h : XNm X.prog X.w X.K X.mg X.base k rep F e) : KxAt X F e := by
  cases e with
  | fn j x ks =>
    obtain ⟨g, f, fd, ps, is, sp, a1, a0, a2, a3, a4, a5⟩ := h
    exact ⟨g, f, fd, ps, k, is, sp, a1, a2, fun z => hg (a0 z), hr, a3, a4, a5⟩
  | meth j ci m ks =>
    obtain ⟨C, g, f, fd, ps, is, sp, a1, a2, a0, a3, a4, a5, a6⟩ := h
    exact ⟨C, g, f, fd, ps, k, is, sp, a1, a2, a3, a4, a5, fun z => hg (a0 z), hr, a6⟩
  | make j ci ks =>
    obtain ⟨C, g, f, fd, ps, k', is, sp, a1, a2, a0, a3, a4, a5, a6⟩ := h
    exact ⟨C, g, f, fd, ps, k', is, sp, a1, a2, a3, a5, fun z => hg (a0 z), hr.mono a4, a6⟩
  | eqA j ci =>
    obtain ⟨C, sp, f, fd, ps, k', a1, a2, a3, a4, a5, a6, a7⟩ := h
    exact ⟨C, sp, f, fd, ps, k', a1, a2, a3, a4, a6, hr.mono a5, a7⟩
  | neA j ci =>
    obtain ⟨C, sp, f, fd, ps, k', a1, a2, a3, a4, a8, a5, a6, a7⟩ := h
    exact ⟨C, sp, f, fd, ps, k', a1, a2, a3, a4, a8, a6, hr.mono a5, a7⟩
  | inO j ci =>
    obtain ⟨C, sp, f, fd, ps, k', a1, a2, a3, a5, a6, a7⟩ := h
    exact ⟨C, sp, f, fd, ps, k', a1, a2, a3, a6, hr.mono a5, a7⟩
  | isA ci => exact h
  | isX j z => exact h
  | fldX ci f => exact h
  | mkx ci f =>
    cases f with
    | none => exact h
    | some f =>
      obtain ⟨C, fI, fd, ps, k', a1, a2, a3, a4, a5, a6, a7⟩ := h
      exact ⟨C, a1, ⟨fI, fd, ps, k', a2, a3, a4, a6, hr.mono a5, a7⟩⟩
theorem def_ok {x qual : Str} {st : Stmt} {f : Addr} {fd : FuncData} {N ps : List Str} {k : Nat} {G : Glb} {F : Fx} {c : CB} {sp : DSp} (T : Fun K x qual st f fd) (S : FnScope N ps (defScope st))
    (Nm : Names P w K mg base k G F) (len : ∀ ds h Q, sp ds h Q → ds.length = ps.length) (hc : chkB N G (defScope st) c (defBody st) = true)
    (body : ∀ ds h Q, sp ds h Q → wpB F c (dstart N.length ds) h { nx := fun _ h' => Ret Q .non h', rt := Ret Q }) : FnR G.rep P w K mg base CX0 (k + 1) f fd ps (liftSp K sp) := by
  refine fnR_of T S (fun vs H Q E ⟨ds, h, Qd, r, hr, s, p⟩ => by rw [← r.length]; exact len _ _ _ s) fun cdv A outer s H vs Q E hgd hr ⟨ds, h, Qd, r, hrr, q, p⟩ => ?_
  have C : CtxS N G F (cxOf CX0 P w K mg base N qual (defScope st) f cdv A outer s H E).nox := {
    hN := rfl
    nd := S.nd
    calm := rfl
    hu := by have := hr.un; show (A.deeper (envOfC qual (defScope st) s.heap.objs.size f cdv)).units + 100 < cLine; omega
    grd := hgd
    bl := Nm.bl
    cn := Nm.cn
    fn := fun i x e => by
      obtain ⟨g, sp, f, fd, ps, a1, a0, a2, a3, a4, a5⟩ := Nm.fn i x e
      exact ⟨sp, a1, ⟨g, f, fd, ps, k, a2, fun z => hgd (a0 z), hr, a3, a4, a5⟩⟩
    ms := fun j ci m e => by
      obtain ⟨c, sp, g, f, fd, a1, a2, a0, a3, a4, a5⟩ := Nm.ms j ci m e
      exact ⟨c, sp, a1, a2, ⟨g, f, fd, k, a3, a4, a5, fun z => hgd (a0 z), hr⟩⟩
    mks := fun j ci e => by
      obtain ⟨c, sp, g, f, fd, ps, k', a1, a2, a0, a3, a4, a5, a6⟩ := Nm.mks j ci e
      exact ⟨c, sp, a1, a2, ⟨g, f, fd, ps, k', a3, a5, fun z => hgd (a0 z), hr.mono a4, a6⟩⟩
    kw := fun e h => xat hgd hr (Nm.kw e h)
    fd := Nm.fd
    ic := Nm.ic
    it := fun ci f e => let ⟨C, a1, a2, a3, a4⟩ := Nm.it ci f e; ⟨C, a1, a2, a3, hr.mono a4⟩
    pr := fun j ci m e => by
      obtain ⟨c, sp, f, fd, ps, k', a1, a2, a3, a4, a5, a6, a7⟩ := Nm.pr j ci m e
      exact ⟨c, sp, a1, a2, ⟨f, fd, ps, k', a3, a4, a6, hr.mono a5, a7⟩⟩
    bkd := by
      show (if (defScope st).kind.isAnnotationScope then ScopeKind.function else (defScope st).kind) = _
      rw [S.kind]; rfl
    fna := fun _ => rfl
    hp := PassesOwn.never }
  refine ⟨_, (sndB c C hc).nox, dstart N.length ds, h, _, sr_start r, hrr, body _ _ _ q, ⟨?_, p.ret, ?_, ?_⟩⟩
  · intro ρ h' σ H' e sr hr' z
    exact p.ret .non h' .non H' e rfl hr' z
  · intro ρ h' σ H' e sr hr' z
    exact z.elim
  · intro ρ h' σ H' e sr hr' z
    exact z.elim
end
end DL

set_option Elab.async false
set_option linter.all false
set_option maxRecDepth 100000
set_option maxHeartbeats 4000000
/-! DL13: a def that opens what it is handed; the deck; the program's defs; the law's end. -/
namespace DL
open PySem PySem.Spec PyProof.Rows L2
theorem Ext.opened {h h1 h' : DH} {H H' : Hp} (o : ∀ b, FP h1 H b → FP h H b) (e : Ext h1 H h' H') : Ext h H h' H' :=
  ⟨e.tup, e.frz, fun b u z n => e.frame b u z fun f => n (o b f), e.there, fun b f => (e.fp b f).imp (o b) id⟩
section
variable {P : Program} {w : World} {K : PySem.W.Frag} {mg : Str → Option Value} {base : Heap}
/-- as def_ok: the objects may first be opened -/
theorem def_okO {x qual : Str} {st : Stmt} {f : Addr} {fd : FuncData} {N ps : List Str} {k : Nat} {G : Glb} {F : Fx} {c : CB} {sp : DSp} (T : Fun K x qual st f fd) (S : FnScope N ps (defScope st))
    (Nm : Names P w K mg base k G F) (len : ∀ ds h Q, sp ds h Q → ds.length = ps.length) (hc : chkB N G (defScope st) c (defBody st) = true)
    (body : ∀ ds h Q H, sp ds h Q → HR K h H → ∃ h1, (HR K h1 H ∧ ∀ b, FP h1 H b → FP h H b) ∧ wpB F c (dstart N.length ds) h1 { nx := fun _ h' => Ret Q .non h', rt := Ret Q }) : FnR G.rep P w K mg base CX0 (k + 1) f fd ps (liftSp K sp) := by
  refine fnR_of T S (fun vs H Q E ⟨ds, h, Qd, r, hr, s, p⟩ => by rw [← r.length]; exact len _ _ _ s) fun cdv A outer s H vs Q E hgd hr ⟨ds, h, Qd, r, hrr, q, p⟩ => ?_
  have C : CtxS N G F (cxOf CX0 P w K mg base N qual (defScope st) f cdv A outer s H E).nox := {
    hN := rfl
    nd := S.nd
    calm := rfl
    hu := by have := hr.un; show (A.deeper (envOfC qual (defScope st) s.heap.objs.size f cdv)).units + 100 < cLine; omega
    grd := hgd
    bl := Nm.bl
    cn := Nm.cn
    fn := fun i x e => by
      obtain ⟨g, sp, f, fd, ps, a1, a0, a2, a3, a4, a5⟩ := Nm.fn i x e
      exact ⟨sp, a1, ⟨g, f, fd, ps, k, a2, fun z => hgd (a0 z), hr, a3, a4, a5⟩⟩
    ms := fun j ci m e => by
      obtain ⟨c, sp, g, f, fd, a1, a2, a0, a3, a4, a5⟩ := Nm.ms j ci m e
      exact ⟨c, sp, a1, a2, ⟨g, f, fd, k, a3, a4, a5, fun z => hgd (a0 z), hr⟩⟩
    mks := fun j ci e => by
      obtain ⟨c, sp, g, f, fd, ps, k', a1, a2, a0, a3, a4, a5, a6⟩ := Nm.mks j ci e
      exact ⟨c, sp, a1, a2, ⟨g, f, fd, ps, k', a3, a5, fun z => hgd (a0 z), hr.mono a4, a6⟩⟩
    kw := fun e h => xat hgd hr (Nm.kw e h)
    fd := Nm.fd
    ic := Nm.ic
    it := fun ci f e => let ⟨C, a1, a2, a3, a4⟩ := Nm.it ci f e; ⟨C, a1, a2, a3, hr.mono a4⟩
    pr := fun j ci m e => by
      obtain ⟨c, sp, f, fd, ps, k', a1, a2, a3, a4, a5, a6, a7⟩ := Nm.pr j ci m e
      exact ⟨c, sp, a1, a2, ⟨f, fd, ps, k', a3, a4, a6, hr.mono a5, a7⟩⟩
    bkd := by
      show (if (defScope st).kind.isAnnotationScope then ScopeKind.function else (defScope st).kind) = _
      rw [S.kind]; rfl
    fna := fun _ => rfl
    hp := PassesOwn.never }
  obtain ⟨h1, ⟨hr1, ho⟩, go⟩ := body _ _ _ H q hrr
  have p1 : Post K h1 H Qd Q := fun d h' v H' e rv hr' z => p d h' v H' (e.opened ho) rv hr' z
  refine ⟨_, (sndB c C hc).nox, dstart N.length ds, h1, _, sr_start r, hr1, go, ⟨?_, p1.ret, ?_, ?_⟩⟩
  · intro ρ h' σ H' e sr hr' z
    exact p1.ret .non h' .non H' e rfl hr' z
  · intro ρ h' σ H' e sr hr' z
    exact z.elim
  · intro ρ h' σ H' e sr hr' z
    exact z.elim
end

/-! ### the deck, opened and closed -/
theorem VRs.of2 {K : PySem.W.Frag} {H : Hp} {a0 a1 : Addr} {k : Int} : VRs K H [.ref a0, .ref a1, .int k] [.ref a0, .ref a1, .int k] := .cons rfl (.cons rfl (.cons rfl .nil))
def opened (h : DH) (a a0 a1 : Addr) (k : Int) (ns ms : List Int) : DH := fun b => if b = a then some (.lst [.ref a0, .ref a1, .int k]) else if b = a0 then some (.lst (ns.map .int)) else if b = a1 then some (.lst (ms.map .int)) else h b
theorem open_deck {K : PySem.W.Frag} {h : DH} {H : Hp} {a : Addr} (hr : HR K h H) (e : h a = some .deck) : ∃ (a0 a1 : Addr) (k : Int) (ns ms : List Int), a0 ≠ a1 ∧ a ≠ a0 ∧ a ≠ a1 ∧ h a0 = none ∧ h a1 = none ∧ ms ≠ [] ∧ ms.length ≤ 64 ∧ ns.length ≤ 63 ∧ (∀ n ∈ ns, 0 ≤ n) ∧ (∀ n ∈ ms, 0 ≤ n) ∧ 0 ≤ k ∧ (∀ c, h c = some .deck → c = a) ∧
    HR K (opened h a a0 a1 k ns ms) H ∧ ∀ b, FP (opened h a a0 a1 k ns ms) H b → FP h H b := by
  obtain ⟨a0, a1, k, ns, ms, e1, e2, e3, e4, e5, e6, e7, e8, e9, e10, e11, e12, e13, e14⟩ := (hr a _ e).ex
  have pr : ∀ b, b = a0 ∨ b = a1 → FP h H b := fun b z => .inr ⟨a, e, a0, a1, k, e1, z⟩
  refine ⟨a0, a1, k, ns, ms, e4, e5, e6, e7, e8, e9, e10, e11, e12, e13, e14, (hr a _ e).one, fun b o q => ?_, fun b f => ?_⟩
  · unfold opened at q
    by_cases z : b = a
    · rw [if_pos z] at q; subst z; cases q
      exact ⟨_, e1, VRs.of2⟩
    · rw [if_neg z] at q
      by_cases z0 : b = a0
      · rw [if_pos z0] at q; subst z0; cases q
        exact ⟨_, e2, VRs.of_ints⟩
      · rw [if_neg z0] at q
        by_cases z1 : b = a1
        · rw [if_pos z1] at q; subst z1; cases q
          exact ⟨_, e3, VRs.of_ints⟩
        · rw [if_neg z1] at q
          have r := hr b o q
          cases o with
          | lst xs => exact r
          | dk xs => exact r
          | dt xs => exact r
          | fz xs => exact r
          | ins C fs => exact r
          | deck => exact absurd ((hr a _ e).one b q) z
  · rcases f with f | ⟨c, ec, q⟩
    · unfold opened at f
      by_cases z : b = a
      · subst z; exact .inl (by rw [e]; exact fun z => nomatch z)
      · rw [if_neg z] at f
        by_cases z0 : b = a0
        · exact pr b (.inl z0)
        · rw [if_neg z0] at f
          by_cases z1 : b = a1
          · exact pr b (.inr z1)
          · rw [if_neg z1] at f; exact .inl f
    · unfold opened at ec
      by_cases z : c = a
      · rw [if_pos z] at ec; cases ec
      · rw [if_neg z] at ec
        by_cases z0 : c = a0
        · rw [if_pos z0] at ec; cases ec
        · rw [if_neg z0] at ec
          by_cases z1 : c = a1
          · rw [if_pos z1] at ec; cases ec
          · rw [if_neg z1] at ec; exact .inr ⟨c, ec, q⟩
theorem close_deck {g h' : DH} {a a0 a1 : Addr} {k : Int} {ns ms : List Int} (e : g a = some .deck) (n0 : g a0 = none) (n1 : g a1 = none) (d1 : a0 ≠ a1) (d2 : a ≠ a0) (d3 : a ≠ a1) (rest : ∀ b o, b ≠ a → g b = some o → h' b = some o ∧ o ≠ .deck)
    (ea : h' a = some (.lst [.ref a0, .ref a1, .int k])) (ea0 : h' a0 = some (.lst (ns.map .int))) (ea1 : h' a1 = some (.lst (ms.map .int))) (f1 : ms ≠ []) (f2 : ms.length ≤ 64) (f3 : ns.length ≤ 63) (f4 : ∀ n ∈ ns, 0 ≤ n) (f5 : ∀ n ∈ ms, 0 ≤ n) (f6 : 0 ≤ k) : Abs g h' := by
  intro K H r
  have ha : H a = some (.lst [.ref a0, .ref a1, .int k]) := by
    obtain ⟨vs, b1, b2⟩ := r _ _ ea
    obtain ⟨v, t, rfl, q, v2, t2, rfl, q2, v3, t3, rfl, q3, z⟩ := b2
    cases q; cases q2; cases q3; cases z
    exact b1
  have h0 : H a0 = some (.lst (ns.map V.int)) := by
    obtain ⟨vs, b1, b2⟩ := r _ _ ea0
    rw [b1, b2.ints]
  have h1 : H a1 = some (.lst (ms.map V.int)) := by
    obtain ⟨vs, b1, b2⟩ := r _ _ ea1
    rw [b1, b2.ints]
  refine ⟨fun b o q => ?_, fun b f => ?_⟩
  · by_cases z : b = a
    · subst z
      rw [e] at q; cases q
      exact ⟨⟨a0, a1, k, ns, ms, ha, h0, h1, d1, d2, d3, n0, n1, f1, f2, f3, f4, f5, f6⟩, fun c y => by
        by_cases z : c = b
        · exact z
        · exact absurd rfl (rest c _ z y).2⟩
    · obtain ⟨y, ne⟩ := rest b o z q
      have := r b o y
      cases o with
      | lst xs => exact this
      | dk xs => exact this
      | dt xs => exact this
      | fz xs => exact this
      | ins C fs => exact this
      | deck => exact absurd rfl ne
  · rcases f with f | ⟨c, ec, q⟩
    · refine .inl fun y => ?_
      by_cases z : b = a
      · subst z; rw [ea] at y; cases y
      · cases w : g b with
        | none => exact f w
        | some o => have := (rest b o z w).1; rw [y] at this; cases this
    · obtain ⟨b0, b1, k', y, p⟩ := q
      by_cases z : c = a
      · subst z
        rw [ha] at y; cases y
        refine .inl fun y => ?_
        rcases p with rfl | rfl
        · rw [ea0] at y; cases y
        · rw [ea1] at y; cases y
      · exact absurd rfl (rest c _ z ec).2
/-! ### the program's defs -/
/-- the defs that some law calls by keywords: their keywords' order, the parameters' places in it -/
def kwTab : List (Str × List Str × List Nat) := [("first_standing", ["room", "costs"], [1, 0]), ("is_act", ["value", "room"], [1, 0]), ("possible", ["standing", "room", "costs"], [2, 1, 0]), ("after", ["value", "standing", "room", "costs"], [3, 2, 1, 0]), ("plan_error", ["value", "room", "costs"], [2, 1, 0]),
  ("cost_of", ["plan", "room", "costs"], [2, 1, 0]), ("repeats", ["plan", "costs", "room"], [1, 2, 0]), ("table", ["room", "costs"], [1, 0]), ("bound_error", ["value", "room", "costs"], [2, 1, 0]), ("fewest", ["room", "costs"], [1, 0]), ("least_room", ["most", "costs"], [1, 0]), ("saved", ["room", "costs"], [1, 0]),
  ("plan_text", ["plan"], [0]), ("read_acts", ["value", "room"], [1, 0]), ("tree_error", ["value", "room", "costs"], [2, 1, 0]), ("room_of", ["tree"], [0]), ("tree_cost", ["tree", "room", "costs"], [2, 1, 0]), ("plan_of", ["tree", "room", "costs"], [2, 1, 0]), ("first_sweeps", ["room", "costs"], [1, 0]), ("best_count", ["room", "costs"], [1, 0]),
  ("best_at", ["value", "room", "costs"], [2, 1, 0]), ("place_of", ["value", "room", "costs"], [2, 1, 0]), ("waste", ["plan", "room", "costs"], [2, 1, 0]), ("greatest", ["rounds", "room"], [1, 0]), ("rounds_for", ["room", "steps"], [1, 0]), ("fewest_equal", ["room", "steps"], [1, 0]), ("best_sweeps", ["room", "steps"], [1, 0])]
/-- a def's arguments, by place and by the keywords of the table -/
def BindsW (K : PySem.W.Frag) (x : Str) (fd : FuncData) (ps : List Str) : Prop := Binds K fd ps [] ∧ ∀ e ∈ kwTab, e.1 = x → KwB K fd ps 0 e.2.1 e.2.2
theorem kw_no {K : PySem.W.Frag} {x : Str} {fd : FuncData} {ps : List Str} (h : (kwTab.all fun e => !decide (e.1 = x)) = true) : ∀ e ∈ kwTab, e.1 = x → KwB K fd ps 0 e.2.1 e.2.2 := fun e he z => by
  have := List.all_eq_true.mp h e he
  rw [decide_eq_true z] at this; cases this
theorem kw_one {K : PySem.W.Frag} {x : Str} {fd : FuncData} {ps ks : List Str} {is : List Nat} (h : (kwTab.all fun e => !decide (e.1 = x) || (decide (e.2.1 = ks) && decide (e.2.2 = is))) = true) (b : KwB K fd ps 0 ks is) : ∀ e ∈ kwTab, e.1 = x → KwB K fd ps 0 e.2.1 e.2.2 := fun e he z => by
  have := List.all_eq_true.mp h e he
  rw [decide_eq_true z, Bool.not_true, Bool.false_or, Bool.and_eq_true] at this
  rw [of_decide_eq_true this.1, of_decide_eq_true this.2]; exact b
structure HasDef (K : PySem.W.Frag) (mg : Str → Option Value) (x : Str) (st : Stmt) (ps : List Str) : Prop where
  ex : ∃ f fd, Fun K x x st f fd ∧ mg x = some (.ref f) ∧ BindsW K x fd ps
theorem hasDef {K : PySem.W.Frag} {h : Heap} {mg : Str → Option Value} (X : K.In h) (G : h.Ns mainGlobals mg) {x : Str} {st : Stmt} {ps : List Str} {f : Addr} {od an : Option Addr} {sl : Array (Option Value)} {oc kV dc pm cd ct : Value}
    (a : PySem.W.nsIn K mainGlobals x = some (some (.ref f))) (l : K.lookup f = some ⟨oc, od, .func (PySem.W.fnOf x x (defArgs st) (defBody st) (defScope st) .none kV dc pm an cd ct), sl⟩) (c : PySem.W.codeIn K cd x = true) (k : PySem.W.keepIn K (.ref f) = true)
    (b : ∀ (kV doc pm : Value) (an : Option Addr) (cdv ct : Value) (us : List Value), us.length = ps.length → bindArgs (PySem.W.fnOf x x (defArgs st) (defBody st) (defScope st) .none kV doc pm an cdv ct) ⟨us, []⟩ = pure (ps.zip us))
    (bk : ∀ fd, Fun K x x st f fd → ∀ e ∈ kwTab, e.1 = x → KwB K fd ps 0 e.2.1 e.2.2) : HasDef K mg x st ps :=
  ⟨f, _, fun_mk l c k, PySem.W.mg_of X G a, (fun_mk l c k).binds b, bk _ (fun_mk l c k)⟩
structure HasLaw (K : PySem.W.Frag) (mg : Str → Option Value) (st : Stmt) : Prop where
  ex : ∃ f fd, Fun K "law" "law" st f fd ∧ mg "law" = some (.ref f) ∧ ∀ (s : Shared) (u : Value), BindsTo s fd ⟨[u], []⟩ [("_law_script", u)]
theorem hasLaw {K : PySem.W.Frag} {h : Heap} {mg : Str → Option Value} (X : K.In h) (G : h.Ns mainGlobals mg) {st : Stmt} {f : Addr} {od an : Option Addr} {sl : Array (Option Value)} {oc kV dc pm cd ct : Value}
    (a : PySem.W.nsIn K mainGlobals "law" = some (some (.ref f))) (l : K.lookup f = some ⟨oc, od, .func (PySem.W.fnOf "law" "law" (defArgs st) (defBody st) (defScope st) .none kV dc pm an cd ct), sl⟩) (c : PySem.W.codeIn K cd "law" = true) (k : PySem.W.keepIn K (.ref f) = true)
    (b : ∀ (kV doc pm : Value) (an : Option Addr) (cdv ct : Value) (u : Value), bindArgs (PySem.W.fnOf "law" "law" (defArgs st) (defBody st) (defScope st) .none kV doc pm an cdv ct) ⟨[u], []⟩ = pure [(("_law_script" : Str), u)]) : HasLaw K mg st :=
  ⟨f, _, fun_mk l c k, PySem.W.mg_of X G a, fun s u => .of_eq (b _ _ _ _ _ _ u)⟩
/-- a def that keeps its promise -/
def Keeps (P : Program) (w : World) (K : PySem.W.Frag) (mg : Str → Option Value) (base : Heap) (g : Bool) (k : Nat) (x : Str) (sp : DSp) : Prop :=
  ∃ f fd ps, FnR g P w K mg base CX0 k f fd ps (liftSp K sp) ∧ mg x = some (.ref f) ∧ PySem.W.keepIn K (.ref f) = true ∧ BindsW K x fd ps
section
variable {P : Program} {w : World} {K : PySem.W.Frag} {mg : Str → Option Value} {base : Heap} {g : Bool} {k : Nat} {x : Str} {sp : DSp}
theorem Keeps.mono {j : Nat} (F : Keeps P w K mg base g j x sp) (h : j ≤ k) : Keeps P w K mg base g k x sp := by
  obtain ⟨f, fd, ps, a, b⟩ := F
  exact ⟨f, fd, ps, a.mono h, b⟩
/-- the callees of a def: each by its name, at one level -/
inductive Callees (P : Program) (w : World) (K : PySem.W.Frag) (mg : Str → Option Value) (base : Heap) (k : Nat) (rep : Bool) : List Str → List DSp → Prop where
  | nil : Callees P w K mg base k rep [] []
  | cons {g : Bool} {x : Str} {sp : DSp} {xs : List Str} {sps : List DSp} : Keeps P w K mg base g k x sp → (g = true → rep = true) → Callees P w K mg base k rep xs sps → Callees P w K mg base k rep (x :: xs) (sp :: sps)
theorem Callees.get {rep : Bool} : ∀ {xs : List Str} {sps : List DSp} {i : Nat} {x : Str}, Callees P w K mg base k rep xs sps → xs[i]? = some x → ∃ g sp, sps[i]? = some sp ∧ (g = true → rep = true) ∧ Keeps P w K mg base g k x sp
  | _, _, _, _, .nil, e => by simp at e
  | _, _, 0, _, .cons a b c, e => by simp at e; subst e; exact ⟨_, _, rfl, b, a⟩
  | _, _, i + 1, _, .cons a b c, e => by
    obtain ⟨g, sp, p, q, r⟩ := Callees.get (i := i) c (by simpa using e)
    exact ⟨g, sp, by simpa using p, q, r⟩
/-- a constant of the module -/
structure Const (K : PySem.W.Frag) (mg : Str → Option Value) (x : Str) (d : D) : Prop where
  ex : ∃ u v, mg x = some u ∧ RelV v u ∧ ∀ H, VR K H d v
theorem constStr {K : PySem.W.Frag} {h : Heap} {mg : Str → Option Value} (X : K.In h) (G : h.Ns mainGlobals mg) {x z : Str} {t : Tok} (a : PySem.W.nsIn K mainGlobals x = some (some (.str z t))) : Const K mg x (.str z) :=
  ⟨_, .str z, PySem.W.mg_of X G a, ⟨t, rfl⟩, fun _ => rfl⟩
theorem constInt {K : PySem.W.Frag} {h : Heap} {mg : Str → Option Value} (X : K.In h) (G : h.Ns mainGlobals mg) {x : Str} {z : Int} {t : Tok} (a : PySem.W.nsIn K mainGlobals x = some (some (.int z t))) : Const K mg x (.int z) :=
  ⟨_, .int z, PySem.W.mg_of X G a, ⟨t, rfl⟩, fun _ => rfl⟩
inductive Consts (K : PySem.W.Frag) (mg : Str → Option Value) : List Str → List D → Prop where
  | nil : Consts K mg [] []
  | cons {x : Str} {d : D} {xs : List Str} {ds : List D} : Const K mg x d → Consts K mg xs ds → Consts K mg (x :: xs) (d :: ds)
theorem Consts.get : ∀ {xs : List Str} {ds : List D} {i : Nat} {x : Str}, Consts K mg xs ds → xs[i]? = some x → ∃ d, ds[i]? = some d ∧ Const K mg x d
  | _, _, _, _, .nil, e => by simp at e
  | _, _, 0, _, .cons a c, e => by simp at e; subst e; exact ⟨_, rfl, a⟩
  | _, _, i + 1, _, .cons a c, e => by
    obtain ⟨d, p, r⟩ := Consts.get (i := i) c (by simpa using e)
    exact ⟨d, by simpa using p, r⟩
def NoBlt (mg : Str → Option Value) : Prop := ∀ x ∈ bltNames, mg x = none
theorem noBlt {h : Heap} (X : K.In h) (G : h.Ns mainGlobals mg) (z0 : PySem.W.nsIn K mainGlobals "len" = some none) (z1 : PySem.W.nsIn K mainGlobals "tuple" = some none) (z2 : PySem.W.nsIn K mainGlobals "list" = some none) (z3 : PySem.W.nsIn K mainGlobals "min" = some none) (z4 : PySem.W.nsIn K mainGlobals "max" = some none) (z5 : PySem.W.nsIn K mainGlobals "sum" = some none) (z6 : PySem.W.nsIn K mainGlobals "all" = some none) (z7 : PySem.W.nsIn K mainGlobals "any" = some none) (z8 : PySem.W.nsIn K mainGlobals "repr" = some none) (z9 : PySem.W.nsIn K mainGlobals "abs" = some none) (z10 : PySem.W.nsIn K mainGlobals "int" = some none) (z11 : PySem.W.nsIn K mainGlobals "str" = some none) (z12 : PySem.W.nsIn K mainGlobals "range" = some none) (z13 : PySem.W.nsIn K mainGlobals "enumerate" = some none) (z14 : PySem.W.nsIn K mainGlobals "zip" = some none) (z15 : PySem.W.nsIn K mainGlobals "isinstance" = some none) (z16 : PySem.W.nsIn K mainGlobals "bool" = some none) (z17 : PySem.W.nsIn K mainGlobals "sorted" = some none) : NoBlt mg := by
  intro x hx
  simp only [bltNames, List.mem_cons, List.not_mem_nil, or_false] at hx
  rcases hx with rfl | rfl | rfl | rfl | rfl | rfl | rfl | rfl | rfl | rfl | rfl | rfl | rfl | rfl | rfl | rfl | rfl | rfl
  · exact PySem.W.mg_none_of X G z0
  · exact PySem.W.mg_none_of X G z1
  · exact PySem.W.mg_none_of X G z2
  · exact PySem.W.mg_none_of X G z3
  · exact PySem.W.mg_none_of X G z4
  · exact PySem.W.mg_none_of X G z5
  · exact PySem.W.mg_none_of X G z6
  · exact PySem.W.mg_none_of X G z7
  · exact PySem.W.mg_none_of X G z8
  · exact PySem.W.mg_none_of X G z9
  · exact PySem.W.mg_none_of X G z10
  · exact PySem.W.mg_none_of X G z11
  · exact PySem.W.mg_none_of X G z12
  · exact PySem.W.mg_none_of X G z13
  · exact PySem.W.mg_none_of X G z14
  · exact PySem.W.mg_none_of X G z15
  · exact PySem.W.mg_none_of X G z16
  · exact PySem.W.mg_none_of X G z17
theorem names_of {xs : List Str} {sps : List DSp} {cs : List Str} {ds : List D} {rep : Bool} (B : NoBlt mg) (C : Callees P w K mg base k rep xs sps) (D : Consts K mg cs ds) : Names P w K mg base k (glb cs xs rep) ⟨ds, sps⟩ where
  bl := B
  cn := fun i x e => by
    obtain ⟨d, a, ⟨u, v, b⟩⟩ := D.get e
    exact ⟨d, u, v, a, b⟩
  fn := fun i x e => by
    obtain ⟨g, sp, a, b, ⟨f, fd, ps, c⟩⟩ := C.get e
    exact ⟨g, sp, f, fd, ps, a, b, c.1, c.2.1, c.2.2.1, c.2.2.2.1⟩
  ms := fun _ _ _ e => (nomatch (show _ ∈ ([] : List (Nat × Nat × Str)) from e))
  mks := fun _ _ e => (nomatch (show _ ∈ ([] : List (Nat × Nat)) from e))
  fd := fun _ _ e => (nomatch (show _ ∈ ([] : List (Nat × Str)) from e))
  pr := fun _ _ _ e => (nomatch (show _ ∈ ([] : List (Nat × Nat × Str)) from e))
  ic := fun _ e => (nomatch (show _ ∈ ([] : List Nat) from e))
  it := fun _ _ e => (nomatch (show _ ∈ ([] : List (Nat × Str)) from e))
  kw := fun _ e => (nomatch (show _ ∈ ([] : List KX) from e))
theorem keep_def {st : Stmt} {N ps xs cs : List Str} {sps : List DSp} {ds : List D} {rep : Bool} {c : CB} (T : HasDef K mg x st ps) (S : FnScope N ps (defScope st)) (B : NoBlt mg) (C : Callees P w K mg base k rep xs sps) (Dd : Consts K mg cs ds)
    (len : ∀ ds h Q, sp ds h Q → ds.length = ps.length) (hc : chkB N (glb cs xs rep) (defScope st) c (defBody st) = true)
    (body : ∀ as h Q, sp as h Q → wpB ⟨ds, sps⟩ c (dstart N.length as) h { nx := fun _ h' => Ret Q .non h', rt := Ret Q }) : Keeps P w K mg base rep (k + 1) x sp := by
  obtain ⟨f, fd, F, m, b⟩ := T.ex
  exact ⟨f, fd, ps, def_ok F S (names_of B C Dd) len hc body, m, F.kp, b⟩
theorem keep_defO {st : Stmt} {N ps xs cs : List Str} {sps : List DSp} {ds : List D} {rep : Bool} {c : CB} (T : HasDef K mg x st ps) (S : FnScope N ps (defScope st)) (B : NoBlt mg) (C : Callees P w K mg base k rep xs sps) (Dd : Consts K mg cs ds)
    (len : ∀ ds h Q, sp ds h Q → ds.length = ps.length) (hc : chkB N (glb cs xs rep) (defScope st) c (defBody st) = true)
    (body : ∀ as h Q (H : Hp), sp as h Q → HR K h H → ∃ h1, (HR K h1 H ∧ ∀ b, FP h1 H b → FP h H b) ∧ wpB ⟨ds, sps⟩ c (dstart N.length as) h1 { nx := fun _ h' => Ret Q .non h', rt := Ret Q }) : Keeps P w K mg base rep (k + 1) x sp := by
  obtain ⟨f, fd, F, m, b⟩ := T.ex
  exact ⟨f, fd, ps, def_okO F S (names_of B C Dd) len hc body, m, F.kp, b⟩
end
/-- what the law promises -/
def spLaw : DSp := fun ds h Q => ∃ ns, ds = [.scr ns] ∧ ns.length ≤ 63 ∧ h = (fun _ => none) ∧ ∀ h', Q (.bl true) h'
theorem len_law : ∀ ds h Q, spLaw ds h Q → ds.length = 1 := fun _ _ _ ⟨_, e, _⟩ => by rw [e]; rfl
/-- the law's end -/
theorem walkD {l : PySem.W.OpenLaw} {k : Nat} {q : Program} {loose : List Str} {XP : (Str → Option Value) → Heap → Prop} {YP : World → Heap → Prop} {d : DefRec} {K : Params → PySem.W.Frag}
    (most : l.most = some 63) (nodef : d.params.defaults = []) (room : Room k callerA) (hY : ∀ (w : World) (h : Heap), YP w h → (K w.params).In h) (hd : d.name = "law")
    (F : ∀ (w : World) (mg : Str → Option Value) (h : Heap), (K w.params).In h → h.Ns mainGlobals mg →
      (∃ f fd, mg "law" = some (.ref f) ∧ (∀ (s : Shared) (u : Value), BindsTo s fd ⟨[u], []⟩ [("_law_script", u)]) ∧ ∀ base : Heap, (K w.params).In base → base.Ns mainGlobals mg → FnR true l.prog w (K w.params) mg base CX0 k f fd ["_law_script"] (liftSp (K w.params) spLaw))) :
    PySem.W.WalkO q loose XP YP l.row.toRowW d [] (fun f vs => PySem.call f vs) := by
  refine walkR (x := "_law_script") (sp := fun w => liftSp (K w.params) spLaw) most (by decide) nodef room hY (fun w mg fa h inK G named => ?_) fun w H a ns hl only sq => ?_
  · obtain ⟨f, fd, m, b, FF⟩ := F w mg h inK G
    rw [hd, m] at named
    cases named
    exact ⟨fd, b, FF⟩
  · refine ⟨[.scr ns], fun _ => none, fun v _ => v = .bl true, .cons ⟨a, rfl, scr_only only sq⟩ .nil, fun _ _ z => (by cases z), ⟨ns, rfl, hl, rfl, fun _ => rfl⟩, fun d h' v H' _ r _ e => ?_⟩
    subst e
    exact r
end DL

set_option Elab.async false
set_option linter.all false
set_option maxRecDepth 100000
/-! DL14: classes: what the top must say, methods that keep their promises. -/
namespace DL
open PySem PySem.Spec PyProof.Rows L2
structure HasCls (K : PySem.W.Frag) (mg : Str → Option Value) (x : Str) (C : Addr) : Prop where
  cl : Cls K C
  at_ : mg x = some (.ref C)
theorem HasCls.const {K : PySem.W.Frag} {mg : Str → Option Value} {x : Str} {C : Addr} (h : HasCls K mg x C) : Const K mg x (.ref C) := ⟨⟨.ref C, .ref C, h.at_, rfl, fun _ => rfl⟩⟩
structure HasMeth (K : PySem.W.Frag) (C : Addr) (m qual : Str) (st : Stmt) (ps : List Str) : Prop where
  ex : ∃ f fd, Fun K m qual st f fd ∧ Meth K C m f ∧ Binds K fd ps []
structure HasInit (K : PySem.W.Frag) (C : Addr) (qual : Str) (st : Stmt) (ps : List Str) : Prop where
  ex : ∃ f fd, Fun K "__init__" qual st f fd ∧ Mk K C f ∧ Binds K fd ps []
theorem hasMeth {K : PySem.W.Frag} {C : Addr} {m q : Str} {st : Stmt} {ps : List Str} {f : Addr} {od an : Option Addr} {sl : Array (Option Value)} {oc kV dc pm cd ct : Value}
    (a : PySem.W.findIn K (.ref C) m = some (some (.ref f))) (i : PySem.W.isFn K (.ref f) = true) (l : K.lookup f = some ⟨oc, od, .func (PySem.W.fnOf m q (defArgs st) (defBody st) (defScope st) .none kV dc pm an cd ct), sl⟩) (c : PySem.W.codeIn K cd q = true) (k : PySem.W.keepIn K (.ref f) = true)
    (b : ∀ (kV doc pm : Value) (an : Option Addr) (cdv ct : Value) (us : List Value), us.length = ps.length → bindArgs (PySem.W.fnOf m q (defArgs st) (defBody st) (defScope st) .none kV doc pm an cdv ct) ⟨us, []⟩ = pure (ps.zip us)) : HasMeth K C m q st ps :=
  ⟨f, _, fun_mk l c k, ⟨a, i, k⟩, (fun_mk l c k).binds b⟩
theorem hasInit {K : PySem.W.Frag} {C : Addr} {q : Str} {st : Stmt} {ps : List Str} {f : Addr} {od an : Option Addr} {sl : Array (Option Value)} {oc kV dc pm cd ct : Value}
    (mk : PySem.W.makesIn K C = true) (kc : PySem.W.keepIn K (.ref C) = true)
    (a : PySem.W.findIn K (.ref C) "__init__" = some (some (.ref f))) (i : PySem.W.isFn K (.ref f) = true) (l : K.lookup f = some ⟨oc, od, .func (PySem.W.fnOf "__init__" q (defArgs st) (defBody st) (defScope st) .none kV dc pm an cd ct), sl⟩) (c : PySem.W.codeIn K cd q = true) (k : PySem.W.keepIn K (.ref f) = true)
    (b : ∀ (kV doc pm : Value) (an : Option Addr) (cdv ct : Value) (us : List Value), us.length = ps.length → bindArgs (PySem.W.fnOf "__init__" q (defArgs st) (defBody st) (defScope st) .none kV doc pm an cdv ct) ⟨us, []⟩ = pure (ps.zip us)) : HasInit K C q st ps :=
  ⟨f, _, fun_mk l c k, ⟨mk, a, i, kc⟩, (fun_mk l c k).binds b⟩
def KeepsM (P : Program) (w : World) (K : PySem.W.Frag) (mg : Str → Option Value) (base : Heap) (g : Bool) (k : Nat) (C : Addr) (m : Str) (sp : DSp) : Prop :=
  ∃ f fd, FnM g P w K mg base k f fd sp ∧ Meth K C m f
def KeepsI (P : Program) (w : World) (K : PySem.W.Frag) (mg : Str → Option Value) (base : Heap) (g : Bool) (k : Nat) (C : Addr) (sp : DSp) : Prop :=
  ∃ f fd ps, FnR g P w K mg base CX0 k f fd ps (liftSp K sp) ∧ Mk K C f ∧ Binds K fd ps []
section
variable {P : Program} {w : World} {K : PySem.W.Frag} {mg : Str → Option Value} {base : Heap} {g : Bool} {k : Nat} {x m q : Str} {sp : DSp} {C : Addr}
theorem KeepsM.mono {j : Nat} (F : KeepsM P w K mg base g j C m sp) (h : j ≤ k) : KeepsM P w K mg base g k C m sp := by
  obtain ⟨f, fd, a, b⟩ := F
  exact ⟨f, fd, a.mono h, b⟩
/-- the methods that a text calls -/
inductive Mths (P : Program) (w : World) (K : PySem.W.Frag) (mg : Str → Option Value) (base : Heap) (k : Nat) (rep : Bool) (ds : List D) (fs : List DSp) : List (Nat × Nat × Str) → Prop where
  | nil : Mths P w K mg base k rep ds fs []
  | cons {j ci : Nat} {m : Str} {g : Bool} {C : Addr} {sp : DSp} {r : List (Nat × Nat × Str)} : ds[ci]? = some (.ref C) → fs[j]? = some sp → (g = true → rep = true) → Cls K C → KeepsM P w K mg base g k C m sp → Mths P w K mg base k rep ds fs r → Mths P w K mg base k rep ds fs ((j, ci, m) :: r)
/-- the classes that it makes instances of -/
inductive Mkrs (P : Program) (w : World) (K : PySem.W.Frag) (mg : Str → Option Value) (base : Heap) (k : Nat) (rep : Bool) (ds : List D) (fs : List DSp) : List (Nat × Nat) → Prop where
  | nil : Mkrs P w K mg base k rep ds fs []
  | cons {j ci k' : Nat} {g : Bool} {C : Addr} {sp : DSp} {r : List (Nat × Nat)} : ds[ci]? = some (.ref C) → fs[j]? = some sp → (g = true → rep = true) → k' + 1 ≤ k → KeepsI P w K mg base g k' C sp → Mkrs P w K mg base k rep ds fs r → Mkrs P w K mg base k rep ds fs ((j, ci) :: r)
/-- the fields that it reads or stores -/
inductive Flds (K : PySem.W.Frag) (ds : List D) : List (Nat × Str) → Prop where
  | nil : Flds K ds []
  | cons {ci : Nat} {f : Str} {C : Addr} {r : List (Nat × Str)} : ds[ci]? = some (.ref C) → Cls K C → NoAttr K C f → Flds K ds r → Flds K ds ((ci, f) :: r)
theorem names_cls {xs : List Str} {sps ts : List DSp} {cs : List Str} {ds : List D} {rep : Bool} {ms : List (Nat × Nat × Str)} {mks : List (Nat × Nat)} {fd : List (Nat × Str)} (B : NoBlt mg) (C : Callees P w K mg base k rep xs sps) (D : Consts K mg cs ds)
    (M : Mths P w K mg base k rep ds (sps ++ ts) ms) (I : Mkrs P w K mg base k rep ds (sps ++ ts) mks) (Fl : Flds K ds fd) : Names P w K mg base k ⟨cs, xs, rep, ms, mks, fd, [], [], [], []⟩ ⟨ds, sps ++ ts⟩ where
  kw := fun _ e => (nomatch (show _ ∈ ([] : List KX) from e))
  ic := fun _ e => (nomatch (show _ ∈ ([] : List Nat) from e))
  it := fun _ _ e => (nomatch (show _ ∈ ([] : List (Nat × Str)) from e))
  pr := fun _ _ _ e => (nomatch (show _ ∈ ([] : List (Nat × Nat × Str)) from e))
  bl := B
  cn := fun i x e => by
    obtain ⟨d, a, ⟨u, v, b⟩⟩ := D.get e
    exact ⟨d, u, v, a, b⟩
  fn := fun i x e => by
    obtain ⟨g, sp, a, b, ⟨f, fd, ps, c⟩⟩ := C.get e
    have hi : i < sps.length := by
      rcases Nat.lt_or_ge i sps.length with h | h
      · exact h
      · rw [List.getElem?_eq_none h] at a; cases a
    exact ⟨g, sp, f, fd, ps, by show (sps ++ ts)[i]? = _; rw [List.getElem?_append_left hi]; exact a, b, c.1, c.2.1, c.2.2.1, c.2.2.2.1⟩
  ms := fun j ci m e => by
    have e : (j, ci, m) ∈ ms := e
    induction M with
    | nil => cases e
    | cons a b c d f r ih =>
      rcases List.mem_cons.mp e with z | z
      · cases z
        obtain ⟨fa, fd, f1, f2⟩ := f
        exact ⟨_, _, _, fa, fd, a, b, c, d, f2, f1⟩
      · exact ih z z
  mks := fun j ci e => by
    have e : (j, ci) ∈ mks := e
    induction I with
    | nil => cases e
    | cons a b c d f r ih =>
      rcases List.mem_cons.mp e with z | z
      · cases z
        obtain ⟨fa, fd, ps, f1, f2, f3⟩ := f
        exact ⟨_, _, _, fa, fd, ps, _, a, b, c, f2, d, f1, f3⟩
      · exact ih z z
  fd := fun ci f e => by
    have e : (ci, f) ∈ fd := e
    induction Fl with
    | nil => cases e
    | cons a b c r ih =>
      rcases List.mem_cons.mp e with z | z
      · cases z
        exact ⟨_, a, b, c⟩
      · exact ih z z
/-- the properties that it reads -/
def KeepsP (P : Program) (w : World) (K : PySem.W.Frag) (mg : Str → Option Value) (base : Heap) (k : Nat) (C : Addr) (m : Str) (sp : DSp) : Prop :=
  ∃ f fd ps, OwnF K C m f ∧ FnR false P w K mg base CX0 k f fd ps (liftSp K sp) ∧ Binds K fd ps []
inductive Prps (P : Program) (w : World) (K : PySem.W.Frag) (mg : Str → Option Value) (base : Heap) (k : Nat) (ds : List D) (fs : List DSp) : List (Nat × Nat × Str) → Prop where
  | nil : Prps P w K mg base k ds fs []
  | cons {j ci k' : Nat} {m : Str} {C : Addr} {sp : DSp} {r : List (Nat × Nat × Str)} : ds[ci]? = some (.ref C) → fs[j]? = some sp → Cls K C → k' + 1 ≤ k → KeepsP P w K mg base k' C m sp → Prps P w K mg base k ds fs r → Prps P w K mg base k ds fs ((j, ci, m) :: r)
theorem Names.props {cn xs : List Str} {rep : Bool} {ms : List (Nat × Nat × Str)} {mks : List (Nat × Nat)} {fd : List (Nat × Str)} {F : Fx} {pr : List (Nat × Nat × Str)} (Nm : Names P w K mg base k ⟨cn, xs, rep, ms, mks, fd, [], [], [], []⟩ F) (R : Prps P w K mg base k F.cv F.fs pr) {ic : List Nat} (I : ∀ ci ∈ ic, ∃ C, F.cv[ci]? = some (.ref C) ∧ IsiC K C) {it : List (Nat × Str)} (T : ∀ ci f, (ci, f) ∈ it → ∃ C, F.cv[ci]? = some (.ref C) ∧ IterOf K C f ∧ mg "iter" = none ∧ 1 ≤ k) : Names P w K mg base k ⟨cn, xs, rep, ms, mks, fd, pr, ic, it, []⟩ F where
  kw := fun _ e => (nomatch (show _ ∈ ([] : List KX) from e))
  ic := I
  it := T
  bl := Nm.bl
  cn := Nm.cn
  fn := Nm.fn
  ms := Nm.ms
  mks := Nm.mks
  fd := Nm.fd
  pr := fun j ci m e => by
    have e : (j, ci, m) ∈ pr := e
    induction R with
    | nil => cases e
    | cons a b c d f r ih =>
      rcases List.mem_cons.mp e with z | z
      · cases z
        obtain ⟨fa, fd, ps, f1, f2, f3⟩ := f
        exact ⟨_, _, fa, fd, ps, _, a, b, c, f1, d, f2, f3⟩
      · exact ih z z
/-- the further names -/
theorem Names.kws {cn xs : List Str} {rep : Bool} {ms : List (Nat × Nat × Str)} {mks : List (Nat × Nat)} {fd : List (Nat × Str)} {F : Fx} {pr : List (Nat × Nat × Str)} {ic : List Nat} {it : List (Nat × Str)} {kw : List KX} (Nm : Names P w K mg base k ⟨cn, xs, rep, ms, mks, fd, pr, ic, it, []⟩ F) (R : ∀ e ∈ kw, XNm P w K mg base k rep F e) :
    Names P w K mg base k ⟨cn, xs, rep, ms, mks, fd, pr, ic, it, kw⟩ F := ⟨Nm.bl, Nm.cn, Nm.fn, Nm.ms, Nm.mks, Nm.fd, Nm.pr, Nm.ic, Nm.it, R⟩
theorem XNm.kfn {F : Fx} {rep : Bool} {j : Nat} {ks : List Str} {is : List Nat} (h : Keeps P w K mg base g k x sp) (hg : g = true → rep = true) (e : F.fs[j]? = some (spPerm is sp)) (m : (x, ks, is) ∈ kwTab) : XNm P w K mg base k rep F (.fn j x ks) := by
  obtain ⟨f, fd, ps, a, b, c, d⟩ := h
  exact ⟨g, f, fd, ps, is, sp, e, hg, a, b, c, d.2 _ m rfl⟩
theorem keep_cls {st : Stmt} {N ps : List Str} {G : Glb} {F : Fx} {c : CB} (T : HasDef K mg x st ps) (S : FnScope N ps (defScope st)) (Nm : Names P w K mg base k G F)
    (len : ∀ ds h Q, sp ds h Q → ds.length = ps.length) (hc : chkB N G (defScope st) c (defBody st) = true)
    (body : ∀ as h Q, sp as h Q → wpB F c (dstart N.length as) h { nx := fun _ h' => Ret Q .non h', rt := Ret Q }) : Keeps P w K mg base G.rep (k + 1) x sp := by
  obtain ⟨f, fd, Fn, m, b⟩ := T.ex
  exact ⟨f, fd, ps, def_ok Fn S Nm len hc body, m, Fn.kp, b⟩
theorem keep_meth {st : Stmt} {N ps : List Str} {G : Glb} {F : Fx} {c : CB} (T : HasMeth K C m q st ps) (S : FnScope N ps (defScope st)) (Nm : Names P w K mg base k G F)
    (len : ∀ ds h Q, sp ds h Q → ds.length = ps.length) (hc : chkB N G (defScope st) c (defBody st) = true)
    (body : ∀ as h Q, sp as h Q → wpB F c (dstart N.length as) h { nx := fun _ h' => Ret Q .non h', rt := Ret Q }) : KeepsM P w K mg base G.rep (k + 1) C m sp := by
  obtain ⟨f, fd, Fn, me, b⟩ := T.ex
  exact ⟨f, fd, .all (def_ok Fn S Nm len hc body) b, me⟩
theorem keep_init {st : Stmt} {N ps : List Str} {G : Glb} {F : Fx} {c : CB} (T : HasInit K C q st ps) (S : FnScope N ps (defScope st)) (Nm : Names P w K mg base k G F)
    (len : ∀ ds h Q, sp ds h Q → ds.length = ps.length) (hc : chkB N G (defScope st) c (defBody st) = true)
    (body : ∀ as h Q, sp as h Q → wpB F c (dstart N.length as) h { nx := fun _ h' => Ret Q .non h', rt := Ret Q }) : KeepsI P w K mg base G.rep (k + 1) C sp := by
  obtain ⟨f, fd, Fn, me, b⟩ := T.ex
  exact ⟨f, fd, ps, def_ok Fn S Nm len hc body, me, b⟩
end
end DL

set_option Elab.async false
set_option linter.all false
set_option maxRecDepth 100000
/-! DL15: properties, and what len or == ask for: what the top must say, that they keep their promises. -/
namespace DL
open PySem PySem.Spec PyProof.Rows L2
structure HasOwn (K : PySem.W.Frag) (C : Addr) (m qual : Str) (st : Stmt) (ps : List Str) : Prop where
  ex : ∃ f fd, Fun K m qual st f fd ∧ OwnF K C m f ∧ Binds K fd ps []
theorem hasProp {K : PySem.W.Frag} {C : Addr} {m q : Str} {st : Stmt} {ps : List Str} {p f : Addr} {rest : List Value} {od an : Option Addr} {sl : Array (Option Value)} {oc kV dc pm cd ct : Value}
    (a : PySem.W.findIn K (.ref C) m = some (some (.ref p))) (g : PySem.W.specialIn K (.ref p) "__get__" = some (some (.builtin "property.__get__"))) (t : PySem.W.takesIn K (.ref p) = some true) (r : PySem.W.recIn K p "property" = some (.ref f :: rest)) (d : dun m = false)
    (l : K.lookup f = some ⟨oc, od, .func (PySem.W.fnOf m q (defArgs st) (defBody st) (defScope st) .none kV dc pm an cd ct), sl⟩) (c : PySem.W.codeIn K cd q = true) (k : PySem.W.keepIn K (.ref f) = true)
    (b : ∀ (kV doc pm : Value) (an : Option Addr) (cdv ct : Value) (us : List Value), us.length = ps.length → bindArgs (PySem.W.fnOf m q (defArgs st) (defBody st) (defScope st) .none kV doc pm an cdv ct) ⟨us, []⟩ = pure (ps.zip us)) : HasOwn K C m q st ps :=
  ⟨f, _, fun_mk l c k, .prop ⟨a, g, t, rest, r⟩ d, (fun_mk l c k).binds b⟩
theorem hasSlot {K : PySem.W.Frag} {C : Addr} {m q : Str} {st : Stmt} {ps : List Str} {f : Addr} {od an : Option Addr} {sl : Array (Option Value)} {oc kV dc pm cd ct : Value}
    (a : PySem.W.findIn K (.ref C) m = some (some (.ref f))) (i : PySem.W.isFn K (.ref f) = true) (nf : PySem.W.notFirst K C (.ref C) = true) (d : (m == "__len__" || m == "__eq__" || m == "__contains__") = true)
    (l : K.lookup f = some ⟨oc, od, .func (PySem.W.fnOf m q (defArgs st) (defBody st) (defScope st) .none kV dc pm an cd ct), sl⟩) (c : PySem.W.codeIn K cd q = true) (k : PySem.W.keepIn K (.ref f) = true)
    (b : ∀ (kV doc pm : Value) (an : Option Addr) (cdv ct : Value) (us : List Value), us.length = ps.length → bindArgs (PySem.W.fnOf m q (defArgs st) (defBody st) (defScope st) .none kV doc pm an cdv ct) ⟨us, []⟩ = pure (ps.zip us)) : HasOwn K C m q st ps :=
  ⟨f, _, fun_mk l c k, .slot d a i nf, (fun_mk l c k).binds b⟩
section
variable {P : Program} {w : World} {K : PySem.W.Frag} {mg : Str → Option Value} {base : Heap} {k : Nat} {m q : Str} {sp : DSp} {C : Addr}
theorem keep_own {st : Stmt} {N ps : List Str} {G : Glb} {F : Fx} {c : CB} (T : HasOwn K C m q st ps) (S : FnScope N ps (defScope st)) (Nm : Names P w K mg base k G F) (quiet : G.rep = false)
    (len : ∀ ds h Q, sp ds h Q → ds.length = ps.length) (hc : chkB N G (defScope st) c (defBody st) = true)
    (body : ∀ as h Q, sp as h Q → wpB F c (dstart N.length as) h { nx := fun _ h' => Ret Q .non h', rt := Ret Q }) : KeepsP P w K mg base (k + 1) C m sp := by
  obtain ⟨f, fd, Fn, own, b⟩ := T.ex
  have R := def_ok (base := base) (P := P) (w := w) Fn S Nm len hc body
  rw [quiet] at R
  exact ⟨f, fd, ps, own, R, b⟩
theorem KeepsP.mono {j : Nat} (F : KeepsP P w K mg base j C m sp) (h : j ≤ k) : KeepsP P w K mg base k C m sp := by
  obtain ⟨f, fd, ps, a, b, c⟩ := F
  exact ⟨f, fd, ps, a, b.mono h, c⟩
end
end DL

set_option Elab.async false
set_option linter.all false
set_option maxRecDepth 100000
/-! DL16: a method with a default. -/
namespace DL
open PySem PySem.Spec PyProof.Rows L2
/-- a def, whatever its defaults -/
structure FunL (K : PySem.W.Frag) (x qual : Str) (st : Stmt) (f : Addr) (fd : FuncData) : Prop where
  ex : ∃ (oc : Value) (od : Option Addr) (dV kV doc pm : Value) (an : Option Addr) (cdv ct : Value) (osl : Array (Option Value)),
    fd = PySem.W.fnOf x qual (defArgs st) (defBody st) (defScope st) dV kV doc pm an cdv ct ∧ K.lookup f = some ⟨oc, od, .func fd, osl⟩ ∧ PySem.W.codeIn K cdv qual = true
theorem FunL.of {K : PySem.W.Frag} {x qual : Str} {st : Stmt} {f : Addr} {fd : FuncData} (T : Fun K x qual st f fd) : FunL K x qual st f fd := by
  obtain ⟨oc, od, kV, doc, pm, an, cdv, ct, osl, e, look, code⟩ := T.ex
  exact ⟨oc, od, .none, kV, doc, pm, an, cdv, ct, osl, e, look, code⟩
section
variable {g : Bool} {P : Program} {w : World} {K : PySem.W.Frag} {mg : Str → Option Value} {base : Heap} {CX : CXT} {k : Nat} {f : Addr} {fd : FuncData} {ps : List Str} {sp : Sp}
/-- by the body, at each place of a call -/
theorem fnR_ofL {x qual : Str} {st : Stmt} {N : List Str} (F : FunL K x qual st f fd) (S : FnScope N ps (defScope st)) (len : ∀ vs H Q E, sp vs H Q E → vs.length = ps.length)
    (hbody : ∀ (cdv : Value) (A : Around) (outer : List Env) (s : Shared) (H : Hp) (vs : List V) (Q : VK) (E : XK), (g = true → A.guards = some []) → Room k (A.deeper (envOfC qual (defScope st) s.heap.objs.size f cdv)) → sp vs H Q E →
      ∃ t, PSs (cxOf CX P w K mg base N qual (defScope st) f cdv A outer s H E) (defBody st) t ∧ t { nx := fun _ H' => Q .non H', rt := Q } (start N vs) H) : FnR g P w K mg base CX (k + 1) f fd ps sp := by
  obtain ⟨oc, od, dV, kV, doc, pm, an, cdv, ct, osl, rfl, look, code⟩ := F.ex
  refine ⟨len, fun A outer s H args us vs Q E guard room env0 bind vals promise => ?_⟩
  have inK := env0.mod.kin.keeps fun b o z => (env0.bs b o z).1
  have nolimit := env0.mod.nolimit.keeps fun b o z => (env0.bs b o z).1
  refine codeAny_call_function room.depth (inK _ _ look) rfl S.co S.gen rfl (PySem.W.codeRec_of inK code) (bind _ _ _ _ ?_)
  refine wpAny_newFunctionEnv_cells S.kind (fun q hq => (S.par q.1 (List.of_mem_zip hq).1).imp id fun z => ⟨z, PySem.W.cellsFrom_some _ _ _ (.inl z)⟩) fun env he s1 entry => ?_
  subst he
  refine ⟨nolimit.keeps entry.toInCall.keep, codeAny_func ?_⟩
  obtain ⟨t, proof, holds⟩ := hbody cdv A outer s H vs Q E guard (room.deeper _) promise
  refine wpAny_mono (proof.run [] s1 (start N vs) H _ (inv_start S room.hd env0 (len _ _ _ _ promise) vals entry) holds) (fun flow s' hs => ?_) fun _ _ hs => hs
  match flow, hs with
  | .ret u, ⟨v, _, H', J, rel, q⟩ => exact ⟨v, H', J.os, J.bare, J.base, J.hok, rel, q⟩
  | .next, ⟨_, H', J, q⟩ => exact ⟨V.non, H', J.os, J.bare, J.base, J.hok, rfl, q⟩
  | .brk, ⟨_, _, _, q⟩ => exact q.elim
  | .cont, ⟨_, _, _, q⟩ => exact q.elim
end
section
variable {P : Program} {w : World} {K : PySem.W.Frag} {mg : Str → Option Value} {base : Heap}
theorem def_okL {x qual : Str} {st : Stmt} {f : Addr} {fd : FuncData} {N ps : List Str} {k : Nat} {G : Glb} {F : Fx} {c : CB} {sp : DSp} (T : FunL K x qual st f fd) (S : FnScope N ps (defScope st))
    (Nm : Names P w K mg base k G F) (len : ∀ ds h Q, sp ds h Q → ds.length = ps.length) (hc : chkB N G (defScope st) c (defBody st) = true)
    (body : ∀ ds h Q, sp ds h Q → wpB F c (dstart N.length ds) h { nx := fun _ h' => Ret Q .non h', rt := Ret Q }) : FnR G.rep P w K mg base CX0 (k + 1) f fd ps (liftSp K sp) := by
  refine fnR_ofL T S (fun vs H Q E ⟨ds, h, Qd, r, hr, s, p⟩ => by rw [← r.length]; exact len _ _ _ s) fun cdv A outer s H vs Q E hgd hr ⟨ds, h, Qd, r, hrr, q, p⟩ => ?_
  have C : CtxS N G F (cxOf CX0 P w K mg base N qual (defScope st) f cdv A outer s H E).nox := {
    hN := rfl
    nd := S.nd
    calm := rfl
    hu := by have := hr.un; show (A.deeper (envOfC qual (defScope st) s.heap.objs.size f cdv)).units + 100 < cLine; omega
    grd := hgd
    bl := Nm.bl
    cn := Nm.cn
    fn := fun i x e => by
      obtain ⟨g, sp, f, fd, ps, a1, a0, a2, a3, a4, a5⟩ := Nm.fn i x e
      exact ⟨sp, a1, ⟨g, f, fd, ps, k, a2, fun z => hgd (a0 z), hr, a3, a4, a5⟩⟩
    ms := fun j ci m e => by
      obtain ⟨c, sp, g, f, fd, a1, a2, a0, a3, a4, a5⟩ := Nm.ms j ci m e
      exact ⟨c, sp, a1, a2, ⟨g, f, fd, k, a3, a4, a5, fun z => hgd (a0 z), hr⟩⟩
    mks := fun j ci e => by
      obtain ⟨c, sp, g, f, fd, ps, k', a1, a2, a0, a3, a4, a5, a6⟩ := Nm.mks j ci e
      exact ⟨c, sp, a1, a2, ⟨g, f, fd, ps, k', a3, a5, fun z => hgd (a0 z), hr.mono a4, a6⟩⟩
    kw := fun e h => xat hgd hr (Nm.kw e h)
    fd := Nm.fd
    ic := Nm.ic
    it := fun ci f e => let ⟨C, a1, a2, a3, a4⟩ := Nm.it ci f e; ⟨C, a1, a2, a3, hr.mono a4⟩
    pr := fun j ci m e => by
      obtain ⟨c, sp, f, fd, ps, k', a1, a2, a3, a4, a5, a6, a7⟩ := Nm.pr j ci m e
      exact ⟨c, sp, a1, a2, ⟨f, fd, ps, k', a3, a4, a6, hr.mono a5, a7⟩⟩
    bkd := by
      show (if (defScope st).kind.isAnnotationScope then ScopeKind.function else (defScope st).kind) = _
      rw [S.kind]; rfl
    fna := fun _ => rfl
    hp := PassesOwn.never }
  refine ⟨_, (sndB c C hc).nox, dstart N.length ds, h, _, sr_start r, hrr, body _ _ _ q, ⟨?_, p.ret, ?_, ?_⟩⟩
  · intro ρ h' σ H' e sr hr' z
    exact p.ret .non h' .non H' e rfl hr' z
  · intro ρ h' σ H' e sr hr' z
    exact z.elim
  · intro ρ h' σ H' e sr hr' z
    exact z.elim
end
/-- a method with one default, an int: called with all its arguments, or without the last -/
structure HasMethD (K : PySem.W.Frag) (C : Addr) (m qual : Str) (st : Stmt) (ps : List Str) (d : Int) : Prop where
  ex : ∃ f fd ds, FunL K m qual st f fd ∧ Meth K C m f ∧ Binds K fd ps [] ∧ Vals [V.int d] ds ∧ Binds K fd ps ds
theorem hasMethD {K : PySem.W.Frag} {C : Addr} {m q : Str} {st : Stmt} {ps : List Str} {f T : Addr} {od an tod : Option Addr} {sl tsl : Array (Option Value)} {oc kV dc pm cd ct toc : Value} {tn : Nat} {d : Int} {tt : Tok}
    (a : PySem.W.findIn K (.ref C) m = some (some (.ref f))) (i : PySem.W.isFn K (.ref f) = true) (l : K.lookup f = some ⟨oc, od, .func (PySem.W.fnOf m q (defArgs st) (defBody st) (defScope st) (.ref T) kV dc pm an cd ct), sl⟩) (c : PySem.W.codeIn K cd q = true) (k : PySem.W.keepIn K (.ref f) = true)
    (t : K.lookup T = some ⟨toc, tod, .seq #[.int d tt] tn, tsl⟩)
    (b : ∀ (T : Addr) (kV doc pm : Value) (an : Option Addr) (cdv ct : Value) (us its : List Value), us.length = ps.length → its.length = 1 →
      ∃ k, bindArgs (PySem.W.fnOf m q (defArgs st) (defBody st) (defScope st) (.ref T) kV doc pm an cdv ct) ⟨us, []⟩ = seqItems? (.ref T) >>= k ∧ k (some its.toArray) = pure (ps.zip us))
    (b1 : ∀ (T : Addr) (kV doc pm : Value) (an : Option Addr) (cdv ct : Value) (us its : List Value), us.length + 1 = ps.length → its.length = 1 →
      ∃ k, bindArgs (PySem.W.fnOf m q (defArgs st) (defBody st) (defScope st) (.ref T) kV doc pm an cdv ct) ⟨us, []⟩ = seqItems? (.ref T) >>= k ∧ k (some its.toArray) = pure (ps.zip (us ++ its))) : HasMethD K C m q st ps d := by
  refine ⟨f, _, [.int d tt], ⟨oc, od, .ref T, kV, dc, pm, an, cd, ct, sl, rfl, l, c⟩, ⟨a, i, k⟩, fun s us X hlen => ?_, .cons ⟨_, rfl⟩ .nil, fun s us X hlen => ?_⟩
  · rw [List.append_nil] at hlen ⊢
    obtain ⟨k, e1, e2⟩ := b T kV dc pm an cd ct us [.int d tt] hlen rfl
    refine BindsTo.of_looks fun M => ?_
    rw [e1]
    exact looks_items X t rfl (.of_pure e2)
  · rw [List.length_append, List.length_singleton] at hlen
    obtain ⟨k, e1, e2⟩ := b1 T kV dc pm an cd ct us [.int d tt] hlen rfl
    refine BindsTo.of_looks fun M => ?_
    rw [e1]
    exact looks_items X t rfl (.of_pure e2)
/-- without the last -/
def sp1 (sp : DSp) (d : Int) : DSp := fun as h Q => sp (as ++ [.int d]) h Q
section
variable {P : Program} {w : World} {K : PySem.W.Frag} {mg : Str → Option Value} {base : Heap} {g : Bool} {k : Nat} {x m q : Str} {sp : DSp} {C : Addr} {d : Int}
theorem keep_methD {st : Stmt} {N ps : List Str} {G : Glb} {F : Fx} {c : CB} (T : HasMethD K C m q st ps d) (S : FnScope N ps (defScope st)) (Nm : Names P w K mg base k G F)
    (len : ∀ ds h Q, sp ds h Q → ds.length = ps.length) (hc : chkB N G (defScope st) c (defBody st) = true)
    (body : ∀ as h Q, sp as h Q → wpB F c (dstart N.length as) h { nx := fun _ h' => Ret Q .non h', rt := Ret Q }) : KeepsM P w K mg base G.rep (k + 1) C m sp := by
  obtain ⟨f, fd, ds, Fn, me, b, _⟩ := T.ex
  exact ⟨f, fd, .all (def_okL Fn S Nm len hc body) b, me⟩
theorem keep_methD0 {st : Stmt} {N ps : List Str} {G : Glb} {F : Fx} {c : CB} (T : HasMethD K C m q st ps d) (S : FnScope N ps (defScope st)) (Nm : Names P w K mg base k G F)
    (len : ∀ ds h Q, sp ds h Q → ds.length = ps.length) (hc : chkB N G (defScope st) c (defBody st) = true)
    (body : ∀ as h Q, sp as h Q → wpB F c (dstart N.length as) h { nx := fun _ h' => Ret Q .non h', rt := Ret Q }) : KeepsM P w K mg base G.rep (k + 1) C m (sp1 sp d) := by
  obtain ⟨f, fd, ds, Fn, me, _, v, b⟩ := T.ex
  exact ⟨f, fd, ⟨ps, [d], ds, sp, def_okL Fn S Nm len hc body, b, v, fun _ _ _ z => z⟩, me⟩
end
/-- a method, or __init__, that is called by keywords -/
structure HasMethW (K : PySem.W.Frag) (C : Addr) (m qual : Str) (st : Stmt) (ps ks : List Str) (is : List Nat) : Prop where
  ex : ∃ f fd, FunL K m qual st f fd ∧ Meth K C m f ∧ KwB K fd ps 1 ks is
structure HasInitW (K : PySem.W.Frag) (C : Addr) (qual : Str) (st : Stmt) (ps ks : List Str) (is : List Nat) : Prop where
  ex : ∃ f fd, FunL K "__init__" qual st f fd ∧ Mk K C f ∧ KwB K fd ps 1 ks is
theorem hasMethW {K : PySem.W.Frag} {C : Addr} {m q : Str} {st : Stmt} {ps ks : List Str} {is : List Nat} {f : Addr} {od an : Option Addr} {sl : Array (Option Value)} {oc kV dc pm cd ct : Value}
    (a : PySem.W.findIn K (.ref C) m = some (some (.ref f))) (i : PySem.W.isFn K (.ref f) = true) (l : K.lookup f = some ⟨oc, od, .func (PySem.W.fnOf m q (defArgs st) (defBody st) (defScope st) .none kV dc pm an cd ct), sl⟩) (c : PySem.W.codeIn K cd q = true) (k : PySem.W.keepIn K (.ref f) = true)
    (b : ∀ (kV doc pm : Value) (an : Option Addr) (cdv ct : Value) (us ws : List Value), us.length = 1 → ws.length = ks.length → bindArgs (PySem.W.fnOf m q (defArgs st) (defBody st) (defScope st) .none kV doc pm an cdv ct) ⟨us, ks.zip ws⟩ = pure (ps.zip (us ++ permL is ws))) : HasMethW K C m q st ps ks is :=
  ⟨f, _, .of (fun_mk l c k), ⟨a, i, k⟩, kwb_of (fun_mk l c k) b⟩
theorem hasInitW {K : PySem.W.Frag} {C : Addr} {q : Str} {st : Stmt} {ps ks : List Str} {is : List Nat} {f : Addr} {od an : Option Addr} {sl : Array (Option Value)} {oc kV dc pm cd ct : Value}
    (mk : PySem.W.makesIn K C = true) (kc : PySem.W.keepIn K (.ref C) = true)
    (a : PySem.W.findIn K (.ref C) "__init__" = some (some (.ref f))) (i : PySem.W.isFn K (.ref f) = true) (l : K.lookup f = some ⟨oc, od, .func (PySem.W.fnOf "__init__" q (defArgs st) (defBody st) (defScope st) .none kV dc pm an cd ct), sl⟩) (c : PySem.W.codeIn K cd q = true) (k : PySem.W.keepIn K (.ref f) = true)
    (b : ∀ (kV doc pm : Value) (an : Option Addr) (cdv ct : Value) (us ws : List Value), us.length = 1 → ws.length = ks.length → bindArgs (PySem.W.fnOf "__init__" q (defArgs st) (defBody st) (defScope st) .none kV doc pm an cdv ct) ⟨us, ks.zip ws⟩ = pure (ps.zip (us ++ permL is ws))) : HasInitW K C q st ps ks is :=
  ⟨f, _, .of (fun_mk l c k), ⟨mk, a, i, kc⟩, kwb_of (fun_mk l c k) b⟩
/-- .. that has one default, an int -/
theorem hasMethDW {K : PySem.W.Frag} {C : Addr} {m q : Str} {st : Stmt} {ps ks : List Str} {is : List Nat} {f T : Addr} {od an tod : Option Addr} {sl tsl : Array (Option Value)} {oc kV dc pm cd ct toc : Value} {tn : Nat} {d : Int} {tt : Tok}
    (a : PySem.W.findIn K (.ref C) m = some (some (.ref f))) (i : PySem.W.isFn K (.ref f) = true) (l : K.lookup f = some ⟨oc, od, .func (PySem.W.fnOf m q (defArgs st) (defBody st) (defScope st) (.ref T) kV dc pm an cd ct), sl⟩) (c : PySem.W.codeIn K cd q = true) (k : PySem.W.keepIn K (.ref f) = true)
    (t : K.lookup T = some ⟨toc, tod, .seq #[.int d tt] tn, tsl⟩)
    (b : ∀ (T : Addr) (kV doc pm : Value) (an : Option Addr) (cdv ct : Value) (us ws its : List Value), us.length = 1 → ws.length = ks.length → its.length = 1 →
      ∃ k, bindArgs (PySem.W.fnOf m q (defArgs st) (defBody st) (defScope st) (.ref T) kV doc pm an cdv ct) ⟨us, ks.zip ws⟩ = seqItems? (.ref T) >>= k ∧ k (some its.toArray) = pure (ps.zip (us ++ permL is ws))) : HasMethW K C m q st ps ks is := by
  refine ⟨f, _, ⟨oc, od, .ref T, kV, dc, pm, an, cd, ct, sl, rfl, l, c⟩, ⟨a, i, k⟩, fun s us ws X l1 l2 => ?_, fun r rz => r.append (valsPerm rz _)⟩
  obtain ⟨k, e1, e2⟩ := b T kV dc pm an cd ct us ws [.int d tt] l1 l2 rfl
  refine BindsTo.of_looks fun M => ?_
  rw [e1]
  exact looks_items X t rfl (.of_pure e2)
section
variable {P : Program} {w : World} {K : PySem.W.Frag} {mg : Str → Option Value} {base : Heap} {g : Bool} {k : Nat} {x m q : Str} {sp : DSp} {C : Addr} {ks : List Str} {is : List Nat}
def KeepsMW (P : Program) (w : World) (K : PySem.W.Frag) (mg : Str → Option Value) (base : Heap) (g : Bool) (k : Nat) (C : Addr) (m : Str) (ks : List Str) (is : List Nat) (sp : DSp) : Prop :=
  ∃ f fd ps, FnR g P w K mg base CX0 k f fd ps (liftSp K sp) ∧ Meth K C m f ∧ KwB K fd ps 1 ks is
def KeepsIW (P : Program) (w : World) (K : PySem.W.Frag) (mg : Str → Option Value) (base : Heap) (g : Bool) (k : Nat) (C : Addr) (ks : List Str) (is : List Nat) (sp : DSp) : Prop :=
  ∃ f fd ps, FnR g P w K mg base CX0 k f fd ps (liftSp K sp) ∧ Mk K C f ∧ KwB K fd ps 1 ks is
theorem KeepsMW.mono {j : Nat} (F : KeepsMW P w K mg base g j C m ks is sp) (h : j ≤ k) : KeepsMW P w K mg base g k C m ks is sp := by
  obtain ⟨f, fd, ps, a, b⟩ := F
  exact ⟨f, fd, ps, a.mono h, b⟩
theorem keep_methW {st : Stmt} {N ps : List Str} {G : Glb} {F : Fx} {c : CB} (T : HasMethW K C m q st ps ks is) (S : FnScope N ps (defScope st)) (Nm : Names P w K mg base k G F)
    (len : ∀ ds h Q, sp ds h Q → ds.length = ps.length) (hc : chkB N G (defScope st) c (defBody st) = true)
    (body : ∀ as h Q, sp as h Q → wpB F c (dstart N.length as) h { nx := fun _ h' => Ret Q .non h', rt := Ret Q }) : KeepsMW P w K mg base G.rep (k + 1) C m ks is sp := by
  obtain ⟨f, fd, Fn, me, b⟩ := T.ex
  exact ⟨f, fd, ps, def_okL Fn S Nm len hc body, me, b⟩
theorem keep_initW {st : Stmt} {N ps : List Str} {G : Glb} {F : Fx} {c : CB} (T : HasInitW K C q st ps ks is) (S : FnScope N ps (defScope st)) (Nm : Names P w K mg base k G F)
    (len : ∀ ds h Q, sp ds h Q → ds.length = ps.length) (hc : chkB N G (defScope st) c (defBody st) = true)
    (body : ∀ as h Q, sp as h Q → wpB F c (dstart N.length as) h { nx := fun _ h' => Ret Q .non h', rt := Ret Q }) : KeepsIW P w K mg base G.rep (k + 1) C ks is sp := by
  obtain ⟨f, fd, Fn, me, b⟩ := T.ex
  exact ⟨f, fd, ps, def_okL Fn S Nm len hc body, me, b⟩
theorem XNm.kmeth {F : Fx} {rep : Bool} {j ci : Nat} (h : KeepsMW P w K mg base g k C m ks is sp) (hg : g = true → rep = true) (c : F.cv[ci]? = some (.ref C)) (e : F.fs[j]? = some (spPermM is sp)) (cl : Cls K C) : XNm P w K mg base k rep F (.meth j ci m ks) := by
  obtain ⟨f, fd, ps, a, b, d⟩ := h
  exact ⟨C, g, f, fd, ps, is, sp, c, e, hg, cl, b, a, d⟩
theorem XNm.kmake {F : Fx} {rep : Bool} {j ci k' : Nat} (h : KeepsIW P w K mg base g k' C ks is sp) (hk : k' + 1 ≤ k) (hg : g = true → rep = true) (c : F.cv[ci]? = some (.ref C)) (e : F.fs[j]? = some (spPermM is sp)) : XNm P w K mg base k rep F (.make j ci ks) := by
  obtain ⟨f, fd, ps, a, b, d⟩ := h
  exact ⟨C, g, f, fd, ps, k', is, sp, c, e, hg, b, hk, a, d⟩
/-- own ==, != and `in` beside any value -/
theorem XNm.keq {F : Fx} {rep : Bool} {j ci k' : Nat} (h : KeepsP P w K mg base k' C "__eq__" sp) (hk : k' + 1 ≤ k) (c : F.cv[ci]? = some (.ref C)) (e : F.fs[j]? = some sp) (cl : Cls K C) (t : AnyT K C) : XNm P w K mg base k rep F (.eqA j ci) := by
  obtain ⟨f, fd, ps, o, a, b⟩ := h
  cases o with
  | prop _ z => exact absurd z (by decide)
  | ne z _ _ _ _ _ => exact absurd z (by decide)
  | slot _ hs hf nf => exact ⟨C, sp, f, fd, ps, k', c, e, ⟨cl, hs, hf⟩, t, hk, a, b⟩
theorem XNm.kne {F : Fx} {rep : Bool} {j ci k' : Nat} (h : KeepsP P w K mg base k' C "__eq__" sp) (hk : k' + 1 ≤ k) (c : F.cv[ci]? = some (.ref C)) (e : F.fs[j]? = some sp) (cl : Cls K C) (t : AnyT K C) (ne : PySem.W.findIn K (.ref C) "__ne__" = some (some (.builtin "object.__ne__"))) : XNm P w K mg base k rep F (.neA j ci) := by
  obtain ⟨f, fd, ps, o, a, b⟩ := h
  cases o with
  | prop _ z => exact absurd z (by decide)
  | ne z _ _ _ _ _ => exact absurd z (by decide)
  | slot _ hs hf nf => exact ⟨C, sp, f, fd, ps, k', c, e, ⟨cl, hs, hf⟩, t, ne, hk, a, b⟩
end
theorem XNm.kin {P : Program} {w : World} {K : PySem.W.Frag} {mg : Str → Option Value} {base : Heap} {k : Nat} {sp : DSp} {C : Addr} {F : Fx} {rep : Bool} {j ci k' : Nat} (h : KeepsP P w K mg base k' C "__contains__" sp) (hk : k' + 1 ≤ k) (c : F.cv[ci]? = some (.ref C)) (e : F.fs[j]? = some sp) (cl : Cls K C) : XNm P w K mg base k rep F (.inO j ci) := by
  obtain ⟨f, fd, ps, o, a, b⟩ := h
  cases o with
  | prop _ z => exact absurd z (by decide)
  | ne z _ _ _ _ _ => exact absurd z (by decide)
  | slot _ hs hf nf => exact ⟨C, sp, f, fd, ps, k', c, e, ⟨cl, hs, hf⟩, hk, a, b⟩
/-- != from the own == -/
theorem keep_ne {P : Program} {w : World} {K : PySem.W.Frag} {mg : Str → Option Value} {base : Heap} {k : Nat} {sp : DSp} {C : Addr} (F : KeepsP P w K mg base k C "__eq__" sp) (hne : PySem.W.findIn K (.ref C) "__ne__" = some (some (.builtin "object.__ne__"))) (hm : PySem.W.mroIn K C (.type "object") = some true) : KeepsP P w K mg base k C "__ne__" sp := by
  obtain ⟨f, fd, ps, o, a, b⟩ := F
  refine ⟨f, fd, ps, ?_, a, b⟩
  cases o with
  | prop _ z => exact absurd z (by decide)
  | ne z _ _ _ _ _ => exact absurd z (by decide)
  | slot _ hs hf nf => exact .ne rfl hne hm hs hf nf
/-- an own __iter__ -/
theorem iterOf {K : PySem.W.Frag} {C f : Addr} {q fl : Str} {st : Stmt} {od an : Option Addr} {sl : Array (Option Value)} {oc kV dc pm cd ct : Value}
    (a : PySem.W.findIn K (.ref C) "__iter__" = some (some (.ref f))) (i : PySem.W.isFn K (.ref f) = true) (l : K.lookup f = some ⟨oc, od, .func (PySem.W.fnOf "__iter__" q (defArgs st) (defBody st) (defScope st) .none kV dc pm an cd ct), sl⟩) (c : PySem.W.codeIn K cd q = true) (k : PySem.W.keepIn K (.ref f) = true)
    (b : ∀ (kV doc pm : Value) (an : Option Addr) (cdv ct : Value) (us : List Value), us.length = 1 → bindArgs (PySem.W.fnOf "__iter__" q (defArgs st) (defBody st) (defScope st) .none kV doc pm an cdv ct) ⟨us, []⟩ = pure (([("self" : Str)] : List Str).zip us))
    (S : FnScope ["self"] ["self"] (defScope st)) (hb : iterB (defScope st) fl (defBody st) = true) (cl : Cls K C) (na : NoAttr K C fl) : IterOf K C fl :=
  ⟨f, _, q, st, a, i, fun_mk l c k, S, hb, cl, na, (fun_mk l c k).binds b⟩
end DL

set_option Elab.async false
set_option linter.all false
set_option maxRecDepth 100000
set_option maxHeartbeats 4000000
/-! DP1: words for reading a body; the deck's defs. -/
namespace DL
open PySem PySem.Spec PyProof.Rows L2
theorem dupd_none {h : DH} {p q : Addr} {o : DO} : dupd h p o q = none ↔ q ≠ p ∧ h q = none := by
  unfold dupd
  by_cases e : q = p
  · simp [e]
  · simp [e]
theorem dupd_get {h : DH} {p q : Addr} {o : DO} : dupd h p o q = if q = p then some o else h q := rfl
theorem Sub.refl (h : DH) : Sub h h := fun _ _ e => e
theorem Sub.new {g h : DH} {p : Addr} {o : DO} (s : Sub g h) (n : h p = none) : Sub g (dupd h p o) := fun a u e => by
  have := s a u e
  by_cases z : a = p
  · subst z; rw [n] at this; cases this
  · rw [dupd_ne z]; exact this
theorem ret_here {Q : WK} {d : D} {h : DH} (q : Q d h) : Ret Q d h := ⟨h, Abs.refl h, q⟩
theorem ret_sub {Q : WK} {d : D} {g h : DH} (s : Sub g h) (q : Q d g) : Ret Q d h := ⟨g, s.abs, q⟩
theorem pys_map {α : Type} (f : α → D) (l : List α) : pys (l.map f) = l.map fun x => py (f x) := by
  induction l with
  | nil => rfl
  | cons x xs ih => simp [pys, ih]
theorem pures_map {α : Type} {f : α → D} (hf : ∀ x, pure? (f x) = true) (l : List α) : pures? (l.map f) = true := by
  induction l with
  | nil => rfl
  | cons x xs ih => simp [pures?, ih, hf]
/-- equality of what holds no list -/
theorem eqW_pure {x y : D} {h : DH} {Q : Bool → Prop} (px : pure? x = true) (pz : pure? y = true) (sx : SeqAt.shaped (py x) = true) (sy : SeqAt.shaped (py y) = true) (q : Q (PyData.eqv (py x) (py y))) : eqW x y h Q := by
  unfold eqW
  split
  · simp only [py, PyData.eqv] at q
    rw [show decide (_ = _) = (_ == _) from (Bool.beq_eq_decide_eq _ _).symm]; exact q
  · simp only [py, PyData.eqv] at q
    rw [show decide (_ = _) = (_ == _) from (Bool.beq_eq_decide_eq _ _).symm]; exact q
  · exact .inl ⟨0, _, _, pyW_pure _ x px, pyW_pure _ y pz, sx, sy, q⟩
/-- .. of lists at one level -/
theorem rfN_lst {h : DH} {a : Addr} {xs : List D} {n : Nat} (e : h a = some (.lst xs)) (p : pures? xs = true) : rfN h (n + 1) a = some (.list (pys xs)) := by
  unfold rfN
  rw [e]
  simp only [pyWs_pure _ xs p, Option.map_some]
theorem eqW_lst {a b : Addr} {xs ys : List D} {h : DH} {Q : Bool → Prop} (ea : h a = some (.lst xs)) (eb : h b = some (.lst ys)) (px : pures? xs = true) (pz : pures? ys = true) (sx : SeqAt.shaped (.list (pys xs)) = true) (sy : SeqAt.shaped (.list (pys ys)) = true)
    (q : Q (PyData.eqvAll (pys xs) (pys ys))) : eqW (.ref a) (.ref b) h Q := by
  refine .inl ⟨1, _, _, rfN_lst ea px, rfN_lst eb pz, sx, sy, ?_⟩
  rw [PyData.eqv]; exact q
/-- any list beside the empty one -/
theorem eqW_any_nil {a b : Addr} {xs : List D} {h : DH} {Q : Bool → Prop} (ea : h a = some (.lst xs)) (eb : h b = some (.lst [])) (q : Q (decide (xs = []))) : eqW (.ref a) (.ref b) h Q := by
  cases xs with
  | nil => exact eqW_lst ea eb rfl rfl (by simp [SeqAt.shaped, pys, PyData.canLay0, PyData.canLayAll0, PyData.depth, PyData.depthAll]) (by simp [SeqAt.shaped, pys, PyData.canLay0, PyData.canLayAll0, PyData.depth, PyData.depthAll]) (by rw [decide_eq_true rfl] at q; simpa [pys, PyData.eqvAll] using q)
  | cons x xs => exact .inr ⟨a, b, _, _, rfl, rfl, ea, eb, by simp, by rw [decide_eq_false (by simp)] at q; exact q⟩
theorem shaped_ints (ns : List Int) : SeqAt.shaped (.list (pys (ns.map D.int))) = true := by
  rw [pys_map]
  simp only [py]
  have : ∀ ns : List Int, PyData.canLayAll0 (ns.map PyData.int) = true := fun ns => by
    induction ns with
    | nil => rfl
    | cons x xs ih => simp [PyData.canLayAll0, PyData.canLay0, ih]
  have d : (PyData.list (ns.map PyData.int)).depth ≤ 64 := by
    have : ∀ ns : List Int, PyData.depthAll (ns.map PyData.int) ≤ 1 := fun ns => by
      induction ns with
      | nil => decide
      | cons x xs ih => simp [PyData.depthAll, PyData.depth]; omega
    simp only [PyData.depth]
    have := this ns
    omega
  simp [SeqAt.shaped, PyData.canLay0, this, d]
/-! the rules, read at their forms -/
section
variable {h : DH} {Q : WK} {i j k : Int} {a b p : Addr} {x y : D} {xs ys : List D} {z z' : Str} {P : DH → Prop}
theorem fIx_tup : fIx (.tup xs) (.int i) h Q = ∃ d, atI xs i = some d ∧ Q d h := rfl
theorem fIx_ref : fIx (.ref a) (.int i) h Q = ∃ xs, h a = some (.lst xs) ∧ ∃ d, atI xs i = some d ∧ Q d h := propext ⟨fun ⟨xs, d, a, b⟩ => ⟨xs, a, d, b⟩, fun ⟨xs, a, d, b⟩ => ⟨xs, d, a, b⟩⟩
theorem fAdd_int : fAdd (.int i) (.int j) h Q = Q (.int (i + j)) h := rfl
theorem fAdd_bi {b : Bool} : fAdd (.bl b) (.int j) h Q = Q (.int ((if b = true then (1 : Int) else 0) + j)) h := rfl
theorem fAdd_str : fAdd (.str z) (.str z') h Q = (z.length + z'.length ≤ 16777216 ∧ Q (.str (z ++ z')) h) := rfl
theorem fAdd_tup : fAdd (.tup xs) (.tup ys) h Q = (xs.length + ys.length ≤ 16777216 ∧ Q (.tup (xs ++ ys)) h) := rfl
theorem fAdd_ref : fAdd (.ref a) (.ref b) h Q = ∃ xs, h a = some (.lst xs) ∧ ∃ ys, h b = some (.lst ys) ∧ xs.length + ys.length ≤ 16777216 ∧ ∀ p, h p = none → Q (.ref p) (dupd h p (.lst (xs ++ ys))) := propext ⟨fun ⟨xs, d, a, b⟩ => ⟨xs, a, d, b⟩, fun ⟨xs, a, d, b⟩ => ⟨xs, d, a, b⟩⟩
theorem fSub_int : fSub (.int i) (.int j) h Q = Q (.int (i - j)) h := rfl
theorem fMul_int : fMul (.int i) (.int j) h Q = ((CMul i j ∨ CMulW i j) ∧ Q (.int (i * j)) h) := rfl
theorem fMul_tup : fMul (.tup xs) (.int k) h Q = ((-(2 ^ 63) ≤ k ∧ k ≤ 1000 ∧ xs.length ≤ 1000) ∧ Q (.tup (List.replicate k.toNat xs).flatten) h) := rfl
theorem fDiv_int : fDiv (.int i) (.int j) h Q = ((0 < j ∧ j < 2 ^ 100) ∧ Q (.int (i / j)) h) := rfl
theorem fMod_int : fMod (.int i) (.int j) h Q = (0 < j ∧ Q (.int (i % j)) h) := rfl
theorem fPow_int : fPow (.int i) (.int j) h Q = (CPow i j ∧ Q (.int (i ^ j.toNat)) h) := rfl
theorem bin_add : fBin .Add = fAdd := rfl
theorem bin_sub : fBin .Sub = fSub := rfl
theorem bin_mul : fBin .Mult = fMul := rfl
theorem bin_div : fBin .FloorDiv = fDiv := rfl
theorem bin_mod : fBin .Mod = fMod := rfl
theorem bin_pow : fBin .Pow = fPow := rfl
theorem cmp_eq : fCmp .Eq x y h Q = eqW x y h fun b => Q (.bl b) h := rfl
theorem cmp_ne : fCmp .NotEq x y h Q = eqW x y h fun b => Q (.bl (!b)) h := rfl
theorem cmp_lt : fCmp .Lt (.int i) (.int j) h Q = Q (.bl (decide (i < j))) h := rfl
theorem cmp_le : fCmp .LtE (.int i) (.int j) h Q = Q (.bl (decide (i ≤ j))) h := rfl
theorem cmp_gt : fCmp .Gt (.int i) (.int j) h Q = Q (.bl (decide (j < i))) h := rfl
theorem cmp_ge : fCmp .GtE (.int i) (.int j) h Q = Q (.bl (decide (j ≤ i))) h := rfl
theorem cmp_is : fCmp .Is x .non h Q = Q (.bl (isNon x)) h := rfl
theorem cmp_isn : fCmp .IsNot x .non h Q = Q (.bl (!isNon x)) h := rfl
theorem cmp_in : fCmp .In x y h Q = inW x y h fun b => Q (.bl b) h := rfl
theorem cmp_nin : fCmp .NotIn x y h Q = inW x y h fun b => Q (.bl (!b)) h := rfl
theorem eqW_ii {R : Bool → Prop} : eqW (.int i) (.int j) h R = R (decide (i = j)) := rfl
theorem eqW_ss {R : Bool → Prop} : eqW (.str z) (.str z') h R = R (decide (z = z')) := rfl
theorem boolW_bl {c : Bool} {R : Bool → Prop} : boolW (.bl c) R = R c := rfl
theorem intW_int {R : Int → Prop} : intW (.int i) R = R i := rfl
theorem iteW_t {A B : Prop} : iteW true A B = A := rfl
theorem iteW_f {A B : Prop} : iteW false A B = B := rfl
theorem blt_len_str : fBlt .len [.str z] h Q = (z.length ≤ 16777216 ∧ Q (.int z.length) h) := rfl
theorem blt_len_tup : fBlt .len [.tup xs] h Q = Q (.int xs.length) h := propext ⟨fun ⟨_, e, q⟩ => by cases e; exact q, fun q => ⟨_, rfl, q⟩⟩
theorem lstOf_ref : lstOf h (.ref a) = some xs ↔ h a = some (.lst xs) := by
  unfold lstOf
  cases e : h a with
  | none => simp only [e]; exact ⟨fun z => (nomatch z), fun z => (nomatch z)⟩
  | some o => cases o with
    | lst ys => simp only [e]; exact ⟨fun z => by cases z; rfl, fun z => by cases z; rfl⟩
    | _ => simp only [e]; exact ⟨fun z => (nomatch z), fun z => (nomatch z)⟩
theorem lstOf_is : (lstOf h (.ref a)).isSome = true ↔ ∃ xs, h a = some (.lst xs) := by
  rw [Option.isSome_iff_exists]
  exact ⟨fun ⟨xs, e⟩ => ⟨xs, lstOf_ref.mp e⟩, fun ⟨xs, e⟩ => ⟨xs, lstOf_ref.mpr e⟩⟩
theorem blt_len_ref : fBlt .len [.ref a] h Q = ∃ xs, h a = some (.lst xs) ∧ Q (.int xs.length) h := propext ⟨fun ⟨xs, e, q⟩ => ⟨xs, lstOf_ref.mp e, q⟩, fun ⟨xs, e, q⟩ => ⟨xs, lstOf_ref.mpr e, q⟩⟩
theorem blt_tuple_tup : fBlt .tuple [.tup xs] h Q = Q (.tup xs) h := propext ⟨fun ⟨_, e, q⟩ => by cases e; exact q, fun q => ⟨_, rfl, q⟩⟩
theorem blt_tuple_ref : fBlt .tuple [.ref a] h Q = ∃ xs, h a = some (.lst xs) ∧ Q (.tup xs) h := propext ⟨fun ⟨xs, e, q⟩ => ⟨xs, lstOf_ref.mp e, q⟩, fun ⟨xs, e, q⟩ => ⟨xs, lstOf_ref.mpr e, q⟩⟩
theorem blt_list_tup : fBlt .list [.tup xs] h Q = ∀ p, h p = none → Q (.ref p) (dupd h p (.lst xs)) := propext ⟨fun ⟨_, e, q⟩ => by cases e; exact q, fun q => ⟨_, rfl, q⟩⟩
theorem blt_list_ref : fBlt .list [.ref a] h Q = ∃ xs, h a = some (.lst xs) ∧ ∀ p, h p = none → Q (.ref p) (dupd h p (.lst xs)) := propext ⟨fun ⟨xs, e, q⟩ => ⟨xs, lstOf_ref.mp e, q⟩, fun ⟨xs, e, q⟩ => ⟨xs, lstOf_ref.mpr e, q⟩⟩
theorem br_sum : fBlt .sum [.ref a] h Q = ∃ ns : List Int, h a = some (.lst (ns.map D.int)) ∧ Q (.int ns.sum) h := propext ⟨fun ⟨xs, e, q⟩ => ⟨xs, lstOf_ref.mp e, q⟩, fun ⟨xs, e, q⟩ => ⟨xs, lstOf_ref.mpr e, q⟩⟩
theorem br_sumt : fBlt .sum [.tup xs] h Q = ∃ ns : List Int, xs = ns.map D.int ∧ Q (.int ns.sum) h := propext ⟨fun ⟨ns, e, q⟩ => ⟨ns, Option.some.inj e, q⟩, fun ⟨ns, e, q⟩ => ⟨ns, congrArg some e, q⟩⟩
theorem br_min1 : fBlt .min [.ref a] h Q = ∃ ns : List Int, h a = some (.lst (ns.map D.int)) ∧ ns ≠ [] ∧ Q (.int (leastOr 0 ns)) h := propext ⟨fun ⟨xs, e, q⟩ => ⟨xs, lstOf_ref.mp e, q⟩, fun ⟨xs, e, q⟩ => ⟨xs, lstOf_ref.mpr e, q⟩⟩
theorem br_max1 : fBlt .max [.ref a] h Q = ∃ ns : List Int, h a = some (.lst (ns.map D.int)) ∧ ns ≠ [] ∧ Q (.int (mostOr 0 ns)) h := propext ⟨fun ⟨xs, e, q⟩ => ⟨xs, lstOf_ref.mp e, q⟩, fun ⟨xs, e, q⟩ => ⟨xs, lstOf_ref.mpr e, q⟩⟩
theorem br_all : fBlt .all [.ref a] h Q = ∃ bs : List Bool, h a = some (.lst (bs.map D.bl)) ∧ Q (.bl (bs.all id)) h := propext ⟨fun ⟨xs, e, q⟩ => ⟨xs, lstOf_ref.mp e, q⟩, fun ⟨xs, e, q⟩ => ⟨xs, lstOf_ref.mpr e, q⟩⟩
theorem br_any : fBlt .any [.ref a] h Q = ∃ bs : List Bool, h a = some (.lst (bs.map D.bl)) ∧ Q (.bl (bs.any id)) h := propext ⟨fun ⟨xs, e, q⟩ => ⟨xs, lstOf_ref.mp e, q⟩, fun ⟨xs, e, q⟩ => ⟨xs, lstOf_ref.mpr e, q⟩⟩
theorem br_min2 : fBlt .min [.int i, .int j] h Q = Q (.int (min i j)) h := rfl
theorem br_max2 : fBlt .max [.int i, .int j] h Q = Q (.int (max i j)) h := rfl
theorem br_abs1 : fBlt .abs [.int i] h Q = Q (.int i.natAbs) h := rfl
theorem br_int1 : fBlt .int [.int i] h Q = Q (.int i) h := rfl
theorem fSet_ref : fSet (.ref p) (.int k) x h P = ∃ xs, h p = some (.lst xs) ∧ ∃ n, ixN xs.length k = some n ∧ P (dupd h p (.lst (xs.set n x))) := propext ⟨fun ⟨xs, d, a, b⟩ => ⟨xs, a, d, b⟩, fun ⟨xs, a, d, b⟩ => ⟨xs, d, a, b⟩⟩
theorem mt_append : fMtd .append (.ref a) [y] h Q = ∃ xs, h a = some (.lst xs) ∧ xs.length < 16777216 ∧ Q .non (dupd h a (.lst (xs ++ [y]))) := rfl
theorem mt_pop : fMtd .pop (.ref a) [] h Q = ∃ xs, h a = some (.lst xs) ∧ ∃ y, xs[xs.length - 1]? = some y ∧ Q y (dupd h a (.lst xs.dropLast)) := propext ⟨fun ⟨xs, d, a, b⟩ => ⟨xs, a, d, b⟩, fun ⟨xs, a, d, b⟩ => ⟨xs, d, a, b⟩⟩
theorem mt_popAt : fMtd .popAt (.ref a) [.int i] h Q = ∃ xs, h a = some (.lst xs) ∧ 0 ≤ i ∧ i < 2 ^ 62 ∧ ∃ y, xs[i.toNat]? = some y ∧ Q y (dupd h a (.lst (xs.eraseIdx i.toNat))) := propext ⟨fun ⟨xs, d, a, b, c, e⟩ => ⟨xs, a, b, c, d, e⟩, fun ⟨xs, a, b, c, d, e⟩ => ⟨xs, d, a, b, c, e⟩⟩
theorem mt_extend : fMtd .extend (.ref a) [.ref b] h Q = ∃ xs, h a = some (.lst xs) ∧ ∃ ys, h b = some (.lst ys) ∧ xs.length + ys.length ≤ 16777216 ∧ Q .non (dupd h a (.lst (xs ++ ys))) := propext ⟨fun ⟨xs, d, a, b⟩ => ⟨xs, a, d, b⟩, fun ⟨xs, a, d, b⟩ => ⟨xs, d, a, b⟩⟩
theorem fSl_tup {lo hi : Option Int} : fSl (.tup xs) lo hi h Q = Q (.tup (cutD xs lo hi)) h := rfl
theorem fSl_ref {lo hi : Option Int} : fSl (.ref a) lo hi h Q = ∃ xs, h a = some (.lst xs) ∧ ∀ p, h p = none → Q (.ref p) (dupd h p (.lst (cutD xs lo hi))) := rfl
theorem fSl_scr {lo hi : Option Int} {ns : List Int} : fSl (.scr ns) lo hi h Q = ∀ p, h p = none → Q (.ref p) (dupd h p (.lst (cutD (ns.map .int) lo hi))) := rfl
theorem revW_tup {R : List D → Prop} : revW (.tup xs) R = R xs := rfl
theorem tgtW_n {n : Nat} {ρ : DEnv} {R : DEnv → Prop} : tgtW (.name n) x ρ R = R (ρ.set n (some x)) := rfl
theorem tgtW_t {is : List Nat} {ρ : DEnv} {R : DEnv → Prop} : tgtW (.tup is) (.tup xs) ρ R = (xs.length = is.length ∧ R (setAll ρ is xs)) := rfl
theorem seqW_tup {R : List D → (DH → Prop) → DH → Prop} : seqW (.tup xs) h R = R xs (fun _ => True) h := rfl
theorem seqW_ref {R : List D → (DH → Prop) → DH → Prop} : seqW (.ref a) h R = ∃ xs, h a = some (.lst xs) ∧ R xs (fun h' => h' a = some (.lst xs)) h := rfl
theorem slot0 {d : D} {ρ : DEnv} {R : D → Prop} : slotW (some d :: ρ) 0 R = R d := rfl
theorem slotS {o : Option D} {ρ : DEnv} {n : Nat} {R : D → Prop} : slotW (o :: ρ) (n + 1) R = slotW ρ n R := by cases o <;> rfl
theorem atI0 {α : Type} {x : α} {xs : List α} : atI (x :: xs) 0 = some x := by simp [atI, ixN]
theorem atI1 {α : Type} {x y : α} {xs : List α} : atI (x :: y :: xs) 1 = some y := by
  have : (1 : Int) < (xs.length : Int) + 1 + 1 := by omega
  simp [atI, ixN, this]
theorem atI2 {α : Type} {x y z : α} {xs : List α} : atI (x :: y :: z :: xs) 2 = some z := by
  have : (2 : Int) < (xs.length : Int) + 1 + 1 + 1 := by omega
  simp [atI, ixN, this]
theorem atI_at {α : Type} {xs : List α} {k : Int} (h0 : 0 ≤ k) (h1 : k < xs.length) : atI xs k = some (xs[k.toNat]'(by omega)) := by
  unfold atI ixN
  rw [if_pos h0, if_pos h1]
  simp
theorem atI_map {α β : Type} {f : α → β} {xs : List α} {k : Int} (h0 : 0 ≤ k) (h1 : k < xs.length) : atI (xs.map f) k = some (f (xs[k.toNat]'(by omega))) := by
  rw [atI_at h0 (by rw [List.length_map]; exact h1)]
  simp
theorem ixN_at {n : Nat} {k : Int} (h0 : 0 ≤ k) (h1 : k < n) : ixN n k = some k.toNat := by
  unfold ixN
  rw [if_pos h0, if_pos h1]
end
local macro_rules | `(tactic| exists $es,*) => `(tactic| (first | simp only [$[$es:term],*, wpB, wpS, wpE, wpL, wpO, wpC, wpI, dstart, List.map_cons, List.map_nil, List.length_cons, List.length_nil, List.replicate, List.cons_append, List.nil_append, List.set, slot0, slotS, nthW, Nat.zero_add, Nat.reduceAdd, Nat.reduceSub,
  bin_add, bin_sub, bin_mul, bin_div, bin_mod, bin_pow, fIx_tup, fIx_ref, fAdd_int, fAdd_str, fAdd_tup, fAdd_ref, fSub_int, fMul_int, fMul_tup, fDiv_int, fMod_int, fPow_int, cmp_eq, cmp_ne, cmp_lt, cmp_le, cmp_gt, cmp_ge, cmp_is, cmp_isn, cmp_in, cmp_nin, eqW_ii, eqW_ss, boolW_bl, intW_int, iteW_t, iteW_f,
  blt_len_str, blt_len_tup, blt_len_ref, blt_tuple_tup, blt_tuple_ref, blt_list_tup, blt_list_ref, br_sum, br_min1, br_max1, br_all, br_any, br_min2, br_max2, br_abs1, br_int1, fSet_ref, mt_append, mt_pop, mt_popAt, mt_extend, fSl_tup, fSl_ref, fSl_scr, tgtW_n, tgtW_t, setAll, seqW_tup, seqW_ref, isRcv, lstOf_is, exists_eq', exists_eq, true_and, and_true, atI0, atI1, atI2,
  Option.some.injEq, DO.lst.injEq, exists_eq_left', exists_eq_left, exists_const, decide_true, decide_false, Bool.not_true, Bool.not_false, dupd_same, dupd_ne, ne_eq, not_false_eq_true] | dsimp only | skip))
def c__law_draw : CB :=
  .cons (.ite (.cmp .NotEq (.ix (.var 0) (.int 0)) (.lst .nil)) (.cons (.set 4 (.ix (.ix (.var 0) (.int 0)) (.int 0)))
    (.cons (.six (.ix (.var 0) (.int 0)) (.int 0) (.bin .FloorDiv (.var 4) (.var 1)))
    (.cons (.ite (.cmp .Eq (.ix (.ix (.var 0) (.int 0)) (.int 0)) (.int 0)) (.cons (.ex (.bm .popAt (.ix (.var 0) (.int 0)) (.cons (.int 0) .nil))) .nil) (.nil))
    (.cons (.ret (.bin .Mod (.blt .int (.cons (.var 4) .nil)) (.var 1))) .nil)))) (.nil))
  (.cons (.six (.var 0) (.int 2) (.bin .Add (.ix (.var 0) (.int 2)) (.int 1)))
  (.cons (.set 2 (.ix (.ix (.var 0) (.int 1)) (.bin .Mod (.blt .int (.cons (.ix (.var 0) (.int 2)) .nil)) (.blt .len (.cons (.ix (.var 0) (.int 1)) .nil)))))
  (.cons (.set 3 (.bin .Mod (.blt .int (.cons (.bin .Add (.bin .Mod (.blt .int (.cons (.var 2) .nil)) (.int 4294967231)) (.bin .Mult (.int 3266489917) (.ix (.var 0) (.int 2)))) .nil)) (.int 4294967231)))
  (.cons (.set 3 (.bin .Mod (.blt .int (.cons (.bin .Add (.bin .Mult (.var 3) (.var 3)) (.bin .Mult (.int 28657) (.ix (.var 0) (.int 2)))) .nil)) (.int 4294967197)))
  (.cons (.ret (.bin .Mod (.bin .FloorDiv (.bin .Mod (.blt .int (.cons (.bin .Mult (.var 3) (.var 3)) .nil)) (.int 4294967189)) (.int 4096)) (.var 1))) .nil)))))
def spDraw : DSp := fun as h Q => ∃ (a : Addr) (n : Int), as = [.ref a, .int n] ∧ h a = some .deck ∧ 0 < n ∧ n < 2 ^ 100 ∧ ∀ k : Int, 0 ≤ k → k < n → Q (.int k) h
theorem b_draw (as : List D) (h : DH) (Q : WK) (K : PySem.W.Frag) (H : Hp) (s : spDraw as h Q) (hr : HR K h H) : ∃ h1, (HR K h1 H ∧ ∀ b, FP h1 H b → FP h H b) ∧ wpB ⟨[], []⟩ c__law_draw (dstart 5 as) h1 { nx := fun _ h' => Ret Q .non h', rt := Ret Q } := by
  obtain ⟨a, n, rfl, hd, n0, n1, q⟩ := s
  obtain ⟨a0, a1, k, ns, ms, d1, d2, d3, e0, e1, m0, m1, m2, p0, p1, k0, one, hr1, fp⟩ := open_deck hr hd
  refine ⟨_, ⟨hr1, fp⟩, ?_⟩
  have oa : opened h a a0 a1 k ns ms a = some (.lst [.ref a0, .ref a1, .int k]) := if_pos rfl
  have oa0 : opened h a a0 a1 k ns ms a0 = some (.lst (ns.map .int)) := by unfold opened; rw [if_neg (Ne.symm d2), if_pos rfl]
  have oa1 : opened h a a0 a1 k ns ms a1 = some (.lst (ms.map .int)) := by unfold opened; rw [if_neg (Ne.symm d3), if_neg (Ne.symm d1), if_pos rfl]
  have orest : ∀ b, b ≠ a → b ≠ a0 → b ≠ a1 → opened h a a0 a1 k ns ms b = h b := fun b z1 z2 z3 => by unfold opened; rw [if_neg z1, if_neg z2, if_neg z3]
  generalize opened h a a0 a1 k ns ms = h1 at *
  have close : ∀ (h' : DH) (k' : Int) (ns' : List Int), 0 ≤ k' → ns'.length ≤ 63 → (∀ n ∈ ns', 0 ≤ n) → h' a = some (.lst [.ref a0, .ref a1, .int k']) → h' a0 = some (.lst (ns'.map .int)) → h' a1 = some (.lst (ms.map .int)) → (∀ b, b ≠ a → b ≠ a0 → b ≠ a1 → h b ≠ none → h' b = h b) → Abs h h' := fun h' k' ns' z1 z2 z3 z4 z5 z6 z7 =>
    close_deck hd e0 e1 d1 d2 d3 (fun b o z y => ⟨by
      rw [z7 b z (fun x => by subst x; rw [e0] at y; cases y) (fun x => by subst x; rw [e1] at y; cases y) (by rw [y]; exact fun x => nomatch x)]; exact y, fun x => z (one b (by rw [y, x]))⟩) z4 z5 z6 m0 m1 z2 z3 p1 z1
  have ne_none : ∀ {h : DH} {a p : Addr} {o : DO}, h a = some o → h p = none → a ≠ p := fun e n z => by subst z; rw [e] at n; cases n
  unfold c__law_draw
  exists oa
  refine ⟨by decide, fun p hp => ?_⟩
  have na := ne_none oa hp
  have na0 := ne_none oa0 hp
  have na1 := ne_none oa1 hp
  refine eqW_lst (xs := ns.map .int) (ys := []) (by rw [dupd_ne na0, oa0]) dupd_same (pures_map (fun _ => rfl) ns) rfl (shaped_ints ns) rfl ?_
  have i2 : ixN 3 2 = some 2 := by decide
  cases ns with
  | cons m ns =>
    have i0 : ixN (ns.length + 1) 0 = some 0 := by unfold ixN; rw [if_pos (by decide), if_pos (by omega)]; rfl
    have pm : 0 ≤ m := p0 m List.mem_cons_self
    have pn : ∀ n ∈ ns, 0 ≤ n := fun n hn => p0 n (List.mem_cons_of_mem _ hn)
    have lm : ns.length + 1 ≤ 63 := m2
    have fin : 0 ≤ m % n ∧ m % n < n := ⟨Int.emod_nonneg _ (by omega), Int.emod_lt_of_pos _ n0⟩
    exists pys, List.map_cons, List.map_nil, PyData.eqvAll, na, oa, oa0, na0, d2, i0, List.length_map, List.set_cons_zero
    refine ⟨⟨n0, n1⟩, ?_⟩
    by_cases c : m / n = 0
    · exists c
      refine ⟨by decide, by decide, _, rfl, n0, _, close _ k ns k0 (by omega) pn ?_ ?_ ?_ ?_, q _ fin.1 fin.2⟩
      · rw [dupd_ne d2, dupd_ne d2, dupd_ne na, oa]
      · rw [dupd_same]; rfl
      · rw [dupd_ne d1.symm, dupd_ne d1.symm, dupd_ne na1, oa1]
      · intro b z1 z2 z3 z4
        have : b ≠ p := fun z => by subst z; exact z4 (by rw [← orest b z1 z2 z3]; exact hp)
        rw [dupd_ne z2, dupd_ne z2, dupd_ne this, orest b z1 z2 z3]
    · exists decide_eq_false c
      refine ⟨n0, _, close _ k ((m / n) :: ns) k0 (by simp; omega) ?_ ?_ ?_ ?_ ?_, q _ fin.1 fin.2⟩
      · intro y hy
        rcases List.mem_cons.mp hy with rfl | hy
        · exact Int.ediv_nonneg pm (by omega)
        · exact pn y hy
      · rw [dupd_ne d2, dupd_ne na, oa]
      · rw [dupd_same]; rfl
      · rw [dupd_ne d1.symm, dupd_ne na1, oa1]
      · intro b z1 z2 z3 z4
        have : b ≠ p := fun z => by subst z; exact z4 (by rw [← orest b z1 z2 z3]; exact hp)
        rw [dupd_ne z2, dupd_ne this, orest b z1 z2 z3]
  | nil =>
    have ml : 0 < ms.length := by cases ms; exact absurd rfl m0; simp
    have ml2 : (0 : Int) < ms.length := by omega
    have at1 := atI_map (f := D.int) (xs := ms) (k := (k + 1) % (ms.length : Int)) (Int.emod_nonneg _ (by omega)) (Int.emod_lt_of_pos _ ml2)
    exists pys, List.map_nil, PyData.eqvAll, na, oa, i2, na1, d3, d3.symm, oa1, List.length_map, at1
    generalize hx : ((ms[((k + 1) % (ms.length : Int)).toNat]'(by have := Int.emod_lt_of_pos (k + 1) ml2; have := Int.emod_nonneg (k + 1) (b := (ms.length : Int)) (by omega); omega) % 4294967231 + 3266489917 * (k + 1)) % 4294967231) = x
    have x0 : 0 ≤ x := by rw [← hx]; exact Int.emod_nonneg _ (by decide)
    have x1 : x < 4294967231 := by rw [← hx]; exact Int.emod_lt_of_pos _ (by decide)
    generalize hz : (x * x + 28657 * (k + 1)) % 4294967197 = z
    have z0 : 0 ≤ z := by rw [← hz]; exact Int.emod_nonneg _ (by decide)
    have z1 : z < 4294967197 := by rw [← hz]; exact Int.emod_lt_of_pos _ (by decide)
    refine ⟨ml2, by decide, .inl (.inl (by decide)), by decide, .inl (.inl ⟨by omega, by omega⟩), .inl (.inl (by decide)), by decide, .inl (.inl ⟨by omega, by omega⟩), by decide, ⟨by decide, by decide⟩, n0, _, close _ (k + 1) [] (by omega) (by decide) (fun _ z => by cases z) ?_ ?_ ?_ ?_, q _ (Int.emod_nonneg _ (by omega)) (Int.emod_lt_of_pos _ n0)⟩
    · rw [dupd_same]
    · rw [dupd_ne d2.symm, dupd_ne na0, oa0]
    · rw [dupd_ne d3.symm, dupd_ne na1, oa1]
    · intro b z1 z2 z3 z4
      have : b ≠ p := fun z => by subst z; exact z4 (by rw [← orest b z1 z2 z3]; exact hp)
      rw [dupd_ne z1, dupd_ne this, orest b z1 z2 z3]
/-! ### comprehensions, loops -/
theorem lcW_fm {turn : D → DH → (Option D → DH → Prop) → Prop} {g : DH → Prop} (f : D → Option D) {h : DH} (hg : g h) : ∀ {xs : List D} {Q : List D → DH → Prop}, (∀ x ∈ xs, ∀ R : Option D → DH → Prop, R (f x) h → turn x h R) → Q (xs.filterMap f) h → lcW turn g xs h Q
  | [], _, _, q => ⟨hg, q⟩
  | x :: xs, Q, t, q => ⟨hg, t x List.mem_cons_self _ (lcW_fm f hg (fun y hy => t y (List.mem_cons_of_mem _ hy)) (by
      have : (x :: xs).filterMap f = (f x).toList ++ xs.filterMap f := by
        cases e : f x <;> simp [List.filterMap_cons, e]
      rw [this] at q
      exact q))⟩
theorem lcW_map {turn : D → DH → (Option D → DH → Prop) → Prop} {g : DH → Prop} (f : D → D) {h : DH} (hg : g h) {xs : List D} {Q : List D → DH → Prop} (t : ∀ x ∈ xs, ∀ R : Option D → DH → Prop, R (some (f x)) h → turn x h R) (q : Q (xs.map f) h) : lcW turn g xs h Q :=
  lcW_fm (fun x => some (f x)) hg t (by rw [List.filterMap_eq_map' (f := f)]; exact q)
theorem lcF {α : Type} {c : α → D} {turn : D → DH → (Option D → DH → Prop) → Prop} {g : DH → Prop} (f : α → Option D) {h : DH} (hg : g h) : ∀ {xs : List α} {Q : List D → DH → Prop}, (∀ x ∈ xs, ∀ R : Option D → DH → Prop, R (f x) h → turn (c x) h R) → Q (xs.filterMap f) h → lcW turn g (xs.map c) h Q
  | [], _, _, q => ⟨hg, q⟩
  | x :: xs, Q, t, q => ⟨hg, t x List.mem_cons_self _ (lcF f hg (fun y hy => t y (List.mem_cons_of_mem _ hy)) (by
      have : (x :: xs).filterMap f = (f x).toList ++ xs.filterMap f := by
        cases e : f x <;> simp [List.filterMap_cons, e]
      rw [this] at q
      exact q))⟩
theorem lcM {α : Type} {c : α → D} {turn : D → DH → (Option D → DH → Prop) → Prop} {g : DH → Prop} (f : α → D) {h : DH} (hg : g h) {xs : List α} {Q : List D → DH → Prop} (t : ∀ x ∈ xs, ∀ R : Option D → DH → Prop, R (some (f x)) h → turn (c x) h R) (q : Q (xs.map f) h) : lcW turn g (xs.map c) h Q :=
  lcF (fun x => some (f x)) hg t (by rw [List.filterMap_eq_map' (f := f)]; exact q)
theorem lcW_all {turn : D → DH → (Option D → DH → Prop) → Prop} {g : DH → Prop} (P : D → Prop) {h : DH} (hg : g h) : ∀ {xs : List D} {Q : List D → DH → Prop}, (∀ x ∈ xs, ∀ R : Option D → DH → Prop, (∀ y, P y → R (some y) h) → turn x h R) → (∀ ys : List D, ys.length = xs.length → (∀ y ∈ ys, P y) → Q ys h) → lcW turn g xs h Q
  | [], _, _, q => ⟨hg, q [] rfl fun _ z => by cases z⟩
  | x :: xs, Q, t, q => ⟨hg, t x List.mem_cons_self _ fun y py => lcW_all P hg (fun y hy => t y (List.mem_cons_of_mem _ hy)) fun ys hl hp => q (y :: ys) (by simp [hl]) fun z hz => by
      rcases List.mem_cons.mp hz with rfl | hz
      · exact py
      · exact hp z hz⟩
/-- a loop by what holds ahead of each turn -/
theorem loopW_inv {g : DH → Prop} {turn : D → DEnv → DH → (DEnv → DH → Prop) → Prop} {nx : DEnv → DH → Prop} (I : List D → DEnv → DH → Prop) (last : ∀ ρ h, I [] ρ h → g h ∧ nx ρ h)
    (step : ∀ x xs ρ h N, I (x :: xs) ρ h → (∀ ρ' h', I xs ρ' h' → N ρ' h') → g h ∧ turn x ρ h N) : ∀ {xs : List D} {ρ : DEnv} {h : DH}, I xs ρ h → loopW g turn nx xs ρ h
  | [], ρ, h, i => last ρ h i
  | x :: xs, ρ, h, i => step x xs ρ h _ i fun ρ' h' i' => loopW_inv I last step i'
def c__law_deck : CB :=
  .cons (.set 1 (.lc (.blt .abs (.cons (.var 2) .nil)) (.name 2) (.seq (.slice (.var 0) .no (.yes (.int 63)))) [("_law_cell", 2)] .no))
  (.cons (.ret (.lst (.cons (.lc (.var 2) (.name 2) (.seq (.var 1)) [("_law_cell", 2)] (.yes (.cmp .GtE (.var 2) (.bin .Pow (.int 10) (.int 18))))) (.cons (.bin .Add (.var 1) (.lst (.cons (.bin .Add (.int 11208) (.blt .len (.cons (.var 1) .nil))) .nil))) (.cons (.int 0) .nil))))) .nil)
def spDeck : DSp := fun as h Q => ∃ ns : List Int, as = [.scr ns] ∧ h = (fun _ => none) ∧ ∀ p, Q (.ref p) (dupd h p .deck)
theorem cut63 {α : Type} (f : α → D) (ns : List α) : cutD (ns.map f) none (some 63) = (ns.take 63).map f := by
  unfold cutD
  have e1 : HT.sIx (ns.map f).length 0 none = 0 := rfl
  have e2 : HT.sIx (ns.map f).length (ns.map f).length (some 63) = min 63 ns.length := by
    unfold HT.sIx
    simp
  rw [e1, e2, List.drop_zero, Nat.sub_zero, ← List.map_take]
  congr 1
  rw [List.take_eq_take_iff]
  omega
theorem b_deck (as : List D) (h : DH) (Q : WK) (s : spDeck as h Q) : wpB ⟨[], []⟩ c__law_deck (dstart 3 as) h { nx := fun _ h' => Ret Q .non h', rt := Ret Q } := by
  obtain ⟨ns, rfl, rfl, q⟩ := s
  unfold c__law_deck
  exists dwipe
  intro p hp
  exists cut63
  refine ⟨by rw [List.length_map]; exact Nat.le_trans (List.length_take_le 63 ns) (by decide), ?_⟩
  refine lcM (fun n : Int => .int n.natAbs) dupd_same (fun n hn R r => by exists r) ?_
  intro p1 hp1
  generalize hcs : (ns.take 63).map (fun n => (n.natAbs : Int)) = cs
  have e : (ns.take 63).map (fun n : Int => D.int n.natAbs) = cs.map D.int := by rw [← hcs, List.map_map]; rfl
  have lc : cs.length ≤ 63 := by rw [← hcs, List.length_map]; exact List.length_take_le 63 ns
  have pc : ∀ n ∈ cs, 0 ≤ n := fun n hn => by
    rw [← hcs] at hn
    obtain ⟨m, _, rfl⟩ := List.mem_map.mp hn
    omega
  rw [e]
  refine ⟨by rw [List.length_map]; omega, ?_⟩
  refine lcF (fun n : Int => if 1000000000000000000 ≤ n then some (.int n) else none) dupd_same (fun n hn R r => ?_) ?_
  · exists r
    refine ⟨⟨by decide, by decide, by decide⟩, ?_⟩
    have : ((10 : Int) ^ Int.toNat 18) = 1000000000000000000 := by decide
    rw [this]
    by_cases c : 1000000000000000000 ≤ n
    · rw [if_pos c] at r
      exists decide_eq_true c
      exact r
    · rw [if_neg c] at r
      exists decide_eq_false c
      exact r
  intro p2 hp2
  have e2 : cs.filterMap (fun n : Int => if 1000000000000000000 ≤ n then some (D.int n) else none) = (cs.filter fun n => decide (1000000000000000000 ≤ n)).map D.int := by
    clear hp2 hp1 e lc pc hcs
    induction cs with
    | nil => rfl
    | cons c cs ih =>
      by_cases q : 1000000000000000000 ≤ c
      · simp [List.filterMap_cons, q, ih]
      · simp [List.filterMap_cons, q, ih]
  rw [e2]
  have n1 := dupd_none.mp hp2
  exists n1.1.symm
  refine ⟨by decide, fun p3 hp3 => ?_⟩
  have n2 := dupd_none.mp hp3
  have n3 := dupd_none.mp n2.2
  exists n3.1.symm, n1.1.symm, List.length_map
  refine ⟨by simp; omega, fun p4 hp4 => ⟨by decide, fun p5 hp5 => ?_⟩⟩
  have m4 := dupd_none.mp hp4
  have m5 := dupd_none.mp m4.2
  have m6 := dupd_none.mp m5.2
  have k5 := dupd_none.mp hp5
  have k6 := dupd_none.mp k5.2
  have k7 := dupd_none.mp k6.2
  refine ⟨dupd (fun _ => none) p5 .deck, ?_, q p5⟩
  refine close_deck (a := p5) (a0 := p2) (a1 := p4) (k := 0) (ns := cs.filter fun n => decide (1000000000000000000 ≤ n)) (ms := cs ++ [11208 + (cs.length : Int)]) dupd_same ?_ ?_ m5.1.symm k7.1 k5.1 ?_ dupd_same ?_ ?_ (by simp) (by simp; omega) ?_ ?_ ?_ (by decide)
  · rw [dupd_ne k7.1.symm]
  · rw [dupd_ne k5.1.symm]
  · intro b o z y
    rw [dupd_ne z] at y; cases y
  · rw [dupd_ne k7.1.symm, dupd_ne m5.1.symm, dupd_ne n2.1.symm, dupd_same]
  · rw [dupd_ne k5.1.symm, dupd_same]
    simp
  · exact Nat.le_trans (List.length_filter_le _ _) lc
  · intro n hn
    exact pc n (List.mem_filter.mp hn).1
  · intro n hn
    rcases List.mem_append.mp hn with hn | hn
    · exact pc n hn
    · simp at hn; omega
theorem len_draw : ∀ ds h Q, spDraw ds h Q → ds.length = 2 := fun _ _ _ ⟨_, _, e, _⟩ => by rw [e]; rfl
theorem len_deck : ∀ ds h Q, spDeck ds h Q → ds.length = 1 := fun _ _ _ ⟨_, e, _⟩ => by rw [e]; rfl
/-- isinstance may be asked -/
def okIs (x : D) (h : DH) : Prop :=
  match x with
  | .scr _ => False
  | .exc _ _ _ => False
  | .ref a => ∃ xs, h a = some (.lst xs) ∨ (∃ k, h a = some (.dk k)) ∨ ∃ k, h a = some (.dt k)
  | _ => True
def isiB (t : Tn) (x : D) (h : DH) : Bool :=
  match x with
  | .bl _ => t == .int || t == .bool
  | .int _ => t == .int
  | .str _ => t == .str
  | .tup _ => t == .tuple
  | .ref a => match h a with
    | some (.lst _) => t == .list
    | _ => false
  | _ => false
theorem isi_of {t : Tn} {x : D} {h : DH} {Q : Bool → Prop} (o : okIs x h) (q : Q (isiB t x h)) : isiW t x h Q := by
  unfold isiW
  unfold isiB at q
  cases x with
  | scr _ => exact o.elim
  | exc _ _ _ => exact o.elim
  | ref a =>
    obtain ⟨xs, o | ⟨k, o⟩ | ⟨k, o⟩⟩ := o
    · simp only [o] at q ⊢; exact q
    · simp only [o] at q ⊢; exact q
    · simp only [o] at q ⊢; exact q
  | _ => exact q
theorem isiB_int {i : Int} {h : DH} {t : Tn} : isiB t (.int i) h = (t == .int) := rfl
theorem isiB_bl {i : Bool} {h : DH} {t : Tn} : isiB t (.bl i) h = (t == .int || t == .bool) := rfl
theorem isiB_str {i : Str} {h : DH} {t : Tn} : isiB t (.str i) h = (t == .str) := rfl
theorem isiB_tup {i : List D} {h : DH} {t : Tn} : isiB t (.tup i) h = (t == .tuple) := rfl
theorem isiB_non {h : DH} {t : Tn} : isiB t .non h = false := rfl
theorem tn_int_bool : (Tn.int == Tn.bool) = false := rfl
theorem tn_int_str : (Tn.int == Tn.str) = false := rfl
theorem tn_int_tuple : (Tn.int == Tn.tuple) = false := rfl
theorem tn_int_list : (Tn.int == Tn.list) = false := rfl
theorem tn_bool_int : (Tn.bool == Tn.int) = false := rfl
theorem tn_bool_str : (Tn.bool == Tn.str) = false := rfl
theorem tn_bool_tuple : (Tn.bool == Tn.tuple) = false := rfl
theorem tn_bool_list : (Tn.bool == Tn.list) = false := rfl
theorem tn_str_int : (Tn.str == Tn.int) = false := rfl
theorem tn_str_bool : (Tn.str == Tn.bool) = false := rfl
theorem tn_str_tuple : (Tn.str == Tn.tuple) = false := rfl
theorem tn_str_list : (Tn.str == Tn.list) = false := rfl
theorem tn_tuple_int : (Tn.tuple == Tn.int) = false := rfl
theorem tn_tuple_bool : (Tn.tuple == Tn.bool) = false := rfl
theorem tn_tuple_str : (Tn.tuple == Tn.str) = false := rfl
theorem tn_tuple_list : (Tn.tuple == Tn.list) = false := rfl
theorem tn_list_int : (Tn.list == Tn.int) = false := rfl
theorem tn_list_bool : (Tn.list == Tn.bool) = false := rfl
theorem tn_list_str : (Tn.list == Tn.str) = false := rfl
theorem tn_list_tuple : (Tn.list == Tn.tuple) = false := rfl
end DL

set_option Elab.async false
set_option linter.all false
set_option maxRecDepth 100000
set_option maxHeartbeats 4000000
/-! DP2: pick, numbers, binomials. -/
namespace DL
open PySem PySem.Spec PyProof.Rows L2
local macro_rules | `(tactic| exists $es,*) => `(tactic| (first | simp only [$[$es:term],*, wpB, wpS, wpE, wpL, wpO, wpC, wpI, dstart, List.map_cons, List.map_nil, List.length_cons, List.length_nil, List.replicate, List.cons_append, List.nil_append, List.set, slot0, slotS, nthW, Nat.zero_add, Nat.reduceAdd, Nat.reduceSub,
  bin_add, bin_sub, bin_mul, bin_div, bin_mod, bin_pow, fIx_tup, fIx_ref, fAdd_int, fAdd_str, fAdd_tup, fAdd_ref, fSub_int, fMul_int, fMul_tup, fDiv_int, fMod_int, fPow_int, cmp_eq, cmp_ne, cmp_lt, cmp_le, cmp_gt, cmp_ge, cmp_is, cmp_isn, cmp_in, cmp_nin, eqW_ii, eqW_ss, boolW_bl, intW_int, iteW_t, iteW_f,
  blt_len_str, blt_len_tup, blt_len_ref, blt_tuple_tup, blt_tuple_ref, blt_list_tup, blt_list_ref, br_sum, br_sumt, br_min1, br_max1, br_all, br_any, br_min2, br_max2, br_abs1, br_int1, fSet_ref, mt_append, mt_pop, mt_popAt, mt_extend, fSl_tup, fSl_ref, fSl_scr, tgtW_n, tgtW_t, setAll, seqW_tup, seqW_ref, isRcv, lstOf_is, exists_eq', exists_eq, true_and, and_true, atI0, atI1, atI2,
  Option.some.injEq, DO.lst.injEq, exists_eq_left', exists_eq_left, exists_const, decide_true, decide_false, Bool.not_true, Bool.not_false, dupd_same, dupd_ne, ne_eq, not_false_eq_true, isiB_int, isiB_bl, isiB_str, isiB_tup, isiB_non, beq_self_eq_true, Bool.true_or, Bool.or_true, Bool.false_or, Bool.or_false, tn_int_bool, tn_int_str, tn_int_tuple, tn_int_list, tn_bool_int, tn_bool_str, tn_bool_tuple, tn_bool_list, tn_str_int, tn_str_bool, tn_str_tuple, tn_str_list, tn_tuple_int, tn_tuple_bool, tn_tuple_str, tn_tuple_list, tn_list_int, tn_list_bool, tn_list_str, tn_list_tuple] | dsimp only | skip))
theorem ne_none {h : DH} {a p : Addr} {o : DO} (e : h a = some o) (n : h p = none) : a ≠ p := fun z => by subst z; rw [e] at n; cases n
/-- a seat of the items, any one -/
def c__law_pick : CB :=
  .cons (.ret (.ix (.var 1) (.call 0 (.cons (.var 0) (.cons (.blt .len (.cons (.var 1) .nil)) .nil))))) .nil
def spPick : DSp := fun as h Q => ∃ (a : Addr) (y : D) (xs : List D), as = [.ref a, y] ∧ h a = some .deck ∧ ((y = .tup xs) ∨ ∃ b, y = .ref b ∧ h b = some (.lst xs)) ∧ xs ≠ [] ∧ xs.length ≤ 16777216 ∧ ∀ x ∈ xs, Q x h
theorem b_pick (as : List D) (h : DH) (Q : WK) (s : spPick as h Q) : wpB ⟨[], [spDraw]⟩ c__law_pick (dstart 2 as) h { nx := fun _ h' => Ret Q .non h', rt := Ret Q } := by
  obtain ⟨a, y, xs, rfl, hd, hy, hn, hl, q⟩ := s
  unfold c__law_pick
  have pos : 0 < xs.length := by cases xs; exact absurd rfl hn; simp
  rcases hy with rfl | ⟨b, rfl, hb⟩
  · exists hd
    refine ⟨a, _, rfl, hd, by omega, by omega, fun k k0 k1 => ?_⟩
    exists atI_at k0 k1
    exact ret_here (q _ (List.getElem_mem _))
  · exists hd, hb
    refine ⟨a, _, rfl, hd, by omega, by omega, fun k k0 k1 => ?_⟩
    exists hb, atI_at k0 k1
    exact ret_here (q _ (List.getElem_mem _))
def c__law_is_int : CB :=
  .cons (.ret (.and (.isi (.var 0) .int) (.and (.not (.isi (.var 0) .bool)) (.chain .LtE .LtE (.var 1) (.var 0) (.var 2))))) .nil
def isIntD (x : D) (l m : Int) : Bool :=
  match x with
  | .int i => decide (l ≤ i) && decide (i ≤ m)
  | _ => false
def spIsInt : DSp := fun as h Q => ∃ (x : D) (l m : Int), as = [x, .int l, .int m] ∧ okIs x h ∧ Q (.bl (isIntD x l m)) h
theorem b_is_int (as : List D) (h : DH) (Q : WK) (s : spIsInt as h Q) : wpB ⟨[], []⟩ c__law_is_int (dstart 3 as) h { nx := fun _ h' => Ret Q .non h', rt := Ret Q } := by
  obtain ⟨x, l, m, rfl, o, q⟩ := s
  unfold c__law_is_int
  exists wpB
  have qf : isIntD x l m = false → Ret Q (.bl false) h := fun e => by rw [e] at q; exact ret_here q
  refine isi_of o ?_
  cases x with
  | int i =>
    exists isiB_int, beq_self_eq_true
    refine isi_of o ?_
    exists isiB_int, show (Tn.bool == Tn.int) = false from rfl
    unfold isIntD at q
    by_cases c : l ≤ i
    · simp only [decide_eq_true c, Bool.true_and] at q
      exists decide_eq_true c
      exact ret_here q
    · simp only [decide_eq_false c, Bool.false_and] at q
      exists decide_eq_false c
      exact ret_here q
  | bl b =>
    exists isiB_bl, beq_self_eq_true, Bool.true_or
    refine isi_of o ?_
    exists isiB_bl, beq_self_eq_true, Bool.or_true
    exact qf rfl
  | ref a =>
    have : isiB .int (.ref a) h = false := by unfold isiB; dsimp only; split <;> rfl
    exists this
    exact qf rfl
  | _ => exact qf rfl
/-! ### binomials -/
def bn : Nat → Nat → Nat
  | _, 0 => 1
  | 0, _ + 1 => 0
  | n + 1, k + 1 => bn n k + bn n (k + 1)
theorem bn_zero (n : Nat) : bn n 0 = 1 := by cases n <;> rfl
theorem bn_succ (n k : Nat) : bn (n + 1) (k + 1) = bn n k + bn n (k + 1) := rfl
theorem bn_big : ∀ {n k : Nat}, n < k → bn n k = 0
  | 0, k + 1, _ => rfl
  | n + 1, k + 1, h => by rw [bn_succ, bn_big (by omega), bn_big (by omega)]
theorem bn_self : ∀ n : Nat, bn n n = 1
  | 0 => rfl
  | n + 1 => by rw [bn_succ, bn_self n, bn_big (by omega)]
/-- (k + 1) * C(n, k + 1) = (n - k) * C(n, k) -/
theorem bn_step : ∀ (n k : Nat), (bn n (k + 1) : Int) * (k + 1) = bn n k * ((n : Int) - k)
  | 0, 0 => by simp [bn]
  | 0, k + 1 => by simp [bn]
  | n + 1, 0 => by
    have ih := bn_step n 0
    rw [bn_succ, bn_zero, bn_zero]
    rw [bn_zero] at ih
    push_cast at ih ⊢
    omega
  | n + 1, k + 1 => by
    have i1 := bn_step n k
    have i2 := bn_step n (k + 1)
    rw [bn_succ n (k + 1), bn_succ n k]
    push_cast at i1 i2 ⊢
    generalize (bn n k : Int) = a at *
    generalize (bn n (k + 1) : Int) = b at *
    generalize (bn n (k + 1 + 1) : Int) = c at *
    have e1 : (b + c) * ((k : Int) + 1 + 1) = b * (k + 1) + b + c * (k + 1 + 1) := by simp only [Int.add_mul, Int.mul_add]; omega
    rw [e1, i1, i2]
    simp only [Int.add_mul, Int.mul_add, Int.mul_sub, Int.mul_one]
    omega
theorem bn_pos : ∀ {n k : Nat}, k ≤ n → 0 < bn n k
  | n, 0, _ => by rw [bn_zero]; decide
  | n + 1, k + 1, h => by rw [bn_succ]; have := bn_pos (n := n) (k := k) (by omega); omega
theorem bn_mono {n m k : Nat} (h : n ≤ m) : bn n k ≤ bn m k := by
  induction h with
  | refl => exact Nat.le_refl _
  | step _ ih =>
    cases k with
    | zero => rw [bn_zero, bn_zero]; exact Nat.le_refl _
    | succ k => rw [bn_succ]; omega
theorem bn_le_pow : ∀ (n k : Nat), bn n k ≤ (n + 1) ^ k
  | n, 0 => by rw [bn_zero]; simp
  | 0, k + 1 => by simp [bn]
  | n + 1, k + 1 => by
    have i1 := bn_le_pow n k
    have i2 := bn_le_pow n (k + 1)
    rw [bn_succ]
    have p : (n + 1) ^ k ≤ (n + 1 + 1) ^ k := Nat.pow_le_pow_left (by omega) k
    have e1 : (n + 1) ^ (k + 1) = (n + 1) ^ k * (n + 1) := Nat.pow_succ ..
    have e2 : (n + 1 + 1) ^ (k + 1) = (n + 1 + 1) ^ k * (n + 1 + 1) := Nat.pow_succ ..
    rw [e1] at i2
    rw [e2]
    have : (n + 1) ^ k * (n + 1) ≤ (n + 1 + 1) ^ k * (n + 1) := Nat.mul_le_mul_right _ p
    rw [Nat.mul_succ ((n + 1 + 1) ^ k) (n + 1)]
    omega
/-- what the program's own loop finds -/
theorem bn_div (n k : Nat) : (bn n k : Int) * ((n : Int) - k) / ((k : Int) + 1) = bn n (k + 1) := by
  rw [← bn_step]
  exact Int.mul_ediv_cancel _ (by omega)
theorem loopW_rng {turn : D → DEnv → DH → (DEnv → DH → Prop) → Prop} {nx : DEnv → DH → Prop} {lo : Int} {n : Nat} (I : Nat → DEnv → DH → Prop) (last : ∀ ρ h, I n ρ h → nx ρ h)
    (step : ∀ i ρ h N, i < n → I i ρ h → (∀ ρ' h', I (i + 1) ρ' h' → N ρ' h') → turn (.int (lo + (i : Int))) ρ h N) {ρ : DEnv} {h : DH} (i0 : I 0 ρ h) : loopW (fun _ => True) turn nx (rngD lo n) ρ h := by
  have key : ∀ (m i : Nat) (ρ : DEnv) (h : DH), i + m = n → I i ρ h → loopW (fun _ => True) turn nx ((List.range' i m).map fun (k : Nat) => D.int (lo + k)) ρ h := by
    intro m
    induction m with
    | zero => intro i ρ h e q; simp only [Nat.add_zero] at e; subst e; exact ⟨trivial, last ρ h q⟩
    | succ m ih =>
      intro i ρ h e q
      rw [List.range'_succ, List.map_cons]
      exact ⟨trivial, step i ρ h _ (by omega) q fun ρ' h' q' => ih (i + 1) ρ' h' (by omega) q'⟩
  have := key n 0 ρ h (by omega) i0
  unfold rngD
  rw [List.range_eq_range']
  exact this
def c_choose : CB :=
  .cons (.set 2 (.int 1))
  (.cons (.loop (.name 3) (.rng1 (.var 1)) (.cons (.set 2 (.bin .FloorDiv (.bin .Mult (.var 2) (.bin .Sub (.var 0) (.var 3))) (.bin .Add (.var 3) (.int 1)))) .nil))
  (.cons (.ret (.var 2)) .nil))
def c__law_choose : CB :=
  .cons (.set 2 (.int 1))
  (.cons (.loop (.name 3) (.rng1 (.var 1)) (.cons (.set 2 (.bin .FloorDiv (.blt .int (.cons (.bin .Mult (.var 2) (.bin .Sub (.var 0) (.var 3))) .nil)) (.bin .Add (.var 3) (.int 1)))) .nil))
  (.cons (.ret (.var 2)) .nil))
def spChoose : DSp := fun as h Q => ∃ n k : Nat, as = [.int n, .int k] ∧ n < 2 ^ 62 ∧ k < 2 ^ 62 ∧ Q (.int (bn n k)) h
theorem b_choose (as : List D) (h : DH) (Q : WK) (s : spChoose as h Q) : wpB ⟨[], []⟩ c_choose (dstart 4 as) h { nx := fun _ h' => Ret Q .non h', rt := Ret Q } := by
  obtain ⟨n, k, rfl, h1, h2, q⟩ := s
  unfold c_choose
  exists wpB
  refine ⟨⟨by omega, by omega⟩, ?_⟩
  refine loopW_rng (fun i ρ h' => h' = h ∧ ∃ o, ρ = [some (.int n), some (.int k), some (.int (bn n i)), o]) ?_ ?_ ⟨rfl, none, by rw [bn_zero]; rfl⟩
  · rintro ρ h' ⟨rfl, o, rfl⟩
    exists Int.toNat_natCast
    exact ret_here q
  · rintro i ρ h' N hi ⟨rfl, o, rfl⟩ next
    rw [Int.toNat_natCast] at hi
    exists Int.zero_add
    refine ⟨.inl (.inr ⟨by omega, by omega⟩), ⟨by omega, by omega⟩, ?_⟩
    rw [bn_div]
    exact next _ _ ⟨rfl, _, rfl⟩
theorem b__law_choose (as : List D) (h : DH) (Q : WK) (s : spChoose as h Q) : wpB ⟨[], []⟩ c__law_choose (dstart 4 as) h { nx := fun _ h' => Ret Q .non h', rt := Ret Q } := by
  obtain ⟨n, k, rfl, h1, h2, q⟩ := s
  unfold c__law_choose
  exists wpB
  refine ⟨⟨by omega, by omega⟩, ?_⟩
  refine loopW_rng (fun i ρ h' => h' = h ∧ ∃ o, ρ = [some (.int n), some (.int k), some (.int (bn n i)), o]) ?_ ?_ ⟨rfl, none, by rw [bn_zero]; rfl⟩
  · rintro ρ h' ⟨rfl, o, rfl⟩
    exists Int.toNat_natCast
    exact ret_here q
  · rintro i ρ h' N hi ⟨rfl, o, rfl⟩ next
    rw [Int.toNat_natCast] at hi
    exists Int.zero_add
    refine ⟨.inl (.inr ⟨by omega, by omega⟩), ⟨by omega, by omega⟩, ?_⟩
    rw [bn_div]
    exact next _ _ ⟨rfl, _, rfl⟩
def c_greatest : CB :=
  .cons (.ret (.call 0 (.cons (.bin .Add (.var 0) (.var 1)) (.cons (.var 0) .nil)))) .nil
/-- greatest(room, rounds) -/
def spGreatest : DSp := fun as h Q => ∃ m r : Nat, as = [.int m, .int r] ∧ m < 2 ^ 61 ∧ r < 2 ^ 61 ∧ Q (.int (bn (m + r) m)) h
theorem b_greatest (as : List D) (h : DH) (Q : WK) (s : spGreatest as h Q) : wpB ⟨[], [spChoose]⟩ c_greatest (dstart 2 as) h { nx := fun _ h' => Ret Q .non h', rt := Ret Q } := by
  obtain ⟨m, r, rfl, h1, h2, q⟩ := s
  unfold c_greatest
  exists wpB
  exact ⟨m + r, m, by simp, by omega, by omega, ret_here q⟩
def c_rounds_for : CB :=
  .cons (.par [2, 3] (.cons (.int 0) (.cons (.var 0) .nil)))
  (.cons (.whl (.cmp .Lt (.var 2) (.var 3)) (.cons (.set 4 (.bin .FloorDiv (.bin .Add (.var 2) (.var 3)) (.int 2)))
    (.cons (.ite (.cmp .GtE (.call 0 (.cons (.var 1) (.cons (.var 4) .nil))) (.var 0)) (.cons (.set 3 (.var 4)) .nil) (.cons (.set 2 (.bin .Add (.var 4) (.int 1))) .nil)) .nil)))
  (.cons (.ret (.var 2)) .nil))
/-- the least number of rounds with which s steps are gone in the room m -/
structure Rounds (s m r : Nat) : Prop where
  le : r ≤ s
  ok : s ≤ bn (m + r) m
  least : ∀ t, t < r → bn (m + t) m < s
def spRounds : DSp := fun as h Q => ∃ s m : Nat, as = [.int s, .int m] ∧ 1 ≤ m ∧ m < 2 ^ 60 ∧ s < 2 ^ 60 ∧ ∀ r : Nat, Rounds s m r → Q (.int r) h
theorem bn_room {m r : Nat} (hm : 1 ≤ m) : r + 1 ≤ bn (m + r) m := by
  induction r with
  | zero => have := bn_pos (n := m + 0) (k := m) (by omega); omega
  | succ r ih =>
    obtain ⟨k, rfl⟩ : ∃ k, m = k + 1 := ⟨m - 1, by omega⟩
    rw [show k + 1 + (r + 1) = (k + 1 + r) + 1 by omega, bn_succ]
    have := bn_pos (n := k + 1 + r) (k := k) (by omega)
    omega
def I_rounds (s m : Nat) (h : DH) (n : Nat) (ρ : DEnv) (h' : DH) : Prop := h' = h ∧ ∃ (lo hi : Nat) (o : Option D), ρ = [some (.int s), some (.int m), some (.int lo), some (.int hi), o] ∧ lo ≤ hi ∧ hi ≤ s ∧ s ≤ bn (m + hi) m ∧ (∀ t, t < lo → bn (m + t) m < s) ∧ n = hi - lo
theorem b_rounds_for (as : List D) (h : DH) (Q : WK) (s : spRounds as h Q) : wpB ⟨[], [spGreatest]⟩ c_rounds_for (dstart 5 as) h { nx := fun _ h' => Ret Q .non h', rt := Ret Q } := by
  obtain ⟨s, m, rfl, m1, m2, s2, q⟩ := s
  unfold c_rounds_for
  exists wpB
  refine ⟨I_rounds s m h,
    ⟨s, rfl, 0, s, none, rfl, by omega, by omega, by have := bn_room (r := s) m1; omega, fun t z => by omega, by omega⟩, ?_⟩
  rintro n ρ h' ⟨rfl, lo, hi, o, rfl, a1, a2, a3, a4, rfl⟩
  exists wpB
  by_cases c : lo < hi
  · exists decide_eq_true (show (lo : Int) < hi by omega)
    refine ⟨by decide, ?_⟩
    have e : ((lo : Int) + hi) / 2 = ((lo + hi) / 2 : Nat) := by omega
    rw [e]
    generalize hmid : (lo + hi) / 2 = mid
    refine ⟨m, mid, rfl, by omega, by omega, ?_⟩
    exists wpB
    by_cases d : s ≤ bn (m + mid) m
    · exists decide_eq_true (show (s : Int) ≤ (bn (m + mid) m : Nat) by omega)
      exact ⟨mid - lo, by omega, rfl, lo, mid, _, rfl, by omega, by omega, d, a4, rfl⟩
    · exists decide_eq_false (show ¬ (s : Int) ≤ (bn (m + mid) m : Nat) by omega)
      exact ⟨hi - (mid + 1), by omega, rfl, mid + 1, hi, _, rfl, by omega, by omega, a3, fun t ht => Nat.lt_of_le_of_lt (bn_mono (show m + t ≤ m + mid by omega)) (by omega), rfl⟩
  · exists decide_eq_false (show ¬ (lo : Int) < hi by omega)
    have : lo = hi := by omega
    subst this
    exact ret_here (q lo ⟨a2, a3, a4⟩)
/-! ### repr -/
theorem shows_rp {x : D} {d : PyData} {h : DH} {Q : WK} (s : Shows h x d) (q : Q (.str d.shown) h) : fBlt .repr [x] h Q := ⟨d, .inl s, q⟩
theorem rp_int {i : Int} {h : DH} {Q : WK} (s : i.natAbs.log2 < 1920) (q : Q (.str (PyData.int i).shown) h) : fBlt .repr [.int i] h Q :=
  shows_rp ⟨0, rfl, decide_eq_true s, by simp only [PyData.depth]; decide, by
    have := int_text_len_1921 s
    simp only [PyData.shown]
    omega⟩ q
theorem len_pick : ∀ ds h Q, spPick ds h Q → ds.length = 2 := fun _ _ _ ⟨_, _, _, e, _⟩ => by rw [e]; rfl
theorem len_is_int : ∀ ds h Q, spIsInt ds h Q → ds.length = 3 := fun _ _ _ ⟨_, _, _, e, _⟩ => by rw [e]; rfl
theorem len_choose : ∀ ds h Q, spChoose ds h Q → ds.length = 2 := fun _ _ _ ⟨_, _, e, _⟩ => by rw [e]; rfl
theorem len_greatest : ∀ ds h Q, spGreatest ds h Q → ds.length = 2 := fun _ _ _ ⟨_, _, e, _⟩ => by rw [e]; rfl
theorem len_rounds : ∀ ds h Q, spRounds ds h Q → ds.length = 2 := fun _ _ _ ⟨_, _, e, _⟩ => by rw [e]; rfl
end DL

set_option Elab.async false
set_option linter.all false
set_option maxRecDepth 100000
set_option maxHeartbeats 4000000
/-! DA1: standings, acts. -/
namespace DL
open PySem PySem.Spec PyProof.Rows L2
local macro_rules | `(tactic| exists $es,*) => `(tactic| (first | simp only [$[$es:term],*, wpB, wpS, wpE, wpL, wpO, wpC, wpI, dstart, List.map_cons, List.map_nil, List.length_cons, List.length_nil, List.replicate, List.cons_append, List.nil_append, List.set, slot0, slotS, nthW, Nat.zero_add, Nat.reduceAdd, Nat.reduceSub,
  bin_add, bin_sub, bin_mul, bin_div, bin_mod, bin_pow, fIx_tup, fIx_ref, fAdd_int, fAdd_str, fAdd_tup, fAdd_ref, fSub_int, fMul_int, fMul_tup, fDiv_int, fMod_int, fPow_int, cmp_eq, cmp_ne, cmp_lt, cmp_le, cmp_gt, cmp_ge, cmp_is, cmp_isn, cmp_in, cmp_nin, eqW_ii, eqW_ss, boolW_bl, intW_int, iteW_t, iteW_f,
  blt_len_str, blt_len_tup, blt_len_ref, blt_tuple_tup, blt_tuple_ref, blt_list_tup, blt_list_ref, br_sum, br_sumt, br_min1, br_max1, br_all, br_any, br_min2, br_max2, br_abs1, br_int1, fSet_ref, mt_append, mt_pop, mt_popAt, mt_extend, fSl_tup, fSl_ref, fSl_scr, tgtW_n, tgtW_t, setAll, seqW_tup, seqW_ref, isRcv, lstOf_is, exists_eq', exists_eq, true_and, and_true, atI0, atI1, atI2,
  Option.some.injEq, DO.lst.injEq, exists_eq_left', exists_eq_left, exists_const, decide_true, decide_false, Bool.not_true, Bool.not_false, dupd_same, dupd_ne, ne_eq, not_false_eq_true, isiB_int, isiB_bl, isiB_str, isiB_tup, isiB_non, beq_self_eq_true, Bool.true_or, Bool.or_true, Bool.false_or, Bool.or_false, tn_int_bool, tn_int_str, tn_int_tuple, tn_int_list, tn_bool_int, tn_bool_str, tn_bool_tuple, tn_bool_list, tn_str_int, tn_str_bool, tn_str_tuple, tn_str_list, tn_tuple_int, tn_tuple_bool, tn_tuple_str, tn_tuple_list, tn_list_int, tn_list_bool, tn_list_str, tn_list_tuple] | dsimp only | skip))
/-! ### the model -/
structure Sta where
  hand : Nat
  left : Nat
  pl : List (Option Nat)
inductive Act where
  | go | back | keep (p : Nat) | take (p : Nat)
  deriving DecidableEq
def optD : Option Nat → D
  | none => .non
  | some n => .int n
def staD (s : Sta) : D := .tup [.int s.hand, .int s.left, .tup (s.pl.map optD)]
def actD : Act → D
  | .go => .str "go"
  | .back => .str "back"
  | .keep p => .tup [.str "keep", .int p]
  | .take p => .tup [.str "take", .int p]
/-- the places that an act names stand -/
def fits (m : Nat) : Act → Prop
  | .keep p => p < m
  | .take p => p < m
  | _ => True
def may (s : Sta) : Act → Bool
  | .go => decide (s.hand + 1 < s.left)
  | .back => decide (s.hand + 1 = s.left)
  | .keep _ => true
  | .take p => (s.pl[p]?.bind id).isSome
def beh (s : Sta) : Act → Sta
  | .go => ⟨s.hand + 1, s.left, s.pl⟩
  | .back => ⟨s.hand, s.left - 1, s.pl⟩
  | .keep p => ⟨s.hand, s.left, s.pl.set p (some s.hand)⟩
  | .take p => ⟨(s.pl[p]?.bind id).getD 0, s.left, s.pl⟩
def sta0 (many room : Nat) : Sta := ⟨0, many, List.replicate room none⟩
theorem ok_go : PyData.strOk ("go" : Str) = true := by decide +kernel
theorem ok_back : PyData.strOk ("back" : Str) = true := by decide +kernel
theorem ok_keep : PyData.strOk ("keep" : Str) = true := by decide +kernel
theorem ok_take : PyData.strOk ("take" : Str) = true := by decide +kernel
theorem shaped_act (a : Act) : SeqAt.shaped (py (actD a)) = true := by
  cases a <;> simp [SeqAt.shaped, py, pys, actD, PyData.canLay0, PyData.canLayAll0, PyData.depth, PyData.depthAll, ok_go, ok_back, ok_keep, ok_take]
theorem pure_act (a : Act) : pure? (actD a) = true := by cases a <;> rfl
theorem eqv_str {a b : Str} : PyData.eqv (.str a) (.str b) = (a == b) := by rw [PyData.eqv]
theorem eqv_tup_str {a : List PyData} {b : Str} : PyData.eqv (.tuple a) (.str b) = false := by rw [PyData.eqv]
theorem eqv_str_tup {a : List PyData} {b : Str} : PyData.eqv (.str b) (.tuple a) = false := by rw [PyData.eqv]
/-- an act is compared with a word -/
theorem eqW_act {a : Act} {z : Str} {h : DH} {Q : Bool → Prop} (hz : PyData.strOk z = true) (q : Q (match a with | .go => decide (("go" : Str) = z) | .back => decide (("back" : Str) = z) | _ => false)) : eqW (actD a) (.str z) h Q := by
  refine eqW_pure (pure_act a) rfl (shaped_act a) (by simp [SeqAt.shaped, py, PyData.canLay0, PyData.depth, hz]) ?_
  cases a with
  | go => simp only [actD, py, eqv_str]; rw [Bool.beq_eq_decide_eq]; exact q
  | back => simp only [actD, py, eqv_str]; rw [Bool.beq_eq_decide_eq]; exact q
  | keep p => simp only [actD, py, eqv_tup_str]; exact q
  | take p => simp only [actD, py, eqv_tup_str]; exact q
theorem go_go : decide (("go" : Str) = ("go" : Str)) = true := by decide
theorem go_back : decide (("go" : Str) = ("back" : Str)) = false := by decide
theorem back_go : decide (("back" : Str) = ("go" : Str)) = false := by decide
theorem back_back : decide (("back" : Str) = ("back" : Str)) = true := by decide
theorem keep_keep : decide (("keep" : Str) = ("keep" : Str)) = true := by decide
theorem keep_take : decide (("keep" : Str) = ("take" : Str)) = false := by decide
theorem take_keep : decide (("take" : Str) = ("keep" : Str)) = false := by decide
theorem take_take : decide (("take" : Str) = ("take" : Str)) = true := by decide
def c__law_first : CB :=
  .cons (.ret (.tup (.cons (.int 0) (.cons (.blt .len (.cons (.var 0) .nil)) (.cons (.bin .Mult (.tup (.cons .non .nil)) (.var 1)) .nil))))) .nil
def c_is_act : CB :=
  .cons (.ite (.isi (.var 1) .str) (.cons (.ret (.cmp .In (.var 1) (.tup (.cons (.glob 3) (.cons (.glob 2) .nil))))) .nil) (.nil))
  (.cons (.ite (.or (.not (.isi (.var 1) .tuple)) (.or (.cmp .NotEq (.blt .len (.cons (.var 1) .nil)) (.int 2)) (.not (.isi (.ix (.var 1) (.int 0)) .str)))) (.cons (.ret (.bl false)) .nil) (.nil))
  (.cons (.ret (.and (.cmp .In (.ix (.var 1) (.int 0)) (.tup (.cons (.glob 1) (.cons (.glob 0) .nil)))) (.call 0 (.cons (.ix (.var 1) (.int 1)) (.cons (.int 0) (.cons (.bin .Sub (.var 0) (.int 1)) .nil)))))) .nil))
def c_is_possible : CB :=
  .cons (.setT [2, 3, 4] (.var 0))
  (.cons (.ite (.cmp .Eq (.var 1) (.glob 2)) (.cons (.ret (.cmp .Lt (.bin .Add (.var 2) (.int 1)) (.var 3))) .nil) (.nil))
  (.cons (.ite (.cmp .Eq (.var 1) (.glob 1)) (.cons (.ret (.cmp .Eq (.bin .Add (.var 2) (.int 1)) (.var 3))) .nil) (.nil))
  (.cons (.ret (.or (.cmp .Eq (.ix (.var 1) (.int 0)) (.glob 0)) (.cmp .IsNot (.ix (.var 4) (.ix (.var 1) (.int 1))) .non))) .nil)))
def c_behind : CB :=
  .cons (.setT [3, 4, 5] (.var 0))
  (.cons (.ite (.cmp .Eq (.var 1) (.glob 2)) (.cons (.ret (.tup (.cons (.bin .Add (.var 3) (.int 1)) (.cons (.var 4) (.cons (.var 5) .nil))))) .nil) (.nil))
  (.cons (.ite (.cmp .Eq (.var 1) (.glob 1)) (.cons (.ret (.tup (.cons (.var 3) (.cons (.bin .Sub (.var 4) (.int 1)) (.cons (.var 5) .nil))))) .nil) (.nil))
  (.cons (.set 2 (.ix (.var 1) (.int 1)))
  (.cons (.ite (.cmp .Eq (.ix (.var 1) (.int 0)) (.glob 0)) (.cons (.ret (.tup (.cons (.var 3) (.cons (.var 4) (.cons (.bin .Add (.bin .Add (.slice (.var 5) .no (.yes (.var 2))) (.tup (.cons (.var 3) .nil))) (.slice (.var 5) (.yes (.bin .Add (.var 2) (.int 1))) .no)) .nil))))) .nil) (.nil))
  (.cons (.ret (.tup (.cons (.ix (.var 5) (.var 2)) (.cons (.var 4) (.cons (.var 5) .nil))))) .nil)))))
def c_possible : CB :=
  .cons (.set 3 (.bin .Add (.bin .Add (.lst (.cons (.glob 1) (.cons (.glob 0) .nil))) (.lc (.tup (.cons (.glob 2) (.cons (.var 4) .nil))) (.name 4) (.rng1 (.var 1)) [("place", 4)] .no)) (.lc (.tup (.cons (.glob 3) (.cons (.var 4) .nil))) (.name 4) (.rng1 (.var 1)) [("place", 4)] .no)))
  (.cons (.ret (.drop (.blt .tuple (.cons (.lc (.var 5) (.name 5) (.seq (.var 3)) [("act", 5)] (.yes (.call 0 (.cons (.var 2) (.cons (.var 5) .nil))))) .nil)))) .nil)
def c__law_is_act : CB :=
  .cons (.ite (.isi (.var 1) .str) (.cons (.ret (.or (.cmp .Eq (.var 1) (.str "go")) (.cmp .Eq (.var 1) (.str "back")))) .nil) (.nil))
  (.cons (.ite (.or (.not (.isi (.var 1) .tuple)) (.or (.cmp .NotEq (.blt .len (.cons (.var 1) .nil)) (.int 2)) (.not (.isi (.ix (.var 1) (.int 0)) .str)))) (.cons (.ret (.bl false)) .nil) (.nil))
  (.cons (.ret (.and (.cmp .In (.ix (.var 1) (.int 0)) (.lst (.cons (.str "keep") (.cons (.str "take") .nil)))) (.call 0 (.cons (.ix (.var 1) (.int 1)) (.cons (.int 0) (.cons (.bin .Sub (.var 0) (.int 1)) .nil)))))) .nil))
def c__law_may : CB :=
  .cons (.setT [2, 3, 4] (.var 0))
  (.cons (.ite (.or (.cmp .Eq (.var 1) (.str "go")) (.cmp .Eq (.var 1) (.str "back"))) (.cons (.ret (.ite (.cmp .Eq (.var 1) (.str "go")) (.cmp .Lt (.bin .Add (.var 2) (.int 1)) (.var 3)) (.cmp .Eq (.bin .Add (.var 2) (.int 1)) (.var 3)))) .nil) (.nil))
  (.cons (.ret (.or (.cmp .Eq (.ix (.var 1) (.int 0)) (.str "keep")) (.cmp .IsNot (.ix (.var 4) (.ix (.var 1) (.int 1))) .non))) .nil))
def c__law_acts : CB :=
  .cons (.ret (.bin .Add (.bin .Add (.lst (.cons (.str "go") (.cons (.str "back") .nil))) (.lc (.tup (.cons (.str "keep") (.cons (.var 1) .nil))) (.name 1) (.rng1 (.var 0)) [("_law_at", 1)] .no)) (.lc (.tup (.cons (.str "take") (.cons (.var 1) .nil))) (.name 1) (.rng1 (.var 0)) [("_law_at", 1)] .no))) .nil
def c__law_behind : CB :=
  .cons (.setT [2, 3, 4] (.var 0))
  (.cons (.ite (.cmp .Eq (.var 1) (.str "go")) (.cons (.ret (.tup (.cons (.bin .Add (.var 2) (.int 1)) (.cons (.var 3) (.cons (.var 4) .nil))))) .nil) (.nil))
  (.cons (.ite (.cmp .Eq (.var 1) (.str "back")) (.cons (.ret (.tup (.cons (.var 2) (.cons (.bin .Sub (.var 3) (.int 1)) (.cons (.var 4) .nil))))) .nil) (.nil))
  (.cons (.ite (.cmp .Eq (.ix (.var 1) (.int 0)) (.str "take")) (.cons (.ret (.tup (.cons (.ix (.var 4) (.ix (.var 1) (.int 1))) (.cons (.var 3) (.cons (.var 4) .nil))))) .nil) (.nil))
  (.cons (.ret (.tup (.cons (.var 2) (.cons (.var 3) (.cons (.drop (.blt .tuple (.cons (.lc (.ite (.cmp .Eq (.var 5) (.ix (.var 1) (.int 1))) (.var 2) (.var 6)) (.tup [5, 6]) (.enum (.var 4)) [("_law_at", 5), ("_law_moment", 6)] .no) .nil))) .nil))))) .nil))))
/-! ### the defs -/
theorem repl1 {α : Type} (x : α) (n : Nat) : (List.replicate n [x]).flatten = List.replicate n x := by
  induction n with
  | zero => rfl
  | succ n ih => rw [List.replicate_succ, List.flatten_cons, ih, List.replicate_succ]; rfl
theorem sta0_D (many room : Nat) : staD (sta0 many room) = .tup [.int 0, .int many, .tup (List.replicate room .non)] := by
  unfold staD sta0
  simp only [List.map_replicate]
  rfl
def spFirst : DSp := fun as h Q => ∃ (xs : List D) (m : Nat), as = [.tup xs, .int m] ∧ m ≤ 1000 ∧ Q (staD (sta0 xs.length m)) h
theorem len_first : ∀ ds h Q, spFirst ds h Q → ds.length = 2 := fun _ _ _ ⟨_, _, e, _⟩ => by rw [e]; rfl
theorem b_first (as : List D) (h : DH) (Q : WK) (s : spFirst as h Q) : wpB ⟨[], []⟩ c__law_first (dstart 2 as) h { nx := fun _ h' => Ret Q .non h', rt := Ret Q } := by
  obtain ⟨xs, m, rfl, hm, q⟩ := s
  rw [sta0_D] at q
  unfold c__law_first
  exists Int.toNat_natCast, repl1
  exact ⟨by decide, ⟨by omega, by omega, by decide⟩, by decide, ret_here q⟩
/-- is it an act of a room of m places -/
def isActD (m : Int) (x : D) : Bool :=
  match x with
  | .str z => z == "go" || z == "back"
  | .tup [.str z, y] => (z == "keep" || z == "take") && isIntD y 0 (m - 1)
  | _ => false
/-- it may be asked whether it is an act -/
def okAct (x : D) (h : DH) : Prop :=
  match x with
  | .str z => PyData.strOk z = true
  | .tup (y :: r) => okIs y h ∧ (∀ z, y = .str z → PyData.strOk z = true) ∧ ∀ u ∈ r, okIs u h
  | .scr _ => False
  | .exc _ _ _ => False
  | .ref a => okIs (.ref a) h
  | _ => True
theorem okAct.is {x : D} {h : DH} (o : okAct x h) : okIs x h := by
  cases x with
  | scr _ => exact o
  | exc _ _ _ => exact o
  | ref a => exact o
  | _ => exact trivial
def spIsAct : DSp := fun as h Q => ∃ (m : Int) (x : D), as = [.int m, x] ∧ okAct x h ∧ Q (.bl (isActD m x)) h
theorem len_is_act : ∀ ds h Q, spIsAct ds h Q → ds.length = 2 := fun _ _ _ ⟨_, _, e, _⟩ => by rw [e]; rfl
theorem shaped_s {z : Str} (h : PyData.strOk z = true) : SeqAt.shaped (py (.str z)) = true := by simp [SeqAt.shaped, py, PyData.canLay0, PyData.depth, h]
/-- a word among two words -/
theorem inW_ss {z a b : Str} {h : DH} {Q : Bool → Prop} (hz : PyData.strOk z = true) (ha : PyData.strOk a = true) (hb : PyData.strOk b = true) (q : Q (z == a || z == b)) : inW (.str z) (.tup [.str a, .str b]) h Q := by
  refine ⟨0, .str z, [.str a, .str b], rfl, rfl, shaped_s hz, ?_, ?_⟩
  · simp [SeqAt.shaped, PyData.canLay0, PyData.canLayAll0, PyData.depth, PyData.depthAll, ha, hb]
  · simp only [List.any_cons, List.any_nil, eqv_str, Bool.or_false]
    rw [Bool.beq_comm (a := a), Bool.beq_comm (a := b)]
    exact q
theorem inW_sl {z a b : Str} {p : Addr} {h : DH} {Q : Bool → Prop} (hp : h p = some (.lst [.str a, .str b])) (hz : PyData.strOk z = true) (ha : PyData.strOk a = true) (hb : PyData.strOk b = true) (q : Q (z == a || z == b)) : inW (.str z) (.ref p) h Q := by
  refine ⟨_, 0, .str z, [.str a, .str b], hp, rfl, rfl, shaped_s hz, ?_, ?_⟩
  · simp [SeqAt.shaped, PyData.canLay0, PyData.canLayAll0, PyData.depth, PyData.depthAll, ha, hb]
  · simp only [List.any_cons, List.any_nil, eqv_str, Bool.or_false]
    rw [Bool.beq_comm (a := a), Bool.beq_comm (a := b)]
    exact q
theorem b_is_act (as : List D) (h : DH) (Q : WK) (s : spIsAct as h Q) : wpB ⟨[.str "take", .str "keep", .str "back", .str "go"], [spIsInt]⟩ c_is_act (dstart 2 as) h { nx := fun _ h' => Ret Q .non h', rt := Ret Q } := by
  obtain ⟨m, x, rfl, o, q⟩ := s
  unfold c_is_act
  exists wpB
  have no : isActD m x = false → Ret Q (.bl false) h := fun e => by rw [e] at q; exact ret_here q
  refine isi_of o.is ?_
  cases x with
  | str z =>
    exists isiB_str, beq_self_eq_true
    refine ⟨by decide, inW_ss o ok_go ok_back ?_⟩
    exact ret_here q
  | tup xs =>
    exists isiB_tup, show (Tn.str == Tn.tuple) = false from rfl
    refine isi_of trivial ?_
    exists isiB_tup, beq_self_eq_true
    by_cases hl : xs.length = 2
    · obtain ⟨y, u, rfl⟩ : ∃ y u, xs = [y, u] := by
        match xs, hl with
        | [y, u], _ => exact ⟨y, u, rfl⟩
      obtain ⟨o1, o2, o3⟩ := o
      exists decide_eq_true (show ((2 : Nat) : Int) = 2 from rfl)
      refine isi_of o1 ?_
      cases y with
      | str z =>
        exists isiB_str, beq_self_eq_true
        refine ⟨by decide, inW_ss (o2 z rfl) ok_keep ok_take ?_⟩
        cases c : (z == "keep" || z == "take") with
        | false =>
          exists wpB
          exact no (by show ((z == "keep" || z == "take") && _) = false; rw [c]; rfl)
        | true =>
          exists wpB
          refine ⟨u, 0, m - 1, rfl, o3 u List.mem_cons_self, ret_here ?_⟩
          have : isActD m (.tup [.str z, u]) = isIntD u 0 (m - 1) := by show ((z == "keep" || z == "take") && _) = _; rw [c]; rfl
          rw [← this]; exact q
      | ref a =>
        have : isiB .str (.ref a) h = false := by unfold isiB; dsimp only; split <;> rfl
        exists this
        exact no rfl
      | _ => exact no rfl
    · exists decide_eq_false (show ¬ ((xs.length : Nat) : Int) = 2 by omega)
      refine no ?_
      unfold isActD
      split
      · rename_i e; cases e
      · rename_i e; cases e; exact absurd rfl hl
      · rfl
  | ref a =>
    have : isiB .str (.ref a) h = false := by unfold isiB; dsimp only; split <;> rfl
    exists this
    refine isi_of o.is ?_
    have : isiB .tuple (.ref a) h = false := by unfold isiB; dsimp only; split <;> rfl
    exists this
    exact no rfl
  | scr _ => exact o.elim
  | exc _ _ _ => exact o.elim
  | non =>
    exists isiB_non, show (Tn.str == Tn.int || Tn.str == Tn.bool) = false from rfl, show (Tn.str == Tn.int) = false from rfl
    refine isi_of (x := .non) trivial ?_
    exists isiB_non, show (Tn.tuple == Tn.int || Tn.tuple == Tn.bool) = false from rfl, show (Tn.tuple == Tn.int) = false from rfl
    exact no rfl
  | bl b =>
    exists isiB_bl, show (Tn.str == Tn.int || Tn.str == Tn.bool) = false from rfl, show (Tn.str == Tn.int) = false from rfl
    refine isi_of (x := .bl b) trivial ?_
    exists isiB_bl, show (Tn.tuple == Tn.int || Tn.tuple == Tn.bool) = false from rfl, show (Tn.tuple == Tn.int) = false from rfl
    exact no rfl
  | int i =>
    exists isiB_int, show (Tn.str == Tn.int || Tn.str == Tn.bool) = false from rfl, show (Tn.str == Tn.int) = false from rfl
    refine isi_of (x := .int i) trivial ?_
    exists isiB_int, show (Tn.tuple == Tn.int || Tn.tuple == Tn.bool) = false from rfl, show (Tn.tuple == Tn.int) = false from rfl
    exact no rfl
theorem Sub.dupd {g h : DH} {p : Addr} {o : DO} (s : Sub g h) : Sub (dupd g p o) (dupd h p o) := fun a u e => by
  by_cases z : a = p
  · subst z; rw [dupd_same] at e ⊢; exact e
  · rw [dupd_ne z] at e ⊢; exact s a u e
def spMay : DSp := fun as h Q => ∃ (s : Sta) (a : Act), as = [staD s, actD a] ∧ fits s.pl.length a ∧ Q (.bl (may s a)) h
theorem len_may : ∀ ds h Q, spMay ds h Q → ds.length = 2 := fun _ _ _ ⟨_, _, e, _⟩ => by rw [e]; rfl
theorem pl_at {s : Sta} {p : Nat} (hp : p < s.pl.length) : atI (s.pl.map optD) (p : Int) = some (optD (s.pl[p])) := by
  rw [atI_map (by omega) (by omega)]
  simp
theorem isNon_opt {o : Option Nat} : isNon (optD o) = !o.isSome := by cases o <;> rfl
theorem may_take {s : Sta} {p : Nat} (hp : p < s.pl.length) : may s (.take p) = (s.pl[p]).isSome := by
  show (s.pl[p]?.bind id).isSome = _
  rw [List.getElem?_eq_getElem hp]; rfl
theorem b_is_possible (as : List D) (h : DH) (Q : WK) (s : spMay as h Q) : wpB ⟨[.str "keep", .str "back", .str "go"], []⟩ c_is_possible (dstart 5 as) h { nx := fun _ h' => Ret Q .non h', rt := Ret Q } := by
  obtain ⟨s, a, rfl, hf, q⟩ := s
  unfold c_is_possible
  exists staD
  refine eqW_act ok_go ?_
  cases a with
  | go =>
    exists go_go
    have e : decide ((s.hand : Int) + 1 < (s.left : Int)) = may s .go := by unfold may; rw [decide_eq_decide]; omega
    rw [e]; exact ret_here q
  | back =>
    exists back_go
    refine eqW_act ok_back ?_
    exists back_back
    have e : decide ((s.hand : Int) + 1 = (s.left : Int)) = may s .back := by unfold may; rw [decide_eq_decide]; omega
    rw [e]; exact ret_here q
  | keep p =>
    exists actD
    refine eqW_act (a := .keep p) ok_back ?_
    exists actD, keep_keep
    exact ret_here q
  | take p =>
    exists actD
    refine eqW_act (a := .take p) ok_back ?_
    exists actD, take_keep, pl_at hf, isNon_opt, Bool.not_not
    rw [may_take hf] at q
    exact ret_here q
theorem b_law_may (as : List D) (h : DH) (Q : WK) (s : spMay as h Q) : wpB ⟨[], []⟩ c__law_may (dstart 5 as) h { nx := fun _ h' => Ret Q .non h', rt := Ret Q } := by
  obtain ⟨s, a, rfl, hf, q⟩ := s
  unfold c__law_may
  exists staD
  refine eqW_act ok_go ?_
  cases a with
  | go =>
    exists go_go
    refine eqW_act (a := .go) ok_go ?_
    exists go_go
    have e : decide ((s.hand : Int) + 1 < (s.left : Int)) = may s .go := by unfold may; rw [decide_eq_decide]; omega
    rw [e]; exact ret_here q
  | back =>
    exists back_go
    refine eqW_act ok_back ?_
    exists back_back
    refine eqW_act (a := .back) ok_go ?_
    exists back_go
    have e : decide ((s.hand : Int) + 1 = (s.left : Int)) = may s .back := by unfold may; rw [decide_eq_decide]; omega
    rw [e]; exact ret_here q
  | keep p =>
    exists actD
    refine eqW_act (a := .keep p) ok_back ?_
    exists actD, keep_keep
    exact ret_here q
  | take p =>
    exists actD
    refine eqW_act (a := .take p) ok_back ?_
    exists actD, take_keep, pl_at hf, isNon_opt, Bool.not_not
    rw [may_take hf] at q
    exact ret_here q
def spBeh : DSp := fun as h Q => ∃ (s : Sta) (a : Act), as = [staD s, actD a] ∧ fits s.pl.length a ∧ may s a = true ∧ s.pl.length ≤ 1000 ∧ Q (staD (beh s a)) h
theorem len_beh : ∀ ds h Q, spBeh ds h Q → ds.length = 2 := fun _ _ _ ⟨_, _, e, _⟩ => by rw [e]; rfl
theorem keep_pl {α : Type} {xs : List α} {p : Nat} {x : α} (hp : p < xs.length) : xs.take p ++ [x] ++ xs.drop (p + 1) = xs.set p x := by
  rw [List.set_eq_take_append_cons_drop, if_pos hp, List.append_assoc]; rfl
theorem cut_to {xs : List D} {p : Nat} : cutD xs none (some (p : Int)) = xs.take p := by
  unfold cutD
  rw [HT.sIx_nat, HT.sIx_none, List.drop_zero, Nat.sub_zero]
  rcases Nat.le_total p xs.length with h | h
  · rw [Nat.min_eq_left h]
  · rw [Nat.min_eq_right h, List.take_of_length_le (Nat.le_refl _), List.take_of_length_le h]
theorem cut_from {xs : List D} {p : Nat} : cutD xs (some (p : Int)) none = xs.drop p := by
  unfold cutD
  rw [HT.sIx_nat, HT.sIx_none]
  rcases Nat.le_total p xs.length with h | h
  · rw [Nat.min_eq_left h, List.take_of_length_le (by rw [List.length_drop]; exact Nat.le_refl _)]
  · rw [Nat.min_eq_right h, List.drop_of_length_le (Nat.le_refl _), List.drop_of_length_le h, List.take_nil]
theorem take_D {s : Sta} {p : Nat} (hp : p < s.pl.length) (m : may s (.take p) = true) : optD (s.pl[p]) = .int ((s.pl[p]?.bind id).getD 0 : Nat) := by
  rw [may_take hp] at m
  rw [List.getElem?_eq_getElem hp]
  cases e : s.pl[p] with
  | none => rw [e] at m; cases m
  | some v => rfl
theorem b_behind (as : List D) (h : DH) (Q : WK) (s : spBeh as h Q) : wpB ⟨[.str "keep", .str "back", .str "go"], []⟩ c_behind (dstart 6 as) h { nx := fun _ h' => Ret Q .non h', rt := Ret Q } := by
  obtain ⟨s, a, rfl, hf, hm, hl, q⟩ := s
  unfold c_behind
  exists staD
  refine eqW_act ok_go ?_
  cases a with
  | go =>
    exists go_go
    exact ⟨by decide, ret_here (by have := q; unfold beh staD at this; push_cast at this; exact this)⟩
  | back =>
    exists back_go
    refine eqW_act ok_back ?_
    exists back_back
    have h1 : s.hand + 1 = s.left := of_decide_eq_true hm
    have e : ((s.left - 1 : Nat) : Int) = (s.left : Int) - 1 := by omega
    exact ⟨by decide, ret_here (by have := q; unfold beh staD at this; rw [e] at this; exact this)⟩
  | keep p =>
    exists actD
    refine eqW_act (a := .keep p) ok_back ?_
    have hp : p < s.pl.length := hf
    exists actD, keep_keep, cut_to, show ((p : Int) + 1) = ((p + 1 : Nat) : Int) by push_cast; rfl, cut_from, List.length_append, List.length_take, List.length_drop, List.length_map
    refine ⟨by decide, by omega, by omega, by decide, ret_here ?_⟩
    have := q
    unfold beh staD at this
    rw [keep_pl (by rw [List.length_map]; exact hp)]
    rw [List.map_set] at this
    exact this
  | take p =>
    have hp : p < s.pl.length := hf
    exists actD
    refine eqW_act (a := .take p) ok_back ?_
    exists actD, take_keep, pl_at hp
    refine ⟨by decide, ret_here ?_⟩
    rw [take_D hp hm]
    exact q
theorem enumD_map {l : List D} : ∀ {k : Nat}, enumD k l = (List.range l.length).map fun i => D.tup [.int ((k + i : Nat) : Int), l[i]?.getD .non] := by
  induction l with
  | nil => intro k; rfl
  | cons x xs ih =>
    intro k
    unfold enumD
    rw [ih, List.length_cons, List.range_succ_eq_map, List.map_cons, List.map_map]
    simp only [Nat.add_zero, List.getElem?_cons_zero, Option.getD_some]
    congr 1
    apply List.map_congr_left
    intro i _
    simp only [Function.comp, List.getElem?_cons_succ, Nat.succ_eq_add_one]
    rw [show k + 1 + i = k + (i + 1) by omega]
theorem enum_set {l : List D} {p : Nat} {x : D} : (List.range l.length).map (fun i => if i = p then x else l[i]?.getD .non) = l.set p x := by
  apply List.ext_getElem
  · simp
  · intro i h1 h2
    simp only [List.getElem_map, List.getElem_range, List.getElem_set]
    have hi : i < l.length := by simpa using h1
    by_cases e : p = i
    · subst e; simp
    · rw [if_neg e, if_neg (Ne.symm e), List.getElem?_eq_getElem hi]; rfl
theorem b_law_behind (as : List D) (h : DH) (Q : WK) (s : spBeh as h Q) : wpB ⟨[], []⟩ c__law_behind (dstart 7 as) h { nx := fun _ h' => Ret Q .non h', rt := Ret Q } := by
  obtain ⟨s, a, rfl, hf, hm, hl, q⟩ := s
  unfold c__law_behind
  exists staD
  refine eqW_act ok_go ?_
  cases a with
  | go =>
    exists go_go
    exact ⟨by decide, ret_here (by have := q; unfold beh staD at this; push_cast at this; exact this)⟩
  | back =>
    exists back_go
    refine eqW_act ok_back ?_
    exists back_back
    have h1 : s.hand + 1 = s.left := of_decide_eq_true hm
    have e : ((s.left - 1 : Nat) : Int) = (s.left : Int) - 1 := by omega
    exact ⟨by decide, ret_here (by have := q; unfold beh staD at this; rw [e] at this; exact this)⟩
  | keep p =>
    exists actD
    refine eqW_act (a := .keep p) ok_back ?_
    have hp : p < s.pl.length := hf
    exists actD, keep_take, enumD_map, Nat.zero_add, dwipe, List.length_map, List.length_range
    refine ⟨by omega, ?_⟩
    refine lcM (fun i => if i = p then D.int s.hand else (s.pl.map optD)[i]?.getD .non) True.intro (fun i hi R r => ?_) ?_
    · exists wpB
      by_cases c : i = p
      · rw [if_pos c] at r
        exists decide_eq_true (show (i : Int) = (p : Int) by omega)
        exact r
      · rw [if_neg c] at r
        exists decide_eq_false (show ¬ (i : Int) = (p : Int) by omega)
        exact r
    · intro p1 hp1
      have e := enum_set (l := s.pl.map optD) (p := p) (x := D.int s.hand)
      rw [List.length_map] at e
      rw [e]
      exists wpB
      refine ret_sub ((Sub.refl h).new hp1) ⟨by decide, ret_here ?_⟩
      have := q
      unfold beh staD at this
      rw [List.map_set] at this
      exact this
  | take p =>
    have hp : p < s.pl.length := hf
    exists actD
    refine eqW_act (a := .take p) ok_back ?_
    exists actD, take_take, pl_at hp
    refine ⟨by decide, ret_here ?_⟩
    rw [take_D hp hm]
    exact q
def actsOf (m : Nat) : List Act := [.go, .back] ++ (List.range m).map Act.keep ++ (List.range m).map Act.take
theorem acts_fit {m : Nat} : ∀ a ∈ actsOf m, fits m a := by
  intro a ha
  unfold actsOf at ha
  simp only [List.mem_append, List.mem_cons, List.not_mem_nil, or_false, List.mem_map, List.mem_range] at ha
  rcases ha with ((rfl | rfl) | ⟨p, hp, rfl⟩) | ⟨p, hp, rfl⟩
  · exact True.intro
  · exact True.intro
  · exact hp
  · exact hp
theorem actsOf_len {m : Nat} : (actsOf m).length = 2 + m + m := by simp [actsOf]; omega
def spActs : DSp := fun as h Q => ∃ m : Nat, as = [.int m] ∧ m ≤ 1000 ∧ ∀ p, h p = none → Q (.ref p) (dupd h p (.lst ((actsOf m).map actD)))
theorem len_acts : ∀ ds h Q, spActs ds h Q → ds.length = 1 := fun _ _ _ ⟨_, e, _⟩ => by rw [e]; rfl
theorem rngD_cast {n : Nat} : rngD 0 n = (List.range n).map fun k => D.int (k : Nat) := by
  unfold rngD
  apply List.map_congr_left
  intro k _
  rw [Int.zero_add]
theorem b_law_acts (as : List D) (h : DH) (Q : WK) (s : spActs as h Q) : wpB ⟨[], []⟩ c__law_acts (dstart 2 as) h { nx := fun _ h' => Ret Q .non h', rt := Ret Q } := by
  obtain ⟨m, rfl, hm, q⟩ := s
  unfold c__law_acts
  exists dwipe, Int.toNat_natCast, rngD_cast
  refine ⟨by decide, fun p0 hp0 => ⟨⟨by omega, by omega⟩, by rw [List.length_map, List.length_range]; omega, ?_⟩⟩
  refine lcM (fun k => actD (.keep k)) True.intro (fun k _ R r => by exists r; first | exact ⟨by decide, r⟩ | decide) ?_
  intro p1 hp1
  have n1 := dupd_none.mp hp1
  exists n1.1.symm, List.length_map, List.length_range
  refine ⟨by omega, fun p2 hp2 => ⟨⟨by omega, by omega⟩, by omega, ?_⟩⟩
  refine lcM (fun k => actD (.take k)) True.intro (fun k _ R r => by exists r; first | exact ⟨by decide, r⟩ | decide) ?_
  intro p3 hp3
  have n3 := dupd_none.mp hp3
  exists n3.1.symm, List.length_map, List.length_range
  refine ⟨by omega, fun p4 hp4 => ?_⟩
  have n2 := dupd_none.mp hp2
  have m4 := dupd_none.mp hp4
  have m5 := dupd_none.mp m4.2
  have m6 := dupd_none.mp m5.2
  have m7 := dupd_none.mp m6.2
  refine ret_sub (g := dupd h p4 (.lst ((actsOf m).map actD))) ?_ (q p4 m7.2)
  have e : (actsOf m).map actD = [D.str "go", D.str "back"] ++ (List.range m).map (fun k => actD (.keep k)) ++ (List.range m).map (fun k => actD (.take k)) := by
    unfold actsOf
    simp only [List.map_append, List.map_map]
    rfl
  rw [e]
  exact (((((Sub.refl h).new hp0).new hp1).new hp2).new hp3).dupd
theorem fm_filter {l : List Act} {P : Act → Bool} : l.filterMap (fun a => if P a = true then some (actD a) else none) = (l.filter P).map actD := by
  induction l with
  | nil => rfl
  | cons a l ih =>
    cases e : P a
    · simp [List.filterMap_cons, List.filter_cons, e, ih]
    · simp [List.filterMap_cons, List.filter_cons, e, ih]
def spPossible : DSp := fun as h Q => ∃ (c : D) (m : Nat) (s : Sta), as = [c, .int m, staD s] ∧ m ≤ 1000 ∧ s.pl.length = m ∧ Q (.tup (((actsOf m).filter (may s)).map actD)) h
theorem len_possible : ∀ ds h Q, spPossible ds h Q → ds.length = 3 := fun _ _ _ ⟨_, _, _, e, _⟩ => by rw [e]; rfl
theorem b_possible (as : List D) (h : DH) (Q : WK) (s : spPossible as h Q) : wpB ⟨[.str "back", .str "go", .str "keep", .str "take"], [spMay]⟩ c_possible (dstart 6 as) h { nx := fun _ h' => Ret Q .non h', rt := Ret Q } := by
  obtain ⟨c, m, s, rfl, hm, hl, q⟩ := s
  unfold c_possible
  exists dwipe, Int.toNat_natCast, rngD_cast
  refine ⟨by decide, fun p0 hp0 => ⟨⟨by omega, by omega⟩, by rw [List.length_map, List.length_range]; omega, ?_⟩⟩
  refine lcM (fun k => actD (.keep k)) True.intro (fun k _ R r => by exists r; first | exact ⟨by decide, r⟩ | decide) ?_
  intro p1 hp1
  have n1 := dupd_none.mp hp1
  exists n1.1.symm, List.length_map, List.length_range
  refine ⟨by omega, fun p2 hp2 => ⟨⟨by omega, by omega⟩, by omega, ?_⟩⟩
  refine lcM (fun k => actD (.take k)) True.intro (fun k _ R r => by exists r; first | exact ⟨by decide, r⟩ | decide) ?_
  intro p3 hp3
  have n3 := dupd_none.mp hp3
  exists n3.1.symm, List.length_map, List.length_range
  refine ⟨by omega, fun p4 hp4 => ?_⟩
  have e : D.str "go" :: D.str "back" :: ((List.range m).map (fun k => actD (.keep k)) ++ (List.range m).map (fun k => actD (.take k))) = (actsOf m).map actD := by
    unfold actsOf
    simp only [List.map_append, List.map_map]
    rfl
  exists e, dwipe, List.length_map, actsOf_len, List.length_append, List.length_range
  refine ⟨by omega, ?_⟩
  refine lcF (fun a => if may s a = true then some (actD a) else none) dupd_same (fun a ha R r => ?_) ?_
  · exists wpB
    refine ⟨s, a, rfl, by rw [hl]; exact acts_fit a ha, ?_⟩
    cases e : may s a with
    | true =>
      rw [e, if_pos rfl] at r
      exists wpB
      exact r
    | false =>
      rw [e, if_neg Bool.false_ne_true] at r
      exists wpB
      exact r
  · intro p5 hp5
    exists fm_filter
    exact ret_sub (((((((Sub.refl h).new hp0).new hp1).new hp2).new hp3).new hp4).new hp5) (ret_here q)
theorem b_law_is_act (as : List D) (h : DH) (Q : WK) (s : spIsAct as h Q) : wpB ⟨[], [spIsInt]⟩ c__law_is_act (dstart 2 as) h { nx := fun _ h' => Ret Q .non h', rt := Ret Q } := by
  obtain ⟨m, x, rfl, o, q⟩ := s
  unfold c__law_is_act
  exists wpB
  have no : isActD m x = false → Ret Q (.bl false) h := fun e => by rw [e] at q; exact ret_here q
  refine isi_of o.is ?_
  cases x with
  | str z =>
    exists wpB
    have e : isActD m (.str z) = (decide (z = "go") || decide (z = "back")) := by
      show (z == "go" || z == "back") = _
      rw [Bool.beq_eq_decide_eq, Bool.beq_eq_decide_eq]
    rw [e] at q
    cases c : decide (z = ("go" : Str)) with
    | true =>
      rw [c] at q
      exists wpB
      exact ret_here q
    | false =>
      rw [c] at q
      exists wpB
      exact ret_here q
  | tup xs =>
    exists wpB
    refine isi_of trivial ?_
    exists wpB
    by_cases hl : xs.length = 2
    · obtain ⟨y, u, rfl⟩ : ∃ y u, xs = [y, u] := by
        match xs, hl with
        | [y, u], _ => exact ⟨y, u, rfl⟩
      obtain ⟨o1, o2, o3⟩ := o
      exists decide_eq_true (show ((2 : Nat) : Int) = 2 from rfl)
      refine isi_of o1 ?_
      cases y with
      | str z =>
        exists wpB
        refine ⟨by decide, fun p hp => inW_sl dupd_same (o2 z rfl) ok_keep ok_take ?_⟩
        cases c : (z == "keep" || z == "take") with
        | false =>
          exists wpB
          have : isActD m (.tup [.str z, u]) = false := by show ((z == "keep" || z == "take") && _) = false; rw [c]; rfl
          rw [this] at q
          exact ret_sub ((Sub.refl h).new hp) q
        | true =>
          exists wpB
          have : isActD m (.tup [.str z, u]) = isIntD u 0 (m - 1) := by show ((z == "keep" || z == "take") && _) = _; rw [c]; rfl
          rw [this] at q
          refine ⟨u, 0, m - 1, rfl, ?_, ret_sub ((Sub.refl h).new hp) q⟩
          have o3 := o3 u List.mem_cons_self
          cases u with
          | ref a =>
            obtain ⟨xs, o3⟩ := o3
            refine ⟨xs, ?_⟩
            have ne : h a ≠ none := by rcases o3 with o3 | ⟨k, o3⟩ | ⟨k, o3⟩ <;> rw [o3] <;> exact fun z => nomatch z
            rw [dupd_ne (fun z => ne (by rw [z]; exact hp))]
            exact o3
          | _ => exact o3
      | ref a =>
        have : isiB .str (.ref a) h = false := by unfold isiB; dsimp only; split <;> rfl
        exists this
        exact no rfl
      | _ => exact no rfl
    · exists decide_eq_false (show ¬ ((xs.length : Nat) : Int) = 2 by omega)
      refine no ?_
      unfold isActD
      split
      · rename_i e; cases e
      · rename_i e; cases e; exact absurd rfl hl
      · rfl
  | ref a =>
    have : isiB .str (.ref a) h = false := by unfold isiB; dsimp only; split <;> rfl
    exists this
    refine isi_of o.is ?_
    have : isiB .tuple (.ref a) h = false := by unfold isiB; dsimp only; split <;> rfl
    exists this
    exact no rfl
  | scr _ => exact o.elim
  | exc _ _ _ => exact o.elim
  | non =>
    exists wpB
    refine isi_of (x := .non) trivial ?_
    exists wpB
    exact no rfl
  | bl b =>
    exists wpB
    refine isi_of (x := .bl b) trivial ?_
    exists wpB
    exact no rfl
  | int i =>
    exists wpB
    refine isi_of (x := .int i) trivial ?_
    exists wpB
    exact no rfl
end DL

set_option Elab.async false
set_option linter.all false
set_option maxRecDepth 100000
set_option maxHeartbeats 4000000
/-! DA2: runs of costs, odd things, repr. -/
namespace DL
open PySem PySem.Spec PyProof.Rows L2
local macro_rules | `(tactic| exists $es,*) => `(tactic| (first | simp only [$[$es:term],*, wpB, wpS, wpE, wpL, wpO, wpC, wpI, dstart, List.map_cons, List.map_nil, List.length_cons, List.length_nil, List.replicate, List.cons_append, List.nil_append, List.set, slot0, slotS, nthW, Nat.zero_add, Nat.reduceAdd, Nat.reduceSub,
  bin_add, bin_sub, bin_mul, bin_div, bin_mod, bin_pow, fIx_tup, fIx_ref, fAdd_int, fAdd_str, fAdd_tup, fAdd_ref, fSub_int, fMul_int, fMul_tup, fDiv_int, fMod_int, fPow_int, cmp_eq, cmp_ne, cmp_lt, cmp_le, cmp_gt, cmp_ge, cmp_is, cmp_isn, cmp_in, cmp_nin, eqW_ii, eqW_ss, boolW_bl, intW_int, iteW_t, iteW_f,
  blt_len_str, blt_len_tup, blt_len_ref, blt_tuple_tup, blt_tuple_ref, blt_list_tup, blt_list_ref, br_sum, br_sumt, br_min1, br_max1, br_all, br_any, br_min2, br_max2, br_abs1, br_int1, fSet_ref, mt_append, mt_pop, mt_popAt, mt_extend, fSl_tup, fSl_ref, fSl_scr, tgtW_n, tgtW_t, setAll, seqW_tup, seqW_ref, isRcv, lstOf_is, exists_eq', exists_eq, true_and, and_true, atI0, atI1, atI2,
  Option.some.injEq, DO.lst.injEq, exists_eq_left', exists_eq_left, exists_const, decide_true, decide_false, Bool.not_true, Bool.not_false, dupd_same, dupd_ne, ne_eq, not_false_eq_true, isiB_int, isiB_bl, isiB_str, isiB_tup, isiB_non, beq_self_eq_true, Bool.true_or, Bool.or_true, Bool.false_or, Bool.or_false, tn_int_bool, tn_int_str, tn_int_tuple, tn_int_list, tn_bool_int, tn_bool_str, tn_bool_tuple, tn_bool_list, tn_str_int, tn_str_bool, tn_str_tuple, tn_str_list, tn_tuple_int, tn_tuple_bool, tn_tuple_str, tn_tuple_list, tn_list_int, tn_list_bool, tn_list_str, tn_list_tuple] | dsimp only | skip))
theorem Sub.trans {a b c : DH} (x : Sub a b) (y : Sub b c) : Sub a c := fun p o e => y p o (x p o e)
theorem lcW_run {turn : D → DH → (Option D → DH → Prop) → Prop} {g : DH → Prop} (I : List D → DH → Prop) : ∀ {xs : List D} {acc : List D} {h : DH} {Q : List D → DH → Prop}, I acc h → (∀ x ∈ xs, ∀ ys h R, I ys h → (∀ o h', I (ys ++ Option.toList o) h' → R o h') → g h ∧ turn x h R) → (∀ ys h, I (acc ++ ys) h → g h ∧ Q ys h) → lcW turn g xs h Q
  | [], acc, h, Q, i, _, q => q [] h (by rw [List.append_nil]; exact i)
  | x :: xs, acc, h, Q, i, t, q => by
    obtain ⟨a, b⟩ := t x List.mem_cons_self acc h (fun o h' => lcW turn g xs h' fun ys h2 => Q (o.toList ++ ys) h2) i fun o h' i' =>
      lcW_run I i' (fun y hy => t y (List.mem_cons_of_mem _ hy)) fun ys h2 i2 => q (o.toList ++ ys) h2 (by rw [← List.append_assoc]; exact i2)
    exact ⟨a, b⟩
theorem lcW_run2 {turn : D → DH → (Option D → DH → Prop) → Prop} {g : DH → Prop} (I : List D → List D → DH → Prop) : ∀ {xs : List D} {acc : List D} {h : DH} {Q : List D → DH → Prop}, I xs acc h → (∀ x xs ys h R, I (x :: xs) ys h → (∀ o h', I xs (ys ++ Option.toList o) h' → R o h') → g h ∧ turn x h R) → (∀ ys h, I [] (acc ++ ys) h → g h ∧ Q ys h) → lcW turn g xs h Q
  | [], acc, h, Q, i, _, q => q [] h (by rw [List.append_nil]; exact i)
  | x :: xs, acc, h, Q, i, t, q => t x xs acc h (fun o h' => lcW turn g xs h' fun ys h2 => Q (o.toList ++ ys) h2) i fun o h' i' =>
      lcW_run2 I i' t fun ys h2 i2 => q (o.toList ++ ys) h2 (by rw [← List.append_assoc]; exact i2)
theorem all_enc {α : Type} (f : α → D) (P : α → Prop) : ∀ {ys : List D}, (∀ y ∈ ys, ∃ a, y = f a ∧ P a) → ∃ as : List α, ys = as.map f ∧ ∀ a ∈ as, P a
  | [], _ => ⟨[], rfl, fun _ z => by cases z⟩
  | y :: ys, h => by
    obtain ⟨a, e, p⟩ := h y List.mem_cons_self
    obtain ⟨as, e2, p2⟩ := all_enc f P fun z hz => h z (List.mem_cons_of_mem _ hz)
    refine ⟨a :: as, by rw [e, e2]; rfl, fun z hz => ?_⟩
    rcases List.mem_cons.mp hz with rfl | hz
    · exact p
    · exact p2 z hz
def numD (c : Nat) : D := .int c
abbrev costD (cs : List Nat) : D := .tup (cs.map numD)
def c__law_costs : CB :=
  .cons (.set 2 (.bin .Add (.int 1) (.call 1 (.cons (.var 0) (.cons (.var 1) .nil)))))
  (.cons (.set 3 (.call 0 (.cons (.var 0) (.cons (.lst (.cons (.lst (.cons (.int 1) .nil)) (.cons (.lst (.cons (.int 0) (.cons (.int 1) .nil))) (.cons (.lst (.cons (.int 1) (.cons (.int 2) (.cons (.int 3) .nil)))) (.cons (.lst (.cons (.int 5) (.cons (.int 1) (.cons (.int 1) (.cons (.int 0) .nil))))) (.cons (.lst (.cons (.int 1000) (.cons (.int 1) (.cons (.int 7) .nil)))) (.cons (.lst (.cons (.int 3) (.cons (.int 4) .nil))) .nil))))))) .nil))))
  (.cons (.ite (.cmp .Eq (.call 1 (.cons (.var 0) (.cons (.int 4) .nil))) (.int 0)) (.cons (.ret (.drop (.blt .tuple (.cons (.lc (.call 1 (.cons (.var 0) (.cons (.int 1001) .nil))) (.name 4) (.rng1 (.var 2)) [("_law_step", 4)] .no) .nil)))) .nil) (.nil))
  (.cons (.ret (.drop (.blt .tuple (.cons (.lc (.call 0 (.cons (.var 0) (.cons (.var 3) .nil))) (.name 4) (.rng1 (.var 2)) [("_law_step", 4)] .no) .nil)))) .nil)))
def c__law_odd : CB :=
  .cons (.set 1 (.lst (.cons .non (.cons (.bl true) (.cons (.bl false) (.cons (.neg (.int 1)) (.cons (.int 0) (.cons (.int 1) (.cons (.bin .Pow (.int 10) (.int 30)) (.cons (.str "") (.cons (.str "go") (.cons (.str "Go") (.cons (.str "keep") (.cons (.str "keep0") (.cons (.tup .nil) (.cons (.lst .nil) (.cons (.dnew false) (.cons (.tup (.cons (.str "keep") .nil)) .nil))))))))))))))))))
  (.cons (.set 1 (.bin .Add (.var 1) (.lst (.cons (.tup (.cons (.str "take") (.cons (.bl true) .nil))) (.cons (.tup (.cons (.str "keep") (.cons (.neg (.int 1)) .nil))) (.cons (.tup (.cons (.str "take") (.cons (.int 5) .nil))) (.cons (.tup (.cons (.str "keep") (.cons (.int 0) (.cons (.int 0) .nil)))) (.cons (.lst (.cons (.str "keep") (.cons (.int 0) .nil))) (.cons (.tup (.cons (.str "back") (.cons (.int 0) .nil))) (.cons (.tup (.cons (.int 0) (.cons (.str "keep") .nil))) .nil))))))))))
  (.cons (.ret (.call 0 (.cons (.var 0) (.cons (.var 1) .nil)))) .nil))
def spCosts : DSp := fun as h Q => ∃ (a : Addr) (n : Nat), as = [.ref a, .int n] ∧ h a = some .deck ∧ 1 ≤ n ∧ n ≤ 1000 ∧ ∀ cs : List Nat, 1 ≤ cs.length → cs.length ≤ n → (∀ c ∈ cs, c ≤ 1000) → Q (costD cs) h
theorem len_costs : ∀ ds h Q, spCosts ds h Q → ds.length = 2 := fun _ _ _ ⟨_, _, e, _⟩ => by rw [e]; rfl
theorem b_costs (as : List D) (h : DH) (Q : WK) (s : spCosts as h Q) : wpB ⟨[], [spPick, spDraw]⟩ c__law_costs (dstart 5 as) h { nx := fun _ h' => Ret Q .non h', rt := Ret Q } := by
  obtain ⟨a, n, rfl, hd, n1, n2, q⟩ := s
  unfold c__law_costs
  exists wpB
  refine ⟨a, n, rfl, hd, by omega, by omega, fun m m0 m1 => ?_⟩
  exists wpB
  refine ⟨by decide, fun p1 q1 => ⟨by decide, fun p2 q2 => ⟨by decide, fun p3 q3 => ⟨by decide, fun p4 q4 => ⟨by decide, fun p5 q5 => ⟨by decide, fun p6 q6 => ⟨by decide, fun p7 q7 => ?_⟩⟩⟩⟩⟩⟩⟩
  have d1 := ne_none hd q1
  have e2 := dupd_none.mp q2
  have e3 := dupd_none.mp q3
  have e33 := dupd_none.mp e3.2
  have e4 := dupd_none.mp q4
  have e44 := dupd_none.mp e4.2
  have e45 := dupd_none.mp e44.2
  have e5 := dupd_none.mp q5
  have e55 := dupd_none.mp e5.2
  have e56 := dupd_none.mp e55.2
  have e57 := dupd_none.mp e56.2
  have e6 := dupd_none.mp q6
  have e66 := dupd_none.mp e6.2
  have e67 := dupd_none.mp e66.2
  have e68 := dupd_none.mp e67.2
  have e69 := dupd_none.mp e68.2
  have e7 := dupd_none.mp q7
  have e77 := dupd_none.mp e7.2
  have e78 := dupd_none.mp e77.2
  have e79 := dupd_none.mp e78.2
  have e70 := dupd_none.mp e79.2
  have e71 := dupd_none.mp e70.2
  have sb : Sub h (dupd (dupd (dupd (dupd (dupd (dupd (dupd h p1 (DO.lst [D.int 1])) p2 (DO.lst [D.int 0, D.int 1])) p3 (DO.lst [D.int 1, D.int 2, D.int 3])) p4 (DO.lst [D.int 5, D.int 1, D.int 1, D.int 0])) p5 (DO.lst [D.int 1000, D.int 1, D.int 7])) p6 (DO.lst [D.int 3, D.int 4])) p7 (DO.lst [D.ref p1, D.ref p2, D.ref p3, D.ref p4, D.ref p5, D.ref p6])) :=
    (((((((Sub.refl h).new q1).new q2).new q3).new q4).new q5).new q6).new q7
  have hk : ∀ x ∈ [D.ref p1, D.ref p2, D.ref p3, D.ref p4, D.ref p5, D.ref p6], ∃ b xs, x = .ref b ∧ (dupd (dupd (dupd (dupd (dupd (dupd (dupd h p1 (DO.lst [D.int 1])) p2 (DO.lst [D.int 0, D.int 1])) p3 (DO.lst [D.int 1, D.int 2, D.int 3])) p4 (DO.lst [D.int 5, D.int 1, D.int 1, D.int 0])) p5 (DO.lst [D.int 1000, D.int 1, D.int 7])) p6 (DO.lst [D.int 3, D.int 4])) p7 (DO.lst [D.ref p1, D.ref p2, D.ref p3, D.ref p4, D.ref p5, D.ref p6])) b = some (.lst xs) ∧ xs ≠ [] ∧ xs.length ≤ 16777216 ∧ ∀ y ∈ xs, ∃ c : Nat, y = .int c ∧ c ≤ 1000 := by
    have num : ∀ {y : D} {l : List Nat}, y ∈ l.map numD → (∀ c ∈ l, c ≤ 1000) → ∃ c : Nat, y = .int c ∧ c ≤ 1000 := fun {y l} hy hl => by
      obtain ⟨c, hc, rfl⟩ := List.mem_map.mp hy
      exact ⟨c, rfl, hl c hc⟩
    intro x hx
    simp only [List.mem_cons, List.not_mem_nil, or_false] at hx
    rcases hx with rfl | rfl | rfl | rfl | rfl | rfl
    · exact ⟨p1, [D.int 1], rfl, by rw [dupd_ne e71.1.symm, dupd_ne e69.1.symm, dupd_ne e57.1.symm, dupd_ne e45.1.symm, dupd_ne e33.1.symm, dupd_ne e2.1.symm, dupd_same], by simp, by decide, fun y hy => num (l := [1]) hy (by decide)⟩
    · exact ⟨p2, [D.int 0, D.int 1], rfl, by rw [dupd_ne e70.1.symm, dupd_ne e68.1.symm, dupd_ne e56.1.symm, dupd_ne e44.1.symm, dupd_ne e3.1.symm, dupd_same], by simp, by decide, fun y hy => num (l := [0, 1]) hy (by decide)⟩
    · exact ⟨p3, [D.int 1, D.int 2, D.int 3], rfl, by rw [dupd_ne e79.1.symm, dupd_ne e67.1.symm, dupd_ne e55.1.symm, dupd_ne e4.1.symm, dupd_same], by simp, by decide, fun y hy => num (l := [1, 2, 3]) hy (by decide)⟩
    · exact ⟨p4, [D.int 5, D.int 1, D.int 1, D.int 0], rfl, by rw [dupd_ne e78.1.symm, dupd_ne e66.1.symm, dupd_ne e5.1.symm, dupd_same], by simp, by decide, fun y hy => num (l := [5, 1, 1, 0]) hy (by decide)⟩
    · exact ⟨p5, [D.int 1000, D.int 1, D.int 7], rfl, by rw [dupd_ne e77.1.symm, dupd_ne e6.1.symm, dupd_same], by simp, by decide, fun y hy => num (l := [1000, 1, 7]) hy (by decide)⟩
    · exact ⟨p6, [D.int 3, D.int 4], rfl, by rw [dupd_ne e7.1.symm, dupd_same], by simp, by decide, fun y hy => num (l := [3, 4]) hy (by decide)⟩
  have hp7 : (dupd (dupd (dupd (dupd (dupd (dupd (dupd h p1 (DO.lst [D.int 1])) p2 (DO.lst [D.int 0, D.int 1])) p3 (DO.lst [D.int 1, D.int 2, D.int 3])) p4 (DO.lst [D.int 5, D.int 1, D.int 1, D.int 0])) p5 (DO.lst [D.int 1000, D.int 1, D.int 7])) p6 (DO.lst [D.int 3, D.int 4])) p7 (DO.lst [D.ref p1, D.ref p2, D.ref p3, D.ref p4, D.ref p5, D.ref p6])) p7 = some (.lst [D.ref p1, D.ref p2, D.ref p3, D.ref p4, D.ref p5, D.ref p6]) := dupd_same
  generalize dupd (dupd (dupd (dupd (dupd (dupd (dupd h p1 (DO.lst [D.int 1])) p2 (DO.lst [D.int 0, D.int 1])) p3 (DO.lst [D.int 1, D.int 2, D.int 3])) p4 (DO.lst [D.int 5, D.int 1, D.int 1, D.int 0])) p5 (DO.lst [D.int 1000, D.int 1, D.int 7])) p6 (DO.lst [D.int 3, D.int 4])) p7 (DO.lst [D.ref p1, D.ref p2, D.ref p3, D.ref p4, D.ref p5, D.ref p6]) = h2 at *
  have hd2 := sb _ _ hd
  refine ⟨a, .ref p7, _, rfl, hd2, .inr ⟨p7, rfl, hp7⟩, by simp, by simp, fun x hx => ?_⟩
  obtain ⟨b, xs, rfl, hb, xn, xl, xa⟩ := hk x hx
  exists wpB
  refine ⟨a, 4, rfl, hd2, by decide, by decide, fun w w0 w1 => ?_⟩
  have fin : ∀ ys : List D, ys.length = (1 + m).toNat → (∀ y ∈ ys, ∃ c : Nat, y = .int c ∧ c ≤ 1000) → ∀ p, h2 p = none → Ret (Ret Q) (.tup ys) (dupd h2 p (.lst ys)) := fun ys hl hy p hp => by
    obtain ⟨cs, rfl, hc⟩ := all_enc numD (fun c => c ≤ 1000) hy
    rw [List.length_map] at hl
    exact ret_sub ((Sub.refl h2).new hp) (ret_sub sb (q cs (by omega) (by omega) hc))
  by_cases c : w = 0
  · subst c
    exists dwipe
    refine ⟨⟨by omega, by omega⟩, by rw [rngD_length]; omega, ?_⟩
    refine lcW_all (fun y => ∃ c : Nat, y = .int c ∧ c ≤ 1000) True.intro (fun x _ R r => ?_) fun ys hl hy p hp => ?_
    · exists wpB
      refine ⟨a, 1001, rfl, hd2, by decide, by decide, fun k k0 k1 => ?_⟩
      exact r _ ⟨k.toNat, by rw [Int.toNat_of_nonneg k0], by omega⟩
    · exists wpB
      exact fin ys (by rw [hl, rngD_length]) hy p hp
  · exists dwipe, decide_eq_false c
    refine ⟨⟨by omega, by omega⟩, by rw [rngD_length]; omega, ?_⟩
    refine lcW_all (fun y => ∃ c : Nat, y = .int c ∧ c ≤ 1000) True.intro (fun x _ R r => ?_) fun ys hl hy p hp => ?_
    · exists wpB
      exact ⟨a, .ref b, xs, rfl, hd2, .inr ⟨b, rfl, hb⟩, xn, xl, fun y hy => r y (xa y hy)⟩
    · exists wpB
      exact fin ys (by rw [hl, rngD_length]) hy p hp
/-! ### odd things -/
def oddPure : List D := [.non, .bl true, .bl false, .int (-1), .int 0, .int 1, .int (10 ^ 30), .str "", .str "go", .str "Go", .str "keep", .str "keep0", .tup [], .tup [.str "keep"],
  .tup [.str "take", .bl true], .tup [.str "keep", .int (-1)], .tup [.str "take", .int 5], .tup [.str "keep", .int 0, .int 0], .tup [.str "back", .int 0], .tup [.int 0, .str "keep"]]
def OddAt (x : D) (h : DH) : Prop := x ∈ oddPure ∨ ∃ p, x = .ref p ∧ (h p = some (.lst []) ∨ h p = some (.dk []) ∨ h p = some (.lst [.str "keep", .int 0]))
theorem OddAt.sub {x : D} {g h : DH} (o : OddAt x g) (s : Sub g h) : OddAt x h := by
  rcases o with o | ⟨p, e, o | o | o⟩
  · exact .inl o
  · exact .inr ⟨p, e, .inl (s _ _ o)⟩
  · exact .inr ⟨p, e, .inr (.inl (s _ _ o))⟩
  · exact .inr ⟨p, e, .inr (.inr (s _ _ o))⟩
theorem OddAt.act {x : D} {h : DH} (o : OddAt x h) : okAct x h := by
  rcases o with o | ⟨p, rfl, o | o | o⟩
  · unfold oddPure at o
    simp only [List.mem_cons, List.not_mem_nil, or_false] at o
    rcases o with rfl | rfl | rfl | rfl | rfl | rfl | rfl | rfl | rfl | rfl | rfl | rfl | rfl | rfl | rfl | rfl | rfl | rfl | rfl | rfl
    all_goals first
      | exact True.intro
      | (show PyData.strOk _ = true; decide +kernel)
      | (refine ⟨True.intro, fun z e => ?_, fun u hu => ?_⟩
         · first | (cases e; decide +kernel) | cases e
         · simp only [List.mem_cons, List.not_mem_nil, or_false] at hu
           try (rcases hu with rfl | rfl <;> exact True.intro)
           try (subst hu; exact True.intro))
  · exact ⟨[], .inl o⟩
  · exact ⟨[], .inr (.inl ⟨_, o⟩)⟩
  · exact ⟨_, .inl o⟩
def spOdd : DSp := fun as h Q => ∃ a : Addr, as = [.ref a] ∧ h a = some .deck ∧ ∀ x h', Sub h h' → OddAt x h' → Q x h'
theorem len_odd : ∀ ds h Q, spOdd ds h Q → ds.length = 1 := fun _ _ _ ⟨_, e, _⟩ => by rw [e]; rfl
theorem b_odd (as : List D) (h : DH) (Q : WK) (s : spOdd as h Q) : wpB ⟨[], [spPick]⟩ c__law_odd (dstart 2 as) h { nx := fun _ h' => Ret Q .non h', rt := Ret Q } := by
  obtain ⟨a, rfl, hd, q⟩ := s
  unfold c__law_odd
  exists wpB
  refine ⟨⟨by decide, by decide, by decide⟩, by decide, by decide, ?_⟩
  intro p1 q1
  have s1 := (Sub.refl h).new (o := .lst []) q1
  have e1 : dupd h p1 (.lst []) p1 = some (.lst []) := dupd_same
  generalize dupd h p1 (.lst []) = h1 at *
  intro p2 q2
  exists show (if false = true then DO.dt [] else DO.dk []) = DO.dk [] from rfl
  have s2 := (Sub.refl h1).new (o := .dk []) q2
  have e2 : dupd h1 p2 (.dk []) p2 = some (.dk []) := dupd_same
  generalize dupd h1 p2 (.dk []) = h2 at *
  refine ⟨by decide, by decide, ?_⟩
  have tm : (10 : Int) ^ Int.toNat 30 = 10 ^ 30 := rfl
  rw [tm]
  generalize hA : ([D.non, D.bl true, D.bl false, D.int (-1), D.int 0, D.int 1, D.int (10 ^ 30), D.str "", D.str "go", D.str "Go", D.str "keep", D.str "keep0", D.tup [], D.ref p1, D.ref p2, D.tup [D.str "keep"]] : List D) = A
  intro p3 q3
  have s3 := (Sub.refl h2).new (o := .lst A) q3
  have e3 : dupd h2 p3 (.lst A) p3 = some (.lst A) := dupd_same
  generalize dupd h2 p3 (.lst A) = h3 at *
  refine ⟨by decide, by decide, by decide, by decide, by decide, ?_⟩
  intro p4 q4
  have s4 := (Sub.refl h3).new (o := .lst [.str "keep", .int 0]) q4
  have e4 : dupd h3 p4 (.lst [.str "keep", .int 0]) p4 = some (.lst [.str "keep", .int 0]) := dupd_same
  generalize dupd h3 p4 (.lst [.str "keep", .int 0]) = h4 at *
  refine ⟨by decide, by decide, by decide, ?_⟩
  generalize hB : ([D.tup [.str "take", .bl true], .tup [.str "keep", .int (-1)], .tup [.str "take", .int 5], .tup [.str "keep", .int 0, .int 0], .ref p4, .tup [.str "back", .int 0], .tup [.int 0, .str "keep"]] : List D) = B
  intro p5 q5
  have s5 := (Sub.refl h4).new (o := .lst B) q5
  have e5 : dupd h4 p5 (.lst B) p5 = some (.lst B) := dupd_same
  generalize dupd h4 p5 (.lst B) = h5 at *
  have lA : A.length = 16 := by rw [← hA]; rfl
  have lB : B.length = 7 := by rw [← hB]; rfl
  exists s5 _ _ (s4 _ _ e3)
  refine ⟨by omega, ?_⟩
  intro p6 q6
  have s6 := (Sub.refl h5).new (o := .lst (A ++ B)) q6
  have e6 : dupd h5 p6 (.lst (A ++ B)) p6 = some (.lst (A ++ B)) := dupd_same
  generalize dupd h5 p6 (.lst (A ++ B)) = h6 at *
  have s06 : Sub h h6 := ((((s1.trans s2).trans s3).trans s4).trans s5).trans s6
  refine ⟨a, .ref p6, A ++ B, rfl, s06 _ _ hd, .inr ⟨p6, rfl, e6⟩, ?_, by rw [List.length_append]; omega, fun x hx => ret_here (q x h6 s06 ?_)⟩
  · intro z
    have := congrArg List.length z
    rw [List.length_append, lA, lB] at this
    cases this
  · have s16 := (((s2.trans s3).trans s4).trans s5).trans s6
    have s26 := ((s3.trans s4).trans s5).trans s6
    rw [← hA, ← hB] at hx
    simp only [List.mem_append, List.mem_cons, List.not_mem_nil, or_false] at hx
    rcases hx with (rfl | rfl | rfl | rfl | rfl | rfl | rfl | rfl | rfl | rfl | rfl | rfl | rfl | rfl | rfl | rfl) | (rfl | rfl | rfl | rfl | rfl | rfl | rfl)
    all_goals first
      | exact .inr ⟨p1, rfl, .inl (s16 _ _ e1)⟩
      | exact .inr ⟨p2, rfl, .inr (.inl (s26 _ _ e2))⟩
      | exact .inr ⟨p4, rfl, .inr (.inr ((s5.trans s6) _ _ e4))⟩
      | (refine .inl ?_; unfold oddPure; simp only [List.mem_cons]; simp)
end DL

set_option Elab.async false
set_option linter.all false
set_option maxRecDepth 100000
set_option maxHeartbeats 4000000
/-! DP3: repr of data without writing it out. -/
namespace DL
open PySem PySem.Spec PyProof.Rows L2
structure Rp (n k : Nat) (d : PyData) : Prop where
  lay : d.canLay0 = true
  can : d.showable = true
  dep : d.depth ≤ k
  blk : d.bulk ≤ n
structure Rps (n k : Nat) (ds : List PyData) : Prop where
  lay : PyData.canLayAll0 ds = true
  can : PyData.showableAll ds = true
  dep : PyData.depthAll ds ≤ k
  blk : PyData.bulkAll ds ≤ n
theorem Rp.mono {n m k j : Nat} {d : PyData} (r : Rp n k d) (h : n ≤ m) (h' : k ≤ j) : Rp m j d := ⟨r.lay, r.can, Nat.le_trans r.dep h', Nat.le_trans r.blk h⟩
theorem Rps.mono {n m k j : Nat} {d : List PyData} (r : Rps n k d) (h : n ≤ m) (h' : k ≤ j) : Rps m j d := ⟨r.lay, r.can, Nat.le_trans r.dep h', Nat.le_trans r.blk h⟩
theorem rp_none : Rp 0 0 .none := ⟨by simp [PyData.canLay0], by simp [PyData.showable], by simp [PyData.depth], by simp [PyData.bulk]⟩
theorem rp_bool {b : Bool} : Rp 0 0 (.bool b) := ⟨by simp [PyData.canLay0], by simp [PyData.showable], by simp [PyData.depth], by simp [PyData.bulk]⟩
theorem rp_i {i : Int} (h : i.natAbs.log2 < 1920) : Rp 0 0 (.int i) := ⟨by simp [PyData.canLay0], by simp [PyData.showable, h], by simp [PyData.depth], by simp [PyData.bulk]⟩
theorem rp_n {n : Nat} (h : n < 2 ^ 1900) : Rp 0 0 (.int n) := rp_i (by
  rw [Int.natAbs_natCast]
  exact PySem.Flt.log2_lt_of (by decide) (Nat.lt_of_lt_of_le h (Nat.pow_le_pow_right (by decide) (by decide))))
theorem rp_str {z : Str} {n : Nat} (h : PyData.strOk z = true) (hn : z.cps.size ≤ n) : Rp n 0 (.str z) := ⟨by simp [PyData.canLay0, h], by simp [PyData.showable], by simp [PyData.depth], by simp [PyData.bulk]; exact hn⟩
theorem Rps.nil {k : Nat} : Rps 0 k [] := ⟨by simp [PyData.canLayAll0], by simp [PyData.showableAll], by simp [PyData.depthAll], by simp [PyData.bulkAll]⟩
theorem Rps.cons {n m k : Nat} {d : PyData} {ds : List PyData} (a : Rp n k d) (b : Rps m k ds) : Rps (n + 1 + m) k (d :: ds) :=
  ⟨by simp [PyData.canLayAll0, a.lay, b.lay], by simp [PyData.showableAll, a.can, b.can], by simp only [PyData.depthAll]; have := a.dep; have := b.dep; omega, by simp [PyData.bulkAll]; have := a.blk; have := b.blk; omega⟩
theorem Rps.all {n k : Nat} : ∀ {ds : List PyData}, (∀ d ∈ ds, Rp n k d) → Rps ((n + 1) * ds.length) k ds
  | [], _ => by simpa using Rps.nil
  | d :: ds, h => by
    have := Rps.cons (h d List.mem_cons_self) (Rps.all fun e he => h e (List.mem_cons_of_mem _ he))
    refine this.mono ?_ (Nat.le_refl _)
    rw [List.length_cons, Nat.mul_succ]
    omega
theorem Rps.app {n m k : Nat} : ∀ {ds es : List PyData}, Rps n k ds → Rps m k es → Rps (n + m) k (ds ++ es)
  | [], es, a, b => by exact b.mono (by omega) (Nat.le_refl _)
  | d :: ds, es, a, b => by
    have l := a.lay; have c := a.can; have p := a.dep; have q := a.blk
    simp [PyData.canLayAll0] at l
    simp [PyData.showableAll] at c
    simp only [PyData.depthAll] at p
    simp only [PyData.bulkAll] at q
    have := Rps.cons (n := d.bulk) (k := k) ⟨l.1, c.1, by omega, Nat.le_refl _⟩ (Rps.app (n := PyData.bulkAll ds) (k := k) ⟨l.2, c.2, by omega, Nat.le_refl _⟩ b)
    exact this.mono (by omega) (Nat.le_refl _)
theorem Rps.tup {n k : Nat} {ds : List PyData} (a : Rps n k ds) : Rp n (k + 1) (.tuple ds) := ⟨by simp [PyData.canLay0, a.lay], by simp [PyData.showable, a.can], by simp only [PyData.depth]; have := a.dep; omega, by simp only [PyData.bulk]; exact a.blk⟩
theorem Rps.lst {n k : Nat} {ds : List PyData} (a : Rps n k ds) : Rp n (k + 1) (.list ds) := ⟨by simp [PyData.canLay0, a.lay], by simp [PyData.showable, a.can], by simp only [PyData.depth]; have := a.dep; omega, by simp only [PyData.bulk]; exact a.blk⟩
mutual
theorem shorts_of : ∀ d : PyData, d.showable = true → d.canLay0 = true → d.intsShort 1921 = true
  | .none, _, _ => by simp [PyData.intsShort]
  | .bool _, _, _ => by simp [PyData.intsShort]
  | .str _, _, _ => by simp [PyData.intsShort]
  | .dict _, _, _ => by simp [PyData.intsShort]
  | .int i, h, _ => by
    have h : i.natAbs.log2 < 1920 := by simpa [PyData.showable] using h
    have := int_text_len_1921 h
    simp only [PyData.intsShort, PyData.shown]
    exact decide_eq_true this
  | .list xs, h, l => by
    simp only [PyData.intsShort]
    exact shorts_all xs (by simpa [PyData.showable] using h) (by simpa [PyData.canLay0] using l)
  | .tuple xs, h, l => by
    simp only [PyData.intsShort]
    exact shorts_all xs (by simpa [PyData.showable] using h) (by simpa [PyData.canLay0] using l)
theorem shorts_all : ∀ ds : List PyData, PyData.showableAll ds = true → PyData.canLayAll0 ds = true → PyData.intsShortAll 1921 ds = true
  | [], _, _ => by simp [PyData.intsShortAll]
  | d :: ds, h, l => by
    have h : d.showable = true ∧ PyData.showableAll ds = true := by simpa [PyData.showableAll] using h
    have l : d.canLay0 = true ∧ PyData.canLayAll0 ds = true := by simpa [PyData.canLayAll0] using l
    simp only [PyData.intsShortAll, Bool.and_eq_true]
    exact ⟨shorts_of d h.1 l.1, shorts_all ds h.2 l.2⟩
end
theorem Rp.len {n k : Nat} {d : PyData} (r : Rp n k d) (hn : n ≤ 8000) : d.shown.length ≤ 16777216 := by
  have := PyData.shown_le_bulk 1921 (by decide) d (PyData.leavesShort_of_canLay0 1921 d r.lay (shorts_of d r.can r.lay))
  have b := r.blk
  have : (1921 + 2) * d.bulk ≤ 1923 * 8000 := Nat.mul_le_mul_left _ (by omega)
  omega
theorem Rp.shaped {n k : Nat} {d : PyData} (r : Rp n k d) (hk : k ≤ 64) : SeqAt.shaped d = true := by
  simp only [SeqAt.shaped, r.lay, Bool.true_and, decide_eq_true_eq]
  exact Nat.le_trans r.dep hk
theorem rp_pure {x : D} {h : DH} {Q : WK} {n k : Nat} (p : pure? x = true) (r : Rp n k (py x)) (q : Q (.str (py x).shown) h) (hn : n ≤ 8000 := by decide) (hk : k ≤ 64 := by decide) : fBlt .repr [x] h Q :=
  shows_rp ⟨0, pyW_pure _ x p, r.can, Nat.le_trans r.dep hk, r.len hn⟩ q
theorem rp_lst {a : Addr} {xs : List D} {h : DH} {Q : WK} {n k : Nat} (e : h a = some (.lst xs)) (p : pures? xs = true) (r : Rps n k (pys xs)) (q : Q (.str (PyData.list (pys xs)).shown) h) (hn : n ≤ 8000 := by decide) (hk : k ≤ 63 := by decide) : fBlt .repr [.ref a] h Q :=
  shows_rp ⟨1, rfN_lst e p, r.lst.can, Nat.le_trans r.lst.dep (by omega), r.lst.len hn⟩ q
theorem rp_dict {a : Addr} {h : DH} {Q : WK} (e : h a = some (.dk [])) (q : Q (.str (PyData.dict []).shown) h) : fBlt .repr [.ref a] h Q := ⟨.dict [], .inr ⟨a, rfl, e, rfl⟩, q⟩
/-- two texts that were shown are compared -/
theorem eq_same {z : Str} {h : DH} {R : Bool → Prop} (q : R true) : eqW (.str z) (.str z) h R := by
  rw [eqW_ss, decide_eq_true rfl]; exact q
end DL

set_option Elab.async false
set_option linter.all false
set_option maxRecDepth 100000
set_option maxHeartbeats 4000000
/-! DP4: texts of data that may hold lists and empty dicts. -/
namespace DL
open PySem PySem.Spec PyProof.Rows L2
structure Rw (n k : Nat) (d : PyData) : Prop where
  can : d.showable = true
  dep : d.depth ≤ k
  sh : d.leavesShort 1921 = true
  blk : d.bulk ≤ n
structure Rws (n k : Nat) (ds : List PyData) : Prop where
  can : PyData.showableAll ds = true
  dep : PyData.depthAll ds ≤ k
  sh : PyData.leavesShortAll 1921 ds = true
  blk : PyData.bulkAll ds ≤ n
theorem Rp.wide {n k : Nat} {d : PyData} (r : Rp n k d) : Rw n k d := ⟨r.can, r.dep, PyData.leavesShort_of_canLay0 1921 d r.lay (shorts_of d r.can r.lay), r.blk⟩
theorem Rw.len {n k : Nat} {d : PyData} (r : Rw n k d) (hn : n ≤ 8000) : d.shown.length ≤ 16777216 := by
  have := PyData.shown_le_bulk 1921 (by decide) d r.sh
  have b := r.blk
  have : (1921 + 2) * d.bulk ≤ 1923 * 8000 := Nat.mul_le_mul_left _ (by omega)
  omega
mutual
theorem pyW_up {rf rf' : Addr → Option PyData} (u : ∀ a d, rf a = some d → rf' a = some d) : ∀ (x : D) (d : PyData), pyW rf x = some d → pyW rf' x = some d
  | .non, _, e => e
  | .bl _, _, e => e
  | .int _, _, e => e
  | .str _, _, e => e
  | .scr _, _, e => e
  | .exc _ _ _, _, e => e
  | .ref a, d, e => u a d e
  | .tup xs, d, e => by
    simp only [pyW] at e ⊢
    cases q : pyWs rf xs with
    | none => rw [q] at e; cases e
    | some ds => rw [q] at e; rw [pyWs_up u xs ds q]; exact e
theorem pyWs_up {rf rf' : Addr → Option PyData} (u : ∀ a d, rf a = some d → rf' a = some d) : ∀ (xs : List D) (ds : List PyData), pyWs rf xs = some ds → pyWs rf' xs = some ds
  | [], _, e => e
  | x :: xs, ds, e => by
    simp only [pyWs] at e ⊢
    cases q : pyW rf x with
    | none => rw [q] at e; cases e
    | some d =>
      cases q2 : pyWs rf xs with
      | none => rw [q, q2] at e; cases e
      | some es => rw [q, q2] at e; rw [pyW_up u x d q, pyWs_up u xs es q2]; exact e
end
theorem rf1_sub {g h : DH} (s : Sub g h) : ∀ a d, rfN g 1 a = some d → rfN h 1 a = some d := fun a d e => by
  unfold rfN at e ⊢
  cases q : g a with
  | none => rw [q] at e; cases e
  | some o =>
    rw [q] at e
    rw [s _ _ q]
    exact e
def Txt (h : DH) (n k : Nat) (x : D) : Prop := ∃ d, pyW (rfN h 1) x = some d ∧ Rw n k d
def Txts (h : DH) (n k : Nat) (xs : List D) : Prop := ∃ ds, pyWs (rfN h 1) xs = some ds ∧ Rws n k ds
theorem Txt.sub {g h : DH} {n k : Nat} {x : D} (t : Txt g n k x) (s : Sub g h) : Txt h n k x := let ⟨d, e, r⟩ := t; ⟨d, pyW_up (rf1_sub s) _ _ e, r⟩
theorem Txt.mono {h : DH} {n k m j : Nat} {x : D} (t : Txt h n k x) (a : n ≤ m) (b : k ≤ j) : Txt h m j x := let ⟨d, e, r⟩ := t; ⟨d, e, r.can, Nat.le_trans r.dep b, r.sh, Nat.le_trans r.blk a⟩
theorem txt_pure {h : DH} {n k : Nat} {x : D} (p : pure? x = true) (r : Rp n k (py x)) : Txt h n k x := ⟨_, pyW_pure _ x p, r.wide⟩
theorem txt_lst {h : DH} {n k : Nat} {a : Addr} {xs : List D} (e : h a = some (.lst xs)) (p : pures? xs = true) (r : Rps n k (pys xs)) : Txt h n (k + 1) (.ref a) := ⟨_, rfN_lst e p, r.lst.wide⟩
theorem txt_dk {h : DH} {a : Addr} (e : h a = some (.dk [])) : Txt h 0 1 (.ref a) := ⟨.dict [], by show rfN h 1 a = _; unfold rfN; rw [e]; rfl, by simp [PyData.showable, PyData.showableKv], by simp [PyData.depth, PyData.depthKv], by simp [PyData.leavesShort, PyData.leavesShortKv], by simp [PyData.bulk, PyData.bulkKv]⟩
theorem Txts.nil {h : DH} {k : Nat} : Txts h 0 k [] := ⟨[], rfl, by simp [PyData.showableAll], by simp [PyData.depthAll], by simp [PyData.leavesShortAll], by simp [PyData.bulkAll]⟩
theorem Txts.cons {h : DH} {n m k : Nat} {x : D} {xs : List D} (a : Txt h n k x) (b : Txts h m k xs) : Txts h (n + 1 + m) k (x :: xs) := by
  obtain ⟨d, e, r⟩ := a
  obtain ⟨ds, es, rs⟩ := b
  have h1 := r.dep; have h2 := rs.dep; have h3 := r.blk; have h4 := rs.blk
  refine ⟨d :: ds, by simp only [pyWs, e, es, Option.bind_some, Option.map_some], by simp [PyData.showableAll, r.can, rs.can], by simp only [PyData.depthAll]; omega, by simp [PyData.leavesShortAll, r.sh, rs.sh], by simp only [PyData.bulkAll]; omega⟩
theorem Txts.tup {h : DH} {n k : Nat} {xs : List D} (b : Txts h n k xs) : Txt h n (k + 1) (.tup xs) := by
  obtain ⟨ds, es, rs⟩ := b
  have h2 := rs.dep
  refine ⟨.tuple ds, by simp only [pyW, es, Option.map_some], by simp [PyData.showable, rs.can], by simp only [PyData.depth]; omega, by simp [PyData.leavesShort, rs.sh], by simp only [PyData.bulk]; exact rs.blk⟩
theorem Txt.parts {h : DH} {n k : Nat} {xs : List D} (t : Txt h n k (.tup xs)) : Txts h n k xs := by
  obtain ⟨d, e, r⟩ := t
  simp only [pyW] at e
  cases q : pyWs (rfN h 1) xs with
  | none => rw [q] at e; cases e
  | some ds =>
    rw [q] at e; cases e
    have a := r.can; have b := r.dep; have c := r.sh; have f := r.blk
    simp only [PyData.showable] at a
    simp only [PyData.depth] at b
    simp only [PyData.leavesShort] at c
    simp only [PyData.bulk] at f
    exact ⟨ds, q, a, by omega, c, f⟩
theorem Txts.split {h : DH} {n k : Nat} {x : D} {xs : List D} (t : Txts h n k (x :: xs)) : Txt h n k x ∧ Txts h n k xs := by
  obtain ⟨es, e, r⟩ := t
  simp only [pyWs] at e
  cases q : pyW (rfN h 1) x with
  | none => rw [q] at e; cases e
  | some d =>
    cases q2 : pyWs (rfN h 1) xs with
    | none => rw [q, q2] at e; cases e
    | some ds =>
      rw [q, q2] at e; cases e
      have a := r.can; have b := r.dep; have c := r.sh; have f := r.blk
      simp only [PyData.showableAll, Bool.and_eq_true] at a
      simp only [PyData.depthAll] at b
      simp only [PyData.leavesShortAll, Bool.and_eq_true] at c
      simp only [PyData.bulkAll] at f
      exact ⟨⟨d, q, a.1, by omega, c.1, by omega⟩, ⟨ds, q2, a.2, by omega, c.2, by omega⟩⟩
theorem rp_txt {h : DH} {n k : Nat} {x : D} (t : Txt h n k x) (hn : n ≤ 8000) (hk : k ≤ 64) : ∃ z, ∀ (h' : DH) (Q : WK), Sub h h' → Q (.str z) h' → fBlt .repr [x] h' Q := by
  obtain ⟨d, e, r⟩ := t
  exact ⟨d.shown, fun h' Q s q => shows_rp ⟨1, pyW_up (rf1_sub s) _ _ e, r.can, Nat.le_trans r.dep hk, r.len hn⟩ q⟩
end DL

set_option Elab.async false
set_option linter.all false
set_option maxRecDepth 100000
set_option maxHeartbeats 4000000
/-! DX1: exceptions: made with nothing, their own __init__, several clauses that may name what they catch. -/
namespace DL
open PySem PySem.Spec PyProof.Rows L2
section
variable {X : Cx} {C : Addr} {bmB : List Value} {B newId initId : String}
/-- C() -/
theorem pmk_own0 {x : Str} {p pos : Pos} (F : ExcBaseFacts B newId initId bmB) (q : PySem.W.excIn X.K C bmB newId = true) (gC : X.mg x = some (.ref C)) (kC : PySem.W.keepIn X.K (.ref C) = true) (r : Raises X (.ref C)) (hg : Gl X x)
    (hdb : (x == ("__debug__" : Str)) = false) : PMk X (.Call (.Name x p) [] [] pos) (fun _ H Q => Q (.ref C) none H) := by
  intro pins s σ H Q I h
  refine wpAny_Call_Name_kw (ld_glob I hg gC ?_ hdb)
  refine PySem.W.callWith_K0 I.kIn kC ?_
  obtain ⟨_, _, _, _, _, _, _, _, _, _, _, _, _, _, _, _, _, cls, ns, no, tail⟩ := exc_obj I.kIn q
  exact wpAny_call_exc_subT F tail cls ns no (fun _ _ made => mk_of I made r h (I.hok.gone made.new)) (Nat.zero_le _)
end
section
variable {X : Cx} {e : Expr} {es : List Expr} {ta : TA} {p p1 p2 pos : Pos}
/-- M.__init__(self, ..) of an own class that has none of its own -/
theorem pe_oinit {M : Addr} {mc : Value} {x : Str} {pl : Sem Bool} (hg : Gl X x) (hm : X.mg x = some (.ref M)) (hdb : (x == ("__debug__" : Str)) = false) (sp : PySem.W.specialIn X.K (.ref M) "__getattribute__" = some (some (.builtin "type.__getattribute__")))
    (rd : PySem.W.readsIn X.K M mc = true) (vV : PySem.W.findCls X.K (.ref M) mc "__init__" = some (.val (.builtin "ValueError.__init__"))) (ha : PA X (e :: es) ta)
    (hc : eval (.Call (.Attribute (.Name x p1) "__init__" p2) (e :: es) [] pos) X.env = (do
      let ov ← eval (.Name x p1) X.env
      standAt p2.atName
      let (f, first) ← holding [ov] (getMethod ov "__init__" pl)
      callWith pos f first (backTo pos (starEach (e :: es) X.env)) (backToKw pos (keywordEach [] X.env))))
    (he : starEach (e :: es) X.env = (false, eval e X.env) :: starEach es X.env) (hpl : (backTo pos (starEach es X.env)).any (·.1) = false) :
    PE X (.Call (.Attribute (.Name x p1) "__init__" p2) (e :: es) [] pos) (tVeI X.K ta) := by
  refine ⟨fun pins s σ H Q I h => ?_⟩
  refine PySem.W.methodCall_KW (ld_glob I hg hm ?_ hdb) hc
  refine PySem.W.method_cls I.kIn sp (PySem.W.cls_value I.kIn rd vV (by decide +kernel) ?_)
  show wpAny _ _ (callWith pos (Value.builtin "ValueError.__init__") [] (backTo pos (starEach (e :: es) X.env)) []) _ _ _
  refine PyProof.Rows.callWith_method1 (thn (ha.run pos pins _ σ H _ (I.tok _) h) fun us s1 ⟨vs, H1, I1, r1, a, C, ws, ev, hl, T, ea, q⟩ => ?_) he hpl
  subst ev
  cases r1 with
  | @cons _ u0 _ ur ra rw' =>
    obtain rfl : u0 = Value.ref a := ra
    have hlen : ur.length ≤ sizeLine := by
      rw [← Paired.length rw', sizeLine_eq]
      omega
    exact oinit_ok T I1 ea hlen fun s' J => ⟨.non, H1, J, rfl, q⟩
end
/-! ### several clauses, each with or without a name -/
def unE (D : Ends) : Option Nat → Ends
  | none => D
  | some i => { nx := fun σ H => D.nx (σ.set i none) H, rt := D.rt, bk := fun σ H => D.bk (σ.set i none) H, ct := fun σ H => D.ct (σ.set i none) H }
def unS (σ : L2.St) (a : Addr) : Option Nat → L2.St
  | none => σ
  | some i => σ.set i (some (.ref a))
abbrev TX := Addr → Value → Option Addr → TS
def wMs (K : PySem.W.Frag) (Wout : WX) (D : Ends) : List (Value × Option Nat × TX) → WX
  | [] => Wout
  | (c, i, ts) :: r => fun cls d σ H => ∃ b, PySem.W.exmOne K cls c = some b ∧ (b = true → ∀ a, H a = none → ts a cls d (unE D i) (unS σ a i) H) ∧ (b = false → wMs K Wout D r cls d σ H)
inductive HdsMs (X : Cx) : List ExceptHandler → List (Value × Option Nat × TX) → Prop
  | nil : HdsMs X [] []
  | cons {x : Str} {c : Value} {ts : TX} {b₀ : Stmt} {suite : List Stmt} {np pos' : Pos} {hds : List ExceptHandler} {l : List (Value × Option Nat × TX)} (hc : L2.Names X x c)
      (hsu : ∀ (a : Addr) (oe : Obj) (cls : Value) (d : Option Addr) (pn : List (Addr × Obj)), Zc cls d oe → (∃ vs, oe.data = .fields vs) → PSs (X.suite a ((a, oe) :: pn)) (b₀ :: suite) (ts a cls d)) (r : HdsMs X hds l) :
      HdsMs X (.ExceptHandler (some (.Name x np)) none (b₀ :: suite) pos' :: hds) ((c, none, ts) :: l)
  | named {x n : Str} {i : Nat} {c : Value} {ts : TX} {b₀ : Stmt} {suite : List Stmt} {np pos' : Pos} {hds : List ExceptHandler} {l : List (Value × Option Nat × TX)} (hc : L2.Names X x c) (hN : X.N.Nodup) (hi : X.N[i]? = some n) (hln : X.env.kindOf n = some .local)
      (hsu : ∀ (a : Addr) (oe : Obj) (cls : Value) (d : Option Addr) (pn : List (Addr × Obj)), Zc cls d oe → (∃ vs, oe.data = .fields vs) → PSs (X.suite a ((a, oe) :: pn)) (b₀ :: suite) (ts a cls d)) (r : HdsMs X hds l) :
      HdsMs X (.ExceptHandler (some (.Name x np)) (some n) (b₀ :: suite) pos' :: hds) ((c, some i, ts) :: l)
/-- what a frame's try has caught: where it flies, and that the frame's state stands once it lands -/
structure Caught (X : Cx) (pins : List (Addr × Obj)) (σ : L2.St) (H : Hp) (a : Addr) (cls : Value) (d : Option Addr) (B : Heap) (t : Shared) : Prop where
  air : HandSPX.FlyingZ B (X.env :: X.outer) a (Zc cls d) t.heap
  new : H a = none
  home : ∀ hp : Heap, B.StaysIn hp → t.heap.UpToSlots hp → Inv X pins σ H { t with heap := hp }
  out : ∀ hp : Heap, t.heap.UpToSlots hp → HandSPX.HeldZ B (X.env :: X.outer) a (Zc cls d) X.env.locals hp → ∀ W : WX, W cls d σ H → XE X W (.ref a) { t with heap := hp }
section
variable {X : Cx} {pins : List (Addr × Obj)} {σ : L2.St} {H : Hp} {a : Addr} {cls : Value} {d : Option Addr} {B : Heap} {t : Shared}
theorem Caught.held (c : Caught X pins σ H a cls d B t) {hp : Heap} (fl : HandSPX.FlyingZ B (X.env :: X.outer) a (Zc cls d) hp) (u : t.heap.UpToSlots hp) (fr : X.env.frame = some X.env.locals) :
    ∃ oe : Obj, hp.get? a = some oe ∧ Zc cls d oe ∧ (∃ vs, oe.data = .fields vs) ∧ Inv (X.suite a ((a, oe) :: (X.pn ++ pins))) [] σ H { t with heap := hp } := by
  obtain ⟨oe, vs, at_, kind, dat⟩ := fl.there
  -- no frame is an exception
  have apart : ∀ e : Env, e ∈ X.env :: X.outer → e.frame ≠ some a := fun e he z => by
    obtain ⟨_, ob, g, nf⟩ := (show hp.FunFrames B (X.env :: X.outer) from fl.2.2.1).mem (List.mem_filterMap.mpr ⟨e, he, z⟩)
    have := Option.some.inj (g.symm.trans at_)
    subst this
    exact nf vs dat
  refine ⟨oe, at_, kind, ⟨vs, dat⟩, (c.home hp fl.1 u).suite at_ dat c.new (fun z => apart X.env List.mem_cons_self (by rw [fr, z])) fun hm => ?_⟩
  obtain ⟨e, he, z⟩ := List.mem_filterMap.mp hm
  exact apart e (List.mem_cons_of_mem _ he) z
/-- the class that a clause names, looked up beside the exception -/
theorem Caught.test (c : Caught X pins σ H a cls d B t) (fr : X.env.frame = some X.env.locals) {x : Str} {np : Pos} {cv : Value} (n : L2.Names X x cv) {Q : Value → Shared → Prop} {E : Value → Shared → Prop} (q : Q cv t) :
    wpAny (model X.prog X.w) (X.A.mark (some (.ref a))) (eval (.Name x np) X.env) Q E t := by
  obtain ⟨oe, _, _, _, I⟩ := c.held c.air (Heap.UpToSlots.refl _) fr
  obtain ⟨g, nd, at_ | ⟨none_, boot, nn⟩⟩ := n
  · exact ld_glob (X := X.suite a _) I g at_ q nd
  · exact ld_blt (X := X.suite a _) I g none_ boot q nn nd
theorem Caught.matches (c : Caught X pins σ H a cls d B t) {cv : Value} {b : Bool} (m : PySem.W.exmOne X.K cls cv = some b) : PySem.W.Looks (model X.prog X.w) t.heap (excMatches (.ref a) cv) b := by
  obtain ⟨oe, _, at_, kind, _⟩ := c.air.there
  exact PySem.W.exm_one (M := model X.prog X.w) (c.home t.heap c.air.1 (Heap.UpToSlots.refl _)).kIn (fun A Q E s k q => wpAny_typeOf_ref (k _ _ at_) (by rw [kind.1]; exact q)) m
/-- the suite has run: its flow is the try's -/
theorem flow_home (ok : X.Ok) {q : Addr × Obj} {D : Ends} {f : Flow} {s2 : Shared} {ps : List (Addr × Obj)} (z : SP (X.suite a (q :: (X.pn ++ pins))) ps D f s2) : SP X pins D f s2 := by
  cases f with
  | ret u => obtain ⟨v, σ1, H1, I, r, w⟩ := z; exact ⟨v, σ1, H1, I.unsuite ok, r, w⟩
  | next => obtain ⟨σ1, H1, I, w⟩ := z; exact ⟨σ1, H1, I.unsuite ok, w⟩
  | brk => obtain ⟨σ1, H1, I, w⟩ := z; exact ⟨σ1, H1, I.unsuite ok, w⟩
  | cont => obtain ⟨σ1, H1, I, w⟩ := z; exact ⟨σ1, H1, I.unsuite ok, w⟩
/-- .. and the clause's name has gone -/
theorem flow_gone (ok : X.Ok) {q : Addr × Obj} {D : Ends} {f : Flow} {s2 : Shared} {i : Nat} {n : Str} {p : Pos} {E : Value → Shared → Prop} {R : Flow → Shared → Prop} (nd : X.N.Nodup) (hi : X.N[i]? = some n) (hl : X.env.kindOf n = some .local)
    (z : SP (X.suite a (q :: (X.pn ++ pins))) [] (unE D (some i)) f s2) (go : ∀ s3, SP X pins D f s3 → R f s3) : wpAny (model X.prog X.w) X.A (do bindName X.env n .none; unbindBehindTheSuite X.env n p) (fun _ s3 => R f s3) E s2 := by
  cases f with
  | ret u => obtain ⟨v, σ1, H1, I, r, w⟩ := z; exact gone_ok (I.unsuite ok) nd hi hl fun s3 J => go s3 ⟨v, _, H1, J, r, w⟩
  | next => obtain ⟨σ1, H1, I, w⟩ := z; exact gone_ok (I.unsuite ok) nd hi hl fun s3 J => go s3 ⟨_, H1, J, w⟩
  | brk => obtain ⟨σ1, H1, I, w⟩ := z; exact gone_ok (I.unsuite ok) nd hi hl fun s3 J => go s3 ⟨_, H1, J, w⟩
  | cont => obtain ⟨σ1, H1, I, w⟩ := z; exact gone_ok (I.unsuite ok) nd hi hl fun s3 J => go s3 ⟨_, H1, J, w⟩
/-- clause by clause -/
theorem Caught.by_clauses (c : Caught X pins σ H a cls d B t) (ok : X.Ok) (fr : X.env.frame = some X.env.locals) {Wout : WX} (tk : Takes X Wout) {D : Ends} {hds : List ExceptHandler} {l : List (Value × Option Nat × TX)} (m : HdsMs X hds l) (w : wMs X.K Wout D l cls d σ H) :
    wpAny (model X.prog X.w) X.A (handleBy (.ref a) X.env hds) (SP X pins D) X.xe t := by
  induction m with
  | nil =>
    -- nobody wants it: it flies on
    obtain ⟨oe, vs, T, oT, ts, e1, e2, e3, e4, _⟩ := c.air.2.2.2
    refine wpAny_handleBy_nil ?_
    unfold PySem.passOn
    refine wpAny_bind (wpAny_field e1 e3 e4 ?_)
    have up : wpAny (model X.prog X.w) X.A (setFlight (.ref a) X.env.frame) (fun _ s1 => wpAny (model X.prog X.w) X.A (throw (.ref a) : Sem Flow) (SP X pins D) X.xe s1) X.xe t := by
      rw [fr]
      exact HandSPX.setFlight_upZ c.air fun hp hh u => wpAny_throw (tk _ _ (c.out hp u hh Wout w))
    rw [if_neg (by simp)]
    first
      | exact wpAny_bind (wpAny_pure (wpAny_bind up))
      | exact wpAny_bind up
  | cons n su _ ih =>
    obtain ⟨b, eb, yes, no⟩ := w
    refine wpAny_handleBy_cons (codeAny_handlers_test (c.test fr n ((c.matches eb).here ?_))) fun q => nomatch q
    cases b with
    | false => exact ih (no rfl)
    | true =>
      refine codeAny_handlers_suite (HandSPX.lands_againZ c.air fun hp fl u => ?_)
      obtain ⟨oe, _, kind, fs, I⟩ := c.held fl u fr
      exact wpAny_mono ((su a oe cls d _ kind fs).run [] _ σ H D I (yes rfl a c.new)) (fun f s2 z => flow_home ok z) fun _ _ z => z.elim
  | named n nd hi hl su _ ih =>
    obtain ⟨b, eb, yes, no⟩ := w
    refine wpAny_handleBy_cons (codeAny_handlers_test (c.test fr n ((c.matches eb).here ?_))) fun q => nomatch q
    cases b with
    | false => exact ih (no rfl)
    | true =>
      refine codeAny_handlers_suite_as (HandSPX.lands_againZ c.air fun hp fl u => ?_)
      obtain ⟨oe, _, kind, fs, I⟩ := c.held fl u fr
      refine store_ok (X := X.suite a _) (v := .ref a) I nd hi (.inl hl) rfl (fun s1 I1 => ?_) (.inr hl)
      refine wpAny_mono ((su a oe cls d _ kind fs).run [] s1 _ H _ I1 (yes rfl a c.new)) (fun f s2 z => ?_) fun _ _ z => z.elim
      exact flow_gone ok nd hi hl z fun s3 y => y
end
section
variable {X : Cx} {body : List Stmt} {h₀ : ExceptHandler} {hds : List ExceptHandler} {l : List (Value × Option Nat × TX)} {pos : Pos} {tb : WX → TS} {Wout : WX}
/-- try: several clauses, each with or without a name -/
theorem ps_try_ms (stk : X.stack = X.env :: X.outer) (fr : X.env.frame = some X.env.locals) (tk : Takes X Wout)
    (inner : ∀ (W : WX) (pn : List (Addr × Obj)) (xe : Value → Shared → Prop), Takes (X.tr pn xe) W → PassesOwn (model X.prog X.w) X.A X.env xe → PSs (X.tr pn xe) body (tb W))
    (m : HdsMs X (h₀ :: hds) l) : PS X (.Try body (h₀ :: hds) [] [] pos) (fun D σ H => tb (wMs X.K Wout D l) D σ H) := by
  refine ⟨fun pins s σ H D I w => wpAny_Try_except ?_⟩
  have ok := I.ok
  have run := (inner (wMs X.K Wout D l) (X.pn ++ pins) _ (fun u t air => ?_) PassesOwn.looking).run [] s σ H D (I.toTry fun e s1 => wpAny (model X.prog X.w) X.A (noteFrame e X.env) (fun _ s2 => wpAny (model X.prog X.w) X.A (setFlight e none) (fun _ s3 =>
    wpAny (model X.prog X.w) X.A (handleBy e X.env (h₀ :: hds)) (SP X pins D) X.xe s3) X.xe s2) X.xe s1) w
  · refine wpAny_mono run (fun f s1 z => ?_) fun _ _ z => z
    cases f with
    | ret u => obtain ⟨v, σ1, H1, J, r, y⟩ := z; exact ⟨v, σ1, H1, J.ofTry ok, r, y⟩
    | next => obtain ⟨σ1, H1, J, y⟩ := z; exact wpAny_execs_nil ⟨σ1, H1, J.ofTry ok, y⟩
    | brk => obtain ⟨σ1, H1, J, y⟩ := z; exact ⟨σ1, H1, J.ofTry ok, y⟩
    | cont => obtain ⟨σ1, H1, J, y⟩ := z; exact ⟨σ1, H1, J.ofTry ok, y⟩
  · obtain ⟨a, B, s0, ps, σ1, H1, cls, d, rfl, J, ground, up, sky, new, os, bare, wish⟩ := air
    have J := J.ofTry ok
    have sky : Sky B (X.env :: X.outer) a (Zc cls d) X.env.locals t.heap := by rw [← stk]; exact sky
    show wpAny (model X.prog X.w) X.A (noteFrame (.ref a) X.env) _ _ _
    refine Sky.land Zc.steady (by rw [ok.frames, stk]) fr sky fun hp fl up2 => ?_
    refine Caught.by_clauses (t := { t with heap := hp }) (cls := cls) (d := d) (B := B) (σ := σ1) (H := H1) ⟨fl, new, fun h2 st u => J.landed ground st ((up.trans up2).trans u) os bare, fun h2 u hh W y => ?_⟩ ok fr tk m wish
    exact ⟨a, B, s0, pins, σ1, H1, cls, d, rfl, J, ground, (up.trans up2).trans u, .inr (.inr (by rw [stk]; exact hh)), new, os, bare, y⟩
end
end DL

set_option Elab.async false
set_option linter.all false
set_option maxRecDepth 100000
set_option maxHeartbeats 4000000
/-! DX2: defs that may raise: the errors, promises with a second wish, the syntax, what it asks, how it is held against the text. -/
namespace DL
open PySem PySem.Spec PyProof.Rows L2
/-- the program's errors -/
inductive XN where
  | noAct | barred | noTree | full | badMany | badText
  deriving DecidableEq
def XN.name : XN → Str
  | .noAct => "NoAct" | .barred => "Barred" | .noTree => "NoTree" | .full => "Full" | .badMany => "BadMany" | .badText => "BadText"
def XN.fd : XN → Option Str
  | .badMany => some "many" | .badText => some "place" | _ => none
/-- what is wanted of an error: its kind, what it holds, the heap -/
abbrev WXD := XN → Option D → DH → Prop
abbrev XSp := List D → DH → WK → WXD → Prop
/-- how an error's own part stands -/
def XAt (K : PySem.W.Frag) (L : List XN) (H : Hp) (k : XN) (v : Option D) (d : Option Addr) : Prop := k ∈ L ∧ match k.fd, v with
  | none, none => d = none
  | some f, some x => ∃ dx u, d = some dx ∧ H dx = some (.xd [(f, u)]) ∧ VR K H x u
  | _, _ => False
def PostX (K : PySem.W.Frag) (L : List XN) (xa : XN → Addr) (h : DH) (H : Hp) (Xd : WXD) (E : XK) : Prop := ∀ k v h' H' d, Ext h H h' H' → HR K h' H' → XAt K L H' k v d → Xd k v h' → E (.ref (xa k)) d H'
theorem PostX.later {K : PySem.W.Frag} {L : List XN} {xa : XN → Addr} {h h' : DH} {H H' : Hp} {Xd : WXD} {E : XK} (p : PostX K L xa h H Xd E) (e : Ext h H h' H') : PostX K L xa h' H' Xd E := fun k v h2 H2 d e2 hr x q => p k v h2 H2 d (e.trans e2) hr x q
def liftSpX (K : PySem.W.Frag) (L : List XN) (xa : XN → Addr) (sp : XSp) : Sp := fun vs H Q E => ∃ ds h Qd Xd, VRs K H ds vs ∧ HR K h H ∧ sp ds h Qd Xd ∧ Post K h H Qd Q ∧ PostX K L xa h H Xd E
/-- where nothing is raised -/
def noX (sp : XSp) : DSp := fun ds h Q => sp ds h Q fun _ _ _ => False
theorem fnR_noX {g : Bool} {P : Program} {w : World} {K : PySem.W.Frag} {mg : Str → Option Value} {base : Heap} {k : Nat} {f : Addr} {fd : FuncData} {ps : List Str} {L : List XN} {xa : XN → Addr} {sp : XSp} (F : FnR g P w K mg base (L2.CX P w) k f fd ps (liftSpX K L xa sp)) : FnR g P w K mg base CX0 k f fd ps (liftSp K (noX sp)) := by
  have to : ∀ {vs : List V} {H : Hp} {Q : VK} {E : XK}, liftSp K (noX sp) vs H Q E → liftSpX K L xa sp vs H Q E0 := fun ⟨ds, h, Qd, r, hr, s, p⟩ => ⟨ds, h, Qd, _, r, hr, s, p, fun _ _ _ _ _ _ _ _ z => z⟩
  refine ⟨fun vs H Q E s => F.len vs H Q E0 (to s), fun A outer s H args us vs Q E hg hr he hb hv hs => codeAny_mono (F.run A outer s H args us vs Q E0 hg hr he hb hv (to hs)) fun res s' hq => ?_⟩
  match res, hq with
  | .ok (.ret u), hq => exact hq
  | .ok .next, hq => exact hq.elim
  | .ok .brk, hq => exact hq.elim
  | .ok .cont, hq => exact hq.elim
  | .error e, hq =>
    obtain ⟨_, _, _, _, _, _, _, _, _, _, _, _, z⟩ := hq
    exact z.elim
/-! ### syntax -/
/-- a call that may raise -/
inductive XC where
  | call (j : Nat) (es : CL)
  | meth (j ci : Nat) (m : Str) (o : CE) (es : CL)
  | ite (c : CE) (a b : XC)
/-- a test of the caught error; e: the slot of its name -/
inductive ST where
  | isx (e : Nat) (k : XN)
  | isv (e : Nat)
  | and (a b : ST)
/-- what needs no room -/
inductive SA where
  | var (i : Nat)
  | int (i : Int)
  | str (s : Str)
  | bl (b : Bool)
  | non
  | tst (t : ST)
  | fld (e : Nat) (k : XN)
/-- an expression of a clause's suite -/
inductive SE where
  | at_ (c : SA)
  | lst (cs : List SA)
  | ite (t : ST) (a b : SE)
/-- a clause: its class (none: the base of all), its name's slot, its suite -/
structure XH where
  c : Option XN
  nm : Option Nat
  su : List (Nat × SE)
mutual
inductive XS where
  | st (c : CS)
  | setx (i : Nat) (c : XC)
  | raise (k : XN) (e : CO)
  | ite (c : CE) (a b : XB)
  | loop (tg : CT) (it : CI) (b : XB)
  | tryx (b : XB) (hs : List XH)
inductive XB where
  | nil
  | cons (s : XS) (r : XB)
  | stop
end
/-! ### what is asked -/
structure XEnds where
  d : DEnds
  xc : XN → Option D → DEnv → DH → Prop
def wpXC (F : Fx) (xs : List XSp) : XC → DEnv → DH → WK → WXD → Prop
  | .call j es, ρ, h, Q, X => wpL F es ρ h fun ds h1 => nthW xs j fun sp => sp ds h1 Q X
  | .meth j ci m o es, ρ, h, Q, X => wpE F o ρ h fun x h1 => nthW F.cv ci fun c => refW c fun C => ∃ a fs, x = .ref a ∧ h1 a = some (.ins C fs) ∧ fs.lookup m = none ∧ wpL F es ρ h1 fun ds h2 => nthW xs j fun sp => sp (.ref a :: ds) h2 Q X
  | .ite c a b, ρ, h, Q, X => wpE F c ρ h fun x h1 => boolW x fun k => iteW k (wpXC F xs a ρ h1 Q X) (wpXC F xs b ρ h1 Q X)
def evT (k : XN) : ST → Bool
  | .isx _ k' => decide (k = k')
  | .isv _ => true
  | .and a b => evT k a && evT k b
def atomD (k : XN) (v : Option D) (ρ : DEnv) : SA → Option D
  | .var i => (ρ[i]?).bind id
  | .int i => some (.int i)
  | .str s => some (.str s)
  | .bl b => some (.bl b)
  | .non => some .non
  | .tst t => some (.bl (evT k t))
  | .fld _ k' => if k = k' then v else none
def atomsD (k : XN) (v : Option D) (ρ : DEnv) : List SA → Option (List D)
  | [] => some []
  | c :: r => (atomD k v ρ c).bind fun x => (atomsD k v ρ r).map fun xs => x :: xs
def wpSE (k : XN) (v : Option D) : SE → DEnv → DH → WK → Prop
  | .at_ c, ρ, h, Q => ∃ x, atomD k v ρ c = some x ∧ Q x h
  | .lst cs, ρ, h, Q => ∃ xs, atomsD k v ρ cs = some xs ∧ xs.length ≤ 16777216 ∧ ∀ p, h p = none → Q (.ref p) (dupd h p (.lst xs))
  | .ite t a b, ρ, h, Q => iteW (evT k t) (wpSE k v a ρ h Q) (wpSE k v b ρ h Q)
def wpSu (k : XN) (v : Option D) : List (Nat × SE) → DEnv → DH → (DEnv → DH → Prop) → Prop
  | [], ρ, h, nx => nx ρ h
  | (i, e) :: r, ρ, h, nx => wpSE k v e ρ h fun d h1 => wpSu k v r (ρ.set i (some d)) h1 nx
def isX : Option XN → XN → Bool
  | none, _ => true
  | some k', k => decide (k = k')
def unD (ρ : DEnv) : Option Nat → DEnv
  | none => ρ
  | some i => ρ.set i none
def handW : List XH → XN → Option D → DEnv → DH → XEnds → Prop
  | [], k, v, ρ, h, E => E.xc k v ρ h
  | c :: r, k, v, ρ, h, E => iteW (isX c.c k) (wpSu k v c.su (unD ρ c.nm) h fun ρ1 h1 => E.d.nx (unD ρ1 c.nm) h1) (handW r k v ρ h E)
mutual
def wpXS (F : Fx) (xs : List XSp) : XS → DEnv → DH → XEnds → Prop
  | .st c, ρ, h, E => wpS F c ρ h E.d
  | .setx i c, ρ, h, E => wpXC F xs c ρ h (fun d h1 => E.d.nx (ρ.set i (some d)) h1) fun k v h1 => E.xc k v ρ h1
  | .raise k e, ρ, h, E => match e with
    | .no => k.fd = none ∧ E.xc k none ρ h
    | .yes c => k.fd ≠ none ∧ wpE F c ρ h fun d h1 => E.xc k (some d) ρ h1
  | .ite c a b, ρ, h, E => wpE F c ρ h fun x h1 => boolW x fun k => iteW k (wpXB F xs a ρ h1 E) (wpXB F xs b ρ h1 E)
  | .loop tg it b, ρ, h, E => wpI F it ρ h fun ys g h1 => loopW g (fun x ρ1 h2 N => tgtW tg x ρ1 fun ρ2 => wpXB F xs b ρ2 h2 ⟨{ nx := N, ct := N, bk := E.d.nx, rt := E.d.rt }, E.xc⟩) E.d.nx ys ρ h1
  | .tryx b hs, ρ, h, E => wpXB F xs b ρ h ⟨E.d, fun k v ρ1 h1 => handW hs k v ρ1 h1 E⟩
def wpXB (F : Fx) (xs : List XSp) : XB → DEnv → DH → XEnds → Prop
  | .nil, ρ, h, E => E.d.nx ρ h
  | .cons s r, ρ, h, E => wpXS F xs s ρ h ⟨{ nx := fun ρ1 h1 => wpXB F xs r ρ1 h1 E, rt := E.d.rt, bk := E.d.bk, ct := E.d.ct }, E.xc⟩
  | .stop, _, _, _ => False
end
/-! ### how the text is held against it -/
/-- the names of a text that raises: defs, methods (place, class among the constants, name), kinds -/
structure Gx where
  xf : List Str
  xm : List (Nat × Nat × Str)
  xk : List XN
def chkXC (N : List Str) (G : Glb) (X : Gx) : XC → Scope → Expr → Bool
  | .call j cs, sc, e => match e with
    | .Call (.Name x _) (y :: es) [] _ => decide (X.xf[j]? = some x) && globB sc x && okName x && chkL N G cs sc (y :: es)
    | _ => false
  | .meth j ci m o cs, sc, e => match e with
    | .Call (.Attribute y g apos) (z :: es) [] pos => decide (m = g) && X.xm.contains (j, ci, m) && (apos.endLine == pos.line) && decide ((z :: es).length < 20) && plainB y && chkE N G o sc y && chkL N G cs sc (z :: es)
    | .Call (.Attribute y g apos) [] [] pos => decide (m = g) && X.xm.contains (j, ci, m) && (apos.endLine == pos.line) && plainB y && chkE N G o sc y && (match cs with | .nil => true | _ => false)
    | _ => false
  | .ite c a b, sc, e => match e with
    | .IfExp t x y _ => testB c && chkE N G c sc t && chkXC N G X a sc x && chkXC N G X b sc y
    | _ => false
/-- n: the slot of the caught error's name -/
def chkST (N : List Str) (X : Gx) (n : Option Nat) : ST → Scope → Expr → Bool
  | .isx i k, sc, e => match e with
    | .Call (.Name x _) [.Name y _, .Name z _] [] _ => decide (x = "isinstance") && globB sc x && decide (n = some i) && decide (N[i]? = some y) && seenB sc y && okName y && decide (z = k.name) && globB sc z && X.xk.contains k
    | _ => false
  | .isv i, sc, e => match e with
    | .Call (.Name x _) [.Name y _, .Name z _] [] _ => decide (x = "isinstance") && globB sc x && decide (n = some i) && decide (N[i]? = some y) && seenB sc y && okName y && decide (z = "ValueError") && globB sc z
    | _ => false
  | .and a b, sc, e => match e with
    | .BoolOp .And [x, y] _ => chkST N X n a sc x && chkST N X n b sc y
    | _ => false
def isAnd : ST → Bool
  | .and _ _ => true
  | _ => false
def chkSA (N : List Str) (X : Gx) (n : Option Nat) : SA → Scope → Expr → Bool
  | .var i, sc, e => match e with
    | .Name x _ => decide (N[i]? = some x) && seenB sc x && okName x
    | _ => false
  | .int i, _, e => match e with
    | .Constant (.int j) _ _ => decide (i = j)
    | .UnaryOp .USub (.Constant (.int j) _ _) _ => decide (i = -j)
    | _ => false
  | .str s, _, e => match e with
    | .Constant (.str t) _ _ => decide (s = t)
    | _ => false
  | .bl b, _, e => match e with
    | .Constant (.bool c) _ _ => decide (b = c)
    | _ => false
  | .non, _, e => match e with
    | .Constant .none _ _ => true
    | _ => false
  | .tst t, sc, e => !isAnd t && chkST N X n t sc e
  | .fld i k, sc, e => match e with
    | .Attribute (.Name y _) f _ => decide (n = some i) && decide (N[i]? = some y) && seenB sc y && okName y && decide (k.fd = some f) && X.xk.contains k
    | _ => false
def chkSAs (N : List Str) (X : Gx) (n : Option Nat) : List SA → Scope → List Expr → Bool
  | [], _, es => match es with
    | [] => true
    | _ => false
  | c :: r, sc, es => match es with
    | e :: t => chkSA N X n c sc e && chkSAs N X n r sc t
    | _ => false
def chkSE (N : List Str) (X : Gx) (n : Option Nat) : SE → Scope → Expr → Bool
  | .at_ c, sc, e => chkSA N X n c sc e
  | .lst cs, sc, e => match e with
    | .List xs _ => chkSAs N X n cs sc xs
    | _ => false
  | .ite t a b, sc, e => match e with
    | .IfExp c x y _ => chkST N X n t sc c && chkSE N X n a sc x && chkSE N X n b sc y
    | _ => false
def chkSu (N : List Str) (X : Gx) (sc : Scope) (n : Option Nat) : List (Nat × SE) → List Stmt → Bool
  | [], st => match st with
    | [] => true
    | _ => false
  | (i, c) :: r, st => match st with
    | .Assign [.Name x p] e _ :: t => decide (N[i]? = some x) && storeB (fun _ => true) sc x && noComp e && decide (n ≠ some i) && chkSE N X n c sc e && chkSu N X sc n r t
    | _ => false
def chkXH (N : List Str) (X : Gx) (sc : Scope) (c : XH) : ExceptHandler → Bool
  | .ExceptHandler (some (.Name x _)) n (b₀ :: su) _ => globB sc x && (match c.c with | some k => decide (x = k.name) && X.xk.contains k | none => decide (x = "MomentError")) &&
      (match c.nm, n with | none, none => true | some i, some y => decide (N[i]? = some y) && locB sc y | _, _ => false) && chkSu N X sc c.nm c.su (b₀ :: su)
  | _ => false
def chkXHs (N : List Str) (X : Gx) (sc : Scope) : List XH → List ExceptHandler → Bool
  | [], hs => match hs with
    | [] => true
    | _ => false
  | c :: r, hs => match hs with
    | e :: t => chkXH N X sc c e && chkXHs N X sc r t
    | _ => false
mutual
def chkXS (N : List Str) (G : Glb) (X : Gx) (sc : Scope) : XS → Stmt → Bool
  | .st c, s => chkS N G sc c s
  | .setx i c, s => match s with
    | .Assign [.Name x p] e _ => decide (N[i]? = some x) && storeB (fun _ => true) sc x && noComp e && chkXC N G X c sc e
    | _ => false
  | .raise k e, s => match s with
    | .Raise (some (.Call (.Name x _) [] [] _)) none _ => (match e with | .no => true | _ => false) && decide (x = k.name) && globB sc x && X.xk.contains k
    | .Raise (some (.Call (.Name x _) [y] [] _)) none _ => (match e with | .yes c => chkE N G c sc y | _ => false) && decide (x = k.name) && globB sc x && X.xk.contains k
    | _ => false
  | .ite c a b, s => match s with
    | .If t x y _ => testB c && chkE N G c sc t && chkXB N G X sc a x && chkXB N G X sc b y
    | _ => false
  | .loop tg it b, s => match s with
    | .For t i body [] _ => chkI N G it sc i && chkT N (fun _ => true) sc tg t && (!enumB it || isTupT tg) && chkXB N G X sc b body
    | _ => false
  | .tryx b hs, s => match s with
    | .Try body (h₀ :: t) [] [] _ => chkXB N G X sc b body && chkXHs N X sc hs (h₀ :: t)
    | _ => false
def chkXB (N : List Str) (G : Glb) (X : Gx) (sc : Scope) : XB → List Stmt → Bool
  | .nil, st => match st with
    | [] => true
    | _ => false
  | .cons s r, st => match st with
    | a :: t => chkXS N G X sc s a && chkXB N G X sc r t
    | _ => false
  | .stop, _ => true
end
end DL

set_option Elab.async false
set_option linter.all false
set_option maxRecDepth 100000
set_option maxHeartbeats 4000000
/-! DX3: what the check says holds: calls that may raise, suites. -/
namespace DL
open PySem PySem.Spec PyProof.Rows L2
/-- what the written part says of the program's errors: L those that may come up, xa where their classes stand, M the base of all -/
structure XWorld (K : PySem.W.Frag) (mg : Str → Option Value) (L : List XN) (xa : XN → Addr) (M : Addr) : Prop where
  at_ : ∀ k ∈ L, mg k.name = some (.ref (xa k))
  keep : ∀ k ∈ L, PySem.W.keepIn K (.ref (xa k)) = true
  sub : ∀ k ∈ L, PySem.W.subIn K (.ref (xa k)) (.type "BaseException") = some true
  ty : ∀ k ∈ L, PySem.W.typeIn K (.ref (xa k)) = some (.type "type")
  plain : ∀ k ∈ L, k.fd = none → PySem.W.excIn K (xa k) [.type "ValueError", .type "Exception", .type "BaseException", .type "object"] "ValueError.__new__" = true
  exm : ∀ k ∈ L, ∀ k' ∈ L, PySem.W.exmOne K (.ref (xa k)) (.ref (xa k')) = some (decide (k = k'))
  exmM : ∀ k ∈ L, PySem.W.exmOne K (.ref (xa k)) (.ref M) = some true
  atM : mg "MomentError" = some (.ref M)
  is_ : ∀ k ∈ L, ExcC K (xa k)
  kit : ∀ k ∈ L, ∀ k' ∈ L, PySem.W.kitOne K (.ref (xa k)) (.ref (xa k')) = some (decide (k = k'))
  kitV : ∀ k ∈ L, PySem.W.kitOne K (.ref (xa k)) (.type "ValueError") = some true
  noV : mg "ValueError" = none
  noI : mg "isinstance" = none
  fld : ∀ k ∈ L, ∀ f, k.fd = some f → XfC K (xa k) ∧ PySem.W.findIn K (.ref (xa k)) f = some none
structure CalleeX (X : Cx) (L : List XN) (xa : XN → Addr) (x : Str) (sp : XSp) : Prop where
  ex : ∃ g f fd ps k, FnR g X.prog X.w X.K X.mg X.base (L2.CX X.prog X.w) k f fd ps (liftSpX X.K L xa sp) ∧ (g = true → X.A.guards = some []) ∧ Room k X.A ∧ X.mg x = some (.ref f) ∧ PySem.W.keepIn X.K (.ref f) = true ∧ Binds X.K fd ps []
/-- a method's promise: behind what is handed stand the defaults dd -/
def FnMX (g : Bool) (P : Program) (w : World) (K : PySem.W.Frag) (mg : Str → Option Value) (base : Heap) (L : List XN) (xa : XN → Addr) (k : Nat) (f : Addr) (fd : FuncData) (sp : XSp) : Prop :=
  ∃ (ps : List Str) (dd : List Int) (ds : List Value) (sp0 : XSp), FnR g P w K mg base (L2.CX P w) k f fd ps (liftSpX K L xa sp0) ∧ Binds K fd ps ds ∧ Vals (dd.map V.int) ds ∧ ∀ as h Q Xd, sp as h Q Xd → sp0 (as ++ dd.map D.int) h Q Xd
theorem FnMX.all {g : Bool} {P : Program} {w : World} {K : PySem.W.Frag} {mg : Str → Option Value} {base : Heap} {L : List XN} {xa : XN → Addr} {k : Nat} {f : Addr} {fd : FuncData} {ps : List Str} {sp : XSp} (F : FnR g P w K mg base (L2.CX P w) k f fd ps (liftSpX K L xa sp)) (b : Binds K fd ps []) : FnMX g P w K mg base L xa k f fd sp :=
  ⟨ps, [], [], sp, F, b, .nil, fun as h Q Xd s => by rw [List.map_nil, List.append_nil]; exact s⟩
theorem FnMX.mono {g : Bool} {P : Program} {w : World} {K : PySem.W.Frag} {mg : Str → Option Value} {base : Heap} {L : List XN} {xa : XN → Addr} {j k : Nat} {f : Addr} {fd : FuncData} {sp : XSp} (F : FnMX g P w K mg base L xa j f fd sp) (h : j ≤ k) : FnMX g P w K mg base L xa k f fd sp :=
  let ⟨ps, dd, ds, sp0, a, b⟩ := F; ⟨ps, dd, ds, sp0, a.mono h, b⟩
/-- where nothing is raised -/
theorem FnMX.plain {g : Bool} {P : Program} {w : World} {K : PySem.W.Frag} {mg : Str → Option Value} {base : Heap} {L : List XN} {xa : XN → Addr} {k : Nat} {f : Addr} {fd : FuncData} {sp : XSp} (F : FnMX g P w K mg base L xa k f fd sp) : FnM g P w K mg base k f fd (noX sp) :=
  let ⟨ps, dd, ds, sp0, a, b, c, i⟩ := F; ⟨ps, dd, ds, noX sp0, fnR_noX a, b, c, fun as h Q s => i as h Q _ s⟩
structure MethX (X : Cx) (L : List XN) (xa : XN → Addr) (C : Addr) (m : Str) (sp : XSp) : Prop where
  ex : ∃ g f fd k, Cls X.K C ∧ Meth X.K C m f ∧ FnMX g X.prog X.w X.K X.mg X.base L xa k f fd sp ∧ (g = true → X.A.guards = some []) ∧ Room k X.A
structure CtxX (N : List Str) (G : Glb) (Y : Gx) (F : Fx) (xs : List XSp) (L : List XN) (xa : XN → Addr) (M : Addr) (X : Cx) : Prop extends CtxS N G F X where
  stk : X.stack = X.env :: X.outer
  frm : X.env.frame = some X.env.locals
  xf : ∀ (j : Nat) (x : Str), Y.xf[j]? = some x → ∃ sp, xs[j]? = some sp ∧ CalleeX X L xa x sp
  xm : ∀ (j ci : Nat) (m : Str), (j, ci, m) ∈ Y.xm → ∃ C sp, F.cv[ci]? = some (.ref C) ∧ xs[j]? = some sp ∧ MethX X L xa C m sp
  xw : XWorld X.K X.mg L xa M
  xk : ∀ k ∈ Y.xk, k ∈ L
  own : ∀ k ∈ Y.xk, ∀ f, k.fd = some f → OwnX X (xa k) f
/-- within a try's body -/
theorem CtxX.try_ {N : List Str} {G : Glb} {Y : Gx} {F : Fx} {xs : List XSp} {L : List XN} {xa : XN → Addr} {M : Addr} {X : Cx} (C : CtxX N G Y F xs L xa M X) (pn : List (Addr × Obj)) (xe : Value → Shared → Prop) (hp : PassesOwn (model X.prog X.w) X.A X.env xe) : CtxX N G Y F xs L xa M (X.tr pn xe) where
  hN := C.hN
  nd := C.nd
  calm := C.calm
  hu := C.hu
  grd := C.grd
  bl := C.bl
  cn := C.cn
  fn := fun i x e => let ⟨sp, a, b⟩ := C.fn i x e; ⟨sp, a, ⟨b.ex⟩⟩
  ms := fun j ci m e => let ⟨c, sp, a, b, d⟩ := C.ms j ci m e; ⟨c, sp, a, b, ⟨d.ex⟩⟩
  mks := fun j ci e => let ⟨c, sp, a, b, d⟩ := C.mks j ci e; ⟨c, sp, a, b, ⟨d.ex⟩⟩
  fd := C.fd
  ic := C.ic
  it := C.it
  kw := fun e h => by
    have z := C.kw e h
    cases e with
    | mkx ci f => cases f with
      | none => exact z
      | some f => exact let ⟨c, a, b⟩ := z; ⟨c, a, ⟨b.ex⟩⟩
    | _ => exact z
  pr := fun j ci m e => let ⟨c, sp, a, b, d⟩ := C.pr j ci m e; ⟨c, sp, a, b, ⟨d.ex⟩⟩
  bkd := C.bkd
  fna := C.fna
  hp := hp
  stk := C.stk
  frm := C.frm
  xf := fun j x e => let ⟨sp, a, b⟩ := C.xf j x e; ⟨sp, a, ⟨b.ex⟩⟩
  xm := fun j ci m e => let ⟨c, sp, a, b, d⟩ := C.xm j ci m e; ⟨c, sp, a, b, ⟨d.ex⟩⟩
  xw := C.xw
  xk := C.xk
  own := fun k hk f e => ⟨(C.own k hk f e).ex⟩
/-! ### calls -/
section
variable {X : Cx} {L : List XN} {xa : XN → Addr} {W : WX}
def liftXE (K : PySem.W.Frag) (L : List XN) (xa : XN → Addr) (W : WX) (w : DEnv → DH → WK → WXD → Prop) : TE := fun σ H Q => ∃ ρ h Qd Xd, SR K H ρ σ ∧ HR K h H ∧ w ρ h Qd Xd ∧ Post K h H Qd Q ∧ PostX K L xa h H Xd fun cls d H' => W cls d σ H'
theorem run_x {g : Bool} {k : Nat} {f : Addr} {fd : FuncData} {ps : List Str} {sp : Sp} {pins : List (Addr × Obj)} {σ : L2.St} {H : Hp} {s : Shared} {Q : VK} {us : List Value} {vs : List V} (tk : Takes X W) (F : FnR g X.prog X.w X.K X.mg X.base (L2.CX X.prog X.w) k f fd ps sp) (hg : g = true → X.A.guards = some []) (hr : Room k X.A) (hb : Binds X.K fd ps [])
    (I : Inv X pins σ H s) (r : Vals vs us) (h : sp vs H Q fun cls d H' => W cls d σ H') : wpAny (model X.prog X.w) X.A (call (.ref f) us) (EP X pins σ Q) X.xe s := by
  have b := hb s us I.kIn (by rw [List.append_nil, ← r.length]; exact F.len _ _ _ _ h)
  rw [List.append_nil] at b
  refine wpAny_call (codeAny_mono (F.run X.A X.stack s H ⟨us, []⟩ us vs Q _ hg hr I.env0 b r h) fun res s' hq => ?_)
  match res, hq with
  | .ok (.ret u), hq => exact I.after hq
  | .ok .next, hq => exact hq.elim
  | .ok .brk, hq => exact hq.elim
  | .ok .cont, hq => exact hq.elim
  | .error e, hq => exact tk _ _ (XE.of_call I (fun _ _ _ z => z) hq)
theorem run_xD {g : Bool} {k : Nat} {f : Addr} {fd : FuncData} {ps : List Str} {sp : Sp} {pins : List (Addr × Obj)} {σ : L2.St} {H : Hp} {s : Shared} {Q : VK} {us ds : List Value} {vs dvs : List V} (tk : Takes X W) (F : FnR g X.prog X.w X.K X.mg X.base (L2.CX X.prog X.w) k f fd ps sp) (hg : g = true → X.A.guards = some []) (hr : Room k X.A) (hb : Binds X.K fd ps ds) (hd : Vals dvs ds)
    (I : Inv X pins σ H s) (r : Vals vs us) (h : sp (vs ++ dvs) H Q fun cls d H' => W cls d σ H') : wpAny (model X.prog X.w) X.A (call (.ref f) us) (EP X pins σ Q) X.xe s := by
  have b := hb s us I.kIn (by rw [List.length_append, ← r.length, ← hd.length, ← List.length_append]; exact F.len _ _ _ _ h)
  refine wpAny_call (codeAny_mono (F.run X.A X.stack s H ⟨us, []⟩ (us ++ ds) (vs ++ dvs) Q _ hg hr I.env0 b (r.append hd) h) fun res s' hq => ?_)
  match res, hq with
  | .ok (.ret u), hq => exact I.after hq
  | .ok .next, hq => exact hq.elim
  | .ok .brk, hq => exact hq.elim
  | .ok .cont, hq => exact hq.elim
  | .error e, hq => exact tk _ _ (XE.of_call I (fun _ _ _ z => z) hq)
theorem le_callX (tk : Takes X W) {x : Str} {sp : XSp} (B : CalleeX X L xa x sp) {e : Expr} {es : List Expr} {q pos : Pos} {w : DEnv → DH → (List D → DH → Prop) → Prop} (hg : Gl X x) (hd : (x == ("__debug__" : Str)) = false) (ha : PA X (e :: es) (liftL X.K w))
    (he : starEach (e :: es) X.env = (false, eval e X.env) :: starEach es X.env) (hpl : (backTo pos (starEach es X.env)).any (·.1) = false) : PE X (.Call (.Name x q) (e :: es) [] pos) (liftXE X.K L xa W fun ρ h Q Xd => w ρ h fun ds h1 => sp ds h1 Q Xd) := by
  obtain ⟨g, f, fd, ps, k, Fn, hgd, hr, hm, hk, hb⟩ := B.ex
  refine ⟨fun pins s σ H Q I ⟨ρ, h, Qd, Xd, sr, hrr, w0, p, px⟩ => wpAny_Call_Name_kw (ld_glob I hg hm (PySem.W.callWith_K (h₀ := X.base) I.ok.mod.kin hk (thn (ha.run pos pins s σ H (fun vs H1 => liftSpX X.K L xa sp vs H1 Q fun cls d H' => W cls d σ H') I ⟨ρ, h, _, sr, hrr, w0, fun ds h1 vs H1 e1 rs hr1 w1 => ?_⟩) fun us s1 ⟨vs, H1, J, r, z⟩ => ⟨J.kIn, run_x tk Fn hgd hr hb J r z⟩) he hpl) hd)⟩
  exact ⟨ds, h1, Qd, Xd, rs, hr1, w1, p.later e1, px.later e1⟩
section
variable {sp : XSp} {C : Addr} {m : Str} {o e : Expr} {es : List Expr} {apos cpos : Pos} {wo : DEnv → DH → WK → Prop} {w : DEnv → DH → (List D → DH → Prop) → Prop}
theorem le_methX (tk : Takes X W) (B : MethX X L xa C m sp) (ho : PE X o (lift X.K wo)) (hp : plainB o = true) (hl : (apos.endLine == cpos.line) = true) (ha : PA X (e :: es) (liftL X.K w))
    (hs : starEach (e :: es) X.env = (false, eval e X.env) :: starEach es X.env) (hall : (starEach (e :: es) X.env).all (fun x => !x.1) = true) (hn : (e :: es).length < 20) (hpl : (backTo cpos (starEach es X.env)).any (·.1) = false) :
    PE X (.Call (.Attribute o m apos) (e :: es) [] cpos) (liftXE X.K L xa W fun ρ h Q Xd => wo ρ h fun x h1 => ∃ a fs, x = .ref a ∧ h1 a = some (.ins C fs) ∧ fs.lookup m = none ∧ w ρ h1 fun ds h2 => sp (.ref a :: ds) h2 Q Xd) := by
  obtain ⟨g, f, fd, k, cl, hm, ⟨ps, dd, dvs, sp0, Fn, hb, hd, imp⟩, hgd, hr⟩ := B.ex
  refine ⟨fun pins s σ H Q I ⟨ρ, h, Qd, Xd, sr, hrr, w0, p, px⟩ => ?_⟩
  refine PySem.W.methodCall_KW (pl := _) (thn (ho.run pins s σ H (fun v H1 => ∃ (a : Addr) (dx : Addr) (gs : List (Str × V)), v = V.ref a ∧ H1 a = some (.ins C dx gs) ∧ gs.lookup m = none ∧ ∃ h1, Ext h H h1 H1 ∧ HR X.K h1 H1 ∧ w ρ h1 fun ds h2 => sp (.ref a :: ds) h2 Qd Xd) I ⟨ρ, h, _, sr, hrr, w0, fun x h1 vx H1 e1 rx hr1 w1 => ?_⟩) fun u s1 ⟨x, H1, I1, rx, a, dx, gs, ex, ea, l, h1, e1, hr1, w1⟩ => ?_) (meth_eval (attr_base hp) (few_of (back_all hall) hn) hl)
  · obtain ⟨a, fs, rfl, ea, l, q⟩ := w1
    cases rx
    obtain ⟨dx, gs, eg, fr⟩ := hr1 _ _ ea
    exact ⟨a, dx, gs, rfl, eg, (fr.look (f := m)).2 l, h1, e1, hr1, q⟩
  · subst ex
    obtain rfl : u = Value.ref a := rx
    refine getmeth_ok I1 ea cl hm l ?_
    refine PySem.W.callWith_K (first := [.ref a]) (h₀ := X.base) I1.ok.mod.kin hm.kp (thn (ha.run cpos pins s1 σ H1 (fun vs H2 => liftSpX X.K L xa sp0 (V.ref a :: vs ++ dd.map V.int) H2 Q fun cls d H' => W cls d σ H') I1 ⟨ρ, h1, _, sr.ext e1, hr1, w1, fun ds h2 vs H2 e2 rs hr2 w2 => ?_⟩) fun us s2 ⟨vs, H2, I2, r, z⟩ => ⟨I2.kIn, ?_⟩) hs hpl
    · exact ⟨.ref a :: (ds ++ dd.map D.int), h2, Qd, Xd, .cons rfl (rs.append (vals_D dd)), hr2, imp (.ref a :: ds) h2 Qd Xd w2, p.later (e1.trans e2), px.later (e1.trans e2)⟩
    · exact run_xD (us := .ref a :: us) (vs := .ref a :: vs) tk Fn hgd hr hb hd I2 (.cons rfl r) z
theorem le_methX0 (tk : Takes X W) (B : MethX X L xa C m sp) (ho : PE X o (lift X.K wo)) (hp : plainB o = true) (hl : (apos.endLine == cpos.line) = true) :
    PE X (.Call (.Attribute o m apos) [] [] cpos) (liftXE X.K L xa W fun ρ h Q Xd => wo ρ h fun x h1 => ∃ a fs, x = .ref a ∧ h1 a = some (.ins C fs) ∧ fs.lookup m = none ∧ sp [.ref a] h1 Q Xd) := by
  obtain ⟨g, f, fd, k, cl, hm, ⟨ps, dd, dvs, sp0, Fn, hb, hd, imp⟩, hgd, hr⟩ := B.ex
  refine ⟨fun pins s σ H Q I ⟨ρ, h, Qd, Xd, sr, hrr, w0, p, px⟩ => ?_⟩
  refine PySem.W.methodCall_KW (pl := _) (thn (ho.run pins s σ H (fun v H1 => ∃ (a : Addr) (dx : Addr) (gs : List (Str × V)), v = V.ref a ∧ H1 a = some (.ins C dx gs) ∧ gs.lookup m = none ∧ liftSpX X.K L xa sp0 ([V.ref a] ++ dd.map V.int) H1 Q fun cls d H' => W cls d σ H') I ⟨ρ, h, _, sr, hrr, w0, fun x h1 vx H1 e1 rx hr1 w1 => ?_⟩) fun u s1 ⟨x, H1, I1, rx, a, dx, gs, ex, ea, l, z⟩ => ?_) (meth_eval (args := []) (attr_base hp) (few_of rfl (by decide)) hl)
  · obtain ⟨a, fs, rfl, ea, l, q⟩ := w1
    cases rx
    obtain ⟨dx, gs, eg, fr⟩ := hr1 _ _ ea
    exact ⟨a, dx, gs, rfl, eg, (fr.look (f := m)).2 l, .ref a :: dd.map D.int, h1, Qd, Xd, .cons rfl (vals_D dd), hr1, imp [.ref a] h1 Qd Xd q, p.later e1, px.later e1⟩
  · subst ex
    obtain rfl : u = Value.ref a := rx
    refine getmeth_ok I1 ea cl hm l ?_
    exact PySem.W.callWith_K0 (first := [.ref a]) I1.kIn hm.kp (run_xD (us := [.ref a]) (vs := [.ref a]) tk Fn hgd hr hb hd I1 (.cons rfl .nil) z)
end
theorem le_iteX {wc : DEnv → DH → WK → Prop} {wa wb : DEnv → DH → WK → WXD → Prop} {c a b : Expr} {pos : Pos} (hc : PT X c (liftB X.K (wB wc))) (ha : PE X a (liftXE X.K L xa W wa)) (hb : PE X b (liftXE X.K L xa W wb)) :
    PE X (.IfExp c a b pos) (liftXE X.K L xa W fun ρ h Q Xd => wc ρ h fun x h1 => boolW x fun k => iteW k (wa ρ h1 Q Xd) (wb ρ h1 Q Xd)) := by
  refine pe_imp (pe_ifExp hc ha hb) fun σ H Q ⟨ρ, h, Qd, Xd, sr, hr, w, p, px⟩ => ⟨ρ, h, _, sr, hr, w, fun k h1 H1 e1 hr1 w1 => ?_⟩
  cases k with
  | true => exact (if_pos rfl).mpr ⟨ρ, h1, Qd, Xd, sr.ext e1, hr1, w1, p.later e1, px.later e1⟩
  | false => exact (if_neg Bool.false_ne_true).mpr ⟨ρ, h1, Qd, Xd, sr.ext e1, hr1, w1, p.later e1, px.later e1⟩
end
section
variable {N : List Str} {G : Glb} {Y : Gx} {F : Fx} {xs : List XSp} {L : List XN} {xa : XN → Addr} {M : Addr}
theorem nth_at {α : Type} : ∀ {l : List α} {i : Nat} {a : α} {k : α → Prop}, l[i]? = some a → nthW l i k = k a := fun {l i a k} e => nthW_eq _ e
theorem sndXC {W : WX} : ∀ (c : XC) {X : Cx} {e : Expr}, CtxX N G Y F xs L xa M X → Takes X W → chkXC N G Y c X.env.scope e = true → PE X e (liftXE X.K L xa W (wpXC F xs c))
  | .call j cs, X, e, C, tk, h => by
    unfold chkXC at h
    split at h
    · rename_i x px y es pos
      obtain ⟨h, h4⟩ := band h
      obtain ⟨h, h3⟩ := band h
      obtain ⟨h1, h2⟩ := band h
      obtain ⟨sp, e1, B⟩ := C.xf j x (of_decide_eq_true h1)
      have hs := star_all X.env h4
      have hy : starEach (y :: es) X.env = (false, eval y X.env) :: starEach es X.env := by
        cases cs with
        | nil => exact absurd h4 Bool.false_ne_true
        | cons c r =>
          have h5 : chkE N G c X.env.scope y = true ∧ chkL N G r X.env.scope es = true := by simpa [chkL] using h4
          exact star_cons (noStar h5.1).1
      rw [hy, List.all_cons, Bool.and_eq_true] at hs
      refine pe_imp (le_callX tk B (glob_of rfl h2) (okName_of h3).1 (sndL cs C.toCtx h4) hy (back_any hs.2)) fun σ H Q ⟨ρ, h, Qd, Xd, sr, hr, w, p, px⟩ => ⟨ρ, h, Qd, Xd, sr, hr, ?_, p, px⟩
      have w : wpL F cs ρ h fun ds h1 => nthW xs j fun sp => sp ds h1 Qd Xd := w
      have ext : (fun ds h1 => nthW xs j fun sp => sp ds h1 Qd Xd) = fun ds h1 => sp ds h1 Qd Xd := by
        funext ds h1
        exact nth_at e1
      rw [ext] at w
      exact w
    · cases h
  | .meth j ci m o cs, X, e, C, tk, h => by
    have ext : ∀ (c : Addr) (sp : XSp), F.cv[ci]? = some (.ref c) → xs[j]? = some sp → ∀ (Qd : WK) (Xd : WXD) (ρ : DEnv), (fun (x : D) (h1 : DH) => nthW F.cv ci fun c => refW c fun C => ∃ a fs, x = .ref a ∧ h1 a = some (.ins C fs) ∧ fs.lookup m = none ∧ wpL F cs ρ h1 fun ds h2 => nthW xs j fun sp => sp (.ref a :: ds) h2 Qd Xd) =
        fun x h1 => ∃ a fs, x = .ref a ∧ h1 a = some (.ins c fs) ∧ fs.lookup m = none ∧ wpL F cs ρ h1 fun ds h2 => sp (.ref a :: ds) h2 Qd Xd := by
      intro c sp e1 e2 Qd Xd ρ
      funext x h1
      rw [nth_at e1]
      have : ∀ a : Addr, (fun (ds : List D) (h2 : DH) => nthW xs j fun sp => sp (.ref a :: ds) h2 Qd Xd) = fun ds h2 => sp (.ref a :: ds) h2 Qd Xd := fun a => by
        funext ds h2
        rw [nth_at e2]
      simp only [refW, this]
    unfold chkXC at h
    split at h
    · rename_i y g apos z es pos
      obtain ⟨h, h7⟩ := band h
      obtain ⟨h, h6⟩ := band h
      obtain ⟨h, h5⟩ := band h
      obtain ⟨h, h4⟩ := band h
      obtain ⟨h, h3⟩ := band h
      obtain ⟨h1, h2⟩ := band h
      have h1 := of_decide_eq_true h1
      subst h1
      have h4 := of_decide_eq_true h4
      obtain ⟨c, sp, e1, e2, B⟩ := C.xm j ci m (by simpa using h2)
      have hs := star_all X.env h7
      have hy : starEach (z :: es) X.env = (false, eval z X.env) :: starEach es X.env := by
        cases cs with
        | nil => exact absurd h7 Bool.false_ne_true
        | cons c r =>
          have h5 : chkE N G c X.env.scope z = true ∧ chkL N G r X.env.scope es = true := by simpa [chkL] using h7
          exact star_cons (noStar h5.1).1
      have hs2 := hs
      rw [hy, List.all_cons, Bool.and_eq_true] at hs2
      refine pe_imp (le_methX tk B (sndE o C.toCtx h6).pe h5 h3 (sndL cs C.toCtx h7) hy hs h4 (back_any hs2.2)) fun σ H Q ⟨ρ, h, Qd, Xd, sr, hr, w, p, px⟩ => ⟨ρ, h, Qd, Xd, sr, hr, ?_, p, px⟩
      have w : wpE F o ρ h fun (x : D) (h1 : DH) => nthW F.cv ci fun c => refW c fun C => ∃ a fs, x = .ref a ∧ h1 a = some (.ins C fs) ∧ fs.lookup m = none ∧ wpL F cs ρ h1 fun ds h2 => nthW xs j fun sp => sp (.ref a :: ds) h2 Qd Xd := w
      rw [ext c sp e1 e2] at w
      exact w
    · rename_i y g apos pos
      obtain ⟨h, h7⟩ := band h
      obtain ⟨h, h6⟩ := band h
      obtain ⟨h, h5⟩ := band h
      obtain ⟨h, h3⟩ := band h
      obtain ⟨h1, h2⟩ := band h
      have h1 := of_decide_eq_true h1
      subst h1
      obtain ⟨c, sp, e1, e2, B⟩ := C.xm j ci m (by simpa using h2)
      cases cs with
      | cons _ _ => cases h7
      | nil =>
        refine pe_imp (le_methX0 tk B (sndE o C.toCtx h6).pe h5 h3) fun σ H Q ⟨ρ, h, Qd, Xd, sr, hr, w, p, px⟩ => ⟨ρ, h, Qd, Xd, sr, hr, ?_, p, px⟩
        have w : wpE F o ρ h fun (x : D) (h1 : DH) => nthW F.cv ci fun c => refW c fun C => ∃ a fs, x = .ref a ∧ h1 a = some (.ins C fs) ∧ fs.lookup m = none ∧ wpL F .nil ρ h1 fun ds h2 => nthW xs j fun sp => sp (.ref a :: ds) h2 Qd Xd := w
        rw [ext c sp e1 e2] at w
        exact w
    · cases h
  | .ite c a b, X, e, C, tk, h => by
    unfold chkXC at h
    split at h
    · obtain ⟨h, h4⟩ := band h
      obtain ⟨h, h3⟩ := band h
      obtain ⟨h1, h2⟩ := band h
      exact le_iteX ((sndE c C.toCtx h2).pt h1) (sndXC a C tk h3) (sndXC b C tk h4)
    · cases h
end
end DL

set_option Elab.async false
set_option linter.all false
set_option maxRecDepth 100000
set_option maxHeartbeats 4000000
/-! DX4: what the check says holds: the suite of a clause. -/
namespace DL
open PySem PySem.Spec PyProof.Rows L2
section
variable {K : PySem.W.Frag} {L : List XN} {h h' : DH} {H H' : Hp} {k : XN} {v : Option D} {d : Option Addr}
theorem HR.not_fp_x (r : HR K h H) {b : Addr} {fs : List (Str × V)} (e : H b = some (.xd fs)) : ¬ FP h H b := by
  rintro (f | ⟨a, ea, q⟩)
  · cases z : h b with
    | none => exact f z
    | some o =>
      have w := r b o z
      cases o with
      | lst xs => obtain ⟨_, y, _⟩ := w; rw [e] at y; cases y
      | dk xs => obtain ⟨_, y, _⟩ := w; rw [e] at y; cases y
      | dt xs => obtain ⟨_, y, _⟩ := w; rw [e] at y; cases y
      | fz xs => obtain ⟨_, _, y, _⟩ := w; rw [e] at y; cases y
      | ins C fs => obtain ⟨_, _, y, _⟩ := w; rw [e] at y; cases y
      | deck => obtain ⟨_, _, _, _, _, y, _⟩ := w.ex; rw [e] at y; cases y
  · obtain ⟨xs, z⟩ := r.priv_some ea q
    rw [e] at z; cases z
theorem XAt.ext (x : XAt K L H k v d) (r : HR K h H) (e : Ext h H h' H') : XAt K L H' k v d := by
  obtain ⟨m, x⟩ := x
  refine ⟨m, ?_⟩
  generalize k.fd = o at x ⊢
  cases o <;> cases v <;> first | exact x | exact x.elim | (obtain ⟨dx, u, a, b, c⟩ := x; exact ⟨dx, u, a, e.frame _ _ b (r.not_fp_x b), e.vr c⟩)
theorem XAt.dict (x : XAt K L H k v d) : ∀ dd, d = some dd → ∃ fs, H dd = some (.xd fs) := by
  obtain ⟨m, x⟩ := x
  intro dd e
  subst e
  generalize k.fd = o at x
  cases o <;> cases v <;> first | exact x.elim | (obtain ⟨dx, u, a, b, c⟩ := x; cases a; exact ⟨_, b⟩) | cases x
end
/-- isinstance of the caught error, with or without a part of its own -/
def rIsX (K : PySem.W.Frag) (D a : Addr) (d : Option Addr) : List V → Hp → VK → Prop := fun xs H Q => ∃ (c : V) (cv : Value) (b : Bool), xs = [.ref a, c] ∧ (∀ u, RelV c u → u = cv) ∧ PySem.W.kitOne K (.ref D) cv = some b ∧ (∀ dd, d = some dd → ∃ fs, H dd = some (.xd fs)) ∧ Q (.bl b) H
theorem call_isX {X : Cx} {a D : Addr} {d : Option Addr} {oe : Obj} {pn : List (Addr × Obj)} (C : ExcC X.K D) (hz : Zc (.ref D) d oe) (hf : ∃ vs, oe.data = .fields vs) : CallR (X.suite a ((a, oe) :: pn)) (.builtin "isinstance") (rIsX X.K D a d) := by
  rintro pins s σ H xs us Q I r ⟨c, cv, b, rfl, hcv, ek, hd, q⟩
  match r with
  | .cons rx (.cons rt .nil) =>
    cases rx
    have ec := hcv _ rt
    subst ec
    have hget := (I.pin (a, oe) (List.mem_append.mpr (.inl List.mem_cons_self))).1
    obtain ⟨vs, hv⟩ := hf
    have nc : PySem.W.notCls oe = true := by unfold PySem.W.notCls; rw [hv] <;> rfl
    obtain ⟨od, J⟩ : ∃ od, PySem.W.InstAt s.heap a oe D od := by
      cases d with
      | none => exact ⟨none, hget, hz.1, nc, by rw [hz.2]; trivial⟩
      | some dd =>
        obtain ⟨fs, ed⟩ := hd dd rfl
        obtain ⟨mA, hns, _⟩ := show ObjOk X.prog X.w H s.heap dd (.xd fs) from I.hok dd _ ed
        obtain ⟨od, ho, _⟩ := lookIn_ns hns
        exact ⟨some od, hget, hz.1, nc, by rw [hz.2]; exact ho⟩
    have hcl : (PySem.W.clsIn X.K D).isSome = true := by
      obtain ⟨cd, hc, _⟩ := PySem.W.any_some C.hd
      rw [hc]; rfl
    exact PySem.W.kia_one (PySem.W.kitx_exc hcl C.hg C.hk C.hs C.ha C.hn C.ht C.hm) I.kIn J ek (fun z => nomatch z) fun tk => ⟨.bl b, H, I.kept (t' := tk) fun _ _ z => z, rfl, q⟩
theorem pe_len {X : Cx} {e : Expr} {t t' : TE} (p : PE X e t) (k : ∀ σ H Q, σ.length = X.N.length → t' σ H Q → t σ H Q) : PE X e t' := ⟨fun pins s σ H Q I h => p.run pins s σ H Q I (k σ H Q I.len h)⟩
def onN (n : Option Nat) (a : Addr) (σ : L2.St) : Prop := ∀ i, n = some i → i < σ.length → σ[i]? = some (some (.ref a))
def xDict (d : Option Addr) (H : Hp) : Prop := ∀ dd, d = some dd → ∃ fs, H dd = some (.xd fs)
def tTst (n : Option Nat) (a : Addr) (d : Option Addr) (b : Bool) : TE := fun σ H Q => onN n a σ ∧ xDict d H ∧ Q (.bl b) H
def tTstB (n : Option Nat) (a : Addr) (d : Option Addr) (b : Bool) : TT := fun σ H Q => onN n a σ ∧ xDict d H ∧ Q b H
def tU (K : PySem.W.Frag) (L : List XN) (n : Option Nat) (a : Addr) (k : XN) (v : Option D) (d : Option Addr) (w : DEnv → DH → WK → Prop) : TE := fun σ H Q => ∃ ρ h Qd, SR K H ρ σ ∧ HR K h H ∧ onN n a σ ∧ XAt K L H k v d ∧ w ρ h Qd ∧ Post K h H Qd Q
def tUL (K : PySem.W.Frag) (L : List XN) (n : Option Nat) (a : Addr) (k : XN) (v : Option D) (d : Option Addr) (w : DEnv → DH → (List D → DH → Prop) → Prop) : TA := fun σ H Q => ∃ ρ h Qd, SR K H ρ σ ∧ HR K h H ∧ onN n a σ ∧ XAt K L H k v d ∧ w ρ h Qd ∧ PostL K h H Qd Q
def tUS (K : PySem.W.Frag) (L : List XN) (n : Option Nat) (a : Addr) (k : XN) (v : Option D) (d : Option Addr) (w : DEnv → DH → (DEnv → DH → Prop) → Prop) : TS := fun D σ H => ∃ ρ h nx, SR K H ρ σ ∧ HR K h H ∧ onN n a σ ∧ XAt K L H k v d ∧ w ρ h nx ∧ PostN K h H nx D.nx
theorem pe_tU {X : Cx} {e : Expr} {L : List XN} {n : Option Nat} {a : Addr} {k : XN} {v : Option D} {d : Option Addr} {w : DEnv → DH → WK → Prop} (p : PE X e (lift X.K w)) : PE X e (tU X.K L n a k v d w) := pe_imp p fun σ H Q ⟨ρ, h, Qd, sr, hr, _, _, q, p⟩ => ⟨ρ, h, Qd, sr, hr, q, p⟩
theorem name_ok (k : XN) : (k.name == ("__debug__" : Str)) = false := by cases k <;> decide
section
variable {N : List Str} {G : Glb} {Y : Gx} {F : Fx} {xs : List XSp} {L : List XN} {xa : XN → Addr} {M : Addr} {X : Cx} {n : Option Nat} {a : Addr} {oe : Obj} {pn : List (Addr × Obj)} {k : XN} {v : Option D} {d : Option Addr}
theorem len_of (C : CtxX N G Y F xs L xa M X) {i : Nat} {x : Str} (h : N[i]? = some x) {σ : L2.St} (l : σ.length = X.N.length) : i < σ.length := by
  rw [l, C.hN]
  exact (List.getElem?_eq_some_iff.mp h).1
theorem st_pe (C : CtxX N G Y F xs L xa M X) (hk : k ∈ L) (hz : Zc (.ref (xa k)) d oe) (hf : ∃ vs, oe.data = .fields vs) : ∀ (t : ST) {e : Expr}, isAnd t = false → chkST N Y n t X.env.scope e = true → PE (X.suite a ((a, oe) :: pn)) e (tTst n a d (evT k t))
  | .isx i k', e, _, h => by
    unfold chkST at h
    split at h
    · rename_i x p y py z pz pos
      have h' : ((((((((x = "isinstance" ∧ globB X.env.scope x = true) ∧ n = some i) ∧ N[i]? = some y) ∧ seenB X.env.scope y = true) ∧ okName y = true) ∧ z = k'.name) ∧ globB X.env.scope z = true) ∧ Y.xk.contains k' = true) := by simpa using h
      obtain ⟨⟨⟨⟨⟨⟨⟨⟨rfl, h1⟩, h2⟩, h3⟩, h4⟩, h5⟩, rfl⟩, h6⟩, h7⟩ := h'
      have hk' := C.xk k' (by simpa using h7)
      obtain ⟨n1, n2⟩ := okName_of h5
      exact pe_len (pe_callB (call_isX (C.xw.is_ k hk) hz hf) (glob_of rfl h1) C.xw.noI (by decide +kernel) (pa_cons (pe_var (i := i) (by show X.N[i]? = _; rw [C.hN]; exact h3) (seen_of rfl h4) n1 n2) (pa_cons (pe_glob (v := .ref (xa k')) (glob_of rfl h6) (C.xw.at_ k' hk') rfl (name_ok k')) pa_nil rfl) rfl) (by decide) (by decide) rfl rfl)
        fun σ H Q l ⟨on, hd, q⟩ => ⟨.ref a, on i h2 (len_of C h3 l), .ref (xa k'), .ref (xa k'), decide (k = k'), rfl, fun u r => r, C.xw.kit k hk k' hk', hd, q⟩
    · cases h
  | .isv i, e, _, h => by
    unfold chkST at h
    split at h
    · rename_i x p y py z pz pos
      have h' : ((((((((x = "isinstance" ∧ globB X.env.scope x = true) ∧ n = some i) ∧ N[i]? = some y) ∧ seenB X.env.scope y = true) ∧ okName y = true) ∧ z = "ValueError") ∧ globB X.env.scope z = true)) := by simpa using h
      obtain ⟨⟨⟨⟨⟨⟨⟨rfl, h1⟩, h2⟩, h3⟩, h4⟩, h5⟩, rfl⟩, h6⟩ := h'
      obtain ⟨n1, n2⟩ := okName_of h5
      exact pe_len (pe_callB (call_isX (C.xw.is_ k hk) hz hf) (glob_of rfl h1) C.xw.noI (by decide +kernel) (pa_cons (pe_var (i := i) (by show X.N[i]? = _; rw [C.hN]; exact h3) (seen_of rfl h4) n1 n2) (pa_cons (pe_bltn (v := .ty "ValueError") (glob_of rfl h6) C.xw.noV (by decide +kernel) rfl (by decide) (by decide)) pa_nil rfl) rfl) (by decide) (by decide) rfl rfl)
        fun σ H Q l ⟨on, hd, q⟩ => ⟨.ref a, on i h2 (len_of C h3 l), .ty "ValueError", .type "ValueError", true, rfl, fun u r => r, C.xw.kitV k hk, hd, q⟩
    · cases h
  | .and _ _, e, z, _ => by cases z
theorem st_pt (C : CtxX N G Y F xs L xa M X) (hk : k ∈ L) (hz : Zc (.ref (xa k)) d oe) (hf : ∃ vs, oe.data = .fields vs) : ∀ (t : ST) {e : Expr}, chkST N Y n t X.env.scope e = true → PT (X.suite a ((a, oe) :: pn)) e (tTstB n a d (evT k t))
  | .isx i k', e, h => by
    have p := st_pe (n := n) (a := a) (pn := pn) C hk hz hf (.isx i k') rfl h
    have pl : plainT e = true := by
      unfold chkST at h
      split at h
      · rfl
      · cases h
    exact pt_imp (pt_val p (plain_true pl _)) fun σ H Q ⟨on, hd, q⟩ => ⟨on, hd, _, rfl, q⟩
  | .isv i, e, h => by
    have p := st_pe (n := n) (a := a) (pn := pn) C hk hz hf (.isv i) rfl h
    have pl : plainT e = true := by
      unfold chkST at h
      split at h
      · rfl
      · cases h
    exact pt_imp (pt_val p (plain_true pl _)) fun σ H Q ⟨on, hd, q⟩ => ⟨on, hd, _, rfl, q⟩
  | .and t u, e, h => by
    unfold chkST at h
    split at h
    · obtain ⟨h1, h2⟩ := band h
      refine pt_imp (pw_and (st_pt C hk hz hf t h1) (pw_and1 (st_pt C hk hz hf u h2))).pt fun σ H Q ⟨on, hd, q⟩ => ⟨on, hd, ?_⟩
      cases z : evT k t with
      | true => exact (if_pos rfl).mpr ⟨on, hd, by simpa [evT, z] using q⟩
      | false => exact (if_neg Bool.false_ne_true).mpr (by simpa [evT, z] using q)
    · cases h
theorem sa_ns : ∀ (c : SA) {sc : Scope} {e : Expr}, chkSA N Y n c sc e = true → ∀ v p, e ≠ .Starred v p := by
  intro c sc e h v p z
  subst z
  cases c with
  | tst t => cases t <;> simp [chkSA, chkST, isAnd] at h
  | _ => exact absurd h Bool.false_ne_true
theorem sa_pe (C : CtxX N G Y F xs L xa M X) (hk : k ∈ L) (hz : Zc (.ref (xa k)) d oe) (hf : ∃ vs, oe.data = .fields vs) (c : SA) {e : Expr} (h : chkSA N Y n c X.env.scope e = true) :
    PE (X.suite a ((a, oe) :: pn)) e (tU X.K L n a k v d fun ρ h Q => ∃ x, atomD k v ρ c = some x ∧ Q x h) := by
  cases c with
  | var i =>
    dsimp only [chkSA] at h
    split at h
    · rename_i x p
      have h' : (N[i]? = some x ∧ seenB X.env.scope x = true) ∧ okName x = true := by simpa using h
      obtain ⟨n1, n2⟩ := okName_of h'.2
      refine pe_imp (pe_var (i := i) (by show X.N[i]? = _; rw [C.hN]; exact h'.1.1) (seen_of rfl h'.1.2) n1 n2) fun σ H Q ⟨ρ, h, Qd, sr, hr, on, xt, ⟨x, ex, q⟩, p⟩ => ?_
      have : ρ[i]? = some (some x) := by
        have ex : (ρ[i]?).bind id = some x := ex
        cases z : ρ[i]? with
        | none => rw [z] at ex; cases ex
        | some o => rw [z] at ex; exact congrArg some ex
      obtain ⟨v', e1, r⟩ := sr.2 i x this
      exact ⟨v', e1, p.here hr q r⟩
    · cases h
  | int i =>
    dsimp only [chkSA] at h
    split at h
    · rename_i j jj pos
      have h : i = j := by simpa using h
      subst h
      exact pe_imp pe_int fun σ H Q ⟨ρ, h, Qd, sr, hr, on, xt, ⟨x, ex, q⟩, p⟩ => by cases ex; exact p.here hr q rfl
    · rename_i j jj pos pos2
      have h : i = -j := by simpa using h
      subst h
      refine pe_tU (X := X.suite a ((a, oe) :: pn)) (pe_imp (le_un (X := X.suite a ((a, oe) :: pn)) (wa := fun ρ h Q => Q (.int j) h) (pe_imp pe_int fun σ H Q ⟨ρ, h, Qd, sr, hr, w, p⟩ => p.here hr w rfl)) fun σ H Q ⟨ρ, h, Qd, sr, hr, ⟨x, ex, q⟩, p⟩ => ⟨ρ, h, Qd, sr, hr, ?_, p⟩)
      cases ex
      exact q
    · cases h
  | str i =>
    dsimp only [chkSA] at h
    split at h
    · have h := of_decide_eq_true h
      subst h
      exact pe_imp pe_str fun σ H Q ⟨ρ, h, Qd, sr, hr, on, xt, ⟨x, ex, q⟩, p⟩ => by cases ex; exact p.here hr q rfl
    · cases h
  | bl i =>
    dsimp only [chkSA] at h
    split at h
    · have h := of_decide_eq_true h
      subst h
      exact pe_imp pe_bl fun σ H Q ⟨ρ, h, Qd, sr, hr, on, xt, ⟨x, ex, q⟩, p⟩ => by cases ex; exact p.here hr q rfl
    · cases h
  | non =>
    dsimp only [chkSA] at h
    split at h
    · exact pe_imp pe_non fun σ H Q ⟨ρ, h, Qd, sr, hr, on, xt, ⟨x, ex, q⟩, p⟩ => by cases ex; exact p.here hr q rfl
    · cases h
  | tst t =>
    obtain ⟨h1, h2⟩ := band (show (!isAnd t && chkST N Y n t X.env.scope e) = true from h)
    exact pe_imp (st_pe (n := n) (a := a) (pn := pn) C hk hz hf t (by simpa using h1) h2) fun σ H Q ⟨ρ, h, Qd, sr, hr, on, xt, ⟨x, ex, q⟩, p⟩ => ⟨on, xt.dict, by cases ex; exact p.here hr q rfl⟩
  | fld i k' =>
    dsimp only [chkSA] at h
    split at h
    · rename_i y py f pos
      have h' : (((((n = some i ∧ N[i]? = some y) ∧ seenB X.env.scope y = true) ∧ okName y = true) ∧ k'.fd = some f) ∧ Y.xk.contains k' = true) := by simpa using h
      obtain ⟨⟨⟨⟨⟨h2, h3⟩, h4⟩, h5⟩, hfd⟩, h7⟩ := h'
      have hk' := C.xk k' (by simpa using h7)
      obtain ⟨n1, n2⟩ := okName_of h5
      refine pe_len (pe_xf (C.xw.fld k' hk' f hfd).1 (C.xw.fld k' hk' f hfd).2 hz hf (pe_var (i := i) (by show X.N[i]? = _; rw [C.hN]; exact h3) (seen_of rfl h4) n1 n2) rfl) fun σ H Q l ⟨ρ, h, Qd, sr, hr, on, xt, ⟨x, ex, q⟩, p⟩ => ?_
      have ex : (if k = k' then v else none) = some x := ex
      by_cases z : k = k'
      · subst z
        rw [if_pos rfl] at ex
        subst ex
        obtain ⟨_, xt⟩ := xt
        rw [hfd] at xt
        obtain ⟨dx, u, ed, eh, r⟩ := xt
        exact ⟨.ref a, on i h2 (len_of C h3 l), rfl, rfl, dx, _, u, ed, eh, by simp, p.here hr q r⟩
      · rw [if_neg z] at ex
        cases ex
    · cases h
theorem sas_pa (C : CtxX N G Y F xs L xa M X) (hk : k ∈ L) (hz : Zc (.ref (xa k)) d oe) (hf : ∃ vs, oe.data = .fields vs) : ∀ (cs : List SA) {es : List Expr}, chkSAs N Y n cs X.env.scope es = true →
    PA (X.suite a ((a, oe) :: pn)) es (tUL X.K L n a k v d fun ρ h Q => ∃ xs, atomsD k v ρ cs = some xs ∧ Q xs h)
  | [], es, h => by
    cases es with
    | nil => exact pa_imp pa_nil fun σ H Q ⟨ρ, h, Qd, sr, hr, on, xt, ⟨x, ex, q⟩, p⟩ => by cases ex; exact p [] h [] H (Ext.refl _ _) rfl hr q
    | cons e es => exact absurd h Bool.false_ne_true
  | c :: r, es, h => by
    cases es with
    | nil => exact absurd h Bool.false_ne_true
    | cons e es =>
      obtain ⟨h1, h2⟩ := band h
      refine pa_imp (pa_cons (sa_pe (v := v) (a := a) (pn := pn) C hk hz hf c h1) (sas_pa C hk hz hf r h2) (star_cons (sa_ns c h1))) fun σ H Q ⟨ρ, h, Qd, sr, hr, on, xt, ⟨ys, ex, q⟩, p⟩ => ?_
      have ex : ((atomD k v ρ c).bind fun x => (atomsD k v ρ r).map fun xs => x :: xs) = some ys := ex
      obtain ⟨x, e1, ex⟩ := Option.bind_eq_some_iff.mp ex
      obtain ⟨zs, e2, rfl⟩ := Option.map_eq_some_iff.mp ex
      refine ⟨ρ, h, fun x' h' => x' = x ∧ h' = h, sr, hr, on, xt, ⟨x, e1, rfl, rfl⟩, fun x' h1 vx H1 ee rx hr1 ⟨y1, y2⟩ => ?_⟩
      subst y1 y2
      refine ⟨ρ, h1, fun xs' h' => xs' = zs ∧ h' = h1, sr.ext ee, hr1, on, xt.ext hr ee, ⟨zs, e2, rfl, rfl⟩, fun xs' h2 vs H2 e2 rs hr2 ⟨y1, y2⟩ => ?_⟩
      subst y1 y2
      exact p _ _ _ _ (ee.trans e2) (.cons (e2.vr rx) rs) hr2 q
theorem se_pe (C : CtxX N G Y F xs L xa M X) (hk : k ∈ L) (hz : Zc (.ref (xa k)) d oe) (hf : ∃ vs, oe.data = .fields vs) : ∀ (c : SE) {e : Expr}, chkSE N Y n c X.env.scope e = true → PE (X.suite a ((a, oe) :: pn)) e (tU X.K L n a k v d (wpSE k v c))
  | .at_ c, e, h => sa_pe C hk hz hf c h
  | .lst cs, e, h => by
    unfold chkSE at h
    split at h
    · refine pe_imp (pe_lst (sas_pa (v := v) (a := a) (pn := pn) C hk hz hf cs h)) fun σ H Q ⟨ρ, h, Qd, sr, hr, on, xt, ⟨ys, ex, hl, q⟩, p⟩ => ?_
      refine ⟨ρ, h, fun xs' h' => xs' = ys ∧ h' = h, sr, hr, on, xt, ⟨ys, ex, rfl, rfl⟩, fun ds h1 vs H1 e1 rs hr1 ⟨y1, y2⟩ => ?_⟩
      subst y1 y2
      exact ⟨by rw [sizeLine_eq, ← rs.length]; exact hl, fun q' nq => (p.later e1).lst hr1 rs q nq⟩
    · cases h
  | .ite t b c, e, h => by
    unfold chkSE at h
    split at h
    · obtain ⟨h, h3⟩ := band h
      obtain ⟨h1, h2⟩ := band h
      refine pe_imp (pe_ifExp (st_pt (n := n) (a := a) (pn := pn) C hk hz hf t h1) (se_pe C hk hz hf b h2) (se_pe C hk hz hf c h3)) fun σ H Q ⟨ρ, h, Qd, sr, hr, on, xt, w, p⟩ => ⟨on, xt.dict, ?_⟩
      have w : iteW (evT k t) (wpSE k v b ρ h Qd) (wpSE k v c ρ h Qd) := w
      cases z : evT k t with
      | true => rw [z] at w; exact (if_pos rfl).mpr ⟨ρ, h, Qd, sr, hr, on, xt, w, p⟩
      | false => rw [z] at w; exact (if_neg Bool.false_ne_true).mpr ⟨ρ, h, Qd, sr, hr, on, xt, w, p⟩
    · cases h
theorem swaps_nc {e : Expr} {x : Str} {p : Pos} {line : Nat} {env : Env} (h : noComp e = true) : swapsWith e (some (.Name x p)) line env = pure false := by
  cases e with
  | ListComp _ _ _ _ => cases h
  | SetComp _ _ _ _ => cases h
  | DictComp _ _ _ _ _ => cases h
  | _ => rfl
theorem su_pss (C : CtxX N G Y F xs L xa M X) (hk : k ∈ L) (hz : Zc (.ref (xa k)) d oe) (hf : ∃ vs, oe.data = .fields vs) : ∀ (l : List (Nat × SE)) {st : List Stmt}, chkSu N Y X.env.scope n l st = true → PSs (X.suite a ((a, oe) :: pn)) st (tUS X.K L n a k v d (wpSu k v l))
  | [], st, h => by
    cases st with
    | nil => exact pss_imp pss_nil fun D σ H ⟨ρ, h, nx, sr, hr, on, xt, w, p⟩ => p.here hr sr w
    | cons _ _ => exact absurd h Bool.false_ne_true
  | (i, c) :: r, st, h => by
    unfold chkSu at h
    split at h
    · rename_i x px e pos t
      obtain ⟨h, h6⟩ := band h
      obtain ⟨h, h5⟩ := band h
      obtain ⟨h, h4⟩ := band h
      obtain ⟨h, h3⟩ := band h
      obtain ⟨h1, h2⟩ := band h
      have h1 := of_decide_eq_true h1
      have h4 := of_decide_eq_true h4
      refine pss_imp (pss_cons (ps_set (X := X.suite a ((a, oe) :: pn)) (by show X.N.Nodup; rw [C.hN]; exact C.nd) (by show X.N[i]? = _; rw [C.hN]; exact h1) (loc_of C.toCtxS h2) (se_pe (v := v) C hk hz hf c h5) (swaps_nc h3) (.inl (C.fna x))) (su_pss C hk hz hf r h6))
        fun D σ H ⟨ρ, h, nx, sr, hr, on, xt, w, p⟩ => ?_
      refine ⟨ρ, h, _, sr, hr, on, xt, w, fun y h1 vy H1 e1 ry hr1 q => ?_⟩
      refine ⟨ρ.set i (some y), h1, nx, (sr.ext e1).set i ry, hr1, fun j ej hj => ?_, xt.ext hr e1, q, p.later e1⟩
      have ne : i ≠ j := fun z => h4 (by rw [z]; exact ej)
      rw [List.getElem?_set_ne ne]
      exact on j ej (by rwa [List.length_set] at hj)
    · cases h
end
end DL

set_option Elab.async false
set_option linter.all false
set_option maxRecDepth 100000
set_option maxHeartbeats 4000000
/-! DX5: what the check says holds: statements of a def that may raise; such a def by its check. -/
namespace DL
open PySem PySem.Spec PyProof.Rows L2
theorem SR.unset {K : PySem.W.Frag} {H : Hp} {ρ : DEnv} {σ : L2.St} (s : SR K H ρ σ) (i : Nat) (o : Option V) : SR K H (ρ.set i none) (σ.set i o) := by
  refine ⟨by rw [List.length_set, List.length_set]; exact s.1, fun j e q => ?_⟩
  by_cases hj : i = j
  · subst hj
    rw [List.getElem?_set] at q
    split at q
    · split at q
      · cases q
      · cases q
    · rename_i z; exact absurd rfl z
  · rw [List.getElem?_set_ne hj] at q
    rw [List.getElem?_set_ne hj]
    exact s.2 j e q
abbrev XCW := XN → Option D → DEnv → DH → Prop
def PostXS (K : PySem.W.Frag) (L : List XN) (xa : XN → Addr) (h : DH) (H : Hp) (xc : XCW) (W : WX) : Prop := ∀ k v ρ' h' σ' H' d, Ext h H h' H' → SR K H' ρ' σ' → HR K h' H' → XAt K L H' k v d → xc k v ρ' h' → W (.ref (xa k)) d σ' H'
theorem PostXS.later {K : PySem.W.Frag} {L : List XN} {xa : XN → Addr} {h h' : DH} {H H' : Hp} {xc : XCW} {W : WX} (p : PostXS K L xa h H xc W) (e : Ext h H h' H') : PostXS K L xa h' H' xc W := fun k v ρ h2 σ H2 d e2 sr hr x q => p k v ρ h2 σ H2 d (e.trans e2) sr hr x q
abbrev WXS := DEnv → DH → XEnds → Prop
def liftX (K : PySem.W.Frag) (L : List XN) (xa : XN → Addr) (W : WX) (w : WXS) : TS := fun D σ H => ∃ ρ h E, SR K H ρ σ ∧ HR K h H ∧ w ρ h E ∧ PostS K h H E.d D ∧ PostXS K L xa h H E.xc W
/-! ### the clauses -/
def clsOf (xa : XN → Addr) (M : Addr) : Option XN → Value
  | none => .ref M
  | some k => .ref (xa k)
def txOf (K : PySem.W.Frag) (L : List XN) (xa : XN → Addr) (c : XH) : TX := fun a cls d D σ H => ∃ k v, cls = .ref (xa k) ∧ tUS K L c.nm a k v d (wpSu k v c.su) D σ H
def hmap (K : PySem.W.Frag) (L : List XN) (xa : XN → Addr) (M : Addr) (hs : List XH) : List (Value × Option Nat × TX) := hs.map fun c => (clsOf xa M c.c, c.nm, txOf K L xa c)
section
variable {N : List Str} {G : Glb} {Y : Gx} {F : Fx} {xs : List XSp} {L : List XN} {xa : XN → Addr} {M : Addr}
theorem hdsX {X : Cx} (C : CtxX N G Y F xs L xa M X) : ∀ (hs : List XH) {es : List ExceptHandler}, chkXHs N Y X.env.scope hs es = true → HdsMs X es (hmap X.K L xa M hs)
  | [], es, h => by
    cases es with
    | nil => exact .nil
    | cons _ _ => exact absurd h Bool.false_ne_true
  | c :: r, es, h => by
    cases es with
    | nil => exact absurd h Bool.false_ne_true
    | cons e t =>
      obtain ⟨h1, h2⟩ := band h
      have ih := hdsX C r h2
      unfold chkXH at h1
      split at h1
      · rename_i x np n b₀ su pos'
        obtain ⟨h1, h6⟩ := band h1
        obtain ⟨h1, h5⟩ := band h1
        obtain ⟨h3, h4⟩ := band h1
        have nm : L2.Names X x (clsOf xa M c.c) := by
          refine ⟨glob_of rfl h3, ?_, .inl ?_⟩
          · split at h4
            · obtain ⟨h4, _⟩ := band h4
              rw [of_decide_eq_true h4]; exact name_ok _
            · rw [of_decide_eq_true h4]; decide
          · split at h4
            · rename_i k ek
              obtain ⟨h4, h7⟩ := band h4
              rw [of_decide_eq_true h4, ek]
              exact C.xw.at_ k (C.xk k (by simpa using h7))
            · rename_i ek
              rw [of_decide_eq_true h4, ek]
              exact C.xw.atM
        have su : ∀ (a : Addr) (oe : Obj) (cls : Value) (d : Option Addr) (pn : List (Addr × Obj)), Zc cls d oe → (∃ vs, oe.data = .fields vs) → PSs (X.suite a ((a, oe) :: pn)) (b₀ :: su) (txOf X.K L xa c a cls d) := fun a oe cls d pn hz hf =>
          ⟨fun pins s σ H D I ⟨k, v, e, t⟩ => by
            subst e
            obtain ⟨ρ, h, nx, sr, hr, on, xt, w, p⟩ := t
            exact (su_pss (a := a) (pn := pn) C xt.1 hz hf c.su h6).run pins s σ H D I ⟨ρ, h, nx, sr, hr, on, xt, w, p⟩⟩
        cases hn : c.nm with
        | none =>
          rw [hn] at h5
          cases n with
          | some y => exact absurd h5 Bool.false_ne_true
          | none =>
            have g := HdsMs.cons nm su ih (np := np) (pos' := pos')
            simpa [hmap, hn] using g
        | some i =>
          rw [hn] at h5
          cases n with
          | none => exact absurd h5 Bool.false_ne_true
          | some y =>
            obtain ⟨h7, h8⟩ := band h5
            have g := HdsMs.named (i := i) (n := y) nm (by rw [C.hN]; exact C.nd) (by rw [C.hN]; exact of_decide_eq_true h7) (of_decide_eq_true h8) su ih (np := np) (pos' := pos')
            simpa [hmap, hn] using g
      · cases h1
theorem handM {X : Cx} (C : CtxX N G Y F xs L xa M X) {W : WX} {D : Ends} {E : XEnds} {k : XN} {v : Option DL.D} {d : Option Addr} {ρ : DEnv} {h : DH} {σ : L2.St} {H : Hp} {hdm : PostS X.K h H E.d D} {px : PostXS X.K L xa h H E.xc W} (sr : SR X.K H ρ σ) (hr : HR X.K h H) (xt : XAt X.K L H k v d) :
    ∀ (hs : List XH), (∀ c ∈ hs, ∀ k', c.c = some k' → k' ∈ L) → handW hs k v ρ h E → wMs X.K W D (hmap X.K L xa M hs) (.ref (xa k)) d σ H := by
  intro hs
  induction hs with
  | nil => exact fun _ w => px k v ρ h σ H d (Ext.refl _ _) sr hr xt w
  | cons c r ih =>
    intro hL w
    have w : iteW (isX c.c k) (wpSu k v c.su (unD ρ c.nm) h fun ρ1 h1 => E.d.nx (unD ρ1 c.nm) h1) (handW r k v ρ h E) := w
    refine ⟨isX c.c k, ?_, fun z a na => ?_, fun z => ih (fun c' hc' => hL c' (List.mem_cons_of_mem _ hc')) (by rw [z] at w; exact w)⟩
    · cases q : c.c with
      | none => exact C.xw.exmM k xt.1
      | some k' => exact C.xw.exm k xt.1 k' (hL c List.mem_cons_self k' q)
    · rw [z] at w
      have w : wpSu k v c.su (unD ρ c.nm) h fun ρ1 h1 => E.d.nx (unD ρ1 c.nm) h1 := w
      cases q : c.nm with
      | none =>
        rw [q] at w
        refine ⟨k, v, rfl, ρ, h, _, sr, hr, fun i e => ?_, xt, w, hdm.nx⟩
        rw [q] at e; cases e
      | some i =>
        rw [q] at w
        refine ⟨k, v, rfl, ρ.set i none, h, _, sr.unset i _, hr, fun j e hj => ?_, xt, w, fun ρ1 h1 σ1 H1 e1 sr1 hr1 q1 => hdm.nx _ h1 _ H1 e1 (sr1.unset i none) hr1 q1⟩
        rw [q] at e; cases e
        have hj : i < (σ.set i (some (V.ref a))).length := hj
        rw [List.length_set] at hj
        exact List.getElem?_set_self hj
end
/-! ### statements -/
section
variable {X : Cx} {L : List XN} {xa : XN → Addr} {W : WX}
theorem lx_if {wc : DEnv → DH → WK → Prop} {wa wb : WXS} {c : Expr} {a b : List Stmt} {pos : Pos} (hc : PT X c (liftB X.K (wB wc))) (ha : PSs X a (liftX X.K L xa W wa)) (hb : PSs X b (liftX X.K L xa W wb)) :
    PS X (.If c a b pos) (liftX X.K L xa W fun ρ h E => wc ρ h fun x h1 => boolW x fun k => iteW k (wa ρ h1 E) (wb ρ h1 E)) :=
  ps_imp (ps_if hc ha hb) fun D σ H ⟨ρ, h, E, sr, hr, w, p, px⟩ => ⟨ρ, h, _, sr, hr, w, fun k h1 H1 e1 hr1 q => by
    cases k with
    | true => exact (if_pos rfl).mpr ⟨ρ, h1, E, sr.ext e1, hr1, q, p.later e1, px.later e1⟩
    | false => exact (if_neg Bool.false_ne_true).mpr ⟨ρ, h1, E, sr.ext e1, hr1, q, p.later e1, px.later e1⟩⟩
theorem lx_cons {wa wb : WXS} {st : Stmt} {rest : List Stmt} (ha : PS X st (liftX X.K L xa W wa)) (hb : PSs X rest (liftX X.K L xa W wb)) :
    PSs X (st :: rest) (liftX X.K L xa W fun ρ h E => wa ρ h ⟨{ nx := fun ρ1 h1 => wb ρ1 h1 E, rt := E.d.rt, bk := E.d.bk, ct := E.d.ct }, E.xc⟩) :=
  pss_imp (pss_cons ha hb) fun D σ H ⟨ρ, h, E, sr, hr, w, p, px⟩ => ⟨ρ, h, _, sr, hr, w, ⟨fun ρ1 h1 σ1 H1 e1 sr1 hr1 q => ⟨ρ1, h1, E, sr1, hr1, q, p.later e1, px.later e1⟩, p.rt, p.bk, p.ct⟩, px⟩
theorem lx_for {wi : WI} {is : List Nat} {wt : WG} {wb : WXS} {tg it : Expr} {body : List Stmt} {pos : Pos} (hp : PassesOwn (model X.prog X.w) X.A X.env X.xe) (hc : X.calm = true) (hi : PI X tg it (liftI X.K wi)) (hg : PG X tg (liftG X.K is wt)) (hb : PSs X body (liftX X.K L xa W wb))
    (hs : ∀ x, foldedSetIterable it X.env x = pure x) :
    PS X (.For tg it body [] pos) (liftX X.K L xa W fun ρ h E => wi ρ h fun xs g h1 => loopW g (fun x ρ1 h2 N => wt x ρ1 fun ρ2 => wb ρ2 h2 ⟨{ nx := N, ct := N, bk := E.d.nx, rt := E.d.rt }, E.xc⟩) E.d.nx xs ρ h1) := by
  refine ps_imp (ps_for hp hc hi hg hb hs) fun D σ H ⟨ρ, h, E, sr, hr, w, p, px⟩ => ⟨ρ, h, _, sr, hr, w, fun items g h1 J H1 e1 hr1 dw w1 => ?_⟩
  -- what is left of the walk at each turn
  have left : ∃ turns : List DL.D → DEnv → DH → Prop, turns = loopW g (fun x ρ1 h2 N => wt x ρ1 fun ρ2 => wb ρ2 h2 ⟨{ nx := N, ct := N, bk := E.d.nx, rt := E.d.rt }, E.xc⟩) E.d.nx := ⟨_, rfl⟩
  obtain ⟨turns, et⟩ := left
  rw [← et] at w1
  let At : Nat → L2.St → Hp → Prop := fun i σ H => ∃ ρ h2, Ext h1 H1 h2 H ∧ SR X.K H ρ σ ∧ HR X.K h2 H ∧ turns (items.drop i) ρ h2
  refine ⟨fun i m σ H => m = items.length - i ∧ i ≤ items.length ∧ At i σ H, ⟨_, rfl, Nat.zero_le _, ρ, h1, Ext.refl _ _, sr.ext e1, hr1, w1⟩, ?_⟩
  rintro i m σ2 H2 ⟨rfl, hi, ρ2, h2, e2, sr2, hr2, w2⟩
  rcases Nat.lt_or_ge i items.length with z | z
  · right
    rw [List.drop_eq_getElem_cons z, et] at w2
    obtain ⟨gg, w2⟩ := w2
    rw [← et] at w2
    refine ⟨dw.go i h2 H2 z e2 hr2 gg, At (i + 1), fun σ' H' q => ⟨items.length - (i + 1), by omega, rfl, z, q⟩, fun x H3 y => ?_⟩
    obtain ⟨d, hd, rd, e3, hr3⟩ := dw.yld i h2 H2 x H3 z e2 hr2 gg y
    rw [List.getElem?_eq_getElem z] at hd
    obtain rfl := Option.some.inj hd
    have e23 := e2.trans e3
    refine ⟨_, ρ2, h2, _, rd, sr2.ext e3, hr3, w2, fun ρ4 σ4 sr4 _ q4 => ⟨ρ4, h2, _, sr4, hr3, q4, ⟨fun ρ5 h5 σ5 H5 e5 sr5 hr5 q5 => ⟨ρ5, h5, e23.trans e5, sr5, hr5, q5⟩, p.rt.later (e1.trans e23), p.nx.later (e1.trans e23), fun ρ5 h5 σ5 H5 e5 sr5 hr5 q5 => ⟨ρ5, h5, e23.trans e5, sr5, hr5, q5⟩⟩, px.later (e1.trans e23)⟩⟩
  · left
    obtain rfl : i = items.length := by omega
    rw [List.drop_length, et] at w2
    exact ⟨dw.stop h2 H2 e2 hr2 w2.1, p.nx ρ2 h2 σ2 H2 (e1.trans e2) sr2 hr2 w2.2⟩
end
section
variable {N : List Str} {G : Glb} {Y : Gx} {F : Fx} {xs : List XSp} {L : List XN} {xa : XN → Addr} {M : Addr}
theorem hs_L {sc : Scope} (hY : ∀ k ∈ Y.xk, k ∈ L) : ∀ (hs : List XH) {es : List ExceptHandler}, chkXHs N Y sc hs es = true → ∀ c ∈ hs, ∀ k', c.c = some k' → k' ∈ L
  | [], _, _, c, hc => by cases hc
  | c0 :: r, es, h, c, hc => by
    cases es with
    | nil => exact absurd h Bool.false_ne_true
    | cons e t =>
      obtain ⟨h1, h2⟩ := band h
      rcases List.mem_cons.mp hc with rfl | hc
      · intro k' q
        unfold chkXH at h1
        split at h1
        · obtain ⟨h1, _⟩ := band h1
          obtain ⟨h1, _⟩ := band h1
          obtain ⟨_, h4⟩ := band h1
          rw [q] at h4
          obtain ⟨_, h4⟩ := band h4
          exact hY k' (by simpa using h4)
        · cases h1
      · exact hs_L hY r h2 c hc
mutual
theorem sndXS : ∀ (c : XS) {W : WX} {X : Cx} {st : Stmt}, CtxX N G Y F xs L xa M X → Takes X W → chkXS N G Y X.env.scope c st = true → PS X st (liftX X.K L xa W (wpXS F xs c))
  | .st c, W, X, st, C, tk, h => ps_imp (sndS c C.toCtxS h) fun D σ H ⟨ρ, h, E, sr, hr, w, p, px⟩ => ⟨ρ, h, E.d, sr, hr, w, p⟩
  | .setx i c, W, X, st, C, tk, h => by
    unfold chkXS at h
    split at h
    · obtain ⟨h, h4⟩ := band h
      obtain ⟨h, h3⟩ := band h
      obtain ⟨h1, h2⟩ := band h
      refine ps_imp (ps_set (by rw [C.hN]; exact C.nd) (by rw [C.hN]; exact of_decide_eq_true h1) (loc_of C.toCtxS h2) (sndXC c C tk h4) (swaps_nc h3) (.inl (C.fna _))) fun D σ H ⟨ρ, h, E, sr, hr, w, p, px⟩ => ?_
      exact ⟨ρ, h, _, _, sr, hr, w, fun d h1 v H1 e1 rd hr1 q => p.nx _ h1 _ H1 e1 ((sr.ext e1).set i rd) hr1 q, fun k v h' H' d e hr' xt q => px k v ρ h' σ H' d e (sr.ext e) hr' xt q⟩
    · cases h
  | .raise k eo, W, X, st, C, tk, h => by
    unfold chkXS at h
    split at h
    · rename_i x px0 pos pos2
      obtain ⟨h, h4⟩ := band h
      obtain ⟨h, h3⟩ := band h
      obtain ⟨h1, h2⟩ := band h
      obtain rfl := of_decide_eq_true h2
      have hk := C.xk k (by simpa using h4)
      cases eo with
      | yes c => exact absurd h1 Bool.false_ne_true
      | no =>
        cases z : k.fd with
        | some f => exact ps_imp ps_never fun D σ H ⟨ρ, h, E, sr, hr, w, p, px⟩ => by
                      have w : k.fd = none ∧ E.xc k none ρ h := w
                      rw [z] at w; exact (nomatch w.1)
        | none =>
          refine ps_imp (ps_raise C.calm tk (pmk_own0 PySem.F.excBase_ValueError (C.xw.plain k hk z) (C.xw.at_ k hk) (C.xw.keep k hk) (raises_own (C.xw.sub k hk) (C.xw.ty k hk)) (glob_of rfl h3) (name_ok k))) fun D σ H ⟨ρ, h, E, sr, hr, w, p, px⟩ => ?_
          have w : k.fd = none ∧ E.xc k none ρ h := w
          exact px k none ρ h σ H none (Ext.refl _ _) sr hr ⟨hk, by rw [z]⟩ w.2
    · rename_i x px0 y pos pos2
      obtain ⟨h, h4⟩ := band h
      obtain ⟨h, h3⟩ := band h
      obtain ⟨h1, h2⟩ := band h
      obtain rfl := of_decide_eq_true h2
      have hY : k ∈ Y.xk := by simpa using h4
      have hk := C.xk k hY
      cases eo with
      | no => exact absurd h1 Bool.false_ne_true
      | yes c =>
        have h1 : chkE N G c X.env.scope y = true := h1
        cases z : k.fd with
        | none => exact ps_imp ps_never fun D σ H ⟨ρ, h, E, sr, hr, w, p, px⟩ => by
                      have w : k.fd ≠ none ∧ wpE F c ρ h fun d h1 => E.xc k (some d) ρ h1 := w
                      exact w.1 z
        | some f =>
          obtain ⟨fI, fd, ps, kk, T, iC, tI, F1, hr0, hb⟩ := (C.own k hY f z).ex
          have hl : chkL N G (.cons c .nil) X.env.scope [y] = true := by simpa [chkL] using h1
          refine ps_imp (ps_raise C.calm tk (pmk_oex T iC tI F1 hr0 hb .nil pass0 (glob_of rfl h3) (C.xw.at_ k hk) (sndL (.cons c .nil) C.toCtx hl) (name_ok k) (star_cons (noStar h1).1) rfl)) fun D σ H ⟨ρ, h, E, sr, hr, w, p, px⟩ => ?_
          have w : k.fd ≠ none ∧ wpE F c ρ h fun d h1 => E.xc k (some d) ρ h1 := w
          refine ⟨ρ, h, fun ds h1 => match ds with | [x] => E.xc k (some x) ρ h1 | _ => False, sr, hr, w.2, fun ds h1 vs H1 e1 rs hr1 q => ?_⟩
          · obtain ⟨x, rfl, q⟩ : ∃ x, ds = [x] ∧ E.xc k (some x) ρ h1 := by
              match ds, q with
              | [x], q => exact ⟨x, rfl, q⟩
            obtain ⟨u, r, rfl, ru, er⟩ := rs
            cases er
            refine ⟨by simp, fun a na => ⟨a, u, rfl, upd_same, fun dx nd ne => ⟨rfl, dx, [(f, u)], upd_same, ?_, ?_, ?_⟩⟩⟩
            · rw [upd_ne ne, upd_same]
            · rw [upd_ne ne] at nd; exact nd
            · rw [upd_ne ne] at nd
              have eH : upd (del (upd (upd (upd H1 a (exo a (xa k) none)) dx (exd dx [(f, u)])) a (exo a (xa k) (some dx))) a) dx (.xd [(f, u)]) = upd H1 dx (.xd [(f, u)]) := by
                funext b
                by_cases hb : b = dx
                · rw [hb, upd_same, upd_same]
                · rw [upd_ne hb, upd_ne hb]
                  by_cases ha : b = a
                  · rw [ha, del_same, na]
                  · rw [del_ne ha, upd_ne ha, upd_ne hb, upd_ne ha]
              rw [eH]
              have e2 : Ext h1 H1 h1 (upd H1 dx (.xd [(f, u)])) := Ext.laid hr1 nd
              exact px k (some x) ρ h1 σ _ (some dx) (e1.trans e2) ((sr.ext e1).ext e2) (hr1.laid nd) ⟨hk, by rw [z]; exact ⟨dx, u, rfl, upd_same, e2.vr ru⟩⟩ q
    · cases h
  | .ite c a b, W, X, st, C, tk, h => by
    unfold chkXS at h
    split at h
    · obtain ⟨h, h4⟩ := band h
      obtain ⟨h, h3⟩ := band h
      obtain ⟨h1, h2⟩ := band h
      exact lx_if ((sndE c C.toCtx h2).pt h1) (sndXB a C tk h3) (sndXB b C tk h4)
    · cases h
  | .loop tg it b, W, X, st, C, tk, h => by
    unfold chkXS at h
    split at h
    · rename_i t i body pos
      obtain ⟨h, h4⟩ := band h
      obtain ⟨h, h3⟩ := band h
      obtain ⟨h1, h2⟩ := band h
      have tup : enumB it = true → ∃ es k p, t = .Tuple es k p := fun z => by
        rw [z] at h3
        have h3 : isTupT tg = true := by simpa using h3
        cases tg with
        | name k => cases h3
        | tup is => cases t with
          | Tuple es k p => exact ⟨es, k, p, rfl⟩
          | _ => exact absurd h2 Bool.false_ne_true
      exact lx_for C.hp C.calm (sndI it C.toCtx h1 tup) (lg_ok (top := fun _ => true) C.calm C.hN rfl C.nd (fun x _ => C.fna x) h2) (sndXB b C tk h4) fun _ => noSetI h1
    · cases h
  | .tryx b hs, W, X, st, C, tk, h => by
    unfold chkXS at h
    split at h
    · obtain ⟨h1, h2⟩ := band h
      refine ps_imp (ps_try_ms (tb := fun W' => liftX X.K L xa W' (wpXB F xs b)) C.stk C.frm tk (fun W' pn xe tk' hp => sndXB b (C.try_ pn xe hp) tk' h1) (hdsX C hs h2)) fun D σ H ⟨ρ, h, E, sr, hr, w, p, px⟩ => ?_
      exact ⟨ρ, h, ⟨E.d, fun k v ρ1 h1 => handW hs k v ρ1 h1 E⟩, sr, hr, w, p, fun k v ρ' h' σ' H' d e sr' hr' xt hw => handM (hdm := p.later e) (px := px.later e) C sr' hr' xt hs (hs_L C.xk hs h2) hw⟩
    · cases h
theorem sndXB : ∀ (c : XB) {W : WX} {X : Cx} {st : List Stmt}, CtxX N G Y F xs L xa M X → Takes X W → chkXB N G Y X.env.scope c st = true → PSs X st (liftX X.K L xa W (wpXB F xs c))
  | .nil, W, X, st, C, tk, h => by
    cases st with
    | nil => exact pss_imp pss_nil fun D σ H ⟨ρ, h, E, sr, hr, w, p, px⟩ => p.nx.here hr sr w
    | cons _ _ => exact absurd h Bool.false_ne_true
  | .cons s r, W, X, st, C, tk, h => by
    cases st with
    | nil => exact absurd h Bool.false_ne_true
    | cons a t =>
      obtain ⟨h1, h2⟩ := band h
      exact lx_cons (wa := wpXS F xs s) (wb := wpXB F xs r) (sndXS s C tk h1) (sndXB r C tk h2)
  | .stop, W, X, st, C, tk, h => pss_imp pss_never fun D σ H ⟨ρ, h, E, sr, hr, w, p, px⟩ => w
end
end
end DL

set_option Elab.async false
set_option linter.all false
set_option maxRecDepth 100000
set_option maxHeartbeats 4000000
/-! DX6: a def that may raise, by its check; its callees; what the top must say. -/
namespace DL
open PySem PySem.Spec PyProof.Rows L2
def RetX (Xd : WXD) : XCW := fun k v _ h => ∃ g, Abs g h ∧ Xd k v g
section
variable {P : Program} {w : World} {K : PySem.W.Frag} {mg : Str → Option Value} {base : Heap} {g : Bool} {k : Nat} {L : List XN} {xa : XN → Addr} {M : Addr}
theorem PostX.ret {h : DH} {H : Hp} {Xd : WXD} {W : WX} {xh : List (Option V)} (p : PostX K L xa h H Xd fun cls d H' => W cls d xh H') (hW : ∀ cls d σ H', W cls d xh H' → W cls d σ H') : PostXS K L xa h H (RetX Xd) W :=
  fun k v ρ h' σ H' d e sr hr xt ⟨g, a, q⟩ => hW _ _ _ _ (p k v g H' d (e.abs hr a) (a K H' hr).1 xt q)
/-- what the text says of the names that may raise -/
structure NamesX (P : Program) (w : World) (K : PySem.W.Frag) (mg : Str → Option Value) (base : Heap) (k : Nat) (G : Glb) (Y : Gx) (F : Fx) (xs : List XSp) (L : List XN) (xa : XN → Addr) (M : Addr) : Prop extends Names P w K mg base k G F where
  xf : ∀ (j : Nat) (x : Str), Y.xf[j]? = some x → ∃ g sp f fd ps, xs[j]? = some sp ∧ (g = true → G.rep = true) ∧ FnR g P w K mg base (L2.CX P w) k f fd ps (liftSpX K L xa sp) ∧ mg x = some (.ref f) ∧ PySem.W.keepIn K (.ref f) = true ∧ Binds K fd ps []
  xm : ∀ (j ci : Nat) (m : Str), (j, ci, m) ∈ Y.xm → ∃ C sp g f fd, F.cv[ci]? = some (.ref C) ∧ xs[j]? = some sp ∧ (g = true → G.rep = true) ∧ Cls K C ∧ Meth K C m f ∧ FnMX g P w K mg base L xa k f fd sp
  xw : XWorld K mg L xa M
  xk : ∀ k ∈ Y.xk, k ∈ L
  own : ∀ kk ∈ Y.xk, ∀ f, kk.fd = some f → ∃ fI fd ps j, OexC K (xa kk) ∧ PySem.W.findIn K (.ref (xa kk)) "__init__" = some (some (.ref fI)) ∧ PySem.W.typeIn K (.ref fI) = some (.type "function") ∧ FnOk P w K mg base CX0 j fI fd ps (spXI (xa kk) f) ∧ j + 1 ≤ k ∧ Binds K fd ps []
theorem def_okX {x qual : Str} {st : Stmt} {f : Addr} {fd : FuncData} {N ps : List Str} {G : Glb} {Y : Gx} {F : Fx} {xs : List XSp} {c : XB} {sp : XSp} (T : FunL K x qual st f fd) (S : FnScope N ps (defScope st))
    (Nm : NamesX P w K mg base k G Y F xs L xa M) (len : ∀ ds h Q Xd, sp ds h Q Xd → ds.length = ps.length) (hc : chkXB N G Y (defScope st) c (defBody st) = true)
    (body : ∀ ds h Q Xd, sp ds h Q Xd → wpXB F xs c (dstart N.length ds) h ⟨{ nx := fun _ h' => Ret Q .non h', rt := Ret Q }, RetX Xd⟩) : FnR G.rep P w K mg base (L2.CX P w) (k + 1) f fd ps (liftSpX K L xa sp) := by
  refine fnR_ofL T S (fun vs H Q E ⟨ds, h, Qd, Xd, r, hr, s, p⟩ => by rw [← r.length]; exact len _ _ _ _ s) fun cdv A outer s H vs Q E hgd hr ⟨ds, h, Qd, Xd, r, hrr, q, p, px⟩ => ?_
  have C : CtxX N G Y F xs L xa M (cxOf (L2.CX P w) P w K mg base N qual (defScope st) f cdv A outer s H E) := {
    hN := rfl
    nd := S.nd
    calm := rfl
    hu := by have := hr.un; show (A.deeper (envOfC qual (defScope st) s.heap.objs.size f cdv)).units + 100 < cLine; omega
    grd := hgd
    bl := Nm.bl
    cn := Nm.cn
    fn := fun i x e => by
      obtain ⟨g, sp, f, fd, ps, a1, a0, a2, a3, a4, a5⟩ := Nm.fn i x e
      exact ⟨sp, a1, ⟨g, f, fd, ps, k, a2, fun z => hgd (a0 z), hr, a3, a4, a5⟩⟩
    ms := fun j ci m e => by
      obtain ⟨c, sp, g, f, fd, a1, a2, a0, a3, a4, a5⟩ := Nm.ms j ci m e
      exact ⟨c, sp, a1, a2, ⟨g, f, fd, k, a3, a4, a5, fun z => hgd (a0 z), hr⟩⟩
    mks := fun j ci e => by
      obtain ⟨c, sp, g, f, fd, ps, k', a1, a2, a0, a3, a4, a5, a6⟩ := Nm.mks j ci e
      exact ⟨c, sp, a1, a2, ⟨g, f, fd, ps, k', a3, a5, fun z => hgd (a0 z), hr.mono a4, a6⟩⟩
    kw := fun e h => xat hgd hr (Nm.kw e h)
    fd := Nm.fd
    ic := Nm.ic
    it := fun ci f e => let ⟨C, a1, a2, a3, a4⟩ := Nm.it ci f e; ⟨C, a1, a2, a3, hr.mono a4⟩
    pr := fun j ci m e => by
      obtain ⟨c, sp, f, fd, ps, k', a1, a2, a3, a4, a5, a6, a7⟩ := Nm.pr j ci m e
      exact ⟨c, sp, a1, a2, ⟨f, fd, ps, k', a3, a4, a6, hr.mono a5, a7⟩⟩
    bkd := by
      show (if (defScope st).kind.isAnnotationScope then ScopeKind.function else (defScope st).kind) = _
      rw [S.kind]; rfl
    fna := fun _ => rfl
    hp := passes_of rfl
    stk := rfl
    frm := rfl
    xf := fun j x e => by
      obtain ⟨g, sp, f, fd, ps, a1, a0, a2, a3, a4, a5⟩ := Nm.xf j x e
      exact ⟨sp, a1, ⟨g, f, fd, ps, k, a2, fun z => hgd (a0 z), hr, a3, a4, a5⟩⟩
    xm := fun j ci m e => by
      obtain ⟨c, sp, g, f, fd, a1, a2, a0, a3, a4, a5⟩ := Nm.xm j ci m e
      exact ⟨c, sp, a1, a2, ⟨g, f, fd, k, a3, a4, a5, fun z => hgd (a0 z), hr⟩⟩
    xw := Nm.xw
    xk := Nm.xk
    own := fun kk hk f e => by
      obtain ⟨fI, fd, ps, j, a1, a2, a3, a4, a5, a6⟩ := Nm.own kk hk f e
      exact ⟨fI, fd, ps, j, a1, a2, a3, a4, hr.mono a5, a6⟩ }
  refine ⟨_, sndXB c C (takes_of rfl rfl rfl rfl) hc, dstart N.length ds, h, _, sr_start r, hrr, body _ _ _ _ q, ⟨?_, p.ret, ?_, ?_⟩, px.ret (W := fun cls d _ H => E cls d H) (xh := []) fun _ _ _ _ z => z⟩
  · intro ρ h' σ H' e sr hr' z
    exact p.ret .non h' .non H' e rfl hr' z
  · intro ρ h' σ H' e sr hr' z
    exact z.elim
  · intro ρ h' σ H' e sr hr' z
    exact z.elim
/-- a def that may raise and keeps its promise -/
def KeepsX (P : Program) (w : World) (K : PySem.W.Frag) (mg : Str → Option Value) (base : Heap) (L : List XN) (xa : XN → Addr) (g : Bool) (k : Nat) (x : Str) (sp : XSp) : Prop :=
  ∃ f fd ps, FnR g P w K mg base (L2.CX P w) k f fd ps (liftSpX K L xa sp) ∧ mg x = some (.ref f) ∧ PySem.W.keepIn K (.ref f) = true ∧ BindsW K x fd ps
theorem KeepsX.mono {x : Str} {sp : XSp} {j : Nat} (F : KeepsX P w K mg base L xa g j x sp) (h : j ≤ k) : KeepsX P w K mg base L xa g k x sp := by
  obtain ⟨f, fd, ps, a, b⟩ := F
  exact ⟨f, fd, ps, a.mono h, b⟩
/-- where it does not raise -/
theorem KeepsX.plain {x : Str} {sp : XSp} (F : KeepsX P w K mg base L xa g k x sp) : Keeps P w K mg base g k x (noX sp) := by
  obtain ⟨f, fd, ps, a, b⟩ := F
  exact ⟨f, fd, ps, fnR_noX a, b⟩
inductive CalleesX (P : Program) (w : World) (K : PySem.W.Frag) (mg : Str → Option Value) (base : Heap) (L : List XN) (xa : XN → Addr) (k : Nat) (rep : Bool) : List Str → List XSp → Prop where
  | nil : CalleesX P w K mg base L xa k rep [] []
  | cons {g : Bool} {x : Str} {sp : XSp} {xs : List Str} {sps : List XSp} : KeepsX P w K mg base L xa g k x sp → (g = true → rep = true) → CalleesX P w K mg base L xa k rep xs sps → CalleesX P w K mg base L xa k rep (x :: xs) (sp :: sps)
theorem CalleesX.get {rep : Bool} : ∀ {xs : List Str} {sps : List XSp} {i : Nat} {x : Str}, CalleesX P w K mg base L xa k rep xs sps → xs[i]? = some x → ∃ g sp, sps[i]? = some sp ∧ (g = true → rep = true) ∧ KeepsX P w K mg base L xa g k x sp
  | _, _, _, _, .nil, e => by simp at e
  | _, _, 0, _, .cons a b c, e => by simp at e; subst e; exact ⟨_, _, rfl, b, a⟩
  | _, _, i + 1, _, .cons a b c, e => by
    obtain ⟨g, sp, p, q, r⟩ := CalleesX.get (i := i) c (by simpa using e)
    exact ⟨g, sp, by simpa using p, q, r⟩
theorem namesX {G : Glb} {F : Fx} {yx : List Str} {ys : List XSp} {kinds : List XN} (Nm : Names P w K mg base k G F) (C : CalleesX P w K mg base L xa k G.rep yx ys) (xw : XWorld K mg L xa M) (hk : ∀ kk ∈ kinds, kk ∈ L ∧ kk.fd = none) : NamesX P w K mg base k G ⟨yx, [], kinds⟩ F ys L xa M where
  toNames := Nm
  xf := fun j x e => by
    obtain ⟨g, sp, a, b, f, fd, ps, c⟩ := C.get (i := j) (x := x) e
    exact ⟨g, sp, f, fd, ps, a, b, c.1, c.2.1, c.2.2.1, c.2.2.2.1⟩
  xm := fun _ _ _ e => (nomatch (show _ ∈ ([] : List (Nat × Nat × Str)) from e))
  xw := xw
  xk := fun kk h => (hk kk h).1
  own := fun kk h f e => by rw [(hk kk h).2] at e; cases e
theorem keep_defX {x : Str} {st : Stmt} {N ps : List Str} {G : Glb} {Y : Gx} {F : Fx} {xs : List XSp} {c : XB} {sp : XSp} (T : HasDef K mg x st ps) (S : FnScope N ps (defScope st)) (Nm : NamesX P w K mg base k G Y F xs L xa M)
    (len : ∀ ds h Q Xd, sp ds h Q Xd → ds.length = ps.length) (hc : chkXB N G Y (defScope st) c (defBody st) = true)
    (body : ∀ as h Q Xd, sp as h Q Xd → wpXB F xs c (dstart N.length as) h ⟨{ nx := fun _ h' => Ret Q .non h', rt := Ret Q }, RetX Xd⟩) : KeepsX P w K mg base L xa G.rep (k + 1) x sp := by
  obtain ⟨f, fd, Fn, m, b⟩ := T.ex
  exact ⟨f, fd, ps, def_okX (.of Fn) S Nm len hc body, m, Fn.kp, b⟩
end
/-! ### what the top must say of the errors -/
def xaOf (a0 a1 a2 a3 a4 a5 : Addr) : XN → Addr
  | .noAct => a0 | .barred => a1 | .noTree => a2 | .full => a3 | .badMany => a4 | .badText => a5
/-- of one error's class -/
structure HasX (K : PySem.W.Frag) (mg : Str → Option Value) (M : Addr) (k : XN) (C : Addr) : Prop where
  at_ : mg k.name = some (.ref C)
  keep : PySem.W.keepIn K (.ref C) = true
  sub : PySem.W.subIn K (.ref C) (.type "BaseException") = some true
  ty : PySem.W.typeIn K (.ref C) = some (.type "type")
  plain : k.fd = none → PySem.W.excIn K C [.type "ValueError", .type "Exception", .type "BaseException", .type "object"] "ValueError.__new__" = true
  exmM : PySem.W.exmOne K (.ref C) (.ref M) = some true
  is_ : ExcC K C
  kitV : PySem.W.kitOne K (.ref C) (.type "ValueError") = some true
  fld : ∀ f, k.fd = some f → XfC K C ∧ PySem.W.findIn K (.ref C) f = some none
theorem kit_sub {K : PySem.W.Frag} {C : Addr} {cls : Value} {b : Bool} (hd : PySem.W.hasDictIn K C = true) (ty : PySem.W.typeIn K (.ref C) = some (.type "type")) (own : PySem.W.subIn K (.ref C) (.ref C) = some true) (s : PySem.W.subIn K cls (.ref C) = some b) : PySem.W.kitOne K cls (.ref C) = some b := by
  obtain ⟨cd, hc, _⟩ := PySem.W.any_some hd
  unfold PySem.W.kitOne
  by_cases z : (cls == Value.ref C) = true
  · rw [if_pos z]
    rw [beq_iff_eq.mp z, own] at s
    exact s
  · rw [if_neg z]
    have k : ((PySem.W.clsIn K C).isSome && PySem.W.typeIn K (.ref C) == some (.type "type")) = true := by rw [hc, ty] <;> rfl
    exact (if_pos k : (if ((PySem.W.clsIn K C).isSome && PySem.W.typeIn K (.ref C) == some (.type "type")) = true then PySem.W.subIn K cls (.ref C) else none) = _).trans s
theorem kit_value {K : PySem.W.Frag} {C : Addr} (s : PySem.W.subIn K (.ref C) (.type "ValueError") = some true) : PySem.W.kitOne K (.ref C) (.type "ValueError") = some true := by
  have z : (Value.ref C == Value.type "ValueError") = false := rfl
  have k : PySem.W.kitMeta "ValueError" = true := by decide +kernel
  unfold PySem.W.kitOne
  rw [z, if_neg Bool.false_ne_true]
  exact (if_pos k : (if PySem.W.kitMeta "ValueError" = true then PySem.W.subIn K (.ref C) (.type "ValueError") else none) = _).trans s
theorem xworld {K : PySem.W.Frag} {mg : Str → Option Value} {L : List XN} {xa : XN → Addr} {M : Addr} (one : ∀ k ∈ L, HasX K mg M k (xa k)) (exm : ∀ k ∈ L, ∀ k' ∈ L, PySem.W.exmOne K (.ref (xa k)) (.ref (xa k')) = some (decide (k = k'))) (kit : ∀ k ∈ L, ∀ k' ∈ L, PySem.W.kitOne K (.ref (xa k)) (.ref (xa k')) = some (decide (k = k')))
    (atM : mg "MomentError" = some (.ref M)) (noV : mg "ValueError" = none) (noI : mg "isinstance" = none) : XWorld K mg L xa M where
  at_ := fun k h => (one k h).at_
  keep := fun k h => (one k h).keep
  sub := fun k h => (one k h).sub
  ty := fun k h => (one k h).ty
  plain := fun k h => (one k h).plain
  exm := exm
  exmM := fun k h => (one k h).exmM
  atM := atM
  is_ := fun k h => (one k h).is_
  kit := kit
  kitV := fun k h => (one k h).kitV
  noV := noV
  noI := noI
  fld := fun k h => (one k h).fld
end DL

set_option Elab.async false
set_option linter.all false
set_option maxRecDepth 100000
set_option maxHeartbeats 4000000
/-! DX7: an error's own __init__ that stores what it is handed. -/
namespace DL
open PySem PySem.Spec PyProof.Rows L2
/-- M.__init__(self, text); self.f = y -/
def xinitB (sc : Scope) (f y : Str) : List Stmt → Bool
  | [.Expr (.Call (.Attribute (.Name x _) m ap) [.Name s1 _, .Constant (.str _) _ _] [] cp) _, .Assign [.Attribute (.Name s2 _) g _] (.Name y' _) _] =>
    decide (x = "MomentError") && decide (m = "__init__") && decide (s1 = "self") && decide (s2 = "self") && decide (g = f) && decide (y' = y) && globB sc x && seenB sc s1 && seenB sc y' && okName y' && (ap.endLine == cp.line)
  | _ => false
theorem xinit_ok {P : Program} {w : World} {K : PySem.W.Frag} {mg : Str → Option Value} {base : Heap} {qual f y : Str} {st : Stmt} {fI C M : Addr} {fd : FuncData} {mc : Value} (T : Fun K "__init__" qual st fI fd) (S : FnScope ["self", y] ["self", y] (defScope st)) (ny : ("self" : Str) ≠ y)
    (hb : xinitB (defScope st) f y (defBody st) = true) (O : OexC K C) (no : PySem.W.findIn K (.ref C) f = some none) (mM : mg "MomentError" = some (.ref M)) (sp : PySem.W.specialIn K (.ref M) "__getattribute__" = some (some (.builtin "type.__getattribute__")))
    (rd : PySem.W.readsIn K M mc = true) (vV : PySem.W.findCls K (.ref M) mc "__init__" = some (.val (.builtin "ValueError.__init__"))) : FnR false P w K mg base CX0 1 fI fd ["self", y] (spXI C f) := by
  refine fnR_of (k := 0) T S (fun vs H Q E ⟨a, v, e, _⟩ => by rw [e]; rfl) fun cdv A outer s H vs Q E _ _ ⟨a, v, ev, ea, q⟩ => ?_
  subst ev
  unfold xinitB at hb
  split at hb
  · rename_i x p1 m p2 s1 p3 z j p4 p5 p6 s2 p7 g p8 y' p9 p10 eb
    obtain ⟨hb, h11⟩ := band hb
    obtain ⟨hb, h10⟩ := band hb
    obtain ⟨hb, h9⟩ := band hb
    obtain ⟨hb, h8⟩ := band hb
    obtain ⟨hb, h7⟩ := band hb
    obtain ⟨hb, h6⟩ := band hb
    obtain ⟨hb, h5⟩ := band hb
    obtain ⟨hb, h4⟩ := band hb
    obtain ⟨hb, h3⟩ := band hb
    obtain ⟨h1, h2⟩ := band hb
    obtain rfl := of_decide_eq_true h1
    obtain rfl := of_decide_eq_true h2
    obtain rfl := of_decide_eq_true h3
    obtain rfl := of_decide_eq_true h4
    obtain rfl := of_decide_eq_true h5
    obtain rfl := of_decide_eq_true h6
    obtain ⟨o1, o2⟩ := okName_of h10
    rw [eb]
    refine ⟨_, pss_cons (ps_expr (pe_oinit (glob_of rfl h7) mM (by decide) sp rd vV (pa_cons (pe_var (i := 0) rfl (seen_of rfl h8) (by decide) (by decide)) (pa_cons pe_str pa_nil rfl) rfl) (meth_eval (attr_base rfl) (few_of (back_all rfl) (by simp)) h11) rfl rfl) rfl)
      (pss_cons (ps_ost (pe_var (i := 0) rfl (seen_of rfl h8) (by decide) (by decide)) (pe_var (i := 1) rfl (seen_of rfl h9) o1 o2) rfl) pss_nil), ?_⟩
    refine ⟨.ref a, rfl, ?_⟩
    refine ⟨a, C, [.str z], rfl, by simp, O, ea, ?_⟩
    refine ⟨v, rfl, .ref a, rfl, a, C, rfl, O, no, .inl ⟨ea, fun dx nd ne => ?_⟩⟩
    exact q dx nd ne
  · cases hb
end DL

set_option Elab.async false
set_option linter.all false
set_option maxRecDepth 100000
set_option maxHeartbeats 4000000
/-! DX8: methods that may raise; errors with a part of their own. -/
namespace DL
open PySem PySem.Spec PyProof.Rows L2
/-- a method that may raise and keeps its promise -/
def KeepsMX (P : Program) (w : World) (K : PySem.W.Frag) (mg : Str → Option Value) (base : Heap) (L : List XN) (xa : XN → Addr) (g : Bool) (k : Nat) (C : Addr) (m : Str) (sp : XSp) : Prop :=
  ∃ f fd, FnMX g P w K mg base L xa k f fd sp ∧ Meth K C m f
/-- without the last argument -/
def sp1X (sp : XSp) (d : Int) : XSp := fun as h Q Xd => sp (as ++ [.int d]) h Q Xd
section
variable {P : Program} {w : World} {K : PySem.W.Frag} {mg : Str → Option Value} {base : Heap} {g : Bool} {k : Nat} {L : List XN} {xa : XN → Addr} {M C : Addr} {m q : Str} {sp : XSp} {d : Int}
theorem KeepsMX.mono {j : Nat} (F : KeepsMX P w K mg base L xa g j C m sp) (h : j ≤ k) : KeepsMX P w K mg base L xa g k C m sp := by
  obtain ⟨f, fd, a, b⟩ := F
  exact ⟨f, fd, a.mono h, b⟩
theorem KeepsMX.plain (F : KeepsMX P w K mg base L xa g k C m sp) : KeepsM P w K mg base g k C m (noX sp) := by
  obtain ⟨f, fd, a, b⟩ := F
  exact ⟨f, fd, a.plain, b⟩
theorem keep_methX {st : Stmt} {N ps : List Str} {G : Glb} {Y : Gx} {F : Fx} {xs : List XSp} {c : XB} (T : HasMeth K C m q st ps) (S : FnScope N ps (defScope st)) (Nm : NamesX P w K mg base k G Y F xs L xa M)
    (len : ∀ ds h Q Xd, sp ds h Q Xd → ds.length = ps.length) (hc : chkXB N G Y (defScope st) c (defBody st) = true)
    (body : ∀ as h Q Xd, sp as h Q Xd → wpXB F xs c (dstart N.length as) h ⟨{ nx := fun _ h' => Ret Q .non h', rt := Ret Q }, RetX Xd⟩) : KeepsMX P w K mg base L xa G.rep (k + 1) C m sp := by
  obtain ⟨f, fd, Fn, me, b⟩ := T.ex
  exact ⟨f, fd, .all (def_okX (.of Fn) S Nm len hc body) b, me⟩
theorem keep_methDX {st : Stmt} {N ps : List Str} {G : Glb} {Y : Gx} {F : Fx} {xs : List XSp} {c : XB} (T : HasMethD K C m q st ps d) (S : FnScope N ps (defScope st)) (Nm : NamesX P w K mg base k G Y F xs L xa M)
    (len : ∀ ds h Q Xd, sp ds h Q Xd → ds.length = ps.length) (hc : chkXB N G Y (defScope st) c (defBody st) = true)
    (body : ∀ as h Q Xd, sp as h Q Xd → wpXB F xs c (dstart N.length as) h ⟨{ nx := fun _ h' => Ret Q .non h', rt := Ret Q }, RetX Xd⟩) : KeepsMX P w K mg base L xa G.rep (k + 1) C m sp ∧ KeepsMX P w K mg base L xa G.rep (k + 1) C m (sp1X sp d) := by
  obtain ⟨f, fd, ds, Fn, me, b, v, b1⟩ := T.ex
  have R := def_okX (P := P) (w := w) (base := base) Fn S Nm len hc body
  exact ⟨⟨f, fd, .all R b, me⟩, f, fd, ⟨ps, [d], ds, sp, R, b1, v, fun _ _ _ _ z => z⟩, me⟩
inductive MthsX (P : Program) (w : World) (K : PySem.W.Frag) (mg : Str → Option Value) (base : Heap) (L : List XN) (xa : XN → Addr) (k : Nat) (rep : Bool) (ds : List D) (xs : List XSp) : List (Nat × Nat × Str) → Prop where
  | nil : MthsX P w K mg base L xa k rep ds xs []
  | cons {j ci : Nat} {m : Str} {g : Bool} {C : Addr} {sp : XSp} {r : List (Nat × Nat × Str)} : ds[ci]? = some (.ref C) → xs[j]? = some sp → (g = true → rep = true) → Cls K C → KeepsMX P w K mg base L xa g k C m sp → MthsX P w K mg base L xa k rep ds xs r → MthsX P w K mg base L xa k rep ds xs ((j, ci, m) :: r)
/-- an error's own __init__ keeps its promise -/
def OwnFact (P : Program) (w : World) (K : PySem.W.Frag) (mg : Str → Option Value) (base : Heap) (C : Addr) (f : Str) : Prop :=
  ∃ fI fd ps, OexC K C ∧ PySem.W.findIn K (.ref C) "__init__" = some (some (.ref fI)) ∧ PySem.W.typeIn K (.ref fI) = some (.type "function") ∧ FnOk P w K mg base CX0 1 fI fd ps (spXI C f) ∧ Binds K fd ps []
structure HasXI (K : PySem.W.Frag) (M C : Addr) (qual y : Str) (st : Stmt) : Prop where
  ex : ∃ fI fd mc, Fun K "__init__" qual st fI fd ∧ OexC K C ∧ PySem.W.findIn K (.ref C) "__init__" = some (some (.ref fI)) ∧ PySem.W.typeIn K (.ref fI) = some (.type "function") ∧ PySem.W.specialIn K (.ref M) "__getattribute__" = some (some (.builtin "type.__getattribute__")) ∧
    PySem.W.readsIn K M mc = true ∧ PySem.W.findCls K (.ref M) mc "__init__" = some (.val (.builtin "ValueError.__init__")) ∧ Binds K fd ["self", y] []
theorem own_of {qual f y : Str} {st : Stmt} (T : HasXI K M C qual y st) (S : FnScope ["self", y] ["self", y] (defScope st)) (ny : ("self" : Str) ≠ y) (hb : xinitB (defScope st) f y (defBody st) = true) (no : PySem.W.findIn K (.ref C) f = some none) (mM : mg "MomentError" = some (.ref M)) : OwnFact P w K mg base C f := by
  obtain ⟨fI, fd, mc, Fn, O, a1, a2, a3, a4, a5, b⟩ := T.ex
  have R := xinit_ok (P := P) (w := w) (base := base) Fn S ny hb O no mM a3 a4 a5
  exact ⟨fI, fd, _, O, a1, a2, ⟨R.len, fun A outer s H args us vs Q E hr he hb hv hs => R.run A outer s H args us vs Q E (fun z => by cases z) hr he hb hv hs⟩, b⟩
theorem hasXI {qual y : Str} {st : Stmt} {fI : Addr} {od an : Option Addr} {sl : Array (Option Value)} {oc kV dc pm cd ct mc : Value} (O : OexC K C) (a : PySem.W.findIn K (.ref C) "__init__" = some (some (.ref fI))) (i : PySem.W.typeIn K (.ref fI) = some (.type "function"))
    (l : K.lookup fI = some ⟨oc, od, .func (PySem.W.fnOf "__init__" qual (defArgs st) (defBody st) (defScope st) .none kV dc pm an cd ct), sl⟩) (c : PySem.W.codeIn K cd qual = true) (k : PySem.W.keepIn K (.ref fI) = true)
    (sp : PySem.W.specialIn K (.ref M) "__getattribute__" = some (some (.builtin "type.__getattribute__"))) (rd : PySem.W.readsIn K M mc = true) (vV : PySem.W.findCls K (.ref M) mc "__init__" = some (.val (.builtin "ValueError.__init__")))
    (b : ∀ (kV doc pm : Value) (an : Option Addr) (cdv ct : Value) (us : List Value), us.length = 2 → bindArgs (PySem.W.fnOf "__init__" qual (defArgs st) (defBody st) (defScope st) .none kV doc pm an cdv ct) ⟨us, []⟩ = pure (([("self" : Str), y] : List Str).zip us)) : HasXI K M C qual y st :=
  ⟨fI, _, mc, fun_mk l c k, O, a, i, sp, rd, vV, (fun_mk l c k).binds b⟩
theorem const_cls {x : Str} {C : Addr} (h : mg x = some (.ref C)) : Const K mg x (.ref C) := ⟨⟨.ref C, .ref C, h, rfl, fun _ => rfl⟩⟩
/-- an error of a class with a part of its own is made as a value -/
theorem XNm.kmkx1 {C : Addr} {f : Str} {F : Fx} {rep : Bool} {ci : Nat} (O : OwnFact P w K mg base C f) (hk : 2 ≤ k) (c : F.cv[ci]? = some (.ref C)) : XNm P w K mg base k rep F (.mkx ci (some f)) := by
  obtain ⟨fI, fd, ps, a, b, d, e, g⟩ := O
  exact ⟨C, fI, fd, ps, 1, c, a, b, d, hk, e, g⟩
theorem kit_type {C : Addr} {n : String} {b : Bool} (m : PySem.W.kitMeta n = true) (s : PySem.W.subIn K (.ref C) (.type n) = some b) : PySem.W.kitOne K (.ref C) (.type n) = some b := by
  have z : (Value.ref C == Value.type n) = false := rfl
  unfold PySem.W.kitOne
  rw [z, if_neg Bool.false_ne_true]
  exact (if_pos m : (if PySem.W.kitMeta n = true then PySem.W.subIn K (.ref C) (.type n) else none) = _).trans s
theorem namesXM {G : Glb} {F : Fx} {yx : List Str} {ys zs : List XSp} {ym : List (Nat × Nat × Str)} {kinds : List XN} (Nm : Names P w K mg base k G F) (Cx : CalleesX P w K mg base L xa k G.rep yx ys) (Mx : MthsX P w K mg base L xa k G.rep F.cv (ys ++ zs) ym) (xw : XWorld K mg L xa M) (hk : ∀ kk ∈ kinds, kk ∈ L)
    (own : ∀ kk ∈ kinds, ∀ f, kk.fd = some f → OwnFact P w K mg base (xa kk) f ∧ 2 ≤ k) : NamesX P w K mg base k G ⟨yx, ym, kinds⟩ F (ys ++ zs) L xa M where
  toNames := Nm
  xf := fun j x e => by
    obtain ⟨g, sp, a, b, f, fd, ps, c⟩ := Cx.get (i := j) (x := x) e
    have hi : j < ys.length := by
      rcases Nat.lt_or_ge j ys.length with h | h
      · exact h
      · rw [List.getElem?_eq_none h] at a; cases a
    exact ⟨g, sp, f, fd, ps, by rw [List.getElem?_append_left hi]; exact a, b, c.1, c.2.1, c.2.2.1, c.2.2.2.1⟩
  xm := fun j ci m e => by
    have e : (j, ci, m) ∈ ym := e
    induction Mx with
    | nil => cases e
    | cons a b c d f r ih =>
      rcases List.mem_cons.mp e with z | z
      · cases z
        obtain ⟨fa, fd, f1, f2⟩ := f
        exact ⟨_, _, _, fa, fd, a, b, c, d, f2, f1⟩
      · exact ih z z
  xw := xw
  xk := hk
  own := fun kk h f e => by
    obtain ⟨⟨fI, fd, ps, a1, a2, a3, a4, a5⟩, l⟩ := own kk h f e
    exact ⟨fI, fd, ps, 1, a1, a2, a3, a4, l, a5⟩
end
end DL

set_option Elab.async false
set_option linter.all false
set_option maxRecDepth 100000
set_option maxHeartbeats 4000000
/-! DK28: errors held as values. -/
namespace DL
open PySem PySem.Spec PyProof.Rows L2
local macro_rules | `(tactic| exists $es,*) => `(tactic| (first | simp only [$[$es:term],*, wpB, wpS, wpE, wpL, wpO, wpC, wpI, dstart, List.map_cons, List.map_nil, List.length_cons, List.length_nil, List.replicate, List.cons_append, List.nil_append, List.set, slot0, slotS, nthW, Nat.zero_add, Nat.reduceAdd, Nat.reduceSub,
  bin_add, bin_sub, bin_mul, bin_div, bin_mod, bin_pow, fIx_tup, fIx_ref, fAdd_int, fAdd_str, fAdd_tup, fAdd_ref, fSub_int, fMul_int, fMul_tup, fDiv_int, fMod_int, fPow_int, cmp_eq, cmp_ne, cmp_lt, cmp_le, cmp_gt, cmp_ge, cmp_is, cmp_isn, cmp_in, cmp_nin, eqW_ii, eqW_ss, boolW_bl, intW_int, iteW_t, iteW_f,
  blt_len_str, blt_len_tup, blt_len_ref, blt_tuple_tup, blt_tuple_ref, blt_list_tup, blt_list_ref, br_sum, br_sumt, br_min1, br_max1, br_all, br_any, br_min2, br_max2, br_abs1, br_int1, fSet_ref, mt_append, mt_pop, mt_popAt, mt_extend, fSl_tup, fSl_ref, fSl_scr, tgtW_n, tgtW_t, setAll, seqW_tup, seqW_ref, isRcv, lstOf_is, exists_eq', exists_eq, true_and, and_true, atI0, atI1, atI2,
  Option.some.injEq, DO.lst.injEq, exists_eq_left', exists_eq_left, exists_const, decide_true, decide_false, Bool.not_true, Bool.not_false, dupd_same, dupd_ne, ne_eq, not_false_eq_true, isiB_int, isiB_bl, isiB_str, isiB_tup, isiB_non, beq_self_eq_true, Bool.true_or, Bool.or_true, Bool.false_or, Bool.or_false, tn_int_bool, tn_int_str, tn_int_tuple, tn_int_list, tn_bool_int, tn_bool_str, tn_bool_tuple, tn_bool_list, tn_str_int, tn_str_bool, tn_str_tuple, tn_str_list, tn_tuple_int, tn_tuple_bool, tn_tuple_str, tn_tuple_list, tn_list_int, tn_list_bool, tn_list_str, tn_list_tuple] | dsimp only | skip))
local macro_rules | `(tactic| injection (alloc $h $o) with $p:ident $hp:ident $h2:ident $s:ident $e:ident) => `(tactic| (intro $p:ident $hp:ident; have $s:ident := (Sub.refl $h).new (o := $o) $hp; have $e:ident : dupd $h $p $o $p = some $o := dupd_same; generalize dupd $h $p $o = $h2:ident at *))
def c__law_kinds : CB :=
  .cons (.set 1 (.lst (.cons (.isX 5 "NoAct" (.var 0)) (.cons (.isX 4 "Barred" (.var 0)) (.cons (.isX 3 "NoTree" (.var 0)) (.cons (.isX 2 "Full" (.var 0)) .nil))))))
  (.cons (.ret (.bin .Add (.var 1) (.lst (.cons (.isX 1 "BadMany" (.var 0)) (.cons (.isX 0 "BadText" (.var 0)) .nil))))) .nil)
def c_law_k28 : CB :=
  .cons (.set 1 (.call 3 (.cons (.var 0) .nil)))
  (.cons (.ite (.cmp .NotEq (.drop (.blt .repr (.cons (.lst (.cons (.glob 9) (.cons (.glob 8) (.cons (.glob 7) (.cons (.glob 6) .nil))))) .nil))) (.drop (.blt .repr (.cons (.lst (.cons (.int 12) (.cons (.int 1000) (.cons (.int 5) (.cons (.int 200) .nil))))) .nil)))) (.cons (.ret (.bl false)) .nil) (.nil))
  (.cons (.loop (.name 2) (.rng1 (.int 4)) (.cons (.set 3 (.call 2 (.cons (.var 1) (.cons (.lst (.cons .non (.cons (.str "go") (.cons (.int 0) (.cons (.neg (.int 1)) (.cons (.tup (.cons (.int 1) (.cons (.int 2) .nil))) (.cons (.bl true) (.cons (.str "") (.cons (.lst (.cons (.int 3) .nil)) (.cons (.dnew false) (.cons (.bin .Add (.bin .Pow (.int 10) (.int 30)) (.call 1 (.cons (.var 1) (.cons (.bin .Pow (.int 10) (.int 9)) .nil)))) .nil))))))))))) .nil))))
    (.cons (.set 4 (.lst (.cons (.mkx0 5) (.cons (.mkx0 4) (.cons (.mkx0 3) (.cons (.mkx0 2) (.cons (.mkx1 1 "many" (.var 3)) (.cons (.mkx1 0 "place" (.var 3)) .nil))))))))
    (.cons (.loop (.name 5) (.rng1 (.int 6)) (.cons (.ite (.cmp .NotEq (.call 0 (.cons (.ix (.var 4) (.var 5)) .nil)) (.lc (.cmp .Eq (.var 6) (.var 5)) (.name 6) (.rng1 (.int 6)) [("_law_other", 6)] .no)) (.cons (.ret (.bl false)) .nil) (.nil))
      (.cons (.ite (.or (.not (.isX 6 "MomentError" (.ix (.var 4) (.var 5)))) (.not (.isX 7 "ValueError" (.ix (.var 4) (.var 5))))) (.cons (.ret (.bl false)) .nil) (.nil))
      (.cons (.ite (.or (.isX 4 "LookupError" (.ix (.var 4) (.var 5))) (.isX 5 "TypeError" (.ix (.var 4) (.var 5)))) (.cons (.ret (.bl false)) .nil) (.nil)) .nil))))
    (.cons (.ite (.cmp .NotEq (.drop (.blt .repr (.cons (.lst (.cons (.fldX 1 "many" (.ix (.var 4) (.int 4))) (.cons (.fldX 0 "place" (.ix (.var 4) (.int 5))) .nil))) .nil))) (.drop (.blt .repr (.cons (.lst (.cons (.var 3) (.cons (.var 3) .nil))) .nil)))) (.cons (.ret (.bl false)) .nil) (.nil)) .nil)))))
  (.cons (.ret (.bl true)) .nil)))
/-- isinstance of an error: the classes and the answers -/
def spIsx (tab : List (Addr × Bool)) : DSp := fun ds h Q => ∃ C f xs b, ds = [.exc C f xs] ∧ (C, b) ∈ tab ∧ Q (.bl b) h
theorem isx_of {K : PySem.W.Frag} {cv : Value} {tab : List (Addr × Bool)} (t : ∀ p ∈ tab, ExcC K p.1 ∧ PySem.W.kitOne K (.ref p.1) cv = some p.2) : IsXsp K cv (spIsx tab) := by
  rintro ds h Q ⟨C, f, xs, b, e, m, q⟩
  obtain ⟨a, c⟩ := t _ m
  exact ⟨C, f, xs, b, e, a, c, q⟩
theorem isx_six {K : PySem.W.Frag} {cv : Value} {A : Nat → Addr} {b : Nat → Bool} (e : ∀ i, i < 6 → ExcC K (A i)) (k : ∀ i, i < 6 → PySem.W.kitOne K (.ref (A i)) cv = some (b i)) : IsXsp K cv (spIsx ((List.range 6).map fun i => (A i, b i))) := isx_of fun p hp => by
  obtain ⟨i, hi, rfl⟩ := List.mem_map.mp hp
  exact ⟨e i (List.mem_range.mp hi), k i (List.mem_range.mp hi)⟩
theorem six {P : Nat → Prop} (p0 : P 0) (p1 : P 1) (p2 : P 2) (p3 : P 3) (p4 : P 4) (p5 : P 5) : ∀ i, i < 6 → P i
  | 0, _ => p0
  | 1, _ => p1
  | 2, _ => p2
  | 3, _ => p3
  | 4, _ => p4
  | 5, _ => p5
  | n + 6, h => absurd h (by omega)
/-- the six classes -/
def adr28 (a0 a1 a2 a3 a4 a5 : Addr) : Nat → Addr
  | 0 => a0 | 1 => a1 | 2 => a2 | 3 => a3 | 4 => a4 | _ => a5
def tabO (A : Nat → Addr) (k : Nat) : List (Addr × Bool) := (List.range 6).map fun i => (A i, decide (i = k))
def tabA (A : Nat → Addr) (b : Bool) : List (Addr × Bool) := (List.range 6).map fun i => (A i, b)
theorem mem_tabO {A : Nat → Addr} {k i : Nat} (h : i < 6) : (A i, decide (i = k)) ∈ tabO A k := List.mem_map.mpr ⟨i, List.mem_range.mpr h, rfl⟩
theorem mem_tabA {A : Nat → Addr} {b : Bool} {i : Nat} (h : i < 6) : (A i, b) ∈ tabA A b := List.mem_map.mpr ⟨i, List.mem_range.mpr h, rfl⟩
def kinds28 (i : Nat) : List D := [.bl (decide (i = 0)), .bl (decide (i = 1)), .bl (decide (i = 2)), .bl (decide (i = 3)), .bl (decide (i = 4)), .bl (decide (i = 5))]
def spKinds (A : Nat → Addr) : DSp := fun as h Q => ∃ (i : Nat) (f : Str) (xs : List D), i < 6 ∧ as = [.exc (A i) f xs] ∧ ∀ p h', Sub h h' → h' p = some (.lst (kinds28 i)) → Q (.ref p) h'
theorem len_kinds (A : Nat → Addr) : ∀ ds h Q, spKinds A ds h Q → ds.length = 1 := fun _ _ _ ⟨_, _, _, _, e, _⟩ => by rw [e]; rfl
theorem b_kinds (A : Nat → Addr) (as : List D) (h : DH) (Q : WK) (s : spKinds A as h Q) : wpB ⟨[], [spIsx (tabO A 5), spIsx (tabO A 4), spIsx (tabO A 3), spIsx (tabO A 2), spIsx (tabO A 1), spIsx (tabO A 0)]⟩ c__law_kinds (dstart 2 as) h { nx := fun _ h' => Ret Q .non h', rt := Ret Q } := by
  obtain ⟨i, f, xs, hi, rfl, q⟩ := s
  unfold c__law_kinds
  exists wpB
  have go : ∀ (k : Nat) (g : DH) (R : WK), R (.bl (decide (i = k))) g → spIsx (tabO A k) [.exc (A i) f xs] g R := fun k g R r => ⟨_, _, _, _, rfl, mem_tabO hi, r⟩
  refine go 0 _ _ (go 1 _ _ (go 2 _ _ (go 3 _ _ ⟨by decide, ?_⟩)))
  injection (alloc h (.lst [.bl (decide (i = 0)), .bl (decide (i = 1)), .bl (decide (i = 2)), .bl (decide (i = 3))])) with p1 hp1 h1 s1 e1
  refine go 4 _ _ (go 5 _ _ ⟨by decide, ?_⟩)
  injection (alloc h1 (.lst [.bl (decide (i = 4)), .bl (decide (i = 5))])) with p2 hp2 h2 s2 e2
  refine ⟨_, s2 _ _ e1, by simp, fun p hp => ?_⟩
  exact ret_here (q p _ ((s1.trans s2).new hp) dupd_same)
def errs28 (A : Nat → Addr) (x : D) : List D := [.exc (A 0) "" [], .exc (A 1) "" [], .exc (A 2) "" [], .exc (A 3) "" [], .exc (A 4) "many" [x], .exc (A 5) "place" [x]]
theorem errs_at {A : Nat → Addr} {x : D} : ∀ j : Nat, j < 6 → ∃ f ys, atI (errs28 A x) (0 + (j : Int)) = some (.exc (A j) f ys)
  | 0, _ => ⟨_, _, rfl⟩
  | 1, _ => ⟨_, _, rfl⟩
  | 2, _ => ⟨_, _, rfl⟩
  | 3, _ => ⟨_, _, rfl⟩
  | 4, _ => ⟨_, _, rfl⟩
  | 5, _ => ⟨_, _, rfl⟩
  | n + 6, h => absurd h (by omega)
theorem same28 : ∀ j, j < 6 → ((SeqAt.shaped (.list (pys (kinds28 j)))) && PyData.eqvAll (pys (kinds28 j)) (pys (kinds28 j))) = true := by decide +kernel
/-- a list that holds a thing twice is shown -/
theorem rp_two {h : DH} {n k : Nat} {x : D} (t : Txt h n k x) (hn : n ≤ 1000) (hk : k ≤ 60) : ∃ z, ∀ (h' : DH) (p : Addr) (Q : WK), Sub h h' → h' p = some (.lst [x, x]) → Q (.str z) h' → fBlt .repr [.ref p] h' Q := by
  obtain ⟨d, e, r⟩ := t
  have r1 := r.can; have r2 := r.dep; have r3 := r.sh; have r4 := r.blk
  have w : Rw (2 * n + 2) (k + 1) (.list [d, d]) := ⟨by simp [PyData.showable, PyData.showableAll, r1], by simp only [PyData.depth, PyData.depthAll]; omega, by simp [PyData.leavesShort, PyData.leavesShortAll, r3], by simp only [PyData.bulk, PyData.bulkAll]; omega⟩
  refine ⟨(PyData.list [d, d]).shown, fun h' p Q s ep q => shows_rp ⟨2, ?_, w.can, Nat.le_trans w.dep (by omega), w.len (by omega)⟩ q⟩
  have e' := pyW_up (rf1_sub s) _ _ e
  show rfN h' 2 p = _
  unfold rfN
  rw [ep]
  simp only [pyWs, e', Option.bind_some, Option.map_some]
theorem b_law_k28 (a0 a1 a2 a3 a4 a5 : Addr) (as : List D) (h : DH) (Q : WK) (s : spLaw as h Q) : wpB ⟨[.ref a5, .ref a4, .ref a3, .ref a2, .ref a1, .ref a0, .int 200, .int 5, .int 1000, .int 12], [spKinds (adr28 a0 a1 a2 a3 a4 a5), spDraw, spPick, spDeck, spIsx (tabA (adr28 a0 a1 a2 a3 a4 a5) false), spIsx (tabA (adr28 a0 a1 a2 a3 a4 a5) false), spIsx (tabA (adr28 a0 a1 a2 a3 a4 a5) true), spIsx (tabA (adr28 a0 a1 a2 a3 a4 a5) true)]⟩ c_law_k28 (dstart 7 as) h { nx := fun _ h' => Ret Q .non h', rt := Ret Q } := by
  obtain ⟨ns, rfl, hl, h0, q⟩ := s
  unfold c_law_k28
  exists wpB
  refine ⟨ns, rfl, h0, fun dk => ?_⟩
  have hd0 : dupd h dk .deck dk = some .deck := dupd_same
  generalize dupd h dk .deck = h1 at *
  exists wpB
  refine ⟨by decide, fun p0 hp0 => ?_⟩
  refine rp_lst dupd_same (n := 100) (k := 0) rfl ⟨by decide +kernel, by decide +kernel, by decide +kernel, by decide +kernel⟩ (ret_sub ((Sub.refl h1).new hp0) ⟨by decide, fun p1 hp1 => ?_⟩)
  refine rp_lst dupd_same (n := 100) (k := 0) rfl ⟨by decide +kernel, by decide +kernel, by decide +kernel, by decide +kernel⟩ (ret_sub ((Sub.refl h1).new hp1) (eq_same ?_))
  exists wpB
  refine ⟨by decide, ?_⟩
  refine loopW_rng (fun i ρ h' => h' dk = some .deck ∧ ∃ o2 o3 o4 o5 o6, ρ = [some (.scr ns), some (.ref dk), o2, o3, o4, o5, o6]) ?_ ?_ ⟨hd0, _, _, _, _, _, rfl⟩
  · rintro ρ h' ⟨hd, o2, o3, o4, o5, o6, rfl⟩
    exact ret_here (q _)
  · rintro i ρ h2 N hi ⟨hd, o2, o3, o4, o5, o6, rfl⟩ next
    have c30 : CPow 10 30 := ⟨by decide, by decide, by decide⟩
    have c9 : CPow 10 9 := ⟨by decide, by decide, by decide⟩
    have i9 : ((10 : Int) ^ Int.toNat 9) = 1000000000 := by decide
    have i30 : ((10 : Int) ^ Int.toNat 30) = 1000000000000000000000000000000 := by decide
    have rw0 : ∀ {a : Addr} {k : Addr → Prop}, refW (.ref a) k = k a := rfl
    exists if_neg Bool.false_ne_true, rw0, i9, i30
    refine ⟨by decide, by decide, fun p3 hp3 p4 hp4 => ⟨c30, c9, dk, 1000000000, rfl, ?_, by decide, by decide, fun k k0 k1 => ?_⟩⟩
    · have n3 : dk ≠ p3 := fun z => by rw [← z, hd] at hp3; cases hp3
      have n4 : dk ≠ p4 := fun z => by rw [← z, dupd_ne n3, hd] at hp4; cases hp4
      rw [dupd_ne n4, dupd_ne n3]; exact hd
    have s3 := (Sub.refl h2).new (o := .lst [.int 3]) hp3
    have e3 : dupd h2 p3 (.lst [.int 3]) p3 = some (.lst [.int 3]) := dupd_same
    generalize dupd h2 p3 (.lst [.int 3]) = h3 at *
    have s4 := (Sub.refl h3).new (o := .dk []) hp4
    have e4 : dupd h3 p4 (.dk []) p4 = some (.dk []) := dupd_same
    generalize dupd h3 p4 (.dk []) = h4 at *
    exists wpB
    refine ⟨by decide, ?_⟩
    obtain ⟨k, rfl⟩ := Int.eq_ofNat_of_zero_le k0
    injection (alloc h4 (.lst [.non, .str "go", .int 0, .int (-1), .tup [.int 1, .int 2], .bl true, .str "", .ref p3, .ref p4, .int (1000000000000000000000000000000 + (k : Int))])) with p5 hp5 h5 s5 e5
    have hd5 := s5 _ _ (s4 _ _ (s3 _ _ hd))
    refine ⟨dk, _, _, rfl, hd5, .inr ⟨p5, rfl, e5⟩, by simp, by simp, fun x hx => ⟨by decide, ?_⟩⟩
    have tx : Txt h5 50 3 x := by
      have z : ∀ {y : D} {n k : Nat}, Txt h5 n k y → n ≤ 50 → k ≤ 3 → Txt h5 50 3 y := fun t a b => t.mono a b
      simp only [List.mem_cons, List.not_mem_nil, or_false] at hx
      rcases hx with rfl | rfl | rfl | rfl | rfl | rfl | rfl | rfl | rfl | rfl
      · exact z (txt_pure rfl rp_none) (by decide) (by decide)
      · exact z (txt_pure rfl (rp_str (n := 2) (by decide +kernel) (by decide))) (by decide) (by decide)
      · exact z (txt_pure rfl (rp_i (i := 0) (by decide))) (by decide) (by decide)
      · exact z (txt_pure rfl (rp_i (i := -1) (by decide))) (by decide) (by decide)
      · exact z (txt_pure rfl (Rps.tup (.cons (rp_i (i := 1) (by decide)) (.cons (rp_i (i := 2) (by decide)) .nil)))) (by decide) (by decide)
      · exact z (txt_pure rfl rp_bool) (by decide) (by decide)
      · exact z (txt_pure rfl (rp_str (n := 0) (by decide +kernel) (by decide))) (by decide) (by decide)
      · exact z (txt_lst (s5 _ _ (s4 _ _ e3)) rfl (Rps.cons (rp_i (i := 3) (by decide)) .nil)) (by decide) (by decide)
      · exact z (txt_dk (s5 _ _ e4)) (by decide) (by decide)
      · refine z (txt_pure rfl ?_) (Nat.zero_le 50) (Nat.zero_le 3)
        have e : (1000000000000000000000000000000 + (k : Int)) = ((1000000000000000000000000000000 + k : Nat) : Int) := by omega
        show Rp 0 0 (.int (1000000000000000000000000000000 + (k : Int)))
        rw [e]
        exact rp_n (Nat.lt_of_lt_of_le (show 1000000000000000000000000000000 + k < 2 ^ 101 by omega) (Nat.pow_le_pow_right (by decide) (by decide)))
    clear hx
    injection (alloc h5 (.lst [.exc a0 "" [], .exc a1 "" [], .exc a2 "" [], .exc a3 "" [], .exc a4 "many" [x], .exc a5 "place" [x]])) with p6 hp6 h6 s6 e6
    have e6 : h6 p6 = some (.lst (errs28 (adr28 a0 a1 a2 a3 a4 a5) x)) := e6
    have hd6 := s6 _ _ hd5
    refine ⟨by decide, ?_⟩
    refine loopW_rng (fun j ρ h' => Sub h6 h' ∧ ∃ o5 o6, ρ = [some (.scr ns), some (.ref dk), some (.int (0 + (i : Int))), some x, some (.ref p6), o5, o6]) ?_ ?_ ⟨Sub.refl _, _, _, rfl⟩
    · rintro ρ h7 ⟨s7, o5', o6', rfl⟩
      obtain ⟨z, hz⟩ := rp_two tx (by decide) (by decide)
      have c4 : atI (errs28 (adr28 a0 a1 a2 a3 a4 a5) x) 4 = some (.exc a4 "many" [x]) := rfl
      have c5 : atI (errs28 (adr28 a0 a1 a2 a3 a4 a5) x) 5 = some (.exc a5 "place" [x]) := rfl
      exists wpB
      refine ⟨_, s7 _ _ e6, _, c4, x, rfl, _, s7 _ _ e6, _, c5, x, rfl, by decide, fun p7 hp7 => ?_⟩
      refine hz _ _ _ ((s6.trans s7).new hp7) dupd_same (ret_sub ((Sub.refl h7).new hp7) ?_)
      refine ⟨by decide, fun p8 hp8 => ?_⟩
      refine hz _ _ _ ((s6.trans s7).new hp8) dupd_same (ret_sub ((Sub.refl h7).new hp8) (eq_same ?_))
      exists wpB
      exact next _ _ ⟨s7 _ _ hd6, _, _, _, _, _, rfl⟩
    · rintro j ρ h7 N2 hj ⟨s7, o5', o6', rfl⟩ next2
      have hj : j < 6 := hj
      obtain ⟨f, ys, ej⟩ := errs_at (A := adr28 a0 a1 a2 a3 a4 a5) (x := x) j hj
      exists dwipe
      refine ⟨_, s7 _ _ e6, _, ej, j, f, ys, hj, rfl, fun p8 h8 s8 e8 => ?_⟩
      exists dwipe
      refine ⟨by decide, by decide, ?_⟩
      have er : rngD 0 (Int.toNat 6) = (List.range 6).map fun k : Nat => D.int (0 + (k : Int)) := rfl
      rw [er]
      refine lcM (fun k : Nat => D.bl (decide (k = j))) True.intro (fun k hk R r => ?_) ?_
      · rw [eqW_ii, show decide (0 + (k : Int) = 0 + (j : Int)) = decide (k = j) from decide_eq_decide.mpr (by omega)]
        exact r
      · intro p9 hp9
        have ek : (List.range 6).map (fun k : Nat => D.bl (decide (k = j))) = kinds28 j := by
          have c : ∀ k : Nat, decide (k = j) = decide (j = k) := fun k => decide_eq_decide.mpr eq_comm
          simp only [c]
          rfl
        rw [ek]
        have s9 := (Sub.refl h8).new (o := .lst (kinds28 j)) hp9
        have e9 : dupd h8 p9 (.lst (kinds28 j)) p9 = some (.lst (kinds28 j)) := dupd_same
        generalize dupd h8 p9 (.lst (kinds28 j)) = h9 at *
        have z := same28 j hj
        simp only [Bool.and_eq_true] at z
        refine eqW_lst (s9 _ _ e8) e9 rfl rfl z.1 z.1 ?_
        rw [z.2]
        have e6' := s9 _ _ (s8 _ _ (s7 _ _ e6))
        exists wpB
        refine ⟨_, e6', _, ej, _, _, _, true, rfl, mem_tabA hj, ?_⟩
        exists wpB
        refine ⟨_, e6', _, ej, _, _, _, true, rfl, mem_tabA hj, ?_⟩
        exists wpB
        refine ⟨_, e6', _, ej, _, _, _, false, rfl, mem_tabA hj, ?_⟩
        exists wpB
        refine ⟨_, e6', _, ej, _, _, _, false, rfl, mem_tabA hj, ?_⟩
        exists wpB
        exact next2 _ _ ⟨(s7.trans s8).trans s9, _, _, rfl⟩
end DL

namespace DL
open PySem PySem.Spec PyProof.Rows L2
def top_k28 (i : Nat) : Stmt := PySem.Challenge.pw_fewmoments_k28_errors_and_bounds.main.body.getD i (.Pass ⟨0, 0, 0, 0⟩)
theorem chk_k28__law_kinds : chkB ["_law_error", "_law_found"] ⟨[], [], false, [], [], [], [], [], [], [.isX 0 "BadText", .isX 1 "BadMany", .isX 2 "Full", .isX 3 "NoTree", .isX 4 "Barred", .isX 5 "NoAct"]⟩ (defScope (top_k28 16)) c__law_kinds (defBody (top_k28 16)) = true := by decide +kernel
theorem sc_k28__law_kinds : FnScope ["_law_error", "_law_found"] ["_law_error"] (defScope (top_k28 16)) := C8.fnScope_by (by decide +kernel)
theorem chk_k28__law_draw : chkB ["_law_deck_here", "_law_bound", "_law_cell", "_law_mixed", "_law_rest"] (glb [] [] false) (defScope (top_k28 14)) c__law_draw (defBody (top_k28 14)) = true := by decide +kernel
theorem sc_k28__law_draw : FnScope ["_law_deck_here", "_law_bound", "_law_cell", "_law_mixed", "_law_rest"] ["_law_deck_here", "_law_bound"] (defScope (top_k28 14)) := C8.fnScope_by (by decide +kernel)
theorem chk_k28__law_pick : chkB ["_law_deck_here", "_law_items"] (glb [] ["_law_draw"] false) (defScope (top_k28 15)) c__law_pick (defBody (top_k28 15)) = true := by decide +kernel
theorem sc_k28__law_pick : FnScope ["_law_deck_here", "_law_items"] ["_law_deck_here", "_law_items"] (defScope (top_k28 15)) := C8.fnScope_by (by decide +kernel)
theorem chk_k28__law_deck : chkB ["_law_script", "_law_cells", "_law_cell"] (glb [] [] false) (defScope (top_k28 13)) c__law_deck (defBody (top_k28 13)) = true := by decide +kernel
theorem sc_k28__law_deck : FnScope ["_law_script", "_law_cells", "_law_cell"] ["_law_script"] (defScope (top_k28 13)) := C8.fnScope_by (by decide +kernel)
theorem chk_k28_law : chkB ["_law_script", "_law_deck_here", "_law_turn", "_law_a", "_law_made_ones", "_law_at", "_law_other"] ⟨["BadText", "BadMany", "Full", "NoTree", "Barred", "NoAct", "MAX_ACTS", "MAX_ROOM", "MAX_COST", "MAX_STEPS"], ["_law_kinds", "_law_draw", "_law_pick", "_law_deck"], true, [], [], [], [], [], [], [.isX 4 "LookupError", .isX 5 "TypeError", .isX 6 "MomentError", .isX 7 "ValueError", .fldX 0 "place", .fldX 1 "many", .mkx 0 (some "place"), .mkx 1 (some "many"), .mkx 2 none, .mkx 3 none, .mkx 4 none, .mkx 5 none]⟩ (defScope (top_k28 17)) c_law_k28 (defBody (top_k28 17)) = true := by decide +kernel
theorem sc_k28_law : FnScope ["_law_script", "_law_deck_here", "_law_turn", "_law_a", "_law_made_ones", "_law_at", "_law_other"] ["_law_script"] (defScope (top_k28 17)) := C8.fnScope_by (by decide +kernel)
theorem all_k28 {P : Program} {w : World} {K : PySem.W.Frag} {mg : Str → Option Value} (B : NoBlt mg)  {A_M : Addr} {A_NoAct : Addr} {A_Barred : Addr} {A_NoTree : Addr} {A_Full : Addr} {A_BadMany : Addr} {A_BadText : Addr} (g_MAX_ACTS : Const K mg "MAX_ACTS" (.int 200)) (g_MAX_ROOM : Const K mg "MAX_ROOM" (.int 5)) (g_MAX_COST : Const K mg "MAX_COST" (.int 1000)) (g_MAX_STEPS : Const K mg "MAX_STEPS" (.int 12)) (t__law_kinds : HasDef K mg "_law_kinds" (top_k28 16) ["_law_error"]) (t__law_draw : HasDef K mg "_law_draw" (top_k28 14) ["_law_deck_here", "_law_bound"]) (t__law_pick : HasDef K mg "_law_pick" (top_k28 15) ["_law_deck_here", "_law_items"]) (t__law_deck : HasDef K mg "_law_deck" (top_k28 13) ["_law_script"])       (hx_NoAct : HasX K mg A_M .noAct A_NoAct) (hx_Barred : HasX K mg A_M .barred A_Barred) (hx_NoTree : HasX K mg A_M .noTree A_NoTree) (hx_Full : HasX K mg A_M .full A_Full) (hx_BadMany : HasX K mg A_M .badMany A_BadMany) (hx_BadText : HasX K mg A_M .badText A_BadText) (exm_NoAct_NoAct : PySem.W.exmOne K (.ref A_NoAct) (.ref A_NoAct) = some true) (exm_NoAct_Barred : PySem.W.exmOne K (.ref A_NoAct) (.ref A_Barred) = some false) (exm_NoAct_NoTree : PySem.W.exmOne K (.ref A_NoAct) (.ref A_NoTree) = some false) (exm_NoAct_Full : PySem.W.exmOne K (.ref A_NoAct) (.ref A_Full) = some false) (exm_NoAct_BadMany : PySem.W.exmOne K (.ref A_NoAct) (.ref A_BadMany) = some false) (exm_NoAct_BadText : PySem.W.exmOne K (.ref A_NoAct) (.ref A_BadText) = some false) (exm_Barred_NoAct : PySem.W.exmOne K (.ref A_Barred) (.ref A_NoAct) = some false) (exm_Barred_Barred : PySem.W.exmOne K (.ref A_Barred) (.ref A_Barred) = some true) (exm_Barred_NoTree : PySem.W.exmOne K (.ref A_Barred) (.ref A_NoTree) = some false) (exm_Barred_Full : PySem.W.exmOne K (.ref A_Barred) (.ref A_Full) = some false) (exm_Barred_BadMany : PySem.W.exmOne K (.ref A_Barred) (.ref A_BadMany) = some false) (exm_Barred_BadText : PySem.W.exmOne K (.ref A_Barred) (.ref A_BadText) = some false) (exm_NoTree_NoAct : PySem.W.exmOne K (.ref A_NoTree) (.ref A_NoAct) = some false) (exm_NoTree_Barred : PySem.W.exmOne K (.ref A_NoTree) (.ref A_Barred) = some false) (exm_NoTree_NoTree : PySem.W.exmOne K (.ref A_NoTree) (.ref A_NoTree) = some true) (exm_NoTree_Full : PySem.W.exmOne K (.ref A_NoTree) (.ref A_Full) = some false) (exm_NoTree_BadMany : PySem.W.exmOne K (.ref A_NoTree) (.ref A_BadMany) = some false) (exm_NoTree_BadText : PySem.W.exmOne K (.ref A_NoTree) (.ref A_BadText) = some false) (exm_Full_NoAct : PySem.W.exmOne K (.ref A_Full) (.ref A_NoAct) = some false) (exm_Full_Barred : PySem.W.exmOne K (.ref A_Full) (.ref A_Barred) = some false) (exm_Full_NoTree : PySem.W.exmOne K (.ref A_Full) (.ref A_NoTree) = some false) (exm_Full_Full : PySem.W.exmOne K (.ref A_Full) (.ref A_Full) = some true) (exm_Full_BadMany : PySem.W.exmOne K (.ref A_Full) (.ref A_BadMany) = some false) (exm_Full_BadText : PySem.W.exmOne K (.ref A_Full) (.ref A_BadText) = some false) (exm_BadMany_NoAct : PySem.W.exmOne K (.ref A_BadMany) (.ref A_NoAct) = some false) (exm_BadMany_Barred : PySem.W.exmOne K (.ref A_BadMany) (.ref A_Barred) = some false) (exm_BadMany_NoTree : PySem.W.exmOne K (.ref A_BadMany) (.ref A_NoTree) = some false) (exm_BadMany_Full : PySem.W.exmOne K (.ref A_BadMany) (.ref A_Full) = some false) (exm_BadMany_BadMany : PySem.W.exmOne K (.ref A_BadMany) (.ref A_BadMany) = some true) (exm_BadMany_BadText : PySem.W.exmOne K (.ref A_BadMany) (.ref A_BadText) = some false) (exm_BadText_NoAct : PySem.W.exmOne K (.ref A_BadText) (.ref A_NoAct) = some false) (exm_BadText_Barred : PySem.W.exmOne K (.ref A_BadText) (.ref A_Barred) = some false) (exm_BadText_NoTree : PySem.W.exmOne K (.ref A_BadText) (.ref A_NoTree) = some false) (exm_BadText_Full : PySem.W.exmOne K (.ref A_BadText) (.ref A_Full) = some false) (exm_BadText_BadMany : PySem.W.exmOne K (.ref A_BadText) (.ref A_BadMany) = some false) (exm_BadText_BadText : PySem.W.exmOne K (.ref A_BadText) (.ref A_BadText) = some true) (kit_NoAct_NoAct : PySem.W.kitOne K (.ref A_NoAct) (.ref A_NoAct) = some true) (kit_NoAct_Barred : PySem.W.kitOne K (.ref A_NoAct) (.ref A_Barred) = some false) (kit_NoAct_NoTree : PySem.W.kitOne K (.ref A_NoAct) (.ref A_NoTree) = some false) (kit_NoAct_Full : PySem.W.kitOne K (.ref A_NoAct) (.ref A_Full) = some false) (kit_NoAct_BadMany : PySem.W.kitOne K (.ref A_NoAct) (.ref A_BadMany) = some false) (kit_NoAct_BadText : PySem.W.kitOne K (.ref A_NoAct) (.ref A_BadText) = some false) (kit_Barred_NoAct : PySem.W.kitOne K (.ref A_Barred) (.ref A_NoAct) = some false) (kit_Barred_Barred : PySem.W.kitOne K (.ref A_Barred) (.ref A_Barred) = some true) (kit_Barred_NoTree : PySem.W.kitOne K (.ref A_Barred) (.ref A_NoTree) = some false) (kit_Barred_Full : PySem.W.kitOne K (.ref A_Barred) (.ref A_Full) = some false) (kit_Barred_BadMany : PySem.W.kitOne K (.ref A_Barred) (.ref A_BadMany) = some false) (kit_Barred_BadText : PySem.W.kitOne K (.ref A_Barred) (.ref A_BadText) = some false) (kit_NoTree_NoAct : PySem.W.kitOne K (.ref A_NoTree) (.ref A_NoAct) = some false) (kit_NoTree_Barred : PySem.W.kitOne K (.ref A_NoTree) (.ref A_Barred) = some false) (kit_NoTree_NoTree : PySem.W.kitOne K (.ref A_NoTree) (.ref A_NoTree) = some true) (kit_NoTree_Full : PySem.W.kitOne K (.ref A_NoTree) (.ref A_Full) = some false) (kit_NoTree_BadMany : PySem.W.kitOne K (.ref A_NoTree) (.ref A_BadMany) = some false) (kit_NoTree_BadText : PySem.W.kitOne K (.ref A_NoTree) (.ref A_BadText) = some false) (kit_Full_NoAct : PySem.W.kitOne K (.ref A_Full) (.ref A_NoAct) = some false) (kit_Full_Barred : PySem.W.kitOne K (.ref A_Full) (.ref A_Barred) = some false) (kit_Full_NoTree : PySem.W.kitOne K (.ref A_Full) (.ref A_NoTree) = some false) (kit_Full_Full : PySem.W.kitOne K (.ref A_Full) (.ref A_Full) = some true) (kit_Full_BadMany : PySem.W.kitOne K (.ref A_Full) (.ref A_BadMany) = some false) (kit_Full_BadText : PySem.W.kitOne K (.ref A_Full) (.ref A_BadText) = some false) (kit_BadMany_NoAct : PySem.W.kitOne K (.ref A_BadMany) (.ref A_NoAct) = some false) (kit_BadMany_Barred : PySem.W.kitOne K (.ref A_BadMany) (.ref A_Barred) = some false) (kit_BadMany_NoTree : PySem.W.kitOne K (.ref A_BadMany) (.ref A_NoTree) = some false) (kit_BadMany_Full : PySem.W.kitOne K (.ref A_BadMany) (.ref A_Full) = some false) (kit_BadMany_BadMany : PySem.W.kitOne K (.ref A_BadMany) (.ref A_BadMany) = some true) (kit_BadMany_BadText : PySem.W.kitOne K (.ref A_BadMany) (.ref A_BadText) = some false) (kit_BadText_NoAct : PySem.W.kitOne K (.ref A_BadText) (.ref A_NoAct) = some false) (kit_BadText_Barred : PySem.W.kitOne K (.ref A_BadText) (.ref A_Barred) = some false) (kit_BadText_NoTree : PySem.W.kitOne K (.ref A_BadText) (.ref A_NoTree) = some false) (kit_BadText_Full : PySem.W.kitOne K (.ref A_BadText) (.ref A_Full) = some false) (kit_BadText_BadMany : PySem.W.kitOne K (.ref A_BadText) (.ref A_BadMany) = some false) (kit_BadText_BadText : PySem.W.kitOne K (.ref A_BadText) (.ref A_BadText) = some true) (at_M : mg "MomentError" = some (.ref A_M)) (no_V : mg "ValueError" = none) (tx_BadMany : HasXI K A_M A_BadMany "BadMany.__init__" "many" (inClass (top_k28 6) 0)) (nx_BadMany : PySem.W.findIn K (.ref A_BadMany) "many" = some none) (tx_BadText : HasXI K A_M A_BadText "BadText.__init__" "place" (inClass (top_k28 7) 0)) (nx_BadText : PySem.W.findIn K (.ref A_BadText) "place" = some none) (km_NoAct : PySem.W.kitOne K (.ref A_NoAct) (.ref A_M) = some true) (kl_NoAct : PySem.W.kitOne K (.ref A_NoAct) (.type "LookupError") = some false) (kt_NoAct : PySem.W.kitOne K (.ref A_NoAct) (.type "TypeError") = some false) (km_Barred : PySem.W.kitOne K (.ref A_Barred) (.ref A_M) = some true) (kl_Barred : PySem.W.kitOne K (.ref A_Barred) (.type "LookupError") = some false) (kt_Barred : PySem.W.kitOne K (.ref A_Barred) (.type "TypeError") = some false) (km_NoTree : PySem.W.kitOne K (.ref A_NoTree) (.ref A_M) = some true) (kl_NoTree : PySem.W.kitOne K (.ref A_NoTree) (.type "LookupError") = some false) (kt_NoTree : PySem.W.kitOne K (.ref A_NoTree) (.type "TypeError") = some false) (km_Full : PySem.W.kitOne K (.ref A_Full) (.ref A_M) = some true) (kl_Full : PySem.W.kitOne K (.ref A_Full) (.type "LookupError") = some false) (kt_Full : PySem.W.kitOne K (.ref A_Full) (.type "TypeError") = some false) (km_BadMany : PySem.W.kitOne K (.ref A_BadMany) (.ref A_M) = some true) (kl_BadMany : PySem.W.kitOne K (.ref A_BadMany) (.type "LookupError") = some false) (kt_BadMany : PySem.W.kitOne K (.ref A_BadMany) (.type "TypeError") = some false) (km_BadText : PySem.W.kitOne K (.ref A_BadText) (.ref A_M) = some true) (kl_BadText : PySem.W.kitOne K (.ref A_BadText) (.type "LookupError") = some false) (kt_BadText : PySem.W.kitOne K (.ref A_BadText) (.type "TypeError") = some false) (no_L : mg "LookupError" = none) (no_T : mg "TypeError" = none) (t_law : HasLaw K mg (top_k28 17)) :
    ∃ f fd, mg "law" = some (.ref f) ∧ (∀ (s : Shared) (u : Value), BindsTo s fd ⟨[u], []⟩ [("_law_script", u)]) ∧ ∀ base : Heap, K.In base → base.Ns mainGlobals mg → FnR true P w K mg base CX0 3 f fd ["_law_script"] (liftSp K spLaw) := by
  obtain ⟨f, fd, F, m, bind⟩ := t_law.ex
  refine ⟨f, fd, m, bind, fun base _ _ => ?_⟩
  have xw : XWorld K mg [.noAct, .barred, .noTree, .full, .badMany, .badText] (xaOf A_NoAct A_Barred A_NoTree A_Full A_BadMany A_BadText) A_M := xworld (fun kk hk => by
    simp only [List.mem_cons, List.not_mem_nil, or_false] at hk
    rcases hk with rfl | rfl | rfl | rfl | rfl | rfl
    · exact hx_NoAct
    · exact hx_Barred
    · exact hx_NoTree
    · exact hx_Full
    · exact hx_BadMany
    · exact hx_BadText) (fun kk hk k2 hk2 => by
    simp only [List.mem_cons, List.not_mem_nil, or_false] at hk hk2
    rcases hk with rfl | rfl | rfl | rfl | rfl | rfl
    · rcases hk2 with rfl | rfl | rfl | rfl | rfl | rfl
      · exact exm_NoAct_NoAct
      · exact exm_NoAct_Barred
      · exact exm_NoAct_NoTree
      · exact exm_NoAct_Full
      · exact exm_NoAct_BadMany
      · exact exm_NoAct_BadText
    · rcases hk2 with rfl | rfl | rfl | rfl | rfl | rfl
      · exact exm_Barred_NoAct
      · exact exm_Barred_Barred
      · exact exm_Barred_NoTree
      · exact exm_Barred_Full
      · exact exm_Barred_BadMany
      · exact exm_Barred_BadText
    · rcases hk2 with rfl | rfl | rfl | rfl | rfl | rfl
      · exact exm_NoTree_NoAct
      · exact exm_NoTree_Barred
      · exact exm_NoTree_NoTree
      · exact exm_NoTree_Full
      · exact exm_NoTree_BadMany
      · exact exm_NoTree_BadText
    · rcases hk2 with rfl | rfl | rfl | rfl | rfl | rfl
      · exact exm_Full_NoAct
      · exact exm_Full_Barred
      · exact exm_Full_NoTree
      · exact exm_Full_Full
      · exact exm_Full_BadMany
      · exact exm_Full_BadText
    · rcases hk2 with rfl | rfl | rfl | rfl | rfl | rfl
      · exact exm_BadMany_NoAct
      · exact exm_BadMany_Barred
      · exact exm_BadMany_NoTree
      · exact exm_BadMany_Full
      · exact exm_BadMany_BadMany
      · exact exm_BadMany_BadText
    · rcases hk2 with rfl | rfl | rfl | rfl | rfl | rfl
      · exact exm_BadText_NoAct
      · exact exm_BadText_Barred
      · exact exm_BadText_NoTree
      · exact exm_BadText_Full
      · exact exm_BadText_BadMany
      · exact exm_BadText_BadText) (fun kk hk k2 hk2 => by
    simp only [List.mem_cons, List.not_mem_nil, or_false] at hk hk2
    rcases hk with rfl | rfl | rfl | rfl | rfl | rfl
    · rcases hk2 with rfl | rfl | rfl | rfl | rfl | rfl
      · exact kit_NoAct_NoAct
      · exact kit_NoAct_Barred
      · exact kit_NoAct_NoTree
      · exact kit_NoAct_Full
      · exact kit_NoAct_BadMany
      · exact kit_NoAct_BadText
    · rcases hk2 with rfl | rfl | rfl | rfl | rfl | rfl
      · exact kit_Barred_NoAct
      · exact kit_Barred_Barred
      · exact kit_Barred_NoTree
      · exact kit_Barred_Full
      · exact kit_Barred_BadMany
      · exact kit_Barred_BadText
    · rcases hk2 with rfl | rfl | rfl | rfl | rfl | rfl
      · exact kit_NoTree_NoAct
      · exact kit_NoTree_Barred
      · exact kit_NoTree_NoTree
      · exact kit_NoTree_Full
      · exact kit_NoTree_BadMany
      · exact kit_NoTree_BadText
    · rcases hk2 with rfl | rfl | rfl | rfl | rfl | rfl
      · exact kit_Full_NoAct
      · exact kit_Full_Barred
      · exact kit_Full_NoTree
      · exact kit_Full_Full
      · exact kit_Full_BadMany
      · exact kit_Full_BadText
    · rcases hk2 with rfl | rfl | rfl | rfl | rfl | rfl
      · exact kit_BadMany_NoAct
      · exact kit_BadMany_Barred
      · exact kit_BadMany_NoTree
      · exact kit_BadMany_Full
      · exact kit_BadMany_BadMany
      · exact kit_BadMany_BadText
    · rcases hk2 with rfl | rfl | rfl | rfl | rfl | rfl
      · exact kit_BadText_NoAct
      · exact kit_BadText_Barred
      · exact kit_BadText_NoTree
      · exact kit_BadText_Full
      · exact kit_BadText_BadMany
      · exact kit_BadText_BadText) at_M no_V (B "isinstance" (by decide))
  have ow_BadMany : OwnFact P w K mg base A_BadMany "many" := own_of tx_BadMany (C8.fnScope_by (by decide +kernel)) (by decide) (by decide +kernel) nx_BadMany at_M
  have ow_BadText : OwnFact P w K mg base A_BadText "place" := own_of tx_BadText (C8.fnScope_by (by decide +kernel)) (by decide) (by decide +kernel) nx_BadText at_M
  have k__law_kinds : Keeps P w K mg base false 1 "_law_kinds" (spKinds (adr28 A_NoAct A_Barred A_NoTree A_Full A_BadMany A_BadText)) := keep_cls (k := 0) t__law_kinds sc_k28__law_kinds (Names.kws (names_cls (rep := false) (ts := [(spIsx (tabO (adr28 A_NoAct A_Barred A_NoTree A_Full A_BadMany A_BadText) 5)), (spIsx (tabO (adr28 A_NoAct A_Barred A_NoTree A_Full A_BadMany A_BadText) 4)), (spIsx (tabO (adr28 A_NoAct A_Barred A_NoTree A_Full A_BadMany A_BadText) 3)), (spIsx (tabO (adr28 A_NoAct A_Barred A_NoTree A_Full A_BadMany A_BadText) 2)), (spIsx (tabO (adr28 A_NoAct A_Barred A_NoTree A_Full A_BadMany A_BadText) 1)), (spIsx (tabO (adr28 A_NoAct A_Barred A_NoTree A_Full A_BadMany A_BadText) 0))]) B .nil .nil .nil .nil .nil) (fun e he => by
    simp only [List.mem_cons, List.not_mem_nil, or_false] at he
    rcases he with rfl | rfl | rfl | rfl | rfl | rfl
    · exact ⟨_, _, _, rfl, .inl ⟨_, rfl, rfl, hx_BadText.at_⟩, isx_six (six hx_NoAct.is_ hx_Barred.is_ hx_NoTree.is_ hx_Full.is_ hx_BadMany.is_ hx_BadText.is_) (six kit_NoAct_BadText kit_Barred_BadText kit_NoTree_BadText kit_Full_BadText kit_BadMany_BadText kit_BadText_BadText)⟩
    · exact ⟨_, _, _, rfl, .inl ⟨_, rfl, rfl, hx_BadMany.at_⟩, isx_six (six hx_NoAct.is_ hx_Barred.is_ hx_NoTree.is_ hx_Full.is_ hx_BadMany.is_ hx_BadText.is_) (six kit_NoAct_BadMany kit_Barred_BadMany kit_NoTree_BadMany kit_Full_BadMany kit_BadMany_BadMany kit_BadText_BadMany)⟩
    · exact ⟨_, _, _, rfl, .inl ⟨_, rfl, rfl, hx_Full.at_⟩, isx_six (six hx_NoAct.is_ hx_Barred.is_ hx_NoTree.is_ hx_Full.is_ hx_BadMany.is_ hx_BadText.is_) (six kit_NoAct_Full kit_Barred_Full kit_NoTree_Full kit_Full_Full kit_BadMany_Full kit_BadText_Full)⟩
    · exact ⟨_, _, _, rfl, .inl ⟨_, rfl, rfl, hx_NoTree.at_⟩, isx_six (six hx_NoAct.is_ hx_Barred.is_ hx_NoTree.is_ hx_Full.is_ hx_BadMany.is_ hx_BadText.is_) (six kit_NoAct_NoTree kit_Barred_NoTree kit_NoTree_NoTree kit_Full_NoTree kit_BadMany_NoTree kit_BadText_NoTree)⟩
    · exact ⟨_, _, _, rfl, .inl ⟨_, rfl, rfl, hx_Barred.at_⟩, isx_six (six hx_NoAct.is_ hx_Barred.is_ hx_NoTree.is_ hx_Full.is_ hx_BadMany.is_ hx_BadText.is_) (six kit_NoAct_Barred kit_Barred_Barred kit_NoTree_Barred kit_Full_Barred kit_BadMany_Barred kit_BadText_Barred)⟩
    · exact ⟨_, _, _, rfl, .inl ⟨_, rfl, rfl, hx_NoAct.at_⟩, isx_six (six hx_NoAct.is_ hx_Barred.is_ hx_NoTree.is_ hx_Full.is_ hx_BadMany.is_ hx_BadText.is_) (six kit_NoAct_NoAct kit_Barred_NoAct kit_NoTree_NoAct kit_Full_NoAct kit_BadMany_NoAct kit_BadText_NoAct)⟩)) (len_kinds _) chk_k28__law_kinds (b_kinds _)
  have k__law_draw : Keeps P w K mg base false 1 "_law_draw" spDraw := keep_defO (k := 0) t__law_draw sc_k28__law_draw B .nil .nil len_draw chk_k28__law_draw (fun as h Q H s hr => b_draw as h Q K H s hr)
  have k__law_pick : Keeps P w K mg base false 2 "_law_pick" spPick := keep_def (k := 1) t__law_pick sc_k28__law_pick B (.cons (k__law_draw.mono (by decide)) (fun z => by cases z) .nil) .nil len_pick chk_k28__law_pick b_pick
  have k__law_deck : Keeps P w K mg base false 1 "_law_deck" spDeck := keep_def (k := 0) t__law_deck sc_k28__law_deck B .nil .nil len_deck chk_k28__law_deck b_deck
  have key := def_ok (k := 2) (base := base) (P := P) (w := w) F sc_k28_law (Names.kws (names_cls (rep := true) (ts := [(spIsx (tabA (adr28 A_NoAct A_Barred A_NoTree A_Full A_BadMany A_BadText) false)), (spIsx (tabA (adr28 A_NoAct A_Barred A_NoTree A_Full A_BadMany A_BadText) false)), (spIsx (tabA (adr28 A_NoAct A_Barred A_NoTree A_Full A_BadMany A_BadText) true)), (spIsx (tabA (adr28 A_NoAct A_Barred A_NoTree A_Full A_BadMany A_BadText) true))]) B (.cons (k__law_kinds.mono (by decide)) (fun z => by cases z) (.cons (k__law_draw.mono (by decide)) (fun z => by cases z) (.cons (k__law_pick.mono (by decide)) (fun z => by cases z) (.cons (k__law_deck.mono (by decide)) (fun z => by cases z) .nil)))) (.cons (const_cls hx_BadText.at_) (.cons (const_cls hx_BadMany.at_) (.cons (const_cls hx_Full.at_) (.cons (const_cls hx_NoTree.at_) (.cons (const_cls hx_Barred.at_) (.cons (const_cls hx_NoAct.at_) (.cons g_MAX_ACTS (.cons g_MAX_ROOM (.cons g_MAX_COST (.cons g_MAX_STEPS .nil)))))))))) .nil .nil .nil) (fun e he => by
    simp only [List.mem_cons, List.not_mem_nil, or_false] at he
    rcases he with rfl | rfl | rfl | rfl | rfl | rfl | rfl | rfl | rfl | rfl | rfl | rfl
    · exact ⟨_, _, _, rfl, .inr ⟨_, rfl, rfl, no_L, (by decide +kernel), (by decide)⟩, isx_six (six hx_NoAct.is_ hx_Barred.is_ hx_NoTree.is_ hx_Full.is_ hx_BadMany.is_ hx_BadText.is_) (six kl_NoAct kl_Barred kl_NoTree kl_Full kl_BadMany kl_BadText)⟩
    · exact ⟨_, _, _, rfl, .inr ⟨_, rfl, rfl, no_T, (by decide +kernel), (by decide)⟩, isx_six (six hx_NoAct.is_ hx_Barred.is_ hx_NoTree.is_ hx_Full.is_ hx_BadMany.is_ hx_BadText.is_) (six kt_NoAct kt_Barred kt_NoTree kt_Full kt_BadMany kt_BadText)⟩
    · exact ⟨_, _, _, rfl, .inl ⟨_, rfl, rfl, at_M⟩, isx_six (six hx_NoAct.is_ hx_Barred.is_ hx_NoTree.is_ hx_Full.is_ hx_BadMany.is_ hx_BadText.is_) (six km_NoAct km_Barred km_NoTree km_Full km_BadMany km_BadText)⟩
    · exact ⟨_, _, _, rfl, .inr ⟨_, rfl, rfl, no_V, (by decide +kernel), (by decide)⟩, isx_six (six hx_NoAct.is_ hx_Barred.is_ hx_NoTree.is_ hx_Full.is_ hx_BadMany.is_ hx_BadText.is_) (six hx_NoAct.kitV hx_Barred.kitV hx_NoTree.kitV hx_Full.kitV hx_BadMany.kitV hx_BadText.kitV)⟩
    · exact ⟨_, rfl, (hx_BadText.fld _ rfl).1, (hx_BadText.fld _ rfl).2⟩
    · exact ⟨_, rfl, (hx_BadMany.fld _ rfl).1, (hx_BadMany.fld _ rfl).2⟩
    · exact XNm.kmkx1 ow_BadText (by decide) rfl
    · exact XNm.kmkx1 ow_BadMany (by decide) rfl
    · exact ⟨_, rfl, hx_Full.keep, hx_Full.plain rfl⟩
    · exact ⟨_, rfl, hx_NoTree.keep, hx_NoTree.plain rfl⟩
    · exact ⟨_, rfl, hx_Barred.keep, hx_Barred.plain rfl⟩
    · exact ⟨_, rfl, hx_NoAct.keep, hx_NoAct.plain rfl⟩)) len_law chk_k28_law (b_law_k28 A_NoAct A_Barred A_NoTree A_Full A_BadMany A_BadText)
  exact key
theorem top_all_k28 {P : Program} {w : World} {K : PySem.W.Frag} {h : Heap} {mg : Str → Option Value} (X : K.In h) (G : h.Ns mainGlobals mg)
    {A_M : Addr} {A_NoAct : Addr} {A_Barred : Addr} {A_NoTree : Addr} {A_Full : Addr} {A_BadMany : Addr} {A_BadText : Addr}
    {f0 : Addr} {od0 an0 : Option Addr} {sl0 : Array (Option Value)} {oc0 kV0 dc0 pm0 cd0 ct0 : Value}
    (a0 : PySem.W.nsIn K mainGlobals "_law_kinds" = some (some (.ref f0))) (l0 : K.lookup f0 = some ⟨oc0, od0, .func (PySem.W.fnOf "_law_kinds" "_law_kinds" (defArgs (top_k28 16)) (defBody (top_k28 16)) (defScope (top_k28 16)) .none kV0 dc0 pm0 an0 cd0 ct0), sl0⟩) (c0 : PySem.W.codeIn K cd0 "_law_kinds" = true) (k0 : PySem.W.keepIn K (.ref f0) = true)
    {f1 : Addr} {od1 an1 : Option Addr} {sl1 : Array (Option Value)} {oc1 kV1 dc1 pm1 cd1 ct1 : Value}
    (a1 : PySem.W.nsIn K mainGlobals "_law_draw" = some (some (.ref f1))) (l1 : K.lookup f1 = some ⟨oc1, od1, .func (PySem.W.fnOf "_law_draw" "_law_draw" (defArgs (top_k28 14)) (defBody (top_k28 14)) (defScope (top_k28 14)) .none kV1 dc1 pm1 an1 cd1 ct1), sl1⟩) (c1 : PySem.W.codeIn K cd1 "_law_draw" = true) (k1 : PySem.W.keepIn K (.ref f1) = true)
    {f2 : Addr} {od2 an2 : Option Addr} {sl2 : Array (Option Value)} {oc2 kV2 dc2 pm2 cd2 ct2 : Value}
    (a2 : PySem.W.nsIn K mainGlobals "_law_pick" = some (some (.ref f2))) (l2 : K.lookup f2 = some ⟨oc2, od2, .func (PySem.W.fnOf "_law_pick" "_law_pick" (defArgs (top_k28 15)) (defBody (top_k28 15)) (defScope (top_k28 15)) .none kV2 dc2 pm2 an2 cd2 ct2), sl2⟩) (c2 : PySem.W.codeIn K cd2 "_law_pick" = true) (k2 : PySem.W.keepIn K (.ref f2) = true)
    {f3 : Addr} {od3 an3 : Option Addr} {sl3 : Array (Option Value)} {oc3 kV3 dc3 pm3 cd3 ct3 : Value}
    (a3 : PySem.W.nsIn K mainGlobals "_law_deck" = some (some (.ref f3))) (l3 : K.lookup f3 = some ⟨oc3, od3, .func (PySem.W.fnOf "_law_deck" "_law_deck" (defArgs (top_k28 13)) (defBody (top_k28 13)) (defScope (top_k28 13)) .none kV3 dc3 pm3 an3 cd3 ct3), sl3⟩) (c3 : PySem.W.codeIn K cd3 "_law_deck" = true) (k3 : PySem.W.keepIn K (.ref f3) = true)
    {f4 : Addr} {od4 an4 : Option Addr} {sl4 : Array (Option Value)} {oc4 kV4 dc4 pm4 cd4 ct4 : Value}
    (a4 : PySem.W.nsIn K mainGlobals "law" = some (some (.ref f4))) (l4 : K.lookup f4 = some ⟨oc4, od4, .func (PySem.W.fnOf "law" "law" (defArgs (top_k28 17)) (defBody (top_k28 17)) (defScope (top_k28 17)) .none kV4 dc4 pm4 an4 cd4 ct4), sl4⟩) (c4 : PySem.W.codeIn K cd4 "law" = true) (k4 : PySem.W.keepIn K (.ref f4) = true)
    (aX_M : PySem.W.nsIn K mainGlobals "MomentError" = some (some (.ref A_M)))
    (zV : PySem.W.nsIn K mainGlobals "ValueError" = some none)
    (hnX : PySem.W.specialIn K (.builtin "object.__class__") "__get__" = some (some (.builtin "getset_descriptor.__get__")))
    (htX : PySem.W.takesIn K (.builtin "object.__class__") = some true)
    (aX_NoAct : PySem.W.nsIn K mainGlobals "NoAct" = some (some (.ref A_NoAct)))
    (kpX_NoAct : PySem.W.keepIn K (.ref A_NoAct) = true)
    (sbX_NoAct : PySem.W.subIn K (.ref A_NoAct) (.type "BaseException") = some true)
    (tyX_NoAct : PySem.W.typeIn K (.ref A_NoAct) = some (.type "type"))
    (plX_NoAct : PySem.W.excIn K A_NoAct [.type "ValueError", .type "Exception", .type "BaseException", .type "object"] "ValueError.__new__" = true)
    (emX_NoAct : PySem.W.subIn K (.ref A_NoAct) (.ref A_M) = some true)
    (hgX_NoAct : PySem.W.findIn K (.ref A_NoAct) "__getattribute__" = some (some (.builtin "BaseException.__getattribute__")))
    (hkX_NoAct : PySem.W.findIn K (.ref A_NoAct) "__getattr__" = some none)
    (hdX_NoAct : PySem.W.hasDictIn K A_NoAct = true)
    (haX_NoAct : PySem.W.findIn K (.ref A_NoAct) "__class__" = some (some (.builtin "object.__class__")))
    (hmX_NoAct : PySem.W.mroIn K A_NoAct (.type "object") = some true)
    (kvX_NoAct : PySem.W.subIn K (.ref A_NoAct) (.type "ValueError") = some true)
    (aX_Barred : PySem.W.nsIn K mainGlobals "Barred" = some (some (.ref A_Barred)))
    (kpX_Barred : PySem.W.keepIn K (.ref A_Barred) = true)
    (sbX_Barred : PySem.W.subIn K (.ref A_Barred) (.type "BaseException") = some true)
    (tyX_Barred : PySem.W.typeIn K (.ref A_Barred) = some (.type "type"))
    (plX_Barred : PySem.W.excIn K A_Barred [.type "ValueError", .type "Exception", .type "BaseException", .type "object"] "ValueError.__new__" = true)
    (emX_Barred : PySem.W.subIn K (.ref A_Barred) (.ref A_M) = some true)
    (hgX_Barred : PySem.W.findIn K (.ref A_Barred) "__getattribute__" = some (some (.builtin "BaseException.__getattribute__")))
    (hkX_Barred : PySem.W.findIn K (.ref A_Barred) "__getattr__" = some none)
    (hdX_Barred : PySem.W.hasDictIn K A_Barred = true)
    (haX_Barred : PySem.W.findIn K (.ref A_Barred) "__class__" = some (some (.builtin "object.__class__")))
    (hmX_Barred : PySem.W.mroIn K A_Barred (.type "object") = some true)
    (kvX_Barred : PySem.W.subIn K (.ref A_Barred) (.type "ValueError") = some true)
    (aX_NoTree : PySem.W.nsIn K mainGlobals "NoTree" = some (some (.ref A_NoTree)))
    (kpX_NoTree : PySem.W.keepIn K (.ref A_NoTree) = true)
    (sbX_NoTree : PySem.W.subIn K (.ref A_NoTree) (.type "BaseException") = some true)
    (tyX_NoTree : PySem.W.typeIn K (.ref A_NoTree) = some (.type "type"))
    (plX_NoTree : PySem.W.excIn K A_NoTree [.type "ValueError", .type "Exception", .type "BaseException", .type "object"] "ValueError.__new__" = true)
    (emX_NoTree : PySem.W.subIn K (.ref A_NoTree) (.ref A_M) = some true)
    (hgX_NoTree : PySem.W.findIn K (.ref A_NoTree) "__getattribute__" = some (some (.builtin "BaseException.__getattribute__")))
    (hkX_NoTree : PySem.W.findIn K (.ref A_NoTree) "__getattr__" = some none)
    (hdX_NoTree : PySem.W.hasDictIn K A_NoTree = true)
    (haX_NoTree : PySem.W.findIn K (.ref A_NoTree) "__class__" = some (some (.builtin "object.__class__")))
    (hmX_NoTree : PySem.W.mroIn K A_NoTree (.type "object") = some true)
    (kvX_NoTree : PySem.W.subIn K (.ref A_NoTree) (.type "ValueError") = some true)
    (aX_Full : PySem.W.nsIn K mainGlobals "Full" = some (some (.ref A_Full)))
    (kpX_Full : PySem.W.keepIn K (.ref A_Full) = true)
    (sbX_Full : PySem.W.subIn K (.ref A_Full) (.type "BaseException") = some true)
    (tyX_Full : PySem.W.typeIn K (.ref A_Full) = some (.type "type"))
    (plX_Full : PySem.W.excIn K A_Full [.type "ValueError", .type "Exception", .type "BaseException", .type "object"] "ValueError.__new__" = true)
    (emX_Full : PySem.W.subIn K (.ref A_Full) (.ref A_M) = some true)
    (hgX_Full : PySem.W.findIn K (.ref A_Full) "__getattribute__" = some (some (.builtin "BaseException.__getattribute__")))
    (hkX_Full : PySem.W.findIn K (.ref A_Full) "__getattr__" = some none)
    (hdX_Full : PySem.W.hasDictIn K A_Full = true)
    (haX_Full : PySem.W.findIn K (.ref A_Full) "__class__" = some (some (.builtin "object.__class__")))
    (hmX_Full : PySem.W.mroIn K A_Full (.type "object") = some true)
    (kvX_Full : PySem.W.subIn K (.ref A_Full) (.type "ValueError") = some true)
    (aX_BadMany : PySem.W.nsIn K mainGlobals "BadMany" = some (some (.ref A_BadMany)))
    (kpX_BadMany : PySem.W.keepIn K (.ref A_BadMany) = true)
    (sbX_BadMany : PySem.W.subIn K (.ref A_BadMany) (.type "BaseException") = some true)
    (tyX_BadMany : PySem.W.typeIn K (.ref A_BadMany) = some (.type "type"))
    (emX_BadMany : PySem.W.subIn K (.ref A_BadMany) (.ref A_M) = some true)
    (hgX_BadMany : PySem.W.findIn K (.ref A_BadMany) "__getattribute__" = some (some (.builtin "BaseException.__getattribute__")))
    (hkX_BadMany : PySem.W.findIn K (.ref A_BadMany) "__getattr__" = some none)
    (hdX_BadMany : PySem.W.hasDictIn K A_BadMany = true)
    (haX_BadMany : PySem.W.findIn K (.ref A_BadMany) "__class__" = some (some (.builtin "object.__class__")))
    (hmX_BadMany : PySem.W.mroIn K A_BadMany (.type "object") = some true)
    (kvX_BadMany : PySem.W.subIn K (.ref A_BadMany) (.type "ValueError") = some true)
    (aX_BadText : PySem.W.nsIn K mainGlobals "BadText" = some (some (.ref A_BadText)))
    (kpX_BadText : PySem.W.keepIn K (.ref A_BadText) = true)
    (sbX_BadText : PySem.W.subIn K (.ref A_BadText) (.type "BaseException") = some true)
    (tyX_BadText : PySem.W.typeIn K (.ref A_BadText) = some (.type "type"))
    (emX_BadText : PySem.W.subIn K (.ref A_BadText) (.ref A_M) = some true)
    (hgX_BadText : PySem.W.findIn K (.ref A_BadText) "__getattribute__" = some (some (.builtin "BaseException.__getattribute__")))
    (hkX_BadText : PySem.W.findIn K (.ref A_BadText) "__getattr__" = some none)
    (hdX_BadText : PySem.W.hasDictIn K A_BadText = true)
    (haX_BadText : PySem.W.findIn K (.ref A_BadText) "__class__" = some (some (.builtin "object.__class__")))
    (hmX_BadText : PySem.W.mroIn K A_BadText (.type "object") = some true)
    (kvX_BadText : PySem.W.subIn K (.ref A_BadText) (.type "ValueError") = some true)
    {nX_BadMany qX_BadMany : Str} {NX_BadMany fX_BadMany : Addr} {bX_BadMany uX_BadMany : List Value} {wX_BadMany : List Str} {vX_BadMany : Bool} {eX_BadMany : Option Bool} {dX_BadMany odX_BadMany anX_BadMany : Option Addr} {m0X_BadMany m1X_BadMany m2X_BadMany m3X_BadMany m5X_BadMany : Option Value} {slX_BadMany : Array (Option Value)} {ocX_BadMany kVX_BadMany dcX_BadMany pmX_BadMany cdX_BadMany ctX_BadMany : Value}
    (lkX_BadMany : K.lookup A_BadMany = some (excClassObj nX_BadMany qX_BadMany A_BadMany NX_BadMany bX_BadMany [.ref A_M, .type "ValueError", .type "Exception", .type "BaseException", .type "object"] true wX_BadMany uX_BadMany vX_BadMany eX_BadMany dX_BadMany m0X_BadMany m1X_BadMany m2X_BadMany m3X_BadMany m5X_BadMany "ValueError.__new__"))
    (saX_BadMany : PySem.W.findIn K (.ref A_BadMany) "__setattr__" = some (some (.builtin "object.__setattr__")))
    (nfX_BadMany : PySem.W.findIn K (.ref A_BadMany) "many" = some none)
    (aiX_BadMany : PySem.W.findIn K (.ref A_BadMany) "__init__" = some (some (.ref fX_BadMany)))
    (tiX_BadMany : PySem.W.typeIn K (.ref fX_BadMany) = some (.type "function"))
    (liX_BadMany : K.lookup fX_BadMany = some ⟨ocX_BadMany, odX_BadMany, .func (PySem.W.fnOf "__init__" "BadMany.__init__" (defArgs (inClass (top_k28 6) 0)) (defBody (inClass (top_k28 6) 0)) (defScope (inClass (top_k28 6) 0)) .none kVX_BadMany dcX_BadMany pmX_BadMany anX_BadMany cdX_BadMany ctX_BadMany), slX_BadMany⟩)
    (ciX_BadMany : PySem.W.codeIn K cdX_BadMany "BadMany.__init__" = true)
    (kiX_BadMany : PySem.W.keepIn K (.ref fX_BadMany) = true)
    {nX_BadText qX_BadText : Str} {NX_BadText fX_BadText : Addr} {bX_BadText uX_BadText : List Value} {wX_BadText : List Str} {vX_BadText : Bool} {eX_BadText : Option Bool} {dX_BadText odX_BadText anX_BadText : Option Addr} {m0X_BadText m1X_BadText m2X_BadText m3X_BadText m5X_BadText : Option Value} {slX_BadText : Array (Option Value)} {ocX_BadText kVX_BadText dcX_BadText pmX_BadText cdX_BadText ctX_BadText : Value}
    (lkX_BadText : K.lookup A_BadText = some (excClassObj nX_BadText qX_BadText A_BadText NX_BadText bX_BadText [.ref A_M, .type "ValueError", .type "Exception", .type "BaseException", .type "object"] true wX_BadText uX_BadText vX_BadText eX_BadText dX_BadText m0X_BadText m1X_BadText m2X_BadText m3X_BadText m5X_BadText "ValueError.__new__"))
    (saX_BadText : PySem.W.findIn K (.ref A_BadText) "__setattr__" = some (some (.builtin "object.__setattr__")))
    (nfX_BadText : PySem.W.findIn K (.ref A_BadText) "place" = some none)
    (aiX_BadText : PySem.W.findIn K (.ref A_BadText) "__init__" = some (some (.ref fX_BadText)))
    (tiX_BadText : PySem.W.typeIn K (.ref fX_BadText) = some (.type "function"))
    (liX_BadText : K.lookup fX_BadText = some ⟨ocX_BadText, odX_BadText, .func (PySem.W.fnOf "__init__" "BadText.__init__" (defArgs (inClass (top_k28 7) 0)) (defBody (inClass (top_k28 7) 0)) (defScope (inClass (top_k28 7) 0)) .none kVX_BadText dcX_BadText pmX_BadText anX_BadText cdX_BadText ctX_BadText), slX_BadText⟩)
    (ciX_BadText : PySem.W.codeIn K cdX_BadText "BadText.__init__" = true)
    (kiX_BadText : PySem.W.keepIn K (.ref fX_BadText) = true)
    (spX_M : PySem.W.specialIn K (.ref A_M) "__getattribute__" = some (some (.builtin "type.__getattribute__")))
    (rdX_M : PySem.W.readsIn K A_M (.type "type") = true)
    (fcX_M : PySem.W.findCls K (.ref A_M) (.type "type") "__init__" = some (.val (.builtin "ValueError.__init__")))
    (hdX_M : PySem.W.hasDictIn K A_M = true)
    (tyX_M : PySem.W.typeIn K (.ref A_M) = some (.type "type"))
    (sbX_M : PySem.W.subIn K (.ref A_M) (.type "BaseException") = some true)
    (su_MM : PySem.W.subIn K (.ref A_M) (.ref A_M) = some true)
    (zL : PySem.W.nsIn K mainGlobals "LookupError" = some none)
    (zT : PySem.W.nsIn K mainGlobals "TypeError" = some none)
    (su_L_NoAct : PySem.W.subIn K (.ref A_NoAct) (.type "LookupError") = some false)
    (su_T_NoAct : PySem.W.subIn K (.ref A_NoAct) (.type "TypeError") = some false)
    (su_L_Barred : PySem.W.subIn K (.ref A_Barred) (.type "LookupError") = some false)
    (su_T_Barred : PySem.W.subIn K (.ref A_Barred) (.type "TypeError") = some false)
    (su_L_NoTree : PySem.W.subIn K (.ref A_NoTree) (.type "LookupError") = some false)
    (su_T_NoTree : PySem.W.subIn K (.ref A_NoTree) (.type "TypeError") = some false)
    (su_L_Full : PySem.W.subIn K (.ref A_Full) (.type "LookupError") = some false)
    (su_T_Full : PySem.W.subIn K (.ref A_Full) (.type "TypeError") = some false)
    (su_L_BadMany : PySem.W.subIn K (.ref A_BadMany) (.type "LookupError") = some false)
    (su_T_BadMany : PySem.W.subIn K (.ref A_BadMany) (.type "TypeError") = some false)
    (su_L_BadText : PySem.W.subIn K (.ref A_BadText) (.type "LookupError") = some false)
    (su_T_BadText : PySem.W.subIn K (.ref A_BadText) (.type "TypeError") = some false)
    (su_NoAct_NoAct : PySem.W.subIn K (.ref A_NoAct) (.ref A_NoAct) = some true)
    (su_NoAct_Barred : PySem.W.subIn K (.ref A_NoAct) (.ref A_Barred) = some false)
    (su_NoAct_NoTree : PySem.W.subIn K (.ref A_NoAct) (.ref A_NoTree) = some false)
    (su_NoAct_Full : PySem.W.subIn K (.ref A_NoAct) (.ref A_Full) = some false)
    (su_NoAct_BadMany : PySem.W.subIn K (.ref A_NoAct) (.ref A_BadMany) = some false)
    (su_NoAct_BadText : PySem.W.subIn K (.ref A_NoAct) (.ref A_BadText) = some false)
    (su_Barred_NoAct : PySem.W.subIn K (.ref A_Barred) (.ref A_NoAct) = some false)
    (su_Barred_Barred : PySem.W.subIn K (.ref A_Barred) (.ref A_Barred) = some true)
    (su_Barred_NoTree : PySem.W.subIn K (.ref A_Barred) (.ref A_NoTree) = some false)
    (su_Barred_Full : PySem.W.subIn K (.ref A_Barred) (.ref A_Full) = some false)
    (su_Barred_BadMany : PySem.W.subIn K (.ref A_Barred) (.ref A_BadMany) = some false)
    (su_Barred_BadText : PySem.W.subIn K (.ref A_Barred) (.ref A_BadText) = some false)
    (su_NoTree_NoAct : PySem.W.subIn K (.ref A_NoTree) (.ref A_NoAct) = some false)
    (su_NoTree_Barred : PySem.W.subIn K (.ref A_NoTree) (.ref A_Barred) = some false)
    (su_NoTree_NoTree : PySem.W.subIn K (.ref A_NoTree) (.ref A_NoTree) = some true)
    (su_NoTree_Full : PySem.W.subIn K (.ref A_NoTree) (.ref A_Full) = some false)
    (su_NoTree_BadMany : PySem.W.subIn K (.ref A_NoTree) (.ref A_BadMany) = some false)
    (su_NoTree_BadText : PySem.W.subIn K (.ref A_NoTree) (.ref A_BadText) = some false)
    (su_Full_NoAct : PySem.W.subIn K (.ref A_Full) (.ref A_NoAct) = some false)
    (su_Full_Barred : PySem.W.subIn K (.ref A_Full) (.ref A_Barred) = some false)
    (su_Full_NoTree : PySem.W.subIn K (.ref A_Full) (.ref A_NoTree) = some false)
    (su_Full_Full : PySem.W.subIn K (.ref A_Full) (.ref A_Full) = some true)
    (su_Full_BadMany : PySem.W.subIn K (.ref A_Full) (.ref A_BadMany) = some false)
    (su_Full_BadText : PySem.W.subIn K (.ref A_Full) (.ref A_BadText) = some false)
    (su_BadMany_NoAct : PySem.W.subIn K (.ref A_BadMany) (.ref A_NoAct) = some false)
    (su_BadMany_Barred : PySem.W.subIn K (.ref A_BadMany) (.ref A_Barred) = some false)
    (su_BadMany_NoTree : PySem.W.subIn K (.ref A_BadMany) (.ref A_NoTree) = some false)
    (su_BadMany_Full : PySem.W.subIn K (.ref A_BadMany) (.ref A_Full) = some false)
    (su_BadMany_BadMany : PySem.W.subIn K (.ref A_BadMany) (.ref A_BadMany) = some true)
    (su_BadMany_BadText : PySem.W.subIn K (.ref A_BadMany) (.ref A_BadText) = some false)
    (su_BadText_NoAct : PySem.W.subIn K (.ref A_BadText) (.ref A_NoAct) = some false)
    (su_BadText_Barred : PySem.W.subIn K (.ref A_BadText) (.ref A_Barred) = some false)
    (su_BadText_NoTree : PySem.W.subIn K (.ref A_BadText) (.ref A_NoTree) = some false)
    (su_BadText_Full : PySem.W.subIn K (.ref A_BadText) (.ref A_Full) = some false)
    (su_BadText_BadMany : PySem.W.subIn K (.ref A_BadText) (.ref A_BadMany) = some false)
    (su_BadText_BadText : PySem.W.subIn K (.ref A_BadText) (.ref A_BadText) = some true)
    {gt_MAX_ACTS : Tok} (g_MAX_ACTS : PySem.W.nsIn K mainGlobals "MAX_ACTS" = some (some (.int 200 gt_MAX_ACTS)))
    {gt_MAX_ROOM : Tok} (g_MAX_ROOM : PySem.W.nsIn K mainGlobals "MAX_ROOM" = some (some (.int 5 gt_MAX_ROOM)))
    {gt_MAX_COST : Tok} (g_MAX_COST : PySem.W.nsIn K mainGlobals "MAX_COST" = some (some (.int 1000 gt_MAX_COST)))
    {gt_MAX_STEPS : Tok} (g_MAX_STEPS : PySem.W.nsIn K mainGlobals "MAX_STEPS" = some (some (.int 12 gt_MAX_STEPS)))
    (z0 : PySem.W.nsIn K mainGlobals "len" = some none)
    (z1 : PySem.W.nsIn K mainGlobals "tuple" = some none)
    (z2 : PySem.W.nsIn K mainGlobals "list" = some none)
    (z3 : PySem.W.nsIn K mainGlobals "min" = some none)
    (z4 : PySem.W.nsIn K mainGlobals "max" = some none)
    (z5 : PySem.W.nsIn K mainGlobals "sum" = some none)
    (z6 : PySem.W.nsIn K mainGlobals "all" = some none)
    (z7 : PySem.W.nsIn K mainGlobals "any" = some none)
    (z8 : PySem.W.nsIn K mainGlobals "repr" = some none)
    (z9 : PySem.W.nsIn K mainGlobals "abs" = some none)
    (z10 : PySem.W.nsIn K mainGlobals "int" = some none)
    (z11 : PySem.W.nsIn K mainGlobals "str" = some none)
    (z12 : PySem.W.nsIn K mainGlobals "range" = some none)
    (z13 : PySem.W.nsIn K mainGlobals "enumerate" = some none)
    (z14 : PySem.W.nsIn K mainGlobals "zip" = some none)
    (z15 : PySem.W.nsIn K mainGlobals "isinstance" = some none)
    (z16 : PySem.W.nsIn K mainGlobals "bool" = some none)
    (z17 : PySem.W.nsIn K mainGlobals "sorted" = some none) :
    ∃ f fd, mg "law" = some (.ref f) ∧ (∀ (s : Shared) (u : Value), BindsTo s fd ⟨[u], []⟩ [("_law_script", u)]) ∧ ∀ base : Heap, K.In base → base.Ns mainGlobals mg → FnR true P w K mg base CX0 3 f fd ["_law_script"] (liftSp K spLaw) :=
  all_k28 (noBlt X G z0 z1 z2 z3 z4 z5 z6 z7 z8 z9 z10 z11 z12 z13 z14 z15 z16 z17) (constInt X G g_MAX_ACTS) (constInt X G g_MAX_ROOM) (constInt X G g_MAX_COST) (constInt X G g_MAX_STEPS) (hasDef X G a0 l0 c0 k0 (fun _ _ _ _ _ _ us hl => match us, hl with | [_], _ => rfl) (fun _ _ => kw_no (by decide +kernel))) (hasDef X G a1 l1 c1 k1 (fun _ _ _ _ _ _ us hl => match us, hl with | [_, _], _ => rfl) (fun _ _ => kw_no (by decide +kernel))) (hasDef X G a2 l2 c2 k2 (fun _ _ _ _ _ _ us hl => match us, hl with | [_, _], _ => rfl) (fun _ _ => kw_no (by decide +kernel))) (hasDef X G a3 l3 c3 k3 (fun _ _ _ _ _ _ us hl => match us, hl with | [_], _ => rfl) (fun _ _ => kw_no (by decide +kernel)))         ⟨PySem.W.mg_of X G aX_NoAct, kpX_NoAct, sbX_NoAct, tyX_NoAct, fun _ => plX_NoAct, PySem.W.exm_ref sbX_M hdX_M tyX_M emX_NoAct, ⟨hgX_NoAct, hkX_NoAct, sbX_NoAct, hdX_NoAct, haX_NoAct, hnX, htX, hmX_NoAct⟩, kit_value kvX_NoAct, (fun _ e => by cases e)⟩ ⟨PySem.W.mg_of X G aX_Barred, kpX_Barred, sbX_Barred, tyX_Barred, fun _ => plX_Barred, PySem.W.exm_ref sbX_M hdX_M tyX_M emX_Barred, ⟨hgX_Barred, hkX_Barred, sbX_Barred, hdX_Barred, haX_Barred, hnX, htX, hmX_Barred⟩, kit_value kvX_Barred, (fun _ e => by cases e)⟩ ⟨PySem.W.mg_of X G aX_NoTree, kpX_NoTree, sbX_NoTree, tyX_NoTree, fun _ => plX_NoTree, PySem.W.exm_ref sbX_M hdX_M tyX_M emX_NoTree, ⟨hgX_NoTree, hkX_NoTree, sbX_NoTree, hdX_NoTree, haX_NoTree, hnX, htX, hmX_NoTree⟩, kit_value kvX_NoTree, (fun _ e => by cases e)⟩ ⟨PySem.W.mg_of X G aX_Full, kpX_Full, sbX_Full, tyX_Full, fun _ => plX_Full, PySem.W.exm_ref sbX_M hdX_M tyX_M emX_Full, ⟨hgX_Full, hkX_Full, sbX_Full, hdX_Full, haX_Full, hnX, htX, hmX_Full⟩, kit_value kvX_Full, (fun _ e => by cases e)⟩ ⟨PySem.W.mg_of X G aX_BadMany, kpX_BadMany, sbX_BadMany, tyX_BadMany, (fun e => by cases e), PySem.W.exm_ref sbX_M hdX_M tyX_M emX_BadMany, ⟨hgX_BadMany, hkX_BadMany, sbX_BadMany, hdX_BadMany, haX_BadMany, hnX, htX, hmX_BadMany⟩, kit_value kvX_BadMany, (fun _ e => by cases e; exact ⟨⟨hgX_BadMany, hkX_BadMany, sbX_BadMany, hdX_BadMany⟩, nfX_BadMany⟩)⟩ ⟨PySem.W.mg_of X G aX_BadText, kpX_BadText, sbX_BadText, tyX_BadText, (fun e => by cases e), PySem.W.exm_ref sbX_M hdX_M tyX_M emX_BadText, ⟨hgX_BadText, hkX_BadText, sbX_BadText, hdX_BadText, haX_BadText, hnX, htX, hmX_BadText⟩, kit_value kvX_BadText, (fun _ e => by cases e; exact ⟨⟨hgX_BadText, hkX_BadText, sbX_BadText, hdX_BadText⟩, nfX_BadText⟩)⟩ (PySem.W.exm_ref sbX_NoAct hdX_NoAct tyX_NoAct su_NoAct_NoAct) (PySem.W.exm_ref sbX_Barred hdX_Barred tyX_Barred su_NoAct_Barred) (PySem.W.exm_ref sbX_NoTree hdX_NoTree tyX_NoTree su_NoAct_NoTree) (PySem.W.exm_ref sbX_Full hdX_Full tyX_Full su_NoAct_Full) (PySem.W.exm_ref sbX_BadMany hdX_BadMany tyX_BadMany su_NoAct_BadMany) (PySem.W.exm_ref sbX_BadText hdX_BadText tyX_BadText su_NoAct_BadText) (PySem.W.exm_ref sbX_NoAct hdX_NoAct tyX_NoAct su_Barred_NoAct) (PySem.W.exm_ref sbX_Barred hdX_Barred tyX_Barred su_Barred_Barred) (PySem.W.exm_ref sbX_NoTree hdX_NoTree tyX_NoTree su_Barred_NoTree) (PySem.W.exm_ref sbX_Full hdX_Full tyX_Full su_Barred_Full) (PySem.W.exm_ref sbX_BadMany hdX_BadMany tyX_BadMany su_Barred_BadMany) (PySem.W.exm_ref sbX_BadText hdX_BadText tyX_BadText su_Barred_BadText) (PySem.W.exm_ref sbX_NoAct hdX_NoAct tyX_NoAct su_NoTree_NoAct) (PySem.W.exm_ref sbX_Barred hdX_Barred tyX_Barred su_NoTree_Barred) (PySem.W.exm_ref sbX_NoTree hdX_NoTree tyX_NoTree su_NoTree_NoTree) (PySem.W.exm_ref sbX_Full hdX_Full tyX_Full su_NoTree_Full) (PySem.W.exm_ref sbX_BadMany hdX_BadMany tyX_BadMany su_NoTree_BadMany) (PySem.W.exm_ref sbX_BadText hdX_BadText tyX_BadText su_NoTree_BadText) (PySem.W.exm_ref sbX_NoAct hdX_NoAct tyX_NoAct su_Full_NoAct) (PySem.W.exm_ref sbX_Barred hdX_Barred tyX_Barred su_Full_Barred) (PySem.W.exm_ref sbX_NoTree hdX_NoTree tyX_NoTree su_Full_NoTree) (PySem.W.exm_ref sbX_Full hdX_Full tyX_Full su_Full_Full) (PySem.W.exm_ref sbX_BadMany hdX_BadMany tyX_BadMany su_Full_BadMany) (PySem.W.exm_ref sbX_BadText hdX_BadText tyX_BadText su_Full_BadText) (PySem.W.exm_ref sbX_NoAct hdX_NoAct tyX_NoAct su_BadMany_NoAct) (PySem.W.exm_ref sbX_Barred hdX_Barred tyX_Barred su_BadMany_Barred) (PySem.W.exm_ref sbX_NoTree hdX_NoTree tyX_NoTree su_BadMany_NoTree) (PySem.W.exm_ref sbX_Full hdX_Full tyX_Full su_BadMany_Full) (PySem.W.exm_ref sbX_BadMany hdX_BadMany tyX_BadMany su_BadMany_BadMany) (PySem.W.exm_ref sbX_BadText hdX_BadText tyX_BadText su_BadMany_BadText) (PySem.W.exm_ref sbX_NoAct hdX_NoAct tyX_NoAct su_BadText_NoAct) (PySem.W.exm_ref sbX_Barred hdX_Barred tyX_Barred su_BadText_Barred) (PySem.W.exm_ref sbX_NoTree hdX_NoTree tyX_NoTree su_BadText_NoTree) (PySem.W.exm_ref sbX_Full hdX_Full tyX_Full su_BadText_Full) (PySem.W.exm_ref sbX_BadMany hdX_BadMany tyX_BadMany su_BadText_BadMany) (PySem.W.exm_ref sbX_BadText hdX_BadText tyX_BadText su_BadText_BadText) (kit_sub hdX_NoAct tyX_NoAct su_NoAct_NoAct su_NoAct_NoAct) (kit_sub hdX_Barred tyX_Barred su_Barred_Barred su_NoAct_Barred) (kit_sub hdX_NoTree tyX_NoTree su_NoTree_NoTree su_NoAct_NoTree) (kit_sub hdX_Full tyX_Full su_Full_Full su_NoAct_Full) (kit_sub hdX_BadMany tyX_BadMany su_BadMany_BadMany su_NoAct_BadMany) (kit_sub hdX_BadText tyX_BadText su_BadText_BadText su_NoAct_BadText) (kit_sub hdX_NoAct tyX_NoAct su_NoAct_NoAct su_Barred_NoAct) (kit_sub hdX_Barred tyX_Barred su_Barred_Barred su_Barred_Barred) (kit_sub hdX_NoTree tyX_NoTree su_NoTree_NoTree su_Barred_NoTree) (kit_sub hdX_Full tyX_Full su_Full_Full su_Barred_Full) (kit_sub hdX_BadMany tyX_BadMany su_BadMany_BadMany su_Barred_BadMany) (kit_sub hdX_BadText tyX_BadText su_BadText_BadText su_Barred_BadText) (kit_sub hdX_NoAct tyX_NoAct su_NoAct_NoAct su_NoTree_NoAct) (kit_sub hdX_Barred tyX_Barred su_Barred_Barred su_NoTree_Barred) (kit_sub hdX_NoTree tyX_NoTree su_NoTree_NoTree su_NoTree_NoTree) (kit_sub hdX_Full tyX_Full su_Full_Full su_NoTree_Full) (kit_sub hdX_BadMany tyX_BadMany su_BadMany_BadMany su_NoTree_BadMany) (kit_sub hdX_BadText tyX_BadText su_BadText_BadText su_NoTree_BadText) (kit_sub hdX_NoAct tyX_NoAct su_NoAct_NoAct su_Full_NoAct) (kit_sub hdX_Barred tyX_Barred su_Barred_Barred su_Full_Barred) (kit_sub hdX_NoTree tyX_NoTree su_NoTree_NoTree su_Full_NoTree) (kit_sub hdX_Full tyX_Full su_Full_Full su_Full_Full) (kit_sub hdX_BadMany tyX_BadMany su_BadMany_BadMany su_Full_BadMany) (kit_sub hdX_BadText tyX_BadText su_BadText_BadText su_Full_BadText) (kit_sub hdX_NoAct tyX_NoAct su_NoAct_NoAct su_BadMany_NoAct) (kit_sub hdX_Barred tyX_Barred su_Barred_Barred su_BadMany_Barred) (kit_sub hdX_NoTree tyX_NoTree su_NoTree_NoTree su_BadMany_NoTree) (kit_sub hdX_Full tyX_Full su_Full_Full su_BadMany_Full) (kit_sub hdX_BadMany tyX_BadMany su_BadMany_BadMany su_BadMany_BadMany) (kit_sub hdX_BadText tyX_BadText su_BadText_BadText su_BadMany_BadText) (kit_sub hdX_NoAct tyX_NoAct su_NoAct_NoAct su_BadText_NoAct) (kit_sub hdX_Barred tyX_Barred su_Barred_Barred su_BadText_Barred) (kit_sub hdX_NoTree tyX_NoTree su_NoTree_NoTree su_BadText_NoTree) (kit_sub hdX_Full tyX_Full su_Full_Full su_BadText_Full) (kit_sub hdX_BadMany tyX_BadMany su_BadMany_BadMany su_BadText_BadMany) (kit_sub hdX_BadText tyX_BadText su_BadText_BadText su_BadText_BadText) (PySem.W.mg_of X G aX_M) (PySem.W.mg_none_of X G zV) (hasXI ⟨⟨_, _, _, _, _, _, _, _, _, _, _, _, _, _, _, lkX_BadMany, rfl⟩, saX_BadMany, sbX_BadMany, tyX_BadMany, kpX_BadMany⟩ aiX_BadMany tiX_BadMany liX_BadMany ciX_BadMany kiX_BadMany spX_M rdX_M fcX_M (fun _ _ _ _ _ _ us hl => match us, hl with | [_, _], _ => rfl)) nfX_BadMany (hasXI ⟨⟨_, _, _, _, _, _, _, _, _, _, _, _, _, _, _, lkX_BadText, rfl⟩, saX_BadText, sbX_BadText, tyX_BadText, kpX_BadText⟩ aiX_BadText tiX_BadText liX_BadText ciX_BadText kiX_BadText spX_M rdX_M fcX_M (fun _ _ _ _ _ _ us hl => match us, hl with | [_, _], _ => rfl)) nfX_BadText (kit_sub hdX_M tyX_M su_MM emX_NoAct) (kit_type (by decide +kernel) su_L_NoAct) (kit_type (by decide +kernel) su_T_NoAct) (kit_sub hdX_M tyX_M su_MM emX_Barred) (kit_type (by decide +kernel) su_L_Barred) (kit_type (by decide +kernel) su_T_Barred) (kit_sub hdX_M tyX_M su_MM emX_NoTree) (kit_type (by decide +kernel) su_L_NoTree) (kit_type (by decide +kernel) su_T_NoTree) (kit_sub hdX_M tyX_M su_MM emX_Full) (kit_type (by decide +kernel) su_L_Full) (kit_type (by decide +kernel) su_T_Full) (kit_sub hdX_M tyX_M su_MM emX_BadMany) (kit_type (by decide +kernel) su_L_BadMany) (kit_type (by decide +kernel) su_T_BadMany) (kit_sub hdX_M tyX_M su_MM emX_BadText) (kit_type (by decide +kernel) su_L_BadText) (kit_type (by decide +kernel) su_T_BadText) (PySem.W.mg_none_of X G zL) (PySem.W.mg_none_of X G zT) (hasLaw X G a4 l4 c4 k4 fun _ _ _ _ _ _ _ => rfl)
end DL
open PySem PySem.W PyProof.Rows
set_option maxRecDepth 100000 in
set_option maxHeartbeats 0 in
theorem PySem.Challenge.cw_fewmoments_k28_errors_and_bounds_holds : PySem.Challenge.rw_fewmoments_k28_errors_and_bounds.Holds := by
  w_on; o_law; k_head; (case hw => w_witness2)
  k_fill
  refine DL.walkD (l := PySem.Challenge.rw_fewmoments_k28_errors_and_bounds) (k := 3) rfl rfl ⟨rfl, by decide, by decide⟩ (fun w h Y => PySem.W.kIn_of Y) rfl ?F
  case F =>
    intro w mg h KX G
    refine' DL.top_all_k28 KX G ?a0 ?l0 ?c0 ?k0 ?a1 ?l1 ?c1 ?k1 ?a2 ?l2 ?c2 ?k2 ?a3 ?l3 ?c3 ?k3 ?a4 ?l4 ?c4 ?k4 ?aX_M ?zV ?hnX ?htX ?aX_NoAct ?kpX_NoAct ?sbX_NoAct ?tyX_NoAct ?plX_NoAct ?emX_NoAct ?hgX_NoAct ?hkX_NoAct ?hdX_NoAct ?haX_NoAct ?hmX_NoAct ?kvX_NoAct ?aX_Barred ?kpX_Barred ?sbX_Barred ?tyX_Barred ?plX_Barred ?emX_Barred ?hgX_Barred ?hkX_Barred ?hdX_Barred ?haX_Barred ?hmX_Barred ?kvX_Barred ?aX_NoTree ?kpX_NoTree ?sbX_NoTree ?tyX_NoTree ?plX_NoTree ?emX_NoTree ?hgX_NoTree ?hkX_NoTree ?hdX_NoTree ?haX_NoTree ?hmX_NoTree ?kvX_NoTree ?aX_Full ?kpX_Full ?sbX_Full ?tyX_Full ?plX_Full ?emX_Full ?hgX_Full ?hkX_Full ?hdX_Full ?haX_Full ?hmX_Full ?kvX_Full ?aX_BadMany ?kpX_BadMany ?sbX_BadMany ?tyX_BadMany ?emX_BadMany ?hgX_BadMany ?hkX_BadMany ?hdX_BadMany ?haX_BadMany ?hmX_BadMany ?kvX_BadMany ?aX_BadText ?kpX_BadText ?sbX_BadText ?tyX_BadText ?emX_BadText ?hgX_BadText ?hkX_BadText ?hdX_BadText ?haX_BadText ?hmX_BadText ?kvX_BadText ?lkX_BadMany ?saX_BadMany ?nfX_BadMany ?aiX_BadMany ?tiX_BadMany ?liX_BadMany ?ciX_BadMany ?kiX_BadMany ?lkX_BadText ?saX_BadText ?nfX_BadText ?aiX_BadText ?tiX_BadText ?liX_BadText ?ciX_BadText ?kiX_BadText ?spX_M ?rdX_M ?fcX_M ?hdX_M ?tyX_M ?sbX_M ?su_MM ?zL ?zT ?su_L_NoAct ?su_T_NoAct ?su_L_Barred ?su_T_Barred ?su_L_NoTree ?su_T_NoTree ?su_L_Full ?su_T_Full ?su_L_BadMany ?su_T_BadMany ?su_L_BadText ?su_T_BadText ?su_NoAct_NoAct ?su_NoAct_Barred ?su_NoAct_NoTree ?su_NoAct_Full ?su_NoAct_BadMany ?su_NoAct_BadText ?su_Barred_NoAct ?su_Barred_Barred ?su_Barred_NoTree ?su_Barred_Full ?su_Barred_BadMany ?su_Barred_BadText ?su_NoTree_NoAct ?su_NoTree_Barred ?su_NoTree_NoTree ?su_NoTree_Full ?su_NoTree_BadMany ?su_NoTree_BadText ?su_Full_NoAct ?su_Full_Barred ?su_Full_NoTree ?su_Full_Full ?su_Full_BadMany ?su_Full_BadText ?su_BadMany_NoAct ?su_BadMany_Barred ?su_BadMany_NoTree ?su_BadMany_Full ?su_BadMany_BadMany ?su_BadMany_BadText ?su_BadText_NoAct ?su_BadText_Barred ?su_BadText_NoTree ?su_BadText_Full ?su_BadText_BadMany ?su_BadText_BadText ?g_MAX_ACTS ?g_MAX_ROOM ?g_MAX_COST ?g_MAX_STEPS ?z0 ?z1 ?z2 ?z3 ?z4 ?z5 ?z6 ?z7 ?z8 ?z9 ?z10 ?z11 ?z12 ?z13 ?z14 ?z15 ?z16 ?z17
    (case aX_M => k_is)
    (case aX_NoAct => k_is)
    (case aX_Barred => k_is)
    (case aX_NoTree => k_is)
    (case aX_Full => k_is)
    (case aX_BadMany => k_is)
    (case aX_BadText => k_is)
    (case aiX_BadMany => k_is)
    (case aiX_BadText => k_is)
    (case liX_BadMany => k_is)
    (case liX_BadText => k_is)
    (case a0 => k_is)
    (case l0 => k_is)
    (case c0 => k_is)
    (case k0 => k_is)
    (case a1 => k_is)
    (case l1 => k_is)
    (case c1 => k_is)
    (case k1 => k_is)
    (case a2 => k_is)
    (case l2 => k_is)
    (case c2 => k_is)
    (case k2 => k_is)
    (case a3 => k_is)
    (case l3 => k_is)
    (case c3 => k_is)
    (case k3 => k_is)
    (case a4 => k_is)
    (case l4 => k_is)
    (case c4 => k_is)
    (case k4 => k_is)
    (case zV => k_is)
    (case hnX => k_is)
    (case htX => k_is)
    (case kpX_NoAct => k_is)
    (case sbX_NoAct => k_is)
    (case tyX_NoAct => k_is)
    (case plX_NoAct => k_exc)
    (case emX_NoAct => k_is)
    (case hgX_NoAct => k_is)
    (case hkX_NoAct => k_is)
    (case hdX_NoAct => k_is)
    (case haX_NoAct => k_is)
    (case hmX_NoAct => k_is)
    (case kvX_NoAct => k_is)
    (case kpX_Barred => k_is)
    (case sbX_Barred => k_is)
    (case tyX_Barred => k_is)
    (case plX_Barred => k_exc)
    (case emX_Barred => k_is)
    (case hgX_Barred => k_is)
    (case hkX_Barred => k_is)
    (case hdX_Barred => k_is)
    (case haX_Barred => k_is)
    (case hmX_Barred => k_is)
    (case kvX_Barred => k_is)
    (case kpX_NoTree => k_is)
    (case sbX_NoTree => k_is)
    (case tyX_NoTree => k_is)
    (case plX_NoTree => k_exc)
    (case emX_NoTree => k_is)
    (case hgX_NoTree => k_is)
    (case hkX_NoTree => k_is)
    (case hdX_NoTree => k_is)
    (case haX_NoTree => k_is)
    (case hmX_NoTree => k_is)
    (case kvX_NoTree => k_is)
    (case kpX_Full => k_is)
    (case sbX_Full => k_is)
    (case tyX_Full => k_is)
    (case plX_Full => k_exc)
    (case emX_Full => k_is)
    (case hgX_Full => k_is)
    (case hkX_Full => k_is)
    (case hdX_Full => k_is)
    (case haX_Full => k_is)
    (case hmX_Full => k_is)
    (case kvX_Full => k_is)
    (case kpX_BadMany => k_is)
    (case sbX_BadMany => k_is)
    (case tyX_BadMany => k_is)
    (case emX_BadMany => k_is)
    (case hgX_BadMany => k_is)
    (case hkX_BadMany => k_is)
    (case hdX_BadMany => k_is)
    (case haX_BadMany => k_is)
    (case hmX_BadMany => k_is)
    (case kvX_BadMany => k_is)
    (case kpX_BadText => k_is)
    (case sbX_BadText => k_is)
    (case tyX_BadText => k_is)
    (case emX_BadText => k_is)
    (case hgX_BadText => k_is)
    (case hkX_BadText => k_is)
    (case hdX_BadText => k_is)
    (case haX_BadText => k_is)
    (case hmX_BadText => k_is)
    (case kvX_BadText => k_is)
    (case lkX_BadMany => k_is)
    (case saX_BadMany => k_is)
    (case nfX_BadMany => k_is)
    (case tiX_BadMany => k_is)
    (case ciX_BadMany => k_is)
    (case kiX_BadMany => k_is)
    (case lkX_BadText => k_is)
    (case saX_BadText => k_is)
    (case nfX_BadText => k_is)
    (case tiX_BadText => k_is)
    (case ciX_BadText => k_is)
    (case kiX_BadText => k_is)
    (case spX_M => k_is)
    (case rdX_M => k_is)
    (case fcX_M => k_is)
    (case hdX_M => k_is)
    (case tyX_M => k_is)
    (case sbX_M => k_is)
    (case su_MM => first | rfl | k_is)
    (case zL => k_is)
    (case zT => k_is)
    (case su_L_NoAct => first | rfl | k_is)
    (case su_T_NoAct => first | rfl | k_is)
    (case su_L_Barred => first | rfl | k_is)
    (case su_T_Barred => first | rfl | k_is)
    (case su_L_NoTree => first | rfl | k_is)
    (case su_T_NoTree => first | rfl | k_is)
    (case su_L_Full => first | rfl | k_is)
    (case su_T_Full => first | rfl | k_is)
    (case su_L_BadMany => first | rfl | k_is)
    (case su_T_BadMany => first | rfl | k_is)
    (case su_L_BadText => first | rfl | k_is)
    (case su_T_BadText => first | rfl | k_is)
    (case su_NoAct_NoAct => first | rfl | k_is)
    (case su_NoAct_Barred => first | rfl | k_is)
    (case su_NoAct_NoTree => first | rfl | k_is)
    (case su_NoAct_Full => first | rfl | k_is)
    (case su_NoAct_BadMany => first | rfl | k_is)
    (case su_NoAct_BadText => first | rfl | k_is)
    (case su_Barred_NoAct => first | rfl | k_is)
    (case su_Barred_Barred => first | rfl | k_is)
    (case su_Barred_NoTree => first | rfl | k_is)
    (case su_Barred_Full => first | rfl | k_is)
    (case su_Barred_BadMany => first | rfl | k_is)
    (case su_Barred_BadText => first | rfl | k_is)
    (case su_NoTree_NoAct => first | rfl | k_is)
    (case su_NoTree_Barred => first | rfl | k_is)
    (case su_NoTree_NoTree => first | rfl | k_is)
    (case su_NoTree_Full => first | rfl | k_is)
    (case su_NoTree_BadMany => first | rfl | k_is)
    (case su_NoTree_BadText => first | rfl | k_is)
    (case su_Full_NoAct => first | rfl | k_is)
    (case su_Full_Barred => first | rfl | k_is)
    (case su_Full_NoTree => first | rfl | k_is)
    (case su_Full_Full => first | rfl | k_is)
    (case su_Full_BadMany => first | rfl | k_is)
    (case su_Full_BadText => first | rfl | k_is)
    (case su_BadMany_NoAct => first | rfl | k_is)
    (case su_BadMany_Barred => first | rfl | k_is)
    (case su_BadMany_NoTree => first | rfl | k_is)
    (case su_BadMany_Full => first | rfl | k_is)
    (case su_BadMany_BadMany => first | rfl | k_is)
    (case su_BadMany_BadText => first | rfl | k_is)
    (case su_BadText_NoAct => first | rfl | k_is)
    (case su_BadText_Barred => first | rfl | k_is)
    (case su_BadText_NoTree => first | rfl | k_is)
    (case su_BadText_Full => first | rfl | k_is)
    (case su_BadText_BadMany => first | rfl | k_is)
    (case su_BadText_BadText => first | rfl | k_is)
    (case g_MAX_ACTS => k_is)
    (case g_MAX_ROOM => k_is)
    (case g_MAX_COST => k_is)
    (case g_MAX_STEPS => k_is)
    (case z0 => k_is)
    (case z1 => k_is)
    (case z2 => k_is)
    (case z3 => k_is)
    (case z4 => k_is)
    (case z5 => k_is)
    (case z6 => k_is)
    (case z7 => k_is)
    (case z8 => k_is)
    (case z9 => k_is)
    (case z10 => k_is)
    (case z11 => k_is)
    (case z12 => k_is)
    (case z13 => k_is)
    (case z14 => k_is)
    (case z15 => k_is)
    (case z16 => k_is)
    (case z17 => k_is)
