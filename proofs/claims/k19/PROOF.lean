import PyProof.Rows.All
import Wide.All
import OpenK.AllK
import Wide.FinOn
import HandS.ForMost
import HandS.HeadEnd
import HandS.Defaults
import HandS.Conv
import HandS.Wide
import KE.SortData
import HandS.More
import PyProof.ReprRoads
import HandS.HeadHook2
import HandS.TryOnly
import HandS.ExcInit
import HandS.ExcField
import HandS.ExcIs
import HandS.Exc
import KE.GoesNew
import HandS.Iter
import HandS.ExcOwn
import KE.KExcIs
import HandS.Codes
import PyProof.ReprBulk
import HandS.Walk
import HandS.Head0
import HandS.Head1
import HandS.Head2
import HandS.HeadHook1
import PySem.Challenge.RW_overlappedloops_k19_way_lags_join
set_option Elab.async false
set_option linter.all false
set_option maxRecDepth 100000
set_option maxHeartbeats 0
/-! Gd: defs whose callers tell that no repr is under way (guards empty): FnG, its rules, the law's end. -/
namespace Gd
open PySem PySem.Spec PyProof.Rows L2

/-- room for k calls, and no repr is under way -/
structure RoomG (k : Nat) (A : Around) : Prop where
  room : Room k A
  gd : A.guards = some []
theorem RoomG.mono {j k : Nat} {A : Around} (r : RoomG k A) (h : j ≤ k) : RoomG j A := ⟨r.room.mono h, r.gd⟩
theorem RoomG.deeper {k : Nat} {A : Around} (r : RoomG (k + 1) A) (env : Env) : RoomG k (A.deeper env) := ⟨r.room.deeper env, r.gd⟩

structure FnG (P : Program) (w : World) (K : PySem.W.Frag) (mg : Str → Option Value) (base : Heap) (CX : CXT)
    (k : Nat) (f : Addr) (fd : FuncData) (ps : List Str) (sp : Sp) : Prop where
  len : ∀ vs H Q E, sp vs H Q E → vs.length = ps.length
  run : ∀ (A : Around) (outer : List Env) (s : Shared) (H : Hp) (args : Args) (us : List Value) (vs : List V) (Q : VK) (E : XK),
    RoomG k A → Env0 P w K mg base A outer s H → BindsTo s fd args (ps.zip us) → Vals vs us → sp vs H Q E →
      codeAny (model P w) A (.call (.ref f) args) (CR CX outer P w H s Q E) s
section
variable {P : Program} {w : World} {K : PySem.W.Frag} {mg : Str → Option Value} {base : Heap} {CX : CXT} {k : Nat} {f : Addr} {fd : FuncData} {ps : List Str} {sp : Sp}
theorem FnG.of (F : FnOk P w K mg base CX k f fd ps sp) : FnG P w K mg base CX k f fd ps sp :=
  ⟨F.len, fun A outer s H args us vs Q E hr => F.run A outer s H args us vs Q E hr.room⟩
theorem FnG.mono {j : Nat} (F : FnG P w K mg base CX j f fd ps sp) (h : j ≤ k) : FnG P w K mg base CX k f fd ps sp :=
  ⟨F.len, fun A outer s H args us vs Q E hr => F.run A outer s H args us vs Q E (hr.mono h)⟩
end

/-- a def's body keeps its promise, where no repr is under way -/
theorem fnG_of {CX : CXT} {P : Program} {w : World} {K : PySem.W.Frag} {mg : Str → Option Value} {base : Heap} {k : Nat} {f : Addr}
    {name qual : Str} {params : Arguments} {body : List Stmt} {scope : Scope} {dV kV doc pm cdv ct oc : Value} {an od : Option Addr}
    {osl : Array (Option Value)} {N ps : List Str} {sp : Sp}
    (lk : K.lookup f = some ⟨oc, od, .func (PySem.W.fnOf name qual params body scope dV kV doc pm an cdv ct), osl⟩)
    (hcd : PySem.W.codeIn K cdv qual = true) (S : FnScope N ps scope) (len : ∀ vs H Q E, sp vs H Q E → vs.length = ps.length)
    (hbody : ∀ (A : Around) (outer : List Env) (s : Shared) (H : Hp) (vs : List V) (Q : VK) (E : XK),
      RoomG k (A.deeper (envOfC qual scope s.heap.objs.size f cdv)) → sp vs H Q E →
        ∃ t, PSs (cxOf CX P w K mg base N qual scope f cdv A outer s H E) body t ∧
          t { nx := fun _ H' => Q .non H', rt := Q } (start N vs) H) :
    FnG P w K mg base CX (k + 1) f (PySem.W.fnOf name qual params body scope dV kV doc pm an cdv ct) ps sp where
  len := len
  run := by
    intro A outer s H args us vs Q E hr e0 hb r hsp
    have nVs := len _ _ _ _ hsp
    have inK : K.In s.heap := e0.mod.kin.keeps (fun b o e => (e0.bs b o e).1)
    have noLim : s.heap.NoLimit := e0.mod.nolimit.keeps (fun b o e => (e0.bs b o e).1)
    have kinds : ∀ y ∈ ps.zip us, scope.names.lookup y.1 = some .local ∨
        (scope.names.lookup y.1 = some .cell ∧ ((cellsFrom (s.heap.objs.size + 1) scope.names []).lookup y.1).isSome = true) := by
      rintro ⟨n, v⟩ hy
      cases S.par n (List.of_mem_zip hy).1 with
      | inl q => exact Or.inl q
      | inr q => exact Or.inr ⟨q, PySem.W.cellsFrom_some _ _ _ (Or.inl q)⟩
    refine codeAny_call_function hr.room.depth (inK _ _ lk) rfl S.co S.gen rfl (PySem.W.codeRec_of inK hcd) ?_
    refine hb _ _ _ _ (wpAny_newFunctionEnv_cells S.kind kinds ?_)
    intro env he s1 x
    subst he
    refine ⟨noLim.keeps x.toInCall.keep, codeAny_func ?_⟩
    obtain ⟨t, ht, hq⟩ := hbody A outer s H vs Q E (hr.deeper _) hsp
    have I := inv_start (E := E) (CX := CX) S hr.room.hd e0 nVs r x
    refine wpAny_mono (ht.run [] s1 (start N vs) H _ I hq) ?_ (fun e s' hs => hs)
    intro fl s' hs
    cases fl with
    | ret u =>
      obtain ⟨v, σ', H', J, rv, q⟩ := hs
      exact ⟨v, H', J.os, J.bare, J.base, J.hok, rv, q⟩
    | next =>
      obtain ⟨σ', H', J, q⟩ := hs
      exact ⟨V.non, H', J.os, J.bare, J.base, J.hok, rfl, q⟩
    | brk => exact (let ⟨_, _, _, q⟩ := hs; False.elim q)
    | cont => exact (let ⟨_, _, _, q⟩ := hs; False.elim q)

section
variable {P : Program} {w : World} {K : PySem.W.Frag} {mg : Str → Option Value} {base : Heap}
/-- the same of a def of the text -/
theorem FunD_okG {CX : CXT} {x qual : Str} {params : Arguments} {body : List Stmt} {scope : Scope} {dvs : List V} {kws : List (Str × V)} {f : Addr} {fd : FuncData}
    {N ps : List Str} {k : Nat} {sp : Sp} (F : FunD K x qual params body scope dvs kws f fd) (S : FnScope N ps scope)
    (len : ∀ vs H Q E, sp vs H Q E → vs.length = ps.length)
    (hbody : ∀ (cdv : Value) (A : Around) (outer : List Env) (s : Shared) (H : Hp) (vs : List V) (Q : VK) (E : XK),
      RoomG k (A.deeper (envOfC qual scope s.heap.objs.size f cdv)) → sp vs H Q E →
        ∃ t, PSs (cxOf CX P w K mg base N qual scope f cdv A outer s H E) body t ∧
          t { nx := fun _ H' => Q .non H', rt := Q } (start N vs) H) : FnG P w K mg base CX (k + 1) f fd ps sp := by
  obtain ⟨oc, od, dV, kV, doc, pm, an, cdv, ct, osl, rfl, lk, hcd, _, _⟩ := F.ex
  exact fnG_of lk hcd S len (fun A outer s H vs Q E hr hsp => hbody cdv A outer s H vs Q E hr hsp)
end

section
variable {X : Cx} {CX : CXT} {k : Nat} {f : Addr} {fd : FuncData} {ps : List Str} {sp : Sp} {dvs : List V} {ds : List Value} {E : XK} {x : Str} {p pos : Pos} {e : Expr} {es : List Expr} {t : TA}
theorem runG {pins : List (Addr × Obj)} {σ : L2.St} {H : Hp} {s : Shared} {Q : VK} {us : List Value} {vs : List V}
    (F : FnG X.prog X.w X.K X.mg X.base CX k f fd ps sp) (hr : RoomG k X.A) (hb : Binds X.K fd ps ds) (hd : Vals dvs ds) (hx : Passes CX X E)
    (I : Inv X pins σ H s) (r : Vals vs us) (h : sp (vs ++ dvs) H Q E) :
    wpAny (model X.prog X.w) X.A (call (.ref f) us) (EP X pins σ Q) X.xe s := by
  have both : Vals (vs ++ dvs) (us ++ ds) := r.append hd
  have lenU : (us ++ ds).length = ps.length := both.length.symm.trans (F.len _ _ _ _ h)
  refine wpAny_call (codeAny_mono (F.run X.A X.stack s H ⟨us, []⟩ (us ++ ds) (vs ++ dvs) Q E hr I.env0 (hb s us I.kIn lenU) both h) ?_)
  intro res s' hq
  match res, hq with
  | .error err, hq => exact hx pins σ H s err s' I hq
  | .ok (.ret u), hq => exact I.after hq
  | .ok .next, hq => exact False.elim hq
  | .ok .brk, hq => exact False.elim hq
  | .ok .cont, hq => exact False.elim hq
/-- f(e, ..) -/
theorem pe_callG (F : FnG X.prog X.w X.K X.mg X.base CX k f fd ps sp) (hr : RoomG k X.A) (hg : Gl X x) (hm : X.mg x = some (.ref f))
    (hk : PySem.W.keepIn X.K (.ref f) = true) (hb : Binds X.K fd ps ds) (hd : Vals dvs ds) (hx : Passes CX X E) (ha : PA X (e :: es) t)
    (hdb : (x == ("__debug__" : Str)) = false := by decide)
    (he : starEach (e :: es) X.env = (false, eval e X.env) :: starEach es X.env := by rfl)
    (hpl : (backTo pos (starEach es X.env)).any (·.1) = false := by rfl) :
    PE X (.Call (.Name x p) (e :: es) [] pos) (tCall sp dvs E t) where
  run := by
    intro pins s σ H Q I h
    refine wpAny_Call_Name_kw (ld_glob I hg hm ?_ hdb)
    refine PySem.W.callWith_K (h₀ := X.base) I.ok.mod.kin hk ?_ he hpl
    refine thn (ha.run pos pins s σ H _ I h) ?_
    rintro us s1 ⟨vs, H1, I1, r, q⟩
    exact ⟨I1.kIn, runG F hr hb hd hx I1 r q⟩
end

/-- the law's call from the caller's place, its def's promise by FnG -/
theorem law_callG {P : Program} {w : World} {K : PySem.W.Frag} {mg mb : Str → Option Value} {CX : CXT} {k : Nat} {fa a : Addr} {fd : FuncData} {x : Str} {sp : Sp}
    {s₁ : Shared} {vs : List Value} {ns : List Int} (KX : K.In s₁.heap) (hns : s₁.heap.Ns mainGlobals mg) (hb : s₁.heap.Ns builtinsNs mb)
    (hbb : ∀ x : Str, x ≠ "__name__" → mb x = bootBuiltins x) (hlim : s₁.heap.NoLimit) (hg : s₁.gens = #[])
    (ha : s₁.heap.get? a = some { cls := .type "list", data := .seq vs.toArray }) (hi : IntsAre vs ns) (hl : ns.length ≤ sizeLine) (hr : Room k callerA)
    (F : ∀ base : Heap, K.In base → base.Ns mainGlobals mg → FnG P w K mg base CX k fa fd [x] sp)
    (hbind : ∀ (s : Shared) (u : Value), BindsTo s fd ⟨[u], []⟩ [(x, u)])
    (hsp : ∀ H : Hp, Only H → SqL K H a (ns.map V.int) → sp [.ref a] H (fun v _ => v = .bl true) fun _ _ _ => False)
    (hCX : ∀ H e s', CX [] H s₁ (fun _ _ _ => False) e s' → False) :
    codeAny (model P w) callerA (.call (.ref fa) ⟨[.ref a], []⟩)
      (fun r s' => r = .ok (.ret (.bool true)) ∧ OldK s₁.heap s'.heap ∧ s'.os = s₁.os ∧ AllBare s'.gens) s₁ := by
  have rv := vals_ints hi
  have core : ∀ H : Hp, Only H → SqL K H a (ns.map V.int) → HOk P w H s₁.heap → (∀ b, H b ≠ none → b = a) → (H a ≠ none → K.lookup a = none) →
      codeAny (model P w) callerA (.call (.ref fa) ⟨[.ref a], []⟩)
        (fun r s' => r = .ok (.ret (.bool true)) ∧ OldK s₁.heap s'.heap ∧ s'.os = s₁.os ∧ AllBare s'.gens) s₁ := by
    intro H hO hS hok hA hK
    have isNone : ∀ {b : Addr} {o : Obj} {es : Array DictEntry} {ep : Nat}, s₁.heap.get? b = some o → o.data = .dict es ep → H b = none := by
      intro b o es ep e d
      cases q : H b with
      | none => rfl
      | some u =>
        have e' : b = a := hA b (by rw [q]; simp)
        rw [e', ha] at e
        cases e
        exact Data.noConfusion d
    have nsK : ∀ {b : Addr} {m : Str → Option Value}, s₁.heap.Ns b m → (hidT s₁.heap H).Ns b m := by
      rintro b m ⟨o, es, ep, e, d, r⟩
      exact ⟨o, es, ep, hidT_get e (isNone e d), d, r⟩
    have hKb : K.In (hidT s₁.heap H) := by
      intro b o e
      refine hidT_get (KX b o e) ?_
      cases q : H b with
      | none => rfl
      | some u =>
        have e' : b = a := hA b (by rw [q]; simp)
        rw [e', hK (by rw [← e', q]; simp)] at e
        cases e
    have hM : Mod K mg (hidT s₁.heap H) :=
      ⟨hKb, nsK hns, ⟨mb, nsK hb, hbb⟩, let ⟨mc, h1, h2⟩ := hlim; ⟨mc, nsK h1, h2⟩⟩
    have e0 : Env0 P w K mg (hidT s₁.heap H) callerA [] s₁ H :=
      ⟨rfl, hM, fun b o e => of_hidT e, Nat.le_of_eq (hidT_size _ _), trivial, fun b hb => absurd (show b ∈ ([] : List Addr) from hb) (by simp), hok, .of_eq hg⟩
    have go := (F _ hKb (nsK hns)).run callerA [] s₁ H ⟨[.ref a], []⟩ [.ref a] [.ref a] _ _ ⟨hr, rfl⟩ e0 (hbind s₁ (.ref a)) (.cons rfl .nil) (hsp H hO hS)
    refine codeAny_mono go ?_
    intro r s' h
    match r, h with
    | .error e, h => exact (hCX H e s' h).elim
    | .ok .next, h => exact False.elim h
    | .ok .brk, h => exact False.elim h
    | .ok .cont, h => exact False.elim h
    | .ok (.ret u), h =>
      obtain ⟨v, H', os, bare, un, hok', r', q⟩ := h
      have q' : v = .bl true := q
      subst q'
      obtain rfl : u = Value.bool true := r'
      refine ⟨rfl, OldK.of_keep ?_, os, bare⟩
      intro b o e
      cases q : H b with
      | none => exact un.keep b o e q (fun z => absurd (show b ∈ ([] : List Addr) from z) (by simp)) (by simp)
      | some u =>
        rcases hO b with z | ⟨ob, xs, z⟩
        · rw [q] at z
          cases z
        · obtain ⟨e1, _⟩ := hok b _ z
          obtain ⟨e2, _⟩ := hok' b _ (un.frzs b ob _ z)
          exact e2.trans (e1.symm.trans e)
  cases hk : K.lookup a with
  | some o =>
    have e := KX a o hk
    rw [ha] at e
    cases e
    refine core (fun _ => none) (fun _ => .inl rfl) (.inr ⟨_, vs.toArray, _, hk, rfl, rfl, rfl, ?_, by simpa using rv⟩) ?_ (fun b z => absurd rfl z) fun z => absurd rfl z
    · rw [List.size_toArray, hi.length]
      exact hl
    · intro b u z
      have z' : (none : Option HO) = some u := z
      cases z'
  | none =>
    let G : Hp := fun b => if b = a then some (.frz { cls := .type "list", data := .seq vs.toArray } (.lst (ns.map V.int))) else none
    have Ga : G a = some (.frz { cls := .type "list", data := .seq vs.toArray } (.lst (ns.map V.int))) := if_pos rfl
    have Gn : ∀ b, b ≠ a → G b = none := fun b hb => if_neg hb
    refine core G (fun b => ?_) (.inl (.inr ⟨_, Ga⟩)) (fun b u z => ?_) (fun b z => ?_) fun _ => hk
    · by_cases hb : b = a
      · exact .inr ⟨_, _, hb ▸ Ga⟩
      · exact .inl (Gn b hb)
    · by_cases hb : b = a
      · subst hb
        rw [Ga] at z
        cases z
        exact ⟨ha, by rw [List.length_map]; exact hl, vs, _, rv, ha⟩
      · rw [Gn b hb] at z
        cases z
    · by_cases hb : b = a
      · exact hb
      · exact absurd (Gn b hb) z
/-- a law's end over a head by facts -/
theorem walk_G {l : PySem.W.OpenLaw} {n k : Nat} {q : Program} {loose : List Str} {XP : (Str → Option Value) → Heap → Prop} {YP : World → Heap → Prop} {d : DefRec} {CX : CXT} {x : Str}
    (hn : l.most = some n) (hn2 : n ≤ sizeLine) (hdf : d.params.defaults = []) (hr : Room k callerA)
    (F : ∀ (w : World) (mg : Str → Option Value) (fa : Addr) (h : Heap), YP w h → h.Ns mainGlobals mg → mg d.name = some (.ref fa) →
      ∃ (K : PySem.W.Frag) (fd : FuncData) (sp : Sp), K.In h ∧ (∀ (s : Shared) (u : Value), BindsTo s fd ⟨[u], []⟩ [(x, u)]) ∧
        (∀ (H : Hp) (a : Addr) (ns : List Int), ns.length ≤ n → Only H → SqL K H a (ns.map V.int) →
          sp [.ref a] H (fun v _ => v = .bl true) fun _ _ _ => False) ∧
        ∀ base : Heap, K.In base → base.Ns mainGlobals mg → FnG l.prog w K mg base CX k fa fd [x] sp)
    (hCX : ∀ (H : Hp) (s : Shared) (e : Value) (s' : Shared), CX [] H s (fun _ _ _ => False) e s' → False) :
    PySem.W.WalkO q loose XP YP l.row.toRowW d [] (fun f vs => PySem.call f vs) := by
  refine Att.attach_call hn hdf ?_
  intro w s₀ s₁ mg mb fa o pm cd doc a vs ns G Y ho hd hcd hmg hobj hints hlen hg
  obtain ⟨K, fd, sp, KX, hb, hsp, hF⟩ := F w mg fa _ Y G.T.g hmg
  refine law_callG KX G.T.g G.T.b G.T.builtins G.T.nolimit hg hobj hints (Nat.le_trans hlen hn2) hr hF hb ?_ ?_
  · exact fun H hO hS => hsp H a ns hlen hO hS
  · exact fun H e s' => hCX H s₁ e s'
end Gd
/-! Bx: heaps of which little changes (Ext), data without lists (Im), repr, sorted of data, powers. -/
namespace Bx
open PySem PySem.Spec PyProof.Rows L2 Gd

/-- all stands but the objects at M, and tuples and frozen things stand in any case -/
structure Ext (M : List Addr) (H H' : Hp) : Prop where
  keep : ∀ a o, H a = some o → a ∉ M → H' a = some o
  tups : ∀ a xs, H a = some (.tup xs) → H' a = some (.tup xs)
  frzs : ∀ a o u, H a = some (.frz o u) → H' a = some (.frz o u)
  free : ∀ a, H' a = none → H a = none
section
variable {M M' : List Addr} {H H1 H2 H' : Hp} {a p : Addr} {o o' : HO} {xs : List V} {K : PySem.W.Frag}
theorem Ext.refl : Ext M H H := ⟨fun _ _ h _ => h, fun _ _ h => h, fun _ _ _ h => h, fun _ h => h⟩
theorem Ext.mono (e : Ext M H H') (h : ∀ a ∈ M, a ∈ M') : Ext M' H H' := ⟨fun a o ha hn => e.keep a o ha fun z => hn (h a z), e.tups, e.frzs, e.free⟩
theorem Ext.any (e : Ext [] H H') : Ext M H H' := e.mono fun _ z => nomatch z
theorem Ext.trans (e : Ext M H H1) (f : Ext M H1 H2) : Ext M H H2 :=
  ⟨fun a o ha hn => f.keep a o (e.keep a o ha hn) hn, fun a xs h => f.tups a xs (e.tups a xs h), fun a o u h => f.frzs a o u (e.frzs a o u h), fun a h => e.free a (f.free a h)⟩
theorem Ext.new (h : H p = none) : Ext M H (upd H p o) :=
  ⟨fun a u ha _ => by rw [upd_ne (ne_of_none ha h)]; exact ha, fun a xs ha => by rw [upd_ne (ne_of_none ha h)]; exact ha, fun a ob u ha => by rw [upd_ne (ne_of_none ha h)]; exact ha,
   fun a ha => by
    by_cases e : a = p
    · rw [e]; exact h
    · rw [upd_ne e] at ha; exact ha⟩
/-- a list, a dict, an instance is written -/
def Wr : HO → Prop
  | .lst _ => True
  | .dK _ => True
  | .dT _ => True
  | .ins _ _ _ => True
  | .set _ _ => True
  | _ => False
theorem Ext.write (h : H p = some o) (w : Wr o) (hm : p ∈ M) : Ext M H (upd H p o') := by
  refine ⟨fun a u ha hn => ?_, fun a xs ha => ?_, fun a ob u ha => ?_, fun a ha => ?_⟩
  · rw [upd_ne (fun e => hn (by rw [e]; exact hm))]; exact ha
  · rw [upd_ne (fun e => by rw [e, h] at ha; cases ha; exact w)]; exact ha
  · rw [upd_ne (fun e => by rw [e, h] at ha; cases ha; exact w)]; exact ha
  · by_cases e : a = p
    · rw [e, upd_same] at ha; cases ha
    · rw [upd_ne e] at ha; exact ha
/-- what changed was not there -/
theorem Ext.drop (e : Ext (p :: M) H H') (h : H p = none) : Ext M H H' :=
  ⟨fun a o ha hn => e.keep a o ha fun z => (List.mem_cons.mp z).elim (fun q => by rw [q, h] at ha; cases ha) hn, e.tups, e.frzs, e.free⟩
theorem Ext.fresh (e : Ext M H H') (h : H' p = none) : H p = none := e.free p h
theorem Ext.seqT (e : Ext M H H') (h : SqT K H a xs) : SqT K H' a xs := by
  rcases h with (h | ⟨o, h⟩) | h
  · exact .inl (.inl (e.tups _ _ h))
  · exact .inl (.inr ⟨o, e.frzs _ _ _ h⟩)
  · exact .inr h
theorem Ext.seqL (e : Ext M H H') (hn : a ∉ M) (h : SqL K H a xs) : SqL K H' a xs := by
  rcases h with (h | ⟨o, h⟩) | h
  · exact .inl (.inl (e.keep _ _ h hn))
  · exact .inl (.inr ⟨o, e.frzs _ _ _ h⟩)
  · exact .inr h
theorem Ext.same (e : Ext [] H H') : Same H H' := fun a o h => e.keep a o h (fun z => nomatch z)
end

/-! ### data without lists: it stays whatever is written -/
mutual
inductive Im (K : PySem.W.Frag) (H : Hp) : PyData → V → Prop
  | non : Im K H .none .non
  | bl (b : Bool) : Im K H (.bool b) (.bl b)
  | int (i : Int) : Im K H (.int i) (.int i)
  | str (x : Str) : Im K H (.str x) (.str x)
  | tup {a : Addr} {xs : List V} {ds : List PyData} : H a = some (.tup xs) → Ims K H ds xs → Im K H (.tuple ds) (.ref a)
inductive Ims (K : PySem.W.Frag) (H : Hp) : List PyData → List V → Prop
  | nil : Ims K H [] []
  | cons {v : V} {vs : List V} {d : PyData} {ds : List PyData} : Im K H d v → Ims K H ds vs → Ims K H (d :: ds) (v :: vs)
end
section
variable {K : PySem.W.Frag} {M : List Addr} {H H' : Hp}
mutual
theorem Im.ext (e : Ext M H H') : ∀ {d : PyData} {v : V}, Im K H d v → Im K H' d v
  | _, _, .non => .non
  | _, _, .bl b => .bl b
  | _, _, .int i => .int i
  | _, _, .str x => .str x
  | _, _, .tup h t => .tup (e.tups _ _ h) (Ims.ext e t)
theorem Ims.ext (e : Ext M H H') : ∀ {ds : List PyData} {vs : List V}, Ims K H ds vs → Ims K H' ds vs
  | _, _, .nil => .nil
  | _, _, .cons h t => .cons (Im.ext e h) (Ims.ext e t)
end
mutual
theorem Im.dp : ∀ {d : PyData} {v : V}, Im K H d v → Dp K H v d
  | _, _, .non => .non
  | _, _, .bl b => .bl b
  | _, _, .int i => .int i
  | _, _, .str x => .str x
  | _, _, .tup h t => .tup (SqT.of h) (Ims.dp t)
theorem Ims.dp : ∀ {ds : List PyData} {vs : List V}, Ims K H ds vs → DpAll K H vs ds
  | _, _, .nil => .nil
  | _, _, .cons h t => .cons (Im.dp h) (Ims.dp t)
end
theorem Ims.length : ∀ {ds : List PyData} {vs : List V}, Ims K H ds vs → ds.length = vs.length
  | _, _, .nil => rfl
  | _, _, .cons _ t => congrArg Nat.succ (Ims.length t)
theorem Ims.get : ∀ {ds : List PyData} {vs : List V} {i : Nat} {v : V}, Ims K H ds vs → vs[i]? = some v → ∃ d, ds[i]? = some d ∧ Im K H d v
  | _, _, _, _, .nil, e => by simp at e
  | _, _, 0, _, .cons h _, e => by simp at e; subst e; exact ⟨_, rfl, h⟩
  | _, _, i + 1, v, .cons _ t, e => by
    obtain ⟨d, h1, h2⟩ := Ims.get (i := i) (v := v) t (by simpa using e)
    exact ⟨d, by simpa using h1, h2⟩
theorem Ims.append : ∀ {ds es : List PyData} {vs ws : List V}, Ims K H ds vs → Ims K H es ws → Ims K H (ds ++ es) (vs ++ ws)
  | _, _, _, _, .nil, q => q
  | _, _, _, _, .cons h t, q => .cons h (Ims.append t q)
theorem Ims.one {d : PyData} {v : V} (h : Im K H d v) : Ims K H [d] [v] := .cons h .nil
theorem Im.ints {ns : List Int} : Ims K H (ns.map .int) (ns.map .int) := by
  induction ns with
  | nil => exact .nil
  | cons n r ih => exact .cons (.int n) ih
theorem Ims.vints : ∀ {ns : List Int} {vs : List V}, Ims K H (ns.map .int) vs → vs = ns.map .int
  | [], _, h => by cases h; rfl
  | n :: r, _, h => by
    cases h with
    | cons h1 t =>
      cases h1
      rw [List.map_cons, Ims.vints t]
/-- a tuple of ints -/
theorem Im.tints {ns : List Int} {v : V} (h : Im K H (.tuple (ns.map .int)) v) : ∃ a, v = .ref a ∧ H a = some (.tup (ns.map .int)) := by
  cases h with
  | tup hs t => exact ⟨_, rfl, by rw [← Ims.vints t]; exact hs⟩
theorem Im.of_tints {ns : List Int} {a : Addr} (h : H a = some (.tup (ns.map .int))) : Im K H (.tuple (ns.map .int)) (.ref a) := .tup h Im.ints
end

/-! ### repr -/
def rRepr (K : PySem.W.Frag) : List V → Hp → VK → Prop := fun xs H Q => ∃ (x : V) (d : PyData), xs = [x] ∧ Dp K H x d ∧ d.showable = true ∧ d.hasDict = false ∧ d.depth ≤ 60 ∧
  (∀ i, d = .int i → i.natAbs.log2 < 1920) ∧ d.shown.length ≤ sizeLine ∧ Q (.str d.shown) H
section
variable {X : Cx}
theorem call_reprD {k : Nat} (hr : RoomG k X.A) : CallR X (.builtin "repr") (rRepr X.K) := by
  intro pins s σ H xs us Q I r h
  obtain ⟨x, d, rfl, hd, hs, hnd, hdep, hi, hz, q⟩ := h
  obtain ⟨u, rfl, rx⟩ := r.one
  obtain ⟨as, rd⟩ := Dp.reads I d x u hd rx
  have hu := hr.room.units
  cases rd with
  | none => exact PySem.P.repr_of_none ⟨.str _, H, I.tok _, ⟨_, rfl⟩, by simpa only [PyData.shown] using q⟩
  | bool b => exact PySem.P.repr_of_bool ⟨.str _, H, I.tok _, ⟨_, rfl⟩, by simpa only [PyData.shown] using q⟩
  | int i t => exact PySem.P.repr_of_int (hi i rfl) ⟨.str _, H, I.tok _, ⟨_, rfl⟩, by simpa only [PyData.shown] using q⟩
  | str y t => exact PySem.P.repr_of_str ⟨.str _, H, I.tok _, ⟨_, rfl⟩, by simpa only [PyData.shown] using q⟩ (by simpa only [PyData.shown] using hz)
  | list h1 h2 h3 h4 =>
    exact PySem.repr_of_reads' (.list h1 h2 h3 h4) hs (fun z => by rw [hnd] at z; cases z) hr.gd (by omega) (fun _ _ e => e)
      (fun h' u tk kp => ⟨.str _, H, I.kept kp, ⟨_, rfl⟩, q⟩) hz
  | tuple h1 h2 h3 h4 =>
    exact PySem.repr_of_reads' (.tuple h1 h2 h3 h4) hs (fun z => by rw [hnd] at z; cases z) hr.gd (by omega) (fun _ _ e => e)
      (fun h' u tk kp => ⟨.str _, H, I.kept kp, ⟨_, rfl⟩, q⟩) hz
  | dict h1 h2 h3 h4 h5 => cases hd
end

/-! ### sorted of data that are alike -/
/-- the items of a list with what they stand for -/
theorem each_of {X : Cx} {pins : List (Addr × Obj)} {σ : L2.St} {H : Hp} {s : Shared} (I : Inv X pins σ H s) :
    ∀ {ds : List PyData} {vs : List V} {us : List Value}, Ims X.K H ds vs → Vals vs us →
      PySem.W.EachIs (fun u d => ∃ v, RelV v u ∧ Im X.K H d v) us ds
  | _, _, _, .nil, r => by cases r; exact .nil
  | _, _, _, .cons h t, r => by
    cases r with
    | cons r1 r2 => exact .cons ⟨_, r1, h⟩ (each_of I t r2)
theorem each_back {K : PySem.W.Frag} {H : Hp} : ∀ {ds : List PyData} {us : List Value},
    PySem.W.EachIs (fun u d => ∃ v, RelV v u ∧ Im K H d v) us ds → ∃ vs, Ims K H ds vs ∧ Vals vs us
  | _, _, .nil => ⟨[], .nil, .nil⟩
  | _, _, .cons ⟨v, r, h⟩ t => by
    obtain ⟨vs, a, b⟩ := each_back t
    exact ⟨v :: vs, .cons h a, .cons r b⟩
theorem each_reads {X : Cx} {pins : List (Addr × Obj)} {σ : L2.St} {H : Hp} {s : Shared} (I : Inv X pins σ H s) {ds : List PyData} {us : List Value}
    (h : PySem.W.EachIs (fun u d => ∃ v, RelV v u ∧ Im X.K H d v) us ds) : PySem.W.EachIs (fun u d => ∃ as, Reads s.heap u (id d) as) us ds :=
  h.mono fun u d ⟨v, r, q⟩ => Dp.reads I d v u q.dp r
abbrev leD : PyData → PyData → Bool := PySem.W.dataLe false (id : PyData → PyData)
def rSortD (K : PySem.W.Frag) : List V → Hp → VK → Prop := fun vs H Q => ∃ (a : Addr) (xs : List V) (ds : List PyData), vs = [V.ref a] ∧ SqL K H a xs ∧ Ims K H ds xs ∧
  PySem.W.AllAlike ds ∧ PySem.W.Sortable ds ∧ (∀ d ∈ ds, d.depth ≤ 50) ∧ ∀ ys p, Ims K H (ds.mergeSort leD) ys → H p = none → Q (.ref p) (upd H p (.lst ys))
section
variable {X : Cx}
theorem call_sortD {k : Nat} (hr : Room k X.A) : CallR X (.builtin "sorted") (rSortD X.K) := by
  intro pins s σ H vs us Q I r h
  obtain ⟨a, xs, ds, rfl, hs, hi, hal, hso, hdep, q⟩ := h
  obtain ⟨its, rv, hl, hz⟩ := I.list hs
  rw [Vals.ref1 r]
  have ea := each_of I hi rv
  have hlen : ds.length = xs.length := hi.length
  have hal' : PySem.W.AllAlike (ds.map (id : PyData → PyData)) := by rw [List.map_id]; exact hal
  have hso' : PySem.W.Sortable (ds.map (id : PyData → PyData)) := by rw [List.map_id]; exact hso
  have hun := hr.units
  refine PySem.W.sorted_data (enc := (id : PyData → PyData)) hl.isList ea (each_reads I ea) hal' hso' (by rw [hlen]; exact hz) (fun d hd => ?_) fun out ho eo => ?_
  · have := hdep d hd
    show X.A.units + 2 + d.depth < cLine
    omega
  · obtain ⟨ys, hy, ry⟩ := each_back eo
    obtain ⟨ep, he'⟩ := PyProof.Rows.sortedAll_at s.heap its out.toArray
    have hl2 : ys.length ≤ sizeLine := by
      rw [← hy.length, List.length_mergeSort, hlen]
      exact hz
    exact ⟨.ref _, upd H (s.heap.objs.size + 1) (.lst ys), I.laid (t' := s.toks) (fun _ _ => PyProof.Rows.sortedAll_old) (Nat.le_succ _)
      ⟨hl2, out, ep, ry, he'⟩, rfl, q _ _ hy (I.hok.fresh (Nat.le_succ _))⟩
end

/-! ### sorted of a dict whose keys are tuples; wide powers -/
def keyD : Key → PyData
  | .inl i => .int i
  | .inr x => .str x
def keyT (k : List Key) : PyData := .tuple (k.map keyD)
theorem ims_key {K : PySem.W.Frag} {H : Hp} : ∀ k : List Key, Ims K H (k.map keyD) (k.map kV)
  | [] => .nil
  | .inl i :: r => .cons (.int i) (ims_key r)
  | .inr x :: r => .cons (.str x) (ims_key r)
theorem each_keys {X : Cx} {H : Hp} : ∀ {kvs : List (List Key × V)} {ks : List (List Key × Addr × Value)}, KT H kvs ks →
    PySem.W.EachIs (fun u d => ∃ v, RelV v u ∧ Im X.K H d v) (ks.map fun x => Value.ref x.2.1) (kvs.map fun kv => keyT kv.1)
  | _, _, .nil => .nil
  | _, _, .cons h t => .cons ⟨.ref _, rfl, .tup h.2.1 (ims_key _)⟩ (each_keys t)
def rSortDT (K : PySem.W.Frag) : List V → Hp → VK → Prop := fun vs H Q => ∃ (a : Addr) (kvs : List (List Key × V)), vs = [V.ref a] ∧ H a = some (.dT kvs) ∧
  PySem.W.AllAlike (kvs.map fun kv => keyT kv.1) ∧ PySem.W.Sortable (kvs.map fun kv => keyT kv.1) ∧ (∀ kv ∈ kvs, (keyT kv.1).depth ≤ 50) ∧
  ∀ ys p, Ims K H ((kvs.map fun kv => keyT kv.1).mergeSort leD) ys → H p = none → Q (.ref p) (upd H p (.lst ys))
section
variable {X : Cx}
theorem call_sortDT {k : Nat} (hc : X.calm = true) (hr : Room k X.A) : CallR X (.builtin "sorted") (rSortDT X.K) := by
  intro pins s σ H vs us Q I r h
  obtain ⟨d, kvs, rfl, hd, hal, hso, hdep, q⟩ := h
  obtain ⟨u, rfl, rx⟩ := r.one
  cases rx
  obtain ⟨z, lo, ks, pr, o, es, ep, ho, hx, hdt, he, hn⟩ := (show ObjOk X.prog X.w H s.heap d (.dT kvs) from I.hok d _ hd)
  have l1 : es.size = ks.length := size_of_entries he
  have l2 : kvs.length = ks.length := Paired.length pr
  refine Calls.call_function_entry PyProof.Rows.kind_sorted PyProof.Rows.plain_sorted PyProof.Rows.entry_sorted (PyProof.Rows.args_sorted1 _) ?_
  unfold Builtin.«sorted»
  refine wpAny_bind (m := checkCount "sorted" 1 1 _) (wpAny_pure ?_)
  refine wpAny_bind (PySem.W.kdu_collect (A := X.A.in1) (kdl_raw lo hx hdt) (I.ok.hd hc) ho (by omega) fun h' tk acc hk hacc => ?_)
  have ea : acc.toList = ks.map fun x => Value.ref x.2.1 := by
    have hl : acc.toList.length = ks.length := by rw [Array.length_toList, hacc.1]; exact l1
    apply List.ext_getElem?
    intro j
    rw [List.getElem?_map]
    cases hj : acc.toList[j]? with
    | none =>
      have h1 := List.getElem?_eq_none_iff.mp hj
      rw [List.getElem?_eq_none (by omega)]
      rfl
    | some v =>
      obtain ⟨en, hen, hv⟩ := hacc.2 j v (by rw [← Array.getElem?_toList]; exact hj)
      have qe := entry_at he j
      rw [hen] at qe
      cases hb : ks[j]? with
      | none =>
        rw [hb] at qe
        exact nomatch (show some en = none from qe)
      | some b =>
        rw [hb] at qe
        have e2 : en = entryOfKey (tupleKind (mixKind X.prog X.w)) b := Option.some.inj qe
        rw [hv, e2]
        rfl
  have eall := each_keys (X := X) pr
  rw [← ea] at eall
  have I1 : Inv X pins σ H { s with heap := h', toks := tk } := I.kept hk
  have hal1 : acc.toList.length = kvs.length := by rw [ea, List.length_map, l2]
  refine wpAny_bind (wpAny_newList ?_ (by rw [hal1]; exact z))
  have hoL : (h'.push (seqObj "list" acc.toList.toArray 0)).get? h'.objs.size = some (seqObj "list" acc.toList.toArray 0) := Heap.get?_push_size _ rfl
  have hun := hr.units
  have er0 := each_reads I1 eall
  have er : PySem.W.EachIs (fun u d => ∃ as, Reads (PySem.W.sortingHeap (h'.push (seqObj "list" acc.toList.toArray 0)) h'.objs.size acc.toList) u (id d) as) acc.toList (kvs.map fun kv => keyT kv.1) := by
    refine er0.mono ?_
    rintro u d ⟨as, rd⟩
    have e1 : Reads (h'.push (seqObj "list" acc.toList.toArray 0)) u (id d) as := PyProof.Rows.Reads.keeps (fun b o e => Heap.get?_push_of_some _ e) rd
    refine ⟨as, PyProof.Rows.Reads.keeps (h := h') (fun b o e => ?_) rd⟩
    have hb : b < h'.objs.size := Heap.lt_size e
    exact PySem.W.sortingHeap_old (Nat.ne_of_lt hb) (Heap.get?_push_of_some _ e)
  have er' : PySem.W.EachIs (fun u d => ∃ as, Reads (PySem.W.sortingHeap (h'.push (seqObj "list" acc.toList.toArray 0)) h'.objs.size acc.toList) u d as) acc.toList (kvs.map fun kv => keyT kv.1) := er
  show wpAny _ _ _ _ _ { s with heap := h'.push (seqObj "list" acc.toList.toArray 0), toks := tk }
  refine wpAny_bind (wpAny_holding (wpAny_call_entry PyProof.Rows.slot_list_sort ⟨_, hoL, rfl⟩ PyProof.Rows.entry_list_sort ?_ (PyProof.Rows.args_list_sort _)))
  refine PySem.W.list_sort_vals (s := { s with heap := h'.push (seqObj "list" acc.toList.toArray 0), toks := tk }) hoL
    (PySem.W.SortsAt.data (s := { s with heap := PySem.W.sortingHeap (h'.push (seqObj "list" acc.toList.toArray 0)) h'.objs.size acc.toList, toks := tk }) er' hal hso ?_) (by rw [hal1]; exact z) ⟨_, rfl, ?_⟩
  · intro d hd
    obtain ⟨kv, hkv, rfl⟩ := List.mem_map.mp hd
    have := hdep kv hkv
    show X.A.units + 1 + 1 + (keyT kv.1).depth < cLine
    omega
  · have hal2 : PySem.W.AllAlike ((kvs.map fun kv => keyT kv.1).map (id : PyData → PyData)) := by rw [List.map_id]; exact hal
    have eo := PySem.W.sortVals_data (enc := (id : PyData → PyData)) false eall er hal2
    rw [List.map_id] at eo
    obtain ⟨ys, hy, ry⟩ := each_back eo
    obtain ⟨e', he'⟩ := PyProof.Rows.sortedHeap_at (vs := acc.toList) (out := (PySem.W.sortVals (PySem.W.dataKind (PySem.W.sortingHeap (h'.push (seqObj "list" acc.toList.toArray 0)) h'.objs.size acc.toList) (kvs.map fun kv => keyT kv.1)) false acc.toList acc.toList).toArray) hoL
    have hl2 : ys.length ≤ sizeLine := by
      rw [← hy.length, List.length_mergeSort, List.length_map]
      exact z
    refine wpAny_pure ⟨_, rfl, .ref h'.objs.size, upd H h'.objs.size (.lst ys), I1.laid (t' := tk) (fun b u e => ?_) (Nat.le_refl _)
      (show ObjOk X.prog X.w _ _ _ (.lst ys) from ⟨hl2, _, e', ry, he'⟩), rfl, q ys _ hy (I1.hok.fresh (Nat.le_refl _))⟩
    have hb : b < h'.objs.size := Heap.lt_size e
    rw [PyProof.Rows.sortedHeap_old (Nat.ne_of_lt hb) (by rw [size_push']; exact Nat.lt_succ_of_lt hb)]
    exact Heap.get?_push_of_some _ e
end
/-- a ** n of greater ints -/
def CPowW (i j : Int) : Prop := 0 ≤ j ∧ (Builtin.Int.intBits i : Int) * j ≤ 2 ^ 27
theorem op_powW {X : Cx} : OpR X (binaryOp .Pow) (rI CPowW fun i j => .int (i ^ j.toNat)) :=
  opI fun i j _ _ _ _ _ hc q => PyProof.Rows.pow_int hc.1 hc.2 q
theorem bits_lt {i : Int} {n : Nat} (h : i.natAbs < 2 ^ n) : Builtin.Int.intBits i ≤ n := by
  unfold Builtin.Int.intBits
  by_cases hz : i.natAbs = 0
  · have hi : i = 0 := by omega
    simp [hi]
  · have h1 : i.natAbs.log2 < n := (Nat.log2_lt hz).mpr h
    split <;> omega
theorem pow_ok {i : Int} {n : Nat} (j : Nat) (h : i.natAbs < 2 ^ n) (hn : n * j ≤ 134217728) : CPowW i (j : Int) := by
  refine ⟨Int.natCast_nonneg j, ?_⟩
  have hb := bits_lt h
  have : Builtin.Int.intBits i * j ≤ n * j := Nat.mul_le_mul_right j hb
  have h2 : ((Builtin.Int.intBits i * j : Nat) : Int) ≤ 134217728 := Int.ofNat_le.mpr (Nat.le_trans this hn)
  rw [Int.natCast_mul] at h2
  exact Int.le_trans h2 (by decide)
end Bx
/-! Cl: callees by name, classes by name, tests, small rules. -/
namespace Cl
open PySem PySem.Spec PyProof.Rows L2 Gd Bx

theorem iteP {p : Prop} [Decidable p] {A B : Prop} (h1 : p → A) (h2 : ¬ p → B) : if decide p = true then A else B := by
  by_cases h : p
  · rw [if_pos (decide_eq_true h)]
    exact h1 h
  · rw [if_neg (by simpa using h)]
    exact h2 h
theorem iteN {p : Prop} [Decidable p] {A B : Prop} (h1 : ¬ p → A) (h2 : p → B) : if (!decide p) = true then A else B := by
  by_cases h : p
  · rw [if_neg (by simpa using h)]
    exact h2 h
  · rw [if_pos (by simpa using h)]
    exact h1 h
theorem iteY {p : Prop} [Decidable p] {A B : Prop} (h : p) (h1 : A) : if decide p = true then A else B := by rw [if_pos (decide_eq_true h)]; exact h1
theorem iteX {p : Prop} [Decidable p] {A B : Prop} (h : ¬ p) (h1 : B) : if decide p = true then A else B := by rw [if_neg (by simpa using h)]; exact h1
theorem iteB {b c : Bool} {A B : Prop} (h : b = c) (h1 : if c = true then A else B) : if b = true then A else B := by rw [h]; exact h1
theorem iteBT {b : Bool} {A B : Prop} (h : b = true) (h1 : A) : if b = true then A else B := by rw [if_pos h]; exact h1
theorem iteBF {b : Bool} {A B : Prop} (h : b = false) (h1 : B) : if b = true then A else B := by rw [h]; exact iteF h1

/-- a module's constant -/
theorem pgi {X : Cx} {x : Str} {i : Int} {pos : Pos} (hg : Gl X x) (h : ∃ t, X.mg x = some (.int i t)) (hd : (x == ("__debug__" : Str)) = false := by decide) : PE X (.Name x pos) (tC (.int i)) := by
  obtain ⟨t, h⟩ := h
  exact pe_glob hg h ⟨t, rfl⟩ hd

abbrev FnP (K : PySem.W.Frag) (x q : Str) (st : Stmt) (f : Addr) (fd : FuncData) : Prop := FunD K x q (defArgs st) (defBody st) (defScope st) [] [] f fd
/-- the def st stands at the module's name x -/
def Def (K : PySem.W.Frag) (mg : Str → Option Value) (x : Str) (st : Stmt) : Prop := ∃ (f : Addr) (fd : FuncData), mg x = some (.ref f) ∧ FnP K x x st f fd

/-- the module's name x holds a def that keeps the promise sp -/
def Callee (P : Program) (w : World) (K : PySem.W.Frag) (mg : Str → Option Value) (base : Heap) (CX : CXT) (k : Nat) (x : Str) (ps : List Str) (sp : Sp) : Prop :=
  ∃ (f : Addr) (fd : FuncData), mg x = some (.ref f) ∧ PySem.W.keepIn K (.ref f) = true ∧ Binds K fd ps [] ∧ FnG P w K mg base CX k f fd ps sp

def BindEq (st : Stmt) (x : Str) (ps : List Str) : Prop := ∀ (kV doc pm : Value) (an : Option Addr) (cdv ct : Value) (us : List Value), us.length = ps.length →
  bindArgs (PySem.W.fnOf x x (defArgs st) (defBody st) (defScope st) .none kV doc pm an cdv ct) ⟨us, []⟩ = pure (ps.zip us)
section
variable {P : Program} {w : World} {K : PySem.W.Frag} {mg : Str → Option Value} {base : Heap} {x : Str} {st : Stmt} {N ps : List Str} {k : Nat} {sp : Sp} {CX : CXT}
theorem Callee.mono {j : Nat} (C : Callee P w K mg base CX j x ps sp) (h : j ≤ k) : Callee P w K mg base CX k x ps sp :=
  let ⟨f, fd, a, b, c, F⟩ := C
  ⟨f, fd, a, b, c, F.mono h⟩
theorem callee_of (D : Def K mg x st) (S : FnScope N ps (defScope st)) (hb : BindEq st x ps) (len : ∀ vs H Q E, sp vs H Q E → vs.length = ps.length)
    (hbody : ∀ (f : Addr) (cdv : Value) (A : Around) (outer : List Env) (s : Shared) (H : Hp) (vs : List V) (Q : VK) (E : XK),
      RoomG k (A.deeper (envOfC x (defScope st) s.heap.objs.size f cdv)) → sp vs H Q E →
        ∃ t, PSs (cxOf CX P w K mg base N x (defScope st) f cdv A outer s H E) (defBody st) t ∧ t { nx := fun _ H' => Q .non H', rt := Q } (start N vs) H) :
    Callee P w K mg base CX (k + 1) x ps sp := by
  obtain ⟨f, fd, hm, F⟩ := D
  exact ⟨f, fd, hm, F.kp, F.bindsN hb, FunD_okG F S len fun cdv A outer s H vs Q E hr h => hbody f cdv A outer s H vs Q E hr h⟩
/-- a def that lets no exception out -/
theorem callee_of0 (D : Def K mg x st) (S : FnScope N ps (defScope st)) (hb : BindEq st x ps) (len : ∀ vs H Q E, sp vs H Q E → vs.length = ps.length)
    (hbody : ∀ (f : Addr) (cdv : Value) (A : Around) (outer : List Env) (s : Shared) (H : Hp) (vs : List V) (Q : VK) (E : XK),
      RoomG k (A.deeper (envOfC x (defScope st) s.heap.objs.size f cdv)) → sp vs H Q E →
        ∃ t, PSs (cxOf CX0 P w K mg base N x (defScope st) f cdv A outer s H E).nox (defBody st) t ∧ t { nx := fun _ H' => Q .non H', rt := Q } (start N vs) H) :
    Callee P w K mg base CX0 (k + 1) x ps sp :=
  callee_of D S hb len fun f cdv A outer s H vs Q E hr h => let ⟨t, a, b⟩ := hbody f cdv A outer s H vs Q E hr h; ⟨t, a.nox, b⟩
end
section
variable {X : Cx} {CX : CXT} {k : Nat} {x : Str} {ps : List Str} {sp : Sp} {E : XK} {p pos : Pos} {e : Expr} {es : List Expr} {t : TA}
/-- f(e, ..) -/
theorem pc (C : Callee X.prog X.w X.K X.mg X.base CX k x ps sp) (hr : RoomG k X.A) (hx : Passes CX X E) (ha : PA X (e :: es) t) (hg : Gl X x := by rfl)
    (hdb : (x == ("__debug__" : Str)) = false := by decide)
    (he : starEach (e :: es) X.env = (false, eval e X.env) :: starEach es X.env := by rfl)
    (hpl : (backTo pos (starEach es X.env)).any (·.1) = false := by rfl) : PE X (.Call (.Name x p) (e :: es) [] pos) (tCall sp [] E t) := by
  obtain ⟨f, fd, hm, hk, hb, F⟩ := C
  exact pe_callG F hr hg hm hk hb .nil hx ha hdb he hpl
/-- .. that lets no exception out -/
theorem pc0 (C : Callee X.prog X.w X.K X.mg X.base CX0 k x ps sp) (hr : RoomG k X.A) (ha : PA X (e :: es) t) (hg : Gl X x := by rfl)
    (hdb : (x == ("__debug__" : Str)) = false := by decide)
    (he : starEach (e :: es) X.env = (false, eval e X.env) :: starEach es X.env := by rfl)
    (hpl : (backTo pos (starEach es X.env)).any (·.1) = false := by rfl) : PE X (.Call (.Name x p) (e :: es) [] pos) (tCall sp [] E0 t) :=
  pc C hr pass0 ha hg hdb he hpl
end

/-! ### a new instance -/
theorem make_guards {A : Around} {C : Addr} {us : List Value} {kw : List (Str × Value)} : (A.under (.builtin "type.__call__" ⟨.ref C :: us, kw⟩)).guards = A.guards := by
  first
    | rfl
    | (obtain ⟨a, b, c, g, d⟩ := A
       cases g <;> simp [Around.under, pushGuards, Code.guards, Code.isGuard, guardIds])
theorem RoomG.make {k : Nat} {A : Around} (r : RoomG (k + 1) A) (C : Addr) (us : List Value) (kw : List (Str × Value)) : RoomG k (A.under (.builtin "type.__call__" ⟨.ref C :: us, kw⟩)) :=
  ⟨r.room.make C us kw, make_guards.trans r.gd⟩
section
variable {X : Cx} {CX : CXT} {k : Nat} {f C : Addr} {fd : FuncData} {ps : List Str} {sp : Sp} {E : XK} {x : Str} {p pos : Pos} {e : Expr} {es : List Expr} {t : TA}
theorem runMk {pins : List (Addr × Obj)} {σ : L2.St} {H : Hp} {s : Shared} {Q : VK} {us : List Value} {vs : List V} (M : Mk X.K C f)
    (F : FnG X.prog X.w X.K X.mg X.base CX k f fd ps sp) (hr : RoomG (k + 1) X.A) (hb : Binds X.K fd ps []) (hx : Passes CX X E) (I : Inv X pins σ H s) (r : Vals vs us)
    (h : ∀ y dy, H y = none → H dy = none → dy ≠ y → sp (.ref y :: (vs ++ [])) (upd (upd H dy (.own y)) y (.ins C dy [])) (fun v H2 => v = .non ∧ Q (.ref y) H2) E) :
    wpAny (model X.prog X.w) X.A (call (.ref C) us) (EP X pins σ Q) X.xe s := by
  have at0 := h (s.heap.objs.size + 1) s.heap.objs.size (I.hok.fresh (Nat.le_succ _)) (I.hok.fresh (Nat.le_refl _)) (Nat.ne_of_lt (Nat.lt_succ_self _))
  have J := Inv.made (C := C) I
  have both : Vals (V.ref (s.heap.objs.size + 1) :: (vs ++ [])) (Value.ref (s.heap.objs.size + 1) :: (us ++ [])) := .cons rfl (r.append .nil)
  have lenU : (Value.ref (s.heap.objs.size + 1) :: us ++ []).length = ps.length := by
    have e := both.length
    rw [F.len _ _ _ _ at0] at e
    exact e.symm
  have hbb := hb _ (Value.ref (s.heap.objs.size + 1) :: us) J.kIn lenU
  rw [List.cons_append] at hbb
  refine wpAny_call (make_map (f := f) I.kIn M.makes M.init (beq_iff_eq.mp M.fn) (codeAny_mono (F.run _ X.stack _ _ ⟨Value.ref (s.heap.objs.size + 1) :: us, []⟩ (Value.ref (s.heap.objs.size + 1) :: (us ++ [])) _ _ E
    (RoomG.make hr C us []) (J.env0.make C us []) hbb both at0) ?_))
  intro res s' hq
  match res, hq with
  | .error err, hq => exact hx pins σ _ _ err s' J hq
  | .ok (.ret u), hq =>
    obtain ⟨v, H', I3, rv, ev, q3⟩ := J.after hq
    subst ev
    exact ⟨rv, ⟨V.ref (s.heap.objs.size + 1), H', I3, rfl, q3⟩⟩
  | .ok .next, hq => exact False.elim hq
  | .ok .brk, hq => exact False.elim hq
  | .ok .cont, hq => exact False.elim hq
/-- a class of the module's by its name, its __init__ keeping sp -/
def Maker (P : Program) (w : World) (K : PySem.W.Frag) (mg : Str → Option Value) (base : Heap) (CX : CXT) (k : Nat) (x : Str) (C : Addr) (ps : List Str) (sp : Sp) : Prop :=
  mg x = some (.ref C) ∧ ∃ (f : Addr) (fd : FuncData), Mk K C f ∧ Binds K fd ps [] ∧ FnG P w K mg base CX k f fd ps sp
/-- C(e, ..) -/
theorem pm (D : Maker X.prog X.w X.K X.mg X.base CX k x C ps sp) (hr : RoomG (k + 1) X.A) (hx : Passes CX X E) (ha : PA X (e :: es) t) (hg : Gl X x := by rfl)
    (hdb : (x == ("__debug__" : Str)) = false := by decide)
    (he : starEach (e :: es) X.env = (false, eval e X.env) :: starEach es X.env := by rfl)
    (hpl : (backTo pos (starEach es X.env)).any (·.1) = false := by rfl) : PE X (.Call (.Name x p) (e :: es) [] pos) (tMake C sp [] E t) where
  run := by
    obtain ⟨hm, f, fd, M, hb, F⟩ := D
    intro pins s σ H Q I h
    refine wpAny_Call_Name_kw (ld_glob I hg hm ?_ hdb)
    refine PySem.W.callWith_K (h₀ := X.base) I.ok.mod.kin M.kp ?_ he hpl
    refine thn (ha.run pos pins s σ H _ I h) ?_
    rintro us s1 ⟨vs, H1, I1, r, q⟩
    exact ⟨I1.kIn, runMk M F hr hb hx I1 r q⟩
/-- .. that lets no exception out -/
theorem pm0 (D : Maker X.prog X.w X.K X.mg X.base CX0 k x C ps sp) (hr : RoomG (k + 1) X.A) (ha : PA X (e :: es) t) (hg : Gl X x := by rfl)
    (hdb : (x == ("__debug__" : Str)) = false := by decide)
    (he : starEach (e :: es) X.env = (false, eval e X.env) :: starEach es X.env := by rfl)
    (hpl : (backTo pos (starEach es X.env)).any (·.1) = false := by rfl) : PE X (.Call (.Name x p) (e :: es) [] pos) (tMake C sp [] E0 t) :=
  pm D hr pass0 ha hg hdb he hpl
end
section
variable {P : Program} {w : World} {K : PySem.W.Frag} {mg : Str → Option Value} {base : Heap} {x q : Str} {st : Stmt} {N ps : List Str} {k : Nat} {sp : Sp}
/-- the class C stands at the module's name x, made by its __init__, the def st -/
def ClsDef (K : PySem.W.Frag) (mg : Str → Option Value) (x q : Str) (st : Stmt) (C : Addr) : Prop := mg x = some (.ref C) ∧ ∃ (f : Addr) (fd : FuncData), Mk K C f ∧ FnP K "__init__" q st f fd
theorem maker_of0 {C : Addr} (D : ClsDef K mg x q st C) (S : FnScope N ps (defScope st))
    (hb : ∀ (kV doc pm : Value) (an : Option Addr) (cdv ct : Value) (us : List Value), us.length = ps.length →
      bindArgs (PySem.W.fnOf "__init__" q (defArgs st) (defBody st) (defScope st) .none kV doc pm an cdv ct) ⟨us, []⟩ = pure (ps.zip us))
    (len : ∀ vs H Q E, sp vs H Q E → vs.length = ps.length)
    (hbody : ∀ (f : Addr) (cdv : Value) (A : Around) (outer : List Env) (s : Shared) (H : Hp) (vs : List V) (Q : VK) (E : XK),
      RoomG k (A.deeper (envOfC q (defScope st) s.heap.objs.size f cdv)) → sp vs H Q E →
        ∃ t, PSs (cxOf CX0 P w K mg base N q (defScope st) f cdv A outer s H E).nox (defBody st) t ∧ t { nx := fun _ H' => Q .non H', rt := Q } (start N vs) H) :
    Maker P w K mg base CX0 (k + 1) x C ps sp := by
  obtain ⟨hm, f, fd, M, F⟩ := D
  refine ⟨hm, f, fd, M, F.bindsN hb, FunD_okG F S len fun cdv A outer s H vs Q E hr h => ?_⟩
  obtain ⟨t, a, b⟩ := hbody f cdv A outer s H vs Q E hr h
  exact ⟨t, a.nox, b⟩
end

/-! ### rules with the written part told (for a comprehension's block) -/
section
variable {X : Cx} {pos : Pos}
theorem pg_tupK (K : PySem.W.Frag) (n : Nat) {es : List Expr} {k : Nat} {t : TGs} (hK : X.K = K) (hc : X.calm = true) (h : PGs X es t)
    (hn : (assignEach es X.env).length = n := by rfl) (hst : (assignEach es X.env).findIdx? (·.1) = none := by rfl) : PG X (.Tuple es k pos) (gTup K n t) :=
  hK ▸ pg_tup hc h hn hst
theorem ix_listK (K : PySem.W.Frag) (hK : X.K = K) : IxR X (rIxL K) := hK ▸ ix_list
theorem ix_tupK (K : PySem.W.Frag) (hK : X.K = K) : IxR X (rIxT K) := hK ▸ ix_tup
theorem sl_listK (K : PySem.W.Frag) (hK : X.K = K) : SlR X (rSlL K) := hK ▸ sl_list
theorem sl_tupK (K : PySem.W.Frag) (hK : X.K = K) : SlR X (rSlT K) := hK ▸ sl_tup
theorem op_catTK (K : PySem.W.Frag) (hK : X.K = K) : OpR X (binaryOp .Add) (rCatT K) := hK ▸ op_catT
theorem sortDK (K : PySem.W.Frag) {k : Nat} (hK : X.K = K) (hr : Room k X.A) : CallR X (.builtin "sorted") (rSortD K) := hK ▸ call_sortD hr
theorem sortDTK (K : PySem.W.Frag) {k : Nat} (hK : X.K = K) (hc : X.calm = true) (hr : Room k X.A) : CallR X (.builtin "sorted") (rSortDT K) := hK ▸ call_sortDT hc hr
end

/-! ### pools of numbers -/
def Nn (ns : List Int) : Prop := ∀ n ∈ ns, 0 ≤ n
theorem atI_zero {α : Type} {x : α} {xs : List α} : atI (x :: xs) 0 = some x := by simp [atI, ixN]
theorem ixN_zero {n : Nat} (h : 0 < n) : ixN n 0 = some 0 := by
  unfold ixN
  rw [if_pos (by decide), if_pos (by omega)]
  rfl
theorem atI_of {α : Type} {xs : List α} {i : Nat} {x : α} (h : xs[i]? = some x) : atI xs (i : Int) = some x := by
  have hi : i < xs.length := (List.getElem?_eq_some_iff.mp h).1
  unfold atI ixN
  rw [if_pos (by omega), if_pos (by omega)]
  simpa using h
theorem ixN_of {n i : Nat} (h : i < n) : ixN n (i : Int) = some i := by
  unfold ixN
  rw [if_pos (by omega), if_pos (by omega)]
  simp
theorem seqIx0 {n : Nat} (h : 0 < n) : seqIndex? 0 n = some 0 := by
  unfold seqIndex?
  simp [h]
theorem sz {n : Nat} (h : n ≤ 100000) : n ≤ sizeLine := Nat.le_trans h (by decide)
theorem szl {n : Nat} (h : n < 100000) : n < sizeLine := Nat.lt_of_lt_of_le h (by decide)
end Cl
/-! Sx: rows of ints (tuples of whole numbers) sorted; the arcs that are kept. -/
namespace Sx
open PySem PySem.Spec PyProof.Rows L2 Gd Bx Cl

abbrev Rw := List Int
def rowD (r : Rw) : PyData := .tuple (r.map .int)
def leR (a b : Rw) : Bool := decide (a ≤ b)
abbrev srt (rows : List Rw) : List Rw := rows.mergeSort leR
theorem leD_rows (a b : Rw) : leD (rowD a) (rowD b) = leR a b := by
  show (!PySem.W.dataLt (rowD b) (rowD a)) = _
  unfold rowD
  rw [PySem.W.dataLt_tuple]
  show (!PySem.W.rowLt (b.map .int) (a.map .int)) = _
  rw [PySem.W.dataLt_ints]
  unfold leR
  by_cases h : b < a
  · have h' : ¬ a ≤ b := fun r => r h
    simp [h, h']
  · have h' : a ≤ b := h
    simp [h, h']
theorem sort_rows (rows : List Rw) : (rows.map rowD).mergeSort leD = (srt rows).map rowD := by
  unfold srt
  exact (PySem.W.sort_maps rowD fun a _ b _ => (leD_rows a b).symm).symm
theorem alikeAll_ints : ∀ (xs ys : Rw), PySem.W.alikeAll (xs.map .int) (ys.map .int) = true
  | [], _ => by simp [PySem.W.alikeAll]
  | _ :: _, [] => by simp [PySem.W.alikeAll]
  | x :: xs, y :: ys => by
    show PySem.W.alikeAll (.int x :: xs.map .int) (.int y :: ys.map .int) = true
    rw [PySem.W.alikeAll, alikeAll_ints xs ys]
    simp [PySem.W.alike]
theorem alike_rows (rows : List Rw) : PySem.W.AllAlike (rows.map rowD) := by
  intro d hd e he
  obtain ⟨a, _, rfl⟩ := List.mem_map.mp hd
  obtain ⟨b, _, rfl⟩ := List.mem_map.mp he
  unfold rowD
  rw [PySem.W.alike]
  exact alikeAll_ints a b
theorem sortable_rows (rows : List Rw) (h : ∀ r ∈ rows, r ≠ []) : PySem.W.Sortable (rows.map rowD) := by
  refine .inl fun d hd => ?_
  obtain ⟨a, ha, rfl⟩ := List.mem_map.mp hd
  cases a with
  | nil => exact absurd rfl (h _ ha)
  | cons x r => exact ⟨_, _, rfl⟩
theorem depthAll_ints : ∀ r : Rw, PyData.depthAll (r.map .int) ≤ 1
  | [] => by simp [PyData.depthAll]
  | x :: r => by
    show PyData.depthAll (.int x :: r.map .int) ≤ 1
    have := depthAll_ints r
    simp only [PyData.depthAll, PyData.depth]
    omega
theorem depth_row (r : Rw) : (rowD r).depth ≤ 2 := by
  unfold rowD
  have := depthAll_ints r
  simp only [PyData.depth]
  omega
theorem srt_perm (rows : List Rw) : (srt rows).Perm rows := List.mergeSort_perm rows leR
theorem leR_trans (a b c : Rw) (h1 : leR a b = true) (h2 : leR b c = true) : leR a c = true := by
  have h1' : a ≤ b := of_decide_eq_true h1
  have h2' : b ≤ c := of_decide_eq_true h2
  exact decide_eq_true (List.le_trans h1' h2')
theorem leR_total (a b : Rw) : (leR a b || leR b a) = true := by
  rcases List.le_total a b with h | h
  · have : leR a b = true := decide_eq_true h
    simp [this]
  · have : leR b a = true := decide_eq_true h
    simp [this]
theorem srt_sorted (rows : List Rw) : (srt rows).Pairwise (fun a b => a ≤ b) :=
  (List.pairwise_mergeSort leR_trans leR_total rows).imp fun h => of_decide_eq_true h
theorem lt_of_le_ne {a b : Rw} (h : a ≤ b) (n : a ≠ b) : a < b := by
  by_cases q : a < b
  · exact q
  · exact absurd (List.le_antisymm h q) n
theorem lt_asym {a b : Rw} (h : a < b) : ¬ b < a := List.lt_asymm h
theorem lt_irr (a : Rw) : ¬ a < a := List.lt_irrefl a

/-- strictly rising lists of the same members are one -/
theorem rising_one {α : Type} {R : α → α → Prop} (as : ∀ a b, R a b → ¬ R b a) : ∀ {l m : List α}, l.Pairwise R → m.Pairwise R → (∀ a, a ∈ l ↔ a ∈ m) → l = m
  | [], [], _, _, _ => rfl
  | [], b :: m, _, _, h => absurd ((h b).mpr List.mem_cons_self) (by simp)
  | a :: l, [], _, _, h => absurd ((h a).mp List.mem_cons_self) (by simp)
  | a :: l, b :: m, hl, hm, h => by
    obtain ⟨l1, l2⟩ := List.pairwise_cons.mp hl
    obtain ⟨m1, m2⟩ := List.pairwise_cons.mp hm
    have e : a = b := by
      rcases List.mem_cons.mp ((h a).mp List.mem_cons_self) with e | e
      · exact e
      · rcases List.mem_cons.mp ((h b).mpr List.mem_cons_self) with f | f
        · exact f.symm
        · exact absurd (m1 a e) (as _ _ (l1 b f))
    subst e
    have na : a ∉ l := fun z => as _ _ (l1 a z) (l1 a z)
    have nm : a ∉ m := fun z => as _ _ (m1 a z) (m1 a z)
    rw [rising_one as l2 m2 fun x => ⟨fun hx => ?_, fun hx => ?_⟩]
    · rcases List.mem_cons.mp ((h x).mp (List.mem_cons_of_mem _ hx)) with e | e
      · exact absurd (e ▸ hx) na
      · exact e
    · rcases List.mem_cons.mp ((h x).mpr (List.mem_cons_of_mem _ hx)) with e | e
      · exact absurd (e ▸ hx) nm
      · exact e

/-! ### the arcs that are kept -/
def MaxLag (arcs : List Rw) (u v d l : Int) : Prop := [u, v, d, l] ∈ arcs ∧ ∀ x, [u, v, d, x] ∈ arcs → x ≤ l
theorem MaxLag.one {arcs : List Rw} {u v d l m : Int} (a : MaxLag arcs u v d l) (b : MaxLag arcs u v d m) : l = m := Int.le_antisymm (b.2 _ a.1) (a.2 _ b.1)
def Four (arcs : List Rw) : Prop := ∀ r ∈ arcs, ∃ u v d l, r = [u, v, d, l]
structure Kept (arcs A : List Rw) : Prop where
  up : A.Pairwise fun a b => a.take 3 < b.take 3
  mem : ∀ r, r ∈ A ↔ ∃ u v d l, r = [u, v, d, l] ∧ MaxLag arcs u v d l
theorem Kept.one {arcs A B : List Rw} (a : Kept arcs A) (b : Kept arcs B) : A = B :=
  rising_one (fun _ _ h => lt_asym h) a.up b.up fun r => (a.mem r).trans (b.mem r).symm

def k3 (u v d : Int) : List Key := [.inl u, .inl v, .inl d]
theorem k3_inj {u v d u' v' d' : Int} (h : k3 u v d = k3 u' v' d') : u = u' ∧ v = v' ∧ d = d' := by
  unfold k3 at h
  simp only [List.cons.injEq, Sum.inl.injEq, and_true] at h
  exact h
/-- the dict of the greatest lags of the arcs so far -/
structure Lags (arcs : List Rw) (kvs : List (List Key × V)) : Prop where
  nd : (kvs.map (·.1)).Nodup
  key : ∀ k ∈ kvs.map (·.1), ∃ u v d, k = k3 u v d
  val : ∀ u v d x, valV kvs (k3 u v d) = some x ↔ ∃ l, x = .int l ∧ MaxLag arcs u v d l
  sz : kvs.length ≤ arcs.length
theorem Lags.nil : Lags [] [] := ⟨List.nodup_nil, (fun _ z => nomatch z), fun u v d x => ⟨(fun z => nomatch z), fun ⟨l, _, h, _⟩ => nomatch h⟩, Nat.le_refl _⟩
theorem nd_put {κ : Type} [DecidableEq κ] {kvs : List (κ × V)} {k : κ} (v : V) (hn : (kvs.map (·.1)).Nodup) : ((putK kvs k v).map (·.1)).Nodup := by
  cases h : valV kvs k with
  | none => exact nd_putK v hn h
  | some y =>
    unfold putK
    have hany : (kvs.any fun kv => decide (kv.1 = k)) = true := by rw [valV_any, h]; rfl
    rw [if_pos hany, List.map_map]
    have e : ((·.1) ∘ fun kv : κ × V => if kv.1 = k then (kv.1, v) else kv) = fun kv : κ × V => kv.1 := by
      funext kv
      show (if kv.1 = k then (kv.1, v) else kv).1 = kv.1
      split <;> rfl
    rw [e]
    exact hn
theorem keys_put {κ : Type} [DecidableEq κ] {kvs : List (κ × V)} {k j : κ} {v : V} (h : j ∈ (putK kvs k v).map (·.1)) : j = k ∨ j ∈ kvs.map (·.1) := by
  obtain ⟨p, hp, e⟩ := List.mem_map.mp h
  unfold putK at hp
  split at hp
  · obtain ⟨q, hq, e2⟩ := List.mem_map.mp hp
    refine .inr (List.mem_map.mpr ⟨q, hq, ?_⟩)
    rw [← e, ← e2]
    split <;> rfl
  · rcases List.mem_append.mp hp with hp | hp
    · exact .inr (List.mem_map.mpr ⟨p, hp, e⟩)
    · rw [List.mem_singleton.mp hp] at e
      exact .inl e.symm
/-- one arc more: its lag, or the greatest of its ends before, if that is greater -/
theorem Lags.put {arcs : List Rw} {kvs : List (List Key × V)} (L : Lags arcs kvs) {u v d l m : Int}
    (hm : (∀ x, valV kvs (k3 u v d) = some x → x = .int m ∨ ∃ y, x = .int y ∧ y ≤ m) ∧ (valV kvs (k3 u v d) = some (.int m) ∨ m = l) ∧ l ≤ m) :
    Lags (arcs ++ [[u, v, d, l]]) (putK kvs (k3 u v d) (.int m)) := by
  refine ⟨nd_put _ L.nd, fun k hk => ?_, fun u' v' d' x => ?_, ?_⟩
  · rcases keys_put hk with e | e
    · exact ⟨u, v, d, e⟩
    · exact L.key k e
  · rw [valV_put]
    by_cases e : k3 u' v' d' = k3 u v d
    · rw [if_pos e]
      obtain ⟨rfl, rfl, rfl⟩ := k3_inj e
      have mx : MaxLag (arcs ++ [[u', v', d', l]]) u' v' d' m := by
        refine ⟨?_, fun y hy => ?_⟩
        · rcases hm.2.1 with h | h
          · obtain ⟨l', e1, e2⟩ := (L.val _ _ _ _).mp h
            cases e1
            exact List.mem_append_left _ e2.1
          · rw [h]
            exact List.mem_append_right _ List.mem_cons_self
        · rcases List.mem_append.mp hy with hy | hy
          · -- a greatest one stands
            have : ∃ z, valV kvs (k3 u' v' d') = some z := by
              by_cases hz : valV kvs (k3 u' v' d') = none
              · exfalso
                -- the greatest lag of the arcs with these ends
                have : ∀ (as : List Rw) (y : Int), [u', v', d', y] ∈ as → ∃ g, MaxLag as u' v' d' g := by
                  intro as
                  induction as with
                  | nil => intro y h; cases h
                  | cons a as ih =>
                    intro y h
                    by_cases hex : ∃ y', [u', v', d', y'] ∈ as
                    · obtain ⟨y', h'⟩ := hex
                      obtain ⟨g, g1, g2⟩ := ih y' h'
                      by_cases ha : ∃ z, a = [u', v', d', z] ∧ g ≤ z
                      · obtain ⟨z, rfl, hz⟩ := ha
                        exact ⟨z, List.mem_cons_self, fun x hx => (List.mem_cons.mp hx).elim (fun e => by simp at e; omega) fun e => Int.le_trans (g2 x e) hz⟩
                      · refine ⟨g, List.mem_cons_of_mem _ g1, fun x hx => (List.mem_cons.mp hx).elim (fun e => ?_) (g2 x)⟩
                        by_cases q : g ≤ x
                        · exact absurd ⟨x, e.symm, q⟩ ha
                        · omega
                    · rcases List.mem_cons.mp h with e | e
                      · refine ⟨y, by rw [e]; exact List.mem_cons_self, fun x hx => (List.mem_cons.mp hx).elim (fun f => ?_) fun f => absurd ⟨x, f⟩ hex⟩
                        rw [← e] at f
                        simp at f
                        omega
                      · exact absurd ⟨y, e⟩ hex
                obtain ⟨g, hg⟩ := this arcs y hy
                have q := (L.val u' v' d' (.int g)).mpr ⟨g, rfl, hg⟩
                rw [hz] at q
                cases q
              · exact Option.ne_none_iff_exists'.mp hz
            obtain ⟨z, hz⟩ := this
            obtain ⟨g, rfl, hg⟩ := (L.val _ _ _ _).mp hz
            have h1 := hg.2 y hy
            rcases hm.1 _ hz with h | ⟨w, h, hw⟩
            · cases h; exact h1
            · cases h; omega
          · have e2 := List.mem_singleton.mp hy
            simp at e2
            omega
      refine ⟨fun h => ⟨m, (Option.some.inj h).symm, mx⟩, fun ⟨l', e1, e2⟩ => ?_⟩
      rw [e1, mx.one e2]
    · rw [if_neg e, L.val]
      have nk : ∀ y, [u', v', d', y] ∈ arcs ++ [[u, v, d, l]] ↔ [u', v', d', y] ∈ arcs := fun y => by
        refine ⟨fun h => (List.mem_append.mp h).elim id fun h => ?_, fun h => List.mem_append_left _ h⟩
        have e2 := List.mem_singleton.mp h
        simp at e2
        exact absurd (by rw [e2.1, e2.2.1, e2.2.2.1]) e
      unfold MaxLag
      constructor
      · rintro ⟨l', e1, h1, h2⟩
        exact ⟨l', e1, (nk _).mpr h1, fun x hx => h2 x ((nk x).mp hx)⟩
      · rintro ⟨l', e1, h1, h2⟩
        exact ⟨l', e1, (nk _).mp h1, fun x hx => h2 x ((nk x).mpr hx)⟩
  · have h1 := length_putK kvs (k3 u v d) (.int m)
    rw [List.length_append]
    have := L.sz
    show (putK kvs (k3 u v d) (.int m)).length ≤ arcs.length + 1
    omega
theorem Lags.perm {arcs arcs' : List Rw} {kvs : List (List Key × V)} (L : Lags arcs kvs) (h : arcs.Perm arcs') : Lags arcs' kvs := by
  refine ⟨L.nd, L.key, fun u v d x => (L.val u v d x).trans ?_, by rw [← h.length_eq]; exact L.sz⟩
  unfold MaxLag
  constructor
  · rintro ⟨l, e, h1, h2⟩
    exact ⟨l, e, h.mem_iff.mp h1, fun x hx => h2 x (h.mem_iff.mpr hx)⟩
  · rintro ⟨l, e, h1, h2⟩
    exact ⟨l, e, h.mem_iff.mpr h1, fun x hx => h2 x (h.mem_iff.mp hx)⟩
/-! the sorted keys -/
def kInts : List Key → Rw := fun k => k.map fun x => match x with
  | .inl i => i
  | .inr _ => 0
theorem kInts_k3 (u v d : Int) : kInts (k3 u v d) = [u, v, d] := rfl
theorem keyT_k3 (u v d : Int) : keyT (k3 u v d) = rowD [u, v, d] := rfl
theorem keys_rows {kvs : List (List Key × V)} (h : ∀ k ∈ kvs.map (·.1), ∃ u v d, k = k3 u v d) :
    (kvs.map fun kv => keyT kv.1) = (kvs.map fun kv => kInts kv.1).map rowD := by
  rw [List.map_map]
  apply List.map_congr_left
  intro kv hkv
  obtain ⟨u, v, d, e⟩ := h kv.1 (List.mem_map.mpr ⟨kv, hkv, rfl⟩)
  show keyT kv.1 = rowD (kInts kv.1)
  rw [e, kInts_k3, keyT_k3]
/-- the rows of the sorted keys, each with its greatest lag -/
theorem Lags.sorted {arcs : List Rw} {kvs : List (List Key × V)} (L : Lags arcs kvs) :
    (srt (kvs.map fun kv => kInts kv.1)).Pairwise (fun a b => a < b) ∧
    ∀ r, r ∈ srt (kvs.map fun kv => kInts kv.1) ↔ ∃ u v d l, r = [u, v, d] ∧ MaxLag arcs u v d l := by
  have nd : (kvs.map fun kv => kInts kv.1).Nodup := by
    have e : (kvs.map fun kv => kInts kv.1) = (kvs.map (·.1)).map kInts := by rw [List.map_map]; rfl
    rw [e]
    refine List.pairwise_map.mpr (L.nd.imp_of_mem ?_)
    intro a b ha hb hne hab
    obtain ⟨u, v, d, rfl⟩ := L.key a ha
    obtain ⟨u', v', d', rfl⟩ := L.key b hb
    rw [kInts_k3, kInts_k3] at hab
    simp at hab
    obtain ⟨rfl, rfl, rfl⟩ := hab
    exact hne rfl
  refine ⟨?_, fun r => ?_⟩
  · have h1 := srt_sorted (kvs.map fun kv => kInts kv.1)
    have h2 : (srt (kvs.map fun kv => kInts kv.1)).Nodup := (srt_perm _).nodup_iff.mpr nd
    exact (h1.and h2).imp fun ⟨a, b⟩ => lt_of_le_ne a b
  · rw [(srt_perm _).mem_iff]
    constructor
    · intro h
      obtain ⟨kv, hkv, e⟩ := List.mem_map.mp h
      obtain ⟨u, v, d, e1⟩ := L.key kv.1 (List.mem_map.mpr ⟨kv, hkv, rfl⟩)
      have hv := val_nodup L.nd kv hkv
      rw [e1] at hv
      obtain ⟨l, _, hl⟩ := (L.val u v d _).mp hv
      exact ⟨u, v, d, l, by rw [← e, e1]; rfl, hl⟩
    · rintro ⟨u, v, d, l, rfl, hl⟩
      have hv := (L.val u v d (.int l)).mpr ⟨l, rfl, hl⟩
      obtain ⟨kv, hkv, e⟩ := List.mem_map.mp (valV_in hv)
      exact List.mem_map.mpr ⟨kv, hkv, by rw [e]; rfl⟩
def lagOf (kvs : List (List Key × V)) (r : Rw) : Int := match valV kvs (r.map Sum.inl) with
  | some (.int l) => l
  | _ => 0
def outRows (kvs : List (List Key × V)) : List Rw := (srt (kvs.map fun kv => kInts kv.1)).map fun r => r ++ [lagOf kvs r]
theorem Lags.at {arcs : List Rw} {kvs : List (List Key × V)} (L : Lags arcs kvs) {r : Rw} (h : r ∈ srt (kvs.map fun kv => kInts kv.1)) :
    ∃ u v d l, r = [u, v, d] ∧ valV kvs (k3 u v d) = some (.int l) ∧ lagOf kvs r = l ∧ MaxLag arcs u v d l := by
  obtain ⟨u, v, d, l, e, hl⟩ := (L.sorted.2 r).mp h
  have hv := (L.val u v d (.int l)).mpr ⟨l, rfl, hl⟩
  refine ⟨u, v, d, l, e, hv, ?_, hl⟩
  unfold lagOf
  rw [e]
  have e2 : (([u, v, d] : Rw).map Sum.inl : List Key) = k3 u v d := rfl
  rw [e2, hv]
theorem Lags.kept {arcs : List Rw} {kvs : List (List Key × V)} (L : Lags arcs kvs) : Kept arcs (outRows kvs) := by
  obtain ⟨h1, h2⟩ := L.sorted
  refine ⟨?_, fun r => ?_⟩
  · refine List.pairwise_map.mpr (h1.imp_of_mem ?_)
    intro a b ha hb hab
    obtain ⟨u, v, d, l, rfl, _⟩ := L.at ha
    obtain ⟨u', v', d', l', rfl, _⟩ := L.at hb
    exact hab
  · constructor
    · intro h
      obtain ⟨k, hk, e⟩ := List.mem_map.mp h
      obtain ⟨u, v, d, l, e1, _, e2, hl⟩ := L.at hk
      exact ⟨u, v, d, l, by rw [← e, e2, e1]; rfl, hl⟩
    · rintro ⟨u, v, d, l, rfl, hl⟩
      have hk := (h2 [u, v, d]).mpr ⟨u, v, d, l, rfl, hl⟩
      obtain ⟨u', v', d', l', e1, _, e2, hl'⟩ := L.at hk
      simp at e1
      obtain ⟨rfl, rfl, rfl⟩ := e1
      exact List.mem_map.mpr ⟨_, hk, by rw [e2, hl'.one hl]; rfl⟩
theorem outRows_length (kvs : List (List Key × V)) : (outRows kvs).length = kvs.length := by
  unfold outRows
  rw [List.length_map, (srt_perm _).length_eq, List.length_map]
theorem ims_row {K : PySem.W.Frag} {H : Hp} {rows : List Rw} {xs : List V} (h : Ims K H (rows.map rowD) xs) {i : Nat} {x : V} (e : xs[i]? = some x) :
    ∃ r t, rows[i]? = some r ∧ x = .ref t ∧ H t = some (.tup (r.map V.int)) := by
  obtain ⟨d, h1, h2⟩ := h.get e
  rw [List.getElem?_map] at h1
  cases hr : rows[i]? with
  | none => rw [hr] at h1; cases h1
  | some r =>
    rw [hr] at h1
    cases h1
    obtain ⟨t, e1, e2⟩ := Im.tints h2
    exact ⟨r, t, rfl, e1, e2⟩
theorem take_next {α : Type} {l : List α} {i : Nat} {a : α} (h : l[i]? = some a) : l.take (i + 1) = l.take i ++ [a] := by
  rw [List.take_add_one, h]
  rfl
theorem before {α : Type} {R : α → α → Prop} {l : List α} (h : l.Pairwise R) {i : Nat} {a b : α} (ha : l[i]? = some a) (hb : b ∈ l.take i) : R b a := by
  have h2 : (l.take (i + 1)).Pairwise R := h.sublist (List.take_sublist _ _)
  rw [take_next ha] at h2
  exact (List.pairwise_append.mp h2).2.2 b hb a List.mem_cons_self
theorem lag_le {u v d x y : Int} (h : ([u, v, d, x] : Rw) ≤ [u, v, d, y]) : x ≤ y := by
  by_cases c : y < x
  · exfalso
    refine h ?_
    show ([u, v, d, y] : List Int) < [u, v, d, x]
    rw [List.cons_lt_cons_iff, List.cons_lt_cons_iff, List.cons_lt_cons_iff, List.cons_lt_cons_iff]
    exact .inr ⟨rfl, .inr ⟨rfl, .inr ⟨rfl, .inl c⟩⟩⟩
  · omega
end Sx
/-! En: enumerate over a tuple; what a loop over enumerate asks. -/
namespace PySem
open PyProof.Rows
/-- enumerate of a tuple: its two new cells -/
theorem meets_enumT (l : Addr) (items : Array Value) :
    Meets (Builtin.«enumerate.__new__» ⟨[.type "enumerate", .ref l], []⟩) (fun _ R s => s.heap.IsTuple l items ∧
      R (.ok (.ret (.ref (s.heap.push { cls := .type "tuple_iterator", data := .fields #[.ref l, .int 0 0] }).objs.size)))
        { s with heap := ((s.heap.push { cls := .type "tuple_iterator", data := .fields #[.ref l, .int 0 0] }).push
          ({ cls := .type "enumerate", data := .fields #[.none, .bool false, .ref s.heap.objs.size, rawInt 0, .none, .none] })) }) :=
  .of_wp fun prog w A R s h => by
    obtain ⟨hp, g, d, tk, os⟩ := s
    obtain ⟨hl, h⟩ := h
    have hsub := sub_enumerate
    have q1 : ∀ {A' : Around} {E : Value → Shared → Prop} {Q : Value → Shared → Prop},
        Q (.ref hp.objs.size) ⟨hp.push { cls := .type "tuple_iterator", data := .fields #[.ref l, .int 0 0] }, g, d, tk, os⟩ →
          wpAny (model prog w) A' (pyIter (.ref l)) Q E ⟨hp, g, d, tk, os⟩ := fun q => wpAny_pyIter_tuple (s := ⟨hp, g, d, tk, os⟩) hl q
    obtain ⟨⟨c, dct, dt, sl⟩, hg, hc, n, hd⟩ := id hl
    replace hc : c = .type "tuple" := hc
    replace hd : dt = .seq items n := hd
    subst hc hd
    wp_walk using wpAny_loadPart' hg, q1
    refine wpAny_stack_any fun st => wpAny_pure ?_
    split
    · rename_i c _ _ _ _ _
      cases (c == Value.type "enumerate")
      · wp_walk using wpAny_loadPart' hg, q1
        exact ⟨_, rfl, h⟩
      · wp_walk using wpAny_loadPart' hg, q1
        exact ⟨_, rfl, h⟩
    · wp_walk using wpAny_loadPart' hg, q1
      exact ⟨_, rfl, h⟩
theorem call_enumT {prog : Program} {w : World} {A : Around} {E : Value → Shared → Prop} {s : Shared} {l : Addr} {items : Array Value} {Q : Value → Shared → Prop} (hL : s.heap.IsTuple l items)
    (h : ∀ h', IsEnum h' (s.heap.objs.size + 1) s.heap.objs.size 0 .none → h'.IsTupleIter s.heap.objs.size l 0 →
      (∀ b o, s.heap.get? b = some o → h'.get? b = some o) → Q (.ref (s.heap.objs.size + 1)) { s with heap := h' }) :
    wpAny (model prog w) A (call (.type "enumerate") [.ref l]) Q E s := by
  refine callType_new F.called_enumerate (by decide) (F.typeCall_enumerate_1 _) (F.newCall_enumerate_1 _) (fun obj => F.args_object_init_2 obj _) F.entry_enumerate_new
    (meets_enumT l items) ⟨hL, ?_⟩
  have hz : (s.heap.push { cls := .type "tuple_iterator", data := .fields #[.ref l, .int 0 0] }).objs.size = s.heap.objs.size + 1 := Heap.size_push ..
  show _ ∧ _
  rw [hz]
  have he : IsEnum ((s.heap.push { cls := .type "tuple_iterator", data := .fields #[.ref l, .int 0 0] }).push
      { cls := .type "enumerate", data := .fields #[.none, .bool false, .ref s.heap.objs.size, rawInt 0, .none, .none] }) (s.heap.objs.size + 1) s.heap.objs.size 0 .none := by
    have := Heap.get?_push_size (s.heap.push { cls := .type "tuple_iterator", data := .fields #[.ref l, .int 0 0] })
      (o := { cls := .type "enumerate", data := .fields #[.none, .bool false, .ref s.heap.objs.size, rawInt 0, .none, .none] }) rfl
    rw [hz] at this
    exact this
  exact ⟨⟨_, he, rfl⟩, h _ he ⟨_, Heap.get?_push_of_some _ (Heap.get?_push_size _ rfl), rfl, rfl⟩ fun b o x => Heap.get?_push_of_some _ (Heap.get?_push_of_some _ x)⟩
end PySem
namespace En
open PySem PySem.Spec PyProof.Rows L2 Gd Bx Cl
/-- the tuple at a, each item in a new pair with its number -/
def IteT (K : PySem.W.Frag) (a : Addr) : It :=
  ⟨fun i H => ∃ (xs : List V) (x : V), SqT K H a xs ∧ xs[i]? = some x,
   fun i H v H' => ∃ T x, v = .ref T ∧ H T = none ∧ H' = upd H T (.tup [.int (i : Nat), x]) ∧ ∀ xs, SqT K H a xs → xs[i]? = some x,
   fun i H => ∃ xs : List V, SqT K H a xs ∧ xs.length = i⟩
theorem turn_enumT {P : Program} {w : World} {K : PySem.W.Frag} {elts : List Expr} {kk : Nat} {tpos : Pos} (a e it : Addr) :
    Turn P w K (.Tuple elts kk tpos) (IteT K a) [e, it] e (fun i h => (∃ old, IsEnum h e it ((i : Nat) : Int) old) ∧ h.IsTupleIter it a i ∧ e ≠ it ∧ e ≠ a ∧ a ≠ it) where
  mem := by simp
  obj := by
    rintro i h ⟨⟨old, he⟩, ⟨o, ho, hc, hd⟩, _⟩ b hb
    have e' : b = e ∨ b = it := by simpa using hb
    rcases e' with z | z
    · rw [z]
      exact ⟨_, he, fun v q => nomatch q⟩
    · rw [z]
      exact ⟨o, ho, fun v q => by rw [hd] at q; cases q⟩
  keep := by
    rintro i h h' ⟨⟨old, he⟩, hi, hne⟩ k
    exact ⟨⟨old, k e (by simp) _ he⟩, hi.at fun o q => k it (by simp) o q, hne⟩
  item := by
    intro X hP hw hK hc i pins s σ H E I hf st hg
    subst hP hw hK
    obtain ⟨⟨old, he⟩, hit, hne, hea, hai⟩ := st
    obtain ⟨xs, x, hq, hx⟩ := hg
    obtain ⟨its, rv, p, hz⟩ := I.tuple hq
    obtain ⟨u, hu, ru⟩ := rv.get hx
    have hel : e < s.heap.objs.size := Heap.lt_size he
    have hil : it < s.heap.objs.size := by obtain ⟨_, q, _⟩ := hit; exact Heap.lt_size q
    have hlt : i < its.toArray.size := by
      have := (List.getElem?_eq_some_iff.mp hu).1
      simpa using this
    have D := GoesN.enumFrom (prog := X.prog) (w := X.w) (A := X.A) (elts := elts) (x1 := kk) (pos := tpos) 0 (Draws.tuple (A := X.A.in1) (I.ok.hd hc) it a hai its.toArray) e hne (by simp; exact ⟨hne, hea⟩) (by simp)
    refine wpAny_mono (D.goes i s _ E hlt ⟨⟨old, by simpa using he⟩, hit, p⟩ ?_) (fun r s1 h => h) (fun _ _ h => h)
    rintro v h' tk ⟨T, t, y, rfl, hT, hy, hTt⟩ ⟨⟨old', he'⟩, hit', _⟩ hk htk
    have hyu : y = u := by
      have : its.toArray[i]? = some u := by simpa using hu
      rw [this] at hy
      exact (Option.some.inj hy).symm
    subst hyu
    have fr : H T = none := I.hok.fresh hT
    have new : ObjOk X.prog X.w (upd H T (.tup [.int (i : Nat), x])) h' T (.tup [.int (i : Nat), x]) := by
      refine ⟨by show 2 ≤ sizeLine; decide, [.int (0 + (i : Int)) t, y], .cons ⟨t, by simp⟩ (.cons ru .nil), ?_⟩
      exact hTt
    have I1 : Inv X pins σ (upd H T (.tup [.int (i : Nat), x])) { s with heap := h', toks := tk } :=
      I.turnedNew (ch := [e, it]) (fun b ob hb q => hk b ob hb q) hf hT new
    refine ⟨.ref T, _, I1, rfl, ⟨T, x, rfl, fr, rfl, fun ys hy => by rw [I.tuple_inj hy hq]; exact hx⟩, ⟨⟨old', by simpa using he'⟩, hit', hne, hea, hai⟩, fun b hb => ?_⟩
    have hb' : b < s.heap.objs.size := by
      have e' : b = e ∨ b = it := by simpa using hb
      rcases e' with z | z
      · rw [z]; exact hel
      · rw [z]; exact hil
    rw [upd_ne (Nat.ne_of_lt (Nat.lt_of_lt_of_le hb' hT))]
    exact (hf b hb).1
  done := by
    intro X hP hw hK hc i pins s σ H E I hf st hg
    subst hP hw hK
    obtain ⟨⟨old, he⟩, hit, hne, hea, hai⟩ := st
    obtain ⟨xs, hq, hx⟩ := hg
    obtain ⟨its, rv, p, hz⟩ := I.tuple hq
    obtain ⟨f0, f1, f2, f3, f4, f5⟩ := hf it (by simp)
    have hl := rv.length
    have hii : its.toArray.size = i := by simp; omega
    have D := Draws.tuple (prog := X.prog) (w := X.w) (A := X.A.in1) (I.ok.hd hc) it a hai its.toArray
    refine wpAny_pyNext_enum_endD D he (by rw [hii]; exact ⟨hit, p⟩) fun h' eb => ⟨rfl, ?_⟩
    exact I.turned (t' := s.toks) (fun b o hb q => eb b o hb q) f0 f1 f3 f4 f5
  self := fun A i s Q E st h => let ⟨⟨_, he⟩, _⟩ := st; wpAny_pyIter_enum he h
def iEnumT (K : PySem.W.Frag) (ta : TA) : TI := fun σ H R => ta σ H fun vs H1 => ∃ a xs, vs = [.ref a] ∧ SqT K H1 a xs ∧ R (IteT K a) H1
theorem pi_enumT {X : Cx} {e : Expr} {ta : TA} {p pos tpos : Pos} {elts : List Expr} {kk : Nat} (hg : Gl X "enumerate") (hm : X.mg "enumerate" = none) (ha : PA X [e] ta)
    (hs : starEach [e] X.env = [(false, eval e X.env)] := by rfl) : PI X (.Tuple elts kk tpos) (.Call (.Name "enumerate" p) [e] [] pos) (iEnumT X.K ta) where
  run := by
    intro pins s σ H R I h
    refine Call_ (ld_blt I hg hm boot_enumerate (PyProof.Rows.callWith_type1 (thn (ha.run pos pins s σ H _ I h) ?_) hs rfl))
    rintro us s1 ⟨vs, H1, I1, r1, a, xs, rfl, hq, q⟩
    cases r1 with
    | cons r rr =>
      cases rr
      cases r
      obtain ⟨its, rv, p', hz⟩ := I1.tuple hq
      have al : a < s1.heap.objs.size := p'.lt
      refine call_enumT p' fun h' he hit hk => wpAny_pyIter_enum he ?_
      have I2 : Inv X pins σ H1 { s1 with heap := h' } := I1.kept (t' := s1.toks) hk
      refine ⟨s1.heap.objs.size + 1, [s1.heap.objs.size + 1, s1.heap.objs.size], _, _, H1, rfl, I2, turn_enumT a (s1.heap.objs.size + 1) s1.heap.objs.size,
        ⟨⟨.none, he⟩, hit, Nat.succ_ne_self _, Nat.ne_of_gt (Nat.lt_succ_of_lt al), Nat.ne_of_lt al⟩, fun b hb => ?_, q⟩
      have e' : b = s1.heap.objs.size + 1 ∨ b = s1.heap.objs.size := by simpa using hb
      have hle : s1.heap.objs.size ≤ b := by
        rcases e' with z | z
        · rw [z]; exact Nat.le_add_right _ _
        · rw [z]; exact Nat.le_refl _
      exact I1.fpOk hle (I1.hok.fresh hle)
section
variable {K : PySem.W.Frag} {a : Addr} {xs : List V} {g : TG} {tb : TS} {D : Ends} {σ : L2.St} {H : Hp}
theorem for_enumT (Pv : Nat → L2.St → Hp → Prop) (h0 : Pv 0 σ H) (hl : ∀ i σ H, i ≤ xs.length → Pv i σ H → SqT K H a xs)
    (hs : ∀ i x σ H T, xs[i]? = some x → Pv i σ H → H T = none → g (.ref T) σ (upd H T (.tup [.int (i : Nat), x])) fun σ2 H2 => tb { D with nx := Pv (i + 1), ct := Pv (i + 1), bk := D.nx } σ2 H2)
    (hd : ∀ σ H, Pv xs.length σ H → D.nx σ H) :
    ∃ W : Nat → Nat → L2.St → Hp → Prop, (∃ m, W 0 m σ H) ∧ ∀ i m σ H, W i m σ H →
      ((IteT K a).stop i H ∧ D.nx σ H) ∨ ((IteT K a).go i H ∧ ∃ N : L2.St → Hp → Prop, (∀ σ' H', N σ' H' → ∃ m', m' < m ∧ W (i + 1) m' σ' H') ∧
        ∀ x H', (IteT K a).yld i H x H' → g x σ H' fun σ2 H2 => tb { D with nx := N, ct := N, bk := D.nx } σ2 H2) := by
  refine ⟨fun i m σ H => m = xs.length - i ∧ i ≤ xs.length ∧ Pv i σ H, ⟨xs.length, by simp, Nat.zero_le _, h0⟩, ?_⟩
  rintro i m σ H ⟨rfl, hi, p⟩
  have q := hl i σ H hi p
  by_cases hlt : i < xs.length
  · refine .inr ⟨⟨xs, xs[i], q, by simp [hlt]⟩, Pv (i + 1), fun σ' H' p' => ⟨xs.length - (i + 1), by omega, rfl, hlt, p'⟩, ?_⟩
    rintro v H' ⟨T, x, rfl, hT, rfl, hx⟩
    exact hs i x σ H T (hx xs q) p hT
  · have e : i = xs.length := by omega
    subst e
    exact .inl ⟨⟨xs, q, rfl⟩, hd σ H p⟩
theorem for_enumL (Pv : Nat → L2.St → Hp → Prop) (h0 : Pv 0 σ H) (hl : ∀ i σ H, i ≤ xs.length → Pv i σ H → SqL K H a xs)
    (hs : ∀ i x σ H T, xs[i]? = some x → Pv i σ H → H T = none → g (.ref T) σ (upd H T (.tup [.int (i : Nat), x])) fun σ2 H2 => tb { D with nx := Pv (i + 1), ct := Pv (i + 1), bk := D.nx } σ2 H2)
    (hd : ∀ σ H, Pv xs.length σ H → D.nx σ H) :
    ∃ W : Nat → Nat → L2.St → Hp → Prop, (∃ m, W 0 m σ H) ∧ ∀ i m σ H, W i m σ H →
      ((Ite K a).stop i H ∧ D.nx σ H) ∨ ((Ite K a).go i H ∧ ∃ N : L2.St → Hp → Prop, (∀ σ' H', N σ' H' → ∃ m', m' < m ∧ W (i + 1) m' σ' H') ∧
        ∀ x H', (Ite K a).yld i H x H' → g x σ H' fun σ2 H2 => tb { D with nx := N, ct := N, bk := D.nx } σ2 H2) := by
  refine ⟨fun i m σ H => m = xs.length - i ∧ i ≤ xs.length ∧ Pv i σ H, ⟨xs.length, by simp, Nat.zero_le _, h0⟩, ?_⟩
  rintro i m σ H ⟨rfl, hi, p⟩
  have q := hl i σ H hi p
  by_cases hlt : i < xs.length
  · refine .inr ⟨⟨xs, xs[i], q, by simp [hlt]⟩, Pv (i + 1), fun σ' H' p' => ⟨xs.length - (i + 1), by omega, rfl, hlt, p'⟩, ?_⟩
    rintro v H' ⟨T, x, rfl, hT, rfl, hx⟩
    exact hs i x σ H T (hx xs q) p hT
  · have e : i = xs.length := by omega
    subst e
    exact .inl ⟨⟨xs, q, Nat.le_refl _⟩, hd σ H p⟩
end
end En
/-! Tb: lists of lists that change. -/
namespace Tb
open PySem PySem.Spec PyProof.Rows L2 Gd Bx Cl Sx

/-- what is said of a row stays while its list stays -/
def Stab {α : Type} (R : Hp → Addr → α → Prop) : Prop := ∀ (M : List Addr) (H H' : Hp) (a : Addr) (r : α), Ext M H H' → a ∉ M → R H a r → R H' a r
/-- a row is there: a list -/
def There {α : Type} (R : Hp → Addr → α → Prop) : Prop := ∀ (H : Hp) (a : Addr) (r : α), R H a r → ∃ xs, H a = some (.lst xs)
/-- a list of values -/
def RV : Hp → Addr → List V → Prop := fun H a r => H a = some (.lst r)
/-- a list of tuples of ints -/
def RT (K : PySem.W.Frag) : Hp → Addr → List Rw → Prop := fun H a r => ∃ xs, H a = some (.lst xs) ∧ Ims K H (r.map rowD) xs
theorem stab_RV : Stab RV := fun M H H' a r e hm h => e.keep _ _ h hm
theorem stab_RT {K : PySem.W.Frag} : Stab (RT K) := fun M H H' a r e hm ⟨xs, h1, h2⟩ => ⟨xs, e.keep _ _ h1 hm, h2.ext e⟩
theorem there_RV : There RV := fun H a r h => ⟨r, h⟩
theorem there_RT {K : PySem.W.Frag} : There (RT K) := fun H a r ⟨xs, h, _⟩ => ⟨xs, h⟩

structure LoL {α : Type} (R : Hp → Addr → α → Prop) (H : Hp) (q : Addr) (as : List Addr) (t : List α) : Prop where
  top : H q = some (.lst (as.map V.ref))
  len : as.length = t.length
  nd : as.Nodup
  qn : q ∉ as
  row : ∀ (i : Nat) (a : Addr) (r : α), as[i]? = some a → t[i]? = some r → R H a r
section
variable {α : Type} {R : Hp → Addr → α → Prop} {H H' : Hp} {q : Addr} {as : List Addr} {t : List α}
theorem LoL.nil (h : H q = some (.lst [])) : LoL R H q [] [] := ⟨h, rfl, List.nodup_nil, (fun z => nomatch z), fun i a r h => by simp at h⟩
theorem LoL.at (L : LoL R H q as t) {i : Nat} {r : α} (h : t[i]? = some r) : ∃ a, (as.map V.ref)[i]? = some (.ref a) ∧ as[i]? = some a ∧ a ∈ as ∧ R H a r := by
  have hi : i < t.length := (List.getElem?_eq_some_iff.mp h).1
  have hj : i < as.length := by rw [L.len]; exact hi
  have e : as[i]? = some as[i] := List.getElem?_eq_getElem hj
  exact ⟨as[i], by rw [List.getElem?_map, e]; rfl, e, List.getElem_mem hj, L.row i _ _ e h⟩
theorem LoL.ext (s : Stab R) (L : LoL R H q as t) {M : List Addr} (e : Ext M H H') (h1 : q ∉ M) (h2 : ∀ a ∈ as, a ∉ M) : LoL R H' q as t :=
  ⟨e.keep _ _ L.top h1, L.len, L.nd, L.qn, fun i a r ha hr => s M H H' a r e (h2 a (List.mem_of_getElem? ha)) (L.row i a r ha hr)⟩
/-- one row is made another -/
theorem LoL.put (s : Stab R) (L : LoL R H q as t) {i : Nat} {a : Addr} {r : α} (ha : as[i]? = some a) (e : Ext [a] H H') (hr : R H' a r) : LoL R H' q as (t.set i r) := by
  have hq : q ≠ a := fun z => L.qn (z ▸ List.mem_of_getElem? ha)
  refine ⟨e.keep _ _ L.top (by simpa using hq), by rw [List.length_set]; exact L.len, L.nd, L.qn, fun j b r' hb hr' => ?_⟩
  by_cases hj : j = i
  · subst hj
    rw [ha] at hb
    cases hb
    have hi : j < t.length := by
      have := (List.getElem?_eq_some_iff.mp ha).1
      rw [L.len] at this
      exact this
    rw [List.getElem?_set_self hi] at hr'
    cases hr'
    exact hr
  · rw [List.getElem?_set_ne (Ne.symm hj)] at hr'
    have nb : b ≠ a := fun z => by
      obtain ⟨h1, e1⟩ := List.getElem?_eq_some_iff.mp hb
      obtain ⟨h2, e2⟩ := List.getElem?_eq_some_iff.mp ha
      exact hj ((List.getElem_inj L.nd).mp (e1.trans (z.trans e2.symm)))
    exact s [a] H H' b r' e (by simpa using nb) (L.row j b r' hb hr')
/-- one row more, a new list -/
theorem LoL.push (s : Stab R) (L : LoL R H q as t) {a : Addr} {o : HO} {H1 : Hp} {r : α} (ha : H a = none) (e : Ext [] H H1) (hth : There R)
    (hr : R (upd H1 q (.lst ((as.map V.ref) ++ [.ref a]))) a r) (hq1 : H1 q = some (.lst (as.map V.ref))) : LoL R (upd H1 q (.lst ((as.map V.ref) ++ [.ref a]))) q (as ++ [a]) (t ++ [r]) := by
  have hqa : q ≠ a := fun z => by
    rw [← z, L.top] at ha
    cases ha
  have hna : a ∉ as := fun z => by
    obtain ⟨i, hi, e1⟩ := List.mem_iff_getElem.mp z
    have h1 : as[i]? = some a := by rw [List.getElem?_eq_getElem hi, e1]
    have h2 : i < t.length := by rw [← L.len]; exact hi
    obtain ⟨xs, h3⟩ := hth _ _ _ (L.row i a t[i] h1 (List.getElem?_eq_getElem h2))
    rw [ha] at h3
    cases h3
  have ew : Ext [q] H1 (upd H1 q (.lst ((as.map V.ref) ++ [.ref a]))) := Ext.write hq1 trivial List.mem_cons_self
  refine ⟨by rw [upd_same, List.map_append]; rfl, by simp [L.len], ?_, ?_, fun i b r' hb hr' => ?_⟩
  · exact List.nodup_append.mpr ⟨L.nd, by simp, fun x hx y hy => by
      rw [List.mem_singleton.mp hy]
      intro z
      exact hna (by rw [← z]; exact hx)⟩
  · simp
    exact ⟨L.qn, hqa⟩
  · by_cases hi : i < as.length
    · rw [List.getElem?_append_left hi] at hb
      rw [List.getElem?_append_left (by rw [← L.len]; exact hi)] at hr'
      have hbm := List.mem_of_getElem? hb
      have hne : b ≠ q := fun z => L.qn (by rw [← z]; exact hbm)
      exact s [q] _ _ b r' ew (by simpa using hne) (s [] _ _ b r' e (by simp) (L.row i b r' hb hr'))
    · rw [List.getElem?_append_right (by omega)] at hb
      rw [List.getElem?_append_right (by rw [← L.len]; omega)] at hr'
      have h0 : i - as.length = 0 := by
        have := (List.getElem?_eq_some_iff.mp hb).1
        simp at this
        omega
      rw [h0] at hb
      rw [← L.len, h0] at hr'
      simp at hb hr'
      subst hb hr'
      exact hr
end
/-- a new thing is none of them -/
theorem LoL.off {α : Type} {R : Hp → Addr → α → Prop} {H : Hp} {q : Addr} {as : List Addr} {t : List α} (hth : There R) (L : LoL R H q as t) {x : Addr} (h : H x = none) : q ≠ x ∧ x ∉ as := by
  refine ⟨fun z => ?_, fun z => ?_⟩
  · rw [← z, L.top] at h
    cases h
  · obtain ⟨i, hi, e1⟩ := List.mem_iff_getElem.mp z
    have h1 : as[i]? = some x := by rw [List.getElem?_eq_getElem hi, e1]
    have h2 : i < t.length := by rw [← L.len]; exact hi
    obtain ⟨xs, h3⟩ := hth _ _ _ (L.row i x t[i] h1 (List.getElem?_eq_getElem h2))
    rw [h] at h3
    cases h3
/-- a new thing is written -/
theorem _root_.Bx.Ext.wr {M : List Addr} {H H1 : Hp} {p : Addr} {o o' : HO} (e : Ext M H H1) (hn : H p = none) (h : H1 p = some o) (w : Wr o) : Ext M H (upd H1 p o') :=
  ((e.mono (M' := p :: M) fun a h => List.mem_cons_of_mem _ h).trans (Ext.write h w List.mem_cons_self)).drop hn
/-- a value appended to a list of tuples -/
theorem RT.snoc {K : PySem.W.Frag} {H : Hp} {a t : Addr} {r : List Rw} {x : Rw} {xs : List V} (h1 : H a = some (.lst xs)) (h2 : Ims K H (r.map rowD) xs) (ht : H t = some (.tup (x.map V.int))) :
    RT K (upd H a (.lst (xs ++ [.ref t]))) a (r ++ [x]) := by
  refine ⟨_, upd_same, ?_⟩
  have e : Ext [a] H (upd H a (.lst (xs ++ [.ref t]))) := Ext.write h1 trivial List.mem_cons_self
  rw [List.map_append]
  exact (h2.ext e).append (.one (Im.of_tints (e.tups _ _ ht)))
end Tb
/-! Wy: ways through a net and their greatest lags, in plain Lean. -/
namespace Wy
open PySem PySem.Spec PyProof.Rows L2 Gd Bx Cl Sx

inductive Way (S : List Rw) (u : Int) : Int → Int → Int → Prop
  | nil : Way S u u 0 0
  | snoc {w v d l d' l' : Int} : Way S u w d l → [w, v, d', l'] ∈ S → Way S u v (d + d') (l + l')
/-- what the steps of a net keep to -/
structure StepsOf (n : Nat) (S : List Rw) : Prop where
  four : ∀ r ∈ S, ∃ u v d l, r = [u, v, d, l]
  ok : ∀ u v d l, [u, v, d, l] ∈ S → 0 ≤ u ∧ u < n ∧ 0 ≤ v ∧ v < n ∧ 0 ≤ d ∧ d ≤ 40 ∧ 0 ≤ l ∧ l ≤ 40 ∧ (0 < d ∨ u < v)
def loops (n : Nat) : List Rw := (List.range n).map fun (i : Nat) => [(i : Int), (i : Int), 1, 0]
section
variable {S S' : List Rw} {u v w f g l m : Int} {n : Nat}
theorem Way.dist0 (ok : StepsOf n S) (h : Way S u v f l) : 0 ≤ f := by
  induction h with
  | nil => exact Int.le_refl 0
  | snoc _ hs ih =>
    have := ok.ok _ _ _ _ hs
    omega
theorem Way.lag0 (ok : StepsOf n S) (h : Way S u v f l) : 0 ≤ l := by
  induction h with
  | nil => exact Int.le_refl 0
  | snoc _ hs ih =>
    have := ok.ok _ _ _ _ hs
    omega
theorem Way.bound (ok : StepsOf n S) (n8 : n ≤ 8) (h : Way S u v f l) : l ≤ 40 * (8 * f + v - u) := by
  induction h with
  | nil => omega
  | snoc _ hs ih =>
    have := ok.ok _ _ _ _ hs
    omega
theorem Way.last (h : Way S u v f l) : (v = u ∧ f = 0 ∧ l = 0) ∨ ∃ w d l2 l1, [w, v, d, l2] ∈ S ∧ Way S u w (f - d) l1 ∧ l = l1 + l2 := by
  cases h with
  | nil => exact .inl ⟨rfl, rfl, rfl⟩
  | snoc h hs => exact .inr ⟨_, _, _, _, hs, by rw [Int.add_sub_cancel]; exact h, rfl⟩
theorem Way.step {d l2 l1 : Int} (hs : [w, v, d, l2] ∈ S) (h : Way S u w (f - d) l1) : Way S u v f (l1 + l2) := by
  have := Way.snoc h hs
  rw [Int.sub_add_cancel] at this
  exact this
theorem Way.join (a : Way S u v f l) (b : Way S v w g m) : Way S u w (f + g) (l + m) := by
  induction b with
  | nil => rw [Int.add_zero, Int.add_zero]; exact a
  | snoc _ hs ih =>
    have := Way.snoc ih hs
    rw [Int.add_assoc, Int.add_assoc] at this
    exact this
theorem Way.mono (h : Way S u v f l) (hs : ∀ r ∈ S, r ∈ S') : Way S' u v f l := by
  induction h with
  | nil => exact .nil
  | snoc _ h ih => exact .snoc ih (hs _ h)
theorem Way.dom (h : Way S u v f l) (hs : ∀ u v d l, [u, v, d, l] ∈ S → ∃ l', l ≤ l' ∧ [u, v, d, l'] ∈ S') : ∃ l', l ≤ l' ∧ Way S' u v f l' := by
  induction h with
  | nil => exact ⟨0, Int.le_refl 0, .nil⟩
  | snoc _ h ih =>
    obtain ⟨a, ha, wa⟩ := ih
    obtain ⟨b, hb, mb⟩ := hs _ _ _ _ h
    exact ⟨a + b, by omega, .snoc wa mb⟩
end
/-! ### the greatest -/
def Great (L : Int → Prop) : Option Int → Prop
  | none => ∀ l, ¬ L l
  | some m => L m ∧ ∀ l, L l → l ≤ m
def omax : Option Int → Option Int → Option Int
  | none, b => b
  | some a, none => some a
  | some a, some b => some (if b > a then b else a)
section
variable {L M : Int → Prop} {o p : Option Int}
theorem Great.one (a : Great L o) (b : Great L p) : o = p := by
  cases o with
  | none =>
    cases p with
    | none => rfl
    | some y => exact absurd b.1 (a y)
  | some x =>
    cases p with
    | none => exact absurd a.1 (b x)
    | some y => rw [Int.le_antisymm (b.2 _ a.1) (a.2 _ b.1)]
theorem Great.congr (h : ∀ l, L l ↔ M l) (a : Great L o) : Great M o := by
  cases o with
  | none => exact fun l hl => a l ((h l).mpr hl)
  | some x => exact ⟨(h x).mp a.1, fun l hl => a.2 l ((h l).mpr hl)⟩
theorem Great.or (a : Great L o) (b : Great M p) : Great (fun l => L l ∨ M l) (omax o p) := by
  cases o with
  | none =>
    cases p with
    | none => exact fun l hl => hl.elim (a l) (b l)
    | some y => exact ⟨.inr b.1, fun l hl => hl.elim (fun z => absurd z (a l)) (b.2 l)⟩
  | some x =>
    cases p with
    | none => exact ⟨.inl a.1, fun l hl => hl.elim (a.2 l) (fun z => absurd z (b l))⟩
    | some y =>
      show (_ ∨ _) ∧ _
      by_cases c : y > x
      · rw [if_pos c]
        exact ⟨.inr b.1, fun l hl => hl.elim (fun z => by have := a.2 l z; omega) (b.2 l)⟩
      · rw [if_neg c]
        exact ⟨.inl a.1, fun l hl => hl.elim (a.2 l) (fun z => by have := b.2 l z; omega)⟩
theorem Great.shift (a : Great L o) (c : Int) : Great (fun l => ∃ l1, L l1 ∧ l = l1 + c) (o.map (· + c)) := by
  cases o with
  | none => exact fun l ⟨l1, h, _⟩ => a l1 h
  | some x => exact ⟨⟨x, a.1, rfl⟩, fun l ⟨l1, h, e⟩ => by have := a.2 l1 h; show l ≤ x + c; omega⟩
end
/-- a set of steps and the greatest of them, have the same greatest lags -/
def Dom (S S' : List Rw) : Prop := (∀ r ∈ S', r ∈ S) ∧ ∀ u v d l, [u, v, d, l] ∈ S → ∃ l', l ≤ l' ∧ [u, v, d, l'] ∈ S'
theorem Great.dom {S S' : List Rw} {u v f : Int} {o p : Option Int} (h : Dom S S') (a : Great (Way S u v f) o) (b : Great (Way S' u v f) p) : o = p := by
  cases o with
  | none =>
    cases p with
    | none => rfl
    | some y => exact absurd (b.1.mono h.1) (a y)
  | some x =>
    obtain ⟨x', hx, wx⟩ := a.1.dom h.2
    cases p with
    | none => exact absurd wx (b x')
    | some y =>
      have h1 := b.2 _ wx
      have h2 := a.2 _ (b.1.mono h.1)
      have : x = y := by omega
      rw [this]
theorem maxLag_ex : ∀ {arcs : List Rw} {u v d y : Int}, [u, v, d, y] ∈ arcs → ∃ g, MaxLag arcs u v d g := by
  intro as
  induction as with
  | nil => intro u v d y h; cases h
  | cons a as ih =>
    intro u v d y h
    by_cases hex : ∃ y', [u, v, d, y'] ∈ as
    · obtain ⟨y', h'⟩ := hex
      obtain ⟨g, g1, g2⟩ := ih h'
      by_cases ha : ∃ z, a = [u, v, d, z] ∧ g ≤ z
      · obtain ⟨z, rfl, hz⟩ := ha
        exact ⟨z, List.mem_cons_self, fun x hx => (List.mem_cons.mp hx).elim (fun e => by simp at e; omega) fun e => Int.le_trans (g2 x e) hz⟩
      · refine ⟨g, List.mem_cons_of_mem _ g1, fun x hx => (List.mem_cons.mp hx).elim (fun e => ?_) (g2 x)⟩
        by_cases q : g ≤ x
        · exact absurd ⟨x, e.symm, q⟩ ha
        · omega
    · rcases List.mem_cons.mp h with e | e
      · refine ⟨y, by rw [e]; exact List.mem_cons_self, fun x hx => (List.mem_cons.mp hx).elim (fun f => ?_) fun f => absurd ⟨x, f⟩ hex⟩
        rw [← e] at f
        simp at f
        omega
      · exact absurd ⟨y, e⟩ hex
theorem Dom.kept {arcs A : List Rw} (k : Kept arcs A) (n : Nat) : Dom (arcs ++ loops n) (A ++ loops n) := by
  refine ⟨fun r hr => ?_, fun u v d l h => ?_⟩
  · rcases List.mem_append.mp hr with hr | hr
    · obtain ⟨u, v, d, l, rfl, m⟩ := (k.mem r).mp hr
      exact List.mem_append_left _ m.1
    · exact List.mem_append_right _ hr
  · rcases List.mem_append.mp h with hr | hr
    · obtain ⟨g, hg⟩ := maxLag_ex hr
      exact ⟨g, hg.2 _ hr, List.mem_append_left _ ((k.mem _).mpr ⟨u, v, d, g, rfl, hg⟩)⟩
    · exact ⟨l, Int.le_refl l, List.mem_append_right _ hr⟩
theorem loops_mem {n : Nat} {r : Rw} : r ∈ loops n ↔ ∃ i : Nat, i < n ∧ r = [(i : Int), (i : Int), 1, 0] := by
  unfold loops
  simp only [List.mem_map, List.mem_range]
  exact ⟨fun ⟨i, a, b⟩ => ⟨i, a, b.symm⟩, fun ⟨i, a, b⟩ => ⟨i, a, b.symm⟩⟩
theorem Great.join {S : List Rw} {u v w f g a b : Int} {o : Option Int} (h1 : Great (Way S u v f) (some a)) (h2 : Great (Way S v w g) (some b)) (h3 : Great (Way S u w (f + g)) o) : ∃ c, o = some c ∧ a + b ≤ c := by
  have := h1.1.join h2.1
  cases o with
  | none => exact absurd this (h3 _)
  | some c => exact ⟨c, rfl, h3.2 _ this⟩
/-! ### pulled: the ways into v, by their last step -/
def PullC (S : List Rw) (u v far : Int) (T : List Rw) (l : Int) : Prop :=
  (v = u ∧ far = 0 ∧ l = 0) ∨ ∃ d w l2 l1, [d, w, l2] ∈ T ∧ Way S u w (far - d) l1 ∧ l = l1 + l2
/-- the steps into v -/
def IntoV (S : List Rw) (v : Int) (T : List Rw) : Prop := ∀ x, x ∈ T ↔ ∃ d w l, x = [d, w, l] ∧ [w, v, d, l] ∈ S
section
variable {S T : List Rw} {u v far : Int} {n : Nat}
theorem pull_nil : Great (PullC S u v far []) (if far = 0 ∧ v = u then some 0 else none) := by
  by_cases c : far = 0 ∧ v = u
  · rw [if_pos c]
    refine ⟨.inl ⟨c.2, c.1, rfl⟩, fun l hl => ?_⟩
    rcases hl with ⟨_, _, e⟩ | ⟨_, _, _, _, h, _⟩
    · omega
    · cases h
  · rw [if_neg c]
    intro l hl
    rcases hl with ⟨a, b, e⟩ | ⟨_, _, _, _, h, _⟩
    · exact c ⟨b, a⟩
    · cases h
theorem pull_snoc {d w l2 : Int} (l : Int) : (PullC S u v far T l ∨ ∃ l1, Way S u w (far - d) l1 ∧ l = l1 + l2) ↔ PullC S u v far (T ++ [[d, w, l2]]) l := by
  constructor
  · rintro ((h | ⟨d', w', l2', l1, h1, h2, h3⟩) | ⟨l1, h2, h3⟩)
    · exact .inl h
    · exact .inr ⟨d', w', l2', l1, List.mem_append_left _ h1, h2, h3⟩
    · exact .inr ⟨d, w, l2, l1, List.mem_append_right _ List.mem_cons_self, h2, h3⟩
  · rintro (h | ⟨d', w', l2', l1, h1, h2, h3⟩)
    · exact .inl (.inl h)
    · rcases List.mem_append.mp h1 with h1 | h1
      · exact .inl (.inr ⟨d', w', l2', l1, h1, h2, h3⟩)
      · have e := List.mem_singleton.mp h1
        simp at e
        obtain ⟨rfl, rfl, rfl⟩ := e
        exact .inr ⟨l1, h2, h3⟩
theorem pull_all (h : IntoV S v T) (l : Int) : PullC S u v far T l ↔ Way S u v far l := by
  constructor
  · rintro (⟨rfl, rfl, rfl⟩ | ⟨d, w, l2, l1, h1, h2, rfl⟩)
    · exact .nil
    · obtain ⟨d', w', l', e, hs⟩ := (h _).mp h1
      simp at e
      obtain ⟨rfl, rfl, rfl⟩ := e
      exact Way.step hs h2
  · intro hw
    rcases hw.last with ⟨a, b, c⟩ | ⟨w, d, l2, l1, hs, h2, e⟩
    · exact .inl ⟨a, b, c⟩
    · exact .inr ⟨d, w, l2, l1, (h _).mpr ⟨d, w, l2, rfl, hs⟩, h2, e⟩
theorem cons_le {a b : Int} {x y : Rw} (h : (a :: x : Rw) ≤ b :: y) : a ≤ b := by
  by_cases c : b < a
  · exfalso
    refine h ?_
    show (b :: y : List Int) < a :: x
    exact List.Lex.rel c
  · omega
/-- past the first step that is too far none is near -/
theorem pull_break (ok : StepsOf n S) (hs : T.Pairwise fun a b => a ≤ b) {i : Nat} {d : Int} {r : Rw} (hi : T[i]? = some (d :: r)) (hd : far < d) (l : Int) :
    PullC S u v far (T.take i) l ↔ PullC S u v far T l := by
  constructor
  · rintro (h | ⟨d', w, l2, l1, h1, h2, h3⟩)
    · exact .inl h
    · exact .inr ⟨d', w, l2, l1, List.mem_of_mem_take h1, h2, h3⟩
  · rintro (h | ⟨d', w, l2, l1, h1, h2, h3⟩)
    · exact .inl h
    · refine .inr ⟨d', w, l2, l1, ?_, h2, h3⟩
      have hf := h2.dist0 ok
      obtain ⟨j, hj⟩ := List.mem_iff_getElem?.mp h1
      have hlt : j < i := by
        by_cases q : j < i
        · exact q
        · exfalso
          have hij : i ≤ j := by omega
          obtain ⟨hi1, hi2⟩ := List.getElem?_eq_some_iff.mp hi
          obtain ⟨hj1, hj2⟩ := List.getElem?_eq_some_iff.mp hj
          have : d ≤ d' := by
            by_cases e : i = j
            · subst e
              rw [hi] at hj
              simp at hj
              omega
            · have := List.pairwise_iff_getElem.mp hs i j hi1 hj1 (by omega)
              rw [hi2, hj2] at this
              exact cons_le this
          omega
      exact List.mem_iff_getElem?.mpr ⟨j, by rw [List.getElem?_take_of_lt hlt]; exact hj⟩
end
/-! ### pushed: the ways to v whose last step was taken -/
def PushC (S : List Rw) (u F v : Int) (B : Int → Int → Rw → Prop) (l : Int) : Prop :=
  (v = u ∧ F = 0 ∧ l = 0) ∨ ∃ w d l2 l1, [w, v, d, l2] ∈ S ∧ B (F - d) w [v, d, l2] ∧ Way S u w (F - d) l1 ∧ l = l1 + l2
/-- the steps taken: all from before (far, row), and those of T from there -/
def Bf (far row : Int) (T : List Rw) : Int → Int → Rw → Prop := fun f w s => f < far ∨ (f = far ∧ (w < row ∨ (w = row ∧ s ∈ T)))
def OutV (S : List Rw) (w : Int) (T : List Rw) : Prop := ∀ x, x ∈ T ↔ ∃ v d l, x = [v, d, l] ∧ [w, v, d, l] ∈ S
section
variable {S T : List Rw} {u v F far row : Int} {n : Nat}
theorem push_mono {B B' : Int → Int → Rw → Prop} (h : ∀ f w s, B f w s → B' f w s) (l : Int) : PushC S u F v B l → PushC S u F v B' l := by
  rintro (h1 | ⟨w, d, l2, l1, h1, h2, h3, h4⟩)
  · exact .inl h1
  · exact .inr ⟨w, d, l2, l1, h1, h _ _ _ h2, h3, h4⟩
theorem push_nil (ok : StepsOf n S) : Great (PushC S u F v (Bf 0 0 [])) (if F = 0 ∧ v = u then some 0 else none) := by
  have none : ∀ w d l2 l1, [w, v, d, l2] ∈ S → Bf 0 0 [] (F - d) w [v, d, l2] → Way S u w (F - d) l1 → False := by
    intro w d l2 l1 h1 h2 h3
    have := h3.dist0 ok
    have hw := ok.ok _ _ _ _ h1
    rcases h2 with h | ⟨_, h | ⟨_, h⟩⟩
    · omega
    · omega
    · cases h
  by_cases c : F = 0 ∧ v = u
  · rw [if_pos c]
    refine ⟨.inl ⟨c.2, c.1, rfl⟩, fun l hl => ?_⟩
    rcases hl with ⟨_, _, e⟩ | ⟨w, d, l2, l1, h1, h2, h3, _⟩
    · omega
    · exact (none w d l2 l1 h1 h2 h3).elim
  · rw [if_neg c]
    intro l hl
    rcases hl with ⟨a, b, e⟩ | ⟨w, d, l2, l1, h1, h2, h3, _⟩
    · exact c ⟨b, a⟩
    · exact none w d l2 l1 h1 h2 h3
/-- at its turn a cell is right -/
theorem push_here (ok : StepsOf n S) (l : Int) : PushC S u far row (Bf far row []) l ↔ Way S u row far l := by
  constructor
  · rintro (⟨rfl, rfl, rfl⟩ | ⟨w, d, l2, l1, h1, _, h3, rfl⟩)
    · exact .nil
    · exact Way.step h1 h3
  · intro hw
    rcases hw.last with ⟨a, b, c⟩ | ⟨w, d, l2, l1, hs, h2, e⟩
    · exact .inl ⟨a, b, c⟩
    · refine .inr ⟨w, d, l2, l1, hs, ?_, h2, e⟩
      have := ok.ok _ _ _ _ hs
      by_cases hd : d = 0
      · exact .inr ⟨by omega, .inl (by omega)⟩
      · exact .inl (by omega)
/-- one step more: its own cell -/
theorem push_to {e d l2 : Int} (hs : [row, e, d, l2] ∈ S) (l : Int) :
    (PushC S u (far + d) e (Bf far row T) l ∨ ∃ l1, Way S u row far l1 ∧ l = l1 + l2) ↔ PushC S u (far + d) e (Bf far row (T ++ [[e, d, l2]])) l := by
  constructor
  · rintro (h | ⟨l1, h2, h3⟩)
    · exact push_mono (fun f w s h => h.elim .inl fun ⟨a, b⟩ => .inr ⟨a, b.elim .inl fun ⟨c, d⟩ => .inr ⟨c, List.mem_append_left _ d⟩⟩) l h
    · refine .inr ⟨row, d, l2, l1, hs, .inr ⟨by omega, .inr ⟨rfl, List.mem_append_right _ List.mem_cons_self⟩⟩, ?_, h3⟩
      rw [Int.add_sub_cancel]
      exact h2
  · rintro (h | ⟨w, d', l2', l1, h1, h2, h3, h4⟩)
    · exact .inl (.inl h)
    · rcases h2 with h | ⟨h, g | ⟨g, k⟩⟩
      · exact .inl (.inr ⟨w, d', l2', l1, h1, .inl h, h3, h4⟩)
      · exact .inl (.inr ⟨w, d', l2', l1, h1, .inr ⟨h, .inl g⟩, h3, h4⟩)
      · rcases List.mem_append.mp k with k | k
        · exact .inl (.inr ⟨w, d', l2', l1, h1, .inr ⟨h, .inr ⟨g, k⟩⟩, h3, h4⟩)
        · have e := List.mem_singleton.mp k
          simp at e
          obtain ⟨rfl, rfl⟩ := e
          rw [Int.add_sub_cancel] at h3
          subst g
          exact .inr ⟨l1, h3, h4⟩
/-- .. and all others, and all if the step leads from nowhere -/
theorem push_off {e d l2 : Int} (hne : ¬ (F = far + d ∧ v = e) ∨ ∀ l, ¬ Way S u row far l) (l : Int) :
    PushC S u F v (Bf far row T) l ↔ PushC S u F v (Bf far row (T ++ [[e, d, l2]])) l := by
  constructor
  · exact push_mono (fun f w s h => h.elim .inl fun ⟨a, b⟩ => .inr ⟨a, b.elim .inl fun ⟨c, d⟩ => .inr ⟨c, List.mem_append_left _ d⟩⟩) l
  · rintro (h | ⟨w, d', l2', l1, h1, h2, h3, h4⟩)
    · exact .inl h
    · refine .inr ⟨w, d', l2', l1, h1, ?_, h3, h4⟩
      rcases h2 with h | ⟨h, g | ⟨g, k⟩⟩
      · exact .inl h
      · exact .inr ⟨h, .inl g⟩
      · rcases List.mem_append.mp k with k | k
        · exact .inr ⟨h, .inr ⟨g, k⟩⟩
        · exfalso
          have e := List.mem_singleton.mp k
          simp at e
          obtain ⟨rfl, rfl, rfl⟩ := e
          rcases hne with hne | hne
          · exact hne ⟨by omega, rfl⟩
          · rw [h, g] at h3
            exact hne _ h3
/-- the next row's turn -/
theorem push_row (hT : OutV S row T) (l : Int) : PushC S u F v (Bf far row T) l ↔ PushC S u F v (Bf far (row + 1) []) l := by
  constructor
  · rintro (h | ⟨w, d', l2', l1, h1, h2, h3, h4⟩)
    · exact .inl h
    · refine .inr ⟨w, d', l2', l1, h1, ?_, h3, h4⟩
      rcases h2 with h | ⟨h, g | ⟨g, k⟩⟩
      · exact .inl h
      · exact .inr ⟨h, .inl (by omega)⟩
      · exact .inr ⟨h, .inl (by omega)⟩
  · rintro (h | ⟨w, d', l2', l1, h1, h2, h3, h4⟩)
    · exact .inl h
    · refine .inr ⟨w, d', l2', l1, h1, ?_, h3, h4⟩
      rcases h2 with h | ⟨h, g | ⟨g, k⟩⟩
      · exact .inl h
      · by_cases c : w < row
        · exact .inr ⟨h, .inl c⟩
        · have e : w = row := by omega
          exact .inr ⟨h, .inr ⟨e, (hT _).mpr ⟨v, d', l2', rfl, by rw [← e]; exact h1⟩⟩⟩
      · cases k
/-- the next distance's turn -/
theorem push_far (ok : StepsOf n S) (l : Int) : PushC S u F v (Bf far n []) l ↔ PushC S u F v (Bf (far + 1) 0 []) l := by
  constructor
  · rintro (h | ⟨w, d', l2', l1, h1, h2, h3, h4⟩)
    · exact .inl h
    · refine .inr ⟨w, d', l2', l1, h1, ?_, h3, h4⟩
      rcases h2 with h | ⟨h, g | ⟨g, k⟩⟩
      · exact .inl (by omega)
      · exact .inl (by omega)
      · cases k
  · rintro (h | ⟨w, d', l2', l1, h1, h2, h3, h4⟩)
    · exact .inl h
    · refine .inr ⟨w, d', l2', l1, h1, ?_, h3, h4⟩
      have := ok.ok _ _ _ _ h1
      rcases h2 with h | ⟨h, g | ⟨g, k⟩⟩
      · by_cases c : F - d' < far
        · exact .inl c
        · exact .inr ⟨by omega, .inl (by omega)⟩
      · omega
      · cases k
/-- at the end all cells are right -/
theorem push_end (ok : StepsOf n S) (hF : F < far) (l : Int) : PushC S u F v (Bf far 0 []) l ↔ Way S u v F l := by
  constructor
  · rintro (⟨rfl, rfl, rfl⟩ | ⟨w, d, l2, l1, h1, _, h3, rfl⟩)
    · exact .nil
    · exact Way.step h1 h3
  · intro hw
    rcases hw.last with ⟨a, b, c⟩ | ⟨w, d, l2, l1, hs, h2, e⟩
    · exact .inl ⟨a, b, c⟩
    · have := ok.ok _ _ _ _ hs
      exact .inr ⟨w, d, l2, l1, hs, .inl (by omega), h2, e⟩
theorem push_lag0 (ok : StepsOf n S) {B : Int → Int → Rw → Prop} {l : Int} (h : PushC S u F v B l) : 0 ≤ l := by
  rcases h with ⟨_, _, e⟩ | ⟨w, d, l2, l1, h1, _, h3, rfl⟩
  · omega
  · have := h3.lag0 ok
    have := ok.ok _ _ _ _ h1
    omega
end
def oV : Option Int → V
  | none => .non
  | some m => .int m
def oI : Option Int → Int
  | none => -1
  | some m => m
end Wy
/-! Kx: calls with keywords alone; own exceptions that have a field: made, caught, asked. -/
namespace Kx
open PySem PySem.Spec PyProof.Rows L2 Gd Bx Cl

/-- a def of the text that keeps its promise -/
def CalleeF (P : Program) (w : World) (K : PySem.W.Frag) (mg : Str → Option Value) (base : Heap) (CX : CXT) (k : Nat) (x : Str) (st : Stmt) (ps : List Str) (sp : Sp) : Prop :=
  ∃ (f : Addr) (fd : FuncData), mg x = some (.ref f) ∧ FnP K x x st f fd ∧ FnG P w K mg base CX k f fd ps sp
/-- .. called with keywords ks alone, g their order's change -/
def CalleeK (P : Program) (w : World) (K : PySem.W.Frag) (mg : Str → Option Value) (base : Heap) (CX : CXT) (k : Nat) (x : Str) (ps ks : List Str) (sp : Sp) : Prop :=
  ∃ (f : Addr) (fd : FuncData), mg x = some (.ref f) ∧ PySem.W.keepIn K (.ref f) = true ∧
    (∀ (s : Shared) (ws : List Value), ws.length = ks.length → BindsTo s fd ⟨[], ks.zip ws⟩ (ps.zip ws.reverse)) ∧ FnG P w K mg base CX k f fd ps sp
section
variable {P : Program} {w : World} {K : PySem.W.Frag} {mg : Str → Option Value} {base : Heap} {x : Str} {st : Stmt} {N ps ks : List Str} {k : Nat} {sp : Sp} {CX : CXT}
theorem calleeF_of (D : Def K mg x st) (S : FnScope N ps (defScope st)) (len : ∀ vs H Q E, sp vs H Q E → vs.length = ps.length)
    (hbody : ∀ (f : Addr) (cdv : Value) (A : Around) (outer : List Env) (s : Shared) (H : Hp) (vs : List V) (Q : VK) (E : XK),
      RoomG k (A.deeper (envOfC x (defScope st) s.heap.objs.size f cdv)) → sp vs H Q E →
        ∃ t, PSs (cxOf CX P w K mg base N x (defScope st) f cdv A outer s H E) (defBody st) t ∧ t { nx := fun _ H' => Q .non H', rt := Q } (start N vs) H) :
    CalleeF P w K mg base CX (k + 1) x st ps sp := by
  obtain ⟨f, fd, hm, F⟩ := D
  exact ⟨f, fd, hm, F, FunD_okG F S len fun cdv A outer s H vs Q E hr h => hbody f cdv A outer s H vs Q E hr h⟩
theorem calleeF_of0 (D : Def K mg x st) (S : FnScope N ps (defScope st)) (len : ∀ vs H Q E, sp vs H Q E → vs.length = ps.length)
    (hbody : ∀ (f : Addr) (cdv : Value) (A : Around) (outer : List Env) (s : Shared) (H : Hp) (vs : List V) (Q : VK) (E : XK),
      RoomG k (A.deeper (envOfC x (defScope st) s.heap.objs.size f cdv)) → sp vs H Q E →
        ∃ t, PSs (cxOf CX0 P w K mg base N x (defScope st) f cdv A outer s H E).nox (defBody st) t ∧ t { nx := fun _ H' => Q .non H', rt := Q } (start N vs) H) :
    CalleeF P w K mg base CX0 (k + 1) x st ps sp :=
  calleeF_of D S len fun f cdv A outer s H vs Q E hr h => let ⟨t, a, b⟩ := hbody f cdv A outer s H vs Q E hr h; ⟨t, a.nox, b⟩
theorem CalleeF.callee (C : CalleeF P w K mg base CX k x st ps sp) (hb : BindEq st x ps) : Callee P w K mg base CX k x ps sp :=
  let ⟨f, fd, hm, F, G⟩ := C
  ⟨f, fd, hm, F.kp, F.bindsN hb, G⟩
theorem CalleeF.kw (C : CalleeF P w K mg base CX k x st ps sp)
    (hb : ∀ (kV doc pm : Value) (an : Option Addr) (cdv ct : Value) (ws : List Value), ws.length = ks.length →
      bindArgs (PySem.W.fnOf x x (defArgs st) (defBody st) (defScope st) .none kV doc pm an cdv ct) ⟨[], ks.zip ws⟩ = pure (ps.zip ws.reverse)) : CalleeK P w K mg base CX k x ps ks sp := by
  obtain ⟨f, fd, hm, F, G⟩ := C
  refine ⟨f, fd, hm, F.kp, fun s ws hl => ?_, G⟩
  obtain ⟨oc, od, dV, kV, doc, pm, an, cdv, ct, osl, rfl, lk, hcd, hD, hK⟩ := F.ex
  rcases hD with ⟨_, rfl⟩ | ⟨e, _⟩
  · exact .of_eq (hb kV doc pm an cdv ct ws hl)
  · exact absurd rfl e
end
theorem vals_rev : ∀ {vs : List V} {us : List Value}, Vals vs us → Vals vs.reverse us.reverse
  | _, _, .nil => .nil
  | _, _, .cons h t => by
    rw [List.reverse_cons, List.reverse_cons]
    exact (vals_rev t).append (.cons h .nil)
/-- f(k = v, ..) -/
def tCallR (n : Nat) (sp : Sp) (E : XK) (tk : TA) : TE := fun σ H Q => tk σ H fun zs H2 => zs.length = n ∧ sp zs.reverse H2 Q E
section
variable {X : Cx} {CX : CXT} {k : Nat} {x : Str} {ps ks : List Str} {sp : Sp} {E : XK} {p pos : Pos} {kws : List Keyword} {tk : TA}
theorem pcR (C : CalleeK X.prog X.w X.K X.mg X.base CX k x ps ks sp) (hr : RoomG k X.A) (hx : Passes CX X E) (hkw : PK X kws tk) (hg : Gl X x := by rfl)
    (hall : (backToKw pos (keywordEach kws X.env)).all (·.1.isSome) = true := by rfl) (hks : (backToKw pos (keywordEach kws X.env)).filterMap (·.1) = ks := by rfl)
    (hdb : (x == ("__debug__" : Str)) = false := by decide)
    (hpl : ((backTo pos (starEach [] X.env)).any (·.1) || (backToKw pos (keywordEach kws X.env)).any (·.1.isNone)) = false := by rfl) :
    PE X (.Call (.Name x p) [] kws pos) (tCallR ks.length sp E tk) where
  run := by
    intro pins s σ H Q I h
    obtain ⟨f, fd, hm, hk, hb, F⟩ := C
    refine wpAny_Call_Name_kw (ld_glob I hg hm ?_ hdb)
    refine PySem.W.callWith_KW0 (h₀ := X.base) I.ok.mod.kin hk hall ?_ hpl
    refine thn (hkw.run pos pins s σ H _ I h) ?_
    rintro ws s2 ⟨zs, H2, I2, rz, hl, q2⟩
    refine ⟨I2.kIn, ?_⟩
    rw [hks, List.append_nil]
    have hlw : ws.length = ks.length := rz.length.symm.trans hl
    refine wpAny_call (codeAny_mono (F.run X.A X.stack s2 H2 ⟨[], ks.zip ws⟩ ws.reverse zs.reverse Q E hr I2.env0 (hb s2 ws hlw) (vals_rev rz) q2) ?_)
    intro res s' hq
    match res, hq with
    | .error err, hq => exact hx pins σ H2 s2 err s' I2 hq
    | .ok (.ret u), hq => exact I2.after hq
    | .ok .next, hq => exact False.elim hq
    | .ok .brk, hq => exact False.elim hq
    | .ok .cont, hq => exact False.elim hq
end
section
variable {X : Cx} {CX : CXT} {k : Nat} {x : Str} {ps : List Str} {sp : Sp} {E : L2.St → XK} {p pos : Pos} {e : Expr} {es : List Expr} {t : TA}
/-- f(e, ..) whose exceptions are wished at the slots -/
theorem pcS (C : Callee X.prog X.w X.K X.mg X.base CX k x ps sp) (hr : RoomG k X.A) (hx : ∀ σ, PassesAt CX X σ (E σ)) (ha : PA X (e :: es) t) (hg : Gl X x := by rfl)
    (hdb : (x == ("__debug__" : Str)) = false := by decide)
    (he : starEach (e :: es) X.env = (false, eval e X.env) :: starEach es X.env := by rfl)
    (hpl : (backTo pos (starEach es X.env)).any (·.1) = false := by rfl) : PE X (.Call (.Name x p) (e :: es) [] pos) (tCallS sp E t) where
  run := by
    intro pins s σ H Q I h
    obtain ⟨f, fd, hm, hk, hb, F⟩ := C
    refine wpAny_Call_Name_kw (ld_glob I hg hm ?_ hdb)
    refine PySem.W.callWith_K (h₀ := X.base) I.ok.mod.kin hk ?_ he hpl
    refine thn (ha.run pos pins s σ H _ I h) ?_
    rintro us s1 ⟨vs, H1, I1, r, q⟩
    refine ⟨I1.kIn, ?_⟩
    have hl : us.length = ps.length := by rw [← r.length]; exact F.len _ _ _ _ q
    have b := hb s1 us I1.kIn (by rw [List.append_nil]; exact hl)
    rw [List.append_nil] at b
    refine wpAny_call (codeAny_mono (F.run X.A X.stack s1 H1 ⟨us, []⟩ us vs Q (E σ) hr I1.env0 b r q) ?_)
    intro res s' hq
    match res, hq with
    | .error err, hq => exact hx σ pins H1 s1 err s' I1 hq
    | .ok (.ret u), hq => exact I1.after hq
    | .ok .next, hq => exact False.elim hq
    | .ok .brk, hq => exact False.elim hq
    | .ok .cont, hq => exact False.elim hq
end

/-! ### own exceptions with a field -/
/-- the exception class C at the module's name x, its __init__ (st) sets the field f -/
structure ExcS (K : PySem.W.Frag) (mg : Str → Option Value) (x q f : Str) (st : Stmt) (C : Addr) : Prop where
  name : mg x = some (.ref C)
  oex : OexC K C
  exc : ExcC K C
  nof : PySem.W.findIn K (.ref C) f = some none
  ini : ∃ (i : Addr) (fd : FuncData), PySem.W.findIn K (.ref C) "__init__" = some (some (.ref i)) ∧ PySem.W.typeIn K (.ref i) = some (.type "function") ∧ FnP K "__init__" q st i fd
theorem ExcS.xf {K : PySem.W.Frag} {mg : Str → Option Value} {x q f : Str} {st : Stmt} {C : Addr} (E : ExcS K mg x q f st C) : XfC K C := ⟨E.exc.hg, E.exc.hk, E.exc.hs, E.exc.hd⟩
/-- def __init__(self, y): self.f = y -/
def spIni (K : PySem.W.Frag) (f : Str) : Sp := fun vs H Q _ => ∃ (a C : Addr) (y : V), vs = [.ref a, y] ∧ OexC K C ∧ PySem.W.findIn K (.ref C) f = some none ∧ H a = some (exo a C none) ∧
  ∀ dx, H dx = none → dx ≠ a → Q .non (upd (upd H dx (exd dx [(f, y)])) a (exo a C (some dx)))
/-- the exception flies, its field in its dict -/
def Flies (f : Str) (y : V) (H : Hp) (W : Option Addr → Hp → Prop) : Prop := ∀ (d : Addr) (H' : Hp), Ext [] H H' → H' d = some (.xd [(f, y)]) → W (some d) H'
theorem flies_made {K : PySem.W.Frag} {f : Str} {C : Addr} {y : V} {H : Hp} {Q : XK} (T : OexC K C) (hno : PySem.W.findIn K (.ref C) f = some none)
    (hf : Flies f y H fun d H' => Q (.ref C) d H') :
    ([y] : List V).length ≤ 1000 ∧ ∀ a, H a = none → spIni K f (.ref a :: ([y] ++ [])) (upd H a (exo a C none))
      (fun v H2 => v = .non ∧ ∃ (d : Addr) (fs : List (Str × V)), H2 a = some (exo a C (some d)) ∧ H2 d = some (exd d fs) ∧ H d = none ∧ Q (.ref C) (some d) (upd (del H2 a) d (.xd fs))) (fun _ _ _ => False) := by
  refine ⟨by show 1 ≤ 1000; decide, fun a ha => ⟨a, C, y, rfl, T, hno, upd_same, fun dx hd hn => ⟨rfl, dx, [(f, y)], upd_same, ?_, ?_, ?_⟩⟩⟩
  · rw [upd_ne hn, upd_same]
  · rw [upd_ne hn] at hd
    exact hd
  · have hdH : H dx = none := by rw [upd_ne hn] at hd; exact hd
    refine hf dx _ ⟨fun b o hb _ => ?_, fun b xs hb => ?_, fun b o u hb => ?_, fun b hb => ?_⟩ upd_same
    · have h1 : b ≠ dx := ne_of_none hb hdH
      have h2 : b ≠ a := ne_of_none hb ha
      rw [upd_ne h1, del_ne h2, upd_ne h2, upd_ne h1, upd_ne h2]
      exact hb
    · have h1 : b ≠ dx := ne_of_none hb hdH
      have h2 : b ≠ a := ne_of_none hb ha
      rw [upd_ne h1, del_ne h2, upd_ne h2, upd_ne h1, upd_ne h2]
      exact hb
    · have h1 : b ≠ dx := ne_of_none hb hdH
      have h2 : b ≠ a := ne_of_none hb ha
      rw [upd_ne h1, del_ne h2, upd_ne h2, upd_ne h1, upd_ne h2]
      exact hb
    · by_cases e1 : b = dx
      · rw [e1]; exact hdH
      · by_cases e2 : b = a
        · rw [e2]; exact ha
        · rw [upd_ne e1, del_ne e2, upd_ne e2, upd_ne e1, upd_ne e2] at hb
          exact hb
/-- isinstance(e, c), isinstance(e, (c, ..)): e the caught exception, with a dict -/
def rIsX (K : PySem.W.Frag) (a : Addr) (cls : Value) (d : Option Addr) : List V → Hp → VK → Prop := fun xs H Q => ∃ (D dd c : Addr) (fs : List (Str × V)) (b : Bool), xs = [.ref a, .ref c] ∧ cls = .ref D ∧ d = some dd ∧ ExcC K D ∧ H dd = some (.xd fs) ∧
  (PySem.W.kitOne K (.ref D) (.ref c) = some b ∨ ∃ cs : List Addr, H c = some (.tup (cs.map V.ref)) ∧ PySem.W.kitAny K (.ref D) (cs.map Value.ref) = some b) ∧ Q (.bl b) H
theorem refs_of : ∀ {cs : List Addr} {us : List Value}, Vals (cs.map V.ref) us → us = cs.map Value.ref
  | [], _, h => by cases h; rfl
  | c :: cs, _, h => by
    cases h with
    | cons h t =>
      rw [refs_of t, List.map_cons]
      have e := show _ = Value.ref c from h
      rw [e]
theorem call_isX {X : Cx} {a : Addr} {oe : Obj} {cls : Value} {d : Option Addr} {pn : List (Addr × Obj)} (hz : Zc cls d oe) (hf : ∃ vs, oe.data = .fields vs) :
    CallR (X.suite a ((a, oe) :: pn)) (.builtin "isinstance") (rIsX X.K a cls d) := by
  intro pins s σ H xs us Q I r h
  obtain ⟨D, dd, c, fs, b, rfl, rfl, rfl, E, ed, hk, q⟩ := h
  cases r with
  | cons rx rr =>
    cases rr with
    | cons rt rr =>
      cases rr
      cases rx
      cases rt
      obtain ⟨hget, _⟩ := I.pin (a, oe) (List.mem_append.mpr (.inl List.mem_cons_self))
      obtain ⟨vs, hv⟩ := hf
      have hx : ObjOk X.prog X.w H s.heap dd (.xd fs) := I.hok dd _ ed
      obtain ⟨mA, hns, hr⟩ := hx
      obtain ⟨od, ho, hl⟩ := lookIn_ns hns
      have J : PySem.W.InstAt s.heap a oe D (some od) := ⟨hget, hz.1, by unfold PySem.W.notCls; rw [hv] <;> rfl, by rw [hz.2]; exact ho⟩
      have Z := PySem.W.kitx_exc (x := a) (ox := oe) (od := some od) (by obtain ⟨cd, hc, _⟩ := PySem.W.any_some E.hd; rw [hc]; rfl) E.hg E.hk E.hs E.ha E.hn E.ht E.hm
      rcases hk with hk | ⟨cs, hc, hk⟩
      · exact PySem.W.kia_one Z I.kIn J hk (fun z => nomatch z) fun tk => ⟨.bl b, H, I.kept (t' := tk) fun _ _ z => z, rfl, q⟩
      · obtain ⟨its, rv, p, hz2⟩ := I.tuple (SqT.of hc)
        have ei := refs_of rv
        subst ei
        obtain ⟨⟨oc, odc, odt, osl⟩, h1, h2, n, h3⟩ := id p
        dsimp only at h2 h3
        subst h2 h3
        exact PySem.W.kia_tup Z I.kIn J h1 hk (fun z => nomatch z) fun tk => ⟨.bl b, H, I.kept (t' := tk) fun _ _ z => z, rfl, q⟩
end Kx
namespace K19
open PySem PySem.Spec PyProof.Rows L2 Gd Bx Cl

local macro_rules | `(tactic| walk_at "g") => `(tactic| repeat (first | refine ⟨_, rfl, ?_⟩ | refine ⟨_, _, rfl, rfl, ?_⟩ | refine ⟨rfl, ?_⟩ | refine iteT ?_ | refine iteF ?_))
local macro_rules | `(tactic| walk_at "gs") => `(tactic| repeat' (first | refine ⟨_, rfl, ?_⟩ | refine ⟨_, _, rfl, rfl, ?_⟩ | refine ⟨rfl, ?_⟩ | refine iteT ?_ | refine iteF ?_ | refine iteP (fun _ => ?_) (fun _ => ?_) | refine iteN (fun _ => ?_) (fun _ => ?_)))

def top (i : Nat) : Stmt := PySem.Challenge.pw_overlappedloops_k19_way_lags_join.main.body.getD i (.Pass ⟨0, 0, 0, 0⟩)
abbrev s_arc_fits : Stmt := top 11
abbrev s_kept_arcs : Stmt := top 12
abbrev s_net_steps : Stmt := top 13
abbrev s_way_lag : Stmt := top 15
abbrev s_lags_to : Stmt := top 16
abbrev s_steps_into : Stmt := top 17
abbrev s_law_pool : Stmt := top 19
abbrev s_law_draw : Stmt := top 20
abbrev s_law_same : Stmt := top 21
abbrev s_law_net_arcs : Stmt := top 22
abbrev s_law_kept : Stmt := top 23
abbrev s_law_lags : Stmt := top 24
abbrev s_law_due : Stmt := top 25
abbrev s_law_ways_hold : Stmt := top 26
abbrev s_law_joins : Stmt := top 27
abbrev s_law_refused : Stmt := top 28
abbrev s_law : Stmt := top 29
abbrev s_Net_init : Stmt := inClass (top 10) 0

structure Txt (K : PySem.W.Frag) (mg : Str → Option Value) : Prop where
  len : mg "len" = none
  max : mg "max" = none
  sorted : mg "sorted" = none
  list : mg "list" = none
  tuple : mg "tuple" = none
  range : mg "range" = none
  enumerate : mg "enumerate" = none
  int : mg "int" = none
  repr : mg "repr" = none
  isinstance : mg "isinstance" = none
  MOST_ROWS : ∃ t, mg "MOST_ROWS" = some (.int 8 t)
  MOST_ARCS : ∃ t, mg "MOST_ARCS" = some (.int 200 t)
  MOST_DIST : ∃ t, mg "MOST_DIST" = some (.int 40 t)
  MOST_LAG : ∃ t, mg "MOST_LAG" = some (.int 40 t)
  d_arc_fits : Def K mg "arc_fits" s_arc_fits
  d_kept_arcs : Def K mg "kept_arcs" s_kept_arcs
  d_net_steps : Def K mg "net_steps" s_net_steps
  d_way_lag : Def K mg "way_lag" s_way_lag
  d_lags_to : Def K mg "lags_to" s_lags_to
  d_steps_into : Def K mg "steps_into" s_steps_into
  d_law_pool : Def K mg "_law_pool" s_law_pool
  d_law_draw : Def K mg "_law_draw" s_law_draw
  d_law_same : Def K mg "_law_same" s_law_same
  d_law_net_arcs : Def K mg "_law_net_arcs" s_law_net_arcs
  d_law_kept : Def K mg "_law_kept" s_law_kept
  d_law_lags : Def K mg "_law_lags" s_law_lags
  d_law_due : Def K mg "_law_due" s_law_due
  d_law_ways_hold : Def K mg "_law_ways_hold" s_law_ways_hold
  d_law_joins : Def K mg "_law_joins" s_law_joins
  d_law_refused : Def K mg "_law_refused" s_law_refused

/-! ### arc_fits -/
theorem sc_arc_fits : FnScope ["rows", "arc", "u", "v", "dist", "lag"] ["rows", "arc"] (defScope s_arc_fits) := ⟨rfl, rfl, rfl, by decide +kernel, rfl, by decide +kernel, by decide +kernel⟩
def fits (rows u v d l : Int) : Bool := decide (0 ≤ u ∧ u < rows ∧ 0 ≤ v ∧ v < rows ∧ 0 ≤ d ∧ d ≤ 40 ∧ 0 ≤ l ∧ l ≤ 40 ∧ (0 < d ∨ u < v))
def spFits (K : PySem.W.Frag) : Sp := fun vs H Q _ => ∃ (rows u v d l : Int) (a : Addr), vs = [.int rows, .ref a] ∧ SqT K H a [.int u, .int v, .int d, .int l] ∧ Q (.bl (fits rows u v d l)) H
section
variable {P : Program} {w : World} {K : PySem.W.Frag} {mg : Str → Option Value} {base : Heap}
theorem ok_arc_fits (T : Txt K mg) : Callee P w K mg base CX0 1 "arc_fits" ["rows", "arc"] (spFits K) := by
  refine callee_of0 T.d_arc_fits sc_arc_fits (fun _ _ _ _ _ _ us hl => match us, hl with | [_, _], _ => rfl) (fun vs H Q E h => ?_) (fun f cdv A outer s H vs Q E hr h => ?_)
  · obtain ⟨rows, u, v, d, l, a, rfl, _⟩ := h
    rfl
  · obtain ⟨rows, u, v, d, l, a, rfl, ha, q⟩ := h
    have nd := sc_arc_fits.nd
    refine ⟨_, (pss_cons (ps_if (pt_cmpR op_ne (pe_callB call_len rfl T.len boot_len (pa_cons (pv 1) (pa_nil))) (pe_int) (nomark _))
  (pss_one (ps_ret (pe_bl)))
  (pss_nil))
(pss_cons (ps_asg (pv 1) (pg_tup rfl (pgs_cons (pg_name (i := 2) nd rfl (Or.inl rfl)) (pgs_cons (pg_name (i := 3) nd rfl (Or.inl rfl)) (pgs_cons (pg_name (i := 4) nd rfl (Or.inl rfl)) (pgs_cons (pg_name (i := 5) nd rfl (Or.inl rfl)) (pgs_nil)))))))
(pss_cons (ps_if (pt_not (PW.pt (pw_and (pt_chain op_le op_lt (pe_int) (pv 2) (pv 0)) (pw_and1 (pt_chain op_le op_lt (pe_int) (pv 3) (pv 0))))))
  (pss_one (ps_ret (pe_bl)))
  (pss_nil))
(pss_cons (ps_if (pt_not (PW.pt (pw_and (pt_chain op_le op_le (pe_int) (pv 4) (pgi rfl T.MOST_DIST)) (pw_and1 (pt_chain op_le op_le (pe_int) (pv 5) (pgi rfl T.MOST_LAG))))))
  (pss_one (ps_ret (pe_bl)))
  (pss_nil))
(pss_one (ps_ret (pe_or (pe_cmpR op_gt (pv 4) (pe_int) (nomark _)) (pe_one (pe_cmpR op_lt (pv 2) (pv 3) (nomark _)))))))))), ?_⟩
    refine ⟨_, rfl, _, 4, rfl, Or.inr ⟨_, ha, rfl⟩, ?_⟩
    refine ⟨rfl, ?_⟩
    refine ⟨_, rfl, ?_⟩
    refine iteN (fun h => absurd rfl h) (fun _ => ?_)
    refine ⟨_, rfl, _, _, rfl, ha, rfl, ?_⟩
    refine ⟨_, _, rfl, ?_⟩
    refine ⟨_, _, rfl, ?_⟩
    refine ⟨_, _, rfl, ?_⟩
    refine ⟨_, _, rfl, rfl, ?_⟩
    walk_at "gs"
    all_goals (refine Eq.mp (congrArg (fun b => Q (.bl b) H) ?_) q; simp only [fits, decide_eq_true_eq, decide_eq_false_iff_not]; first | omega | (simp only [decide_eq_decide]; omega))
end

/-! ### _law_draw -/
theorem sc_law_draw : FnScope ["pool", "many", "digit"] ["pool", "many"] (defScope s_law_draw) := ⟨rfl, rfl, rfl, by decide +kernel, rfl, by decide +kernel, by decide +kernel⟩
/-- the pool at p -/
def PoolAt (H : Hp) (p : Addr) : Prop := ∃ ns : List Int, H p = some (.lst (ns.map .int)) ∧ Nn ns ∧ ns.length ≤ 100
def spDraw : Sp := fun vs H Q _ => ∃ (p : Addr) (many : Int), vs = [.ref p, .int many] ∧ PoolAt H p ∧ 0 < many ∧ many < 1000000 ∧
  ∀ (d : Int) (H' : Hp), 0 ≤ d → d < many → Ext [p] H H' → PoolAt H' p → Q (.int d) H'
section
variable {P : Program} {w : World} {K : PySem.W.Frag} {mg : Str → Option Value} {base : Heap}
theorem ok_law_draw (T : Txt K mg) : Callee P w K mg base CX0 1 "_law_draw" ["pool", "many"] spDraw := by
  refine callee_of0 T.d_law_draw sc_law_draw (fun _ _ _ _ _ _ us hl => match us, hl with | [_, _], _ => rfl) (fun vs H Q E h => ?_) (fun f cdv A outer s H vs Q E hr h => ?_)
  · obtain ⟨p, many, rfl, _⟩ := h
    rfl
  · obtain ⟨p, many, rfl, ⟨ns, hp, hn, hl⟩, h0, h1, q⟩ := h
    have nd := sc_law_draw.nd
    refine ⟨_, (pss_cons (ps_if (pt_cmpR op_eq (pe_callB call_len rfl T.len boot_len (pa_cons (pv 0) (pa_nil))) (pe_int) (nomark _))
  (pss_one (ps_ret (pe_int)))
  (pss_nil))
(pss_cons (ps_set (i := 2) nd rfl (Or.inl rfl) (pe_op op_mod (pe_callTy call_int1 rfl T.int (by decide +kernel) (pa_cons (pe_ix ix_list (pv 0) (pe_int) (fun _ _ => rfl)) (pa_nil))) (pv 1)))
(pss_cons (ps_asg (pe_op op_fdivW (pe_ix ix_list (pv 0) (pe_int) (fun _ _ => rfl)) (pv 1)) (pg_sub (pv 0) (pe_int) set_list))
(pss_cons (ps_if (pt_cmpR op_eq (pe_ix ix_list (pv 0) (pe_int) (fun _ _ => rfl)) (pe_int) (nomark _))
  (pss_one (ps_expr (pe_bm PySem.F.plainAttrs_list PySem.F.slot_list_pop PySem.F.type_list_pop mt_popAt (pv 0) (pa_cons (pe_int) (pa_nil)))))
  (pss_nil))
(pss_one (ps_ret (pv 2))))))), ?_⟩
    refine ⟨_, rfl, _, ns.length, rfl, Or.inl ⟨_, SqL.of hp, by rw [List.length_map]⟩, ?_⟩
    refine ⟨rfl, ?_⟩
    refine ⟨_, rfl, ?_⟩
    refine iteP (fun e => ?_) (fun e => ?_)
    · exact q 0 H (Int.le_refl 0) h0 Ext.refl ⟨ns, hp, hn, hl⟩
    cases ns with
    | nil => exact absurd rfl e
    | cons n r =>
      have hn0 : 0 ≤ n := hn n List.mem_cons_self
      have hr0 : ∀ m ∈ r, 0 ≤ m := fun m hm => hn m (List.mem_cons_of_mem _ hm)
      have hdv : CDivW n many := ⟨h0, by
        have : many.natAbs < 2 ^ 30 := by omega
        exact Nat.lt_trans (PySem.Flt.log2_lt_of (by decide) this) (by decide)⟩
      refine ⟨_, rfl, _, _, _, _, rfl, rfl, SqL.of hp, atI_zero, Or.inl ⟨_, rfl, ?_⟩⟩
      refine ⟨_, rfl, _, _, rfl, rfl, h0, ?_⟩
      refine ⟨_, rfl, _, _, _, _, rfl, rfl, SqL.of hp, atI_zero, ?_⟩
      refine ⟨_, rfl, _, _, rfl, rfl, hdv, ?_⟩
      refine ⟨_, rfl, _, _, _, 0, rfl, rfl, hp, ixN_zero (Nat.succ_pos _), ?_⟩
      have e1 : upd H p (.lst (((n :: r).map V.int).set 0 (.int (n / many)))) = upd H p (.lst ((n / many :: r).map V.int)) := rfl
      have q0 : 0 ≤ n / many := Int.ediv_nonneg hn0 (Int.le_of_lt h0)
      have hpN : Nn (n / many :: r) := fun m hm => (List.mem_cons.mp hm).elim (fun z => z ▸ q0) (hr0 m)
      have ex : Ext [p] H (upd H p (.lst ((n / many :: r).map V.int))) := Ext.write hp trivial List.mem_cons_self
      have d0 : 0 ≤ n % many := Int.emod_nonneg n (by omega)
      have d1 : n % many < many := Int.emod_lt_of_pos n h0
      rw [e1]
      refine ⟨_, rfl, _, _, _, _, rfl, rfl, SqL.of upd_same, atI_zero, ?_⟩
      refine ⟨rfl, ?_⟩
      refine ⟨_, rfl, ?_⟩
      refine iteP (fun e2 => ?_) (fun e2 => ?_)
      · refine ⟨_, rfl, .inl ⟨rfl, _, SqL.of upd_same⟩, ?_⟩
        refine ⟨_, _, _, 0, _, rfl, rfl, upd_same, by decide, by decide, seqIx0 (Nat.succ_pos _), rfl, ?_⟩
        refine ⟨_, rfl, ?_⟩
        refine q _ _ d0 d1 ?_ ⟨r, upd_same, hr0, by simp at hl; omega⟩
        exact ex.trans (Ext.write upd_same trivial List.mem_cons_self)
      · exact ⟨_, rfl, q _ _ d0 d1 ex ⟨_, upd_same, hpN, hl⟩⟩
end

/-! ### _law_same -/
theorem sc_law_same : FnScope ["actual", "due"] ["actual", "due"] (defScope s_law_same) := ⟨rfl, rfl, rfl, by decide +kernel, rfl, by decide +kernel, by decide +kernel⟩
structure Good (d : PyData) : Prop where
  shp : SeqAt.shaped d = true
  shw : d.showable = true
  nod : d.hasDict = false
  dep : d.depth ≤ 60
  int : ∀ i, d = .int i → i.natAbs.log2 < 1920
  len : d.shown.length ≤ sizeLine
def spSame (K : PySem.W.Frag) : Sp := fun vs H Q _ => ∃ (x y : V) (d : PyData), vs = [x, y] ∧ Dp K H x d ∧ Dp K H y d ∧ Good d ∧ Q (.bl true) H
section
variable {P : Program} {w : World} {K : PySem.W.Frag} {mg : Str → Option Value} {base : Heap}
theorem ok_law_same (T : Txt K mg) : Callee P w K mg base CX0 1 "_law_same" ["actual", "due"] (spSame K) := by
  refine callee_of0 T.d_law_same sc_law_same (fun _ _ _ _ _ _ us hl => match us, hl with | [_, _], _ => rfl) (fun vs H Q E h => ?_) (fun f cdv A outer s H vs Q E hr h => ?_)
  · obtain ⟨x, y, d, rfl, _⟩ := h
    rfl
  · obtain ⟨x, y, d, rfl, hx, hy, g, q⟩ := h
    refine ⟨_, pss_one (ps_ret (pe_and (pe_cmpR (op_eqD hr.room.units) (pv 0) (pv 1) (nomark _)) (pe_one (pe_cmpR op_eq (pe_callB (call_reprD hr) rfl T.repr (by decide +kernel) (pa_cons (pv 0) (pa_nil))) (pe_callB (call_reprD hr) rfl T.repr (by decide +kernel) (pa_cons (pv 1) (pa_nil))) (nomark _))))), ?_⟩
    refine ⟨_, rfl, _, rfl, d, d, hx, hy, g.shp, g.shp, _, rfl, iteBT (SeqAt.eqv_refl d (SeqAt.canLay_of_shaped g.shp)) ?_⟩
    refine ⟨_, rfl, _, d, rfl, hx, g.shw, g.nod, g.dep, g.int, g.len, ?_⟩
    refine ⟨_, rfl, _, d, rfl, hy, g.shw, g.nod, g.dep, g.int, g.len, ?_⟩
    refine ⟨rfl, ?_⟩
    rw [decide_eq_true rfl]
    exact q
end

/-! ### _law_due -/
theorem sc_law_due : FnScope ["best", "far", "row"] ["best", "far", "row"] (defScope s_law_due) := ⟨rfl, rfl, rfl, by decide +kernel, rfl, by decide +kernel, by decide +kernel⟩
/-- a list of lists -/
structure Tab (H : Hp) (q : Addr) (as : List Addr) (tab : List (List V)) : Prop where
  top : H q = some (.lst (as.map V.ref))
  len : as.length = tab.length
  row : ∀ (i : Nat) (a : Addr) (r : List V), as[i]? = some a → tab[i]? = some r → H a = some (.lst r)
theorem Tab.at {H : Hp} {q : Addr} {as : List Addr} {tab : List (List V)} (t : Tab H q as tab) {i : Nat} {r : List V} (h : tab[i]? = some r) : ∃ a, (as.map V.ref)[i]? = some (.ref a) ∧ as[i]? = some a ∧ H a = some (.lst r) := by
  have hi : i < tab.length := (List.getElem?_eq_some_iff.mp h).1
  have hj : i < as.length := by rw [t.len]; exact hi
  have e : as[i]? = some as[i] := List.getElem?_eq_getElem hj
  exact ⟨as[i], by rw [List.getElem?_map, e]; rfl, e, t.row i _ _ e h⟩
theorem Tab.ext {M : List Addr} {H H' : Hp} {q : Addr} {as : List Addr} {tab : List (List V)} (t : Tab H q as tab) (e : Ext M H H') (h1 : q ∉ M) (h2 : ∀ a ∈ as, a ∉ M) : Tab H' q as tab :=
  ⟨e.keep _ _ t.top h1, t.len, fun i a r ha hr => e.keep _ _ (t.row i a r ha hr) (h2 a (List.mem_of_getElem? ha))⟩
def dueV (n : Int) : V := if n < 0 then .non else .int n
def spDue : Sp := fun vs H Q _ => ∃ (q : Addr) (far row : Nat) (as : List Addr) (tab : List (List V)) (r : List V) (n : Int), vs = [.ref q, .int far, .int row] ∧ Tab H q as tab ∧ tab[far]? = some r ∧ r[row]? = some (.int n) ∧ Q (dueV n) H
section
variable {P : Program} {w : World} {K : PySem.W.Frag} {mg : Str → Option Value} {base : Heap}
theorem ok_law_due (T : Txt K mg) : Callee P w K mg base CX0 1 "_law_due" ["best", "far", "row"] spDue := by
  refine callee_of0 T.d_law_due sc_law_due (fun _ _ _ _ _ _ us hl => match us, hl with | [_, _, _], _ => rfl) (fun vs H Q E h => ?_) (fun f cdv A outer s H vs Q E hr h => ?_)
  · obtain ⟨q, far, row, as, tab, r, n, rfl, _⟩ := h
    rfl
  · obtain ⟨q, far, row, as, tab, r, n, rfl, t, h1, h2, k⟩ := h
    have nd := sc_law_due.nd
    obtain ⟨a, e1, _, e2⟩ := t.at h1
    refine ⟨_, (pss_cons (ps_if (pt_cmpR op_lt (pe_ix ix_list (pe_ix ix_list (pv 0) (pv 1) (fun _ _ => rfl)) (pv 2) (fun _ _ => rfl)) (pe_int) (nomark _))
  (pss_one (ps_ret (pe_non)))
  (pss_nil))
(pss_one (ps_ret (pe_ix ix_list (pe_ix ix_list (pv 0) (pv 1) (fun _ _ => rfl)) (pv 2) (fun _ _ => rfl))))), ?_⟩
    refine ⟨_, rfl, _, rfl, _, _, _, _, rfl, rfl, SqL.of t.top, atI_of e1, ?_⟩
    refine ⟨_, rfl, _, _, _, _, rfl, rfl, SqL.of e2, atI_of h2, ?_⟩
    refine ⟨_, _, rfl, rfl, _, rfl, ?_⟩
    refine iteP (fun e => ?_) (fun e => ?_)
    · unfold dueV at k
      rw [if_pos e] at k
      exact k
    · unfold dueV at k
      rw [if_neg e] at k
      refine ⟨_, rfl, _, rfl, _, _, _, _, rfl, rfl, SqL.of t.top, atI_of e1, ?_⟩
      exact ⟨_, rfl, _, _, _, _, rfl, rfl, SqL.of e2, atI_of h2, k⟩
end

/-! ### _law_pool -/
theorem sc_law_pool : FnScope ["script", "big", "pool", "mix", "cell", "number", "spare"] ["script"] (defScope s_law_pool) := ⟨rfl, rfl, rfl, by decide +kernel, rfl, by decide +kernel, by decide +kernel⟩
def spPool (K : PySem.W.Frag) : Sp := fun vs H Q _ => ∃ (a : Addr) (ns : List Int), vs = [.ref a] ∧ SqL K H a (ns.map V.int) ∧ ns.length ≤ 63 ∧ (∀ b, H b = none ∨ ∃ o xs, H b = some (.frz o (.lst xs))) ∧
  ∀ (p : Addr) (H' : Hp), H p = none → Ext [] H H' → PoolAt H' p → Q (.ref p) H'
section
variable {P : Program} {w : World} {K : PySem.W.Frag} {mg : Str → Option Value} {base : Heap}
theorem ok_law_pool (T : Txt K mg) : Callee P w K mg base CX0 1 "_law_pool" ["script"] (spPool K) := by
  refine callee_of0 T.d_law_pool sc_law_pool (fun _ _ _ _ _ _ us hl => match us, hl with | [_], _ => rfl) (fun vs H Q E h => ?_) (fun f cdv A outer s H vs Q E hr h => ?_)
  · obtain ⟨a, ns, rfl, _⟩ := h
    rfl
  · obtain ⟨a, ns, rfl, hs, hl, hO, q⟩ := h
    have nd := sc_law_pool.nd
    refine ⟨_, (pss_cons (ps_set (i := 1) nd rfl (Or.inl rfl) (pe_op op_mulW (pe_op op_mulW (pe_op op_powW (pe_int) (pe_int)) (pe_op op_powW (pe_int) (pe_int))) (pe_op op_powW (pe_int) (pe_int))))
(pss_cons (ps_set (i := 2) nd rfl (Or.inl rfl) (pe_lst (pa_nil)))
(pss_cons (ps_set (i := 3) nd rfl (Or.inl rfl) (pe_int))
(pss_cons (ps_for PassesOwn.never rfl (pi_list (pe_slice sl_list (pv 0) po_none (po_some (pe_int)))) (pg_name (i := 4) nd rfl (Or.inl rfl))
  (pss_cons (ps_set (i := 5) nd rfl (Or.inl rfl) (pe_op op_mod (pe_callTy call_int1 rfl T.int (by decide +kernel) (pa_cons (pv 4) (pa_nil))) (pv 1)))
  (pss_cons (ps_set (i := 3) nd rfl (Or.inl rfl) (pe_op op_mod (pe_callTy call_int1 rfl T.int (by decide +kernel) (pa_cons (pe_op op_add (pe_op op_add (pe_op op_mulW (pv 3) (pe_int)) (pv 5)) (pe_int)) (pa_nil))) (pe_op op_powW (pe_int) (pe_int))))
  (pss_one (ps_if (pt_cmpR op_ge (pv 5) (pe_op op_powW (pe_int) (pe_int)) (nomark _))
    (pss_one (ps_expr (pe_bm PySem.F.plainAttrs_list PySem.F.slot_list_append PySem.F.type_list_append mt_append (pv 2) (pa_cons (pv 5) (pa_nil)))))
    (pss_nil))))))
(pss_cons (ps_set (i := 6) nd rfl (Or.inl rfl) (pe_int))
(pss_one (ps_ret (pe_op op_cat (pv 2) (pe_lst (pa_cons (pe_op op_fdivW (pe_op op_powW (pe_op op_add (pv 6) (pv 3)) (pe_int)) (pe_op op_powW (pe_int) (pe_int))) (pa_nil))))))))))), ?_⟩
    let B : Int := (10 : Int) ^ (60 : Int).toNat * 10 ^ (60 : Int).toNat * 10 ^ (60 : Int).toNat
    have hB : 0 < B := by decide +kernel
    have hBb : B.natAbs < 2 ^ 600 := by decide +kernel
    let D : Int := (10 : Int) ^ (59 : Int).toNat
    have hD : 0 < D := by decide +kernel
    have hDb : D.natAbs < 2 ^ 200 := by decide +kernel
    have p60 : CPowW 10 60 := pow_ok (n := 4) 60 (by decide) (by decide)
    have p59 : CPowW 10 59 := pow_ok (n := 4) 59 (by decide) (by decide)
    have p18 : CPowW 10 18 := pow_ok (n := 4) 18 (by decide) (by decide)
    refine ⟨_, _, rfl, rfl, p60, _, _, rfl, rfl, p60, _, _, rfl, rfl, wide_mul (a := 200) (b := 200) (by decide +kernel) (by decide +kernel) (by decide) (by decide) (by decide), ?_⟩
    refine ⟨_, _, rfl, rfl, p60, _, _, rfl, rfl, wide_mul (a := 400) (b := 200) (by decide +kernel) (by decide +kernel) (by decide) (by decide) (by decide), ?_⟩
    refine ⟨sz (by decide), fun p hp => ?_⟩
    refine ⟨_, rfl, ⟨_, rfl, a, _, rfl, (Ext.new (M := []) hp).seqL (by simp) hs, fun l hl2 => ?_⟩⟩
    have lp : p ≠ l := ne_of_none (upd_same (H := H)) hl2
    have hcut : ∀ (i : Nat) (x : V), (cutV (ns.map V.int) none (some 63))[i]? = some x → ∃ n, x = .int n := fun i x h => by
      have h1 := List.mem_of_getElem? h
      unfold cutV at h1
      have h2 := List.mem_of_mem_drop (List.mem_of_mem_take h1)
      obtain ⟨n, _, e⟩ := List.mem_map.mp h2
      exact ⟨n, e.symm⟩
    have hcl : (cutV (ns.map V.int) none (some 63)).length ≤ 63 := by
      unfold cutV
      rw [List.length_take, List.length_drop, List.length_map]
      omega
    refine ⟨_, rfl, ⟨_, SqL.of upd_same⟩, for_list (K := K) (a := l) (xs := cutV (ns.map V.int) none (some 63))
      (fun i σ H' => ∃ (ms : List Int) (mix : Int) (c4 c5 : Option V), σ = [some (.ref a), some (.int B), some (.ref p), some (.int mix), c4, c5, none] ∧ 0 ≤ mix ∧ mix < D ∧ Nn ms ∧ ms.length ≤ i ∧
        H' p = some (.lst (ms.map V.int)) ∧ Ext [p] (upd (upd H p (.lst [])) l (.lst (cutV (ns.map V.int) none (some 63)))) H')
      ⟨[], 7, none, none, rfl, by decide, by decide +kernel, (fun _ z => nomatch z), Nat.le_refl _, by rw [upd_ne lp, upd_same]; rfl, Ext.refl⟩
      (fun i σ H' _ ⟨ms, mix, c4, c5, _, _, _, _, _, _, e⟩ => e.seqL (by simpa using lp.symm) (SqL.of upd_same)) ?_ ?_⟩
    · rintro i x σ H' hx ⟨ms, mix, c4, c5, rfl, m0, m1, hN, hlen, hpp, ex⟩
      obtain ⟨n, rfl⟩ := hcut i x hx
      have hi : i < 63 := Nat.lt_of_lt_of_le (List.getElem?_eq_some_iff.mp hx).1 hcl
      refine ⟨_, rfl, Or.inl ⟨_, rfl, _, rfl, _, _, rfl, rfl, hB, ?_⟩⟩
      have n0 : 0 ≤ n % B := Int.emod_nonneg n (by omega)
      have mb : mix.natAbs < 2 ^ 200 := Nat.lt_of_le_of_lt (by omega) hDb
      refine ⟨_, rfl, _, _, rfl, rfl, wide_mul (a := 200) (b := 30) mb (by decide) (by decide) (by decide) (by decide), ?_⟩
      refine ⟨_, rfl, _, _, rfl, rfl, _, _, rfl, rfl, Or.inl ⟨_, rfl, _, _, rfl, rfl, p59, _, _, rfl, rfl, hD, ?_⟩⟩
      have z0 : ∀ z : Int, 0 ≤ z % D := fun z => Int.emod_nonneg z (by omega)
      have z1 : ∀ z : Int, z % D < D := fun z => Int.emod_lt_of_pos z hD
      refine ⟨_, rfl, _, _, rfl, rfl, p18, _, _, rfl, rfl, _, rfl, ?_⟩
      refine iteP (fun e => ?_) (fun e => ?_)
      · refine ⟨_, rfl, Or.inl ⟨rfl, _, SqL.of hpp⟩, _, rfl, _, _, _, rfl, rfl, hpp, szl (by rw [List.length_map]; omega), ?_⟩
        refine ⟨ms ++ [n % B], _, _, _, rfl, z0 _, z1 _, ?_, ?_, ?_, ?_⟩
        · intro m hm
          rcases List.mem_append.mp hm with hm | hm
          · exact hN m hm
          · rw [List.mem_singleton.mp hm]; exact n0
        · rw [List.length_append]; exact Nat.succ_le_succ hlen
        · rw [List.map_append]; exact upd_same
        · exact ex.trans (Ext.write hpp trivial List.mem_cons_self)
      · exact ⟨ms, _, _, _, rfl, z0 _, z1 _, hN, Nat.le_succ_of_le hlen, hpp, ex⟩
    · rintro σ H' ⟨ms, mix, c4, c5, rfl, m0, m1, hN, hlen, hpp, ex⟩
      have mb : mix.natAbs < 2 ^ 200 := Nat.lt_of_le_of_lt (by omega) hDb
      have sb : ((314159265358979323846264338327950288419716939937510582097497 : Int) + mix).natAbs < 2 ^ 201 := by
        have : (314159265358979323846264338327950288419716939937510582097497 : Int).natAbs < 2 ^ 200 := by decide +kernel
        omega
      refine ⟨_, rfl, _, rfl, _, rfl, _, _, rfl, rfl, _, _, rfl, rfl, pow_ok (n := 201) 30 sb (by decide), ?_⟩
      refine ⟨_, _, rfl, rfl, p60, _, _, rfl, rfl, wide_div (b := 300) (by decide +kernel) (by decide +kernel) (by decide) (by decide), ?_⟩
      refine ⟨sz (by show 1 ≤ 100000; decide), fun l2 hn2 => ?_⟩
      have n2 : p ≠ l2 := ne_of_none hpp hn2
      refine ⟨_, _, _, _, rfl, rfl, by rw [upd_ne n2]; exact hpp, upd_same, sz (by rw [List.length_map]; show ms.length + 1 ≤ _; omega), fun l3 hn3 => ?_⟩
      have e0 : Ext [p] H H' := ((Ext.new hp).trans (Ext.new hl2)).trans ex
      have e1 : Ext [p] H (upd (upd H' l2 _) l3 _) := (e0.trans (Ext.new (o := .lst [.int ((314159265358979323846264338327950288419716939937510582097497 + mix) ^ (30 : Int).toNat / 10 ^ (60 : Int).toNat)]) hn2)).trans
        (Ext.new (o := .lst (ms.map V.int ++ [.int ((314159265358979323846264338327950288419716939937510582097497 + mix) ^ (30 : Int).toNat / 10 ^ (60 : Int).toNat)])) hn3)
      have hn4 : H l3 = none := e0.free _ ((Ext.new (M := []) hn2).free _ hn3)
      refine q l3 _ hn4 (e1.drop hp) ⟨ms ++ [(314159265358979323846264338327950288419716939937510582097497 + mix) ^ (30 : Int).toNat / 10 ^ (60 : Int).toNat], ?_, ?_, ?_⟩
      · rw [List.map_append]; exact upd_same
      · intro m hm
        rcases List.mem_append.mp hm with hm | hm
        · exact hN m hm
        · rw [List.mem_singleton.mp hm]
          exact Int.ediv_nonneg (Int.pow_nonneg (by omega)) (by decide +kernel)
      · rw [List.length_append]
        show ms.length + 1 ≤ 100
        omega
end
end K19
namespace K19
open PySem PySem.Spec PyProof.Rows L2 Gd Bx Cl Sx
theorem sc_kept_arcs : FnScope ["arcs", "lags", "u", "v", "dist", "lag"] ["arcs"] (defScope s_kept_arcs) := ⟨rfl, rfl, rfl, by decide +kernel, rfl, by decide +kernel, by decide +kernel⟩
/-- rows that are arcs, lags not below 0 -/
def Arcs (rows : List Rw) : Prop := rows.length ≤ 200 ∧ ∀ r ∈ rows, ∃ u v d l, r = [u, v, d, l] ∧ 0 ≤ l
def spKAL (K : PySem.W.Frag) : Sp := fun vs H Q _ => ∃ (a : Addr) (xs : List V) (rows : List Rw), vs = [.ref a] ∧ H a = some (.lst xs) ∧ Ims K H (rows.map rowD) xs ∧ Arcs rows ∧
  ∀ (A : List Rw) (p : Addr) (H' : Hp), Kept rows A → Im K H' (.tuple (A.map rowD)) (.ref p) → Ext [] H H' → A.length ≤ 200 → Q (.ref p) H'
section
variable {P : Program} {w : World} {K : PySem.W.Frag} {mg : Str → Option Value} {base : Heap}
theorem ok_kept_arcsL (T : Txt K mg) : Callee P w K mg base CX0 1 "kept_arcs" ["arcs"] (spKAL K) := by
  refine callee_of0 T.d_kept_arcs sc_kept_arcs (fun _ _ _ _ _ _ us hl => match us, hl with | [_], _ => rfl) (fun vs H Q E h => ?_) (fun f cdv A outer s H vs Q E hr h => ?_)
  · obtain ⟨a, xs, rows, rfl, _⟩ := h
    rfl
  · obtain ⟨a, xs, rows, rfl, hs, hx, hA, q⟩ := h
    have nd := sc_kept_arcs.nd
    have hu := hu_of hr.room
    refine ⟨_, (pss_cons (ps_set (i := 1) nd rfl (Or.inr rfl) (pe_dnewT))
(pss_cons (ps_for PassesOwn.never rfl (pi_list (pv 0)) (pg_tup rfl (pgs_cons (pg_name (i := 2) nd rfl (Or.inl rfl)) (pgs_cons (pg_name (i := 3) nd rfl (Or.inl rfl)) (pgs_cons (pg_name (i := 4) nd rfl (Or.inl rfl)) (pgs_cons (pg_name (i := 5) nd rfl (Or.inl rfl)) (pgs_nil))))))
  (pss_one (ps_dput hu (pv 1) (pe_tup (pa_cons (pv 2) (pa_cons (pv 3) (pa_cons (pv 4) (pa_nil))))) (pe_callB (call_max2 rfl) rfl T.max (by decide +kernel) (pa_cons (pv 5) (pa_cons (pe_dget2 hu (pv 1) (pe_tup (pa_cons (pv 2) (pa_cons (pv 3) (pa_cons (pv 4) (pa_nil))))) (pe_int) ⟨rfl, rfl, rfl, rfl⟩) (pa_nil)))) rfl)))
(pss_one (ps_ret (pe_callTy call_tuple_of rfl T.tuple (by decide +kernel) (pa_cons (pe_lc (own := [("u", 2), ("v", 3), ("dist", 4)]) rfl nd (pi_list (pe_callB (call_sortDT rfl hr.room) rfl T.sorted (by decide +kernel) (pa_cons (pv 1) (pa_nil)))) (blkOk_by (own := [("u", 2), ("v", 3), ("dist", 4)]) (N := ["arcs", "lags", "u", "v", "dist", "lag"]) (sc := defScope s_kept_arcs) (by decide +kernel)) (fun _ _ _ _ _ => pg_tupK K 3 rfl rfl (pgs_cons (pg_name (i := 2) nd rfl (Or.inl rfl)) (pgs_cons (pg_name (i := 3) nd rfl (Or.inl rfl)) (pgs_cons (pg_name (i := 4) nd rfl (Or.inl rfl)) (pgs_nil))))) (fun _ _ _ _ _ => pts_nil) (fun _ _ _ _ _ => pe_tup (pa_cons (pv 2) (pa_cons (pv 3) (pa_cons (pv 4) (pa_cons (pe_dget hu (pv 1) (pe_tup (pa_cons (pv 2) (pa_cons (pv 3) (pa_cons (pv 4) (pa_nil))))) (fun _ _ => rfl)) (pa_nil))))))) (pa_nil))))))), ?_⟩
    intro d hd
    have da : d ∉ ([] : List Addr) := by simp
    have e0 : Ext [] H (upd H d (.dT [])) := Ext.new hd
    refine ⟨_, rfl, a, rfl, ⟨_, SqL.of (e0.keep _ _ hs (by simp))⟩, for_list (K := K) (a := a) (xs := xs)
      (fun i σ H' => ∃ (kvs : List (List Key × V)) (c2 c3 c4 c5 : Option V), σ = [some (.ref a), some (.ref d), c2, c3, c4, c5] ∧ H' d = some (.dT kvs) ∧ Lags (rows.take i) kvs ∧ Ext [d] (upd H d (.dT [])) H')
      ⟨[], none, none, none, none, rfl, upd_same, Lags.nil, Ext.refl⟩
      (fun i σ H' _ ⟨kvs, c2, c3, c4, c5, _, _, _, e⟩ => SqL.of (e.keep _ _ (e0.keep _ _ hs (by simp)) (by simpa using ne_of_none hs hd))) ?_ ?_⟩
    · rintro i x σ H' hxi ⟨kvs, c2, c3, c4, c5, rfl, hk, L, e⟩
      have hx' : Ims K H' (rows.map rowD) xs := (hx.ext e0).ext e
      obtain ⟨r, t, hri, rfl, ht⟩ := ims_row hx' hxi
      obtain ⟨u, v, dd, l, rfl, l0⟩ := hA.2 r (List.mem_of_getElem? hri)
      have hi : i < 200 := Nat.lt_of_lt_of_le (List.getElem?_eq_some_iff.mp hri).1 hA.1
      have hks : kvs.length ≤ 200 := Nat.le_trans L.sz (Nat.le_trans (List.length_take_le _ _) (Nat.le_of_lt hi))
      refine ⟨t, _, rfl, SqT.of ht, rfl, _, _, rfl, _, _, rfl, _, _, rfl, _, _, rfl, rfl, ?_⟩
      refine ⟨_, rfl, _, rfl, d, rfl, Or.inr ⟨kvs, .inl hk⟩, _, rfl, _, rfl, _, rfl, sz (by show 3 ≤ 100000; decide), fun t1 h1 => ?_⟩
      have d1 : d ≠ t1 := ne_of_none hk h1
      have hk1 : (upd H' t1 (.tup [.int u, .int v, .int dd])) d = some (.dT kvs) := by rw [upd_ne d1]; exact hk
      refine ⟨valV kvs (k3 u v dd), DGet.t (k := k3 u v dd) hk1 upd_same, ?_⟩
      have hmax : ∃ j, ((valV kvs (k3 u v dd)).getD (.int 0)) = V.int j ∧ (valV kvs (k3 u v dd) = some (.int j) ∨ (valV kvs (k3 u v dd) = none ∧ j = 0)) := by
        cases hv : valV kvs (k3 u v dd) with
        | none => exact ⟨0, rfl, .inr ⟨rfl, rfl⟩⟩
        | some y =>
          obtain ⟨g, rfl, _⟩ := (L.val _ _ _ _).mp hv
          exact ⟨g, rfl, .inl rfl⟩
      obtain ⟨j, ej, hj⟩ := hmax
      rw [ej]
      refine ⟨l, j, rfl, ?_⟩
      refine ⟨_, rfl, _, rfl, _, rfl, _, rfl, sz (by show 3 ≤ 100000; decide), fun t2 h2 => ?_⟩
      have d2 : d ≠ t2 := ne_of_none hk1 h2
      refine ⟨d, _, rfl, DPut.t (k := k3 u v dd) (by rw [upd_ne d2]; exact hk1) upd_same (szl (by omega)), ?_⟩
      refine ⟨_, _, _, _, _, rfl, upd_same, ?_, ?_⟩
      · rw [take_next hri]
        refine L.put ⟨fun y hy => ?_, ?_, ?_⟩
        · rcases hj with h | ⟨h, _⟩
          · rw [h] at hy
            cases hy
            by_cases c : j > l
            · rw [if_pos c]; exact .inl rfl
            · rw [if_neg c]; exact .inr ⟨j, rfl, by omega⟩
          · rw [h] at hy; cases hy
        · rcases hj with h | ⟨h, rfl⟩
          · by_cases c : j > l
            · rw [if_pos c]; exact .inl h
            · rw [if_neg c]; exact .inr rfl
          · rw [if_neg (by omega)]; exact .inr rfl
        · split <;> omega
      · refine e.trans (((Ext.new h1).trans (Ext.new h2)).trans (Ext.write (o := .dT kvs) ?_ trivial List.mem_cons_self))
        rw [upd_ne d2]; exact hk1
    · rintro σ H' ⟨kvs, c2, c3, c4, c5, rfl, hk, L, e⟩
      have hxl : xs.length = rows.length := by rw [← hx.length, List.length_map]
      rw [hxl, List.take_length] at L
      have ee : Ext [] H H' := (e0.any.trans e).drop hd
      have hrows := keys_rows L.key
      refine ⟨_, rfl, d, kvs, rfl, hk, ?_, ?_, ?_, fun ys p hy hp => ?_⟩
      · rw [hrows]; exact alike_rows _
      · rw [hrows]
        refine sortable_rows _ fun r hr2 => ?_
        obtain ⟨kv, hkv, rfl⟩ := List.mem_map.mp hr2
        obtain ⟨u, v, dd, e1⟩ := L.key kv.1 (List.mem_map.mpr ⟨kv, hkv, rfl⟩)
        rw [e1, kInts_k3]
        simp
      · intro kv hkv
        obtain ⟨u, v, dd, e1⟩ := L.key kv.1 (List.mem_map.mpr ⟨kv, hkv, rfl⟩)
        rw [e1, keyT_k3]
        exact Nat.le_trans (depth_row _) (by decide)
      · rw [hrows, sort_rows] at hy
        have dp : d ≠ p := ne_of_none hk hp
        have e1 : Ext [] H' (upd H' p (.lst ys)) := Ext.new hp
        have hk1 : (upd H' p (.lst ys)) d = some (.dT kvs) := by rw [upd_ne dp]; exact hk
        have hlen : (srt (kvs.map fun kv => kInts kv.1)).length = ys.length := by rw [← hy.length, List.length_map]
        refine ⟨p, rfl, ⟨_, SqL.of upd_same⟩, fun D hD => ?_⟩
        have Dd : d ≠ D := ne_of_none hk1 hD
        have Dp2 : p ≠ D := ne_of_none upd_same hD
        have e2 : Ext [D] (upd H' p (.lst ys)) (upd (upd H' p (.lst ys)) D (.lst [])) := Ext.new hD
        have hk2 : ∀ H2, Ext [D] (upd (upd H' p (.lst ys)) D (.lst [])) H2 → H2 d = some (.dT kvs) := fun H2 e => e.keep _ _ (by rw [upd_ne Dd]; exact hk1) (by simpa using Dd)
        have hp2 : ∀ H2, Ext [D] (upd (upd H' p (.lst ys)) D (.lst [])) H2 → H2 p = some (.lst ys) := fun H2 e => e.keep _ _ (by rw [upd_ne Dp2, upd_same]) (by simpa using Dp2)
        refine lc_list (K := K) (a := p) (xs := ys)
          (fun i H2 => ∃ acc, H2 D = some (.lst acc) ∧ Ims K H2 (((outRows kvs).take i).map rowD) acc ∧ Ext [D] (upd (upd H' p (.lst ys)) D (.lst [])) H2)
          ⟨[], upd_same, .nil, Ext.refl⟩ (fun i H2 _ ⟨acc, _, _, e⟩ => SqL.of (hp2 H2 e)) ?_ ?_
        · rintro i x H2 hxi ⟨acc, hacc, him, e3⟩
          have hy2 : Ims K H2 ((srt (kvs.map fun kv => kInts kv.1)).map rowD) ys := ((hy.ext e1).ext e2).ext e3
          obtain ⟨r, t, hri, rfl, ht⟩ := ims_row hy2 hxi
          obtain ⟨u, v, dd, l, rfl, hv, hl, _⟩ := L.at (List.mem_of_getElem? hri)
          have hal : acc.length ≤ 200 := by
            rw [← him.length, List.length_map]
            refine Nat.le_trans (List.length_take_le' _ _) ?_
            rw [outRows_length]
            exact Nat.le_trans L.sz hA.1
          refine ⟨t, _, rfl, SqT.of ht, rfl, _, _, rfl, _, _, rfl, _, _, rfl, rfl, ?_⟩
          refine ⟨rfl, ?_⟩
          refine ⟨_, rfl, _, rfl, _, rfl, _, rfl, _, rfl, _, rfl, _, rfl, sz (by show 3 ≤ 100000; decide), fun t1 h1 => ?_⟩
          have d1 : d ≠ t1 := ne_of_none (hk2 H2 e3) h1
          have D1 : D ≠ t1 := ne_of_none hacc h1
          refine ⟨d, _, rfl, DGet.t (k := k3 u v dd) (by rw [upd_ne d1]; exact hk2 H2 e3) upd_same |> (hv ▸ ·), ?_⟩
          refine ⟨sz (by show 4 ≤ 100000; decide), fun t2 h2 => ?_⟩
          have hD1 : (upd H2 t1 (.tup [.int u, .int v, .int dd])) D = some (.lst acc) := by rw [upd_ne D1]; exact hacc
          have D2 : D ≠ t2 := ne_of_none hD1 h2
          refine ⟨acc, by rw [upd_ne D2]; exact hD1, szl (by omega), ?_⟩
          have ex : Ext [D] H2 _ := ((Ext.new (o := .tup [.int u, .int v, .int dd]) h1).trans (Ext.new (o := .tup [.int u, .int v, .int dd, .int l]) h2)).trans
            (Ext.write (o := .lst acc) (o' := .lst (acc ++ [.ref t2])) (by rw [upd_ne D2]; exact hD1) trivial List.mem_cons_self)
          refine ⟨_, upd_same, ?_, e3.trans ex⟩
          have hro : (outRows kvs)[i]? = some [u, v, dd, l] := by
            unfold outRows
            rw [List.getElem?_map, hri]
            show some (([u, v, dd] : Rw) ++ [lagOf kvs [u, v, dd]]) = _
            rw [hl]
            rfl
          rw [take_next hro, List.map_append]
          refine (him.ext ex).append (.one (Im.of_tints (ns := [u, v, dd, l]) ?_))
          rw [upd_ne D2.symm]
          exact upd_same
        · rintro H2 ⟨acc, hacc, him, e3⟩
          rw [← hlen] at him
          have hol : (srt (kvs.map fun kv => kInts kv.1)).length = (outRows kvs).length := by unfold outRows; rw [List.length_map]
          rw [hol, List.take_length] at him
          refine ⟨D, _, rfl, .inl ⟨SqL.of hacc, fun p2 hp3 => ?_⟩⟩
          have ea : Ext [] H H2 := ee.trans (e1.trans ((e2.trans e3).drop hD))
          refine q (outRows kvs) p2 _ L.kept (.tup upd_same (him.ext (Ext.new (M := []) hp3))) (ea.trans (Ext.new hp3)) ?_
          rw [outRows_length]
          exact Nat.le_trans L.sz hA.1
end
def spKAT (K : PySem.W.Frag) : Sp := fun vs H Q _ => ∃ (a : Addr) (xs : List V) (rows : List Rw), vs = [.ref a] ∧ SqT K H a xs ∧ Ims K H (rows.map rowD) xs ∧ Arcs rows ∧
  ∀ (A : List Rw) (p : Addr) (H' : Hp), Kept rows A → Im K H' (.tuple (A.map rowD)) (.ref p) → Ext [] H H' → A.length ≤ 200 → Q (.ref p) H'
section
variable {P : Program} {w : World} {K : PySem.W.Frag} {mg : Str → Option Value} {base : Heap}
theorem ok_kept_arcsT (T : Txt K mg) : Callee P w K mg base CX0 1 "kept_arcs" ["arcs"] (spKAT K) := by
  refine callee_of0 T.d_kept_arcs sc_kept_arcs (fun _ _ _ _ _ _ us hl => match us, hl with | [_], _ => rfl) (fun vs H Q E h => ?_) (fun f cdv A outer s H vs Q E hr h => ?_)
  · obtain ⟨a, xs, rows, rfl, _⟩ := h
    rfl
  · obtain ⟨a, xs, rows, rfl, hs, hx, hA, q⟩ := h
    have nd := sc_kept_arcs.nd
    have hu := hu_of hr.room
    refine ⟨_, (pss_cons (ps_set (i := 1) nd rfl (Or.inr rfl) (pe_dnewT))
(pss_cons (ps_for PassesOwn.never rfl (pi_tup (pv 0)) (pg_tup rfl (pgs_cons (pg_name (i := 2) nd rfl (Or.inl rfl)) (pgs_cons (pg_name (i := 3) nd rfl (Or.inl rfl)) (pgs_cons (pg_name (i := 4) nd rfl (Or.inl rfl)) (pgs_cons (pg_name (i := 5) nd rfl (Or.inl rfl)) (pgs_nil))))))
  (pss_one (ps_dput hu (pv 1) (pe_tup (pa_cons (pv 2) (pa_cons (pv 3) (pa_cons (pv 4) (pa_nil))))) (pe_callB (call_max2 rfl) rfl T.max (by decide +kernel) (pa_cons (pv 5) (pa_cons (pe_dget2 hu (pv 1) (pe_tup (pa_cons (pv 2) (pa_cons (pv 3) (pa_cons (pv 4) (pa_nil))))) (pe_int) ⟨rfl, rfl, rfl, rfl⟩) (pa_nil)))) rfl)))
(pss_one (ps_ret (pe_callTy call_tuple_of rfl T.tuple (by decide +kernel) (pa_cons (pe_lc (own := [("u", 2), ("v", 3), ("dist", 4)]) rfl nd (pi_list (pe_callB (call_sortDT rfl hr.room) rfl T.sorted (by decide +kernel) (pa_cons (pv 1) (pa_nil)))) (blkOk_by (own := [("u", 2), ("v", 3), ("dist", 4)]) (N := ["arcs", "lags", "u", "v", "dist", "lag"]) (sc := defScope s_kept_arcs) (by decide +kernel)) (fun _ _ _ _ _ => pg_tupK K 3 rfl rfl (pgs_cons (pg_name (i := 2) nd rfl (Or.inl rfl)) (pgs_cons (pg_name (i := 3) nd rfl (Or.inl rfl)) (pgs_cons (pg_name (i := 4) nd rfl (Or.inl rfl)) (pgs_nil))))) (fun _ _ _ _ _ => pts_nil) (fun _ _ _ _ _ => pe_tup (pa_cons (pv 2) (pa_cons (pv 3) (pa_cons (pv 4) (pa_cons (pe_dget hu (pv 1) (pe_tup (pa_cons (pv 2) (pa_cons (pv 3) (pa_cons (pv 4) (pa_nil))))) (fun _ _ => rfl)) (pa_nil))))))) (pa_nil))))))), ?_⟩
    intro d hd
    have da : d ∉ ([] : List Addr) := by simp
    have e0 : Ext [] H (upd H d (.dT [])) := Ext.new hd
    refine ⟨_, rfl, a, rfl, ⟨_, e0.seqT hs⟩, for_tup (K := K) (a := a) (xs := xs)
      (fun i σ H' => ∃ (kvs : List (List Key × V)) (c2 c3 c4 c5 : Option V), σ = [some (.ref a), some (.ref d), c2, c3, c4, c5] ∧ H' d = some (.dT kvs) ∧ Lags (rows.take i) kvs ∧ Ext [d] (upd H d (.dT [])) H')
      ⟨[], none, none, none, none, rfl, upd_same, Lags.nil, Ext.refl⟩
      (fun i σ H' _ ⟨kvs, c2, c3, c4, c5, _, _, _, e⟩ => e.seqT (e0.seqT hs)) ?_ ?_⟩
    · rintro i x σ H' hxi ⟨kvs, c2, c3, c4, c5, rfl, hk, L, e⟩
      have hx' : Ims K H' (rows.map rowD) xs := (hx.ext e0).ext e
      obtain ⟨r, t, hri, rfl, ht⟩ := ims_row hx' hxi
      obtain ⟨u, v, dd, l, rfl, l0⟩ := hA.2 r (List.mem_of_getElem? hri)
      have hi : i < 200 := Nat.lt_of_lt_of_le (List.getElem?_eq_some_iff.mp hri).1 hA.1
      have hks : kvs.length ≤ 200 := Nat.le_trans L.sz (Nat.le_trans (List.length_take_le _ _) (Nat.le_of_lt hi))
      refine ⟨t, _, rfl, SqT.of ht, rfl, _, _, rfl, _, _, rfl, _, _, rfl, _, _, rfl, rfl, ?_⟩
      refine ⟨_, rfl, _, rfl, d, rfl, Or.inr ⟨kvs, .inl hk⟩, _, rfl, _, rfl, _, rfl, sz (by show 3 ≤ 100000; decide), fun t1 h1 => ?_⟩
      have d1 : d ≠ t1 := ne_of_none hk h1
      have hk1 : (upd H' t1 (.tup [.int u, .int v, .int dd])) d = some (.dT kvs) := by rw [upd_ne d1]; exact hk
      refine ⟨valV kvs (k3 u v dd), DGet.t (k := k3 u v dd) hk1 upd_same, ?_⟩
      have hmax : ∃ j, ((valV kvs (k3 u v dd)).getD (.int 0)) = V.int j ∧ (valV kvs (k3 u v dd) = some (.int j) ∨ (valV kvs (k3 u v dd) = none ∧ j = 0)) := by
        cases hv : valV kvs (k3 u v dd) with
        | none => exact ⟨0, rfl, .inr ⟨rfl, rfl⟩⟩
        | some y =>
          obtain ⟨g, rfl, _⟩ := (L.val _ _ _ _).mp hv
          exact ⟨g, rfl, .inl rfl⟩
      obtain ⟨j, ej, hj⟩ := hmax
      rw [ej]
      refine ⟨l, j, rfl, ?_⟩
      refine ⟨_, rfl, _, rfl, _, rfl, _, rfl, sz (by show 3 ≤ 100000; decide), fun t2 h2 => ?_⟩
      have d2 : d ≠ t2 := ne_of_none hk1 h2
      refine ⟨d, _, rfl, DPut.t (k := k3 u v dd) (by rw [upd_ne d2]; exact hk1) upd_same (szl (by omega)), ?_⟩
      refine ⟨_, _, _, _, _, rfl, upd_same, ?_, ?_⟩
      · rw [take_next hri]
        refine L.put ⟨fun y hy => ?_, ?_, ?_⟩
        · rcases hj with h | ⟨h, _⟩
          · rw [h] at hy
            cases hy
            by_cases c : j > l
            · rw [if_pos c]; exact .inl rfl
            · rw [if_neg c]; exact .inr ⟨j, rfl, by omega⟩
          · rw [h] at hy; cases hy
        · rcases hj with h | ⟨h, rfl⟩
          · by_cases c : j > l
            · rw [if_pos c]; exact .inl h
            · rw [if_neg c]; exact .inr rfl
          · rw [if_neg (by omega)]; exact .inr rfl
        · split <;> omega
      · refine e.trans (((Ext.new h1).trans (Ext.new h2)).trans (Ext.write (o := .dT kvs) ?_ trivial List.mem_cons_self))
        rw [upd_ne d2]; exact hk1
    · rintro σ H' ⟨kvs, c2, c3, c4, c5, rfl, hk, L, e⟩
      have hxl : xs.length = rows.length := by rw [← hx.length, List.length_map]
      rw [hxl, List.take_length] at L
      have ee : Ext [] H H' := (e0.any.trans e).drop hd
      have hrows := keys_rows L.key
      refine ⟨_, rfl, d, kvs, rfl, hk, ?_, ?_, ?_, fun ys p hy hp => ?_⟩
      · rw [hrows]; exact alike_rows _
      · rw [hrows]
        refine sortable_rows _ fun r hr2 => ?_
        obtain ⟨kv, hkv, rfl⟩ := List.mem_map.mp hr2
        obtain ⟨u, v, dd, e1⟩ := L.key kv.1 (List.mem_map.mpr ⟨kv, hkv, rfl⟩)
        rw [e1, kInts_k3]
        simp
      · intro kv hkv
        obtain ⟨u, v, dd, e1⟩ := L.key kv.1 (List.mem_map.mpr ⟨kv, hkv, rfl⟩)
        rw [e1, keyT_k3]
        exact Nat.le_trans (depth_row _) (by decide)
      · rw [hrows, sort_rows] at hy
        have dp : d ≠ p := ne_of_none hk hp
        have e1 : Ext [] H' (upd H' p (.lst ys)) := Ext.new hp
        have hk1 : (upd H' p (.lst ys)) d = some (.dT kvs) := by rw [upd_ne dp]; exact hk
        have hlen : (srt (kvs.map fun kv => kInts kv.1)).length = ys.length := by rw [← hy.length, List.length_map]
        refine ⟨p, rfl, ⟨_, SqL.of upd_same⟩, fun D hD => ?_⟩
        have Dd : d ≠ D := ne_of_none hk1 hD
        have Dp2 : p ≠ D := ne_of_none upd_same hD
        have e2 : Ext [D] (upd H' p (.lst ys)) (upd (upd H' p (.lst ys)) D (.lst [])) := Ext.new hD
        have hk2 : ∀ H2, Ext [D] (upd (upd H' p (.lst ys)) D (.lst [])) H2 → H2 d = some (.dT kvs) := fun H2 e => e.keep _ _ (by rw [upd_ne Dd]; exact hk1) (by simpa using Dd)
        have hp2 : ∀ H2, Ext [D] (upd (upd H' p (.lst ys)) D (.lst [])) H2 → H2 p = some (.lst ys) := fun H2 e => e.keep _ _ (by rw [upd_ne Dp2, upd_same]) (by simpa using Dp2)
        refine lc_list (K := K) (a := p) (xs := ys)
          (fun i H2 => ∃ acc, H2 D = some (.lst acc) ∧ Ims K H2 (((outRows kvs).take i).map rowD) acc ∧ Ext [D] (upd (upd H' p (.lst ys)) D (.lst [])) H2)
          ⟨[], upd_same, .nil, Ext.refl⟩ (fun i H2 _ ⟨acc, _, _, e⟩ => SqL.of (hp2 H2 e)) ?_ ?_
        · rintro i x H2 hxi ⟨acc, hacc, him, e3⟩
          have hy2 : Ims K H2 ((srt (kvs.map fun kv => kInts kv.1)).map rowD) ys := ((hy.ext e1).ext e2).ext e3
          obtain ⟨r, t, hri, rfl, ht⟩ := ims_row hy2 hxi
          obtain ⟨u, v, dd, l, rfl, hv, hl, _⟩ := L.at (List.mem_of_getElem? hri)
          have hal : acc.length ≤ 200 := by
            rw [← him.length, List.length_map]
            refine Nat.le_trans (List.length_take_le' _ _) ?_
            rw [outRows_length]
            exact Nat.le_trans L.sz hA.1
          refine ⟨t, _, rfl, SqT.of ht, rfl, _, _, rfl, _, _, rfl, _, _, rfl, rfl, ?_⟩
          refine ⟨rfl, ?_⟩
          refine ⟨_, rfl, _, rfl, _, rfl, _, rfl, _, rfl, _, rfl, _, rfl, sz (by show 3 ≤ 100000; decide), fun t1 h1 => ?_⟩
          have d1 : d ≠ t1 := ne_of_none (hk2 H2 e3) h1
          have D1 : D ≠ t1 := ne_of_none hacc h1
          refine ⟨d, _, rfl, DGet.t (k := k3 u v dd) (by rw [upd_ne d1]; exact hk2 H2 e3) upd_same |> (hv ▸ ·), ?_⟩
          refine ⟨sz (by show 4 ≤ 100000; decide), fun t2 h2 => ?_⟩
          have hD1 : (upd H2 t1 (.tup [.int u, .int v, .int dd])) D = some (.lst acc) := by rw [upd_ne D1]; exact hacc
          have D2 : D ≠ t2 := ne_of_none hD1 h2
          refine ⟨acc, by rw [upd_ne D2]; exact hD1, szl (by omega), ?_⟩
          have ex : Ext [D] H2 _ := ((Ext.new (o := .tup [.int u, .int v, .int dd]) h1).trans (Ext.new (o := .tup [.int u, .int v, .int dd, .int l]) h2)).trans
            (Ext.write (o := .lst acc) (o' := .lst (acc ++ [.ref t2])) (by rw [upd_ne D2]; exact hD1) trivial List.mem_cons_self)
          refine ⟨_, upd_same, ?_, e3.trans ex⟩
          have hro : (outRows kvs)[i]? = some [u, v, dd, l] := by
            unfold outRows
            rw [List.getElem?_map, hri]
            show some (([u, v, dd] : Rw) ++ [lagOf kvs [u, v, dd]]) = _
            rw [hl]
            rfl
          rw [take_next hro, List.map_append]
          refine (him.ext ex).append (.one (Im.of_tints (ns := [u, v, dd, l]) ?_))
          rw [upd_ne D2.symm]
          exact upd_same
        · rintro H2 ⟨acc, hacc, him, e3⟩
          rw [← hlen] at him
          have hol : (srt (kvs.map fun kv => kInts kv.1)).length = (outRows kvs).length := by unfold outRows; rw [List.length_map]
          rw [hol, List.take_length] at him
          refine ⟨D, _, rfl, .inl ⟨SqL.of hacc, fun p2 hp3 => ?_⟩⟩
          have ea : Ext [] H H2 := ee.trans (e1.trans ((e2.trans e3).drop hD))
          refine q (outRows kvs) p2 _ L.kept (.tup upd_same (him.ext (Ext.new (M := []) hp3))) (ea.trans (Ext.new hp3)) ?_
          rw [outRows_length]
          exact Nat.le_trans L.sz hA.1
end
end K19
namespace K19
open PySem PySem.Spec PyProof.Rows L2 Gd Bx Cl Sx
theorem sc_law_kept : FnScope ["arcs", "lags", "arc", "ends"] ["arcs"] (defScope s_law_kept) := ⟨rfl, rfl, rfl, by decide +kernel, rfl, by decide +kernel, by decide +kernel⟩
section
variable {P : Program} {w : World} {K : PySem.W.Frag} {mg : Str → Option Value} {base : Heap}
theorem ok_law_kept (T : Txt K mg) : Callee P w K mg base CX0 1 "_law_kept" ["arcs"] (spKAL K) := by
  refine callee_of0 T.d_law_kept sc_law_kept (fun _ _ _ _ _ _ us hl => match us, hl with | [_], _ => rfl) (fun vs H Q E h => ?_) (fun f cdv A outer s H vs Q E hr h => ?_)
  · obtain ⟨a, xs, rows, rfl, _⟩ := h
    rfl
  · obtain ⟨a, xs, rows, rfl, hs, hx, hA, q⟩ := h
    have nd := sc_law_kept.nd
    have hu := hu_of hr.room
    refine ⟨_, (pss_cons (ps_set (i := 1) nd rfl (Or.inr rfl) (pe_dnewT))
(pss_cons (ps_for PassesOwn.never rfl (pi_list (pe_callB (call_sortD hr.room) rfl T.sorted (by decide +kernel) (pa_cons (pv 0) (pa_nil)))) (pg_name (i := 2) nd rfl (Or.inl rfl))
  (pss_one (ps_dput hu (pv 1) (pe_slice sl_tup (pv 2) po_none (po_some (pe_int))) (pe_ix ix_tup (pv 2) (pe_int) (fun _ _ => rfl)) rfl)))
(pss_one (ps_ret (pe_callTy call_tuple_of rfl T.tuple (by decide +kernel) (pa_cons (pe_lc (own := [("ends", 3)]) rfl nd (pi_list (pe_callB (call_sortDT rfl hr.room) rfl T.sorted (by decide +kernel) (pa_cons (pv 1) (pa_nil)))) (blkOk_by (own := [("ends", 3)]) (N := ["arcs", "lags", "arc", "ends"]) (sc := defScope s_law_kept) (by decide +kernel)) (fun _ _ _ _ _ => pg_name (i := 3) nd rfl (Or.inl rfl)) (fun _ _ _ _ _ => pts_nil) (fun _ _ _ _ _ => pe_op (op_catTK K rfl) (pv 3) (pe_tup (pa_cons (pe_dget hu (pv 1) (pv 3) (fun _ _ => rfl)) (pa_nil))))) (pa_nil))))))), ?_⟩
    intro d hd
    have e0 : Ext [] H (upd H d (.dT [])) := Ext.new hd
    have ad : a ≠ d := ne_of_none hs hd
    have nonE : ∀ r ∈ rows, r ≠ [] := fun r hr => by
      obtain ⟨u, v, dd, l, rfl, _⟩ := hA.2 r hr
      simp
    refine ⟨_, rfl, a, xs, rows.map rowD, rfl, SqL.of (e0.keep _ _ hs (by simp)), hx.ext e0, alike_rows _, sortable_rows _ nonE, fun z hz => ?_, fun ys b hy hb => ?_⟩
    · obtain ⟨r, _, rfl⟩ := List.mem_map.mp hz
      exact Nat.le_trans (depth_row r) (by decide)
    rw [sort_rows] at hy
    have db : d ≠ b := ne_of_none upd_same hb
    have e1 : Ext [] (upd H d (.dT [])) (upd (upd H d (.dT [])) b (.lst ys)) := Ext.new hb
    have hy1 := hy.ext e1
    have srtA : ∀ r ∈ srt rows, ∃ u v d l, r = [u, v, d, l] ∧ 0 ≤ l := fun r hr => hA.2 r ((srt_perm rows).mem_iff.mp hr)
    refine ⟨b, rfl, ⟨_, SqL.of upd_same⟩, for_list (K := K) (a := b) (xs := ys)
      (fun i σ H' => ∃ (kvs : List (List Key × V)) (c2 : Option V), σ = [some (.ref a), some (.ref d), c2, none] ∧ H' d = some (.dT kvs) ∧ Lags ((srt rows).take i) kvs ∧ Ext [d] (upd (upd H d (.dT [])) b (.lst ys)) H')
      ⟨[], none, rfl, by rw [upd_ne db, upd_same], Lags.nil, Ext.refl⟩
      (fun i σ H' _ ⟨kvs, c2, _, _, _, e⟩ => SqL.of (e.keep _ _ upd_same (by simpa using db.symm))) ?_ ?_⟩
    · rintro i x σ H' hxi ⟨kvs, c2, rfl, hk, L, e⟩
      obtain ⟨r, t, hri, rfl, ht⟩ := ims_row (hy1.ext e) hxi
      obtain ⟨u, v, dd, l, rfl, l0⟩ := srtA r (List.mem_of_getElem? hri)
      have hks : kvs.length ≤ 200 := by
        refine Nat.le_trans L.sz (Nat.le_trans (List.length_take_le' _ _) ?_)
        rw [(srt_perm rows).length_eq]
        exact hA.1
      refine ⟨_, rfl, t, _, 3, .int l, rfl, rfl, SqT.of ht, rfl, ?_⟩
      refine ⟨_, rfl, ?_⟩
      refine ⟨_, rfl, 3, rfl, t, _, rfl, SqT.of ht, (by show ¬ (HT.sIx 4 0 none = 0 ∧ HT.sIx 4 4 (some 3) = 4); decide), fun t1 h1 => ?_⟩
      have d1 : d ≠ t1 := ne_of_none hk h1
      refine ⟨d, _, rfl, DPut.t (k := k3 u v dd) (by rw [upd_ne d1]; exact hk) upd_same (szl (by omega)), ?_⟩
      refine ⟨_, _, rfl, upd_same, ?_, ?_⟩
      · rw [take_next hri]
        refine L.put ⟨fun y hy => ?_, .inr rfl, Int.le_refl l⟩
        obtain ⟨g, rfl, hg⟩ := (L.val _ _ _ _).mp hy
        exact .inr ⟨g, rfl, lag_le (before (srt_sorted rows) hri hg.1)⟩
      · exact e.trans ((Ext.new (o := .tup [.int u, .int v, .int dd]) h1).trans (Ext.write (o := .dT kvs) (by rw [upd_ne d1]; exact hk) trivial List.mem_cons_self))
    · rintro σ H' ⟨kvs, c2, rfl, hk, L, e⟩
      have hyl : ys.length = (srt rows).length := by rw [← hy.length, List.length_map]
      rw [hyl, List.take_length] at L
      replace L := L.perm (srt_perm rows)
      have ee : Ext [] H H' := ((e0.any.trans e1.any).trans e).drop hd
      have hrows := keys_rows L.key
      refine ⟨_, rfl, d, kvs, rfl, hk, ?_, ?_, ?_, fun zs p hz hp => ?_⟩
      · rw [hrows]; exact alike_rows _
      · rw [hrows]
        refine sortable_rows _ fun r hr2 => ?_
        obtain ⟨kv, hkv, rfl⟩ := List.mem_map.mp hr2
        obtain ⟨u, v, dd, e1⟩ := L.key kv.1 (List.mem_map.mpr ⟨kv, hkv, rfl⟩)
        rw [e1, kInts_k3]
        simp
      · intro kv hkv
        obtain ⟨u, v, dd, e1⟩ := L.key kv.1 (List.mem_map.mpr ⟨kv, hkv, rfl⟩)
        rw [e1, keyT_k3]
        exact Nat.le_trans (depth_row _) (by decide)
      · rw [hrows, sort_rows] at hz
        have dp : d ≠ p := ne_of_none hk hp
        have e1 : Ext [] H' (upd H' p (.lst zs)) := Ext.new hp
        have hk1 : (upd H' p (.lst zs)) d = some (.dT kvs) := by rw [upd_ne dp]; exact hk
        have hlen : (srt (kvs.map fun kv => kInts kv.1)).length = zs.length := by rw [← hz.length, List.length_map]
        refine ⟨p, rfl, ⟨_, SqL.of upd_same⟩, fun D hD => ?_⟩
        have Dd : d ≠ D := ne_of_none hk1 hD
        have Dp2 : p ≠ D := ne_of_none upd_same hD
        have e2 : Ext [D] (upd H' p (.lst zs)) (upd (upd H' p (.lst zs)) D (.lst [])) := Ext.new hD
        have hk2 : ∀ H2, Ext [D] (upd (upd H' p (.lst zs)) D (.lst [])) H2 → H2 d = some (.dT kvs) := fun H2 e => e.keep _ _ (by rw [upd_ne Dd]; exact hk1) (by simpa using Dd)
        have hp2 : ∀ H2, Ext [D] (upd (upd H' p (.lst zs)) D (.lst [])) H2 → H2 p = some (.lst zs) := fun H2 e => e.keep _ _ (by rw [upd_ne Dp2, upd_same]) (by simpa using Dp2)
        refine lc_list (K := K) (a := p) (xs := zs)
          (fun i H2 => ∃ acc, H2 D = some (.lst acc) ∧ Ims K H2 (((outRows kvs).take i).map rowD) acc ∧ Ext [D] (upd (upd H' p (.lst zs)) D (.lst [])) H2)
          ⟨[], upd_same, .nil, Ext.refl⟩ (fun i H2 _ ⟨acc, _, _, e⟩ => SqL.of (hp2 H2 e)) ?_ ?_
        · rintro i x H2 hxi ⟨acc, hacc, him, e3⟩
          have hz2 : Ims K H2 ((srt (kvs.map fun kv => kInts kv.1)).map rowD) zs := ((hz.ext e1).ext e2).ext e3
          obtain ⟨r, t, hri, rfl, ht⟩ := ims_row hz2 hxi
          obtain ⟨u, v, dd, l, rfl, hv, hl, _⟩ := L.at (List.mem_of_getElem? hri)
          have hal : acc.length ≤ 200 := by
            rw [← him.length, List.length_map]
            refine Nat.le_trans (List.length_take_le' _ _) ?_
            rw [outRows_length]
            exact Nat.le_trans L.sz hA.1
          refine ⟨rfl, ?_⟩
          refine ⟨_, rfl, _, rfl, _, rfl, d, _, rfl, DGet.t (k := k3 u v dd) (hk2 H2 e3) ht |> (hv ▸ ·), ?_⟩
          refine ⟨sz (by show 1 ≤ 100000; decide), fun t1 h1 => ?_⟩
          have t01 : t ≠ t1 := ne_of_none ht h1
          refine ⟨t, t1, _, _, rfl, rfl, SqT.of (by rw [upd_ne t01]; exact ht), SqT.of upd_same, by simp, sz (by show 4 ≤ 100000; decide), (by intro z; cases z), fun _ t2 h2 => ?_⟩
          have D1 : D ≠ t1 := ne_of_none hacc h1
          have hD1 : (upd H2 t1 (.tup [.int l])) D = some (.lst acc) := by rw [upd_ne D1]; exact hacc
          have D2 : D ≠ t2 := ne_of_none hD1 h2
          refine ⟨acc, by rw [upd_ne D2]; exact hD1, szl (by omega), ?_⟩
          have ex : Ext [D] H2 _ := ((Ext.new (o := .tup [.int l]) h1).trans (Ext.new (o := .tup [.int u, .int v, .int dd, .int l]) h2)).trans
            (Ext.write (o := .lst acc) (o' := .lst (acc ++ [.ref t2])) (by rw [upd_ne D2]; exact hD1) trivial List.mem_cons_self)
          refine ⟨_, upd_same, ?_, e3.trans ex⟩
          have hro : (outRows kvs)[i]? = some [u, v, dd, l] := by
            unfold outRows
            rw [List.getElem?_map, hri]
            show some (([u, v, dd] : Rw) ++ [lagOf kvs [u, v, dd]]) = _
            rw [hl]
            rfl
          rw [take_next hro, List.map_append]
          refine (him.ext ex).append (.one (Im.of_tints (ns := [u, v, dd, l]) ?_))
          rw [upd_ne D2.symm]
          exact upd_same
        · rintro H2 ⟨acc, hacc, him, e3⟩
          rw [← hlen] at him
          have hol : (srt (kvs.map fun kv => kInts kv.1)).length = (outRows kvs).length := by unfold outRows; rw [List.length_map]
          rw [hol, List.take_length] at him
          refine ⟨D, _, rfl, .inl ⟨SqL.of hacc, fun p2 hp3 => ?_⟩⟩
          have ea : Ext [] H H2 := ee.trans (e1.trans ((e2.trans e3).drop hD))
          refine q (outRows kvs) p2 _ L.kept (.tup upd_same (him.ext (Ext.new (M := []) hp3))) (ea.trans (Ext.new hp3)) ?_
          rw [outRows_length]
          exact Nat.le_trans L.sz hA.1
end
end K19
namespace K19
open PySem PySem.Spec PyProof.Rows L2 Gd Bx Cl Sx
theorem PoolAt.ext {H H' : Hp} {p : Addr} {M : List Addr} (h : PoolAt H p) (e : Ext M H H') (hm : p ∉ M) : PoolAt H' p :=
  let ⟨ns, a, b, c⟩ := h
  ⟨ns, e.keep _ _ a hm, b, c⟩
theorem PoolAt.ne {H : Hp} {p t : Addr} (h : PoolAt H p) (ht : H t = none) : p ≠ t := let ⟨_, a, _⟩ := h; ne_of_none a ht
theorem menu {L : List Int} {d : Int} (h0 : 0 ≤ d) (h1 : d < L.length) : ∃ c ∈ L, atI (L.map V.int) d = some (.int c) := by
  obtain ⟨n, rfl⟩ := Int.eq_ofNat_of_zero_le h0
  have hd : n < L.length := by omega
  refine ⟨L[n], List.getElem_mem hd, atI_of ?_⟩
  rw [List.getElem?_map, List.getElem?_eq_getElem hd]
  rfl
/-- the last item -/
theorem atI_last1 {α : Type} {xs : List α} {x : α} : atI (xs ++ [x]) (-1) = some x := by
  have hl : (xs ++ [x]).length = xs.length + 1 := by rw [List.length_append]; rfl
  unfold atI ixN
  rw [if_neg (by decide), if_pos (by omega), hl]
  have e : (-1 + ((xs.length + 1 : Nat) : Int)).toNat = xs.length := by omega
  show (xs ++ [x])[(-1 + ((xs.length + 1 : Nat) : Int)).toNat]? = some x
  rw [e]
  simp
def FitR (rows : Int) (r : Rw) : Prop := ∃ u v d l, r = [u, v, d, l] ∧ 0 ≤ u ∧ u < rows ∧ 0 ≤ v ∧ v < rows ∧ 0 ≤ d ∧ d ≤ 40 ∧ 0 ≤ l ∧ l ≤ 40 ∧ (0 < d ∨ u < v)
def ArcsOf (rows : Int) (arcs : List Rw) : Prop := arcs.length ≤ 200 ∧ ∀ r ∈ arcs, FitR rows r
theorem ArcsOf.arcs {rows : Int} {arcs : List Rw} (h : ArcsOf rows arcs) : Arcs arcs := ⟨h.1, fun r hr => let ⟨u, v, d, l, e, _, _, _, _, _, _, l0, _⟩ := h.2 r hr; ⟨u, v, d, l, e, l0⟩⟩
def spNA (K : PySem.W.Frag) : Sp := fun vs H Q _ => ∃ (p : Addr) (rows : Int), vs = [.ref p, .int rows] ∧ PoolAt H p ∧ 1 ≤ rows ∧ rows ≤ 8 ∧
  ∀ (q : Addr) (xs : List V) (arcs : List Rw) (H' : Hp), H q = none → Ext [p] H H' → PoolAt H' p → H' q = some (.lst xs) → Ims K H' (arcs.map rowD) xs → ArcsOf rows arcs → Q (.ref q) H'
theorem sc_law_net_arcs : FnScope ["pool", "rows", "count", "far", "heavy", "arcs", "k", "u", "v", "dist", "way", "last", "lag"] ["pool", "rows"] (defScope s_law_net_arcs) := ⟨rfl, rfl, rfl, by decide +kernel, rfl, by decide +kernel, by decide +kernel⟩
section
variable {P : Program} {w : World} {K : PySem.W.Frag} {mg : Str → Option Value} {base : Heap}
theorem ok_law_net_arcs (T : Txt K mg) : Callee P w K mg base CX0 2 "_law_net_arcs" ["pool", "rows"] (spNA K) := by
  refine callee_of0 T.d_law_net_arcs sc_law_net_arcs (fun _ _ _ _ _ _ us hl => match us, hl with | [_, _], _ => rfl) (fun vs H Q E h => ?_) (fun f cdv A outer s H vs Q E hr h => ?_)
  · obtain ⟨p, rows, rfl, _⟩ := h
    rfl
  · obtain ⟨p, rows, rfl, hp, r1, r8, q⟩ := h
    have nd := sc_law_net_arcs.nd
    have hr1 : RoomG 1 _ := hr
    refine ⟨_, (pss_cons (ps_set (i := 2) nd rfl (Or.inl rfl) (pe_ix ix_list (pe_lst (pa_cons (pe_int) (pa_cons (pe_int) (pa_cons (pe_int) (pa_cons (pe_int) (pa_cons (pe_int) (pa_cons (pe_int) (pa_cons (pe_int) (pa_cons (pe_int) (pa_nil)))))))))) (pc0 (ok_law_draw T) hr (pa_cons (pv 0) (pa_cons (pe_int) (pa_nil)))) (fun _ _ => rfl)))
(C8.pss_cut (ps_if (pt_cmpR op_eq (pv 2) (pe_int) (nomark _))
  (pss_one (ps_set (i := 2) nd rfl (Or.inl rfl) (pe_op op_add (pe_int) (pc0 (ok_law_draw T) hr1 (pa_cons (pv 0) (pa_cons (pe_int) (pa_nil)))))))
  (pss_nil))
(pss_cons (ps_set (i := 3) nd rfl (Or.inl rfl) (pe_ix ix_list (pe_lst (pa_cons (pe_int) (pa_cons (pe_int) (pa_cons (pe_int) (pa_cons (pe_int) (pa_nil)))))) (pc0 (ok_law_draw T) hr1 (pa_cons (pv 0) (pa_cons (pe_int) (pa_nil)))) (fun _ _ => rfl)))
(pss_cons (ps_set (i := 4) nd rfl (Or.inl rfl) (pe_ix ix_list (pe_lst (pa_cons (pe_int) (pa_cons (pe_int) (pa_cons (pe_int) (pa_cons (pe_int) (pa_nil)))))) (pc0 (ok_law_draw T) hr1 (pa_cons (pv 0) (pa_cons (pe_int) (pa_nil)))) (fun _ _ => rfl)))
(pss_cons (ps_set (i := 5) nd rfl (Or.inl rfl) (pe_lst (pa_nil)))
(pss_cons (ps_for PassesOwn.never rfl (pi_range1 rfl T.range (pa_cons (pv 2) (pa_nil))) (pg_name (i := 6) nd rfl (Or.inl rfl))
  (pss_cons (ps_set (i := 7) nd rfl (Or.inl rfl) (pc0 (ok_law_draw T) hr1 (pa_cons (pv 0) (pa_cons (pv 1) (pa_nil)))))
  (pss_cons (ps_set (i := 8) nd rfl (Or.inl rfl) (pc0 (ok_law_draw T) hr1 (pa_cons (pv 0) (pa_cons (pv 1) (pa_nil)))))
  (pss_cons (ps_set (i := 9) nd rfl (Or.inl rfl) (pc0 (ok_law_draw T) hr1 (pa_cons (pv 0) (pa_cons (pv 3) (pa_nil)))))
  (pss_cons (ps_set (i := 10) nd rfl (Or.inl rfl) (pc0 (ok_law_draw T) hr (pa_cons (pv 0) (pa_cons (pe_int) (pa_nil)))))
  (C8.pss_cut (ps_if (PW.pt (pw_and (pt_cmpR op_lt (pv 10) (pe_int) (nomark _)) (pw_and1 (pt_cmpR op_gt (pe_callB call_len rfl T.len boot_len (pa_cons (pv 5) (pa_nil))) (pe_int) (nomark _)))))
    (pss_cons (ps_asg (pe_ix ix_list (pv 5) (pe_un un_neg pe_int) (fun _ _ => rfl)) (pg_tup rfl (pgs_cons (pg_name (i := 7) nd rfl (Or.inl rfl)) (pgs_cons (pg_name (i := 8) nd rfl (Or.inl rfl)) (pgs_cons (pg_name (i := 11) nd rfl (Or.inl rfl)) (pgs_cons (pg_name (i := 12) nd rfl (Or.inl rfl)) (pgs_nil)))))))
    (pss_one (ps_if (pt_cmpR op_eq (pv 10) (pe_int) (nomark _))
      (pss_one (ps_set (i := 9) nd rfl (Or.inl rfl) (pv 11)))
      (pss_nil))))
    (pss_nil))
  (C8.pss_cut (ps_if (PW.pt (pw_and (pt_cmpR op_eq (pv 9) (pe_int) (nomark _)) (pw_and1 (pt_cmpR op_ge (pv 7) (pv 8) (nomark _)))))
    (pss_one (ps_set (i := 9) nd rfl (Or.inl rfl) (pe_int)))
    (pss_nil))
  (pss_one (ps_expr (pe_bm PySem.F.plainAttrs_list PySem.F.slot_list_append PySem.F.type_list_append mt_append (pv 5) (pa_cons (pe_tup (pa_cons (pv 7) (pa_cons (pv 8) (pa_cons (pv 9) (pa_cons (pc0 (ok_law_draw T) hr1 (pa_cons (pv 0) (pa_cons (pv 4) (pa_nil)))) (pa_nil)))))) (pa_nil))))))))))))
(pss_one (ps_ret (pv 5))))))))), ?_⟩
    -- count
    refine ⟨sz (by show 8 ≤ 100000; decide), fun t ht => ?_⟩
    have hp1 := hp.ext (Ext.new (M := []) (o := .lst [.int 0, .int 3, .int 20, .int 12, .int 20, .int 60, .int 200, .int 6]) ht) (by simp)
    refine ⟨_, rfl, p, 8, rfl, hp1, by decide, by decide, fun d H1 d0 d1 ex1 hp1' => ?_⟩
    have pt : p ≠ t := hp.ne ht
    obtain ⟨c, hc, ec⟩ := menu (L := [0, 3, 20, 12, 20, 60, 200, 6]) d0 d1
    refine ⟨t, _, d, _, rfl, rfl, SqL.of (ex1.keep _ _ upd_same (by simpa using pt.symm)), ec, ?_⟩
    have e1 : Ext [p] H H1 := (Ext.new ht).trans ex1
    -- if count == 60
    refine ⟨fun σ H' => ∃ c : Int, σ = [some (.ref p), some (.int rows), some (.int c), none, none, none, none, none, none, none, none, none, none] ∧ 0 ≤ c ∧ c ≤ 200 ∧ Ext [p] H H' ∧ PoolAt H' p, ?_, ?_⟩
    · refine ⟨_, rfl, rfl, _, rfl, iteP (fun e => ?_) (fun e => ?_)⟩
      · refine ⟨_, rfl, p, 180, rfl, hp1', by decide, by decide, fun d' H2 d0' d1' ex2 hp2 => ?_⟩
        exact ⟨_, _, rfl, rfl, _, rfl, by omega, by omega, e1.trans ex2, hp2⟩
      · refine ⟨_, rfl, ?_, ?_, e1, hp1'⟩ <;> simp at hc <;> omega
    rintro σ H2 ⟨c, rfl, c0, c1, e2, hp2⟩
    -- far, heavy
    refine ⟨sz (by show 4 ≤ 100000; decide), fun t2 ht2 => ?_⟩
    refine ⟨_, rfl, p, 4, rfl, hp2.ext (Ext.new (M := []) ht2) (by simp), by decide, by decide, fun d2 H3 d20 d21 ex3 hp3 => ?_⟩
    have pt2 : p ≠ t2 := hp2.ne ht2
    obtain ⟨far, hfar, efar⟩ := menu (L := [2, 3, 4, 41]) d20 d21
    refine ⟨t2, _, d2, _, rfl, rfl, SqL.of (ex3.keep _ _ upd_same (by simpa using pt2.symm)), efar, ?_⟩
    have e3 : Ext [p] H H3 := e2.trans ((Ext.new ht2).trans ex3)
    refine ⟨sz (by show 4 ≤ 100000; decide), fun t3 ht3 => ?_⟩
    refine ⟨_, rfl, p, 4, rfl, hp3.ext (Ext.new (M := []) ht3) (by simp), by decide, by decide, fun d3 H4 d30 d31 ex4 hp4 => ?_⟩
    have pt3 : p ≠ t3 := hp3.ne ht3
    obtain ⟨heavy, hheavy, eheavy⟩ := menu (L := [2, 4, 11, 41]) d30 d31
    refine ⟨t3, _, d3, _, rfl, rfl, SqL.of (ex4.keep _ _ upd_same (by simpa using pt3.symm)), eheavy, ?_⟩
    have e4 : Ext [p] H H4 := e3.trans ((Ext.new ht3).trans ex4)
    have far1 : 2 ≤ far ∧ far ≤ 41 := by simp at hfar; omega
    have heavy1 : 2 ≤ heavy ∧ heavy ≤ 41 := by simp at hheavy; omega
    -- arcs = []
    refine ⟨sz (by show 0 ≤ 100000; decide), fun b hb => ?_⟩
    have pb : p ≠ b := hp4.ne hb
    have e5 : Ext [p] H (upd H4 b (.lst [])) := e4.trans (Ext.new hb)
    have hbH : H b = none := e4.free _ hb
    refine ⟨_, rfl, c, rfl, by omega, by omega, for_range (lo := 0) (n := c.toNat)
      (fun i σ H' => ∃ (xs : List V) (arcs : List Rw) (c6 c7 c8 c9 c10 c11 c12 : Option V), σ = [some (.ref p), some (.int rows), some (.int c), some (.int far), some (.int heavy), some (.ref b), c6, c7, c8, c9, c10, c11, c12] ∧
        H' b = some (.lst xs) ∧ Ims K H' (arcs.map rowD) xs ∧ arcs.length = i ∧ (∀ r ∈ arcs, FitR rows r) ∧ Ext [p, b] H H' ∧ PoolAt H' p)
      ⟨[], [], none, none, none, none, none, none, none, rfl, upd_same, .nil, rfl, (fun _ z => nomatch z), e5.mono (by simp), hp4.ext (Ext.new (M := []) hb) (by simp)⟩ ?_ ?_⟩
    · rintro i σ H5 hi ⟨xs, arcs, c6, c7, c8, c9, c10, c11, c12, rfl, hb5, him, hlen, hfit, ex5, hp5⟩
      have hi2 : i < 200 := by omega
      have keep : ∀ {H H' : Hp}, Ext [p] H H' → H b = some (.lst xs) → H' b = some (.lst xs) := fun e h => e.keep _ _ h (by simpa using pb.symm)
      have up : ∀ {H H' : Hp}, Ext [p] H H' → Ext [p, b] H H' := fun e => e.mono (by simp)
      -- u, v, dist, way
      refine ⟨_, rfl, _, rfl, p, rows, rfl, hp5, by omega, by omega, fun u H6 u0 u1 ex6 hp6 => ?_⟩
      refine ⟨_, rfl, _, rfl, p, rows, rfl, hp6, by omega, by omega, fun v H7 v0 v1 ex7 hp7 => ?_⟩
      refine ⟨_, rfl, _, rfl, p, far, rfl, hp7, by omega, by omega, fun dist H8 dd0 dd1 ex8 hp8 => ?_⟩
      refine ⟨_, rfl, p, 8, rfl, hp8, by decide, by decide, fun way H9 w0 w1 ex9 hp9 => ?_⟩
      have b9 := keep ex9 (keep ex8 (keep ex7 (keep ex6 hb5)))
      have i9 := (((him.ext ex6).ext ex7).ext ex8).ext ex9
      have e9 : Ext [p, b] H H9 := ex5.trans ((up ex6).trans ((up ex7).trans ((up ex8).trans (up ex9))))
      have hxl : xs.length = arcs.length := by rw [← i9.length, List.length_map]
      -- if way < 3 and len(arcs) > 0
      refine ⟨fun σ H' => H9 = H' ∧ ∃ (u v dist : Int) (c11 c12 : Option V), σ = [some (.ref p), some (.int rows), some (.int c), some (.int far), some (.int heavy), some (.ref b), some (.int (0 + i)), some (.int u), some (.int v), some (.int dist), some (.int way), c11, c12] ∧
        0 ≤ u ∧ u < rows ∧ 0 ≤ v ∧ v < rows ∧ 0 ≤ dist ∧ dist ≤ 40, ?_, ?_⟩
      · have plain : ∀ c11 c12 : Option V, ∃ (u' v' dist' : Int) (c11' c12' : Option V), ([some (.ref p), some (.int rows), some (.int c), some (.int far), some (.int heavy), some (.ref b), some (.int (0 + i)), some (.int u), some (.int v), some (.int dist), some (.int way), c11, c12] : L2.St) = [some (.ref p), some (.int rows), some (.int c), some (.int far), some (.int heavy), some (.ref b), some (.int (0 + i)), some (.int u'), some (.int v'), some (.int dist'), some (.int way), c11', c12'] ∧
          0 ≤ u' ∧ u' < rows ∧ 0 ≤ v' ∧ v' < rows ∧ 0 ≤ dist' ∧ dist' ≤ 40 := fun _ _ => ⟨_, _, _, _, _, rfl, u0, u1, v0, v1, dd0, by omega⟩
        refine ⟨_, rfl, _, _, rfl, rfl, _, rfl, iteP (fun e => ?_) (fun e => ?_)⟩
        · refine ⟨_, rfl, _, xs.length, rfl, Or.inl ⟨_, SqL.of b9, rfl⟩, _, _, rfl, rfl, _, rfl, iteP (fun e2 => ?_) (fun e2 => ?_)⟩
          · -- u, v, last, lag = arcs[-1]
            obtain ⟨ys, y, rfl⟩ : ∃ ys y, xs = ys ++ [y] := by
              rcases List.eq_nil_or_concat xs with h | ⟨ys, y, h⟩
              · rw [h] at e2; exact absurd e2 (by decide)
              · exact ⟨ys, y, by rw [h, List.concat_eq_append]⟩
            have hy : (ys ++ [y])[ys.length]? = some y := by simp
            obtain ⟨r, tr, hr0, rfl, htr⟩ := ims_row i9 hy
            obtain ⟨u', v', d', l', rfl, a1, a2, a3, a4, a5, a6, a7, a8, _⟩ := hfit r (List.mem_of_getElem? hr0)
            refine ⟨_, rfl, _, rfl, _, _, _, _, rfl, rfl, SqL.of b9, atI_last1, ?_⟩
            refine ⟨tr, _, rfl, SqT.of htr, rfl, _, _, rfl, _, _, rfl, _, _, rfl, _, _, rfl, rfl, ?_⟩
            refine ⟨_, rfl, rfl, _, rfl, iteP (fun e3 => ?_) (fun e3 => ?_)⟩
            · exact ⟨_, rfl, rfl, _, _, _, _, _, rfl, a1, a2, a3, a4, a5, a6⟩
            · exact ⟨rfl, _, _, _, _, _, rfl, a1, a2, a3, a4, dd0, by omega⟩
          · exact ⟨rfl, plain _ _⟩
        · exact ⟨rfl, plain _ _⟩
      rintro σ H' ⟨rfl, u, v, dist, c11, c12, rfl, u0, u1, v0, v1, dd0, dd1⟩
      -- if dist == 0 and u >= v
      refine ⟨fun σ H' => H9 = H' ∧ ∃ (dist : Int), σ = [some (.ref p), some (.int rows), some (.int c), some (.int far), some (.int heavy), some (.ref b), some (.int (0 + i)), some (.int u), some (.int v), some (.int dist), some (.int way), c11, c12] ∧
        0 ≤ dist ∧ dist ≤ 40 ∧ (0 < dist ∨ u < v), ?_, ?_⟩
      · refine ⟨_, rfl, rfl, _, rfl, iteP (fun e => ?_) (fun e => ?_)⟩
        · have e : dist = 0 := by simpa using e
          refine ⟨_, rfl, _, rfl, _, _, rfl, rfl, _, rfl, iteP (fun e2 => ?_) (fun e2 => ?_)⟩
          · exact ⟨rfl, 1, rfl, by decide, by decide, .inl (by decide)⟩
          · exact ⟨rfl, _, rfl, dd0, dd1, .inr (by omega)⟩
        · have e : dist ≠ 0 := by simpa using e
          exact ⟨rfl, _, rfl, dd0, dd1, .inl (by omega)⟩
      rintro σ H' ⟨rfl, dist, rfl, dd0, dd1, duv⟩
      -- arcs.append((u, v, dist, draw))
      refine ⟨_, rfl, Or.inl ⟨rfl, _, SqL.of b9⟩, ?_⟩
      refine ⟨_, rfl, _, rfl, _, rfl, _, rfl, _, rfl, p, heavy, rfl, hp9, by omega, by omega, fun lag H10 l0 l1 ex10 hp10 => ?_⟩
      refine ⟨sz (by show 4 ≤ 100000; decide), fun tn hn => ?_⟩
      have b10 := keep ex10 b9
      have bt : b ≠ tn := ne_of_none b10 hn
      have b11 : (upd H10 tn (.tup [.int u, .int v, .int dist, .int lag])) b = some (.lst xs) := by rw [upd_ne bt]; exact b10
      refine ⟨b, xs, .ref tn, rfl, rfl, b11, szl (by omega), ?_⟩
      have ex11 : Ext [p, b] H10 _ := (Ext.new (o := .tup [.int u, .int v, .int dist, .int lag]) hn).trans (Ext.write (o := .lst xs) (o' := .lst (xs ++ [.ref tn])) b11 trivial (by simp))
      refine ⟨xs ++ [.ref tn], arcs ++ [[u, v, dist, lag]], _, _, _, _, _, _, _, rfl, upd_same, ?_, ?_, ?_, ?_, ?_⟩
      · rw [List.map_append]
        refine ((i9.ext ex10).ext ex11).append (.one (Im.of_tints (ns := [u, v, dist, lag]) ?_))
        rw [upd_ne bt.symm, upd_same]
        rfl
      · rw [List.length_append, hlen]
        rfl
      · intro r hr
        rcases List.mem_append.mp hr with hr | hr
        · exact hfit r hr
        · rw [List.mem_singleton.mp hr]
          exact ⟨u, v, dist, lag, rfl, u0, u1, v0, v1, dd0, dd1, l0, by omega, duv⟩
      · exact e9.trans ((up ex10).trans ex11)
      · have p1 := hp10.ext (Ext.new (M := []) (o := .tup [.int u, .int v, .int dist, .int lag]) hn) (by simp)
        exact p1.ext (Ext.write (M := [b]) b11 trivial (by simp)) (by simpa using pb)
    · rintro σ H5 ⟨xs, arcs, c6, c7, c8, c9, c10, c11, c12, rfl, hb5, him, hlen, hfit, ex5, hp5⟩
      refine ⟨_, rfl, q b xs arcs H5 hbH ?_ hp5 hb5 him ⟨by omega, hfit⟩⟩
      exact (ex5.mono (M' := [b, p]) (by simp)).drop hbH
end
end K19
namespace K19
open PySem PySem.Spec PyProof.Rows L2 Gd Bx Cl Sx En
theorem sc_Net_init : FnScope ["self", "rows", "arcs", "at", "arc"] ["self", "rows", "arcs"] (defScope s_Net_init) := ⟨rfl, rfl, rfl, by decide +kernel, rfl, by decide +kernel, by decide +kernel⟩
structure NetC (K : PySem.W.Frag) (mg : Str → Option Value) (C : Addr) : Prop where
  dfn : ClsDef K mg "Net" "Net.__init__" s_Net_init C
  cl : Cls K C
  nR : NoAttr K C "rows"
  nA : NoAttr K C "arcs"
def flds (rows : Int) (a : Addr) : List (Str × V) := putF "arcs" (.ref a) (putF "rows" (.int rows) [])
theorem kra : ¬ (("rows" : Str) = "arcs") := by decide +kernel
theorem flds_rows (rows : Int) (a : Addr) : (flds rows a).lookup ("rows" : Str) = some (.int rows) := by
  unfold flds
  rw [lookup_putF, if_neg kra, lookup_putF, if_pos rfl]
theorem flds_arcs (rows : Int) (a : Addr) : (flds rows a).lookup ("arcs" : Str) = some (.ref a) := by
  unfold flds
  rw [lookup_putF, if_pos rfl]
/-- a net: its rows, its kept arcs -/
def NetAt (K : PySem.W.Frag) (C : Addr) (H : Hp) (p : Addr) (rows : Int) (A : List Rw) : Prop :=
  ∃ (dx a : Addr) (xs : List V), H p = some (.ins C dx (flds rows a)) ∧ H a = some (.tup xs) ∧ Ims K H (A.map rowD) xs
theorem NetAt.ext {K : PySem.W.Frag} {C p : Addr} {H H' : Hp} {rows : Int} {A : List Rw} {M : List Addr} (h : NetAt K C H p rows A) (e : Ext M H H') (hm : p ∉ M) : NetAt K C H' p rows A :=
  let ⟨dx, a, xs, h1, h2, h3⟩ := h
  ⟨dx, a, xs, e.keep _ _ h1 hm, e.tups _ _ h2, h3.ext e⟩
theorem Kept.fit {rows : Int} {arcs A : List Rw} (h : Kept arcs A) (f : ArcsOf rows arcs) : ∀ r ∈ A, FitR rows r := fun r hr => by
  obtain ⟨u, v, d, l, rfl, m, _⟩ := (h.mem r).mp hr
  exact f.2 _ m
def spNetL (K : PySem.W.Frag) (C : Addr) : Sp := fun vs H Q _ => ∃ (x a dx : Addr) (rows : Int) (xs : List V) (arcs : List Rw), vs = [.ref x, .int rows, .ref a] ∧ H x = some (.ins C dx []) ∧ H a = some (.lst xs) ∧ Ims K H (arcs.map rowD) xs ∧ ArcsOf rows arcs ∧
  1 ≤ rows ∧ rows ≤ 8 ∧ ∀ (A : List Rw) (H' : Hp), Kept arcs A → NetAt K C H' x rows A → A.length ≤ 200 → Ext [x] H H' → Q .non H'
section
variable {P : Program} {w : World} {K : PySem.W.Frag} {mg : Str → Option Value} {base : Heap}
theorem ok_NetL (T : Txt K mg) {C : Addr} (N : NetC K mg C) : Maker P w K mg base CX0 2 "Net" C ["self", "rows", "arcs"] (spNetL K C) := by
  refine maker_of0 N.dfn sc_Net_init (fun _ _ _ _ _ _ us hl => match us, hl with | [_, _, _], _ => rfl) (fun vs H Q E h => ?_) (fun f cdv A outer s H vs Q E hr h => ?_)
  · obtain ⟨x, a, dx, rows, xs, arcs, rfl, _⟩ := h
    rfl
  · obtain ⟨x, a, dx, rows, xs, arcs, rfl, hx, hs, him, hA, r1, r8, q⟩ := h
    have nd := sc_Net_init.nd
    refine ⟨_, (pss_cons (ps_if (PW.pt (pw_or (pt_not (pt_chain op_le op_le (pe_int) (pv 1) (pgi rfl T.MOST_ROWS))) (pw_or1 (pt_cmpR op_gt (pe_callB call_len rfl T.len boot_len (pa_cons (pv 2) (pa_nil))) (pgi rfl T.MOST_ARCS) (nomark _)))))
  (pss_one ps_never)
  (pss_nil))
(pss_cons (ps_for PassesOwn.never rfl (pi_enum rfl T.enumerate (pa_cons (pv 2) (pa_nil))) (pg_tup rfl (pgs_cons (pg_name (i := 3) nd rfl (Or.inl rfl)) (pgs_cons (pg_name (i := 4) nd rfl (Or.inl rfl)) (pgs_nil))))
  (pss_one (ps_if (pt_not (pt_val (pc0 (ok_arc_fits T) hr (pa_cons (pv 1) (pa_cons (pv 4) (pa_nil))))))
    (pss_one ps_never)
    (pss_nil))))
(pss_cons (ps_fld (pv 0) (pv 1) rfl)
(pss_one (ps_fld (pv 0) (pc0 (ok_kept_arcsL T) hr (pa_cons (pv 2) (pa_nil))) rfl))))), ?_⟩
    have hxl : xs.length = arcs.length := by rw [← him.length, List.length_map]
    refine ⟨_, rfl, _, _, rfl, rfl, _, rfl, iteY (p := 1 ≤ rows) r1 ⟨_, _, rfl, rfl, _, rfl, ?_⟩⟩
    show (if (!decide (rows ≤ 8)) = true then _ else _)
    refine iteN (fun h => absurd r8 h) (fun _ => ?_)
    refine ⟨_, rfl, _, xs.length, rfl, Or.inl ⟨_, SqL.of hs, rfl⟩, _, _, rfl, rfl, _, rfl, ?_⟩
    refine iteX (by have := hA.1; omega) ?_
    refine ⟨_, rfl, a, xs, rfl, SqL.of hs, for_enumL (K := K) (a := a) (xs := xs)
      (fun i σ H' => ∃ (c3 c4 : Option V), σ = [some (.ref x), some (.int rows), some (.ref a), c3, c4] ∧ Ext [] H H')
      ⟨none, none, rfl, Ext.refl⟩ (fun i σ H' _ ⟨_, _, _, e⟩ => SqL.of (e.keep _ _ hs (by simp))) ?_ ?_⟩
    · rintro i y σ H' t hy ⟨c3, c4, rfl, e⟩ ht
      have e2 : Ext [] H (upd H' t (.tup [.int (i : Nat), y])) := e.trans (Ext.new ht)
      obtain ⟨r, tr, hri, rfl, htr⟩ := ims_row (him.ext e2) hy
      obtain ⟨u, v, d, l, rfl, a1, a2, a3, a4, a5, a6, a7, a8, a9⟩ := hA.2 r (List.mem_of_getElem? hri)
      refine ⟨t, _, rfl, SqT.of upd_same, rfl, _, _, rfl, _, _, rfl, rfl, ?_⟩
      refine ⟨_, rfl, _, rfl, rows, u, v, d, l, tr, rfl, SqT.of htr, _, rfl, ?_⟩
      have hf : fits rows u v d l = true := by
        simp only [fits, decide_eq_true_eq]
        omega
      rw [hf]
      exact ⟨_, _, rfl, e2⟩
    · rintro σ H' ⟨c3, c4, rfl, e⟩
      have hx' : H' x = some (.ins C dx []) := e.keep _ _ hx (by simp)
      refine ⟨_, rfl, _, rfl, x, C, dx, [], rfl, hx', N.cl, N.nR, by show 0 < 1000; decide, ?_⟩
      have e3 : Ext [x] H' (upd H' x (.ins C dx (putF "rows" (.int rows) []))) := Ext.write hx' trivial List.mem_cons_self
      have e4 : Ext [x] H (upd H' x (.ins C dx (putF "rows" (.int rows) []))) := e.any.trans e3
      refine ⟨_, rfl, a, xs, arcs, rfl, e4.keep _ _ hs (by simpa using ne_of hs hx (by intro z; cases z)), him.ext e4, hA.arcs, fun A p H2 hk hp e5 hl => ?_⟩
      have hx2 : H2 x = some (.ins C dx (putF "rows" (.int rows) [])) := e5.keep _ _ upd_same (by simp)
      refine ⟨_, rfl, x, C, dx, _, rfl, hx2, N.cl, N.nA, by show 1 < 1000; decide, ?_⟩
      have e6 : Ext [x] H2 (upd H2 x (.ins C dx (flds rows p))) := Ext.write hx2 trivial List.mem_cons_self
      cases hp with
      | tup hpt hps =>
        exact q A _ hk ⟨dx, p, _, upd_same, e6.tups _ _ hpt, hps.ext e6⟩ hl (e4.trans (e5.any.trans e6))
end
def spNetT (K : PySem.W.Frag) (C : Addr) : Sp := fun vs H Q _ => ∃ (x a dx : Addr) (rows : Int) (xs : List V) (arcs : List Rw), vs = [.ref x, .int rows, .ref a] ∧ H x = some (.ins C dx []) ∧ SqT K H a xs ∧ Ims K H (arcs.map rowD) xs ∧ ArcsOf rows arcs ∧
  1 ≤ rows ∧ rows ≤ 8 ∧ ∀ (A : List Rw) (H' : Hp), Kept arcs A → NetAt K C H' x rows A → A.length ≤ 200 → Ext [x] H H' → Q .non H'
section
variable {P : Program} {w : World} {K : PySem.W.Frag} {mg : Str → Option Value} {base : Heap}
theorem ok_NetT (T : Txt K mg) {C : Addr} (N : NetC K mg C) : Maker P w K mg base CX0 2 "Net" C ["self", "rows", "arcs"] (spNetT K C) := by
  refine maker_of0 N.dfn sc_Net_init (fun _ _ _ _ _ _ us hl => match us, hl with | [_, _, _], _ => rfl) (fun vs H Q E h => ?_) (fun f cdv A outer s H vs Q E hr h => ?_)
  · obtain ⟨x, a, dx, rows, xs, arcs, rfl, _⟩ := h
    rfl
  · obtain ⟨x, a, dx, rows, xs, arcs, rfl, hx, hs, him, hA, r1, r8, q⟩ := h
    have nd := sc_Net_init.nd
    refine ⟨_, (pss_cons (ps_if (PW.pt (pw_or (pt_not (pt_chain op_le op_le (pe_int) (pv 1) (pgi rfl T.MOST_ROWS))) (pw_or1 (pt_cmpR op_gt (pe_callB call_len rfl T.len boot_len (pa_cons (pv 2) (pa_nil))) (pgi rfl T.MOST_ARCS) (nomark _)))))
  (pss_one ps_never)
  (pss_nil))
(pss_cons (ps_for PassesOwn.never rfl (pi_enumT rfl T.enumerate (pa_cons (pv 2) (pa_nil))) (pg_tup rfl (pgs_cons (pg_name (i := 3) nd rfl (Or.inl rfl)) (pgs_cons (pg_name (i := 4) nd rfl (Or.inl rfl)) (pgs_nil))))
  (pss_one (ps_if (pt_not (pt_val (pc0 (ok_arc_fits T) hr (pa_cons (pv 1) (pa_cons (pv 4) (pa_nil))))))
    (pss_one ps_never)
    (pss_nil))))
(pss_cons (ps_fld (pv 0) (pv 1) rfl)
(pss_one (ps_fld (pv 0) (pc0 (ok_kept_arcsT T) hr (pa_cons (pv 2) (pa_nil))) rfl))))), ?_⟩
    have hxl : xs.length = arcs.length := by rw [← him.length, List.length_map]
    refine ⟨_, rfl, _, _, rfl, rfl, _, rfl, iteY (p := 1 ≤ rows) r1 ⟨_, _, rfl, rfl, _, rfl, ?_⟩⟩
    show (if (!decide (rows ≤ 8)) = true then _ else _)
    refine iteN (fun h => absurd r8 h) (fun _ => ?_)
    refine ⟨_, rfl, _, xs.length, rfl, Or.inr ⟨_, hs, rfl⟩, _, _, rfl, rfl, _, rfl, ?_⟩
    refine iteX (by have := hA.1; omega) ?_
    refine ⟨_, rfl, a, xs, rfl, hs, for_enumT (K := K) (a := a) (xs := xs)
      (fun i σ H' => ∃ (c3 c4 : Option V), σ = [some (.ref x), some (.int rows), some (.ref a), c3, c4] ∧ Ext [] H H')
      ⟨none, none, rfl, Ext.refl⟩ (fun i σ H' _ ⟨_, _, _, e⟩ => e.seqT hs) ?_ ?_⟩
    · rintro i y σ H' t hy ⟨c3, c4, rfl, e⟩ ht
      have e2 : Ext [] H (upd H' t (.tup [.int (i : Nat), y])) := e.trans (Ext.new ht)
      obtain ⟨r, tr, hri, rfl, htr⟩ := ims_row (him.ext e2) hy
      obtain ⟨u, v, d, l, rfl, a1, a2, a3, a4, a5, a6, a7, a8, a9⟩ := hA.2 r (List.mem_of_getElem? hri)
      refine ⟨t, _, rfl, SqT.of upd_same, rfl, _, _, rfl, _, _, rfl, rfl, ?_⟩
      refine ⟨_, rfl, _, rfl, rows, u, v, d, l, tr, rfl, SqT.of htr, _, rfl, ?_⟩
      have hf : fits rows u v d l = true := by
        simp only [fits, decide_eq_true_eq]
        omega
      rw [hf]
      exact ⟨_, _, rfl, e2⟩
    · rintro σ H' ⟨c3, c4, rfl, e⟩
      have hx' : H' x = some (.ins C dx []) := e.keep _ _ hx (by simp)
      refine ⟨_, rfl, _, rfl, x, C, dx, [], rfl, hx', N.cl, N.nR, by show 0 < 1000; decide, ?_⟩
      have e3 : Ext [x] H' (upd H' x (.ins C dx (putF "rows" (.int rows) []))) := Ext.write hx' trivial List.mem_cons_self
      have e4 : Ext [x] H (upd H' x (.ins C dx (putF "rows" (.int rows) []))) := e.any.trans e3
      refine ⟨_, rfl, a, xs, arcs, rfl, e4.seqT hs, him.ext e4, hA.arcs, fun A p H2 hk hp e5 hl => ?_⟩
      have hx2 : H2 x = some (.ins C dx (putF "rows" (.int rows) [])) := e5.keep _ _ upd_same (by simp)
      refine ⟨_, rfl, x, C, dx, _, rfl, hx2, N.cl, N.nA, by show 1 < 1000; decide, ?_⟩
      have e6 : Ext [x] H2 (upd H2 x (.ins C dx (flds rows p))) := Ext.write hx2 trivial List.mem_cons_self
      cases hp with
      | tup hpt hps =>
        exact q A _ hk ⟨dx, p, _, upd_same, e6.tups _ _ hpt, hps.ext e6⟩ hl (e4.trans (e5.any.trans e6))
end
end K19
/-! Gs: data that repr shows within the line. -/
namespace Gs
open PySem PySem.Spec PyProof.Rows L2 Gd Bx Cl Sx K19 Wy
structure Sml (d : PyData) : Prop where
  ls : d.leavesShort 13 = true
  sh : d.showable = true
  cl : d.canLay0 = true
theorem small_log {i : Int} (h : i.natAbs < 10 ^ 12) : i.natAbs.log2 < 1920 :=
  Nat.lt_trans (PySem.Flt.log2_lt_of (by decide) (Nat.lt_trans h (show 10 ^ 12 < 2 ^ 40 by decide))) (by decide)
theorem Sml.int {i : Int} (h : i.natAbs < 10 ^ 12) : Sml (.int i) :=
  ⟨by simp only [PyData.leavesShort, decide_eq_true_eq]; exact PyData.shown_int_le h, by simp only [PyData.showable, decide_eq_true_eq]; exact small_log h, by simp only [PyData.canLay0]⟩
theorem Sml.none : Sml .none := ⟨rfl, rfl, rfl⟩
theorem Sml.str {x : Str} (h : x.cps.toList.all (fun c => decide (c < 16 ^ 8)) = true) (h2 : PyData.canLay0 (.str x) = true) : Sml (.str x) :=
  ⟨by simpa only [PyData.leavesShort] using h, rfl, h2⟩
theorem sml_all : ∀ {ds : List PyData}, (∀ d ∈ ds, Sml d) → PyData.leavesShortAll 13 ds = true ∧ PyData.showableAll ds = true ∧ PyData.canLayAll0 ds = true
  | [], _ => ⟨rfl, rfl, rfl⟩
  | d :: ds, h => by
    obtain ⟨a, b, c⟩ := sml_all fun x hx => h x (List.mem_cons_of_mem _ hx)
    have hd := h d List.mem_cons_self
    simp only [PyData.leavesShortAll, PyData.showableAll, PyData.canLayAll0, Bool.and_eq_true]
    exact ⟨⟨hd.ls, a⟩, ⟨hd.sh, b⟩, hd.cl, c⟩
theorem Sml.tup {ds : List PyData} (h : ∀ d ∈ ds, Sml d) : Sml (.tuple ds) :=
  let ⟨a, b, c⟩ := sml_all h
  ⟨by simpa only [PyData.leavesShort] using a, by simpa only [PyData.showable] using b, by simpa only [PyData.canLay0] using c⟩
theorem Sml.lst {ds : List PyData} (h : ∀ d ∈ ds, Sml d) : Sml (.list ds) :=
  let ⟨a, b, c⟩ := sml_all h
  ⟨by simpa only [PyData.leavesShort] using a, by simpa only [PyData.showable] using b, by simpa only [PyData.canLay0] using c⟩
theorem Sml.good {d : PyData} (h : Sml d) (hd : d.depth ≤ 60) (hb : d.bulk ≤ 1000000) : Good d where
  shp := by
    show (d.canLay0 && decide (d.depth ≤ 64)) = true
    rw [h.cl, decide_eq_true (by omega)]
    rfl
  shw := h.sh
  nod := PyData.hasDict_of_canLay d h.cl
  dep := hd
  int := fun i e => by
    have := h.sh
    rw [e] at this
    simpa only [PyData.showable, decide_eq_true_eq] using this
  len := PyData.shown_fits_bulk (by decide) (by decide) h.ls (by omega)
theorem bulk_ints : ∀ r : Rw, PyData.bulkAll (r.map .int) = r.length
  | [] => rfl
  | x :: r => by
    show PyData.bulkAll (.int x :: r.map .int) = r.length + 1
    simp only [PyData.bulkAll, PyData.bulk, bulk_ints r]
    omega
theorem bulk_row (r : Rw) : (rowD r).bulk = r.length := by
  unfold rowD
  simp only [PyData.bulk]
  exact bulk_ints r
theorem bulk_rows : ∀ rows : List Rw, (∀ r ∈ rows, r.length ≤ 4) → PyData.bulkAll (rows.map rowD) ≤ 5 * rows.length
  | [], _ => Nat.le_refl _
  | r :: rows, h => by
    have h1 := bulk_rows rows fun x hx => h x (List.mem_cons_of_mem _ hx)
    have h2 := h r List.mem_cons_self
    have h3 := bulk_row r
    show PyData.bulkAll (rowD r :: rows.map rowD) ≤ 5 * (rows.length + 1)
    simp only [PyData.bulkAll]
    omega
theorem depth_rows : ∀ rows : List Rw, PyData.depthAll (rows.map rowD) ≤ 2
  | [] => Nat.zero_le _
  | r :: rows => by
    have h1 := depth_rows rows
    have h2 := depth_row r
    show PyData.depthAll (rowD r :: rows.map rowD) ≤ 2
    simp only [PyData.depthAll]
    omega
theorem sml_row {r : Rw} (h : ∀ x ∈ r, x.natAbs < 10 ^ 12) : Sml (rowD r) := .tup fun d hd => by
  obtain ⟨x, hx, rfl⟩ := List.mem_map.mp hd
  exact .int (h x hx)
/-- rows of arcs that fit -/
theorem sml_arcs {n : Nat} {rows : List Rw} (n8 : n ≤ 8) (h : ∀ r ∈ rows, FitR n r) : ∀ d ∈ rows.map rowD, Sml d := fun d hd => by
  obtain ⟨r, hr, rfl⟩ := List.mem_map.mp hd
  obtain ⟨u, v, d, l, rfl, a1, a2, a3, a4, a5, a6, a7, a8, _⟩ := h r hr
  refine sml_row fun x hx => ?_
  have : 0 ≤ x ∧ x ≤ 40 := by
    simp at hx
    omega
  omega
theorem len_arcs {n : Nat} {rows : List Rw} (h : ∀ r ∈ rows, FitR n r) : ∀ r ∈ rows, r.length ≤ 4 := fun r hr => by
  obtain ⟨u, v, d, l, rfl, _⟩ := h r hr
  exact Nat.le_refl 4
theorem good_arcs {n : Nat} {rows : List Rw} (n8 : n ≤ 8) (h : ∀ r ∈ rows, FitR n r) (hl : rows.length ≤ 200) : Good (.tuple (rows.map rowD)) := by
  refine (Sml.tup (sml_arcs n8 h)).good ?_ ?_
  · have := depth_rows rows
    simp only [PyData.depth]
    omega
  · have := bulk_rows rows (len_arcs h)
    simp only [PyData.bulk]
    omega
theorem good_net {n : Nat} {rows : List Rw} (n8 : n ≤ 8) (h : ∀ r ∈ rows, FitR n r) (hl : rows.length ≤ 200) : Good (.tuple [.int n, .tuple (rows.map rowD)]) := by
  refine (Sml.tup fun d hd => ?_).good ?_ ?_
  · rcases List.mem_cons.mp hd with e | hd
    · rw [e]; exact .int (by omega)
    · rw [List.mem_singleton.mp hd]
      exact .tup (sml_arcs n8 h)
  · have := depth_rows rows
    simp only [PyData.depth, PyData.depthAll]
    omega
  · have := bulk_rows rows (len_arcs h)
    simp only [PyData.bulk, PyData.bulkAll]
    omega
/-! told lags -/
def oD : Option Int → PyData
  | none => .none
  | some m => .int m
theorem dp_o {K : PySem.W.Frag} {H : Hp} : ∀ o : Option Int, Dp K H (oV o) (oD o)
  | none => .non
  | some m => .int m
def Sm (o : Option Int) : Prop := ∀ m, o = some m → 0 ≤ m ∧ m ≤ 20000
theorem sml_o {o : Option Int} (h : Sm o) : Sml (oD o) := by
  cases o with
  | none => exact .none
  | some m => exact .int (by have := h m rfl; omega)
theorem depth_o : ∀ o : Option Int, (oD o).depth = 0
  | none => rfl
  | some m => rfl
theorem bulk_o : ∀ o : Option Int, (oD o).bulk = 0
  | none => rfl
  | some m => rfl
theorem good_o {o : Option Int} (h : Sm o) : Good (oD o) := (sml_o h).good (by rw [depth_o]; omega) (by rw [bulk_o]; omega)
theorem good_os {os : List (Option Int)} (hl : os.length ≤ 10) (h : ∀ o ∈ os, Sm o) : Good (.list (os.map oD)) := by
  have hd : ∀ os : List (Option Int), PyData.depthAll (os.map oD) = 0 := fun os => by
    induction os with
    | nil => rfl
    | cons o os ih =>
      show PyData.depthAll (oD o :: os.map oD) = 0
      simp only [PyData.depthAll, depth_o, ih]
      rfl
  have hb : ∀ os : List (Option Int), PyData.bulkAll (os.map oD) = os.length := fun os => by
    induction os with
    | nil => rfl
    | cons o os ih =>
      show PyData.bulkAll (oD o :: os.map oD) = os.length + 1
      simp only [PyData.bulkAll, bulk_o, ih]
      omega
  refine (Sml.lst fun d hd => ?_).good ?_ ?_
  · obtain ⟨o, ho, rfl⟩ := List.mem_map.mp hd
    exact sml_o (h o ho)
  · simp only [PyData.depth, hd]
    omega
  · simp only [PyData.bulk, hb]
    omega
theorem sm_great {S : List Rw} {n u v f : Nat} {o : Option Int} (ok : StepsOf n S) (n8 : n ≤ 8) (hv : v < n) (hf : f ≤ 40) (g : Great (Way S u v f) o) : Sm o := fun m hm => by
  rw [hm] at g
  have h1 := g.1.lag0 ok
  have h2 := g.1.bound ok n8
  exact ⟨h1, by omega⟩
theorem due_o {o : Option Int} (h : Sm o) : dueV (oI o) = oV o := by
  cases o with
  | none => rfl
  | some m =>
    have := h m rfl
    show (if m < 0 then V.non else .int m) = .int m
    rw [if_neg (by omega)]
end Gs
namespace K19
open PySem PySem.Spec PyProof.Rows L2 Gd Bx Cl Sx Tb Wy
theorem sc_net_steps : FnScope ["net", "row"] ["net"] (defScope s_net_steps) := ⟨rfl, rfl, rfl, by decide +kernel, rfl, by decide +kernel, by decide +kernel⟩
def spSteps (K : PySem.W.Frag) (C : Addr) : Sp := fun vs H Q _ => ∃ (p : Addr) (n : Nat) (A : List Rw), vs = [.ref p] ∧ NetAt K C H p n A ∧ n ≤ 8 ∧ A.length ≤ 200 ∧
  ∀ (q : Addr) (xs : List V) (H' : Hp), H q = none → H' q = some (.lst xs) → Ims K H' ((A ++ loops n).map rowD) xs → Ext [] H H' → Q (.ref q) H'
theorem loops_next {n i : Nat} (h : i < n) : (loops n).take (i + 1) = (loops n).take i ++ [[(i : Int), (i : Int), 1, 0]] := by
  refine take_next ?_
  unfold loops
  rw [List.getElem?_map, List.getElem?_range h]
  rfl
theorem loops_len (n : Nat) : (loops n).length = n := by unfold loops; rw [List.length_map, List.length_range]
section
variable {P : Program} {w : World} {K : PySem.W.Frag} {mg : Str → Option Value} {base : Heap}
theorem ok_net_steps (T : Txt K mg) {C : Addr} (N : NetC K mg C) : Callee P w K mg base CX0 1 "net_steps" ["net"] (spSteps K C) := by
  refine callee_of0 T.d_net_steps sc_net_steps (fun _ _ _ _ _ _ us hl => match us, hl with | [_], _ => rfl) (fun vs H Q E h => ?_) (fun f cdv A outer s H vs Q E hr h => ?_)
  · obtain ⟨p, n, A, rfl, _⟩ := h
    rfl
  · obtain ⟨p, n, A, rfl, ⟨dx, a, xs, hp, ha, him⟩, n8, hA, q⟩ := h
    have nd := sc_net_steps.nd
    refine ⟨_, pss_one (ps_ret (pe_op op_cat (pe_callTy call_list_of rfl T.list (by decide +kernel) (pa_cons (pe_fld (pv 0) rfl) (pa_nil))) (pe_lc (own := [("row", 1)]) rfl nd (pi_range1 rfl T.range (pa_cons (pe_fld (pv 0) rfl) (pa_nil))) (blkOk_by (own := [("row", 1)]) (N := ["net", "row"]) (sc := defScope s_net_steps) (by decide +kernel)) (fun _ _ _ _ _ => pg_name (i := 1) nd rfl (Or.inl rfl)) (fun _ _ _ _ _ => pts_nil) (fun _ _ _ _ _ => pe_tup (pa_cons (pv 1) (pa_cons (pv 1) (pa_cons (pe_int) (pa_cons (pe_int) (pa_nil))))))))), ?_⟩
    refine ⟨_, rfl, p, C, dx, _, _, rfl, hp, N.cl, N.nA, flds_arcs _ _, ?_⟩
    refine ⟨a, xs, rfl, .inr (SqT.of ha), fun b hb => ?_⟩
    have e1 : Ext [] H (upd H b (.lst xs)) := Ext.new hb
    have hp1 := e1.keep _ _ hp (by simp)
    refine ⟨_, rfl, p, C, dx, _, _, rfl, hp1, N.cl, N.nR, flds_rows _ _, ?_⟩
    refine ⟨n, rfl, by omega, by omega, fun D hD => ?_⟩
    have bD : b ≠ D := ne_of_none upd_same hD
    have e2 : Ext [D] (upd H b (.lst xs)) (upd (upd H b (.lst xs)) D (.lst [])) := Ext.new hD
    refine lc_range (lo := 0) (n := n) (fun i H2 => ∃ acc, H2 D = some (.lst acc) ∧ Ims K H2 (((loops n).take i).map rowD) acc ∧ Ext [D] (upd H b (.lst xs)) H2)
      ⟨[], upd_same, .nil, e2⟩ ?_ ?_
    · rintro i H2 hi ⟨acc, hacc, hm, e3⟩
      have hal : acc.length ≤ 8 := by
        rw [← hm.length, List.length_map]
        exact Nat.le_trans (List.length_take_le _ _) (by omega)
      refine ⟨rfl, ?_⟩
      refine ⟨_, rfl, _, rfl, sz (by show 4 ≤ 100000; decide), fun t ht => ?_⟩
      have Dt : D ≠ t := ne_of_none hacc ht
      have h3 : (upd H2 t (.tup [.int (0 + (i : Nat)), .int (0 + (i : Nat)), .int 1, .int 0])) D = some (.lst acc) := by rw [upd_ne Dt]; exact hacc
      refine ⟨acc, h3, szl (by omega), ?_⟩
      have ex : Ext [D] H2 _ := (Ext.new (o := .tup [.int (0 + (i : Nat)), .int (0 + (i : Nat)), .int 1, .int 0]) ht).trans (Ext.write (o := .lst acc) (o' := .lst (acc ++ [.ref t])) h3 trivial List.mem_cons_self)
      refine ⟨_, upd_same, ?_, e3.trans ex⟩
      rw [loops_next hi, List.map_append]
      refine (hm.ext ex).append (.one (Im.of_tints (ns := [(i : Int), (i : Int), 1, 0]) ?_))
      rw [upd_ne Dt.symm, upd_same, Int.zero_add]
      rfl
    · rintro H2 ⟨acc, hacc, hm, e3⟩
      have hm2 : Ims K H2 ((loops n).map rowD) acc := by
        rw [List.take_of_length_le (by rw [loops_len]; exact Nat.le_refl _)] at hm
        exact hm
      have hb2 : H2 b = some (.lst xs) := e3.keep _ _ upd_same (by simpa using bD)
      have l1 : xs.length = A.length := by rw [← him.length, List.length_map]
      have l2 : acc.length = n := by rw [← hm2.length, List.length_map, loops_len]
      refine ⟨b, D, xs, acc, rfl, rfl, hb2, hacc, sz (by omega), fun q2 hq2 => ?_⟩
      have e4 : Ext [] (upd H b (.lst xs)) H2 := e3.drop hD
      have e5 : Ext [] H2 (upd H2 q2 (.lst (xs ++ acc))) := Ext.new hq2
      refine q q2 _ _ ((e1.trans e4).free _ hq2) upd_same ?_ ((e1.trans e4).trans e5)
      rw [List.map_append]
      exact (((him.ext e1).ext e4).append hm2).ext e5
end
end K19
namespace K19
open PySem PySem.Spec PyProof.Rows L2 Gd Bx Cl Sx Tb Wy
theorem sc_steps_into : FnScope ["net", "into", "u", "v", "dist", "lag", "_", "steps"] ["net"] (defScope s_steps_into) := ⟨rfl, rfl, rfl, by decide +kernel, rfl, by decide +kernel, by decide +kernel⟩
structure Into (n : Nat) (S : List Rw) (t : List (List Rw)) : Prop where
  len : t.length = n
  row : ∀ (v : Nat) (r : List Rw), t[v]? = some r → r.Pairwise (fun a b => a ≤ b) ∧ IntoV S v r
def spInto (K : PySem.W.Frag) (C : Addr) : Sp := fun vs H Q _ => ∃ (p : Addr) (n : Nat) (A : List Rw), vs = [.ref p] ∧ NetAt K C H p n A ∧ n ≤ 8 ∧ A.length ≤ 200 ∧ StepsOf n (A ++ loops n) ∧
  ∀ (q : Addr) (as : List Addr) (t : List (List Rw)) (H' : Hp), LoL (RT K) H' q as t → Into n (A ++ loops n) t → Ext [] H H' → Q (.ref q) H'
section
variable {P : Program} {w : World} {K : PySem.W.Frag} {mg : Str → Option Value} {base : Heap}
theorem ok_steps_into (T : Txt K mg) {C : Addr} (N : NetC K mg C) : Callee P w K mg base CX0 2 "steps_into" ["net"] (spInto K C) := by
  refine callee_of0 T.d_steps_into sc_steps_into (fun _ _ _ _ _ _ us hl => match us, hl with | [_], _ => rfl) (fun vs H Q E h => ?_) (fun f cdv A outer s H vs Q E hr h => ?_)
  · obtain ⟨p, n, A, rfl, _⟩ := h
    rfl
  · obtain ⟨p, n, A, rfl, hnet, n8, hA, hS, q⟩ := h
    have nd := sc_steps_into.nd
    refine ⟨_, pss_cons (ps_setLc (i := 1) (own := [("_", 6)]) rfl nd rfl rfl (sw_true rfl rfl rfl (by decide +kernel)) (pi_range1 rfl T.range (pa_cons (pe_fld (pv 0) rfl) (pa_nil))) (blkOk_by (own := [("_", 6)]) (N := ["net", "into", "u", "v", "dist", "lag", "_", "steps"]) (sc := defScope s_steps_into) (by decide +kernel)) (fun _ _ _ _ _ => pg_name (i := 6) nd rfl (Or.inl rfl)) (fun _ _ _ _ _ => pts_nil) (fun _ _ _ _ _ => pe_lst (pa_nil)))
(pss_cons (ps_for PassesOwn.never rfl (pi_list (pc0 (ok_net_steps T N) hr (pa_cons (pv 0) (pa_nil)))) (pg_tup rfl (pgs_cons (pg_name (i := 2) nd rfl (Or.inl rfl)) (pgs_cons (pg_name (i := 3) nd rfl (Or.inl rfl)) (pgs_cons (pg_name (i := 4) nd rfl (Or.inl rfl)) (pgs_cons (pg_name (i := 5) nd rfl (Or.inl rfl)) (pgs_nil))))))
  (pss_one (ps_expr (pe_bm PySem.F.plainAttrs_list PySem.F.slot_list_append PySem.F.type_list_append mt_append (pe_ix ix_list (pv 1) (pv 3) (fun _ _ => rfl)) (pa_cons (pe_tup (pa_cons (pv 4) (pa_cons (pv 2) (pa_cons (pv 5) (pa_nil))))) (pa_nil))))))
(pss_one (ps_ret (pe_lc (own := [("steps", 7)]) rfl nd (pi_list (pv 1)) (blkOk_by (own := [("steps", 7)]) (N := ["net", "into", "u", "v", "dist", "lag", "_", "steps"]) (sc := defScope s_steps_into) (by decide +kernel)) (fun _ _ _ _ _ => pg_name (i := 7) nd rfl (Or.inl rfl)) (fun _ _ _ _ _ => pts_nil) (fun _ _ _ _ _ => pe_callB (sortDK K rfl hr.room) rfl T.sorted (by decide +kernel) (pa_cons (pv 7) (pa_nil))))))), ?_⟩
    obtain ⟨dx, a, xs0, hp, ha, him0⟩ := id hnet
    refine ⟨_, rfl, p, C, dx, _, _, rfl, hp, N.cl, N.nR, flds_rows _ _, n, rfl, by omega, by omega, fun D hD => ?_⟩
    have e0 : Ext [] H (upd H D (.lst [])) := Ext.new hD
    refine lc_range (lo := 0) (n := n) (fun i H2 => ∃ as, LoL (RT K) H2 D as (List.replicate i []) ∧ (∀ b ∈ as, H b = none) ∧ Ext [] H H2) ⟨[], LoL.nil upd_same, (fun _ z => nomatch z), e0⟩ ?_ ?_
    · rintro i H2 hi ⟨as, L, hn, e⟩
      refine ⟨rfl, ?_⟩
      refine ⟨sz (by show 0 ≤ 100000; decide), fun b hb => ?_⟩
      have Db := (L.off there_RT hb).1
      have hD1 : (upd H2 b (.lst [])) D = some (.lst (as.map V.ref)) := by rw [upd_ne Db]; exact L.top
      refine ⟨as.map V.ref, hD1, szl (by rw [List.length_map, L.len, List.length_replicate]; omega), as ++ [b], ?_, fun c hc => ?_, (e.trans (Ext.new hb)).wr hD hD1 trivial⟩
      · have e1 : Ext [] H2 (upd H2 b (.lst [])) := Ext.new hb
        rw [List.replicate_succ']
        refine L.push stab_RT (o := .lst []) hb e1 there_RT ⟨[], ?_, .nil⟩ hD1
        rw [upd_ne (Ne.symm Db), upd_same]
      · rcases List.mem_append.mp hc with hc | hc
        · exact hn c hc
        · rw [List.mem_singleton.mp hc]; exact e.free _ hb
    · rintro H2 ⟨as, L, hn, e⟩
      refine ⟨_, rfl, p, n, A, rfl, hnet.ext e (by simp), n8, hA, fun ql xs H3 hq3 hq him e3 => ?_⟩
      have L3 := L.ext stab_RT e3 (by simp) (by simp)
      have off := L.off there_RT hq3
      have hxl : xs.length = (A ++ loops n).length := by rw [← him.length, List.length_map]
      have hxn : xs.length ≤ 208 := by rw [hxl, List.length_append, loops_len]; omega
      refine ⟨ql, rfl, ⟨_, SqL.of hq⟩, for_list (K := K) (a := ql) (xs := xs)
        (fun i σ H' => ∃ (t : List (List Rw)) (c2 c3 c4 c5 : Option V), σ = [some (.ref p), some (.ref D), c2, c3, c4, c5, none, none] ∧ LoL (RT K) H' D as t ∧ t.length = n ∧
          (∀ (v : Nat) r, t[v]? = some r → IntoV ((A ++ loops n).take i) v r ∧ r.length ≤ i) ∧ H' ql = some (.lst xs) ∧ Ims K H' ((A ++ loops n).map rowD) xs ∧ Ext [] H H')
        ⟨List.replicate n [], none, none, none, none, rfl, L3, List.length_replicate, fun v r h => ?_, hq, him, e.trans e3⟩
        (fun i σ H' _ ⟨t, c2, c3, c4, c5, _, _, _, _, h, _⟩ => SqL.of h) ?_ ?_⟩
      · rw [List.getElem?_replicate] at h
        split at h
        · cases h
          exact ⟨fun x => ⟨fun z => (nomatch z), fun ⟨_, _, _, _, z⟩ => (nomatch z)⟩, Nat.le_refl _⟩
        · cases h
      · rintro i x σ H' hxi ⟨t, c2, c3, c4, c5, rfl, L4, tl, ht, hq4, him4, e4⟩
        obtain ⟨r, tt, hri, rfl, htt⟩ := ims_row him4 hxi
        obtain ⟨w, v, d, l, rfl⟩ := hS.four r (List.mem_of_getElem? hri)
        obtain ⟨w0, w1, v0, v1, d0, d1, l0, l1, _⟩ := hS.ok _ _ _ _ (List.mem_of_getElem? hri)
        have hi : i < 208 := Nat.lt_of_lt_of_le (List.getElem?_eq_some_iff.mp hxi).1 hxn
        refine ⟨tt, _, rfl, SqT.of htt, rfl, _, _, rfl, _, _, rfl, _, _, rfl, _, _, rfl, rfl, ?_⟩
        obtain ⟨vn, rfl⟩ := Int.eq_ofNat_of_zero_le v0
        have hvn : vn < t.length := by omega
        obtain ⟨b, eb, eb2, bm, ys, hb, hys⟩ := L4.at (List.getElem?_eq_getElem hvn)
        obtain ⟨hv1, hv2⟩ := ht vn _ (List.getElem?_eq_getElem hvn)
        refine ⟨_, rfl, _, rfl, _, _, _, _, rfl, rfl, SqL.of L4.top, atI_of eb, Or.inl ⟨rfl, _, SqL.of hb⟩, ?_⟩
        refine ⟨_, rfl, _, rfl, _, rfl, sz (by show 3 ≤ 100000; decide), fun tn hn2 => ?_⟩
        have bt : b ≠ tn := ne_of_none hb hn2
        have hb1 : (upd H' tn (.tup [.int d, .int w, .int l])) b = some (.lst ys) := by rw [upd_ne bt]; exact hb
        have e5 : Ext [] H' (upd H' tn (.tup [.int d, .int w, .int l])) := Ext.new hn2
        have hysl : ys.length ≤ i := by rw [← hys.length, List.length_map]; exact hv2
        refine ⟨b, ys, .ref tn, rfl, rfl, hb1, szl (by omega), ?_⟩
        have bH : H b = none := hn b bm
        have e6 : Ext [b] H' (upd (upd H' tn (.tup [.int d, .int w, .int l])) b (.lst (ys ++ [.ref tn]))) := e5.any.trans (Ext.write (o := .lst ys) hb1 trivial List.mem_cons_self)
        have qb : ql ≠ b := fun z => off.2 (z ▸ bm) |>.elim
        refine ⟨t.set vn (t[vn] ++ [[d, w, l]]), _, _, _, _, rfl, ?_, by rw [List.length_set]; exact tl, fun v' r' h' => ?_, e6.keep _ _ hq4 (by simpa using qb), him4.ext e6, (e4.trans e5).wr bH hb1 trivial⟩
        · refine L4.put stab_RT eb2 e6 ?_
          refine RT.snoc hb1 (hys.ext e5) ?_
          exact upd_same
        · rw [take_next hri]
          by_cases c : v' = vn
          · subst c
            rw [List.getElem?_set_self hvn] at h'
            cases h'
            refine ⟨fun x => ⟨fun hx => ?_, fun ⟨d', w', l', ex, hx⟩ => ?_⟩, by rw [List.length_append]; exact Nat.succ_le_succ hv2⟩
            · rcases List.mem_append.mp hx with hx | hx
              · obtain ⟨d', w', l', ex, hs⟩ := (hv1 x).mp hx
                exact ⟨d', w', l', ex, List.mem_append_left _ hs⟩
              · exact ⟨d, w, l, List.mem_singleton.mp hx, List.mem_append_right _ List.mem_cons_self⟩
            · rcases List.mem_append.mp hx with hx | hx
              · exact List.mem_append_left _ ((hv1 x).mpr ⟨d', w', l', ex, hx⟩)
              · have e := List.mem_singleton.mp hx
                simp at e
                obtain ⟨rfl, rfl, rfl⟩ := e
                rw [ex]
                exact List.mem_append_right _ List.mem_cons_self
          · rw [List.getElem?_set_ne (Ne.symm c)] at h'
            obtain ⟨g1, g2⟩ := ht v' r' h'
            refine ⟨fun x => (g1 x).trans ⟨fun ⟨d', w', l', ex, hx⟩ => ⟨d', w', l', ex, List.mem_append_left _ hx⟩, fun ⟨d', w', l', ex, hx⟩ => ?_⟩, by omega⟩
            rcases List.mem_append.mp hx with hx | hx
            · exact ⟨d', w', l', ex, hx⟩
            · exfalso
              have e := List.mem_singleton.mp hx
              simp at e
              omega
      · rintro σ H' ⟨t, c2, c3, c4, c5, rfl, L4, tl, ht, hq4, him4, e4⟩
        have ht2 : ∀ (v : Nat) r, t[v]? = some r → IntoV (A ++ loops n) v r ∧ r.length ≤ 208 := fun v r h => by
          obtain ⟨g1, g2⟩ := ht v r h
          rw [hxl, List.take_length] at g1
          exact ⟨g1, by omega⟩
        refine ⟨_, rfl, D, rfl, ⟨_, SqL.of L4.top⟩, fun D2 hD2 => ?_⟩
        have off2 := L4.off there_RT hD2
        have e7 : Ext [D2] H' (upd H' D2 (.lst [])) := Ext.new hD2
        refine lc_list (K := K) (a := D) (xs := as.map V.ref) (fun i H2 => ∃ bs, LoL (RT K) H2 D2 bs ((t.take i).map srt) ∧ Ext [D2] H' H2) ⟨[], LoL.nil upd_same, e7⟩
          (fun i H2 _ ⟨bs, _, e8⟩ => SqL.of (e8.keep _ _ L4.top (by simpa using off2.1))) ?_ ?_
        · rintro i x H2 hx ⟨bs, L2', e8⟩
          have L5 := L4.ext stab_RT e8 (by simpa using off2.1) (fun a ha => by
            have : a ≠ D2 := fun z => off2.2 (z ▸ ha)
            simpa using this)
          have hil : i < t.length := by
            have := (List.getElem?_eq_some_iff.mp hx).1
            rw [List.length_map, L4.len] at this
            exact this
          obtain ⟨b, eb, eb2, bm, ys, hb, hys⟩ := L5.at (List.getElem?_eq_getElem hil)
          rw [eb] at hx
          cases hx
          obtain ⟨g1, g2⟩ := ht2 i _ (List.getElem?_eq_getElem hil)
          refine ⟨rfl, ?_⟩
          refine ⟨_, rfl, b, ys, _, rfl, SqL.of hb, hys, alike_rows _, sortable_rows _ (fun r hr => ?_), fun z hz => ?_, fun zs p2 hz hp2 => ?_⟩
          · obtain ⟨_, _, _, e, _⟩ := (g1 r).mp hr
            rw [e]
            simp
          · obtain ⟨r, _, rfl⟩ := List.mem_map.mp hz
            exact Nat.le_trans (depth_row r) (by decide)
          · rw [sort_rows] at hz
            have D2p := (L2'.off there_RT hp2).1
            have hD3 : (upd H2 p2 (.lst zs)) D2 = some (.lst (bs.map V.ref)) := by rw [upd_ne D2p]; exact L2'.top
            have e9 : Ext [] H2 (upd H2 p2 (.lst zs)) := Ext.new hp2
            refine ⟨bs.map V.ref, hD3, szl ?_, bs ++ [p2], ?_, ?_⟩
            · rw [List.length_map, L2'.len, List.length_map]
              exact Nat.lt_of_le_of_lt (List.length_take_le' _ _) (by omega)
            · rw [take_next (List.getElem?_eq_getElem hil), List.map_append]
              refine L2'.push stab_RT (o := .lst zs) hp2 e9 there_RT ⟨zs, ?_, hz.ext (e9.any.trans (Ext.write (M := [D2]) (o := .lst (bs.map V.ref)) hD3 trivial List.mem_cons_self))⟩ hD3
              rw [upd_ne (Ne.symm D2p), upd_same]
            · exact e8.trans (e9.any.trans (Ext.write (M := [D2]) (o := .lst (bs.map V.ref)) hD3 trivial List.mem_cons_self))
        · rintro H2 ⟨bs, L2', e8⟩
          have ef : t.take (as.map V.ref).length = t := List.take_of_length_le (by rw [List.length_map, L4.len]; exact Nat.le_refl _)
          rw [ef] at L2'
          refine q D2 bs _ H2 L2' ⟨by rw [List.length_map]; exact tl, fun v r h => ?_⟩ (e4.trans (e8.drop hD2))
          rw [List.getElem?_map] at h
          cases hv : t[v]? with
          | none => rw [hv] at h; cases h
          | some r0 =>
            rw [hv] at h
            cases h
            exact ⟨srt_sorted _, fun x => ((srt_perm r0).mem_iff).trans ((ht2 v r0 hv).1 x)⟩
end
end K19
namespace K19
open PySem PySem.Spec PyProof.Rows L2 Gd Bx Cl Sx Tb Wy
theorem sc_lags_to : FnScope ["net", "u", "most", "into", "lags", "far", "v", "best", "dist", "source", "lag", "led"] ["net", "u", "most"] (defScope s_lags_to) := ⟨rfl, rfl, rfl, by decide +kernel, rfl, by decide +kernel, by decide +kernel⟩
/-- the first k cells of a row are right -/
structure RowOk (S : List Rw) (u : Int) (n k far : Nat) (r : List V) : Prop where
  len : r.length = n
  cell : ∀ v : Nat, v < k → ∃ o, r[v]? = some (oV o) ∧ Great (Way S u v far) o
structure TabOk (S : List Rw) (u : Int) (n i k : Nat) (t : List (List V)) : Prop where
  len : t.length = i + 1
  old : ∀ F : Nat, F < i → ∃ r, t[F]? = some r ∧ RowOk S u n n F r
  now : ∃ r, t[i]? = some r ∧ RowOk S u n k i r
structure FullT (S : List Rw) (u : Int) (n m : Nat) (t : List (List V)) : Prop where
  len : t.length = m
  row : ∀ F : Nat, F < m → ∃ r, t[F]? = some r ∧ RowOk S u n n F r
theorem TabOk.get {S : List Rw} {u : Int} {n i k F w : Nat} {t : List (List V)} (h : TabOk S u n i k t) (hF : F < i ∧ w < n ∨ F = i ∧ w < k) : ∃ r o, t[F]? = some r ∧ r[w]? = some (oV o) ∧ Great (Way S u w F) o := by
  rcases hF with ⟨a, b⟩ | ⟨rfl, b⟩
  · obtain ⟨r, h1, h2⟩ := h.old F a
    obtain ⟨o, h3, h4⟩ := h2.cell w b
    exact ⟨r, o, h1, h3, h4⟩
  · obtain ⟨r, h1, h2⟩ := h.now
    obtain ⟨o, h3, h4⟩ := h2.cell w b
    exact ⟨r, o, h1, h3, h4⟩
theorem TabOk.put {S : List Rw} {u : Int} {n i k : Nat} {t : List (List V)} {r : List V} {o : Option Int} (h : TabOk S u n i k t) (hr : t[i]? = some r) (hk : k < n) (g : Great (Way S u k i) o) : TabOk S u n i (k + 1) (t.set i (r.set k (oV o))) := by
  have hi : i < t.length := by rw [h.len]; exact Nat.lt_succ_self i
  obtain ⟨r', e1, e2⟩ := h.now
  rw [hr] at e1
  cases e1
  refine ⟨by rw [List.length_set]; exact h.len, fun F hF => ?_, ⟨r.set k (oV o), List.getElem?_set_self hi, ?_, fun v hv => ?_⟩⟩
  · obtain ⟨r2, a, b⟩ := h.old F hF
    exact ⟨r2, by rw [List.getElem?_set_ne (by omega)]; exact a, b⟩
  · rw [List.length_set]; exact e2.len
  · by_cases c : v = k
    · subst c
      exact ⟨o, List.getElem?_set_self (by rw [e2.len]; exact hk), g⟩
    · obtain ⟨o', a, b⟩ := e2.cell v (by omega)
      exact ⟨o', by rw [List.getElem?_set_ne (Ne.symm c)]; exact a, b⟩
def spLT (K : PySem.W.Frag) (C : Addr) : Sp := fun vs H Q _ => ∃ (p : Addr) (n u m : Nat) (A : List Rw), vs = [.ref p, .int u, .int m] ∧ NetAt K C H p n A ∧ n ≤ 8 ∧ A.length ≤ 200 ∧ StepsOf n (A ++ loops n) ∧ u < n ∧ m ≤ 40 ∧
  ∀ (q : Addr) (as : List Addr) (t : List (List V)) (H' : Hp), LoL RV H' q as t → FullT (A ++ loops n) u n (m + 1) t → Ext [] H H' → Q (.ref q) H'
section
variable {P : Program} {w : World} {K : PySem.W.Frag} {mg : Str → Option Value} {base : Heap}
theorem ok_lags_to (T : Txt K mg) {C : Addr} (N : NetC K mg C) : Callee P w K mg base CX0 3 "lags_to" ["net", "u", "most"] (spLT K C) := by
  refine callee_of0 T.d_lags_to sc_lags_to (fun _ _ _ _ _ _ us hl => match us, hl with | [_, _, _], _ => rfl) (fun vs H Q E h => ?_) (fun f cdv A outer s H vs Q E hr h => ?_)
  · obtain ⟨p, n, u, m, A, rfl, _⟩ := h
    rfl
  · obtain ⟨p, n, u, m, A, rfl, hnet, n8, hA, hS, hu, hm, q⟩ := h
    have nd := sc_lags_to.nd
    refine ⟨_, pss_cons (ps_set (i := 3) nd rfl (Or.inl rfl) (pc0 (ok_steps_into T N) hr (pa_cons (pv 0) (pa_nil))))
(pss_cons (ps_set (i := 4) nd rfl (Or.inl rfl) (pe_lst (pa_nil)))
(pss_cons (ps_for PassesOwn.never rfl (pi_range1 rfl T.range (pa_cons (pe_op op_add (pv 2) (pe_int)) (pa_nil))) (pg_name (i := 5) nd rfl (Or.inl rfl))
  (pss_cons (ps_expr (pe_bm PySem.F.plainAttrs_list PySem.F.slot_list_append PySem.F.type_list_append mt_append (pv 4) (pa_cons (pe_op op_rep (pe_lst (pa_cons (pe_non) (pa_nil))) (pe_fld (pv 0) rfl)) (pa_nil))))
  (pss_one (ps_for PassesOwn.never rfl (pi_range1 rfl T.range (pa_cons (pe_fld (pv 0) rfl) (pa_nil))) (pg_name (i := 6) nd rfl (Or.inl rfl))
    (pss_cons (ps_set (i := 7) nd rfl (Or.inl rfl) (pe_ifExp (PW.pt (pw_and (pt_cmpR op_eq (pv 5) (pe_int) (nomark _)) (pw_and1 (pt_cmpR op_eq (pv 6) (pv 1) (nomark _))))) (pe_int) (pe_non)))
    (C8.pss_cut (ps_for PassesOwn.never rfl (pi_list (pe_ix ix_list (pv 3) (pv 6) (fun _ _ => rfl))) (pg_tup rfl (pgs_cons (pg_name (i := 8) nd rfl (Or.inl rfl)) (pgs_cons (pg_name (i := 9) nd rfl (Or.inl rfl)) (pgs_cons (pg_name (i := 10) nd rfl (Or.inl rfl)) (pgs_nil)))))
      (pss_cons (ps_if (pt_cmpR op_gt (pv 8) (pv 5) (nomark _))
        (pss_one (ps_break))
        (pss_nil))
      (pss_cons (ps_set (i := 11) nd rfl (Or.inl rfl) (pe_ix ix_list (pe_ix ix_list (pv 4) (pe_op op_sub (pv 5) (pv 8)) (fun _ _ => rfl)) (pv 9) (fun _ _ => rfl)))
      (pss_one (ps_if (PW.pt (pw_and (pt_cmpR op_notN (pv 11) (pe_non) (nomark _)) (pw_and1 (PW.pt (pw_or (pt_cmpR op_isN (pv 7) (pe_non) (nomark _)) (pw_or1 (pt_cmpR op_gt (pe_op op_add (pv 11) (pv 10)) (pv 7) (nomark _))))))))
        (pss_one (ps_set (i := 7) nd rfl (Or.inl rfl) (pe_op op_add (pv 11) (pv 10))))
        (pss_nil))))))
    (pss_one (ps_asg (pv 7) (pg_sub (pe_ix ix_list (pv 4) (pv 5) (fun _ _ => rfl)) (pv 6) set_list)))))))))
(pss_one (ps_ret (pv 4))))), ?_⟩
    generalize hSS : A ++ loops n = S at *
    refine ⟨_, rfl, p, n, A, rfl, hnet, n8, hA, by rw [hSS]; exact hS, fun qi asi ti H1 Li hti e1 => ?_⟩
    rw [hSS] at hti
    refine ⟨sz (by show 0 ≤ 100000; decide), fun D hD => ?_⟩
    have offi := Li.off there_RT hD
    have e2 : Ext [] H1 (upd H1 D (.lst [])) := Ext.new hD
    have hDH : H D = none := e1.free _ hD
    have Li1 := Li.ext stab_RT e2 (by simp) (by simp)
    refine ⟨_, rfl, _, _, rfl, rfl, _, rfl, by omega, by omega, for_range (lo := 0) (n := (((m : Int) + 1).toNat))
      (fun i σ H' => ∃ (as : List Addr) (t : List (List V)) (c5 c6 c7 c8 c9 c10 c11 : Option V), σ = [some (.ref p), some (.int u), some (.int m), some (.ref qi), some (.ref D), c5, c6, c7, c8, c9, c10, c11] ∧
        LoL RV H' D as t ∧ FullT S u n i t ∧ (∀ b ∈ as, H b = none) ∧ LoL (RT K) H' qi asi ti ∧ (∀ b ∈ as, b ∉ qi :: asi) ∧ Ext [] H H')
      ⟨[], [], none, none, none, none, none, none, none, rfl, LoL.nil upd_same, ⟨rfl, fun F h => by omega⟩, (fun _ z => nomatch z), Li1, (fun _ z => nomatch z), e1.trans e2⟩ ?_ ?_⟩
    · rintro i σ H2 hi ⟨as, t, c5, c6, c7, c8, c9, c10, c11, rfl, L, hF, hn, Li2, hoff, e3⟩
      rw [Int.zero_add]
      refine ⟨_, rfl, Or.inl ⟨rfl, _, SqL.of L.top⟩, ?_⟩
      refine ⟨sz (by show 1 ≤ 100000; decide), fun b hb => ?_⟩
      obtain ⟨dx, a, xs0, hp, _, _⟩ := hnet.ext e3 (by simp)
      have e4 : Ext [] H2 (upd H2 b (.lst [.non])) := Ext.new hb
      refine ⟨_, rfl, p, C, dx, _, _, rfl, e4.keep _ _ hp (by simp), N.cl, N.nR, flds_rows _ _, ?_⟩
      refine ⟨b, n, [.non], rfl, rfl, upd_same, by omega, by omega, sz (by show 1 * (n : Int).toNat ≤ 100000; omega), fun r hr => ?_⟩
      have e5 : Ext [] _ (upd (upd H2 b (.lst [.non])) r (.lst (List.replicate (n : Int).toNat [V.non]).flatten)) := Ext.new hr
      have hrr : (List.replicate (n : Int).toNat [V.non]).flatten = List.replicate n V.non := by
        rw [Int.toNat_natCast, List.flatten_replicate_singleton]
      rw [hrr] at e5 ⊢
      have e6 := e4.trans e5
      have L5 := L.ext stab_RV e6 (by simp) (by simp)
      have hr2 : H2 r = none := e4.free _ hr
      have hb2 : H2 b = none := hb
      have off5 := (L.ext stab_RV e4 (by simp) (by simp)).off there_RV hr
      refine ⟨D, _, .ref r, rfl, rfl, L5.top, szl (by rw [List.length_map, L.len, hF.len]; omega), ?_⟩
      have L6 : LoL RV (upd (upd (upd H2 b (.lst [.non])) r (.lst (List.replicate n V.non))) D (.lst (as.map V.ref ++ [.ref r]))) D (as ++ [r]) (t ++ [List.replicate n V.non]) := by
        refine L.push stab_RV (o := .lst []) hr2 e6 there_RV ?_ L5.top
        show _ = _
        rw [upd_ne (Ne.symm off5.1), upd_same]
      have e7 : Ext [] H (upd (upd (upd H2 b (.lst [.non])) r (.lst (List.replicate n V.non))) D (.lst (as.map V.ref ++ [.ref r]))) := (e3.trans e6).wr hDH L5.top trivial
      have offr : r ∉ qi :: asi := by
        have := Li2.off there_RT hr2
        intro z
        rcases List.mem_cons.mp z with z | z
        · exact this.1 z.symm
        · exact this.2 z
      have Li6 := (Li2.ext stab_RT e6 (by simp) (by simp)).ext stab_RT (Ext.write (M := [D]) (o' := .lst (as.map V.ref ++ [.ref r])) L5.top trivial (by simp)) (by simpa using offi.1) (fun a ha => by
        have : a ≠ D := fun z => offi.2 (z ▸ ha)
        simpa using this)
      have hn6 : ∀ c ∈ as ++ [r], H c = none := fun c hc => by
        rcases List.mem_append.mp hc with hc | hc
        · exact hn c hc
        · rw [List.mem_singleton.mp hc]; exact e3.free _ hr2
      have hoff6 : ∀ c ∈ as ++ [r], c ∉ qi :: asi := fun c hc => by
        rcases List.mem_append.mp hc with hc | hc
        · exact hoff c hc
        · rw [List.mem_singleton.mp hc]; exact offr
      have T6 : TabOk S u n i 0 (t ++ [List.replicate n V.non]) := by
        refine ⟨by rw [List.length_append, hF.len]; rfl, fun F h => ?_, ⟨List.replicate n V.non, ?_, List.length_replicate, fun v h => absurd h (Nat.not_lt_zero _)⟩⟩
        · obtain ⟨r', a1, a2⟩ := hF.row F h
          exact ⟨r', by rw [List.getElem?_append_left (by rw [hF.len]; exact h)]; exact a1, a2⟩
        · rw [List.getElem?_append_right (by rw [hF.len]; exact Nat.le_refl _), hF.len, Nat.sub_self]
          rfl
      clear L L5 off5 hF hn hoff Li2 Li1
      obtain ⟨dx7, a7, xs7, hp7, _, _⟩ := hnet.ext e7 (by simp)
      refine ⟨_, rfl, p, C, dx7, _, _, rfl, hp7, N.cl, N.nR, flds_rows _ _, n, rfl, by omega, by omega, for_range (lo := 0) (n := n)
        (fun k σ H' => ∃ (t : List (List V)) (c6 c7 c8 c9 c10 c11 : Option V), σ = [some (.ref p), some (.int u), some (.int m), some (.ref qi), some (.ref D), some (.int i), c6, c7, c8, c9, c10, c11] ∧
          LoL RV H' D (as ++ [r]) t ∧ TabOk S u n i k t ∧ LoL (RT K) H' qi asi ti ∧ Ext [] H H')
        ⟨_, _, _, _, _, _, _, rfl, L6, T6, Li6, e7⟩ ?_ ?_⟩
      · rintro k σ H3 hk ⟨t, c6, c7, c8, c9, c10, c11, rfl, L, hT, Li, e8⟩
        rw [Int.zero_add]
        -- best
        have hbest : ∀ (Qv : V → Hp → Prop), Qv (oV (if (i : Int) = 0 ∧ (k : Int) = u then some 0 else none)) H3 → tIf (tAnd (tTest (tOp rEq (tVar 5) (tC (V.int 0)))) (tTest (tOp rEq (tVar 6) (tVar 1)))) (tC (V.int 0)) (tC V.non)
            [some (.ref p), some (.int u), some (.int m), some (.ref qi), some (.ref D), some (.int i), some (.int k), c7, c8, c9, c10, c11] H3 Qv := fun Qv h => by
          refine ⟨_, rfl, rfl, _, rfl, iteP (fun e => ?_) (fun e => ?_)⟩
          · have e' : (i : Int) = 0 := V.int.inj e
            refine ⟨_, rfl, _, rfl, rfl, _, rfl, iteP (fun e2 => ?_) (fun e2 => ?_)⟩
            · have e2' : (k : Int) = u := V.int.inj e2
              rw [if_pos ⟨e', e2'⟩] at h
              exact h
            · have e2' : ¬ (k : Int) = u := fun z => e2 (by rw [z])
              rw [if_neg (fun z => e2' z.2)] at h
              exact h
          · have e' : ¬ (i : Int) = 0 := fun z => e (by rw [z])
            rw [if_neg (fun z => e' z.1)] at h
            exact h
        refine hbest _ ?_
        have hki : k < ti.length := by rw [hti.len]; exact hk
        obtain ⟨bi, eb, eb2, bm, ys, hb, hys⟩ := Li.at (List.getElem?_eq_getElem hki)
        obtain ⟨hsrt, hinto⟩ := hti.row k _ (List.getElem?_eq_getElem hki)
        generalize ti[k] = T0 at hys hsrt hinto
        refine ⟨fun σ H' => H3 = H' ∧ ∃ (o : Option Int) (c8 c9 c10 c11 : Option V), σ = [some (.ref p), some (.int u), some (.int m), some (.ref qi), some (.ref D), some (.int i), some (.int k), some (oV o), c8, c9, c10, c11] ∧ Great (Way S u k i) o, ?_, ?_⟩
        · refine ⟨_, rfl, _, rfl, _, _, _, _, rfl, rfl, SqL.of Li.top, atI_of eb, bi, rfl, ⟨_, SqL.of hb⟩, for_list (K := K) (a := bi) (xs := ys)
            (fun j σ H' => H3 = H' ∧ ∃ (o : Option Int) (c8 c9 c10 c11 : Option V), σ = [some (.ref p), some (.int u), some (.int m), some (.ref qi), some (.ref D), some (.int i), some (.int k), some (oV o), c8, c9, c10, c11] ∧ Great (PullC S u k i (T0.take j)) o)
            ⟨rfl, _, c8, c9, c10, c11, rfl, pull_nil⟩ (fun j σ H' _ ⟨e, _⟩ => e ▸ SqL.of hb) ?_ ?_⟩
          · rintro j x σ H' hx ⟨rfl, o, c8, c9, c10, c11, rfl, hg⟩
            obtain ⟨r0, tt, hrj, rfl, htt⟩ := ims_row hys hx
            obtain ⟨d, w, l, rfl, hst⟩ := (hinto r0).mp (List.mem_of_getElem? hrj)
            obtain ⟨w0, w1, v0, v1, d0, d1, l0, l1, hz⟩ := hS.ok _ _ _ _ hst
            refine ⟨tt, _, rfl, SqT.of htt, rfl, _, _, rfl, _, _, rfl, _, _, rfl, rfl, ?_⟩
            refine ⟨_, rfl, _, rfl, _, _, rfl, rfl, _, rfl, iteP (fun e => ?_) (fun e => ?_)⟩
            · refine ⟨rfl, o, _, _, _, _, rfl, ?_⟩
              exact (hg.congr (pull_break hS hsrt hrj (by omega))).congr (pull_all hinto)
            · obtain ⟨dn, rfl⟩ := Int.eq_ofNat_of_zero_le d0
              obtain ⟨wn, rfl⟩ := Int.eq_ofNat_of_zero_le w0
              have hdi : dn ≤ i := by omega
              have esub : (i : Int) - dn = ((i - dn : Nat) : Int) := by omega
              obtain ⟨rF, oF, hF1, hF2, hF3⟩ := hT.get (F := i - dn) (w := wn) (by omega)
              obtain ⟨bF, ebF, _, _, hbF⟩ := L.at hF1
              refine ⟨_, rfl, _, rfl, _, rfl, _, _, rfl, rfl, _, _, _, _, rfl, rfl, SqL.of L.top, by rw [esub]; exact atI_of ebF, ?_⟩
              refine ⟨_, rfl, _, _, _, _, rfl, rfl, SqL.of hbF, atI_of hF2, ?_⟩
              have hg2 : Great (PullC S u k i (T0.take (j + 1))) (omax o (oF.map (· + l))) := by
                rw [take_next hrj]
                have := hF3.shift l
                rw [← esub] at this
                exact (hg.or this).congr pull_snoc
              cases oF with
              | none =>
                refine ⟨_, rfl, rfl, _, rfl, iteN (fun h => absurd rfl h) (fun _ => ?_)⟩
                refine ⟨rfl, o, _, _, _, _, rfl, ?_⟩
                cases o <;> exact hg2
              | some y =>
                refine ⟨_, rfl, rfl, _, rfl, iteN (fun _ => ?_) (fun h => nomatch h)⟩
                cases o with
                | none =>
                  refine ⟨_, rfl, rfl, _, rfl, iteP (fun _ => ?_) (fun h => absurd rfl h)⟩
                  exact ⟨_, rfl, _, rfl, _, _, rfl, rfl, rfl, some (y + l), _, _, _, _, rfl, hg2⟩
                | some z =>
                  refine ⟨_, rfl, rfl, _, rfl, iteP (fun h => nomatch h) (fun _ => ?_)⟩
                  refine ⟨_, rfl, _, rfl, _, _, rfl, rfl, _, rfl, _, _, rfl, rfl, _, rfl, iteP (fun e2 => ?_) (fun e2 => ?_)⟩
                  · refine ⟨_, rfl, _, rfl, _, _, rfl, rfl, rfl, some (y + l), _, _, _, _, rfl, ?_⟩
                    have e3 : omax (some z) ((some y).map (· + l)) = some (y + l) := by
                      show some (if y + l > z then y + l else z) = _
                      rw [if_pos e2]
                    rw [e3] at hg2
                    exact hg2
                  · refine ⟨rfl, some z, _, _, _, _, rfl, ?_⟩
                    have e3 : omax (some z) ((some y).map (· + l)) = some z := by
                      show some (if y + l > z then y + l else z) = _
                      rw [if_neg e2]
                    rw [e3] at hg2
                    exact hg2
          · rintro σ H' ⟨rfl, o, c8, c9, c10, c11, rfl, hg⟩
            refine ⟨rfl, o, _, _, _, _, rfl, ?_⟩
            have : ys.length = T0.length := by rw [← hys.length, List.length_map]
            rw [this, List.take_length] at hg
            exact hg.congr (pull_all hinto)
        · rintro σ H' ⟨rfl, o, c8, c9, c10, c11, rfl, hg⟩
          obtain ⟨rr, hr1, hr2'⟩ := hT.now
          obtain ⟨bR, ebR, ebR2, bRm, hbR⟩ := L.at hr1
          have hbR' : H3 bR = some (.lst rr) := hbR
          refine ⟨_, rfl, _, rfl, _, rfl, _, _, _, _, rfl, rfl, SqL.of L.top, atI_of ebR, _, rfl, ?_⟩
          refine ⟨_, _, _, _, rfl, rfl, hbR', ixN_of (by rw [hr2'.len]; exact hk), ?_⟩
          have e9 : Ext [bR] H3 (upd H3 bR (.lst (rr.set k (oV o)))) := Ext.write hbR' trivial List.mem_cons_self
          have hob := hoff6 bR bRm
          refine ⟨_, _, _, _, _, _, _, rfl, L.put stab_RV ebR2 e9 upd_same, hT.put hr1 hk hg, ?_, e8.wr (hn6 bR bRm) hbR' trivial⟩
          exact Li.ext stab_RT e9 (by
            have : qi ≠ bR := fun z => hob (z ▸ List.mem_cons_self)
            simpa using this) (fun a ha => by
            have : a ≠ bR := fun z => hob (z ▸ List.mem_cons_of_mem _ ha)
            simpa using this)
      · rintro σ H3 ⟨t, c6, c7, c8, c9, c10, c11, rfl, L, hT, Li, e8⟩
        refine ⟨_, _, _, _, _, _, _, _, _, rfl, L, ⟨hT.len, fun F hF => ?_⟩, hn6, Li, hoff6, e8⟩
        by_cases c : F = i
        · subst c
          exact hT.now
        · exact hT.old F (by omega)
    · rintro σ H3 ⟨as, t, c5, c6, c7, c8, c9, c10, c11, rfl, L, hT, hn, Li, hoff, e8⟩
      have em : ((m : Int) + 1).toNat = m + 1 := by omega
      rw [em] at hT
      exact ⟨_, rfl, q D as t H3 L hT e8⟩
end
end K19
namespace K19
open PySem PySem.Spec PyProof.Rows L2 Gd Bx Cl Sx Tb Wy Kx
abbrev s_BadNet_init : Stmt := inClass (top 2) 0
abbrev s_NoTick_init : Stmt := inClass (top 3) 0
abbrev s_NoRow_init : Stmt := inClass (top 4) 0
theorem sc_NoTick_init : FnScope ["self", "value"] ["self", "value"] (defScope s_NoTick_init) := ⟨rfl, rfl, rfl, by decide +kernel, rfl, by decide +kernel, by decide +kernel⟩
theorem sc_NoRow_init : FnScope ["self", "value"] ["self", "value"] (defScope s_NoRow_init) := ⟨rfl, rfl, rfl, by decide +kernel, rfl, by decide +kernel, by decide +kernel⟩
theorem sc_way_lag : FnScope ["net", "u", "v", "dist", "row"] ["net", "u", "v", "dist"] (defScope s_way_lag) := ⟨rfl, rfl, rfl, by decide +kernel, rfl, by decide +kernel, by decide +kernel⟩
/-- the two exceptions that way_lag raises -/
structure ExsC (K : PySem.W.Frag) (mg : Str → Option Value) (CR CT : Addr) : Prop where
  row : ExcS K mg "NoRow" "NoRow.__init__" "value" s_NoRow_init CR
  tick : ExcS K mg "NoTick" "NoTick.__init__" "value" s_NoTick_init CT
def spWL (K : PySem.W.Frag) (C : Addr) : Sp := fun vs H Q _ => ∃ (p : Addr) (n u v f : Nat) (A : List Rw), vs = [.ref p, .int u, .int v, .int f] ∧ NetAt K C H p n A ∧ n ≤ 8 ∧ A.length ≤ 200 ∧ StepsOf n (A ++ loops n) ∧ u < n ∧ v < n ∧ f ≤ 40 ∧
  ∀ (o : Option Int) (H' : Hp), Great (Way (A ++ loops n) u v f) o → Ext [] H H' → Q (oV o) H'
def spWR (K : PySem.W.Frag) (C CR CT : Addr) : Sp := fun vs H _ E => ∃ (p : Addr) (n u v : Nat) (f : Int) (A : List Rw), vs = [.ref p, .int u, .int v, .int f] ∧ NetAt K C H p n A ∧ n ≤ 8 ∧ u < n ∧
  ((v < n ∧ ¬ (0 ≤ f ∧ f ≤ 40) ∧ Flies "value" (.int f) H fun d H' => E (.ref CT) d H') ∨ (v = n ∧ Flies "value" (.int v) H fun d H' => E (.ref CR) d H'))
theorem flies_ext {f : Str} {y : V} {H H1 : Hp} {W : Option Addr → Hp → Prop} (h : Flies f y H W) (e : Ext [] H H1) : Flies f y H1 W := fun d H' e2 hd => h d H' (e.trans e2) hd
section
variable {P : Program} {w : World} {K : PySem.W.Frag} {mg : Str → Option Value} {base : Heap}
theorem ok_way_lag (T : Txt K mg) {C : Addr} (N : NetC K mg C) : CalleeF P w K mg base CX0 4 "way_lag" s_way_lag ["net", "u", "v", "dist"] (spWL K C) := by
  refine calleeF_of0 T.d_way_lag sc_way_lag (fun vs H Q E h => ?_) (fun fa cdv A' outer s H vs Q E hr h => ?_)
  · obtain ⟨p, n, u, v, f, A, rfl, _⟩ := h
    rfl
  · obtain ⟨p, n, u, v, f, A, rfl, hnet, n8, hA, hS, hu, hv, hf, q⟩ := h
    have nd := sc_way_lag.nd
    refine ⟨_, pss_cons (ps_for PassesOwn.never rfl (pi_tup (pe_tup (pa_cons (pv 1) (pa_cons (pv 2) (pa_nil))))) (pg_name (i := 4) nd rfl (Or.inl rfl))
  (pss_one (ps_if (pt_not (pt_chain op_le op_lt (pe_int) (pv 4) (pe_fld (pv 0) rfl)))
    (pss_one ps_never)
    (pss_nil))))
(pss_cons (ps_if (pt_not (pt_chain op_le op_le (pe_int) (pv 3) (pgi rfl T.MOST_DIST)))
  (pss_one ps_never)
  (pss_nil))
(pss_one (ps_ret (pe_ix ix_list (pe_ix ix_list (pc0 (ok_lags_to T N) hr (pa_cons (pv 0) (pa_cons (pv 1) (pa_cons (pv 3) (pa_nil))))) (pv 3) (fun _ _ => rfl)) (pv 2) (fun _ _ => rfl))))), ?_⟩
    refine ⟨_, rfl, _, rfl, sz (by show 2 ≤ 100000; decide), fun t ht => ?_⟩
    have e1 : Ext [] H (upd H t (.tup [.int u, .int v])) := Ext.new ht
    refine ⟨t, rfl, ⟨_, SqT.of upd_same⟩, for_tup (K := K) (a := t) (xs := [.int u, .int v])
      (fun i σ H' => (upd H t (.tup [.int u, .int v])) = H' ∧ ∃ (c4 : Option V), σ = [some (.ref p), some (.int u), some (.int v), some (.int f), c4]) ⟨rfl, none, rfl⟩ (fun i σ H' _ ⟨e, _⟩ => e ▸ SqT.of upd_same) ?_ ?_⟩
    · rintro i x σ H' hx ⟨rfl, c4, rfl⟩
      obtain ⟨y, rfl, hy⟩ : ∃ y : Nat, x = .int y ∧ y < n := by
        match i, hx with
        | 0, hx => exact ⟨u, (Option.some.inj hx).symm, hu⟩
        | 1, hx => exact ⟨v, (Option.some.inj hx).symm, hv⟩
        | i + 2, hx => exact nomatch hx
      obtain ⟨dx, a, xs0, hp, _, _⟩ := hnet.ext e1 (by simp)
      refine ⟨_, rfl, _, _, rfl, rfl, _, rfl, iteY (p := (0 : Int) ≤ y) (by omega) ⟨_, rfl, p, C, dx, _, _, rfl, hp, N.cl, N.nR, flds_rows _ _, _, _, rfl, rfl, _, rfl, ?_⟩⟩
      refine iteN (fun h => absurd (show (y : Int) < n by omega) h) (fun _ => ?_)
      exact ⟨rfl, _, rfl⟩
    · rintro σ H' ⟨rfl, c4, rfl⟩
      refine ⟨_, rfl, _, _, rfl, rfl, _, rfl, iteY (p := (0 : Int) ≤ f) (by omega) ⟨_, _, rfl, rfl, _, rfl, ?_⟩⟩
      refine iteN (fun h => absurd (show (f : Int) ≤ 40 by omega) h) (fun _ => ?_)
      refine ⟨_, rfl, _, rfl, _, rfl, p, n, u, f, A, rfl, hnet.ext e1 (by simp), n8, hA, hS, hu, hf, fun ql as tb H2 L hF e2 => ?_⟩
      obtain ⟨r, h1, h2⟩ := hF.row f (by omega)
      obtain ⟨o, h3, h4⟩ := h2.cell v hv
      obtain ⟨b, eb, _, _, hb⟩ := L.at h1
      refine ⟨_, rfl, _, _, _, _, rfl, rfl, SqL.of L.top, atI_of eb, _, rfl, _, _, _, _, rfl, rfl, SqL.of hb, atI_of h3, ?_⟩
      exact q o H2 h4 (e1.trans e2)
theorem eq_way_lag : BindEq s_way_lag "way_lag" ["net", "u", "v", "dist"] := fun _ _ _ _ _ _ us hl => match us, hl with | [_, _, _, _], _ => rfl
theorem kw_way_lag (T : Txt K mg) {C : Addr} (N : NetC K mg C) : CalleeK P w K mg base CX0 4 "way_lag" ["net", "u", "v", "dist"] ["dist", "v", "u", "net"] (spWL K C) :=
  (ok_way_lag T N).kw fun _ _ _ _ _ _ ws hl => match ws, hl with | [_, _, _, _], _ => rfl
theorem ok_NoRow_init {C : Addr} {i : Addr} {fd : FuncData} (F : FnP K "__init__" "NoRow.__init__" s_NoRow_init i fd) : FnOk P w K mg base CX0 1 i fd ["self", "value"] (spIni K "value") := by
  refine F.ok sc_NoRow_init (fun vs H Q E h => ?_) (fun cdv A outer s H vs Q E hr h => ?_)
  · obtain ⟨a, C, y, rfl, _⟩ := h
    rfl
  · obtain ⟨a, C, y, rfl, T, hno, ha, q⟩ := h
    have nd := sc_NoRow_init.nd
    refine ⟨_, pss_one (ps_ost (pv 0) (pv 1)), ?_⟩
    exact ⟨_, rfl, _, rfl, a, C, rfl, T, hno, .inl ⟨ha, fun dx h1 h2 => q dx h1 h2⟩⟩
theorem ok_NoTick_init {C : Addr} {i : Addr} {fd : FuncData} (F : FnP K "__init__" "NoTick.__init__" s_NoTick_init i fd) : FnOk P w K mg base CX0 1 i fd ["self", "value"] (spIni K "value") := by
  refine F.ok sc_NoTick_init (fun vs H Q E h => ?_) (fun cdv A outer s H vs Q E hr h => ?_)
  · obtain ⟨a, C, y, rfl, _⟩ := h
    rfl
  · obtain ⟨a, C, y, rfl, T, hno, ha, q⟩ := h
    have nd := sc_NoTick_init.nd
    refine ⟨_, pss_one (ps_ost (pv 0) (pv 1)), ?_⟩
    exact ⟨_, rfl, _, rfl, a, C, rfl, T, hno, .inl ⟨ha, fun dx h1 h2 => q dx h1 h2⟩⟩
theorem ok_way_lag_bad (T : Txt K mg) {C CR CT : Addr} (N : NetC K mg C) (X : ExsC K mg CR CT) : Callee P w K mg base (L2.CX P w) 4 "way_lag" ["net", "u", "v", "dist"] (spWR K C CR CT) := by
  refine callee_of T.d_way_lag sc_way_lag eq_way_lag (fun vs H Q E h => ?_) (fun fa cdv A' outer s H vs Q E hr h => ?_)
  · obtain ⟨p, n, u, v, f, A, rfl, _⟩ := h
    rfl
  · obtain ⟨p, n, u, v, f, A, rfl, hnet, n8, hu, hcase⟩ := h
    have nd := sc_way_lag.nd
    obtain ⟨iR, fR, fi1, ti1, F1⟩ := X.row.ini
    obtain ⟨iT, fT, fi2, ti2, F2⟩ := X.tick.ini
    have hr1 := hr.room.mono (j := 2) (by decide)
    have B1 := F1.bindsN (ps := ["self", "value"]) (fun _ _ _ _ _ _ us hl => match us, hl with | [_, _], _ => rfl)
    have B2 := F2.bindsN (ps := ["self", "value"]) (fun _ _ _ _ _ _ us hl => match us, hl with | [_, _], _ => rfl)
    refine ⟨_, pss_cons (ps_for (passes_of rfl) rfl (pi_tup (pe_tup (pa_cons (pv 1) (pa_cons (pv 2) (pa_nil))))) (pg_name (i := 4) nd rfl (Or.inl rfl))
  (pss_one (ps_if (pt_not (pt_chain op_le op_lt (pe_int) (pv 4) (pe_fld (pv 0) rfl)))
    (pss_one (ps_raise rfl (takes_of rfl rfl rfl rfl) (pmk_oex X.row.oex fi1 ti1 (ok_NoRow_init (C := CR) F1) hr1 B1 .nil pass0 rfl X.row.name (pa_cons (pv 4) (pa_nil)))))
    (pss_nil))))
(pss_cons (ps_if (pt_not (pt_chain op_le op_le (pe_int) (pv 3) (pgi rfl T.MOST_DIST)))
  (pss_one (ps_raise rfl (takes_of rfl rfl rfl rfl) (pmk_oex X.tick.oex fi2 ti2 (ok_NoTick_init (C := CT) F2) hr1 B2 .nil pass0 rfl X.tick.name (pa_cons (pv 3) (pa_nil)))))
  (pss_nil))
(pss_one ps_never)), ?_⟩
    refine ⟨_, rfl, _, rfl, sz (by show 2 ≤ 100000; decide), fun t ht => ?_⟩
    have e1 : Ext [] H (upd H t (.tup [.int u, .int v])) := Ext.new ht
    obtain ⟨dx, a, xs0, hp, _, _⟩ := hnet.ext e1 (by simp)
    refine ⟨t, rfl, ⟨_, SqT.of upd_same⟩, for_tup (K := K) (a := t) (xs := [.int u, .int v])
      (fun i σ H' => (i ≤ 1 ∨ v < n) ∧ (upd H t (.tup [.int u, .int v])) = H' ∧ ∃ (c4 : Option V), σ = [some (.ref p), some (.int u), some (.int v), some (.int f), c4]) ⟨.inl (by decide), rfl, none, rfl⟩ (fun i σ H' _ ⟨_, e, _⟩ => e ▸ SqT.of upd_same) ?_ ?_⟩
    · rintro i x σ H' hx ⟨hi, rfl, c4, rfl⟩
      match i, hx with
      | 0, hx =>
        cases (Option.some.inj hx)
        refine ⟨_, rfl, _, _, rfl, rfl, _, rfl, iteY (p := (0 : Int) ≤ u) (by omega) ⟨_, rfl, p, C, dx, _, _, rfl, hp, N.cl, N.nR, flds_rows _ _, _, _, rfl, rfl, _, rfl, ?_⟩⟩
        refine iteN (fun h => absurd (show (u : Int) < n by omega) h) (fun _ => ?_)
        exact ⟨.inl (by decide), rfl, _, rfl⟩
      | 1, hx =>
        rcases hcase with ⟨hv, _, _⟩ | ⟨hv, fl⟩
        · cases (Option.some.inj hx)
          refine ⟨_, rfl, _, _, rfl, rfl, _, rfl, iteY (p := (0 : Int) ≤ v) (by omega) ⟨_, rfl, p, C, dx, _, _, rfl, hp, N.cl, N.nR, flds_rows _ _, _, _, rfl, rfl, _, rfl, ?_⟩⟩
          refine iteN (fun h => absurd (show (v : Int) < n by omega) h) (fun _ => ?_)
          exact ⟨.inr hv, rfl, _, rfl⟩
        · cases (Option.some.inj hx)
          refine ⟨_, rfl, _, _, rfl, rfl, _, rfl, iteY (p := (0 : Int) ≤ v) (by omega) ⟨_, rfl, p, C, dx, _, _, rfl, hp, N.cl, N.nR, flds_rows _ _, _, _, rfl, rfl, _, rfl, ?_⟩⟩
          refine iteN (fun _ => ?_) (fun h => absurd h (by omega))
          exact ⟨_, rfl, flies_made X.row.oex X.row.nof (flies_ext fl e1)⟩
      | i + 2, hx => exact nomatch hx
    · rintro σ H' ⟨hi, rfl, c4, rfl⟩
      have hv : v < n := hi.elim (fun z => absurd z (by show ¬ 2 ≤ 1; decide)) id
      rcases hcase with ⟨_, hf, fl⟩ | ⟨z, _⟩
      · refine ⟨_, rfl, _, _, rfl, rfl, _, rfl, iteP (fun h0 => ?_) (fun h0 => ?_)⟩
        · refine ⟨_, _, rfl, rfl, _, rfl, ?_⟩
          refine iteN (fun _ => ?_) (fun h => absurd ⟨h0, h⟩ hf)
          exact ⟨_, rfl, flies_made X.tick.oex X.tick.nof (flies_ext fl e1)⟩
        · refine ⟨_, rfl, ?_⟩
          refine iteBT (b := !false) rfl ?_
          exact ⟨_, rfl, flies_made X.tick.oex X.tick.nof (flies_ext fl e1)⟩
      · omega
end
end K19
namespace K19
open PySem PySem.Spec PyProof.Rows L2 Gd Bx Cl Sx Tb Wy Kx
theorem sc_law_lags : FnScope ["rows", "arcs", "u", "out", "arc", "best", "far", "row", "here", "end", "dist", "lag", "line"] ["rows", "arcs", "u"] (defScope s_law_lags) := ⟨rfl, rfl, rfl, by decide +kernel, rfl, by decide +kernel, by decide +kernel⟩
/-- all cells tell the ways taken so far -/
structure PT (S : List Rw) (u : Int) (n : Nat) (B : Int → Int → Rw → Prop) (tab : List (List V)) : Prop where
  len : tab.length = 41
  row : ∀ F : Nat, F < 41 → ∃ r, tab[F]? = some r ∧ r.length = n ∧ ∀ v : Nat, v < n → ∃ o, r[v]? = some (.int (oI o)) ∧ Great (PushC S u F v B) o
structure FullI (S : List Rw) (u : Int) (n : Nat) (tab : List (List V)) : Prop where
  len : tab.length = 41
  row : ∀ F : Nat, F < 41 → ∃ r, tab[F]? = some r ∧ r.length = n ∧ ∀ v : Nat, v < n → ∃ o, r[v]? = some (.int (oI o)) ∧ Great (Way S u v F) o
theorem PT.congr {S : List Rw} {u : Int} {n : Nat} {B B' : Int → Int → Rw → Prop} {tab : List (List V)} (h : PT S u n B tab)
    (hc : ∀ (F v : Nat), F < 41 → v < n → ∀ l, PushC S u F v B l ↔ PushC S u F v B' l) : PT S u n B' tab :=
  ⟨h.len, fun F hF => let ⟨r, a, b, c⟩ := h.row F hF; ⟨r, a, b, fun v hv => let ⟨o, d, e⟩ := c v hv; ⟨o, d, e.congr (hc F v hF hv)⟩⟩⟩
theorem PT.put {S : List Rw} {u : Int} {n F0 e : Nat} {B B' : Int → Int → Rw → Prop} {tab : List (List V)} {r0 : List V} {o : Option Int} (h : PT S u n B tab) (h0 : F0 < 41) (he : e < n) (hr : tab[F0]? = some r0)
    (hc : ∀ (F v : Nat), ¬ (F = F0 ∧ v = e) → ∀ l, PushC S u F v B l ↔ PushC S u F v B' l) (g : Great (PushC S u F0 e B') o) : PT S u n B' (tab.set F0 (r0.set e (.int (oI o)))) := by
  refine ⟨by rw [List.length_set]; exact h.len, fun F hF => ?_⟩
  obtain ⟨r, a, b, c⟩ := h.row F hF
  by_cases hFF : F = F0
  · subst hFF
    rw [hr] at a
    cases a
    refine ⟨_, List.getElem?_set_self (by rw [h.len]; exact hF), by rw [List.length_set]; exact b, fun v hv => ?_⟩
    by_cases hve : v = e
    · subst hve
      exact ⟨o, List.getElem?_set_self (by rw [b]; exact hv), g⟩
    · obtain ⟨o', d, e'⟩ := c v hv
      exact ⟨o', by rw [List.getElem?_set_ne (Ne.symm hve)]; exact d, e'.congr (hc F v fun z => hve z.2)⟩
  · refine ⟨r, by rw [List.getElem?_set_ne (Ne.symm hFF)]; exact a, b, fun v hv => ?_⟩
    obtain ⟨o', d, e'⟩ := c v hv
    exact ⟨o', d, e'.congr (hc F v fun z => hFF z.1)⟩
/-- the steps out of w so far -/
def OutP (arcs : List Rw) (i w : Nat) (r : List Rw) : Prop := (∀ x, x ∈ r ↔ x = [(w : Int), 1, 0] ∨ ∃ v d l, x = [v, d, l] ∧ [(w : Int), v, d, l] ∈ arcs.take i) ∧ r.length ≤ i + 1
theorem OutP.all {arcs : List Rw} {i w n : Nat} {r : List Rw} (h : OutP arcs i w r) (hi : arcs.length ≤ i) (hw : w < n) : OutV (arcs ++ loops n) w r := fun x => by
  have h1 := h.1 x
  rw [List.take_of_length_le hi] at h1
  refine h1.trans ⟨fun z => ?_, fun ⟨v, d, l, ex, hm⟩ => ?_⟩
  · rcases z with z | ⟨v, d, l, ex, hm⟩
    · exact ⟨w, 1, 0, z, List.mem_append_right _ (loops_mem.mpr ⟨w, hw, rfl⟩)⟩
    · exact ⟨v, d, l, ex, List.mem_append_left _ hm⟩
  · rcases List.mem_append.mp hm with hm | hm
    · exact .inr ⟨v, d, l, ex, hm⟩
    · obtain ⟨i', _, e⟩ := loops_mem.mp hm
      simp at e
      obtain ⟨e1, rfl, rfl, rfl⟩ := e
      exact .inl (by rw [ex, e1])
def spLL (K : PySem.W.Frag) : Sp := fun vs H Q _ => ∃ (a : Addr) (n u : Nat) (xs : List V) (arcs : List Rw), vs = [.int n, .ref a, .int u] ∧ H a = some (.lst xs) ∧ Ims K H (arcs.map rowD) xs ∧ ArcsOf n arcs ∧ 1 ≤ n ∧ n ≤ 8 ∧ StepsOf n (arcs ++ loops n) ∧ u < n ∧
  ∀ (q : Addr) (as : List Addr) (tab : List (List V)) (H' : Hp), LoL RV H' q as tab → FullI (arcs ++ loops n) u n tab → H q = none → (∀ b ∈ as, H b = none) → Ext [] H H' → Q (.ref q) H'
theorem oI_none {o : Option Int} (h : oI o < 0) (h0 : ∀ m, o = some m → 0 ≤ m) : o = none := by
  cases o with
  | none => rfl
  | some m => exact absurd (h0 m rfl) (by have : m < 0 := h; omega)
section
variable {P : Program} {w : World} {K : PySem.W.Frag} {mg : Str → Option Value} {base : Heap}
theorem ok_law_lags (T : Txt K mg) : Callee P w K mg base CX0 1 "_law_lags" ["rows", "arcs", "u"] (spLL K) := by
  refine callee_of0 T.d_law_lags sc_law_lags (fun _ _ _ _ _ _ us hl => match us, hl with | [_, _, _], _ => rfl) (fun vs H Q E h => ?_) (fun f cdv A outer s H vs Q E hr h => ?_)
  · obtain ⟨a, n, u, xs, arcs, rfl, _⟩ := h
    rfl
  · obtain ⟨a, n, u, xs, arcs, rfl, ha, him, hA, n1, n8, hS, hu, q⟩ := h
    have nd := sc_law_lags.nd
    refine ⟨_, pss_cons (ps_setLc (i := 3) (own := [("row", 7)]) rfl nd rfl rfl (sw_true rfl rfl rfl (by decide +kernel)) (pi_range1 rfl T.range (pa_cons (pv 0) (pa_nil))) (blkOk_by (own := [("row", 7)]) (N := ["rows", "arcs", "u", "out", "arc", "best", "far", "row", "here", "end", "dist", "lag", "line"]) (sc := defScope s_law_lags) (by decide +kernel)) (fun _ _ _ _ _ => pg_name (i := 7) nd rfl (Or.inl rfl)) (fun _ _ _ _ _ => pts_nil) (fun _ _ _ _ _ => pe_lst (pa_cons (pe_tup (pa_cons (pv 7) (pa_cons (pe_int) (pa_cons (pe_int) (pa_nil))))) (pa_nil))))
(pss_cons (ps_for PassesOwn.never rfl (pi_list (pv 1)) (pg_name (i := 4) nd rfl (Or.inl rfl))
  (pss_one (ps_expr (pe_bm PySem.F.plainAttrs_list PySem.F.slot_list_append PySem.F.type_list_append mt_append (pe_ix ix_list (pv 3) (pe_ix ix_tup (pv 4) (pe_int) (fun _ _ => rfl)) (fun _ _ => rfl)) (pa_cons (pe_slice sl_tup (pv 4) (po_some (pe_int)) po_none) (pa_nil))))))
(pss_cons (ps_setLc (i := 5) (own := [("far", 6)]) rfl nd rfl rfl (sw_true rfl rfl rfl (by decide +kernel)) (pi_range1 rfl T.range (pa_cons (pe_int) (pa_nil))) (blkOk_by (own := [("far", 6)]) (N := ["rows", "arcs", "u", "out", "arc", "best", "far", "row", "here", "end", "dist", "lag", "line"]) (sc := defScope s_law_lags) (by decide +kernel)) (fun _ _ _ _ _ => pg_name (i := 6) nd rfl (Or.inl rfl)) (fun _ _ _ _ _ => pts_nil) (fun _ _ _ _ _ => pe_op op_rep (pe_lst (pa_cons (pe_un un_neg pe_int) (pa_nil))) (pv 0)))
(pss_cons (ps_asg (pe_int) (pg_sub (pe_ix ix_list (pv 5) (pe_int) (fun _ _ => rfl)) (pv 2) set_list))
(pss_cons (ps_for PassesOwn.never rfl (pi_range1 rfl T.range (pa_cons (pe_int) (pa_nil))) (pg_name (i := 6) nd rfl (Or.inl rfl))
  (pss_one (ps_for PassesOwn.never rfl (pi_range1 rfl T.range (pa_cons (pv 0) (pa_nil))) (pg_name (i := 7) nd rfl (Or.inl rfl))
    (pss_cons (ps_set (i := 8) nd rfl (Or.inl rfl) (pe_ix ix_list (pe_ix ix_list (pv 5) (pv 6) (fun _ _ => rfl)) (pv 7) (fun _ _ => rfl)))
    (pss_one (ps_for PassesOwn.never rfl (pi_list (pe_ix ix_list (pv 3) (pv 7) (fun _ _ => rfl))) (pg_tup rfl (pgs_cons (pg_name (i := 9) nd rfl (Or.inl rfl)) (pgs_cons (pg_name (i := 10) nd rfl (Or.inl rfl)) (pgs_cons (pg_name (i := 11) nd rfl (Or.inl rfl)) (pgs_nil)))))
      (pss_one (ps_if (PW.pt (pw_and (pt_cmpR op_ge (pv 8) (pe_int) (nomark _)) (pw_and1 (pt_cmpR op_lt (pe_op op_add (pv 6) (pv 10)) (pe_int) (nomark _)))))
        (pss_cons (ps_set (i := 12) nd rfl (Or.inl rfl) (pe_ix ix_list (pv 5) (pe_op op_add (pv 6) (pv 10)) (fun _ _ => rfl)))
        (pss_one (ps_asg (pe_callB (call_max2 rfl) rfl T.max (by decide +kernel) (pa_cons (pe_ix ix_list (pv 12) (pv 9) (fun _ _ => rfl)) (pa_cons (pe_op op_add (pv 8) (pv 11)) (pa_nil)))) (pg_sub (pv 12) (pv 9) set_list))))
        (pss_nil)))))))))
(pss_one (ps_ret (pv 5))))))), ?_⟩
    -- out
    refine ⟨_, rfl, n, rfl, by omega, by omega, fun D hD => ?_⟩
    have e0 : Ext [] H (upd H D (.lst [])) := Ext.new hD
    refine lc_range (lo := 0) (n := n) (fun i H2 => ∃ as, LoL (RT K) H2 D as ((List.range i).map fun (r : Nat) => [[(r : Int), 1, 0]]) ∧ (∀ b ∈ as, H b = none) ∧ Ext [] H H2) ⟨[], LoL.nil upd_same, (fun _ z => nomatch z), e0⟩ ?_ ?_
    · rintro i H2 hi ⟨as, L, hn, e⟩
      rw [Int.zero_add]
      refine ⟨rfl, ?_⟩
      refine ⟨_, rfl, sz (by show 3 ≤ 100000; decide), fun t ht => ?_⟩
      have e1 : Ext [] H2 (upd H2 t (.tup [.int i, .int 1, .int 0])) := Ext.new ht
      refine ⟨sz (by show 1 ≤ 100000; decide), fun b hb => ?_⟩
      have e2 : Ext [] (upd H2 t (.tup [.int i, .int 1, .int 0])) (upd (upd H2 t (.tup [.int i, .int 1, .int 0])) b (.lst [.ref t])) := Ext.new hb
      have L1 := L.ext stab_RT (e1.trans e2) (by simp) (by simp)
      have hb2 : H2 b = none := e1.free _ hb
      have Db := (L.off there_RT hb2).1
      have tb : t ≠ b := ne_of_none upd_same hb
      refine ⟨as.map V.ref, L1.top, szl (by rw [List.length_map, L.len, List.length_map, List.length_range]; omega), as ++ [b], ?_, fun c hc => ?_, (e.trans (e1.trans e2)).wr hD L1.top trivial⟩
      · rw [List.range_succ, List.map_append]
        refine L.push stab_RT (o := .lst []) hb2 (e1.trans e2) there_RT ⟨[.ref t], ?_, .one (Im.of_tints (ns := [(i : Int), 1, 0]) ?_)⟩ L1.top
        · rw [upd_ne (Ne.symm Db), upd_same]
        · have Dt := (L.off there_RT ht).1
          rw [upd_ne (Ne.symm Dt), upd_ne tb, upd_same]
          rfl
      · rcases List.mem_append.mp hc with hc | hc
        · exact hn c hc
        · rw [List.mem_singleton.mp hc]; exact e.free _ hb2
    rintro H2 ⟨as, L, hn, e⟩
    have aD : a ≠ D := ne_of_none ha hD
    have anas : a ∉ as := fun z => by rw [hn a z] at ha; cases ha
    -- for arc in arcs
    refine ⟨_, rfl, a, rfl, ⟨_, SqL.of (e.keep _ _ ha (by simp))⟩, for_list (K := K) (a := a) (xs := xs)
      (fun i σ H' => ∃ (t : List (List Rw)) (c4 : Option V), σ = [some (.int n), some (.ref a), some (.int u), some (.ref D), c4, none, none, none, none, none, none, none, none] ∧ LoL (RT K) H' D as t ∧ t.length = n ∧
        (∀ (v : Nat) r, t[v]? = some r → OutP arcs i v r) ∧ Ext [] H H')
      ⟨_, none, rfl, L, by rw [List.length_map, List.length_range], fun v r h => ?_, e⟩
      (fun i σ H' _ ⟨t, c4, _, _, _, _, e'⟩ => SqL.of (e'.keep _ _ ha (by simp))) ?_ ?_⟩
    · rw [List.getElem?_map] at h
      by_cases hv : v < n
      · rw [List.getElem?_range hv] at h
        cases h
        exact ⟨fun x => ⟨fun z => .inl (List.mem_singleton.mp z), fun z => z.elim (fun z => by rw [z]; exact List.mem_cons_self) fun ⟨_, _, _, _, z⟩ => nomatch z⟩, Nat.le_refl _⟩
      · rw [List.getElem?_eq_none (by rw [List.length_range]; omega)] at h
        cases h
    · rintro i x σ H' hxi ⟨t, c4, rfl, L4, tl, ht, e4⟩
      obtain ⟨r, tt, hri, rfl, htt⟩ := ims_row (him.ext e4) hxi
      obtain ⟨w, v, d, l, rfl, w0, w1, _⟩ := hA.2 r (List.mem_of_getElem? hri)
      have hi : i < 200 := Nat.lt_of_lt_of_le (List.getElem?_eq_some_iff.mp hri).1 hA.1
      obtain ⟨wn, rfl⟩ := Int.eq_ofNat_of_zero_le w0
      have hwn : wn < t.length := by omega
      obtain ⟨b, eb, eb2, bm, ys, hb, hys⟩ := L4.at (List.getElem?_eq_getElem hwn)
      have hv1 := ht wn _ (List.getElem?_eq_getElem hwn)
      refine ⟨_, rfl, _, rfl, tt, _, 0, .int wn, rfl, rfl, SqT.of htt, rfl, _, _, _, _, rfl, rfl, SqL.of L4.top, atI_of eb, Or.inl ⟨rfl, _, SqL.of hb⟩, ?_⟩
      refine ⟨_, rfl, 1, rfl, tt, _, rfl, SqT.of htt, (by show ¬ (HT.sIx 4 0 (some 1) = 0 ∧ HT.sIx 4 4 none = 4); decide), fun t1 h1 => ?_⟩
      have e5 : Ext [] H' (upd H' t1 (.tup [.int v, .int d, .int l])) := Ext.new h1
      have hb1 : (upd H' t1 (.tup [.int v, .int d, .int l])) b = some (.lst ys) := e5.keep _ _ hb (by simp)
      have hysl : ys.length ≤ i + 1 := by rw [← hys.length, List.length_map]; exact hv1.2
      refine ⟨b, ys, .ref t1, rfl, rfl, hb1, szl (by omega), ?_⟩
      have e6 : Ext [b] H' (upd (upd H' t1 (.tup [.int v, .int d, .int l])) b (.lst (ys ++ [.ref t1]))) := e5.any.trans (Ext.write (o := .lst ys) hb1 trivial List.mem_cons_self)
      refine ⟨t.set wn (t[wn] ++ [[v, d, l]]), _, rfl, L4.put stab_RT eb2 e6 (RT.snoc hb1 (hys.ext e5) upd_same), by rw [List.length_set]; exact tl, fun v' r' h' => ?_, (e4.trans e5).wr (hn b bm) hb1 trivial⟩
      unfold OutP
      rw [take_next hri]
      by_cases c : v' = wn
      · subst c
        rw [List.getElem?_set_self hwn] at h'
        cases h'
        refine ⟨fun x => ⟨fun hx => ?_, fun hx => ?_⟩, by rw [List.length_append]; exact Nat.succ_le_succ hv1.2⟩
        · rcases List.mem_append.mp hx with hx | hx
          · rcases (hv1.1 x).mp hx with z | ⟨v2, d2, l2, ex, hs⟩
            · exact .inl z
            · exact .inr ⟨v2, d2, l2, ex, List.mem_append_left _ hs⟩
          · exact .inr ⟨v, d, l, List.mem_singleton.mp hx, List.mem_append_right _ List.mem_cons_self⟩
        · rcases hx with z | ⟨v2, d2, l2, ex, hs⟩
          · exact List.mem_append_left _ ((hv1.1 x).mpr (.inl z))
          · rcases List.mem_append.mp hs with hs | hs
            · exact List.mem_append_left _ ((hv1.1 x).mpr (.inr ⟨v2, d2, l2, ex, hs⟩))
            · have e := List.mem_singleton.mp hs
              simp at e
              obtain ⟨rfl, rfl, rfl⟩ := e
              rw [ex]
              exact List.mem_append_right _ List.mem_cons_self
      · rw [List.getElem?_set_ne (Ne.symm c)] at h'
        obtain ⟨g1, g2⟩ := ht v' r' h'
        refine ⟨fun x => (g1 x).trans ⟨fun z => z.elim .inl fun ⟨v2, d2, l2, ex, hs⟩ => .inr ⟨v2, d2, l2, ex, List.mem_append_left _ hs⟩, fun z => z.elim .inl fun ⟨v2, d2, l2, ex, hs⟩ => ?_⟩, by omega⟩
        rcases List.mem_append.mp hs with hs | hs
        · exact .inr ⟨v2, d2, l2, ex, hs⟩
        · exfalso
          have e := List.mem_singleton.mp hs
          simp at e
          omega
    rintro σ H3 ⟨t, c4, rfl, Lo, tl, ht, e3⟩
    have hxl : xs.length = arcs.length := by rw [← him.length, List.length_map]
    have hout : ∀ (v : Nat) r, t[v]? = some r → v < n → OutV (arcs ++ loops n) v r := fun v r h hv => (ht v r h).all (by omega) hv
    generalize hSS : arcs ++ loops n = S at *
    clear ht L
    -- best
    refine ⟨41, rfl, by decide, by decide, fun D2 hD2 => ?_⟩
    have off2 := Lo.off there_RT hD2
    have D2H : H D2 = none := e3.free _ hD2
    have e4 : Ext [D2] H3 (upd H3 D2 (.lst [])) := Ext.new hD2
    refine lc_range (lo := 0) (n := 41) (fun i H4 => ∃ bs, LoL RV H4 D2 bs (List.replicate i (List.replicate n (V.int (-1)))) ∧ (∀ b ∈ bs, H3 b = none) ∧ Ext [] H3 H4) ⟨[], LoL.nil upd_same, (fun _ z => nomatch z), Ext.new hD2⟩ ?_ ?_
    · rintro i H4 hi ⟨bs, L, hn4, e⟩
      refine ⟨rfl, ?_⟩
      refine ⟨_, rfl, sz (by show 1 ≤ 100000; decide), fun b hb => ?_⟩
      have e5 : Ext [] H4 (upd H4 b (.lst [.int (-1)])) := Ext.new hb
      refine ⟨_, rfl, b, n, [.int (-1)], rfl, rfl, upd_same, by omega, by omega, sz (by show 1 * (n : Int).toNat ≤ 100000; omega), fun r hr => ?_⟩
      have hrr : (List.replicate (n : Int).toNat [V.int (-1)]).flatten = List.replicate n (V.int (-1)) := by
        rw [Int.toNat_natCast, List.flatten_replicate_singleton]
      rw [hrr]
      have e6 : Ext [] _ (upd (upd H4 b (.lst [.int (-1)])) r (.lst (List.replicate n (V.int (-1))))) := Ext.new hr
      have L1 := L.ext stab_RV (e5.trans e6) (by simp) (by simp)
      have hr4 : H4 r = none := e5.free _ hr
      have Dr := (L.off there_RV hr4).1
      refine ⟨bs.map V.ref, L1.top, szl (by rw [List.length_map, L.len, List.length_replicate]; omega), bs ++ [r], ?_, fun c hc => ?_, (e.trans (e5.trans e6)).wr hD2 L1.top trivial⟩
      · rw [List.replicate_succ']
        refine L.push stab_RV (o := .lst []) hr4 (e5.trans e6) there_RV ?_ L1.top
        show _ = _
        rw [upd_ne (Ne.symm Dr), upd_same]
      · rcases List.mem_append.mp hc with hc | hc
        · exact hn4 c hc
        · rw [List.mem_singleton.mp hc]; exact e.free _ hr4
    rintro H4 ⟨bs, Lb, hn4, e5⟩
    have hnb : ∀ b ∈ bs, H b = none := fun b hb => e3.free _ (hn4 b hb)
    have Lo4 := Lo.ext stab_RT e5 (by simp) (by simp)
    -- best[0][u] = 0
    obtain ⟨b0, eb0, eb02, bm0, hb0⟩ := Lb.at (i := 0) (r := List.replicate n (V.int (-1))) (by rw [List.getElem?_replicate]; rfl)
    have hb0' : H4 b0 = some (.lst (List.replicate n (V.int (-1)))) := hb0
    refine ⟨_, rfl, _, _, _, _, rfl, rfl, SqL.of Lb.top, atI_of (i := 0) eb0, _, rfl, ?_⟩
    refine ⟨_, _, _, _, rfl, rfl, hb0', ixN_of (by rw [List.length_replicate]; exact hu), ?_⟩
    have offb : ∀ b ∈ bs, b ≠ D ∧ b ∉ as := fun b hb => by
      have := Lo.off there_RT (hn4 b hb)
      exact ⟨Ne.symm this.1, this.2⟩
    have keepO : ∀ {Hx : Hp} {b : Addr} {o o' : HO}, b ∈ bs → LoL (RT K) Hx D as t → Hx b = some o → Wr o → LoL (RT K) (upd Hx b o') D as t := fun {Hx b o o'} hb L h w => by
      have hob := offb b hb
      refine L.ext stab_RT (Ext.write (M := [b]) h w List.mem_cons_self) (by simpa using Ne.symm hob.1) fun c hc => ?_
      have : c ≠ b := fun z => hob.2 (z ▸ hc)
      simpa using this
    have e6 : Ext [] H (upd H4 b0 (.lst ((List.replicate n (V.int (-1))).set u (.int 0)))) := (e3.trans e5).wr (hnb b0 bm0) hb0' trivial
    have Lb1 := Lb.put stab_RV eb02 (H' := upd H4 b0 (.lst ((List.replicate n (V.int (-1))).set u (.int 0)))) (Ext.write hb0' trivial List.mem_cons_self) upd_same
    have Lo5 := keepO (o' := .lst ((List.replicate n (V.int (-1))).set u (.int 0))) bm0 Lo4 hb0' trivial
    have P0 : PT S u n (Bf 0 0 []) ((List.replicate 41 (List.replicate n (V.int (-1)))).set 0 ((List.replicate n (V.int (-1))).set u (.int 0))) := by
      refine ⟨by rw [List.length_set, List.length_replicate], fun F hF => ?_⟩
      by_cases c : F = 0
      · subst c
        refine ⟨_, List.getElem?_set_self (by rw [List.length_replicate]; exact hF), by rw [List.length_set, List.length_replicate], fun v hv => ⟨_, ?_, push_nil hS⟩⟩
        by_cases c : v = u
        · subst c
          rw [List.getElem?_set_self (by rw [List.length_replicate]; exact hv), if_pos ⟨rfl, rfl⟩]
          rfl
        · rw [List.getElem?_set_ne (Ne.symm c), List.getElem?_replicate, if_pos hv, if_neg (by omega)]
          rfl
      · refine ⟨_, by rw [List.getElem?_set_ne (Ne.symm c), List.getElem?_replicate, if_pos hF], List.length_replicate, fun v hv => ⟨_, ?_, push_nil hS⟩⟩
        rw [List.getElem?_replicate, if_pos hv, if_neg (by omega)]
        rfl
    clear Lb Lo Lo4 hb0 hb0' eb0 eb02 bm0
    -- the loops
    refine ⟨41, rfl, by decide, by decide, for_range (lo := 0) (n := 41)
      (fun far σ H' => ∃ (tab : List (List V)) (c6 c7 c8 c9 c10 c11 c12 : Option V), σ = [some (.int n), some (.ref a), some (.int u), some (.ref D), c4, some (.ref D2), c6, c7, c8, c9, c10, c11, c12] ∧
        LoL RV H' D2 bs tab ∧ PT S u n (Bf far 0 []) tab ∧ LoL (RT K) H' D as t ∧ Ext [] H H')
      ⟨_, none, none, none, none, none, none, none, rfl, Lb1, P0, Lo5, e6⟩ ?_ ?_⟩
    · rintro far σ H5 hfar ⟨tab, c6, c7, c8, c9, c10, c11, c12, rfl, Lb, hP, Lo, e7⟩
      rw [Int.zero_add]
      refine ⟨_, rfl, n, rfl, by omega, by omega, for_range (lo := 0) (n := n)
        (fun row σ H' => ∃ (tab : List (List V)) (c7 c8 c9 c10 c11 c12 : Option V), σ = [some (.int n), some (.ref a), some (.int u), some (.ref D), c4, some (.ref D2), some (.int far), c7, c8, c9, c10, c11, c12] ∧
          LoL RV H' D2 bs tab ∧ PT S u n (Bf far row []) tab ∧ LoL (RT K) H' D as t ∧ Ext [] H H')
        ⟨_, _, _, _, _, _, _, rfl, Lb, hP, Lo, e7⟩ ?_ ?_⟩
      · rintro row σ H6 hrow ⟨tab, c7, c8, c9, c10, c11, c12, rfl, Lb, hP, Lo, e8⟩
        rw [Int.zero_add]
        obtain ⟨rr, hr1, hr2, hr3⟩ := hP.row far hfar
        obtain ⟨oh, ho1, ho2⟩ := hr3 row hrow
        have hW : Great (Way S u row far) oh := ho2.congr (push_here hS)
        obtain ⟨b, eb, _, _, hb⟩ := Lb.at hr1
        refine ⟨_, rfl, _, rfl, _, _, _, _, rfl, rfl, SqL.of Lb.top, atI_of eb, _, rfl, _, _, _, _, rfl, rfl, SqL.of hb, atI_of ho1, ?_⟩
        have hrt : row < t.length := by omega
        obtain ⟨bo, ebo, _, bom, ys, hbo, hys⟩ := Lo.at (List.getElem?_eq_getElem hrt)
        have hOV := hout row _ (List.getElem?_eq_getElem hrt) hrow
        have hrow2 : ∀ (H' : Hp), LoL (RT K) H' D as t → ∃ zs, H' bo = some (.lst zs) ∧ Ims K H' (t[row].map rowD) zs := fun H' L => by
          obtain ⟨b2, _, eb3, _, zs, h1, h2⟩ := L.at (List.getElem?_eq_getElem hrt)
          obtain ⟨b4, _, eb4, _, _, _, _⟩ := Lo.at (List.getElem?_eq_getElem hrt)
          rw [List.getElem?_map] at ebo
          rw [eb3] at ebo
          cases ebo
          exact ⟨zs, h1, h2⟩
        generalize t[row] = T0 at hys hOV hrow2
        have rowNe : ∀ b ∈ bs, b ≠ bo := fun b hb z => (offb b hb).2 (z ▸ bom)
        refine ⟨_, rfl, _, rfl, _, _, _, _, rfl, rfl, SqL.of Lo.top, atI_of ebo, bo, rfl, ⟨_, SqL.of hbo⟩, for_list (K := K) (a := bo) (xs := ys)
          (fun j σ H' => ∃ (tab : List (List V)) (c9 c10 c11 c12 : Option V), σ = [some (.int n), some (.ref a), some (.int u), some (.ref D), c4, some (.ref D2), some (.int far), some (.int row), some (.int (oI oh)), c9, c10, c11, c12] ∧
            LoL RV H' D2 bs tab ∧ PT S u n (Bf far row (T0.take j)) tab ∧ LoL (RT K) H' D as t ∧ H' bo = some (.lst ys) ∧ Ims K H' (T0.map rowD) ys ∧ Ext [] H H')
          ⟨_, _, _, _, _, rfl, Lb, hP, Lo, hbo, hys, e8⟩ (fun j σ H' _ ⟨_, _, _, _, _, _, _, _, _, h, _⟩ => SqL.of h) ?_ ?_⟩
        · rintro j x σ H7 hx ⟨tab, c9, c10, c11, c12, rfl, Lb, hP, Lo, hbo, hys, e9⟩
          obtain ⟨r0, tt, hrj, rfl, htt⟩ := ims_row hys hx
          obtain ⟨ev, d, l, rfl, hst⟩ := (hOV r0).mp (List.mem_of_getElem? hrj)
          obtain ⟨w0, w1, v0, v1, d0, d1, l0, l1, hz⟩ := hS.ok _ _ _ _ hst
          obtain ⟨en, rfl⟩ := Int.eq_ofNat_of_zero_le v0
          obtain ⟨dn, rfl⟩ := Int.eq_ofNat_of_zero_le d0
          refine ⟨tt, _, rfl, SqT.of htt, rfl, _, _, rfl, _, _, rfl, _, _, rfl, rfl, ?_⟩
          refine ⟨_, rfl, _, _, rfl, rfl, _, rfl, iteP (fun h1 => ?_) (fun h1 => ?_)⟩
          · refine ⟨_, rfl, _, rfl, _, _, rfl, rfl, _, _, rfl, rfl, _, rfl, iteP (fun h2 => ?_) (fun h2 => ?_)⟩
            · obtain ⟨h, rfl⟩ : ∃ h, oh = some h := by
                cases oh with
                | none => exact absurd h1 (by decide)
                | some h => exact ⟨h, rfl⟩
              have hF0 : far + dn < 41 := by omega
              obtain ⟨r0, q1, q2, q3⟩ := hP.row (far + dn) hF0
              obtain ⟨o1, q4, q5⟩ := q3 en (by omega)
              obtain ⟨b1, eb1, eb12, bm1, hb1⟩ := Lb.at q1
              have hb1' : H7 b1 = some (.lst r0) := hb1
              have esum : (far : Int) + dn = ((far + dn : Nat) : Int) := by omega
              refine ⟨_, rfl, _, rfl, _, rfl, _, _, rfl, rfl, _, _, _, _, rfl, rfl, SqL.of Lb.top, by rw [esum]; exact atI_of eb1, ?_⟩
              refine ⟨_, rfl, _, rfl, _, _, _, _, rfl, rfl, SqL.of hb1', atI_of q4, _, rfl, _, rfl, _, _, rfl, rfl, _, _, rfl, _, rfl, _, rfl, ?_⟩
              refine ⟨_, _, _, _, rfl, rfl, hb1', ixN_of (by rw [q2]; omega), ?_⟩
              have ev : (if h + l > oI o1 then h + l else oI o1) = oI (omax o1 ((some h).map (· + l))) := by
                have hh0 := hW.1.lag0 hS
                cases o1 with
                | none =>
                  show (if h + l > -1 then h + l else -1) = h + l
                  rw [if_pos (by omega)]
                | some z => rfl
              have hv : (V.int (if h + l > oI o1 then h + l else oI o1)) = .int (oI (omax o1 ((some h).map (· + l)))) := by rw [ev]
              have g2 : Great (PushC S u (far + dn : Nat) en (Bf far row (T0.take (j + 1)))) (omax o1 ((some h).map (· + l))) := by
                rw [take_next hrj]
                rw [← esum] at q5 ⊢
                exact (q5.or (hW.shift l)).congr (push_to hst)
              refine ⟨tab.set (far + dn) (r0.set en (.int (if h + l > oI o1 then h + l else oI o1))), _, _, _, _, rfl, Lb.put stab_RV eb12 (Ext.write hb1' trivial List.mem_cons_self) upd_same, ?_, keepO bm1 Lo hb1' trivial, ?_, ?_, ?_⟩
              · rw [hv]
                refine hP.put hF0 (by omega) q1 (fun F v hne l' => ?_) g2
                rw [take_next hrj]
                exact push_off (.inl fun ⟨z1, z2⟩ => hne ⟨by omega, by omega⟩) l'
              · rw [upd_ne (Ne.symm (rowNe b1 bm1))]; exact hbo
              · exact hys.ext (Ext.write (M := [b1]) hb1' trivial List.mem_cons_self)
              · exact e9.wr (hnb b1 bm1) hb1' trivial
            · refine ⟨tab, _, _, _, _, rfl, Lb, hP.congr fun F v hF hv l' => ?_, Lo, hbo, hys, e9⟩
              rw [take_next hrj]
              exact push_off (.inl fun ⟨z1, z2⟩ => by omega) l'
          · refine ⟨tab, _, _, _, _, rfl, Lb, hP.congr fun F v hF hv l' => ?_, Lo, hbo, hys, e9⟩
            rw [take_next hrj]
            have hn : oh = none := oI_none (by omega) fun m hm => by
              rw [hm] at hW
              exact hW.1.lag0 hS
            rw [hn] at hW
            exact push_off (.inr hW) l'
        · rintro σ H7 ⟨tab, c9, c10, c11, c12, rfl, Lb, hP, Lo, hbo, hys, e9⟩
          have hyl : ys.length = T0.length := by rw [← hys.length, List.length_map]
          rw [hyl, List.take_length] at hP
          exact ⟨tab, _, _, _, _, _, _, rfl, Lb, hP.congr fun F v _ _ l' => push_row hOV l', Lo, e9⟩
      · rintro σ H6 ⟨tab, c7, c8, c9, c10, c11, c12, rfl, Lb, hP, Lo, e8⟩
        exact ⟨tab, _, _, _, _, _, _, _, rfl, Lb, hP.congr fun F v _ _ l' => push_far hS l', Lo, e8⟩
    · rintro σ H5 ⟨tab, c6, c7, c8, c9, c10, c11, c12, rfl, Lb, hP, Lo, e7⟩
      refine ⟨_, rfl, q D2 bs tab H5 Lb ⟨hP.len, fun F hF => ?_⟩ D2H hnb e7⟩
      obtain ⟨r, h1, h2, h3⟩ := hP.row F hF
      exact ⟨r, h1, h2, fun v hv => let ⟨o, h4, h5⟩ := h3 v hv; ⟨o, h4, h5.congr (push_end hS (by omega))⟩⟩
end
end K19
namespace K19
open PySem PySem.Spec PyProof.Rows L2 Gd Bx Cl Sx Tb Wy Kx Gs
theorem sc_law_ways_hold : FnScope ["pool", "nets", "lags", "u", "v", "great", "spread", "first", "far", "due", "k", "row"] ["pool", "nets", "lags", "u", "v", "great"] (defScope s_law_ways_hold) := ⟨rfl, rfl, rfl, by decide +kernel, rfl, by decide +kernel, by decide +kernel⟩
/-- the net at x, its kept arcs A; S the steps given; the table at q of the ways from u -/
def Side (K : PySem.W.Frag) (C p : Addr) (n : Nat) (A S : List Rw) (u : Nat) (x q : Addr) (H : Hp) : Prop :=
  NetAt K C H x n A ∧ A.length ≤ 200 ∧ StepsOf n (A ++ loops n) ∧ Dom S (A ++ loops n) ∧ StepsOf n S ∧ n ≤ 8 ∧ 1 ≤ n ∧ u < n ∧ p ≠ x ∧
    ∃ as tab, LoL RV H q as tab ∧ FullI S u n tab ∧ p ≠ q ∧ p ∉ as
section
variable {K : PySem.W.Frag} {C p x q : Addr} {n u : Nat} {A S : List Rw} {H H' : Hp}
theorem Side.ext (s : Side K C p n A S u x q H) (e : Ext [p] H H') : Side K C p n A S u x q H' := by
  obtain ⟨a1, a2, a3, a4, a5, a6, a7, a8, a9, as, tab, b1, b2, b3, b4⟩ := s
  exact ⟨a1.ext e (by simpa using Ne.symm a9), a2, a3, a4, a5, a6, a7, a8, a9, as, tab, b1.ext stab_RV e (by simpa using Ne.symm b3) (fun a ha => by
    have : a ≠ p := fun z => b4 (z ▸ ha)
    simpa using this), b2, b3, b4⟩
theorem Side.due (s : Side K C p n A S u x q H) {far v : Nat} (hf : far ≤ 40) (hv : v < n) :
    ∃ as tab r o, Tab H q as tab ∧ tab[far]? = some r ∧ r[v]? = some (.int (oI o)) ∧ Great (Way S u v far) o ∧ dueV (oI o) = oV o ∧ Sm o := by
  obtain ⟨a1, a2, a3, a4, a5, a6, a7, a8, a9, as, tab, b1, b2, b3, b4⟩ := s
  obtain ⟨r, h1, h2, h3⟩ := b2.row far (by omega)
  obtain ⟨o, h4, h5⟩ := h3 v hv
  have sm := sm_great a5 a6 hv hf h5
  exact ⟨as, tab, r, o, ⟨b1.top, b1.len, b1.row⟩, h1, h4, h5, due_o sm, sm⟩
theorem Side.first (s : Side K C p n A S u x q H) : ∃ as tab b r, LoL RV H q as tab ∧ (as.map V.ref)[0]? = some (.ref b) ∧ H b = some (.lst r) ∧ r.length = n := by
  obtain ⟨a1, a2, a3, a4, a5, a6, a7, a8, a9, as, tab, b1, b2, b3, b4⟩ := s
  obtain ⟨r, h1, h2, h3⟩ := b2.row 0 (by omega)
  obtain ⟨b, eb, _, _, hb⟩ := b1.at h1
  exact ⟨as, tab, b, r, b1, eb, hb, h2⟩
end
theorem rg_first {first sp : Int} (hs : sp = 1 ∨ sp = 4) (h0 : 0 ≤ first) (h1 : first < sp) : ∃ N : Nat, RgC first 41 sp N ∧ ∀ i : Nat, i < N → ∃ f : Nat, first + (i : Nat) * sp = f ∧ f ≤ 40 := by
  rcases hs with rfl | rfl
  · have : first = 0 := by omega
    subst this
    refine ⟨41, by unfold RgC; decide +kernel, fun i hi => ⟨i, by omega, by omega⟩⟩
  · have : first = 0 ∨ first = 1 ∨ first = 2 ∨ first = 3 := by omega
    rcases this with rfl | rfl | rfl | rfl
    · exact ⟨11, by unfold RgC; decide +kernel, fun i hi => ⟨i * 4, by omega, by omega⟩⟩
    · exact ⟨10, by unfold RgC; decide +kernel, fun i hi => ⟨1 + i * 4, by omega, by omega⟩⟩
    · exact ⟨10, by unfold RgC; decide +kernel, fun i hi => ⟨2 + i * 4, by omega, by omega⟩⟩
    · exact ⟨10, by unfold RgC; decide +kernel, fun i hi => ⟨3 + i * 4, by omega, by omega⟩⟩
def spWH (K : PySem.W.Frag) (C : Addr) : Sp := fun vs H Q _ => ∃ (p nl ll x0 x1 t0 t1 : Addr) (n u v : Nat) (g : Bool) (A0 S0 A1 S1 : List Rw), vs = [.ref p, .ref nl, .ref ll, .int u, .int v, .bl g] ∧ PoolAt H p ∧
  H nl = some (.lst [.ref x0, .ref x1]) ∧ H ll = some (.lst [.ref t0, .ref t1]) ∧ p ≠ nl ∧ p ≠ ll ∧ Side K C p n A0 S0 u x0 t0 H ∧ Side K C p n A1 S1 u x1 t1 H ∧ v < n ∧
  ∀ (H' : Hp), PoolAt H' p → Ext [p] H H' → Q (.bl true) H'
section
variable {P : Program} {w : World} {K : PySem.W.Frag} {mg : Str → Option Value} {base : Heap}
theorem ok_law_ways_hold (T : Txt K mg) {C : Addr} (N : NetC K mg C) : Callee P w K mg base CX0 5 "_law_ways_hold" ["pool", "nets", "lags", "u", "v", "great"] (spWH K C) := by
  refine callee_of0 T.d_law_ways_hold sc_law_ways_hold (fun _ _ _ _ _ _ us hl => match us, hl with | [_, _, _, _, _, _], _ => rfl) (fun vs H Q E h => ?_) (fun f cdv A outer s H vs Q E hr h => ?_)
  · obtain ⟨p, nl, ll, x0, x1, t0, t1, n, u, v, g, A0, S0, A1, S1, rfl, _⟩ := h
    rfl
  · obtain ⟨p, nl, ll, x0, x1, t0, t1, n, u, v, g, A0, S0, A1, S1, rfl, hp, hnl, hll, pnl, pll, sd0, sd1, hv, q⟩ := h
    have nd := sc_law_ways_hold.nd
    have hr1 : RoomG 1 _ := hr.mono (by decide)
    have W4 := (ok_way_lag (P := P) (w := w) (base := base) T N).callee eq_way_lag
    refine ⟨_, pss_cons (ps_set (i := 6) nd rfl (Or.inl rfl) (pe_ix ix_list (pe_lst (pa_cons (pe_int) (pa_cons (pe_int) (pa_nil)))) (pe_callTy call_int1 rfl T.int (by decide +kernel) (pa_cons (pv 5) (pa_nil))) (fun _ _ => rfl)))
(pss_cons (ps_set (i := 7) nd rfl (Or.inl rfl) (pc0 (ok_law_draw T) hr1 (pa_cons (pv 0) (pa_cons (pv 6) (pa_nil)))))
(pss_cons (ps_for PassesOwn.never rfl (pi_range3 rfl T.range (pa_cons (pv 7) (pa_cons (pe_int) (pa_cons (pv 6) (pa_nil))))) (pg_name (i := 8) nd rfl (Or.inl rfl))
  (pss_cons (ps_set (i := 9) nd rfl (Or.inl rfl) (pc0 (ok_law_due T) hr1 (pa_cons (pe_ix ix_list (pv 2) (pe_int) (fun _ _ => rfl)) (pa_cons (pv 8) (pa_cons (pv 4) (pa_nil))))))
  (pss_cons (ps_if (pt_not (pt_val (pc0 (ok_law_same T) hr1 (pa_cons (pc0 W4 hr (pa_cons (pe_ix ix_list (pv 1) (pe_int) (fun _ _ => rfl)) (pa_cons (pv 3) (pa_cons (pv 4) (pa_cons (pv 8) (pa_nil)))))) (pa_cons (pv 9) (pa_nil))))))
    (pss_one (ps_ret (pe_bl)))
    (pss_nil))
  (pss_one (ps_if (pt_cmpR op_eq (pe_op op_mod (pe_callTy call_int1 rfl T.int (by decide +kernel) (pa_cons (pv 8) (pa_nil))) (pe_int)) (pv 7) (nomark _))
    (pss_cons (ps_set (i := 9) nd rfl (Or.inl rfl) (pc0 (ok_law_due T) hr1 (pa_cons (pe_ix ix_list (pv 2) (pe_int) (fun _ _ => rfl)) (pa_cons (pv 8) (pa_cons (pv 4) (pa_nil))))))
    (pss_one (ps_if (pt_not (pt_val (pc0 (ok_law_same T) hr1 (pa_cons (pc0 W4 hr (pa_cons (pe_ix ix_list (pv 1) (pe_int) (fun _ _ => rfl)) (pa_cons (pv 3) (pa_cons (pv 4) (pa_cons (pv 8) (pa_nil)))))) (pa_cons (pv 9) (pa_nil))))))
      (pss_one (ps_ret (pe_bl)))
      (pss_nil))))
    (pss_nil))))))
(pss_cons (ps_for PassesOwn.never rfl (pi_range1 rfl T.range (pa_cons (pe_op op_sub (pe_int) (pe_op op_mul (pe_int) (pe_callTy call_int1 rfl T.int (by decide +kernel) (pa_cons (pv 5) (pa_nil))))) (pa_nil))) (pg_name (i := 10) nd rfl (Or.inl rfl))
  (pss_cons (ps_set (i := 8) nd rfl (Or.inl rfl) (pc0 (ok_law_draw T) hr1 (pa_cons (pv 0) (pa_cons (pe_int) (pa_nil)))))
  (pss_one (ps_for PassesOwn.never rfl (pi_range1 rfl T.range (pa_cons (pe_callB call_len rfl T.len boot_len (pa_cons (pe_ix ix_list (pe_ix ix_list (pv 2) (pe_int) (fun _ _ => rfl)) (pe_int) (fun _ _ => rfl)) (pa_nil))) (pa_nil))) (pg_name (i := 11) nd rfl (Or.inl rfl))
    (pss_cons (ps_set (i := 9) nd rfl (Or.inl rfl) (pc0 (ok_law_due T) hr1 (pa_cons (pe_ix ix_list (pv 2) (pe_int) (fun _ _ => rfl)) (pa_cons (pv 8) (pa_cons (pv 11) (pa_nil))))))
    (pss_one (ps_if (pt_not (pt_val (pc0 (ok_law_same T) hr1 (pa_cons (pc0 W4 hr (pa_cons (pe_ix ix_list (pv 1) (pe_int) (fun _ _ => rfl)) (pa_cons (pv 3) (pa_cons (pv 11) (pa_cons (pv 8) (pa_nil)))))) (pa_cons (pv 9) (pa_nil))))))
      (pss_one (ps_ret (pe_bl)))
      (pss_nil))))))))
(pss_one (ps_ret (pe_bl)))))), ?_⟩
    have keep : ∀ {H' : Hp}, Ext [p] H H' → H' nl = some (.lst [.ref x0, .ref x1]) ∧ H' ll = some (.lst [.ref t0, .ref t1]) := fun e => ⟨e.keep _ _ hnl (by simpa using Ne.symm pnl), e.keep _ _ hll (by simpa using Ne.symm pll)⟩
    -- spread
    obtain ⟨sp, hsp, esp⟩ : ∃ sp : Int, (sp = 1 ∨ sp = 4) ∧ atI [V.int 1, V.int 4] (if g then 1 else 0) = some (.int sp) := by
      cases g
      · exact ⟨1, .inl rfl, rfl⟩
      · exact ⟨4, .inr rfl, rfl⟩
    refine ⟨sz (by show 2 ≤ 100000; decide), fun t ht => ?_⟩
    have pt : p ≠ t := hp.ne ht
    have e1 : Ext [p] H (upd H t (.lst [.int 1, .int 4])) := Ext.new ht
    refine ⟨_, rfl, Or.inr ⟨g, rfl, t, _, _, _, rfl, rfl, SqL.of upd_same, esp, ?_⟩⟩
    -- first
    refine ⟨_, rfl, _, rfl, p, sp, rfl, hp.ext (Ext.new (M := []) ht) (by simp), by omega, by omega, fun first H1 f0 f1 ex1 hp1 => ?_⟩
    have e2 : Ext [p] H H1 := e1.trans ex1
    obtain ⟨Nr, hrg, hfar⟩ := rg_first hsp f0 f1
    refine ⟨_, rfl, _, rfl, first, 41, sp, Nr, rfl, hrg, for_rangeC (lo := first) (c := sp) (n := Nr)
      (fun i σ H' => ∃ (c8 c9 : Option V), σ = [some (.ref p), some (.ref nl), some (.ref ll), some (.int u), some (.int v), some (.bl g), some (.int sp), some (.int first), c8, c9, none, none] ∧ PoolAt H' p ∧ Ext [p] H H')
      ⟨none, none, rfl, hp1, e2⟩ ?_ ?_⟩
    · rintro i σ H2 hi ⟨c8, c9, rfl, hp2, e3⟩
      obtain ⟨far, efar, far40⟩ := hfar i hi
      rw [efar]
      obtain ⟨k1, k2⟩ := keep e3
      have s0 := sd0.ext e3
      obtain ⟨as, tab, r, o, hT, hr1', hr2', hg, hdue, hsm⟩ := s0.due far40 hv
      refine ⟨_, rfl, ll, _, 0, _, rfl, rfl, SqL.of k2, rfl, _, rfl, _, rfl, t0, far, v, as, tab, r, oI o, rfl, hT, hr1', hr2', ?_⟩
      rw [hdue]
      refine ⟨_, rfl, nl, _, 0, _, rfl, rfl, SqL.of k1, rfl, _, rfl, _, rfl, _, rfl, x0, n, u, v, far, A0, rfl, s0.1, s0.2.2.2.2.2.1, s0.2.1, s0.2.2.1, s0.2.2.2.2.2.2.2.1, hv, far40, fun o2 H3 hg2 e4 => ?_⟩
      obtain rfl : o = o2 := Great.dom s0.2.2.2.1 hg hg2
      refine ⟨_, rfl, _, _, oD o, rfl, dp_o o, dp_o o, good_o hsm, _, rfl, ?_⟩
      have e5 : Ext [p] H H3 := e3.trans e4.any
      have hp3 := hp2.ext e4 (by simp)
      obtain ⟨k3, k4⟩ := keep e5
      have s1 := sd1.ext e5
      -- the other net
      refine ⟨_, rfl, Or.inl ⟨_, rfl, _, _, rfl, rfl, (show (0 : Int) < 8 by decide), _, rfl, rfl, _, rfl, iteP (fun _ => ?_) (fun _ => ?_)⟩⟩
      · obtain ⟨as, tab, r, o, hT, hr1', hr2', hg, hdue, hsm⟩ := s1.due far40 hv
        refine ⟨_, rfl, ll, _, 1, _, rfl, rfl, SqL.of k4, rfl, _, rfl, _, rfl, t1, far, v, as, tab, r, oI o, rfl, hT, hr1', hr2', ?_⟩
        rw [hdue]
        refine ⟨_, rfl, nl, _, 1, _, rfl, rfl, SqL.of k3, rfl, _, rfl, _, rfl, _, rfl, x1, n, u, v, far, A1, rfl, s1.1, s1.2.2.2.2.2.1, s1.2.1, s1.2.2.1, s1.2.2.2.2.2.2.2.1, hv, far40, fun o2 H4 hg2 e6 => ?_⟩
        obtain rfl : o = o2 := Great.dom s1.2.2.2.1 hg hg2
        refine ⟨_, rfl, _, _, oD o, rfl, dp_o o, dp_o o, good_o hsm, _, rfl, ?_⟩
        exact ⟨_, _, rfl, hp3.ext e6 (by simp), e5.trans e6.any⟩
      · exact ⟨_, _, rfl, hp3, e5⟩
    · rintro σ H2 ⟨c8, c9, rfl, hp2, e3⟩
      refine ⟨_, rfl, Or.inr ⟨g, rfl, _, _, rfl, rfl, (by unfold CMul; cases g <;> decide), _, _, rfl, rfl, _, rfl, by cases g <;> decide, by cases g <;> decide, for_range (lo := 0) (n := (4 - 3 * (if g then 1 else 0) : Int).toNat)
        (fun i σ H' => ∃ (c8 c9 c10 c11 : Option V), σ = [some (.ref p), some (.ref nl), some (.ref ll), some (.int u), some (.int v), some (.bl g), some (.int sp), some (.int first), c8, c9, c10, c11] ∧ PoolAt H' p ∧ Ext [p] H H')
        ⟨_, _, _, _, rfl, hp2, e3⟩ ?_ ?_⟩⟩
      · rintro i σ H3 hi ⟨c8, c9, c10, c11, rfl, hp3, e4⟩
        refine ⟨_, rfl, p, 41, rfl, hp3, by decide, by decide, fun farI H4 d0 d1 ex4 hp4 => ?_⟩
        obtain ⟨far, rfl⟩ := Int.eq_ofNat_of_zero_le d0
        have far40 : far ≤ 40 := by omega
        have e5 : Ext [p] H H4 := e4.trans ex4
        obtain ⟨k1, k2⟩ := keep e5
        obtain ⟨as0, tab0, b0, r0, L0, eb0, hb0, hl0⟩ := (sd0.ext e5).first
        refine ⟨_, rfl, ll, _, 0, _, rfl, rfl, SqL.of k2, rfl, _, _, _, _, rfl, rfl, SqL.of L0.top, atI_of (i := 0) eb0, _, n, rfl, Or.inl ⟨_, SqL.of hb0, hl0.symm⟩, n, rfl, by have := (sd0).2.2.2.2.2.1; omega, by have := (sd0).2.2.2.2.2.1; omega, for_range (lo := 0) (n := n)
          (fun j σ H' => ∃ (c9 c11 : Option V), σ = [some (.ref p), some (.ref nl), some (.ref ll), some (.int u), some (.int v), some (.bl g), some (.int sp), some (.int first), some (.int far), c9, some (.int (0 + i)), c11] ∧ PoolAt H' p ∧ Ext [p] H H')
          ⟨_, _, rfl, hp4, e5⟩ ?_ ?_⟩
        · rintro row σ H5 hrow ⟨c9, c11, rfl, hp5, e6⟩
          rw [Int.zero_add row]
          obtain ⟨k1, k2⟩ := keep e6
          have s0 := sd0.ext e6
          obtain ⟨as, tab, r, o, hT, hr1', hr2', hg, hdue, hsm⟩ := s0.due far40 hrow
          refine ⟨_, rfl, ll, _, 0, _, rfl, rfl, SqL.of k2, rfl, _, rfl, _, rfl, t0, far, row, as, tab, r, oI o, rfl, hT, hr1', hr2', ?_⟩
          rw [hdue]
          refine ⟨_, rfl, nl, _, 0, _, rfl, rfl, SqL.of k1, rfl, _, rfl, _, rfl, _, rfl, x0, n, u, row, far, A0, rfl, s0.1, s0.2.2.2.2.2.1, s0.2.1, s0.2.2.1, s0.2.2.2.2.2.2.2.1, hrow, far40, fun o2 H3 hg2 e4 => ?_⟩
          obtain rfl : o = o2 := Great.dom s0.2.2.2.1 hg hg2
          refine ⟨_, rfl, _, _, oD o, rfl, dp_o o, dp_o o, good_o hsm, _, rfl, ?_⟩
          exact ⟨_, _, rfl, hp5.ext e4 (by simp), e6.trans e4.any⟩
        · rintro σ H5 ⟨c9, c11, rfl, hp5, e6⟩
          exact ⟨_, _, _, _, rfl, hp5, e6⟩
      · rintro σ H3 ⟨c8, c9, c10, c11, rfl, hp3, e4⟩
        exact q H3 hp3 e4
end
end K19
namespace K19
open PySem PySem.Spec PyProof.Rows L2 Gd Bx Cl Sx Tb Wy Kx Gs
theorem sc_law_joins : FnScope ["pool", "net", "mine", "theirs", "u", "v", "k", "one", "two", "w", "dues", "told"] ["pool", "net", "mine", "theirs", "u", "v"] (defScope s_law_joins) := ⟨rfl, rfl, rfl, by decide +kernel, rfl, by decide +kernel, by decide +kernel⟩
def spJ (K : PySem.W.Frag) (C : Addr) : Sp := fun vs H Q _ => ∃ (p x t0 t1 : Addr) (n u v : Nat) (A S : List Rw), vs = [.ref p, .ref x, .ref t0, .ref t1, .int u, .int v] ∧ PoolAt H p ∧
  Side K C p n A S u x t0 H ∧ Side K C p n A S v x t1 H ∧ ∀ (H' : Hp), PoolAt H' p → Ext [p] H H' → Q (.bl true) H'
theorem castN (a b : Nat) : (a : Int) + (b : Int) = ((a + b : Nat) : Int) := rfl
section
variable {P : Program} {w : World} {K : PySem.W.Frag} {mg : Str → Option Value} {base : Heap}
theorem ok_law_joins (T : Txt K mg) {C : Addr} (N : NetC K mg C) : Callee P w K mg base CX0 5 "_law_joins" ["pool", "net", "mine", "theirs", "u", "v"] (spJ K C) := by
  refine callee_of0 T.d_law_joins sc_law_joins (fun _ _ _ _ _ _ us hl => match us, hl with | [_, _, _, _, _, _], _ => rfl) (fun vs H Q E h => ?_) (fun f cdv A' outer s H vs Q E hr h => ?_)
  · obtain ⟨p, x, t0, t1, n, u, v, A, S, rfl, _⟩ := h
    rfl
  · obtain ⟨p, x, t0, t1, n, u, v, A, S, rfl, hp, sd0, sd1, q⟩ := h
    have nd := sc_law_joins.nd
    have hr1 : RoomG 1 _ := hr.mono (by decide)
    have W4 := (ok_way_lag (P := P) (w := w) (base := base) T N).callee eq_way_lag
    have WK := kw_way_lag (P := P) (w := w) (base := base) T N
    refine ⟨_, pss_cons (ps_for PassesOwn.never rfl (pi_range1 rfl T.range (pa_cons (pe_int) (pa_nil))) (pg_name (i := 6) nd rfl (Or.inl rfl))
  (pss_cons (ps_set (i := 7) nd rfl (Or.inl rfl) (pc0 (ok_law_draw T) hr1 (pa_cons (pv 0) (pa_cons (pe_int) (pa_nil)))))
  (pss_cons (ps_set (i := 8) nd rfl (Or.inl rfl) (pc0 (ok_law_draw T) hr1 (pa_cons (pv 0) (pa_cons (pe_op op_sub (pe_int) (pv 7)) (pa_nil)))))
  (pss_cons (ps_set (i := 9) nd rfl (Or.inl rfl) (pc0 (ok_law_draw T) hr1 (pa_cons (pv 0) (pa_cons (pe_callB call_len rfl T.len boot_len (pa_cons (pe_ix ix_list (pv 2) (pe_int) (fun _ _ => rfl)) (pa_nil))) (pa_nil)))))
  (pss_cons (ps_set (i := 10) nd rfl (Or.inl rfl) (pe_lst (pa_cons (pc0 (ok_law_due T) hr1 (pa_cons (pv 2) (pa_cons (pv 7) (pa_cons (pv 5) (pa_nil))))) (pa_cons (pc0 (ok_law_due T) hr1 (pa_cons (pv 3) (pa_cons (pv 8) (pa_cons (pv 9) (pa_nil))))) (pa_nil)))))
  (pss_cons (ps_expr (pe_bm PySem.F.plainAttrs_list PySem.F.slot_list_append PySem.F.type_list_append mt_append (pv 10) (pa_cons (pc0 (ok_law_due T) hr1 (pa_cons (pv 2) (pa_cons (pe_op op_add (pv 7) (pv 8)) (pa_cons (pv 9) (pa_nil))))) (pa_nil))))
  (pss_cons (ps_set (i := 11) nd rfl (Or.inl rfl) (pe_lst (pa_cons (pc0 W4 hr (pa_cons (pv 1) (pa_cons (pv 4) (pa_cons (pv 5) (pa_cons (pv 7) (pa_nil)))))) (pa_cons (pc0 W4 hr (pa_cons (pv 1) (pa_cons (pv 5) (pa_cons (pv 9) (pa_cons (pv 8) (pa_nil)))))) (pa_nil)))))
  (pss_cons (ps_expr (pe_bm PySem.F.plainAttrs_list PySem.F.slot_list_append PySem.F.type_list_append mt_append (pv 11) (pa_cons (pcR WK hr pass0 (pk_cons (pe_op op_add (pv 7) (pv 8)) (pk_cons (pv 9) (pk_cons (pv 4) (pk_cons (pv 1) (pk_nil)))))) (pa_nil))))
  (pss_cons (ps_if (pt_not (pt_val (pc0 (ok_law_same T) hr1 (pa_cons (pv 11) (pa_cons (pv 10) (pa_nil))))))
    (pss_one (ps_ret (pe_bl)))
    (pss_nil))
  (pss_one (ps_if (PW.pt (pw_and (pt_cmpR op_notN (pe_ix ix_list (pv 10) (pe_int) (fun _ _ => rfl)) (pe_non) (nomark _)) (pw_and1 (pt_cmpR op_notN (pe_ix ix_list (pv 10) (pe_int) (fun _ _ => rfl)) (pe_non) (nomark _)))))
    (pss_one (ps_if (PW.pt (pw_or (pt_cmpR op_isN (pe_ix ix_list (pv 11) (pe_int) (fun _ _ => rfl)) (pe_non) (nomark _)) (pw_or1 (pt_cmpR op_gt (pe_op op_add (pe_ix ix_list (pv 11) (pe_int) (fun _ _ => rfl)) (pe_ix ix_list (pv 11) (pe_int) (fun _ _ => rfl))) (pe_ix ix_list (pv 11) (pe_int) (fun _ _ => rfl)) (nomark _)))))
      (pss_one (ps_ret (pe_bl)))
      (pss_nil)))
    (pss_nil))))))))))))
(pss_one (ps_ret (pe_bl))), ?_⟩
    have n8 := sd0.2.2.2.2.2.1
    have n1 := sd0.2.2.2.2.2.2.1
    have hu := sd0.2.2.2.2.2.2.2.1
    have hv := sd1.2.2.2.2.2.2.2.1
    refine ⟨4, rfl, by decide, by decide, for_range (lo := 0) (n := 4)
      (fun i σ H' => ∃ (c6 c7 c8 c9 c10 c11 : Option V), σ = [some (.ref p), some (.ref x), some (.ref t0), some (.ref t1), some (.int u), some (.int v), c6, c7, c8, c9, c10, c11] ∧ PoolAt H' p ∧ Ext [p] H H')
      ⟨none, none, none, none, none, none, rfl, hp, Ext.refl⟩ ?_ ?_⟩
    · rintro i σ H0 hi ⟨c6, c7, c8, c9, c10, c11, rfl, hp0, e0⟩
      -- one, two, w
      refine ⟨_, rfl, p, 41, rfl, hp0, by decide, by decide, fun oneI H1 d0 d1 ex1 hp1 => ?_⟩
      obtain ⟨one, rfl⟩ := Int.eq_ofNat_of_zero_le d0
      refine ⟨_, rfl, _, rfl, _, _, rfl, rfl, p, 41 - one, rfl, hp1, by omega, by omega, fun twoI H2 d2 d3 ex2 hp2 => ?_⟩
      obtain ⟨two, rfl⟩ := Int.eq_ofNat_of_zero_le d2
      have e2 : Ext [p] H H2 := (e0.trans ex1).trans ex2
      obtain ⟨as0, tab0, b0, r0, L0, eb0, hb0, hl0⟩ := (sd0.ext e2).first
      refine ⟨_, rfl, _, rfl, _, _, _, _, rfl, rfl, SqL.of L0.top, atI_of (i := 0) eb0, _, n, rfl, Or.inl ⟨_, SqL.of hb0, hl0.symm⟩, p, n, rfl, hp2, by omega, by omega, fun wI H3 d4 d5 ex3 hp3 => ?_⟩
      obtain ⟨w, rfl⟩ := Int.eq_ofNat_of_zero_le d4
      have hw : w < n := by omega
      have e3 : Ext [p] H H3 := e2.trans ex3
      have s0 := sd0.ext e3
      have s1 := sd1.ext e3
      -- dues
      obtain ⟨as1, tab1, r1, o1, hT1, hr11, hr12, hg1, hdue1, hsm1⟩ := s0.due (far := one) (by omega) hv
      obtain ⟨as2, tab2, r2, o2, hT2, hr21, hr22, hg2, hdue2, hsm2⟩ := s1.due (far := two) (by omega) hw
      refine ⟨_, rfl, _, rfl, _, rfl, t0, one, v, as1, tab1, r1, oI o1, rfl, hT1, hr11, hr12, ?_⟩
      rw [hdue1]
      refine ⟨_, rfl, _, rfl, _, rfl, t1, two, w, as2, tab2, r2, oI o2, rfl, hT2, hr21, hr22, ?_⟩
      rw [hdue2]
      refine ⟨sz (by show 2 ≤ 100000; decide), fun dl hdl => ?_⟩
      have e4 : Ext [] H3 (upd H3 dl (.lst [oV o1, oV o2])) := Ext.new hdl
      obtain ⟨as3, tab3, r3, o3, hT3, hr31, hr32, hg3, hdue3, hsm3⟩ := (s0.ext e4.any).due (far := one + two) (by omega) hw
      refine ⟨_, rfl, Or.inl ⟨rfl, _, SqL.of upd_same⟩, _, rfl, _, rfl, _, rfl, _, _, rfl, rfl, _, rfl, t0, one + two, w, as3, tab3, r3, oI o3, rfl, hT3, hr31, hr32, ?_⟩
      rw [hdue3]
      refine ⟨dl, _, oV o3, rfl, rfl, upd_same, szl (by show 2 < 100000; decide), ?_⟩
      have e5 : Ext [] H3 (upd (upd H3 dl (.lst [oV o1, oV o2])) dl (.lst ([oV o1, oV o2] ++ [oV o3]))) := e4.wr hdl upd_same trivial
      have hd5 : (upd (upd H3 dl (.lst [oV o1, oV o2])) dl (.lst ([oV o1, oV o2] ++ [oV o3]))) dl = some (.lst [oV o1, oV o2, oV o3]) := upd_same
      generalize (upd (upd H3 dl (.lst [oV o1, oV o2])) dl (.lst ([oV o1, oV o2] ++ [oV o3]))) = H5 at e5 hd5
      -- told
      have s5 := s0.ext e5.any
      refine ⟨_, rfl, _, rfl, _, rfl, _, rfl, x, n, u, v, one, A, rfl, s5.1, n8, s5.2.1, s5.2.2.1, hu, hv, by omega, fun q1 H6 g1 e6 => ?_⟩
      obtain rfl : o1 = q1 := Great.dom s5.2.2.2.1 hg1 g1
      have s6 := s5.ext e6.any
      refine ⟨_, rfl, _, rfl, _, rfl, _, rfl, x, n, v, w, two, A, rfl, s6.1, n8, s6.2.1, s6.2.2.1, hv, hw, by omega, fun q2 H7 g2 e7 => ?_⟩
      obtain rfl : o2 = q2 := Great.dom s6.2.2.2.1 hg2 g2
      have s7 := s6.ext e7.any
      refine ⟨sz (by show 2 ≤ 100000; decide), fun tl htl => ?_⟩
      have e8 : Ext [] H7 (upd H7 tl (.lst [oV o1, oV o2])) := Ext.new htl
      have s8 := s7.ext e8.any
      refine ⟨_, rfl, Or.inl ⟨rfl, _, SqL.of upd_same⟩, _, rfl, _, rfl, _, _, rfl, rfl, _, rfl, _, rfl, _, rfl, rfl, x, n, u, w, one + two, A, rfl, s8.1, n8, s8.2.1, s8.2.2.1, hu, hw, by omega, fun q3 H9 g3 e9 => ?_⟩
      obtain rfl : o3 = q3 := Great.dom s8.2.2.2.1 hg3 g3
      have ht9 := e9.keep _ _ (upd_same (H := H7) (a := tl)) (by simp)
      refine ⟨tl, _, oV o3, rfl, rfl, ht9, szl (by show 2 < 100000; decide), ?_⟩
      have e10 : Ext [] H5 (upd H9 tl (.lst ([oV o1, oV o2] ++ [oV o3]))) := (((e6.trans e7).trans e8).trans e9).wr ((e6.trans e7).free _ htl) ht9 trivial
      have hd10 := e10.keep _ _ hd5 (by simp)
      have ht10 : (upd H9 tl (.lst ([oV o1, oV o2] ++ [oV o3]))) tl = some (.lst [oV o1, oV o2, oV o3]) := upd_same
      generalize (upd H9 tl (.lst ([oV o1, oV o2] ++ [oV o3]))) = H10 at e10 hd10 ht10
      have hp10 : PoolAt H10 p := (hp3.ext e5 (by simp)).ext e10 (by simp)
      have eH : Ext [p] H H10 := e3.trans ((e5.trans e10).any)
      have dpl : DpAll K H10 [oV o1, oV o2, oV o3] [oD o1, oD o2, oD o3] := .cons (dp_o o1) (.cons (dp_o o2) (.cons (dp_o o3) .nil))
      refine ⟨_, rfl, _, rfl, .ref tl, .ref dl, .list [oD o1, oD o2, oD o3], rfl, .lst (SqL.of ht10) dpl, .lst (SqL.of hd10) dpl, good_os (os := [o1, o2, o3]) (by show 3 ≤ 10; decide) (fun o ho => ?_), _, rfl, ?_⟩
      · simp at ho
        rcases ho with rfl | rfl | rfl
        · exact hsm1
        · exact hsm2
        · exact hsm3
      refine ⟨_, rfl, dl, _, 0, _, rfl, rfl, SqL.of hd10, rfl, rfl, _, rfl, ?_⟩
      have fin : ∀ c7 c8 c9 c10 c11, (∃ (c6 c7' c8' c9' c10' c11' : Option V), ([some (.ref p), some (.ref x), some (.ref t0), some (.ref t1), some (.int u), some (.int v), some (.int (0 + i)), c7, c8, c9, c10, c11] : L2.St) = [some (.ref p), some (.ref x), some (.ref t0), some (.ref t1), some (.int u), some (.int v), c6, c7', c8', c9', c10', c11'] ∧ PoolAt H10 p ∧ Ext [p] H H10) :=
        fun c7 c8 c9 c10 c11 => ⟨_, _, _, _, _, _, rfl, hp10, eH⟩
      cases o1 with
      | none => exact iteN (fun h => absurd rfl h) (fun _ => fin _ _ _ _ _)
      | some a =>
        refine iteN (fun _ => ?_) (fun h => nomatch h)
        refine ⟨_, rfl, dl, _, 1, _, rfl, rfl, SqL.of hd10, rfl, rfl, _, rfl, ?_⟩
        cases o2 with
        | none => exact iteN (fun h => absurd rfl h) (fun _ => fin _ _ _ _ _)
        | some b =>
          refine iteN (fun _ => ?_) (fun h => nomatch h)
          obtain ⟨c, rfl, hc⟩ := Great.join g1 g2 g3
          refine ⟨_, rfl, tl, _, 2, _, rfl, rfl, SqL.of ht10, rfl, rfl, _, rfl, ?_⟩
          refine iteP (fun h => nomatch h) (fun _ => ?_)
          refine ⟨_, rfl, tl, _, 0, _, rfl, rfl, SqL.of ht10, rfl, _, rfl, tl, _, 1, _, rfl, rfl, SqL.of ht10, rfl, _, _, rfl, rfl, _, rfl, tl, _, 2, _, rfl, rfl, SqL.of ht10, rfl, _, _, rfl, rfl, _, rfl, ?_⟩
          exact iteP (fun h => absurd h (by omega)) (fun _ => fin _ _ _ _ _)
    · rintro σ H0 ⟨c6, c7, c8, c9, c10, c11, rfl, hp0, e0⟩
      exact q H0 hp0 e0
end
end K19
namespace K19
open PySem PySem.Spec PyProof.Rows L2 Gd Bx Cl Sx Tb Wy Kx Gs
theorem sc_law_refused : FnScope ["net", "u", "v", "dist", "e"] ["net", "u", "v", "dist"] (defScope s_law_refused) := ⟨rfl, rfl, rfl, by decide +kernel, rfl, by decide +kernel, by decide +kernel⟩
/-- what is asked of the caught ones -/
structure AskC (K : PySem.W.Frag) (mg : Str → Option Value) (CR CT CO CB : Addr) : Prop where
  oe : mg "OverlapError" = some (.ref CO)
  bad : mg "BadNet" = some (.ref CB)
  eR : PySem.W.exmOne K (.ref CR) (.ref CO) = some true
  eT : PySem.W.exmOne K (.ref CT) (.ref CO) = some true
  rr : PySem.W.kitOne K (.ref CR) (.ref CR) = some true
  rt : PySem.W.kitAny K (.ref CR) [.ref CT, .ref CB] = some false
  tr : PySem.W.kitOne K (.ref CT) (.ref CR) = some false
  tt : PySem.W.kitOne K (.ref CT) (.ref CT) = some true
  ta : PySem.W.kitAny K (.ref CT) [.ref CR, .ref CB] = some false
def spRf (K : PySem.W.Frag) (C : Addr) : Sp := fun vs H Q _ => ∃ (p : Addr) (n u v : Nat) (f : Int) (A : List Rw), vs = [.ref p, .int u, .int v, .int f] ∧ NetAt K C H p n A ∧ n ≤ 8 ∧ u < n ∧
  ((v < n ∧ ¬ (0 ≤ f ∧ f ≤ 40) ∧ ∀ (t : Addr) (H' : Hp), Ext [] H H' → H' t = some (.tup [.str "dist", .int f]) → Q (.ref t) H') ∨
    (v = n ∧ ∀ (t : Addr) (H' : Hp), Ext [] H H' → H' t = some (.tup [.str "row", .int v]) → Q (.ref t) H'))
theorem takes_none {X : Cx} : Takes X (fun _ _ _ _ => False) := fun u s' ⟨_, _, _, _, _, _, _, _, _, _, _, _, _, _, _, _, w⟩ => w.elim
theorem look_value (y : V) : ([(("value" : Str), y)] : List (Str × V)).lookup ("value" : Str) = some y := by rw [lookup_put, if_pos rfl]
section
variable {P : Program} {w : World} {K : PySem.W.Frag} {mg : Str → Option Value} {base : Heap}
theorem ok_law_refused (T : Txt K mg) {C CR CT CO CB : Addr} (N : NetC K mg C) (X : ExsC K mg CR CT) (Z : AskC K mg CR CT CO CB) : Callee P w K mg base CX0 5 "_law_refused" ["net", "u", "v", "dist"] (spRf K C) := by
  refine callee_of0 T.d_law_refused sc_law_refused (fun _ _ _ _ _ _ us hl => match us, hl with | [_, _, _, _], _ => rfl) (fun vs H Q E h => ?_) (fun fa cdv A' outer s H vs Q E hr h => ?_)
  · obtain ⟨p, n, u, v, f, A, rfl, _⟩ := h
    rfl
  · obtain ⟨p, n, u, v, f, A, rfl, hnet, n8, hu, hcase⟩ := h
    have nd := sc_law_refused.nd
    have W4 := ok_way_lag_bad (P := P) (w := w) (base := base) T N X
    refine ⟨_, (pss_cons (ps_try_as (i := 4) rfl rfl nd rfl rfl ⟨rfl, by decide, .inl Z.oe⟩ takes_none
      (fun W pn xe tk' _ => pss_one (ps_expr (pcS (E := WE W) W4 hr (fun σ => passAt tk' σ) (pa_cons (pv 0) (pa_cons (pv 1) (pa_cons (pv 2) (pa_cons (pv 3) (pa_nil))))))))
      (fun a oe cls d pn hz hf => pss_cons (ps_if (PW.pt (pw_and (pt_val (pe_callB (call_isX hz hf) rfl T.isinstance (by decide +kernel) (pa_cons (pv 4) (pa_cons (pe_glob (v := .ref CR) rfl X.row.name rfl) (pa_nil))))) (pw_and1 (pt_not (pt_val (pe_callB (call_isX hz hf) rfl T.isinstance (by decide +kernel) (pa_cons (pv 4) (pa_cons (pe_tup (pa_cons (pe_glob (v := .ref CT) rfl X.tick.name rfl) (pa_cons (pe_glob (v := .ref CB) rfl Z.bad rfl) (pa_nil)))) (pa_nil)))))))))
    (pss_one (ps_ret (pe_tup (pa_cons (pe_str) (pa_cons (pe_xf X.row.xf X.row.nof hz hf (pv 4)) (pa_nil))))))
    (pss_nil))
  (pss_cons (ps_if (PW.pt (pw_and (pt_val (pe_callB (call_isX hz hf) rfl T.isinstance (by decide +kernel) (pa_cons (pv 4) (pa_cons (pe_glob (v := .ref CT) rfl X.tick.name rfl) (pa_nil))))) (pw_and1 (pt_not (pt_val (pe_callB (call_isX hz hf) rfl T.isinstance (by decide +kernel) (pa_cons (pv 4) (pa_cons (pe_tup (pa_cons (pe_glob (v := .ref CR) rfl X.row.name rfl) (pa_cons (pe_glob (v := .ref CB) rfl Z.bad rfl) (pa_nil)))) (pa_nil)))))))))
    (pss_one (ps_ret (pe_tup (pa_cons (pe_str) (pa_cons (pe_xf X.tick.xf X.tick.nof hz hf (pv 4)) (pa_nil))))))
    (pss_nil))
  (pss_one ps_never))))
(pss_one ps_never)), ?_⟩
    refine ⟨_, rfl, _, rfl, _, rfl, _, rfl, p, n, u, v, f, A, rfl, hnet, n8, hu, ?_⟩
    rcases hcase with ⟨hv, hf, q⟩ | ⟨hv, q⟩
    · refine .inl ⟨hv, hf, fun d H1 e1 hd => ⟨true, Z.eT, fun _ a ha => ?_, fun h => nomatch h⟩⟩
      refine ⟨_, rfl, CT, _, CR, _, false, rfl, rfl, rfl, X.tick.exc, hd, .inl Z.tr, ?_⟩
      refine ⟨_, rfl, ?_⟩
      refine ⟨_, rfl, CT, _, CT, _, true, rfl, rfl, rfl, X.tick.exc, hd, .inl Z.tt, ?_⟩
      refine ⟨_, rfl, ?_⟩
      refine ⟨_, rfl, sz (by show 2 ≤ 100000; decide), fun tt ht => ?_⟩
      have dt := ne_of_none hd ht
      have hd2 : (upd H1 tt (.tup [.ref CR, .ref CB])) d = some (.xd [("value", .int f)]) := by rw [upd_ne dt]; exact hd
      have e2 : Ext [] H1 (upd H1 tt (.tup [.ref CR, .ref CB])) := Ext.new ht
      refine ⟨CT, _, tt, _, false, rfl, rfl, rfl, X.tick.exc, hd2, .inr ⟨[CR, CB], upd_same, Z.ta⟩, ?_⟩
      refine ⟨_, rfl, ?_⟩
      refine ⟨_, rfl, rfl, rfl, _, _, _, rfl, hd2, look_value _, sz (by show 2 ≤ 100000; decide), fun t3 h3 => ?_⟩
      exact q t3 _ ((e1.trans e2).trans (Ext.new h3)) upd_same
    · refine .inr ⟨hv, fun d H1 e1 hd => ⟨true, Z.eR, fun _ a ha => ?_, fun h => nomatch h⟩⟩
      refine ⟨_, rfl, CR, _, CR, _, true, rfl, rfl, rfl, X.row.exc, hd, .inl Z.rr, ?_⟩
      refine ⟨_, rfl, ?_⟩
      refine ⟨_, rfl, sz (by show 2 ≤ 100000; decide), fun tt ht => ?_⟩
      have dt := ne_of_none hd ht
      have hd2 : (upd H1 tt (.tup [.ref CT, .ref CB])) d = some (.xd [("value", .int v)]) := by rw [upd_ne dt]; exact hd
      have e2 : Ext [] H1 (upd H1 tt (.tup [.ref CT, .ref CB])) := Ext.new ht
      refine ⟨CR, _, tt, _, false, rfl, rfl, rfl, X.row.exc, hd2, .inr ⟨[CT, CB], upd_same, Z.rt⟩, ?_⟩
      refine ⟨_, rfl, ?_⟩
      refine ⟨_, rfl, rfl, rfl, _, _, _, rfl, hd2, look_value _, sz (by show 2 ≤ 100000; decide), fun t3 h3 => ?_⟩
      exact q t3 _ ((e1.trans e2).trans (Ext.new h3)) upd_same
end
end K19
namespace K19
open PySem PySem.Spec PyProof.Rows L2 Gd Bx Cl Sx Tb Wy Kx Gs
theorem sc_law : FnScope ["script", "pool", "rows", "arcs", "some", "given", "nets", "due", "u", "v", "mine", "lags", "theirs", "dist", "told", "k"] ["script"] (defScope s_law) := ⟨rfl, rfl, rfl, by decide +kernel, rfl, by decide +kernel, by decide +kernel⟩
theorem rg_two : ∀ n : Nat, n < 201 → RgC 0 n 2 ((n + 1) / 2) := by
  unfold RgC
  decide +kernel
theorem steps_arcs {n : Nat} {A : List Rw} (n8 : n ≤ 8) (h : ∀ r ∈ A, FitR n r) : StepsOf n (A ++ loops n) := by
  refine ⟨fun r hr => ?_, fun u v d l hr => ?_⟩
  · rcases List.mem_append.mp hr with hr | hr
    · obtain ⟨u, v, d, l, e, _⟩ := h r hr
      exact ⟨u, v, d, l, e⟩
    · obtain ⟨i, _, e⟩ := loops_mem.mp hr
      exact ⟨_, _, _, _, e⟩
  · rcases List.mem_append.mp hr with hr | hr
    · obtain ⟨u', v', d', l', e, a1, a2, a3, a4, a5, a6, a7, a8, a9⟩ := h _ hr
      simp at e
      obtain ⟨rfl, rfl, rfl, rfl⟩ := e
      exact ⟨a1, a2, a3, a4, a5, a6, a7, a8, a9⟩
    · obtain ⟨i, hi, e⟩ := loops_mem.mp hr
      simp at e
      obtain ⟨rfl, rfl, rfl, rfl⟩ := e
      omega
/-- what stands through the law -/
structure St (K : PySem.W.Frag) (C p q D nl x0 x1 du : Addr) (n : Nat) (arcs some A0 A1 : List Rw) (H : Hp) : Prop where
  pool : PoolAt H p
  arcs : ∃ xs, H q = .some (.lst xs) ∧ Ims K H (arcs.map rowD) xs
  some : ∃ xs, H D = .some (.lst xs) ∧ Ims K H (some.map rowD) xs
  nets : H nl = .some (.lst [.ref x0, .ref x1])
  net0 : NetAt K C H x0 n A0
  net1 : NetAt K C H x1 n A1
  due : ∃ tk xk, H du = .some (.tup [.int n, .ref tk]) ∧ H tk = .some (.tup xk) ∧ Ims K H (A0.map rowD) xk
  nq : p ≠ q
  nD : p ≠ D
  nn : p ≠ nl
  n0 : p ≠ x0
  n1 : p ≠ x1
theorem St.ext {K : PySem.W.Frag} {C p q D nl x0 x1 du : Addr} {n : Nat} {arcs some A0 A1 : List Rw} {H H' : Hp} (s : St K C p q D nl x0 x1 du n arcs some A0 A1 H) (e : Ext [p] H H') (hp : PoolAt H' p) :
    St K C p q D nl x0 x1 du n arcs some A0 A1 H' :=
  ⟨hp, let ⟨xs, a, b⟩ := s.arcs; ⟨xs, e.keep _ _ a (by simpa using Ne.symm s.nq), b.ext e⟩, let ⟨xs, a, b⟩ := s.some; ⟨xs, e.keep _ _ a (by simpa using Ne.symm s.nD), b.ext e⟩,
    e.keep _ _ s.nets (by simpa using Ne.symm s.nn), s.net0.ext e (by simpa using Ne.symm s.n0), s.net1.ext e (by simpa using Ne.symm s.n1),
    let ⟨tk, xk, a, b, c⟩ := s.due; ⟨tk, xk, e.tups _ _ a, e.tups _ _ b, c.ext e⟩, s.nq, s.nD, s.nn, s.n0, s.n1⟩
theorem St.new {K : PySem.W.Frag} {C p q D nl x0 x1 du : Addr} {n : Nat} {arcs some A0 A1 : List Rw} {H H' : Hp} (s : St K C p q D nl x0 x1 du n arcs some A0 A1 H) (e : Ext [] H H') : St K C p q D nl x0 x1 du n arcs some A0 A1 H' :=
  s.ext e.any (s.pool.ext e (by simp))
theorem side_of {K : PySem.W.Frag} {C p x t : Addr} {n u : Nat} {arcs A : List Rw} {H0 H : Hp} {as : List Addr} {tab : List (List V)} (hn : NetAt K C H x n A) (k : Kept arcs A) (hA : ArcsOf n arcs) (hl : A.length ≤ 200) (n8 : n ≤ 8) (n1 : 1 ≤ n) (hu : u < n)
    (px : p ≠ x) (L : LoL RV H t as tab) (F : FullI (arcs ++ loops n) u n tab) (hp : PoolAt H0 p) (ht : H0 t = none) (has : ∀ b ∈ as, H0 b = none) : Side K C p n A (arcs ++ loops n) u x t H :=
  ⟨hn, hl, steps_arcs n8 (Kept.fit k hA), Dom.kept k n, steps_arcs n8 hA.2, n8, n1, hu, px, as, tab, L, F, hp.ne ht, fun z => hp.ne (has p z) rfl⟩
theorem good_due {x : Str} {f : Int} (hx : Sml (.str x)) (hb : x.cps.size ≤ 100) (hf : f.natAbs < 10 ^ 12) : Good (.tuple [.str x, .int f]) := by
  refine (Sml.tup fun d hd => ?_).good (by simp only [PyData.depth, PyData.depthAll]; decide) (by simp only [PyData.bulk, PyData.bulkAll]; omega)
  rcases List.mem_cons.mp hd with e | hd
  · rw [e]; exact hx
  · rw [List.mem_singleton.mp hd]; exact .int hf
def spLaw (K : PySem.W.Frag) : Sp := fun vs H Q _ => ∃ (a : Addr) (ns : List Int), vs = [.ref a] ∧ SqL K H a (ns.map V.int) ∧ ns.length ≤ 63 ∧ (∀ b, H b = none ∨ ∃ o xs, H b = some (.frz o (.lst xs))) ∧ ∀ (H' : Hp), Q (.bl true) H'
section
variable {P : Program} {w : World} {K : PySem.W.Frag} {mg : Str → Option Value} {base : Heap}
theorem ok_law (T : Txt K mg) {C CR CT CO CB : Addr} (N : NetC K mg C) (X : ExsC K mg CR CT) (Z : AskC K mg CR CT CO CB) {fa : Addr} {fd : FuncData} (F : FnP K "law" "law" s_law fa fd) : FnG P w K mg base CX0 6 fa fd ["script"] (spLaw K) := by
  refine FunD_okG F sc_law (fun vs H Q E h => ?_) (fun cdv A' outer s H vs Q E hr h => ?_)
  · obtain ⟨a, ns, rfl, _⟩ := h
    rfl
  · obtain ⟨a, ns, rfl, hs, hl, hO, q⟩ := h
    have nd := sc_law.nd
    have hr1 : RoomG 1 _ := hr.mono (by decide)
    have hr2 : RoomG 2 _ := hr.mono (by decide)
    have hr3 : RoomG 3 _ := hr.mono (by decide)
    refine ⟨_, PSs.nox (pss_cons (ps_set (i := 1) nd rfl (Or.inl rfl) (pc0 (ok_law_pool T) hr1 (pa_cons (pv 0) (pa_nil))))
(pss_cons (ps_set (i := 2) nd rfl (Or.inl rfl) (pe_op op_add (pe_int) (pc0 (ok_law_draw T) hr1 (pa_cons (pv 1) (pa_cons (pe_int) (pa_nil))))))
(pss_cons (ps_set (i := 3) nd rfl (Or.inr rfl) (pc0 (ok_law_net_arcs T) hr2 (pa_cons (pv 1) (pa_cons (pv 2) (pa_nil)))))
(pss_cons (ps_setLc (i := 4) (own := [("k", 15)]) rfl nd rfl rfl (sw_true rfl rfl rfl (by decide +kernel)) (pi_range3 rfl T.range (pa_cons (pe_int) (pa_cons (pe_callB call_len rfl T.len boot_len (pa_cons (pv 3) (pa_nil))) (pa_cons (pe_int) (pa_nil))))) (blkOk_by (own := [("k", 15)]) (N := ["script", "pool", "rows", "arcs", "some", "given", "nets", "due", "u", "v", "mine", "lags", "theirs", "dist", "told", "k"]) (sc := defScope s_law) (by decide +kernel)) (fun _ _ _ _ _ => pg_name (i := 15) nd rfl (Or.inl rfl)) (fun _ _ _ _ _ => pts_nil) (fun _ _ _ _ _ => pe_ix (ix_listK K rfl) (pv 3) (pv 15) (fun _ _ => rfl)))
(pss_cons (ps_set (i := 5) nd rfl (Or.inl rfl) (pe_callTy call_list_of rfl T.list (by decide +kernel) (pa_cons (pv 3) (pa_nil))))
(pss_cons (ps_set (i := 6) nd rfl (Or.inl rfl) (pe_lst (pa_cons (pm0 (ok_NetL T N) hr3 (pa_cons (pv 2) (pa_cons (pv 5) (pa_nil)))) (pa_cons (pm0 (ok_NetT T N) hr3 (pa_cons (pv 2) (pa_cons (pe_callTy call_tuple_of rfl T.tuple (by decide +kernel) (pa_cons (pv 4) (pa_nil))) (pa_nil)))) (pa_nil)))))
(pss_cons (ps_if (pt_cmpR (op_neD hr.room.units) (pv 5) (pv 3) (nomark _))
  (pss_one (ps_ret (pe_bl)))
  (pss_nil))
(pss_cons (ps_expr (pe_bm PySem.F.plainAttrs_list PySem.F.slot_list_append PySem.F.type_list_append mt_append (pv 5) (pa_cons (pe_tup (pa_cons (pe_int) (pa_cons (pe_int) (pa_cons (pe_int) (pa_cons (pe_int) (pa_nil)))))) (pa_nil))))
(pss_cons (ps_set (i := 7) nd rfl (Or.inl rfl) (pe_tup (pa_cons (pv 2) (pa_cons (pc0 (ok_law_kept T) hr1 (pa_cons (pv 3) (pa_nil))) (pa_nil)))))
(pss_cons (ps_if (pt_not (pt_val (pc0 (ok_law_same T) hr1 (pa_cons (pe_tup (pa_cons (pe_fld (pe_ix ix_list (pv 6) (pe_int) (fun _ _ => rfl)) rfl) (pa_cons (pe_fld (pe_ix ix_list (pv 6) (pe_int) (fun _ _ => rfl)) rfl) (pa_nil)))) (pa_cons (pv 7) (pa_nil))))))
  (pss_one (ps_ret (pe_bl)))
  (pss_nil))
(pss_cons (ps_if (pt_not (pt_val (pc0 (ok_law_same T) hr1 (pa_cons (pe_fld (pe_ix ix_list (pv 6) (pe_int) (fun _ _ => rfl)) rfl) (pa_cons (pc0 (ok_law_kept T) hr1 (pa_cons (pv 4) (pa_nil))) (pa_nil))))))
  (pss_one (ps_ret (pe_bl)))
  (pss_nil))
(pss_cons (ps_set (i := 8) nd rfl (Or.inl rfl) (pc0 (ok_law_draw T) hr1 (pa_cons (pv 1) (pa_cons (pv 2) (pa_nil)))))
(pss_cons (ps_set (i := 9) nd rfl (Or.inl rfl) (pc0 (ok_law_draw T) hr1 (pa_cons (pv 1) (pa_cons (pv 2) (pa_nil)))))
(pss_cons (ps_set (i := 10) nd rfl (Or.inl rfl) (pc0 (ok_law_lags T) hr1 (pa_cons (pv 2) (pa_cons (pv 3) (pa_cons (pv 8) (pa_nil))))))
(pss_cons (ps_set (i := 11) nd rfl (Or.inl rfl) (pe_lst (pa_cons (pv 10) (pa_cons (pc0 (ok_law_lags T) hr1 (pa_cons (pv 2) (pa_cons (pv 4) (pa_cons (pv 8) (pa_nil))))) (pa_nil)))))
(pss_cons (ps_if (pt_not (pt_val (pc0 (ok_law_ways_hold T N) hr (pa_cons (pv 1) (pa_cons (pv 6) (pa_cons (pv 11) (pa_cons (pv 8) (pa_cons (pv 9) (pa_cons (pe_cmpR op_gt (pe_callB call_len rfl T.len boot_len (pa_cons (pv 3) (pa_nil))) (pe_int) (nomark _)) (pa_nil))))))))))
  (pss_one (ps_ret (pe_bl)))
  (pss_nil))
(pss_cons (ps_set (i := 12) nd rfl (Or.inl rfl) (pc0 (ok_law_lags T) hr1 (pa_cons (pv 2) (pa_cons (pv 3) (pa_cons (pv 9) (pa_nil))))))
(pss_cons (ps_if (pt_not (pt_val (pc0 (ok_law_joins T N) hr (pa_cons (pv 1) (pa_cons (pe_ix ix_list (pv 6) (pe_int) (fun _ _ => rfl)) (pa_cons (pv 10) (pa_cons (pv 12) (pa_cons (pv 8) (pa_cons (pv 9) (pa_nil))))))))))
  (pss_one (ps_ret (pe_bl)))
  (pss_nil))
(pss_cons (ps_for PassesOwn.never rfl (pi_list (pe_lst (pa_cons (pe_un un_neg pe_int) (pa_cons (pe_int) (pa_nil))))) (pg_name (i := 13) nd rfl (Or.inl rfl))
  (pss_one (ps_if (pt_not (pt_val (pc0 (ok_law_same T) hr1 (pa_cons (pc0 (ok_law_refused T N X Z) hr (pa_cons (pe_ix ix_list (pv 6) (pe_int) (fun _ _ => rfl)) (pa_cons (pv 8) (pa_cons (pv 9) (pa_cons (pv 13) (pa_nil)))))) (pa_cons (pe_tup (pa_cons (pe_str) (pa_cons (pv 13) (pa_nil)))) (pa_nil))))))
    (pss_one (ps_ret (pe_bl)))
    (pss_nil))))
(pss_cons (ps_set (i := 14) nd rfl (Or.inl rfl) (pc0 (ok_law_refused T N X Z) hr (pa_cons (pe_ix ix_list (pv 6) (pe_int) (fun _ _ => rfl)) (pa_cons (pv 8) (pa_cons (pv 2) (pa_cons (pe_int) (pa_nil)))))))
(pss_one (ps_ret (pe_and (pc0 (ok_law_same T) hr1 (pa_cons (pv 14) (pa_cons (pe_tup (pa_cons (pe_str) (pa_cons (pv 2) (pa_nil)))) (pa_nil)))) (pe_one (pc0 (ok_law_same T) hr1 (pa_cons (pe_fld (pe_ix ix_list (pv 6) (pe_int) (fun _ _ => rfl)) rfl) (pa_cons (pe_ix ix_tup (pv 7) (pe_int) (fun _ _ => rfl)) (pa_nil)))))))))))))))))))))))))))), ?_⟩
    refine ⟨_, rfl, a, ns, rfl, hs, hl, hO, fun p H1 hp0 e1 hp1 => ?_⟩
    refine ⟨_, rfl, p, 8, rfl, hp1, by decide, by decide, fun d H2 d0 d1 ex2 hp2 => ?_⟩
    refine ⟨_, _, rfl, rfl, ?_⟩
    obtain ⟨n, hn⟩ := Int.eq_ofNat_of_zero_le (show 0 ≤ 1 + d by omega)
    refine Eq.mpr (congrArg (fun v => gName 2 v _ _ _) (congrArg V.int hn)) ?_
    have n1 : 1 ≤ n := by omega
    have n8 : n ≤ 8 := by omega
    clear hs hO
    refine ⟨_, rfl, _, rfl, p, n, rfl, hp2, by omega, by omega, fun q0 xs arcs H3 hq0 ex3 hp3 hq him hA => ?_⟩
    have hxl : xs.length = arcs.length := by rw [← him.length, List.length_map]
    have pq := hp2.ne hq0
    -- some
    refine ⟨_, rfl, _, xs.length, rfl, Or.inl ⟨_, SqL.of hq, rfl⟩, 0, xs.length, 2, _, rfl, rg_two xs.length (by have := hA.1; omega), fun D hD => ?_⟩
    have e4 : Ext [D] H3 (upd H3 D (.lst [])) := Ext.new hD
    have qD := ne_of_none hq hD
    have pD := hp3.ne hD
    refine lc_it walk_rangeC (fun i H' => ∃ (acc : List V) (sm : List Rw), H' D = some (.lst acc) ∧ Ims K H' (sm.map rowD) acc ∧ (∀ r ∈ sm, r ∈ arcs) ∧ sm.length ≤ i ∧ Ext [D] H3 H') ⟨[], [], upd_same, .nil, (fun _ z => nomatch z), Nat.le_refl _, e4⟩ (fun _ _ _ _ => trivial) ?_ ?_
    · rintro i x H' H'' hi ⟨acc, sm, hacc, hsm, hin, hsl, e5⟩ ⟨rfl, hx0⟩
      have hi2 : 2 * i < arcs.length := by omega
      have hal : acc.length ≤ 200 := by
        rw [← hsm.length, List.length_map]
        have := hA.1
        omega
      have ei : (0 : Int) + (i : Nat) * 2 = ((2 * i : Nat) : Int) := by omega
      obtain rfl : x = V.int ((2 * i : Nat) : Int) := hx0.trans (congrArg V.int ei)
      have hx : xs[2 * i]? = some xs[2 * i] := List.getElem?_eq_getElem (by omega)
      obtain ⟨r, t, hri, hxr, htt⟩ := ims_row (him.ext e5) hx
      refine ⟨rfl, ?_⟩
      refine ⟨_, rfl, _, rfl, _, _, _, _, rfl, rfl, SqL.of (e5.keep _ _ hq (by simpa using qD)), atI_of hx, ?_⟩
      refine ⟨acc, hacc, szl (by omega), acc ++ [xs[2 * i]], sm ++ [r], upd_same, ?_, fun r' hr' => ?_, by rw [List.length_append]; exact Nat.succ_le_succ hsl, e5.trans (Ext.write (o := .lst acc) hacc trivial List.mem_cons_self)⟩
      · rw [List.map_append]
        have e6 : Ext [D] H'' (upd H'' D (.lst (acc ++ [xs[2 * i]]))) := Ext.write (o := .lst acc) hacc trivial List.mem_cons_self
        refine (hsm.ext e6).append (.one ?_)
        have ht6 := e6.tups _ _ htt
        rw [hxr] at ht6 ⊢
        exact Im.of_tints ht6
      · rcases List.mem_append.mp hr' with hr' | hr'
        · exact hin r' hr'
        · rw [List.mem_singleton.mp hr']
          exact List.mem_of_getElem? hri
    rintro H4 ⟨acc, sm, hacc, hsm, hin, hsl, e5⟩
    have eA : Ext [] H3 H4 := e5.drop hD
    have hq4 := eA.keep _ _ hq (by simp)
    have him4 := him.ext eA
    have hS : ArcsOf n sm := ⟨by have := hA.1; omega, fun r hr => hA.2 r (hin r hr)⟩
    have hp4 := hp3.ext eA (by simp)
    clear hq him e5 e4
    -- given
    refine ⟨_, rfl, q0, xs, rfl, .inl (SqL.of hq4), fun g hg => ?_⟩
    have e5 : Ext [] H4 (upd H4 g (.lst xs)) := Ext.new hg
    have pg := hp4.ne hg
    have qg := ne_of_none hq4 hg
    have Dg := ne_of_none hacc hg
    have g5 : (upd H4 g (.lst xs)) g = some (.lst xs) := upd_same
    generalize hH5 : upd H4 g (.lst xs) = H5 at e5 g5 ⊢
    clear hH5
    -- nets
    refine ⟨_, rfl, _, rfl, fun y0 dy0 hy0 hdy0 hne0 => ?_⟩
    have em0 : Ext [] H5 (upd (upd H5 dy0 (.own y0)) y0 (.ins C dy0 [])) := (Ext.new hdy0).trans (Ext.new (by rw [upd_ne (Ne.symm hne0)]; exact hy0))
    refine ⟨y0, g, dy0, n, xs, arcs, rfl, upd_same, em0.keep _ _ g5 (by simp), (him4.ext e5).ext em0, hA, by omega, by omega, fun A0 H6 k0 hnet0 hl0 ex6 => ⟨rfl, ?_⟩⟩
    have e6 : Ext [] H5 H6 := (em0.any.trans ex6).drop hy0
    have gy0 := ne_of_none g5 hy0
    have py0 := (hp4.ext e5 (by simp)).ne hy0
    have e46 := e5.trans e6
    refine ⟨_, rfl, _, rfl, D, acc, rfl, .inl ⟨SqL.of (e46.keep _ _ hacc (by simp)), fun tp htp => ?_⟩⟩
    have e7 : Ext [] H6 (upd H6 tp (.tup acc)) := Ext.new htp
    refine fun y1 dy1 hy1 hdy1 hne1 => ?_
    have em1 : Ext [] (upd H6 tp (.tup acc)) (upd (upd (upd H6 tp (.tup acc)) dy1 (.own y1)) y1 (.ins C dy1 [])) := (Ext.new hdy1).trans (Ext.new (by rw [upd_ne (Ne.symm hne1)]; exact hy1))
    refine ⟨y1, tp, dy1, n, acc, sm, rfl, upd_same, SqT.of (em1.tups _ _ upd_same), ((hsm.ext e46).ext e7).ext em1, hS, by omega, by omega, fun A1 H8 k1 hnet1 hl1 ex8 => ⟨rfl, ?_⟩⟩
    have e8 : Ext [] H6 H8 := e7.trans ((em1.any.trans ex8).drop hy1)
    have e48 := e46.trans e8
    have gy1 := ne_of_none (e7.keep _ _ (e6.keep _ _ g5 (by simp)) (by simp)) hy1
    have py1 := ((hp4.ext e46 (by simp)).ext e7 (by simp)).ne hy1
    refine ⟨sz (by show 2 ≤ 100000; decide), fun nl hnl => ?_⟩
    have e9 : Ext [] H8 (upd H8 nl (.lst [.ref y0, .ref y1])) := Ext.new hnl
    have hp8 := hp4.ext e48 (by simp)
    have pnl := hp8.ne hnl
    have g8 := e8.keep _ _ (e6.keep _ _ g5 (by simp)) (by simp)
    have gnl := ne_of_none g8 hnl
    have nl9 : (upd H8 nl (.lst [.ref y0, .ref y1])) nl = some (.lst [.ref y0, .ref y1]) := upd_same
    have net0' := (hnet0.ext e8 (by simp)).ext e9 (by simp)
    have net1' := hnet1.ext e9 (by simp)
    have e49 := e48.trans e9
    have g9 := e9.keep _ _ g8 (by simp)
    generalize upd H8 nl (.lst [.ref y0, .ref y1]) = H9 at e9 nl9 net0' net1' e49 g9 ⊢
    clear hnet0 hnet1 em0 em1 ex6 ex8 e7
    -- given != arcs
    have hq9 := e49.keep _ _ hq4 (by simp)
    have him9 := him4.ext e49
    have hsh : SeqAt.shaped (.list (arcs.map rowD)) = true := ((Sml.lst (sml_arcs n8 hA.2)).good (by have := depth_rows arcs; simp only [PyData.depth]; omega) (by have := bulk_rows arcs (len_arcs hA.2); have := hA.1; simp only [PyData.bulk]; omega)).shp
    refine ⟨_, rfl, _, rfl, .list (arcs.map rowD), .list (arcs.map rowD), .lst (SqL.of g9) him9.dp, .lst (SqL.of hq9) him9.dp, hsh, hsh, _, rfl, iteBF (by rw [SeqAt.eqv_refl _ (SeqAt.canLay_of_shaped hsh)]; rfl) ?_⟩
    -- given.append
    refine ⟨_, rfl, Or.inl ⟨rfl, _, SqL.of g9⟩, sz (by show 4 ≤ 100000; decide), fun t1 ht1 => ?_⟩
    have e10 : Ext [] H9 (upd H9 t1 (.tup [.int 0, .int 0, .int 1, .int 40])) := Ext.new ht1
    have g10 := e10.keep _ _ g9 (by simp)
    refine ⟨g, xs, .ref t1, rfl, rfl, g10, szl (by have := hA.1; omega), ?_⟩
    have e11 : Ext [g] H9 (upd (upd H9 t1 (.tup [.int 0, .int 0, .int 1, .int 40])) g (.lst (xs ++ [.ref t1]))) := e10.any.trans (Ext.write (o := .lst xs) g10 trivial List.mem_cons_self)
    have hp9 := hp4.ext e49 (by simp)
    have hp11 := hp9.ext e11 (by simpa using pg)
    have hq11 := e11.keep _ _ hq9 (by simpa using qg)
    have him11 := him9.ext e11
    have hD11 := e11.keep _ _ (e49.keep _ _ hacc (by simp)) (by simpa using Dg)
    have hsm11 := (hsm.ext e49).ext e11
    have nl11 := e11.keep _ _ nl9 (by simpa using Ne.symm gnl)
    have net011 := net0'.ext e11 (by simpa using Ne.symm gy0)
    have net111 := net1'.ext e11 (by simpa using Ne.symm gy1)
    generalize upd (upd H9 t1 (.tup [.int 0, .int 0, .int 1, .int 40])) g (.lst (xs ++ [.ref t1])) = H11 at hp11 hq11 him11 hD11 hsm11 nl11 net011 net111 ⊢
    clear e11 e10 g10 g9 hq9 him9 net0' net1' hp9
    -- due
    refine ⟨_, rfl, _, rfl, q0, xs, arcs, rfl, hq11, him11, hA.arcs, fun Ak pk H12 hkk hpk e12 hlk => ?_⟩
    obtain rfl : Ak = A0 := hkk.one k0
    refine ⟨sz (by show 2 ≤ 100000; decide), fun du hdu => ?_⟩
    cases hpk with
    | tup hpk1 hpk2 =>
    rename_i xk
    have e13 : Ext [] H12 (upd H12 du (.tup [.int n, .ref pk])) := Ext.new hdu
    have e113 := e12.trans e13
    have S : St K C p q0 D nl y0 y1 du n arcs sm Ak A1 (upd H12 du (.tup [.int n, .ref pk])) :=
      ⟨hp11.ext e113 (by simp), ⟨xs, e113.keep _ _ hq11 (by simp), him11.ext e113⟩, ⟨acc, e113.keep _ _ hD11 (by simp), hsm11.ext e113⟩, e113.keep _ _ nl11 (by simp), net011.ext e113 (by simp), net111.ext e113 (by simp),
        ⟨pk, xk, upd_same, e13.tups _ _ hpk1, hpk2.ext e13⟩, pq, pD, pnl, py0, py1⟩
    generalize upd H12 du (.tup [.int n, .ref pk]) = H13 at S ⊢
    clear hpk1 hpk2 e13 e113 hp11 hq11 him11 hD11 hsm11 nl11 net011 net111 e12
    -- same((nets[0].rows, nets[0].arcs), due)
    have fit0 := Kept.fit k0 hA
    have fit1 := Kept.fit k1 hS
    have step1 : ∃ dx a0 xa, H13 y0 = some (.ins C dx (flds n a0)) ∧ H13 a0 = some (.tup xa) ∧ Ims K H13 (Ak.map rowD) xa := S.net0
    obtain ⟨dx0, a0, xa0, hx0, ha0, hi0⟩ := step1
    refine ⟨_, rfl, nl, _, 0, _, rfl, rfl, SqL.of S.nets, rfl, y0, C, dx0, _, _, rfl, hx0, N.cl, N.nR, flds_rows _ _, _, rfl, nl, _, 0, _, rfl, rfl, SqL.of S.nets, rfl, y0, C, dx0, _, _, rfl, hx0, N.cl, N.nA, flds_arcs _ _, sz (by show 2 ≤ 100000; decide), fun t2 ht2 => ?_⟩
    have e14 : Ext [] H13 (upd H13 t2 (.tup [.int n, .ref a0])) := Ext.new ht2
    have S := S.new e14
    obtain ⟨tk, xk2, hdu2, htk2, hik2⟩ := S.due
    refine ⟨_, rfl, .ref t2, .ref du, .tuple [.int n, .tuple (Ak.map rowD)], rfl, .tup (SqT.of upd_same) (.cons (.int _) (.cons (.tup (SqT.of (e14.tups _ _ ha0)) (hi0.ext e14).dp) .nil)), .tup (SqT.of hdu2) (.cons (.int _) (.cons (.tup (SqT.of htk2) hik2.dp) .nil)), good_net n8 fit0 hl0, _, rfl, ?_⟩
    generalize upd H13 t2 (.tup [.int n, .ref a0]) = H14 at S ⊢
    -- same(nets[1].arcs, _law_kept(some))
    have step1 : ∃ dx a0 xa, H14 y1 = some (.ins C dx (flds n a0)) ∧ H14 a0 = some (.tup xa) ∧ Ims K H14 (A1.map rowD) xa := S.net1
    obtain ⟨dx1, a1, xa1, hx1, ha1, hi1⟩ := step1
    obtain ⟨xD, hD14, hi14⟩ := S.some
    refine ⟨_, rfl, nl, _, 1, _, rfl, rfl, SqL.of S.nets, rfl, y1, C, dx1, _, _, rfl, hx1, N.cl, N.nA, flds_arcs _ _, _, rfl, D, xD, sm, rfl, hD14, hi14, hS.arcs, fun Ak2 pk2 H15 hkk2 hpk2 e15 hl2 => ?_⟩
    obtain rfl : Ak2 = A1 := hkk2.one k1
    refine ⟨.ref a1, .ref pk2, .tuple (Ak2.map rowD), rfl, .tup (SqT.of (e15.tups _ _ ha1)) (hi1.ext e15).dp, hpk2.dp, good_arcs n8 fit1 hl1, _, rfl, ?_⟩
    have S := S.new e15
    clear hx1 ha1 hi1 hD14 hi14 hpk2
    -- u, v
    refine ⟨_, rfl, _, rfl, p, n, rfl, S.pool, by omega, by omega, fun uI H16 u0 u1 ex16 hp16 => ?_⟩
    have S := S.ext ex16 hp16
    obtain ⟨u, rfl⟩ := Int.eq_ofNat_of_zero_le u0
    refine ⟨_, rfl, _, rfl, p, n, rfl, S.pool, by omega, by omega, fun vI H17 v0 v1 ex17 hp17 => ?_⟩
    have S := S.ext ex17 hp17
    obtain ⟨v, rfl⟩ := Int.eq_ofNat_of_zero_le v0
    have hu : u < n := by omega
    have hv : v < n := by omega
    -- mine
    obtain ⟨xq, hq17, hi17⟩ := S.arcs
    refine ⟨_, rfl, _, rfl, _, rfl, q0, n, u, xq, arcs, rfl, hq17, hi17, hA, n1, n8, steps_arcs n8 hA.2, hu, fun tm asm tabm H18 Lm Fm hm0 hma e18 => ?_⟩
    have M : ∀ {H : Hp}, St K C p q0 D nl y0 y1 du n arcs sm Ak Ak2 H → LoL RV H tm asm tabm → Side K C p n Ak (arcs ++ loops n) u y0 tm H := fun s L => side_of s.net0 k0 hA hl0 n8 n1 hu s.n0 L Fm S.pool hm0 hma
    have S := S.new e18
    -- lags
    obtain ⟨xD, hD18, hi18⟩ := S.some
    refine ⟨_, rfl, _, rfl, _, rfl, _, rfl, D, n, u, xD, sm, rfl, hD18, hi18, hS, n1, n8, steps_arcs n8 hS.2, hu, fun to aso tabo H19 Lo Fo ho0 hoa e19 => ?_⟩
    have Lm := Lm.ext stab_RV e19 (by simp) (by simp)
    have M1 : ∀ {H : Hp}, St K C p q0 D nl y0 y1 du n arcs sm Ak Ak2 H → LoL RV H to aso tabo → Side K C p n Ak2 (sm ++ loops n) u y1 to H := fun s L => side_of s.net1 k1 hS hl1 n8 n1 hu s.n1 L Fo S.pool ho0 hoa
    have S := S.new e19
    refine ⟨sz (by show 2 ≤ 100000; decide), fun ll hll => ?_⟩
    have pll := S.pool.ne hll
    have e20 : Ext [] H19 (upd H19 ll (.lst [.ref tm, .ref to])) := Ext.new hll
    have ll20 : (upd H19 ll (.lst [.ref tm, .ref to])) ll = some (.lst [.ref tm, .ref to]) := upd_same
    have S := S.new e20
    have sd0 := M S (Lm.ext stab_RV e20 (by simp) (by simp))
    have sd1 := M1 S (Lo.ext stab_RV e20 (by simp) (by simp))
    generalize upd H19 ll (.lst [.ref tm, .ref to]) = H20 at S ll20 sd0 sd1 ⊢
    clear M M1 Lm Lo
    -- ways hold
    obtain ⟨xq, hq20, hi20⟩ := S.arcs
    refine ⟨_, rfl, _, rfl, _, rfl, _, rfl, _, rfl, _, rfl, _, xq.length, rfl, Or.inl ⟨_, SqL.of hq20, rfl⟩, _, _, rfl, rfl, p, nl, ll, y0, y1, tm, to, n, u, v, _, _, _, _, _, rfl, S.pool, S.nets, ll20, S.nn, pll, sd0, sd1, hv, fun H21 hp21 ex21 => ⟨_, rfl, ?_⟩⟩
    have S := S.ext ex21 hp21
    have sd0 := sd0.ext ex21
    -- theirs
    obtain ⟨xq, hq21, hi21⟩ := S.arcs
    refine ⟨_, rfl, _, rfl, _, rfl, q0, n, v, xq, arcs, rfl, hq21, hi21, hA, n1, n8, steps_arcs n8 hA.2, hv, fun th ash tabh H22 Lh Fh hh0 hha e22 => ?_⟩
    have sd0 := sd0.ext e22.any
    have hpB := S.pool
    have S := S.new e22
    have sdh : Side K C p n Ak (arcs ++ loops n) v y0 th H22 := side_of S.net0 k0 hA hl0 n8 n1 hv S.n0 Lh Fh hpB hh0 hha
    -- joins
    refine ⟨_, rfl, _, rfl, nl, _, 0, _, rfl, rfl, SqL.of S.nets, rfl, _, rfl, _, rfl, _, rfl, _, rfl, p, y0, tm, th, n, u, v, Ak, _, rfl, S.pool, sd0, sdh, fun H23 hp23 ex23 => ⟨_, rfl, ?_⟩⟩
    have S := S.ext ex23 hp23
    clear sd0 sdh sd1 Lh
    -- refused
    refine ⟨_, rfl, sz (by show 2 ≤ 100000; decide), fun bl hbl => ?_⟩
    have e24 : Ext [] H23 (upd H23 bl (.lst [.int (-1), .int 41])) := Ext.new hbl
    have bl24 : (upd H23 bl (.lst [.int (-1), .int 41])) bl = some (.lst [.int (-1), .int 41]) := upd_same
    have S := S.new e24
    generalize upd H23 bl (.lst [.int (-1), .int 41]) = H24 at S bl24 ⊢
    refine ⟨bl, rfl, ⟨_, SqL.of bl24⟩, for_list (K := K) (a := bl) (xs := [.int (-1), .int 41])
      (fun i σ H' => ∃ (c13 : Option V), σ = [some (.ref a), some (.ref p), some (.int n), some (.ref q0), some (.ref D), some (.ref g), some (.ref nl), some (.ref du), some (.int u), some (.int v), some (.ref tm), some (.ref ll), some (.ref th), c13, none, none] ∧ Ext [] H24 H')
      ⟨none, rfl, Ext.refl⟩ (fun i σ H' _ ⟨_, _, e⟩ => SqL.of (e.keep _ _ bl24 (by simp))) ?_ ?_⟩
    · rintro i x σ H' hx ⟨c13, rfl, e25⟩
      obtain ⟨f, rfl, hf⟩ : ∃ f : Int, x = .int f ∧ (f = -1 ∨ f = 41) := by
        match i, hx with
        | 0, hx => exact ⟨-1, (Option.some.inj hx).symm, .inl rfl⟩
        | 1, hx => exact ⟨41, (Option.some.inj hx).symm, .inr rfl⟩
        | i + 2, hx => exact nomatch hx
      have S := S.new e25
      refine ⟨_, rfl, nl, _, 0, _, rfl, rfl, SqL.of S.nets, rfl, _, rfl, _, rfl, _, rfl, y0, n, u, v, f, Ak, rfl, S.net0, n8, hu, .inl ⟨hv, by omega, fun t H26 e26 ht => ?_⟩⟩
      refine ⟨_, rfl, sz (by show 2 ≤ 100000; decide), fun t2 ht2 => ?_⟩
      have e27 : Ext [] H26 (upd H26 t2 (.tup [.str "dist", .int f])) := Ext.new ht2
      refine ⟨.ref t, .ref t2, .tuple [.str "dist", .int f], rfl, .tup (SqT.of (e27.tups _ _ ht)) (.cons (.str _) (.cons (.int _) .nil)), .tup (SqT.of upd_same) (.cons (.str _) (.cons (.int _) .nil)), good_due (.str (by decide +kernel) (by decide +kernel)) (by decide) (by omega), _, rfl, ?_⟩
      exact ⟨_, rfl, (e25.trans e26).trans e27⟩
    · rintro σ H' ⟨c13, rfl, e25⟩
      have S := S.new e25
      refine ⟨_, rfl, nl, _, 0, _, rfl, rfl, SqL.of S.nets, rfl, _, rfl, _, rfl, y0, n, u, n, 41, Ak, rfl, S.net0, n8, hu, .inr ⟨rfl, fun t H26 e26 ht => ?_⟩⟩
      have S := S.new e26
      refine ⟨_, rfl, _, rfl, sz (by show 2 ≤ 100000; decide), fun t2 ht2 => ?_⟩
      have e27 : Ext [] H26 (upd H26 t2 (.tup [.str "row", .int n])) := Ext.new ht2
      refine ⟨.ref t, .ref t2, .tuple [.str "row", .int n], rfl, .tup (SqT.of (e27.tups _ _ ht)) (.cons (.str _) (.cons (.int _) .nil)), .tup (SqT.of upd_same) (.cons (.str _) (.cons (.int _) .nil)), good_due (.str (by decide +kernel) (by decide +kernel)) (by decide) (by omega), _, rfl, iteBT rfl ?_⟩
      have S := S.new e27
      generalize upd H26 t2 (.tup [.str "row", .int n]) = H27 at S ⊢
      have step1 : ∃ dx a0 xa, H27 y0 = some (.ins C dx (flds n a0)) ∧ H27 a0 = some (.tup xa) ∧ Ims K H27 (Ak.map rowD) xa := S.net0
      obtain ⟨dx2, a2, xa2, hx2, ha2, hi2⟩ := step1
      obtain ⟨tk, xk2, hdu2, htk2, hik2⟩ := S.due
      refine ⟨_, rfl, nl, _, 0, _, rfl, rfl, SqL.of S.nets, rfl, y0, C, dx2, _, _, rfl, hx2, N.cl, N.nA, flds_arcs _ _, _, rfl, du, _, 1, _, rfl, rfl, SqT.of hdu2, rfl, .ref a2, .ref tk, .tuple (Ak.map rowD), rfl, .tup (SqT.of ha2) hi2.dp, .tup (SqT.of htk2) hik2.dp, good_arcs n8 fit0 hl0, q _⟩
end
end K19
/-! Hd: the head's facts, with one more Bool; own exception classes told by Bools. -/
namespace Hd
open PySem PySem.Spec PyProof.Rows L2 Gd Bx Cl Kx He
/-- the class at C: an exception class over ValueError that a def makes -/
def oexB (K : PySem.W.Frag) (C : Addr) : Bool := (match K.lookup C with
  | some ⟨.type t, _, .cls cd, sl⟩ => (match cd.mro, sl.toList with
    | .ref C' :: bm, [_, _, _, _, some (.builtin n), _] => decide (t = "type") && (decide (C' = C) && (decide (n = "ValueError.__new__") && (cd.hasDict && (!cd.hasDel && PySem.HandSPX.refsVE bm))))
    | _, _ => false)
  | _ => false) && (eqO (PySem.W.findIn K (.ref C) "__setattr__") (some (some (.builtin "object.__setattr__"))) && (decide (PySem.W.subIn K (.ref C) (.type "BaseException") = some true) &&
    (decide (PySem.W.typeIn K (.ref C) = some (.type "type")) && PySem.W.keepIn K (.ref C))))
theorem oexB_ok {K : PySem.W.Frag} {C : Addr} (h : oexB K C = true) : OexC K C := by
  obtain ⟨h1, h⟩ := ba h
  obtain ⟨h2, h⟩ := ba h
  obtain ⟨h3, h⟩ := ba h
  obtain ⟨h4, h5⟩ := ba h
  refine ⟨?_, eqO_ok h2, of_decide_eq_true h3, of_decide_eq_true h4, h5⟩
  cases q : K.lookup C with
  | none => rw [q] at h1; cases h1
  | some o =>
    rw [q] at h1
    obtain ⟨oc, od, dt, sl⟩ := o
    cases oc with
    | type t =>
      cases dt with
      | cls cd =>
        obtain ⟨nm, bs, mro, N, qn, hd, sn, sub, ab, col, dl⟩ := cd
        match mro, h1 with
        | .ref C' :: bm, h1 =>
          obtain ⟨sl⟩ := sl
          match sl, h1 with
          | [k0, k1, k2, k3, some (.builtin n), k5], h1 =>
            obtain ⟨a1, h1⟩ := ba h1
            obtain ⟨a2, h1⟩ := ba h1
            obtain ⟨a3, h1⟩ := ba h1
            obtain ⟨a4, h1⟩ := ba h1
            obtain ⟨a5, a6⟩ := ba h1
            have b1 := of_decide_eq_true a1
            have b2 := of_decide_eq_true a2
            have b3 := of_decide_eq_true a3
            have b4 : hd = true := a4
            have b5 : dl = false := by
              have : (!dl) = true := a5
              cases dl
              · rfl
              · cases this
            subst b1 b2 b3 b4 b5
            exact ⟨nm, qn, N, bs, bm, sn, sub, ab, col, od, k0, k1, k2, k3, k5, rfl, a6⟩
      | _ => cases h1
    | _ => cases dt <;> cases h1
def excB (K : PySem.W.Frag) (D : Addr) : Bool := eqO (PySem.W.findIn K (.ref D) "__getattribute__") (some (some (.builtin "BaseException.__getattribute__"))) && (eqO (PySem.W.findIn K (.ref D) "__getattr__") (some none) &&
  (decide (PySem.W.subIn K (.ref D) (.type "BaseException") = some true) && (PySem.W.hasDictIn K D && (eqO (PySem.W.findIn K (.ref D) "__class__") (some (some (.builtin "object.__class__"))) &&
    (eqO (PySem.W.specialIn K (.builtin "object.__class__") "__get__") (some (some (.builtin "getset_descriptor.__get__"))) && (decide (PySem.W.takesIn K (.builtin "object.__class__") = some true) && decide (PySem.W.mroIn K D (.type "object") = some true)))))))
theorem excB_ok {K : PySem.W.Frag} {D : Addr} (h : excB K D = true) : ExcC K D := by
  obtain ⟨h1, h⟩ := ba h
  obtain ⟨h2, h⟩ := ba h
  obtain ⟨h3, h⟩ := ba h
  obtain ⟨h4, h⟩ := ba h
  obtain ⟨h5, h⟩ := ba h
  obtain ⟨h6, h⟩ := ba h
  obtain ⟨h7, h8⟩ := ba h
  exact ⟨eqO_ok h1, eqO_ok h2, of_decide_eq_true h3, h4, eqO_ok h5, eqO_ok h6, of_decide_eq_true h7, of_decide_eq_true h8⟩
/-- the class x with its field f and its __init__ -/
def excSB (K : PySem.W.Frag) (x f : Str) : Bool := oexB K (ga K x) && (excB K (ga K x) && (eqO (PySem.W.findIn K (.ref (ga K x)) f) (some none) &&
  (eqO (PySem.W.findIn K (.ref (ga K x)) "__init__") (some (some (.ref (ma K (ga K x) "__init__")))) && decide (PySem.W.typeIn K (.ref (ma K (ga K x) "__init__")) = some (.type "function")))))
theorem excSB_ok {K : PySem.W.Frag} {mg : Str → Option Value} {x q f : Str} {st : Stmt} {fd : FuncData} (h : excSB K x f = true) (hm : mg x = some (.ref (ga K x))) (F : FnP K "__init__" q st (ma K (ga K x) "__init__") fd) : ExcS K mg x q f st (ga K x) := by
  obtain ⟨h1, h⟩ := ba h
  obtain ⟨h2, h⟩ := ba h
  obtain ⟨h3, h⟩ := ba h
  obtain ⟨h4, h5⟩ := ba h
  exact ⟨hm, oexB_ok h1, excB_ok h2, eqO_ok h3, _, fd, eqO_ok h4, of_decide_eq_true h5, F⟩
/-! ### the Hook -/
structure SaysB (fa : List Fa) (fn : List DefD) (ex : PySem.W.Frag → Bool) (K : PySem.W.Frag) : Prop where
  d : SaysD fa fn K
  more : ex K = true
abbrev AlB : Type := AlD × Bool
def obsB (n : Nat) (fa : List Fa) (fn : List DefD) (ex : PySem.W.Frag → Bool) (g : Addr → Option Obj) : AlB :=
  let K := frG g (asD g n)
  (obsD fa fn K, ex K)
def hookB (n : Nat) (fa : List Fa) (fn : List DefD) (ex : PySem.W.Frag → Bool) : PySem.W.Hook where
  α := AlB
  obs := fun s => obsB n fa fn ex s.heap.get?
  val := fun _ => (valD fn, true)
  says := fun _ h => ∃ K : PySem.W.Frag, K.In h ∧ SaysB fa fn ex K
  of := fun _ _ e => ⟨_, frG_in, congrArg (fun z : AlB => z.1) e, congrArg (fun z : AlB => z.2) e⟩
  keeps := fun _ _ _ ⟨K, hK, c⟩ k => ⟨K, PySem.W.Frag.In.keeps hK k, c⟩
theorem obsB_eq {n : Nat} {fa : List Fa} {fn : List DefD} {ex : PySem.W.Frag → Bool} {g : Addr → Option Obj} {s : Shared} (h : ∀ a, g a = s.heap.get? a) : obsB n fa fn ex g = (hookB n fa fn ex).obs s := by
  have e : g = s.heap.get? := funext h
  rw [e] <;> rfl
end Hd
namespace K19
open PySem PySem.Spec PyProof.Rows L2 Gd Bx Cl Sx Tb Wy Kx Gs He Hd
def gD (x : Str) (st : Stmt) : DefD := ⟨(x, none), x, x, defArgs st, defBody st, defScope st, [], []⟩
def mD (c q : Str) (st : Stmt) : DefD := ⟨(c, some "__init__"), "__init__", q, defArgs st, defBody st, defScope st, [], []⟩
def fa0 : List Fa := [.glo "arc_fits", .glo "kept_arcs", .glo "net_steps", .glo "way_lag", .glo "lags_to", .glo "steps_into", .glo "_law_pool", .glo "_law_draw", .glo "_law_same", .glo "_law_net_arcs", .glo "_law_kept", .glo "_law_lags", .glo "_law_due", .glo "_law_ways_hold", .glo "_law_joins", .glo "_law_refused", .glo "law", .free "len", .free "max", .free "sorted", .free "list", .free "tuple", .free "range", .free "enumerate", .free "int", .free "repr", .free "isinstance", .int "MOST_ROWS" 8, .int "MOST_ARCS" 200, .int "MOST_DIST" 40]
def fa1 : List Fa := [.int "MOST_LAG" 40, .glo "Net", .cls "Net", .noat "Net" "rows", .noat "Net" "arcs", .mkr "Net", .glo "NoRow", .glo "NoTick", .glo "OverlapError", .glo "BadNet", .exm "NoRow" "OverlapError" true, .exm "NoTick" "OverlapError" true]
def fa : List Fa := fa0 ++ fa1
def fn0 : List DefD := [gD "arc_fits" s_arc_fits, gD "kept_arcs" s_kept_arcs, gD "net_steps" s_net_steps, gD "way_lag" s_way_lag, gD "lags_to" s_lags_to, gD "steps_into" s_steps_into, gD "_law_pool" s_law_pool, gD "_law_draw" s_law_draw, gD "_law_same" s_law_same, gD "_law_net_arcs" s_law_net_arcs, gD "_law_kept" s_law_kept, gD "_law_lags" s_law_lags, gD "_law_due" s_law_due, gD "_law_ways_hold" s_law_ways_hold, gD "_law_joins" s_law_joins, gD "_law_refused" s_law_refused, gD "law" s_law, mD "Net" "Net.__init__" s_Net_init, mD "NoRow" "NoRow.__init__" s_NoRow_init, mD "NoTick" "NoTick.__init__" s_NoTick_init]
def fn : List DefD := fn0
def ex (K : PySem.W.Frag) : Bool := excSB K "NoRow" "value" && (excSB K "NoTick" "value" && (decide (PySem.W.kitOne K (.ref (ga K "NoRow")) (.ref (ga K "NoRow")) = some true) && (decide (PySem.W.kitAny K (.ref (ga K "NoRow")) [.ref (ga K "NoTick"), .ref (ga K "BadNet")] = some false) &&
  (decide (PySem.W.kitOne K (.ref (ga K "NoTick")) (.ref (ga K "NoRow")) = some false) && (decide (PySem.W.kitOne K (.ref (ga K "NoTick")) (.ref (ga K "NoTick")) = some true) && decide (PySem.W.kitAny K (.ref (ga K "NoTick")) [.ref (ga K "NoRow"), .ref (ga K "BadNet")] = some false))))))
abbrev R : PySem.W.OpenRow := PySem.W.OpenLaw.row PySem.Challenge.rw_overlappedloops_k19_way_lags_join
abbrev hk : PySem.W.Hook := hookB 6 fa fn ex
def ob (s : PySem.W.SharedT) : AlB := obsB 6 fa fn ex (HandSHeadRun.getT s)
theorem ob_eq (s : PySem.W.SharedT) : ob s = hk.obs s.abs := obsB_eq (HandSHeadRun.getT_eq s)
def loose : List Str := ["OverlapError", "BadNet", "NoTick", "NoRow", "MOST_ROWS", "MOST_ARCS", "MOST_DIST", "MOST_LAG", "Net", "arc_fits", "kept_arcs", "net_steps", "way_lag", "lags_to", "steps_into", "_law_pool", "_law_draw", "_law_same", "_law_net_arcs", "_law_kept", "_law_lags", "_law_due", "_law_ways_hold", "_law_joins", "_law_refused"]
theorem run (w : World) : HandSHeadRun.RunEq R (PySem.W.view R.prog [29]) hk ob 2000 loose w := by
  intro os
  kernel_rfl
section
variable {P : Program} {w : World} {K : PySem.W.Frag} {h : Heap} {mg : Str → Option Value}
theorem def_of (X : K.In h) (G : h.Ns mainGlobals mg) (c : SaysB fa fn ex K) {x : Str} {st : Stmt} (hg : (Fa.glo x).ok K = true) (i : Nat) (hd : fn[i]? = some (gD x st)) : Def K mg x st := by
  obtain ⟨fd, F⟩ := c.d.def_ i hd
  exact ⟨_, fd, glo_ok X G hg, F⟩
theorem txt_of (X : K.In h) (G : h.Ns mainGlobals mg) (c : SaysB fa fn ex K) : Txt K mg where
  len := free_ok X G (c.d.fact 17 (f := .free "len") rfl)
  max := free_ok X G (c.d.fact 18 (f := .free "max") rfl)
  sorted := free_ok X G (c.d.fact 19 (f := .free "sorted") rfl)
  list := free_ok X G (c.d.fact 20 (f := .free "list") rfl)
  tuple := free_ok X G (c.d.fact 21 (f := .free "tuple") rfl)
  range := free_ok X G (c.d.fact 22 (f := .free "range") rfl)
  enumerate := free_ok X G (c.d.fact 23 (f := .free "enumerate") rfl)
  int := free_ok X G (c.d.fact 24 (f := .free "int") rfl)
  repr := free_ok X G (c.d.fact 25 (f := .free "repr") rfl)
  isinstance := free_ok X G (c.d.fact 26 (f := .free "isinstance") rfl)
  MOST_ROWS := int_ok X G (c.d.fact 27 (f := .int "MOST_ROWS" 8) rfl)
  MOST_ARCS := int_ok X G (c.d.fact 28 (f := .int "MOST_ARCS" 200) rfl)
  MOST_DIST := int_ok X G (c.d.fact 29 (f := .int "MOST_DIST" 40) rfl)
  MOST_LAG := int_ok X G (c.d.fact 30 (f := .int "MOST_LAG" 40) rfl)
  d_arc_fits := def_of X G c (c.d.fact 0 (f := .glo "arc_fits") rfl) 0 rfl
  d_kept_arcs := def_of X G c (c.d.fact 1 (f := .glo "kept_arcs") rfl) 1 rfl
  d_net_steps := def_of X G c (c.d.fact 2 (f := .glo "net_steps") rfl) 2 rfl
  d_way_lag := def_of X G c (c.d.fact 3 (f := .glo "way_lag") rfl) 3 rfl
  d_lags_to := def_of X G c (c.d.fact 4 (f := .glo "lags_to") rfl) 4 rfl
  d_steps_into := def_of X G c (c.d.fact 5 (f := .glo "steps_into") rfl) 5 rfl
  d_law_pool := def_of X G c (c.d.fact 6 (f := .glo "_law_pool") rfl) 6 rfl
  d_law_draw := def_of X G c (c.d.fact 7 (f := .glo "_law_draw") rfl) 7 rfl
  d_law_same := def_of X G c (c.d.fact 8 (f := .glo "_law_same") rfl) 8 rfl
  d_law_net_arcs := def_of X G c (c.d.fact 9 (f := .glo "_law_net_arcs") rfl) 9 rfl
  d_law_kept := def_of X G c (c.d.fact 10 (f := .glo "_law_kept") rfl) 10 rfl
  d_law_lags := def_of X G c (c.d.fact 11 (f := .glo "_law_lags") rfl) 11 rfl
  d_law_due := def_of X G c (c.d.fact 12 (f := .glo "_law_due") rfl) 12 rfl
  d_law_ways_hold := def_of X G c (c.d.fact 13 (f := .glo "_law_ways_hold") rfl) 13 rfl
  d_law_joins := def_of X G c (c.d.fact 14 (f := .glo "_law_joins") rfl) 14 rfl
  d_law_refused := def_of X G c (c.d.fact 15 (f := .glo "_law_refused") rfl) 15 rfl
theorem net_of (X : K.In h) (G : h.Ns mainGlobals mg) (c : SaysB fa fn ex K) : NetC K mg (ga K "Net") := by
  obtain ⟨fd, F⟩ := c.d.def_ 17 (d := mD "Net" "Net.__init__" s_Net_init) rfl
  exact ⟨⟨glo_ok X G (c.d.fact 31 (f := .glo "Net") rfl), _, fd, mkr_ok (c.d.fact 35 (f := .mkr "Net") rfl), F⟩, cls_ok (c.d.fact 32 (f := .cls "Net") rfl), noat_ok (c.d.fact 33 (f := .noat "Net" "rows") rfl), noat_ok (c.d.fact 34 (f := .noat "Net" "arcs") rfl)⟩
theorem exs_of (X : K.In h) (G : h.Ns mainGlobals mg) (c : SaysB fa fn ex K) : ExsC K mg (ga K "NoRow") (ga K "NoTick") ∧ AskC K mg (ga K "NoRow") (ga K "NoTick") (ga K "OverlapError") (ga K "BadNet") := by
  obtain ⟨m1, m⟩ := ba c.more
  obtain ⟨m2, m⟩ := ba m
  obtain ⟨m3, m⟩ := ba m
  obtain ⟨m4, m⟩ := ba m
  obtain ⟨m5, m⟩ := ba m
  obtain ⟨m6, m7⟩ := ba m
  obtain ⟨fd1, F1⟩ := c.d.def_ 18 (d := mD "NoRow" "NoRow.__init__" s_NoRow_init) rfl
  obtain ⟨fd2, F2⟩ := c.d.def_ 19 (d := mD "NoTick" "NoTick.__init__" s_NoTick_init) rfl
  refine ⟨⟨excSB_ok m1 (glo_ok X G (c.d.fact 36 (f := .glo "NoRow") rfl)) F1, excSB_ok m2 (glo_ok X G (c.d.fact 37 (f := .glo "NoTick") rfl)) F2⟩, ?_⟩
  exact ⟨glo_ok X G (c.d.fact 38 (f := .glo "OverlapError") rfl), glo_ok X G (c.d.fact 39 (f := .glo "BadNet") rfl), exm_ok (c.d.fact 40 (f := .exm "NoRow" "OverlapError" true) rfl), exm_ok (c.d.fact 41 (f := .exm "NoTick" "OverlapError" true) rfl), of_decide_eq_true m3, of_decide_eq_true m4, of_decide_eq_true m5, of_decide_eq_true m6, of_decide_eq_true m7⟩
theorem facts {f : Addr} (X : K.In h) (G : h.Ns mainGlobals mg) (hfa : mg ("law" : Str) = some (.ref f)) (c : SaysB fa fn ex K) :
    ∃ fd : FuncData, (∀ (s : Shared) (v : Value), BindsTo s fd ⟨[v], []⟩ [("script", v)]) ∧ ∀ base : Heap, K.In base → base.Ns mainGlobals mg → FnG P w K mg base CX0 6 f fd ["script"] (spLaw K) := by
  obtain ⟨fd, F⟩ := c.d.def_ 16 (d := gD "law" s_law) rfl
  have e := hfa.symm.trans (glo_ok X G (c.d.fact 16 (f := .glo "law") rfl))
  cases e
  have b := FunD.bindsA (ps := ["script"]) F fun _ _ _ _ _ _ us hl => match us, hl with | [_], _ => rfl
  obtain ⟨E1, E2⟩ := exs_of X G c
  exact ⟨fd, fun s v => b s [v] rfl, fun base _ _ => ok_law (txt_of X G c) (net_of X G c) E1 E2 F⟩
end
end K19
open PySem PySem.W PySem.Calls PyProof.Rows
theorem PySem.Challenge.cw_overlappedloops_k19_way_lags_join_holds : PySem.Challenge.rw_overlappedloops_k19_way_lags_join.Holds := by
  w_on; o_law
  refine HandSHeadRun.head_any (r := OpenLaw.row PySem.Challenge.rw_overlappedloops_k19_way_lags_join) (q := view (OpenLaw.row PySem.Challenge.rw_overlappedloops_k19_way_lags_join).prog [29]) (H := K19.hk) (ob := K19.ob) (M := 2000) (loose := K19.loose) (d := HandSHeadRun.topDef (OpenLaw.row PySem.Challenge.rw_overlappedloops_k19_way_lags_join).prog 29) (kwd := []) K19.ob_eq
    (by kernel_rfl) (fun s => by kernel_rfl) K19.run (by kernel_rfl) (by kernel_rfl) (by kernel_rfl) (by rfl) (by first | assumption | decide +kernel) (by decide +kernel) ⟨rfl, rfl, rfl, rfl, rfl, by decide +kernel⟩ ?hw ?hc
  case hw => w_witness2
  case hc =>
    refine Gd.walk_G (l := PySem.Challenge.rw_overlappedloops_k19_way_lags_join) (n := 63) (k := 6) (x := "script") (CX := L2.CX0) rfl (by decide) (by kernel_rfl) ⟨rfl, by decide, by decide⟩ ?F (fun _ _ _ _ z => z)
    intro w mg fa h Y G hmg0
    obtain ⟨K, KX, c⟩ := Y
    have hmg : mg ("law" : PySem.Str) = some (.ref fa) := by
      have e : (HandSHeadRun.topDef (OpenLaw.row PySem.Challenge.rw_overlappedloops_k19_way_lags_join).prog 29).name = ("law" : PySem.Str) := by kernel_rfl
      rw [← e]
      exact hmg0
    obtain ⟨fd, hb, hF⟩ := K19.facts (P := (PySem.Challenge.rw_overlappedloops_k19_way_lags_join).prog) (w := w) KX G hmg c
    exact ⟨K, fd, K19.spLaw K, KX, hb, fun H a ns hl hO hS => ⟨a, ns, rfl, hS, hl, hO, fun _ => rfl⟩, hF⟩
