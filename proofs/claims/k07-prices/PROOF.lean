import PyProof.Rows.All
import Wide.All
import OpenK.AllK
import Wide.FinOn
import HandS.ForMost
import HandS.ForExc
import HandS.RaiseMore
import HandS.Defaults
import HandS.HeadEnd
import HandS.EndBits
import KE.KExcSuper
import HandS.ExcInit
import HandS.IsInst
import HandS.ExcIs
import KE.KExcIs
import HandS.Wide
import HandS.HeadHook2
import HandS.Head2
import HandS.DictComp
import HandS.Property
import HandS.MakeKwOnly
import HandS.Flow
import KE.KDictWalk
import KE.GoesZip
import KE.GoesMore
import KE.GoesEnum
import HandS.Zip
import HandS.HeadNt
import HandS.Walk
import HandS.ExcOwn
import PySem.Challenge.RW_everyrun_k07_prices
set_option Elab.async false
set_option linter.all false
set_option maxRecDepth 100000
set_option maxHeartbeats 0
namespace Ev
open PySem PySem.Spec PyProof.Rows L2
/-! ### plain data that stands in the heap: dicts too -/
def kD : Key → PyData
  | .inl i => .int i
  | .inr x => .str x
mutual
inductive Rp (K : PySem.W.Frag) (H : Hp) : V → PyData → Prop
  | non : Rp K H .non .none
  | bl (b : Bool) : Rp K H (.bl b) (.bool b)
  | int (i : Int) : Rp K H (.int i) (.int i)
  | str (x : Str) : Rp K H (.str x) (.str x)
  | lst {a : Addr} {xs : List V} {ds : List PyData} : SqL K H a xs → RpAll K H xs ds → Rp K H (.ref a) (.list ds)
  | tup {a : Addr} {xs : List V} {ds : List PyData} : SqT K H a xs → RpAll K H xs ds → Rp K H (.ref a) (.tuple ds)
  | dct {a : Addr} {kvs : List (Key × V)} {es : List (PyData × PyData)} : H a = some (.dK kvs) → RpKv K H kvs es → Rp K H (.ref a) (.dict es)
inductive RpAll (K : PySem.W.Frag) (H : Hp) : List V → List PyData → Prop
  | nil : RpAll K H [] []
  | cons {v : V} {vs : List V} {d : PyData} {ds : List PyData} : Rp K H v d → RpAll K H vs ds → RpAll K H (v :: vs) (d :: ds)
inductive RpKv (K : PySem.W.Frag) (H : Hp) : List (Key × V) → List (PyData × PyData) → Prop
  | nil : RpKv K H [] []
  | cons {k : Key} {v : V} {kvs : List (Key × V)} {d : PyData} {es : List (PyData × PyData)} : Rp K H v d → RpKv K H kvs es → RpKv K H ((k, v) :: kvs) ((kD k, d) :: es)
end
/-- the written part holds sys.modules, a dict -/
def SysIn (K : PySem.W.Frag) : Prop := ∃ o, K.lookup sysModules = some o ∧ o.cls = .type "dict"
section
variable {X : Cx} {pins : List (Addr × Obj)} {σ : L2.St} {H : Hp} {s : Shared}
theorem keyIs_reads {h : Heap} {k : Key} {v : Value} (e : keyIs k v = true) : Reads h v (kD k) [] := by
  rcases keyIs_shape e with ⟨i, t, rfl, rfl⟩ | ⟨x, t, rfl, rfl⟩
  · exact Reads.int i t
  · exact Reads.str x t
theorem sys_not {a : Addr} {o : Obj} (I : Inv X pins σ H s) (S : SysIn X.K) (ho : s.heap.get? a = some o) (hc : o.cls = .type "list") : a ≠ sysModules := by
  intro e
  obtain ⟨u, hu, cu⟩ := S
  have q : s.heap.get? sysModules = some u := I.kIn _ _ hu
  rw [e, q] at ho
  cases ho
  rw [cu] at hc
  exact absurd (Value.type.inj hc) (by decide)
mutual
theorem Rp.reads (I : Inv X pins σ H s) (S : SysIn X.K) : ∀ (d : PyData) (v : V) (u : Value), Rp X.K H v d → RelV v u → ∃ as, Reads s.heap u d as ∧ sysModules ∉ as
  | .none, _, _, h, r => by
    cases h
    cases r
    exact ⟨_, Reads.none, fun z => nomatch z⟩
  | .bool b, _, _, h, r => by
    cases h
    cases r
    exact ⟨_, Reads.bool b, fun z => nomatch z⟩
  | .int i, _, _, h, r => by
    cases h
    obtain ⟨t, rfl⟩ := r
    exact ⟨_, Reads.int i t, fun z => nomatch z⟩
  | .str x, _, _, h, r => by
    cases h
    obtain ⟨t, rfl⟩ := r
    exact ⟨_, Reads.str x t, fun z => nomatch z⟩
  | .list ds, _, _, h, r => by
    cases h with
    | lst hs ha =>
      cases r
      obtain ⟨its, rv, ⟨o, n, ho, hc, _, hd⟩, _⟩ := I.list hs
      obtain ⟨as, hr, hn⟩ := RpAll.reads I S ds _ its ha rv
      exact ⟨_, Reads.list ho hc hd hr, fun z => (List.mem_cons.mp z).elim (fun e => sys_not I S ho hc e.symm) hn⟩
  | .tuple ds, _, _, h, r => by
    cases h with
    | tup hs ha =>
      cases r
      obtain ⟨its, rv, ⟨o, ho, hc, n, hd⟩, _⟩ := I.tuple hs
      obtain ⟨as, hr, hn⟩ := RpAll.reads I S ds _ its ha rv
      exact ⟨_, Reads.tuple ho hc hd hr, hn⟩
  | .dict es, _, _, h, r => by
    cases h with
    | dct he hk =>
      cases r
      obtain ⟨_, hne, vs, hkv, o, us, ep, ho, hx, hd, _, hp, _⟩ := dk_of I.hok he
      obtain ⟨bs, h1, h2, hn⟩ := RpKv.reads I S es _ vs us.toList hk hkv hp
      refine ⟨_, Reads.dict ho hx.1 hd h1 h2, fun z => ?_⟩
      rcases List.mem_append.mp z with z | z
      · rcases List.mem_cons.mp z with z | z
        · rw [← z] at hne
          simp at hne
        · exact nomatch z
      · exact hn z
theorem RpAll.reads (I : Inv X pins σ H s) (S : SysIn X.K) : ∀ (ds : List PyData) (vs : List V) (us : List Value), RpAll X.K H vs ds → Vals vs us → ∃ as, ReadsAll s.heap us ds as ∧ sysModules ∉ as
  | [], _, _, h, r => by
    cases h
    cases r
    exact ⟨_, ReadsAll.nil, fun z => nomatch z⟩
  | d :: ds, _, _, h, r => by
    cases h with
    | cons h1 h2 =>
      cases r with
      | cons r1 r2 =>
        obtain ⟨as, q1, n1⟩ := Rp.reads I S d _ _ h1 r1
        obtain ⟨bs, q2, n2⟩ := RpAll.reads I S ds _ _ h2 r2
        exact ⟨_, ReadsAll.cons q1 q2, fun z => (List.mem_append.mp z).elim n1 n2⟩
theorem RpKv.reads (I : Inv X pins σ H s) (S : SysIn X.K) : ∀ (es : List (PyData × PyData)) (kvs : List (Key × V)) (vs : List (Key × Value)) (us : List DictEntry), RpKv X.K H kvs es → KV kvs vs → Pairs (mixKind X.prog X.w) us vs →
    ∃ bs, ReadsAll s.heap (us.map (·.key)) (es.map (·.1)) [] ∧ ReadsAll s.heap (us.map (·.val)) (es.map (·.2)) bs ∧ sysModules ∉ bs
  | [], _, _, _, h, r, p => by
    cases h
    cases r
    cases p
    exact ⟨[], ReadsAll.nil, ReadsAll.nil, fun z => nomatch z⟩
  | (d0, d) :: es, _, _, _, h, r, p => by
    cases h with
    | cons h1 h2 =>
      cases r with
      | cons r1 r2 =>
        cases p with
        | cons p1 p2 p3 =>
          obtain ⟨e1, e2⟩ := r1
          obtain ⟨as, q1, n1⟩ := Rp.reads I S d _ _ h1 e2
          obtain ⟨bs, q2, q3, n2⟩ := RpKv.reads I S es _ _ _ h2 r2 p3
          refine ⟨as ++ bs, ?_, ?_, fun z => (List.mem_append.mp z).elim n1 n2⟩
          · have q0 : Reads s.heap _ (kD _) [] := keyIs_reads (h := s.heap) (show keyIs _ _ = true from p1)
            rw [← e1] at q0
            exact ReadsAll.cons (as := []) (bs := []) q0 q2
          · refine ReadsAll.cons ?_ q3
            show Reads s.heap (DictEntry.val _) d as
            rw [p2]
            exact q1
end
/-- repr(x), x plain data; nothing of the kind is under way -/
def rRepr (K : PySem.W.Frag) : List V → Hp → VK → Prop := fun xs H Q => ∃ x d, xs = [x] ∧ Rp K H x d ∧ d.showable = true ∧ d.depth ≤ 60 ∧ d.shown.length ≤ sizeLine ∧ Q (.str d.shown) H
theorem call_repr (S : SysIn X.K) (hg : X.A.guards = some []) (hu : X.A.units + 64 < cLine) : CallR X (.builtin "repr") (rRepr X.K) := by
  intro pins s σ H xs us Q I r h
  obtain ⟨x, d, rfl, hd, hs, hdp, hz, q⟩ := h
  cases r with
  | cons rx rn =>
    cases rn
    rename_i u
    obtain ⟨as, hr, hn⟩ := Rp.reads I S d x u hd rx
    cases hr with
    | none => exact PySem.P.repr_of_none ⟨.str _, H, I.tok _, ⟨_, rfl⟩, q⟩
    | bool b => exact PySem.P.repr_of_bool ⟨.str _, H, I.tok _, ⟨_, rfl⟩, q⟩
    | int i t => exact PySem.P.repr_of_int (of_decide_eq_true hs) ⟨.str _, H, I.tok _, ⟨_, rfl⟩, q⟩
    | str y t => exact PySem.P.repr_of_str ⟨.str _, H, I.tok _, ⟨_, rfl⟩, q⟩ hz
    | list h1 h2 h3 h4 => exact repr_of_reads' (.list h1 h2 h3 h4) hs (fun _ => hn) hg (by omega) (fun _ _ e => e) (fun h' u tk hk => ⟨.str _, H, I.kept hk, ⟨_, rfl⟩, q⟩) hz
    | tuple h1 h2 h3 h4 => exact repr_of_reads' (.tuple h1 h2 h3 h4) hs (fun _ => hn) hg (by omega) (fun _ _ e => e) (fun h' u tk hk => ⟨.str _, H, I.kept hk, ⟨_, rfl⟩, q⟩) hz
    | dict h1 h2 h3 h4 h5 => exact repr_of_reads' (.dict h1 h2 h3 h4 h5) hs (fun _ => hn) hg (by omega) (fun _ _ e => e) (fun h' u tk hk => ⟨.str _, H, I.kept hk, ⟨_, rfl⟩, q⟩) hz
end
end Ev

namespace Ev
open PySem PySem.Spec PyProof.Rows L2
/-! ### a def's promise where no repr is under way around it -/
structure FnG (P : Program) (w : World) (K : PySem.W.Frag) (mg : Str → Option Value) (base : Heap) (CX : CXT) (k : Nat)
    (f : Addr) (fd : FuncData) (ps : List Str) (sp : Sp) : Prop where
  len : ∀ vs H Q E, sp vs H Q E → vs.length = ps.length
  run : ∀ (A : Around) (outer : List Env) (s : Shared) (H : Hp) (args : Args) (us : List Value) (vs : List V) (Q : VK) (E : XK),
    A.guards = some [] → Room k A → Env0 P w K mg base A outer s H → BindsTo s fd args (ps.zip us) → Vals vs us →
    sp vs H Q E → codeAny (model P w) A (.call (.ref f) args) (CR CX outer P w H s Q E) s
section
variable {P : Program} {w : World} {K : PySem.W.Frag} {mg : Str → Option Value} {base : Heap} {CX : CXT} {k : Nat}
variable {f : Addr} {fd : FuncData} {ps : List Str} {sp : Sp}
theorem deeper_guards {A : Around} (g : A.guards = some []) (env : Env) : (A.deeper env).guards = some [] := by
  first
    | exact g
    | (unfold Around.deeper; simpa using g)
theorem FnG.by_body {x qual : Str} {params : Arguments} {body : List Stmt} {scope : Scope} {dvs : List V} {kws : List (Str × V)} {N : List Str}
    (F : FunD K x qual params body scope dvs kws f fd) (S : FnScope N ps scope) (len : ∀ vs H Q E, sp vs H Q E → vs.length = ps.length)
    (hb : ∀ (cdv : Value) (A : Around) (outer : List Env) (s : Shared) (H : Hp) (vs : List V) (Q : VK) (E : XK),
      (A.deeper (envOfC qual scope s.heap.objs.size f cdv)).guards = some [] → Room k (A.deeper (envOfC qual scope s.heap.objs.size f cdv)) → sp vs H Q E →
      ∃ t, PSs (cxOf CX P w K mg base N qual scope f cdv A outer s H E) body t ∧ t { nx := fun _ H' => Q .non H', rt := Q } (start N vs) H) :
    FnG P w K mg base CX (k + 1) f fd ps sp := by
  obtain ⟨oc, od, dV, kV, doc, pm, an, cdv, ct, osl, rfl, lk, hcd, _, _⟩ := F.ex
  constructor
  · exact len
  intro A outer s H args us vs Q E hg hr e0 hbd rv hsp
  have hlen := len _ _ _ _ hsp
  have old : ∀ b o, base.get? b = some o → s.heap.get? b = some o := fun b o e => (e0.bs b o e).1
  have KX : K.In s.heap := e0.mod.kin.keeps old
  have parK : ∀ y ∈ ps.zip us, scope.names.lookup y.1 = some .local ∨
      (scope.names.lookup y.1 = some .cell ∧ ((cellsFrom (s.heap.objs.size + 1) scope.names []).lookup y.1).isSome = true) := by
    rintro ⟨n, v⟩ hy
    cases S.par n (List.of_mem_zip hy).1 with
    | inl q => exact .inl q
    | inr q => exact .inr ⟨q, PySem.W.cellsFrom_some _ _ _ (.inl q)⟩
  refine codeAny_call_function hr.depth (KX _ _ lk) rfl S.co S.gen rfl (PySem.W.codeRec_of KX hcd) (hbd _ _ _ _ ?_)
  refine wpAny_newFunctionEnv_cells S.kind parK ?_
  intro env he s1 x
  subst he
  refine ⟨(e0.mod.nolimit.keeps old).keeps x.toInCall.keep, codeAny_func ?_⟩
  obtain ⟨t, ht, hq⟩ := hb cdv A outer s H vs Q E (deeper_guards hg _) (hr.deeper _) hsp
  have I : Inv (cxOf CX P w K mg base N qual scope f cdv A outer s H E) [] (start N vs) H s1 := inv_start S hr.hd e0 hlen rv x
  refine wpAny_mono (ht.run [] s1 (start N vs) H _ I hq) ?_ (fun e s' hs => hs)
  intro fl s' hs
  cases fl with
  | ret u =>
    obtain ⟨v, σ', H', J, r1, q⟩ := hs
    exact ⟨v, H', J.os, J.bare, J.base, J.hok, r1, q⟩
  | next =>
    obtain ⟨σ', H', J, q⟩ := hs
    exact ⟨V.non, H', J.os, J.bare, J.base, J.hok, rfl, q⟩
  | brk => exact (let ⟨_, _, _, q⟩ := hs; q).elim
  | cont => exact (let ⟨_, _, _, q⟩ := hs; q).elim
end
section
variable {X : Cx} {CX : CXT} {k : Nat} {f : Addr} {fd : FuncData} {ps : List Str} {sp : Sp} {dvs : List V} {ds : List Value} {E : XK} {x : Str}
variable {p pos : Pos} {e : Expr} {es : List Expr} {t : TA}
/-- a call of such a def -/
theorem pe_callG (F : FnG X.prog X.w X.K X.mg X.base CX k f fd ps sp) (g : X.A.guards = some []) (hr : Room k X.A) (hg : Gl X x) (hm : X.mg x = some (.ref f))
    (hk : PySem.W.keepIn X.K (.ref f) = true) (hb : Binds X.K fd ps ds) (hd : Vals dvs ds) (hx : Passes CX X E) (ha : PA X (e :: es) t)
    (hdb : (x == ("__debug__" : Str)) = false := by decide) (he : starEach (e :: es) X.env = (false, eval e X.env) :: starEach es X.env := by rfl)
    (hpl : (backTo pos (starEach es X.env)).any (·.1) = false := by rfl) : PE X (.Call (.Name x p) (e :: es) [] pos) (tCall sp dvs E t) := by
  constructor
  intro pins s σ H Q I h
  refine wpAny_Call_Name_kw (ld_glob I hg hm ?_ hdb)
  refine PySem.W.callWith_K (h₀ := X.base) I.ok.mod.kin hk (thn (ha.run pos pins s σ H _ I h) ?_) he hpl
  rintro us s1 ⟨vs, H1, I1, r, q⟩
  refine ⟨I1.kIn, ?_⟩
  have r2 : Vals (vs ++ dvs) (us ++ ds) := r.append hd
  have hl : (us ++ ds).length = ps.length := r2.length.symm.trans (F.len _ _ _ _ q)
  refine wpAny_call (codeAny_mono (F.run X.A X.stack s1 H1 ⟨us, []⟩ (us ++ ds) (vs ++ dvs) Q E g hr I1.env0 (hb s1 us I1.kIn hl) r2 q) ?_)
  intro r s' hq
  match r, hq with
  | .error e, hq => exact hx pins σ H1 s1 e s' I1 hq
  | .ok (.ret u), hq => exact I1.after hq
  | .ok .next, hq => exact False.elim hq
  | .ok .brk, hq => exact False.elim hq
  | .ok .cont, hq => exact False.elim hq
end
end Ev

namespace Ev
open PySem PySem.Spec PyProof.Rows L2
/-! ### the end of a law whose def asks that no repr is under way -/
section
variable {P : Program} {w : World} {K : PySem.W.Frag} {mg mb : Str → Option Value} {CX : CXT} {k : Nat} {fa a : Addr} {fd : FuncData} {x : Str} {sp : Sp}
variable {s₁ : Shared} {vs : List Value} {ns : List Int}
theorem law_from {H : Hp} (KX : K.In s₁.heap) (hns : s₁.heap.Ns mainGlobals mg) (hb : s₁.heap.Ns builtinsNs mb) (hbb : ∀ x : Str, x ≠ "__name__" → mb x = bootBuiltins x)
    (hlim : s₁.heap.NoLimit) (hg : s₁.gens = #[]) (ha : s₁.heap.get? a = some { cls := .type "list", data := .seq vs.toArray }) (hr : Room k callerA)
    (F : ∀ base : Heap, K.In base → base.Ns mainGlobals mg → FnG P w K mg base CX k fa fd [x] sp) (hbind : ∀ (s : Shared) (u : Value), BindsTo s fd ⟨[u], []⟩ [(x, u)])
    (hO : Only H) (hS : SqL K H a (ns.map V.int)) (hok : HOk P w H s₁.heap) (hA : ∀ b, H b ≠ none → b = a) (hK : H a ≠ none → K.lookup a = none)
    (hsp : sp [.ref a] H (fun v _ => v = .bl true) fun _ _ _ => False) (hCX : ∀ e s', CX [] H s₁ (fun _ _ _ => False) e s' → False) :
    codeAny (model P w) callerA (.call (.ref fa) ⟨[.ref a], []⟩)
      (fun r s' => r = .ok (.ret (.bool true)) ∧ OldK s₁.heap s'.heap ∧ s'.os = s₁.os ∧ AllBare s'.gens) s₁ := by
  have none_of : ∀ b, b ≠ a → H b = none := fun b hne => by
    cases q : H b with
    | none => rfl
    | some u => exact absurd (hA b (by rw [q]; simp)) hne
  have dict_ne : ∀ {b : Addr} {o : Obj} {es : Array DictEntry} {ep : Nat}, s₁.heap.get? b = some o → o.data = .dict es ep → b ≠ a := by
    intro b o es ep e d z
    rw [z, ha] at e
    cases e
    cases d
  have up : ∀ {b : Addr} {m : Str → Option Value}, s₁.heap.Ns b m → (hidT s₁.heap H).Ns b m := by
    rintro b m ⟨o, es, ep, e, d, r⟩
    exact ⟨o, es, ep, hidT_get e (none_of b (dict_ne e d)), d, r⟩
  have KB : K.In (hidT s₁.heap H) := by
    intro b o e
    refine hidT_get (KX b o e) ?_
    cases q : H b with
    | none => rfl
    | some u =>
      have nz : H b ≠ none := by rw [q]; simp
      have z := hA b nz
      rw [z] at nz e
      rw [hK nz] at e
      cases e
  have lim2 : (hidT s₁.heap H).NoLimit := by
    obtain ⟨mc, h1, h2⟩ := hlim
    exact ⟨mc, up h1, h2⟩
  have M : Mod K mg (hidT s₁.heap H) := ⟨KB, up hns, ⟨mb, up hb, hbb⟩, lim2⟩
  have e0 : Env0 P w K mg (hidT s₁.heap H) callerA [] s₁ H :=
    { frames := rfl, mod := M, bs := fun b o e => of_hidT e, bsz := Nat.le_of_eq (hidT_size _ _), funs := trivial, frf := fun b hb => (nomatch hb), hok := hok, bare := .of_eq hg }
  have G := (F _ KB (up hns)).run callerA [] s₁ H ⟨[.ref a], []⟩ [.ref a] [.ref a] _ _ rfl hr e0 (hbind s₁ (.ref a)) (.cons rfl .nil) hsp
  refine codeAny_mono G ?_
  intro r s' h
  match r, h with
  | .error e, h => exact (hCX e s' h).elim
  | .ok .next, h => exact False.elim h
  | .ok .brk, h => exact False.elim h
  | .ok .cont, h => exact False.elim h
  | .ok (.ret u), h =>
    obtain ⟨v, H', os, bare, un, hok', r', q⟩ := h
    have q' : v = .bl true := q
    rw [q'] at r'
    obtain rfl : u = Value.bool true := r'
    refine ⟨rfl, OldK.of_keep fun b o e => ?_, os, bare⟩
    rcases hO b with z | ⟨ob, xs, z⟩
    · exact un.keep b o e z (fun y => nomatch y) (fun y => nomatch y)
    · have z1 := (hok b _ z).1
      have z2 := (hok' b _ (un.frzs b ob _ z)).1
      rw [e] at z1
      cases z1
      exact z2
theorem law_callG (KX : K.In s₁.heap) (hns : s₁.heap.Ns mainGlobals mg) (hb : s₁.heap.Ns builtinsNs mb) (hbb : ∀ x : Str, x ≠ "__name__" → mb x = bootBuiltins x)
    (hlim : s₁.heap.NoLimit) (hg : s₁.gens = #[]) (ha : s₁.heap.get? a = some { cls := .type "list", data := .seq vs.toArray }) (hi : IntsAre vs ns) (hl : ns.length ≤ sizeLine)
    (hr : Room k callerA) (F : ∀ base : Heap, K.In base → base.Ns mainGlobals mg → FnG P w K mg base CX k fa fd [x] sp)
    (hbind : ∀ (s : Shared) (u : Value), BindsTo s fd ⟨[u], []⟩ [(x, u)])
    (hsp : ∀ H : Hp, Only H → SqL K H a (ns.map V.int) → sp [.ref a] H (fun v _ => v = .bl true) fun _ _ _ => False)
    (hCX : ∀ H e s', CX [] H s₁ (fun _ _ _ => False) e s' → False) :
    codeAny (model P w) callerA (.call (.ref fa) ⟨[.ref a], []⟩)
      (fun r s' => r = .ok (.ret (.bool true)) ∧ OldK s₁.heap s'.heap ∧ s'.os = s₁.os ∧ AllBare s'.gens) s₁ := by
  have rv := vals_ints hi
  have hz : vs.toArray.size ≤ sizeLine := by
    rw [List.size_toArray, hi.length]
    exact hl
  cases hk : K.lookup a with
  | some o =>
    have e := KX a o hk
    rw [ha] at e
    cases e
    have S : SqL K (fun _ => none) a (ns.map V.int) := .inr ⟨_, vs.toArray, _, hk, rfl, rfl, rfl, hz, by simpa using rv⟩
    exact law_from KX hns hb hbb hlim hg ha hr F hbind (fun _ => .inl rfl) S (fun b u z => nomatch (show (none : Option HO) = some u from z)) (fun b z => absurd rfl z)
      (fun z => absurd rfl z) (hsp _ (fun _ => .inl rfl) S) (hCX _)
  | none =>
    let L : HO := .frz { cls := .type "list", data := .seq vs.toArray } (.lst (ns.map V.int))
    let H : Hp := fun b => if b = a then some L else none
    have atA : H a = some L := if_pos rfl
    have off : ∀ b, b ≠ a → H b = none := fun b hb => if_neg hb
    have S : SqL K H a (ns.map V.int) := .inl (.inr ⟨{ cls := .type "list", data := .seq vs.toArray }, atA⟩)
    have O : Only H := fun b => by
      by_cases hb : b = a
      · rw [hb]
        exact .inr ⟨_, _, atA⟩
      · exact .inl (off b hb)
    refine law_from KX hns hb hbb hlim hg ha hr F hbind O S ?_ ?_ (fun _ => hk) (hsp _ O S) (hCX _)
    · intro b u z
      by_cases hb : b = a
      · rw [hb, atA] at z
        cases z
        rw [hb]
        exact ⟨ha, by rw [List.length_map]; exact hl, vs, _, rv, ha⟩
      · rw [off b hb] at z
        cases z
    · intro b z
      by_cases hb : b = a
      · exact hb
      · exact absurd (off b hb) z
theorem walk_G {l : PySem.W.OpenLaw} {n : Nat} {q : Program} {loose : List Str} {XP : (Str → Option Value) → Heap → Prop} {YP : World → Heap → Prop} {d : DefRec}
    (hn : l.most = some n) (hn2 : n ≤ sizeLine) (hdf : d.params.defaults = []) (hr : Room k callerA)
    (F : ∀ (w : World) (mg : Str → Option Value) (fa : Addr) (h : Heap), YP w h → h.Ns mainGlobals mg → mg d.name = some (.ref fa) →
      ∃ (K : PySem.W.Frag) (fd : FuncData) (sp : Sp), K.In h ∧ (∀ (s : Shared) (u : Value), BindsTo s fd ⟨[u], []⟩ [(x, u)]) ∧
        (∀ (H : Hp) (a : Addr) (ns : List Int), ns.length ≤ n → Only H → SqL K H a (ns.map V.int) → sp [.ref a] H (fun v _ => v = .bl true) fun _ _ _ => False) ∧
        ∀ base : Heap, K.In base → base.Ns mainGlobals mg → FnG l.prog w K mg base CX0 k fa fd [x] sp) :
    PySem.W.WalkO q loose XP YP l.row.toRowW d [] (fun f vs => PySem.call f vs) := by
  refine Att.attach_call hn hdf ?_
  intro w s₀ s₁ mg mb fa o pm cd doc a vs ns G Y ho hd hcd hmg hobj hints hlen hg
  obtain ⟨K, fd, sp, KX, hb, hsp, hF⟩ := F w mg fa _ Y G.T.g hmg
  exact law_callG KX G.T.g G.T.b G.T.builtins G.T.nolimit hg hobj hints (Nat.le_trans hlen hn2) hr hF hb (fun H hO hS => hsp H a ns hlen hO hS) fun _ _ _ z => z
end
end Ev

namespace Ev
open PySem PySem.Spec PyProof.Rows L2
/-! ### the __init__ of RunError: super().__init__(value); self.value = value -/
def iArgs (p1 p2 : Pos) : Arguments := { posonlyargs := [], args := [{ arg := "self", annotation := none, pos := p1 }, { arg := "value", annotation := none, pos := p2 }], vararg := none, kwonlyargs := [], kw_defaults := [], kwarg := none, defaults := [] }
def iBody (q : Nat → Pos) : List Stmt :=
  [.Expr (.Call (.Attribute (.Call (.Name "super" (q 0)) [] [] (q 1)) "__init__" (q 2)) [.Name "value" (q 3)] [] (q 4)) (q 5),
   .Assign [.Attribute (.Name "self" (q 6)) "value" (q 7)] (.Name "value" (q 8)) (q 9)]
def iScope : Scope := { kind := .function, names := [(Str.ofString "self", .local), (Str.ofString "value", .local), (Str.ofString "__class__", .free), (Str.ofString "super", .globalImplicit)], isGenerator := false, isCoroutine := false, more := [] }
abbrev iFn (p1 p2 : Pos) (q : Nat → Pos) (doc pm : Value) (an : Option Addr) (cda : Addr) (ct : Value) (cc : Addr) : FuncData :=
  PySem.W.ksFn "__init__" "RunError.__init__" (iArgs p1 p2) (iBody q) iScope .none .none doc pm an (.ref cda) ct cc
/-- its first statement, as a method's call -/
theorem super_call {q : Nat → Pos} {env : Env} (h : ((q 2).endLine == (q 4).line) = true) :
    eval (.Call (.Attribute (.Call (.Name "super" (q 0)) [] [] (q 1)) "__init__" (q 2)) [.Name "value" (q 3)] [] (q 4)) env = (do
      let ov ← attributeBase (.Call (.Name "super" (q 0)) [] [] (q 1)) "__init__" env (eval (.Call (.Name "super" (q 0)) [] [] (q 1)) env)
      standAt (q 2).atName
      let (f, first) ← holding [ov] (getMethod ov "__init__" (do return (← importBound (.Call (.Name "super" (q 0)) [] [] (q 1)) env).getD true))
      callWith (q 4) f first (backTo (q 4) (starEach [.Name "value" (q 3)] env)) []) := by
  have e : methodCallPos true (.Call (.Name "super" (q 0)) [] [] (q 1)) env (q 2) (q 4) = pure (q 4) := by
    unfold methodCallPos
    rw [h]
    rfl
  show (do
      let ov ← attributeBase (.Call (.Name "super" (q 0)) [] [] (q 1)) "__init__" env (eval (.Call (.Name "super" (q 0)) [] [] (q 1)) env)
      standAt (q 2).atName
      let (f, first) ← holding [ov] (getMethod ov "__init__" (do return (← importBound (.Call (.Name "super" (q 0)) [] [] (q 1)) env).getD true))
      let cp ← methodCallPos true (.Call (.Name "super" (q 0)) [] [] (q 1)) env (q 2) (q 4)
      callWith cp f first (backTo (q 4) (starEach [.Name "value" (q 3)] env)) []) = _
  rw [e]
  rfl
/-- what the written part says of RunError, at R, and of its __init__, at fI -/
structure ErrR (P : Program) (K : PySem.W.Frag) (R fI : Addr) (fd : FuncData) : Prop where
  fn : ∃ (oc : Value) (od : Option Addr) (doc pm : Value) (an : Option Addr) (cda : Addr) (ct : Value) (cc : Addr) (osl : Array (Option Value)) (p1 p2 : Pos) (q : Nat → Pos) (ccl : Value) (cdd : Option Addr) (vs : Array Value) (ccs : Array (Option Value)) (file : Str) (tf : Tok) (cl : Value) (cld : Option Addr) (csl : Array (Option Value)),
    ((q 2).endLine == (q 4).line) = true ∧ fd = iFn p1 p2 q doc pm an cda ct cc ∧ K.lookup fI = some ⟨oc, od, .func fd, osl⟩ ∧ PySem.W.codeIn K (.ref cda) "RunError.__init__" = true ∧
    K.lookup cda = some ⟨ccl, cdd, .fields vs, ccs⟩ ∧ vs[2]? = some (.str file tf) ∧ ((P.main.file : Str) == file) = true ∧
    K.lookup cc = some ⟨cl, cld, .cell (some (.ref R)), csl⟩
  cls : ∃ cd, PySem.W.clsIn K R = some cd
  free : PySem.W.nsIn K mainGlobals "super" = some none
  opq : PySem.W.nsIn K cStatics "thirdparty.any" = some none
  top : (P.main.scope.names.lookup ("super" : Str)).isSome = false
  ty : PySem.W.typeIn K (.ref fI) = some (.type "function")
  spc : PySem.W.specialIn K (.builtin "object.__class__") "__get__" = some (some (.builtin "getset_descriptor.__get__"))
  tak : PySem.W.takesIn K (.builtin "object.__class__") = some true
/-- .. of an error's class, at C -/
structure ErrC (K : PySem.W.Frag) (R fI C : Addr) : Prop where
  oex : OexC K C
  ini : PySem.W.findIn K (.ref C) "__init__" = some (some (.ref fI))
  noV : PySem.W.findIn K (.ref C) "value" = some none
  subR : PySem.W.mroIn K C (.ref R) = some true
  sup : PySem.W.ks_superIn K C R "__init__" = some (some (.builtin "ValueError.__init__"))
  subV : PySem.W.subIn K (.ref C) (.type "ValueError") = some true
  ga : PySem.W.findIn K (.ref C) "__getattribute__" = some (some (.builtin "BaseException.__getattribute__"))
  gg : PySem.W.findIn K (.ref C) "__getattr__" = some none
  hd : PySem.W.hasDictIn K C = true
  hcl : PySem.W.findIn K (.ref C) "__class__" = some (some (.builtin "object.__class__"))
  hob : PySem.W.mroIn K C (.type "object") = some true
section
open PySem.W PySem.Calls
variable {prog : Program} {w : World} {A : Around} {E : Value → Shared → Prop} {h : Heap} {g : Array GenState} {d : Drawn} {t : Nat} {os : OsState}
variable {nm q : Str} {C N : Addr} {bs bm : List Value} {hdct : Bool} {sn : List Str} {sub : List Value} {ab : Bool} {col : Option Bool} {dd : Option Addr} {k0 k1 k2 k3 k5 : Option Value}
/-- the bound built-in __init__ is called -/
theorem call_mw {u e t0 : Addr} {rest : List Value} {Q : Value → Shared → Prop} (hC : h.get? C = some (excClassObj nm q C N bs bm hdct sn sub ab col dd k0 k1 k2 k3 k5 "ValueError.__new__"))
    (he : h.get? e = some (HandSPX.excO C t0)) (hu : h.get? u = some (kxs_mw "ValueError.__init__" e)) (hrest : rest.length ≤ sizeLine)
    (hq : ∀ h' t1, (∀ b o, b ≠ e → h.get? b = some o → h'.get? b = some o) → h'.get? e = some (HandSPX.excO C t1) → Q .none ⟨h', g, d, t, os⟩) :
    wpAny (model prog w) A (call (.ref u) rest) Q E ⟨h, g, d, t, os⟩ := by
  refine wpAny_call (codeAny_of_tree ?_)
  show wpAny _ A.in1 (callAny (.ref u) ⟨rest, []⟩) _ _ _
  simp only [callAny]
  refine wpAny_bind (wpAny_load hu ?_)
  simp only [kxs_mw, show (Value.type "method-wrapper" == Value.type "method" || Value.type "method-wrapper" == Value.type "builtin_function_or_method" || Value.type "method-wrapper" == Value.type "method-wrapper") = true by decide, if_true]
  refine KFB.if_so (by decide) ?_
  refine wpAny_bind (check_bound_init F.excBase_ValueError.toExcCallFacts hC he rfl ?_)
  refine wpAny_bind (wpAny_pure (wpAny_pure ?_))
  refine ⟨plainId_quiet F.excBase_ValueError.init.plain _, codeAny_builtin F.excBase_ValueError.initEntry ?_⟩
  exact exc_init_tree (cls := .ref C) (t0 := t0) (dv := none) (c2 := .none) (c3 := .none) (b4 := .bool false) he hrest fun h' k e1 _ => hq h' _ k e1
end
end Ev

namespace Ev
open PySem PySem.Spec PyProof.Rows L2
section
open PySem.W PySem.Calls
variable {P : Program} {w : World} {A : Around} {K : PySem.W.Frag} {mg mb : Str → Option Value} {R fI C : Addr} {fd : FuncData} {s : Shared} {Z : Result → Shared → Prop}
theorem init_run (T : ErrR P K R fI fd) (TC : ErrC K R fI C) {x t0 : Addr} {v : Value} (X : K.In s.heap) (hg : s.heap.Ns mainGlobals mg) (hb : s.heap.Ns builtinsNs mb)
    (hbb : ∀ y : Str, y ≠ "__name__" → mb y = bootBuiltins y) (hlim : s.heap.NoLimit) (hx : s.heap.get? x = some (HandSPX.excO C t0)) (hnx : K.lookup x = none) (hroom : A.depth < recursionLimit) {args : Args}
    (hbi : BindsTo s fd args [("self", .ref x), ("value", v)])
    (hq : ∀ h' tk dx t1, (∀ b o, b ≠ x → s.heap.get? b = some o → h'.get? b = some o) → s.heap.objs.size ≤ dx → dx ≠ x →
      h'.get? x = some { cls := .ref C, dict := some dx, data := .fields #[.ref t1, .none, .none, .none, .bool false, .none] } →
      h'.Ns1 dx (fun y => if y = "value" then some v else none) → Z (.ok (.ret .none)) { s with heap := h', toks := tk }) :
    codeAny (model P w) A (.call (.ref fI) args) Z s := by
  obtain ⟨oc, od, doc, pm, an, cda, ct, cc, osl, p1, p2, q, ccl, cdd, vs, ccs, file, tf, cl, cld, csl, hqe, rfl, lk, hcd, lcd, hvs, hfile, lcc⟩ := T.fn
  obtain ⟨cdR, hR⟩ := T.cls
  obtain ⟨nm, qn, N, bs, bm, sn, sub, ab, col, dd, k0, k1, k2, k3, k5, hC, hbm⟩ := TC.oex.cls
  have hcl : clsIn K C = some { name := nm, bases := bs, mro := .ref C :: bm, ns := N, qualname := qn, hasDict := true, slotNames := sn, subclasses := sub, abstract := ab, collection := col, hasDel := false } := by
    unfold clsIn
    rw [hC] <;> rfl
  obtain ⟨oR, hR1, hR2⟩ : ∃ oR, K.lookup R = some oR ∧ oR.data = .cls cdR := by
    unfold clsIn at hR
    split at hR
    · rename_i c dq cd' sl ho
      cases hR
      exact ⟨_, ho, rfl⟩
    · cases hR
  have hxC : x ≠ C := by
    rintro rfl
    have e := X _ _ hC
    rw [hx] at e
    cases e
  have hloc : ∀ y ∈ [(Str.ofString "self", Value.ref x), (Str.ofString "value", v)], iScope.names.lookup y.1 = some .local := by
    intro y hy
    rcases List.mem_cons.mp hy with rfl | hy
    · rfl
    · rcases List.mem_cons.mp hy with rfl | hy
      · rfl
      · cases hy
  have hcell : ∀ y ∈ iScope.names, y.2 ≠ NameKind.cell := by decide +kernel
  refine ks_codeAny_call_defAt hroom (X _ _ lk) rfl hlim (codeRec_of X hcd) rfl hbi hcell hloc (fun h₁ hns k₁ => ?_)
  have X₁ : K.In h₁ := X.keeps k₁
  have hx₁ := k₁ _ _ hx
  have I₁ : InstAt h₁ x (HandSPX.excO C t0) C none := ⟨hx₁, rfl, rfl, trivial⟩
  refine ks_wpAt_execs_cons (ks_wpAt_Expr_any (ks_wpAt_MethodCall (pl := (do return (← importBound (.Call (.Name "super" (q 0)) [] [] (q 1)) (callEnv (iFn p1 p2 q doc pm an cda ct cc) s.heap.objs.size fI)).getD true)) ?_ (super_call hqe)))
  refine ks_wpAt_super_base (by rfl) (by rfl) (by decide) rfl (X₁ _ _ lk) rfl (ar := { arg := "self", annotation := none, pos := p1 }) rfl rfl (X₁ _ _ lcd) rfl hvs hfile T.top ?_
  refine ks_loadName_global rfl (by rfl) (loadGlobal_builtin (hg.keeps k₁) (mg_none_of X hg T.free) (hb.keeps k₁) ((hbb _ (by decide +kernel)).trans (by decide +kernel)) ⟨rfl, ?_⟩)
  refine wpAny_loadName_free rfl (by rfl) (by rfl) ⟨_, X₁ _ _ lcc, rfl⟩ ?_
  refine wpAny_loadName_local rfl (by rfl) hns (by rfl) ?_
  refine ks_wpAny_isType_cls (X₁ _ _ hR1) hR2 ⟨rfl, ?_⟩
  refine ks_wpAny_call_super (X₁ _ _ hR1) hR2 hx₁ rfl (fun c e => by cases e) (looks_mroIn X₁ TC.subR) (fun h₂ hso k₂ => ?_)
  have X₂ : K.In h₂ := X₁.keeps k₂
  have hx₂ := k₂ _ _ hx₁
  have I₂ : InstAt h₂ x (HandSPX.excO C t0) C none := ⟨hx₂, rfl, rfl, trivial⟩
  have hsup := TC.sup
  unfold ks_superIn at hsup
  rw [hcl, Option.bind_some] at hsup
  refine kxs_getMethod kxs_ValueError hso (looks_opaque X₂ T.opq) (l₀ := .ref C :: bm) ((looks_clsIn X₂ hcl).andThen .now) rfl X₂ hsup (I₂.type.andThen (looks_subIn X₂ TC.subV)) hxC (by decide) ?_
  have k₃ : ∀ b o, h₂.get? b = some o → (h₂.push (kxs_mw "ValueError.__init__" x)).get? b = some o := fun b o e => Heap.get?_push_of_some _ e
  have hu₃ : (h₂.push (kxs_mw "ValueError.__init__" x)).get? h₂.objs.size = some (kxs_mw "ValueError.__init__" x) := Heap.get?_push_at rfl rfl
  have hns₃ : (h₂.push (kxs_mw "ValueError.__init__" x)).Ns s.heap.objs.size _ := (hns.keeps k₂).keeps k₃
  refine kxs_callWith (i := "ValueError.__init__") (x := x) rfl (evalArgs_plain ?_)
  refine spliced_cons ?_
  refine wpAny_Name (wpAny_loadName_local rfl (by rfl) hns₃ (by rfl) ?_) (by decide)
  refine spliced_nil ⟨hu₃, ?_⟩
  show wpAny _ _ (call (.ref h₂.objs.size) [v]) _ _ _
  refine call_mw (k₃ _ _ (X₂ _ _ hC)) (k₃ _ _ hx₂) hu₃ (by rw [sizeLine_eq]; exact (by decide : 1 ≤ 16777216)) (fun h₄ t1 k₄ hx₄ => ?_)
  have old : ∀ b o, b ≠ x → s.heap.get? b = some o → h₄.get? b = some o := fun b o hbx e => k₄ b o hbx (k₃ b o (k₂ b o (k₁ b o e)))
  have X₄ : K.In h₄ := fun b o e => old b o (fun z => by
    rw [z, hnx] at e
    cases e) (X b o e)
  have hLx : s.heap.objs.size ≠ x := Nat.ne_of_gt (Heap.lt_size hx)
  have hns₄ : h₄.Ns s.heap.objs.size (fun y => [(Str.ofString "self", Value.ref x), (Str.ofString "value", v)].reverse.lookup y) := by
    obtain ⟨o, es, ep, e, r⟩ := hns₃
    exact ⟨o, es, ep, k₄ _ _ hLx e, r⟩
  have hsz : s.heap.objs.size < h₄.objs.size := hns₄.lt
  refine wpAt_of_wpAny ?_
  refine wpAny_execs_cons (plainObj_wpAny_Assign_Attribute ?_)
  refine wpAny_Name (wpAny_loadName_local rfl (by rfl) hns₄ (by rfl) ?_) (by decide)
  refine wpAny_Name (wpAny_loadName_local rfl (by rfl) hns₄ (by rfl) ?_) (by decide)
  refine set_plain X₄ (ox := HandSPX.excO C t1) (od := none) ⟨hx₄, rfl, rfl, trivial⟩ TC.oex.sa ?_
  refine HandSPX.exc_osa X₄ hx₄ hcl (show HandSPX.refsVE (.ref C :: bm) = true from hbm) rfl TC.noV (fun h₅ tk₅ dx k₅ dn dne hx₅ hn₅ => ?_)
  refine wpAny_execs_nil ?_
  exact hq h₅ tk₅ dx t1 (fun b o hb e => k₅ b o hb (old b o hb e)) (Nat.le_trans (Nat.le_of_lt hsz) dn) dne hx₅ hn₅
end
section
variable {P : Program} {w : World} {K : PySem.W.Frag} {mg : Str → Option Value} {base : Heap} {CX : CXT} {k : Nat} {R fI C : Addr} {fd : FuncData}
def spErr (K : PySem.W.Frag) (R fI : Addr) : Sp := fun vs H Q _ => ∃ (a C : Addr) (v : V), vs = [.ref a, v] ∧ ErrC K R fI C ∧ H a = some (exo a C none) ∧
  ∀ dx, H dx = none → dx ≠ a → Q .non (upd (upd H dx (exd dx [("value", v)])) a (exo a C (some dx)))
theorem ok_init (T : ErrR P K R fI fd) : FnOk P w K mg base CX (k + 1) fI fd ["self", "value"] (spErr K R fI) := by
  constructor
  · rintro vs H Q E ⟨a, C, v, rfl, _⟩
    rfl
  rintro A outer s H args us vs Q E hr e0 hb rv ⟨a, C, v, rfl, TC, ea, hq⟩
  match us, rv with
  | [u0, u1], .cons r0 (.cons r1 .nil) =>
  obtain rfl : u0 = Value.ref a := r0
  have old : ∀ b o, base.get? b = some o → s.heap.get? b = some o := fun b o e => (e0.bs b o e).1
  have X : K.In s.heap := e0.mod.kin.keeps old
  obtain ⟨t0, hx⟩ := exo_at e0.hok ea
  obtain ⟨mb, hbl, hbb⟩ := e0.mod.blt
  have hnx : K.lookup a = none := by
    cases z : K.lookup a with
    | none => rfl
    | some o =>
      have y := (e0.bs a o (e0.mod.kin a o z)).2
      rw [ea] at y
      cases y
  refine init_run T TC X (e0.mod.glob.keeps old) (hbl.keeps old) hbb (e0.mod.nolimit.keeps old) hx hnx hr.depth (by simpa using hb) (fun h' tk dx t1 kp dn dne hx' hn' => ?_)
  have hnd : H dx = none := e0.hok.fresh dn
  have nd : ∀ {b : Addr} {o : Obj}, s.heap.get? b = some o → b ≠ dx := fun {b o} q => Nat.ne_of_lt (Nat.lt_of_lt_of_le (Heap.lt_size q) dn)
  have na : ∀ {b : Addr}, H b = none → b ≠ a := fun {b} n z => by
    rw [z, ea] at n
    cases n
  refine ⟨.non, upd (upd H dx (exd dx [("value", v)])) a (exo a C (some dx)), rfl, e0.bare, ?_, ?_, rfl, hq dx hnd dne⟩
  · constructor
    · exact fun b o q n _ _ => kp b o (na n) q
    · exact fun b o q n _ _ => ⟨o.slots, kp b o (na n) q⟩
    · intro b o q n _
      rw [upd_ne (na n), upd_ne (nd q)]
      exact n
    · intro b o q _
      by_cases hba : b = a
      · rw [hba]
        exact ⟨_, hx'⟩
      · exact ⟨o, kp b o hba q⟩
    · intro b xs q
      rw [upd_ne (at_ne ea q exo_tup), upd_ne (ne_of_none q hnd)]
      exact q
    · intro b o u q
      rw [upd_ne (at_ne ea q exo_frz), upd_ne (ne_of_none q hnd)]
      exact q
    · intro b ps q
      refine ⟨#[], ?_⟩
      rw [upd_ne (at_ne ea q exo_tbl), upd_ne (ne_of_none q hnd), q]
      simp
  · intro b o q
    by_cases hba : b = a
    · rw [hba, upd_same] at q
      cases q
      rw [hba]
      exact exo_ok hx'
    rw [upd_ne hba] at q
    by_cases hbd : b = dx
    · rw [hbd, upd_same] at q
      cases q
      rw [hbd]
      exact exd_ok hn' (relO_put (fs := []) r1 fun g => True.intro)
    rw [upd_ne hbd] at q
    refine (e0.hok b o q).stay ?_ ?_ ?_
    · intro c u hc z
      refine kp c u ?_ z
      cases hc with
      | inl hc => rw [hc]; exact hba
      | inr hc => exact at_ne ea hc exo_own
    · intro c hc
      rw [upd_ne (at_ne ea hc exo_own), upd_ne (ne_of_none hc hnd)]
      exact hc
    · intro c xs hc
      rw [upd_ne (at_ne ea hc exo_tup), upd_ne (ne_of_none hc hnd)]
      exact hc
theorem binds_init (T : ErrR P K R fI fd) : Binds K fd ["self", "value"] [] := by
  obtain ⟨oc, od, doc, pm, an, cda, ct, cc, osl, p1, p2, q, ccl, cdd, vs, ccs, file, tf, cl, cld, csl, hqe, rfl, lk, hcd, lcd, hvs, hfile, lcc⟩ := T.fn
  exact .all fun us hl => match us, hl with
    | [_, _], _ => by first | rfl | with_unfolding_all rfl
end
end Ev

namespace Ev
open PySem PySem.Spec PyProof.Rows L2
/-! ### errors made: raised, or held as values -/
/-- X(e), to be raised -/
abbrev tMkE (K : PySem.W.Frag) (R fI C : Addr) (te : TE) : L2.St → Hp → XK → Prop := tMkO C (spErr K R fI) [] (tCons te tNil)
/-- X(e), a value: the error at a, its dict at d -/
def tErr (C : Addr) (te : TE) : TE := fun σ H Q => te σ H fun v H1 => ∀ a d, H1 a = none → H1 d = none → d ≠ a → Q (.ref a) (upd (upd H1 d (exd d [("value", v)])) a (exo a C (some d)))
/-- o.value, o an error that is held as a value -/
def tValue (K : PySem.W.Frag) (R fI : Addr) (te : TE) : TE := fun σ H Q => te σ H fun x H1 => ∃ (a C d : Addr) (v : V), x = .ref a ∧ ErrC K R fI C ∧ H1 a = some (exo a C (some d)) ∧ H1 d = some (exd d [("value", v)]) ∧ Q v H1
theorem made_eq {H : Hp} {a d : Addr} {o1 o2 o3 o4 : HO} (ha : H a = none) (hd : d ≠ a) :
    upd (del (upd (upd (upd H a o1) d o2) a o3) a) d o4 = upd H d o4 := by
  funext b
  by_cases hbd : b = d
  · rw [hbd, upd_same, upd_same]
  · rw [upd_ne hbd, upd_ne hbd]
    by_cases hba : b = a
    · rw [hba, del_same, ha]
    · rw [del_ne hba, upd_ne hba, upd_ne hbd, upd_ne hba]
theorem made_eq2 {H : Hp} {a d : Addr} {o1 o2 o3 : HO} (hd : d ≠ a) : upd (upd (upd H a o1) d o2) a o3 = upd (upd H d o2) a o3 := by
  funext b
  by_cases hba : b = a
  · rw [hba, upd_same, upd_same]
  · rw [upd_ne hba, upd_ne hba]
    by_cases hbd : b = d
    · rw [hbd, upd_same, upd_same]
    · rw [upd_ne hbd, upd_ne hbd, upd_ne hba]
/-- what the making of an error asks -/
theorem mkE {K : PySem.W.Frag} {R fI C : Addr} {v : V} {H1 : Hp} {Q : XK} {E : XK} (TC : ErrC K R fI C) (h : ∀ d, H1 d = none → Q (.ref C) (some d) (upd H1 d (.xd [("value", v)]))) :
    [v].length ≤ 1000 ∧ ∀ a, H1 a = none → spErr K R fI (.ref a :: ([v] ++ [])) (upd H1 a (exo a C none))
      (fun v H2 => v = .non ∧ ∃ (d : Addr) (fs : List (Str × V)), H2 a = some (exo a C (some d)) ∧ H2 d = some (exd d fs) ∧ H1 d = none ∧ Q (.ref C) (some d) (upd (del H2 a) d (.xd fs))) E := by
  refine ⟨by show 1 ≤ 1000; decide, fun a ha => ⟨a, C, v, rfl, TC, upd_same, fun d hd hda => ⟨rfl, d, [("value", v)], upd_same, ?_, ?_, ?_⟩⟩⟩
  · rw [upd_ne hda, upd_same]
  · rw [upd_ne hda] at hd
    exact hd
  · rw [upd_ne hda] at hd
    rw [made_eq ha hda]
    exact h d hd
section
variable {X : Cx} {R fI C : Addr} {fd : FuncData} {e : Expr} {te : TE} {x : Str} {p pos : Pos} {k : Nat}
theorem pmk_err (T : ErrR X.prog X.K R fI fd) (TC : ErrC X.K R fI C) (hr : Room (k + 2) X.A) (hg : Gl X x) (hm : X.mg x = some (.ref C)) (he : PE X e te)
    (hdb : (x == ("__debug__" : Str)) = false := by decide) (hs : starEach [e] X.env = (false, eval e X.env) :: starEach [] X.env := by rfl) :
    PMk X (.Call (.Name x p) [e] [] pos) (tMkE X.K R fI C te) :=
  pmk_oex (p := p) (pos := pos) TC.oex TC.ini T.ty (ok_init (w := X.w) (mg := X.mg) (base := X.base) (CX := CX0) (k := k) T) hr (binds_init T) .nil
    (fun _ _ _ _ _ _ _ z => z.elim) hg hm (pa_cons he pa_nil hs) hdb hs rfl
theorem pe_err (T : ErrR X.prog X.K R fI fd) (TC : ErrC X.K R fI C) (hr : Room (k + 2) X.A) (hg : Gl X x) (hm : X.mg x = some (.ref C)) (he : PE X e te)
    (hdb : (x == ("__debug__" : Str)) = false := by decide) (hs : starEach [e] X.env = (false, eval e X.env) :: starEach [] X.env := by rfl) :
    PE X (.Call (.Name x p) [e] [] pos) (tErr C te) := by
  have ha : PA X [e] (tCons te tNil) := pa_cons he pa_nil hs
  have G : FnOk X.prog X.w X.K X.mg X.base CX0 (k + 1) fI fd ["self", "value"] (spErr X.K R fI) := ok_init T
  have hb := binds_init T
  constructor
  intro pins s σ H Q I h
  obtain ⟨nm, q, N, bs, bm, sn, sub, ab, col, dd, k0, k1, k2, k3, k5, hC, hbm⟩ := TC.oex.cls
  refine wpAny_Call_Name_kw (ld_glob I hg hm ?_ hdb)
  let W : List V → Hp → Prop := fun vs H1 => match vs with
    | [v] => ∀ a d, H1 a = none → H1 d = none → d ≠ a → Q (.ref a) (upd (upd H1 d (exd d [("value", v)])) a (exo a C (some d)))
    | _ => False
  refine PySem.W.callWith_K (h₀ := X.base) I.ok.mod.kin TC.oex.kC (thn (ha.run pos pins s σ H W I h) ?_) hs rfl
  rintro us s1 ⟨vs, H1, I1, r1, hq⟩
  match vs, us, r1, hq with
  | [v], [u], .cons rv .nil, hq =>
  refine ⟨I1.kIn, ?_⟩
  show wpAny _ _ (call (.ref C) [u]) _ _ _
  obtain ⟨hp, g, dr, tk, os⟩ := s1
  have old : ∀ b o, hp.get? b = some o → ((hp.push (PySem.W.kdv_tup [u])).push (PySem.HandSPX.excO C hp.objs.size)).get? b = some o :=
    fun b o z => Heap.get?_push_of_some _ (Heap.get?_push_of_some _ z)
  have hget : ((hp.push (PySem.W.kdv_tup [u])).push (PySem.HandSPX.excO C hp.objs.size)).get? (hp.objs.size + 1) = some (PySem.HandSPX.excO C hp.objs.size) := by heap_get
  have hn : H1 (hp.objs.size + 1) = none := I1.hok.fresh (Nat.le_succ _)
  have I2 : Inv X pins σ (upd H1 (hp.objs.size + 1) (exo (hp.objs.size + 1) C none)) ⟨(hp.push (PySem.W.kdv_tup [u])).push (PySem.HandSPX.excO C hp.objs.size), g, dr, tk, os⟩ :=
    I1.laid (t' := tk) (a := hp.objs.size + 1) (h' := (hp.push (PySem.W.kdv_tup [u])).push (PySem.HandSPX.excO C hp.objs.size)) old (Nat.le_succ _) (exo_ok hget)
  have S : spErr X.K R fI [.ref (hp.objs.size + 1), v] (upd H1 (hp.objs.size + 1) (exo (hp.objs.size + 1) C none))
      (fun z H2 => z = .non ∧ Q (.ref (hp.objs.size + 1)) H2) E0 := by
    refine ⟨_, C, v, rfl, TC, upd_same, fun d hd hda => ⟨rfl, ?_⟩⟩
    rw [upd_ne hda] at hd
    rw [made_eq2 hda]
    exact hq _ d hn hd hda
  refine wpAny_call (PySem.HandSPX.call_own F.excBase_ValueError (fun Y => PySem.HandSPX.refsVE_contains Y bm hbm) (I1.kIn _ _ hC) (PySem.W.looks_findIn I1.kIn TC.ini)
    (fun self => PySem.W.bind_fn I1.kIn self T.ty) (by rw [sizeLine_eq]; exact (by decide : 1 ≤ 16777216)) ?_)
  refine codeAny_mono (G.run _ X.stack _ _ ⟨[.ref (hp.objs.size + 1), u], []⟩ [.ref (hp.objs.size + 1), u] _ _ E0 (hr.make C [u] []) (I2.env0.make C [u] [])
    (hb _ [.ref (hp.objs.size + 1), u] I2.kIn rfl) (show Vals [V.ref (hp.objs.size + 1), v] _ from .cons rfl (.cons rv .nil)) S) ?_
  intro r s' hq'
  match r, hq' with
  | .error er, hq' => exact False.elim hq'
  | .ok .next, hq' => exact False.elim hq'
  | .ok .brk, hq' => exact False.elim hq'
  | .ok .cont, hq' => exact False.elim hq'
  | .ok (.ret z), hq' =>
    obtain ⟨v0, H2, os2, bare2, un2, hok2, r0, e0, q0⟩ := hq'
    rw [e0] at r0
    refine ⟨r0, ?_⟩
    have D := I2.after (Q := fun y H2 => Q y H2) (u := .ref (hp.objs.size + 1)) ⟨.ref (hp.objs.size + 1), H2, os2, bare2, un2, hok2, rfl, q0⟩
    exact D
theorem pe_value (T : ErrR X.prog X.K R fI fd) {o : Expr} {to : TE} (ho : PE X o to) (hb : attributeBase o "value" X.env (eval o X.env) = eval o X.env := by rfl) :
    PE X (.Attribute o "value" pos) (tValue X.K R fI to) := by
  constructor
  intro pins s σ H Q I h
  refine attr_of hb (thn (ho.run pins s σ H _ I h) ?_)
  rintro u s1 ⟨x, H1, I1, rx, a, C, d, v, rfl, TC, ea, ed, q⟩
  obtain rfl : u = Value.ref a := rx
  obtain ⟨t1, hoe⟩ := exo_at I1.hok ea
  obtain ⟨mA, hns, rel⟩ := exd_at I1.hok ed
  obtain ⟨od, hod, hl⟩ := lookIn_ns hns
  have l : List.lookup ("value" : Str) [(("value" : Str), v)] = some v := by simp [List.lookup]
  obtain ⟨u2, hu, ru⟩ := RelO.some_of (v := v) (o := mA "value") (by rw [← l]; exact rel "value")
  have J : PySem.W.InstAt s1.heap a _ C (some od) := ⟨hoe, rfl, rfl, hod⟩
  exact HandSPX.exc_get I1.kIn J TC.ga TC.gg TC.oex.exC (PySem.W.findObj_own TC.hd TC.noV rfl (by rw [hl, hu])) (handed_of ru) ⟨v, H1, I1.tok _, ru, q⟩
/-- isinstance(o, c), o an error that is held as a value -/
def rIsiE (K : PySem.W.Frag) (R fI : Addr) : List V → Hp → VK → Prop := fun xs H Q => ∃ (a C d : Addr) (c : V) (fs : List (Str × V)) (u : Value) (b : Bool), xs = [.ref a, c] ∧ ClsV c u ∧ ErrC K R fI C ∧ H a = some (exo a C (some d)) ∧ H d = some (exd d fs) ∧
  PySem.W.kitOne K (.ref C) u = some b ∧ Q (.bl b) H
theorem call_isiE (T : ErrR X.prog X.K R fI fd) : CallR X (.builtin "isinstance") (rIsiE X.K R fI) := by
  intro pins s σ H xs us Q I r h
  obtain ⟨a, C, d, c, fs, u, b, rfl, k, TC, ea, ed, e, q⟩ := h
  obtain ⟨u1, u2, rfl, r1, r2⟩ := vals2 r
  have e2 := k.eq r2
  subst e2
  obtain rfl : u1 = Value.ref a := r1
  obtain ⟨t1, hoe⟩ := exo_at I.hok ea
  obtain ⟨mA, hns, rel⟩ := exd_at I.hok ed
  obtain ⟨od, hod, hl⟩ := lookIn_ns hns
  have J : PySem.W.InstAt s.heap a _ C (some od) := ⟨hoe, rfl, rfl, hod⟩
  have hcs : (PySem.W.clsIn X.K C).isSome = true := by
    obtain ⟨cd, hc, _⟩ := PySem.W.any_some TC.hd
    rw [hc]
    rfl
  exact PySem.W.kia_one (PySem.W.kitx_exc hcs TC.ga TC.gg TC.oex.exC TC.hcl T.spc T.tak TC.hob) I.kIn J e (fun z => nomatch z) fun tk => ⟨.bl b, H, I.tok tk, rfl, q⟩
end
end Ev

namespace Ev
open PySem PySem.Spec PyProof.Rows L2
/-! ### words about heaps -/
/-- all that was tracked stands, but for the object at p -/
def KB (p : Addr) (H H' : Hp) : Prop := ∀ b o, b ≠ p → H b = some o → H' b = some o
theorem KB.refl {p : Addr} {H : Hp} : KB p H H := fun _ _ _ e => e
theorem KB.trans {p : Addr} {H H1 H2 : Hp} (a : KB p H H1) (b : KB p H1 H2) : KB p H H2 := fun c o n e => b c o n (a c o n e)
theorem KB.of_same {p : Addr} {H H' : Hp} (s : Same H H') : KB p H H' := fun b o _ e => s b o e
theorem KB.new {p q : Addr} {H : Hp} {o : HO} (h : H q = none) : KB p H (upd H q o) := fun b u _ e => by
  rw [upd_ne (ne_of_none e h)]
  exact e
theorem KB.at {p : Addr} {H : Hp} {o : HO} : KB p H (upd H p o) := fun b u n e => by
  rw [upd_ne n]
  exact e
theorem same_new {H : Hp} {p : Addr} {o : HO} (h : H p = none) : Same H (upd H p o) := fun b x e => by
  rw [upd_ne (ne_of_none e h)]
  exact e
theorem same_back {H H' : Hp} {p : Addr} (s : Same H H') (h : H' p = none) : H p = none := by
  cases e : H p with
  | none => rfl
  | some o =>
    rw [s p o e] at h
    cases h
theorem KB.same {p : Addr} {H H1 H2 : Hp} (a : Same H H1) (n : H p = none) (b : KB p H1 H2) : Same H H2 := fun c o e => b c o (ne_of_none e n) (a c o e)
theorem KB.sq {K : PySem.W.Frag} {p a : Addr} {H H' : Hp} {xs : List V} (b : KB p H H') (h : SqL K H a xs) (n : a ≠ p) : SqL K H' a xs := by
  rcases h with (h | ⟨o, h⟩) | h
  · exact .inl (.inl (b a _ n h))
  · exact .inl (.inr ⟨o, b a _ n h⟩)
  · exact .inr h
/-! ### a pot of draws: n more can be taken -/
def Pot (n : Nat) (H : Hp) (p : Addr) : Prop := ∃ o m c : Int, H p = some (.lst [.int o, .int m, .int c]) ∧ 0 ≤ o ∧ 0 ≤ m ∧ m < 2305843009213693921 ∧ 0 ≤ c ∧ c + n ≤ 1048576
theorem Pot.less {n k : Nat} {H : Hp} {p : Addr} (h : Pot n H p) (q : k ≤ n) : Pot k H p := by
  obtain ⟨o, m, c, h1, h2, h3, h4, h5, h6⟩ := h
  exact ⟨o, m, c, h1, h2, h3, h4, h5, by omega⟩
theorem Pot.keep {n : Nat} {H H' : Hp} {p : Addr} (h : Pot n H p) (s : ∀ o, H p = some o → H' p = some o) : Pot n H' p := by
  obtain ⟨o, m, c, h1, h2⟩ := h
  exact ⟨o, m, c, s _ h1, h2⟩
theorem Pot.there {n : Nat} {H : Hp} {p : Addr} (h : Pot n H p) : ∃ xs, H p = some (.lst xs) := by
  obtain ⟨o, m, c, h1, _⟩ := h
  exact ⟨_, h1⟩
theorem Pot.ne {n : Nat} {H : Hp} {p q : Addr} (h : Pot n H p) (e : H q = none) : q ≠ p := by
  obtain ⟨o, m, c, h1, _⟩ := h
  intro z
  rw [z, h1] at e
  cases e
/-- pot of a cell -/
def spPot (K : PySem.W.Frag) : Sp := fun vs H Q _ => ∃ (a : Addr) (ns : List Int) (j : Nat), vs = [.ref a, .int j] ∧ SqL K H a (ns.map V.int) ∧ j ≤ 63 ∧
  ∀ p H', H p = none → Same H H' → Pot 1048576 H' p → Q (.ref p) H'
/-- a draw below u -/
def spTake : Sp := fun vs H Q _ => ∃ (p : Addr) (n : Nat) (u : Int), vs = [.ref p, .int u] ∧ 1 ≤ u ∧ u ≤ 1000000 ∧ Pot (n + 1) H p ∧
  ∀ (d : Int) H', 0 ≤ d → d < u → KB p H H' → Pot n H' p → Q (.int d) H'
theorem op_powW {X : Cx} : OpR X (binaryOp .Pow) (rI (fun i j => 0 ≤ j ∧ (Builtin.Int.intBits i : Int) * j ≤ 2 ^ 27) fun i j => .int (i ^ j.toNat)) :=
  opI fun _ _ _ _ _ _ _ hc q => pow_int hc.1 hc.2 q
end Ev
namespace Ev
open PySem PySem.Spec PyProof.Rows L2
/-- one of some things of a list -/
def spOf (K : PySem.W.Frag) : Sp := fun vs H Q _ => ∃ (p a : Addr) (n : Nat) (xs : List V), vs = [.ref p, .ref a] ∧ a ≠ p ∧ SqL K H a xs ∧ 1 ≤ xs.length ∧ xs.length ≤ 100000 ∧ Pot (n + 1) H p ∧
  ∀ (v : V) H', v ∈ xs → KB p H H' → Pot n H' p → Q v H'
theorem at_mem {xs : List V} {d : Int} (h0 : 0 ≤ d) (h1 : d < xs.length) : ∃ v, atI xs d = some v ∧ v ∈ xs := by
  obtain ⟨j, rfl⟩ : ∃ j : Nat, d = (j : Int) := ⟨d.toNat, by omega⟩
  have hj : j < xs.length := by omega
  exact ⟨xs[j], atI_nat (List.getElem?_eq_getElem hj), List.getElem_mem hj⟩
end Ev

namespace Ev
open PySem PySem.Spec PyProof.Rows L2
/-! ### data stands where the heap stands -/
mutual
theorem Rp.mono {K : PySem.W.Frag} {H H' : Hp} (s : Same H H') : ∀ {v : V} {d : PyData}, Rp K H v d → Rp K H' v d
  | _, _, .non => .non
  | _, _, .bl b => .bl b
  | _, _, .int i => .int i
  | _, _, .str x => .str x
  | _, _, .lst h a => .lst (s.seq h) (RpAll.mono s a)
  | _, _, .tup h a => .tup (by
      rcases h with (h | ⟨o, h⟩) | h
      · exact .inl (.inl (s _ _ h))
      · exact .inl (.inr ⟨o, s _ _ h⟩)
      · exact .inr h) (RpAll.mono s a)
  | _, _, .dct h a => .dct (s _ _ h) (RpKv.mono s a)
theorem RpAll.mono {K : PySem.W.Frag} {H H' : Hp} (s : Same H H') : ∀ {vs : List V} {ds : List PyData}, RpAll K H vs ds → RpAll K H' vs ds
  | _, _, .nil => .nil
  | _, _, .cons h a => .cons (Rp.mono s h) (RpAll.mono s a)
theorem RpKv.mono {K : PySem.W.Frag} {H H' : Hp} (s : Same H H') : ∀ {kvs : List (Key × V)} {es : List (PyData × PyData)}, RpKv K H kvs es → RpKv K H' kvs es
  | _, _, .nil => .nil
  | _, _, .cons h a => .cons (Rp.mono s h) (RpKv.mono s a)
end
theorem del_same_of {H : Hp} {p : Addr} : Same (del H p) H := fun b o e => by
  by_cases z : b = p
  · rw [z, del_same] at e
    cases e
  · rw [del_ne z] at e
    exact e
theorem KB.del {p : Addr} {H H' : Hp} (k : KB p H H') : Same (del H p) (del H' p) := fun b o e => by
  by_cases z : b = p
  · rw [z, del_same] at e
    cases e
  · rw [del_ne z] at e ⊢
    exact k b o z e
theorem del_at {H : Hp} {p a : Addr} {o : HO} (h : H a = some o) (n : a ≠ p) : del H p a = some o := by
  rw [del_ne n]
  exact h
theorem seqT {K : PySem.W.Frag} {H : Hp} {a : Addr} {xs : List V} (h : H a = some (.tup xs)) : SqT K H a xs := .inl (.inl h)
theorem seqL {K : PySem.W.Frag} {H : Hp} {a : Addr} {xs : List V} (h : H a = some (.lst xs)) : SqL K H a xs := .inl (.inl h)
/-! ### data whose text is short -/
structure Nice (d : PyData) (k : Nat) : Prop where
  show_ : d.showable = true
  deep : d.depth ≤ k + 2
  short : d.shown.length ≤ 40 + 20 * k
theorem Nice.tup1 {d : PyData} {k : Nat} (h : Nice d k) : Nice (.tuple [d]) (k + 1) := by
  obtain ⟨h1, h2, h3⟩ := h
  refine ⟨?_, ?_, ?_⟩
  · simp only [PyData.showable, PyData.showableAll, h1, Bool.and_true]
  · simp only [PyData.depth, PyData.depthAll]
    omega
  · have z := tupleText_len_le [d.shown]
    simp only [List.map_cons, List.map_nil, List.sum_cons, List.sum_nil, List.length_cons, List.length_nil] at z
    show (tupleText (PyData.shownAll [d])).length ≤ _
    simp only [PyData.shownAll]
    omega
theorem Nice.lst1 {d : PyData} {k : Nat} (h : Nice d k) : Nice (.list [d]) (k + 1) := by
  obtain ⟨h1, h2, h3⟩ := h
  refine ⟨?_, ?_, ?_⟩
  · simp only [PyData.showable, PyData.showableAll, h1, Bool.and_true]
  · simp only [PyData.depth, PyData.depthAll]
    omega
  · have z := listText_len_le [d.shown]
    simp only [List.map_cons, List.map_nil, List.sum_cons, List.sum_nil, List.length_cons, List.length_nil] at z
    show (listText (PyData.shownAll [d])).length ≤ _
    simp only [PyData.shownAll]
    omega
theorem Nice.tup2 {d : PyData} {k : Nat} (h : Nice d k) : Nice (.tuple [d, .int 1]) (k + 1) := by
  obtain ⟨h1, h2, h3⟩ := h
  refine ⟨?_, ?_, ?_⟩
  · simp only [PyData.showable, PyData.showableAll, h1, Bool.and_true]
    decide +kernel
  · simp only [PyData.depth, PyData.depthAll]
    omega
  · have z := tupleText_len_le [d.shown, PyData.shown (.int 1)]
    have e : (PyData.shown (.int 1)).length = 1 := by decide +kernel
    simp only [List.map_cons, List.map_nil, List.sum_cons, List.sum_nil, List.length_cons, List.length_nil] at z
    show (tupleText (PyData.shownAll [d, .int 1])).length ≤ _
    simp only [PyData.shownAll]
    omega
theorem Nice.dct1 {d : PyData} {k : Nat} (h : Nice d k) : Nice (.dict [(.str "k", d)]) (k + 1) := by
  obtain ⟨h1, h2, h3⟩ := h
  refine ⟨?_, ?_, ?_⟩
  · simp only [PyData.showable, PyData.showableKv, h1, Bool.and_true]
  · simp only [PyData.depth, PyData.depthKv]
    omega
  · have e : (PyData.shown (.str "k")).length = 3 := by decide +kernel
    have z := dictText_len_le [PyData.shown (.str "k") ++ ": " ++ d.shown]
    simp only [List.map_cons, List.map_nil, List.sum_cons, List.sum_nil, List.length_cons, List.length_nil, Str.length_append] at z
    have e2 : ((": " : String) : Str).length = 2 := by decide +kernel
    show (dictText (PyData.shownKv [(.str "k", d)])).length ≤ _
    simp only [PyData.shownKv]
    rw [e, e2] at z
    omega
/-- any value, drawn -/
def spAny (K : PySem.W.Frag) : Sp := fun vs H Q _ => ∃ (p : Addr) (n : Nat), vs = [.ref p] ∧ Pot (n + 40) H p ∧
  ∀ v d H', KB p H H' → Pot n H' p → Rp K (del H' p) v d → Nice d 20 → Q v H'
end Ev
namespace Ev
open PySem PySem.Spec PyProof.Rows L2
theorem Nice.more {d : PyData} {i k : Nat} (h : Nice d i) (l : i ≤ k) : Nice d k := by
  obtain ⟨h1, h2, h3⟩ := h
  exact ⟨h1, by omega, by omega⟩
theorem ne_at {H : Hp} {a p : Addr} {o u : HO} (ha : H a = some o) (hp : H p = some u) (h : o ≠ u) : a ≠ p := fun z => by
  rw [z, hp] at ha
  exact h (Option.some.inj ha).symm
theorem Pot.ne_tup {n : Nat} {H : Hp} {p a : Addr} {xs : List V} (h : Pot n H p) (e : H a = some (.tup xs)) : a ≠ p := by
  obtain ⟨o, m, c, h1, _⟩ := h
  exact ne_at e h1 (fun z => by cases z)
theorem same_dup {H : Hp} {p : Addr} {o u : HO} (h : H p = none) : Same H (upd (upd H p o) p u) := fun b x e => by
  rw [upd_ne (ne_of_none e h), upd_ne (ne_of_none e h)]
  exact e
end Ev

namespace Ev
open PySem PySem.Spec PyProof.Rows L2
/-! ### lists of errors -/
/-- an error of the class at C that keeps v -/
def ErrAt (H : Hp) (v : V) (C : Addr) (x : V) : Prop := ∃ a d, x = .ref a ∧ H a = some (exo a C (some d)) ∧ H d = some (exd d [("value", v)])
theorem ErrAt.mono {H H' : Hp} {v x : V} {C : Addr} (s : Same H H') (h : ErrAt H v C x) : ErrAt H' v C x := by
  obtain ⟨a, d, h1, h2, h3⟩ := h
  exact ⟨a, d, h1, s _ _ h2, s _ _ h3⟩
abbrev ErrsAt (H : Hp) (v : V) : List Addr → List V → Prop := Paired (ErrAt H v)
theorem ErrsAt.mono {H H' : Hp} {v : V} (s : Same H H') : ∀ {Cs : List Addr} {xs : List V}, ErrsAt H v Cs xs → ErrsAt H' v Cs xs
  | _, _, .nil => .nil
  | _, _, .cons h t => .cons (h.mono s) (ErrsAt.mono s t)
theorem ErrsAt.app {H : Hp} {v : V} : ∀ {Cs Ds : List Addr} {xs ys : List V}, ErrsAt H v Cs xs → ErrsAt H v Ds ys → ErrsAt H v (Cs ++ Ds) (xs ++ ys)
  | _, _, _, _, .nil, b => b
  | _, _, _, _, .cons h t, b => .cons h (ErrsAt.app t b)
theorem ErrsAt.len {H : Hp} {v : V} {Cs : List Addr} {xs : List V} (h : ErrsAt H v Cs xs) : xs.length = Cs.length := (Paired.length h).symm
theorem ErrsAt.get {H : Hp} {v : V} : ∀ {Cs : List Addr} {xs : List V} {i : Nat} {x : V}, ErrsAt H v Cs xs → xs[i]? = some x → ∃ C, Cs[i]? = some C ∧ ErrAt H v C x
  | _, _, i, _, .nil, e => by simp at e
  | _, _, 0, _, .cons h _, e => by
    simp at e
    subst e
    exact ⟨_, rfl, h⟩
  | _, _, i + 1, x, .cons _ t, e => by
    obtain ⟨C, h1, h2⟩ := ErrsAt.get (i := i) (x := x) t (by simpa using e)
    exact ⟨C, by simpa using h1, h2⟩
def tErrs : List Addr → TA
  | [] => tNil
  | C :: r => tCons (tErr C (tVar 0)) (tErrs r)
theorem errs_read {v : V} {σ : L2.St} (hv : σ[0]? = some (some v)) : ∀ (Cs : List Addr) (H : Hp) (Q : List V → Hp → Prop), (∀ xs H', Same H H' → ErrsAt H' v Cs xs → Q xs H') → tErrs Cs σ H Q
  | [], H, Q, q => q [] H (fun _ _ e => e) .nil
  | C :: r, H, Q, q => by
    refine ⟨v, hv, fun a d na nd hne => ?_⟩
    have s1 : Same H (upd (upd H d (exd d [("value", v)])) a (exo a C (some d))) := fun b o e => by
      rw [upd_ne (ne_of_none e na), upd_ne (ne_of_none e nd)]
      exact e
    refine errs_read hv r _ _ fun xs H' s2 hx => ?_
    refine q (.ref a :: xs) H' (s1.trans s2) (.cons ⟨a, d, rfl, s2 _ _ upd_same, s2 _ _ ?_⟩ hx)
    rw [upd_ne hne, upd_same]
/-- a list of errors is made, the i-th of the class at Cs[i] -/
def spMade (Cs : List Addr) : Sp := fun vs H Q _ => ∃ v, vs = [v] ∧ ∀ l xs H', Same H H' → H l = none → H' l = some (.lst xs) → ErrsAt H' v Cs xs → Q (.ref l) H'
/-! ### of which classes an error is -/
def tIs (K : PySem.W.Frag) (R fI : Addr) : List Addr → TA
  | [] => tNil
  | C :: r => tCons (tCB (rIsiE K R fI) (tCons (tVar 0) (tCons (tC (.ref C)) tNil))) (tIs K R fI r)
theorem is_read {K : PySem.W.Frag} {R fI C : Addr} {v x : V} {σ : L2.St} {H : Hp} (hx : σ[0]? = some (some x)) (TC : ErrC K R fI C) (h : ErrAt H v C x) :
    ∀ (Ds : List Addr) (bs : List Bool), Paired (fun D b => PySem.W.kitOne K (.ref C) (.ref D) = some b) Ds bs → ∀ Q : List V → Hp → Prop, Q (bs.map V.bl) H → tIs K R fI Ds σ H Q
  | _, _, .nil, Q, q => q
  | _, _, .cons (a := D) (b := b) h1 t, Q, q => by
    obtain ⟨a, d, rfl, h2, h3⟩ := h
    refine ⟨_, hx, a, C, d, _, _, _, b, rfl, .own D, TC, h2, h3, h1, ?_⟩
    exact is_read hx TC ⟨a, d, rfl, h2, h3⟩ _ _ t _ q
end Ev
namespace Ev
open PySem PySem.Spec PyProof.Rows L2
theorem lst_step {v : V} {σ : L2.St} {H : Hp} {Ds : List Addr} {Q : VK} (hv : σ[0]? = some (some v)) (hz : Ds.length ≤ 1000)
    (q : ∀ l xs H', Same H H' → H l = none → H' l = some (.lst xs) → ErrsAt H' v Ds xs → Q (.ref l) H') : tLst (tErrs Ds) σ H Q := by
  refine errs_read hv Ds H _ fun xs H1 s1 hx => ⟨?_, fun l nl => ?_⟩
  · rw [hx.len]
    exact Nat.le_trans hz (by decide)
  · exact q l xs _ (s1.trans (same_new nl)) (same_back s1 nl) upd_same (hx.mono (same_new nl))
theorem cat_step {v : V} {σ : L2.St} {H : Hp} {l : Addr} {xs : List V} {Cs Ds : List Addr} {Q : VK} (hv : σ[0]? = some (some v)) (hl : σ[1]? = some (some (.ref l)))
    (hx : H l = some (.lst xs)) (he : ErrsAt H v Cs xs) (hz : Cs.length + Ds.length ≤ 1000)
    (q : ∀ l' xs' H', Same H H' → H l' = none → H' l' = some (.lst xs') → ErrsAt H' v (Cs ++ Ds) xs' → Q (.ref l') H') : tOp rCat (tVar 1) (tLst (tErrs Ds)) σ H Q := by
  refine ⟨_, hl, ?_⟩
  refine lst_step hv (by omega) fun b ys H1 s1 nb hb hy => ?_
  refine ⟨l, b, xs, ys, rfl, rfl, s1 _ _ hx, hb, ?_, fun p np => ?_⟩
  · rw [he.len, hy.len]
    exact Nat.le_trans hz (by decide)
  · exact q p _ _ (s1.trans (same_new np)) (same_back s1 np) upd_same (((he.mono s1).app hy).mono (same_new np))
/-- the marks of an error of the i-th class -/
def spMarks (C : Nat → Addr) : Sp := fun vs H Q _ => ∃ (i : Nat) (v x : V), vs = [x] ∧ i < 28 ∧ ErrAt H v (C i) x ∧
  ∀ l H', Same H H' → H l = none → H' l = some (.lst (((List.range' 0 28).map fun j => decide (j = i)).map V.bl)) → Q (.ref l) H'
theorem is_lst {K : PySem.W.Frag} {R fI C : Addr} {v x : V} {σ : L2.St} {H : Hp} {Ds : List Addr} {bs : List Bool} {Q : VK} (hx : σ[0]? = some (some x)) (TC : ErrC K R fI C) (h : ErrAt H v C x)
    (p : Paired (fun D b => PySem.W.kitOne K (.ref C) (.ref D) = some b) Ds bs) (hz : bs.length ≤ 1000)
    (q : ∀ l H', Same H H' → H l = none → H' l = some (.lst (bs.map V.bl)) → Q (.ref l) H') : tLst (tIs K R fI Ds) σ H Q := by
  refine is_read hx TC h Ds bs p _ ⟨?_, fun l nl => q l _ (same_new nl) nl upd_same⟩
  rw [List.length_map]
  exact Nat.le_trans hz (by decide)
theorem is_cat {K : PySem.W.Frag} {R fI C l : Addr} {v x : V} {σ : L2.St} {H : Hp} {Ds : List Addr} {as bs : List Bool} {Q : VK} (hx : σ[0]? = some (some x)) (hl : σ[1]? = some (some (.ref l)))
    (ha : H l = some (.lst (as.map V.bl))) (TC : ErrC K R fI C) (h : ErrAt H v C x) (p : Paired (fun D b => PySem.W.kitOne K (.ref C) (.ref D) = some b) Ds bs) (hz : as.length + bs.length ≤ 1000)
    (q : ∀ l' H', Same H H' → H l' = none → H' l' = some (.lst ((as ++ bs).map V.bl)) → Q (.ref l') H') : tOp rCat (tVar 1) (tLst (tIs K R fI Ds)) σ H Q := by
  refine ⟨_, hl, is_lst hx TC h p (by omega) fun b H1 s1 nb hb => ?_⟩
  refine ⟨l, b, _, _, rfl, rfl, s1 _ _ ha, hb, ?_, fun p np => ?_⟩
  · rw [List.length_map, List.length_map]
    exact Nat.le_trans hz (by decide)
  · rw [← List.map_append]
    exact q p _ (s1.trans (same_new np)) (same_back s1 np) upd_same
theorem kit_pair {K : PySem.W.Frag} {C : Nat → Addr} {i : Nat} (h : ∀ j, j < 28 → PySem.W.kitOne K (.ref (C i)) (.ref (C j)) = some (decide (j = i))) :
    ∀ (n a : Nat), a + n ≤ 28 → Paired (fun D b => PySem.W.kitOne K (.ref (C i)) (.ref D) = some b) ((List.range' a n).map C) ((List.range' a n).map fun j => decide (j = i))
  | 0, _, _ => .nil
  | n + 1, a, l => .cons (h a (by omega)) (kit_pair h n (a + 1) (by omega))
end Ev
namespace Ev
open PySem PySem.Spec PyProof.Rows L2
theorem bt_isinstance : bootBuiltins "isinstance" = some (.builtin "isinstance") := by decide +kernel
/-- isinstance(e, X), e an error that is held as a value, X an own class -/
theorem pe_isE {X : Cx} {R fI C : Addr} {fd : FuncData} {a x : Str} {p1 p2 p3 pos : Pos} {te : TE} (T : ErrR X.prog X.K R fI fd) (hg : Gl X "isinstance") (hm : X.mg "isinstance" = none) (he : PE X (.Name a p2) te)
    (hx : Gl X x) (gx : X.mg x = some (.ref C)) (hd : (x == ("__debug__" : Str)) = false := by decide) :
    PE X (.Call (.Name "isinstance" p1) [.Name a p2, .Name x p3] [] pos) (tCB (rIsiE X.K R fI) (tCons te (tCons (tC (.ref C)) tNil))) :=
  pe_callB (call_isiE T) hg hm bt_isinstance (pa_cons he (pa_cons (pe_glob (v := .ref C) hx gx rfl hd) pa_nil))
end Ev
namespace Ev
open PySem PySem.Spec PyProof.Rows L2
section
variable {v x : V} {σ : L2.St} {H : Hp} {u : TS} {D : Ends} {ta : TA} {Ds Es : List Addr} {l : Addr} {xs : List V} {K : PySem.W.Frag} {R fI C : Addr} {as bs : List Bool}
theorem st_lst (he : ta = tErrs Ds) (hv : σ[0]? = some (some v)) (hz : Ds.length ≤ 1000)
    (q : ∀ l xs H', Same H H' → H l = none → H' l = some (.lst xs) → ErrsAt H' v Ds xs → u D (σ.set 1 (some (.ref l))) H') : tSeq (tAsg (tLst ta) (gName 1)) u D σ H := by
  subst he
  exact lst_step (Q := fun y H1 => u D (σ.set 1 (some y)) H1) hv hz q
theorem st_cat (he : ta = tErrs Ds) (hv : σ[0]? = some (some v)) (hl : σ[1]? = some (some (.ref l))) (hx : H l = some (.lst xs)) (hp : ErrsAt H v Es xs) (hz : Es.length + Ds.length ≤ 1000)
    (q : ∀ l' xs' H', Same H H' → H l' = none → H' l' = some (.lst xs') → ErrsAt H' v (Es ++ Ds) xs' → u D (σ.set 1 (some (.ref l'))) H') : tSeq (tAsg (tOp rCat (tVar 1) (tLst ta)) (gName 1)) u D σ H := by
  subst he
  exact cat_step (Q := fun y H1 => u D (σ.set 1 (some y)) H1) hv hl hx hp hz q
theorem st_ret (he : ta = tErrs Ds) (hv : σ[0]? = some (some v)) (hl : σ[1]? = some (some (.ref l))) (hx : H l = some (.lst xs)) (hp : ErrsAt H v Es xs) (hz : Es.length + Ds.length ≤ 1000)
    (q : ∀ l' xs' H', Same H H' → H l' = none → H' l' = some (.lst xs') → ErrsAt H' v (Es ++ Ds) xs' → D.rt (.ref l') H') : tRet (tOp rCat (tVar 1) (tLst ta)) D σ H := by
  subst he
  exact cat_step (Q := D.rt) hv hl hx hp hz q
theorem si_lst (he : ta = tIs K R fI Ds) (hx : σ[0]? = some (some x)) (TC : ErrC K R fI C) (h : ErrAt H v C x) (p : Paired (fun D b => PySem.W.kitOne K (.ref C) (.ref D) = some b) Ds bs) (hz : bs.length ≤ 1000)
    (q : ∀ l H', Same H H' → H l = none → H' l = some (.lst (bs.map V.bl)) → u D (σ.set 1 (some (.ref l))) H') : tSeq (tAsg (tLst ta) (gName 1)) u D σ H := by
  subst he
  exact is_lst (Q := fun y H1 => u D (σ.set 1 (some y)) H1) hx TC h p hz q
theorem si_cat (he : ta = tIs K R fI Ds) (hx : σ[0]? = some (some x)) (hl : σ[1]? = some (some (.ref l))) (ha : H l = some (.lst (as.map V.bl))) (TC : ErrC K R fI C) (h : ErrAt H v C x)
    (p : Paired (fun D b => PySem.W.kitOne K (.ref C) (.ref D) = some b) Ds bs) (hz : as.length + bs.length ≤ 1000)
    (q : ∀ l' H', Same H H' → H l' = none → H' l' = some (.lst ((as ++ bs).map V.bl)) → u D (σ.set 1 (some (.ref l'))) H') : tSeq (tAsg (tOp rCat (tVar 1) (tLst ta)) (gName 1)) u D σ H := by
  subst he
  exact is_cat (Q := fun y H1 => u D (σ.set 1 (some y)) H1) hx hl ha TC h p hz q
theorem si_ret (he : ta = tIs K R fI Ds) (hx : σ[0]? = some (some x)) (hl : σ[1]? = some (some (.ref l))) (ha : H l = some (.lst (as.map V.bl))) (TC : ErrC K R fI C) (h : ErrAt H v C x)
    (p : Paired (fun D b => PySem.W.kitOne K (.ref C) (.ref D) = some b) Ds bs) (hz : as.length + bs.length ≤ 1000)
    (q : ∀ l' H', Same H H' → H l' = none → H' l' = some (.lst ((as ++ bs).map V.bl)) → D.rt (.ref l') H') : tRet (tOp rCat (tVar 1) (tLst ta)) D σ H := by
  subst he
  exact is_cat (Q := D.rt) hx hl ha TC h p hz q
end
end Ev

namespace Ev
open PySem PySem.Spec PyProof.Rows L2
/-- for i, x in enumerate(list) -/
theorem for_enum {K : PySem.W.Frag} {a : Addr} {xs : List V} {g : TG} {tb : TS} {D : Ends} {σ : L2.St} {H : Hp} (Pv : Nat → L2.St → Hp → Prop) (h0 : Pv 0 σ H)
    (hl : ∀ i σ H, i ≤ xs.length → Pv i σ H → SqL K H a xs)
    (hs : ∀ i x σ H T, xs[i]? = some x → Pv i σ H → H T = none → g (.ref T) σ (upd H T (.tup [.int (i : Nat), x])) fun σ2 H2 => tb { D with nx := Pv (i + 1), ct := Pv (i + 1), bk := D.nx } σ2 H2)
    (hd : ∀ σ H, Pv xs.length σ H → D.nx σ H) :
    ∃ W : Nat → Nat → L2.St → Hp → Prop, (∃ m, W 0 m σ H) ∧ ∀ i m σ H, W i m σ H →
      ((Ite K a).stop i H ∧ D.nx σ H) ∨ ((Ite K a).go i H ∧ ∃ N : L2.St → Hp → Prop, (∀ σ' H', N σ' H' → ∃ m', m' < m ∧ W (i + 1) m' σ' H') ∧
        ∀ x H', (Ite K a).yld i H x H' → g x σ H' fun σ2 H2 => tb { D with nx := N, ct := N, bk := D.nx } σ2 H2) := by
  refine ⟨fun i m σ H => m = xs.length - i ∧ i ≤ xs.length ∧ Pv i σ H, ⟨xs.length, by simp, Nat.zero_le _, h0⟩, ?_⟩
  rintro i m σ H ⟨rfl, hi, p⟩
  have S := hl i σ H hi p
  by_cases hlt : i < xs.length
  · refine .inr ⟨⟨xs, xs[i], S, List.getElem?_eq_getElem hlt⟩, Pv (i + 1), fun σ' H' p' => ⟨xs.length - (i + 1), by omega, rfl, hlt, p'⟩, ?_⟩
    rintro x H' ⟨T, y, rfl, nT, rfl, f⟩
    exact hs i y σ H T (f xs S) p nT
  · have e : i = xs.length := by omega
    subst e
    exact .inl ⟨⟨xs, S, Nat.le_refl _⟩, hd σ H p⟩
/-- lists of bools as data -/
theorem dp_bools {K : PySem.W.Frag} {H : Hp} : ∀ bs : List Bool, DpAll K H (bs.map V.bl) (bs.map PyData.bool)
  | [] => .nil
  | b :: r => .cons (.bl b) (dp_bools r)
theorem lay_bools : ∀ bs : List Bool, PyData.canLayAll0 (bs.map PyData.bool) = true
  | [] => rfl
  | b :: r => by
    show (PyData.canLay0 (.bool b) && PyData.canLayAll0 (r.map PyData.bool)) = true
    rw [lay_bools r]
    rfl
theorem deep_bools : ∀ bs : List Bool, PyData.depthAll (bs.map PyData.bool) = 0
  | [] => rfl
  | b :: r => by
    show max (PyData.depth (.bool b)) (PyData.depthAll (r.map PyData.bool)) = 0
    rw [deep_bools r]
    rfl
theorem shaped_bools (bs : List Bool) : SeqAt.shaped (.list (bs.map PyData.bool)) = true := by
  unfold SeqAt.shaped
  have e : PyData.depth (.list (bs.map PyData.bool)) = 1 := by
    show PyData.depthAll (bs.map PyData.bool) + 1 = 1
    rw [deep_bools]
  rw [e]
  show (PyData.canLayAll0 (bs.map PyData.bool) && _) = true
  rw [lay_bools]
  rfl
/-- the law -/
def spTrue (K : PySem.W.Frag) : Sp := fun vs H Q _ => ∃ (a : Addr) (ns : List Int), vs = [.ref a] ∧ SqL K H a (ns.map V.int) ∧ ns.length ≤ 63 ∧ ∀ H', Q (.bl true) H'
end Ev

namespace Ev
open PySem PySem.Spec PyProof.Rows L2 He
/-! ### what the head is asked: defs, errors' classes, names that are free -/
def sysB (K : PySem.W.Frag) : Bool := match K.lookup sysModules with
  | some o => decide (o.cls = .type "dict")
  | none => false
theorem sysB_ok {K : PySem.W.Frag} (h : sysB K = true) : SysIn K := by
  unfold sysB at h
  cases q : K.lookup sysModules with
  | none =>
    rw [q] at h
    cases h
  | some o =>
    rw [q] at h
    exact ⟨o, q, of_decide_eq_true h⟩
abbrev aR (K : PySem.W.Frag) : Addr := ga K "RunError"
abbrev aI (K : PySem.W.Frag) : Addr := ma K (aR K) "__init__"
def clsB (K : PySem.W.Frag) (C : Addr) : Bool := match K.lookup C with
  | some ⟨.type t, _, .cls cd, sl⟩ => decide (t = "type") && (match cd.mro, sl.toList with
    | .ref C' :: bm, [_, _, _, _, some (.builtin n), _] => decide (C' = C) && (decide (n = "ValueError.__new__") && (cd.hasDict && (!cd.hasDel && HandSPX.refsVE bm)))
    | _, _ => false)
  | _ => false
theorem clsB_ok {K : PySem.W.Frag} {C : Addr} (h : clsB K C = true) : ∃ nm q N bs bm sn sub ab col dd k0 k1 k2 k3 k5,
    K.lookup C = some (excClassObj nm q C N bs bm true sn sub ab col dd k0 k1 k2 k3 k5 "ValueError.__new__") ∧ PySem.HandSPX.refsVE bm = true := by
  unfold clsB at h
  split at h
  · rename_i t dd cd sl hk
    obtain ⟨ht, h⟩ := ba h
    split at h
    · rename_i C' bm k0 k1 k2 k3 n k5 hm hs
      obtain ⟨h1, h⟩ := ba h
      obtain ⟨h2, h⟩ := ba h
      obtain ⟨h3, h⟩ := ba h
      obtain ⟨h4, h5⟩ := ba h
      obtain rfl := of_decide_eq_true h1
      obtain rfl := of_decide_eq_true h2
      obtain rfl := of_decide_eq_true ht
      obtain ⟨nm, bs, mro, ns, qn, hd, sn, sb, ab, col, del⟩ := cd
      dsimp only at hm h3 h4
      subst hm
      subst h3
      have h4' : del = false := by simpa using h4
      subst h4'
      obtain ⟨l⟩ := sl
      dsimp only at hs
      subst hs
      exact ⟨nm, qn, ns, bs, bm, sn, sb, ab, col, dd, k0, k1, k2, k3, k5, hk, h5⟩
    · cases h
  · cases h
def eqB (a b : Option Bool) : Bool := decide (a = b)
theorem eqB_ok {a b : Option Bool} (h : eqB a b = true) : a = b := of_decide_eq_true h
def eqV1 (a b : Option Value) : Bool := decide (a = b)
theorem eqV1_ok {a b : Option Value} (h : eqV1 a b = true) : a = b := of_decide_eq_true h
/-- of the class called x -/
def errB (K : PySem.W.Frag) (x : Str) : Bool :=
  clsB K (ga K x) && (eqO (PySem.W.nsIn K mainGlobals x) (some (some (.ref (ga K x)))) && (eqO (PySem.W.findIn K (.ref (ga K x)) "__setattr__") (some (some (.builtin "object.__setattr__"))) &&
  (eqB (PySem.W.subIn K (.ref (ga K x)) (.type "BaseException")) (some true) && (eqV1 (PySem.W.typeIn K (.ref (ga K x))) (some (.type "type")) && (PySem.W.keepIn K (.ref (ga K x)) &&
  (eqO (PySem.W.findIn K (.ref (ga K x)) "__init__") (some (some (.ref (aI K)))) && (eqO (PySem.W.findIn K (.ref (ga K x)) "value") (some none) && (eqB (PySem.W.mroIn K (ga K x) (.ref (aR K))) (some true) &&
  (eqO (PySem.W.ks_superIn K (ga K x) (aR K) "__init__") (some (some (.builtin "ValueError.__init__"))) && (eqB (PySem.W.subIn K (.ref (ga K x)) (.type "ValueError")) (some true) &&
  (eqO (PySem.W.findIn K (.ref (ga K x)) "__getattribute__") (some (some (.builtin "BaseException.__getattribute__"))) && (eqO (PySem.W.findIn K (.ref (ga K x)) "__getattr__") (some none) &&
  (PySem.W.hasDictIn K (ga K x) && (eqO (PySem.W.findIn K (.ref (ga K x)) "__class__") (some (some (.builtin "object.__class__"))) && eqB (PySem.W.mroIn K (ga K x) (.type "object")) (some true)))))))))))))))
theorem errB_ok {K : PySem.W.Frag} {x : Str} (h : errB K x = true) : ErrC K (aR K) (aI K) (ga K x) ∧ PySem.W.nsIn K mainGlobals x = some (some (.ref (ga K x))) := by
  obtain ⟨h1, h⟩ := ba h
  obtain ⟨h2, h⟩ := ba h
  obtain ⟨h3, h⟩ := ba h
  obtain ⟨h4, h⟩ := ba h
  obtain ⟨h5, h⟩ := ba h
  obtain ⟨h6, h⟩ := ba h
  obtain ⟨h7, h⟩ := ba h
  obtain ⟨h8, h⟩ := ba h
  obtain ⟨h9, h⟩ := ba h
  obtain ⟨h10, h⟩ := ba h
  obtain ⟨h11, h⟩ := ba h
  obtain ⟨h12, h⟩ := ba h
  obtain ⟨h13, h⟩ := ba h
  obtain ⟨h14, h⟩ := ba h
  obtain ⟨h15, h16⟩ := ba h
  exact ⟨⟨⟨clsB_ok h1, eqO_ok h3, eqB_ok h4, eqV1_ok h5, h6⟩, eqO_ok h7, eqO_ok h8, eqB_ok h9, eqO_ok h10, eqB_ok h11, eqO_ok h12, eqO_ok h13, h14, eqO_ok h15, eqB_ok h16⟩, eqO_ok h2⟩
/-! ### RunError's own __init__ -/
abbrev FnI : Type := Option (Str × Str × Arguments × FuncBody × Scope × Addr × List Str × Value × Value × Addr)
def initObs (K : PySem.W.Frag) : FnI := match K.lookup (aI K) with
  | some ⟨_, _, .func fd, _⟩ => some (fd.name, fd.qualname, fd.params, fd.body, fd.scope, fd.globals, fd.closure.map (·.1), fd.defaults, fd.kwdefaults, fd.builtins)
  | _ => none
def initVal (p1 p2 : Pos) (q : Nat → Pos) : FnI := some ("__init__", "RunError.__init__", iArgs p1 p2, .stmts (iBody q), iScope, mainGlobals, ["__class__"], .none, .none, builtinsNs)
def cellB (K : PySem.W.Frag) : Value → Bool
  | .ref R => decide (R = aR K)
  | _ => false
def errRB (file : Str) (K : PySem.W.Frag) : Bool := (match K.lookup (aI K) with
    | some ⟨_, _, .func fd, _⟩ => (match fd.code, fd.closure with
      | .ref cda, [(_, cc)] => PySem.W.codeIn K (.ref cda) "RunError.__init__" && ((match K.lookup cda with
          | some ⟨_, _, .fields vs, _⟩ => (match (vs[2]? : Option Value) with
            | some (Value.str f _) => file == f
            | _ => false)
          | _ => false) && (match K.lookup cc with
          | some ⟨_, _, .cell (some v), _⟩ => cellB K v
          | _ => false))
      | _, _ => false)
    | _ => false) &&
  ((PySem.W.clsIn K (aR K)).isSome && (eqO (PySem.W.nsIn K mainGlobals "super") (some none) && (eqO (PySem.W.nsIn K cStatics "thirdparty.any") (some none) && (eqV1 (PySem.W.typeIn K (.ref (aI K))) (some (.type "function")) &&
  (eqO (PySem.W.specialIn K (.builtin "object.__class__") "__get__") (some (some (.builtin "getset_descriptor.__get__"))) && eqB (PySem.W.takesIn K (.builtin "object.__class__")) (some true))))))
theorem errRB_ok {P : Program} {K : PySem.W.Frag} {p1 p2 : Pos} {q : Nat → Pos} (hq : ((q 2).endLine == (q 4).line) = true) (ht : (P.main.scope.names.lookup ("super" : Str)).isSome = false)
    (e : initObs K = initVal p1 p2 q) (h : errRB P.main.file K = true) : ∃ fd, ErrR P K (aR K) (aI K) fd := by
  obtain ⟨h1, h⟩ := ba h
  obtain ⟨h2, h⟩ := ba h
  obtain ⟨h3, h⟩ := ba h
  obtain ⟨h4, h⟩ := ba h
  obtain ⟨h5, h⟩ := ba h
  obtain ⟨h6, h7⟩ := ba h
  unfold initObs at e
  split at h1
  · rename_i oc od fd osl hk
    rw [hk] at e
    split at h1
    · rename_i cda xn cc hcd hcl
      obtain ⟨j1, j⟩ := ba h1
      obtain ⟨j2, j3⟩ := ba j
      split at j2
      · rename_i ccl cdd vs ccs hvk
        split at j2
        · rename_i fl tf hvf
          split at j3
          · rename_i cl cld v csl hcc
            obtain ⟨n1, n2, n3, n4, n5, n6, n7, n8, n9, n10, n11, n12, n13, n14, n15⟩ := fd
            have e2 : (some (n1, n2, n3, n4, n5, n6, n7.map (·.1), n8, n9, n15) : FnI) = initVal p1 p2 q := e
            unfold initVal at e2
            simp only [Option.some.injEq, Prod.mk.injEq] at e2
            obtain ⟨e1, e2, e3, e4, e5, e6, e7, e8, e9, e10⟩ := e2
            dsimp only at hcd hcl
            subst e1 e2 e3 e4 e5 e6 e8 e9 e10 hcd hcl
            have e7' : xn = "__class__" := by
              simpa using e7
            subst e7'
            cases v with
            | ref R =>
              have er : R = aR K := of_decide_eq_true j3
              subst er
              exact ⟨_, ⟨oc, od, n10, n11, n12, cda, n14, cc, osl, p1, p2, q, ccl, cdd, vs, ccs, fl, tf, cl, cld, csl, hq, rfl, hk, j1, hvk, hvf, j2, hcc⟩,
                Option.isSome_iff_exists.mp h2, eqO_ok h3, eqO_ok h4, ht, eqV1_ok h5, eqO_ok h6, eqB_ok h7⟩
            | _ => cases j3
          · cases j3
        · cases j2
      · cases j2
    · cases h1
  · cases h1
/-! ### the Hook -/
def asV (g : Addr → Option Obj) (n : Nat) : List Addr := sysModules :: cStatics :: asD g n
abbrev AlV : Type := Bool × List FnW × FnI
def obsK (fn : List DefD) (ex : PySem.W.Frag → Bool) (K : PySem.W.Frag) : AlV := (ex K && fn.all fun d => d.ok K, fn.map fun d => fnW K d.at_, initObs K)
def obsV (n : Nat) (fn : List DefD) (ex : PySem.W.Frag → Bool) (g : Addr → Option Obj) : AlV := obsK fn ex (frG g (asV g n))
def valV (fn : List DefD) (vi : FnI) : AlV := (true, fn.map DefD.val, vi)
def hookV (n : Nat) (fn : List DefD) (vi : FnI) (ex : PySem.W.Frag → Bool) : PySem.W.Hook where
  α := AlV
  obs := fun s => obsV n fn ex s.heap.get?
  val := fun _ => valV fn vi
  says := fun _ h => ∃ K : PySem.W.Frag, K.In h ∧ obsK fn ex K = valV fn vi
  of := fun _ _ e => ⟨_, frG_in, e⟩
  keeps := fun _ _ _ ⟨K, hK, c⟩ k => ⟨K, PySem.W.Frag.In.keeps hK k, c⟩
theorem obsV_eq {n : Nat} {fn : List DefD} {vi : FnI} {ex : PySem.W.Frag → Bool} {g : Addr → Option Obj} {s : Shared} (h : ∀ a, g a = s.heap.get? a) : obsV n fn ex g = (hookV n fn vi ex).obs s := by
  have e : g = s.heap.get? := funext h
  rw [e] <;> rfl
theorem saysV {fn : List DefD} {vi : FnI} {ex : PySem.W.Frag → Bool} {K : PySem.W.Frag} (c : obsK fn ex K = valV fn vi) : ex K = true ∧ initObs K = vi ∧ SaysD [] fn K := by
  have c1 : (ex K && fn.all fun d => d.ok K) = true := congrArg (fun z : AlV => z.1) c
  have c2 : (fn.map fun d => fnW K d.at_) = fn.map DefD.val := congrArg (fun z : AlV => z.2.1) c
  have c3 : initObs K = vi := congrArg (fun z : AlV => z.2.2) c
  obtain ⟨h1, h2⟩ := ba c1
  refine ⟨h1, c3, ?_⟩
  show ((([] : List Fa).all fun f => f.ok K) && fn.all fun d => d.ok K, fn.map fun d => fnW K d.at_) = (true, fn.map DefD.val)
  rw [c2, h2]
  rfl
end Ev

namespace Ev
open PySem PySem.Spec PyProof.Rows L2
/-! ### an error that was caught and is held on -/
/-- at a: an error of the class cls, its dict at d; whatever its other fields are -/
def exw (a : Addr) (cls : Value) (d : Option Addr) : HO := .ext fun h => ∃ (oe : Obj), h.get? a = some oe ∧ Zc cls d oe ∧ ∃ vs, oe.data = .fields vs
theorem exw_ok {P : Program} {w : World} {H : Hp} {h : Heap} {a : Addr} {cls : Value} {d : Option Addr} {oe : Obj} (e : h.get? a = some oe) (z : Zc cls d oe) (f : ∃ vs, oe.data = .fields vs) : ObjOk P w H h a (exw a cls d) :=
  ⟨⟨oe, e, z, f⟩, ⟨oe, e⟩, fun _ _ ⟨o, q, r⟩ k => ⟨o, k o q, r⟩⟩
theorem exw_at {P : Program} {w : World} {H : Hp} {h : Heap} {a : Addr} {cls : Value} {d : Option Addr} (hok : HOk P w H h) (e : H a = some (exw a cls d)) : ∃ (oe : Obj), h.get? a = some oe ∧ Zc cls d oe ∧ ∃ vs, oe.data = .fields vs := by
  have x : ObjOk P w H h a (.ext fun h => ∃ (oe : Obj), h.get? a = some oe ∧ Zc cls d oe ∧ ∃ vs, oe.data = .fields vs) := hok a _ e
  exact x.1
section
variable {X : Cx} {pins : List (Addr × Obj)} {σ : L2.St} {H : Hp} {s : Shared}
/-- an error that was made since the entry is tracked from here on -/
theorem Inv_track {a : Addr} {o : HO} {oe : Obj} (I : Inv X pins σ H s) (ha : s.heap.get? a = some oe) (hf : ∃ vs, oe.data = .fields vs) (hn : H a = none) (h0 : X.s_0.heap.get? a = none) (nL : a ≠ X.env.locals)
    (nP : ∀ p ∈ X.pn ++ pins, p.1 ≠ a) (ok : ObjOk X.prog X.w (upd H a o) s.heap a o) : Inv X pins σ (upd H a o) s := by
  have nC : ∀ x c, X.env.cells.lookup x = some c → c ≠ a := fun x c e z => by
    obtain ⟨v, oc, ec, dc⟩ := I.cell x c e
    obtain ⟨vs, hd⟩ := hf
    rw [z, ha] at ec
    cases ec
    rw [hd] at dc
    cases dc
  have nN : ∀ {b : Addr} {u : HO}, H b = some u → b ≠ a := fun {b u} e => ne_of_none e hn
  refine ⟨I.ok, I.os, I.bare, ⟨I.base.keep, I.base.slot, ?_, I.base.there, ?_, ?_, ?_⟩, I.loc, I.cell, ?_, ?_, ?_, ?_, I.len⟩
  · intro b u e n x
    rw [upd_ne (fun z => by rw [z, h0] at e; cases e)]
    exact I.base.free b u e n x
  · intro b xs e
    rw [upd_ne (nN (I.base.tups b xs e))]
    exact I.base.tups b xs e
  · intro b u v e
    rw [upd_ne (nN (I.base.frzs b u v e))]
    exact I.base.frzs b u v e
  · intro b ps e
    obtain ⟨m, q⟩ := I.base.tbls b ps e
    exact ⟨m, by rw [upd_ne (nN q)]; exact q⟩
  · rw [upd_ne nL.symm]
    exact I.free
  · intro x c e
    rw [upd_ne (nC x c e)]
    exact I.freeC x c e
  · intro p hp
    obtain ⟨h1, h2, h3⟩ := I.pin p hp
    exact ⟨h1, by rw [upd_ne (nP p hp)]; exact h2, h3⟩
  · intro b u e
    by_cases hb : b = a
    · rw [hb, upd_same] at e
      cases e
      rw [hb]
      exact ok
    · rw [upd_ne hb] at e
      refine (I.hok b u e).stay (fun c v _ q => q) (fun c q => ?_) (fun c xs q => ?_)
      · rw [upd_ne (nN q)]
        exact q
      · rw [upd_ne (nN q)]
        exact q
/-- what «except x as n: suite» wishes where the error is held on behind the suite -/
def wHeld (K : PySem.W.Frag) (c : Value) (i : Nat) (ts : Addr → Value → Option Addr → TS) (Wout : WX) (D : Ends) : WX := fun cls d σ H =>
  ∃ b, PySem.W.exmOne K cls c = some b ∧ (b = true → ∀ a, H a = none → ts a cls d
      { nx := fun σ' H' => D.nx (σ'.set i none) (upd H' a (exw a cls d)), rt := fun _ _ => False, bk := fun _ _ => False, ct := fun _ _ => False } (σ.set i (some (.ref a))) H) ∧
    (b = false → Wout cls d σ H)
variable {x n : Str} {c : Value} {i : Nat} {body suite : List Stmt} {b₀ : Stmt} {np pos pos' : Pos} {tb : WX → TS} {ts : Addr → Value → Option Addr → TS} {Wout : WX}
theorem ps_try_held (hs : X.stack = X.env :: X.outer) (hf : X.env.frame = some X.env.locals) (hex : X.ex = []) (hN : X.N.Nodup) (hi : X.N[i]? = some n) (hln : X.env.kindOf n = some .local) (hc : Names X x c) (tk : Takes X Wout)
    (hb : ∀ (W : WX) (pn : List (Addr × Obj)) (xe : Value → Shared → Prop), Takes (X.tr pn xe) W → PassesOwn (model X.prog X.w) X.A X.env xe → PSs (X.tr pn xe) body (tb W))
    (hsu : ∀ (a : Addr) (oe : Obj) (cls : Value) (d : Option Addr) (pn : List (Addr × Obj)), Zc cls d oe → (∃ vs, oe.data = .fields vs) → PSs (X.suite a ((a, oe) :: pn)) (b₀ :: suite) (ts a cls d)) :
    PS X (.Try body [.ExceptHandler (some (.Name x np)) (some n) (b₀ :: suite) pos'] [] [] pos) (fun D σ H => tb (wHeld X.K c i ts Wout D) D σ H) := by
  constructor
  intro pins s σ H D I h
  have ok := I.ok
  have hfr : X.A.frames = some (X.env :: X.outer) := by rw [ok.frames, hs]
  refine wpAny_Try_except ?_
  refine wpAny_mono ((hb (wHeld X.K c i ts Wout D) (X.pn ++ pins)
    (fun e s₁ => wpAny (model X.prog X.w) X.A (noteFrame e X.env)
      (fun _ s₂ => wpAny (model X.prog X.w) X.A (setFlight e none)
        (fun _ s₃ => wpAny (model X.prog X.w) X.A (handleBy e X.env [.ExceptHandler (some (.Name x np)) (some n) (b₀ :: suite) pos']) (SP X pins D) X.xe s₃) X.xe s₂) X.xe s₁)
    ?caught PassesOwn.looking).run [] s σ H D (I.toTry _) h) ?through (fun _ _ z => z)
  case through =>
    intro f s1 hsp
    cases f with
    | next =>
      obtain ⟨σ', H', J', q⟩ := hsp
      exact wpAny_execs_nil ⟨σ', H', J'.ofTry ok, q⟩
    | brk =>
      obtain ⟨σ', H', J', q⟩ := hsp
      exact ⟨σ', H', J'.ofTry ok, q⟩
    | cont =>
      obtain ⟨σ', H', J', q⟩ := hsp
      exact ⟨σ', H', J'.ofTry ok, q⟩
    | ret u =>
      obtain ⟨v, σ', H', J', r, q⟩ := hsp
      exact ⟨v, σ', H', J'.ofTry ok, r, q⟩
  case caught =>
    rintro u s' ⟨a, B, sI, pins', σ', H', cls, d, rfl, J', nb, up, sky, na, os, ag, b, hb1, hyes, hno⟩
    have J : Inv X pins σ' H' sI := J'.ofTry ok
    have sky' : Sky B (X.env :: X.outer) a (Zc cls d) X.env.locals s'.heap := by rw [← hs]; exact sky
    show wpAny (model X.prog X.w) X.A (noteFrame (.ref a) X.env) _ _ _
    refine Sky.land Zc.steady hfr hf sky' ?_
    intro h3 fl3 up3
    have J3 : Inv X pins σ' H' { s' with heap := h3 } := J.landed nb fl3.1 (up.trans up3) os ag
    obtain ⟨oe3, vs3, he3, hz3, hd3⟩ := fl3.there
    have nfr : a ∉ frs (X.env :: X.outer) := fun hm => by
      obtain ⟨_, o', e', hnf⟩ := fl3.2.2.1.mem hm
      rw [he3] at e'
      cases e'
      exact hnf _ hd3
    have nL : a ≠ X.env.locals := fun z => nfr (List.mem_filterMap.mpr ⟨X.env, List.mem_cons_self, by rw [hf, z]⟩)
    have nF : a ∉ X.fs := fun hm => by
      obtain ⟨e, he, q⟩ := List.mem_filterMap.mp hm
      exact nfr (List.mem_filterMap.mpr ⟨e, List.mem_cons_of_mem _ he, q⟩)
    have nI : sI.heap.get? a = none := by
      cases z : sI.heap.get? a with
      | none => rfl
      | some o =>
        have y := nb a o z (by rw [hs]; exact nfr)
        rw [fl3.2.1] at y
        cases y
    have n0 : X.s_0.heap.get? a = none := by
      cases z : X.s_0.heap.get? a with
      | none => rfl
      | some o =>
        obtain ⟨o', y⟩ := J.base.there a o z (by rw [hex]; exact fun q => nomatch q)
        rw [nI] at y
        cases y
    have nP : ∀ p ∈ X.pn ++ pins, p.1 ≠ a := fun p hp z => by
      have y := (J.pin p hp).1
      rw [z, nI] at y
      cases y
    have S3 := J3.suite he3 hd3 na nL nF
    refine wpAny_handleBy_cons (codeAny_handlers_test ?_) (by intro q; cases q)
    have LT : PySem.W.Looks (model X.prog X.w) h3 (typeOf (.ref a)) cls := fun A Q E s k q => wpAny_typeOf_ref (k _ _ he3) (by rw [hz3.1]; exact q)
    have LM := PySem.W.exm_one (M := model X.prog X.w) (J3.kIn) LT hb1
    have test : ∀ {Q E : Value → Shared → Prop}, Q c { s' with heap := h3 } → wpAny (model X.prog X.w) (X.A.mark (some (.ref a))) (eval (.Name x np) X.env) Q E { s' with heap := h3 } := by
      intro Q E q
      obtain ⟨hg, hdbg, hm | ⟨hm, hv, hnn⟩⟩ := hc
      · exact ld_glob (X := X.suite a ((a, oe3) :: (X.pn ++ pins))) S3 hg hm q hdbg
      · exact ld_blt (X := X.suite a ((a, oe3) :: (X.pn ++ pins))) S3 hg hm hv q hnn hdbg
    refine test (LM.here ?_)
    cases b with
    | true =>
      refine codeAny_handlers_suite_as (HandSPX.lands_againZ fl3 ?_)
      intro h4 fl4 up4
      have J4 : Inv X pins σ' H' { s' with heap := h4 } := J.landed nb fl4.1 ((up.trans up3).trans up4) os ag
      obtain ⟨oe4, vs4, he4, hz4, hd4⟩ := fl4.there
      have S4 := J4.suite he4 hd4 na nL nF
      refine store_ok (X := X.suite a ((a, oe4) :: (X.pn ++ pins))) (v := .ref a) S4 hN hi (.inl hln) rfl ?_ (.inr hln)
      intro s5 S5
      refine wpAny_mono ((hsu a oe4 cls d (X.pn ++ pins) hz4 ⟨_, hd4⟩).run [] s5 _ H' _ S5 (hyes rfl a na)) ?_ (fun _ _ z => False.elim z)
      intro f s6 hsp
      match f, hsp with
      | .next, hsp =>
        obtain ⟨σ6, H6, S6, q6⟩ := hsp
        have J6 : Inv X ((a, oe4) :: pins) σ6 H6 s6 := ⟨ok, S6.os, S6.bare, S6.base, S6.loc, S6.cell, S6.free, S6.freeC, fun p hp => S6.pin p (by
          show p ∈ ((a, oe4) :: (X.pn ++ pins)) ++ []
          rw [List.append_nil]
          rcases List.mem_append.mp hp with z | z
          · exact List.mem_cons_of_mem _ (List.mem_append_left _ z)
          · rcases List.mem_cons.mp z with z | z
            · rw [z]
              exact List.mem_cons_self
            · exact List.mem_cons_of_mem _ (List.mem_append_right _ z)), S6.hok, S6.len⟩
        refine gone_ok J6 hN hi hln (fun s7 J7 => ?_)
        obtain ⟨h7, h8, _⟩ := J7.pin (a, oe4) (List.mem_append_right _ List.mem_cons_self)
        have J8 : Inv X pins (σ6.set i none) H6 s7 := J7.pins_of fun p hp => J7.pin p (List.mem_append_right _ (List.mem_cons_of_mem _ hp))
        exact ⟨_, _, Inv_track J8 h7 ⟨_, hd4⟩ h8 n0 nL nP (exw_ok h7 hz4 ⟨_, hd4⟩), q6⟩
      | .brk, hsp => exact (let ⟨_, _, _, q⟩ := hsp; q).elim
      | .cont, hsp => exact (let ⟨_, _, _, q⟩ := hsp; q).elim
      | .ret u, hsp => exact (let ⟨_, _, _, _, _, q⟩ := hsp; q).elim
    | false =>
      show wpAny _ X.A (handleBy (.ref a) X.env []) _ _ _
      refine wpAny_handleBy_nil ?_
      obtain ⟨k1, k2, k3, oe, vs, T, oT, ts', he, hz, hd, h1, hr⟩ := id fl3
      unfold PySem.passOn
      refine wpAny_bind (wpAny_field he hd h1 ?_)
      rw [if_neg (show ¬ ((Value.ref T == Value.none) = true) from by simp)]
      have fin : wpAny (model X.prog X.w) X.A (setFlight (.ref a) X.env.frame) (fun _ s4 => wpAny (model X.prog X.w) X.A (throw (.ref a) : Sem Flow) (SP X pins D) X.xe s4) X.xe { s' with heap := h3 } := by
        rw [hf]
        refine HandSPX.setFlight_upZ fl3 (fun h4 hh4 up4 => wpAny_throw (tk _ _ ?_))
        exact ⟨a, B, sI, pins, σ', H', cls, d, rfl, J, nb, (up.trans up3).trans up4, .inr (.inr (by rw [hs]; exact hh4)), na, os, ag, hno rfl⟩
      first
        | exact wpAny_bind (wpAny_pure (wpAny_bind fin))
        | exact wpAny_bind fin
end
end Ev

namespace Ev
open PySem PySem.Spec PyProof.Rows L2
/-- o.value, o an error that was caught and is held on -/
def tValueW (K : PySem.W.Frag) (R fI : Addr) (te : TE) : TE := fun σ H Q => te σ H fun x H1 => ∃ (a C d : Addr) (v : V), x = .ref a ∧ ErrC K R fI C ∧ H1 a = some (exw a (.ref C) (some d)) ∧ H1 d = some (.xd [("value", v)]) ∧ Q v H1
section
variable {X : Cx} {R fI : Addr} {fd : FuncData} {pos : Pos}
theorem pe_valueW (T : ErrR X.prog X.K R fI fd) {o : Expr} {to : TE} (ho : PE X o to) (hb : attributeBase o "value" X.env (eval o X.env) = eval o X.env := by rfl) :
    PE X (.Attribute o "value" pos) (tValueW X.K R fI to) := by
  constructor
  intro pins s σ H Q I h
  refine attr_of hb (thn (ho.run pins s σ H _ I h) ?_)
  rintro u s1 ⟨x, H1, I1, rx, a, C, d, v, rfl, TC, ea, ed, q⟩
  obtain rfl : u = Value.ref a := rx
  obtain ⟨oe, hoe, hz, vs, hdat⟩ := exw_at I1.hok ea
  have hx : ObjOk X.prog X.w H1 s1.heap d (.xd [(("value" : Str), v)]) := I1.hok d _ ed
  obtain ⟨mA, hns, rel⟩ := hx
  obtain ⟨od, hod, hl⟩ := lookIn_ns hns
  have l : List.lookup ("value" : Str) [(("value" : Str), v)] = some v := by simp [List.lookup]
  obtain ⟨u2, hu, ru⟩ := RelO.some_of (v := v) (o := mA "value") (by rw [← l]; exact rel "value")
  have J : PySem.W.InstAt s1.heap a oe C (some od) := ⟨hoe, hz.1, by unfold PySem.W.notCls; rw [hdat] <;> rfl, by rw [hz.2]; exact hod⟩
  exact HandSPX.exc_get I1.kIn J TC.ga TC.gg TC.oex.exC (PySem.W.findObj_own TC.hd TC.noV rfl (by rw [hl, hu])) (handed_of ru) ⟨v, H1, I1.tok _, ru, q⟩
/-- o.value within the except suite that holds o at a -/
def tValueS (K : PySem.W.Frag) (R fI : Addr) (a : Addr) (cls : Value) (d : Option Addr) (te : TE) : TE := fun σ H Q => te σ H fun x H1 => x = .ref a ∧ ∃ (C dd : Addr) (v : V), cls = .ref C ∧ ErrC K R fI C ∧ d = some dd ∧ H1 dd = some (.xd [("value", v)]) ∧ Q v H1
theorem pe_valueS {a : Addr} {oe : Obj} {cls : Value} {d : Option Addr} {pn : List (Addr × Obj)} (T : ErrR X.prog X.K R fI fd) (hz : Zc cls d oe) (hf : ∃ vs, oe.data = .fields vs) {o : Expr} {to : TE} (ho : PE (X.suite a ((a, oe) :: pn)) o to)
    (hb : attributeBase o "value" X.env (eval o X.env) = eval o X.env := by rfl) : PE (X.suite a ((a, oe) :: pn)) (.Attribute o "value" pos) (tValueS X.K R fI a cls d to) := by
  constructor
  intro pins s σ H Q I h
  refine attr_of hb (thn (ho.run pins s σ H _ I h) ?_)
  rintro u s1 ⟨x, H1, I1, rx, rfl, C, dd, v, rfl, TC, rfl, ed, q⟩
  obtain rfl : u = Value.ref a := rx
  obtain ⟨ha, _⟩ := I1.pin (a, oe) (List.mem_append_left _ List.mem_cons_self)
  obtain ⟨vs, hdat⟩ := hf
  have hx : ObjOk X.prog X.w H1 s1.heap dd (.xd [(("value" : Str), v)]) := I1.hok dd _ ed
  obtain ⟨mA, hns, rel⟩ := hx
  obtain ⟨od, hod, hl⟩ := lookIn_ns hns
  have l : List.lookup ("value" : Str) [(("value" : Str), v)] = some v := by simp [List.lookup]
  obtain ⟨u2, hu, ru⟩ := RelO.some_of (v := v) (o := mA "value") (by rw [← l]; exact rel "value")
  have J : PySem.W.InstAt s1.heap a oe C (some od) := ⟨ha, hz.1, by unfold PySem.W.notCls; rw [hdat] <;> rfl, by rw [hz.2]; exact hod⟩
  exact HandSPX.exc_get I1.kIn J TC.ga TC.gg TC.oex.exC (PySem.W.findObj_own TC.hd TC.noV rfl (by rw [hl, hu])) (handed_of ru) ⟨v, H1, I1.tok _, ru, q⟩
end
/-! ### == by an own __eq__, whatever its answer -/
section
variable {X : Cx} {CX : CXT} {k : Nat} {C f : Addr} {fd : FuncData} {ps : List Str} {sp : Sp} {E : XK}
def rEqO (K : PySem.W.Frag) (C : Addr) (sp : Sp) (E : XK) : R2 := fun x y H Q => ∃ (a dx : Addr) (fs : List (Str × V)) (t : Value), x = .ref a ∧ H a = some (.ins C dx fs) ∧ TyX K H y t ∧ PySem.W.notFirst K C t = true ∧ sp [x, y] H (fun v H' => ∃ b, v = .bl b ∧ Q v H') E
theorem op_eqO (F : FnOk X.prog X.w X.K X.mg X.base CX k f fd ps sp) (hr : Room k X.A) (hs : PySem.W.findIn X.K (.ref C) "__eq__" = some (some (.ref f))) (hf : PySem.W.isFn X.K (.ref f) = true) (hb : Binds X.K fd ps []) (hx : Passes CX X E) :
    OpR X (compareOp .Eq) (rEqO X.K C sp E) := by
  intro pins s σ H x y v u Q I rx ry h
  obtain ⟨a, dx, fs, t, rfl, ea, ty, hn, hsp⟩ := h
  obtain rfl : v = Value.ref a := rx
  show wpAny (model X.prog X.w) X.A (richCompare .Eq (.ref a) u) (EP X pins σ Q) X.xe s
  obtain ⟨mA, O, _⟩ := ins_get I.hok ea
  obtain ⟨od, J, _⟩ := O.look
  obtain ⟨m, hF⟩ := I.fr
  obtain ⟨P, Z, p, _⟩ := kit_of I ry ty
  refine PySem.W.cmp_K (op := .Eq) (tb := t) hr.units0 hF I.ok.mod.kin J (Z.ty _ _ I.kIn p) hn hs hf ?_
  have hl := F.len _ _ _ _ hsp
  have r2 : Vals [V.ref a, y] [Value.ref a, u] := .cons rfl (.cons ry .nil)
  have bt : BindsTo s fd ⟨[.ref a, u], []⟩ (ps.zip [.ref a, u]) := by
    have z := hb s [.ref a, u] I.kIn (by simpa using hl)
    simpa using z
  refine wpAny_call (codeAny_mono (F.run X.A X.stack s H ⟨[.ref a, u], []⟩ [.ref a, u] [.ref a, y] _ E hr I.env0 bt r2 hsp) ?_)
  intro r s' hq
  match r, hq with
  | .error e, hq => exact hx pins σ H s e s' I hq
  | .ok .next, hq => exact False.elim hq
  | .ok .brk, hq => exact False.elim hq
  | .ok .cont, hq => exact False.elim hq
  | .ok (.ret w), hq =>
    obtain ⟨z, H', I', rz, b, rfl, q⟩ := I.after hq
    obtain rfl : w = Value.bool b := rz
    exact ⟨.bl b, H', I', rfl, q⟩
end
end Ev
namespace Ev
open PySem PySem.Spec PyProof.Rows L2
/-! ### dicts of flat values compared, both answers -/
def hitB (ls : List (Key × V)) (p : Key × V) : Bool := match L2.valV ls p.1 with
  | some y => eqV p.2 y
  | none => false
theorem hits_flat {A : Around} {s : Shared} {ls : List (Key × V)} {vb : List (Key × Value)} (rb : KV ls vb) (fl : ∀ p ∈ ls, flatV p.2 = true) : ∀ {ks : List (Key × V)} {va : List (Key × Value)}, KV ks va → (∀ p ∈ ks, flatV p.2 = true) →
    PySem.W.KeqHits A s vb va (ks.all (hitB ls))
  | _, _, .nil, _ => .nil
  | _, _, .cons (a := p) (b := q) (l₁ := r1) h t, hp => by
    obtain ⟨h1, h2⟩ := h
    obtain ⟨k, v⟩ := q
    obtain ⟨k', x⟩ := p
    obtain rfl : k' = k := h1
    have rr : RelO (L2.valV ls k') (valueAt vb k') := rb.val k'
    have ih := hits_flat (A := A) (s := s) rb fl t (fun p hp' => hp p (List.mem_cons_of_mem _ hp'))
    cases e : L2.valV ls k' with
    | none =>
      rw [e] at rr
      have en : valueAt vb k' = none := by
        cases z : valueAt vb k' with
        | none => rfl
        | some u =>
          rw [z] at rr
          exact rr.elim
      have eb : ((k', x) :: r1).all (hitB ls) = false := by
        rw [List.all_cons]
        have : hitB ls (k', x) = false := by
          unfold hitB
          rw [e]
        rw [this, Bool.false_and]
      rw [eb]
      exact .miss en
    | some y =>
      rw [e] at rr
      obtain ⟨u, hu, ru⟩ := rr.some_of
      have fy : flatV y = true := by
        unfold L2.valV at e
        obtain ⟨p, hp1, hp2⟩ := Option.map_eq_some_iff.mp e
        rw [← hp2]
        exact fl p (List.mem_of_find?_eq_some hp1)
      have eb : ((k', x) :: r1).all (hitB ls) = (eqV x y && r1.all (hitB ls)) := by
        rw [List.all_cons]
        have : hitB ls (k', x) = eqV x y := by
          unfold hitB
          rw [e]
        rw [this]
      rw [eb]
      exact .hit hu (eqAt_V h2 ru (hp _ List.mem_cons_self) fy) ih
def rEqK : R2 := fun x y H Q => ∃ a b ks ls, x = .ref a ∧ y = .ref b ∧ H a = some (.dK ks) ∧ H b = some (.dK ls) ∧ ks.length = ls.length ∧ (∀ p ∈ ks, flatV p.2 = true) ∧ (∀ p ∈ ls, flatV p.2 = true) ∧ Q (.bl (ks.all (hitB ls))) H
theorem op_eqK {X : Cx} (hu : X.A.units < cLine) : OpR X (compareOp .Eq) rEqK := by
  intro pins s σ H x y v u Q I rx ry h
  obtain ⟨a, b, ks, ls, rfl, rfl, ea, eb, hlen, f1, f2, q⟩ := h
  obtain rfl : v = Value.ref a := rx
  obtain rfl : u = Value.ref b := ry
  obtain ⟨_, ya, va, ra, da⟩ := dk_of I.hok ea
  obtain ⟨_, yb, vb, rb, db⟩ := dk_of I.hok eb
  have hl : va.length = vb.length := by
    rw [← ra.length, ← rb.length]
    exact hlen
  refine PySem.W.keq_eq (knd := mixKind X.prog X.w) ya yb da db hu (fun _ => hits_flat rb f2 ra f1) ?_
  rw [hl, beq_self_eq_true, Bool.true_and]
  exact ⟨.bl _, H, I, rfl, q⟩
end Ev

namespace Ev
open PySem PySem.Spec PyProof.Rows L2
/-! ### the keys of a dict, drawn one by one -/
section
variable {prog : Program} {w : World} {A : Around} {E : Value → Shared → Prop} {s : Shared} {it d : Addr} {i ep : Nat} {es : Array DictEntry} {Q : Value → Shared → Prop}
theorem draw_key (hit : s.heap.IsKeyIter it d i es.size ep) (hm : s.heap.DictRaw d es ep) (hlt : i < es.size)
    (hQ : ∀ h', h'.IsKeyIter it d (i + 1) es.size ep → Heap.SameBut it s.heap h' → Q es[i].key { s with heap := h' }) : wpAny (model prog w) A (Builtin.SmallTypes.nextOf (.ref it)) Q E s := by
  obtain ⟨o, ho, hc, hd⟩ := id hit
  obtain ⟨od, hod, hcd, hdd⟩ := id hm
  have hown : Builtin.Dict_items.ownsTuple "dict_keyiterator" = false := by decide
  have hnn : ¬ ((Value.ref d == Value.none) = true) := Bool.false_ne_true
  unfold Builtin.SmallTypes.nextOf
  refine wpAny_bind (wpAny_callSpecial?_slot (name := Str.ofString "__next__") hit.typeIs F.slot_dict_keyiterator_next ?_)
  refine wpAny_call_entry F.slot_dict_keyiterator_next hit.typeIs F.entry_dict_keyiterator_next ?_ (F.args_dict_keyiterator_next_1 _)
  refine wpAny_bind (wpAny_pure (wpAny_bind (wpAny_bind ?_)))
  first
    | refine wpAny_bind (wpAny_typeNameOfWhole_keyiter hit.typeIs (wpAny_pure ?_))
    | refine wpAny_bind (wpAny_typeNameOf_keyiter hit.typeIs (wpAny_pure ?_))
  refine wpAny_bind (wpAny_fieldsOf ho hd ?_)
  simp only [hown, Bool.false_eq_true, if_false]
  show wpAny _ _ (if (Value.ref d == Value.none) = true then _ else _) _ _ s
  rw [if_neg hnn]
  refine wpAny_bind (wpAny_pure (wpAny_bind (wpAny_dictEntries hod hdd ?_)))
  rw [if_neg (by simp)]
  refine wpAny_bind (wpAny_pure (wpAny_bind (wpAny_dictEpoch hod hdd ?_)))
  rw [if_neg (by simp)]
  refine wpAny_pure ?_
  simp only [show ¬ ((i : Int) < 0) from by omega, if_false, Int.toNat_natCast, Array.getElem?_eq_getElem hlt]
  refine wpAny_bind ?_
  first
    | refine wpAny_bind (wpAny_typeNameOfWhole_keyiter hit.typeIs (wpAny_pure ?_))
    | refine wpAny_bind (wpAny_typeNameOf_keyiter hit.typeIs (wpAny_pure ?_))
  refine wpAny_bind (wpAny_isOneOf_keyiter hit.typeIs ?_)
  show wpAny _ _ (setField (.ref it) 1 (rawInt ((i : Int) + 1)) >>= _) _ _ s
  have hit' : (s.heap.update it (Obj.mapFields (·.setIfInBounds 1 (rawInt ((i : Int) + 1))))).IsKeyIter it d (i + 1) es.size ep :=
    ⟨_, Heap.get?_update_self _ ho (Obj.isFreed_of_fields (Obj.data_mapFields hd _)), (Obj.cls_mapFields ..).trans hc, by
      rw [Obj.data_mapFields hd]
      simp [rawInt]⟩
  refine wpAny_bind (wpAny_setField ho hd (by simp) (wpAny_bind (wpAny_holding ?_)))
  refine wpAny_bind (wpAny_isOneOf_keyiter (s := { s with heap := s.heap.update it (Obj.mapFields (·.setIfInBounds 1 (rawInt ((i : Int) + 1)))) }) hit'.typeIs ?_)
  show wpAny _ _ (pure es[i].key) _ _ _
  exact wpAny_pure (wpAny_pure ⟨_, rfl, wpAny_pure (hQ _ hit' (Heap.SameBut.update ..))⟩)
theorem draw_none (hh : A.handled = none) (hit : s.heap.IsKeyIter it d i es.size ep) (hm : s.heap.DictRaw d es ep) (hge : es.size ≤ i)
    (hE : ∀ h' e, Heap.ExtBut it s.heap h' → (∃ o, h'.get? e = some o ∧ o.cls = .type "StopIteration") → E (.ref e) { s with heap := h' }) : wpAny (model prog w) A (Builtin.SmallTypes.nextOf (.ref it)) Q E s := by
  obtain ⟨o, ho, hc, hd⟩ := id hit
  obtain ⟨od, hod, hcd, hdd⟩ := id hm
  have hown : Builtin.Dict_items.ownsTuple "dict_keyiterator" = false := by decide
  have hnn : ¬ ((Value.ref d == Value.none) = true) := Bool.false_ne_true
  unfold Builtin.SmallTypes.nextOf
  refine wpAny_bind (wpAny_callSpecial?_slot (name := Str.ofString "__next__") hit.typeIs F.slot_dict_keyiterator_next ?_)
  refine wpAny_call_entry F.slot_dict_keyiterator_next hit.typeIs F.entry_dict_keyiterator_next ?_ (F.args_dict_keyiterator_next_1 _)
  refine wpAny_bind (wpAny_pure (wpAny_bind (wpAny_bind ?_)))
  first
    | refine wpAny_bind (wpAny_typeNameOfWhole_keyiter hit.typeIs (wpAny_pure ?_))
    | refine wpAny_bind (wpAny_typeNameOf_keyiter hit.typeIs (wpAny_pure ?_))
  refine wpAny_bind (wpAny_fieldsOf ho hd ?_)
  simp only [hown, Bool.false_eq_true, if_false]
  show wpAny _ _ (if (Value.ref d == Value.none) = true then _ else _) _ _ s
  rw [if_neg hnn]
  refine wpAny_bind (wpAny_pure (wpAny_bind (wpAny_dictEntries hod hdd ?_)))
  rw [if_neg (by simp)]
  refine wpAny_bind (wpAny_pure (wpAny_bind (wpAny_dictEpoch hod hdd ?_)))
  rw [if_neg (by simp)]
  refine wpAny_pure ?_
  simp only [show ¬ ((i : Int) < 0) from by omega, if_false, Int.toNat_natCast, Array.getElem?_eq_none hge]
  refine wpAny_bind ?_
  first
    | refine wpAny_bind (wpAny_typeNameOfWhole_keyiter hit.typeIs (wpAny_pure ?_))
    | refine wpAny_bind (wpAny_typeNameOf_keyiter hit.typeIs (wpAny_pure ?_))
  show wpAny _ _ (setField (.ref it) 0 .none >>= _) _ _ s
  refine wpAny_bind (wpAny_setField ho hd (by simp) ?_)
  show wpAny _ _ (newExc (.type "StopIteration") [] >>= _) _ _ _
  refine wpAny_bind ?_
  simp only [newExc, newTuple]
  refine wpAny_bind (wpAny_newObj_type ?_ (by size_fits))
  refine wpAny_bind (m := firstArgMember _ _) (wpAny_of_eq (a := Value.none) (by first | rfl | (simp only [firstArgMember]; rfl)) ?_)
  refine wpAny_newObj_type ?_ (by size_fits)
  simp only [raiseNew]
  refine wpAny_bind (wpAny_handled ?_)
  first
    | rw [show A.in1.handled = none from hh]
    | rw [hh]
  refine wpAny_bind (wpAny_pure (wpAny_throw ?_))
  exact hE _ _ (((Heap.SameBut.update ..).extBut.push _).push _) ⟨_, Heap.get?_push_size _ rfl, rfl⟩
end
theorem draws_keys {prog : Program} {w : World} {A : Around} (hh : A.handled = none) (it d : Addr) (hne : d ≠ it) (es : Array DictEntry) (ep : Nat) :
    Draws prog w A it [it, d] es.size (fun i v => ∃ h : i < es.size, v = es[i].key) (fun i h => h.IsKeyIter it d i es.size ep ∧ h.DictRaw d es ep) where
  live := fun _ _ st => let ⟨o, ho, _⟩ := st.1; ⟨o, ho⟩
  frame := fun _ _ _ st hk => by
    obtain ⟨⟨o, e, r⟩, ⟨o', e', r'⟩⟩ := st
    exact ⟨⟨o, hk it (by simp) o e, r⟩, ⟨o', hk d (by simp) o' e', r'⟩⟩
  item := fun i s Q E hi st hQ => by
    refine draw_key st.1 st.2 hi fun h' hit' hs' => ?_
    obtain ⟨o', e', r'⟩ := st.2
    exact hQ _ h' s.toks ⟨hi, rfl⟩ ⟨hit', ⟨o', (hs'.2 d hne).trans e', r'⟩⟩ hs'
  done := fun s Q E st hE => draw_none hh st.1 st.2 (Nat.le_refl _) hE
theorem begins_keys (d : Addr) (hd : (d == sysModules) = false) (es : Array DictEntry) (ep : Nat) : Begins (.ref d) { cls := .type "dict_keyiterator", data := .fields #[.ref d, .int 0 0, .int es.size 0, .int ep 0] } fun h => h.DictRaw d es ep where
  iter := fun prog w A E s Q hl h => wpAny_pyIter_dict_raw hd hl h
  keeps := fun h h' x hk => by
    obtain ⟨o, e, r⟩ := x
    exact ⟨o, hk d o e, r⟩
  free := rfl
end Ev

namespace Ev
open PySem PySem.Spec PyProof.Rows L2
/-! ### zip(d, t): d a dict of the written part, t a tuple -/
/-- the dict at d is written, its keys are ks -/
def KDict (K : PySem.W.Frag) (d : Addr) (ks : List V) : Prop := ∃ (o : Obj) (es : Array DictEntry) (ep : Nat), K.lookup d = some o ∧ o.ExactDict ∧ o.data = .dict es ep ∧ Vals ks (es.toList.map (·.key)) ∧ (d == sysModules) = false
def ItzD (K : PySem.W.Frag) (ks : List V) (b : Addr) : It :=
  ⟨fun i H => ∃ (ys : List V) (x y : V), SqT K H b ys ∧ ks[i]? = some x ∧ ys[i]? = some y,
   fun i H v H' => ∃ T x y, v = .ref T ∧ H T = none ∧ H' = upd H T (.tup [x, y]) ∧ ks[i]? = some x ∧ ∀ ys, SqT K H b ys → ys[i]? = some y,
   fun i H => ∃ ys : List V, SqT K H b ys ∧ ys.length = ks.length ∧ ks.length = i⟩
section
variable {P : Program} {w : World} {K : PySem.W.Frag} {elts : List Expr} {kk : Nat} {tpos : Pos} {d b z TI TO i1 i2 : Addr} {ks : List V} {o : Obj} {es : Array DictEntry} {ep : Nat}
theorem turn_zipD (S : ZipSep2 z TI TO i1 i2 [i1, d] [i2, b]) (nd : d ≠ i1) (nb : b ≠ i2) (hk : K.lookup d = some o) (hx : o.ExactDict) (hd : o.data = .dict es ep) (hv : Vals ks (es.toList.map (·.key))) :
    Turn P w K (.Tuple elts kk tpos) (ItzD K ks b) [z, TI, TO, i1, i2] z
      (fun i h => IsZip h z TI TO .none ∧ IsTupOf2 h TI (.ref i1) (.ref i2) ∧ (∃ x y, IsTupOf2 h TO x y) ∧ h.IsKeyIter i1 d i es.size ep ∧ h.IsTupleIter i2 b i) where
  mem := by simp
  obj := by
    rintro i h ⟨hz, hTI, ⟨x, y, hTO⟩, ⟨o1, e1, _, d1⟩, ⟨o2, e2, _, d2⟩⟩ c hc
    have e' : c = z ∨ c = TI ∨ c = TO ∨ c = i1 ∨ c = i2 := by simpa using hc
    rcases e' with rfl | rfl | rfl | rfl | rfl
    · exact ⟨_, hz, fun v q => nomatch q⟩
    · exact ⟨_, hTI, fun v q => nomatch q⟩
    · exact ⟨_, hTO, fun v q => nomatch q⟩
    · exact ⟨o1, e1, fun v q => by rw [d1] at q; cases q⟩
    · exact ⟨o2, e2, fun v q => by rw [d2] at q; cases q⟩
  keep := by
    rintro i h h' ⟨hz, hTI, ⟨x, y, hTO⟩, ⟨o1, e1, r1⟩, h2⟩ k
    exact ⟨k z (by simp) _ hz, k TI (by simp) _ hTI, ⟨x, y, k TO (by simp) _ hTO⟩, ⟨o1, k i1 (by simp) _ e1, r1⟩, h2.at fun o q => k i2 (by simp) o q⟩
  item := by
    intro X hP hw hK hc i pins s σ H E I hf st hg
    subst hP hw hK
    obtain ⟨hz, hTI, ⟨x0, y0, hTO⟩, h1, h2⟩ := st
    obtain ⟨ys, x, y, hqy, hx', hy⟩ := hg
    obtain ⟨its2, rv2, p2, _⟩ := I.tuple hqy
    have raw : s.heap.DictRaw d es ep := ⟨o, I.kIn _ _ hk, hx, hd⟩
    obtain ⟨u, hu, ru⟩ := hv.get hx'
    obtain ⟨u2, hu2, ru2⟩ := rv2.get hy
    have hi1 : i < es.size := by
      have z := List.getElem?_eq_some_iff.mp hu
      obtain ⟨q, _⟩ := z
      simpa using q
    have hi2 : i < its2.toArray.size := by
      have z := List.getElem?_eq_some_iff.mp hu2
      obtain ⟨q, _⟩ := z
      simpa using q
    have hh : X.A.in1.handled = none := I.ok.hd hc
    have hzl : z < s.heap.objs.size := Heap.lt_size hz
    refine wpAny_pyNext_zipD2_item S (draws_keys hh i1 d nd es ep) (Draws.tuple hh i2 b nb its2.toArray) hz hTI hTO ⟨h1, raw⟩ ⟨h2, p2⟩ hi1 hi2 ?_
    rintro k1 k2 h' tk ⟨_, e1⟩ e2 z' TO' ⟨h1', _⟩ ⟨h2', _⟩ hT hsz hkp
    have eu : k1 = u := by
      rw [e1]
      rw [List.getElem?_map, List.getElem?_eq_getElem (by simpa using hi1)] at hu
      have := Option.some.inj hu
      simpa using this
    have eu2 : k2 = u2 := by
      have q : its2.toArray[i]? = some u2 := by simpa using hu2
      rw [q] at e2
      exact (Option.some.inj e2).symm
    rw [eu, eu2] at hT TO'
    refine ⟨_, rfl, wpAny_letOwnedTupleGo_zip (s := { s with heap := h', toks := tk }) z' ?_⟩
    intro h'' z'' sb
    have off : ∀ c o, c ∉ [z, TI, TO, i1, i2] → s.heap.get? c = some o → h''.get? c = some o := by
      intro c o hb q
      simp only [List.mem_cons, List.not_mem_nil, or_false, not_or] at hb
      exact (sb.2 c hb.1).trans (hkp c o hb.1 hb.2.2.1 hb.2.2.2.1 hb.2.2.2.2 q)
    have hT2 : h''.get? s.heap.objs.size = some { cls := .type "tuple", data := .seq #[u, u2] } := (sb.2 _ (Nat.ne_of_gt hzl)).trans hT
    have new : ObjOk X.prog X.w (upd H s.heap.objs.size (.tup [x, y])) h'' s.heap.objs.size (.tup [x, y]) :=
      ⟨(by show 2 ≤ sizeLine; decide), [u, u2], .cons ru (.cons ru2 .nil), ⟨_, hT2, rfl, _, rfl⟩⟩
    have I1 : Inv X pins σ (upd H s.heap.objs.size (.tup [x, y])) { s with heap := h'', toks := tk } := I.turnedNew (t' := tk) (ch := [z, TI, TO, i1, i2]) off hf (Nat.le_refl _) new
    refine ⟨.ref s.heap.objs.size, _, I1, rfl, ⟨_, x, y, rfl, I.hok.fresh (Nat.le_refl _), rfl, hx', fun l hl => by rw [I.tuple_inj hl hqy]; exact hy⟩, ⟨z'', ?_, ⟨u, u2, ?_⟩, ?_, ?_⟩, ?_⟩
    · exact (sb.2 _ S.TIz).trans (hkp _ _ S.TIz S.TITO S.TIi1 S.TIi2 hTI)
    · exact (sb.2 _ S.TOz).trans TO'
    · obtain ⟨o1, q1, r1⟩ := h1'
      exact ⟨o1, (sb.2 _ (fun q => S.zi1 q.symm)).trans q1, r1⟩
    · exact h2'.at fun o q => (sb.2 _ (fun q => S.zi2 q.symm)).trans q
    · intro c hcm
      have hlt : c < s.heap.objs.size := by
        have e' : c = z ∨ c = TI ∨ c = TO ∨ c = i1 ∨ c = i2 := by simpa using hcm
        rcases e' with q | q | q | q | q
        · rw [q]; exact hzl
        · rw [q]; exact Heap.lt_size hTI
        · rw [q]; exact Heap.lt_size hTO
        · rw [q]; obtain ⟨_, e1, _⟩ := h1; exact Heap.lt_size e1
        · rw [q]; obtain ⟨_, e2, _⟩ := h2; exact Heap.lt_size e2
      rw [upd_ne (Nat.ne_of_lt hlt)]
      exact (hf c hcm).1
  done := by
    intro X hP hw hK hc i pins s σ H E I hf st hg
    subst hP hw hK
    obtain ⟨hz, hTI, ⟨x0, y0, hTO⟩, h1, h2⟩ := st
    obtain ⟨ys, hqy, l1, l2⟩ := hg
    obtain ⟨its2, rv2, p2, _⟩ := I.tuple hqy
    have raw : s.heap.DictRaw d es ep := ⟨o, I.kIn _ _ hk, hx, hd⟩
    have hh : X.A.in1.handled = none := I.ok.hd hc
    have n1 : ks.length = es.size := by
      have q := hv.length
      simpa using q
    have n2 : ys.length = its2.toArray.size := by
      have q := rv2.length
      simpa using q
    refine wpAny_pyNext_zipD2_end S (draws_keys hh i1 d nd es ep) (Draws.tuple hh i2 b nb its2.toArray) hz hTI hTO ⟨h1, raw⟩ ⟨h2, p2⟩ (by omega) (by omega) (by omega) ?_
    intro h' tk hkp
    refine ⟨rfl, I.turnedL (t' := tk) (ch := [z, TI, TO, i1, i2]) ?_ hf⟩
    intro c o hb q
    simp only [List.mem_cons, List.not_mem_nil, or_false, not_or] at hb
    exact hkp c o hb.1 hb.2.2.1 hb.2.2.2.1 hb.2.2.2.2 q
  self := fun A i s Q E st h => wpAny_pyIter_zip st.1 h
end
def iZipD (K : PySem.W.Frag) (ks : List V) (d : Addr) (ta : TA) : TI := fun σ H R => ta σ H fun vs H1 => ∃ b ys, vs = [.ref d, .ref b] ∧ SqT K H1 b ys ∧ R (ItzD K ks b) H1
theorem pi_zipD {X : Cx} {e e2 : Expr} {ta : TA} {p pos tpos : Pos} {elts : List Expr} {kk : Nat} {d : Addr} {ks : List V} (hg : Gl X "zip") (hm : X.mg "zip" = none) (kd : KDict X.K d ks) (ha : PA X [e, e2] ta)
    (hs : starEach [e, e2] X.env = (false, eval e X.env) :: starEach [e2] X.env := by rfl) (hpl : (backTo pos (starEach [e2] X.env)).any (·.1) = false := by rfl) :
    PI X (.Tuple elts kk tpos) (.Call (.Name "zip" p) [e, e2] [] pos) (iZipD X.K ks d ta) := by
  obtain ⟨o, es, ep, hk, hx, hd, hv, hn⟩ := kd
  constructor
  intro pins s σ H R I h
  refine Call_ (ld_blt I hg hm PyProof.Rows.boot_zip (PyProof.Rows.callWith_type1 (thn (ha.run pos pins s σ H _ I h) ?_) hs hpl))
  rintro us s1 ⟨vs, H1, I1, r1, b, ys, rfl, hqy, q⟩
  match us, r1 with
  | [u1, u2], .cons r (.cons r' .nil) =>
  obtain rfl : u1 = Value.ref d := r
  obtain rfl : u2 = Value.ref b := r'
  obtain ⟨its2, rv2, p2, _⟩ := I1.tuple hqy
  have ho : s1.heap.get? d = some o := I1.kIn _ _ hk
  have raw : s1.heap.DictRaw d es ep := ⟨o, ho, hx, hd⟩
  obtain ⟨o2, ho2, _⟩ := id p2
  refine zip_begins2 (begins_keys d hn es ep) (begins_tuple b its2.toArray) raw p2 ?_
  intro h' hz hTI hTO h1 h2 hsz hkp
  refine wpAny_pyIter_zip hz ?_
  have ld : d < s1.heap.objs.size := Heap.lt_size ho
  have lb : b < s1.heap.objs.size := Heap.lt_size ho2
  have S : ZipSep2 (s1.heap.objs.size + 4) (s1.heap.objs.size + 2) (s1.heap.objs.size + 3) s1.heap.objs.size (s1.heap.objs.size + 1) [s1.heap.objs.size, d] [s1.heap.objs.size + 1, b] :=
    zip_sep2 (fun c hc => by rw [List.mem_singleton.mp hc]; exact ld) (fun c hc => by rw [List.mem_singleton.mp hc]; exact lb)
  refine ⟨s1.heap.objs.size + 4, [s1.heap.objs.size + 4, s1.heap.objs.size + 2, s1.heap.objs.size + 3, s1.heap.objs.size, s1.heap.objs.size + 1], _, _, H1, rfl, I1.kept (t' := s1.toks) hkp,
    turn_zipD S (Nat.ne_of_lt ld) (Nat.ne_of_lt (Nat.lt_succ_of_lt lb)) hk hx hd hv, ⟨hz, hTI, ⟨_, _, hTO⟩, ⟨_, h1, rfl, rfl⟩, ⟨_, h2, rfl, rfl⟩⟩, ?_, q⟩
  intro c hcm
  have hle : s1.heap.objs.size ≤ c := by
    have e' : c = s1.heap.objs.size + 4 ∨ c = s1.heap.objs.size + 2 ∨ c = s1.heap.objs.size + 3 ∨ c = s1.heap.objs.size ∨ c = s1.heap.objs.size + 1 := by simpa using hcm
    rcases e' with z | z | z | z | z <;> rw [z]
    · exact Nat.le_add_right _ _
    · exact Nat.le_add_right _ _
    · exact Nat.le_add_right _ _
    · exact Nat.le_refl _
    · exact Nat.le_add_right _ _
  exact I1.fpOk hle (I1.hok.fresh hle)
/-- {k: v for .. in zip(d, t)}: the loop -/
theorem dc_zipD {K : PySem.W.Frag} {b : Addr} {ks ys : List V} {g : TG} {tt : TT} {tk tv : TE} {vs : List Nat} {σ : L2.St} {H1 : Hp} {D : Addr} {Qd : Hp → Prop} (hl : ys.length = ks.length) (Pv : Nat → Hp → Prop) (h0 : Pv 0 (upd H1 D (.dK [])))
    (hq : ∀ i H, Pv i H → SqT K H b ys)
    (hs : ∀ i x y T H, ks[i]? = some x → ys[i]? = some y → Pv i H → H T = none → g (.ref T) (wipe σ vs) (upd H T (.tup [x, y])) fun σ2 H2 => wipe σ2 vs = wipe σ vs ∧ tt σ2 H2 fun c H3 =>
      if c = true then tk σ2 H3 fun y H4 => tv σ2 H4 fun z H5 => ∃ kvs k, y = kV k ∧ H5 D = some (.dK kvs) ∧ kvs.length < sizeLine ∧ Pv (i + 1) (upd H5 D (.dK (putK kvs k z))) else Pv (i + 1) H3)
    (hd : ∀ H, Pv ks.length H → Qd H) :
    ∃ W : Nat → Nat → Hp → Prop, (∃ m, W 0 m (upd H1 D (.dK []))) ∧ ∀ i m H, W i m H →
      ((ItzD K ks b).stop i H ∧ Qd H) ∨ ((ItzD K ks b).go i H ∧ ∃ Nx : Hp → Prop, (∀ H', Nx H' → ∃ m', m' < m ∧ W (i + 1) m' H') ∧ ∀ x H', (ItzD K ks b).yld i H x H' → g x (wipe σ vs) H' fun σ2 H2 => wipe σ2 vs = wipe σ vs ∧ tt σ2 H2 fun c H3 =>
        if c = true then tk σ2 H3 fun y H4 => tv σ2 H4 fun z H5 => ∃ kvs k, y = kV k ∧ H5 D = some (.dK kvs) ∧ kvs.length < sizeLine ∧ Nx (upd H5 D (.dK (putK kvs k z))) else Nx H3) := by
  refine ⟨fun i m H => m = ks.length - i ∧ i ≤ ks.length ∧ Pv i H, ⟨ks.length, by simp, Nat.zero_le _, h0⟩, ?_⟩
  rintro i m H ⟨rfl, hi, p⟩
  have S := hq i H p
  by_cases hlt : i < ks.length
  · have hlt2 : i < ys.length := by omega
    refine .inr ⟨⟨ys, ks[i], ys[i], S, List.getElem?_eq_getElem hlt, List.getElem?_eq_getElem hlt2⟩, Pv (i + 1), fun H' p' => ⟨ks.length - (i + 1), by omega, rfl, hlt, p'⟩, ?_⟩
    rintro x H' ⟨T, y1, y2, rfl, nT, rfl, e1, e2⟩
    exact hs i y1 y2 T H e1 (e2 ys S) p nT
  · have e : i = ks.length := by omega
    subst e
    exact .inl ⟨⟨ys, S, hl, rfl⟩, hd H p⟩
end Ev

namespace Ev
open PySem PySem.Spec PyProof.Rows L2 He
/-! ### the head, defs found by paths of one's own -/
abbrev DefP := He5.DefA
def obsP (fn : List DefP) (ex : PySem.W.Frag → Bool) (K : PySem.W.Frag) : AlV := (ex K && fn.all fun d => d.ok K, fn.map fun d => He5.fnA K (d.at_ K), initObs K)
def valP (fn : List DefP) (vi : FnI) : AlV := (true, fn.map He5.DefA.val, vi)
def obsPG (n : Nat) (fn : List DefP) (ex : PySem.W.Frag → Bool) (g : Addr → Option Obj) : AlV := obsP fn ex (frG g (asV g n))
def hookP (n : Nat) (fn : List DefP) (vi : FnI) (ex : PySem.W.Frag → Bool) : PySem.W.Hook where
  α := AlV
  obs := fun s => obsPG n fn ex s.heap.get?
  val := fun _ => valP fn vi
  says := fun _ h => ∃ K : PySem.W.Frag, K.In h ∧ obsP fn ex K = valP fn vi
  of := fun _ _ e => ⟨_, frG_in, e⟩
  keeps := fun _ _ _ ⟨K, hK, c⟩ k => ⟨K, PySem.W.Frag.In.keeps hK k, c⟩
theorem obsPG_eq {n : Nat} {fn : List DefP} {vi : FnI} {ex : PySem.W.Frag → Bool} {g : Addr → Option Obj} {s : Shared} (h : ∀ a, g a = s.heap.get? a) : obsPG n fn ex g = (hookP n fn vi ex).obs s := by
  have e : g = s.heap.get? := funext h
  rw [e] <;> rfl
theorem saysP {fn : List DefP} {vi : FnI} {ex : PySem.W.Frag → Bool} {K : PySem.W.Frag} (c : obsP fn ex K = valP fn vi) : ex K = true ∧ initObs K = vi ∧ He5.SaysA [] fn K := by
  have c1 : (ex K && fn.all fun d => d.ok K) = true := congrArg (fun z : AlV => z.1) c
  have c2 : (fn.map fun d => He5.fnA K (d.at_ K)) = fn.map He5.DefA.val := congrArg (fun z : AlV => z.2.1) c
  have c3 : initObs K = vi := congrArg (fun z : AlV => z.2.2) c
  obtain ⟨h1, h2⟩ := ba c1
  refine ⟨h1, c3, ?_⟩
  show ((([] : List Fa).all fun f => f.ok K) && fn.all fun d => d.ok K, fn.map fun d => He5.fnA K (d.at_ K)) = (true, fn.map He5.DefA.val)
  rw [c2, h2]
  rfl
/-! ### a property of an own class -/
def pAd (c x : Str) (K : PySem.W.Frag) : Addr := ma K (ga K c) x
def gAd (c x : Str) (K : PySem.W.Frag) : Addr := match PySem.W.recIn K (pAd c x K) "property" with
  | some (.ref g :: _) => g
  | _ => 0
def recB (K : PySem.W.Frag) (p g : Addr) : Bool := match PySem.W.recIn K p "property" with
  | some (.ref g' :: _) => decide (g' = g)
  | _ => false
def propB (c x : Str) (K : PySem.W.Frag) : Bool := eqO (PySem.W.findIn K (.ref (ga K c)) x) (some (some (.ref (pAd c x K)))) && (eqO (PySem.W.specialIn K (.ref (pAd c x K)) "__get__") (some (some (.builtin "property.__get__"))) &&
  (eqB (PySem.W.takesIn K (.ref (pAd c x K))) (some true) && recB K (pAd c x K) (gAd c x K)))
theorem propB_ok {c x : Str} {K : PySem.W.Frag} (h : propB c x K = true) : PropOf K (ga K c) x (pAd c x K) (gAd c x K) := by
  obtain ⟨h1, h⟩ := ba h
  obtain ⟨h2, h⟩ := ba h
  obtain ⟨h3, h4⟩ := ba h
  refine ⟨eqO_ok h1, eqO_ok h2, eqB_ok h3, ?_⟩
  unfold recB at h4
  split at h4
  · rename_i g' rest e
    obtain rfl := of_decide_eq_true h4
    exact ⟨rest, e⟩
  · cases h4
/-! ### a class whose instances isinstance knows -/
def tyB (c : Str) (K : PySem.W.Frag) : Bool := (Fa.cls c).ok K && (eqO (PySem.W.findIn K (.ref (ga K c)) "__class__") (some (some (.builtin "object.__class__"))) && (eqO (PySem.W.specialIn K (.builtin "object.__class__") "__get__") (some (some (.builtin "getset_descriptor.__get__"))) &&
  (eqB (PySem.W.takesIn K (.builtin "object.__class__")) (some true) && eqB (PySem.W.mroIn K (ga K c) (.type "object")) (some true))))
theorem tyB_ok {c : Str} {K : PySem.W.Frag} (h : tyB c K = true) : Cls K (ga K c) ∧ ∀ (H : Hp) (a dx : Addr) (fs : List (Str × V)), H a = some (.ins (ga K c) dx fs) → TyX K H (.ref a) (.ref (ga K c)) := by
  obtain ⟨h1, h⟩ := ba h
  obtain ⟨h2, h⟩ := ba h
  obtain ⟨h3, h⟩ := ba h
  obtain ⟨h4, h5⟩ := ba h
  exact ⟨cls_ok h1, fun H a dx fs e => .base (.ins e (cls_ok h1) (eqO_ok h2) (eqO_ok h3) (eqB_ok h4) (eqB_ok h5))⟩
/-! ### a written dict by its keys -/
def kdictB (K : PySem.W.Frag) (d : Addr) (ks : List V) : Bool := match K.lookup d with
  | some ⟨.type c, none, .dict es _, sl⟩ => decide (c = "dict") && (sl.isEmpty && (relAll ks (es.toList.map (·.key)) && !(d == sysModules)))
  | _ => false
theorem kdictB_ok {K : PySem.W.Frag} {d : Addr} {ks : List V} (h : kdictB K d ks = true) : KDict K d ks := by
  unfold kdictB at h
  split at h
  · rename_i c es ep sl e
    obtain ⟨h1, h⟩ := ba h
    obtain ⟨h2, h⟩ := ba h
    obtain ⟨h3, h4⟩ := ba h
    obtain rfl := of_decide_eq_true h1
    have hs : sl = #[] := Array.isEmpty_iff.mp h2
    exact ⟨_, es, ep, e, ⟨rfl, rfl, hs⟩, rfl, relAll_ok h3, by simpa using h4⟩
  · cases h
end Ev

namespace Ev
open PySem PySem.Spec PyProof.Rows L2
def top (i : Nat) : Stmt := PySem.Challenge.pw_everyrun_k07_prices.main.body.getD i (.Pass ⟨0, 0, 0, 0⟩)
abbrev FnP (K : PySem.W.Frag) (x : Str) (st : Stmt) (f : Addr) (fd : FuncData) : Prop := FunD K x x (defArgs st) (defBody st) (defScope st) [] [] f fd
abbrev s_pot : Stmt := top 14
abbrev s_take : Stmt := top 15
abbrev s_of : Stmt := top 16
structure Free (mg : Str → Option Value) : Prop where
  f_len : mg "len" = none
  f_int : mg "int" = none
  f_abs : mg "abs" = none
  f_max : mg "max" = none
  f_min : mg "min" = none
  f_range : mg "range" = none
  f_repr : mg "repr" = none
  f_isinstance : mg "isinstance" = none
  f_enumerate : mg "enumerate" = none
  f_bool : mg "bool" = none
  f_zip : mg "zip" = none
  f_list : mg "list" = none
  f_tuple : mg "tuple" = none
theorem sc_pot : FnScope ["_law_script", "_law_number", "_law_cell", "_law_own", "_law_mixed"] ["_law_script", "_law_number"] (defScope s_pot) := ⟨rfl, rfl, rfl, by decide +kernel, rfl, by decide +kernel, by decide +kernel⟩
theorem sc_take : FnScope ["_law_pot_here", "_law_upto", "_law_digit", "_law_prime", "_law_mixed"] ["_law_pot_here", "_law_upto"] (defScope s_take) := ⟨rfl, rfl, rfl, by decide +kernel, rfl, by decide +kernel, by decide +kernel⟩
section
variable {P : Program} {w : World} {K : PySem.W.Frag} {mg : Str → Option Value} {base : Heap} {f : Addr} {fd : FuncData} {k : Nat}
theorem ok_take (G : Free mg) (F : FnP K "_law_take" s_take f fd) : FnOk P w K mg base CX0 (k + 1) f fd ["_law_pot_here", "_law_upto"] spTake := by
  refine F.ok sc_take (fun vs H Q E h => ?_) (fun cdv A outer s H vs Q E hr h => ?_)
  · obtain ⟨p, n, u, rfl, _⟩ := h
    rfl
  obtain ⟨p, n, u, rfl, hu1, hu2, hP, q⟩ := h
  refine ⟨_, PSs.nox (pss_cons (ps_if (pt_cmpR op_gt (pe_ix ix_list (pv 0) pe_int (fun _ _ => rfl)) pe_int (nomark _))
    (pss_cons (ps_set (i := 2) sc_take.nd rfl (.inl rfl) (pe_op op_mod (pe_callTy call_int1 (by rfl) G.f_int (by decide +kernel) (pa_cons (pe_ix ix_list (pv 0) pe_int (fun _ _ => rfl)) pa_nil)) (pv 1)))
      (pss_cons (ps_asg (pe_op op_fdivN (pe_ix ix_list (pv 0) pe_int (fun _ _ => rfl)) (pv 1)) (pg_sub (pv 0) pe_int set_list))
        (pss_one (ps_ret (pv 2)))))
    pss_nil)
    (pss_cons (ps_asg (pe_op op_add (pe_ix ix_list (pv 0) pe_int (fun _ _ => rfl)) pe_int) (pg_sub (pv 0) pe_int set_list))
      (pss_cons (ps_set (i := 3) sc_take.nd rfl (.inl rfl) (pe_ix ix_list (pe_lst (pa_cons pe_int (pa_cons pe_int (pa_cons pe_int (pa_cons pe_int (pa_cons pe_int pa_nil)))))) (pe_op op_mod (pe_callTy call_int1 (by rfl) G.f_int (by decide +kernel) (pa_cons (pe_ix ix_list (pv 0) pe_int (fun _ _ => rfl)) pa_nil)) pe_int) (fun _ _ => rfl)))
        (pss_cons (ps_set (i := 4) sc_take.nd rfl (.inl rfl) (pe_op op_mod (pe_callTy call_int1 (by rfl) G.f_int (by decide +kernel) (pa_cons (pe_op op_pow (pe_callTy call_int1 (by rfl) G.f_int (by decide +kernel) (pa_cons (pe_op op_add (pe_op op_add (pe_ix ix_list (pv 0) pe_int (fun _ _ => rfl)) (pe_op op_mul (pe_op op_mul pe_int (pe_ix ix_list (pv 0) pe_int (fun _ _ => rfl))) (pe_ix ix_list (pv 0) pe_int (fun _ _ => rfl)))) pe_int) pa_nil)) pe_int) pa_nil)) (pv 3)))
          (pss_cons (ps_set (i := 4) sc_take.nd rfl (.inl rfl) (pe_op op_mod (pe_callTy call_int1 (by rfl) G.f_int (by decide +kernel) (pa_cons (pe_op op_mul (pv 4) (pe_op op_add (pe_op op_mod (pe_callTy call_int1 (by rfl) G.f_int (by decide +kernel) (pa_cons (pv 4) pa_nil)) pe_int) (pe_op op_mul pe_int (pe_ix ix_list (pv 0) pe_int (fun _ _ => rfl))))) pa_nil)) pe_int))
            (pss_one (ps_ret (pe_op op_mod (pe_callTy call_int1 (by rfl) G.f_int (by decide +kernel) (pa_cons (pe_op op_fdiv (pv 4) pe_int) pa_nil)) (pv 1))))))))), ?_⟩
  obtain ⟨o, m, c, hp, ho, hm, hm2, hc, hcn⟩ := hP
  have S : SqL K H p [.int o, .int m, .int c] := .inl (.inl hp)
  refine ⟨_, rfl, p, _, 0, .int o, rfl, rfl, S, rfl, _, _, rfl, rfl, _, rfl, ite2 (fun e => ?_) (fun e => ?_)⟩
  · have e0 : 0 < o := of_decide_eq_true e
    refine ⟨_, rfl, p, _, 0, .int o, rfl, rfl, S, rfl, .inl ⟨_, rfl, ?_⟩⟩
    refine ⟨_, rfl, _, _, rfl, rfl, (by omega), ?_⟩
    refine ⟨_, rfl, p, _, 0, .int o, rfl, rfl, S, rfl, _, rfl, _, _, rfl, rfl, ⟨by omega, by omega⟩, ?_⟩
    refine ⟨_, rfl, p, _, 0, 0, rfl, rfl, hp, rfl, _, rfl, ?_⟩
    refine q _ _ (Int.emod_nonneg _ (by omega)) (Int.emod_lt_of_pos _ (by omega)) KB.at ⟨o.fdiv u, m, c, upd_same, Int.fdiv_nonneg ho (by omega), hm, hm2, hc, by omega⟩
  · have e0 : ¬ 0 < o := fun z => e (decide_eq_true z)
    have hp1 : upd H p (.lst [.int o, .int m, .int (c + 1)]) p = some (.lst [.int o, .int m, .int (c + 1)]) := upd_same
    have S1 : SqL K (upd H p (.lst [.int o, .int m, .int (c + 1)])) p [.int o, .int m, .int (c + 1)] := .inl (.inl hp1)
    have fin : ∀ (H2 : Hp) (d : Int), 0 ≤ d → d < u → Same (upd H p (.lst [.int o, .int m, .int (c + 1)])) H2 → Q (.int d) H2 := fun H2 d d0 d1 sm =>
      q d H2 d0 d1 (KB.at.trans (KB.of_same sm)) ⟨o, m, c + 1, sm _ _ hp1, ho, hm, hm2, by omega, by omega⟩
    refine ⟨_, rfl, p, _, 2, .int c, rfl, rfl, S, rfl, _, _, rfl, rfl, _, rfl, p, _, 2, 2, rfl, rfl, hp, rfl, ?_⟩
    -- the prime
    refine ⟨(by show 5 ≤ sizeLine; decide), fun l nl => ?_⟩
    have sm := same_new (o := .lst [.int 2147483647, .int 2147483629, .int 2147483587, .int 2147483579, .int 2147483563]) nl
    have S2 := sm.seq S1
    have hl : SqL K (upd (upd H p (.lst [.int o, .int m, .int (c + 1)])) l (.lst [.int 2147483647, .int 2147483629, .int 2147483587, .int 2147483579, .int 2147483563])) l [.int 2147483647, .int 2147483629, .int 2147483587, .int 2147483579, .int 2147483563] := .inl (.inl upd_same)
    have hc5 : (c + 1) % 5 = 0 ∨ (c + 1) % 5 = 1 ∨ (c + 1) % 5 = 2 ∨ (c + 1) % 5 = 3 ∨ (c + 1) % 5 = 4 := by omega
    obtain ⟨pr, hpr, pr0, pr1⟩ : ∃ pr : Int, atI [V.int 2147483647, .int 2147483629, .int 2147483587, .int 2147483579, .int 2147483563] ((c + 1) % 5) = some (.int pr) ∧ 0 < pr ∧ pr < 2147483648 := by
      rcases hc5 with z | z | z | z | z <;> rw [z] <;> exact ⟨_, rfl, by decide, by decide⟩
    refine ⟨_, rfl, p, _, 2, .int (c + 1), rfl, rfl, S2, rfl, .inl ⟨_, rfl, _, _, rfl, rfl, (by show (0 : Int) < 5; decide), l, _, _, .int pr, rfl, rfl, hl, hpr, ?_⟩⟩
    -- mixed
    have c1 : 0 ≤ c + 1 := by omega
    have c2 : c + 1 ≤ 1048576 := by omega
    have b1 : 0 ≤ 100003 * (c + 1) * (c + 1) := Int.mul_nonneg (Int.mul_nonneg (by decide) c1) c1
    have b2 : 100003 * (c + 1) * (c + 1) ≤ 100003 * 1048576 * 1048576 :=
      Int.mul_le_mul (Int.mul_le_mul_of_nonneg_left c2 (by decide)) c2 c1 (by decide)
    refine ⟨_, rfl, p, _, 1, .int m, rfl, rfl, S2, rfl, _, rfl, p, _, 2, .int (c + 1), rfl, rfl, S2, rfl, _, _, rfl, rfl, .inl ⟨by decide, by decide⟩,
      _, rfl, p, _, 2, .int (c + 1), rfl, rfl, S2, rfl, _, _, rfl, rfl, .inr ⟨by omega, by omega⟩, _, _, rfl, rfl, _, _, rfl, rfl, .inl ⟨_, rfl, _, _, rfl, rfl, ⟨by decide, by decide, by omega⟩,
      .inl ⟨_, rfl, _, rfl, _, _, rfl, rfl, pr0, ?_⟩⟩⟩
    have mx0 : 0 ≤ (m + 100003 * (c + 1) * (c + 1) + 37) ^ (3 : Int).toNat % pr := Int.emod_nonneg _ (by omega)
    have mx1 : (m + 100003 * (c + 1) * (c + 1) + 37) ^ (3 : Int).toNat % pr < 2147483648 := Int.lt_trans (Int.emod_lt_of_pos _ pr0) pr1
    refine ⟨_, rfl, _, rfl, .inl ⟨_, rfl, _, _, rfl, rfl, (by show (0 : Int) < 10037; decide), _, rfl, p, _, 2, .int (c + 1), rfl, rfl, S2, rfl, _, _, rfl, rfl, .inl ⟨by decide, by decide⟩, _, _, rfl, rfl, _, _, rfl, rfl,
      .inl ⟨Int.lt_of_lt_of_le (by decide) mx0, Int.lt_trans mx1 (by decide)⟩, .inl ⟨_, rfl, _, _, rfl, rfl, (by show (0 : Int) < 2305843009213693907; decide), ?_⟩⟩⟩
    refine ⟨_, rfl, _, _, rfl, rfl, ⟨by decide, by decide⟩, .inl ⟨_, rfl, _, rfl, _, _, rfl, rfl, (by omega), ?_⟩⟩
    exact fin _ _ (Int.emod_nonneg _ (by omega)) (Int.emod_lt_of_pos _ (by omega)) sm
end
theorem sc_of : FnScope ["_law_pot_here", "_law_some"] ["_law_pot_here", "_law_some"] (defScope s_of) := ⟨rfl, rfl, rfl, by decide +kernel, rfl, by decide +kernel, by decide +kernel⟩
section
variable {P : Program} {w : World} {K : PySem.W.Frag} {mg : Str → Option Value} {base : Heap} {f f1 : Addr} {fd fd1 : FuncData} {k : Nat}
theorem ok_of (G : Free mg) (F : FnP K "_law_of" s_of f fd) (F1 : FnP K "_law_take" s_take f1 fd1) (g1 : mg "_law_take" = some (.ref f1)) : FnOk P w K mg base CX0 (k + 2) f fd ["_law_pot_here", "_law_some"] (spOf K) := by
  have b1 : Binds K fd1 ["_law_pot_here", "_law_upto"] [] := F1.bindsN fun _ _ _ _ _ _ us hl => match us, hl with | [_, _], _ => rfl
  refine F.ok sc_of (fun vs H Q E h => ?_) (fun cdv A outer s H vs Q E hr h => ?_)
  · obtain ⟨p, a, n, xs, rfl, _⟩ := h
    rfl
  obtain ⟨p, a, n, xs, rfl, hne, S, h1, h2, hP, q⟩ := h
  refine ⟨_, PSs.nox (pss_one (ps_ret (pe_ix ix_list (pv 1) (pe_call (ok_take (k := k) G F1) hr (by rfl) g1 F1.kp b1 .nil pass0 (pa_cons (pv 0) (pa_cons (pe_callB call_len_seq (by rfl) G.f_len (by decide +kernel) (pa_cons (pv 1) pa_nil)) pa_nil))) (fun _ _ => rfl)))), ?_⟩
  refine ⟨_, rfl, _, rfl, _, rfl, a, xs, rfl, .inl S, p, n, _, rfl, by omega, by omega, hP, fun d H' d0 d1 kb hP' => ?_⟩
  obtain ⟨v, hv, hm⟩ := at_mem d0 d1
  exact ⟨a, xs, d, v, rfl, rfl, kb.sq S hne, hv, q v H' hm kb hP'⟩
theorem ok_pot (G : Free mg) (F : FnP K "_law_pot" s_pot f fd) : FnOk P w K mg base CX0 (k + 1) f fd ["_law_script", "_law_number"] (spPot K) := by
  refine F.ok sc_pot (fun vs H Q E h => ?_) (fun cdv A outer s H vs Q E hr h => ?_)
  · obtain ⟨a, ns, j, rfl, _⟩ := h
    rfl
  obtain ⟨a, ns, j, rfl, S, hj, q⟩ := h
  refine ⟨_, PSs.nox (pss_cons (ps_set (i := 2) sc_pot.nd rfl (.inl rfl) (pe_ifExp (pt_cmpR op_lt (pv 1) (pe_callB call_len_seq (by rfl) G.f_len (by decide +kernel) (pa_cons (pv 0) pa_nil)) (nomark _)) (pe_ix ix_list (pv 0) (pv 1) (fun _ _ => rfl)) (pe_op op_add (pe_op op_mul pe_int (pv 1)) pe_int)))
    (pss_cons (ps_set (i := 3) sc_pot.nd rfl (.inl rfl) (pe_op op_mul (pe_op op_modN (pe_callTy call_int1 (by rfl) G.f_int (by decide +kernel) (pa_cons (pe_callB call_abs (by rfl) G.f_abs (by decide +kernel) (pa_cons (pv 2) pa_nil)) pa_nil)) (pe_op op_powW (pe_op op_pow pe_int pe_int) pe_int)) (pe_callTy call_int1 (by rfl) G.f_int (by decide +kernel) (pa_cons (pe_cmpR op_ge (pe_callB call_abs (by rfl) G.f_abs (by decide +kernel) (pa_cons (pv 2) pa_nil)) (pe_op op_pow pe_int pe_int) (nomark _)) pa_nil))))
      (pss_cons (ps_set (i := 4) sc_pot.nd rfl (.inl rfl) (pe_op op_add (pe_op op_add (pe_op op_mul (pe_op op_mod (pe_callTy call_int1 (by rfl) G.f_int (by decide +kernel) (pa_cons (pv 2) pa_nil)) pe_int) pe_int) (pe_op op_mul (pe_op op_mul pe_int (pv 1)) (pv 1))) pe_int))
        (pss_one (ps_ret (pe_lst (pa_cons (pv 3) (pa_cons (pe_op op_mod (pe_callTy call_int1 (by rfl) G.f_int (by decide +kernel) (pa_cons (pv 4) pa_nil)) pe_int) (pa_cons pe_int pa_nil))))))))), ?_⟩
  have big : ((10 : Int) ^ (60 : Int).toNat) ^ (5 : Int).toNat ≠ 0 := by decide +kernel
  have pw : (0 : Int) ≤ 5 ∧ (Builtin.Int.intBits ((10 : Int) ^ (60 : Int).toNat) : Int) * 5 ≤ 2 ^ 27 := ⟨by decide, by decide +kernel⟩
  have p1 : CPow 10 60 := ⟨by decide, by decide, by decide⟩
  have p2 : CPow 10 18 := ⟨by decide, by decide, by decide⟩
  have small : ∀ (c : Bool) (i : Int), CMul i (if c = true then 1 else 0) := fun c i => .inr (by cases c <;> exact ⟨by decide, by decide⟩)
  have jj : CMul 6427 (j : Int) := .inl ⟨by decide, by decide⟩
  have jj2 : CMul (6427 * (j : Int)) (j : Int) := .inr ⟨by omega, by omega⟩
  have m1 : ∀ i : Int, CMul (i % 2305843009213693951) 71011 := fun i => .inr ⟨by decide, by decide⟩
  have fm : ∀ (i : Int) (c : Bool), 0 ≤ (if i < 0 then -i else i).fmod (((10 : Int) ^ (60 : Int).toNat) ^ (5 : Int).toNat) * (if c = true then 1 else 0) := fun i c => by
    refine Int.mul_nonneg ?_ (by cases c <;> decide)
    have h0 : 0 ≤ ((10 : Int) ^ (60 : Int).toNat) ^ (5 : Int).toNat := by decide +kernel
    rw [Int.fmod_eq_emod_of_nonneg _ h0]
    exact Int.emod_nonneg _ big
  have fin : ∀ (o x : Int) (l : Addr), 0 ≤ o → H l = none → Q (.ref l) (upd H l (.lst [.int o, .int (x % 2305843009213693921), .int 0])) := fun o x l h0 nl =>
    q l _ nl (same_new nl) ⟨o, _, 0, upd_same, h0, Int.emod_nonneg _ (by decide), Int.emod_lt_of_pos _ (by decide), by decide, by decide⟩
  refine ⟨_, rfl, _, rfl, a, _, rfl, .inl S, _, _, rfl, rfl, _, rfl, ite2 (fun e => ?_) (fun e => ?_)⟩
  · have e0 : j < ns.length := by
      have e1 := of_decide_eq_true e
      rw [List.length_map] at e1
      omega
    refine ⟨_, rfl, _, rfl, a, _, _, .int ns[j], rfl, rfl, S, atI_nat (by rw [List.getElem?_map, List.getElem?_eq_getElem e0]; rfl), ?_⟩
    refine ⟨_, rfl, _, rfl, .inl ⟨_, rfl, _, _, rfl, rfl, p1, _, _, rfl, rfl, pw, _, _, rfl, rfl, big, _, rfl, _, rfl, _, _, rfl, rfl, p2, _, _, rfl, rfl, .inr ⟨_, rfl, _, _, rfl, rfl, small _ _, ?_⟩⟩⟩
    refine ⟨_, rfl, .inl ⟨_, rfl, _, _, rfl, rfl, (by show (0 : Int) < 2305843009213693951; decide), _, _, rfl, rfl, m1 _, _, rfl, _, _, rfl, rfl, jj, _, rfl, _, _, rfl, rfl, jj2, _, _, rfl, rfl, _, _, rfl, rfl, ?_⟩⟩
    refine ⟨_, rfl, _, rfl, .inl ⟨_, rfl, _, _, rfl, rfl, (by show (0 : Int) < 2305843009213693921; decide), (by show 3 ≤ sizeLine; decide), fun l nl => ?_⟩⟩
    exact fin _ _ l (fm _ _) nl
  · refine ⟨_, rfl, _, _, rfl, rfl, .inl ⟨by decide, by decide⟩, _, _, rfl, rfl, ?_⟩
    refine ⟨_, rfl, _, rfl, .inl ⟨_, rfl, _, _, rfl, rfl, p1, _, _, rfl, rfl, pw, _, _, rfl, rfl, big, _, rfl, _, rfl, _, _, rfl, rfl, p2, _, _, rfl, rfl, .inr ⟨_, rfl, _, _, rfl, rfl, small _ _, ?_⟩⟩⟩
    refine ⟨_, rfl, .inl ⟨_, rfl, _, _, rfl, rfl, (by show (0 : Int) < 2305843009213693951; decide), _, _, rfl, rfl, m1 _, _, rfl, _, _, rfl, rfl, jj, _, rfl, _, _, rfl, rfl, jj2, _, _, rfl, rfl, _, _, rfl, rfl, ?_⟩⟩
    refine ⟨_, rfl, _, rfl, .inl ⟨_, rfl, _, _, rfl, rfl, (by show (0 : Int) < 2305843009213693921; decide), (by show 3 ≤ sizeLine; decide), fun l nl => ?_⟩⟩
    exact fin _ _ l (fm _ _) nl
end
end Ev

namespace Ev
open PySem PySem.Spec PyProof.Rows L2
/-! ### odd values -/
/-- a value of a plain kind, with what it is to isinstance -/
inductive Odd (H : Hp) : V → Prop
  | non : Odd H .non
  | bl (b : Bool) : Odd H (.bl b)
  | int (i : Int) : Odd H (.int i)
  | str (x : Str) : Odd H (.str x)
  | tup {a : Addr} {xs : List V} : H a = some (.tup xs) → Odd H (.ref a)
  | lst {a : Addr} {xs : List V} : H a = some (.lst xs) → Odd H (.ref a)
  | dct {a : Addr} {kvs : List (Key × V)} : H a = some (.dK kvs) → Odd H (.ref a)
theorem Odd.mono {H H' : Hp} {v : V} (s : Same H H') (h : Odd H v) : Odd H' v := by
  cases h with
  | non => exact .non
  | bl b => exact .bl b
  | int i => exact .int i
  | str x => exact .str x
  | tup e => exact .tup (s _ _ e)
  | lst e => exact .lst (s _ _ e)
  | dct e => exact .dct (s _ _ e)
def isIntV : V → Bool
  | .int _ => true
  | _ => false
def isBoolV : V → Bool
  | .bl _ => true
  | _ => false
theorem Odd.ty {K : PySem.W.Frag} {H : Hp} {v : V} (h : Odd H v) : ∃ t, TyX K H v t ∧ PySem.W.kitOne K t (.type "int") = some (isIntV v || isBoolV v) ∧ PySem.W.kitOne K t (.type "bool") = some (isBoolV v) := by
  cases h with
  | non => exact ⟨_, .base .non, kit_ty (r := false) (by decide +kernel), kit_ty (r := false) (by decide +kernel)⟩
  | bl b => exact ⟨_, .base (.bl b), kit_ty (r := true) (by decide +kernel), kit_ty (r := true) (by decide +kernel)⟩
  | int i => exact ⟨_, .base (.int i), kit_ty (r := true) (by decide +kernel), kit_ty (r := false) (by decide +kernel)⟩
  | str x => exact ⟨_, .base (.str x), kit_ty (r := false) (by decide +kernel), kit_ty (r := false) (by decide +kernel)⟩
  | tup e => exact ⟨_, .base (.tup e), kit_ty (r := false) (by decide +kernel), kit_ty (r := false) (by decide +kernel)⟩
  | lst e => exact ⟨_, .base (.lst e), kit_ty (r := false) (by decide +kernel), kit_ty (r := false) (by decide +kernel)⟩
  | dct e => exact ⟨_, .base (.dK e), kit_ty (r := false) (by decide +kernel), kit_ty (r := false) (by decide +kernel)⟩
def upTo (i : Int) : Option Int → Bool
  | none => true
  | some u => decide (i ≤ u)
def intOk (v : V) (l : Int) (m : Option Int) : Bool := match v with
  | .int i => decide (l ≤ i) && upTo i m
  | _ => false
def mV : Option Int → V
  | none => .non
  | some u => .int u
def spInt : Sp := fun vs H Q _ => ∃ (v : V) (l : Int) (m : Option Int), vs = [v, .int l, mV m] ∧ Odd H v ∧ Q (.bl (intOk v l m)) H
abbrev s_int : Stmt := top 4
abbrev s_price : Stmt := top 10
theorem sc_int : FnScope ["value", "least", "most"] ["value", "least", "most"] (defScope s_int) := ⟨rfl, rfl, rfl, by decide +kernel, rfl, by decide +kernel, by decide +kernel⟩
theorem sc_price : FnScope ["word", "value"] ["word", "value"] (defScope s_price) := ⟨rfl, rfl, rfl, by decide +kernel, rfl, by decide +kernel, by decide +kernel⟩
section
variable {P : Program} {w : World} {K : PySem.W.Frag} {mg : Str → Option Value} {base : Heap} {f f1 : Addr} {fd fd1 : FuncData} {k : Nat} {dvs : List V} {kws : List (Str × V)}
theorem ok_int (G : Free mg) (F : FunD K "is_integer" "is_integer" (defArgs s_int) (defBody s_int) (defScope s_int) dvs kws f fd) : FnOk P w K mg base CX0 (k + 1) f fd ["value", "least", "most"] spInt := by
  refine F.ok sc_int (fun vs H Q E h => ?_) (fun cdv A outer s H vs Q E hr h => ?_)
  · obtain ⟨v, l, m, rfl, _⟩ := h
    rfl
  obtain ⟨v, l, m, rfl, ho, q⟩ := h
  refine ⟨_, PSs.nox (pss_cons (ps_if (PW.pt (pw_or (pt_not (pt_val (pe_callB call_isi (by rfl) G.f_isinstance bt_isinstance (pa_cons (pv 0) (pa_cons (pe_bltn (v := .ty "int") (by rfl) G.f_int (by decide +kernel) rfl) pa_nil))))) (pw_or (pt_val (pe_callB call_isi (by rfl) G.f_isinstance bt_isinstance (pa_cons (pv 0) (pa_cons (pe_bltn (v := .ty "bool") (by rfl) G.f_bool (by decide +kernel) rfl) pa_nil)))) (pw_or1 (pt_cmpR op_lt (pv 0) (pv 1) (nomark _))))))
    (pss_one (ps_ret pe_bl))
    pss_nil)
    (pss_one (ps_ret (pe_or (pe_cmpR op_isN (pv 2) pe_non (nomark _)) (pe_one (pe_cmpR op_le (pv 0) (pv 2) (nomark _))))))), ?_⟩
  obtain ⟨t, ty, k1, k2⟩ := ho.ty (K := K)
  refine ⟨_, rfl, v, _, t, _, _, rfl, .ty "int", ty, k1, _, rfl, ?_⟩
  cases v with
  | int i =>
    refine iteF ⟨_, rfl, _, _, t, _, _, rfl, .ty "bool", ty, k2, _, rfl, iteF ?_⟩
    refine ⟨_, rfl, _, rfl, _, _, rfl, rfl, _, rfl, ite2 (fun e => ?_) (fun e => ?_)⟩
    · have e1 : i < l := of_decide_eq_true e
      have z : intOk (.int i) l m = false := by
        show (decide (l ≤ i) && upTo i m) = false
        rw [decide_eq_false (by omega), Bool.false_and]
      rw [z] at q
      exact q
    · have e1 : ¬ i < l := fun z => e (decide_eq_true z)
      have z : intOk (.int i) l m = upTo i m := by
        show (decide (l ≤ i) && upTo i m) = upTo i m
        rw [decide_eq_true (by omega), Bool.true_and]
      rw [z] at q
      cases m with
      | none => exact ⟨_, rfl, rfl, _, rfl, iteT q⟩
      | some u => exact ⟨_, rfl, rfl, _, rfl, iteF ⟨_, rfl, _, rfl, _, _, rfl, rfl, q⟩⟩
  | bl b =>
    exact iteF ⟨_, rfl, _, _, t, _, _, rfl, .ty "bool", ty, k2, _, rfl, iteT (iteT q)⟩
  | non => exact iteT (iteT q)
  | str x => exact iteT (iteT q)
  | ref a => exact iteT (iteT q)
  | byt b => cases ho
  | flt b => cases ho
  | ty n => cases ho
end
end Ev

namespace Ev
open PySem PySem.Spec PyProof.Rows L2
def words : List Str := ["jump", "far", "branch", "call", "back", "throw", "push", "drop", "search", "catch", "reach"]
def priceOk (x : Str) (v : V) : Bool := if x = "reach" then intOk v 1 (some 99) else intOk v 0 (some 9)
def spPrice : Sp := fun vs H Q _ => ∃ (x : Str) (v : V), vs = [.str x, v] ∧ Odd H v ∧ Q (.bl (priceOk x v)) H
/-- the module's own numbers -/
structure Nums (K : PySem.W.Frag) (mg : Str → Option Value) : Prop where
  reach : ∃ t, mg "REACH" = some (.str "reach" t)
  mreach : ∃ t, mg "MOST_REACH" = some (.int 99 t)
  mprice : ∃ t, mg "MOST_PRICE" = some (.int 9 t)
  prices : ∃ d, mg "PRICES" = some (.ref d) ∧ KDict K d (words.map V.str)
abbrev FnInt (K : PySem.W.Frag) (f : Addr) (fd : FuncData) : Prop := FunD K "is_integer" "is_integer" (defArgs s_int) (defBody s_int) (defScope s_int) [.non] [] f fd
section
variable {P : Program} {w : World} {K : PySem.W.Frag} {mg : Str → Option Value} {base : Heap} {f f1 : Addr} {fd fd1 : FuncData} {k : Nat}
theorem binds_int (F : FnInt K f fd) : Binds K fd ["value", "least", "most"] [] := by
  obtain ⟨ds, hd, hb⟩ := FunD.binds1 (ps := ["value", "least", "most"]) F 3 1 (by simp) rfl fun T kV doc pm an cdv ct us its h1 h2 => match us, its, h1, h2 with
    | [_, _, _], [_], _, _ => ⟨_, rfl, rfl⟩
  cases hd
  exact hb
theorem ok_price (G : Free mg) (N : Nums K mg) (F : FnP K "is_price" s_price f fd) (F1 : FnInt K f1 fd1) (g1 : mg "is_integer" = some (.ref f1)) : FnOk P w K mg base CX0 (k + 2) f fd ["word", "value"] spPrice := by
  have b1 := binds_int F1
  obtain ⟨t1, hR⟩ := N.reach
  obtain ⟨t2, hMR⟩ := N.mreach
  obtain ⟨t3, hMP⟩ := N.mprice
  refine F.ok sc_price (fun vs H Q E h => ?_) (fun cdv A outer s H vs Q E hr h => ?_)
  · obtain ⟨x, v, rfl, _⟩ := h
    rfl
  obtain ⟨x, v, rfl, ho, q⟩ := h
  refine ⟨_, PSs.nox (pss_one (ps_ret (pe_ifExp (pt_cmpR op_eq (pv 0) (pe_glob (v := .str "reach") rfl hR ⟨_, rfl⟩) (nomark _)) (pe_call (ok_int (k := k) G F1) hr (by rfl) g1 F1.kp b1 .nil pass0 (pa_cons (pv 1) (pa_cons pe_int (pa_cons (pe_glob (v := .int 99) rfl hMR ⟨_, rfl⟩) pa_nil)))) (pe_call (ok_int (k := k) G F1) hr (by rfl) g1 F1.kp b1 .nil pass0 (pa_cons (pv 1) (pa_cons pe_int (pa_cons (pe_glob (v := .int 9) rfl hMP ⟨_, rfl⟩) pa_nil))))))), ?_⟩
  refine ⟨_, rfl, rfl, _, rfl, ite2 (fun e => ?_) (fun e => ?_)⟩
  · have e1 : x = "reach" := by
      have z := of_decide_eq_true e
      injection z
    have z : priceOk x v = intOk v 1 (some 99) := by
      show (if x = "reach" then intOk v 1 (some 99) else intOk v 0 (some 9)) = _
      rw [if_pos e1]
    rw [z] at q
    exact ⟨_, rfl, v, 1, some 99, rfl, ho, q⟩
  · have e1 : x ≠ "reach" := fun z => e (decide_eq_true (congrArg V.str z))
    have z : priceOk x v = intOk v 0 (some 9) := by
      show (if x = "reach" then intOk v 1 (some 99) else intOk v 0 (some 9)) = _
      rw [if_neg e1]
    rw [z] at q
    exact ⟨_, rfl, v, 0, some 9, rfl, ho, q⟩
end
end Ev

namespace Ev
open PySem PySem.Spec PyProof.Rows L2
theorem putK_take {kvs : List (Key × V)} (nd : (kvs.map (·.1)).Nodup) {i : Nat} {k : Key} {v : V} (h : kvs[i]? = some (k, v)) : putK (kvs.take i) k v = kvs.take (i + 1) := by
  have hn : L2.valV (kvs.take i) k = none := by
    cases e : L2.valV (kvs.take i) k with
    | none => rfl
    | some y =>
      exfalso
      have hi : i < kvs.length := (List.getElem?_eq_some_iff.mp h).1
      unfold L2.valV at e
      obtain ⟨p, hp1, hp2⟩ := Option.map_eq_some_iff.mp e
      have hm := List.mem_of_find?_eq_some hp1
      have hk : p.1 = k := by simpa using List.find?_some hp1
      obtain ⟨j, hj⟩ := List.mem_iff_getElem?.mp hm
      have hji : j < i := by
        have z := (List.getElem?_eq_some_iff.mp hj).1
        rw [List.length_take] at z
        omega
      rw [List.getElem?_take_of_lt hji] at hj
      have a1 : (kvs.map (·.1))[j]? = some k := by rw [List.getElem?_map, hj, ← hk]; rfl
      have a2 : (kvs.map (·.1))[i]? = some k := by rw [List.getElem?_map, h]; rfl
      have := (List.getElem?_inj (by rw [List.length_map]; omega) nd).mp (a1.trans a2.symm)
      omega
  rw [putK_new v hn, List.take_succ, h]
  rfl
def rowKV (row : List V) : List (Key × V) := (words.zip row).map fun p => (.inr p.1, p.2)
theorem rowKV_keys {row : List V} (h : row.length = 11) : (rowKV row).map (·.1) = words.map Sum.inr := by
  unfold rowKV
  rw [List.map_map]
  have : ((fun x : Key × V => x.1) ∘ fun p : Str × V => ((Sum.inr p.1 : Key), p.2)) = (Sum.inr ∘ Prod.fst) := rfl
  rw [this, ← List.map_map, List.map_fst_zip (by rw [h]; decide)]
theorem rowKV_nd {row : List V} (h : row.length = 11) : ((rowKV row).map (·.1)).Nodup := by
  rw [rowKV_keys h]
  decide +kernel
theorem rowKV_get {row : List V} {i : Nat} {x y : V} (h1 : (words.map V.str)[i]? = some x) (h2 : row[i]? = some y) : ∃ z, x = .str z ∧ words[i]? = some z ∧ (rowKV row)[i]? = some (.inr z, y) := by
  rw [List.getElem?_map] at h1
  obtain ⟨z, hz, rfl⟩ := Option.map_eq_some_iff.mp h1
  refine ⟨z, rfl, hz, ?_⟩
  unfold rowKV
  rw [List.getElem?_map, List.getElem?_zip_eq_some.mpr (show words[i]? = some (z, y).1 ∧ row[i]? = some (z, y).2 from ⟨hz, h2⟩)]
  rfl
theorem rowKV_len {row : List V} (h : row.length = 11) : (rowKV row).length = 11 := by
  have z := congrArg List.length (rowKV_keys h)
  rw [List.length_map, List.length_map] at z
  exact z
/-- the first value that is no price -/
def badOf (row : List V) : Option V := ((words.zip row).find? fun p => !priceOk p.1 p.2).map (·.2)
def spInit (C B : Addr) : Sp := fun vs H Q E => ∃ (a dx : Addr) (row : List V), vs = .ref a :: row ∧ row.length = 11 ∧ H a = some (.ins C dx []) ∧ (∀ v ∈ row, Odd H v) ∧
  (∀ H' D, KB a H H' → badOf row = none → H' a = some (.ins C dx [("own_numbers", .ref D)]) → H' D = some (.dK (rowKV row)) → Q .non H') ∧
  (∀ H' d v, KB a H H' → badOf row = some v → H' d = some (.xd [("value", v)]) → E (.ref B) (some d) H')
abbrev s_init : Stmt := inClass (top 12) 0
abbrev initNames : List Str := ["self", "jump", "far", "branch", "call", "back", "throw", "push", "drop", "search", "catch", "reach"]
abbrev initAll : List Str := ["self", "jump", "far", "branch", "call", "back", "throw", "push", "drop", "search", "catch", "reach", "told", "word", "value"]
theorem sc_init : FnScope initAll initNames (defScope s_init) := ⟨rfl, rfl, rfl, by decide +kernel, rfl, by decide +kernel, by decide +kernel⟩
abbrev dflV : List (Str × V) := [("jump", .int 1), ("far", .int 1), ("branch", .int 1), ("call", .int 2), ("back", .int 1), ("throw", .int 2), ("push", .int 1), ("drop", .int 1), ("search", .int 2), ("catch", .int 1), ("reach", .int 20)]
abbrev FnInit (K : PySem.W.Frag) (f : Addr) (fd : FuncData) : Prop := FunD K "__init__" "Prices.__init__" (defArgs s_init) (defBody s_init) (defScope s_init) [] dflV f fd
theorem bad_take {row : List V} {i : Nat} (h : ∀ j x y, j < i → words[j]? = some x → row[j]? = some y → priceOk x y = true) {x : Str} {y : V} (e1 : words[i]? = some x) (e2 : row[i]? = some y) (e3 : priceOk x y = false) : badOf row = some y := by
  unfold badOf
  have hz : (words.zip row)[i]? = some (x, y) := List.getElem?_zip_eq_some.mpr ⟨e1, e2⟩
  have : (words.zip row).find? (fun p => !priceOk p.1 p.2) = some (x, y) := by
    rw [List.find?_eq_some_iff_getElem]
    obtain ⟨hi, hg⟩ := List.getElem?_eq_some_iff.mp hz
    refine ⟨by simp [e3], i, hi, hg, fun j hj => ?_⟩
    have hj' : (words.zip row)[j]? = some ((words.zip row)[j]'(by omega)) := List.getElem?_eq_getElem _
    obtain ⟨q1, q2⟩ := List.getElem?_zip_eq_some.mp hj'
    have z := h j _ _ hj q1 q2
    simp only [z, Bool.not_true]
    rfl
  rw [this] <;> rfl
theorem bad_none {row : List V} (h : ∀ (j : Nat) x y, words[j]? = some x → row[j]? = some y → priceOk x y = true) : badOf row = none := by
  unfold badOf
  have : (words.zip row).find? (fun p => !priceOk p.1 p.2) = none := by
    rw [List.find?_eq_none]
    intro p hp
    obtain ⟨j, hj⟩ := List.mem_iff_getElem?.mp hp
    obtain ⟨q1, q2⟩ := List.getElem?_zip_eq_some.mp hj
    simp [h j _ _ q1 q2]
  rw [this] <;> rfl
theorem Odd.kb {H H' : Hp} {v : V} {a C dx : Addr} {fs : List (Str × V)} (ha : H a = some (.ins C dx fs)) (k : KB a H H') (h : Odd H v) : Odd H' v := by
  cases h with
  | non => exact .non
  | bl b => exact .bl b
  | int i => exact .int i
  | str x => exact .str x
  | tup e => exact .tup (k _ _ (fun z => by rw [z, ha] at e; cases e) e)
  | lst e => exact .lst (k _ _ (fun z => by rw [z, ha] at e; cases e) e)
  | dct e => exact .dct (k _ _ (fun z => by rw [z, ha] at e; cases e) e)
theorem row11 {row : List V} (h : row.length = 11) : ∃ r1 r2 r3 r4 r5 r6 r7 r8 r9 r10 r11, row = [r1, r2, r3, r4, r5, r6, r7, r8, r9, r10, r11] := match row, h with
  | [r1, r2, r3, r4, r5, r6, r7, r8, r9, r10, r11], _ => ⟨r1, r2, r3, r4, r5, r6, r7, r8, r9, r10, r11, rfl⟩
section
variable {P : Program} {w : World} {K : PySem.W.Frag} {mg : Str → Option Value} {base : Heap} {f f1 f2 R fI B C : Addr} {fd fd1 fd2 fdI : FuncData} {k : Nat}
theorem ok_init07 (G : Free mg) (N : Nums K mg) (T : ErrR P K R fI fdI) (TB : ErrC K R fI B) (gB : mg "BadPrice" = some (.ref B)) (cC : Cls K C) (nC : NoAttr K C "own_numbers")
    (F : FnInit K f fd) (F2 : FnP K "is_price" s_price f2 fd2) (g2 : mg "is_price" = some (.ref f2)) (F1 : FnInt K f1 fd1) (g1 : mg "is_integer" = some (.ref f1)) : FnOk P w K mg base (L2.CX P w) (k + 3) f fd initNames (spInit C B) := by
  have b2 : Binds K fd2 ["word", "value"] [] := F2.bindsN fun _ _ _ _ _ _ us hl => match us, hl with | [_, _], _ => rfl
  obtain ⟨dP, gP, kP⟩ := N.prices
  refine F.ok sc_init (fun vs H Q E h => ?_) (fun cdv A outer s H vs Q E hr h => ?_)
  · obtain ⟨a, dx, row, rfl, hl, _⟩ := h
    show row.length + 1 = 12
    omega
  obtain ⟨a, dx, row, rfl, hl, ha, ho, q, qE⟩ := h
  refine ⟨_, pss_cons (ps_set (i := 12) sc_init.nd rfl (.inl rfl) (pe_tup (pa_cons (pv 1) (pa_cons (pv 2) (pa_cons (pv 3) (pa_cons (pv 4) (pa_cons (pv 5) (pa_cons (pv 6) (pa_cons (pv 7) (pa_cons (pv 8) (pa_cons (pv 9) (pa_cons (pv 10) (pa_cons (pv 11) pa_nil)))))))))))))
    (pss_cons (ps_fld (pv 0) (pe_dc (own := [("word", 13), ("value", 14)]) (g := gTup K 2 (gCons (gName 13) (gCons (gName 14) gNil))) (tt := tYes) rfl sc_init.nd (pi_zipD (by rfl) G.f_zip kP (pa_cons (pe_glob (v := .ref dP) rfl gP rfl) (pa_cons (pv 12) pa_nil))) (blkOk_by (own := [("word", 13), ("value", 14)]) (N := initAll) (sc := defScope s_init) (by decide +kernel))
        (fun s H C cl fp => pg_tup rfl (pgs_cons (pg_name (i := 13) sc_init.nd rfl (.inl rfl)) (pgs_cons (pg_name (i := 14) sc_init.nd rfl (.inl rfl)) pgs_nil))) (fun s H C cl fp => pts_nil)
        (fun s H C cl fp => pv 13) (fun s H C cl fp => pv 14)) rfl)
      (pss_one (ps_lock (ps_for (passes_of rfl) rfl (pi_items (pe_fld (pv 0) rfl)) (pg_tup rfl (pgs_cons (pg_name (i := 13) sc_init.nd rfl (.inl rfl)) (pgs_cons (pg_name (i := 14) sc_init.nd rfl (.inl rfl)) pgs_nil)))
        (pss_one (ps_if (pt_not (pt_val (pe_call (ok_price (k := k) G N F2 F1 g1) hr (by rfl) g2 F2.kp b2 .nil pass0 (pa_cons (pv 13) (pa_cons (pv 14) pa_nil)))))
          (pss_one (ps_raise rfl (takes_of rfl rfl rfl rfl) (pmk_err T TB hr (by rfl) gB (pv 14))))
          pss_nil)))))), ?_⟩
  obtain ⟨r1, r2, r3, r4, r5, r6, r7, r8, r9, r10, r11, e⟩ := row11 hl
  have e' := e.symm
  subst e
  refine ⟨_, rfl, _, rfl, _, rfl, _, rfl, _, rfl, _, rfl, _, rfl, _, rfl, _, rfl, _, rfl, _, rfl, (by show 11 ≤ sizeLine; decide), fun T nT => ?_⟩
  obtain ⟨row, hrow⟩ : ∃ row, [r1, r2, r3, r4, r5, r6, r7, r8, r9, r10, r11] = row := ⟨_, rfl⟩
  rw [hrow] at q qE hl ho
  obtain ⟨H1, hH1⟩ : ∃ H1, upd H T (.tup [r1, r2, r3, r4, r5, r6, r7, r8, r9, r10, r11]) = H1 := ⟨_, rfl⟩
  have s1 : Same H H1 := by rw [← hH1]; exact same_new nT
  have eT : H1 T = some (.tup row) := by rw [← hH1, hrow]; exact upd_same
  refine ⟨_, rfl, T, row, rfl, seqT (hH1 ▸ eT), ?_⟩
  rw [hH1]
  refine fun D nD => dc_zipD (hl.trans rfl) (fun i Hc => KB D H1 Hc ∧ Hc D = some (.dK ((rowKV row).take i))) ⟨KB.at, upd_same⟩ (fun i Hc p => seqT (p.1 T _ (fun z => by rw [z, nD] at eT; cases eT) eT)) (fun i x y T' Hc hx hy p nT' => ?_) (fun H2 p => ?_)
  · obtain ⟨z, rfl, hz, hkv⟩ := rowKV_get hx hy
    have nDT : D ≠ T' := fun z => by rw [← z, p.2] at nT'; cases nT'
    refine ⟨T', _, rfl, seqT upd_same, rfl, _, _, rfl, _, _, rfl, rfl, rfl, _, rfl, _, rfl, (rowKV row).take i, .inr z, rfl, ?_, ?_, ?_⟩
    · rw [upd_ne nDT]
      exact p.2
    · have := rowKV_len hl
      rw [List.length_take]
      show _ < sizeLine
      have : 11 < sizeLine := by decide
      omega
    · rw [putK_take (rowKV_nd hl) hkv]
      exact ⟨(p.1.trans (KB.new nT')).trans KB.at, upd_same⟩
  · have s2 : Same H1 H2 := p.1.same (fun _ _ e => e) nD
    have pD : H2 D = some (.dK (rowKV row)) := by
      have z := p.2
      rw [show (words.map V.str).length = 11 from rfl, List.take_of_length_le (by rw [rowKV_len hl]; exact Nat.le_refl _)] at z
      exact z
    have nDa : D ≠ a := fun z => by rw [z, s1 a _ ha] at nD; cases nD
    refine ⟨_, rfl, a, C, dx, [], rfl, s2 _ _ (s1 _ _ ha), cC, nC, (by show 0 < 1000; decide), ?_⟩
    generalize hH3 : upd H2 a (.ins C dx (putF "own_numbers" (.ref D) [])) = H3
    have pa3 : H3 a = some (.ins C dx [("own_numbers", .ref D)]) := by rw [← hH3]; exact upd_same
    have pD3 : H3 D = some (.dK (rowKV row)) := by rw [← hH3, upd_ne nDa]; exact pD
    have k3 : KB a H H3 := by rw [← hH3]; exact (KB.of_same (fun b o e => s2 b o (s1 b o e))).trans KB.at
    refine ⟨D, _, pD3, trivial, fun od => ?_⟩
    obtain ⟨H4, hH4⟩ : ∃ H4, upd H3 D (.frz od (.dK (rowKV row))) = H4 := ⟨_, rfl⟩
    have pa4 : H4 a = some (.ins C dx [("own_numbers", .ref D)]) := by rw [← hH4, upd_ne nDa.symm]; exact pa3
    have pD4 : H4 D = some (.frz od (.dK (rowKV row))) := by rw [← hH4]; exact upd_same
    have k4 : KB a H H4 := by
      rw [← hH4]
      intro b o nb eb
      rw [upd_ne (fun z => by rw [z] at eb; rw [s1 _ _ eb] at nD; cases nD)]
      exact k3 b o nb eb
    refine ⟨_, rfl, a, C, dx, _, .ref D, rfl, hH4 ▸ pa4, cC, nC, rfl, D, od, _, rfl, hH4 ▸ pD4, ?_⟩
    rw [hH4]
    refine for_it walk_items (fun i σ Hc => Same H4 Hc ∧ (∃ x y, σ = [some (.ref a), some r1, some r2, some r3, some r4, some r5, some r6, some r7, some r8, some r9, some r10, some r11, some (.ref T), x, y]) ∧ ∀ j x y, j < i → words[j]? = some x → row[j]? = some y → priceOk x y = true) ⟨fun _ _ e => e, ⟨_, _, rfl⟩, fun j _ _ hj => absurd hj (Nat.not_lt_zero _)⟩ (fun i σ Hc _ p => p.1 _ _ pD4) (fun i x σ Hc Hc' hi p hy => ?_) (fun σ Hc p => ?_)
    · obtain ⟨T', x1, y1, rfl, nT', rfl, e1, e2⟩ := hy
      obtain ⟨p1, ⟨x0, y0, rfl⟩, p3⟩ := p
      rw [rowKV_len hl] at hi
      have hw : (words.map V.str)[i]? = some ((words.map V.str)[i]'hi) := List.getElem?_eq_getElem hi
      have hr2 : row[i]? = some (row[i]'(by omega)) := List.getElem?_eq_getElem _
      obtain ⟨z, _, hz, hkv⟩ := rowKV_get hw hr2
      obtain ⟨y, hy⟩ : ∃ y, row[i]? = some y := ⟨_, hr2⟩
      rw [hr2] at hy
      have hy' := Option.some.inj hy
      rw [hy'] at hr2 hkv
      dsimp only at e1 e2
      rw [hkv] at e1 e2
      obtain rfl : V.str z = x1 := Option.some.inj e1
      obtain rfl : y = y1 := Option.some.inj e2
      have s4 : Same H4 (upd Hc T' (.tup [.str z, y])) := fun b o e => by
        rw [upd_ne (ne_of_none (p1 b o e) nT')]
        exact p1 b o e
      have oy : Odd H y := ho y (List.mem_of_getElem? hr2)
      have k5 : KB a H (upd Hc T' (.tup [.str z, y])) := fun b o nb eb => s4 b o (k4 b o nb eb)
      have oy4 : Odd (upd Hc T' (.tup [.str z, y])) y := oy.kb ha k5
      refine ⟨T', _, rfl, seqT upd_same, rfl, _, _, rfl, _, _, rfl, rfl, _, rfl, _, rfl, z, y, rfl, oy4, _, rfl, ite2 (fun e => ?_) (fun e => ?_)⟩
      · have e0 : priceOk z y = false := by simpa using e
        exact ⟨_, rfl, mkE TB fun d nd => qE _ d y (k5.trans (KB.new nd)) (bad_take p3 hz hr2 e0) upd_same⟩
      · have e0 : priceOk z y = true := by simpa using e
        refine ⟨s4, ⟨_, _, rfl⟩, fun j x' y' hj h1 h2 => ?_⟩
        by_cases hji : j = i
        · subst hji
          rw [hz] at h1
          rw [hr2] at h2
          cases h1
          cases h2
          exact e0
        · exact p3 j x' y' (by omega) h1 h2
    · obtain ⟨p1, _, p3⟩ := p
      rw [rowKV_len hl] at p3
      refine ⟨p1 _ _ pD4, q _ D (fun b o nb eb => ?_) (bad_none fun j x y h1 h2 => p3 j x y (List.getElem?_eq_some_iff.mp h1).1 h1 h2) ?_ upd_same⟩
      · rw [upd_ne (fun z => by rw [z] at eb; rw [s1 _ _ eb] at nD; cases nD)]
        exact p1 b o (k4 b o nb eb)
      · rw [upd_ne nDa.symm]
        exact p1 _ _ pa4
end
end Ev

namespace Ev
open PySem PySem.Spec PyProof.Rows L2
theorem lt1 {n c : Nat} (h : n + 64 < c) : n + 1 < c := by omega
/-! ### the eleven properties -/
abbrev s_get (i : Nat) : Stmt := inClass (top 12) (i + 1)
abbrev s_eq : Stmt := inClass (top 12) 12
def getBody (x : Str) (p1 p2 p3 p4 p5 : Pos) (kd : Nat) : List Stmt := [.Return (some (.Subscript (.Attribute (.Name "self" p1) "own_numbers" p2) (.Constant (.str x) kd p3) p4)) p5]
/-- at a: Prices of the row -/
def PAt (C : Addr) (H : Hp) (a : Addr) (row : List V) : Prop := ∃ dx D, H a = some (.ins C dx [("own_numbers", .ref D)]) ∧ H D = some (.dK (rowKV row))
theorem PAt.mono {C : Addr} {H H' : Hp} {a : Addr} {row : List V} (s : Same H H') (h : PAt C H a row) : PAt C H' a row := by
  obtain ⟨dx, D, h1, h2⟩ := h
  exact ⟨dx, D, s _ _ h1, s _ _ h2⟩
def spGet (C : Addr) (x : Str) : Sp := fun vs H Q _ => ∃ (a : Addr) (row : List V) (r : V), vs = [.ref a] ∧ PAt C H a row ∧ L2.valV (rowKV row) (.inr x) = some r ∧ Q r H
def FnGet (K : PySem.W.Frag) (i : Nat) (x : Str) (f : Addr) (fd : FuncData) : Prop := FunD K x ("Prices." ++ x) (defArgs (s_get i)) (defBody (s_get i)) (defScope (s_get i)) [] [] f fd
section
variable {P : Program} {w : World} {K : PySem.W.Frag} {mg : Str → Option Value} {base : Heap} {f C : Addr} {fd : FuncData} {k : Nat} {x q : Str} {prm : Arguments} {body : List Stmt} {sc : Scope}
theorem ok_getter (cC : Cls K C) (nC : NoAttr K C "own_numbers") {p1 p2 p3 p4 p5 : Pos} {kd : Nat} (F : FunD K x q prm body sc [] [] f fd) (S : FnScope ["self"] ["self"] sc) (hb : body = getBody x p1 p2 p3 p4 p5 kd) : FnOk P w K mg base CX0 (k + 1) f fd ["self"] (spGet C x) := by
  subst hb
  refine F.ok S (fun vs H Q E h => ?_) (fun cdv A outer s H vs Q E hr h => ?_)
  · obtain ⟨a, row, r, rfl, _⟩ := h
    rfl
  obtain ⟨a, row, r, rfl, ⟨dx, D, h1, h2⟩, hv, qq⟩ := h
  refine ⟨_, PSs.nox (pss_one (ps_ret (pe_dget (lt1 hr.units) (pe_fld (pe_var (i := 0) (x := "self") rfl ((S.par "self" (List.Mem.head _)).elim (fun z => .inl z) (fun z => .inr (.inl z)))) rfl) pe_str (fun _ _ => rfl)))), ?_⟩
  exact ⟨_, rfl, a, C, dx, _, .ref D, rfl, h1, cC, nC, rfl, D, r, rfl, .inl ⟨_, .inr x, .inl h2, rfl, hv.symm⟩, qq⟩
end
/-- what the head says of Prices -/
structure Pr (K : PySem.W.Frag) (mg : Str → Option Value) (C fi : Addr) : Prop where
  cls : Cls K C
  no : NoAttr K C "own_numbers"
  mkr : Mk K C fi
  g : mg "Prices" = some (.ref C)
  get : ∀ i x, words[i]? = some x → ∃ p g fd, PropOf K C x p g ∧ FnGet K i x g fd
  ty : ∀ (H : Hp) (a dx : Addr) (fs : List (Str × V)), H a = some (.ins C dx fs) → TyX K H (.ref a) (.ref C)
  kC : PySem.W.kitOne K (.ref C) (.ref C) = some true
  kT : PySem.W.kitOne K (.type "tuple") (.ref C) = some false
  n1 : PySem.W.notFirst K C (.ref C) = true
  n2 : PySem.W.notFirst K C (.type "tuple") = true
theorem scg : ∀ i, i < 11 → FnScope ["self"] ["self"] (defScope (s_get i)) := by
  intro i hi
  rcases i with _ | _ | _ | _ | _ | _ | _ | _ | _ | _ | _ | i
  all_goals first
    | exact ⟨rfl, rfl, rfl, by decide +kernel, rfl, by decide +kernel, by decide +kernel⟩
    | omega
theorem bodyg : ∀ i x, words[i]? = some x → ∃ p1 p2 p3 p4 p5 kd, defBody (s_get i) = getBody x p1 p2 p3 p4 p5 kd := by
  intro i x hx
  rcases i with _ | _ | _ | _ | _ | _ | _ | _ | _ | _ | _ | i
  all_goals first
    | (cases hx; exact ⟨_, _, _, _, _, _, rfl⟩)
    | (cases hx; done)
theorem bindsg {K : PySem.W.Frag} {f : Addr} {fd : FuncData} : ∀ i x, words[i]? = some x → FnGet K i x f fd → Binds K fd ["self"] [] := by
  intro i x hx F
  rcases i with _ | _ | _ | _ | _ | _ | _ | _ | _ | _ | _ | i
  all_goals first
    | (cases hx; exact FunD.bindsN F fun _ _ _ _ _ _ us hl => match us, hl with | [_], _ => rfl)
    | (cases hx; done)
section
variable {X : Cx} {C fi : Addr} {k i : Nat} {x : Str} {e : Expr} {te : TE} {pos : Pos}
theorem pe_get (W : Pr X.K X.mg C fi) (hr : Room (k + 2) X.A) (he : PE X e te) (hx : words[i]? = some x) (hab : attributeBase e x X.env (eval e X.env) = eval e X.env) : PE X (.Attribute e x pos) (tProp C (spGet C x) [] E0 te) := by
  obtain ⟨p, g, fd, hp, F⟩ := W.get i x hx
  have hi : i < 11 := (List.getElem?_eq_some_iff.mp hx).1
  obtain ⟨p1, p2, p3, p4, p5, kd, hb⟩ := bodyg i x hx
  have b : Binds X.K fd ["self"] [] := bindsg i x hx F
  exact pe_prop he W.cls hp (ok_getter (k := k) W.cls W.no F (scg i hi) hb) hr b .nil pass0 hab
end
theorem valV_at {kvs : List (Key × V)} (nd : (kvs.map (·.1)).Nodup) {i : Nat} {k : Key} {v : V} (h : kvs[i]? = some (k, v)) : L2.valV kvs k = some v := by
  unfold L2.valV
  obtain ⟨hi, hg⟩ := List.getElem?_eq_some_iff.mp h
  have : kvs.find? (fun kv => decide (kv.1 = k)) = some (k, v) := by
    rw [List.find?_eq_some_iff_getElem]
    refine ⟨by simp, i, hi, hg, fun j hj => ?_⟩
    have hj' : kvs[j]? = some (kvs[j]'(by omega)) := List.getElem?_eq_getElem _
    have a2 : (kvs.map (·.1))[i]? = some k := by rw [List.getElem?_map, h]; rfl
    have : ¬ (kvs[j]'(by omega)).1 = k := fun z => by
      have a1 : (kvs.map (·.1))[j]? = some k := by rw [List.getElem?_map, hj', ← z]; rfl
      have := (List.getElem?_inj (by rw [List.length_map]; omega) nd).mp (a1.trans a2.symm)
      omega
    rw [decide_eq_false this] <;> rfl
  rw [this] <;> rfl
theorem rowKV_at {row : List V} (hl : row.length = 11) {i : Nat} {x : Str} {r : V} (hx : words[i]? = some x) (hr : row[i]? = some r) : L2.valV (rowKV row) (.inr x) = some r := by
  obtain ⟨z, e, hz, hk⟩ := rowKV_get (x := .str x) (by rw [List.getElem?_map, hx]; rfl) hr
  rw [hx] at hz
  cases hz
  exact valV_at (rowKV_nd hl) hk
/-- what a property gives -/
theorem get_read {C : Addr} {x : Str} {σ : L2.St} {H : Hp} {Q : VK} {j i : Nat} {a : Addr} {row : List V} {r : V} (hσ : σ[j]? = some (some (.ref a))) (hp : PAt C H a row) (hx : words[i]? = some x) (hr : row[i]? = some r) (hl : row.length = 11) (q : Q r H) : tProp C (spGet C x) [] E0 (tVar j) σ H Q := by
  have hp' := hp
  obtain ⟨dx, D, h1, h2⟩ := hp
  exact ⟨_, hσ, a, dx, _, rfl, h1, a, row, r, rfl, hp', rowKV_at hl hx hr, q⟩
/-! ### == -/
theorem sc_eq : FnScope ["self", "other"] ["self", "other"] (defScope s_eq) := ⟨rfl, rfl, rfl, by decide +kernel, rfl, by decide +kernel, by decide +kernel⟩
abbrev FnEq (K : PySem.W.Frag) (f : Addr) (fd : FuncData) : Prop := FunD K "__eq__" "Prices.__eq__" (defArgs s_eq) (defBody s_eq) (defScope s_eq) [] [] f fd
abbrev iv (ns : List Int) : List V := ns.map V.int
theorem flat_row {ns : List Int} : ∀ p ∈ rowKV (iv ns), flatV p.2 = true := by
  intro p hp
  unfold rowKV at hp
  obtain ⟨q, hq, rfl⟩ := List.mem_map.mp hp
  obtain ⟨z, v⟩ := q
  have hv := (List.of_mem_zip hq).2
  obtain ⟨n, _, rfl⟩ := List.mem_map.mp hv
  rfl
theorem hit_rows {ns ms : List Int} (h1 : ns.length = 11) (h2 : ms.length = 11) : (rowKV (iv ns)).all (hitB (rowKV (iv ms))) = decide (ns = ms) := by
  have l1 : (iv ns).length = 11 := by rw [List.length_map]; exact h1
  have l2 : (iv ms).length = 11 := by rw [List.length_map]; exact h2
  have hit : ∀ i x n m, words[i]? = some x → ns[i]? = some n → ms[i]? = some m → hitB (rowKV (iv ms)) (.inr x, .int n) = (n == m) := fun i x n m hx hn hm => by
    unfold hitB
    rw [rowKV_at (r := .int m) l2 hx (by rw [List.getElem?_map, hm]; rfl)]
    rfl
  by_cases e : ns = ms
  · subst e
    rw [decide_eq_true rfl, List.all_eq_true]
    intro p hp
    obtain ⟨i, hi⟩ := List.mem_iff_getElem?.mp hp
    have hi' : i < 11 := by
      have z := (List.getElem?_eq_some_iff.mp hi).1
      rw [rowKV_len l1] at z
      exact z
    have hw : words[i]? = some (words[i]'hi') := List.getElem?_eq_getElem hi'
    have hn : ns[i]? = some (ns[i]'(by omega)) := List.getElem?_eq_getElem _
    obtain ⟨z, e1, hz, hk⟩ := rowKV_get (x := .str (words[i]'hi')) (row := iv ns) (by rw [List.getElem?_map, hw]; rfl) (by rw [List.getElem?_map, hn]; rfl)
    rw [hi] at hk
    cases hk
    rw [hit i z _ _ hz hn hn]
    exact beq_self_eq_true _
  · rw [decide_eq_false e]
    cases q : (rowKV (iv ns)).all (hitB (rowKV (iv ms))) with
    | false => rfl
    | true =>
      exfalso
      refine e (List.ext_getElem? fun i => ?_)
      by_cases hi : i < 11
      · have hw : words[i]? = some (words[i]'hi) := List.getElem?_eq_getElem hi
        have hn : ns[i]? = some (ns[i]'(by omega)) := List.getElem?_eq_getElem _
        have hm : ms[i]? = some (ms[i]'(by omega)) := List.getElem?_eq_getElem _
        obtain ⟨z, e1, hz, hk⟩ := rowKV_get (x := .str (words[i]'hi)) (row := iv ns) (by rw [List.getElem?_map, hw]; rfl) (by rw [List.getElem?_map, hn]; rfl)
        have t := List.all_eq_true.mp q _ (List.mem_of_getElem? hk)
        rw [hit i z _ _ hz hn hm] at t
        rw [hn, hm, eq_of_beq t]
      · rw [List.getElem?_eq_none (by omega), List.getElem?_eq_none (by omega)]
def spEq (C : Addr) : Sp := fun vs H Q _ => ∃ (a : Addr) (ns : List Int), ns.length = 11 ∧ PAt C H a (iv ns) ∧
  ((∃ (b : Addr) (ms : List Int), ms.length = 11 ∧ PAt C H b (iv ms) ∧ vs = [.ref a, .ref b] ∧ Q (.bl (decide (ns = ms))) H) ∨ (∃ (t : Addr) (xs : List V), H t = some (.tup xs) ∧ vs = [.ref a, .ref t] ∧ Q (.bl false) H))
section
variable {P : Program} {w : World} {K : PySem.W.Frag} {mg : Str → Option Value} {base : Heap} {f C fi : Addr} {fd : FuncData} {k : Nat}
theorem ok_eq (G : Free mg) (W : Pr K mg C fi) (F : FnEq K f fd) : FnOk P w K mg base CX0 (k + 1) f fd ["self", "other"] (spEq C) := by
  refine F.ok sc_eq (fun vs H Q E h => ?_) (fun cdv A outer s H vs Q E hr h => ?_)
  · obtain ⟨a, ns, _, _, ⟨b, ms, _, _, rfl, _⟩ | ⟨t, xs, _, rfl, _⟩⟩ := h <;> rfl
  refine ⟨_, PSs.nox (pss_one (ps_ret (pe_and (pe_callB call_isi (by rfl) G.f_isinstance bt_isinstance (pa_cons (pv 1) (pa_cons (pe_glob (v := .ref C) rfl W.g rfl) pa_nil))) (pe_one (pe_cmpR (op_eqK hr.units0) (pe_fld (pv 0) rfl) (pe_fld (pv 1) rfl) (nomark _)))))), ?_⟩
  obtain ⟨a, ns, hn, ⟨dx, D, h1, h2⟩, h⟩ := h
  rcases h with ⟨b, ms, hm, ⟨dy, D2, g1, g2⟩, rfl, q⟩ | ⟨t, xs, ht, rfl, q⟩
  · refine ⟨_, rfl, _, _, _, _, _, rfl, .own C, W.ty H b dy _ g1, W.kC, _, rfl, iteT ?_⟩
    refine ⟨_, rfl, a, C, dx, _, .ref D, rfl, h1, W.cls, W.no, rfl, _, rfl, b, C, dy, _, .ref D2, rfl, g1, W.cls, W.no, rfl, D, D2, _, _, rfl, rfl, h2, g2, ?_, flat_row, flat_row, ?_⟩
    · rw [rowKV_len (by rw [List.length_map]; exact hn), rowKV_len (by rw [List.length_map]; exact hm)]
    · rw [hit_rows hn hm]
      exact q
  · exact ⟨_, rfl, _, _, _, _, _, rfl, .own C, .base (.tup ht), W.kT, _, rfl, iteF q⟩
end
end Ev

namespace Ev
open PySem PySem.Spec PyProof.Rows L2
/-! ### Prices(..) by its keywords -/
abbrev gAll {α : Type} (us mz zs : List α) : List α := us ++ zs
abbrev gTwo {α : Type} (us mz zs : List α) : List α := us ++ (mz.take 1 ++ (zs.take 1 ++ (mz.drop 1 ++ zs.drop 1)))
abbrev restV : List (Str × V) := [("jump", .int 1), ("branch", .int 1), ("call", .int 2), ("back", .int 1), ("throw", .int 2), ("push", .int 1), ("drop", .int 1), ("search", .int 2), ("catch", .int 1)]
section
variable {K : PySem.W.Frag} {f : Addr} {fd : FuncData}
theorem kb_all (F : FnInit K f fd) : ∃ mv : List Value, KBn K fd initNames 1 words (fun us ws => gAll us mv ws) (fun vs zs => gAll vs [] zs) := by
  refine FunD.kbinds0 (ps := initNames) F 1 words [] gAll (by simp) (by simp) (fun r1 _ r3 => r1.append r3) ?_
  intro D doc pm an cdv ct us mv ws h1 h2 h3
  match us, mv, ws, h1, h2, h3 with
  | [_], [], [_, _, _, _, _, _, _, _, _, _, _], _, _, _ =>
    show bindArgs _ _ = pure _
    kernel_rfl
theorem kb_two (F : FnInit K f fd) : ∃ mv : List Value, KBn K fd initNames 1 ["far", "reach"] (fun us ws => gTwo us mv ws) (fun vs zs => gTwo vs (restV.map (·.2)) zs) := by
  refine FunD.kbinds0 (ps := initNames) F 1 ["far", "reach"] restV gTwo (by simp) (fun q hq => ?_) (fun r1 r2 r3 => r1.append ((r2.take 1).append ((r3.take 1).append ((r2.drop 1).append (r3.drop 1))))) ?_
  · have : ∀ i, i < 9 → restV[i]? = dflV[if i = 0 then 0 else i + 1]? := by
      intro i hi
      rcases i with _ | _ | _ | _ | _ | _ | _ | _ | _ | i
      all_goals first | rfl | omega
    obtain ⟨i, hi⟩ := List.mem_iff_getElem?.mp hq
    have h9 : i < 9 := (List.getElem?_eq_some_iff.mp hi).1
    rw [this i h9] at hi
    exact List.mem_of_getElem? hi
  intro D doc pm an cdv ct us mv ws h1 h2 h3
  match us, mv, ws, h1, h2, h3 with
  | [_], [_, _, _, _, _, _, _, _, _], [_, _], _, _, _ => 
    exact ⟨_, _, _, _, _, _, rfl, rfl, _, _, _, _, _, _, rfl, rfl, _, _, _, _, _, _, rfl, rfl, _, _, _, _, _, _, rfl, rfl, _, _, _, _, _, _, rfl, rfl, _, _, _, _, _, _, rfl, rfl, _, _, _, _, _, _, rfl, rfl, _, _, _, _, _, _, rfl, rfl, _, _, _, _, _, _, rfl, rfl, rfl⟩
theorem b_none (F : FnInit K f fd) : ∃ ds, Vals (dflV.map (·.2)) ds ∧ Binds K fd initNames ds := by
  refine FunD.binds0 (ps := initNames) F 1 (by simp) rfl ?_
  intro D doc pm an cdv ct us ks h1 h2
  match us, ks, h1, h2 with
  | [_], [_, _, _, _, _, _, _, _, _, _, _], _, _ => 
    exact ⟨_, _, _, _, _, _, rfl, rfl, _, _, _, _, _, _, rfl, rfl, _, _, _, _, _, _, rfl, rfl, _, _, _, _, _, _, rfl, rfl, _, _, _, _, _, _, rfl, rfl, _, _, _, _, _, _, rfl, rfl, _, _, _, _, _, _, rfl, rfl, _, _, _, _, _, _, rfl, rfl, _, _, _, _, _, _, rfl, rfl, _, _, _, _, _, _, rfl, rfl, _, _, _, _, _, _, rfl, rfl, rfl⟩
end
end Ev

namespace Ev
open PySem PySem.Spec PyProof.Rows L2
abbrev s_kept : Stmt := top 19
abbrev s_isp : Stmt := top 21
theorem sc_kept : FnScope ["_law_costs", "_law_found"] ["_law_costs"] (defScope s_kept) := ⟨rfl, rfl, rfl, by decide +kernel, rfl, by decide +kernel, by decide +kernel⟩
theorem sc_isp : FnScope ["_law_value", "_law_at"] ["_law_value", "_law_at"] (defScope s_isp) := ⟨rfl, rfl, rfl, by decide +kernel, rfl, by decide +kernel, by decide +kernel⟩
def spKept (C : Addr) : Sp := fun vs H Q _ => ∃ (a : Addr) (row : List V), vs = [.ref a] ∧ row.length = 11 ∧ PAt C H a row ∧ ∀ T H', Same H H' → H T = none → H' T = some (.tup row) → Q (.ref T) H'
def priceAt (i : Int) (v : V) : Bool := if i = 10 then intOk v 1 (some 99) else intOk v 0 (some 9)
def spIsP : Sp := fun vs H Q _ => ∃ (v : V) (i : Int), vs = [v, .int i] ∧ Odd H v ∧ Q (.bl (priceAt i v)) H
section
variable {P : Program} {w : World} {K : PySem.W.Frag} {mg : Str → Option Value} {base : Heap} {f C fi : Addr} {fd : FuncData} {k : Nat}
theorem ok_kept (G : Free mg) (W : Pr K mg C fi) (F : FnP K "_law_kept_prices" s_kept f fd) : FnOk P w K mg base CX0 (k + 3) f fd ["_law_costs"] (spKept C) := by
  refine F.ok sc_kept (fun vs H Q E h => ?_) (fun cdv A outer s H vs Q E hr h => ?_)
  · obtain ⟨a, row, rfl, _⟩ := h
    rfl
  obtain ⟨a, row, rfl, hl, hp, q⟩ := h
  refine ⟨_, PSs.nox (pss_cons (ps_set (i := 1) sc_kept.nd rfl (.inl rfl) (pe_lst (pa_cons (pe_get (i := 0) (k := k) W hr (pv 0) rfl rfl) (pa_cons (pe_get (i := 1) (k := k) W hr (pv 0) rfl rfl) (pa_cons (pe_get (i := 2) (k := k) W hr (pv 0) rfl rfl) (pa_cons (pe_get (i := 3) (k := k) W hr (pv 0) rfl rfl) (pa_cons (pe_get (i := 4) (k := k) W hr (pv 0) rfl rfl) (pa_cons (pe_get (i := 5) (k := k) W hr (pv 0) rfl rfl) (pa_cons (pe_get (i := 6) (k := k) W hr (pv 0) rfl rfl) (pa_cons (pe_get (i := 7) (k := k) W hr (pv 0) rfl rfl) pa_nil))))))))))
    (pss_one (ps_ret (pe_callTy call_tuple_of (by rfl) G.f_tuple (by decide +kernel) (pa_cons (pe_op op_cat (pv 1) (pe_lst (pa_cons (pe_get (i := 8) (k := k) W hr (pv 0) rfl rfl) (pa_cons (pe_get (i := 9) (k := k) W hr (pv 0) rfl rfl) (pa_cons (pe_get (i := 10) (k := k) W hr (pv 0) rfl rfl) pa_nil))))) pa_nil))))), ?_⟩
  obtain ⟨r1, r2, r3, r4, r5, r6, r7, r8, r9, r10, r11, e⟩ := row11 hl
  subst e
  refine get_read (i := 0) rfl hp rfl rfl hl (get_read (i := 1) rfl hp rfl rfl hl (get_read (i := 2) rfl hp rfl rfl hl (get_read (i := 3) rfl hp rfl rfl hl (get_read (i := 4) rfl hp rfl rfl hl (get_read (i := 5) rfl hp rfl rfl hl (get_read (i := 6) rfl hp rfl rfl hl (get_read (i := 7) rfl hp rfl rfl hl ?_)))))))
  refine ⟨(by show 8 ≤ sizeLine; decide), fun l nl => ?_⟩
  have s1 := same_new (o := .lst [r1, r2, r3, r4, r5, r6, r7, r8]) nl
  have hp1 := hp.mono s1
  refine ⟨_, rfl, get_read (i := 8) rfl hp1 rfl rfl hl (get_read (i := 9) rfl hp1 rfl rfl hl (get_read (i := 10) rfl hp1 rfl rfl hl ?_))⟩
  refine ⟨(by show 3 ≤ sizeLine; decide), fun l2 nl2 => ?_⟩
  have s2 := same_new (o := .lst [r9, r10, r11]) nl2
  refine ⟨l, l2, _, _, rfl, rfl, s2 _ _ upd_same, upd_same, (by show 11 ≤ sizeLine; decide), fun l3 nl3 => ?_⟩
  have s3 := same_new (o := .lst ([r1, r2, r3, r4, r5, r6, r7, r8] ++ [r9, r10, r11])) nl3
  refine ⟨l3, _, rfl, .inl ⟨seqL upd_same, fun T nT => ?_⟩⟩
  have s4 := same_new (o := .tup [r1, r2, r3, r4, r5, r6, r7, r8, r9, r10, r11]) nT
  exact q T _ (fun b o e => s4 b o (s3 b o (s2 b o (s1 b o e)))) (same_back s1 (same_back s2 (same_back s3 nT))) upd_same
theorem ok_isp (G : Free mg) (F : FnP K "_law_is_price" s_isp f fd) : FnOk P w K mg base CX0 (k + 1) f fd ["_law_value", "_law_at"] spIsP := by
  refine F.ok sc_isp (fun vs H Q E h => ?_) (fun cdv A outer s H vs Q E hr h => ?_)
  · obtain ⟨v, i, rfl, _⟩ := h
    rfl
  obtain ⟨v, i, rfl, ho, q⟩ := h
  refine ⟨_, PSs.nox (pss_cons (ps_if (PW.pt (pw_or (pt_not (pt_val (pe_callB call_isi (by rfl) G.f_isinstance bt_isinstance (pa_cons (pv 0) (pa_cons (pe_bltn (v := .ty "int") (by rfl) G.f_int (by decide +kernel) rfl) pa_nil))))) (pw_or1 (pt_val (pe_callB call_isi (by rfl) G.f_isinstance bt_isinstance (pa_cons (pv 0) (pa_cons (pe_bltn (v := .ty "bool") (by rfl) G.f_bool (by decide +kernel) rfl) pa_nil)))))))
    (pss_one (ps_ret pe_bl))
    pss_nil)
    (pss_one (ps_ret (pe_ifExp (pt_cmpR op_eq (pv 1) pe_int (nomark _)) (pe_chain op_le op_le pe_int (pv 0) pe_int) (pe_chain op_le op_le pe_int (pv 0) pe_int))))), ?_⟩
  obtain ⟨t, ty, k1, k2⟩ := ho.ty (K := K)
  refine ⟨_, rfl, v, _, t, _, _, rfl, .ty "int", ty, k1, _, rfl, ?_⟩
  have pf : (match v with | .int _ => true | _ => false) = false → priceAt i v = false := fun hv => by
    have e : ∀ l m, intOk v l m = false := fun l m => by
      cases v <;> first | rfl | cases hv
    show (if i = 10 then intOk v 1 (some 99) else intOk v 0 (some 9)) = false
    rw [e, e, ite_self]
  cases v with
  | int n =>
    refine iteF ⟨_, rfl, _, _, t, _, _, rfl, .ty "bool", ty, k2, _, rfl, iteF ?_⟩
    refine ⟨_, rfl, rfl, _, rfl, ite2 (fun e => ?_) (fun e => ?_)⟩
    · have e1 : i = 10 := by
        have z := of_decide_eq_true e
        injection z
      have z : priceAt i (.int n) = (decide (1 ≤ n) && decide (n ≤ 99)) := by
        show (if i = 10 then intOk (.int n) 1 (some 99) else intOk (.int n) 0 (some 9)) = _
        rw [if_pos e1]
        rfl
      rw [z] at q
      refine ⟨_, rfl, _, _, rfl, rfl, _, rfl, ite2 (fun e2 => ?_) (fun e2 => ?_)⟩
      · rw [e2, Bool.true_and] at q
        exact ⟨_, _, rfl, rfl, q⟩
      · rw [Bool.eq_false_iff.mpr e2, Bool.false_and] at q
        exact q
    · have e1 : i ≠ 10 := fun z => e (decide_eq_true (congrArg V.int z))
      have z : priceAt i (.int n) = (decide (0 ≤ n) && decide (n ≤ 9)) := by
        show (if i = 10 then intOk (.int n) 1 (some 99) else intOk (.int n) 0 (some 9)) = _
        rw [if_neg e1]
        rfl
      rw [z] at q
      refine ⟨_, rfl, _, _, rfl, rfl, _, rfl, ite2 (fun e2 => ?_) (fun e2 => ?_)⟩
      · rw [e2, Bool.true_and] at q
        exact ⟨_, _, rfl, rfl, q⟩
      · rw [Bool.eq_false_iff.mpr e2, Bool.false_and] at q
        exact q
  | bl b =>
    rw [pf rfl] at q
    exact iteF ⟨_, rfl, _, _, t, _, _, rfl, .ty "bool", ty, k2, _, rfl, iteT q⟩
  | non => rw [pf rfl] at q; exact iteT (iteT q)
  | str x => rw [pf rfl] at q; exact iteT (iteT q)
  | ref a => rw [pf rfl] at q; exact iteT (iteT q)
  | byt b => cases ho
  | flt b => cases ho
  | ty n => cases ho
end
end Ev

namespace Ev
open PySem PySem.Spec PyProof.Rows L2
theorem KB.updn {p l : Addr} {H Hc : Hp} {o : HO} (k : KB p H Hc) (n : H l = none) : KB p H (upd Hc l o) := fun b u nb e => by
  rw [upd_ne (ne_of_none e n)]
  exact k b u nb e
theorem KB.back {p T : Addr} {H H' : Hp} {o : HO} (k : KB p H H') (hp : H' p = some o) (h : H' T = none) : H T = none := by
  cases e : H T with
  | none => rfl
  | some u =>
    exfalso
    by_cases z : T = p
    · rw [z, hp] at h
      cases h
    · rw [k T u z e] at h
      cases h
theorem Pot.back {n : Nat} {p T : Addr} {H H' : Hp} (k : KB p H H') (hp : Pot n H' p) (h : H' T = none) : H T = none := by
  obtain ⟨xs, e⟩ := hp.there
  exact k.back e h
theorem Pot.upd {n : Nat} {p l : Addr} {H : Hp} {o : HO} (hp : Pot n H p) (h : l ≠ p) : Pot n (upd H l o) p := hp.keep fun u e => by
  rw [upd_ne h.symm]
  exact e
def GoodRow (ns : List Int) : Prop := ns.length = 11 ∧ ∀ (i : Nat) (n : Int), ns[i]? = some n → if i = 10 then 1 ≤ n ∧ n ≤ 99 else 0 ≤ n ∧ n ≤ 9
theorem GoodRow.set {ns : List Int} (h : GoodRow ns) {i : Nat} {d : Int} (hd : if i = 10 then 1 ≤ d ∧ d ≤ 99 else 0 ≤ d ∧ d ≤ 9) : GoodRow (ns.set i d) := by
  refine ⟨by rw [List.length_set]; exact h.1, fun j n e => ?_⟩
  by_cases z : i = j
  · subst z
    by_cases hi : i < ns.length
    · rw [List.getElem?_set_self hi] at e
      cases e
      exact hd
    · rw [List.getElem?_eq_none (by rw [List.length_set]; omega)] at e
      cases e
  · rw [List.getElem?_set_ne z] at e
    exact h.2 j n e
theorem good0 : GoodRow [1, 1, 1, 2, 1, 2, 1, 1, 2, 1, 20] := by
  refine ⟨rfl, fun i n e => ?_⟩
  rcases i with _ | _ | _ | _ | _ | _ | _ | _ | _ | _ | _ | i
  all_goals first
    | (cases e; decide)
    | (cases e; done)
theorem iv_set (ns : List Int) (i : Nat) (d : Int) : (iv ns).set i (.int d) = iv (ns.set i d) := by
  exact List.map_set.symm
theorem ixN_nat {n i : Nat} (h : i < n) : ixN n (i : Int) = some i := by
  unfold ixN
  rw [if_pos (by omega), if_pos (by omega)]
  simp
abbrev s_prow : Stmt := top 18
abbrev s_full : Stmt := top 22
theorem sc_prow : FnScope ["_law_pot_here", "_law_way", "_law_found", "_law_at"] ["_law_pot_here"] (defScope s_prow) := ⟨rfl, rfl, rfl, by decide +kernel, rfl, by decide +kernel, by decide +kernel⟩
theorem sc_full : FnScope ["_law_pot_here", "_law_row", "_law_at", "_law_way"] ["_law_pot_here"] (defScope s_full) := ⟨rfl, rfl, rfl, by decide +kernel, rfl, by decide +kernel, by decide +kernel⟩
def spRow (c : Nat) : Sp := fun vs H Q _ => ∃ (p : Addr) (n : Nat), vs = [.ref p] ∧ Pot (n + c) H p ∧ ∀ ns T H', KB p H H' → H T = none → H' T = some (.tup (iv ns)) → GoodRow ns → Pot n H' p → Q (.ref T) H'
section
variable {P : Program} {w : World} {K : PySem.W.Frag} {mg : Str → Option Value} {base : Heap} {f f1 f2 f3 C fi : Addr} {fd fd1 fd2 fd3 : FuncData} {k : Nat}
theorem ok_prow (G : Free mg) (F : FnP K "_law_price_row" s_prow f fd) (F1 : FnP K "_law_take" s_take f1 fd1) (g1 : mg "_law_take" = some (.ref f1)) (F2 : FnP K "_law_of" s_of f2 fd2) (g2 : mg "_law_of" = some (.ref f2)) : FnOk P w K mg base CX0 (k + 3) f fd ["_law_pot_here"] (spRow 24) := by
  have b1 : Binds K fd1 ["_law_pot_here", "_law_upto"] [] := F1.bindsN fun _ _ _ _ _ _ us hl => match us, hl with | [_, _], _ => rfl
  have b2 : Binds K fd2 ["_law_pot_here", "_law_some"] [] := F2.bindsN fun _ _ _ _ _ _ us hl => match us, hl with | [_, _], _ => rfl
  refine F.ok sc_prow (fun vs H Q E h => ?_) (fun cdv A outer s H vs Q E hr h => ?_)
  · obtain ⟨p, n, rfl, _⟩ := h
    rfl
  obtain ⟨p, n, rfl, hP, q⟩ := h
  have hr1 : Room (k + 1) (A.deeper (envOfC "_law_price_row" (defScope s_prow) s.heap.objs.size f cdv)) := hr.mono (by omega)
  refine ⟨_, PSs.nox (pss_cons (ps_par (i := 1) (j := 2) (by rfl) sc_prow.nd rfl rfl (by decide) rfl rfl (pa_cons (pe_call (ok_take (k := k) G F1) hr1 (by rfl) g1 F1.kp b1 .nil pass0 (pa_cons (pv 0) (pa_cons pe_int pa_nil))) (pa_cons (pe_lst (pa_cons pe_int (pa_cons pe_int (pa_cons pe_int (pa_cons pe_int (pa_cons pe_int (pa_cons pe_int (pa_cons pe_int (pa_cons pe_int (pa_cons pe_int (pa_cons pe_int (pa_cons pe_int pa_nil)))))))))))) pa_nil)) (by rfl))
    (pss_cons (ps_for PassesOwn.never rfl (pi_range1 (by rfl) G.f_range (pa_cons pe_int pa_nil)) (pg_name (i := 3) sc_prow.nd rfl (.inl rfl))
      (pss_one (ps_if (PW.pt (pw_or (pt_cmpR op_eq (pv 1) pe_int (nomark _)) (pw_or1 (PW.pt (pw_and (pt_cmpR op_eq (pv 1) pe_int (nomark _)) (pw_and1 (pt_cmpR op_eq (pe_call (ok_take (k := k) G F1) hr1 (by rfl) g1 F1.kp b1 .nil pass0 (pa_cons (pv 0) (pa_cons pe_int pa_nil))) pe_int (nomark _))))))))
        (pss_one (ps_asg (pe_call (ok_take (k := k) G F1) hr1 (by rfl) g1 F1.kp b1 .nil pass0 (pa_cons (pv 0) (pa_cons pe_int pa_nil))) (pg_sub (pv 2) (pv 3) set_list)))
        pss_nil)))
      (pss_cons (ps_asg (pe_call (ok_of (k := k) G F2 F1 g1) hr (by rfl) g2 F2.kp b2 .nil pass0 (pa_cons (pv 0) (pa_cons (pe_lst (pa_cons pe_int (pa_cons (pe_op op_add pe_int (pe_call (ok_take (k := k) G F1) hr1 (by rfl) g1 F1.kp b1 .nil pass0 (pa_cons (pv 0) (pa_cons pe_int pa_nil)))) (pa_cons (pe_op op_add pe_int (pe_call (ok_take (k := k) G F1) hr1 (by rfl) g1 F1.kp b1 .nil pass0 (pa_cons (pv 0) (pa_cons pe_int pa_nil)))) (pa_cons pe_int pa_nil))))) pa_nil))) (pg_sub (pv 2) pe_int set_list))
        (pss_one (ps_ret (pe_callTy call_tuple_of (by rfl) G.f_tuple (by decide +kernel) (pa_cons (pv 2) pa_nil))))))), ?_⟩
  refine ⟨_, rfl, p, n + 23, 3, rfl, by decide, by decide, hP, fun way H1 w0 w1 kb1 P1 => ⟨(by show 11 ≤ sizeLine; decide), fun l nl => ⟨_, _, rfl, ?_⟩⟩⟩
  have nlp : l ≠ p := P1.ne nl
  have nlH : H l = none := P1.back kb1 nl
  refine ⟨_, rfl, by decide, by decide, for_it walk_range (fun i σ Hc => ∃ x ns, σ = [some (.ref p), some (.int way), some (.ref l), x] ∧ Hc l = some (.lst (iv ns)) ∧ GoodRow ns ∧ KB p H Hc ∧ Pot (n + 3 + 2 * (10 - i)) Hc p) ⟨_, [1, 1, 1, 2, 1, 2, 1, 1, 2, 1, 20], rfl, upd_same, good0, kb1.updn nlH, P1.upd nlp⟩ (fun _ _ _ _ _ => trivial) (fun i x σ Hc Hc' hi pv hy => ?_) (fun σ Hc pv => ?_)⟩
  · obtain ⟨x0, ns, rfl, hl, hg, kb, pt⟩ := pv
    obtain ⟨rfl, rfl⟩ := hy
    have hi' : i < 10 := hi
    have ix : ixN (iv ns).length (0 + (i : Int)) = some i := by
      rw [Int.zero_add, List.length_map, hg.1]
      exact ixN_nat (by omega)
    have fin : ∀ (Hc2 H2 : Hp) (d : Int), 0 ≤ d → d < 10 → KB p Hc' Hc2 → KB p Hc2 H2 → Pot (n + 3 + 2 * (10 - (i + 1))) H2 p → H2 l = some (.lst (iv ns)) ∧ ∃ ns', upd H2 l (.lst ((iv ns).set i (.int d))) l = some (.lst (iv ns')) ∧ GoodRow ns' ∧ KB p H (upd H2 l (.lst ((iv ns).set i (.int d)))) ∧ Pot (n + 3 + 2 * (10 - (i + 1))) (upd H2 l (.lst ((iv ns).set i (.int d)))) p := fun Hc2 H2 d d0 d1 k1 k2 P2 => by
      refine ⟨k2 l _ nlp (k1 l _ nlp hl), ns.set i d, ?_, hg.set ?_, ((kb.trans k1).trans k2).updn nlH, P2.upd nlp⟩
      · rw [iv_set]
        exact upd_same
      · rw [if_neg (by omega)]
        omega
    refine ⟨_, rfl, rfl, _, rfl, ite2 (fun e => ?_) (fun e => ⟨_, rfl, rfl, _, rfl, ite2 (fun e2 => ?_) (fun e2 => ?_)⟩)⟩
    · refine ⟨_, rfl, p, _, 10, rfl, by decide, by decide, pt.less (k := (n + 3 + 2 * (10 - (i + 1))) + 1) (by omega), fun d H2 d0 d1 k2 P2 => ?_⟩
      obtain ⟨a1, ns', a2, a3, a4, a5⟩ := fin Hc' H2 d d0 d1 KB.refl k2 P2
      exact ⟨_, rfl, _, rfl, l, _, _, i, rfl, rfl, a1, ix, _, ns', rfl, a2, a3, a4, a5⟩
    · refine ⟨_, rfl, p, _, 3, rfl, by decide, by decide, pt.less (k := (n + 3 + 2 * (10 - (i + 1))) + 1 + 1) (by omega), fun d H2 d0 d1 k2 P2 => ⟨rfl, _, rfl, ite2 (fun e3 => ?_) (fun e3 => ?_)⟩⟩
      · refine ⟨_, rfl, p, _, 10, rfl, by decide, by decide, P2, fun d H3 d0 d1 k3 P3 => ?_⟩
        obtain ⟨a1, ns', a2, a3, a4, a5⟩ := fin H2 H3 d d0 d1 k2 k3 P3
        exact ⟨_, rfl, _, rfl, l, _, _, i, rfl, rfl, a1, ix, _, ns', rfl, a2, a3, a4, a5⟩
      · exact ⟨_, ns, rfl, k2 l _ nlp hl, hg, kb.trans k2, P2.less (by omega)⟩
    · exact iteF ⟨_, ns, rfl, hl, hg, kb, pt.less (by omega)⟩
  · obtain ⟨x0, ns, rfl, hl, hg, kb, pt⟩ := pv
    refine ⟨_, rfl, _, rfl, p, _, 12, rfl, by decide, by decide, pt.less (k := n + 2 + 1) (by omega), fun d1 H2 d10 d11 k2 P2 => ⟨_, _, rfl, rfl, ?_⟩⟩
    refine ⟨_, rfl, p, _, 99, rfl, by decide, by decide, P2, fun d2 H3 d20 d21 k3 P3 => ⟨_, _, rfl, rfl, (by show 4 ≤ sizeLine; decide), fun l2 nl2 => ?_⟩⟩
    have n2p : l2 ≠ p := P3.ne nl2
    refine ⟨p, l2, n, _, rfl, n2p, seqL upd_same, (by show 1 ≤ 4; decide), (by show 4 ≤ 100000; decide), P3.upd n2p, fun v H4 hv k4 P4 => ?_⟩
    obtain ⟨d, rfl, d0, d1⟩ : ∃ d : Int, v = .int d ∧ 1 ≤ d ∧ d ≤ 99 := by
      simp only [List.mem_cons, List.not_mem_nil, or_false] at hv
      rcases hv with rfl | rfl | rfl | rfl
      · exact ⟨_, rfl, by decide, by decide⟩
      · exact ⟨_, rfl, by omega, by omega⟩
      · exact ⟨_, rfl, by omega, by omega⟩
      · exact ⟨_, rfl, by decide, by decide⟩
    have kk : KB p Hc H4 := ((k2.trans k3).trans (KB.new nl2)).trans k4
    have ix : ixN (iv ns).length 10 = some 10 := by
      rw [List.length_map, hg.1]
      rfl
    refine ⟨_, rfl, l, _, _, 10, rfl, rfl, kk l _ nlp hl, ix, _, rfl, l, _, rfl, .inl ⟨seqL upd_same, fun T nT => ?_⟩⟩
    have k5 : KB p H (upd H4 l (.lst ((iv ns).set 10 (.int d)))) := (kb.trans kk).updn nlH
    have P5 : Pot n (upd H4 l (.lst ((iv ns).set 10 (.int d)))) p := P4.upd nlp
    have nTH : H T = none := P5.back k5 nT
    refine q (ns.set 10 d) T _ (k5.trans (KB.new nT)) nTH ?_ (hg.set (by rw [if_pos rfl]; exact ⟨d0, d1⟩)) (P5.upd (P5.ne nT))
    rw [iv_set]
    exact upd_same
end
end Ev

namespace Ev
open PySem PySem.Spec PyProof.Rows L2
theorem iteT' {c : Bool} {A B : Prop} (hc : c = true) (h : A) : if c = true then A else B := by rw [if_pos hc]; exact h
theorem iteF' {c : Bool} {A B : Prop} (hc : c = false) (h : B) : if c = true then A else B := by rw [if_neg (by rw [hc]; exact Bool.false_ne_true)]; exact h
theorem dI (a b : Int) : decide (V.int a = V.int b) = decide (a = b) := by
  by_cases h : a = b
  · rw [decide_eq_true h, decide_eq_true (congrArg V.int h)]
  · rw [decide_eq_false h, decide_eq_false (fun z => h (by injection z))]
section
variable {P : Program} {w : World} {K : PySem.W.Frag} {mg : Str → Option Value} {base : Heap} {f f1 f2 f3 C fi : Addr} {fd fd1 fd2 fd3 : FuncData} {k : Nat}
theorem ok_full (G : Free mg) (F : FnP K "_law_full_row" s_full f fd) (F1 : FnP K "_law_take" s_take f1 fd1) (g1 : mg "_law_take" = some (.ref f1)) (F2 : FnP K "_law_of" s_of f2 fd2) (g2 : mg "_law_of" = some (.ref f2))
    (F3 : FnP K "_law_price_row" s_prow f3 fd3) (g3 : mg "_law_price_row" = some (.ref f3)) : FnOk P w K mg base CX0 (k + 4) f fd ["_law_pot_here"] (spRow 35) := by
  have b1 : Binds K fd1 ["_law_pot_here", "_law_upto"] [] := F1.bindsN fun _ _ _ _ _ _ us hl => match us, hl with | [_, _], _ => rfl
  have b3 : Binds K fd3 ["_law_pot_here"] [] := F3.bindsN fun _ _ _ _ _ _ us hl => match us, hl with | [_], _ => rfl
  refine F.ok sc_full (fun vs H Q E h => ?_) (fun cdv A outer s H vs Q E hr h => ?_)
  · obtain ⟨p, n, rfl, _⟩ := h
    rfl
  obtain ⟨p, n, rfl, hP, q⟩ := h
  have hr1 : Room (k + 1) (A.deeper (envOfC "_law_full_row" (defScope s_full) s.heap.objs.size f cdv)) := hr.mono (by omega)
  refine ⟨_, PSs.nox (pss_cons (ps_set (i := 1) sc_full.nd rfl (.inl rfl) (pe_callTy call_list_of (by rfl) G.f_list (by decide +kernel) (pa_cons (pe_call (ok_prow (k := k) G F3 F1 g1 F2 g2) hr (by rfl) g3 F3.kp b3 .nil pass0 (pa_cons (pv 0) pa_nil)) pa_nil)))
    (pss_cons (ps_for PassesOwn.never rfl (pi_range1 (by rfl) G.f_range (pa_cons pe_int pa_nil)) (pg_name (i := 2) sc_full.nd rfl (.inl rfl))
      (pss_cons (ps_set (i := 3) sc_full.nd rfl (.inl rfl) (pe_call (ok_take (k := k) G F1) hr1 (by rfl) g1 F1.kp b1 .nil pass0 (pa_cons (pv 0) (pa_cons pe_int pa_nil))))
        (pss_cons (ps_if (pt_cmpR op_eq (pv 3) pe_int (nomark _))
          (pss_one (ps_asg (pe_ifExp (pt_cmpR op_eq (pv 2) pe_int (nomark _)) pe_int pe_int) (pg_sub (pv 1) (pv 2) set_list)))
          pss_nil)
          (pss_one (ps_if (pt_cmpR op_eq (pv 3) pe_int (nomark _))
            (pss_one (ps_asg (pe_ifExp (pt_cmpR op_eq (pv 2) pe_int (nomark _)) pe_int pe_int) (pg_sub (pv 1) (pv 2) set_list)))
            pss_nil)))))
      (pss_one (ps_ret (pe_callTy call_tuple_of (by rfl) G.f_tuple (by decide +kernel) (pa_cons (pv 1) pa_nil)))))), ?_⟩
  refine ⟨_, rfl, p, n + 11, rfl, hP, fun ns0 T H1 kb1 nT eT hg0 P1 => ⟨T, _, rfl, .inr (seqT eT), fun l nl => ?_⟩⟩
  have nlp : l ≠ p := P1.ne nl
  have nlH : H l = none := P1.back kb1 nl
  refine ⟨_, rfl, by decide, by decide, for_it walk_range (fun i σ Hc => ∃ x y ns, σ = [some (.ref p), some (.ref l), x, y] ∧ Hc l = some (.lst (iv ns)) ∧ GoodRow ns ∧ KB p H Hc ∧ Pot (n + (11 - i)) Hc p) ⟨_, _, ns0, rfl, upd_same, hg0, kb1.updn nlH, P1.upd nlp⟩ (fun _ _ _ _ _ => trivial) (fun i x σ Hc Hc' hi pv hy => ?_) (fun σ Hc pv => ?_)⟩
  · obtain ⟨x0, y0, ns, rfl, hl, hg, kb, pt⟩ := pv
    obtain ⟨rfl, rfl⟩ := hy
    have hi' : i < 11 := hi
    have ix : ixN (iv ns).length (0 + (i : Int)) = some i := by
      rw [Int.zero_add, List.length_map, hg.1]
      exact ixN_nat (by omega)
    refine ⟨_, rfl, p, _, 8, rfl, by decide, by decide, pt.less (k := (n + (11 - (i + 1))) + 1) (by omega), fun d H2 d0 d1 k2 P2 => ?_⟩
    have hl2 : H2 l = some (.lst (iv ns)) := k2 l _ nlp hl
    have fin : ∀ d : Int, (if i = 10 then 1 ≤ d ∧ d ≤ 99 else 0 ≤ d ∧ d ≤ 9) → ∃ ns', upd H2 l (.lst ((iv ns).set i (.int d))) l = some (.lst (iv ns')) ∧ GoodRow ns' ∧ KB p H (upd H2 l (.lst ((iv ns).set i (.int d)))) ∧ Pot (n + (11 - (i + 1))) (upd H2 l (.lst ((iv ns).set i (.int d)))) p := fun d hd => by
      refine ⟨ns.set i d, ?_, hg.set hd, (kb.trans k2).updn nlH, P2.upd nlp⟩
      rw [iv_set]
      exact upd_same
    have ht : decide (V.int (0 + (i : Int)) = V.int 10) = decide (i = 10) := by
      rw [dI]
      by_cases z : i = 10
      · rw [decide_eq_true z, decide_eq_true (by omega)]
      · rw [decide_eq_false z, decide_eq_false (by omega)]
    by_cases z0 : d = 0
    · subst z0
      by_cases z : i = 10
      · obtain ⟨ns', a2, a3, a4, a5⟩ := fin 1 (by rw [if_pos z]; exact ⟨by decide, by decide⟩)
        exact ⟨_, rfl, rfl, _, rfl, iteT ⟨_, rfl, rfl, _, rfl, iteT' (ht.trans (decide_eq_true z)) ⟨_, rfl, _, rfl, l, _, _, i, rfl, rfl, hl2, ix, _, rfl, rfl, _, rfl, iteF ⟨_, _, ns', rfl, a2, a3, a4, a5⟩⟩⟩⟩
      · obtain ⟨ns', a2, a3, a4, a5⟩ := fin 0 (by rw [if_neg z]; exact ⟨by decide, by decide⟩)
        exact ⟨_, rfl, rfl, _, rfl, iteT ⟨_, rfl, rfl, _, rfl, iteF' (ht.trans (decide_eq_false z)) ⟨_, rfl, _, rfl, l, _, _, i, rfl, rfl, hl2, ix, _, rfl, rfl, _, rfl, iteF ⟨_, _, ns', rfl, a2, a3, a4, a5⟩⟩⟩⟩
    · have e0 : decide (V.int d = V.int 0) = false := (dI _ _).trans (decide_eq_false z0)
      by_cases z1 : d = 1
      · subst z1
        by_cases z : i = 10
        · obtain ⟨ns', a2, a3, a4, a5⟩ := fin 99 (by rw [if_pos z]; exact ⟨by decide, by decide⟩)
          exact ⟨_, rfl, rfl, _, rfl, iteF' e0 ⟨_, rfl, rfl, _, rfl, iteT ⟨_, rfl, rfl, _, rfl, iteT' (ht.trans (decide_eq_true z)) ⟨_, rfl, _, rfl, l, _, _, i, rfl, rfl, hl2, ix, _, _, ns', rfl, a2, a3, a4, a5⟩⟩⟩⟩
        · obtain ⟨ns', a2, a3, a4, a5⟩ := fin 9 (by rw [if_neg z]; exact ⟨by decide, by decide⟩)
          exact ⟨_, rfl, rfl, _, rfl, iteF' e0 ⟨_, rfl, rfl, _, rfl, iteT ⟨_, rfl, rfl, _, rfl, iteF' (ht.trans (decide_eq_false z)) ⟨_, rfl, _, rfl, l, _, _, i, rfl, rfl, hl2, ix, _, _, ns', rfl, a2, a3, a4, a5⟩⟩⟩⟩
      · have e1 : decide (V.int d = V.int 1) = false := (dI _ _).trans (decide_eq_false z1)
        exact ⟨_, rfl, rfl, _, rfl, iteF' e0 ⟨_, rfl, rfl, _, rfl, iteF' e1 ⟨_, _, ns, rfl, hl2, hg, kb.trans k2, P2⟩⟩⟩
  · obtain ⟨x0, y0, ns, rfl, hl, hg, kb, pt⟩ := pv
    refine ⟨_, rfl, l, _, rfl, .inl ⟨seqL hl, fun T nT => ?_⟩⟩
    exact q ns T _ (kb.trans (KB.new nT)) (pt.back kb nT) upd_same hg ((pt.less (by omega)).upd (pt.ne nT))
end
end Ev

namespace Ev
open PySem PySem.Spec PyProof.Rows L2
abbrev s_prices : Stmt := top 17
theorem sc_prices : FnScope ["_law_row"] ["_law_row"] (defScope s_prices) := ⟨rfl, rfl, rfl, by decide +kernel, rfl, by decide +kernel, by decide +kernel⟩
def spPrices (C B : Addr) : Sp := fun vs H Q E => ∃ (t : Addr) (row : List V), vs = [.ref t] ∧ H t = some (.tup row) ∧ row.length = 11 ∧ (∀ v ∈ row, Odd H v) ∧
  (∀ a H', Same H H' → H a = none → badOf row = none → PAt C H' a row → Q (.ref a) H') ∧
  (∀ H' d v, Same H H' → badOf row = some v → H' d = some (.xd [("value", v)]) → E (.ref B) (some d) H')
/-- a call of Prices with its values -/
theorem init_read {C B : Addr} {row : List V} {H : Hp} {x dx : Addr} {Q : VK} {E : XK} (hl : row.length = 11) (ho : ∀ v ∈ row, Odd H v) (nx : H x = none) (nd : H dx = none) (hne : dx ≠ x)
    (q : ∀ a H', Same H H' → H a = none → badOf row = none → PAt C H' a row → Q (.ref a) H') (qE : ∀ H' d v, Same H H' → badOf row = some v → H' d = some (.xd [("value", v)]) → E (.ref B) (some d) H') :
    spInit C B (.ref x :: row) (upd (upd H dx (.own x)) x (.ins C dx [])) (fun v H3 => v = .non ∧ Q (.ref x) H3) E := by
  have s1 : Same H (upd (upd H dx (.own x)) x (.ins C dx [])) := fun b o e => by
    rw [upd_ne (ne_of_none e nx), upd_ne (ne_of_none e nd)]
    exact e
  have kk : ∀ {H'}, KB x (upd (upd H dx (.own x)) x (.ins C dx [])) H' → Same H H' := fun k b o e => k b o (ne_of_none e nx) (s1 b o e)
  exact ⟨x, dx, row, rfl, hl, upd_same, fun v hv => (ho v hv).mono s1, fun H' D k hb h1 h2 => ⟨rfl, q x H' (kk k) nx hb ⟨dx, D, h1, h2⟩⟩, fun H' d v k hb h1 => qE H' d v (kk k) hb h1⟩
section
variable {P : Program} {w : World} {K : PySem.W.Frag} {mg : Str → Option Value} {base : Heap} {f f1 f2 f3 C B R fI fi : Addr} {fd fd1 fd2 fd3 fdI fdi : FuncData} {k : Nat}
theorem ok_prices (G : Free mg) (W : Pr K mg C fi) (OI : FnOk P w K mg base (L2.CX P w) (k + 3) fi fdi initNames (spInit C B)) (Fi : FnInit K fi fdi) (F : FnP K "_law_prices" s_prices f fd) : FnOk P w K mg base (L2.CX P w) (k + 5) f fd ["_law_row"] (spPrices C B) := by
  obtain ⟨mv, kb⟩ := kb_all Fi
  refine F.ok sc_prices (fun vs H Q E h => ?_) (fun cdv A outer s H vs Q E hr h => ?_)
  · obtain ⟨t, row, rfl, _⟩ := h
    rfl
  obtain ⟨t, row, rfl, ht, hl, ho, q, qE⟩ := h
  refine ⟨_, pss_one (ps_ret (pe_makeK0 W.mkr OI hr (by rfl) W.g kb (passes_call (takes_of rfl rfl rfl rfl) (fun _ _ _ _ h => h)) (pk_cons (pe_ix ix_tup (pv 0) pe_int (fun _ _ => rfl)) (pk_cons (pe_ix ix_tup (pv 0) pe_int (fun _ _ => rfl)) (pk_cons (pe_ix ix_tup (pv 0) pe_int (fun _ _ => rfl)) (pk_cons (pe_ix ix_tup (pv 0) pe_int (fun _ _ => rfl)) (pk_cons (pe_ix ix_tup (pv 0) pe_int (fun _ _ => rfl)) (pk_cons (pe_ix ix_tup (pv 0) pe_int (fun _ _ => rfl)) (pk_cons (pe_ix ix_tup (pv 0) pe_int (fun _ _ => rfl)) (pk_cons (pe_ix ix_tup (pv 0) pe_int (fun _ _ => rfl)) (pk_cons (pe_ix ix_tup (pv 0) pe_int (fun _ _ => rfl)) (pk_cons (pe_ix ix_tup (pv 0) pe_int (fun _ _ => rfl)) (pk_cons (pe_ix ix_tup (pv 0) pe_int (fun _ _ => rfl)) pk_nil))))))))))))), ?_⟩
  obtain ⟨r1, r2, r3, r4, r5, r6, r7, r8, r9, r10, r11, e⟩ := row11 hl
  subst e
  have S : SqT K H t [r1, r2, r3, r4, r5, r6, r7, r8, r9, r10, r11] := seqT ht
  refine ⟨_, rfl, t, _, 0, _, rfl, rfl, S, rfl, _, rfl, t, _, 1, _, rfl, rfl, S, rfl, _, rfl, t, _, 2, _, rfl, rfl, S, rfl, _, rfl, t, _, 3, _, rfl, rfl, S, rfl, _, rfl, t, _, 4, _, rfl, rfl, S, rfl, _, rfl, t, _, 5, _, rfl, rfl, S, rfl, _, rfl, t, _, 6, _, rfl, rfl, S, rfl, _, rfl, t, _, 7, _, rfl, rfl, S, rfl, _, rfl, t, _, 8, _, rfl, rfl, S, rfl, _, rfl, t, _, 9, _, rfl, rfl, S, rfl, _, rfl, t, _, 10, _, rfl, rfl, S, rfl, rfl, rfl, fun x dx nx nd hne => ?_⟩
  exact init_read hl ho nx nd hne q qE
end
end Ev

namespace Ev
open PySem PySem.Spec PyProof.Rows L2
abbrev s_bad : Stmt := top 20
theorem sc_bad : FnScope ["_law_row", "_law_caught", "error"] ["_law_row"] (defScope s_bad) := ⟨rfl, rfl, rfl, by decide +kernel, rfl, by decide +kernel, by decide +kernel⟩
def shw : Option PyData → Str
  | none => ""
  | some d => d.shown
def spBad (K : PySem.W.Frag) : Sp := fun vs H Q _ => ∃ (t : Addr) (row : List V) (sh : Option PyData), vs = [.ref t] ∧ H t = some (.tup row) ∧ row.length = 11 ∧ (∀ v ∈ row, Odd H v) ∧
  ((badOf row = none ∧ sh = none) ∨ ∃ v d, badOf row = some v ∧ sh = some d ∧ Rp K H v d ∧ Nice d 20) ∧ ∀ H', Same H H' → Q (.str (shw sh)) H'
section
variable {P : Program} {w : World} {K : PySem.W.Frag} {mg : Str → Option Value} {base : Heap} {f f1 f2 f3 C B R fI fi : Addr} {fd fd1 fd2 fd3 fdI fdi : FuncData} {k : Nat}
theorem ok_bad (S : SysIn K) (G : Free mg) (T : ErrR P K R fI fdI) (TB : ErrC K R fI B) (gB : mg "BadPrice" = some (.ref B)) (eB : PySem.W.exmOne K (.ref B) (.ref B) = some true)
    (F : FnP K "_law_bad_price" s_bad f fd) (F1 : FnP K "_law_prices" s_prices f1 fd1) (g1 : mg "_law_prices" = some (.ref f1)) (O1 : FnOk P w K mg base (L2.CX P w) (k + 5) f1 fd1 ["_law_row"] (spPrices C B)) : FnG P w K mg base CX0 (k + 6) f fd ["_law_row"] (spBad K) := by
  have b1 : Binds K fd1 ["_law_row"] [] := F1.bindsN fun _ _ _ _ _ _ us hl => match us, hl with | [_], _ => rfl
  refine FnG.by_body F sc_bad (fun vs H Q E h => ?_) (fun cdv A outer s H vs Q E g hr h => ?_)
  · obtain ⟨t, row, sh, rfl, _⟩ := h
    rfl
  obtain ⟨t, row, sh, rfl, ht, hl, ho, hb, q⟩ := h
  refine ⟨_, PSs.nox (pss_cons (ps_set (i := 1) sc_bad.nd rfl (.inl rfl) pe_non)
    (pss_cons (ps_try_held (i := 2) (c := .ref B) (Wout := fun _ _ _ _ => False) rfl rfl rfl sc_bad.nd rfl rfl ⟨rfl, by decide, .inl gB⟩ takes0 (fun W pn xe tk po => pss_one (ps_expr (pe_callS O1 hr (by rfl) g1 F1.kp b1 (passAt tk) (pa_cons (pv 0) pa_nil)))) (fun a oe cls d pn hz hf => pss_one (ps_set (i := 1) sc_bad.nd rfl (.inl rfl) (pv 2))))
      (pss_one (ps_ret (pe_ifExp (pt_cmpR op_isN (pv 1) pe_non (nomark _)) pe_str (pe_callB (call_repr S g hr.units) (by rfl) G.f_repr (by decide +kernel) (pa_cons (pe_valueW T (pv 1)) pa_nil))))))), ?_⟩
  refine ⟨_, rfl, t, row, rfl, ht, hl, ho, fun a H1 s1 na hn hp => ?_, fun H1 d v s1 hv hd => ⟨true, eB, fun _ a na => ?_, fun z => nomatch z⟩⟩
  · rcases hb with ⟨_, rfl⟩ | ⟨v, d, e, _⟩
    · exact ⟨_, rfl, rfl, _, rfl, iteT (q H1 s1)⟩
    · rw [hn] at e
      cases e
  · rcases hb with ⟨e, _⟩ | ⟨v', d', e, rfl, rp, nice⟩
    · rw [hv] at e
      cases e
    · rw [hv] at e
      cases e
      have s2 : Same H (upd H1 a (exw a (.ref B) (some d))) := fun b o e => by
        rw [upd_ne (ne_of_none (s1 b o e) na)]
        exact s1 b o e
      refine ⟨_, rfl, _, rfl, rfl, _, rfl, iteF ⟨_, rfl, a, B, d, v, rfl, TB, upd_same, ?_, v, d', rfl, rp.mono s2, nice.show_, Nat.le_trans nice.deep (by decide), Nat.le_trans nice.short (by decide), q _ s2⟩⟩
      rw [upd_ne (fun z => by rw [z, na] at hd; cases hd)]
      exact hd
end
end Ev

namespace Ev
open PySem PySem.Spec PyProof.Rows L2
/-! ### what stays while lists with items are written -/
def Kn (H H' : Hp) : Prop := ∀ b o, (∀ xs, o = .lst xs → xs = []) → H b = some o → H' b = some o
theorem Kn.refl {H : Hp} : Kn H H := fun _ _ _ e => e
theorem Kn.trans {H H1 H2 : Hp} (a : Kn H H1) (b : Kn H1 H2) : Kn H H2 := fun c o n e => b c o n (a c o n e)
theorem Kn.same {H H' : Hp} (s : Same H H') : Kn H H' := fun b o _ e => s b o e
theorem Kn.pot {n : Nat} {p : Addr} {H H' : Hp} (hp : Pot n H p) (k : KB p H H') : Kn H H' := fun b o n e => by
  obtain ⟨o1, m, c, h1, _⟩ := hp
  refine k b o (fun z => ?_) e
  rw [z, h1] at e
  have := n _ (Option.some.inj e).symm
  cases this
theorem Kn.at {l : Addr} {H : Hp} {vs : List V} {o : HO} (hl : H l = some (.lst vs)) (hn : vs ≠ []) : Kn H (upd H l o) := fun b u n e => by
  rw [upd_ne (fun z => by rw [z, hl] at e; exact hn (n _ (Option.some.inj e).symm))]
  exact e
theorem PAt.kn {C : Addr} {H H' : Hp} {a : Addr} {row : List V} (k : Kn H H') (h : PAt C H a row) : PAt C H' a row := by
  obtain ⟨dx, D, h1, h2⟩ := h
  exact ⟨dx, D, k _ _ (fun _ z => nomatch z) h1, k _ _ (fun _ z => nomatch z) h2⟩
theorem Kn.tup {H H' : Hp} {a : Addr} {xs : List V} (k : Kn H H') (h : H a = some (.tup xs)) : H' a = some (.tup xs) := k _ _ (fun _ z => nomatch z) h
/-! ### the values the law tries -/
inductive Val (H : Hp) : V → PyData → Prop
  | non : Val H .non .none
  | bl (b : Bool) : Val H (.bl b) (.bool b)
  | int (i : Int) : -1 ≤ i → i ≤ 100 → Val H (.int i) (.int i)
  | one : Val H (.str "1") (.str "1")
  | tup {a : Addr} : H a = some (.tup [.int 1]) → Val H (.ref a) (.tuple [.int 1])
  | lst {a : Addr} : H a = some (.lst []) → Val H (.ref a) (.list [])
theorem Val.kn {H H' : Hp} {v : V} {d : PyData} (k : Kn H H') (h : Val H v d) : Val H' v d := by
  cases h with
  | non => exact .non
  | bl b => exact .bl b
  | int i h1 h2 => exact .int i h1 h2
  | one => exact .one
  | tup e => exact .tup (k.tup e)
  | lst e => exact .lst (k _ _ (fun xs z => by cases z; rfl) e)
theorem Val.odd {H : Hp} {v : V} {d : PyData} (h : Val H v d) : Odd H v := by
  cases h with
  | non => exact .non
  | bl b => exact .bl b
  | int i h1 h2 => exact .int i
  | one => exact .str _
  | tup e => exact .tup e
  | lst e => exact .lst e
theorem Val.rp {K : PySem.W.Frag} {H : Hp} {v : V} {d : PyData} (h : Val H v d) : Rp K H v d := by
  cases h with
  | non => exact .non
  | bl b => exact .bl b
  | int i h1 h2 => exact .int i
  | one => exact .str _
  | tup e => exact .tup (seqT e) (.cons (.int 1) .nil)
  | lst e => exact .lst (seqL e) .nil
theorem Val.dp {K : PySem.W.Frag} {H : Hp} {v : V} {d : PyData} (h : Val H v d) : Dp K H v d := by
  cases h with
  | non => exact .non
  | bl b => exact .bl b
  | int i h1 h2 => exact .int i
  | one => exact .str _
  | tup e => exact .tup (seqT e) (.cons (.int 1) .nil)
  | lst e => exact .lst (seqL e) .nil
theorem nice_int {i : Int} (h1 : -1 ≤ i) (h2 : i ≤ 100) : Nice (.int i) 0 := by
  have all : ∀ j : Nat, j < 102 → Nice (.int ((j : Int) - 1)) 0 := by
    have z : (List.range 102).all (fun j => (PyData.int ((j : Int) - 1)).showable && (decide ((PyData.int ((j : Int) - 1)).depth ≤ 2) && decide ((PyData.int ((j : Int) - 1)).shown.length ≤ 40))) = true := by decide +kernel
    intro j hj
    have q := List.all_eq_true.mp z j (List.mem_range.mpr hj)
    obtain ⟨q1, q2⟩ := Bool.and_eq_true_iff.mp q
    obtain ⟨q2, q3⟩ := Bool.and_eq_true_iff.mp q2
    exact ⟨q1, of_decide_eq_true q2, of_decide_eq_true q3⟩
  have q := all (i + 1).toNat (by omega)
  rw [show (((i + 1).toNat : Nat) : Int) - 1 = i by omega] at q
  exact q
theorem Val.nice {H : Hp} {v : V} {d : PyData} (h : Val H v d) : Nice d 20 := by
  cases h with
  | non => exact ⟨by decide +kernel, by decide +kernel, by decide +kernel⟩
  | bl b => cases b <;> exact ⟨by decide +kernel, by decide +kernel, by decide +kernel⟩
  | int i h1 h2 => exact (nice_int h1 h2).more (by decide)
  | one => exact ⟨by decide +kernel, by decide +kernel, by decide +kernel⟩
  | tup e => exact ⟨by decide +kernel, by decide +kernel, by decide +kernel⟩
  | lst e => exact ⟨by decide +kernel, by decide +kernel, by decide +kernel⟩
theorem Val.lay {H : Hp} {v : V} {d : PyData} (h : Val H v d) : PyData.canLay0 d = true ∧ PyData.depth d ≤ 1 := by
  cases h with
  | non => exact ⟨by decide +kernel, by decide +kernel⟩
  | bl b => cases b <;> exact ⟨by decide +kernel, by decide +kernel⟩
  | int i h1 h2 => exact ⟨rfl, Nat.zero_le _⟩
  | one => exact ⟨by decide +kernel, by decide +kernel⟩
  | tup e => exact ⟨by decide +kernel, by decide +kernel⟩
  | lst e => exact ⟨by decide +kernel, by decide +kernel⟩
theorem vals_dp {K : PySem.W.Frag} {H : Hp} : ∀ {vs : List V}, (∀ v ∈ vs, ∃ d, Val H v d) → ∃ ds, DpAll K H vs ds ∧ PyData.canLayAll0 ds = true ∧ PyData.depthAll ds ≤ 1 ∧ (ds = [] ↔ vs = [])
  | [], _ => ⟨[], .nil, rfl, Nat.zero_le _, by simp⟩
  | v :: r, h => by
    obtain ⟨d, hd⟩ := h v List.mem_cons_self
    obtain ⟨ds, h1, h2, h3, _⟩ := vals_dp (K := K) (fun x hx => h x (List.mem_cons_of_mem _ hx))
    refine ⟨d :: ds, .cons hd.dp h1, ?_, ?_, by simp⟩
    · show (PyData.canLay0 d && PyData.canLayAll0 ds) = true
      rw [hd.lay.1, h2]
      rfl
    · show max (PyData.depth d) (PyData.depthAll ds) ≤ 1
      exact Nat.max_le.mpr ⟨hd.lay.2, h3⟩
theorem shaped_list {ds : List PyData} (h1 : PyData.canLayAll0 ds = true) (h2 : PyData.depthAll ds ≤ 1) : SeqAt.shaped (.list ds) = true := by
  unfold SeqAt.shaped
  have e : PyData.depth (.list ds) ≤ 64 := by
    show PyData.depthAll ds + 1 ≤ 64
    omega
  rw [decide_eq_true e]
  show (PyData.canLayAll0 ds && true) = true
  rw [h1]
  rfl
/-! ### the first that is no price, twice told -/
def wrongL (vs : List V) : List V := (vs.zipIdx.filter fun p => !priceAt (p.2 : Nat) p.1).map (·.1)
theorem wrongL_snoc (vs : List V) (v : V) : wrongL (vs ++ [v]) = if priceAt (vs.length : Nat) v = true then wrongL vs else wrongL vs ++ [v] := by
  unfold wrongL
  rw [List.zipIdx_append, List.filter_append, List.map_append]
  show _ ++ List.map _ (List.filter _ [(v, 0 + vs.length)]) = _
  rw [Nat.zero_add]
  by_cases h : priceAt (vs.length : Nat) v = true
  · rw [if_pos h, List.filter_cons_of_neg (by simp [h])]
    simp
  · rw [if_neg h, List.filter_cons_of_pos (by simp [h])]
    simp
theorem price_two (j : Nat) (v : V) : priceOk (words.getD j "") v = priceAt (j : Nat) v := by
  have e : (words.getD j "" = "reach") ↔ ((j : Int) = 10) := by
    by_cases hj : j < 11
    · have all : ∀ i : Fin 11, (words.getD i.1 "" = "reach") ↔ ((i.1 : Int) = 10) := by decide +kernel
      exact all ⟨j, hj⟩
    · have z : words.getD j "" = "" := by
        rw [List.getD_eq_getElem?_getD, List.getElem?_eq_none (by show 11 ≤ j; omega)]
        rfl
      rw [z]
      constructor
      · intro h
        exact absurd h (by decide +kernel)
      · intro h
        omega
  unfold priceOk priceAt
  by_cases h : words.getD j "" = "reach"
  · rw [if_pos h, if_pos (e.mp h)]
  · rw [if_neg h, if_neg (fun z => h (e.mpr z))]
theorem bad_wrong {vs : List V} (hl : vs.length = 11) : badOf vs = (wrongL vs).head? := by
  obtain ⟨r1, r2, r3, r4, r5, r6, r7, r8, r9, r10, r11, e⟩ := row11 hl
  have ez : words.zip vs = vs.zipIdx.map (fun p => (words.getD p.2 "", p.1)) := by
    rw [e]
    rfl
  unfold badOf wrongL
  rw [ez, List.find?_map, List.head?_map, List.head?_filter]
  have ef : ((fun p : Str × V => !priceOk p.1 p.2) ∘ fun p : V × Nat => (words.getD p.2 "", p.1)) = fun p : V × Nat => !priceAt (p.2 : Nat) p.1 := by
    funext p
    show (!priceOk (words.getD p.2 "") p.1) = _
    rw [price_two]
  rw [ef, Option.map_map]
  rfl
theorem good_bad {ns : List Int} (h : GoodRow ns) : badOf (iv ns) = none := by
  refine bad_none fun j x y h1 h2 => ?_
  have hj : j < 11 := (List.getElem?_eq_some_iff.mp h1).1
  rw [List.getElem?_map] at h2
  obtain ⟨n, hn, rfl⟩ := Option.map_eq_some_iff.mp h2
  have e : x = words.getD j "" := by
    rw [List.getD_eq_getElem?_getD, h1]
    rfl
  rw [e, price_two]
  have g := h.2 j n hn
  show (if (j : Int) = 10 then intOk (.int n) 1 (some 99) else intOk (.int n) 0 (some 9)) = true
  by_cases z : j = 10
  · rw [if_pos z] at g
    rw [if_pos (by omega)]
    show (decide (1 ≤ n) && decide (n ≤ 99)) = true
    rw [decide_eq_true g.1, decide_eq_true g.2]
    rfl
  · rw [if_neg z] at g
    rw [if_neg (by omega)]
    show (decide (0 ≤ n) && decide (n ≤ 9)) = true
    rw [decide_eq_true g.1, decide_eq_true g.2]
    rfl
end Ev

namespace Ev
open PySem PySem.Spec PyProof.Rows L2
abbrev s_right : Stmt := top 23
abbrev rightN : List Str := ["_law_pot_here", "_law_row", "_law_costs", "_law_at", "_law_given", "_law_turn", "_law_wrong", "_law_place", "_law_one", "_law_bare"]
theorem sc_right : FnScope rightN ["_law_pot_here"] (defScope s_right) := ⟨rfl, rfl, rfl, by decide +kernel, rfl, by decide +kernel, by decide +kernel⟩
def spRight : Sp := fun vs H Q _ => ∃ (p : Addr) (n : Nat), vs = [.ref p] ∧ Pot (n + 43) H p ∧ ∀ H', KB p H H' → Pot n H' p → Q (.bl true) H'
theorem Pot.same {n : Nat} {H H' : Hp} {p : Addr} (h : Pot n H p) (s : Same H H') : Pot n H' p := h.keep fun o e => s _ _ e
theorem ints_show : ∀ {ns : List Int}, (∀ n ∈ ns, -1 ≤ n ∧ n ≤ 100) → PyData.showableAll (ns.map PyData.int) = true ∧ PyData.depthAll (ns.map PyData.int) = 0 ∧ ((PyData.shownAll (ns.map PyData.int)).map (·.length)).sum ≤ 40 * ns.length ∧ (PyData.shownAll (ns.map PyData.int)).length = ns.length
  | [], _ => ⟨rfl, rfl, Nat.zero_le _, rfl⟩
  | n :: r, h => by
    obtain ⟨h1, h2, h3, h4⟩ := ints_show (ns := r) (fun x hx => h x (List.mem_cons_of_mem _ hx))
    have b := nice_int (h n List.mem_cons_self).1 (h n List.mem_cons_self).2
    have bs := b.short
    refine ⟨?_, ?_, ?_, ?_⟩
    · show (PyData.showable (.int n) && PyData.showableAll (r.map PyData.int)) = true
      rw [b.show_, h1]
      rfl
    · show max (PyData.depth (.int n)) (PyData.depthAll (r.map PyData.int)) = 0
      rw [h2]
      rfl
    · show (PyData.shown (.int n)).length + ((PyData.shownAll (r.map PyData.int)).map (·.length)).sum ≤ 40 * (r.length + 1)
      omega
    · show (PyData.shownAll (r.map PyData.int)).length + 1 = r.length + 1
      rw [h4]
theorem rp_ints {K : PySem.W.Frag} {H : Hp} : ∀ ns : List Int, RpAll K H (iv ns) (ns.map PyData.int)
  | [] => .nil
  | n :: r => .cons (.int n) (rp_ints r)
structure Shown (d : PyData) : Prop where
  a : d.showable = true
  b : d.depth ≤ 60
  c : d.shown.length ≤ sizeLine
theorem show_row {ns : List Int} (h : ∀ n ∈ ns, -1 ≤ n ∧ n ≤ 100) (hl : ns.length = 11) : Shown (.tuple (ns.map PyData.int)) := by
  obtain ⟨h1, h2, h3, h4⟩ := ints_show h
  refine ⟨h1, ?_, ?_⟩
  · show PyData.depthAll (ns.map PyData.int) + 1 ≤ 60
    omega
  · show (tupleText (PyData.shownAll (ns.map PyData.int))).length ≤ sizeLine
    have z := tupleText_len_le (PyData.shownAll (ns.map PyData.int))
    have e : 1000 ≤ sizeLine := by decide
    omega
theorem GoodRow.small {ns : List Int} (h : GoodRow ns) : ∀ n ∈ ns, -1 ≤ n ∧ n ≤ 100 := fun n hn => by
  obtain ⟨i, hi⟩ := List.mem_iff_getElem?.mp hn
  have g := h.2 i n hi
  split at g <;> omega
theorem GoodRow.odds {ns : List Int} {H : Hp} : ∀ v ∈ iv ns, Odd H v := fun v hv => by
  obtain ⟨n, _, rfl⟩ := List.mem_map.mp hv
  exact .int n
theorem iv_len {ns : List Int} (h : ns.length = 11) : (iv ns).length = 11 := by rw [List.length_map]; exact h
theorem notT {α : Type} [DecidableEq α] (x : α) : (!decide (x = x)) = false := by rw [decide_eq_true rfl]; rfl
theorem rEq_self {s : Str} {H : Hp} {Q : VK} (h : Q (.bl true) H) : rEq (.str s) (.str s) H Q := ⟨rfl, by rw [decide_eq_true rfl]; exact h⟩
theorem good_bare {a b : Int} (h1 : 0 ≤ a ∧ a ≤ 9) (h2 : 1 ≤ b ∧ b ≤ 99) : GoodRow [1, a, 1, 2, 1, 2, 1, 1, 2, 1, b] := by
  refine ⟨rfl, fun i n e => ?_⟩
  rcases i with _ | _ | _ | _ | _ | _ | _ | _ | _ | _ | _ | i
  all_goals first
    | (cases e; exact h1)
    | (cases e; exact h2)
    | (cases e; decide)
    | (cases e; done)
theorem itemsV {H : Hp} {T L : Addr} {v : V} (hT : H T = some (.tup [.int 1])) (hL : H L = some (.lst [])) (hv : v ∈ [V.bl true, .bl false, .int 10, .int (-1), .int 100, .int 0, .non, .str "1", .ref T, .ref L, .int 9, .int 99]) : ∃ d, Val H v d := by
  simp only [List.mem_cons, List.not_mem_nil, or_false] at hv
  rcases hv with rfl | rfl | rfl | rfl | rfl | rfl | rfl | rfl | rfl | rfl | rfl | rfl
  · exact ⟨_, .bl _⟩
  · exact ⟨_, .bl _⟩
  · exact ⟨_, .int _ (by decide) (by decide)⟩
  · exact ⟨_, .int _ (by decide) (by decide)⟩
  · exact ⟨_, .int _ (by decide) (by decide)⟩
  · exact ⟨_, .int _ (by decide) (by decide)⟩
  · exact ⟨_, .non⟩
  · exact ⟨_, .one⟩
  · exact ⟨_, .tup hT⟩
  · exact ⟨_, .lst hL⟩
  · exact ⟨_, .int _ (by decide) (by decide)⟩
  · exact ⟨_, .int _ (by decide) (by decide)⟩
theorem wrongL_len (vs : List V) : (wrongL vs).length ≤ vs.length := by
  unfold wrongL
  rw [List.length_map]
  exact Nat.le_trans (List.length_filter_le _ _) (by rw [List.length_zipIdx]; exact Nat.le_refl _)
theorem wrongL_mem {vs : List V} {v : V} (h : v ∈ wrongL vs) : v ∈ vs := by
  unfold wrongL at h
  obtain ⟨q, hq, rfl⟩ := List.mem_map.mp h
  exact List.fst_mem_of_mem_zipIdx (List.mem_filter.mp hq).1
theorem init_readR {C B : Addr} {row : List V} {H : Hp} {x dx : Addr} {R : Hp → Prop} {E : XK} (hl : row.length = 11) (ho : ∀ v ∈ row, Odd H v) (nx : H x = none) (nd : H dx = none) (hne : dx ≠ x)
    (q : ∀ H', Same H H' → badOf row = none → PAt C H' x row → R H') (qE : ∀ H' d v, Same H H' → badOf row = some v → H' d = some (.xd [("value", v)]) → E (.ref B) (some d) H') :
    spInit C B (.ref x :: row) (upd (upd H dx (.own x)) x (.ins C dx [])) (fun v H3 => v = .non ∧ R H3) E := by
  have s1 : Same H (upd (upd H dx (.own x)) x (.ins C dx [])) := fun b o e => by
    rw [upd_ne (ne_of_none e nx), upd_ne (ne_of_none e nd)]
    exact e
  have kk : ∀ {H'}, KB x (upd (upd H dx (.own x)) x (.ins C dx [])) H' → Same H H' := fun k b o e => k b o (ne_of_none e nx) (s1 b o e)
  exact ⟨x, dx, row, rfl, hl, upd_same, fun v hv => (ho v hv).mono s1, fun H' D k hb h1 h2 => ⟨rfl, q H' (kk k) hb ⟨dx, D, h1, h2⟩⟩, fun H' d v k hb h1 => qE H' d v (kk k) hb h1⟩
/-- the defs that the law's own def calls -/
structure Defs (P : Program) (w : World) (K : PySem.W.Frag) (mg : Str → Option Value) (base : Heap) (C B fi fe : Addr) (fdi fde : FuncData) (k : Nat) : Prop where
  sys : SysIn K
  free : Free mg
  pr : Pr K mg C fi
  oi : FnOk P w K mg base (L2.CX P w) (k + 3) fi fdi initNames (spInit C B)
  fin : FnInit K fi fdi
  eq : FnEq K fe fde
  eqa : PySem.W.findIn K (.ref C) "__eq__" = some (some (.ref fe))
  eqf : PySem.W.isFn K (.ref fe) = true
section
variable {P : Program} {w : World} {K : PySem.W.Frag} {mg : Str → Option Value} {base : Heap} {f f1 f2 f3 f4 f5 f6 f7 f8 C B fi fe : Addr} {fd fd1 fd2 fd3 fd4 fd5 fd6 fd7 fd8 fdi fde : FuncData} {k : Nat}
theorem ok_right (DD : Defs P w K mg base C B fi fe fdi fde k) (F : FnP K "_law_right" s_right f fd) (F1 : FnP K "_law_take" s_take f1 fd1) (g1 : mg "_law_take" = some (.ref f1)) (F2 : FnP K "_law_of" s_of f2 fd2) (g2 : mg "_law_of" = some (.ref f2))
    (F4 : FnP K "_law_full_row" s_full f4 fd4) (g4 : mg "_law_full_row" = some (.ref f4)) (O4 : FnOk P w K mg base CX0 (k + 4) f4 fd4 ["_law_pot_here"] (spRow 35))
    (F5 : FnP K "_law_prices" s_prices f5 fd5) (g5 : mg "_law_prices" = some (.ref f5)) (O5 : FnOk P w K mg base (L2.CX P w) (k + 5) f5 fd5 ["_law_row"] (spPrices C B))
    (F6 : FnP K "_law_kept_prices" s_kept f6 fd6) (g6 : mg "_law_kept_prices" = some (.ref f6)) (O6 : FnOk P w K mg base CX0 (k + 3) f6 fd6 ["_law_costs"] (spKept C))
    (F7 : FnP K "_law_bad_price" s_bad f7 fd7) (g7 : mg "_law_bad_price" = some (.ref f7)) (O7 : FnG P w K mg base CX0 (k + 6) f7 fd7 ["_law_row"] (spBad K))
    (F8 : FnP K "_law_is_price" s_isp f8 fd8) (g8 : mg "_law_is_price" = some (.ref f8)) :
    FnG P w K mg base CX0 (k + 7) f fd ["_law_pot_here"] spRight := by
  have G := DD.free
  have W := DD.pr
  have S := DD.sys
  have OE : FnOk P w K mg base CX0 (k + 1) fe fde ["self", "other"] (spEq C) := ok_eq G W DD.eq
  have be : Binds K fde ["self", "other"] [] := DD.eq.bindsN fun _ _ _ _ _ _ us hl => match us, hl with | [_, _], _ => rfl
  have b1 : Binds K fd1 ["_law_pot_here", "_law_upto"] [] := F1.bindsN fun _ _ _ _ _ _ us hl => match us, hl with | [_, _], _ => rfl
  have b2 : Binds K fd2 ["_law_pot_here", "_law_some"] [] := F2.bindsN fun _ _ _ _ _ _ us hl => match us, hl with | [_, _], _ => rfl
  have b4 : Binds K fd4 ["_law_pot_here"] [] := F4.bindsN fun _ _ _ _ _ _ us hl => match us, hl with | [_], _ => rfl
  have b5 : Binds K fd5 ["_law_row"] [] := F5.bindsN fun _ _ _ _ _ _ us hl => match us, hl with | [_], _ => rfl
  have b6 : Binds K fd6 ["_law_costs"] [] := F6.bindsN fun _ _ _ _ _ _ us hl => match us, hl with | [_], _ => rfl
  have b7 : Binds K fd7 ["_law_row"] [] := F7.bindsN fun _ _ _ _ _ _ us hl => match us, hl with | [_], _ => rfl
  have b8 : Binds K fd8 ["_law_value", "_law_at"] [] := F8.bindsN fun _ _ _ _ _ _ us hl => match us, hl with | [_, _], _ => rfl
  obtain ⟨mv, kb2⟩ := kb_two DD.fin
  refine FnG.by_body F sc_right (fun vs H Q E h => ?_) (fun cdv A outer s H vs Q E g hr h => ?_)
  · obtain ⟨p, n, rfl, _⟩ := h
    rfl
  obtain ⟨p, n, rfl, hP, q⟩ := h
  have hm : ∀ {j : Nat}, j ≤ k + 6 → Room j (A.deeper (envOfC "_law_right" (defScope s_right) s.heap.objs.size f cdv)) := fun h => hr.mono h
  have r1 := hm (j := k + 1) (by omega)
  have r2 := hm (j := k + 2) (by omega)
  have r3 := hm (j := k + 3) (by omega)
  have r4 := hm (j := k + 4) (by omega)
  have r5 := hm (j := k + 5) (by omega)
  refine ⟨_, PSs.nox (pss_cons (ps_set (i := 1) sc_right.nd rfl (.inl rfl) (pe_call O4 r4 (by rfl) g4 F4.kp b4 .nil pass0 (pa_cons (pv 0) pa_nil)))
    (pss_cons (ps_set (i := 2) sc_right.nd rfl (.inl rfl) (pe_call O5 r5 (by rfl) g5 F5.kp b5 .nil passL (pa_cons (pv 1) pa_nil)))
      (pss_cons (ps_if (PW.pt (pw_or (pt_cmpR op_ne (pe_callB (call_repr S g hr.units) (by rfl) G.f_repr (by decide +kernel) (pa_cons (pe_call O6 r3 (by rfl) g6 F6.kp b6 .nil pass0 (pa_cons (pv 2) pa_nil)) pa_nil)) (pe_callB (call_repr S g hr.units) (by rfl) G.f_repr (by decide +kernel) (pa_cons (pv 1) pa_nil)) (nomark _)) (pw_or (pt_not (pt_cmpR (op_eqO OE r1 DD.eqa DD.eqf be pass0) (pv 2) (pe_call O5 r5 (by rfl) g5 F5.kp b5 .nil passL (pa_cons (pv 1) pa_nil)) (nomark _))) (pw_or1 (pt_cmpR (op_eqO OE r1 DD.eqa DD.eqf be pass0) (pv 2) (pv 1) (nomark _))))))
        (pss_one (ps_ret pe_bl))
        pss_nil)
        (pss_cons (ps_par (i := 3) (j := 4) (by rfl) sc_right.nd rfl rfl (by decide) rfl rfl (pa_cons (pe_call (ok_take (k := k) G F1) r1 (by rfl) g1 F1.kp b1 .nil pass0 (pa_cons (pv 0) (pa_cons pe_int pa_nil))) (pa_cons (pe_callTy call_list_of (by rfl) G.f_list (by decide +kernel) (pa_cons (pv 1) pa_nil)) pa_nil)) (by rfl))
          (pss_cons (ps_asg (pe_op op_add pe_int (pe_callTy call_int1 (by rfl) G.f_int (by decide +kernel) (pa_cons (pe_cmpR op_eq (pe_ix ix_tup (pv 1) (pv 3) (fun _ _ => rfl)) pe_int (nomark _)) pa_nil))) (pg_sub (pv 4) (pv 3) set_list))
            (pss_cons (ps_if (pt_cmpR (op_eqO OE r1 DD.eqa DD.eqf be pass0) (pe_call O5 r5 (by rfl) g5 F5.kp b5 .nil passL (pa_cons (pe_callTy call_tuple_of (by rfl) G.f_tuple (by decide +kernel) (pa_cons (pv 4) pa_nil)) pa_nil)) (pv 2) (nomark _))
              (pss_one (ps_ret pe_bl))
              pss_nil)
              (pss_cons (ps_for PassesOwn.never rfl (pi_range1 (by rfl) G.f_range (pa_cons (pe_op op_add pe_int (pe_call (ok_take (k := k) G F1) r1 (by rfl) g1 F1.kp b1 .nil pass0 (pa_cons (pv 0) (pa_cons pe_int pa_nil)))) pa_nil)) (pg_name (i := 5) sc_right.nd rfl (.inl rfl))
                (pss_one (ps_asg (pe_call (ok_of (k := k) G F2 F1 g1) r2 (by rfl) g2 F2.kp b2 .nil pass0 (pa_cons (pv 0) (pa_cons (pe_lst (pa_cons pe_bl (pa_cons pe_bl (pa_cons pe_int (pa_cons (pe_un un_neg pe_int) (pa_cons pe_int (pa_cons pe_int (pa_cons pe_non (pa_cons pe_str (pa_cons (pe_tup (pa_cons pe_int pa_nil)) (pa_cons (pe_lst pa_nil) (pa_cons pe_int (pa_cons pe_int pa_nil))))))))))))) pa_nil))) (pg_sub (pv 4) (pe_call (ok_take (k := k) G F1) r1 (by rfl) g1 F1.kp b1 .nil pass0 (pa_cons (pv 0) (pa_cons pe_int pa_nil))) set_list))))
                (pss_cons (ps_setLc (i := 6) (own := [("_law_place", 7), ("_law_one", 8)]) (g := gTup K 2 (gCons (gName 7) (gCons (gName 8) gNil))) (tt := tNot (tB (tCall spIsP [] E0 (tCons (tVar 8) (tCons (tVar 7) tNil))))) rfl sc_right.nd rfl rfl (sw_true rfl rfl rfl rfl) (pi_enum (by rfl) G.f_enumerate (pa_cons (pv 4) pa_nil)) (blkOk_by (own := [("_law_place", 7), ("_law_one", 8)]) (N := rightN) (sc := defScope s_right) (by decide +kernel)) (fun _ _ _ _ _ => pg_tup rfl (pgs_cons (pg_name (i := 7) sc_right.nd rfl (.inl rfl)) (pgs_cons (pg_name (i := 8) sc_right.nd rfl (.inl rfl)) pgs_nil))) (fun _ _ _ _ _ => pts_one (pt_not (pt_val (pe_call (ok_isp (k := k) G F8) r1 (by rfl) g8 F8.kp b8 .nil pass0 (pa_cons (pv 8) (pa_cons (pv 7) pa_nil)))))) (fun _ _ _ _ _ => pv 8))
                  (pss_cons (ps_if (pt_cmpR op_ne (pe_callG O7 g hr (by rfl) g7 F7.kp b7 .nil pass0 (pa_cons (pe_callTy call_tuple_of (by rfl) G.f_tuple (by decide +kernel) (pa_cons (pv 4) pa_nil)) pa_nil)) (pe_ifExp (pt_cmpR (op_eqD hr.units) (pv 6) (pe_lst pa_nil) (nomark _)) pe_str (pe_callB (call_repr S g hr.units) (by rfl) G.f_repr (by decide +kernel) (pa_cons (pe_ix ix_list (pv 6) pe_int (fun _ _ => rfl)) pa_nil))) (nomark _))
                    (pss_one (ps_ret pe_bl))
                    pss_nil)
                    (pss_cons (ps_set (i := 9) sc_right.nd rfl (.inl rfl) (pe_makeK0 W.mkr DD.oi r4 (by rfl) W.g kb2 passL (pk_cons (pe_ix ix_tup (pv 1) pe_int (fun _ _ => rfl)) (pk_cons (pe_ix ix_tup (pv 1) pe_int (fun _ _ => rfl)) pk_nil))))
                      (pss_one (ps_ret (pe_cmpR op_eq (pe_callB (call_repr S g hr.units) (by rfl) G.f_repr (by decide +kernel) (pa_cons (pe_call O6 r3 (by rfl) g6 F6.kp b6 .nil pass0 (pa_cons (pv 9) pa_nil)) pa_nil)) (pe_callB (call_repr S g hr.units) (by rfl) G.f_repr (by decide +kernel) (pa_cons (pe_tup (pa_cons pe_int (pa_cons (pe_ix ix_tup (pv 1) pe_int (fun _ _ => rfl)) (pa_cons pe_int (pa_cons pe_int (pa_cons pe_int (pa_cons pe_int (pa_cons pe_int (pa_cons pe_int (pa_cons pe_int (pa_cons pe_int (pa_cons (pe_ix ix_tup (pv 1) pe_int (fun _ _ => rfl)) pa_nil)))))))))))) pa_nil)) (nomark _)))))))))))))), ?_⟩
  refine ⟨_, rfl, p, n + 8, rfl, hP, fun ns T1 H1 kb1 nT1 eT1 hg P1 => ?_⟩
  have lv := iv_len hg.1
  have noE : ∀ {v : V}, badOf (iv ns) = some v → False := fun hb => by rw [good_bad hg] at hb; cases hb
  have sh := show_row hg.small hg.1
  refine ⟨_, rfl, T1, iv ns, rfl, eT1, lv, GoodRow.odds, fun a H2 s2 na _ hp2 => ?_, fun H' d v _ hb _ => noE hb⟩
  refine ⟨_, rfl, a, iv ns, rfl, lv, hp2, fun T2 H3 s3 nT2 eT2 => ?_⟩
  have eT13 := s3 _ _ (s2 _ _ eT1)
  have hp3 := hp2.mono s3
  refine ⟨.ref T2, .tuple (ns.map .int), rfl, .tup (seqT eT2) (rp_ints ns), sh.a, sh.b, sh.c, ?_⟩
  refine ⟨_, rfl, .ref T1, .tuple (ns.map .int), rfl, .tup (seqT eT13) (rp_ints ns), sh.a, sh.b, sh.c, rfl, _, rfl, iteF' (notT _) ?_⟩
  refine ⟨_, rfl, _, rfl, T1, iv ns, rfl, eT13, lv, GoodRow.odds, fun a2 H4 s4 na2 _ hpx => ?_, fun H' d v _ hb _ => noE hb⟩
  have hp4 := hp3.mono s4
  have eT14 := s4 _ _ eT13
  obtain ⟨dx, D0, hpa, hpD⟩ := id hp4
  obtain ⟨dx2, D2, hpa2, hpD2⟩ := id hpx
  refine ⟨a, dx, _, .ref C, rfl, hpa, W.ty H4 a2 dx2 _ hpa2, W.n1, a, ns, hg.1, hp4, .inl ⟨a2, ns, hg.1, hpx, rfl, _, rfl, _, rfl, iteF' (notT _) ?_⟩⟩
  refine ⟨_, rfl, _, rfl, a, dx, _, .type "tuple", rfl, hpa, .base (.tup eT14), W.n2, a, ns, hg.1, hp4, .inr ⟨T1, iv ns, eT14, rfl, _, rfl, _, rfl, iteF ?_⟩⟩
  have s14 : Same H1 H4 := fun b o e => s4 b o (s3 b o (s2 b o e))
  have P4 := P1.same s14
  have kb4 : KB p H H4 := kb1.trans (KB.of_same s14)
  refine ⟨_, rfl, p, n + 7, 11, rfl, by decide, by decide, P4, fun at' H5 a0 a1 kb5 P5 => ?_⟩
  have kn5 : Kn H4 H5 := Kn.pot P4 kb5
  have eT15 := kn5.tup eT14
  have hp5 := hp4.kn kn5
  refine ⟨_, rfl, T1, iv ns, rfl, .inr (seqT eT15), fun l nl => ⟨_, _, rfl, ?_⟩⟩
  have nlp : l ≠ p := P5.ne nl
  have kbH5 : KB p H H5 := kb4.trans kb5
  have nlH : H l = none := P5.back kbH5 nl
  obtain ⟨j, rfl⟩ : ∃ j : Nat, at' = (j : Int) := ⟨at'.toNat, by omega⟩
  have hj : j < 11 := by omega
  have hjn : ns[j]? = some (ns[j]'(by have := hg.1; omega)) := List.getElem?_eq_getElem _
  obtain ⟨m, hm'⟩ : ∃ m, ns[j]? = some m := ⟨_, hjn⟩
  have eT16 := (same_new (o := .lst (iv ns)) nl) _ _ eT15
  have hp6 := hp5.mono (same_new (o := .lst (iv ns)) nl)
  refine ⟨_, rfl, _, rfl, T1, iv ns, j, .int m, rfl, rfl, seqT eT16, atI_nat (by rw [List.getElem?_map, hm']; rfl), rfl, .inr ⟨_, rfl, _, _, rfl, rfl, ?_⟩⟩
  refine ⟨_, rfl, _, rfl, l, _, _, j, rfl, rfl, upd_same, (by rw [lv]; exact ixN_nat hj), ?_⟩
  obtain ⟨e, he⟩ : ∃ e : Int, (1 + if decide (V.int m = V.int 1) = true then (1 : Int) else 0) = e := ⟨_, rfl⟩
  have e12 : 1 ≤ e ∧ e ≤ 2 ∧ e ≠ m := by
    have he := he
    rw [dI] at he
    by_cases z : m = 1
    · rw [decide_eq_true z, if_pos rfl] at he
      omega
    · rw [decide_eq_false z, if_neg Bool.false_ne_true] at he
      omega
  have hgm : GoodRow (ns.set j e) := hg.set (by split <;> omega)
  have nms : ns.set j e ≠ ns := fun z => by
    have q1 : (ns.set j e)[j]? = some e := List.getElem?_set_self (by have := hg.1; omega)
    rw [z, hm'] at q1
    exact e12.2.2 (Option.some.inj q1).symm
  obtain ⟨ms, hms⟩ : ∃ ms, ns.set j e = ms := ⟨_, rfl⟩
  rw [hms] at hgm nms
  have lm := iv_len hgm.1
  have noEm : ∀ {v : V}, badOf (iv ms) = some v → False := fun hb => by rw [good_bad hgm] at hb; cases hb
  obtain ⟨H6, hH6⟩ : ∃ H6, upd (upd H5 l (.lst (iv ns))) l (.lst ((iv ns).set j (V.int (1 + if decide (V.int m = V.int 1) = true then (1 : Int) else 0)))) = H6 := ⟨_, rfl⟩
  rw [hH6]
  rw [he, iv_set, hms] at hH6
  have el6 : H6 l = some (.lst (iv ms)) := by rw [← hH6]; exact upd_same
  have kn6 : Kn H5 H6 := by
    rw [← hH6]
    exact (Kn.same (same_new nl)).trans (Kn.at upd_same (fun z => by rw [z] at lv; cases lv))
  have P6 : Pot (n + 7) H6 p := by rw [← hH6]; exact (P5.upd nlp).upd nlp
  have kb6 : KB p H H6 := by rw [← hH6]; exact (kbH5.updn nlH).updn nlH
  have hp6' := hp5.kn kn6
  have eT16' := kn6.tup eT15
  refine ⟨_, rfl, l, iv ms, rfl, .inl ⟨seqL el6, fun T3 nT3 => ?_⟩⟩
  refine ⟨T3, iv ms, rfl, upd_same, lm, GoodRow.odds, fun a3 H7 s7 na3 _ hp3' => ?_, fun H' d v _ hb _ => noEm hb⟩
  have s67 : Same H6 H7 := fun b o e => s7 b o (same_new nT3 b o e)
  have hp7 := hp6'.mono s67
  have eT17 := s67 _ _ eT16'
  have el7 := s67 _ _ el6
  have P7 := P6.same s67
  have kb7 : KB p H H7 := kb6.trans (KB.of_same s67)
  obtain ⟨dx7, D7, hpa7, _⟩ := id hp7
  obtain ⟨dx3, D3, hpa3, _⟩ := id hp3'
  refine ⟨_, rfl, a3, dx3, _, .ref C, rfl, hpa3, W.ty H7 a dx7 _ hpa7, W.n1, a3, ms, hgm.1, hp3', .inl ⟨a, ns, hg.1, hp7, rfl, _, rfl, _, rfl, iteF' (decide_eq_false nms) ?_⟩⟩
  refine ⟨_, rfl, p, n + 6, 3, rfl, by decide, by decide, P7, fun tn H8 t0 t1 kb8 P8 => ⟨_, _, rfl, rfl, ?_⟩⟩
  have kn8 : Kn H7 H8 := Kn.pot P7 kb8
  have eT18 := kn8.tup eT17
  have el8 : H8 l = some (.lst (iv ms)) := kb8 l _ nlp el7
  have vals0 : ∀ v ∈ iv ms, ∃ d, Val H8 v d := fun v hv => by
    obtain ⟨x, hx, rfl⟩ := List.mem_map.mp hv
    have := hgm.small x hx
    exact ⟨_, .int x (by omega) (by omega)⟩
  obtain ⟨N, hN⟩ : ∃ N : Nat, 1 + tn = (N : Int) := ⟨(1 + tn).toNat, by omega⟩
  refine ⟨N, congrArg (fun z => [V.int z]) hN, by omega, by omega, ?_⟩
  refine for_it (walk_range (n := N)) (fun i σ Hc => ∃ x5 vs, σ = [some (.ref p), some (.ref T1), some (.ref a), some (.int j), some (.ref l), x5, none, none, none, none] ∧ Hc l = some (.lst vs) ∧ vs.length = 11 ∧ (∀ v ∈ vs, ∃ d, Val Hc v d) ∧ Hc T1 = some (.tup (iv ns)) ∧ KB p H Hc ∧ Pot (n + 2 * (3 - i)) Hc p) ⟨_, _, rfl, el8, lm, vals0, eT18, kb7.trans kb8, P8⟩ (fun _ _ _ _ _ => trivial) (fun i x σ Hc Hc' hi pv hy => ?_) (fun σ Hc pv => ?_)
  · obtain ⟨x5, vs, rfl, hl, hlen, hv, hT, kb, pt⟩ := pv
    obtain ⟨rfl, rfl⟩ := hy
    have hi3 : i < 3 := by omega
    refine ⟨_, rfl, _, rfl, (by show 1 ≤ sizeLine; decide), fun T nT => ⟨(by show 0 ≤ sizeLine; decide), fun L nL => ⟨(by show 12 ≤ sizeLine; decide), fun l2 nl2 => ?_⟩⟩⟩
    have sT := same_new (o := .tup [.int 1]) nT
    have sL := same_new (o := .lst []) nL
    have s2 := same_new (o := .lst [V.bl true, .bl false, .int 10, .int (-1), .int 100, .int 0, .non, .str "1", .ref T, .ref L, .int 9, .int 99]) nl2
    have sA := fun b o e => s2 b o (sL b o (sT b o e))
    have pA := pt.same sA
    refine ⟨p, l2, (n + 2 * (3 - (i + 1))) + 1, _, rfl, fun z => by rw [z] at nl2; exact (pt.same fun b o e => sL b o (sT b o e)).ne nl2 rfl, seqL upd_same, (by show 1 ≤ 12; decide), (by show 12 ≤ 100000; decide), pA.less (by omega), fun v H2 hv' k2 P2 => ?_⟩
    obtain ⟨d, hd⟩ := itemsV (s2 _ _ (sL _ _ upd_same)) (s2 _ _ upd_same) hv'
    have kn2 := Kn.pot pA k2
    refine ⟨_, rfl, _, rfl, p, n + 2 * (3 - (i + 1)), 11, rfl, by decide, by decide, P2, fun jx H3 j0 j1 k3 P3 => ?_⟩
    obtain ⟨jn, rfl⟩ : ∃ j : Nat, jx = (j : Int) := ⟨jx.toNat, by omega⟩
    have kn3 := Kn.pot P2 k3
    have hl3 : H3 l = some (.lst vs) := k3 l _ nlp (k2 l _ nlp (sA _ _ hl))
    have knA : Kn Hc' (upd H3 l (.lst (vs.set jn v))) := (((Kn.same sA).trans kn2).trans kn3).trans (Kn.at hl3 (fun z => by rw [z] at hlen; cases hlen))
    have knB := (kn2.trans kn3).trans (Kn.at (o := .lst (vs.set jn v)) hl3 (fun z => by rw [z] at hlen; cases hlen))
    refine ⟨l, vs, _, jn, rfl, rfl, hl3, (by rw [hlen]; exact ixN_nat (by omega)), _, vs.set jn v, rfl, upd_same, by rw [List.length_set]; exact hlen, fun x hx => ?_, knA.tup hT, ?_, P3.upd nlp⟩
    · rcases List.mem_or_eq_of_mem_set hx with z | rfl
      · obtain ⟨dx, hdx⟩ := hv x z
        exact ⟨dx, hdx.kn knA⟩
      · exact ⟨d, hd.kn knB⟩
    · exact (((kb.trans (KB.of_same sA)).trans k2).trans k3).updn nlH
  · obtain ⟨x5, vs, rfl, hl, hlen, hv, hT, kb, pt⟩ := pv
    refine ⟨_, rfl, l, vs, rfl, seqL hl, fun D nD => lc_it (walk_enum (xs := vs)) (fun i Hx => KB D Hc Hx ∧ Hx D = some (.lst (wrongL (vs.take i)))) ⟨KB.at, upd_same⟩ (fun i Hx _ pv => seqL (pv.1 l _ (fun z => by rw [z, nD] at hl; cases hl) hl)) (fun i x Hx Hx' hi pv hy => ?_) (fun H9 pv => ?_)⟩
    · obtain ⟨T, x1, y1, rfl, nT, rfl, e1, e2⟩ := hy
      obtain rfl : V.int (i : Nat) = x1 := Option.some.inj e1
      have e2' : vs[i]? = some y1 := e2
      have sT := same_new (o := .tup [.int (i : Nat), y1]) nT
      have nDT : D ≠ T := fun z => by rw [← z, pv.2] at nT; cases nT
      have knT : Same Hc (upd Hx T (.tup [.int (i : Nat), y1])) := fun b o e => sT b o (pv.1 b o (ne_of_none e nD) e)
      obtain ⟨d, hd⟩ := hv y1 (List.mem_of_getElem? e2')
      have hti : (vs.take i).length = i := by rw [List.length_take]; omega
      have tk : vs.take (i + 1) = vs.take i ++ [y1] := by rw [List.take_succ, e2']; rfl
      have wr := wrongL_snoc (vs.take i) y1
      rw [hti, ← tk] at wr
      refine ⟨T, _, rfl, seqT upd_same, rfl, _, _, rfl, _, _, rfl, rfl, rfl, _, rfl, _, rfl, y1, (i : Nat), rfl, (hd.kn (Kn.same knT)).odd, _, rfl, ite2 (fun e => ?_) (fun e => ?_)⟩
      · have e0 : priceAt (i : Nat) y1 = false := by simpa using e
        rw [if_neg (by rw [e0]; exact Bool.false_ne_true)] at wr
        refine ⟨_, rfl, wrongL (vs.take i), by rw [upd_ne nDT]; exact pv.2, ?_, fun b o nb eb => ?_, ?_⟩
        · have z := wrongL_len (vs.take i)
          have z2 : 11 < sizeLine := by decide
          omega
        · rw [upd_ne nb]
          exact knT b o eb
        · rw [wr]
          exact upd_same
      · have e0 : priceAt (i : Nat) y1 = true := by simpa using e
        rw [if_pos e0] at wr
        rw [wr]
        exact ⟨fun b o nb eb => knT b o eb, by rw [upd_ne nDT]; exact pv.2⟩
    · obtain ⟨kb9, eD⟩ := pv
      rw [List.take_length] at eD
      have s9 : Same Hc H9 := fun b o e => kb9 b o (ne_of_none e nD) e
      refine ⟨_, rfl, l, vs, rfl, .inl ⟨seqL (s9 _ _ hl), fun T4 nT4 => ?_⟩⟩
      have s10 : Same Hc (upd H9 T4 (.tup vs)) := fun b o e => same_new nT4 b o (s9 b o e)
      have bw := bad_wrong hlen
      have odds : ∀ v ∈ vs, Odd (upd H9 T4 (.tup vs)) v := fun v hv' => by
        obtain ⟨d, hd⟩ := hv v hv'
        exact (hd.kn (Kn.same s10)).odd
      cases hw : wrongL vs with
      | nil =>
        rw [hw] at bw eD
        refine ⟨T4, vs, none, rfl, upd_same, hlen, odds, .inl ⟨bw, rfl⟩, fun H11 s11 => ?_⟩
        have eD11 := s11 _ _ (same_new nT4 _ _ eD)
        refine ⟨_, rfl, (by show 0 ≤ sizeLine; decide), fun L nL => ?_⟩
        refine ⟨.list [], .list [], .lst (seqL (same_new nL _ _ eD11)) .nil, .lst (seqL upd_same) .nil, by decide, by decide, _, rfl, iteT' (by decide) ?_⟩
        refine ⟨rfl, _, rfl, iteF' (notT _) ?_⟩
        have sz : Same Hc (upd H11 L (.lst [])) := fun b o e => same_new nL b o (s11 b o (s10 b o e))
        have eTz := sz _ _ hT
        obtain ⟨n1, h1⟩ : ∃ x, ns[1]? = some x := ⟨_, List.getElem?_eq_getElem (by have := hg.1; omega)⟩
        obtain ⟨n10, h10⟩ : ∃ x, ns[10]? = some x := ⟨_, List.getElem?_eq_getElem (by have := hg.1; omega)⟩
        have at1 : atI (iv ns) 1 = some (.int n1) := atI_nat (j := 1) (by rw [List.getElem?_map, h1]; rfl)
        have at10 : atI (iv ns) 10 = some (.int n10) := atI_nat (j := 10) (by rw [List.getElem?_map, h10]; rfl)
        have gb : GoodRow [1, n1, 1, 2, 1, 2, 1, 1, 2, 1, n10] := good_bare (hg.2 1 n1 h1) (hg.2 10 n10 h10)
        have shb := show_row gb.small gb.1
        refine ⟨_, rfl, T1, iv ns, 1, .int n1, rfl, rfl, seqT eTz, at1, _, rfl, T1, iv ns, 10, .int n10, rfl, rfl, seqT eTz, at10, rfl, rfl, fun x dx nx nd hne => ?_⟩
        refine init_readR (row := iv [1, n1, 1, 2, 1, 2, 1, 1, 2, 1, n10]) (iv_len rfl) GoodRow.odds nx nd hne (fun H13 s13 _ hp5 => ?_) (fun H' d v _ hb _ => by rw [good_bad gb] at hb; cases hb)
        refine ⟨_, rfl, x, _, rfl, iv_len rfl, hp5, fun T5 H14 s14' nT5 eT5 => ?_⟩
        have eT14 := s14' _ _ (s13 _ _ eTz)
        refine ⟨.ref T5, .tuple ([1, n1, 1, 2, 1, 2, 1, 1, 2, 1, n10].map .int), rfl, .tup (seqT eT5) (rp_ints _), shb.a, shb.b, shb.c, ?_⟩
        refine ⟨_, rfl, T1, iv ns, 1, .int n1, rfl, rfl, seqT eT14, at1, _, rfl, T1, iv ns, 10, .int n10, rfl, rfl, seqT eT14, at10, (by show 11 ≤ sizeLine; decide), fun T6 nT6 => ?_⟩
        refine ⟨.ref T6, .tuple ([1, n1, 1, 2, 1, 2, 1, 1, 2, 1, n10].map .int), rfl, .tup (seqT upd_same) (rp_ints [1, n1, 1, 2, 1, 2, 1, 1, 2, 1, n10]), shb.a, shb.b, shb.c, rEq_self ?_⟩
        have sE : ∀ u : HO, Same Hc (upd H14 T6 u) := fun u b o e => same_new nT6 b o (s14' b o (s13 b o (sz b o e)))
        exact q _ (kb.trans (KB.of_same (sE _))) ((pt.less (by omega)).same (sE _))
      | cons v r =>
        rw [hw] at bw eD
        obtain ⟨d, hd⟩ := hv v (wrongL_mem (by rw [hw]; exact List.mem_cons_self))
        refine ⟨T4, vs, some d, rfl, upd_same, hlen, odds, .inr ⟨v, d, bw, rfl, (hd.kn (Kn.same s10)).rp, hd.nice⟩, fun H11 s11 => ?_⟩
        have eD11 := s11 _ _ (same_new nT4 _ _ eD)
        refine ⟨_, rfl, (by show 0 ≤ sizeLine; decide), fun L nL => ?_⟩
        have sz : Same Hc (upd H11 L (.lst [])) := fun b o e => same_new nL b o (s11 b o (s10 b o e))
        have eTz := sz _ _ hT
        have eDz := same_new (o := .lst []) nL _ _ eD11
        have vw : ∀ x ∈ v :: r, ∃ d, Val (upd H11 L (.lst [])) x d := fun x hx => by
          obtain ⟨dx, hdx⟩ := hv x (wrongL_mem (by rw [hw]; exact hx))
          exact ⟨dx, hdx.kn (Kn.same sz)⟩
        obtain ⟨ds, q1, q2, q3, q4⟩ := vals_dp (K := K) vw
        obtain ⟨d0, ds', rfl⟩ : ∃ d0 ds', ds = d0 :: ds' := by
          cases ds with
          | nil => exact absurd (q4.mp rfl) (by simp)
          | cons d0 ds' => exact ⟨d0, ds', rfl⟩
        refine ⟨.list (d0 :: ds'), .list [], .lst (seqL eDz) q1, .lst (seqL upd_same) .nil, shaped_list q2 q3, by decide, _, rfl, iteF' (by rfl) ?_⟩
        refine ⟨_, rfl, D, _, 0, v, rfl, rfl, seqL eDz, atI_nat (j := 0) rfl, v, d, rfl, (hd.kn (Kn.same sz)).rp, hd.nice.show_, Nat.le_trans hd.nice.deep (by decide), Nat.le_trans hd.nice.short (by decide), ?_⟩
        refine ⟨rfl, _, rfl, iteF' (notT _) ?_⟩
        obtain ⟨n1, h1⟩ : ∃ x, ns[1]? = some x := ⟨_, List.getElem?_eq_getElem (by have := hg.1; omega)⟩
        obtain ⟨n10, h10⟩ : ∃ x, ns[10]? = some x := ⟨_, List.getElem?_eq_getElem (by have := hg.1; omega)⟩
        have at1 : atI (iv ns) 1 = some (.int n1) := atI_nat (j := 1) (by rw [List.getElem?_map, h1]; rfl)
        have at10 : atI (iv ns) 10 = some (.int n10) := atI_nat (j := 10) (by rw [List.getElem?_map, h10]; rfl)
        have gb : GoodRow [1, n1, 1, 2, 1, 2, 1, 1, 2, 1, n10] := good_bare (hg.2 1 n1 h1) (hg.2 10 n10 h10)
        have shb := show_row gb.small gb.1
        refine ⟨_, rfl, T1, iv ns, 1, .int n1, rfl, rfl, seqT eTz, at1, _, rfl, T1, iv ns, 10, .int n10, rfl, rfl, seqT eTz, at10, rfl, rfl, fun x dx nx nd hne => ?_⟩
        refine init_readR (row := iv [1, n1, 1, 2, 1, 2, 1, 1, 2, 1, n10]) (iv_len rfl) GoodRow.odds nx nd hne (fun H13 s13 _ hp5 => ?_) (fun H' d v _ hb _ => by rw [good_bad gb] at hb; cases hb)
        refine ⟨_, rfl, x, _, rfl, iv_len rfl, hp5, fun T5 H14 s14' nT5 eT5 => ?_⟩
        have eT14 := s14' _ _ (s13 _ _ eTz)
        refine ⟨.ref T5, .tuple ([1, n1, 1, 2, 1, 2, 1, 1, 2, 1, n10].map .int), rfl, .tup (seqT eT5) (rp_ints _), shb.a, shb.b, shb.c, ?_⟩
        refine ⟨_, rfl, T1, iv ns, 1, .int n1, rfl, rfl, seqT eT14, at1, _, rfl, T1, iv ns, 10, .int n10, rfl, rfl, seqT eT14, at10, (by show 11 ≤ sizeLine; decide), fun T6 nT6 => ?_⟩
        refine ⟨.ref T6, .tuple ([1, n1, 1, 2, 1, 2, 1, 1, 2, 1, n10].map .int), rfl, .tup (seqT upd_same) (rp_ints [1, n1, 1, 2, 1, 2, 1, 1, 2, 1, n10]), shb.a, shb.b, shb.c, rEq_self ?_⟩
        have sE : ∀ u : HO, Same Hc (upd H14 T6 u) := fun u b o e => same_new nT6 b o (s14' b o (s13 b o (sz b o e)))
        exact q _ (kb.trans (KB.of_same (sE _))) ((pt.less (by omega)).same (sE _))
end
end Ev

namespace Ev
open PySem PySem.Spec PyProof.Rows L2
abbrev s_law : Stmt := top 24
theorem sc_law : FnScope ["_law_script", "_law_k", "_law_pot_here", "_law_turn"] ["_law_script"] (defScope s_law) := ⟨rfl, rfl, rfl, by decide +kernel, rfl, by decide +kernel, by decide +kernel⟩
section
variable {P : Program} {w : World} {K : PySem.W.Frag} {mg : Str → Option Value} {base : Heap} {f f0 f6 f7 C B fi fe : Addr} {fd fd0 fd6 fd7 fdi fde : FuncData} {k : Nat}
theorem ok_law (DD : Defs P w K mg base C B fi fe fdi fde k) (F : FnP K "law" s_law f fd) (F0 : FnP K "_law_pot" s_pot f0 fd0) (g0 : mg "_law_pot" = some (.ref f0))
    (F6 : FnP K "_law_kept_prices" s_kept f6 fd6) (g6 : mg "_law_kept_prices" = some (.ref f6)) (O6 : FnOk P w K mg base CX0 (k + 3) f6 fd6 ["_law_costs"] (spKept C))
    (F7 : FnP K "_law_right" s_right f7 fd7) (g7 : mg "_law_right" = some (.ref f7)) (O7 : FnG P w K mg base CX0 (k + 7) f7 fd7 ["_law_pot_here"] spRight) :
    FnG P w K mg base CX0 (k + 8) f fd ["_law_script"] (spTrue K) := by
  have G := DD.free
  have W := DD.pr
  have S := DD.sys
  have b0 : Binds K fd0 ["_law_script", "_law_number"] [] := F0.bindsN fun _ _ _ _ _ _ us hl => match us, hl with | [_, _], _ => rfl
  have b6 : Binds K fd6 ["_law_costs"] [] := F6.bindsN fun _ _ _ _ _ _ us hl => match us, hl with | [_], _ => rfl
  have b7 : Binds K fd7 ["_law_pot_here"] [] := F7.bindsN fun _ _ _ _ _ _ us hl => match us, hl with | [_], _ => rfl
  obtain ⟨ds, hds, bd⟩ := b_none DD.fin
  refine FnG.by_body F sc_law (fun vs H Q E h => ?_) (fun cdv A outer s H vs Q E0' g hr h => ?_)
  · obtain ⟨a, ns, rfl, _⟩ := h
    rfl
  obtain ⟨a, ns, rfl, hS, hlen, q⟩ := h
  have r1 := hr.mono (j := k + 1) (by omega)
  have r3 := hr.mono (j := k + 3) (by omega)
  have r4 := hr.mono (j := k + 4) (by omega)
  refine ⟨_, PSs.nox (pss_cons (ps_for PassesOwn.never rfl (pi_range1 (by rfl) G.f_range (pa_cons (pe_callB (call_max2 rfl) (by rfl) G.f_max (by decide +kernel) (pa_cons pe_int (pa_cons (pe_callB (call_min2 rfl) (by rfl) G.f_min (by decide +kernel) (pa_cons (pe_callB call_len_seq (by rfl) G.f_len (by decide +kernel) (pa_cons (pv 0) pa_nil)) (pa_cons pe_int pa_nil))) pa_nil))) pa_nil)) (pg_name (i := 1) sc_law.nd rfl (.inl rfl))
    (pss_cons (ps_set (i := 2) sc_law.nd rfl (.inl rfl) (pe_call (ok_pot (k := k) G F0) r1 (by rfl) g0 F0.kp b0 .nil pass0 (pa_cons (pv 0) (pa_cons (pv 1) pa_nil))))
      (pss_cons (ps_for PassesOwn.never rfl (pi_range1 (by rfl) G.f_range (pa_cons pe_int pa_nil)) (pg_name (i := 3) sc_law.nd rfl (.inl rfl))
        (pss_one (ps_if (pt_not (pt_val (pe_callG O7 g hr (by rfl) g7 F7.kp b7 .nil pass0 (pa_cons (pv 2) pa_nil))))
          (pss_one (ps_ret pe_bl))
          pss_nil)))
        (pss_one (ps_if (pt_cmpR op_ne (pe_callB (call_repr S g hr.units) (by rfl) G.f_repr (by decide +kernel) (pa_cons (pe_call O6 r3 (by rfl) g6 F6.kp b6 .nil pass0 (pa_cons (pe_make0 W.mkr DD.oi r4 (by rfl) W.g bd hds passL) pa_nil)) pa_nil)) (pe_callB (call_repr S g hr.units) (by rfl) G.f_repr (by decide +kernel) (pa_cons (pe_tup (pa_cons pe_int (pa_cons pe_int (pa_cons pe_int (pa_cons pe_int (pa_cons pe_int (pa_cons pe_int (pa_cons pe_int (pa_cons pe_int (pa_cons pe_int (pa_cons pe_int (pa_cons pe_int pa_nil)))))))))))) pa_nil)) (nomark _))
          (pss_one (ps_ret pe_bl))
          pss_nil)))))
    (pss_one (ps_ret pe_bl))), ?_⟩
  have hL : ((ns.map V.int).length : Int) ≤ 63 := by
    rw [List.length_map]
    omega
  obtain ⟨N, hN, hN4⟩ : ∃ N : Nat, (if (if (4 : Int) < ((ns.map V.int).length : Int) then (4 : Int) else ((ns.map V.int).length : Int)) > 1 then (if (4 : Int) < ((ns.map V.int).length : Int) then (4 : Int) else ((ns.map V.int).length : Int)) else 1) = (N : Int) ∧ N ≤ 4 := by
    refine ⟨_, (Int.toNat_of_nonneg ?_).symm, ?_⟩
    · split <;> (try split) <;> omega
    · split <;> (try split) <;> omega
  refine ⟨_, rfl, a, _, rfl, .inl hS, _, _, rfl, _, _, rfl, N, congrArg (fun z => [V.int z]) hN, by omega, by omega, ?_⟩
  refine for_it (walk_range (n := N)) (fun i σ H' => ∃ y1 y2 y3, σ = [some (.ref a), y1, y2, y3] ∧ Same H H')
    ⟨none, none, none, rfl, fun _ _ e => e⟩ (fun _ _ _ _ _ => trivial) (fun i x σ Hc Hc' hi pv hy => ?_) (fun σ Hc pv => ?_)
  · obtain ⟨y1, y2, y3, rfl, s1⟩ := pv
    obtain ⟨rfl, rfl⟩ := hy
    refine ⟨_, rfl, _, rfl, a, ns, i, (by show [V.ref a, V.int (0 + (i : Int))] = _; rw [Int.zero_add]), s1.seq hS, by omega, fun p H2 np s2 hP => ?_⟩
    refine ⟨_, rfl, by decide, by decide, for_it walk_range (fun j σ Hc => ∃ y3, σ = [some (.ref a), some (.int (0 + (i : Int))), some (.ref p), y3] ∧ KB p H2 Hc ∧ Pot (1000 + 43 * (6 - j)) Hc p) ⟨_, rfl, KB.refl, hP.less (by decide)⟩ (fun _ _ _ _ _ => trivial) (fun j x σ Hd Hd' hj pv hy => ?_) (fun σ Hd pv => ?_)⟩
    · obtain ⟨y3', rfl, kb, pt⟩ := pv
      obtain ⟨rfl, rfl⟩ := hy
      have hj6 : j < 6 := hj
      exact ⟨_, rfl, p, 1000 + 43 * (6 - (j + 1)), rfl, pt.less (by omega), fun H3 kb3 P3 => ⟨_, rfl, iteF ⟨_, rfl, kb.trans kb3, P3⟩⟩⟩
    · obtain ⟨y3', rfl, kb, pt⟩ := pv
      have sd : Same Hc' Hd := kb.same s2 np
      have g0' := good0
      have shb := show_row g0'.small g0'.1
      refine fun x dx nx nd hne => init_readR (row := iv [1, 1, 1, 2, 1, 2, 1, 1, 2, 1, 20]) (iv_len rfl) GoodRow.odds nx nd hne (fun H3 s3 _ hp => ?_) (fun H' d v _ hb _ => by rw [good_bad g0'] at hb; cases hb)
      refine ⟨x, _, rfl, iv_len rfl, hp, fun T H4 s4 nT eT => ?_⟩
      refine ⟨.ref T, .tuple ([1, 1, 1, 2, 1, 2, 1, 1, 2, 1, 20].map .int), rfl, .tup (seqT eT) (rp_ints _), shb.a, shb.b, shb.c, (by show 11 ≤ sizeLine; decide), fun T2 nT2 => ?_⟩
      refine ⟨.ref T2, .tuple ([1, 1, 1, 2, 1, 2, 1, 1, 2, 1, 20].map .int), rfl, .tup (seqT upd_same) (rp_ints [1, 1, 1, 2, 1, 2, 1, 1, 2, 1, 20]), shb.a, shb.b, shb.c, rfl, _, rfl, iteF' (notT _) ?_⟩
      exact ⟨_, _, _, rfl, fun b o e => same_new nT2 b o (s4 b o (s3 b o (sd b o (s1 b o e))))⟩
  · exact q _
end
end Ev

namespace Ev
open PySem PySem.Spec PyProof.Rows L2 He
def pI1 : Pos := ⟨4, 17, 4, 21⟩
def pI2 : Pos := ⟨4, 23, 4, 28⟩
def qI : Nat → Pos := fun i => ([⟨5, 8, 5, 13⟩, ⟨5, 8, 5, 15⟩, ⟨5, 8, 5, 24⟩, ⟨5, 25, 5, 30⟩, ⟨5, 8, 5, 31⟩, ⟨5, 8, 5, 31⟩, ⟨6, 8, 6, 12⟩, ⟨6, 8, 6, 18⟩, ⟨6, 21, 6, 26⟩, ⟨6, 8, 6, 26⟩] : List Pos).getD i ⟨0, 0, 0, 0⟩
def defP (x : Str) (st : Stmt) : DefP := ⟨fun K => ga K x, x, x, defArgs st, defBody st, defScope st, [], []⟩
def getP (i : Nat) (x : Str) : DefP := ⟨gAd "Prices" x, x, "Prices." ++ x, defArgs (s_get i), defBody (s_get i), defScope (s_get i), [], []⟩
def dflD : List (Str × Dv) := [("jump", .int 1), ("far", .int 1), ("branch", .int 1), ("call", .int 2), ("back", .int 1), ("throw", .int 2), ("push", .int 1), ("drop", .int 1), ("search", .int 2), ("catch", .int 1), ("reach", .int 20)]
def fns1 : List DefP := [defP "_law_pot" s_pot, defP "_law_take" s_take, defP "_law_of" s_of, defP "_law_prices" s_prices, defP "_law_price_row" s_prow, defP "_law_kept_prices" s_kept, defP "_law_bad_price" s_bad, defP "_law_is_price" s_isp, defP "_law_full_row" s_full, defP "_law_right" s_right, defP "law" s_law,
  defP "is_price" s_price, ⟨fun K => ga K "is_integer", "is_integer", "is_integer", defArgs s_int, defBody s_int, defScope s_int, [.non], []⟩,
  ⟨fun K => ma K (ga K "Prices") "__init__", "__init__", "Prices.__init__", defArgs s_init, defBody s_init, defScope s_init, [], dflD⟩,
  ⟨fun K => ma K (ga K "Prices") "__eq__", "__eq__", "Prices.__eq__", defArgs s_eq, defBody s_eq, defScope s_eq, [], []⟩]
def fns2 : List DefP := [getP 0 "jump", getP 1 "far", getP 2 "branch", getP 3 "call", getP 4 "back", getP 5 "throw", getP 6 "push", getP 7 "drop", getP 8 "search", getP 9 "catch", getP 10 "reach"]
def fns : List DefP := fns1 ++ fns2
def freeNames : List Str := ["len", "int", "abs", "max", "min", "range", "repr", "isinstance", "enumerate", "bool", "zip"]
def freeNames2 : List Str := ["list", "tuple"]
def defNames : List Str := ["_law_pot", "_law_take", "_law_of", "_law_prices", "_law_price_row", "_law_kept_prices", "_law_bad_price", "_law_is_price"]
def defNames2 : List Str := ["_law_full_row", "_law_right", "law", "is_price", "is_integer", "Prices", "PRICES"]
abbrev R : PySem.W.OpenRow := PySem.W.OpenLaw.row PySem.Challenge.rw_everyrun_k07_prices
def prB (K : PySem.W.Frag) : Bool := tyB "Prices" K && ((Fa.noat "Prices" "own_numbers").ok K && ((Fa.mkr "Prices").ok K && ((Fa.meth "Prices" "__eq__").ok K && (words.all (fun x => propB "Prices" x K) &&
  (eqB (PySem.W.kitOne K (.ref (ga K "Prices")) (.ref (ga K "Prices"))) (some true) && (eqB (PySem.W.kitOne K (.type "tuple") (.ref (ga K "Prices"))) (some false) &&
  (PySem.W.notFirst K (ga K "Prices") (.ref (ga K "Prices")) && PySem.W.notFirst K (ga K "Prices") (.type "tuple"))))))))
def numB (K : PySem.W.Frag) : Bool := (Fa.str "REACH" "reach").ok K && ((Fa.int "MOST_REACH" 99).ok K && ((Fa.int "MOST_PRICE" 9).ok K && kdictB K (ga K "PRICES") (words.map V.str)))
def exB (K : PySem.W.Frag) : Bool := sysB K && (errRB R.prog.main.file K && (errB K "BadPrice" && ((Fa.exm "BadPrice" "BadPrice" true).ok K && (freeNames.all (fun x => eqO (PySem.W.nsIn K mainGlobals x) (some none)) && (freeNames2.all (fun x => eqO (PySem.W.nsIn K mainGlobals x) (some none)) &&
  (defNames.all (fun x => (Fa.glo x).ok K) && (defNames2.all (fun x => (Fa.glo x).ok K) && (prB K && numB K))))))))
abbrev hk : PySem.W.Hook := hookP 6 fns (initVal pI1 pI2 qI) exB
def ob (s : PySem.W.SharedT) : AlV := obsPG 6 fns exB (HandSHeadRun.getT s)
theorem ob_eq (s : PySem.W.SharedT) : ob s = hk.obs s.abs := obsPG_eq (HandSHeadRun.getT_eq s)
def loose : List Str := (["RunError", "BadPrice", "is_integer", "REACH", "PRICES", "MOST_PRICE", "MOST_REACH", "is_price", "Prices"] : List Str) ++ (["_law_pot", "_law_take", "_law_of", "_law_prices", "_law_price_row", "_law_kept_prices", "_law_bad_price", "_law_is_price", "_law_full_row", "_law_right"] : List Str)
end Ev

namespace Ev
open PySem PySem.Spec PyProof.Rows L2 He
theorem all_of {α : Type} {p : α → Bool} {l : List α} (h : l.all p = true) {x : α} (hx : x ∈ l) : p x = true := List.all_eq_true.mp h x hx
theorem facts {w : World} {K : PySem.W.Frag} {h : Heap} {mg : Str → Option Value} {f : Addr} (X : K.In h) (G : h.Ns mainGlobals mg) (hfa : mg ("law" : Str) = some (.ref f)) (c : obsP fns exB K = valP fns (initVal pI1 pI2 qI)) :
    ∃ fd : FuncData, (∀ (s : Shared) (v : Value), BindsTo s fd ⟨[v], []⟩ [("_law_script", v)]) ∧ ∀ base : Heap, K.In base → base.Ns mainGlobals mg → FnG R.prog w K mg base CX0 8 f fd ["_law_script"] (spTrue K) := by
  obtain ⟨ce, ci, cd⟩ := saysP c
  obtain ⟨x1, ce⟩ := ba ce
  obtain ⟨x2, ce⟩ := ba ce
  obtain ⟨x3, ce⟩ := ba ce
  obtain ⟨x4, ce⟩ := ba ce
  obtain ⟨x5, ce⟩ := ba ce
  obtain ⟨x6, ce⟩ := ba ce
  obtain ⟨x7, ce⟩ := ba ce
  obtain ⟨x8, ce⟩ := ba ce
  obtain ⟨x9, x10⟩ := ba ce
  obtain ⟨fdI, T⟩ := errRB_ok (P := R.prog) (p1 := pI1) (p2 := pI2) (q := qI) (by decide) (by decide +kernel) ci x2
  obtain ⟨TB, nB⟩ := errB_ok x3
  have gB : mg "BadPrice" = some (.ref (ga K "BadPrice")) := PySem.W.mg_of X G nB
  have eB := exm_ok x4
  have fr : ∀ y ∈ freeNames, mg y = none := fun y hy => PySem.W.mg_none_of X G (eqO_ok (all_of x5 hy))
  have fr2 : ∀ y ∈ freeNames2, mg y = none := fun y hy => PySem.W.mg_none_of X G (eqO_ok (all_of x6 hy))
  have gl : ∀ y ∈ defNames, mg y = some (.ref (ga K y)) := fun y hy => glo_ok X G (all_of x7 hy)
  have gl2 : ∀ y ∈ defNames2, mg y = some (.ref (ga K y)) := fun y hy => glo_ok X G (all_of x8 hy)
  have GF : Free mg := ⟨fr _ (by decide), fr _ (by decide), fr _ (by decide), fr _ (by decide), fr _ (by decide), fr _ (by decide), fr _ (by decide), fr _ (by decide), fr _ (by decide), fr _ (by decide), fr _ (by decide), fr2 _ (by decide), fr2 _ (by decide)⟩
  obtain ⟨y1, x9⟩ := ba x9
  obtain ⟨y2, x9⟩ := ba x9
  obtain ⟨y3, x9⟩ := ba x9
  obtain ⟨y4, x9⟩ := ba x9
  obtain ⟨y5, x9⟩ := ba x9
  obtain ⟨y6, x9⟩ := ba x9
  obtain ⟨y7, x9⟩ := ba x9
  obtain ⟨y8, y9⟩ := ba x9
  obtain ⟨z1, x10⟩ := ba x10
  obtain ⟨z2, x10⟩ := ba x10
  obtain ⟨z3, z4⟩ := ba x10
  obtain ⟨cC, tC⟩ := tyB_ok y1
  have NU : Nums K mg := ⟨str_ok X G z1, int_ok X G z2, int_ok X G z3, ⟨_, gl2 "PRICES" (by decide), kdictB_ok z4⟩⟩
  have get : ∀ i x, words[i]? = some x → ∃ p g fd, PropOf K (ga K "Prices") x p g ∧ FnGet K i x g fd := by
    intro i x hx
    have hp := propB_ok (all_of y5 (List.mem_of_getElem? hx))
    have hd : fns[15 + i]? = some (getP i x) := by
      rcases i with _ | _ | _ | _ | _ | _ | _ | _ | _ | _ | _ | i
      all_goals first
        | (cases hx; rfl)
        | (cases hx; done)
    obtain ⟨fd, F⟩ := cd.def_ (15 + i) hd
    exact ⟨_, _, fd, hp, F⟩
  have W : Pr K mg (ga K "Prices") (ma K (ga K "Prices") "__init__") :=
    { cls := cC, no := noat_ok y2, mkr := mkr_ok y3, g := gl2 "Prices" (by decide), get := get, ty := tC, kC := eqB_ok y6, kT := eqB_ok y7, n1 := y8, n2 := y9 }
  obtain ⟨fd0, F0⟩ := cd.def_ 0 (d := defP "_law_pot" s_pot) rfl
  obtain ⟨fd1, F1⟩ := cd.def_ 1 (d := defP "_law_take" s_take) rfl
  obtain ⟨fd2, F2⟩ := cd.def_ 2 (d := defP "_law_of" s_of) rfl
  obtain ⟨fd3, F3⟩ := cd.def_ 3 (d := defP "_law_prices" s_prices) rfl
  obtain ⟨fd4, F4⟩ := cd.def_ 4 (d := defP "_law_price_row" s_prow) rfl
  obtain ⟨fd5, F5⟩ := cd.def_ 5 (d := defP "_law_kept_prices" s_kept) rfl
  obtain ⟨fd6, F6⟩ := cd.def_ 6 (d := defP "_law_bad_price" s_bad) rfl
  obtain ⟨fd7, F7⟩ := cd.def_ 7 (d := defP "_law_is_price" s_isp) rfl
  obtain ⟨fd8, F8⟩ := cd.def_ 8 (d := defP "_law_full_row" s_full) rfl
  obtain ⟨fd9, F9⟩ := cd.def_ 9 (d := defP "_law_right" s_right) rfl
  obtain ⟨fd, F⟩ := cd.def_ 10 (d := defP "law" s_law) rfl
  obtain ⟨fd11, F11⟩ := cd.def_ 11 (d := defP "is_price" s_price) rfl
  obtain ⟨fd12, F12⟩ := cd.def_ 12 rfl
  obtain ⟨fd13, F13⟩ := cd.def_ 13 rfl
  obtain ⟨fd14, F14⟩ := cd.def_ 14 rfl
  have Fi : FnInit K (ma K (ga K "Prices") "__init__") fd13 := F13
  have Fn : FnInt K (ga K "is_integer") fd12 := F12
  have Fe : FnEq K (ma K (ga K "Prices") "__eq__") fd14 := F14
  have me := meth_ok y4
  have e := hfa.symm.trans (gl2 "law" (by decide))
  cases e
  have b := FunD.bindsA (ps := ["_law_script"]) F fun _ _ _ _ _ _ us hl => match us, hl with | [_], _ => rfl
  refine ⟨fd, fun s v => b s [v] rfl, fun base _ _ => ?_⟩
  have OI : FnOk R.prog w K mg base (L2.CX R.prog w) 3 (ma K (ga K "Prices") "__init__") fd13 initNames (spInit (ga K "Prices") (ga K "BadPrice")) :=
    ok_init07 (k := 0) GF NU T TB gB cC (noat_ok y2) Fi F11 (gl2 "is_price" (by decide)) Fn (gl2 "is_integer" (by decide))
  have DD : Defs R.prog w K mg base (ga K "Prices") (ga K "BadPrice") (ma K (ga K "Prices") "__init__") (ma K (ga K "Prices") "__eq__") fd13 fd14 0 :=
    ⟨sysB_ok x1, GF, W, OI, Fi, Fe, me.1, me.2⟩
  have OP := ok_prices (k := 0) (base := base) GF W OI Fi F3
  have OK : FnOk R.prog w K mg base CX0 3 (ga K "_law_kept_prices") fd5 ["_law_costs"] (spKept (ga K "Prices")) := ok_kept (k := 0) GF W F5
  have OB := ok_bad (k := 0) (base := base) (sysB_ok x1) GF T TB gB eB F6 F3 (gl _ (by decide)) OP
  have OF : FnOk R.prog w K mg base CX0 4 (ga K "_law_full_row") fd8 ["_law_pot_here"] (spRow 35) := ok_full (k := 0) GF F8 F1 (gl _ (by decide)) F2 (gl _ (by decide)) F4 (gl _ (by decide))
  have OR := ok_right (k := 0) DD F9 F1 (gl _ (by decide)) F2 (gl _ (by decide)) F8 (gl2 _ (by decide)) OF F3 (gl _ (by decide)) OP F5 (gl _ (by decide)) OK F6 (gl _ (by decide)) OB F7 (gl _ (by decide))
  exact ok_law (k := 0) DD F F0 (gl _ (by decide)) F5 (gl _ (by decide)) OK F9 (gl2 _ (by decide)) OR
end Ev

open PySem PySem.W PySem.Calls PyProof.Rows
theorem PySem.Challenge.cw_everyrun_k07_prices_holds : PySem.Challenge.rw_everyrun_k07_prices.Holds := by
  w_on; o_law; o_head Ev.hk; (case hw => w_witness2)
  refine Ev.walk_G (l := PySem.Challenge.rw_everyrun_k07_prices) (n := 63) (k := 8) (x := "_law_script") rfl (by decide) (by kernel_rfl) ⟨rfl, by decide, by decide⟩ ?F
  case F =>
    intro w mg fa h Y G hmg
    obtain ⟨K, KX, c⟩ := Y
    obtain ⟨fd, hb, hF⟩ := Ev.facts (w := w) KX G hmg c
    exact ⟨K, fd, Ev.spTrue K, KX, hb, fun H a ns hl _ hS => ⟨a, ns, rfl, hS, hl, fun _ => rfl⟩, hF⟩

