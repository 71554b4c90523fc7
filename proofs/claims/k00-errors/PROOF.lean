import PyProof.Rows.All
import Wide.All
import OpenK.AllK
import Wide.FinOn
import HandS.ForMost
import HandS.ForExc
import HandS.RaiseMore
import HandS.Defaults
import HandS.HeadEnd
import HandS.EndBits
import KE.KExcSuper
import HandS.ExcInit
import HandS.IsInst
import HandS.ExcIs
import KE.KExcIs
import HandS.Wide
import HandS.HeadHook2
import HandS.Head2
import PySem.Challenge.RW_everyrun_k00_errors_keep_their_value
set_option Elab.async false
set_option linter.all false
set_option maxRecDepth 100000
set_option maxHeartbeats 0
namespace Ev
open PySem PySem.Spec PyProof.Rows L2
/-! ### plain data that stands in the heap: dicts too -/
def kD : Key → PyData
  | .inl i => .int i
  | .inr x => .str x
mutual
inductive Rp (K : PySem.W.Frag) (H : Hp) : V → PyData → Prop
  | non : Rp K H .non .none
  | bl (b : Bool) : Rp K H (.bl b) (.bool b)
  | int (i : Int) : Rp K H (.int i) (.int i)
  | str (x : Str) : Rp K H (.str x) (.str x)
  | lst {a : Addr} {xs : List V} {ds : List PyData} : SqL K H a xs → RpAll K H xs ds → Rp K H (.ref a) (.list ds)
  | tup {a : Addr} {xs : List V} {ds : List PyData} : SqT K H a xs → RpAll K H xs ds → Rp K H (.ref a) (.tuple ds)
  | dct {a : Addr} {kvs : List (Key × V)} {es : List (PyData × PyData)} : H a = some (.dK kvs) → RpKv K H kvs es → Rp K H (.ref a) (.dict es)
inductive RpAll (K : PySem.W.Frag) (H : Hp) : List V → List PyData → Prop
  | nil : RpAll K H [] []
  | cons {v : V} {vs : List V} {d : PyData} {ds : List PyData} : Rp K H v d → RpAll K H vs ds → RpAll K H (v :: vs) (d :: ds)
inductive RpKv (K : PySem.W.Frag) (H : Hp) : List (Key × V) → List (PyData × PyData) → Prop
  | nil : RpKv K H [] []
  | cons {k : Key} {v : V} {kvs : List (Key × V)} {d : PyData} {es : List (PyData × PyData)} : Rp K H v d → RpKv K H kvs es → RpKv K H ((k, v) :: kvs) ((kD k, d) :: es)
end
/-- the written part holds sys.modules, a dict -/
def SysIn (K : PySem.W.Frag) : Prop := ∃ o, K.lookup sysModules = some o ∧ o.cls = .type "dict"
section
variable {X : Cx} {pins : List (Addr × Obj)} {σ : L2.St} {H : Hp} {s : Shared}
theorem keyIs_reads {h : Heap} {k : Key} {v : Value} (e : keyIs k v = true) : Reads h v (kD k) [] := by
  rcases keyIs_shape e with ⟨i, t, rfl, rfl⟩ | ⟨x, t, rfl, rfl⟩
  · exact Reads.int i t
  · exact Reads.str x t
theorem sys_not {a : Addr} {o : Obj} (I : Inv X pins σ H s) (S : SysIn X.K) (ho : s.heap.get? a = some o) (hc : o.cls = .type "list") : a ≠ sysModules := by
  intro e
  obtain ⟨u, hu, cu⟩ := S
  have q : s.heap.get? sysModules = some u := I.kIn _ _ hu
  rw [e, q] at ho
  cases ho
  rw [cu] at hc
  exact absurd (Value.type.inj hc) (by decide)
mutual
theorem Rp.reads (I : Inv X pins σ H s) (S : SysIn X.K) : ∀ (d : PyData) (v : V) (u : Value), Rp X.K H v d → RelV v u → ∃ as, Reads s.heap u d as ∧ sysModules ∉ as
  | .none, _, _, h, r => by
    cases h
    cases r
    exact ⟨_, Reads.none, fun z => nomatch z⟩
  | .bool b, _, _, h, r => by
    cases h
    cases r
    exact ⟨_, Reads.bool b, fun z => nomatch z⟩
  | .int i, _, _, h, r => by
    cases h
    obtain ⟨t, rfl⟩ := r
    exact ⟨_, Reads.int i t, fun z => nomatch z⟩
  | .str x, _, _, h, r => by
    cases h
    obtain ⟨t, rfl⟩ := r
    exact ⟨_, Reads.str x t, fun z => nomatch z⟩
  | .list ds, _, _, h, r => by
    cases h with
    | lst hs ha =>
      cases r
      obtain ⟨its, rv, ⟨o, n, ho, hc, _, hd⟩, _⟩ := I.list hs
      obtain ⟨as, hr, hn⟩ := RpAll.reads I S ds _ its ha rv
      exact ⟨_, Reads.list ho hc hd hr, fun z => (List.mem_cons.mp z).elim (fun e => sys_not I S ho hc e.symm) hn⟩
  | .tuple ds, _, _, h, r => by
    cases h with
    | tup hs ha =>
      cases r
      obtain ⟨its, rv, ⟨o, ho, hc, n, hd⟩, _⟩ := I.tuple hs
      obtain ⟨as, hr, hn⟩ := RpAll.reads I S ds _ its ha rv
      exact ⟨_, Reads.tuple ho hc hd hr, hn⟩
  | .dict es, _, _, h, r => by
    cases h with
    | dct he hk =>
      cases r
      obtain ⟨_, hne, vs, hkv, o, us, ep, ho, hx, hd, _, hp, _⟩ := dk_of I.hok he
      obtain ⟨bs, h1, h2, hn⟩ := RpKv.reads I S es _ vs us.toList hk hkv hp
      refine ⟨_, Reads.dict ho hx.1 hd h1 h2, fun z => ?_⟩
      rcases List.mem_append.mp z with z | z
      · rcases List.mem_cons.mp z with z | z
        · rw [← z] at hne
          simp at hne
        · exact nomatch z
      · exact hn z
theorem RpAll.reads (I : Inv X pins σ H s) (S : SysIn X.K) : ∀ (ds : List PyData) (vs : List V) (us : List Value), RpAll X.K H vs ds → Vals vs us → ∃ as, ReadsAll s.heap us ds as ∧ sysModules ∉ as
  | [], _, _, h, r => by
    cases h
    cases r
    exact ⟨_, ReadsAll.nil, fun z => nomatch z⟩
  | d :: ds, _, _, h, r => by
    cases h with
    | cons h1 h2 =>
      cases r with
      | cons r1 r2 =>
        obtain ⟨as, q1, n1⟩ := Rp.reads I S d _ _ h1 r1
        obtain ⟨bs, q2, n2⟩ := RpAll.reads I S ds _ _ h2 r2
        exact ⟨_, ReadsAll.cons q1 q2, fun z => (List.mem_append.mp z).elim n1 n2⟩
theorem RpKv.reads (I : Inv X pins σ H s) (S : SysIn X.K) : ∀ (es : List (PyData × PyData)) (kvs : List (Key × V)) (vs : List (Key × Value)) (us : List DictEntry), RpKv X.K H kvs es → KV kvs vs → Pairs (mixKind X.prog X.w) us vs →
    ∃ bs, ReadsAll s.heap (us.map (·.key)) (es.map (·.1)) [] ∧ ReadsAll s.heap (us.map (·.val)) (es.map (·.2)) bs ∧ sysModules ∉ bs
  | [], _, _, _, h, r, p => by
    cases h
    cases r
    cases p
    exact ⟨[], ReadsAll.nil, ReadsAll.nil, fun z => nomatch z⟩
  | (d0, d) :: es, _, _, _, h, r, p => by
    cases h with
    | cons h1 h2 =>
      cases r with
      | cons r1 r2 =>
        cases p with
        | cons p1 p2 p3 =>
          obtain ⟨e1, e2⟩ := r1
          obtain ⟨as, q1, n1⟩ := Rp.reads I S d _ _ h1 e2
          obtain ⟨bs, q2, q3, n2⟩ := RpKv.reads I S es _ _ _ h2 r2 p3
          refine ⟨as ++ bs, ?_, ?_, fun z => (List.mem_append.mp z).elim n1 n2⟩
          · have q0 : Reads s.heap _ (kD _) [] := keyIs_reads (h := s.heap) (show keyIs _ _ = true from p1)
            rw [← e1] at q0
            exact ReadsAll.cons (as := []) (bs := []) q0 q2
          · refine ReadsAll.cons ?_ q3
            show Reads s.heap (DictEntry.val _) d as
            rw [p2]
            exact q1
end
/-- repr(x), x plain data; nothing of the kind is under way -/
def rRepr (K : PySem.W.Frag) : List V → Hp → VK → Prop := fun xs H Q => ∃ x d, xs = [x] ∧ Rp K H x d ∧ d.showable = true ∧ d.depth ≤ 60 ∧ d.shown.length ≤ sizeLine ∧ Q (.str d.shown) H
theorem call_repr (S : SysIn X.K) (hg : X.A.guards = some []) (hu : X.A.units + 64 < cLine) : CallR X (.builtin "repr") (rRepr X.K) := by
  intro pins s σ H xs us Q I r h
  obtain ⟨x, d, rfl, hd, hs, hdp, hz, q⟩ := h
  cases r with
  | cons rx rn =>
    cases rn
    rename_i u
    obtain ⟨as, hr, hn⟩ := Rp.reads I S d x u hd rx
    cases hr with
    | none => exact PySem.P.repr_of_none ⟨.str _, H, I.tok _, ⟨_, rfl⟩, q⟩
    | bool b => exact PySem.P.repr_of_bool ⟨.str _, H, I.tok _, ⟨_, rfl⟩, q⟩
    | int i t => exact PySem.P.repr_of_int (of_decide_eq_true hs) ⟨.str _, H, I.tok _, ⟨_, rfl⟩, q⟩
    | str y t => exact PySem.P.repr_of_str ⟨.str _, H, I.tok _, ⟨_, rfl⟩, q⟩ hz
    | list h1 h2 h3 h4 => exact repr_of_reads' (.list h1 h2 h3 h4) hs (fun _ => hn) hg (by omega) (fun _ _ e => e) (fun h' u tk hk => ⟨.str _, H, I.kept hk, ⟨_, rfl⟩, q⟩) hz
    | tuple h1 h2 h3 h4 => exact repr_of_reads' (.tuple h1 h2 h3 h4) hs (fun _ => hn) hg (by omega) (fun _ _ e => e) (fun h' u tk hk => ⟨.str _, H, I.kept hk, ⟨_, rfl⟩, q⟩) hz
    | dict h1 h2 h3 h4 h5 => exact repr_of_reads' (.dict h1 h2 h3 h4 h5) hs (fun _ => hn) hg (by omega) (fun _ _ e => e) (fun h' u tk hk => ⟨.str _, H, I.kept hk, ⟨_, rfl⟩, q⟩) hz
end
end Ev

namespace Ev
open PySem PySem.Spec PyProof.Rows L2
/-! ### a def's promise where no repr is under way around it -/
structure FnG (P : Program) (w : World) (K : PySem.W.Frag) (mg : Str → Option Value) (base : Heap) (CX : CXT) (k : Nat)
    (f : Addr) (fd : FuncData) (ps : List Str) (sp : Sp) : Prop where
  len : ∀ vs H Q E, sp vs H Q E → vs.length = ps.length
  run : ∀ (A : Around) (outer : List Env) (s : Shared) (H : Hp) (args : Args) (us : List Value) (vs : List V) (Q : VK) (E : XK),
    A.guards = some [] → Room k A → Env0 P w K mg base A outer s H → BindsTo s fd args (ps.zip us) → Vals vs us →
    sp vs H Q E → codeAny (model P w) A (.call (.ref f) args) (CR CX outer P w H s Q E) s
section
variable {P : Program} {w : World} {K : PySem.W.Frag} {mg : Str → Option Value} {base : Heap} {CX : CXT} {k : Nat}
variable {f : Addr} {fd : FuncData} {ps : List Str} {sp : Sp}
theorem deeper_guards {A : Around} (g : A.guards = some []) (env : Env) : (A.deeper env).guards = some [] := by
  first
    | exact g
    | (unfold Around.deeper; simpa using g)
theorem FnG.by_body {x qual : Str} {params : Arguments} {body : List Stmt} {scope : Scope} {dvs : List V} {kws : List (Str × V)} {N : List Str}
    (F : FunD K x qual params body scope dvs kws f fd) (S : FnScope N ps scope) (len : ∀ vs H Q E, sp vs H Q E → vs.length = ps.length)
    (hb : ∀ (cdv : Value) (A : Around) (outer : List Env) (s : Shared) (H : Hp) (vs : List V) (Q : VK) (E : XK),
      (A.deeper (envOfC qual scope s.heap.objs.size f cdv)).guards = some [] → Room k (A.deeper (envOfC qual scope s.heap.objs.size f cdv)) → sp vs H Q E →
      ∃ t, PSs (cxOf CX P w K mg base N qual scope f cdv A outer s H E) body t ∧ t { nx := fun _ H' => Q .non H', rt := Q } (start N vs) H) :
    FnG P w K mg base CX (k + 1) f fd ps sp := by
  obtain ⟨oc, od, dV, kV, doc, pm, an, cdv, ct, osl, rfl, lk, hcd, _, _⟩ := F.ex
  constructor
  · exact len
  intro A outer s H args us vs Q E hg hr e0 hbd rv hsp
  have hlen := len _ _ _ _ hsp
  have old : ∀ b o, base.get? b = some o → s.heap.get? b = some o := fun b o e => (e0.bs b o e).1
  have KX : K.In s.heap := e0.mod.kin.keeps old
  have parK : ∀ y ∈ ps.zip us, scope.names.lookup y.1 = some .local ∨
      (scope.names.lookup y.1 = some .cell ∧ ((cellsFrom (s.heap.objs.size + 1) scope.names []).lookup y.1).isSome = true) := by
    rintro ⟨n, v⟩ hy
    cases S.par n (List.of_mem_zip hy).1 with
    | inl q => exact .inl q
    | inr q => exact .inr ⟨q, PySem.W.cellsFrom_some _ _ _ (.inl q)⟩
  refine codeAny_call_function hr.depth (KX _ _ lk) rfl S.co S.gen rfl (PySem.W.codeRec_of KX hcd) (hbd _ _ _ _ ?_)
  refine wpAny_newFunctionEnv_cells S.kind parK ?_
  intro env he s1 x
  subst he
  refine ⟨(e0.mod.nolimit.keeps old).keeps x.toInCall.keep, codeAny_func ?_⟩
  obtain ⟨t, ht, hq⟩ := hb cdv A outer s H vs Q E (deeper_guards hg _) (hr.deeper _) hsp
  have I : Inv (cxOf CX P w K mg base N qual scope f cdv A outer s H E) [] (start N vs) H s1 := inv_start S hr.hd e0 hlen rv x
  refine wpAny_mono (ht.run [] s1 (start N vs) H _ I hq) ?_ (fun e s' hs => hs)
  intro fl s' hs
  cases fl with
  | ret u =>
    obtain ⟨v, σ', H', J, r1, q⟩ := hs
    exact ⟨v, H', J.os, J.bare, J.base, J.hok, r1, q⟩
  | next =>
    obtain ⟨σ', H', J, q⟩ := hs
    exact ⟨V.non, H', J.os, J.bare, J.base, J.hok, rfl, q⟩
  | brk => exact (let ⟨_, _, _, q⟩ := hs; q).elim
  | cont => exact (let ⟨_, _, _, q⟩ := hs; q).elim
end
section
variable {X : Cx} {CX : CXT} {k : Nat} {f : Addr} {fd : FuncData} {ps : List Str} {sp : Sp} {dvs : List V} {ds : List Value} {E : XK} {x : Str}
variable {p pos : Pos} {e : Expr} {es : List Expr} {t : TA}
/-- a call of such a def -/
theorem pe_callG (F : FnG X.prog X.w X.K X.mg X.base CX k f fd ps sp) (g : X.A.guards = some []) (hr : Room k X.A) (hg : Gl X x) (hm : X.mg x = some (.ref f))
    (hk : PySem.W.keepIn X.K (.ref f) = true) (hb : Binds X.K fd ps ds) (hd : Vals dvs ds) (hx : Passes CX X E) (ha : PA X (e :: es) t)
    (hdb : (x == ("__debug__" : Str)) = false := by decide) (he : starEach (e :: es) X.env = (false, eval e X.env) :: starEach es X.env := by rfl)
    (hpl : (backTo pos (starEach es X.env)).any (·.1) = false := by rfl) : PE X (.Call (.Name x p) (e :: es) [] pos) (tCall sp dvs E t) := by
  constructor
  intro pins s σ H Q I h
  refine wpAny_Call_Name_kw (ld_glob I hg hm ?_ hdb)
  refine PySem.W.callWith_K (h₀ := X.base) I.ok.mod.kin hk (thn (ha.run pos pins s σ H _ I h) ?_) he hpl
  rintro us s1 ⟨vs, H1, I1, r, q⟩
  refine ⟨I1.kIn, ?_⟩
  have r2 : Vals (vs ++ dvs) (us ++ ds) := r.append hd
  have hl : (us ++ ds).length = ps.length := r2.length.symm.trans (F.len _ _ _ _ q)
  refine wpAny_call (codeAny_mono (F.run X.A X.stack s1 H1 ⟨us, []⟩ (us ++ ds) (vs ++ dvs) Q E g hr I1.env0 (hb s1 us I1.kIn hl) r2 q) ?_)
  intro r s' hq
  match r, hq with
  | .error e, hq => exact hx pins σ H1 s1 e s' I1 hq
  | .ok (.ret u), hq => exact I1.after hq
  | .ok .next, hq => exact False.elim hq
  | .ok .brk, hq => exact False.elim hq
  | .ok .cont, hq => exact False.elim hq
end
end Ev

namespace Ev
open PySem PySem.Spec PyProof.Rows L2
/-! ### the end of a law whose def asks that no repr is under way -/
section
variable {P : Program} {w : World} {K : PySem.W.Frag} {mg mb : Str → Option Value} {CX : CXT} {k : Nat} {fa a : Addr} {fd : FuncData} {x : Str} {sp : Sp}
variable {s₁ : Shared} {vs : List Value} {ns : List Int}
theorem law_from {H : Hp} (KX : K.In s₁.heap) (hns : s₁.heap.Ns mainGlobals mg) (hb : s₁.heap.Ns builtinsNs mb) (hbb : ∀ x : Str, x ≠ "__name__" → mb x = bootBuiltins x)
    (hlim : s₁.heap.NoLimit) (hg : s₁.gens = #[]) (ha : s₁.heap.get? a = some { cls := .type "list", data := .seq vs.toArray }) (hr : Room k callerA)
    (F : ∀ base : Heap, K.In base → base.Ns mainGlobals mg → FnG P w K mg base CX k fa fd [x] sp) (hbind : ∀ (s : Shared) (u : Value), BindsTo s fd ⟨[u], []⟩ [(x, u)])
    (hO : Only H) (hS : SqL K H a (ns.map V.int)) (hok : HOk P w H s₁.heap) (hA : ∀ b, H b ≠ none → b = a) (hK : H a ≠ none → K.lookup a = none)
    (hsp : sp [.ref a] H (fun v _ => v = .bl true) fun _ _ _ => False) (hCX : ∀ e s', CX [] H s₁ (fun _ _ _ => False) e s' → False) :
    codeAny (model P w) callerA (.call (.ref fa) ⟨[.ref a], []⟩)
      (fun r s' => r = .ok (.ret (.bool true)) ∧ OldK s₁.heap s'.heap ∧ s'.os = s₁.os ∧ AllBare s'.gens) s₁ := by
  have none_of : ∀ b, b ≠ a → H b = none := fun b hne => by
    cases q : H b with
    | none => rfl
    | some u => exact absurd (hA b (by rw [q]; simp)) hne
  have dict_ne : ∀ {b : Addr} {o : Obj} {es : Array DictEntry} {ep : Nat}, s₁.heap.get? b = some o → o.data = .dict es ep → b ≠ a := by
    intro b o es ep e d z
    rw [z, ha] at e
    cases e
    cases d
  have up : ∀ {b : Addr} {m : Str → Option Value}, s₁.heap.Ns b m → (hidT s₁.heap H).Ns b m := by
    rintro b m ⟨o, es, ep, e, d, r⟩
    exact ⟨o, es, ep, hidT_get e (none_of b (dict_ne e d)), d, r⟩
  have KB : K.In (hidT s₁.heap H) := by
    intro b o e
    refine hidT_get (KX b o e) ?_
    cases q : H b with
    | none => rfl
    | some u =>
      have nz : H b ≠ none := by rw [q]; simp
      have z := hA b nz
      rw [z] at nz e
      rw [hK nz] at e
      cases e
  have lim2 : (hidT s₁.heap H).NoLimit := by
    obtain ⟨mc, h1, h2⟩ := hlim
    exact ⟨mc, up h1, h2⟩
  have M : Mod K mg (hidT s₁.heap H) := ⟨KB, up hns, ⟨mb, up hb, hbb⟩, lim2⟩
  have e0 : Env0 P w K mg (hidT s₁.heap H) callerA [] s₁ H :=
    { frames := rfl, mod := M, bs := fun b o e => of_hidT e, bsz := Nat.le_of_eq (hidT_size _ _), funs := trivial, frf := fun b hb => (nomatch hb), hok := hok, bare := .of_eq hg }
  have G := (F _ KB (up hns)).run callerA [] s₁ H ⟨[.ref a], []⟩ [.ref a] [.ref a] _ _ rfl hr e0 (hbind s₁ (.ref a)) (.cons rfl .nil) hsp
  refine codeAny_mono G ?_
  intro r s' h
  match r, h with
  | .error e, h => exact (hCX e s' h).elim
  | .ok .next, h => exact False.elim h
  | .ok .brk, h => exact False.elim h
  | .ok .cont, h => exact False.elim h
  | .ok (.ret u), h =>
    obtain ⟨v, H', os, bare, un, hok', r', q⟩ := h
    have q' : v = .bl true := q
    rw [q'] at r'
    obtain rfl : u = Value.bool true := r'
    refine ⟨rfl, OldK.of_keep fun b o e => ?_, os, bare⟩
    rcases hO b with z | ⟨ob, xs, z⟩
    · exact un.keep b o e z (fun y => nomatch y) (fun y => nomatch y)
    · have z1 := (hok b _ z).1
      have z2 := (hok' b _ (un.frzs b ob _ z)).1
      rw [e] at z1
      cases z1
      exact z2
theorem law_callG (KX : K.In s₁.heap) (hns : s₁.heap.Ns mainGlobals mg) (hb : s₁.heap.Ns builtinsNs mb) (hbb : ∀ x : Str, x ≠ "__name__" → mb x = bootBuiltins x)
    (hlim : s₁.heap.NoLimit) (hg : s₁.gens = #[]) (ha : s₁.heap.get? a = some { cls := .type "list", data := .seq vs.toArray }) (hi : IntsAre vs ns) (hl : ns.length ≤ sizeLine)
    (hr : Room k callerA) (F : ∀ base : Heap, K.In base → base.Ns mainGlobals mg → FnG P w K mg base CX k fa fd [x] sp)
    (hbind : ∀ (s : Shared) (u : Value), BindsTo s fd ⟨[u], []⟩ [(x, u)])
    (hsp : ∀ H : Hp, Only H → SqL K H a (ns.map V.int) → sp [.ref a] H (fun v _ => v = .bl true) fun _ _ _ => False)
    (hCX : ∀ H e s', CX [] H s₁ (fun _ _ _ => False) e s' → False) :
    codeAny (model P w) callerA (.call (.ref fa) ⟨[.ref a], []⟩)
      (fun r s' => r = .ok (.ret (.bool true)) ∧ OldK s₁.heap s'.heap ∧ s'.os = s₁.os ∧ AllBare s'.gens) s₁ := by
  have rv := vals_ints hi
  have hz : vs.toArray.size ≤ sizeLine := by
    rw [List.size_toArray, hi.length]
    exact hl
  cases hk : K.lookup a with
  | some o =>
    have e := KX a o hk
    rw [ha] at e
    cases e
    have S : SqL K (fun _ => none) a (ns.map V.int) := .inr ⟨_, vs.toArray, _, hk, rfl, rfl, rfl, hz, by simpa using rv⟩
    exact law_from KX hns hb hbb hlim hg ha hr F hbind (fun _ => .inl rfl) S (fun b u z => nomatch (show (none : Option HO) = some u from z)) (fun b z => absurd rfl z)
      (fun z => absurd rfl z) (hsp _ (fun _ => .inl rfl) S) (hCX _)
  | none =>
    let L : HO := .frz { cls := .type "list", data := .seq vs.toArray } (.lst (ns.map V.int))
    let H : Hp := fun b => if b = a then some L else none
    have atA : H a = some L := if_pos rfl
    have off : ∀ b, b ≠ a → H b = none := fun b hb => if_neg hb
    have S : SqL K H a (ns.map V.int) := .inl (.inr ⟨{ cls := .type "list", data := .seq vs.toArray }, atA⟩)
    have O : Only H := fun b => by
      by_cases hb : b = a
      · rw [hb]
        exact .inr ⟨_, _, atA⟩
      · exact .inl (off b hb)
    refine law_from KX hns hb hbb hlim hg ha hr F hbind O S ?_ ?_ (fun _ => hk) (hsp _ O S) (hCX _)
    · intro b u z
      by_cases hb : b = a
      · rw [hb, atA] at z
        cases z
        rw [hb]
        exact ⟨ha, by rw [List.length_map]; exact hl, vs, _, rv, ha⟩
      · rw [off b hb] at z
        cases z
    · intro b z
      by_cases hb : b = a
      · exact hb
      · exact absurd (off b hb) z
theorem walk_G {l : PySem.W.OpenLaw} {n : Nat} {q : Program} {loose : List Str} {XP : (Str → Option Value) → Heap → Prop} {YP : World → Heap → Prop} {d : DefRec}
    (hn : l.most = some n) (hn2 : n ≤ sizeLine) (hdf : d.params.defaults = []) (hr : Room k callerA)
    (F : ∀ (w : World) (mg : Str → Option Value) (fa : Addr) (h : Heap), YP w h → h.Ns mainGlobals mg → mg d.name = some (.ref fa) →
      ∃ (K : PySem.W.Frag) (fd : FuncData) (sp : Sp), K.In h ∧ (∀ (s : Shared) (u : Value), BindsTo s fd ⟨[u], []⟩ [(x, u)]) ∧
        (∀ (H : Hp) (a : Addr) (ns : List Int), ns.length ≤ n → Only H → SqL K H a (ns.map V.int) → sp [.ref a] H (fun v _ => v = .bl true) fun _ _ _ => False) ∧
        ∀ base : Heap, K.In base → base.Ns mainGlobals mg → FnG l.prog w K mg base CX0 k fa fd [x] sp) :
    PySem.W.WalkO q loose XP YP l.row.toRowW d [] (fun f vs => PySem.call f vs) := by
  refine Att.attach_call hn hdf ?_
  intro w s₀ s₁ mg mb fa o pm cd doc a vs ns G Y ho hd hcd hmg hobj hints hlen hg
  obtain ⟨K, fd, sp, KX, hb, hsp, hF⟩ := F w mg fa _ Y G.T.g hmg
  exact law_callG KX G.T.g G.T.b G.T.builtins G.T.nolimit hg hobj hints (Nat.le_trans hlen hn2) hr hF hb (fun H hO hS => hsp H a ns hlen hO hS) fun _ _ _ z => z
end
end Ev

namespace Ev
open PySem PySem.Spec PyProof.Rows L2
/-! ### the __init__ of RunError: super().__init__(value); self.value = value -/
def iArgs (p1 p2 : Pos) : Arguments := { posonlyargs := [], args := [{ arg := "self", annotation := none, pos := p1 }, { arg := "value", annotation := none, pos := p2 }], vararg := none, kwonlyargs := [], kw_defaults := [], kwarg := none, defaults := [] }
def iBody (q : Nat → Pos) : List Stmt :=
  [.Expr (.Call (.Attribute (.Call (.Name "super" (q 0)) [] [] (q 1)) "__init__" (q 2)) [.Name "value" (q 3)] [] (q 4)) (q 5),
   .Assign [.Attribute (.Name "self" (q 6)) "value" (q 7)] (.Name "value" (q 8)) (q 9)]
def iScope : Scope := { kind := .function, names := [(Str.ofString "self", .local), (Str.ofString "value", .local), (Str.ofString "__class__", .free), (Str.ofString "super", .globalImplicit)], isGenerator := false, isCoroutine := false, more := [] }
abbrev iFn (p1 p2 : Pos) (q : Nat → Pos) (doc pm : Value) (an : Option Addr) (cda : Addr) (ct : Value) (cc : Addr) : FuncData :=
  PySem.W.ksFn "__init__" "RunError.__init__" (iArgs p1 p2) (iBody q) iScope .none .none doc pm an (.ref cda) ct cc
/-- its first statement, as a method's call -/
theorem super_call {q : Nat → Pos} {env : Env} (h : ((q 2).endLine == (q 4).line) = true) :
    eval (.Call (.Attribute (.Call (.Name "super" (q 0)) [] [] (q 1)) "__init__" (q 2)) [.Name "value" (q 3)] [] (q 4)) env = (do
      let ov ← attributeBase (.Call (.Name "super" (q 0)) [] [] (q 1)) "__init__" env (eval (.Call (.Name "super" (q 0)) [] [] (q 1)) env)
      standAt (q 2).atName
      let (f, first) ← holding [ov] (getMethod ov "__init__" (do return (← importBound (.Call (.Name "super" (q 0)) [] [] (q 1)) env).getD true))
      callWith (q 4) f first (backTo (q 4) (starEach [.Name "value" (q 3)] env)) []) := by
  have e : methodCallPos true (.Call (.Name "super" (q 0)) [] [] (q 1)) env (q 2) (q 4) = pure (q 4) := by
    unfold methodCallPos
    rw [h]
    rfl
  show (do
      let ov ← attributeBase (.Call (.Name "super" (q 0)) [] [] (q 1)) "__init__" env (eval (.Call (.Name "super" (q 0)) [] [] (q 1)) env)
      standAt (q 2).atName
      let (f, first) ← holding [ov] (getMethod ov "__init__" (do return (← importBound (.Call (.Name "super" (q 0)) [] [] (q 1)) env).getD true))
      let cp ← methodCallPos true (.Call (.Name "super" (q 0)) [] [] (q 1)) env (q 2) (q 4)
      callWith cp f first (backTo (q 4) (starEach [.Name "value" (q 3)] env)) []) = _
  rw [e]
  rfl
/-- what the written part says of RunError, at R, and of its __init__, at fI -/
structure ErrR (P : Program) (K : PySem.W.Frag) (R fI : Addr) (fd : FuncData) : Prop where
  fn : ∃ (oc : Value) (od : Option Addr) (doc pm : Value) (an : Option Addr) (cda : Addr) (ct : Value) (cc : Addr) (osl : Array (Option Value)) (p1 p2 : Pos) (q : Nat → Pos) (ccl : Value) (cdd : Option Addr) (vs : Array Value) (ccs : Array (Option Value)) (file : Str) (tf : Tok) (cl : Value) (cld : Option Addr) (csl : Array (Option Value)),
    ((q 2).endLine == (q 4).line) = true ∧ fd = iFn p1 p2 q doc pm an cda ct cc ∧ K.lookup fI = some ⟨oc, od, .func fd, osl⟩ ∧ PySem.W.codeIn K (.ref cda) "RunError.__init__" = true ∧
    K.lookup cda = some ⟨ccl, cdd, .fields vs, ccs⟩ ∧ vs[2]? = some (.str file tf) ∧ ((P.main.file : Str) == file) = true ∧
    K.lookup cc = some ⟨cl, cld, .cell (some (.ref R)), csl⟩
  cls : ∃ cd, PySem.W.clsIn K R = some cd
  free : PySem.W.nsIn K mainGlobals "super" = some none
  opq : PySem.W.nsIn K cStatics "thirdparty.any" = some none
  top : (P.main.scope.names.lookup ("super" : Str)).isSome = false
  ty : PySem.W.typeIn K (.ref fI) = some (.type "function")
  spc : PySem.W.specialIn K (.builtin "object.__class__") "__get__" = some (some (.builtin "getset_descriptor.__get__"))
  tak : PySem.W.takesIn K (.builtin "object.__class__") = some true
/-- .. of an error's class, at C -/
structure ErrC (K : PySem.W.Frag) (R fI C : Addr) : Prop where
  oex : OexC K C
  ini : PySem.W.findIn K (.ref C) "__init__" = some (some (.ref fI))
  noV : PySem.W.findIn K (.ref C) "value" = some none
  subR : PySem.W.mroIn K C (.ref R) = some true
  sup : PySem.W.ks_superIn K C R "__init__" = some (some (.builtin "ValueError.__init__"))
  subV : PySem.W.subIn K (.ref C) (.type "ValueError") = some true
  ga : PySem.W.findIn K (.ref C) "__getattribute__" = some (some (.builtin "BaseException.__getattribute__"))
  gg : PySem.W.findIn K (.ref C) "__getattr__" = some none
  hd : PySem.W.hasDictIn K C = true
  hcl : PySem.W.findIn K (.ref C) "__class__" = some (some (.builtin "object.__class__"))
  hob : PySem.W.mroIn K C (.type "object") = some true
section
open PySem.W PySem.Calls
variable {prog : Program} {w : World} {A : Around} {E : Value → Shared → Prop} {h : Heap} {g : Array GenState} {d : Drawn} {t : Nat} {os : OsState}
variable {nm q : Str} {C N : Addr} {bs bm : List Value} {hdct : Bool} {sn : List Str} {sub : List Value} {ab : Bool} {col : Option Bool} {dd : Option Addr} {k0 k1 k2 k3 k5 : Option Value}
/-- the bound built-in __init__ is called -/
theorem call_mw {u e t0 : Addr} {rest : List Value} {Q : Value → Shared → Prop} (hC : h.get? C = some (excClassObj nm q C N bs bm hdct sn sub ab col dd k0 k1 k2 k3 k5 "ValueError.__new__"))
    (he : h.get? e = some (HandSPX.excO C t0)) (hu : h.get? u = some (kxs_mw "ValueError.__init__" e)) (hrest : rest.length ≤ sizeLine)
    (hq : ∀ h' t1, (∀ b o, b ≠ e → h.get? b = some o → h'.get? b = some o) → h'.get? e = some (HandSPX.excO C t1) → Q .none ⟨h', g, d, t, os⟩) :
    wpAny (model prog w) A (call (.ref u) rest) Q E ⟨h, g, d, t, os⟩ := by
  refine wpAny_call (codeAny_of_tree ?_)
  show wpAny _ A.in1 (callAny (.ref u) ⟨rest, []⟩) _ _ _
  simp only [callAny]
  refine wpAny_bind (wpAny_load hu ?_)
  simp only [kxs_mw, show (Value.type "method-wrapper" == Value.type "method" || Value.type "method-wrapper" == Value.type "builtin_function_or_method" || Value.type "method-wrapper" == Value.type "method-wrapper") = true by decide, if_true]
  refine KFB.if_so (by decide) ?_
  refine wpAny_bind (check_bound_init F.excBase_ValueError.toExcCallFacts hC he rfl ?_)
  refine wpAny_bind (wpAny_pure (wpAny_pure ?_))
  refine ⟨plainId_quiet F.excBase_ValueError.init.plain _, codeAny_builtin F.excBase_ValueError.initEntry ?_⟩
  exact exc_init_tree (cls := .ref C) (t0 := t0) (dv := none) (c2 := .none) (c3 := .none) (b4 := .bool false) he hrest fun h' k e1 _ => hq h' _ k e1
end
end Ev

namespace Ev
open PySem PySem.Spec PyProof.Rows L2
section
open PySem.W PySem.Calls
variable {P : Program} {w : World} {A : Around} {K : PySem.W.Frag} {mg mb : Str → Option Value} {R fI C : Addr} {fd : FuncData} {s : Shared} {Z : Result → Shared → Prop}
theorem init_run (T : ErrR P K R fI fd) (TC : ErrC K R fI C) {x t0 : Addr} {v : Value} (X : K.In s.heap) (hg : s.heap.Ns mainGlobals mg) (hb : s.heap.Ns builtinsNs mb)
    (hbb : ∀ y : Str, y ≠ "__name__" → mb y = bootBuiltins y) (hlim : s.heap.NoLimit) (hx : s.heap.get? x = some (HandSPX.excO C t0)) (hnx : K.lookup x = none) (hroom : A.depth < recursionLimit) {args : Args}
    (hbi : BindsTo s fd args [("self", .ref x), ("value", v)])
    (hq : ∀ h' tk dx t1, (∀ b o, b ≠ x → s.heap.get? b = some o → h'.get? b = some o) → s.heap.objs.size ≤ dx → dx ≠ x →
      h'.get? x = some { cls := .ref C, dict := some dx, data := .fields #[.ref t1, .none, .none, .none, .bool false, .none] } →
      h'.Ns1 dx (fun y => if y = "value" then some v else none) → Z (.ok (.ret .none)) { s with heap := h', toks := tk }) :
    codeAny (model P w) A (.call (.ref fI) args) Z s := by
  obtain ⟨oc, od, doc, pm, an, cda, ct, cc, osl, p1, p2, q, ccl, cdd, vs, ccs, file, tf, cl, cld, csl, hqe, rfl, lk, hcd, lcd, hvs, hfile, lcc⟩ := T.fn
  obtain ⟨cdR, hR⟩ := T.cls
  obtain ⟨nm, qn, N, bs, bm, sn, sub, ab, col, dd, k0, k1, k2, k3, k5, hC, hbm⟩ := TC.oex.cls
  have hcl : clsIn K C = some { name := nm, bases := bs, mro := .ref C :: bm, ns := N, qualname := qn, hasDict := true, slotNames := sn, subclasses := sub, abstract := ab, collection := col, hasDel := false } := by
    unfold clsIn
    rw [hC] <;> rfl
  obtain ⟨oR, hR1, hR2⟩ : ∃ oR, K.lookup R = some oR ∧ oR.data = .cls cdR := by
    unfold clsIn at hR
    split at hR
    · rename_i c dq cd' sl ho
      cases hR
      exact ⟨_, ho, rfl⟩
    · cases hR
  have hxC : x ≠ C := by
    rintro rfl
    have e := X _ _ hC
    rw [hx] at e
    cases e
  have hloc : ∀ y ∈ [(Str.ofString "self", Value.ref x), (Str.ofString "value", v)], iScope.names.lookup y.1 = some .local := by
    intro y hy
    rcases List.mem_cons.mp hy with rfl | hy
    · rfl
    · rcases List.mem_cons.mp hy with rfl | hy
      · rfl
      · cases hy
  have hcell : ∀ y ∈ iScope.names, y.2 ≠ NameKind.cell := by decide +kernel
  refine ks_codeAny_call_defAt hroom (X _ _ lk) rfl hlim (codeRec_of X hcd) rfl hbi hcell hloc (fun h₁ hns k₁ => ?_)
  have X₁ : K.In h₁ := X.keeps k₁
  have hx₁ := k₁ _ _ hx
  have I₁ : InstAt h₁ x (HandSPX.excO C t0) C none := ⟨hx₁, rfl, rfl, trivial⟩
  refine ks_wpAt_execs_cons (ks_wpAt_Expr_any (ks_wpAt_MethodCall (pl := (do return (← importBound (.Call (.Name "super" (q 0)) [] [] (q 1)) (callEnv (iFn p1 p2 q doc pm an cda ct cc) s.heap.objs.size fI)).getD true)) ?_ (super_call hqe)))
  refine ks_wpAt_super_base (by rfl) (by rfl) (by decide) rfl (X₁ _ _ lk) rfl (ar := { arg := "self", annotation := none, pos := p1 }) rfl rfl (X₁ _ _ lcd) rfl hvs hfile T.top ?_
  refine ks_loadName_global rfl (by rfl) (loadGlobal_builtin (hg.keeps k₁) (mg_none_of X hg T.free) (hb.keeps k₁) ((hbb _ (by decide +kernel)).trans (by decide +kernel)) ⟨rfl, ?_⟩)
  refine wpAny_loadName_free rfl (by rfl) (by rfl) ⟨_, X₁ _ _ lcc, rfl⟩ ?_
  refine wpAny_loadName_local rfl (by rfl) hns (by rfl) ?_
  refine ks_wpAny_isType_cls (X₁ _ _ hR1) hR2 ⟨rfl, ?_⟩
  refine ks_wpAny_call_super (X₁ _ _ hR1) hR2 hx₁ rfl (fun c e => by cases e) (looks_mroIn X₁ TC.subR) (fun h₂ hso k₂ => ?_)
  have X₂ : K.In h₂ := X₁.keeps k₂
  have hx₂ := k₂ _ _ hx₁
  have I₂ : InstAt h₂ x (HandSPX.excO C t0) C none := ⟨hx₂, rfl, rfl, trivial⟩
  have hsup := TC.sup
  unfold ks_superIn at hsup
  rw [hcl, Option.bind_some] at hsup
  refine kxs_getMethod kxs_ValueError hso (looks_opaque X₂ T.opq) (l₀ := .ref C :: bm) ((looks_clsIn X₂ hcl).andThen .now) rfl X₂ hsup (I₂.type.andThen (looks_subIn X₂ TC.subV)) hxC (by decide) ?_
  have k₃ : ∀ b o, h₂.get? b = some o → (h₂.push (kxs_mw "ValueError.__init__" x)).get? b = some o := fun b o e => Heap.get?_push_of_some _ e
  have hu₃ : (h₂.push (kxs_mw "ValueError.__init__" x)).get? h₂.objs.size = some (kxs_mw "ValueError.__init__" x) := Heap.get?_push_at rfl rfl
  have hns₃ : (h₂.push (kxs_mw "ValueError.__init__" x)).Ns s.heap.objs.size _ := (hns.keeps k₂).keeps k₃
  refine kxs_callWith (i := "ValueError.__init__") (x := x) rfl (evalArgs_plain ?_)
  refine spliced_cons ?_
  refine wpAny_Name (wpAny_loadName_local rfl (by rfl) hns₃ (by rfl) ?_) (by decide)
  refine spliced_nil ⟨hu₃, ?_⟩
  show wpAny _ _ (call (.ref h₂.objs.size) [v]) _ _ _
  refine call_mw (k₃ _ _ (X₂ _ _ hC)) (k₃ _ _ hx₂) hu₃ (by rw [sizeLine_eq]; exact (by decide : 1 ≤ 16777216)) (fun h₄ t1 k₄ hx₄ => ?_)
  have old : ∀ b o, b ≠ x → s.heap.get? b = some o → h₄.get? b = some o := fun b o hbx e => k₄ b o hbx (k₃ b o (k₂ b o (k₁ b o e)))
  have X₄ : K.In h₄ := fun b o e => old b o (fun z => by
    rw [z, hnx] at e
    cases e) (X b o e)
  have hLx : s.heap.objs.size ≠ x := Nat.ne_of_gt (Heap.lt_size hx)
  have hns₄ : h₄.Ns s.heap.objs.size (fun y => [(Str.ofString "self", Value.ref x), (Str.ofString "value", v)].reverse.lookup y) := by
    obtain ⟨o, es, ep, e, r⟩ := hns₃
    exact ⟨o, es, ep, k₄ _ _ hLx e, r⟩
  have hsz : s.heap.objs.size < h₄.objs.size := hns₄.lt
  refine wpAt_of_wpAny ?_
  refine wpAny_execs_cons (plainObj_wpAny_Assign_Attribute ?_)
  refine wpAny_Name (wpAny_loadName_local rfl (by rfl) hns₄ (by rfl) ?_) (by decide)
  refine wpAny_Name (wpAny_loadName_local rfl (by rfl) hns₄ (by rfl) ?_) (by decide)
  refine set_plain X₄ (ox := HandSPX.excO C t1) (od := none) ⟨hx₄, rfl, rfl, trivial⟩ TC.oex.sa ?_
  refine HandSPX.exc_osa X₄ hx₄ hcl (show HandSPX.refsVE (.ref C :: bm) = true from hbm) rfl TC.noV (fun h₅ tk₅ dx k₅ dn dne hx₅ hn₅ => ?_)
  refine wpAny_execs_nil ?_
  exact hq h₅ tk₅ dx t1 (fun b o hb e => k₅ b o hb (old b o hb e)) (Nat.le_trans (Nat.le_of_lt hsz) dn) dne hx₅ hn₅
end
section
variable {P : Program} {w : World} {K : PySem.W.Frag} {mg : Str → Option Value} {base : Heap} {CX : CXT} {k : Nat} {R fI C : Addr} {fd : FuncData}
def spErr (K : PySem.W.Frag) (R fI : Addr) : Sp := fun vs H Q _ => ∃ (a C : Addr) (v : V), vs = [.ref a, v] ∧ ErrC K R fI C ∧ H a = some (exo a C none) ∧
  ∀ dx, H dx = none → dx ≠ a → Q .non (upd (upd H dx (exd dx [("value", v)])) a (exo a C (some dx)))
theorem ok_init (T : ErrR P K R fI fd) : FnOk P w K mg base CX (k + 1) fI fd ["self", "value"] (spErr K R fI) := by
  constructor
  · rintro vs H Q E ⟨a, C, v, rfl, _⟩
    rfl
  rintro A outer s H args us vs Q E hr e0 hb rv ⟨a, C, v, rfl, TC, ea, hq⟩
  match us, rv with
  | [u0, u1], .cons r0 (.cons r1 .nil) =>
  obtain rfl : u0 = Value.ref a := r0
  have old : ∀ b o, base.get? b = some o → s.heap.get? b = some o := fun b o e => (e0.bs b o e).1
  have X : K.In s.heap := e0.mod.kin.keeps old
  obtain ⟨t0, hx⟩ := exo_at e0.hok ea
  obtain ⟨mb, hbl, hbb⟩ := e0.mod.blt
  have hnx : K.lookup a = none := by
    cases z : K.lookup a with
    | none => rfl
    | some o =>
      have y := (e0.bs a o (e0.mod.kin a o z)).2
      rw [ea] at y
      cases y
  refine init_run T TC X (e0.mod.glob.keeps old) (hbl.keeps old) hbb (e0.mod.nolimit.keeps old) hx hnx hr.depth (by simpa using hb) (fun h' tk dx t1 kp dn dne hx' hn' => ?_)
  have hnd : H dx = none := e0.hok.fresh dn
  have nd : ∀ {b : Addr} {o : Obj}, s.heap.get? b = some o → b ≠ dx := fun {b o} q => Nat.ne_of_lt (Nat.lt_of_lt_of_le (Heap.lt_size q) dn)
  have na : ∀ {b : Addr}, H b = none → b ≠ a := fun {b} n z => by
    rw [z, ea] at n
    cases n
  refine ⟨.non, upd (upd H dx (exd dx [("value", v)])) a (exo a C (some dx)), rfl, e0.bare, ?_, ?_, rfl, hq dx hnd dne⟩
  · constructor
    · exact fun b o q n _ _ => kp b o (na n) q
    · exact fun b o q n _ _ => ⟨o.slots, kp b o (na n) q⟩
    · intro b o q n _
      rw [upd_ne (na n), upd_ne (nd q)]
      exact n
    · intro b o q _
      by_cases hba : b = a
      · rw [hba]
        exact ⟨_, hx'⟩
      · exact ⟨o, kp b o hba q⟩
    · intro b xs q
      rw [upd_ne (at_ne ea q exo_tup), upd_ne (ne_of_none q hnd)]
      exact q
    · intro b o u q
      rw [upd_ne (at_ne ea q exo_frz), upd_ne (ne_of_none q hnd)]
      exact q
    · intro b ps q
      refine ⟨#[], ?_⟩
      rw [upd_ne (at_ne ea q exo_tbl), upd_ne (ne_of_none q hnd), q]
      simp
  · intro b o q
    by_cases hba : b = a
    · rw [hba, upd_same] at q
      cases q
      rw [hba]
      exact exo_ok hx'
    rw [upd_ne hba] at q
    by_cases hbd : b = dx
    · rw [hbd, upd_same] at q
      cases q
      rw [hbd]
      exact exd_ok hn' (relO_put (fs := []) r1 fun g => True.intro)
    rw [upd_ne hbd] at q
    refine (e0.hok b o q).stay ?_ ?_ ?_
    · intro c u hc z
      refine kp c u ?_ z
      cases hc with
      | inl hc => rw [hc]; exact hba
      | inr hc => exact at_ne ea hc exo_own
    · intro c hc
      rw [upd_ne (at_ne ea hc exo_own), upd_ne (ne_of_none hc hnd)]
      exact hc
    · intro c xs hc
      rw [upd_ne (at_ne ea hc exo_tup), upd_ne (ne_of_none hc hnd)]
      exact hc
theorem binds_init (T : ErrR P K R fI fd) : Binds K fd ["self", "value"] [] := by
  obtain ⟨oc, od, doc, pm, an, cda, ct, cc, osl, p1, p2, q, ccl, cdd, vs, ccs, file, tf, cl, cld, csl, hqe, rfl, lk, hcd, lcd, hvs, hfile, lcc⟩ := T.fn
  exact .all fun us hl => match us, hl with
    | [_, _], _ => by first | rfl | with_unfolding_all rfl
end
end Ev

namespace Ev
open PySem PySem.Spec PyProof.Rows L2
/-! ### errors made: raised, or held as values -/
/-- X(e), to be raised -/
abbrev tMkE (K : PySem.W.Frag) (R fI C : Addr) (te : TE) : L2.St → Hp → XK → Prop := tMkO C (spErr K R fI) [] (tCons te tNil)
/-- X(e), a value: the error at a, its dict at d -/
def tErr (C : Addr) (te : TE) : TE := fun σ H Q => te σ H fun v H1 => ∀ a d, H1 a = none → H1 d = none → d ≠ a → Q (.ref a) (upd (upd H1 d (exd d [("value", v)])) a (exo a C (some d)))
/-- o.value, o an error that is held as a value -/
def tValue (K : PySem.W.Frag) (R fI : Addr) (te : TE) : TE := fun σ H Q => te σ H fun x H1 => ∃ (a C d : Addr) (v : V), x = .ref a ∧ ErrC K R fI C ∧ H1 a = some (exo a C (some d)) ∧ H1 d = some (exd d [("value", v)]) ∧ Q v H1
theorem made_eq {H : Hp} {a d : Addr} {o1 o2 o3 o4 : HO} (ha : H a = none) (hd : d ≠ a) :
    upd (del (upd (upd (upd H a o1) d o2) a o3) a) d o4 = upd H d o4 := by
  funext b
  by_cases hbd : b = d
  · rw [hbd, upd_same, upd_same]
  · rw [upd_ne hbd, upd_ne hbd]
    by_cases hba : b = a
    · rw [hba, del_same, ha]
    · rw [del_ne hba, upd_ne hba, upd_ne hbd, upd_ne hba]
theorem made_eq2 {H : Hp} {a d : Addr} {o1 o2 o3 : HO} (hd : d ≠ a) : upd (upd (upd H a o1) d o2) a o3 = upd (upd H d o2) a o3 := by
  funext b
  by_cases hba : b = a
  · rw [hba, upd_same, upd_same]
  · rw [upd_ne hba, upd_ne hba]
    by_cases hbd : b = d
    · rw [hbd, upd_same, upd_same]
    · rw [upd_ne hbd, upd_ne hbd, upd_ne hba]
/-- what the making of an error asks -/
theorem mkE {K : PySem.W.Frag} {R fI C : Addr} {v : V} {H1 : Hp} {Q : XK} {E : XK} (TC : ErrC K R fI C) (h : ∀ d, H1 d = none → Q (.ref C) (some d) (upd H1 d (.xd [("value", v)]))) :
    [v].length ≤ 1000 ∧ ∀ a, H1 a = none → spErr K R fI (.ref a :: ([v] ++ [])) (upd H1 a (exo a C none))
      (fun v H2 => v = .non ∧ ∃ (d : Addr) (fs : List (Str × V)), H2 a = some (exo a C (some d)) ∧ H2 d = some (exd d fs) ∧ H1 d = none ∧ Q (.ref C) (some d) (upd (del H2 a) d (.xd fs))) E := by
  refine ⟨by show 1 ≤ 1000; decide, fun a ha => ⟨a, C, v, rfl, TC, upd_same, fun d hd hda => ⟨rfl, d, [("value", v)], upd_same, ?_, ?_, ?_⟩⟩⟩
  · rw [upd_ne hda, upd_same]
  · rw [upd_ne hda] at hd
    exact hd
  · rw [upd_ne hda] at hd
    rw [made_eq ha hda]
    exact h d hd
section
variable {X : Cx} {R fI C : Addr} {fd : FuncData} {e : Expr} {te : TE} {x : Str} {p pos : Pos} {k : Nat}
theorem pmk_err (T : ErrR X.prog X.K R fI fd) (TC : ErrC X.K R fI C) (hr : Room (k + 2) X.A) (hg : Gl X x) (hm : X.mg x = some (.ref C)) (he : PE X e te)
    (hdb : (x == ("__debug__" : Str)) = false := by decide) (hs : starEach [e] X.env = (false, eval e X.env) :: starEach [] X.env := by rfl) :
    PMk X (.Call (.Name x p) [e] [] pos) (tMkE X.K R fI C te) :=
  pmk_oex (p := p) (pos := pos) TC.oex TC.ini T.ty (ok_init (w := X.w) (mg := X.mg) (base := X.base) (CX := CX0) (k := k) T) hr (binds_init T) .nil
    (fun _ _ _ _ _ _ _ z => z.elim) hg hm (pa_cons he pa_nil hs) hdb hs rfl
theorem pe_err (T : ErrR X.prog X.K R fI fd) (TC : ErrC X.K R fI C) (hr : Room (k + 2) X.A) (hg : Gl X x) (hm : X.mg x = some (.ref C)) (he : PE X e te)
    (hdb : (x == ("__debug__" : Str)) = false := by decide) (hs : starEach [e] X.env = (false, eval e X.env) :: starEach [] X.env := by rfl) :
    PE X (.Call (.Name x p) [e] [] pos) (tErr C te) := by
  have ha : PA X [e] (tCons te tNil) := pa_cons he pa_nil hs
  have G : FnOk X.prog X.w X.K X.mg X.base CX0 (k + 1) fI fd ["self", "value"] (spErr X.K R fI) := ok_init T
  have hb := binds_init T
  constructor
  intro pins s σ H Q I h
  obtain ⟨nm, q, N, bs, bm, sn, sub, ab, col, dd, k0, k1, k2, k3, k5, hC, hbm⟩ := TC.oex.cls
  refine wpAny_Call_Name_kw (ld_glob I hg hm ?_ hdb)
  let W : List V → Hp → Prop := fun vs H1 => match vs with
    | [v] => ∀ a d, H1 a = none → H1 d = none → d ≠ a → Q (.ref a) (upd (upd H1 d (exd d [("value", v)])) a (exo a C (some d)))
    | _ => False
  refine PySem.W.callWith_K (h₀ := X.base) I.ok.mod.kin TC.oex.kC (thn (ha.run pos pins s σ H W I h) ?_) hs rfl
  rintro us s1 ⟨vs, H1, I1, r1, hq⟩
  match vs, us, r1, hq with
  | [v], [u], .cons rv .nil, hq =>
  refine ⟨I1.kIn, ?_⟩
  show wpAny _ _ (call (.ref C) [u]) _ _ _
  obtain ⟨hp, g, dr, tk, os⟩ := s1
  have old : ∀ b o, hp.get? b = some o → ((hp.push (PySem.W.kdv_tup [u])).push (PySem.HandSPX.excO C hp.objs.size)).get? b = some o :=
    fun b o z => Heap.get?_push_of_some _ (Heap.get?_push_of_some _ z)
  have hget : ((hp.push (PySem.W.kdv_tup [u])).push (PySem.HandSPX.excO C hp.objs.size)).get? (hp.objs.size + 1) = some (PySem.HandSPX.excO C hp.objs.size) := by heap_get
  have hn : H1 (hp.objs.size + 1) = none := I1.hok.fresh (Nat.le_succ _)
  have I2 : Inv X pins σ (upd H1 (hp.objs.size + 1) (exo (hp.objs.size + 1) C none)) ⟨(hp.push (PySem.W.kdv_tup [u])).push (PySem.HandSPX.excO C hp.objs.size), g, dr, tk, os⟩ :=
    I1.laid (t' := tk) (a := hp.objs.size + 1) (h' := (hp.push (PySem.W.kdv_tup [u])).push (PySem.HandSPX.excO C hp.objs.size)) old (Nat.le_succ _) (exo_ok hget)
  have S : spErr X.K R fI [.ref (hp.objs.size + 1), v] (upd H1 (hp.objs.size + 1) (exo (hp.objs.size + 1) C none))
      (fun z H2 => z = .non ∧ Q (.ref (hp.objs.size + 1)) H2) E0 := by
    refine ⟨_, C, v, rfl, TC, upd_same, fun d hd hda => ⟨rfl, ?_⟩⟩
    rw [upd_ne hda] at hd
    rw [made_eq2 hda]
    exact hq _ d hn hd hda
  refine wpAny_call (PySem.HandSPX.call_own F.excBase_ValueError (fun Y => PySem.HandSPX.refsVE_contains Y bm hbm) (I1.kIn _ _ hC) (PySem.W.looks_findIn I1.kIn TC.ini)
    (fun self => PySem.W.bind_fn I1.kIn self T.ty) (by rw [sizeLine_eq]; exact (by decide : 1 ≤ 16777216)) ?_)
  refine codeAny_mono (G.run _ X.stack _ _ ⟨[.ref (hp.objs.size + 1), u], []⟩ [.ref (hp.objs.size + 1), u] _ _ E0 (hr.make C [u] []) (I2.env0.make C [u] [])
    (hb _ [.ref (hp.objs.size + 1), u] I2.kIn rfl) (show Vals [V.ref (hp.objs.size + 1), v] _ from .cons rfl (.cons rv .nil)) S) ?_
  intro r s' hq'
  match r, hq' with
  | .error er, hq' => exact False.elim hq'
  | .ok .next, hq' => exact False.elim hq'
  | .ok .brk, hq' => exact False.elim hq'
  | .ok .cont, hq' => exact False.elim hq'
  | .ok (.ret z), hq' =>
    obtain ⟨v0, H2, os2, bare2, un2, hok2, r0, e0, q0⟩ := hq'
    rw [e0] at r0
    refine ⟨r0, ?_⟩
    have D := I2.after (Q := fun y H2 => Q y H2) (u := .ref (hp.objs.size + 1)) ⟨.ref (hp.objs.size + 1), H2, os2, bare2, un2, hok2, rfl, q0⟩
    exact D
theorem pe_value (T : ErrR X.prog X.K R fI fd) {o : Expr} {to : TE} (ho : PE X o to) (hb : attributeBase o "value" X.env (eval o X.env) = eval o X.env := by rfl) :
    PE X (.Attribute o "value" pos) (tValue X.K R fI to) := by
  constructor
  intro pins s σ H Q I h
  refine attr_of hb (thn (ho.run pins s σ H _ I h) ?_)
  rintro u s1 ⟨x, H1, I1, rx, a, C, d, v, rfl, TC, ea, ed, q⟩
  obtain rfl : u = Value.ref a := rx
  obtain ⟨t1, hoe⟩ := exo_at I1.hok ea
  obtain ⟨mA, hns, rel⟩ := exd_at I1.hok ed
  obtain ⟨od, hod, hl⟩ := lookIn_ns hns
  have l : List.lookup ("value" : Str) [(("value" : Str), v)] = some v := by simp [List.lookup]
  obtain ⟨u2, hu, ru⟩ := RelO.some_of (v := v) (o := mA "value") (by rw [← l]; exact rel "value")
  have J : PySem.W.InstAt s1.heap a _ C (some od) := ⟨hoe, rfl, rfl, hod⟩
  exact HandSPX.exc_get I1.kIn J TC.ga TC.gg TC.oex.exC (PySem.W.findObj_own TC.hd TC.noV rfl (by rw [hl, hu])) (handed_of ru) ⟨v, H1, I1.tok _, ru, q⟩
/-- isinstance(o, c), o an error that is held as a value -/
def rIsiE (K : PySem.W.Frag) (R fI : Addr) : List V → Hp → VK → Prop := fun xs H Q => ∃ (a C d : Addr) (c : V) (fs : List (Str × V)) (u : Value) (b : Bool), xs = [.ref a, c] ∧ ClsV c u ∧ ErrC K R fI C ∧ H a = some (exo a C (some d)) ∧ H d = some (exd d fs) ∧
  PySem.W.kitOne K (.ref C) u = some b ∧ Q (.bl b) H
theorem call_isiE (T : ErrR X.prog X.K R fI fd) : CallR X (.builtin "isinstance") (rIsiE X.K R fI) := by
  intro pins s σ H xs us Q I r h
  obtain ⟨a, C, d, c, fs, u, b, rfl, k, TC, ea, ed, e, q⟩ := h
  obtain ⟨u1, u2, rfl, r1, r2⟩ := vals2 r
  have e2 := k.eq r2
  subst e2
  obtain rfl : u1 = Value.ref a := r1
  obtain ⟨t1, hoe⟩ := exo_at I.hok ea
  obtain ⟨mA, hns, rel⟩ := exd_at I.hok ed
  obtain ⟨od, hod, hl⟩ := lookIn_ns hns
  have J : PySem.W.InstAt s.heap a _ C (some od) := ⟨hoe, rfl, rfl, hod⟩
  have hcs : (PySem.W.clsIn X.K C).isSome = true := by
    obtain ⟨cd, hc, _⟩ := PySem.W.any_some TC.hd
    rw [hc]
    rfl
  exact PySem.W.kia_one (PySem.W.kitx_exc hcs TC.ga TC.gg TC.oex.exC TC.hcl T.spc T.tak TC.hob) I.kIn J e (fun z => nomatch z) fun tk => ⟨.bl b, H, I.tok tk, rfl, q⟩
end
end Ev

namespace Ev
open PySem PySem.Spec PyProof.Rows L2
/-! ### words about heaps -/
/-- all that was tracked stands, but for the object at p -/
def KB (p : Addr) (H H' : Hp) : Prop := ∀ b o, b ≠ p → H b = some o → H' b = some o
theorem KB.refl {p : Addr} {H : Hp} : KB p H H := fun _ _ _ e => e
theorem KB.trans {p : Addr} {H H1 H2 : Hp} (a : KB p H H1) (b : KB p H1 H2) : KB p H H2 := fun c o n e => b c o n (a c o n e)
theorem KB.of_same {p : Addr} {H H' : Hp} (s : Same H H') : KB p H H' := fun b o _ e => s b o e
theorem KB.new {p q : Addr} {H : Hp} {o : HO} (h : H q = none) : KB p H (upd H q o) := fun b u _ e => by
  rw [upd_ne (ne_of_none e h)]
  exact e
theorem KB.at {p : Addr} {H : Hp} {o : HO} : KB p H (upd H p o) := fun b u n e => by
  rw [upd_ne n]
  exact e
theorem same_new {H : Hp} {p : Addr} {o : HO} (h : H p = none) : Same H (upd H p o) := fun b x e => by
  rw [upd_ne (ne_of_none e h)]
  exact e
theorem same_back {H H' : Hp} {p : Addr} (s : Same H H') (h : H' p = none) : H p = none := by
  cases e : H p with
  | none => rfl
  | some o =>
    rw [s p o e] at h
    cases h
theorem KB.same {p : Addr} {H H1 H2 : Hp} (a : Same H H1) (n : H p = none) (b : KB p H1 H2) : Same H H2 := fun c o e => b c o (ne_of_none e n) (a c o e)
theorem KB.sq {K : PySem.W.Frag} {p a : Addr} {H H' : Hp} {xs : List V} (b : KB p H H') (h : SqL K H a xs) (n : a ≠ p) : SqL K H' a xs := by
  rcases h with (h | ⟨o, h⟩) | h
  · exact .inl (.inl (b a _ n h))
  · exact .inl (.inr ⟨o, b a _ n h⟩)
  · exact .inr h
/-! ### a pot of draws: n more can be taken -/
def Pot (n : Nat) (H : Hp) (p : Addr) : Prop := ∃ o m c : Int, H p = some (.lst [.int o, .int m, .int c]) ∧ 0 ≤ o ∧ 0 ≤ m ∧ m < 2305843009213693921 ∧ 0 ≤ c ∧ c + n ≤ 1048576
theorem Pot.less {n k : Nat} {H : Hp} {p : Addr} (h : Pot n H p) (q : k ≤ n) : Pot k H p := by
  obtain ⟨o, m, c, h1, h2, h3, h4, h5, h6⟩ := h
  exact ⟨o, m, c, h1, h2, h3, h4, h5, by omega⟩
theorem Pot.keep {n : Nat} {H H' : Hp} {p : Addr} (h : Pot n H p) (s : ∀ o, H p = some o → H' p = some o) : Pot n H' p := by
  obtain ⟨o, m, c, h1, h2⟩ := h
  exact ⟨o, m, c, s _ h1, h2⟩
theorem Pot.there {n : Nat} {H : Hp} {p : Addr} (h : Pot n H p) : ∃ xs, H p = some (.lst xs) := by
  obtain ⟨o, m, c, h1, _⟩ := h
  exact ⟨_, h1⟩
theorem Pot.ne {n : Nat} {H : Hp} {p q : Addr} (h : Pot n H p) (e : H q = none) : q ≠ p := by
  obtain ⟨o, m, c, h1, _⟩ := h
  intro z
  rw [z, h1] at e
  cases e
/-- pot of a cell -/
def spPot (K : PySem.W.Frag) : Sp := fun vs H Q _ => ∃ (a : Addr) (ns : List Int) (j : Nat), vs = [.ref a, .int j] ∧ SqL K H a (ns.map V.int) ∧ j ≤ 63 ∧
  ∀ p H', H p = none → Same H H' → Pot 1048576 H' p → Q (.ref p) H'
/-- a draw below u -/
def spTake : Sp := fun vs H Q _ => ∃ (p : Addr) (n : Nat) (u : Int), vs = [.ref p, .int u] ∧ 1 ≤ u ∧ u ≤ 1000000 ∧ Pot (n + 1) H p ∧
  ∀ (d : Int) H', 0 ≤ d → d < u → KB p H H' → Pot n H' p → Q (.int d) H'
theorem op_powW {X : Cx} : OpR X (binaryOp .Pow) (rI (fun i j => 0 ≤ j ∧ (Builtin.Int.intBits i : Int) * j ≤ 2 ^ 27) fun i j => .int (i ^ j.toNat)) :=
  opI fun _ _ _ _ _ _ _ hc q => pow_int hc.1 hc.2 q
end Ev
namespace Ev
open PySem PySem.Spec PyProof.Rows L2
/-- one of some things of a list -/
def spOf (K : PySem.W.Frag) : Sp := fun vs H Q _ => ∃ (p a : Addr) (n : Nat) (xs : List V), vs = [.ref p, .ref a] ∧ a ≠ p ∧ SqL K H a xs ∧ 1 ≤ xs.length ∧ xs.length ≤ 100000 ∧ Pot (n + 1) H p ∧
  ∀ (v : V) H', v ∈ xs → KB p H H' → Pot n H' p → Q v H'
theorem at_mem {xs : List V} {d : Int} (h0 : 0 ≤ d) (h1 : d < xs.length) : ∃ v, atI xs d = some v ∧ v ∈ xs := by
  obtain ⟨j, rfl⟩ : ∃ j : Nat, d = (j : Int) := ⟨d.toNat, by omega⟩
  have hj : j < xs.length := by omega
  exact ⟨xs[j], atI_nat (List.getElem?_eq_getElem hj), List.getElem_mem hj⟩
end Ev

namespace Ev
open PySem PySem.Spec PyProof.Rows L2
/-! ### data stands where the heap stands -/
mutual
theorem Rp.mono {K : PySem.W.Frag} {H H' : Hp} (s : Same H H') : ∀ {v : V} {d : PyData}, Rp K H v d → Rp K H' v d
  | _, _, .non => .non
  | _, _, .bl b => .bl b
  | _, _, .int i => .int i
  | _, _, .str x => .str x
  | _, _, .lst h a => .lst (s.seq h) (RpAll.mono s a)
  | _, _, .tup h a => .tup (by
      rcases h with (h | ⟨o, h⟩) | h
      · exact .inl (.inl (s _ _ h))
      · exact .inl (.inr ⟨o, s _ _ h⟩)
      · exact .inr h) (RpAll.mono s a)
  | _, _, .dct h a => .dct (s _ _ h) (RpKv.mono s a)
theorem RpAll.mono {K : PySem.W.Frag} {H H' : Hp} (s : Same H H') : ∀ {vs : List V} {ds : List PyData}, RpAll K H vs ds → RpAll K H' vs ds
  | _, _, .nil => .nil
  | _, _, .cons h a => .cons (Rp.mono s h) (RpAll.mono s a)
theorem RpKv.mono {K : PySem.W.Frag} {H H' : Hp} (s : Same H H') : ∀ {kvs : List (Key × V)} {es : List (PyData × PyData)}, RpKv K H kvs es → RpKv K H' kvs es
  | _, _, .nil => .nil
  | _, _, .cons h a => .cons (Rp.mono s h) (RpKv.mono s a)
end
theorem del_same_of {H : Hp} {p : Addr} : Same (del H p) H := fun b o e => by
  by_cases z : b = p
  · rw [z, del_same] at e
    cases e
  · rw [del_ne z] at e
    exact e
theorem KB.del {p : Addr} {H H' : Hp} (k : KB p H H') : Same (del H p) (del H' p) := fun b o e => by
  by_cases z : b = p
  · rw [z, del_same] at e
    cases e
  · rw [del_ne z] at e ⊢
    exact k b o z e
theorem del_at {H : Hp} {p a : Addr} {o : HO} (h : H a = some o) (n : a ≠ p) : del H p a = some o := by
  rw [del_ne n]
  exact h
theorem seqT {K : PySem.W.Frag} {H : Hp} {a : Addr} {xs : List V} (h : H a = some (.tup xs)) : SqT K H a xs := .inl (.inl h)
theorem seqL {K : PySem.W.Frag} {H : Hp} {a : Addr} {xs : List V} (h : H a = some (.lst xs)) : SqL K H a xs := .inl (.inl h)
/-! ### data whose text is short -/
structure Nice (d : PyData) (k : Nat) : Prop where
  show_ : d.showable = true
  deep : d.depth ≤ k + 2
  short : d.shown.length ≤ 40 + 20 * k
theorem Nice.tup1 {d : PyData} {k : Nat} (h : Nice d k) : Nice (.tuple [d]) (k + 1) := by
  obtain ⟨h1, h2, h3⟩ := h
  refine ⟨?_, ?_, ?_⟩
  · simp only [PyData.showable, PyData.showableAll, h1, Bool.and_true]
  · simp only [PyData.depth, PyData.depthAll]
    omega
  · have z := tupleText_len_le [d.shown]
    simp only [List.map_cons, List.map_nil, List.sum_cons, List.sum_nil, List.length_cons, List.length_nil] at z
    show (tupleText (PyData.shownAll [d])).length ≤ _
    simp only [PyData.shownAll]
    omega
theorem Nice.lst1 {d : PyData} {k : Nat} (h : Nice d k) : Nice (.list [d]) (k + 1) := by
  obtain ⟨h1, h2, h3⟩ := h
  refine ⟨?_, ?_, ?_⟩
  · simp only [PyData.showable, PyData.showableAll, h1, Bool.and_true]
  · simp only [PyData.depth, PyData.depthAll]
    omega
  · have z := listText_len_le [d.shown]
    simp only [List.map_cons, List.map_nil, List.sum_cons, List.sum_nil, List.length_cons, List.length_nil] at z
    show (listText (PyData.shownAll [d])).length ≤ _
    simp only [PyData.shownAll]
    omega
theorem Nice.tup2 {d : PyData} {k : Nat} (h : Nice d k) : Nice (.tuple [d, .int 1]) (k + 1) := by
  obtain ⟨h1, h2, h3⟩ := h
  refine ⟨?_, ?_, ?_⟩
  · simp only [PyData.showable, PyData.showableAll, h1, Bool.and_true]
    decide +kernel
  · simp only [PyData.depth, PyData.depthAll]
    omega
  · have z := tupleText_len_le [d.shown, PyData.shown (.int 1)]
    have e : (PyData.shown (.int 1)).length = 1 := by decide +kernel
    simp only [List.map_cons, List.map_nil, List.sum_cons, List.sum_nil, List.length_cons, List.length_nil] at z
    show (tupleText (PyData.shownAll [d, .int 1])).length ≤ _
    simp only [PyData.shownAll]
    omega
theorem Nice.dct1 {d : PyData} {k : Nat} (h : Nice d k) : Nice (.dict [(.str "k", d)]) (k + 1) := by
  obtain ⟨h1, h2, h3⟩ := h
  refine ⟨?_, ?_, ?_⟩
  · simp only [PyData.showable, PyData.showableKv, h1, Bool.and_true]
  · simp only [PyData.depth, PyData.depthKv]
    omega
  · have e : (PyData.shown (.str "k")).length = 3 := by decide +kernel
    have z := dictText_len_le [PyData.shown (.str "k") ++ ": " ++ d.shown]
    simp only [List.map_cons, List.map_nil, List.sum_cons, List.sum_nil, List.length_cons, List.length_nil, Str.length_append] at z
    have e2 : ((": " : String) : Str).length = 2 := by decide +kernel
    show (dictText (PyData.shownKv [(.str "k", d)])).length ≤ _
    simp only [PyData.shownKv]
    rw [e, e2] at z
    omega
/-- any value, drawn -/
def spAny (K : PySem.W.Frag) : Sp := fun vs H Q _ => ∃ (p : Addr) (n : Nat), vs = [.ref p] ∧ Pot (n + 40) H p ∧
  ∀ v d H', KB p H H' → Pot n H' p → Rp K (del H' p) v d → Nice d 20 → Q v H'
end Ev
namespace Ev
open PySem PySem.Spec PyProof.Rows L2
theorem Nice.more {d : PyData} {i k : Nat} (h : Nice d i) (l : i ≤ k) : Nice d k := by
  obtain ⟨h1, h2, h3⟩ := h
  exact ⟨h1, by omega, by omega⟩
theorem ne_at {H : Hp} {a p : Addr} {o u : HO} (ha : H a = some o) (hp : H p = some u) (h : o ≠ u) : a ≠ p := fun z => by
  rw [z, hp] at ha
  exact h (Option.some.inj ha).symm
theorem Pot.ne_tup {n : Nat} {H : Hp} {p a : Addr} {xs : List V} (h : Pot n H p) (e : H a = some (.tup xs)) : a ≠ p := by
  obtain ⟨o, m, c, h1, _⟩ := h
  exact ne_at e h1 (fun z => by cases z)
theorem same_dup {H : Hp} {p : Addr} {o u : HO} (h : H p = none) : Same H (upd (upd H p o) p u) := fun b x e => by
  rw [upd_ne (ne_of_none e h), upd_ne (ne_of_none e h)]
  exact e
end Ev

namespace Ev
open PySem PySem.Spec PyProof.Rows L2
/-! ### lists of errors -/
/-- an error of the class at C that keeps v -/
def ErrAt (H : Hp) (v : V) (C : Addr) (x : V) : Prop := ∃ a d, x = .ref a ∧ H a = some (exo a C (some d)) ∧ H d = some (exd d [("value", v)])
theorem ErrAt.mono {H H' : Hp} {v x : V} {C : Addr} (s : Same H H') (h : ErrAt H v C x) : ErrAt H' v C x := by
  obtain ⟨a, d, h1, h2, h3⟩ := h
  exact ⟨a, d, h1, s _ _ h2, s _ _ h3⟩
abbrev ErrsAt (H : Hp) (v : V) : List Addr → List V → Prop := Paired (ErrAt H v)
theorem ErrsAt.mono {H H' : Hp} {v : V} (s : Same H H') : ∀ {Cs : List Addr} {xs : List V}, ErrsAt H v Cs xs → ErrsAt H' v Cs xs
  | _, _, .nil => .nil
  | _, _, .cons h t => .cons (h.mono s) (ErrsAt.mono s t)
theorem ErrsAt.app {H : Hp} {v : V} : ∀ {Cs Ds : List Addr} {xs ys : List V}, ErrsAt H v Cs xs → ErrsAt H v Ds ys → ErrsAt H v (Cs ++ Ds) (xs ++ ys)
  | _, _, _, _, .nil, b => b
  | _, _, _, _, .cons h t, b => .cons h (ErrsAt.app t b)
theorem ErrsAt.len {H : Hp} {v : V} {Cs : List Addr} {xs : List V} (h : ErrsAt H v Cs xs) : xs.length = Cs.length := (Paired.length h).symm
theorem ErrsAt.get {H : Hp} {v : V} : ∀ {Cs : List Addr} {xs : List V} {i : Nat} {x : V}, ErrsAt H v Cs xs → xs[i]? = some x → ∃ C, Cs[i]? = some C ∧ ErrAt H v C x
  | _, _, i, _, .nil, e => by simp at e
  | _, _, 0, _, .cons h _, e => by
    simp at e
    subst e
    exact ⟨_, rfl, h⟩
  | _, _, i + 1, x, .cons _ t, e => by
    obtain ⟨C, h1, h2⟩ := ErrsAt.get (i := i) (x := x) t (by simpa using e)
    exact ⟨C, by simpa using h1, h2⟩
def tErrs : List Addr → TA
  | [] => tNil
  | C :: r => tCons (tErr C (tVar 0)) (tErrs r)
theorem errs_read {v : V} {σ : L2.St} (hv : σ[0]? = some (some v)) : ∀ (Cs : List Addr) (H : Hp) (Q : List V → Hp → Prop), (∀ xs H', Same H H' → ErrsAt H' v Cs xs → Q xs H') → tErrs Cs σ H Q
  | [], H, Q, q => q [] H (fun _ _ e => e) .nil
  | C :: r, H, Q, q => by
    refine ⟨v, hv, fun a d na nd hne => ?_⟩
    have s1 : Same H (upd (upd H d (exd d [("value", v)])) a (exo a C (some d))) := fun b o e => by
      rw [upd_ne (ne_of_none e na), upd_ne (ne_of_none e nd)]
      exact e
    refine errs_read hv r _ _ fun xs H' s2 hx => ?_
    refine q (.ref a :: xs) H' (s1.trans s2) (.cons ⟨a, d, rfl, s2 _ _ upd_same, s2 _ _ ?_⟩ hx)
    rw [upd_ne hne, upd_same]
/-- a list of errors is made, the i-th of the class at Cs[i] -/
def spMade (Cs : List Addr) : Sp := fun vs H Q _ => ∃ v, vs = [v] ∧ ∀ l xs H', Same H H' → H l = none → H' l = some (.lst xs) → ErrsAt H' v Cs xs → Q (.ref l) H'
/-! ### of which classes an error is -/
def tIs (K : PySem.W.Frag) (R fI : Addr) : List Addr → TA
  | [] => tNil
  | C :: r => tCons (tCB (rIsiE K R fI) (tCons (tVar 0) (tCons (tC (.ref C)) tNil))) (tIs K R fI r)
theorem is_read {K : PySem.W.Frag} {R fI C : Addr} {v x : V} {σ : L2.St} {H : Hp} (hx : σ[0]? = some (some x)) (TC : ErrC K R fI C) (h : ErrAt H v C x) :
    ∀ (Ds : List Addr) (bs : List Bool), Paired (fun D b => PySem.W.kitOne K (.ref C) (.ref D) = some b) Ds bs → ∀ Q : List V → Hp → Prop, Q (bs.map V.bl) H → tIs K R fI Ds σ H Q
  | _, _, .nil, Q, q => q
  | _, _, .cons (a := D) (b := b) h1 t, Q, q => by
    obtain ⟨a, d, rfl, h2, h3⟩ := h
    refine ⟨_, hx, a, C, d, _, _, _, b, rfl, .own D, TC, h2, h3, h1, ?_⟩
    exact is_read hx TC ⟨a, d, rfl, h2, h3⟩ _ _ t _ q
end Ev
namespace Ev
open PySem PySem.Spec PyProof.Rows L2
theorem lst_step {v : V} {σ : L2.St} {H : Hp} {Ds : List Addr} {Q : VK} (hv : σ[0]? = some (some v)) (hz : Ds.length ≤ 1000)
    (q : ∀ l xs H', Same H H' → H l = none → H' l = some (.lst xs) → ErrsAt H' v Ds xs → Q (.ref l) H') : tLst (tErrs Ds) σ H Q := by
  refine errs_read hv Ds H _ fun xs H1 s1 hx => ⟨?_, fun l nl => ?_⟩
  · rw [hx.len]
    exact Nat.le_trans hz (by decide)
  · exact q l xs _ (s1.trans (same_new nl)) (same_back s1 nl) upd_same (hx.mono (same_new nl))
theorem cat_step {v : V} {σ : L2.St} {H : Hp} {l : Addr} {xs : List V} {Cs Ds : List Addr} {Q : VK} (hv : σ[0]? = some (some v)) (hl : σ[1]? = some (some (.ref l)))
    (hx : H l = some (.lst xs)) (he : ErrsAt H v Cs xs) (hz : Cs.length + Ds.length ≤ 1000)
    (q : ∀ l' xs' H', Same H H' → H l' = none → H' l' = some (.lst xs') → ErrsAt H' v (Cs ++ Ds) xs' → Q (.ref l') H') : tOp rCat (tVar 1) (tLst (tErrs Ds)) σ H Q := by
  refine ⟨_, hl, ?_⟩
  refine lst_step hv (by omega) fun b ys H1 s1 nb hb hy => ?_
  refine ⟨l, b, xs, ys, rfl, rfl, s1 _ _ hx, hb, ?_, fun p np => ?_⟩
  · rw [he.len, hy.len]
    exact Nat.le_trans hz (by decide)
  · exact q p _ _ (s1.trans (same_new np)) (same_back s1 np) upd_same (((he.mono s1).app hy).mono (same_new np))
/-- the marks of an error of the i-th class -/
def spMarks (C : Nat → Addr) : Sp := fun vs H Q _ => ∃ (i : Nat) (v x : V), vs = [x] ∧ i < 28 ∧ ErrAt H v (C i) x ∧
  ∀ l H', Same H H' → H l = none → H' l = some (.lst (((List.range' 0 28).map fun j => decide (j = i)).map V.bl)) → Q (.ref l) H'
theorem is_lst {K : PySem.W.Frag} {R fI C : Addr} {v x : V} {σ : L2.St} {H : Hp} {Ds : List Addr} {bs : List Bool} {Q : VK} (hx : σ[0]? = some (some x)) (TC : ErrC K R fI C) (h : ErrAt H v C x)
    (p : Paired (fun D b => PySem.W.kitOne K (.ref C) (.ref D) = some b) Ds bs) (hz : bs.length ≤ 1000)
    (q : ∀ l H', Same H H' → H l = none → H' l = some (.lst (bs.map V.bl)) → Q (.ref l) H') : tLst (tIs K R fI Ds) σ H Q := by
  refine is_read hx TC h Ds bs p _ ⟨?_, fun l nl => q l _ (same_new nl) nl upd_same⟩
  rw [List.length_map]
  exact Nat.le_trans hz (by decide)
theorem is_cat {K : PySem.W.Frag} {R fI C l : Addr} {v x : V} {σ : L2.St} {H : Hp} {Ds : List Addr} {as bs : List Bool} {Q : VK} (hx : σ[0]? = some (some x)) (hl : σ[1]? = some (some (.ref l)))
    (ha : H l = some (.lst (as.map V.bl))) (TC : ErrC K R fI C) (h : ErrAt H v C x) (p : Paired (fun D b => PySem.W.kitOne K (.ref C) (.ref D) = some b) Ds bs) (hz : as.length + bs.length ≤ 1000)
    (q : ∀ l' H', Same H H' → H l' = none → H' l' = some (.lst ((as ++ bs).map V.bl)) → Q (.ref l') H') : tOp rCat (tVar 1) (tLst (tIs K R fI Ds)) σ H Q := by
  refine ⟨_, hl, is_lst hx TC h p (by omega) fun b H1 s1 nb hb => ?_⟩
  refine ⟨l, b, _, _, rfl, rfl, s1 _ _ ha, hb, ?_, fun p np => ?_⟩
  · rw [List.length_map, List.length_map]
    exact Nat.le_trans hz (by decide)
  · rw [← List.map_append]
    exact q p _ (s1.trans (same_new np)) (same_back s1 np) upd_same
theorem kit_pair {K : PySem.W.Frag} {C : Nat → Addr} {i : Nat} (h : ∀ j, j < 28 → PySem.W.kitOne K (.ref (C i)) (.ref (C j)) = some (decide (j = i))) :
    ∀ (n a : Nat), a + n ≤ 28 → Paired (fun D b => PySem.W.kitOne K (.ref (C i)) (.ref D) = some b) ((List.range' a n).map C) ((List.range' a n).map fun j => decide (j = i))
  | 0, _, _ => .nil
  | n + 1, a, l => .cons (h a (by omega)) (kit_pair h n (a + 1) (by omega))
end Ev
namespace Ev
open PySem PySem.Spec PyProof.Rows L2
theorem bt_isinstance : bootBuiltins "isinstance" = some (.builtin "isinstance") := by decide +kernel
/-- isinstance(e, X), e an error that is held as a value, X an own class -/
theorem pe_isE {X : Cx} {R fI C : Addr} {fd : FuncData} {a x : Str} {p1 p2 p3 pos : Pos} {te : TE} (T : ErrR X.prog X.K R fI fd) (hg : Gl X "isinstance") (hm : X.mg "isinstance" = none) (he : PE X (.Name a p2) te)
    (hx : Gl X x) (gx : X.mg x = some (.ref C)) (hd : (x == ("__debug__" : Str)) = false := by decide) :
    PE X (.Call (.Name "isinstance" p1) [.Name a p2, .Name x p3] [] pos) (tCB (rIsiE X.K R fI) (tCons te (tCons (tC (.ref C)) tNil))) :=
  pe_callB (call_isiE T) hg hm bt_isinstance (pa_cons he (pa_cons (pe_glob (v := .ref C) hx gx rfl hd) pa_nil))
end Ev
namespace Ev
open PySem PySem.Spec PyProof.Rows L2
section
variable {v x : V} {σ : L2.St} {H : Hp} {u : TS} {D : Ends} {ta : TA} {Ds Es : List Addr} {l : Addr} {xs : List V} {K : PySem.W.Frag} {R fI C : Addr} {as bs : List Bool}
theorem st_lst (he : ta = tErrs Ds) (hv : σ[0]? = some (some v)) (hz : Ds.length ≤ 1000)
    (q : ∀ l xs H', Same H H' → H l = none → H' l = some (.lst xs) → ErrsAt H' v Ds xs → u D (σ.set 1 (some (.ref l))) H') : tSeq (tAsg (tLst ta) (gName 1)) u D σ H := by
  subst he
  exact lst_step (Q := fun y H1 => u D (σ.set 1 (some y)) H1) hv hz q
theorem st_cat (he : ta = tErrs Ds) (hv : σ[0]? = some (some v)) (hl : σ[1]? = some (some (.ref l))) (hx : H l = some (.lst xs)) (hp : ErrsAt H v Es xs) (hz : Es.length + Ds.length ≤ 1000)
    (q : ∀ l' xs' H', Same H H' → H l' = none → H' l' = some (.lst xs') → ErrsAt H' v (Es ++ Ds) xs' → u D (σ.set 1 (some (.ref l'))) H') : tSeq (tAsg (tOp rCat (tVar 1) (tLst ta)) (gName 1)) u D σ H := by
  subst he
  exact cat_step (Q := fun y H1 => u D (σ.set 1 (some y)) H1) hv hl hx hp hz q
theorem st_ret (he : ta = tErrs Ds) (hv : σ[0]? = some (some v)) (hl : σ[1]? = some (some (.ref l))) (hx : H l = some (.lst xs)) (hp : ErrsAt H v Es xs) (hz : Es.length + Ds.length ≤ 1000)
    (q : ∀ l' xs' H', Same H H' → H l' = none → H' l' = some (.lst xs') → ErrsAt H' v (Es ++ Ds) xs' → D.rt (.ref l') H') : tRet (tOp rCat (tVar 1) (tLst ta)) D σ H := by
  subst he
  exact cat_step (Q := D.rt) hv hl hx hp hz q
theorem si_lst (he : ta = tIs K R fI Ds) (hx : σ[0]? = some (some x)) (TC : ErrC K R fI C) (h : ErrAt H v C x) (p : Paired (fun D b => PySem.W.kitOne K (.ref C) (.ref D) = some b) Ds bs) (hz : bs.length ≤ 1000)
    (q : ∀ l H', Same H H' → H l = none → H' l = some (.lst (bs.map V.bl)) → u D (σ.set 1 (some (.ref l))) H') : tSeq (tAsg (tLst ta) (gName 1)) u D σ H := by
  subst he
  exact is_lst (Q := fun y H1 => u D (σ.set 1 (some y)) H1) hx TC h p hz q
theorem si_cat (he : ta = tIs K R fI Ds) (hx : σ[0]? = some (some x)) (hl : σ[1]? = some (some (.ref l))) (ha : H l = some (.lst (as.map V.bl))) (TC : ErrC K R fI C) (h : ErrAt H v C x)
    (p : Paired (fun D b => PySem.W.kitOne K (.ref C) (.ref D) = some b) Ds bs) (hz : as.length + bs.length ≤ 1000)
    (q : ∀ l' H', Same H H' → H l' = none → H' l' = some (.lst ((as ++ bs).map V.bl)) → u D (σ.set 1 (some (.ref l'))) H') : tSeq (tAsg (tOp rCat (tVar 1) (tLst ta)) (gName 1)) u D σ H := by
  subst he
  exact is_cat (Q := fun y H1 => u D (σ.set 1 (some y)) H1) hx hl ha TC h p hz q
theorem si_ret (he : ta = tIs K R fI Ds) (hx : σ[0]? = some (some x)) (hl : σ[1]? = some (some (.ref l))) (ha : H l = some (.lst (as.map V.bl))) (TC : ErrC K R fI C) (h : ErrAt H v C x)
    (p : Paired (fun D b => PySem.W.kitOne K (.ref C) (.ref D) = some b) Ds bs) (hz : as.length + bs.length ≤ 1000)
    (q : ∀ l' H', Same H H' → H l' = none → H' l' = some (.lst ((as ++ bs).map V.bl)) → D.rt (.ref l') H') : tRet (tOp rCat (tVar 1) (tLst ta)) D σ H := by
  subst he
  exact is_cat (Q := D.rt) hx hl ha TC h p hz q
end
end Ev

namespace Ev
open PySem PySem.Spec PyProof.Rows L2
/-- for i, x in enumerate(list) -/
theorem for_enum {K : PySem.W.Frag} {a : Addr} {xs : List V} {g : TG} {tb : TS} {D : Ends} {σ : L2.St} {H : Hp} (Pv : Nat → L2.St → Hp → Prop) (h0 : Pv 0 σ H)
    (hl : ∀ i σ H, i ≤ xs.length → Pv i σ H → SqL K H a xs)
    (hs : ∀ i x σ H T, xs[i]? = some x → Pv i σ H → H T = none → g (.ref T) σ (upd H T (.tup [.int (i : Nat), x])) fun σ2 H2 => tb { D with nx := Pv (i + 1), ct := Pv (i + 1), bk := D.nx } σ2 H2)
    (hd : ∀ σ H, Pv xs.length σ H → D.nx σ H) :
    ∃ W : Nat → Nat → L2.St → Hp → Prop, (∃ m, W 0 m σ H) ∧ ∀ i m σ H, W i m σ H →
      ((Ite K a).stop i H ∧ D.nx σ H) ∨ ((Ite K a).go i H ∧ ∃ N : L2.St → Hp → Prop, (∀ σ' H', N σ' H' → ∃ m', m' < m ∧ W (i + 1) m' σ' H') ∧
        ∀ x H', (Ite K a).yld i H x H' → g x σ H' fun σ2 H2 => tb { D with nx := N, ct := N, bk := D.nx } σ2 H2) := by
  refine ⟨fun i m σ H => m = xs.length - i ∧ i ≤ xs.length ∧ Pv i σ H, ⟨xs.length, by simp, Nat.zero_le _, h0⟩, ?_⟩
  rintro i m σ H ⟨rfl, hi, p⟩
  have S := hl i σ H hi p
  by_cases hlt : i < xs.length
  · refine .inr ⟨⟨xs, xs[i], S, List.getElem?_eq_getElem hlt⟩, Pv (i + 1), fun σ' H' p' => ⟨xs.length - (i + 1), by omega, rfl, hlt, p'⟩, ?_⟩
    rintro x H' ⟨T, y, rfl, nT, rfl, f⟩
    exact hs i y σ H T (f xs S) p nT
  · have e : i = xs.length := by omega
    subst e
    exact .inl ⟨⟨xs, S, Nat.le_refl _⟩, hd σ H p⟩
/-- lists of bools as data -/
theorem dp_bools {K : PySem.W.Frag} {H : Hp} : ∀ bs : List Bool, DpAll K H (bs.map V.bl) (bs.map PyData.bool)
  | [] => .nil
  | b :: r => .cons (.bl b) (dp_bools r)
theorem lay_bools : ∀ bs : List Bool, PyData.canLayAll0 (bs.map PyData.bool) = true
  | [] => rfl
  | b :: r => by
    show (PyData.canLay0 (.bool b) && PyData.canLayAll0 (r.map PyData.bool)) = true
    rw [lay_bools r]
    rfl
theorem deep_bools : ∀ bs : List Bool, PyData.depthAll (bs.map PyData.bool) = 0
  | [] => rfl
  | b :: r => by
    show max (PyData.depth (.bool b)) (PyData.depthAll (r.map PyData.bool)) = 0
    rw [deep_bools r]
    rfl
theorem shaped_bools (bs : List Bool) : SeqAt.shaped (.list (bs.map PyData.bool)) = true := by
  unfold SeqAt.shaped
  have e : PyData.depth (.list (bs.map PyData.bool)) = 1 := by
    show PyData.depthAll (bs.map PyData.bool) + 1 = 1
    rw [deep_bools]
  rw [e]
  show (PyData.canLayAll0 (bs.map PyData.bool) && _) = true
  rw [lay_bools]
  rfl
/-- the law -/
def spTrue (K : PySem.W.Frag) : Sp := fun vs H Q _ => ∃ (a : Addr) (ns : List Int), vs = [.ref a] ∧ SqL K H a (ns.map V.int) ∧ ns.length ≤ 63 ∧ ∀ H', Q (.bl true) H'
end Ev

namespace Ev
open PySem PySem.Spec PyProof.Rows L2 He
/-! ### what the head is asked: defs, errors' classes, names that are free -/
def sysB (K : PySem.W.Frag) : Bool := match K.lookup sysModules with
  | some o => decide (o.cls = .type "dict")
  | none => false
theorem sysB_ok {K : PySem.W.Frag} (h : sysB K = true) : SysIn K := by
  unfold sysB at h
  cases q : K.lookup sysModules with
  | none =>
    rw [q] at h
    cases h
  | some o =>
    rw [q] at h
    exact ⟨o, q, of_decide_eq_true h⟩
abbrev aR (K : PySem.W.Frag) : Addr := ga K "RunError"
abbrev aI (K : PySem.W.Frag) : Addr := ma K (aR K) "__init__"
def clsB (K : PySem.W.Frag) (C : Addr) : Bool := match K.lookup C with
  | some ⟨.type t, _, .cls cd, sl⟩ => decide (t = "type") && (match cd.mro, sl.toList with
    | .ref C' :: bm, [_, _, _, _, some (.builtin n), _] => decide (C' = C) && (decide (n = "ValueError.__new__") && (cd.hasDict && (!cd.hasDel && HandSPX.refsVE bm)))
    | _, _ => false)
  | _ => false
theorem clsB_ok {K : PySem.W.Frag} {C : Addr} (h : clsB K C = true) : ∃ nm q N bs bm sn sub ab col dd k0 k1 k2 k3 k5,
    K.lookup C = some (excClassObj nm q C N bs bm true sn sub ab col dd k0 k1 k2 k3 k5 "ValueError.__new__") ∧ PySem.HandSPX.refsVE bm = true := by
  unfold clsB at h
  split at h
  · rename_i t dd cd sl hk
    obtain ⟨ht, h⟩ := ba h
    split at h
    · rename_i C' bm k0 k1 k2 k3 n k5 hm hs
      obtain ⟨h1, h⟩ := ba h
      obtain ⟨h2, h⟩ := ba h
      obtain ⟨h3, h⟩ := ba h
      obtain ⟨h4, h5⟩ := ba h
      obtain rfl := of_decide_eq_true h1
      obtain rfl := of_decide_eq_true h2
      obtain rfl := of_decide_eq_true ht
      obtain ⟨nm, bs, mro, ns, qn, hd, sn, sb, ab, col, del⟩ := cd
      dsimp only at hm h3 h4
      subst hm
      subst h3
      have h4' : del = false := by simpa using h4
      subst h4'
      obtain ⟨l⟩ := sl
      dsimp only at hs
      subst hs
      exact ⟨nm, qn, ns, bs, bm, sn, sb, ab, col, dd, k0, k1, k2, k3, k5, hk, h5⟩
    · cases h
  · cases h
def eqB (a b : Option Bool) : Bool := decide (a = b)
theorem eqB_ok {a b : Option Bool} (h : eqB a b = true) : a = b := of_decide_eq_true h
def eqV1 (a b : Option Value) : Bool := decide (a = b)
theorem eqV1_ok {a b : Option Value} (h : eqV1 a b = true) : a = b := of_decide_eq_true h
/-- of the class called x -/
def errB (K : PySem.W.Frag) (x : Str) : Bool :=
  clsB K (ga K x) && (eqO (PySem.W.nsIn K mainGlobals x) (some (some (.ref (ga K x)))) && (eqO (PySem.W.findIn K (.ref (ga K x)) "__setattr__") (some (some (.builtin "object.__setattr__"))) &&
  (eqB (PySem.W.subIn K (.ref (ga K x)) (.type "BaseException")) (some true) && (eqV1 (PySem.W.typeIn K (.ref (ga K x))) (some (.type "type")) && (PySem.W.keepIn K (.ref (ga K x)) &&
  (eqO (PySem.W.findIn K (.ref (ga K x)) "__init__") (some (some (.ref (aI K)))) && (eqO (PySem.W.findIn K (.ref (ga K x)) "value") (some none) && (eqB (PySem.W.mroIn K (ga K x) (.ref (aR K))) (some true) &&
  (eqO (PySem.W.ks_superIn K (ga K x) (aR K) "__init__") (some (some (.builtin "ValueError.__init__"))) && (eqB (PySem.W.subIn K (.ref (ga K x)) (.type "ValueError")) (some true) &&
  (eqO (PySem.W.findIn K (.ref (ga K x)) "__getattribute__") (some (some (.builtin "BaseException.__getattribute__"))) && (eqO (PySem.W.findIn K (.ref (ga K x)) "__getattr__") (some none) &&
  (PySem.W.hasDictIn K (ga K x) && (eqO (PySem.W.findIn K (.ref (ga K x)) "__class__") (some (some (.builtin "object.__class__"))) && eqB (PySem.W.mroIn K (ga K x) (.type "object")) (some true)))))))))))))))
theorem errB_ok {K : PySem.W.Frag} {x : Str} (h : errB K x = true) : ErrC K (aR K) (aI K) (ga K x) ∧ PySem.W.nsIn K mainGlobals x = some (some (.ref (ga K x))) := by
  obtain ⟨h1, h⟩ := ba h
  obtain ⟨h2, h⟩ := ba h
  obtain ⟨h3, h⟩ := ba h
  obtain ⟨h4, h⟩ := ba h
  obtain ⟨h5, h⟩ := ba h
  obtain ⟨h6, h⟩ := ba h
  obtain ⟨h7, h⟩ := ba h
  obtain ⟨h8, h⟩ := ba h
  obtain ⟨h9, h⟩ := ba h
  obtain ⟨h10, h⟩ := ba h
  obtain ⟨h11, h⟩ := ba h
  obtain ⟨h12, h⟩ := ba h
  obtain ⟨h13, h⟩ := ba h
  obtain ⟨h14, h⟩ := ba h
  obtain ⟨h15, h16⟩ := ba h
  exact ⟨⟨⟨clsB_ok h1, eqO_ok h3, eqB_ok h4, eqV1_ok h5, h6⟩, eqO_ok h7, eqO_ok h8, eqB_ok h9, eqO_ok h10, eqB_ok h11, eqO_ok h12, eqO_ok h13, h14, eqO_ok h15, eqB_ok h16⟩, eqO_ok h2⟩
/-! ### RunError's own __init__ -/
abbrev FnI : Type := Option (Str × Str × Arguments × FuncBody × Scope × Addr × List Str × Value × Value × Addr)
def initObs (K : PySem.W.Frag) : FnI := match K.lookup (aI K) with
  | some ⟨_, _, .func fd, _⟩ => some (fd.name, fd.qualname, fd.params, fd.body, fd.scope, fd.globals, fd.closure.map (·.1), fd.defaults, fd.kwdefaults, fd.builtins)
  | _ => none
def initVal (p1 p2 : Pos) (q : Nat → Pos) : FnI := some ("__init__", "RunError.__init__", iArgs p1 p2, .stmts (iBody q), iScope, mainGlobals, ["__class__"], .none, .none, builtinsNs)
def cellB (K : PySem.W.Frag) : Value → Bool
  | .ref R => decide (R = aR K)
  | _ => false
def errRB (file : Str) (K : PySem.W.Frag) : Bool := (match K.lookup (aI K) with
    | some ⟨_, _, .func fd, _⟩ => (match fd.code, fd.closure with
      | .ref cda, [(_, cc)] => PySem.W.codeIn K (.ref cda) "RunError.__init__" && ((match K.lookup cda with
          | some ⟨_, _, .fields vs, _⟩ => (match (vs[2]? : Option Value) with
            | some (Value.str f _) => file == f
            | _ => false)
          | _ => false) && (match K.lookup cc with
          | some ⟨_, _, .cell (some v), _⟩ => cellB K v
          | _ => false))
      | _, _ => false)
    | _ => false) &&
  ((PySem.W.clsIn K (aR K)).isSome && (eqO (PySem.W.nsIn K mainGlobals "super") (some none) && (eqO (PySem.W.nsIn K cStatics "thirdparty.any") (some none) && (eqV1 (PySem.W.typeIn K (.ref (aI K))) (some (.type "function")) &&
  (eqO (PySem.W.specialIn K (.builtin "object.__class__") "__get__") (some (some (.builtin "getset_descriptor.__get__"))) && eqB (PySem.W.takesIn K (.builtin "object.__class__")) (some true))))))
theorem errRB_ok {P : Program} {K : PySem.W.Frag} {p1 p2 : Pos} {q : Nat → Pos} (hq : ((q 2).endLine == (q 4).line) = true) (ht : (P.main.scope.names.lookup ("super" : Str)).isSome = false)
    (e : initObs K = initVal p1 p2 q) (h : errRB P.main.file K = true) : ∃ fd, ErrR P K (aR K) (aI K) fd := by
  obtain ⟨h1, h⟩ := ba h
  obtain ⟨h2, h⟩ := ba h
  obtain ⟨h3, h⟩ := ba h
  obtain ⟨h4, h⟩ := ba h
  obtain ⟨h5, h⟩ := ba h
  obtain ⟨h6, h7⟩ := ba h
  unfold initObs at e
  split at h1
  · rename_i oc od fd osl hk
    rw [hk] at e
    split at h1
    · rename_i cda xn cc hcd hcl
      obtain ⟨j1, j⟩ := ba h1
      obtain ⟨j2, j3⟩ := ba j
      split at j2
      · rename_i ccl cdd vs ccs hvk
        split at j2
        · rename_i fl tf hvf
          split at j3
          · rename_i cl cld v csl hcc
            obtain ⟨n1, n2, n3, n4, n5, n6, n7, n8, n9, n10, n11, n12, n13, n14, n15⟩ := fd
            have e2 : (some (n1, n2, n3, n4, n5, n6, n7.map (·.1), n8, n9, n15) : FnI) = initVal p1 p2 q := e
            unfold initVal at e2
            simp only [Option.some.injEq, Prod.mk.injEq] at e2
            obtain ⟨e1, e2, e3, e4, e5, e6, e7, e8, e9, e10⟩ := e2
            dsimp only at hcd hcl
            subst e1 e2 e3 e4 e5 e6 e8 e9 e10 hcd hcl
            have e7' : xn = "__class__" := by
              simpa using e7
            subst e7'
            cases v with
            | ref R =>
              have er : R = aR K := of_decide_eq_true j3
              subst er
              exact ⟨_, ⟨oc, od, n10, n11, n12, cda, n14, cc, osl, p1, p2, q, ccl, cdd, vs, ccs, fl, tf, cl, cld, csl, hq, rfl, hk, j1, hvk, hvf, j2, hcc⟩,
                Option.isSome_iff_exists.mp h2, eqO_ok h3, eqO_ok h4, ht, eqV1_ok h5, eqO_ok h6, eqB_ok h7⟩
            | _ => cases j3
          · cases j3
        · cases j2
      · cases j2
    · cases h1
  · cases h1
/-! ### the Hook -/
def asV (g : Addr → Option Obj) (n : Nat) : List Addr := sysModules :: cStatics :: asD g n
abbrev AlV : Type := Bool × List FnW × FnI
def obsK (fn : List DefD) (ex : PySem.W.Frag → Bool) (K : PySem.W.Frag) : AlV := (ex K && fn.all fun d => d.ok K, fn.map fun d => fnW K d.at_, initObs K)
def obsV (n : Nat) (fn : List DefD) (ex : PySem.W.Frag → Bool) (g : Addr → Option Obj) : AlV := obsK fn ex (frG g (asV g n))
def valV (fn : List DefD) (vi : FnI) : AlV := (true, fn.map DefD.val, vi)
def hookV (n : Nat) (fn : List DefD) (vi : FnI) (ex : PySem.W.Frag → Bool) : PySem.W.Hook where
  α := AlV
  obs := fun s => obsV n fn ex s.heap.get?
  val := fun _ => valV fn vi
  says := fun _ h => ∃ K : PySem.W.Frag, K.In h ∧ obsK fn ex K = valV fn vi
  of := fun _ _ e => ⟨_, frG_in, e⟩
  keeps := fun _ _ _ ⟨K, hK, c⟩ k => ⟨K, PySem.W.Frag.In.keeps hK k, c⟩
theorem obsV_eq {n : Nat} {fn : List DefD} {vi : FnI} {ex : PySem.W.Frag → Bool} {g : Addr → Option Obj} {s : Shared} (h : ∀ a, g a = s.heap.get? a) : obsV n fn ex g = (hookV n fn vi ex).obs s := by
  have e : g = s.heap.get? := funext h
  rw [e] <;> rfl
theorem saysV {fn : List DefD} {vi : FnI} {ex : PySem.W.Frag → Bool} {K : PySem.W.Frag} (c : obsK fn ex K = valV fn vi) : ex K = true ∧ initObs K = vi ∧ SaysD [] fn K := by
  have c1 : (ex K && fn.all fun d => d.ok K) = true := congrArg (fun z : AlV => z.1) c
  have c2 : (fn.map fun d => fnW K d.at_) = fn.map DefD.val := congrArg (fun z : AlV => z.2.1) c
  have c3 : initObs K = vi := congrArg (fun z : AlV => z.2.2) c
  obtain ⟨h1, h2⟩ := ba c1
  refine ⟨h1, c3, ?_⟩
  show ((([] : List Fa).all fun f => f.ok K) && fn.all fun d => d.ok K, fn.map fun d => fnW K d.at_) = (true, fn.map DefD.val)
  rw [c2, h2]
  rfl
end Ev

namespace Ev
open PySem PySem.Spec PyProof.Rows L2
def top (i : Nat) : Stmt := PySem.Challenge.pw_everyrun_k00_errors_keep_their_value.main.body.getD i (.Pass ⟨0, 0, 0, 0⟩)
abbrev FnP (K : PySem.W.Frag) (x : Str) (st : Stmt) (f : Addr) (fd : FuncData) : Prop := FunD K x x (defArgs st) (defBody st) (defScope st) [] [] f fd
abbrev s_pot : Stmt := top 31
abbrev s_take : Stmt := top 32
abbrev s_of : Stmt := top 33
structure Free (mg : Str → Option Value) : Prop where
  f_len : mg "len" = none
  f_int : mg "int" = none
  f_abs : mg "abs" = none
  f_max : mg "max" = none
  f_min : mg "min" = none
  f_range : mg "range" = none
  f_repr : mg "repr" = none
  f_isinstance : mg "isinstance" = none
  f_enumerate : mg "enumerate" = none
  f_ValueError : mg "ValueError" = none
theorem sc_pot : FnScope ["_law_script", "_law_number", "_law_cell", "_law_own", "_law_mixed"] ["_law_script", "_law_number"] (defScope s_pot) := ⟨rfl, rfl, rfl, by decide +kernel, rfl, by decide +kernel, by decide +kernel⟩
theorem sc_take : FnScope ["_law_pot_here", "_law_upto", "_law_digit", "_law_prime", "_law_mixed"] ["_law_pot_here", "_law_upto"] (defScope s_take) := ⟨rfl, rfl, rfl, by decide +kernel, rfl, by decide +kernel, by decide +kernel⟩
section
variable {P : Program} {w : World} {K : PySem.W.Frag} {mg : Str → Option Value} {base : Heap} {f : Addr} {fd : FuncData} {k : Nat}
theorem ok_take (G : Free mg) (F : FnP K "_law_take" s_take f fd) : FnOk P w K mg base CX0 (k + 1) f fd ["_law_pot_here", "_law_upto"] spTake := by
  refine F.ok sc_take (fun vs H Q E h => ?_) (fun cdv A outer s H vs Q E hr h => ?_)
  · obtain ⟨p, n, u, rfl, _⟩ := h
    rfl
  obtain ⟨p, n, u, rfl, hu1, hu2, hP, q⟩ := h
  refine ⟨_, PSs.nox (pss_cons (ps_if (pt_cmpR op_gt (pe_ix ix_list (pv 0) pe_int (fun _ _ => rfl)) pe_int (nomark _))
    (pss_cons (ps_set (i := 2) sc_take.nd rfl (.inl rfl) (pe_op op_mod (pe_callTy call_int1 (by rfl) G.f_int (by decide +kernel) (pa_cons (pe_ix ix_list (pv 0) pe_int (fun _ _ => rfl)) pa_nil)) (pv 1)))
      (pss_cons (ps_asg (pe_op op_fdivN (pe_ix ix_list (pv 0) pe_int (fun _ _ => rfl)) (pv 1)) (pg_sub (pv 0) pe_int set_list))
        (pss_one (ps_ret (pv 2)))))
    pss_nil)
    (pss_cons (ps_asg (pe_op op_add (pe_ix ix_list (pv 0) pe_int (fun _ _ => rfl)) pe_int) (pg_sub (pv 0) pe_int set_list))
      (pss_cons (ps_set (i := 3) sc_take.nd rfl (.inl rfl) (pe_ix ix_list (pe_lst (pa_cons pe_int (pa_cons pe_int (pa_cons pe_int (pa_cons pe_int (pa_cons pe_int pa_nil)))))) (pe_op op_mod (pe_callTy call_int1 (by rfl) G.f_int (by decide +kernel) (pa_cons (pe_ix ix_list (pv 0) pe_int (fun _ _ => rfl)) pa_nil)) pe_int) (fun _ _ => rfl)))
        (pss_cons (ps_set (i := 4) sc_take.nd rfl (.inl rfl) (pe_op op_mod (pe_callTy call_int1 (by rfl) G.f_int (by decide +kernel) (pa_cons (pe_op op_pow (pe_callTy call_int1 (by rfl) G.f_int (by decide +kernel) (pa_cons (pe_op op_add (pe_op op_add (pe_ix ix_list (pv 0) pe_int (fun _ _ => rfl)) (pe_op op_mul (pe_op op_mul pe_int (pe_ix ix_list (pv 0) pe_int (fun _ _ => rfl))) (pe_ix ix_list (pv 0) pe_int (fun _ _ => rfl)))) pe_int) pa_nil)) pe_int) pa_nil)) (pv 3)))
          (pss_cons (ps_set (i := 4) sc_take.nd rfl (.inl rfl) (pe_op op_mod (pe_callTy call_int1 (by rfl) G.f_int (by decide +kernel) (pa_cons (pe_op op_mul (pv 4) (pe_op op_add (pe_op op_mod (pe_callTy call_int1 (by rfl) G.f_int (by decide +kernel) (pa_cons (pv 4) pa_nil)) pe_int) (pe_op op_mul pe_int (pe_ix ix_list (pv 0) pe_int (fun _ _ => rfl))))) pa_nil)) pe_int))
            (pss_one (ps_ret (pe_op op_mod (pe_callTy call_int1 (by rfl) G.f_int (by decide +kernel) (pa_cons (pe_op op_fdiv (pv 4) pe_int) pa_nil)) (pv 1))))))))), ?_⟩
  obtain ⟨o, m, c, hp, ho, hm, hm2, hc, hcn⟩ := hP
  have S : SqL K H p [.int o, .int m, .int c] := .inl (.inl hp)
  refine ⟨_, rfl, p, _, 0, .int o, rfl, rfl, S, rfl, _, _, rfl, rfl, _, rfl, ite2 (fun e => ?_) (fun e => ?_)⟩
  · have e0 : 0 < o := of_decide_eq_true e
    refine ⟨_, rfl, p, _, 0, .int o, rfl, rfl, S, rfl, .inl ⟨_, rfl, ?_⟩⟩
    refine ⟨_, rfl, _, _, rfl, rfl, (by omega), ?_⟩
    refine ⟨_, rfl, p, _, 0, .int o, rfl, rfl, S, rfl, _, rfl, _, _, rfl, rfl, ⟨by omega, by omega⟩, ?_⟩
    refine ⟨_, rfl, p, _, 0, 0, rfl, rfl, hp, rfl, _, rfl, ?_⟩
    refine q _ _ (Int.emod_nonneg _ (by omega)) (Int.emod_lt_of_pos _ (by omega)) KB.at ⟨o.fdiv u, m, c, upd_same, Int.fdiv_nonneg ho (by omega), hm, hm2, hc, by omega⟩
  · have e0 : ¬ 0 < o := fun z => e (decide_eq_true z)
    have hp1 : upd H p (.lst [.int o, .int m, .int (c + 1)]) p = some (.lst [.int o, .int m, .int (c + 1)]) := upd_same
    have S1 : SqL K (upd H p (.lst [.int o, .int m, .int (c + 1)])) p [.int o, .int m, .int (c + 1)] := .inl (.inl hp1)
    have fin : ∀ (H2 : Hp) (d : Int), 0 ≤ d → d < u → Same (upd H p (.lst [.int o, .int m, .int (c + 1)])) H2 → Q (.int d) H2 := fun H2 d d0 d1 sm =>
      q d H2 d0 d1 (KB.at.trans (KB.of_same sm)) ⟨o, m, c + 1, sm _ _ hp1, ho, hm, hm2, by omega, by omega⟩
    refine ⟨_, rfl, p, _, 2, .int c, rfl, rfl, S, rfl, _, _, rfl, rfl, _, rfl, p, _, 2, 2, rfl, rfl, hp, rfl, ?_⟩
    -- the prime
    refine ⟨(by show 5 ≤ sizeLine; decide), fun l nl => ?_⟩
    have sm := same_new (o := .lst [.int 2147483647, .int 2147483629, .int 2147483587, .int 2147483579, .int 2147483563]) nl
    have S2 := sm.seq S1
    have hl : SqL K (upd (upd H p (.lst [.int o, .int m, .int (c + 1)])) l (.lst [.int 2147483647, .int 2147483629, .int 2147483587, .int 2147483579, .int 2147483563])) l [.int 2147483647, .int 2147483629, .int 2147483587, .int 2147483579, .int 2147483563] := .inl (.inl upd_same)
    have hc5 : (c + 1) % 5 = 0 ∨ (c + 1) % 5 = 1 ∨ (c + 1) % 5 = 2 ∨ (c + 1) % 5 = 3 ∨ (c + 1) % 5 = 4 := by omega
    obtain ⟨pr, hpr, pr0, pr1⟩ : ∃ pr : Int, atI [V.int 2147483647, .int 2147483629, .int 2147483587, .int 2147483579, .int 2147483563] ((c + 1) % 5) = some (.int pr) ∧ 0 < pr ∧ pr < 2147483648 := by
      rcases hc5 with z | z | z | z | z <;> rw [z] <;> exact ⟨_, rfl, by decide, by decide⟩
    refine ⟨_, rfl, p, _, 2, .int (c + 1), rfl, rfl, S2, rfl, .inl ⟨_, rfl, _, _, rfl, rfl, (by show (0 : Int) < 5; decide), l, _, _, .int pr, rfl, rfl, hl, hpr, ?_⟩⟩
    -- mixed
    have c1 : 0 ≤ c + 1 := by omega
    have c2 : c + 1 ≤ 1048576 := by omega
    have b1 : 0 ≤ 100003 * (c + 1) * (c + 1) := Int.mul_nonneg (Int.mul_nonneg (by decide) c1) c1
    have b2 : 100003 * (c + 1) * (c + 1) ≤ 100003 * 1048576 * 1048576 :=
      Int.mul_le_mul (Int.mul_le_mul_of_nonneg_left c2 (by decide)) c2 c1 (by decide)
    refine ⟨_, rfl, p, _, 1, .int m, rfl, rfl, S2, rfl, _, rfl, p, _, 2, .int (c + 1), rfl, rfl, S2, rfl, _, _, rfl, rfl, .inl ⟨by decide, by decide⟩,
      _, rfl, p, _, 2, .int (c + 1), rfl, rfl, S2, rfl, _, _, rfl, rfl, .inr ⟨by omega, by omega⟩, _, _, rfl, rfl, _, _, rfl, rfl, .inl ⟨_, rfl, _, _, rfl, rfl, ⟨by decide, by decide, by omega⟩,
      .inl ⟨_, rfl, _, rfl, _, _, rfl, rfl, pr0, ?_⟩⟩⟩
    have mx0 : 0 ≤ (m + 100003 * (c + 1) * (c + 1) + 37) ^ (3 : Int).toNat % pr := Int.emod_nonneg _ (by omega)
    have mx1 : (m + 100003 * (c + 1) * (c + 1) + 37) ^ (3 : Int).toNat % pr < 2147483648 := Int.lt_trans (Int.emod_lt_of_pos _ pr0) pr1
    refine ⟨_, rfl, _, rfl, .inl ⟨_, rfl, _, _, rfl, rfl, (by show (0 : Int) < 10037; decide), _, rfl, p, _, 2, .int (c + 1), rfl, rfl, S2, rfl, _, _, rfl, rfl, .inl ⟨by decide, by decide⟩, _, _, rfl, rfl, _, _, rfl, rfl,
      .inl ⟨Int.lt_of_lt_of_le (by decide) mx0, Int.lt_trans mx1 (by decide)⟩, .inl ⟨_, rfl, _, _, rfl, rfl, (by show (0 : Int) < 2305843009213693907; decide), ?_⟩⟩⟩
    refine ⟨_, rfl, _, _, rfl, rfl, ⟨by decide, by decide⟩, .inl ⟨_, rfl, _, rfl, _, _, rfl, rfl, (by omega), ?_⟩⟩
    exact fin _ _ (Int.emod_nonneg _ (by omega)) (Int.emod_lt_of_pos _ (by omega)) sm
end
end Ev

namespace Ev
open PySem PySem.Spec PyProof.Rows L2
theorem sc_of : FnScope ["_law_pot_here", "_law_some"] ["_law_pot_here", "_law_some"] (defScope s_of) := ⟨rfl, rfl, rfl, by decide +kernel, rfl, by decide +kernel, by decide +kernel⟩
section
variable {P : Program} {w : World} {K : PySem.W.Frag} {mg : Str → Option Value} {base : Heap} {f f1 : Addr} {fd fd1 : FuncData} {k : Nat}
theorem ok_of (G : Free mg) (F : FnP K "_law_of" s_of f fd) (F1 : FnP K "_law_take" s_take f1 fd1) (g1 : mg "_law_take" = some (.ref f1)) : FnOk P w K mg base CX0 (k + 2) f fd ["_law_pot_here", "_law_some"] (spOf K) := by
  have b1 : Binds K fd1 ["_law_pot_here", "_law_upto"] [] := F1.bindsN fun _ _ _ _ _ _ us hl => match us, hl with | [_, _], _ => rfl
  refine F.ok sc_of (fun vs H Q E h => ?_) (fun cdv A outer s H vs Q E hr h => ?_)
  · obtain ⟨p, a, n, xs, rfl, _⟩ := h
    rfl
  obtain ⟨p, a, n, xs, rfl, hne, S, h1, h2, hP, q⟩ := h
  refine ⟨_, PSs.nox (pss_one (ps_ret (pe_ix ix_list (pv 1) (pe_call (ok_take (k := k) G F1) hr (by rfl) g1 F1.kp b1 .nil pass0 (pa_cons (pv 0) (pa_cons (pe_callB call_len_seq (by rfl) G.f_len (by decide +kernel) (pa_cons (pv 1) pa_nil)) pa_nil))) (fun _ _ => rfl)))), ?_⟩
  refine ⟨_, rfl, _, rfl, _, rfl, a, xs, rfl, .inl S, p, n, _, rfl, by omega, by omega, hP, fun d H' d0 d1 kb hP' => ?_⟩
  obtain ⟨v, hv, hm⟩ := at_mem d0 d1
  exact ⟨a, xs, d, v, rfl, rfl, kb.sq S hne, hv, q v H' hm kb hP'⟩
theorem ok_pot (G : Free mg) (F : FnP K "_law_pot" s_pot f fd) : FnOk P w K mg base CX0 (k + 1) f fd ["_law_script", "_law_number"] (spPot K) := by
  refine F.ok sc_pot (fun vs H Q E h => ?_) (fun cdv A outer s H vs Q E hr h => ?_)
  · obtain ⟨a, ns, j, rfl, _⟩ := h
    rfl
  obtain ⟨a, ns, j, rfl, S, hj, q⟩ := h
  refine ⟨_, PSs.nox (pss_cons (ps_set (i := 2) sc_pot.nd rfl (.inl rfl) (pe_ifExp (pt_cmpR op_lt (pv 1) (pe_callB call_len_seq (by rfl) G.f_len (by decide +kernel) (pa_cons (pv 0) pa_nil)) (nomark _)) (pe_ix ix_list (pv 0) (pv 1) (fun _ _ => rfl)) (pe_op op_add (pe_op op_mul pe_int (pv 1)) pe_int)))
    (pss_cons (ps_set (i := 3) sc_pot.nd rfl (.inl rfl) (pe_op op_mul (pe_op op_modN (pe_callTy call_int1 (by rfl) G.f_int (by decide +kernel) (pa_cons (pe_callB call_abs (by rfl) G.f_abs (by decide +kernel) (pa_cons (pv 2) pa_nil)) pa_nil)) (pe_op op_powW (pe_op op_pow pe_int pe_int) pe_int)) (pe_callTy call_int1 (by rfl) G.f_int (by decide +kernel) (pa_cons (pe_cmpR op_ge (pe_callB call_abs (by rfl) G.f_abs (by decide +kernel) (pa_cons (pv 2) pa_nil)) (pe_op op_pow pe_int pe_int) (nomark _)) pa_nil))))
      (pss_cons (ps_set (i := 4) sc_pot.nd rfl (.inl rfl) (pe_op op_add (pe_op op_add (pe_op op_mul (pe_op op_mod (pe_callTy call_int1 (by rfl) G.f_int (by decide +kernel) (pa_cons (pv 2) pa_nil)) pe_int) pe_int) (pe_op op_mul (pe_op op_mul pe_int (pv 1)) (pv 1))) pe_int))
        (pss_one (ps_ret (pe_lst (pa_cons (pv 3) (pa_cons (pe_op op_mod (pe_callTy call_int1 (by rfl) G.f_int (by decide +kernel) (pa_cons (pv 4) pa_nil)) pe_int) (pa_cons pe_int pa_nil))))))))), ?_⟩
  have big : ((10 : Int) ^ (60 : Int).toNat) ^ (5 : Int).toNat ≠ 0 := by decide +kernel
  have pw : (0 : Int) ≤ 5 ∧ (Builtin.Int.intBits ((10 : Int) ^ (60 : Int).toNat) : Int) * 5 ≤ 2 ^ 27 := ⟨by decide, by decide +kernel⟩
  have p1 : CPow 10 60 := ⟨by decide, by decide, by decide⟩
  have p2 : CPow 10 18 := ⟨by decide, by decide, by decide⟩
  have small : ∀ (c : Bool) (i : Int), CMul i (if c = true then 1 else 0) := fun c i => .inr (by cases c <;> exact ⟨by decide, by decide⟩)
  have jj : CMul 6427 (j : Int) := .inl ⟨by decide, by decide⟩
  have jj2 : CMul (6427 * (j : Int)) (j : Int) := .inr ⟨by omega, by omega⟩
  have m1 : ∀ i : Int, CMul (i % 2305843009213693951) 71011 := fun i => .inr ⟨by decide, by decide⟩
  have fm : ∀ (i : Int) (c : Bool), 0 ≤ (if i < 0 then -i else i).fmod (((10 : Int) ^ (60 : Int).toNat) ^ (5 : Int).toNat) * (if c = true then 1 else 0) := fun i c => by
    refine Int.mul_nonneg ?_ (by cases c <;> decide)
    have h0 : 0 ≤ ((10 : Int) ^ (60 : Int).toNat) ^ (5 : Int).toNat := by decide +kernel
    rw [Int.fmod_eq_emod_of_nonneg _ h0]
    exact Int.emod_nonneg _ big
  have fin : ∀ (o x : Int) (l : Addr), 0 ≤ o → H l = none → Q (.ref l) (upd H l (.lst [.int o, .int (x % 2305843009213693921), .int 0])) := fun o x l h0 nl =>
    q l _ nl (same_new nl) ⟨o, _, 0, upd_same, h0, Int.emod_nonneg _ (by decide), Int.emod_lt_of_pos _ (by decide), by decide, by decide⟩
  refine ⟨_, rfl, _, rfl, a, _, rfl, .inl S, _, _, rfl, rfl, _, rfl, ite2 (fun e => ?_) (fun e => ?_)⟩
  · have e0 : j < ns.length := by
      have e1 := of_decide_eq_true e
      rw [List.length_map] at e1
      omega
    refine ⟨_, rfl, _, rfl, a, _, _, .int ns[j], rfl, rfl, S, atI_nat (by rw [List.getElem?_map, List.getElem?_eq_getElem e0]; rfl), ?_⟩
    refine ⟨_, rfl, _, rfl, .inl ⟨_, rfl, _, _, rfl, rfl, p1, _, _, rfl, rfl, pw, _, _, rfl, rfl, big, _, rfl, _, rfl, _, _, rfl, rfl, p2, _, _, rfl, rfl, .inr ⟨_, rfl, _, _, rfl, rfl, small _ _, ?_⟩⟩⟩
    refine ⟨_, rfl, .inl ⟨_, rfl, _, _, rfl, rfl, (by show (0 : Int) < 2305843009213693951; decide), _, _, rfl, rfl, m1 _, _, rfl, _, _, rfl, rfl, jj, _, rfl, _, _, rfl, rfl, jj2, _, _, rfl, rfl, _, _, rfl, rfl, ?_⟩⟩
    refine ⟨_, rfl, _, rfl, .inl ⟨_, rfl, _, _, rfl, rfl, (by show (0 : Int) < 2305843009213693921; decide), (by show 3 ≤ sizeLine; decide), fun l nl => ?_⟩⟩
    exact fin _ _ l (fm _ _) nl
  · refine ⟨_, rfl, _, _, rfl, rfl, .inl ⟨by decide, by decide⟩, _, _, rfl, rfl, ?_⟩
    refine ⟨_, rfl, _, rfl, .inl ⟨_, rfl, _, _, rfl, rfl, p1, _, _, rfl, rfl, pw, _, _, rfl, rfl, big, _, rfl, _, rfl, _, _, rfl, rfl, p2, _, _, rfl, rfl, .inr ⟨_, rfl, _, _, rfl, rfl, small _ _, ?_⟩⟩⟩
    refine ⟨_, rfl, .inl ⟨_, rfl, _, _, rfl, rfl, (by show (0 : Int) < 2305843009213693951; decide), _, _, rfl, rfl, m1 _, _, rfl, _, _, rfl, rfl, jj, _, rfl, _, _, rfl, rfl, jj2, _, _, rfl, rfl, _, _, rfl, rfl, ?_⟩⟩
    refine ⟨_, rfl, _, rfl, .inl ⟨_, rfl, _, _, rfl, rfl, (by show (0 : Int) < 2305843009213693921; decide), (by show 3 ≤ sizeLine; decide), fun l nl => ?_⟩⟩
    exact fin _ _ l (fm _ _) nl
end
end Ev

namespace Ev
open PySem PySem.Spec PyProof.Rows L2
abbrev s_any : Stmt := top 34
theorem sc_any : FnScope ["_law_pot_here", "_law_found", "_law_turn"] ["_law_pot_here"] (defScope s_any) := ⟨rfl, rfl, rfl, by decide +kernel, rfl, by decide +kernel, by decide +kernel⟩
section
variable {P : Program} {w : World} {K : PySem.W.Frag} {mg : Str → Option Value} {base : Heap} {f f1 f2 : Addr} {fd fd1 fd2 : FuncData} {k : Nat}
theorem ok_any (G : Free mg) (F : FnP K "_law_any_value" s_any f fd) (F1 : FnP K "_law_take" s_take f1 fd1) (g1 : mg "_law_take" = some (.ref f1)) (F2 : FnP K "_law_of" s_of f2 fd2) (g2 : mg "_law_of" = some (.ref f2)) :
    FnOk P w K mg base CX0 (k + 3) f fd ["_law_pot_here"] (spAny K) := by
  have b2 : Binds K fd2 ["_law_pot_here", "_law_some"] [] := F2.bindsN fun _ _ _ _ _ _ us hl => match us, hl with | [_, _], _ => rfl
  refine F.ok sc_any (fun vs H Q E h => ?_) (fun cdv A outer s H vs Q E hr h => ?_)
  · obtain ⟨p, n, rfl, _⟩ := h
    rfl
  obtain ⟨p, n, rfl, hP, q⟩ := h
  have GO : FnOk P w K mg base CX0 (k + 2) f2 fd2 ["_law_pot_here", "_law_some"] (spOf K) := ok_of G F2 F1 g1
  refine ⟨_, PSs.nox (pss_cons (ps_set (i := 1) sc_any.nd rfl (.inl rfl) (pe_call GO hr (by rfl) g2 F2.kp b2 .nil pass0 (pa_cons (pv 0) (pa_cons (pe_lst (pa_cons pe_non (pa_cons pe_bl (pa_cons pe_int (pa_cons (pe_un un_neg pe_int) (pa_cons (pe_op op_sub (pe_op op_pow pe_int pe_int) pe_int) (pa_cons pe_str (pa_cons pe_str (pa_cons (pe_tup pa_nil) (pa_cons (pe_tup (pa_cons pe_str pa_nil)) (pa_cons (pe_lst pa_nil) (pa_cons pe_dnewK (pa_cons (pe_disp (pps_cons pe_str pe_int pps_nil) (by rfl) (by rfl) (fun z => by cases z) (by decide)) pa_nil))))))))))))) pa_nil))))
    (pss_cons (ps_for PassesOwn.never rfl (pi_range1 (by rfl) G.f_range (pa_cons (pe_call GO hr (by rfl) g2 F2.kp b2 .nil pass0 (pa_cons (pv 0) (pa_cons (pe_lst (pa_cons pe_int (pa_cons pe_int (pa_cons pe_int (pa_cons pe_int pa_nil))))) pa_nil))) pa_nil)) (pg_name (i := 2) sc_any.nd rfl (.inl rfl))
      (pss_one (ps_set (i := 1) sc_any.nd rfl (.inl rfl) (pe_call GO hr (by rfl) g2 F2.kp b2 .nil pass0 (pa_cons (pv 0) (pa_cons (pe_lst (pa_cons (pe_tup (pa_cons (pv 1) pa_nil)) (pa_cons (pe_lst (pa_cons (pv 1) pa_nil)) (pa_cons (pe_disp (pps_cons pe_str (pv 1) pps_nil) (by rfl) (by rfl) (fun z => by cases z) (by decide)) (pa_cons (pe_tup (pa_cons (pv 1) (pa_cons pe_int pa_nil))) pa_nil))))) pa_nil))))))
      (pss_one (ps_ret (pv 1))))), ?_⟩
  refine ⟨_, rfl, 1, rfl, _, _, rfl, rfl, ⟨by decide, by decide, by decide⟩, _, _, rfl, rfl, (by show 0 ≤ sizeLine; decide), fun t1 n1 => ⟨(by show 1 ≤ sizeLine; decide), fun t2 n2 => ⟨(by show 0 ≤ sizeLine; decide), fun l3 n3 => ?_⟩⟩⟩
  intro d4 n4 d5 n5
  refine ⟨upd_same, [(Sum.inr "a", .int 1)], rfl, by decide, (by show 12 ≤ sizeLine; decide), fun l nl => ?_⟩
  have mem : ∀ H', Same (del (upd (upd (upd (upd (upd (upd H t1 (HO.tup [])) t2 (HO.tup [V.str "x"])) l3 (HO.lst [])) d4 (HO.dK [])) d5 (HO.dK [])) d5 (HO.dK [(Sum.inr "a", .int 1)])) p) H' →
      ∀ v ∈ [V.non, .bl true, .int 0, .int (-1), .int (10 ^ Int.toNat 9 - 1), .str "", .str "a b", .ref t1, .ref t2, .ref l3, .ref d4, .ref d5], ∃ d, Rp K H' v d ∧ Nice d 0 := by
    intro H' sm
    have s1 := same_new (o := HO.tup []) n1
    have s2 := same_new (o := HO.tup [V.str "x"]) n2
    have s3 := same_new (o := HO.lst []) n3
    have s4 := same_new (o := HO.dK []) n4
    have s5 := same_dup (o := HO.dK []) (u := HO.dK [(Sum.inr "a", .int 1)]) n5
    obtain ⟨o, m, c, hp, _⟩ := hP
    have ne1 : t1 ≠ p := fun z => by rw [z, hp] at n1; cases n1
    have ne2 : t2 ≠ p := fun z => by rw [z, s1 _ _ hp] at n2; cases n2
    have ne3 : l3 ≠ p := fun z => by rw [z, s2 _ _ (s1 _ _ hp)] at n3; cases n3
    have ne4 : d4 ≠ p := fun z => by rw [z, s3 _ _ (s2 _ _ (s1 _ _ hp))] at n4; cases n4
    have ne5 : d5 ≠ p := fun z => by rw [z, s4 _ _ (s3 _ _ (s2 _ _ (s1 _ _ hp)))] at n5; cases n5
    have h1 := sm _ _ (del_at (s5 _ _ (s4 _ _ (s3 _ _ (s2 _ _ (upd_same (H := H) (a := t1) (o := HO.tup [])))))) ne1)
    have h2 := sm _ _ (del_at (s5 _ _ (s4 _ _ (s3 _ _ (upd_same (o := HO.tup [V.str "x"]))))) ne2)
    have h3 := sm _ _ (del_at (s5 _ _ (s4 _ _ (upd_same (o := HO.lst [])))) ne3)
    have h4 := sm _ _ (del_at (s5 _ _ (upd_same (o := HO.dK []))) ne4)
    have h5 := sm _ _ (del_at (upd_same (o := HO.dK [(Sum.inr "a", .int 1)])) ne5)
    intro v hv
    simp only [List.mem_cons, List.not_mem_nil, or_false] at hv
    rcases hv with rfl | rfl | rfl | rfl | rfl | rfl | rfl | rfl | rfl | rfl | rfl | rfl
    · exact ⟨_, .non, by constructor <;> decide +kernel⟩
    · exact ⟨_, .bl _, by constructor <;> decide +kernel⟩
    · exact ⟨_, .int _, by constructor <;> decide +kernel⟩
    · exact ⟨_, .int _, by constructor <;> decide +kernel⟩
    · exact ⟨_, .int _, by constructor <;> decide +kernel⟩
    · exact ⟨_, .str _, by constructor <;> decide +kernel⟩
    · exact ⟨_, .str _, by constructor <;> decide +kernel⟩
    · exact ⟨_, .tup (seqT h1) .nil, by constructor <;> decide +kernel⟩
    · exact ⟨_, .tup (seqT h2) (.cons (.str _) .nil), by constructor <;> decide +kernel⟩
    · exact ⟨_, .lst (seqL h3) .nil, by constructor <;> decide +kernel⟩
    · exact ⟨_, .dct h4 .nil, by constructor <;> decide +kernel⟩
    · exact ⟨_, .dct h5 (.cons (.int 1) .nil), by constructor <;> decide +kernel⟩
  have s1 := same_new (o := HO.tup []) n1
  have s2 := same_new (o := HO.tup [V.str "x"]) n2
  have s3 := same_new (o := HO.lst []) n3
  have s4 := same_new (o := HO.dK []) n4
  have s5 := same_dup (o := HO.dK []) (u := HO.dK [(Sum.inr "a", .int 1)]) n5
  have sl := same_new (o := HO.lst [V.non, .bl true, .int 0, .int (-1), .int (10 ^ Int.toNat 9 - 1), .str "", .str "a b", .ref t1, .ref t2, .ref l3, .ref d4, .ref d5]) nl
  have sA := (((s1.trans s2).trans s3).trans s4).trans s5
  have hP2 := hP.keep fun o e => sl _ _ (sA _ _ e)
  have nep : l ≠ p := (hP.keep fun o e => sA _ _ e).ne nl
  refine ⟨p, l, n + 39, _, rfl, nep, seqL upd_same, (by show 1 ≤ 12; decide), (by show 12 ≤ 100000; decide), hP2, fun v H1 hv kb1 hP1 => ?_⟩
  obtain ⟨d0, r0, n0⟩ := mem (del H1 p) (Same.trans (KB.del (KB.of_same sl)) kb1.del) v hv
  have kbA : KB p H H1 := (KB.of_same (sA.trans sl)).trans kb1
  clear mem
  -- the number of turns
  refine ⟨_, rfl, (by show 4 ≤ sizeLine; decide), fun l2 nl2 => ?_⟩
  have s6 := same_new (o := HO.lst [V.int 0, .int 1, .int 2, .int 18]) nl2
  refine ⟨p, l2, n + 38, _, rfl, hP1.ne nl2, seqL upd_same, by decide, by decide, hP1.keep fun o e => s6 _ _ e, fun v2 H2 hv2 kb2 hP2' => ?_⟩
  obtain ⟨N, rfl, hN⟩ : ∃ N : Nat, v2 = .int (N : Int) ∧ N ≤ 18 := by
    simp only [List.mem_cons, List.not_mem_nil, or_false] at hv2
    rcases hv2 with rfl | rfl | rfl | rfl
    · exact ⟨0, rfl, by decide⟩
    · exact ⟨1, rfl, by decide⟩
    · exact ⟨2, rfl, by decide⟩
    · exact ⟨18, rfl, by decide⟩
  have kbB : KB p H H2 := (kbA.trans (KB.of_same s6)).trans kb2
  have r2 : Rp K (del H2 p) v d0 := (r0.mono (KB.del (KB.of_same s6))).mono kb2.del
  refine ⟨_, rfl, by omega, by omega, for_range (lo := 0) (n := N) (fun i σ H' => ∃ fo d y, σ = [some (.ref p), some fo, y] ∧ KB p H H' ∧ Pot (n + 20 - i) H' p ∧ Rp K (del H' p) fo d ∧ Nice d i)
    ⟨v, d0, none, rfl, kbB, hP2'.less (by omega), r2, n0⟩ ?_ ?_⟩
  · rintro i σ H3 hi ⟨fo, d, y, rfl, kb3, hP3, r3, n3⟩
    refine ⟨_, rfl, _, rfl, (by show 1 ≤ sizeLine; decide), fun a1 m1 => ?_⟩
    refine ⟨_, rfl, (by show 1 ≤ sizeLine; decide), fun a2 m2 => ?_⟩
    intro a3 m3
    refine ⟨_, rfl, upd_same, [(Sum.inr "k", fo)], rfl, (by show 1 ≤ 15; decide), ?_⟩
    refine ⟨_, rfl, (by show 2 ≤ sizeLine; decide), fun a4 m4 => ⟨(by show 4 ≤ sizeLine; decide), fun a5 m5 => ?_⟩⟩
    have u1 := same_new (o := HO.tup [fo]) m1
    have u2 := same_new (o := HO.lst [fo]) m2
    have u3 := same_dup (o := HO.dK []) (u := HO.dK [(Sum.inr "k", fo)]) m3
    have u4 := same_new (o := HO.tup [fo, .int 1]) m4
    have u5 := same_new (o := HO.lst [V.ref a1, .ref a2, .ref a3, .ref a4]) m5
    have z1 := hP3.ne m1
    have q1 := hP3.keep fun o e => u1 _ _ e
    have z2 := q1.ne m2
    have q2 := q1.keep fun o e => u2 _ _ e
    have z3 := q2.ne m3
    have q3 := q2.keep fun o e => u3 _ _ e
    have z4 := q3.ne m4
    have q4 := q3.keep fun o e => u4 _ _ e
    have z5 := q4.ne m5
    have q5 := q4.keep fun o e => u5 _ _ e
    have uA := (((u1.trans u2).trans u3).trans u4).trans u5
    obtain ⟨n', en⟩ : ∃ n', n + 20 - i = n' + 1 := ⟨n + 20 - i - 1, by omega⟩
    rw [en] at q5
    refine ⟨p, a5, n', _, rfl, z5, seqL upd_same, (by show 1 ≤ 4; decide), (by show 4 ≤ 100000; decide), q5, fun v4 H4 hv4 kb4 hP4 => ?_⟩
    have rr : Rp K (del H4 p) fo d := (r3.mono (KB.del (KB.of_same uA))).mono kb4.del
    have h1 := kb4 _ _ z1 (u5 _ _ (u4 _ _ (u3 _ _ (u2 _ _ (upd_same (o := HO.tup [fo]))))))
    have h2 := kb4 _ _ z2 (u5 _ _ (u4 _ _ (u3 _ _ (upd_same (o := HO.lst [fo])))))
    have h3 := kb4 _ _ z3 (u5 _ _ (u4 _ _ (upd_same (o := HO.dK [(Sum.inr "k", fo)]))))
    have h4 := kb4 _ _ z4 (u5 _ _ (upd_same (o := HO.tup [fo, .int 1])))
    obtain ⟨d', rd, nd⟩ : ∃ d', Rp K (del H4 p) v4 d' ∧ Nice d' (i + 1) := by
      simp only [List.mem_cons, List.not_mem_nil, or_false] at hv4
      rcases hv4 with rfl | rfl | rfl | rfl
      · exact ⟨_, .tup (seqT (del_at h1 z1)) (.cons rr .nil), n3.tup1⟩
      · exact ⟨_, .lst (seqL (del_at h2 z2)) (.cons rr .nil), n3.lst1⟩
      · exact ⟨_, .dct (del_at h3 z3) (.cons rr .nil), n3.dct1⟩
      · exact ⟨_, .tup (seqT (del_at h4 z4)) (.cons rr (.cons (.int 1) .nil)), n3.tup2⟩
    exact ⟨v4, d', some (.int (0 + i)), rfl, (kb3.trans (KB.of_same uA)).trans kb4, hP4.less (by omega), rd, nd⟩
  · rintro σ H3 ⟨fo, d, y, rfl, kb3, hP3, r3, n3⟩
    exact ⟨_, rfl, q fo d H3 kb3 (hP3.less (by omega)) r3 (n3.more (by omega))⟩
end
end Ev

namespace Ev
open PySem PySem.Spec PyProof.Rows L2
def errNames : List Str := ["BadProgram", "NoFunction", "NoBlock", "BadState", "BadWay", "BadRun", "BadPrice", "BadInlined", "BadRows", "BadOrder", "BadFlipped", "BadMarked", "BadPrices", "NoItem", "BadWeb", "OtherProgram", "BadNumber", "TooLong", "NoCall", "BadTimes", "NoBound", "BadPump", "BadChange", "BadLayouts", "NothingToUndo", "NothingToRedo", "BadText", "BadJournal"]
def errName (i : Nat) : Str := errNames.getD i ""
structure Errs (K : PySem.W.Frag) (mg : Str → Option Value) (R fI : Addr) (C : Nat → Addr) : Prop where
  g : ∀ i, i < 28 → mg (errName i) = some (.ref (C i))
  c : ∀ i, i < 28 → ErrC K R fI (C i)
  kit : ∀ i j, i < 28 → j < 28 → PySem.W.kitOne K (.ref (C i)) (.ref (C j)) = some (decide (j = i))
  kR : ∀ i, i < 28 → PySem.W.kitOne K (.ref (C i)) (.ref R) = some true
  kV : ∀ i, i < 28 → PySem.W.kitOne K (.ref (C i)) (.type "ValueError") = some true
  gR : mg "RunError" = some (.ref R)
abbrev errCs (C : Nat → Addr) : List Addr := [C 0, C 1, C 2, C 3, C 4, C 5, C 6, C 7, C 8, C 9, C 10, C 11, C 12, C 13, C 14, C 15, C 16, C 17, C 18, C 19, C 20, C 21, C 22, C 23, C 24, C 25, C 26, C 27]
abbrev s_made : Stmt := top 35
abbrev s_marks : Stmt := top 36
theorem sc_all_made : FnScope ["_law_thing", "_law_found"] ["_law_thing"] (defScope s_made) := ⟨rfl, rfl, rfl, by decide +kernel, rfl, by decide +kernel, by decide +kernel⟩
theorem sc_marks : FnScope ["_law_e", "_law_found"] ["_law_e"] (defScope s_marks) := ⟨rfl, rfl, rfl, by decide +kernel, rfl, by decide +kernel, by decide +kernel⟩
section
variable {P : Program} {w : World} {K : PySem.W.Frag} {mg : Str → Option Value} {base : Heap} {f R fI : Addr} {fd fdI : FuncData} {k : Nat} {C : Nat → Addr}
theorem ok_made (T : ErrR P K R fI fdI) (E : Errs K mg R fI C) (F : FnP K "_law_all_made" s_made f fd) : FnOk P w K mg base CX0 (k + 3) f fd ["_law_thing"] (spMade (errCs C)) := by
  refine F.ok sc_all_made (fun vs H Q E h => ?_) (fun cdv A outer s H vs Q E0' hr h => ?_)
  · obtain ⟨v, rfl, _⟩ := h
    rfl
  obtain ⟨v, rfl, q⟩ := h
  refine ⟨_, PSs.nox (pss_cons (ps_set (i := 1) sc_all_made.nd rfl (.inl rfl) (pe_lst (pa_cons (pe_err (k := k) T (E.c 0 (by decide)) hr (by rfl) (E.g 0 (by decide)) (pv 0)) (pa_cons (pe_err (k := k) T (E.c 1 (by decide)) hr (by rfl) (E.g 1 (by decide)) (pv 0)) (pa_cons (pe_err (k := k) T (E.c 2 (by decide)) hr (by rfl) (E.g 2 (by decide)) (pv 0)) (pa_cons (pe_err (k := k) T (E.c 3 (by decide)) hr (by rfl) (E.g 3 (by decide)) (pv 0)) (pa_cons (pe_err (k := k) T (E.c 4 (by decide)) hr (by rfl) (E.g 4 (by decide)) (pv 0)) (pa_cons (pe_err (k := k) T (E.c 5 (by decide)) hr (by rfl) (E.g 5 (by decide)) (pv 0)) pa_nil))))))))
    (pss_cons (ps_set (i := 1) sc_all_made.nd rfl (.inl rfl) (pe_op op_cat (pv 1) (pe_lst (pa_cons (pe_err (k := k) T (E.c 6 (by decide)) hr (by rfl) (E.g 6 (by decide)) (pv 0)) (pa_cons (pe_err (k := k) T (E.c 7 (by decide)) hr (by rfl) (E.g 7 (by decide)) (pv 0)) (pa_cons (pe_err (k := k) T (E.c 8 (by decide)) hr (by rfl) (E.g 8 (by decide)) (pv 0)) (pa_cons (pe_err (k := k) T (E.c 9 (by decide)) hr (by rfl) (E.g 9 (by decide)) (pv 0)) (pa_cons (pe_err (k := k) T (E.c 10 (by decide)) hr (by rfl) (E.g 10 (by decide)) (pv 0)) pa_nil))))))))
      (pss_cons (ps_set (i := 1) sc_all_made.nd rfl (.inl rfl) (pe_op op_cat (pv 1) (pe_lst (pa_cons (pe_err (k := k) T (E.c 11 (by decide)) hr (by rfl) (E.g 11 (by decide)) (pv 0)) (pa_cons (pe_err (k := k) T (E.c 12 (by decide)) hr (by rfl) (E.g 12 (by decide)) (pv 0)) (pa_cons (pe_err (k := k) T (E.c 13 (by decide)) hr (by rfl) (E.g 13 (by decide)) (pv 0)) (pa_cons (pe_err (k := k) T (E.c 14 (by decide)) hr (by rfl) (E.g 14 (by decide)) (pv 0)) (pa_cons (pe_err (k := k) T (E.c 15 (by decide)) hr (by rfl) (E.g 15 (by decide)) (pv 0)) pa_nil))))))))
        (pss_cons (ps_set (i := 1) sc_all_made.nd rfl (.inl rfl) (pe_op op_cat (pv 1) (pe_lst (pa_cons (pe_err (k := k) T (E.c 16 (by decide)) hr (by rfl) (E.g 16 (by decide)) (pv 0)) (pa_cons (pe_err (k := k) T (E.c 17 (by decide)) hr (by rfl) (E.g 17 (by decide)) (pv 0)) (pa_cons (pe_err (k := k) T (E.c 18 (by decide)) hr (by rfl) (E.g 18 (by decide)) (pv 0)) (pa_cons (pe_err (k := k) T (E.c 19 (by decide)) hr (by rfl) (E.g 19 (by decide)) (pv 0)) (pa_cons (pe_err (k := k) T (E.c 20 (by decide)) hr (by rfl) (E.g 20 (by decide)) (pv 0)) (pa_cons (pe_err (k := k) T (E.c 21 (by decide)) hr (by rfl) (E.g 21 (by decide)) (pv 0)) pa_nil)))))))))
          (pss_cons (ps_set (i := 1) sc_all_made.nd rfl (.inl rfl) (pe_op op_cat (pv 1) (pe_lst (pa_cons (pe_err (k := k) T (E.c 22 (by decide)) hr (by rfl) (E.g 22 (by decide)) (pv 0)) (pa_cons (pe_err (k := k) T (E.c 23 (by decide)) hr (by rfl) (E.g 23 (by decide)) (pv 0)) (pa_cons (pe_err (k := k) T (E.c 24 (by decide)) hr (by rfl) (E.g 24 (by decide)) (pv 0)) (pa_cons (pe_err (k := k) T (E.c 25 (by decide)) hr (by rfl) (E.g 25 (by decide)) (pv 0)) (pa_cons (pe_err (k := k) T (E.c 26 (by decide)) hr (by rfl) (E.g 26 (by decide)) (pv 0)) pa_nil))))))))
            (pss_one (ps_ret (pe_op op_cat (pv 1) (pe_lst (pa_cons (pe_err (k := k) T (E.c 27 (by decide)) hr (by rfl) (E.g 27 (by decide)) (pv 0)) pa_nil)))))))))), ?_⟩
  refine st_lst (v := v) (Ds := [C 0, C 1, C 2, C 3, C 4, C 5]) rfl rfl (by show 6 ≤ 1000; decide) fun l1 x1 H1 s1 m1 h1 e1 => ?_
  refine st_cat (v := v) (Es := [C 0, C 1, C 2, C 3, C 4, C 5]) (Ds := [C 6, C 7, C 8, C 9, C 10]) rfl rfl rfl h1 e1 (by show 6 + 5 ≤ 1000; decide) fun l2 x2 H2 s2 m2 h2 e2 => ?_
  refine st_cat (v := v) (Es := [C 0, C 1, C 2, C 3, C 4, C 5, C 6, C 7, C 8, C 9, C 10]) (Ds := [C 11, C 12, C 13, C 14, C 15]) rfl rfl rfl h2 e2 (by show 11 + 5 ≤ 1000; decide) fun l3 x3 H3 s3 m3 h3 e3 => ?_
  refine st_cat (v := v) (Es := [C 0, C 1, C 2, C 3, C 4, C 5, C 6, C 7, C 8, C 9, C 10, C 11, C 12, C 13, C 14, C 15]) (Ds := [C 16, C 17, C 18, C 19, C 20, C 21]) rfl rfl rfl h3 e3 (by show 16 + 6 ≤ 1000; decide) fun l4 x4 H4 s4 m4 h4 e4 => ?_
  refine st_cat (v := v) (Es := [C 0, C 1, C 2, C 3, C 4, C 5, C 6, C 7, C 8, C 9, C 10, C 11, C 12, C 13, C 14, C 15, C 16, C 17, C 18, C 19, C 20, C 21]) (Ds := [C 22, C 23, C 24, C 25, C 26]) rfl rfl rfl h4 e4 (by show 22 + 5 ≤ 1000; decide) fun l5 x5 H5 s5 m5 h5 e5 => ?_
  refine st_ret (v := v) (Es := [C 0, C 1, C 2, C 3, C 4, C 5, C 6, C 7, C 8, C 9, C 10, C 11, C 12, C 13, C 14, C 15, C 16, C 17, C 18, C 19, C 20, C 21, C 22, C 23, C 24, C 25, C 26]) (Ds := [C 27]) rfl rfl rfl h5 e5 (by show 27 + 1 ≤ 1000; decide) fun l6 x6 H6 s6 m6 h6 e6 => ?_
  have sA := (((s1.trans s2).trans s3).trans s4).trans s5
  exact q l6 x6 H6 (sA.trans s6) (same_back sA m6) h6 e6
theorem ok_marks (G : Free mg) (T : ErrR P K R fI fdI) (E : Errs K mg R fI C) (F : FnP K "_law_marks" s_marks f fd) : FnOk P w K mg base CX0 (k + 1) f fd ["_law_e"] (spMarks C) := by
  refine F.ok sc_marks (fun vs H Q E h => ?_) (fun cdv A outer s H vs Q E0' hr h => ?_)
  · obtain ⟨i, v, x, rfl, _⟩ := h
    rfl
  obtain ⟨i, v, x, rfl, hi, hx, q⟩ := h
  refine ⟨_, PSs.nox (pss_cons (ps_set (i := 1) sc_marks.nd rfl (.inl rfl) (pe_lst (pa_cons (pe_isE T rfl G.f_isinstance (pv 0) rfl (E.g 0 (by decide))) (pa_cons (pe_isE T rfl G.f_isinstance (pv 0) rfl (E.g 1 (by decide))) (pa_cons (pe_isE T rfl G.f_isinstance (pv 0) rfl (E.g 2 (by decide))) (pa_cons (pe_isE T rfl G.f_isinstance (pv 0) rfl (E.g 3 (by decide))) pa_nil))))))
    (pss_cons (ps_set (i := 1) sc_marks.nd rfl (.inl rfl) (pe_op op_cat (pv 1) (pe_lst (pa_cons (pe_isE T rfl G.f_isinstance (pv 0) rfl (E.g 4 (by decide))) (pa_cons (pe_isE T rfl G.f_isinstance (pv 0) rfl (E.g 5 (by decide))) (pa_cons (pe_isE T rfl G.f_isinstance (pv 0) rfl (E.g 6 (by decide))) (pa_cons (pe_isE T rfl G.f_isinstance (pv 0) rfl (E.g 7 (by decide))) pa_nil)))))))
      (pss_cons (ps_set (i := 1) sc_marks.nd rfl (.inl rfl) (pe_op op_cat (pv 1) (pe_lst (pa_cons (pe_isE T rfl G.f_isinstance (pv 0) rfl (E.g 8 (by decide))) (pa_cons (pe_isE T rfl G.f_isinstance (pv 0) rfl (E.g 9 (by decide))) (pa_cons (pe_isE T rfl G.f_isinstance (pv 0) rfl (E.g 10 (by decide))) pa_nil))))))
        (pss_cons (ps_set (i := 1) sc_marks.nd rfl (.inl rfl) (pe_op op_cat (pv 1) (pe_lst (pa_cons (pe_isE T rfl G.f_isinstance (pv 0) rfl (E.g 11 (by decide))) (pa_cons (pe_isE T rfl G.f_isinstance (pv 0) rfl (E.g 12 (by decide))) (pa_cons (pe_isE T rfl G.f_isinstance (pv 0) rfl (E.g 13 (by decide))) (pa_cons (pe_isE T rfl G.f_isinstance (pv 0) rfl (E.g 14 (by decide))) pa_nil)))))))
          (pss_cons (ps_set (i := 1) sc_marks.nd rfl (.inl rfl) (pe_op op_cat (pv 1) (pe_lst (pa_cons (pe_isE T rfl G.f_isinstance (pv 0) rfl (E.g 15 (by decide))) (pa_cons (pe_isE T rfl G.f_isinstance (pv 0) rfl (E.g 16 (by decide))) (pa_cons (pe_isE T rfl G.f_isinstance (pv 0) rfl (E.g 17 (by decide))) pa_nil))))))
            (pss_cons (ps_set (i := 1) sc_marks.nd rfl (.inl rfl) (pe_op op_cat (pv 1) (pe_lst (pa_cons (pe_isE T rfl G.f_isinstance (pv 0) rfl (E.g 18 (by decide))) (pa_cons (pe_isE T rfl G.f_isinstance (pv 0) rfl (E.g 19 (by decide))) (pa_cons (pe_isE T rfl G.f_isinstance (pv 0) rfl (E.g 20 (by decide))) (pa_cons (pe_isE T rfl G.f_isinstance (pv 0) rfl (E.g 21 (by decide))) pa_nil)))))))
              (pss_cons (ps_set (i := 1) sc_marks.nd rfl (.inl rfl) (pe_op op_cat (pv 1) (pe_lst (pa_cons (pe_isE T rfl G.f_isinstance (pv 0) rfl (E.g 22 (by decide))) (pa_cons (pe_isE T rfl G.f_isinstance (pv 0) rfl (E.g 23 (by decide))) (pa_cons (pe_isE T rfl G.f_isinstance (pv 0) rfl (E.g 24 (by decide))) pa_nil))))))
                (pss_one (ps_ret (pe_op op_cat (pv 1) (pe_lst (pa_cons (pe_isE T rfl G.f_isinstance (pv 0) rfl (E.g 25 (by decide))) (pa_cons (pe_isE T rfl G.f_isinstance (pv 0) rfl (E.g 26 (by decide))) (pa_cons (pe_isE T rfl G.f_isinstance (pv 0) rfl (E.g 27 (by decide))) pa_nil)))))))))))))), ?_⟩
  have TC := E.c i hi
  have kp := fun n a h => kit_pair (fun j hj => E.kit i j hi hj) n a h
  refine si_lst (v := v) (x := x) (Ds := [C 0, C 1, C 2, C 3]) (bs := (List.range' 0 4).map fun j => decide (j = i)) rfl rfl TC hx (kp 4 0 (by decide)) (by show 4 ≤ 1000; decide) fun l1 H1 s1 m1 h1 => ?_
  have t1 := s1
  refine si_cat (v := v) (x := x) (Ds := [C 4, C 5, C 6, C 7]) (as := (List.range' 0 4).map fun j => decide (j = i)) (bs := (List.range' 4 4).map fun j => decide (j = i)) rfl rfl rfl h1 TC (hx.mono t1) (kp 4 4 (by decide)) (by show 4 + 4 ≤ 1000; decide) fun l2 H2 s2 m2 h2 => ?_
  have t2 := t1.trans s2
  refine si_cat (v := v) (x := x) (Ds := [C 8, C 9, C 10]) (as := (List.range' 0 8).map fun j => decide (j = i)) (bs := (List.range' 8 3).map fun j => decide (j = i)) rfl rfl rfl h2 TC (hx.mono t2) (kp 3 8 (by decide)) (by show 8 + 3 ≤ 1000; decide) fun l3 H3 s3 m3 h3 => ?_
  have t3 := t2.trans s3
  refine si_cat (v := v) (x := x) (Ds := [C 11, C 12, C 13, C 14]) (as := (List.range' 0 11).map fun j => decide (j = i)) (bs := (List.range' 11 4).map fun j => decide (j = i)) rfl rfl rfl h3 TC (hx.mono t3) (kp 4 11 (by decide)) (by show 11 + 4 ≤ 1000; decide) fun l4 H4 s4 m4 h4 => ?_
  have t4 := t3.trans s4
  refine si_cat (v := v) (x := x) (Ds := [C 15, C 16, C 17]) (as := (List.range' 0 15).map fun j => decide (j = i)) (bs := (List.range' 15 3).map fun j => decide (j = i)) rfl rfl rfl h4 TC (hx.mono t4) (kp 3 15 (by decide)) (by show 15 + 3 ≤ 1000; decide) fun l5 H5 s5 m5 h5 => ?_
  have t5 := t4.trans s5
  refine si_cat (v := v) (x := x) (Ds := [C 18, C 19, C 20, C 21]) (as := (List.range' 0 18).map fun j => decide (j = i)) (bs := (List.range' 18 4).map fun j => decide (j = i)) rfl rfl rfl h5 TC (hx.mono t5) (kp 4 18 (by decide)) (by show 18 + 4 ≤ 1000; decide) fun l6 H6 s6 m6 h6 => ?_
  have t6 := t5.trans s6
  refine si_cat (v := v) (x := x) (Ds := [C 22, C 23, C 24]) (as := (List.range' 0 22).map fun j => decide (j = i)) (bs := (List.range' 22 3).map fun j => decide (j = i)) rfl rfl rfl h6 TC (hx.mono t6) (kp 3 22 (by decide)) (by show 22 + 3 ≤ 1000; decide) fun l7 H7 s7 m7 h7 => ?_
  have t7 := t6.trans s7
  refine si_ret (v := v) (x := x) (Ds := [C 25, C 26, C 27]) (as := (List.range' 0 25).map fun j => decide (j = i)) (bs := (List.range' 25 3).map fun j => decide (j = i)) rfl rfl rfl h7 TC (hx.mono t7) (kp 3 25 (by decide)) (by show 25 + 3 ≤ 1000; decide) fun l8 H8 s8 m8 h8 => ?_
  have t8 := t7.trans s8
  exact q l8 H8 t8 (same_back t7 m8) h8
end
end Ev

namespace Ev
open PySem PySem.Spec PyProof.Rows L2
abbrev s_law : Stmt := top 37
theorem sc_law : FnScope ["_law_script", "_law_k", "_law_thing", "_law_told", "_law_number", "_law_error", "_law_at"] ["_law_script"] (defScope s_law) := ⟨rfl, rfl, rfl, by decide +kernel, rfl, by decide +kernel, by decide +kernel⟩
theorem errCs_get {C : Nat → Addr} {j : Nat} {D : Addr} (h : (errCs C)[j]? = some D) : j < 28 ∧ D = C j := by
  have e : errCs C = (List.range 28).map C := rfl
  rw [e, List.getElem?_map] at h
  by_cases hj : j < 28
  · rw [List.getElem?_range hj] at h
    exact ⟨hj, (Option.some.inj h).symm⟩
  · rw [List.getElem?_eq_none (by rw [List.length_range]; omega)] at h
    cases h
section
variable {P : Program} {w : World} {K : PySem.W.Frag} {mg : Str → Option Value} {base : Heap} {f R fI f0 f1 f2 f3 f4 f5 : Addr} {fd fdI fd0 fd1 fd2 fd3 fd4 fd5 : FuncData} {C : Nat → Addr}
theorem ok_law (S : SysIn K) (G : Free mg) (T : ErrR P K R fI fdI) (E : Errs K mg R fI C) (F : FnP K "law" s_law f fd) (F0 : FnP K "_law_pot" s_pot f0 fd0) (g0 : mg "_law_pot" = some (.ref f0))
    (F1 : FnP K "_law_take" s_take f1 fd1) (g1 : mg "_law_take" = some (.ref f1)) (F2 : FnP K "_law_of" s_of f2 fd2) (g2 : mg "_law_of" = some (.ref f2)) (F3 : FnP K "_law_any_value" s_any f3 fd3) (g3 : mg "_law_any_value" = some (.ref f3))
    (F4 : FnP K "_law_all_made" s_made f4 fd4) (g4 : mg "_law_all_made" = some (.ref f4)) (F5 : FnP K "_law_marks" s_marks f5 fd5) (g5 : mg "_law_marks" = some (.ref f5)) :
    FnG P w K mg base CX0 5 f fd ["_law_script"] (spTrue K) := by
  have b0 : Binds K fd0 ["_law_script", "_law_number"] [] := F0.bindsN fun _ _ _ _ _ _ us hl => match us, hl with | [_, _], _ => rfl
  have b3 : Binds K fd3 ["_law_pot_here"] [] := F3.bindsN fun _ _ _ _ _ _ us hl => match us, hl with | [_], _ => rfl
  have b4 : Binds K fd4 ["_law_thing"] [] := F4.bindsN fun _ _ _ _ _ _ us hl => match us, hl with | [_], _ => rfl
  have b5 : Binds K fd5 ["_law_e"] [] := F5.bindsN fun _ _ _ _ _ _ us hl => match us, hl with | [_], _ => rfl
  have GP : FnOk P w K mg base CX0 1 f0 fd0 ["_law_script", "_law_number"] (spPot K) := ok_pot G F0
  have GA : FnOk P w K mg base CX0 3 f3 fd3 ["_law_pot_here"] (spAny K) := ok_any G F3 F1 g1 F2 g2
  have GM : FnOk P w K mg base CX0 3 f4 fd4 ["_law_thing"] (spMade (errCs C)) := ok_made T E F4
  have GK : FnOk P w K mg base CX0 1 f5 fd5 ["_law_e"] (spMarks C) := ok_marks G T E F5
  refine FnG.by_body F sc_law (fun vs H Q E h => ?_) (fun cdv A outer s H vs Q E0' g hr h => ?_)
  · obtain ⟨a, ns, rfl, _⟩ := h
    rfl
  obtain ⟨a, ns, rfl, hS, hlen, q⟩ := h
  refine ⟨_, PSs.nox (pss_cons (ps_for PassesOwn.never rfl (pi_range1 (by rfl) G.f_range (pa_cons (pe_callB (call_max2 rfl) (by rfl) G.f_max (by decide +kernel) (pa_cons pe_int (pa_cons (pe_callB (call_min2 rfl) (by rfl) G.f_min (by decide +kernel) (pa_cons (pe_callB call_len_seq (by rfl) G.f_len (by decide +kernel) (pa_cons (pv 0) pa_nil)) (pa_cons pe_int pa_nil))) pa_nil))) pa_nil)) (pg_name (i := 1) sc_law.nd rfl (.inl rfl))
    (pss_cons (ps_set (i := 2) sc_law.nd rfl (.inl rfl) (pe_call GA (hr.mono (by decide)) (by rfl) g3 F3.kp b3 .nil pass0 (pa_cons (pe_call GP (hr.mono (by decide)) (by rfl) g0 F0.kp b0 .nil pass0 (pa_cons (pv 0) (pa_cons (pv 1) pa_nil))) pa_nil)))
      (pss_cons (ps_set (i := 3) sc_law.nd rfl (.inl rfl) (pe_callB (call_repr S g hr.units) (by rfl) G.f_repr (by decide +kernel) (pa_cons (pv 2) pa_nil)))
        (pss_one (ps_for PassesOwn.never rfl (pi_enum (by rfl) G.f_enumerate (pa_cons (pe_call GM (hr.mono (by decide)) (by rfl) g4 F4.kp b4 .nil pass0 (pa_cons (pv 2) pa_nil)) pa_nil)) (pg_tup rfl (pgs_cons (pg_name (i := 4) sc_law.nd rfl (.inr rfl)) (pgs_cons (pg_name (i := 5) sc_law.nd rfl (.inl rfl)) pgs_nil)))
          (pss_cons (ps_if (PW.pt (pw_or (pt_not (pt_val (pe_isE T rfl G.f_isinstance (pv 5) rfl E.gR))) (pw_or (pt_not (pt_val (pe_callB (call_isiE T) (by rfl) G.f_isinstance bt_isinstance (pa_cons (pv 5) (pa_cons (pe_bltn (v := .ty "ValueError") (by rfl) G.f_ValueError (by decide +kernel) rfl) pa_nil))))) (pw_or1 (pt_cmpR op_ne (pe_callB (call_repr S g hr.units) (by rfl) G.f_repr (by decide +kernel) (pa_cons (pe_value T (pv 5)) pa_nil)) (pv 3) (nomark _))))))
            (pss_one (ps_ret pe_bl))
            pss_nil)
            (pss_one (ps_if (pt_cmpR (op_neD hr.units) (pe_call GK (hr.mono (by decide)) (by rfl) g5 F5.kp b5 .nil pass0 (pa_cons (pv 5) pa_nil)) (pe_lc (own := [("_law_at", 6)]) (g := gName 6) (tt := tYes) rfl sc_law.nd (pi_range1 (by rfl) G.f_range (pa_cons pe_int pa_nil)) (blkOk_by (own := [("_law_at", 6)]) (N := ["_law_script", "_law_k", "_law_thing", "_law_told", "_law_number", "_law_error", "_law_at"]) (sc := defScope s_law) (by decide +kernel)) (fun _ _ _ _ _ => pg_name (i := 6) sc_law.nd rfl (Or.inl rfl)) (fun _ _ _ _ _ => pts_nil) (fun _ _ _ _ _ => pe_cmpR op_eq (pv 6) (pv 4) (nomark _))) (nomark _))
              (pss_one (ps_ret pe_bl))
              pss_nil))))))))
    (pss_one (ps_ret pe_bl))), ?_⟩
  have hL : ((ns.map V.int).length : Int) ≤ 63 := by
    rw [List.length_map]
    omega
  obtain ⟨N, hN, hN4⟩ : ∃ N : Nat, (if (if (4 : Int) < ((ns.map V.int).length : Int) then (4 : Int) else ((ns.map V.int).length : Int)) > 1 then (if (4 : Int) < ((ns.map V.int).length : Int) then (4 : Int) else ((ns.map V.int).length : Int)) else 1) = (N : Int) ∧ N ≤ 4 := by
    refine ⟨_, (Int.toNat_of_nonneg ?_).symm, ?_⟩
    · split <;> (try split) <;> omega
    · split <;> (try split) <;> omega
  refine ⟨_, rfl, a, _, rfl, .inl hS, _, _, rfl, _, _, rfl, N, congrArg (fun z => [V.int z]) hN, by omega, by omega, ?_⟩
  refine for_range (lo := 0) (n := N) (fun i σ H' => ∃ y1 y2 y3 y4 y5 y6, σ = [some (.ref a), y1, y2, y3, y4, y5, y6] ∧ Same H H')
    ⟨none, none, none, none, none, none, rfl, fun _ _ e => e⟩ ?_ ?_
  · rintro i σ H1 hi ⟨y1, y2, y3, y4, y5, y6, rfl, s1⟩
    refine ⟨_, rfl, _, rfl, a, ns, i, by rw [Int.zero_add]; rfl, s1.seq hS, by omega, fun p H2 np s2 hP => ?_⟩
    refine ⟨p, 1000, rfl, hP.less (by decide), fun v d H3 kb hP3 rp nice => ?_⟩
    have rp3 : Rp K H3 v d := rp.mono del_same_of
    have s3 : Same H1 H3 := kb.same s2 np
    refine ⟨_, rfl, v, d, rfl, rp3, nice.show_, Nat.le_trans nice.deep (by decide), Nat.le_trans nice.short (by decide), ?_⟩
    -- the errors
    refine ⟨_, rfl, v, rfl, fun l xs H4 s4 nl hl he => ?_⟩
    refine ⟨l, xs, rfl, seqL hl, ?_⟩
    refine for_enum (K := K) (a := l) (xs := xs) (fun i' σ H' => ∃ y4 y5 y6, σ = [some (.ref a), some (.int (0 + (i : Int))), some v, some (.str d.shown), y4, y5, y6] ∧ Same H4 H')
      ⟨y4, y5, y6, rfl, fun _ _ e => e⟩ (fun i' σ H' _ ⟨_, _, _, _, sm⟩ => sm.seq (seqL hl)) ?_ ?_
    · rintro j x σ H5 T' hx ⟨z4, z5, z6, rfl, s5⟩ nT
      obtain ⟨Cj, hC, hE⟩ := he.get hx
      obtain ⟨hj, rfl⟩ := errCs_get hC
      refine ⟨T', [.int (j : Nat), x], rfl, .inl (.inl upd_same), rfl, _, [x], rfl, x, [], rfl, rfl, ?_⟩
      have s6 := same_new (o := HO.tup [.int (j : Nat), x]) nT
      have hE6 := (hE.mono s5).mono s6
      have rp6 := ((rp3.mono s4).mono s5).mono s6
      obtain ⟨ea, ed, rfl, h2, h3⟩ := hE6
      refine ⟨_, rfl, ea, C j, ed, _, _, _, true, rfl, .own R, E.c j hj, h2, h3, E.kR j hj, true, rfl, iteF ?_⟩
      refine ⟨_, rfl, ea, C j, ed, _, _, _, true, rfl, .ty "ValueError", E.c j hj, h2, h3, E.kV j hj, true, rfl, iteF ?_⟩
      refine ⟨_, rfl, ea, C j, ed, v, rfl, E.c j hj, h2, h3, v, d, rfl, rp6, nice.show_, Nat.le_trans nice.deep (by decide), Nat.le_trans nice.short (by decide), ?_⟩
      refine ⟨_, rfl, rfl, _, rfl, iteNS rfl ?_⟩
      refine ⟨_, rfl, j, v, .ref ea, rfl, hj, ⟨ea, ed, rfl, h2, h3⟩, fun lm H7 s7 nm hm => ?_⟩
      refine ⟨28, rfl, by decide, by decide, fun D nD => ?_⟩
      refine lc_range (lo := 0) (n := 28) (fun i' H' => Same H7 H' ∧ H' D = some (.lst (((List.range' 0 i').map fun t => decide (t = j)).map V.bl))) ⟨same_new nD, upd_same⟩ ?_ ?_
      · rintro i' H8 hi' ⟨s8, h8⟩
        refine ⟨rfl, _, rfl, _, rfl, rfl, _, h8, ?_, ?_, ?_⟩
        · rw [List.length_map, List.length_map, List.length_range']
          exact Nat.lt_trans hi' (by decide)
        · exact fun b o e => by
            rw [upd_ne (ne_of_none e nD)]
            exact s8 b o e
        · rw [upd_same, List.range'_concat, List.map_append, List.map_append]
          have e : decide (V.int (0 + (i' : Int)) = V.int (j : Int)) = decide (0 + 1 * i' = j) := by
            apply decide_eq_decide.mpr
            constructor
            · intro z
              have := V.int.inj z
              omega
            · intro z
              congr 1
              omega
          rw [e]
          rfl
      · rintro H8 ⟨s8, h8⟩
        have hm8 := s8 _ _ hm
        refine ⟨_, _, .lst (seqL hm8) (dp_bools _), .lst (seqL h8) (dp_bools _), shaped_bools _, shaped_bools _, _, rfl, ?_⟩
        have e : PyData.eqv (.list (((List.range' 0 28).map fun t => decide (t = j)).map PyData.bool)) (.list (((List.range' 0 28).map fun t => decide (t = j)).map PyData.bool)) = true :=
          SeqAt.eqv_refl _ (lay_bools _)
        rw [e]
        exact iteF ⟨_, _, _, rfl, ((s5.trans s6).trans s7).trans s8⟩
    · rintro σ H5 ⟨z4, z5, z6, rfl, s5⟩
      exact ⟨_, _, _, _, _, _, rfl, ((s1.trans s3).trans s4).trans s5⟩
  · rintro σ H1 ⟨y1, y2, y3, y4, y5, y6, rfl, s1⟩
    exact q H1
end
end Ev

namespace Ev
open PySem PySem.Spec PyProof.Rows L2 He
def pI1 : Pos := ⟨4, 17, 4, 21⟩
def pI2 : Pos := ⟨4, 23, 4, 28⟩
def qI : Nat → Pos := fun i => ([⟨5, 8, 5, 13⟩, ⟨5, 8, 5, 15⟩, ⟨5, 8, 5, 24⟩, ⟨5, 25, 5, 30⟩, ⟨5, 8, 5, 31⟩, ⟨5, 8, 5, 31⟩, ⟨6, 8, 6, 12⟩, ⟨6, 8, 6, 18⟩, ⟨6, 21, 6, 26⟩, ⟨6, 8, 6, 26⟩] : List Pos).getD i ⟨0, 0, 0, 0⟩
def defD (x : Str) (st : Stmt) : DefD := ⟨(x, none), x, x, defArgs st, defBody st, defScope st, [], []⟩
def fns : List DefD := [defD "_law_pot" s_pot, defD "_law_take" s_take, defD "_law_of" s_of, defD "_law_any_value" s_any, defD "_law_all_made" s_made, defD "_law_marks" s_marks, defD "law" s_law]
def freeNames : List Str := ["len", "int", "abs", "max", "min", "range", "repr", "isinstance", "enumerate", "ValueError"]
def defNames : List Str := ["_law_pot", "_law_take", "_law_of", "_law_any_value", "_law_all_made", "_law_marks", "law"]
abbrev R : PySem.W.OpenRow := PySem.W.OpenLaw.row PySem.Challenge.rw_everyrun_k00_errors_keep_their_value
def kitB (K : PySem.W.Frag) (cs : List Addr) : Bool := (List.range 28).all fun i => (List.range 28).all fun j => eqB (PySem.W.kitOne K (.ref (ga K (errName i))) (.ref (ga K (errName j)))) (some (decide (j = i)))
def exB (K : PySem.W.Frag) : Bool := sysB K && (errRB R.prog.main.file K && (errB K "RunError" && (errNames.all (errB K) && (freeNames.all (fun x => eqO (PySem.W.nsIn K mainGlobals x) (some none)) &&
  (defNames.all (fun x => (Fa.glo x).ok K) && (kitB K [] && ((List.range 28).all fun i => eqB (PySem.W.kitOne K (.ref (ga K (errName i))) (.ref (aR K))) (some true) && eqB (PySem.W.kitOne K (.ref (ga K (errName i))) (.type "ValueError")) (some true))))))))
abbrev hk : PySem.W.Hook := hookV 5 fns (initVal pI1 pI2 qI) exB
def ob (s : PySem.W.SharedT) : AlV := obsV 5 fns exB (HandSHeadRun.getT s)
theorem ob_eq (s : PySem.W.SharedT) : ob s = hk.obs s.abs := obsV_eq (HandSHeadRun.getT_eq s)
def loose : List Str := (["RunError", "BadProgram", "NoFunction", "NoBlock", "BadState", "BadWay", "BadRun", "BadPrice", "BadInlined", "BadRows", "BadOrder", "BadFlipped"] : List Str) ++ (["BadMarked", "BadPrices", "NoItem", "BadWeb", "OtherProgram", "BadNumber", "TooLong", "NoCall", "BadTimes", "NoBound", "BadPump", "BadChange"] : List Str) ++ (["BadLayouts", "NothingToUndo", "NothingToRedo", "BadText", "BadJournal", "_law_pot", "_law_take", "_law_of", "_law_any_value", "_law_all_made", "_law_marks"] : List Str)
theorem run (w : World) : HandSHeadRun.RunEq R (PySem.W.view R.prog [37]) hk ob 8000 loose w := by
  intro os
  kernel_rfl
end Ev

namespace Ev
open PySem PySem.Spec PyProof.Rows L2 He
theorem all_of {α : Type} {p : α → Bool} {l : List α} (h : l.all p = true) {x : α} (hx : x ∈ l) : p x = true := List.all_eq_true.mp h x hx
theorem facts {w : World} {K : PySem.W.Frag} {h : Heap} {mg : Str → Option Value} {f : Addr} (X : K.In h) (G : h.Ns mainGlobals mg) (hfa : mg ("law" : Str) = some (.ref f)) (c : obsK fns exB K = valV fns (initVal pI1 pI2 qI)) :
    ∃ fd : FuncData, (∀ (s : Shared) (v : Value), BindsTo s fd ⟨[v], []⟩ [("_law_script", v)]) ∧ ∀ base : Heap, K.In base → base.Ns mainGlobals mg → FnG R.prog w K mg base CX0 5 f fd ["_law_script"] (spTrue K) := by
  obtain ⟨ce, ci, cd⟩ := saysV c
  obtain ⟨x1, ce⟩ := ba ce
  obtain ⟨x2, ce⟩ := ba ce
  obtain ⟨x3, ce⟩ := ba ce
  obtain ⟨x4, ce⟩ := ba ce
  obtain ⟨x5, ce⟩ := ba ce
  obtain ⟨x6, ce⟩ := ba ce
  obtain ⟨x7, x8⟩ := ba ce
  obtain ⟨fdI, T⟩ := errRB_ok (P := R.prog) (p1 := pI1) (p2 := pI2) (q := qI) (by decide) (by decide +kernel) ci x2
  have fr : ∀ y ∈ freeNames, mg y = none := fun y hy => PySem.W.mg_none_of X G (eqO_ok (all_of x5 hy))
  have gl : ∀ y ∈ defNames, mg y = some (.ref (ga K y)) := fun y hy => glo_ok X G (all_of x6 hy)
  have GF : Free mg := ⟨fr _ (by decide), fr _ (by decide), fr _ (by decide), fr _ (by decide), fr _ (by decide), fr _ (by decide), fr _ (by decide), fr _ (by decide), fr _ (by decide), fr _ (by decide)⟩
  have memE : ∀ i, i < 28 → errName i ∈ errNames := fun i hi => by
    unfold errName
    rw [List.getD_eq_getElem?_getD, List.getElem?_eq_getElem (show i < errNames.length from hi)]
    exact List.getElem_mem _
  have E : Errs K mg (aR K) (aI K) (fun i => ga K (errName i)) :=
    { g := fun i hi => PySem.W.mg_of X G (errB_ok (all_of x4 (memE i hi))).2
      c := fun i hi => (errB_ok (all_of x4 (memE i hi))).1
      kit := fun i j hi hj => eqB_ok (all_of (all_of x7 (List.mem_range.mpr hi)) (List.mem_range.mpr hj))
      kR := fun i hi => eqB_ok (ba (all_of x8 (List.mem_range.mpr hi))).1
      kV := fun i hi => eqB_ok (ba (all_of x8 (List.mem_range.mpr hi))).2
      gR := PySem.W.mg_of X G (errB_ok x3).2 }
  obtain ⟨fd0, F0⟩ := cd.def_ 0 (d := defD "_law_pot" s_pot) rfl
  obtain ⟨fd1, F1⟩ := cd.def_ 1 (d := defD "_law_take" s_take) rfl
  obtain ⟨fd2, F2⟩ := cd.def_ 2 (d := defD "_law_of" s_of) rfl
  obtain ⟨fd3, F3⟩ := cd.def_ 3 (d := defD "_law_any_value" s_any) rfl
  obtain ⟨fd4, F4⟩ := cd.def_ 4 (d := defD "_law_all_made" s_made) rfl
  obtain ⟨fd5, F5⟩ := cd.def_ 5 (d := defD "_law_marks" s_marks) rfl
  obtain ⟨fd, F⟩ := cd.def_ 6 (d := defD "law" s_law) rfl
  have e := hfa.symm.trans (gl "law" (by decide))
  cases e
  have b := FunD.bindsA (ps := ["_law_script"]) F fun _ _ _ _ _ _ us hl => match us, hl with | [_], _ => rfl
  exact ⟨fd, fun s v => b s [v] rfl, fun base _ _ => ok_law (sysB_ok x1) GF T E F F0 (gl _ (by decide)) F1 (gl _ (by decide)) F2 (gl _ (by decide)) F3 (gl _ (by decide)) F4 (gl _ (by decide)) F5 (gl _ (by decide))⟩
end Ev
open PySem PySem.W PySem.Calls PyProof.Rows
theorem PySem.Challenge.cw_everyrun_k00_errors_keep_their_value_holds : PySem.Challenge.rw_everyrun_k00_errors_keep_their_value.Holds := by
  w_on; o_law
  refine HandSHeadRun.head_any (r := Ev.R) (q := view Ev.R.prog [37]) (H := Ev.hk) (ob := Ev.ob) (M := 8000) (loose := Ev.loose) (d := HandSHeadRun.topDef Ev.R.prog 37) (kwd := []) Ev.ob_eq
    (by kernel_rfl) (fun s => by kernel_rfl) Ev.run (by kernel_rfl) (by kernel_rfl) (by kernel_rfl) (by rfl) (by first | assumption | decide +kernel) (by decide +kernel) ⟨rfl, rfl, rfl, rfl, rfl, by decide +kernel⟩ ?hw ?hc
  case hw => w_witness2
  case hc =>
    refine Ev.walk_G (l := PySem.Challenge.rw_everyrun_k00_errors_keep_their_value) (n := 63) (k := 5) (x := "_law_script") rfl (by decide) (by kernel_rfl) ⟨rfl, by decide, by decide⟩ ?F
    intro w mg fa h Y G hmg0
    obtain ⟨K, KX, c⟩ := Y
    have hmg : mg ("law" : PySem.Str) = some (.ref fa) := by
      have e : (HandSHeadRun.topDef Ev.R.prog 37).name = ("law" : PySem.Str) := by kernel_rfl
      rw [← e]
      exact hmg0
    obtain ⟨fd, hb, hF⟩ := Ev.facts (w := w) KX G hmg c
    exact ⟨K, fd, Ev.spTrue K, KX, hb, fun H a ns hl _ hS => ⟨a, ns, rfl, hS, hl, fun _ => rfl⟩, hF⟩

