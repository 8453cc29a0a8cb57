import PyProof.Rows.All
import Wide.All
import OpenK.AllK
import Wide.FinOn
import HandS.Base
import HandS.Call
import HandS.List
import HandS.CallSlots
import HandS.Exc
import HandS.ExcOwn
import HandS.Ends
import HandS.Words
import HandS.WordsExc
import HandS.Walk
import HandS.Comp
import HandS.ExcInit
import HandS.ExcField
import HandS.IsInst
import HandS.Wide
import HandS.Text
import HandS.Codes
import HandS.TupAny
import PyProof.Rows.RuleB_pow
import PyProof.StrBlock2
import HandS.Style
import HandS.Dict
import HandS.DeepEq
import HandS.Zip
import KE.GoesMore
import HandS.Defaults
import HandS.MapSum
import HandS.Iter
import HandS.WideMore
import HandS.TryMany
import HandS.NoneIn
import KE.GoesEnum
import KE.KEqNest
import KE.IntTextLaws
import KE.KIntText
import HandS.StrMore
import HandS.ExcCtx
import HandS.SuiteRaise
import HandS.RaiseFrom
import HandS.ExcInitHot
import KE.KDictPairs
import PyProof.ReprRoads
import PyProof.CallStr
import PySem.Challenge.RW_takebacks_k44_roots
set_option Elab.async false
set_option linter.all false
set_option maxRecDepth 100000
set_option autoImplicit false
/-! Defs called where no repr is under way (what str() of containers wants). -/
namespace Tk
open PySem PySem.Spec PyProof.Rows L2
/-- room for k calls within one another, nothing handled, no repr under way -/
structure Room (k : Nat) (A : Around) : Prop where
  hd : A.handled = none
  dp : A.depth + 3 * k + 5 < recursionLimit
  un : A.units + 16 * k + 200 < cLine
  gd : A.guards = some []
theorem Room.l2 {k : Nat} {A : Around} (r : Room k A) : L2.Room k A := ⟨r.hd, r.dp, r.un⟩
theorem Room.mono {j k : Nat} {A : Around} (r : Room k A) (h : j ≤ k) : Room j A := ⟨r.hd, (r.l2.mono h).dp, (r.l2.mono h).un, r.gd⟩
theorem Room.deeper {k : Nat} {A : Around} (r : Room (k + 1) A) (env : Env) : Room k (A.deeper env) := ⟨r.hd, (r.l2.deeper env).dp, (r.l2.deeper env).un, r.gd⟩
theorem Room.make {k : Nat} {A : Around} (r : Room (k + 1) A) (C : Addr) (us : List Value) (kw : List (Str × Value)) : Room k (A.under (.builtin "type.__call__" ⟨.ref C :: us, kw⟩)) :=
  ⟨(r.l2.make C us kw).hd, (r.l2.make C us kw).dp, (r.l2.make C us kw).un, by
    have h : (A.under (.builtin "type.__call__" ⟨.ref C :: us, kw⟩)).guards = A.guards := by
      have g : (Code.builtin "type.__call__" ⟨.ref C :: us, kw⟩).guards = [] := by
        unfold Code.guards Code.isGuard
        have z : guardIds.contains "type.__call__" = false := by decide
        exact if_neg (by dsimp only; rw [z]; exact Bool.false_ne_true)
      show pushGuards (Code.builtin "type.__call__" ⟨.ref C :: us, kw⟩).guards A.guards = A.guards
      rw [g]; rfl
    rw [h]; exact r.gd⟩
/-- a def's promise -/
structure FnOk (P : Program) (w : World) (K : PySem.W.Frag) (mg : Str → Option Value) (base : Heap) (CX : CXT) (k : Nat) (f : Addr) (fd : FuncData) (ps : List Str) (sp : Sp) : Prop where
  len : ∀ vs H Q E, sp vs H Q E → vs.length = ps.length
  run : ∀ (A : Around) (outer : List Env) (s : Shared) (H : Hp) (args : Args) (us : List Value) (vs : List V) (Q : VK) (E : XK), Room k A → Env0 P w K mg base A outer s H → BindsTo s fd args (ps.zip us) → Vals vs us → sp vs H Q E → codeAny (model P w) A (.call (.ref f) args) (CR CX outer P w H s Q E) s
section
variable {P : Program} {w : World} {K : PySem.W.Frag} {mg : Str → Option Value} {base : Heap} {CX : CXT} {k : Nat} {f : Addr} {fd : FuncData} {ps : List Str} {sp : Sp}
theorem FnOk.mono {j : Nat} (F : FnOk P w K mg base CX j f fd ps sp) (h : j ≤ k) : FnOk P w K mg base CX k f fd ps sp := ⟨F.len, fun A o s H as us vs Q E hr => F.run A o s H as us vs Q E (hr.mono h)⟩
theorem okG {x qual : Str} {st : Stmt} {N : List Str} (F : Fun K x qual st f fd) (S : FnScope N ps (defScope st)) (len : ∀ vs H Q E, sp vs H Q E → vs.length = ps.length)
    (hbd : ∀ (cdv : Value) (A : Around) (outer : List Env) (s : Shared) (H : Hp) (vs : List V) (Q : VK) (E : XK), Room k (A.deeper (envOfC qual (defScope st) s.heap.objs.size f cdv)) → sp vs H Q E →
      ∃ t, PSs (cxOf CX P w K mg base N qual (defScope st) f cdv A outer s H E) (defBody st) t ∧ t { nx := fun _ H' => Q .non H', rt := Q } (start N vs) H) : FnOk P w K mg base CX (k + 1) f fd ps sp := by
  obtain ⟨oc, od, kV, doc, pm, an, cdv, ct, osl, rfl, lk, hcd⟩ := F.ex
  refine ⟨len, fun A o s H as us vs Q E hr e0 hb r hp => ?_⟩
  have ln := len _ _ _ _ hp
  have keep : ∀ b u, base.get? b = some u → s.heap.get? b = some u := fun b u e => (e0.bs b u e).1
  have KX := e0.mod.kin.keeps keep
  have lim := e0.mod.nolimit.keeps keep
  refine codeAny_call_function hr.l2.depth (KX _ _ lk) rfl S.co S.gen rfl (PySem.W.codeRec_of KX hcd) (hb _ _ _ _ ?_)
  refine wpAny_newFunctionEnv_cells S.kind (fun ⟨n, v⟩ hy => (S.par n (List.of_mem_zip hy).1).imp id fun q => ⟨q, PySem.W.cellsFrom_some _ _ _ (.inl q)⟩) fun env he s1 x1 => ?_
  subst he
  refine ⟨lim.keeps x1.toInCall.keep, codeAny_func ?_⟩
  obtain ⟨t, ht, hq⟩ := hbd cdv A o s H vs Q E (hr.deeper _) hp
  refine wpAny_mono (ht.run [] s1 (start N vs) H _ (inv_start S hr.hd e0 ln r x1) hq) (fun fl s' hs => ?_) fun _ _ hs => hs
  cases fl with
  | ret u =>
    obtain ⟨v, τ, H', J, rv, q⟩ := hs
    exact ⟨v, H', J.os, J.bare, J.base, J.hok, rv, q⟩
  | next =>
    obtain ⟨τ, H', J, q⟩ := hs
    exact ⟨V.non, H', J.os, J.bare, J.base, J.hok, (rfl : RelV V.non Value.none), q⟩
  | brk => exact hs.choose_spec.choose_spec.2.elim
  | cont => exact hs.choose_spec.choose_spec.2.elim
end
section
variable {X : Cx} {CX : CXT} {k : Nat} {f C : Addr} {fd : FuncData} {ps : List Str} {sp : Sp} {E : L2.St → XK} {x m : Str} {p pos apos : Pos} {e o : Expr} {es : List Expr} {ta : TE} {t : TA}
theorem run_fnS {pins : List (Addr × Obj)} {σ : L2.St} {H : Hp} {s : Shared} {Q : VK} {us : List Value} {vs : List V} (F : FnOk X.prog X.w X.K X.mg X.base CX k f fd ps sp) (hr : Room k X.A) (hb : Binds X.K fd ps []) (hx : PassesAt CX X σ (E σ))
    (I : Inv X pins σ H s) (r : Vals vs us) (h : sp vs H Q (E σ)) : wpAny (model X.prog X.w) X.A (call (.ref f) us) (EP X pins σ Q) X.xe s := by
  have ln : (us ++ []).length = ps.length := by rw [List.append_nil, ← r.length]; exact F.len _ _ _ _ h
  have bd := hb s us I.kIn ln
  rw [List.append_nil] at bd
  apply wpAny_call
  refine codeAny_mono (F.run X.A X.stack s H ⟨us, []⟩ us vs Q (E σ) hr I.env0 bd r h) fun r s' hq => ?_
  match r, hq with
  | .error e, hq => exact hx pins H s e s' I hq
  | .ok (.ret u), hq => exact I.after hq
  | .ok .next, hq => exact hq.elim
  | .ok .brk, hq => exact hq.elim
  | .ok .cont, hq => exact hq.elim
theorem pe_callS (F : FnOk X.prog X.w X.K X.mg X.base CX k f fd ps sp) (hr : Room k X.A) (hg : Gl X x) (hm : X.mg x = some (.ref f)) (hk : PySem.W.keepIn X.K (.ref f) = true) (hb : Binds X.K fd ps []) (hx : ∀ σ, PassesAt CX X σ (E σ))
    (ha : PA X (e :: es) t) (hdb : (x == ("__debug__" : Str)) = false := by decide) (he : starEach (e :: es) X.env = (false, eval e X.env) :: starEach es X.env := by rfl) (hpl : (backTo pos (starEach es X.env)).any (·.1) = false := by rfl) :
    PE X (.Call (.Name x p) (e :: es) [] pos) (tCallS sp E t) := by
  constructor
  intro pins s σ H Q I h
  apply wpAny_Call_Name_kw
  refine ld_glob I hg hm ?_ hdb
  exact PySem.W.callWith_K (h₀ := X.base) I.ok.mod.kin hk (thn (ha.run pos pins s σ H _ I h) fun us s1 ⟨vs, H1, I1, r, q⟩ => ⟨I1.kIn, run_fnS F hr hb (hx σ) I1 r q⟩) he hpl
end
/-! ### the law's end -/
theorem ints_vals : ∀ {us : List Value} {ns : List Int}, IntsAre us ns → Vals (ns.map V.int) us
  | _, _, .nil => .nil
  | _, _, .cons n t h => .cons ⟨t, rfl⟩ (ints_vals h)
theorem law_callG {P : Program} {w : World} {K : PySem.W.Frag} {mg mb : Str → Option Value} {k : Nat} {fa a : Addr} {fd : FuncData} {x : Str} {sp : Sp} {s1 : Shared} {us : List Value} {ns : List Int} {CX : CXT}
    (KX : K.In s1.heap) (hns : s1.heap.Ns mainGlobals mg) (hb : s1.heap.Ns builtinsNs mb) (hbb : ∀ x : Str, x ≠ "__name__" → mb x = bootBuiltins x) (hlim : s1.heap.NoLimit) (hg : s1.gens = #[])
    (ha : s1.heap.get? a = some { cls := .type "list", data := .seq us.toArray }) (hi : IntsAre us ns) (hl : ns.length ≤ sizeLine) (hr : Room k callerA)
    (F : ∀ base : Heap, K.In base → base.Ns mainGlobals mg → FnOk P w K mg base CX k fa fd [x] sp) (hbd : ∀ (s : Shared) (u : Value), BindsTo s fd ⟨[u], []⟩ [(x, u)])
    (hsp : ∀ H : Hp, SqL K H a (ns.map V.int) → sp [.ref a] H (fun v _ => v = .bl true) fun _ _ _ => False) (hCX : ∀ H e s', CX [] H s1 (fun _ _ _ => False) e s' → False) :
    codeAny (model P w) callerA (.call (.ref fa) ⟨[.ref a], []⟩) (fun r s' => r = .ok (.ret (.bool true)) ∧ OldK s1.heap s'.heap ∧ s'.os = s1.os ∧ AllBare s'.gens) s1 := by
  have rv := ints_vals hi
  have hlv : us.length ≤ sizeLine := by rw [hi.length]; exact hl
  let ob : Obj := { cls := .type "list", data := .seq us.toArray }
  -- H: the script alone, unless it is one of the module's own objects
  let H : Hp := fun b => if b = a ∧ K.lookup a = none then some (.frz ob (.lst (ns.map V.int))) else none
  have Hin : ∀ {b : Addr}, H b ≠ none → b = a ∧ K.lookup a = none := fun {b} h => by
    by_cases z : b = a ∧ K.lookup a = none
    · exact z
    · exact absurd (if_neg z) h
  have Hval : ∀ {b : Addr} {u : HO}, H b = some u → b = a ∧ u = .frz ob (.lst (ns.map V.int)) := fun {b u} h => by
    have z := Hin (b := b) (by rw [h]; simp)
    have e : H b = some (.frz ob (.lst (ns.map V.int))) := if_pos z
    rw [e] at h
    exact ⟨z.1, (Option.some.inj h).symm⟩
  have hok : HOk P w H s1.heap := fun b u h => by
    obtain ⟨rfl, rfl⟩ := Hval h
    exact ⟨ha, by rw [List.length_map]; exact hl, us, _, rv, ha⟩
  have hS : SqL K H a (ns.map V.int) := by
    cases hk : K.lookup a with
    | some o =>
      have e := KX a o hk
      rw [ha] at e
      cases e
      exact .inr ⟨_, us.toArray, _, hk, rfl, rfl, rfl, by rw [List.size_toArray]; exact hlv, by simpa using rv⟩
    | none => exact .inl (.inr ⟨ob, if_pos ⟨rfl, hk⟩⟩)
  have low : ∀ {b : Addr} {o : Obj}, s1.heap.get? b = some o → H b = none → (hidT s1.heap H).get? b = some o := fun e n => hidT_get e n
  have dicts : ∀ {b : Addr} {o : Obj} {es : Array DictEntry} {ep : Nat}, s1.heap.get? b = some o → o.data = .dict es ep → H b = none := fun {b o es ep} e d => by
    cases q : H b with
    | none => rfl
    | some u =>
      obtain ⟨rfl, _⟩ := Hval q
      rw [ha] at e
      cases e
      cases d
  have nsL : ∀ {b : Addr} {m : Str → Option Value}, s1.heap.Ns b m → (hidT s1.heap H).Ns b m := fun {b m} ⟨o, es, ep, e, d, r⟩ => ⟨o, es, ep, low e (dicts e d), d, r⟩
  have KB : K.In (hidT s1.heap H) := fun b o e => low (KX b o e) (by
    cases q : H b with
    | none => rfl
    | some u =>
      obtain ⟨z1, z2⟩ := Hin (b := b) (by rw [q]; simp)
      rw [z1, z2] at e
      cases e)
  have M : Mod K mg (hidT s1.heap H) := ⟨KB, nsL hns, ⟨mb, nsL hb, hbb⟩, let ⟨mc, h1, h2⟩ := hlim; ⟨mc, nsL h1, h2⟩⟩
  have e0 : Env0 P w K mg (hidT s1.heap H) callerA [] s1 H := ⟨rfl, M, fun b o e => of_hidT e, Nat.le_of_eq (hidT_size _ _), trivial, (fun b hb => nomatch hb), hok, .of_eq hg⟩
  refine codeAny_mono ((F _ KB (nsL hns)).run callerA [] s1 H ⟨[.ref a], []⟩ [.ref a] [.ref a] _ _ hr e0 (hbd s1 (.ref a)) (.cons rfl .nil) (hsp H hS)) fun r s' h => ?_
  match r, h with
  | .error e, h => exact (hCX H e s' h).elim
  | .ok .next, h => exact h.elim
  | .ok .brk, h => exact h.elim
  | .ok .cont, h => exact h.elim
  | .ok (.ret u), h =>
    obtain ⟨v, H', os, bare, un, hok', rv', q⟩ := h
    cases (show v = .bl true from q)
    cases (show u = Value.bool true from rv')
    refine ⟨rfl, OldK.of_keep fun b o e => ?_, os, bare⟩
    cases q : H b with
    | none => exact un.keep b o e q (fun z => nomatch z) (by simp)
    | some u =>
      obtain ⟨_, rfl⟩ := Hval q
      have e2 := (hok' b _ (un.frzs b ob _ q)).1
      have e1 := (hok b _ q).1
      rw [e] at e1
      cases e1
      exact e2
theorem walk_ofG {l : PySem.W.OpenLaw} {n k : Nat} {q : Program} {loose : List Str} {XP : (Str → Option Value) → Heap → Prop} {YP : World → Heap → Prop} {d : DefRec} {K : Params → PySem.W.Frag} {CX : World → CXT} {sp : World → Sp} {x : Str}
    (hn : l.most = some n) (hn2 : n ≤ sizeLine) (hdf : d.params.defaults = []) (hr : Room k callerA) (hY : ∀ (w : World) (h : Heap), YP w h → (K w.params).In h)
    (F : ∀ (w : World) (mg : Str → Option Value) (fa : Addr) (h : Heap), (K w.params).In h → h.Ns mainGlobals mg → mg d.name = some (.ref fa) →
      ∃ fd : FuncData, (∀ (s : Shared) (u : Value), BindsTo s fd ⟨[u], []⟩ [(x, u)]) ∧ ∀ base : Heap, (K w.params).In base → base.Ns mainGlobals mg → FnOk l.prog w (K w.params) mg base (CX w) k fa fd [x] (sp w))
    (hsp : ∀ (w : World) (H : Hp) (a : Addr) (ns : List Int), ns.length ≤ n → SqL (K w.params) H a (ns.map V.int) → sp w [.ref a] H (fun v _ => v = .bl true) fun _ _ _ => False)
    (hCX : ∀ (w : World) (H : Hp) (s : Shared) (e : Value) (s' : Shared), CX w [] H s (fun _ _ _ => False) e s' → False) : PySem.W.WalkO q loose XP YP l.row.toRowW d [] (fun f vs => PySem.call f vs) := by
  refine Att.attach_call hn hdf fun w s0 s1 mg mb fa o pm cd doc a us ns G Y ho hd hcd hmg hobj hints hlen hg => ?_
  have KX := hY w _ Y
  obtain ⟨fd, hb, hF⟩ := F w mg fa _ KX G.T.g hmg
  exact law_callG KX G.T.g G.T.b G.T.builtins G.T.nolimit hg hobj hints (Nat.le_trans hlen hn2) hr hF hb (fun H hS => hsp w H a ns hlen hS) fun H e s' => hCX w H s1 e s'
end Tk
/-! Tk: Python data as plain Lean data; what of the heap stands for it; the frame of a step. -/
namespace Tk
open PySem PySem.Spec PyProof.Rows L2

/-- plain data: texts are their code points, lists and tuples by value -/
inductive D where
  | non | bl (b : Bool) | int (i : Int) | str (s : List Nat) | tup (xs : List D) | lst (xs : List D) | dic (kvs : List (D × D)) | scr (ns : List Int)
  deriving Inhabited

/-- a tuple of which it is known that its object has no dict -/
def SqN (K : PySem.W.Frag) (H : Hp) (a : Addr) (xs : List V) : Prop :=
  (∃ o : Obj, H a = some (.frz o (.tup xs)) ∧ o.dict = none) ∨
    ∃ (o : Obj) (its : Array Value) (n : Nat), K.lookup a = some o ∧ (o.cls = .type "tuple" ∧ o.dict = none) ∧ o.data = .seq its n ∧ its.size ≤ sizeLine ∧ Vals xs its.toList
theorem SqN.sq {K : PySem.W.Frag} {H : Hp} {a : Addr} {xs : List V} (h : SqN K H a xs) : SqT K H a xs := by
  rcases h with ⟨o, h, _⟩ | ⟨o, its, n, h1, h2, h3⟩
  · exact .inl (.inr ⟨o, h⟩)
  · exact .inr ⟨o, its, n, h1, h2.1, h3⟩
mutual
inductive Rep (K : PySem.W.Frag) (G : Hp) : V → D → Prop
  | non : Rep K G .non .non
  | bl (b : Bool) : Rep K G (.bl b) (.bl b)
  | int (i : Int) : Rep K G (.int i) (.int i)
  | str (s : List Nat) : Rep K G (.str ⟨s.toArray⟩) (.str s)
  | lst {a : Addr} {vs : List V} {ds : List D} : G a = some (.lst vs) → Reps K G vs ds → Rep K G (.ref a) (.lst ds)
  | scr {a : Addr} {ns : List Int} : SqL K G a (ns.map V.int) → Rep K G (.ref a) (.scr ns)
  | tup {a : Addr} {vs : List V} {ds : List D} : SqN K G a vs → Reps K G vs ds → Rep K G (.ref a) (.tup ds)
  | dic {a : Addr} {kvs : List (Key × V)} {ds : List (D × D)} : G a = some (.dK kvs) → RepD K G kvs ds → Rep K G (.ref a) (.dic ds)
inductive Reps (K : PySem.W.Frag) (G : Hp) : List V → List D → Prop
  | nil : Reps K G [] []
  | cons {v : V} {d : D} {vs : List V} {ds : List D} : Rep K G v d → Reps K G vs ds → Reps K G (v :: vs) (d :: ds)
inductive RepD (K : PySem.W.Frag) (G : Hp) : List (Key × V) → List (D × D) → Prop
  | nil : RepD K G [] []
  | int {i : Int} {v : V} {d : D} {vs : List (Key × V)} {ds : List (D × D)} : Rep K G v d → RepD K G vs ds → RepD K G ((.inl i, v) :: vs) ((.int i, d) :: ds)
  | str {s : List Nat} {v : V} {d : D} {vs : List (Key × V)} {ds : List (D × D)} : Rep K G v d → RepD K G vs ds → RepD K G ((.inr ⟨s.toArray⟩, v) :: vs) ((.str s, d) :: ds)
end

def Ex (H H' : Hp) : Prop := ∀ a o, H a = some o → H' a = some o
theorem Ex.refl (H : Hp) : Ex H H := fun _ _ h => h
theorem Ex.trans {H H1 H2 : Hp} (a : Ex H H1) (b : Ex H1 H2) : Ex H H2 := fun x o h => b x o (a x o h)
theorem Ex.rd {H H' : Hp} {a : Addr} {u : HO} (e : Ex H H') (h : Rd H a u) : Rd H' a u := by
  rcases h with h | ⟨o, h⟩
  · exact .inl (e a _ h)
  · exact .inr ⟨o, e a _ h⟩
theorem Ex.sl {K : PySem.W.Frag} {H H' : Hp} {a : Addr} {xs : List V} (e : Ex H H') (h : SqL K H a xs) : SqL K H' a xs := by
  rcases h with h | h
  · exact .inl (e.rd h)
  · exact .inr h
theorem Ex.st {K : PySem.W.Frag} {H H' : Hp} {a : Addr} {xs : List V} (e : Ex H H') (h : SqT K H a xs) : SqT K H' a xs := by
  rcases h with h | h
  · exact .inl (e.rd h)
  · exact .inr h
theorem Ex.sn {K : PySem.W.Frag} {H H' : Hp} {a : Addr} {xs : List V} (e : Ex H H') (h : SqN K H a xs) : SqN K H' a xs := by
  rcases h with ⟨o, h, d⟩ | h
  · exact .inl ⟨o, e a _ h, d⟩
  · exact .inr h
theorem Ex.back {H H' : Hp} {a : Addr} (e : Ex H H') (h : H' a = none) : H a = none := by
  cases q : H a with
  | none => rfl
  | some o => rw [e a o q] at h; cases h
theorem Ex.upd {H : Hp} {p : Addr} {o : HO} (h : H p = none) : Ex H (upd H p o) := fun a u e => by
  rw [upd_ne (ne_of_none e h)]; exact e
theorem Ex.mut {H H' : Hp} {p : Addr} {o : HO} (e : Ex H H') (h : H p = none) : Ex H (L2.upd H' p o) := fun a u ha => by
  rw [upd_ne (ne_of_none ha h)]; exact e a u ha

section
variable {K : PySem.W.Frag} {G G' : Hp}
mutual
theorem Rep.mono (e : Ex G G') : ∀ {v : V} {d : D}, Rep K G v d → Rep K G' v d
  | _, _, .non => .non
  | _, _, .bl b => .bl b
  | _, _, .int i => .int i
  | _, _, .str s => .str s
  | _, _, .lst h r => .lst (e _ _ h) (Reps.mono e r)
  | _, _, .scr h => .scr (e.sl h)
  | _, _, .tup h r => .tup (e.sn h) (Reps.mono e r)
  | _, _, .dic h r => .dic (e _ _ h) (RepD.mono e r)
theorem Reps.mono (e : Ex G G') : ∀ {vs : List V} {ds : List D}, Reps K G vs ds → Reps K G' vs ds
  | _, _, .nil => .nil
  | _, _, .cons a r => .cons (Rep.mono e a) (Reps.mono e r)
theorem RepD.mono (e : Ex G G') : ∀ {vs : List (Key × V)} {ds : List (D × D)}, RepD K G vs ds → RepD K G' vs ds
  | _, _, .nil => .nil
  | _, _, .int a r => .int (Rep.mono e a) (RepD.mono e r)
  | _, _, .str a r => .str (Rep.mono e a) (RepD.mono e r)
end
theorem Reps.length : ∀ {vs : List V} {ds : List D}, Reps K G vs ds → vs.length = ds.length
  | _, _, .nil => rfl
  | _, _, .cons _ r => congrArg (· + 1) (Reps.length r)
theorem Reps.get : ∀ {vs : List V} {ds : List D} {i : Nat} {d : D}, Reps K G vs ds → ds[i]? = some d → ∃ v, vs[i]? = some v ∧ Rep K G v d
  | _, _, _, _, .nil, e => by simp at e
  | _, _, 0, _, .cons a _, e => by simp at e; subst e; exact ⟨_, rfl, a⟩
  | _, _, i + 1, d, .cons _ r, e => by
    obtain ⟨v, h1, h2⟩ := Reps.get (i := i) (d := d) r (by simpa using e)
    exact ⟨v, by simpa using h1, h2⟩
theorem Reps.get' : ∀ {vs : List V} {ds : List D} {i : Nat} {v : V}, Reps K G vs ds → vs[i]? = some v → ∃ d, ds[i]? = some d ∧ Rep K G v d
  | _, _, _, _, .nil, e => by simp at e
  | _, _, 0, _, .cons a _, e => by simp at e; subst e; exact ⟨_, rfl, a⟩
  | _, _, i + 1, d, .cons _ r, e => by
    obtain ⟨v, h1, h2⟩ := Reps.get' (i := i) r (by simpa using e)
    exact ⟨v, by simpa using h1, h2⟩
theorem Reps.append : ∀ {vs ws : List V} {ds es : List D}, Reps K G vs ds → Reps K G ws es → Reps K G (vs ++ ws) (ds ++ es)
  | _, _, _, _, .nil, s => s
  | _, _, _, _, .cons a r, s => .cons a (Reps.append r s)
theorem Reps.take : ∀ {vs : List V} {ds : List D} (n : Nat), Reps K G vs ds → Reps K G (vs.take n) (ds.take n)
  | _, _, 0, _ => by simpa using Reps.nil
  | _, _, _ + 1, .nil => .nil
  | _, _, n + 1, .cons a r => .cons a (Reps.take n r)
theorem Reps.drop : ∀ {vs : List V} {ds : List D} (n : Nat), Reps K G vs ds → Reps K G (vs.drop n) (ds.drop n)
  | _, _, 0, r => r
  | _, _, _ + 1, .nil => .nil
  | _, _, n + 1, .cons _ r => Reps.drop n r
theorem Reps.set {v : V} {d : D} (a : Rep K G v d) : ∀ {vs : List V} {ds : List D} (i : Nat), Reps K G vs ds → Reps K G (vs.set i v) (ds.set i d)
  | _, _, _, .nil => .nil
  | _, _, 0, .cons _ r => .cons a r
  | _, _, i + 1, .cons b r => .cons b (Reps.set a i r)
theorem Reps.ints : ∀ {vs : List V} {ns : List Int}, Reps K G vs (ns.map D.int) → vs = ns.map V.int
  | _, [], .nil => rfl
  | _, _ :: _, .cons (.int _) r => by rw [Reps.ints r]; rfl
theorem Reps.ofInts : ∀ (ns : List Int), Reps K G (ns.map V.int) (ns.map D.int)
  | [] => .nil
  | n :: r => .cons (.int n) (Reps.ofInts r)
theorem Reps.bls : ∀ {vs : List V} {ns : List Bool}, Reps K G vs (ns.map D.bl) → vs = ns.map V.bl
  | _, [], .nil => rfl
  | _, _ :: _, .cons (.bl _) r => by rw [Reps.bls r]; rfl
theorem Reps.strs : ∀ {vs : List V} {ns : List (List Nat)}, Reps K G vs (ns.map D.str) → vs = ns.map fun s => V.str ⟨s.toArray⟩
  | _, [], .nil => rfl
  | _, _ :: _, .cons (.str _) r => by rw [Reps.strs r]; rfl
end

/-- the content of an object of our own -/
def RepO (K : PySem.W.Frag) (G : Hp) : HO → D → Prop
  | .lst vs, .lst ds => Reps K G vs ds
  | .dK kvs, .dic ds => RepD K G kvs ds
  | _, _ => False
theorem RepO.mono {K : PySem.W.Frag} {G G' : Hp} (e : Ex G G') {o : HO} {d : D} (h : RepO K G o d) : RepO K G' o d := by
  cases o <;> cases d <;> first | exact h.elim | exact Reps.mono e h | exact RepD.mono e h
theorem RepO.rep {K : PySem.W.Frag} {G : Hp} {a : Addr} {o : HO} {d : D} (ha : G a = some o) (h : RepO K G o d) : Rep K G (.ref a) d := by
  cases o <;> cases d <;> first | exact h.elim | exact .lst ha h | exact .dic ha h

/-- a step from the ghost heap G (what never changes) and the heap H to G' and H': the objects at S may have changed -/
structure Fr (S : List Addr) (G H G' H' : Hp) : Prop where
  g : Ex G G'
  h : ∀ a o, a ∉ S → H a = some o → H' a = some o
  n : ∀ a, H a ≠ none → G' a = G a
  e : Ex G' H'
  d : ∀ a, H a ≠ none → H' a ≠ none
theorem Fr.refl {S : List Addr} {G H : Hp} (e : Ex G H) : Fr S G H G H := ⟨Ex.refl G, fun _ _ _ h => h, fun _ _ => rfl, e, fun _ h => h⟩
theorem Fr.trans {S : List Addr} {G H G1 H1 G2 H2 : Hp} (a : Fr S G H G1 H1) (b : Fr S G1 H1 G2 H2) : Fr S G H G2 H2 :=
  ⟨a.g.trans b.g, fun x o n h => b.h x o n (a.h x o n h), fun x n => (b.n x (a.d x n)).trans (a.n x n), b.e, fun x n => b.d x (a.d x n)⟩
theorem Fr.more {S T : List Addr} {G H G' H' : Hp} (a : Fr S G H G' H') (s : ∀ x ∈ S, x ∈ T) : Fr T G H G' H' :=
  ⟨a.g, fun x o n h => a.h x o (fun z => n (s x z)) h, a.n, a.e, a.d⟩
theorem Fr.alloc {G H : Hp} {p : Addr} {o : HO} (e : Ex G H) (hp : H p = none) : Fr [] G H (upd G p o) (upd H p o) := by
  have gp : G p = none := e.back hp
  refine ⟨Ex.upd gp, fun a u _ h => Ex.upd hp a u h, fun a n => ?_, fun a u h => ?_, fun a n => ?_⟩
  · have : a ≠ p := fun z => n (by rw [z]; exact hp)
    exact upd_ne this
  · by_cases z : a = p
    · subst z; rw [upd_same] at h ⊢; exact h
    · rw [upd_ne z] at h ⊢; exact e a u h
  · by_cases z : a = p
    · subst z; rw [upd_same]; simp
    · rw [upd_ne z]; exact n
theorem Fr.allocO {G H : Hp} {p : Addr} {o : HO} (e : Ex G H) (hp : H p = none) : Fr [] G H G (upd H p o) := by
  refine ⟨Ex.refl G, fun a u _ h => Ex.upd hp a u h, fun a _ => rfl, fun a u h => Ex.upd hp a u (e a u h), fun a n => ?_⟩
  by_cases z : a = p
  · subst z; rw [upd_same]; simp
  · rw [upd_ne z]; exact n
theorem Fr.write {G H : Hp} {p : Addr} {o u : HO} (e : Ex G H) (gp : G p = none) (hp : H p = some u) : Fr [p] G H G (upd H p o) := by
  refine ⟨Ex.refl G, fun a u n h => ?_, fun a _ => rfl, e.mut gp, fun a n => ?_⟩
  · rw [upd_ne (fun z => n (by simp [z]))]; exact h
  · by_cases z : a = p
    · subst z; rw [upd_same]; simp
    · rw [upd_ne z]; exact n
/-! ### tuples whose objects are known -/
section
variable {X : Cx} {es : List Expr} {t : TA} {pos : Pos}
def tTupF (t : TA) : TE := fun σ H Q => t σ H fun xs H1 => xs.length ≤ sizeLine ∧ ∀ p o, H1 p = none → o.dict = none → Q (.ref p) (upd H1 p (.frz o (.tup xs)))
theorem frz_tup {P : Program} {w : World} {H : Hp} {h : Heap} {a : Addr} {xs : List V} {us : List Value} {o : Obj} (z : xs.length ≤ sizeLine) (r : Vals xs us) (e : h.get? a = some o) (c : o.cls = .type "tuple") (d : ∃ n, o.data = .seq us.toArray n) : ObjOk P w H h a (.frz o (.tup xs)) :=
  ⟨e, z, us, r, ⟨o, e, c, d⟩⟩
theorem pe_tupF {k : Nat} (h : PA X es t) : PE X (.Tuple es k pos) (tTupF t) := by
  constructor
  intro pins s σ H Q I hq
  apply wpAny_Tuple_spliced
  refine thn (h.run pos pins s σ H _ I hq) fun us s1 ⟨xs, H1, I1, r, z, q⟩ => ⟨r.length ▸ z, ?_⟩
  exact ⟨.ref s1.heap.objs.size, _, I1.laid (t' := s1.toks) (fun b u e => Heap.get?_push_of_some _ e) (Nat.le_refl _) (frz_tup z r (Heap.get?_push_size _ rfl) rfl ⟨_, rfl⟩), rfl, q _ _ (I1.hok.fresh (Nat.le_refl _)) rfl⟩
theorem call_tupleF : CallR X (.type "tuple") (fun xs H Q => ∃ p ys, xs = [.ref p] ∧ ((SqL X.K H p ys ∧ ∀ l o, H l = none → o.dict = none → Q (.ref l) (upd H l (.frz o (.tup ys)))) ∨ (SqT X.K H p ys ∧ Q (.ref p) H))) := by
  rintro pins s σ H xs us Q I r ⟨p, ys, rfl, h⟩
  obtain ⟨u, rfl, rx⟩ := vals1 r
  cases rx
  rcases h with ⟨hq, q⟩ | ⟨hq, q⟩
  · obtain ⟨its, rv, pl, hz⟩ := I.list hq
    have hl := rv.length
    refine call_tuple_list pl.isList (fun h' kp => ?_) (by rw [List.size_toArray]; omega)
    have J : Inv X pins σ H { s with heap := h' } := I.kept (t' := s.toks) kp
    exact ⟨.ref h'.objs.size, _, J.laid (t' := s.toks) (fun b o e => Heap.get?_push_of_some _ e) (Nat.le_refl _) (frz_tup hz rv (Heap.get?_push_size _ rfl) rfl ⟨_, rfl⟩), rfl, q _ _ (J.hok.fresh (Nat.le_refl _)) rfl⟩
  · obtain ⟨its, rv, pl, hz⟩ := I.tuple hq
    exact call_tuple_same pl ⟨.ref p, H, I, rfl, q⟩
end
end Tk
/-! Own trees: containers of our own within containers of our own, instances with their fields. -/
namespace Tk
open PySem PySem.Spec PyProof.Rows L2
def sameK : D → D → Bool
  | .int i, .int j => decide (i = j)
  | .str s, .str t => decide (s = t)
  | _, _ => false
def getK (k : D) : List (D × D) → Option D
  | [] => none
  | (j, d) :: r => if sameK j k = true then some d else getK k r
/-- no key stands twice -/
def uniqK : List (D × D) → Bool
  | [] => true
  | (j, _) :: r => (getK j r).isNone && uniqK r
mutual
/-- what of a tree is our own: nothing (data), a list, a dict, an instance of the class of that name with its fields -/
inductive Sh where
  | fz | lst (s : Sh) | dic (s : Sh) | obj (c : Str) (fs : Fs)
inductive Fs where
  | nil | cons (f : Str) (s : Sh) (r : Fs)
end
instance : Inhabited Sh := ⟨.fz⟩
def Dj (f g : List Addr) : Prop := ∀ x, x ∈ f → x ∉ g
theorem Dj.symm {f g : List Addr} (h : Dj f g) : Dj g f := fun x a b => h x b a
theorem Dj.nil {g : List Addr} : Dj [] g := fun x h => nomatch h
theorem Dj.nil' {g : List Addr} : Dj g [] := fun x _ h => nomatch h
mutual
/-- v is the tree d, its objects at fp -/
inductive Own (K : PySem.W.Frag) (G H : Hp) : Sh → V → D → List Addr → Prop
  | fz {v : V} {d : D} : Rep K G v d → Own K G H .fz v d []
  | lst {s : Sh} {a : Addr} {vs : List V} {ds : List D} {fp : List Addr} : H a = some (.lst vs) → G a = none → Owns K G H s vs ds fp → a ∉ fp → Own K G H (.lst s) (.ref a) (.lst ds) (a :: fp)
  | dic {s : Sh} {a : Addr} {vs : List (Key × V)} {ds : List (D × D)} {fp : List Addr} : H a = some (.dK vs) → G a = none → OwnD K G H s vs ds fp → a ∉ fp → uniqK ds = true → Own K G H (.dic s) (.ref a) (.dic ds) (a :: fp)
  | obj {c : Str} {fs : Fs} {C a dx : Addr} {vs : List (Str × V)} {ds : List D} {fp : List Addr} : PySem.W.nsIn K mainGlobals c = some (some (.ref C)) → H a = some (.ins C dx vs) → H dx = some (.own a) → G a = none → G dx = none → OwnF K G H fs vs ds fp → a ∉ fp → dx ∉ fp → a ≠ dx → Own K G H (.obj c fs) (.ref a) (.tup ds) (a :: dx :: fp)
inductive Owns (K : PySem.W.Frag) (G H : Hp) : Sh → List V → List D → List Addr → Prop
  | nil {s : Sh} : Owns K G H s [] [] []
  | cons {s : Sh} {v : V} {d : D} {vs : List V} {ds : List D} {f g : List Addr} : Own K G H s v d f → Owns K G H s vs ds g → Dj f g → Owns K G H s (v :: vs) (d :: ds) (f ++ g)
inductive OwnD (K : PySem.W.Frag) (G H : Hp) : Sh → List (Key × V) → List (D × D) → List Addr → Prop
  | nil {s : Sh} : OwnD K G H s [] [] []
  | int {s : Sh} {i : Int} {v : V} {d : D} {vs : List (Key × V)} {ds : List (D × D)} {f g : List Addr} : Own K G H s v d f → OwnD K G H s vs ds g → Dj f g → OwnD K G H s ((.inl i, v) :: vs) ((.int i, d) :: ds) (f ++ g)
  | str {s : Sh} {i : List Nat} {v : V} {d : D} {vs : List (Key × V)} {ds : List (D × D)} {f g : List Addr} : Own K G H s v d f → OwnD K G H s vs ds g → Dj f g → OwnD K G H s ((.inr ⟨i.toArray⟩, v) :: vs) ((.str i, d) :: ds) (f ++ g)
inductive OwnF (K : PySem.W.Frag) (G H : Hp) : Fs → List (Str × V) → List D → List Addr → Prop
  | nil : OwnF K G H .nil [] [] []
  | cons {x : Str} {s : Sh} {r : Fs} {v : V} {d : D} {vs : List (Str × V)} {ds : List D} {f g : List Addr} : Own K G H s v d f → OwnF K G H r vs ds g → Dj f g → OwnF K G H (.cons x s r) ((x, v) :: vs) (d :: ds) (f ++ g)
end
section
variable {K : PySem.W.Frag} {G G' H H' : Hp}
mutual
/-- what stands at the tree's objects -/
theorem Own.objs : ∀ {s : Sh} {v : V} {d : D} {fp : List Addr}, Own K G H s v d fp → ∀ x ∈ fp, (∃ o, H x = some o ∧ ∀ fs, o ≠ .xd fs) ∧ G x = none
  | _, _, _, _, .fz _, x, h => nomatch h
  | _, _, _, _, .lst h1 h2 h3 _, x, h => by
    rcases List.mem_cons.mp h with rfl | h
    · exact ⟨⟨_, h1, fun fs e => nomatch e⟩, h2⟩
    · exact Owns.objs h3 x h
  | _, _, _, _, .dic h1 h2 h3 _ _, x, h => by
    rcases List.mem_cons.mp h with rfl | h
    · exact ⟨⟨_, h1, fun fs e => nomatch e⟩, h2⟩
    · exact OwnD.objs h3 x h
  | _, _, _, _, .obj _ h1 h2 h3 h4 h5 _ _ _, x, h => by
    rcases List.mem_cons.mp h with rfl | h
    · exact ⟨⟨_, h1, fun fs e => nomatch e⟩, h3⟩
    · rcases List.mem_cons.mp h with rfl | h
      · exact ⟨⟨_, h2, fun fs e => nomatch e⟩, h4⟩
      · exact OwnF.objs h5 x h
theorem Owns.objs : ∀ {s : Sh} {v : List V} {d : List D} {fp : List Addr}, Owns K G H s v d fp → ∀ x ∈ fp, (∃ o, H x = some o ∧ ∀ fs, o ≠ .xd fs) ∧ G x = none
  | _, _, _, _, .nil, x, h => nomatch h
  | _, _, _, _, .cons a r _, x, h => by
    rcases List.mem_append.mp h with h | h
    · exact Own.objs a x h
    · exact Owns.objs r x h
theorem OwnD.objs : ∀ {s : Sh} {v : List (Key × V)} {d : List (D × D)} {fp : List Addr}, OwnD K G H s v d fp → ∀ x ∈ fp, (∃ o, H x = some o ∧ ∀ fs, o ≠ .xd fs) ∧ G x = none
  | _, _, _, _, .nil, x, h => nomatch h
  | _, _, _, _, .int a r _, x, h => by
    rcases List.mem_append.mp h with h | h
    · exact Own.objs a x h
    · exact OwnD.objs r x h
  | _, _, _, _, .str a r _, x, h => by
    rcases List.mem_append.mp h with h | h
    · exact Own.objs a x h
    · exact OwnD.objs r x h
theorem OwnF.objs : ∀ {s : Fs} {v : List (Str × V)} {d : List D} {fp : List Addr}, OwnF K G H s v d fp → ∀ x ∈ fp, (∃ o, H x = some o ∧ ∀ fs, o ≠ .xd fs) ∧ G x = none
  | _, _, _, _, .nil, x, h => nomatch h
  | _, _, _, _, .cons a r _, x, h => by
    rcases List.mem_append.mp h with h | h
    · exact Own.objs a x h
    · exact OwnF.objs r x h
end
mutual
/-- nothing of the tree has changed -/
theorem Own.keep (e : Ex G G') : ∀ {s : Sh} {v : V} {d : D} {fp : List Addr}, Own K G H s v d fp → (∀ x ∈ fp, H' x = H x ∧ G' x = none) → Own K G' H' s v d fp
  | _, _, _, _, .fz r, _ => .fz (r.mono e)
  | _, _, _, _, .lst h1 h2 h3 h4, k => .lst ((k _ (.head _)).1.trans h1) (k _ (.head _)).2 (Owns.keep e h3 fun x hx => k x (.tail _ hx)) h4
  | _, _, _, _, .dic h1 h2 h3 h4 h5, k => .dic ((k _ (.head _)).1.trans h1) (k _ (.head _)).2 (OwnD.keep e h3 fun x hx => k x (.tail _ hx)) h4 h5
  | _, _, _, _, .obj h0 h1 h2 h3 h4 h5 h6 h7 h8, k => .obj h0 ((k _ (.head _)).1.trans h1) ((k _ (.tail _ (.head _))).1.trans h2) (k _ (.head _)).2 (k _ (.tail _ (.head _))).2 (OwnF.keep e h5 fun x hx => k x (.tail _ (.tail _ hx))) h6 h7 h8
theorem Owns.keep (e : Ex G G') : ∀ {s : Sh} {v : List V} {d : List D} {fp : List Addr}, Owns K G H s v d fp → (∀ x ∈ fp, H' x = H x ∧ G' x = none) → Owns K G' H' s v d fp
  | _, _, _, _, .nil, _ => .nil
  | _, _, _, _, .cons a r j, k => .cons (Own.keep e a fun x hx => k x (List.mem_append_left _ hx)) (Owns.keep e r fun x hx => k x (List.mem_append_right _ hx)) j
theorem OwnD.keep (e : Ex G G') : ∀ {s : Sh} {v : List (Key × V)} {d : List (D × D)} {fp : List Addr}, OwnD K G H s v d fp → (∀ x ∈ fp, H' x = H x ∧ G' x = none) → OwnD K G' H' s v d fp
  | _, _, _, _, .nil, _ => .nil
  | _, _, _, _, .int a r j, k => .int (Own.keep e a fun x hx => k x (List.mem_append_left _ hx)) (OwnD.keep e r fun x hx => k x (List.mem_append_right _ hx)) j
  | _, _, _, _, .str a r j, k => .str (Own.keep e a fun x hx => k x (List.mem_append_left _ hx)) (OwnD.keep e r fun x hx => k x (List.mem_append_right _ hx)) j
theorem OwnF.keep (e : Ex G G') : ∀ {s : Fs} {v : List (Str × V)} {d : List D} {fp : List Addr}, OwnF K G H s v d fp → (∀ x ∈ fp, H' x = H x ∧ G' x = none) → OwnF K G' H' s v d fp
  | _, _, _, _, .nil, _ => .nil
  | _, _, _, _, .cons a r j, k => .cons (Own.keep e a fun x hx => k x (List.mem_append_left _ hx)) (OwnF.keep e r fun x hx => k x (List.mem_append_right _ hx)) j
end
end
/-! the objects of a tree, as the heap tells them -/
mutual
def fpOf (H : Hp) : Sh → V → List Addr
  | .fz, _ => []
  | .lst s, v => match v with
    | .ref a => a :: (match H a with | some (.lst vs) => vs.flatMap (fpOf H s) | _ => [])
    | _ => []
  | .dic s, v => match v with
    | .ref a => a :: (match H a with | some (.dK vs) => vs.flatMap (fun kv => fpOf H s kv.2) | _ => [])
    | _ => []
  | .obj _ fs, v => match v with
    | .ref a => (match H a with | some (.ins _ dx vs) => a :: dx :: fpF H fs vs | _ => [a])
    | _ => []
def fpF (H : Hp) : Fs → List (Str × V) → List Addr
  | .cons _ s r, kv :: vs => fpOf H s kv.2 ++ fpF H r vs
  | _, _ => []
end
section
variable {K : PySem.W.Frag} {G H : Hp}
mutual
theorem Own.fp : ∀ {s : Sh} {v : V} {d : D} {fp : List Addr}, Own K G H s v d fp → fpOf H s v = fp
  | _, _, _, _, .fz _ => by rw [fpOf]
  | _, _, _, _, .lst h1 _ h3 _ => by
    rw [fpOf]; simp only [h1, Owns.fp h3]
  | _, _, _, _, .dic h1 _ h3 _ _ => by
    rw [fpOf]; simp only [h1, OwnD.fp h3]
  | _, _, _, _, .obj _ h1 _ _ _ h5 _ _ _ => by
    rw [fpOf]; simp only [h1, OwnF.fp h5]
theorem Owns.fp : ∀ {s : Sh} {v : List V} {d : List D} {fp : List Addr}, Owns K G H s v d fp → v.flatMap (fpOf H s) = fp
  | _, _, _, _, .nil => rfl
  | _, _, _, _, .cons a r _ => by rw [List.flatMap_cons, Own.fp a, Owns.fp r]
theorem OwnD.fp : ∀ {s : Sh} {v : List (Key × V)} {d : List (D × D)} {fp : List Addr}, OwnD K G H s v d fp → v.flatMap (fun kv => fpOf H s kv.2) = fp
  | _, _, _, _, .nil => rfl
  | _, _, _, _, .int a r _ => by rw [List.flatMap_cons, Own.fp a, OwnD.fp r]
  | _, _, _, _, .str a r _ => by rw [List.flatMap_cons, Own.fp a, OwnD.fp r]
theorem OwnF.fp : ∀ {s : Fs} {v : List (Str × V)} {d : List D} {fp : List Addr}, OwnF K G H s v d fp → fpF H s v = fp
  | _, _, _, _, .nil => by rw [fpF]; rintro _ _ _ _ _ h; cases h
  | _, _, _, _, .cons a r _ => by rw [fpF, Own.fp a, OwnF.fp r]
end
end
end Tk
namespace Tk
open PySem PySem.Spec PyProof.Rows L2
mutual
def Sh.beq : Sh → Sh → Bool
  | .fz, .fz => true
  | .lst a, .lst b => a.beq b
  | .dic a, .dic b => a.beq b
  | .obj c f, .obj e g => decide (c = e) && f.beq g
  | _, _ => false
def Fs.beq : Fs → Fs → Bool
  | .nil, .nil => true
  | .cons x a r, .cons y b q => decide (x = y) && (a.beq b && r.beq q)
  | _, _ => false
end
mutual
theorem Sh.beq_eq : ∀ {a b : Sh}, a.beq b = true → a = b
  | .fz, .fz, _ => rfl
  | .lst a, .lst b, h => by rw [Sh.beq] at h; rw [Sh.beq_eq h]
  | .dic a, .dic b, h => by rw [Sh.beq] at h; rw [Sh.beq_eq h]
  | .obj c f, .obj e g, h => by
    rw [Sh.beq, Bool.and_eq_true] at h
    rw [of_decide_eq_true h.1, Fs.beq_eq h.2]
  | .fz, .lst _, h => by simp [Sh.beq] at h
  | .fz, .dic _, h => by simp [Sh.beq] at h
  | .fz, .obj _ _, h => by simp [Sh.beq] at h
  | .lst _, .fz, h => by simp [Sh.beq] at h
  | .lst _, .dic _, h => by simp [Sh.beq] at h
  | .lst _, .obj _ _, h => by simp [Sh.beq] at h
  | .dic _, .fz, h => by simp [Sh.beq] at h
  | .dic _, .lst _, h => by simp [Sh.beq] at h
  | .dic _, .obj _ _, h => by simp [Sh.beq] at h
  | .obj _ _, .fz, h => by simp [Sh.beq] at h
  | .obj _ _, .lst _, h => by simp [Sh.beq] at h
  | .obj _ _, .dic _, h => by simp [Sh.beq] at h
theorem Fs.beq_eq : ∀ {a b : Fs}, a.beq b = true → a = b
  | .nil, .nil, _ => rfl
  | .cons x a r, .cons y b q, h => by
    rw [Fs.beq, Bool.and_eq_true, Bool.and_eq_true] at h
    rw [of_decide_eq_true h.1, Sh.beq_eq h.2.1, Fs.beq_eq h.2.2]
  | .nil, .cons _ _ _, h => by simp [Fs.beq] at h
  | .cons _ _ _, .nil, h => by simp [Fs.beq] at h
end
mutual
theorem Sh.beq_self : ∀ (a : Sh), a.beq a = true
  | .fz => by rw [Sh.beq]
  | .lst a => by rw [Sh.beq]; exact Sh.beq_self a
  | .dic a => by rw [Sh.beq]; exact Sh.beq_self a
  | .obj c f => by rw [Sh.beq, Fs.beq_self f]; simp
theorem Fs.beq_self : ∀ (a : Fs), a.beq a = true
  | .nil => by rw [Fs.beq]
  | .cons x a r => by rw [Fs.beq, Sh.beq_self a, Fs.beq_self r]; simp
end
end Tk
namespace Tk
open PySem PySem.Spec PyProof.Rows L2

/-- a variable: without a value | data that never changes | an object of our own (b: the caller's, lent to us) | the exception of the clause -/
inductive Cell where
  | un | pu (d : D) | ow (b : Bool) (d : D) | er (c : Addr × Addr × Str) (p : D) | tr (b : Bool × Bool) (s : Sh) (d : D)
  deriving Inhabited
abbrev Cs := List Cell
def isO (ρ : Cs) (i : Nat) : Prop := ∃ b d, ρ[i]? = some (.ow b d)
def isT (ρ : Cs) (i : Nat) : Prop := ∃ b s d, ρ[i]? = some (.tr b s d)
/-- the objects of the tree that a variable holds -/
def fpAt (H : Hp) (σ : L2.St) (ρ : Cs) (i : Nat) : List Addr := match ρ[i]?, σ[i]? with
  | some (.tr _ s _), some (some v) => fpOf H s v
  | _, _ => []

/-- the ground of a body: its heaps at the beginning, what it may change (by slot), what is held beside, the clause's exception -/
structure Bs where
  G : Hp
  H : Hp
  P : List (Nat × Addr)
  T : List (Addr × HO)
  U : List (Nat × Addr × List Addr) := []
  ea : Addr := 0
  ei : Nat := 0
  ef : Str := ⟨#[]⟩
  ed : Option Addr := none
  L : Nat → Hp := fun _ _ => none
def Bs.S (B : Bs) : List Addr := B.P.map (·.2) ++ B.U.flatMap (·.2.2)

/-- a tree: locked (not to be changed for now) | lent | our own -/
def TrC (B : Bs) (i : Nat) (a : Addr) (fp : List Addr) : Bool × Bool → Prop
  | (_, true) => True
  | (true, false) => ∃ f0, (i, a, f0) ∈ B.U ∧ ∀ x ∈ fp, x ∈ f0 ∨ B.H x = none
  | (false, false) => ∀ x ∈ fp, B.H x = none
theorem TrC.to {B B' : Bs} {i : Nat} {a : Addr} {fp : List Addr} (hB : B'.H = B.H) (hU : B'.U = B.U) : ∀ {b : Bool × Bool}, TrC B i a fp b → TrC B' i a fp b
  | (_, true), _ => trivial
  | (true, false), ⟨f0, h1, h2⟩ => ⟨f0, by rw [hU]; exact h1, fun x hx => by rw [hB]; exact h2 x hx⟩
  | (false, false), h => fun x hx => by rw [hB]; exact h x hx
/-- the trees that the variables hold -/
structure TrOk (K : PySem.W.Frag) (B : Bs) (σ : L2.St) (G H : Hp) (ρ : Cs) : Prop where
  at_ : ∀ (i : Nat) (b : Bool × Bool) (s : Sh) (d : D), ρ[i]? = some (.tr b s d) → ∃ a fp, σ[i]? = some (some (.ref a)) ∧ Own K G H s (.ref a) d fp ∧ TrC B i a fp b
  dj : ∀ (i j : Nat), i ≠ j → Dj (fpAt H σ ρ i) (fpAt H σ ρ j)
  no : ∀ (i j : Nat) (x : Addr), x ∈ fpAt H σ ρ i → isO ρ j → σ[j]? ≠ some (some (.ref x))
  pn : ∀ (i : Nat) (x : Addr), x ∈ fpAt H σ ρ i → ∀ p ∈ B.T, p.1 ≠ x
  lk : ∀ (i : Nat) (b : Bool) (s : Sh) (d : D), ρ[i]? = some (.tr (b, true) s d) → ∀ x ∈ fpAt H σ ρ i, H x = B.L i x
structure SR (K : PySem.W.Frag) (B : Bs) (σ : L2.St) (G H : Hp) (ρ : Cs) : Prop where
  fr : Fr B.S B.G B.H G H
  len : σ.length = ρ.length
  pu : ∀ (i : Nat) (d : D), ρ[i]? = some (.pu d) → ∃ v, σ[i]? = some (some v) ∧ Rep K G v d
  ow : ∀ (i : Nat) (b : Bool) (d : D), ρ[i]? = some (.ow b d) → ∃ a o, σ[i]? = some (some (.ref a)) ∧ (if b then (i, a) ∈ B.P else B.H a = none) ∧ G a = none ∧ H a = some o ∧ RepO K G o d
  inj : ∀ (i j : Nat) (a : Addr), isO ρ i → isO ρ j → σ[i]? = some (some (.ref a)) → σ[j]? = some (some (.ref a)) → i = j
  pin : ∀ p ∈ B.T, H p.1 = some p.2 ∧ B.H p.1 = none ∧ G p.1 = none ∧ ∀ (i : Nat), isO ρ i → σ[i]? ≠ some (some (.ref p.1))
  er : ∀ (i : Nat) (c : Addr × Addr × Str) (p : D), ρ[i]? = some (.er c p) → σ[i]? = some (some (.ref c.1)) ∧ True ∧ ∃ dd v, c.2.1 = dd ∧ H dd = some (.xd [(c.2.2, v)]) ∧ Rep K G v p
  tr : TrOk K B σ G H ρ

section
variable {K : PySem.W.Frag} {B B' : Bs} {σ σ' : L2.St} {G H G' H' : Hp} {ρ ρ' : Cs}
theorem fpAt_is {i : Nat} {x : Addr} (h : x ∈ fpAt H σ ρ i) : ∃ b s d v, ρ[i]? = some (.tr b s d) ∧ σ[i]? = some (some v) ∧ x ∈ fpOf H s v := by
  unfold fpAt at h
  split at h
  · rename_i b s d v e1 e2; exact ⟨b, s, d, v, e1, e2, h⟩
  · cases h
theorem TrOk.fp (t : TrOk K B σ G H ρ) {i : Nat} {b : Bool × Bool} {s : Sh} {d : D} (h : ρ[i]? = some (.tr b s d)) : ∃ a fp, σ[i]? = some (some (.ref a)) ∧ Own K G H s (.ref a) d fp ∧ fpAt H σ ρ i = fp ∧ TrC B i a fp b := by
  obtain ⟨a, fp, h1, h2, h3⟩ := t.at_ i b s d h
  refine ⟨a, fp, h1, h2, ?_, h3⟩
  unfold fpAt
  rw [h, h1]; exact h2.fp
theorem TrOk.got (t : TrOk K B σ G H ρ) {i : Nat} {x : Addr} (h : x ∈ fpAt H σ ρ i) : (∃ o, H x = some o ∧ ∀ fs, o ≠ .xd fs) ∧ G x = none ∧ ∀ b s d, ρ[i]? = some (.tr (b, false) s d) → x ∈ B.S ∨ B.H x = none := by
  obtain ⟨b, s, d, v, e1, _, _⟩ := fpAt_is h
  obtain ⟨a, fp, h1, h2, h3, h4⟩ := t.fp e1
  rw [h3] at h
  obtain ⟨k1, k2⟩ := h2.objs x h
  refine ⟨k1, k2, fun b' s' d' e' => ?_⟩
  rw [e1] at e'
  cases e'
  cases b' with
  | true =>
    obtain ⟨f0, m1, m2⟩ := h4
    rcases m2 x h with q | q
    · exact .inl (List.mem_append_right _ (List.mem_flatMap.mpr ⟨_, m1, q⟩))
    · exact .inr q
  | false => exact .inr (h4 x h)
/-- the trees are left as they are -/
theorem TrOk.move (t : TrOk K B σ G H ρ) (hB : B'.H = B.H) (hU : B'.U = B.U) (hc : ∀ (i : Nat) (b : Bool × Bool) (s : Sh) (d : D), ρ'[i]? = some (.tr b s d) → ρ[i]? = some (.tr b s d) ∧ σ'[i]? = σ[i]?) (e : Ex G G') (hk : ∀ (i : Nat) (x : Addr), x ∈ fpAt H σ ρ i → H' x = H x ∧ G' x = none)
    (ho : ∀ (i j : Nat) (x : Addr), x ∈ fpAt H σ ρ i → isO ρ' j → σ'[j]? = some (some (.ref x)) → isO ρ j ∧ σ[j]? = some (some (.ref x))) (hT : ∀ p ∈ B'.T, p ∈ B.T ∨ ∀ i, p.1 ∉ fpAt H σ ρ i) (hL : B'.L = B.L := by rfl) : TrOk K B' σ' G' H' ρ' := by
  have key : ∀ i b s d, ρ'[i]? = some (.tr b s d) → ∃ a fp, σ'[i]? = some (some (.ref a)) ∧ Own K G' H' s (.ref a) d fp ∧ fpAt H σ ρ i = fp ∧ fpAt H' σ' ρ' i = fp ∧ TrC B i a fp b := by
    intro i b s d h
    obtain ⟨h1, h2⟩ := hc i b s d h
    obtain ⟨a, fp, k1, k2, k3, k4⟩ := t.fp h1
    have o' := k2.keep e (H' := H') (G' := G') fun x hx => hk i x (by rw [k3]; exact hx)
    refine ⟨a, fp, by rw [h2]; exact k1, o', k3, ?_, k4⟩
    unfold fpAt
    rw [h, h2, k1]; exact o'.fp
  have sub : ∀ i x, x ∈ fpAt H' σ' ρ' i → x ∈ fpAt H σ ρ i := by
    intro i x hx
    obtain ⟨b, s, d, v, e1, _, _⟩ := fpAt_is hx
    obtain ⟨a, fp, _, _, k3, k4, _⟩ := key i b s d e1
    rw [k4] at hx; rw [k3]; exact hx
  refine ⟨fun i b s d h => ?_, fun i j n x h1 h2 => t.dj i j n x (sub i x h1) (sub j x h2), fun i j x hx oj z => ?_, fun i x hx p hp => ?_, fun i b s d h x hx => by
    rw [hL, ← t.lk i b s d (hc i _ s d h).1 x (sub i x hx)]
    exact (hk i x (sub i x hx)).1⟩
  · obtain ⟨a, fp, k1, k2, _, _, k5⟩ := key i b s d h
    exact ⟨a, fp, k1, k2, k5.to hB hU⟩
  · obtain ⟨q1, q2⟩ := ho i j x (sub i x hx) oj z
    exact t.no i j x (sub i x hx) q1 q2
  · rcases hT p hp with q | q
    · exact t.pn i x (sub i x hx) p q
    · intro z; rw [z] at q; exact q i (sub i x hx)
end
section
variable {K : PySem.W.Frag} {B : Bs} {σ : L2.St} {G H G' H' : Hp} {ρ : Cs}
theorem SR.ex (s : SR K B σ G H ρ) : Ex G H := s.fr.e
/-- new things, nothing of ours changed -/
theorem SR.step (s : SR K B σ G H ρ) (f : Fr [] G H G' H') : SR K B σ G' H' ρ := by
  have keep : ∀ a o, H a = some o → H' a = some o := fun a o h => f.h a o (by simp) h
  have gk : ∀ a o, H a = some o → G a = none → G' a = none := fun a o h g => (f.n a (by rw [h]; simp)).trans g
  refine ⟨s.fr.trans (f.more (by simp)), s.len, fun i d e => ?_, fun i b d e => ?_, s.inj, fun p hp => ?_, fun i c p e => ?_, s.tr.move rfl rfl (fun i b s d h => ⟨h, rfl⟩) f.g (fun i x hx => by
    obtain ⟨⟨o, ho, _⟩, hg, _⟩ := s.tr.got hx
    exact ⟨(keep x o ho).trans ho.symm, gk x o ho hg⟩) (fun i j x _ o z => ⟨o, z⟩) (fun p hp => .inl hp)⟩
  · obtain ⟨v, h1, h2⟩ := s.pu i d e
    exact ⟨v, h1, h2.mono f.g⟩
  · obtain ⟨a, o, h1, h2, h3, h4, h5⟩ := s.ow i b d e
    exact ⟨a, o, h1, h2, gk a o h4 h3, keep a o h4, h5.mono f.g⟩
  · obtain ⟨h1, h2, h3, h4⟩ := s.pin p hp
    exact ⟨keep _ _ h1, h2, gk _ _ h1 h3, h4⟩
  · obtain ⟨h1, h2, dd, v, h3, h4, h5⟩ := s.er i c p e
    exact ⟨h1, h2, dd, v, h3, keep _ _ h4, h5.mono f.g⟩
/-- an object that is no cell of ours, and is not held, differs from those -/
theorem SR.fresh (s : SR K B σ G H ρ) {p : Addr} (hp : H p = none) : (∀ (i : Nat), isO ρ i → σ[i]? ≠ some (some (.ref p))) ∧ (∀ q ∈ B.T, q.1 ≠ p) ∧ B.H p = none ∧ G p = none := by
  refine ⟨fun i ⟨b, d, e⟩ h => ?_, fun q hq e => ?_, ?_, s.ex.back hp⟩
  · obtain ⟨a, o, h1, _, _, h4, _⟩ := s.ow i b d e
    rw [h1] at h; cases h; rw [hp] at h4; cases h4
  · have := (s.pin q hq).1
    rw [e, hp] at this; cases this
  · cases q : B.H p with
    | none => rfl
    | some o => exact absurd hp (s.fr.d p (by rw [q]; simp))
theorem get_set {α : Type} {l : List α} {i j : Nat} {x y : α} (h : (l.set i x)[j]? = some y) : (j = i ∧ y = x) ∨ (j ≠ i ∧ l[j]? = some y) := by
  by_cases e : i = j
  · subst e
    by_cases hl : i < l.length
    · rw [List.getElem?_set_self hl] at h; exact .inl ⟨rfl, (Option.some.inj h).symm⟩
    · rw [List.getElem?_eq_none (by simpa using hl)] at h; cases h
  · rw [List.getElem?_set_ne e] at h; exact .inr ⟨fun z => e z.symm, h⟩
theorem isO_set {ρ : Cs} {i j : Nat} {c : Cell} (h : isO (ρ.set i c) j) (hc : ∀ b d, c ≠ .ow b d) : j ≠ i ∧ isO ρ j := by
  obtain ⟨b, d, e⟩ := h
  rcases get_set e with ⟨_, e⟩ | ⟨e1, e2⟩
  · exact absurd e.symm (hc b d)
  · exact ⟨e1, b, d, e2⟩
theorem tr_set {ρ : Cs} {i : Nat} {c : Cell} {σ σ' : L2.St} (hc : ∀ b s d, c ≠ .tr b s d) (hσ : ∀ {j : Nat}, j ≠ i → σ'[j]? = σ[j]?) : ∀ (j : Nat) (b : Bool × Bool) (s : Sh) (d : D), (ρ.set i c)[j]? = some (.tr b s d) → ρ[j]? = some (.tr b s d) ∧ σ'[j]? = σ[j]? := fun j b s d h => by
  rcases get_set h with ⟨_, q⟩ | ⟨n, q⟩
  · exact absurd q.symm (hc b s d)
  · exact ⟨q, hσ n⟩
theorem SR.freshT (s : SR K B σ G H ρ) {p : Addr} (hp : H p = none) (i : Nat) : p ∉ fpAt H σ ρ i := fun h => by
  obtain ⟨⟨o, ho, _⟩, _⟩ := s.tr.got h
  rw [hp] at ho; cases ho
theorem SR.fpStep (s : SR K B σ G H ρ) (f : Fr [] G H G' H') (i : Nat) : fpAt H' σ ρ i = fpAt H σ ρ i := by
  unfold fpAt
  split
  · rename_i b sh d v e1 e2
    obtain ⟨a, fp, k1, k2, k3, _⟩ := s.tr.fp e1
    rw [e2] at k1; cases k1
    have k : ∀ x ∈ fp, H' x = H x ∧ G' x = none := fun x hx => by
      obtain ⟨⟨o, ho, _⟩, hg, _⟩ := s.tr.got (i := i) (x := x) (by rw [k3]; exact hx)
      exact ⟨(f.h x o (by simp) ho).trans ho.symm, (f.n x (by rw [ho]; simp)).trans hg⟩
    exact (k2.keep f.g k).fp.trans k2.fp.symm
  · rfl
theorem SR.offT (s : SR K B σ G H ρ) {i j : Nat} {b : Bool} {d : D} {a : Addr} (hi : ρ[i]? = some (.ow b d)) (ha : σ[i]? = some (some (.ref a))) : a ∉ fpAt H σ ρ j := fun h => s.tr.no j i a h ⟨b, d, hi⟩ ha
/-- a variable takes data -/
theorem SR.setP (s : SR K B σ G H ρ) {i : Nat} {v : V} {d : D} (r : Rep K G v d) (hi : i < σ.length) : SR K B (σ.set i (some v)) G H (ρ.set i (.pu d)) := by
  have ne : ∀ {j : Nat}, j ≠ i → (σ.set i (some v))[j]? = σ[j]? := fun h => List.getElem?_set_ne (Ne.symm h)
  have no : ∀ {j : Nat}, isO (ρ.set i (.pu d)) j → j ≠ i ∧ isO ρ j := fun h => isO_set h (by intro b d q; cases q)
  refine ⟨s.fr, by simpa using s.len, fun j e h => ?_, fun j b e h => ?_, fun j k a hj hk h1 h2 => ?_, fun p hp => ?_, fun j c p h => ?_, s.tr.move rfl rfl (tr_set (by intro _ _ _ q; cases q) ne) (Ex.refl G) (fun i x hx => ⟨rfl, (s.tr.got hx).2.1⟩) (fun i j x _ o z => by obtain ⟨n, o⟩ := no o; exact ⟨o, by rw [← ne n]; exact z⟩) (fun p hp => .inl hp)⟩
  · rcases get_set h with ⟨rfl, q⟩ | ⟨hn, q⟩
    · cases q; exact ⟨v, List.getElem?_set_self hi, r⟩
    · rw [ne hn]; exact s.pu j e q
  · rcases get_set h with ⟨rfl, q⟩ | ⟨hn, q⟩
    · cases q
    · rw [ne hn]; exact s.ow j b e q
  · obtain ⟨n1, o1⟩ := no hj
    obtain ⟨n2, o2⟩ := no hk
    rw [ne n1] at h1; rw [ne n2] at h2
    exact s.inj j k a o1 o2 h1 h2
  · obtain ⟨h1, h2, h3, h4⟩ := s.pin p hp
    exact ⟨h1, h2, h3, fun j hj => by obtain ⟨n, o⟩ := no hj; rw [ne n]; exact h4 j o⟩
  · rcases get_set h with ⟨rfl, q⟩ | ⟨hn, q⟩
    · cases q
    · rw [ne hn]; exact s.er j c p q
/-- a variable takes a new object of our own -/
theorem SR.setO (s : SR K B σ G H ρ) {i : Nat} {p : Addr} {o : HO} {d : D} (hH : H p = some o) (hB : B.H p = none) (hG : G p = none) (r : RepO K G o d) (hn : ∀ (j : Nat), isO ρ j → σ[j]? ≠ some (some (.ref p))) (hT : ∀ q ∈ B.T, q.1 ≠ p) (hF : ∀ j, p ∉ fpAt H σ ρ j) (hi : i < σ.length) :
    SR K B (σ.set i (some (.ref p))) G H (ρ.set i (.ow false d)) := by
  have ne : ∀ {j : Nat}, j ≠ i → (σ.set i (some (.ref p)))[j]? = σ[j]? := fun h => List.getElem?_set_ne (Ne.symm h)
  have se : (σ.set i (some (V.ref p)))[i]? = some (some (.ref p)) := List.getElem?_set_self hi
  have no : ∀ {j : Nat}, isO (ρ.set i (.ow false d)) j → j ≠ i → isO ρ j := fun {j} h n => by
    obtain ⟨b, e, h⟩ := h
    rcases get_set h with ⟨q, _⟩ | ⟨_, q⟩
    · exact absurd q n
    · exact ⟨b, e, q⟩
  refine ⟨s.fr, by simpa using s.len, fun j e h => ?_, fun j b e h => ?_, fun j k a hj hk h1 h2 => ?_, fun q hq => ?_, fun j c q h => ?_, s.tr.move rfl rfl (tr_set (by intro _ _ _ q; cases q) ne) (Ex.refl G) (fun i x hx => ⟨rfl, (s.tr.got hx).2.1⟩) (fun k j x hx o z => by
    by_cases e1 : j = i
    · subst e1; rw [se] at z; cases z; exact absurd hx (hF k)
    · exact ⟨no o e1, by rw [← ne e1]; exact z⟩) (fun p hp => .inl hp)⟩
  · rcases get_set h with ⟨rfl, q⟩ | ⟨hn, q⟩
    · cases q
    · rw [ne hn]; exact s.pu j e q
  · rcases get_set h with ⟨rfl, q⟩ | ⟨hn, q⟩
    · cases q; exact ⟨p, o, se, by simpa using hB, hG, hH, r⟩
    · rw [ne hn]; exact s.ow j b e q
  · by_cases e1 : j = i
    · by_cases e2 : k = i
      · rw [e1, e2]
      · subst e1
        rw [se] at h1; cases h1
        rw [ne e2] at h2
        exact absurd h2 (hn k (no hk e2))
    · by_cases e2 : k = i
      · subst e2
        rw [se] at h2; cases h2
        rw [ne e1] at h1
        exact absurd h1 (hn j (no hj e1))
      · rw [ne e1] at h1; rw [ne e2] at h2
        exact s.inj j k a (no hj e1) (no hk e2) h1 h2
  · obtain ⟨h1, h2, h3, h4⟩ := s.pin q hq
    refine ⟨h1, h2, h3, fun j hj => ?_⟩
    by_cases e1 : j = i
    · subst e1; rw [se]; intro z; cases z; exact hT q hq rfl
    · rw [ne e1]; exact h4 j (no hj e1)
  · rcases get_set h with ⟨rfl, q⟩ | ⟨hn, q⟩
    · cases q
    · rw [ne hn]; exact s.er j c _ q
theorem RepO.nxd {K : PySem.W.Frag} {G : Hp} {o : HO} {d : D} (r : RepO K G o d) (fs : List (Str × V)) : o ≠ .xd fs := by
  intro e; subst e; exact r
/-- an object of our own is written -/
theorem SR.wr (s : SR K B σ G H ρ) {i : Nat} {b : Bool} {d d' : D} {a : Addr} {o' : HO} (hi : ρ[i]? = some (.ow b d)) (ha : σ[i]? = some (some (.ref a))) (r : RepO K G o' d') : SR K B σ G (upd H a o') (ρ.set i (.ow b d')) := by
  obtain ⟨a0, o, h1, h2, h3, h4, h5⟩ := s.ow i b d hi
  rw [ha] at h1; cases h1
  have hlt : i < ρ.length := (List.getElem?_eq_some_iff.mp hi).1
  have oi : isO ρ i := ⟨b, d, hi⟩
  have no : ∀ {j : Nat}, isO (ρ.set i (.ow b d')) j → isO ρ j := fun {j} h => by
    obtain ⟨c, e, h⟩ := h
    rcases get_set h with ⟨q, _⟩ | ⟨_, q⟩
    · rw [q]; exact oi
    · exact ⟨c, e, q⟩
  have w := Fr.write (o := o') s.ex h3 h4
  refine ⟨?_, by simpa using s.len, fun j e h => ?_, fun j c e h => ?_, fun j k x hj hk => s.inj j k x (no hj) (no hk), fun p hp => ?_, fun j c p h => ?_, s.tr.move rfl rfl (tr_set (by intro _ _ _ q; cases q) (fun _ => rfl)) (Ex.refl G) (fun k x hx => ⟨upd_ne (fun z => s.offT hi ha (z ▸ hx)), (s.tr.got hx).2.1⟩) (fun k j x hx o z => ⟨no o, z⟩) (fun p hp => .inl hp)⟩
  · by_cases hb : b = true
    · subst hb
      rw [if_pos rfl] at h2
      exact s.fr.trans (w.more fun x hx => by
        have : x = a := by simpa using hx
        subst this
        exact List.mem_append_left _ (List.mem_map.mpr ⟨_, h2, rfl⟩))
    · have hb' : b = false := by simpa using hb
      subst hb'
      rw [if_neg (by decide)] at h2
      have f := s.fr
      refine ⟨f.g, fun x u n q => ?_, f.n, w.e, fun x n => w.d x (f.d x n)⟩
      have : x ≠ a := fun z => by rw [z, h2] at q; cases q
      rw [upd_ne this]; exact f.h x u n q
  · rcases get_set h with ⟨rfl, q⟩ | ⟨hn, q⟩
    · cases q
    · exact s.pu j e q
  · rcases get_set h with ⟨rfl, q⟩ | ⟨hn, q⟩
    · cases q; exact ⟨a, o', ha, h2, h3, upd_same, r⟩
    · obtain ⟨x, u, k1, k2, k3, k4, k5⟩ := s.ow j c e q
      have : x ≠ a := fun z => hn (s.inj j i a ⟨c, e, q⟩ oi (by rw [k1, z]) ha)
      exact ⟨x, u, k1, k2, k3, by rw [upd_ne this]; exact k4, k5⟩
  · obtain ⟨k1, k2, k3, k4⟩ := s.pin p hp
    have : p.1 ≠ a := fun z => k4 i oi (by rw [ha, z])
    exact ⟨by rw [upd_ne this]; exact k1, k2, k3, fun j hj => k4 j (no hj)⟩
  · rcases get_set h with ⟨rfl, q⟩ | ⟨hn, q⟩
    · cases q
    · obtain ⟨k1, k2, dd, v, k3, k4, k5⟩ := s.er j c p q
      have : dd ≠ a := fun z => by rw [z, h4] at k4; exact h5.nxd _ (Option.some.inj k4)
      exact ⟨k1, k2, dd, v, k3, by rw [upd_ne this]; exact k4, k5⟩
/-- an object of our own becomes data: it is not changed any more -/
theorem SR.frz (s : SR K B σ G H ρ) {i : Nat} {d : D} (hi : ρ[i]? = some (.ow false d)) : ∃ G', Ex G G' ∧ SR K B σ G' H (ρ.set i (.pu d)) := by
  obtain ⟨a, o, h1, h2, h3, h4, h5⟩ := s.ow i false d hi
  rw [if_neg (by decide)] at h2
  have oi : isO ρ i := ⟨false, d, hi⟩
  have no : ∀ {j : Nat}, isO (ρ.set i (.pu d)) j → j ≠ i ∧ isO ρ j := fun h => isO_set h (by intro b d q; cases q)
  have ex : Ex G (upd G a o) := Ex.upd h3
  have hlt : i < ρ.length := (List.getElem?_eq_some_iff.mp hi).1
  refine ⟨upd G a o, ex, ⟨s.fr.g.trans ex, s.fr.h, fun x n => ?_, fun x u q => ?_, s.fr.d⟩, by simpa using s.len, fun j e h => ?_, fun j b e h => ?_, fun j k x hj hk => s.inj j k x (no hj).2 (no hk).2, fun p hp => ?_, fun j c p h => ?_, s.tr.move rfl rfl (tr_set (by intro _ _ _ q; cases q) (fun _ => rfl)) ex (fun k x hx => ⟨rfl, (upd_ne (fun z => s.offT hi h1 (z ▸ hx))).trans (s.tr.got hx).2.1⟩) (fun k j x hx o z => ⟨(no o).2, z⟩) (fun p hp => .inl hp)⟩
  · have : x ≠ a := fun z => n (by rw [z]; exact h2)
    rw [upd_ne this]; exact s.fr.n x n
  · by_cases z : x = a
    · subst z; rw [upd_same] at q; cases q; exact h4
    · rw [upd_ne z] at q; exact s.ex x u q
  · rcases get_set h with ⟨rfl, q⟩ | ⟨hn, q⟩
    · cases q; exact ⟨_, h1, (h5.mono ex).rep upd_same⟩
    · obtain ⟨v, k1, k2⟩ := s.pu j e q
      exact ⟨v, k1, k2.mono ex⟩
  · rcases get_set h with ⟨rfl, q⟩ | ⟨hn, q⟩
    · cases q
    · obtain ⟨x, u, k1, k2, k3, k4, k5⟩ := s.ow j b e q
      have : x ≠ a := fun z => hn (s.inj j i a ⟨b, e, q⟩ oi (by rw [k1, z]) h1)
      exact ⟨x, u, k1, k2, by rw [upd_ne this]; exact k3, k4, k5.mono ex⟩
  · obtain ⟨k1, k2, k3, k4⟩ := s.pin p hp
    have : p.1 ≠ a := fun z => k4 i oi (by rw [h1, z])
    exact ⟨k1, k2, by rw [upd_ne this]; exact k3, fun j hj => k4 j (no hj).2⟩
  · rcases get_set h with ⟨rfl, q⟩ | ⟨hn, q⟩
    · cases q
    · obtain ⟨k1, k2, dd, v, k3, k4, k5⟩ := s.er j c p q
      exact ⟨k1, k2, dd, v, k3, k4, k5.mono ex⟩
/-- variables forgotten -/
theorem SR.un (s : SR K B σ G H ρ) {σ' : L2.St} {ρ' : Cs} (hl : σ'.length = ρ'.length) (h : ∀ (i : Nat) (c : Cell), ρ'[i]? = some c → c = .un ∨ (ρ[i]? = some c ∧ σ'[i]? = σ[i]?)) : SR K B σ' G H ρ' := by
  have no : ∀ {j : Nat}, isO ρ' j → isO ρ j ∧ σ'[j]? = σ[j]? := fun {j} hj => by
    obtain ⟨b, d, e⟩ := hj
    rcases h j _ e with q | ⟨q1, q2⟩
    · cases q
    · exact ⟨⟨b, d, q1⟩, q2⟩
  refine ⟨s.fr, hl, fun j e q => ?_, fun j b e q => ?_, fun j k x hj hk h1 h2 => ?_, fun p hp => ?_, fun j c p q => ?_, s.tr.move rfl rfl (fun i b s d q => by
    rcases h i _ q with z | z
    · cases z
    · exact z) (Ex.refl G) (fun k x hx => ⟨rfl, (s.tr.got hx).2.1⟩) (fun k j x hx o z => by obtain ⟨n, e⟩ := no o; exact ⟨n, by rw [← e]; exact z⟩) (fun p hp => .inl hp)⟩
  · rcases h j _ q with z | ⟨q1, q2⟩
    · cases z
    · rw [q2]; exact s.pu j e q1
  · rcases h j _ q with z | ⟨q1, q2⟩
    · cases z
    · rw [q2]; exact s.ow j b e q1
  · obtain ⟨n1, e1⟩ := no hj
    obtain ⟨n2, e2⟩ := no hk
    rw [e1] at h1; rw [e2] at h2
    exact s.inj j k x n1 n2 h1 h2
  · obtain ⟨k1, k2, k3, k4⟩ := s.pin p hp
    exact ⟨k1, k2, k3, fun j hj => by obtain ⟨n, e⟩ := no hj; rw [e]; exact k4 j n⟩
  · rcases h j _ q with z | ⟨q1, q2⟩
    · cases z
    · rw [q2]; exact s.er j c p q1
end
end Tk
namespace Tk
open PySem PySem.Spec PyProof.Rows L2

/-- a computation over the variables: a value, or an exception of the c-th class with what it carries; none: it is not told -/
inductive R (α : Type) where
  | ok (a : α) (ρ : Cs) | ex (c : Nat) (p : D) (ρ : Cs)
abbrev M (α : Type) := Cs → Option (R α)
def M.ret {α : Type} (a : α) : M α := fun ρ => some (.ok a ρ)
def M.bnd {α β : Type} (m : M α) (k : α → M β) : M β := fun ρ => match m ρ with
  | some (.ok a ρ1) => k a ρ1
  | some (.ex c p ρ1) => some (.ex c p ρ1)
  | none => none
def lift {α : Type} (o : Option α) : M α := fun ρ => match o with
  | some a => some (.ok a ρ)
  | none => none

/-- an own class of exceptions: where it stands, its one field -/
structure XC where
  C : Addr
  f : Option Str

section
variable (K : PySem.W.Frag) (Xs : List XC) (W : WX)
/-- an exception of the c-th class with p is in the air -/
def XP (B : Bs) (G H : Hp) (c : Nat) (p : D) (E : Value → Option Addr → Prop) : Prop :=
  ∃ x, Xs[c]? = some x ∧ match x.f with
    | some f => ∀ dd v, H dd = some (.xd [(f, v)]) → B.H dd = none → G dd = none → Rep K G v p → E (.ref x.C) (some dd)
    | none => E (.ref x.C) none
abbrev RL (ν α : Type) := L2.St → Hp → ν → α → Prop
def r1 {ν α : Type} (Rl : RL ν α) (B : Bs) (G : Hp) (ρ : Cs) (m : M α) (σ : L2.St) (Q : ν → Hp → Prop) : Prop :=
  ∃ r, m ρ = some r ∧ match r with
    | .ok d ρ' => ∀ v G' H', SR K B σ G' H' ρ' → Ex G G' → Rl σ G' v d → Q v H'
    | .ex c p ρ' => ∀ G' H', SR K B σ G' H' ρ' → XP K Xs B G' H' c p fun cls dd => W cls dd σ H'
def rX {ν α : Type} (Rl : RL ν α) (m : M α) : L2.St → Hp → (ν → Hp → Prop) → Prop := fun σ H Q =>
  ∃ B G ρ, SR K B σ G H ρ ∧ r1 K Xs W Rl B G ρ m σ Q
abbrev RlE : RL V D := fun _ G v d => Rep K G v d
abbrev RlT : RL Bool Bool := fun _ _ b c => b = c
abbrev RlA : RL (List V) (List D) := fun _ G vs ds => Reps K G vs ds
end

section
variable {K : PySem.W.Frag} {Xs : List XC} {W : WX} {ν ν' α β : Type} {Rl : RL ν α} {Rl' : RL ν' β} {B : Bs} {σ : L2.St} {G G1 H : Hp} {ρ : Cs} {Q : ν' → Hp → Prop}
theorem r1.mono {m : M α} {Q : ν → Hp → Prop} (h : r1 K Xs W Rl B G ρ m σ Q) (e : Ex G G1) : r1 K Xs W Rl B G1 ρ m σ Q := by
  obtain ⟨r, h1, h2⟩ := h
  refine ⟨r, h1, ?_⟩
  cases r with
  | ok d ρ' => exact fun v G' H' s x => h2 v G' H' s (e.trans x)
  | ex c p ρ' => exact h2
theorem r1.imp {m : M α} {Q Q' : ν → Hp → Prop} (h : r1 K Xs W Rl B G ρ m σ Q) (f : ∀ v H, Q v H → Q' v H) : r1 K Xs W Rl B G ρ m σ Q' := by
  obtain ⟨r, h1, h2⟩ := h
  refine ⟨r, h1, ?_⟩
  cases r with
  | ok d ρ' => exact fun v G' H' s x y => f _ _ (h2 v G' H' s x y)
  | ex c p ρ' => exact h2
/-- first ma, then k of what it gives -/
theorem r1.bind {ma : M α} {k : α → M β} {Rn : ν → Hp → Prop} (s : SR K B σ G H ρ) (h : r1 K Xs W Rl' B G ρ (ma.bnd k) σ Q)
    (f : ∀ x H1 d G1 ρ1, SR K B σ G1 H1 ρ1 → Ex G G1 → Rl σ G1 x d → r1 K Xs W Rl' B G1 ρ1 (k d) σ Q → Rn x H1) : rX K Xs W Rl ma σ H Rn := by
  obtain ⟨r, h1, h2⟩ := h
  unfold M.bnd at h1
  cases e : ma ρ with
  | none => rw [e] at h1; cases h1
  | some q =>
    rw [e] at h1
    cases q with
    | ok d ρ1 =>
      refine ⟨B, G, ρ, s, .ok d ρ1, e, fun v G' H' s' x y => f v H' d G' ρ1 s' x y ?_⟩
      exact r1.mono ⟨r, h1, h2⟩ x
    | ex c p ρ1 =>
      cases h1
      exact ⟨B, G, ρ, s, .ex c p ρ1, e, h2⟩
theorem r1.lifted {o : Option β} (h : r1 K Xs W Rl' B G ρ (lift o) σ Q) : ∃ d, o = some d ∧ ∀ v G' H', SR K B σ G' H' ρ → Ex G G' → Rl' σ G' v d → Q v H' := by
  obtain ⟨r, h1, h2⟩ := h
  unfold lift at h1
  cases o with
  | none => cases h1
  | some d => cases h1; exact ⟨d, rfl, h2⟩
theorem r1.reted {d : β} (h : r1 K Xs W Rl' B G ρ (M.ret d) σ Q) : ∀ v G' H', SR K B σ G' H' ρ → Ex G G' → Rl' σ G' v d → Q v H' := by
  obtain ⟨r, h1, h2⟩ := h
  cases h1
  exact h2
end

/-- an expression, a test, a list of arguments, by what they compute -/
def SE (X : Cx) (Xs : List XC) (W : WX) (e : Expr) (m : M D) : Prop := PE X e (rX X.K Xs W (RlE X.K) m)
def ST (X : Cx) (Xs : List XC) (W : WX) (e : Expr) (m : M Bool) : Prop := PT X e (rX X.K Xs W RlT m)
def SW (X : Cx) (Xs : List XC) (W : WX) (e : Expr) (m : M Bool) : Prop := PW X e (rX X.K Xs W RlT m)
def SA (X : Cx) (Xs : List XC) (W : WX) (es : List Expr) (m : M (List D)) : Prop := PA X es (rX X.K Xs W (RlA X.K) m)
section
variable {X : Cx} {Xs : List XC} {W : WX} {e a b c : Expr} {pos : Pos}
theorem pe_imp {t t' : TE} (h : PE X e t) (f : ∀ σ H Q, t' σ H Q → t σ H Q) : PE X e t' := ⟨fun pins s σ H Q I q => h.run pins s σ H Q I (f σ H Q q)⟩
theorem pt_imp {t t' : TT} (h : PT X e t) (f : ∀ σ H Q, t' σ H Q → t σ H Q) : PT X e t' := ⟨fun pins s σ H Q I q => h.run pins s σ H Q I (f σ H Q q)⟩
theorem pw_imp {t t' : TT} (h : PW X e t) (f : ∀ σ H Q, t' σ H Q → t σ H Q) : PW X e t' := ⟨fun w pins s σ H Q I q => h.run w pins s σ H Q I (f σ H Q q)⟩
theorem pa_imp {es : List Expr} {t t' : TA} (h : PA X es t) (f : ∀ σ H Q, t' σ H Q → t σ H Q) : PA X es t' := ⟨fun p pins s σ H Q I q => h.run p pins s σ H Q I (f σ H Q q)⟩
theorem ps_imp {s : Stmt} {t t' : TS} (h : PS X s t) (f : ∀ D σ H, t' D σ H → t D σ H) : PS X s t' := ⟨fun pins s σ H D I q => h.run pins s σ H D I (f D σ H q)⟩
theorem pss_imp {s : List Stmt} {t t' : TS} (h : PSs X s t) (f : ∀ D σ H, t' D σ H → t D σ H) : PSs X s t' := ⟨fun pins s σ H D I q => h.run pins s σ H D I (f D σ H q)⟩

/-! ### names, constants -/
def mVar (i : Nat) : M D := fun ρ => match ρ[i]? with
  | some (.pu d) => some (.ok d ρ)
  | _ => none
theorem mVar_inv {i : Nat} {ρ : Cs} {r : R D} (h : mVar i ρ = some r) : ∃ d, ρ[i]? = some (.pu d) ∧ r = .ok d ρ := by
  unfold mVar at h
  split at h
  · rename_i d e; cases h; exact ⟨d, e, rfl⟩
  · cases h
theorem se_var {x : Str} (i : Nat) (hN : X.N[i]? = some x) (hv : Vis X.env.scope x) (hd : (x == ("__debug__" : Str)) = false := by decide) (hcd : (x == ("__classdict__" : Str)) = false := by decide) : SE X Xs W (.Name x pos) (mVar i) := by
  refine pe_imp (pe_var (i := i) hN hv hd hcd) fun σ H Q ⟨B, G, ρ, s, r, h1, h2⟩ => ?_
  obtain ⟨d, e, rfl⟩ := mVar_inv h1
  obtain ⟨v, e1, e2⟩ := s.pu i d e
  exact ⟨v, e1, h2 v G H s (Ex.refl G) e2⟩
theorem se_con {v : V} {d : D} (h : PE X e (tC v)) (r : ∀ G, Rep X.K G v d) : SE X Xs W e (M.ret d) := by
  refine pe_imp h fun σ H Q ⟨B, G, ρ, s, q⟩ => ?_
  exact q.reted v G H s (Ex.refl G) (r G)
theorem se_int {i : Int} {j : Nat} : SE X Xs W (.Constant (.int i) j pos) (M.ret (.int i)) := se_con pe_int fun _ => .int i
theorem se_bl {i : Bool} {j : Nat} : SE X Xs W (.Constant (.bool i) j pos) (M.ret (.bl i)) := se_con pe_bl fun _ => .bl i
theorem se_non {j : Nat} : SE X Xs W (.Constant .none j pos) (M.ret .non) := se_con pe_non fun _ => .non
theorem rep_str {K : PySem.W.Frag} {G : Hp} {x : Str} {l : List Nat} (h : x.cps.toList = l) : Rep K G (.str x) (.str l) := by
  subst h
  have : x = ⟨x.cps.toList.toArray⟩ := by cases x; simp
  exact this ▸ .str _
theorem se_str {x : Str} {l : List Nat} {j : Nat} (h : (decide (x.cps.toList = l)) = true) : SE X Xs W (.Constant (.str x) j pos) (M.ret (.str l)) := se_con pe_str fun _ => rep_str (of_decide_eq_true h)
/-- a constant of the module -/
theorem se_glob {x : Str} {v : V} {u : Value} {d : D} (hg : Gl X x) (hm : X.mg x = some u) (rv : RelV v u) (r : ∀ G, Rep X.K G v d) (hd : (x == ("__debug__" : Str)) = false := by decide) : SE X Xs W (.Name x pos) (M.ret d) :=
  se_con (pe_glob hg hm rv hd) r

/-! ### operators -/
def mB (f : D → D → Option D) (ma mb : M D) : M D := ma.bnd fun x => mb.bnd fun y => lift (f x y)
def mU (f : D → Option D) (ma : M D) : M D := ma.bnd fun x => lift (f x)
/-- what a rule of values gives of data: nothing new -/
def BinR (X : Cx) (r : R2) (f : D → D → Option D) : Prop := ∀ (G H : Hp) (x y : V) (d e z : D) (Q : VK), Ex G H → Rep X.K G x d → Rep X.K G y e → f d e = some z → (∀ v G' H', Fr [] G H G' H' → Rep X.K G' v z → Q v H') → r x y H Q
theorem se_op {op : Operator} {r : R2} {f : D → D → Option D} {ma mb : M D} (ho : OpR X (binaryOp op) r) (hf : BinR X r f) (ha : SE X Xs W a ma) (hb : SE X Xs W b mb) : SE X Xs W (.BinOp a op b pos) (mB f ma mb) := by
  refine pe_imp (pe_op ho ha hb) fun σ H Q ⟨B, G, ρ, s, h⟩ => ?_
  refine r1.bind (Rl := RlE X.K) s h fun x H1 d G1 ρ1 s1 e1 rx h1 => ?_
  refine r1.bind (Rl := RlE X.K) s1 h1 fun y H2 d2 G2 ρ2 s2 e2 ry h2 => ?_
  obtain ⟨z, hz, q⟩ := h2.lifted
  exact hf G2 H2 x y d d2 z Q s2.ex (rx.mono e2) ry hz fun v G' H' fr rv => q v G' H' (s2.step fr) fr.g rv
theorem se_cmp {op : CmpOp} {r : R2} {f : D → D → Option D} {ma mb : M D} (ho : OpR X (compareOp op) r) (hf : BinR X r f) (ha : SE X Xs W a ma) (hb : SE X Xs W b mb) (hm : behindInMarks op b = false) : SE X Xs W (.Compare a [op] [b] pos) (mB f ma mb) := by
  refine pe_imp (pe_cmpR ho ha hb hm) fun σ H Q ⟨B, G, ρ, s, h⟩ => ?_
  refine r1.bind (Rl := RlE X.K) s h fun x H1 d G1 ρ1 s1 e1 rx h1 => ?_
  refine r1.bind (Rl := RlE X.K) s1 h1 fun y H2 d2 G2 ρ2 s2 e2 ry h2 => ?_
  obtain ⟨z, hz, q⟩ := h2.lifted
  exact hf G2 H2 x y d d2 z Q s2.ex (rx.mono e2) ry hz fun v G' H' fr rv => q v G' H' (s2.step fr) fr.g rv
/-- the comparison as a test -/
def tb (m : M D) : M Bool := m.bnd fun d => match d with
  | .bl b => M.ret b
  | _ => lift none
theorem st_cmp {op : CmpOp} {r : R2} {f : D → D → Option D} {ma mb : M D} (ho : OpR X (compareOp op) r) (hf : BinR X r f) (ha : SE X Xs W a ma) (hb : SE X Xs W b mb) (hm : behindInMarks op b = false) : ST X Xs W (.Compare a [op] [b] pos) (tb (mB f ma mb)) := by
  refine pt_imp (pt_cmpR ho ha hb hm) fun σ H Q ⟨B, G, ρ, s, h⟩ => ?_
  have as : ∀ (k : D → M Bool), (mB f ma mb).bnd k = ma.bnd fun x => mb.bnd fun y => (lift (f x y)).bnd k := fun k => by
    funext ρ
    unfold mB M.bnd
    cases ma ρ with
    | none => rfl
    | some q =>
      cases q with
      | ex c p ρ1 => rfl
      | ok d ρ1 =>
        dsimp only
        cases mb ρ1 with
        | none => rfl
        | some q2 => cases q2 <;> rfl
  unfold tb at h
  rw [as] at h
  refine r1.bind (Rl := RlE X.K) s h fun x H1 d G1 ρ1 s1 e1 rx h1 => ?_
  refine r1.bind (Rl := RlE X.K) s1 h1 fun y H2 d2 G2 ρ2 s2 e2 ry h2 => ?_
  obtain ⟨r, h3, h4⟩ := h2
  unfold M.bnd lift at h3
  cases hz : f d d2 with
  | none => rw [hz] at h3; cases h3
  | some z =>
    rw [hz] at h3
    dsimp only at h3
    refine hf G2 H2 x y d d2 z _ s2.ex (rx.mono e2) ry hz fun v G' H' fr rv => ?_
    cases z <;> first | (cases h3; cases rv; exact ⟨_, rfl, h4 _ G' H' (s2.step fr) fr.g rfl⟩) | cases h3
theorem st_val {ma : M D} (ha : SE X Xs W e ma) (he : ∀ whole, isTrue e X.env whole = (do let v ← whole; standAt e.pos; holding [v] (truthy v)) := by intro _; rfl) : ST X Xs W e (tb ma) := by
  refine pt_imp (pt_val ha he) fun σ H Q ⟨B, G, ρ, s, h⟩ => ?_
  refine r1.bind (Rl := RlE X.K) s h fun x H1 d G1 ρ1 s1 e1 rx h1 => ?_
  cases d <;> first | (cases rx; exact ⟨_, rfl, h1.reted _ G1 H1 s1 (Ex.refl _) rfl⟩) | (obtain ⟨z, hz, _⟩ := h1.lifted; cases hz)
/-! ### and, or, not, if -/
def mAnd (ma mb : M Bool) : M Bool := ma.bnd fun b => if b = true then mb else M.ret false
def mOr (ma mb : M Bool) : M Bool := ma.bnd fun b => if b = true then M.ret true else mb
def mNot (ma : M Bool) : M Bool := ma.bnd fun b => M.ret (!b)
variable {rest : List Expr} {ma mb : M Bool}
theorem sw_and1 (ha : ST X Xs W a ma) : SW X Xs W (.BoolOp .And [a] pos) ma := pw_and1 ha
theorem sw_or1 (ha : ST X Xs W a ma) : SW X Xs W (.BoolOp .Or [a] pos) ma := pw_or1 ha
theorem sw_and (ha : ST X Xs W a ma) (hb : SW X Xs W (.BoolOp .And (b :: rest) pos) mb) : SW X Xs W (.BoolOp .And (a :: b :: rest) pos) (mAnd ma mb) := by
  refine pw_imp (pw_and ha hb) fun σ H Q ⟨B, G, ρ, s, h⟩ => ?_
  refine r1.bind (Rl := RlT) s h fun x H1 d G1 ρ1 s1 e1 rx h1 => ?_
  cases rx
  cases x with
  | true => exact ⟨B, G1, ρ1, s1, h1⟩
  | false => exact h1.reted _ G1 H1 s1 (Ex.refl _) rfl
theorem sw_or (ha : ST X Xs W a ma) (hb : SW X Xs W (.BoolOp .Or (b :: rest) pos) mb) : SW X Xs W (.BoolOp .Or (a :: b :: rest) pos) (mOr ma mb) := by
  refine pw_imp (pw_or ha hb) fun σ H Q ⟨B, G, ρ, s, h⟩ => ?_
  refine r1.bind (Rl := RlT) s h fun x H1 d G1 ρ1 s1 e1 rx h1 => ?_
  cases rx
  cases x with
  | true => exact h1.reted _ G1 H1 s1 (Ex.refl _) rfl
  | false => exact ⟨B, G1, ρ1, s1, h1⟩
theorem SW.pt (h : SW X Xs W e ma) : ST X Xs W e ma := PW.pt h
theorem st_not (ha : ST X Xs W a ma) : ST X Xs W (.UnaryOp .Not a pos) (mNot ma) := by
  refine pt_imp (pt_not ha) fun σ H Q ⟨B, G, ρ, s, h⟩ => ?_
  refine r1.bind (Rl := RlT) s h fun x H1 d G1 ρ1 s1 e1 rx h1 => ?_
  cases rx
  exact h1.reted _ G1 H1 s1 (Ex.refl _) rfl
/-- as values -/
def mAndV (ma mb : M D) : M D := ma.bnd fun d => match d with
  | .bl true => mb
  | .bl false => M.ret (.bl false)
  | _ => lift none
def mOrV (ma mb : M D) : M D := ma.bnd fun d => match d with
  | .bl true => M.ret (.bl true)
  | .bl false => mb
  | _ => lift none
def mNotV (ma : M D) : M D := ma.bnd fun d => match d with
  | .bl b => M.ret (.bl (!b))
  | _ => lift none
theorem se_one {op : BoolOp} {m : M D} (h : SE X Xs W a m) : SE X Xs W (.BoolOp op [a] pos) m := pe_one h
theorem se_and {ma mb : M D} (ha : SE X Xs W a ma) (hb : SE X Xs W (.BoolOp .And (b :: rest) pos) mb) : SE X Xs W (.BoolOp .And (a :: b :: rest) pos) (mAndV ma mb) := by
  refine pe_imp (pe_and ha hb) fun σ H Q ⟨B, G, ρ, s, h⟩ => ?_
  refine r1.bind (Rl := RlE X.K) s h fun x H1 d G1 ρ1 s1 e1 rx h1 => ?_
  cases d with
  | bl k =>
    cases rx
    cases k with
    | true => exact ⟨true, rfl, B, G1, ρ1, s1, h1⟩
    | false => exact ⟨false, rfl, h1.reted _ G1 H1 s1 (Ex.refl _) (.bl false)⟩
  | _ => obtain ⟨z, hz, _⟩ := h1.lifted; cases hz
theorem se_or {ma mb : M D} (ha : SE X Xs W a ma) (hb : SE X Xs W (.BoolOp .Or (b :: rest) pos) mb) : SE X Xs W (.BoolOp .Or (a :: b :: rest) pos) (mOrV ma mb) := by
  refine pe_imp (pe_or ha hb) fun σ H Q ⟨B, G, ρ, s, h⟩ => ?_
  refine r1.bind (Rl := RlE X.K) s h fun x H1 d G1 ρ1 s1 e1 rx h1 => ?_
  cases d with
  | bl k =>
    cases rx
    cases k with
    | true => exact ⟨true, rfl, h1.reted _ G1 H1 s1 (Ex.refl _) (.bl true)⟩
    | false => exact ⟨false, rfl, B, G1, ρ1, s1, h1⟩
  | _ => obtain ⟨z, hz, _⟩ := h1.lifted; cases hz
theorem se_not {ma : M D} (ha : SE X Xs W a ma) : SE X Xs W (.UnaryOp .Not a pos) (mNotV ma) := by
  refine pe_imp (pe_not ha) fun σ H Q ⟨B, G, ρ, s, h⟩ => ?_
  refine r1.bind (Rl := RlE X.K) s h fun x H1 d G1 ρ1 s1 e1 rx h1 => ?_
  cases d with
  | bl k => cases rx; exact ⟨k, rfl, h1.reted _ G1 H1 s1 (Ex.refl _) (.bl _)⟩
  | _ => obtain ⟨z, hz, _⟩ := h1.lifted; cases hz
def mIf (mc : M Bool) (ma mb : M D) : M D := mc.bnd fun k => if k = true then ma else mb
theorem se_if {mc : M Bool} {ma mb : M D} (hc : ST X Xs W c mc) (ha : SE X Xs W a ma) (hb : SE X Xs W b mb) : SE X Xs W (.IfExp c a b pos) (mIf mc ma mb) := by
  refine pe_imp (pe_ifExp hc ha hb) fun σ H Q ⟨B, G, ρ, s, h⟩ => ?_
  refine r1.bind (Rl := RlT) s h fun x H1 d G1 ρ1 s1 e1 rx h1 => ?_
  cases rx
  cases x with
  | true => exact ⟨B, G1, ρ1, s1, h1⟩
  | false => exact ⟨B, G1, ρ1, s1, h1⟩

/-! ### arguments, displays -/
def mNil : M (List D) := M.ret []
def mCons (m : M D) (ms : M (List D)) : M (List D) := m.bnd fun d => ms.bnd fun ds => M.ret (d :: ds)
theorem sa_nil : SA X Xs W [] mNil := pa_imp pa_nil fun σ H Q ⟨B, G, ρ, s, h⟩ => h.reted _ G H s (Ex.refl _) .nil
theorem sa_cons {es : List Expr} {m : M D} {ms : M (List D)} (ha : SE X Xs W e m) (hr : SA X Xs W es ms) (hs : starEach (e :: es) X.env = (false, eval e X.env) :: starEach es X.env := by rfl) : SA X Xs W (e :: es) (mCons m ms) := by
  refine pa_imp (pa_cons ha hr hs) fun σ H Q ⟨B, G, ρ, s, h⟩ => ?_
  refine r1.bind (Rl := RlE X.K) s h fun x H1 d G1 ρ1 s1 e1 rx h1 => ?_
  refine r1.bind (Rl := RlA X.K) s1 h1 fun xs H2 ds G2 ρ2 s2 e2 rs h2 => ?_
  exact h2.reted _ G2 H2 s2 (Ex.refl _) (.cons (rx.mono e2) rs)
def small {α : Type} (l : List α) : Bool := decide (l.length ≤ sizeLine)
def mLst (ms : M (List D)) : M D := ms.bnd fun ds => lift (if ds.length ≤ sizeLine then some (.lst ds) else none)
def mTup (ms : M (List D)) : M D := ms.bnd fun ds => lift (if ds.length ≤ sizeLine then some (.tup ds) else none)
theorem ite_inv {c : Prop} [Decidable c] {α : Type} {x y : α} (h : (if c then some x else none) = some y) : c ∧ x = y := by
  by_cases hc : c
  · rw [if_pos hc] at h; exact ⟨hc, Option.some.inj h⟩
  · rw [if_neg hc] at h; cases h
theorem se_lst {es : List Expr} {ms : M (List D)} (ha : SA X Xs W es ms) : SE X Xs W (.List es pos) (mLst ms) := by
  refine pe_imp (pe_lst ha) fun σ H Q ⟨B, G, ρ, s, h⟩ => ?_
  refine r1.bind (Rl := RlA X.K) s h fun xs H1 ds G1 ρ1 s1 e1 rs h1 => ?_
  obtain ⟨z, hz, q⟩ := h1.lifted
  obtain ⟨hl, rfl⟩ := ite_inv hz
  refine ⟨by rw [rs.length]; exact hl, fun p hp => ?_⟩
  have f := Fr.alloc (o := .lst xs) s1.ex hp
  exact q _ _ _ (s1.step f) f.g (.lst upd_same (rs.mono f.g))
theorem se_tup {es : List Expr} {k : Nat} {ms : M (List D)} (ha : SA X Xs W es ms) : SE X Xs W (.Tuple es k pos) (mTup ms) := by
  refine pe_imp (pe_tupF ha) fun σ H Q ⟨B, G, ρ, s, h⟩ => ?_
  refine r1.bind (Rl := RlA X.K) s h fun xs H1 ds G1 ρ1 s1 e1 rs h1 => ?_
  obtain ⟨z, hz, q⟩ := h1.lifted
  obtain ⟨hl, rfl⟩ := ite_inv hz
  refine ⟨by rw [rs.length]; exact hl, fun p o hp ho => ?_⟩
  have f := Fr.alloc (o := .frz o (.tup xs)) s1.ex hp
  exact q _ _ _ (s1.step f) f.g (.tup (.inl ⟨o, upd_same, ho⟩) (rs.mono f.g))
/-- a call of what is built in, by values -/
def mC (f : List D → Option D) (ms : M (List D)) : M D := ms.bnd fun ds => lift (f ds)
def CalR (X : Cx) (r : List V → Hp → VK → Prop) (f : List D → Option D) : Prop := ∀ (G H : Hp) (xs : List V) (ds : List D) (z : D) (Q : VK), Ex G H → Reps X.K G xs ds → f ds = some z → (∀ v G' H', Fr [] G H G' H' → Rep X.K G' v z → Q v H') → r xs H Q
theorem se_tcb {r : List V → Hp → VK → Prop} {f : List D → Option D} {ms : M (List D)} (h : PE X e (tCB r (rX X.K Xs W (RlA X.K) ms))) (hf : CalR X r f) : SE X Xs W e (mC f ms) := by
  refine pe_imp h fun σ H Q ⟨B, G, ρ, s, h⟩ => ?_
  refine r1.bind (Rl := RlA X.K) s h fun xs H1 ds G1 ρ1 s1 e1 rs h1 => ?_
  obtain ⟨z, hz, q⟩ := h1.lifted
  exact hf G1 H1 xs ds z Q s1.ex rs hz fun v G' H' fr rv => q v G' H' (s1.step fr) fr.g rv
theorem se_callB {x : Str} {id : String} {p : Pos} {es : List Expr} {r : List V → Hp → VK → Prop} {f : List D → Option D} {ms : M (List D)} (hc : CallR X (.builtin id) r) (hf : CalR X r f) (hg : Gl X x) (hm : X.mg x = none) (hv : bootBuiltins x = some (.builtin id)) (ha : SA X Xs W (e :: es) ms)
    (hn : x ≠ "__name__" := by decide) (hdb : (x == ("__debug__" : Str)) = false := by decide) (he : starEach (e :: es) X.env = (false, eval e X.env) :: starEach es X.env := by rfl) (hpl : (backTo pos (starEach es X.env)).any (·.1) = false := by rfl) :
    SE X Xs W (.Call (.Name x p) (e :: es) [] pos) (mC f ms) := se_tcb (pe_callB (t := rX X.K Xs W (RlA X.K) ms) hc hg hm hv ha hn hdb he hpl) hf
theorem se_callTy {x : Str} {id : String} {p : Pos} {es : List Expr} {r : List V → Hp → VK → Prop} {f : List D → Option D} {ms : M (List D)} (hc : CallR X (.type id) r) (hf : CalR X r f) (hg : Gl X x) (hm : X.mg x = none) (hv : bootBuiltins x = some (.type id)) (ha : SA X Xs W (e :: es) ms)
    (hn : x ≠ "__name__" := by decide) (hdb : (x == ("__debug__" : Str)) = false := by decide) (he : starEach (e :: es) X.env = (false, eval e X.env) :: starEach es X.env := by rfl) (hpl : (backTo pos (starEach es X.env)).any (·.1) = false := by rfl) :
    SE X Xs W (.Call (.Name x p) (e :: es) [] pos) (mC f ms) := se_tcb (pe_callTy (t := rX X.K Xs W (RlA X.K) ms) hc hg hm hv ha hn hdb he hpl) hf
end
end Tk
namespace Tk
open PySem PySem.Spec PyProof.Rows L2

/-! ### objects of our own, new -/
def NewO (B : Bs) (σ : L2.St) (G H : Hp) (ρ : Cs) (p : Addr) : Prop := G p = none ∧ B.H p = none ∧ (∀ (i : Nat), isO ρ i → σ[i]? ≠ some (some (.ref p))) ∧ (∀ q ∈ B.T, q.1 ≠ p) ∧ ∀ i, p ∉ fpAt H σ ρ i
section
variable (K : PySem.W.Frag) (Xs : List XC) (W : WX)
def rO (m : M D) : TE := fun σ H Q => ∃ B G ρ, SR K B σ G H ρ ∧ ∃ r, m ρ = some r ∧ match r with
    | .ok d ρ' => ∀ p o G' H', SR K B σ G' H' ρ' → Ex G G' → H' p = some o → RepO K G' o d → NewO B σ G' H' ρ' p → Q (.ref p) H'
    | .ex c p ρ' => ∀ G' H', SR K B σ G' H' ρ' → XP K Xs B G' H' c p fun cls dd => W cls dd σ H'
end
def SO (X : Cx) (Xs : List XC) (W : WX) (e : Expr) (m : M D) : Prop := PE X e (rO X.K Xs W m)
section
variable {K : PySem.W.Frag} {B : Bs} {σ : L2.St} {G H G' H' : Hp} {ρ : Cs}
/-- a new object of our own becomes data -/
theorem SR.adopt (s : SR K B σ G H ρ) {p : Addr} {o : HO} (hp : H p = some o) (n : NewO B σ G H ρ p) : SR K B σ (upd G p o) H ρ := by
  obtain ⟨n1, n2, n3, n4, n5⟩ := n
  have ex : Ex G (upd G p o) := Ex.upd n1
  refine ⟨⟨s.fr.g.trans ex, s.fr.h, fun x h => ?_, fun x u q => ?_, s.fr.d⟩, s.len, fun i d e => ?_, fun i b d e => ?_, s.inj, fun q hq => ?_, fun i c q e => ?_, s.tr.move rfl rfl (fun i b s d h => ⟨h, rfl⟩) ex (fun k x hx => ⟨rfl, (upd_ne (fun z : x = p => n5 k (z ▸ hx))).trans (s.tr.got hx).2.1⟩) (fun i j x _ o z => ⟨o, z⟩) (fun p hp => .inl hp)⟩
  · have : x ≠ p := fun z => h (by rw [z]; exact n2)
    rw [upd_ne this]; exact s.fr.n x h
  · by_cases z : x = p
    · subst z; rw [upd_same] at q; cases q; exact hp
    · rw [upd_ne z] at q; exact s.ex x u q
  · obtain ⟨v, h1, h2⟩ := s.pu i d e
    exact ⟨v, h1, h2.mono ex⟩
  · obtain ⟨a, u, h1, h2, h3, h4, h5⟩ := s.ow i b d e
    have : a ≠ p := fun z => n3 i ⟨b, d, e⟩ (by rw [h1, z])
    exact ⟨a, u, h1, h2, by rw [upd_ne this]; exact h3, h4, h5.mono ex⟩
  · obtain ⟨h1, h2, h3, h4⟩ := s.pin q hq
    exact ⟨h1, h2, by rw [upd_ne (n4 q hq)]; exact h3, h4⟩
  · obtain ⟨h1, h2, dd, v, h3, h4, h5⟩ := s.er i c q e
    exact ⟨h1, h2, dd, v, h3, h4, h5.mono ex⟩
theorem SR.newO (s : SR K B σ G H ρ) {p : Addr} (hp : H p = none) (f : Fr [] G H G H') : NewO B σ G H' ρ p :=
  let ⟨h1, h2, h3, h4⟩ := s.fresh hp
  ⟨h4, h3, h1, h2, fun i => by rw [s.fpStep f i]; exact s.freshT hp i⟩
/-- an object is held beside -/
theorem SR.hold (s : SR K B σ G H ρ) {p : Addr} {o : HO} (hp : H p = some o) (n : NewO B σ G H ρ p) : SR K { B with T := (p, o) :: B.T } σ G H ρ := by
  obtain ⟨n1, n2, n3, n4, n5⟩ := n
  exact ⟨s.fr, s.len, s.pu, s.ow, s.inj, fun q hq => by
    rcases List.mem_cons.mp hq with e | hq
    · subst e; exact ⟨hp, n2, n1, n3⟩
    · exact s.pin q hq, s.er, s.tr.move rfl rfl (fun i b s d h => ⟨h, rfl⟩) (Ex.refl G) (fun k x hx => ⟨rfl, (s.tr.got hx).2.1⟩) (fun i j x _ o z => ⟨o, z⟩) (fun q hq => by
      rcases List.mem_cons.mp hq with e | hq
      · subst e; exact .inr n5
      · exact .inl hq)⟩
/-- what is held is written -/
theorem SR.heldW {p : Addr} {o o' : HO} {d : D} (s : SR K { B with T := (p, o) :: B.T } σ G H ρ) (r : RepO K G o d) (n : ∀ q ∈ B.T, q.1 ≠ p) : SR K { B with T := (p, o') :: B.T } σ G (upd H p o') ρ := by
  obtain ⟨h1, h2, h3, h4⟩ := s.pin (p, o) List.mem_cons_self
  have w := Fr.write (o := o') s.ex h3 h1
  have f := s.fr
  refine ⟨⟨f.g, fun x u n q => ?_, f.n, w.e, fun x n => w.d x (f.d x n)⟩, s.len, s.pu, fun i b d e => ?_, s.inj, fun q hq => ?_, fun i c q e => ?_, s.tr.move rfl rfl (fun i b s d h => ⟨h, rfl⟩) (Ex.refl G) (fun k x hx => ⟨upd_ne (fun z => s.tr.pn k x hx _ List.mem_cons_self z.symm), (s.tr.got hx).2.1⟩) (fun i j x _ o z => ⟨o, z⟩) (fun q hq => by
      rcases List.mem_cons.mp hq with e | hq
      · subst e; exact .inr fun i hi => s.tr.pn i _ hi _ List.mem_cons_self rfl
      · exact .inl (List.mem_cons_of_mem _ hq))⟩
  · have : x ≠ p := fun z => by rw [z] at q; have h2' : B.H p = none := h2; rw [show B.H p = some u from q] at h2'; cases h2'
    rw [upd_ne this]; exact f.h x u n q
  · obtain ⟨a, u, k1, k2, k3, k4, k5⟩ := s.ow i b d e
    have : a ≠ p := fun z => h4 i ⟨b, d, e⟩ (by rw [k1, z])
    exact ⟨a, u, k1, k2, k3, by rw [upd_ne this]; exact k4, k5⟩
  · rcases List.mem_cons.mp hq with e | hq
    · subst e; exact ⟨upd_same, h2, h3, h4⟩
    · obtain ⟨k1, k2, k3, k4⟩ := s.pin q (List.mem_cons_of_mem _ hq)
      exact ⟨by rw [upd_ne (n q hq)]; exact k1, k2, k3, k4⟩
  · obtain ⟨k1, k2, dd, v, k3, k4, k5⟩ := s.er i c q e
    have : dd ≠ p := fun z => by rw [z, h1] at k4; exact r.nxd _ (Option.some.inj k4)
    exact ⟨k1, k2, dd, v, k3, by rw [upd_ne this]; exact k4, k5⟩
theorem SR.letgo {q : Addr × HO} (s : SR K { B with T := q :: B.T } σ G H ρ) : SR K B σ G H ρ ∧ H q.1 = some q.2 ∧ G q.1 = none ∧ B.H q.1 = none ∧ (∀ (i : Nat), isO ρ i → σ[i]? ≠ some (some (.ref q.1))) ∧ ∀ i, q.1 ∉ fpAt H σ ρ i := by
  obtain ⟨h1, h2, h3, h4⟩ := s.pin q List.mem_cons_self
  exact ⟨⟨s.fr, s.len, s.pu, s.ow, s.inj, fun p hp => s.pin p (List.mem_cons_of_mem _ hp), s.er, s.tr.move rfl rfl (fun i b s d h => ⟨h, rfl⟩) (Ex.refl G) (fun k x hx => ⟨rfl, (s.tr.got hx).2.1⟩) (fun i j x _ o z => ⟨o, z⟩) (fun p hp => .inl (List.mem_cons_of_mem _ hp))⟩, h1, h3, h2, h4, fun i hi => s.tr.pn i _ hi q List.mem_cons_self rfl⟩
end
section
variable {X : Cx} {Xs : List XC} {W : WX} {e a b c : Expr} {pos : Pos}
theorem SO.se {m : M D} (h : SO X Xs W e m) : SE X Xs W e m := by
  refine pe_imp h fun σ H Q ⟨B, G, ρ, s, r, h1, h2⟩ => ⟨B, G, ρ, s, r, h1, ?_⟩
  cases r with
  | ok d ρ' => exact fun p o G' H' s' x hp ro n => h2 (.ref p) (upd G' p o) H' (s'.adopt hp n) (x.trans (Ex.upd n.1)) ((ro.mono (Ex.upd n.1)).rep upd_same)
  | ex c p ρ' => exact h2
theorem so_lst {es : List Expr} {ms : M (List D)} (ha : SA X Xs W es ms) : SO X Xs W (.List es pos) (mLst ms) := by
  refine pe_imp (pe_lst ha) fun σ H Q ⟨B, G, ρ, s, r, h1, h2⟩ => ?_
  unfold mLst M.bnd at h1
  cases e : ms ρ with
  | none => rw [e] at h1; cases h1
  | some q =>
    rw [e] at h1
    cases q with
    | ex c p ρ1 => cases h1; exact ⟨B, G, ρ, s, _, e, h2⟩
    | ok ds ρ1 =>
      refine ⟨B, G, ρ, s, _, e, fun vs G1 H1 s1 e1 rs => ?_⟩
      dsimp only at h1
      by_cases hl : ds.length ≤ sizeLine
      · rw [if_pos hl] at h1
        cases h1
        refine ⟨by rw [rs.length]; exact hl, fun p hp => ?_⟩
        have f := Fr.allocO (o := .lst vs) s1.ex hp
        have nw := s1.newO hp f
        exact h2 p (.lst vs) G1 _ (s1.step f) e1 upd_same rs nw
      · rw [if_neg hl] at h1; cases h1

/-! ### what a for walks -/
/-- J gives its, one after another -/
def Src (K : PySem.W.Frag) (G : Hp) (J : It) (its : List D) : Prop := ∀ G' H', Ex G G' → Ex G' H' → (∀ i, i < its.length → J.go i H') ∧ J.stop its.length H' ∧
  ∀ i x H'' d, its[i]? = some d → J.yld i H' x H'' → ∃ G'', Fr [] G' H' G'' H'' ∧ Rep K G'' x d
theorem Src.mono {K : PySem.W.Frag} {G G1 : Hp} {J : It} {its : List D} (h : Src K G J its) (e : Ex G G1) : Src K G1 J its := fun G' H' x y => h G' H' (e.trans x) y
def SI (X : Cx) (Xs : List XC) (W : WX) (tg e : Expr) (m : M (List D)) : Prop := PI X tg e (rX (ν := It) X.K Xs W (fun _ G J its => Src X.K G J its) m)
theorem pi_imp {tg e : Expr} {w w' : TI} (h : PI X tg e w) (f : ∀ σ H R, w' σ H R → w σ H R) : PI X tg e w' := ⟨fun pins s σ H R I q => h.run pins s σ H R I (f σ H R q)⟩
theorem src_lst {K : PySem.W.Frag} {G : Hp} {a : Addr} {vs : List V} {ds : List D} (h : SqL K G a vs) (r : Reps K G vs ds) : Src K G (Itl K a) ds := by
  intro G' H' e1 e2
  have hs : SqL K H' a vs := e2.sl (e1.sl h)
  have hl := r.length
  refine ⟨fun i hi => ?_, ⟨vs, hs, by omega⟩, fun i x H'' d hd y => ?_⟩
  · exact ⟨vs, vs[i]'(by omega), hs, by simp⟩
  · obtain ⟨rfl, y2⟩ := y
    obtain ⟨v, h1, h2⟩ := r.get hd
    have : some v = some x := h1.symm.trans (y2 vs hs)
    cases this
    exact ⟨G', Fr.refl e2, h2.mono e1⟩
theorem src_tup {K : PySem.W.Frag} {G : Hp} {a : Addr} {vs : List V} {ds : List D} (h : SqT K G a vs) (r : Reps K G vs ds) : Src K G (Itt K a) ds := by
  intro G' H' e1 e2
  have hs : SqT K H' a vs := e2.st (e1.st h)
  have hl := r.length
  refine ⟨fun i hi => ?_, ⟨vs, hs, by omega⟩, fun i x H'' d hd y => ?_⟩
  · exact ⟨vs, vs[i]'(by omega), hs, by simp⟩
  · obtain ⟨rfl, y2⟩ := y
    obtain ⟨v, h1, h2⟩ := r.get hd
    have : some v = some x := h1.symm.trans (y2 vs hs)
    cases this
    exact ⟨G', Fr.refl e2, h2.mono e1⟩
def chars (s : List Nat) : List D := s.map fun c => .str [c]
theorem src_str {K : PySem.W.Frag} {G : Hp} {s : List Nat} : Src K G (Its ⟨s.toArray⟩) (chars s) := by
  intro G' H' e1 e2
  refine ⟨fun i hi => ?_, ?_, fun i x H'' d hd y => ?_⟩
  · have : i < s.length := by simpa [chars] using hi
    show i < s.toArray.size
    simpa using this
  · show s.toArray.size ≤ _
    simp [chars]
  · obtain ⟨rfl, c, h1, rfl⟩ := y
    have h1' : s[i]? = some c := by simpa using h1
    have : d = .str [c] := by
      unfold chars at hd
      rw [List.getElem?_map, h1'] at hd
      exact (Option.some.inj hd).symm
    subst this
    exact ⟨G', Fr.refl e2, .str [c]⟩
theorem src_rng {K : PySem.W.Frag} {G : Hp} {lo : Int} {n : Nat} : Src K G (Itr lo n) ((List.range n).map fun (i : Nat) => .int (lo + i)) := by
  intro G' H' e1 e2
  refine ⟨fun i hi => (by simpa using hi : i < n), by show n ≤ _; simp, fun i x H'' d hd y => ?_⟩
  obtain ⟨rfl, rfl⟩ := y
  rw [List.getElem?_map] at hd
  by_cases hi : i < n
  · rw [List.getElem?_range hi] at hd
    have := Option.some.inj hd
    subst this
    exact ⟨G', Fr.refl e2, .int _⟩
  · rw [List.getElem?_eq_none (by simpa using hi)] at hd; cases hd
/-- the items of a list, a tuple, a text -/
def itemsOf : D → Option (List D)
  | .lst ds => some ds
  | .tup ds => some ds
  | .str s => some (chars s)
  | _ => none
def lstOf : D → Option (List D) | .lst ds => some ds | .scr ns => some (ns.map .int) | _ => none
def tupOf : D → Option (List D) | .tup ds => some ds | _ => none
def strOf : D → Option (List D) | .str s => some (chars s) | _ => none
def mIt (f : D → Option (List D)) (m : M D) : M (List D) := m.bnd fun d => lift (f d)
variable {tg : Expr}
theorem si_lst {m : M D} (h : SE X Xs W e m) : SI X Xs W tg e (mIt lstOf m) := by
  refine pi_imp (pi_list h) fun σ H R ⟨B, G, ρ, s, h⟩ => ?_
  refine r1.bind (Rl := RlE X.K) s h fun x H1 d G1 ρ1 s1 e1 rx h1 => ?_
  obtain ⟨z, hz, q⟩ := h1.lifted
  cases rx <;> first | (cases hz; done) | skip
  · rename_i a vs ds ha rs
    cases hz
    have hs : SqL X.K G1 a vs := .inl (.inl ha)
    exact ⟨a, rfl, ⟨vs, s1.ex.sl hs⟩, q _ G1 H1 s1 (Ex.refl _) (src_lst hs rs)⟩
  · rename_i a ns hs
    cases hz
    exact ⟨a, rfl, ⟨_, s1.ex.sl hs⟩, q _ G1 H1 s1 (Ex.refl _) (src_lst hs (Reps.ofInts ns))⟩
theorem si_tup {m : M D} (h : SE X Xs W e m) : SI X Xs W tg e (mIt tupOf m) := by
  refine pi_imp (pi_tup h) fun σ H R ⟨B, G, ρ, s, h⟩ => ?_
  refine r1.bind (Rl := RlE X.K) s h fun x H1 d G1 ρ1 s1 e1 rx h1 => ?_
  obtain ⟨z, hz, q⟩ := h1.lifted
  cases rx <;> first | (cases hz; done) | skip
  rename_i a vs ds ha rs
  cases hz
  exact ⟨a, rfl, ⟨vs, s1.ex.st ha.sq⟩, q _ G1 H1 s1 (Ex.refl _) (src_tup ha.sq rs)⟩
theorem si_str {m : M D} (h : SE X Xs W e m) : SI X Xs W tg e (mIt strOf m) := by
  refine pi_imp (pi_str h) fun σ H R ⟨B, G, ρ, s, h⟩ => ?_
  refine r1.bind (Rl := RlE X.K) s h fun x H1 d G1 ρ1 s1 e1 rx h1 => ?_
  obtain ⟨z, hz, q⟩ := h1.lifted
  cases rx <;> first | (cases hz; done) | skip
  cases hz
  exact ⟨_, rfl, q _ G1 H1 s1 (Ex.refl _) src_str⟩
/-- range -/
def rng1 : List D → Option (List D)
  | [.int j] => if -(2 ^ 62) ≤ j ∧ j < 2 ^ 62 then some ((List.range j.toNat).map fun (i : Nat) => .int (0 + (i : Int))) else none
  | _ => none
def rng2 : List D → Option (List D)
  | [.int i, .int j] => if -(2 ^ 62) ≤ i ∧ i < 2 ^ 62 ∧ -(2 ^ 62) ≤ j ∧ j < 2 ^ 62 then some ((List.range (j - i).toNat).map fun (k : Nat) => .int (i + (k : Int))) else none
  | _ => none
def mRng1 (ms : M (List D)) : M (List D) := ms.bnd fun ds => lift (rng1 ds)
def mRng2 (ms : M (List D)) : M (List D) := ms.bnd fun ds => lift (rng2 ds)
theorem si_rng1 {p : Pos} {m : M D} (hg : Gl X "range") (hm : X.mg "range" = none) (ha : SE X Xs W a m) (hs : starEach [a] X.env = [(false, eval a X.env)] := by rfl) : SI X Xs W tg (.Call (.Name "range" p) [a] [] pos) (mRng1 (mCons m mNil)) := by
  refine pi_imp (pi_range1 hg hm (sa_cons ha sa_nil hs) hs) fun σ H R ⟨B, G, ρ, s, h⟩ => ?_
  refine r1.bind (Rl := RlA X.K) s h fun xs H1 ds G1 ρ1 s1 e1 rs h1 => ?_
  obtain ⟨z, hz, q⟩ := h1.lifted
  unfold rng1 at hz
  split at hz
  · obtain ⟨⟨k1, k2⟩, k3⟩ := ite_inv hz
    subst k3
    cases rs with
    | cons x y =>
      cases x; cases y
      exact ⟨_, rfl, k1, k2, q _ G1 H1 s1 (Ex.refl _) src_rng⟩
  · cases hz
theorem si_rng2 {p : Pos} {m n : M D} (hg : Gl X "range") (hm : X.mg "range" = none) (ha : SE X Xs W a m) (hb : SE X Xs W b n) (hs : starEach [a, b] X.env = [(false, eval a X.env), (false, eval b X.env)] := by rfl) (hs2 : starEach [b] X.env = [(false, eval b X.env)] := by rfl) :
    SI X Xs W tg (.Call (.Name "range" p) [a, b] [] pos) (mRng2 (mCons m (mCons n mNil))) := by
  refine pi_imp (pi_range2 hg hm (sa_cons ha (sa_cons hb sa_nil hs2) (by rw [hs, hs2])) hs hs2) fun σ H R ⟨B, G, ρ, s, h⟩ => ?_
  refine r1.bind (Rl := RlA X.K) s h fun xs H1 ds G1 ρ1 s1 e1 rs h1 => ?_
  obtain ⟨z, hz, q⟩ := h1.lifted
  unfold rng2 at hz
  split at hz
  · obtain ⟨k1, k3⟩ := ite_inv hz
    subst k3
    cases rs with
    | cons x y =>
      cases x
      cases y with
      | cons x' y' =>
        cases x'; cases y'
        exact ⟨_, _, rfl, k1, q _ G1 H1 s1 (Ex.refl _) src_rng⟩
  · cases hz

/-! ### targets -/
/-- the slots is take what g tells -/
def rG (K : PySem.W.Frag) (is : List Nat) (g : D → Cs → Option Cs) : TG := fun v σ H Q => ∃ B G ρ d ρ', SR K B σ G H ρ ∧ Rep K G v d ∧ g d ρ = some ρ' ∧
  ∀ σ' G' H', SR K B σ' G' H' ρ' → Ex G G' → σ'.length = σ.length → (∀ (j : Nat), j ∉ is → σ'[j]? = σ[j]?) → Q σ' H'
def rGs (K : PySem.W.Frag) (is : List Nat) (g : List D → Cs → Option Cs) : TGs := fun vs σ H Q => ∃ B G ρ ds ρ', SR K B σ G H ρ ∧ Reps K G vs ds ∧ g ds ρ = some ρ' ∧
  ∀ σ' G' H', SR K B σ' G' H' ρ' → Ex G G' → σ'.length = σ.length → (∀ (j : Nat), j ∉ is → σ'[j]? = σ[j]?) → Q σ' H'
def SG (X : Cx) (is : List Nat) (tg : Expr) (g : D → Cs → Option Cs) : Prop := PG X tg (rG X.K is g)
def SGs (X : Cx) (is : List Nat) (tgs : List Expr) (g : List D → Cs → Option Cs) : Prop := PGs X tgs (rGs X.K is g)
theorem pg_imp {t t' : TG} (h : PG X tg t) (f : ∀ v σ H Q, t' v σ H Q → t v σ H Q) : PG X tg t' := ⟨fun pins s σ H v u Q I r q => h.run pins s σ H v u Q I r (f v σ H Q q)⟩
theorem pgs_imp {tgs : List Expr} {t t' : TGs} (h : PGs X tgs t) (f : ∀ v σ H Q, t' v σ H Q → t v σ H Q) : PGs X tgs t' := ⟨fun pins s σ H v u Q I r q => h.run pins s σ H v u Q I r (f v σ H Q q)⟩
/-- a variable is stored: not one that holds what is lent to us -/
def put (i : Nat) (c : Cell) (ρ : Cs) : Option Cs := match ρ[i]? with
  | some (.ow true _) => none
  | some (.er _ _) => none
  | some (.tr _ _ _) => none
  | some _ => some (ρ.set i c)
  | none => none
theorem put_inv {i : Nat} {c : Cell} {ρ ρ' : Cs} (h : put i c ρ = some ρ') : i < ρ.length ∧ ρ' = ρ.set i c := by
  unfold put at h
  split at h
  · cases h
  · cases h
  · cases h
  · rename_i x _ _ _ hx
    cases h
    exact ⟨(List.getElem?_eq_some_iff.mp hx).1, rfl⟩
  · cases h
def gN (i : Nat) : D → Cs → Option Cs := fun d ρ => put i (.pu d) ρ
theorem sg_name {x : Str} (i : Nat) (hN : X.N.Nodup) (hi : X.N[i]? = some x) (hx : Loc X.env.scope x) (hf : X.fn x = true ∨ X.env.scope.names.lookup x = some .local := by first | exact .inl rfl | exact .inr rfl | assumption) : SG X [i] (.Name x pos) (gN i) := by
  refine pg_imp (pg_name (i := i) hN hi hx hf) fun v σ H Q ⟨B, G, ρ, d, ρ', s, r, h, q⟩ => ?_
  obtain ⟨hl, rfl⟩ := put_inv h
  exact q _ G H (s.setP r (by rw [s.len]; exact hl)) (Ex.refl _) (by simp) fun j hj => List.getElem?_set_ne (fun z => hj (by simp [z]))
def gs0 : List D → Cs → Option Cs | [], ρ => some ρ | _ :: _, _ => none
def gsC (g : D → Cs → Option Cs) (gs : List D → Cs → Option Cs) : List D → Cs → Option Cs
  | [], _ => none
  | d :: ds, ρ => match g d ρ with
    | some ρ' => gs ds ρ'
    | none => none
theorem sgs_nil : SGs X [] [] gs0 := pgs_imp pgs_nil fun v σ H Q ⟨B, G, ρ, ds, ρ', s, r, h, q⟩ => by
  cases ds with
  | nil => cases r; cases h; exact ⟨rfl, q σ G H s (Ex.refl _) rfl fun _ _ => rfl⟩
  | cons _ _ => cases h
theorem sgs_cons {is js : List Nat} {e : Expr} {es : List Expr} {g : D → Cs → Option Cs} {gs : List D → Cs → Option Cs} (h1 : SG X is e g) (h2 : SGs X js es gs)
    (hs : (assignEach (e :: es) X.env).map (·.2) = assign e X.env :: (assignEach es X.env).map (·.2) := by rfl) : SGs X (is ++ js) (e :: es) (gsC g gs) := by
  refine pgs_imp (pgs_cons h1 h2 hs) fun v σ H Q ⟨B, G, ρ, ds, ρ', s, r, h, q⟩ => ?_
  cases r with
  | nil => cases h
  | @cons x d vs ds a r =>
    unfold gsC at h
    dsimp only at h
    cases hg : g d ρ with
    | none => rw [hg] at h; cases h
    | some ρ1 =>
      rw [hg] at h
      exact ⟨x, vs, rfl, B, G, ρ, d, ρ1, s, a, hg, fun σ1 G1 H1 s1 e1 l1 k1 => ⟨B, G1, ρ1, ds, ρ', s1, r.mono e1, h, fun σ2 G2 H2 s2 e2 l2 k2 => q σ2 G2 H2 s2 (e1.trans e2) (l2.trans l1) fun j hj =>
        (k2 j fun z => hj (List.mem_append_right _ z)).trans (k1 j fun z => hj (List.mem_append_left _ z))⟩⟩
def gT (n : Nat) (gs : List D → Cs → Option Cs) : D → Cs → Option Cs := fun d ρ => match d with
  | .tup ds => if ds.length = n then gs ds ρ else none
  | _ => none
theorem sg_tup {is : List Nat} {es : List Expr} {k n : Nat} {gs : List D → Cs → Option Cs} (hc : X.calm = true) (h : SGs X is es gs)
    (hn : (assignEach es X.env).length = n := by rfl) (hst : (assignEach es X.env).findIdx? (·.1) = none := by rfl) : SG X is (.Tuple es k pos) (gT n gs) := by
  refine pg_imp (pg_tup hc h hn hst) fun v σ H Q ⟨B, G, ρ, d, ρ', s, r, h, q⟩ => ?_
  unfold gT at h
  cases r with
  | @tup a vs ds ha rs =>
    dsimp only at h
    by_cases hl : ds.length = n
    · rw [if_pos hl] at h
      exact ⟨a, vs, rfl, s.ex.st ha.sq, by rw [rs.length]; exact hl, B, G, ρ, ds, ρ', s, rs, h, q⟩
    · rw [if_neg hl] at h; cases h
  | _ => cases h
end
end Tk
namespace Tk
open PySem PySem.Spec PyProof.Rows L2

/-- what a statement does: it goes on, leaves the loop, begins the next turn, hands back data, hands back a new object of our own, raises -/
inductive RS where
  | nx (ρ : Cs) | bk (ρ : Cs) | ct (ρ : Cs) | rt (d : D) (ρ : Cs) | ro (d : D) (ρ : Cs) | ex (c : Nat) (p : D) (ρ : Cs)
abbrev MS := Cs → Option RS
section
variable (K : PySem.W.Frag) (Xs : List XC) (W : WX)
def PostS (B : Bs) (D' : Ends) : RS → Prop
  | .nx ρ' => ∀ σ' G' H', SR K B σ' G' H' ρ' → D'.nx σ' H'
  | .bk ρ' => ∀ σ' G' H', SR K B σ' G' H' ρ' → D'.bk σ' H'
  | .ct ρ' => ∀ σ' G' H', SR K B σ' G' H' ρ' → D'.ct σ' H'
  | .rt d ρ' => ∀ v σ' G' H', SR K B σ' G' H' ρ' → Rep K G' v d → D'.rt v H'
  | .ro d ρ' => ∀ p o σ' G' H', SR K B σ' G' H' ρ' → H' p = some o → RepO K G' o d → NewO B σ' G' H' ρ' p → D'.rt (.ref p) H'
  | .ex c p ρ' => ∀ σ' G' H', SR K B σ' G' H' ρ' → XP K Xs B G' H' c p fun cls dd => W cls dd σ' H'
def rS (m : MS) : TS := fun D' σ H => ∃ B G ρ r, SR K B σ G H ρ ∧ m ρ = some r ∧ PostS K Xs W B D' r
end
def SS (X : Cx) (Xs : List XC) (W : WX) (st : Stmt) (m : MS) : Prop := PS X st (rS X.K Xs W m)
def SB (X : Cx) (Xs : List XC) (W : WX) (st : List Stmt) (m : MS) : Prop := PSs X st (rS X.K Xs W m)
section
variable {K : PySem.W.Frag} {Xs : List XC} {W : WX} {X : Cx} {e a b c tg : Expr} {pos : Pos} {st : Stmt} {sts : List Stmt}
/-- m, then (where it goes on) n -/
def sq (m n : MS) : MS := fun ρ => match m ρ with
  | some (.nx ρ1) => n ρ1
  | r => r
def nop : MS := fun ρ => some (.nx ρ)
theorem rS_sq {m n : MS} {D' : Ends} {σ : L2.St} {H : Hp} (h : rS K Xs W (sq m n) D' σ H) : tSeq (rS K Xs W m) (rS K Xs W n) D' σ H := by
  obtain ⟨B, G, ρ, r, s, h1, h2⟩ := h
  unfold sq at h1
  cases e : m ρ with
  | none => rw [e] at h1; cases h1
  | some q =>
    rw [e] at h1
    cases q with
    | nx ρ1 => exact ⟨B, G, ρ, .nx ρ1, s, e, fun σ' G' H' s' => ⟨B, G', ρ1, r, s', h1, h2⟩⟩
    | bk ρ1 => cases h1; exact ⟨B, G, ρ, _, s, e, h2⟩
    | ct ρ1 => cases h1; exact ⟨B, G, ρ, _, s, e, h2⟩
    | rt d ρ1 => cases h1; exact ⟨B, G, ρ, _, s, e, h2⟩
    | ro d ρ1 => cases h1; exact ⟨B, G, ρ, _, s, e, h2⟩
    | ex c p ρ1 => cases h1; exact ⟨B, G, ρ, _, s, e, h2⟩
theorem sb_nil : SB X Xs W [] nop := pss_imp pss_nil fun D' σ H ⟨B, G, ρ, r, s, h1, h2⟩ => by cases h1; exact h2 σ G H s
theorem sb_cons {m n : MS} (h1 : SS X Xs W st m) (h2 : SB X Xs W sts n) : SB X Xs W (st :: sts) (sq m n) := pss_imp (pss_cons h1 h2) fun D' σ H h => rS_sq h
theorem sb_one {m : MS} (h1 : SS X Xs W st m) : SB X Xs W [st] m := pss_one h1
/-- from here on some objects of ours do not change any more -/
def frz (i : Nat) (m : MS) : MS := fun ρ => match ρ[i]? with
  | some (.ow false d) => m (ρ.set i (.pu d))
  | _ => none
theorem rS_frz {i : Nat} {m : MS} {D' : Ends} {σ : L2.St} {H : Hp} (h : rS K Xs W (frz i m) D' σ H) : rS K Xs W m D' σ H := by
  obtain ⟨B, G, ρ, r, s, h1, h2⟩ := h
  unfold frz at h1
  split at h1
  · rename_i d e
    obtain ⟨G', ex, s'⟩ := s.frz e
    exact ⟨B, G', _, r, s', h1, h2⟩
  · cases h1
theorem sb_frz {m : MS} (i : Nat) (h : SB X Xs W sts m) : SB X Xs W sts (frz i m) := pss_imp h fun D' σ H q => rS_frz q
theorem ss_frz {m : MS} (i : Nat) (h : SS X Xs W st m) : SS X Xs W st (frz i m) := ps_imp h fun D' σ H q => rS_frz q
theorem ss_pass : SS X Xs W (.Pass pos) nop := ps_imp ps_pass fun D' σ H ⟨B, G, ρ, r, s, h1, h2⟩ => by cases h1; exact h2 σ G H s
def brk : MS := fun ρ => some (.bk ρ)
def cnt : MS := fun ρ => some (.ct ρ)
theorem ss_break : SS X Xs W (.Break pos) brk := ps_imp ps_break fun D' σ H ⟨B, G, ρ, r, s, h1, h2⟩ => by cases h1; exact h2 σ G H s
theorem ss_continue : SS X Xs W (.Continue pos) cnt := ps_imp ps_continue fun D' σ H ⟨B, G, ρ, r, s, h1, h2⟩ => by cases h1; exact h2 σ G H s

/-- an expression's value in a statement -/
def ev {α : Type} (m : M α) (k : α → MS) : MS := fun ρ => match m ρ with
  | some (.ok d ρ1) => k d ρ1
  | some (.ex c p ρ1) => some (.ex c p ρ1)
  | none => none
theorem rS.ev {ν α : Type} {Rl : RL ν α} {m : M α} {k : α → MS} {D' : Ends} {σ : L2.St} {H : Hp} {Rn : ν → Hp → Prop} (h : rS K Xs W (ev m k) D' σ H)
    (f : ∀ B x H1 d G1 ρ1 r, SR K B σ G1 H1 ρ1 → Rl σ G1 x d → k d ρ1 = some r → PostS K Xs W B D' r → Rn x H1) : rX K Xs W Rl m σ H Rn := by
  obtain ⟨B, G, ρ, r, s, h1, h2⟩ := h
  unfold Tk.ev at h1
  cases e : m ρ with
  | none => rw [e] at h1; cases h1
  | some q =>
    rw [e] at h1
    cases q with
    | ok d ρ1 => exact ⟨B, G, ρ, s, _, e, fun v G' H' s' x y => f B v H' d G' ρ1 r s' y h1 h2⟩
    | ex c p ρ1 => cases h1; exact ⟨B, G, ρ, s, _, e, fun G' H' s' => h2 σ G' H' s'⟩
theorem rS.evO {m : M D} {k : D → MS} {D' : Ends} {σ : L2.St} {H : Hp} {Rn : V → Hp → Prop} (h : rS K Xs W (Tk.ev m k) D' σ H)
    (f : ∀ B p o H1 d G1 ρ1 r, SR K B σ G1 H1 ρ1 → H1 p = some o → RepO K G1 o d → NewO B σ G1 H1 ρ1 p → k d ρ1 = some r → PostS K Xs W B D' r → Rn (.ref p) H1) : rO K Xs W m σ H Rn := by
  obtain ⟨B, G, ρ, r, s, h1, h2⟩ := h
  unfold Tk.ev at h1
  cases e : m ρ with
  | none => rw [e] at h1; cases h1
  | some q =>
    rw [e] at h1
    cases q with
    | ok d ρ1 => exact ⟨B, G, ρ, s, _, e, fun p o G' H' s' x hp ro n => f B p o H' d G' ρ1 r s' hp ro n h1 h2⟩
    | ex c p ρ1 => cases h1; exact ⟨B, G, ρ, s, _, e, fun G' H' s' => h2 σ G' H' s'⟩
def drop (m : M D) : MS := ev m fun _ => nop
theorem ss_expr {m : M D} (h : SE X Xs W e m) (hs : swapsWith e none pos.line X.env = pure false := by rfl) : SS X Xs W (.Expr e pos) (drop m) := by
  refine ps_imp (ps_expr h hs) fun D' σ H q => q.ev (Rl := RlE X.K) fun B x H1 d G1 ρ1 r s _ h1 h2 => ?_
  cases h1
  exact h2 σ G1 H1 s
theorem ss_doc {x : Str} {j : Nat} {pos' : Pos} : SS X Xs W (.Expr (.Constant (.str x) j pos) pos') nop := ps_imp ps_doc fun D' σ H ⟨B, G, ρ, r, s, h1, h2⟩ => by cases h1; exact h2 σ G H s
def retD (m : M D) : MS := ev m fun d ρ => some (.rt d ρ)
theorem ss_ret {m : M D} (h : SE X Xs W e m) : SS X Xs W (.Return (some e) pos) (retD m) := by
  refine ps_imp (ps_ret h) fun D' σ H q => q.ev (Rl := RlE X.K) fun B x H1 d G1 ρ1 r s rx h1 h2 => ?_
  cases h1
  exact h2 x σ G1 H1 s rx
def retO (m : M D) : MS := ev m fun d ρ => some (.ro d ρ)
theorem ss_retO {m : M D} (h : SO X Xs W e m) : SS X Xs W (.Return (some e) pos) (retO m) := by
  refine ps_imp (ps_ret h) fun D' σ H q => q.evO fun B p o H1 d G1 ρ1 r s hp ro n h1 h2 => ?_
  cases h1
  exact h2 p o σ G1 H1 s hp ro n
/-- a variable's own object is handed back -/
def retV (i : Nat) : MS := fun ρ => match ρ[i]? with
  | some (.ow false d) => some (.ro d (ρ.set i .un))
  | _ => none
theorem SR.give {B : Bs} {σ : L2.St} {G H : Hp} {ρ : Cs} (s : SR K B σ G H ρ) {i : Nat} {d : D} (e : ρ[i]? = some (.ow false d)) :
    ∃ a o, σ[i]? = some (some (.ref a)) ∧ H a = some o ∧ RepO K G o d ∧ SR K B σ G H (ρ.set i .un) ∧ NewO B σ G H (ρ.set i .un) a := by
  obtain ⟨a, o, h1, h2, h3, h4, h5⟩ := s.ow i false d e
  rw [if_neg (by decide)] at h2
  have oi : isO ρ i := ⟨false, d, e⟩
  have no : ∀ {j : Nat}, isO (ρ.set i .un) j → j ≠ i ∧ isO ρ j := fun h => isO_set h (by intro b d q; cases q)
  refine ⟨a, o, h1, h4, h5, s.un (by simpa using s.len) fun j c h => ?_, h3, h2, fun j hj z => ?_, fun q hq z => ?_, fun j hj => ?_⟩
  · rcases get_set h with ⟨_, q⟩ | ⟨_, q⟩
    · exact .inl q
    · exact .inr ⟨q, rfl⟩
  · exact (no hj).1 (s.inj j i a (no hj).2 oi z h1)
  · exact (s.pin q hq).2.2.2 i oi (by rw [h1, z])
  · obtain ⟨b, sh, dd, v, e1, e2, e3⟩ := fpAt_is hj
    rcases get_set e1 with ⟨_, q⟩ | ⟨_, q⟩
    · cases q
    · exact s.offT e h1 (j := j) (by unfold fpAt; rw [q, e2]; exact e3)
theorem ss_retV {x : Str} (i : Nat) (hN : X.N[i]? = some x) (hv : Vis X.env.scope x) {p : Pos} (hd : (x == ("__debug__" : Str)) = false := by decide) (hcd : (x == ("__classdict__" : Str)) = false := by decide) : SS X Xs W (.Return (some (.Name x p)) pos) (retV i) := by
  refine ps_imp (ps_ret (pe_var (i := i) hN hv hd hcd)) fun D' σ H ⟨B, G, ρ, r, s, h1, h2⟩ => ?_
  unfold retV at h1
  split at h1
  · rename_i d e
    cases h1
    obtain ⟨a, o, k1, k2, k3, k4, k5⟩ := s.give e
    exact ⟨.ref a, k1, h2 a o σ G H k4 k2 k3 k5⟩
  · cases h1
def retN : MS := fun ρ => some (.rt .non ρ)
theorem ss_retN : SS X Xs W (.Return none pos) retN := ps_imp ps_retN fun D' σ H ⟨B, G, ρ, r, s, h1, h2⟩ => by cases h1; exact h2 .non σ G H s .non
def mIfS (mc : M Bool) (m n : MS) : MS := ev mc fun k => if k = true then m else n
theorem ss_if {c : Expr} {as bs : List Stmt} {mc : M Bool} {m n : MS} (hc : ST X Xs W c mc) (ha : SB X Xs W as m) (hb : SB X Xs W bs n) : SS X Xs W (.If c as bs pos) (mIfS mc m n) := by
  refine ps_imp (ps_if hc ha hb) fun D' σ H q => q.ev (Rl := RlT) fun B x H1 d G1 ρ1 r s rx h1 h2 => ?_
  cases rx
  cases x with
  | true => exact ⟨B, G1, ρ1, r, s, h1, h2⟩
  | false => exact ⟨B, G1, ρ1, r, s, h1, h2⟩
/-- target = e -/
def asg (m : M D) (g : D → Cs → Option Cs) : MS := ev m fun d ρ => match g d ρ with
  | some ρ' => some (.nx ρ')
  | none => none
theorem ss_asg {is : List Nat} {m : M D} {g : D → Cs → Option Cs} (he : SE X Xs W e m) (hg : SG X is tg g) (hs : swapsWithSole [tg] e pos.line X.env = pure false := by rfl) (hw : swappedStores [tg] e X.env = pure none := by rfl)
    (h1 : (assignEach [tg] X.env).map (·.2) = [assign tg X.env] := by rfl) : SS X Xs W (.Assign [tg] e pos) (asg m g) := by
  refine ps_imp (ps_asg he hg hs hw h1) fun D' σ H q => q.ev (Rl := RlE X.K) fun B x H1 d G1 ρ1 r s rx k1 k2 => ?_
  cases e1 : g d ρ1 with
  | none => rw [e1] at k1; cases k1
  | some ρ' => rw [e1] at k1; cases k1; exact ⟨B, G1, ρ1, d, ρ', s, rx, e1, fun σ' G' H' s' _ _ _ => k2 σ' G' H' s'⟩
/-- x = e, e a new object, which is our own -/
def asgO (i : Nat) (m : M D) : MS := ev m fun d ρ => match put i (.ow false d) ρ with
  | some ρ' => some (.nx ρ')
  | none => none
theorem ss_setO {x : Str} {p : Pos} {m : M D} (i : Nat) (hN : X.N.Nodup) (hi : X.N[i]? = some x) (hx : Loc X.env.scope x) (he : SO X Xs W e m) (hs : swapsWith e (some (.Name x p)) pos.line X.env = pure false := by rfl) (hf : X.fn x = true ∨ X.env.scope.names.lookup x = some .local := by first | exact .inl rfl | exact .inr rfl | assumption) :
    SS X Xs W (.Assign [.Name x p] e pos) (asgO i m) := by
  refine ps_imp (ps_set hN hi hx he hs hf) fun D' σ H q => q.evO fun B p o H1 d G1 ρ1 r s hp ro n k1 k2 => ?_
  cases e1 : put i (.ow false d) ρ1 with
  | none => rw [e1] at k1; cases k1
  | some ρ' =>
    rw [e1] at k1; cases k1
    obtain ⟨hl, rfl⟩ := put_inv e1
    exact k2 _ G1 H1 (s.setO hp n.2.1 n.1 ro n.2.2.1 n.2.2.2.1 n.2.2.2.2 (by rw [s.len]; exact hl))
theorem ss_set {x : Str} {p : Pos} {m : M D} (i : Nat) (hN : X.N.Nodup) (hi : X.N[i]? = some x) (hx : Loc X.env.scope x) (he : SE X Xs W e m) (hs : swapsWith e (some (.Name x p)) pos.line X.env = pure false := by rfl) (hf : X.fn x = true ∨ X.env.scope.names.lookup x = some .local := by first | exact .inl rfl | exact .inr rfl | assumption) :
    SS X Xs W (.Assign [.Name x p] e pos) (asg m (gN i)) := by
  refine ps_imp (ps_set hN hi hx he hs hf) fun D' σ H q => q.ev (Rl := RlE X.K) fun B v H1 d G1 ρ1 r s rx k1 k2 => ?_
  unfold gN at k1
  cases e1 : put i (.pu d) ρ1 with
  | none => rw [e1] at k1; cases k1
  | some ρ' =>
    rw [e1] at k1; cases k1
    obtain ⟨hl, rfl⟩ := put_inv e1
    exact k2 _ G1 H1 (s.setP rx (by rw [s.len]; exact hl))
/-- x op= e, x data -/
def aug (i : Nat) (f : D → D → Option D) (m : M D) : MS := fun ρ => match ρ[i]? with
  | some (.pu d) => ev m (fun e ρ1 => match f d e with
    | some z => (match put i (.pu z) ρ1 with | some ρ' => some (.nx ρ') | none => none)
    | none => none) ρ
  | _ => none
theorem ss_aug {x : Str} {p : Pos} {op : Operator} {r : R2} {f : D → D → Option D} {m : M D} (i : Nat) (hN : X.N.Nodup) (hi : X.N[i]? = some x) (hx : Loc X.env.scope x) (he : SE X Xs W e m) (ho : OpR X (inplaceOp op) r) (hfn : BinR X r f)
    (hf : X.fn x = true ∨ X.env.scope.names.lookup x = some .local := by first | exact .inl rfl | exact .inr rfl | assumption) : SS X Xs W (.AugAssign (.Name x p) op e pos) (aug i f m) := by
  refine ps_imp (ps_aug (ti := r) hN hi hx he (fun pins s σ H x y v u Q I rx ry q => ho pins s σ H x y v u Q I rx ry q) hf) fun D' σ H ⟨B, G, ρ, r', s, h1, h2⟩ => ?_
  unfold aug at h1
  split at h1
  · rename_i d e1
    obtain ⟨v, e2, rv⟩ := s.pu i d e1
    refine ⟨v, e2, ?_⟩
    unfold ev at h1
    cases e3 : m ρ with
    | none => rw [e3] at h1; cases h1
    | some q =>
      rw [e3] at h1
      cases q with
      | ex c p ρ1 => cases h1; exact ⟨B, G, ρ, s, _, e3, fun G' H' s' => h2 σ G' H' s'⟩
      | ok d2 ρ1 =>
        dsimp only at h1
        refine ⟨B, G, ρ, s, _, e3, fun y G1 H1 s1 x1 ry => ?_⟩
        cases hz : f d d2 with
        | none => rw [hz] at h1; cases h1
        | some z =>
          rw [hz] at h1
          dsimp only at h1
          cases e4 : put i (.pu z) ρ1 with
          | none => rw [e4] at h1; cases h1
          | some ρ' =>
            rw [e4] at h1; cases h1
            obtain ⟨hl, rfl⟩ := put_inv e4
            exact hfn G1 H1 v y d d2 z _ s1.ex (rv.mono x1) ry hz fun v' G' H' fr rz => h2 _ G' H' ((s1.step fr).setP rz (by rw [s1.len]; exact hl))
  · cases h1

/-! ### for, while -/
def forL (step : D → MS) : List D → MS
  | [], ρ => some (.nx ρ)
  | d :: ds, ρ => match step d ρ with
    | some (.nx ρ1) => forL step ds ρ1
    | some (.ct ρ1) => forL step ds ρ1
    | some (.bk ρ1) => some (.nx ρ1)
    | r => r
def gS (g : D → Cs → Option Cs) (d : D) (m : MS) : MS := fun ρ => match g d ρ with
  | some ρ1 => m ρ1
  | none => none
def mFor (mi : M (List D)) (g : D → Cs → Option Cs) (m : MS) : MS := ev mi fun its => forL (fun d => gS g d m) its
theorem SR.rebase {B : Bs} {σ : L2.St} {G H : Hp} {ρ : Cs} (s : SR K B σ G H ρ) : SR K { B with G := G } σ G H ρ :=
  ⟨⟨Ex.refl G, s.fr.h, fun _ _ => rfl, s.fr.e, s.fr.d⟩, s.len, s.pu, s.ow, s.inj, s.pin, s.er, ⟨s.tr.at_, s.tr.dj, s.tr.no, s.tr.pn, s.tr.lk⟩⟩
theorem SR.back {B : Bs} {σ : L2.St} {G G1 H H1 : Hp} {ρ : Cs} (f : Fr B.S B.G B.H G1 H1) (s : SR K { B with G := G1 } σ G H ρ) : SR K B σ G H ρ :=
  ⟨⟨f.g.trans s.fr.g, s.fr.h, fun a h => (s.fr.n a h).trans (f.n a h), s.fr.e, s.fr.d⟩, s.len, s.pu, s.ow, s.inj, s.pin, s.er, ⟨s.tr.at_, s.tr.dj, s.tr.no, s.tr.pn, s.tr.lk⟩⟩
theorem PostS.rebase {B : Bs} {D' : Ends} {G1 H1 : Hp} {r : RS} (f : Fr B.S B.G B.H G1 H1) (h : PostS K Xs W B D' r) : PostS K Xs W { B with G := G1 } D' r := by
  cases r with
  | nx ρ' => exact fun σ' G' H' s => h σ' G' H' (s.back f)
  | bk ρ' => exact fun σ' G' H' s => h σ' G' H' (s.back f)
  | ct ρ' => exact fun σ' G' H' s => h σ' G' H' (s.back f)
  | rt d ρ' => exact fun v σ' G' H' s => h v σ' G' H' (s.back f)
  | ro d ρ' => exact fun p o σ' G' H' s => h p o σ' G' H' (s.back f)
  | ex c p ρ' => exact fun σ' G' H' s => h σ' G' H' (s.back f)
theorem ss_for {is : List Nat} {body : List Stmt} {mi : M (List D)} {g : D → Cs → Option Cs} {m : MS} (hp : PassesOwn (model X.prog X.w) X.A X.env X.xe) (hc : X.calm = true) (hi : SI X Xs W tg e mi) (hg : SG X is tg g) (hb : SB X Xs W body m)
    (hs : ∀ x, foldedSetIterable e X.env x = pure x := by intro _; rfl) : SS X Xs W (.For tg e body [] pos) (mFor mi g m) := by
  refine ps_imp (ps_for hp hc hi hg hb hs) fun D' σ H q => q.ev (Rl := fun _ G J its => Src X.K G J its) fun B J H1 its G1 ρ1 r s src h1 h2 => ?_
  have h2' := h2.rebase s.fr
  generalize hB : ({ B with G := G1 } : Bs) = B1 at h2'
  have sB : SR X.K B1 σ G1 H1 ρ1 := hB ▸ s.rebase
  have gB : ∀ {σ G H ρ}, SR X.K B1 σ G H ρ → Ex G1 G := fun {σ G H ρ} t => by
    have := t.fr.g
    rw [← hB] at this
    exact this
  refine ⟨fun i k σ H => ∃ G ρ, SR X.K B1 σ G H ρ ∧ k = its.length - i ∧ i ≤ its.length ∧ forL (fun d => gS g d m) (its.drop i) ρ = some r, ⟨its.length, G1, ρ1, sB, by simp, Nat.zero_le _, h1⟩, ?_⟩
  rintro i k σ2 H2 ⟨G2, ρ2, s2, rfl, hi2, h3⟩
  obtain ⟨go, stop, yld⟩ := src G2 H2 (gB s2) s2.ex
  by_cases hlt : i < its.length
  · refine .inr ⟨go i hlt, ?_⟩
    have hd : its.drop i = its[i] :: its.drop (i + 1) := List.drop_eq_getElem_cons hlt
    rw [hd] at h3
    unfold forL at h3
    refine ⟨fun σ' H' => ∃ G ρ, SR X.K B1 σ' G H' ρ ∧ forL (fun d => gS g d m) (its.drop (i + 1)) ρ = some r, fun σ' H' ⟨G, ρ, k1, k3⟩ => ⟨its.length - (i + 1), by omega, G, ρ, k1, rfl, hlt, k3⟩, fun x H' y => ?_⟩
    obtain ⟨G3, fr, rx⟩ := yld i x H' its[i] (by simp [hlt]) y
    have s3 := s2.step fr
    unfold gS at h3
    cases eg : g its[i] ρ2 with
    | none => rw [eg] at h3; cases h3
    | some ρ3 =>
      rw [eg] at h3
      refine ⟨B1, G3, ρ2, its[i], ρ3, s3, rx, eg, fun σ4 G4 H4 s4 x4 _ _ => ?_⟩
      dsimp only at h3
      cases em : m ρ3 with
      | none => rw [em] at h3; cases h3
      | some q =>
        rw [em] at h3
        refine ⟨B1, G4, ρ3, q, s4, em, ?_⟩
        cases q with
        | nx ρ5 => exact fun σ5 G5 H5 s5 => ⟨G5, ρ5, s5, h3⟩
        | ct ρ5 => exact fun σ5 G5 H5 s5 => ⟨G5, ρ5, s5, h3⟩
        | bk ρ5 => cases h3; exact fun σ5 G5 H5 s5 => h2' σ5 G5 H5 s5
        | rt d ρ5 => cases h3; exact fun v σ5 G5 H5 s5 => h2' v σ5 G5 H5 s5
        | ro d ρ5 => cases h3; exact fun p o σ5 G5 H5 s5 => h2' p o σ5 G5 H5 s5
        | ex c p ρ5 => cases h3; exact fun σ5 G5 H5 s5 => h2' σ5 G5 H5 s5
  · have e1 : i = its.length := by omega
    subst e1
    rw [List.drop_length] at h3
    cases h3
    exact .inl ⟨stop, h2' σ2 G2 H2 s2⟩
/-- while, with as many turns as f tells at most -/
def whL (mc : M Bool) (m : MS) : Nat → MS
  | 0, _ => none
  | k + 1, ρ => match mc ρ with
    | some (.ok true ρ1) => (match m ρ1 with
      | some (.nx ρ2) => whL mc m k ρ2
      | some (.ct ρ2) => whL mc m k ρ2
      | some (.bk ρ2) => some (.nx ρ2)
      | r => r)
    | some (.ok false ρ1) => some (.nx ρ1)
    | some (.ex c p ρ1) => some (.ex c p ρ1)
    | none => none
theorem ss_while {body : List Stmt} {mc : M Bool} {m : MS} (n : Nat) (hp : PassesOwn (model X.prog X.w) X.A X.env X.xe) (hc : ST X Xs W c mc) (hb : SB X Xs W body m) : SS X Xs W (.While c body [] pos) (whL mc m n) := by
  refine ps_imp (ps_while hp hc hb) fun D' σ H ⟨B, G, ρ, r, s, h1, h2⟩ => ?_
  refine ⟨fun k σ H => ∃ G ρ, SR X.K B σ G H ρ ∧ whL mc m k ρ = some r, ⟨n, G, ρ, s, h1⟩, ?_⟩
  rintro k σ1 H1 ⟨G1, ρ1, s1, h3⟩
  cases k with
  | zero => cases h3
  | succ k =>
    unfold whL at h3
    cases ec : mc ρ1 with
    | none => rw [ec] at h3; cases h3
    | some q =>
      rw [ec] at h3
      refine (⟨B, G1, ρ1, s1, q, ec, ?_⟩ : rX X.K Xs W RlT mc σ1 H1 _)
      cases q with
      | ex c p ρ2 => cases h3; exact fun G' H' s' => h2 σ1 G' H' s'
      | ok b ρ2 =>
        intro v G' H' s' x' rv
        cases rv
        cases b with
        | false => cases h3; exact h2 σ1 G' H' s'
        | true =>
          dsimp only at h3
          refine ⟨fun σ' H' => ∃ G ρ, SR X.K B σ' G H' ρ ∧ whL mc m k ρ = some r, fun σ' H' w => ⟨k, Nat.lt_succ_self k, w⟩, ?_⟩
          cases em : m ρ2 with
          | none => rw [em] at h3; cases h3
          | some q =>
            rw [em] at h3
            refine ⟨B, G', ρ2, q, s', em, ?_⟩
            cases q with
            | nx ρ5 => exact fun σ5 G5 H5 s5 => ⟨G5, ρ5, s5, h3⟩
            | ct ρ5 => exact fun σ5 G5 H5 s5 => ⟨G5, ρ5, s5, h3⟩
            | bk ρ5 => cases h3; exact fun σ5 G5 H5 s5 => h2 σ5 G5 H5 s5
            | rt d ρ5 => cases h3; exact fun v σ5 G5 H5 s5 => h2 v σ5 G5 H5 s5
            | ro d ρ5 => cases h3; exact fun p o σ5 G5 H5 s5 => h2 p o σ5 G5 H5 s5
            | ex c p ρ5 => cases h3; exact fun σ5 G5 H5 s5 => h2 σ5 G5 H5 s5

/-! ### a list comprehension -/
def unset : List Nat → Cs → Cs
  | [], ρ => ρ
  | v :: vs, ρ => (unset vs ρ).set v .un
/-- the block's own variables as they were -/
def reset (ρ0 : Cs) : List Nat → Cs → Cs
  | [], ρ => ρ
  | v :: vs, ρ => (reset ρ0 vs ρ).set v (ρ0.getD v .un)
theorem unset_len : ∀ (vs : List Nat) (ρ : Cs), (unset vs ρ).length = ρ.length
  | [], _ => rfl
  | _ :: vs, ρ => by unfold unset; rw [List.length_set, unset_len vs ρ]
theorem reset_len (ρ0 : Cs) : ∀ (vs : List Nat) (ρ : Cs), (reset ρ0 vs ρ).length = ρ.length
  | [], _ => rfl
  | _ :: vs, ρ => by unfold reset; rw [List.length_set, reset_len ρ0 vs ρ]
theorem unset_get : ∀ {vs : List Nat} {ρ : Cs} {i : Nat} {c : Cell}, (unset vs ρ)[i]? = some c → c = .un ∨ (ρ[i]? = some c ∧ i ∉ vs)
  | [], _, _, _, h => .inr ⟨h, by simp⟩
  | v :: vs, ρ, i, c, h => by
    unfold unset at h
    rcases get_set h with ⟨_, q⟩ | ⟨n, q⟩
    · exact .inl q
    · rcases unset_get q with q | ⟨q1, q2⟩
      · exact .inl q
      · exact .inr ⟨q1, by simp [n, q2]⟩
theorem reset_get (ρ0 : Cs) : ∀ {vs : List Nat} {ρ : Cs} {i : Nat} {c : Cell}, (reset ρ0 vs ρ)[i]? = some c → (i ∈ vs ∧ c = ρ0.getD i .un) ∨ (ρ[i]? = some c ∧ i ∉ vs)
  | [], _, _, _, h => .inr ⟨h, by simp⟩
  | v :: vs, ρ, i, c, h => by
    unfold reset at h
    rcases get_set h with ⟨e, q⟩ | ⟨n, q⟩
    · subst e; exact .inl ⟨by simp, q⟩
    · rcases reset_get ρ0 q with ⟨q1, q2⟩ | ⟨q1, q2⟩
      · exact .inl ⟨by simp [q1], q2⟩
      · exact .inr ⟨q1, by simp [n, q2]⟩
theorem wipe_ne {σ : L2.St} {i : Nat} : ∀ {vs : List Nat}, i ∉ vs → (wipe σ vs)[i]? = σ[i]?
  | [], _ => rfl
  | v :: vs, h => by
    unfold wipe
    have h1 : v ≠ i := fun e => h (by simp [e])
    rw [List.getElem?_set_ne h1]
    exact wipe_ne fun z => h (by simp [z])
theorem wipe_eq {σ σ' : L2.St} (hl : σ'.length = σ.length) : ∀ {vs is : List Nat}, (∀ (j : Nat), j ∉ is → σ'[j]? = σ[j]?) → (∀ j ∈ is, j ∈ vs) → wipe σ' vs = wipe σ vs := by
  intro vs is h hs
  apply List.ext_getElem?
  intro i
  by_cases hi : i ∈ vs
  · have : ∀ (τ : L2.St) (us : List Nat), i ∈ us → (wipe τ us)[i]? = if i < τ.length then some none else none := by
      intro τ us
      induction us with
      | nil => intro z; cases z
      | cons u us ih =>
        intro z
        unfold wipe
        by_cases e : u = i
        · subst e
          by_cases hl : u < τ.length
          · rw [if_pos hl, List.getElem?_set_self (by rw [wipe_length]; exact hl)]
          · rw [if_neg hl, List.getElem?_eq_none (by rw [List.length_set, wipe_length]; omega)]
        · rw [List.getElem?_set_ne e]
          exact ih (by rcases List.mem_cons.mp z with q | q; exact absurd q.symm e; exact q)
    rw [this _ _ hi, this _ _ hi, hl]
  · rw [wipe_ne hi, wipe_ne hi]
    exact h i fun z => hi (hs i z)
/-- the variables at vs hold nothing of our own -/
def plainAt (ρ : Cs) (vs : List Nat) : Bool := vs.all fun v => match ρ[v]? with
  | some (.pu _) => true
  | some .un => true
  | none => true
  | _ => false
def lcL (vs : List Nat) (g : D → Cs → Option Cs) (mt : M Bool) (me : M D) : List D → List D → Cs → Option (List D × Cs)
  | [], acc, ρ => some (acc, ρ)
  | d :: ds, acc, ρ => match g d ρ with
    | none => none
    | some ρ1 => match mt ρ1 with
      | some (.ok true ρ2) => (match me ρ2 with
        | some (.ok y ρ3) => if acc.length < sizeLine then lcL vs g mt me ds (acc ++ [y]) (unset vs ρ3) else none
        | _ => none)
      | some (.ok false ρ2) => lcL vs g mt me ds acc (unset vs ρ2)
      | _ => none
def mLc (mi : M (List D)) (vs : List Nat) (g : D → Cs → Option Cs) (mt : M Bool) (me : M D) : M D := mi.bnd fun its ρ =>
  if plainAt ρ vs = true then
    (match lcL vs g mt me its [] (unset vs ρ) with
    | some (acc, ρ') => some (.ok (.lst acc) (reset ρ vs ρ'))
    | none => none)
  else none
abbrev FW : WX := fun _ _ _ _ => False
theorem lc_read {is vs : List Nat} {mi : M (List D)} {g : D → Cs → Option Cs} {mt : M Bool} {me : M D} (his : ∀ j ∈ is, j ∈ vs) {σ : L2.St} {H : Hp} {Q : VK} (h : rO X.K Xs W (mLc mi vs g mt me) σ H Q) :
    tLc (rX (ν := It) X.K Xs W (fun _ G J its => Src X.K G J its) mi) (rG X.K is g) (rX X.K Xs FW RlT mt) (rX X.K Xs FW (RlE X.K) me) vs σ H Q := by
  obtain ⟨B, G, ρ, s, r, h1, h2⟩ := h
  unfold mLc M.bnd at h1
  cases em : mi ρ with
  | none => rw [em] at h1; cases h1
  | some q =>
    rw [em] at h1
    cases q with
    | ex c p ρ1 => 
      cases h1
      show rX (ν := It) X.K Xs W (fun _ G J its => Src X.K G J its) mi σ H _
      exact ⟨B, G, ρ, s, _, em, h2⟩
    | ok its ρ1 =>
      show rX (ν := It) X.K Xs W (fun _ G J its => Src X.K G J its) mi σ H _
      refine ⟨B, G, ρ, s, _, em, fun J G1 H1 s1 x1 src D hD => ?_⟩
      dsimp only at h1
      by_cases hp : plainAt ρ1 vs = true
      · rw [if_pos hp] at h1
        cases el : lcL vs g mt me its [] (unset vs ρ1) with
        | none => rw [el] at h1; cases h1
        | some fin =>
          rw [el] at h1
          obtain ⟨acc1, ρf⟩ := fin
          cases h1
          -- the new list is held beside, the block's variables are forgotten
          have f0 := Fr.allocO (o := .lst []) s1.ex hD
          have n0 : NewO B σ G1 (upd H1 D (.lst [])) ρ1 D := s1.newO hD f0
          have nT : ∀ q ∈ B.T, q.1 ≠ D := n0.2.2.2.1
          have sA := (s1.step f0).rebase.hold (o := .lst []) upd_same n0
          have sA' : SR X.K { B with G := G1, T := (D, .lst []) :: B.T } (wipe σ vs) G1 (upd H1 D (.lst [])) (unset vs ρ1) :=
            sA.un (by rw [wipe_length, unset_len]; exact s1.len) fun i c h => by
              rcases unset_get h with q | ⟨q1, q2⟩
              · exact .inl q
              · exact .inr ⟨q1, wipe_ne q2⟩
          refine ⟨fun i k H2 => ∃ G2 ρ2 acc vacc, SR X.K { B with G := G1, T := (D, .lst vacc) :: B.T } (wipe σ vs) G2 H2 ρ2 ∧ Reps X.K G2 vacc acc ∧ k = its.length - i ∧ i ≤ its.length ∧ lcL vs g mt me (its.drop i) acc ρ2 = some (acc1, ρf),
            ⟨its.length, G1, _, [], [], sA', .nil, by simp, Nat.zero_le _, el⟩, ?_⟩
          rintro i k H2 ⟨G2, ρ2, acc, vacc, s2, ra, rfl, hi2, h3⟩
          have e12 : Ex G1 G2 := s2.fr.g
          obtain ⟨go, stop, yld⟩ := src G2 H2 e12 s2.ex
          by_cases hlt : i < its.length
          · refine .inr ⟨go i hlt, ?_⟩
            have hd : its.drop i = its[i] :: its.drop (i + 1) := List.drop_eq_getElem_cons hlt
            rw [hd] at h3
            unfold lcL at h3
            refine ⟨fun H' => ∃ G2 ρ2 acc vacc, SR X.K { B with G := G1, T := (D, .lst vacc) :: B.T } (wipe σ vs) G2 H' ρ2 ∧ Reps X.K G2 vacc acc ∧ lcL vs g mt me (its.drop (i + 1)) acc ρ2 = some (acc1, ρf),
              fun H' ⟨G3, ρ3, a3, v3, k1, k2, k3⟩ => ⟨its.length - (i + 1), by omega, G3, ρ3, a3, v3, k1, k2, rfl, hlt, k3⟩, fun x H' y => ?_⟩
            obtain ⟨G3, fr, rx⟩ := yld i x H' its[i] (by simp [hlt]) y
            have s3 := s2.step fr
            cases eg : g its[i] ρ2 with
            | none => rw [eg] at h3; cases h3
            | some ρ3 =>
              rw [eg] at h3
              refine ⟨_, G3, ρ2, its[i], ρ3, s3, rx, eg, fun σ4 G4 H4 s4 x4 l4 k4 => ?_⟩
              have ew : wipe σ4 vs = wipe σ vs := by
                rw [wipe_eq l4 k4 his]
                exact wipe_eq (σ := σ) (σ' := wipe σ vs) (wipe_length _ _) (is := vs) (fun j hj => wipe_ne hj) fun j hj => hj
              refine ⟨ew, ?_⟩
              have back : ∀ {V' : List V} {G5 H5 ρ5}, SR X.K { B with G := G1, T := (D, .lst V') :: B.T } σ4 G5 H5 ρ5 → SR X.K { B with G := G1, T := (D, .lst V') :: B.T } (wipe σ vs) G5 H5 (unset vs ρ5) := fun {V' G5 H5 ρ5} s5 =>
                s5.un (by rw [wipe_length, unset_len, ← s5.len, l4, wipe_length]) fun j c h => by
                  rcases unset_get h with q | ⟨q1, q2⟩
                  · exact .inl q
                  · exact .inr ⟨q1, by rw [← ew]; exact wipe_ne q2⟩
              dsimp only at h3
              cases et : mt ρ3 with
              | none => rw [et] at h3; cases h3
              | some qt =>
                rw [et] at h3
                cases qt with
                | ex c p ρ5 => cases h3
                | ok b ρ5 =>
                  show rX X.K Xs FW RlT mt σ4 H4 _
                  refine ⟨_, G4, ρ3, s4, _, et, fun v G5 H5 s5 x5 rv => ?_⟩
                  have rv' : v = b := rv
                  subst rv'
                  have ra5 := ra.mono ((fr.g.trans x4).trans x5)
                  cases v with
                  | false => exact ⟨G5, _, acc, vacc, back s5, ra5, h3⟩
                  | true =>
                    dsimp only at h3
                    cases ee : me ρ5 with
                    | none => rw [ee] at h3; cases h3
                    | some qe =>
                      rw [ee] at h3
                      cases qe with
                      | ex c p ρ6 => cases h3
                      | ok y ρ6 =>
                        dsimp only at h3
                        by_cases hz : acc.length < sizeLine
                        · rw [if_pos hz] at h3
                          show rX X.K Xs FW (RlE X.K) me σ4 H5 _
                          refine ⟨_, G5, ρ5, s5, _, ee, fun w G6 H6 s6 x6 rw' => ?_⟩
                          have ra6 := ra5.mono x6
                          refine ⟨vacc, (s6.pin (D, .lst vacc) List.mem_cons_self).1, by rw [ra6.length]; exact hz, G6, _, acc ++ [y], vacc ++ [w], ?_, ra6.append (.cons rw' .nil), h3⟩
                          exact back (SR.heldW (B := { B with G := G1 }) (d := .lst acc) s6 ra6 nT)
                        · rw [if_neg hz] at h3; cases h3
          · have e1 : i = its.length := by omega
            subst e1
            rw [List.drop_length] at h3
            cases h3
            refine .inl ⟨stop, ?_⟩
            obtain ⟨sL, hH, hG, hB, hO, hF⟩ := SR.letgo (B := { B with G := G1 }) s2
            have lenρ : ρf.length = ρ1.length := by rw [← sL.len, wipe_length]; exact s1.len
            have no : ∀ {j : Nat}, isO (reset ρ1 vs ρf) j → isO ρf j ∧ j ∉ vs := fun {j} ⟨b, d, h⟩ => by
              rcases reset_get ρ1 h with ⟨q1, q2⟩ | ⟨q1, q2⟩
              · exfalso
                have hv := List.all_eq_true.mp hp j q1
                cases e4 : ρ1[j]? with
                | none =>
                  rw [List.getD_eq_getElem?_getD, e4] at q2; cases q2
                | some c4 =>
                  rw [List.getD_eq_getElem?_getD, e4] at q2
                  have q2' : Cell.ow b d = c4 := q2
                  subst q2'
                  rw [e4] at hv; cases hv
              · exact ⟨⟨b, d, q1⟩, q2⟩
            have nt : ∀ {j b s d}, (reset ρ1 vs ρf)[j]? = some (Cell.tr b s d) → ρf[j]? = some (Cell.tr b s d) ∧ σ[j]? = (wipe σ vs)[j]? := fun {j b s d} h => by
              rcases reset_get ρ1 h with ⟨q1, q2⟩ | ⟨q1, q2⟩
              · exfalso
                have hv := List.all_eq_true.mp hp j q1
                cases e4 : ρ1[j]? with
                | none =>
                  rw [List.getD_eq_getElem?_getD, e4] at q2; cases q2
                | some c4 =>
                  rw [List.getD_eq_getElem?_getD, e4] at q2
                  have q2' : Cell.tr b s d = c4 := q2
                  subst q2'
                  rw [e4] at hv; cases hv
              · exact ⟨q1, (wipe_ne q2).symm⟩
            have sF : SR X.K { B with G := G1 } σ G2 H2 (reset ρ1 vs ρf) := by
              refine ⟨sL.fr, by rw [reset_len, lenρ]; exact s1.len, fun j d h => ?_, fun j b d h => ?_, fun j j' a hj hj' k1 k2 => ?_, fun p hp' => ?_, fun j c p h => ?_, sL.tr.move rfl rfl (fun j b s d h => nt h) (Ex.refl _) (fun k x hx => ⟨rfl, (sL.tr.got hx).2.1⟩) (fun i j x _ o z => by have n := no o; exact ⟨n.1, by rw [wipe_ne n.2]; exact z⟩) (fun p hp => .inl hp)⟩
              · rcases reset_get ρ1 h with ⟨q1, q2⟩ | ⟨q1, q2⟩
                · have e4 : ρ1[j]? = some (.pu d) := by
                    cases e4 : ρ1[j]? with
                    | none => rw [List.getD_eq_getElem?_getD, e4] at q2; cases q2
                    | some c4 => rw [List.getD_eq_getElem?_getD, e4] at q2; exact congrArg some q2.symm
                  obtain ⟨v, k1, k2⟩ := s1.pu j d e4
                  exact ⟨v, k1, k2.mono e12⟩
                · have := sL.pu j d q1
                  rwa [wipe_ne q2] at this
              · have n := no (j := j) ⟨b, d, h⟩
                rcases reset_get ρ1 h with ⟨q1, q2⟩ | ⟨q1, q2⟩
                · exact absurd q1 n.2
                · have := sL.ow j b d q1
                  rwa [wipe_ne q2] at this
              · have n1 := no hj
                have n2 := no hj'
                exact sL.inj j j' a n1.1 n2.1 (by rw [wipe_ne n1.2]; exact k1) (by rw [wipe_ne n2.2]; exact k2)
              · obtain ⟨k1, k2, k3, k4⟩ := sL.pin p hp'
                exact ⟨k1, k2, k3, fun j hj => by have n := no hj; rw [← wipe_ne (σ := σ) n.2]; exact k4 j n.1⟩
              · rcases reset_get ρ1 h with ⟨q1, q2⟩ | ⟨q1, q2⟩
                · exfalso
                  have hv := List.all_eq_true.mp hp j q1
                  cases e4 : ρ1[j]? with
                  | none => rw [List.getD_eq_getElem?_getD, e4] at q2; cases q2
                  | some c4 =>
                    rw [List.getD_eq_getElem?_getD, e4] at q2
                    have q2' : Cell.er c p = c4 := q2
                    subst q2'
                    rw [e4] at hv; cases hv
                · have := sL.er j c p q1
                  rwa [wipe_ne q2] at this
            refine h2 D (.lst vacc) G2 H2 (sF.back s1.fr) (x1.trans e12) hH ra ⟨hG, hB, fun j hj => ?_, nT, fun j hj => ?_⟩
            · have n := no hj
              rw [← wipe_ne (σ := σ) n.2]
              exact hO j n.1
            · obtain ⟨b, sh, dd, v, e1, e2, e3⟩ := fpAt_is hj
              obtain ⟨n1, n2⟩ := nt e1
              exact hF j (by unfold fpAt; rw [n1, ← n2, e2]; exact e3)
      · rw [if_neg hp] at h1; cases h1
theorem so_lc {elt : Expr} {ifs : List Expr} {scope : Scope} {own : List (Str × Nat)} {is : List Nat} {mi : M (List D)} {g : D → Cs → Option Cs} {mt : M Bool} {me : M D} (hc : X.calm = true) (hN : X.N.Nodup) (hi : SI X Xs W tg e mi) (ok : BlkOk X.N X.env.scope scope own)
    (hg : ∀ (s : Shared) (H : Hp) (C : Addr) (cl : List (Str × Addr)) (fp : List Addr), SG (X.blk s H scope (compEnvC scope cl C X.env) fp) is tg g)
    (ht : ∀ (s : Shared) (H : Hp) (C : Addr) (cl : List (Str × Addr)) (fp : List Addr), PTs (X.blk s H scope (compEnvC scope cl C X.env) fp) ifs (rX X.K Xs FW RlT mt))
    (he : ∀ (s : Shared) (H : Hp) (C : Addr) (cl : List (Str × Addr)) (fp : List Addr), SE (X.blk s H scope (compEnvC scope cl C X.env) fp) Xs FW elt me) (his : ∀ j ∈ is, j ∈ own.map (·.2))
    (hs : ∀ x, foldedSetIterable e X.env x = pure x := by intro _; rfl) : SO X Xs W (.ListComp elt [⟨tg, e, ifs, 0⟩] scope pos) (mLc mi (own.map (·.2)) g mt me) := by
  refine pe_imp (pe_lc (g := rG X.K is g) (te := rX X.K Xs FW (RlE X.K) me) hc hN hi ok hg ht he hs) fun σ H Q h => lc_read his h
theorem ss_setLcO {y : Str} {py spos : Pos} {elt : Expr} {ifs : List Expr} {scope : Scope} {own : List (Str × Nat)} {is : List Nat} {mi : M (List D)} {g : D → Cs → Option Cs} {mt : M Bool} {me : M D} (i : Nat) (hc : X.calm = true) (hN : X.N.Nodup) (hy : X.N[i]? = some y) (hyl : X.env.scope.names.lookup y = some .local) (hk : X.env.scope.kind = .function)
    (hi : SI X Xs W tg e mi) (ok : BlkOk X.N X.env.scope scope own)
    (hg : ∀ (s : Shared) (H : Hp) (C : Addr) (cl : List (Str × Addr)) (fp : List Addr), SG (X.blk s H scope (compEnvC scope cl C X.env) fp) is tg g)
    (ht : ∀ (s : Shared) (H : Hp) (C : Addr) (cl : List (Str × Addr)) (fp : List Addr), PTs (X.blk s H scope (compEnvC scope cl C X.env) fp) ifs (rX X.K Xs FW RlT mt))
    (he : ∀ (s : Shared) (H : Hp) (C : Addr) (cl : List (Str × Addr)) (fp : List Addr), SE (X.blk s H scope (compEnvC scope cl C X.env) fp) Xs FW elt me) (his : ∀ j ∈ is, j ∈ own.map (·.2))
    (hs : ∀ x, foldedSetIterable e X.env x = pure x := by intro _; rfl) (hl : (py.line == pos.line) = true := by rfl) (hna : (scope.names.any fun (n, k) => n == y && (k == .local || k == .cell)) = false := by rfl) :
    SS X Xs W (.Assign [.Name y py] (.ListComp elt [⟨tg, e, ifs, 0⟩] scope pos) spos) (asgO i (mLc mi (own.map (·.2)) g mt me)) := by
  refine ps_imp (ps_setLc (g := rG X.K is g) (te := rX X.K Xs FW (RlE X.K) me) hc hN hy hyl (sw_true hk hyl hl hna) hi ok hg ht he hs) fun D' σ H q => lc_read his (q.evO fun B p o H1 d G1 ρ1 r s hp ro n k1 k2 => ?_)
  cases e1 : put i (.ow false d) ρ1 with
  | none => rw [e1] at k1; cases k1
  | some ρ' =>
    rw [e1] at k1; cases k1
    obtain ⟨hl, rfl⟩ := put_inv e1
    exact k2 _ G1 H1 (s.setO hp n.2.1 n.1 ro n.2.2.1 n.2.2.2.1 n.2.2.2.2 (by rw [s.len]; exact hl))
theorem ss_setLcP {y : Str} {py spos : Pos} {elt : Expr} {ifs : List Expr} {scope : Scope} {own : List (Str × Nat)} {is : List Nat} {mi : M (List D)} {g : D → Cs → Option Cs} {mt : M Bool} {me : M D} (i : Nat) (hc : X.calm = true) (hN : X.N.Nodup) (hy : X.N[i]? = some y) (hyl : X.env.scope.names.lookup y = some .local) (hk : X.env.scope.kind = .function)
    (hi : SI X Xs W tg e mi) (ok : BlkOk X.N X.env.scope scope own)
    (hg : ∀ (s : Shared) (H : Hp) (C : Addr) (cl : List (Str × Addr)) (fp : List Addr), SG (X.blk s H scope (compEnvC scope cl C X.env) fp) is tg g)
    (ht : ∀ (s : Shared) (H : Hp) (C : Addr) (cl : List (Str × Addr)) (fp : List Addr), PTs (X.blk s H scope (compEnvC scope cl C X.env) fp) ifs (rX X.K Xs FW RlT mt))
    (he : ∀ (s : Shared) (H : Hp) (C : Addr) (cl : List (Str × Addr)) (fp : List Addr), SE (X.blk s H scope (compEnvC scope cl C X.env) fp) Xs FW elt me) (his : ∀ j ∈ is, j ∈ own.map (·.2))
    (hs : ∀ x, foldedSetIterable e X.env x = pure x := by intro _; rfl) (hl : (py.line == pos.line) = true := by rfl) (hna : (scope.names.any fun (n, k) => n == y && (k == .local || k == .cell)) = false := by rfl) :
    SS X Xs W (.Assign [.Name y py] (.ListComp elt [⟨tg, e, ifs, 0⟩] scope pos) spos) (asg (mLc mi (own.map (·.2)) g mt me) (gN i)) := by
  refine ps_imp (ps_setLc (g := rG X.K is g) (te := rX X.K Xs FW (RlE X.K) me) hc hN hy hyl (sw_true hk hyl hl hna) hi ok hg ht he hs) fun D' σ H q => lc_read his ?_
  have q' := q
  refine q.evO fun B p o H1 d G1 ρ1 r s hp ro n k1 k2 => ?_
  unfold gN at k1
  cases e1 : put i (.pu d) ρ1 with
  | none => rw [e1] at k1; cases k1
  | some ρ' =>
    rw [e1] at k1; cases k1
    obtain ⟨hl, rfl⟩ := put_inv e1
    have s2 := s.adopt hp n
    exact k2 _ _ H1 (s2.setP ((ro.mono (Ex.upd n.1)).rep upd_same) (by rw [s.len]; exact hl))
def mYes : M Bool := M.ret true
theorem pts_yes {X : Cx} {K : PySem.W.Frag} : PTs X [] (rX K Xs FW RlT mYes) := ⟨fun pins s σ H Q I ⟨B, G, ρ, sr, q⟩ => pts_nil.run pins s σ H Q I (q.reted true G H sr (Ex.refl _) rfl)⟩
end
end Tk
namespace Tk
open PySem PySem.Spec PyProof.Rows L2

/-! ### what a def does -/
inductive FR where
  | ret (d : D) (outs : List D) | exc (c : Nat) (p : D) (outs : List D)
/-- a parameter: data | an own object that is lent | an own tree that is lent, of the shape a before, b after | an own tree that is lent to be read alone -/
inductive Kd where
  | p | o | t (a b : Sh) | l (a : Sh)
/-- ks: what the parameters are; fr: what it hands back is a new object -/
structure FnD where
  ks : List Kd
  fr : Bool
  sem : List D → Option FR
abbrev PL := List (Nat × Addr)
abbrev UL := List (Nat × Addr × List Addr)
def argsOk (K : PySem.W.Frag) (G H : Hp) : Nat → List Kd → List V → List D → PL → UL → UL → Prop
  | _, [], [], [], [], [], [] => True
  | i, .p :: ks, v :: vs, d :: ds, P, U, N => Rep K G v d ∧ argsOk K G H (i + 1) ks vs ds P U N
  | i, .o :: ks, v :: vs, d :: ds, (j, a) :: P, U, N => j = i ∧ v = .ref a ∧ G a = none ∧ (∃ o, H a = some o ∧ RepO K G o d) ∧ argsOk K G H (i + 1) ks vs ds P U N
  | i, .t s _ :: ks, v :: vs, d :: ds, P, (j, a, fp) :: U, N => j = i ∧ v = .ref a ∧ Own K G H s (.ref a) d fp ∧ argsOk K G H (i + 1) ks vs ds P U N
  | i, .l s :: ks, v :: vs, d :: ds, P, U, (j, a, fp) :: N => j = i ∧ v = .ref a ∧ Own K G H s (.ref a) d fp ∧ argsOk K G H (i + 1) ks vs ds P U N
  | _, _, _, _, _, _, _ => False
/-- what has become of what was lent (H0: the heap before) -/
def outsOk (K : PySem.W.Frag) (G H H0 : Hp) : List Kd → PL → UL → List D → Prop
  | [], [], [], [] => True
  | .p :: ks, P, U, ds => outsOk K G H H0 ks P U ds
  | .l _ :: ks, P, U, ds => outsOk K G H H0 ks P U ds
  | .o :: ks, (_, a) :: P, U, d :: ds => (∃ o, H a = some o ∧ RepO K G o d) ∧ outsOk K G H H0 ks P U ds
  | .t _ s :: ks, P, (_, a, fp) :: U, d :: ds => (∃ fp', Own K G H s (.ref a) d fp' ∧ ∀ x ∈ fp', x ∈ fp ∨ H0 x = none) ∧ outsOk K G H H0 ks P U ds
  | _, _, _, _ => False
/-- the objects of the lent trees -/
def outFp (H : Hp) : List Kd → UL → List Addr
  | [], _ => []
  | .p :: ks, U => outFp H ks U
  | .l _ :: ks, U => outFp H ks U
  | .o :: ks, U => outFp H ks U
  | .t _ s :: ks, (_, a, _) :: U => fpOf H s (.ref a) ++ outFp H ks U
  | .t _ _ :: _, [] => []
def SPU (P : PL) (U : UL) : List Addr := P.map (·.2) ++ U.flatMap (·.2.2)
def fps (U : UL) : List (Addr × List Addr) := U.map (·.2)
def LentOk (P : PL) (U N : UL) : Prop := (P.map (·.2)).Nodup ∧ U.length ≤ 1 ∧ (∀ p ∈ P, ∀ u ∈ U, p.2 ∉ u.2.2) ∧ (∀ p ∈ P, ∀ u ∈ N, p.2 ∉ u.2.2) ∧ (∀ u ∈ U, ∀ w ∈ N, Dj u.2.2 w.2.2) ∧ (fps N).Pairwise fun u w => Dj u.2 w.2
def spF (K : PySem.W.Frag) (Xs : List XC) (F : FnD) : Sp := fun vs H Q E => ∃ G P U N ds r, Ex G H ∧ argsOk K G H 0 F.ks vs ds P U N ∧ LentOk P U N ∧ F.sem ds = some r ∧ match r with
  | .ret d outs => ∀ v G' H', Fr (SPU P U) G H G' H' → outsOk K G' H' H F.ks P U outs →
      (if F.fr = true then ∃ p o, v = .ref p ∧ H p = none ∧ G' p = none ∧ H' p = some o ∧ RepO K G' o d ∧ p ∉ outFp H' F.ks U else Rep K G' v d) → Q v H'
  | .exc c p outs => ∀ G' H', Fr (SPU P U) G H G' H' → outsOk K G' H' H F.ks P U outs → XP K Xs { G := G, H := H, P := P, T := [], U := U, L := fun _ => H } G' H' c p fun cls dd => E cls dd H'
theorem argsOk_len {K : PySem.W.Frag} {G H : Hp} : ∀ {i : Nat} {ks : List Kd} {vs : List V} {ds : List D} {P : PL} {U N : UL}, argsOk K G H i ks vs ds P U N → vs.length = ks.length ∧ ds.length = ks.length
  | _, [], [], [], [], [], [], _ => ⟨rfl, rfl⟩
  | i, .p :: ks, v :: vs, d :: ds, P, U, N, h => by
    obtain ⟨h1, h2⟩ := argsOk_len (i := i + 1) (P := P) (U := U) (N := N) h.2
    exact ⟨by simp [h1], by simp [h2]⟩
  | i, .o :: ks, v :: vs, d :: ds, (j, a) :: P, U, N, h => by
    obtain ⟨h1, h2⟩ := argsOk_len (i := i + 1) (P := P) (U := U) (N := N) h.2.2.2.2
    exact ⟨by simp [h1], by simp [h2]⟩
  | i, .t _ _ :: ks, v :: vs, d :: ds, P, (j, a, fp) :: U, N, h => by
    obtain ⟨h1, h2⟩ := argsOk_len (i := i + 1) (P := P) (U := U) (N := N) h.2.2.2
    exact ⟨by simp [h1], by simp [h2]⟩
  | i, .l _ :: ks, v :: vs, d :: ds, P, U, (j, a, fp) :: N, h => by
    obtain ⟨h1, h2⟩ := argsOk_len (i := i + 1) (P := P) (U := U) (N := N) h.2.2.2
    exact ⟨by simp [h1], by simp [h2]⟩
def cell0 : Kd → D → Cell
  | .p, d => .pu d
  | .o, d => .ow true d
  | .t s _, d => .tr (true, false) s d
  | .l s, d => .tr (true, true) s d
def cells0 : List Kd → List D → Cs
  | k :: ks, d :: ds => cell0 k d :: cells0 ks ds
  | _, _ => []
def init (n : Nat) (ks : List Kd) (ds : List D) : Cs := cells0 ks ds ++ List.replicate (n - ks.length) .un
theorem cells0_len : ∀ {ks : List Kd} {ds : List D}, ds.length = ks.length → (cells0 ks ds).length = ks.length
  | [], [], _ => rfl
  | k :: ks, d :: ds, h => by show (cells0 ks ds).length + 1 = _; rw [cells0_len (by simpa using h)]; rfl
/-- what the caller knows of an argument's cell -/
def ArgC (K : PySem.W.Frag) (G H : Hp) (P : PL) (U N : UL) (i : Nat) (v : V) : Cell → Prop
  | .pu d => Rep K G v d
  | .ow b d => b = true ∧ ∃ a, v = .ref a ∧ (i, a) ∈ P ∧ G a = none ∧ ∃ o, H a = some o ∧ RepO K G o d
  | .tr b s d => ∃ a fp, v = .ref a ∧ (b = (true, false) ∧ (i, a, fp) ∈ U ∨ b = (true, true) ∧ (i, a, fp) ∈ N) ∧ Own K G H s v d fp
  | _ => False
theorem ArgC.more {K : PySem.W.Frag} {G H : Hp} {P P' : PL} {U U' N N' : UL} {i : Nat} {v : V} {c : Cell} (h : ArgC K G H P U N i v c) (hp : ∀ x ∈ P, x ∈ P') (hu : ∀ x ∈ U, x ∈ U') (hn : ∀ x ∈ N, x ∈ N') : ArgC K G H P' U' N' i v c := by
  cases c with
  | un => exact h
  | er _ _ => exact h
  | pu d => exact h
  | ow b d => obtain ⟨h1, a, h2, h3, h4⟩ := h; exact ⟨h1, a, h2, hp _ h3, h4⟩
  | tr b s d => obtain ⟨a, fp, h2, h3, h4⟩ := h; exact ⟨a, fp, h2, h3.imp (fun z => ⟨z.1, hu _ z.2⟩) (fun z => ⟨z.1, hn _ z.2⟩), h4⟩
theorem args_c {K : PySem.W.Frag} {G H : Hp} : ∀ {i : Nat} {ks : List Kd} {vs : List V} {ds : List D} {P : PL} {U N : UL}, argsOk K G H i ks vs ds P U N → ∀ (j : Nat) (c : Cell), (cells0 ks ds)[j]? = some c → ∃ v, vs[j]? = some v ∧ ArgC K G H P U N (i + j) v c
  | _, [], [], [], [], [], [], _, j, d, e => by simp [cells0] at e
  | i, .p :: ks, v :: vs, d :: ds, P, U, N, h, 0, c, q => by
    have : Cell.pu d = c := Option.some.inj q
    subst this
    exact ⟨v, rfl, h.1⟩
  | i, .p :: ks, v :: vs, d :: ds, P, U, N, h, j + 1, c, q => by
    obtain ⟨v', h1, h2⟩ := args_c (i := i + 1) (P := P) (U := U) (N := N) h.2 j c q
    exact ⟨v', h1, by rw [show i + (j + 1) = i + 1 + j by omega]; exact h2⟩
  | i, .o :: ks, v :: vs, d :: ds, (j', a) :: P, U, N, h, 0, c, q => by
    have : Cell.ow true d = c := Option.some.inj q
    subst this
    obtain ⟨rfl, rfl, h3, h4, _⟩ := h
    exact ⟨_, rfl, rfl, a, rfl, List.mem_cons_self, h3, h4⟩
  | i, .o :: ks, v :: vs, d :: ds, (j', a) :: P, U, N, h, j + 1, c, q => by
    obtain ⟨v', h1, h2⟩ := args_c (i := i + 1) (P := P) (U := U) (N := N) h.2.2.2.2 j c q
    exact ⟨v', h1, by rw [show i + (j + 1) = i + 1 + j by omega]; exact h2.more (fun _ z => List.mem_cons_of_mem _ z) (fun _ z => z) (fun _ z => z)⟩
  | i, .t s _ :: ks, v :: vs, d :: ds, P, (j', a, fp) :: U, N, h, 0, c, q => by
    have : Cell.tr (true, false) s d = c := Option.some.inj q
    subst this
    obtain ⟨rfl, rfl, h3, _⟩ := h
    exact ⟨_, rfl, a, fp, rfl, .inl ⟨rfl, List.mem_cons_self⟩, h3⟩
  | i, .t _ _ :: ks, v :: vs, d :: ds, P, (j', a, fp) :: U, N, h, j + 1, c, q => by
    obtain ⟨v', h1, h2⟩ := args_c (i := i + 1) (P := P) (U := U) (N := N) h.2.2.2 j c q
    exact ⟨v', h1, by rw [show i + (j + 1) = i + 1 + j by omega]; exact h2.more (fun _ z => z) (fun _ z => List.mem_cons_of_mem _ z) (fun _ z => z)⟩
  | i, .l s :: ks, v :: vs, d :: ds, P, U, (j', a, fp) :: N, h, 0, c, q => by
    have : Cell.tr (true, true) s d = c := Option.some.inj q
    subst this
    obtain ⟨rfl, rfl, h3, _⟩ := h
    exact ⟨_, rfl, a, fp, rfl, .inr ⟨rfl, List.mem_cons_self⟩, h3⟩
  | i, .l _ :: ks, v :: vs, d :: ds, P, U, (j', a, fp) :: N, h, j + 1, c, q => by
    obtain ⟨v', h1, h2⟩ := args_c (i := i + 1) (P := P) (U := U) (N := N) h.2.2.2 j c q
    exact ⟨v', h1, by rw [show i + (j + 1) = i + 1 + j by omega]; exact h2.more (fun _ z => z) (fun _ z => z) (fun _ z => List.mem_cons_of_mem _ z)⟩
theorem nodup_fst {P : List (Nat × Addr)} (h : (P.map (·.2)).Nodup) {p q : Nat × Addr} (hp : p ∈ P) (hq : q ∈ P) (e : p.2 = q.2) : p = q := by
  induction P with
  | nil => cases hp
  | cons x P ih =>
    rw [List.map_cons, List.nodup_cons] at h
    rcases List.mem_cons.mp hp with e1 | hp1
    · rcases List.mem_cons.mp hq with e2 | hq1
      · rw [e1, e2]
      · exact absurd (List.mem_map.mpr ⟨q, hq1, by rw [← e, e1]⟩) h.1
    · rcases List.mem_cons.mp hq with e2 | hq1
      · exact absurd (List.mem_map.mpr ⟨p, hp1, by rw [e, e2]⟩) h.1
      · exact ih h.2 hp1 hq1
theorem start_get {N : List Str} {vs : List V} {i : Nat} {v : V} (h : vs[i]? = some v) : (L2.start N vs)[i]? = some (some v) := by
  unfold L2.start
  have hi : i < vs.length := (List.getElem?_eq_some_iff.mp h).1
  rw [List.getElem?_append_left (by simpa using hi), List.getElem?_map, h]
  rfl
theorem fps_dj : ∀ {N : UL}, (fps N).Pairwise (fun u w => Dj u.2 w.2) → ∀ r ∈ N, ∀ w ∈ N, r.1 ≠ w.1 → Dj r.2.2 w.2.2
  | [], _, _, h, _, _, _ => nomatch h
  | u :: N, p, r, hr, w, hw, ne => by
    have p' : ((u.2 :: fps N)).Pairwise (fun u w => Dj u.2 w.2) := p
    rw [List.pairwise_cons] at p'
    rcases List.mem_cons.mp hr with e | hr
    · rcases List.mem_cons.mp hw with e2 | hw
      · exact absurd (by rw [e, e2]) ne
      · rw [e]; exact p'.1 w.2 (List.mem_map.mpr ⟨w, hw, rfl⟩)
    · rcases List.mem_cons.mp hw with e2 | hw
      · rw [e2]; exact (p'.1 r.2 (List.mem_map.mpr ⟨r, hr, rfl⟩)).symm
      · exact fps_dj p'.2 r hr w hw ne
theorem init_sr {K : PySem.W.Frag} {G H : Hp} {ks : List Kd} {vs : List V} {ds : List D} {P : PL} {U R : UL} {N : List Str} (e : Ex G H) (a : argsOk K G H 0 ks vs ds P U R) (nd : LentOk P U R) (hl : ks.length ≤ N.length) : SR K { G := G, H := H, P := P, T := [], U := U, L := fun _ => H } (L2.start N vs) G H (init N.length ks ds) := by
  obtain ⟨l1, l2⟩ := argsOk_len a
  have lc := cells0_len l2
  have at_ : ∀ {j : Nat} {c : Cell}, (init N.length ks ds)[j]? = some c → c ≠ .un → ∃ v, (L2.start N vs)[j]? = some (some v) ∧ ArgC K G H P U R j v c := fun {j c} h hc => by
    unfold init at h
    by_cases hj : j < (cells0 ks ds).length
    · rw [List.getElem?_append_left hj] at h
      obtain ⟨v, h1, h2⟩ := args_c a j c h
      exact ⟨v, start_get h1, by simpa using h2⟩
    · rw [List.getElem?_append_right (by omega)] at h
      have := List.mem_of_getElem? h
      exact absurd (List.eq_of_mem_replicate this) hc
  have tr_ : ∀ {j : Nat} {x : Addr}, x ∈ fpAt H (L2.start N vs) (init N.length ks ds) j → ∃ a fp, ((j, a, fp) ∈ U ∨ (j, a, fp) ∈ R) ∧ x ∈ fp := fun {j x} h => by
    obtain ⟨b, s, d, v, e1, e2, e3⟩ := fpAt_is h
    obtain ⟨v', k1, a', fp, k2, k3, k4⟩ := at_ e1 (by simp)
    rw [e2] at k1; cases k1
    rw [k4.fp] at e3
    exact ⟨a', fp, k3.imp (·.2) (·.2), e3⟩
  have one : ∀ {x y : Nat × Addr × List Addr}, x ∈ U → y ∈ U → x = y := fun {x y} hx hy => by
    match U, nd.2.1, hx, hy with
    | [u], _, hx, hy => simp at hx hy; rw [hx, hy]
    | _ :: _ :: _, h, _, _ => simp at h
  obtain ⟨n1, n2, n3, n4, n5, n6⟩ := nd
  refine ⟨Fr.refl e, ?_, fun j d h => ?_, fun j b d h => ?_, fun j k x hj hk h1 h2 => ?_, (fun p hp => nomatch hp), fun j c p h => ?_, fun j b s d h => ?_, fun j k n x h1 h2 => ?_, fun j k x h1 h2 h3 => ?_, (fun _ _ _ p hp => nomatch hp), fun j b s d h x hx => rfl⟩
  · unfold L2.start init
    simp only [List.length_append, List.length_map, List.length_replicate]
    omega
  · exact at_ h (by simp)
  · obtain ⟨v, h1, rfl, x, rfl, h2, h3, o, h4, h5⟩ := at_ h (by simp)
    exact ⟨x, o, h1, by simpa using h2, h3, h4, h5⟩
  · obtain ⟨b1, d1, q1⟩ := hj
    obtain ⟨b2, d2, q2⟩ := hk
    obtain ⟨_, k1, _, x1, rfl, k2, _⟩ := at_ q1 (by simp)
    obtain ⟨_, k3, _, x2, rfl, k4, _⟩ := at_ q2 (by simp)
    rw [k1] at h1; cases h1
    rw [k3] at h2; cases h2
    have := nodup_fst n1 k2 k4 rfl
    exact congrArg (·.1) this
  · obtain ⟨v, _, h2⟩ := at_ h (by simp)
    exact h2.elim
  · obtain ⟨v, h1, x, fp, rfl, h2, h3⟩ := at_ h (by simp)
    refine ⟨x, fp, h1, h3, ?_⟩
    rcases h2 with ⟨rfl, h2⟩ | ⟨rfl, h2⟩
    · exact ⟨fp, h2, fun y hy => .inl hy⟩
    · trivial
  · obtain ⟨a1, f1, m1, y1⟩ := tr_ h1
    obtain ⟨a2, f2, m2, y2⟩ := tr_ h2
    rcases m1 with m1 | m1 <;> rcases m2 with m2 | m2
    · exact n (congrArg (·.1) (one m1 m2))
    · exact n5 _ m1 _ m2 x y1 y2
    · exact n5 _ m2 _ m1 x y2 y1
    · exact fps_dj n6 _ m1 _ m2 n x y1 y2
  · obtain ⟨a1, f1, m1, m2⟩ := tr_ h1
    obtain ⟨b2, d2, q2⟩ := h2
    obtain ⟨_, k3, _, x2, rfl, k4, _⟩ := at_ q2 (by simp)
    rw [k3] at h3; cases h3
    rcases m1 with m1 | m1
    · exact n3 _ k4 _ m1 m2
    · exact n4 _ k4 _ m1 m2
/-- what the lent objects have become -/
def outAt (ρ : Cs) : Nat → List Kd → Option (List D)
  | _, [] => some []
  | i, .p :: ks => outAt ρ (i + 1) ks
  | i, .l _ :: ks => outAt ρ (i + 1) ks
  | i, .o :: ks => match ρ[i]? with
    | some (.ow true d) => (match outAt ρ (i + 1) ks with
      | some ds => some (d :: ds)
      | none => none)
    | _ => none
  | i, .t _ s :: ks => match ρ[i]? with
    | some (.tr (true, false) s' d) => if s'.beq s = true then (match outAt ρ (i + 1) ks with
      | some ds => some (d :: ds)
      | none => none) else none
    | _ => none
theorem args_le {K : PySem.W.Frag} {G H : Hp} : ∀ {i : Nat} {ks : List Kd} {vs : List V} {ds : List D} {P : PL} {U N : UL}, argsOk K G H i ks vs ds P U N → (∀ p ∈ P, i ≤ p.1) ∧ (∀ p ∈ U, i ≤ p.1)
  | _, [], [], [], [], [], [], _ => ⟨(fun _ h => nomatch h), (fun _ h => nomatch h)⟩
  | i, .p :: ks, v :: vs, d :: ds, P, U, N, h => by
    obtain ⟨h1, h2⟩ := args_le (i := i + 1) (P := P) (U := U) (N := N) h.2
    exact ⟨fun p hp => by have := h1 p hp; omega, fun p hp => by have := h2 p hp; omega⟩
  | i, .l _ :: ks, v :: vs, d :: ds, P, U, (j, a, fp) :: N, h => by
    obtain ⟨h1, h2⟩ := args_le (i := i + 1) (P := P) (U := U) (N := N) h.2.2.2
    exact ⟨fun p hp => by have := h1 p hp; omega, fun p hp => by have := h2 p hp; omega⟩
  | i, .o :: ks, v :: vs, d :: ds, (j, a) :: P, U, N, h => by
    obtain ⟨h1, h2⟩ := args_le (i := i + 1) (P := P) (U := U) (N := N) h.2.2.2.2
    exact ⟨fun p hp => by
      rcases List.mem_cons.mp hp with e | hp
      · rw [e, h.1]; exact Nat.le_refl _
      · have := h1 p hp; omega, fun p hp => by have := h2 p hp; omega⟩
  | i, .t _ _ :: ks, v :: vs, d :: ds, P, (j, a, fp) :: U, N, h => by
    obtain ⟨h1, h2⟩ := args_le (i := i + 1) (P := P) (U := U) (N := N) h.2.2.2
    exact ⟨fun p hp => by have := h1 p hp; omega, fun p hp => by
      rcases List.mem_cons.mp hp with e | hp
      · rw [e, h.1]; exact Nat.le_refl _
      · have := h2 p hp; omega⟩
theorem args_fst {K : PySem.W.Frag} {G H : Hp} : ∀ {i : Nat} {ks : List Kd} {vs : List V} {ds : List D} {P : PL} {U N : UL}, argsOk K G H i ks vs ds P U N → (∀ p ∈ P, ∀ q ∈ P, p.1 = q.1 → p = q) ∧ (∀ p ∈ U, ∀ q ∈ U, p.1 = q.1 → p = q)
  | _, [], [], [], [], [], [], _ => ⟨(fun _ h => nomatch h), (fun _ h => nomatch h)⟩
  | i, .p :: ks, v :: vs, d :: ds, P, U, N, h => args_fst (i := i + 1) (P := P) (U := U) (N := N) h.2
  | i, .l _ :: ks, v :: vs, d :: ds, P, U, (j, a, fp) :: N, h => args_fst (i := i + 1) (P := P) (U := U) (N := N) h.2.2.2
  | i, .o :: ks, v :: vs, d :: ds, (j, a) :: P, U, N, h => by
    obtain ⟨h1, h2⟩ := args_fst (i := i + 1) (P := P) (U := U) (N := N) h.2.2.2.2
    obtain ⟨l1, _⟩ := args_le (i := i + 1) (P := P) (U := U) (N := N) h.2.2.2.2
    refine ⟨fun p hp q hq e => ?_, h2⟩
    rcases List.mem_cons.mp hp with e1 | hp1
    · rcases List.mem_cons.mp hq with e2 | hq1
      · rw [e1, e2]
      · have := l1 q hq1; rw [← e, e1, h.1] at this; omega
    · rcases List.mem_cons.mp hq with e2 | hq1
      · have := l1 p hp1; rw [e, e2, h.1] at this; omega
      · exact h1 p hp1 q hq1 e
  | i, .t _ _ :: ks, v :: vs, d :: ds, P, (j, a, fp) :: U, N, h => by
    obtain ⟨h1, h2⟩ := args_fst (i := i + 1) (P := P) (U := U) (N := N) h.2.2.2
    obtain ⟨_, l1⟩ := args_le (i := i + 1) (P := P) (U := U) (N := N) h.2.2.2
    refine ⟨h1, fun p hp q hq e => ?_⟩
    rcases List.mem_cons.mp hp with e1 | hp1
    · rcases List.mem_cons.mp hq with e2 | hq1
      · rw [e1, e2]
      · have := l1 q hq1; rw [← e, e1, h.1] at this; omega
    · rcases List.mem_cons.mp hq with e2 | hq1
      · have := l1 p hp1; rw [e, e2, h.1] at this; omega
      · exact h2 p hp1 q hq1 e
theorem outs_ok {K : PySem.W.Frag} {B : Bs} {σ : L2.St} {G H G0 H0 : Hp} {ρ : Cs} (s : SR K B σ G H ρ) (hP : ∀ p ∈ B.P, ∀ q ∈ B.P, p.1 = q.1 → p = q) (hU : ∀ p ∈ B.U, ∀ q ∈ B.U, p.1 = q.1 → p = q) : ∀ {i : Nat} {ks : List Kd} {vs : List V} {ds0 : List D} {P : PL} {U N : UL} {ds : List D}, argsOk K G0 H0 i ks vs ds0 P U N → (∀ p ∈ P, p ∈ B.P) → (∀ p ∈ U, p ∈ B.U) → outAt ρ i ks = some ds → outsOk K G H B.H ks P U ds ∧ ∀ x ∈ outFp H ks U, ∃ j, x ∈ fpAt H σ ρ j
  | _, [], [], [], [], [], [], ds, _, _, _, h => by cases h; exact ⟨trivial, fun _ h => nomatch h⟩
  | i, .p :: ks, v :: vs, d :: ds0, P, U, N, ds, h, h1, h2, h3 => by
    rw [outAt] at h3
    exact outs_ok s hP hU (i := i + 1) (ks := ks) (P := P) (U := U) (N := N) h.2 h1 h2 h3
  | i, .l _ :: ks, v :: vs, d :: ds0, P, U, (j, a, fp) :: N, ds, h, h1, h2, h3 => by
    rw [outAt] at h3
    exact outs_ok s hP hU (i := i + 1) (ks := ks) (P := P) (U := U) (N := N) h.2.2.2 h1 h2 h3
  | i, .o :: ks, v :: vs, d :: ds0, (j, a) :: P, U, N, ds, h, h1, h2, h3 => by
    obtain ⟨rfl, _, _, _, h⟩ := h
    rw [outAt] at h3
    split at h3
    · rename_i d e
      split at h3
      · rename_i ds' e'
        cases h3
        obtain ⟨k1, k2⟩ := outs_ok s hP hU (i := j + 1) (P := P) (U := U) (N := N) h (fun p q => h1 p (List.mem_cons_of_mem _ q)) h2 e'
        obtain ⟨x, o, q1, q2, q3, q4, q5⟩ := s.ow j true d e
        rw [if_pos rfl] at q2
        have : (j, x) = (j, a) := hP _ q2 _ (h1 _ List.mem_cons_self) rfl
        cases this
        exact ⟨⟨⟨o, q4, q5⟩, k1⟩, k2⟩
      · cases h3
    · cases h3
  | i, .t s0 s1 :: ks, v :: vs, d :: ds0, P, (j, a, fp) :: U, N, ds, h, h1, h2, h3 => by
    obtain ⟨rfl, _, _, h⟩ := h
    rw [outAt] at h3
    split at h3
    · rename_i s' d e
      split at h3
      · rename_i es
        have es' := Sh.beq_eq es
        subst es'
        split at h3
        · rename_i ds' e'
          cases h3
          obtain ⟨k1, k2⟩ := outs_ok s hP hU (i := j + 1) (P := P) (U := U) (N := N) h h1 (fun p q => h2 p (List.mem_cons_of_mem _ q)) e'
          obtain ⟨x, f', q1, q2, q3, q4⟩ := s.tr.fp e
          obtain ⟨f0, q5, q6⟩ := q4
          have : (j, x, f0) = (j, a, fp) := hU _ q5 _ (h2 _ List.mem_cons_self) rfl
          cases this
          refine ⟨⟨⟨f', q2, q6⟩, k1⟩, fun y hy => ?_⟩
          rw [outFp, q2.fp] at hy
          rcases List.mem_append.mp hy with hy | hy
          · exact ⟨j, by rw [q3]; exact hy⟩
          · exact k2 y hy
        · cases h3
      · cases h3
    · cases h3
def runF (n : Nat) (ks : List Kd) (fr : Bool) (m : MS) (ds : List D) : Option FR := match m (init n ks ds) with
  | some (.nx ρ) => if fr = true then none else (outAt ρ 0 ks).map (.ret .non)
  | some (.rt d ρ) => if fr = true then none else (outAt ρ 0 ks).map (.ret d)
  | some (.ro d ρ) => (outAt ρ 0 ks).map (.ret d)
  | some (.ex c p ρ) => (outAt ρ 0 ks).map (.exc c p)
  | _ => none
section
variable {P : Program} {w : World} {K : PySem.W.Frag} {mg : Str → Option Value} {base : Heap} {Xs : List XC}
theorem map_inv {α β : Type} {o : Option α} {f : α → β} {y : β} (h : o.map f = some y) : ∃ x, o = some x ∧ f x = y := by
  cases o with
  | none => cases h
  | some x => exact ⟨x, rfl, Option.some.inj h⟩
theorem fn_ok {x qual : Str} {st : Stmt} {f : Addr} {fd : FuncData} {N ps : List Str} {k : Nat} {F : FnD} {m : MS} (Fu : Fun K x qual st f fd) (S : FnScope N ps (defScope st)) (hk : F.ks.length = ps.length) (hN : ps.length ≤ N.length)
    (hb : ∀ (cdv : Value) (A : Around) (outer : List Env) (s : Shared) (H : Hp) (E : XK), Room k (A.deeper (envOfC qual (defScope st) s.heap.objs.size f cdv)) → SB (cxOf (L2.CX P w) P w K mg base N qual (defScope st) f cdv A outer s H E) Xs (fun cls d _ H => E cls d H) (defBody st) m)
    (hs : ∀ ds r, F.sem ds = some r → runF N.length F.ks F.fr m ds = some r) : FnOk P w K mg base (L2.CX P w) (k + 1) f fd ps (spF K Xs F) := by
  refine okG Fu S (fun vs H Q E h => ?_) (fun cdv A outer s H vs Q E hr h => ⟨_, hb cdv A outer s H E hr, ?_⟩)
  · obtain ⟨G, P', U', N', ds, r, e, a, _⟩ := h
    rw [(argsOk_len a).1, hk]
  · obtain ⟨G, P', U', N', ds, r, e, a, nd, hsem, post⟩ := h
    have s0 := init_sr (N := N) e a nd (by omega)
    have hrun := hs ds r hsem
    unfold runF at hrun
    obtain ⟨ix, ux⟩ := args_fst a
    have outs : ∀ {σ G' H' ρ' os}, SR K { G := G, H := H, P := P', T := [], U := U', L := fun _ => H } σ G' H' ρ' → outAt ρ' 0 F.ks = some os → outsOk K G' H' H F.ks P' U' os ∧ ∀ x ∈ outFp H' F.ks U', ∃ j, x ∈ fpAt H' σ ρ' j := fun {σ G' H' ρ' os} s' ho => outs_ok s' ix ux a (fun p q => q) (fun p q => q) ho
    cases em : m (init N.length F.ks ds) with
    | none => rw [em] at hrun; cases hrun
    | some q =>
      rw [em] at hrun
      refine ⟨_, G, _, q, s0, em, ?_⟩
      have fin : ∀ {d : D} {os : List D}, r = .ret d os → F.fr = false → ∀ v σ' G' H' ρ', SR K { G := G, H := H, P := P', T := [], U := U', L := fun _ => H } σ' G' H' ρ' → outAt ρ' 0 F.ks = some os → Rep K G' v d → Q v H' := fun {d os} er ef v σ' G' H' ρ' s' ho rv => by
        subst er
        exact post v G' H' s'.fr (outs s' ho).1 (by rw [if_neg (by rw [ef]; decide)]; exact rv)
      cases q with
      | bk ρ' => cases hrun
      | ct ρ' => cases hrun
      | nx ρ' =>
        dsimp only at hrun
        by_cases hf : F.fr = true
        · rw [if_pos hf] at hrun; cases hrun
        · rw [if_neg hf] at hrun
          obtain ⟨os, ho, er⟩ := map_inv hrun
          exact fun σ' G' H' s' => fin er.symm (by simpa using hf) .non σ' G' H' ρ' s' ho .non
      | rt d ρ' =>
        dsimp only at hrun
        by_cases hf : F.fr = true
        · rw [if_pos hf] at hrun; cases hrun
        · rw [if_neg hf] at hrun
          obtain ⟨os, ho, er⟩ := map_inv hrun
          exact fun v σ' G' H' s' rv => fin er.symm (by simpa using hf) v σ' G' H' ρ' s' ho rv
      | ro d ρ' =>
        dsimp only at hrun
        obtain ⟨os, ho, er⟩ := map_inv hrun
        intro p o σ' G' H' s' hp ro n
        by_cases hf : F.fr = true
        · subst er
          exact post (.ref p) G' H' s'.fr (outs s' ho).1 (by
            rw [if_pos hf]
            exact ⟨p, o, rfl, n.2.1, n.1, hp, ro, fun z => by
              obtain ⟨j, hj⟩ := (outs s' ho).2 p z
              exact n.2.2.2.2 j hj⟩)
        · exact fin er.symm (by simpa using hf) (.ref p) σ' _ H' ρ' (s'.adopt hp n) ho ((ro.mono (Ex.upd n.1)).rep upd_same)
      | ex c p ρ' =>
        dsimp only at hrun
        obtain ⟨os, ho, er⟩ := map_inv hrun
        subst er
        exact fun σ' G' H' s' => post G' H' s'.fr (outs s' ho).1
end
end Tk
namespace Tk
open PySem PySem.Spec PyProof.Rows L2

/-! ### calls of our own defs -/
inductive Arg where
  | p (d : D) | o (i : Nat)
inductive ArgRel (K : PySem.W.Frag) (σ : L2.St) (G : Hp) : List V → List Arg → Prop
  | nil : ArgRel K σ G [] []
  | p {v : V} {d : D} {vs : List V} {as : List Arg} : Rep K G v d → ArgRel K σ G vs as → ArgRel K σ G (v :: vs) (.p d :: as)
  | o {i : Nat} {a : Addr} {vs : List V} {as : List Arg} : σ[i]? = some (some (.ref a)) → ArgRel K σ G vs as → ArgRel K σ G (.ref a :: vs) (.o i :: as)
theorem ArgRel.mono {K : PySem.W.Frag} {σ : L2.St} {G G' : Hp} (e : Ex G G') : ∀ {vs : List V} {as : List Arg}, ArgRel K σ G vs as → ArgRel K σ G' vs as
  | _, _, .nil => .nil
  | _, _, .p r h => .p (r.mono e) (ArgRel.mono e h)
  | _, _, .o r h => .o r (ArgRel.mono e h)
abbrev RlR (K : PySem.W.Frag) : RL (List V) (List Arg) := fun σ G vs as => ArgRel K σ G vs as
def SR' (X : Cx) (Xs : List XC) (W : WX) (es : List Expr) (m : M (List Arg)) : Prop := PA X es (rX X.K Xs W (RlR X.K) m)
def argDs (ρ : Cs) : List Kd → List Arg → Option (List D)
  | [], [] => some []
  | .p :: ks, .p d :: as => (argDs ρ ks as).map (d :: ·)
  | .o :: ks, .o i :: as => match ρ[i]? with
    | some (.ow _ d) => (argDs ρ ks as).map (d :: ·)
    | _ => none
  | .t s _ :: ks, .o i :: as => match ρ[i]? with
    | some (.tr (_, false) s' d) => if s'.beq s = true then (argDs ρ ks as).map (d :: ·) else none
    | _ => none
  | .l s :: ks, .o i :: as => match ρ[i]? with
    | some (.tr _ s' d) => if s'.beq s = true then (argDs ρ ks as).map (d :: ·) else none
    | _ => none
  | _, _ => none
def lentSl : List Arg → List Nat
  | [] => []
  | .p _ :: as => lentSl as
  | .o i :: as => i :: lentSl as
def numT : List Kd → Nat
  | [] => 0
  | .p :: ks => numT ks
  | .o :: ks => numT ks
  | .t _ _ :: ks => numT ks + 1
  | .l _ :: ks => numT ks
/-- what was lent has become what the callee tells -/
def putOuts : List Kd → List Arg → List D → Cs → Option Cs
  | [], [], [], ρ => some ρ
  | .p :: ks, .p _ :: as, ds, ρ => putOuts ks as ds ρ
  | .l _ :: ks, .o _ :: as, ds, ρ => putOuts ks as ds ρ
  | .o :: ks, .o i :: as, d :: ds, ρ => match ρ[i]? with
    | some (.ow b _) => putOuts ks as ds (ρ.set i (.ow b d))
    | _ => none
  | .t _ s :: ks, .o i :: as, d :: ds, ρ => match ρ[i]? with
    | some (.tr (b, false) _ _) => putOuts ks as ds (ρ.set i (.tr (b, false) s d))
    | _ => none
  | _, _, _, _ => none
def callK (F : FnD) (as : List Arg) : M D := fun ρ => if (lentSl as).Nodup ∧ numT F.ks ≤ 1 then (match argDs ρ F.ks as with
    | some ds => (match F.sem ds with
      | some (.ret d outs) => (putOuts F.ks as outs ρ).map (.ok d)
      | some (.exc c p outs) => (putOuts F.ks as outs ρ).map (.ex c p)
      | none => none)
    | none => none) else none
def mCall (F : FnD) (ms : M (List Arg)) : M D := ms.bnd (callK F)
/-- the slots of what is lent -/
def CR : List Kd → List Arg → PL → UL → UL → Prop
  | [], [], [], [], [] => True
  | .p :: ks, .p _ :: as, L, M, N => CR ks as L M N
  | .o :: ks, .o i :: as, (j, _) :: L, M, N => j = i ∧ CR ks as L M N
  | .t _ _ :: ks, .o i :: as, L, (j, _, _) :: M, N => j = i ∧ CR ks as L M N
  | .l _ :: ks, .o i :: as, L, M, (j, _, _) :: N => j = i ∧ CR ks as L M N
  | _, _, _, _, _ => False
theorem CR.sl : ∀ {ks : List Kd} {as : List Arg} {L : PL} {M N : UL}, CR ks as L M N → (∀ p ∈ L, p.1 ∈ lentSl as) ∧ (∀ p ∈ M, p.1 ∈ lentSl as) ∧ (∀ p ∈ N, p.1 ∈ lentSl as) ∧ M.length = numT ks
  | [], [], [], [], [], _ => ⟨(fun _ h => nomatch h), (fun _ h => nomatch h), (fun _ h => nomatch h), rfl⟩
  | .p :: ks, .p _ :: as, L, M, N, h => CR.sl (ks := ks) (as := as) h
  | .o :: ks, .o i :: as, (j, a) :: L, M, N, h => by
    obtain ⟨rfl, h⟩ := h
    obtain ⟨h1, h2, h3, h4⟩ := CR.sl h
    refine ⟨fun p hp => ?_, fun p hp => List.mem_cons_of_mem _ (h2 p hp), fun p hp => List.mem_cons_of_mem _ (h3 p hp), h4⟩
    rcases List.mem_cons.mp hp with e | hp
    · subst e; exact List.mem_cons_self
    · exact List.mem_cons_of_mem _ (h1 p hp)
  | .t _ _ :: ks, .o i :: as, L, (j, a, fp) :: M, N, h => by
    obtain ⟨rfl, h⟩ := h
    obtain ⟨h1, h2, h3, h4⟩ := CR.sl h
    refine ⟨fun p hp => List.mem_cons_of_mem _ (h1 p hp), fun p hp => ?_, fun p hp => List.mem_cons_of_mem _ (h3 p hp), by rw [numT, List.length_cons, h4]⟩
    rcases List.mem_cons.mp hp with e | hp
    · subst e; exact List.mem_cons_self
    · exact List.mem_cons_of_mem _ (h2 p hp)
  | .l _ :: ks, .o i :: as, L, M, (j, a, fp) :: N, h => by
    obtain ⟨rfl, h⟩ := h
    obtain ⟨h1, h2, h3, h4⟩ := CR.sl h
    refine ⟨fun p hp => List.mem_cons_of_mem _ (h1 p hp), fun p hp => List.mem_cons_of_mem _ (h2 p hp), fun p hp => ?_, h4⟩
    rcases List.mem_cons.mp hp with e | hp
    · subst e; exact List.mem_cons_self
    · exact List.mem_cons_of_mem _ (h3 p hp)
theorem nin {α : Type} {j i : Nat} {x : α} {l : List (Nat × α)} (h : j ≠ i) (k : j ∉ l.map (·.1)) : j ∉ ((i, x) :: l).map (·.1) := by
  rw [List.map_cons]; simp only [List.mem_cons, not_or]; exact ⟨h, k⟩
theorem CR.nd : ∀ {ks : List Kd} {as : List Arg} {L : PL} {M N : UL}, CR ks as L M N → (lentSl as).Nodup → (L.map (·.1)).Nodup ∧ (N.map (·.1)).Nodup
  | [], [], [], [], [], _, _ => ⟨List.nodup_nil, List.nodup_nil⟩
  | .p :: ks, .p _ :: as, L, M, N, h, n => CR.nd (ks := ks) (as := as) h n
  | .o :: ks, .o i :: as, (j, a) :: L, M, N, h, n => by
    obtain ⟨rfl, h⟩ := h
    rw [lentSl, List.nodup_cons] at n
    rw [List.map_cons, List.nodup_cons]
    obtain ⟨n1, n2⟩ := CR.nd h n.2
    exact ⟨⟨fun z => by
      obtain ⟨p, hp, e⟩ := List.mem_map.mp z
      have := (CR.sl h).1 p hp
      rw [e] at this
      exact n.1 this, n1⟩, n2⟩
  | .t _ _ :: ks, .o i :: as, L, (j, a, fp) :: M, N, h, n => by
    rw [lentSl, List.nodup_cons] at n
    exact CR.nd h.2 n.2
  | .l _ :: ks, .o i :: as, L, M, (j, a, fp) :: N, h, n => by
    obtain ⟨rfl, h⟩ := h
    rw [lentSl, List.nodup_cons] at n
    rw [List.map_cons (l := N), List.nodup_cons]
    obtain ⟨n1, n2⟩ := CR.nd h n.2
    exact ⟨n1, fun z => by
      obtain ⟨p, hp, e⟩ := List.mem_map.mp z
      have := (CR.sl h).2.2.1 p hp
      rw [e] at this
      exact n.1 this, n2⟩
/-- lent to be read alone: in other slots than what is lent to be changed -/
theorem CR.apart : ∀ {ks : List Kd} {as : List Arg} {L : PL} {M N : UL}, CR ks as L M N → (lentSl as).Nodup → ∀ u ∈ M, ∀ w ∈ N, u.1 ≠ w.1
  | [], [], [], [], [], _, _ => (fun _ h => nomatch h)
  | .p :: ks, .p _ :: as, L, M, N, h, n => CR.apart (ks := ks) (as := as) h n
  | .o :: ks, .o i :: as, (j, a) :: L, M, N, h, n => by
    rw [lentSl, List.nodup_cons] at n
    exact CR.apart h.2 n.2
  | .t _ _ :: ks, .o i :: as, L, (j, a, fp) :: M, N, h, n => by
    obtain ⟨rfl, h⟩ := h
    rw [lentSl, List.nodup_cons] at n
    intro u hu w hw e
    rcases List.mem_cons.mp hu with q | hu
    · rw [q] at e
      exact n.1 (by have := (CR.sl h).2.2.1 w hw; rw [← e] at this; exact this)
    · exact CR.apart h n.2 u hu w hw e
  | .l _ :: ks, .o i :: as, L, M, (j, a, fp) :: N, h, n => by
    obtain ⟨rfl, h⟩ := h
    rw [lentSl, List.nodup_cons] at n
    intro u hu w hw e
    rcases List.mem_cons.mp hw with q | hw
    · rw [q] at e
      exact n.1 (by have := (CR.sl h).2.1 u hu; rw [e] at this; exact this)
    · exact CR.apart h n.2 u hu w hw e
section
variable {K : PySem.W.Frag} {B : Bs} {σ : L2.St} {G H G' H' : Hp} {ρ ρ' : Cs}
theorem putOuts_get : ∀ {ks : List Kd} {as : List Arg} {L : PL} {M N : UL} {ds : List D} {ρ ρ' : Cs}, CR ks as L M N → (lentSl as).Nodup → outsOk K G' H' H ks L M ds → putOuts ks as ds ρ = some ρ' → ρ'.length = ρ.length ∧ ∀ (j : Nat) (c : Cell), ρ'[j]? = some c →
    (∃ b d a o, (j, a) ∈ L ∧ c = .ow b d ∧ (∃ d0, ρ[j]? = some (.ow b d0)) ∧ H' a = some o ∧ RepO K G' o d) ∨
    (∃ b s d a fp fp', (j, a, fp) ∈ M ∧ c = .tr (b, false) s d ∧ (∃ s0 d0, ρ[j]? = some (.tr (b, false) s0 d0)) ∧ Own K G' H' s (.ref a) d fp' ∧ (∀ x ∈ fp', x ∈ fp ∨ H x = none) ∧ ∀ x ∈ fp', x ∈ outFp H' ks M) ∨ (ρ[j]? = some c ∧ j ∉ L.map (·.1) ∧ j ∉ M.map (·.1))
  | [], [], [], [], [], [], ρ, ρ', _, _, _, h => by cases h; exact ⟨rfl, fun j c q => .inr (.inr ⟨q, (fun z => nomatch z), (fun z => nomatch z)⟩)⟩
  | .p :: ks, .p _ :: as, L, M, N, ds, ρ, ρ', r, n, o, h => putOuts_get (ks := ks) (as := as) r n o h
  | .l _ :: ks, .o i :: as, L, M, (j', a, fp) :: N, ds, ρ, ρ', r, n, o, h => by
    rw [lentSl, List.nodup_cons] at n
    exact putOuts_get (ks := ks) (as := as) r.2 n.2 o h
  | .o :: ks, .o i :: as, (j', a) :: L, M, N, d :: ds, ρ, ρ', r, n, o, h => by
    obtain ⟨rfl, r⟩ := r
    obtain ⟨⟨o, h4, h5⟩, ho⟩ := o
    rw [lentSl, List.nodup_cons] at n
    rw [putOuts] at h
    split at h
    · rename_i b d0 e
      obtain ⟨l1, k⟩ := putOuts_get r n.2 ho h
      refine ⟨by rw [l1, List.length_set], fun j c q => ?_⟩
      rcases k j c q with ⟨b1, d1, a1, o1, m1, e1, ⟨d2, e2⟩, m3, m4⟩ | ⟨b1, s1, d1, a1, fp, fp', m1, e1, ⟨s2, d2, e2⟩, m3, m4⟩ | ⟨q1, q2, q3⟩
      · have hj : j ≠ j' := fun z => n.1 (by subst z; exact (CR.sl r).1 _ m1)
        refine .inl ⟨b1, d1, a1, o1, List.mem_cons_of_mem _ m1, e1, ⟨d2, ?_⟩, m3, m4⟩
        rcases get_set e2 with ⟨z, _⟩ | ⟨_, z⟩
        · exact absurd z hj
        · exact z
      · have hj : j ≠ j' := fun z => n.1 (by subst z; exact (CR.sl r).2.1 _ m1)
        refine .inr (.inl ⟨b1, s1, d1, a1, fp, fp', m1, e1, ⟨s2, d2, ?_⟩, m3, m4⟩)
        rcases get_set e2 with ⟨z, _⟩ | ⟨_, z⟩
        · exact absurd z hj
        · exact z
      · rcases get_set q1 with ⟨z, w⟩ | ⟨z, w⟩
        · subst z
          exact .inl ⟨b, d, a, o, List.mem_cons_self, w, ⟨d0, e⟩, h4, h5⟩
        · exact .inr (.inr ⟨w, nin z q2, q3⟩)
    · cases h
  | .t t0 t1 :: ks, .o i :: as, L, (j', a, fp0) :: M, N, d :: ds, ρ, ρ', r, n, o, h => by
    obtain ⟨rfl, r⟩ := r
    obtain ⟨⟨fp0', h4, h5⟩, ho⟩ := o
    rw [lentSl, List.nodup_cons] at n
    rw [putOuts] at h
    split at h
    · rename_i b s0 d0 e
      obtain ⟨l1, k⟩ := putOuts_get r n.2 ho h
      refine ⟨by rw [l1, List.length_set], fun j c q => ?_⟩
      rcases k j c q with ⟨b1, d1, a1, o1, m1, e1, ⟨d2, e2⟩, m3, m4⟩ | ⟨b1, s1, d1, a1, fp, fp', m1, e1, ⟨s2, d2, e2⟩, m3, m4, m5⟩ | ⟨q1, q2, q3⟩
      · have hj : j ≠ j' := fun z => n.1 (by subst z; exact (CR.sl r).1 _ m1)
        refine .inl ⟨b1, d1, a1, o1, m1, e1, ⟨d2, ?_⟩, m3, m4⟩
        rcases get_set e2 with ⟨z, _⟩ | ⟨_, z⟩
        · exact absurd z hj
        · exact z
      · have hj : j ≠ j' := fun z => n.1 (by subst z; exact (CR.sl r).2.1 _ m1)
        refine .inr (.inl ⟨b1, s1, d1, a1, fp, fp', List.mem_cons_of_mem _ m1, e1, ⟨s2, d2, ?_⟩, m3, m4, fun x hx => by rw [outFp]; exact List.mem_append_right _ (m5 x hx)⟩)
        rcases get_set e2 with ⟨z, _⟩ | ⟨_, z⟩
        · exact absurd z hj
        · exact z
      · rcases get_set q1 with ⟨z, w⟩ | ⟨z, w⟩
        · subst z
          exact .inr (.inl ⟨b, t1, d, a, fp0, fp0', List.mem_cons_self, w, ⟨s0, d0, e⟩, h4, h5, fun x hx => by rw [outFp, h4.fp]; exact List.mem_append_left _ hx⟩)
        · exact .inr (.inr ⟨w, q2, nin z q3⟩)
    · cases h
/-- what is lent stands in our slots -/
def InSl (σ : L2.St) (H : Hp) (ρ : Cs) (L : PL) (M N : UL) : Prop := (∀ p ∈ L, isO ρ p.1 ∧ σ[p.1]? = some (some (.ref p.2))) ∧ (∀ u ∈ M, (∃ b s d, ρ[u.1]? = some (.tr (b, false) s d)) ∧ σ[u.1]? = some (some (.ref u.2.1)) ∧ fpAt H σ ρ u.1 = u.2.2) ∧ ∀ u ∈ N, fpAt H σ ρ u.1 = u.2.2
theorem SR.call (s : SR K B σ G H ρ) {ks : List Kd} {as : List Arg} {L : PL} {M N : UL} {outs : List D} (cr : CR ks as L M N) (hi : InSl σ H ρ L M N) (nd : (lentSl as).Nodup) (one : M.length ≤ 1) (f : Fr (SPU L M) G H G' H') (ho : outsOk K G' H' H ks L M outs)
    (hp : putOuts ks as outs ρ = some ρ') : SR K B σ G' H' ρ' ∧ (∀ (j : Nat) (x : Addr), x ∈ fpAt H' σ ρ' j → H x ≠ none ∨ x ∈ outFp H' ks M) ∧ ∀ (j : Nat), isO ρ' j → isO ρ j := by
  obtain ⟨hL, hM, _⟩ := hi
  obtain ⟨hl, k⟩ := putOuts_get cr nd ho hp
  have inP : ∀ {x : Addr}, x ∈ L.map (·.2) → ∃ (i : Nat) (b : Bool) (d : D), (i, x) ∈ L ∧ ρ[i]? = some (.ow b d) ∧ σ[i]? = some (some (.ref x)) := fun {x} hx => by
    obtain ⟨p, hp, rfl⟩ := List.mem_map.mp hx
    obtain ⟨⟨b, d, e⟩, q⟩ := hL p hp
    exact ⟨p.1, b, d, hp, e, q⟩
  have inU : ∀ {x : Addr}, x ∈ M.flatMap (·.2.2) → ∃ i, i ∈ M.map (·.1) ∧ x ∈ fpAt H σ ρ i ∧ ∃ b s d, ρ[i]? = some (.tr (b, false) s d) := fun {x} hx => by
    obtain ⟨u, hu, hx⟩ := List.mem_flatMap.mp hx
    exact ⟨u.1, List.mem_map.mpr ⟨u, hu, rfl⟩, by rw [(hM u hu).2.2]; exact hx, (hM u hu).1⟩
  have own : ∀ {x : Addr}, x ∈ SPU L M → (x ∈ B.S ∨ B.H x = none) ∧ G x = none ∧ ∃ o, H x = some o ∧ ∀ fs, o ≠ .xd fs := fun {x} hx => by
    rcases List.mem_append.mp hx with hx | hx
    · obtain ⟨i, b, d, _, e, q⟩ := inP hx
      obtain ⟨a, o, h1, h2, h3, h4, h5⟩ := s.ow i b d e
      rw [q] at h1; cases h1
      refine ⟨?_, h3, o, h4, h5.nxd⟩
      cases b with
      | true => rw [if_pos rfl] at h2; exact .inl (List.mem_append_left _ (List.mem_map.mpr ⟨_, h2, rfl⟩))
      | false => rw [if_neg (by decide)] at h2; exact .inr h2
    · obtain ⟨i, _, hx, b, sh, d, e⟩ := inU hx
      obtain ⟨h1, h2, h3⟩ := s.tr.got hx
      exact ⟨h3 b sh d e, h2, h1⟩
  have io : ∀ {j : Nat}, isO ρ' j → isO ρ j := fun {j} ⟨b, d, e⟩ => by
    rcases k j _ e with ⟨b1, d1, a1, o1, m1, e1, ⟨d2, e2⟩, _⟩ | ⟨_, _, _, _, _, _, _, e1, _⟩ | ⟨q, _⟩
    · exact ⟨b1, d2, e2⟩
    · cases e1
    · exact ⟨b, d, q⟩
  -- an own object of a slot that is not lent is left alone; one that is lent, too
  have offU : ∀ {x : Addr} {j : Nat}, isO ρ j → σ[j]? = some (some (.ref x)) → x ∉ M.flatMap (·.2.2) := fun {x j} hj hx z => by
    obtain ⟨i, _, hi, _⟩ := inU z
    exact s.tr.no i j x hi hj hx
  -- the trees as they are now
  have tr' : ∀ {j : Nat} {b : Bool × Bool} {sh : Sh} {d : D}, ρ'[j]? = some (.tr b sh d) → ∃ a fp fp' sh0 d0, ρ[j]? = some (.tr b sh0 d0) ∧ σ[j]? = some (some (.ref a)) ∧ fpAt H σ ρ j = fp ∧ Own K G' H' sh (.ref a) d fp' ∧ (∀ x ∈ fp', x ∈ fp ∨ H x = none) ∧ (j ∉ M.map (·.1) → fp' = fp ∧ sh0 = sh ∧ d0 = d ∧ ∀ x ∈ fp, H' x = H x) ∧ (j ∈ M.map (·.1) → ∀ x ∈ fp', x ∈ outFp H' ks M) := fun {j b sh d} e => by
    rcases k j _ e with ⟨_, _, _, _, _, e1, _⟩ | ⟨b1, s1, d1, a1, fp, fp', m1, e1, ⟨s2, d2, e2⟩, m3, m4, m5⟩ | ⟨q, nq⟩
    · cases e1
    · cases e1
      obtain ⟨_, q1, q2⟩ := hM _ m1
      exact ⟨a1, fp, fp', s2, d2, e2, q1, q2, m3, m4, fun z => absurd (List.mem_map.mpr ⟨_, m1, rfl⟩) z, fun _ => m5⟩
    · obtain ⟨a, fp, q1, q2, q3, _⟩ := s.tr.fp q
      have kp : ∀ x ∈ fp, H' x = H x ∧ G' x = none := fun x hx => by
        rw [← q3] at hx
        obtain ⟨⟨o, ho, _⟩, hg, _⟩ := s.tr.got hx
        have nx : x ∉ SPU L M := fun z => by
          rcases List.mem_append.mp z with z | z
          · obtain ⟨i, b', d', _, e', q'⟩ := inP z
            exact s.tr.no j i x hx ⟨b', d', e'⟩ q'
          · obtain ⟨i, hi, z, _⟩ := inU z
            have : i ≠ j := fun w => by
              subst w
              exact nq.2 hi
            exact s.tr.dj i j this x z hx
        exact ⟨(f.h x o nx ho).trans ho.symm, (f.n x (by rw [ho]; simp)).trans hg⟩
      exact ⟨a, fp, fp, sh, d, q, q1, q3, q2.keep f.g kp, fun x hx => .inl hx, fun _ => ⟨rfl, rfl, rfl, fun x hx => (kp x hx).1⟩, fun z => absurd z nq.2⟩
  have fp_ : ∀ {j : Nat} {x : Addr}, x ∈ fpAt H' σ ρ' j → x ∈ fpAt H σ ρ j ∨ (H x = none ∧ j ∈ M.map (·.1) ∧ x ∈ outFp H' ks M) := fun {j x} h => by
    obtain ⟨b, sh, d, v, e1, e2, e3⟩ := fpAt_is h
    obtain ⟨a, fp, fp', sh0, d0, q0, q1, q2, q3, q4, q5, q6⟩ := tr' e1
    rw [q1] at e2; cases e2
    rw [q3.fp] at e3
    by_cases hj : j ∈ M.map (·.1)
    · rcases q4 x e3 with z | z
      · exact .inl (by rw [q2]; exact z)
      · exact .inr ⟨z, hj, q6 hj x e3⟩
    · rw [(q5 hj).1] at e3; exact .inl (by rw [q2]; exact e3)
  refine ⟨?_, fun j x h => (fp_ h).elim (fun z => .inl (by
    obtain ⟨⟨o, ho, _⟩, _⟩ := s.tr.got z
    rw [ho]; simp)) (fun z => .inr z.2.2), fun j => io⟩
  refine ⟨⟨s.fr.g.trans f.g, fun x u n q => ?_, fun x n => (f.n x (s.fr.d x n)).trans (s.fr.n x n), f.e, fun x n => f.d x (s.fr.d x n)⟩, by rw [hl]; exact s.len, fun j d e => ?_, fun j b d e => ?_, fun j j' x h1 h2 => s.inj j j' x (io h1) (io h2), fun p hp' => ?_, fun j c p e => ?_, fun j b sh d e => ?_, fun j j' n x h1 h2 => ?_, fun j j' x h1 h2 h3 => ?_, fun j x h1 p hp' => ?_, fun j b sh d e x hx => ?_⟩
  · refine f.h x u (fun z => ?_) (s.fr.h x u n q)
    rcases (own z).1 with w | w
    · exact n w
    · rw [q] at w; cases w
  · rcases k j _ e with ⟨_, _, _, _, _, e1, _⟩ | ⟨_, _, _, _, _, _, _, e1, _⟩ | ⟨q, _⟩
    · cases e1
    · cases e1
    · obtain ⟨v, h1, h2⟩ := s.pu j d q
      exact ⟨v, h1, h2.mono f.g⟩
  · rcases k j _ e with ⟨b1, d1, a1, o1, m1, e1, ⟨d2, e2⟩, m3, m4⟩ | ⟨_, _, _, _, _, _, _, e1, _⟩ | ⟨q, nq⟩
    · cases e1
      obtain ⟨x, u, h1, h2, h3, h4, h5⟩ := s.ow j b d2 e2
      have h1' := (hL _ m1).2
      rw [h1'] at h1; cases h1
      exact ⟨a1, o1, h1', h2, (f.n a1 (by rw [h4]; simp)).trans h3, m3, m4⟩
    · cases e1
    · obtain ⟨x, u, h1, h2, h3, h4, h5⟩ := s.ow j b d q
      have nx : x ∉ SPU L M := fun z => by
        rcases List.mem_append.mp z with z | z
        · obtain ⟨i, b', d', m, e', q'⟩ := inP z
          have := s.inj j i x ⟨b, d, q⟩ ⟨b', d', e'⟩ h1 q'
          subst this
          exact nq.1 (List.mem_map.mpr ⟨_, m, rfl⟩)
        · exact offU ⟨b, d, q⟩ h1 z
      exact ⟨x, u, h1, h2, (f.n x (by rw [h4]; simp)).trans h3, f.h x u nx h4, h5.mono f.g⟩
  · obtain ⟨h1, h2, h3, h4⟩ := s.pin p hp'
    have nx : p.1 ∉ SPU L M := fun z => by
      rcases List.mem_append.mp z with z | z
      · obtain ⟨i, b', d', m, e', q'⟩ := inP z
        exact h4 i ⟨b', d', e'⟩ q'
      · obtain ⟨i, _, hi, _⟩ := inU z
        exact s.tr.pn i _ hi p hp' rfl
    exact ⟨f.h _ _ nx h1, h2, (f.n _ (by rw [h1]; simp)).trans h3, fun i hi => h4 i (io hi)⟩
  · rcases k j _ e with ⟨_, _, _, _, _, e1, _⟩ | ⟨_, _, _, _, _, _, _, e1, _⟩ | ⟨q, _⟩
    · cases e1
    · cases e1
    · obtain ⟨h1, h2, dd, v, h3, h4, h5⟩ := s.er j c p q
      have nx : dd ∉ SPU L M := fun z => by
        obtain ⟨_, _, o, h6, h7⟩ := own z
        rw [h4] at h6
        exact h7 _ (Option.some.inj h6).symm
      exact ⟨h1, h2, dd, v, h3, f.h _ _ nx h4, h5.mono f.g⟩
  · obtain ⟨a, fp, fp', sh0, d0, q0, q1, q2, q3, q4, _⟩ := tr' e
    obtain ⟨a', f1, w1, w2, w3, w4⟩ := s.tr.fp q0
    rw [q1] at w1; cases w1
    have : f1 = fp := w3.symm.trans q2
    subst this
    have fr : ∀ {x : Addr}, H x = none → B.H x = none := fun {x} hx => (s.fresh hx).2.2.1
    refine ⟨a, fp', q1, q3, ?_⟩
    obtain ⟨b1, b2⟩ := b
    cases b2 with
    | true => trivial
    | false =>
      cases b1 with
      | true =>
        obtain ⟨f0, z1, z2⟩ := w4
        exact ⟨f0, z1, fun x hx => (q4 x hx).elim (fun z => z2 x z) (fun z => .inr (fr z))⟩
      | false => exact fun x hx => (q4 x hx).elim (fun z => w4 x z) (fun z => fr z)
  · rcases fp_ h1 with z1 | ⟨z1, y1, _⟩
    · rcases fp_ h2 with z2 | ⟨z2, _⟩
      · exact s.tr.dj j j' n x z1 z2
      · exact s.freshT z2 j z1
    · rcases fp_ h2 with z2 | ⟨z2, y2, _⟩
      · exact s.freshT z1 j' z2
      · -- both lent: there is one lent tree at most
        have m1 := y1
        have m2 := y2
        match M, one, m1, m2 with
        | [u], _, m1, m2 => simp at m1 m2; exact n (m1.trans m2.symm)
        | _ :: _ :: _, h, _, _ => simp at h
  · rcases fp_ h1 with z | ⟨z, _⟩
    · exact s.tr.no j j' x z (io h2) h3
    · obtain ⟨b, d, e⟩ := io h2
      obtain ⟨a, o, w1, _, _, w4, _⟩ := s.ow j' b d e
      rw [h3] at w1; cases w1
      rw [z] at w4; cases w4
  · rcases fp_ h1 with z | ⟨z, _⟩
    · exact s.tr.pn j x z p hp'
    · intro w
      have := (s.pin p hp').1
      rw [w, z] at this; cases this
  · obtain ⟨a, fp, fp', sh0, d0, q0, q1, q2, q3, q4, q5, _⟩ := tr' e
    have hj : j ∉ M.map (·.1) := fun z => by
      obtain ⟨u, hu, rfl⟩ := List.mem_map.mp z
      obtain ⟨⟨b', s', d', e'⟩, _⟩ := hM u hu
      rw [e'] at q0; cases q0
    obtain ⟨r1, r2, r3, r4⟩ := q5 hj
    have hx' : x ∈ fpAt H σ ρ j := by
      unfold fpAt at hx
      rw [e, q1] at hx
      have hx2 : x ∈ fp' := by rw [← q3.fp]; exact hx
      rw [q2, ← r1]; exact hx2
    rw [r4 x (by rw [← q2]; exact hx')]
    exact s.tr.lk j b _ _ q0 x hx'
/-- the arguments as the callee sees them -/
theorem call_args (s : SR K B σ G H ρ) : ∀ {i : Nat} {ks : List Kd} {vs : List V} {as : List Arg} {ds : List D}, ArgRel K σ G vs as → argDs ρ ks as = some ds →
    ∃ P U R L M N, argsOk K G H i ks vs ds P U R ∧ P.map (·.2) = L.map (·.2) ∧ U.map (·.2) = M.map (·.2) ∧ R.map (·.2) = N.map (·.2) ∧ CR ks as L M N ∧ InSl σ H ρ L M N
  | i, [], _, _, ds, .nil, h => by cases h; exact ⟨[], [], [], [], [], [], trivial, rfl, rfl, rfl, trivial, (fun _ q => nomatch q), (fun _ q => nomatch q), (fun _ q => nomatch q)⟩
  | i, _ :: _, _, _, ds, .nil, h => by simp [argDs] at h
  | i, [], _, _, ds, .p _ _, h => by simp [argDs] at h
  | i, [], _, _, ds, .o _ _, h => by simp [argDs] at h
  | i, .o :: ks, _, _, ds, .p _ _, h => by simp [argDs] at h
  | i, .t _ _ :: ks, _, _, ds, .p _ _, h => by simp [argDs] at h
  | i, .l _ :: ks, _, _, ds, .p _ _, h => by simp [argDs] at h
  | i, .p :: ks, _, _, ds, .o _ _, h => by simp [argDs] at h
  | i, .p :: ks, _, _, ds, .p r t, h => by
    rw [argDs] at h
    obtain ⟨ds', h1, rfl⟩ := map_inv h
    obtain ⟨P, U, R, L, M, N, h2, h3⟩ := call_args s (i := i + 1) t h1
    exact ⟨P, U, R, L, M, N, ⟨r, h2⟩, h3⟩
  | i, .o :: ks, _, _, ds, @ArgRel.o _ _ _ j a vs as r t, h => by
    rw [argDs] at h
    split at h
    · rename_i b d e
      obtain ⟨ds', h1, rfl⟩ := map_inv h
      obtain ⟨P, U, R, L, M, N, h2, h3, h4, h4', h5, h6, h7⟩ := call_args s (i := i + 1) t h1
      obtain ⟨x, o, k1, k2, k3, k4, k5⟩ := s.ow j b d e
      rw [r] at k1; cases k1
      refine ⟨(i, a) :: P, U, R, (j, a) :: L, M, N, ⟨rfl, rfl, k3, ⟨o, k4, k5⟩, h2⟩, by rw [List.map_cons, List.map_cons, h3], h4, h4', ⟨rfl, h5⟩, fun p hp => ?_, h7⟩
      rcases List.mem_cons.mp hp with z | z
      · subst z; exact ⟨⟨b, d, e⟩, r⟩
      · exact h6 p z
    · cases h
  | i, .t s0 s1 :: ks, _, _, ds, @ArgRel.o _ _ _ j a vs as r t, h => by
    rw [argDs] at h
    split at h
    · rename_i b s' d e
      split at h
      · rename_i es
        have es' := Sh.beq_eq es
        subst es'
        obtain ⟨ds', h1, rfl⟩ := map_inv h
        obtain ⟨P, U, R, L, M, N, h2, h3, h4, h4', h5, h6, h7, h8⟩ := call_args s (i := i + 1) t h1
        obtain ⟨x, fp, k1, k2, k3, k4⟩ := s.tr.fp e
        rw [r] at k1; cases k1
        refine ⟨P, (i, a, fp) :: U, R, L, (j, a, fp) :: M, N, ⟨rfl, rfl, k2, h2⟩, h3, by rw [List.map_cons, List.map_cons, h4], h4', ⟨rfl, h5⟩, h6, fun p hp => ?_, h8⟩
        rcases List.mem_cons.mp hp with z | z
        · subst z; exact ⟨⟨b, _, d, e⟩, r, k3⟩
        · exact h7 p z
      · cases h
    · cases h
  | i, .l s0 :: ks, _, _, ds, @ArgRel.o _ _ _ j a vs as r t, h => by
    rw [argDs] at h
    split at h
    · rename_i b s' d e
      split at h
      · rename_i es
        have es' := Sh.beq_eq es
        subst es'
        obtain ⟨ds', h1, rfl⟩ := map_inv h
        obtain ⟨P, U, R, L, M, N, h2, h3, h4, h4', h5, h6, h7, h8⟩ := call_args s (i := i + 1) t h1
        obtain ⟨x, fp, k1, k2, k3, k4⟩ := s.tr.fp e
        rw [r] at k1; cases k1
        refine ⟨P, U, (i, a, fp) :: R, L, M, (j, a, fp) :: N, ⟨rfl, rfl, k2, h2⟩, h3, h4, by rw [List.map_cons, List.map_cons, h4'], ⟨rfl, h5⟩, h6, h7, fun p hp => ?_⟩
        rcases List.mem_cons.mp hp with z | z
        · subst z; exact k3
        · exact h8 p z
      · cases h
    · cases h
theorem outs_to {H0 : Hp} : ∀ {ks : List Kd} {P L : PL} {U M : UL} {ds : List D}, P.map (·.2) = L.map (·.2) → U.map (·.2) = M.map (·.2) → outsOk K G H H0 ks P U ds → outsOk K G H H0 ks L M ds
  | [], [], [], [], [], [], _, _, h => h
  | [], _ :: _, _, _, _, _, _, _, h => h.elim
  | [], [], _, _ :: _, _, _, _, _, h => h.elim
  | [], [], _, [], _, _ :: _, _, _, h => h.elim
  | [], [], _ :: _, [], _, [], e, _, _ => by simp at e
  | [], [], [], [], _ :: _, [], _, e, _ => by simp at e
  | .p :: ks, P, L, U, M, ds, e1, e2, h => outs_to (ks := ks) e1 e2 h
  | .l _ :: ks, P, L, U, M, ds, e1, e2, h => outs_to (ks := ks) e1 e2 h
  | .o :: ks, [], _, _, _, _, _, _, h => by simp [outsOk] at h
  | .o :: ks, _ :: _, [], _, _, _, e, _, h => by simp at e
  | .o :: ks, _ :: _, _ :: _, _, _, [], e, _, h => by simp [outsOk] at h
  | .o :: ks, (i, a) :: P, (j, b) :: L, U, M, d :: ds, e1, e2, h => by
    rw [List.map_cons, List.map_cons] at e1
    obtain ⟨e3, e4⟩ := List.cons.inj e1
    have e3' : a = b := e3
    subst e3'
    exact ⟨h.1, outs_to e4 e2 h.2⟩
  | .t _ _ :: ks, _, _, [], _, _, _, _, h => by simp [outsOk] at h
  | .t _ _ :: ks, _, _, _ :: _, [], _, _, e, h => by simp at e
  | .t _ _ :: ks, _, _, _ :: _, _ :: _, [], _, e, h => by simp [outsOk] at h
  | .t _ _ :: ks, P, L, (i, a, fp) :: U, (j, b, fq) :: M, d :: ds, e1, e2, h => by
    rw [List.map_cons, List.map_cons] at e2
    obtain ⟨e3, e4⟩ := List.cons.inj e2
    have e3' : (a, fp) = (b, fq) := e3
    cases e3'
    exact ⟨h.1, outs_to e1 e4 h.2⟩
theorem SPU_to {P L : PL} {U M : UL} (e1 : P.map (·.2) = L.map (·.2)) (e2 : U.map (·.2) = M.map (·.2)) : SPU P U = SPU L M := by
  unfold SPU
  have : ∀ (U : UL), U.flatMap (·.2.2) = (U.map (·.2)).flatMap (·.2) := fun U => by induction U with
    | nil => rfl
    | cons a r ih => rw [List.flatMap_cons, List.map_cons, List.flatMap_cons, ih]
  rw [e1, this U, this M, e2]
theorem outFp_to {H : Hp} : ∀ {ks : List Kd} {U M : UL}, U.map (·.2) = M.map (·.2) → outFp H ks U = outFp H ks M
  | [], _, _, _ => by rw [outFp, outFp]
  | .p :: ks, U, M, e => by rw [outFp, outFp]; exact outFp_to e
  | .l _ :: ks, U, M, e => by rw [outFp, outFp]; exact outFp_to e
  | .o :: ks, U, M, e => by rw [outFp, outFp]; exact outFp_to e
  | .t _ _ :: ks, [], [], e => rfl
  | .t _ _ :: ks, [], _ :: _, e => by simp at e
  | .t _ _ :: ks, _ :: _, [], e => by simp at e
  | .t _ _ :: ks, (i, a, fp) :: U, (j, b, fq) :: M, e => by
    rw [List.map_cons, List.map_cons] at e
    obtain ⟨e3, e4⟩ := List.cons.inj e
    have e3' : (a, fp) = (b, fq) := e3
    cases e3'
    rw [outFp, outFp, outFp_to e4]
theorem nodup_addr (s : SR K B σ G H ρ) : ∀ {L : List (Nat × Addr)}, (∀ p ∈ L, isO ρ p.1 ∧ σ[p.1]? = some (some (.ref p.2))) → (L.map (·.1)).Nodup → (L.map (·.2)).Nodup
  | [], _, _ => List.nodup_nil
  | p :: L, h, nd => by
    rw [List.map_cons, List.nodup_cons] at nd ⊢
    refine ⟨fun z => ?_, nodup_addr s (fun q hq => h q (List.mem_cons_of_mem _ hq)) nd.2⟩
    obtain ⟨q, hq, e⟩ := List.mem_map.mp z
    obtain ⟨h1, h2⟩ := h p List.mem_cons_self
    obtain ⟨h3, h4⟩ := h q (List.mem_cons_of_mem _ hq)
    rw [e] at h4
    have := s.inj p.1 q.1 p.2 h1 h3 h2 h4
    exact nd.1 (this ▸ List.mem_map.mpr ⟨q, hq, rfl⟩)
end
section
variable {X : Cx} {Xs : List XC} {W : WX} {e a b c : Expr} {es : List Expr} {pos p : Pos} {x : Str}
def aNil : M (List Arg) := M.ret []
def aP (m : M D) (ms : M (List Arg)) : M (List Arg) := m.bnd fun d => ms.bnd fun as => M.ret (.p d :: as)
def aO (i : Nat) (ms : M (List Arg)) : M (List Arg) := fun ρ => match ρ[i]? with
  | some (.ow _ _) => (ms.bnd fun as => M.ret (.o i :: as)) ρ
  | _ => none
theorem sr_nil : SR' X Xs W [] aNil := pa_imp pa_nil fun σ H Q ⟨B, G, ρ, s, h⟩ => h.reted _ G H s (Ex.refl _) .nil
theorem sr_p {m : M D} {ms : M (List Arg)} (ha : SE X Xs W e m) (hr : SR' X Xs W es ms) (hs : starEach (e :: es) X.env = (false, eval e X.env) :: starEach es X.env := by rfl) : SR' X Xs W (e :: es) (aP m ms) := by
  refine pa_imp (pa_cons ha hr hs) fun σ H Q ⟨B, G, ρ, s, h⟩ => ?_
  refine r1.bind (Rl := RlE X.K) s h fun x H1 d G1 ρ1 s1 e1 rx h1 => ?_
  refine r1.bind (Rl := RlR X.K) s1 h1 fun xs H2 ds G2 ρ2 s2 e2 rs h2 => ?_
  exact h2.reted _ G2 H2 s2 (Ex.refl _) (.p (rx.mono e2) rs)
theorem sr_o {ms : M (List Arg)} (i : Nat) (hN : X.N[i]? = some x) (hv : Vis X.env.scope x) (hr : SR' X Xs W es ms) (hd : (x == ("__debug__" : Str)) = false := by decide) (hcd : (x == ("__classdict__" : Str)) = false := by decide)
    (hs : starEach ((.Name x pos) :: es) X.env = (false, eval (.Name x pos) X.env) :: starEach es X.env := by rfl) : SR' X Xs W ((.Name x pos) :: es) (aO i ms) := by
  refine pa_imp (pa_cons (pe_var (i := i) hN hv hd hcd) hr hs) fun σ H Q ⟨B, G, ρ, s, r, h1, h2⟩ => ?_
  unfold aO at h1
  split at h1
  · rename_i b d e
    obtain ⟨a, o, k1, k2, k3, k4, k5⟩ := s.ow i b d e
    refine ⟨.ref a, k1, ?_⟩
    refine r1.bind (Rl := RlR X.K) s ⟨r, h1, h2⟩ fun xs H2 ds G2 ρ2 s2 e2 rs h2 => ?_
    exact h2.reted _ G2 H2 s2 (Ex.refl _) (.o k1 rs)
  · cases h1
def aT (i : Nat) (ms : M (List Arg)) : M (List Arg) := fun ρ => match ρ[i]? with
  | some (.tr _ _ _) => (ms.bnd fun as => M.ret (.o i :: as)) ρ
  | _ => none
theorem sr_t {ms : M (List Arg)} (i : Nat) (hN : X.N[i]? = some x) (hv : Vis X.env.scope x) (hr : SR' X Xs W es ms) (hd : (x == ("__debug__" : Str)) = false := by decide) (hcd : (x == ("__classdict__" : Str)) = false := by decide)
    (hs : starEach ((.Name x pos) :: es) X.env = (false, eval (.Name x pos) X.env) :: starEach es X.env := by rfl) : SR' X Xs W ((.Name x pos) :: es) (aT i ms) := by
  refine pa_imp (pa_cons (pe_var (i := i) hN hv hd hcd) hr hs) fun σ H Q ⟨B, G, ρ, s, r, h1, h2⟩ => ?_
  unfold aT at h1
  split at h1
  · rename_i b sh d e
    obtain ⟨a, fp, k1, _⟩ := s.tr.fp e
    refine ⟨.ref a, k1, ?_⟩
    refine r1.bind (Rl := RlR X.K) s ⟨r, h1, h2⟩ fun xs H2 ds G2 ρ2 s2 e2 rs h2 => ?_
    exact h2.reted _ G2 H2 s2 (Ex.refl _) (.o k1 rs)
  · cases h1
/-- what the callee's promise asks, and what it gives, over our variables -/
theorem call_conv {K : PySem.W.Frag} {F : FnD} {B : Bs} {σ : L2.St} {G H : Hp} {ρ : Cs} {vs : List V} {as : List Arg} {Q : VK} {r : R D} (s : SR K B σ G H ρ) (ra : ArgRel K σ G vs as) (h1 : callK F as ρ = some r)
    (hok : ∀ d ρ', r = .ok d ρ' → ∀ v G' H', SR K B σ G' H' ρ' → Ex G G' → (if F.fr = true then ∃ p o, v = .ref p ∧ H' p = some o ∧ RepO K G' o d ∧ NewO B σ G' H' ρ' p else Rep K G' v d) → Q v H')
    (hex : ∀ c p ρ', r = .ex c p ρ' → ∀ G' H', SR K B σ G' H' ρ' → XP K Xs B G' H' c p fun cls dd => W cls dd σ H') : spF K Xs F vs H Q (WE W σ) := by
  unfold callK at h1
  by_cases nd : (lentSl as).Nodup ∧ numT F.ks ≤ 1
  · rw [if_pos nd] at h1
    obtain ⟨nd, one⟩ := nd
    cases ed : argDs ρ F.ks as with
    | none => rw [ed] at h1; cases h1
    | some ds =>
      rw [ed] at h1
      dsimp only at h1
      obtain ⟨P, U, R, L, M, N, k1, k2, k3, k3', k4, k5⟩ := call_args (i := 0) s ra ed
      have ndA : (P.map (·.2)).Nodup := by rw [k2]; exact nodup_addr s k5.1 (k4.nd nd).1
      have oneM : M.length ≤ 1 := by rw [k4.sl.2.2.2]; exact one
      have inL : ∀ p ∈ P, ∃ q ∈ L, q.2 = p.2 := fun p hp => by
        have hp' : p.2 ∈ L.map (·.2) := by rw [← k2]; exact List.mem_map.mpr ⟨p, hp, rfl⟩
        obtain ⟨q, hq, e1⟩ := List.mem_map.mp hp'
        exact ⟨q, hq, e1⟩
      have inM : ∀ u ∈ U, ∃ w ∈ M, w.2 = u.2 := fun u hu => by
        have hu' : u.2 ∈ M.map (·.2) := by rw [← k3]; exact List.mem_map.mpr ⟨u, hu, rfl⟩
        obtain ⟨q, hq, e1⟩ := List.mem_map.mp hu'
        exact ⟨q, hq, e1⟩
      have inN : ∀ u ∈ R, ∃ w ∈ N, w.2 = u.2 := fun u hu => by
        have hu' : u.2 ∈ N.map (·.2) := by rw [← k3']; exact List.mem_map.mpr ⟨u, hu, rfl⟩
        obtain ⟨q, hq, e1⟩ := List.mem_map.mp hu'
        exact ⟨q, hq, e1⟩
      have lent : LentOk P U R := by
        refine ⟨ndA, by rw [← List.length_map (·.2), k3, List.length_map]; exact oneM, fun p hp u hu z => ?_, fun p hp u hu z => ?_, fun u hu w hw => ?_, ?_⟩
        · obtain ⟨q, hq, e1⟩ := inL p hp
          obtain ⟨w, hw, e2⟩ := inM u hu
          obtain ⟨i1, i2⟩ := k5.1 q hq
          obtain ⟨_, _, j2⟩ := k5.2.1 w hw
          exact s.tr.no w.1 q.1 p.2 (by rw [j2, e2]; exact z) i1 (by rw [i2, e1])
        · obtain ⟨q, hq, e1⟩ := inL p hp
          obtain ⟨w, hw, e2⟩ := inN u hu
          obtain ⟨i1, i2⟩ := k5.1 q hq
          have j2 := k5.2.2 w hw
          exact s.tr.no w.1 q.1 p.2 (by rw [j2, e2]; exact z) i1 (by rw [i2, e1])
        · obtain ⟨u', hu', e1⟩ := inM u hu
          obtain ⟨w', hw', e2⟩ := inN w hw
          obtain ⟨_, _, j1⟩ := k5.2.1 u' hu'
          have j2 := k5.2.2 w' hw'
          have := s.tr.dj u'.1 w'.1 (k4.apart nd u' hu' w' hw')
          rw [j1, j2, e1, e2] at this
          exact this
        · show (R.map (·.2)).Pairwise _
          rw [k3']
          have key : ∀ {N : UL}, (N.map (·.1)).Nodup → (∀ u ∈ N, fpAt H σ ρ u.1 = u.2.2) → (N.map (·.2)).Pairwise fun u w => Dj u.2 w.2 := by
            intro N
            induction N with
            | nil => intro _ _; exact List.Pairwise.nil
            | cons u N ih =>
              intro n1 n2
              rw [List.map_cons, List.nodup_cons] at n1
              rw [List.map_cons, List.pairwise_cons]
              refine ⟨fun w hw => ?_, ih n1.2 fun x hx => n2 x (List.mem_cons_of_mem _ hx)⟩
              obtain ⟨w', hw', rfl⟩ := List.mem_map.mp hw
              have := s.tr.dj u.1 w'.1 fun e => n1.1 (List.mem_map.mpr ⟨w', hw', e.symm⟩)
              rw [n2 u List.mem_cons_self, n2 w' (List.mem_cons_of_mem _ hw')] at this
              exact this
          exact key (k4.nd nd).2 k5.2.2
      cases ef : F.sem ds with
      | none => rw [ef] at h1; cases h1
      | some fr =>
        rw [ef] at h1
        refine ⟨G, P, U, R, ds, fr, s.ex, k1, lent, ef, ?_⟩
        cases fr with
        | ret d outs =>
          dsimp only at h1
          obtain ⟨ρ', e1, rfl⟩ := map_inv h1
          intro v G' H' f ho hv
          rw [SPU_to k2 k3] at f
          obtain ⟨s', sf, so⟩ := s.call k4 k5 nd oneM f (outs_to k2 k3 ho) e1
          refine hok d ρ' rfl v G' H' s' f.g ?_
          by_cases hf : F.fr = true
          · rw [if_pos hf] at hv ⊢
            obtain ⟨p, o, m1, m2, m3, m4, m5, m6⟩ := hv
            refine ⟨p, o, m1, m4, m5, m3, ?_, fun i hi z => (s.fresh m2).1 i (so i hi) z, fun q hq z => (s.fresh m2).2.1 q hq z, fun i hi => ?_⟩
            · exact (s.fresh m2).2.2.1
            · rcases sf i p hi with z | z
              · exact z m2
              · exact m6 (by rw [outFp_to k3]; exact z)
          · rw [if_neg hf] at hv ⊢; exact hv
        | exc c p outs =>
          dsimp only at h1
          obtain ⟨ρ', e1, rfl⟩ := map_inv h1
          intro G' H' f ho
          rw [SPU_to k2 k3] at f
          obtain ⟨s', _, _⟩ := s.call k4 k5 nd oneM f (outs_to k2 k3 ho) e1
          have hx := hex c p ρ' rfl G' H' s'
          obtain ⟨x, hx1, hx2⟩ := hx
          refine ⟨x, hx1, ?_⟩
          cases hf : x.f with
          | none => rw [hf] at hx2; exact hx2
          | some f' =>
            rw [hf] at hx2
            exact fun dd v w1 w2 w3 w4 => hx2 dd v w1 (s.fresh w2).2.2.1 w3 w4
  · rw [if_neg nd] at h1; cases h1
structure Cal (X : Cx) (Xs : List XC) (x : Str) (F : FnD) : Prop where
  run : ∃ (k : Nat) (f : Addr) (fd : FuncData) (ps : List Str), FnOk X.prog X.w X.K X.mg X.base (L2.CX X.prog X.w) k f fd ps (spF X.K Xs F) ∧ Room k X.A ∧ X.mg x = some (.ref f) ∧ PySem.W.keepIn X.K (.ref f) = true ∧ Binds X.K fd ps []
theorem r_call {F : FnD} {ms : M (List Arg)} {σ : L2.St} {H : Hp} {Q : VK} (f : ∀ B G H1 ρ vs as r, SR X.K B σ G H1 ρ → ArgRel X.K σ G vs as → callK F as ρ = some r → (match r with
    | .ok d ρ' => ∀ v G' H', SR X.K B σ G' H' ρ' → Ex G G' → (if F.fr = true then ∃ p o, v = .ref p ∧ H' p = some o ∧ RepO X.K G' o d ∧ NewO B σ G' H' ρ' p else Rep X.K G' v d) → Q v H'
    | .ex c p ρ' => ∀ G' H', SR X.K B σ G' H' ρ' → XP X.K Xs B G' H' c p fun cls dd => W cls dd σ H') → spF X.K Xs F vs H1 Q (WE W σ)) : True := trivial
theorem se_call {F : FnD} {ms : M (List Arg)} (C : Cal X Xs x F) (hg : Gl X x) (tk : Takes X W) (ha : SR' X Xs W (e :: es) ms) (hfr : F.fr = false := by rfl)
    (hdb : (x == ("__debug__" : Str)) = false := by decide) (he : starEach (e :: es) X.env = (false, eval e X.env) :: starEach es X.env := by rfl) (hpl : (backTo pos (starEach es X.env)).any (·.1) = false := by rfl) :
    SE X Xs W (.Call (.Name x p) (e :: es) [] pos) (mCall F ms) := by
  obtain ⟨k, f, fd, ps, F1, hr, hm, hk, hb⟩ := C.run
  refine pe_imp (pe_callS F1 hr hg hm hk hb (fun σ => passAt tk σ) ha hdb he hpl) fun σ H Q ⟨B, G, ρ, s, h⟩ => ?_
  refine r1.bind (Rl := RlR X.K) s h fun vs H1 as G1 ρ1 s1 e1 ra ⟨r, h1, h2⟩ => ?_
  refine call_conv s1 ra h1 (fun d ρ' er v G' H' s' x' hv => ?_) (fun c p ρ' er G' H' s' => ?_)
  · subst er
    rw [if_neg (by rw [hfr]; decide)] at hv
    exact h2 v G' H' s' x' hv
  · subst er
    exact h2 G' H' s'
theorem so_call {F : FnD} {ms : M (List Arg)} (C : Cal X Xs x F) (hg : Gl X x) (tk : Takes X W) (ha : SR' X Xs W (e :: es) ms) (hfr : F.fr = true := by rfl)
    (hdb : (x == ("__debug__" : Str)) = false := by decide) (he : starEach (e :: es) X.env = (false, eval e X.env) :: starEach es X.env := by rfl) (hpl : (backTo pos (starEach es X.env)).any (·.1) = false := by rfl) :
    SO X Xs W (.Call (.Name x p) (e :: es) [] pos) (mCall F ms) := by
  obtain ⟨k, f, fd, ps, F1, hr, hm, hk, hb⟩ := C.run
  refine pe_imp (pe_callS F1 hr hg hm hk hb (fun σ => passAt tk σ) ha hdb he hpl) fun σ H Q ⟨B, G, ρ, s, r, h1, h2⟩ => ?_
  unfold mCall M.bnd at h1
  cases em : ms ρ with
  | none => rw [em] at h1; cases h1
  | some q =>
    rw [em] at h1
    cases q with
    | ex c p ρ1 =>
      cases h1
      show rX X.K Xs W (RlR X.K) ms σ H _
      exact ⟨B, G, ρ, s, _, em, h2⟩
    | ok as ρ1 =>
      show rX X.K Xs W (RlR X.K) ms σ H _
      refine ⟨B, G, ρ, s, _, em, fun vs G1 H1 s1 e1 ra => ?_⟩
      refine call_conv s1 ra h1 (fun d ρ' er v G' H' s' x' hv => ?_) (fun c p ρ' er G' H' s' => ?_)
      · subst er
        rw [if_pos hfr] at hv
        obtain ⟨p, o, rfl, m2, m3, m4⟩ := hv
        exact h2 p o G' H' s' (e1.trans x') m2 m3 m4
      · subst er
        exact h2 G' H' s'
end
end Tk
namespace Tk
open PySem PySem.Spec PyProof.Rows L2 SX

/-! ### operators on data -/
def addD : D → D → Option D
  | .int a, .int b => some (.int (a + b))
  | .str a, .str b => if a.length + b.length ≤ sizeLine then some (.str (a ++ b)) else none
  | .lst a, .lst b => if a.length + b.length ≤ sizeLine then some (.lst (a ++ b)) else none
  | .tup a, .tup b => if a.length + b.length ≤ sizeLine then some (.tup (a ++ b)) else none
  | _, _ => none
def subD : D → D → Option D
  | .int a, .int b => some (.int (a - b))
  | _, _ => none
def mulD : D → D → Option D
  | .int a, .int b => if a.natAbs.log2 + b.natAbs.log2 < 1000000 then some (.int (a * b)) else none
  | .str a, .int n => if -(2 ^ 63) ≤ n ∧ a.length * n.toNat ≤ sizeLine ∧ n < 2 ^ 39 then some (.str (List.replicate n.toNat a).flatten) else none
  | .lst a, .int n => if -(2 ^ 63) ≤ n ∧ n < 2 ^ 63 ∧ a.length * n.toNat ≤ sizeLine then some (.lst (List.replicate n.toNat a).flatten) else none
  | _, _ => none
def divD : D → D → Option D
  | .int a, .int b => if 0 < b ∧ b.natAbs.log2 < 9000 then some (.int (a / b)) else none
  | _, _ => none
def modD : D → D → Option D
  | .int a, .int b => if 0 < b then some (.int (a % b)) else none
  | _, _ => none
def powD : D → D → Option D
  | .int a, .int n => if 0 ≤ n ∧ (Builtin.Int.intBits a : Int) * n ≤ 2 ^ 27 then some (.int (a ^ n.toNat)) else none
  | _, _ => none
theorem Reps.rep {K : PySem.W.Frag} {G : Hp} {vs : List V} {ds : List D} (r : Reps K G vs ds) : ∀ k : Nat, Reps K G (List.replicate k vs).flatten (List.replicate k ds).flatten
  | 0 => .nil
  | k + 1 => by rw [List.replicate_succ, List.replicate_succ, List.flatten_cons, List.flatten_cons]; exact r.append (Reps.rep r k)
section
variable {X : Cx}
/-- tuple + tuple, the new tuple's object known -/
def rCatF (K : PySem.W.Frag) : R2 := fun x y H Q => ∃ a b xs ys, x = .ref a ∧ y = .ref b ∧ SqT K H a xs ∧ SqT K H b ys ∧ xs.length + ys.length ≤ sizeLine ∧
  (xs = [] → Q (.ref b) H) ∧ (xs ≠ [] → ys = [] → Q (.ref a) H) ∧ (xs ≠ [] → ys ≠ [] → ∀ p o, H p = none → o.dict = none → Q (.ref p) (upd H p (.frz o (.tup (xs ++ ys)))))
theorem op_catF : OpR X (binaryOp .Add) (rCatF X.K) := by
  rintro pins s σ H x y v u Q I rx ry ⟨a, b, xs, ys, rfl, rfl, ha, hb, hz, q0, q1, q2⟩
  by_cases hx : xs = []
  · exact op_catA pins s σ H _ _ v u Q I rx ry ⟨a, b, xs, ys, rfl, rfl, ha, hb, hz, q0, fun n => absurd hx n, fun n => absurd hx n⟩
  by_cases hy : ys = []
  · exact op_catA pins s σ H _ _ v u Q I rx ry ⟨a, b, xs, ys, rfl, rfl, ha, hb, hz, q0, q1, fun _ n => absurd hy n⟩
  cases rx
  cases ry
  obtain ⟨its, r1, p1, _⟩ := I.tuple ha
  obtain ⟨its2, r2, p2, _⟩ := I.tuple hb
  refine HT.cat_tup p1 p2 (fun z => hx (r1.nil_iff.mp z)) (fun z => absurd (r2.nil_iff.mp z) hy) (fun z => ?_) (by have := r1.length; have := r2.length; omega)
  exact ⟨.ref s.heap.objs.size, _, I.laid (t' := s.toks) (fun b ob q => Heap.get?_push_of_some _ q) (Nat.le_refl _) (frz_tup (by rw [List.length_append]; exact hz) (r1.append r2) (Heap.get?_push_size _ rfl) rfl ⟨_, rfl⟩), rfl, q2 hx hy _ _ (I.hok.fresh (Nat.le_refl _)) rfl⟩
abbrev rAddX (K : PySem.W.Frag) : R2 := fun x y H Q => (∃ i j, x = .int i ∧ y = .int j ∧ Q (.int (i + j)) H) ∨ (∃ i j, x = .str i ∧ y = .str j ∧ i.length + j.length ≤ sizeLine ∧ Q (.str (i ++ j)) H) ∨ rCat x y H Q ∨ rCatF K x y H Q
theorem op_addX : OpR X (binaryOp .Add) (rAddX X.K) := op_add.or (op_add_str.or (op_cat.or op_catF))
theorem b_add : BinR X (rAddX X.K) addD := by
  intro G H x y d e z Q ex rx ry h q
  cases rx <;> cases ry <;> first | (cases h; done) | skip
  · cases h; exact .inl ⟨_, _, rfl, rfl, q _ G H (Fr.refl ex) (.int _)⟩
  · rename_i a b
    obtain ⟨hl, rfl⟩ := ite_inv h
    refine .inr (.inl ⟨_, _, rfl, rfl, by rw [S_len, S_len]; exact hl, ?_⟩)
    rw [S_cat]
    exact q _ G H (Fr.refl ex) (.str _)
  · rename_i a vs ds ha rs b ws es hb rt
    obtain ⟨hl, rfl⟩ := ite_inv h
    refine .inr (.inr (.inl ⟨a, b, vs, ws, rfl, rfl, ex _ _ ha, ex _ _ hb, by rw [rs.length, rt.length]; exact hl, fun p hp => ?_⟩))
    have f := Fr.alloc (o := .lst (vs ++ ws)) ex hp
    exact q _ _ _ f (.lst upd_same ((rs.append rt).mono f.g))
  · rename_i a vs ds ha rs b ws es hb rt
    obtain ⟨hl, rfl⟩ := ite_inv h
    refine .inr (.inr (.inr ⟨a, b, vs, ws, rfl, rfl, ex.st ha.sq, ex.st hb.sq, by rw [rs.length, rt.length]; exact hl, fun e0 => ?_, fun _ e1 => ?_, fun _ _ p o hp ho => ?_⟩))
    · subst e0; cases rs; exact q _ G H (Fr.refl ex) (.tup hb rt)
    · subst e1; cases rt; rw [List.append_nil] at q; exact q _ G H (Fr.refl ex) (.tup ha rs)
    · have f := Fr.alloc (o := .frz o (.tup (vs ++ ws))) ex hp
      exact q _ _ _ f (.tup (.inl ⟨o, upd_same, ho⟩) ((rs.append rt).mono f.g))
theorem b_sub : BinR X (rI0 fun i j => .int (i - j)) subD := by
  intro G H x y d e z Q ex rx ry h q
  cases rx <;> cases ry <;> first | (cases h; done) | skip
  cases h; exact ⟨_, _, rfl, rfl, q _ G H (Fr.refl ex) (.int _)⟩
theorem op_mulS : OpR X (binaryOp .Mult) (fun x y H Q => ∃ z n, x = .str z ∧ y = .int n ∧ MulOk z n ∧ Q (.str (Txt.mul z n)) H) := by
  intro pins s σ H x y v u Q I rx ry h
  obtain ⟨z, n, rfl, rfl, hk, q⟩ := h
  obtain ⟨t, rfl⟩ := rx
  obtain ⟨t', rfl⟩ := ry
  exact SB.mul hk fun t' k => ⟨.str _, H, I.tok k, ⟨t', rfl⟩, q⟩
theorem txt_mul {a : List Nat} {n : Int} : Txt.mul (S a) n = S (List.replicate n.toNat a).flatten := by
  unfold Txt.mul
  by_cases h1 : n < 1
  · rw [if_pos h1, show n.toNat = 0 by omega]; rfl
  · rw [if_neg h1]
    by_cases h2 : (n == 1 || (S a).length == 0) = true
    · rw [if_pos h2]
      rw [Bool.or_eq_true] at h2
      rcases h2 with h2 | h2
      · have : n = 1 := by simpa using h2
        subst this
        rw [show (1 : Int).toNat = 1 from rfl]
        simp
      · rw [S_len] at h2
        have : a = [] := by simpa using h2
        subst this
        have : (List.replicate n.toNat ([] : List Nat)).flatten = [] := by
          induction n.toNat with
          | zero => rfl
          | succ k ih => rw [List.replicate_succ, List.flatten_cons, ih]; rfl
        rw [this]
    · rw [if_neg h2]
      congr 1
      have : ∀ (k : Nat) (acc : Array Nat), (List.replicate k a.toArray).foldl (· ++ ·) acc = acc ++ (List.replicate k a).flatten.toArray := by
        intro k
        induction k with
        | zero => intro acc; simp
        | succ k ih => intro acc; rw [List.replicate_succ, List.foldl_cons, ih, List.replicate_succ, List.flatten_cons]; simp
      rw [this]; simp
abbrev rMulX : R2 := fun x y H Q => rI CMulW (fun i j => .int (i * j)) x y H Q ∨ (∃ z n, x = .str z ∧ y = .int n ∧ MulOk z n ∧ Q (.str (Txt.mul z n)) H) ∨ rRep x y H Q
theorem op_mulX : OpR X (binaryOp .Mult) rMulX := op_mulW.or (op_mulS.or op_rep)
theorem b_mul : BinR X rMulX mulD := by
  intro G H x y d e z Q ex rx ry h q
  cases rx <;> cases ry <;> first | (cases h; done) | skip
  · obtain ⟨hl, rfl⟩ := ite_inv h
    exact .inl ⟨_, _, rfl, rfl, hl, q _ G H (Fr.refl ex) (.int _)⟩
  · rename_i a n
    obtain ⟨⟨h1, h2, h3⟩, rfl⟩ := ite_inv h
    refine .inr (.inl ⟨_, _, rfl, rfl, ?_, ?_⟩)
    · refine ⟨?_, fun g1 g2 => ?_, fun g1 g2 => ?_⟩
      · simp; omega
      · rw [S_len]
        rw [S_len] at g2
        have hn : 0 < n.toNat := by omega
        have ha : a.length ≤ sizeLine := Nat.le_trans (Nat.le_mul_of_pos_right _ hn) h2
        have hs : sizeLine = 16777216 := by decide
        have : (16777216 : Int) ≤ (2 ^ 63 - 1) / n := by
          rw [Int.le_ediv_iff_mul_le (by omega)]
          omega
        omega
      · rw [S_len]
        unfold Builtin.Str.tooLong
        exact decide_eq_false (by omega)
    · rw [show (⟨a.toArray⟩ : Str) = S a from rfl, txt_mul]
      exact q _ G H (Fr.refl ex) (.str _)
  · rename_i a vs ds ha rs n
    obtain ⟨⟨h1, h2, h3⟩, rfl⟩ := ite_inv h
    refine .inr (.inr ⟨a, n, vs, rfl, rfl, ex _ _ ha, h1, h2, by rw [rs.length]; exact h3, fun p hp => ?_⟩)
    have f := Fr.alloc (o := .lst (List.replicate n.toNat vs).flatten) ex hp
    exact q _ _ _ f (.lst upd_same ((Reps.rep rs _).mono f.g))
theorem b_div : BinR X (rI CDivW fun i j => .int (i / j)) divD := by
  intro G H x y d e z Q ex rx ry h q
  cases rx <;> cases ry <;> first | (cases h; done) | skip
  obtain ⟨hl, rfl⟩ := ite_inv h
  exact ⟨_, _, rfl, rfl, hl, q _ G H (Fr.refl ex) (.int _)⟩
theorem b_mod : BinR X (rI (fun _ j => 0 < j) fun i j => .int (i % j)) modD := by
  intro G H x y d e z Q ex rx ry h q
  cases rx <;> cases ry <;> first | (cases h; done) | skip
  obtain ⟨hl, rfl⟩ := ite_inv h
  exact ⟨_, _, rfl, rfl, hl, q _ G H (Fr.refl ex) (.int _)⟩
theorem op_powX : OpR X (binaryOp .Pow) (rI (fun i j => 0 ≤ j ∧ (Builtin.Int.intBits i : Int) * j ≤ 2 ^ 27) fun i j => .int (i ^ j.toNat)) := opI fun _ _ _ _ _ _ _ hc q => pow_int hc.1 hc.2 q
theorem b_pow : BinR X (rI (fun i j => 0 ≤ j ∧ (Builtin.Int.intBits i : Int) * j ≤ 2 ^ 27) fun i j => .int (i ^ j.toNat)) powD := by
  intro G H x y d e z Q ex rx ry h q
  cases rx <;> cases ry <;> first | (cases h; done) | skip
  obtain ⟨hl, rfl⟩ := ite_inv h
  exact ⟨_, _, rfl, rfl, hl, q _ G H (Fr.refl ex) (.int _)⟩
/-! ### comparisons -/
def ltD : D → D → Option D | .int a, .int b => some (.bl (decide (a < b))) | .str a, .str b => some (.bl (decide (a < b))) | _, _ => none
def leD : D → D → Option D | .int a, .int b => some (.bl (decide (a ≤ b))) | _, _ => none
def gtD : D → D → Option D | .int a, .int b => some (.bl (decide (b < a))) | _, _ => none
def geD : D → D → Option D | .int a, .int b => some (.bl (decide (b ≤ a))) | _, _ => none
abbrev rLtX : R2 := fun x y H Q => rI0 (fun i j => .bl (decide (i < j))) x y H Q ∨ (∃ i j, x = .str i ∧ y = .str j ∧ Q (.bl (decide (i.cps.toList < j.cps.toList))) H)
theorem op_ltX : OpR X (compareOp .Lt) rLtX := op_lt.or op_lt_str
theorem b_lt : BinR X rLtX ltD := by
  intro G H x y d e z Q ex rx ry h q
  cases rx <;> cases ry <;> first | (cases h; done) | skip
  · cases h; exact .inl ⟨_, _, rfl, rfl, q _ G H (Fr.refl ex) (.bl _)⟩
  · cases h; exact .inr ⟨_, _, rfl, rfl, q _ G H (Fr.refl ex) (.bl _)⟩
theorem b_le : BinR X (rI0 fun i j => .bl (decide (i ≤ j))) leD := by
  intro G H x y d e z Q ex rx ry h q
  cases rx <;> cases ry <;> first | (cases h; done) | skip
  cases h; exact ⟨_, _, rfl, rfl, q _ G H (Fr.refl ex) (.bl _)⟩
theorem b_gt : BinR X (rI0 fun i j => .bl (decide (j < i))) gtD := by
  intro G H x y d e z Q ex rx ry h q
  cases rx <;> cases ry <;> first | (cases h; done) | skip
  cases h; exact ⟨_, _, rfl, rfl, q _ G H (Fr.refl ex) (.bl _)⟩
theorem b_ge : BinR X (rI0 fun i j => .bl (decide (j ≤ i))) geD := by
  intro G H x y d e z Q ex rx ry h q
  cases rx <;> cases ry <;> first | (cases h; done) | skip
  cases h; exact ⟨_, _, rfl, rfl, q _ G H (Fr.refl ex) (.bl _)⟩
/-- is None, is not None -/
def isN : D → D → Option D | d, .non => some (.bl (match d with | .non => true | _ => false)) | _, _ => none
def noN : D → D → Option D | d, .non => some (.bl (match d with | .non => false | _ => true)) | _, _ => none
theorem b_isN : BinR X (fun x y H Q => y = .non ∧ Q (.bl (decide (x = .non))) H) isN := by
  intro G H x y d e z Q ex rx ry h q
  cases ry <;> first | (cases h; done) | skip
  refine ⟨rfl, ?_⟩
  cases rx <;> (cases h; exact q _ G H (Fr.refl ex) (.bl _))
theorem b_noN : BinR X (fun x y H Q => y = .non ∧ Q (.bl (!decide (x = .non))) H) noN := by
  intro G H x y d e z Q ex rx ry h q
  cases ry <;> first | (cases h; done) | skip
  refine ⟨rfl, ?_⟩
  cases rx <;> (cases h; exact q _ G H (Fr.refl ex) (.bl _))
/-! == and != -/
mutual
def eqB : D → D → Bool
  | .non, .non => true
  | .bl a, .bl b => a == b
  | .bl a, .int j => (if a then 1 else 0) == j
  | .int i, .bl b => i == (if b then 1 else 0)
  | .int i, .int j => i == j
  | .str a, .str b => a == b
  | .lst a, .lst b => eqBs a b
  | .tup a, .tup b => eqBs a b
  | _, _ => false
def eqBs : List D → List D → Bool
  | [], [] => true
  | a :: as, b :: bs => eqB a b && eqBs as bs
  | _, _ => false
end
mutual
/-- data of depth below n, without dicts, the texts' signs in order -/
def okD : Nat → D → Bool
  | _, .non => true
  | _, .bl _ => true
  | _, .int _ => true
  | _, .str s => s.all fun c => decide (c < 1114112)
  | 0, _ => false
  | n + 1, .lst xs => okDs n xs
  | n + 1, .tup xs => okDs n xs
  | _, _ => false
def okDs : Nat → List D → Bool
  | _, [] => true
  | n, x :: xs => okD n x && okDs n xs
end
mutual
def pyD : D → PyData
  | .non => .none
  | .bl b => .bool b
  | .int i => .int i
  | .str s => .str (S s)
  | .lst xs => .list (pyDs xs)
  | .tup xs => .tuple (pyDs xs)
  | _ => .none
def pyDs : List D → List PyData
  | [] => []
  | x :: xs => pyD x :: pyDs xs
end
mutual
theorem py_rep {K : PySem.W.Frag} {G : Hp} : ∀ {n : Nat} {d : D} {v : V}, okD n d = true → Rep K G v d → Dp K G v (pyD d)
  | _, .non, _, _, .non => .non
  | _, .bl _, _, _, .bl b => .bl b
  | _, .int _, _, _, .int i => .int i
  | _, .str _, _, _, .str s => .str _
  | 0, .lst _, _, h, _ => by simp [okD] at h
  | 0, .tup _, _, h, _ => by simp [okD] at h
  | n + 1, .lst xs, _, h, .lst ha r => .lst (.inl (.inl ha)) (py_reps (n := n) (by simpa [okD] using h) r)
  | n + 1, .tup xs, _, h, .tup ha r => .tup ha.sq (py_reps (n := n) (by simpa [okD] using h) r)
  | 0, .dic _, _, h, _ => by simp [okD] at h
  | n + 1, .dic _, _, h, _ => by simp [okD] at h
  | 0, .scr _, _, h, _ => by simp [okD] at h
  | n + 1, .scr _, _, h, _ => by simp [okD] at h
theorem py_reps {K : PySem.W.Frag} {G : Hp} : ∀ {n : Nat} {ds : List D} {vs : List V}, okDs n ds = true → Reps K G vs ds → DpAll K G vs (pyDs ds)
  | _, [], _, _, .nil => .nil
  | n, d :: ds, _, h, .cons a r => by
    rw [okDs, Bool.and_eq_true] at h
    exact .cons (py_rep h.1 a) (py_reps h.2 r)
end
mutual
theorem py_ok : ∀ {n : Nat} {d : D}, okD n d = true → (pyD d).canLay0 = true ∧ (pyD d).depth ≤ n
  | n, .non, _ => ⟨rfl, Nat.zero_le _⟩
  | n, .bl _, _ => ⟨rfl, Nat.zero_le _⟩
  | n, .int _, _ => ⟨rfl, Nat.zero_le _⟩
  | n, .str s, h => by
    refine ⟨?_, Nat.zero_le _⟩
    show PyData.strOk (S s) = true
    unfold PyData.strOk
    have h' : (s.all fun c => decide (c < 1114112)) = true := by cases n <;> simpa only [okD] using h
    simpa using h'
  | 0, .lst _, h => by simp [okD] at h
  | 0, .tup _, h => by simp [okD] at h
  | n + 1, .lst xs, h => by
    obtain ⟨h1, h2⟩ := py_oks (n := n) (ds := xs) (by simpa [okD] using h)
    exact ⟨by simpa [pyD, PyData.canLay0] using h1, by simp only [pyD, PyData.depth]; omega⟩
  | n + 1, .tup xs, h => by
    obtain ⟨h1, h2⟩ := py_oks (n := n) (ds := xs) (by simpa [okD] using h)
    exact ⟨by simpa [pyD, PyData.canLay0] using h1, by simp only [pyD, PyData.depth]; omega⟩
  | 0, .dic _, h => by simp [okD] at h
  | n + 1, .dic _, h => by simp [okD] at h
  | 0, .scr _, h => by simp [okD] at h
  | n + 1, .scr _, h => by simp [okD] at h
theorem py_oks : ∀ {n : Nat} {ds : List D}, okDs n ds = true → PyData.canLayAll0 (pyDs ds) = true ∧ PyData.depthAll (pyDs ds) ≤ n
  | n, [], _ => ⟨rfl, Nat.zero_le _⟩
  | n, d :: ds, h => by
    rw [okDs, Bool.and_eq_true] at h
    obtain ⟨h1, h2⟩ := py_ok h.1
    obtain ⟨h3, h4⟩ := py_oks h.2
    refine ⟨by simp only [pyDs, PyData.canLayAll0, h1, h3]; rfl, by simp only [pyDs, PyData.depthAll]; omega⟩
end
mutual
theorem py_eq : ∀ {n m : Nat} {d e : D}, okD n d = true → okD m e = true → PyData.eqv (pyD d) (pyD e) = eqB d e := by
  intro n m d e h1 h2
  cases d <;> cases e <;> first
    | (simp only [pyD, PyData.eqv, eqB]; done)
    | (simp only [pyD, PyData.eqv, eqB]; exact S_beq _ _)
    | (exfalso; cases n <;> simp [okD] at h1; done)
    | (exfalso; cases m <;> simp [okD] at h2; done)
    | skip
  · rename_i xs ys
    cases n <;> cases m <;> first | (simp [okD] at h1; done) | (simp [okD] at h2; done) | skip
    rename_i n m
    simp only [pyD, PyData.eqv, eqB]
    exact py_eqs (n := n) (m := m) (by simpa [okD] using h1) (by simpa [okD] using h2)
  · rename_i xs ys
    cases n <;> cases m <;> first | (simp [okD] at h1; done) | (simp [okD] at h2; done) | skip
    rename_i n m
    simp only [pyD, PyData.eqv, eqB]
    exact py_eqs (n := n) (m := m) (by simpa [okD] using h1) (by simpa [okD] using h2)
theorem py_eqs : ∀ {n m : Nat} {d e : List D}, okDs n d = true → okDs m e = true → PyData.eqvAll (pyDs d) (pyDs e) = eqBs d e
  | _, _, [], [], _, _ => by simp only [pyDs, PyData.eqvAll, eqBs]
  | _, _, [], _ :: _, _, _ => by simp only [pyDs, PyData.eqvAll, eqBs]
  | _, _, _ :: _, [], _, _ => by simp only [pyDs, PyData.eqvAll, eqBs]
  | n, m, x :: xs, y :: ys, h1, h2 => by
    rw [okDs, Bool.and_eq_true] at h1 h2
    simp only [pyDs, PyData.eqvAll, eqBs]
    rw [py_eq h1.1 h2.1, py_eqs h1.2 h2.2]
end
def eqD (d e : D) : Option D := if okD 60 d = true ∧ okD 60 e = true then some (.bl (eqB d e)) else none
def neD (d e : D) : Option D := if okD 60 d = true ∧ okD 60 e = true then some (.bl (!eqB d e)) else none
theorem shaped_of {d : D} (h : okD 60 d = true) : SeqAt.shaped (pyD d) = true := by
  obtain ⟨h1, h2⟩ := py_ok h
  unfold SeqAt.shaped
  rw [h1]
  exact decide_eq_true (by omega)
theorem b_eq : BinR X (rEqD X.K) eqD := by
  intro G H x y d e z Q ex rx ry h q
  obtain ⟨⟨h1, h2⟩, rfl⟩ := ite_inv h
  refine ⟨_, _, py_rep h1 (rx.mono ex), py_rep h2 (ry.mono ex), shaped_of h1, shaped_of h2, ?_⟩
  rw [py_eq h1 h2]
  exact q _ G H (Fr.refl ex) (.bl _)
theorem b_ne : BinR X (rNeD X.K) neD := by
  intro G H x y d e z Q ex rx ry h q
  obtain ⟨⟨h1, h2⟩, rfl⟩ := ite_inv h
  refine ⟨_, _, py_rep h1 (rx.mono ex), py_rep h2 (ry.mono ex), shaped_of h1, shaped_of h2, ?_⟩
  rw [py_eq h1 h2]
  exact q _ G H (Fr.refl ex) (.bl _)
end
end Tk
namespace Tk
open PySem PySem.Spec PyProof.Rows L2 SX

section
variable {X : Cx} {Xs : List XC} {W : WX} {e a b c o : Expr} {es : List Expr} {pos p apos cpos : Pos} {st : Stmt}
/-! ### what is never reached -/
theorem ss_bot : SS X Xs W st (fun _ => none) := ⟨fun pins s σ H D I ⟨B, G, ρ, r, _, h, _⟩ => nomatch h⟩
theorem se_bot : SE X Xs W e (fun _ => none) := ⟨fun pins s σ H Q I ⟨B, G, ρ, _, r, h, _⟩ => nomatch h⟩
theorem so_bot : SO X Xs W e (fun _ => none) := ⟨fun pins s σ H Q I ⟨B, G, ρ, _, r, h, _⟩ => nomatch h⟩

/-! ### in -/
def flatD : D → Bool
  | .non => true
  | .bl _ => true
  | .int _ => true
  | .str _ => true
  | _ => false
theorem flat_rep {K : PySem.W.Frag} {G G' : Hp} {v : V} {d : D} (f : flatD d = true) (r : Rep K G v d) : Rep K G' v d := by
  cases r <;> first | exact .non | exact .bl _ | exact .int _ | exact .str _ | cases f
theorem flat_v {K : PySem.W.Frag} {G : Hp} {v : V} {d : D} (f : flatD d = true) (r : Rep K G v d) : flatV v = true := by
  cases r <;> first | rfl | cases f
theorem flat_eq {K : PySem.W.Frag} {G : Hp} {v w : V} {d e : D} (f : flatD d = true) (g : flatD e = true) (r : Rep K G v d) (s : Rep K G w e) : eqV v w = eqB d e := by
  cases r <;> first | (cases f; done) | skip
  all_goals (cases s <;> first | (cases g; done) | skip)
  all_goals first | (simp only [eqV, eqB]; done) | (simp only [eqV, eqB]; exact S_beq _ _)
theorem flat_vs {K : PySem.W.Frag} {G : Hp} : ∀ {vs : List V} {ds : List D}, ds.all flatD = true → Reps K G vs ds → vs.all flatV = true
  | _, _, _, .nil => rfl
  | _, _, f, .cons a r => by
    rw [List.all_cons, Bool.and_eq_true] at f
    rw [List.all_cons, flat_v f.1 a, flat_vs f.2 r]; rfl
theorem flat_any {K : PySem.W.Frag} {G : Hp} {v : V} {d : D} (fd : flatD d = true) (r : Rep K G v d) : ∀ {vs : List V} {ds : List D}, ds.all flatD = true → Reps K G vs ds → inV v vs = ds.any fun y => eqB y d
  | _, _, _, .nil => rfl
  | _, _, f, .cons a t => by
    rw [List.all_cons, Bool.and_eq_true] at f
    have ih := flat_any fd r f.2 t
    unfold inV at ih ⊢
    rw [List.any_cons, List.any_cons, flat_eq f.1 fd a r, ih]
def inD (neg : Bool) : D → D → Option D
  | .str [c], .str s => some (.bl (if neg then !decide (c ∈ s) else decide (c ∈ s)))
  | d, .lst xs => if flatD d = true ∧ xs.all flatD = true then some (.bl (if neg then !(xs.any fun y => eqB y d) else xs.any fun y => eqB y d)) else none
  | d, .tup xs => if flatD d = true ∧ xs.all flatD = true then some (.bl (if neg then !(xs.any fun y => eqB y d) else xs.any fun y => eqB y d)) else none
  | _, _ => none
abbrev rSign (neg : Bool) : R2 := fun x y H Q => ∃ (c : Nat) (z : Str), x = .str ⟨#[c]⟩ ∧ y = .str z ∧ Q (.bl (if neg then !decide (c ∈ z.cps.toList) else decide (c ∈ z.cps.toList))) H
abbrev rInX (K : PySem.W.Frag) (neg : Bool) : R2 := fun x y H Q => rSign neg x y H Q ∨ rIn K neg x y H Q
theorem op_inX : OpR X (compareOp .In) (rInX X.K false) := OpR.or (by intro pins s σ H x y v u Q I rx ry h; exact op_in_sign pins s σ H x y v u Q I rx ry h) op_in_seq
theorem op_notInX : OpR X (compareOp .NotIn) (rInX X.K true) := OpR.or (by intro pins s σ H x y v u Q I rx ry h; exact op_notIn_sign pins s σ H x y v u Q I rx ry h) op_notIn_seq
theorem b_in (neg : Bool) : BinR X (rInX X.K neg) (inD neg) := by
  intro G H x y d e z Q ex rx ry h q
  unfold inD at h
  split at h
  · cases h
    cases rx; cases ry
    exact .inl ⟨_, _, rfl, rfl, q _ G H (Fr.refl ex) (.bl _)⟩
  · rename_i xs
    obtain ⟨⟨h1, h2⟩, rfl⟩ := ite_inv h
    cases ry with
    | lst ha rs =>
      refine .inr ⟨_, _, rfl, .inl (ex.sl (.inl (.inl ha))), flat_v h1 rx, flat_vs h2 rs, ?_⟩
      rw [flat_any h1 rx h2 rs]
      exact q _ G H (Fr.refl ex) (.bl _)
  · rename_i xs
    obtain ⟨⟨h1, h2⟩, rfl⟩ := ite_inv h
    cases ry with
    | tup ha rs =>
      refine .inr ⟨_, _, rfl, .inr (ex.st ha.sq), flat_v h1 rx, flat_vs h2 rs, ?_⟩
      rw [flat_any h1 rx h2 rs]
      exact q _ G H (Fr.refl ex) (.bl _)
  · cases h

/-! ### unary minus -/
def negD : D → Option D | .int i => some (.int (-i)) | _ => none
theorem se_neg {m : M D} (ha : SE X Xs W a m) : SE X Xs W (.UnaryOp .USub a pos) (mU negD m) := by
  refine pe_imp (pe_un un_neg ha) fun σ H Q ⟨B, G, ρ, s, h⟩ => ?_
  refine r1.bind (Rl := RlE X.K) s h fun x H1 d G1 ρ1 s1 e1 rx h1 => ?_
  obtain ⟨z, hz, q⟩ := h1.lifted
  cases rx <;> first | (cases hz; done) | skip
  cases hz
  exact ⟨_, rfl, q _ G1 H1 s1 (Ex.refl _) (.int _)⟩

/-! ### subscripts -/
def ixD : D → D → Option D
  | .lst xs, .int i => (ixN xs.length i).bind fun k => xs[k]?
  | .tup xs, .int i => (ixN xs.length i).bind fun k => xs[k]?
  | .scr ns, .int i => ((ixN ns.length i).bind fun k => ns[k]?).map .int
  | .str s, .int i => if s.length ≤ sizeLine then ((ixN s.length i).bind fun k => s[k]?).map fun c => .str [c] else none
  | _, _ => none
theorem atI_eq {α : Type} (xs : List α) (i : Int) : atI xs i = (ixN xs.length i).bind fun k => xs[k]? := by
  unfold atI
  cases ixN xs.length i <;> rfl
theorem reps_at {K : PySem.W.Frag} {G : Hp} {vs : List V} {ds : List D} (r : Reps K G vs ds) {i : Int} {z : D} (h : ((ixN ds.length i).bind fun k => ds[k]?) = some z) : ∃ v, atI vs i = some v ∧ Rep K G v z := by
  rw [atI_eq, r.length]
  cases e : ixN ds.length i with
  | none => rw [e] at h; cases h
  | some k =>
    rw [e] at h
    exact r.get h
theorem se_ix {m n : M D} (ha : SE X Xs W a m) (hb : SE X Xs W b n) (hs : PlainIx b) : SE X Xs W (.Subscript a b pos) (mB ixD m n) := by
  refine pe_imp (pe_ix ix_seq ha hb hs) fun σ H Q ⟨B, G, ρ, s, h⟩ => ?_
  refine r1.bind (Rl := RlE X.K) s h fun x H1 d G1 ρ1 s1 e1 rx h1 => ?_
  refine r1.bind (Rl := RlE X.K) s1 h1 fun y H2 d2 G2 ρ2 s2 e2 ry h2 => ?_
  obtain ⟨z, hz, q⟩ := h2.lifted
  have rx := rx.mono e2
  cases ry <;> (cases rx <;> first | (cases hz; done) | skip)
  · rename_i i t
    have hz : (if t.length ≤ sizeLine then ((ixN t.length i).bind fun k => t[k]?).map fun c => D.str [c] else none) = some z := hz
    have hl : t.length ≤ sizeLine := by
      by_cases hc : t.length ≤ sizeLine
      · exact hc
      · rw [if_neg hc] at hz; cases hz
    rw [if_pos hl] at hz
    obtain ⟨c, h1, rfl⟩ := map_inv hz
    refine .inr (.inr ⟨_, _, c, rfl, rfl, by simpa [Str.length] using hl, ?_, q (.str ⟨#[c]⟩) G2 H2 s2 (Ex.refl _) (.str [c])⟩)
    rw [atI_eq]
    simpa using h1
  · rename_i i a vs ds ha rs
    obtain ⟨v, h1, h2⟩ := reps_at rs hz
    exact .inl ⟨_, _, _, _, rfl, rfl, s2.ex.sl (.inl (.inl ha)), h1, q _ G2 H2 s2 (Ex.refl _) h2⟩
  · rename_i i a ns hs
    obtain ⟨n, h1, rfl⟩ := map_inv hz
    refine .inl ⟨_, _, _, _, rfl, rfl, s2.ex.sl hs, ?_, q (.int n) G2 H2 s2 (Ex.refl _) (.int n)⟩
    rw [atI_eq, List.length_map]
    cases e : ixN ns.length i with
    | none => rw [e] at h1; cases h1
    | some k =>
      rw [e] at h1
      show (ns.map V.int)[k]? = _
      rw [List.getElem?_map, show ns[k]? = some n from h1]; rfl
  · rename_i i a vs ds rs ha
    obtain ⟨v, h1, h2⟩ := reps_at ha hz
    exact .inr (.inl ⟨_, _, _, _, rfl, rfl, s2.ex.st rs.sq, h1, q _ G2 H2 s2 (Ex.refl _) h2⟩)
end
end Tk
namespace Tk
open PySem PySem.Spec PyProof.Rows L2 SX

section
variable {X : Cx} {Xs : List XC} {W : WX} {e a b c o : Expr} {es : List Expr} {pos p apos cpos p2 : Pos} {st : Stmt}
/-! ### slices -/
/-- lo:hi of n items -/
def cutN {α : Type} (xs : List α) (lo hi : Option Int) : List α := (xs.drop (HT.sIx xs.length 0 lo)).take (HT.sIx xs.length xs.length hi - HT.sIx xs.length 0 lo)
def cutD (x : D) (lo hi : Option Int) : Option D := match x with
  | .str s => if s.length ≤ sizeLine then some (.str (cutN s lo hi)) else none
  | .lst xs => some (.lst (cutN xs lo hi))
  | _ => none
abbrev rSlX (K : PySem.W.Frag) : V → Option Int → Option Int → Hp → VK → Prop := fun x lo hi H Q => rSlS x lo hi H Q ∨ rSlL K x lo hi H Q
theorem sl_X : SlR X (rSlX X.K) := sl_str.or sl_list
theorem sl_do {K : PySem.W.Frag} {G H : Hp} {x : V} {d z : D} {lo hi : Option Int} {Q : VK} (ex : Ex G H) (rx : Rep K G x d) (h : cutD d lo hi = some z) (q : ∀ v G' H', Fr [] G H G' H' → Rep K G' v z → Q v H') : rSlX K x lo hi H Q := by
  cases rx <;> first | (cases h; done) | skip
  · rename_i s
    obtain ⟨hl, rfl⟩ := ite_inv h
    refine .inl ⟨_, rfl, by simpa [Str.length] using hl, ?_⟩
    have : cutS ⟨s.toArray⟩ lo hi = ⟨(cutN s lo hi).toArray⟩ := by
      unfold cutS cutN
      simp [Str.length]
    rw [this]
    exact q _ G H (Fr.refl ex) (.str _)
  · rename_i a vs ds ha rs
    cases h
    refine .inr ⟨a, vs, rfl, ex.sl (.inl (.inl ha)), fun p hp => ?_⟩
    have f := Fr.alloc (o := .lst (cutV vs lo hi)) ex hp
    refine q _ _ _ f (.lst upd_same (Reps.mono f.g ?_))
    unfold cutV cutN
    rw [rs.length]
    exact (rs.drop _).take _
/-- a part of a slice -/
def mPart (m : M D) : M (Option Int) := m.bnd fun d => match d with
  | .int i => M.ret (some i)
  | _ => lift none
def mNoPart : M (Option Int) := M.ret none
abbrev RlP : RL (Option Int) (Option Int) := fun _ _ v d => v = d
def SP (X : Cx) (Xs : List XC) (W : WX) (e : Option Expr) (m : M (Option Int)) : Prop := PO X e (rX X.K Xs W RlP m)
theorem po_imp {eo : Option Expr} {t t' : TO} (h : PO X eo t) (f : ∀ σ H Q, t' σ H Q → t σ H Q) : PO X eo t' := ⟨fun pins s σ H Q I q => h.run pins s σ H Q I (f σ H Q q)⟩
theorem sp_none : SP X Xs W none mNoPart := po_imp po_none fun σ H Q ⟨B, G, ρ, s, h⟩ => h.reted none G H s (Ex.refl _) rfl
theorem sp_some {m : M D} (h : SE X Xs W e m) : SP X Xs W (some e) (mPart m) := by
  refine po_imp (po_some h) fun σ H Q ⟨B, G, ρ, s, h⟩ => ?_
  refine r1.bind (Rl := RlE X.K) s h fun x H1 d G1 ρ1 s1 e1 rx h1 => ?_
  cases d <;> first
    | (obtain ⟨z, hz, _⟩ := h1.lifted; cases hz; done)
    | (cases rx; exact ⟨_, rfl, h1.reted _ G1 H1 s1 (Ex.refl _) rfl⟩)
def mSl (m : M D) (ml mh : M (Option Int)) : M D := m.bnd fun x => ml.bnd fun lo => mh.bnd fun hi => lift (cutD x lo hi)
theorem se_sl {lo hi : Option Expr} {m : M D} {ml mh : M (Option Int)} (ha : SE X Xs W a m) (hl : SP X Xs W lo ml) (hh : SP X Xs W hi mh) : SE X Xs W (.Subscript a (.Slice lo hi none p2) pos) (mSl m ml mh) := by
  refine pe_imp (pe_slice sl_X ha hl hh) fun σ H Q ⟨B, G, ρ, s, h⟩ => ?_
  refine r1.bind (Rl := RlE X.K) s h fun x H1 d G1 ρ1 s1 e1 rx h1 => ?_
  refine r1.bind (Rl := RlP) s1 h1 fun l H2 l2 G2 ρ2 s2 e2 rl h2 => ?_
  refine r1.bind (Rl := RlP) s2 h2 fun u H3 u2 G3 ρ3 s3 e3 ru h3 => ?_
  cases rl; cases ru
  obtain ⟨z, hz, q⟩ := h3.lifted
  exact sl_do s3.ex ((rx.mono e2).mono e3) hz fun v G' H' fr rv => q v G' H' (s3.step fr) fr.g rv

/-! ### x[::-1] -/
theorem pe_revS {te : TE} {k : Nat} {p1 p2 p3 pos : Pos} (he : PE X e te) : PE X (.Subscript e (.Slice none none (some (.UnaryOp .USub (.Constant (.int 1) k p1) p2)) p3) pos)
    (fun σ H Q => te σ H fun x H1 => ∃ l : List Nat, x = .str ⟨l.toArray⟩ ∧ l.length ≤ sizeLine ∧ Q (.str ⟨l.reverse.toArray⟩) H1) := by
  constructor
  intro pins s σ H Q I h
  apply Subscript_
  refine thn (he.run pins s σ H _ I h) ?_
  rintro v s1 ⟨x, H1, I1, r1, l, rfl, hl, q⟩
  obtain ⟨t, rfl⟩ := r1
  have step : PO X (some (.UnaryOp .USub (.Constant (.int 1) k p1) p2)) (tPart (tUn (rU fun i => .int (-i)) (tC (.int 1)))) := po_some (pe_un un_neg pe_int)
  apply wpAny_Slice
  refine thn (po_none.run pins s1 σ H1 (fun u H2 => u = none ∧ H2 = H1) I1 ⟨rfl, rfl⟩) ?_
  rintro vl s2 ⟨_, H2, I2, pl, rfl, rfl⟩
  refine thn (po_none.run pins s2 σ H2 (fun u H3 => u = none ∧ H3 = H2) I2 ⟨rfl, rfl⟩) ?_
  rintro vu s3 ⟨_, H3, I3, pu, rfl, rfl⟩
  refine thn (step.run pins s3 σ H3 (fun u H4 => u = some (-1) ∧ H4 = H3) I3 ⟨1, rfl, -1, rfl, rfl, rfl⟩) ?_
  rintro vs s4 ⟨_, H4, I4, ps, rfl, rfl⟩
  obtain ⟨l1, rfl, e1⟩ := IsPart.raw pl
  obtain ⟨u1, rfl, e2⟩ := IsPart.raw pu
  obtain ⟨w1, rfl, e3⟩ := IsPart.raw ps
  have hl1 : l1 = none := by cases l1 <;> simp_all
  have hu1 : u1 = none := by cases u1 <;> simp_all
  obtain ⟨t3, rfl⟩ : ∃ t3, w1 = some (-1, t3) := by
    cases w1 with
    | none => simp at e3
    | some w => obtain ⟨i, t3⟩ := w; simp at e3; subst e3; exact ⟨t3, rfl⟩
  subst hl1 hu1
  have I5 : Inv X pins σ H4 { s4 with heap := s4.heap.push { cls := .type "slice", data := .fields #[partValue none, partValue none, partValue (some (-1, t3))] } } := I4.kept (t' := s4.toks) fun b ob q => Heap.get?_push_of_some _ q
  refine tail_any (ops := [.str ⟨l.toArray⟩ t, .ref s4.heap.objs.size]) (typeIs_str _ _ t) F.slot_str_getitem.lookup ?_ (by with_unfolding_all rfl)
  refine wpAny_getItem_str_slice (l := none) (u := none) (st := some (-1, t3)) (Heap.IsSliceOf.new _ _ _ _) rfl ?_
  have pick : (slicePicked ⟨l.toArray⟩ none none (some (-1, t3))).filterMap ((⟨l.toArray⟩ : Str).cps[·]?) = l.reverse := by
    show ((sliceRange ((l.toArray.size : Int) - 1) (-1) (-1)).filterMap (l.toArray[·]?)) = _
    rw [PySem.W.krv_sliceRange]
    rw [PySem.W.krv_range, List.filterMap_reverse, PySem.W.krv_all]
  have e4 : sliceMade ⟨l.toArray⟩ t none none (some (-1, t3)) = .str ⟨l.reverse.toArray⟩ := by
    unfold sliceMade
    rw [pick]
    rfl
  rw [e4]
  exact ⟨by simpa [Str.length] using hl, .str ⟨l.reverse.toArray⟩, H4, I5.tok _, ⟨_, rfl⟩, q⟩
def revD : D → Option D
  | .str s => if s.length ≤ sizeLine then some (.str s.reverse) else none
  | _ => none
theorem se_revS {m : M D} {k : Nat} {p1 p2 p3 pos : Pos} (ha : SE X Xs W a m) : SE X Xs W (.Subscript a (.Slice none none (some (.UnaryOp .USub (.Constant (.int 1) k p1) p2)) p3) pos) (mU revD m) := by
  refine pe_imp (pe_revS ha) fun σ H Q ⟨B, G, ρ, s, h⟩ => ?_
  refine r1.bind (Rl := RlE X.K) s h fun x H1 d G1 ρ1 s1 e1 rx h1 => ?_
  obtain ⟨z, hz, q⟩ := h1.lifted
  cases rx <;> first | (cases hz; done) | skip
  rename_i l
  obtain ⟨hl, rfl⟩ := ite_inv hz
  exact ⟨l, rfl, hl, q _ G1 H1 s1 (Ex.refl _) (.str _)⟩
def revL : D → Option D
  | .lst xs => some (.lst xs.reverse)
  | _ => none
theorem Reps.reverse {K : PySem.W.Frag} {G : Hp} : ∀ {vs : List V} {ds : List D}, Reps K G vs ds → Reps K G vs.reverse ds.reverse
  | _, _, .nil => .nil
  | _, _, .cons a r => by rw [List.reverse_cons, List.reverse_cons]; exact (Reps.reverse r).append (.cons a .nil)
theorem se_revL {m : M D} {k : Nat} {p1 p2 p3 pos : Pos} (ha : SE X Xs W a m) : SE X Xs W (.Subscript a (.Slice none none (some (.UnaryOp .USub (.Constant (.int 1) k p1) p2)) p3) pos) (mU revL m) := by
  refine pe_imp (pe_revL ha) fun σ H Q ⟨B, G, ρ, s, h⟩ => ?_
  refine r1.bind (Rl := RlE X.K) s h fun x H1 d G1 ρ1 s1 e1 rx h1 => ?_
  obtain ⟨z, hz, q⟩ := h1.lifted
  cases rx <;> first | (cases hz; done) | skip
  rename_i a vs ds ha rs
  cases hz
  refine ⟨a, vs, rfl, s1.ex.sl (.inl (.inl ha)), fun p hp => ?_⟩
  have f := Fr.alloc (o := .lst vs.reverse) s1.ex hp
  exact q _ _ _ (s1.step f) f.g (.lst upd_same (Reps.mono f.g (Reps.reverse rs)))

/-! ### what is built in, by values -/
def lenD : List D → Option D
  | [.lst xs] => some (.int xs.length)
  | [.tup xs] => some (.int xs.length)
  | [.scr xs] => some (.int xs.length)
  | [.str s] => if s.length ≤ sizeLine then some (.int s.length) else none
  | _ => none
abbrev rLenX (K : PySem.W.Frag) : List V → Hp → VK → Prop := fun xs H Q => (∃ p ys, xs = [.ref p] ∧ (SqL K H p ys ∨ SqT K H p ys) ∧ Q (.int ys.length) H) ∨ (∃ z, xs = [.str z] ∧ z.length ≤ sizeLine ∧ Q (.int z.length) H)
theorem k_len : CallR X (.builtin "len") (rLenX X.K) := call_len_seq.or call_len_str
theorem Reps.one {K : PySem.W.Frag} {G : Hp} {vs : List V} {d : D} (r : Reps K G vs [d]) : ∃ v, vs = [v] ∧ Rep K G v d := by
  cases r with | cons a t => cases t; exact ⟨_, rfl, a⟩
theorem Reps.two {K : PySem.W.Frag} {G : Hp} {vs : List V} {d e : D} (r : Reps K G vs [d, e]) : ∃ v w, vs = [v, w] ∧ Rep K G v d ∧ Rep K G w e := by
  cases r with | cons a t => cases t with | cons b t => cases t; exact ⟨_, _, rfl, a, b⟩
theorem f_len : CalR X (rLenX X.K) lenD := by
  intro G H xs ds z Q ex rs h q
  unfold lenD at h
  split at h
  · cases h; obtain ⟨v, rfl, r⟩ := rs.one
    cases r with | lst ha r => exact .inl ⟨_, _, rfl, .inl (ex.sl (.inl (.inl ha))), by rw [r.length]; exact q _ G H (Fr.refl ex) (.int _)⟩
  · cases h; obtain ⟨v, rfl, r⟩ := rs.one
    cases r with | tup ha r => exact .inl ⟨_, _, rfl, .inr (ex.st ha.sq), by rw [r.length]; exact q _ G H (Fr.refl ex) (.int _)⟩
  · cases h; obtain ⟨v, rfl, r⟩ := rs.one
    cases r with | scr hs => exact .inl ⟨_, _, rfl, .inl (ex.sl hs), by rw [List.length_map]; exact q _ G H (Fr.refl ex) (.int _)⟩
  · obtain ⟨hl, rfl⟩ := ite_inv h; obtain ⟨v, rfl, r⟩ := rs.one
    cases r
    refine .inr ⟨_, rfl, by simpa [Str.length] using hl, ?_⟩
    have := q _ G H (Fr.refl ex) (.int _)
    simpa [Str.length] using this
  · cases h
def int1 : List D → Option D
  | [.int i] => some (.int i)
  | [.bl k] => some (.int (if k then 1 else 0))
  | _ => none
theorem f_int1 : CalR X (fun xs H Q => (∃ i, xs = [.int i] ∧ Q (.int i) H) ∨ ∃ k, xs = [.bl k] ∧ Q (.int (if k then 1 else 0)) H) int1 := by
  intro G H xs ds z Q ex rs h q
  unfold int1 at h
  split at h
  · cases h; obtain ⟨v, rfl, r⟩ := rs.one; cases r; exact .inl ⟨_, rfl, q _ G H (Fr.refl ex) (.int _)⟩
  · cases h; obtain ⟨v, rfl, r⟩ := rs.one; cases r; exact .inr ⟨_, rfl, q _ G H (Fr.refl ex) (.int _)⟩
  · cases h
def abs1 : List D → Option D
  | [.int i] => some (.int (if i < 0 then -i else i))
  | _ => none
theorem f_abs1 : CalR X (fun xs H Q => ∃ i, xs = [.int i] ∧ Q (.int (if i < 0 then -i else i)) H) abs1 := by
  intro G H xs ds z Q ex rs h q
  unfold abs1 at h
  split at h
  · cases h; obtain ⟨v, rfl, r⟩ := rs.one; cases r; exact ⟨_, rfl, q _ G H (Fr.refl ex) (.int _)⟩
  · cases h
def max2 : List D → Option D
  | [.int i, .int j] => some (.int (if j > i then j else i))
  | _ => none
theorem f_max2 : CalR X (fun xs H Q => ∃ i j, xs = [.int i, .int j] ∧ Q (.int (if j > i then j else i)) H) max2 := by
  intro G H xs ds z Q ex rs h q
  unfold max2 at h
  split at h
  · cases h; obtain ⟨v, w, rfl, r, r2⟩ := rs.two; cases r; cases r2; exact ⟨_, _, rfl, q _ G H (Fr.refl ex) (.int _)⟩
  · cases h
def min2 : List D → Option D
  | [.int i, .int j] => some (.int (if j < i then j else i))
  | _ => none
theorem f_min2 : CalR X (fun xs H Q => ∃ i j, xs = [.int i, .int j] ∧ Q (.int (if j < i then j else i)) H) min2 := by
  intro G H xs ds z Q ex rs h q
  unfold min2 at h
  split at h
  · cases h; obtain ⟨v, w, rfl, r, r2⟩ := rs.two; cases r; cases r2; exact ⟨_, _, rfl, q _ G H (Fr.refl ex) (.int _)⟩
  · cases h
/-- the truths of a list of truths -/
def blsOf : List D → Option (List Bool)
  | [] => some []
  | .bl b :: r => (blsOf r).map (b :: ·)
  | _ :: _ => none
theorem blsOf_map : ∀ {ds : List D} {bs : List Bool}, blsOf ds = some bs → ds = bs.map D.bl
  | [], _, h => by cases h; rfl
  | d :: r, bs, h => by
    cases d <;> first | (cases h; done) | skip
    obtain ⟨cs, h1, rfl⟩ := map_inv h
    rw [blsOf_map h1]; rfl
def allD : List D → Option D
  | [.lst xs] => (blsOf xs).map fun bs => .bl (bs.all id)
  | _ => none
def anyD : List D → Option D
  | [.lst xs] => (blsOf xs).map fun bs => .bl (bs.any id)
  | _ => none
theorem f_all : CalR X (rAll X.K) allD := by
  intro G H xs ds z Q ex rs h q
  unfold allD at h
  split at h
  · obtain ⟨bs, h1, rfl⟩ := map_inv h
    obtain ⟨v, rfl, r⟩ := rs.one
    cases r with | lst ha r =>
    rw [blsOf_map h1] at r
    have := r.bls
    subst this
    exact ⟨_, bs, rfl, ex.sl (.inl (.inl ha)), q _ G H (Fr.refl ex) (.bl _)⟩
  · cases h
theorem f_any : CalR X (rAny X.K) anyD := by
  intro G H xs ds z Q ex rs h q
  unfold anyD at h
  split at h
  · obtain ⟨bs, h1, rfl⟩ := map_inv h
    obtain ⟨v, rfl, r⟩ := rs.one
    cases r with | lst ha r =>
    rw [blsOf_map h1] at r
    have := r.bls
    subst this
    exact ⟨_, bs, rfl, ex.sl (.inl (.inl ha)), q _ G H (Fr.refl ex) (.bl _)⟩
  · cases h
def listD : List D → Option D
  | [.lst xs] => some (.lst xs)
  | [.tup xs] => some (.lst xs)
  | _ => none
theorem f_list : CalR X (fun xs H Q => ∃ p ys, xs = [.ref p] ∧ (SqL X.K H p ys ∨ SqT X.K H p ys) ∧ ∀ l, H l = none → Q (.ref l) (upd H l (.lst ys))) listD := by
  intro G H xs ds z Q ex rs h q
  unfold listD at h
  split at h
  · cases h; obtain ⟨v, rfl, r⟩ := rs.one
    cases r with | lst ha r =>
    refine ⟨_, _, rfl, .inl (ex.sl (.inl (.inl ha))), fun l hl => ?_⟩
    exact q _ _ _ (Fr.alloc ex hl) (.lst upd_same (r.mono (Fr.alloc ex hl).g))
  · cases h; obtain ⟨v, rfl, r⟩ := rs.one
    cases r with | tup ha r =>
    refine ⟨_, _, rfl, .inr (ex.st ha.sq), fun l hl => ?_⟩
    exact q _ _ _ (Fr.alloc ex hl) (.lst upd_same (r.mono (Fr.alloc ex hl).g))
  · cases h
def tupleD : List D → Option D
  | [.lst xs] => some (.tup xs)
  | [.tup xs] => some (.tup xs)
  | _ => none
theorem f_tuple : CalR X (fun xs H Q => ∃ p ys, xs = [.ref p] ∧ ((SqL X.K H p ys ∧ ∀ l o, H l = none → o.dict = none → Q (.ref l) (upd H l (.frz o (.tup ys)))) ∨ (SqT X.K H p ys ∧ Q (.ref p) H))) tupleD := by
  intro G H xs ds z Q ex rs h q
  unfold tupleD at h
  split at h
  · cases h; obtain ⟨v, rfl, r⟩ := rs.one
    cases r with | lst ha r =>
    refine ⟨_, _, rfl, .inl ⟨ex.sl (.inl (.inl ha)), fun l o hl ho => ?_⟩⟩
    exact q _ _ _ (Fr.alloc ex hl) (.tup (.inl ⟨o, upd_same, ho⟩) (r.mono (Fr.alloc ex hl).g))
  · cases h; obtain ⟨v, rfl, r⟩ := rs.one
    cases r with | tup ha r => exact ⟨_, _, rfl, .inr ⟨ex.st ha.sq, q _ G H (Fr.refl ex) (.tup ha r)⟩⟩
  · cases h
end
end Tk
namespace Tk
open PySem PySem.Spec PyProof.Rows L2 SX

section
variable {X : Cx} {Xs : List XC} {W : WX} {e a b c o : Expr} {es : List Expr} {pos p apos cpos p2 : Pos} {st : Stmt} {x : Str}
/-! ### isinstance -/
inductive Ty where | str | int | list | tuple | bool | dict | float | none
  deriving DecidableEq
def Ty.nm : Ty → String | .str => "str" | .int => "int" | .list => "list" | .tuple => "tuple" | .bool => "bool" | .dict => "dict" | .float => "float" | .none => "NoneType"
def tyD : D → Ty | .non => .none | .bl _ => .bool | .int _ => .int | .str _ => .str | .lst _ => .list | .tup _ => .tuple | .dic _ => .dict | .scr _ => .list
def subTy (a b : Ty) : Bool := decide (a = b) || (decide (a = .bool) && decide (b = .int))
theorem sub_ok : ∀ a b : Ty, kitB a.nm b.nm = some (subTy a b) := by
  intro a b
  cases a <;> cases b <;> decide +kernel
theorem ty_rep {G H : Hp} {v : V} {d : D} (ex : Ex G H) (r : Rep X.K G v d) : TyX X.K H v (.type (tyD d).nm) := by
  cases r with
  | non => exact .base .non
  | bl b => exact .base (.bl b)
  | int i => exact .base (.int i)
  | str s => exact .base (.str _)
  | lst ha _ => exact .base (.lst (ex _ _ ha))
  | scr hs =>
    rcases ex.sl hs with h | ⟨o, _, _, hk, hc, _⟩
    · rcases h with h | ⟨o, h⟩
      · exact .base (.lst h)
      · exact .base (.frz h)
    · exact .kList hk hc
  | tup hs _ =>
    rcases ex.st hs.sq with h | ⟨o, _, _, hk, hc, _⟩
    · rcases h with h | ⟨o, h⟩
      · exact .base (.tup h)
      · exact .fTuple h
    · exact .kTuple hk hc
  | dic ha _ => exact .base (.dK (ex _ _ ha))
def mIsi (T : Ty) (m : M D) : M D := mU (fun d => some (.bl (subTy (tyD d) T))) m
theorem se_isi {t : Str} {m : M D} (T : Ty) (hg : Gl X "isinstance") (hm : X.mg "isinstance" = none) (hgt : Gl X t) (hmt : X.mg t = none) (hv : bootBuiltins t = some (.type T.nm)) (ha : SE X Xs W a m)
    (hnt : t ≠ "__name__" := by decide) (hdt : (t == ("__debug__" : Str)) = false := by decide)
    (he : starEach [a, .Name t p2] X.env = (false, eval a X.env) :: starEach [.Name t p2] X.env := by rfl) (he2 : starEach [.Name t p2] X.env = (false, eval (.Name t p2) X.env) :: starEach [] X.env := by rfl) (hpl : (backTo pos (starEach [.Name t p2] X.env)).any (·.1) = false := by rfl) :
    SE X Xs W (.Call (.Name "isinstance" p) [a, .Name t p2] [] pos) (mIsi T m) := by
  refine pe_imp (pe_callB call_isi hg hm (by decide) (pa_cons ha (pa_cons (pe_bltn (v := .ty T.nm) hgt hmt hv rfl hnt hdt) pa_nil he2) he) (by decide) (by decide) he hpl) fun σ H Q ⟨B, G, ρ, s, h⟩ => ?_
  refine r1.bind (Rl := RlE X.K) s h fun x H1 d G1 ρ1 s1 e1 rx h1 => ?_
  obtain ⟨z, hz, q⟩ := h1.lifted
  cases hz
  exact ⟨x, .ty T.nm, .type (tyD d).nm, .type T.nm, _, rfl, .ty _, ty_rep s1.ex rx, kit_ty (sub_ok _ _), q _ G1 H1 s1 (Ex.refl _) (.bl _)⟩

/-! ### methods of texts -/
theorem se_m0 {T id : String} {name : Str} {r : V → List V → Hp → VK → Prop} {f : D → Option D} {m : M D} (pa : PlainAttrs T) (slot : Slot T name id) (hty : typeOf (.builtin id) = pure (.type "method_descriptor")) (hm : MtR X id r)
    (hf : ∀ (G H : Hp) (x : V) (d z : D) (Q : VK), Ex G H → Rep X.K G x d → f d = some z → (∀ v G' H', Fr [] G H G' H' → Rep X.K G' v z → Q v H') → tyV X.K T x H ∧ r x [] H Q) (ho : SE X Xs W o m)
    (hbase : attributeBase o name X.env (eval o X.env) = eval o X.env := by rfl) (hline : (apos.endLine == cpos.line) = true := by rfl) : SE X Xs W (.Call (.Attribute o name apos) [] [] cpos) (mU f m) := by
  refine pe_imp (pe_bm0 pa slot hty hm ho hbase hline) fun σ H Q ⟨B, G, ρ, s, h⟩ => ?_
  refine r1.bind (Rl := RlE X.K) s h fun x H1 d G1 ρ1 s1 e1 rx h1 => ?_
  obtain ⟨z, hz, q⟩ := h1.lifted
  exact hf G1 H1 x d z Q s1.ex rx hz fun v G' H' fr rv => q v G' H' (s1.step fr) fr.g rv
def upD : D → Option D | .str s => if s.all (· < 128) = true ∧ s.length ≤ 5592405 then some (.str (s.map up1)) else none | _ => none
def loD : D → Option D | .str s => if s.all (· < 128) = true ∧ s.length ≤ 5592405 then some (.str (s.map lo1)) else none | _ => none
theorem se_upper {m : M D} (ho : SE X Xs W o m) (hbase : attributeBase o "upper" X.env (eval o X.env) = eval o X.env := by rfl) (hline : (apos.endLine == cpos.line) = true := by rfl) : SE X Xs W (.Call (.Attribute o "upper" apos) [] [] cpos) (mU upD m) :=
  se_m0 F.plainAttrs_str F.slot_str_upper F.type_str_upper mt_upper (fun G H x d z Q ex rx h q => by
    cases rx <;> first | (cases h; done) | skip
    obtain ⟨⟨h1, h2⟩, rfl⟩ := ite_inv h
    refine ⟨rfl, _, rfl, rfl, by simpa [Str.length] using h2, ?_⟩
    rw [show Txt.upper _ = _ from upper_S h1]
    exact q _ G H (Fr.refl ex) (.str _)) ho hbase hline
theorem se_lower {m : M D} (ho : SE X Xs W o m) (hbase : attributeBase o "lower" X.env (eval o X.env) = eval o X.env := by rfl) (hline : (apos.endLine == cpos.line) = true := by rfl) : SE X Xs W (.Call (.Attribute o "lower" apos) [] [] cpos) (mU loD m) :=
  se_m0 F.plainAttrs_str F.slot_str_lower F.type_str_lower mt_lower (fun G H x d z Q ex rx h q => by
    cases rx <;> first | (cases h; done) | skip
    obtain ⟨⟨h1, h2⟩, rfl⟩ := ite_inv h
    refine ⟨rfl, _, rfl, rfl, by simpa [Str.length] using h2, ?_⟩
    rw [show Txt.lower _ = _ from lower_S h1]
    exact q _ G H (Fr.refl ex) (.str _)) ho hbase hline
def strsOf : List D → Option (List (List Nat))
  | [] => some []
  | .str s :: r => (strsOf r).map (s :: ·)
  | _ :: _ => none
theorem strsOf_map : ∀ {ds : List D} {bs : List (List Nat)}, strsOf ds = some bs → ds = bs.map D.str
  | [], _, h => by cases h; rfl
  | d :: r, bs, h => by
    cases d <;> first | (cases h; done) | skip
    obtain ⟨cs, h1, rfl⟩ := map_inv h
    rw [strsOf_map h1]; rfl
def joinS (a : List Nat) (ys : List (List Nat)) : Option D := if (ys.map (·.length)).sum + ys.length * a.length ≤ 16777216 then some (.str (TL.joinL a ys)) else none
def joinD : D → D → Option D
  | .str a, .lst xs => (strsOf xs).bind (joinS a)
  | .str a, .tup xs => (strsOf xs).bind (joinS a)
  | _, _ => none
def rJn (K : PySem.W.Frag) : V → List V → Hp → VK → Prop := fun x xs H Q => ∃ a p, ∃ ys : List Str, x = .str a ∧ xs = [.ref p] ∧ (SqL K H p (ys.map V.str) ∨ SqT K H p (ys.map V.str)) ∧ (ys.map (·.length)).sum + ys.length * a.length ≤ 16777216 ∧ Q (.str (Txt.join a ys)) H
theorem jn_do {K : PySem.W.Frag} {G H : Hp} {x y : V} {d e z : D} {Q : VK} (ex : Ex G H) (rx : Rep K G x d) (ry : Rep K G y e) (h : joinD d e = some z) (q : ∀ v G' H', Fr [] G H G' H' → Rep K G' v z → Q v H') : tyV K "str" x H ∧ rJn K x [y] H Q := by
  have key : ∀ (a : List Nat) (xs : List D) (vs : List V) (p : Addr), (strsOf xs).bind (joinS a) = some z → Reps K G vs xs → (SqL K H p vs ∨ SqT K H p vs) → rJn K (.str ⟨a.toArray⟩) [.ref p] H Q := by
    intro a xs vs p h r hs
    cases e1 : strsOf xs with
    | none => rw [e1] at h; cases h
    | some ys =>
      rw [e1] at h
      obtain ⟨hl, rfl⟩ := ite_inv (show (if (ys.map (·.length)).sum + ys.length * a.length ≤ 16777216 then some (D.str (TL.joinL a ys)) else none) = some z from h)
      rw [strsOf_map e1] at r
      have := r.strs
      subst this
      have em : (ys.map fun s => V.str ⟨s.toArray⟩) = (ys.map S).map V.str := by rw [List.map_map]; rfl
      rw [em] at hs
      refine ⟨_, p, ys.map S, rfl, rfl, hs, ?_, ?_⟩
      · have : (ys.map S).map (·.length) = ys.map (·.length) := by rw [List.map_map]; exact List.map_congr_left fun s _ => S_len s
        rw [this, List.length_map]
        simpa [Str.length] using hl
      · rw [show Txt.join ⟨a.toArray⟩ (ys.map S) = _ from join_S a ys]
        exact q _ G H (Fr.refl ex) (.str _)
  cases rx <;> first | (cases h; done) | skip
  refine ⟨rfl, ?_⟩
  cases ry <;> first | (cases h; done) | skip
  · rename_i ha r; exact key _ _ _ _ h r (.inl (ex.sl (.inl (.inl ha))))
  · rename_i r ha; exact key _ _ _ _ h ha (.inr (ex.st r.sq))
/-- a method with one argument -/
def mM (T : Ty) (f : D → D → Option D) (m n : M D) : M D := m.bnd fun x => if tyD x = T then n.bnd fun y => lift (f x y) else lift none
theorem se_join {m n : M D} (ho : SE X Xs W o m) (ha : SE X Xs W e n) (hbase : attributeBase o "join" X.env (eval o X.env) = eval o X.env := by rfl)
    (hfew : ((backTo cpos (starEach [e] X.env)).all (fun x => !x.1) && (backToKw cpos (keywordEach [] X.env)).all (fun x => x.1.isSome)
      && decide ([e].length + ([] : List Keyword).length + (if ([] : List Keyword).isEmpty then 0 else 1) < 30)) = true := by rfl)
    (hline : (apos.endLine == cpos.line) = true := by rfl) (hs : starEach [e] X.env = (false, eval e X.env) :: starEach [] X.env := by rfl) : SE X Xs W (.Call (.Attribute o "join" apos) [e] [] cpos) (mM .str joinD m n) := by
  refine pe_imp (pe_bm F.plainAttrs_str F.slot_str_join F.type_str_join mt_join ho (pa_cons ha pa_nil hs) hbase hfew hline hs rfl) fun σ H Q ⟨B, G, ρ, s, h⟩ => ?_
  refine r1.bind (Rl := RlE X.K) s h fun x H1 d G1 ρ1 s1 e1 rx h1 => ?_
  by_cases ht : tyD d = .str
  · rw [if_pos ht] at h1
    refine ⟨by cases rx <;> first | (cases ht; done) | rfl, ?_⟩
    refine r1.bind (Rl := RlE X.K) s1 h1 fun y H2 d2 G2 ρ2 s2 e2 ry h2 => ?_
    obtain ⟨z, hz, q⟩ := h2.lifted
    exact (jn_do s2.ex (rx.mono e2) ry hz fun v G' H' fr rv => q v G' H' (s2.step fr) fr.g rv).2
  · rw [if_neg ht] at h1
    obtain ⟨z, hz, q⟩ := h1.lifted
    cases hz

/-! ### objects of our own, read at once -/
theorem un_adopt {K : PySem.W.Frag} {G H G' H' : Hp} {a : Addr} {u : HO} (hG : G a = none) (hH : H a = some u) (f : Fr [] (upd G a u) H G' H') : ∃ G'', Fr [] G H G'' H' ∧ ∀ v z, flatD z = true → Rep K G' v z → Rep K G'' v z := by
  refine ⟨fun y => if y = a then none else G' y, ⟨fun y w h => ?_, f.h, fun y h => ?_, fun y w h => ?_, f.d⟩, fun v z hz r => flat_rep hz r⟩
  · have : y ≠ a := fun q => by rw [q, hG] at h; cases h
    show (if y = a then none else G' y) = some w
    rw [if_neg this]; exact f.g y w (by rw [upd_ne this]; exact h)
  · show (if y = a then none else G' y) = G y
    by_cases q : y = a
    · rw [if_pos q, q, hG]
    · rw [if_neg q, f.n y h, upd_ne q]
  · have h : (if y = a then none else G' y) = some w := h
    by_cases q : y = a
    · rw [if_pos q] at h; cases h
    · rw [if_neg q] at h; exact f.e y w h
theorem adopt_ex {G H : Hp} {a : Addr} {u : HO} (ex : Ex G H) (hH : H a = some u) : Ex (upd G a u) H := fun y w h => by
  by_cases q : y = a
  · subst q; rw [upd_same] at h; cases h; exact hH
  · rw [upd_ne q] at h; exact ex y w h
theorem RepO.adopt {K : PySem.W.Frag} {G : Hp} {a : Addr} {u : HO} {d : D} (hG : G a = none) (h : RepO K G u d) : Rep K (upd G a u) (.ref a) d := (h.mono (Ex.upd hG)).rep upd_same
/-- f of our own object at i and what m gives; a flat value comes -/
def kOl (i : Nat) (f : D → D → Option D) (e : D) : M D := fun ρ => match ρ[i]? with
  | some (.ow _ d) => (match f d e with
    | some z => if flatD z = true then some (.ok z ρ) else none
    | none => none)
  | _ => none
def isOw (ρ : Cs) (i : Nat) : Bool := match ρ[i]? with | some (.ow _ _) => true | _ => false
def mOl (i : Nat) (f : D → D → Option D) (m : M D) : M D := fun ρ => if isOw ρ i = true then (m.bnd (kOl i f)) ρ else none
theorem isOw_is {ρ : Cs} {i : Nat} (h : isOw ρ i = true) : isO ρ i := by
  unfold isOw at h
  split at h
  · rename_i b d e; exact ⟨b, d, e⟩
  · cases h
theorem pe_ref {y : Str} {i : Nat} (hN : X.N[i]? = some y) (hv : Vis X.env.scope y) (hd : (y == ("__debug__" : Str)) = false := by decide) (hcd : (y == ("__classdict__" : Str)) = false := by decide) : PE X (.Name y p) (tVar i) := pe_var hN hv hd hcd
theorem kOl_inv {i : Nat} {f : D → D → Option D} {e : D} {ρ : Cs} {r : R D} (h : kOl i f e ρ = some r) : ∃ b d z, ρ[i]? = some (.ow b d) ∧ f d e = some z ∧ flatD z = true ∧ r = .ok z ρ := by
  unfold kOl at h
  split at h
  · rename_i b d ed
    cases hz : f d e with
    | none => rw [hz] at h; cases h
    | some z =>
      rw [hz] at h
      dsimp only at h
      by_cases fz : flatD z = true
      · rw [if_pos fz] at h; cases h; exact ⟨b, d, z, ed, hz, fz, rfl⟩
      · rw [if_neg fz] at h; cases h
  · cases h
theorem mOl_inv {i : Nat} {f : D → D → Option D} {m : M D} {ρ : Cs} {r : R D} (h : mOl i f m ρ = some r) : isO ρ i ∧ (m.bnd (kOl i f)) ρ = some r := by
  unfold mOl at h
  by_cases hi : isOw ρ i = true
  · rw [if_pos hi] at h; exact ⟨isOw_is hi, h⟩
  · rw [if_neg hi] at h; cases h
theorem isO.at {B : Bs} {σ : L2.St} {G H : Hp} {ρ : Cs} {i : Nat} (s : SR X.K B σ G H ρ) (h : isO ρ i) : ∃ a, σ[i]? = some (some (.ref a)) := by
  obtain ⟨b, d, e⟩ := h
  obtain ⟨a, _, k, _⟩ := s.ow i b d e
  exact ⟨a, k⟩
/-- the operation over our own object at the left -/
theorem own_do {B : Bs} {σ : L2.St} {G H : Hp} {ρ : Cs} {i : Nat} {r : V → V → Hp → VK → Prop} {f : D → D → Option D} {e : D} {y : V} {a : Addr} {Q : VK} (hf : BinR X r f) (s : SR X.K B σ G H ρ) (ha : σ[i]? = some (some (.ref a))) (ry : Rep X.K G y e)
    (h : r1 X.K Xs W (RlE X.K) B G ρ (kOl i f e) σ Q) : r (.ref a) y H Q := by
  obtain ⟨r', h1, h2⟩ := h
  obtain ⟨b, d, z, ed, hz, fz, rfl⟩ := kOl_inv h1
  obtain ⟨a', u, k1, k2, k3, k4, k5⟩ := s.ow i b d ed
  rw [ha] at k1; cases k1
  refine hf (upd G a u) H (.ref a) y d e z Q (adopt_ex s.ex k4) (k5.adopt k3) (ry.mono (Ex.upd k3)) hz fun v G' H' fr rv => ?_
  obtain ⟨G'', fr', hr⟩ := un_adopt (K := X.K) k3 k4 fr
  exact h2 v G'' H' (s.step fr') fr'.g (hr v z fz rv)
/-- .. at the right -/
theorem own_do2 {B : Bs} {σ : L2.St} {G H : Hp} {ρ : Cs} {i : Nat} {r : V → V → Hp → VK → Prop} {f : D → D → Option D} {e : D} {y : V} {a : Addr} {Q : VK} (hf : BinR X r f) (s : SR X.K B σ G H ρ) (ha : σ[i]? = some (some (.ref a))) (ry : Rep X.K G y e)
    (h : r1 X.K Xs W (RlE X.K) B G ρ (kOl i (fun d e => f e d) e) σ Q) : r y (.ref a) H Q := by
  obtain ⟨r', h1, h2⟩ := h
  obtain ⟨b, d, z, ed, hz, fz, rfl⟩ := kOl_inv h1
  obtain ⟨a', u, k1, k2, k3, k4, k5⟩ := s.ow i b d ed
  rw [ha] at k1; cases k1
  refine hf (upd G a u) H y (.ref a) e d z Q (adopt_ex s.ex k4) (ry.mono (Ex.upd k3)) (k5.adopt k3) hz fun v G' H' fr rv => ?_
  obtain ⟨G'', fr', hr⟩ := un_adopt (K := X.K) k3 k4 fr
  exact h2 v G'' H' (s.step fr') fr'.g (hr v z fz rv)
/-- x op b, x our own object -/
theorem se_cmpO {op : CmpOp} {r : R2} {f : D → D → Option D} {m : M D} (i : Nat) (hN : X.N[i]? = some x) (hv : Vis X.env.scope x) (ho : OpR X (compareOp op) r) (hf : BinR X r f) (hb : SE X Xs W b m) (hm : behindInMarks op b = false) (hd : (x == ("__debug__" : Str)) = false := by decide) (hcd : (x == ("__classdict__" : Str)) = false := by decide) :
    SE X Xs W (.Compare (.Name x p) [op] [b] pos) (mOl i f m) := by
  refine pe_imp (pe_cmpR ho (pe_ref (i := i) hN hv hd hcd) hb hm) fun σ H Q ⟨B, G, ρ, s, r', h1, h2⟩ => ?_
  obtain ⟨hi, h1⟩ := mOl_inv h1
  obtain ⟨a, ha⟩ := hi.at s
  refine ⟨.ref a, ha, ?_⟩
  exact r1.bind (Rl := RlE X.K) s ⟨r', h1, h2⟩ fun y H1 d2 G1 ρ1 s1 e1 ry h => own_do hf s1 ha ry h
theorem st_cmpO {op : CmpOp} {r : R2} {f : D → D → Option D} {m : M D} (i : Nat) (hN : X.N[i]? = some x) (hv : Vis X.env.scope x) (ho : OpR X (compareOp op) r) (hf : BinR X r f) (hb : SE X Xs W b m) (hm : behindInMarks op b = false) (hd : (x == ("__debug__" : Str)) = false := by decide) (hcd : (x == ("__classdict__" : Str)) = false := by decide) :
    ST X Xs W (.Compare (.Name x p) [op] [b] pos) (tb (mOl i f m)) := by
  refine pt_imp (pt_cmpR ho (pe_ref (i := i) hN hv hd hcd) hb hm) fun σ H Q ⟨B, G, ρ, s, r', h1, h2⟩ => ?_
  have hi : isO ρ i := by
    unfold tb M.bnd at h1
    cases e : mOl i f m ρ with
    | none => rw [e] at h1; cases h1
    | some q => exact (mOl_inv e).1
  obtain ⟨a, ha⟩ := hi.at s
  refine ⟨.ref a, ha, ?_⟩
  have as : (tb (mOl i f m)) ρ = (m.bnd fun e => (kOl i f e).bnd fun d => match d with | .bl b => M.ret b | _ => lift none) ρ := by
    unfold tb M.bnd mOl
    rw [if_pos (show isOw ρ i = true by obtain ⟨b, d, e⟩ := hi; unfold isOw; rw [e])]
    unfold M.bnd
    cases m ρ with
    | none => rfl
    | some q => cases q <;> rfl
  rw [as] at h1
  refine r1.bind (Rl := RlE X.K) s ⟨r', h1, h2⟩ fun y H1 d2 G1 ρ1 s1 e1 ry h => ?_
  refine own_do (Xs := Xs) (W := W) hf s1 ha ry (e := d2) ?_
  obtain ⟨r2, h3, h4⟩ := h
  unfold M.bnd at h3
  cases e2 : kOl i f d2 ρ1 with
  | none => rw [e2] at h3; cases h3
  | some q =>
    rw [e2] at h3
    obtain ⟨_, _, z, _, _, fz, rfl⟩ := kOl_inv e2
    dsimp only at h3
    refine ⟨_, e2, fun v G' H' s' x' rv => ?_⟩
    cases z <;> first | (cases h3; cases rv; exact ⟨_, rfl, h4 _ G' H' s' x' rfl⟩) | cases h3
/-- b op x -/
theorem se_cmpO2 {op : CmpOp} {r : R2} {f : D → D → Option D} {m : M D} (i : Nat) (hN : X.N[i]? = some x) (hv : Vis X.env.scope x) (ho : OpR X (compareOp op) r) (hf : BinR X r f) (hb : SE X Xs W b m) (hm : behindInMarks op (.Name x p) = false) (hd : (x == ("__debug__" : Str)) = false := by decide) (hcd : (x == ("__classdict__" : Str)) = false := by decide) :
    SE X Xs W (.Compare b [op] [.Name x p] pos) (mOl i (fun d e => f e d) m) := by
  refine pe_imp (pe_cmpR ho hb (pe_ref (i := i) hN hv hd hcd) hm) fun σ H Q ⟨B, G, ρ, s, r', h1, h2⟩ => ?_
  obtain ⟨hi, h1⟩ := mOl_inv h1
  obtain ⟨a, ha⟩ := hi.at s
  exact r1.bind (Rl := RlE X.K) s ⟨r', h1, h2⟩ fun y H1 d2 G1 ρ1 s1 e1 ry h => ⟨.ref a, ha, own_do2 hf s1 ha ry h⟩
/-- x[b] of our own list: a flat item -/
theorem b_ix : BinR X (rIx X.K) ixD := by
  intro G H x y d d2 z Q ex rx ry hz q
  cases ry <;> (cases rx <;> first | (cases hz; done) | skip)
  · rename_i i t
    have hz : (if t.length ≤ sizeLine then ((ixN t.length i).bind fun k => t[k]?).map fun c => D.str [c] else none) = some z := hz
    have hl : t.length ≤ sizeLine := by
      by_cases hc : t.length ≤ sizeLine
      · exact hc
      · rw [if_neg hc] at hz; cases hz
    rw [if_pos hl] at hz
    obtain ⟨c, h1, rfl⟩ := map_inv hz
    refine .inr (.inr ⟨_, _, c, rfl, rfl, by simpa [Str.length] using hl, ?_, q (.str ⟨#[c]⟩) G H (Fr.refl ex) (.str [c])⟩)
    rw [atI_eq]
    simpa using h1
  · rename_i i a vs ds ha rs
    obtain ⟨v, h1, h2⟩ := reps_at rs hz
    exact .inl ⟨_, _, _, _, rfl, rfl, ex.sl (.inl (.inl ha)), h1, q _ G H (Fr.refl ex) h2⟩
  · rename_i i a ns hs
    obtain ⟨n, h1, rfl⟩ := map_inv hz
    refine .inl ⟨_, _, _, _, rfl, rfl, ex.sl hs, ?_, q (.int n) G H (Fr.refl ex) (.int n)⟩
    rw [atI_eq, List.length_map]
    cases e : ixN ns.length i with
    | none => rw [e] at h1; cases h1
    | some k =>
      rw [e] at h1
      show (ns.map V.int)[k]? = _
      rw [List.getElem?_map, show ns[k]? = some n from h1]; rfl
  · rename_i i a vs ds rs ha
    obtain ⟨v, h1, h2⟩ := reps_at ha hz
    exact .inr (.inl ⟨_, _, _, _, rfl, rfl, ex.st rs.sq, h1, q _ G H (Fr.refl ex) h2⟩)
theorem se_ixO {m : M D} (i : Nat) (hN : X.N[i]? = some x) (hv : Vis X.env.scope x) (hb : SE X Xs W b m) (hs : PlainIx b) (hd : (x == ("__debug__" : Str)) = false := by decide) (hcd : (x == ("__classdict__" : Str)) = false := by decide) : SE X Xs W (.Subscript (.Name x p) b pos) (mOl i ixD m) := by
  refine pe_imp (pe_ix ix_seq (pe_ref (i := i) hN hv hd hcd) hb hs) fun σ H Q ⟨B, G, ρ, s, r', h1, h2⟩ => ?_
  obtain ⟨hi, h1⟩ := mOl_inv h1
  obtain ⟨a, ha⟩ := hi.at s
  refine ⟨.ref a, ha, ?_⟩
  exact r1.bind (Rl := RlE X.K) s ⟨r', h1, h2⟩ fun y H1 d2 G1 ρ1 s1 e1 ry h => own_do b_ix s1 ha ry h
/-- f(x) of our own object: a flat value -/
def mO1 (i : Nat) (f : List D → Option D) : M D := fun ρ => match ρ[i]? with
  | some (.ow _ d) => (match f [d] with
    | some z => if flatD z = true then some (.ok z ρ) else none
    | none => none)
  | _ => none
theorem mO1_inv {i : Nat} {f : List D → Option D} {ρ : Cs} {r : R D} (h : mO1 i f ρ = some r) : ∃ b d z, ρ[i]? = some (.ow b d) ∧ f [d] = some z ∧ flatD z = true ∧ r = .ok z ρ := by
  unfold mO1 at h
  split at h
  · rename_i b d ed
    cases hz : f [d] with
    | none => rw [hz] at h; cases h
    | some z =>
      rw [hz] at h
      dsimp only at h
      by_cases fz : flatD z = true
      · rw [if_pos fz] at h; cases h; exact ⟨b, d, z, ed, hz, fz, rfl⟩
      · rw [if_neg fz] at h; cases h
  · cases h
theorem se_callBO {y : Str} {id : String} {r : List V → Hp → VK → Prop} {f : List D → Option D} (i : Nat) (hN : X.N[i]? = some x) (hv : Vis X.env.scope x) (hc : CallR X (.builtin id) r) (hf : CalR X r f) (hg : Gl X y) (hm : X.mg y = none) (hb : bootBuiltins y = some (.builtin id))
    (hn : y ≠ "__name__" := by decide) (hdb : (y == ("__debug__" : Str)) = false := by decide) (hd : (x == ("__debug__" : Str)) = false := by decide) (hcd : (x == ("__classdict__" : Str)) = false := by decide)
    (he : starEach [.Name x p2] X.env = (false, eval (.Name x p2) X.env) :: starEach [] X.env := by rfl) : SE X Xs W (.Call (.Name y p) [.Name x p2] [] pos) (mO1 i f) := by
  refine pe_imp (pe_callB hc hg hm hb (pa_cons (pe_ref (i := i) hN hv hd hcd) pa_nil he) hn hdb he rfl) fun σ H Q ⟨B, G, ρ, s, r', h1, h2⟩ => ?_
  obtain ⟨b, d, z, ed, hz, fz, rfl⟩ := mO1_inv h1
  obtain ⟨a, u, k1, k2, k3, k4, k5⟩ := s.ow i b d ed
  refine ⟨.ref a, k1, ?_⟩
  refine hf (upd G a u) H [.ref a] [d] z Q (adopt_ex s.ex k4) (.cons (k5.adopt k3) .nil) hz fun v G' H' fr rv => ?_
  obtain ⟨G'', fr', hr⟩ := un_adopt (K := X.K) k3 k4 fr
  exact h2 v G'' H' (s.step fr') fr'.g (hr v z fz rv)
/-- sep.join(x) -/
def mJnO (i : Nat) (m : M D) : M D := m.bnd fun d => if tyD d = .str then kOl i (fun x y => joinD y x) d else lift none
theorem se_joinO {m : M D} (i : Nat) (hN : X.N[i]? = some x) (hv : Vis X.env.scope x) (ho : SE X Xs W o m) (hd : (x == ("__debug__" : Str)) = false := by decide) (hcd : (x == ("__classdict__" : Str)) = false := by decide) (hbase : attributeBase o "join" X.env (eval o X.env) = eval o X.env := by rfl)
    (hfew : ((backTo cpos (starEach [.Name x p] X.env)).all (fun x => !x.1) && (backToKw cpos (keywordEach [] X.env)).all (fun x => x.1.isSome)
      && decide ([(.Name x p : Expr)].length + ([] : List Keyword).length + (if ([] : List Keyword).isEmpty then 0 else 1) < 30)) = true := by rfl)
    (hline : (apos.endLine == cpos.line) = true := by rfl) (hs : starEach [.Name x p] X.env = (false, eval (.Name x p) X.env) :: starEach [] X.env := by rfl) : SE X Xs W (.Call (.Attribute o "join" apos) [.Name x p] [] cpos) (mJnO i m) := by
  refine pe_imp (pe_bm F.plainAttrs_str F.slot_str_join F.type_str_join mt_join ho (pa_cons (pe_ref (i := i) hN hv hd hcd) pa_nil hs) hbase hfew hline hs rfl) fun σ H Q ⟨B, G, ρ, s, h⟩ => ?_
  refine r1.bind (Rl := RlE X.K) s h fun y H1 d G1 ρ1 s1 e1 ry h1 => ?_
  by_cases ht : tyD d = .str
  · rw [if_pos ht] at h1
    refine ⟨by cases ry <;> first | (cases ht; done) | rfl, ?_⟩
    have h1' := h1
    obtain ⟨r', h2, h3⟩ := h1
    obtain ⟨b, d', z, ed, hz, fz, rfl⟩ := kOl_inv h2
    obtain ⟨a, u, k1, k2, k3, k4, k5⟩ := s1.ow i b d' ed
    refine ⟨.ref a, k1, ?_⟩
    exact own_do2 (r := fun x y H Q => rJn X.K x [y] H Q) (f := joinD) (fun G H x y d e z Q ex rx ry h q => (jn_do ex rx ry h q).2) s1 k1 ry h1'
  · rw [if_neg ht] at h1
    obtain ⟨z, hz, q⟩ := h1.lifted
    cases hz
end
end Tk
namespace Tk
open PySem PySem.Spec PyProof.Rows L2 SX

section
variable {X : Cx} {Xs : List XC} {W : WX} {e a b c o : Expr} {es : List Expr} {pos p apos cpos p2 spos : Pos} {st : Stmt} {x : Str}
/-! ### our own list is changed -/
def appK (i : Nat) (d : D) : MS := fun ρ => match ρ[i]? with
  | some (.ow b (.lst ds)) => if ds.length < sizeLine then some (.nx (ρ.set i (.ow b (.lst (ds ++ [d]))))) else none
  | _ => none
def isOwL (ρ : Cs) (i : Nat) : Bool := match ρ[i]? with | some (.ow _ (.lst _)) => true | _ => false
theorem isOwL_is {ρ : Cs} {i : Nat} (h : isOwL ρ i = true) : ∃ b ds, ρ[i]? = some (.ow b (.lst ds)) := by
  unfold isOwL at h
  split at h
  · rename_i b ds e; exact ⟨b, ds, e⟩
  · cases h
def appnd (i : Nat) (m : M D) : MS := fun ρ => if isOwL ρ i = true then ev m (appK i) ρ else none
theorem list_ty {K : PySem.W.Frag} {G H : Hp} {u : HO} {ds : List D} {a : Addr} (h : RepO K G u (.lst ds)) (hH : H a = some u) : ∃ vs, u = .lst vs ∧ Reps K G vs ds := by
  cases u <;> first | exact ⟨_, rfl, h⟩ | exact h.elim
theorem ss_append {m : M D} (i : Nat) (hN : X.N[i]? = some x) (hv : Vis X.env.scope x) (ha : SE X Xs W e m) (hd : (x == ("__debug__" : Str)) = false := by decide) (hcd : (x == ("__classdict__" : Str)) = false := by decide)
    (hbase : attributeBase (.Name x p) "append" X.env (eval (.Name x p) X.env) = eval (.Name x p) X.env := by rfl)
    (hfew : ((backTo cpos (starEach [e] X.env)).all (fun x => !x.1) && (backToKw cpos (keywordEach [] X.env)).all (fun x => x.1.isSome)
      && decide ([e].length + ([] : List Keyword).length + (if ([] : List Keyword).isEmpty then 0 else 1) < 30)) = true := by rfl)
    (hline : (apos.endLine == cpos.line) = true := by rfl) (hs : starEach [e] X.env = (false, eval e X.env) :: starEach [] X.env := by rfl) (hsw : swapsWith (.Call (.Attribute (.Name x p) "append" apos) [e] [] cpos) none spos.line X.env = pure false := by rfl) :
    SS X Xs W (.Expr (.Call (.Attribute (.Name x p) "append" apos) [e] [] cpos) spos) (appnd i m) := by
  refine ps_imp (ps_expr (pe_bm F.plainAttrs_list F.slot_list_append F.type_list_append mt_append (pe_ref (i := i) hN hv hd hcd) (pa_cons ha pa_nil hs) hbase hfew hline hs rfl) hsw) fun D' σ H ⟨B, G, ρ, r, s, h1, h2⟩ => ?_
  unfold appnd at h1
  by_cases hi : isOwL ρ i = true
  · rw [if_pos hi] at h1
    obtain ⟨b0, d0, e0⟩ := isOwL_is hi
    obtain ⟨a, u, k1, k2, k3, k4, k5⟩ := s.ow i b0 _ e0
    obtain ⟨vs0, rfl, _⟩ := list_ty k5 k4
    refine ⟨.ref a, k1, .inl ⟨rfl, vs0, .inl (.inl k4)⟩, ?_⟩
    have h : rS X.K Xs W (ev m (appK i)) D' σ H := ⟨B, G, ρ, r, s, h1, h2⟩
    refine h.ev (Rl := RlE X.K) fun B' y H1 d G1 ρ1 r1 s1 ry h3 h4 => ?_
    unfold appK at h3
    split at h3
    · rename_i b ds ed
      obtain ⟨hl, h3⟩ := ite_inv h3
      obtain ⟨a', u', m1, m2, m3, m4, m5⟩ := s1.ow i b _ ed
      rw [k1] at m1; cases m1
      obtain ⟨vs, rfl, rv⟩ := list_ty m5 m4
      refine ⟨a, vs, y, rfl, rfl, m4, by rw [rv.length]; exact hl, ?_⟩
      subst h3
      exact h4 σ G1 _ (s1.wr (o' := .lst (vs ++ [y])) ed k1 (rv.append (.cons ry .nil)))
    · cases h3
  · rw [if_neg hi] at h1; cases h1
/-- x.pop() -/
def mPop (i : Nat) : M D := fun ρ => match ρ[i]? with
  | some (.ow b (.lst ds)) => (match ds[ds.length - 1]? with
    | some d => some (.ok d (ρ.set i (.ow b (.lst ds.dropLast))))
    | none => none)
  | _ => none
theorem Reps.dropLast {K : PySem.W.Frag} {G : Hp} {vs : List V} {ds : List D} (r : Reps K G vs ds) : Reps K G vs.dropLast ds.dropLast := by
  rw [List.dropLast_eq_take, List.dropLast_eq_take, r.length]
  exact r.take _
theorem se_pop (i : Nat) (hN : X.N[i]? = some x) (hv : Vis X.env.scope x) (hd : (x == ("__debug__" : Str)) = false := by decide) (hcd : (x == ("__classdict__" : Str)) = false := by decide)
    (hbase : attributeBase (.Name x p) "pop" X.env (eval (.Name x p) X.env) = eval (.Name x p) X.env := by rfl) (hline : (apos.endLine == cpos.line) = true := by rfl) : SE X Xs W (.Call (.Attribute (.Name x p) "pop" apos) [] [] cpos) (mPop i) := by
  refine pe_imp (pe_bm0 F.plainAttrs_list F.slot_list_pop F.type_list_pop mt_pop (pe_ref (i := i) hN hv hd hcd) hbase hline) fun σ H Q ⟨B, G, ρ, s, r, h1, h2⟩ => ?_
  unfold mPop at h1
  split at h1
  · rename_i b ds ed
    split at h1
    · rename_i d e2
      cases h1
      obtain ⟨a, u, m1, m2, m3, m4, m5⟩ := s.ow i b _ ed
      obtain ⟨vs, rfl, rv⟩ := list_ty m5 m4
      obtain ⟨v, q1, q2⟩ := rv.get e2
      refine ⟨.ref a, m1, .inl ⟨rfl, vs, .inl (.inl m4)⟩, a, vs, v, rfl, rfl, m4, by rw [rv.length]; exact q1, ?_⟩
      exact h2 v G _ (s.wr (o' := .lst vs.dropLast) ed m1 rv.dropLast) (Ex.refl _) q2
    · cases h1
  · cases h1
/-- x[j] = e -/
def setK (i : Nat) (v : D) (k : D) : MS := fun ρ => match ρ[i]?, k with
  | some (.ow b (.lst ds)), .int j => (match ixN ds.length j with
    | some k => some (.nx (ρ.set i (.ow b (.lst (ds.set k v)))))
    | none => none)
  | _, _ => none
def setIx (i : Nat) (m n : M D) : MS := ev m fun v ρ => if isOwL ρ i = true then ev n (setK i v) ρ else none
theorem ss_setIx {m n : M D} {k : Expr} (i : Nat) (hN : X.N[i]? = some x) (hv : Vis X.env.scope x) (he : SE X Xs W e m) (hk : SE X Xs W k n) (hd : (x == ("__debug__" : Str)) = false := by decide) (hcd : (x == ("__classdict__" : Str)) = false := by decide)
    (ha : ∀ v, assign (.Subscript (.Name x p) k spos) X.env v = (do
      let ov ← holding [v] (eval (.Name x p) X.env)
      let iv ← holding [v, ov] (eval k X.env)
      standAt spos
      holding [v, ov, iv] (setItem ov iv v)
      release [v, ov, iv] []) := by intro _; rfl)
    (hs : swapsWithSole [.Subscript (.Name x p) k spos] e pos.line X.env = pure false := by rfl) (hw : swappedStores [.Subscript (.Name x p) k spos] e X.env = pure none := by rfl)
    (h1 : (assignEach [.Subscript (.Name x p) k spos] X.env).map (·.2) = [assign (.Subscript (.Name x p) k spos) X.env] := by rfl) : SS X Xs W (.Assign [.Subscript (.Name x p) k spos] e pos) (setIx i m n) := by
  refine ps_imp (ps_asg he (pg_sub (pe_ref (i := i) hN hv hd hcd) hk set_list ha) hs hw h1) fun D' σ H h => ?_
  refine h.ev (Rl := RlE X.K) fun B y H1 d G1 ρ1 r s1 ry h3 h4 => ?_
  by_cases hi : isOwL ρ1 i = true
  · rw [if_pos hi] at h3
    obtain ⟨b0, d0, e0⟩ := isOwL_is hi
    obtain ⟨a, u, k1, k2, k3, k4, k5⟩ := s1.ow i b0 _ e0
    refine ⟨.ref a, k1, ?_⟩
    unfold ev at h3
    cases en : n ρ1 with
    | none => rw [en] at h3; cases h3
    | some q =>
      rw [en] at h3
      cases q with
      | ex c p ρ2 => cases h3; exact ⟨B, G1, ρ1, s1, _, en, fun G' H' s' => h4 σ G' H' s'⟩
      | ok kk ρ2 =>
        refine ⟨B, G1, ρ1, s1, _, en, fun w G2 H2 s2 x2 rw' => ?_⟩
        dsimp only at h3
        unfold setK at h3
        split at h3
        · rename_i b ds j ed
          split at h3
          · rename_i k' e5
            cases h3
            obtain ⟨a', u', m1, m2, m3, m4, m5⟩ := s2.ow i b _ ed
            rw [k1] at m1; cases m1
            obtain ⟨vs, rfl, rv⟩ := list_ty m5 m4
            cases rw'
            refine ⟨a, vs, j, k', rfl, rfl, m4, by rw [rv.length]; exact e5, ?_⟩
            exact h4 σ G2 _ (s2.wr (o' := .lst (vs.set k' y)) ed k1 (Reps.set (ry.mono x2) k' rv))
          · cases h3
        · cases h3
  · rw [if_neg hi] at h3; cases h3
/-! ### list(x), tuple(x) of our own list -/
def mTupO (i : Nat) : M D := fun ρ => match ρ[i]? with
  | some (.ow _ (.lst ds)) => some (.ok (.tup ds) ρ)
  | _ => none
def mLstO (i : Nat) : M D := fun ρ => match ρ[i]? with
  | some (.ow _ (.lst ds)) => some (.ok (.lst ds) ρ)
  | _ => none
theorem se_tupO (i : Nat) (hN : X.N[i]? = some x) (hv : Vis X.env.scope x) (hg : Gl X "tuple") (hm : X.mg "tuple" = none) (hd : (x == ("__debug__" : Str)) = false := by decide) (hcd : (x == ("__classdict__" : Str)) = false := by decide)
    (he : starEach [.Name x p2] X.env = (false, eval (.Name x p2) X.env) :: starEach [] X.env := by rfl) : SE X Xs W (.Call (.Name "tuple" p) [.Name x p2] [] pos) (mTupO i) := by
  refine pe_imp (pe_callTy call_tupleF hg hm (by rfl) (pa_cons (pe_ref (i := i) hN hv hd hcd) pa_nil he) (by decide) (by decide) he rfl) fun σ H Q ⟨B, G, ρ, s, r, h1, h2⟩ => ?_
  unfold mTupO at h1
  split at h1
  · rename_i b ds ed
    cases h1
    obtain ⟨a, u, m1, m2, m3, m4, m5⟩ := s.ow i b _ ed
    obtain ⟨vs, rfl, rv⟩ := list_ty m5 m4
    refine ⟨.ref a, m1, a, vs, rfl, .inl ⟨.inl (.inl m4), fun l o hl ho => ?_⟩⟩
    have f := Fr.alloc (o := .frz o (.tup vs)) s.ex hl
    exact h2 _ _ _ (s.step f) f.g (.tup (.inl ⟨o, upd_same, ho⟩) (rv.mono f.g))
  · cases h1
theorem so_lstO (i : Nat) (hN : X.N[i]? = some x) (hv : Vis X.env.scope x) (hg : Gl X "list") (hm : X.mg "list" = none) (hd : (x == ("__debug__" : Str)) = false := by decide) (hcd : (x == ("__classdict__" : Str)) = false := by decide)
    (he : starEach [.Name x p2] X.env = (false, eval (.Name x p2) X.env) :: starEach [] X.env := by rfl) : SO X Xs W (.Call (.Name "list" p) [.Name x p2] [] pos) (mLstO i) := by
  refine pe_imp (pe_callTy call_list_of hg hm (by rfl) (pa_cons (pe_ref (i := i) hN hv hd hcd) pa_nil he) (by decide) (by decide) he rfl) fun σ H Q ⟨B, G, ρ, s, r, h1, h2⟩ => ?_
  unfold mLstO at h1
  split at h1
  · rename_i b ds ed
    cases h1
    obtain ⟨a, u, m1, m2, m3, m4, m5⟩ := s.ow i b _ ed
    obtain ⟨vs, rfl, rv⟩ := list_ty m5 m4
    refine ⟨.ref a, m1, a, vs, rfl, .inl (.inl (.inl m4)), fun l hl => ?_⟩
    have f := Fr.allocO (o := .lst vs) s.ex hl
    exact h2 l (.lst vs) G _ (s.step f) (Ex.refl _) upd_same rv (s.newO hl f)
  · cases h1
theorem so_lstP {m : M D} (hg : Gl X "list") (hm : X.mg "list" = none) (ha : SE X Xs W a m)
    (he : starEach [a] X.env = (false, eval a X.env) :: starEach [] X.env := by rfl) : SO X Xs W (.Call (.Name "list" p) [a] [] pos) (mU (fun d => listD [d]) m) := by
  refine pe_imp (pe_callTy call_list_of hg hm (by rfl) (pa_cons ha pa_nil he) (by decide) (by decide) he rfl) fun σ H Q ⟨B, G, ρ, s, r, h1, h2⟩ => ?_
  unfold mU M.bnd at h1
  cases em : m ρ with
  | none => rw [em] at h1; cases h1
  | some q =>
    rw [em] at h1
    show rX X.K Xs W (RlE X.K) m σ H _
    cases q with
    | ex c p ρ1 => cases h1; exact ⟨B, G, ρ, s, _, em, h2⟩
    | ok d ρ1 =>
      refine ⟨B, G, ρ, s, _, em, fun v G1 H1 s1 e1 rv => ?_⟩
      dsimp only at h1
      unfold lift at h1
      cases rv <;> first | (cases h1; done) | skip
      · rename_i a vs ds ha rs
        cases h1
        refine ⟨a, vs, rfl, .inl (s1.ex.sl (.inl (.inl ha))), fun l hl => ?_⟩
        have f := Fr.allocO (o := .lst vs) s1.ex hl
        exact h2 l (.lst vs) G1 _ (s1.step f) e1 upd_same rs (s1.newO hl f)
      · rename_i a vs ds rs ha
        cases h1
        refine ⟨a, vs, rfl, .inr (s1.ex.st rs.sq), fun l hl => ?_⟩
        have f := Fr.allocO (o := .lst vs) s1.ex hl
        exact h2 l (.lst vs) G1 _ (s1.step f) e1 upd_same ha (s1.newO hl f)
/-! ### {}, {k: v} -/
theorem so_dic0 : SO X Xs W (.Dict [] [] pos) (M.ret (.dic [])) := pe_imp pe_dnewK fun σ H Q ⟨B, G, ρ, s, r, h1, h2⟩ => by
  cases h1
  intro p hp
  have f := Fr.allocO (o := .dK []) s.ex hp
  exact h2 p (.dK []) G _ (s.step f) (Ex.refl _) upd_same .nil (s.newO hp f)
theorem se_dic1 {k v : Expr} {kd vd : D} {key : Key} {vv : V} (hk : PE X k (tC (kV key))) (hv : PE X v (tC vv)) (rk : ∀ G dd, Rep X.K G vv dd → RepD X.K G [(key, vv)] [(kd, dd)]) (rv : ∀ G, Rep X.K G vv vd) : SE X Xs W (.Dict [some k] [v] pos) (M.ret (.dic [(kd, vd)])) := by
  refine pe_imp (pe_disp (pps_cons hk hv pps_nil) rfl rfl (by simp) (by simp)) fun σ H Q ⟨B, G, ρ, s, r, h1, h2⟩ => ?_
  cases h1
  intro p hp
  refine ⟨upd_same, [(key, vv)], rfl, by simp, ?_⟩
  have e : upd (upd H p (.dK [])) p (.dK (mergeK [] [(key, vv)])) = upd H p (.dK [(key, vv)]) := by
    funext y
    unfold L2.upd
    by_cases q : y = p
    · simp [q, mergeK, putK]
    · simp [q]
  rw [e]
  have f := Fr.alloc (o := .dK [(key, vv)]) s.ex hp
  exact h2 _ _ _ (s.step f) f.g (.dic upd_same (rk _ _ (rv _)))
/-! ### a, b = x, y -/
def mPar (i j : Nat) (ms : M (List D)) : MS := ev ms fun ds ρ => match ds with
  | [d, e] => (match put i (.pu d) ρ with
    | some ρ1 => (match put j (.pu e) ρ1 with
      | some ρ2 => some (.nx ρ2)
      | none => none)
    | none => none)
  | _ => none
theorem ss_par {y : Str} {px py pt : Pos} {kt k2 : Nat} {pt2 : Pos} {ms : M (List D)} (i j : Nat) (hc : X.calm = true) (hN : X.N.Nodup) (hi : X.N[i]? = some x) (hj : X.N[j]? = some y) (hij : i ≠ j)
    (hx : X.env.scope.names.lookup x = some .local) (hy : X.env.scope.names.lookup y = some .local) (ha : SA X Xs W [a, b] ms)
    (hw : swappedStores [.Tuple [.Name x px, .Name y py] kt pt] (.Tuple [a, b] k2 pt2) X.env = pure (some [x, y]) := by rfl)
    (hs : swapsWithSole [.Tuple [.Name x px, .Name y py] kt pt] (.Tuple [a, b] k2 pt2) pos.line X.env = pure false := by rfl) : SS X Xs W (.Assign [.Tuple [.Name x px, .Name y py] kt pt] (.Tuple [a, b] k2 pt2) pos) (mPar i j ms) := by
  refine ps_imp (ps_par hc hN hi hj hij hx hy ha hw hs) fun D' σ H h => ?_
  refine h.ev (Rl := RlA X.K) fun B vs H1 ds G1 ρ1 r s1 rs h3 h4 => ?_
  split at h3
  · rename_i d e
    obtain ⟨v, w, rfl, r1, r2⟩ := rs.two
    cases e1 : put i (.pu d) ρ1 with
    | none => rw [e1] at h3; cases h3
    | some ρ2 =>
      rw [e1] at h3
      dsimp only at h3
      cases e2 : put j (.pu e) ρ2 with
      | none => rw [e2] at h3; cases h3
      | some ρ3 =>
        rw [e2] at h3
        cases h3
        obtain ⟨l1, rfl⟩ := put_inv e1
        obtain ⟨l2, rfl⟩ := put_inv e2
        refine ⟨v, w, rfl, h4 _ G1 H1 ((s1.setP r1 (by rw [s1.len]; exact l1)).setP r2 ?_)⟩
        rw [List.length_set, s1.len]; simpa using l2
  · cases h3
/-! ### is, of truths -/
def isB (neg : Bool) : D → D → Option D
  | .bl a, .bl b => some (.bl (if neg then !decide (a = b) else decide (a = b)))
  | _, _ => none
theorem b_isB : BinR X rIsB (isB false) := by
  intro G H x y d e z Q ex rx ry h q
  cases rx <;> cases ry <;> first | (cases h; done) | skip
  cases h; exact ⟨_, _, rfl, rfl, q _ G H (Fr.refl ex) (.bl _)⟩
theorem b_notB : BinR X rNotB (isB true) := by
  intro G H x y d e z Q ex rx ry h q
  cases rx <;> cases ry <;> first | (cases h; done) | skip
  cases h; exact ⟨_, _, rfl, rfl, q _ G H (Fr.refl ex) (.bl _)⟩
end
end Tk
/-! != of lists within one program: as HandS.ListEq tells of == -/
namespace Tk.Ne
open PySem PySem.SeqAt PySem.AutoSeq1 PySem.MeetsSeq PySem.MeetsSeq2 PySem.MeetsSeq3 PySem.SeqRoads2
section
variable {P : Program} {w : World} (l m : Addr) (us vs : Array Value) (n n' : Nat) (dx dy : Option Addr) (sx sy : Array (Option Value))
abbrev At1 (h : Heap) : Prop := h.get? l = some { cls := .type "list", dict := dx, data := .seq us n, slots := sx }
abbrev Alike (A : Around) (s : Shared) : Prop := ∀ j (p : j < us.size) (q : j < vs.size), EqP P w A s us[j] vs[j] true
theorem loop (hsz : us.size = vs.size) (k : Nat) : ∀ i : Nat, us.size - i = k → MeetsIn P w (Builtin.«list.__eq__.loop» ⟨[.ref l, .ref m, rawInt i, rawInt 3], []⟩)
    (fun A R s => At1 l us n dx sx s.heap ∧ At1 m vs n' dy sy s.heap ∧ Alike (P := P) (w := w) us vs A.in1 s ∧ R (.ok (.ret (.bool false))) s) := by
  induction k with
  | zero =>
    intro i hk A R s h
    obtain ⟨hp, g, d, tk, os⟩ := s
    obtain ⟨hx, hy, he, h⟩ := h
    wp_walk using wpAny_loadPart' hx, wpAny_loadPart' hy
    have z1 : us[((i : Nat) : Int).toNat]? = none := by simp; omega
    have z2 : vs[((i : Nat) : Int).toNat]? = none := by simp; omega
    rw [z1, z2]
    wp_walk using wpAny_loadPart' hx, wpAny_loadPart' hy
    show R (.ok (.ret (.bool (us.size != vs.size)))) _
    rw [hsz]
    simpa using h
  | succ k ih =>
    intro i hk A R s h
    obtain ⟨hp, g, d, tk, os⟩ := s
    obtain ⟨hx, hy, he, h⟩ := h
    wp_walk using wpAny_loadPart' hx, wpAny_loadPart' hy
    have i1 : i < us.size := by omega
    have i2 : i < vs.size := by omega
    have z1 : us[((i : Nat) : Int).toNat]? = some us[i] := by simp [i1]
    have z2 : vs[((i : Nat) : Int).toNat]? = some vs[i] := by simp [i2]
    have next : ((i : Int) + 1) = ((i + 1 : Nat) : Int) := by push_cast; rfl
    rw [z1, z2]
    apply wpAny_bind
    apply he i i1 i2
    wp_walk
    rw [next]
    exact ⟨plainId_quiet plain_eq_loop _, codeAny_builtin entry_eq_loop (by
      rw [Around.under_plainId plain_eq_loop _]
      exact ih (i + 1) (by omega) A R _ ⟨hx, hy, he, h⟩)⟩
theorem whole (hsz : us.size = vs.size) : MeetsIn P w (Builtin.«list.__ne__» ⟨[.ref l, .ref m], []⟩)
    (fun A R s => At1 l us n dx sx s.heap ∧ At1 m vs n' dy sy s.heap ∧ Alike (P := P) (w := w) us vs A.in1 s ∧ R (.ok (.ret (.bool false))) s) := by
  intro A R s h
  obtain ⟨hp, g, d, tk, os⟩ := s
  obtain ⟨hx, hy, he, h⟩ := h
  have sub := AutoSeq1.sub_list_list
  have no : ¬ (us.size != vs.size) = true := by simp [hsz]
  wp_walk using wpAny_loadPart' hx, wpAny_loadPart' hy
  exact ⟨plainId_quiet plain_eq_loop _, codeAny_builtin entry_eq_loop (by
    rw [Around.under_plainId plain_eq_loop _]
    exact loop l m us vs n n' dx dy sx sy hsz _ 0 rfl A R _ ⟨hx, hy, he, h⟩)⟩
end
theorem lists {P : Program} {w : World} {A : Around} {s : Shared} {l m : Addr} {us vs : Array Value} (hx : s.heap.IsList l us) (hy : s.heap.IsList m vs) (hsz : us.size = vs.size) (hu : A.units < cLine)
    (he : Alike (P := P) (w := w) us vs A.in1 s) (E Q : Value → Shared → Prop) (h : Q (.bool false) s) : wpAny (model P w) A (richCompare .NotEq (.ref l) (.ref m)) Q E s := by
  obtain ⟨⟨c1, d1, dt1, s1⟩, o1, k1, n1, q1⟩ := id hx
  obtain ⟨⟨c2, d2, dt2, s2⟩, o2, k2, n2, q2⟩ := id hy
  simp only at k1 q1 k2 q2
  subst k1 q1 k2 q2
  have tx : s.TypeIs (.ref l) "list" := ⟨_, o1, rfl⟩
  have ty : s.TypeIs (.ref m) "list" := ⟨_, o2, rfl⟩
  exact wpAny_richCompare_same_room (op := .NotEq) tx ty F.slot_list_ne (call_meetsIn F.slot_list_ne tx F.entry_list_ne (F.args_list_ne_2 _ _) (whole l m us vs n1 n2 d1 d2 s1 s2 hsz)
    ⟨o1, o2, he, show Value.bool false ≠ Value.notImplemented ∧ Q (.bool false) s from ⟨(fun x => nomatch x), h⟩⟩) hu
end Tk.Ne
namespace Tk
open PySem PySem.Spec PyProof.Rows L2 SX
section
variable {X : Cx}
/-- the same data, dicts of at most one key among them -/
def sameB : D → D → Bool
  | .non, .non => true
  | .bl a, .bl b => a == b
  | .int a, .int b => a == b
  | .str a, .str b => a == b
  | _, _ => false
mutual
def same : Nat → D → D → Bool
  | 0, d, e => sameB d e
  | n + 1, .lst a, .lst b => sames n a b
  | _ + 1, .dic [], .dic [] => true
  | n + 1, .dic [(k, v)], .dic [(l, u)] => sameB k l && same n v u
  | _ + 1, d, e => sameB d e
def sames : Nat → List D → List D → Bool
  | _, [], [] => true
  | n, a :: as, b :: bs => same n a b && sames n as bs
  | _, _, _ => false
end
theorem sameB_eq {K : PySem.W.Frag} {G : Hp} {v w : V} {d e : D} (h : sameB d e = true) (r : Rep K G v d) (s : Rep K G w e) : v = w ∧ flatB v = true := by
  cases r <;> cases s <;> first | (cases h; done) | skip
  · exact ⟨rfl, rfl⟩
  · have := eq_of_beq (show _ = true from h); subst this; exact ⟨rfl, rfl⟩
  · have := eq_of_beq (show _ = true from h); subst this; exact ⟨rfl, rfl⟩
  · have := eq_of_beq (show _ = true from h); subst this; exact ⟨rfl, rfl⟩
mutual
theorem same_ok {K : PySem.W.Frag} {G H : Hp} (ex : Ex G H) : ∀ {n : Nat} {v w : V} {d e : D}, same n d e = true → Rep K G v d → Rep K G w e → EqV K H (n + 1) v w
  | 0, _, _, d, e, h, r, s => .inl (sameB_eq (by simpa [same] using h) r s)
  | n + 1, _, _, .lst a, .lst b, h, .lst ha ra, .lst hb rb => .inr (.inr (.inl ⟨_, _, _, _, rfl, rfl, ex.sl (.inl (.inl ha)), ex.sl (.inl (.inl hb)), sames_ok ex (by simpa [same] using h) ra rb⟩))
  | n + 1, _, _, .dic [], .dic [], h, .dic ha ra, .dic hb rb => by
    cases ra; cases rb
    exact .inr (.inr (.inr ⟨_, _, _, _, rfl, rfl, ex _ _ ha, ex _ _ hb, rfl, fun p hp => nomatch hp⟩))
  | n + 1, _, _, .dic [(k, v)], .dic [(l, u)], h, .dic ha ra, .dic hb rb => by
    rw [same, Bool.and_eq_true] at h
    obtain ⟨h1, h2⟩ := h
    cases ra with
    | int r0 t =>
      cases t
      cases rb with
      | int s0 t =>
        cases t
        have := eq_of_beq (show _ = true from h1); subst this
        refine .inr (.inr (.inr ⟨_, _, _, _, rfl, rfl, ex _ _ ha, ex _ _ hb, rfl, fun p hp => ?_⟩))
        have hp' := List.mem_singleton.mp hp
        subst hp'
        exact ⟨_, by simp [valV], same_ok ex h2 r0 s0⟩
      | str s0 t => cases h1
    | str r0 t =>
      cases t
      cases rb with
      | int s0 t => cases h1
      | str s0 t =>
        cases t
        have := eq_of_beq (show _ = true from h1); subst this
        refine .inr (.inr (.inr ⟨_, _, _, _, rfl, rfl, ex _ _ ha, ex _ _ hb, rfl, fun p hp => ?_⟩))
        have hp' := List.mem_singleton.mp hp
        subst hp'
        exact ⟨_, by simp [valV], same_ok ex h2 r0 s0⟩
  | n + 1, _, _, .non, e, h, r, s => .inl (sameB_eq (by simpa [same] using h) r s)
  | n + 1, _, _, .bl _, e, h, r, s => .inl (sameB_eq (by simpa [same] using h) r s)
  | n + 1, _, _, .int _, e, h, r, s => .inl (sameB_eq (by simpa [same] using h) r s)
  | n + 1, _, _, .str _, e, h, r, s => .inl (sameB_eq (by simpa [same] using h) r s)
theorem sames_ok {K : PySem.W.Frag} {G H : Hp} (ex : Ex G H) : ∀ {n : Nat} {vs ws : List V} {ds es : List D}, sames n ds es = true → Reps K G vs ds → Reps K G ws es → Paired (EqV K H (n + 1)) vs ws
  | _, _, _, _, _, _, .nil, .nil => .nil
  | _, _, _, _, _, h, .cons a r, .cons b s => by
    rw [sames, Bool.and_eq_true] at h
    exact .cons (same_ok ex h.1 a b) (sames_ok ex h.2 r s)
end
def isLst : D → Bool | .lst _ => true | _ => false
def eqX (d e : D) : Option D := if okD 60 d = true ∧ okD 60 e = true then some (.bl (eqB d e)) else if isLst d = true ∧ isLst e = true ∧ same 50 d e = true then some (.bl true) else none
def neX (d e : D) : Option D := if okD 60 d = true ∧ okD 60 e = true then some (.bl (!eqB d e)) else if isLst d = true ∧ isLst e = true ∧ same 50 d e = true then some (.bl false) else none
abbrev rEqX (K : PySem.W.Frag) : R2 := fun x y H Q => rEqD K x y H Q ∨ rEqV K x y H Q
theorem op_eqX (hu : X.A.units + 64 < cLine) : OpR X (compareOp .Eq) (rEqX X.K) := (op_eqD hu).or (op_eqV hu)
theorem same_lst {K : PySem.W.Frag} {G H : Hp} {x y : V} {d e : D} (ex : Ex G H) (rx : Rep K G x d) (ry : Rep K G y e) (h1 : isLst d = true) (h2 : isLst e = true) (h : same 50 d e = true) :
    ∃ a b xs ys, x = .ref a ∧ y = .ref b ∧ SqL K H a xs ∧ SqL K H b ys ∧ Paired (EqV K H 50) xs ys := by
  cases rx <;> first | (cases h1; done) | skip
  cases ry <;> first | (cases h2; done) | skip
  rename_i a vs ds ha ra b ws es hb rb
  exact ⟨a, b, vs, ws, rfl, rfl, ex.sl (.inl (.inl ha)), ex.sl (.inl (.inl hb)), sames_ok (n := 49) ex (by simpa [same] using h) ra rb⟩
theorem b_eqX : BinR X (rEqX X.K) eqX := by
  intro G H x y d e z Q ex rx ry h q
  unfold eqX at h
  by_cases c1 : okD 60 d = true ∧ okD 60 e = true
  · rw [if_pos c1] at h
    exact .inl (b_eq G H x y d e z Q ex rx ry (by unfold eqD; rw [if_pos c1]; exact h) q)
  · rw [if_neg c1] at h
    obtain ⟨⟨h1, h2, h3⟩, rfl⟩ := ite_inv h
    obtain ⟨a, b, xs, ys, rfl, rfl, ha, hb, hp⟩ := same_lst ex rx ry h1 h2 h3
    exact .inr ⟨50, by decide, .inl ⟨a, b, xs, ys, rfl, rfl, ha, hb, hp⟩, q _ G H (Fr.refl ex) (.bl _)⟩
def rNeV (K : PySem.W.Frag) : R2 := fun x y H Q => ∃ a b xs ys, x = .ref a ∧ y = .ref b ∧ SqL K H a xs ∧ SqL K H b ys ∧ Paired (EqV K H 50) xs ys ∧ Q (.bl false) H
theorem op_neV (hu : X.A.units + 64 < cLine) : OpR X (compareOp .NotEq) (rNeV X.K) := by
  intro pins s σ H x y v u Q I rx ry h
  obtain ⟨a, b, xs, ys, rfl, rfl, ha, hb, hp, q⟩ := h
  cases rx; cases ry
  obtain ⟨us, r1, p1, _⟩ := I.list ha
  obtain ⟨ws, r2, p2, _⟩ := I.list hb
  have hsz : us.toArray.size = ws.toArray.size := by
    rw [List.size_toArray, List.size_toArray, ← r1.length, ← r2.length]
    exact Paired.length hp
  refine Ne.lists p1.isList p2.isList hsz (by omega) (fun j h1 h2 => ?_) _ _ ⟨.bl false, H, I, rfl, q⟩
  have k := items_run (fun x y v u => eqV_run I 50 X.A.in1 (by show X.A.units + 1 + 50 < cLine; omega) x y v u) hp r1 r2 j (by simpa using h1) (by simpa using h2)
  simpa using k
abbrev rNeX (K : PySem.W.Frag) : R2 := fun x y H Q => rNeD K x y H Q ∨ rNeV K x y H Q
theorem op_neX (hu : X.A.units + 64 < cLine) : OpR X (compareOp .NotEq) (rNeX X.K) := (op_neD hu).or (op_neV hu)
theorem b_neX : BinR X (rNeX X.K) neX := by
  intro G H x y d e z Q ex rx ry h q
  unfold neX at h
  by_cases c1 : okD 60 d = true ∧ okD 60 e = true
  · rw [if_pos c1] at h
    exact .inl (b_ne G H x y d e z Q ex rx ry (by unfold neD; rw [if_pos c1]; exact h) q)
  · rw [if_neg c1] at h
    obtain ⟨⟨h1, h2, h3⟩, rfl⟩ := ite_inv h
    obtain ⟨a, b, xs, ys, rfl, rfl, ha, hb, hp⟩ := same_lst ex rx ry h1 h2 h3
    exact .inr ⟨a, b, xs, ys, rfl, rfl, ha, hb, hp, q _ G H (Fr.refl ex) (.bl _)⟩
end
end Tk
namespace Tk
open PySem PySem.Spec PyProof.Rows L2 SX

/-! ### zip of two texts -/
def Itz2 (x y : Str) : It :=
  ⟨fun i _ => i < x.cps.size ∧ i < y.cps.size,
   fun i H v H' => ∃ T o c d, v = .ref T ∧ H T = none ∧ o.dict = none ∧ H' = upd H T (.frz o (.tup [.str ⟨#[c]⟩, .str ⟨#[d]⟩])) ∧ x.cps[i]? = some c ∧ y.cps[i]? = some d,
   fun i _ => i ≤ x.cps.size ∧ i ≤ y.cps.size ∧ (i = x.cps.size ∨ i = y.cps.size)⟩
theorem five {z TI TO i1 i2 c : Addr} (h : c ∈ [z, TI, TO, i1, i2]) : c = z ∨ c = TI ∨ c = TO ∨ c = i1 ∨ c = i2 := by simpa using h
theorem turn_z2 {P : Program} {w : World} {K : PySem.W.Frag} {elts : List Expr} {kk : Nat} {tpos : Pos} {x y : Str} {tx ty : Tok} {z TI TO i1 i2 : Addr} (D : ZipSep2 z TI TO i1 i2 [i1] [i2]) :
    Turn P w K (.Tuple elts kk tpos) (Itz2 x y) [z, TI, TO, i1, i2] z (fun i h => IsZip h z TI TO .none ∧ IsTupOf2 h TI (.ref i1) (.ref i2) ∧ (∃ a b, IsTupOf2 h TO a b) ∧ h.IsStrIter i1 (strIterType x) x tx i ∧ h.IsStrIter i2 (strIterType y) y ty i) where
  mem := List.mem_cons_self
  obj := by
    rintro i h ⟨hz, hTI, ⟨a, b, hTO⟩, ⟨o1, e1, _, d1⟩, ⟨o2, e2, _, d2⟩⟩ c hc
    rcases five hc with rfl | rfl | rfl | rfl | rfl
    · exact ⟨_, hz, fun v q => nomatch q⟩
    · exact ⟨_, hTI, fun v q => nomatch q⟩
    · exact ⟨_, hTO, fun v q => nomatch q⟩
    · exact ⟨o1, e1, fun v q => by rw [d1] at q; cases q⟩
    · exact ⟨o2, e2, fun v q => by rw [d2] at q; cases q⟩
  keep := by
    rintro i h h' ⟨hz, hTI, ⟨a, b, hTO⟩, ⟨o1, e1, r1⟩, ⟨o2, e2, r2⟩⟩ k
    exact ⟨k z (by simp) _ hz, k TI (by simp) _ hTI, ⟨a, b, k TO (by simp) _ hTO⟩, ⟨o1, k i1 (by simp) _ e1, r1⟩, ⟨o2, k i2 (by simp) _ e2, r2⟩⟩
  item := by
    intro X hP hw hK hc i pins s σ H E I hf st hg
    subst hP hw hK
    obtain ⟨hz, hTI, ⟨a, b, hTO⟩, s1, s2⟩ := st
    have hd : X.A.in1.handled = none := I.ok.hd hc
    refine wpAny_pyNext_zipD2_item D (Draws.text hd i1 x tx) (Draws.text hd i2 y ty) hz hTI hTO s1 s2 hg.1 hg.2 fun u1 u2 h' tk P1 P2 z' TO' s1' s2' hT hsz hk => ?_
    obtain ⟨c, t1, hx, rfl⟩ := P1
    obtain ⟨d, t2, hy, rfl⟩ := P2
    have lz : z < s.heap.objs.size := Heap.lt_size hz
    refine ⟨_, rfl, wpAny_letOwnedTupleGo_zip (s := { s with heap := h', toks := tk }) z' fun h'' z'' sb => ?_⟩
    have keep : ∀ g, g ≠ z → g ≠ TO → g ≠ i1 → g ≠ i2 → ∀ ob, s.heap.get? g = some ob → h''.get? g = some ob := fun g n1 n2 n3 n4 ob q => (sb.2 g n1).trans (hk g ob n1 n2 n3 n4 q)
    have hT2 : h''.get? s.heap.objs.size = some { cls := .type "tuple", data := .seq #[.str ⟨#[c]⟩ t1, .str ⟨#[d]⟩ t2] } := (sb.2 _ (Nat.ne_of_gt lz)).trans hT
    have new : ∀ H0 : Hp, ObjOk X.prog X.w H0 h'' s.heap.objs.size (.frz _ (.tup [.str ⟨#[c]⟩, .str ⟨#[d]⟩])) := fun H0 =>
      frz_tup (us := [.str ⟨#[c]⟩ t1, .str ⟨#[d]⟩ t2]) (by decide : 2 ≤ sizeLine) (.cons ⟨t1, rfl⟩ (.cons ⟨t2, rfl⟩ .nil)) hT2 rfl ⟨_, rfl⟩
    have I1 :=
      I.turnedNew (t' := tk) (ch := [z, TI, TO, i1, i2]) (fun g ob hb q => keep g (fun e => hb (by simp [e])) (fun e => hb (by simp [e])) (fun e => hb (by simp [e])) (fun e => hb (by simp [e])) ob q) hf (Nat.le_refl _) (new _)
    refine ⟨.ref s.heap.objs.size, _, I1, rfl, ⟨_, _, c, d, rfl, I.hok.fresh (Nat.le_refl _), rfl, rfl, hx, hy⟩, ⟨z'', keep TI D.TIz D.TITO D.TIi1 D.TIi2 _ hTI, ⟨_, _, (sb.2 _ D.TOz).trans TO'⟩, ?_, ?_⟩, fun g hg' => ?_⟩
    · obtain ⟨o1, e1, r1⟩ := s1'
      exact ⟨o1, (sb.2 _ D.zi1.symm).trans e1, r1⟩
    · obtain ⟨o2, e2, r2⟩ := s2'
      exact ⟨o2, (sb.2 _ D.zi2.symm).trans e2, r2⟩
    · have lt : g < s.heap.objs.size := by
        obtain ⟨o1, e1, _⟩ := s1
        obtain ⟨o2, e2, _⟩ := s2
        rcases five hg' with rfl | rfl | rfl | rfl | rfl
        · exact lz
        · exact Heap.lt_size hTI
        · exact Heap.lt_size hTO
        · exact Heap.lt_size e1
        · exact Heap.lt_size e2
      rw [upd_ne (Nat.ne_of_lt lt)]
      exact (hf g hg').1
  done := by
    intro X hP hw hK hc i pins s σ H E I hf st hg
    subst hP hw hK
    obtain ⟨hz, hTI, ⟨a, b, hTO⟩, s1, s2⟩ := st
    have hd : X.A.in1.handled = none := I.ok.hd hc
    exact wpAny_pyNext_zipD2_end D (Draws.text hd i1 x tx) (Draws.text hd i2 y ty) hz hTI hTO s1 s2 hg.1 hg.2.1 hg.2.2 fun h' tk hk => ⟨rfl, I.turnedL (t' := tk) (ch := [z, TI, TO, i1, i2]) (fun g ob hb q =>
      hk g ob (fun e => hb (by simp [e])) (fun e => hb (by simp [e])) (fun e => hb (by simp [e])) (fun e => hb (by simp [e])) q) hf⟩
  self := fun A i s Q E st h => wpAny_pyIter_zip st.1 h
theorem sep5 (n : Nat) : ZipSep2 (n + 4) (n + 2) (n + 3) n (n + 1) [n] [n + 1] := by
  constructor <;> first | omega | (simp; done) | (simp; omega)
theorem pi_z2 {X : Cx} {e e2 : Expr} {ta : TA} {p pos tpos : Pos} {elts : List Expr} {kk : Nat} (hg : Gl X "zip") (hm : X.mg "zip" = none) (ha : PA X [e, e2] ta)
    (hs : starEach [e, e2] X.env = (false, eval e X.env) :: starEach [e2] X.env := by rfl) (hpl : (backTo pos (starEach [e2] X.env)).any (·.1) = false := by rfl) :
    PI X (.Tuple elts kk tpos) (.Call (.Name "zip" p) [e, e2] [] pos) (fun σ H R => ta σ H fun vs H1 => ∃ x y, vs = [.str x, .str y] ∧ R (Itz2 x y) H1) := by
  refine ⟨fun pins s σ H R I h => ?_⟩
  refine Call_ (ld_blt I hg hm PyProof.Rows.boot_zip (PyProof.Rows.callWith_type1 (thn (ha.run pos pins s σ H _ I h) fun us s1 ⟨vs, H1, I1, r1, q1⟩ => ?_) hs hpl))
  obtain ⟨x, y, rfl, q⟩ := q1
  obtain ⟨u, u2, rfl, r, r'⟩ := r1.two
  obtain ⟨tx, rfl⟩ := r
  obtain ⟨ty, rfl⟩ := r'
  refine zip_begins2 (begins_text x tx) (begins_text y ty) trivial trivial fun h' hz hTI hTO h1 h2 hsz hk => wpAny_pyIter_zip hz ?_
  have I2 : Inv X pins σ H1 { s1 with heap := h' } := I1.kept (t' := s1.toks) hk
  refine ⟨s1.heap.objs.size + 4, [s1.heap.objs.size + 4, s1.heap.objs.size + 2, s1.heap.objs.size + 3, s1.heap.objs.size, s1.heap.objs.size + 1], _, _, H1, rfl, I2, turn_z2 (sep5 s1.heap.objs.size),
    ⟨hz, hTI, ⟨_, _, hTO⟩, ⟨_, h1, rfl, rfl⟩, ⟨_, h2, rfl, rfl⟩⟩, fun c hcm => ?_, q⟩
  have hle : s1.heap.objs.size ≤ c := by rcases five hcm with rfl | rfl | rfl | rfl | rfl <;> omega
  exact I1.fpOk hle (I1.hok.fresh hle)
def zipS : List Nat → List Nat → List D
  | a :: as, b :: bs => .tup [.str [a], .str [b]] :: zipS as bs
  | _, _ => []
theorem zipS_len : ∀ (a b : List Nat), (zipS a b).length = min a.length b.length
  | [], b => by simp [zipS]
  | _ :: _, [] => by simp [zipS]
  | a :: as, b :: bs => by simp [zipS, zipS_len as bs]
theorem zipS_get : ∀ {a b : List Nat} {i c d : Nat} {z : D}, a[i]? = some c → b[i]? = some d → (zipS a b)[i]? = some z → z = .tup [.str [c], .str [d]]
  | [], _, i, _, _, _, h, _, _ => by simp at h
  | _ :: _, [], i, _, _, _, _, h, _ => by simp at h
  | a :: as, b :: bs, 0, c, d, z, h1, h2, h3 => by
    simp [zipS] at h1 h2 h3
    rw [← h3, h1, h2]
  | a :: as, b :: bs, i + 1, c, d, z, h1, h2, h3 => zipS_get (a := as) (b := bs) (i := i) (by simpa using h1) (by simpa using h2) (by simpa [zipS] using h3)
theorem src_z2 {K : PySem.W.Frag} {G : Hp} {a b : List Nat} : Src K G (Itz2 ⟨a.toArray⟩ ⟨b.toArray⟩) (zipS a b) := by
  intro G' H' e1 e2
  refine ⟨fun i hi => ?_, ?_, fun i v H'' d hd yy => ?_⟩
  · rw [zipS_len] at hi
    exact ⟨by show i < a.toArray.size; simp; omega, by show i < b.toArray.size; simp; omega⟩
  · rw [zipS_len]
    refine ⟨by show _ ≤ a.toArray.size; simp; omega, by show _ ≤ b.toArray.size; simp; omega, ?_⟩
    show _ = a.toArray.size ∨ _ = b.toArray.size
    simp; omega
  · obtain ⟨T, o, c, d', rfl, hT, ho, rfl, h1, h2⟩ := yy
    have := zipS_get (a := a) (b := b) (by simpa using h1) (by simpa using h2) hd
    subst this
    have f := Fr.alloc (o := .frz o (.tup [.str ⟨#[c]⟩, .str ⟨#[d']⟩])) e2 hT
    exact ⟨_, f, .tup (.inl ⟨o, upd_same, ho⟩) (.cons (.str [c]) (.cons (.str [d']) .nil))⟩
def zip2 : List D → Option (List D)
  | [.str a, .str b] => some (zipS a b)
  | _ => none
def mZip2 (ms : M (List D)) : M (List D) := ms.bnd fun ds => lift (zip2 ds)
section
variable {X : Cx} {Xs : List XC} {W : WX} {e a b c o : Expr} {es : List Expr} {pos p apos cpos p2 spos tpos : Pos} {st : Stmt} {x : Str}
theorem si_z2 {elts : List Expr} {kk : Nat} {m n : M D} (hg : Gl X "zip") (hm : X.mg "zip" = none) (ha : SE X Xs W a m) (hb : SE X Xs W b n)
    (hs : starEach [a, b] X.env = (false, eval a X.env) :: starEach [b] X.env := by rfl) (hs2 : starEach [b] X.env = (false, eval b X.env) :: starEach [] X.env := by rfl) (hpl : (backTo pos (starEach [b] X.env)).any (·.1) = false := by rfl) :
    SI X Xs W (.Tuple elts kk tpos) (.Call (.Name "zip" p) [a, b] [] pos) (mZip2 (mCons m (mCons n mNil))) := by
  refine pi_imp (pi_z2 hg hm (sa_cons ha (sa_cons hb sa_nil hs2) hs) hs hpl) fun σ H R ⟨B, G, ρ, s, h⟩ => ?_
  refine r1.bind (Rl := RlA X.K) s h fun xs H1 ds G1 ρ1 s1 e1 rs h1 => ?_
  obtain ⟨z, hz, q⟩ := h1.lifted
  unfold zip2 at hz
  split at hz
  · cases hz
    obtain ⟨v, w, rfl, r, r2⟩ := rs.two
    cases r; cases r2
    exact ⟨_, _, rfl, q _ G1 H1 s1 (Ex.refl _) src_z2⟩
  · cases hz
/-! ### calls with keywords -/
def pick {α : Type} (ix : List Nat) (l : List α) : List α := ix.filterMap fun i => l[i]?
theorem pick_vals {vs : List V} {us : List Value} (r : Vals vs us) : ∀ ix : List Nat, Vals (pick ix vs) (pick ix us)
  | [] => .nil
  | i :: ix => by
    unfold pick
    cases h : vs[i]? with
    | none =>
      have : us[i]? = none := by rw [List.getElem?_eq_none_iff] at h ⊢; rw [← r.length]; exact h
      rw [List.filterMap_cons_none h, List.filterMap_cons_none this]
      exact pick_vals r ix
    | some v =>
      obtain ⟨u, hu, ru⟩ := r.get h
      rw [List.filterMap_cons_some h, List.filterMap_cons_some hu]
      exact .cons ru (pick_vals r ix)
theorem ArgRel.get {K : PySem.W.Frag} {σ : L2.St} {G : Hp} : ∀ {vs : List V} {as : List Arg} (i : Nat), ArgRel K σ G vs as → (vs[i]? = none ∧ as[i]? = none) ∨ ∃ v a, vs[i]? = some v ∧ as[i]? = some a ∧ ∀ ws bs, ArgRel K σ G ws bs → ArgRel K σ G (v :: ws) (a :: bs)
  | _, _, i, .nil => .inl ⟨by simp, by simp⟩
  | _, _, 0, .p r _ => .inr ⟨_, _, rfl, rfl, fun _ _ t => .p r t⟩
  | _, _, 0, .o r _ => .inr ⟨_, _, rfl, rfl, fun _ _ t => .o r t⟩
  | _, _, i + 1, .p r t => by simpa using ArgRel.get i t
  | _, _, i + 1, .o r t => by simpa using ArgRel.get i t
theorem pick_args {K : PySem.W.Frag} {σ : L2.St} {G : Hp} {vs : List V} {as : List Arg} (r : ArgRel K σ G vs as) : ∀ ix : List Nat, ArgRel K σ G (pick ix vs) (pick ix as)
  | [] => .nil
  | i :: ix => by
    unfold pick
    rcases r.get i with ⟨h1, h2⟩ | ⟨v, a, h1, h2, h3⟩
    · rw [List.filterMap_cons_none h1, List.filterMap_cons_none h2]; exact pick_args r ix
    · rw [List.filterMap_cons_some h1, List.filterMap_cons_some h2]; exact h3 _ _ (pick_args r ix)
theorem ArgRel.append {K : PySem.W.Frag} {σ : L2.St} {G : Hp} : ∀ {vs ws : List V} {as bs : List Arg}, ArgRel K σ G vs as → ArgRel K σ G ws bs → ArgRel K σ G (vs ++ ws) (as ++ bs)
  | _, _, _, _, .nil, s => s
  | _, _, _, _, .p r t, s => .p r (ArgRel.append t s)
  | _, _, _, _, .o r t, s => .o r (ArgRel.append t s)
def SK (X : Cx) (Xs : List XC) (W : WX) (kws : List Keyword) (m : M (List Arg)) : Prop := PK X kws (rX X.K Xs W (RlR X.K) m)
theorem pk_imp {kws : List Keyword} {t t' : TA} (h : PK X kws t) (f : ∀ σ H Q, t' σ H Q → t σ H Q) : PK X kws t' := ⟨fun pos pins s σ H Q I q => h.run pos pins s σ H Q I (f σ H Q q)⟩
theorem sk_nil : SK X Xs W [] aNil := pk_imp pk_nil fun σ H Q ⟨B, G, ρ, s, h⟩ => h.reted _ G H s (Ex.refl _) .nil
theorem sk_p {kws : List Keyword} {nm : Option Str} {m : M D} {ms : M (List Arg)} (ha : SE X Xs W e m) (hr : SK X Xs W kws ms) : SK X Xs W (⟨nm, e, p⟩ :: kws) (aP m ms) := by
  refine pk_imp (pk_cons ha hr) fun σ H Q ⟨B, G, ρ, s, h⟩ => ?_
  refine r1.bind (Rl := RlE X.K) s h fun x H1 d G1 ρ1 s1 e1 rx h1 => ?_
  refine r1.bind (Rl := RlR X.K) s1 h1 fun xs H2 ds G2 ρ2 s2 e2 rs h2 => ?_
  exact h2.reted _ G2 H2 s2 (Ex.refl _) (.p (rx.mono e2) rs)
theorem sk_o {kws : List Keyword} {nm : Option Str} {ms : M (List Arg)} (i : Nat) (hN : X.N[i]? = some x) (hv : Vis X.env.scope x) (hr : SK X Xs W kws ms) (hd : (x == ("__debug__" : Str)) = false := by decide) (hcd : (x == ("__classdict__" : Str)) = false := by decide) :
    SK X Xs W (⟨nm, .Name x p2, p⟩ :: kws) (aO i ms) := by
  refine pk_imp (pk_cons (pe_var (i := i) hN hv hd hcd) hr) fun σ H Q ⟨B, G, ρ, s, r, h1, h2⟩ => ?_
  unfold aO at h1
  split at h1
  · rename_i b d e
    obtain ⟨a, o, k1, k2, k3, k4, k5⟩ := s.ow i b d e
    refine ⟨.ref a, k1, ?_⟩
    refine r1.bind (Rl := RlR X.K) s ⟨r, h1, h2⟩ fun xs H2 ds G2 ρ2 s2 e2 rs h2 => ?_
    exact h2.reted _ G2 H2 s2 (Ex.refl _) (.o k1 rs)
  · cases h1
/-- f(.., k = v, ..): ix tells where each parameter's argument stands -/
def mCallW (F : FnD) (ix : List Nat) (ms ks : M (List Arg)) : M D := ms.bnd fun as => ks.bnd fun bs => callK F (pick ix (as ++ bs))
/-- how it binds: names ks, ix as in mCallW -/
def BindsW (fd : FuncData) (ps ks : List Str) (n : Nat) (ix : List Nat) : Prop := ∀ (us ws : List Value), us.length = n → ws.length = ks.length → bindArgs fd ⟨us, ks.zip ws⟩ = pure (ps.zip (pick ix (us ++ ws)))
structure CalW (X : Cx) (Xs : List XC) (x : Str) (F : FnD) (ks : List Str) (n : Nat) (ix : List Nat) : Prop where
  run : ∃ (k : Nat) (f : Addr) (fd : FuncData) (ps : List Str), FnOk X.prog X.w X.K X.mg X.base (L2.CX X.prog X.w) k f fd ps (spF X.K Xs F) ∧ Room k X.A ∧ X.mg x = some (.ref f) ∧ PySem.W.keepIn X.K (.ref f) = true ∧ BindsW fd ps ks n ix
theorem run_kw {pins : List (Addr × Obj)} {σ : L2.St} {H : Hp} {s : Shared} {Q : VK} {k : Nat} {f : Addr} {fd : FuncData} {ps ks : List Str} {sp : Sp} {n : Nat} {ix : List Nat} {E : L2.St → XK} {us ws : List Value} {vs zs : List V} (F : FnOk X.prog X.w X.K X.mg X.base (L2.CX X.prog X.w) k f fd ps sp) (hr : Room k X.A) (hb : BindsW fd ps ks n ix) (hx : PassesAt (L2.CX X.prog X.w) X σ (E σ))
    (I : Inv X pins σ H s) (r : Vals vs us) (rz : Vals zs ws) (hn : us.length = n) (hk : ws.length = ks.length) (h : sp (pick ix (vs ++ zs)) H Q (E σ)) : wpAny (model X.prog X.w) X.A (call (.ref f) us (ks.zip ws)) (EP X pins σ Q) X.xe s := by
  have r2 := pick_vals (r.append rz) ix
  refine wpAny_call (codeAny_mono (F.run X.A X.stack s H ⟨us, ks.zip ws⟩ (pick ix (us ++ ws)) _ Q (E σ) hr I.env0 (BindsTo.of_eq (hb us ws hn hk)) r2 h) fun r s' hq => ?_)
  cases r with
  | error e => exact hx pins H s e s' I hq
  | ok fl =>
    cases fl with
    | ret u => exact I.after hq
    | next => exact False.elim hq
    | brk => exact False.elim hq
    | cont => exact False.elim hq
theorem ArgRel.len {K : PySem.W.Frag} {σ : L2.St} {G : Hp} : ∀ {vs : List V} {as : List Arg}, ArgRel K σ G vs as → vs.length = as.length
  | _, _, .nil => rfl
  | _, _, .p _ t => by simp [ArgRel.len t]
  | _, _, .o _ t => by simp [ArgRel.len t]
/-- f(k = v, ..) -/
theorem pe_kw0 {kws : List Keyword} {k : Nat} {f : Addr} {fd : FuncData} {ps ks : List Str} {sp : Sp} {ix : List Nat} {E : L2.St → XK} {t : TA} (F : FnOk X.prog X.w X.K X.mg X.base (L2.CX X.prog X.w) k f fd ps sp) (hr : Room k X.A) (hg : Gl X x) (hm : X.mg x = some (.ref f)) (hk : PySem.W.keepIn X.K (.ref f) = true) (hb : BindsW fd ps ks 0 ix) (hx : ∀ σ, PassesAt (L2.CX X.prog X.w) X σ (E σ))
    (hkw : PK X kws t) (hall : (backToKw pos (keywordEach kws X.env)).all (·.1.isSome) = true := by rfl) (hks : (backToKw pos (keywordEach kws X.env)).filterMap (·.1) = ks := by rfl)
    (hdb : (x == ("__debug__" : Str)) = false := by decide) (hpl : ((backTo pos (starEach [] X.env)).any (·.1) || (backToKw pos (keywordEach kws X.env)).any (·.1.isNone)) = false := by rfl) :
    PE X (.Call (.Name x p) [] kws pos) (fun σ H Q => t σ H fun zs H1 => zs.length = ks.length ∧ sp (pick ix zs) H1 Q (E σ)) := by
  refine ⟨fun pins s σ H Q I h => ?_⟩
  refine wpAny_Call_Name_kw (ld_glob I hg hm ?_ hdb)
  refine PySem.W.callWith_KW0 (h₀ := X.base) I.ok.mod.kin hk hall (thn (hkw.run pos pins s σ H _ I h) fun ws s2 ⟨zs, H2, I2, rz, hl, q2⟩ => ⟨I2.kIn, ?_⟩) hpl
  rw [hks]
  exact run_kw (us := []) (vs := []) F hr hb (hx σ) I2 .nil rz rfl (by rw [← rz.length]; exact hl) q2
theorem se_kw0 {kws : List Keyword} {F : FnD} {ks : List Str} {ix : List Nat} {ms : M (List Arg)} (C : CalW X Xs x F ks 0 ix) (hg : Gl X x) (tk : Takes X W) (ha : SK X Xs W kws ms) (hfr : F.fr = false := by rfl)
    (hall : (backToKw pos (keywordEach kws X.env)).all (·.1.isSome) = true := by rfl) (hks : (backToKw pos (keywordEach kws X.env)).filterMap (·.1) = ks := by rfl)
    (hdb : (x == ("__debug__" : Str)) = false := by decide) (hpl : ((backTo pos (starEach [] X.env)).any (·.1) || (backToKw pos (keywordEach kws X.env)).any (·.1.isNone)) = false := by rfl) :
    SE X Xs W (.Call (.Name x p) [] kws pos) (ms.bnd fun bs => if bs.length = ks.length then callK F (pick ix bs) else lift none) := by
  obtain ⟨k, f, fd, ps, F1, hr, hm, hk, hb⟩ := C.run
  refine pe_imp (pe_kw0 F1 hr hg hm hk hb (fun σ => passAt tk σ) ha hall hks hdb hpl) fun σ H Q ⟨B, G, ρ, s, h⟩ => ?_
  refine r1.bind (Rl := RlR X.K) s h fun vs H1 as G1 ρ1 s1 e1 ra h0 => ?_
  by_cases hl : as.length = ks.length
  · rw [if_pos hl] at h0
    obtain ⟨r, h1, h2⟩ := h0
    refine ⟨by rw [ra.len]; exact hl, call_conv s1 (pick_args ra ix) h1 (fun d ρ' er v G' H' s' x' hv => ?_) (fun c p ρ' er G' H' s' => ?_)⟩
    · subst er
      rw [if_neg (by rw [hfr]; decide)] at hv
      exact h2 v G' H' s' x' hv
    · subst er
      exact h2 G' H' s'
  · rw [if_neg hl] at h0
    obtain ⟨z, hz, _⟩ := h0.lifted
    cases hz
end
end Tk
namespace Tk
open PySem PySem.Spec PyProof.Rows L2 SX

/-! ### own errors with one field -/
def spInit (K : PySem.W.Frag) (f : Str) : Sp := fun vs H Q _ => ∃ (a C : Addr) (y : V), vs = [.ref a, y] ∧ OexC K C ∧ PySem.W.findIn K (.ref C) f = some none ∧ H a = some (exo a C none) ∧
  ∀ dx, H dx = none → dx ≠ a → Q .non (upd (upd H dx (exd dx [(f, y)])) a (exo a C (some dx)))
/-- what the written part says of the class at C: its field f, its __init__ -/
structure ErC (P : Program) (w : World) (K : PySem.W.Frag) (mg : Str → Option Value) (base : Heap) (x : Str) (C : Addr) (f : Str) : Prop where
  T : OexC K C
  no : PySem.W.findIn K (.ref C) f = some none
  init : ∃ (fI : Addr) (fd : FuncData) (ps : List Str), PySem.W.findIn K (.ref C) "__init__" = some (some (.ref fI)) ∧ PySem.W.typeIn K (.ref fI) = some (.type "function") ∧ L2.FnOk P w K mg base (L2.CX P w) 1 fI fd ps (spInit K f) ∧ Binds K fd ps []
  gC : mg x = some (.ref C)
  xf : XfC K C
theorem init_ok {P : Program} {w : World} {K : PySem.W.Frag} {mg : Str → Option Value} {base : Heap} {qual f : Str} {params : Arguments} {scope : Scope} {dvs : List V} {fI : Addr} {fd : FuncData} {p1 p2 p3 pos : Pos}
    (F : FunD K "__init__" qual params [.Assign [.Attribute (.Name "self" p1) f p2] (.Name f p3) pos] scope dvs [] fI fd) (S : FnScope ["self", f] ["self", f] scope) (h1 : scope.names.lookup ("self" : Str) = some .local) (h2 : scope.names.lookup f = some .local)
    (hd : (f == ("__debug__" : Str)) = false := by decide) (hcd : (f == ("__classdict__" : Str)) = false := by decide) : L2.FnOk P w K mg base (L2.CX P w) 1 fI fd ["self", f] (spInit K f) := by
  refine F.ok S (fun vs H Q E h => ?_) (fun cdv A outer s H vs Q E hr h => ⟨_, pss_one (ps_ost (pe_var (i := 0) rfl (.inl h1)) (pe_var (i := 1) rfl (.inl h2) hd hcd) (by rfl)), ?_⟩)
  · obtain ⟨a, C, y, rfl, _⟩ := h; rfl
  · obtain ⟨a, C, y, rfl, T, hn, hH, q⟩ := h
    refine ⟨y, rfl, .ref a, rfl, a, C, rfl, T, hn, .inl ⟨hH, fun dx h1 h2 => q dx h1 h2⟩⟩
section
variable {X : Cx} {Xs : List XC} {W : WX} {e a b c o : Expr} {es : List Expr} {pos p apos cpos p2 spos tpos : Pos} {st : Stmt} {x : Str}
/-- raise X(e) -/
theorem ss_raise {m : M D} {C : Addr} {f : Str} (c : Nat) (hc : X.calm = true) (tk : Takes X W) (E : ErC X.prog X.w X.K X.mg X.base x C f) (hx : Xs[c]? = some ⟨C, some f⟩) (hr : Room 2 X.A) (hg : Gl X x) (ha : SE X Xs W e m)
    (hdb : (x == ("__debug__" : Str)) = false := by decide) (he : starEach (e :: []) X.env = (false, eval e X.env) :: starEach [] X.env := by rfl) : SS X Xs W (.Raise (some (.Call (.Name x p) [e] [] cpos)) none pos) (ev m fun d ρ => some (.ex c d ρ)) := by
  obtain ⟨fI, fd, ps, iC, tI, F1, hb⟩ := E.init
  refine ps_imp (ps_raise hc tk (pmk_oex E.T iC tI F1 hr.l2 hb (dvs := []) .nil passL hg E.gC (pa_cons ha pa_nil he) hdb he rfl)) fun D' σ H h => ?_
  refine h.ev (Rl := RlE X.K) fun B y H1 d G1 ρ1 r s ry h3 h4 => ?_
  cases h3
  refine ⟨by show 1 ≤ 1000; decide, fun a ha => ?_⟩
  refine ⟨a, C, y, rfl, E.T, E.no, upd_same, fun dx h5 h6 => ⟨rfl, dx, [(f, y)], upd_same, ?_, ?_, ?_⟩⟩
  · rw [upd_ne h6, upd_same]
  · rw [upd_ne h6] at h5; exact h5
  · rw [upd_ne h6] at h5
    have eq : upd (del (upd (upd (upd H1 a (exo a C none)) dx (exd dx [(f, y)])) a (exo a C (some dx))) a) dx (.xd [(f, y)]) = upd H1 dx (.xd [(f, y)]) := by
      funext z
      unfold L2.upd L2.del
      by_cases q1 : z = dx
      · simp [q1]
      · by_cases q2 : z = a
        · subst q2; simp [q1, ha]
        · simp [q1, q2]
    rw [eq]
    have f1 := Fr.allocO (o := .xd [(f, y)]) s.ex h5
    have s1 := s.step f1
    obtain ⟨x', hx', post⟩ := h4 σ G1 _ s1
    rw [hx] at hx'; cases hx'
    exact post dx y upd_same (s.fresh h5).2.2.1 (s.fresh h5).2.2.2 ry
/-! ### try: .. except X as n: .. -/
def unRS (i : Nat) : RS → RS
  | .nx ρ => .nx (ρ.set i .un)
  | .bk ρ => .bk (ρ.set i .un)
  | .ct ρ => .ct (ρ.set i .un)
  | .rt d ρ => .rt d (ρ.set i .un)
  | .ro d ρ => .ro d (ρ.set i .un)
  | .ex c p ρ => .ex c p (ρ.set i .un)
def noEx : RS → Bool | .ex _ _ _ => false | _ => true
def tryM (i c : Nat) (m : MS) (ms : D → MS) : MS := fun ρ => match m ρ with
  | some (.ex c' p ρ1) => if c' = c then (match ρ1[i]? with
      | some .un => (match ms p ρ1 with
        | some r => if noEx r = true then some (unRS i r) else none
        | none => none)
      | _ => none) else some (.ex c' p ρ1)
  | r => r
def mXf (i : Nat) (a d : Addr) (f : Str) : M D := fun ρ => match ρ[i]? with
  | some (.er c p) => if c = (a, d, f) then some (.ok p ρ) else none
  | _ => none
theorem SR.setE {K : PySem.W.Frag} {B : Bs} {σ : L2.St} {G H : Hp} {ρ : Cs} (s : SR K B σ G H ρ) {i : Nat} {a d : Addr} {f : Str} {v : V} {p : D} (hH : H d = some (.xd [(f, v)])) (r : Rep K G v p) (hi : ρ[i]? = some .un) : SR K B (σ.set i (some (.ref a))) G H (ρ.set i (.er (a, d, f) p)) := by
  have hlt : i < ρ.length := (List.getElem?_eq_some_iff.mp hi).1
  have se : (σ.set i (some (.ref a)))[i]? = some (some (.ref a)) := List.getElem?_set_self (by rw [s.len]; exact hlt)
  have ne : ∀ {j : Nat}, j ≠ i → (σ.set i (some (.ref a)))[j]? = σ[j]? := fun h => List.getElem?_set_ne (Ne.symm h)
  have no : ∀ {j : Nat}, isO (ρ.set i (.er (a, d, f) p)) j → j ≠ i ∧ isO ρ j := fun h => isO_set h (by intro b d q; cases q)
  refine ⟨s.fr, by simpa using s.len, fun j e h => ?_, fun j b e h => ?_, fun j k x hj hk h1 h2 => ?_, fun q hq => ?_, fun j c q h => ?_, s.tr.move rfl rfl (tr_set (by intro _ _ _ q; cases q) ne) (Ex.refl G) (fun i x hx => ⟨rfl, (s.tr.got hx).2.1⟩) (fun i j x _ o z => by obtain ⟨n, o⟩ := no o; exact ⟨o, by rw [← ne n]; exact z⟩) (fun p hp => .inl hp)⟩
  · rcases get_set h with ⟨rfl, q⟩ | ⟨hn, q⟩
    · cases q
    · rw [ne hn]; exact s.pu j e q
  · rcases get_set h with ⟨rfl, q⟩ | ⟨hn, q⟩
    · cases q
    · rw [ne hn]; exact s.ow j b e q
  · obtain ⟨n1, o1⟩ := no hj
    obtain ⟨n2, o2⟩ := no hk
    rw [ne n1] at h1; rw [ne n2] at h2
    exact s.inj j k x o1 o2 h1 h2
  · obtain ⟨h1, h2, h3, h4⟩ := s.pin q hq
    exact ⟨h1, h2, h3, fun j hj => by obtain ⟨n, o⟩ := no hj; rw [ne n]; exact h4 j o⟩
  · rcases get_set h with ⟨rfl, q⟩ | ⟨hn, q⟩
    · cases q; exact ⟨se, trivial, d, v, rfl, hH, r⟩
    · rw [ne hn]; exact s.er j c _ q
theorem SR.setU {K : PySem.W.Frag} {B : Bs} {σ : L2.St} {G H : Hp} {ρ : Cs} (s : SR K B σ G H ρ) (i : Nat) : SR K B (σ.set i none) G H (ρ.set i .un) :=
  s.un (by simpa using s.len) fun j c h => by
    rcases get_set h with ⟨_, q⟩ | ⟨n, q⟩
    · exact .inl q
    · exact .inr ⟨q, List.getElem?_set_ne (Ne.symm n)⟩
theorem fp_un {H : Hp} {σ : L2.St} {ρ : Cs} {i j : Nat} {w : Option V} {p : Addr} (h : p ∈ fpAt H (σ.set i w) (ρ.set i .un) j) : p ∈ fpAt H σ ρ j := by
  obtain ⟨b, sh, dd, v, e1, e2, e3⟩ := fpAt_is h
  rcases get_set e1 with ⟨_, q⟩ | ⟨n, q⟩
  · cases q
  · rw [List.getElem?_set_ne (Ne.symm n)] at e2
    unfold fpAt; rw [q, e2]; exact e3
theorem se_xf {a C dd : Addr} {oe : Obj} {pn : List (Addr × Obj)} {f n : Str} (i : Nat) (hN : X.N[i]? = some n) (hv : Vis X.env.scope n) (T : XfC X.K C) (hno : PySem.W.findIn X.K (.ref C) f = some none) (hz : Zc (.ref C) (some dd) oe) (hf : ∃ vs, oe.data = .fields vs)
    (hb : attributeBase (.Name n p) f (X.suite a ((a, oe) :: pn)).env (eval (.Name n p) (X.suite a ((a, oe) :: pn)).env) = eval (.Name n p) (X.suite a ((a, oe) :: pn)).env := by rfl) (hd : (n == ("__debug__" : Str)) = false := by decide) (hcd : (n == ("__classdict__" : Str)) = false := by decide) :
    SE (X.suite a ((a, oe) :: pn)) Xs W (.Attribute (.Name n p) f pos) (mXf i a dd f) := by
  have hN' : (X.suite a ((a, oe) :: pn)).N[i]? = some n := hN
  refine pe_imp (pe_xf T hno hz hf (pe_var (X := X.suite a ((a, oe) :: pn)) (i := i) hN' hv hd hcd) hb) fun σ H Q ⟨B, G, ρ, s, r, h1, h2⟩ => ?_
  unfold mXf at h1
  split at h1
  · rename_i c p ed
    by_cases hc : c = (a, dd, f)
    · rw [if_pos hc] at h1
      cases h1
      subst hc
      obtain ⟨k1, _, d', v, rfl, k3, k4⟩ := s.er i _ p ed
      exact ⟨.ref a, k1, rfl, rfl, dd, _, v, rfl, k3, by simp [List.lookup], h2 v G H s (Ex.refl _) k4⟩
    · rw [if_neg hc] at h1; cases h1
  · cases h1
theorem ss_try {n : Str} {np pos' : Pos} {C : Addr} {f : Str} {body suite : List Stmt} {b₀ : Stmt} {m : MS} {ms : D → MS} {mS : Addr → Addr → MS} (i c : Nat) (hs : X.stack = X.env :: X.outer) (hf : X.env.frame = some X.env.locals) (hN : X.N.Nodup) (hi : X.N[i]? = some n) (hln : X.env.kindOf n = some .local)
    (hC : Names X x (.ref C)) (tk : Takes X W) (hx : Xs[c]? = some ⟨C, some f⟩) (hxs : ∀ (c' : Nat) (x' : XC), Xs[c']? = some x' → PySem.W.exmOne X.K (.ref x'.C) (.ref C) = some (decide (c' = c)))
    (hb : ∀ (W' : WX) (pn : List (Addr × Obj)) (xe : Value → Shared → Prop), Takes (X.tr pn xe) W' → PassesOwn (model X.prog X.w) X.A X.env xe → SB (X.tr pn xe) Xs W' body m)
    (hsu : ∀ (a : Addr) (oe : Obj) (dd : Addr) (pn : List (Addr × Obj)), Zc (.ref C) (some dd) oe → (∃ vs, oe.data = .fields vs) → SB (X.suite a ((a, oe) :: pn)) Xs FW (b₀ :: suite) (mS a dd))
    (hms : ∀ (a dd : Addr) (p : D) (ρ : Cs) (r : RS), i < ρ.length → ms p ρ = some r → ∃ r', mS a dd (ρ.set i (.er (a, dd, f) p)) = some r' ∧ unRS i r' = unRS i r) :
    SS X Xs W (.Try body [.ExceptHandler (some (.Name x np)) (some n) (b₀ :: suite) pos'] [] [] pos) (tryM i c m ms) := by
  refine ps_imp (ps_try_as (c := .ref C) (tb := fun W' => rS X.K Xs W' m) (ts := fun a cls d D σ H => cls = .ref C ∧ ∃ dd, d = some dd ∧ rS X.K Xs FW (mS a dd) D σ H) hs hf hN hi hln hC tk hb (fun a oe cls d pn hz hfl => ?_)) fun D' σ H ⟨B, G, ρ, r, s, h1, h2⟩ => ?_
  · refine ⟨fun pins s σ H D I ⟨e1, dd, e2, h⟩ => ?_⟩
    subst e1 e2
    exact (hsu a oe dd pn hz hfl).run pins s σ H D I h
  · unfold tryM at h1
    cases em : m ρ with
    | none => rw [em] at h1; cases h1
    | some q =>
      rw [em] at h1
      refine ⟨B, G, ρ, q, s, em, ?_⟩
      cases q with
      | nx ρ1 => cases h1; exact h2
      | bk ρ1 => cases h1; exact h2
      | ct ρ1 => cases h1; exact h2
      | rt d ρ1 => cases h1; exact h2
      | ro d ρ1 => cases h1; exact h2
      | ex c' p ρ1 =>
        intro σ1 G1 H1 s1
        dsimp only at h1
        by_cases hcc : c' = c
        · rw [if_pos hcc] at h1
          subst hcc
          refine ⟨_, hx, fun dd v k1 k2 k3 k4 => ⟨true, by rw [hxs _ _ hx]; simp, fun _ a ha => ⟨rfl, dd, rfl, ?_⟩, (fun z => nomatch z)⟩⟩
          split at h1
          · rename_i hu
            split at h1
            · rename_i r0 e0
              obtain ⟨hne, h1⟩ := ite_inv h1
              subst h1
              obtain ⟨r', m1, m2⟩ := hms a dd p ρ1 r0 (List.getElem?_eq_some_iff.mp hu).1 e0
              refine ⟨B, G1, _, r', s1.setE k1 k4 hu, m1, ?_⟩
              rw [← m2] at h2
              have hne' : noEx r' = true := by
                cases r' <;> first | rfl | (cases r0 <;> first | (cases m2; done) | (cases hne; done))
              cases r' with
              | nx ρ' => exact fun σ' G' H' s' => h2 _ G' H' (s'.setU i)
              | bk ρ' => exact fun σ' G' H' s' => h2 _ G' H' (s'.setU i)
              | ct ρ' => exact fun σ' G' H' s' => h2 _ G' H' (s'.setU i)
              | rt d ρ' => exact fun v σ' G' H' s' rv => h2 v _ G' H' (s'.setU i) rv
              | ro d ρ' => exact fun p o σ' G' H' s' hp ro nw => h2 p o _ G' H' (s'.setU i) hp ro ⟨nw.1, nw.2.1, fun j hj z => by
                  have nn := isO_set hj (by intro b d q; cases q)
                  rw [List.getElem?_set_ne (Ne.symm nn.1)] at z
                  exact nw.2.2.1 j nn.2 z, nw.2.2.2.1, fun j hj => nw.2.2.2.2 j (fp_un hj)⟩
              | ex c p ρ' => cases hne'
            · cases h1
          · cases h1
        · rw [if_neg hcc] at h1
          cases h1
          obtain ⟨x', hx', post⟩ := h2 σ1 G1 H1 s1
          refine ⟨x', hx', ?_⟩
          have no := hxs _ _ hx'
          rw [decide_eq_false hcc] at no
          cases hxf : x'.f with
          | none => rw [hxf] at post; exact ⟨false, no, (fun z => nomatch z), fun _ => post⟩
          | some f' => rw [hxf] at post; exact fun dd v k1 k2 k3 k4 => ⟨false, no, (fun z => nomatch z), fun _ => post dd v k1 k2 k3 k4⟩
end
end Tk
namespace Tk
open PySem PySem.Spec PyProof.Rows L2 SX

theorem hu64 {k : Nat} {A : Around} (hr : Room k A) : A.units + 64 < cLine := by have := hr.un; omega
/-- a def that may be called by its name -/
structure CalF (P : Program) (w : World) (K : PySem.W.Frag) (mg : Str → Option Value) (base : Heap) (Xs : List XC) (x : Str) (k : Nat) (st : Stmt) (ps : List Str) (F : FnD) : Prop where
  ex : ∃ (f : Addr) (fd : FuncData), FnOk P w K mg base (L2.CX P w) k f fd ps (spF K Xs F) ∧ Fun K x x st f fd ∧ mg x = some (.ref f) ∧ Binds K fd ps []
theorem CalF.of {P : Program} {w : World} {K : PySem.W.Frag} {mg : Str → Option Value} {base : Heap} {Xs : List XC} {x : Str} {k : Nat} {st : Stmt} {ps : List Str} {F : FnD} {f : Addr} {fd : FuncData} (h : FnOk P w K mg base (L2.CX P w) k f fd ps (spF K Xs F)) (Fu : Fun K x x st f fd) (g : mg x = some (.ref f))
    (hb : ∀ (kV doc pm : Value) (an : Option Addr) (cdv ct : Value) (us : List Value), us.length = ps.length → bindArgs (PySem.W.fnOf x x (defArgs st) (defBody st) (defScope st) .none kV doc pm an cdv ct) ⟨us, []⟩ = pure (ps.zip us)) : CalF P w K mg base Xs x k st ps F := ⟨f, fd, h, Fu, g, Fu.binds hb⟩
theorem CalF.cal {X : Cx} {Xs : List XC} {x : Str} {k : Nat} {st : Stmt} {ps : List Str} {F : FnD} (h : CalF X.prog X.w X.K X.mg X.base Xs x k st ps F) (hr : Room k X.A) : Cal X Xs x F :=
  let ⟨f, fd, h1, h2, h3, h4⟩ := h.ex
  ⟨k, f, fd, ps, h1, hr, h3, h2.kp, h4⟩
/-- .. with keywords -/
structure CalK (P : Program) (w : World) (K : PySem.W.Frag) (mg : Str → Option Value) (base : Heap) (Xs : List XC) (x : Str) (k : Nat) (F : FnD) (ks : List Str) (n : Nat) (ix : List Nat) : Prop where
  ex : ∃ (f : Addr) (fd : FuncData) (ps : List Str), FnOk P w K mg base (L2.CX P w) k f fd ps (spF K Xs F) ∧ mg x = some (.ref f) ∧ PySem.W.keepIn K (.ref f) = true ∧ BindsW fd ps ks n ix
theorem CalF.kw {P : Program} {w : World} {K : PySem.W.Frag} {mg : Str → Option Value} {base : Heap} {Xs : List XC} {x : Str} {k : Nat} {st : Stmt} {ps : List Str} {F : FnD} {ks : List Str} {n : Nat} {ix : List Nat} (h : CalF P w K mg base Xs x k st ps F)
    (hb : ∀ (kV doc pm : Value) (an : Option Addr) (cdv ct : Value), BindsW (PySem.W.fnOf x x (defArgs st) (defBody st) (defScope st) .none kV doc pm an cdv ct) ps ks n ix) : CalK P w K mg base Xs x k F ks n ix := by
  obtain ⟨f, fd, h1, h2, h3, h4⟩ := h.ex
  obtain ⟨oc, od, kV, doc, pm, an, cdv, ct, osl, rfl, lk, hcd⟩ := h2.ex
  exact ⟨f, _, ps, h1, h3, h2.kp, hb kV doc pm an cdv ct⟩
theorem CalK.cal {X : Cx} {Xs : List XC} {x : Str} {k : Nat} {F : FnD} {ks : List Str} {n : Nat} {ix : List Nat} (h : CalK X.prog X.w X.K X.mg X.base Xs x k F ks n ix) (hr : Room k X.A) : CalW X Xs x F ks n ix :=
  let ⟨f, fd, ps, h1, h2, h3, h4⟩ := h.ex
  ⟨k, f, fd, ps, h1, hr, h2, h3, h4⟩
section
variable {X : Cx} {Xs : List XC} {W : WX} {e a b c o tg : Expr} {es : List Expr} {pos p apos cpos p2 spos tpos : Pos} {st : Stmt} {x : Str}
/-- a list, a tuple or a text, item by item -/
def itemsX : D → Option (List D)
  | .lst ds => some ds
  | .tup ds => some ds
  | .str s => some (chars s)
  | .scr ns => some (ns.map .int)
  | _ => none
theorem mIt_to {f g : D → Option (List D)} {m : M D} {ρ : Cs} {r : R (List D)} (h : mIt f m ρ = some r) (hfg : ∀ d ρ1, m ρ = some (.ok d ρ1) → f d = g d) : mIt g m ρ = some r := by
  unfold mIt M.bnd at h ⊢
  cases e : m ρ with
  | none => rw [e] at h; cases h
  | some q =>
    rw [e] at h
    cases q with
    | ex c p ρ1 => exact h
    | ok d ρ1 =>
      dsimp only at h ⊢
      rw [← hfg d ρ1 e]; exact h
theorem si_any {m : M D} (h : SE X Xs W e m) : SI X Xs W tg e (mIt itemsX m) := by
  refine ⟨fun pins s σ H R I ⟨B, G, ρ, sr, r, h1, h2⟩ => ?_⟩
  have no : m ρ ≠ none := fun z => by unfold mIt M.bnd at h1; rw [z] at h1; cases h1
  have go : ∀ (g : D → Option (List D)), (∀ d ρ1, m ρ = some (.ok d ρ1) → itemsX d = g d) → rX (ν := It) X.K Xs W (fun _ G J its => Src X.K G J its) (mIt g m) σ H R := fun g hg => ⟨B, G, ρ, sr, r, mIt_to h1 hg, h2⟩
  cases em : m ρ with
  | none => exact absurd em no
  | some q =>
    cases q with
    | ex c p ρ1 => exact (si_lst h).run pins s σ H R I (go _ fun d ρ2 z => by rw [em] at z; cases z)
    | ok d ρ1 =>
      have same : ∀ {g : D → Option (List D)}, itemsX d = g d → ∀ d' ρ2, m ρ = some (.ok d' ρ2) → itemsX d' = g d' := fun hg d' ρ2 z => by rw [em] at z; cases z; exact hg
      cases d <;> first
        | exact (si_lst h).run pins s σ H R I (go _ (same rfl))
        | exact (si_tup h).run pins s σ H R I (go _ (same rfl))
        | exact (si_str h).run pins s σ H R I (go _ (same rfl))
def revX (d : D) : Option D := match d with
  | .str s => if s.length ≤ sizeLine then some (.str s.reverse) else none
  | .lst xs => some (.lst xs.reverse)
  | _ => none
theorem mU_to {f g : D → Option D} {m : M D} {ρ : Cs} {r : R D} (h : mU f m ρ = some r) (hfg : ∀ d ρ1, m ρ = some (.ok d ρ1) → f d = g d) : mU g m ρ = some r := by
  unfold mU M.bnd at h ⊢
  cases e : m ρ with
  | none => rw [e] at h; cases h
  | some q =>
    rw [e] at h
    cases q with
    | ex c p ρ1 => exact h
    | ok d ρ1 =>
      dsimp only at h ⊢
      rw [← hfg d ρ1 e]; exact h
theorem se_revX {m : M D} {k : Nat} {p1 p2 p3 pos : Pos} (ha : SE X Xs W a m) : SE X Xs W (.Subscript a (.Slice none none (some (.UnaryOp .USub (.Constant (.int 1) k p1) p2)) p3) pos) (mU revX m) := by
  refine ⟨fun pins s σ H R I ⟨B, G, ρ, sr, r, h1, h2⟩ => ?_⟩
  have no : m ρ ≠ none := fun z => by unfold mU M.bnd at h1; rw [z] at h1; cases h1
  have go : ∀ (g : D → Option D), (∀ d ρ1, m ρ = some (.ok d ρ1) → revX d = g d) → rX X.K Xs W (RlE X.K) (mU g m) σ H R := fun g hg => ⟨B, G, ρ, sr, r, mU_to h1 hg, h2⟩
  cases em : m ρ with
  | none => exact absurd em no
  | some q =>
    cases q with
    | ex c p ρ1 => exact (se_revL ha).run pins s σ H R I (go _ fun d ρ2 z => by rw [em] at z; cases z)
    | ok d ρ1 =>
      have same : ∀ {g : D → Option D}, revX d = g d → ∀ d' ρ2, m ρ = some (.ok d' ρ2) → revX d' = g d' := fun hg d' ρ2 z => by rw [em] at z; cases z; exact hg
      cases d <;> first
        | exact (se_revS ha).run pins s σ H R I (go _ (same rfl))
        | exact (se_revL ha).run pins s σ H R I (go _ (same rfl))
theorem pts_1 {K : PySem.W.Frag} {m : M Bool} {t : Expr} (h : PT X t (rX K Xs FW RlT m)) : PTs X [t] (rX K Xs FW RlT m) := pts_one h
theorem pe_strC {y z : Str} {j : Nat} (h : (decide (y = z)) = true) : PE X (.Constant (.str y) j pos) (tC (.str z)) := (of_decide_eq_true h) ▸ pe_str
end
def iniOf (s : Stmt) : Stmt := match s with
  | .ClassDef _ _ _ (b :: _) _ _ _ _ _ _ _ => b
  | _ => .Pass ⟨0, 0, 0, 0⟩
theorem exm_b {K : PySem.W.Frag} {S C : Addr} {r : Bool} (h1 : PySem.W.subIn K (.ref C) (.type "BaseException") = some true) (h2 : PySem.W.isClsIn K C = true) (h3 : PySem.W.typeIn K (.ref C) = some (.type "type")) (h4 : PySem.W.subIn K (.ref S) (.ref C) = some r) :
    PySem.W.exmOne K (.ref S) (.ref C) = some r := by
  have e1 : (PySem.W.subIn K (.ref C) (.type "BaseException") == some true) = true := by rw [h1] <;> rfl
  have e2 : ((PySem.W.clsIn K C).isSome && PySem.W.typeIn K (.ref C) == some (.type "type")) = true := by
    have h2' : (PySem.W.clsIn K C).isSome = true := h2
    rw [h2', h3] <;> rfl
  show (if (PySem.W.subIn K (.ref C) (.type "BaseException") == some true) = true then (if ((PySem.W.clsIn K C).isSome && PySem.W.typeIn K (.ref C) == some (.type "type")) = true then PySem.W.subIn K (.ref S) (.ref C) else none) else none) = some r
  rw [if_pos e1, if_pos e2]
  exact h4
theorem er_binds {K : PySem.W.Frag} {x qual : Str} {params : Arguments} {body : List Stmt} {scope : Scope} {v : V} {f : Addr} {fd : FuncData} {y z : Str} (F : FunD K x qual params body scope [v] [] f fd)
    (h : ∀ (T : Addr) (kV doc pm : Value) (an : Option Addr) (cdv ct : Value) (us its : List Value), us.length = 2 → its.length = 1 →
      ∃ k, bindArgs (PySem.W.fnOf x qual params body scope (.ref T) kV doc pm an cdv ct) ⟨us, []⟩ = seqItems? (.ref T) >>= k ∧ k (some its.toArray) = pure ([y, z].zip us)) : Binds K fd [y, z] [] := by
  obtain ⟨ds, h1, h2⟩ := F.binds1 (ps := [y, z]) 2 1 (by simp) rfl (fun T kV doc pm an cdv ct us its hu hi => by
    obtain ⟨k, e1, e2⟩ := h T kV doc pm an cdv ct us its hu hi
    refine ⟨k, e1, ?_⟩
    rw [List.drop_of_length_le (by have : its.length = 1 := hi; omega), List.append_nil]
    exact e2)
  cases h1
  exact h2
/-! ### what a suite does, plainly -/
theorem xf_at {i : Nat} {a d : Addr} {f : Str} {p : D} {ρ : Cs} (e : ρ[i]? = some (.er (a, d, f) p)) : mXf i a d f ρ = some (.ok p ρ) := by
  unfold mXf
  rw [e]
  simp
theorem suite_asg {i j : Nat} {a dd : Addr} {f : Str} {p : D} {ρ : Cs} {r : RS} {mA mB : M D} (hij : i ≠ j) (hi : i < ρ.length) (hm : ∀ ρ : Cs, ∃ d, mB ρ = some (.ok d ρ) ∧ ∀ ρ' : Cs, ρ'[i]? = some (.er (a, dd, f) p) → mA ρ' = some (.ok d ρ')) (h : asg mB (gN j) ρ = some r) :
    ∃ r', asg mA (gN j) (ρ.set i (.er (a, dd, f) p)) = some r' ∧ unRS i r' = unRS i r := by
  obtain ⟨d, h1, h2⟩ := hm ρ
  have h3 := h2 (ρ.set i (.er (a, dd, f) p)) (List.getElem?_set_self hi)
  unfold asg ev at h ⊢
  rw [h1] at h
  rw [h3]
  dsimp only at h ⊢
  unfold gN put at h ⊢
  rw [List.getElem?_set_ne hij]
  cases e : ρ[j]? with
  | none => rw [e] at h; cases h
  | some c =>
    rw [e] at h
    cases c with
    | un => cases h; exact ⟨_, rfl, by show RS.nx _ = RS.nx _; rw [List.set_comm _ _ hij, List.set_set]⟩
    | pu d' => cases h; exact ⟨_, rfl, by show RS.nx _ = RS.nx _; rw [List.set_comm _ _ hij, List.set_set]⟩
    | er c q => cases h
    | tr b s d' => cases h
    | ow b d' =>
      cases b with
      | true => cases h
      | false => cases h; exact ⟨_, rfl, by show RS.nx _ = RS.nx _; rw [List.set_comm _ _ hij, List.set_set]⟩
/-! ### the law -/
def spLaw (K : PySem.W.Frag) : Sp := fun vs H Q _ => ∃ (a : Addr) (ns : List Int), vs = [.ref a] ∧ SqL K H a (ns.map V.int) ∧ ns.length ≤ 63 ∧ ∀ H', Q (.bl true) H'
theorem law_ok {P : Program} {w : World} {K : PySem.W.Frag} {mg : Str → Option Value} {base : Heap} {Xs : List XC} {k : Nat} {f : Addr} {fd : FuncData} {ps : List Str} {F : FnD} (h : FnOk P w K mg base (L2.CX P w) k f fd ps (spF K Xs F)) (hk : F.ks = [.p]) (hf : F.fr = false)
    (hs : ∀ ns : List Int, ns.length ≤ 63 → F.sem [.scr ns] = some (.ret (.bl true) [])) : FnOk P w K mg base (L2.CX P w) k f fd ps (spLaw K) := by
  have to : ∀ vs H Q E, spLaw K vs H Q E → spF K Xs F vs H Q E := by
    rintro vs H Q E ⟨a, ns, rfl, hS, hl, q⟩
    refine ⟨H, [], [], [], [.scr ns], _, Ex.refl H, ?_, ⟨List.nodup_nil, Nat.zero_le _, (fun _ h => nomatch h), (fun _ h => nomatch h), (fun _ h => nomatch h), List.Pairwise.nil⟩, hs ns hl, fun v G' H' _ _ hv => ?_⟩
    · rw [hk]; exact ⟨.scr hS, trivial⟩
    · rw [if_neg (by rw [hf]; decide)] at hv
      cases hv
      exact q H'
  exact ⟨fun vs H Q E z => h.len vs H Q E (to vs H Q E z), fun A outer s H args us vs Q E hr e0 hb r z => h.run A outer s H args us vs Q E hr e0 hb r (to vs H Q E z)⟩
theorem noCX {P : Program} {w : World} {H : Hp} {s : Shared} {e : Value} {s' : Shared} (h : L2.CX P w [] H s (fun _ _ _ => False) e s') : False := by
  obtain ⟨_, _, _, _, _, _, _, _, _, _, _, _, z⟩ := h
  exact z.elim
end Tk
namespace Tk
open PySem PySem.Spec PyProof.Rows L2 SX

theorem CalF.at {P : Program} {w : World} {K : PySem.W.Frag} {mg : Str → Option Value} {base : Heap} {Xs : List XC} {x : Str} {k : Nat} {st : Stmt} {ps : List Str} {F : FnD} {f : Addr} {fd : FuncData} (h : CalF P w K mg base Xs x k st ps F) (Fu : Fun K x x st f fd) (g : mg x = some (.ref f)) :
    FnOk P w K mg base (L2.CX P w) k f fd ps (spF K Xs F) := by
  obtain ⟨f', fd', h1, h2, h3, _⟩ := h.ex
  rw [g] at h3; cases h3
  obtain ⟨oc, od, kV, doc, pm, an, cdv, ct, osl, rfl, lk, _⟩ := h2.ex
  obtain ⟨oc', od', kV', doc', pm', an', cdv', ct', osl', rfl, lk', _⟩ := Fu.ex
  rw [lk] at lk'
  injection lk' with e
  injection e with e1 e2 e3 e4
  injection e3 with e5
  rw [← e5]; exact h1
/-! ### numbers -/
def Sm (k : Nat) (a : Int) : Prop := a.natAbs < 2 ^ k
theorem Sm.log {k : Nat} {a : Int} (h : Sm k a) : a.natAbs.log2 ≤ k := by
  by_cases z : a.natAbs = 0
  · rw [z]; exact Nat.zero_le _
  · exact Nat.le_of_lt ((Nat.log2_lt z).mpr h)
theorem mul_sm {j k : Nat} {a b : Int} (ha : Sm j a) (hb : Sm k b) (h : j + k < 1000000 := by decide) : mulD (.int a) (.int b) = some (.int (a * b)) :=
  if_pos (Nat.lt_of_le_of_lt (Nat.add_le_add ha.log hb.log) h)
theorem Sm.mul {j k : Nat} {a b : Int} (ha : Sm j a) (hb : Sm k b) : Sm (j + k) (a * b) := by
  unfold Sm at *
  rw [Int.natAbs_mul, Nat.pow_add]
  exact Nat.mul_lt_mul'' ha hb
theorem Sm.more {j k : Nat} {a : Int} (ha : Sm j a) (h : j ≤ k := by decide) : Sm k a := Nat.lt_of_lt_of_le ha (Nat.pow_le_pow_right (by decide) h)
theorem Sm.mod {k : Nat} {a n : Int} (h0 : 0 < n) (h : Sm k n) : Sm k (a % n) := by
  unfold Sm at *
  have h1 := Int.emod_nonneg a (Int.ne_of_gt h0)
  have h2 := Int.emod_lt_of_pos a h0
  omega
theorem mod_pos {a b : Int} (h : 0 < b := by decide) : modD (.int a) (.int b) = some (.int (a % b)) := if_pos h
theorem div_pos {a b : Int} (h : 0 < b) (h2 : Sm 8999 b) : divD (.int a) (.int b) = some (.int (a / b)) := if_pos ⟨h, Nat.lt_of_le_of_lt h2.log (by decide)⟩
theorem ix_int (ns : List Int) (i : Int) : ixD (.scr ns) (.int i) = ((ixN ns.length i).bind fun k => ns[k]?).map D.int := rfl
/-! ### plain runs -/
theorem lc_gen {vs : List Nat} {g : D → Cs → Option Cs} {mt : M Bool} {me : M D} {ρ : Cs} {t : D → Bool} {f : D → D} : ∀ (its acc : List D), acc.length + its.length ≤ sizeLine → (∀ d ∈ its, ∃ ρ1, g d ρ = some ρ1 ∧ mt ρ1 = some (.ok (t d) ρ1) ∧ (t d = true → me ρ1 = some (.ok (f d) ρ1)) ∧ unset vs ρ1 = ρ) →
    lcL vs g mt me its acc ρ = some (acc ++ (its.filter t).map f, ρ)
  | [], acc, _, _ => by simp [lcL]
  | d :: its, acc, hl, h => by
    obtain ⟨ρ1, h1, h2, h3, h4⟩ := h d List.mem_cons_self
    rw [List.length_cons] at hl
    unfold lcL
    rw [h1]
    dsimp only
    rw [h2]
    cases ht : t d with
    | true =>
      dsimp only
      rw [h3 ht]
      dsimp only
      rw [if_pos (by omega), h4, lc_gen its (acc ++ [f d]) (by rw [List.length_append, List.length_singleton]; omega) fun e he => h e (List.mem_cons_of_mem _ he)]
      simp [List.filter_cons, ht]
    | false =>
      dsimp only
      rw [h4, lc_gen its acc (by omega) fun e he => h e (List.mem_cons_of_mem _ he)]
      simp [List.filter_cons, ht]
theorem mLc_gen {vs : List Nat} {mi : M (List D)} {g : D → Cs → Option Cs} {mt : M Bool} {me : M D} {ρ0 ρ : Cs} {its : List D} (t : D → Bool) (f : D → D) (hi : mi ρ0 = some (.ok its ρ)) (hl : its.length ≤ sizeLine) (hp : plainAt ρ vs = true) (hr : reset ρ vs (unset vs ρ) = ρ)
    (h : ∀ d ∈ its, ∃ ρ1, g d (unset vs ρ) = some ρ1 ∧ mt ρ1 = some (.ok (t d) ρ1) ∧ (t d = true → me ρ1 = some (.ok (f d) ρ1)) ∧ unset vs ρ1 = unset vs ρ) : mLc mi vs g mt me ρ0 = some (.ok (.lst ((its.filter t).map f)) ρ) := by
  unfold mLc M.bnd
  rw [hi]
  dsimp only
  rw [if_pos hp, lc_gen its [] (by simpa using hl) h]
  simp [hr]
theorem forL_inv {step : D → MS} (I : List D → Cs → Prop) (h : ∀ d rest ρ, I (d :: rest) ρ → ∃ ρ', (step d ρ = some (.nx ρ') ∨ step d ρ = some (.ct ρ')) ∧ I rest ρ') : ∀ (its : List D) (ρ : Cs), I its ρ → ∃ ρ', forL step its ρ = some (.nx ρ') ∧ I [] ρ'
  | [], ρ, hI => ⟨ρ, rfl, hI⟩
  | d :: its, ρ, hI => by
    obtain ⟨ρ1, h1, h2⟩ := h d its ρ hI
    obtain ⟨ρ2, h3, h4⟩ := forL_inv I h its ρ1 h2
    refine ⟨ρ2, ?_, h4⟩
    unfold forL
    rcases h1 with h1 | h1
    · rw [h1]; exact h3
    · rw [h1]; exact h3
theorem whL_inv {mc : M Bool} {m : MS} (I : Nat → Cs → Prop) (Fin : Cs → Prop) (h : ∀ k ρ, I k ρ → (∃ ρ1, mc ρ = some (.ok false ρ1) ∧ Fin ρ1) ∨ ∃ ρ1 ρ2, mc ρ = some (.ok true ρ1) ∧ (m ρ1 = some (.nx ρ2) ∨ m ρ1 = some (.ct ρ2)) ∧ ∃ k', k' < k ∧ I k' ρ2) :
    ∀ (n k : Nat) (ρ : Cs), k < n → I k ρ → ∃ ρ', whL mc m n ρ = some (.nx ρ') ∧ Fin ρ'
  | 0, _, _, hn, _ => absurd hn (Nat.not_lt_zero _)
  | n + 1, k, ρ, hn, hI => by
    unfold whL
    rcases h k ρ hI with ⟨ρ1, h1, h2⟩ | ⟨ρ1, ρ2, h1, h2, k', h3, h4⟩
    · rw [h1]; exact ⟨ρ1, rfl, h2⟩
    · obtain ⟨ρ3, h5, h6⟩ := whL_inv I Fin h n k' ρ2 (by omega) h4
      refine ⟨ρ3, ?_, h6⟩
      rw [h1]
      dsimp only
      rcases h2 with h2 | h2
      · rw [h2]; exact h5
      · rw [h2]; exact h5
/-! ### comparisons, plainly -/
def asc (s : List Nat) : Bool := s.all fun c => decide (c < 128)
theorem asc_ok {s : List Nat} (h : asc s = true) (n : Nat) : okD n (.str s) = true := by
  have : (s.all fun c => decide (c < 1114112)) = true := List.all_eq_true.mpr fun c hc => by
    have := of_decide_eq_true (List.all_eq_true.mp h c hc)
    exact decide_eq_true (by omega)
  cases n <;> simpa only [okD] using this
theorem neX_str {a b : List Nat} (ha : asc a = true) (hb : asc b = true) : neX (.str a) (.str b) = some (.bl (!(a == b))) := by
  unfold neX
  rw [if_pos ⟨asc_ok ha 60, asc_ok hb 60⟩]
  simp only [eqB]
theorem eqX_str {a b : List Nat} (ha : asc a = true) (hb : asc b = true) : eqX (.str a) (.str b) = some (.bl (a == b)) := by
  unfold eqX
  rw [if_pos ⟨asc_ok ha 60, asc_ok hb 60⟩]
  simp only [eqB]
theorem neX_int (a b : Int) : neX (.int a) (.int b) = some (.bl (!(a == b))) := by
  unfold neX
  rw [if_pos ⟨by simp only [okD], by simp only [okD]⟩]
  simp only [eqB]
theorem eqX_int (a b : Int) : eqX (.int a) (.int b) = some (.bl (a == b)) := by
  unfold eqX
  rw [if_pos ⟨by simp only [okD], by simp only [okD]⟩]
  simp only [eqB]
theorem neX_bl (a b : Bool) : neX (.bl a) (.bl b) = some (.bl (!(a == b))) := by
  unfold neX
  rw [if_pos ⟨by simp only [okD], by simp only [okD]⟩]
  simp only [eqB]
theorem eqX_bl (a b : Bool) : eqX (.bl a) (.bl b) = some (.bl (a == b)) := by
  unfold eqX
  rw [if_pos ⟨by simp only [okD], by simp only [okD]⟩]
  simp only [eqB]
theorem neX_nil {l : List D} (h : okDs 59 l = true) : neX (.lst l) (.lst []) = some (.bl (!l.isEmpty)) := by
  unfold neX
  rw [if_pos ⟨by simpa only [okD] using h, by simp only [okD, okDs]⟩]
  cases l <;> simp [eqB, eqBs]
theorem eqX_nil {l : List D} (h : okDs 59 l = true) : eqX (.lst l) (.lst []) = some (.bl l.isEmpty) := by
  unfold eqX
  rw [if_pos ⟨by simpa only [okD] using h, by simp only [okD, okDs]⟩]
  cases l <;> simp [eqB, eqBs]
theorem okDs_all {n : Nat} : ∀ {l : List D}, (∀ d ∈ l, okD n d = true) → okDs n l = true
  | [], _ => by simp only [okDs]
  | d :: l, h => by
    rw [okDs, h d List.mem_cons_self, okDs_all fun e he => h e (List.mem_cons_of_mem _ he)]; rfl
theorem blsOf_of {α : Type} (q : α → Bool) : ∀ l : List α, blsOf (l.map fun d => D.bl (q d)) = some (l.map q)
  | [] => rfl
  | a :: l => by rw [List.map_cons, blsOf, blsOf_of q l]; rfl
theorem strsOf_of {α : Type} (q : α → List Nat) : ∀ l : List α, strsOf (l.map fun d => D.str (q d)) = some (l.map q)
  | [] => rfl
  | a :: l => by rw [List.map_cons, strsOf, strsOf_of q l]; rfl
theorem all_map (q : D → Bool) (l : List D) : allD [.lst (l.map fun d => D.bl (q d))] = some (.bl (l.all q)) := by
  show (blsOf _).map _ = _
  rw [blsOf_of]
  simp [Function.comp_def]
theorem joinL_nil : ∀ l : List (List Nat), TL.joinL [] l = l.flatten
  | [] => rfl
  | [a] => by simp [TL.joinL]
  | a :: b :: l => by
    have := joinL_nil (b :: l)
    simp only [TL.joinL] at this ⊢
    rw [this]; simp
theorem cut_from {α : Type} (s : List α) (k : Nat) : cutN s (some (k : Int)) none = s.drop k := by
  unfold cutN
  rw [HT.sIx_nat, HT.sIx_none]
  by_cases h : k ≤ s.length
  · rw [Nat.min_eq_left h]
    exact List.take_of_length_le (by simp)
  · rw [Nat.min_eq_right (by omega), List.drop_of_length_le (by omega), List.drop_of_length_le (by omega)]; simp
theorem cut_to {α : Type} (s : List α) (k : Nat) : cutN s none (some (k : Int)) = s.take k := by
  unfold cutN
  rw [HT.sIx_nat, HT.sIx_none, List.drop_zero, Nat.sub_zero]
  by_cases h : k ≤ s.length
  · rw [Nat.min_eq_left h]
  · rw [Nat.min_eq_right (by omega), List.take_of_length_le (by omega), List.take_of_length_le (by omega)]
end Tk
namespace Tk
open PySem PySem.Spec PyProof.Rows L2 SX

theorem k_sz : 1000 ≤ sizeLine := by decide
theorem m_sz : 1000000 ≤ sizeLine := by decide
/-! ### steps of plain runs -/
section
variable {α β : Type} {ρ ρ1 ρ2 ρ3 : Cs} {d e z : D} {ds : List D} {m n ma mb : M D} {ms : M (List D)} {F : FnD} {i : Nat} {b : Bool}
theorem bnd_ok {m : M α} {k : α → M β} {a : α} (h : m ρ = some (.ok a ρ1)) : (m.bnd k) ρ = k a ρ1 := by unfold M.bnd; rw [h]
theorem mB_ok {f : D → D → Option D} (h1 : ma ρ = some (.ok d ρ1)) (h2 : mb ρ1 = some (.ok e ρ2)) (h3 : f d e = some z) : mB f ma mb ρ = some (.ok z ρ2) := by
  unfold mB; rw [bnd_ok h1, bnd_ok h2]; unfold lift; rw [h3]
theorem mU_ok {f : D → Option D} (h1 : ma ρ = some (.ok d ρ1)) (h3 : f d = some z) : mU f ma ρ = some (.ok z ρ1) := by
  unfold mU; rw [bnd_ok h1]; unfold lift; rw [h3]
theorem mC_ok {f : List D → Option D} (h1 : ms ρ = some (.ok ds ρ1)) (h3 : f ds = some z) : mC f ms ρ = some (.ok z ρ1) := by
  unfold mC; rw [bnd_ok h1]; unfold lift; rw [h3]
theorem nil_ok : mNil ρ = some (.ok [] ρ) := rfl
theorem cons_ok (h1 : m ρ = some (.ok d ρ1)) (h2 : ms ρ1 = some (.ok ds ρ2)) : mCons m ms ρ = some (.ok (d :: ds) ρ2) := by
  unfold mCons; rw [bnd_ok h1, bnd_ok h2]; rfl
theorem lst_ok (h : ms ρ = some (.ok ds ρ1)) (hl : ds.length ≤ 1000 := by first | decide | simp) : mLst ms ρ = some (.ok (.lst ds) ρ1) := by
  unfold mLst; rw [bnd_ok h]; unfold lift; rw [if_pos (Nat.le_trans hl k_sz)]
theorem tup_ok (h : ms ρ = some (.ok ds ρ1)) (hl : ds.length ≤ 1000 := by first | decide | simp) : mTup ms ρ = some (.ok (.tup ds) ρ1) := by
  unfold mTup; rw [bnd_ok h]; unfold lift; rw [if_pos (Nat.le_trans hl k_sz)]
theorem asg_ok {g : D → Cs → Option Cs} (h : m ρ = some (.ok d ρ1)) (hg : g d ρ1 = some ρ2) : asg m g ρ = some (.nx ρ2) := by
  unfold asg ev; rw [h]; dsimp only; rw [hg]
theorem asgO_ok (h : m ρ = some (.ok d ρ1)) (hg : put i (.ow false d) ρ1 = some ρ2) : asgO i m ρ = some (.nx ρ2) := by
  unfold asgO ev; rw [h]; dsimp only; rw [hg]
theorem sq_ok {u v : MS} (h : u ρ = some (.nx ρ1)) : sq u v ρ = v ρ1 := by unfold sq; rw [h]
theorem sq_rt {u v : MS} (h : u ρ = some (.rt d ρ1)) : sq u v ρ = some (.rt d ρ1) := by unfold sq; rw [h]
theorem ifS_t {mc : M Bool} {u v : MS} (h : mc ρ = some (.ok true ρ1)) : mIfS mc u v ρ = u ρ1 := by unfold mIfS ev; rw [h]; rfl
theorem ifS_f {mc : M Bool} {u v : MS} (h : mc ρ = some (.ok false ρ1)) : mIfS mc u v ρ = v ρ1 := by unfold mIfS ev; rw [h]; rfl
theorem if_t {mc : M Bool} (h : mc ρ = some (.ok true ρ1)) : mIf mc ma mb ρ = ma ρ1 := by unfold mIf; rw [bnd_ok h]; rfl
theorem if_f {mc : M Bool} (h : mc ρ = some (.ok false ρ1)) : mIf mc ma mb ρ = mb ρ1 := by unfold mIf; rw [bnd_ok h]; rfl
theorem tb_ok {k : Bool} (h : m ρ = some (.ok (.bl k) ρ1)) : tb m ρ = some (.ok k ρ1) := by unfold tb; rw [bnd_ok h]; rfl
theorem not_ok {k : Bool} {mc : M Bool} (h : mc ρ = some (.ok k ρ1)) : mNot mc ρ = some (.ok (!k) ρ1) := by unfold mNot; rw [bnd_ok h]; rfl
theorem or_f {k : Bool} {ma mb : M Bool} (h : ma ρ = some (.ok false ρ1)) (h2 : mb ρ1 = some (.ok k ρ2)) : mOr ma mb ρ = some (.ok k ρ2) := by unfold mOr; rw [bnd_ok h]; exact h2
theorem or_t {ma mb : M Bool} (h : ma ρ = some (.ok true ρ1)) : mOr ma mb ρ = some (.ok true ρ1) := by unfold mOr; rw [bnd_ok h]; rfl
theorem and_t {k : Bool} {ma mb : M Bool} (h : ma ρ = some (.ok true ρ1)) (h2 : mb ρ1 = some (.ok k ρ2)) : mAnd ma mb ρ = some (.ok k ρ2) := by unfold mAnd; rw [bnd_ok h]; exact h2
theorem and_f {ma mb : M Bool} (h : ma ρ = some (.ok false ρ1)) : mAnd ma mb ρ = some (.ok false ρ1) := by unfold mAnd; rw [bnd_ok h]; rfl
theorem notV_ok {k : Bool} (h : m ρ = some (.ok (.bl k) ρ1)) : mNotV m ρ = some (.ok (.bl (!k)) ρ1) := by unfold mNotV; rw [bnd_ok h]; rfl
theorem andV_t (h : ma ρ = some (.ok (.bl true) ρ1)) : mAndV ma mb ρ = mb ρ1 := by unfold mAndV; rw [bnd_ok h]
theorem andV_f (h : ma ρ = some (.ok (.bl false) ρ1)) : mAndV ma mb ρ = some (.ok (.bl false) ρ1) := by unfold mAndV; rw [bnd_ok h]; rfl
theorem ret_ok (h : m ρ = some (.ok d ρ1)) : retD m ρ = some (.rt d ρ1) := by unfold retD ev; rw [h]
theorem drop_ok (h : m ρ = some (.ok d ρ1)) : drop m ρ = some (.nx ρ1) := by unfold drop ev; rw [h]; rfl
theorem for_ok {mi : M (List D)} {g : D → Cs → Option Cs} {u : MS} (h : mi ρ = some (.ok ds ρ1)) : mFor mi g u ρ = forL (fun d => gS g d u) ds ρ1 := by unfold mFor ev; rw [h]
theorem gS_ok {g : D → Cs → Option Cs} {u : MS} (h : g d ρ = some ρ1) : gS g d u ρ = u ρ1 := by unfold gS; rw [h]
theorem it_ok {f : D → Option (List D)} (h : m ρ = some (.ok d ρ1)) (hf : f d = some ds) : mIt f m ρ = some (.ok ds ρ1) := by unfold mIt; rw [bnd_ok h]; unfold lift; rw [hf]
def intsD (lo : Int) (n : Nat) : List D := (List.range n).map fun (i : Nat) => .int (lo + i)
theorem rng_ok {k : Int} (h : m ρ = some (.ok (.int k) ρ1)) (hk : k.natAbs < 2 ^ 62) : mRng1 (mCons m mNil) ρ = some (.ok (intsD 0 k.toNat) ρ1) := by
  unfold mRng1; rw [bnd_ok (cons_ok h nil_ok)]; unfold lift rng1; dsimp only; rw [if_pos (by omega)]; rfl
theorem rng2_ok {j k : Int} (h : m ρ = some (.ok (.int j) ρ1)) (h2 : n ρ1 = some (.ok (.int k) ρ2)) (hj : j.natAbs < 2 ^ 62) (hk : k.natAbs < 2 ^ 62) : mRng2 (mCons m (mCons n mNil)) ρ = some (.ok (intsD j (k - j).toNat) ρ2) := by
  unfold mRng2; rw [bnd_ok (cons_ok h (cons_ok h2 nil_ok))]; unfold lift rng2; dsimp only; rw [if_pos (by omega)]; rfl
/-! calls -/
theorem callK_1 (hk : F.ks = [.p]) (h : F.sem [d] = some (.ret z [])) : callK F [.p d] ρ = some (.ok z ρ) := by
  unfold callK; rw [if_pos (by rw [hk]; simp [lentSl, numT]), hk]; simp [argDs, h, putOuts, lentSl]
theorem callK_2 (hk : F.ks = [.p, .p]) (h : F.sem [d, e] = some (.ret z [])) : callK F [.p d, .p e] ρ = some (.ok z ρ) := by
  unfold callK; rw [if_pos (by rw [hk]; simp [lentSl, numT]), hk]; simp [argDs, h, putOuts, lentSl]
theorem callK_3 {e2 : D} (hk : F.ks = [.p, .p, .p]) (h : F.sem [d, e, e2] = some (.ret z [])) : callK F [.p d, .p e, .p e2] ρ = some (.ok z ρ) := by
  unfold callK; rw [if_pos (by rw [hk]; simp [lentSl, numT]), hk]; simp [argDs, h, putOuts, lentSl]
theorem callK_e1 {c : Nat} {p : D} (hk : F.ks = [.p]) (h : F.sem [d] = some (.exc c p [])) : callK F [.p d] ρ = some (.ex c p ρ) := by
  unfold callK; rw [if_pos (by rw [hk]; simp [lentSl, numT]), hk]; simp [argDs, h, putOuts, lentSl]
theorem callK_e2 {c : Nat} {p : D} (hk : F.ks = [.p, .p]) (h : F.sem [d, e] = some (.exc c p [])) : callK F [.p d, .p e] ρ = some (.ex c p ρ) := by
  unfold callK; rw [if_pos (by rw [hk]; simp [lentSl, numT]), hk]; simp [argDs, h, putOuts, lentSl]
theorem callK_o (hk : F.ks = [.o]) (hi : ρ[i]? = some (.ow b d)) (h : F.sem [d] = some (.ret z [e])) : callK F [.o i] ρ = some (.ok z (ρ.set i (.ow b e))) := by
  unfold callK; rw [if_pos (by rw [hk]; simp [lentSl, numT]), hk]; simp [argDs, hi, h, putOuts, lentSl]
theorem callK_o1 {d1 : D} (hk : F.ks = [.o, .p]) (hi : ρ[i]? = some (.ow b d)) (h : F.sem [d, d1] = some (.ret z [e])) : callK F [.o i, .p d1] ρ = some (.ok z (ρ.set i (.ow b e))) := by
  unfold callK; rw [if_pos (by rw [hk]; simp [lentSl, numT]), hk]; simp [argDs, hi, h, putOuts, lentSl]
theorem callK_o2 {d1 d2 : D} (hk : F.ks = [.o, .p, .p]) (hi : ρ[i]? = some (.ow b d)) (h : F.sem [d, d1, d2] = some (.ret z [e])) : callK F [.o i, .p d1, .p d2] ρ = some (.ok z (ρ.set i (.ow b e))) := by
  unfold callK; rw [if_pos (by rw [hk]; simp [lentSl, numT]), hk]; simp [argDs, hi, h, putOuts, lentSl]
theorem call_1 (hk : F.ks = [.p]) (h0 : m ρ = some (.ok d ρ1)) (h : F.sem [d] = some (.ret z [])) : mCall F (aP m aNil) ρ = some (.ok z ρ1) := by
  unfold mCall aP; rw [bnd_ok (a := [.p d]) (ρ1 := ρ1) (by rw [bnd_ok h0]; rfl)]; exact callK_1 hk h
theorem call_2 (hk : F.ks = [.p, .p]) (h0 : m ρ = some (.ok d ρ1)) (h1 : n ρ1 = some (.ok e ρ2)) (h : F.sem [d, e] = some (.ret z [])) : mCall F (aP m (aP n aNil)) ρ = some (.ok z ρ2) := by
  unfold mCall aP; rw [bnd_ok (a := [.p d, .p e]) (ρ1 := ρ2) (by rw [bnd_ok h0, bnd_ok (a := [.p e]) (ρ1 := ρ2) (by rw [bnd_ok h1]; rfl)]; rfl)]; exact callK_2 hk h
theorem call_3 {o : M D} {e2 : D} (hk : F.ks = [.p, .p, .p]) (h0 : m ρ = some (.ok d ρ1)) (h1 : n ρ1 = some (.ok e ρ2)) (h2 : o ρ2 = some (.ok e2 ρ3)) (h : F.sem [d, e, e2] = some (.ret z [])) : mCall F (aP m (aP n (aP o aNil))) ρ = some (.ok z ρ3) := by
  unfold mCall aP; rw [bnd_ok (a := [.p d, .p e, .p e2]) (ρ1 := ρ3) (by rw [bnd_ok h0, bnd_ok (a := [.p e, .p e2]) (ρ1 := ρ3) (by rw [bnd_ok h1, bnd_ok (a := [.p e2]) (ρ1 := ρ3) (by rw [bnd_ok h2]; rfl)]; rfl)]; rfl)]; exact callK_3 hk h
theorem call_e1 {c : Nat} {p : D} (hk : F.ks = [.p]) (h0 : m ρ = some (.ok d ρ1)) (h : F.sem [d] = some (.exc c p [])) : mCall F (aP m aNil) ρ = some (.ex c p ρ1) := by
  unfold mCall aP; rw [bnd_ok (a := [.p d]) (ρ1 := ρ1) (by rw [bnd_ok h0]; rfl)]; exact callK_e1 hk h
theorem call_e2 {c : Nat} {p : D} (hk : F.ks = [.p, .p]) (h0 : m ρ = some (.ok d ρ1)) (h1 : n ρ1 = some (.ok e ρ2)) (h : F.sem [d, e] = some (.exc c p [])) : mCall F (aP m (aP n aNil)) ρ = some (.ex c p ρ2) := by
  unfold mCall aP; rw [bnd_ok (a := [.p d, .p e]) (ρ1 := ρ2) (by rw [bnd_ok h0, bnd_ok (a := [.p e]) (ρ1 := ρ2) (by rw [bnd_ok h1]; rfl)]; rfl)]; exact callK_e2 hk h
theorem aO_ok {k : Nat} {as : M (List Arg)} {c : List Arg} (hi : isOw ρ k = true) (h : as ρ = some (.ok c ρ1)) : aO k as ρ = some (.ok (.o k :: c) ρ1) := by
  obtain ⟨b, d, e⟩ := isOw_is hi
  unfold aO; rw [e]; dsimp only; rw [bnd_ok h]; rfl
theorem call_o (hk : F.ks = [.o]) (hi : ρ[i]? = some (.ow b d)) (h : F.sem [d] = some (.ret z [e])) : mCall F (aO i aNil) ρ = some (.ok z (ρ.set i (.ow b e))) := by
  unfold mCall; rw [bnd_ok (a := [.o i]) (ρ1 := ρ) (aO_ok (by unfold isOw; rw [hi]) rfl)]; exact callK_o hk hi h
theorem call_o1 {d1 : D} (hk : F.ks = [.o, .p]) (h0 : isOw ρ i = true) (hm : m ρ = some (.ok d1 ρ1)) (hi : ρ1[i]? = some (.ow b d)) (h : F.sem [d, d1] = some (.ret z [e])) : mCall F (aO i (aP m aNil)) ρ = some (.ok z (ρ1.set i (.ow b e))) := by
  unfold mCall; rw [bnd_ok (a := [.o i, .p d1]) (ρ1 := ρ1) (aO_ok h0 (by unfold aP; rw [bnd_ok hm]; rfl))]; exact callK_o1 hk hi h
theorem call_o2 {d1 d2 : D} (hk : F.ks = [.o, .p, .p]) (h0 : isOw ρ i = true) (hm : m ρ = some (.ok d1 ρ1)) (hn : n ρ1 = some (.ok d2 ρ2)) (hi : ρ2[i]? = some (.ow b d)) (h : F.sem [d, d1, d2] = some (.ret z [e])) : mCall F (aO i (aP m (aP n aNil))) ρ = some (.ok z (ρ2.set i (.ow b e))) := by
  unfold mCall; rw [bnd_ok (a := [.o i, .p d1, .p d2]) (ρ1 := ρ2) (aO_ok h0 (by unfold aP; rw [bnd_ok hm, bnd_ok (a := [.p d2]) (ρ1 := ρ2) (by rw [bnd_ok hn]; rfl)]; rfl))]; exact callK_o2 hk hi h
theorem run_rt {k : Nat} {ks : List Kd} {u : MS} {as outs : List D} (h : u (init k ks as) = some (.rt d ρ1)) (ho : outAt ρ1 0 ks = some outs) : runF k ks false u as = some (.ret d outs) := by
  unfold runF; rw [h]; dsimp only; rw [if_neg (by decide), ho]; rfl
end
theorem try_nx {i c : Nat} {u : MS} {ms : D → MS} {ρ ρ1 : Cs} (h : u ρ = some (.nx ρ1)) : tryM i c u ms ρ = some (.nx ρ1) := by unfold tryM; rw [h]
theorem try_ex {i c : Nat} {u : MS} {ms : D → MS} {ρ ρ1 : Cs} {p : D} {r : RS} (h : u ρ = some (.ex c p ρ1)) (hu : ρ1[i]? = some .un) (hs : ms p ρ1 = some r) (hn : noEx r = true) : tryM i c u ms ρ = some (unRS i r) := by
  unfold tryM; rw [h]; dsimp only; rw [if_pos rfl, hu]; dsimp only; rw [hs]; dsimp only; rw [if_pos hn]
theorem drop_ex {m : M D} {ρ ρ1 : Cs} {c : Nat} {p : D} (h : m ρ = some (.ex c p ρ1)) : drop m ρ = some (.ex c p ρ1) := by unfold drop ev; rw [h]
theorem kw1_ok {F : FnD} {m : M D} {ρ ρ1 : Cs} {d z : D} (hk : F.ks = [.p]) (h0 : m ρ = some (.ok d ρ1)) (h : F.sem [d] = some (.ret z [])) : M.bnd (aP m aNil) (fun bs => if bs.length = 1 then callK F (pick [0] bs) else lift none) ρ = some (.ok z ρ1) := by
  rw [bnd_ok (a := [.p d]) (ρ1 := ρ1) (by unfold aP; rw [bnd_ok h0]; rfl)]; exact callK_1 hk h
/-! ### places -/
theorem ixN_of {n : Nat} {k : Int} (h0 : 0 ≤ k) (h1 : k < n) : ixN n k = some k.toNat := by unfold ixN; rw [if_pos h0, if_pos h1]
theorem ix_lst {l : List D} {k : Int} (h0 : 0 ≤ k) (h1 : k < l.length) : ∃ d, d ∈ l ∧ l[k.toNat]? = some d ∧ ixD (.lst l) (.int k) = some d := by
  have hlt : k.toNat < l.length := by omega
  refine ⟨l[k.toNat], List.getElem_mem hlt, List.getElem?_eq_getElem hlt, ?_⟩
  show (ixN l.length k).bind (fun k => l[k]?) = _
  rw [ixN_of h0 h1]
  exact List.getElem?_eq_getElem hlt
theorem ix_str {s : List Nat} {k : Int} (hl : s.length ≤ 1000000) (h0 : 0 ≤ k) (h1 : k < s.length) : ∃ c, c ∈ s ∧ s[k.toNat]? = some c ∧ ixD (.str s) (.int k) = some (.str [c]) := by
  have hlt : k.toNat < s.length := by omega
  refine ⟨s[k.toNat], List.getElem_mem hlt, List.getElem?_eq_getElem hlt, ?_⟩
  show (if s.length ≤ sizeLine then ((ixN s.length k).bind fun k => s[k]?).map fun c => D.str [c] else none) = _
  rw [if_pos (Nat.le_trans (by first | exact h | exact hl) m_sz), ixN_of h0 h1]
  show (s[k.toNat]?).map _ = _
  rw [List.getElem?_eq_getElem hlt]; rfl
theorem add_str {a b : List Nat} (h : a.length + b.length ≤ 1000000) : addD (.str a) (.str b) = some (.str (a ++ b)) := if_pos (Nat.le_trans (by first | exact h | exact hl) m_sz)
theorem len_str {a : List Nat} (h : a.length ≤ 1000000) : lenD [.str a] = some (.int a.length) := if_pos (Nat.le_trans (by first | exact h | exact hl) m_sz)
theorem up_str {a : List Nat} (h : asc a = true) (hl : a.length ≤ 1000000) : upD (.str a) = some (.str (a.map up1)) := if_pos ⟨h, by omega⟩
theorem lo_str {a : List Nat} (h : asc a = true) (hl : a.length ≤ 1000000) : loD (.str a) = some (.str (a.map lo1)) := if_pos ⟨h, by omega⟩
theorem sl_to {m n : M D} {s : List Nat} {k : Nat} {ρ ρ1 ρ2 : Cs} (h : m ρ = some (.ok (.str s) ρ1)) (hn : n ρ1 = some (.ok (.int k) ρ2)) (hl : s.length ≤ 1000000) : mSl m mNoPart (mPart n) ρ = some (.ok (.str (s.take k)) ρ2) := by
  unfold mSl mPart mNoPart
  rw [bnd_ok h, bnd_ok (a := none) (ρ1 := ρ1) rfl, bnd_ok (a := some (k : Int)) (ρ1 := ρ2) (by rw [bnd_ok hn]; rfl)]
  unfold lift Tk.cutD
  dsimp only
  rw [if_pos (Nat.le_trans hl m_sz), cut_to]
theorem sl_from {m n : M D} {s : List Nat} {k : Nat} {ρ ρ1 ρ2 : Cs} (h : m ρ = some (.ok (.str s) ρ1)) (hn : n ρ1 = some (.ok (.int k) ρ2)) (hl : s.length ≤ 1000000) : mSl m (mPart n) mNoPart ρ = some (.ok (.str (s.drop k)) ρ2) := by
  unfold mSl mPart mNoPart
  rw [bnd_ok h, bnd_ok (a := some (k : Int)) (ρ1 := ρ2) (by rw [bnd_ok hn]; rfl), bnd_ok (a := none) (ρ1 := ρ2) rfl]
  unfold lift Tk.cutD
  dsimp only
  rw [if_pos (Nat.le_trans hl m_sz), cut_from]
def Pl (c : Cell) : Prop := c = .un ∨ ∃ d, c = .pu d
end Tk
namespace Tk
open PySem PySem.Spec PyProof.Rows L2 SX
section
variable {X : Cx} {Xs : List XC} {W : WX} {e a b c o tg : Expr} {es : List Expr} {pos p apos cpos p2 spos tpos : Pos} {st : Stmt} {x : Str}
/-! ### a op b op c -/
def mChn (f f' : D → D → Option D) (ma mb mc : M D) : M D := ma.bnd fun x => mb.bnd fun y => match f x y with
  | some (.bl true) => mc.bnd fun z => lift (f' y z)
  | some (.bl false) => M.ret (.bl false)
  | _ => lift none
theorem chn_do {r r' : R2} {f f' : D → D → Option D} {ma mb mc : M D} (hf : BinR X r f) (hf' : BinR X r' f') {σ : L2.St} {H : Hp} {Q : VK} (h : rX X.K Xs W (RlE X.K) (mChn f f' ma mb mc) σ H Q) : tChain r r' (rX X.K Xs W (RlE X.K) ma) (rX X.K Xs W (RlE X.K) mb) (rX X.K Xs W (RlE X.K) mc) σ H Q := by
  obtain ⟨B, G, ρ, s, h⟩ := h
  refine r1.bind (Rl := RlE X.K) s h fun x H1 d G1 ρ1 s1 e1 rx h1 => ?_
  refine r1.bind (Rl := RlE X.K) s1 h1 fun y H2 d2 G2 ρ2 s2 e2 ry h2 => ?_
  cases hz : f d d2 with
  | none => rw [hz] at h2; obtain ⟨z, hz, _⟩ := h2.lifted; cases hz
  | some z =>
    rw [hz] at h2
    refine hf G2 H2 x y d d2 z _ s2.ex (rx.mono e2) ry hz fun v G' H' fr rv => ?_
    have s3 := s2.step fr
    cases z with
    | bl k =>
      cases rv
      refine ⟨k, rfl, ?_⟩
      cases k with
      | true =>
        have h2 := h2.mono fr.g
        show rX X.K Xs W (RlE X.K) mc σ H' _
        refine r1.bind (Rl := RlE X.K) s3 h2 fun w H4 d4 G4 ρ4 s4 e4 rw' h4 => ?_
        obtain ⟨z, hz, q⟩ := h4.lifted
        exact hf' G4 H4 y w d2 d4 z Q s4.ex ((ry.mono fr.g).mono e4) rw' hz fun v G' H' fr rv => q v G' H' (s4.step fr) fr.g rv
      | false =>
        have h2 := h2.mono fr.g
        exact h2.reted _ G' H' s3 (Ex.refl _) (.bl false)
    | _ => obtain ⟨z, hz, _⟩ := h2.lifted; cases hz
theorem se_chn {op op' : CmpOp} {r r' : R2} {f f' : D → D → Option D} {ma mb mc : M D} (ho : OpR X (compareOp op) r) (hf : BinR X r f) (ho' : OpR X (compareOp op') r') (hf' : BinR X r' f') (ha : SE X Xs W a ma) (hb : SE X Xs W b mb) (hc : SE X Xs W c mc)
    (hm : lastMarks [op, op'] [b, c] = false := by with_unfolding_all rfl) : SE X Xs W (.Compare a [op, op'] [b, c] pos) (mChn f f' ma mb mc) :=
  pe_imp (pe_chain ho ho' ha hb hc hm) fun σ H Q h => chn_do hf hf' h
theorem tb_read {m : M D} {σ : L2.St} {H : Hp} {Q : Bool → Hp → Prop} (h : rX X.K Xs W RlT (tb m) σ H Q) : rX X.K Xs W (RlE X.K) m σ H fun x H' => ∃ k, x = .bl k ∧ Q k H' := by
  obtain ⟨B, G, ρ, s, h⟩ := h
  refine r1.bind (Rl := RlE X.K) s h fun x H1 d G1 ρ1 s1 e1 rx h1 => ?_
  cases d <;> first | (cases rx; exact ⟨_, rfl, h1.reted _ G1 H1 s1 (Ex.refl _) rfl⟩) | (obtain ⟨z, hz, _⟩ := h1.lifted; cases hz)
theorem st_chn {op op' : CmpOp} {r r' : R2} {f f' : D → D → Option D} {ma mb mc : M D} (ho : OpR X (compareOp op) r) (hf : BinR X r f) (ho' : OpR X (compareOp op') r') (hf' : BinR X r' f') (ha : SE X Xs W a ma) (hb : SE X Xs W b mb) (hc : SE X Xs W c mc)
    (hm : lastMarks [op, op'] [b, c] = false := by with_unfolding_all rfl) : ST X Xs W (.Compare a [op, op'] [b, c] pos) (tb (mChn f f' ma mb mc)) :=
  pt_imp (pt_chain ho ho' ha hb hc hm) fun σ H Q h => chn_do hf hf' (tb_read h)
/-! ### x += e of a plain value -/
def iaddD : D → D → Option D
  | .int a, .int b => some (.int (a + b))
  | .str a, .str b => if a.length + b.length ≤ sizeLine then some (.str (a ++ b)) else none
  | _, _ => none
abbrev rIadd : R2 := fun x y H Q => rI0 (fun i j => .int (i + j)) x y H Q ∨ (∃ i j, x = .str i ∧ y = .str j ∧ i.length + j.length ≤ sizeLine ∧ Q (.str (i ++ j)) H)
theorem iop_addX : OpR X (inplaceOp .Add) rIadd := iop_add.or iop_add_str
theorem ib_add : BinR X rIadd iaddD := by
  intro G H x y d e z Q ex rx ry h q
  cases rx <;> cases ry <;> first | (cases h; done) | skip
  · cases h; exact .inl ⟨_, _, rfl, rfl, q _ G H (Fr.refl ex) (.int _)⟩
  · rename_i a b
    obtain ⟨hl, rfl⟩ := ite_inv h
    refine .inr ⟨_, _, rfl, rfl, by rw [S_len, S_len]; exact hl, ?_⟩
    rw [S_cat]
    exact q _ G H (Fr.refl ex) (.str _)
theorem ib_sub : BinR X (rI0 fun i j => .int (i - j)) subD := b_sub
theorem ib_div : BinR X (rI CDivW fun i j => .int (i / j)) divD := b_div
/-! ### a new list out of two -/
def mCat (m n : M D) : M D := mB (fun x y => match x, y with | .lst a, .lst b => if a.length + b.length ≤ sizeLine then some (.lst (a ++ b)) else none | _, _ => none) m n
theorem so_cat {m n : M D} (ha : SE X Xs W a m) (hb : SE X Xs W b n) : SO X Xs W (.BinOp a .Add b pos) (mCat m n) := by
  refine pe_imp (pe_op op_cat ha hb) fun σ H Q ⟨B, G, ρ, s, r, h1, h2⟩ => ?_
  unfold mCat mB M.bnd at h1
  cases em : m ρ with
  | none => rw [em] at h1; cases h1
  | some q =>
    rw [em] at h1
    show rX X.K Xs W (RlE X.K) m σ H _
    cases q with
    | ex c p ρ1 => cases h1; exact ⟨B, G, ρ, s, _, em, h2⟩
    | ok d ρ1 =>
      refine ⟨B, G, ρ, s, _, em, fun v G1 H1 s1 e1 rv => ?_⟩
      dsimp only at h1
      show rX X.K Xs W (RlE X.K) n σ H1 _
      cases en : n ρ1 with
      | none => rw [en] at h1; cases h1
      | some q2 =>
        rw [en] at h1
        cases q2 with
        | ex c p ρ2 => cases h1; exact ⟨B, G1, ρ1, s1, _, en, h2⟩
        | ok d2 ρ2 =>
          refine ⟨B, G1, ρ1, s1, _, en, fun w G2 H2 s2 e2 rw' => ?_⟩
          dsimp only at h1
          have rv := rv.mono e2
          unfold lift at h1
          cases rv <;> first | (cases h1; done) | skip
          cases rw' <;> first | (cases h1; done) | skip
          rename_i a1 vs ds ha1 rs a2 ws es' ha2 rt
          dsimp only at h1
          by_cases hl : ds.length + es'.length ≤ sizeLine
          · rw [if_pos hl] at h1
            cases h1
            refine ⟨a1, a2, vs, ws, rfl, rfl, s2.ex _ _ ha1, s2.ex _ _ ha2, by rw [rs.length, rt.length]; exact hl, fun p hp => ?_⟩
            have f := Fr.allocO (o := .lst (vs ++ ws)) s2.ex hp
            exact h2 p (.lst (vs ++ ws)) G2 _ (s2.step f) (e1.trans e2) upd_same (rs.append rt) (s2.newO hp f)
          · rw [if_neg hl] at h1; cases h1
/-! ### enumerate of a list -/
def enD : Nat → List D → List D
  | _, [] => []
  | i, d :: ds => .tup [.int i, d] :: enD (i + 1) ds
theorem enD_len : ∀ (i : Nat) (ds : List D), (enD i ds).length = ds.length
  | _, [] => rfl
  | i, d :: ds => by simp [enD, enD_len (i + 1) ds]
theorem enD_get : ∀ {k : Nat} {ds : List D} {i : Nat} {z d : D}, (enD k ds)[i]? = some z → ds[i]? = some d → z = .tup [.int ((k + i : Nat) : Int), d]
  | _, [], i, z, d, h, _ => by simp [enD] at h
  | k, x :: ds, 0, z, d, h, h2 => by simp [enD] at h h2; rw [← h, h2]; simp
  | k, x :: ds, i + 1, z, d, h, h2 => by
    have := enD_get (k := k + 1) (ds := ds) (i := i) (z := z) (d := d) (by simpa [enD] using h) (by simpa using h2)
    rw [this, show k + 1 + i = k + (i + 1) by omega]
end
end Tk
namespace Tk
open PySem PySem.Spec PyProof.Rows L2 SX
section
variable {X : Cx} {Xs : List XC} {W : WX} {e a b c o tg : Expr} {es : List Expr} {pos p apos cpos p2 spos tpos : Pos} {st : Stmt} {x : Str}
/-- x + b, x our own list as it stands behind b: a new list -/
def kCat (i : Nat) (e : D) : M D := fun ρ => match ρ[i]?, e with
  | some (.ow _ (.lst a)), .lst b => if a.length + b.length ≤ sizeLine then some (.ok (.lst (a ++ b)) ρ) else none
  | _, _ => none
def mCatO (i : Nat) (n : M D) : M D := fun ρ => if isOw ρ i = true then (n.bnd (kCat i)) ρ else none
theorem so_catO {n : M D} (i : Nat) (hN : X.N[i]? = some x) (hv : Vis X.env.scope x) (hb : SE X Xs W b n) (hd : (x == ("__debug__" : Str)) = false := by decide) (hcd : (x == ("__classdict__" : Str)) = false := by decide) : SO X Xs W (.BinOp (.Name x p) .Add b pos) (mCatO i n) := by
  refine pe_imp (pe_op op_cat (pe_ref (i := i) hN hv hd hcd) hb) fun σ H Q ⟨B, G, ρ, s, r, h1, h2⟩ => ?_
  unfold mCatO at h1
  by_cases hi : isOw ρ i = true
  · rw [if_pos hi] at h1
    obtain ⟨a0, ha⟩ := (isOw_is hi).at s
    refine ⟨.ref a0, ha, ?_⟩
    unfold M.bnd at h1
    show rX X.K Xs W (RlE X.K) n σ H _
    cases en : n ρ with
    | none => rw [en] at h1; cases h1
    | some q =>
      rw [en] at h1
      cases q with
      | ex c p ρ1 => cases h1; exact ⟨B, G, ρ, s, _, en, h2⟩
      | ok d ρ1 =>
        refine ⟨B, G, ρ, s, _, en, fun w G1 H1 s1 e1 rw' => ?_⟩
        dsimp only at h1
        unfold kCat at h1
        split at h1
        · rename_i bb as bs ed
          obtain ⟨a', u, k1, k2, k3, k4, k5⟩ := s1.ow i bb _ ed
          rw [ha] at k1; cases k1
          obtain ⟨vs, rfl, rs⟩ := list_ty k5 k4
          cases rw' with
          | lst hb rt =>
            rename_i a2 ws
            by_cases hl : as.length + bs.length ≤ sizeLine
            · rw [if_pos hl] at h1
              cases h1
              refine ⟨a0, a2, vs, ws, rfl, rfl, k4, s1.ex _ _ hb, by rw [rs.length, rt.length]; exact hl, fun p hp => ?_⟩
              have f := Fr.allocO (o := .lst (vs ++ ws)) s1.ex hp
              exact h2 p (.lst (vs ++ ws)) G1 _ (s1.step f) e1 upd_same (rs.append rt) (s1.newO hp f)
            · rw [if_neg hl] at h1; cases h1
        · cases h1
  · rw [if_neg hi] at h1; cases h1
/-! ### isinstance(x, (T, U)) -/
def mIsi2 (T U : Ty) (m : M D) : M D := mU (fun d => some (.bl (subTy (tyD d) T || subTy (tyD d) U))) m
theorem se_isi2 {t u : Str} {m : M D} {kk : Nat} {q q2 : Pos} (T U : Ty) (hg : Gl X "isinstance") (hm : X.mg "isinstance" = none) (hgt : Gl X t) (hmt : X.mg t = none) (hv : bootBuiltins t = some (.type T.nm)) (hgu : Gl X u) (hmu : X.mg u = none) (hvu : bootBuiltins u = some (.type U.nm)) (ha : SE X Xs W a m)
    (hnt : t ≠ "__name__" := by decide) (hdt : (t == ("__debug__" : Str)) = false := by decide) (hnu : u ≠ "__name__" := by decide) (hdu : (u == ("__debug__" : Str)) = false := by decide)
    (he : starEach [a, .Tuple [.Name t q, .Name u q2] kk p2] X.env = (false, eval a X.env) :: starEach [.Tuple [.Name t q, .Name u q2] kk p2] X.env := by rfl)
    (he2 : starEach [.Tuple [.Name t q, .Name u q2] kk p2] X.env = (false, eval (.Tuple [.Name t q, .Name u q2] kk p2) X.env) :: starEach [] X.env := by rfl) (hpl : (backTo pos (starEach [.Tuple [.Name t q, .Name u q2] kk p2] X.env)).any (·.1) = false := by rfl)
    (he3 : starEach [.Name t q, .Name u q2] X.env = (false, eval (.Name t q) X.env) :: starEach [.Name u q2] X.env := by rfl) (he4 : starEach [.Name u q2] X.env = (false, eval (.Name u q2) X.env) :: starEach [] X.env := by rfl) :
    SE X Xs W (.Call (.Name "isinstance" p) [a, .Tuple [.Name t q, .Name u q2] kk p2] [] pos) (mIsi2 T U m) := by
  refine pe_imp (pe_callB call_isiT hg hm (by decide) (pa_cons ha (pa_cons (pe_tup (pa_cons (pe_bltn (v := .ty T.nm) hgt hmt hv rfl hnt hdt) (pa_cons (pe_bltn (v := .ty U.nm) hgu hmu hvu rfl hnu hdu) pa_nil he4) he3)) pa_nil he2) he) (by decide) (by decide) he hpl) fun σ H Q ⟨B, G, ρ, s, h⟩ => ?_
  refine r1.bind (Rl := RlE X.K) s h fun x H1 d G1 ρ1 s1 e1 rx h1 => ?_
  obtain ⟨z, hz, qq⟩ := h1.lifted
  cases hz
  refine ⟨by show 2 ≤ sizeLine; decide, fun tp hp => ?_⟩
  have f := Fr.alloc (o := .tup [.ty T.nm, .ty U.nm]) s1.ex hp
  have s2 := s1.step f
  refine ⟨x, tp, [.ty T.nm, .ty U.nm], .type (tyD d).nm, [.type T.nm, .type U.nm], _, rfl, upd_same, .cons (.ty _) (.cons (.ty _) .nil), ty_rep s2.ex (rx.mono f.g), ?_, qq _ _ _ s2 f.g (.bl _)⟩
  refine kitAny_cons (b := subTy (tyD d) T) (kit_ty (sub_ok _ _)) (fun e => ?_) (fun e => by rw [e]; rfl)
  rw [e, Bool.false_or]
  refine kitAny_cons (b := subTy (tyD d) U) (kit_ty (sub_ok _ _)) (fun e => ?_) (fun e => e)
  rw [e]; exact kitAny_nil
end
end Tk
namespace Tk
open PySem PySem.Spec PyProof.Rows L2 SX
/-! ### wp: what a plain run must give -/
/-- a word that keeps simp out of what stands behind -/
inductive Bx {α : Type} (x : α) : Type | mk
def Wo {α : Type} (o : Option α) (Q : α → Prop) (_b : Bx Q := .mk) : Prop := ∃ a, o = some a ∧ Q a
def Wm {α : Type} (m : M α) (ρ : Cs) (Q : R α → Prop) (_b : Bx Q := .mk) : Prop := ∃ r, m ρ = some r ∧ Q r
def Ws (m : MS) (ρ : Cs) (Q : RS → Prop) (_b : Bx Q := .mk) : Prop := ∃ r, m ρ = some r ∧ Q r
/-- what behind a value, what behind an exception -/
def kb {α β : Type} (k : α → M β) (Q : R β → Prop) : R α → Prop
  | .ok a ρ => Wm (k a) ρ Q
  | .ex c p ρ => Q (.ex c p ρ)
def ks {α : Type} (k : α → MS) (Q : RS → Prop) : R α → Prop
  | .ok a ρ => Ws (k a) ρ Q
  | .ex c p ρ => Q (.ex c p ρ)
def kq (n : MS) (Q : RS → Prop) : RS → Prop
  | .nx ρ => Ws n ρ Q
  | .bk ρ => Q (.bk ρ)
  | .ct ρ => Q (.ct ρ)
  | .rt d ρ => Q (.rt d ρ)
  | .ro d ρ => Q (.ro d ρ)
  | .ex c p ρ => Q (.ex c p ρ)
def Wf (F : FnD) (ds : List D) (Q : FR → Prop) (_b : Bx Q := .mk) : Prop := Wo (F.sem ds) Q
/-- a variable's data; an own object's; a variable that may be stored -/
def Vp (c : Option Cell) (K : D → Prop) (_b : Bx K := .mk) : Prop := match c with | some (.pu d) => K d | _ => False
def Vo (c : Option Cell) (K : Bool → D → Prop) (_b : Bx K := .mk) : Prop := match c with | some (.ow b d) => K b d | _ => False
def Vl (c : Option Cell) (K : Bool → List D → Prop) (_b : Bx K := .mk) : Prop := match c with | some (.ow b (.lst d)) => K b d | _ => False
def Vs (c : Option Cell) (P : Prop) (_b : Bx P := .mk) : Prop := match c with | some .un => P | some (.pu _) => P | some (.ow false _) => P | _ => False
def Wg (g : Option Cs) (Q : Cs → Prop) (_b : Bx Q := .mk) : Prop := Wo g Q
section
variable {α β : Type}
theorem vp_pu {d : D} {K : D → Prop} : Vp (some (.pu d)) K = K d := rfl
def Vr (c : Option Cell) (K : Bool × Bool → Sh → D → Prop) (_b : Bx K := .mk) : Prop := match c with | some (.tr b s d) => K b s d | _ => False
theorem vr_tr {b : Bool × Bool} {s : Sh} {d : D} {K : Bool × Bool → Sh → D → Prop} : Vr (some (.tr b s d)) K = K b s d := rfl
theorem vo_ow {b : Bool} {d : D} {K : Bool → D → Prop} : Vo (some (.ow b d)) K = K b d := rfl
theorem vl_ow {b : Bool} {d : List D} {K : Bool → List D → Prop} : Vl (some (.ow b (.lst d))) K = K b d := rfl
theorem vs_un {P : Prop} : Vs (some .un) P = P := rfl
theorem vs_pu {d : D} {P : Prop} : Vs (some (.pu d)) P = P := rfl
theorem vs_ow {d : D} {P : Prop} : Vs (some (.ow false d)) P = P := rfl
theorem vs_pl {c : Cell} {P : Prop} (h : Pl c) : Vs (some c) P = P := by rcases h with rfl | ⟨d, rfl⟩ <;> rfl
theorem Wo.imp {o : Option α} {Q Q' : α → Prop} (h : Wo o Q) (f : ∀ a, Q a → Q' a) : Wo o Q' := let ⟨a, h1, h2⟩ := h; ⟨a, h1, f a h2⟩
theorem Wm.imp {ρ : Cs} {m : M α} {Q Q' : R α → Prop} (h : Wm m ρ Q) (f : ∀ a, Q a → Q' a) : Wm m ρ Q' := let ⟨a, h1, h2⟩ := h; ⟨a, h1, f a h2⟩
theorem Ws.imp {ρ : Cs} {m : MS} {Q Q' : RS → Prop} (h : Ws m ρ Q) (f : ∀ a, Q a → Q' a) : Ws m ρ Q' := let ⟨a, h1, h2⟩ := h; ⟨a, h1, f a h2⟩
theorem Wf.imp {F : FnD} {ds : List D} {Q Q' : FR → Prop} (h : Wf F ds Q) (f : ∀ r, Q r → Q' r) : Wf F ds Q' := Wo.imp h f
theorem Wf.eq {F : FnD} {ds : List D} {r : FR} (h : Wf F ds (· = r)) : F.sem ds = some r := by obtain ⟨a, h1, rfl⟩ := h; exact h1
theorem wo_some {a : α} {Q : α → Prop} : Wo (some a) Q = Q a := propext ⟨fun ⟨b, h1, h2⟩ => by cases h1; exact h2, fun h => ⟨a, rfl, h⟩⟩
theorem wo_none {Q : α → Prop} : Wo none Q = False := propext ⟨fun ⟨b, h1, h2⟩ => (nomatch h1), fun h => h.elim⟩
theorem wo_if {c : Prop} [Decidable c] {a : α} {Q : α → Prop} : Wo (if c then some a else none) Q = (c ∧ Q a) := propext ⟨fun h => by
    by_cases hc : c
    · rw [if_pos hc, wo_some] at h; exact ⟨hc, h⟩
    · rw [if_neg hc, wo_none] at h; exact h.elim, fun ⟨h1, h2⟩ => by rw [if_pos h1, wo_some]; exact h2⟩
theorem wo_map {o : Option β} {f : β → α} {Q : α → Prop} : Wo (o.map f) Q = Wo o fun a => Q (f a) := by cases o <;> simp [wo_some, wo_none]
theorem wo_bind {o : Option β} {f : β → Option α} {Q : α → Prop} : Wo (o.bind f) Q = Wo o fun a => Wo (f a) Q := by cases o <;> simp [wo_some, wo_none]
theorem wo_eq {o : Option α} {a : α} {Q : α → Prop} (h : o = some a) : Wo o Q = Q a := by rw [h, wo_some]
theorem wf_eq {F : FnD} {ds : List D} {Q : FR → Prop} {r : FR} (h : F.sem ds = some r) : Wf F ds Q = Q r := by unfold Wf; rw [h, wo_some]
variable {ρ : Cs} {Q : R α → Prop}
theorem wm_bnd {m : M β} {k : β → M α} : Wm (m.bnd k) ρ Q = Wm m ρ (kb k Q) := by
  unfold Wm M.bnd
  cases h : m ρ with
  | none => simp
  | some r => cases r <;> simp [kb, Wm]
theorem wm_ret {a : α} : Wm (M.ret a) ρ Q = Q (.ok a ρ) := propext ⟨fun ⟨_, h, q⟩ => by cases h; exact q, fun q => ⟨_, rfl, q⟩⟩
theorem wm_lift {o : Option α} : Wm (lift o) ρ Q = Wo o fun a => Q (.ok a ρ) := by
  unfold Wm Wo lift
  cases o <;> simp
theorem kb_ok {k : β → M α} {a : β} : kb k Q (.ok a ρ) = Wm (k a) ρ Q := rfl
theorem kb_ex {k : β → M α} {c : Nat} {p : D} : kb k Q (.ex c p ρ) = Q (.ex c p ρ) := rfl
theorem wm_var {i : Nat} {Q : R D → Prop} : Wm (mVar i) ρ Q = Vp ρ[i]? fun d => Q (.ok d ρ) := by
  unfold Wm mVar
  cases h : ρ[i]? with
  | none => simp [Vp, h]
  | some c => cases c <;> simp [Vp, h]
theorem wm_eq {m : M α} {r : R α} (h : m ρ = some r) : Wm m ρ Q = Q r := by unfold Wm; rw [h]; simp
theorem wm_if {c : Prop} [Decidable c] {a b : M α} : Wm (if c then a else b) ρ Q = ((c → Wm a ρ Q) ∧ (¬ c → Wm b ρ Q)) := by by_cases h : c <;> simp [h]
theorem wm_iT {a b : M α} : Wm (if true = true then a else b) ρ Q = Wm a ρ Q := rfl
theorem wm_iF {a b : M α} : Wm (if false = true then a else b) ρ Q = Wm b ρ Q := rfl
end
section
variable {α : Type} {ρ ρ' : Cs} {Q : RS → Prop}
theorem ws_eq {m : MS} {r : RS} (h : m ρ = some r) : Ws m ρ Q = Q r := by unfold Ws; rw [h]; simp
theorem ws_if {c : Prop} [Decidable c] {a b : MS} : Ws (if c then a else b) ρ Q = ((c → Ws a ρ Q) ∧ (¬ c → Ws b ρ Q)) := by by_cases h : c <;> simp [h]
theorem ws_iT {a b : MS} : Ws (if true = true then a else b) ρ Q = Ws a ρ Q := rfl
theorem ws_iF {a b : MS} : Ws (if false = true then a else b) ρ Q = Ws b ρ Q := rfl
theorem ws_sq {m n : MS} : Ws (sq m n) ρ Q = Ws m ρ (kq n Q) := by
  unfold Ws sq
  cases h : m ρ with
  | none => simp
  | some r => cases r <;> simp [kq, Ws]
theorem ws_ev {m : M α} {k : α → MS} : Ws (ev m k) ρ Q = Wm m ρ (ks k Q) := by
  unfold Ws Wm ev
  cases h : m ρ with
  | none => simp
  | some r => cases r <;> simp [ks, Ws]
theorem ks_ok {k : α → MS} {a : α} : ks k Q (.ok a ρ) = Ws (k a) ρ Q := rfl
theorem ks_ex {k : α → MS} {c : Nat} {p : D} : ks k Q (.ex c p ρ) = Q (.ex c p ρ) := rfl
theorem kq_nx {n : MS} : kq n Q (.nx ρ) = Ws n ρ Q := rfl
theorem kq_bk {n : MS} : kq n Q (.bk ρ) = Q (.bk ρ) := rfl
theorem kq_ct {n : MS} : kq n Q (.ct ρ) = Q (.ct ρ) := rfl
theorem kq_rt {n : MS} {d : D} : kq n Q (.rt d ρ) = Q (.rt d ρ) := rfl
theorem kq_ro {n : MS} {d : D} : kq n Q (.ro d ρ) = Q (.ro d ρ) := rfl
theorem kq_ex {n : MS} {c : Nat} {p : D} : kq n Q (.ex c p ρ) = Q (.ex c p ρ) := rfl
theorem ws_nop : Ws nop ρ Q = Q (.nx ρ) := ws_eq rfl
theorem ws_brk : Ws brk ρ Q = Q (.bk ρ) := ws_eq rfl
theorem ws_cnt : Ws cnt ρ Q = Q (.ct ρ) := ws_eq rfl
theorem ws_retN : Ws retN ρ Q = Q (.rt .non ρ) := ws_eq rfl
/-- what is told at the end of a statement -/
def kx (f : D → Cs → RS) (Q : RS → Prop) : R D → Prop
  | .ok d ρ => Q (f d ρ)
  | .ex c p ρ => Q (.ex c p ρ)
def kg (g : D → Cs → Option Cs) (Q : RS → Prop) : R D → Prop
  | .ok d ρ => Wg (g d ρ) fun ρ => Q (.nx ρ)
  | .ex c p ρ => Q (.ex c p ρ)
theorem kx_ok {f : D → Cs → RS} {d : D} : kx f Q (.ok d ρ) = Q (f d ρ) := rfl
theorem kx_ex {f : D → Cs → RS} {c : Nat} {p : D} : kx f Q (.ex c p ρ) = Q (.ex c p ρ) := rfl
theorem kg_ok {g : D → Cs → Option Cs} {d : D} : kg g Q (.ok d ρ) = Wg (g d ρ) fun ρ => Q (.nx ρ) := rfl
theorem kg_ex {g : D → Cs → Option Cs} {c : Nat} {p : D} : kg g Q (.ex c p ρ) = Q (.ex c p ρ) := rfl
theorem ws_kx {m : M D} {f : D → Cs → RS} {s : MS} (h : s = ev m fun d ρ => some (f d ρ)) : Ws s ρ Q = Wm m ρ (kx f Q) := by
  rw [h, ws_ev]
  have : ks (fun d ρ => some (f d ρ)) Q = kx f Q := by funext r; cases r <;> simp [ks, kx, Ws]
  rw [this]
theorem ws_drop {m : M D} : Ws (drop m) ρ Q = Wm m ρ (kx (fun _ ρ => .nx ρ) Q) := ws_kx rfl
theorem ws_retD {m : M D} : Ws (retD m) ρ Q = Wm m ρ (kx .rt Q) := ws_kx rfl
theorem ws_retO {m : M D} : Ws (retO m) ρ Q = Wm m ρ (kx .ro Q) := ws_kx rfl
theorem ws_raise {m : M D} {c : Nat} : Ws (ev m (fun d ρ => some (.ex c d ρ))) ρ Q = Wm m ρ (kx (.ex c) Q) := ws_kx rfl
theorem ws_ifS {mc : M Bool} {a b : MS} : Ws (mIfS mc a b) ρ Q = Wm mc ρ (ks (fun k => if k = true then a else b) Q) := ws_ev
theorem ks_kg {g : D → Cs → Option Cs} : ks (fun d ρ => (g d ρ).map .nx) Q = kg g Q := by
  funext r
  cases r with
  | ok d ρ =>
    show Ws (fun ρ => (g d ρ).map .nx) ρ Q = Wg (g d ρ) fun ρ => Q (.nx ρ)
    unfold Ws Wg Wo
    cases h : g d ρ <;> simp [h]
  | ex c p ρ => rfl
theorem ws_kg {m : M D} {g : D → Cs → Option Cs} {s : MS} (h : s = ev m fun d ρ => (g d ρ).map .nx) : Ws s ρ Q = Wm m ρ (kg g Q) := by
  rw [h, ws_ev, ks_kg]
theorem ws_asg {m : M D} {g : D → Cs → Option Cs} : Ws (asg m g) ρ Q = Wm m ρ (kg g Q) := ws_kg (by
  unfold asg; congr 1; funext d ρ; cases g d ρ <;> rfl)
theorem ws_asgO {i : Nat} {m : M D} : Ws (asgO i m) ρ Q = Wm m ρ (kg (fun d => put i (.ow false d)) Q) := ws_kg (by
  unfold asgO; congr 1; funext d ρ; cases put i (.ow false d) ρ <;> rfl)
theorem wg_put {i : Nat} {c : Cell} {P : Cs → Prop} : Wg (put i c ρ) P = Vs ρ[i]? (P (ρ.set i c)) := by
  unfold Wg put
  cases h : ρ[i]? with
  | none => simp [Vs, wo_none]
  | some x => cases x with
    | ow b d => cases b <;> simp [Vs, wo_none, wo_some]
    | _ => simp [Vs, wo_none, wo_some]
theorem wg_gN {i : Nat} {d : D} {P : Cs → Prop} : Wg (gN i d ρ) P = Vs ρ[i]? (P (ρ.set i (.pu d))) := wg_put
theorem wg_gT {n : Nat} {gs : List D → Cs → Option Cs} {ds : List D} {P : Cs → Prop} : Wg (gT n gs (.tup ds) ρ) P = (ds.length = n ∧ Wg (gs ds ρ) P) := by
  unfold gT Wg
  by_cases h : ds.length = n <;> simp [h, wo_none]
theorem wg_gsC {g : D → Cs → Option Cs} {gs : List D → Cs → Option Cs} {d : D} {ds : List D} {P : Cs → Prop} : Wg (gsC g gs (d :: ds) ρ) P = Wg (g d ρ) fun ρ => Wg (gs ds ρ) P := by
  unfold gsC Wg
  cases h : g d ρ <;> simp [wo_none, wo_some, h]
theorem wg_gs0 {P : Cs → Prop} : Wg (gs0 [] ρ) P = P ρ := wo_some
theorem ws_for {mi : M (List D)} {g : D → Cs → Option Cs} {m : MS} : Ws (mFor mi g m) ρ Q = Wm mi ρ (ks (fun its => forL (fun d => gS g d m) its) Q) := ws_ev
theorem ws_gS {g : D → Cs → Option Cs} {d : D} {m : MS} : Ws (gS g d m) ρ Q = Wg (g d ρ) fun ρ => Ws m ρ Q := by
  unfold Ws gS Wg Wo
  cases g d ρ <;> simp
theorem ws_frz {i : Nat} {m : MS} : Ws (frz i m) ρ Q = Vo ρ[i]? fun b d => b = false ∧ Ws m (ρ.set i (.pu d)) Q := by
  unfold Ws frz
  cases h : ρ[i]? with
  | none => simp [Vo, h]
  | some c => cases c with
    | ow b d => cases b <;> simp [Vo, h]
    | _ => simp [Vo, h]
theorem ws_aug {i : Nat} {f : D → D → Option D} {m : M D} : Ws (aug i f m) ρ Q = Vp ρ[i]? fun d => Wm m ρ (kg (fun e ρ1 => (f d e).bind fun z => put i (.pu z) ρ1) Q) := by
  cases h : ρ[i]? with
  | none => unfold Ws aug; rw [h]; simp [Vp, h]
  | some c => cases c with
    | pu d =>
      show _ = Wm _ _ _
      rw [← ws_kg rfl]
      unfold Ws aug
      rw [h]
      dsimp only
      have : (fun e (ρ1 : Cs) => match f d e with | some z => (match put i (.pu z) ρ1 with | some ρ' => some (RS.nx ρ') | none => none) | none => none) = (fun e (ρ1 : Cs) => ((f d e).bind fun z => put i (.pu z) ρ1).map RS.nx) := by
        funext e ρ1
        cases f d e with
        | none => rfl
        | some z =>
          show (match put i (.pu z) ρ1 with | some ρ' => some (RS.nx ρ') | none => none) = (put i (.pu z) ρ1).map RS.nx
          cases put i (.pu z) ρ1 <;> rfl
      rw [← this] <;> rfl
    | _ => unfold Ws aug; rw [h]; simp [Vp, h]
theorem wg_bind {α : Type} {o : Option α} {f : α → Option Cs} {P : Cs → Prop} : Wg (o.bind f) P = Wo o fun a => Wg (f a) P := wo_bind
end
/-! ### expressions -/
section
variable {ρ : Cs} {Q : R D → Prop} {m n o : M D} {QB : R Bool → Prop} {QL : R (List D) → Prop}
theorem wm_mB {f : D → D → Option D} : Wm (mB f m n) ρ Q = Wm m ρ (kb (fun x => n.bnd fun y => lift (f x y)) Q) := wm_bnd
theorem wm_mU {f : D → Option D} : Wm (mU f m) ρ Q = Wm m ρ (kb (fun x => lift (f x)) Q) := wm_bnd
theorem wm_mC {f : List D → Option D} {ms : M (List D)} : Wm (mC f ms) ρ Q = Wm ms ρ (kb (fun x => lift (f x)) Q) := wm_bnd
theorem wm_mNil : Wm mNil ρ QL = QL (.ok [] ρ) := wm_ret
theorem wm_mCons {ms : M (List D)} : Wm (mCons m ms) ρ QL = Wm m ρ (kb (fun d => ms.bnd fun ds => M.ret (d :: ds)) QL) := wm_bnd
theorem wm_mLst {ms : M (List D)} : Wm (mLst ms) ρ Q = Wm ms ρ (kb (fun ds => lift (if ds.length ≤ sizeLine then some (.lst ds) else none)) Q) := wm_bnd
theorem wm_mTup {ms : M (List D)} : Wm (mTup ms) ρ Q = Wm ms ρ (kb (fun ds => lift (if ds.length ≤ sizeLine then some (.tup ds) else none)) Q) := wm_bnd
theorem wm_tb : Wm (tb m) ρ QB = Wm m ρ (kb (fun d => match d with | .bl b => M.ret b | _ => lift none) QB) := wm_bnd
theorem wm_mAnd {a b : M Bool} : Wm (mAnd a b) ρ QB = Wm a ρ (kb (fun k => if k = true then b else M.ret false) QB) := wm_bnd
theorem wm_mOr {a b : M Bool} : Wm (mOr a b) ρ QB = Wm a ρ (kb (fun k => if k = true then M.ret true else b) QB) := wm_bnd
theorem wm_mNot {a : M Bool} : Wm (mNot a) ρ QB = Wm a ρ (kb (fun k => M.ret (!k)) QB) := wm_bnd
theorem wm_mAndV : Wm (mAndV m n) ρ Q = Wm m ρ (kb (fun d => match d with | .bl true => n | .bl false => M.ret (.bl false) | _ => lift none) Q) := wm_bnd
theorem wm_mOrV : Wm (mOrV m n) ρ Q = Wm m ρ (kb (fun d => match d with | .bl true => M.ret (.bl true) | .bl false => n | _ => lift none) Q) := wm_bnd
theorem wm_mNotV : Wm (mNotV m) ρ Q = Wm m ρ (kb (fun d => match d with | .bl b => M.ret (.bl (!b)) | _ => lift none) Q) := wm_bnd
theorem wm_mIf {c : M Bool} : Wm (mIf c m n) ρ Q = Wm c ρ (kb (fun k => if k = true then m else n) Q) := wm_bnd
theorem wm_mIsi {T : Ty} : Wm (mIsi T m) ρ Q = Wm m ρ (kb (fun d => M.ret (.bl (subTy (tyD d) T))) Q) := wm_bnd
theorem wm_mIsi2 {T U : Ty} : Wm (mIsi2 T U m) ρ Q = Wm m ρ (kb (fun d => M.ret (.bl (subTy (tyD d) T || subTy (tyD d) U))) Q) := wm_bnd
theorem wm_mSl {l h : M (Option Int)} : Wm (mSl m l h) ρ Q = Wm m ρ (kb (fun x => l.bnd fun lo => h.bnd fun hi => lift (cutD x lo hi)) Q) := wm_bnd
theorem wm_mPart {P : R (Option Int) → Prop} : Wm (mPart m) ρ P = Wm m ρ (kb (fun d => match d with | .int i => M.ret (some i) | _ => lift none) P) := by
  unfold mPart; rw [wm_bnd] <;> congr 2
theorem wm_mNoPart {P : R (Option Int) → Prop} : Wm mNoPart ρ P = P (.ok none ρ) := wm_ret
theorem wm_mM {T : Ty} {f : D → D → Option D} : Wm (mM T f m n) ρ Q = Wm m ρ (kb (fun x => if tyD x = T then n.bnd fun y => lift (f x y) else lift none) Q) := wm_bnd
theorem wm_mIt {f : D → Option (List D)} : Wm (mIt f m) ρ QL = Wm m ρ (kb (fun d => lift (f d)) QL) := wm_bnd
theorem wm_rng1 {ms : M (List D)} : Wm (mRng1 ms) ρ QL = Wm ms ρ (kb (fun d => lift (rng1 d)) QL) := wm_bnd
theorem wm_rng2 {ms : M (List D)} : Wm (mRng2 ms) ρ QL = Wm ms ρ (kb (fun d => lift (rng2 d)) QL) := wm_bnd
theorem wm_mZip2 {ms : M (List D)} : Wm (mZip2 ms) ρ QL = Wm ms ρ (kb (fun d => lift (zip2 d)) QL) := wm_bnd
def chn (x : Option D) (k : M D) : M D := match x with
  | some (.bl true) => k
  | some (.bl false) => M.ret (.bl false)
  | _ => lift none
def Wb (d : D) (A B : Prop) : Prop := match d with | .bl true => A | .bl false => B | _ => False
theorem wm_mChn {f f' : D → D → Option D} : Wm (mChn f f' m n o) ρ Q = Wm m ρ (kb (fun x => n.bnd fun y => chn (f x y) (o.bnd fun z => lift (f' y z))) Q) := wm_bnd
theorem wm_chn {x : Option D} {k : M D} : Wm (chn x k) ρ Q = Wo x fun d => Wb d (Wm k ρ Q) (Q (.ok (.bl false) ρ)) := by
  unfold chn Wo Wb
  cases x with
  | none => simp [wm_lift, wo_none]
  | some d => cases d with
    | bl b => cases b <;> simp [wm_ret]
    | _ => simp [wm_lift, wo_none]
theorem wo_Wb {b : Bool} {A B : Prop} : Wb (.bl b) A B = ((b = true → A) ∧ (b = false → B)) := by cases b <;> simp [Wb]
theorem wm_if0 {c : Prop} [Decidable c] {x : M D} : Wm (if c then x else lift none) ρ Q = (c ∧ Wm x ρ Q) := by
  by_cases h : c <;> simp [h, wm_lift, wo_none]
theorem wm_mOl {i : Nat} {f : D → D → Option D} : Wm (mOl i f m) ρ Q = Vo ρ[i]? fun _ _ => Wm m ρ (kb (kOl i f) Q) := by
  rw [← wm_bnd]
  unfold mOl Wm isOw
  cases h : ρ[i]? with
  | none => simp [Vo, h]
  | some c => cases c <;> simp [Vo, h]
theorem wm_kOl {i : Nat} {f : D → D → Option D} {e : D} : Wm (kOl i f e) ρ Q = Vo ρ[i]? fun _ d => Wo (f d e) fun z => flatD z = true ∧ Q (.ok z ρ) := by
  unfold Wm kOl
  cases h : ρ[i]? with
  | none => simp [Vo, h]
  | some c => cases c with
    | ow b d =>
      simp only [Vo]
      unfold Wo
      cases f d e with
      | none => simp
      | some z => by_cases hz : flatD z = true <;> simp [hz]
    | _ => simp [Vo, h]
theorem wm_mO1 {i : Nat} {f : List D → Option D} : Wm (mO1 i f) ρ Q = Vo ρ[i]? fun _ d => Wo (f [d]) fun z => flatD z = true ∧ Q (.ok z ρ) := by
  unfold Wm mO1
  cases h : ρ[i]? with
  | none => simp [Vo, h]
  | some c => cases c with
    | ow b d =>
      simp only [Vo]
      unfold Wo
      cases f [d] with
      | none => simp
      | some z => by_cases hz : flatD z = true <;> simp [hz]
    | _ => simp [Vo, h]
theorem wm_mPop {i : Nat} : Wm (mPop i) ρ Q = Vl ρ[i]? fun b ds => Wo ds[ds.length - 1]? fun d => Q (.ok d (ρ.set i (.ow b (.lst ds.dropLast)))) := by
  unfold Wm mPop
  cases h : ρ[i]? with
  | none => simp [Vl, h]
  | some c => cases c with
    | ow b d => cases d with
      | lst ds =>
        simp only [Vl]
        unfold Wo
        cases ds[ds.length - 1]? <;> simp
      | _ => simp [Vl, h]
    | _ => simp [Vl, h]
theorem wm_mTupO {i : Nat} : Wm (mTupO i) ρ Q = Vl ρ[i]? fun _ ds => Q (.ok (.tup ds) ρ) := by
  unfold Wm mTupO
  cases h : ρ[i]? with
  | none => simp [Vl, h]
  | some c => cases c with
    | ow b d => cases d <;> simp [Vl, h]
    | _ => simp [Vl, h]
theorem wm_mLstO {i : Nat} : Wm (mLstO i) ρ Q = Vl ρ[i]? fun _ ds => Q (.ok (.lst ds) ρ) := by
  unfold Wm mLstO
  cases h : ρ[i]? with
  | none => simp [Vl, h]
  | some c => cases c with
    | ow b d => cases d <;> simp [Vl, h]
    | _ => simp [Vl, h]
theorem wm_mCatO {i : Nat} : Wm (mCatO i m) ρ Q = Vo ρ[i]? fun _ _ => Wm m ρ (kb (kCat i) Q) := by
  rw [← wm_bnd]
  unfold mCatO Wm isOw
  cases h : ρ[i]? with
  | none => simp [Vo, h]
  | some c => cases c <;> simp [Vo, h]
theorem wm_kCat {i : Nat} {b : List D} : Wm (kCat i (.lst b)) ρ Q = Vl ρ[i]? fun _ a => a.length + b.length ≤ sizeLine ∧ Q (.ok (.lst (a ++ b)) ρ) := by
  unfold Wm kCat
  cases h : ρ[i]? with
  | none => simp [Vl, h]
  | some c => cases c with
    | ow k d => cases d with
      | lst a => by_cases hl : a.length + b.length ≤ sizeLine <;> simp [Vl, hl]
      | _ => simp [Vl, h]
    | _ => simp [Vl, h]
theorem wm_mJnO {i : Nat} : Wm (mJnO i m) ρ Q = Wm m ρ (kb (fun d => if tyD d = .str then kOl i (fun x y => joinD y x) d else lift none) Q) := wm_bnd
theorem ws_retV {i : Nat} {Q : RS → Prop} : Ws (retV i) ρ Q = Vo ρ[i]? fun b d => b = false ∧ Q (.ro d (ρ.set i .un)) := by
  unfold Ws retV
  cases h : ρ[i]? with
  | none => simp [Vo, h]
  | some c => cases c with
    | ow b d => cases b <;> simp [Vo, h]
    | _ => simp [Vo, h]
theorem ws_append {i : Nat} {Q : RS → Prop} : Ws (appnd i m) ρ Q = Vl ρ[i]? fun _ _ => Wm m ρ (ks (appK i) Q) := by
  rw [← ws_ev]
  unfold appnd Ws isOwL
  cases h : ρ[i]? with
  | none => simp [Vl, h]
  | some c => cases c with
    | ow b d => cases d <;> simp [Vl, h]
    | _ => simp [Vl, h]
theorem ws_appK {i : Nat} {d : D} {Q : RS → Prop} : Ws (appK i d) ρ Q = Vl ρ[i]? fun b ds => ds.length < sizeLine ∧ Q (.nx (ρ.set i (.ow b (.lst (ds ++ [d]))))) := by
  unfold Ws appK
  cases h : ρ[i]? with
  | none => simp [Vl, h]
  | some c => cases c with
    | ow b e => cases e with
      | lst ds => by_cases hl : ds.length < sizeLine <;> simp [Vl, hl]
      | _ => simp [Vl, h]
    | _ => simp [Vl, h]
theorem ws_setIx {i : Nat} {Q : RS → Prop} : Ws (setIx i m n) ρ Q = Wm m ρ (ks (fun v ρ => if isOwL ρ i = true then ev n (setK i v) ρ else none) Q) := ws_ev
theorem ws_setIx2 {i : Nat} {v : D} {Q : RS → Prop} : Ws (fun ρ => if isOwL ρ i = true then ev n (setK i v) ρ else none) ρ Q = Vl ρ[i]? fun _ _ => Wm n ρ (ks (setK i v) Q) := by
  rw [← ws_ev]
  unfold Ws isOwL
  cases h : ρ[i]? with
  | none => simp [Vl, h]
  | some c => cases c with
    | ow b d => cases d <;> simp [Vl, h]
    | _ => simp [Vl, h]
theorem ws_setK {i : Nat} {v : D} {j : Int} {Q : RS → Prop} : Ws (setK i v (.int j)) ρ Q = Vl ρ[i]? fun b ds => Wo (ixN ds.length j) fun k => Q (.nx (ρ.set i (.ow b (.lst (ds.set k v))))) := by
  unfold Ws setK
  cases h : ρ[i]? with
  | none => simp [Vl, h]
  | some c => cases c with
    | ow b d => cases d with
      | lst ds =>
        simp only [Vl]
        unfold Wo
        cases ixN ds.length j <;> simp
      | _ => simp [Vl, h]
    | _ => simp [Vl, h]
end
/-! ### calls -/
def Kf (ks : List Kd) (as : List Arg) (ρ : Cs) (P : R D → Prop) : FR → Prop
  | .ret d outs => Wg (putOuts ks as outs ρ) fun ρ' => P (.ok d ρ')
  | .exc c p outs => Wg (putOuts ks as outs ρ) fun ρ' => P (.ex c p ρ')
section
variable {ρ : Cs} {P : R D → Prop} {F : FnD}
theorem kf_ret {ks : List Kd} {as : List Arg} {d : D} {outs : List D} : Kf ks as ρ P (.ret d outs) = Wg (putOuts ks as outs ρ) fun ρ' => P (.ok d ρ') := rfl
theorem kf_exc {ks : List Kd} {as : List Arg} {c : Nat} {p : D} {outs : List D} : Kf ks as ρ P (.exc c p outs) = Wg (putOuts ks as outs ρ) fun ρ' => P (.ex c p ρ') := rfl
theorem wg_po0 {K : Cs → Prop} : Wg (putOuts [] [] [] ρ) K = K ρ := wo_some
theorem wg_poP {K : Cs → Prop} {ks : List Kd} {d : D} {as : List Arg} {ds : List D} : Wg (putOuts (.p :: ks) (.p d :: as) ds ρ) K = Wg (putOuts ks as ds ρ) K := by rw [putOuts]
theorem wg_poL {K : Cs → Prop} {ks : List Kd} {s : Sh} {i : Nat} {as : List Arg} {ds : List D} : Wg (putOuts (.l s :: ks) (.o i :: as) ds ρ) K = Wg (putOuts ks as ds ρ) K := by rw [putOuts]
theorem wg_po1 {K : Cs → Prop} {i : Nat} {ks : List Kd} {as : List Arg} {d : D} {ds : List D} : Wg (putOuts (.o :: ks) (.o i :: as) (d :: ds) ρ) K = Vo ρ[i]? fun b _ => Wg (putOuts ks as ds (ρ.set i (.ow b d))) K := by
  rw [putOuts]
  unfold Wg
  cases h : ρ[i]? with
  | none => simp [Vo, wo_none, h]
  | some c => cases c <;> simp [Vo, wo_none, h]
theorem wg_poT {K : Cs → Prop} {i : Nat} {ks : List Kd} {s0 s : Sh} {as : List Arg} {d : D} {ds : List D} : Wg (putOuts (.t s0 s :: ks) (.o i :: as) (d :: ds) ρ) K = Vr ρ[i]? fun b _ _ => b.2 = false ∧ Wg (putOuts ks as ds (ρ.set i (.tr b s d))) K := by
  rw [putOuts]
  unfold Wg
  cases h : ρ[i]? with
  | none => simp [Vr, wo_none, h]
  | some c =>
    cases c with
    | tr b s1 d1 => obtain ⟨b1, b2⟩ := b; cases b2 <;> simp [Vr, wo_none, h]
    | _ => simp [Vr, wo_none, h]
theorem wm_call {ms : M (List Arg)} : Wm (mCall F ms) ρ P = Wm ms ρ (kb (callK F) P) := wm_bnd
theorem wm_callK {as : List Arg} : Wm (callK F as) ρ P = ((lentSl as).Nodup ∧ numT F.ks ≤ 1 ∧ Wo (argDs ρ F.ks as) fun ds => Wf F ds (Kf F.ks as ρ P)) := by
  unfold Wm callK
  by_cases hn : (lentSl as).Nodup ∧ numT F.ks ≤ 1
  · rw [if_pos hn]
    simp only [hn.1, hn.2, true_and]
    cases h0 : argDs ρ F.ks as with
    | none => simp [wo_none]
    | some ds =>
      rw [wo_some]
      unfold Wf
      cases h1 : F.sem ds with
      | none => simp [wo_none, h1]
      | some fr =>
        rw [wo_some]
        cases fr with
        | ret d outs => simp only [kf_ret]; unfold Wg; cases h2 : putOuts F.ks as outs ρ <;> simp [wo_none, wo_some, h1, h2]
        | exc c p outs => simp only [kf_exc]; unfold Wg; cases h2 : putOuts F.ks as outs ρ <;> simp [wo_none, wo_some, h1, h2]
  · rw [if_neg hn, ← and_assoc]
    simp [hn]
theorem ls_n0 : numT [] = 0 := rfl
theorem ls_nP {ks : List Kd} : numT (.p :: ks) = numT ks := rfl
theorem ls_nO {ks : List Kd} : numT (.o :: ks) = numT ks := rfl
theorem ls_nL {ks : List Kd} {a : Sh} : numT (.l a :: ks) = numT ks := rfl
theorem ls_nT {ks : List Kd} {a b : Sh} : numT (.t a b :: ks) = numT ks + 1 := rfl
theorem wm_aNil {K : R (List Arg) → Prop} : Wm aNil ρ K = K (.ok [] ρ) := wm_ret
theorem wm_aP {m : M D} {as : M (List Arg)} {K : R (List Arg) → Prop} : Wm (aP m as) ρ K = Wm m ρ (kb (fun d => as.bnd fun as => M.ret (.p d :: as)) K) := wm_bnd
theorem wm_aO {k : Nat} {as : M (List Arg)} {K : R (List Arg) → Prop} : Wm (aO k as) ρ K = Vo ρ[k]? fun _ _ => Wm as ρ (kb (fun as => M.ret (.o k :: as)) K) := by
  rw [← wm_bnd]
  unfold Wm aO
  cases h : ρ[k]? with
  | none => simp [Vo, h]
  | some c => cases c <;> simp [Vo, h]
theorem wm_aT {k : Nat} {as : M (List Arg)} {K : R (List Arg) → Prop} : Wm (aT k as) ρ K = Vr ρ[k]? fun _ _ _ => Wm as ρ (kb (fun as => M.ret (.o k :: as)) K) := by
  rw [← wm_bnd]
  unfold Wm aT
  cases h : ρ[k]? with
  | none => simp [Vr, h]
  | some c => cases c <;> simp [Vr, h]
theorem wo_ad0 {K : List D → Prop} : Wo (argDs ρ [] []) K = K [] := wo_some
theorem wo_adP {k : List Kd} {d : D} {as : List Arg} {K : List D → Prop} : Wo (argDs ρ (.p :: k) (.p d :: as)) K = Wo (argDs ρ k as) fun ds => K (d :: ds) := by
  show Wo ((argDs ρ k as).map _) K = _
  rw [wo_map]
theorem wo_adO {k : List Kd} {i : Nat} {as : List Arg} {K : List D → Prop} : Wo (argDs ρ (.o :: k) (.o i :: as)) K = Vo ρ[i]? fun _ d => Wo (argDs ρ k as) fun ds => K (d :: ds) := by
  rw [argDs]
  cases h : ρ[i]? with
  | none => simp [Vo, wo_none, h]
  | some c => cases c <;> simp [Vo, wo_none, wo_map]
theorem wo_adT {k : List Kd} {i : Nat} {s s' : Sh} {as : List Arg} {K : List D → Prop} : Wo (argDs ρ (.t s s' :: k) (.o i :: as)) K = Vr ρ[i]? fun b sh d => b.2 = false ∧ sh.beq s = true ∧ Wo (argDs ρ k as) fun ds => K (d :: ds) := by
  rw [argDs]
  cases h : ρ[i]? with
  | none => simp [Vr, wo_none, h]
  | some c => cases c with
    | tr b sh d =>
      obtain ⟨b1, b2⟩ := b
      cases b2 with
      | true => simp [Vr, wo_none]
      | false => cases hb : sh.beq s <;> simp [Vr, wo_none, wo_map, hb]
    | _ => simp [Vr, wo_none]
theorem wo_adL {k : List Kd} {i : Nat} {s : Sh} {as : List Arg} {K : List D → Prop} : Wo (argDs ρ (.l s :: k) (.o i :: as)) K = Vr ρ[i]? fun _ sh d => sh.beq s = true ∧ Wo (argDs ρ k as) fun ds => K (d :: ds) := by
  rw [argDs]
  cases h : ρ[i]? with
  | none => simp [Vr, wo_none, h]
  | some c => cases c with
    | tr b sh d => cases hb : sh.beq s <;> simp [Vr, wo_none, wo_map, hb]
    | _ => simp [Vr, wo_none]
theorem ls_0 : lentSl [] = [] := rfl
theorem ls_p {d : D} {as : List Arg} : lentSl (.p d :: as) = lentSl as := rfl
theorem ls_o {i : Nat} {as : List Arg} : lentSl (.o i :: as) = i :: lentSl as := rfl
end
/-- what the whole def does -/
def Kr (ks : List Kd) (fr : Bool) (Q : FR → Prop) : RS → Prop
  | .nx ρ => fr = false ∧ Wo (outAt ρ 0 ks) fun os => Q (.ret .non os)
  | .rt d ρ => fr = false ∧ Wo (outAt ρ 0 ks) fun os => Q (.ret d os)
  | .ro d ρ => Wo (outAt ρ 0 ks) fun os => Q (.ret d os)
  | .ex c p ρ => Wo (outAt ρ 0 ks) fun os => Q (.exc c p os)
  | _ => False
section
variable {ks : List Kd} {fr : Bool} {Q : FR → Prop} {ρ : Cs} {d : D}
theorem kr_nx : Kr ks fr Q (.nx ρ) = (fr = false ∧ Wo (outAt ρ 0 ks) fun os => Q (.ret .non os)) := rfl
theorem kr_rt : Kr ks fr Q (.rt d ρ) = (fr = false ∧ Wo (outAt ρ 0 ks) fun os => Q (.ret d os)) := rfl
theorem kr_ro : Kr ks fr Q (.ro d ρ) = Wo (outAt ρ 0 ks) fun os => Q (.ret d os) := rfl
theorem kr_ex {c : Nat} : Kr ks fr Q (.ex c d ρ) = Wo (outAt ρ 0 ks) fun os => Q (.exc c d os) := rfl
theorem wo_oa0 {i : Nat} {K : List D → Prop} : Wo (outAt ρ i []) K = K [] := wo_some
theorem wo_oaL {i : Nat} {s : Sh} {K : List D → Prop} : Wo (outAt ρ i (.l s :: ks)) K = Wo (outAt ρ (i + 1) ks) K := by rw [outAt]
theorem wo_oaP {i : Nat} {K : List D → Prop} : Wo (outAt ρ i (.p :: ks)) K = Wo (outAt ρ (i + 1) ks) K := by rw [outAt]
/-- what was lent -/
def Vt (c : Option Cell) (K : D → Prop) (_b : Bx K := .mk) : Prop := match c with | some (.ow true d) => K d | _ => False
theorem vt_ow {K : D → Prop} : Vt (some (.ow true d)) K = K d := rfl
theorem wo_oa1 {i : Nat} {K : List D → Prop} : Wo (outAt ρ i (.o :: ks)) K = Vt ρ[i]? fun d => Wo (outAt ρ (i + 1) ks) fun ds => K (d :: ds) := by
  rw [outAt]
  cases h : ρ[i]? with
  | none => simp [Vt, wo_none]
  | some c => cases c with
    | ow b d => cases b with
      | true => simp only [Vt]; cases outAt ρ (i + 1) ks <;> simp [wo_none, wo_some]
      | false => simp [Vt, wo_none]
    | _ => simp [Vt, wo_none]
theorem wo_oaT {i : Nat} {s s' : Sh} {K : List D → Prop} : Wo (outAt ρ i (.t s s' :: ks)) K = Vr ρ[i]? fun b sh d => b = (true, false) ∧ sh.beq s' = true ∧ Wo (outAt ρ (i + 1) ks) fun ds => K (d :: ds) := by
  rw [outAt]
  cases h : ρ[i]? with
  | none => simp [Vr, wo_none]
  | some c => cases c with
    | tr b sh d =>
      obtain ⟨b1, b2⟩ := b
      cases b1 <;> cases b2 <;> first | (simp [Vr, wo_none]; done) | skip
      simp only [Vr]
      cases hb : sh.beq s' <;> cases outAt ρ (i + 1) ks <;> simp [wo_none, wo_some]
    | _ => simp [Vr, wo_none]
end
theorem wf_run {F : FnD} {n : Nat} {ks : List Kd} {fr : Bool} {m : MS} {ds : List D} {Q : FR → Prop} (h : F.sem = runF n ks fr m) (q : Ws m (init n ks ds) (Kr ks fr Q)) : Wf F ds Q := by
  obtain ⟨r, h1, h2⟩ := q
  unfold Wf
  rw [h]
  unfold runF
  rw [h1]
  cases r with
  | nx ρ => obtain ⟨rfl, os, e, h3⟩ := h2; exact ⟨_, by simp [e], h3⟩
  | rt d ρ => obtain ⟨rfl, os, e, h3⟩ := h2; exact ⟨_, by simp [e], h3⟩
  | ro d ρ => obtain ⟨os, e, h3⟩ := h2; exact ⟨_, by simp [e], h3⟩
  | ex c p ρ => obtain ⟨os, e, h3⟩ := h2; exact ⟨_, by simp [e], h3⟩
  | bk ρ => exact h2.elim
  | ct ρ => exact h2.elim
/-! ### loops, comprehensions, try -/
/-- what a turn of a loop must give -/
def Kt (I : Cs → Prop) (Q : RS → Prop) : RS → Prop
  | .nx ρ => I ρ
  | .ct ρ => I ρ
  | .bk ρ => Q (.nx ρ)
  | .rt d ρ => Q (.rt d ρ)
  | .ro d ρ => Q (.ro d ρ)
  | .ex c p ρ => Q (.ex c p ρ)
section
variable {I : Cs → Prop} {Q : RS → Prop} {ρ : Cs} {d : D}
theorem kt_nx : Kt I Q (.nx ρ) = I ρ := rfl
theorem kt_ct : Kt I Q (.ct ρ) = I ρ := rfl
theorem kt_bk : Kt I Q (.bk ρ) = Q (.nx ρ) := rfl
theorem kt_rt : Kt I Q (.rt d ρ) = Q (.rt d ρ) := rfl
theorem kt_ro : Kt I Q (.ro d ρ) = Q (.ro d ρ) := rfl
theorem kt_ex {c : Nat} : Kt I Q (.ex c d ρ) = Q (.ex c d ρ) := rfl
end
theorem ws_forL {step : D → MS} {Q : RS → Prop} (I : List D → Cs → Prop) (h0 : ∀ ρ, I [] ρ → Q (.nx ρ)) (h1 : ∀ d rest ρ, I (d :: rest) ρ → Ws (step d) ρ (Kt (I rest) Q)) : ∀ (its : List D) (ρ : Cs), I its ρ → Ws (forL step its) ρ Q
  | [], ρ, hI => ⟨_, rfl, h0 ρ hI⟩
  | d :: its, ρ, hI => by
    obtain ⟨r, e, q⟩ := h1 d its ρ hI
    have ih := ws_forL I h0 h1 its
    unfold Ws forL
    rw [e]
    cases r with
    | nx ρ' => exact ih ρ' q
    | ct ρ' => exact ih ρ' q
    | bk ρ' => exact ⟨_, rfl, q⟩
    | rt d ρ' => exact ⟨_, rfl, q⟩
    | ro d ρ' => exact ⟨_, rfl, q⟩
    | ex c p ρ' => exact ⟨_, rfl, q⟩
/-- the while's test: go on, or behind the loop -/
def Kw (m : MS) (I : Cs → Prop) (Q : RS → Prop) : R Bool → Prop
  | .ok b ρ => (b = true → Ws m ρ (Kt I Q)) ∧ (b = false → Q (.nx ρ))
  | .ex c p ρ => Q (.ex c p ρ)
theorem kw_ok {m : MS} {I : Cs → Prop} {Q : RS → Prop} {ρ : Cs} {b : Bool} : Kw m I Q (.ok b ρ) = ((b = true → Ws m ρ (Kt I Q)) ∧ (b = false → Q (.nx ρ))) := rfl
theorem ws_whL {mc : M Bool} {m : MS} {Q : RS → Prop} (I : Nat → Cs → Prop) (h : ∀ k ρ, I k ρ → Wm mc ρ (Kw m (fun ρ => ∃ k', k' < k ∧ I k' ρ) Q)) : ∀ (n k : Nat) (ρ : Cs), k < n → I k ρ → Ws (whL mc m n) ρ Q
  | 0, _, _, hn, _ => absurd hn (Nat.not_lt_zero _)
  | n + 1, k, ρ, hn, hI => by
    obtain ⟨r, e, q⟩ := h k ρ hI
    have ih := ws_whL I h n
    unfold Ws whL
    rw [e]
    cases r with
    | ex c p ρ1 => exact ⟨_, rfl, q⟩
    | ok b ρ1 => cases b with
      | false => exact ⟨_, rfl, q.2 rfl⟩
      | true =>
        obtain ⟨r2, e2, q2⟩ := q.1 rfl
        dsimp only
        rw [e2]
        cases r2 with
        | nx ρ2 => obtain ⟨k', h1, h2⟩ := q2; exact ih k' ρ2 (by omega) h2
        | ct ρ2 => obtain ⟨k', h1, h2⟩ := q2; exact ih k' ρ2 (by omega) h2
        | bk ρ' => exact ⟨_, rfl, q2⟩
        | rt d ρ' => exact ⟨_, rfl, q2⟩
        | ro d ρ' => exact ⟨_, rfl, q2⟩
        | ex c p ρ' => exact ⟨_, rfl, q2⟩
theorem wm_mLc {mi : M (List D)} {vs : List Nat} {g : D → Cs → Option Cs} {mt : M Bool} {me : M D} {ρ : Cs} {Q : R D → Prop} : Wm (mLc mi vs g mt me) ρ Q = Wm mi ρ (kb (fun its ρ => if plainAt ρ vs = true then (match lcL vs g mt me its [] (unset vs ρ) with | some (acc, ρ') => some (.ok (.lst acc) (reset ρ vs ρ')) | none => none) else none) Q) := wm_bnd
/-- a comprehension's turns, each told by what it makes of its item: t whether it is taken, f what it gives -/
theorem wm_lc {vs : List Nat} {g : D → Cs → Option Cs} {mt : M Bool} {me : M D} {ρ : Cs} {Q : R D → Prop} {its : List D} (t : D → Bool) (f : D → D) (hl : its.length ≤ sizeLine) (hp : plainAt ρ vs = true) (hr : reset ρ vs (unset vs ρ) = ρ)
    (h : ∀ d ∈ its, Wg (g d (unset vs ρ)) fun ρ1 => unset vs ρ1 = unset vs ρ ∧ Wm mt ρ1 (fun r => r = .ok (t d) ρ1 ∧ (t d = true → Wm me ρ1 (fun r => r = .ok (f d) ρ1)))) (q : Q (.ok (.lst ((its.filter t).map f)) ρ)) :
    Wm (fun ρ => if plainAt ρ vs = true then (match lcL vs g mt me its [] (unset vs ρ) with | some (acc, ρ') => some (.ok (.lst acc) (reset ρ vs ρ')) | none => none) else none) ρ Q := by
  unfold Wm
  dsimp only
  rw [if_pos hp, lc_gen its [] (by simpa using hl) (t := t) (f := f) (fun d hd => by
    obtain ⟨ρ1, e1, e2, r, e3, e4, e5⟩ := h d hd
    subst e4
    refine ⟨ρ1, e1, e3, fun ht => ?_, e2⟩
    obtain ⟨r2, e6, e7⟩ := e5 ht
    subst e7; exact e6)]
  exact ⟨_, rfl, by rw [List.nil_append, hr]; exact q⟩
def Kc (i c : Nat) (ms : D → MS) (Q : RS → Prop) : RS → Prop
  | .ex c' p ρ => if c' = c then ρ[i]? = some .un ∧ Ws (ms p) ρ (fun r => noEx r = true ∧ Q (unRS i r)) else Q (.ex c' p ρ)
  | .nx ρ => Q (.nx ρ)
  | .bk ρ => Q (.bk ρ)
  | .ct ρ => Q (.ct ρ)
  | .rt d ρ => Q (.rt d ρ)
  | .ro d ρ => Q (.ro d ρ)
section
variable {i c c' : Nat} {ms : D → MS} {Q : RS → Prop} {ρ : Cs} {d : D}
theorem kc_nx : Kc i c ms Q (.nx ρ) = Q (.nx ρ) := rfl
theorem kc_bk : Kc i c ms Q (.bk ρ) = Q (.bk ρ) := rfl
theorem kc_ct : Kc i c ms Q (.ct ρ) = Q (.ct ρ) := rfl
theorem kc_rt : Kc i c ms Q (.rt d ρ) = Q (.rt d ρ) := rfl
theorem kc_ro : Kc i c ms Q (.ro d ρ) = Q (.ro d ρ) := rfl
theorem kc_ex : Kc i c ms Q (.ex c' d ρ) = if c' = c then ρ[i]? = some .un ∧ Ws (ms d) ρ (fun r => noEx r = true ∧ Q (unRS i r)) else Q (.ex c' d ρ) := rfl
theorem ws_try {m : MS} : Ws (tryM i c m ms) ρ Q = Ws m ρ (Kc i c ms Q) := by
  unfold Ws tryM
  cases h : m ρ with
  | none => simp
  | some r => cases r with
    | ex c' p ρ1 =>
      simp only [kc_ex]
      by_cases hc : c' = c
      · simp only [hc, if_true]
        cases h2 : ρ1[i]? with
        | none => simp [kc_ex, h2]
        | some x => cases x with
          | un =>
            simp only [Option.some.injEq, exists_eq_left', kc_ex, if_true, h2, true_and]
            unfold Ws
            cases h3 : ms p ρ1 with
            | none => simp
            | some r2 => by_cases hn : noEx r2 = true <;> simp [hn]
          | _ => simp [kc_ex, h2]
      · simp [hc, kc_ex]
    | _ => simp [kc_nx, kc_bk, kc_ct, kc_rt, kc_ro]
end
section
variable {ρ : Cs} {d : D} {i c : Nat}
theorem kc_n1 : noEx (.nx ρ) = true := rfl
theorem kc_n2 : noEx (.bk ρ) = true := rfl
theorem kc_n3 : noEx (.ct ρ) = true := rfl
theorem kc_n4 : noEx (.rt d ρ) = true := rfl
theorem kc_n5 : noEx (.ro d ρ) = true := rfl
theorem kc_n6 : noEx (.ex c d ρ) = false := rfl
theorem kc_u1 : unRS i (.nx ρ) = .nx (ρ.set i .un) := rfl
theorem kc_u2 : unRS i (.bk ρ) = .bk (ρ.set i .un) := rfl
theorem kc_u3 : unRS i (.ct ρ) = .ct (ρ.set i .un) := rfl
theorem kc_u4 : unRS i (.rt d ρ) = .rt d (ρ.set i .un) := rfl
theorem kc_u5 : unRS i (.ro d ρ) = .ro d (ρ.set i .un) := rfl
end
theorem wo_size : sizeLine = 16777216 := by decide
theorem wo_ty1 : tyD .non = .none := rfl
theorem wo_ty2 {b : Bool} : tyD (.bl b) = .bool := rfl
theorem wo_ty3 {b : Int} : tyD (.int b) = .int := rfl
theorem wo_ty4 {b : List Nat} : tyD (.str b) = .str := rfl
theorem wo_ty5 {b : List D} : tyD (.lst b) = .list := rfl
theorem wo_ty6 {b : List D} : tyD (.tup b) = .tuple := rfl
theorem wo_ty7 {b : List (D × D)} : tyD (.dic b) = .dict := rfl
theorem wo_ty8 {b : List Int} : tyD (.scr b) = .list := rfl
theorem wo_sub1 {a : Ty} : subTy a a = true := by unfold subTy; simp
theorem wo_sub2 : subTy .bool .int = true := rfl
theorem wo_sub3 {a b : Ty} (h : a ≠ b) (h2 : b ≠ .int) : subTy a b = false := by unfold subTy; simp [h, h2]
theorem wo_sub4 {a : Ty} (h : a ≠ .int) (h2 : a ≠ .bool) : subTy a .int = false := by unfold subTy; simp [h, h2]
/-! ### data -/
section
variable {Q : D → Prop}
/-- a text that the model can hold -/
def okS (s : List Nat) : Bool := s.all fun c => decide (c < 1114112)
theorem okS_asc {s : List Nat} (h : asc s = true) : okS s = true := List.all_eq_true.mpr fun c hc => by
  have := of_decide_eq_true (List.all_eq_true.mp h c hc)
  exact decide_eq_true (by omega)
theorem okD_str {n : Nat} {s : List Nat} : okD n (.str s) = okS s := by cases n <;> simp [okD, okS]
theorem wo_addI {a b : Int} : Wo (addD (.int a) (.int b)) Q = Q (.int (a + b)) := wo_some
theorem wo_addS {a b : List Nat} : Wo (addD (.str a) (.str b)) Q = (a.length + b.length ≤ sizeLine ∧ Q (.str (a ++ b))) := wo_if
theorem wo_addL {a b : List D} : Wo (addD (.lst a) (.lst b)) Q = (a.length + b.length ≤ sizeLine ∧ Q (.lst (a ++ b))) := wo_if
theorem wo_addT {a b : List D} : Wo (addD (.tup a) (.tup b)) Q = (a.length + b.length ≤ sizeLine ∧ Q (.tup (a ++ b))) := wo_if
theorem wo_sub {a b : Int} : Wo (subD (.int a) (.int b)) Q = Q (.int (a - b)) := wo_some
theorem wo_mulI {a b : Int} : Wo (mulD (.int a) (.int b)) Q = (a.natAbs.log2 + b.natAbs.log2 < 1000000 ∧ Q (.int (a * b))) := wo_if
theorem wo_mulS {a : List Nat} {n : Int} : Wo (mulD (.str a) (.int n)) Q = ((-(2 ^ 63) ≤ n ∧ a.length * n.toNat ≤ sizeLine ∧ n < 2 ^ 39) ∧ Q (.str (List.replicate n.toNat a).flatten)) := wo_if
theorem wo_mulL {a : List D} {n : Int} : Wo (mulD (.lst a) (.int n)) Q = ((-(2 ^ 63) ≤ n ∧ n < 2 ^ 63 ∧ a.length * n.toNat ≤ sizeLine) ∧ Q (.lst (List.replicate n.toNat a).flatten)) := wo_if
theorem wo_div {a b : Int} : Wo (divD (.int a) (.int b)) Q = ((0 < b ∧ b.natAbs.log2 < 9000) ∧ Q (.int (a / b))) := wo_if
theorem wo_mod {a b : Int} : Wo (modD (.int a) (.int b)) Q = (0 < b ∧ Q (.int (a % b))) := wo_if
theorem wo_neg {a : Int} : Wo (negD (.int a)) Q = Q (.int (-a)) := wo_some
theorem wo_ltI {a b : Int} : Wo (ltD (.int a) (.int b)) Q = Q (.bl (decide (a < b))) := wo_some
theorem wo_ltS {a b : List Nat} : Wo (ltD (.str a) (.str b)) Q = Q (.bl (decide (a < b))) := wo_some
theorem wo_le {a b : Int} : Wo (leD (.int a) (.int b)) Q = Q (.bl (decide (a ≤ b))) := wo_some
theorem wo_gt {a b : Int} : Wo (gtD (.int a) (.int b)) Q = Q (.bl (decide (b < a))) := wo_some
theorem wo_ge {a b : Int} : Wo (geD (.int a) (.int b)) Q = Q (.bl (decide (b ≤ a))) := wo_some
theorem eqX_ok {d e : D} (h1 : okD 60 d = true) (h2 : okD 60 e = true) : eqX d e = some (.bl (eqB d e)) := if_pos ⟨h1, h2⟩
theorem neX_ok {d e : D} (h1 : okD 60 d = true) (h2 : okD 60 e = true) : neX d e = some (.bl (!eqB d e)) := if_pos ⟨h1, h2⟩
theorem wo_eqI {a b : Int} : Wo (eqX (.int a) (.int b)) Q = Q (.bl (a == b)) := wo_eq (eqX_int a b)
theorem wo_neI {a b : Int} : Wo (neX (.int a) (.int b)) Q = Q (.bl (!(a == b))) := wo_eq (neX_int a b)
theorem wo_eqB {a b : Bool} : Wo (eqX (.bl a) (.bl b)) Q = Q (.bl (a == b)) := wo_eq (eqX_bl a b)
theorem wo_neB {a b : Bool} : Wo (neX (.bl a) (.bl b)) Q = Q (.bl (!(a == b))) := wo_eq (neX_bl a b)
theorem wo_eqS {a b : List Nat} : Wo (eqX (.str a) (.str b)) Q = ((okS a = true ∧ okS b = true) ∧ Q (.bl (a == b))) := by
  unfold eqX
  rw [okD_str, okD_str]
  by_cases h : okS a = true ∧ okS b = true
  · rw [if_pos h, wo_some]; simp [h, eqB]
  · rw [if_neg h, if_neg (by simp [isLst]), wo_none]; simp [h]
theorem wo_neS {a b : List Nat} : Wo (neX (.str a) (.str b)) Q = ((okS a = true ∧ okS b = true) ∧ Q (.bl (!(a == b)))) := by
  unfold neX
  rw [okD_str, okD_str]
  by_cases h : okS a = true ∧ okS b = true
  · rw [if_pos h, wo_some]; simp [h, eqB]
  · rw [if_neg h, if_neg (by simp [isLst]), wo_none]; simp [h]
theorem wo_isN {d : D} : Wo (isN d .non) Q = Q (.bl (match d with | .non => true | _ => false)) := by cases d <;> exact wo_some
theorem wo_noN {d : D} : Wo (noN d .non) Q = Q (.bl (match d with | .non => false | _ => true)) := by cases d <;> exact wo_some
theorem wo_inC {n : Bool} {c : Nat} {s : List Nat} : Wo (inD n (.str [c]) (.str s)) Q = Q (.bl (if n then !decide (c ∈ s) else decide (c ∈ s))) := wo_some
theorem wo_inL {n : Bool} {d : D} {xs : List D} : Wo (inD n d (.lst xs)) Q = ((flatD d = true ∧ xs.all flatD = true) ∧ Q (.bl (if n then !(xs.any fun y => eqB y d) else xs.any fun y => eqB y d))) := by
  have : inD n d (.lst xs) = if flatD d = true ∧ xs.all flatD = true then some (.bl (if n then !(xs.any fun y => eqB y d) else xs.any fun y => eqB y d)) else none := by
    cases d <;> (first | rfl | (rename_i s; rcases s with _ | ⟨a, _ | ⟨b, r⟩⟩ <;> rfl))
  rw [this, wo_if]
theorem wo_ixL {xs : List D} {i : Int} : Wo (ixD (.lst xs) (.int i)) Q = Wo (ixN xs.length i) fun k => Wo xs[k]? Q := wo_bind
theorem wo_ixT {xs : List D} {i : Int} : Wo (ixD (.tup xs) (.int i)) Q = Wo (ixN xs.length i) fun k => Wo xs[k]? Q := wo_bind
theorem wo_ixS {s : List Nat} {i : Int} : Wo (ixD (.str s) (.int i)) Q = (s.length ≤ sizeLine ∧ Wo (ixN s.length i) fun k => Wo s[k]? fun c => Q (.str [c])) := by
  show Wo (if s.length ≤ sizeLine then _ else none) Q = _
  by_cases h : s.length ≤ sizeLine
  · rw [if_pos h, wo_map, wo_bind]; simp [h]
  · rw [if_neg h, wo_none]; simp [h]
theorem wo_ixR {s : List Int} {i : Int} : Wo (ixD (.scr s) (.int i)) Q = Wo (ixN s.length i) fun k => Wo s[k]? fun c => Q (.int c) := by
  show Wo (Option.map _ _) Q = _
  rw [wo_map, wo_bind]
theorem wo_lenL {xs : List D} : Wo (lenD [.lst xs]) Q = Q (.int xs.length) := wo_some
theorem wo_lenT {xs : List D} : Wo (lenD [.tup xs]) Q = Q (.int xs.length) := wo_some
theorem wo_lenR {xs : List Int} : Wo (lenD [.scr xs]) Q = Q (.int xs.length) := wo_some
theorem wo_lenS {s : List Nat} : Wo (lenD [.str s]) Q = (s.length ≤ sizeLine ∧ Q (.int s.length)) := wo_if
theorem wo_up {s : List Nat} : Wo (upD (.str s)) Q = ((s.all (· < 128) = true ∧ s.length ≤ 5592405) ∧ Q (.str (s.map up1))) := wo_if
theorem wo_lo {s : List Nat} : Wo (loD (.str s)) Q = ((s.all (· < 128) = true ∧ s.length ≤ 5592405) ∧ Q (.str (s.map lo1))) := wo_if
theorem wo_cutS {s : List Nat} {l h : Option Int} : Wo (cutD (.str s) l h) Q = (s.length ≤ sizeLine ∧ Q (.str (cutN s l h))) := wo_if
theorem wo_rng1 {j : Int} {QL : List D → Prop} : Wo (rng1 [.int j]) QL = ((-(2 ^ 62) ≤ j ∧ j < 2 ^ 62) ∧ QL (intsD 0 j.toNat)) := wo_if
theorem wo_rng2 {i j : Int} {QL : List D → Prop} : Wo (rng2 [.int i, .int j]) QL = ((-(2 ^ 62) ≤ i ∧ i < 2 ^ 62 ∧ -(2 ^ 62) ≤ j ∧ j < 2 ^ 62) ∧ QL (intsD i (j - i).toNat)) := wo_if
theorem wo_mx {a b : Int} : Wo (max2 [.int a, .int b]) Q = Q (.int (if b > a then b else a)) := wo_some
theorem wo_mn {a b : Int} : Wo (min2 [.int a, .int b]) Q = Q (.int (if b < a then b else a)) := wo_some
theorem wo_intB {b : Bool} : Wo (int1 [.bl b]) Q = Q (.int (if b = true then 1 else 0)) := wo_some
theorem wo_intI {b : Int} : Wo (int1 [.int b]) Q = Q (.int b) := wo_some
end
end Tk
namespace Tk
open PySem PySem.Spec PyProof.Rows L2 SX
theorem okDs_eq {n : Nat} : ∀ l : List D, okDs n l = l.all (okD n)
  | [] => by simp only [okDs, List.all_nil]
  | d :: l => by rw [okDs, okDs_eq l, List.all_cons]
theorem okD_lst {n : Nat} {l : List D} : okD (n + 1) (.lst l) = l.all (okD n) := by rw [okD, okDs_eq]
theorem okD_tup {n : Nat} {l : List D} : okD (n + 1) (.tup l) = l.all (okD n) := by rw [okD, okDs_eq]
theorem okD_non {n : Nat} : okD n .non = true := by cases n <;> simp only [okD]
theorem okD_bl {n : Nat} {b : Bool} : okD n (.bl b) = true := by cases n <;> simp only [okD]
theorem okD_int {n : Nat} {b : Int} : okD n (.int b) = true := by cases n <;> simp only [okD]
mutual
theorem eqB_refl : ∀ {n : Nat} {d : D}, okD n d = true → eqB d d = true
  | _, .non, _ => by simp only [eqB]
  | _, .bl _, _ => by simp only [eqB, beq_self_eq_true]
  | _, .int _, _ => by simp only [eqB, beq_self_eq_true]
  | _, .str _, _ => by simp only [eqB, beq_self_eq_true]
  | 0, .lst _, h => by simp [okD] at h
  | 0, .tup _, h => by simp [okD] at h
  | n + 1, .lst l, h => by
    rw [okD] at h
    rw [eqB]; exact eqBs_refl h
  | n + 1, .tup l, h => by
    rw [okD] at h
    rw [eqB]; exact eqBs_refl h
  | 0, .dic _, h => by simp [okD] at h
  | 0, .scr _, h => by simp [okD] at h
  | n + 1, .dic _, h => by simp [okD] at h
  | n + 1, .scr _, h => by simp [okD] at h
theorem eqBs_refl : ∀ {n : Nat} {l : List D}, okDs n l = true → eqBs l l = true
  | _, [], _ => by simp only [eqBs]
  | n, d :: l, h => by
    rw [okDs, Bool.and_eq_true] at h
    rw [eqBs, eqB_refl h.1, eqBs_refl h.2]; rfl
end
theorem eqX_self {d : D} (h : okD 60 d = true) : eqX d d = some (.bl true) := by rw [eqX_ok h h, eqB_refl h]
theorem neX_self {d : D} (h : okD 60 d = true) : neX d d = some (.bl false) := by rw [neX_ok h h, eqB_refl h]; rfl
theorem wo_tupL {l : List D} {Q : D → Prop} : Wo (tupleD [.lst l]) Q = Q (.tup l) := wo_some
theorem wo_listL {l : List D} {Q : D → Prop} : Wo (listD [.lst l]) Q = Q (.lst l) := wo_some
theorem wo_listT {l : List D} {Q : D → Prop} : Wo (listD [.tup l]) Q = Q (.lst l) := wo_some
theorem wo_itL {l : List D} {Q : List D → Prop} : Wo (itemsX (.lst l)) Q = Q l := wo_some
theorem wo_itT {l : List D} {Q : List D → Prop} : Wo (itemsX (.tup l)) Q = Q l := wo_some
theorem wo_itS {s : List Nat} {Q : List D → Prop} : Wo (itemsX (.str s)) Q = Q (chars s) := wo_some
theorem wo_itR {s : List Int} {Q : List D → Prop} : Wo (itemsX (.scr s)) Q = Q (s.map .int) := wo_some
theorem wo_ixA {n : Nat} {i : Int} {Q : Nat → Prop} (h : 0 ≤ i) : Wo (ixN n i) Q = (i < n ∧ Q i.toNat) := by unfold ixN; rw [if_pos h, wo_if]
theorem wo_ixB {n : Nat} {i : Int} {Q : Nat → Prop} (h : i < 0) : Wo (ixN n i) Q = (-(n : Int) ≤ i ∧ Q (i + n).toNat) := by unfold ixN; rw [if_neg (by omega), wo_if]
theorem wo_rev1 {l : List D} {Q : D → Prop} : Wo (revX (.lst l)) Q = Q (.lst l.reverse) := wo_some
theorem wo_rev3 {l : List Nat} {Q : D → Prop} : Wo (revX (.str l)) Q = (l.length ≤ sizeLine ∧ Q (.str l.reverse)) := wo_if
theorem wo_eqNil {l : List D} {Q : D → Prop} : Wo (eqX (.lst l) (.lst [])) Q = (l.all (okD 59) = true ∧ Q (.bl l.isEmpty)) := by
  by_cases h : l.all (okD 59) = true
  · rw [eqX_nil (by rw [okDs_eq]; exact h), wo_some]; simp only [h, true_and]
  · have e : eqX (.lst l) (.lst []) = none := by
      unfold eqX
      rw [okD_lst, if_neg (by intro z; exact h z.1)]
      cases l with
      | nil => exact absurd rfl h
      | cons a r => rfl
    rw [e, wo_none]; simp only [h, false_and, Bool.false_eq_true]
theorem wo_neNil {l : List D} {Q : D → Prop} : Wo (neX (.lst l) (.lst [])) Q = (l.all (okD 59) = true ∧ Q (.bl (!l.isEmpty))) := by
  by_cases h : l.all (okD 59) = true
  · rw [neX_nil (by rw [okDs_eq]; exact h), wo_some]; simp only [h, true_and]
  · have e : neX (.lst l) (.lst []) = none := by
      unfold neX
      rw [okD_lst, if_neg (by intro z; exact h z.1)]
      cases l with
      | nil => exact absurd rfl h
      | cons a r => rfl
    rw [e, wo_none]; simp only [h, false_and, Bool.false_eq_true]
theorem ws_forC {step : D → MS} {d : D} {ds : List D} {ρ : Cs} {Q : RS → Prop} : Ws (forL step (d :: ds)) ρ Q = Ws (step d) ρ (Kt (fun ρ => Ws (forL step ds) ρ Q) Q) := by
  unfold Ws
  rw [forL]
  cases h : step d ρ with
  | none => simp
  | some r => cases r <;> simp [Kt, h]
theorem ws_forN {step : D → MS} {ρ : Cs} {Q : RS → Prop} : Ws (forL step []) ρ Q = Q (.nx ρ) := ws_eq rfl
mutual
theorem okD_up : ∀ {n m : Nat} {d : D}, okD n d = true → n ≤ m → okD m d = true
  | _, _, .non, _, _ => okD_non
  | _, _, .bl _, _, _ => okD_bl
  | _, _, .int _, _, _ => okD_int
  | _, _, .str _, h, _ => by rw [okD_str] at *; exact h
  | 0, _, .lst _, h, _ => by simp [okD] at h
  | 0, _, .tup _, h, _ => by simp [okD] at h
  | n + 1, 0, _, _, hm => absurd hm (by omega)
  | n + 1, m + 1, .lst l, h, hm => by
    rw [okD] at *; exact okDs_up h (by omega)
  | n + 1, m + 1, .tup l, h, hm => by
    rw [okD] at *; exact okDs_up h (by omega)
  | 0, _, .dic _, h, _ => by simp [okD] at h
  | 0, _, .scr _, h, _ => by simp [okD] at h
  | n + 1, _, .dic _, h, _ => by simp [okD] at h
  | n + 1, _, .scr _, h, _ => by simp [okD] at h
theorem okDs_up : ∀ {n m : Nat} {l : List D}, okDs n l = true → n ≤ m → okDs m l = true
  | _, _, [], _, _ => by simp only [okDs]
  | n, m, d :: l, h, hm => by
    rw [okDs, Bool.and_eq_true] at h
    rw [okDs, okD_up h.1 hm, okDs_up h.2 hm]; rfl
end
/-- a variable that may be stored -/
def Sb (c : Cell) : Prop := c = .un ∨ (∃ d, c = .pu d) ∨ ∃ d, c = .ow false d
theorem Sb.un : Sb .un := .inl rfl
theorem Sb.pu {d : D} : Sb (.pu d) := .inr (.inl ⟨d, rfl⟩)
theorem Sb.ow {d : D} : Sb (.ow false d) := .inr (.inr ⟨d, rfl⟩)
theorem vs_sb {c : Cell} {P : Prop} (h : Sb c) : Vs (some c) P = P := by rcases h with rfl | ⟨d, rfl⟩ | ⟨d, rfl⟩ <;> rfl
theorem intsD_mem {d : D} {lo : Int} {n : Nat} (h : d ∈ intsD lo n) : ∃ k : Nat, k < n ∧ d = .int (lo + k) := by
  unfold intsD at h
  obtain ⟨k, hk, rfl⟩ := List.mem_map.mp h
  exact ⟨k, List.mem_range.mp hk, rfl⟩
theorem intsD_len {lo : Int} {n : Nat} : (intsD lo n).length = n := by unfold intsD; rw [List.length_map, List.length_range]
theorem wo_abs {i : Int} {Q : D → Prop} : Wo (abs1 [.int i]) Q = Q (.int i.natAbs) := by
  show Wo (some (D.int (if i < 0 then -i else i))) Q = _
  rw [wo_some]
  congr 2
  split <;> omega
theorem ws_mPar {i j : Nat} {ms : M (List D)} {ρ : Cs} {Q : RS → Prop} : Ws (mPar i j ms) ρ Q = Wm ms ρ (ks (fun ds ρ => match ds with
  | [d, e] => (match put i (.pu d) ρ with
    | some ρ1 => (match put j (.pu e) ρ1 with
      | some ρ2 => some (.nx ρ2)
      | none => none)
    | none => none)
  | _ => none) Q) := ws_ev
theorem ks_mPar {i j : Nat} {d e : D} {ρ : Cs} {Q : RS → Prop} : Ws (fun ρ => match [d, e] with
  | [d, e] => (match put i (.pu d) ρ with
    | some ρ1 => (match put j (.pu e) ρ1 with
      | some ρ2 => some (.nx ρ2)
      | none => none)
    | none => none)
  | _ => none) ρ Q = Wg (put i (.pu d) ρ) fun ρ => Wg (put j (.pu e) ρ) fun ρ => Q (.nx ρ) := by
  unfold Ws Wg Wo
  dsimp only
  cases h : put i (.pu d) ρ with
  | none => simp
  | some ρ1 => cases h2 : put j (.pu e) ρ1 <;> simp [h2]
theorem wo_at {α : Type} {l : List α} {n : Nat} {i : Int} {Q : α → Prop} (h0 : 0 ≤ i) (h1 : i < n) (h : ∀ c, l[i.toNat]? = some c → Q c) (hn : n = l.length := by first | rfl | omega) : Wo (ixN n i) fun k => Wo l[k]? Q := by
  subst hn
  rw [wo_ixA h0]
  refine ⟨h1, ?_⟩
  have : i.toNat < l.length := by omega
  rw [wo_eq (List.getElem?_eq_getElem this)]
  exact h _ (List.getElem?_eq_getElem this)
end Tk
namespace Tk
open PySem PySem.Spec PyProof.Rows L2 SX
/-! ### try with several clauses, each with or without a name -/
abbrev Suite := Addr → Value → Option Addr → TS
def offE (D : Ends) : Option Nat → Ends
  | none => D
  | some i => ⟨fun τ G => D.nx (τ.set i none) G, D.rt, fun τ G => D.bk (τ.set i none) G, fun τ G => D.ct (τ.set i none) G⟩
def onS (a : Addr) (τ : L2.St) : Option Nat → L2.St
  | none => τ
  | some i => τ.set i (some (.ref a))
def wAll (K : PySem.W.Frag) (Wo : WX) (D : Ends) : List (Value × Option Nat × Suite) → WX
  | [] => Wo
  | q :: r => fun cl d τ G => ∃ b, PySem.W.exmOne K cl q.1 = some b ∧ (b = true → ∀ a, G a = none → q.2.2 a cl d (offE D q.2.1) (onS a τ q.2.1) G) ∧ (b = false → wAll K Wo D r cl d τ G)
abbrev SuiteOk (X : Cx) (st : List Stmt) (ts : Suite) : Prop := ∀ (a : Addr) (o : Obj) (cl : Value) (d : Option Addr) (qs : List (Addr × Obj)), Zc cl d o → (∃ us, o.data = .fields us) → PSs (X.suite a ((a, o) :: qs)) st (ts a cl d)
inductive Hs (X : Cx) : List ExceptHandler → List (Value × Option Nat × Suite) → Prop
  | nil : Hs X [] []
  | bare {x : Str} {c : Value} {ts : Suite} {s0 : Stmt} {ss : List Stmt} {p1 p2 : Pos} {hh : List ExceptHandler} {l : List (Value × Option Nat × Suite)} (hc : Names X x c) (hu : SuiteOk X (s0 :: ss) ts) (r : Hs X hh l) :
      Hs X (.ExceptHandler (some (.Name x p1)) none (s0 :: ss) p2 :: hh) ((c, none, ts) :: l)
  | named {x n : Str} {c : Value} {ts : Suite} {s0 : Stmt} {ss : List Stmt} {p1 p2 : Pos} {hh : List ExceptHandler} {l : List (Value × Option Nat × Suite)} (i : Nat) (hc : Names X x c) (hu : SuiteOk X (s0 :: ss) ts) (hN : X.N.Nodup) (hi : X.N[i]? = some n) (hl : X.env.kindOf n = some .local) (r : Hs X hh l) :
      Hs X (.ExceptHandler (some (.Name x p1)) (some n) (s0 :: ss) p2 :: hh) ((c, some i, ts) :: l)
section
variable {X : Cx} {body : List Stmt} {hs : List ExceptHandler} {h0 : ExceptHandler} {l : List (Value × Option Nat × Suite)} {pos : Pos} {tb : WX → TS} {W0 : WX}
theorem ps_tryA (k1 : X.stack = X.env :: X.outer) (k2 : X.env.frame = some X.env.locals) (tk : Takes X W0) (hb : ∀ (W : WX) (pn : List (Addr × Obj)) (xe : Value → Shared → Prop), Takes (X.tr pn xe) W → PassesOwn (model X.prog X.w) X.A X.env xe → PSs (X.tr pn xe) body (tb W))
    (hh : Hs X (h0 :: hs) l) : PS X (.Try body (h0 :: hs) [] [] pos) (fun D τ G => tb (wAll X.K W0 D l) D τ G) := by
  constructor
  intro pins s τ G D I q
  have ok := I.ok
  have fr : X.A.frames = some (X.env :: X.outer) := ok.frames.trans (congrArg some k1)
  apply wpAny_Try_except
  have b := (hb (wAll X.K W0 D l) (X.pn ++ pins) (fun e s1 => wpAny (model X.prog X.w) X.A (noteFrame e X.env) (fun _ s2 => wpAny (model X.prog X.w) X.A (setFlight e none) (fun _ s3 => wpAny (model X.prog X.w) X.A (handleBy e X.env (h0 :: hs)) (L2.SP X pins D) X.xe s3) X.xe s2) X.xe s1)
    (fun u s5 xx => by
      obtain ⟨a, B, sI, pj, τ1, G1, cl, d, rfl, J1, nb, up, sky, na, os, ag, w⟩ := xx
      have J : Inv X pins τ1 G1 sI := J1.ofTry ok
      rw [k1] at sky
      show wpAny (model X.prog X.w) X.A (noteFrame (.ref a) X.env) _ _ _
      apply Sky.land Zc.steady fr k2 sky
      intro g3 fl3 up3
      have K3 : Inv X pins τ1 G1 { s5 with heap := g3 } := J.landed nb fl3.1 (up.trans up3) os ag
      obtain ⟨o3, us3, e3, z3, d3⟩ := fl3.there
      have off : a ∉ frs (X.env :: X.outer) := fun hm => by
        obtain ⟨_, o', e', nn⟩ := fl3.2.2.1.mem hm
        cases e3.symm.trans e'
        exact nn _ d3
      have off1 : a ≠ X.env.locals := fun z => off (List.mem_filterMap.mpr ⟨X.env, .head _, by rw [k2, z]⟩)
      have off2 : a ∉ X.fs := fun hm => by
        obtain ⟨en, hen, qn⟩ := List.mem_filterMap.mp hm
        exact off (List.mem_filterMap.mpr ⟨en, .tail _ hen, qn⟩)
      have V3 := K3.suite e3 d3 na off1 off2
      suffices go : ∀ {h2 : List ExceptHandler} {l2 : List (Value × Option Nat × Suite)}, Hs X h2 l2 → wAll X.K W0 D l2 cl d τ1 G1 → wpAny (model X.prog X.w) X.A (handleBy (.ref a) X.env h2) (L2.SP X pins D) X.xe { s5 with heap := g3 } from go hh w
      have look : PySem.W.Looks (model X.prog X.w) g3 (typeOf (.ref a)) cl := fun A Q E s k y => wpAny_typeOf_ref (k _ _ e3) (z3.1 ▸ y)
      have named : ∀ {x : Str} {c : Value} {np : Pos}, Names X x c → ∀ {Q E : Value → Shared → Prop}, Q c { s5 with heap := g3 } → wpAny (model X.prog X.w) (X.A.mark (some (.ref a))) (eval (.Name x np) X.env) Q E { s5 with heap := g3 } := by
        intro x c np nx Q E y
        obtain ⟨n1, n2, n3 | ⟨n3, n4, n5⟩⟩ := nx
        · exact ld_glob (X := X.suite a ((a, o3) :: (X.pn ++ pins))) V3 n1 n3 y n2
        · exact ld_blt (X := X.suite a ((a, o3) :: (X.pn ++ pins))) V3 n1 n3 n4 y n5 n2
      intro h2 l2 hk
      induction hk with
      | nil =>
        intro w
        apply wpAny_handleBy_nil
        obtain ⟨_, _, _, o, us, T, oT, t2, f1, f2, f3, f4, f5⟩ := id fl3
        unfold PySem.passOn
        apply wpAny_bind
        apply wpAny_field f1 f3 f4
        rw [if_neg (by simp : ¬ ((Value.ref T == Value.none) = true))]
        have last : wpAny (model X.prog X.w) X.A (setFlight (.ref a) X.env.frame) (fun _ s8 => wpAny (model X.prog X.w) X.A (throw (.ref a) : Sem Flow) (L2.SP X pins D) X.xe s8) X.xe { s5 with heap := g3 } := by
          rw [k2]
          apply HandSPX.setFlight_upZ fl3
          intro g8 hh8 up8
          apply wpAny_throw
          exact tk _ _ ⟨a, B, sI, pins, τ1, G1, cl, d, rfl, J, nb, (up.trans up3).trans up8, .inr (.inr (by rw [k1]; exact hh8)), na, os, ag, w⟩
        first | exact wpAny_bind (wpAny_pure (wpAny_bind last)) | exact wpAny_bind last
      | bare hc hu r ih =>
        intro w
        obtain ⟨b, m1, yes, no⟩ := w
        refine wpAny_handleBy_cons (codeAny_handlers_test ?_) (fun z => nomatch z)
        apply named hc
        apply (PySem.W.exm_one (M := model X.prog X.w) K3.kIn look m1).here
        cases b with
        | false => exact ih (no rfl)
        | true =>
          apply codeAny_handlers_suite
          apply HandSPX.lands_againZ fl3
          intro g4 fl4 up4
          have K4 : Inv X pins τ1 G1 { s5 with heap := g4 } := J.landed nb fl4.1 ((up.trans up3).trans up4) os ag
          obtain ⟨o4, us4, e4, z4, d4⟩ := fl4.there
          have V4 := K4.suite e4 d4 na off1 off2
          refine wpAny_mono ((hu a o4 cl d (X.pn ++ pins) z4 ⟨_, d4⟩).run [] _ _ G1 _ V4 (yes rfl a na)) (fun f s6 fin => ?_) (fun _ _ z => z.elim)
          rcases f with _ | _ | _ | u
          · obtain ⟨τ6, G6, V6, y6⟩ := fin; exact ⟨_, _, V6.unsuite ok, y6⟩
          · obtain ⟨τ6, G6, V6, y6⟩ := fin; exact ⟨_, _, V6.unsuite ok, y6⟩
          · obtain ⟨τ6, G6, V6, y6⟩ := fin; exact ⟨_, _, V6.unsuite ok, y6⟩
          · obtain ⟨v6, τ6, G6, V6, r6, y6⟩ := fin; exact ⟨_, _, _, V6.unsuite ok, r6, y6⟩
      | named i hc hu hN hi hl r ih =>
        intro w
        obtain ⟨b, m1, yes, no⟩ := w
        refine wpAny_handleBy_cons (codeAny_handlers_test ?_) (fun z => nomatch z)
        apply named hc
        apply (PySem.W.exm_one (M := model X.prog X.w) K3.kIn look m1).here
        cases b with
        | false => exact ih (no rfl)
        | true =>
          apply codeAny_handlers_suite_as
          apply HandSPX.lands_againZ fl3
          intro g4 fl4 up4
          have K4 : Inv X pins τ1 G1 { s5 with heap := g4 } := J.landed nb fl4.1 ((up.trans up3).trans up4) os ag
          obtain ⟨o4, us4, e4, z4, d4⟩ := fl4.there
          have V4 := K4.suite e4 d4 na off1 off2
          refine store_ok (X := X.suite a ((a, o4) :: (X.pn ++ pins))) (v := .ref a) V4 hN hi (.inl hl) rfl (fun s7 V7 => ?_) (.inr hl)
          refine wpAny_mono ((hu a o4 cl d (X.pn ++ pins) z4 ⟨_, d4⟩).run [] s7 _ G1 _ V7 (yes rfl a na)) (fun f s6 fin => ?_) (fun _ _ z => z.elim)
          rcases f with _ | _ | _ | u
          · obtain ⟨τ6, G6, V6, y6⟩ := fin
            exact gone_ok (V6.unsuite ok) hN hi hl fun s9 J9 => ⟨_, _, J9, y6⟩
          · obtain ⟨τ6, G6, V6, y6⟩ := fin
            exact gone_ok (V6.unsuite ok) hN hi hl fun s9 J9 => ⟨_, _, J9, y6⟩
          · obtain ⟨τ6, G6, V6, y6⟩ := fin
            exact gone_ok (V6.unsuite ok) hN hi hl fun s9 J9 => ⟨_, _, J9, y6⟩
          · obtain ⟨v6, τ6, G6, V6, r6, y6⟩ := fin
            exact gone_ok (V6.unsuite ok) hN hi hl fun s9 J9 => ⟨_, _, _, J9, r6, y6⟩) PassesOwn.looking).run [] s τ G D (I.toTry _) q
  refine wpAny_mono b (fun f s1 fin => ?_) (fun e s1 z => z)
  rcases f with _ | _ | _ | u
  · obtain ⟨τ6, G6, V6, y6⟩ := fin; exact wpAny_execs_nil ⟨τ6, G6, V6.ofTry ok, y6⟩
  · obtain ⟨τ6, G6, V6, y6⟩ := fin; exact ⟨τ6, G6, V6.ofTry ok, y6⟩
  · obtain ⟨τ6, G6, V6, y6⟩ := fin; exact ⟨τ6, G6, V6.ofTry ok, y6⟩
  · obtain ⟨v6, τ6, G6, V6, r6, y6⟩ := fin; exact ⟨v6, τ6, G6, V6.ofTry ok, r6, y6⟩
end
def hdl : List (Nat × Option Nat × (D → MS)) → Nat → D → Cs → Option RS
  | [], c, p, ρ => some (.ex c p ρ)
  | q :: r, c, p, ρ => if c = q.1 then (match q.2.1 with
      | none => (match q.2.2 p ρ with
        | some z => if noEx z = true then some z else none
        | none => none)
      | some i => (match ρ[i]? with
        | some .un => (match q.2.2 p ρ with
          | some z => if noEx z = true then some (unRS i z) else none
          | none => none)
        | _ => none)) else hdl r c p ρ
def tryA (m : MS) (hs : List (Nat × Option Nat × (D → MS))) : MS := fun ρ => match m ρ with
  | some (.ex c p ρ1) => hdl hs c p ρ1
  | r => r
section
variable {X : Cx} {Xs : List XC} {W : WX}
inductive HsD (X : Cx) (Xs : List XC) : List ExceptHandler → List (Nat × Option Nat × (D → MS)) → Prop
  | nil : HsD X Xs [] []
  | bare {x : Str} {C : Addr} {f : Option Str} {s0 : Stmt} {ss : List Stmt} {p1 p2 : Pos} {hh : List ExceptHandler} {l : List (Nat × Option Nat × (D → MS))} {ms : MS} (c : Nat) (hC : Names X x (.ref C)) (hx : Xs[c]? = some ⟨C, f⟩)
      (hxs : ∀ (c' : Nat) (x' : XC), Xs[c']? = some x' → PySem.W.exmOne X.K (.ref x'.C) (.ref C) = some (decide (c' = c)))
      (hu : ∀ (a : Addr) (o : Obj) (cl : Value) (d : Option Addr) (qs : List (Addr × Obj)), Zc cl d o → (∃ us, o.data = .fields us) → SB (X.suite a ((a, o) :: qs)) Xs FW (s0 :: ss) ms) (r : HsD X Xs hh l) :
      HsD X Xs (.ExceptHandler (some (.Name x p1)) none (s0 :: ss) p2 :: hh) ((c, none, fun _ => ms) :: l)
  | named {x n : Str} {C : Addr} {f : Str} {s0 : Stmt} {ss : List Stmt} {p1 p2 : Pos} {hh : List ExceptHandler} {l : List (Nat × Option Nat × (D → MS))} {ms : D → MS} {mS : Addr → Addr → MS} (i c : Nat) (hN : X.N.Nodup) (hi : X.N[i]? = some n) (hl : X.env.kindOf n = some .local) (hC : Names X x (.ref C)) (hx : Xs[c]? = some ⟨C, some f⟩)
      (hxs : ∀ (c' : Nat) (x' : XC), Xs[c']? = some x' → PySem.W.exmOne X.K (.ref x'.C) (.ref C) = some (decide (c' = c)))
      (hu : ∀ (a : Addr) (o : Obj) (d : Addr) (qs : List (Addr × Obj)), Zc (.ref C) (some d) o → (∃ us, o.data = .fields us) → SB (X.suite a ((a, o) :: qs)) Xs FW (s0 :: ss) (mS a d))
      (hms : ∀ (a d : Addr) (p : D) (ρ : Cs) (r : RS), i < ρ.length → ms p ρ = some r → ∃ r', mS a d (ρ.set i (.er (a, d, f) p)) = some r' ∧ unRS i r' = unRS i r) (r : HsD X Xs hh l) :
      HsD X Xs (.ExceptHandler (some (.Name x p1)) (some n) (s0 :: ss) p2 :: hh) ((c, some i, ms) :: l)
/-- what is known of an exception in the air -/
def Air (K : PySem.W.Frag) (B : Bs) (G H : Hp) (p : D) (x : XC) (d : Option Addr) : Prop := match x.f with
  | some f => ∃ dd v, d = some dd ∧ H dd = some (.xd [(f, v)]) ∧ B.H dd = none ∧ G dd = none ∧ Rep K G v p
  | none => d = none
theorem XP.air {K : PySem.W.Frag} {B : Bs} {G H : Hp} {c : Nat} {p : D} {E : Value → Option Addr → Prop} {x : XC} {d : Option Addr} (h : XP K Xs B G H c p E) (hx : Xs[c]? = some x) (a : Air K B G H p x d) : E (.ref x.C) d := by
  obtain ⟨y, h1, h2⟩ := h
  rw [hx] at h1; cases h1
  unfold Air at a
  cases q : x.f with
  | none => rw [q] at a h2; subst a; exact h2
  | some f => rw [q] at a h2; obtain ⟨dd, v, rfl, a1, a2, a3, a4⟩ := a; exact h2 dd v a1 a2 a3 a4
theorem xp_of {K : PySem.W.Frag} {B : Bs} {G H : Hp} {c : Nat} {p : D} {E : Value → Option Addr → Prop} {x : XC} (hx : Xs[c]? = some x) (f : ∀ d, Air K B G H p x d → E (.ref x.C) d) : XP K Xs B G H c p E := by
  refine ⟨x, hx, ?_⟩
  unfold Air at f
  cases q : x.f with
  | none => rw [q] at f; exact f none rfl
  | some g => rw [q] at f; exact fun dd v a1 a2 a3 a4 => f _ ⟨dd, v, rfl, a1, a2, a3, a4⟩
theorem HsD.to {hs : List ExceptHandler} {hl : List (Nat × Option Nat × (D → MS))} (h : HsD X Xs hs hl) : ∃ l, Hs X hs l ∧ ∀ (W : WX) (D' : Ends) (B : Bs) (σ : L2.St) (G H : Hp) (ρ : Cs) (c : Nat) (p : D) (r : RS) (x : XC) (d : Option Addr), SR X.K B σ G H ρ → hdl hl c p ρ = some r → PostS X.K Xs W B D' r → Xs[c]? = some x → Air X.K B G H p x d → wAll X.K W D' l (.ref x.C) d σ H := by
  induction h with
  | nil =>
    refine ⟨[], .nil, fun W D' B σ G H ρ c p r x d s hd post hx air => ?_⟩
    cases hd
    exact (post σ G H s).air hx air
  | @bare nm C f s0 ss p1 p2 hh l ms c hC hx hxs hu rr ih =>
    obtain ⟨l', i1, i2⟩ := ih
    refine ⟨(.ref C, none, fun a cls d D σ H => rS X.K Xs FW ms D σ H) :: l', .bare hC (fun a o cl d qs z fl => ⟨fun pins s σ H D I q => (hu a o cl d qs z fl).run pins s σ H D I q⟩) i1, fun W D' B σ G H ρ c' p r x d s hd post hx' air => ?_⟩
    rw [hdl] at hd
    refine ⟨decide (c' = c), hxs _ _ hx', fun e a ha => ?_, fun e => ?_⟩
    · have e := of_decide_eq_true e
      rw [if_pos e] at hd
      dsimp only at hd
      split at hd
      · rename_i z ez
        obtain ⟨hne, hd⟩ := ite_inv hd
        subst hd
        show rS X.K Xs FW ms D' σ H
        refine ⟨B, G, ρ, z, s, ez, ?_⟩
        cases z <;> first | exact post | cases hne
      · cases hd
    · have e := of_decide_eq_false e
      rw [if_neg e] at hd
      exact i2 W D' B σ G H ρ c' p r x d s hd post hx' air
  | @named nm n C f s0 ss p1 p2 hh l ms mS i c hN hi hl hC hx hxs hu hms rr ih =>
    obtain ⟨l', i1, i2⟩ := ih
    refine ⟨(.ref C, some i, fun a cls d D σ H => cls = .ref C ∧ ∃ dd, d = some dd ∧ rS X.K Xs FW (mS a dd) D σ H) :: l', .named i hC (fun a o cl d qs z fl => ⟨fun pins s σ H D I ⟨e1, dd, e2, q⟩ => by
        subst e1 e2
        exact (hu a o dd qs z fl).run pins s σ H D I q⟩) hN hi hl i1, fun W D' B σ G H ρ c' p r x d s hd post hx' air => ?_⟩
    rw [hdl] at hd
    refine ⟨decide (c' = c), hxs _ _ hx', fun e a ha => ?_, fun e => ?_⟩
    · have e := of_decide_eq_true e
      rw [if_pos e] at hd
      subst e
      rw [hx] at hx'; cases hx'
      dsimp only at hd
      obtain ⟨dd, v, rfl, a1, a2, a3, a4⟩ := air
      split at hd
      · rename_i hun
        split at hd
        · rename_i z ez
          obtain ⟨hne, hd⟩ := ite_inv hd
          subst hd
          obtain ⟨z', m1, m2⟩ := hms a dd p ρ z (List.getElem?_eq_some_iff.mp hun).1 ez
          refine ⟨rfl, dd, rfl, B, G, _, z', s.setE a1 a4 hun, m1, ?_⟩
          rw [← m2] at post
          cases z' with
          | nx ρ' => exact fun σ' G' H' s' => post _ G' H' (s'.setU i)
          | bk ρ' => exact fun σ' G' H' s' => post _ G' H' (s'.setU i)
          | ct ρ' => exact fun σ' G' H' s' => post _ G' H' (s'.setU i)
          | rt d ρ' => exact fun v σ' G' H' s' rv => post v _ G' H' (s'.setU i) rv
          | ro d ρ' => exact fun p o σ' G' H' s' hp ro nw => post p o _ G' H' (s'.setU i) hp ro ⟨nw.1, nw.2.1, fun j hj z => by
              have nn := isO_set hj (by intro b d q; cases q)
              rw [List.getElem?_set_ne (Ne.symm nn.1)] at z
              exact nw.2.2.1 j nn.2 z, nw.2.2.2.1, fun j hj => nw.2.2.2.2 j (fp_un hj)⟩
          | ex c p ρ' => cases z <;> first | (cases m2; done) | (cases hne; done)
        · cases hd
      · cases hd
    · have e := of_decide_eq_false e
      rw [if_neg e] at hd
      exact i2 W D' B σ G H ρ c' p r x d s hd post hx' air
theorem HsD.has {hs : List ExceptHandler} {hl : List (Nat × Option Nat × (D → MS))} (h : HsD X Xs hs hl) {W : WX} {D' : Ends} {B : Bs} {σ : L2.St} {G H : Hp} {ρ : Cs} {c : Nat} {p : D} {r : RS} (s : SR X.K B σ G H ρ) (hd : hdl hl c p ρ = some r) (post : PostS X.K Xs W B D' r) : ∃ x, Xs[c]? = some x := by
  induction h with
  | nil =>
    cases hd
    obtain ⟨x, hx, _⟩ := post σ G H s
    exact ⟨x, hx⟩
  | bare c0 hC hx hxs hu rr ih =>
    rw [hdl] at hd
    by_cases e : c = c0
    · subst e; exact ⟨_, hx⟩
    · rw [if_neg e] at hd; exact ih hd
  | named i c0 hN hi hl hC hx hxs hu hms rr ih =>
    rw [hdl] at hd
    by_cases e : c = c0
    · subst e; exact ⟨_, hx⟩
    · rw [if_neg e] at hd; exact ih hd
theorem ss_tryA {body : List Stmt} {h0 : ExceptHandler} {hs : List ExceptHandler} {pos : Pos} {m : MS} {hl : List (Nat × Option Nat × (D → MS))} (k1 : X.stack = X.env :: X.outer) (k2 : X.env.frame = some X.env.locals) (tk : Takes X W)
    (hb : ∀ (W' : WX) (pn : List (Addr × Obj)) (xe : Value → Shared → Prop), Takes (X.tr pn xe) W' → PassesOwn (model X.prog X.w) X.A X.env xe → SB (X.tr pn xe) Xs W' body m) (hh : HsD X Xs (h0 :: hs) hl) :
    SS X Xs W (.Try body (h0 :: hs) [] [] pos) (tryA m hl) := by
  obtain ⟨l, g1, g2⟩ := hh.to
  refine ps_imp (ps_tryA (tb := fun W' => rS X.K Xs W' m) k1 k2 tk hb g1) fun D' σ H ⟨B, G, ρ, r, s, h1, h2⟩ => ?_
  unfold tryA at h1
  cases em : m ρ with
  | none => rw [em] at h1; cases h1
  | some q =>
    rw [em] at h1
    refine ⟨B, G, ρ, q, s, em, ?_⟩
    cases q with
    | nx ρ1 => cases h1; exact h2
    | bk ρ1 => cases h1; exact h2
    | ct ρ1 => cases h1; exact h2
    | rt d ρ1 => cases h1; exact h2
    | ro d ρ1 => cases h1; exact h2
    | ex c p ρ1 =>
      intro σ1 G1 H1 s1
      dsimp only at h1
      obtain ⟨x, hx⟩ := hh.has s1 h1 h2
      exact xp_of hx fun d air => g2 W D' B σ1 G1 H1 ρ1 c p r x d s1 h1 h2 hx air
end
section
variable {Q : RS → Prop} {ρ : Cs} {d : D} {c : Nat}
def Wh (hs : List (Nat × Option Nat × (D → MS))) (c : Nat) (p : D) (ρ : Cs) (Q : RS → Prop) (_b : Bx Q := .mk) : Prop := ∃ r, hdl hs c p ρ = some r ∧ Q r
def Ka (hs : List (Nat × Option Nat × (D → MS))) (Q : RS → Prop) : RS → Prop
  | .ex c p ρ => Wh hs c p ρ Q
  | .nx ρ => Q (.nx ρ)
  | .bk ρ => Q (.bk ρ)
  | .ct ρ => Q (.ct ρ)
  | .rt d ρ => Q (.rt d ρ)
  | .ro d ρ => Q (.ro d ρ)
def Vu (c : Option Cell) (P : Prop) (_b : Bx P := .mk) : Prop := match c with | some .un => P | _ => False
variable {hs : List (Nat × Option Nat × (D → MS))}
theorem kc_a1 : Ka hs Q (.nx ρ) = Q (.nx ρ) := rfl
theorem kc_a2 : Ka hs Q (.bk ρ) = Q (.bk ρ) := rfl
theorem kc_a3 : Ka hs Q (.ct ρ) = Q (.ct ρ) := rfl
theorem kc_a4 : Ka hs Q (.rt d ρ) = Q (.rt d ρ) := rfl
theorem kc_a5 : Ka hs Q (.ro d ρ) = Q (.ro d ρ) := rfl
theorem kc_a6 : Ka hs Q (.ex c d ρ) = Wh hs c d ρ Q := rfl
theorem vs_u {P : Prop} : Vu (some .un) P = P := rfl
theorem ws_tryA {m : MS} : Ws (tryA m hs) ρ Q = Ws m ρ (Ka hs Q) := by
  unfold Ws tryA
  cases h : m ρ with
  | none => simp
  | some r => cases r <;> simp [Ka, Wh]
theorem ws_h0 : Wh [] c d ρ Q = Q (.ex c d ρ) := by unfold Wh hdl; simp
theorem ws_h1 {c0 : Nat} {ms : D → MS} (h : c = c0) : Wh ((c0, none, ms) :: hs) c d ρ Q = Ws (ms d) ρ (fun z => noEx z = true ∧ Q z) := by
  subst h
  unfold Wh hdl Ws
  dsimp only
  rw [if_pos rfl]
  cases ms d ρ with
  | none => simp
  | some z => by_cases hn : noEx z = true <;> simp [hn]
theorem ws_h2 {c0 i : Nat} {ms : D → MS} (h : c = c0) : Wh ((c0, some i, ms) :: hs) c d ρ Q = Vu ρ[i]? (Ws (ms d) ρ (fun z => noEx z = true ∧ Q (unRS i z))) := by
  subst h
  unfold Wh hdl Ws
  dsimp only
  rw [if_pos rfl]
  cases e : ρ[i]? with
  | none => simp [Vu]
  | some x => cases x with
    | un =>
      simp only [Vu]
      cases ms d ρ with
      | none => simp
      | some z => by_cases hn : noEx z = true <;> simp [hn]
    | _ => simp [Vu]
theorem ws_h3 {c0 : Nat} {o : Option Nat} {ms : D → MS} (h : c ≠ c0) : Wh ((c0, o, ms) :: hs) c d ρ Q = Wh hs c d ρ Q := by
  unfold Wh
  rw [hdl, if_neg h]
end
end Tk
namespace Tk
open PySem PySem.Spec PyProof.Rows L2 SX
/-! ### a, b = a tuple or a list -/
section
variable {X : Cx} {pos : Pos}
def gU (n : Nat) (gs : List D → Cs → Option Cs) : D → Cs → Option Cs := fun d ρ => match d with
  | .tup ds => if ds.length = n then gs ds ρ else none
  | .lst ds => if ds.length = n then gs ds ρ else none
  | _ => none
theorem pg_or {tg : Expr} {t u : TG} (h : PG X tg t) (g : PG X tg u) : PG X tg (fun v σ H Q => t v σ H Q ∨ u v σ H Q) :=
  ⟨fun pins s σ H v w Q I r q => q.elim (fun q => h.run pins s σ H v w Q I r q) (fun q => g.run pins s σ H v w Q I r q)⟩
theorem sg_unp {is : List Nat} {es : List Expr} {k n : Nat} {gs : List D → Cs → Option Cs} (hc : X.calm = true) (h : SGs X is es gs)
    (hn : (assignEach es X.env).length = n := by rfl) (hst : (assignEach es X.env).findIdx? (·.1) = none := by rfl) : SG X is (.Tuple es k pos) (gU n gs) := by
  refine pg_imp (pg_or (pg_tup hc h hn hst) (pg_unl hc h hn hst)) fun v σ H Q ⟨B, G, ρ, d, ρ', s, r, h, q⟩ => ?_
  unfold gU at h
  cases r with
  | @tup a vs ds ha rs =>
    dsimp only at h
    by_cases hl : ds.length = n
    · rw [if_pos hl] at h
      exact .inl ⟨a, vs, rfl, s.ex.st ha.sq, by rw [rs.length]; exact hl, B, G, ρ, ds, ρ', s, rs, h, q⟩
    · rw [if_neg hl] at h; cases h
  | @lst a vs ds ha rs =>
    dsimp only at h
    by_cases hl : ds.length = n
    · rw [if_pos hl] at h
      exact .inr ⟨a, vs, rfl, s.ex.sl (.inl (.inl ha)), by rw [rs.length]; exact hl, B, G, ρ, ds, ρ', s, rs, h, q⟩
    · rw [if_neg hl] at h; cases h
  | _ => cases h
theorem wo_get {α : Type} {l : List α} {i : Nat} {Q : α → Prop} (h : i < l.length) (q : ∀ c, l[i]? = some c → Q c) : Wo l[i]? Q := ⟨_, List.getElem?_eq_getElem h, q _ (List.getElem?_eq_getElem h)⟩
theorem wg_gU {n : Nat} {gs : List D → Cs → Option Cs} {ds : List D} {ρ : Cs} {P : Cs → Prop} : Wg (gU n gs (.tup ds) ρ) P = (ds.length = n ∧ Wg (gs ds ρ) P) := by
  unfold gU Wg
  by_cases h : ds.length = n <;> simp [h, wo_none]
theorem wg_gUl {n : Nat} {gs : List D → Cs → Option Cs} {ds : List D} {ρ : Cs} {P : Cs → Prop} : Wg (gU n gs (.lst ds) ρ) P = (ds.length = n ∧ Wg (gs ds ρ) P) := by
  unfold gU Wg
  by_cases h : ds.length = n <;> simp [h, wo_none]
end
end Tk
namespace Tk
open PySem PySem.Spec PyProof.Rows L2 SX
/-! ### enumerate of a text, of a tuple -/
theorem two_is {e i c : Addr} (h : c ∈ [e, i]) : c = e ∨ c = i := by simpa using h
/-- the objects of an enumerate over an iterator that draws items -/
theorem turn_enG {P : Program} {w : World} {K : PySem.W.Frag} {elts : List Expr} {kk : Nat} {tpos : Pos} {J : It} {it e : Addr} (hne : e ≠ it) (It0 : Nat → Heap → Prop)
    (ob : ∀ i h, It0 i h → ∃ o, h.get? it = some o ∧ ∀ v, o.data ≠ .cell v) (kp : ∀ i h h', It0 i h → (∀ o, h.get? it = some o → h'.get? it = some o) → It0 i h')
    (dr : ∀ (X : Cx), X.prog = P → X.w = w → X.K = K → X.calm = true → ∀ (i : Nat) (pins : List (Addr × Obj)) (s : Shared) (σ : L2.St) (H : Hp), Inv X pins σ H s → It0 i s.heap → (∀ g ∈ [e, it], H g = none) → (∃ o, s.heap.get? e = some o ∧ o.cls = .type "enumerate") → (J.go i H ∨ J.stop i H) → ∃ (fp : List Addr) (n : Nat) (P0 : Nat → Value → Prop) (S0 : Nat → Heap → Prop), e ∉ fp ∧ Draws P w X.A.in1 it fp n P0 S0 ∧ S0 i s.heap ∧ (∀ j h, S0 j h → It0 j h) ∧
      (J.go i H → i < n ∧ ∀ x, P0 i x → ∃ y, RelV y x ∧ ∀ T o H', H T = none → o.dict = none → H' = upd H T (.frz o (.tup [.int i, y])) → J.yld i H (.ref T) H') ∧ (J.stop i H → i = n)) :
    Turn P w K (.Tuple elts kk tpos) J [e, it] e (fun i h => (∃ old, IsEnum h e it i old) ∧ It0 i h) where
  mem := List.mem_cons_self
  obj := by
    rintro i h ⟨⟨old, he⟩, h0⟩ c hc
    rcases two_is hc with rfl | rfl
    · exact ⟨_, he, fun v q => nomatch q⟩
    · obtain ⟨o, h1, h2⟩ := ob i h h0
      exact ⟨o, h1, h2⟩
  keep := by
    rintro i h h' ⟨⟨old, he⟩, h0⟩ k
    exact ⟨⟨old, k e (by simp) _ he⟩, kp i h h' h0 fun o q => k it (by simp) o q⟩
  item := by
    intro X hP hw hK hc i pins s σ H E I hf st hg
    have dd := dr X hP hw hK hc i pins s σ H I st.2 (fun g hg' => (hf g hg').1) (let ⟨⟨old, he⟩, _⟩ := st; ⟨_, he, rfl⟩) (.inl hg)
    obtain ⟨fp, n, P0, S0, f1, D, s0, s1, s2, _⟩ := dd
    obtain ⟨lt, yl⟩ := s2 hg
    subst hP hw hK
    obtain ⟨⟨old, he⟩, h0⟩ := st
    have le : e < s.heap.objs.size := Heap.lt_size he
    have li : it < s.heap.objs.size := by obtain ⟨o, q⟩ := D.live _ _ s0; exact Heap.lt_size q
    refine wpAny_pyNext_enum_itemD D he s0 lt hne f1 fun x h' tk hx ho hs' hT hsz hk => ?_
    obtain ⟨y, ry, yy⟩ := yl x hx
    refine ⟨_, rfl, wpAny_letOwnedTupleGo_enum (s := { s with heap := h', toks := tk + 1 }) ho fun h'' he' sb => ?_⟩
    have hT2 : h''.get? s.heap.objs.size = some { cls := .type "tuple", data := .seq #[.int i tk, x] } := (sb.2 _ (Nat.ne_of_gt le)).trans hT
    have new : ∀ H0 : Hp, ObjOk X.prog X.w H0 h'' s.heap.objs.size (.frz _ (.tup [.int (i : Nat), y])) := fun H0 =>
      frz_tup (us := [.int i tk, x]) (by decide : 2 ≤ sizeLine) (.cons ⟨_, rfl⟩ (.cons ry .nil)) hT2 rfl ⟨_, rfl⟩
    have I1 :=
      I.turnedNew (t' := tk + 1) (ch := [e, it]) (fun b ob hb q => (sb.2 b (fun z => hb (by simp [z]))).trans (hk b ob (fun z => hb (by simp [z])) (fun z => hb (by simp [z])) q)) hf (Nat.le_refl _) (new _)
    refine ⟨.ref s.heap.objs.size, _, I1, rfl, yy _ _ _ (I.hok.fresh (Nat.le_refl _)) rfl rfl, ⟨⟨x, ?_⟩, kp _ h' _ (s1 _ _ hs') fun o q => (sb.2 it (Ne.symm hne)).trans q⟩, fun b hb => ?_⟩
    · have e1 : ((i + 1 : Nat) : Int) = (i : Int) + 1 := by omega
      rw [e1]; exact he'
    · have lb : b < s.heap.objs.size := by rcases two_is hb with rfl | rfl <;> assumption
      rw [upd_ne (Nat.ne_of_lt lb)]
      exact (hf b hb).1
  done := by
    intro X hP hw hK hc i pins s σ H E I hf st hg
    have dd := dr X hP hw hK hc i pins s σ H I st.2 (fun g hg' => (hf g hg').1) (let ⟨⟨old, he⟩, _⟩ := st; ⟨_, he, rfl⟩) (.inr hg)
    obtain ⟨fp, n, P0, S0, f1, D, s0, s1, _, s2⟩ := dd
    have en := s2 hg
    subst en hP hw hK
    obtain ⟨⟨old, he⟩, h0⟩ := st
    exact wpAny_pyNext_enum_endD D he s0 fun h' hx => ⟨rfl, I.turnedL (t' := s.toks) (ch := [e, it]) (fun b o hb q => hx b o (fun z => hb (by simp [z])) q) hf⟩
  self := fun A i s Q E st h => let ⟨⟨_, he⟩, _⟩ := st; wpAny_pyIter_enum he h
/-- i, c of a text; i, x of a tuple -/
def Itn (x : Str) : It :=
  ⟨fun i _ => i < x.cps.size, fun i H v H' => ∃ T o c, v = .ref T ∧ H T = none ∧ o.dict = none ∧ H' = upd H T (.frz o (.tup [.int i, .str ⟨#[c]⟩])) ∧ x.cps[i]? = some c, fun i _ => i = x.cps.size⟩
def Itu (K : PySem.W.Frag) (a : Addr) : It :=
  ⟨fun i H => ∃ (xs : List V) (x : V), SqT K H a xs ∧ xs[i]? = some x, fun i H v H' => ∃ T o x, v = .ref T ∧ H T = none ∧ o.dict = none ∧ H' = upd H T (.frz o (.tup [.int i, x])) ∧ ∀ xs, SqT K H a xs → xs[i]? = some x, fun i H => ∃ xs, SqT K H a xs ∧ xs.length = i⟩
def Itle (K : PySem.W.Frag) (a : Addr) : It :=
  ⟨fun i H => ∃ (xs : List V) (x : V), SqL K H a xs ∧ xs[i]? = some x, fun i H v H' => ∃ T o x, v = .ref T ∧ H T = none ∧ o.dict = none ∧ H' = upd H T (.frz o (.tup [.int i, x])) ∧ ∀ xs, SqL K H a xs → xs[i]? = some x, fun i H => ∃ xs, SqL K H a xs ∧ xs.length = i⟩
theorem turn_enS {P : Program} {w : World} {K : PySem.W.Frag} {elts : List Expr} {kk : Nat} {tpos : Pos} {x : Str} {tx : Tok} {it e : Addr} (hne : e ≠ it) :
    Turn P w K (.Tuple elts kk tpos) (Itn x) [e, it] e (fun i h => (∃ old, IsEnum h e it i old) ∧ h.IsStrIter it (strIterType x) x tx i) :=
  turn_enG hne (fun i h => h.IsStrIter it (strIterType x) x tx i) (fun i h ⟨o, h1, _, h3⟩ => ⟨o, h1, fun v q => by rw [h3] at q; cases q⟩) (fun i h h' ⟨o, h1, h2⟩ k => ⟨o, k o h1, h2⟩)
    fun X hP hw hK hc i pins s σ H I st nf ex g => by
      subst hP hw hK
      have hd : X.A.in1.handled = none := I.ok.hd hc
      refine ⟨[it], x.cps.size, fun i v => ∃ c u, x.cps[i]? = some c ∧ v = .str ⟨#[c]⟩ u, fun i h => h.IsStrIter it (strIterType x) x tx i, by simpa using hne, Draws.text hd it x tx, st, fun _ _ q => q, fun hg => ⟨hg, ?_⟩, fun hs => hs⟩
      rintro v ⟨c, u, h1, rfl⟩
      exact ⟨.str ⟨#[c]⟩, ⟨u, rfl⟩, fun T o H' hT ho hH => ⟨T, o, c, rfl, hT, ho, hH, h1⟩⟩
theorem turn_enT {P : Program} {w : World} {K : PySem.W.Frag} {elts : List Expr} {kk : Nat} {tpos : Pos} {a it e : Addr} (hne : e ≠ it) :
    Turn P w K (.Tuple elts kk tpos) (Itu K a) [e, it] e (fun i h => (∃ old, IsEnum h e it i old) ∧ h.IsTupleIter it a i) :=
  turn_enG hne (fun i h => h.IsTupleIter it a i) (fun i h ⟨o, h1, _, h3⟩ => ⟨o, h1, fun v q => by rw [h3] at q; cases q⟩) (fun i h h' ⟨o, h1, h2⟩ k => ⟨o, k o h1, h2⟩)
    fun X hP hw hK hc i pins s σ H I st nf ⟨oe, ex, ec⟩ g => by
      subst hP hw hK
      have hd : X.A.in1.handled = none := I.ok.hd hc
      have hq : ∃ xs, SqT X.K H a xs := by rcases g with ⟨xs, _, h, _⟩ | ⟨xs, h, _⟩ <;> exact ⟨xs, h⟩
      obtain ⟨xs, hq⟩ := hq
      obtain ⟨its, rv, ht, hz⟩ := I.tuple hq
      have n1 : a ≠ it := fun z => by
        obtain ⟨o1, q1, q2, _⟩ := ht
        obtain ⟨o2, q3, q4, _⟩ := st
        rw [z, q3] at q1; cases q1
        rw [q4] at q2
        exact absurd q2 (by decide)
      have n2 : e ≠ a := fun z => by
        obtain ⟨o1, q1, q2, _⟩ := ht
        rw [← z, ex] at q1; cases q1
        rw [ec] at q2
        exact absurd q2 (by decide)
      refine ⟨[it, a], its.toArray.size, fun i v => its.toArray[i]? = some v, fun i h => h.IsTupleIter it a i ∧ h.IsTuple a its.toArray, by simp [hne, n2], Draws.tuple hd it a n1 its.toArray, ⟨st, ht⟩, fun _ _ q => q.1, fun hg => ?_, fun hs => ?_⟩
      · obtain ⟨ys, y, hy, hi⟩ := hg
        have := I.tuple_inj hy hq
        subst this
        obtain ⟨u, hu, ru⟩ := rv.get hi
        refine ⟨by have := (List.getElem?_eq_some_iff.mp hu).1; simpa using this, fun v hv => ⟨y, ?_, fun T o H' hT ho hH => ⟨T, o, y, rfl, hT, ho, hH, fun zs hz => by rw [I.tuple_inj hz hq]; exact hi⟩⟩⟩
        have : some u = some v := hu.symm.trans (by simpa using hv)
        cases this; exact ru
      · obtain ⟨ys, hy, hi⟩ := hs
        have := I.tuple_inj hy hq
        subst this
        have := rv.length
        simp; omega
theorem turn_enL {P : Program} {w : World} {K : PySem.W.Frag} {elts : List Expr} {kk : Nat} {tpos : Pos} {a it e : Addr} (hne : e ≠ it) :
    Turn P w K (.Tuple elts kk tpos) (Itle K a) [e, it] e (fun i h => (∃ old, IsEnum h e it i old) ∧ h.IsListIter it a i) :=
  turn_enG hne (fun i h => h.IsListIter it a i) (fun i h ⟨o, h1, _, h3⟩ => ⟨o, h1, fun v q => by rw [h3] at q; cases q⟩) (fun i h h' ⟨o, h1, h2⟩ k => ⟨o, k o h1, h2⟩)
    fun X hP hw hK hc i pins s σ H I st nf ⟨oe, ex, ec⟩ g => by
      subst hP hw hK
      have hd : X.A.in1.handled = none := I.ok.hd hc
      have hq : ∃ xs, SqL X.K H a xs := by rcases g with ⟨xs, _, h, _⟩ | ⟨xs, h, _⟩ <;> exact ⟨xs, h⟩
      obtain ⟨xs, hq⟩ := hq
      obtain ⟨its, rv, pl, hz⟩ := I.list hq
      have ht := pl.isList
      have n1 : a ≠ it := fun z => by
        obtain ⟨o1, q1, q2, _⟩ := ht
        obtain ⟨o2, q3, q4, _⟩ := st
        rw [z, q3] at q1; cases q1
        rw [q4] at q2
        exact absurd q2 (by decide)
      have n2 : e ≠ a := fun z => by
        obtain ⟨o1, q1, q2, _⟩ := ht
        rw [← z, ex] at q1; cases q1
        rw [ec] at q2
        exact absurd q2 (by decide)
      refine ⟨[it, a], its.toArray.size, fun i v => its.toArray[i]? = some v, fun i h => h.IsListIter it a i ∧ h.IsList a its.toArray, by simp [hne, n2], Draws.list hd it a n1 its.toArray, ⟨st, ht⟩, fun _ _ q => q.1, fun hg => ?_, fun hs => ?_⟩
      · obtain ⟨ys, y, hy, hi⟩ := hg
        have := I.list_inj hy hq
        subst this
        obtain ⟨u, hu, ru⟩ := rv.get hi
        refine ⟨by have := (List.getElem?_eq_some_iff.mp hu).1; simpa using this, fun v hv => ⟨y, ?_, fun T o H' hT ho hH => ⟨T, o, y, rfl, hT, ho, hH, fun zs hz => by rw [I.list_inj hz hq]; exact hi⟩⟩⟩
        have : some u = some v := hu.symm.trans (by simpa using hv)
        cases this; exact ru
      · obtain ⟨ys, hy, hi⟩ := hs
        have := I.list_inj hy hq
        subst this
        have := rv.length
        simp; omega
theorem meets_en1 {v : Value} {o : Obj} {H : Heap → Prop} (B : Begins v o H) : Meets (Builtin.«enumerate.__new__» ⟨[.type "enumerate", v], []⟩) (fun _ R s => H s.heap ∧
      R (.ok (.ret (.ref (s.heap.push o).objs.size))) { s with heap := (s.heap.push o).push { cls := .type "enumerate", data := .fields #[.none, .bool false, .ref s.heap.objs.size, rawInt 0, .none, .none] } }) :=
  .of_wp fun prog w A R s q => by
    obtain ⟨hp, g, d, tk, os⟩ := s
    obtain ⟨h1, q⟩ := q
    have hsub := sub_enumerate
    have go : ∀ {A' : Around} {E' : Value → Shared → Prop} {Q' : Value → Shared → Prop}, Q' (.ref hp.objs.size) ⟨hp.push o, g, d, tk, os⟩ → wpAny (model prog w) A' (pyIter v) Q' E' ⟨hp, g, d, tk, os⟩ := fun y => B.iter prog w _ _ ⟨hp, g, d, tk, os⟩ _ h1 y
    wp_walk using go
    refine wpAny_stack_any fun st => wpAny_pure ?_
    split
    · rename_i c _ _ _ _ _
      cases (c == Value.type "enumerate") <;> (wp_walk using go; exact ⟨_, rfl, q⟩)
    · wp_walk using go
      exact ⟨_, rfl, q⟩
theorem en1_begins {prog : Program} {w : World} {A : Around} {E : Value → Shared → Prop} {s : Shared} {v : Value} {o : Obj} {H : Heap → Prop} {Q : Value → Shared → Prop} (B : Begins v o H) (h1 : H s.heap)
    (h : ∀ h', IsEnum h' (s.heap.objs.size + 1) s.heap.objs.size 0 .none → h'.get? s.heap.objs.size = some o → (∀ b o, s.heap.get? b = some o → h'.get? b = some o) → Q (.ref (s.heap.objs.size + 1)) { s with heap := h' }) :
    wpAny (model prog w) A (call (.type "enumerate") [v]) Q E s := by
  refine callType_new F.called_enumerate (by decide) (F.typeCall_enumerate_1 _) (F.newCall_enumerate_1 _) (fun obj => F.args_object_init_2 obj _) F.entry_enumerate_new (meets_en1 B) ⟨h1, ?_⟩
  have hz : (s.heap.push o).objs.size = s.heap.objs.size + 1 := Heap.size_push ..
  show _ ∧ _
  rw [hz]
  have key := Heap.get?_push_size (s.heap.push o) (o := { cls := .type "enumerate", data := .fields #[.none, .bool false, .ref s.heap.objs.size, rawInt 0, .none, .none] }) rfl
  rw [hz] at key
  exact ⟨⟨_, key, rfl⟩, h _ key (Heap.get?_push_of_some _ (Heap.get?_push_size _ B.free)) fun b o x => Heap.get?_push_of_some _ (Heap.get?_push_of_some _ x)⟩
theorem pi_enS {X : Cx} {e : Expr} {ta : TA} {p pos tpos : Pos} {elts : List Expr} {kk : Nat} (hg : Gl X "enumerate") (hm : X.mg "enumerate" = none) (ha : PA X [e] ta) (hs : starEach [e] X.env = [(false, eval e X.env)] := by rfl) :
    PI X (.Tuple elts kk tpos) (.Call (.Name "enumerate" p) [e] [] pos) (fun σ H R => ta σ H fun vs H1 => (∃ x, vs = [.str x] ∧ R (Itn x) H1) ∨ (∃ a xs, vs = [.ref a] ∧ SqT X.K H1 a xs ∧ R (Itu X.K a) H1) ∨ (∃ a xs, vs = [.ref a] ∧ SqL X.K H1 a xs ∧ R (Itle X.K a) H1)) := by
  refine ⟨fun pins s σ H R I h => ?_⟩
  refine Call_ (ld_blt I hg hm boot_enumerate (PyProof.Rows.callWith_type1 (thn (ha.run pos pins s σ H _ I h) fun us s1 ⟨vs, H1, I1, r1, q1⟩ => ?_) hs rfl))
  have fp : ∀ c ∈ [s1.heap.objs.size + 1, s1.heap.objs.size], s1.heap.objs.size ≤ c := fun c hc => by rcases two_is hc with rfl | rfl <;> omega
  rcases q1 with ⟨x, rfl, q⟩ | ⟨a, xs, rfl, hq, q⟩ | ⟨a, xs, rfl, hq, q⟩
  · cases r1 with
    | cons r rr =>
      cases rr
      obtain ⟨tx, rfl⟩ := r
      refine en1_begins (begins_text x tx) trivial fun h' he hi hk => wpAny_pyIter_enum he ?_
      have I2 : Inv X pins σ H1 { s1 with heap := h' } := I1.kept (t' := s1.toks) hk
      exact ⟨s1.heap.objs.size + 1, [s1.heap.objs.size + 1, s1.heap.objs.size], _, _, H1, rfl, I2, turn_enS (Nat.succ_ne_self _), ⟨⟨.none, he⟩, ⟨_, hi, rfl, rfl⟩⟩, fun c hc => I1.fpOk (fp c hc) (I1.hok.fresh (fp c hc)), q⟩
  · cases r1 with
    | cons r rr =>
      cases rr
      cases r
      obtain ⟨its, rv, ht, hz⟩ := I1.tuple hq
      refine en1_begins (begins_tuple a its.toArray) ht fun h' he hi hk => wpAny_pyIter_enum he ?_
      have I2 : Inv X pins σ H1 { s1 with heap := h' } := I1.kept (t' := s1.toks) hk
      exact ⟨s1.heap.objs.size + 1, [s1.heap.objs.size + 1, s1.heap.objs.size], _, _, H1, rfl, I2, turn_enT (Nat.succ_ne_self _), ⟨⟨.none, he⟩, ⟨_, hi, rfl, rfl⟩⟩, fun c hc => I1.fpOk (fp c hc) (I1.hok.fresh (fp c hc)), q⟩
  · cases r1 with
    | cons r rr =>
      cases rr
      cases r
      obtain ⟨its, rv, pl, hz⟩ := I1.list hq
      have ht := pl.isList
      refine en1_begins (begins_list a its.toArray) ht fun h' he hi hk => wpAny_pyIter_enum he ?_
      have I2 : Inv X pins σ H1 { s1 with heap := h' } := I1.kept (t' := s1.toks) hk
      exact ⟨s1.heap.objs.size + 1, [s1.heap.objs.size + 1, s1.heap.objs.size], _, _, H1, rfl, I2, turn_enL (Nat.succ_ne_self _), ⟨⟨.none, he⟩, ⟨_, hi, rfl, rfl⟩⟩, fun c hc => I1.fpOk (fp c hc) (I1.hok.fresh (fp c hc)), q⟩
theorem src_enG {K : PySem.W.Frag} {G' H' : Hp} {ds : List D} {i : Nat} {T : Addr} {x : V} {d : D} (e2 : Ex G' H') (hd : (enD 0 ds)[i]? = some d) (hx : ∀ y, ds[i]? = some y → Rep K G' x y) (hT : H' T = none) {o : Obj} (ho : o.dict = none) : ∃ G'', Fr [] G' H' G'' (upd H' T (.frz o (.tup [.int i, x]))) ∧ Rep K G'' (.ref T) d := by
  have hi : i < ds.length := by rw [← enD_len 0 ds]; exact (List.getElem?_eq_some_iff.mp hd).1
  have := enD_get hd (List.getElem?_eq_getElem hi)
  subst this
  rw [Nat.zero_add]
  have r := hx _ (List.getElem?_eq_getElem hi)
  have fr := Fr.alloc (o := .frz o (.tup [.int (i : Nat), x])) e2 hT
  exact ⟨_, fr, .tup (.inl ⟨o, upd_same, ho⟩) (.cons (.int _) (.cons (r.mono fr.g) .nil))⟩
theorem src_enS {K : PySem.W.Frag} {G : Hp} {s : List Nat} : Src K G (Itn ⟨s.toArray⟩) (enD 0 (chars s)) := by
  intro G' H' e1 e2
  have hl : (chars s).length = s.length := by simp [chars]
  refine ⟨fun i hi => ?_, ?_, fun i v H'' d hd y => ?_⟩
  · rw [enD_len, hl] at hi
    show i < s.toArray.size
    simpa using hi
  · rw [enD_len, hl]
    show s.length = s.toArray.size
    simp
  · obtain ⟨T, o, c, rfl, hT, ho, rfl, h1⟩ := y
    refine src_enG e2 hd (fun y hy => ?_) hT ho
    have h1' : s[i]? = some c := by simpa using h1
    unfold chars at hy
    rw [List.getElem?_map, h1'] at hy
    cases hy
    exact .str [c]
theorem src_enT {K : PySem.W.Frag} {G : Hp} {a : Addr} {vs : List V} {ds : List D} (h : SqT K G a vs) (r : Reps K G vs ds) : Src K G (Itu K a) (enD 0 ds) := by
  intro G' H' e1 e2
  have hs : SqT K H' a vs := e2.st (e1.st h)
  have hl := r.length
  refine ⟨fun i hi => ?_, ⟨vs, hs, by rw [enD_len]; omega⟩, fun i v H'' d hd y => ?_⟩
  · rw [enD_len] at hi
    exact ⟨vs, vs[i]'(by omega), hs, by simp⟩
  · obtain ⟨T, o, x, rfl, hT, ho, rfl, f⟩ := y
    refine src_enG e2 hd (fun y hy => ?_) hT ho
    obtain ⟨v, h1, h2⟩ := r.get hy
    have hx := f vs hs
    rw [h1] at hx
    cases hx
    exact h2.mono e1
theorem src_enL {K : PySem.W.Frag} {G : Hp} {a : Addr} {vs : List V} {ds : List D} (h : SqL K G a vs) (r : Reps K G vs ds) : Src K G (Itle K a) (enD 0 ds) := by
  intro G' H' e1 e2
  have hs : SqL K H' a vs := e2.sl (e1.sl h)
  have hl := r.length
  refine ⟨fun i hi => ?_, ⟨vs, hs, by rw [enD_len]; omega⟩, fun i v H'' d hd y => ?_⟩
  · rw [enD_len] at hi
    exact ⟨vs, vs[i]'(by omega), hs, by simp⟩
  · obtain ⟨T, o, x, rfl, hT, ho, rfl, f⟩ := y
    refine src_enG e2 hd (fun y hy => ?_) hT ho
    obtain ⟨v, h1, h2⟩ := r.get hy
    have hx := f vs hs
    rw [h1] at hx
    cases hx
    exact h2.mono e1
def enX : D → Option (List D)
  | .lst ds => some (enD 0 ds)
  | .tup ds => some (enD 0 ds)
  | .str s => some (enD 0 (chars s))
  | _ => none
def mEnX (m : M D) : M (List D) := m.bnd fun d => lift (enX d)
section
variable {X : Cx} {Xs : List XC} {W : WX} {e a b c o : Expr} {es : List Expr} {pos p p2 tpos : Pos} {x : Str}
theorem pi_or {tg e : Expr} {t u : TI} (h : PI X tg e t) (g : PI X tg e u) : PI X tg e (fun σ H R => t σ H R ∨ u σ H R) :=
  ⟨fun pins s σ H R I q => q.elim (fun q => h.run pins s σ H R I q) (fun q => g.run pins s σ H R I q)⟩
theorem si_enX {elts : List Expr} {kk : Nat} {m : M D} (hg : Gl X "enumerate") (hm : X.mg "enumerate" = none) (ha : SE X Xs W a m) (hs : starEach [a] X.env = [(false, eval a X.env)] := by rfl) : SI X Xs W (.Tuple elts kk tpos) (.Call (.Name "enumerate" p) [a] [] pos) (mEnX m) := by
  refine pi_imp (pi_enS hg hm (pa_cons ha pa_nil hs) hs) fun σ H R ⟨B, G, ρ, s, h⟩ => ?_
  obtain ⟨r, h1, h2⟩ := h
  unfold mEnX M.bnd at h1
  cases em : m ρ with
  | none => rw [em] at h1; cases h1
  | some q =>
    rw [em] at h1
    cases q with
    | ex c p ρ1 => cases h1; exact ⟨B, G, ρ, s, _, em, h2⟩
    | ok d ρ1 =>
      dsimp only at h1
      unfold lift at h1
      cases d with
      | lst ds =>
        cases h1
        exact ⟨B, G, ρ, s, _, em, fun x G1 H1 s1 e1 rx => by
          cases rx with
          | lst ha1 rs => exact .inr (.inr ⟨_, _, rfl, s1.ex.sl (.inl (.inl ha1)), h2 _ G1 H1 s1 e1 (src_enL (.inl (.inl ha1)) rs)⟩)⟩
      | tup ds =>
        cases h1
        exact ⟨B, G, ρ, s, _, em, fun x G1 H1 s1 e1 rx => by
          cases rx with
          | tup ha1 rs => exact .inr (.inl ⟨_, _, rfl, s1.ex.st ha1.sq, h2 _ G1 H1 s1 e1 (src_enT ha1.sq rs)⟩)⟩
      | str ds =>
        cases h1
        exact ⟨B, G, ρ, s, _, em, fun x G1 H1 s1 e1 rx => by
          cases rx
          exact .inl ⟨_, rfl, h2 _ G1 H1 s1 e1 src_enS⟩⟩
      | _ => cases h1
/-! ### slices: texts, lists, tuples; of our own lists -/
def cutX (x : D) (lo hi : Option Int) : Option D := match x with
  | .str s => if s.length ≤ sizeLine then some (.str (cutN s lo hi)) else none
  | .lst xs => some (.lst (cutN xs lo hi))
  | .tup xs => some (.tup (cutN xs lo hi))
  | _ => none
theorem cutN_all {α : Type} {xs : List α} {lo hi : Option Int} (h : HT.sIx xs.length 0 lo = 0 ∧ HT.sIx xs.length xs.length hi = xs.length) : cutN xs lo hi = xs := by
  unfold cutN
  rw [h.1, h.2]; simp
/-- t[lo:hi] of a tuple, the new tuple's object known -/
def rSlF (K : PySem.W.Frag) : V → Option Int → Option Int → Hp → VK → Prop := fun x lo hi H Q => ∃ a xs, x = .ref a ∧ SqT K H a xs ∧
  (HT.sIx xs.length 0 lo = 0 ∧ HT.sIx xs.length xs.length hi = xs.length → Q (.ref a) H) ∧ (¬ (HT.sIx xs.length 0 lo = 0 ∧ HT.sIx xs.length xs.length hi = xs.length) → ∀ p o, H p = none → o.dict = none → Q (.ref p) (upd H p (.frz o (.tup (cutV xs lo hi)))))
theorem sl_tupF : SlR X (rSlF X.K) := by
  rintro pins s σ H x v vl vu lo hi sl Q I rx hs pl pu ⟨a, xs, rfl, hx, q1, q2⟩
  by_cases hw : HT.sIx xs.length 0 lo = 0 ∧ HT.sIx xs.length xs.length hi = xs.length
  · exact sl_tupA pins s σ H _ v vl vu lo hi sl Q I rx hs pl pu ⟨a, xs, rfl, hx, q1, fun n => absurd hw n⟩
  cases rx
  obtain ⟨its, r, ht, hz⟩ := I.tuple hx
  have hl : its.toArray.size = xs.length := by rw [List.size_toArray]; exact r.length.symm
  refine ⟨"tuple", _, PyProof.Rows.slot_tuple_getitem.lookup, ht.typeIs, HT.getItem_tuple_cut ht hs pl pu (by rw [hl]; exact hw) ?_ (by rw [hl]; exact hz)⟩
  rw [hl]
  exact ⟨.ref s.heap.objs.size, _, I.laid (t' := s.toks) (fun b ob q => Heap.get?_push_of_some _ q) (Nat.le_refl _) (frz_tup (Nat.le_trans (cutV_length xs lo hi) hz) ((r.drop _).take _) (Heap.get?_push_size _ rfl) rfl ⟨_, rfl⟩), rfl, q2 hw _ _ (I.hok.fresh (Nat.le_refl _)) rfl⟩
theorem sl_Y : SlR X (fun x lo hi H Q => rSlX X.K x lo hi H Q ∨ rSlF X.K x lo hi H Q) := sl_X.or sl_tupF
def mSlX (m : M D) (ml mh : M (Option Int)) : M D := m.bnd fun x => ml.bnd fun lo => mh.bnd fun hi => lift (cutX x lo hi)
theorem se_slX {lo hi : Option Expr} {m : M D} {ml mh : M (Option Int)} (ha : SE X Xs W a m) (hl : SP X Xs W lo ml) (hh : SP X Xs W hi mh) : SE X Xs W (.Subscript a (.Slice lo hi none p2) pos) (mSlX m ml mh) := by
  refine pe_imp (pe_slice sl_Y ha hl hh) fun σ H Q ⟨B, G, ρ, s, h⟩ => ?_
  refine r1.bind (Rl := RlE X.K) s h fun x H1 d G1 ρ1 s1 e1 rx h1 => ?_
  refine r1.bind (Rl := RlP) s1 h1 fun l H2 l2 G2 ρ2 s2 e2 rl h2 => ?_
  refine r1.bind (Rl := RlP) s2 h2 fun u H3 u2 G3 ρ3 s3 e3 ru h3 => ?_
  cases rl; cases ru
  obtain ⟨z, hz, q⟩ := h3.lifted
  have rx := (rx.mono e2).mono e3
  cases rx with
  | tup ha1 rs =>
    rename_i a1 vs ds
    cases hz
    refine .inr ⟨a1, vs, rfl, s3.ex.st ha1.sq, fun hc => ?_, fun hc p o hp ho => ?_⟩
    · rw [rs.length] at hc
      rw [cutN_all hc] at q
      exact q _ G3 H3 s3 (Ex.refl _) (.tup ha1 rs)
    · have f := Fr.alloc (o := .frz o (.tup (cutV vs l u))) s3.ex hp
      refine q _ _ _ (s3.step f) f.g (.tup (.inl ⟨o, upd_same, ho⟩) (Reps.mono f.g ?_))
      unfold cutV cutN
      rw [rs.length]
      exact (rs.drop _).take _
  | str w => exact .inl (sl_do s3.ex (.str w) (by exact hz) fun v G' H' fr rv => q v G' H' (s3.step fr) fr.g rv)
  | lst ha1 rs => exact .inl (sl_do s3.ex (.lst ha1 rs) (by exact hz) fun v G' H' fr rv => q v G' H' (s3.step fr) fr.g rv)
  | _ => cases hz
def kSlO (i : Nat) (lo hi : Option Int) : M D := fun ρ => match ρ[i]? with
  | some (.ow _ (.lst ds)) => some (.ok (.lst (cutN ds lo hi)) ρ)
  | _ => none
def mSlO (i : Nat) (ml mh : M (Option Int)) : M D := fun ρ => if isOw ρ i = true then (ml.bnd fun lo => mh.bnd fun hi => kSlO i lo hi) ρ else none
theorem so_slO {lo hi : Option Expr} {ml mh : M (Option Int)} (i : Nat) (hN : X.N[i]? = some x) (hv : Vis X.env.scope x) (hl : SP X Xs W lo ml) (hh : SP X Xs W hi mh) (hd : (x == ("__debug__" : Str)) = false := by decide) (hcd : (x == ("__classdict__" : Str)) = false := by decide) :
    SO X Xs W (.Subscript (.Name x p) (.Slice lo hi none p2) pos) (mSlO i ml mh) := by
  refine pe_imp (pe_slice sl_list (pe_ref (i := i) hN hv hd hcd) hl hh) fun σ H Q ⟨B, G, ρ, s, r, h1, h2⟩ => ?_
  unfold mSlO at h1
  by_cases hi : isOw ρ i = true
  · rw [if_pos hi] at h1
    obtain ⟨a0, ha⟩ := (isOw_is hi).at s
    refine ⟨.ref a0, ha, ?_⟩
    unfold M.bnd at h1
    show rX X.K Xs W RlP ml σ H _
    cases el : ml ρ with
    | none => rw [el] at h1; cases h1
    | some q =>
      rw [el] at h1
      cases q with
      | ex c p ρ1 => cases h1; exact ⟨B, G, ρ, s, _, el, h2⟩
      | ok lo' ρ1 =>
        refine ⟨B, G, ρ, s, _, el, fun l H1' => ?_⟩
        intro H1 s1 e1 rl
        cases rl
        dsimp only at h1
        show rX X.K Xs W RlP mh σ H1 _
        cases eh : mh ρ1 with
        | none => rw [eh] at h1; cases h1
        | some q2 =>
          rw [eh] at h1
          cases q2 with
          | ex c p ρ2 => cases h1; exact ⟨B, _, ρ1, s1, _, eh, h2⟩
          | ok hi' ρ2 =>
            refine ⟨B, _, ρ1, s1, _, eh, fun u G2 H2 s2 e2 ru => ?_⟩
            cases ru
            dsimp only at h1
            unfold kSlO at h1
            split at h1
            · rename_i bb ds ed
              cases h1
              obtain ⟨a', o', k1, k2, k3, k4, k5⟩ := s2.ow i bb _ ed
              rw [ha] at k1; cases k1
              obtain ⟨vs, rfl, rs⟩ := list_ty k5 k4
              refine ⟨a0, vs, rfl, .inl (.inl k4), fun p hp => ?_⟩
              have f := Fr.allocO (o := .lst (cutV vs lo' hi')) s2.ex hp
              refine h2 p (.lst (cutV vs lo' hi')) G2 _ (s2.step f) (e1.trans e2) upd_same ?_ (s2.newO hp f)
              show Reps X.K G2 (cutV vs lo' hi') (cutN ds lo' hi')
              unfold cutV cutN
              rw [rs.length]
              exact (rs.drop _).take _
            · cases h1
  · rw [if_neg hi] at h1; cases h1
end
section
variable {ρ : Cs} {Q : D → Prop} {m : M D}
theorem wm_mEnX {QL : R (List D) → Prop} : Wm (mEnX m) ρ QL = Wm m ρ (kb (fun d => lift (enX d)) QL) := wm_bnd
theorem wo_enL {ds : List D} {QL : List D → Prop} : Wo (enX (.lst ds)) QL = QL (enD 0 ds) := wo_some
theorem wo_enT {ds : List D} {QL : List D → Prop} : Wo (enX (.tup ds)) QL = QL (enD 0 ds) := wo_some
theorem wo_enS {s : List Nat} {QL : List D → Prop} : Wo (enX (.str s)) QL = QL (enD 0 (chars s)) := wo_some
theorem wm_mSlX {l h : M (Option Int)} {QD : R D → Prop} : Wm (mSlX m l h) ρ QD = Wm m ρ (kb (fun x => l.bnd fun lo => h.bnd fun hi => lift (cutX x lo hi)) QD) := wm_bnd
theorem wo_cutXS {s : List Nat} {l h : Option Int} : Wo (cutX (.str s) l h) Q = (s.length ≤ sizeLine ∧ Q (.str (cutN s l h))) := wo_if
theorem wo_cutXL {s : List D} {l h : Option Int} : Wo (cutX (.lst s) l h) Q = Q (.lst (cutN s l h)) := wo_some
theorem wo_cutXT {s : List D} {l h : Option Int} : Wo (cutX (.tup s) l h) Q = Q (.tup (cutN s l h)) := wo_some
theorem wm_mSlO {i : Nat} {l h : M (Option Int)} {QD : R D → Prop} : Wm (mSlO i l h) ρ QD = Vo ρ[i]? fun _ _ => Wm l ρ (kb (fun lo => h.bnd fun hi => kSlO i lo hi) QD) := by
  rw [← wm_bnd]
  unfold mSlO Wm isOw
  cases h : ρ[i]? with
  | none => simp [Vo, h]
  | some c => cases c <;> simp [Vo, h]
theorem wm_kSlO {i : Nat} {lo hi : Option Int} {QD : R D → Prop} : Wm (kSlO i lo hi) ρ QD = Vl ρ[i]? fun _ ds => QD (.ok (.lst (cutN ds lo hi)) ρ) := by
  unfold Wm kSlO
  cases h : ρ[i]? with
  | none => simp [Vl, h]
  | some c => cases c with
    | ow b d => cases d <;> simp [Vl, h]
    | _ => simp [Vl, h]
end
theorem wo_f1 : flatD .non = true := rfl
theorem wo_f2 {b : Bool} : flatD (.bl b) = true := rfl
theorem wo_f3 {b : Int} : flatD (.int b) = true := rfl
theorem wo_f4 {b : List Nat} : flatD (.str b) = true := rfl
theorem wo_cutL {s : List D} {l h : Option Int} {Q : D → Prop} : Wo (cutD (.lst s) l h) Q = Q (.lst (cutN s l h)) := wo_some
end Tk
/-! Places within own trees: paths, what stands there, what a change there makes of the whole. -/
namespace Tk
open PySem PySem.Spec PyProof.Rows L2 SX
inductive Pt where
  | fld (f : Str) | idx (n : Nat) | key (k : D)
/-- the key of a dict that is meant -/
def keyOf : D → Option Key
  | .int i => some (.inl i)
  | .str s => some (.inr ⟨s.toArray⟩)
  | _ => none
/-- with k → d, at k's place or last -/
def putKD (k d : D) : List (D × D) → List (D × D)
  | [] => [(k, d)]
  | (j, e) :: r => if sameK j k = true then (j, d) :: r else (j, e) :: putKD k d r
def delK (k : D) : List (D × D) → List (D × D)
  | [] => []
  | (j, e) :: r => if sameK j k = true then r else (j, e) :: delK k r
def fldAt (f : Str) : Fs → List D → Option (Sh × D)
  | .cons x s r, d :: ds => if x = f then some (s, d) else fldAt f r ds
  | _, _ => none
def fldSet (f : Str) (s' : Sh) (d' : D) : Fs → List D → Option (Fs × List D)
  | .nil, [] => some (.cons f s' .nil, [d'])
  | .cons x s r, d :: ds => if x = f then some (.cons x s' r, d' :: ds) else (fldSet f s' d' r ds).map fun q => (.cons x s q.1, d :: q.2)
  | _, _ => none
def step1 : Sh → D → Pt → Option (Sh × D)
  | .obj _ fs, .tup ds, .fld f => fldAt f fs ds
  | .lst s, .lst ds, .idx n => (ds[n]?).map fun d => (s, d)
  | .dic s, .dic kvs, .key k => (getK k kvs).map fun d => (s, d)
  | _, _, _ => none
def put1 : Sh → D → Pt → Sh → D → Option (Sh × D)
  | .obj c fs, .tup ds, .fld f, s', d' => (fldSet f s' d' fs ds).map fun q => (.obj c q.1, .tup q.2)
  | .lst s, .lst ds, .idx n, s', d' => if s'.beq s = true then some (.lst s, .lst (ds.set n d')) else none
  | .dic s, .dic kvs, .key k, s', d' => if s'.beq s = true then some (.dic s, .dic (putKD k d' kvs)) else none
  | _, _, _, _, _ => none
def getP : List Pt → Sh → D → Option (Sh × D)
  | [], s, d => some (s, d)
  | p :: π, s, d => (step1 s d p).bind fun q => getP π q.1 q.2
def setP (s' : Sh) (d' : D) : List Pt → Sh → D → Option (Sh × D)
  | [], _, _ => some (s', d')
  | p :: π, s, d => (step1 s d p).bind fun q => (setP s' d' π q.1 q.2).bind fun r => put1 s d p r.1 r.2
def val1 (H : Hp) : V → Pt → Option V
  | .ref a, .fld f => match H a with | some (.ins _ _ vs) => vs.lookup f | _ => none
  | .ref a, .idx n => match H a with | some (.lst vs) => vs[n]? | _ => none
  | .ref a, .key k => match H a, keyOf k with | some (.dK vs), some k => valV vs k | _, _ => none
  | _, _ => none
def valP (H : Hp) : List Pt → V → Option V
  | [], v => some v
  | p :: π, v => (val1 H v p).bind (valP H π)
section
variable {K : PySem.W.Frag} {G H H' : Hp}
/-- a child of list, dict, instance: what stands there, and what its change makes of the whole -/
structure Foc (f1 fp : List Addr) (Re : Hp → Sh → D → List Addr → Prop) (P : Hp → Sh → D → List Addr → Prop) (H : Hp) : Prop where
  sub : ∀ x ∈ f1, x ∈ fp
  back : ∀ (H' : Hp) (s2 : Sh) (d2 : D) (f2 : List Addr), (∀ x ∈ fp, x ∉ f1 → H' x = H x) → Re H' s2 d2 f2 → (∀ x ∈ f2, x ∈ f1 ∨ x ∉ fp) → P H' s2 d2 f2
theorem Owns.at_ : ∀ {s : Sh} {vs : List V} {ds : List D} {fp : List Addr} {n : Nat} {d : D}, Owns K G H s vs ds fp → ds[n]? = some d → ∃ v f1, vs[n]? = some v ∧ Own K G H s v d f1 ∧ (∀ x ∈ f1, x ∈ fp) ∧
    ∀ (H' : Hp) (v2 : V) (d2 : D) (f2 : List Addr), (∀ x ∈ fp, x ∉ f1 → H' x = H x) → Own K G H' s v2 d2 f2 → (∀ x ∈ f2, x ∈ f1 ∨ x ∉ fp) → ∃ fp', Owns K G H' s (vs.set n v2) (ds.set n d2) fp' ∧ ∀ x ∈ fp', (x ∈ fp ∧ x ∉ f1) ∨ x ∈ f2
  | _, _, _, _, _, _, .nil, e => by simp at e
  | s, _, _, _, 0, d, .cons (v := v) (d := d0) (f := f) (g := g) a r j, e => by
    simp at e; subst e
    refine ⟨v, f, rfl, a, fun x h => List.mem_append_left _ h, fun H' v2 d2 f2 k o k2 => ?_⟩
    have kr := r.keep (H' := H') (Ex.refl G) fun x hx => ⟨k x (List.mem_append_right _ hx) (fun z => j x z hx), (r.objs x hx).2⟩
    refine ⟨f2 ++ g, .cons o kr fun x hx z => ?_, fun x hx => ?_⟩
    · rcases k2 x hx with w | w
      · exact j x w z
      · exact w (List.mem_append_right _ z)
    · rcases List.mem_append.mp hx with hx | hx
      · exact .inr hx
      · exact .inl ⟨List.mem_append_right _ hx, fun z => j x z hx⟩
  | s, _, _, _, n + 1, d, .cons (v := v) (d := d0) (vs := vs) (ds := ds) (f := f) (g := g) a r j, e => by
    obtain ⟨v1, f1, h1, h2, h3, h4⟩ := Owns.at_ (n := n) (d := d) r (by simpa using e)
    refine ⟨v1, f1, by simpa using h1, h2, fun x h => List.mem_append_right _ (h3 x h), fun H' v2 d2 f2 k o k2 => ?_⟩
    have nf : ∀ x ∈ f, x ∉ f1 := fun x hx z => j x hx (h3 x z)
    obtain ⟨g', q1, q2⟩ := h4 H' v2 d2 f2 (fun x hx nx => k x (List.mem_append_right _ hx) nx) o (fun x hx => (k2 x hx).imp id fun w z => w (List.mem_append_right _ z))
    have ka := a.keep (H' := H') (Ex.refl G) fun x hx => ⟨k x (List.mem_append_left _ hx) (nf x hx), (a.objs x hx).2⟩
    refine ⟨f ++ g', .cons ka q1 fun x hx z => ?_, fun x hx => ?_⟩
    · rcases q2 x z with ⟨w, _⟩ | w
      · exact j x hx w
      · rcases k2 x w with w | w
        · exact nf x hx w
        · exact w (List.mem_append_left _ hx)
    · rcases List.mem_append.mp hx with hx | hx
      · exact .inl ⟨List.mem_append_left _ hx, nf x hx⟩
      · exact (q2 x hx).imp (fun w => ⟨List.mem_append_right _ w.1, w.2⟩) id
theorem Owns.append : ∀ {s : Sh} {vs : List V} {ds : List D} {fp f2 : List Addr} {v : V} {d : D}, Owns K G H s vs ds fp → Own K G H s v d f2 → Dj f2 fp → Owns K G H s (vs ++ [v]) (ds ++ [d]) (fp ++ f2)
  | _, _, _, _, _, _, _, .nil, o, _ => by
    have := Owns.cons o (.nil (K := K) (G := G) (H := H)) Dj.nil'
    rw [List.append_nil] at this
    exact this
  | _, _, _, _, _, _, _, .cons (f := f) (g := g) a r j, o, k => by
    have q := Owns.append r o fun x hx z => k x hx (List.mem_append_right _ z)
    rw [List.append_assoc]
    refine .cons a q fun x hx z => ?_
    rcases List.mem_append.mp z with z | z
    · exact j x hx z
    · exact k x z (List.mem_append_left _ hx)
theorem Owns.length : ∀ {s : Sh} {vs : List V} {ds : List D} {fp : List Addr}, Owns K G H s vs ds fp → vs.length = ds.length
  | _, _, _, _, .nil => rfl
  | _, _, _, _, .cons _ r _ => congrArg (· + 1) (Owns.length r)
theorem sameK_is {k j : D} (h : sameK j k = true) : j = k := by
  unfold sameK at h
  split at h
  · rw [of_decide_eq_true h]
  · rw [of_decide_eq_true h]
  · cases h
theorem keyOf_int {i : Int} {k : D} : sameK (.int i) k = true → keyOf k = some (.inl i) := fun h => by rw [← sameK_is h]; rfl
theorem keyOf_str {i : List Nat} {k : D} : sameK (.str i) k = true → keyOf k = some (.inr ⟨i.toArray⟩) := fun h => by rw [← sameK_is h]; rfl
/-- the key of an entry is k, or another -/
theorem key_dec {j k : D} {a b : Key} (ha : keyOf j = some a) (hb : keyOf k = some b) : (sameK j k = true) = (a = b) := by
  cases j <;> first | cases ha | skip
  all_goals cases k <;> first | cases hb | skip
  · simp [sameK]
  · simp [sameK]
  · simp [sameK]
  · simp only [sameK, decide_eq_true_eq]
    rw [Sum.inr.injEq, PySem.Str.mk.injEq]
    exact propext ⟨fun h => by rw [h], fun h => by simpa using h⟩
/-- an entry of the dict that is k's -/
inductive EntK : Key → D → Prop
  | int {i : Int} : EntK (.inl i) (.int i)
  | str {i : List Nat} : EntK (.inr ⟨i.toArray⟩) (.str i)
theorem EntK.of {a : Key} {j : D} (h : EntK a j) : keyOf j = some a := by cases h <;> rfl
theorem OwnD.inv {s : Sh} {a : Key} {v : V} {vs : List (Key × V)} {j d : D} {ds : List (D × D)} {fp : List Addr} (h : OwnD K G H s ((a, v) :: vs) ((j, d) :: ds) fp) : ∃ f g, EntK a j ∧ fp = f ++ g ∧ Own K G H s v d f ∧ OwnD K G H s vs ds g ∧ Dj f g := by
  cases h with
  | int a r j => exact ⟨_, _, .int, rfl, a, r, j⟩
  | str a r j => exact ⟨_, _, .str, rfl, a, r, j⟩
theorem OwnD.mk {s : Sh} {a : Key} {v : V} {vs : List (Key × V)} {j d : D} {ds : List (D × D)} {f g : List Addr} (e : EntK a j) (o : Own K G H s v d f) (r : OwnD K G H s vs ds g) (dj : Dj f g) : OwnD K G H s ((a, v) :: vs) ((j, d) :: ds) (f ++ g) := by
  cases e with
  | int => exact .int o r dj
  | str => exact .str o r dj
theorem OwnD.two : ∀ {s : Sh} {vs : List (Key × V)} {ds : List (D × D)} {fp : List Addr}, OwnD K G H s vs ds fp → (vs = [] ∧ ds = []) ∨ ∃ a v vs' j d ds', vs = (a, v) :: vs' ∧ ds = (j, d) :: ds'
  | _, _, _, _, .nil => .inl ⟨rfl, rfl⟩
  | _, _, _, _, .int _ _ _ => .inr ⟨_, _, _, _, _, _, rfl, rfl⟩
  | _, _, _, _, .str _ _ _ => .inr ⟨_, _, _, _, _, _, rfl, rfl⟩
/-- with v at the first entry of the key -/
def setV (k : Key) (v : V) : List (Key × V) → List (Key × V)
  | [] => []
  | (j, e) :: r => if j = k then (j, v) :: r else (j, e) :: setV k v r
theorem OwnD.at_ : ∀ {s : Sh} {vs : List (Key × V)} {ds : List (D × D)} {fp : List Addr} {k d : D}, OwnD K G H s vs ds fp → getK k ds = some d → ∃ kk v f1, keyOf k = some kk ∧ valV vs kk = some v ∧ setV kk v vs = vs ∧ Own K G H s v d f1 ∧ (∀ x ∈ f1, x ∈ fp) ∧
    ∀ (H' : Hp) (v2 : V) (d2 : D) (f2 : List Addr), (∀ x ∈ fp, x ∉ f1 → H' x = H x) → Own K G H' s v2 d2 f2 → (∀ x ∈ f2, x ∈ f1 ∨ x ∉ fp) → ∃ fp', OwnD K G H' s (setV kk v2 vs) (putKD k d2 ds) fp' ∧ ∀ x ∈ fp', (x ∈ fp ∧ x ∉ f1) ∨ x ∈ f2 := by
  intro s vs
  induction vs with
  | nil =>
    intro ds fp k d h e
    rcases h.two with ⟨_, rfl⟩ | ⟨_, _, _, _, _, _, q, _⟩
    · cases e
    · cases q
  | cons p vs ih =>
    intro ds fp k d h e
    rcases h.two with ⟨q, _⟩ | ⟨a, v, vs', j, dj, ds, q, rfl⟩
    · cases q
    cases q
    obtain ⟨f, g, ek, rfl, o, r, dj'⟩ := h.inv
    rw [getK] at e
    by_cases hs : sameK j k = true
    · rw [if_pos hs] at e; cases e
      have kk : keyOf k = some a := by rw [← sameK_is hs]; exact ek.of
      refine ⟨a, v, f, kk, valV_pos rfl, by rw [setV, if_pos rfl], o, fun x h => List.mem_append_left _ h, fun H' v2 d2 f2 k' o' k2 => ?_⟩
      have kr := r.keep (H' := H') (Ex.refl G) fun x hx => ⟨k' x (List.mem_append_right _ hx) (fun z => dj' x z hx), (r.objs x hx).2⟩
      rw [setV, if_pos rfl, putKD, if_pos hs]
      refine ⟨f2 ++ g, OwnD.mk ek o' kr fun x hx z => ?_, fun x hx => ?_⟩
      · rcases k2 x hx with w | w
        · exact dj' x w z
        · exact w (List.mem_append_right _ z)
      · rcases List.mem_append.mp hx with hx | hx
        · exact .inr hx
        · exact .inl ⟨List.mem_append_right _ hx, fun z => dj' x z hx⟩
    · rw [if_neg hs] at e
      obtain ⟨kk, v1, f1, h0, h1, h1', h2, h3, h4⟩ := ih r e
      have ne : a ≠ kk := fun z => hs (by rw [key_dec ek.of h0]; exact z)
      refine ⟨kk, v1, f1, h0, by rw [valV_neg ne]; exact h1, by rw [setV, if_neg ne, h1'], h2, fun x h => List.mem_append_right _ (h3 x h), fun H' v2 d2 f2 k' o' k2 => ?_⟩
      have nf : ∀ x ∈ f, x ∉ f1 := fun x hx z => dj' x hx (h3 x z)
      obtain ⟨g', q1, q2⟩ := h4 H' v2 d2 f2 (fun x hx nx => k' x (List.mem_append_right _ hx) nx) o' (fun x hx => (k2 x hx).imp id fun w z => w (List.mem_append_right _ z))
      have ka := o.keep (H' := H') (Ex.refl G) fun x hx => ⟨k' x (List.mem_append_left _ hx) (nf x hx), (o.objs x hx).2⟩
      rw [setV, if_neg ne, putKD, if_neg hs]
      refine ⟨f ++ g', OwnD.mk ek ka q1 fun x hx z => ?_, fun x hx => ?_⟩
      · rcases q2 x z with ⟨w, _⟩ | w
        · exact dj' x hx w
        · rcases k2 x w with w | w
          · exact nf x hx w
          · exact w (List.mem_append_left _ hx)
      · rcases List.mem_append.mp hx with hx | hx
        · exact .inl ⟨List.mem_append_left _ hx, nf x hx⟩
        · exact (q2 x hx).imp (fun w => ⟨List.mem_append_right _ w.1, w.2⟩) id
theorem OwnD.no : ∀ {s : Sh} {vs : List (Key × V)} {ds : List (D × D)} {fp : List Addr} {k : D} {kk : Key}, OwnD K G H s vs ds fp → getK k ds = none → keyOf k = some kk → valV vs kk = none ∧ ∀ p ∈ vs, p.1 ≠ kk := by
  intro s vs
  induction vs with
  | nil => intro ds fp k kk h e hk; exact ⟨rfl, fun _ h => nomatch h⟩
  | cons p vs ih =>
    intro ds fp k kk h e hk
    rcases h.two with ⟨q, _⟩ | ⟨a, v, vs', j, dj, ds, q, rfl⟩
    · cases q
    cases q
    obtain ⟨f, g, ek, rfl, o, r, dj'⟩ := h.inv
    rw [getK] at e
    by_cases hs : sameK j k = true
    · rw [if_pos hs] at e; cases e
    · rw [if_neg hs] at e
      have ne : a ≠ kk := fun z => hs (by rw [key_dec ek.of hk]; exact z)
      obtain ⟨h1, h2⟩ := ih r e hk
      refine ⟨by rw [valV_neg ne]; exact h1, fun p hp => ?_⟩
      rcases List.mem_cons.mp hp with q | q
      · subst q; exact ne
      · exact h2 p q
theorem setV_no {k : Key} {v : V} : ∀ {vs : List (Key × V)}, (∀ p ∈ vs, p.1 ≠ k) → setV k v vs = vs
  | [], _ => rfl
  | q :: vs, nn => by rw [setV, if_neg (nn q List.mem_cons_self), setV_no fun p hp => nn p (List.mem_cons_of_mem _ hp)]
theorem setV_map {k : Key} {v : V} : ∀ {s : Sh} {vs : List (Key × V)} {ds : List (D × D)} {fp : List Addr}, OwnD K G H s vs ds fp → uniqK ds = true → (vs.map fun kv => if kv.1 = k then (kv.1, v) else kv) = setV k v vs := by
  intro s vs
  induction vs with
  | nil => intro ds fp h u; rfl
  | cons p vs ih =>
    intro ds fp h u
    rcases h.two with ⟨q, _⟩ | ⟨a, v', vs', j, dj, ds, q, rfl⟩
    · cases q
    cases q
    obtain ⟨f, g, ek, rfl, o, r, dj'⟩ := h.inv
    rw [uniqK, Bool.and_eq_true] at u
    rw [List.map_cons, ih r u.2, setV]
    by_cases hk : a = k
    · subst hk
      rw [if_pos rfl, if_pos rfl]
      have nn := (r.no (by simpa using u.1) ek.of).2
      rw [setV_no nn]
    · rw [if_neg hk, if_neg hk]
theorem getK_put {k j d : D} : ∀ {ds : List (D × D)}, getK j (putKD k d ds) = if sameK k j = true then some d else getK j ds
  | [] => by rw [putKD, getK]; rfl
  | (i, e) :: r => by
    rw [putKD]
    by_cases hs : sameK i k = true
    · rw [if_pos hs, getK, getK]
      rw [sameK_is hs]
      split <;> rfl
    · rw [if_neg hs, getK, getK, getK_put]
      by_cases h1 : sameK i j = true
      · rw [if_pos h1]
        by_cases h2 : sameK k j = true
        · have e1 := sameK_is h1
          have e2 := sameK_is h2
          subst e1; subst e2
          exact absurd h2 hs
        · rw [if_neg h2, if_pos h1]
      · rw [if_neg h1]
        split
        · rfl
        · rfl
theorem uniqK_put {k d : D} (hk : sameK k k = true) : ∀ {ds : List (D × D)}, uniqK ds = true → uniqK (putKD k d ds) = true
  | [], _ => rfl
  | (i, e) :: r, u => by
    rw [uniqK, Bool.and_eq_true] at u
    rw [putKD]
    by_cases hs : sameK i k = true
    · rw [if_pos hs, uniqK, Bool.and_eq_true]; exact u
    · rw [if_neg hs, uniqK, Bool.and_eq_true]
      refine ⟨?_, uniqK_put hk u.2⟩
      rw [getK_put]
      rw [if_neg (fun z => hs (by
        have e := sameK_is z
        subst e; exact z))]
      exact u.1
theorem OwnD.app : ∀ {s : Sh} {vs : List (Key × V)} {ds : List (D × D)} {fp f2 : List Addr} {k d : D} {kk : Key} {v : V}, OwnD K G H s vs ds fp → getK k ds = none → EntK kk k → Own K G H s v d f2 → Dj f2 fp → OwnD K G H s (vs ++ [(kk, v)]) (putKD k d ds) (fp ++ f2) := by
  intro s vs
  induction vs with
  | nil =>
    intro ds fp f2 k d kk v h e ek o dj
    rcases h.two with ⟨_, rfl⟩ | ⟨_, _, _, _, _, _, q, _⟩
    · cases h
      have := OwnD.mk ek o (.nil (K := K) (G := G) (H := H)) Dj.nil'
      rw [List.append_nil] at this
      exact this
    · cases q
  | cons p vs ih =>
    intro ds fp f2 k d kk v h e ek o dj
    rcases h.two with ⟨q, _⟩ | ⟨a, v', vs', j, dj0, ds, q, rfl⟩
    · cases q
    cases q
    obtain ⟨f, g, ek', rfl, o', r, dj'⟩ := h.inv
    rw [getK] at e
    by_cases hs : sameK j k = true
    · rw [if_pos hs] at e; cases e
    · rw [if_neg hs] at e
      rw [putKD, if_neg hs, List.append_assoc]
      refine OwnD.mk ek' o' (ih r e ek o fun x hx z => dj x hx (List.mem_append_right _ z)) fun x hx z => ?_
      rcases List.mem_append.mp z with z | z
      · exact dj' x hx z
      · exact dj x z (List.mem_append_left _ hx)
theorem keyOf_ent {k : D} {kk : Key} (h : keyOf k = some kk) : EntK kk k := by
  cases k <;> cases h
  · exact .int
  · exact .str
/-- the dict with k → v2 -/
theorem OwnD.put {s : Sh} {vs : List (Key × V)} {ds : List (D × D)} {fp f2 : List Addr} {k d2 : D} {kk : Key} {v2 : V} (h : OwnD K G H s vs ds fp) (u : uniqK ds = true) (hk : keyOf k = some kk) (o : Own K G H s v2 d2 f2) (dj : Dj f2 fp) : ∃ fp', OwnD K G H s (putK vs kk v2) (putKD k d2 ds) fp' ∧ ∀ x ∈ fp', x ∈ fp ∨ x ∈ f2 := by
  cases e : getK k ds with
  | none =>
    rw [putK_new _ (h.no e hk).1]
    exact ⟨_, h.app e (keyOf_ent hk) o dj, fun x hx => List.mem_append.mp hx⟩
  | some d =>
    obtain ⟨kk', v, f1, h0, h1, _, _, _, h4⟩ := h.at_ e
    rw [hk] at h0; cases h0
    have : putK vs kk v2 = setV kk v2 vs := by
      unfold putK
      rw [if_pos (by rw [valV_any, h1]; rfl)]
      exact setV_map h u
    rw [this]
    obtain ⟨fp', q1, q2⟩ := h4 H v2 d2 f2 (fun _ _ _ => rfl) o (fun x hx => .inr (dj x hx))
    exact ⟨fp', q1, fun x hx => (q2 x hx).imp (·.1) id⟩
theorem putF_self {f : Str} {v : V} : ∀ {vs : List (Str × V)}, vs.lookup f = some v → putF f v vs = vs
  | [], h => by cases h
  | (g, x) :: r, h => by
    rw [putF]
    by_cases e : g = f
    · rw [if_pos e]; subst e
      have : some x = some v := by simpa [List.lookup] using h
      cases this; rfl
    · rw [if_neg e]
      have hb : (f == g) = false := beq_eq_false_iff_ne.mpr (Ne.symm e)
      rw [putF_self (v := v) (by simpa [List.lookup, hb] using h)]
theorem OwnF.at_ : ∀ {r : Fs} {vs : List (Str × V)} {ds : List D} {fp : List Addr} {f : Str} {s : Sh} {d : D}, OwnF K G H r vs ds fp → fldAt f r ds = some (s, d) → ∃ v f1, vs.lookup f = some v ∧ Own K G H s v d f1 ∧ (∀ x ∈ f1, x ∈ fp) ∧
    ∀ (H' : Hp) (v2 : V) (s2 : Sh) (d2 : D) (f2 : List Addr), (∀ x ∈ fp, x ∉ f1 → H' x = H x) → Own K G H' s2 v2 d2 f2 → (∀ x ∈ f2, x ∈ f1 ∨ x ∉ fp) → ∃ q fp', fldSet f s2 d2 r ds = some q ∧ OwnF K G H' q.1 (putF f v2 vs) q.2 fp' ∧ ∀ x ∈ fp', (x ∈ fp ∧ x ∉ f1) ∨ x ∈ f2
  | _, _, _, _, _, _, _, .nil, e => by cases e
  | _, _, _, _, fl, s, d, .cons (x := y) (s := s0) (r := r) (v := v) (d := d0) (vs := vs) (ds := ds) (f := f) (g := g) a t j, e => by
    rw [fldAt] at e
    by_cases hs : y = fl
    · rw [if_pos hs] at e; cases e
      subst hs
      refine ⟨v, f, by simp [List.lookup], a, fun x h => List.mem_append_left _ h, fun H' v2 s2 d2 f2 k o k2 => ?_⟩
      have kr := t.keep (H' := H') (Ex.refl G) fun x hx => ⟨k x (List.mem_append_right _ hx) (fun z => j x z hx), (t.objs x hx).2⟩
      rw [fldSet, if_pos rfl, putF, if_pos rfl]
      refine ⟨_, f2 ++ g, rfl, .cons o kr fun x hx z => ?_, fun x hx => ?_⟩
      · rcases k2 x hx with w | w
        · exact j x w z
        · exact w (List.mem_append_right _ z)
      · rcases List.mem_append.mp hx with hx | hx
        · exact .inr hx
        · exact .inl ⟨List.mem_append_right _ hx, fun z => j x z hx⟩
    · rw [if_neg hs] at e
      obtain ⟨v1, f1, h1, h2, h3, h4⟩ := OwnF.at_ t e
      have hb : (fl == y) = false := beq_eq_false_iff_ne.mpr (Ne.symm hs)
      refine ⟨v1, f1, by simpa [List.lookup, hb] using h1, h2, fun x h => List.mem_append_right _ (h3 x h), fun H' v2 s2 d2 f2 k o k2 => ?_⟩
      have nf : ∀ x ∈ f, x ∉ f1 := fun x hx z => j x hx (h3 x z)
      obtain ⟨q, g', q0, q1, q2⟩ := h4 H' v2 s2 d2 f2 (fun x hx nx => k x (List.mem_append_right _ hx) nx) o (fun x hx => (k2 x hx).imp id fun w z => w (List.mem_append_right _ z))
      have ka := a.keep (H' := H') (Ex.refl G) fun x hx => ⟨k x (List.mem_append_left _ hx) (nf x hx), (a.objs x hx).2⟩
      rw [fldSet, if_neg hs, q0, putF, if_neg hs]
      refine ⟨_, f ++ g', rfl, .cons ka q1 fun x hx z => ?_, fun x hx => ?_⟩
      · rcases q2 x z with ⟨w, _⟩ | w
        · exact j x hx w
        · rcases k2 x w with w | w
          · exact nf x hx w
          · exact w (List.mem_append_left _ hx)
      · rcases List.mem_append.mp hx with hx | hx
        · exact .inl ⟨List.mem_append_left _ hx, nf x hx⟩
        · exact (q2 x hx).imp (fun w => ⟨List.mem_append_right _ w.1, w.2⟩) id
theorem OwnF.new : ∀ {r : Fs} {vs : List (Str × V)} {ds : List D} {fp : List Addr} {f : Str} {s2 : Sh} {d2 : D} {v2 : V} {f2 : List Addr}, OwnF K G H r vs ds fp → fldAt f r ds = none → Own K G H s2 v2 d2 f2 → Dj f2 fp → ∃ q fp', fldSet f s2 d2 r ds = some q ∧ OwnF K G H q.1 (putF f v2 vs) q.2 fp' ∧ ∀ x ∈ fp', x ∈ fp ∨ x ∈ f2
  | _, _, _, _, f, s2, d2, v2, f2, .nil, e, o, dj => ⟨_, f2 ++ [], rfl, .cons o .nil Dj.nil', fun x hx => .inr (by simpa using hx)⟩
  | _, _, _, _, fl, s2, d2, v2, f2, .cons (x := y) (s := s0) (r := r) (v := v) (d := d0) (vs := vs) (ds := ds) (f := f) (g := g) a t j, e, o, dj => by
    rw [fldAt] at e
    by_cases hs : y = fl
    · rw [if_pos hs] at e; cases e
    · rw [if_neg hs] at e
      obtain ⟨q, g', q0, q1, q2⟩ := OwnF.new t e o fun x hx z => dj x hx (List.mem_append_right _ z)
      rw [fldSet, if_neg hs, q0, putF, if_neg hs]
      refine ⟨_, f ++ g', rfl, .cons a q1 fun x hx z => ?_, fun x hx => ?_⟩
      · rcases q2 x z with w | w
        · exact j x hx w
        · exact dj x w (List.mem_append_left _ hx)
      · rcases List.mem_append.mp hx with hx | hx
        · exact .inl (List.mem_append_left _ hx)
        · exact (q2 x hx).imp (fun w => List.mem_append_right _ w) id
/-- the fields with f → v2 -/
theorem OwnF.put {r : Fs} {vs : List (Str × V)} {ds : List D} {fp f2 : List Addr} {f : Str} {s2 : Sh} {d2 : D} {v2 : V} (h : OwnF K G H r vs ds fp) (o : Own K G H s2 v2 d2 f2) (dj : Dj f2 fp) : ∃ q fp', fldSet f s2 d2 r ds = some q ∧ OwnF K G H q.1 (putF f v2 vs) q.2 fp' ∧ ∀ x ∈ fp', x ∈ fp ∨ x ∈ f2 := by
  cases e : fldAt f r ds with
  | none => exact h.new e o dj
  | some p =>
    obtain ⟨s, d⟩ := p
    obtain ⟨v, f1, h1, h2, h3, h4⟩ := h.at_ e
    obtain ⟨q, fp', q0, q1, q2⟩ := h4 H v2 s2 d2 f2 (fun _ _ _ => rfl) o (fun x hx => .inr (dj x hx))
    exact ⟨q, fp', q0, q1, fun x hx => (q2 x hx).imp (·.1) id⟩
theorem keyOf_same {k : D} {kk : Key} (h : keyOf k = some kk) : sameK k k = true := by
  cases k <;> first | (cases h; done) | simp [sameK]
theorem List.set_eq_of_getElem? {α : Type} {l : List α} {n : Nat} {x : α} (h : l[n]? = some x) : l.set n x = l := by
  apply List.ext_getElem?
  intro j
  by_cases e : n = j
  · subst e
    rw [List.getElem?_set_self (List.getElem?_eq_some_iff.mp h).1, h]
  · rw [List.getElem?_set_ne e]
/-! ### one step down, a path down -/
theorem Own.step {s : Sh} {v : V} {d : D} {fp : List Addr} {p : Pt} {s1 : Sh} {d1 : D} (o : Own K G H s v d fp) (h : step1 s d p = some (s1, d1)) : ∃ v1 f1, val1 H v p = some v1 ∧ Own K G H s1 v1 d1 f1 ∧ (∀ x ∈ f1, x ∈ fp) ∧
    ∀ (H' : Hp) (s2 : Sh) (d2 : D) (f2 : List Addr) (s' : Sh) (d' : D), (∀ x ∈ fp, x ∉ f1 → H' x = H x) → Own K G H' s2 v1 d2 f2 → (∀ x ∈ f2, x ∈ f1 ∨ x ∉ fp) → put1 s d p s2 d2 = some (s', d') → ∃ fp', Own K G H' s' v d' fp' ∧ ∀ x ∈ fp', (x ∈ fp ∧ x ∉ f1) ∨ x ∈ f2 := by
  unfold step1 at h
  split at h
  · rename_i c fs ds f
    cases o with
    | obj h0 h1 h2 h3 h4 h5 h6 h7 h8 =>
      obtain ⟨v1, f1, k1, k2, k3, k4⟩ := h5.at_ h
      refine ⟨v1, f1, by rw [val1, h1]; exact k1, k2, fun x hx => .tail _ (.tail _ (k3 x hx)), fun H' s2 d2 f2 s' d' w1 w2 w3 w4 => ?_⟩
      obtain ⟨q, fp', q0, q1, q2⟩ := k4 H' v1 s2 d2 f2 (fun x hx nx => w1 x (.tail _ (.tail _ hx)) nx) w2 (fun x hx => (w3 x hx).imp id fun z y => z (.tail _ (.tail _ y)))
      rw [putF_self k1] at q1
      rw [put1, q0] at w4
      cases w4
      rename_i C a dx vs fp0
      have na : a ∉ f1 := fun z => h6 (k3 a z)
      have nd : dx ∉ f1 := fun z => h7 (k3 dx z)
      have e1 := w1 a (.head _) na
      have e2 := w1 dx (.tail _ (.head _)) nd
      have o1 : a ∉ fp' := fun z => by
        rcases q2 a z with ⟨y, _⟩ | y
        · exact h6 y
        · rcases w3 a y with y | y
          · exact na y
          · exact y (.head _)
      have o2 : dx ∉ fp' := fun z => by
        rcases q2 dx z with ⟨y, _⟩ | y
        · exact h7 y
        · rcases w3 dx y with y | y
          · exact nd y
          · exact y (.tail _ (.head _))
      refine ⟨_, .obj h0 (e1.trans h1) (e2.trans h2) h3 h4 q1 o1 o2 h8, fun x hx => ?_⟩
      rcases List.mem_cons.mp hx with rfl | hx
      · exact .inl ⟨.head _, na⟩
      · rcases List.mem_cons.mp hx with rfl | hx
        · exact .inl ⟨.tail _ (.head _), nd⟩
        · exact (q2 x hx).imp (fun z => ⟨.tail _ (.tail _ z.1), z.2⟩) id
  · rename_i s0 ds n
    obtain ⟨d0, e0, e1⟩ := Option.map_eq_some_iff.mp h
    cases e1
    cases o with
    | lst h1 h2 h3 h4 =>
      rename_i a vs fp0
      obtain ⟨v1, f1, k1, k2, k3, k4⟩ := h3.at_ e0
      have na : a ∉ f1 := fun z => h4 (k3 a z)
      refine ⟨v1, f1, by rw [val1, h1]; exact k1, k2, fun x hx => .tail _ (k3 x hx), fun H' s2 d2 f2 s' d' w1 w2 w3 w4 => ?_⟩
      rw [put1] at w4
      obtain ⟨es, w4⟩ := ite_inv w4
      cases w4
      have es' := Sh.beq_eq es
      subst es'
      obtain ⟨fp', q1, q2⟩ := k4 H' v1 d2 f2 (fun x hx nx => w1 x (.tail _ hx) nx) w2 (fun x hx => (w3 x hx).imp id fun z y => z (.tail _ y))
      have hn : n < vs.length := (List.getElem?_eq_some_iff.mp k1).1
      rw [List.set_eq_of_getElem? k1] at q1
      have o1 : a ∉ fp' := fun z => by
        rcases q2 a z with ⟨y, _⟩ | y
        · exact h4 y
        · rcases w3 a y with y | y
          · exact na y
          · exact y (.head _)
      refine ⟨_, .lst ((w1 a (.head _) na).trans h1) h2 q1 o1, fun x hx => ?_⟩
      rcases List.mem_cons.mp hx with rfl | hx
      · exact .inl ⟨.head _, na⟩
      · exact (q2 x hx).imp (fun z => ⟨.tail _ z.1, z.2⟩) id
  · rename_i s0 kvs k
    obtain ⟨d0, e0, e1⟩ := Option.map_eq_some_iff.mp h
    cases e1
    cases o with
    | dic h1 h2 h3 h4 h5 =>
      rename_i a vs fp0
      obtain ⟨kk, v1, f1, k0, k1, k1', k2, k3, k4⟩ := h3.at_ e0
      have na : a ∉ f1 := fun z => h4 (k3 a z)
      refine ⟨v1, f1, by rw [val1, h1, k0]; exact k1, k2, fun x hx => .tail _ (k3 x hx), fun H' s2 d2 f2 s' d' w1 w2 w3 w4 => ?_⟩
      rw [put1] at w4
      obtain ⟨es, w4⟩ := ite_inv w4
      cases w4
      have es' := Sh.beq_eq es
      subst es'
      obtain ⟨fp', q1, q2⟩ := k4 H' v1 d2 f2 (fun x hx nx => w1 x (.tail _ hx) nx) w2 (fun x hx => (w3 x hx).imp id fun z y => z (.tail _ y))
      rw [k1'] at q1
      have o1 : a ∉ fp' := fun z => by
        rcases q2 a z with ⟨y, _⟩ | y
        · exact h4 y
        · rcases w3 a y with y | y
          · exact na y
          · exact y (.head _)
      refine ⟨_, .dic ((w1 a (.head _) na).trans h1) h2 q1 o1 (uniqK_put (keyOf_same k0) h5), fun x hx => ?_⟩
      rcases List.mem_cons.mp hx with rfl | hx
      · exact .inl ⟨.head _, na⟩
      · exact (q2 x hx).imp (fun z => ⟨.tail _ z.1, z.2⟩) id
  · cases h
theorem Own.path : ∀ {π : List Pt} {s : Sh} {v : V} {d : D} {fp : List Addr} {s1 : Sh} {d1 : D}, Own K G H s v d fp → getP π s d = some (s1, d1) → ∃ v1 f1, valP H π v = some v1 ∧ Own K G H s1 v1 d1 f1 ∧ (∀ x ∈ f1, x ∈ fp) ∧
    ∀ (H' : Hp) (s2 : Sh) (d2 : D) (f2 : List Addr) (s' : Sh) (d' : D), (∀ x ∈ fp, x ∉ f1 → H' x = H x) → Own K G H' s2 v1 d2 f2 → (∀ x ∈ f2, x ∈ f1 ∨ x ∉ fp) → setP s2 d2 π s d = some (s', d') → ∃ fp', Own K G H' s' v d' fp' ∧ ∀ x ∈ fp', (x ∈ fp ∧ x ∉ f1) ∨ x ∈ f2
  | [], s, v, d, fp, s1, d1, o, h => by
    cases h
    refine ⟨v, fp, rfl, o, fun x hx => hx, fun H' s2 d2 f2 s' d' w1 w2 w3 w4 => ?_⟩
    cases w4
    exact ⟨f2, w2, fun x hx => .inr hx⟩
  | p :: π, s, v, d, fp, s1, d1, o, h => by
    rw [getP] at h
    obtain ⟨⟨sa, da⟩, e1, e2⟩ := Option.bind_eq_some_iff.mp h
    obtain ⟨va, fa, k1, k2, k3, k4⟩ := o.step e1
    obtain ⟨v1, f1, m1, m2, m3, m4⟩ := Own.path k2 e2
    refine ⟨v1, f1, by rw [valP, k1]; exact m1, m2, fun x hx => k3 x (m3 x hx), fun H' s2 d2 f2 s' d' w1 w2 w3 w4 => ?_⟩
    rw [setP, e1] at w4
    have w4' : ((setP s2 d2 π sa da).bind fun r => put1 s d p r.1 r.2) = some (s', d') := w4
    obtain ⟨⟨sb, db⟩, e3, e4⟩ := Option.bind_eq_some_iff.mp w4'
    obtain ⟨fb, q1, q2⟩ := m4 H' s2 d2 f2 sb db (fun x hx nx => w1 x (k3 x hx) nx) w2 (fun x hx => (w3 x hx).imp id fun z y => z (k3 x y)) e3
    obtain ⟨fp', r1, r2⟩ := k4 H' sb db fb s' d' (fun x hx nx => w1 x hx fun z => nx (m3 x z)) q1 (fun x hx => by
      rcases q2 x hx with ⟨z, _⟩ | z
      · exact .inl z
      · rcases w3 x z with z | z
        · exact .inl (m3 x z)
        · exact .inr z) e4
    refine ⟨fp', r1, fun x hx => ?_⟩
    rcases r2 x hx with ⟨z1, z2⟩ | z
    · exact .inl ⟨z1, fun y => z2 (m3 x y)⟩
    · rcases q2 x z with ⟨z1, z2⟩ | z
      · exact .inl ⟨k3 x z1, z2⟩
      · exact .inr z
end
end Tk
/-! Trees of variables: changed, locked, read at a place. -/
namespace Tk
open PySem PySem.Spec PyProof.Rows L2 SX
section
variable {K : PySem.W.Frag} {B : Bs} {σ : L2.St} {G H G' H' : Hp} {ρ ρ' : Cs}
/-- a tree is changed -/
theorem SR.tw (s : SR K B σ G H ρ) {i : Nat} {b : Bool} {sh sh' : Sh} {d d' : D} {a : Addr} {fp' : List Addr} (hi : ρ[i]? = some (.tr (b, false) sh d)) (ha : σ[i]? = some (some (.ref a))) (f : Fr (fpAt H σ ρ i) G H G H')
    (o : Own K G H' sh' (.ref a) d' fp') (hn : ∀ x ∈ fp', x ∈ fpAt H σ ρ i ∨ NewO B σ G H ρ x) : SR K B σ G H' (ρ.set i (.tr (b, false) sh' d')) := by
  have hlt : i < ρ.length := (List.getElem?_eq_some_iff.mp hi).1
  have se : (ρ.set i (.tr (b, false) sh' d'))[i]? = some (.tr (b, false) sh' d') := List.getElem?_set_self hlt
  have ne : ∀ {j : Nat}, j ≠ i → (ρ.set i (.tr (b, false) sh' d'))[j]? = ρ[j]? := fun h => List.getElem?_set_ne (Ne.symm h)
  have no : ∀ {j : Nat}, isO (ρ.set i (.tr (b, false) sh' d')) j → j ≠ i ∧ isO ρ j := fun h => isO_set h (by intro b d q; cases q)
  have mine : ∀ {x : Addr}, x ∈ fpAt H σ ρ i → (x ∈ B.S ∨ B.H x = none) ∧ G x = none ∧ ∃ o, H x = some o ∧ ∀ fs, o ≠ .xd fs := fun {x} hx => by
    obtain ⟨h1, h2, h3⟩ := s.tr.got hx
    exact ⟨h3 b sh d hi, h2, h1⟩
  have keep : ∀ {x : Addr} {u : HO}, x ∉ fpAt H σ ρ i → H x = some u → H' x = some u := fun n q => f.h _ _ n q
  have fpi : fpAt H' σ (ρ.set i (.tr (b, false) sh' d')) i = fp' := by
    unfold fpAt; rw [se, ha]; exact o.fp
  -- other trees are left alone
  have oth : ∀ {j : Nat} {c : Bool × Bool} {t : Sh} {e : D}, j ≠ i → ρ[j]? = some (.tr c t e) → ∃ x fp, σ[j]? = some (some (.ref x)) ∧ Own K G H' t (.ref x) e fp ∧ fpAt H σ ρ j = fp ∧ fpAt H' σ (ρ.set i (.tr (b, false) sh' d')) j = fp ∧ TrC B j x fp c ∧ ∀ y ∈ fp, H' y = H y := fun {j c t e} n h => by
    obtain ⟨x, fp, k1, k2, k3, k4⟩ := s.tr.fp h
    have kp : ∀ y ∈ fp, H' y = H y ∧ G y = none := fun y hy => by
      rw [← k3] at hy
      obtain ⟨⟨u, hu, _⟩, hg, _⟩ := s.tr.got hy
      exact ⟨(keep (fun z => s.tr.dj i j (Ne.symm n) y z hy) hu).trans hu.symm, hg⟩
    have o' := k2.keep (H' := H') (Ex.refl G) kp
    refine ⟨x, fp, k1, o', k3, ?_, k4, fun y hy => (kp y hy).1⟩
    unfold fpAt; rw [ne n, h, k1]; exact o'.fp
  have fpj : ∀ {j : Nat}, j ≠ i → ∀ {x : Addr}, x ∈ fpAt H' σ (ρ.set i (.tr (b, false) sh' d')) j → x ∈ fpAt H σ ρ j := fun {j} n {x} hx => by
    obtain ⟨c, t, e, v, e1, _, _⟩ := fpAt_is hx
    rw [ne n] at e1
    obtain ⟨_, fp, _, _, q1, q2, _⟩ := oth n e1
    rw [q2] at hx; rw [q1]; exact hx
  refine ⟨⟨s.fr.g, fun x u n q => ?_, s.fr.n, f.e, fun x n => f.d x (s.fr.d x n)⟩, by simpa using s.len, fun j e h => ?_, fun j c e h => ?_, fun j k x hj hk => s.inj j k x (no hj).2 (no hk).2, fun p hp => ?_, fun j c p h => ?_, fun j c t e h => ?_, fun j k n x h1 h2 => ?_, fun j k x h1 h2 h3 => ?_, fun j x h1 p hp => ?_, fun j c t e h x hx => ?_⟩
  · refine f.h x u (fun z => ?_) (s.fr.h x u n q)
    rcases (mine z).1 with w | w
    · exact n w
    · rw [q] at w; cases w
  · rcases get_set h with ⟨rfl, q⟩ | ⟨hn, q⟩
    · cases q
    · exact s.pu j e q
  · rcases get_set h with ⟨rfl, q⟩ | ⟨hn, q⟩
    · cases q
    · obtain ⟨x, u, k1, k2, k3, k4, k5⟩ := s.ow j c e q
      exact ⟨x, u, k1, k2, k3, keep (fun z => s.tr.no i j x z ⟨c, e, q⟩ k1) k4, k5⟩
  · obtain ⟨k1, k2, k3, k4⟩ := s.pin p hp
    exact ⟨keep (fun z => s.tr.pn i _ z p hp rfl) k1, k2, k3, fun j hj => k4 j (no hj).2⟩
  · rcases get_set h with ⟨rfl, q⟩ | ⟨hn, q⟩
    · cases q
    · obtain ⟨k1, k2, dd, v, k3, k4, k5⟩ := s.er j c p q
      refine ⟨k1, k2, dd, v, k3, keep (fun z => ?_) k4, k5⟩
      obtain ⟨_, _, u, h6, h7⟩ := mine z
      rw [k4] at h6
      exact h7 _ (Option.some.inj h6).symm
  · rcases get_set h with ⟨rfl, q⟩ | ⟨n, q⟩
    · cases q
      refine ⟨a, fp', ha, o, ?_⟩
      obtain ⟨a0, f1, w1, w2, w3, w4⟩ := s.tr.fp hi
      rw [ha] at w1; cases w1
      cases b with
      | true =>
        obtain ⟨f0, z1, z2⟩ := w4
        exact ⟨f0, z1, fun x hx => (hn x hx).elim (fun z => z2 x (by rw [← w3]; exact z)) (fun z => .inr z.2.1)⟩
      | false => exact fun x hx => (hn x hx).elim (fun z => w4 x (by rw [← w3]; exact z)) (fun z => z.2.1)
    · obtain ⟨x, fp, k1, k2, _, _, k3, _⟩ := oth n q
      exact ⟨x, fp, k1, k2, k3⟩
  · by_cases e1 : j = i
    · subst e1
      rw [fpi] at h1
      have h2' := fpj (Ne.symm n) h2
      rcases hn x h1 with z | z
      · exact s.tr.dj j k n x z h2'
      · exact z.2.2.2.2 k h2'
    · have h1' := fpj e1 h1
      by_cases e2 : k = i
      · subst e2
        rw [fpi] at h2
        rcases hn x h2 with z | z
        · exact s.tr.dj j k n x h1' z
        · exact z.2.2.2.2 j h1'
      · exact s.tr.dj j k n x h1' (fpj e2 h2)
  · obtain ⟨_, ok⟩ := no h2
    by_cases e1 : j = i
    · subst e1
      rw [fpi] at h1
      rcases hn x h1 with z | z
      · exact s.tr.no j k x z ok h3
      · exact z.2.2.1 k ok h3
    · exact s.tr.no j k x (fpj e1 h1) ok h3
  · by_cases e1 : j = i
    · subst e1
      rw [fpi] at h1
      rcases hn x h1 with z | z
      · exact s.tr.pn j x z p hp
      · exact z.2.2.2.1 p hp
    · exact s.tr.pn j x (fpj e1 h1) p hp
  · rcases get_set h with ⟨rfl, q⟩ | ⟨n, q⟩
    · cases q
    · obtain ⟨y, fp, _, _, q1, q2, _, q3⟩ := oth n q
      rw [q2] at hx
      rw [q3 x hx]
      exact s.tr.lk j c t e q x (by rw [q1]; exact hx)
/-- a tree is locked: nothing of it changes -/
theorem SR.lock (s : SR K B σ G H ρ) {i : Nat} {b : Bool × Bool} {sh : Sh} {d : D} (hi : ρ[i]? = some (.tr b sh d)) : SR K { B with L := fun j => if j = i then H else B.L j } σ G H (ρ.set i (.tr (b.1, true) sh d)) := by
  have hlt : i < ρ.length := (List.getElem?_eq_some_iff.mp hi).1
  have no : ∀ {j : Nat}, isO (ρ.set i (.tr (b.1, true) sh d)) j → j ≠ i ∧ isO ρ j := fun h => isO_set h (by intro b d q; cases q)
  have fpe : ∀ j, fpAt H σ (ρ.set i (.tr (b.1, true) sh d)) j = fpAt H σ ρ j := fun j => by
    unfold fpAt
    by_cases e : j = i
    · subst e; rw [List.getElem?_set_self hlt, hi]; rcases σ[j]? with _ | _ | _ <;> rfl
    · rw [List.getElem?_set_ne (Ne.symm e)]
  refine ⟨s.fr, by simpa using s.len, fun j e h => ?_, fun j c e h => ?_, fun j k x hj hk => s.inj j k x (no hj).2 (no hk).2, fun p hp => ?_, fun j c p h => ?_, fun j c t e h => ?_, fun j k n => ?_, fun j k x h1 h2 h3 => ?_, fun j x h1 => ?_, fun j c t e h x hx => ?_⟩
  · rcases get_set h with ⟨rfl, q⟩ | ⟨hn, q⟩
    · cases q
    · exact s.pu j e q
  · rcases get_set h with ⟨rfl, q⟩ | ⟨hn, q⟩
    · cases q
    · exact s.ow j c e q
  · obtain ⟨k1, k2, k3, k4⟩ := s.pin p hp
    exact ⟨k1, k2, k3, fun j hj => k4 j (no hj).2⟩
  · rcases get_set h with ⟨rfl, q⟩ | ⟨hn, q⟩
    · cases q
    · exact s.er j c p q
  · rcases get_set h with ⟨rfl, q⟩ | ⟨hn, q⟩
    · cases q
      obtain ⟨a, fp, h1, h2, _⟩ := s.tr.at_ _ _ _ _ hi
      exact ⟨a, fp, h1, h2, trivial⟩
    · obtain ⟨a, fp, h1, h2, h3⟩ := s.tr.at_ _ _ _ _ q
      exact ⟨a, fp, h1, h2, h3.to rfl rfl⟩
  · rw [fpe, fpe]; exact s.tr.dj j k n
  · rw [fpe] at h1; exact s.tr.no j k x h1 (no h2).2 h3
  · rw [fpe] at h1; exact s.tr.pn j x h1
  · rw [fpe] at hx
    by_cases e1 : j = i
    · show H x = (if j = i then H else B.L j) x
      rw [if_pos e1]
    · show H x = (if j = i then H else B.L j) x
      rw [if_neg e1]
      rw [List.getElem?_set_ne (Ne.symm e1)] at h
      exact s.tr.lk j c t e h x hx
/-- it is free again: it is as it was -/
theorem SR.free (s : SR K B σ G H ρ) {i : Nat} {b : Bool × Bool} {sh : Sh} {d : D} (hi : ρ[i]? = some (.tr b sh d)) (s1 : SR K { B with L := fun j => if j = i then H else B.L j } σ G' H' ρ') (hi' : ρ'[i]? = some (.tr (b.1, true) sh d)) :
    SR K B σ G' H' (ρ'.set i (.tr b sh d)) ∧ ∀ x ∈ fpAt H σ ρ i, H' x = H x := by
  have hlt : i < ρ'.length := (List.getElem?_eq_some_iff.mp hi').1
  obtain ⟨a, fp, k1, k2, k3, k4⟩ := s.tr.fp hi
  obtain ⟨a', fp', m1, m2, m3, _⟩ := s1.tr.fp hi'
  rw [k1] at m1; cases m1
  have same : ∀ x ∈ fp', H x = H' x := fun x hx => by
    have := s1.tr.lk i b.1 sh d hi' x (by rw [m3]; exact hx)
    rw [this]
    show H x = (if i = i then H else B.L i) x
    rw [if_pos rfl]
  have o := m2.keep (H' := H) (Ex.refl G') fun x hx => ⟨same x hx, (m2.objs x hx).2⟩
  have efp : fp' = fp := o.fp.symm.trans k2.fp
  subst efp
  have no : ∀ {j : Nat}, isO (ρ'.set i (.tr b sh d)) j → j ≠ i ∧ isO ρ' j := fun h => isO_set h (by intro b d q; cases q)
  have fpe : ∀ j, fpAt H' σ (ρ'.set i (.tr b sh d)) j = fpAt H' σ ρ' j := fun j => by
    unfold fpAt
    by_cases e : j = i
    · subst e; rw [List.getElem?_set_self hlt, hi']; rcases σ[j]? with _ | _ | _ <;> rfl
    · rw [List.getElem?_set_ne (Ne.symm e)]
  refine ⟨⟨s1.fr, by simpa using s1.len, fun j e h => ?_, fun j c e h => ?_, fun j k x hj hk => s1.inj j k x (no hj).2 (no hk).2, fun p hp => ?_, fun j c p h => ?_, fun j c t e h => ?_, fun j k n => ?_, fun j k x h1 h2 h3 => ?_, fun j x h1 => ?_, fun j c t e h x hx => ?_⟩, fun x hx => (same x (by rw [← k3]; exact hx)).symm⟩
  · rcases get_set h with ⟨rfl, q⟩ | ⟨hn, q⟩
    · cases q
    · exact s1.pu j e q
  · rcases get_set h with ⟨rfl, q⟩ | ⟨hn, q⟩
    · cases q
    · exact s1.ow j c e q
  · obtain ⟨k1, k2, k3, k4⟩ := s1.pin p hp
    exact ⟨k1, k2, k3, fun j hj => k4 j (no hj).2⟩
  · rcases get_set h with ⟨rfl, q⟩ | ⟨hn, q⟩
    · cases q
    · exact s1.er j c p q
  · rcases get_set h with ⟨rfl, q⟩ | ⟨hn, q⟩
    · cases q
      exact ⟨a, _, k1, m2, k4⟩
    · obtain ⟨a, fp, h1, h2, h3⟩ := s1.tr.at_ _ _ _ _ q
      exact ⟨a, fp, h1, h2, h3.to rfl rfl⟩
  · rw [fpe, fpe]; exact s1.tr.dj j k n
  · rw [fpe] at h1; exact s1.tr.no j k x h1 (no h2).2 h3
  · rw [fpe] at h1; exact s1.tr.pn j x h1
  · rw [fpe] at hx
    by_cases e1 : j = i
    · subst e1
      rw [List.getElem?_set_self hlt] at h
      cases h
      rw [m3] at hx
      rw [← same x hx]
      exact s.tr.lk j _ _ _ hi x (by rw [k3]; exact hx)
    · rw [List.getElem?_set_ne (Ne.symm e1)] at h
      have := s1.tr.lk j c t e h x hx
      rw [this]
      show (if j = i then H else B.L j) x = B.L j x
      rw [if_neg e1]
end
end Tk
/-! Places as expressions: x, x.f, x[e], within an own tree. -/
namespace Tk
open PySem PySem.Spec PyProof.Rows L2 SX
section
variable {K : PySem.W.Frag} {B : Bs} {σ : L2.St} {G H G' H' : Hp} {ρ ρ' : Cs}
theorem Own.val1_same {s : Sh} {v : V} {d : D} {fp : List Addr} {p : Pt} {q : Sh × D} (o : Own K G H s v d fp) (k : ∀ x ∈ fp, H' x = H x) (h : step1 s d p = some q) : val1 H' v p = val1 H v p := by
  cases o with
  | fz r => simp [step1] at h
  | lst h1 h2 h3 h4 => have kk := k _ (.head _); cases p <;> simp only [val1, kk]
  | dic h1 h2 h3 h4 => have kk := k _ (.head _); cases p <;> simp only [val1, kk]
  | obj h0 h1 h2 h3 h4 h5 h6 h7 h8 => have kk := k _ (.head _); cases p <;> simp only [val1, kk]
theorem Own.valP_same : ∀ {π : List Pt} {s : Sh} {v : V} {d : D} {fp : List Addr} {q : Sh × D}, Own K G H s v d fp → (∀ x ∈ fp, H' x = H x) → getP π s d = some q → valP H' π v = valP H π v
  | [], _, _, _, _, _, _, _, _ => rfl
  | p :: π, s, v, d, fp, q, o, k, h => by
    rw [getP] at h
    obtain ⟨⟨sa, da⟩, e1, e2⟩ := Option.bind_eq_some_iff.mp h
    obtain ⟨va, fa, k1, k2, k3, _⟩ := o.step e1
    rw [valP, valP, o.val1_same k e1, k1]
    exact Own.valP_same k2 (fun x hx => k x (k3 x hx)) e2
theorem getP_app {p : Pt} : ∀ {π : List Pt} {s : Sh} {d : D}, getP (π ++ [p]) s d = (getP π s d).bind fun q => step1 q.1 q.2 p
  | [], s, d => by
    cases h : step1 s d p <;> simp [getP, h]
  | r :: π, s, d => by
    rw [List.cons_append, getP, getP]
    cases step1 s d r with
    | none => rfl
    | some q => exact getP_app
theorem valP_app {p : Pt} : ∀ {π : List Pt} {v : V}, valP H (π ++ [p]) v = (valP H π v).bind fun w => val1 H w p
  | [], v => by
    cases h : val1 H v p <;> simp [valP, h]
  | r :: π, v => by
    rw [List.cons_append, valP, valP]
    cases val1 H v r with
    | none => rfl
    | some q => exact valP_app
/-- v stands at the place -/
def AtP (H : Hp) (σ : L2.St) (ρ : Cs) (i : Nat) (π : List Pt) (v : V) : Prop := ∀ b s d q, ρ[i]? = some (.tr b s d) → getP π s d = some q → ∃ a, σ[i]? = some (some (.ref a)) ∧ valP H π (.ref a) = some v
theorem SR.plc (s : SR K B σ G H ρ) {i : Nat} {b : Bool × Bool} {sh s1 : Sh} {d d1 : D} {π : List Pt} {v : V} (hi : ρ[i]? = some (.tr b sh d)) (hg : getP π sh d = some (s1, d1)) (hv : AtP H σ ρ i π v) : ∃ a f1, σ[i]? = some (some (.ref a)) ∧ valP H π (.ref a) = some v ∧ Own K G H sh (.ref a) d (fpAt H σ ρ i) ∧ Own K G H s1 v d1 f1 ∧ (∀ x ∈ f1, x ∈ fpAt H σ ρ i) ∧
    ∀ (H' : Hp) (s2 : Sh) (d2 : D) (f2 : List Addr) (s' : Sh) (d' : D), (∀ x ∈ fpAt H σ ρ i, x ∉ f1 → H' x = H x) → Own K G H' s2 v d2 f2 → (∀ x ∈ f2, x ∈ f1 ∨ x ∉ fpAt H σ ρ i) → Tk.setP s2 d2 π sh d = some (s', d') → ∃ fp', Own K G H' s' (.ref a) d' fp' ∧ ∀ x ∈ fp', (x ∈ fpAt H σ ρ i ∧ x ∉ f1) ∨ x ∈ f2 := by
  obtain ⟨a, fp, k1, k2, k3, _⟩ := s.tr.fp hi
  obtain ⟨v1, f1, m1, m2, m3, m4⟩ := k2.path hg
  obtain ⟨a', q1, q2⟩ := hv _ _ _ _ hi hg
  rw [k1] at q1; cases q1
  rw [q2] at m1; cases m1
  rw [k3]
  exact ⟨a, f1, k1, q2, k2, m2, m3, m4⟩
/-- what stands at the place -/
def trAt (i : Nat) (π : List Pt) (ρ : Cs) : Option (Sh × D) := match ρ[i]? with
  | some (.tr _ s d) => getP π s d
  | _ => none
theorem trAt_inv {i : Nat} {π : List Pt} {q : Sh × D} (h : trAt i π ρ = some q) : ∃ b s d, ρ[i]? = some (.tr b s d) ∧ getP π s d = some q := by
  unfold trAt at h
  split at h
  · rename_i b s d e; exact ⟨b, s, d, e, h⟩
  · cases h
end
section
variable (K : PySem.W.Frag) (Xs : List XC) (W : WX)
def rP (i : Nat) (m : M (List Pt)) : TE := fun σ H Q => ∃ B G ρ, SR K B σ G H ρ ∧ ∃ r, m ρ = some r ∧ match r with
  | .ok π ρ' => ∀ v G' H', SR K B σ G' H' ρ' → Ex G G' → AtP H' σ ρ' i π v → Q v H'
  | .ex c p ρ' => ∀ G' H', SR K B σ G' H' ρ' → XP K Xs B G' H' c p fun cls dd => W cls dd σ H'
end
def SPl (X : Cx) (Xs : List XC) (W : WX) (i : Nat) (e : Expr) (m : M (List Pt)) : Prop := PE X e (rP X.K Xs W i m)
open Classical in
/-- while n runs, the tree stays as it is -/
noncomputable def lk {α : Type} (i : Nat) (n : M α) : M α := fun ρ => match ρ[i]? with
  | some (.tr b s d) => (match n (ρ.set i (.tr (b.1, true) s d)) with
    | some (.ok e ρ') => if ρ'[i]? = some (.tr (b.1, true) s d) then some (.ok e (ρ'.set i (.tr b s d))) else none
    | some (.ex c p ρ') => if ρ'[i]? = some (.tr (b.1, true) s d) then some (.ex c p (ρ'.set i (.tr b s d))) else none
    | none => none)
  | _ => none
section
variable {X : Cx} {Xs : List XC} {W : WX} {e a b c : Expr} {es : List Expr} {pos p : Pos} {x : Str}
open Classical in
theorem lk_do {K : PySem.W.Frag} {ν α : Type} {Rl : RL ν α} {n : M α} {B : Bs} {σ : L2.St} {G H : Hp} {ρ : Cs} {i : Nat} {r : R α} {Q : ν → Hp → Prop} (s : SR K B σ G H ρ) (h : lk i n ρ = some r) (q : match r with
    | .ok d ρ' => ∀ v G' H', SR K B σ G' H' ρ' → Ex G G' → Rl σ G' v d → (∀ x ∈ fpAt H σ ρ i, H' x = H x) → ρ'[i]? = ρ[i]? → Q v H'
    | .ex c p ρ' => ∀ G' H', SR K B σ G' H' ρ' → XP K Xs B G' H' c p fun cls dd => W cls dd σ H') : rX K Xs W Rl n σ H Q := by
  unfold lk at h
  split at h
  · rename_i b sh d e
    have sl := s.lock e
    split at h
    · rename_i dd ρ' en
      obtain ⟨hc, rfl⟩ := ite_inv h
      refine ⟨_, G, _, sl, _, en, fun v G' H' s' x' rl => ?_⟩
      obtain ⟨s2, k⟩ := s.free e s' hc
      exact q v G' H' s2 x' rl k (by rw [List.getElem?_set_self (List.getElem?_eq_some_iff.mp hc).1, e])
    · rename_i cc pp ρ' en
      obtain ⟨hc, rfl⟩ := ite_inv h
      refine ⟨_, G, _, sl, _, en, fun G' H' s' => ?_⟩
      obtain ⟨s2, k⟩ := s.free e s' hc
      exact q G' H' s2
    · cases h
  · cases h
/-- x -/
def pN (i : Nat) : M (List Pt) := fun ρ => match ρ[i]? with
  | some (.tr _ _ _) => some (.ok [] ρ)
  | _ => none
theorem pl_name (i : Nat) (hN : X.N[i]? = some x) (hv : Vis X.env.scope x) (hd : (x == ("__debug__" : Str)) = false := by decide) (hcd : (x == ("__classdict__" : Str)) = false := by decide) : SPl X Xs W i (.Name x p) (pN i) := by
  refine pe_imp (pe_ref (i := i) hN hv hd hcd) fun σ H Q ⟨B, G, ρ, s, r, h1, h2⟩ => ?_
  unfold pN at h1
  split at h1
  · rename_i b sh d e
    cases h1
    obtain ⟨a, fp, k1, _⟩ := s.tr.fp e
    exact ⟨.ref a, k1, h2 (.ref a) G H s (Ex.refl _) fun b' s' d' q e' _ => ⟨a, k1, rfl⟩⟩
  · cases h1
/-- the class of that name holds no attribute of the name -/
def ClF (K : PySem.W.Frag) (c f : Str) : Prop := ∀ C, PySem.W.nsIn K mainGlobals c = some (some (.ref C)) → Cls K C ∧ NoAttr K C f
/-- x.f -/
def pF (i : Nat) (c f : Str) (m : M (List Pt)) : M (List Pt) := m.bnd fun π ρ => match trAt i π ρ with
  | some (.obj c' fs, .tup ds) => if c' = c ∧ (fldAt f fs ds).isSome = true then some (.ok (π ++ [.fld f]) ρ) else none
  | _ => none
theorem pl_fld {c f : Str} {m : M (List Pt)} (i : Nat) (hc : ClF X.K c f) (he : SPl X Xs W i e m) (hb : attributeBase e f X.env (eval e X.env) = eval e X.env := by rfl) : SPl X Xs W i (.Attribute e f pos) (pF i c f m) := by
  refine pe_imp (pe_fld he hb) fun σ H Q ⟨B, G, ρ, s, r, h1, h2⟩ => ?_
  unfold pF M.bnd at h1
  show rP X.K Xs W i m σ H _
  cases em : m ρ with
  | none => rw [em] at h1; cases h1
  | some q =>
    rw [em] at h1
    refine ⟨B, G, ρ, s, q, em, ?_⟩
    cases q with
    | ex c p ρ' => cases h1; exact h2
    | ok π ρ1 =>
      intro v G1 H1 s1 x1 at1
      dsimp only at h1
      split at h1
      · rename_i c' fs ds et
        obtain ⟨⟨rfl, hs⟩, rfl⟩ := ite_inv h1
        obtain ⟨b, sh, d, e1, e2⟩ := trAt_inv et
        obtain ⟨a, f1, k1, k2, k3, k4, _⟩ := s1.plc e1 e2 at1
        cases k4 with
        | obj g0 g1 g2 g3 g4 g5 g6 g7 g8 =>
          obtain ⟨⟨s2, d2⟩, ef⟩ := Option.isSome_iff_exists.mp hs
          obtain ⟨v2, f2, l1, _⟩ := g5.at_ ef
          obtain ⟨c1, c2⟩ := hc _ g0
          refine ⟨_, _, _, _, v2, rfl, g1, c1, c2, l1, h2 v2 G1 H1 s1 x1 fun b' s' d' q' e' hq => ⟨a, k1, ?_⟩⟩
          rw [valP_app, k2]
          simp only [Option.bind_some, val1, g1]; exact l1
      · cases h1
end
end Tk
/-! Places as expressions, further: x[e] of lists and dicts; what stands there as data. -/
namespace Tk
open PySem PySem.Spec PyProof.Rows L2 SX
section
variable {X : Cx} {Xs : List XC} {W : WX} {e a b c : Expr} {es : List Expr} {pos p : Pos} {x : Str}
def pIL (i : Nat) (π : List Pt) (k : D) : M (List Pt) := fun ρ => match trAt i π ρ, k with
  | some (.lst _, .lst ds), .int j => (match ixN ds.length j with
    | some n => some (.ok (π ++ [.idx n]) ρ)
    | none => none)
  | _, _ => none
def pID (i : Nat) (π : List Pt) (k : D) : M (List Pt) := fun ρ => match trAt i π ρ with
  | some (.dic _, .dic kvs) => if (getK k kvs).isSome = true then some (.ok (π ++ [.key k]) ρ) else none
  | _ => none
/-- behind the place π of x: n, while the tree is locked; then f -/
noncomputable def thenP {α β : Type} (i : Nat) (n : M α) (f : α → M β) : M β := (lk i n).bnd f
noncomputable def pIxL (i : Nat) (m : M (List Pt)) (n : M D) : M (List Pt) := m.bnd fun π => thenP i n (pIL i π)
noncomputable def pIxD (i : Nat) (m : M (List Pt)) (n : M D) : M (List Pt) := m.bnd fun π => thenP i n (pID i π)
/-- what was resolved ahead of the lock still stands there -/
theorem SR.plc2 {K : PySem.W.Frag} {B : Bs} {σ : L2.St} {G H H' : Hp} {ρ ρ' : Cs} {i : Nat} {π : List Pt} {v : V} (s : SR K B σ G H ρ) (at1 : AtP H σ ρ i π v) (k : ∀ x ∈ fpAt H σ ρ i, H' x = H x) (e : ρ'[i]? = ρ[i]?) : AtP H' σ ρ' i π v := by
  intro b sh d q h1 h2
  rw [e] at h1
  obtain ⟨a, q1, q2⟩ := at1 b sh d q h1 h2
  obtain ⟨a', fp, k1, k2, k3, _⟩ := s.tr.fp h1
  rw [q1] at k1; cases k1
  refine ⟨a, q1, ?_⟩
  rw [k2.valP_same (fun x hx => k x (by rw [k3]; exact hx)) h2]
  exact q2
theorem thenP_do {K : PySem.W.Frag} {α : Type} {n : M D} {f : D → M α} {B : Bs} {σ : L2.St} {G H : Hp} {ρ : Cs} {i : Nat} {π : List Pt} {v : V} {r : R α} {Q : V → Hp → Prop} (s : SR K B σ G H ρ) (at1 : AtP H σ ρ i π v) (h : thenP i n f ρ = some r)
    (q : ∀ d ρ' w G' H', SR K B σ G' H' ρ' → Ex G G' → Rep K G' w d → AtP H' σ ρ' i π v → f d ρ' = some r → Q w H')
    (qx : ∀ c p ρ', r = .ex c p ρ' → ∀ G' H', SR K B σ G' H' ρ' → XP K Xs B G' H' c p fun cls dd => W cls dd σ H') : rX K Xs W (RlE K) n σ H Q := by
  unfold thenP M.bnd at h
  cases el : lk i n ρ with
  | none => rw [el] at h; cases h
  | some r' =>
    rw [el] at h
    cases r' with
    | ok d ρ' =>
      exact lk_do s el fun w G' H' s' x' rw' k e => q d ρ' w G' H' s' x' rw' (s.plc2 at1 k e) h
    | ex c p ρ' =>
      cases h
      exact lk_do s el fun G' H' s' => qx c p ρ' rfl G' H' s'
theorem pl_ixL {m : M (List Pt)} {n : M D} (i : Nat) (he : SPl X Xs W i a m) (hb : SE X Xs W b n) (hs : PlainIx b) : SPl X Xs W i (.Subscript a b pos) (pIxL i m n) := by
  refine pe_imp (pe_ix ix_list he hb hs) fun σ H Q ⟨B, G, ρ, s, r, h1, h2⟩ => ?_
  unfold pIxL at h1
  show rP X.K Xs W i m σ H _
  cases em : m ρ with
  | none => unfold M.bnd at h1; rw [em] at h1; cases h1
  | some q =>
    unfold M.bnd at h1
    rw [em] at h1
    refine ⟨B, G, ρ, s, q, em, ?_⟩
    cases q with
    | ex c p ρ' => cases h1; exact h2
    | ok π ρ1 =>
      intro v G1 H1 s1 x1 at1
      dsimp only at h1
      refine thenP_do s1 at1 h1 (fun k ρ2 w G2 H2 s2 x2 rk at2 h3 => ?_) (fun c p ρ' er => by subst er; exact h2)
      unfold pIL at h3
      split at h3
      · rename_i sh ds j et
        split at h3
        · rename_i nn en
          cases h3
          cases rk
          obtain ⟨b', sh', d', e1, e2⟩ := trAt_inv et
          obtain ⟨a', f1, k1, k2, k3, k4, _⟩ := s2.plc e1 e2 at2
          cases k4 with
          | lst g1 g2 g3 g4 =>
            rename_i a1 vs fp u1
            have hn : nn < ds.length := (ixN_seq en).2.1
            obtain ⟨v2, f2, l1, _⟩ := g3.at_ (n := nn) (d := ds[nn]) (by simp [hn])
            refine ⟨a1, vs, j, v2, rfl, rfl, .inl (.inl g1), ?_, h2 v2 G2 H2 s2 (x1.trans x2) fun b2 s2' d2 q' e' hq => ⟨a', k1, ?_⟩⟩
            · unfold atI
              rw [g3.length, en]; exact l1
            · rw [valP_app, k2]
              simp only [Option.bind_some, val1, g1]; exact l1
        · cases h3
      · cases h3
theorem pl_ixD {m : M (List Pt)} {n : M D} (i : Nat) (hu : X.A.units + 1 < cLine) (he : SPl X Xs W i a m) (hb : SE X Xs W b n) (hs : NoSl b) : SPl X Xs W i (.Subscript a b pos) (pIxD i m n) := by
  refine pe_imp (pe_dget hu he hb hs) fun σ H Q ⟨B, G, ρ, s, r, h1, h2⟩ => ?_
  unfold pIxD at h1
  show rP X.K Xs W i m σ H _
  cases em : m ρ with
  | none => unfold M.bnd at h1; rw [em] at h1; cases h1
  | some q =>
    unfold M.bnd at h1
    rw [em] at h1
    refine ⟨B, G, ρ, s, q, em, ?_⟩
    cases q with
    | ex c p ρ' => cases h1; exact h2
    | ok π ρ1 =>
      intro v G1 H1 s1 x1 at1
      dsimp only at h1
      refine thenP_do s1 at1 h1 (fun k ρ2 w G2 H2 s2 x2 rk at2 h3 => ?_) (fun c p ρ' er => by subst er; exact h2)
      unfold pID at h3
      split at h3
      · rename_i sh kvs et
        obtain ⟨hk, h3⟩ := ite_inv h3
        cases h3
        obtain ⟨d0, ek⟩ := Option.isSome_iff_exists.mp hk
        obtain ⟨b', sh', d', e1, e2⟩ := trAt_inv et
        obtain ⟨a', f1, k1, k2, k3, k4, _⟩ := s2.plc e1 e2 at2
        cases k4 with
        | dic g1 g2 g3 g4 g5 =>
          rename_i a1 vs fp u1
          obtain ⟨kk, v2, f2, l0, l1, _⟩ := g3.at_ ek
          have hw : w = kV kk := by
            cases k <;> cases l0 <;> cases rk <;> rfl
          subst hw
          refine ⟨a1, v2, rfl, l1 ▸ DGet.k g1, h2 v2 G2 H2 s2 (x1.trans x2) fun b2 s2' d2 q' e' hq => ⟨a', k1, ?_⟩⟩
          rw [valP_app, k2]
          simp only [Option.bind_some, val1, g1, l0]; exact l1
      · cases h3
/-- what stands at the place, as data -/
def mPl (i : Nat) (m : M (List Pt)) : M D := m.bnd fun π ρ => match trAt i π ρ with
  | some (.fz, d) => some (.ok d ρ)
  | _ => none
theorem se_pl {m : M (List Pt)} (i : Nat) (he : SPl X Xs W i e m) : SE X Xs W e (mPl i m) := by
  refine pe_imp he fun σ H Q ⟨B, G, ρ, s, r, h1, h2⟩ => ?_
  unfold mPl M.bnd at h1
  cases em : m ρ with
  | none => rw [em] at h1; cases h1
  | some q =>
    rw [em] at h1
    refine ⟨B, G, ρ, s, q, em, ?_⟩
    cases q with
    | ex c p ρ' => cases h1; exact h2
    | ok π ρ1 =>
      intro v G1 H1 s1 x1 at1
      dsimp only at h1
      split at h1
      · rename_i d et
        cases h1
        obtain ⟨b', sh', d', e1, e2⟩ := trAt_inv et
        obtain ⟨a', f1, k1, k2, k3, k4, _⟩ := s1.plc e1 e2 at1
        cases k4 with
        | fz r => exact h2 v G1 H1 s1 x1 r
      · cases h1
end
end Tk
/-! Own trees are changed at a place. -/
namespace Tk
open PySem PySem.Spec PyProof.Rows L2 SX
section
variable {K : PySem.W.Frag} {B : Bs} {σ : L2.St} {G H : Hp} {ρ : Cs}
/-- the object at a place is written -/
theorem SR.pw (s : SR K B σ G H ρ) {i : Nat} {b : Bool} {sh s1 s2 sh' : Sh} {t d1 d2 t' : D} {π : List Pt} {a1 : Addr} (hi : ρ[i]? = some (.tr (b, false) sh t)) (hg : getP π sh t = some (s1, d1)) (hv : AtP H σ ρ i π (.ref a1)) (o' : HO) (hset : Tk.setP s2 d2 π sh t = some (sh', t'))
    (w : ∀ f1, Own K G H s1 (.ref a1) d1 f1 → (∀ x ∈ f1, x ∈ fpAt H σ ρ i) → a1 ∈ f1 ∧ ∃ f2, Own K G (upd H a1 o') s2 (.ref a1) d2 f2 ∧ ∀ x ∈ f2, x ∈ f1 ∨ NewO B σ G H ρ x) : SR K B σ G (upd H a1 o') (ρ.set i (.tr (b, false) sh' t')) := by
  obtain ⟨a, f1, k1, k2, k3, k4, k5, k6⟩ := s.plc hi hg hv
  obtain ⟨m1, f2, m2, m3⟩ := w f1 k4 k5
  obtain ⟨⟨u, hu, _⟩, hgn⟩ := k4.objs a1 m1
  obtain ⟨fp', q1, q2⟩ := k6 (upd H a1 o') s2 d2 f2 sh' t' (fun x _ nx => upd_ne fun z => nx (z ▸ m1)) m2 (fun x hx => (m3 x hx).imp id fun z => z.2.2.2.2 i) hset
  refine s.tw hi k1 ((Fr.write s.ex hgn hu).more fun x hx => ?_) q1 fun x hx => ?_
  · have : x = a1 := by simpa using hx
    rw [this]; exact k5 a1 m1
  · rcases q2 x hx with z | z
    · exact .inl z.1
    · exact (m3 x z).imp (k5 x) id
end
section
variable {X : Cx} {Xs : List XC} {W : WX} {e a b c : Expr} {es : List Expr} {pos p apos cpos spos pos' : Pos} {x f : Str}
/-- d is put behind the list at π -/
def appT (i : Nat) (π : List Pt) (d : D) : MS := fun ρ => match ρ[i]? with
  | some (.tr (b, false) sh t) => (match getP π sh t with
    | some (.lst .fz, .lst ds) => if ds.length < sizeLine then (match setP (.lst .fz) (.lst (ds ++ [d])) π sh t with
      | some q => some (.nx (ρ.set i (.tr (b, false) q.1 q.2)))
      | none => none) else none
    | _ => none)
  | _ => none
def isLstP (i : Nat) (π : List Pt) (ρ : Cs) : Bool := match trAt i π ρ with | some (.lst _, .lst _) => true | _ => false
noncomputable def appP (i : Nat) (m : M (List Pt)) (n : M D) : MS := ev m fun π ρ => if isLstP i π ρ = true then ev (lk i n) (appT i π) ρ else none
theorem rS_evP {K : PySem.W.Frag} {i : Nat} {m : M (List Pt)} {k : List Pt → MS} {D' : Ends} {σ : L2.St} {H : Hp} {Rn : V → Hp → Prop} (h : rS K Xs W (ev m k) D' σ H)
    (f : ∀ B v H1 π G1 ρ1 r, SR K B σ G1 H1 ρ1 → AtP H1 σ ρ1 i π v → k π ρ1 = some r → PostS K Xs W B D' r → Rn v H1) : rP K Xs W i m σ H Rn := by
  obtain ⟨B, G, ρ, r, s, h1, h2⟩ := h
  unfold Tk.ev at h1
  cases e : m ρ with
  | none => rw [e] at h1; cases h1
  | some q =>
    rw [e] at h1
    refine ⟨B, G, ρ, s, q, e, ?_⟩
    cases q with
    | ok π ρ1 => exact fun v G' H' s' x y => f B v H' π G' ρ1 r s' y h1 h2
    | ex c p ρ1 => cases h1; exact fun G' H' s' => h2 σ G' H' s'
/-- behind a place: n while the tree is locked, then a statement's rest -/
theorem lkS {K : PySem.W.Frag} {n : M D} {k : D → MS} {D' : Ends} {B : Bs} {σ : L2.St} {G H : Hp} {ρ : Cs} {i : Nat} {π : List Pt} {v : V} {r : RS} {Q : V → Hp → Prop} (s : SR K B σ G H ρ) (at1 : AtP H σ ρ i π v) (h : ev (lk i n) k ρ = some r) (post : PostS K Xs W B D' r)
    (q : ∀ d ρ' w G' H', SR K B σ G' H' ρ' → Ex G G' → Rep K G' w d → AtP H' σ ρ' i π v → k d ρ' = some r → Q w H') : rX K Xs W (RlE K) n σ H Q := by
  unfold ev at h
  cases el : lk i n ρ with
  | none => rw [el] at h; cases h
  | some r' =>
    rw [el] at h
    cases r' with
    | ok d ρ' => exact lk_do s el fun w G' H' s' x' rw' k e => q d ρ' w G' H' s' x' rw' (s.plc2 at1 k e) h
    | ex c p ρ' =>
      cases h
      exact lk_do s el fun G' H' s' => post σ G' H' s'
theorem ss_appP {m : M (List Pt)} {n : M D} (i : Nat) (ho : SPl X Xs W i a m) (ha : SE X Xs W e n)
    (hbase : attributeBase a "append" X.env (eval a X.env) = eval a X.env := by rfl)
    (hfew : ((backTo cpos (starEach [e] X.env)).all (fun x => !x.1) && (backToKw cpos (keywordEach [] X.env)).all (fun x => x.1.isSome)
      && decide ([e].length + ([] : List Keyword).length + (if ([] : List Keyword).isEmpty then 0 else 1) < 30)) = true := by rfl)
    (hline : (apos.endLine == cpos.line) = true := by rfl) (hs : starEach [e] X.env = (false, eval e X.env) :: starEach [] X.env := by rfl) (hsw : swapsWith (.Call (.Attribute a "append" apos) [e] [] cpos) none spos.line X.env = pure false := by rfl) :
    SS X Xs W (.Expr (.Call (.Attribute a "append" apos) [e] [] cpos) spos) (appP i m n) := by
  refine ps_imp (ps_expr (pe_bm F.plainAttrs_list F.slot_list_append F.type_list_append mt_append ho (pa_cons ha pa_nil hs) hbase hfew hline hs rfl) hsw) fun D' σ H h => ?_
  refine rS_evP h fun B v H1 π G1 ρ1 r s1 at1 h3 h4 => ?_
  by_cases hl : isLstP i π ρ1 = true
  · rw [if_pos hl] at h3
    unfold isLstP at hl
    split at hl
    · rename_i s0 ds0 et
      obtain ⟨b0, sh0, t0, e1, e2⟩ := trAt_inv et
      obtain ⟨a', f1, k1, k2, k3, k4, _⟩ := s1.plc e1 e2 at1
      cases k4 with
      | lst g1 g2 g3 g4 =>
        rename_i a1 vs0 fp u1
        refine ⟨.inl ⟨rfl, vs0, .inl (.inl g1)⟩, ?_⟩
        refine lkS s1 at1 h3 h4 fun d ρ2 w G2 H2 s2 x2 rw2 at2 h5 => ?_
        unfold appT at h5
        split at h5
        · rename_i b sh t e3
          split at h5
          · rename_i ds e4
            by_cases hz : ds.length < sizeLine
            case neg => rw [if_neg hz] at h5; cases h5
            rw [if_pos hz] at h5
            split at h5
            · rename_i q e5
              cases h5
              obtain ⟨_, f2, _, _, _, m4, _⟩ := s2.plc e3 e4 at2
              cases m4 with
              | lst r1 r2 r3 r4 =>
                rename_i vs fp2 u2
                refine ⟨a1, vs, w, rfl, rfl, r1, by rw [r3.length]; exact hz, ?_⟩
                refine h4 σ G2 _ (s2.pw e3 e4 at2 (.lst (vs ++ [w])) e5 fun f3 o3 _ => ?_)
                cases o3 with
                | lst n1 n2 n3 n4 =>
                  rw [r1] at n1; cases n1
                  have o4 : Own X.K G2 (upd H2 a1 (.lst (vs ++ [w]))) (.lst .fz) (.ref a1) (.lst (ds ++ [d])) _ := .lst upd_same n2 ((n3.keep (Ex.refl _) fun x hx => ⟨upd_ne fun (z : x = a1) => n4 (z ▸ hx), (n3.objs x hx).2⟩).append (.fz rw2) Dj.nil) (by rw [List.append_nil]; exact n4)
                  exact ⟨.head _, _, o4, fun x hx => .inl (by rw [List.append_nil] at hx; exact hx)⟩
            · cases h5
          · cases h5
        · cases h5
    · cases hl
  · rw [if_neg hl] at h3; cases h3
/-! ### x[k] = e at a place: a list -/
def setT (i : Nat) (π : List Pt) (v : D) (k : D) : MS := fun ρ => match ρ[i]?, k with
  | some (.tr (b, false) sh t), .int j => (match getP π sh t with
    | some (.lst .fz, .lst ds) => (match ixN ds.length j with
      | some nn => (match setP (.lst .fz) (.lst (ds.set nn v)) π sh t with
        | some q => some (.nx (ρ.set i (.tr (b, false) q.1 q.2)))
        | none => none)
      | none => none)
    | _ => none)
  | _, _ => none
noncomputable def setPL (i : Nat) (mv : M D) (m : M (List Pt)) (n : M D) : MS := ev mv fun v => ev m fun π ρ => if isLstP i π ρ = true then ev (lk i n) (setT i π v) ρ else none
/-- behind a value: a place, then a statement's rest -/
theorem plS {K : PySem.W.Frag} {m : M (List Pt)} {k : List Pt → MS} {D' : Ends} {B : Bs} {σ : L2.St} {G H : Hp} {ρ : Cs} {i : Nat} {r : RS} {Q : V → Hp → Prop} (s : SR K B σ G H ρ) (h : ev m k ρ = some r) (post : PostS K Xs W B D' r)
    (q : ∀ v H1 π G1 ρ1, SR K B σ G1 H1 ρ1 → Ex G G1 → AtP H1 σ ρ1 i π v → k π ρ1 = some r → Q v H1) : rP K Xs W i m σ H Q := by
  unfold ev at h
  cases e : m ρ with
  | none => rw [e] at h; cases h
  | some q' =>
    rw [e] at h
    refine ⟨B, G, ρ, s, q', e, ?_⟩
    cases q' with
    | ok π ρ1 => exact fun v G' H' s' x y => q v H' π G' ρ1 s' x y h
    | ex c p ρ1 => cases h; exact fun G' H' s' => post σ G' H' s'
theorem ss_setPL {mv : M D} {m : M (List Pt)} {n : M D} {k : Expr} (i : Nat) (ho : SPl X Xs W i a m) (he : SE X Xs W e mv) (hk : SE X Xs W k n)
    (ha : ∀ v, assign (.Subscript a k spos) X.env v = (do
      let ov ← holding [v] (eval a X.env)
      let iv ← holding [v, ov] (eval k X.env)
      standAt spos
      holding [v, ov, iv] (setItem ov iv v)
      release [v, ov, iv] []) := by intro _; rfl)
    (hs : swapsWithSole [.Subscript a k spos] e pos.line X.env = pure false := by rfl) (hw : swappedStores [.Subscript a k spos] e X.env = pure none := by rfl)
    (h1 : (assignEach [.Subscript a k spos] X.env).map (·.2) = [assign (.Subscript a k spos) X.env] := by rfl) : SS X Xs W (.Assign [.Subscript a k spos] e pos) (setPL i mv m n) := by
  refine ps_imp (ps_asg he (pg_sub ho hk set_list ha) hs hw h1) fun D' σ H h => ?_
  refine h.ev (Rl := RlE X.K) fun B y H1 d G1 ρ1 r s1 ry h3 h4 => ?_
  refine plS s1 h3 h4 fun v H2 π G2 ρ2 s2 x2 at2 h5 => ?_
  by_cases hl : isLstP i π ρ2 = true
  case neg => rw [if_neg hl] at h5; cases h5
  rw [if_pos hl] at h5
  refine lkS s2 at2 h5 h4 fun kk ρ3 w G3 H3 s3 x3 rw3 at3 h6 => ?_
  unfold setT at h6
  split at h6
  · rename_i b sh t j e3
    split at h6
    · rename_i ds e4
      split at h6
      · rename_i nn en
        split at h6
        · rename_i q e5
          cases h6
          cases rw3
          obtain ⟨_, f2, _, _, _, m4, _⟩ := s3.plc e3 e4 at3
          cases m4 with
          | lst r1 r2 r3 r4 =>
            rename_i a1 vs fp2 u2 u3
            refine ⟨a1, vs, j, nn, rfl, rfl, r1, by rw [r3.length]; exact en, ?_⟩
            refine h4 σ G3 _ (s3.pw e3 e4 at3 (.lst (vs.set nn y)) e5 fun f3 o3 _ => ?_)
            cases o3 with
            | lst n1 n2 n3 n4 =>
              rw [r1] at n1; cases n1
              rename_i fp3 u3
              have hn : nn < ds.length := (ixN_seq en).2.1
              obtain ⟨v0, f0, l1, l2, l3, l4⟩ := n3.at_ (n := nn) (d := ds[nn]) (by simp [hn])
              obtain ⟨fp', q1, q2⟩ := l4 (upd H3 a1 (.lst (vs.set nn y))) y d [] (fun x hx _ => upd_ne fun (z : x = a1) => n4 (z ▸ hx)) (.fz (ry.mono (x2.trans x3))) (fun x hx => nomatch hx)
              have sub : ∀ x ∈ fp', x ∈ _ := fun x hx => (q2 x hx).elim (fun z => z.1) (fun z => nomatch z)
              exact ⟨.head _, _, .lst upd_same n2 q1 (fun z => n4 (sub _ z)), fun x hx => .inl (by
                rcases List.mem_cons.mp hx with e | hx
                · rw [e]; exact .head _
                · exact .tail _ (sub x hx))⟩
        · cases h6
      · cases h6
    · cases h6
  · cases h6
/-! ### x.f = e at a place -/
def isObjP (i : Nat) (π : List Pt) (ρ : Cs) : Bool := match trAt i π ρ with | some (.obj _ _, .tup _) => true | _ => false
/-- the field takes data -/
def fldT (i : Nat) (c f : Str) (π : List Pt) (v : D) : MS := fun ρ => match ρ[i]? with
  | some (.tr (b, false) sh t) => (match getP π sh t with
    | some (.obj c' fs, .tup ds) => if c' = c ∧ ds.length < 1000 then (match fldSet f .fz v fs ds with
      | some fq => (match setP (.obj c' fq.1) (.tup fq.2) π sh t with
        | some q => some (.nx (ρ.set i (.tr (b, false) q.1 q.2)))
        | none => none)
      | none => none) else none
    | _ => none)
  | _ => none
def setPF (i : Nat) (c f : Str) (mv : M D) (m : M (List Pt)) : MS := ev mv fun v => ev m fun π => fldT i c f π v
theorem OwnF.length {K : PySem.W.Frag} {G H : Hp} : ∀ {r : Fs} {vs : List (Str × V)} {ds : List D} {fp : List Addr}, OwnF K G H r vs ds fp → vs.length = ds.length
  | _, _, _, _, .nil => rfl
  | _, _, _, _, .cons _ r _ => congrArg (· + 1) (OwnF.length r)
theorem fld_own {K : PySem.W.Frag} {B : Bs} {σ : L2.St} {G H : Hp} {ρ : Cs} {c f : Str} {fs : Fs} {ds : List D} {a1 C dx : Addr} {vs : List (Str × V)} {y : V} {d : D} {fq : Fs × List D} {f3 : List Addr} (o3 : Own K G H (.obj c fs) (.ref a1) (.tup ds) f3) (g1 : H a1 = some (.ins C dx vs)) (ef : fldSet f .fz d fs ds = some fq) (ry : Rep K G y d) :
    a1 ∈ f3 ∧ ∃ f2, Own K G (upd H a1 (.ins C dx (putF f y vs))) (.obj c fq.1) (.ref a1) (.tup fq.2) f2 ∧ ∀ x ∈ f2, x ∈ f3 ∨ NewO B σ G H ρ x := by
  cases o3 with
  | obj n0 n1 n2 n3 n4 n5 n6 n7 n8 =>
    rw [g1] at n1; cases n1
    have kp := n5.keep (H' := upd H a1 (.ins C dx (putF f y vs))) (Ex.refl G) fun x hx => ⟨upd_ne fun (z : x = a1) => n6 (z ▸ hx), (n5.objs x hx).2⟩
    obtain ⟨q, fp', q0, q1, q2⟩ := kp.put (f := f) (s2 := .fz) (.fz ry) (Dj.nil)
    rw [ef] at q0; cases q0
    have sub : ∀ x ∈ fp', x ∈ _ := fun x hx => (q2 x hx).elim id (fun z => nomatch z)
    refine ⟨.head _, _, .obj n0 upd_same ((upd_ne (Ne.symm n8)).trans n2) n3 n4 q1 (fun z => n6 (sub _ z)) (fun z => n7 (sub _ z)) n8, fun x hx => .inl ?_⟩
    rcases List.mem_cons.mp hx with e | hx
    · rw [e]; exact .head _
    · rcases List.mem_cons.mp hx with e | hx
      · rw [e]; exact .tail _ (.head _)
      · exact .tail _ (.tail _ (sub x hx))
theorem ss_setPF {c f : Str} {mv : M D} {m : M (List Pt)} (i : Nat) (hc : ClF X.K c f) (ho : SPl X Xs W i a m) (he : SE X Xs W e mv) (hs : swapsWith e (some (.Attribute a f pos')) pos.line X.env = pure false := by rfl) : SS X Xs W (.Assign [.Attribute a f pos'] e pos) (setPF i c f mv m) := by
  refine ps_imp (ps_fld ho he hs) fun D' σ H h => ?_
  refine h.ev (Rl := RlE X.K) fun B y H1 d G1 ρ1 r s1 ry h3 h4 => ?_
  refine plS s1 h3 h4 fun v H2 π G2 ρ2 s2 x2 at2 h6 => ?_
  unfold fldT at h6
  split at h6
  · rename_i b sh t e3
    split at h6
    · rename_i c' fs ds e4
      by_cases hz : c' = c ∧ ds.length < 1000
      case neg => rw [if_neg hz] at h6; cases h6
      rw [if_pos hz] at h6
      obtain ⟨rfl, hz⟩ := hz
      split at h6
      · rename_i fq ef
        split at h6
        · rename_i q e5
          cases h6
          obtain ⟨_, f2, _, _, _, m4, _⟩ := s2.plc e3 e4 at2
          cases m4 with
          | obj g0 g1 g2 g3 g4 g5 g6 g7 g8 =>
            rename_i C a1 dx vs fp2 u2 u3
            obtain ⟨c1, c2⟩ := hc _ g0
            refine ⟨a1, C, dx, vs, rfl, g1, c1, c2, by rw [g5.length]; exact hz, ?_⟩
            exact h4 σ G2 _ (s2.pw e3 e4 at2 (.ins C dx (putF f y vs)) e5 fun f3 o3 _ => fld_own o3 g1 ef (ry.mono x2))
        · cases h6
      · cases h6
    · cases h6
  · cases h6
end
end Tk
/-! Calls of methods upon own trees. -/
namespace Tk
open PySem PySem.Spec PyProof.Rows L2 SX
def tMethS (C : Addr) (m : Str) (sp : Sp) (E : L2.St → XK) (ta : TE) (t : TA) : TE := fun σ H Q => ta σ H fun x H1 => ∃ a dx fs, x = .ref a ∧ H1 a = some (.ins C dx fs) ∧ fs.lookup m = none ∧
  t σ H1 fun vs H2 => sp (x :: vs) H2 Q (E σ)
section
variable {X : Cx} {CX : CXT} {k : Nat} {f C : Addr} {fd : FuncData} {ps : List Str} {sp : Sp} {E : L2.St → XK} {x m : Str} {p pos apos : Pos} {e o : Expr} {es : List Expr} {ta : TE} {t : TA}
theorem pe_methW {pl : Sem Bool} (he : PE X o ta) (c : Cls X.K C) (hm : Meth X.K C m f) (F : FnOk X.prog X.w X.K X.mg X.base CX k f fd ps sp) (hr : Room k X.A) (hb : Binds X.K fd ps []) (hx : ∀ σ, PassesAt CX X σ (E σ)) (ha : PA X (e :: es) t)
    (hst : starEach (e :: es) X.env = (false, eval e X.env) :: starEach es X.env := by rfl) (hpl : (backTo pos (starEach es X.env)).any (·.1) = false := by rfl)
    (ht : eval (.Call (.Attribute o m apos) (e :: es) [] pos) X.env = (do
      let ov ← eval o X.env
      standAt apos.atName
      let (f, first) ← holding [ov] (getMethod ov m pl)
      callWith pos f first (backTo pos (starEach (e :: es) X.env)) (backToKw pos (keywordEach [] X.env))) := by rfl) :
    PE X (.Call (.Attribute o m apos) (e :: es) [] pos) (tMethS C m sp E ta t) := by
  refine ⟨fun pins s σ H Q I h => ?_⟩
  refine PySem.W.methodCall_KW (pl := pl) (thn (he.run pins s σ H _ I h) fun u s1 ⟨x, H1, I1, rx, a, dx, fs, ex, ea, l, q⟩ => ?_) ht
  subst ex
  obtain rfl : u = Value.ref a := rx
  refine getmeth_ok I1 ea c hm l ?_
  refine PySem.W.callWith_K (first := [.ref a]) (h₀ := X.base) I.ok.mod.kin hm.kp (thn (ha.run pos pins s1 σ H1 _ I1 q) fun us s2 ⟨vs, H2, I2, r, q2⟩ => ⟨I2.kIn, ?_⟩) hst hpl
  exact run_fnS (us := .ref a :: us) (vs := .ref a :: vs) F hr hb (hx σ) I2 (.cons rfl r) q2
theorem pe_methW0 {pl : Sem Bool} (he : PE X o ta) (c : Cls X.K C) (hm : Meth X.K C m f) (F : FnOk X.prog X.w X.K X.mg X.base CX k f fd ps sp) (hr : Room k X.A) (hb : Binds X.K fd ps []) (hx : ∀ σ, PassesAt CX X σ (E σ))
    (ht : eval (.Call (.Attribute o m apos) [] [] pos) X.env = (do
      let ov ← eval o X.env
      standAt apos.atName
      let (f, first) ← holding [ov] (getMethod ov m pl)
      callWith pos f first (backTo pos (starEach [] X.env)) (backToKw pos (keywordEach [] X.env))) := by rfl) :
    PE X (.Call (.Attribute o m apos) [] [] pos) (tMethS C m sp E ta tNil) := by
  refine ⟨fun pins s σ H Q I h => ?_⟩
  refine PySem.W.methodCall_KW (pl := pl) (thn (he.run pins s σ H _ I h) fun u s1 ⟨x, H1, I1, rx, a, dx, fs, ex, ea, l, q⟩ => ?_) ht
  subst ex
  obtain rfl : u = Value.ref a := rx
  refine getmeth_ok I1 ea c hm l ?_
  exact PySem.W.callWith_K0 (first := [.ref a]) I1.kIn hm.kp (run_fnS (us := [.ref a]) (vs := [.ref a]) F hr hb (hx σ) I1 (.cons rfl .nil) q)
end
/-- the method m of the class c -/
structure CalM (X : Cx) (Xs : List XC) (c m : Str) (F : FnD) : Prop where
  run : ∃ (C : Addr) (k : Nat) (f : Addr) (fd : FuncData) (ps : List Str), PySem.W.nsIn X.K mainGlobals c = some (some (.ref C)) ∧ Cls X.K C ∧ Meth X.K C m f ∧ FnOk X.prog X.w X.K X.mg X.base (L2.CX X.prog X.w) k f fd ps (spF X.K Xs F) ∧ Room k X.A ∧ Binds X.K fd ps []
theorem OwnF.no {K : PySem.W.Frag} {G H : Hp} {m : Str} : ∀ {r : Fs} {vs : List (Str × V)} {ds : List D} {fp : List Addr}, OwnF K G H r vs ds fp → fldAt m r ds = none → vs.lookup m = none
  | _, _, _, _, .nil, _ => rfl
  | _, _, _, _, .cons (x := y) a t j, e => by
    rw [fldAt] at e
    by_cases hs : y = m
    · rw [if_pos hs] at e; cases e
    · rw [if_neg hs] at e
      have hb : (m == y) = false := beq_eq_false_iff_ne.mpr (Ne.symm hs)
      have := OwnF.no t e
      simpa [List.lookup, hb] using this
def isCls (i : Nat) (c m : Str) (ρ : Cs) : Bool := match trAt i [] ρ with
  | some (.obj c' fs, .tup ds) => decide (c' = c) && (fldAt m fs ds).isNone
  | _ => false
/-- x.m(..), x our own instance -/
def mMet (i : Nat) (c m : Str) (F : FnD) (ms : M (List Arg)) : M D := fun ρ => if isCls i c m ρ = true then mCall F (aT i ms) ρ else none
section
variable {X : Cx} {Xs : List XC} {W : WX} {e a b c : Expr} {es : List Expr} {pos p apos cpos spos pos' : Pos} {x f m : Str} {cl : Str}
theorem isCls_is {K : PySem.W.Frag} {B : Bs} {σ : L2.St} {G H : Hp} {ρ : Cs} {i : Nat} {C : Addr} (s : SR K B σ G H ρ) (hC : PySem.W.nsIn K mainGlobals cl = some (some (.ref C))) (h : isCls i cl m ρ = true) : ∃ a dx vs b sh d, σ[i]? = some (some (.ref a)) ∧ H a = some (.ins C dx vs) ∧ vs.lookup m = none ∧ ρ[i]? = some (.tr b sh d) := by
  unfold isCls at h
  split at h
  · rename_i c' fs ds et
    rw [Bool.and_eq_true] at h
    obtain ⟨h1, h2⟩ := h
    have e := of_decide_eq_true h1
    subst e
    obtain ⟨b, sh, d, e1, e2⟩ := trAt_inv et
    cases e2
    obtain ⟨a, fp, k1, k2, _⟩ := s.tr.fp e1
    cases k2 with
    | obj g0 g1 g2 g3 g4 g5 g6 g7 g8 =>
      rw [hC] at g0; cases g0
      exact ⟨_, _, _, b, _, _, k1, g1, g5.no (by simpa using h2), e1⟩
  · cases h
theorem se_met {F : FnD} {ms : M (List Arg)} {pl : Sem Bool} (i : Nat) (C : CalM X Xs cl m F) (tk : Takes X W) (hN : X.N[i]? = some x) (hv : Vis X.env.scope x) (ha : SR' X Xs W (e :: es) ms) (hfr : F.fr = false := by rfl) (hd : (x == ("__debug__" : Str)) = false := by decide) (hcd : (x == ("__classdict__" : Str)) = false := by decide)
    (hst : starEach (e :: es) X.env = (false, eval e X.env) :: starEach es X.env := by rfl) (hpl : (backTo pos (starEach es X.env)).any (·.1) = false := by rfl)
    (ht : eval (.Call (.Attribute (.Name x p) m apos) (e :: es) [] pos) X.env = (do
      let ov ← eval (.Name x p) X.env
      standAt apos.atName
      let (f, first) ← holding [ov] (getMethod ov m pl)
      callWith pos f first (backTo pos (starEach (e :: es) X.env)) (backToKw pos (keywordEach [] X.env))) := by rfl) :
    SE X Xs W (.Call (.Attribute (.Name x p) m apos) (e :: es) [] pos) (mMet i cl m F ms) := by
  obtain ⟨C, k, f, fd, ps, hC, hc, hm, F1, hr, hb⟩ := C.run
  refine pe_imp (pe_methW (pl := pl) (pe_ref (i := i) hN hv hd hcd) hc hm F1 hr hb (fun σ => passAt tk σ) ha hst hpl ht) fun σ H Q ⟨B, G, ρ, s, r, h1, h2⟩ => ?_
  unfold mMet at h1
  by_cases hi : isCls i cl m ρ = true
  case neg => rw [if_neg hi] at h1; cases h1
  rw [if_pos hi] at h1
  obtain ⟨a, dx, vs, b, sh, d, k1, k2, k3, k4⟩ := isCls_is s hC hi
  refine ⟨.ref a, k1, a, dx, vs, rfl, k2, k3, ?_⟩
  unfold mCall at h1
  have h0 : aT i ms ρ = (ms.bnd fun as => M.ret (.o i :: as)) ρ := by unfold aT; rw [k4]
  unfold M.bnd at h1
  rw [h0] at h1
  show rX X.K Xs W (RlR X.K) ms σ H _
  unfold M.bnd at h1
  cases em : ms ρ with
  | none => rw [em] at h1; cases h1
  | some q =>
    rw [em] at h1
    refine ⟨B, G, ρ, s, q, em, ?_⟩
    cases q with
    | ex c p ρ1 => cases h1; exact h2
    | ok as ρ1 =>
      intro us G1 H1 s1 e1 ra
      have h3 : callK F (.o i :: as) ρ1 = some r := h1
      refine call_conv s1 (.o k1 ra) h3 (fun d ρ' er v G' H' s' x' hv => ?_) (fun c p ρ' er G' H' s' => ?_)
      · subst er
        rw [if_neg (by rw [hfr]; decide)] at hv
        exact h2 v G' H' s' (e1.trans x') hv
      · subst er
        exact h2 G' H' s'
theorem se_met0 {F : FnD} {pl : Sem Bool} (i : Nat) (C : CalM X Xs cl m F) (tk : Takes X W) (hN : X.N[i]? = some x) (hv : Vis X.env.scope x) (hfr : F.fr = false := by rfl) (hd : (x == ("__debug__" : Str)) = false := by decide) (hcd : (x == ("__classdict__" : Str)) = false := by decide)
    (ht : eval (.Call (.Attribute (.Name x p) m apos) [] [] pos) X.env = (do
      let ov ← eval (.Name x p) X.env
      standAt apos.atName
      let (f, first) ← holding [ov] (getMethod ov m pl)
      callWith pos f first (backTo pos (starEach [] X.env)) (backToKw pos (keywordEach [] X.env))) := by rfl) :
    SE X Xs W (.Call (.Attribute (.Name x p) m apos) [] [] pos) (mMet i cl m F aNil) := by
  obtain ⟨C, k, f, fd, ps, hC, hc, hm, F1, hr, hb⟩ := C.run
  refine pe_imp (pe_methW0 (pl := pl) (pe_ref (i := i) hN hv hd hcd) hc hm F1 hr hb (fun σ => passAt tk σ) ht) fun σ H Q ⟨B, G, ρ, s, r, h1, h2⟩ => ?_
  unfold mMet at h1
  by_cases hi : isCls i cl m ρ = true
  case neg => rw [if_neg hi] at h1; cases h1
  rw [if_pos hi] at h1
  obtain ⟨a, dx, vs, b, sh, d, k1, k2, k3, k4⟩ := isCls_is s hC hi
  refine ⟨.ref a, k1, a, dx, vs, rfl, k2, k3, ?_⟩
  have h3 : callK F [.o i] ρ = some r := by
    unfold mCall M.bnd at h1
    unfold aT at h1
    rw [k4] at h1
    exact h1
  refine call_conv s (.o k1 .nil) h3 (fun d ρ' er v G' H' s' x' hv => ?_) (fun c p ρ' er G' H' s' => ?_)
  · subst er
    rw [if_neg (by rw [hfr]; decide)] at hv
    exact h2 v G' H' s' x' hv
  · subst er
    exact h2 G' H' s'
end
end Tk
/-! Making instances. -/
namespace Tk
open PySem PySem.Spec PyProof.Rows L2 SX
def tMakeS (C : Addr) (sp : Sp) (E : L2.St → XK) (t : TA) : TE := fun σ H Q => t σ H fun vs H1 => ∀ x dx, H1 x = none → H1 dx = none → dx ≠ x →
  sp (.ref x :: vs) (upd (upd H1 dx (.own x)) x (.ins C dx [])) (fun v H2 => v = .non ∧ Q (.ref x) H2) (E σ)
section
variable {X : Cx} {CX : CXT} {k : Nat} {f C : Addr} {fd : FuncData} {ps : List Str} {sp : Sp} {E : L2.St → XK} {x m : Str} {p pos apos : Pos} {e o : Expr} {es : List Expr} {ta : TE} {t : TA}
theorem run_makeS {pins : List (Addr × Obj)} {σ : L2.St} {H : Hp} {s : Shared} {Q : VK} {us : List Value} {vs : List V} (M : Mk X.K C f) (F : FnOk X.prog X.w X.K X.mg X.base CX k f fd ps sp) (hr : Room (k + 1) X.A) (hb : Binds X.K fd ps [])
    (hx : PassesAt CX X σ (E σ)) (I : Inv X pins σ H s) (r : Vals vs us)
    (h : ∀ x dx, H x = none → H dx = none → dx ≠ x → sp (.ref x :: vs) (upd (upd H dx (.own x)) x (.ins C dx [])) (fun v H2 => v = .non ∧ Q (.ref x) H2) (E σ)) :
    wpAny (model X.prog X.w) X.A (call (.ref C) us) (EP X pins σ Q) X.xe s := by
  have hq := h (s.heap.objs.size + 1) s.heap.objs.size (I.hok.fresh (Nat.le_succ _)) (I.hok.fresh (Nat.le_refl _)) (Nat.ne_of_lt (Nat.lt_succ_self _))
  have I2 := Inv.made (C := C) I
  have r2 : Vals (V.ref (s.heap.objs.size + 1) :: vs) (Value.ref (s.heap.objs.size + 1) :: us) := .cons rfl r
  have hl : (Value.ref (s.heap.objs.size + 1) :: us).length = ps.length := by
    have e := r2.length
    rw [F.len _ _ _ _ hq] at e
    exact e.symm
  have b := hb _ (Value.ref (s.heap.objs.size + 1) :: us) I2.kIn (by rw [List.append_nil]; exact hl)
  rw [List.append_nil] at b
  refine wpAny_call (make_map (f := f) I.kIn M.makes M.init (beq_iff_eq.mp M.fn) (codeAny_mono (F.run _ X.stack _ _ ⟨Value.ref (s.heap.objs.size + 1) :: us, []⟩ (Value.ref (s.heap.objs.size + 1) :: us) _ _ (E σ) (hr.make C us [])
    (I2.env0.make C us []) b r2 hq) fun r s' hq' => ?_))
  cases r with
  | error e => exact hx pins _ _ e s' I2 hq'
  | ok fl =>
    cases fl with
    | ret u =>
      obtain ⟨v, H', I3, rv, ev, q3⟩ := I2.after hq'
      subst ev
      exact ⟨rv, ⟨V.ref (s.heap.objs.size + 1), H', I3, rfl, q3⟩⟩
    | next => exact False.elim hq'
    | brk => exact False.elim hq'
    | cont => exact False.elim hq'
theorem pe_makeW (M : Mk X.K C f) (F : FnOk X.prog X.w X.K X.mg X.base CX k f fd ps sp) (hr : Room (k + 1) X.A) (hg : Gl X x) (hm : X.mg x = some (.ref C)) (hb : Binds X.K fd ps []) (hx : ∀ σ, PassesAt CX X σ (E σ))
    (ha : PA X (e :: es) t) (hdb : (x == ("__debug__" : Str)) = false := by decide) (he : starEach (e :: es) X.env = (false, eval e X.env) :: starEach es X.env := by rfl) (hpl : (backTo pos (starEach es X.env)).any (·.1) = false := by rfl) :
    PE X (.Call (.Name x p) (e :: es) [] pos) (tMakeS C sp E t) := by
  refine ⟨fun pins s σ H Q I h => ?_⟩
  refine wpAny_Call_Name_kw (ld_glob I hg hm ?_ hdb)
  refine PySem.W.callWith_K (h₀ := X.base) I.ok.mod.kin M.kp (thn (ha.run pos pins s σ H _ I h) fun us s1 ⟨vs, H1, I1, r, q⟩ => ⟨I1.kIn, ?_⟩) he hpl
  exact run_makeS M F hr hb (hx σ) I1 r q
theorem pe_makeW0 (M : Mk X.K C f) (F : FnOk X.prog X.w X.K X.mg X.base CX k f fd ps sp) (hr : Room (k + 1) X.A) (hg : Gl X x) (hm : X.mg x = some (.ref C)) (hb : Binds X.K fd ps []) (hx : ∀ σ, PassesAt CX X σ (E σ))
    (hdb : (x == ("__debug__" : Str)) = false := by decide) : PE X (.Call (.Name x p) [] [] pos) (tMakeS C sp E tNil) := by
  refine ⟨fun pins s σ H Q I h => ?_⟩
  refine wpAny_Call_Name_kw (ld_glob I hg hm ?_ hdb)
  exact PySem.W.callWith_K0 I.kIn M.kp (run_makeS (us := []) M F hr hb (hx σ) I .nil h)
end
section
variable (K : PySem.W.Frag) (Xs : List XC) (W : WX)
/-- a new tree -/
def rT (m : M (Sh × D)) : TE := fun σ H Q => ∃ B G ρ, SR K B σ G H ρ ∧ ∃ r, m ρ = some r ∧ match r with
  | .ok q ρ' => ∀ a fp G' H', SR K B σ G' H' ρ' → Ex G G' → Own K G' H' q.1 (.ref a) q.2 fp → (∀ x ∈ fp, NewO B σ G' H' ρ' x) → Q (.ref a) H'
  | .ex c p ρ' => ∀ G' H', SR K B σ G' H' ρ' → XP K Xs B G' H' c p fun cls dd => W cls dd σ H'
end
def STr (X : Cx) (Xs : List XC) (W : WX) (e : Expr) (m : M (Sh × D)) : Prop := PE X e (rT X.K Xs W m)
/-- data, or lent to be read alone -/
def flatK : List Kd → Bool
  | [] => true
  | .p :: ks => flatK ks
  | .l _ :: ks => flatK ks
  | _ => false
theorem flat_args {K : PySem.W.Frag} {G H : Hp} : ∀ {i : Nat} {ks : List Kd} {vs : List V} {ds : List D} {P : PL} {U N : UL}, flatK ks = true → argsOk K G H i ks vs ds P U N → P = [] ∧ U = []
  | _, [], [], [], [], [], [], _, _ => ⟨rfl, rfl⟩
  | i, .p :: ks, v :: vs, d :: ds, P, U, N, hk, h => flat_args (i := i + 1) (ks := ks) (N := N) hk h.2
  | i, .l _ :: ks, v :: vs, d :: ds, P, U, (j, a, fp) :: N, hk, h => flat_args (i := i + 1) (ks := ks) (N := N) hk h.2.2.2
def mMake (c : Str) (F : FnD) (ms : M (List Arg)) : M (Sh × D) := ms.bnd fun as ρ => match F.ks with
  | .t (.obj c' .nil) s :: ks => if c' = c ∧ F.fr = false ∧ flatK ks = true ∧ (lentSl as).Nodup then (match argDs ρ ks as with
    | some ds => (match F.sem (.tup [] :: ds) with
      | some (.ret .non [d]) => some (.ok (s, d) ρ)
      | _ => none)
    | none => none) else none
  | _ => none
/-- the class c and its __init__ -/
structure CalC (X : Cx) (Xs : List XC) (c : Str) (F : FnD) : Prop where
  run : ∃ (C : Addr) (k : Nat) (f : Addr) (fd : FuncData) (ps : List Str), PySem.W.nsIn X.K mainGlobals c = some (some (.ref C)) ∧ Mk X.K C f ∧ FnOk X.prog X.w X.K X.mg X.base (L2.CX X.prog X.w) k f fd ps (spF X.K Xs F) ∧ Room (k + 1) X.A ∧ X.mg c = some (.ref C) ∧ Binds X.K fd ps []
theorem make_conv {K : PySem.W.Frag} {Xs : List XC} {c : Str} {C x dx : Addr} {F : FnD} {B : Bs} {σ : L2.St} {G H : Hp} {ρ : Cs} {vs : List V} {as : List Arg} {Q : VK} {E : XK} {s0 : Sh} {ks : List Kd} {ds : List D} {d : D} (s : SR K B σ G H ρ) (hC : PySem.W.nsIn K mainGlobals c = some (some (.ref C))) (ra : ArgRel K σ G vs as)
    (hk : F.ks = .t (.obj c .nil) s0 :: ks) (hfr : F.fr = false) (hf : flatK ks = true) (nd : (lentSl as).Nodup) (ed : argDs ρ ks as = some ds) (hs : F.sem (.tup [] :: ds) = some (.ret .non [d])) (hx : H x = none) (hd : H dx = none) (ne : dx ≠ x)
    (q : ∀ fp G' H', SR K B σ G' H' ρ → Ex G G' → Own K G' H' s0 (.ref x) d fp → (∀ y ∈ fp, NewO B σ G' H' ρ y) → Q (.ref x) H') : spF K Xs F (.ref x :: vs) (upd (upd H dx (.own x)) x (.ins C dx [])) (fun v H2 => v = .non ∧ Q (.ref x) H2) E := by
  have f1 := Fr.allocO (o := .own x) s.ex hd
  have hx1 : (upd H dx (.own x)) x = none := by rw [upd_ne (Ne.symm ne)]; exact hx
  have f12 := f1.trans (Fr.allocO (o := .ins C dx []) f1.e hx1)
  have s2 := s.step f12
  obtain ⟨P, U, R, L, M, N, k1, k2, k3, k3', k4, k5⟩ := call_args (i := 1) s2 ra ed
  obtain ⟨rfl, rfl⟩ := flat_args hf k1
  have old : ∀ {y : Addr}, (upd (upd H dx (.own x)) x (.ins C dx [])) y = none → H y = none := fun {y} h => by
    cases e : H y with
    | none => rfl
    | some o => rw [f12.h y o (by simp) e] at h; cases h
  have own0 : Own K G (upd (upd H dx (.own x)) x (.ins C dx [])) (.obj c .nil) (.ref x) (.tup []) [x, dx] := .obj hC upd_same ((upd_ne ne).trans upd_same) (s.ex.back hx) (s.ex.back hd) .nil (by simp) (by simp) (Ne.symm ne)
  have offN : ∀ u ∈ N, ∀ y, H y = none → y ∉ u.2.2 := fun u hu y hy z => by
    have := k5.2.2 u hu
    rw [← this, s.fpStep f12] at z
    exact s.freshT hy _ z
  refine ⟨G, [], [(0, x, [x, dx])], R, .tup [] :: ds, _, s2.ex, by rw [hk]; exact ⟨rfl, rfl, own0, k1⟩, ⟨List.nodup_nil, Nat.le_refl _, (fun _ h => nomatch h), (fun _ h => nomatch h), fun u hu w hw y hy z => ?_, ?_⟩, hs, fun v G' H' f ho hv => ?_⟩
  · have hu' : w.2 ∈ N.map (·.2) := by rw [← k3']; exact List.mem_map.mpr ⟨w, hw, rfl⟩
    obtain ⟨n, hn, e⟩ := List.mem_map.mp hu'
    have : u = (0, x, [x, dx]) := by simpa using hu
    subst this
    rw [← e] at z
    rcases List.mem_cons.mp hy with e1 | hy
    · rw [e1] at z; exact offN n hn x hx z
    · have : y = dx := by simpa using hy
      rw [this] at z; exact offN n hn dx hd z
  · show (R.map (·.2)).Pairwise _
    rw [k3']
    have key : ∀ {N : UL}, (N.map (·.1)).Nodup → (∀ u ∈ N, fpAt (upd (upd H dx (.own x)) x (.ins C dx [])) σ ρ u.1 = u.2.2) → (N.map (·.2)).Pairwise fun u w => Dj u.2 w.2 := by
      intro N
      induction N with
      | nil => intro _ _; exact List.Pairwise.nil
      | cons u N ih =>
        intro n1 n2
        rw [List.map_cons, List.nodup_cons] at n1
        rw [List.map_cons, List.pairwise_cons]
        refine ⟨fun w hw => ?_, ih n1.2 fun x hx => n2 x (List.mem_cons_of_mem _ hx)⟩
        obtain ⟨w', hw', rfl⟩ := List.mem_map.mp hw
        have := s2.tr.dj u.1 w'.1 fun e => n1.1 (List.mem_map.mpr ⟨w', hw', e.symm⟩)
        rw [n2 u List.mem_cons_self, n2 w' (List.mem_cons_of_mem _ hw')] at this
        exact this
    exact key (k4.nd nd).2 k5.2.2
  · rw [hk] at ho
    obtain ⟨⟨fp', o1, o2⟩, _⟩ := ho
    rw [if_neg (by rw [hfr]; decide)] at hv
    cases hv
    have fr : Fr [] G H G' H' := by
      have g : Fr [x, dx] G (upd (upd H dx (.own x)) x (.ins C dx [])) G' H' := f.more fun y hy => by simpa [SPU] using hy
      have t := (f12.more (T := [x, dx]) (by simp)).trans g
      refine ⟨t.g, fun y o _ hy => t.h y o (fun z => ?_) hy, t.n, t.e, t.d⟩
      rcases List.mem_cons.mp z with e | z
      · rw [e, hx] at hy; cases hy
      · have : y = dx := by simpa using z
        rw [this, hd] at hy; cases hy
    refine ⟨rfl, q fp' G' H' (s.step fr) fr.g o1 fun y hy => ?_⟩
    have hy0 : H y = none := by
      rcases o2 y hy with z | z
      · rcases List.mem_cons.mp z with e | z
        · rw [e]; exact hx
        · have : y = dx := by simpa using z
          rw [this]; exact hd
      · exact old z
    obtain ⟨h1, h2, h3, _⟩ := s.fresh hy0
    exact ⟨(o1.objs y hy).2, h3, h1, h2, fun i => by rw [s.fpStep fr i]; exact s.freshT hy0 i⟩
section
variable {X : Cx} {Xs : List XC} {W : WX} {e a b c : Expr} {es : List Expr} {pos p apos cpos spos pos' : Pos} {x f m : Str} {cl : Str}
theorem mMake_inv {F : FnD} {ms : M (List Arg)} {ρ : Cs} {r : R (Sh × D)} (h : mMake cl F ms ρ = some r) : (∃ k p ρ1, ms ρ = some (.ex k p ρ1) ∧ r = .ex k p ρ1) ∨ ∃ as ρ1 s0 ks ds d, ms ρ = some (.ok as ρ1) ∧ F.ks = .t (.obj cl .nil) s0 :: ks ∧ F.fr = false ∧ flatK ks = true ∧ (lentSl as).Nodup ∧ argDs ρ1 ks as = some ds ∧ F.sem (.tup [] :: ds) = some (.ret .non [d]) ∧ r = .ok (s0, d) ρ1 := by
  unfold mMake M.bnd at h
  cases em : ms ρ with
  | none => rw [em] at h; cases h
  | some q =>
    rw [em] at h
    cases q with
    | ex k p ρ1 => cases h; exact .inl ⟨k, p, ρ1, rfl, rfl⟩
    | ok as ρ1 =>
      dsimp only at h
      split at h
      · rename_i c' s0 ks ek
        by_cases hc : c' = cl ∧ F.fr = false ∧ flatK ks = true ∧ (lentSl as).Nodup
        case neg => rw [if_neg hc] at h; cases h
        rw [if_pos hc] at h
        obtain ⟨rfl, h2, h3, h4⟩ := hc
        split at h
        · rename_i ds ed
          split at h
          · rename_i d es'
            cases h
            exact .inr ⟨as, ρ1, s0, ks, ds, d, rfl, ek, h2, h3, h4, ed, es', rfl⟩
          · cases h
        · cases h
      · cases h
theorem st_make {F : FnD} {ms : M (List Arg)} (C : CalC X Xs cl F) (hg : Gl X cl) (tk : Takes X W) (ha : SR' X Xs W (e :: es) ms)
    (hdb : (cl == ("__debug__" : Str)) = false := by decide) (he : starEach (e :: es) X.env = (false, eval e X.env) :: starEach es X.env := by rfl) (hpl : (backTo pos (starEach es X.env)).any (·.1) = false := by rfl) : STr X Xs W (.Call (.Name cl p) (e :: es) [] pos) (mMake cl F ms) := by
  obtain ⟨C, k, f, fd, ps, hC, M, F1, hr, hm, hb⟩ := C.run
  refine pe_imp (pe_makeW M F1 hr hg hm hb (fun σ => passAt tk σ) ha hdb he hpl) fun σ H Q ⟨B, G, ρ, s, r, h1, h2⟩ => ?_
  show rX X.K Xs W (RlR X.K) ms σ H _
  rcases mMake_inv h1 with ⟨k, p, ρ1, em, rfl⟩ | ⟨as, ρ1, s0, ks, ds, d, em, hk, hfr, hf, nd, ed, hs, rfl⟩
  · exact ⟨B, G, ρ, s, _, em, h2⟩
  · refine ⟨B, G, ρ, s, _, em, fun vs G1 H1 s1 x1 ra x dx hx hd ne => ?_⟩
    exact make_conv s1 hC ra hk hfr hf nd ed hs hx hd ne fun fp G' H' s' x' o n => h2 x fp G' H' s' (x1.trans x') o n
theorem st_make0 {F : FnD} (C : CalC X Xs cl F) (hg : Gl X cl) (tk : Takes X W) (hdb : (cl == ("__debug__" : Str)) = false := by decide) : STr X Xs W (.Call (.Name cl p) [] [] pos) (mMake cl F aNil) := by
  obtain ⟨C, k, f, fd, ps, hC, M, F1, hr, hm, hb⟩ := C.run
  refine pe_imp (pe_makeW0 M F1 hr hg hm hb (fun σ => passAt tk σ) hdb) fun σ H Q ⟨B, G, ρ, s, r, h1, h2⟩ => ?_
  rcases mMake_inv h1 with ⟨k, p, ρ1, em, _⟩ | ⟨as, ρ1, s0, ks, ds, d, em, hk, hfr, hf, nd, ed, hs, rfl⟩
  · cases em
  · cases em
    exact fun x dx hx hd ne => make_conv s hC .nil hk hfr hf nd ed hs hx hd ne fun fp G' H' s' x' o n => h2 x fp G' H' s' x' o n
/-- x = e, e a new tree -/
def putTr (i : Nat) (q : Sh × D) (ρ : Cs) : Option Cs := match ρ[i]? with
  | some (.ow true _) => none
  | some (.er _ _) => none
  | some (.tr _ _ _) => none
  | some _ => some (ρ.set i (.tr (false, false) q.1 q.2))
  | none => none
theorem putTr_is {i : Nat} {q : Sh × D} {ρ ρ' : Cs} (h : putTr i q ρ = some ρ') : i < ρ.length ∧ ρ' = ρ.set i (.tr (false, false) q.1 q.2) ∧ ¬ isT ρ i := by
  unfold putTr at h
  split at h
  · cases h
  · cases h
  · cases h
  · rename_i x n1 n2 n3 hx
    cases h
    refine ⟨(List.getElem?_eq_some_iff.mp hx).1, rfl, fun ⟨b, s, d, e⟩ => ?_⟩
    rw [hx] at e
    exact n3 b s d (Option.some.inj e)
  · cases h
theorem SR.setTr {K : PySem.W.Frag} {B : Bs} {σ : L2.St} {G H : Hp} {ρ : Cs} (s : SR K B σ G H ρ) {i : Nat} {a : Addr} {sh : Sh} {d : D} {fp : List Addr} (o : Own K G H sh (.ref a) d fp) (n : ∀ x ∈ fp, NewO B σ G H ρ x) (hi : i < ρ.length) : SR K B (σ.set i (some (.ref a))) G H (ρ.set i (.tr (false, false) sh d)) := by
  have hs : i < σ.length := by rw [s.len]; exact hi
  have ne : ∀ {j : Nat}, j ≠ i → (σ.set i (some (V.ref a)))[j]? = σ[j]? := fun h => List.getElem?_set_ne (Ne.symm h)
  have se : (σ.set i (some (V.ref a)))[i]? = some (some (.ref a)) := List.getElem?_set_self hs
  have re : (ρ.set i (.tr (false, false) sh d))[i]? = some (.tr (false, false) sh d) := List.getElem?_set_self hi
  have no : ∀ {j : Nat}, isO (ρ.set i (.tr (false, false) sh d)) j → j ≠ i ∧ isO ρ j := fun h => isO_set h (by intro b d q; cases q)
  have fpi : fpAt H (σ.set i (some (.ref a))) (ρ.set i (.tr (false, false) sh d)) i = fp := by
    unfold fpAt; rw [re, se]; exact o.fp
  have fpj : ∀ {j : Nat}, j ≠ i → fpAt H (σ.set i (some (.ref a))) (ρ.set i (.tr (false, false) sh d)) j = fpAt H σ ρ j := fun {j} h => by
    unfold fpAt; rw [ne h, List.getElem?_set_ne (Ne.symm h)]
  refine ⟨s.fr, by simpa using s.len, fun j e h => ?_, fun j c e h => ?_, fun j k x hj hk h1 h2 => ?_, fun q hq => ?_, fun j c q h => ?_, fun j c t e h => ?_, fun j k nn x h1 h2 => ?_, fun j k x h1 h2 h3 => ?_, fun j x h1 p hp => ?_, fun j c t e h x hx => ?_⟩
  · rcases get_set h with ⟨rfl, q⟩ | ⟨hn, q⟩
    · cases q
    · rw [ne hn]; exact s.pu j e q
  · rcases get_set h with ⟨rfl, q⟩ | ⟨hn, q⟩
    · cases q
    · rw [ne hn]; exact s.ow j c e q
  · obtain ⟨n1, o1⟩ := no hj
    obtain ⟨n2, o2⟩ := no hk
    rw [ne n1] at h1; rw [ne n2] at h2
    exact s.inj j k x o1 o2 h1 h2
  · obtain ⟨h1, h2, h3, h4⟩ := s.pin q hq
    exact ⟨h1, h2, h3, fun j hj => by obtain ⟨n1, o1⟩ := no hj; rw [ne n1]; exact h4 j o1⟩
  · rcases get_set h with ⟨rfl, q⟩ | ⟨hn, q⟩
    · cases q
    · rw [ne hn]; exact s.er j c _ q
  · rcases get_set h with ⟨rfl, q⟩ | ⟨hn, q⟩
    · cases q
      exact ⟨a, fp, se, o, fun x hx => (n x hx).2.1⟩
    · rw [ne hn]; exact s.tr.at_ j c t e q
  · by_cases e1 : j = i
    · subst e1
      rw [fpi] at h1; rw [fpj (Ne.symm nn)] at h2
      exact (n x h1).2.2.2.2 k h2
    · rw [fpj e1] at h1
      by_cases e2 : k = i
      · subst e2
        rw [fpi] at h2
        exact (n x h2).2.2.2.2 j h1
      · rw [fpj e2] at h2; exact s.tr.dj j k nn x h1 h2
  · obtain ⟨n2, o2⟩ := no h2
    rw [ne n2] at h3
    by_cases e1 : j = i
    · subst e1; rw [fpi] at h1; exact (n x h1).2.2.1 k o2 h3
    · rw [fpj e1] at h1; exact s.tr.no j k x h1 o2 h3
  · by_cases e1 : j = i
    · subst e1; rw [fpi] at h1; exact (n x h1).2.2.2.1 p hp
    · rw [fpj e1] at h1; exact s.tr.pn j x h1 p hp
  · rcases get_set h with ⟨rfl, q⟩ | ⟨hn, q⟩
    · cases q
    · rw [fpj hn] at hx; exact s.tr.lk j c t e q x hx
def asgTr (i : Nat) (m : M (Sh × D)) : MS := ev m fun q ρ => match putTr i q ρ with
  | some ρ' => some (.nx ρ')
  | none => none
theorem ss_setTr {y : Str} {p : Pos} {m : M (Sh × D)} (i : Nat) (hN : X.N.Nodup) (hi : X.N[i]? = some y) (hx : Loc X.env.scope y) (he : STr X Xs W e m) (hs : swapsWith e (some (.Name y p)) pos.line X.env = pure false := by rfl) (hf : X.fn y = true ∨ X.env.scope.names.lookup y = some .local := by first | exact .inl rfl | exact .inr rfl | assumption) :
    SS X Xs W (.Assign [.Name y p] e pos) (asgTr i m) := by
  refine ps_imp (ps_set hN hi hx he hs hf) fun D' σ H ⟨B, G, ρ, r, s, h1, h2⟩ => ?_
  unfold asgTr ev at h1
  cases em : m ρ with
  | none => rw [em] at h1; cases h1
  | some q =>
    rw [em] at h1
    refine ⟨B, G, ρ, s, q, em, ?_⟩
    cases q with
    | ex c p ρ1 => cases h1; exact fun G' H' s' => h2 σ G' H' s'
    | ok q ρ1 =>
      intro a fp G' H' s' x' o n
      dsimp only at h1
      split at h1
      · rename_i ρ' ep
        cases h1
        obtain ⟨hl, rfl, _⟩ := putTr_is ep
        exact h2 _ G' H' (s'.setTr o n hl)
      · cases h1
end
end Tk
/-! More writes at places. -/
namespace Tk
open PySem PySem.Spec PyProof.Rows L2 SX
section
variable {X : Cx} {Xs : List XC} {W : WX} {e a b c : Expr} {es : List Expr} {pos p apos cpos spos pos' tpos : Pos} {x f m : Str} {cl : Str}
theorem lkS2 {K : PySem.W.Frag} {n : M D} {k : D → MS} {D' : Ends} {B : Bs} {σ : L2.St} {G H : Hp} {ρ : Cs} {i : Nat} {π : List Pt} {v : V} {r : RS} {Q : V → Hp → Prop} (s : SR K B σ G H ρ) (at1 : AtP H σ ρ i π v) (h : ev (lk i n) k ρ = some r) (post : PostS K Xs W B D' r)
    (q : ∀ d ρ' w G' H', SR K B σ G' H' ρ' → Ex G G' → Rep K G' w d → AtP H' σ ρ' i π v → (∀ x ∈ fpAt H σ ρ i, H' x = H x) → ρ'[i]? = ρ[i]? → k d ρ' = some r → Q w H') : rX K Xs W (RlE K) n σ H Q := by
  unfold ev at h
  cases el : lk i n ρ with
  | none => rw [el] at h; cases h
  | some r' =>
    rw [el] at h
    cases r' with
    | ok d ρ' => exact lk_do s el fun w G' H' s' x' rw' k e => q d ρ' w G' H' s' x' rw' (s.plc2 at1 k e) k e h
    | ex c p ρ' =>
      cases h
      exact lk_do s el fun G' H' s' => post σ G' H' s'
/-- the field f of the instance at π: g of it and e -/
def augT (i : Nat) (cl f : Str) (g : D → D → Option D) (π : List Pt) (e : D) : MS := fun ρ => match trAt i π ρ with
  | some (.obj _ fs, .tup ds) => (match fldAt f fs ds with
    | some (.fz, d0) => (match g d0 e with
      | some z => fldT i cl f π z ρ
      | none => none)
    | _ => none)
  | _ => none
def isFldP (i : Nat) (cl f : Str) (π : List Pt) (ρ : Cs) : Bool := match trAt i π ρ with
  | some (.obj c' fs, .tup ds) => decide (c' = cl) && (fldAt f fs ds).isSome
  | _ => false
noncomputable def augPF (i : Nat) (cl f : Str) (g : D → D → Option D) (m : M (List Pt)) (n : M D) : MS := ev m fun π ρ => if isFldP i cl f π ρ = true then ev (lk i n) (augT i cl f g π) ρ else none
theorem ss_augPF {op : Operator} {r2 : R2} {g : D → D → Option D} {m : M (List Pt)} {n : M D} (i : Nat) (hc : ClF X.K cl f) (ho : SPl X Xs W i a m) (he : SE X Xs W e n) (hop : OpR X (inplaceOp op) r2) (hfn : BinR X r2 g) : SS X Xs W (.AugAssign (.Attribute a f tpos) op e pos) (augPF i cl f g m n) := by
  refine ps_imp (ps_fldaug ho he (rd := r2) (fun pins s σ H x y v u Q I rx ry q => hop pins s σ H x y v u Q I rx ry q)) fun D' σ H h => ?_
  refine rS_evP h fun B v H1 π G1 ρ1 r s1 at1 h3 h4 => ?_
  by_cases hl : isFldP i cl f π ρ1 = true
  case neg => rw [if_neg hl] at h3; cases h3
  rw [if_pos hl] at h3
  unfold isFldP at hl
  split at hl
  · rename_i c' fs ds et
    rw [Bool.and_eq_true] at hl
    obtain ⟨hl1, hl2⟩ := hl
    have ec := of_decide_eq_true hl1
    subst ec
    obtain ⟨b, sh, t, e1, e2⟩ := trAt_inv et
    obtain ⟨_, f1, _, _, _, k4, k5, _⟩ := s1.plc e1 e2 at1
    have k4' := k4
    cases k4 with
    | obj g0 g1 g2 g3 g4 g5 g6 g7 g8 =>
      rename_i C a1 dx vs fp2 u2 u3
      obtain ⟨⟨s2, d2⟩, ef⟩ := Option.isSome_iff_exists.mp hl2
      obtain ⟨v2, f2, l1, _⟩ := g5.at_ ef
      obtain ⟨c1, c2⟩ := hc _ g0
      refine ⟨a1, C, dx, vs, v2, rfl, g1, c1, c2, l1, ?_⟩
      refine lkS2 s1 at1 h3 h4 fun d ρ2 w G2 H2 s2 x2 rw2 at2 kk ke h5 => ?_
      have sameA : H2 a1 = H1 a1 := kk a1 (k5 a1 (.head _))
      unfold augT at h5
      split at h5
      · rename_i fs' ds' et2
        split at h5
        · rename_i d0 ef2
          split at h5
          · rename_i z ez
            obtain ⟨b', sh', t', e1', e2'⟩ := trAt_inv et2
            obtain ⟨_, f1', _, _, _, m4, _⟩ := s2.plc e1' e2' at2
            cases m4 with
            | obj n0 n1 n2 n3 n4 n5 n6 n7 n8 =>
              rw [sameA, g1] at n1; cases n1
              obtain ⟨v3, f3, l3, l4, _⟩ := n5.at_ ef2
              rw [l1] at l3; cases l3
              cases l4 with
              | fz rv =>
                refine hfn G2 H2 _ w d0 d z _ s2.ex rv rw2 ez fun z' G3 H3 fr rz => ?_
                have s3 := s2.step fr
                have g1' : H3 a1 = some (.ins C dx vs) := fr.h a1 _ (by simp) (sameA.trans g1)
                have at3 : AtP H3 σ ρ2 i π (.ref a1) := by
                  intro b s d q q1 q2
                  obtain ⟨a', z1, z2⟩ := at2 b s d q q1 q2
                  obtain ⟨a'', fp, y1, y2, y3, _⟩ := s2.tr.fp q1
                  rw [z1] at y1; cases y1
                  refine ⟨a', z1, ?_⟩
                  rw [y2.valP_same (H' := H3) (fun x hx => by
                    obtain ⟨⟨o, ho, _⟩, _⟩ := y2.objs x hx
                    exact (fr.h x o (by simp) ho).trans ho.symm) q2]
                  exact z2
                unfold fldT at h5
                split at h5
                · rename_i b3 sh3 t3 e3
                  split at h5
                  · rename_i c3 fs3 ds3 e4
                    by_cases hz : c3 = c' ∧ ds3.length < 1000
                    case neg => rw [if_neg hz] at h5; cases h5
                    rw [if_pos hz] at h5
                    obtain ⟨rfl, hz⟩ := hz
                    split at h5
                    · rename_i fq ef3
                      split at h5
                      · rename_i q e5
                        cases h5
                        obtain ⟨_, f5, _, _, _, m5, _⟩ := s3.plc e3 e4 at3
                        have hlen : vs.length < 1000 := by
                          cases m5 with
                          | obj p0 p1 p2 p3 p4 p5 p6 p7 p8 =>
                            rw [g1'] at p1; cases p1
                            rw [p5.length]; exact hz
                        refine ⟨dx, vs, g1', hlen, ?_⟩
                        exact h4 σ G3 _ (s3.pw e3 e4 at3 (.ins C dx (putF f z' vs)) e5 fun f6 o6 _ => fld_own o6 g1' ef3 rz)
                      · cases h5
                    · cases h5
                  · cases h5
                · cases h5
          · cases h5
        · cases h5
      · cases h5
  · cases hl
/-! ### x[k] = e at a place: a dict -/
def putT (i : Nat) (π : List Pt) (v : D) (k : D) : MS := fun ρ => match ρ[i]? with
  | some (.tr (b, false) sh t) => (match getP π sh t with
    | some (.dic .fz, .dic kvs) => if (keyOf k).isSome = true ∧ kvs.length < sizeLine then (match setP (.dic .fz) (.dic (putKD k v kvs)) π sh t with
      | some q => some (.nx (ρ.set i (.tr (b, false) q.1 q.2)))
      | none => none) else none
    | _ => none)
  | _ => none
noncomputable def setPD (i : Nat) (mv : M D) (m : M (List Pt)) (n : M D) : MS := ev mv fun v => ev m fun π => ev (lk i n) (putT i π v)
theorem OwnD.length {K : PySem.W.Frag} {G H : Hp} : ∀ {s : Sh} {vs : List (Key × V)} {ds : List (D × D)} {fp : List Addr}, OwnD K G H s vs ds fp → vs.length = ds.length
  | _, _, _, _, .nil => rfl
  | _, _, _, _, .int _ r _ => congrArg (· + 1) (OwnD.length r)
  | _, _, _, _, .str _ r _ => congrArg (· + 1) (OwnD.length r)
theorem key_val {K : PySem.W.Frag} {G : Hp} {k : D} {kk : Key} {w : V} (h : keyOf k = some kk) (r : Rep K G w k) : w = kV kk := by
  cases k <;> cases h <;> cases r <;> rfl
theorem ss_setPD {mv : M D} {m : M (List Pt)} {n : M D} {k : Expr} (i : Nat) (hu : X.A.units + 1 < cLine) (ho : SPl X Xs W i a m) (he : SE X Xs W e mv) (hk : SE X Xs W k n) (hs : swapsWith e (some (.Subscript a k pos')) pos.line X.env = pure false := by rfl) : SS X Xs W (.Assign [.Subscript a k pos'] e pos) (setPD i mv m n) := by
  refine ps_imp (ps_dput hu ho hk he hs) fun D' σ H h => ?_
  refine h.ev (Rl := RlE X.K) fun B y H1 d G1 ρ1 r s1 ry h3 h4 => ?_
  refine plS s1 h3 h4 fun v H2 π G2 ρ2 s2 x2 at2 h5 => ?_
  refine lkS s2 at2 h5 h4 fun kd ρ3 w G3 H3 s3 x3 rw3 at3 h6 => ?_
  unfold putT at h6
  split at h6
  · rename_i b sh t e3
    split at h6
    · rename_i kvs e4
      by_cases hz : (keyOf kd).isSome = true ∧ kvs.length < sizeLine
      case neg => rw [if_neg hz] at h6; cases h6
      rw [if_pos hz] at h6
      obtain ⟨hz1, hz⟩ := hz
      obtain ⟨kk, ek⟩ := Option.isSome_iff_exists.mp hz1
      split at h6
      · rename_i q e5
        cases h6
        obtain ⟨_, f2, _, _, _, m4, _⟩ := s3.plc e3 e4 at3
        have hw := key_val ek rw3
        subst hw
        cases m4 with
        | dic r1 r2 r3 r4 r5 =>
          rename_i a1 vs fp2 u2 u3
          refine ⟨a1, _, rfl, DPut.k r1 (by rw [r3.length]; exact hz), ?_⟩
          refine h4 σ G3 _ (s3.pw e3 e4 at3 (.dK (putK vs kk y)) e5 fun f3 o3 _ => ?_)
          cases o3 with
          | dic n1 n2 n3 n4 n5 =>
            rw [r1] at n1; cases n1
            have kp := n3.keep (H' := upd H3 a1 (.dK (putK vs kk y))) (Ex.refl G3) fun x hx => ⟨upd_ne fun (z : x = a1) => n4 (z ▸ hx), (n3.objs x hx).2⟩
            obtain ⟨fp', q1, q2⟩ := kp.put (k := kd) n5 ek (.fz (ry.mono (x2.trans x3))) Dj.nil
            have sub : ∀ x ∈ fp', x ∈ _ := fun x hx => (q2 x hx).elim id (fun z => nomatch z)
            exact ⟨.head _, _, .dic upd_same n2 q1 (fun z => n4 (sub _ z)) (uniqK_put (keyOf_same ek) n5), fun x hx => .inl (by
              rcases List.mem_cons.mp hx with e | hx
              · rw [e]; exact .head _
              · exact .tail _ (sub x hx))⟩
      · cases h6
    · cases h6
  · cases h6
/-! ### x.pop() at a place -/
def popP (i : Nat) (m : M (List Pt)) : M D := m.bnd fun π ρ => match ρ[i]? with
  | some (.tr (b, false) sh t) => (match getP π sh t with
    | some (.lst .fz, .lst ds) => (match ds[ds.length - 1]? with
      | some d => (match setP (.lst .fz) (.lst ds.dropLast) π sh t with
        | some q => some (.ok d (ρ.set i (.tr (b, false) q.1 q.2)))
        | none => none)
      | none => none)
    | _ => none)
  | _ => none
theorem Owns.fz {K : PySem.W.Frag} {G H : Hp} : ∀ {vs : List V} {ds : List D} {fp : List Addr}, Owns K G H .fz vs ds fp → fp = [] ∧ Reps K G vs ds
  | _, _, _, .nil => ⟨rfl, .nil⟩
  | _, _, _, .cons (.fz r) t _ => by
    obtain ⟨rfl, h⟩ := Owns.fz t
    exact ⟨rfl, .cons r h⟩
theorem Owns.of {K : PySem.W.Frag} {G H : Hp} : ∀ {vs : List V} {ds : List D}, Reps K G vs ds → Owns K G H .fz vs ds []
  | _, _, .nil => .nil
  | _, _, .cons r t => Owns.cons (.fz r) (Owns.of t) Dj.nil
theorem se_popP {m : M (List Pt)} (i : Nat) (ho : SPl X Xs W i a m) (hbase : attributeBase a "pop" X.env (eval a X.env) = eval a X.env := by rfl) (hline : (apos.endLine == cpos.line) = true := by rfl) : SE X Xs W (.Call (.Attribute a "pop" apos) [] [] cpos) (popP i m) := by
  refine pe_imp (pe_bm0 F.plainAttrs_list F.slot_list_pop F.type_list_pop mt_pop ho hbase hline) fun σ H Q ⟨B, G, ρ, s, r, h1, h2⟩ => ?_
  unfold popP M.bnd at h1
  show rP X.K Xs W i m σ H _
  cases em : m ρ with
  | none => rw [em] at h1; cases h1
  | some q =>
    rw [em] at h1
    refine ⟨B, G, ρ, s, q, em, ?_⟩
    cases q with
    | ex c p ρ' => cases h1; exact h2
    | ok π ρ1 =>
      intro v G1 H1 s1 x1 at1
      dsimp only at h1
      split at h1
      · rename_i b sh t e3
        split at h1
        · rename_i ds e4
          split at h1
          · rename_i d e2
            split at h1
            · rename_i q e5
              cases h1
              obtain ⟨_, f2, _, _, _, m4, _⟩ := s1.plc e3 e4 at1
              cases m4 with
              | lst r1 r2 r3 r4 =>
                rename_i a1 vs fp2 u2 u3
                obtain ⟨_, rv⟩ := r3.fz
                obtain ⟨w, q1, q2⟩ := rv.get e2
                refine ⟨.inl ⟨rfl, vs, .inl (.inl r1)⟩, a1, vs, w, rfl, rfl, r1, by rw [rv.length]; exact q1, ?_⟩
                refine h2 w G1 _ (s1.pw e3 e4 at1 (.lst vs.dropLast) e5 fun f3 o3 _ => ?_) x1 q2
                cases o3 with
                | lst n1 n2 n3 n4 =>
                  rw [r1] at n1; cases n1
                  exact ⟨.head _, [a1], .lst upd_same n2 (Owns.of rv.dropLast) (by simp), fun x hx => .inl (by
                    have : x = a1 := by simpa using hx
                    rw [this]; exact .head _)⟩
            · cases h1
          · cases h1
        · cases h1
      · cases h1
end
end Tk
/-! An own tree becomes data. -/
namespace Tk
open PySem PySem.Spec PyProof.Rows L2 SX
def noObj : Sh → Bool
  | .fz => true
  | .lst s => noObj s
  | .dic s => noObj s
  | .obj _ _ => false
section
variable {K : PySem.W.Frag} {G G' H : Hp}
mutual
theorem Own.rep (e : Ex G G') : ∀ {s : Sh} {v : V} {d : D} {fp : List Addr}, Own K G H s v d fp → noObj s = true → (∀ x ∈ fp, G' x = H x) → Rep K G' v d
  | _, _, _, _, .fz r, _, _ => r.mono e
  | _, _, _, _, .lst h1 h2 h3 h4, n, k => .lst ((k _ (.head _)).trans h1) (Owns.rep e h3 (by simpa [noObj] using n) fun x hx => k x (.tail _ hx))
  | _, _, _, _, .dic h1 h2 h3 h4 _, n, k => .dic ((k _ (.head _)).trans h1) (OwnD.rep e h3 (by simpa [noObj] using n) fun x hx => k x (.tail _ hx))
  | _, _, _, _, .obj _ _ _ _ _ _ _ _ _, n, _ => by simp [noObj] at n
theorem Owns.rep (e : Ex G G') : ∀ {s : Sh} {v : List V} {d : List D} {fp : List Addr}, Owns K G H s v d fp → noObj s = true → (∀ x ∈ fp, G' x = H x) → Reps K G' v d
  | _, _, _, _, .nil, _, _ => .nil
  | _, _, _, _, .cons a r _, n, k => .cons (Own.rep e a n fun x hx => k x (List.mem_append_left _ hx)) (Owns.rep e r n fun x hx => k x (List.mem_append_right _ hx))
theorem OwnD.rep (e : Ex G G') : ∀ {s : Sh} {v : List (Key × V)} {d : List (D × D)} {fp : List Addr}, OwnD K G H s v d fp → noObj s = true → (∀ x ∈ fp, G' x = H x) → RepD K G' v d
  | _, _, _, _, .nil, _, _ => .nil
  | _, _, _, _, .int a r _, n, k => .int (Own.rep e a n fun x hx => k x (List.mem_append_left _ hx)) (OwnD.rep e r n fun x hx => k x (List.mem_append_right _ hx))
  | _, _, _, _, .str a r _, n, k => .str (Own.rep e a n fun x hx => k x (List.mem_append_left _ hx)) (OwnD.rep e r n fun x hx => k x (List.mem_append_right _ hx))
end
end
section
variable {K : PySem.W.Frag} {B : Bs} {σ : L2.St} {G H : Hp} {ρ : Cs}
theorem SR.frzT (s : SR K B σ G H ρ) {i : Nat} {sh : Sh} {d : D} (hi : ρ[i]? = some (.tr (false, false) sh d)) (hn : noObj sh = true) : ∃ G', Ex G G' ∧ SR K B σ G' H (ρ.set i (.pu d)) := by
  obtain ⟨a, fp, h1, h2, h3, h4⟩ := s.tr.fp hi
  have h4 : ∀ x ∈ fp, B.H x = none := h4
  have no : ∀ {j : Nat}, isO (ρ.set i (.pu d)) j → j ≠ i ∧ isO ρ j := fun h => isO_set h (by intro b d q; cases q)
  have ex : Ex G (fun x => if x ∈ fp then H x else G x) := fun x o h => by
    have : x ∉ fp := fun z => by rw [(h2.objs x z).2] at h; cases h
    show (if x ∈ fp then H x else G x) = some o
    rw [if_neg this]; exact h
  have hlt : i < ρ.length := (List.getElem?_eq_some_iff.mp hi).1
  have s0 : SR K B σ G H (ρ.set i .un) := s.un (by simpa using s.len) fun j c h => by
    rcases get_set h with ⟨_, q⟩ | ⟨_, q⟩
    · exact .inl q
    · exact .inr ⟨q, rfl⟩
  have fp0 : ∀ {k : Nat} {x : Addr}, x ∈ fpAt H σ (ρ.set i .un) k → x ∉ fp := fun {k x} hx z => by
    obtain ⟨b, t, e, v, e1, e2, e3⟩ := fpAt_is hx
    rcases get_set e1 with ⟨_, q⟩ | ⟨n, q⟩
    · cases q
    · exact s.tr.dj k i n x (by unfold fpAt; rw [q, e2]; exact e3) (by rw [h3]; exact z)
  refine ⟨_, ex, ⟨s.fr.g.trans ex, s.fr.h, fun x n => ?_, fun x u q => ?_, s.fr.d⟩, by simpa using s.len, fun j e h => ?_, fun j b e h => ?_, fun j k x hj hk => s.inj j k x (no hj).2 (no hk).2, fun p hp => ?_, fun j c p h => ?_, s0.tr.move rfl rfl (fun j b t e h => by
    rcases get_set h with ⟨_, q⟩ | ⟨n, q⟩
    · cases q
    · exact ⟨by rw [List.getElem?_set_ne (Ne.symm n)]; exact q, rfl⟩) ex (fun k x hx => ⟨rfl, (if_neg (fp0 hx)).trans (s0.tr.got hx).2.1⟩) (fun k j x hx o z => ⟨by
    obtain ⟨n, b, e, o⟩ := no o
    exact ⟨b, e, by rw [List.getElem?_set_ne (Ne.symm n)]; exact o⟩, z⟩) (fun p hp => .inl hp)⟩
  · rw [if_neg (fun z => n (h4 x z))]; exact s.fr.n x n
  · by_cases z : x ∈ fp
    · have q' : (if x ∈ fp then H x else G x) = some u := q
      rw [if_pos z] at q'; exact q'
    · have q' : (if x ∈ fp then H x else G x) = some u := q
      rw [if_neg z] at q'; exact s.ex x u q'
  · rcases get_set h with ⟨rfl, q⟩ | ⟨hn', q⟩
    · cases q; exact ⟨_, h1, h2.rep ex hn fun x hx => if_pos hx⟩
    · obtain ⟨v, k1, k2⟩ := s.pu j e q
      exact ⟨v, k1, k2.mono ex⟩
  · rcases get_set h with ⟨rfl, q⟩ | ⟨hn', q⟩
    · cases q
    · obtain ⟨x, u, k1, k2, k3, k4, k5⟩ := s.ow j b e q
      have : x ∉ fp := fun z => s.tr.no i j x (by rw [h3]; exact z) ⟨b, e, q⟩ k1
      exact ⟨x, u, k1, k2, by rw [if_neg this]; exact k3, k4, k5.mono ex⟩
  · obtain ⟨k1, k2, k3, k4⟩ := s.pin p hp
    have : p.1 ∉ fp := fun z => s.tr.pn i p.1 (by rw [h3]; exact z) p hp rfl
    exact ⟨k1, k2, by rw [if_neg this]; exact k3, fun j hj => k4 j (no hj).2⟩
  · rcases get_set h with ⟨rfl, q⟩ | ⟨hn', q⟩
    · cases q
    · obtain ⟨k1, k2, dd, v, k3, k4, k5⟩ := s.er j c p q
      exact ⟨k1, k2, dd, v, k3, k4, k5.mono ex⟩
end
section
variable {X : Cx} {Xs : List XC} {W : WX} {st : Stmt} {sts : List Stmt}
/-- the tree of x is data from here on -/
def frzTr (i : Nat) (m : MS) : MS := fun ρ => match ρ[i]? with
  | some (.tr (false, false) sh d) => if noObj sh = true then m (ρ.set i (.pu d)) else none
  | _ => none
theorem rS_frzTr {K : PySem.W.Frag} {i : Nat} {m : MS} {D' : Ends} {σ : L2.St} {H : Hp} (h : rS K Xs W (frzTr i m) D' σ H) : rS K Xs W m D' σ H := by
  obtain ⟨B, G, ρ, r, s, h1, h2⟩ := h
  unfold frzTr at h1
  split at h1
  · rename_i sh d e
    by_cases hn : noObj sh = true
    · rw [if_pos hn] at h1
      obtain ⟨G', ex, s'⟩ := s.frzT e hn
      exact ⟨B, G', _, r, s', h1, h2⟩
    · rw [if_neg hn] at h1; cases h1
  · cases h1
theorem sb_frzTr {m : MS} (i : Nat) (h : SB X Xs W sts m) : SB X Xs W sts (frzTr i m) := pss_imp h fun D' σ H q => rS_frzTr q
theorem ss_frzTr {m : MS} (i : Nat) (h : SS X Xs W st m) : SS X Xs W st (frzTr i m) := ps_imp h fun D' σ H q => rS_frzTr q
end
end Tk
/-! A new list or dict of data as a tree. -/
namespace Tk
open PySem PySem.Spec PyProof.Rows L2 SX
theorem OwnD.of {K : PySem.W.Frag} {G H : Hp} : ∀ {vs : List (Key × V)} {ds : List (D × D)}, RepD K G vs ds → OwnD K G H .fz vs ds []
  | _, _, .nil => .nil
  | _, _, .int r t => OwnD.int (.fz r) (OwnD.of t) Dj.nil
  | _, _, .str r t => OwnD.str (.fz r) (OwnD.of t) Dj.nil
def mTrO (m : M D) : M (Sh × D) := m.bnd fun d ρ => match d with
  | .lst ds => some (.ok (.lst .fz, .lst ds) ρ)
  | .dic kvs => if uniqK kvs = true then some (.ok (.dic .fz, .dic kvs) ρ) else none
  | _ => none
section
variable {X : Cx} {Xs : List XC} {W : WX} {e : Expr}
theorem SO.tr {m : M D} (h : SO X Xs W e m) : STr X Xs W e (mTrO m) := by
  refine pe_imp h fun σ H Q ⟨B, G, ρ, s, r, h1, h2⟩ => ?_
  unfold mTrO M.bnd at h1
  cases em : m ρ with
  | none => rw [em] at h1; cases h1
  | some q =>
    rw [em] at h1
    refine ⟨B, G, ρ, s, q, em, ?_⟩
    cases q with
    | ex c p ρ1 => cases h1; exact h2
    | ok d ρ1 =>
      intro p o G' H' s' x hp ro n
      dsimp only at h1
      split at h1
      · rename_i ds
        cases h1
        obtain ⟨vs, rfl, rv⟩ := list_ty ro hp
        exact h2 p [p] G' H' s' x (.lst hp n.1 (Owns.of rv) (by simp)) fun y hy => by
          have : y = p := by simpa using hy
          rw [this]; exact n
      · rename_i kvs
        by_cases hu : uniqK kvs = true
        · rw [if_pos hu] at h1
          cases h1
          cases o <;> first | exact ro.elim | skip
          rename_i vs
          have ro' : RepD X.K G' vs kvs := ro
          exact h2 p [p] G' H' s' x (.dic hp n.1 (OwnD.of ro') (by simp) hu) fun y hy => by
            have : y = p := by simpa using hy
            rw [this]; exact n
        · rw [if_neg hu] at h1; cases h1
      · cases h1
end
end Tk
/-! WP rules for trees, first part. -/
namespace Tk
open PySem PySem.Spec PyProof.Rows L2 SX
section
variable {ρ : Cs}
theorem wm_pN {i : Nat} {Q : R (List Pt) → Prop} : Wm (pN i) ρ Q = Vr ρ[i]? fun _ _ _ => Q (.ok [] ρ) := by
  unfold Wm pN
  cases h : ρ[i]? with
  | none => simp [Vr, h]
  | some c => cases c <;> simp [Vr, h]
theorem wm_lk {α : Type} {i : Nat} {n : M α} {Q : R α → Prop} : Wm (lk i n) ρ Q = Vr ρ[i]? fun b s d => Wm n (ρ.set i (.tr (b.1, true) s d)) fun r => match r with
    | .ok e ρ' => ρ'[i]? = some (.tr (b.1, true) s d) ∧ Q (.ok e (ρ'.set i (.tr b s d)))
    | .ex c p ρ' => ρ'[i]? = some (.tr (b.1, true) s d) ∧ Q (.ex c p (ρ'.set i (.tr b s d))) := by
  classical
  unfold Wm lk
  cases h : ρ[i]? with
  | none => simp [Vr, h]
  | some c =>
    cases c with
    | tr b s d =>
      simp only [Vr]
      cases hn : n (ρ.set i (.tr (b.1, true) s d)) with
      | none => simp
      | some r =>
        cases r with
        | ok e ρ' => by_cases hc : ρ'[i]? = some (.tr (b.1, true) s d) <;> simp [hc]
        | ex c p ρ' => by_cases hc : ρ'[i]? = some (.tr (b.1, true) s d) <;> simp [hc]
    | _ => simp [Vr, h]
theorem wo_trAt {i : Nat} {π : List Pt} {K : Sh × D → Prop} : Wo (trAt i π ρ) K = Vr ρ[i]? fun _ s d => Wo (getP π s d) K := by
  unfold trAt
  cases h : ρ[i]? with
  | none => simp [Vr, wo_none, h]
  | some c => cases c <;> simp [Vr, wo_none, h]
/-- an instance with its fields, a list, a dict, data -/
def Vob (K : Str → Fs → List D → Prop) : Sh × D → Prop
  | (.obj c fs, .tup ds) => K c fs ds
  | _ => False
def Vfz (K : D → Prop) : Sh × D → Prop
  | (.fz, d) => K d
  | _ => False
theorem vs_fz {K : D → Prop} {d : D} : Vfz K (.fz, d) = K d := rfl
theorem vs_ob {K : Str → Fs → List D → Prop} {c : Str} {fs : Fs} {ds : List D} : Vob K (.obj c fs, .tup ds) = K c fs ds := rfl
theorem wm_mPl {i : Nat} {m : M (List Pt)} {Q : R D → Prop} : Wm (mPl i m) ρ Q = Wm m ρ (kb (fun π ρ => match trAt i π ρ with
  | some (.fz, d) => some (.ok d ρ)
  | _ => none) Q) := wm_bnd
theorem ws_frzTr {i : Nat} {m : MS} {Q : RS → Prop} : Ws (frzTr i m) ρ Q = Vr ρ[i]? fun b sh d => b = (false, false) ∧ noObj sh = true ∧ Ws m (ρ.set i (.pu d)) Q := by
  unfold Ws frzTr
  cases h : ρ[i]? with
  | none => simp [Vr, h]
  | some c => cases c with
    | tr b sh d =>
      obtain ⟨b1, b2⟩ := b
      cases b1 <;> cases b2 <;> cases hn : noObj sh <;> simp [Vr, hn]
    | _ => simp [Vr, h]
end
end Tk
/-! Code that is not reached; == (); sum of a list of ints. -/
namespace Tk
open PySem PySem.Spec PyProof.Rows L2 SX
section
variable {X : Cx} {Xs : List XC} {W : WX}
/-- not reached -/
def dead : MS := fun _ => none
theorem ss_dead {st : Stmt} : SS X Xs W st dead := ⟨fun pins s σ H D' I q => by
  obtain ⟨_, _, _, _, _, h, _⟩ := q
  cases h⟩
theorem sb_dead {sts : List Stmt} : SB X Xs W sts dead := ⟨fun pins s σ H D' I q => by
  obtain ⟨_, _, _, _, _, h, _⟩ := q
  cases h⟩
/-- a tuple against the empty one -/
def eqE : D → D → Option D
  | .tup a, .tup [] => some (.bl a.isEmpty)
  | _, _ => none
def rEmp (K : PySem.W.Frag) : R2 := fun x y H Q => ∃ a b xs, x = .ref a ∧ y = .ref b ∧ SqT K H a xs ∧ SqT K H b [] ∧ Q (.bl xs.isEmpty) H
theorem op_emp (hu : X.A.units + 64 < cLine) : OpR X (compareOp .Eq) (rEmp X.K) := by
  intro pins s σ H x y v u Q I rx ry h
  obtain ⟨a, b, xs, rfl, rfl, ha, hb, q⟩ := h
  cases rx; cases ry
  obtain ⟨us, r1, p1, _⟩ := I.tuple ha
  obtain ⟨ws, r2, p2, _⟩ := I.tuple hb
  have hw : ws = [] := by
    have := r2.length
    exact List.length_eq_zero_iff.mp this.symm
  subst hw
  refine PySem.SeqAt.rcIn_tuples (e := fun _ => true) p1 p2 (by omega) (fun j _ h2 => absurd h2 (by simp)) ⟨.bl xs.isEmpty, H, I, ?_, q⟩
  have hl := r1.length
  cases xs with
  | nil =>
    have : us = [] := List.length_eq_zero_iff.mp hl.symm
    subst this; rfl
  | cons z zs =>
    cases us with
    | nil => simp at hl
    | cons _ _ => rfl
theorem b_emp : BinR X (rEmp X.K) eqE := by
  intro G H x y d e z Q ex rx ry h q
  cases rx <;> first | (cases h; done) | skip
  rename_i a vs ds ha ra
  cases ry <;> first | (cases h; done) | skip
  rename_i b ws es hb rb
  cases es with
  | cons _ _ => cases h
  | nil =>
    cases rb
    cases h
    refine ⟨a, b, vs, rfl, rfl, ex.st ha.sq, ex.st hb.sq, ?_⟩
    have : vs.isEmpty = ds.isEmpty := by
      have := ra.length
      cases vs <;> cases ds <;> simp_all
    rw [this]
    exact q _ G H (Fr.refl ex) (.bl _)
theorem wo_eqE {a : List D} {K : D → Prop} : Wo (eqE (.tup a) (.tup [])) K = K (.bl a.isEmpty) := wo_some
/-- sum of ints -/
def intsOf : List D → Option (List Int)
  | [] => some []
  | .int b :: r => (intsOf r).map (b :: ·)
  | _ :: _ => none
theorem intsOf_map : ∀ {ds : List D} {bs : List Int}, intsOf ds = some bs → ds = bs.map D.int
  | [], _, h => by cases h; rfl
  | d :: r, bs, h => by
    cases d <;> first | (cases h; done) | skip
    obtain ⟨cs, h1, rfl⟩ := map_inv h
    rw [intsOf_map h1]; rfl
theorem intsOf_ints : ∀ (ns : List Int), intsOf (ns.map D.int) = some ns
  | [] => rfl
  | n :: r => by show (intsOf (r.map D.int)).map _ = _; rw [intsOf_ints r]; rfl
def sumD : List D → Option D
  | [.lst xs] => (intsOf xs).map fun bs => .int bs.sum
  | _ => none
theorem f_sum : CalR X (rSum X.K) sumD := by
  intro G H xs ds z Q ex rs h q
  unfold sumD at h
  split at h
  · obtain ⟨bs, h1, rfl⟩ := map_inv h
    obtain ⟨v, rfl, r⟩ := rs.one
    cases r with | lst ha r =>
    rw [intsOf_map h1] at r
    have := r.ints
    subst this
    exact ⟨_, bs, rfl, ex.sl (.inl (.inl ha)), q _ G H (Fr.refl ex) (.int _)⟩
  · cases h
theorem wo_sumD {xs : List D} {K : D → Prop} : Wo (sumD [.lst xs]) K = Wo (intsOf xs) fun bs => K (.int bs.sum) := wo_map
theorem ws_dead {ρ : Cs} {Q : RS → Prop} : Ws dead ρ Q = False := by
  unfold Ws dead; simp
theorem wo_inT {n : Bool} {d : D} {xs : List D} {Q : D → Prop} : Wo (inD n d (.tup xs)) Q = ((flatD d = true ∧ xs.all flatD = true) ∧ Q (.bl (if n then !(xs.any fun y => eqB y d) else xs.any fun y => eqB y d))) := by
  have : inD n d (.tup xs) = if flatD d = true ∧ xs.all flatD = true then some (.bl (if n then !(xs.any fun y => eqB y d) else xs.any fun y => eqB y d)) else none := by
    cases d <;> (first | rfl | (rename_i s; rcases s with _ | ⟨a, _ | ⟨b, r⟩⟩ <;> rfl))
  rw [this, wo_if]
/-! a comprehension whose turns change something -/
def KlT (A B : Cs → Prop) : R Bool → Prop
  | .ok b ρ => (b = true → A ρ) ∧ (b = false → B ρ)
  | .ex _ _ _ => False
def KlE (A : D → Cs → Prop) : R D → Prop
  | .ok y ρ => A y ρ
  | .ex _ _ _ => False
theorem kt_lT {A B : Cs → Prop} {b : Bool} {ρ : Cs} : KlT A B (.ok b ρ) = ((b = true → A ρ) ∧ (b = false → B ρ)) := rfl
theorem kt_lE {A : D → Cs → Prop} {y : D} {ρ : Cs} : KlE A (.ok y ρ) = A y ρ := rfl
theorem lcL_inv {vs : List Nat} {g : D → Cs → Option Cs} {mt : M Bool} {me : M D} (I : List D → List D → Cs → Prop)
    (h : ∀ d rest acc ρ, I (d :: rest) acc ρ → Wg (g d ρ) fun ρ2 => Wm mt ρ2 (KlT (fun ρ3 => Wm me ρ3 (KlE fun y ρ4 => I rest (acc ++ [y]) (unset vs ρ4))) (fun ρ3 => I rest acc (unset vs ρ3)))) :
    ∀ (its acc : List D) (ρ : Cs), acc.length + its.length ≤ sizeLine → I its acc ρ → ∃ acc' ρ', lcL vs g mt me its acc ρ = some (acc', ρ') ∧ I [] acc' ρ'
  | [], acc, ρ, _, hI => ⟨acc, ρ, rfl, hI⟩
  | d :: its, acc, ρ, hl, hI => by
    obtain ⟨ρ1, e1, r, e2, h2⟩ := h d its acc ρ hI
    unfold lcL
    rw [e1]
    dsimp only
    rw [e2]
    cases r with
    | ex c p ρ2 => exact h2.elim
    | ok b ρ2 => cases b with
      | false => exact lcL_inv I h its acc (unset vs ρ2) (by rw [List.length_cons] at hl; omega) (h2.2 rfl)
      | true =>
        obtain ⟨r3, e3, h3⟩ := h2.1 rfl
        dsimp only
        rw [e3]
        cases r3 with
        | ex c p ρ3 => exact h3.elim
        | ok y ρ3 =>
          dsimp only
          rw [List.length_cons] at hl
          rw [if_pos (by omega)]
          exact lcL_inv I h its (acc ++ [y]) (unset vs ρ3) (by rw [List.length_append, List.length_singleton]; omega) h3
theorem wm_lcI {vs : List Nat} {g : D → Cs → Option Cs} {mt : M Bool} {me : M D} {ρ : Cs} {Q : R D → Prop} {its : List D} (I : List D → List D → Cs → Prop) (hl : its.length ≤ sizeLine) (hp : plainAt ρ vs = true) (h0 : I its [] (unset vs ρ))
    (h : ∀ d rest acc ρ, I (d :: rest) acc ρ → Wg (g d ρ) fun ρ2 => Wm mt ρ2 (KlT (fun ρ3 => Wm me ρ3 (KlE fun y ρ4 => I rest (acc ++ [y]) (unset vs ρ4))) (fun ρ3 => I rest acc (unset vs ρ3))))
    (q : ∀ acc ρ1, I [] acc ρ1 → Q (.ok (.lst acc) (reset ρ vs ρ1))) :
    Wm (fun ρ => if plainAt ρ vs = true then (match lcL vs g mt me its [] (unset vs ρ) with | some (acc, ρ') => some (.ok (.lst acc) (reset ρ vs ρ')) | none => none) else none) ρ Q := by
  obtain ⟨acc, ρ1, e, hI⟩ := lcL_inv I h its [] (unset vs ρ) (by simpa using hl) h0
  unfold Wm
  dsimp only
  rw [if_pos hp, e]
  exact ⟨_, rfl, q acc ρ1 hI⟩
end
end Tk
/-! Trees, more: what is new beside ours changes; a tree seen as data; P[k] op= e; appending a tree; a method of a tree made in place. -/
namespace Tk
open PySem PySem.Spec PyProof.Rows L2 SX
section
variable {K : PySem.W.Frag} {B : Bs} {σ : L2.St} {G H G' H' : Hp} {ρ ρ' : Cs}
/-- only objects beside ours have changed -/
theorem SR.off (s : SR K B σ G H ρ) {S : List Addr} (hS : ∀ x ∈ S, NewO B σ G H ρ x ∧ ∃ o, H x = some o ∧ ∀ fs, o ≠ .xd fs) (f : Fr S G H G' H') : SR K B σ G' H' ρ := by
  have keep : ∀ a o, a ∉ S → H a = some o → H' a = some o := fun a o n h => f.h a o n h
  have gk : ∀ a o, H a = some o → G a = none → G' a = none := fun a o h g => (f.n a (by rw [h]; simp)).trans g
  refine ⟨⟨s.fr.g.trans f.g, fun x u n q => ?_, fun x n => (f.n x (s.fr.d x n)).trans (s.fr.n x n), f.e, fun x n => f.d x (s.fr.d x n)⟩, s.len, fun i d e => ?_, fun i b d e => ?_, s.inj, fun p hp => ?_, fun i c p e => ?_, s.tr.move rfl rfl (fun i b s d h => ⟨h, rfl⟩) f.g (fun i x hx => ?_) (fun i j x _ o z => ⟨o, z⟩) (fun p hp => .inl hp)⟩
  · refine f.h x u (fun z => ?_) (s.fr.h x u n q)
    have := (hS x z).1.2.1
    rw [q] at this; cases this
  · obtain ⟨v, h1, h2⟩ := s.pu i d e
    exact ⟨v, h1, h2.mono f.g⟩
  · obtain ⟨a, o, h1, h2, h3, h4, h5⟩ := s.ow i b d e
    exact ⟨a, o, h1, h2, gk a o h4 h3, keep a o (fun z => (hS a z).1.2.2.1 i ⟨b, d, e⟩ h1) h4, h5.mono f.g⟩
  · obtain ⟨h1, h2, h3, h4⟩ := s.pin p hp
    exact ⟨keep _ _ (fun z => (hS _ z).1.2.2.2.1 p hp rfl) h1, h2, gk _ _ h1 h3, h4⟩
  · obtain ⟨h1, h2, dd, v, h3, h4, h5⟩ := s.er i c p e
    refine ⟨h1, h2, dd, v, h3, keep _ _ (fun z => ?_) h4, h5.mono f.g⟩
    obtain ⟨o, ho, hn⟩ := (hS dd z).2
    rw [h4] at ho
    exact hn _ (Option.some.inj ho).symm
  · obtain ⟨⟨o, ho, _⟩, hg, _⟩ := s.tr.got hx
    exact ⟨(keep x o (fun z => (hS x z).1.2.2.2.2 i hx) ho).trans ho.symm, gk x o ho hg⟩
/-- an own tree of lists and dicts, seen as data for a while -/
theorem SR.view (s : SR K B σ G H ρ) {i : Nat} {b : Bool × Bool} {sh s1 : Sh} {d d1 : D} {π : List Pt} {v : V} (hi : ρ[i]? = some (.tr b sh d)) (hg : getP π sh d = some (s1, d1)) (hv : AtP H σ ρ i π v) (hn : noObj s1 = true) :
    ∃ Gv, Ex G Gv ∧ Ex Gv H ∧ Rep K Gv v d1 ∧ ∀ G2 H2, Fr [] Gv H G2 H2 → ∃ Gx, Fr [] G H Gx H2 := by
  classical
  obtain ⟨a, f1, k1, k2, k3, k4, k5, _⟩ := s.plc hi hg hv
  have ob := k4.objs
  refine ⟨fun x => if x ∈ f1 then H x else G x, fun x o h => ?_, fun x o h => ?_, k4.rep (fun x o h => ?_) hn (fun x hx => if_pos hx), fun G2 H2 f => ?_⟩
  · have : x ∉ f1 := fun z => by rw [(ob x z).2] at h; cases h
    show (if x ∈ f1 then H x else G x) = some o
    rw [if_neg this]; exact h
  · have h' : (if x ∈ f1 then H x else G x) = some o := h
    by_cases z : x ∈ f1
    · rw [if_pos z] at h'; exact h'
    · rw [if_neg z] at h'; exact s.ex x o h'
  · have : x ∉ f1 := fun z => by rw [(ob x z).2] at h; cases h
    show (if x ∈ f1 then H x else G x) = some o
    rw [if_neg this]; exact h
  · refine ⟨fun x => if x ∈ f1 then none else G2 x, fun x o h => ?_, f.h, fun x n => ?_, fun x o h => ?_, f.d⟩
    · have z : x ∉ f1 := fun z => by rw [(ob x z).2] at h; cases h
      show (if x ∈ f1 then none else G2 x) = some o
      rw [if_neg z]
      exact f.g x o (by show (if x ∈ f1 then H x else G x) = some o; rw [if_neg z]; exact h)
    · by_cases z : x ∈ f1
      · show (if x ∈ f1 then none else G2 x) = G x
        rw [if_pos z, (ob x z).2]
      · show (if x ∈ f1 then none else G2 x) = G x
        rw [if_neg z]
        exact (f.n x n).trans (if_neg z)
    · by_cases z : x ∈ f1
      · have h' : (if x ∈ f1 then none else G2 x) = some o := h
        rw [if_pos z] at h'; cases h'
      · have h' : (if x ∈ f1 then none else G2 x) = some o := h
        rw [if_neg z] at h'; exact f.e x o h'
end
section
variable {X : Cx} {Xs : List XC} {W : WX} {e a b c : Expr} {es : List Expr} {pos p apos cpos spos pos' tpos : Pos} {x f m : Str} {cl : Str}
/-- P op e, P a tree of lists and dicts; the answer is no object -/
def kVw (i : Nat) (π : List Pt) (f : D → D → Option D) (e : D) : M D := fun ρ => match trAt i π ρ with
  | some (sh, d) => if noObj sh = true then (match f d e with
    | some z => if flatD z = true then some (.ok z ρ) else none
    | none => none) else none
  | none => none
noncomputable def mVw (i : Nat) (f : D → D → Option D) (m : M (List Pt)) (n : M D) : M D := m.bnd fun π => thenP i n (kVw i π f)
theorem se_cmpP {op : CmpOp} {r : R2} {f : D → D → Option D} {m : M (List Pt)} {n : M D} (i : Nat) (ho : OpR X (compareOp op) r) (hf : BinR X r f) (hp : SPl X Xs W i a m) (hb : SE X Xs W b n) (hm : behindInMarks op b = false) : SE X Xs W (.Compare a [op] [b] pos) (mVw i f m n) := by
  refine pe_imp (pe_cmpR ho hp hb hm) fun σ H Q ⟨B, G, ρ, s, r, h1, h2⟩ => ?_
  unfold mVw at h1
  show rP X.K Xs W i m σ H _
  cases em : m ρ with
  | none => unfold M.bnd at h1; rw [em] at h1; cases h1
  | some q =>
    unfold M.bnd at h1
    rw [em] at h1
    refine ⟨B, G, ρ, s, q, em, ?_⟩
    cases q with
    | ex c p ρ' => cases h1; exact h2
    | ok π ρ1 =>
      intro v G1 H1 s1 x1 at1
      dsimp only at h1
      refine thenP_do s1 at1 h1 (fun k ρ2 w G2 H2 s2 x2 rk at2 h3 => ?_) (fun c p ρ' er => by subst er; exact h2)
      unfold kVw at h3
      split at h3
      · rename_i sh d et
        by_cases hn : noObj sh = true
        case neg => rw [if_neg hn] at h3; cases h3
        rw [if_pos hn] at h3
        split at h3
        · rename_i z ez
          obtain ⟨hz, h3⟩ := ite_inv h3
          subst h3
          obtain ⟨b', sh', d', e1, e2⟩ := trAt_inv et
          obtain ⟨Gv, y1, y2, y3, y4⟩ := s2.view e1 e2 at2 hn
          refine hf Gv H2 v w d k z Q y2 y3 (rk.mono y1) ez fun v' G3 H3 fr rv => ?_
          obtain ⟨Gx, fx⟩ := y4 G3 H3 fr
          exact h2 v' Gx H3 (s2.step fx) ((x1.trans x2).trans fx.g) (flat_rep hz rv)
        · cases h3
      · cases h3
theorem get_list : ∀ (pins : List (Addr × Obj)) (s : Shared) (σ : L2.St) (H : Hp) (o i : V) (ov iv : Value) (Q : VK), Inv X pins σ H s → RelV o ov → RelV i iv → rIxL X.K o i H Q →
    wpAny (model X.prog X.w) X.A (getItem ov iv) (EP X pins σ Q) X.xe s := by
  intro pins s σ H o i ov iv Q I ro ri h
  obtain ⟨p, xs, k, z, rfl, rfl, hq, he, q⟩ := h
  cases ro
  obtain ⟨t, rfl⟩ := ri
  obtain ⟨its, r, pl, hz⟩ := I.list hq
  obtain ⟨j, h1, h2, h3, h4, h5⟩ := atI_get he
  obtain ⟨w, ew, rw'⟩ := r.get h2
  have hl := r.length
  have hn := line63
  by_cases h0 : 0 ≤ k
  · have hj : k.toNat = j := by
      rw [seqIndex_of h0 h5] at h1
      exact Option.some.inj h1
    exact wpAny_getItem_list pl.isList h0 (by omega) (by rw [hj]; simpa using ew) ⟨z, H, I, rw', q⟩
  · have hj : (k + (its.toArray.size : Int)).toNat = j := by
      rw [seqIndex_neg (by omega) h4] at h1
      rw [List.size_toArray, ← hl]
      exact Option.some.inj h1
    exact wpAny_getItem_list_neg pl.isList (by omega) (by rw [List.size_toArray] <;> omega) (by omega) (by rw [hj]; simpa using ew) ⟨z, H, I, rw', q⟩
/-! ### P[k] op= e at a place: a list of data -/
def augLK (i : Nat) (g : D → D → Option D) (π : List Pt) (k d0 e : D) : MS := fun ρ => match g d0 e with
  | some z => setT i π z k ρ
  | none => none
noncomputable def augL2 (i : Nat) (g : D → D → Option D) (π : List Pt) (ne : M D) (k : D) : MS := fun ρ => match trAt i π ρ, k with
  | some (.lst .fz, .lst ds), .int j => (match ixN ds.length j with
    | some nn => (match ds[nn]? with
      | some d0 => ev (lk i ne) (augLK i g π k d0) ρ
      | none => none)
    | none => none)
  | _, _ => none
noncomputable def augPL (i : Nat) (g : D → D → Option D) (m : M (List Pt)) (nk ne : M D) : MS := ev m fun π ρ => if isLstP i π ρ = true then ev (lk i nk) (augL2 i g π ne) ρ else none
theorem ss_augPL {op : Operator} {r2 : R2} {g : D → D → Option D} {m : M (List Pt)} {nk ne : M D} {k : Expr} (i : Nat) (ho : SPl X Xs W i a m) (hk : SE X Xs W k nk) (he : SE X Xs W e ne) (hop : OpR X (inplaceOp op) r2) (hfn : BinR X r2 g)
    (ha : ∀ ov iv new, augStore k ov iv new = (do holding [new, ov, iv] (setItem ov iv new); release [new, ov, iv] []; pure .next) := by intros; rfl) : SS X Xs W (.AugAssign (.Subscript a k tpos) op e pos) (augPL i g m nk ne) := by
  refine ps_imp (ps_augS ho hk get_list he (tip := r2) (fun pins s σ H x y v u Q I rx ry q => hop pins s σ H x y v u Q I rx ry q) set_list ha) fun D' σ H h => ?_
  refine rS_evP h fun B v H1 π G1 ρ1 r s1 at1 h3 h4 => ?_
  by_cases hl : isLstP i π ρ1 = true
  case neg => rw [if_neg hl] at h3; cases h3
  rw [if_pos hl] at h3
  refine lkS s1 at1 h3 h4 fun kd ρ2 w G2 H2 s2 x2 rw2 at2 h5 => ?_
  unfold augL2 at h5
  split at h5
  · rename_i ds j et
    split at h5
    · rename_i nn en
      split at h5
      · rename_i d0 ed
        cases rw2
        obtain ⟨b0, sh0, t0, e1, e2⟩ := trAt_inv et
        obtain ⟨_, f1, _, _, _, k4, _⟩ := s2.plc e1 e2 at2
        cases k4 with
        | lst g1 g2 g3 g4 =>
          rename_i a1 vs fp u1 u2
          obtain ⟨_, rv⟩ := g3.fz
          obtain ⟨v0, q1, q2⟩ := rv.get ed
          refine ⟨a1, vs, j, v0, rfl, rfl, .inl (.inl g1), ?_, ?_⟩
          · unfold atI
            rw [rv.length, en]; exact q1
          refine lkS2 s2 at2 h5 h4 fun d ρ3 w3 G3 H3 s3 x3 rw3 at3 kk ke h6 => ?_
          unfold augLK at h6
          split at h6
          · rename_i z ez
            refine hfn G3 H3 v0 w3 d0 d z _ s3.ex (q2.mono x3) rw3 ez fun z' G4 H4 fr rz => ?_
            have s4 := s3.step fr
            have at4 : AtP H4 σ ρ3 i π (.ref a1) := by
              intro b s d q q1 q2
              obtain ⟨a', z1, z2⟩ := at3 b s d q q1 q2
              obtain ⟨a'', fp, y1, y2, y3, _⟩ := s3.tr.fp q1
              rw [z1] at y1; cases y1
              refine ⟨a', z1, ?_⟩
              rw [y2.valP_same (H' := H4) (fun x hx => by
                obtain ⟨⟨o, ho, _⟩, _⟩ := y2.objs x hx
                exact (fr.h x o (by simp) ho).trans ho.symm) q2]
              exact z2
            unfold setT at h6
            split at h6
            · rename_i b sh t j' e3 ej
              cases ej
              split at h6
              · rename_i ds' e4
                split at h6
                · rename_i n2 en2
                  split at h6
                  · rename_i q e5
                    cases h6
                    obtain ⟨_, f2, _, _, _, m4, _⟩ := s4.plc e3 e4 at4
                    cases m4 with
                    | lst r1 r2 r3 r4 =>
                      rename_i vs2 fp2 u2
                      refine ⟨a1, vs2, j, n2, rfl, rfl, r1, by rw [r3.length]; exact en2, ?_⟩
                      refine h4 σ G4 _ (s4.pw e3 e4 at4 (.lst (vs2.set n2 z')) e5 fun f3 o3 _ => ?_)
                      cases o3 with
                      | lst n1 m2 n3 n4 =>
                        rw [r1] at n1; cases n1
                        have hn : n2 < ds'.length := (ixN_seq en2).2.1
                        obtain ⟨v9, f0, l1, l2, l3, l4⟩ := n3.at_ (n := n2) (d := ds'[n2]) (by simp [hn])
                        obtain ⟨fp', w1, w2⟩ := l4 (upd H4 a1 (.lst (vs2.set n2 z'))) z' z [] (fun x hx _ => upd_ne fun (z : x = a1) => n4 (z ▸ hx)) (.fz rz) (fun x hx => nomatch hx)
                        have sub : ∀ x ∈ fp', x ∈ _ := fun x hx => (w2 x hx).elim (fun z => z.1) (fun z => nomatch z)
                        exact ⟨.head _, _, .lst upd_same m2 w1 (fun z => n4 (sub _ z)), fun x hx => .inl (by
                          rcases List.mem_cons.mp hx with e | hx
                          · rw [e]; exact .head _
                          · exact .tail _ (sub x hx))⟩
                  · cases h6
                · cases h6
              · cases h6
            · cases h6
          · cases h6
      · cases h5
    · cases h5
  · cases h5
/-! ### an empty list or dict, whatever it is to hold -/
def mTrE (s : Sh) (m : M D) : M (Sh × D) := m.bnd fun d ρ => match d with
  | .lst [] => some (.ok (.lst s, .lst []) ρ)
  | .dic [] => some (.ok (.dic s, .dic []) ρ)
  | _ => none
theorem SO.trE {m : M D} (s0 : Sh) (h : SO X Xs W e m) : STr X Xs W e (mTrE s0 m) := by
  refine pe_imp h fun σ H Q ⟨B, G, ρ, s, r, h1, h2⟩ => ?_
  unfold mTrE M.bnd at h1
  cases em : m ρ with
  | none => rw [em] at h1; cases h1
  | some q =>
    rw [em] at h1
    refine ⟨B, G, ρ, s, q, em, ?_⟩
    cases q with
    | ex c p ρ1 => cases h1; exact h2
    | ok d ρ1 =>
      intro p o G' H' s' x hp ro n
      dsimp only at h1
      split at h1
      · cases h1
        obtain ⟨vs, rfl, rv⟩ := list_ty ro hp
        cases rv
        exact h2 p [p] G' H' s' x (.lst hp n.1 .nil (by simp)) fun y hy => by
          have : y = p := by simpa using hy
          rw [this]; exact n
      · cases h1
        cases o <;> first | exact ro.elim | skip
        rename_i vs
        have ro' : RepD X.K G' vs [] := ro
        cases ro'
        exact h2 p [p] G' H' s' x (.dic hp n.1 .nil (by simp) rfl) fun y hy => by
          have : y = p := by simpa using hy
          rw [this]; exact n
      · cases h1
/-! ### P.append(e), e a new tree -/
open Classical in
theorem lk_doT {K : PySem.W.Frag} {n : M (Sh × D)} {B : Bs} {σ : L2.St} {G H : Hp} {ρ : Cs} {i : Nat} {r : R (Sh × D)} {Q : VK} (s : SR K B σ G H ρ) (h : lk i n ρ = some r) (q : match r with
    | .ok q ρ' => ∀ a fp G' H', SR K B σ G' H' ρ' → Ex G G' → Own K G' H' q.1 (.ref a) q.2 fp → (∀ x ∈ fp, NewO B σ G' H' ρ' x) → (∀ x ∈ fpAt H σ ρ i, H' x = H x) → ρ'[i]? = ρ[i]? → Q (.ref a) H'
    | .ex c p ρ' => ∀ G' H', SR K B σ G' H' ρ' → XP K Xs B G' H' c p fun cls dd => W cls dd σ H') : rT K Xs W n σ H Q := by
  unfold lk at h
  split at h
  · rename_i b sh d e
    have sl := s.lock e
    split at h
    · rename_i dd ρ' en
      obtain ⟨hc, rfl⟩ := ite_inv h
      refine ⟨_, G, _, sl, _, en, fun a fp G' H' s' x' o nw => ?_⟩
      obtain ⟨s2, k⟩ := s.free e s' hc
      refine q a fp G' H' s2 x' o (fun x hx => ?_) k (by rw [List.getElem?_set_self (List.getElem?_eq_some_iff.mp hc).1, e])
      obtain ⟨n1, n2, n3, n4, n5⟩ := nw x hx
      refine ⟨n1, n2, fun j hj => n3 j (isO_set hj (by intro b d z; cases z)).2, n4, fun j hj => n5 j ?_⟩
      unfold fpAt at hj ⊢
      by_cases z : j = i
      · subst z
        rw [List.getElem?_set_self (List.getElem?_eq_some_iff.mp hc).1] at hj
        rw [hc]
        cases hσ : σ[j]? with
        | none => rw [hσ] at hj; cases hj
        | some w => cases w <;> rw [hσ] at hj <;> first | exact hj | cases hj
      · rw [List.getElem?_set_ne (Ne.symm z)] at hj
        exact hj
    · rename_i cc pp ρ' en
      obtain ⟨hc, rfl⟩ := ite_inv h
      refine ⟨_, G, _, sl, _, en, fun G' H' s' => ?_⟩
      obtain ⟨s2, k⟩ := s.free e s' hc
      exact q G' H' s2
    · cases h
  · cases h
def appTT (i : Nat) (π : List Pt) (q0 : Sh × D) : MS := fun ρ => match ρ[i]? with
  | some (.tr (b, false) sh t) => (match getP π sh t with
    | some (.lst s, .lst ds) => if s.beq q0.1 = true ∧ ds.length < sizeLine then (match setP (.lst s) (.lst (ds ++ [q0.2])) π sh t with
      | some q => some (.nx (ρ.set i (.tr (b, false) q.1 q.2)))
      | none => none) else none
    | _ => none)
  | _ => none
noncomputable def appPT (i : Nat) (m : M (List Pt)) (n : M (Sh × D)) : MS := ev m fun π ρ => if isLstP i π ρ = true then ev (lk i n) (appTT i π) ρ else none
theorem ss_appPT {m : M (List Pt)} {n : M (Sh × D)} (i : Nat) (ho : SPl X Xs W i a m) (ha : STr X Xs W e n)
    (hbase : attributeBase a "append" X.env (eval a X.env) = eval a X.env := by rfl)
    (hfew : ((backTo cpos (starEach [e] X.env)).all (fun x => !x.1) && (backToKw cpos (keywordEach [] X.env)).all (fun x => x.1.isSome)
      && decide ([e].length + ([] : List Keyword).length + (if ([] : List Keyword).isEmpty then 0 else 1) < 30)) = true := by rfl)
    (hline : (apos.endLine == cpos.line) = true := by rfl) (hs : starEach [e] X.env = (false, eval e X.env) :: starEach [] X.env := by rfl) (hsw : swapsWith (.Call (.Attribute a "append" apos) [e] [] cpos) none spos.line X.env = pure false := by rfl) :
    SS X Xs W (.Expr (.Call (.Attribute a "append" apos) [e] [] cpos) spos) (appPT i m n) := by
  refine ps_imp (ps_expr (pe_bm F.plainAttrs_list F.slot_list_append F.type_list_append mt_append ho (pa_cons ha pa_nil hs) hbase hfew hline hs rfl) hsw) fun D' σ H h => ?_
  refine rS_evP h fun B v H1 π G1 ρ1 r s1 at1 h3 h4 => ?_
  by_cases hl : isLstP i π ρ1 = true
  case neg => rw [if_neg hl] at h3; cases h3
  rw [if_pos hl] at h3
  unfold isLstP at hl
  split at hl
  · rename_i s0 ds0 et
    obtain ⟨b0, sh0, t0, e1, e2⟩ := trAt_inv et
    obtain ⟨a', f1, k1, k2, k3, k4, _⟩ := s1.plc e1 e2 at1
    cases k4 with
    | lst g1 g2 g3 g4 =>
      rename_i a1 vs0 fp u1
      refine ⟨.inl ⟨rfl, vs0, .inl (.inl g1)⟩, ?_⟩
      unfold ev at h3
      cases el : lk i n ρ1 with
      | none => rw [el] at h3; cases h3
      | some r' =>
        rw [el] at h3
        cases r' with
        | ex c p ρ' =>
          cases h3
          exact lk_doT s1 el fun G' H' s' => h4 σ G' H' s'
        | ok q0 ρ2 =>
          refine lk_doT s1 el fun w fw G2 H2 s2 x2 ow nw kk ke => ?_
          have at2 := s1.plc2 at1 kk ke
          have h5 : appTT i π q0 ρ2 = some r := h3
          unfold appTT at h5
          split at h5
          · rename_i b sh t e3
            split at h5
            · rename_i sa ds e4
              by_cases hz : sa.beq q0.1 = true ∧ ds.length < sizeLine
              case neg => rw [if_neg hz] at h5; cases h5
              rw [if_pos hz] at h5
              obtain ⟨hs1, hz⟩ := hz
              have hs2 := Sh.beq_eq hs1
              subst hs2
              split at h5
              · rename_i q e5
                cases h5
                obtain ⟨_, f2, _, _, _, m4, m5, _⟩ := s2.plc e3 e4 at2
                cases m4 with
                | lst r1 r2 r3 r4 =>
                  rename_i vs fp2 u2
                  have na : a1 ∉ fw := fun z => (nw a1 z).2.2.2.2 i (m5 a1 (.head _))
                  refine ⟨a1, vs, .ref w, rfl, rfl, r1, by rw [r3.length]; exact hz, ?_⟩
                  refine h4 σ G2 _ (s2.pw e3 e4 at2 (.lst (vs ++ [.ref w])) e5 fun f3 o3 o3s => ?_)
                  cases o3 with
                  | lst n1 n2 n3 n4 =>
                    rw [r1] at n1; cases n1
                    have ow' := ow.keep (H' := upd H2 a1 (.lst (vs ++ [.ref w]))) (Ex.refl G2) fun x hx => ⟨upd_ne fun (z : x = a1) => na (z ▸ hx), (nw x hx).1⟩
                    have kp := n3.keep (H' := upd H2 a1 (.lst (vs ++ [.ref w]))) (Ex.refl G2) fun x hx => ⟨upd_ne fun (z : x = a1) => n4 (z ▸ hx), (n3.objs x hx).2⟩
                    have dj : Dj fw _ := fun x hx z => (nw x hx).2.2.2.2 i (o3s x (.tail _ z))
                    refine ⟨.head _, _, .lst upd_same n2 (kp.append ow' dj) (fun z => ?_), fun x hx => ?_⟩
                    · rcases List.mem_append.mp z with z | z
                      · exact n4 z
                      · exact na z
                    · rcases List.mem_cons.mp hx with e | hx
                      · rw [e]; exact .inl (.head _)
                      · rcases List.mem_append.mp hx with hx | hx
                        · exact .inl (.tail _ hx)
                        · exact .inr (nw x hx)
              · cases h5
            · cases h5
          · cases h5
  · cases hl
/-! ### C(..).m() -/
def mMetN (c m : Str) (F : FnD) (mk : M (Sh × D)) : M D := mk.bnd fun q ρ => match q, F.ks with
  | (.obj c' fs, .tup ds), [.t s0 _] => if c' = c ∧ (fldAt m fs ds).isNone = true ∧ F.fr = false ∧ s0.beq (.obj c' fs) = true then (match F.sem [.tup ds] with
    | some (.ret d _) => some (.ok d ρ)
    | some (.exc k p _) => some (.ex k p ρ)
    | none => none) else none
  | _, _ => none
theorem se_metN {F : FnD} {mk : M (Sh × D)} {pl : Sem Bool} (C : CalM X Xs cl m F) (tk : Takes X W) (he : STr X Xs W a mk)
    (ht : eval (.Call (.Attribute a m apos) [] [] pos) X.env = (do
      let ov ← eval a X.env
      standAt apos.atName
      let (f, first) ← holding [ov] (getMethod ov m pl)
      callWith pos f first (backTo pos (starEach [] X.env)) (backToKw pos (keywordEach [] X.env))) := by rfl) :
    SE X Xs W (.Call (.Attribute a m apos) [] [] pos) (mMetN cl m F mk) := by
  obtain ⟨C, k, f, fd, ps, hC, hc, hm, F1, hr, hb⟩ := C.run
  refine pe_imp (pe_methW0 (pl := pl) he hc hm F1 hr hb (fun σ => passAt tk σ) ht) fun σ H Q ⟨B, G, ρ, s, r, h1, h2⟩ => ?_
  unfold mMetN M.bnd at h1
  cases em : mk ρ with
  | none => rw [em] at h1; cases h1
  | some q =>
    rw [em] at h1
    refine ⟨B, G, ρ, s, q, em, ?_⟩
    cases q with
    | ex c p ρ1 => cases h1; exact h2
    | ok q ρ1 =>
      intro a0 fp G1 H1 s1 x1 ow nw
      dsimp only at h1
      split at h1
      · rename_i c' fs ds s0 sb hk
        by_cases hz : c' = cl ∧ (fldAt m fs ds).isNone = true ∧ F.fr = false ∧ s0.beq (.obj c' fs) = true
        case neg => rw [if_neg hz] at h1; cases h1
        rw [if_pos hz] at h1
        obtain ⟨rfl, z2, z3, z4⟩ := hz
        have z5 := Sh.beq_eq z4
        subst z5
        have ow1 := ow
        cases ow1 with
        | obj g0 g1 g2 g3 g4 g5 g6 g7 g8 =>
          rename_i C' dx vs fp0
          rw [hC] at g0; cases g0
          refine ⟨a0, dx, vs, rfl, g1, g5.no (by simpa using z2), ?_⟩
          have hS : ∀ x ∈ SPU [] [(0, a0, a0 :: dx :: fp0)], NewO B σ G1 H1 ρ1 x ∧ ∃ o, H1 x = some o ∧ ∀ fs, o ≠ .xd fs := fun x hx => by
            have hx' : x ∈ a0 :: dx :: fp0 := by simpa [SPU] using hx
            exact ⟨nw x hx', (ow.objs x hx').1⟩
          have args : argsOk X.K G1 H1 0 F.ks [.ref a0] [.tup ds] [] [(0, a0, a0 :: dx :: fp0)] [] := by rw [hk]; exact ⟨rfl, rfl, ow, trivial⟩
          have lent : LentOk [] [(0, a0, a0 :: dx :: fp0)] [] := ⟨List.nodup_nil, Nat.le_refl _, (fun _ h => nomatch h), (fun _ h => nomatch h), (fun _ _ _ h => nomatch h), List.Pairwise.nil⟩
          show spF X.K Xs F [.ref a0] H1 Q (WE W σ)
          cases hs : F.sem [.tup ds] with
          | none => rw [hs] at h1; cases h1
          | some fr =>
            rw [hs] at h1
            refine ⟨G1, [], [(0, a0, a0 :: dx :: fp0)], [], [.tup ds], fr, s1.ex, args, lent, hs, ?_⟩
            cases fr with
            | ret d outs =>
              cases h1
              intro v G' H' f ho hv
              rw [if_neg (by rw [z3]; decide)] at hv
              exact h2 v G' H' (s1.off hS f) (x1.trans f.g) hv
            | exc k p outs =>
              cases h1
              intro G' H' f ho
              have s' := s1.off hS f
              obtain ⟨x, hx1, hx2⟩ := h2 G' H' s'
              refine ⟨x, hx1, ?_⟩
              cases hf : x.f with
              | none => rw [hf] at hx2; exact hx2
              | some f' =>
                rw [hf] at hx2
                exact fun dd v w1 w2 w3 w4 => hx2 dd v w1 (s1.fresh w2).2.2.1 w3 w4
      · cases h1
end
end Tk
/-! WP rules for trees, second part. -/
namespace Tk
open PySem PySem.Spec PyProof.Rows L2 SX
section
variable {ρ : Cs} {i : Nat} {π : List Pt} {K : Sh × D → Prop} {s s' : Sh} {d d' : D}
theorem ws_wo {m : MS} {Q : RS → Prop} : Ws m ρ Q = Wo (m ρ) Q := rfl
theorem wm_wo {α : Type} {m : M α} {Q : R α → Prop} : Wm m ρ Q = Wo (m ρ) Q := rfl
theorem wo_ifo {α : Type} {c : Prop} [Decidable c] {o : Option α} {Q : α → Prop} : Wo (if c then o else none) Q = (c ∧ Wo o Q) := by
  by_cases h : c <;> simp [h, wo_none]
theorem wo_gp0 : Wo (getP [] s d) K = K (s, d) := wo_some
theorem wo_gpc {p : Pt} : Wo (getP (p :: π) s d) K = Wo (step1 s d p) fun q => Wo (getP π q.1 q.2) K := wo_bind
theorem wo_s1f {c f : Str} {fs : Fs} {ds : List D} : Wo (step1 (.obj c fs) (.tup ds) (.fld f)) K = Wo (fldAt f fs ds) K := rfl
theorem wo_s1i {ds : List D} {n : Nat} : Wo (step1 (.lst s) (.lst ds) (.idx n)) K = Wo ds[n]? fun d => K (s, d) := wo_map
theorem wo_s1k {kvs : List (D × D)} {k : D} : Wo (step1 (.dic s) (.dic kvs) (.key k)) K = Wo (getK k kvs) fun d => K (s, d) := wo_map
theorem wo_sp0 : Wo (setP s' d' [] s d) K = K (s', d') := wo_some
theorem wo_spc {p : Pt} : Wo (setP s' d' (p :: π) s d) K = Wo (step1 s d p) fun q => Wo (setP s' d' π q.1 q.2) fun r => Wo (put1 s d p r.1 r.2) K := by
  show Wo ((step1 s d p).bind _) K = _
  cases h : step1 s d p with
  | none => simp [wo_none]
  | some q =>
    simp only [Option.bind_some, wo_some]
    rw [wo_bind]
theorem wo_p1f {c f : Str} {fs : Fs} {ds : List D} : Wo (put1 (.obj c fs) (.tup ds) (.fld f) s' d') K = Wo (fldSet f s' d' fs ds) fun q => K (.obj c q.1, .tup q.2) := wo_map
theorem wo_p1i {ds : List D} {n : Nat} : Wo (put1 (.lst s) (.lst ds) (.idx n) s' d') K = (s'.beq s = true ∧ K (.lst s, .lst (ds.set n d'))) := wo_if
theorem wo_p1k {kvs : List (D × D)} {k : D} : Wo (put1 (.dic s) (.dic kvs) (.key k) s' d') K = (s'.beq s = true ∧ K (.dic s, .dic (putKD k d' kvs))) := wo_if
theorem wo_beqS : (s.beq s = true) = True := by rw [Sh.beq_self]; simp
/-- a list, a dict -/
def Vll (K : Sh → List D → Prop) : Sh × D → Prop
  | (.lst s, .lst ds) => K s ds
  | _ => False
def Vdd (K : Sh → List (D × D) → Prop) : Sh × D → Prop
  | (.dic s, .dic ds) => K s ds
  | _ => False
theorem vs_ll {K : Sh → List D → Prop} {ds : List D} : Vll K (.lst s, .lst ds) = K s ds := rfl
theorem vs_dd {K : Sh → List (D × D) → Prop} {ds : List (D × D)} : Vdd K (.dic s, .dic ds) = K s ds := rfl
/-- what stands at the place -/
def Wt (i : Nat) (π : List Pt) (ρ : Cs) (K : Sh × D → Prop) (_b : Bx K := .mk) : Prop := Wo (trAt i π ρ) K
theorem wt_at : Wt i π ρ K = Vr ρ[i]? fun _ s d => Wo (getP π s d) K := wo_trAt
theorem wt_of {α : Type} {o : Option α} {P : α → Prop} {g : Sh × D → Option α} (h : o = (trAt i π ρ).bind g) : (∃ r, o = some r ∧ P r) = Wt i π ρ fun q => Wo (g q) P := by
  unfold Wt Wo
  rw [h]
  cases trAt i π ρ with
  | none => simp
  | some q => simp
end
section
variable {ρ : Cs} {i : Nat} {π : List Pt}
def pFk (i : Nat) (c f : Str) (π : List Pt) : M (List Pt) := fun ρ => match trAt i π ρ with
  | some (.obj c' fs, .tup ds) => if c' = c ∧ (fldAt f fs ds).isSome = true then some (.ok (π ++ [.fld f]) ρ) else none
  | _ => none
theorem wm_pF {c f : Str} {m : M (List Pt)} {Q : R (List Pt) → Prop} : Wm (pF i c f m) ρ Q = Wm m ρ (kb (pFk i c f) Q) := wm_bnd
theorem wm_pFk {c f : Str} {Q : R (List Pt) → Prop} : Wm (pFk i c f π) ρ Q = Wt i π ρ (Vob fun c' fs ds => c' = c ∧ Wo (fldAt f fs ds) fun _ => Q (.ok (π ++ [.fld f]) ρ)) := by
  rw [wm_wo]
  unfold Wt pFk
  cases h : trAt i π ρ with
  | none => simp [wo_none]
  | some q =>
    obtain ⟨s, d⟩ := q
    cases s <;> cases d <;> simp only [Vob, wo_some, wo_none]
    rename_i c' fs ds
    cases hf : fldAt f fs ds <;> by_cases hc : c' = c <;> simp [hc, wo_some, wo_none]
theorem wm_pIxL {m : M (List Pt)} {n : M D} {Q : R (List Pt) → Prop} : Wm (pIxL i m n) ρ Q = Wm m ρ (kb (fun π => thenP i n (pIL i π)) Q) := wm_bnd
theorem wm_pIxD {m : M (List Pt)} {n : M D} {Q : R (List Pt) → Prop} : Wm (pIxD i m n) ρ Q = Wm m ρ (kb (fun π => thenP i n (pID i π)) Q) := wm_bnd
theorem wm_thenP {α β : Type} {n : M α} {f : α → M β} {Q : R β → Prop} : Wm (thenP i n f) ρ Q = Wm (lk i n) ρ (kb f Q) := wm_bnd
/-- behind the lock -/
def Klk {α : Type} (i : Nat) (b : Bool × Bool) (s : Sh) (d : D) (Q : R α → Prop) : R α → Prop
  | .ok e ρ' => ρ'[i]? = some (.tr (b.1, true) s d) ∧ Q (.ok e (ρ'.set i (.tr b s d)))
  | .ex c p ρ' => ρ'[i]? = some (.tr (b.1, true) s d) ∧ Q (.ex c p (ρ'.set i (.tr b s d)))
theorem wm_lk2 {α : Type} {n : M α} {Q : R α → Prop} : Wm (lk i n) ρ Q = Vr ρ[i]? fun b s d => Wm n (ρ.set i (.tr (b.1, true) s d)) (Klk i b s d Q) := by
  rw [wm_lk]
  unfold Vr
  cases ρ[i]? with
  | none => rfl
  | some c =>
    cases c <;> first | rfl | skip
theorem kt_lko {α : Type} {b : Bool × Bool} {s : Sh} {d : D} {Q : R α → Prop} {e : α} : Klk i b s d Q (.ok e ρ) = (ρ[i]? = some (.tr (b.1, true) s d) ∧ Q (.ok e (ρ.set i (.tr b s d)))) := rfl
theorem kt_lkx {α : Type} {b : Bool × Bool} {s : Sh} {d : D} {Q : R α → Prop} {c : Nat} {p : D} : Klk i b s d Q (.ex c p ρ) = (ρ[i]? = some (.tr (b.1, true) s d) ∧ Q (.ex c p (ρ.set i (.tr b s d)))) := rfl
theorem wm_pIL {j : Int} {Q : R (List Pt) → Prop} : Wm (pIL i π (.int j)) ρ Q = Wt i π ρ (Vll fun _ ds => Wo (ixN ds.length j) fun n => Q (.ok (π ++ [.idx n]) ρ)) := by
  unfold Wm Wt Wo pIL
  cases h : trAt i π ρ with
  | none => simp
  | some q =>
    obtain ⟨s, d⟩ := q
    cases s <;> cases d <;> simp [Vll]
    rename_i s ds
    cases hf : ixN ds.length j <;> simp
theorem wm_pID {k : D} {Q : R (List Pt) → Prop} : Wm (pID i π k) ρ Q = Wt i π ρ (Vdd fun _ kvs => Wo (getK k kvs) fun _ => Q (.ok (π ++ [.key k]) ρ)) := by
  unfold Wm Wt Wo pID
  cases h : trAt i π ρ with
  | none => simp
  | some q =>
    obtain ⟨s, d⟩ := q
    cases s <;> cases d <;> simp [Vdd]
    rename_i s ds
    cases hf : getK k ds <;> simp
def mPlk (i : Nat) (π : List Pt) : M D := fun ρ => match trAt i π ρ with
  | some (.fz, d) => some (.ok d ρ)
  | _ => none
theorem wm_mPl2 {m : M (List Pt)} {Q : R D → Prop} : Wm (mPl i m) ρ Q = Wm m ρ (kb (mPlk i) Q) := wm_bnd
theorem wm_mPlk {Q : R D → Prop} : Wm (mPlk i π) ρ Q = Wt i π ρ (Vfz fun d => Q (.ok d ρ)) := by
  unfold Wm Wt Wo mPlk
  cases h : trAt i π ρ with
  | none => simp
  | some q =>
    obtain ⟨s, d⟩ := q
    cases s <;> simp [Vfz]
theorem wm_mVw {f : D → D → Option D} {m : M (List Pt)} {n : M D} {Q : R D → Prop} : Wm (mVw i f m n) ρ Q = Wm m ρ (kb (fun π => thenP i n (kVw i π f)) Q) := wm_bnd
theorem wm_kVw {f : D → D → Option D} {e : D} {Q : R D → Prop} : Wm (kVw i π f e) ρ Q = Wt i π ρ fun q => noObj q.1 = true ∧ Wo (f q.2 e) fun z => flatD z = true ∧ Q (.ok z ρ) := by
  unfold Wm Wt Wo kVw
  cases h : trAt i π ρ with
  | none => simp
  | some q =>
    obtain ⟨s, d⟩ := q
    by_cases hn : noObj s = true <;> simp [hn]
    cases f d e with
    | none => simp
    | some z => by_cases hz : flatD z = true <;> simp [hz]
/-! statements -/
variable {Q : RS → Prop}
def isLk (i : Nat) (k : List Pt → MS) (π : List Pt) : MS := fun ρ => if isLstP i π ρ = true then k π ρ else none
theorem ws_isLk {k : List Pt → MS} : Ws (isLk i k π) ρ Q = Wt i π ρ (Vll fun _ _ => Ws (k π) ρ Q) := by
  rw [ws_wo]
  unfold Wt isLk isLstP
  cases h : trAt i π ρ with
  | none => simp [wo_none]
  | some q =>
    obtain ⟨s, d⟩ := q
    cases s <;> cases d <;> simp [Vll, wo_some, wo_none, ws_wo]
theorem ws_appP {m : M (List Pt)} {n : M D} : Ws (appP i m n) ρ Q = Wm m ρ (ks (isLk i fun π => ev (lk i n) (appT i π)) Q) := ws_ev
theorem ws_appT {d : D} : Ws (appT i π d) ρ Q = Vr ρ[i]? fun b sh t => b.2 = false ∧ Wo (getP π sh t) (Vll fun s ds => s.beq .fz = true ∧ ds.length < sizeLine ∧ Wo (setP (.lst .fz) (.lst (ds ++ [d])) π sh t) fun q => Q (.nx (ρ.set i (.tr b q.1 q.2)))) := by
  rw [ws_wo]
  unfold appT
  cases h : ρ[i]? with
  | none => simp [Vr, wo_none]
  | some c =>
    cases c with
    | tr b sh t =>
      obtain ⟨b1, b2⟩ := b
      cases b2 with
      | true => simp [Vr, wo_none]
      | false =>
        simp only [Vr, true_and]
        cases hg : getP π sh t with
        | none => simp [wo_none]
        | some q =>
          obtain ⟨s, d0⟩ := q
          rw [wo_some]
          cases s <;> cases d0 <;> simp only [Vll, wo_none]
          all_goals first | (rename_i s ds; cases s) | skip
          all_goals simp only [Sh.beq, Bool.false_eq_true, false_and, true_and, wo_none]
          rw [wo_ifo]
          cases setP (.lst .fz) (.lst (_ ++ [d])) π sh t <;> simp [wo_none, wo_some]
    | _ => simp [Vr, wo_none]
theorem ws_setPL {mv n : M D} {m : M (List Pt)} : Ws (setPL i mv m n) ρ Q = Wm mv ρ (ks (fun v => ev m (isLk i fun π => ev (lk i n) (setT i π v))) Q) := ws_ev
theorem ws_setT {v : D} {j : Int} : Ws (setT i π v (.int j)) ρ Q = Vr ρ[i]? fun b sh t => b.2 = false ∧ Wo (getP π sh t) (Vll fun s ds => s.beq .fz = true ∧ Wo (ixN ds.length j) fun n => Wo (setP (.lst .fz) (.lst (ds.set n v)) π sh t) fun q => Q (.nx (ρ.set i (.tr b q.1 q.2)))) := by
  rw [ws_wo]
  unfold setT
  cases h : ρ[i]? with
  | none => simp [Vr, wo_none]
  | some c =>
    cases c with
    | tr b sh t =>
      obtain ⟨b1, b2⟩ := b
      cases b2 with
      | true => simp [Vr, wo_none]
      | false =>
        simp only [Vr, true_and]
        cases hg : getP π sh t with
        | none => simp [wo_none]
        | some q =>
          obtain ⟨s, d0⟩ := q
          rw [wo_some]
          cases s <;> cases d0 <;> simp only [Vll, wo_none]
          all_goals first | (rename_i s ds; cases s) | skip
          all_goals simp only [Sh.beq, Bool.false_eq_true, false_and, true_and, wo_none]
          cases ixN ds.length j with
          | none => simp [wo_none]
          | some n =>
            simp only [wo_some]
            cases setP (.lst .fz) (.lst (ds.set n v)) π sh t <;> simp [wo_none, wo_some]
    | _ => simp [Vr, wo_none]
theorem ws_setPF {c f : Str} {mv : M D} {m : M (List Pt)} : Ws (setPF i c f mv m) ρ Q = Wm mv ρ (ks (fun v => ev m fun π => fldT i c f π v) Q) := ws_ev
theorem ws_fldT {c f : Str} {v : D} : Ws (fldT i c f π v) ρ Q = Vr ρ[i]? fun b sh t => b.2 = false ∧ Wo (getP π sh t) (Vob fun c' fs ds => c' = c ∧ ds.length < 1000 ∧ Wo (fldSet f .fz v fs ds) fun fq => Wo (setP (.obj c' fq.1) (.tup fq.2) π sh t) fun q => Q (.nx (ρ.set i (.tr b q.1 q.2)))) := by
  rw [ws_wo]
  unfold fldT
  cases h : ρ[i]? with
  | none => simp [Vr, wo_none]
  | some c =>
    cases c with
    | tr b sh t =>
      obtain ⟨b1, b2⟩ := b
      cases b2 with
      | true => simp [Vr, wo_none]
      | false =>
        simp only [Vr, true_and]
        cases hg : getP π sh t with
        | none => simp [wo_none]
        | some q =>
          obtain ⟨s, d0⟩ := q
          rw [wo_some]
          cases s <;> cases d0 <;> simp only [Vob, wo_none]
          rename_i c' fs ds
          rw [wo_ifo, and_assoc]
          cases fldSet f .fz v fs ds with
          | none => simp [wo_none]
          | some fq =>
            simp only [wo_some]
            cases setP (.obj c' fq.1) (.tup fq.2) π sh t <;> simp [wo_none, wo_some]
    | _ => simp [Vr, wo_none]
def isFk (i : Nat) (cl f : Str) (k : List Pt → MS) (π : List Pt) : MS := fun ρ => if isFldP i cl f π ρ = true then k π ρ else none
theorem ws_isFk {cl f : Str} {k : List Pt → MS} : Ws (isFk i cl f k π) ρ Q = Wt i π ρ (Vob fun c' fs ds => c' = cl ∧ Wo (fldAt f fs ds) fun _ => Ws (k π) ρ Q) := by
  rw [ws_wo]
  unfold Wt isFk isFldP
  cases h : trAt i π ρ with
  | none => simp [wo_none]
  | some q =>
    obtain ⟨s, d⟩ := q
    cases s <;> cases d <;> first | (simp [Vob, wo_some, wo_none]; done) | skip
    rename_i c' fs ds
    rw [wo_some]
    show Wo (if _ then _ else none) Q = (c' = cl ∧ _)
    cases hf : fldAt f fs ds <;> by_cases hc : c' = cl <;> simp [hc, wo_some, wo_none, ws_wo, hf]
theorem ws_augPF {cl f : Str} {g : D → D → Option D} {m : M (List Pt)} {n : M D} : Ws (augPF i cl f g m n) ρ Q = Wm m ρ (ks (isFk i cl f fun π => ev (lk i n) (augT i cl f g π)) Q) := ws_ev
theorem ws_augT {cl f : Str} {g : D → D → Option D} {e : D} : Ws (augT i cl f g π e) ρ Q = Wt i π ρ (Vob fun _ fs ds => Wo (fldAt f fs ds) (Vfz fun d0 => Wo (g d0 e) fun z => Ws (fldT i cl f π z) ρ Q)) := by
  rw [ws_wo]
  unfold Wt augT
  cases h : trAt i π ρ with
  | none => simp [wo_none]
  | some q =>
    obtain ⟨s, d⟩ := q
    cases s <;> cases d <;> first | (simp [Vob, wo_some, wo_none]; done) | skip
    rename_i c' fs ds
    rw [wo_some]
    show _ = Wo (fldAt f fs ds) _
    dsimp only
    cases hf : fldAt f fs ds with
    | none => simp [wo_none]
    | some q2 =>
      obtain ⟨s2, d2⟩ := q2
      rw [wo_some]
      cases s2 <;> first | (simp [Vfz, wo_none]; done) | skip
      show _ = Wo (g d2 e) _
      dsimp only
      cases g d2 e <;> simp [wo_none, wo_some, ws_wo]
theorem ws_augPL {g : D → D → Option D} {m : M (List Pt)} {nk ne : M D} : Ws (augPL i g m nk ne) ρ Q = Wm m ρ (ks (isLk i fun π => ev (lk i nk) (augL2 i g π ne)) Q) := ws_ev
theorem ws_augL2 {g : D → D → Option D} {ne : M D} {j : Int} : Ws (augL2 i g π ne (.int j)) ρ Q = Wt i π ρ (Vll fun s ds => s.beq .fz = true ∧ Wo (ixN ds.length j) fun n => Wo ds[n]? fun d0 => Wm (lk i ne) ρ (ks (augLK i g π (.int j) d0) Q)) := by
  rw [ws_wo]
  unfold Wt augL2
  cases h : trAt i π ρ with
  | none => simp [wo_none]
  | some q =>
    obtain ⟨s, d⟩ := q
    cases s <;> cases d <;> first | (simp [Vll, wo_some, wo_none]; done) | skip
    rename_i s ds
    cases s <;> first | (simp [Vll, wo_some, wo_none, Sh.beq]; done) | skip
    rw [wo_some]
    show _ = (Sh.beq .fz .fz = true ∧ _)
    simp only [Sh.beq, true_and]
    cases ixN ds.length j with
    | none => simp [wo_none]
    | some n =>
      simp only [wo_some]
      cases ds[n]? with
      | none => simp [wo_none]
      | some d0 =>
        simp only [wo_some]
        exact ws_ev
theorem ws_augLK {g : D → D → Option D} {k d0 e : D} : Ws (augLK i g π k d0 e) ρ Q = Wo (g d0 e) fun z => Ws (setT i π z k) ρ Q := by
  rw [ws_wo]
  unfold augLK
  cases g d0 e <;> simp [wo_none, wo_some, ws_wo]
theorem ws_appPT {m : M (List Pt)} {n : M (Sh × D)} : Ws (appPT i m n) ρ Q = Wm m ρ (ks (isLk i fun π => ev (lk i n) (appTT i π)) Q) := ws_ev
theorem ws_appTT {s0 : Sh} {d : D} : Ws (appTT i π (s0, d)) ρ Q = Vr ρ[i]? fun b sh t => b.2 = false ∧ Wo (getP π sh t) (Vll fun s ds => s.beq s0 = true ∧ ds.length < sizeLine ∧ Wo (setP (.lst s) (.lst (ds ++ [d])) π sh t) fun q => Q (.nx (ρ.set i (.tr b q.1 q.2)))) := by
  rw [ws_wo]
  unfold appTT
  cases h : ρ[i]? with
  | none => simp [Vr, wo_none]
  | some c =>
    cases c with
    | tr b sh t =>
      obtain ⟨b1, b2⟩ := b
      cases b2 with
      | true => simp [Vr, wo_none]
      | false =>
        simp only [Vr, true_and]
        cases hg : getP π sh t with
        | none => simp [wo_none]
        | some q =>
          obtain ⟨s, d0⟩ := q
          rw [wo_some]
          cases s <;> cases d0 <;> simp only [Vll, wo_none]
          rename_i s ds
          rw [wo_ifo, and_assoc]
          cases setP (.lst s) (.lst (ds ++ [d])) π sh t <;> simp [wo_none, wo_some]
    | _ => simp [Vr, wo_none]
/-- a new tree is stored -/
def ksT (i : Nat) (Q : RS → Prop) : R (Sh × D) → Prop
  | .ok q ρ => Wg (putTr i q ρ) fun ρ => Q (.nx ρ)
  | .ex c p ρ => Q (.ex c p ρ)
theorem kt_sT {q : Sh × D} : ksT i Q (.ok q ρ) = Wg (putTr i q ρ) fun ρ => Q (.nx ρ) := rfl
theorem kt_sX {c : Nat} {p : D} : ksT i Q (.ex c p ρ) = Q (.ex c p ρ) := rfl
theorem ws_asgTr {m : M (Sh × D)} : Ws (asgTr i m) ρ Q = Wm m ρ (ksT i Q) := by
  rw [ws_wo]
  unfold asgTr ev Wm
  cases m ρ with
  | none => simp [wo_none]
  | some r =>
    cases r with
    | ok q ρ1 =>
      simp only [Option.some.injEq, exists_eq_left', ksT]
      unfold Wg
      cases putTr i q ρ1 <;> simp [wo_none, wo_some]
    | ex c p ρ1 => simp [wo_some, ksT]
theorem wg_putTr {q : Sh × D} {P : Cs → Prop} : Wg (putTr i q ρ) P = Vs ρ[i]? (P (ρ.set i (.tr (false, false) q.1 q.2))) := by
  unfold Wg putTr
  cases h : ρ[i]? with
  | none => simp [Vs, wo_none]
  | some x => cases x with
    | ow b d => cases b <;> simp [Vs, wo_none, wo_some]
    | _ => simp [Vs, wo_none, wo_some]
end
section
variable {ρ : Cs} {i : Nat} {Q : R D → Prop} {QT : R (Sh × D) → Prop} {F : FnD}
theorem wm_mMet {c m : Str} {ms : M (List Arg)} : Wm (mMet i c m F ms) ρ Q = Vr ρ[i]? fun _ s d => Vob (fun c' fs ds => c' = c ∧ (fldAt m fs ds).isNone = true ∧ Wm (mCall F (aT i ms)) ρ Q) (s, d) := by
  rw [wm_wo]
  unfold mMet isCls trAt
  cases h : ρ[i]? with
  | none => simp [Vr, wo_none]
  | some x => cases x with
    | tr b s d =>
      show _ = Vob _ (s, d)
      cases s <;> cases d <;> first | (simp [Vob, getP, wo_none]; done) | skip
      rename_i c' fs ds
      show _ = (c' = c ∧ _)
      by_cases hc : c' = c <;> by_cases hf : fldAt m fs ds = none <;> simp [hc, hf, getP, wo_none, wm_wo]
    | _ => simp [Vr, wo_none]
def mkK (c : Str) (F : FnD) (as : List Arg) : M (Sh × D) := fun ρ => match F.ks with
  | .t (.obj c' .nil) s :: ks => if c' = c ∧ F.fr = false ∧ flatK ks = true ∧ (lentSl as).Nodup then (match argDs ρ ks as with
    | some ds => (match F.sem (.tup [] :: ds) with
      | some (.ret .non [d]) => some (.ok (s, d) ρ)
      | _ => none)
    | none => none) else none
  | _ => none
theorem wm_mMake {c : Str} {ms : M (List Arg)} : Wm (mMake c F ms) ρ QT = Wm ms ρ (kb (mkK c F) QT) := wm_bnd
def Kmk (s : Sh) (ρ : Cs) (Q : R (Sh × D) → Prop) : FR → Prop
  | .ret .non [d] => Q (.ok (s, d) ρ)
  | _ => False
theorem kt_mk {s : Sh} {d : D} : Kmk s ρ QT (.ret .non [d]) = QT (.ok (s, d) ρ) := rfl
theorem mk_rule {c : Str} {s : Sh} {k : List Kd} {as : List Arg} (hk : F.ks = .t (.obj c .nil) s :: k) : Wm (mkK c F as) ρ QT = (F.fr = false ∧ flatK k = true ∧ (lentSl as).Nodup ∧ Wo (argDs ρ k as) fun ds => Wf F (.tup [] :: ds) (Kmk s ρ QT)) := by
  rw [wm_wo]
  unfold mkK
  rw [hk]
  dsimp only
  rw [wo_ifo]
  simp only [true_and, and_assoc]
  cases argDs ρ k as with
  | none => simp [wo_none]
  | some ds =>
    rw [wo_some]
    unfold Wf
    dsimp only
    cases F.sem (.tup [] :: ds) with
    | none => simp [wo_none]
    | some r =>
      rw [wo_some]
      cases r with
      | ret d outs =>
        cases d <;> first | (simp [Kmk, wo_none]; done) | skip
        rcases outs with _ | ⟨x, _ | ⟨y, r⟩⟩ <;> simp [Kmk, wo_none, wo_some]
      | exc c p outs => simp [Kmk, wo_none]
theorem wm_mTrO {m : M D} : Wm (mTrO m) ρ QT = Wm m ρ (kb (fun d ρ => match d with
  | .lst ds => some (.ok (.lst .fz, .lst ds) ρ)
  | .dic kvs => if uniqK kvs = true then some (.ok (.dic .fz, .dic kvs) ρ) else none
  | _ => none) QT) := wm_bnd
theorem wm_tro1 {ds : List D} : Wm (fun ρ => match D.lst ds with
  | .lst ds => some (.ok (.lst .fz, .lst ds) ρ)
  | .dic kvs => if uniqK kvs = true then some (.ok (.dic .fz, .dic kvs) ρ) else none
  | _ => none) ρ QT = QT (.ok (.lst .fz, .lst ds) ρ) := wm_eq rfl
theorem wm_mTrE {s : Sh} {m : M D} : Wm (mTrE s m) ρ QT = Wm m ρ (kb (fun d ρ => match d with
  | .lst [] => some (.ok (.lst s, .lst []) ρ)
  | .dic [] => some (.ok (.dic s, .dic []) ρ)
  | _ => none) QT) := wm_bnd
theorem wm_tre1 {s : Sh} : Wm (fun ρ => match D.lst [] with
  | .lst [] => some (.ok (.lst s, .lst []) ρ)
  | .dic [] => some (.ok (.dic s, .dic []) ρ)
  | _ => none) ρ QT = QT (.ok (.lst s, .lst []) ρ) := wm_eq rfl
theorem wm_tre2 {s : Sh} : Wm (fun ρ => match D.dic [] with
  | .lst [] => some (.ok (.lst s, .lst []) ρ)
  | .dic [] => some (.ok (.dic s, .dic []) ρ)
  | _ => none) ρ QT = QT (.ok (.dic s, .dic []) ρ) := wm_eq rfl
def mnK (c m : Str) (F : FnD) (q : Sh × D) : M D := fun ρ => match q, F.ks with
  | (.obj c' fs, .tup ds), [.t s0 _] => if c' = c ∧ (fldAt m fs ds).isNone = true ∧ F.fr = false ∧ s0.beq (.obj c' fs) = true then (match F.sem [.tup ds] with
    | some (.ret d _) => some (.ok d ρ)
    | some (.exc k p _) => some (.ex k p ρ)
    | none => none) else none
  | _, _ => none
theorem wm_mMetN {c m : Str} {mk : M (Sh × D)} : Wm (mMetN c m F mk) ρ Q = Wm mk ρ (kb (mnK c m F) Q) := wm_bnd
def KmN (ρ : Cs) (Q : R D → Prop) : FR → Prop
  | .ret d _ => Q (.ok d ρ)
  | .exc k p _ => Q (.ex k p ρ)
theorem kt_mNr {d : D} {o : List D} : KmN ρ Q (.ret d o) = Q (.ok d ρ) := rfl
theorem kt_mNx {k : Nat} {p : D} {o : List D} : KmN ρ Q (.exc k p o) = Q (.ex k p ρ) := rfl
theorem mn_rule {c m : Str} {s0 s1 : Sh} {fs : Fs} {ds : List D} (hk : F.ks = [.t s0 s1]) : Wm (mnK c m F (.obj c fs, .tup ds)) ρ Q = ((fldAt m fs ds).isNone = true ∧ F.fr = false ∧ s0.beq (.obj c fs) = true ∧ Wf F [.tup ds] (KmN ρ Q)) := by
  rw [wm_wo]
  unfold mnK
  rw [hk]
  dsimp only
  rw [wo_ifo]
  simp only [true_and, and_assoc]
  unfold Wf
  cases F.sem [.tup ds] with
  | none => simp [wo_none]
  | some r => cases r <;> simp [KmN, wo_some]
end
end Tk
/-! Classes as the program has them; str(int), int(text). -/
namespace Tk
open PySem PySem.Spec PyProof.Rows L2 SX
/-- the j-th def of a class -/
def metOf (s : Stmt) (j : Nat) : Stmt := match s with
  | .ClassDef _ _ _ b _ _ _ _ _ _ _ => b.getD j (.Pass ⟨0, 0, 0, 0⟩)
  | _ => .Pass ⟨0, 0, 0, 0⟩
/-- a method that may be called -/
structure MetF (P : Program) (w : World) (K : PySem.W.Frag) (mg : Str → Option Value) (base : Heap) (Xs : List XC) (c m : Str) (k : Nat) (F : FnD) : Prop where
  ex : ∃ (C f : Addr) (fd : FuncData) (ps : List Str), PySem.W.nsIn K mainGlobals c = some (some (.ref C)) ∧ Cls K C ∧ Meth K C m f ∧ FnOk P w K mg base (L2.CX P w) k f fd ps (spF K Xs F) ∧ Binds K fd ps []
theorem MetF.cal {X : Cx} {Xs : List XC} {c m : Str} {k : Nat} {F : FnD} (h : MetF X.prog X.w X.K X.mg X.base Xs c m k F) (hr : Room k X.A) : CalM X Xs c m F :=
  let ⟨C, f, fd, ps, h1, h2, h3, h4, h5⟩ := h.ex
  ⟨C, k, f, fd, ps, h1, h2, h3, h4, hr, h5⟩
/-- a class that may be called -/
structure IniF (P : Program) (w : World) (K : PySem.W.Frag) (mg : Str → Option Value) (base : Heap) (Xs : List XC) (c : Str) (k : Nat) (F : FnD) : Prop where
  ex : ∃ (C f : Addr) (fd : FuncData) (ps : List Str), PySem.W.nsIn K mainGlobals c = some (some (.ref C)) ∧ Mk K C f ∧ FnOk P w K mg base (L2.CX P w) k f fd ps (spF K Xs F) ∧ mg c = some (.ref C) ∧ Binds K fd ps []
theorem IniF.cal {X : Cx} {Xs : List XC} {c : Str} {k : Nat} {F : FnD} (h : IniF X.prog X.w X.K X.mg X.base Xs c k F) (hr : Room (k + 1) X.A) : CalC X Xs c F :=
  let ⟨C, f, fd, ps, h1, h2, h3, h4, h5⟩ := h.ex
  ⟨C, k, f, fd, ps, h1, h2, h3, hr, h4, h5⟩
/-- .. and what the top tells of the class -/
structure ClsT (K : PySem.W.Frag) (mg : Str → Option Value) (c : Str) (C : Addr) : Prop where
  ns : PySem.W.nsIn K mainGlobals c = some (some (.ref C))
  cl : Cls K C
  mg_ : mg c = some (.ref C)
theorem ClsT.fld {K : PySem.W.Frag} {mg : Str → Option Value} {c f : Str} {C : Addr} (t : ClsT K mg c C) (n : NoAttr K C f) : ClF K c f := fun C' h => by
  have := t.ns.symm.trans h
  cases this
  exact ⟨t.cl, n⟩
theorem ClsT.met {P : Program} {w : World} {K : PySem.W.Frag} {mg : Str → Option Value} {base : Heap} {Xs : List XC} {c m : Str} {k : Nat} {F : FnD} {C f : Addr} {fd : FuncData} {ps : List Str} (t : ClsT K mg c C) (hm : Meth K C m f) (h : FnOk P w K mg base (L2.CX P w) k f fd ps (spF K Xs F)) (b : Binds K fd ps []) : MetF P w K mg base Xs c m k F :=
  ⟨C, f, fd, ps, t.ns, t.cl, hm, h, b⟩
theorem ClsT.ini {P : Program} {w : World} {K : PySem.W.Frag} {mg : Str → Option Value} {base : Heap} {Xs : List XC} {c : Str} {k : Nat} {F : FnD} {C f : Addr} {fd : FuncData} {ps : List Str} (t : ClsT K mg c C) (hm : Mk K C f) (h : FnOk P w K mg base (L2.CX P w) k f fd ps (spF K Xs F)) (b : Binds K fd ps []) : IniF P w K mg base Xs c k F :=
  ⟨C, f, fd, ps, t.ns, hm, h, t.mg_, b⟩
section
variable {X : Cx}
/-- the text of an int -/
def sInt (i : Int) : List Nat := (Str.ofString (toString i)).cps.toList
def strI : List D → Option D
  | [.int i] => if i.natAbs.log2 < 1920 then some (.str (sInt i)) else none
  | _ => none
theorem f_strI : CalR X (fun xs H Q => ∃ i, xs = [.int i] ∧ i.natAbs.log2 < 1920 ∧ Q (.str (toString i)) H) strI := by
  intro G H xs ds z Q ex rs h q
  unfold strI at h
  split at h
  · obtain ⟨hl, rfl⟩ := ite_inv h
    obtain ⟨v, rfl, r⟩ := rs.one
    cases r
    exact ⟨_, rfl, hl, q _ G H (Fr.refl ex) (rep_str rfl)⟩
  · cases h
/-- int(text) -/
def intS : List D → Option D
  | [.str s] => if s.length ≤ 640 then (PySem.intText? ⟨s.toArray⟩).map .int else none
  | _ => none
theorem f_intS : CalR X (fun xs H Q => ∃ a n, xs = [.str a] ∧ PySem.intText? a = some n ∧ a.length ≤ 640 ∧ Q (.int n) H) intS := by
  intro G H xs ds z Q ex rs h q
  unfold intS at h
  split at h
  · rename_i s
    by_cases hl : s.length ≤ 640
    case neg => rw [if_neg hl] at h; cases h
    rw [if_pos hl] at h
    obtain ⟨n, hn, rfl⟩ := map_inv h
    obtain ⟨v, rfl, r⟩ := rs.one
    cases r
    exact ⟨_, n, rfl, hn, by show s.toArray.size ≤ 640; simpa using hl, q _ G H (Fr.refl ex) (.int _)⟩
  · cases h
theorem wo_strI {i : Int} {Q : D → Prop} : Wo (strI [.int i]) Q = (i.natAbs.log2 < 1920 ∧ Q (.str (sInt i))) := wo_if
theorem wo_intS {s : List Nat} {Q : D → Prop} : Wo (intS [.str s]) Q = (s.length ≤ 640 ∧ Wo (PySem.intText? ⟨s.toArray⟩) fun n => Q (.int n)) := by
  show Wo (if s.length ≤ 640 then (PySem.intText? ⟨s.toArray⟩).map D.int else none) Q = _
  rw [wo_ifo, wo_map]
end
end Tk
/-! P op e as a test; a, b, c = x, y, z. -/
namespace Tk
open PySem PySem.Spec PyProof.Rows L2 SX
section
variable {X : Cx} {Xs : List XC} {W : WX} {e a b c : Expr} {es : List Expr} {pos p : Pos} {x : Str}
theorem st_cmpP {op : CmpOp} {r : R2} {f : D → D → Option D} {m : M (List Pt)} {n : M D} (i : Nat) (ho : OpR X (compareOp op) r) (hf : BinR X r f) (hp : SPl X Xs W i a m) (hb : SE X Xs W b n) (hm : behindInMarks op b = false) : ST X Xs W (.Compare a [op] [b] pos) (tb (mVw i f m n)) := by
  refine pt_imp (pt_cmpR ho hp hb hm) fun σ H Q ⟨B, G, ρ, s, r, h1, h2⟩ => ?_
  unfold tb mVw at h1
  show rP X.K Xs W i m σ H _
  cases em : m ρ with
  | none => unfold M.bnd at h1; rw [em] at h1; cases h1
  | some q =>
    unfold M.bnd at h1
    rw [em] at h1
    refine ⟨B, G, ρ, s, q, em, ?_⟩
    cases q with
    | ex c p ρ' => cases h1; exact h2
    | ok π ρ1 =>
      intro v G1 H1 s1 x1 at1
      have h1' : ((thenP i n (kVw i π f)).bnd fun d => match d with | .bl b => M.ret b | _ => lift none) ρ1 = some r := h1
      unfold M.bnd at h1'
      cases et : thenP i n (kVw i π f) ρ1 with
      | none => rw [et] at h1'; cases h1'
      | some q2 =>
        rw [et] at h1'
        refine thenP_do s1 at1 et (fun k ρ2 w G2 H2 s2 x2 rk at2 h3 => ?_) (fun c p ρ' er => by subst er; cases h1'; exact h2)
        unfold kVw at h3
        split at h3
        · rename_i sh d etr
          by_cases hn : noObj sh = true
          case neg => rw [if_neg hn] at h3; cases h3
          rw [if_pos hn] at h3
          split at h3
          · rename_i z ez
            obtain ⟨hz, h3⟩ := ite_inv h3
            subst h3
            obtain ⟨b', sh', d', e1, e2⟩ := trAt_inv etr
            obtain ⟨Gv, y1, y2, y3, y4⟩ := s2.view e1 e2 at2 hn
            refine hf Gv H2 v w d k z _ y2 y3 (rk.mono y1) ez fun v' G3 H3 fr rv => ?_
            obtain ⟨Gx, fx⟩ := y4 G3 H3 fr
            dsimp only at h1'
            cases z <;> first | (cases h1'; done) | skip
            cases h1'
            cases rv
            exact ⟨_, rfl, h2 _ Gx H3 (s2.step fx) ((x1.trans x2).trans fx.g) rfl⟩
          · cases h3
        · cases h3
/-! ### a, b, c = x, y, z with plain local names -/
def tPar3 (i j l : Nat) (ta : TA) : TS := fun D σ H => ta σ H fun vs H1 => ∃ v w u, vs = [v, w, u] ∧ D.nx (((σ.set i (some v)).set j (some w)).set l (some u)) H1
theorem ps_par3 {i j l : Nat} {x y z : Str} {a b c : Expr} {ta : TA} {px py pz pt : Pos} {kt k2 : Nat} {pt2 : Pos} (hc : X.calm = true) (hN : X.N.Nodup) (hi : X.N[i]? = some x) (hj : X.N[j]? = some y) (hl : X.N[l]? = some z) (hij : i ≠ j) (hil : i ≠ l) (hjl : j ≠ l)
    (hx : X.env.scope.names.lookup x = some .local) (hy : X.env.scope.names.lookup y = some .local) (hz : X.env.scope.names.lookup z = some .local) (ha : PA X [a, b, c] ta)
    (hw : swappedStores [.Tuple [.Name x px, .Name y py, .Name z pz] kt pt] (.Tuple [a, b, c] k2 pt2) X.env = pure (some [x, y, z]))
    (hs : swapsWithSole [.Tuple [.Name x px, .Name y py, .Name z pz] kt pt] (.Tuple [a, b, c] k2 pt2) pos.line X.env = pure false := by rfl) :
    PS X (.Assign [.Tuple [.Name x px, .Name y py, .Name z pz] kt pt] (.Tuple [a, b, c] k2 pt2) pos) (tPar3 i j l ta) := by
  refine ⟨fun pins st σ H D I h => ?_⟩
  rw [exec_Assign_arm]; refine wpAny_bind (wpAny_standAt ?_); rw [hs]
  refine wpAny_bind (wpAny_pure ?_); rw [if_neg (by decide)]
  refine wpAny_bind (Tuple_ (thn (ha.run _ pins st σ H _ I h) fun us s1 ⟨vs, H1, I1, r1, v, w, u, e1, q1⟩ => ?_))
  subst e1
  cases r1 with
  | @cons _ u1 _ _ rv r1 => cases r1 with
  | @cons _ u2 _ _ rw' r1 => cases r1 with
  | @cons _ u3 _ _ ru r1 =>
    cases r1
    refine wpAny_newObj_type ?_ (by show 3 ≤ sizeLine; decide)
    have I2 := I1.kept (h' := s1.heap.push { cls := .type "tuple", data := .seq [u1, u2, u3].toArray }) (t' := s1.toks) fun b o e => Heap.get?_push_of_some _ e
    rw [hw]; refine wpAny_bind (wpAny_pure ?_)
    show wpAny (model X.prog X.w) X.A (do rule "assign.swapped-stores"; let items ← unpackItems (.ref s1.heap.objs.size) 3 none; assignInOrder [fun v => bindName X.env z v, fun v => bindName X.env y v, fun v => bindName X.env x v] items.reverse; pure Flow.next) _ _ _
    refine wpAny_bind (wpAny_rule (wpAny_bind (unpackItems_tuple (items := #[u1, u2, u3]) (I.ok.hd hc) (IsTup.new s1.heap _) fun h' hx' => ?_)))
    have I3 := I2.kept (h' := h') (t' := s1.toks) fun b o e => hx' b o (Nat.ne_of_lt (Heap.lt_size e)) e
    show wpAny _ _ (assignInOrder [fun v => bindName X.env z v, fun v => bindName X.env y v, fun v => bindName X.env x v] [u3, u2, u1] >>= fun _ => pure Flow.next) _ _ _
    refine wpAny_bind (assignInOrder_cons (wpAny_bindName (store_ok I3 hN hl (.inl hz) ru (fun s2 I4 => ?_) (.inr hz))))
    refine assignInOrder_cons (wpAny_bindName (store_ok I4 hN hj (.inl hy) rw' (fun s3 I5 => ?_) (.inr hy)))
    refine assignInOrder_cons (wpAny_bindName (store_ok I5 hN hi (.inl hx) rv (fun s4 I6 => assignInOrder_nil (wpAny_pure ?_)) (.inr hx)))
    rw [List.set_comm _ _ (Ne.symm hij), List.set_comm _ _ (Ne.symm hil), List.set_comm _ _ (Ne.symm hjl)] at I6
    exact ⟨_, H1, I6, q1⟩
def mPar3 (i j l : Nat) (ms : M (List D)) : MS := ev ms fun ds ρ => match ds with
  | [d, e, f] => (match put i (.pu d) ρ with
    | some ρ1 => (match put j (.pu e) ρ1 with
      | some ρ2 => (match put l (.pu f) ρ2 with
        | some ρ3 => some (.nx ρ3)
        | none => none)
      | none => none)
    | none => none)
  | _ => none
theorem ss_par3 {y z : Str} {px py pz pt : Pos} {kt k2 : Nat} {pt2 : Pos} {ms : M (List D)} (i j l : Nat) (hc : X.calm = true) (hN : X.N.Nodup) (hi : X.N[i]? = some x) (hj : X.N[j]? = some y) (hl : X.N[l]? = some z) (hij : i ≠ j) (hil : i ≠ l) (hjl : j ≠ l)
    (hx : X.env.scope.names.lookup x = some .local) (hy : X.env.scope.names.lookup y = some .local) (hz : X.env.scope.names.lookup z = some .local) (ha : SA X Xs W [a, b, c] ms)
    (hw : swappedStores [.Tuple [.Name x px, .Name y py, .Name z pz] kt pt] (.Tuple [a, b, c] k2 pt2) X.env = pure (some [x, y, z]) := by rfl)
    (hs : swapsWithSole [.Tuple [.Name x px, .Name y py, .Name z pz] kt pt] (.Tuple [a, b, c] k2 pt2) pos.line X.env = pure false := by rfl) : SS X Xs W (.Assign [.Tuple [.Name x px, .Name y py, .Name z pz] kt pt] (.Tuple [a, b, c] k2 pt2) pos) (mPar3 i j l ms) := by
  refine ps_imp (ps_par3 hc hN hi hj hl hij hil hjl hx hy hz ha hw hs) fun D' σ H h => ?_
  refine h.ev (Rl := RlA X.K) fun B vs H1 ds G1 ρ1 r s1 rs h3 h4 => ?_
  split at h3
  · rename_i d e f
    cases rs with
    | @cons v _ _ _ r1 rs => cases rs with
    | @cons w _ _ _ r2 rs => cases rs with
    | @cons u _ _ _ r3 rs =>
      cases rs
      cases e1 : put i (.pu d) ρ1 with
      | none => rw [e1] at h3; cases h3
      | some ρ2 =>
        rw [e1] at h3
        dsimp only at h3
        cases e2 : put j (.pu e) ρ2 with
        | none => rw [e2] at h3; cases h3
        | some ρ3 =>
          rw [e2] at h3
          dsimp only at h3
          cases e3 : put l (.pu f) ρ3 with
          | none => rw [e3] at h3; cases h3
          | some ρ4 =>
            rw [e3] at h3
            cases h3
            obtain ⟨l1, rfl⟩ := put_inv e1
            obtain ⟨l2, rfl⟩ := put_inv e2
            obtain ⟨l3, rfl⟩ := put_inv e3
            refine ⟨v, w, u, rfl, h4 _ G1 H1 (((s1.setP r1 (by rw [s1.len]; exact l1)).setP r2 ?_).setP r3 ?_)⟩
            · rw [List.length_set, s1.len]; simpa using l2
            · rw [List.length_set, List.length_set, s1.len]; simpa using l3
  · cases h3
theorem ws_mPar3 {i j l : Nat} {ms : M (List D)} {ρ : Cs} {Q : RS → Prop} : Ws (mPar3 i j l ms) ρ Q = Wm ms ρ (ks (fun ds ρ => match ds with
  | [d, e, f] => (match put i (.pu d) ρ with
    | some ρ1 => (match put j (.pu e) ρ1 with
      | some ρ2 => (match put l (.pu f) ρ2 with
        | some ρ3 => some (.nx ρ3)
        | none => none)
      | none => none)
    | none => none)
  | _ => none) Q) := ws_ev
theorem ks_mPar3 {i j l : Nat} {d e f : D} {ρ : Cs} {Q : RS → Prop} : Ws (fun ρ => match [d, e, f] with
  | [d, e, f] => (match put i (.pu d) ρ with
    | some ρ1 => (match put j (.pu e) ρ1 with
      | some ρ2 => (match put l (.pu f) ρ2 with
        | some ρ3 => some (.nx ρ3)
        | none => none)
      | none => none)
    | none => none)
  | _ => none) ρ Q = Wg (put i (.pu d) ρ) fun ρ => Wg (put j (.pu e) ρ) fun ρ => Wg (put l (.pu f) ρ) fun ρ => Q (.nx ρ) := by
  rw [ws_wo]
  unfold Wg
  dsimp only
  cases put i (.pu d) ρ with
  | none => simp [wo_none]
  | some ρ1 =>
    simp only [wo_some]
    cases put j (.pu e) ρ1 with
    | none => simp [wo_none]
    | some ρ2 =>
      simp only [wo_some]
      cases put l (.pu f) ρ2 <;> simp [wo_none, wo_some]
theorem ws_evlk {α : Type} {n : M α} {k : α → MS} {i : Nat} {ρ : Cs} {Q : RS → Prop} : Ws (ev (lk i n) k) ρ Q = Wm (lk i n) ρ (ks k Q) := ws_ev
theorem ws_evisL {m : M (List Pt)} {k : List Pt → MS} {i : Nat} {ρ : Cs} {Q : RS → Prop} : Ws (ev m (isLk i k)) ρ Q = Wm m ρ (ks (isLk i k) Q) := ws_ev
theorem ws_evfld {m : M (List Pt)} {i : Nat} {c f : Str} {v : D} {ρ : Cs} {Q : RS → Prop} : Ws (ev m fun π => fldT i c f π v) ρ Q = Wm m ρ (ks (fun π => fldT i c f π v) Q) := ws_ev
theorem wo_iaI {a b : Int} {Q : D → Prop} : Wo (iaddD (.int a) (.int b)) Q = Q (.int (a + b)) := wo_some
theorem wo_iaS {a b : List Nat} {Q : D → Prop} : Wo (iaddD (.str a) (.str b)) Q = (a.length + b.length ≤ sizeLine ∧ Q (.str (a ++ b))) := wo_if
end
end Tk
namespace Tk
open PySem PySem.Spec PyProof.Rows L2 SX
/-! ### x.f = e, e a new tree, x a name -/
def fldN (i : Nat) (c f : Str) (q0 : Sh × D) : MS := fun ρ => match ρ[i]? with
  | some (.tr (b, false) (.obj c' fs) (.tup ds)) => if c' = c ∧ ds.length < 1000 then (match fldSet f q0.1 q0.2 fs ds with
    | some fq => some (.nx (ρ.set i (.tr (b, false) (.obj c' fq.1) (.tup fq.2))))
    | none => none) else none
  | _ => none
def setNF (i : Nat) (c f : Str) (m : M (Sh × D)) : MS := ev m fun q0 => fldN i c f q0
theorem fld_ownT {K : PySem.W.Frag} {B : Bs} {σ : L2.St} {G H : Hp} {ρ : Cs} {c f : Str} {fs : Fs} {ds : List D} {a1 C dx w : Addr} {vs : List (Str × V)} {s : Sh} {d : D} {fq : Fs × List D} {f3 fw : List Addr} (o3 : Own K G H (.obj c fs) (.ref a1) (.tup ds) f3) (g1 : H a1 = some (.ins C dx vs)) (ef : fldSet f s d fs ds = some fq) (ow : Own K G H s (.ref w) d fw) (dj : Dj fw f3) (nw : ∀ x ∈ fw, NewO B σ G H ρ x) :
    a1 ∈ f3 ∧ ∃ f2, Own K G (upd H a1 (.ins C dx (putF f (.ref w) vs))) (.obj c fq.1) (.ref a1) (.tup fq.2) f2 ∧ ∀ x ∈ f2, x ∈ f3 ∨ NewO B σ G H ρ x := by
  cases o3 with
  | obj n0 n1 n2 n3 n4 n5 n6 n7 n8 =>
    rw [g1] at n1; cases n1
    have na : a1 ∉ fw := fun z => dj a1 z (.head _)
    have nd : dx ∉ fw := fun z => dj dx z (.tail _ (.head _))
    have kp := n5.keep (H' := upd H a1 (.ins C dx (putF f (.ref w) vs))) (Ex.refl G) fun x hx => ⟨upd_ne fun (z : x = a1) => n6 (z ▸ hx), (n5.objs x hx).2⟩
    have ow' := ow.keep (H' := upd H a1 (.ins C dx (putF f (.ref w) vs))) (Ex.refl G) fun x hx => ⟨upd_ne fun (z : x = a1) => na (z ▸ hx), (nw x hx).1⟩
    obtain ⟨q, fp', q0, q1, q2⟩ := kp.put (f := f) (s2 := s) ow' (fun x hx z => dj x hx (.tail _ (.tail _ z)))
    rw [ef] at q0; cases q0
    refine ⟨.head _, _, .obj n0 upd_same ((upd_ne (Ne.symm n8)).trans n2) n3 n4 q1 (fun z => (q2 _ z).elim n6 na) (fun z => (q2 _ z).elim n7 nd) n8, fun x hx => ?_⟩
    rcases List.mem_cons.mp hx with e | hx
    · rw [e]; exact .inl (.head _)
    · rcases List.mem_cons.mp hx with e | hx
      · rw [e]; exact .inl (.tail _ (.head _))
      · exact (q2 x hx).elim (fun z => .inl (.tail _ (.tail _ z))) fun z => .inr (nw x z)
section
variable {X : Cx} {Xs : List XC} {W : WX} {e : Expr} {p pos pos' : Pos}
theorem ss_setNF {y c f : Str} {m : M (Sh × D)} (i : Nat) (hN : X.N[i]? = some y) (hv : Vis X.env.scope y) (hc : ClF X.K c f) (he : STr X Xs W e m) (hd : (y == ("__debug__" : Str)) = false := by decide) (hcd : (y == ("__classdict__" : Str)) = false := by decide)
    (hs : swapsWith e (some (.Attribute (.Name y p) f pos')) pos.line X.env = pure false := by rfl) : SS X Xs W (.Assign [.Attribute (.Name y p) f pos'] e pos) (setNF i c f m) := by
  refine ps_imp (ps_fld (pe_ref (i := i) hN hv hd hcd) he hs) fun D' σ H ⟨B, G, ρ, r, s, h1, h2⟩ => ?_
  unfold setNF ev at h1
  cases em : m ρ with
  | none => rw [em] at h1; cases h1
  | some q =>
    rw [em] at h1
    refine ⟨B, G, ρ, s, q, em, ?_⟩
    cases q with
    | ex c p ρ1 => cases h1; exact fun G' H' s' => h2 σ G' H' s'
    | ok q0 ρ1 =>
      intro w fw G' H' s' x' ow nw
      dsimp only at h1
      unfold fldN at h1
      split at h1
      · rename_i b c' fs ds e3
        by_cases hz : c' = c ∧ ds.length < 1000
        case neg => rw [if_neg hz] at h1; cases h1
        rw [if_pos hz] at h1
        obtain ⟨rfl, hz⟩ := hz
        split at h1
        · rename_i fq ef
          cases h1
          have e4 : getP [] (.obj c' fs) (.tup ds) = some (.obj c' fs, .tup ds) := rfl
          obtain ⟨a0, fp0, ka, _⟩ := s'.tr.fp e3
          have at2 : AtP H' σ ρ1 i [] (.ref a0) := fun b s d q e5 e6 => ⟨a0, ka, rfl⟩
          obtain ⟨_, f2, _, _, _, m4, _⟩ := s'.plc e3 e4 at2
          cases m4 with
          | obj g0 g1 g2 g3 g4 g5 g6 g7 g8 =>
            skip
            obtain ⟨c1, c2⟩ := hc _ g0
            refine ⟨.ref a0, ka, a0, _, _, _, rfl, g1, c1, c2, by rw [g5.length]; exact hz, ?_⟩
            exact h2 σ G' _ (s'.pw e3 e4 at2 (.ins _ _ (putF f (.ref w) _)) (s2 := .obj c' fq.1) (d2 := .tup fq.2) rfl fun f3 o3 o3s => fld_ownT o3 g1 ef ow (fun x hx z => (nw x hx).2.2.2.2 i (o3s x z)) nw)
        · cases h1
      · cases h1
end
section
variable {ρ : Cs} {Q : RS → Prop} {i : Nat}
def Vrn (c : Option Cell) (P : Bool → Str → Fs → List D → Prop) (_b : Bx P := .mk) : Prop := match c with | some (.tr (b, false) (.obj c' fs) (.tup ds)) => P b c' fs ds | _ => False
theorem vr_n {b : Bool} {c' : Str} {fs : Fs} {ds : List D} {P : Bool → Str → Fs → List D → Prop} : Vrn (some (.tr (b, false) (.obj c' fs) (.tup ds))) P = P b c' fs ds := rfl
theorem ws_setNF {c f : Str} {m : M (Sh × D)} : Ws (setNF i c f m) ρ Q = Wm m ρ (ks (fldN i c f) Q) := ws_ev
theorem ws_fldN {c f : Str} {q0 : Sh × D} : Ws (fldN i c f q0) ρ Q = Vrn ρ[i]? fun b c' fs ds => c' = c ∧ ds.length < 1000 ∧ Wo (fldSet f q0.1 q0.2 fs ds) fun fq => Q (.nx (ρ.set i (.tr (b, false) (.obj c' fq.1) (.tup fq.2)))) := by
  rw [ws_wo]
  unfold fldN Vrn
  split
  · rename_i b c' fs ds e
    rw [wo_ifo, and_assoc]
    cases hf : fldSet f q0.1 q0.2 fs ds with
    | none => simp only [wo_none, hf]
    | some fq => simp only [wo_some, hf]
  · simp [wo_none]
end
/-! ### P[k] as a target -/
open Classical in
noncomputable def gP (i : Nat) (m : M (List Pt)) (n : M D) : D → Cs → Option Cs := fun d ρ => match m ρ with
  | some (.ok π ρ1) => if isLstP i π ρ1 = true then (match lk i n ρ1 with
    | some (.ok k ρ2) => (match setT i π d k ρ2 with
      | some (.nx ρ') => some ρ'
      | _ => none)
    | _ => none) else none
  | _ => none
section
variable {X : Cx} {Xs : List XC} {W : WX} {a k : Expr} {spos : Pos}
theorem sg_ixL {m : M (List Pt)} {n : M D} (i : Nat) (ho : SPl X Xs W i a m) (hk : SE X Xs W k n)
    (ha : ∀ v, assign (.Subscript a k spos) X.env v = (do
      let ov ← holding [v] (eval a X.env)
      let iv ← holding [v, ov] (eval k X.env)
      standAt spos
      holding [v, ov, iv] (setItem ov iv v)
      release [v, ov, iv] []) := by intro _; rfl) : SG X [] (.Subscript a k spos) (gP i m n) := by
  refine pg_imp (pg_sub ho hk set_list ha) fun y σ H Q ⟨B, G, ρ, d, ρ', s, ry, h, q⟩ => ?_
  unfold gP at h
  cases em : m ρ with
  | none => rw [em] at h; cases h
  | some r0 =>
    rw [em] at h
    cases r0 with
    | ex c p ρ1 => cases h
    | ok π ρ1 =>
      refine ⟨B, G, ρ, s, _, em, fun v G1 H1 s1 x1 at1 => ?_⟩
      dsimp only at h
      by_cases hl : isLstP i π ρ1 = true
      case neg => rw [if_neg hl] at h; cases h
      rw [if_pos hl] at h
      cases el : lk i n ρ1 with
      | none => rw [el] at h; cases h
      | some r1 =>
        rw [el] at h
        cases r1 with
        | ex c p ρ2 => cases h
        | ok kk ρ2 =>
          refine lk_do (Rl := RlE X.K) s1 el fun w G3 H3 s3 x3 rw3 kp ke => ?_
          have at3 := s1.plc2 at1 kp ke
          dsimp only at h
          split at h
          · rename_i ρ'' h6
            cases h
            unfold setT at h6
            split at h6
            · rename_i b sh t j e3
              split at h6
              · rename_i ds e4
                split at h6
                · rename_i nn en
                  split at h6
                  · rename_i q' e5
                    cases h6
                    cases rw3
                    obtain ⟨_, f2, _, _, _, m4, _⟩ := s3.plc e3 e4 at3
                    cases m4 with
                    | lst r1 r2 r3 r4 =>
                      rename_i a1 vs fp2 u2 u3
                      refine ⟨a1, vs, j, nn, rfl, rfl, r1, by rw [r3.length]; exact en, ?_⟩
                      refine q σ G3 _ (s3.pw e3 e4 at3 (.lst (vs.set nn y)) e5 fun f3 o3 _ => ?_) (x1.trans x3) rfl fun _ _ => rfl
                      cases o3 with
                      | lst n1 n2 n3 n4 =>
                        rw [r1] at n1; cases n1
                        rename_i fp3 u3
                        have hn : nn < ds.length := (ixN_seq en).2.1
                        obtain ⟨v0, f0, l1, l2, l3, l4⟩ := n3.at_ (n := nn) (d := ds[nn]) (by simp [hn])
                        obtain ⟨fp', q1, q2⟩ := l4 (upd H3 a1 (.lst (vs.set nn y))) y d [] (fun x hx _ => upd_ne fun (z : x = a1) => n4 (z ▸ hx)) (.fz (ry.mono (x1.trans x3))) (fun x hx => nomatch hx)
                        have sub : ∀ x ∈ fp', x ∈ _ := fun x hx => (q2 x hx).elim (fun z => z.1) (fun z => nomatch z)
                        exact ⟨.head _, _, .lst upd_same n2 q1 (fun z => n4 (sub _ z)), fun x hx => .inl (by
                          rcases List.mem_cons.mp hx with e | hx
                          · rw [e]; exact .head _
                          · exact .tail _ (sub x hx))⟩
                  · cases h6
                · cases h6
              · cases h6
            · cases h6
          · cases h
end
section
variable {ρ : Cs} {i : Nat} {P : Cs → Prop}
/-- what a place, an index tell to a target -/
def Kp (i : Nat) (n : M D) (d : D) (P : Cs → Prop) : R (List Pt) → Prop
  | .ok π ρ1 => Wt i π ρ1 (Vll fun _ _ => Wm (lk i n) ρ1 (fun r => match r with
    | .ok k ρ2 => Ws (setT i π d k) ρ2 (fun z => match z with | .nx ρ' => P ρ' | _ => False)
    | .ex _ _ _ => False))
  | .ex _ _ _ => False
theorem wg_gP {m : M (List Pt)} {n : M D} {d : D} : Wg (gP i m n d ρ) P = Wm m ρ (Kp i n d P) := by
  classical
  unfold Wg gP Wm
  cases em : m ρ with
  | none => simp [Wo]
  | some r0 =>
    cases r0 with
    | ex c p ρ1 => simp [Wo, Kp]
    | ok π ρ1 =>
      dsimp only
      simp only [Option.some.injEq, exists_eq_left', Kp]
      unfold Wt isLstP
      cases et : trAt i π ρ1 with
      | none => simp [Wo]
      | some q =>
        obtain ⟨s, t⟩ := q
        cases s <;> cases t <;> first | (simp [Vll, Wo]; done) | skip
        dsimp only
        simp only [if_true, Vll, Wo, Option.some.injEq, exists_eq_left']
        unfold Wm
        cases el : lk i n ρ1 with
        | none => simp
        | some r1 =>
          cases r1 with
          | ex c p ρ2 => simp
          | ok k ρ2 =>
            simp only [Option.some.injEq, exists_eq_left']
            unfold Ws
            cases es : setT i π d k ρ2 with
            | none => simp
            | some z => cases z <;> simp
end
/-! ### return P: the list at a place of a tree of our own -/
theorem Owns.reps {K : PySem.W.Frag} {G H : Hp} : ∀ {vs : List V} {ds : List D} {fp : List Addr}, Owns K G H .fz vs ds fp → Reps K G vs ds
  | _, _, _, .nil => .nil
  | _, _, _, .cons (.fz r) t _ => .cons r (Owns.reps t)
def retP (i : Nat) (m : M (List Pt)) : MS := ev m fun π ρ => match ρ[i]? with
  | some (.tr (false, false) sh t) => (match getP π sh t with
    | some (.lst .fz, .lst ds) => some (.ro (.lst ds) (ρ.set i .un))
    | _ => none)
  | _ => none
section
variable {X : Cx} {Xs : List XC} {W : WX} {e : Expr} {pos : Pos}
theorem SR.giveP {K : PySem.W.Frag} {B : Bs} {σ : L2.St} {G H : Hp} {ρ : Cs} (s : SR K B σ G H ρ) {i : Nat} {sh : Sh} {t : D} {π : List Pt} {ds : List D} {v : V} (e : ρ[i]? = some (.tr (false, false) sh t)) (eg : getP π sh t = some (.lst .fz, .lst ds)) (hv : AtP H σ ρ i π v) :
    ∃ a o, v = .ref a ∧ H a = some o ∧ RepO K G o (.lst ds) ∧ SR K B σ G H (ρ.set i .un) ∧ NewO B σ G H (ρ.set i .un) a := by
  obtain ⟨a0, f1, _, _, k3, k4, k5, _⟩ := s.plc e eg hv
  obtain ⟨a0', fp, q1, q2, q3, q4⟩ := s.tr.fp e
  cases k4 with
  | lst r1 r2 r3 r4 =>
    rename_i a vs fp2 u2 u3
    have ina : a ∈ fpAt H σ ρ i := k5 a (.head _)
    have un : ∀ (j : Nat) (c : Cell), (ρ.set i .un)[j]? = some c → c = .un ∨ (ρ[j]? = some c ∧ σ[j]? = σ[j]?) := fun j c h => by
      rcases get_set h with ⟨_, q⟩ | ⟨n, q⟩
      · exact .inl q
      · exact .inr ⟨q, rfl⟩
    have oth : ∀ {j : Nat}, isO (ρ.set i .un) j → j ≠ i ∧ isO ρ j := fun h => isO_set h (by intro b d q; cases q)
    refine ⟨a, _, rfl, r1, r3.reps, s.un (by rw [List.length_set]; exact s.len) un, r2, q4 a (q3 ▸ ina), fun j hj => s.tr.no i j a ina (oth hj).2, fun p hp z => s.tr.pn i a ina p hp z, fun j hj => ?_⟩
    obtain ⟨b, s2, dd, w, e1, e2, e3⟩ := fpAt_is hj
    rcases get_set e1 with ⟨_, q⟩ | ⟨n, q⟩
    · cases q
    · refine s.tr.dj i j (Ne.symm n) a ina ?_
      unfold fpAt; rw [q, e2]; exact e3
theorem ss_retP {m : M (List Pt)} (i : Nat) (ho : SPl X Xs W i e m) : SS X Xs W (.Return (some e) pos) (retP i m) := by
  refine ps_imp (ps_ret ho) fun D' σ H ⟨B, G, ρ, r, s, h1, h2⟩ => ?_
  unfold retP ev at h1
  cases em : m ρ with
  | none => rw [em] at h1; cases h1
  | some q =>
    rw [em] at h1
    refine ⟨B, G, ρ, s, q, em, ?_⟩
    cases q with
    | ex c p ρ1 => cases h1; exact fun G' H' s' => h2 σ G' H' s'
    | ok π ρ1 =>
      intro v G' H' s' x' at1
      dsimp only at h1
      split at h1
      · rename_i sh t e1
        split at h1
        · rename_i ds e2
          cases h1
          obtain ⟨a, o, rfl, k2, k3, k4, k5⟩ := s'.giveP e1 e2 at1
          exact h2 a o σ G' H' k4 k2 k3 k5
        · cases h1
      · cases h1
end
section
variable {ρ : Cs} {i : Nat} {Q : RS → Prop}
def rtP (i : Nat) (π : List Pt) : MS := fun ρ => match ρ[i]? with
  | some (.tr (false, false) sh t) => (match getP π sh t with
    | some (.lst .fz, .lst ds) => some (.ro (.lst ds) (ρ.set i .un))
    | _ => none)
  | _ => none
theorem ws_retP {m : M (List Pt)} : Ws (retP i m) ρ Q = Wm m ρ (ks (rtP i) Q) := ws_ev
theorem ws_rtP {π : List Pt} : Ws (rtP i π) ρ Q = Vr ρ[i]? fun b sh t => b = (false, false) ∧ Wo (getP π sh t) (Vll fun s ds => s.beq .fz = true ∧ Q (.ro (.lst ds) (ρ.set i .un))) := by
  rw [ws_wo]
  unfold rtP
  cases h : ρ[i]? with
  | none => simp [Vr, wo_none]
  | some c =>
    cases c with
    | tr b sh t =>
      obtain ⟨b1, b2⟩ := b
      simp only [Vr]
      cases b1 <;> cases b2 <;> first | (simp [wo_none]; done) | skip
      simp only [true_and]
      cases hg : getP π sh t with
      | none => simp [wo_none]
      | some q =>
        obtain ⟨s, d⟩ := q
        rw [wo_some]
        cases s <;> cases d <;> first | (simp [Vll, wo_none]; done) | skip
        rename_i s ds
        cases s <;> simp [Vll, Sh.beq, wo_none, wo_some]
    | _ => simp [Vr, wo_none]
/-- the rules of the target, for wp -/
def Kp2 (i : Nat) (π : List Pt) (d : D) (P : Cs → Prop) : R D → Prop
  | .ok k ρ2 => Ws (setT i π d k) ρ2 (fun z => match z with | .nx ρ' => P ρ' | _ => False)
  | .ex _ _ _ => False
theorem kt_gp1 {n : M D} {d : D} {P : Cs → Prop} {π : List Pt} : Kp i n d P (.ok π ρ) = Wt i π ρ (Vll fun _ _ => Wm (lk i n) ρ (Kp2 i π d P)) := by
  show Wt i π ρ _ = _
  congr 1
theorem kt_gp2 {d k : D} {P : Cs → Prop} {π : List Pt} : Kp2 i π d P (.ok k ρ) = Ws (setT i π d k) ρ (fun z => match z with | .nx ρ' => P ρ' | _ => False) := rfl
end
/-! ### f(k = v, ..), a new object of our own -/
section
variable {X : Cx} {Xs : List XC} {W : WX} {x : Str} {p pos : Pos}
theorem so_kw0 {kws : List Keyword} {F : FnD} {ks : List Str} {ix : List Nat} {ms : M (List Arg)} (C : CalW X Xs x F ks 0 ix) (hg : Gl X x) (tk : Takes X W) (ha : SK X Xs W kws ms) (hfr : F.fr = true := by rfl)
    (hall : (backToKw pos (keywordEach kws X.env)).all (·.1.isSome) = true := by rfl) (hks : (backToKw pos (keywordEach kws X.env)).filterMap (·.1) = ks := by rfl)
    (hdb : (x == ("__debug__" : Str)) = false := by decide) (hpl : ((backTo pos (starEach [] X.env)).any (·.1) || (backToKw pos (keywordEach kws X.env)).any (·.1.isNone)) = false := by rfl) :
    SO X Xs W (.Call (.Name x p) [] kws pos) (ms.bnd fun bs => if bs.length = ks.length then callK F (pick ix bs) else lift none) := by
  obtain ⟨k, f, fd, ps, F1, hr, hm, hk, hb⟩ := C.run
  refine pe_imp (pe_kw0 F1 hr hg hm hk hb (fun σ => passAt tk σ) ha hall hks hdb hpl) fun σ H Q ⟨B, G, ρ, s, r, h1, h2⟩ => ?_
  unfold M.bnd at h1
  cases em : ms ρ with
  | none => rw [em] at h1; cases h1
  | some q =>
    rw [em] at h1
    cases q with
    | ex c p ρ1 =>
      cases h1
      show rX X.K Xs W (RlR X.K) ms σ H _
      exact ⟨B, G, ρ, s, _, em, h2⟩
    | ok as ρ1 =>
      show rX X.K Xs W (RlR X.K) ms σ H _
      refine ⟨B, G, ρ, s, _, em, fun vs G1 H1 s1 e1 ra => ?_⟩
      dsimp only at h1
      by_cases hl : as.length = ks.length
      case neg => rw [if_neg hl] at h1; cases h1
      rw [if_pos hl] at h1
      refine ⟨by rw [ra.len]; exact hl, call_conv s1 (pick_args ra ix) h1 (fun d ρ' er v G' H' s' x' hv => ?_) (fun c p ρ' er G' H' s' => ?_)⟩
      · subst er
        rw [if_pos hfr] at hv
        obtain ⟨p, o, rfl, m2, m3, m4⟩ := hv
        exact h2 p o G' H' s' (e1.trans x') m2 m3 m4
      · subst er
        exact h2 G' H' s'
end
end Tk
namespace HT
open PySem PyProof.Rows
open PySem.SeqAt
open PySem.AutoSeq1 (wpAny_loadPart')
open PySem.MeetsSeq PySem.MeetsSeq2 PySem.MeetsSeq3
theorem adj_back (n : Nat) : Builtin.Slice.sliceAdjust none none (-1) (n : Int) = ((n : Int) - 1, -1) := by
  unfold Builtin.Slice.sliceAdjust
  simp
theorem places_back (n : Nat) : Builtin.Slice.slicePlaces ((n : Int) - 1) (-1) (-1) = n := by
  unfold Builtin.Slice.slicePlaces
  rw [if_neg (by decide)]
  by_cases h : (n : Int) - 1 > -1
  · rw [if_pos h]
    rw [show (- -1 : Int) = 1 by decide, Int.ediv_one]
    omega
  · rw [if_neg h]; omega
theorem fm_same {α β : Type} {f g : α → Option β} : ∀ (l : List α), (∀ x ∈ l, f x = g x) → l.filterMap f = l.filterMap g
  | [], _ => rfl
  | a :: l, h => by
    rw [List.filterMap_cons, List.filterMap_cons, h a List.mem_cons_self, fm_same l fun x hx => h x (List.mem_cons_of_mem _ hx)]
theorem pick_back (xs : Array Value) : ((List.range xs.size).filterMap fun (m : Nat) => xs[((xs.size : Int) - 1 + (m : Int) * (-1)).toNat]?).toArray = xs.toList.reverse.toArray := by
  have h := PySem.W.krv_all xs
  have e : (List.range xs.size).filterMap (fun (m : Nat) => xs[((xs.size : Int) - 1 + (m : Int) * (-1)).toNat]?) = ((List.range xs.size).map fun k => xs.size - 1 - k).filterMap (xs[·]?) := by
    rw [List.filterMap_map]
    refine fm_same _ fun m hm => ?_
    have := List.mem_range.mp hm
    show xs[_]? = xs[xs.size - 1 - m]?
    congr 1; omega
  rw [e, PySem.W.krv_range, List.filterMap_reverse, h]
variable {prog : Program} {w : World} {A : Around} {E : Value → Shared → Prop} {s : Shared}
theorem applied_back {sl : Addr} {vs : Value} {vl vu : Value} {n : Nat} {Q : Int × Int × Nat → Shared → Prop} (hs : s.heap.IsSliceOf sl vl vu vs) (pl : IsPart vl none) (pu : IsPart vu none) (ps : IsPart vs (some (-1)))
    (h : Q ((n : Int) - 1, -1, n) s) : wpAny (model prog w) A (Builtin.Slice.sliceApplied (.ref sl) (pure (n : Int))) Q E s := by
  obtain ⟨ob, hob, hcb, hdb⟩ := id hs
  unfold Builtin.Slice.sliceApplied Builtin.Slice.sliceFields
  refine wpAny_bind (wpAny_bind (wpAny_field hob hdb (x := vl) rfl (wpAny_bind (wpAny_field hob hdb (x := vu) rfl (wpAny_bind (wpAny_field hob hdb (x := vs) rfl (wpAny_pure ?_)))))))
  refine wpAny_bind (slicePart_ ps ?_)
  show wpAny _ _ (if ((-1 : Int) == 0) = true then _ else _) _ _ s
  rw [if_neg (by decide)]
  refine wpAny_bind (slicePart_ pl (wpAny_bind (slicePart_ pu (wpAny_bind (wpAny_pure ?_)))))
  show wpAny _ _ (match Builtin.Slice.sliceAdjust none none (-1) (n : Int) with | (lo, hi) => pure (lo, (-1 : Int), Builtin.Slice.slicePlaces lo hi (-1))) _ _ s
  rw [adj_back n]
  show wpAny _ _ (pure ((n : Int) - 1, (-1 : Int), Builtin.Slice.slicePlaces ((n : Int) - 1) (-1) (-1))) _ _ s
  rw [places_back]
  exact wpAny_pure h
theorem item_back {t sl : Addr} {items : Array Value} {vl vu vs : Value} {Q : Value → Shared → Prop} (ht : IsTup s.heap t items) (hs : s.heap.IsSliceOf sl vl vu vs) (pl : IsPart vl none) (pu : IsPart vu none) (ps : IsPart vs (some (-1)))
    (h : Q (.ref s.heap.objs.size) { s with heap := s.heap.push { cls := .type "tuple", data := .seq items.toList.reverse.toArray } })
    (hsz : items.size ≤ sizeLine) : wpAny (model prog w) A (getItem (.ref t) (.ref sl)) Q E s := by
  have fits : sizeOk (.seq items.toList.reverse.toArray) := by show items.toList.reverse.toArray.size ≤ sizeLine; simpa using hsz
  obtain ⟨ob, hob, hcb, hdb⟩ := id hs
  have isS : s.TypeIs (.ref sl) "slice" := ⟨ob, hob, hcb⟩
  unfold getItem; (try with_reducible refine wpAny_holding ?_); first | refine wpAny_bind (wpAny_pure ?_) | skip
  refine wpAny_bind (wpAny_sequenceKey ht.typeIs (by decide) (wpAny_bind (wpAny_callSpecial?_slot (name := Str.ofString "__getitem__") ht.typeIs PyProof.Rows.slot_tuple_getitem (wpAny_call_entry PyProof.Rows.slot_tuple_getitem ht.typeIs entry_tuple_getitem ?_ (args_tuple_getitem _ _)))))
  show wpAny _ _ (Builtin.Tuple.tupleItemsOf (.ref t) >>= _) _ _ s
  refine wpAny_bind (tupleItemsOf_ ht (wpAny_bind (wpAny_typeOf isS ?_)))
  rw [if_pos (by decide)]
  refine wpAny_bind (applied_back hs pl pu ps ?_)
  have no : ¬ (((((items.size : Int) - 1) == 0 && (-1 : Int) == 1) && items.size == items.size) = true) := by
    rw [show ((-1 : Int) == 1) = false by decide, Bool.and_false, Bool.false_and]; exact Bool.false_ne_true
  show wpAny _ _ (if ((((items.size : Int) - 1) == 0 && (-1 : Int) == 1) && items.size == items.size) = true then _ else _) _ _ s
  rw [if_neg no, pick_back]
  first
    | exact wpAny_bind (m := Builtin.Tuple.tupleExact _) (wpAny_newObj_type (wpAny_pure ⟨_, rfl, wpAny_pure h⟩) fits)
    | exact wpAny_bind (wpAny_bind (m := Builtin.Tuple.tupleExact _) (wpAny_newObj_type (wpAny_pure ⟨_, rfl, wpAny_pure h⟩) fits))
end HT
namespace L2
open PySem PySem.Spec PyProof.Rows
section
variable {X : Cx}
def tRevT (K : PySem.W.Frag) (te : TE) : TE := fun σ H Q => te σ H fun x H1 => ∃ a xs, x = .ref a ∧ SqT K H1 a xs ∧ ∀ p o, H1 p = none → o.dict = none → Q (.ref p) (upd H1 p (.frz o (.tup xs.reverse)))
theorem pe_revT {e : Expr} {te : TE} {k : Nat} {p1 p2 p3 pos : Pos} (he : PE X e te) : PE X (.Subscript e (.Slice none none (some (.UnaryOp .USub (.Constant (.int 1) k p1) p2)) p3) pos) (tRevT X.K te) := by
  refine ⟨fun pins s σ H Q I h => ?_⟩
  refine Subscript_ (thn (he.run pins s σ H _ I h) fun v s1 ⟨x, H1, I1, r1, q1⟩ => ?_)
  obtain ⟨a, xs, rfl, hx, q⟩ := q1
  cases r1
  have minus : PO X (some (.UnaryOp .USub (.Constant (.int 1) k p1) p2)) (tPart (tUn (rU fun i => .int (-i)) (tC (.int 1)))) := po_some (pe_un un_neg pe_int)
  refine wpAny_Slice (thn (po_none.run pins s1 σ H1 (fun o G => o = none ∧ G = H1) I1 ⟨rfl, rfl⟩) fun vl s2 ⟨l, G2, I2, pl, el, g2⟩ => ?_)
  subst el g2
  refine thn (po_none.run pins s2 σ G2 (fun o G => o = none ∧ G = G2) I2 ⟨rfl, rfl⟩) fun vu s3 ⟨u, G3, I3, pu, eu, g3⟩ => ?_
  subst eu g3
  refine thn (minus.run pins s3 σ G3 (fun o G => o = some (-1) ∧ G = G3) I3 ⟨1, rfl, -1, rfl, rfl, rfl⟩) fun vs s4 ⟨o, G4, I4, ps, eo, g4⟩ => ?_
  subst eo g4
  have I5 : Inv X pins σ G4 { s4 with heap := s4.heap.push { cls := .type "slice", data := .fields #[vl, vu, vs] } } := I4.kept (t' := s4.toks) fun b ob q => Heap.get?_push_of_some _ q
  obtain ⟨its, r, ht, hz⟩ := I5.tuple hx
  have hlen := r.length
  show wpAny (model X.prog X.w) X.A (subscriptTail e (.Slice none none (some (.UnaryOp .USub (.Constant (.int 1) k p1) p2)) p3) (.ref a) (.ref s4.heap.objs.size)) (EP X pins σ Q) X.xe { s4 with heap := s4.heap.push { cls := .type "slice", data := .fields #[vl, vu, vs] } }
  refine tail_any (ops := [.ref a, .ref s4.heap.objs.size]) ht.typeIs (PyProof.Rows.slot_tuple_getitem.lookup) (HT.item_back ht (Heap.IsSliceOf.new _ vl vu vs) pl pu ps ?_ (by rw [List.size_toArray]; omega)) (by with_unfolding_all rfl)
  exact ⟨.ref _, _, I5.laid (t' := s4.toks) (fun b ob q => Heap.get?_push_of_some _ q) (Nat.le_refl _) (Tk.frz_tup (by rw [List.length_reverse]; exact hz) r.reverse (Heap.get?_push_size _ rfl) rfl ⟨_, rfl⟩), rfl, q _ _ (I5.hok.fresh (Nat.le_refl _)) rfl⟩
end
end L2
namespace Tk
open PySem PySem.Spec PyProof.Rows L2 SX
def revT : D → Option D
  | .tup xs => some (.tup xs.reverse)
  | _ => none
/-- x[::-1] of a list, a text, a tuple -/
def revY (d : D) : Option D := match d with
  | .tup xs => some (.tup xs.reverse)
  | d => revX d
section
variable {X : Cx} {Xs : List XC} {W : WX} {a : Expr}
theorem se_revT {m : M D} {k : Nat} {p1 p2 p3 pos : Pos} (ha : SE X Xs W a m) : SE X Xs W (.Subscript a (.Slice none none (some (.UnaryOp .USub (.Constant (.int 1) k p1) p2)) p3) pos) (mU revT m) := by
  refine pe_imp (pe_revT ha) fun σ H Q ⟨B, G, ρ, s, h⟩ => ?_
  refine r1.bind (Rl := RlE X.K) s h fun x H1 d G1 ρ1 s1 e1 rx h1 => ?_
  obtain ⟨z, hz, q⟩ := h1.lifted
  cases rx <;> first | (cases hz; done) | skip
  rename_i a vs ds ha rs
  cases hz
  refine ⟨a, vs, rfl, s1.ex.st ha.sq, fun p o hp ho => ?_⟩
  have f := Fr.alloc (o := .frz o (.tup vs.reverse)) s1.ex hp
  exact q _ _ _ (s1.step f) f.g (.tup (.inl ⟨o, upd_same, ho⟩) (Reps.mono f.g (Reps.reverse rs)))
theorem se_revY {m : M D} {k : Nat} {p1 p2 p3 pos : Pos} (ha : SE X Xs W a m) : SE X Xs W (.Subscript a (.Slice none none (some (.UnaryOp .USub (.Constant (.int 1) k p1) p2)) p3) pos) (mU revY m) := by
  refine ⟨fun pins s σ H R I ⟨B, G, ρ, sr, r, h1, h2⟩ => ?_⟩
  have no : m ρ ≠ none := fun z => by unfold mU M.bnd at h1; rw [z] at h1; cases h1
  have go : ∀ (g : D → Option D), (∀ d ρ1, m ρ = some (.ok d ρ1) → revY d = g d) → rX X.K Xs W (RlE X.K) (mU g m) σ H R := fun g hg => ⟨B, G, ρ, sr, r, mU_to h1 hg, h2⟩
  cases em : m ρ with
  | none => exact absurd em no
  | some q =>
    cases q with
    | ex c p ρ1 => exact (se_revT ha).run pins s σ H R I (go _ fun d ρ2 z => by rw [em] at z; cases z)
    | ok d ρ1 =>
      have same : ∀ {g : D → Option D}, revY d = g d → ∀ d' ρ2, m ρ = some (.ok d' ρ2) → revY d' = g d' := fun hg d' ρ2 z => by rw [em] at z; cases z; exact hg
      cases d <;> first
        | exact (se_revT ha).run pins s σ H R I (go _ (same rfl))
        | exact (se_revX ha).run pins s σ H R I (go _ (same rfl))
end
section
variable {Q : D → Prop}
theorem wo_revY1 {l : List D} : Wo (revY (.lst l)) Q = Q (.lst l.reverse) := wo_some
theorem wo_revY2 {l : List D} : Wo (revY (.tup l)) Q = Q (.tup l.reverse) := wo_some
theorem wo_revY3 {l : List Nat} : Wo (revY (.str l)) Q = (l.length ≤ sizeLine ∧ Q (.str l.reverse)) := wo_if
end
end Tk
namespace Tk
open PySem PySem.Spec PyProof.Rows L2 SX
/-! ### s.split(t) -/
def splitL (s t : List Nat) : List (List Nat) := (Txt.split ⟨s.toArray⟩ ⟨t.toArray⟩).map fun w => w.cps.toList
def splitD : D → D → Option D
  | .str s, .str t => if (t.length == 0) = false ∧ s.length + 2 ≤ sizeLine then some (.lst ((splitL s t).map .str)) else none
  | _, _ => none
theorem rep_text (K : PySem.W.Frag) (G : Hp) (y : Str) : Rep K G (V.str y) (.str y.cps.toList) := by
  obtain ⟨a⟩ := y
  have := Rep.str (K := K) (G := G) a.toList
  simpa using this
theorem reps_strs {K : PySem.W.Frag} {G : Hp} : ∀ ys : List Str, Reps K G (ys.map V.str) ((ys.map fun w => w.cps.toList).map .str)
  | [] => .nil
  | y :: ys => .cons (rep_text K G y) (reps_strs ys)
section
variable {X : Cx} {Xs : List XC} {W : WX} {e o : Expr} {apos cpos : Pos}
theorem se_split {m n : M D} (ho : SE X Xs W o m) (ha : SE X Xs W e n) (hs : starEach [e] X.env = [(false, eval e X.env)] := by rfl) (hbase : attributeBase o "split" X.env (eval o X.env) = eval o X.env := by rfl) (hline : (apos.endLine == cpos.line) = true := by rfl) :
    SE X Xs W (.Call (.Attribute o "split" apos) [e] [] cpos) (mM .str splitD m n) := by
  refine pe_imp (pe_split ho ha hs hbase hline) fun σ H Q ⟨B, G, ρ, s, h⟩ => ?_
  refine r1.bind (Rl := RlE X.K) s h fun x H1 d G1 ρ1 s1 e1 rx h1 => ?_
  by_cases ht : tyD d = .str
  · rw [if_pos ht] at h1
    refine ⟨by cases rx <;> first | (cases ht; done) | exact ⟨_, rfl⟩, ?_⟩
    refine r1.bind (Rl := RlE X.K) s1 h1 fun y H2 d2 G2 ρ2 s2 e2 ry h2 => ?_
    obtain ⟨z, hz, q⟩ := h2.lifted
    cases rx <;> first | (cases ht; done) | skip
    rename_i a
    cases ry <;> first | (cases hz; done) | skip
    rename_i b
    obtain ⟨⟨hb, hl⟩, rfl⟩ := ite_inv (show (if _ then _ else _) = _ from hz)
    refine ⟨⟨a.toArray⟩, ⟨b.toArray⟩, rfl, rfl, hb, hl, fun p hp => ?_⟩
    have f := Fr.alloc (o := .lst ((Txt.split ⟨a.toArray⟩ ⟨b.toArray⟩).map V.str)) s2.ex hp
    exact q _ _ _ (s2.step f) f.g (.lst upd_same (reps_strs _))
  · rw [if_neg ht] at h1
    obtain ⟨z, hz, q⟩ := h1.lifted
    cases hz
end
section
theorem wo_split {s t : List Nat} {Q : D → Prop} : Wo (splitD (.str s) (.str t)) Q = (((t.length == 0) = false ∧ s.length + 2 ≤ sizeLine) ∧ Q (.lst ((splitL s t).map .str))) := wo_if
end
/-! ### s.islower() -/
def islD : D → Option D
  | .str s => some (.bl (Txt.islower ⟨s.toArray⟩))
  | _ => none
section
variable {X : Cx} {Xs : List XC} {W : WX} {o : Expr} {apos cpos : Pos}
theorem se_islower {m : M D} (ho : SE X Xs W o m) (hbase : attributeBase o "islower" X.env (eval o X.env) = eval o X.env := by rfl) (hline : (apos.endLine == cpos.line) = true := by rfl) : SE X Xs W (.Call (.Attribute o "islower" apos) [] [] cpos) (mU islD m) :=
  se_m0 F.plainAttrs_str F.slot_str_islower F.type_str_islower mt_islower (fun G H x d z Q ex rx h q => by
    cases rx <;> first | (cases h; done) | skip
    cases h
    exact ⟨rfl, _, rfl, rfl, trivial, q _ G H (Fr.refl ex) (.bl _)⟩) ho hbase hline
end
section
theorem wo_islower {s : List Nat} {Q : D → Prop} : Wo (islD (.str s)) Q = Q (.bl (Txt.islower ⟨s.toArray⟩)) := wo_some
end
end Tk
/-! Defs that let out exceptions without a context (Z); raise .. from None in an except suite. -/
namespace Tk
open PySem PySem.Spec PyProof.Rows L2 SX
structure CalMZ (X : Cx) (Xs : List XC) (c m : Str) (F : FnD) : Prop where
  run : ∃ (C : Addr) (k : Nat) (f : Addr) (fd : FuncData) (ps : List Str), PySem.W.nsIn X.K mainGlobals c = some (some (.ref C)) ∧ Cls X.K C ∧ Meth X.K C m f ∧ FnOk X.prog X.w X.K X.mg X.base (L2N.CX X.prog X.w) k f fd ps (spF X.K Xs F) ∧ Room k X.A ∧ Binds X.K fd ps []
structure CalCZ (X : Cx) (Xs : List XC) (c : Str) (F : FnD) : Prop where
  run : ∃ (C : Addr) (k : Nat) (f : Addr) (fd : FuncData) (ps : List Str), PySem.W.nsIn X.K mainGlobals c = some (some (.ref C)) ∧ Mk X.K C f ∧ FnOk X.prog X.w X.K X.mg X.base (L2N.CX X.prog X.w) k f fd ps (spF X.K Xs F) ∧ Room (k + 1) X.A ∧ X.mg c = some (.ref C) ∧ Binds X.K fd ps []
structure MetFZ (P : Program) (w : World) (K : PySem.W.Frag) (mg : Str → Option Value) (base : Heap) (Xs : List XC) (c m : Str) (k : Nat) (F : FnD) : Prop where
  ex : ∃ (C f : Addr) (fd : FuncData) (ps : List Str), PySem.W.nsIn K mainGlobals c = some (some (.ref C)) ∧ Cls K C ∧ Meth K C m f ∧ FnOk P w K mg base (L2N.CX P w) k f fd ps (spF K Xs F) ∧ Binds K fd ps []
theorem MetFZ.cal {X : Cx} {Xs : List XC} {c m : Str} {k : Nat} {F : FnD} (h : MetFZ X.prog X.w X.K X.mg X.base Xs c m k F) (hr : Room k X.A) : CalMZ X Xs c m F :=
  let ⟨C, f, fd, ps, h1, h2, h3, h4, h5⟩ := h.ex
  ⟨C, k, f, fd, ps, h1, h2, h3, h4, hr, h5⟩
structure IniFZ (P : Program) (w : World) (K : PySem.W.Frag) (mg : Str → Option Value) (base : Heap) (Xs : List XC) (c : Str) (k : Nat) (F : FnD) : Prop where
  ex : ∃ (C f : Addr) (fd : FuncData) (ps : List Str), PySem.W.nsIn K mainGlobals c = some (some (.ref C)) ∧ Mk K C f ∧ FnOk P w K mg base (L2N.CX P w) k f fd ps (spF K Xs F) ∧ mg c = some (.ref C) ∧ Binds K fd ps []
theorem IniFZ.cal {X : Cx} {Xs : List XC} {c : Str} {k : Nat} {F : FnD} (h : IniFZ X.prog X.w X.K X.mg X.base Xs c k F) (hr : Room (k + 1) X.A) : CalCZ X Xs c F :=
  let ⟨C, f, fd, ps, h1, h2, h3, h4, h5⟩ := h.ex
  ⟨C, k, f, fd, ps, h1, h2, h3, hr, h4, h5⟩
theorem ClsT.metZ {P : Program} {w : World} {K : PySem.W.Frag} {mg : Str → Option Value} {base : Heap} {Xs : List XC} {c m : Str} {k : Nat} {F : FnD} {C f : Addr} {fd : FuncData} {ps : List Str} (t : ClsT K mg c C) (hm : Meth K C m f) (h : FnOk P w K mg base (L2N.CX P w) k f fd ps (spF K Xs F)) (b : Binds K fd ps []) : MetFZ P w K mg base Xs c m k F :=
  ⟨C, f, fd, ps, t.ns, t.cl, hm, h, b⟩
theorem ClsT.iniZ {P : Program} {w : World} {K : PySem.W.Frag} {mg : Str → Option Value} {base : Heap} {Xs : List XC} {c : Str} {k : Nat} {F : FnD} {C f : Addr} {fd : FuncData} {ps : List Str} (t : ClsT K mg c C) (hm : Mk K C f) (h : FnOk P w K mg base (L2N.CX P w) k f fd ps (spF K Xs F)) (b : Binds K fd ps []) : IniFZ P w K mg base Xs c k F :=
  ⟨C, f, fd, ps, t.ns, hm, h, t.mg_, b⟩
section
variable {X : Cx} {Xs : List XC} {W : WX} {e a b c : Expr} {es : List Expr} {pos p apos cpos spos pos' : Pos} {x f m : Str} {cl : Str}
theorem se_metZ {F : FnD} {ms : M (List Arg)} {pl : Sem Bool} (i : Nat) (C : CalMZ X Xs cl m F) (tk : L2N.Takes X W) (hN : X.N[i]? = some x) (hv : Vis X.env.scope x) (ha : SR' X Xs W (e :: es) ms) (hfr : F.fr = false := by rfl) (hd : (x == ("__debug__" : Str)) = false := by decide) (hcd : (x == ("__classdict__" : Str)) = false := by decide)
    (hst : starEach (e :: es) X.env = (false, eval e X.env) :: starEach es X.env := by rfl) (hpl : (backTo pos (starEach es X.env)).any (·.1) = false := by rfl)
    (ht : eval (.Call (.Attribute (.Name x p) m apos) (e :: es) [] pos) X.env = (do
      let ov ← eval (.Name x p) X.env
      standAt apos.atName
      let (f, first) ← holding [ov] (getMethod ov m pl)
      callWith pos f first (backTo pos (starEach (e :: es) X.env)) (backToKw pos (keywordEach [] X.env))) := by rfl) :
    SE X Xs W (.Call (.Attribute (.Name x p) m apos) (e :: es) [] pos) (mMet i cl m F ms) := by
  obtain ⟨C, k, f, fd, ps, hC, hc, hm, F1, hr, hb⟩ := C.run
  refine pe_imp (pe_methW (pl := pl) (pe_ref (i := i) hN hv hd hcd) hc hm F1 hr hb (fun σ => L2N.passAt tk σ) ha hst hpl ht) fun σ H Q ⟨B, G, ρ, s, r, h1, h2⟩ => ?_
  unfold mMet at h1
  by_cases hi : isCls i cl m ρ = true
  case neg => rw [if_neg hi] at h1; cases h1
  rw [if_pos hi] at h1
  obtain ⟨a, dx, vs, b, sh, d, k1, k2, k3, k4⟩ := isCls_is s hC hi
  refine ⟨.ref a, k1, a, dx, vs, rfl, k2, k3, ?_⟩
  unfold mCall at h1
  have h0 : aT i ms ρ = (ms.bnd fun as => M.ret (.o i :: as)) ρ := by unfold aT; rw [k4]
  unfold M.bnd at h1
  rw [h0] at h1
  show rX X.K Xs W (RlR X.K) ms σ H _
  unfold M.bnd at h1
  cases em : ms ρ with
  | none => rw [em] at h1; cases h1
  | some q =>
    rw [em] at h1
    refine ⟨B, G, ρ, s, q, em, ?_⟩
    cases q with
    | ex c p ρ1 => cases h1; exact h2
    | ok as ρ1 =>
      intro us G1 H1 s1 e1 ra
      have h3 : callK F (.o i :: as) ρ1 = some r := h1
      refine call_conv s1 (.o k1 ra) h3 (fun d ρ' er v G' H' s' x' hv => ?_) (fun c p ρ' er G' H' s' => ?_)
      · subst er
        rw [if_neg (by rw [hfr]; decide)] at hv
        exact h2 v G' H' s' (e1.trans x') hv
      · subst er
        exact h2 G' H' s'
theorem se_met0Z {F : FnD} {pl : Sem Bool} (i : Nat) (C : CalMZ X Xs cl m F) (tk : L2N.Takes X W) (hN : X.N[i]? = some x) (hv : Vis X.env.scope x) (hfr : F.fr = false := by rfl) (hd : (x == ("__debug__" : Str)) = false := by decide) (hcd : (x == ("__classdict__" : Str)) = false := by decide)
    (ht : eval (.Call (.Attribute (.Name x p) m apos) [] [] pos) X.env = (do
      let ov ← eval (.Name x p) X.env
      standAt apos.atName
      let (f, first) ← holding [ov] (getMethod ov m pl)
      callWith pos f first (backTo pos (starEach [] X.env)) (backToKw pos (keywordEach [] X.env))) := by rfl) :
    SE X Xs W (.Call (.Attribute (.Name x p) m apos) [] [] pos) (mMet i cl m F aNil) := by
  obtain ⟨C, k, f, fd, ps, hC, hc, hm, F1, hr, hb⟩ := C.run
  refine pe_imp (pe_methW0 (pl := pl) (pe_ref (i := i) hN hv hd hcd) hc hm F1 hr hb (fun σ => L2N.passAt tk σ) ht) fun σ H Q ⟨B, G, ρ, s, r, h1, h2⟩ => ?_
  unfold mMet at h1
  by_cases hi : isCls i cl m ρ = true
  case neg => rw [if_neg hi] at h1; cases h1
  rw [if_pos hi] at h1
  obtain ⟨a, dx, vs, b, sh, d, k1, k2, k3, k4⟩ := isCls_is s hC hi
  refine ⟨.ref a, k1, a, dx, vs, rfl, k2, k3, ?_⟩
  have h3 : callK F [.o i] ρ = some r := by
    unfold mCall M.bnd at h1
    unfold aT at h1
    rw [k4] at h1
    exact h1
  refine call_conv s (.o k1 .nil) h3 (fun d ρ' er v G' H' s' x' hv => ?_) (fun c p ρ' er G' H' s' => ?_)
  · subst er
    rw [if_neg (by rw [hfr]; decide)] at hv
    exact h2 v G' H' s' x' hv
  · subst er
    exact h2 G' H' s'
theorem st_makeZ {F : FnD} {ms : M (List Arg)} (C : CalCZ X Xs cl F) (hg : Gl X cl) (tk : L2N.Takes X W) (ha : SR' X Xs W (e :: es) ms)
    (hdb : (cl == ("__debug__" : Str)) = false := by decide) (he : starEach (e :: es) X.env = (false, eval e X.env) :: starEach es X.env := by rfl) (hpl : (backTo pos (starEach es X.env)).any (·.1) = false := by rfl) : STr X Xs W (.Call (.Name cl p) (e :: es) [] pos) (mMake cl F ms) := by
  obtain ⟨C, k, f, fd, ps, hC, M, F1, hr, hm, hb⟩ := C.run
  refine pe_imp (pe_makeW M F1 hr hg hm hb (fun σ => L2N.passAt tk σ) ha hdb he hpl) fun σ H Q ⟨B, G, ρ, s, r, h1, h2⟩ => ?_
  show rX X.K Xs W (RlR X.K) ms σ H _
  rcases mMake_inv h1 with ⟨k, p, ρ1, em, rfl⟩ | ⟨as, ρ1, s0, ks, ds, d, em, hk, hfr, hf, nd, ed, hs, rfl⟩
  · exact ⟨B, G, ρ, s, _, em, h2⟩
  · refine ⟨B, G, ρ, s, _, em, fun vs G1 H1 s1 x1 ra x dx hx hd ne => ?_⟩
    exact make_conv s1 hC ra hk hfr hf nd ed hs hx hd ne fun fp G' H' s' x' o n => h2 x fp G' H' s' (x1.trans x') o n
theorem st_make0Z {F : FnD} (C : CalCZ X Xs cl F) (hg : Gl X cl) (tk : L2N.Takes X W) (hdb : (cl == ("__debug__" : Str)) = false := by decide) : STr X Xs W (.Call (.Name cl p) [] [] pos) (mMake cl F aNil) := by
  obtain ⟨C, k, f, fd, ps, hC, M, F1, hr, hm, hb⟩ := C.run
  refine pe_imp (pe_makeW0 M F1 hr hg hm hb (fun σ => L2N.passAt tk σ) hdb) fun σ H Q ⟨B, G, ρ, s, r, h1, h2⟩ => ?_
  rcases mMake_inv h1 with ⟨k, p, ρ1, em, _⟩ | ⟨as, ρ1, s0, ks, ds, d, em, hk, hfr, hf, nd, ed, hs, rfl⟩
  · cases em
  · cases em
    exact fun x dx hx hd ne => make_conv s hC .nil hk hfr hf nd ed hs hx hd ne fun fp G' H' s' x' o n => h2 x fp G' H' s' x' o n
theorem se_metNZ {F : FnD} {mk : M (Sh × D)} {pl : Sem Bool} (C : CalMZ X Xs cl m F) (tk : L2N.Takes X W) (he : STr X Xs W a mk)
    (ht : eval (.Call (.Attribute a m apos) [] [] pos) X.env = (do
      let ov ← eval a X.env
      standAt apos.atName
      let (f, first) ← holding [ov] (getMethod ov m pl)
      callWith pos f first (backTo pos (starEach [] X.env)) (backToKw pos (keywordEach [] X.env))) := by rfl) :
    SE X Xs W (.Call (.Attribute a m apos) [] [] pos) (mMetN cl m F mk) := by
  obtain ⟨C, k, f, fd, ps, hC, hc, hm, F1, hr, hb⟩ := C.run
  refine pe_imp (pe_methW0 (pl := pl) he hc hm F1 hr hb (fun σ => L2N.passAt tk σ) ht) fun σ H Q ⟨B, G, ρ, s, r, h1, h2⟩ => ?_
  unfold mMetN M.bnd at h1
  cases em : mk ρ with
  | none => rw [em] at h1; cases h1
  | some q =>
    rw [em] at h1
    refine ⟨B, G, ρ, s, q, em, ?_⟩
    cases q with
    | ex c p ρ1 => cases h1; exact h2
    | ok q ρ1 =>
      intro a0 fp G1 H1 s1 x1 ow nw
      dsimp only at h1
      split at h1
      · rename_i c' fs ds s0 sb hk
        by_cases hz : c' = cl ∧ (fldAt m fs ds).isNone = true ∧ F.fr = false ∧ s0.beq (.obj c' fs) = true
        case neg => rw [if_neg hz] at h1; cases h1
        rw [if_pos hz] at h1
        obtain ⟨rfl, z2, z3, z4⟩ := hz
        have z5 := Sh.beq_eq z4
        subst z5
        have ow1 := ow
        cases ow1 with
        | obj g0 g1 g2 g3 g4 g5 g6 g7 g8 =>
          rename_i C' dx vs fp0
          rw [hC] at g0; cases g0
          refine ⟨a0, dx, vs, rfl, g1, g5.no (by simpa using z2), ?_⟩
          have hS : ∀ x ∈ SPU [] [(0, a0, a0 :: dx :: fp0)], NewO B σ G1 H1 ρ1 x ∧ ∃ o, H1 x = some o ∧ ∀ fs, o ≠ .xd fs := fun x hx => by
            have hx' : x ∈ a0 :: dx :: fp0 := by simpa [SPU] using hx
            exact ⟨nw x hx', (ow.objs x hx').1⟩
          have args : argsOk X.K G1 H1 0 F.ks [.ref a0] [.tup ds] [] [(0, a0, a0 :: dx :: fp0)] [] := by rw [hk]; exact ⟨rfl, rfl, ow, trivial⟩
          have lent : LentOk [] [(0, a0, a0 :: dx :: fp0)] [] := ⟨List.nodup_nil, Nat.le_refl _, (fun _ h => nomatch h), (fun _ h => nomatch h), (fun _ _ _ h => nomatch h), List.Pairwise.nil⟩
          show spF X.K Xs F [.ref a0] H1 Q (WE W σ)
          cases hs : F.sem [.tup ds] with
          | none => rw [hs] at h1; cases h1
          | some fr =>
            rw [hs] at h1
            refine ⟨G1, [], [(0, a0, a0 :: dx :: fp0)], [], [.tup ds], fr, s1.ex, args, lent, hs, ?_⟩
            cases fr with
            | ret d outs =>
              cases h1
              intro v G' H' f ho hv
              rw [if_neg (by rw [z3]; decide)] at hv
              exact h2 v G' H' (s1.off hS f) (x1.trans f.g) hv
            | exc k p outs =>
              cases h1
              intro G' H' f ho
              have s' := s1.off hS f
              obtain ⟨x, hx1, hx2⟩ := h2 G' H' s'
              refine ⟨x, hx1, ?_⟩
              cases hf : x.f with
              | none => rw [hf] at hx2; exact hx2
              | some f' =>
                rw [hf] at hx2
                exact fun dd v w1 w2 w3 w4 => hx2 dd v w1 (s1.fresh w2).2.2.1 w3 w4
      · cases h1
end
section
variable {P : Program} {w : World} {K : PySem.W.Frag} {mg : Str → Option Value} {base : Heap} {Xs : List XC}
theorem fn_okZ {x qual : Str} {st : Stmt} {f : Addr} {fd : FuncData} {N ps : List Str} {k : Nat} {F : FnD} {m : MS} (Fu : Fun K x qual st f fd) (S : FnScope N ps (defScope st)) (hk : F.ks.length = ps.length) (hN : ps.length ≤ N.length)
    (hb : ∀ (cdv : Value) (A : Around) (outer : List Env) (s : Shared) (H : Hp) (E : XK), Room k (A.deeper (envOfC qual (defScope st) s.heap.objs.size f cdv)) → SB (cxOf (L2N.CX P w) P w K mg base N qual (defScope st) f cdv A outer s H E) Xs (fun cls d _ H => E cls d H) (defBody st) m)
    (hs : ∀ ds r, F.sem ds = some r → runF N.length F.ks F.fr m ds = some r) : FnOk P w K mg base (L2N.CX P w) (k + 1) f fd ps (spF K Xs F) := by
  refine okG Fu S (fun vs H Q E h => ?_) (fun cdv A outer s H vs Q E hr h => ⟨_, hb cdv A outer s H E hr, ?_⟩)
  · obtain ⟨G, P', U', N', ds, r, e, a, _⟩ := h
    rw [(argsOk_len a).1, hk]
  · obtain ⟨G, P', U', N', ds, r, e, a, nd, hsem, post⟩ := h
    have s0 := init_sr (N := N) e a nd (by omega)
    have hrun := hs ds r hsem
    unfold runF at hrun
    obtain ⟨ix, ux⟩ := args_fst a
    have outs : ∀ {σ G' H' ρ' os}, SR K { G := G, H := H, P := P', T := [], U := U', L := fun _ => H } σ G' H' ρ' → outAt ρ' 0 F.ks = some os → outsOk K G' H' H F.ks P' U' os ∧ ∀ x ∈ outFp H' F.ks U', ∃ j, x ∈ fpAt H' σ ρ' j := fun {σ G' H' ρ' os} s' ho => outs_ok s' ix ux a (fun p q => q) (fun p q => q) ho
    cases em : m (init N.length F.ks ds) with
    | none => rw [em] at hrun; cases hrun
    | some q =>
      rw [em] at hrun
      refine ⟨_, G, _, q, s0, em, ?_⟩
      have fin : ∀ {d : D} {os : List D}, r = .ret d os → F.fr = false → ∀ v σ' G' H' ρ', SR K { G := G, H := H, P := P', T := [], U := U', L := fun _ => H } σ' G' H' ρ' → outAt ρ' 0 F.ks = some os → Rep K G' v d → Q v H' := fun {d os} er ef v σ' G' H' ρ' s' ho rv => by
        subst er
        exact post v G' H' s'.fr (outs s' ho).1 (by rw [if_neg (by rw [ef]; decide)]; exact rv)
      cases q with
      | bk ρ' => cases hrun
      | ct ρ' => cases hrun
      | nx ρ' =>
        dsimp only at hrun
        by_cases hf : F.fr = true
        · rw [if_pos hf] at hrun; cases hrun
        · rw [if_neg hf] at hrun
          obtain ⟨os, ho, er⟩ := map_inv hrun
          exact fun σ' G' H' s' => fin er.symm (by simpa using hf) .non σ' G' H' ρ' s' ho .non
      | rt d ρ' =>
        dsimp only at hrun
        by_cases hf : F.fr = true
        · rw [if_pos hf] at hrun; cases hrun
        · rw [if_neg hf] at hrun
          obtain ⟨os, ho, er⟩ := map_inv hrun
          exact fun v σ' G' H' s' rv => fin er.symm (by simpa using hf) v σ' G' H' ρ' s' ho rv
      | ro d ρ' =>
        dsimp only at hrun
        obtain ⟨os, ho, er⟩ := map_inv hrun
        intro p o σ' G' H' s' hp ro n
        by_cases hf : F.fr = true
        · subst er
          exact post (.ref p) G' H' s'.fr (outs s' ho).1 (by
            rw [if_pos hf]
            exact ⟨p, o, rfl, n.2.1, n.1, hp, ro, fun z => by
              obtain ⟨j, hj⟩ := (outs s' ho).2 p z
              exact n.2.2.2.2 j hj⟩)
        · exact fin er.symm (by simpa using hf) (.ref p) σ' _ H' ρ' (s'.adopt hp n) ho ((ro.mono (Ex.upd n.1)).rep upd_same)
      | ex c p ρ' =>
        dsimp only at hrun
        obtain ⟨os, ho, er⟩ := map_inv hrun
        subst er
        exact fun σ' G' H' s' => post G' H' s'.fr (outs s' ho).1
theorem cx_z {outer : List Env} {H : Hp} {s s' : Shared} {E : XK} {u : Value} (h : L2N.CX P w outer H s E u s') : L2.CX P w outer H s E u s' := by
  obtain ⟨a, B, H', c, d, h1, h2, h3⟩ := h
  exact ⟨a, B, H', c, d, h1, L2H.flyingZ_imp (fun o z => L2N.Zn.zc z) h2, h3⟩
theorem fn_z {k : Nat} {f : Addr} {fd : FuncData} {ps : List Str} {sp : Sp} (h : FnOk P w K mg base (L2N.CX P w) k f fd ps sp) : FnOk P w K mg base (L2.CX P w) k f fd ps sp :=
  ⟨h.len, fun A o s H as us vs Q E hr e0 hb r z => codeAny_mono (h.run A o s H as us vs Q E hr e0 hb r z) fun r' s' hq => by
    cases r' with
    | ok fl => cases fl <;> exact hq
    | error e => exact cx_z hq⟩
theorem MetFZ.to {c m : Str} {k : Nat} {F : FnD} (h : MetFZ P w K mg base Xs c m k F) : MetF P w K mg base Xs c m k F :=
  let ⟨C, f, fd, ps, h1, h2, h3, h4, h5⟩ := h.ex
  ⟨C, f, fd, ps, h1, h2, h3, fn_z h4, h5⟩
theorem IniFZ.to {c : Str} {k : Nat} {F : FnD} (h : IniFZ P w K mg base Xs c k F) : IniF P w K mg base Xs c k F :=
  let ⟨C, f, fd, ps, h1, h2, h3, h4, h5⟩ := h.ex
  ⟨C, f, fd, ps, h1, h2, fn_z h3, h4, h5⟩
/-- the class's __init__, where an exception is handled -/
structure ErH (P : Program) (w : World) (K : PySem.W.Frag) (mg : Str → Option Value) (base : Heap) (C : Addr) (f : Str) : Prop where
  init : ∃ (fI : Addr) (fd : FuncData) (ps : List Str), PySem.W.findIn K (.ref C) "__init__" = some (some (.ref fI)) ∧ PySem.W.typeIn K (.ref fI) = some (.type "function") ∧ L2H.FnH P w K mg base (L2.CX P w) 1 fI fd ps (spInit K f) ∧ Binds K fd ps []
theorem init_okH {qual f : Str} {params : Arguments} {scope : Scope} {dvs : List V} {fI : Addr} {fd : FuncData} {p1 p2 p3 pos : Pos}
    (F : FunD K "__init__" qual params [.Assign [.Attribute (.Name "self" p1) f p2] (.Name f p3) pos] scope dvs [] fI fd) (S : FnScope ["self", f] ["self", f] scope) (h1 : scope.names.lookup ("self" : Str) = some .local) (h2 : scope.names.lookup f = some .local)
    (hd : (f == ("__debug__" : Str)) = false := by decide) (hcd : (f == ("__classdict__" : Str)) = false := by decide) : L2H.FnH P w K mg base (L2.CX P w) 1 fI fd ["self", f] (spInit K f) := by
  obtain ⟨a1, a2, a3, a4, a5, a6, a7, a8, a9, a10, rfl, k1, k2, _, _⟩ := F.ex
  refine L2H.fn_ofH k1 k2 S (fun vs H Q E h => ?_) (fun A o s H vs Q E q hot hr h => ⟨_, pss_one (ps_ost (pe_var (i := 0) rfl (.inl h1)) (pe_var (i := 1) rfl (.inl h2) hd hcd) (by rfl)), ?_⟩)
  · obtain ⟨a, C, y, rfl, _⟩ := h; rfl
  · obtain ⟨a, C, y, rfl, T, hn, hH, q⟩ := h
    exact ⟨y, rfl, .ref a, rfl, a, C, rfl, T, hn, .inl ⟨hH, fun dx h1 h2 => q dx h1 h2⟩⟩
end
section
variable {X : Cx} {Xs : List XC} {W : WX} {e a b c o : Expr} {es : List Expr} {pos p apos cpos p2 spos tpos : Pos} {st : Stmt} {x : Str}
/-- C(e) where nothing is handled: the new exception's context is None -/
theorem pmk_oexZ {CX : CXT} {C fI : Addr} {k : Nat} {fd : FuncData} {ps : List Str} {sp : Sp} {ta : TA} (T : OexC X.K C) (iC : PySem.W.findIn X.K (.ref C) "__init__" = some (some (.ref fI))) (tI : PySem.W.typeIn X.K (.ref fI) = some (.type "function"))
    (F1 : L2.FnOk X.prog X.w X.K X.mg X.base CX k fI fd ps sp) (hr : L2.Room (k + 1) X.A) (hb : Binds X.K fd ps []) (hx : Passes CX X (fun _ _ _ => False)) (hg : Gl X x) (hm : X.mg x = some (.ref C)) (ha : PA X (e :: es) ta)
    (hdb : (x == ("__debug__" : Str)) = false := by decide) (he : starEach (e :: es) X.env = (false, eval e X.env) :: starEach es X.env := by rfl) (hpl : (backTo pos (starEach es X.env)).any (·.1) = false := by rfl) :
    L2N.PMk X (.Call (.Name x p) (e :: es) [] pos) (tMkO C sp [] ta) := by
  intro pins s σ H Q I h
  obtain ⟨nm, q, N, bs, bm, sn, sub, ab, col, dd, k0, k1, k2, k3, k5, hC, hbm⟩ := T.cls
  refine wpAny_Call_Name_kw (ld_glob I hg hm ?_ hdb)
  refine PySem.W.callWith_K (h₀ := X.base) I.ok.mod.kin T.kC (thn (ha.run pos pins s σ H _ I h) fun us ⟨hp, g, dr, tk, os⟩ ⟨vs, H1, I1, r1, hz, q1⟩ => ⟨I1.kIn, ?_⟩) he hpl
  show wpAny _ _ (call (.ref C) us) _ _ _
  have le1 : hp.objs.size ≤ hp.objs.size + 1 := Nat.le_succ _
  have no1 : H1 (hp.objs.size + 1) = none := I1.hok.fresh le1
  have q2 := q1 (hp.objs.size + 1) no1
  rw [List.append_nil] at q2
  have kp : ∀ z u, hp.get? z = some u → ((hp.push (PySem.W.kdv_tup us)).push (PySem.HandSPX.excO C hp.objs.size)).get? z = some u := fun z u y => Heap.get?_push_of_some _ (Heap.get?_push_of_some _ y)
  have at1 : ((hp.push (PySem.W.kdv_tup us)).push (PySem.HandSPX.excO C hp.objs.size)).get? (hp.objs.size + 1) = some (PySem.HandSPX.excO C hp.objs.size) := by heap_get
  have J := I1.laid (t' := tk) (a := hp.objs.size + 1) (o := exo (hp.objs.size + 1) C none) (h' := (hp.push (PySem.W.kdv_tup us)).push (PySem.HandSPX.excO C hp.objs.size)) kp le1 (exo_ok at1)
  have rv : Vals (V.ref (hp.objs.size + 1) :: vs) (Value.ref (hp.objs.size + 1) :: us) := .cons rfl r1
  have ln : (Value.ref (hp.objs.size + 1) :: us ++ []).length = ps.length := by
    rw [List.append_nil, ← F1.len _ _ _ _ q2]; exact rv.length.symm
  have sz : us.length ≤ sizeLine := by rw [← Paired.length r1, sizeLine_eq]; omega
  have bd := hb _ (Value.ref (hp.objs.size + 1) :: us) J.kIn ln
  rw [List.append_nil] at bd
  refine wpAny_call (PySem.HandSPX.call_own F.excBase_ValueError (fun Y => PySem.HandSPX.refsVE_contains Y bm hbm) (I1.kIn _ _ hC) (PySem.W.looks_findIn I1.kIn iC) (fun self => PySem.W.bind_fn I1.kIn self tI) sz
    (codeAny_mono (F1.run _ X.stack _ _ ⟨Value.ref (hp.objs.size + 1) :: us, []⟩ (Value.ref (hp.objs.size + 1) :: us) _ _ (fun _ _ _ => False) (hr.make C us []) (J.env0.make C us []) bd rv q2) fun r s' hq => ?_))
  cases r with
  | error er => exact hx pins σ _ _ er s' J hq
  | ok fl =>
    cases fl with
    | ret u =>
      obtain ⟨v, H2, os2, bare2, un2, hok2, rw1, ev, d, fs, ea, ed, hd1, q3⟩ := hq
      cases ev
      obtain ⟨h2, g2, d2, t2, os'⟩ := s'
      obtain ⟨t0, G, J2, kG, ge, hoe, na⟩ := mk_end0 (d2 := d2) (t2 := t2) I1 le1 kp un2 hok2 os2 bare2 ea ed hd1
      exact ⟨rw1, _, _, _, ⟨G, g2, d2, t2, os'⟩, _, .ref C, some d, rfl, J2, kG, ge, hoe, ⟨rfl, rfl, fun vs e => by cases e; rfl⟩, rfl, rfl, na, rfl, bare2, raises_own T.exC T.tyC, q3⟩
    | _ => exact False.elim hq
theorem ss_raiseZ {m : M D} {C : Addr} {f : Str} (c : Nat) (hc : X.calm = true) (tk : L2N.Takes X W) (E : ErC X.prog X.w X.K X.mg X.base x C f) (hx : Xs[c]? = some ⟨C, some f⟩) (hr : Room 2 X.A) (hg : Gl X x) (ha : SE X Xs W e m)
    (hdb : (x == ("__debug__" : Str)) = false := by decide) (he : starEach (e :: []) X.env = (false, eval e X.env) :: starEach [] X.env := by rfl) : SS X Xs W (.Raise (some (.Call (.Name x p) [e] [] cpos)) none pos) (ev m fun d ρ => some (.ex c d ρ)) := by
  obtain ⟨fI, fd, ps, iC, tI, F1, hb⟩ := E.init
  refine ps_imp (L2N.ps_raise hc tk (pmk_oexZ E.T iC tI F1 hr.l2 hb passL hg E.gC (pa_cons ha pa_nil he) hdb he rfl)) fun D' σ H h => ?_
  refine h.ev (Rl := RlE X.K) fun B y H1 d G1 ρ1 r s ry h3 h4 => ?_
  cases h3
  refine ⟨by show 1 ≤ 1000; decide, fun a ha => ?_⟩
  refine ⟨a, C, y, rfl, E.T, E.no, upd_same, fun dx h5 h6 => ⟨rfl, dx, [(f, y)], upd_same, ?_, ?_, ?_⟩⟩
  · rw [upd_ne h6, upd_same]
  · rw [upd_ne h6] at h5; exact h5
  · rw [upd_ne h6] at h5
    have eq : upd (del (upd (upd (upd H1 a (exo a C none)) dx (exd dx [(f, y)])) a (exo a C (some dx))) a) dx (.xd [(f, y)]) = upd H1 dx (.xd [(f, y)]) := by
      funext z
      unfold L2.upd L2.del
      by_cases q1 : z = dx
      · simp [q1]
      · by_cases q2 : z = a
        · subst q2; simp [q1, ha]
        · simp [q1, q2]
    rw [eq]
    have f1 := Fr.allocO (o := .xd [(f, y)]) s.ex h5
    have s1 := s.step f1
    obtain ⟨x', hx', post⟩ := h4 σ G1 _ s1
    rw [hx] at hx'; cases hx'
    exact post dx y upd_same (s.fresh h5).2.2.1 (s.fresh h5).2.2.2 ry
/-! ### try: .. except X: raise Y(e) from None -/
def tryR (c k : Nat) (m : MS) (me : M D) : MS := fun ρ => match m ρ with
  | some (.ex c' p ρ1) => if c' = c then ev me (fun d ρ2 => some (.ex k d ρ2)) ρ1 else some (.ex c' p ρ1)
  | r => r
/-- raise Y(e) from None, where an exception is handled -/
theorem ss_raiseH {m : M D} {C : Addr} {f : Str} {j : Nat} {np : Pos} (c : Nat) (hot : L2H.HotC X) (tk : L2.Takes X W) (T : OexC X.K C) (E : ErH X.prog X.w X.K X.mg X.base C f) (no : PySem.W.findIn X.K (.ref C) f = some none) (gC : X.mg x = some (.ref C)) (hx : Xs[c]? = some ⟨C, some f⟩) (hr : L2H.RoomH 2 X.A) (hg : Gl X x) (ha : SE X Xs W e m)
    (hdb : (x == ("__debug__" : Str)) = false := by decide) (he : starEach (e :: []) X.env = (false, eval e X.env) :: starEach [] X.env := by rfl) : SS X Xs W (.Raise (some (.Call (.Name x p) [e] [] cpos)) (some (.Constant .none j np)) pos) (ev m fun d ρ => some (.ex c d ρ)) := by
  obtain ⟨fI, fd, ps, iC, tI, F1, hb⟩ := E.init
  refine ps_imp (L2H.ps_raiseHN hot tk (L2H.pmk5_oexH T iC tI F1 hr hot hb passL hg gC (pa_cons ha pa_nil he) hdb he rfl)) fun D' σ H h => ?_
  refine h.ev (Rl := RlE X.K) fun B y H1 d G1 ρ1 r s ry h3 h4 => ?_
  cases h3
  refine ⟨by show 1 ≤ 1000; decide, fun a ha => ?_⟩
  refine ⟨a, C, y, rfl, T, no, upd_same, fun dx h5 h6 => ⟨rfl, dx, [(f, y)], upd_same, ?_, ?_, ?_⟩⟩
  · rw [upd_ne h6, upd_same]
  · rw [upd_ne h6] at h5; exact h5
  · rw [upd_ne h6] at h5
    have eq : upd (del (upd (upd (upd H1 a (exo a C none)) dx (exd dx [(f, y)])) a (exo a C (some dx))) a) dx (.xd [(f, y)]) = upd H1 dx (.xd [(f, y)]) := by
      funext z
      unfold L2.upd L2.del
      by_cases q1 : z = dx
      · simp [q1]
      · by_cases q2 : z = a
        · subst q2; simp [q1, ha]
        · simp [q1, q2]
    rw [eq]
    have f1 := Fr.allocO (o := .xd [(f, y)]) s.ex h5
    have s1 := s.step f1
    obtain ⟨x', hx', post⟩ := h4 σ G1 _ s1
    rw [hx] at hx'; cases hx'
    exact post dx y upd_same (s.fresh h5).2.2.1 (s.fresh h5).2.2.2 ry
theorem ss_tryR {y : Str} {np pos' rp cp npos : Pos} {C A2 : Addr} {f g : Str} {body : List Stmt} {ea : Expr} {j : Nat} {m : MS} {me : M D} (c k : Nat) (hs : X.stack = X.env :: X.outer) (hf : X.env.frame = some X.env.locals)
    (hC : Names X x (.ref C)) (hpa : ∀ hd : Option Value, PassesOwnAt (model X.prog X.w) (X.A.mark hd) X.A X.env X.xe) (tk : L2.Takes X W) (hx : Xs[c]? = some ⟨C, some f⟩) (hxs : ∀ (c' : Nat) (x' : XC), Xs[c']? = some x' → PySem.W.exmOne X.K (.ref x'.C) (.ref C) = some (decide (c' = c)))
    (hb : ∀ (W' : WX) (pn : List (Addr × Obj)) (xe : Value → Shared → Prop), L2N.Takes (X.tr pn xe) W' → PassesOwn (model X.prog X.w) X.A X.env xe → SB (X.tr pn xe) Xs W' body m)
    (T : OexC X.K A2) (E : ErH X.prog X.w X.K X.mg X.base A2 g) (no : PySem.W.findIn X.K (.ref A2) g = some none) (gD : X.mg y = some (.ref A2)) (hk : Xs[k]? = some ⟨A2, some g⟩) (hr : Room 2 X.A) (hgy : Gl X y)
    (he : ∀ (a : Addr) (pn : List (Addr × Obj)), SE (L2H.suiteX X a pn) Xs W ea me) (hdb : (y == ("__debug__" : Str)) = false := by decide) (hst : ∀ (a : Addr) (pn : List (Addr × Obj)), starEach (ea :: []) (L2H.suiteX X a pn).env = (false, eval ea (L2H.suiteX X a pn).env) :: starEach [] (L2H.suiteX X a pn).env := by intro _ _; rfl) :
    SS X Xs W (.Try body [.ExceptHandler (some (.Name x np)) none [.Raise (some (.Call (.Name y cp) [ea] [] rp)) (some (.Constant .none j npos)) pos'] p2] [] [] pos) (tryR c k m me) := by
  refine ps_imp (L2H.ps_try_onlyX (c := .ref C) (tb := fun W' => rS X.K Xs W' m) (ts := fun a cls d => rS X.K Xs W (ev me fun d ρ => some (.ex k d ρ))) hs hf hC hpa tk (fun W' pn xe t1 _ po => hb W' pn xe t1 po) (fun a oe cls d pn hz hfl tkS hot => ?_)) fun D' σ H ⟨B, G, ρ, r, s, h1, h2⟩ => ?_
  · exact pss_one (ss_raiseH k hot tkS T E no gD hk (L2H.roomH_mark hr.l2 _) hgy (he a _) hdb (hst a _))
  · unfold tryR at h1
    cases em : m ρ with
    | none => rw [em] at h1; cases h1
    | some q =>
      rw [em] at h1
      refine ⟨B, G, ρ, q, s, em, ?_⟩
      cases q with
      | nx ρ1 => cases h1; exact h2
      | bk ρ1 => cases h1; exact h2
      | ct ρ1 => cases h1; exact h2
      | rt d ρ1 => cases h1; exact h2
      | ro d ρ1 => cases h1; exact h2
      | ex c' p ρ1 =>
        intro σ1 G1 H1 s1
        dsimp only at h1
        by_cases hcc : c' = c
        · rw [if_pos hcc] at h1
          subst hcc
          refine ⟨_, hx, fun dd v k1 k2 k3 k4 => ⟨true, by rw [hxs _ _ hx]; simp, fun _ a ha => ?_, (fun z => nomatch z)⟩⟩
          exact ⟨B, G1, ρ1, r, s1, h1, h2⟩
        · rw [if_neg hcc] at h1
          cases h1
          obtain ⟨x', hx', post⟩ := h2 σ1 G1 H1 s1
          refine ⟨x', hx', ?_⟩
          have no := hxs _ _ hx'
          rw [decide_eq_false hcc] at no
          cases hxf : x'.f with
          | none => rw [hxf] at post; exact ⟨false, no, (fun z => nomatch z), fun _ => post⟩
          | some f' => rw [hxf] at post; exact fun dd v k1 k2 k3 k4 => ⟨false, no, (fun z => nomatch z), fun _ => post dd v k1 k2 k3 k4⟩
section
variable {Q : RS → Prop} {ρ : Cs} {d : D} {c k : Nat}
def Kz (c k : Nat) (me : M D) (Q : RS → Prop) : RS → Prop
  | .ex c' p ρ => if c' = c then Ws (ev me fun d ρ => some (.ex k d ρ)) ρ Q else Q (.ex c' p ρ)
  | .nx ρ => Q (.nx ρ)
  | .bk ρ => Q (.bk ρ)
  | .ct ρ => Q (.ct ρ)
  | .rt d ρ => Q (.rt d ρ)
  | .ro d ρ => Q (.ro d ρ)
variable {me : M D}
theorem kc_r1 : Kz c k me Q (.nx ρ) = Q (.nx ρ) := rfl
theorem kc_r2 : Kz c k me Q (.bk ρ) = Q (.bk ρ) := rfl
theorem kc_r3 : Kz c k me Q (.ct ρ) = Q (.ct ρ) := rfl
theorem kc_r4 : Kz c k me Q (.rt d ρ) = Q (.rt d ρ) := rfl
theorem kc_r5 : Kz c k me Q (.ro d ρ) = Q (.ro d ρ) := rfl
theorem kc_r6 : Kz c k me Q (.ex c d ρ) = Ws (ev me fun d ρ => some (.ex k d ρ)) ρ Q := if_pos rfl
theorem ws_tryR {m : MS} : Ws (tryR c k m me) ρ Q = Ws m ρ (Kz c k me Q) := by
  unfold Ws tryR
  cases h : m ρ with
  | none => simp
  | some r => cases r <;> simp [Kz, Ws] <;> (split <;> simp)
end
end
end Tk
/-! dict(pairs), d[k] and k in d of dicts that are data. -/
namespace Tk
open PySem PySem.Spec PyProof.Rows L2 SX
theorem ite_sm {α : Type} {c : Prop} [Decidable c] {o : Option α} {z : α} (h : (if c then o else none) = some z) : c ∧ o = some z := by
  by_cases hc : c
  · rw [if_pos hc] at h; exact ⟨hc, h⟩
  · rw [if_neg hc] at h; cases h
section
variable {K : PySem.W.Frag} {G : Hp}
theorem RepD.own (H : Hp) : ∀ {vs : List (Key × V)} {ds : List (D × D)}, RepD K G vs ds → OwnD K G H .fz vs ds []
  | _, _, .nil => .nil
  | _, _, .int a r => OwnD.int (f := []) (g := []) (.fz a) (RepD.own H r) Dj.nil
  | _, _, .str a r => OwnD.str (f := []) (g := []) (.fz a) (RepD.own H r) Dj.nil
theorem Own.fzr {H : Hp} {v : V} {d : D} {fp : List Addr} (h : Own K G H .fz v d fp) : Rep K G v d := by cases h; assumption
theorem OwnD.repz {H : Hp} : ∀ {vs : List (Key × V)} {ds : List (D × D)} {fp : List Addr}, OwnD K G H .fz vs ds fp → RepD K G vs ds
  | _, _, _, .nil => .nil
  | _, _, _, .int a r _ => .int a.fzr (OwnD.repz r)
  | _, _, _, .str a r _ => .str a.fzr (OwnD.repz r)
theorem RepD.put {vs : List (Key × V)} {ds : List (D × D)} {k d : D} {kk : Key} {v : V} (h : RepD K G vs ds) (u : uniqK ds = true) (hk : keyOf k = some kk) (r : Rep K G v d) : RepD K G (putK vs kk v) (putKD k d ds) := by
  obtain ⟨_, q, _⟩ := (h.own G).put u hk (.fz r) Dj.nil
  exact q.repz
theorem RepD.get {vs : List (Key × V)} {ds : List (D × D)} {k : D} {kk : Key} (h : RepD K G vs ds) (hk : keyOf k = some kk) : (∀ d, getK k ds = some d → ∃ v, valV vs kk = some v ∧ Rep K G v d) ∧ (getK k ds = none → valV vs kk = none) := by
  refine ⟨fun d e => ?_, fun e => ((h.own G).no e hk).1⟩
  obtain ⟨kk', v, f1, h0, h1, _, h2, _⟩ := (h.own G).at_ e
  rw [hk] at h0; cases h0
  exact ⟨v, h1, h2.fzr⟩
theorem sameK_of {k : D} {kk : Key} (h : keyOf k = some kk) : sameK k k = true := by
  cases k <;> cases h <;> simp [sameK]
def pairsD : List D → Option (List (D × D))
  | [] => some []
  | .tup [k, v] :: r => if (keyOf k).isSome = true then (pairsD r).map ((k, v) :: ·) else none
  | _ => none
def putsD (ps acc : List (D × D)) : List (D × D) := ps.foldl (fun acc p => putKD p.1 p.2 acc) acc
theorem putsD_rep : ∀ {kvs : List (Key × V)} {ps acc : List (D × D)} {ac : List (Key × V)}, RepD K G kvs ps → RepD K G ac acc → uniqK acc = true → RepD K G (mergeK ac kvs) (putsD ps acc) ∧ uniqK (putsD ps acc) = true := by
  intro kvs
  induction kvs with
  | nil => intro ps acc ac r h u; cases r; exact ⟨h, u⟩
  | cons p kvs ih =>
    intro ps acc ac r h u
    cases r with
    | @int i v d _ ds a r =>
      show RepD K G (mergeK (putK ac (.inl i) v) kvs) (putsD ds (putKD (.int i) d acc)) ∧ uniqK (putsD ds (putKD (.int i) d acc)) = true
      exact ih r (h.put u (k := .int i) rfl a) (uniqK_put (sameK_of (k := .int i) rfl) u)
    | @str s v d _ ds a r =>
      show RepD K G (mergeK (putK ac (.inr ⟨s.toArray⟩) v) kvs) (putsD ds (putKD (.str s) d acc)) ∧ uniqK (putsD ds (putKD (.str s) d acc)) = true
      exact ih r (h.put u (k := .str s) rfl a) (uniqK_put (sameK_of (k := .str s) rfl) u)
/-- a list or tuple of pairs -/
theorem pairs_rep : ∀ {ds : List D} {vs : List V} {ps : List (D × D)}, Reps K G vs ds → pairsD ds = some ps → ∃ (as : List Addr) (kvs : List (Key × V)), vs = as.map V.ref ∧ Paired (fun p kv => SqT K G p [kV kv.1, kv.2]) as kvs ∧ RepD K G kvs ps := by
  intro ds
  induction ds with
  | nil => intro vs ps r e; cases r; cases e; exact ⟨[], [], rfl, .nil, .nil⟩
  | cons d ds ih =>
    intro vs ps r e
    cases r with
    | cons a r =>
      unfold pairsD at e
      split at e
      · rename_i h; cases h
      · rename_i k v r' h
        cases h
        obtain ⟨hk, e⟩ := ite_sm e
        obtain ⟨ps', e1, rfl⟩ := map_inv e
        obtain ⟨as, kvs, rfl, h2, h3⟩ := ih r e1
        cases a with
        | @tup a0 ws _ ha rs =>
          cases rs with
          | cons rk rs =>
            cases rs with
            | cons rv rs =>
              cases rs
              cases rk with
              | int i => exact ⟨a0 :: as, (.inl i, _) :: kvs, rfl, .cons ha.sq h2, .int rv h3⟩
              | str s => exact ⟨a0 :: as, (.inr ⟨s.toArray⟩, _) :: kvs, rfl, .cons ha.sq h2, .str rv h3⟩
              | _ => cases hk
      · cases e
def dictD : List D → Option D
  | [.lst xs] => (pairsD xs).map fun ps => .dic (putsD ps [])
  | [.tup xs] => (pairsD xs).map fun ps => .dic (putsD ps [])
  | _ => none
end
theorem choose_list {α : Type} (P : Nat → α → Prop) : ∀ n : Nat, (∀ j, j < n → ∃ x, P j x) → ∃ l : List α, l.length = n ∧ ∀ j x, l[j]? = some x → P j x
  | 0, _ => ⟨[], rfl, fun j x h => by simp at h⟩
  | n + 1, h => by
    obtain ⟨l, hl, hp⟩ := choose_list P n fun j hj => h j (by omega)
    obtain ⟨x, hx⟩ := h n (by omega)
    refine ⟨l ++ [x], by simp [hl], fun j y e => ?_⟩
    by_cases hj : j < l.length
    · rw [List.getElem?_append_left hj] at e; exact hp j y e
    · have : j = n := by
        have := (List.getElem?_eq_some_iff.mp e).1
        rw [List.length_append, List.length_singleton] at this
        omega
      subst this
      rw [List.getElem?_append_right (by omega), hl, Nat.sub_self] at e
      cases e; exact hx
section
variable {X : Cx} {Xs : List XC} {W : WX} {a b c e : Expr} {pos : Pos}
/-- the tuple's object -/
theorem sqn_obj {pins : List (Addr × Obj)} {σ : L2.St} {H : Hp} {s : Shared} {p : Addr} {xs : List V} (I : Inv X pins σ H s) (h : SqN X.K H p xs) : ∃ (o : Obj) (n : Nat) (its : List Value), s.heap.get? p = some o ∧ o.cls = .type "tuple" ∧ o.dict = none ∧ o.data = .seq its.toArray n ∧ Vals xs its ∧ xs.length ≤ sizeLine := by
  obtain ⟨its, rv, ⟨o, e1, e2, n, e3⟩, hz⟩ := I.tuple h.sq
  refine ⟨o, n, its, e1, e2, ?_, e3, rv, hz⟩
  rcases h with ⟨o', h, hd⟩ | ⟨o', its', n', h1, h2, _⟩
  · have := (I.hok p _ h).1
    rw [e1] at this; cases this; exact hd
  · have := I.kIn p _ h1
    rw [e1] at this; cases this; exact h2.2
/-- dict(t), t a tuple of pairs -/
theorem call_dictT (hcalm : X.calm = true) : CallR X (.type "dict") (fun xs H Q => ∃ (a : Addr) (ps : List Addr) (kvs : List (Key × V)), xs = [.ref a] ∧ SqN X.K H a (ps.map V.ref) ∧ Paired (fun p kv => SqT X.K H p [kV kv.1, kv.2]) ps kvs ∧
    ∀ p, H p = none → Q (.ref p) (upd H p (.dK (mergeK [] kvs)))) := by
  rintro pins s σ H xs us Q I r ⟨a, ps, kvs, rfl, hq, hp, q⟩
  obtain ⟨u, rfl, rx⟩ := vals1 r
  cases rx
  obtain ⟨o, n, its, e1, e2, e3, e4, rv, hz⟩ := sqn_obj I hq
  have ei := refs_at rv
  subst ei
  rw [List.length_map] at hz
  obtain ⟨prs, rel, hl, hpr⟩ := pairs_of I hp
  obtain ⟨l, ll, lp⟩ := choose_list (fun j (x : Value × Value) => ∃ (q : Key × Value) (b : Addr), prs[j]? = some q ∧ ps[j]? = some b ∧ x.2 = q.2 ∧ IsTup s.heap b #[x.1, x.2] ∧ keyIs q.1 x.1 = true) prs.length fun j hj => by
    obtain ⟨b, u, k1, k2, k3⟩ := hpr j prs[j] (List.getElem?_eq_getElem hj)
    exact ⟨(u, prs[j].2), prs[j], b, List.getElem?_eq_getElem hj, k1, rfl, k2, k3⟩
  have P := PairArg.tuple (prog := X.prog) (w := X.w) a (ps.map Value.ref).toArray (fun j => ps.getD j 0) l
  refine PySem.call_dict_pairs (knd := mixKind X.prog X.w) (kvs := prs) P (I.ok.hd hcalm) ⟨⟨o, n, e1, e2, e3, e4⟩, by simp [ll, hl], fun j k v hj => ?_⟩ ⟨ll.symm, fun j k v hj => ?_⟩ (by rw [ll, hl]; exact hz) fun h' tk hd' kp => ?_
  · obtain ⟨q', b, k1, k2, k3, k4, k5⟩ := lp j _ hj
    refine ⟨by simp [k2], .inl ?_⟩
    have : ps.getD j 0 = b := by simp [k2]
    show s.heap.IsTuple (ps.getD j 0) _
    rw [this]
    exact k4
  · obtain ⟨q', b, k1, k2, k3, k4, k5⟩ := lp j _ hj
    exact ⟨q'.1, by rw [k1]; exact congrArg some (Prod.ext rfl k3.symm), k5⟩
  · have hm : (s.heap.objs.size == sysModules) = false := beq_eq_false_iff_ne.mpr (Nat.ne_of_gt I.big)
    have hlen : (mergeK [] kvs).length ≤ sizeLine := Nat.le_trans (length_mergeK kvs []) (by rw [List.length_nil, Nat.zero_add, rel.length, hl]; exact hz)
    exact ⟨.ref s.heap.objs.size, _, I.laid (t' := tk) (fun b o e => kp b o (by simp) e) (Nat.le_refl _) (show ObjOk X.prog X.w _ _ _ (.dK (mergeK [] kvs)) from ⟨hlen, hm, merged [] prs, KV.merge rel .nil, hd'⟩), rfl, q _ (I.hok.fresh (Nat.le_refl _))⟩
abbrev rDict (K : PySem.W.Frag) : List V → Hp → VK → Prop := fun xs H Q => ∃ (a : Addr) (ps : List Addr) (kvs : List (Key × V)), xs = [.ref a] ∧ (SqL K H a (ps.map V.ref) ∨ SqN K H a (ps.map V.ref)) ∧ Paired (fun p kv => SqT K H p [kV kv.1, kv.2]) ps kvs ∧ ∀ p, H p = none → Q (.ref p) (upd H p (.dK (mergeK [] kvs)))
theorem call_dictX (hcalm : X.calm = true) : CallR X (.type "dict") (rDict X.K) := by
  rintro pins s σ H xs us Q I r ⟨a, ps, kvs, e, hq | hq, hp, q⟩
  · exact call_dictP hcalm pins s σ H xs us Q I r ⟨a, ps, kvs, e, hq, hp, q⟩
  · exact call_dictT hcalm pins s σ H xs us Q I r ⟨a, ps, kvs, e, hq, hp, q⟩
theorem paired_mono {α β : Type} {P Q : α → β → Prop} (f : ∀ a b, P a b → Q a b) : ∀ {l : List α} {r : List β}, Paired P l r → Paired Q l r
  | _, _, .nil => .nil
  | _, _, .cons h t => .cons (f _ _ h) (paired_mono f t)
theorem f_dict : CalR X (rDict X.K) dictD := by
  intro G H xs ds z Q ex rs h q
  have fin : ∀ {a : Addr} {vs : List V} {xs' : List D}, ((SqL X.K G a vs ∨ SqN X.K G a vs) ∧ Reps X.K G vs xs') → ((pairsD xs').map fun ps => D.dic (putsD ps [])) = some z → rDict X.K [.ref a] H Q := by
    rintro a vs xs' ⟨hs, rr⟩ h
    obtain ⟨ps, e, rfl⟩ := map_inv h
    obtain ⟨as, kvs, rfl, h2, h3⟩ := pairs_rep rr e
    refine ⟨a, as, kvs, rfl, hs.imp (fun h => ex.sl h) (fun h => ex.sn h), paired_mono (fun _ _ h => ex.st h) h2, fun p hp => ?_⟩
    have f := Fr.alloc (o := .dK (mergeK [] kvs)) ex hp
    exact q _ _ _ f (.dic upd_same ((putsD_rep h3 .nil rfl).1.mono f.g))
  unfold dictD at h
  split at h
  · obtain ⟨v, rfl, r⟩ := rs.one
    cases r with | lst ha r => exact fin ⟨.inl (.inl (.inl ha)), r⟩ h
  · obtain ⟨v, rfl, r⟩ := rs.one
    cases r with | tup ha r => exact fin ⟨.inr ha, r⟩ h
  · cases h
/-! ### d[k], k in d -/
def dgetD : D → D → Option D
  | .dic kvs, k => if (keyOf k).isSome = true then getK k kvs else none
  | _, _ => none
theorem key_rep {K : PySem.W.Frag} {G : Hp} {y : V} {k : D} {kk : Key} (r : Rep K G y k) (h : keyOf k = some kk) : y = kV kk := by
  cases r <;> cases h <;> rfl
theorem se_dget {m n : M D} {k : Nat} (hr : Room k X.A) (ha : SE X Xs W a m) (hb : SE X Xs W b n) (hs : NoSl b := by intro _ _; rfl) : SE X Xs W (.Subscript a b pos) (mB dgetD m n) := by
  refine pe_imp (pe_dget (by have := hr.un; omega) ha hb hs) fun σ H Q ⟨B, G, ρ, s, h⟩ => ?_
  refine r1.bind (Rl := RlE X.K) s h fun x H1 d G1 ρ1 s1 e1 rx h1 => ?_
  refine r1.bind (Rl := RlE X.K) s1 h1 fun y H2 d2 G2 ρ2 s2 e2 ry h2 => ?_
  obtain ⟨z, hz, q⟩ := h2.lifted
  have rx := rx.mono e2
  cases rx <;> first | (cases hz; done) | skip
  rename_i p vs ds hp rd
  obtain ⟨hk, hz⟩ := ite_sm (show (if (keyOf d2).isSome = true then getK d2 ds else none) = some z from hz)
  obtain ⟨kk, hk⟩ := Option.isSome_iff_exists.mp hk
  obtain ⟨v, hv, rv⟩ := (rd.get hk).1 z hz
  refine ⟨p, v, rfl, .inl ⟨vs, kk, .inl (s2.ex _ _ hp), key_rep ry hk, hv.symm⟩, q _ G2 H2 s2 (Ex.refl _) rv⟩
def dinD (neg : Bool) : D → D → Option D
  | k, .dic kvs => if (keyOf k).isSome = true then some (.bl (neg != (getK k kvs).isSome)) else none
  | _, _ => none
theorem din_do {m n : M D} {neg : Bool} {σ : L2.St} {H : Hp} {Q : VK} (h : rX X.K Xs W (RlE X.K) (mB (dinD neg) m n) σ H Q) : rX X.K Xs W (RlE X.K) m σ H fun y H1 => rX X.K Xs W (RlE X.K) n σ H1 fun x H2 => ∃ a o, x = .ref a ∧ DGet H2 a y o ∧ Q (.bl (neg != o.isSome)) H2 := by
  obtain ⟨B, G, ρ, s, h⟩ := h
  refine r1.bind (Rl := RlE X.K) s h fun y H1 d G1 ρ1 s1 e1 ry h1 => ?_
  refine r1.bind (Rl := RlE X.K) s1 h1 fun x H2 d2 G2 ρ2 s2 e2 rx h2 => ?_
  obtain ⟨z, hz, q⟩ := h2.lifted
  cases rx <;> first | (cases d <;> cases hz; done) | skip
  rename_i p vs ds hp rd
  obtain ⟨hk, hz⟩ := ite_sm (show (if (keyOf d).isSome = true then some (D.bl (neg != (getK d ds).isSome)) else none) = some z from by cases d <;> exact hz)
  cases hz
  obtain ⟨kk, hk⟩ := Option.isSome_iff_exists.mp hk
  refine ⟨p, valV vs kk, rfl, .inl ⟨vs, kk, .inl (s2.ex _ _ hp), key_rep (ry.mono e2) hk, rfl⟩, ?_⟩
  have e : (valV vs kk).isSome = (getK d ds).isSome := by
    cases g : getK d ds with
    | none => rw [(rd.get hk).2 g] <;> rfl
    | some z => obtain ⟨v, hv, _⟩ := (rd.get hk).1 z g; rw [hv]; rfl
  rw [e]
  exact q _ G2 H2 s2 (Ex.refl _) (.bl _)
theorem rX_imp {ν α : Type} {Rl : RL ν α} {m : M α} {σ : L2.St} {H : Hp} {Q Q' : ν → Hp → Prop} (h : rX X.K Xs W Rl m σ H Q) (f : ∀ v H, Q v H → Q' v H) : rX X.K Xs W Rl m σ H Q' := by
  obtain ⟨B, G, ρ, s, h⟩ := h
  exact ⟨B, G, ρ, s, h.imp f⟩
theorem pc_dinX {neg : Bool} {m n : M D} {k : Nat} (hr : Room k X.A) (ha : SE X Xs W a m) (hb : SE X Xs W b n) : PC X (if neg = true then .NotIn else .In) a b (rX X.K Xs W (RlE X.K) (mB (dinD neg) m n)) := by
  have hu : X.A.units + 1 < cLine := by have := hr.un; omega
  cases neg with
  | true => exact ⟨fun pins s σ H Q I h => (pc_dnotin hu ha hb).run pins s σ H Q I (by
      obtain h := din_do h
      exact rX_imp h fun y H1 h => rX_imp h fun x H2 ⟨a, o, e, g, q⟩ => ⟨a, o, e, g, by simpa using q⟩)⟩
  | false => exact ⟨fun pins s σ H Q I h => (pc_din hu ha hb).run pins s σ H Q I (by
      obtain h := din_do h
      exact rX_imp h fun y H1 h => rX_imp h fun x H2 ⟨a, o, e, g, q⟩ => ⟨a, o, e, g, by simpa using q⟩)⟩
theorem se_din {m n : M D} {k : Nat} (hr : Room k X.A) (ha : SE X Xs W a m) (hb : SE X Xs W b n) (hm : behindInMarks .In b = false := by rfl) : SE X Xs W (.Compare a [.In] [b] pos) (mB (dinD false) m n) := pe_cmp (pc_dinX (neg := false) hr ha hb) hm
theorem se_dnin {m n : M D} {k : Nat} (hr : Room k X.A) (ha : SE X Xs W a m) (hb : SE X Xs W b n) (hm : behindInMarks .NotIn b = false := by rfl) : SE X Xs W (.Compare a [.NotIn] [b] pos) (mB (dinD true) m n) := pe_cmp (pc_dinX (neg := true) hr ha hb) hm
theorem st_din0 {op : CmpOp} {m : M D} (h : PC X op a b (rX X.K Xs W (RlE X.K) m)) (hm : behindInMarks op b = false) : ST X Xs W (.Compare a [op] [b] pos) (tb m) := by
  refine pt_imp (pt_cmp h hm) fun σ H Q ⟨B, G, ρ, s, h⟩ => ?_
  refine r1.bind (Rl := RlE X.K) s h fun x H1 d G1 ρ1 s1 e1 rx h1 => ?_
  cases d <;> first | (cases rx; exact ⟨_, rfl, h1.reted _ G1 H1 s1 (Ex.refl _) rfl⟩) | (obtain ⟨z, hz, _⟩ := h1.lifted; cases hz)
theorem st_din {m n : M D} {k : Nat} (hr : Room k X.A) (ha : SE X Xs W a m) (hb : SE X Xs W b n) (hm : behindInMarks .In b = false := by rfl) : ST X Xs W (.Compare a [.In] [b] pos) (tb (mB (dinD false) m n)) := st_din0 (pc_dinX (neg := false) hr ha hb) hm
theorem st_dnin {m n : M D} {k : Nat} (hr : Room k X.A) (ha : SE X Xs W a m) (hb : SE X Xs W b n) (hm : behindInMarks .NotIn b = false := by rfl) : ST X Xs W (.Compare a [.NotIn] [b] pos) (tb (mB (dinD true) m n)) := st_din0 (pc_dinX (neg := true) hr ha hb) hm
end
/-! ### a <= b, also of texts -/
def leX : D → D → Option D | .int a, .int b => some (.bl (decide (a ≤ b))) | .str a, .str b => some (.bl (!decide (b < a))) | _, _ => none
abbrev rLeX : R2 := fun x y H Q => rI0 (fun i j => .bl (decide (i ≤ j))) x y H Q ∨ (∃ i j, x = .str i ∧ y = .str j ∧ Q (.bl (!decide (j.cps.toList < i.cps.toList))) H)
theorem op_leX {X : Cx} : OpR X (compareOp .LtE) rLeX := op_le.or op_le_str
theorem b_leX {X : Cx} : BinR X rLeX leX := by
  intro G H x y d e z Q ex rx ry h q
  cases rx <;> cases ry <;> first | (cases h; done) | skip
  · cases h; exact .inl ⟨_, _, rfl, rfl, q _ G H (Fr.refl ex) (.bl _)⟩
  · cases h; exact .inr ⟨_, _, rfl, rfl, q _ G H (Fr.refl ex) (.bl _)⟩
section
variable {Q : D → Prop}
theorem wo_dictL {xs : List D} : Wo (dictD [.lst xs]) Q = Wo (pairsD xs) fun ps => Q (.dic (putsD ps [])) := wo_map
theorem wo_dictT {xs : List D} : Wo (dictD [.tup xs]) Q = Wo (pairsD xs) fun ps => Q (.dic (putsD ps [])) := wo_map
theorem wo_ifq {α : Type} {c : Prop} [Decidable c] {o : Option α} {Q : α → Prop} : Wo (if c then o else none) Q = (c ∧ Wo o Q) := by
  by_cases h : c
  · rw [if_pos h]; simp [h]
  · rw [if_neg h]; simp [Wo, h]
theorem wo_dget {k : D} {kvs : List (D × D)} : Wo (dgetD (.dic kvs) k) Q = ((keyOf k).isSome = true ∧ Wo (getK k kvs) Q) := wo_ifq
theorem wo_din {k : D} {neg : Bool} {kvs : List (D × D)} : Wo (dinD neg k (.dic kvs)) Q = ((keyOf k).isSome = true ∧ Q (.bl (neg != (getK k kvs).isSome))) := by
  have e : dinD neg k (.dic kvs) = if (keyOf k).isSome = true then some (.bl (neg != (getK k kvs).isSome)) else none := by cases k <;> rfl
  rw [e]; exact wo_if
theorem wo_leXS {a b : List Nat} : Wo (leX (.str a) (.str b)) Q = Q (.bl (!decide (b < a))) := wo_some
theorem wo_leXI {a b : Int} : Wo (leX (.int a) (.int b)) Q = Q (.bl (decide (a ≤ b))) := wo_some
theorem ls_keyS {s : List Nat} : (keyOf (.str s)).isSome = true := rfl
theorem ls_keyI {i : Int} : (keyOf (.int i)).isSome = true := rfl
end
end Tk
/-! str(x) of data. -/
namespace Tk
open PySem PySem.Spec PyProof.Rows L2 SX
def txtD (d : D) : List Nat := (pyD d).shown.cps.toList
def isStr : D → Bool
  | .str _ => true
  | _ => false
def strD : List D → Option D
  | [.str s] => some (.str s)
  | [d] => if okD 50 d = true ∧ (pyD d).showable = true ∧ (pyD d).shown.length ≤ sizeLine then some (.str (txtD d)) else none
  | _ => none
theorem strD_1 {d : D} (h : isStr d = false) : strD [d] = if okD 50 d = true ∧ (pyD d).showable = true ∧ (pyD d).shown.length ≤ sizeLine then some (.str (txtD d)) else none := by
  cases d <;> first | rfl | cases h
section
variable {X : Cx}
abbrev rStr (K : PySem.W.Frag) : List V → Hp → VK → Prop := fun xs H Q => ∃ v, xs = [v] ∧ ((∃ x, v = .str x ∧ Q (.str x) H) ∨
  ((∀ x, v ≠ .str x) ∧ ∃ d, Dp K H v d ∧ d.showable = true ∧ d.hasDict = false ∧ d.shown.length ≤ sizeLine ∧ d.depth ≤ 50 ∧ Q (.str d.shown) H))
theorem call_strX {k : Nat} (hr : Room k X.A) : CallR X (.type "str") (rStr X.K) := by
  rintro pins s σ H xs us Q I r ⟨v, rfl, h⟩
  obtain ⟨u, rfl, rx⟩ := vals1 r
  rcases h with ⟨x, rfl, q⟩ | ⟨ns, d, hd, h1, h2, h3, h4, q⟩
  · obtain ⟨t, rfl⟩ := (show ∃ t, u = Value.str x t from rx)
    exact PySem.P.str_of_str ⟨.str x, H, I, ⟨_, rfl⟩, q⟩
  · obtain ⟨as, hrd⟩ := Dp.reads I d v u hd rx
    have hu := hr.un
    cases hd with
    | non =>
      cases rx
      exact PySem.P.str_of_none ⟨.str _, H, I.tok _, ⟨_, rfl⟩, q⟩
    | bl b =>
      cases rx
      exact PySem.P.str_of_bool ⟨.str _, H, I.tok _, ⟨_, rfl⟩, q⟩
    | int i =>
      obtain ⟨t, rfl⟩ := (show ∃ t, u = Value.int i t from rx)
      exact PySem.P.str_of_int (by simpa [PyData.showable] using h1) ⟨.str _, H, I.tok _, ⟨_, rfl⟩, q⟩
    | str x => exact absurd rfl (ns x)
    | lst _ _ =>
      cases rx
      exact str_of_reads hrd h1 (PyData.noDict_hsm h2) hr.gd (by omega) (fun _ _ e => e) (fun h' w tk hk => ⟨.str _, H, I.kept (t' := tk) hk, ⟨w, rfl⟩, q⟩) h3
    | tup _ _ =>
      cases rx
      exact str_of_reads hrd h1 (PyData.noDict_hsm h2) hr.gd (by omega) (fun _ _ e => e) (fun h' w tk hk => ⟨.str _, H, I.kept (t' := tk) hk, ⟨w, rfl⟩, q⟩) h3
theorem f_strD : CalR X (rStr X.K) strD := by
  intro G H xs ds z Q ex rs h q
  have one : ∃ d, ds = [d] := by
    unfold strD at h
    split at h
    · exact ⟨_, rfl⟩
    · exact ⟨_, rfl⟩
    · cases h
  obtain ⟨d, rfl⟩ := one
  obtain ⟨v, rfl, r⟩ := rs.one
  refine ⟨v, rfl, ?_⟩
  by_cases hs : isStr d = true
  · cases d <;> first | (cases hs; done) | skip
    cases h
    cases r
    exact .inl ⟨_, rfl, q _ G H (Fr.refl ex) (.str _)⟩
  · rw [strD_1 (by simpa using hs)] at h
    obtain ⟨⟨h1, h2, h3⟩, rfl⟩ := ite_inv h
    obtain ⟨o1, o2⟩ := py_ok h1
    refine .inr ⟨fun x e => ?_, pyD d, py_rep h1 (r.mono ex), h2, PyData.hasDict_of_canLay _ o1, h3, o2, q _ G H (Fr.refl ex) (rep_str rfl)⟩
    subst e
    cases r
    exact hs rfl
end
/-! ### the signs of such a text -/
def OkS (x : Str) : Prop := ∀ c ∈ x.cps.toList, c < 1114112
theorem OkS.app {a b : Str} (ha : OkS a) (hb : OkS b) : OkS (a ++ b) := fun c hc => by
  have : c ∈ (a.cps ++ b.cps).toList := hc
  rw [Array.toList_append] at this
  exact (List.mem_append.mp this).elim (ha c) (hb c)
theorem OkS.of (s : String) : OkS (Str.ofString s) := fun c hc => by
  rw [Str.ofString_eq_toList] at hc
  obtain ⟨x, _, rfl⟩ := List.mem_map.mp (by simpa using hc)
  have := x.valid
  have h : x.toNat < 1114112 := by
    rcases this with h | h
    · show x.val.toNat < _; omega
    · show x.val.toNat < _; omega
  exact h
theorem OkS.join {sep : Str} (hs : OkS sep) : ∀ {l : List Str}, (∀ x ∈ l, OkS x) → OkS (Str.join sep l)
  | [], _ => fun c hc => by cases hc
  | [x], h => h x (List.mem_singleton.mpr rfl)
  | x :: y :: r, h => ((h x List.mem_cons_self).app hs).app (OkS.join hs fun z hz => h z (List.mem_cons_of_mem _ hz))
theorem OkS.from : ∀ {l : List Str} {k : Nat} {acc : Str}, OkS acc → (∀ x ∈ l, OkS x) → OkS (textFrom k acc l)
  | [], _, _, ha, _ => ha
  | x :: l, k, acc, ha, h => by
    show OkS (textFrom (k + 1) (acc ++ Str.ofString (if k > 0 then ", " else "") ++ x) l)
    exact OkS.from ((ha.app (OkS.of _)).app (h x List.mem_cons_self)) fun z hz => h z (List.mem_cons_of_mem _ hz)
theorem repr_asc : ∀ c < 128, (Builtin.Str.reprChar 34 c).all (· < 1114112) = true ∧ (Builtin.Str.reprChar 39 c).all (· < 1114112) = true := by decide +kernel
theorem OkS.repr {x : Str} (h : ∀ c ∈ x.cps.toList, c < 128) : OkS (reprText x) := by
  have hq : reprQuote x = 34 ∨ reprQuote x = 39 := by unfold reprQuote; split <;> simp
  have key : ∀ (l : List Nat) (acc : Array Nat), (∀ c ∈ l, c < 128) → (∀ c ∈ acc.toList, c < 1114112) → ∀ c ∈ (l.foldl (fun out c => out ++ (Builtin.Str.reprChar (reprQuote x) c).toArray) acc).toList, c < 1114112 := by
    intro l
    induction l with
    | nil => intro acc _ ha; exact ha
    | cons d l ih =>
      intro acc hl ha
      rw [List.foldl_cons]
      refine ih _ (fun c hc => hl c (List.mem_cons_of_mem _ hc)) fun c hc => ?_
      rw [Array.toList_append] at hc
      rcases List.mem_append.mp hc with hc | hc
      · exact ha c hc
      · have r := repr_asc d (hl d List.mem_cons_self)
        have hc : c ∈ Builtin.Str.reprChar (reprQuote x) d := by simpa using hc
        rcases hq with e | e
        · rw [e] at hc; exact of_decide_eq_true (List.all_eq_true.mp r.1 c hc)
        · rw [e] at hc; exact of_decide_eq_true (List.all_eq_true.mp r.2 c hc)
  intro c hc
  unfold reprText at hc
  rw [Array.toList_push] at hc
  have q9 : reprQuote x < 1114112 := by rcases hq with e | e <;> rw [e] <;> decide
  rcases List.mem_append.mp hc with hc | hc
  · rw [← Array.foldl_toList] at hc
    exact key _ _ h (fun c hc => by
      have e : c = reprQuote x := by simpa using hc
      rw [e]; exact q9) c hc
  · rw [List.mem_singleton.mp hc]; exact q9
mutual
/-- data whose texts are plain -/
def ascD : D → Bool
  | .str s => s.all (· < 128)
  | .lst xs => ascDs xs
  | .tup xs => ascDs xs
  | _ => true
def ascDs : List D → Bool
  | [] => true
  | x :: xs => ascD x && ascDs xs
end
mutual
theorem shown_ok : ∀ d : D, ascD d = true → OkS (pyD d).shown
  | .non, _ => by simp only [pyD, PyData.shown]; exact OkS.of _
  | .bl b, _ => by simp only [pyD, PyData.shown]; split <;> exact OkS.of _
  | .int i, _ => by simp only [pyD, PyData.shown]; exact OkS.of _
  | .str s, h => by
    simp only [pyD, PyData.shown]
    refine OkS.repr fun c hc => ?_
    have h : s.all (· < 128) = true := by simpa only [ascD] using h
    exact of_decide_eq_true (List.all_eq_true.mp h c (by simpa using hc))
  | .lst xs, h => by
    simp only [pyD, PyData.shown, listText]
    exact (OkS.from (OkS.of _) (shown_oks xs (by simpa only [ascD] using h))).app (OkS.of _)
  | .tup xs, h => by
    simp only [pyD, PyData.shown, tupleText]
    exact ((OkS.of _).app (OkS.join (OkS.of _) (shown_oks xs (by simpa only [ascD] using h)))).app (OkS.of _)
  | .dic _, _ => by simp only [pyD, PyData.shown]; exact OkS.of _
  | .scr _, _ => by simp only [pyD, PyData.shown]; exact OkS.of _
theorem shown_oks : ∀ xs : List D, ascDs xs = true → ∀ x ∈ PyData.shownAll (pyDs xs), OkS x
  | [], _ => fun x h => by simp only [pyDs, PyData.shownAll] at h; cases h
  | d :: ds, h => by
    have h : (ascD d && ascDs ds) = true := by simpa only [ascDs] using h
    rw [Bool.and_eq_true] at h
    intro x hx
    simp only [pyDs, PyData.shownAll] at hx
    rcases List.mem_cons.mp hx with rfl | hx
    · exact shown_ok d h.1
    · exact shown_oks ds h.2 x hx
end
theorem txt_ok {d : D} (h : ascD d = true) : okS (txtD d) = true := List.all_eq_true.mpr fun c hc => decide_eq_true (shown_ok d h c hc)
section
variable {Q : D → Prop}
theorem wo_strD {d : D} (h : isStr d = false) : Wo (strD [d]) Q = ((okD 50 d = true ∧ (pyD d).showable = true ∧ (pyD d).shown.length ≤ sizeLine) ∧ Q (.str (txtD d))) := by rw [strD_1 h]; exact wo_if
theorem wo_strS {s : List Nat} : Wo (strD [.str s]) Q = Q (.str s) := wo_some
end
end Tk
set_option maxHeartbeats 4000000
namespace Lw
open PySem PySem.Spec PyProof.Rows L2 Tk
def top (i : Nat) : Stmt := PySem.Challenge.pw_takebacks_k44_roots.main.body.getD i (.Pass ⟨0, 0, 0, 0⟩)
def g_COMMANDS : Str := PySem.Str.ofString "abcdefghijklmnopqrstuvwxyz"
def c_COMMANDS : List Nat := [97, 98, 99, 100, 101, 102, 103, 104, 105, 106, 107, 108, 109, 110, 111, 112, 113, 114, 115, 116, 117, 118, 119, 120, 121, 122]
def g_LETTERS : Str := PySem.Str.ofString "aAbBcCdDeEfFgGhHiIjJkKlLmMnNoOpPqQrRsStTuUvVwWxXyYzZ"
def c_LETTERS : List Nat := [97, 65, 98, 66, 99, 67, 100, 68, 101, 69, 102, 70, 103, 71, 104, 72, 105, 73, 106, 74, 107, 75, 108, 76, 109, 77, 110, 78, 111, 79, 112, 80, 113, 81, 114, 82, 115, 83, 116, 84, 117, 85, 118, 86, 119, 87, 120, 88, 121, 89, 122, 90]
/-- what the top has written -/
structure Tx (P : Program) (w : World) (K : PySem.W.Frag) (mg : Str → Option Value) (base : Heap) (A_InvalidHistory : Addr) : Prop where
  b_all : mg "all" = none
  b_int : mg "int" = none
  b_isinstance : mg "isinstance" = none
  b_len : mg "len" = none
  b_max : mg "max" = none
  b_min : mg "min" = none
  b_range : mg "range" = none
  b_str : mg "str" = none
  b_zip : mg "zip" = none
  c_COMMANDS : ∃ t : Tok, mg "COMMANDS" = some (.str g_COMMANDS t)
  c_LETTERS : ∃ t : Tok, mg "LETTERS" = some (.str g_LETTERS t)
  e_InvalidHistory : ErC P w K mg base "InvalidHistory" A_InvalidHistory "thing"
  xm_InvalidHistory : ∀ (c' : Nat) (x' : XC), ([⟨A_InvalidHistory, some "thing"⟩] : List XC)[c']? = some x' → PySem.W.exmOne K (.ref x'.C) (.ref A_InvalidHistory) = some (decide (c' = 0))
noncomputable section
abbrev s_sign_back : Stmt := top 7
def N_sign_back : List Str := ["letter"]
def m_sign_back : MS :=
  retD (mIf (tb (mB (inD false) (mVar 0) (M.ret (.str c_COMMANDS)))) (mU upD (mVar 0)) (mU loD (mVar 0)))
def F_sign_back : FnD := ⟨[.p], false, runF 1 [.p] false m_sign_back⟩
theorem sc_sign_back : FnScope N_sign_back ["letter"] (defScope s_sign_back) := ⟨rfl, rfl, rfl, by decide +kernel, rfl, by decide +kernel, by decide +kernel⟩
abbrev s_back_of : Stmt := top 8
def N_back_of : List Str := ["history", "letter"]
def le_back_of_0 : M D := mCall F_sign_back (aP (mVar 1) (aNil))
def lc_back_of_0 : M D := mLc (mIt itemsX (mU revX (mVar 0))) [1] (gN 1) (mYes) le_back_of_0
def m_back_of : MS :=
  retD (mM .str joinD (M.ret (.str [])) (lc_back_of_0))
def F_back_of : FnD := ⟨[.p], false, runF 2 [.p] false m_back_of⟩
theorem sc_back_of : FnScope N_back_of ["history"] (defScope s_back_of) := ⟨rfl, rfl, rfl, by decide +kernel, rfl, by decide +kernel, by decide +kernel⟩
abbrev s_struck : Stmt := top 10
def N_struck : List Str := ["letters", "kept", "letter"]
def fb_struck_0 : MS := mIfS (mAnd (tb (mOl 1 neX (mLst (mNil)))) (tb (mB eqX (mOl 1 ixD (mU negD (M.ret (.int 1)))) (mCall F_sign_back (aP (mVar 2) (aNil)))))) (drop (mPop 1)) (appnd 1 (mVar 2))
def fr_struck_0 : MS := mFor (mIt itemsX (mVar 0)) (gN 2) fb_struck_0
def m_struck : MS :=
  sq (asgO 1 (mLst (mNil)))
  (sq (fr_struck_0)
  (retD (mJnO 1 (M.ret (.str [])))))
def F_struck : FnD := ⟨[.p], false, runF 3 [.p] false m_struck⟩
theorem sc_struck : FnScope N_struck ["letters"] (defScope s_struck) := ⟨rfl, rfl, rfl, by decide +kernel, rfl, by decide +kernel, by decide +kernel⟩
abbrev s_is_letters : Stmt := top 6
def N_is_letters : List Str := ["thing", "sign"]
def le_is_letters_0 : M D := mB (inD false) (mVar 1) (M.ret (.str c_LETTERS))
def lc_is_letters_0 : M D := mLc (mIt itemsX (mVar 0)) [1] (gN 1) (mYes) le_is_letters_0
def m_is_letters : MS :=
  retD (mAndV (mIsi .str (mVar 0)) (mC allD (mCons (lc_is_letters_0) (mNil))))
def F_is_letters : FnD := ⟨[.p], false, runF 2 [.p] false m_is_letters⟩
theorem sc_is_letters : FnScope N_is_letters ["thing"] (defScope s_is_letters) := ⟨rfl, rfl, rfl, by decide +kernel, rfl, by decide +kernel, by decide +kernel⟩
abbrev s_is_history : Stmt := top 9
def N_is_history : List Str := ["thing", "one", "other"]
def le_is_history_0 : M D := mB neX (mVar 1) (mCall F_sign_back (aP (mVar 2) (aNil)))
def lc_is_history_0 : M D := mLc (mZip2 (mCons (mVar 0) (mCons (mSl (mVar 0) (mPart (M.ret (.int 1))) (mNoPart)) mNil))) [1, 2] (gU 2 (gsC (gN 1) (gsC (gN 2) (gs0)))) (mYes) le_is_history_0
def m_is_history : MS :=
  sq (mIfS (mNot (tb (mCall F_is_letters (aP (mVar 0) (aNil))))) (retD (M.ret (.bl false))) (nop))
  (retD (mC allD (mCons (lc_is_history_0) (mNil))))
def F_is_history : FnD := ⟨[.p], false, runF 3 [.p] false m_is_history⟩
theorem sc_is_history : FnScope N_is_history ["thing"] (defScope s_is_history) := ⟨rfl, rfl, rfl, by decide +kernel, rfl, by decide +kernel, by decide +kernel⟩
abbrev s_require_full : Stmt := top 14
def N_require_full : List Str := ["history"]
def m_require_full : MS :=
  mIfS (mOr (mNot (tb (mCall F_is_history (aP (mVar 0) (aNil))))) (tb (mB eqX (mVar 0) (M.ret (.str []))))) (ev (mVar 0) (fun d ρ => some (.ex 0 d ρ))) (nop)
def F_require_full : FnD := ⟨[.p], false, runF 1 [.p] false m_require_full⟩
theorem sc_require_full : FnScope N_require_full ["history"] (defScope s_require_full) := ⟨rfl, rfl, rfl, by decide +kernel, rfl, by decide +kernel, by decide +kernel⟩
abbrev s_parts : Stmt := top 12
def N_parts : List Str := ["history", "many"]
def wc_parts_0 : M Bool := mAnd (tb (mB ltD (mVar 1) (mB subD (mB subD (mC lenD (mCons (mVar 0) (mNil))) (M.ret (.int 1))) (mVar 1)))) (tb (mB eqX (mB ixD (mVar 0) (mVar 1)) (mCall F_sign_back (aP (mB ixD (mVar 0) (mB subD (mB subD (mC lenD (mCons (mVar 0) (mNil))) (M.ret (.int 1))) (mVar 1))) (aNil)))))
def wb_parts_0 : MS := aug 1 iaddD (M.ret (.int 1))
def wh_parts_0 : MS := whL wc_parts_0 wb_parts_0 1000000000
def m_parts : MS :=
  sq (asg (M.ret (.int 0)) (gN 1))
  (sq (wh_parts_0)
  (retD (mTup (mCons (mSl (mVar 0) (mNoPart) (mPart (mVar 1))) (mCons (mSl (mVar 0) (mPart (mVar 1)) (mPart (mB subD (mC lenD (mCons (mVar 0) (mNil))) (mVar 1)))) (mNil))))))
def F_parts : FnD := ⟨[.p], false, runF 2 [.p] false m_parts⟩
theorem sc_parts : FnScope N_parts ["history"] (defScope s_parts) := ⟨rfl, rfl, rfl, by decide +kernel, rfl, by decide +kernel, by decide +kernel⟩
abbrev s_root_parts : Stmt := top 15
def N_root_parts : List Str := ["history", "ahead", "middle", "size"]
def fb_root_parts_0 : MS := mIfS (mAnd (tb (mB eqX (mC lenD (mCons (mVar 2) (mNil))) (mB mulD (mVar 3) (mB divD (mC lenD (mCons (mVar 2) (mNil))) (mVar 3))))) (tb (mB eqX (mB mulD (mSl (mVar 2) (mNoPart) (mPart (mVar 3))) (mB divD (mC lenD (mCons (mVar 2) (mNil))) (mVar 3))) (mVar 2)))) (retD (mTup (mCons (mVar 1) (mCons (mSl (mVar 2) (mNoPart) (mPart (mVar 3))) (mCons (mB divD (mC lenD (mCons (mVar 2) (mNil))) (mVar 3)) (mNil)))))) (nop)
def fr_root_parts_0 : MS := mFor (mRng2 (mCons (M.ret (.int 1)) (mCons (mB addD (mC lenD (mCons (mVar 2) (mNil))) (M.ret (.int 1))) mNil))) (gN 3) fb_root_parts_0
def m_root_parts : MS :=
  sq (asg (mCall F_parts (aP (mVar 0) (aNil))) (gU 2 (gsC (gN 1) (gsC (gN 2) (gs0)))))
  (sq (fr_root_parts_0)
  (retD (mTup (mCons (mVar 1) (mCons (M.ret (.str [])) (mCons (M.ret (.int 1)) (mNil)))))))
def F_root_parts : FnD := ⟨[.p], false, runF 4 [.p] false m_root_parts⟩
theorem sc_root_parts : FnScope N_root_parts ["history"] (defScope s_root_parts) := ⟨rfl, rfl, rfl, by decide +kernel, rfl, by decide +kernel, by decide +kernel⟩
abbrev s_root : Stmt := top 16
def N_root : List Str := ["history", "ahead", "middle", "times"]
def m_root : MS :=
  sq (drop (mCall F_require_full (aP (mVar 0) (aNil))))
  (sq (asg (mCall F_root_parts (aP (mVar 0) (aNil))) (gU 3 (gsC (gN 1) (gsC (gN 2) (gsC (gN 3) (gs0))))))
  (retD (mTup (mCons (mCall F_struck (aP (mB addD (mB addD (mVar 1) (mVar 2)) (mCall F_back_of (aP (mVar 1) (aNil)))) (aNil))) (mCons (mVar 3) (mNil))))))
def F_root : FnD := ⟨[.p], false, runF 4 [.p] false m_root⟩
theorem sc_root : FnScope N_root ["history"] (defScope s_root) := ⟨rfl, rfl, rfl, by decide +kernel, rfl, by decide +kernel, by decide +kernel⟩
abbrev s_require_history : Stmt := top 11
def N_require_history : List Str := ["history"]
def m_require_history : MS :=
  mIfS (mNot (tb (mCall F_is_history (aP (mVar 0) (aNil))))) (ev (mVar 0) (fun d ρ => some (.ex 0 d ρ))) (nop)
def F_require_history : FnD := ⟨[.p], false, runF 1 [.p] false m_require_history⟩
theorem sc_require_history : FnScope N_require_history ["history"] (defScope s_require_history) := ⟨rfl, rfl, rfl, by decide +kernel, rfl, by decide +kernel, by decide +kernel⟩
abbrev s_commute : Stmt := top 17
def N_commute : List Str := ["history", "other"]
def m_commute : MS :=
  sq (drop (mCall F_require_history (aP (mVar 0) (aNil))))
  (sq (drop (mCall F_require_history (aP (mVar 1) (aNil))))
  (retD (mB eqX (mCall F_struck (aP (mB addD (mVar 0) (mVar 1)) (aNil))) (mCall F_struck (aP (mB addD (mVar 1) (mVar 0)) (aNil))))))
def F_commute : FnD := ⟨[.p, .p], false, runF 2 [.p, .p] false m_commute⟩
theorem sc_commute : FnScope N_commute ["history", "other"] (defScope s_commute) := ⟨rfl, rfl, rfl, by decide +kernel, rfl, by decide +kernel, by decide +kernel⟩
abbrev s__law_mixed : Stmt := top 19
def N__law_mixed : List Str := ["_law_cell", "_law_k", "_law_number"]
def m__law_mixed : MS :=
  sq (asg (mB modD (mC int1 (mCons (mB addD (mB addD (mB addD (mB mulD (mVar 0) (M.ret (.int 2654435761))) (mB mulD (mB mulD (M.ret (.int 40503)) (mVar 1)) (mVar 1))) (mB mulD (M.ret (.int 97)) (mVar 1))) (M.ret (.int 13))) (mNil))) (M.ret (.int 2147483647))) (gN 2))
  (retD (mB divD (mB modD (mC int1 (mCons (mB addD (mB addD (mB mulD (mVar 2) (mVar 2)) (mB mulD (M.ret (.int 7)) (mVar 2))) (M.ret (.int 11))) (mNil))) (M.ret (.int 2147483629))) (M.ret (.int 3))))
def F__law_mixed : FnD := ⟨[.p, .p], false, runF 3 [.p, .p] false m__law_mixed⟩
theorem sc__law_mixed : FnScope N__law_mixed ["_law_cell", "_law_k"] (defScope s__law_mixed) := ⟨rfl, rfl, rfl, by decide +kernel, rfl, by decide +kernel, by decide +kernel⟩
abbrev s__law_draw : Stmt := top 22
def N__law_draw : List Str := ["_law_purse_here", "_law_out_of", "_law_drawn"]
def m__law_draw : MS :=
  sq (mIfS (tb (mB gtD (mOl 0 ixD (M.ret (.int 0))) (M.ret (.int 0)))) (sq (asg (mB modD (mC int1 (mCons (mOl 0 ixD (M.ret (.int 0))) (mNil))) (mVar 1)) (gN 2))
  (sq (setIx 0 (mB divD (mOl 0 ixD (M.ret (.int 0))) (mVar 1)) (M.ret (.int 0)))
  (retD (mVar 2)))) (nop))
  (sq (setIx 0 (mB addD (mOl 0 ixD (M.ret (.int 2))) (M.ret (.int 1))) (M.ret (.int 2)))
  (retD (mB modD (mC int1 (mCons (mCall F__law_mixed (aP (mOl 0 ixD (M.ret (.int 1))) (aP (mOl 0 ixD (M.ret (.int 2))) (aNil)))) (mNil))) (mVar 1))))
def F__law_draw : FnD := ⟨[.o, .p], false, runF 3 [.o, .p] false m__law_draw⟩
theorem sc__law_draw : FnScope N__law_draw ["_law_purse_here", "_law_out_of"] (defScope s__law_draw) := ⟨rfl, rfl, rfl, by decide +kernel, rfl, by decide +kernel, by decide +kernel⟩
abbrev s__law_letters : Stmt := top 20
def N__law_letters : List Str := ["_law_purse_here", "_law_signs", "_law_way", "_law_first"]
def m__law_letters : MS :=
  sq (asg (M.ret (.str [97, 98, 99, 100, 101, 102, 103, 104, 105, 106, 107, 108, 109, 110, 111, 112, 113, 114, 115, 116, 117, 118, 119, 120, 121, 122])) (gN 1))
  (sq (asg (mCall F__law_draw (aO 0 (aP (M.ret (.int 6)) (aNil)))) (gN 2))
  (sq (asg (mCall F__law_draw (aO 0 (aP (M.ret (.int 25)) (aNil)))) (gN 3))
  (sq (mIfS (tb (mB eqX (mVar 2) (M.ret (.int 0)))) (retD (mB addD (mB ixD (mVar 1) (mVar 3)) (mB ixD (mVar 1) (mB addD (mB addD (mVar 3) (M.ret (.int 1))) (mCall F__law_draw (aO 0 (aP (mB subD (M.ret (.int 25)) (mVar 3)) (aNil)))))))) (nop))
  (retD (mB ixD (mLst (mCons (M.ret (.str [])) (mCons (M.ret (.str [97, 98])) (mCons (M.ret (.str [97, 98, 99])) (mCons (M.ret (.str [97, 98])) (mCons (M.ret (.str [97])) (mCons (M.ret (.str [97, 98, 100, 101, 120, 122])) (mNil)))))))) (mVar 2))))))
def F__law_letters : FnD := ⟨[.o], false, runF 4 [.o] false m__law_letters⟩
theorem sc__law_letters : FnScope N__law_letters ["_law_purse_here"] (defScope s__law_letters) := ⟨rfl, rfl, rfl, by decide +kernel, rfl, by decide +kernel, by decide +kernel⟩
abbrev s__law_purse : Stmt := top 21
def N__law_purse : List Str := ["_law_cells", "_law_at", "_law_cell", "_law_purse_here"]
def m__law_purse : MS :=
  sq (asg (M.ret (.int 0)) (gN 2))
  (sq (mIfS (tb (mB ltD (mVar 1) (mC lenD (mCons (mVar 0) (mNil))))) (asg (mB ixD (mVar 0) (mVar 1)) (gN 2)) (nop))
  (sq (asgO 3 (mLst (mCons (mB modD (mC int1 (mCons (mC max2 (mCons (mB subD (mVar 2) (mB powD (M.ret (.int 10)) (M.ret (.int 18)))) (mCons (M.ret (.int 0)) (mNil)))) (mNil))) (mB powD (mB powD (M.ret (.int 10)) (M.ret (.int 60))) (M.ret (.int 8)))) (mCons (mB modD (mC int1 (mCons (mVar 2) (mNil))) (M.ret (.int 2147483647))) (mCons (mB mulD (M.ret (.int 1000)) (mVar 1)) (mNil))))))
  (retO (mCatO 3 (mLst (mCons (mCall F__law_letters (aO 3 (aNil))) (mNil)))))))
def F__law_purse : FnD := ⟨[.p, .p], true, runF 4 [.p, .p] true m__law_purse⟩
theorem sc__law_purse : FnScope N__law_purse ["_law_cells", "_law_at"] (defScope s__law_purse) := ⟨rfl, rfl, rfl, by decide +kernel, rfl, by decide +kernel, by decide +kernel⟩
abbrev s__law_sign_back : Stmt := top 23
def N__law_sign_back : List Str := ["_law_sign"]
def m__law_sign_back : MS :=
  retD (mB ixD (mLst (mCons (mU upD (mVar 0)) (mCons (mU loD (mVar 0)) (mNil)))) (mC int1 (mCons (mB neX (mVar 0) (mU loD (mVar 0))) (mNil))))
def F__law_sign_back : FnD := ⟨[.p], false, runF 1 [.p] false m__law_sign_back⟩
theorem sc__law_sign_back : FnScope N__law_sign_back ["_law_sign"] (defScope s__law_sign_back) := ⟨rfl, rfl, rfl, by decide +kernel, rfl, by decide +kernel, by decide +kernel⟩
abbrev s__law_struck : Stmt := top 24
def N__law_struck : List Str := ["_law_text", "_law_kept", "_law_sign"]
def fb__law_struck_0 : MS := mIfS (mAnd (tb (mOl 1 neX (mLst (mNil)))) (tb (mB eqX (mOl 1 ixD (mU negD (M.ret (.int 1)))) (mCall F__law_sign_back (aP (mVar 2) (aNil)))))) (drop (mPop 1)) (appnd 1 (mVar 2))
def fr__law_struck_0 : MS := mFor (mIt itemsX (mVar 0)) (gN 2) fb__law_struck_0
def m__law_struck : MS :=
  sq (asgO 1 (mLst (mNil)))
  (sq (fr__law_struck_0)
  (retD (mJnO 1 (M.ret (.str [])))))
def F__law_struck : FnD := ⟨[.p], false, runF 3 [.p] false m__law_struck⟩
theorem sc__law_struck : FnScope N__law_struck ["_law_text"] (defScope s__law_struck) := ⟨rfl, rfl, rfl, by decide +kernel, rfl, by decide +kernel, by decide +kernel⟩
abbrev s__law_back : Stmt := top 25
def N__law_back : List Str := ["_law_text", "_law_sign"]
def le__law_back_0 : M D := mCall F__law_sign_back (aP (mVar 1) (aNil))
def lc__law_back_0 : M D := mLc (mIt itemsX (mU revX (mVar 0))) [1] (gN 1) (mYes) le__law_back_0
def m__law_back : MS :=
  retD (mM .str joinD (M.ret (.str [])) (lc__law_back_0))
def F__law_back : FnD := ⟨[.p], false, runF 2 [.p] false m__law_back⟩
theorem sc__law_back : FnScope N__law_back ["_law_text"] (defScope s__law_back) := ⟨rfl, rfl, rfl, by decide +kernel, rfl, by decide +kernel, by decide +kernel⟩
abbrev s__law_history : Stmt := top 26
def N__law_history : List Str := ["_law_purse_here", "_law_most", "_law_text", "_law_k", "_law_sign"]
def fb__law_history_0 : MS := sq (asg (mB ixD (mOl 0 ixD (M.ret (.int 3))) (mCall F__law_draw (aO 0 (aP (mC lenD (mCons (mOl 0 ixD (M.ret (.int 3))) (mNil))) (aNil))))) (gN 4))
  (sq (asg (mB ixD (mLst (mCons (mVar 4) (mCons (mCall F__law_sign_back (aP (mVar 4) (aNil))) (mNil)))) (mCall F__law_draw (aO 0 (aP (M.ret (.int 2)) (aNil))))) (gN 4))
  (mIfS (tb (mB neX (mSl (mVar 2) (mPart (mU negD (M.ret (.int 1)))) (mNoPart)) (mCall F__law_sign_back (aP (mVar 4) (aNil))))) (asg (mB addD (mVar 2) (mVar 4)) (gN 2)) (nop)))
def fr__law_history_0 : MS := mFor (mRng1 (mCons (mCall F__law_draw (aO 0 (aP (mB addD (mVar 1) (M.ret (.int 1))) (aNil)))) mNil)) (gN 3) fb__law_history_0
def m__law_history : MS :=
  sq (asg (M.ret (.str [])) (gN 2))
  (sq (fr__law_history_0)
  (retD (mVar 2)))
def F__law_history : FnD := ⟨[.o, .p], false, runF 5 [.o, .p] false m__law_history⟩
theorem sc__law_history : FnScope N__law_history ["_law_purse_here", "_law_most"] (defScope s__law_history) := ⟨rfl, rfl, rfl, by decide +kernel, rfl, by decide +kernel, by decide +kernel⟩
abbrev s__law_caught : Stmt := top 28
def N__law_caught : List Str := ["_law_way", "_law_text", "_law_more", "_law_caught_here", "error"]
def ms__law_caught_0 (a dd : Addr) : MS := asg (mLst (mCons (M.ret (.str [104, 105, 115, 116, 111, 114, 121])) (mCons (mXf 4 a dd "thing") (mNil)))) (gN 3)
def ms__law_caught_0p (p : D) : MS := asg (mLst (mCons (M.ret (.str [104, 105, 115, 116, 111, 114, 121])) (mCons (M.ret p) (mNil)))) (gN 3)
theorem ms__law_caught_0_is (a dd : Addr) (p : D) (ρ : Cs) (r : RS) (hi : 4 < ρ.length) (h : ms__law_caught_0p p ρ = some r) : ∃ r', ms__law_caught_0 a dd (ρ.set 4 (.er (a, dd, "thing") p)) = some r' ∧ unRS 4 r' = unRS 4 r := by
  exact suite_asg (by decide) hi (fun ρ => ⟨_, rfl, fun ρ' e => by
    have hx := xf_at e
    simp only [mLst, mCons, mNil, M.bnd, M.ret, lift, hx]
    rfl⟩) h
def m__law_caught : MS :=
  sq (asg (M.ret .non) (gN 3))
  (sq (tryM 4 0 (asg (mLst (mCons (M.ret (.str [116, 111, 108, 100])) (mCons (mIf (tb (mB eqX (mVar 0) (M.ret (.int 0)))) (mCall F_root (aP (mVar 1) (aNil))) (mCall F_commute (aP (mVar 1) (aP (mVar 2) (aNil))))) (mNil)))) (gN 3)) ms__law_caught_0p)
  (retD (mVar 3)))
def F__law_caught : FnD := ⟨[.p, .p, .p], false, runF 5 [.p, .p, .p] false m__law_caught⟩
theorem sc__law_caught : FnScope N__law_caught ["_law_way", "_law_text", "_law_more"] (defScope s__law_caught) := ⟨rfl, rfl, rfl, by decide +kernel, rfl, by decide +kernel, by decide +kernel⟩
abbrev s__law_halves : Stmt := top 27
def N__law_halves : List Str := ["_law_text", "_law_many"]
def wc__law_halves_0 : M Bool := mAnd (tb (mB ltD (mB addD (mB mulD (M.ret (.int 2)) (mVar 1)) (M.ret (.int 1))) (mC lenD (mCons (mVar 0) (mNil))))) (tb (mB eqX (mB ixD (mVar 0) (mVar 1)) (mCall F__law_sign_back (aP (mB ixD (mVar 0) (mB subD (mU negD (M.ret (.int 1))) (mVar 1))) (aNil)))))
def wb__law_halves_0 : MS := asg (mB addD (mVar 1) (M.ret (.int 1))) (gN 1)
def wh__law_halves_0 : MS := whL wc__law_halves_0 wb__law_halves_0 1000000000
def m__law_halves : MS :=
  sq (asg (M.ret (.int 0)) (gN 1))
  (sq (wh__law_halves_0)
  (retD (mLst (mCons (mSl (mVar 0) (mNoPart) (mPart (mVar 1))) (mCons (mSl (mVar 0) (mPart (mVar 1)) (mPart (mB subD (mC lenD (mCons (mVar 0) (mNil))) (mVar 1)))) (mNil))))))
def F__law_halves : FnD := ⟨[.p], false, runF 2 [.p] false m__law_halves⟩
theorem sc__law_halves : FnScope N__law_halves ["_law_text"] (defScope s__law_halves) := ⟨rfl, rfl, rfl, by decide +kernel, rfl, by decide +kernel, by decide +kernel⟩
abbrev s__law_due : Stmt := top 29
def N__law_due : List Str := ["_law_text", "_law_ahead", "_law_middle", "_law_size"]
def fb__law_due_0 : MS := mIfS (mAnd (tb (mB eqX (mC lenD (mCons (mVar 2) (mNil))) (mB mulD (mVar 3) (mB divD (mC lenD (mCons (mVar 2) (mNil))) (mVar 3))))) (tb (mB eqX (mB mulD (mSl (mVar 2) (mNoPart) (mPart (mVar 3))) (mB divD (mC lenD (mCons (mVar 2) (mNil))) (mVar 3))) (mVar 2)))) (retD (mTup (mCons (mB addD (mB addD (mVar 1) (mSl (mVar 2) (mNoPart) (mPart (mVar 3)))) (mCall F__law_back (aP (mVar 1) (aNil)))) (mCons (mB divD (mC lenD (mCons (mVar 2) (mNil))) (mVar 3)) (mNil))))) (nop)
def fr__law_due_0 : MS := mFor (mRng2 (mCons (M.ret (.int 1)) (mCons (mB addD (mC lenD (mCons (mVar 2) (mNil))) (M.ret (.int 1))) mNil))) (gN 3) fb__law_due_0
def m__law_due : MS :=
  sq (asg (mCall F__law_halves (aP (mVar 0) (aNil))) (gU 2 (gsC (gN 1) (gsC (gN 2) (gs0)))))
  (sq (fr__law_due_0)
  (retD (M.ret .non)))
def F__law_due : FnD := ⟨[.p], false, runF 4 [.p] false m__law_due⟩
theorem sc__law_due : FnScope N__law_due ["_law_text"] (defScope s__law_due) := ⟨rfl, rfl, rfl, by decide +kernel, rfl, by decide +kernel, by decide +kernel⟩
abbrev s__law_times : Stmt := top 30
def N__law_times : List Str := ["_law_text", "_law_times_here", "_law_found", "_law_k"]
def fb__law_times_0 : MS := asg (mCall F__law_struck (aP (mB addD (mVar 2) (mVar 0)) (aNil))) (gN 2)
def fr__law_times_0 : MS := mFor (mRng1 (mCons (mVar 1) mNil)) (gN 3) fb__law_times_0
def m__law_times : MS :=
  sq (asg (M.ret (.str [])) (gN 2))
  (sq (fr__law_times_0)
  (retD (mVar 2)))
def F__law_times : FnD := ⟨[.p, .p], false, runF 4 [.p, .p] false m__law_times⟩
theorem sc__law_times : FnScope N__law_times ["_law_text", "_law_times_here"] (defScope s__law_times) := ⟨rfl, rfl, rfl, by decide +kernel, rfl, by decide +kernel, by decide +kernel⟩
abbrev s__law_right : Stmt := top 31
def N__law_right : List Str := ["_law_purse_here", "_law_ahead", "_law_inner", "_law_text", "_law_more", "_law_told", "_law_due_here", "_law_one", "_law_two", "_law_odd"]
def m__law_right : MS :=
  sq (mPar 1 2 (mCons (mCall F__law_history (aO 0 (aP (M.ret (.int 4)) (aNil)))) (mCons (mCall F__law_history (aO 0 (aP (M.ret (.int 8)) (aNil)))) (mNil))))
  (sq (asg (mCall F__law_struck (aP (mB addD (mB addD (mVar 1) (mCall F__law_times (aP (mVar 2) (aP (mB addD (M.ret (.int 1)) (mCall F__law_draw (aO 0 (aP (M.ret (.int 13)) (aNil))))) (aNil))))) (mCall F__law_back (aP (mVar 1) (aNil)))) (aNil))) (gN 3))
  (sq (asg (mB ixD (mLst (mCons (mCall F__law_history (aO 0 (aP (M.ret (.int 6)) (aNil)))) (mCons (mCall F__law_struck (aP (mB addD (mB addD (mVar 1) (mCall F__law_times (aP (mVar 2) (aP (M.ret (.int 2)) (aNil))))) (mCall F__law_back (aP (mVar 1) (aNil)))) (aNil))) (mNil)))) (mCall F__law_draw (aO 0 (aP (M.ret (.int 2)) (aNil))))) (gN 4))
  (sq (asg (mB ixD (mLst (mCons (mVar 4) (mCons (mCall F__law_back (aP (mVar 4) (aNil))) (mNil)))) (mCall F__law_draw (aO 0 (aP (M.ret (.int 2)) (aNil))))) (gN 4))
  (sq (mIfS (tb (mB neX (mVar 3) (M.ret (.str [])))) (sq (asg (mCall F_root (aP (mVar 3) (aNil))) (gN 5))
  (mIfS (mOr (tb (mB neX (mC strD (mCons (mVar 5) (mNil))) (mC strD (mCons (mCall F__law_due (aP (mVar 3) (aNil))) (mNil))))) (mOr (tb (mB neX (M.bnd (aP (mVar 3) (aNil)) (fun bs => if bs.length = 1 then callK F_root (pick [0] bs) else lift none)) (mVar 5))) (tb (mB neX (mCall F__law_times (aP (mB ixD (mVar 5) (M.ret (.int 0))) (aP (mB ixD (mVar 5) (M.ret (.int 1))) (aNil)))) (mVar 3))))) (retD (M.ret (.bl false))) (nop))) (nop))
  (sq (asg (mB eqX (mCall F__law_struck (aP (mB addD (mVar 3) (mVar 4)) (aNil))) (mCall F__law_struck (aP (mB addD (mVar 4) (mVar 3)) (aNil)))) (gN 6))
  (sq (mIfS (mOr (tb (mB neX (mC strD (mCons (mCall F_commute (aP (mVar 3) (aP (mVar 4) (aNil)))) (mNil))) (mC strD (mCons (mVar 6) (mNil))))) (tb (mB neX (mC strD (mCons (M.bnd (aP (mVar 3) (aP (mVar 4) (aNil))) (fun bs => if bs.length = 2 then callK F_commute (pick [1, 0] bs) else lift none)) (mNil))) (mC strD (mCons (mVar 6) (mNil)))))) (retD (M.ret (.bl false))) (nop))
  (sq (mIfS (mAnd (tb (mB neX (mVar 3) (M.ret (.str [])))) (tb (mB neX (mVar 4) (M.ret (.str []))))) (sq (mPar 7 8 (mCons (mB ixD (mCall F__law_due (aP (mVar 3) (aNil))) (M.ret (.int 0))) (mCons (mB ixD (mCall F__law_due (aP (mVar 4) (aNil))) (M.ret (.int 0))) (mNil))))
  (mIfS (tb (mB neX (mVar 6) (mB (inD false) (mVar 7) (mTup (mCons (mVar 8) (mCons (mCall F__law_back (aP (mVar 8) (aNil))) (mNil))))))) (retD (M.ret (.bl false))) (nop))) (nop))
  (sq (asg (mB ixD (mLst (mCons (M.ret .non) (mCons (M.ret (.str [97, 65])) (mCons (M.ret (.str [98, 49])) (mCons (M.ret (.int 7)) (mCons (mLst (mCons (M.ret (.str [97])) (mNil))) (mCons (mTup (mCons (M.ret (.str [97])) (mNil))) (mCons (M.ret (.bl true)) (mCons (M.ret (.str [65, 32, 97])) (mNil)))))))))) (mCall F__law_draw (aO 0 (aP (M.ret (.int 8)) (aNil))))) (gN 9))
  (sq (asg (mLst (mCons (mCall F__law_caught (aP (M.ret (.int 0)) (aP (mVar 9) (aP (M.ret (.str [])) (aNil))))) (mCons (mCall F__law_caught (aP (M.ret (.int 0)) (aP (M.ret (.str [])) (aP (M.ret (.str [])) (aNil))))) (mCons (mCall F__law_caught (aP (M.ret (.int 1)) (aP (mVar 9) (aP (M.ret (.int 7)) (aNil))))) (mCons (mCall F__law_caught (aP (M.ret (.int 1)) (aP (mVar 3) (aP (mVar 9) (aNil))))) (mNil)))))) (gN 5))
  (sq (mIfS (tb (mB neX (mCall F__law_caught (aP (M.ret (.int 1)) (aP (mVar 9) (aP (M.ret (.str [])) (aNil))))) (mLst (mCons (M.ret (.str [104, 105, 115, 116, 111, 114, 121])) (mCons (mVar 9) (mNil)))))) (retD (M.ret (.bl false))) (nop))
  (retD (mB eqX (mVar 5) (mLst (mCons (mLst (mCons (M.ret (.str [104, 105, 115, 116, 111, 114, 121])) (mCons (mVar 9) (mNil)))) (mCons (mLst (mCons (M.ret (.str [104, 105, 115, 116, 111, 114, 121])) (mCons (M.ret (.str [])) (mNil)))) (mCons (mLst (mCons (M.ret (.str [104, 105, 115, 116, 111, 114, 121])) (mCons (mVar 9) (mNil)))) (mCons (mLst (mCons (M.ret (.str [104, 105, 115, 116, 111, 114, 121])) (mCons (mVar 9) (mNil)))) (mNil))))))))))))))))))
def F__law_right : FnD := ⟨[.o], false, runF 10 [.o] false m__law_right⟩
theorem sc__law_right : FnScope N__law_right ["_law_purse_here"] (defScope s__law_right) := ⟨rfl, rfl, rfl, by decide +kernel, rfl, by decide +kernel, by decide +kernel⟩
abbrev s_law : Stmt := top 32
def N_law : List Str := ["_law_script", "_law_at", "_law_purse_here", "_law_turn", "_law_told", "_law_n"]
def fb_law_0 : MS := mIfS (mNot (tb (mCall F__law_right (aO 2 (aNil))))) (retD (M.ret (.bl false))) (nop)
def fr_law_0 : MS := mFor (mRng1 (mCons (M.ret (.int 8)) mNil)) (gN 3) fb_law_0
def fb_law_1 : MS := sq (asgO 2 (mCall F__law_purse (aP (mVar 0) (aP (mVar 1) (aNil)))))
  (fr_law_0)
def fr_law_1 : MS := mFor (mRng1 (mCons (mB addD (M.ret (.int 1)) (mC min2 (mCons (M.ret (.int 6)) (mCons (mC lenD (mCons (mVar 0) (mNil))) (mNil))))) mNil)) (gN 1) fb_law_1
def le_law_0 : M D := mB ixD (mCall F_root (aP (mB mulD (M.ret (.str [97])) (mVar 5)) (aNil))) (M.ret (.int 1))
def lc_law_0 : M D := mLc (mIt itemsX (mTup (mCons (M.ret (.int 7)) (mCons (M.ret (.int 17)) (mNil))))) [5] (gN 5) (mYes) le_law_0
def m_law : MS :=
  sq (fr_law_1)
  (sq (asg (mLst (mCons (mCall F_root (aP (M.ret (.str [97, 98, 97, 98])) (aNil))) (mCons (mCall F_root (aP (M.ret (.str [97, 98, 98, 65])) (aNil))) (mCons (mCall F_commute (aP (M.ret (.str [97, 97])) (aP (M.ret (.str [65, 65, 65])) (aNil)))) (mCons (mCall F_commute (aP (M.ret (.str [97, 98])) (aP (M.ret (.str [98, 97])) (aNil)))) (mNil)))))) (gN 4))
  (retD (mAndV (mB eqX (mVar 4) (mLst (mCons (mTup (mCons (M.ret (.str [97, 98])) (mCons (M.ret (.int 2)) (mNil)))) (mCons (mTup (mCons (M.ret (.str [97, 98, 65])) (mCons (M.ret (.int 2)) (mNil)))) (mCons (M.ret (.bl true)) (mCons (M.ret (.bl false)) (mNil))))))) (mB eqX (lc_law_0) (mLst (mCons (M.ret (.int 7)) (mCons (M.ret (.int 17)) (mNil))))))))
def F_law : FnD := ⟨[.p], false, runF 6 [.p] false m_law⟩
theorem sc_law : FnScope N_law ["_law_script"] (defScope s_law) := ⟨rfl, rfl, rfl, by decide +kernel, rfl, by decide +kernel, by decide +kernel⟩
end
local macro_rules
  | `(tactic| simp_all only [$ls,*]) => `(tactic| simp only [↓vp_pu, ↓vr_tr, ↓vo_ow, ↓vl_ow, ↓vs_un, ↓vs_pu, ↓vs_ow, ↓wo_some, ↓wo_none, ↓wo_map, ↓wo_bind, ↓wm_bnd, ↓wm_ret, ↓wm_lift, ↓kb_ok, ↓kb_ex, ↓wm_var, ↓wm_if, ↓wm_iT, ↓wm_iF, ↓ws_if, ↓ws_iT, ↓ws_iF, ↓ws_sq, ↓ks_ok, ↓ks_ex, ↓kq_nx, ↓kq_bk, ↓kq_ct, ↓kq_rt, ↓kq_ro, ↓kq_ex, ↓ws_nop, ↓ws_brk, ↓ws_cnt, ↓ws_retN, ↓kx_ok, ↓kx_ex, ↓kg_ok, ↓kg_ex, ↓ws_drop, ↓ws_retD, ↓ws_retO, ↓ws_raise, ↓ws_ifS, ↓ks_kg, ↓ws_asg, ↓ws_asgO, ↓wg_put, ↓wg_gN, ↓wg_gT, ↓wg_gsC, ↓wg_gs0, ↓ws_for, ↓ws_gS, ↓ws_frz, ↓ws_aug, ↓wg_bind, ↓wm_mB, ↓wm_mU, ↓wm_mC, ↓wm_mNil, ↓wm_mCons, ↓wm_mLst, ↓wm_mTup, ↓wm_tb, ↓wm_mAnd, ↓wm_mOr, ↓wm_mNot, ↓wm_mAndV, ↓wm_mOrV, ↓wm_mNotV, ↓wm_mIf, ↓wm_mIsi, ↓wm_mIsi2, ↓wm_mSl, ↓wm_mPart, ↓wm_mNoPart, ↓wm_mM, ↓wm_mIt, ↓wm_rng1, ↓wm_rng2, ↓wm_mZip2, ↓wm_mChn, ↓wm_chn, ↓wo_Wb, ↓wm_mOl, ↓wm_kOl, ↓wm_mO1, ↓wm_mPop, ↓wm_mTupO, ↓wm_mLstO, ↓wm_mCatO, ↓wm_kCat, ↓wm_mJnO, ↓ws_retV, ↓ws_append, ↓ws_appK, ↓ws_setIx, ↓ws_setIx2, ↓ws_setK, ↓kf_ret, ↓kf_exc, ↓wg_po0, ↓wg_poP, ↓wg_poL, ↓wg_po1, ↓wg_poT, ↓wm_call, ↓wm_callK, ↓ls_n0, ↓ls_nP, ↓ls_nO, ↓ls_nL, ↓ls_nT, ↓wm_aNil, ↓wm_aP, ↓wm_aO, ↓wm_aT, ↓wo_ad0, ↓wo_adP, ↓wo_adO, ↓wo_adT, ↓wo_adL, ↓ls_0, ↓ls_p, ↓ls_o, ↓kr_nx, ↓kr_rt, ↓kr_ro, ↓kr_ex, ↓wo_oa0, ↓wo_oaL, ↓wo_oaP, ↓vt_ow, ↓wo_oa1, ↓wo_oaT, ↓kt_nx, ↓kt_ct, ↓kt_bk, ↓kt_rt, ↓kt_ro, ↓kt_ex, ↓kw_ok, ↓wm_mLc, ↓kc_nx, ↓kc_bk, ↓kc_ct, ↓kc_rt, ↓kc_ro, ↓kc_ex, ↓ws_try, ↓kc_n1, ↓kc_n2, ↓kc_n3, ↓kc_n4, ↓kc_n5, ↓kc_n6, ↓kc_u1, ↓kc_u2, ↓kc_u3, ↓kc_u4, ↓kc_u5, ↓wo_size, ↓wo_ty1, ↓wo_ty2, ↓wo_ty3, ↓wo_ty4, ↓wo_ty5, ↓wo_ty6, ↓wo_ty7, ↓wo_ty8, ↓wo_sub1, ↓wo_sub2, ↓wo_sub3, ↓wo_sub4, ↓wo_addI, ↓wo_addS, ↓wo_addL, ↓wo_addT, ↓wo_sub, ↓wo_mulI, ↓wo_mulS, ↓wo_mulL, ↓wo_div, ↓wo_mod, ↓wo_neg, ↓wo_ltI, ↓wo_ltS, ↓wo_le, ↓wo_gt, ↓wo_ge, ↓wo_eqI, ↓wo_neI, ↓wo_eqB, ↓wo_neB, ↓wo_eqS, ↓wo_neS, ↓wo_isN, ↓wo_noN, ↓wo_inC, ↓wo_inL, ↓wo_ixL, ↓wo_ixT, ↓wo_ixS, ↓wo_ixR, ↓wo_lenL, ↓wo_lenT, ↓wo_lenR, ↓wo_lenS, ↓wo_up, ↓wo_lo, ↓wo_cutS, ↓wo_rng1, ↓wo_rng2, ↓wo_mx, ↓wo_mn, ↓wo_intB, ↓wo_intI, ↓wo_tupL, ↓wo_listL, ↓wo_listT, ↓wo_itL, ↓wo_itT, ↓wo_itS, ↓wo_itR, ↓wo_ixA, ↓wo_ixB, ↓wo_rev1, ↓wo_rev3, ↓wo_eqNil, ↓wo_neNil, ↓wo_abs, ↓ws_mPar, ↓ks_mPar, ↓kc_a1, ↓kc_a2, ↓kc_a3, ↓kc_a4, ↓kc_a5, ↓kc_a6, ↓vs_u, ↓ws_tryA, ↓ws_h0, ↓ws_h1, ↓ws_h2, ↓ws_h3, ↓wg_gU, ↓wg_gUl, ↓wm_mEnX, ↓wo_enL, ↓wo_enT, ↓wo_enS, ↓wm_mSlX, ↓wo_cutXS, ↓wo_cutXL, ↓wo_cutXT, ↓wm_mSlO, ↓wm_kSlO, ↓wo_f1, ↓wo_f2, ↓wo_f3, ↓wo_f4, ↓wo_cutL, ↓wm_pN, ↓vs_fz, ↓vs_ob, ↓ws_frzTr, ↓wo_eqE, ↓wo_sumD, ↓ws_dead, ↓wo_inT, ↓kt_lT, ↓kt_lE, ↓wo_gp0, ↓wo_gpc, ↓wo_s1f, ↓wo_s1i, ↓wo_s1k, ↓wo_sp0, ↓wo_spc, ↓wo_p1f, ↓wo_p1i, ↓wo_p1k, ↓wo_beqS, ↓vs_ll, ↓vs_dd, ↓wt_at, ↓wm_pF, ↓wm_pFk, ↓wm_pIxL, ↓wm_pIxD, ↓wm_thenP, ↓wm_lk2, ↓kt_lko, ↓kt_lkx, ↓wm_pIL, ↓wm_pID, ↓wm_mPl2, ↓wm_mPlk, ↓wm_mVw, ↓wm_kVw, ↓ws_isLk, ↓ws_appP, ↓ws_appT, ↓ws_setPL, ↓ws_setT, ↓ws_setPF, ↓ws_fldT, ↓ws_isFk, ↓ws_augPF, ↓ws_augT, ↓ws_augPL, ↓ws_augL2, ↓ws_augLK, ↓ws_appPT, ↓ws_appTT, ↓kt_sT, ↓kt_sX, ↓ws_asgTr, ↓wg_putTr, ↓wm_mMet, ↓wm_mMake, ↓kt_mk, ↓wm_mTrO, ↓wm_tro1, ↓wm_mTrE, ↓wm_tre1, ↓wm_tre2, ↓wm_mMetN, ↓kt_mNr, ↓kt_mNx, ↓wo_strI, ↓wo_intS, ↓ws_mPar3, ↓ks_mPar3, ↓ws_evlk, ↓ws_evisL, ↓ws_evfld, ↓wo_iaI, ↓wo_iaS, ↓vr_n, ↓ws_setNF, ↓ws_fldN, ↓wg_gP, ↓ws_retP, ↓ws_rtP, ↓kt_gp1, ↓kt_gp2, ↓wo_revY1, ↓wo_revY2, ↓wo_revY3, ↓wo_split, ↓wo_islower, ↓kc_r1, ↓kc_r2, ↓kc_r3, ↓kc_r4, ↓kc_r5, ↓kc_r6, ↓ws_tryR, ↓wo_dictL, ↓wo_dictT, ↓wo_dget, ↓wo_din, ↓wo_leXS, ↓wo_leXI, ↓ls_keyS, ↓ls_keyI, ↓wo_strD, ↓wo_strS, List.getElem?_cons_succ, List.getElem?_cons_zero, List.set_cons_succ, List.set_cons_zero, List.length_cons, List.length_nil, List.nodup_nil, List.nodup_cons, List.not_mem_nil, List.mem_cons, List.mem_singleton, List.nil_append, List.cons_append, cell0, init, cells0, List.replicate, Bool.not_true, Bool.not_false, decide_eq_true_eq, beq_iff_eq, Bool.not_eq_true, Bool.not_eq_eq_eq_not, bne_iff_ne, ne_eq, if_true, if_false, true_and, and_true, false_implies, true_implies, not_true_eq_false, not_false_eq_true, or_false, false_or, or_self, and_self, Nat.reduceAdd, Nat.reduceSub, Nat.reduceLeDiff, Nat.reduceLT, Nat.reduceEqDiff, Int.reduceNeg, reduceCtorEq, implies_true, forall_const, decide_false, decide_true, Bool.false_eq_true, wo_if, wm_if0, pick, List.filterMap_cons, List.filterMap_nil, beq_self_eq_true, Int.reduceEq, Int.reduceLT, Int.reduceLE, Int.reduceAdd, Int.reduceSub, Int.reduceMul, Int.reduceNeg, Int.reduceToNat, Nat.reduceMul, Bool.true_eq_false, Int.natCast_nonneg, okD_non, okD_bl, okD_int, okD_str, okD_lst, okD_tup, List.all_cons, List.all_nil, Bool.and_true, Bool.and_eq_true, Int.toNat_natCast, Int.cast_ofNat_Int, Bool.false_or, Bool.true_or, Bool.or_false, Bool.or_true, Bool.and_false, Bool.true_and, Bool.false_and, beq_eq_false_iff_ne, Bool.not_eq_false, eq_self, List.take_zero, List.drop_zero, List.flatten_cons, List.flatten_nil, Int.reducePow, Nat.reducePow, List.append_nil, List.all_append, $ls,*])
/-- what a letter's taking back is -/
def sbk (c : Nat) : Nat := if c ∈ c_COMMANDS then up1 c else lo1 c
def ltr (c : Nat) : Bool := decide (c ∈ c_LETTERS)
def ch (c : Nat) : D := .str [c]
theorem chars_eq (s : List Nat) : chars s = s.map ch := rfl
theorem ltr_asc {c : Nat} (h : ltr c = true) : c < 128 := by
  have : ∀ c ∈ c_LETTERS, c < 128 := by decide
  exact this c (of_decide_eq_true h)
theorem sbk_asc {c : Nat} (h : c < 128) : sbk c < 128 := by
  unfold sbk up1 lo1
  split <;> split <;> omega
theorem sbk_ltr {c : Nat} (h : ltr c = true) : ltr (sbk c) = true := by
  have : ∀ c ∈ c_LETTERS, ltr (sbk c) = true := by decide
  exact this c (of_decide_eq_true h)
theorem sbk_sbk {c : Nat} (h : ltr c = true) : sbk (sbk c) = c := by
  have : ∀ c ∈ c_LETTERS, sbk (sbk c) = c := by decide
  exact this c (of_decide_eq_true h)
theorem sbk_ne {c : Nat} (h : ltr c = true) : sbk c ≠ c := by
  have : ∀ c ∈ c_LETTERS, sbk c ≠ c := by decide
  exact this c (of_decide_eq_true h)
theorem asc1 {c : Nat} (h : c < 128) : asc [c] = true := by simp [asc, h]
theorem sb_sem {c : Nat} (h : c < 128) : F_sign_back.sem [.str [c]] = some (.ret (.str [sbk c]) []) := by
  by_cases hc : c ∈ c_COMMANDS
  · simp [runF, init, cells0, cell0, numT, retD, retO, retV, retN, ev, mIf, tb, mB, M.bnd, M.ret, mVar, lift, inD, mU, upD, loD, outAt, sq, asg, asgO, gN, put, mC, mCons, mNil, int1, lenD, mIfS, nop, mCall, callK, aP, aO, aNil, argDs, lentSl, putOuts, mOl, kOl, isOw, isOwL, setIx, setK, ixD, mLst, mTup, drop, appnd, appK, mPop, mAnd, mOr, mNot, mAndV, mOrV, mNotV, flatD, addD, subD, ltD, gtD, leD, geD, max2, min2, negD, ixN, mIsi, tyD, subTy, F_sign_back, m_sign_back, inD, hc, h, sbk]
  · simp [runF, init, cells0, cell0, numT, retD, retO, retV, retN, ev, mIf, tb, mB, M.bnd, M.ret, mVar, lift, inD, mU, upD, loD, outAt, sq, asg, asgO, gN, put, mC, mCons, mNil, int1, lenD, mIfS, nop, mCall, callK, aP, aO, aNil, argDs, lentSl, putOuts, mOl, kOl, isOw, isOwL, setIx, setK, ixD, mLst, mTup, drop, appnd, appK, mPop, mAnd, mOr, mNot, mAndV, mOrV, mNotV, flatD, addD, subD, ltD, gtD, leD, geD, max2, min2, negD, ixN, mIsi, tyD, subTy, F_sign_back, m_sign_back, inD, hc, h, sbk]
def isL : D → Bool
  | .str s => s.all ltr
  | _ => false
def hist : List Nat → Bool
  | a :: b :: r => (a != sbk b) && hist (b :: r)
  | _ => true
def isH : D → Bool
  | .str s => s.all ltr && hist s
  | _ => false
/-- no text that is long -/
def Shr (d : D) : Prop := ∀ s, d = .str s → s.length ≤ 1000000
theorem sz : 16777216 = sizeLine := by decide
theorem filter_yes (l : List D) : (l.filter fun _ => true) = l := List.filter_eq_self.mpr fun _ _ => rfl
theorem il_sem {d : D} (hd : Shr d) : F_is_letters.sem [d] = some (.ret (.bl (isL d)) []) := by
  cases d <;> first | (simp [runF, init, cells0, cell0, numT, retD, retO, retV, retN, ev, mIf, tb, mB, M.bnd, M.ret, mVar, lift, inD, mU, upD, loD, outAt, sq, asg, asgO, gN, put, mC, mCons, mNil, int1, lenD, mIfS, nop, mCall, callK, aP, aO, aNil, argDs, lentSl, putOuts, mOl, kOl, isOw, isOwL, setIx, setK, ixD, mLst, mTup, drop, appnd, appK, mPop, mAnd, mOr, mNot, mAndV, mOrV, mNotV, flatD, addD, subD, ltD, gtD, leD, geD, max2, min2, negD, ixN, mIsi, tyD, subTy, F_is_letters, m_is_letters, isL]; done) | skip
  rename_i s
  have hl := hd s rfl
  have lc : lc_is_letters_0 [.pu (.str s), .un] = _ := mLc_gen (its := chars s) (ρ := [.pu (.str s), .un]) (fun _ => true) (fun d => match d with | .str [c] => .bl (ltr c) | _ => .non) rfl (by rw [chars_eq, List.length_map, ← sz]; omega) rfl rfl (fun d hd => by
      rw [chars_eq] at hd
      obtain ⟨c, hc, rfl⟩ := List.mem_map.mp hd
      exact ⟨_, rfl, rfl, fun _ => rfl, rfl⟩)
  have e : ((chars s).filter fun _ => true).map (fun d => match d with | .str [c] => D.bl (ltr c) | _ => .non) = s.map fun c => D.bl (ltr c) := by
    rw [filter_yes, chars_eq, List.map_map]; rfl
  rw [e] at lc
  have al : allD [.lst (s.map fun c => D.bl (ltr c))] = some (.bl (s.all ltr)) := by
    show (blsOf _).map _ = _
    rw [blsOf_of]; simp [Function.comp_def]
  simp [runF, init, cells0, cell0, numT, retD, retO, retV, retN, ev, mIf, tb, mB, M.bnd, M.ret, mVar, lift, inD, mU, upD, loD, outAt, sq, asg, asgO, gN, put, mC, mCons, mNil, int1, lenD, mIfS, nop, mCall, callK, aP, aO, aNil, argDs, lentSl, putOuts, mOl, kOl, isOw, isOwL, setIx, setK, ixD, mLst, mTup, drop, appnd, appK, mPop, mAnd, mOr, mNot, mAndV, mOrV, mNotV, flatD, addD, subD, ltD, gtD, leD, geD, max2, min2, negD, ixN, mIsi, tyD, subTy, F_is_letters, m_is_letters, isL, lc, al]
theorem zip_all : ∀ s : List Nat, (zipS s (s.drop 1)).all (fun d => match d with | .tup [.str [a], .str [b]] => (a != sbk b) | _ => false) = hist s
  | [] => rfl
  | [_] => rfl
  | a :: b :: r => by
    have ih := zip_all (b :: r)
    simp only [List.drop_succ_cons, List.drop_zero] at ih
    simp only [List.drop_succ_cons, List.drop_zero, zipS, List.all_cons, hist, ih]
theorem zip_mem : ∀ {s t : List Nat} {d : D}, d ∈ zipS s t → ∃ a b, a ∈ s ∧ b ∈ t ∧ d = .tup [.str [a], .str [b]]
  | [], _, _, h => by simp [zipS] at h
  | _ :: _, [], _, h => by simp [zipS] at h
  | a :: s, b :: t, d, h => by
    rw [zipS] at h
    rcases List.mem_cons.mp h with rfl | h
    · exact ⟨a, b, List.mem_cons_self, List.mem_cons_self, rfl⟩
    · obtain ⟨x, y, h1, h2, h3⟩ := zip_mem h
      exact ⟨x, y, List.mem_cons_of_mem _ h1, List.mem_cons_of_mem _ h2, h3⟩
theorem ih_sem {d : D} (hd : Shr d) : F_is_history.sem [d] = some (.ret (.bl (isH d)) []) := by
  have hi := il_sem hd
  by_cases hL : isL d = true
  · cases d <;> first | (cases hL; done) | skip
    rename_i s
    have hl := hd s rfl
    have hlt : ∀ c ∈ s, ltr c = true := fun c hc => List.all_eq_true.mp hL c hc
    have lc : lc_is_history_0 [.pu (.str s), .un, .un] = _ := mLc_gen (its := zipS s (s.drop 1)) (ρ := [.pu (.str s), .un, .un])
      (fun _ => true) (fun d => .bl (match d with | .tup [.str [a], .str [b]] => (a != sbk b) | _ => false)) (by
        have : cutN s (some 1) none = s.tail := by simpa using cut_from s 1
        simp [runF, init, cells0, cell0, numT, retD, retO, retV, retN, ev, mIf, tb, mB, M.bnd, M.ret, mVar, lift, inD, mU, upD, loD, outAt, sq, asg, asgO, gN, put, mC, mCons, mNil, int1, lenD, mIfS, nop, mCall, callK, aP, aO, aNil, argDs, lentSl, putOuts, mOl, kOl, isOw, isOwL, setIx, setK, ixD, mLst, mTup, drop, appnd, appK, mPop, mAnd, mOr, mNot, mAndV, mOrV, mNotV, flatD, addD, subD, ltD, gtD, leD, geD, max2, min2, negD, ixN, mIsi, tyD, subTy, mZip2, mSl, mPart, mNoPart, Tk.cutD, zip2, show s.length ≤ sizeLine by rw [← sz]; omega]
        exact congrArg (zipS s) this) (by rw [zipS_len, ← sz]; omega) rfl rfl (fun d hd => by
        obtain ⟨a, b, ha, hb, rfl⟩ := zip_mem hd
        have hb' := ltr_asc (hlt b (List.mem_of_mem_drop hb))
        have ks : F_sign_back.ks = [.p] := rfl
        have n1 := neX_str (asc1 (ltr_asc (hlt a ha))) (asc1 (sbk_asc hb'))
        have hm : le_is_history_0 [.pu (.str s), .pu (.str [a]), .pu (.str [b])] = some (.ok (.bl (a != sbk b)) [.pu (.str s), .pu (.str [a]), .pu (.str [b])]) := by
          simp [runF, init, cells0, cell0, numT, retD, retO, retV, retN, ev, mIf, tb, mB, M.bnd, M.ret, mVar, lift, inD, mU, upD, loD, outAt, sq, asg, asgO, gN, put, mC, mCons, mNil, int1, lenD, mIfS, nop, mCall, callK, aP, aO, aNil, argDs, lentSl, putOuts, mOl, kOl, isOw, isOwL, setIx, setK, ixD, mLst, mTup, drop, appnd, appK, mPop, mAnd, mOr, mNot, mAndV, mOrV, mNotV, flatD, addD, subD, ltD, gtD, leD, geD, max2, min2, negD, ixN, mIsi, tyD, subTy, le_is_history_0, ks, sb_sem hb', n1, bne]
        exact ⟨_, rfl, rfl, fun _ => hm, rfl⟩)
    rw [filter_yes] at lc
    have al := all_map (fun d => match d with | .tup [.str [a], .str [b]] => (a != sbk b) | _ => false) (zipS s (s.drop 1))
    rw [zip_all] at al
    generalize List.map _ (zipS s (List.drop 1 s)) = Z at lc al
    have ks : F_is_letters.ks = [.p] := rfl
    have e : isH (.str s) = hist s := by show (s.all ltr && hist s) = _; rw [show s.all ltr = true from hL]; rfl
    rw [e]
    rw [hL] at hi
    simp [runF, init, cells0, cell0, numT, retD, retO, retV, retN, ev, mIf, tb, mB, M.bnd, M.ret, mVar, lift, inD, mU, upD, loD, outAt, sq, asg, asgO, gN, put, mC, mCons, mNil, int1, lenD, mIfS, nop, mCall, callK, aP, aO, aNil, argDs, lentSl, putOuts, mOl, kOl, isOw, isOwL, setIx, setK, ixD, mLst, mTup, drop, appnd, appK, mPop, mAnd, mOr, mNot, mAndV, mOrV, mNotV, flatD, addD, subD, ltD, gtD, leD, geD, max2, min2, negD, ixN, mIsi, tyD, subTy, F_is_history, m_is_history, ks, hi, lc, al]
  · have hF : isL d = false := by simpa using hL
    have e : isH d = false := by
      cases d <;> first | rfl | skip
      rename_i s
      show (s.all ltr && hist s) = false
      rw [show s.all ltr = false from hF]; rfl
    have ks : F_is_letters.ks = [.p] := rfl
    rw [hF] at hi
    rw [e]
    simp [runF, init, cells0, cell0, numT, retD, retO, retV, retN, ev, mIf, tb, mB, M.bnd, M.ret, mVar, lift, inD, mU, upD, loD, outAt, sq, asg, asgO, gN, put, mC, mCons, mNil, int1, lenD, mIfS, nop, mCall, callK, aP, aO, aNil, argDs, lentSl, putOuts, mOl, kOl, isOw, isOwL, setIx, setK, ixD, mLst, mTup, drop, appnd, appK, mPop, mAnd, mOr, mNot, mAndV, mOrV, mNotV, flatD, addD, subD, ltD, gtD, leD, geD, max2, min2, negD, ixN, mIsi, tyD, subTy, F_is_history, m_is_history, ks, hi]
/-- struck out: one letter more -/
def stk (kept : List Nat) (c : Nat) : List Nat := if kept.getLast? = some (sbk c) then kept.dropLast else kept ++ [c]
def strk (s : List Nat) : List Nat := s.foldl stk []
theorem last_ix (l : List Nat) : ixD (.lst (l.map ch)) (.int (-1)) = l.getLast?.map ch := by
  show (ixN (l.map ch).length (-1)).bind (fun k => (l.map ch)[k]?) = _
  rw [List.length_map]
  by_cases h : l.length = 0
  · have : l = [] := List.length_eq_zero_iff.mp h
    subst this; rfl
  · have e : ixN l.length (-1) = some (l.length - 1) := by
      unfold ixN
      rw [if_neg (by decide), if_pos (by omega)]
      congr 1
      omega
    rw [e]
    show (l.map ch)[l.length - 1]? = _
    rw [List.getElem?_map, List.getLast?_eq_getElem?]
theorem okDs_ch {l : List Nat} (h : ∀ c ∈ l, c < 128) : okDs 59 (l.map ch) = true := okDs_all fun d hd => by
  obtain ⟨c, hc, rfl⟩ := List.mem_map.mp hd
  exact asc_ok (asc1 (h c hc)) 59
theorem stk_asc {kept : List Nat} {c : Nat} (h : ∀ x ∈ kept, x < 128) (hc : c < 128) : ∀ x ∈ stk kept c, x < 128 := by
  unfold stk
  split
  · exact fun x hx => h x ((List.dropLast_subset kept) hx)
  · intro x hx
    rcases List.mem_append.mp hx with hx | hx
    · exact h x hx
    · have := List.mem_singleton.mp hx; omega
theorem stk_len (kept : List Nat) (c : Nat) : (stk kept c).length ≤ kept.length + 1 := by
  unfold stk
  split
  · rw [List.length_dropLast]; omega
  · simp
theorem struck_turn {t : Cell} {kept : List Nat} {c : Nat} (h : ∀ x ∈ kept, x < 128) (hc : c < 128) (hl : kept.length ≤ 1000000) : fb_struck_0 [t, .ow false (.lst (kept.map ch)), .pu (.str [c])] = some (.nx [t, .ow false (.lst ((stk kept c).map ch)), .pu (.str [c])]) := by
  have n0 := neX_nil (okDs_ch h)
  have ks : F_sign_back.ks = [.p] := rfl
  have lx := last_ix kept
  have sz1 : 0 ≤ sizeLine := Nat.zero_le _
  have app : kept.length < sizeLine := by rw [← sz]; omega
  cases e : kept.getLast? with
  | none =>
    have : kept = [] := List.getLast?_eq_none_iff.mp e
    subst this
    have n00 : neX (.lst []) (.lst []) = some (.bl false) := n0
    have nz : ¬ sizeLine = 0 := by decide
    simp [runF, init, cells0, cell0, numT, retD, retO, retV, retN, ev, mIf, tb, mB, M.bnd, M.ret, mVar, lift, inD, mU, upD, loD, outAt, sq, asg, asgO, gN, put, mC, mCons, mNil, int1, lenD, mIfS, nop, mCall, callK, aP, aO, aNil, argDs, lentSl, putOuts, mOl, kOl, isOw, isOwL, setIx, setK, ixD, mLst, mTup, drop, appnd, appK, mPop, mAnd, mOr, mNot, mAndV, mOrV, mNotV, flatD, addD, subD, ltD, gtD, leD, geD, max2, min2, negD, ixN, mIsi, tyD, subTy, fb_struck_0, n00, stk, ch, nz]
  | some b =>
    have hb : b < 128 := h b (List.mem_of_getLast? e)
    have ne : kept ≠ [] := fun z => by subst z; cases e
    have n1 := eqX_str (asc1 hb) (asc1 (sbk_asc hc))
    have ie : (kept.map ch).isEmpty = false := by cases kept with | nil => exact absurd rfl ne | cons a r => rfl
    rw [ie] at n0
    rw [e] at lx
    have lx : ixD (.lst (kept.map ch)) (.int (-1)) = some (.str [b]) := lx
    have hpop : (kept.map ch)[(kept.map ch).length - 1]? = some (.str [b]) := by
      rw [List.length_map, List.getElem?_map, ← List.getLast?_eq_getElem?, e]; rfl
    generalize hL : kept.map ch = L at n0 lx hpop
    have hLl : L.length < sizeLine := by rw [← hL, List.length_map]; exact app
    by_cases hbe : b = sbk c
    · subst hbe
      have z : (stk kept c).map ch = L.dropLast := by unfold stk; rw [if_pos e, ← hL, List.map_dropLast]
      rw [z]
      unfold fb_struck_0
      have q : mIfS (mAnd (tb (mOl 1 neX (mLst (mNil)))) (tb (mB eqX (mOl 1 ixD (mU negD (M.ret (.int 1)))) (mCall F_sign_back (aP (mVar 2) (aNil)))))) (drop (mPop 1)) (appnd 1 (mVar 2)) [t, .ow false (.lst L), .pu (.str [c])] = drop (mPop 1) [t, .ow false (.lst L), .pu (.str [c])] := by
        unfold mIfS
        have : (mAnd (tb (mOl 1 neX (mLst (mNil)))) (tb (mB eqX (mOl 1 ixD (mU negD (M.ret (.int 1)))) (mCall F_sign_back (aP (mVar 2) (aNil)))))) [t, .ow false (.lst L), .pu (.str [c])] = some (.ok true [t, .ow false (.lst L), .pu (.str [c])]) := by
          simp [runF, init, cells0, cell0, numT, retD, retO, retV, retN, ev, mIf, tb, mB, M.bnd, M.ret, mVar, lift, inD, mU, upD, loD, outAt, sq, asg, asgO, gN, put, mC, mCons, mNil, int1, lenD, mIfS, nop, mCall, callK, aP, aO, aNil, argDs, lentSl, putOuts, mOl, kOl, isOw, isOwL, setIx, setK, mLst, mTup, drop, appnd, appK, mPop, mAnd, mOr, mNot, mAndV, mOrV, mNotV, flatD, addD, subD, ltD, gtD, leD, geD, max2, min2, negD, mIsi, tyD, subTy, n0, lx, ks, sb_sem hc, n1]
        unfold ev; rw [this]; rfl
      rw [q]
      simp only [drop, ev, mPop, List.getElem?_cons_succ, List.getElem?_cons_zero, hpop]
      rfl
    · have z : (stk kept c).map ch = L ++ [ch c] := by unfold stk; rw [if_neg (by rw [e]; intro w; cases w; exact hbe rfl), ← hL, List.map_append]; rfl
      rw [z]
      unfold fb_struck_0
      have q : mIfS (mAnd (tb (mOl 1 neX (mLst (mNil)))) (tb (mB eqX (mOl 1 ixD (mU negD (M.ret (.int 1)))) (mCall F_sign_back (aP (mVar 2) (aNil)))))) (drop (mPop 1)) (appnd 1 (mVar 2)) [t, .ow false (.lst L), .pu (.str [c])] = appnd 1 (mVar 2) [t, .ow false (.lst L), .pu (.str [c])] := by
        unfold mIfS
        have : (mAnd (tb (mOl 1 neX (mLst (mNil)))) (tb (mB eqX (mOl 1 ixD (mU negD (M.ret (.int 1)))) (mCall F_sign_back (aP (mVar 2) (aNil)))))) [t, .ow false (.lst L), .pu (.str [c])] = some (.ok false [t, .ow false (.lst L), .pu (.str [c])]) := by
          have n2 : (b == sbk c) = false := by simpa using hbe
          simp [runF, init, cells0, cell0, numT, retD, retO, retV, retN, ev, mIf, tb, mB, M.bnd, M.ret, mVar, lift, inD, mU, upD, loD, outAt, sq, asg, asgO, gN, put, mC, mCons, mNil, int1, lenD, mIfS, nop, mCall, callK, aP, aO, aNil, argDs, lentSl, putOuts, mOl, kOl, isOw, isOwL, setIx, setK, mLst, mTup, drop, appnd, appK, mPop, mAnd, mOr, mNot, mAndV, mOrV, mNotV, flatD, addD, subD, ltD, gtD, leD, geD, max2, min2, negD, mIsi, tyD, subTy, n0, lx, ks, sb_sem hc, n1, n2]
        unfold ev; rw [this]; rfl
      rw [q]
      simp [runF, init, cells0, cell0, numT, retD, retO, retV, retN, ev, mIf, tb, mB, M.bnd, M.ret, mVar, lift, inD, mU, upD, loD, outAt, sq, asg, asgO, gN, put, mC, mCons, mNil, int1, lenD, mIfS, nop, mCall, callK, aP, aO, aNil, argDs, lentSl, putOuts, mOl, kOl, isOw, isOwL, setIx, setK, ixD, mLst, mTup, drop, appnd, appK, mPop, mAnd, mOr, mNot, mAndV, mOrV, mNotV, flatD, addD, subD, ltD, gtD, leD, geD, max2, min2, negD, ixN, mIsi, tyD, subTy, hLl, ch]
theorem struck_loop {t : Cell} : ∀ (rest kept : List Nat) (x : Cell), (x = .un ∨ ∃ d, x = .pu d) → (∀ x ∈ kept, x < 128) → (∀ x ∈ rest, x < 128) → kept.length + rest.length ≤ 1000000 →
    ∃ y, forL (fun d => gS (gN 2) d fb_struck_0) (rest.map ch) [t, .ow false (.lst (kept.map ch)), x] = some (.nx [t, .ow false (.lst ((rest.foldl stk kept).map ch)), y])
  | [], kept, x, _, _, _, _ => ⟨x, rfl⟩
  | c :: rest, kept, x, hx, h, hr, hl => by
    have hc := hr c List.mem_cons_self
    rw [List.length_cons] at hl
    have tn := struck_turn (t := t) h hc (by omega)
    have sl := stk_len kept c
    obtain ⟨y, hy⟩ := struck_loop (t := t) rest (stk kept c) (.pu (.str [c])) (.inr ⟨_, rfl⟩) (stk_asc h hc) (fun z hz => hr z (List.mem_cons_of_mem _ hz)) (by omega)
    refine ⟨y, ?_⟩
    have g : gN 2 (ch c) [t, .ow false (.lst (kept.map ch)), x] = some [t, .ow false (.lst (kept.map ch)), .pu (.str [c])] := by
      rcases hx with rfl | ⟨d, rfl⟩ <;> rfl
    rw [List.map_cons, forL]
    unfold gS
    rw [g]
    dsimp only
    rw [tn]
    exact hy
theorem flat1 : ∀ l : List Nat, (l.map fun c => [c]).flatten = l
  | [] => rfl
  | a :: l => by rw [List.map_cons, List.flatten_cons, flat1 l]; rfl
theorem join_ch (l : List Nat) (hl : l.length ≤ 16777216) : joinD (.str []) (.lst (l.map ch)) = some (.str l) := by
  show (strsOf (l.map fun c => D.str [c])).bind (joinS []) = _
  rw [strsOf_of]
  show joinS [] (l.map fun c => [c]) = _
  unfold joinS
  have e : ((l.map fun c => [c]).map (·.length)).sum = l.length := by
    rw [List.map_map]
    clear hl
    induction l with
    | nil => rfl
    | cons a l ih => rw [List.map_cons, List.sum_cons, ih, List.length_cons]; show 1 + l.length = _; omega
  rw [e, if_pos (by simp; exact hl), joinL_nil, flat1]
theorem fold_stk_len : ∀ (s kept : List Nat), (s.foldl stk kept).length ≤ kept.length + s.length
  | [], _ => Nat.le_refl _
  | c :: s, kept => by
    have h1 := stk_len kept c
    have h2 := fold_stk_len s (stk kept c)
    rw [List.foldl_cons, List.length_cons]; omega
theorem strk_len (s : List Nat) : (strk s).length ≤ s.length := by
  have := fold_stk_len s []
  simp only [List.length_nil, Nat.zero_add] at this
  exact this
theorem struck_sem {s : List Nat} (h : ∀ c ∈ s, c < 128) (hl : s.length ≤ 1000000) : F_struck.sem [.str s] = some (.ret (.str (strk s)) []) := by
  obtain ⟨y, hy⟩ := struck_loop (t := .pu (.str s)) s [] .un (.inl rfl) (by simp) h (by simpa using hl)
  have fr : fr_struck_0 [.pu (.str s), .ow false (.lst []), .un] = some (.nx [.pu (.str s), .ow false (.lst ((strk s).map ch)), y]) := hy
  have hj := join_ch (strk s) (by have := strk_len s; omega)
  simp [runF, init, cells0, cell0, numT, retD, retO, retV, retN, ev, mIf, tb, mB, M.bnd, M.ret, mVar, lift, inD, mU, upD, loD, outAt, sq, asg, asgO, gN, put, mC, mCons, mNil, int1, lenD, mIfS, nop, mCall, callK, aP, aO, aNil, argDs, lentSl, putOuts, mOl, kOl, isOw, isOwL, setIx, setK, ixD, mLst, mTup, drop, appnd, appK, mPop, mAnd, mOr, mNot, mAndV, mOrV, mNotV, flatD, addD, subD, ltD, gtD, leD, geD, max2, min2, negD, ixN, mIsi, tyD, subTy, F_struck, m_struck, fr, mJnO, hj]
theorem rq_sem {d : D} (hd : Shr d) : F_require_history.sem [d] = some (if isH d = true then .ret .non [] else .exc 0 d []) := by
  have hi := ih_sem hd
  have ks : F_is_history.ks = [.p] := rfl
  by_cases hL : isH d = true
  · rw [hL] at hi
    simp [runF, init, cells0, cell0, numT, retD, retO, retV, retN, ev, mIf, tb, mB, M.bnd, M.ret, mVar, lift, inD, mU, upD, loD, outAt, sq, asg, asgO, gN, put, mC, mCons, mNil, int1, lenD, mIfS, nop, mCall, callK, aP, aO, aNil, argDs, lentSl, putOuts, mOl, kOl, isOw, isOwL, setIx, setK, ixD, mLst, mTup, drop, appnd, appK, mPop, mAnd, mOr, mNot, mAndV, mOrV, mNotV, flatD, addD, subD, ltD, gtD, leD, geD, max2, min2, negD, ixN, mIsi, tyD, subTy, F_require_history, m_require_history, ks, hi, hL]
  · have hF : isH d = false := by simpa using hL
    rw [hF] at hi
    simp [runF, init, cells0, cell0, numT, retD, retO, retV, retN, ev, mIf, tb, mB, M.bnd, M.ret, mVar, lift, inD, mU, upD, loD, outAt, sq, asg, asgO, gN, put, mC, mCons, mNil, int1, lenD, mIfS, nop, mCall, callK, aP, aO, aNil, argDs, lentSl, putOuts, mOl, kOl, isOw, isOwL, setIx, setK, ixD, mLst, mTup, drop, appnd, appK, mPop, mAnd, mOr, mNot, mAndV, mOrV, mNotV, flatD, addD, subD, ltD, gtD, leD, geD, max2, min2, negD, ixN, mIsi, tyD, subTy, F_require_history, m_require_history, ks, hi, hF]
theorem isH_str {d : D} (h : isH d = true) : ∃ s, d = .str s ∧ s.all ltr = true ∧ hist s = true := by
  cases d <;> first | (cases h; done) | skip
  rename_i s
  have h : (s.all ltr && hist s) = true := h
  rw [Bool.and_eq_true] at h
  exact ⟨s, rfl, h.1, h.2⟩
def bak (s : List Nat) : List Nat := s.reverse.map sbk
theorem bk_sem {s : List Nat} (h : ∀ c ∈ s, c < 128) (hl : s.length ≤ 1000000) : F_back_of.sem [.str s] = some (.ret (.str (bak s)) []) := by
  have szz : s.length ≤ sizeLine := by rw [← sz]; omega
  have lc : lc_back_of_0 [.pu (.str s), .un] = _ := mLc_gen (its := chars s.reverse) (ρ := [.pu (.str s), .un]) (fun _ => true) (fun d => match d with | .str [c] => .str [sbk c] | _ => .non) (by simp [runF, init, cells0, cell0, numT, retD, retO, retV, retN, ev, mIf, tb, mB, M.bnd, M.ret, mVar, lift, inD, mU, upD, loD, outAt, sq, asg, asgO, gN, put, mC, mCons, mNil, int1, lenD, mIfS, nop, mCall, callK, aP, aO, aNil, argDs, lentSl, putOuts, mOl, kOl, isOw, isOwL, setIx, setK, ixD, mLst, mTup, drop, appnd, appK, mPop, mAnd, mOr, mNot, mAndV, mOrV, mNotV, flatD, addD, subD, ltD, gtD, leD, geD, max2, min2, negD, ixN, mIsi, tyD, subTy, mIt, revX, itemsX, szz]) (by rw [chars_eq, List.length_map, List.length_reverse]; exact szz) rfl rfl (fun d hd => by
      rw [chars_eq] at hd
      obtain ⟨c, hc, rfl⟩ := List.mem_map.mp hd
      have ks : F_sign_back.ks = [.p] := rfl
      have hm : le_back_of_0 [.pu (.str s), .pu (.str [c])] = some (.ok (.str [sbk c]) [.pu (.str s), .pu (.str [c])]) := by
        simp [runF, init, cells0, cell0, numT, retD, retO, retV, retN, ev, mIf, tb, mB, M.bnd, M.ret, mVar, lift, inD, mU, upD, loD, outAt, sq, asg, asgO, gN, put, mC, mCons, mNil, int1, lenD, mIfS, nop, mCall, callK, aP, aO, aNil, argDs, lentSl, putOuts, mOl, kOl, isOw, isOwL, setIx, setK, ixD, mLst, mTup, drop, appnd, appK, mPop, mAnd, mOr, mNot, mAndV, mOrV, mNotV, flatD, addD, subD, ltD, gtD, leD, geD, max2, min2, negD, ixN, mIsi, tyD, subTy, le_back_of_0, ks, sb_sem (h c (List.mem_reverse.mp hc))]
      exact ⟨_, rfl, rfl, fun _ => hm, rfl⟩)
  have e : ((chars s.reverse).filter fun _ => true).map (fun d => match d with | .str [c] => D.str [sbk c] | _ => .non) = (bak s).map ch := by
    rw [filter_yes, chars_eq, List.map_map, bak, List.map_map]; rfl
  rw [e] at lc
  have hj := join_ch (bak s) (by simp [bak]; omega)
  generalize (bak s).map ch = Z at lc hj
  simp [runF, init, cells0, cell0, numT, retD, retO, retV, retN, ev, mIf, tb, mB, M.bnd, M.ret, mVar, lift, inD, mU, upD, loD, outAt, sq, asg, asgO, gN, put, mC, mCons, mNil, int1, lenD, mIfS, nop, mCall, callK, aP, aO, aNil, argDs, lentSl, putOuts, mOl, kOl, isOw, isOwL, setIx, setK, ixD, mLst, mTup, drop, appnd, appK, mPop, mAnd, mOr, mNot, mAndV, mOrV, mNotV, flatD, addD, subD, ltD, gtD, leD, geD, max2, min2, negD, ixN, mIsi, tyD, subTy, F_back_of, m_back_of, mM, lc, hj]
/-! striking out -/
theorem all_app {a b : List Nat} : (a ++ b).all ltr = true ↔ a.all ltr = true ∧ b.all ltr = true := by rw [List.all_append, Bool.and_eq_true]
theorem stk_ltr {kept : List Nat} {c : Nat} (h : kept.all ltr = true) (hc : ltr c = true) : (stk kept c).all ltr = true := by
  unfold stk
  split
  · exact List.all_eq_true.mpr fun x hx => List.all_eq_true.mp h x ((List.dropLast_subset kept) hx)
  · rw [all_app]; exact ⟨h, by simp [hc]⟩
theorem hist_snoc : ∀ (k : List Nat) (c : Nat), hist (k ++ [c]) = true ↔ hist k = true ∧ ∀ b, k.getLast? = some b → b ≠ sbk c
  | [], c => by simp [hist]
  | [a], c => by simp [hist]
  | a :: b :: r, c => by
    have ih := hist_snoc (b :: r) c
    have e : (a :: b :: r) ++ [c] = a :: b :: (r ++ [c]) := rfl
    rw [e]
    show ((a != sbk b) && hist (b :: (r ++ [c]))) = true ↔ ((a != sbk b) && hist (b :: r)) = true ∧ _
    rw [Bool.and_eq_true, Bool.and_eq_true, show b :: (r ++ [c]) = (b :: r) ++ [c] from rfl, ih]
    have e2 : (a :: b :: r).getLast? = (b :: r).getLast? := by simp [List.getLast?_cons]
    rw [e2]
    constructor
    · rintro ⟨h1, h2, h3⟩; exact ⟨⟨h1, h2⟩, h3⟩
    · rintro ⟨⟨h1, h2⟩, h3⟩; exact ⟨h1, h2, h3⟩
theorem last_split {k : List Nat} {b : Nat} (h : k.getLast? = some b) : k = k.dropLast ++ [b] := by
  have ne : k ≠ [] := fun z => by subst z; cases h
  have := List.dropLast_concat_getLast ne
  rw [List.getLast?_eq_some_getLast ne] at h
  rw [Option.some.inj h] at this
  exact this.symm
theorem hist_drop {k : List Nat} (h : hist k = true) : hist k.dropLast = true := by
  cases e : k.getLast? with
  | none => rw [List.getLast?_eq_none_iff.mp e]; rfl
  | some b =>
    rw [last_split e] at h
    exact ((hist_snoc _ _).mp h).1
theorem stk_hist {kept : List Nat} {c : Nat} (h : hist kept = true) : hist (stk kept c) = true := by
  unfold stk
  split
  · exact hist_drop h
  · rename_i ne
    rw [hist_snoc]
    exact ⟨h, fun b e z => ne (by rw [e, z])⟩
theorem fold_hist : ∀ (s kept : List Nat), hist kept = true → hist (s.foldl stk kept) = true
  | [], _, h => h
  | c :: s, kept, h => fold_hist s (stk kept c) (stk_hist h)
theorem fold_ltr : ∀ (s kept : List Nat), kept.all ltr = true → s.all ltr = true → (s.foldl stk kept).all ltr = true
  | [], _, h, _ => h
  | c :: s, kept, h, hs => by
    rw [List.all_cons, Bool.and_eq_true] at hs
    exact fold_ltr s (stk kept c) (stk_ltr h hs.1) hs.2
theorem strk_hist (s : List Nat) : hist (strk s) = true := fold_hist s [] rfl
theorem strk_ltr {s : List Nat} (h : s.all ltr = true) : (strk s).all ltr = true := fold_ltr s [] rfl h
theorem strk_snoc (s : List Nat) (c : Nat) : strk (s ++ [c]) = stk (strk s) c := by unfold strk; rw [List.foldl_append]; rfl
theorem fold_app (a b kept : List Nat) : (a ++ b).foldl stk kept = b.foldl stk (a.foldl stk kept) := List.foldl_append
theorem stk_pair {kept : List Nat} {y : Nat} (h : hist kept = true) (hy : ltr y = true) : stk (stk kept (sbk y)) y = kept := by
  by_cases e : kept.getLast? = some (sbk (sbk y))
  · have s1 : stk kept (sbk y) = kept.dropLast := if_pos e
    rw [s1]
    rw [sbk_sbk hy] at e
    have sp := last_split e
    rw [sp] at h
    have ne : ¬ kept.dropLast.getLast? = some (sbk y) := fun z => ((hist_snoc _ _).mp h).2 _ z rfl
    have s2 : stk kept.dropLast y = kept.dropLast ++ [y] := if_neg ne
    rw [s2]; exact sp.symm
  · have s1 : stk kept (sbk y) = kept ++ [sbk y] := if_neg e
    rw [s1]
    have s2 : stk (kept ++ [sbk y]) y = (kept ++ [sbk y]).dropLast := if_pos (by simp)
    rw [s2]; simp
theorem strk_pair (a b : List Nat) {y : Nat} (hy : ltr y = true) : strk (a ++ sbk y :: y :: b) = strk (a ++ b) := by
  unfold strk
  rw [fold_app, fold_app]
  show (b.foldl stk (stk (stk (a.foldl stk []) (sbk y)) y)) = _
  have := stk_pair (strk_hist a) hy
  unfold strk at this
  rw [this]
theorem fold_red : ∀ (s kept : List Nat), hist (kept ++ s) = true → s.foldl stk kept = kept ++ s
  | [], kept, _ => by simp
  | c :: s, kept, h => by
    have h' : hist ((kept ++ [c]) ++ s) = true := by simpa using h
    have pre : ∀ (t u : List Nat), hist (u ++ t) = true → hist u = true := by
      intro t
      induction t with
      | nil => intro u h; simpa using h
      | cons x t ih =>
        intro u h
        have := ih (u ++ [x]) (by simpa using h)
        exact ((hist_snoc _ _).mp this).1
    have h1 := pre s _ h'
    have ne : ¬ kept.getLast? = some (sbk c) := fun z => ((hist_snoc _ _).mp h1).2 _ z rfl
    show s.foldl stk (stk kept c) = _
    rw [show stk kept c = kept ++ [c] from if_neg ne, fold_red s _ h']
    simp
theorem strk_red {s : List Nat} (h : hist s = true) : strk s = s := by
  have := fold_red s [] (by simpa using h)
  exact this
theorem strk_l (a b : List Nat) : strk (strk a ++ b) = strk (a ++ b) := by
  have := strk_red (strk_hist a)
  unfold strk at *
  rw [fold_app, fold_app, this]
theorem snoc_ind {P : List Nat → Prop} (h0 : P []) (h1 : ∀ l c, P l → P (l ++ [c])) : ∀ l, P l := by
  intro l
  have : ∀ n (l : List Nat), l.length = n → P l := by
    intro n
    induction n with
    | zero => intro l h; rw [List.length_eq_zero_iff.mp h]; exact h0
    | succ n ih =>
      intro l h
      cases e : l.getLast? with
      | none => rw [List.getLast?_eq_none_iff.mp e] at h; cases h
      | some b =>
        rw [last_split e]
        exact h1 _ _ (ih _ (by rw [List.length_dropLast]; omega))
  exact this _ l rfl
theorem strk_r (a : List Nat) : ∀ v : List Nat, v.all ltr = true → strk (a ++ strk v) = strk (a ++ v) := by
  refine snoc_ind (fun _ => rfl) fun u c ih h => ?_
  rw [all_app] at h
  have hc : ltr c = true := by simpa using h.2
  have ih := ih h.1
  rw [strk_snoc]
  have r : strk (a ++ (u ++ [c])) = stk (strk (a ++ strk u)) c := by rw [ih, ← List.append_assoc, strk_snoc]
  rw [r]
  by_cases e : (strk u).getLast? = some (sbk c)
  · rw [show stk (strk u) c = (strk u).dropLast from if_pos e]
    have sp := last_split e
    have : strk (a ++ strk u) = stk (strk (a ++ (strk u).dropLast)) (sbk c) := by
      rw [← strk_snoc, List.append_assoc, ← sp]
    rw [this, stk_pair (strk_hist _) hc]
  · rw [show stk (strk u) c = strk u ++ [c] from if_neg e, ← List.append_assoc, strk_snoc]
theorem bak_snoc (k : List Nat) (c : Nat) : bak (k ++ [c]) = sbk c :: bak k := by simp [bak]
theorem bak_ltr {s : List Nat} (h : s.all ltr = true) : (bak s).all ltr = true := List.all_eq_true.mpr fun x hx => by
  obtain ⟨y, hy, rfl⟩ := List.mem_map.mp hx
  exact sbk_ltr (List.all_eq_true.mp h y (List.mem_reverse.mp hy))
theorem bak_bak {s : List Nat} (h : s.all ltr = true) : bak (bak s) = s := by
  unfold bak
  rw [← List.map_reverse, List.reverse_reverse, List.map_map]
  have : ∀ x ∈ s, (sbk ∘ sbk) x = x := fun x hx => sbk_sbk (List.all_eq_true.mp h x hx)
  rw [List.map_congr_left this, List.map_id']
theorem bak_app (a b : List Nat) : bak (a ++ b) = bak b ++ bak a := by simp [bak]
theorem hist_cons (a : Nat) (l : List Nat) : hist (a :: l) = true ↔ (∀ b, l.head? = some b → a ≠ sbk b) ∧ hist l = true := by
  cases l with
  | nil => simp [hist]
  | cons b r => simp [hist]
theorem bak_hist : ∀ s : List Nat, s.all ltr = true → hist s = true → hist (bak s) = true := by
  refine snoc_ind (fun _ _ => rfl) fun u c ih hl h => ?_
  rw [all_app] at hl
  have hc : ltr c = true := by simpa using hl.2
  have hs := (hist_snoc u c).mp h
  rw [bak_snoc, hist_cons]
  refine ⟨fun b e => ?_, ih hl.1 hs.1⟩
  cases g : u.getLast? with
  | none => rw [List.getLast?_eq_none_iff.mp g] at e; cases e
  | some d =>
    have sp := last_split g
    rw [sp, bak_snoc] at e
    have : sbk d = b := Option.some.inj e
    subst this
    have hd : ltr d = true := by
      have := hl.1
      rw [sp, all_app] at this
      simpa using this.2
    rw [sbk_sbk hd]
    exact fun z => hs.2 d g z.symm
theorem strk_bak : ∀ w : List Nat, w.all ltr = true → strk (bak w) = bak (strk w) := by
  refine snoc_ind (fun _ => rfl) fun w c ih h => ?_
  rw [all_app] at h
  have hc : ltr c = true := by simpa using h.2
  have ih := ih h.1
  have e1 : strk (bak (w ++ [c])) = strk ([sbk c] ++ bak (strk w)) := by
    rw [bak_snoc]
    show strk ([sbk c] ++ bak w) = _
    rw [← strk_r _ _ (bak_ltr h.1), ih]
  rw [e1, strk_snoc]
  by_cases e : (strk w).getLast? = some (sbk c)
  · rw [show stk (strk w) c = (strk w).dropLast from if_pos e]
    have sp := last_split e
    have hk : hist (strk w).dropLast = true := hist_drop (strk_hist w)
    have hkl : (strk w).dropLast.all ltr = true := by
      have := strk_ltr h.1
      rw [sp, all_app] at this
      exact this.1
    have : bak (strk w) = c :: bak (strk w).dropLast := by
      rw [sp, bak_snoc, sbk_sbk hc]; simp
    rw [this]
    have := strk_pair [] (bak (strk w).dropLast) hc
    simp only [List.nil_append] at this
    show strk (sbk c :: c :: bak (strk w).dropLast) = _
    rw [this, strk_red (bak_hist _ hkl hk)]
  · have st : stk (strk w) c = strk w ++ [c] := if_neg e
    rw [st, bak_snoc]
    have hh : hist (strk w ++ [c]) = true := by rw [← st]; exact stk_hist (strk_hist w)
    have hl : (strk w ++ [c]).all ltr = true := by rw [all_app]; exact ⟨strk_ltr h.1, by simp [hc]⟩
    have := strk_red (bak_hist _ hl hh)
    rw [bak_snoc] at this
    exact this
theorem strk_inv : ∀ w : List Nat, w.all ltr = true → strk (w ++ bak w) = [] := by
  refine snoc_ind (fun _ => rfl) fun w c ih h => ?_
  rw [all_app] at h
  have hc : ltr c = true := by simpa using h.2
  have hsc : ltr (sbk c) = true := sbk_ltr hc
  rw [bak_snoc, List.append_assoc]
  show strk (w ++ c :: sbk c :: bak w) = []
  have := strk_pair w (bak w) hsc
  rw [sbk_sbk hc] at this
  rw [this]; exact ih h.1
theorem hist_app : ∀ (u v : List Nat), hist (u ++ v) = true ↔ hist u = true ∧ hist v = true ∧ ∀ b c, u.getLast? = some b → v.head? = some c → b ≠ sbk c
  | [], v => by simp [hist]
  | [a], v => by
    cases v with
    | nil => simp [hist]
    | cons c r => simp [hist]; exact And.comm
  | a :: b :: r, v => by
    have ih := hist_app (b :: r) v
    have e : (a :: b :: r) ++ v = a :: b :: (r ++ v) := rfl
    have e2 : (a :: b :: r).getLast? = (b :: r).getLast? := by simp [List.getLast?_cons]
    rw [e, e2]
    show ((a != sbk b) && hist (b :: (r ++ v))) = true ↔ ((a != sbk b) && hist (b :: r)) = true ∧ _
    rw [Bool.and_eq_true, Bool.and_eq_true, show b :: (r ++ v) = (b :: r) ++ v from rfl, ih]
    constructor
    · rintro ⟨h1, h2, h3, h4⟩; exact ⟨⟨h1, h2⟩, h3, h4⟩
    · rintro ⟨⟨h1, h2⟩, h3, h4⟩; exact ⟨h1, h2, h3, h4⟩
theorem mixed_sem {a b : Int} (ha : Sm 1000 a) (hb : Sm 1000 b) : ∃ k, F__law_mixed.sem [.int a, .int b] = some (.ret (.int k) []) := by
  have m1 := mul_sm (b := 2654435761) (k := 32) ha (by unfold Sm; decide)
  have k1 : Sm 16 40503 := by unfold Sm; decide
  have m2 := mul_sm k1 hb
  have m3 := mul_sm (k1.mul hb) hb
  have m4 := mul_sm (a := 97) (j := 7) (by unfold Sm; decide) hb
  have hn : Sm 31 ((a * 2654435761 + 40503 * b * b + 97 * b + 13) % 2147483647) := .mod (by decide) (by unfold Sm; decide)
  have m5 := mul_sm hn hn
  have m6 := mul_sm (a := 7) (j := 3) (by unfold Sm; decide) hn
  have d1 : ∀ x : Int, divD (.int x) (.int 3) = some (.int (x / 3)) := fun x => div_pos (by decide) (by unfold Sm; decide)
  have d2 : ∀ x : Int, modD (.int x) (.int 2147483647) = some (.int (x % 2147483647)) := fun x => mod_pos
  have d3 : ∀ x : Int, modD (.int x) (.int 2147483629) = some (.int (x % 2147483629)) := fun x => mod_pos
  simp [runF, init, cells0, cell0, numT, retD, retO, retV, retN, ev, mIf, tb, mB, M.bnd, M.ret, mVar, lift, inD, mU, upD, loD, outAt, sq, asg, asgO, gN, put, mC, mCons, mNil, int1, lenD, mIfS, nop, mCall, callK, aP, aO, aNil, argDs, lentSl, putOuts, mOl, kOl, isOw, isOwL, setIx, setK, ixD, mLst, mTup, drop, appnd, appK, mPop, mAnd, mOr, mNot, mAndV, mOrV, mNotV, flatD, addD, subD, ltD, gtD, leD, geD, max2, min2, negD, ixN, mIsi, tyD, subTy, F__law_mixed, m__law_mixed, m1, m2, m3, m4, m5, m6, d1, d2, d3]
/-- a purse of the law's, with at most m draws behind it, and what lies behind the three numbers -/
def PurR (r : List D) (m : Nat) (d : D) : Prop := ∃ a b c : Int, d = .lst (.int a :: .int b :: .int c :: r) ∧ Sm 31 b ∧ 0 ≤ c ∧ c ≤ m
theorem PurR.more {r : List D} {m n : Nat} {d : D} (h : PurR r m d) (hn : m ≤ n) : PurR r n d := by
  obtain ⟨a, b, c, rfl, h1, h2, h3⟩ := h
  exact ⟨a, b, c, rfl, h1, h2, by omega⟩
theorem draw_semR {r : List D} {m : Nat} {d : D} {n : Int} (h : PurR r m d) (hr : r.length ≤ 1) (hm : m ≤ 1000000000) (hn : 0 < n) (hn2 : Sm 8999 n) : ∃ (k : Int) (d' : D), F__law_draw.sem [d, .int n] = some (.ret (.int k) [d']) ∧ 0 ≤ k ∧ k < n ∧ PurR r (m + 1) d' := by
  obtain ⟨a, b, c, rfl, h1, h2, h3⟩ := h
  have hcs : r = [] ∨ ∃ x, r = [x] := by
    cases r with
    | nil => exact .inl rfl
    | cons x r => cases r with
      | nil => exact .inr ⟨x, rfl⟩
      | cons y r => simp at hr
  by_cases ha : 0 < a
  · refine ⟨a % n, .lst (.int (a / n) :: .int b :: .int c :: r), ?_, Int.emod_nonneg _ (Int.ne_of_gt hn), Int.emod_lt_of_pos _ hn, _, _, _, rfl, h1, h2, by omega⟩
    rcases hcs with rfl | ⟨x, rfl⟩ <;> simp [runF, init, cells0, cell0, numT, retD, retO, retV, retN, ev, mIf, tb, mB, M.bnd, M.ret, mVar, lift, inD, mU, upD, loD, outAt, sq, asg, asgO, gN, put, mC, mCons, mNil, int1, lenD, mIfS, nop, mCall, callK, aP, aO, aNil, argDs, lentSl, putOuts, mOl, kOl, isOw, isOwL, setIx, setK, ixD, mLst, mTup, drop, appnd, appK, mPop, mAnd, mOr, mNot, mAndV, mOrV, mNotV, flatD, addD, subD, ltD, gtD, leD, geD, max2, min2, negD, ixN, mIsi, tyD, subTy, F__law_draw, m__law_draw, ha, mod_pos hn, div_pos hn hn2]
  · obtain ⟨k, hk⟩ := mixed_sem (a := b) (b := c + 1) (h1.more) (show Sm 1000 (c + 1) from Nat.lt_of_lt_of_le (show (c + 1).natAbs < 2 ^ 31 by omega) (Nat.pow_le_pow_right (by decide) (by decide)))
    refine ⟨k % n, .lst (.int a :: .int b :: .int (c + 1) :: r), ?_, Int.emod_nonneg _ (Int.ne_of_gt hn), Int.emod_lt_of_pos _ hn, _, _, _, rfl, h1, by omega, by omega⟩
    have ks : F__law_mixed.ks = [.p, .p] := rfl
    rcases hcs with rfl | ⟨x, rfl⟩ <;> simp [runF, init, cells0, cell0, numT, retD, retO, retV, retN, ev, mIf, tb, mB, M.bnd, M.ret, mVar, lift, inD, mU, upD, loD, outAt, sq, asg, asgO, gN, put, mC, mCons, mNil, int1, lenD, mIfS, nop, mCall, callK, aP, aO, aNil, argDs, lentSl, putOuts, mOl, kOl, isOw, isOwL, setIx, setK, ixD, mLst, mTup, drop, appnd, appK, mPop, mAnd, mOr, mNot, mAndV, mOrV, mNotV, flatD, addD, subD, ltD, gtD, leD, geD, max2, min2, negD, ixN, mIsi, tyD, subTy, F__law_draw, m__law_draw, ha, mod_pos hn, ks, hk]
theorem p18 : powD (.int 10) (.int 18) = some (.int 1000000000000000000) := by
  show (if 0 ≤ (18 : Int) ∧ (Builtin.Int.intBits 10 : Int) * 18 ≤ 2 ^ 27 then some (D.int (10 ^ (18 : Int).toNat)) else none) = _
  rw [if_pos (by decide +kernel)]; rfl
theorem p60 : powD (.int 10) (.int 60) = some (.int 1000000000000000000000000000000000000000000000000000000000000) := by
  show (if 0 ≤ (60 : Int) ∧ (Builtin.Int.intBits 10 : Int) * 60 ≤ 2 ^ 27 then some (D.int (10 ^ (60 : Int).toNat)) else none) = _
  rw [if_pos (by decide +kernel)]; rfl
theorem p480 : powD (.int 1000000000000000000000000000000000000000000000000000000000000) (.int 8) = some (.int ((10 ^ 60) ^ 8)) := by
  show (if 0 ≤ (8 : Int) ∧ (Builtin.Int.intBits 1000000000000000000000000000000000000000000000000000000000000 : Int) * 8 ≤ 2 ^ 27 then some (D.int (1000000000000000000000000000000000000000000000000000000000000 ^ (8 : Int).toNat)) else none) = _
  rw [if_pos (by decide +kernel)]; rfl
def lsbk (c : Nat) : Nat := if c = lo1 c then up1 c else lo1 c
theorem lsbk_ltr {c : Nat} (h : ltr c = true) : lsbk c = sbk c := by
  have : ∀ c ∈ c_LETTERS, lsbk c = sbk c := by decide
  exact this c (of_decide_eq_true h)
theorem lo1_asc {c : Nat} (h : c < 128) : lo1 c < 128 := by unfold lo1; split <;> omega
theorem lsb_sem {c : Nat} (h : c < 128) : F__law_sign_back.sem [.str [c]] = some (.ret (.str [lsbk c]) []) := by
  have u : upD (.str [c]) = some (.str [up1 c]) := if_pos (by simp [h])
  have l : loD (.str [c]) = some (.str [lo1 c]) := if_pos (by simp [h])
  have ne := neX_str (asc1 h) (asc1 (lo1_asc h))
  have v : mVar 0 [.pu (.str [c])] = some (.ok (.str [c]) [.pu (.str [c])]) := rfl
  have hx : ixD (.lst [.str [up1 c], .str [lo1 c]]) (.int (if (!([c] == [lo1 c])) = true then 1 else 0)) = some (.str [lsbk c]) := by
    unfold lsbk
    by_cases e : c = lo1 c
    · have : ([c] == [lo1 c]) = true := by rw [← e]; simp
      rw [this, if_pos e]; rfl
    · have : ([c] == [lo1 c]) = false := by simpa using e
      rw [this, if_neg e]; rfl
  exact run_rt (ret_ok (mB_ok (lst_ok (cons_ok (mU_ok v u) (cons_ok (mU_ok v l) nil_ok))) (mC_ok (cons_ok (mB_ok v (mU_ok v l) ne) nil_ok) rfl) hx)) rfl
theorem lsb_nil : F__law_sign_back.sem [.str []] = some (.ret (.str []) []) := by
  have v : mVar 0 [.pu (.str [])] = some (.ok (.str []) [.pu (.str [])]) := rfl
  have ne := neX_str (a := []) (b := []) rfl rfl
  have u : upD (.str []) = some (.str []) := up_str (a := []) rfl (by decide)
  have l : loD (.str []) = some (.str []) := lo_str (a := []) rfl (by decide)
  have i : int1 [.bl (!(([] : List Nat) == []))] = some (.int 0) := rfl
  have x : ixD (.lst [.str [], .str []]) (.int 0) = some (.str []) := rfl
  show runF 1 [.p] false m__law_sign_back [.str []] = _
  exact run_rt (ρ1 := [.pu (.str [])]) (ret_ok (mB_ok (lst_ok (cons_ok (mU_ok v u) (cons_ok (mU_ok v l) nil_ok))) (mC_ok (cons_ok (mB_ok v (mU_ok v l) ne) nil_ok) i) x)) rfl
theorem kB : F__law_sign_back.ks = [.p] := rfl
theorem lsbk_asc {c : Nat} (h : c < 128) : lsbk c = sbk c := by
  have : ∀ c < 128, lsbk c = sbk c := by decide
  exact this c h
theorem lsb_a {c : Nat} (h : c < 128) : F__law_sign_back.sem [.str [c]] = some (.ret (.str [sbk c]) []) := by
  have := lsb_sem h
  rwa [lsbk_asc h] at this
theorem lsb_l {c : Nat} (h : ltr c = true) : F__law_sign_back.sem [.str [c]] = some (.ret (.str [sbk c]) []) := by
  have := lsb_sem (ltr_asc h)
  rwa [lsbk_ltr h] at this
theorem lbk_sem {s : List Nat} (h : s.all ltr = true) (hl : s.length ≤ 1000000) : F__law_back.sem [.str s] = some (.ret (.str (bak s)) []) := by
  have szz : s.length ≤ sizeLine := by rw [← sz]; omega
  have v0 : mVar 0 [.pu (.str s), .un] = some (.ok (.str s) [.pu (.str s), .un]) := rfl
  have lc : lc__law_back_0 [.pu (.str s), .un] = _ := mLc_gen (its := chars s.reverse) (ρ := [.pu (.str s), .un]) (fun _ => true) (fun d => match d with | .str [c] => .str [sbk c] | _ => .non) (it_ok (mU_ok v0 (show revX (.str s) = some (.str s.reverse) from if_pos szz)) rfl) (by rw [chars_eq, List.length_map, List.length_reverse]; exact szz) rfl rfl (fun d hd => by
      rw [chars_eq] at hd
      obtain ⟨c, hc, rfl⟩ := List.mem_map.mp hd
      have hm : le__law_back_0 [.pu (.str s), .pu (.str [c])] = some (.ok (.str [sbk c]) [.pu (.str s), .pu (.str [c])]) := call_1 (m := mVar 1) kB rfl (lsb_l (List.all_eq_true.mp h c (List.mem_reverse.mp hc)))
      exact ⟨_, rfl, rfl, fun _ => hm, rfl⟩)
  have e : ((chars s.reverse).filter fun _ => true).map (fun d => match d with | .str [c] => D.str [sbk c] | _ => .non) = (bak s).map ch := by
    rw [filter_yes, chars_eq, List.map_map, bak, List.map_map]; rfl
  rw [e] at lc
  have hj := join_ch (bak s) (by simp [bak]; omega)
  have q : mM .str joinD (M.ret (.str [])) (lc__law_back_0) [.pu (.str s), .un] = some (.ok (.str (bak s)) [.pu (.str s), .un]) := by
    unfold mM
    rw [bnd_ok (a := .str []) (ρ1 := [.pu (.str s), .un]) rfl, if_pos (show tyD (.str []) = .str from rfl), bnd_ok lc]
    unfold lift; rw [hj]
  exact run_rt (ret_ok q) rfl
theorem lstruck_turn {t : Cell} {kept : List Nat} {c : Nat} (h : ∀ x ∈ kept, x < 128) (hc : c < 128) (hl : kept.length ≤ 1000000) : fb__law_struck_0 [t, .ow false (.lst (kept.map ch)), .pu (.str [c])] = some (.nx [t, .ow false (.lst ((stk kept c).map ch)), .pu (.str [c])]) := by
  have n0 := neX_nil (okDs_ch h)
  have ks : F__law_sign_back.ks = [.p] := rfl
  have lx := last_ix kept
  have sz1 : 0 ≤ sizeLine := Nat.zero_le _
  have app : kept.length < sizeLine := by rw [← sz]; omega
  cases e : kept.getLast? with
  | none =>
    have : kept = [] := List.getLast?_eq_none_iff.mp e
    subst this
    have n00 : neX (.lst []) (.lst []) = some (.bl false) := n0
    have nz : ¬ sizeLine = 0 := by decide
    simp [runF, init, cells0, cell0, numT, retD, retO, retV, retN, ev, mIf, tb, mB, M.bnd, M.ret, mVar, lift, inD, mU, upD, loD, outAt, sq, asg, asgO, gN, put, mC, mCons, mNil, int1, lenD, mIfS, nop, mCall, callK, aP, aO, aNil, argDs, lentSl, putOuts, mOl, kOl, isOw, isOwL, setIx, setK, ixD, mLst, mTup, drop, appnd, appK, mPop, mAnd, mOr, mNot, mAndV, mOrV, mNotV, flatD, addD, subD, ltD, gtD, leD, geD, max2, min2, negD, ixN, mIsi, tyD, subTy, fb__law_struck_0, n00, stk, ch, nz]
  | some b =>
    have hb : b < 128 := h b (List.mem_of_getLast? e)
    have ne : kept ≠ [] := fun z => by subst z; cases e
    have n1 := eqX_str (asc1 hb) (asc1 (sbk_asc hc))
    have ie : (kept.map ch).isEmpty = false := by cases kept with | nil => exact absurd rfl ne | cons a r => rfl
    rw [ie] at n0
    rw [e] at lx
    have lx : ixD (.lst (kept.map ch)) (.int (-1)) = some (.str [b]) := lx
    have hpop : (kept.map ch)[(kept.map ch).length - 1]? = some (.str [b]) := by
      rw [List.length_map, List.getElem?_map, ← List.getLast?_eq_getElem?, e]; rfl
    generalize hL : kept.map ch = L at n0 lx hpop
    have hLl : L.length < sizeLine := by rw [← hL, List.length_map]; exact app
    by_cases hbe : b = sbk c
    · subst hbe
      have z : (stk kept c).map ch = L.dropLast := by unfold stk; rw [if_pos e, ← hL, List.map_dropLast]
      rw [z]
      unfold fb__law_struck_0
      have q : mIfS (mAnd (tb (mOl 1 neX (mLst (mNil)))) (tb (mB eqX (mOl 1 ixD (mU negD (M.ret (.int 1)))) (mCall F__law_sign_back (aP (mVar 2) (aNil)))))) (drop (mPop 1)) (appnd 1 (mVar 2)) [t, .ow false (.lst L), .pu (.str [c])] = drop (mPop 1) [t, .ow false (.lst L), .pu (.str [c])] := by
        unfold mIfS
        have : (mAnd (tb (mOl 1 neX (mLst (mNil)))) (tb (mB eqX (mOl 1 ixD (mU negD (M.ret (.int 1)))) (mCall F__law_sign_back (aP (mVar 2) (aNil)))))) [t, .ow false (.lst L), .pu (.str [c])] = some (.ok true [t, .ow false (.lst L), .pu (.str [c])]) := by
          simp [runF, init, cells0, cell0, numT, retD, retO, retV, retN, ev, mIf, tb, mB, M.bnd, M.ret, mVar, lift, inD, mU, upD, loD, outAt, sq, asg, asgO, gN, put, mC, mCons, mNil, int1, lenD, mIfS, nop, mCall, callK, aP, aO, aNil, argDs, lentSl, putOuts, mOl, kOl, isOw, isOwL, setIx, setK, mLst, mTup, drop, appnd, appK, mPop, mAnd, mOr, mNot, mAndV, mOrV, mNotV, flatD, addD, subD, ltD, gtD, leD, geD, max2, min2, negD, mIsi, tyD, subTy, n0, lx, ks, lsb_a hc, n1]
        unfold ev; rw [this]; rfl
      rw [q]
      simp only [drop, ev, mPop, List.getElem?_cons_succ, List.getElem?_cons_zero, hpop]
      rfl
    · have z : (stk kept c).map ch = L ++ [ch c] := by unfold stk; rw [if_neg (by rw [e]; intro w; cases w; exact hbe rfl), ← hL, List.map_append]; rfl
      rw [z]
      unfold fb__law_struck_0
      have q : mIfS (mAnd (tb (mOl 1 neX (mLst (mNil)))) (tb (mB eqX (mOl 1 ixD (mU negD (M.ret (.int 1)))) (mCall F__law_sign_back (aP (mVar 2) (aNil)))))) (drop (mPop 1)) (appnd 1 (mVar 2)) [t, .ow false (.lst L), .pu (.str [c])] = appnd 1 (mVar 2) [t, .ow false (.lst L), .pu (.str [c])] := by
        unfold mIfS
        have : (mAnd (tb (mOl 1 neX (mLst (mNil)))) (tb (mB eqX (mOl 1 ixD (mU negD (M.ret (.int 1)))) (mCall F__law_sign_back (aP (mVar 2) (aNil)))))) [t, .ow false (.lst L), .pu (.str [c])] = some (.ok false [t, .ow false (.lst L), .pu (.str [c])]) := by
          have n2 : (b == sbk c) = false := by simpa using hbe
          simp [runF, init, cells0, cell0, numT, retD, retO, retV, retN, ev, mIf, tb, mB, M.bnd, M.ret, mVar, lift, inD, mU, upD, loD, outAt, sq, asg, asgO, gN, put, mC, mCons, mNil, int1, lenD, mIfS, nop, mCall, callK, aP, aO, aNil, argDs, lentSl, putOuts, mOl, kOl, isOw, isOwL, setIx, setK, mLst, mTup, drop, appnd, appK, mPop, mAnd, mOr, mNot, mAndV, mOrV, mNotV, flatD, addD, subD, ltD, gtD, leD, geD, max2, min2, negD, mIsi, tyD, subTy, n0, lx, ks, lsb_a hc, n1, n2]
        unfold ev; rw [this]; rfl
      rw [q]
      simp [runF, init, cells0, cell0, numT, retD, retO, retV, retN, ev, mIf, tb, mB, M.bnd, M.ret, mVar, lift, inD, mU, upD, loD, outAt, sq, asg, asgO, gN, put, mC, mCons, mNil, int1, lenD, mIfS, nop, mCall, callK, aP, aO, aNil, argDs, lentSl, putOuts, mOl, kOl, isOw, isOwL, setIx, setK, ixD, mLst, mTup, drop, appnd, appK, mPop, mAnd, mOr, mNot, mAndV, mOrV, mNotV, flatD, addD, subD, ltD, gtD, leD, geD, max2, min2, negD, ixN, mIsi, tyD, subTy, hLl, ch]
theorem lstruck_loop {t : Cell} : ∀ (rest kept : List Nat) (x : Cell), (x = .un ∨ ∃ d, x = .pu d) → (∀ x ∈ kept, x < 128) → (∀ x ∈ rest, x < 128) → kept.length + rest.length ≤ 1000000 →
    ∃ y, forL (fun d => gS (gN 2) d fb__law_struck_0) (rest.map ch) [t, .ow false (.lst (kept.map ch)), x] = some (.nx [t, .ow false (.lst ((rest.foldl stk kept).map ch)), y])
  | [], kept, x, _, _, _, _ => ⟨x, rfl⟩
  | c :: rest, kept, x, hx, h, hr, hl => by
    have hc := hr c List.mem_cons_self
    rw [List.length_cons] at hl
    have tn := lstruck_turn (t := t) h hc (by omega)
    have sl := stk_len kept c
    obtain ⟨y, hy⟩ := lstruck_loop (t := t) rest (stk kept c) (.pu (.str [c])) (.inr ⟨_, rfl⟩) (stk_asc h hc) (fun z hz => hr z (List.mem_cons_of_mem _ hz)) (by omega)
    refine ⟨y, ?_⟩
    have g : gN 2 (ch c) [t, .ow false (.lst (kept.map ch)), x] = some [t, .ow false (.lst (kept.map ch)), .pu (.str [c])] := by
      rcases hx with rfl | ⟨d, rfl⟩ <;> rfl
    rw [List.map_cons, forL]
    unfold gS
    rw [g]
    dsimp only
    rw [tn]
    exact hy
theorem lstruck_sem {s : List Nat} (h : ∀ c ∈ s, c < 128) (hl : s.length ≤ 1000000) : F__law_struck.sem [.str s] = some (.ret (.str (strk s)) []) := by
  obtain ⟨y, hy⟩ := lstruck_loop (t := .pu (.str s)) s [] .un (.inl rfl) (by simp) h (by simpa using hl)
  have fr : fr__law_struck_0 [.pu (.str s), .ow false (.lst []), .un] = some (.nx [.pu (.str s), .ow false (.lst ((strk s).map ch)), y]) := hy
  have hj := join_ch (strk s) (by have := strk_len s; omega)
  simp [runF, init, cells0, cell0, numT, retD, retO, retV, retN, ev, mIf, tb, mB, M.bnd, M.ret, mVar, lift, inD, mU, upD, loD, outAt, sq, asg, asgO, gN, put, mC, mCons, mNil, int1, lenD, mIfS, nop, mCall, callK, aP, aO, aNil, argDs, lentSl, putOuts, mOl, kOl, isOw, isOwL, setIx, setK, ixD, mLst, mTup, drop, appnd, appK, mPop, mAnd, mOr, mNot, mAndV, mOrV, mNotV, flatD, addD, subD, ltD, gtD, leD, geD, max2, min2, negD, ixN, mIsi, tyD, subTy, F__law_struck, m__law_struck, fr, mJnO, hj]
/-- the i-th sign and the one over against it take each other back -/
def Cnd (s : List Nat) (i : Nat) : Prop := 2 * i + 1 < s.length ∧ s[i]? = (s[s.length - 1 - i]?).map sbk
def Hv (s : List Nat) (m : Nat) : Prop := (∀ i, i < m → Cnd s i) ∧ ¬ Cnd s m
theorem Hv.one {s : List Nat} {m n : Nat} (h : Hv s m) (g : Hv s n) : m = n := by
  rcases Nat.lt_trichotomy m n with l | l | l
  · exact absurd (g.1 m l) h.2
  · exact l
  · exact absurd (h.1 n l) g.2
theorem Hv.le {s : List Nat} {m : Nat} (h : ∀ i, i < m → Cnd s i) : 2 * m ≤ s.length := by
  cases m with
  | zero => omega
  | succ m => have := (h m (Nat.lt_succ_self m)).1; omega
theorem ix_neg {s : List Nat} {m : Nat} (hl : s.length ≤ 1000000) (h1 : m < s.length) : ∃ c, c ∈ s ∧ s[s.length - 1 - m]? = some c ∧ ixD (.str s) (.int (-1 - (m : Int))) = some (.str [c]) := by
  have hlt : s.length - 1 - m < s.length := by omega
  refine ⟨s[s.length - 1 - m], List.getElem_mem hlt, List.getElem?_eq_getElem hlt, ?_⟩
  show (if s.length ≤ sizeLine then ((ixN s.length (-1 - (m : Int))).bind fun k => s[k]?).map fun c => D.str [c] else none) = _
  have e : ixN s.length (-1 - (m : Int)) = some (s.length - 1 - m) := by
    unfold ixN
    rw [if_neg (by omega), if_pos (by omega)]
    exact congrArg some (by omega)
  rw [if_pos (Nat.le_trans hl m_sz), e]
  show (s[s.length - 1 - m]?).map _ = _
  rw [List.getElem?_eq_getElem hlt]; rfl
theorem hv_cond {s : List Nat} {m : Nat} (h : s.all ltr = true) (hl : s.length ≤ 1000000) (hm : 2 * m ≤ s.length) : ∃ k : Bool, wc__law_halves_0 [.pu (.str s), .pu (.int m)] = some (.ok k [.pu (.str s), .pu (.int m)]) ∧ (k = true ↔ Cnd s m) := by
  generalize hρ : ([.pu (.str s), .pu (.int (m : Int))] : Cs) = ρ
  have v0 : mVar 0 ρ = some (.ok (.str s) ρ) := by subst hρ; rfl
  have v1 : mVar 1 ρ = some (.ok (.int m) ρ) := by subst hρ; rfl
  have c1 : tb (mB ltD (mB addD (mB mulD (M.ret (.int 2)) (mVar 1)) (M.ret (.int 1))) (mC lenD (mCons (mVar 0) (mNil)))) ρ = some (.ok (decide ((2 * (m : Int) + 1) < s.length)) ρ) := tb_ok (mB_ok (mB_ok (mB_ok (ma := M.ret (.int 2)) rfl v1 (mul_sm (j := 2) (k := 30) (by unfold Sm; decide) (show (m : Int).natAbs < 2 ^ 30 by simp; omega))) (mb := M.ret (.int 1)) rfl rfl) (mC_ok (cons_ok v0 nil_ok) (len_str hl)) rfl)
  by_cases hc : 2 * m + 1 < s.length
  · obtain ⟨a, ma, ea, xa⟩ := ix_str (s := s) (k := (m : Int)) hl (by omega) (by omega)
    obtain ⟨b, mb, eb, xb⟩ := ix_neg (s := s) (m := m) hl (by omega)
    have la := List.all_eq_true.mp h a ma
    have lb := List.all_eq_true.mp h b mb
    have c2 : tb (mB eqX (mB ixD (mVar 0) (mVar 1)) (mCall F__law_sign_back (aP (mB ixD (mVar 0) (mB subD (mU negD (M.ret (.int 1))) (mVar 1))) (aNil)))) ρ = some (.ok ([a] == [sbk b]) ρ) := tb_ok (mB_ok (mB_ok v0 v1 xa) (call_1 kB (mB_ok v0 (mB_ok (mU_ok (ma := M.ret (.int 1)) rfl rfl) v1 rfl) xb) (lsb_l lb)) (eqX_str (asc1 (ltr_asc la)) (asc1 (sbk_asc (ltr_asc lb)))))
    refine ⟨[a] == [sbk b], and_t (by rw [c1, decide_eq_true (by omega)]) c2, ?_⟩
    unfold Cnd
    have ea : s[m]? = some a := ea
    rw [ea, eb]
    simp [hc]
  · refine ⟨false, and_f (by rw [c1, decide_eq_false (by omega)]), ?_⟩
    unfold Cnd
    simp [hc]
theorem pt_cond {s : List Nat} {m : Nat} (h : s.all ltr = true) (hl : s.length ≤ 1000000) (hm : 2 * m ≤ s.length) : ∃ k : Bool, wc_parts_0 [.pu (.str s), .pu (.int m)] = some (.ok k [.pu (.str s), .pu (.int m)]) ∧ (k = true ↔ Cnd s m) := by
  have kb : F_sign_back.ks = [.p] := rfl
  generalize hρ : ([.pu (.str s), .pu (.int (m : Int))] : Cs) = ρ
  have v0 : mVar 0 ρ = some (.ok (.str s) ρ) := by subst hρ; rfl
  have v1 : mVar 1 ρ = some (.ok (.int m) ρ) := by subst hρ; rfl
  have e1 : mB subD (mB subD (mC lenD (mCons (mVar 0) (mNil))) (M.ret (.int 1))) (mVar 1) ρ = some (.ok (.int ((s.length : Int) - 1 - m)) ρ) := mB_ok (mB_ok (mC_ok (cons_ok v0 nil_ok) (len_str hl)) (mb := M.ret (.int 1)) rfl rfl) v1 rfl
  have c1 : tb (mB ltD (mVar 1) (mB subD (mB subD (mC lenD (mCons (mVar 0) (mNil))) (M.ret (.int 1))) (mVar 1))) ρ = some (.ok (decide ((m : Int) < (s.length : Int) - 1 - m)) ρ) := tb_ok (mB_ok v1 e1 rfl)
  by_cases hc : 2 * m + 1 < s.length
  · obtain ⟨a, ma, ea, xa⟩ := ix_str (s := s) (k := (m : Int)) hl (by omega) (by omega)
    obtain ⟨b, mb, eb, xb⟩ := ix_str (s := s) (k := (s.length : Int) - 1 - m) hl (by omega) (by omega)
    have la := List.all_eq_true.mp h a ma
    have lb := List.all_eq_true.mp h b mb
    have c2 : tb (mB eqX (mB ixD (mVar 0) (mVar 1)) (mCall F_sign_back (aP (mB ixD (mVar 0) (mB subD (mB subD (mC lenD (mCons (mVar 0) (mNil))) (M.ret (.int 1))) (mVar 1))) (aNil)))) ρ = some (.ok ([a] == [sbk b]) ρ) := tb_ok (mB_ok (mB_ok v0 v1 xa) (call_1 kb (mB_ok v0 e1 xb) (sb_sem (ltr_asc lb))) (eqX_str (asc1 (ltr_asc la)) (asc1 (sbk_asc (ltr_asc lb)))))
    refine ⟨[a] == [sbk b], and_t (by rw [c1, decide_eq_true (by omega)]) c2, ?_⟩
    unfold Cnd
    have ea : s[m]? = some a := ea
    have eb : s[s.length - 1 - m]? = some b := by rw [← eb]; congr 1; omega
    rw [ea, eb]
    simp [hc]
  · refine ⟨false, and_f (by rw [c1, decide_eq_false (by omega)]), ?_⟩
    unfold Cnd
    simp [hc]
theorem hv_loop {s : List Nat} (wc : M Bool) (wb : MS) (hc : ∀ m, 2 * m ≤ s.length → ∃ k : Bool, wc [.pu (.str s), .pu (.int m)] = some (.ok k [.pu (.str s), .pu (.int m)]) ∧ (k = true ↔ Cnd s m))
    (hb : ∀ m : Nat, wb [.pu (.str s), .pu (.int m)] = some (.nx [.pu (.str s), .pu (.int ((m : Int) + 1))])) (hl : s.length ≤ 1000000) :
    ∃ m, Hv s m ∧ whL wc wb 1000000000 [.pu (.str s), .pu (.int 0)] = some (.nx [.pu (.str s), .pu (.int (m : Nat))]) := by
  obtain ⟨ρ', h1, m, h2, h3⟩ := whL_inv (mc := wc) (m := wb) (fun k ρ => ∃ m : Nat, ρ = [.pu (.str s), .pu (.int m)] ∧ k + m = s.length ∧ ∀ i, i < m → Cnd s i) (fun ρ => ∃ m : Nat, Hv s m ∧ ρ = [.pu (.str s), .pu (.int m)])
    (fun k ρ ⟨m, e, hk, hi⟩ => by
      subst e
      obtain ⟨b, h1, h2⟩ := hc m (Hv.le hi)
      by_cases hC : Cnd s m
      · refine .inr ⟨_, _, by rw [h1, h2.mpr hC], .inl (hb m), k - 1, ?_, m + 1, rfl, ?_, ?_⟩
        · have := hC.1; omega
        · have := hC.1; omega
        · intro i hlt
          rcases Nat.lt_succ_iff_lt_or_eq.mp hlt with g | g
          · exact hi i g
          · rw [g]; exact hC
      · have : b = false := by cases b with | false => rfl | true => exact absurd (h2.mp rfl) hC
        exact .inl ⟨_, by rw [h1, this], m, ⟨hi, hC⟩, rfl⟩)
    1000000000 s.length [.pu (.str s), .pu (.int 0)] (by omega) ⟨0, rfl, rfl, fun i h => absurd h (Nat.not_lt_zero i)⟩
  subst h3
  exact ⟨m, h2, h1⟩
/-- the middle -/
def mid (s : List Nat) (m : Nat) : List Nat := (s.drop m).take (s.length - 2 * m)
theorem sl_mid {a b c : M D} {s : List Nat} {m : Nat} {k : Int} {ρ : Cs} (ha : a ρ = some (.ok (.str s) ρ)) (hb : b ρ = some (.ok (.int m) ρ)) (hc : c ρ = some (.ok (.int k) ρ)) (hk : k = (s.length : Int) - m) (hl : s.length ≤ 1000000) (hm : 2 * m ≤ s.length) : mSl a (mPart b) (mPart c) ρ = some (.ok (.str (mid s m)) ρ) := by
  unfold mSl mPart
  rw [bnd_ok ha, bnd_ok (a := some (m : Int)) (ρ1 := ρ) (by rw [bnd_ok hb]; rfl), bnd_ok (a := some k) (ρ1 := ρ) (by rw [bnd_ok hc]; rfl)]
  unfold lift Tk.cutD
  dsimp only
  rw [if_pos (Nat.le_trans hl m_sz)]
  have e : k = ((s.length - m : Nat) : Int) := by omega
  unfold cutN mid
  rw [e, HT.sIx_nat, HT.sIx_nat, Nat.min_eq_left (by omega), Nat.min_eq_left (by omega)]
  rw [show s.length - m - m = s.length - 2 * m by omega]
theorem halves_sem {s : List Nat} (h : s.all ltr = true) (hl : s.length ≤ 1000000) : ∃ m, Hv s m ∧ F__law_halves.sem [.str s] = some (.ret (.lst [.str (s.take m), .str (mid s m)]) []) := by
  obtain ⟨m, h1, h2⟩ := hv_loop wc__law_halves_0 wb__law_halves_0 (fun m hm => hv_cond h hl hm) (fun m => rfl) hl
  refine ⟨m, h1, run_rt ((sq_ok (asg_ok (m := M.ret (.int 0)) (g := gN 1) rfl rfl)).trans ((sq_ok h2).trans (ret_ok (lst_ok (cons_ok (sl_to rfl rfl hl) (cons_ok (sl_mid (a := mVar 0) (b := mVar 1) rfl rfl (mB_ok (mC_ok (cons_ok (m := mVar 0) rfl nil_ok) (len_str hl)) (mb := mVar 1) rfl rfl) rfl hl (Hv.le h1.1)) nil_ok)))))) rfl⟩
theorem parts_sem {s : List Nat} (h : s.all ltr = true) (hl : s.length ≤ 1000000) : ∃ m, Hv s m ∧ F_parts.sem [.str s] = some (.ret (.tup [.str (s.take m), .str (mid s m)]) []) := by
  obtain ⟨m, h1, h2⟩ := hv_loop wc_parts_0 wb_parts_0 (fun m hm => pt_cond h hl hm) (fun m => rfl) hl
  refine ⟨m, h1, run_rt ((sq_ok (asg_ok (m := M.ret (.int 0)) (g := gN 1) rfl rfl)).trans ((sq_ok h2).trans (ret_ok (tup_ok (cons_ok (sl_to rfl rfl hl) (cons_ok (sl_mid (a := mVar 0) (b := mVar 1) rfl rfl (mB_ok (mC_ok (cons_ok (m := mVar 0) rfl nil_ok) (len_str hl)) (mb := mVar 1) rfl rfl) rfl hl (Hv.le h1.1)) nil_ok)))))) rfl⟩
/-- a text and its two parts -/
theorem Hv.split {s : List Nat} {m : Nat} (ha : s.all ltr = true) (h : Hv s m) : s = s.take m ++ mid s m ++ bak (s.take m) := by
  have hm := Hv.le h.1
  apply List.ext_getElem?
  intro i
  unfold mid bak
  by_cases h1 : i < m
  · rw [List.getElem?_append_left (by simp; omega), List.getElem?_append_left (by simp; omega), List.getElem?_take_of_lt h1]
  · by_cases h2 : i < s.length - m
    · rw [List.getElem?_append_left (by simp; omega), List.getElem?_append_right (by simp; omega)]
      rw [List.length_take, Nat.min_eq_left (by omega), List.getElem?_take_of_lt (by omega), List.getElem?_drop]
      congr 1; omega
    · rw [List.getElem?_append_right (by simp; omega)]
      by_cases h3 : i < s.length
      · have c := (h.1 (s.length - 1 - i) (by omega)).2
        have e1 : (List.take m s ++ List.take (s.length - 2 * m) (List.drop m s)).length = s.length - m := by simp; omega
        rw [e1, List.getElem?_map, List.getElem?_reverse (by simp; omega)]
        rw [List.length_take, Nat.min_eq_left (by omega), List.getElem?_take_of_lt (by omega)]
        rw [show m - 1 - (i - (s.length - m)) = s.length - 1 - i by omega, c]
        rw [show s.length - 1 - (s.length - 1 - i) = i by omega]
        have hx : s[i]? = some s[i] := List.getElem?_eq_getElem h3
        rw [hx]
        show some s[i] = some (sbk (sbk s[i]))
        rw [sbk_sbk (List.all_eq_true.mp ha _ (List.getElem_mem h3))]
      · rw [List.getElem?_eq_none (by omega), List.getElem?_eq_none (by simp; omega)]
theorem forL_ret {step : D → MS} (I : List D → Cs → Prop) (R : D → Prop) (h : ∀ d rest ρ, I (d :: rest) ρ → (∃ ρ', step d ρ = some (.nx ρ') ∧ I rest ρ') ∨ ∃ z ρ', step d ρ = some (.rt z ρ') ∧ R z) : ∀ (its : List D) (ρ : Cs), I its ρ → (∃ ρ', forL step its ρ = some (.nx ρ') ∧ I [] ρ') ∨ ∃ z ρ', forL step its ρ = some (.rt z ρ') ∧ R z
  | [], ρ, hI => .inl ⟨ρ, rfl, hI⟩
  | d :: its, ρ, hI => by
    unfold forL
    rcases h d its ρ hI with ⟨ρ1, h1, h2⟩ | ⟨z, ρ1, h1, h2⟩
    · rw [h1]; exact forL_ret I R h its ρ1 h2
    · rw [h1]; exact .inr ⟨z, ρ1, rfl, h2⟩
theorem ltr_all {s : List Nat} (h : s.all ltr = true) : asc s = true := List.all_eq_true.mpr fun c hc => decide_eq_true (ltr_asc (List.all_eq_true.mp h c hc))
theorem ltr_take {s : List Nat} (h : s.all ltr = true) (m : Nat) : (s.take m).all ltr = true := List.all_eq_true.mpr fun c hc => List.all_eq_true.mp h c (List.mem_of_mem_take hc)
theorem ltr_drop {s : List Nat} (h : s.all ltr = true) (m : Nat) : (s.drop m).all ltr = true := List.all_eq_true.mpr fun c hc => List.all_eq_true.mp h c (List.mem_of_mem_drop hc)
theorem ltr_mid {s : List Nat} (h : s.all ltr = true) (m : Nat) : (mid s m).all ltr = true := ltr_take (ltr_drop h m) _
theorem ltr_lt {s : List Nat} (h : s.all ltr = true) : ∀ c ∈ s, c < 128 := fun c hc => ltr_asc (List.all_eq_true.mp h c hc)
theorem mid_len (s : List Nat) (m : Nat) : (mid s m).length ≤ s.length := by unfold mid; rw [List.length_take, List.length_drop]; omega
def rot (k : Nat) (x : List Nat) : List Nat := x.drop k ++ x.take k
theorem rot_len (k : Nat) (x : List Nat) : (rot k x).length = x.length := by unfold rot; rw [List.length_append, Nat.add_comm, ← List.length_append, List.take_append_drop]
theorem rot_ltr {x : List Nat} (h : x.all ltr = true) (k : Nat) : (rot k x).all ltr = true := by unfold rot; rw [all_app]; exact ⟨ltr_drop h k, ltr_take h k⟩
theorem isH_s {s : List Nat} (h : s.all ltr = true) (hh : hist s = true) : isH (.str s) = true := by
  show (s.all ltr && hist s) = true
  rw [h, hh]; rfl
theorem shr_s {s : List Nat} (hl : s.length ≤ 1000000) : Shr (.str s) := fun t e => by cases e; exact hl
def Pur (m : Nat) (d : D) : Prop := ∃ s : List Nat, s.all ltr = true ∧ 0 < s.length ∧ s.length ≤ 6 ∧ PurR [.str s] m d
theorem Pur.more {m n : Nat} {d : D} (h : Pur m d) (hn : m ≤ n) : Pur n d := by
  obtain ⟨s, h1, h2, h3, h4⟩ := h
  exact ⟨s, h1, h2, h3, h4.more hn⟩
theorem kD : F__law_draw.ks = [.o, .p] := rfl
theorem draw_okR {r : List D} {i m : Nat} {b : Bool} {ρ ρ1 : Cs} {p : D} {n : Int} {mn : M D} (h0 : isOw ρ i = true) (hn : mn ρ = some (.ok (.int n) ρ1)) (hi : ρ1[i]? = some (.ow b p)) (h : PurR r m p) (hr : r.length ≤ 1) (hm : m ≤ 1000000000) (n0 : 0 < n) (n1 : n < 2 ^ 60) :
    ∃ (k : Int) (p' : D), mCall F__law_draw (aO i (aP mn aNil)) ρ = some (.ok (.int k) (ρ1.set i (.ow b p'))) ∧ 0 ≤ k ∧ k < n ∧ PurR r (m + 1) p' := by
  obtain ⟨k, p', h1, h2, h3, h4⟩ := draw_semR h hr hm n0 (show Sm 8999 n from Sm.more (j := 60) (show n.natAbs < 2 ^ 60 by omega) (by decide))
  exact ⟨k, p', call_o1 kD h0 hn hi h1, h2, h3, h4⟩
theorem draw_ok {i m : Nat} {b : Bool} {ρ ρ1 : Cs} {p : D} {n : Int} {mn : M D} (h0 : isOw ρ i = true) (hn : mn ρ = some (.ok (.int n) ρ1)) (hi : ρ1[i]? = some (.ow b p)) (h : Pur m p) (hm : m ≤ 1000000000) (n0 : 0 < n) (n1 : n < 2 ^ 60) :
    ∃ (k : Int) (p' : D), mCall F__law_draw (aO i (aP mn aNil)) ρ = some (.ok (.int k) (ρ1.set i (.ow b p'))) ∧ 0 ≤ k ∧ k < n ∧ Pur (m + 1) p' := by
  obtain ⟨s, g1, g2, g3, g4⟩ := h
  obtain ⟨k, p', h1, h2, h3, h4⟩ := draw_okR h0 hn hi g4 (by simp) hm n0 n1
  exact ⟨k, p', h1, h2, h3, s, g1, g2, g3, h4⟩
def abc : List Nat := [97, 98, 99, 100, 101, 102, 103, 104, 105, 106, 107, 108, 109, 110, 111, 112, 113, 114, 115, 116, 117, 118, 119, 120, 121, 122]
theorem abc_ltr {c : Nat} (h : c ∈ abc) : ltr c = true := by
  have : ∀ c ∈ abc, ltr c = true := by decide
  exact this c h
theorem letters_sem {m : Nat} {d : D} (h : PurR [] m d) (hm : m + 3 ≤ 1000000000) : ∃ (s : List Nat) (d' : D), F__law_letters.sem [d] = some (.ret (.str s) [d']) ∧ PurR [] (m + 3) d' ∧ s.all ltr = true ∧ 0 < s.length ∧ s.length ≤ 6 := by
  obtain ⟨k1, p1, e1, l1, u1, q1⟩ := draw_okR (i := 0) (b := true) (ρ := [.ow true d, .pu (.str abc), .un, .un]) (mn := M.ret (.int 6)) rfl rfl rfl h (by simp) (by omega) (n := 6) (by decide) (by decide)
  obtain ⟨k2, p2, e2, l2, u2, q2⟩ := draw_okR (i := 0) (b := true) (ρ := [.ow true p1, .pu (.str abc), .pu (.int k1), .un]) (mn := M.ret (.int 25)) rfl rfl rfl q1 (by simp) (by omega) (n := 25) (by decide) (by decide)
  have s1 : asg (M.ret (.str abc)) (gN 1) [.ow true d, .un, .un, .un] = some (.nx [.ow true d, .pu (.str abc), .un, .un]) := asg_ok (m := M.ret (.str abc)) rfl rfl
  have s2 := asg_ok (g := gN 2) e1 (ρ2 := [.ow true p1, .pu (.str abc), .pu (.int k1), .un]) rfl
  have s3 := asg_ok (g := gN 3) e2 (ρ2 := [.ow true p2, .pu (.str abc), .pu (.int k1), .pu (.int k2)]) rfl
  have c : ∀ x : Cell, tb (mB eqX (mVar 2) (M.ret (.int 0))) [.ow true p2, .pu (.str abc), .pu (.int k1), x] = some (.ok (k1 == 0) [.ow true p2, .pu (.str abc), .pu (.int k1), x]) := fun x => tb_ok (mB_ok (ma := mVar 2) rfl (mb := M.ret (.int 0)) rfl (eqX_int _ _))
  by_cases z : k1 = 0
  · obtain ⟨k3, p3, e3, l3, u3, q3⟩ := draw_okR (i := 0) (b := true) (ρ := [.ow true p2, .pu (.str abc), .pu (.int k1), .pu (.int k2)]) (mn := mB subD (M.ret (.int 25)) (mVar 3)) rfl (mB_ok (ma := M.ret (.int 25)) rfl (mb := mVar 3) rfl rfl) rfl q2 (by simp) (by omega) (n := 25 - k2) (by omega) (by omega)
    obtain ⟨a, a1, _, a2⟩ := ix_str (s := abc) (by decide) l2 (show k2 < (26 : Nat) by omega)
    obtain ⟨b, b1, _, b2⟩ := ix_str (s := abc) (k := k2 + 1 + k3) (by decide) (by omega) (show k2 + 1 + k3 < (26 : Nat) by omega)
    refine ⟨[a] ++ [b], p3, run_rt ((sq_ok s1).trans ((sq_ok s2).trans ((sq_ok s3).trans (sq_rt ((ifS_t (by rw [c, show (k1 == 0) = true by simpa using z])).trans (ret_ok (mB_ok (mB_ok (ma := mVar 1) rfl (mb := mVar 3) rfl a2) (mB_ok (ma := mVar 1) rfl (mB_ok (mB_ok (ma := mVar 3) rfl (mb := M.ret (.int 1)) rfl (show addD (.int k2) (.int 1) = some (.int (k2 + 1)) from rfl)) e3 rfl) b2) (add_str (by simp))))))))) rfl, q3, ?_, by simp, by simp⟩
    rw [all_app]; exact ⟨by simp [abc_ltr a1], by simp [abc_ltr b1]⟩
  · have z' : (k1 == 0) = false := by simpa using z
    obtain ⟨x, x1, _, x2⟩ := ix_lst (l := [.str [], .str [97, 98], .str [97, 98, 99], .str [97, 98], .str [97], .str [97, 98, 100, 101, 120, 122]]) l1 (show k1 < (6 : Nat) by omega)
    have xs : ∃ s : List Nat, x = .str s ∧ s.all ltr = true ∧ 0 < s.length ∧ s.length ≤ 6 := by
      have hk : k1 = 1 ∨ k1 = 2 ∨ k1 = 3 ∨ k1 = 4 ∨ k1 = 5 := by omega
      rcases hk with rfl | rfl | rfl | rfl | rfl
      all_goals (cases x2; exact ⟨_, rfl, by decide, by decide, by decide⟩)
    obtain ⟨s, rfl, t1, t2, t3⟩ := xs
    refine ⟨s, p2, run_rt ((sq_ok s1).trans ((sq_ok s2).trans ((sq_ok s3).trans ((sq_ok ((ifS_f (by rw [c, z'])).trans rfl)).trans (ret_ok (mB_ok (lst_ok (cons_ok (m := M.ret (.str [])) rfl (cons_ok (m := M.ret (.str [97, 98])) rfl (cons_ok (m := M.ret (.str [97, 98, 99])) rfl (cons_ok (m := M.ret (.str [97, 98])) rfl (cons_ok (m := M.ret (.str [97])) rfl (cons_ok (m := M.ret (.str [97, 98, 100, 101, 120, 122])) rfl nil_ok))))))) (mb := mVar 2) rfl x2)))))) rfl, q2.more (by omega), t1, t2, t3⟩
theorem purse_sem {ns : List Int} {i : Nat} (hl : ns.length ≤ 63) (hi : i ≤ ns.length) : ∃ d, F__law_purse.sem [.scr ns, .int i] = some (.ret d []) ∧ Pur 63010 d := by
  generalize hP : ((10 : Int) ^ 60) ^ 8 = P
  have p3 := p480
  rw [hP] at p3
  have hPp : 0 < P := by rw [← hP]; decide +kernel
  have d1 : ∀ x : Int, modD (.int x) (.int P) = some (.int (x % P)) := fun x => mod_pos hPp
  have d2 : ∀ x : Int, modD (.int x) (.int 2147483647) = some (.int (x % 2147483647)) := fun x => mod_pos
  have m1 : mulD (.int 1000) (.int (i : Int)) = some (.int (1000 * i)) := mul_sm (j := 10) (k := 10) (by unfold Sm; decide) (show (i : Int).natAbs < 2 ^ 10 by simp; omega)
  have hs : ∀ x : Int, Sm 31 (x % 2147483647) := fun x => .mod (by decide) (by unfold Sm; decide)
  have sl : 3 ≤ sizeLine := by decide
  have fin : ∀ (x y : Int), ∃ d' e, retO (mCatO 3 (mLst (mCons (mCall F__law_letters (aO 3 (aNil))) (mNil)))) [.pu (.scr ns), .pu (.int i), .pu (.int y), .ow false (.lst [.int x, .int (y % 2147483647), .int (1000 * i)])] = some (.ro d' [.pu (.scr ns), .pu (.int i), .pu (.int y), .ow false e]) ∧ Pur 63010 d' := fun x y => by
    obtain ⟨s, e, h1, ⟨a, b, c, rfl, h2, h3, h4⟩, h5, h6, h7⟩ := letters_sem (m := 63000) (d := .lst [.int x, .int (y % 2147483647), .int (1000 * i)]) ⟨_, _, _, rfl, hs y, by omega, by omega⟩ (by omega)
    refine ⟨.lst [.int a, .int b, .int c, .str s], .lst [.int a, .int b, .int c], ?_, s, h5, h6, h7, a, b, c, rfl, h2, h3, by omega⟩
    have ml := lst_ok (cons_ok (call_o (F := F__law_letters) (i := 3) (b := false) (ρ := [.pu (.scr ns), .pu (.int i), .pu (.int y), .ow false (.lst [.int x, .int (y % 2147483647), .int (1000 * i)])]) rfl rfl h1) nil_ok)
    have q : mCatO 3 (mLst (mCons (mCall F__law_letters (aO 3 (aNil))) (mNil))) [.pu (.scr ns), .pu (.int i), .pu (.int y), .ow false (.lst [.int x, .int (y % 2147483647), .int (1000 * i)])] = some (.ok (.lst [.int a, .int b, .int c, .str s]) [.pu (.scr ns), .pu (.int i), .pu (.int y), .ow false (.lst [.int a, .int b, .int c])]) := by
      unfold mCatO
      refine (if_pos (by rfl)).trans ?_
      rw [bnd_ok ml]
      unfold kCat
      show (if 3 + 1 ≤ sizeLine then _ else none) = _
      rw [if_pos (by decide)]
      rfl
    unfold retO ev
    rw [q]
  by_cases h : i < ns.length
  · have e : ns[i]? = some ns[i] := List.getElem?_eq_getElem h
    obtain ⟨d', e', f1, f2⟩ := fin ((if 0 > ns[i] - 1000000000000000000 then 0 else ns[i] - 1000000000000000000) % P) ns[i]
    refine ⟨d', ?_, f2⟩
    generalize hR : retO (mCatO 3 (mLst (mCons (mCall F__law_letters (aO 3 (aNil))) (mNil)))) = R at f1
    have es : F__law_purse.sem = runF 4 [.p, .p] true m__law_purse := rfl
    rw [es]
    unfold m__law_purse
    rw [hR]
    simp [runF, init, cells0, cell0, numT, retD, retO, retV, retN, ev, mIf, tb, mB, M.bnd, M.ret, mVar, lift, inD, mU, upD, loD, outAt, sq, asg, asgO, gN, put, mC, mCons, mNil, int1, lenD, mIfS, nop, mCall, callK, aP, aO, aNil, argDs, lentSl, putOuts, mOl, kOl, isOw, isOwL, setIx, setK, ixD, mLst, mTup, drop, appnd, appK, mPop, mAnd, mOr, mNot, mAndV, mOrV, mNotV, flatD, addD, subD, ltD, gtD, leD, geD, max2, min2, negD, ixN, mIsi, tyD, subTy, m1, d1, d2, p18, p60, p3, h, e, sl] at f1 ⊢
    rw [f1]
  · have hz : ¬ (i : Int) < ns.length := by omega
    obtain ⟨d', e', f1, f2⟩ := fin ((if 0 > (0 : Int) - 1000000000000000000 then 0 else (0 : Int) - 1000000000000000000) % P) 0
    refine ⟨d', ?_, f2⟩
    generalize hR : retO (mCatO 3 (mLst (mCons (mCall F__law_letters (aO 3 (aNil))) (mNil)))) = R at f1
    have es : F__law_purse.sem = runF 4 [.p, .p] true m__law_purse := rfl
    rw [es]
    unfold m__law_purse
    rw [hR]
    simp [runF, init, cells0, cell0, numT, retD, retO, retV, retN, ev, mIf, tb, mB, M.bnd, M.ret, mVar, lift, inD, mU, upD, loD, outAt, sq, asg, asgO, gN, put, mC, mCons, mNil, int1, lenD, mIfS, nop, mCall, callK, aP, aO, aNil, argDs, lentSl, putOuts, mOl, kOl, isOw, isOwL, setIx, setK, ixD, mLst, mTup, drop, appnd, appK, mPop, mAnd, mOr, mNot, mAndV, mOrV, mNotV, flatD, addD, subD, ltD, gtD, leD, geD, max2, min2, negD, ixN, mIsi, tyD, subTy, m1, d1, d2, p18, p60, p3, h, hz, sl] at f1 ⊢
    rw [f1]
theorem cut_last (s : List Nat) : cutN s (some (-1)) none = (match s.getLast? with | none => [] | some b => [b]) := by
  cases e : s.getLast? with
  | none => rw [List.getLast?_eq_none_iff.mp e]; rfl
  | some b =>
    have sp := last_split e
    have hn : 0 < s.length := by rw [sp]; simp
    unfold cutN
    rw [HT.sIx_none]
    have ix : HT.sIx s.length 0 (some (-1)) = s.length - 1 := by
      unfold HT.sIx
      dsimp only
      rw [if_pos (by decide)]; omega
    rw [ix]
    have : s.drop (s.length - 1) = [b] := by
      have l2 : s.length - 1 = s.dropLast.length := by rw [List.length_dropLast]
      rw [l2]
      conv => lhs; rw [sp]
      simp
    rw [this]
    exact List.take_of_length_le (by simp; omega)
theorem mOl_ok {i : Nat} {f : D → D → Option D} {m : M D} {ρ ρ1 : Cs} {b : Bool} {p d z : D} (h0 : isOw ρ i = true) (h : m ρ = some (.ok d ρ1)) (hi : ρ1[i]? = some (.ow b p)) (hf : f p d = some z) (hz : flatD z = true := by first | rfl | assumption) : mOl i f m ρ = some (.ok z ρ1) := by
  unfold mOl
  refine (if_pos h0).trans ?_
  rw [bnd_ok h]
  unfold kOl
  rw [hi]
  dsimp only
  rw [hf]
  dsimp only
  rw [if_pos hz]
theorem hist_turn {m : Nat} {p mo : D} {f : List Nat} {c3 c4 : Cell} (h : Pur m p) (hm : m + 2 ≤ 1000000000) (hf : f.all ltr = true) (hh : hist f = true) (hl : f.length ≤ 1000) (h4 : Pl c4) :
    ∃ (p' : D) (f' : List Nat) (c4' : Cell), fb__law_history_0 [.ow true p, .pu mo, .pu (.str f), c3, c4] = some (.nx [.ow true p', .pu mo, .pu (.str f'), c3, c4']) ∧ Pur (m + 2) p' ∧ f'.all ltr = true ∧ hist f' = true ∧ f'.length ≤ f.length + 1 ∧ Pl c4' := by
  obtain ⟨s, g1, g2, g3, hp⟩ := id h
  have hx : ixD p (.int 3) = some (.str s) := by obtain ⟨a, b, c, rfl, _⟩ := hp; rfl
  have r1 : mOl 0 ixD (M.ret (.int 3)) [.ow true p, .pu mo, .pu (.str f), c3, c4] = some (.ok (.str s) [.ow true p, .pu mo, .pu (.str f), c3, c4]) := mOl_ok (b := true) rfl (m := M.ret (.int 3)) rfl rfl hx
  obtain ⟨k1, p1, e1, l1, u1, q1⟩ := draw_ok (i := 0) (b := true) rfl (mC_ok (cons_ok r1 nil_ok) (len_str (by omega))) rfl h (by omega) (by omega) (by omega)
  obtain ⟨c, hc, _, x1⟩ := ix_str (s := s) (by omega) l1 u1
  have hcl := List.all_eq_true.mp g1 c hc
  have s1 := asg_ok (g := gN 4) (mB_ok r1 e1 x1) (ρ2 := [.ow true p1, .pu mo, .pu (.str f), c3, .pu (.str [c])]) (by rcases h4 with rfl | ⟨z, rfl⟩ <;> rfl)
  have l2 := lst_ok (cons_ok (m := mVar 4) (ρ := [.ow true p1, .pu mo, .pu (.str f), c3, .pu (.str [c])]) rfl (cons_ok (call_1 (m := mVar 4) kB rfl (lsb_l hcl)) nil_ok))
  obtain ⟨k2, p2, e2, lo2, u2, q2⟩ := draw_ok (i := 0) (b := true) (ρ := [.ow true p1, .pu mo, .pu (.str f), c3, .pu (.str [c])]) (mn := M.ret (.int 2)) rfl rfl rfl q1 (by omega) (n := 2) (by decide) (by decide)
  obtain ⟨d, hd, _, x2⟩ := ix_lst (l := [.str [c], .str [sbk c]]) lo2 u2
  obtain ⟨y, rfl, hy⟩ : ∃ y, d = .str [y] ∧ ltr y = true := by
    rcases List.mem_cons.mp hd with rfl | hd
    · exact ⟨c, rfl, hcl⟩
    · exact ⟨sbk c, List.mem_singleton.mp hd, sbk_ltr hcl⟩
  have s2 := asg_ok (g := gN 4) (mB_ok l2 e2 x2) (ρ2 := [.ow true p2, .pu mo, .pu (.str f), c3, .pu (.str [y])]) rfl
  generalize hρ : ([.ow true p2, .pu mo, .pu (.str f), c3, .pu (.str [y])] : Cs) = ρ at s2
  have v2 : mVar 2 ρ = some (.ok (.str f) ρ) := by subst hρ; rfl
  have v4 : mVar 4 ρ = some (.ok (.str [y]) ρ) := by subst hρ; rfl
  have sl : mSl (mVar 2) (mPart (mU negD (M.ret (.int 1)))) mNoPart ρ = some (.ok (.str (match f.getLast? with | none => [] | some b => [b])) ρ) := by
    unfold mSl mPart mNoPart
    rw [bnd_ok v2, bnd_ok (a := some (-1 : Int)) (ρ1 := ρ) (by rw [bnd_ok (a := .int (-1)) (ρ1 := ρ) (mU_ok (ma := M.ret (.int 1)) (ρ := ρ) rfl rfl)]; rfl), bnd_ok (a := none) (ρ1 := ρ) rfl]
    unfold lift Tk.cutD
    dsimp only
    rw [if_pos (Nat.le_trans (Nat.le_trans hl (by decide)) m_sz), cut_last]
  have al : asc (match f.getLast? with | none => [] | some b => [b]) = true := by
    cases g : f.getLast? with
    | none => rfl
    | some b => exact asc1 (ltr_asc (List.all_eq_true.mp hf b (List.mem_of_getLast? g)))
  have t := tb_ok (mB_ok sl (call_1 kB v4 (lsb_l hy)) (neX_str al (asc1 (sbk_asc (ltr_asc hy)))))
  by_cases q : (match f.getLast? with | none => [] | some b => [b]) = [sbk y]
  · have q' : (!((match f.getLast? with | none => [] | some b => [b]) == [sbk y])) = false := by rw [q]; simp
    rw [q'] at t
    exact ⟨p2, f, .pu (.str [y]), (sq_ok s1).trans ((sq_ok s2).trans ((ifS_f t).trans (by subst hρ; rfl))), q2, hf, hh, by omega, .inr ⟨_, rfl⟩⟩
  · have q' : (!((match f.getLast? with | none => [] | some b => [b]) == [sbk y])) = true := by simpa using q
    rw [q'] at t
    refine ⟨p2, f ++ [y], .pu (.str [y]), (sq_ok s1).trans ((sq_ok s2).trans ((ifS_t t).trans (asg_ok (mB_ok v2 v4 (add_str (by simp; omega))) (by subst hρ; rfl)))), q2, by rw [all_app]; exact ⟨hf, by simp [hy]⟩, ?_, by simp, .inr ⟨_, rfl⟩⟩
    rw [hist_snoc]
    refine ⟨hh, fun b g z => q ?_⟩
    rw [g, ← z]
theorem history_sem {m : Nat} {p : D} {mo : Nat} (h : Pur m p) (hmo : mo ≤ 20) (hm : m + 50 ≤ 1000000000) : ∃ (s : List Nat) (p' : D), F__law_history.sem [p, .int mo] = some (.ret (.str s) [p']) ∧ Pur (m + 50) p' ∧ s.length ≤ 20 ∧ s.all ltr = true ∧ hist s = true := by
  have s1 : asg (M.ret (.str [])) (gN 2) [.ow true p, .pu (.int mo), .un, .un, .un] = some (.nx [.ow true p, .pu (.int mo), .pu (.str []), .un, .un]) := rfl
  obtain ⟨k1, p1, e1, l1, u1, q1⟩ := draw_ok (i := 0) (b := true) (ρ := [.ow true p, .pu (.int mo), .pu (.str []), .un, .un]) rfl (mB_ok (f := addD) (ma := mVar 1) (mb := M.ret (.int 1)) rfl rfl rfl) rfl h (by omega) (n := (mo : Int) + 1) (by omega) (by omega)
  obtain ⟨ρ2, lp, p2, f2, c3, c4, j2, rfl, g1, g2, g3, g4, g5, g6⟩ := forL_inv (step := fun d => gS (gN 3) d fb__law_history_0) (fun its ρ => ∃ (p2 : D) (f : List Nat) (c3 c4 : Cell) (j : Nat), ρ = [.ow true p2, .pu (.int mo), .pu (.str f), c3, c4] ∧ Pur (m + 1 + 2 * j) p2 ∧ f.length ≤ j ∧ j + its.length ≤ 20 ∧ f.all ltr = true ∧ hist f = true ∧ (Pl c3 ∧ Pl c4))
    (fun d rest ρ ⟨p2, f, c3, c4, j, e, g1, g2, g3, g4, g5, g6, g7⟩ => by
      subst e
      rw [List.length_cons] at g3
      obtain ⟨p', f', c4', t1, t2, t3, t4, t5, t6⟩ := hist_turn (mo := .int mo) (c3 := .pu d) g1 (by omega) g4 g5 (by omega) g7
      refine ⟨_, .inl ((gS_ok (ρ1 := [.ow true p2, .pu (.int mo), .pu (.str f), .pu d, c4]) (by rcases g6 with rfl | ⟨z, rfl⟩ <;> rfl)).trans t1), p', f', .pu d, c4', j + 1, rfl, t2.more (by omega), by omega, by omega, t3, t4, .inr ⟨_, rfl⟩, t6⟩)
    (intsD 0 k1.toNat) [.ow true p1, .pu (.int mo), .pu (.str []), .un, .un] ⟨p1, [], .un, .un, 0, rfl, q1, Nat.le_refl _, by unfold intsD; rw [List.length_map, List.length_range]; omega, rfl, rfl, .inl rfl, .inl rfl⟩
  have s3 : fr__law_history_0 [.ow true p, .pu (.int mo), .pu (.str []), .un, .un] = some (.nx [.ow true p2, .pu (.int mo), .pu (.str f2), c3, c4]) := (for_ok (rng_ok e1 (by omega))).trans lp
  exact ⟨f2, p2, run_rt ((sq_ok s1).trans ((sq_ok s3).trans (ret_ok (m := mVar 2) rfl))) rfl, g1.more (by simp at g3; omega), by simp at g3; omega, g4, g5⟩
theorem strk_mid (p w q : List Nat) (hw : w.all ltr = true) (h : strk w = []) : strk (p ++ w ++ q) = strk (p ++ q) := by
  rw [← strk_l, ← strk_r p w hw, h, List.append_nil, strk_l]
theorem strk_ba (p a q : List Nat) (ha : a.all ltr = true) : strk (p ++ (bak a ++ a) ++ q) = strk (p ++ q) := by
  have i := strk_inv (bak a) (bak_ltr ha)
  rw [bak_bak ha] at i
  exact strk_mid p _ q (by rw [all_app]; exact ⟨bak_ltr ha, ha⟩) i
/-! words that commute; roots of words -/
section
variable {u v w p q z x y : List Nat}
def rp (n : Nat) (x : List Nat) : List Nat := (List.replicate n x).flatten
theorem rp_0 : rp 0 x = [] := rfl
theorem rp_s (n : Nat) (x : List Nat) : rp (n + 1) x = x ++ rp n x := by unfold rp; rw [List.replicate_succ, List.flatten_cons]
theorem rp_1 (x : List Nat) : rp 1 x = x := by rw [rp_s, rp_0, List.append_nil]
theorem rp_add (x : List Nat) : ∀ m n : Nat, rp (m + n) x = rp m x ++ rp n x
  | 0, n => by rw [Nat.zero_add, rp_0, List.nil_append]
  | m + 1, n => by rw [Nat.succ_add, rp_s, rp_s, rp_add x m n, List.append_assoc]
theorem rp_mul (x : List Nat) (m : Nat) : ∀ n : Nat, rp n (rp m x) = rp (n * m) x
  | 0 => by rw [Nat.zero_mul]; rfl
  | n + 1 => by rw [rp_s, rp_mul x m n, ← rp_add, Nat.succ_mul, Nat.add_comm]
theorem rp_len (x : List Nat) : ∀ n : Nat, (rp n x).length = n * x.length
  | 0 => by rw [Nat.zero_mul]; rfl
  | n + 1 => by rw [rp_s, List.length_append, rp_len x n, Nat.succ_mul, Nat.add_comm]
theorem rp_com (h : u ++ v = v ++ u) : ∀ n : Nat, u ++ rp n v = rp n v ++ u
  | 0 => by rw [rp_0, List.append_nil, List.nil_append]
  | n + 1 => by rw [rp_s, ← List.append_assoc, h, List.append_assoc, rp_com h n, List.append_assoc]
/-- two words that commute with a third one, not empty, commute -/
theorem com_tr (hu : u ≠ []) (hp : p ++ u = u ++ p) (hz : z ++ u = u ++ z) : p ++ z = z ++ p := by
  have hl : 0 < u.length := List.length_pos_iff.mpr hu
  obtain ⟨n, big⟩ : ∃ n, p.length + z.length ≤ (rp n u).length := ⟨p.length + z.length, by
    rw [rp_len]
    exact Nat.le_mul_of_pos_right _ hl⟩
  have pre : ∀ {s : List Nat}, s ++ u = u ++ s → s.length ≤ (rp n u).length → (rp n u).take s.length = s := fun {s} h hs => by
    have e := rp_com h n
    have := congrArg (List.take s.length) e
    rw [List.take_left, List.take_append_of_le_length hs] at this
    exact this.symm
  have two : ∀ {s t : List Nat}, s ++ u = u ++ s → t ++ u = u ++ t → s.length + t.length ≤ (rp n u).length → (rp n u).take (s.length + t.length) = s ++ t := fun {s t} h1 h2 hl => by
    have e := rp_com h1 n
    have t1 := pre h2 (by omega)
    have a1 := congrArg (List.take (s.length + t.length)) e
    rw [List.take_length_add_append, List.take_append_of_le_length hl, t1] at a1
    exact a1.symm
  have e1 := two hp hz big
  have e2 := two hz hp (by omega)
  rw [Nat.add_comm] at e2
  exact e1.symm.trans e2
/-- two words that commute are powers of one -/
theorem com_pow : ∀ (n : Nat) {u v : List Nat}, u.length + v.length ≤ n → u ≠ [] → v ≠ [] → u ++ v = v ++ u → ∃ (z : List Nat) (a b : Nat), z ≠ [] ∧ u = rp a z ∧ v = rp b z ∧ 1 ≤ a ∧ 1 ≤ b
  | 0, u, v, hn, hu, hv, h => absurd (List.length_eq_zero_iff.mp (by omega)) hu
  | n + 1, u, v, hn, hu, hv, h => by
    have hl : 0 < u.length := List.length_pos_iff.mpr hu
    have hm : 0 < v.length := List.length_pos_iff.mpr hv
    have key : ∀ {u v : List Nat}, u.length + v.length ≤ n + 1 → u ≠ [] → v ≠ [] → u ++ v = v ++ u → u.length ≤ v.length → ∃ (z : List Nat) (a b : Nat), z ≠ [] ∧ u = rp a z ∧ v = rp b z ∧ 1 ≤ a ∧ 1 ≤ b := by
      intro u v hn hu hv h hle
      have hl : 0 < u.length := List.length_pos_iff.mpr hu
      obtain ⟨w, hw⟩ : ∃ w, v = u ++ w := by
        have e := congrArg (List.take u.length) h
        rw [List.take_left, List.take_append_of_le_length hle] at e
        exact ⟨v.drop u.length, by conv => lhs; rw [← List.take_append_drop u.length v, ← e]⟩
      subst hw
      by_cases ww : w = []
      · subst ww
        exact ⟨u, 1, 1, hu, (rp_1 u).symm, by rw [rp_1, List.append_nil], Nat.le_refl _, Nat.le_refl _⟩
      · rw [List.append_assoc] at h
        have h2 := List.append_cancel_left h
        rw [List.length_append] at hn
        obtain ⟨z, a, b, h3, h4, h5, h6, h7⟩ := com_pow n (u := u) (v := w) (by omega) hu ww h2
        exact ⟨z, a, a + b, h3, h4, by rw [rp_add, ← h4, ← h5], h6, by omega⟩
    by_cases hle : u.length ≤ v.length
    · exact key hn hu hv h hle
    · obtain ⟨z, a, b, h3, h4, h5, h6, h7⟩ := key (by omega) hv hu h.symm (by omega)
      exact ⟨z, b, a, h3, h5, h4, h7, h6⟩
theorem rp_self (x : List Nat) (n : Nat) : x ++ rp n x = rp n x ++ x := rp_com rfl n
theorem rp_ne {n : Nat} (h : 1 ≤ n) (hx : x ≠ []) : rp n x ≠ [] := fun z => by
  have e := congrArg List.length z
  rw [rp_len] at e
  have := List.length_pos_iff.mpr hx
  have : 0 < n * x.length := Nat.mul_pos h this
  simp at e; omega
theorem rp_pos {n : Nat} (h : rp n x ≠ []) : 1 ≤ n ∧ x ≠ [] := by
  constructor
  · cases n with
    | zero => exact absurd rfl h
    | succ n => omega
  · rintro rfl
    refine h ?_
    unfold rp
    induction n with
    | zero => rfl
    | succ n ih => rw [List.replicate_succ, List.flatten_cons, List.nil_append]; exact ih (by simpa [rp] using h)
/-- p is the root of u -/
structure Rt (u p : List Nat) : Prop where
  ne : p ≠ []
  ex : ∃ k, 1 ≤ k ∧ u = rp k p
  least : ∀ (z : List Nat) (a : Nat), u = rp a z → p.length ≤ z.length
theorem Rt.une (h : Rt u p) : u ≠ [] := by
  obtain ⟨k, h1, rfl⟩ := h.ex
  exact rp_ne h1 h.ne
/-- what u is a power of is a power of its root -/
theorem Rt.pow (h : Rt u p) {a : Nat} (e : u = rp a z) : ∃ m, 1 ≤ m ∧ z = rp m p := by
  obtain ⟨k, k1, hk⟩ := h.ex
  have une := h.une
  have zne : z ≠ [] := (rp_pos (by rw [← e]; exact une)).2
  have c1 : p ++ u = u ++ p := by rw [hk]; exact rp_self p k
  have c2 : z ++ u = u ++ z := by rw [e]; exact rp_self z a
  obtain ⟨y, i, j, y1, y2, y3, y4, y5⟩ := com_pow _ (Nat.le_refl _) h.ne zne (com_tr une c1 c2)
  have hl := h.least y (k * i) (by rw [hk, y2, rp_mul])
  have e2 := congrArg List.length y2
  rw [rp_len] at e2
  have hy := List.length_pos_iff.mpr y1
  have i1 : i = 1 := by
    rw [e2] at hl
    have : i * y.length ≤ 1 * y.length := by omega
    have := Nat.le_of_mul_le_mul_right this hy
    omega
  subst i1
  rw [rp_1] at y2
  subst y2
  exact ⟨j, y5, y3⟩
theorem Rt.one (h : Rt u p) (g : Rt u q) : p = q := by
  obtain ⟨k, k1, hk⟩ := h.ex
  obtain ⟨l, l1, hl⟩ := g.ex
  obtain ⟨m, m1, e1⟩ := h.pow hl
  obtain ⟨n, n1, e2⟩ := g.pow hk
  have a1 := congrArg List.length e1
  have a2 := congrArg List.length e2
  rw [rp_len] at a1 a2
  have hp := List.length_pos_iff.mpr h.ne
  have : m = 1 := by
    have h1 : p.length = n * (m * p.length) := by rw [← a1]; exact a2
    have h2 : m * p.length ≤ n * (m * p.length) := Nat.le_mul_of_pos_left _ n1
    have h3 : m * p.length ≤ 1 * p.length := by omega
    have := Nat.le_of_mul_le_mul_right h3 hp
    omega
  rw [this, rp_1] at e1
  exact e1.symm
/-- words that commute have one root -/
theorem Rt.com (h : Rt u p) (g : Rt v q) (e : u ++ v = v ++ u) : p = q ∧ ∃ j, 1 ≤ j ∧ v = rp j p := by
  obtain ⟨z, a, b, z1, z2, z3, z4, z5⟩ := com_pow _ (Nat.le_refl _) h.une g.une e
  obtain ⟨m, m1, e1⟩ := h.pow z2
  obtain ⟨n, n1, e2⟩ := g.pow z3
  have hv : v = rp (b * m) p := by rw [z3, e1, rp_mul]
  obtain ⟨i, i1, e3⟩ := g.pow hv
  have hu : u = rp (a * n) q := by rw [z2, e2, rp_mul]
  obtain ⟨j, j1, e4⟩ := h.pow hu
  have a1 := congrArg List.length e3
  have a2 := congrArg List.length e4
  rw [rp_len] at a1 a2
  have hq := List.length_pos_iff.mpr g.ne
  have : i = 1 := by
    have h1 : q.length = j * (i * q.length) := by rw [← a1]; exact a2
    have h2 : i * q.length ≤ j * (i * q.length) := Nat.le_mul_of_pos_left _ j1
    have h3 : i * q.length ≤ 1 * q.length := by omega
    have := Nat.le_of_mul_le_mul_right h3 hq
    omega
  rw [this, rp_1] at e3
  exact ⟨e3, b * m, Nat.mul_pos z5 m1, hv⟩
/-- a power has the same root -/
theorem Rt.rp (h : Rt u p) {j : Nat} (hj : 1 ≤ j) : Rt (rp j p) p := by
  refine ⟨h.ne, ⟨j, hj, rfl⟩, fun z a e => ?_⟩
  obtain ⟨k, k1, hk⟩ := h.ex
  have zne : z ≠ [] := (rp_pos (by rw [← e]; exact rp_ne hj h.ne)).2
  have c1 : p ++ Lw.rp j p = Lw.rp j p ++ p := rp_self p j
  have c2 : z ++ Lw.rp j p = Lw.rp j p ++ z := by rw [e]; exact rp_self z a
  have c3 := com_tr (rp_ne hj h.ne) c1 c2
  have c4 : z ++ u = u ++ z := by rw [hk]; exact rp_com c3.symm k
  have c5 : p ++ u = u ++ p := by rw [hk]; exact rp_self p k
  obtain ⟨y, i, l, y1, y2, y3, y4, y5⟩ := com_pow _ (Nat.le_refl _) h.ne zne c3
  have hl := h.least y (k * i) (by rw [hk, y2, rp_mul])
  have e2 := congrArg List.length y3
  rw [rp_len] at e2
  have : 1 * y.length ≤ l * y.length := Nat.mul_le_mul_right _ y5
  omega
theorem rt_ex (hu : u ≠ []) : ∃ p, Rt u p := by
  have key : ∀ n, (∃ z a, u = rp a z ∧ z.length ≤ n) → ∃ p, Rt u p := by
    intro n
    induction n with
    | zero =>
      rintro ⟨z, a, e, hz⟩
      have z0 : z = [] := List.length_eq_zero_iff.mp (by omega)
      exact absurd z0 (rp_pos (by rw [← e]; exact hu)).2
    | succ n ih =>
      rintro ⟨z, a, e, hz⟩
      by_cases h : ∃ z a, u = rp a z ∧ z.length ≤ n
      · exact ih h
      · refine ⟨z, (rp_pos (by rw [← e]; exact hu)).2, ⟨a, (rp_pos (by rw [← e]; exact hu)).1, e⟩, fun y b e2 => ?_⟩
        by_cases h2 : y.length ≤ n
        · exact absurd ⟨y, b, e2, h2⟩ h
        · omega
  exact key u.length ⟨u, 1, (rp_1 u).symm, Nat.le_refl _⟩
/-- the root by the least size -/
theorem per_rt {s : Nat} (hs : 0 < s) (h1 : x.length = s * (x.length / s)) (h2 : rp (x.length / s) (x.take s) = x) (hx : x ≠ []) (hm : ∀ t, 0 < t → t < s → ¬ (x.length = t * (x.length / t) ∧ rp (x.length / t) (x.take t) = x)) : Rt x (x.take s) := by
  have hl := List.length_pos_iff.mpr hx
  have k1 : 1 ≤ x.length / s := by
    cases z : x.length / s with
    | zero => rw [z] at h1; omega
    | succ n => omega
  have sl : s ≤ x.length := by
    have : s * 1 ≤ s * (x.length / s) := Nat.mul_le_mul_left s k1
    omega
  have tl : (x.take s).length = s := by rw [List.length_take]; omega
  refine ⟨fun z => ?_, ⟨x.length / s, k1, h2.symm⟩, fun z a e => ?_⟩
  · rw [z] at tl; simp at tl; omega
  · rw [tl]
    obtain ⟨a1, zne⟩ := rp_pos (by rw [← e]; exact hx : rp a z ≠ [])
    have hz := List.length_pos_iff.mpr zne
    by_cases hlt : z.length < s
    · refine absurd ⟨?_, ?_⟩ (hm z.length hz hlt)
      · rw [e, rp_len, Nat.mul_div_cancel _ hz, Nat.mul_comm]
      · have d : x.length / z.length = a := by rw [e, rp_len, Nat.mul_div_cancel _ hz]
        rw [d]
        have tk : x.take z.length = z := by
          obtain ⟨b, rfl⟩ : ∃ b, a = b + 1 := ⟨a - 1, by omega⟩
          rw [e, rp_s, List.take_left]
        rw [tk, ← e]
    · omega
end
/-! roots in the group of histories -/
theorem rp_ltr {x : List Nat} (h : x.all ltr = true) : ∀ n : Nat, (rp n x).all ltr = true
  | 0 => rfl
  | n + 1 => by rw [rp_s, all_app]; exact ⟨h, rp_ltr h n⟩
theorem bak_rp (x : List Nat) : ∀ n : Nat, bak (rp n x) = rp n (bak x)
  | 0 => rfl
  | n + 1 => by
    rw [rp_s, bak_app, bak_rp x n]
    have e := rp_add (bak x) n 1
    rw [rp_1] at e
    exact e.symm
theorem Rt.bak {u p : List Nat} (h : Rt u p) (hu : u.all ltr = true) (hp : p.all ltr = true) : Rt (Lw.bak u) (Lw.bak p) := by
  obtain ⟨k, k1, hk⟩ := h.ex
  have bl : ∀ y : List Nat, (Lw.bak y).length = y.length := fun y => by unfold Lw.bak; rw [List.length_map, List.length_reverse]
  refine ⟨fun z => h.ne (by have e := bl p; rw [z] at e; exact List.length_eq_zero_iff.mp e.symm), ⟨k, k1, by rw [hk, bak_rp]⟩, fun z a e => ?_⟩
  rw [bl]
  have e2 : u = Lw.rp a (Lw.bak z) := by rw [← bak_rp, ← e, bak_bak hu]
  have := h.least _ _ e2
  rwa [bl] at this
/-- cyclically without taking back -/
structure CR (x : List Nat) : Prop where
  ne : x ≠ []
  al : x.all ltr = true
  hi : hist x = true
  cy : ∀ a b, x.head? = some a → x.getLast? = some b → a ≠ sbk b
theorem strk_same {s : List Nat} (h : (strk s).length = s.length) : strk s = s := by
  have key : ∀ (s kept : List Nat), (s.foldl stk kept).length = kept.length + s.length → s.foldl stk kept = kept ++ s := by
    intro s
    induction s with
    | nil => intro kept _; simp
    | cons c s ih =>
      intro kept e
      rw [List.foldl_cons] at e ⊢
      have l1 := fold_stk_len s (stk kept c)
      have l2 := stk_len kept c
      rw [List.length_cons] at e
      have l3 : (stk kept c).length = kept.length + 1 := by omega
      have e3 : stk kept c = kept ++ [c] := by
        unfold stk at l3 ⊢
        by_cases z : kept.getLast? = some (sbk c)
        · rw [if_pos z, List.length_dropLast] at l3; omega
        · rw [if_neg z]
      rw [ih _ (by rw [l3]; omega), e3, List.append_assoc]; rfl
  exact key s [] (by simpa [strk] using h)
theorem hist_of_strk {s : List Nat} (h : strk s = s) : hist s = true := by rw [← h]; exact strk_hist s
/-- a word and a history that commute in the group, no letters struck out between them, commute as words -/
theorem com_words {x w : List Nat} (h : hist (x ++ w) = true) (e : strk (x ++ w) = strk (w ++ x)) : x ++ w = w ++ x := by
  have h1 := strk_red h
  have h2 : strk (w ++ x) = w ++ x := strk_same (by rw [← e, h1, List.length_append, List.length_append, Nat.add_comm])
  rw [← h1, e, h2]
theorem head_bak {x : List Nat} : (bak x).head? = x.getLast?.map sbk := by
  unfold bak
  rw [List.head?_map, List.head?_reverse]
theorem last_bak {x : List Nat} : (bak x).getLast? = x.head?.map sbk := by
  unfold bak
  rw [List.getLast?_map, List.getLast?_reverse]
theorem CR.bak {x : List Nat} (h : CR x) : CR (bak x) := by
  have bl : (Lw.bak x).length = x.length := by unfold Lw.bak; rw [List.length_map, List.length_reverse]
  refine ⟨fun z => h.ne (by rw [z] at bl; exact List.length_eq_zero_iff.mp bl.symm), bak_ltr h.al, bak_hist x h.al h.hi, fun a b e1 e2 => ?_⟩
  rw [head_bak] at e1
  rw [last_bak] at e2
  obtain ⟨l, hl, rfl⟩ := map_inv e1
  obtain ⟨f, hf, rfl⟩ := map_inv e2
  have fl := List.all_eq_true.mp h.al f (List.mem_of_head? hf)
  have ll := List.all_eq_true.mp h.al l (List.mem_of_getLast? hl)
  rw [sbk_sbk fl]
  intro z
  exact h.cy f l hf hl z.symm
theorem mid_at {u : List Nat} {m : Nat} (h : 2 * m < u.length) : (mid u m).head? = u[m]? ∧ (mid u m).getLast? = u[u.length - 1 - m]? ∧ (mid u m).length = u.length - 2 * m := by
  have hl : (mid u m).length = u.length - 2 * m := by unfold mid; rw [List.length_take, List.length_drop]; omega
  refine ⟨?_, ?_, hl⟩
  · rw [List.head?_eq_getElem?]
    unfold mid
    rw [List.getElem?_take, if_pos (by omega), List.getElem?_drop, Nat.add_zero]
  · rw [List.getLast?_eq_getElem?, hl]
    unfold mid
    rw [List.getElem?_take, if_pos (by omega), List.getElem?_drop]
    congr 1; omega
theorem cr_mid {u : List Nat} {m : Nat} (hu : u ≠ []) (ha : u.all ltr = true) (hh : hist u = true) (H : Hv u m) : CR (mid u m) := by
  have sp := H.split ha
  have hle := Hv.le H.1
  have al : (mid u m).all ltr = true := ltr_mid ha m
  have h1 : hist (u.take m ++ mid u m ++ bak (u.take m)) = true := by rw [← sp]; exact hh
  have h2 := ((hist_app _ _).mp h1).1
  have h3 := ((hist_app _ _).mp h2).2.1
  have lt : 2 * m < u.length := by
    by_cases z : 2 * m < u.length
    · exact z
    · exfalso
      have e : mid u m = [] := List.length_eq_zero_iff.mp (by unfold mid; rw [List.length_take]; omega)
      rw [e, List.append_nil] at h1
      have h4 := ((hist_app _ _).mp h1).2.2
      cases g : (u.take m).getLast? with
      | none =>
        have : u.take m = [] := List.getLast?_eq_none_iff.mp g
        rw [e, this] at sp
        exact hu sp
      | some c =>
        have lc := List.all_eq_true.mp (ltr_take ha m) c (List.mem_of_getLast? g)
        exact h4 c (sbk c) g (by rw [head_bak, g]; rfl) (sbk_sbk lc).symm
  obtain ⟨e1, e2, e3⟩ := mid_at lt
  refine ⟨fun z => by rw [z] at e3; simp at e3; omega, al, h3, fun a b ea eb z => ?_⟩
  rw [e1] at ea
  rw [e2] at eb
  by_cases l1 : 2 * m + 1 < u.length
  · exact H.2 ⟨l1, by rw [ea, eb, z]; rfl⟩
  · have : u.length - 1 - m = m := by omega
    rw [this, ea] at eb
    cases eb
    exact sbk_ne (List.all_eq_true.mp ha a (List.mem_of_getElem? ea)) z.symm
/-- first and last letter of a power -/
theorem rp_ends {p : List Nat} (hp : p ≠ []) : ∀ {n : Nat}, 1 ≤ n → (rp n p).head? = p.head? ∧ (rp n p).getLast? = p.getLast?
  | 1, _ => by rw [rp_1]; exact ⟨rfl, rfl⟩
  | n + 2, _ => by
    have i := rp_ends hp (n := n + 1) (by omega)
    constructor
    · rw [rp_s, List.head?_append]
      cases p with
      | nil => exact absurd rfl hp
      | cons a r => rfl
    · rw [rp_s, List.getLast?_append, i.2]
      cases e : p.getLast? with
      | none => exact absurd (List.getLast?_eq_none_iff.mp e) hp
      | some b => rfl
theorem CR.of_rp {p : List Nat} {n : Nat} (hn : 1 ≤ n) (hp : p ≠ []) (h : CR (rp n p)) : CR p := by
  obtain ⟨e1, e2⟩ := rp_ends hp hn
  obtain ⟨n, rfl⟩ : ∃ k, n = k + 1 := ⟨n - 1, by omega⟩
  have a := h.al
  have b := h.hi
  rw [rp_s] at a b
  exact ⟨hp, (all_app.mp a).1, ((hist_app _ _).mp b).1, fun x y h1 h2 => h.cy x y (e1.trans h1) (e2.trans h2)⟩
theorem CR.rp {p : List Nat} (h : CR p) : ∀ {n : Nat}, 1 ≤ n → CR (Lw.rp n p)
  | 1, _ => by rw [rp_1]; exact h
  | n + 2, _ => by
    have i := CR.rp h (n := n + 1) (by omega)
    obtain ⟨e1, e2⟩ := rp_ends h.ne (n := n + 2) (by omega)
    obtain ⟨f1, _⟩ := rp_ends h.ne (n := n + 1) (by omega)
    refine ⟨rp_ne (by omega) h.ne, rp_ltr h.al _, ?_, fun a b h1 h2 => h.cy a b (e1 ▸ h1) (e2 ▸ h2)⟩
    rw [rp_s, hist_app]
    refine ⟨h.hi, i.hi, fun b c hb hc => ?_⟩
    rw [f1] at hc
    intro z
    have lb := List.all_eq_true.mp h.al b (List.mem_of_getLast? hb)
    have lc := List.all_eq_true.mp h.al c (List.mem_of_head? hc)
    exact h.cy c b hc hb (by rw [z, sbk_sbk lc])
/-- a ++ p^n ++ a back has no letters struck out just if a ++ p ++ a back has none -/
theorem hist_pow {a p : List Nat} (h : CR p) {n m : Nat} (hn : 1 ≤ n) (hm : 1 ≤ m) (hh : hist (a ++ Lw.rp n p ++ bak a) = true) : hist (a ++ Lw.rp m p ++ bak a) = true := by
  obtain ⟨e1, e2⟩ := rp_ends h.ne hn
  obtain ⟨f1, f2⟩ := rp_ends h.ne hm
  rw [hist_app, hist_app] at hh ⊢
  obtain ⟨⟨h1, _, h3⟩, h4, h5⟩ := hh
  have ne1 := rp_ne hn h.ne
  have ne2 := rp_ne hm h.ne
  have la : ∀ {w : List Nat}, w ≠ [] → (a ++ w).getLast? = w.getLast? := fun {w} hw => by
    rw [List.getLast?_append]
    cases e : w.getLast? with
    | none => exact absurd (List.getLast?_eq_none_iff.mp e) hw
    | some b => rfl
  refine ⟨⟨h1, (h.rp hm).hi, fun b c hb hc => h3 b c hb (by rw [e1, ← f1]; exact hc)⟩, h4, fun b c hb hc => h5 b c ?_ hc⟩
  rw [la ne2, f2, ← e2, ← la ne1] at hb
  exact hb
theorem hist_flip {a p : List Nat} (ha : a.all ltr = true) (h : CR p) (hh : hist (a ++ p ++ bak a) = true) : hist (a ++ bak p ++ bak a) = true := by
  have e := bak_hist (a ++ p ++ bak a) (by rw [all_app, all_app]; exact ⟨⟨ha, h.al⟩, bak_ltr ha⟩) hh
  rw [bak_app, bak_app, bak_bak ha, ← List.append_assoc] at e
  exact e
/-! histories that commute have one root, or roots that are each other's way back -/
theorem bak_len (y : List Nat) : (bak y).length = y.length := by unfold bak; rw [List.length_map, List.length_reverse]
theorem mid_conj (a x : List Nat) : mid (a ++ x ++ bak a) a.length = x := by
  unfold mid
  rw [List.append_assoc, List.drop_left, List.length_append, List.length_append, bak_len]
  rw [show a.length + (x.length + a.length) - 2 * a.length = x.length by omega, List.take_left]
theorem take_conj (a x : List Nat) : (a ++ x ++ bak a).take a.length = a := by rw [List.append_assoc, List.take_left]
theorem hv_mk {a x : List Nat} (ha : a.all ltr = true) (h : CR x) : Hv (a ++ x ++ bak a) a.length := by
  have hx := List.length_pos_iff.mpr h.ne
  have ll : (a ++ x ++ bak a).length = a.length + x.length + a.length := by rw [List.length_append, List.length_append, bak_len]
  constructor
  · intro i hi
    refine ⟨by omega, ?_⟩
    rw [ll, List.append_assoc, List.getElem?_append_left hi, ← List.append_assoc, List.getElem?_append_right (by rw [List.length_append]; omega), List.length_append]
    have e : a.length + x.length + a.length - 1 - i - (a.length + x.length) = a.length - 1 - i := by omega
    rw [e]
    unfold bak
    rw [List.getElem?_map, List.getElem?_reverse (by omega), show a.length - 1 - (a.length - 1 - i) = i by omega, List.getElem?_eq_getElem hi]
    have lc := List.all_eq_true.mp ha a[i] (List.getElem_mem hi)
    simp [sbk_sbk lc]
  · rintro ⟨h1, h2⟩
    obtain ⟨e1, e2, _⟩ := mid_at (u := a ++ x ++ bak a) (m := a.length) (by omega)
    rw [mid_conj] at e1 e2
    rw [← e1, ← e2] at h2
    cases g : x.getLast? with
    | none => exact h.ne (List.getLast?_eq_none_iff.mp g)
    | some b => rw [g] at h2; exact h.cy _ b h2 g rfl
/-- to commute in the group -/
def Cg (x y : List Nat) : Prop := strk (x ++ y) = strk (y ++ x)
theorem Cg.symm {x y : List Nat} (h : Cg x y) : Cg y x := Eq.symm h
theorem Cg.rp {x y : List Nat} (hx : x.all ltr = true) (hy : y.all ltr = true) (h : Cg x y) : ∀ n : Nat, Cg (Lw.rp n x) y
  | 0 => by unfold Cg; rw [rp_0, List.append_nil, List.nil_append]
  | n + 1 => by
    have i := Cg.rp hx hy h n
    unfold Cg at *
    have lr := rp_ltr hx n
    rw [rp_s, List.append_assoc, ← strk_r x (Lw.rp n x ++ y) (by rw [all_app]; exact ⟨lr, hy⟩), i, strk_r x _ (by rw [all_app]; exact ⟨hy, lr⟩), ← List.append_assoc, ← strk_l, h, strk_l, List.append_assoc]
theorem Cg.bak {x : List Nat} (hx : x.all ltr = true) : Cg x (Lw.bak x) := by
  unfold Cg
  have i := strk_inv (Lw.bak x) (bak_ltr hx)
  rw [bak_bak hx] at i
  rw [strk_inv x hx, i]
theorem Cg.strk {x y : List Nat} (hy : y.all ltr = true) (hx : x.all ltr = true) (h : Cg x y) : Cg (Lw.strk x) (Lw.strk y) := by
  unfold Cg at *
  rw [strk_l, strk_r _ _ hy, strk_l, strk_r _ _ hx, h]
theorem Cg.bak2 {x y : List Nat} (hx : x.all ltr = true) (hy : y.all ltr = true) (h : Cg x y) : Cg (Lw.bak x) y := by
  unfold Cg at *
  have bx := bak_ltr hx
  have e1 : Lw.strk (Lw.bak x ++ y) = Lw.strk (Lw.bak x ++ (y ++ x) ++ Lw.bak x) := by
    rw [show Lw.bak x ++ (y ++ x) ++ Lw.bak x = Lw.bak x ++ y ++ (x ++ Lw.bak x) ++ [] by simp]
    rw [strk_mid _ _ [] (by rw [all_app]; exact ⟨hx, bx⟩) (strk_inv x hx), List.append_nil]
  rw [e1, ← strk_l, ← strk_r (Lw.bak x) (y ++ x) (by rw [all_app]; exact ⟨hy, hx⟩), ← h, strk_r _ _ (by rw [all_app]; exact ⟨hx, hy⟩), strk_l]
  rw [show Lw.bak x ++ (x ++ y) ++ Lw.bak x = [] ++ (Lw.bak x ++ x) ++ (y ++ Lw.bak x) by simp, strk_ba _ _ _ hx, List.nil_append]
theorem strk_conj {a p : List Nat} (ha : a.all ltr = true) (hp : p.all ltr = true) : ∀ n : Nat, strk (rp n (a ++ p ++ bak a)) = strk (a ++ rp n p ++ bak a)
  | 0 => by rw [rp_0, rp_0, List.append_nil, strk_inv a ha]; rfl
  | n + 1 => by
    have ba := bak_ltr ha
    have lr := rp_ltr hp n
    have lR : (a ++ p ++ bak a).all ltr = true := by rw [all_app, all_app]; exact ⟨⟨ha, hp⟩, ba⟩
    rw [rp_s, ← strk_r _ _ (rp_ltr lR n), strk_conj ha hp n, strk_r _ _ (by rw [all_app, all_app]; exact ⟨⟨ha, lr⟩, ba⟩)]
    rw [show a ++ p ++ bak a ++ (a ++ rp n p ++ bak a) = a ++ p ++ (bak a ++ a) ++ (rp n p ++ bak a) by simp, strk_ba _ _ _ ha, rp_s]
    simp
/-- the root of a history -/
structure Root (u : List Nat) (m : Nat) (p : List Nat) : Prop where
  al : u.all ltr = true
  hi : hist u = true
  ne : u ≠ []
  hv : Hv u m
  rt : Rt (mid u m) p
def rootOf (u : List Nat) (m : Nat) (p : List Nat) : List Nat := u.take m ++ p ++ bak (u.take m)
section
variable {u v p q : List Nat} {m n : Nat}
theorem Root.cr (h : Root u m p) : CR (mid u m) := cr_mid h.ne h.al h.hi h.hv
theorem Root.ex (h : Root u m p) : ∃ k, 1 ≤ k ∧ mid u m = rp k p ∧ u = u.take m ++ rp k p ++ bak (u.take m) := by
  obtain ⟨k, k1, hk⟩ := h.rt.ex
  refine ⟨k, k1, hk, ?_⟩
  rw [← hk]
  exact h.hv.split h.al
theorem Root.crp (h : Root u m p) : CR p := by
  obtain ⟨k, k1, hk, _⟩ := h.ex
  have := h.cr
  rw [hk] at this
  exact this.of_rp k1 h.rt.ne
theorem Root.ltr (h : Root u m p) : (rootOf u m p).all ltr = true := by
  have ta := ltr_take h.al m
  unfold rootOf
  rw [all_app, all_app]; exact ⟨⟨ta, h.crp.al⟩, bak_ltr ta⟩
theorem Root.hist (h : Root u m p) : hist (rootOf u m p) = true := by
  obtain ⟨k, k1, _, e⟩ := h.ex
  have hh := h.hi
  rw [e] at hh
  have := hist_pow h.crp k1 (Nat.le_refl 1) hh
  rwa [rp_1] at this
/-- a history is a power of its root -/
theorem Root.pow (h : Root u m p) : ∃ k, 1 ≤ k ∧ mid u m = rp k p ∧ u = strk (rp k (rootOf u m p)) := by
  obtain ⟨k, k1, hk, e⟩ := h.ex
  refine ⟨k, k1, hk, ?_⟩
  unfold rootOf
  rw [strk_conj (ltr_take h.al m) h.crp.al, ← e, strk_red h.hi]
theorem com_back (h : Root u m p) (g : Root v n q) (e : rootOf u m p = rootOf v n q ∨ rootOf u m p = bak (rootOf v n q)) : Cg u v := by
  obtain ⟨k, _, _, hu⟩ := h.pow
  obtain ⟨l, _, _, hv⟩ := g.pow
  have lu := h.ltr
  have lv := g.ltr
  have c : Cg (rootOf u m p) (rootOf v n q) := by
    rcases e with e | e
    · rw [e]; rfl
    · rw [e]; exact (Cg.bak lv).symm
  rw [hu, hv]
  exact ((c.rp lu lv k).symm.rp lv (rp_ltr lu k) l).symm.strk (rp_ltr lv l) (rp_ltr lu k)
theorem com_root (h : Root u m p) (g : Root v n q) (c : Cg u v) : rootOf u m p = rootOf v n q ∨ rootOf u m p = bak (rootOf v n q) := by
  obtain ⟨k, k1, hk, e⟩ := h.ex
  have ta := ltr_take h.al m
  have cx := h.cr
  have cp := h.crp
  have rx := h.rt
  have hh := h.hi
  have ua := h.al
  rw [e] at hh
  unfold rootOf
  have uc : u = u.take m ++ mid u m ++ bak (u.take m) := by rw [hk]; exact e
  clear e
  generalize u.take m = a at *
  generalize hx : mid u m = x at *
  have ba := bak_ltr ta
  have lw : (bak a ++ v ++ a).all ltr = true := by rw [all_app, all_app]; exact ⟨⟨ba, g.al⟩, ta⟩
  have w1 := strk_ltr lw
  have w2 := strk_hist (bak a ++ v ++ a)
  have back : v = strk (a ++ strk (bak a ++ v ++ a) ++ bak a) := by
    rw [← strk_l, strk_r _ _ lw, strk_l]
    rw [show a ++ (bak a ++ v ++ a) ++ bak a = [] ++ (a ++ bak a) ++ (v ++ (a ++ bak a)) by simp]
    have i : (a ++ bak a).all ltr = true := by rw [all_app]; exact ⟨ta, ba⟩
    rw [strk_mid _ _ _ i (strk_inv a ta), List.nil_append]
    have z := strk_mid v (a ++ bak a) [] i (strk_inv a ta)
    rw [List.append_nil, List.append_nil] at z
    rw [z, strk_red g.hi]
  have cw : Cg x (strk (bak a ++ v ++ a)) := by
    unfold Cg at *
    have e1 : strk (x ++ strk (bak a ++ v ++ a)) = strk (bak a ++ (u ++ v) ++ a) := by
      rw [strk_r _ _ lw]
      conv => rhs; rw [uc]
      rw [show bak a ++ (a ++ x ++ bak a ++ v) ++ a = [] ++ (bak a ++ a) ++ (x ++ bak a ++ v ++ a) by simp, strk_ba _ _ _ ta]
      simp
    have e2 : strk (strk (bak a ++ v ++ a) ++ x) = strk (bak a ++ (v ++ u) ++ a) := by
      rw [strk_l]
      conv => rhs; rw [uc]
      rw [show bak a ++ (v ++ (a ++ x ++ bak a)) ++ a = bak a ++ v ++ a ++ x ++ (bak a ++ a) ++ [] by simp, strk_ba _ _ _ ta]
      simp
    have uv : (u ++ v).all ltr = true := by rw [all_app]; exact ⟨ua, g.al⟩
    have vu : (v ++ u).all ltr = true := by rw [all_app]; exact ⟨g.al, ua⟩
    rw [e1, e2, ← strk_l, ← strk_r _ _ uv, c, strk_r _ _ vu, strk_l]
  generalize strk (bak a ++ v ++ a) = w at *
  have wn : w ≠ [] := by
    rintro rfl
    rw [List.append_nil, strk_inv a ta] at back
    exact g.ne back
  have xl : x.all ltr = true := cx.al
  have two : ∃ P j, 1 ≤ j ∧ w = rp j P ∧ Rt w P ∧ (P = p ∨ P = bak p) := by
    obtain ⟨P, hP⟩ := rt_ex wn
    by_cases hxw : hist (x ++ w) = true
    · obtain ⟨rfl, j, j1, j2⟩ := Rt.com rx hP (com_words hxw cw)
      exact ⟨p, j, j1, j2, hP, .inl rfl⟩
    · have hb : hist (bak x ++ w) = true := by
        rw [hist_app]
        refine ⟨cx.bak.hi, w2, fun b c hb hc z => hxw ?_⟩
        rw [hist_app]
        refine ⟨cx.hi, w2, fun b' c' hb' hc' z' => ?_⟩
        rw [hc] at hc'
        cases hc'
        rw [last_bak] at hb
        obtain ⟨f, hf, rfl⟩ := map_inv hb
        have lf := List.all_eq_true.mp xl f (List.mem_of_head? hf)
        have lc := List.all_eq_true.mp w1 c (List.mem_of_head? hc)
        refine cx.cy f b' hf hb' ?_
        rw [z', sbk_sbk lc, ← sbk_sbk lf, z, sbk_sbk lc]
      obtain ⟨rfl, j, j1, j2⟩ := Rt.com (rx.bak xl cp.al) hP (com_words hb (cw.bak2 xl w1))
      exact ⟨_, j, j1, j2, hP, .inr rfl⟩
  obtain ⟨P, j, j1, hw, hP, hor⟩ := two
  have cP : CR P := by
    rcases hor with rfl | rfl
    · exact cp
    · exact cp.bak
  have hj : hist (a ++ rp j P ++ bak a) = true := by
    rcases hor with rfl | rfl
    · exact hist_pow cp k1 j1 hh
    · rw [← bak_rp]
      exact hist_flip ta (cp.rp j1) (hist_pow cp k1 j1 hh)
  rw [hw, strk_red hj] at back
  have hv2 := hv_mk ta (cP.rp j1)
  rw [← back] at hv2
  cases g.hv.one hv2
  have tk : v.take a.length = a := by rw [back]; exact take_conj a _
  have md : mid v a.length = w := by rw [back, hw]; exact mid_conj a _
  have gq := g.rt
  rw [md] at gq
  cases gq.one hP
  rw [tk]
  rcases hor with rfl | rfl
  · exact .inl rfl
  · right
    rw [bak_app, bak_app, bak_bak ta, bak_bak cp.al, List.append_assoc]
theorem com_iff (h : Root u m p) (g : Root v n q) : Cg u v ↔ rootOf u m p = rootOf v n q ∨ rootOf u m p = bak (rootOf v n q) := ⟨com_root h g, com_back h g⟩
end
/-! the loop over the sizes -/
theorem intsD_cons {lo : Int} {k : Nat} : intsD lo (k + 1) = .int lo :: intsD (lo + 1) k := by
  unfold intsD
  rw [List.range_succ_eq_map, List.map_cons, List.map_map]
  congr 1
  · simp
  · apply List.map_congr_left
    intro a _
    show D.int (lo + ((a + 1 : Nat) : Int)) = D.int (lo + 1 + a)
    congr 1; omega
/-- x is a power of its first t letters -/
def Per (x : List Nat) (t : Nat) : Prop := x.length = t * (x.length / t) ∧ rp (x.length / t) (x.take t) = x
instance (x : List Nat) (t : Nat) : Decidable (Per x t) := by unfold Per; infer_instance
def cndM : M Bool := mAnd (tb (mB eqX (mC lenD (mCons (mVar 2) (mNil))) (mB mulD (mVar 3) (mB divD (mC lenD (mCons (mVar 2) (mNil))) (mVar 3))))) (tb (mB eqX (mB mulD (mSl (mVar 2) (mNoPart) (mPart (mVar 3))) (mB divD (mC lenD (mCons (mVar 2) (mNil))) (mVar 3))) (mVar 2)))
theorem Per.last {x : List Nat} (h : x ≠ []) : Per x x.length := by
  have hl := List.length_pos_iff.mpr h
  unfold Per
  rw [Nat.div_self hl, Nat.mul_one, rp_1, List.take_length]
  exact ⟨rfl, rfl⟩
theorem per_cond {c0 c1 : Cell} {x : List Nat} {t : Nat} (hx : x.all ltr = true) (hl : x.length ≤ 1000000) (t0 : 0 < t) (t1 : t ≤ x.length) : cndM [c0, c1, .pu (.str x), .pu (.int t)] = some (.ok (decide (Per x t)) [c0, c1, .pu (.str x), .pu (.int t)]) := by
  generalize hρ : ([c0, c1, .pu (.str x), .pu (.int (t : Int))] : Cs) = ρ
  have v2 : mVar 2 ρ = some (.ok (.str x) ρ) := by subst hρ; rfl
  have v3 : mVar 3 ρ = some (.ok (.int t) ρ) := by subst hρ; rfl
  have ln : mC lenD (mCons (mVar 2) mNil) ρ = some (.ok (.int x.length) ρ) := mC_ok (cons_ok v2 nil_ok) (len_str hl)
  have st : Sm 30 (t : Int) := show (t : Int).natAbs < 2 ^ 30 by simp; omega
  have dv : mB divD (mC lenD (mCons (mVar 2) mNil)) (mVar 3) ρ = some (.ok (.int ((x.length / t : Nat) : Int)) ρ) := mB_ok ln v3 (by rw [div_pos (by omega) (Sm.more (j := 30) st (by decide))]; rfl)
  have dl : x.length / t ≤ x.length := Nat.div_le_self _ _
  have md : t * (x.length / t) ≤ x.length := Nat.mul_div_le _ _
  have c1 : tb (mB eqX (mC lenD (mCons (mVar 2) (mNil))) (mB mulD (mVar 3) (mB divD (mC lenD (mCons (mVar 2) (mNil))) (mVar 3)))) ρ = some (.ok ((x.length : Int) == (t : Int) * ((x.length / t : Nat) : Int)) ρ) := tb_ok (mB_ok ln (mB_ok v3 dv (mul_sm (j := 30) (k := 30) st (show ((x.length / t : Nat) : Int).natAbs < 2 ^ 30 by simp only [Int.natAbs_natCast]; omega))) (eqX_int _ _))
  have tk : (x.take t).length = t := by rw [List.length_take]; omega
  have sl : mSl (mVar 2) mNoPart (mPart (mVar 3)) ρ = some (.ok (.str (x.take t)) ρ) := sl_to v2 v3 hl
  have mu : mulD (.str (x.take t)) (.int ((x.length / t : Nat) : Int)) = some (.str (rp (x.length / t) (x.take t))) := by
    show (if _ then _ else _) = _
    have q0 : (0 : Int) ≤ ((x.length / t : Nat) : Int) := Int.natCast_nonneg _
    have q1 : ((x.length / t : Nat) : Int) ≤ x.length := Int.ofNat_le.mpr dl
    have q2 : -(2 ^ 63) ≤ ((x.length / t : Nat) : Int) := Int.le_trans (by decide) q0
    have q3 : ((x.length / t : Nat) : Int) < 2 ^ 39 := Int.lt_of_le_of_lt q1 (by omega)
    rw [if_pos ⟨q2, by rw [Int.toNat_natCast, tk, ← sz]; omega, q3⟩, Int.toNat_natCast]; rfl
  have xa := ltr_all hx
  have ra := ltr_all (rp_ltr (ltr_take hx t) (x.length / t))
  have c2 : tb (mB eqX (mB mulD (mSl (mVar 2) mNoPart (mPart (mVar 3))) (mB divD (mC lenD (mCons (mVar 2) (mNil))) (mVar 3))) (mVar 2)) ρ = some (.ok (rp (x.length / t) (x.take t) == x) ρ) := tb_ok (mB_ok (mB_ok sl dv mu) v2 (eqX_str ra xa))
  unfold cndM mAnd
  rw [bnd_ok c1]
  by_cases e : x.length = t * (x.length / t)
  · have e1 : ((x.length : Int) == (t : Int) * ((x.length / t : Nat) : Int)) = true := by
      rw [beq_iff_eq, ← Int.natCast_mul, ← e]
    rw [e1, if_pos rfl, c2]
    have : decide (Per x t) = (rp (x.length / t) (x.take t) == x) := by
      rw [Bool.eq_iff_iff, decide_eq_true_eq, beq_iff_eq]
      exact ⟨fun h => h.2, fun h => ⟨e, h⟩⟩
    rw [this]
  · have e1 : ((x.length : Int) == (t : Int) * ((x.length / t : Nat) : Int)) = false := by
      rw [beq_eq_false_iff_ne, ← Int.natCast_mul]
      intro z; exact e (by omega)
    have : decide (Per x t) = false := decide_eq_false fun h => e h.1
    rw [e1, this]; rfl
/-- any such loop ends at the root -/
theorem per_loop {c0 c1 : Cell} {x : List Nat} {body : MS} {f : List Nat → Nat → D} (hx : x.all ltr = true) (hl : x.length ≤ 1000000) (hn : x ≠ []) (hb : ∀ t : Nat, 0 < t → t ≤ x.length → (Per x t → body [c0, c1, .pu (.str x), .pu (.int t)] = some (.rt (f (x.take t) (x.length / t)) [c0, c1, .pu (.str x), .pu (.int t)])) ∧ (¬ Per x t → body [c0, c1, .pu (.str x), .pu (.int t)] = some (.nx [c0, c1, .pu (.str x), .pu (.int t)]))) :
    ∀ (n t : Nat) (c3 : Cell), Pl c3 → 0 < t → t + n = x.length + 1 → (∀ j, 0 < j → j < t → ¬ Per x j) → ∃ p k ρ', forL (fun d => gS (gN 3) d body) (intsD (t : Nat) n) [c0, c1, .pu (.str x), c3] = some (.rt (f p k) ρ') ∧ Rt x p ∧ x = rp k p ∧ 1 ≤ k ∧ p.length ≤ x.length ∧ k ≤ x.length
  | 0, t, c3, h3, t0, ht, hm => absurd (Per.last hn) (hm _ (List.length_pos_iff.mpr hn) (by omega))
  | n + 1, t, c3, h3, t0, ht, hm => by
    rw [intsD_cons, forL]
    have g : gN 3 (.int (t : Int)) [c0, c1, .pu (.str x), c3] = some [c0, c1, .pu (.str x), .pu (.int t)] := by rcases h3 with rfl | ⟨d, rfl⟩ <;> rfl
    unfold gS
    rw [g]
    dsimp only
    by_cases hp : Per x t
    · rw [(hb t t0 (by omega)).1 hp]
      have hk : 1 ≤ x.length / t := by
        have := Nat.div_pos (show t ≤ x.length by omega) t0
        omega
      exact ⟨_, _, _, rfl, per_rt t0 hp.1 hp.2 hn hm, hp.2.symm, hk, by rw [List.length_take]; omega, Nat.div_le_self _ _⟩
    · rw [(hb t t0 (by omega)).2 hp]
      dsimp only
      exact per_loop hx hl hn hb n (t + 1) _ (.inr ⟨_, rfl⟩) (by omega) (by omega) (fun j j0 j1 => by
        by_cases e : j = t
        · rw [e]; exact hp
        · exact hm j j0 (by omega))
theorem slen {s : List Nat} (hl : s.length ≤ 1000000) : s.length ≤ sizeLine := by rw [← sz]; omega
theorem rng_to {c0 c1 c3 : Cell} {x : List Nat} (hl : x.length ≤ 1000000) : mRng2 (mCons (M.ret (.int 1)) (mCons (mB addD (mC lenD (mCons (mVar 2) (mNil))) (M.ret (.int 1))) mNil)) [c0, c1, .pu (.str x), c3] = some (.ok (intsD (1 : Nat) x.length) [c0, c1, .pu (.str x), c3]) := by
  have r := rng2_ok (m := M.ret (.int 1)) (ρ := [c0, c1, .pu (.str x), c3]) (j := 1) rfl (mB_ok (mC_ok (cons_ok (m := mVar 2) rfl nil_ok) (len_str hl)) (mb := M.ret (.int 1)) rfl (d := .int x.length) (f := addD) rfl) (by decide) (k := (x.length : Int) + 1) (by omega)
  rw [r]
  rw [show ((x.length : Int) + 1 - 1).toNat = x.length by omega]; rfl
theorem ifS_c {c : M Bool} {a b : MS} {ρ : Cs} {k : Bool} (h : c ρ = some (.ok k ρ)) : mIfS c a b ρ = if k = true then a ρ else b ρ := by
  cases k
  · exact ifS_f h
  · exact ifS_t h
/-! roots, as the program tells them -/
theorem kPt : F_parts.ks = [.p] := rfl
theorem kRp : F_root_parts.ks = [.p] := rfl
theorem kSt : F_struck.ks = [.p] := rfl
theorem kBk : F_back_of.ks = [.p] := rfl
theorem kS : F__law_struck.ks = [.p] := rfl
theorem kK : F__law_back.ks = [.p] := rfl
theorem kH : F__law_halves.ks = [.p] := rfl
theorem kI : F__law_history.ks = [.o, .p] := rfl
theorem lst_sem {s : List Nat} (h : s.all ltr = true) (hl : s.length ≤ 1000000) : F__law_struck.sem [.str s] = some (.ret (.str (strk s)) []) := lstruck_sem (ltr_lt h) hl
theorem rootp_sem {s : List Nat} (h : s.all ltr = true) (hh : hist s = true) (hn : s ≠ []) (hl : s.length ≤ 300000) : ∃ m p k, Root s m p ∧ mid s m = rp k p ∧ 1 ≤ k ∧ p.length ≤ s.length ∧ k ≤ s.length ∧ F_root_parts.sem [.str s] = some (.ret (.tup [.str (s.take m), .str p, .int (k : Int)]) []) := by
  obtain ⟨m, hv, hs⟩ := parts_sem h (by omega)
  have cr := cr_mid hn h hh hv
  have xl := mid_len s m
  have tl : (s.take m).length ≤ s.length := by rw [List.length_take]; omega
  have s1 : asg (mCall F_parts (aP (mVar 0) (aNil))) (gU 2 (gsC (gN 1) (gsC (gN 2) (gs0)))) [.pu (.str s), .un, .un, .un] = some (.nx [.pu (.str s), .pu (.str (s.take m)), .pu (.str (mid s m)), .un]) := asg_ok (call_1 (m := mVar 0) kPt rfl hs) rfl
  obtain ⟨p, k, ρ', e, r, hx, k1, pl, kl⟩ := per_loop (c0 := .pu (.str s)) (c1 := .pu (.str (s.take m))) (x := mid s m) (body := fb_root_parts_0) (f := fun p k => .tup [.str (s.take m), .str p, .int (k : Int)]) cr.al (by omega) cr.ne (fun t t0 t1 => by
    have c := per_cond (c0 := .pu (.str s)) (c1 := .pu (.str (s.take m))) cr.al (show (mid s m).length ≤ 1000000 by omega) t0 t1
    have q : fb_root_parts_0 [.pu (.str s), .pu (.str (s.take m)), .pu (.str (mid s m)), .pu (.int t)] = _ := ifS_c c
    rw [q]
    refine ⟨fun hp => ?_, fun hp => ?_⟩
    · rw [decide_eq_true hp, if_pos rfl]
      have ln : mC lenD (mCons (mVar 2) mNil) [.pu (.str s), .pu (.str (s.take m)), .pu (.str (mid s m)), .pu (.int t)] = some (.ok (.int (mid s m).length) _) := mC_ok (cons_ok (m := mVar 2) rfl nil_ok) (len_str (by omega))
      exact ret_ok (tup_ok (cons_ok (m := mVar 1) rfl (cons_ok (sl_to (m := mVar 2) (n := mVar 3) rfl rfl (by omega)) (cons_ok (mB_ok ln (mb := mVar 3) rfl (div_pos (by omega) (Sm.more (j := 30) (show (t : Int).natAbs < 2 ^ 30 by simp only [Int.natAbs_natCast]; omega) (by decide)))) nil_ok))))
    · rw [decide_eq_false hp]; rfl) (mid s m).length 1 .un (.inl rfl) (by decide) (by omega) (fun j j0 j1 => by omega)
  have s2 : fr_root_parts_0 [.pu (.str s), .pu (.str (s.take m)), .pu (.str (mid s m)), .un] = some (.rt (.tup [.str (s.take m), .str p, .int (k : Int)]) ρ') := (for_ok (rng_to (by omega))).trans e
  exact ⟨m, p, k, ⟨h, hh, hn, hv, r⟩, hx, k1, by omega, by omega, run_rt ((sq_ok s1).trans (sq_rt s2)) rfl⟩
theorem due_sem {s : List Nat} (h : s.all ltr = true) (hh : hist s = true) (hn : s ≠ []) (hl : s.length ≤ 300000) : ∃ m p k, Root s m p ∧ mid s m = rp k p ∧ 1 ≤ k ∧ p.length ≤ s.length ∧ k ≤ s.length ∧ F__law_due.sem [.str s] = some (.ret (.tup [.str (rootOf s m p), .int (k : Int)]) []) := by
  obtain ⟨m, hv, hs⟩ := halves_sem h (by omega)
  have cr := cr_mid hn h hh hv
  have xl := mid_len s m
  have ta := ltr_take h m
  have tl : (s.take m).length ≤ s.length := by rw [List.length_take]; omega
  have bl := bak_len (s.take m)
  have s1 : asg (mCall F__law_halves (aP (mVar 0) (aNil))) (gU 2 (gsC (gN 1) (gsC (gN 2) (gs0)))) [.pu (.str s), .un, .un, .un] = some (.nx [.pu (.str s), .pu (.str (s.take m)), .pu (.str (mid s m)), .un]) := asg_ok (call_1 (m := mVar 0) kH rfl hs) rfl
  obtain ⟨p, k, ρ', e, r, hx, k1, pl, kl⟩ := per_loop (c0 := .pu (.str s)) (c1 := .pu (.str (s.take m))) (x := mid s m) (body := fb__law_due_0) (f := fun p k => .tup [.str (rootOf s m p), .int (k : Int)]) cr.al (by omega) cr.ne (fun t t0 t1 => by
    have c := per_cond (c0 := .pu (.str s)) (c1 := .pu (.str (s.take m))) cr.al (show (mid s m).length ≤ 1000000 by omega) t0 t1
    have q : fb__law_due_0 [.pu (.str s), .pu (.str (s.take m)), .pu (.str (mid s m)), .pu (.int t)] = _ := ifS_c c
    rw [q]
    refine ⟨fun hp => ?_, fun hp => ?_⟩
    · rw [decide_eq_true hp, if_pos rfl]
      have tt : ((mid s m).take t).length ≤ t := by rw [List.length_take]; omega
      have ln : mC lenD (mCons (mVar 2) mNil) [.pu (.str s), .pu (.str (s.take m)), .pu (.str (mid s m)), .pu (.int t)] = some (.ok (.int (mid s m).length) _) := mC_ok (cons_ok (m := mVar 2) rfl nil_ok) (len_str (by omega))
      exact ret_ok (tup_ok (cons_ok (mB_ok (mB_ok (ma := mVar 1) rfl (sl_to (m := mVar 2) (n := mVar 3) rfl rfl (by omega)) (add_str (by omega))) (call_1 (m := mVar 1) kK rfl (lbk_sem ta (by omega))) (add_str (by rw [List.length_append]; omega))) (cons_ok (mB_ok ln (mb := mVar 3) rfl (div_pos (by omega) (Sm.more (j := 30) (show (t : Int).natAbs < 2 ^ 30 by simp only [Int.natAbs_natCast]; omega) (by decide)))) nil_ok)))
    · rw [decide_eq_false hp]; rfl) (mid s m).length 1 .un (.inl rfl) (by decide) (by omega) (fun j j0 j1 => by omega)
  have s2 : fr__law_due_0 [.pu (.str s), .pu (.str (s.take m)), .pu (.str (mid s m)), .un] = some (.rt (.tup [.str (rootOf s m p), .int (k : Int)]) ρ') := (for_ok (rng_to (by omega))).trans e
  exact ⟨m, p, k, ⟨h, hh, hn, hv, r⟩, hx, k1, by omega, by omega, run_rt ((sq_ok s1).trans (sq_rt s2)) rfl⟩
theorem kF : F_require_full.ks = [.p] := rfl
theorem kQ : F_require_history.ks = [.p] := rfl
theorem kIh : F_is_history.ks = [.p] := rfl
/-- what is no history, or an empty one -/
def isF (d : D) : Bool := isH d && !(match d with | .str [] => true | _ => false)
theorem full_ok {s : List Nat} (h : s.all ltr = true) (hh : hist s = true) (hn : s ≠ []) (hl : s.length ≤ 1000000) : F_require_full.sem [.str s] = some (.ret .non []) := by
  apply Wf.eq
  apply wf_run (m := m_require_full) rfl
  unfold m_require_full
  have e : (s == []) = false := by cases s with | nil => exact absurd rfl hn | cons => rfl
  have o1 : okS s = true := okS_asc (ltr_all h)
  have o2 : okS [] = true := rfl
  simp_all only [kIh, wf_eq (ih_sem (shr_s hl)), isH_s h hh, e, o1, o2]
theorem full_ex {d : D} (hd : Shr d) (h : isH d = false) : F_require_full.sem [d] = some (.exc 0 d []) := by
  apply Wf.eq
  apply wf_run (m := m_require_full) rfl
  unfold m_require_full
  simp_all only [kIh, wf_eq (ih_sem hd), h]
theorem full_ex0 : F_require_full.sem [.str []] = some (.exc 0 (.str []) []) := by
  apply Wf.eq
  apply wf_run (m := m_require_full) rfl
  unfold m_require_full
  have o2 : okS [] = true := rfl
  simp_all only [kIh, wf_eq (ih_sem (shr_s (s := []) (by decide))), isH_s (s := []) rfl rfl, o2]
theorem root_sem {s : List Nat} (h : s.all ltr = true) (hh : hist s = true) (hn : s ≠ []) (hl : s.length ≤ 300000) : ∃ m p k, Root s m p ∧ mid s m = rp k p ∧ 1 ≤ k ∧ p.length ≤ s.length ∧ k ≤ s.length ∧ F_root.sem [.str s] = some (.ret (.tup [.str (rootOf s m p), .int (k : Int)]) []) := by
  obtain ⟨m, p, k, r, hx, k1, pl, kl, e⟩ := rootp_sem h hh hn hl
  refine ⟨m, p, k, r, hx, k1, pl, kl, ?_⟩
  have ta := ltr_take h m
  have tl : (s.take m).length ≤ s.length := by rw [List.length_take]; omega
  have bl := bak_len (s.take m)
  have rl := r.ltr
  have rr := strk_red r.hist
  have ll : (rootOf s m p).length ≤ 1000000 := by unfold rootOf; rw [List.length_append, List.length_append]; omega
  have s1 := drop_ok (call_1 (m := mVar 0) (ρ := [.pu (.str s), .un, .un, .un]) kF rfl (full_ok h hh hn (by omega)))
  have s2 : asg (mCall F_root_parts (aP (mVar 0) (aNil))) (gU 3 (gsC (gN 1) (gsC (gN 2) (gsC (gN 3) (gs0))))) [.pu (.str s), .un, .un, .un] = some (.nx [.pu (.str s), .pu (.str (s.take m)), .pu (.str p), .pu (.int k)]) := asg_ok (call_1 (m := mVar 0) kRp rfl e) rfl
  have st := struck_sem (ltr_lt rl) ll
  rw [rr] at st
  exact run_rt ((sq_ok s1).trans ((sq_ok s2).trans (ret_ok (tup_ok (cons_ok (call_1 kSt (mB_ok (mB_ok (ma := mVar 1) rfl (mb := mVar 2) rfl (add_str (by omega))) (call_1 (m := mVar 1) kBk rfl (bk_sem (ltr_lt ta) (by omega))) (add_str (by rw [List.length_append]; omega))) st) (cons_ok (m := mVar 3) rfl nil_ok)))))) rfl
theorem root_ex {d : D} (hd : Shr d) (h : isH d = false) : F_root.sem [d] = some (.exc 0 d []) := by
  apply Wf.eq
  apply wf_run (m := m_root) rfl
  unfold m_root
  simp_all only [kF, wf_eq (full_ex hd h)]
theorem root_ex0 : F_root.sem [.str []] = some (.exc 0 (.str []) []) := by
  apply Wf.eq
  apply wf_run (m := m_root) rfl
  unfold m_root
  simp_all only [kF, wf_eq full_ex0]
theorem com_sem {s t : List Nat} (h : s.all ltr = true) (hh : hist s = true) (g : t.all ltr = true) (gg : hist t = true) (hl : s.length + t.length ≤ 1000000) : F_commute.sem [.str s, .str t] = some (.ret (.bl (strk (s ++ t) == strk (t ++ s))) []) := by
  apply Wf.eq
  apply wf_run (m := m_commute) rfl
  unfold m_commute
  have a1 : (s ++ t).all ltr = true := by rw [all_app]; exact ⟨h, g⟩
  have a2 : (t ++ s).all ltr = true := by rw [all_app]; exact ⟨g, h⟩
  have l1 : (s ++ t).length ≤ 1000000 := by rw [List.length_append]; omega
  have l2 : (t ++ s).length ≤ 1000000 := by rw [List.length_append]; omega
  have o1 : okS (strk (s ++ t)) = true := okS_asc (ltr_all (strk_ltr a1))
  have o2 : okS (strk (t ++ s)) = true := okS_asc (ltr_all (strk_ltr a2))
  simp_all only [kQ, kSt, wf_eq (rq_sem (shr_s (s := s) (by omega))), wf_eq (rq_sem (shr_s (s := t) (by omega))), isH_s h hh, isH_s g gg, wf_eq (struck_sem (ltr_lt a1) l1), wf_eq (struck_sem (ltr_lt a2) l2), o1, o2]
  exact ⟨by omega, by omega⟩
theorem com_ex1 {d e : D} (hd : Shr d) (h : isH d = false) : F_commute.sem [d, e] = some (.exc 0 d []) := by
  apply Wf.eq
  apply wf_run (m := m_commute) rfl
  unfold m_commute
  simp_all only [kQ, wf_eq (rq_sem hd), h]
theorem com_ex2 {d e : D} (hd : Shr d) (h : isH d = true) (he : Shr e) (h2 : isH e = false) : F_commute.sem [d, e] = some (.exc 0 e []) := by
  apply Wf.eq
  apply wf_run (m := m_commute) rfl
  unfold m_commute
  simp_all only [kQ, wf_eq (rq_sem hd), wf_eq (rq_sem he), h, h2]
theorem kT : F__law_times.ks = [.p, .p] := rfl
theorem kU : F__law_purse.ks = [.p, .p] := rfl
theorem kX : F__law_caught.ks = [.p, .p, .p] := rfl
theorem kE : F__law_due.ks = [.p] := rfl
theorem kO : F_root.ks = [.p] := rfl
theorem kM : F_commute.ks = [.p, .p] := rfl
theorem okS_ltr {s : List Nat} (h : s.all ltr = true) : okS s = true := okS_asc (ltr_all h)
theorem times_loop {t : List Nat} {n : Nat} (ht : t.all ltr = true) (hl : (n + 1) * t.length ≤ 1000000) (hn : n < 2 ^ 60) : Ws fr__law_times_0 [.pu (.str t), .pu (.int (n : Int)), .pu (.str []), .un] (fun r => ∃ c3, r = .nx [.pu (.str t), .pu (.int (n : Int)), .pu (.str (strk (rp n t))), c3]) := by
  unfold fr__law_times_0
  simp_all only []
  refine ⟨by omega, ?_⟩
  refine ws_forL (I := fun its ρ => ∃ j c3, ρ = [.pu (.str t), .pu (.int (n : Int)), .pu (.str (strk (rp j t))), c3] ∧ Sb c3 ∧ j + its.length = n) ?_ ?_ _ _ ⟨0, _, rfl, .un, by rw [intsD_len]; omega⟩
  · rintro _ ⟨j, c3, rfl, h3, hj⟩
    have : j = n := by simpa using hj
    subst this
    exact ⟨c3, rfl⟩
  · rintro d rest _ ⟨j, c3, rfl, h3, hj⟩
    rw [List.length_cons] at hj
    have l1 := strk_len (rp j t)
    rw [rp_len] at l1
    have l2 : j * t.length + t.length ≤ (n + 1) * t.length := by rw [← Nat.succ_mul]; exact Nat.mul_le_mul_right _ (by omega)
    have a1 : (strk (rp j t) ++ t).all ltr = true := by rw [all_app]; exact ⟨strk_ltr (rp_ltr ht j), ht⟩
    have e : strk (strk (rp j t) ++ t) = strk (rp (j + 1) t) := by rw [strk_l, rp_s, rp_self]
    have ls := lst_sem a1 (by rw [List.length_append]; omega)
    rw [e] at ls
    unfold fb__law_times_0
    simp_all only [vs_sb h3, kS, wf_eq ls]
    exact ⟨by omega, j + 1, _, rfl, .pu, by omega⟩
theorem times_sem {t : List Nat} {n : Nat} (ht : t.all ltr = true) (hl : (n + 1) * t.length ≤ 1000000) (hn : n < 2 ^ 60) : F__law_times.sem [.str t, .int (n : Int)] = some (.ret (.str (strk (rp n t))) []) := by
  apply Wf.eq
  apply wf_run (m := m__law_times) rfl
  unfold m__law_times
  simp_all only []
  refine Ws.imp (times_loop ht hl hn) ?_
  rintro _ ⟨c3, rfl⟩
  simp_all only []
def hst : D := .str [104, 105, 115, 116, 111, 114, 121]
theorem caught_1 {d : D} (hd : Shr d) (h : isH d = false) (e : D) : F__law_caught.sem [.int 0, d, e] = some (.ret (.lst [hst, d]) []) := by
  apply Wf.eq
  apply wf_run (m := m__law_caught) rfl
  unfold m__law_caught
  simp_all only [kO, wf_eq (root_ex hd h)]
  unfold ms__law_caught_0p
  simp_all only []
  rfl
theorem caught_0 (e : D) : F__law_caught.sem [.int 0, .str [], e] = some (.ret (.lst [hst, .str []]) []) := by
  apply Wf.eq
  apply wf_run (m := m__law_caught) rfl
  unfold m__law_caught
  simp_all only [kO, wf_eq root_ex0]
  unfold ms__law_caught_0p
  simp_all only []
  rfl
theorem caught_2 {d : D} (hd : Shr d) (h : isH d = false) (e : D) : F__law_caught.sem [.int 1, d, e] = some (.ret (.lst [hst, d]) []) := by
  apply Wf.eq
  apply wf_run (m := m__law_caught) rfl
  unfold m__law_caught
  simp_all only [kM, wf_eq (com_ex1 (e := e) hd h)]
  unfold ms__law_caught_0p
  simp_all only []
  rfl
theorem caught_3 {d e : D} (hd : Shr d) (h : isH d = true) (he : Shr e) (h2 : isH e = false) : F__law_caught.sem [.int 1, d, e] = some (.ret (.lst [hst, e]) []) := by
  apply Wf.eq
  apply wf_run (m := m__law_caught) rfl
  unfold m__law_caught
  simp_all only [kM, wf_eq (com_ex2 hd h he h2)]
  unfold ms__law_caught_0p
  simp_all only []
  rfl
def odds : List D := [.non, .str [97, 65], .str [98, 49], .int 7, .lst [.str [97]], .tup [.str [97]], .bl true, .str [65, 32, 97]]
theorem odd_ok {k : Int} (h0 : 0 ≤ k) (h1 : k < 8) : ∃ d, odds[k.toNat]? = some d ∧ Shr d ∧ isH d = false ∧ okD 50 d = true := by
  have e : k = 0 ∨ k = 1 ∨ k = 2 ∨ k = 3 ∨ k = 4 ∨ k = 5 ∨ k = 6 ∨ k = 7 := by omega
  rcases e with rfl | rfl | rfl | rfl | rfl | rfl | rfl | rfl
  all_goals exact ⟨_, rfl, fun s e => by first | (cases e; done) | (cases e; decide), by decide +kernel, by simp [okD, okDs]⟩
theorem okD_more {d : D} (h : okD 50 d = true) : okD 58 d = true := okD_up (n := 50) (m := 58) h (by decide)
/-- str of a text and a number -/
theorem tt_ok {s : List Nat} {n : Nat} (h : s.all ltr = true) (hl : s.length ≤ 1000000) (hn : n < 10 ^ 12) : (okD 50 (.tup [.str s, .int (n : Int)]) = true ∧ (pyD (.tup [.str s, .int (n : Int)])).showable = true ∧ (pyD (.tup [.str s, .int (n : Int)])).shown.length ≤ sizeLine) ∧ okS (txtD (.tup [.str s, .int (n : Int)])) = true := by
  have l128 := ltr_lt h
  refine ⟨⟨?_, ?_, ?_⟩, txt_ok ?_⟩
  · rw [okD_tup]; simp [okD_str, okD_int, okS_ltr h]
  · simp only [pyD, pyDs, PyData.showable, PyData.showableAll, Bool.and_true, Bool.true_and, decide_eq_true_eq, Int.natAbs_natCast]
    by_cases z : n = 0
    · subst z; decide
    · exact Nat.lt_of_lt_of_le (Nat.log2_lt z |>.mpr (Nat.lt_of_lt_of_le hn (show 10 ^ 12 ≤ 2 ^ 40 by decide))) (by decide)
  · refine PyData.shown_fits (B := 13) (by decide) (by decide) ?_ ?_
    · simp only [pyD, pyDs, PyData.leavesShort, PyData.leavesShortAll, Bool.and_true, Bool.and_eq_true, decide_eq_true_eq]
      refine ⟨List.all_eq_true.mpr fun c hc => decide_eq_true ?_, PyData.shown_int_le (by simpa using hn)⟩
      have := l128 c (by simpa using hc)
      exact Nat.lt_trans this (by decide)
    · simp only [pyD, pyDs, PyData.weight, PyData.weightAll]
      have e : (⟨s.toArray⟩ : Str).length = s.length := by simp [Str.length]
      have c : (if n = 0 then 0 else n.log2 + 1) ≤ 41 := by
        split
        · omega
        · rename_i z
          have := Nat.log2_lt z |>.mpr (Nat.lt_of_lt_of_le hn (show 10 ^ 12 ≤ 2 ^ 40 by decide))
          omega
      simp only [List.size_toArray]
      simp [e]
      omega
  · simp only [ascD, ascDs, Bool.and_true]
    exact List.all_eq_true.mpr fun c hc => decide_eq_true (l128 c hc)
theorem tb_ok2 (b : Bool) : (okD 50 (.bl b) = true ∧ (pyD (.bl b)).showable = true ∧ (pyD (.bl b)).shown.length ≤ sizeLine) ∧ okS (txtD (.bl b)) = true := by
  refine ⟨⟨okD_bl, rfl, ?_⟩, txt_ok rfl⟩
  cases b <;> decide
theorem pick2 {k : Int} {x y : D} (h0 : 0 ≤ k) (h1 : k < 2) : ∃ d, [x, y][k.toNat]? = some d ∧ (d = x ∨ d = y) := by
  have e : k = 0 ∨ k = 1 := by omega
  rcases e with rfl | rfl
  · exact ⟨_, rfl, .inl rfl⟩
  · exact ⟨_, rfl, .inr rfl⟩
theorem wm_kw1 {F : FnD} {d : D} {ρ : Cs} {P : R D → Prop} : Wm (if ([Arg.p d]).length = 1 then callK F (pick [0] [Arg.p d]) else lift none) ρ P = Wm (callK F [.p d]) ρ P := rfl
theorem wm_kw2 {F : FnD} {d e : D} {ρ : Cs} {P : R D → Prop} : Wm (if ([Arg.p d, Arg.p e]).length = 2 then callK F (pick [1, 0] [Arg.p d, Arg.p e]) else lift none) ρ P = Wm (callK F [.p e, .p d]) ρ P := rfl
theorem ll_conj {a x : List Nat} : (a ++ x ++ bak a).length = a.length + x.length + a.length := by rw [List.length_append, List.length_append, bak_len]
theorem lt_conj {a x : List Nat} (ha : a.all ltr = true) (hx : x.all ltr = true) : (a ++ x ++ bak a).all ltr = true := by rw [all_app, all_app]; exact ⟨⟨ha, hx⟩, bak_ltr ha⟩
/-- what the root told gives the text again -/
theorem Root.again {s p : List Nat} {m k : Nat} (r : Root s m p) (hk : mid s m = rp k p) (h1 : 1 ≤ k) : strk (rp k (rootOf s m p)) = s := by
  unfold rootOf
  rw [strk_conj (ltr_take r.al m) r.crp.al, ← hk, ← Hv.split r.al r.hv, strk_red r.hi]
theorem Root.len {s p : List Nat} {m : Nat} (r : Root s m p) (hp : p.length ≤ s.length) : (rootOf s m p).length ≤ 3 * s.length := by
  unfold rootOf
  rw [ll_conj, List.length_take]; omega
theorem Root.same {s p q : List Nat} {m n k l : Nat} (r : Root s m p) (g : Root s n q) (hk : mid s m = rp k p) (hl : mid s n = rp l q) : m = n ∧ p = q ∧ k = l := by
  cases r.hv.one g.hv
  cases r.rt.one g.rt
  refine ⟨rfl, rfl, ?_⟩
  have e := congrArg List.length (hk.symm.trans hl)
  rw [rp_len, rp_len] at e
  exact Nat.eq_of_mul_eq_mul_right (List.length_pos_iff.mpr r.rt.ne) e
/-! the parts of one right turn -/
noncomputable section
def r_head (T : MS) : MS := sq (mPar 1 2 (mCons (mCall F__law_history (aO 0 (aP (M.ret (.int 4)) (aNil)))) (mCons (mCall F__law_history (aO 0 (aP (M.ret (.int 8)) (aNil)))) (mNil)))) (sq (asg (mCall F__law_struck (aP (mB addD (mB addD (mVar 1) (mCall F__law_times (aP (mVar 2) (aP (mB addD (M.ret (.int 1)) (mCall F__law_draw (aO 0 (aP (M.ret (.int 13)) (aNil))))) (aNil))))) (mCall F__law_back (aP (mVar 1) (aNil)))) (aNil))) (gN 3)) (sq (asg (mB ixD (mLst (mCons (mCall F__law_history (aO 0 (aP (M.ret (.int 6)) (aNil)))) (mCons (mCall F__law_struck (aP (mB addD (mB addD (mVar 1) (mCall F__law_times (aP (mVar 2) (aP (M.ret (.int 2)) (aNil))))) (mCall F__law_back (aP (mVar 1) (aNil)))) (aNil))) (mNil)))) (mCall F__law_draw (aO 0 (aP (M.ret (.int 2)) (aNil))))) (gN 4)) (sq (asg (mB ixD (mLst (mCons (mVar 4) (mCons (mCall F__law_back (aP (mVar 4) (aNil))) (mNil)))) (mCall F__law_draw (aO 0 (aP (M.ret (.int 2)) (aNil))))) (gN 4)) (T))))
def r_root : MS := mIfS (tb (mB neX (mVar 3) (M.ret (.str [])))) (sq (asg (mCall F_root (aP (mVar 3) (aNil))) (gN 5)) (mIfS (mOr (tb (mB neX (mC strD (mCons (mVar 5) (mNil))) (mC strD (mCons (mCall F__law_due (aP (mVar 3) (aNil))) (mNil))))) (mOr (tb (mB neX (M.bnd (aP (mVar 3) (aNil)) (fun bs => if bs.length = 1 then callK F_root (pick [0] bs) else lift none)) (mVar 5))) (tb (mB neX (mCall F__law_times (aP (mB ixD (mVar 5) (M.ret (.int 0))) (aP (mB ixD (mVar 5) (M.ret (.int 1))) (aNil)))) (mVar 3))))) (retD (M.ret (.bl false))) (nop))) (nop)
def r_due : MS := asg (mB eqX (mCall F__law_struck (aP (mB addD (mVar 3) (mVar 4)) (aNil))) (mCall F__law_struck (aP (mB addD (mVar 4) (mVar 3)) (aNil)))) (gN 6)
def r_com : MS := mIfS (mOr (tb (mB neX (mC strD (mCons (mCall F_commute (aP (mVar 3) (aP (mVar 4) (aNil)))) (mNil))) (mC strD (mCons (mVar 6) (mNil))))) (tb (mB neX (mC strD (mCons (M.bnd (aP (mVar 3) (aP (mVar 4) (aNil))) (fun bs => if bs.length = 2 then callK F_commute (pick [1, 0] bs) else lift none)) (mNil))) (mC strD (mCons (mVar 6) (mNil)))))) (retD (M.ret (.bl false))) (nop)
def r_one : MS := mIfS (mAnd (tb (mB neX (mVar 3) (M.ret (.str [])))) (tb (mB neX (mVar 4) (M.ret (.str []))))) (sq (mPar 7 8 (mCons (mB ixD (mCall F__law_due (aP (mVar 3) (aNil))) (M.ret (.int 0))) (mCons (mB ixD (mCall F__law_due (aP (mVar 4) (aNil))) (M.ret (.int 0))) (mNil)))) (mIfS (tb (mB neX (mVar 6) (mB (inD false) (mVar 7) (mTup (mCons (mVar 8) (mCons (mCall F__law_back (aP (mVar 8) (aNil))) (mNil))))))) (retD (M.ret (.bl false))) (nop))) (nop)
def r_tail : MS := sq (asg (mB ixD (mLst (mCons (M.ret .non) (mCons (M.ret (.str [97, 65])) (mCons (M.ret (.str [98, 49])) (mCons (M.ret (.int 7)) (mCons (mLst (mCons (M.ret (.str [97])) (mNil))) (mCons (mTup (mCons (M.ret (.str [97])) (mNil))) (mCons (M.ret (.bl true)) (mCons (M.ret (.str [65, 32, 97])) (mNil)))))))))) (mCall F__law_draw (aO 0 (aP (M.ret (.int 8)) (aNil))))) (gN 9)) (sq (asg (mLst (mCons (mCall F__law_caught (aP (M.ret (.int 0)) (aP (mVar 9) (aP (M.ret (.str [])) (aNil))))) (mCons (mCall F__law_caught (aP (M.ret (.int 0)) (aP (M.ret (.str [])) (aP (M.ret (.str [])) (aNil))))) (mCons (mCall F__law_caught (aP (M.ret (.int 1)) (aP (mVar 9) (aP (M.ret (.int 7)) (aNil))))) (mCons (mCall F__law_caught (aP (M.ret (.int 1)) (aP (mVar 3) (aP (mVar 9) (aNil))))) (mNil)))))) (gN 5)) (sq (mIfS (tb (mB neX (mCall F__law_caught (aP (M.ret (.int 1)) (aP (mVar 9) (aP (M.ret (.str [])) (aNil))))) (mLst (mCons (M.ret (.str [104, 105, 115, 116, 111, 114, 121])) (mCons (mVar 9) (mNil)))))) (retD (M.ret (.bl false))) (nop)) (retD (mB eqX (mVar 5) (mLst (mCons (mLst (mCons (M.ret (.str [104, 105, 115, 116, 111, 114, 121])) (mCons (mVar 9) (mNil)))) (mCons (mLst (mCons (M.ret (.str [104, 105, 115, 116, 111, 114, 121])) (mCons (M.ret (.str [])) (mNil)))) (mCons (mLst (mCons (M.ret (.str [104, 105, 115, 116, 111, 114, 121])) (mCons (mVar 9) (mNil)))) (mCons (mLst (mCons (M.ret (.str [104, 105, 115, 116, 111, 114, 121])) (mCons (mVar 9) (mNil)))) (mNil))))))))))
theorem r_all : m__law_right = r_head (sq r_root (sq r_due (sq r_com (sq r_one r_tail)))) := rfl
end
theorem r_root_ok {p ca cb v c6 c7 c8 c9 : Cell} {t : List Nat} (tt : t.all ltr = true) (th : hist t = true) (tl : t.length ≤ 400) : Ws r_root [p, ca, cb, .pu (.str t), v, .un, c6, c7, c8, c9] (fun r => ∃ c5, Pl c5 ∧ r = .nx [p, ca, cb, .pu (.str t), v, c5, c6, c7, c8, c9]) := by
  have o0 : okS [] = true := rfl
  by_cases e : t = []
  · subst e
    have e1 : (([] : List Nat) == []) = true := rfl
    unfold r_root
    simp_all only [o0, e1]
    exact ⟨_, .inl rfl, rfl⟩
  · obtain ⟨m, q, k, r, hk, k1, pl, kl, hs⟩ := root_sem tt th e (by omega)
    obtain ⟨m', q', k', r', hk', k1', pl', kl', hs'⟩ := due_sem tt th e (by omega)
    obtain ⟨rfl, rfl, rfl⟩ := r.same r' hk hk'
    have rl := r.len pl
    have la := r.ltr
    have ag := r.again hk k1
    have ts := times_sem (n := k) la (Nat.le_trans (Nat.mul_le_mul (show k + 1 ≤ 401 by omega) (show _ ≤ 1200 by omega)) (by decide)) (by omega)
    rw [ag] at ts
    have e1 : (t == []) = false := by cases t with | nil => exact absurd rfl e | cons => rfl
    obtain ⟨z1, z2⟩ := tt_ok (n := k) la (by omega) (by omega)
    have n1 : neX (.tup [.str (rootOf t m q), .int (k : Int)]) (.tup [.str (rootOf t m q), .int (k : Int)]) = some (.bl false) := neX_self (by simp [okD_tup, okD_str, okD_int, okS_ltr la])
    generalize rootOf t m q = w at *
    unfold r_root
    simp_all only [o0, okS_ltr tt, e1, kO, kE, wf_eq hs, wf_eq hs', wo_strD (show isStr (.tup [.str w, .int (k : Int)]) = false from rfl), z1, z2, wo_eq n1, kT, wf_eq ts]
    have zz := z1.2.2
    rw [← sz] at zz
    exact ⟨zz, zz, _, .inr ⟨_, rfl⟩, rfl⟩
theorem r_due_ok {p ca cb c5 c7 c8 c9 : Cell} {t v : List Nat} (tt : t.all ltr = true) (tl : t.length ≤ 400) (vt : v.all ltr = true) (vl : v.length ≤ 400) : Ws r_due [p, ca, cb, .pu (.str t), .pu (.str v), c5, .un, c7, c8, c9] (fun r => r = .nx [p, ca, cb, .pu (.str t), .pu (.str v), c5, .pu (.bl (strk (t ++ v) == strk (v ++ t))), c7, c8, c9]) := by
  have a1 : (t ++ v).all ltr = true := by rw [all_app]; exact ⟨tt, vt⟩
  have a2 : (v ++ t).all ltr = true := by rw [all_app]; exact ⟨vt, tt⟩
  have l1 : (t ++ v).length ≤ 1000000 := by rw [List.length_append]; omega
  have l2 : (v ++ t).length ≤ 1000000 := by rw [List.length_append]; omega
  unfold r_due
  simp_all only [kS, wf_eq (lst_sem a1 l1), wf_eq (lst_sem a2 l2), okS_ltr (strk_ltr a1), okS_ltr (strk_ltr a2)]
  exact ⟨by omega, by omega⟩
theorem r_com_ok {p ca cb c5 c7 c8 c9 : Cell} {t v : List Nat} (tt : t.all ltr = true) (th : hist t = true) (tl : t.length ≤ 400) (vt : v.all ltr = true) (vh : hist v = true) (vl : v.length ≤ 400) : Ws r_com [p, ca, cb, .pu (.str t), .pu (.str v), c5, .pu (.bl (strk (t ++ v) == strk (v ++ t))), c7, c8, c9] (fun r => r = .nx [p, ca, cb, .pu (.str t), .pu (.str v), c5, .pu (.bl (strk (t ++ v) == strk (v ++ t))), c7, c8, c9]) := by
  have e1 := com_sem tt th vt vh (by omega)
  have e2 := com_sem vt vh tt th (by omega)
  rw [show (strk (v ++ t) == strk (t ++ v)) = (strk (t ++ v) == strk (v ++ t)) from BEq.comm] at e2
  obtain ⟨z1, z2⟩ := tb_ok2 (strk (t ++ v) == strk (v ++ t))
  have zz := z1.2.2
  rw [← sz] at zz
  generalize (strk (t ++ v) == strk (v ++ t)) = b at *
  unfold r_com
  simp_all only [kM, wf_eq e1, wf_eq e2, wo_strD (show isStr (.bl b) = false from rfl), z1, z2, zz]
theorem r_one_ok {p ca cb c5 c9 : Cell} {t v : List Nat} (tt : t.all ltr = true) (th : hist t = true) (tl : t.length ≤ 400) (vt : v.all ltr = true) (vh : hist v = true) (vl : v.length ≤ 400) : Ws r_one [p, ca, cb, .pu (.str t), .pu (.str v), c5, .pu (.bl (strk (t ++ v) == strk (v ++ t))), .un, .un, c9] (fun r => ∃ c7 c8, Pl c7 ∧ Pl c8 ∧ r = .nx [p, ca, cb, .pu (.str t), .pu (.str v), c5, .pu (.bl (strk (t ++ v) == strk (v ++ t))), c7, c8, c9]) := by
  have o0 : okS [] = true := rfl
  by_cases e : t = []
  · subst e
    have e1 : (([] : List Nat) == []) = true := rfl
    unfold r_one
    simp_all only [o0, e1]
    exact ⟨_, _, .inl rfl, .inl rfl, rfl⟩
  · have e1 : (t == []) = false := by cases t with | nil => exact absurd rfl e | cons => rfl
    by_cases f : v = []
    · subst f
      have f1 : (([] : List Nat) == []) = true := rfl
      unfold r_one
      simp_all only [o0, okS_ltr tt, e1, f1]
      exact ⟨_, _, .inl rfl, .inl rfl, rfl⟩
    · have f1 : (v == []) = false := by cases v with | nil => exact absurd rfl f | cons => rfl
      obtain ⟨m, q, k, r, hk, k1, pl, kl, hs⟩ := due_sem tt th e (by omega)
      obtain ⟨m', q', k', r', hk', k1', pl', kl', hs'⟩ := due_sem vt vh f (by omega)
      have rl := r.len pl
      have la := r.ltr
      have rl' := r'.len pl'
      have la' := r'.ltr
      have law := com_iff r r'
      unfold Cg at law
      generalize rootOf t m q = w at *
      generalize rootOf v m' q' = w' at *
      unfold r_one
      simp_all only [o0, okS_ltr tt, okS_ltr vt, e1, f1, kE, wf_eq hs, wf_eq hs', kK, wf_eq (lbk_sem la' (by omega))]
      have key : (strk (t ++ v) == strk (v ++ t)) = [D.str w', D.str (bak w')].any fun y => eqB y (D.str w) := by
        rw [Bool.eq_iff_iff, beq_iff_eq, law]
        simp only [List.any_cons, List.any_nil, Bool.or_false, eqB, Bool.or_eq_true, beq_iff_eq]
        exact ⟨fun h => h.imp Eq.symm Eq.symm, fun h => h.imp Eq.symm Eq.symm⟩
      refine ⟨fun z => absurd key z, fun _ => ⟨_, _, .inr ⟨_, rfl⟩, .inr ⟨_, rfl⟩, rfl⟩⟩
theorem r_tail_ok {m : Nat} {p : D} {ca cb c4 c5 c6 c7 c8 : Cell} {t : List Nat} (h : Pur m p) (hm : m + 100 ≤ 1000000000) (tt : t.all ltr = true) (th : hist t = true) (tl : t.length ≤ 400) (h5 : Pl c5) : Ws r_tail [.ow true p, ca, cb, .pu (.str t), c4, c5, c6, c7, c8, .un] (fun r => ∃ p' ρ', r = .rt (.bl true) (.ow true p' :: ρ') ∧ Pur (m + 1) p') := by
  obtain ⟨s, g1, g2, g3, hp⟩ := id h
  obtain ⟨k, p5, e5, k1, k2, q5⟩ := draw_semR (n := 8) hp (by simp) (by omega) (by decide) (Sm.more (j := 4) (by unfold Sm; decide) (by decide))
  have q5 : Pur (m + 1) p5 := ⟨s, g1, g2, g3, q5⟩
  obtain ⟨d, o1, o2, o3, o4⟩ := odd_ok k1 k2
  unfold odds at o1
  have o5 : eqX (.lst [.lst [hst, d], .lst [hst, .str []], .lst [hst, d], .lst [hst, d]]) (.lst [.lst [hst, d], .lst [hst, .str []], .lst [hst, d], .lst [hst, d]]) = some (.bl true) := eqX_self (by simp [okD_lst, hst, okD_str, okS, okD_more o4])
  have o6 : neX (.lst [hst, d]) (.lst [hst, d]) = some (.bl false) := neX_self (by simp [okD_lst, hst, okD_str, okS, okD_up o4 (show 50 ≤ 59 by decide)])
  unfold r_tail
  simp_all only [kD, wf_eq e5, wo_ixA k1, k2, wo_eq o1, kX, wf_eq (caught_1 o2 o3 _), wf_eq (caught_0 _), wf_eq (caught_2 o2 o3 _), wf_eq (caught_3 (shr_s (show t.length ≤ 1000000 by omega)) (isH_s tt th) o2 o3), vs_pl h5]
  unfold hst at o5 o6 ⊢
  simp_all only [wo_eq o5, wo_eq o6]
  exact ⟨_, _, rfl, q5⟩
theorem r_rest {m : Nat} {p : D} {ca cb : Cell} {t v : List Nat} (h : Pur m p) (hm : m + 100 ≤ 1000000000) (tt : t.all ltr = true) (th : hist t = true) (tl : t.length ≤ 400) (vt : v.all ltr = true) (vh : hist v = true) (vl : v.length ≤ 400) : Ws (sq r_root (sq r_due (sq r_com (sq r_one r_tail)))) [.ow true p, ca, cb, .pu (.str t), .pu (.str v), .un, .un, .un, .un, .un] (fun r => ∃ p' ρ', r = .rt (.bl true) (.ow true p' :: ρ') ∧ Pur (m + 1) p') := by
  simp_all only []
  refine Ws.imp (r_root_ok tt th tl) ?_
  rintro _ ⟨c5, h5, rfl⟩
  simp_all only []
  refine Ws.imp (r_due_ok tt tl vt vl) ?_
  rintro _ rfl
  simp_all only []
  refine Ws.imp (r_com_ok tt th tl vt vh vl) ?_
  rintro _ rfl
  simp_all only []
  refine Ws.imp (r_one_ok tt th tl vt vh vl) ?_
  rintro _ ⟨c7, c8, _, _, rfl⟩
  simp_all only []
  exact r_tail_ok h hm tt th tl h5
theorem right_sem {m : Nat} {p : D} (h : Pur m p) (hm : m + 1000 ≤ 1000000000) : ∃ p', F__law_right.sem [p] = some (.ret (.bl true) [p']) ∧ Pur (m + 500) p' := by
  suffices h : Wf F__law_right [p] fun r => ∃ p', r = .ret (.bl true) [p'] ∧ Pur (m + 500) p' by
    obtain ⟨r, h1, p', rfl, h2⟩ := h
    exact ⟨p', h1, h2⟩
  apply wf_run (m := m__law_right) rfl
  rw [r_all]
  generalize hT : sq r_root (sq r_due (sq r_com (sq r_one r_tail))) = T
  unfold r_head
  simp_all only [kI]
  obtain ⟨a, p1, e1, q1, l1, a1, a2⟩ := history_sem (mo := 4) h (by omega) (by omega)
  simp_all only [kI, wf_eq (show F__law_history.sem [p, .int 4] = _ from e1)]
  obtain ⟨b, p2, e2, q2, l2, b1, b2⟩ := history_sem (mo := 8) q1 (by omega) (by omega)
  simp_all only [kI, kD, wf_eq (show F__law_history.sem [p1, .int 8] = _ from e2)]
  obtain ⟨s, g1, g2, g3, hp⟩ := id q2
  obtain ⟨k, p3, e3, k1, k2, q3⟩ := draw_semR (n := 13) hp (by simp) (by omega) (by decide) (Sm.more (j := 4) (by unfold Sm; decide) (by decide))
  have q3 : Pur (m + 101) p3 := ⟨s, g1, g2, g3, q3⟩
  obtain ⟨k, rfl⟩ : ∃ n : Nat, k = n := ⟨k.toNat, by omega⟩
  have bl : ∀ n : Nat, n ≤ 14 → (n + 1) * b.length ≤ 300 := fun n hn => Nat.le_trans (Nat.mul_le_mul (show n + 1 ≤ 15 by omega) l2) (by decide)
  have t1 := times_sem (t := b) (n := 1 + k) b1 (Nat.le_trans (bl _ (by omega)) (by decide)) (by omega)
  have t2 := times_sem (t := b) (n := 2) b1 (Nat.le_trans (bl _ (by omega)) (by decide)) (by decide)
  have t1 : F__law_times.sem [.str b, .int (1 + (k : Int))] = _ := t1
  have t2 : F__law_times.sem [.str b, .int 2] = _ := t2
  have m1 : (strk (rp (1 + k) b)).length ≤ 300 := Nat.le_trans (strk_len _) (by rw [rp_len]; exact Nat.le_trans (Nat.mul_le_mul_right _ (Nat.le_succ _)) (bl _ (by omega)))
  have m2 : (strk (rp 2 b)).length ≤ 300 := Nat.le_trans (strk_len _) (by rw [rp_len]; exact Nat.le_trans (Nat.mul_le_mul_right _ (Nat.le_succ _)) (bl _ (by omega)))
  have n1 := strk_ltr (rp_ltr b1 (1 + k))
  have n2 := strk_ltr (rp_ltr b1 2)
  simp_all only [kD, wf_eq e3, kT, wf_eq t1, kK, wf_eq (lbk_sem a1 (by omega)), kS]
  generalize strk (rp (1 + k) b) = x1 at *
  generalize strk (rp 2 b) = x2 at *
  have ba := bak_len a
  have c1 := lt_conj a1 n1
  have c2 := lt_conj a1 n2
  have d1 := ll_conj (a := a) (x := x1)
  have d2 := ll_conj (a := a) (x := x2)
  refine ⟨by omega, by rw [List.length_append]; omega, ?_⟩
  simp_all only [wf_eq (lst_sem c1 (by omega)), kI]
  have tl := strk_len (a ++ x1 ++ bak a)
  have ul := strk_len (a ++ x2 ++ bak a)
  have tt := strk_ltr c1
  have th := strk_hist (a ++ x1 ++ bak a)
  have ut := strk_ltr c2
  have uh := strk_hist (a ++ x2 ++ bak a)
  obtain ⟨w, p4, e4, q4, l4, w1, w2⟩ := history_sem (mo := 6) q3 (by omega) (by omega)
  simp_all only [wf_eq (show F__law_history.sem [p3, .int 6] = _ from e4), kT, wf_eq t2, kK, wf_eq (lbk_sem a1 (by omega)), kS]
  refine ⟨by omega, by rw [List.length_append]; omega, ?_⟩
  obtain ⟨s, g1, g2, g3, hp⟩ := id q4
  obtain ⟨k5, p5, e5, k51, k52, q5⟩ := draw_semR (n := 2) hp (by simp) (by omega) (by decide) (Sm.more (j := 4) (by unfold Sm; decide) (by decide))
  have q5 : Pur (m + 152) p5 := ⟨s, g1, g2, g3, q5⟩
  simp_all only [wf_eq (lst_sem c2 (by omega)), kD, wf_eq e5]
  generalize strk (a ++ x1 ++ bak a) = t at *
  generalize strk (a ++ x2 ++ bak a) = u at *
  obtain ⟨d, hd, ho⟩ := pick2 (x := .str w) (y := .str u) k51 k52
  obtain ⟨u0, rfl, y1, y2, y3⟩ : ∃ y, d = .str y ∧ y.all ltr = true ∧ hist y = true ∧ y.length ≤ 400 := by
    rcases ho with rfl | rfl
    · exact ⟨w, rfl, w1, w2, by omega⟩
    · exact ⟨u, rfl, ut, uh, by omega⟩
  simp_all only [wo_ixA k51, k52, wo_eq hd, kK, wf_eq (lbk_sem y1 (by omega)), kD]
  obtain ⟨s, g1, g2, g3, hp⟩ := id q5
  obtain ⟨k6, p6, e6, k61, k62, q6⟩ := draw_semR (n := 2) hp (by simp) (by omega) (by decide) (Sm.more (j := 4) (by unfold Sm; decide) (by decide))
  have q6 : Pur (m + 153) p6 := ⟨s, g1, g2, g3, q6⟩
  obtain ⟨d, hd, ho⟩ := pick2 (x := .str u0) (y := .str (bak u0)) k61 k62
  obtain ⟨v, rfl, v1, v2, v3⟩ : ∃ y, d = .str y ∧ y.all ltr = true ∧ hist y = true ∧ y.length ≤ 400 := by
    rcases ho with rfl | rfl
    · exact ⟨u0, rfl, y1, y2, y3⟩
    · exact ⟨bak u0, rfl, bak_ltr y1, bak_hist u0 y1 y2, by rw [bak_len]; exact y3⟩
  simp_all only [wf_eq e6, wo_ixA k61, k62, wo_eq hd]
  rw [← hT]
  refine Ws.imp (r_rest q6 (by omega) tt th (by omega) v1 v2 v3) ?_
  rintro _ ⟨p', ρ', rfl, hq⟩
  simp_all only []
  exact ⟨_, rfl, hq.more (by omega)⟩
theorem kR : F__law_right.ks = [.o] := rfl
theorem law_turn {c0 c1 c4 c5 : Cell} {p : D} {m : Nat} {c3 : Cell} (h : Pur m p) (hm : m + 10000 ≤ 1000000000) (h3 : Sb c3) : Ws fr_law_0 [c0, c1, .ow false p, c3, c4, c5] (fun r => ∃ p' c3', r = .nx [c0, c1, .ow false p', c3', c4, c5] ∧ Sb c3') := by
  unfold fr_law_0
  simp_all only []
  refine ws_forL (I := fun its ρ => ∃ p' c3', ρ = [c0, c1, .ow false p', c3', c4, c5] ∧ Sb c3' ∧ ∃ j, Pur (m + 500 * j) p' ∧ j + its.length ≤ 8) ?_ ?_ _ _ ⟨p, c3, rfl, h3, 0, h, by rw [intsD_len]; decide⟩
  · rintro _ ⟨p', c3', rfl, h3, _⟩
    exact ⟨p', c3', rfl, h3⟩
  · rintro d rest _ ⟨p', c3', rfl, h3, j, hj, hl⟩
    rw [List.length_cons] at hl
    obtain ⟨p2, e2, q2⟩ := right_sem hj (by omega)
    unfold fb_law_0
    simp_all only [vs_sb h3, kR, wf_eq e2]
    exact ⟨p2, _, rfl, .pu, j + 1, q2.more (by omega), by omega⟩
theorem law_all {ns : List Int} (hl : ns.length ≤ 63) : Ws fr_law_1 [.pu (.scr ns), .un, .un, .un, .un, .un] (fun r => ∃ c1 c2 c3, r = .nx [.pu (.scr ns), c1, c2, c3, .un, .un]) := by
  unfold fr_law_1
  simp_all only []
  refine ⟨by split <;> omega, ?_⟩
  refine ws_forL (I := fun its ρ => ∃ c1 c2 c3, ρ = [.pu (.scr ns), c1, c2, c3, .un, .un] ∧ Sb c1 ∧ Sb c2 ∧ Sb c3 ∧ ∀ d ∈ its, ∃ i : Nat, d = .int i ∧ i ≤ ns.length) ?_ ?_ _ _ ⟨_, _, _, rfl, .un, .un, .un, fun d hd => ?_⟩
  · rintro _ ⟨c1, c2, c3, rfl, _⟩
    exact ⟨c1, c2, c3, rfl⟩
  · rintro d rest _ ⟨c1, c2, c3, rfl, h1, h2, h3, hd⟩
    obtain ⟨i, rfl, hi⟩ := hd _ List.mem_cons_self
    obtain ⟨p, e, q⟩ := purse_sem hl hi
    unfold fb_law_1
    simp_all only [vs_sb h1, vs_sb h2, kU, wf_eq e]
    refine Ws.imp (law_turn q (by decide) h3) ?_
    rintro _ ⟨p', c3', rfl, h3'⟩
    exact ⟨_, _, _, rfl, .pu, .ow, h3', fun d hd' => hd d (List.mem_cons_of_mem _ hd')⟩
  · obtain ⟨k, hk, rfl⟩ := intsD_mem hd
    refine ⟨k, by rw [Int.zero_add], ?_⟩
    split at hk <;> omega
theorem rt_of {x : List Nat} {s : Nat} (hs : 0 < s) (h : Per x s) (hx : x ≠ []) (hm : ∀ t, t < s → 0 < t → ¬ Per x t) : Rt x (x.take s) := per_rt hs h.1 h.2 hx fun t t0 t1 => hm t t1 t0
theorem root_at {s q : List Nat} {n l : Nat} (h : s.all ltr = true) (hh : hist s = true) (hn : s ≠ []) (hl : s.length ≤ 300000) (g : Root s n q) (e : mid s n = rp l q) : F_root.sem [.str s] = some (.ret (.tup [.str (rootOf s n q), .int (l : Int)]) []) := by
  obtain ⟨m, p, k, r, hk, _, _, _, hs⟩ := root_sem h hh hn hl
  obtain ⟨rfl, rfl, rfl⟩ := r.same g hk e
  exact hs
theorem hv_0 {s : List Nat} (h : ¬ Cnd s 0) : Hv s 0 := ⟨fun i hi => absurd hi (by omega), h⟩
theorem root_1 : F_root.sem [.str [97, 98, 97, 98]] = some (.ret (.tup [.str [97, 98], .int 2]) []) := root_at (n := 0) (q := [97, 98]) (l := 2) (by decide) (by decide) (by decide) (by decide) ⟨by decide, by decide, by decide, hv_0 (by unfold Cnd; decide), rt_of (x := [97, 98, 97, 98]) (s := 2) (by decide) (by decide) (by decide) (by decide)⟩ (by decide)
theorem root_2 : F_root.sem [.str [97, 98, 98, 65]] = some (.ret (.tup [.str [97, 98, 65], .int 2]) []) := root_at (n := 1) (q := [98]) (l := 2) (by decide) (by decide) (by decide) (by decide) ⟨by decide, by decide, by decide, ⟨fun i hi => by cases (show i = 0 by omega); unfold Cnd; decide, by unfold Cnd; decide⟩, rt_of (x := [98, 98]) (s := 1) (by decide) (by decide) (by decide) (by decide)⟩ (by decide)
theorem root_a {n : Nat} (hn : n = 7 ∨ n = 17) : F_root.sem [.str (List.replicate n [97]).flatten] = some (.ret (.tup [.str [97], .int (n : Int)]) []) := by
  rcases hn with rfl | rfl
  · exact root_at (n := 0) (q := [97]) (l := 7) (by decide) (by decide) (by decide) (by decide) ⟨by decide, by decide, by decide, hv_0 (by unfold Cnd; decide), rt_of (x := (List.replicate 7 [97]).flatten) (s := 1) (by decide) (by decide) (by decide) (by decide)⟩ (by decide)
  · exact root_at (n := 0) (q := [97]) (l := 17) (by decide) (by decide) (by decide) (by decide) ⟨by decide, by decide, by decide, hv_0 (by unfold Cnd; decide), rt_of (x := (List.replicate 17 [97]).flatten) (s := 1) (by decide) (by decide) (by decide) (by decide)⟩ (by decide)
theorem com_1 : F_commute.sem [.str [97, 97], .str [65, 65, 65]] = some (.ret (.bl true) []) := by
  have e := com_sem (s := [97, 97]) (t := [65, 65, 65]) (by decide) (by decide) (by decide) (by decide) (by decide)
  rw [show (strk ([97, 97] ++ [65, 65, 65]) == strk ([65, 65, 65] ++ [97, 97])) = true by decide] at e
  exact e
theorem com_2 : F_commute.sem [.str [97, 98], .str [98, 97]] = some (.ret (.bl false) []) := by
  have e := com_sem (s := [97, 98]) (t := [98, 97]) (by decide) (by decide) (by decide) (by decide) (by decide)
  rw [show (strk ([97, 98] ++ [98, 97]) == strk ([98, 97] ++ [97, 98])) = false by decide] at e
  exact e
theorem sem_law (ns : List Int) (h : ns.length ≤ 63) : F_law.sem [.scr ns] = some (.ret (.bl true) []) := by
  apply Wf.eq
  apply wf_run (m := m_law) rfl
  unfold m_law
  simp_all only []
  refine Ws.imp (law_all h) ?_
  rintro _ ⟨c1, c2, c3, rfl⟩
  simp_all only [kO, kM, wf_eq root_1, wf_eq root_2, wf_eq com_1, wf_eq com_2]
  rw [wo_eq (eqX_self (by simp [okD_lst, okD_tup, okD_str, okD_int, okD_bl, okS]))]
  simp_all only []
  unfold lc_law_0
  simp_all only []
  refine wm_lc (fun _ => true) (fun d => d) (by decide) rfl rfl (fun d hd => ?_) ?_
  · obtain ⟨n, hn, rfl⟩ : ∃ n : Nat, (n = 7 ∨ n = 17) ∧ d = .int n := by
      rcases List.mem_cons.mp hd with rfl | hd
      · exact ⟨7, .inl rfl, rfl⟩
      · exact ⟨17, .inr rfl, List.mem_singleton.mp hd⟩
    have e := root_a hn
    have l : [97].length * n ≤ 16777216 := by rcases hn with rfl | rfl <;> decide
    unfold le_law_0
    simp_all only [unset]
    unfold mYes
    simp_all only [kO, Int.toNat_natCast, wf_eq e]
    rcases hn with rfl | rfl <;> decide
  · have n1 : eqX (.lst [.int 7, .int 17]) (.lst [.int 7, .int 17]) = some (.bl true) := eqX_self (by simp [okD_lst, okD_int])
    rw [show List.map (fun d => d) (List.filter (fun x => true) [D.int 7, D.int 17]) = [D.int 7, D.int 17] from rfl]
    simp_all only [wo_eq n1]
section
variable {P : Program} {w : World} {K : PySem.W.Frag} {mg : Str → Option Value} {base : Heap} {A_InvalidHistory : Addr}
theorem bw_commute_other_history (kV doc pm : Value) (an : Option Addr) (cdv ct : Value) : BindsW (PySem.W.fnOf "commute" "commute" (defArgs s_commute) (defBody s_commute) (defScope s_commute) .none kV doc pm an cdv ct) ["history", "other"] ["other", "history"] 0 [1, 0] :=
  fun us ws h1 h2 => match us, ws, h1, h2 with | [], [_, _], _, _ => rfl
theorem bw_root_history (kV doc pm : Value) (an : Option Addr) (cdv ct : Value) : BindsW (PySem.W.fnOf "root" "root" (defArgs s_root) (defBody s_root) (defScope s_root) .none kV doc pm an cdv ct) ["history"] ["history"] 0 [0] :=
  fun us ws h1 h2 => match us, ws, h1, h2 with | [], [_], _, _ => rfl
theorem ok_sign_back (T : Tx P w K mg base A_InvalidHistory)  {fa : Addr} {fd : FuncData} (Fu : Fun K "sign_back" "sign_back" s_sign_back fa fd) (gf : mg "sign_back" = some (.ref fa)) : CalF P w K mg base [⟨A_InvalidHistory, some "thing"⟩] "sign_back" 1 s_sign_back ["letter"] F_sign_back :=
  CalF.of (fn_ok (N := N_sign_back) Fu sc_sign_back rfl (by decide) (fun cdv A outer s H E hr =>
  (sb_one (ss_ret (se_if (st_cmp op_inX (b_in false) (se_var 0 rfl (.inl rfl)) (se_glob (v := .str g_COMMANDS) (by rfl) T.c_COMMANDS.choose_spec ⟨_, rfl⟩ (fun _ => rep_str (by decide +kernel))) (by rfl)) (se_upper (se_var 0 rfl (.inl rfl))) (se_lower (se_var 0 rfl (.inl rfl))))))) (fun _ _ h => h)) Fu gf (fun _ _ _ _ _ _ us hl => match us, hl with | [_], _ => rfl)
theorem ok_back_of (T : Tx P w K mg base A_InvalidHistory) (C_sign_back : CalF P w K mg base [⟨A_InvalidHistory, some "thing"⟩] "sign_back" 1 s_sign_back ["letter"] F_sign_back) {fa : Addr} {fd : FuncData} (Fu : Fun K "back_of" "back_of" s_back_of fa fd) (gf : mg "back_of" = some (.ref fa)) : CalF P w K mg base [⟨A_InvalidHistory, some "thing"⟩] "back_of" 2 s_back_of ["history"] F_back_of :=
  CalF.of (fn_ok (N := N_back_of) Fu sc_back_of rfl (by decide) (fun cdv A outer s H E hr =>
  (sb_one (ss_ret (se_join (se_str (by decide +kernel)) (SO.se (so_lc (own := [("letter", 1)]) rfl sc_back_of.nd (si_any (se_revX (se_var 0 rfl (.inl rfl)))) (blkOk_by (N := N_back_of) (sc := defScope s_back_of) (by decide +kernel)) (fun _ _ _ _ _ => (sg_name 1 sc_back_of.nd rfl (.inl rfl))) (fun _ _ _ _ _ => pts_yes) (fun _ _ _ _ _ => (se_call (C_sign_back.cal (hr.mono (by decide))) (by rfl) takes0 (sr_p (se_var 1 rfl (.inl rfl)) sr_nil))) (by decide))))))) (fun _ _ h => h)) Fu gf (fun _ _ _ _ _ _ us hl => match us, hl with | [_], _ => rfl)
theorem ok_struck (T : Tx P w K mg base A_InvalidHistory) (C_sign_back : CalF P w K mg base [⟨A_InvalidHistory, some "thing"⟩] "sign_back" 1 s_sign_back ["letter"] F_sign_back) {fa : Addr} {fd : FuncData} (Fu : Fun K "struck" "struck" s_struck fa fd) (gf : mg "struck" = some (.ref fa)) : CalF P w K mg base [⟨A_InvalidHistory, some "thing"⟩] "struck" 2 s_struck ["letters"] F_struck :=
  CalF.of (fn_ok (N := N_struck) Fu sc_struck rfl (by decide) (fun cdv A outer s H E hr =>
  (sb_cons (ss_setO 1 sc_struck.nd rfl (.inl rfl) (so_lst sa_nil))
  (sb_cons (ss_for (passes_of rfl) rfl (si_any (se_var 0 rfl (.inl rfl))) (sg_name 2 sc_struck.nd rfl (.inl rfl)) (sb_one (ss_if (SW.pt (sw_and (st_cmpO 1 rfl (.inl rfl) (op_neX (hu64 hr)) b_neX (se_lst sa_nil) (nomark _)) (sw_and1 (st_cmp (op_eqX (hu64 hr)) b_eqX (se_ixO 1 rfl (.inl rfl) (se_neg se_int) (fun _ _ => rfl)) (se_call (C_sign_back.cal (hr.mono (by decide))) (by rfl) (takes_of rfl rfl rfl rfl) (sr_p (se_var 2 rfl (.inl rfl)) sr_nil)) (nomark _))))) (sb_one (ss_expr (se_pop 1 rfl (.inl rfl)))) (sb_one (ss_append 1 rfl (.inl rfl) (se_var 2 rfl (.inl rfl)))))))
  (sb_one (ss_ret (se_joinO 1 rfl (.inl rfl) (se_str (by decide +kernel)))))))) (fun _ _ h => h)) Fu gf (fun _ _ _ _ _ _ us hl => match us, hl with | [_], _ => rfl)
theorem ok_is_letters (T : Tx P w K mg base A_InvalidHistory)  {fa : Addr} {fd : FuncData} (Fu : Fun K "is_letters" "is_letters" s_is_letters fa fd) (gf : mg "is_letters" = some (.ref fa)) : CalF P w K mg base [⟨A_InvalidHistory, some "thing"⟩] "is_letters" 1 s_is_letters ["thing"] F_is_letters :=
  CalF.of (fn_ok (N := N_is_letters) Fu sc_is_letters rfl (by decide) (fun cdv A outer s H E hr =>
  (sb_one (ss_ret (se_and (se_isi .str (by rfl) T.b_isinstance (by rfl) T.b_str PyProof.Rows.boot_str (se_var 0 rfl (.inl rfl))) (se_one (se_callB (cr_all rfl) f_all (by rfl) T.b_all boot_all (sa_cons (SO.se (so_lc (own := [("sign", 1)]) rfl sc_is_letters.nd (si_any (se_var 0 rfl (.inl rfl))) (blkOk_by (N := N_is_letters) (sc := defScope s_is_letters) (by decide +kernel)) (fun _ _ _ _ _ => (sg_name 1 sc_is_letters.nd rfl (.inl rfl))) (fun _ _ _ _ _ => pts_yes) (fun _ _ _ _ _ => (se_cmp op_inX (b_in false) (se_var 1 rfl (.inl rfl)) (se_glob (v := .str g_LETTERS) (by rfl) T.c_LETTERS.choose_spec ⟨_, rfl⟩ (fun _ => rep_str (by decide +kernel))) (by rfl))) (by decide))) sa_nil))))))) (fun _ _ h => h)) Fu gf (fun _ _ _ _ _ _ us hl => match us, hl with | [_], _ => rfl)
theorem ok_is_history (T : Tx P w K mg base A_InvalidHistory) (C_sign_back : CalF P w K mg base [⟨A_InvalidHistory, some "thing"⟩] "sign_back" 1 s_sign_back ["letter"] F_sign_back) (C_is_letters : CalF P w K mg base [⟨A_InvalidHistory, some "thing"⟩] "is_letters" 1 s_is_letters ["thing"] F_is_letters) {fa : Addr} {fd : FuncData} (Fu : Fun K "is_history" "is_history" s_is_history fa fd) (gf : mg "is_history" = some (.ref fa)) : CalF P w K mg base [⟨A_InvalidHistory, some "thing"⟩] "is_history" 2 s_is_history ["thing"] F_is_history :=
  CalF.of (fn_ok (N := N_is_history) Fu sc_is_history rfl (by decide) (fun cdv A outer s H E hr =>
  (sb_cons (ss_if (st_not (st_val (se_call (C_is_letters.cal (hr.mono (by decide))) (by rfl) (takes_of rfl rfl rfl rfl) (sr_p (se_var 0 rfl (.inl rfl)) sr_nil)))) (sb_one (ss_ret se_bl)) sb_nil)
  (sb_one (ss_ret (se_callB (cr_all rfl) f_all (by rfl) T.b_all boot_all (sa_cons (SO.se (so_lc (own := [("one", 1), ("other", 2)]) rfl sc_is_history.nd (si_z2 (by rfl) T.b_zip (se_var 0 rfl (.inl rfl)) (se_sl (se_var 0 rfl (.inl rfl)) (sp_some se_int) sp_none)) (blkOk_by (N := N_is_history) (sc := defScope s_is_history) (by decide +kernel)) (fun _ _ _ _ _ => (sg_unp rfl (sgs_cons (sg_name 1 sc_is_history.nd rfl (.inl rfl)) (sgs_cons (sg_name 2 sc_is_history.nd rfl (.inl rfl)) sgs_nil)))) (fun _ _ _ _ _ => pts_yes) (fun _ _ _ _ _ => (se_cmp (op_neX (hu64 hr)) b_neX (se_var 1 rfl (.inl rfl)) (se_call (C_sign_back.cal (hr.mono (by decide))) (by rfl) takes0 (sr_p (se_var 2 rfl (.inl rfl)) sr_nil)) (nomark _))) (by decide))) sa_nil)))))) (fun _ _ h => h)) Fu gf (fun _ _ _ _ _ _ us hl => match us, hl with | [_], _ => rfl)
theorem ok_require_full (T : Tx P w K mg base A_InvalidHistory) (C_is_history : CalF P w K mg base [⟨A_InvalidHistory, some "thing"⟩] "is_history" 2 s_is_history ["thing"] F_is_history) {fa : Addr} {fd : FuncData} (Fu : Fun K "require_full" "require_full" s_require_full fa fd) (gf : mg "require_full" = some (.ref fa)) : CalF P w K mg base [⟨A_InvalidHistory, some "thing"⟩] "require_full" 3 s_require_full ["history"] F_require_full :=
  CalF.of (fn_ok (N := N_require_full) Fu sc_require_full rfl (by decide) (fun cdv A outer s H E hr =>
  (sb_one (ss_if (SW.pt (sw_or (st_not (st_val (se_call (C_is_history.cal (hr.mono (by decide))) (by rfl) (takes_of rfl rfl rfl rfl) (sr_p (se_var 0 rfl (.inl rfl)) sr_nil)))) (sw_or1 (st_cmp (op_eqX (hu64 hr)) b_eqX (se_var 0 rfl (.inl rfl)) (se_str (by decide +kernel)) (nomark _))))) (sb_one (ss_raise 0 rfl (takes_of rfl rfl rfl rfl) T.e_InvalidHistory rfl (hr.mono (by decide)) (by rfl) (se_var 0 rfl (.inl rfl)))) sb_nil))) (fun _ _ h => h)) Fu gf (fun _ _ _ _ _ _ us hl => match us, hl with | [_], _ => rfl)
theorem ok_parts (T : Tx P w K mg base A_InvalidHistory) (C_sign_back : CalF P w K mg base [⟨A_InvalidHistory, some "thing"⟩] "sign_back" 1 s_sign_back ["letter"] F_sign_back) {fa : Addr} {fd : FuncData} (Fu : Fun K "parts" "parts" s_parts fa fd) (gf : mg "parts" = some (.ref fa)) : CalF P w K mg base [⟨A_InvalidHistory, some "thing"⟩] "parts" 2 s_parts ["history"] F_parts :=
  CalF.of (fn_ok (N := N_parts) Fu sc_parts rfl (by decide) (fun cdv A outer s H E hr =>
  (sb_cons (ss_set 1 sc_parts.nd rfl (.inl rfl) se_int)
  (sb_cons (ss_while 1000000000 (passes_of rfl) (SW.pt (sw_and (st_cmp op_ltX b_lt (se_var 1 rfl (.inl rfl)) (se_op op_sub b_sub (se_op op_sub b_sub (se_callB k_len f_len (by rfl) T.b_len PySem.boot_len (sa_cons (se_var 0 rfl (.inl rfl)) sa_nil)) se_int) (se_var 1 rfl (.inl rfl))) (nomark _)) (sw_and1 (st_cmp (op_eqX (hu64 hr)) b_eqX (se_ix (se_var 0 rfl (.inl rfl)) (se_var 1 rfl (.inl rfl)) (fun _ _ => rfl)) (se_call (C_sign_back.cal (hr.mono (by decide))) (by rfl) (takes_of rfl rfl rfl rfl) (sr_p (se_ix (se_var 0 rfl (.inl rfl)) (se_op op_sub b_sub (se_op op_sub b_sub (se_callB k_len f_len (by rfl) T.b_len PySem.boot_len (sa_cons (se_var 0 rfl (.inl rfl)) sa_nil)) se_int) (se_var 1 rfl (.inl rfl))) (fun _ _ => rfl)) sr_nil)) (nomark _))))) (sb_one (ss_aug 1 sc_parts.nd rfl (.inl rfl) se_int iop_addX ib_add)))
  (sb_one (ss_ret (se_tup (sa_cons (se_sl (se_var 0 rfl (.inl rfl)) sp_none (sp_some (se_var 1 rfl (.inl rfl)))) (sa_cons (se_sl (se_var 0 rfl (.inl rfl)) (sp_some (se_var 1 rfl (.inl rfl))) (sp_some (se_op op_sub b_sub (se_callB k_len f_len (by rfl) T.b_len PySem.boot_len (sa_cons (se_var 0 rfl (.inl rfl)) sa_nil)) (se_var 1 rfl (.inl rfl))))) sa_nil)))))))) (fun _ _ h => h)) Fu gf (fun _ _ _ _ _ _ us hl => match us, hl with | [_], _ => rfl)
theorem ok_root_parts (T : Tx P w K mg base A_InvalidHistory) (C_parts : CalF P w K mg base [⟨A_InvalidHistory, some "thing"⟩] "parts" 2 s_parts ["history"] F_parts) {fa : Addr} {fd : FuncData} (Fu : Fun K "root_parts" "root_parts" s_root_parts fa fd) (gf : mg "root_parts" = some (.ref fa)) : CalF P w K mg base [⟨A_InvalidHistory, some "thing"⟩] "root_parts" 3 s_root_parts ["history"] F_root_parts :=
  CalF.of (fn_ok (N := N_root_parts) Fu sc_root_parts rfl (by decide) (fun cdv A outer s H E hr =>
  (sb_cons (ss_asg (se_call (C_parts.cal (hr.mono (by decide))) (by rfl) (takes_of rfl rfl rfl rfl) (sr_p (se_var 0 rfl (.inl rfl)) sr_nil)) (sg_unp rfl (sgs_cons (sg_name 1 sc_root_parts.nd rfl (.inl rfl)) (sgs_cons (sg_name 2 sc_root_parts.nd rfl (.inl rfl)) sgs_nil))))
  (sb_cons (ss_for (passes_of rfl) rfl (si_rng2 (by rfl) T.b_range se_int (se_op op_addX b_add (se_callB k_len f_len (by rfl) T.b_len PySem.boot_len (sa_cons (se_var 2 rfl (.inl rfl)) sa_nil)) se_int)) (sg_name 3 sc_root_parts.nd rfl (.inl rfl)) (sb_one (ss_if (SW.pt (sw_and (st_cmp (op_eqX (hu64 hr)) b_eqX (se_callB k_len f_len (by rfl) T.b_len PySem.boot_len (sa_cons (se_var 2 rfl (.inl rfl)) sa_nil)) (se_op op_mulX b_mul (se_var 3 rfl (.inl rfl)) (se_op op_fdivW b_div (se_callB k_len f_len (by rfl) T.b_len PySem.boot_len (sa_cons (se_var 2 rfl (.inl rfl)) sa_nil)) (se_var 3 rfl (.inl rfl)))) (nomark _)) (sw_and1 (st_cmp (op_eqX (hu64 hr)) b_eqX (se_op op_mulX b_mul (se_sl (se_var 2 rfl (.inl rfl)) sp_none (sp_some (se_var 3 rfl (.inl rfl)))) (se_op op_fdivW b_div (se_callB k_len f_len (by rfl) T.b_len PySem.boot_len (sa_cons (se_var 2 rfl (.inl rfl)) sa_nil)) (se_var 3 rfl (.inl rfl)))) (se_var 2 rfl (.inl rfl)) (nomark _))))) (sb_one (ss_ret (se_tup (sa_cons (se_var 1 rfl (.inl rfl)) (sa_cons (se_sl (se_var 2 rfl (.inl rfl)) sp_none (sp_some (se_var 3 rfl (.inl rfl)))) (sa_cons (se_op op_fdivW b_div (se_callB k_len f_len (by rfl) T.b_len PySem.boot_len (sa_cons (se_var 2 rfl (.inl rfl)) sa_nil)) (se_var 3 rfl (.inl rfl))) sa_nil)))))) sb_nil)))
  (sb_one (ss_ret (se_tup (sa_cons (se_var 1 rfl (.inl rfl)) (sa_cons (se_str (by decide +kernel)) (sa_cons se_int sa_nil))))))))) (fun _ _ h => h)) Fu gf (fun _ _ _ _ _ _ us hl => match us, hl with | [_], _ => rfl)
theorem ok_root (T : Tx P w K mg base A_InvalidHistory) (C_back_of : CalF P w K mg base [⟨A_InvalidHistory, some "thing"⟩] "back_of" 2 s_back_of ["history"] F_back_of) (C_struck : CalF P w K mg base [⟨A_InvalidHistory, some "thing"⟩] "struck" 2 s_struck ["letters"] F_struck) (C_require_full : CalF P w K mg base [⟨A_InvalidHistory, some "thing"⟩] "require_full" 3 s_require_full ["history"] F_require_full) (C_root_parts : CalF P w K mg base [⟨A_InvalidHistory, some "thing"⟩] "root_parts" 3 s_root_parts ["history"] F_root_parts) {fa : Addr} {fd : FuncData} (Fu : Fun K "root" "root" s_root fa fd) (gf : mg "root" = some (.ref fa)) : CalF P w K mg base [⟨A_InvalidHistory, some "thing"⟩] "root" 4 s_root ["history"] F_root :=
  CalF.of (fn_ok (N := N_root) Fu sc_root rfl (by decide) (fun cdv A outer s H E hr =>
  (sb_cons (ss_expr (se_call (C_require_full.cal (hr.mono (by decide))) (by rfl) (takes_of rfl rfl rfl rfl) (sr_p (se_var 0 rfl (.inl rfl)) sr_nil)))
  (sb_cons (ss_asg (se_call (C_root_parts.cal (hr.mono (by decide))) (by rfl) (takes_of rfl rfl rfl rfl) (sr_p (se_var 0 rfl (.inl rfl)) sr_nil)) (sg_unp rfl (sgs_cons (sg_name 1 sc_root.nd rfl (.inl rfl)) (sgs_cons (sg_name 2 sc_root.nd rfl (.inl rfl)) (sgs_cons (sg_name 3 sc_root.nd rfl (.inl rfl)) sgs_nil)))))
  (sb_one (ss_ret (se_tup (sa_cons (se_call (C_struck.cal (hr.mono (by decide))) (by rfl) (takes_of rfl rfl rfl rfl) (sr_p (se_op op_addX b_add (se_op op_addX b_add (se_var 1 rfl (.inl rfl)) (se_var 2 rfl (.inl rfl))) (se_call (C_back_of.cal (hr.mono (by decide))) (by rfl) (takes_of rfl rfl rfl rfl) (sr_p (se_var 1 rfl (.inl rfl)) sr_nil))) sr_nil)) (sa_cons (se_var 3 rfl (.inl rfl)) sa_nil)))))))) (fun _ _ h => h)) Fu gf (fun _ _ _ _ _ _ us hl => match us, hl with | [_], _ => rfl)
theorem ok_require_history (T : Tx P w K mg base A_InvalidHistory) (C_is_history : CalF P w K mg base [⟨A_InvalidHistory, some "thing"⟩] "is_history" 2 s_is_history ["thing"] F_is_history) {fa : Addr} {fd : FuncData} (Fu : Fun K "require_history" "require_history" s_require_history fa fd) (gf : mg "require_history" = some (.ref fa)) : CalF P w K mg base [⟨A_InvalidHistory, some "thing"⟩] "require_history" 3 s_require_history ["history"] F_require_history :=
  CalF.of (fn_ok (N := N_require_history) Fu sc_require_history rfl (by decide) (fun cdv A outer s H E hr =>
  (sb_one (ss_if (st_not (st_val (se_call (C_is_history.cal (hr.mono (by decide))) (by rfl) (takes_of rfl rfl rfl rfl) (sr_p (se_var 0 rfl (.inl rfl)) sr_nil)))) (sb_one (ss_raise 0 rfl (takes_of rfl rfl rfl rfl) T.e_InvalidHistory rfl (hr.mono (by decide)) (by rfl) (se_var 0 rfl (.inl rfl)))) sb_nil))) (fun _ _ h => h)) Fu gf (fun _ _ _ _ _ _ us hl => match us, hl with | [_], _ => rfl)
theorem ok_commute (T : Tx P w K mg base A_InvalidHistory) (C_struck : CalF P w K mg base [⟨A_InvalidHistory, some "thing"⟩] "struck" 2 s_struck ["letters"] F_struck) (C_require_history : CalF P w K mg base [⟨A_InvalidHistory, some "thing"⟩] "require_history" 3 s_require_history ["history"] F_require_history) {fa : Addr} {fd : FuncData} (Fu : Fun K "commute" "commute" s_commute fa fd) (gf : mg "commute" = some (.ref fa)) : CalF P w K mg base [⟨A_InvalidHistory, some "thing"⟩] "commute" 4 s_commute ["history", "other"] F_commute :=
  CalF.of (fn_ok (N := N_commute) Fu sc_commute rfl (by decide) (fun cdv A outer s H E hr =>
  (sb_cons (ss_expr (se_call (C_require_history.cal (hr.mono (by decide))) (by rfl) (takes_of rfl rfl rfl rfl) (sr_p (se_var 0 rfl (.inl rfl)) sr_nil)))
  (sb_cons (ss_expr (se_call (C_require_history.cal (hr.mono (by decide))) (by rfl) (takes_of rfl rfl rfl rfl) (sr_p (se_var 1 rfl (.inl rfl)) sr_nil)))
  (sb_one (ss_ret (se_cmp (op_eqX (hu64 hr)) b_eqX (se_call (C_struck.cal (hr.mono (by decide))) (by rfl) (takes_of rfl rfl rfl rfl) (sr_p (se_op op_addX b_add (se_var 0 rfl (.inl rfl)) (se_var 1 rfl (.inl rfl))) sr_nil)) (se_call (C_struck.cal (hr.mono (by decide))) (by rfl) (takes_of rfl rfl rfl rfl) (sr_p (se_op op_addX b_add (se_var 1 rfl (.inl rfl)) (se_var 0 rfl (.inl rfl))) sr_nil)) (nomark _))))))) (fun _ _ h => h)) Fu gf (fun _ _ _ _ _ _ us hl => match us, hl with | [_, _], _ => rfl)
theorem ok__law_mixed (T : Tx P w K mg base A_InvalidHistory)  {fa : Addr} {fd : FuncData} (Fu : Fun K "_law_mixed" "_law_mixed" s__law_mixed fa fd) (gf : mg "_law_mixed" = some (.ref fa)) : CalF P w K mg base [⟨A_InvalidHistory, some "thing"⟩] "_law_mixed" 1 s__law_mixed ["_law_cell", "_law_k"] F__law_mixed :=
  CalF.of (fn_ok (N := N__law_mixed) Fu sc__law_mixed rfl (by decide) (fun cdv A outer s H E hr =>
  (sb_cons (ss_set 2 sc__law_mixed.nd rfl (.inl rfl) (se_op op_mod b_mod (se_callTy call_int1 f_int1 (by rfl) T.b_int PyProof.Rows.boot_int (sa_cons (se_op op_addX b_add (se_op op_addX b_add (se_op op_addX b_add (se_op op_mulX b_mul (se_var 0 rfl (.inl rfl)) se_int) (se_op op_mulX b_mul (se_op op_mulX b_mul se_int (se_var 1 rfl (.inl rfl))) (se_var 1 rfl (.inl rfl)))) (se_op op_mulX b_mul se_int (se_var 1 rfl (.inl rfl)))) se_int) sa_nil)) se_int))
  (sb_one (ss_ret (se_op op_fdivW b_div (se_op op_mod b_mod (se_callTy call_int1 f_int1 (by rfl) T.b_int PyProof.Rows.boot_int (sa_cons (se_op op_addX b_add (se_op op_addX b_add (se_op op_mulX b_mul (se_var 2 rfl (.inl rfl)) (se_var 2 rfl (.inl rfl))) (se_op op_mulX b_mul se_int (se_var 2 rfl (.inl rfl)))) se_int) sa_nil)) se_int) se_int))))) (fun _ _ h => h)) Fu gf (fun _ _ _ _ _ _ us hl => match us, hl with | [_, _], _ => rfl)
theorem ok__law_draw (T : Tx P w K mg base A_InvalidHistory) (C__law_mixed : CalF P w K mg base [⟨A_InvalidHistory, some "thing"⟩] "_law_mixed" 1 s__law_mixed ["_law_cell", "_law_k"] F__law_mixed) {fa : Addr} {fd : FuncData} (Fu : Fun K "_law_draw" "_law_draw" s__law_draw fa fd) (gf : mg "_law_draw" = some (.ref fa)) : CalF P w K mg base [⟨A_InvalidHistory, some "thing"⟩] "_law_draw" 2 s__law_draw ["_law_purse_here", "_law_out_of"] F__law_draw :=
  CalF.of (fn_ok (N := N__law_draw) Fu sc__law_draw rfl (by decide) (fun cdv A outer s H E hr =>
  (sb_cons (ss_if (st_cmp op_gt b_gt (se_ixO 0 rfl (.inl rfl) se_int (fun _ _ => rfl)) se_int (nomark _)) (sb_cons (ss_set 2 sc__law_draw.nd rfl (.inl rfl) (se_op op_mod b_mod (se_callTy call_int1 f_int1 (by rfl) T.b_int PyProof.Rows.boot_int (sa_cons (se_ixO 0 rfl (.inl rfl) se_int (fun _ _ => rfl)) sa_nil)) (se_var 1 rfl (.inl rfl))))
  (sb_cons (ss_setIx 0 rfl (.inl rfl) (se_op op_fdivW b_div (se_ixO 0 rfl (.inl rfl) se_int (fun _ _ => rfl)) (se_var 1 rfl (.inl rfl))) se_int)
  (sb_one (ss_ret (se_var 2 rfl (.inl rfl)))))) sb_nil)
  (sb_cons (ss_setIx 0 rfl (.inl rfl) (se_op op_addX b_add (se_ixO 0 rfl (.inl rfl) se_int (fun _ _ => rfl)) se_int) se_int)
  (sb_one (ss_ret (se_op op_mod b_mod (se_callTy call_int1 f_int1 (by rfl) T.b_int PyProof.Rows.boot_int (sa_cons (se_call (C__law_mixed.cal (hr.mono (by decide))) (by rfl) (takes_of rfl rfl rfl rfl) (sr_p (se_ixO 0 rfl (.inl rfl) se_int (fun _ _ => rfl)) (sr_p (se_ixO 0 rfl (.inl rfl) se_int (fun _ _ => rfl)) sr_nil))) sa_nil)) (se_var 1 rfl (.inl rfl)))))))) (fun _ _ h => h)) Fu gf (fun _ _ _ _ _ _ us hl => match us, hl with | [_, _], _ => rfl)
theorem ok__law_letters (T : Tx P w K mg base A_InvalidHistory) (C__law_draw : CalF P w K mg base [⟨A_InvalidHistory, some "thing"⟩] "_law_draw" 2 s__law_draw ["_law_purse_here", "_law_out_of"] F__law_draw) {fa : Addr} {fd : FuncData} (Fu : Fun K "_law_letters" "_law_letters" s__law_letters fa fd) (gf : mg "_law_letters" = some (.ref fa)) : CalF P w K mg base [⟨A_InvalidHistory, some "thing"⟩] "_law_letters" 3 s__law_letters ["_law_purse_here"] F__law_letters :=
  CalF.of (fn_ok (N := N__law_letters) Fu sc__law_letters rfl (by decide) (fun cdv A outer s H E hr =>
  (sb_cons (ss_set 1 sc__law_letters.nd rfl (.inl rfl) (se_str (by decide +kernel)))
  (sb_cons (ss_set 2 sc__law_letters.nd rfl (.inl rfl) (se_call (C__law_draw.cal (hr.mono (by decide))) (by rfl) (takes_of rfl rfl rfl rfl) (sr_o 0 rfl (.inl rfl) (sr_p se_int sr_nil))))
  (sb_cons (ss_set 3 sc__law_letters.nd rfl (.inl rfl) (se_call (C__law_draw.cal (hr.mono (by decide))) (by rfl) (takes_of rfl rfl rfl rfl) (sr_o 0 rfl (.inl rfl) (sr_p se_int sr_nil))))
  (sb_cons (ss_if (st_cmp (op_eqX (hu64 hr)) b_eqX (se_var 2 rfl (.inl rfl)) se_int (nomark _)) (sb_one (ss_ret (se_op op_addX b_add (se_ix (se_var 1 rfl (.inl rfl)) (se_var 3 rfl (.inl rfl)) (fun _ _ => rfl)) (se_ix (se_var 1 rfl (.inl rfl)) (se_op op_addX b_add (se_op op_addX b_add (se_var 3 rfl (.inl rfl)) se_int) (se_call (C__law_draw.cal (hr.mono (by decide))) (by rfl) (takes_of rfl rfl rfl rfl) (sr_o 0 rfl (.inl rfl) (sr_p (se_op op_sub b_sub se_int (se_var 3 rfl (.inl rfl))) sr_nil)))) (fun _ _ => rfl))))) sb_nil)
  (sb_one (ss_ret (se_ix (se_lst (sa_cons (se_str (by decide +kernel)) (sa_cons (se_str (by decide +kernel)) (sa_cons (se_str (by decide +kernel)) (sa_cons (se_str (by decide +kernel)) (sa_cons (se_str (by decide +kernel)) (sa_cons (se_str (by decide +kernel)) sa_nil))))))) (se_var 2 rfl (.inl rfl)) (fun _ _ => rfl))))))))) (fun _ _ h => h)) Fu gf (fun _ _ _ _ _ _ us hl => match us, hl with | [_], _ => rfl)
theorem ok__law_purse (T : Tx P w K mg base A_InvalidHistory) (C__law_letters : CalF P w K mg base [⟨A_InvalidHistory, some "thing"⟩] "_law_letters" 3 s__law_letters ["_law_purse_here"] F__law_letters) {fa : Addr} {fd : FuncData} (Fu : Fun K "_law_purse" "_law_purse" s__law_purse fa fd) (gf : mg "_law_purse" = some (.ref fa)) : CalF P w K mg base [⟨A_InvalidHistory, some "thing"⟩] "_law_purse" 4 s__law_purse ["_law_cells", "_law_at"] F__law_purse :=
  CalF.of (fn_ok (N := N__law_purse) Fu sc__law_purse rfl (by decide) (fun cdv A outer s H E hr =>
  (sb_cons (ss_set 2 sc__law_purse.nd rfl (.inl rfl) se_int)
  (sb_cons (ss_if (st_cmp op_ltX b_lt (se_var 1 rfl (.inl rfl)) (se_callB k_len f_len (by rfl) T.b_len PySem.boot_len (sa_cons (se_var 0 rfl (.inl rfl)) sa_nil)) (nomark _)) (sb_one (ss_set 2 sc__law_purse.nd rfl (.inl rfl) (se_ix (se_var 0 rfl (.inl rfl)) (se_var 1 rfl (.inl rfl)) (fun _ _ => rfl)))) sb_nil)
  (sb_cons (ss_setO 3 sc__law_purse.nd rfl (.inl rfl) (so_lst (sa_cons (se_op op_mod b_mod (se_callTy call_int1 f_int1 (by rfl) T.b_int PyProof.Rows.boot_int (sa_cons (se_callB (call_max2 rfl) f_max2 (by rfl) T.b_max boot_max (sa_cons (se_op op_sub b_sub (se_var 2 rfl (.inl rfl)) (se_op op_powX b_pow se_int se_int)) (sa_cons se_int sa_nil))) sa_nil)) (se_op op_powX b_pow (se_op op_powX b_pow se_int se_int) se_int)) (sa_cons (se_op op_mod b_mod (se_callTy call_int1 f_int1 (by rfl) T.b_int PyProof.Rows.boot_int (sa_cons (se_var 2 rfl (.inl rfl)) sa_nil)) se_int) (sa_cons (se_op op_mulX b_mul se_int (se_var 1 rfl (.inl rfl))) sa_nil)))))
  (sb_one (ss_retO (so_catO 3 rfl (.inl rfl) (se_lst (sa_cons (se_call (C__law_letters.cal (hr.mono (by decide))) (by rfl) (takes_of rfl rfl rfl rfl) (sr_o 3 rfl (.inl rfl) sr_nil)) sa_nil))))))))) (fun _ _ h => h)) Fu gf (fun _ _ _ _ _ _ us hl => match us, hl with | [_, _], _ => rfl)
theorem ok__law_sign_back (T : Tx P w K mg base A_InvalidHistory)  {fa : Addr} {fd : FuncData} (Fu : Fun K "_law_sign_back" "_law_sign_back" s__law_sign_back fa fd) (gf : mg "_law_sign_back" = some (.ref fa)) : CalF P w K mg base [⟨A_InvalidHistory, some "thing"⟩] "_law_sign_back" 1 s__law_sign_back ["_law_sign"] F__law_sign_back :=
  CalF.of (fn_ok (N := N__law_sign_back) Fu sc__law_sign_back rfl (by decide) (fun cdv A outer s H E hr =>
  (sb_one (ss_ret (se_ix (se_lst (sa_cons (se_upper (se_var 0 rfl (.inl rfl))) (sa_cons (se_lower (se_var 0 rfl (.inl rfl))) sa_nil))) (se_callTy call_int1 f_int1 (by rfl) T.b_int PyProof.Rows.boot_int (sa_cons (se_cmp (op_neX (hu64 hr)) b_neX (se_var 0 rfl (.inl rfl)) (se_lower (se_var 0 rfl (.inl rfl))) (nomark _)) sa_nil)) (fun _ _ => rfl))))) (fun _ _ h => h)) Fu gf (fun _ _ _ _ _ _ us hl => match us, hl with | [_], _ => rfl)
theorem ok__law_struck (T : Tx P w K mg base A_InvalidHistory) (C__law_sign_back : CalF P w K mg base [⟨A_InvalidHistory, some "thing"⟩] "_law_sign_back" 1 s__law_sign_back ["_law_sign"] F__law_sign_back) {fa : Addr} {fd : FuncData} (Fu : Fun K "_law_struck" "_law_struck" s__law_struck fa fd) (gf : mg "_law_struck" = some (.ref fa)) : CalF P w K mg base [⟨A_InvalidHistory, some "thing"⟩] "_law_struck" 2 s__law_struck ["_law_text"] F__law_struck :=
  CalF.of (fn_ok (N := N__law_struck) Fu sc__law_struck rfl (by decide) (fun cdv A outer s H E hr =>
  (sb_cons (ss_setO 1 sc__law_struck.nd rfl (.inl rfl) (so_lst sa_nil))
  (sb_cons (ss_for (passes_of rfl) rfl (si_any (se_var 0 rfl (.inl rfl))) (sg_name 2 sc__law_struck.nd rfl (.inl rfl)) (sb_one (ss_if (SW.pt (sw_and (st_cmpO 1 rfl (.inl rfl) (op_neX (hu64 hr)) b_neX (se_lst sa_nil) (nomark _)) (sw_and1 (st_cmp (op_eqX (hu64 hr)) b_eqX (se_ixO 1 rfl (.inl rfl) (se_neg se_int) (fun _ _ => rfl)) (se_call (C__law_sign_back.cal (hr.mono (by decide))) (by rfl) (takes_of rfl rfl rfl rfl) (sr_p (se_var 2 rfl (.inl rfl)) sr_nil)) (nomark _))))) (sb_one (ss_expr (se_pop 1 rfl (.inl rfl)))) (sb_one (ss_append 1 rfl (.inl rfl) (se_var 2 rfl (.inl rfl)))))))
  (sb_one (ss_ret (se_joinO 1 rfl (.inl rfl) (se_str (by decide +kernel)))))))) (fun _ _ h => h)) Fu gf (fun _ _ _ _ _ _ us hl => match us, hl with | [_], _ => rfl)
theorem ok__law_back (T : Tx P w K mg base A_InvalidHistory) (C__law_sign_back : CalF P w K mg base [⟨A_InvalidHistory, some "thing"⟩] "_law_sign_back" 1 s__law_sign_back ["_law_sign"] F__law_sign_back) {fa : Addr} {fd : FuncData} (Fu : Fun K "_law_back" "_law_back" s__law_back fa fd) (gf : mg "_law_back" = some (.ref fa)) : CalF P w K mg base [⟨A_InvalidHistory, some "thing"⟩] "_law_back" 2 s__law_back ["_law_text"] F__law_back :=
  CalF.of (fn_ok (N := N__law_back) Fu sc__law_back rfl (by decide) (fun cdv A outer s H E hr =>
  (sb_one (ss_ret (se_join (se_str (by decide +kernel)) (SO.se (so_lc (own := [("_law_sign", 1)]) rfl sc__law_back.nd (si_any (se_revX (se_var 0 rfl (.inl rfl)))) (blkOk_by (N := N__law_back) (sc := defScope s__law_back) (by decide +kernel)) (fun _ _ _ _ _ => (sg_name 1 sc__law_back.nd rfl (.inl rfl))) (fun _ _ _ _ _ => pts_yes) (fun _ _ _ _ _ => (se_call (C__law_sign_back.cal (hr.mono (by decide))) (by rfl) takes0 (sr_p (se_var 1 rfl (.inl rfl)) sr_nil))) (by decide))))))) (fun _ _ h => h)) Fu gf (fun _ _ _ _ _ _ us hl => match us, hl with | [_], _ => rfl)
theorem ok__law_history (T : Tx P w K mg base A_InvalidHistory) (C__law_draw : CalF P w K mg base [⟨A_InvalidHistory, some "thing"⟩] "_law_draw" 2 s__law_draw ["_law_purse_here", "_law_out_of"] F__law_draw) (C__law_sign_back : CalF P w K mg base [⟨A_InvalidHistory, some "thing"⟩] "_law_sign_back" 1 s__law_sign_back ["_law_sign"] F__law_sign_back) {fa : Addr} {fd : FuncData} (Fu : Fun K "_law_history" "_law_history" s__law_history fa fd) (gf : mg "_law_history" = some (.ref fa)) : CalF P w K mg base [⟨A_InvalidHistory, some "thing"⟩] "_law_history" 3 s__law_history ["_law_purse_here", "_law_most"] F__law_history :=
  CalF.of (fn_ok (N := N__law_history) Fu sc__law_history rfl (by decide) (fun cdv A outer s H E hr =>
  (sb_cons (ss_set 2 sc__law_history.nd rfl (.inl rfl) (se_str (by decide +kernel)))
  (sb_cons (ss_for (passes_of rfl) rfl (si_rng1 (by rfl) T.b_range (se_call (C__law_draw.cal (hr.mono (by decide))) (by rfl) (takes_of rfl rfl rfl rfl) (sr_o 0 rfl (.inl rfl) (sr_p (se_op op_addX b_add (se_var 1 rfl (.inl rfl)) se_int) sr_nil)))) (sg_name 3 sc__law_history.nd rfl (.inl rfl)) (sb_cons (ss_set 4 sc__law_history.nd rfl (.inl rfl) (se_ix (se_ixO 0 rfl (.inl rfl) se_int (fun _ _ => rfl)) (se_call (C__law_draw.cal (hr.mono (by decide))) (by rfl) (takes_of rfl rfl rfl rfl) (sr_o 0 rfl (.inl rfl) (sr_p (se_callB k_len f_len (by rfl) T.b_len PySem.boot_len (sa_cons (se_ixO 0 rfl (.inl rfl) se_int (fun _ _ => rfl)) sa_nil)) sr_nil))) (fun _ _ => rfl)))
  (sb_cons (ss_set 4 sc__law_history.nd rfl (.inl rfl) (se_ix (se_lst (sa_cons (se_var 4 rfl (.inl rfl)) (sa_cons (se_call (C__law_sign_back.cal (hr.mono (by decide))) (by rfl) (takes_of rfl rfl rfl rfl) (sr_p (se_var 4 rfl (.inl rfl)) sr_nil)) sa_nil))) (se_call (C__law_draw.cal (hr.mono (by decide))) (by rfl) (takes_of rfl rfl rfl rfl) (sr_o 0 rfl (.inl rfl) (sr_p se_int sr_nil))) (fun _ _ => rfl)))
  (sb_one (ss_if (st_cmp (op_neX (hu64 hr)) b_neX (se_sl (se_var 2 rfl (.inl rfl)) (sp_some (se_neg se_int)) sp_none) (se_call (C__law_sign_back.cal (hr.mono (by decide))) (by rfl) (takes_of rfl rfl rfl rfl) (sr_p (se_var 4 rfl (.inl rfl)) sr_nil)) (nomark _)) (sb_one (ss_set 2 sc__law_history.nd rfl (.inl rfl) (se_op op_addX b_add (se_var 2 rfl (.inl rfl)) (se_var 4 rfl (.inl rfl))))) sb_nil)))))
  (sb_one (ss_ret (se_var 2 rfl (.inl rfl))))))) (fun _ _ h => h)) Fu gf (fun _ _ _ _ _ _ us hl => match us, hl with | [_, _], _ => rfl)
theorem ok__law_caught (T : Tx P w K mg base A_InvalidHistory) (C_root : CalF P w K mg base [⟨A_InvalidHistory, some "thing"⟩] "root" 4 s_root ["history"] F_root) (C_commute : CalF P w K mg base [⟨A_InvalidHistory, some "thing"⟩] "commute" 4 s_commute ["history", "other"] F_commute) {fa : Addr} {fd : FuncData} (Fu : Fun K "_law_caught" "_law_caught" s__law_caught fa fd) (gf : mg "_law_caught" = some (.ref fa)) : CalF P w K mg base [⟨A_InvalidHistory, some "thing"⟩] "_law_caught" 5 s__law_caught ["_law_way", "_law_text", "_law_more"] F__law_caught :=
  CalF.of (fn_ok (N := N__law_caught) Fu sc__law_caught rfl (by decide) (fun cdv A outer s H E hr =>
  (sb_cons (ss_set 3 sc__law_caught.nd rfl (.inl rfl) se_non)
  (sb_cons (ss_try (mS := ms__law_caught_0) 4 0 rfl rfl sc__law_caught.nd rfl rfl ⟨rfl, by decide, .inl T.e_InvalidHistory.gC⟩ (takes_of rfl rfl rfl rfl) rfl (T.xm_InvalidHistory) (fun W pn xe tk1 po1 => (sb_one (ss_set 3 sc__law_caught.nd rfl (.inl rfl) (se_lst (sa_cons (se_str (by decide +kernel)) (sa_cons (se_if (st_cmp (op_eqX (hu64 hr)) b_eqX (se_var 0 rfl (.inl rfl)) se_int (nomark _)) (se_call (C_root.cal (hr.mono (by decide))) (by rfl) tk1 (sr_p (se_var 1 rfl (.inl rfl)) sr_nil)) (se_call (C_commute.cal (hr.mono (by decide))) (by rfl) tk1 (sr_p (se_var 1 rfl (.inl rfl)) (sr_p (se_var 2 rfl (.inl rfl)) sr_nil)))) sa_nil)))))) (fun a oe dd pn hz hf => (sb_one (ss_set 3 sc__law_caught.nd rfl (.inl rfl) (se_lst (sa_cons (se_str (by decide +kernel)) (sa_cons (se_xf 4 rfl (.inl rfl) T.e_InvalidHistory.xf T.e_InvalidHistory.no hz hf) sa_nil)))))) ms__law_caught_0_is)
  (sb_one (ss_ret (se_var 3 rfl (.inl rfl))))))) (fun _ _ h => h)) Fu gf (fun _ _ _ _ _ _ us hl => match us, hl with | [_, _, _], _ => rfl)
theorem ok__law_halves (T : Tx P w K mg base A_InvalidHistory) (C__law_sign_back : CalF P w K mg base [⟨A_InvalidHistory, some "thing"⟩] "_law_sign_back" 1 s__law_sign_back ["_law_sign"] F__law_sign_back) {fa : Addr} {fd : FuncData} (Fu : Fun K "_law_halves" "_law_halves" s__law_halves fa fd) (gf : mg "_law_halves" = some (.ref fa)) : CalF P w K mg base [⟨A_InvalidHistory, some "thing"⟩] "_law_halves" 2 s__law_halves ["_law_text"] F__law_halves :=
  CalF.of (fn_ok (N := N__law_halves) Fu sc__law_halves rfl (by decide) (fun cdv A outer s H E hr =>
  (sb_cons (ss_set 1 sc__law_halves.nd rfl (.inl rfl) se_int)
  (sb_cons (ss_while 1000000000 (passes_of rfl) (SW.pt (sw_and (st_cmp op_ltX b_lt (se_op op_addX b_add (se_op op_mulX b_mul se_int (se_var 1 rfl (.inl rfl))) se_int) (se_callB k_len f_len (by rfl) T.b_len PySem.boot_len (sa_cons (se_var 0 rfl (.inl rfl)) sa_nil)) (nomark _)) (sw_and1 (st_cmp (op_eqX (hu64 hr)) b_eqX (se_ix (se_var 0 rfl (.inl rfl)) (se_var 1 rfl (.inl rfl)) (fun _ _ => rfl)) (se_call (C__law_sign_back.cal (hr.mono (by decide))) (by rfl) (takes_of rfl rfl rfl rfl) (sr_p (se_ix (se_var 0 rfl (.inl rfl)) (se_op op_sub b_sub (se_neg se_int) (se_var 1 rfl (.inl rfl))) (fun _ _ => rfl)) sr_nil)) (nomark _))))) (sb_one (ss_set 1 sc__law_halves.nd rfl (.inl rfl) (se_op op_addX b_add (se_var 1 rfl (.inl rfl)) se_int))))
  (sb_one (ss_ret (se_lst (sa_cons (se_sl (se_var 0 rfl (.inl rfl)) sp_none (sp_some (se_var 1 rfl (.inl rfl)))) (sa_cons (se_sl (se_var 0 rfl (.inl rfl)) (sp_some (se_var 1 rfl (.inl rfl))) (sp_some (se_op op_sub b_sub (se_callB k_len f_len (by rfl) T.b_len PySem.boot_len (sa_cons (se_var 0 rfl (.inl rfl)) sa_nil)) (se_var 1 rfl (.inl rfl))))) sa_nil)))))))) (fun _ _ h => h)) Fu gf (fun _ _ _ _ _ _ us hl => match us, hl with | [_], _ => rfl)
theorem ok__law_due (T : Tx P w K mg base A_InvalidHistory) (C__law_back : CalF P w K mg base [⟨A_InvalidHistory, some "thing"⟩] "_law_back" 2 s__law_back ["_law_text"] F__law_back) (C__law_halves : CalF P w K mg base [⟨A_InvalidHistory, some "thing"⟩] "_law_halves" 2 s__law_halves ["_law_text"] F__law_halves) {fa : Addr} {fd : FuncData} (Fu : Fun K "_law_due" "_law_due" s__law_due fa fd) (gf : mg "_law_due" = some (.ref fa)) : CalF P w K mg base [⟨A_InvalidHistory, some "thing"⟩] "_law_due" 3 s__law_due ["_law_text"] F__law_due :=
  CalF.of (fn_ok (N := N__law_due) Fu sc__law_due rfl (by decide) (fun cdv A outer s H E hr =>
  (sb_cons (ss_asg (se_call (C__law_halves.cal (hr.mono (by decide))) (by rfl) (takes_of rfl rfl rfl rfl) (sr_p (se_var 0 rfl (.inl rfl)) sr_nil)) (sg_unp rfl (sgs_cons (sg_name 1 sc__law_due.nd rfl (.inl rfl)) (sgs_cons (sg_name 2 sc__law_due.nd rfl (.inl rfl)) sgs_nil))))
  (sb_cons (ss_for (passes_of rfl) rfl (si_rng2 (by rfl) T.b_range se_int (se_op op_addX b_add (se_callB k_len f_len (by rfl) T.b_len PySem.boot_len (sa_cons (se_var 2 rfl (.inl rfl)) sa_nil)) se_int)) (sg_name 3 sc__law_due.nd rfl (.inl rfl)) (sb_one (ss_if (SW.pt (sw_and (st_cmp (op_eqX (hu64 hr)) b_eqX (se_callB k_len f_len (by rfl) T.b_len PySem.boot_len (sa_cons (se_var 2 rfl (.inl rfl)) sa_nil)) (se_op op_mulX b_mul (se_var 3 rfl (.inl rfl)) (se_op op_fdivW b_div (se_callB k_len f_len (by rfl) T.b_len PySem.boot_len (sa_cons (se_var 2 rfl (.inl rfl)) sa_nil)) (se_var 3 rfl (.inl rfl)))) (nomark _)) (sw_and1 (st_cmp (op_eqX (hu64 hr)) b_eqX (se_op op_mulX b_mul (se_sl (se_var 2 rfl (.inl rfl)) sp_none (sp_some (se_var 3 rfl (.inl rfl)))) (se_op op_fdivW b_div (se_callB k_len f_len (by rfl) T.b_len PySem.boot_len (sa_cons (se_var 2 rfl (.inl rfl)) sa_nil)) (se_var 3 rfl (.inl rfl)))) (se_var 2 rfl (.inl rfl)) (nomark _))))) (sb_one (ss_ret (se_tup (sa_cons (se_op op_addX b_add (se_op op_addX b_add (se_var 1 rfl (.inl rfl)) (se_sl (se_var 2 rfl (.inl rfl)) sp_none (sp_some (se_var 3 rfl (.inl rfl))))) (se_call (C__law_back.cal (hr.mono (by decide))) (by rfl) (takes_of rfl rfl rfl rfl) (sr_p (se_var 1 rfl (.inl rfl)) sr_nil))) (sa_cons (se_op op_fdivW b_div (se_callB k_len f_len (by rfl) T.b_len PySem.boot_len (sa_cons (se_var 2 rfl (.inl rfl)) sa_nil)) (se_var 3 rfl (.inl rfl))) sa_nil))))) sb_nil)))
  (sb_one (ss_ret se_non))))) (fun _ _ h => h)) Fu gf (fun _ _ _ _ _ _ us hl => match us, hl with | [_], _ => rfl)
theorem ok__law_times (T : Tx P w K mg base A_InvalidHistory) (C__law_struck : CalF P w K mg base [⟨A_InvalidHistory, some "thing"⟩] "_law_struck" 2 s__law_struck ["_law_text"] F__law_struck) {fa : Addr} {fd : FuncData} (Fu : Fun K "_law_times" "_law_times" s__law_times fa fd) (gf : mg "_law_times" = some (.ref fa)) : CalF P w K mg base [⟨A_InvalidHistory, some "thing"⟩] "_law_times" 3 s__law_times ["_law_text", "_law_times_here"] F__law_times :=
  CalF.of (fn_ok (N := N__law_times) Fu sc__law_times rfl (by decide) (fun cdv A outer s H E hr =>
  (sb_cons (ss_set 2 sc__law_times.nd rfl (.inl rfl) (se_str (by decide +kernel)))
  (sb_cons (ss_for (passes_of rfl) rfl (si_rng1 (by rfl) T.b_range (se_var 1 rfl (.inl rfl))) (sg_name 3 sc__law_times.nd rfl (.inl rfl)) (sb_one (ss_set 2 sc__law_times.nd rfl (.inl rfl) (se_call (C__law_struck.cal (hr.mono (by decide))) (by rfl) (takes_of rfl rfl rfl rfl) (sr_p (se_op op_addX b_add (se_var 2 rfl (.inl rfl)) (se_var 0 rfl (.inl rfl))) sr_nil)))))
  (sb_one (ss_ret (se_var 2 rfl (.inl rfl))))))) (fun _ _ h => h)) Fu gf (fun _ _ _ _ _ _ us hl => match us, hl with | [_, _], _ => rfl)
theorem ok__law_right (T : Tx P w K mg base A_InvalidHistory) (C_root : CalF P w K mg base [⟨A_InvalidHistory, some "thing"⟩] "root" 4 s_root ["history"] F_root) (C_commute : CalF P w K mg base [⟨A_InvalidHistory, some "thing"⟩] "commute" 4 s_commute ["history", "other"] F_commute) (C__law_draw : CalF P w K mg base [⟨A_InvalidHistory, some "thing"⟩] "_law_draw" 2 s__law_draw ["_law_purse_here", "_law_out_of"] F__law_draw) (C__law_struck : CalF P w K mg base [⟨A_InvalidHistory, some "thing"⟩] "_law_struck" 2 s__law_struck ["_law_text"] F__law_struck) (C__law_back : CalF P w K mg base [⟨A_InvalidHistory, some "thing"⟩] "_law_back" 2 s__law_back ["_law_text"] F__law_back) (C__law_history : CalF P w K mg base [⟨A_InvalidHistory, some "thing"⟩] "_law_history" 3 s__law_history ["_law_purse_here", "_law_most"] F__law_history) (C__law_caught : CalF P w K mg base [⟨A_InvalidHistory, some "thing"⟩] "_law_caught" 5 s__law_caught ["_law_way", "_law_text", "_law_more"] F__law_caught) (C__law_due : CalF P w K mg base [⟨A_InvalidHistory, some "thing"⟩] "_law_due" 3 s__law_due ["_law_text"] F__law_due) (C__law_times : CalF P w K mg base [⟨A_InvalidHistory, some "thing"⟩] "_law_times" 3 s__law_times ["_law_text", "_law_times_here"] F__law_times) {fa : Addr} {fd : FuncData} (Fu : Fun K "_law_right" "_law_right" s__law_right fa fd) (gf : mg "_law_right" = some (.ref fa)) : CalF P w K mg base [⟨A_InvalidHistory, some "thing"⟩] "_law_right" 6 s__law_right ["_law_purse_here"] F__law_right :=
  CalF.of (fn_ok (N := N__law_right) Fu sc__law_right rfl (by decide) (fun cdv A outer s H E hr =>
  (sb_cons (ss_par 1 2 rfl sc__law_right.nd rfl rfl (by decide) rfl rfl (sa_cons (se_call (C__law_history.cal (hr.mono (by decide))) (by rfl) (takes_of rfl rfl rfl rfl) (sr_o 0 rfl (.inl rfl) (sr_p se_int sr_nil))) (sa_cons (se_call (C__law_history.cal (hr.mono (by decide))) (by rfl) (takes_of rfl rfl rfl rfl) (sr_o 0 rfl (.inl rfl) (sr_p se_int sr_nil))) sa_nil)))
  (sb_cons (ss_set 3 sc__law_right.nd rfl (.inl rfl) (se_call (C__law_struck.cal (hr.mono (by decide))) (by rfl) (takes_of rfl rfl rfl rfl) (sr_p (se_op op_addX b_add (se_op op_addX b_add (se_var 1 rfl (.inl rfl)) (se_call (C__law_times.cal (hr.mono (by decide))) (by rfl) (takes_of rfl rfl rfl rfl) (sr_p (se_var 2 rfl (.inl rfl)) (sr_p (se_op op_addX b_add se_int (se_call (C__law_draw.cal (hr.mono (by decide))) (by rfl) (takes_of rfl rfl rfl rfl) (sr_o 0 rfl (.inl rfl) (sr_p se_int sr_nil)))) sr_nil)))) (se_call (C__law_back.cal (hr.mono (by decide))) (by rfl) (takes_of rfl rfl rfl rfl) (sr_p (se_var 1 rfl (.inl rfl)) sr_nil))) sr_nil)))
  (sb_cons (ss_set 4 sc__law_right.nd rfl (.inl rfl) (se_ix (se_lst (sa_cons (se_call (C__law_history.cal (hr.mono (by decide))) (by rfl) (takes_of rfl rfl rfl rfl) (sr_o 0 rfl (.inl rfl) (sr_p se_int sr_nil))) (sa_cons (se_call (C__law_struck.cal (hr.mono (by decide))) (by rfl) (takes_of rfl rfl rfl rfl) (sr_p (se_op op_addX b_add (se_op op_addX b_add (se_var 1 rfl (.inl rfl)) (se_call (C__law_times.cal (hr.mono (by decide))) (by rfl) (takes_of rfl rfl rfl rfl) (sr_p (se_var 2 rfl (.inl rfl)) (sr_p se_int sr_nil)))) (se_call (C__law_back.cal (hr.mono (by decide))) (by rfl) (takes_of rfl rfl rfl rfl) (sr_p (se_var 1 rfl (.inl rfl)) sr_nil))) sr_nil)) sa_nil))) (se_call (C__law_draw.cal (hr.mono (by decide))) (by rfl) (takes_of rfl rfl rfl rfl) (sr_o 0 rfl (.inl rfl) (sr_p se_int sr_nil))) (fun _ _ => rfl)))
  (sb_cons (ss_set 4 sc__law_right.nd rfl (.inl rfl) (se_ix (se_lst (sa_cons (se_var 4 rfl (.inl rfl)) (sa_cons (se_call (C__law_back.cal (hr.mono (by decide))) (by rfl) (takes_of rfl rfl rfl rfl) (sr_p (se_var 4 rfl (.inl rfl)) sr_nil)) sa_nil))) (se_call (C__law_draw.cal (hr.mono (by decide))) (by rfl) (takes_of rfl rfl rfl rfl) (sr_o 0 rfl (.inl rfl) (sr_p se_int sr_nil))) (fun _ _ => rfl)))
  (sb_cons (ss_if (st_cmp (op_neX (hu64 hr)) b_neX (se_var 3 rfl (.inl rfl)) (se_str (by decide +kernel)) (nomark _)) (sb_cons (ss_set 5 sc__law_right.nd rfl (.inl rfl) (se_call (C_root.cal (hr.mono (by decide))) (by rfl) (takes_of rfl rfl rfl rfl) (sr_p (se_var 3 rfl (.inl rfl)) sr_nil)))
  (sb_one (ss_if (SW.pt (sw_or (st_cmp (op_neX (hu64 hr)) b_neX (se_callTy (call_strX hr) f_strD (by rfl) T.b_str boot_str (sa_cons (se_var 5 rfl (.inl rfl)) sa_nil)) (se_callTy (call_strX hr) f_strD (by rfl) T.b_str boot_str (sa_cons (se_call (C__law_due.cal (hr.mono (by decide))) (by rfl) (takes_of rfl rfl rfl rfl) (sr_p (se_var 3 rfl (.inl rfl)) sr_nil)) sa_nil)) (nomark _)) (sw_or (st_cmp (op_neX (hu64 hr)) b_neX (se_kw0 (ks := ["history"]) (ix := [0]) ((C_root.kw bw_root_history).cal (hr.mono (by decide))) (by rfl) (takes_of rfl rfl rfl rfl) (sk_p (se_var 3 rfl (.inl rfl)) sk_nil)) (se_var 5 rfl (.inl rfl)) (nomark _)) (sw_or1 (st_cmp (op_neX (hu64 hr)) b_neX (se_call (C__law_times.cal (hr.mono (by decide))) (by rfl) (takes_of rfl rfl rfl rfl) (sr_p (se_ix (se_var 5 rfl (.inl rfl)) se_int (fun _ _ => rfl)) (sr_p (se_ix (se_var 5 rfl (.inl rfl)) se_int (fun _ _ => rfl)) sr_nil))) (se_var 3 rfl (.inl rfl)) (nomark _)))))) (sb_one (ss_ret se_bl)) sb_nil))) sb_nil)
  (sb_cons (ss_set 6 sc__law_right.nd rfl (.inl rfl) (se_cmp (op_eqX (hu64 hr)) b_eqX (se_call (C__law_struck.cal (hr.mono (by decide))) (by rfl) (takes_of rfl rfl rfl rfl) (sr_p (se_op op_addX b_add (se_var 3 rfl (.inl rfl)) (se_var 4 rfl (.inl rfl))) sr_nil)) (se_call (C__law_struck.cal (hr.mono (by decide))) (by rfl) (takes_of rfl rfl rfl rfl) (sr_p (se_op op_addX b_add (se_var 4 rfl (.inl rfl)) (se_var 3 rfl (.inl rfl))) sr_nil)) (nomark _)))
  (sb_cons (ss_if (SW.pt (sw_or (st_cmp (op_neX (hu64 hr)) b_neX (se_callTy (call_strX hr) f_strD (by rfl) T.b_str boot_str (sa_cons (se_call (C_commute.cal (hr.mono (by decide))) (by rfl) (takes_of rfl rfl rfl rfl) (sr_p (se_var 3 rfl (.inl rfl)) (sr_p (se_var 4 rfl (.inl rfl)) sr_nil))) sa_nil)) (se_callTy (call_strX hr) f_strD (by rfl) T.b_str boot_str (sa_cons (se_var 6 rfl (.inl rfl)) sa_nil)) (nomark _)) (sw_or1 (st_cmp (op_neX (hu64 hr)) b_neX (se_callTy (call_strX hr) f_strD (by rfl) T.b_str boot_str (sa_cons (se_kw0 (ks := ["other", "history"]) (ix := [1, 0]) ((C_commute.kw bw_commute_other_history).cal (hr.mono (by decide))) (by rfl) (takes_of rfl rfl rfl rfl) (sk_p (se_var 3 rfl (.inl rfl)) (sk_p (se_var 4 rfl (.inl rfl)) sk_nil))) sa_nil)) (se_callTy (call_strX hr) f_strD (by rfl) T.b_str boot_str (sa_cons (se_var 6 rfl (.inl rfl)) sa_nil)) (nomark _))))) (sb_one (ss_ret se_bl)) sb_nil)
  (sb_cons (ss_if (SW.pt (sw_and (st_cmp (op_neX (hu64 hr)) b_neX (se_var 3 rfl (.inl rfl)) (se_str (by decide +kernel)) (nomark _)) (sw_and1 (st_cmp (op_neX (hu64 hr)) b_neX (se_var 4 rfl (.inl rfl)) (se_str (by decide +kernel)) (nomark _))))) (sb_cons (ss_par 7 8 rfl sc__law_right.nd rfl rfl (by decide) rfl rfl (sa_cons (se_ix (se_call (C__law_due.cal (hr.mono (by decide))) (by rfl) (takes_of rfl rfl rfl rfl) (sr_p (se_var 3 rfl (.inl rfl)) sr_nil)) se_int (fun _ _ => rfl)) (sa_cons (se_ix (se_call (C__law_due.cal (hr.mono (by decide))) (by rfl) (takes_of rfl rfl rfl rfl) (sr_p (se_var 4 rfl (.inl rfl)) sr_nil)) se_int (fun _ _ => rfl)) sa_nil)))
  (sb_one (ss_if (st_cmp (op_neX (hu64 hr)) b_neX (se_var 6 rfl (.inl rfl)) (se_cmp op_inX (b_in false) (se_var 7 rfl (.inl rfl)) (se_tup (sa_cons (se_var 8 rfl (.inl rfl)) (sa_cons (se_call (C__law_back.cal (hr.mono (by decide))) (by rfl) (takes_of rfl rfl rfl rfl) (sr_p (se_var 8 rfl (.inl rfl)) sr_nil)) sa_nil))) (by rfl)) (nomark _)) (sb_one (ss_ret se_bl)) sb_nil))) sb_nil)
  (sb_cons (ss_set 9 sc__law_right.nd rfl (.inl rfl) (se_ix (se_lst (sa_cons se_non (sa_cons (se_str (by decide +kernel)) (sa_cons (se_str (by decide +kernel)) (sa_cons se_int (sa_cons (se_lst (sa_cons (se_str (by decide +kernel)) sa_nil)) (sa_cons (se_tup (sa_cons (se_str (by decide +kernel)) sa_nil)) (sa_cons se_bl (sa_cons (se_str (by decide +kernel)) sa_nil))))))))) (se_call (C__law_draw.cal (hr.mono (by decide))) (by rfl) (takes_of rfl rfl rfl rfl) (sr_o 0 rfl (.inl rfl) (sr_p se_int sr_nil))) (fun _ _ => rfl)))
  (sb_cons (ss_set 5 sc__law_right.nd rfl (.inl rfl) (se_lst (sa_cons (se_call (C__law_caught.cal (hr.mono (by decide))) (by rfl) (takes_of rfl rfl rfl rfl) (sr_p se_int (sr_p (se_var 9 rfl (.inl rfl)) (sr_p (se_str (by decide +kernel)) sr_nil)))) (sa_cons (se_call (C__law_caught.cal (hr.mono (by decide))) (by rfl) (takes_of rfl rfl rfl rfl) (sr_p se_int (sr_p (se_str (by decide +kernel)) (sr_p (se_str (by decide +kernel)) sr_nil)))) (sa_cons (se_call (C__law_caught.cal (hr.mono (by decide))) (by rfl) (takes_of rfl rfl rfl rfl) (sr_p se_int (sr_p (se_var 9 rfl (.inl rfl)) (sr_p se_int sr_nil)))) (sa_cons (se_call (C__law_caught.cal (hr.mono (by decide))) (by rfl) (takes_of rfl rfl rfl rfl) (sr_p se_int (sr_p (se_var 3 rfl (.inl rfl)) (sr_p (se_var 9 rfl (.inl rfl)) sr_nil)))) sa_nil))))))
  (sb_cons (ss_if (st_cmp (op_neX (hu64 hr)) b_neX (se_call (C__law_caught.cal (hr.mono (by decide))) (by rfl) (takes_of rfl rfl rfl rfl) (sr_p se_int (sr_p (se_var 9 rfl (.inl rfl)) (sr_p (se_str (by decide +kernel)) sr_nil)))) (se_lst (sa_cons (se_str (by decide +kernel)) (sa_cons (se_var 9 rfl (.inl rfl)) sa_nil))) (nomark _)) (sb_one (ss_ret se_bl)) sb_nil)
  (sb_one (ss_ret (se_cmp (op_eqX (hu64 hr)) b_eqX (se_var 5 rfl (.inl rfl)) (se_lst (sa_cons (se_lst (sa_cons (se_str (by decide +kernel)) (sa_cons (se_var 9 rfl (.inl rfl)) sa_nil))) (sa_cons (se_lst (sa_cons (se_str (by decide +kernel)) (sa_cons (se_str (by decide +kernel)) sa_nil))) (sa_cons (se_lst (sa_cons (se_str (by decide +kernel)) (sa_cons (se_var 9 rfl (.inl rfl)) sa_nil))) (sa_cons (se_lst (sa_cons (se_str (by decide +kernel)) (sa_cons (se_var 9 rfl (.inl rfl)) sa_nil))) sa_nil))))) (nomark _)))))))))))))))) (fun _ _ h => h)) Fu gf (fun _ _ _ _ _ _ us hl => match us, hl with | [_], _ => rfl)
theorem ok_law (T : Tx P w K mg base A_InvalidHistory) (C_root : CalF P w K mg base [⟨A_InvalidHistory, some "thing"⟩] "root" 4 s_root ["history"] F_root) (C_commute : CalF P w K mg base [⟨A_InvalidHistory, some "thing"⟩] "commute" 4 s_commute ["history", "other"] F_commute) (C__law_purse : CalF P w K mg base [⟨A_InvalidHistory, some "thing"⟩] "_law_purse" 4 s__law_purse ["_law_cells", "_law_at"] F__law_purse) (C__law_right : CalF P w K mg base [⟨A_InvalidHistory, some "thing"⟩] "_law_right" 6 s__law_right ["_law_purse_here"] F__law_right) {fa : Addr} {fd : FuncData} (Fu : Fun K "law" "law" s_law fa fd) (gf : mg "law" = some (.ref fa)) : CalF P w K mg base [⟨A_InvalidHistory, some "thing"⟩] "law" 7 s_law ["_law_script"] F_law :=
  CalF.of (fn_ok (N := N_law) Fu sc_law rfl (by decide) (fun cdv A outer s H E hr =>
  (sb_cons (ss_for (passes_of rfl) rfl (si_rng1 (by rfl) T.b_range (se_op op_addX b_add se_int (se_callB (call_min2 rfl) f_min2 (by rfl) T.b_min boot_min (sa_cons se_int (sa_cons (se_callB k_len f_len (by rfl) T.b_len PySem.boot_len (sa_cons (se_var 0 rfl (.inl rfl)) sa_nil)) sa_nil))))) (sg_name 1 sc_law.nd rfl (.inl rfl)) (sb_cons (ss_setO 2 sc_law.nd rfl (.inl rfl) (so_call (C__law_purse.cal (hr.mono (by decide))) (by rfl) (takes_of rfl rfl rfl rfl) (sr_p (se_var 0 rfl (.inl rfl)) (sr_p (se_var 1 rfl (.inl rfl)) sr_nil))))
  (sb_one (ss_for (passes_of rfl) rfl (si_rng1 (by rfl) T.b_range se_int) (sg_name 3 sc_law.nd rfl (.inl rfl)) (sb_one (ss_if (st_not (st_val (se_call (C__law_right.cal (hr.mono (by decide))) (by rfl) (takes_of rfl rfl rfl rfl) (sr_o 2 rfl (.inl rfl) sr_nil)))) (sb_one (ss_ret se_bl)) sb_nil))))))
  (sb_cons (ss_set 4 sc_law.nd rfl (.inl rfl) (se_lst (sa_cons (se_call (C_root.cal (hr.mono (by decide))) (by rfl) (takes_of rfl rfl rfl rfl) (sr_p (se_str (by decide +kernel)) sr_nil)) (sa_cons (se_call (C_root.cal (hr.mono (by decide))) (by rfl) (takes_of rfl rfl rfl rfl) (sr_p (se_str (by decide +kernel)) sr_nil)) (sa_cons (se_call (C_commute.cal (hr.mono (by decide))) (by rfl) (takes_of rfl rfl rfl rfl) (sr_p (se_str (by decide +kernel)) (sr_p (se_str (by decide +kernel)) sr_nil))) (sa_cons (se_call (C_commute.cal (hr.mono (by decide))) (by rfl) (takes_of rfl rfl rfl rfl) (sr_p (se_str (by decide +kernel)) (sr_p (se_str (by decide +kernel)) sr_nil))) sa_nil))))))
  (sb_one (ss_ret (se_and (se_cmp (op_eqX (hu64 hr)) b_eqX (se_var 4 rfl (.inl rfl)) (se_lst (sa_cons (se_tup (sa_cons (se_str (by decide +kernel)) (sa_cons se_int sa_nil))) (sa_cons (se_tup (sa_cons (se_str (by decide +kernel)) (sa_cons se_int sa_nil))) (sa_cons se_bl (sa_cons se_bl sa_nil))))) (nomark _)) (se_one (se_cmp (op_eqX (hu64 hr)) b_eqX (SO.se (so_lc (own := [("_law_n", 5)]) rfl sc_law.nd (si_any (se_tup (sa_cons se_int (sa_cons se_int sa_nil)))) (blkOk_by (N := N_law) (sc := defScope s_law) (by decide +kernel)) (fun _ _ _ _ _ => (sg_name 5 sc_law.nd rfl (.inl rfl))) (fun _ _ _ _ _ => pts_yes) (fun _ _ _ _ _ => (se_ix (se_call (C_root.cal (hr.mono (by decide))) (by rfl) takes0 (sr_p (se_op op_mulX b_mul (se_str (by decide +kernel)) (se_var 5 rfl (.inl rfl))) sr_nil)) se_int (fun _ _ => rfl))) (by decide))) (se_lst (sa_cons se_int (sa_cons se_int sa_nil))) (nomark _))))))))) (fun _ _ h => h)) Fu gf (fun _ _ _ _ _ _ us hl => match us, hl with | [_], _ => rfl)
end
theorem all_mk {A_HE : Addr} {P : Program} {w : World} {K : PySem.W.Frag} {h : Heap} {mg : Str → Option Value} {fa : Addr} (X : K.In h) (G : h.Ns mainGlobals mg) (hfa : mg "law" = some (.ref fa))
  {A_InvalidHistory i_InvalidHistory : Addr} {nm_InvalidHistory q_InvalidHistory : Str} {N_InvalidHistory : Addr} {bs_InvalidHistory : List Value} {sn_InvalidHistory : List Str} {sub_InvalidHistory : List Value} {ab_InvalidHistory : Bool} {col_InvalidHistory : Option Bool} {dd_InvalidHistory : Option Addr} {m0_InvalidHistory m1_InvalidHistory m2_InvalidHistory m3_InvalidHistory m5_InvalidHistory : Option Value}
  {od_InvalidHistory an_InvalidHistory : Option Addr} {sl_InvalidHistory : Array (Option Value)} {oc_InvalidHistory kV_InvalidHistory dc_InvalidHistory pm_InvalidHistory cd_InvalidHistory ct_InvalidHistory : Value} {D_InvalidHistory : Addr} {tc_InvalidHistory : Value} {td_InvalidHistory : Option Addr} {ts_InvalidHistory : Array (Option Value)} {n_InvalidHistory : Nat}
  {f_sign_back : Addr} {od_sign_back an_sign_back : Option Addr} {sl_sign_back : Array (Option Value)} {oc_sign_back kV_sign_back dc_sign_back pm_sign_back cd_sign_back ct_sign_back : Value}
  {f_back_of : Addr} {od_back_of an_back_of : Option Addr} {sl_back_of : Array (Option Value)} {oc_back_of kV_back_of dc_back_of pm_back_of cd_back_of ct_back_of : Value}
  {f_struck : Addr} {od_struck an_struck : Option Addr} {sl_struck : Array (Option Value)} {oc_struck kV_struck dc_struck pm_struck cd_struck ct_struck : Value}
  {f_is_letters : Addr} {od_is_letters an_is_letters : Option Addr} {sl_is_letters : Array (Option Value)} {oc_is_letters kV_is_letters dc_is_letters pm_is_letters cd_is_letters ct_is_letters : Value}
  {f_is_history : Addr} {od_is_history an_is_history : Option Addr} {sl_is_history : Array (Option Value)} {oc_is_history kV_is_history dc_is_history pm_is_history cd_is_history ct_is_history : Value}
  {f_require_full : Addr} {od_require_full an_require_full : Option Addr} {sl_require_full : Array (Option Value)} {oc_require_full kV_require_full dc_require_full pm_require_full cd_require_full ct_require_full : Value}
  {f_parts : Addr} {od_parts an_parts : Option Addr} {sl_parts : Array (Option Value)} {oc_parts kV_parts dc_parts pm_parts cd_parts ct_parts : Value}
  {f_root_parts : Addr} {od_root_parts an_root_parts : Option Addr} {sl_root_parts : Array (Option Value)} {oc_root_parts kV_root_parts dc_root_parts pm_root_parts cd_root_parts ct_root_parts : Value}
  {f_root : Addr} {od_root an_root : Option Addr} {sl_root : Array (Option Value)} {oc_root kV_root dc_root pm_root cd_root ct_root : Value}
  {f_require_history : Addr} {od_require_history an_require_history : Option Addr} {sl_require_history : Array (Option Value)} {oc_require_history kV_require_history dc_require_history pm_require_history cd_require_history ct_require_history : Value}
  {f_commute : Addr} {od_commute an_commute : Option Addr} {sl_commute : Array (Option Value)} {oc_commute kV_commute dc_commute pm_commute cd_commute ct_commute : Value}
  {f__law_mixed : Addr} {od__law_mixed an__law_mixed : Option Addr} {sl__law_mixed : Array (Option Value)} {oc__law_mixed kV__law_mixed dc__law_mixed pm__law_mixed cd__law_mixed ct__law_mixed : Value}
  {f__law_draw : Addr} {od__law_draw an__law_draw : Option Addr} {sl__law_draw : Array (Option Value)} {oc__law_draw kV__law_draw dc__law_draw pm__law_draw cd__law_draw ct__law_draw : Value}
  {f__law_letters : Addr} {od__law_letters an__law_letters : Option Addr} {sl__law_letters : Array (Option Value)} {oc__law_letters kV__law_letters dc__law_letters pm__law_letters cd__law_letters ct__law_letters : Value}
  {f__law_purse : Addr} {od__law_purse an__law_purse : Option Addr} {sl__law_purse : Array (Option Value)} {oc__law_purse kV__law_purse dc__law_purse pm__law_purse cd__law_purse ct__law_purse : Value}
  {f__law_sign_back : Addr} {od__law_sign_back an__law_sign_back : Option Addr} {sl__law_sign_back : Array (Option Value)} {oc__law_sign_back kV__law_sign_back dc__law_sign_back pm__law_sign_back cd__law_sign_back ct__law_sign_back : Value}
  {f__law_struck : Addr} {od__law_struck an__law_struck : Option Addr} {sl__law_struck : Array (Option Value)} {oc__law_struck kV__law_struck dc__law_struck pm__law_struck cd__law_struck ct__law_struck : Value}
  {f__law_back : Addr} {od__law_back an__law_back : Option Addr} {sl__law_back : Array (Option Value)} {oc__law_back kV__law_back dc__law_back pm__law_back cd__law_back ct__law_back : Value}
  {f__law_history : Addr} {od__law_history an__law_history : Option Addr} {sl__law_history : Array (Option Value)} {oc__law_history kV__law_history dc__law_history pm__law_history cd__law_history ct__law_history : Value}
  {f__law_caught : Addr} {od__law_caught an__law_caught : Option Addr} {sl__law_caught : Array (Option Value)} {oc__law_caught kV__law_caught dc__law_caught pm__law_caught cd__law_caught ct__law_caught : Value}
  {f__law_halves : Addr} {od__law_halves an__law_halves : Option Addr} {sl__law_halves : Array (Option Value)} {oc__law_halves kV__law_halves dc__law_halves pm__law_halves cd__law_halves ct__law_halves : Value}
  {f__law_due : Addr} {od__law_due an__law_due : Option Addr} {sl__law_due : Array (Option Value)} {oc__law_due kV__law_due dc__law_due pm__law_due cd__law_due ct__law_due : Value}
  {f__law_times : Addr} {od__law_times an__law_times : Option Addr} {sl__law_times : Array (Option Value)} {oc__law_times kV__law_times dc__law_times pm__law_times cd__law_times ct__law_times : Value}
  {f__law_right : Addr} {od__law_right an__law_right : Option Addr} {sl__law_right : Array (Option Value)} {oc__law_right kV__law_right dc__law_right pm__law_right cd__law_right ct__law_right : Value}
  {f_law : Addr} {od_law an_law : Option Addr} {sl_law : Array (Option Value)} {oc_law kV_law dc_law pm_law cd_law ct_law : Value}
  {t_COMMANDS : Tok}
  {t_LETTERS : Tok}
  (aC_InvalidHistory : PySem.W.nsIn K mainGlobals "InvalidHistory" = some (some (.ref A_InvalidHistory)))
  (xL_InvalidHistory : K.lookup A_InvalidHistory = some (excClassObj nm_InvalidHistory q_InvalidHistory A_InvalidHistory N_InvalidHistory bs_InvalidHistory [.ref A_HE, .type "ValueError", .type "Exception", .type "BaseException", .type "object"] true sn_InvalidHistory sub_InvalidHistory ab_InvalidHistory col_InvalidHistory dd_InvalidHistory m0_InvalidHistory m1_InvalidHistory m2_InvalidHistory m3_InvalidHistory m5_InvalidHistory "ValueError.__new__"))
  (sa_InvalidHistory : PySem.W.findIn K (.ref A_InvalidHistory) "__setattr__" = some (some (.builtin "object.__setattr__")))
  (ga_InvalidHistory : PySem.W.findIn K (.ref A_InvalidHistory) "__getattribute__" = some (some (.builtin "BaseException.__getattribute__")))
  (gg_InvalidHistory : PySem.W.findIn K (.ref A_InvalidHistory) "__getattr__" = some none)
  (no_InvalidHistory : PySem.W.findIn K (.ref A_InvalidHistory) "thing" = some none)
  (iC_InvalidHistory : PySem.W.findIn K (.ref A_InvalidHistory) "__init__" = some (some (.ref i_InvalidHistory)))
  (tI_InvalidHistory : PySem.W.typeIn K (.ref i_InvalidHistory) = some (.type "function"))
  (lI_InvalidHistory : K.lookup i_InvalidHistory = some ⟨oc_InvalidHistory, od_InvalidHistory, .func (PySem.W.fnOf "__init__" "InvalidHistory.__init__" (defArgs (iniOf (top 2))) (defBody (iniOf (top 2))) (defScope (iniOf (top 2))) (.ref D_InvalidHistory) kV_InvalidHistory dc_InvalidHistory pm_InvalidHistory an_InvalidHistory cd_InvalidHistory ct_InvalidHistory), sl_InvalidHistory⟩)
  (cI_InvalidHistory : PySem.W.codeIn K cd_InvalidHistory "InvalidHistory.__init__" = true)
  (kI_InvalidHistory : PySem.W.keepIn K (.ref i_InvalidHistory) = true)
  (lD_InvalidHistory : K.lookup D_InvalidHistory = some ⟨tc_InvalidHistory, td_InvalidHistory, .seq #[.none] n_InvalidHistory, ts_InvalidHistory⟩)
  (kC_InvalidHistory : PySem.W.keepIn K (.ref A_InvalidHistory) = true)
  (eC_InvalidHistory : PySem.W.subIn K (.ref A_InvalidHistory) (.type "BaseException") = some true)
  (tC_InvalidHistory : PySem.W.typeIn K (.ref A_InvalidHistory) = some (.type "type"))
  (hC_InvalidHistory : PySem.W.hasDictIn K A_InvalidHistory = true)
  (isC_InvalidHistory : PySem.W.isClsIn K A_InvalidHistory = true)
  (s_InvalidHistory_InvalidHistory : PySem.W.subIn K (.ref A_InvalidHistory) (.ref A_InvalidHistory) = some true)
  (a_sign_back : PySem.W.nsIn K mainGlobals "sign_back" = some (some (.ref f_sign_back)))
  (l_sign_back : K.lookup f_sign_back = some ⟨oc_sign_back, od_sign_back, .func (PySem.W.fnOf "sign_back" "sign_back" (defArgs s_sign_back) (defBody s_sign_back) (defScope s_sign_back) .none kV_sign_back dc_sign_back pm_sign_back an_sign_back cd_sign_back ct_sign_back), sl_sign_back⟩)
  (c_sign_back : PySem.W.codeIn K cd_sign_back "sign_back" = true)
  (k_sign_back : PySem.W.keepIn K (.ref f_sign_back) = true)
  (a_back_of : PySem.W.nsIn K mainGlobals "back_of" = some (some (.ref f_back_of)))
  (l_back_of : K.lookup f_back_of = some ⟨oc_back_of, od_back_of, .func (PySem.W.fnOf "back_of" "back_of" (defArgs s_back_of) (defBody s_back_of) (defScope s_back_of) .none kV_back_of dc_back_of pm_back_of an_back_of cd_back_of ct_back_of), sl_back_of⟩)
  (c_back_of : PySem.W.codeIn K cd_back_of "back_of" = true)
  (k_back_of : PySem.W.keepIn K (.ref f_back_of) = true)
  (a_struck : PySem.W.nsIn K mainGlobals "struck" = some (some (.ref f_struck)))
  (l_struck : K.lookup f_struck = some ⟨oc_struck, od_struck, .func (PySem.W.fnOf "struck" "struck" (defArgs s_struck) (defBody s_struck) (defScope s_struck) .none kV_struck dc_struck pm_struck an_struck cd_struck ct_struck), sl_struck⟩)
  (c_struck : PySem.W.codeIn K cd_struck "struck" = true)
  (k_struck : PySem.W.keepIn K (.ref f_struck) = true)
  (a_is_letters : PySem.W.nsIn K mainGlobals "is_letters" = some (some (.ref f_is_letters)))
  (l_is_letters : K.lookup f_is_letters = some ⟨oc_is_letters, od_is_letters, .func (PySem.W.fnOf "is_letters" "is_letters" (defArgs s_is_letters) (defBody s_is_letters) (defScope s_is_letters) .none kV_is_letters dc_is_letters pm_is_letters an_is_letters cd_is_letters ct_is_letters), sl_is_letters⟩)
  (c_is_letters : PySem.W.codeIn K cd_is_letters "is_letters" = true)
  (k_is_letters : PySem.W.keepIn K (.ref f_is_letters) = true)
  (a_is_history : PySem.W.nsIn K mainGlobals "is_history" = some (some (.ref f_is_history)))
  (l_is_history : K.lookup f_is_history = some ⟨oc_is_history, od_is_history, .func (PySem.W.fnOf "is_history" "is_history" (defArgs s_is_history) (defBody s_is_history) (defScope s_is_history) .none kV_is_history dc_is_history pm_is_history an_is_history cd_is_history ct_is_history), sl_is_history⟩)
  (c_is_history : PySem.W.codeIn K cd_is_history "is_history" = true)
  (k_is_history : PySem.W.keepIn K (.ref f_is_history) = true)
  (a_require_full : PySem.W.nsIn K mainGlobals "require_full" = some (some (.ref f_require_full)))
  (l_require_full : K.lookup f_require_full = some ⟨oc_require_full, od_require_full, .func (PySem.W.fnOf "require_full" "require_full" (defArgs s_require_full) (defBody s_require_full) (defScope s_require_full) .none kV_require_full dc_require_full pm_require_full an_require_full cd_require_full ct_require_full), sl_require_full⟩)
  (c_require_full : PySem.W.codeIn K cd_require_full "require_full" = true)
  (k_require_full : PySem.W.keepIn K (.ref f_require_full) = true)
  (a_parts : PySem.W.nsIn K mainGlobals "parts" = some (some (.ref f_parts)))
  (l_parts : K.lookup f_parts = some ⟨oc_parts, od_parts, .func (PySem.W.fnOf "parts" "parts" (defArgs s_parts) (defBody s_parts) (defScope s_parts) .none kV_parts dc_parts pm_parts an_parts cd_parts ct_parts), sl_parts⟩)
  (c_parts : PySem.W.codeIn K cd_parts "parts" = true)
  (k_parts : PySem.W.keepIn K (.ref f_parts) = true)
  (a_root_parts : PySem.W.nsIn K mainGlobals "root_parts" = some (some (.ref f_root_parts)))
  (l_root_parts : K.lookup f_root_parts = some ⟨oc_root_parts, od_root_parts, .func (PySem.W.fnOf "root_parts" "root_parts" (defArgs s_root_parts) (defBody s_root_parts) (defScope s_root_parts) .none kV_root_parts dc_root_parts pm_root_parts an_root_parts cd_root_parts ct_root_parts), sl_root_parts⟩)
  (c_root_parts : PySem.W.codeIn K cd_root_parts "root_parts" = true)
  (k_root_parts : PySem.W.keepIn K (.ref f_root_parts) = true)
  (a_root : PySem.W.nsIn K mainGlobals "root" = some (some (.ref f_root)))
  (l_root : K.lookup f_root = some ⟨oc_root, od_root, .func (PySem.W.fnOf "root" "root" (defArgs s_root) (defBody s_root) (defScope s_root) .none kV_root dc_root pm_root an_root cd_root ct_root), sl_root⟩)
  (c_root : PySem.W.codeIn K cd_root "root" = true)
  (k_root : PySem.W.keepIn K (.ref f_root) = true)
  (a_require_history : PySem.W.nsIn K mainGlobals "require_history" = some (some (.ref f_require_history)))
  (l_require_history : K.lookup f_require_history = some ⟨oc_require_history, od_require_history, .func (PySem.W.fnOf "require_history" "require_history" (defArgs s_require_history) (defBody s_require_history) (defScope s_require_history) .none kV_require_history dc_require_history pm_require_history an_require_history cd_require_history ct_require_history), sl_require_history⟩)
  (c_require_history : PySem.W.codeIn K cd_require_history "require_history" = true)
  (k_require_history : PySem.W.keepIn K (.ref f_require_history) = true)
  (a_commute : PySem.W.nsIn K mainGlobals "commute" = some (some (.ref f_commute)))
  (l_commute : K.lookup f_commute = some ⟨oc_commute, od_commute, .func (PySem.W.fnOf "commute" "commute" (defArgs s_commute) (defBody s_commute) (defScope s_commute) .none kV_commute dc_commute pm_commute an_commute cd_commute ct_commute), sl_commute⟩)
  (c_commute : PySem.W.codeIn K cd_commute "commute" = true)
  (k_commute : PySem.W.keepIn K (.ref f_commute) = true)
  (a__law_mixed : PySem.W.nsIn K mainGlobals "_law_mixed" = some (some (.ref f__law_mixed)))
  (l__law_mixed : K.lookup f__law_mixed = some ⟨oc__law_mixed, od__law_mixed, .func (PySem.W.fnOf "_law_mixed" "_law_mixed" (defArgs s__law_mixed) (defBody s__law_mixed) (defScope s__law_mixed) .none kV__law_mixed dc__law_mixed pm__law_mixed an__law_mixed cd__law_mixed ct__law_mixed), sl__law_mixed⟩)
  (c__law_mixed : PySem.W.codeIn K cd__law_mixed "_law_mixed" = true)
  (k__law_mixed : PySem.W.keepIn K (.ref f__law_mixed) = true)
  (a__law_draw : PySem.W.nsIn K mainGlobals "_law_draw" = some (some (.ref f__law_draw)))
  (l__law_draw : K.lookup f__law_draw = some ⟨oc__law_draw, od__law_draw, .func (PySem.W.fnOf "_law_draw" "_law_draw" (defArgs s__law_draw) (defBody s__law_draw) (defScope s__law_draw) .none kV__law_draw dc__law_draw pm__law_draw an__law_draw cd__law_draw ct__law_draw), sl__law_draw⟩)
  (c__law_draw : PySem.W.codeIn K cd__law_draw "_law_draw" = true)
  (k__law_draw : PySem.W.keepIn K (.ref f__law_draw) = true)
  (a__law_letters : PySem.W.nsIn K mainGlobals "_law_letters" = some (some (.ref f__law_letters)))
  (l__law_letters : K.lookup f__law_letters = some ⟨oc__law_letters, od__law_letters, .func (PySem.W.fnOf "_law_letters" "_law_letters" (defArgs s__law_letters) (defBody s__law_letters) (defScope s__law_letters) .none kV__law_letters dc__law_letters pm__law_letters an__law_letters cd__law_letters ct__law_letters), sl__law_letters⟩)
  (c__law_letters : PySem.W.codeIn K cd__law_letters "_law_letters" = true)
  (k__law_letters : PySem.W.keepIn K (.ref f__law_letters) = true)
  (a__law_purse : PySem.W.nsIn K mainGlobals "_law_purse" = some (some (.ref f__law_purse)))
  (l__law_purse : K.lookup f__law_purse = some ⟨oc__law_purse, od__law_purse, .func (PySem.W.fnOf "_law_purse" "_law_purse" (defArgs s__law_purse) (defBody s__law_purse) (defScope s__law_purse) .none kV__law_purse dc__law_purse pm__law_purse an__law_purse cd__law_purse ct__law_purse), sl__law_purse⟩)
  (c__law_purse : PySem.W.codeIn K cd__law_purse "_law_purse" = true)
  (k__law_purse : PySem.W.keepIn K (.ref f__law_purse) = true)
  (a__law_sign_back : PySem.W.nsIn K mainGlobals "_law_sign_back" = some (some (.ref f__law_sign_back)))
  (l__law_sign_back : K.lookup f__law_sign_back = some ⟨oc__law_sign_back, od__law_sign_back, .func (PySem.W.fnOf "_law_sign_back" "_law_sign_back" (defArgs s__law_sign_back) (defBody s__law_sign_back) (defScope s__law_sign_back) .none kV__law_sign_back dc__law_sign_back pm__law_sign_back an__law_sign_back cd__law_sign_back ct__law_sign_back), sl__law_sign_back⟩)
  (c__law_sign_back : PySem.W.codeIn K cd__law_sign_back "_law_sign_back" = true)
  (k__law_sign_back : PySem.W.keepIn K (.ref f__law_sign_back) = true)
  (a__law_struck : PySem.W.nsIn K mainGlobals "_law_struck" = some (some (.ref f__law_struck)))
  (l__law_struck : K.lookup f__law_struck = some ⟨oc__law_struck, od__law_struck, .func (PySem.W.fnOf "_law_struck" "_law_struck" (defArgs s__law_struck) (defBody s__law_struck) (defScope s__law_struck) .none kV__law_struck dc__law_struck pm__law_struck an__law_struck cd__law_struck ct__law_struck), sl__law_struck⟩)
  (c__law_struck : PySem.W.codeIn K cd__law_struck "_law_struck" = true)
  (k__law_struck : PySem.W.keepIn K (.ref f__law_struck) = true)
  (a__law_back : PySem.W.nsIn K mainGlobals "_law_back" = some (some (.ref f__law_back)))
  (l__law_back : K.lookup f__law_back = some ⟨oc__law_back, od__law_back, .func (PySem.W.fnOf "_law_back" "_law_back" (defArgs s__law_back) (defBody s__law_back) (defScope s__law_back) .none kV__law_back dc__law_back pm__law_back an__law_back cd__law_back ct__law_back), sl__law_back⟩)
  (c__law_back : PySem.W.codeIn K cd__law_back "_law_back" = true)
  (k__law_back : PySem.W.keepIn K (.ref f__law_back) = true)
  (a__law_history : PySem.W.nsIn K mainGlobals "_law_history" = some (some (.ref f__law_history)))
  (l__law_history : K.lookup f__law_history = some ⟨oc__law_history, od__law_history, .func (PySem.W.fnOf "_law_history" "_law_history" (defArgs s__law_history) (defBody s__law_history) (defScope s__law_history) .none kV__law_history dc__law_history pm__law_history an__law_history cd__law_history ct__law_history), sl__law_history⟩)
  (c__law_history : PySem.W.codeIn K cd__law_history "_law_history" = true)
  (k__law_history : PySem.W.keepIn K (.ref f__law_history) = true)
  (a__law_caught : PySem.W.nsIn K mainGlobals "_law_caught" = some (some (.ref f__law_caught)))
  (l__law_caught : K.lookup f__law_caught = some ⟨oc__law_caught, od__law_caught, .func (PySem.W.fnOf "_law_caught" "_law_caught" (defArgs s__law_caught) (defBody s__law_caught) (defScope s__law_caught) .none kV__law_caught dc__law_caught pm__law_caught an__law_caught cd__law_caught ct__law_caught), sl__law_caught⟩)
  (c__law_caught : PySem.W.codeIn K cd__law_caught "_law_caught" = true)
  (k__law_caught : PySem.W.keepIn K (.ref f__law_caught) = true)
  (a__law_halves : PySem.W.nsIn K mainGlobals "_law_halves" = some (some (.ref f__law_halves)))
  (l__law_halves : K.lookup f__law_halves = some ⟨oc__law_halves, od__law_halves, .func (PySem.W.fnOf "_law_halves" "_law_halves" (defArgs s__law_halves) (defBody s__law_halves) (defScope s__law_halves) .none kV__law_halves dc__law_halves pm__law_halves an__law_halves cd__law_halves ct__law_halves), sl__law_halves⟩)
  (c__law_halves : PySem.W.codeIn K cd__law_halves "_law_halves" = true)
  (k__law_halves : PySem.W.keepIn K (.ref f__law_halves) = true)
  (a__law_due : PySem.W.nsIn K mainGlobals "_law_due" = some (some (.ref f__law_due)))
  (l__law_due : K.lookup f__law_due = some ⟨oc__law_due, od__law_due, .func (PySem.W.fnOf "_law_due" "_law_due" (defArgs s__law_due) (defBody s__law_due) (defScope s__law_due) .none kV__law_due dc__law_due pm__law_due an__law_due cd__law_due ct__law_due), sl__law_due⟩)
  (c__law_due : PySem.W.codeIn K cd__law_due "_law_due" = true)
  (k__law_due : PySem.W.keepIn K (.ref f__law_due) = true)
  (a__law_times : PySem.W.nsIn K mainGlobals "_law_times" = some (some (.ref f__law_times)))
  (l__law_times : K.lookup f__law_times = some ⟨oc__law_times, od__law_times, .func (PySem.W.fnOf "_law_times" "_law_times" (defArgs s__law_times) (defBody s__law_times) (defScope s__law_times) .none kV__law_times dc__law_times pm__law_times an__law_times cd__law_times ct__law_times), sl__law_times⟩)
  (c__law_times : PySem.W.codeIn K cd__law_times "_law_times" = true)
  (k__law_times : PySem.W.keepIn K (.ref f__law_times) = true)
  (a__law_right : PySem.W.nsIn K mainGlobals "_law_right" = some (some (.ref f__law_right)))
  (l__law_right : K.lookup f__law_right = some ⟨oc__law_right, od__law_right, .func (PySem.W.fnOf "_law_right" "_law_right" (defArgs s__law_right) (defBody s__law_right) (defScope s__law_right) .none kV__law_right dc__law_right pm__law_right an__law_right cd__law_right ct__law_right), sl__law_right⟩)
  (c__law_right : PySem.W.codeIn K cd__law_right "_law_right" = true)
  (k__law_right : PySem.W.keepIn K (.ref f__law_right) = true)
  (a_law : PySem.W.nsIn K mainGlobals "law" = some (some (.ref f_law)))
  (l_law : K.lookup f_law = some ⟨oc_law, od_law, .func (PySem.W.fnOf "law" "law" (defArgs s_law) (defBody s_law) (defScope s_law) .none kV_law dc_law pm_law an_law cd_law ct_law), sl_law⟩)
  (c_law : PySem.W.codeIn K cd_law "law" = true)
  (k_law : PySem.W.keepIn K (.ref f_law) = true)
  (z_all : PySem.W.nsIn K mainGlobals "all" = some none)
  (z_int : PySem.W.nsIn K mainGlobals "int" = some none)
  (z_isinstance : PySem.W.nsIn K mainGlobals "isinstance" = some none)
  (z_len : PySem.W.nsIn K mainGlobals "len" = some none)
  (z_max : PySem.W.nsIn K mainGlobals "max" = some none)
  (z_min : PySem.W.nsIn K mainGlobals "min" = some none)
  (z_range : PySem.W.nsIn K mainGlobals "range" = some none)
  (z_str : PySem.W.nsIn K mainGlobals "str" = some none)
  (z_zip : PySem.W.nsIn K mainGlobals "zip" = some none)
  (g0_COMMANDS : PySem.W.nsIn K mainGlobals "COMMANDS" = some (some (.str g_COMMANDS t_COMMANDS)))
  (g0_LETTERS : PySem.W.nsIn K mainGlobals "LETTERS" = some (some (.str g_LETTERS t_LETTERS))) :
    ∃ fd : FuncData, (∀ (s : Shared) (v : Value), BindsTo s fd ⟨[v], []⟩ [("_law_script", v)]) ∧ ∀ base : Heap, K.In base → base.Ns mainGlobals mg → Tk.FnOk P w K mg base (L2.CX P w) 7 fa fd ["_law_script"] (spLaw K) := by
  have e := hfa.symm.trans (PySem.W.mg_of X G a_law)
  cases e
  have F_sign_back' := fun_mk (st := s_sign_back) l_sign_back c_sign_back k_sign_back
  have F_back_of' := fun_mk (st := s_back_of) l_back_of c_back_of k_back_of
  have F_struck' := fun_mk (st := s_struck) l_struck c_struck k_struck
  have F_is_letters' := fun_mk (st := s_is_letters) l_is_letters c_is_letters k_is_letters
  have F_is_history' := fun_mk (st := s_is_history) l_is_history c_is_history k_is_history
  have F_require_full' := fun_mk (st := s_require_full) l_require_full c_require_full k_require_full
  have F_parts' := fun_mk (st := s_parts) l_parts c_parts k_parts
  have F_root_parts' := fun_mk (st := s_root_parts) l_root_parts c_root_parts k_root_parts
  have F_root' := fun_mk (st := s_root) l_root c_root k_root
  have F_require_history' := fun_mk (st := s_require_history) l_require_history c_require_history k_require_history
  have F_commute' := fun_mk (st := s_commute) l_commute c_commute k_commute
  have F__law_mixed' := fun_mk (st := s__law_mixed) l__law_mixed c__law_mixed k__law_mixed
  have F__law_draw' := fun_mk (st := s__law_draw) l__law_draw c__law_draw k__law_draw
  have F__law_letters' := fun_mk (st := s__law_letters) l__law_letters c__law_letters k__law_letters
  have F__law_purse' := fun_mk (st := s__law_purse) l__law_purse c__law_purse k__law_purse
  have F__law_sign_back' := fun_mk (st := s__law_sign_back) l__law_sign_back c__law_sign_back k__law_sign_back
  have F__law_struck' := fun_mk (st := s__law_struck) l__law_struck c__law_struck k__law_struck
  have F__law_back' := fun_mk (st := s__law_back) l__law_back c__law_back k__law_back
  have F__law_history' := fun_mk (st := s__law_history) l__law_history c__law_history k__law_history
  have F__law_caught' := fun_mk (st := s__law_caught) l__law_caught c__law_caught k__law_caught
  have F__law_halves' := fun_mk (st := s__law_halves) l__law_halves c__law_halves k__law_halves
  have F__law_due' := fun_mk (st := s__law_due) l__law_due c__law_due k__law_due
  have F__law_times' := fun_mk (st := s__law_times) l__law_times c__law_times k__law_times
  have F__law_right' := fun_mk (st := s__law_right) l__law_right c__law_right k__law_right
  have F_law' := fun_mk (st := s_law) l_law c_law k_law
  refine ⟨PySem.W.fnOf "law" "law" (defArgs s_law) (defBody s_law) (defScope s_law) .none kV_law dc_law pm_law an_law cd_law ct_law, fun s v => .of_eq rfl, fun base _ _ => ?_⟩
  have D_InvalidHistory' : FunD K "__init__" "InvalidHistory.__init__" (defArgs (iniOf (top 2))) (defBody (iniOf (top 2))) (defScope (iniOf (top 2))) [.non] [] i_InvalidHistory _ := ⟨⟨_, _, _, _, _, _, _, _, _, _, rfl, lI_InvalidHistory, cI_InvalidHistory, .inr ⟨by simp, D_InvalidHistory, _, [.none], n_InvalidHistory, rfl, lD_InvalidHistory, rfl, .cons rfl .nil⟩, .inl rfl⟩, kI_InvalidHistory⟩
  have b_InvalidHistory' : Binds K _ ["self", "thing"] [] := er_binds D_InvalidHistory' (fun T kV doc pm an cdv ct us its hu hi => match us, its, hu, hi with | [_, _], [_], _, _ => ⟨_, rfl, rfl⟩)
  have E_InvalidHistory : ErC P w K mg base "InvalidHistory" A_InvalidHistory "thing" := ⟨⟨⟨nm_InvalidHistory, q_InvalidHistory, N_InvalidHistory, bs_InvalidHistory, _, sn_InvalidHistory, sub_InvalidHistory, ab_InvalidHistory, col_InvalidHistory, dd_InvalidHistory, m0_InvalidHistory, m1_InvalidHistory, m2_InvalidHistory, m3_InvalidHistory, m5_InvalidHistory, xL_InvalidHistory, by rfl⟩, sa_InvalidHistory, eC_InvalidHistory, tC_InvalidHistory, kC_InvalidHistory⟩, no_InvalidHistory, ⟨i_InvalidHistory, _, _, iC_InvalidHistory, tI_InvalidHistory, init_ok D_InvalidHistory' ⟨rfl, rfl, rfl, by decide +kernel, rfl, by decide +kernel, by decide +kernel⟩ rfl rfl, b_InvalidHistory'⟩, PySem.W.mg_of X G aC_InvalidHistory, ⟨ga_InvalidHistory, gg_InvalidHistory, eC_InvalidHistory, hC_InvalidHistory⟩⟩
  have xm_InvalidHistory : ∀ (c' : Nat) (x' : XC), ([⟨A_InvalidHistory, some "thing"⟩] : List XC)[c']? = some x' → PySem.W.exmOne K (.ref x'.C) (.ref A_InvalidHistory) = some (decide (c' = 0)) := by
    intro c' x' h
    rcases c' with _ | c'
    · cases h; exact exm_b eC_InvalidHistory isC_InvalidHistory tC_InvalidHistory s_InvalidHistory_InvalidHistory
    · simp at h
  have T : Tx P w K mg base A_InvalidHistory := ⟨PySem.W.mg_none_of X G z_all, PySem.W.mg_none_of X G z_int, PySem.W.mg_none_of X G z_isinstance, PySem.W.mg_none_of X G z_len, PySem.W.mg_none_of X G z_max, PySem.W.mg_none_of X G z_min, PySem.W.mg_none_of X G z_range, PySem.W.mg_none_of X G z_str, PySem.W.mg_none_of X G z_zip, ⟨t_COMMANDS, PySem.W.mg_of X G g0_COMMANDS⟩, ⟨t_LETTERS, PySem.W.mg_of X G g0_LETTERS⟩, E_InvalidHistory, xm_InvalidHistory⟩
  have C_sign_back := ok_sign_back T  F_sign_back' (PySem.W.mg_of X G a_sign_back)
  have C_back_of := ok_back_of T C_sign_back F_back_of' (PySem.W.mg_of X G a_back_of)
  have C_struck := ok_struck T C_sign_back F_struck' (PySem.W.mg_of X G a_struck)
  have C_is_letters := ok_is_letters T  F_is_letters' (PySem.W.mg_of X G a_is_letters)
  have C_is_history := ok_is_history T C_sign_back C_is_letters F_is_history' (PySem.W.mg_of X G a_is_history)
  have C_require_full := ok_require_full T C_is_history F_require_full' (PySem.W.mg_of X G a_require_full)
  have C_parts := ok_parts T C_sign_back F_parts' (PySem.W.mg_of X G a_parts)
  have C_root_parts := ok_root_parts T C_parts F_root_parts' (PySem.W.mg_of X G a_root_parts)
  have C_root := ok_root T C_back_of C_struck C_require_full C_root_parts F_root' (PySem.W.mg_of X G a_root)
  have C_require_history := ok_require_history T C_is_history F_require_history' (PySem.W.mg_of X G a_require_history)
  have C_commute := ok_commute T C_struck C_require_history F_commute' (PySem.W.mg_of X G a_commute)
  have C__law_mixed := ok__law_mixed T  F__law_mixed' (PySem.W.mg_of X G a__law_mixed)
  have C__law_draw := ok__law_draw T C__law_mixed F__law_draw' (PySem.W.mg_of X G a__law_draw)
  have C__law_letters := ok__law_letters T C__law_draw F__law_letters' (PySem.W.mg_of X G a__law_letters)
  have C__law_purse := ok__law_purse T C__law_letters F__law_purse' (PySem.W.mg_of X G a__law_purse)
  have C__law_sign_back := ok__law_sign_back T  F__law_sign_back' (PySem.W.mg_of X G a__law_sign_back)
  have C__law_struck := ok__law_struck T C__law_sign_back F__law_struck' (PySem.W.mg_of X G a__law_struck)
  have C__law_back := ok__law_back T C__law_sign_back F__law_back' (PySem.W.mg_of X G a__law_back)
  have C__law_history := ok__law_history T C__law_draw C__law_sign_back F__law_history' (PySem.W.mg_of X G a__law_history)
  have C__law_caught := ok__law_caught T C_root C_commute F__law_caught' (PySem.W.mg_of X G a__law_caught)
  have C__law_halves := ok__law_halves T C__law_sign_back F__law_halves' (PySem.W.mg_of X G a__law_halves)
  have C__law_due := ok__law_due T C__law_back C__law_halves F__law_due' (PySem.W.mg_of X G a__law_due)
  have C__law_times := ok__law_times T C__law_struck F__law_times' (PySem.W.mg_of X G a__law_times)
  have C__law_right := ok__law_right T C_root C_commute C__law_draw C__law_struck C__law_back C__law_history C__law_caught C__law_due C__law_times F__law_right' (PySem.W.mg_of X G a__law_right)
  have C_law := ok_law T C_root C_commute C__law_purse C__law_right F_law' (PySem.W.mg_of X G a_law)
  exact law_ok (C_law.at F_law' (PySem.W.mg_of X G a_law)) rfl rfl sem_law
end Lw
open PySem PySem.W PyProof.Rows
set_option maxHeartbeats 0 in
theorem PySem.Challenge.cw_takebacks_k44_roots_holds : PySem.Challenge.rw_takebacks_k44_roots.Holds := by
  w_on; o_law; k_head; (case hw => w_witness2)
  k_fill
  refine Tk.walk_ofG (l := PySem.Challenge.rw_takebacks_k44_roots) (n := 63) (k := 7) (x := "_law_script") (CX := fun w => L2.CX PySem.Challenge.rw_takebacks_k44_roots.prog w) (sp := fun w => Tk.spLaw _) rfl (by decide) rfl ⟨rfl, by decide, by decide, rfl⟩ (fun w h Y => PySem.W.kIn_of Y) ?F (fun _ _ a ns hl hS => ⟨a, ns, rfl, hS, hl, fun _ => rfl⟩) (fun _ _ _ _ _ h => Tk.noCX h)
  case F =>
    intro w mg fa h KX G hmg
    refine' Lw.all_mk KX G hmg ?aC_InvalidHistory ?xL_InvalidHistory ?sa_InvalidHistory ?ga_InvalidHistory ?gg_InvalidHistory ?no_InvalidHistory ?iC_InvalidHistory ?tI_InvalidHistory ?lI_InvalidHistory ?cI_InvalidHistory ?kI_InvalidHistory ?lD_InvalidHistory ?kC_InvalidHistory ?eC_InvalidHistory ?tC_InvalidHistory ?hC_InvalidHistory ?isC_InvalidHistory ?s_InvalidHistory_InvalidHistory ?a_sign_back ?l_sign_back ?c_sign_back ?k_sign_back ?a_back_of ?l_back_of ?c_back_of ?k_back_of ?a_struck ?l_struck ?c_struck ?k_struck ?a_is_letters ?l_is_letters ?c_is_letters ?k_is_letters ?a_is_history ?l_is_history ?c_is_history ?k_is_history ?a_require_full ?l_require_full ?c_require_full ?k_require_full ?a_parts ?l_parts ?c_parts ?k_parts ?a_root_parts ?l_root_parts ?c_root_parts ?k_root_parts ?a_root ?l_root ?c_root ?k_root ?a_require_history ?l_require_history ?c_require_history ?k_require_history ?a_commute ?l_commute ?c_commute ?k_commute ?a__law_mixed ?l__law_mixed ?c__law_mixed ?k__law_mixed ?a__law_draw ?l__law_draw ?c__law_draw ?k__law_draw ?a__law_letters ?l__law_letters ?c__law_letters ?k__law_letters ?a__law_purse ?l__law_purse ?c__law_purse ?k__law_purse ?a__law_sign_back ?l__law_sign_back ?c__law_sign_back ?k__law_sign_back ?a__law_struck ?l__law_struck ?c__law_struck ?k__law_struck ?a__law_back ?l__law_back ?c__law_back ?k__law_back ?a__law_history ?l__law_history ?c__law_history ?k__law_history ?a__law_caught ?l__law_caught ?c__law_caught ?k__law_caught ?a__law_halves ?l__law_halves ?c__law_halves ?k__law_halves ?a__law_due ?l__law_due ?c__law_due ?k__law_due ?a__law_times ?l__law_times ?c__law_times ?k__law_times ?a__law_right ?l__law_right ?c__law_right ?k__law_right ?a_law ?l_law ?c_law ?k_law ?z_all ?z_int ?z_isinstance ?z_len ?z_max ?z_min ?z_range ?z_str ?z_zip ?g0_COMMANDS ?g0_LETTERS
    (case aC_InvalidHistory => k_is); (case xL_InvalidHistory => k_is); (case sa_InvalidHistory => k_is); (case ga_InvalidHistory => k_is); (case gg_InvalidHistory => k_is); (case no_InvalidHistory => k_is); (case iC_InvalidHistory => k_is); (case tI_InvalidHistory => k_is); (case lI_InvalidHistory => k_is); (case cI_InvalidHistory => k_is); (case kI_InvalidHistory => k_is); (case lD_InvalidHistory => k_is); (case kC_InvalidHistory => k_is); (case eC_InvalidHistory => k_is); (case tC_InvalidHistory => k_is); (case hC_InvalidHistory => k_is); (case isC_InvalidHistory => k_is); (case s_InvalidHistory_InvalidHistory => k_is); (case a_sign_back => k_is); (case l_sign_back => k_is); (case c_sign_back => k_is); (case k_sign_back => k_is); (case a_back_of => k_is); (case l_back_of => k_is); (case c_back_of => k_is); (case k_back_of => k_is); (case a_struck => k_is); (case l_struck => k_is); (case c_struck => k_is); (case k_struck => k_is); (case a_is_letters => k_is); (case l_is_letters => k_is); (case c_is_letters => k_is); (case k_is_letters => k_is); (case a_is_history => k_is); (case l_is_history => k_is); (case c_is_history => k_is); (case k_is_history => k_is); (case a_require_full => k_is); (case l_require_full => k_is); (case c_require_full => k_is); (case k_require_full => k_is); (case a_parts => k_is); (case l_parts => k_is); (case c_parts => k_is); (case k_parts => k_is); (case a_root_parts => k_is); (case l_root_parts => k_is); (case c_root_parts => k_is); (case k_root_parts => k_is); (case a_root => k_is); (case l_root => k_is); (case c_root => k_is); (case k_root => k_is); (case a_require_history => k_is); (case l_require_history => k_is); (case c_require_history => k_is); (case k_require_history => k_is); (case a_commute => k_is); (case l_commute => k_is); (case c_commute => k_is); (case k_commute => k_is); (case a__law_mixed => k_is); (case l__law_mixed => k_is); (case c__law_mixed => k_is); (case k__law_mixed => k_is); (case a__law_draw => k_is); (case l__law_draw => k_is); (case c__law_draw => k_is); (case k__law_draw => k_is); (case a__law_letters => k_is); (case l__law_letters => k_is); (case c__law_letters => k_is); (case k__law_letters => k_is); (case a__law_purse => k_is); (case l__law_purse => k_is); (case c__law_purse => k_is); (case k__law_purse => k_is); (case a__law_sign_back => k_is); (case l__law_sign_back => k_is); (case c__law_sign_back => k_is); (case k__law_sign_back => k_is); (case a__law_struck => k_is); (case l__law_struck => k_is); (case c__law_struck => k_is); (case k__law_struck => k_is); (case a__law_back => k_is); (case l__law_back => k_is); (case c__law_back => k_is); (case k__law_back => k_is); (case a__law_history => k_is); (case l__law_history => k_is); (case c__law_history => k_is); (case k__law_history => k_is); (case a__law_caught => k_is); (case l__law_caught => k_is); (case c__law_caught => k_is); (case k__law_caught => k_is); (case a__law_halves => k_is); (case l__law_halves => k_is); (case c__law_halves => k_is); (case k__law_halves => k_is); (case a__law_due => k_is); (case l__law_due => k_is); (case c__law_due => k_is); (case k__law_due => k_is); (case a__law_times => k_is); (case l__law_times => k_is); (case c__law_times => k_is); (case k__law_times => k_is); (case a__law_right => k_is); (case l__law_right => k_is); (case c__law_right => k_is); (case k__law_right => k_is); (case a_law => k_is); (case l_law => k_is); (case c_law => k_is); (case k_law => k_is); (case z_all => k_is); (case z_int => k_is); (case z_isinstance => k_is); (case z_len => k_is); (case z_max => k_is); (case z_min => k_is); (case z_range => k_is); (case z_str => k_is); (case z_zip => k_is); (case g0_COMMANDS => k_is); (case g0_LETTERS => k_is)
