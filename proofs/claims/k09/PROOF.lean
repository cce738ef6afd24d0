import PyProof.Rows.All
import Wide.All
import OpenK.AllK
import Wide.FinOn
import HandS.ForMost
import HandS.ForExc
import HandS.CallSlots
import HandS.Lambda
import HandS.TupAny
import HandS.Deep
import KE.KeyNested
import PyProof.DictMoreH
import HandS.Property
import HandS.WordsExc
import HandS.Defaults
import HandS.IsInst
import HandS.Flow
import HandS.OwnEq
import PyProof.InstNe
import KE.GoesEnum
import HandS.MakeKw
import HandS.HeadEnd
import HandS.HeadHook4
import HandS.ExcInit
import HandS.TryMany
import KE.KExcSuper
import PyProof.ReprRoads
import HandS.ExcField
import HandS.RaiseMore
import KE.KExcIs
import HandS.ExcIs
import HandS.CallRecv
import HandS.HeadWalk
import HandS.More
import HandS.Conv
import HandS.Head2
import HandS.Star
import HandS.Zip
import KE.GoesZip
import KE.GoesMore
import HandS.Strs
import HandS.ClsMeth
import HandS.EndTab
import HandS.Style
import HandS.Text
import PyProof.SumWalkG
import KE.KDflt
import PyProof.StrOps2
import HandS.TryOnly
import PyProof.Rows.TupDisplay
import HandS.DictComp
import HandS.FStr
import HandS.WordsDict
import HandS.SetKeys
import HandS.TupLen
import HandS.ListItems
import HandS.TupMul
import HandS.TupLe
import HandS.DictEq
import KE.KNest
import HandS.SetBool
import PyProof.Rows.IntBool
import PyProof.FactsAll.zip_1
import PyProof.WalksMore
import PySem.Challenge.RW_betweenlooks_k09_acts_and_their_operator
set_option Elab.async false
set_option linter.all false
set_option maxRecDepth 100000
set_option maxHeartbeats 1000000
namespace BL
open PySem PySem.Spec PyProof.Rows L2

/-! ### dicts whose keys are tuples, nested ones too -/
mutual
/-- v is the key k -/
def KeyV (K : PySem.W.Frag) (H : Hp) : NestedKey → V → Prop
  | .none, v => v = .non
  | .num i, v => v = .int i ∨ ∃ b, v = .bl b ∧ i = (if b = true then 1 else 0)
  | .text x, v => v = .str x
  | .tup ks, v => ∃ a xs, v = .ref a ∧ SqT K H a xs ∧ KeyVs K H ks xs
def KeyVs (K : PySem.W.Frag) (H : Hp) : List NestedKey → List V → Prop
  | [], xs => xs = []
  | k :: ks, xs => ∃ v vs, xs = v :: vs ∧ KeyV K H k v ∧ KeyVs K H ks vs
end
section
variable {X : Cx} {pins : List (Addr × Obj)} {σ : L2.St} {H : Hp} {s : Shared}
mutual
theorem KeyV.is (I : Inv X pins σ H s) : ∀ (k : NestedKey) (v : V) (u : Value), KeyV X.K H k v → RelV v u → NestedIs s.heap k u
  | .none, v, u, h, r => by
    have h : v = .non := h
    subst h
    cases (show u = Value.none from r)
    exact .none
  | .num i, v, u, h, r => by
    rcases (show v = .int i ∨ ∃ b, v = .bl b ∧ i = (if b = true then 1 else 0) from h) with rfl | ⟨b, rfl, e⟩
    · obtain ⟨t, rfl⟩ := r
      exact .int _ _
    · cases (show u = Value.bool b from r)
      exact .bool e
  | .text x, v, u, h, r => by
    have h : v = .str x := h
    subst h
    obtain ⟨t, rfl⟩ := r
    exact .text _ _
  | .tup ks, v, u, h, r => by
    obtain ⟨a, xs, rfl, hs, hk⟩ := (show ∃ a xs, v = .ref a ∧ SqT X.K H a xs ∧ KeyVs X.K H ks xs from h)
    cases (show u = Value.ref a from r)
    obtain ⟨its, rv, ⟨o, h1, h2, n, h3⟩, _⟩ := I.tuple hs
    exact .tup h1 h2 h3 (by simpa using KeyVs.is I ks xs its hk rv)
theorem KeyVs.is (I : Inv X pins σ H s) : ∀ (ks : List NestedKey) (xs : List V) (us : List Value), KeyVs X.K H ks xs → Vals xs us → NestedAll s.heap ks us
  | [], xs, us, h, r => by
    have h : xs = [] := h
    subst h
    cases r
    exact .nil
  | k :: ks, xs, us, h, r => by
    obtain ⟨v, vs, rfl, h1, h2⟩ := (show ∃ v vs, xs = v :: vs ∧ KeyV X.K H k v ∧ KeyVs X.K H ks vs from h)
    cases r with
    | cons r1 r2 => exact .cons (KeyV.is I k v _ h1 r1) (KeyVs.is I ks vs _ h2 r2)
end
end
abbrev Nd := List (NestedKey × Addr × V)
abbrev NdX := List (NestedKey × Addr × Value)
abbrev NdR : Nd → NdX → Prop := Paired fun p q => p.1 = q.1 ∧ p.2.1 = q.2.1 ∧ RelV p.2.2 q.2.2
/-- the hashes' entry -/
def entN (w : World) (x : NestedKey × Addr × Value) : DictEntry := ⟨x.1.hash w, .ref x.2.1, x.2.2⟩
/-- the object at a is a dict of these entries -/
def ndP (w : World) (a : Addr) (es : Nd) (ep : Nat) (h : Heap) : Prop :=
  es.length ≤ sizeLine ∧ (a == sysModules) = false ∧ ∃ xs, NdR es xs ∧ ∃ o ar, h.get? a = some o ∧ o.ExactDict ∧ o.data = .dict ar ep ∧ ar.toList = xs.map (entN w) ∧ (xs.map (·.1)).Nodup
abbrev ndO (w : World) (a : Addr) (es : Nd) (ep : Nat) : HO := .ext (ndP w a es ep)
theorem ndP_ok {P : Program} {w : World} {H : Hp} {h : Heap} {a : Addr} {es : Nd} {ep : Nat} (x : ndP w a es ep h) : ObjOk P w H h a (ndO w a es ep) := by
  refine ⟨x, ?_, fun h1 h2 p k => ?_⟩
  · obtain ⟨_, _, xs, _, o, ar, e, _⟩ := x
    exact ⟨o, e⟩
  · obtain ⟨z, d, xs, r, o, ar, e, q⟩ := p
    exact ⟨z, d, xs, r, o, ar, k _ e, q⟩
theorem get_made {c : Addr} {o : Obj} (hf : o.data ≠ .freed) : (⟨Array.replicate (c + 1) o, {}⟩ : Heap).get? c = some o := by
  unfold Heap.get?
  rw [show (Array.replicate (c + 1) o)[c]? = some o by simp]
  obtain ⟨cl, d, dt, sl⟩ := o
  cases dt <;> first | rfl | exact absurd rfl hf
/-- it is no code object -/
theorem ndO_code {w : World} {a : Addr} {es : Nd} {ep : Nat} {c : Addr} {q : Str} : ndO w a es ep = LamX.CodeO c q → a ≠ c := by
  refine ?G
  exact (by (intro h; exact h) : have h : (type_of% ?G) := (by
  rintro e rfl
  have e : (ndP w a es ep) = _ := HO.ext.inj e
  have h := congrFun e ⟨Array.replicate (a + 1) { cls := .none, data := .fields #[.none, .str q 0] }, {}⟩
  have g : (⟨Array.replicate (a + 1) { cls := .none, data := .fields #[.none, .str q 0] }, {}⟩ : Heap).get? a = some { cls := .none, data := .fields #[.none, .str q 0] } := get_made (by intro z; cases z)
  have k : ndP w a es ep ⟨Array.replicate (a + 1) { cls := .none, data := .fields #[.none, .str q 0] }, {}⟩ := by
    rw [h]
    exact ⟨_, _, _, g, rfl, rfl⟩
  obtain ⟨_, _, xs, _, o, ar, h1, _, h2, _⟩ := k
  rw [g] at h1
  cases h1
  cases h2
 ); type_of% ?G)
end BL

set_option Elab.async false
set_option linter.all false
set_option maxRecDepth 100000
set_option maxHeartbeats 400000
/-! Room and promises of defs for surroundings in which no repr of a container is under way. -/
namespace BL
open PySem PySem.Spec PyProof.Rows L2

/-- room below, and no guard around -/
structure Room (k : Nat) (A : Around) : Prop extends L2.Room k A where
  gd : A.guards = some []
section
variable {j k : Nat} {A : Around}
theorem Room.mono (r : Room k A) (h : j ≤ k) : Room j A := { toRoom := r.toRoom.mono h, gd := r.gd }
theorem Room.deeper (r : Room (k + 1) A) (env : Env) : Room k (A.deeper env) := { toRoom := r.toRoom.deeper env, gd := r.gd }
theorem Room.of_deeper {env : Env} (r : L2.Room k (A.deeper env)) (g : A.guards = some []) : Room k (A.deeper env) := { toRoom := r, gd := g }
theorem Room.in1 (r : Room (k + 1) A) : Room k A.in1 := { toRoom := r.toRoom.in1, gd := r.gd }
theorem Room.make (r : Room (k + 1) A) (C : Addr) (us : List Value) (kw : List (Str × Value)) : Room k (A.under (.builtin "type.__call__" ⟨.ref C :: us, kw⟩)) where
  toRoom := r.toRoom.make C us kw
  gd := by
    have e : ∀ c : Code, c.guards = [] → (A.under c).guards = A.guards := fun c z => by
      unfold Around.under
      rw [z]
      rfl
    exact (e _ (by simp [Code.guards, Code.isGuard, guardIds])).trans r.gd
theorem Room.depth (r : Room k A) : A.depth < recursionLimit := r.toRoom.depth
theorem Room.units (r : Room k A) : A.units + 64 < cLine := r.toRoom.units
theorem Room.units0 (r : Room k A) : A.units < cLine := r.toRoom.units0
theorem hu_of (r : Room k A) : A.units + 1 < cLine := Nat.lt_of_le_of_lt (Nat.add_le_add_left (m := 64) (by decide) _) r.units
end

/-- what a def promises to all calls with such room -/
structure FnOk (P : Program) (w : World) (K : PySem.W.Frag) (mg : Str → Option Value) (base : Heap) (CX : CXT) (k : Nat) (f : Addr) (fd : FuncData) (ps : List Str) (sp : Sp) : Prop where
  len : ∀ vs H Q E, sp vs H Q E → vs.length = ps.length
  run : ∀ (A : Around) (outer : List Env) (s : Shared) (H : Hp) (args : Args) (us : List Value) (vs : List V) (Q : VK) (E : XK), Room k A → Env0 P w K mg base A outer s H → BindsTo s fd args (ps.zip us) → Vals vs us → sp vs H Q E →
    codeAny (model P w) A (.call (.ref f) args) (CR CX outer P w H s Q E) s
section
variable {P : Program} {w : World} {K : PySem.W.Frag} {mg : Str → Option Value} {base : Heap} {CX : CXT} {j k : Nat} {f : Addr} {fd : FuncData} {ps : List Str} {sp : Sp}
theorem FnOk.mono (F : FnOk P w K mg base CX j f fd ps sp) (h : j ≤ k) : FnOk P w K mg base CX k f fd ps sp where
  len := F.len
  run A outer s H args us vs Q E r := F.run A outer s H args us vs Q E (r.mono h)
theorem FnOk.imp {sp' : Sp} (F : FnOk P w K mg base CX k f fd ps sp) (h : ∀ vs H Q E, sp' vs H Q E → sp vs H Q E) : FnOk P w K mg base CX k f fd ps sp' where
  len vs H Q E q := F.len vs H Q E (h vs H Q E q)
  run A outer s H args us vs Q E r e b v q := F.run A outer s H args us vs Q E r e b v (h vs H Q E q)
/-- a def called: its body's promise at this very state -/
theorem run_ofS {name qual : Str} {params : Arguments} {body : List Stmt} {scope : Scope} {dV kV doc pm cdv ct oc : Value} {an od : Option Addr} {osl : Array (Option Value)} {N : List Str} {A : Around} {outer : List Env} {s : Shared} {H : Hp} {args : Args} {us : List Value} {vs : List V} {Q : VK} {E : XK}
    (lk : K.lookup f = some ⟨oc, od, .func (PySem.W.fnOf name qual params body scope dV kV doc pm an cdv ct), osl⟩) (hcd : PySem.W.codeIn K cdv qual = true) (S : FnScope N ps scope) (hr : Room (k + 1) A) (e0 : Env0 P w K mg base A outer s H)
    (hb : BindsTo s (PySem.W.fnOf name qual params body scope dV kV doc pm an cdv ct) args (ps.zip us)) (r : Vals vs us) (hl : vs.length = ps.length)
    (hbody : Room k (A.deeper (envOfC qual scope s.heap.objs.size f cdv)) → ∃ t, PSs (cxOf CX P w K mg base N qual scope f cdv A outer s H E) body t ∧ t { nx := fun _ H' => Q .non H', rt := Q } (L2.start N vs) H) :
    codeAny (model P w) A (.call (.ref f) args) (CR CX outer P w H s Q E) s := LamX.run_ofS lk hcd S hr.toRoom e0 hb r hl fun z => hbody (.of_deeper z hr.gd)
/-- a promise by the def's body -/
theorem fn_of {name qual : Str} {params : Arguments} {body : List Stmt} {scope : Scope} {dV kV doc pm cdv ct oc : Value} {an od : Option Addr} {osl : Array (Option Value)} {N : List Str}
    (lk : K.lookup f = some ⟨oc, od, .func (PySem.W.fnOf name qual params body scope dV kV doc pm an cdv ct), osl⟩) (hcd : PySem.W.codeIn K cdv qual = true) (S : FnScope N ps scope) (len : ∀ vs H Q E, sp vs H Q E → vs.length = ps.length)
    (hbody : ∀ (A : Around) (outer : List Env) (s : Shared) (H : Hp) (vs : List V) (Q : VK) (E : XK), Room k (A.deeper (envOfC qual scope s.heap.objs.size f cdv)) → sp vs H Q E →
      ∃ t, PSs (cxOf CX P w K mg base N qual scope f cdv A outer s H E) body t ∧ t { nx := fun _ H' => Q .non H', rt := Q } (L2.start N vs) H) :
    FnOk P w K mg base CX (k + 1) f (PySem.W.fnOf name qual params body scope dV kV doc pm an cdv ct) ps sp where
  len := len
  run A outer s H args us vs Q E r e b v q := LamX.run_ofS lk hcd S r.toRoom e b v (len vs H Q E q) fun r' => hbody A outer s H vs Q E (.of_deeper r' r.gd) q
theorem funDok {x qual : Str} {params : Arguments} {body : List Stmt} {scope : Scope} {dvs : List V} {kws : List (Str × V)} {N : List Str} (F : FunD K x qual params body scope dvs kws f fd) (S : FnScope N ps scope) (len : ∀ vs H Q E, sp vs H Q E → vs.length = ps.length)
    (hbody : ∀ (cdv : Value) (A : Around) (outer : List Env) (s : Shared) (H : Hp) (vs : List V) (Q : VK) (E : XK), Room k (A.deeper (envOfC qual scope s.heap.objs.size f cdv)) → sp vs H Q E →
      ∃ t, PSs (cxOf CX P w K mg base N qual scope f cdv A outer s H E) body t ∧ t { nx := fun _ H' => Q .non H', rt := Q } (L2.start N vs) H) : FnOk P w K mg base CX (k + 1) f fd ps sp := by
  obtain ⟨_, _, _, _, _, _, _, cdv, _, _, rfl, lk, hcd, _⟩ := F.ex
  exact fn_of lk hcd S len (hbody cdv)
end
section
variable {X : Cx} {CX : CXT} {k : Nat} {f : Addr} {fd : FuncData} {ps : List Str} {sp : Sp} {dvs vs : List V} {ds us : List Value} {E : XK} {pins : List (Addr × Obj)} {σ : L2.St} {H : Hp} {s : Shared} {Q : VK}
/-- what is done behind a def's promise at its caller -/
def Back (X : Cx) (pins : List (Addr × Obj)) (σ : L2.St) (Q : VK) (xe : Value → Shared → Prop) : Result → Shared → Prop
  | .ok (.ret u), s' => EP X pins σ Q u s'
  | .ok _, _ => False
  | .error e, s' => xe e s'
theorem back_of (I : Inv X pins σ H s) (hx : PassesAt CX X σ E) {r : Result} {s' : Shared} (h : CR CX X.stack X.prog X.w H s Q E r s') : Back X pins σ Q X.xe r s' := by
  match r, h with
  | .error e, h => exact hx pins H s e s' I h
  | .ok (.ret u), h => exact I.after h
/-- a def is called in surroundings that see the caller's frames -/
theorem FnOk.does {A : Around} (F : FnOk X.prog X.w X.K X.mg X.base CX k f fd ps sp) (hr : Room k A) (e0 : Env0 X.prog X.w X.K X.mg X.base A X.stack s H) (I : Inv X pins σ H s) (hb : Binds X.K fd ps ds) (hd : Vals dvs ds) (r : Vals vs us) (hx : PassesAt CX X σ E)
    (h : sp (vs ++ dvs) H Q E) : codeAny (model X.prog X.w) A (.call (.ref f) ⟨us, []⟩) (Back X pins σ Q X.xe) s := by
  have rr := r.append hd
  refine codeAny_mono (F.run A X.stack s H _ _ _ Q E hr e0 (hb s us I.kIn ?_) rr h) fun _ _ => back_of I hx
  rw [← F.len _ _ _ _ h, rr.length]
theorem wp_back {A : Around} {fv : Value} {as : List Value} {Q' : VK} {xe : Value → Shared → Prop} (h : codeAny (model X.prog X.w) A (.call fv ⟨as, []⟩) (Back X pins σ Q' xe) s) : wpAny (model X.prog X.w) A (call fv as) (EP X pins σ Q') xe s :=
  wpAny_call (codeAny_mono h fun r s' q => by
    match r, q with
    | .error e, q => exact q
    | .ok (.ret u), q => exact q)
theorem run_fnSD {E : L2.St → XK} (F : FnOk X.prog X.w X.K X.mg X.base CX k f fd ps sp) (hr : Room k X.A) (hb : Binds X.K fd ps ds) (hd : Vals dvs ds) (hx : PassesAt CX X σ (E σ)) (I : Inv X pins σ H s) (r : Vals vs us) (h : sp (vs ++ dvs) H Q (E σ)) :
    wpAny (model X.prog X.w) X.A (call (.ref f) us) (EP X pins σ Q) X.xe s := wp_back (F.does hr I.env0 I hb hd r hx h)
end
section
variable {X : Cx} {CX : CXT} {k : Nat} {f : Addr} {fd : FuncData} {ps : List Str} {sp : Sp} {dvs : List V} {ds : List Value} {E : L2.St → XK} {x : Str} {p pos : Pos} {e : Expr} {es : List Expr} {t : TA}
theorem pe_callSD (F : FnOk X.prog X.w X.K X.mg X.base CX k f fd ps sp) (hr : Room k X.A) (hg : Gl X x) (hm : X.mg x = some (.ref f)) (hk : PySem.W.keepIn X.K (.ref f) = true) (hb : Binds X.K fd ps ds) (hd : Vals dvs ds) (hx : ∀ σ, PassesAt CX X σ (E σ))
    (ha : PA X (e :: es) t) (hdb : (x == ("__debug__" : Str)) = false := by decide) (he : starEach (e :: es) X.env = (false, eval e X.env) :: starEach es X.env := by rfl) (hpl : (backTo pos (starEach es X.env)).any (·.1) = false := by rfl) :
    PE X (.Call (.Name x p) (e :: es) [] pos) (tCallSD sp dvs E t) where
  run pins s σ H Q I h := wpAny_Call_Name_kw (ld_glob I hg hm (PySem.W.callWith_K (h₀ := X.base) I.ok.mod.kin hk (thn (ha.run pos pins s σ H _ I h) fun us s1 q => by
    obtain ⟨vs, H1, J, r, q⟩ := q
    exact ⟨J.kIn, run_fnSD F hr hb hd (hx σ) J r q⟩) he hpl) hdb)
end
section
variable {X : Cx} {CX : CXT} {k : Nat} {C p g : Addr} {f : Str} {fd : FuncData} {ps : List Str} {sp : Sp} {dvs : List V} {ds : List Value} {E : XK} {e : Expr} {pos : Pos} {ta : TE}
/-- e.f where f is a property -/
theorem pe_prop (he : PE X e ta) (c : Cls X.K C) (hp : PropOf X.K C f p g) (F : FnOk X.prog X.w X.K X.mg X.base CX k g fd ps sp) (hr : Room (k + 1) X.A) (hb : Binds X.K fd ps ds) (hd : Vals dvs ds) (hx : Passes CX X.nox E)
    (hab : attributeBase e f X.env (eval e X.env) = eval e X.env) : PE X (.Attribute e f pos) (tProp C sp dvs E ta) where
  run pins s σ H Q I h := attr_of hab <| thn (he.run pins s σ H _ I h) fun u s1 q => by
    obtain ⟨x, H1, J, rx, a, dx, fs, rfl, ea, q⟩ := q
    cases (show u = Value.ref a from rx)
    obtain ⟨mA, O, _⟩ := ins_get J.hok ea
    obtain ⟨od, L, _⟩ := O.look
    obtain ⟨rest, hrec⟩ := hp.rec_
    obtain ⟨cd, hcd, _⟩ := PySem.W.any_some c.hd
    have J1 := J.tok (s1.toks + 1)
    refine PySem.W.get_bind J.kIn L (PySem.W.plainGet_of (c.get f)).1 (PySem.W.findObj_data (by rw [hcd]; rfl) hp.at_ hp.get hp.tak) (PySem.W.plainGet_of (c.get f)).2 (wpAny_call (PySem.W.prop_get (s := { s1 with toks := s1.toks + 1 }) J.kIn hrec ?_))
    refine codeAny_mono (F.does (X := X.nox) (vs := [.ref a]) (us := [.ref a]) (pins := pins) (σ := σ) hr.in1 J1.env0.in1 (J1.wish _) hb hd (.cons rfl .nil) (fun pins H s e s' I h => hx pins σ H s e s' I h) q) fun r s' z => ?_
    match r, z with
    | .error _, z => exact z.elim
    | .ok (.ret u), z =>
      obtain ⟨v, H', J3, rv, qv⟩ := z
      show wpAny _ _ (handedOut u) _ _ _
      rw [PySem.W.handedOut_of (handed_of rv)]
      exact wpAny_pure ⟨v, H', J3.wish _, rv, qv⟩
end
end BL

set_option Elab.async false
set_option linter.all false
set_option maxRecDepth 100000
set_option maxHeartbeats 400000
/-! x(lambda: body) in surroundings without guards. -/
namespace BL
open PySem PySem.Spec PyProof.Rows L2
open LamX (lamEnv lamCx LamS CodeO TabB Tabs ExtN GivesTo tLam)

section
variable {X : Cx} {pins : List (Addr × Obj)} {σ : L2.St} {H HZ : Hp} {s s1 : Shared} {params : Arguments} {body : Expr} {scope : Scope} {f c' : Addr} {pm ctv : Value} {k : Nat} {E : XK} {tb : TE} {Q : VK}
/-- the lambda f is called in surroundings A behind its maker's moment -/
theorem lam_runs {A : Around} {outer : List Env} (I : Inv X pins σ H s) (L : LamS X.env.scope scope) (of1 : s1.heap.get? f = some (PySem.W.kla_obj "<lambda>" (X.env.qual ++ "<lambda>") params body scope (cloFrom X.env.cells scope.names []) pm c' ctv))
    (hbind : bindArgs (PySem.W.kla_fn "<lambda>" (X.env.qual ++ "<lambda>") params body scope (cloFrom X.env.cells scope.names []) pm (.ref c') ctv) ⟨[], []⟩ = pure []) (hr : Room (k + 1) A) (e0 : Env0 X.prog X.w X.K X.mg X.base A outer s1 HZ) (nl : s1.heap.NoLimit)
    (un : Un (frs X.stack) [] H HZ s.heap s1.heap) (hc : HZ c' = some (CodeO c' (X.env.qual ++ "<lambda>"))) (hbody : Room k (A.deeper (lamEnv X scope s1.heap.objs.size f c')) → PE (lamCx X A outer s1 HZ E scope f c') body tb) (ht : tb σ HZ Q) :
    codeAny (model X.prog X.w) A (.call (.ref f) ⟨[], []⟩) (CR (L2.CX X.prog X.w) outer X.prog X.w HZ s1 Q E) s1 := by
  refine ?G
  exact (by (intro h; exact h) : have h : (type_of% ?G) := (by
  obtain ⟨⟨oc, vs, t, hoc, hdc, hvc⟩, _⟩ := e0.hok c' _ hc
  refine PySem.W.kla_callFunE hr.depth of1 rfl L.co L.gen rfl ⟨c', oc, vs, t, rfl, hoc, hdc, hvc⟩ (hbind ▸ wpAny_pure ?_)
  refine wpAny_newFunctionEnv (fun y hy => (L.own y hy).2) (fun y hy => nomatch hy) (fun h₁ hns hsb => ⟨nl.fresh _ hsb, PySem.W.kla_codeExpr ?_⟩) L.kind
  have grows : ∀ b o, s1.heap.get? b = some o → h₁.get? b = some o := fun b o e => hsb.extBut b o (Nat.ne_of_lt (Heap.lt_size e)) (Heap.get?_push_of_some _ e)
  exact wpAny_mono ((hbody (hr.deeper _)).run [] _ _ HZ Q (LamX.lam_start2 I L e0 hr.hd un hns grows) ht) (fun v s' q => by
    obtain ⟨w', H', J, rv, qv⟩ := q
    exact ⟨w', H', J.os, J.bare, J.base, J.hok, rv, qv⟩) fun _ _ q => q
 ); type_of% ?G)
/-- a(), a the parameter that holds the lambda, in the def g that X called with it -/
theorem lam_act {CXg : CXT} {Eg : XK} {Ng : List Str} {qg : Str} {sg : Scope} {g : Addr} {cdg : Value} {i : Nat} {a : Str} {pn : List (Addr × Obj)} {xe : Value → Shared → Prop} {W : WX} {p1 p2 : Pos} (I : Inv X pins σ H s) (L : LamS X.env.scope scope)
    (hf : s.heap.get? f = some (PySem.W.kla_obj "<lambda>" (X.env.qual ++ "<lambda>") params body scope (cloFrom X.env.cells scope.names []) pm c' ctv)) (hfn : H f = none) (hfr : f ∉ frs X.stack)
    (hbind : bindArgs (PySem.W.kla_fn "<lambda>" (X.env.qual ++ "<lambda>") params body scope (cloFrom X.env.cells scope.names []) pm (.ref c') ctv) ⟨[], []⟩ = pure []) (tk : Takes ((cxOf CXg X.prog X.w X.K X.mg X.base Ng qg sg g cdg X.A X.stack s H Eg).tr pn xe) W)
    (hW : ∀ cls d σ' H', E cls d H' → W cls d σ' H') (hr : Room (k + 1) (X.A.deeper (envOfC qg sg s.heap.objs.size g cdg))) (hbody : ∀ (A : Around) (outer : List Env) (s : Shared) (H : Hp), Room k (A.deeper (lamEnv X scope s.heap.objs.size f c')) → PE (lamCx X A outer s H E scope f c') body tb)
    (hN : Ng[i]? = some a) (hv : Vis sg a) (hd : (a == ("__debug__" : Str)) = false) (hcd : (a == ("__classdict__" : Str)) = false) :
    PE ((cxOf CXg X.prog X.w X.K X.mg X.base Ng qg sg g cdg X.A X.stack s H Eg).tr pn xe) (.Call (.Name a p1) [] [] p2) (fun σZ HZ Q => σZ[i]? = some (some (.ref f)) ∧ HZ c' = some (CodeO c' (X.env.qual ++ "<lambda>")) ∧ tb σ HZ Q) where
  run pinsZ sZ σZ HZ Q IZ h := by
    have rd := (pe_var (pos := p1) (i := i) hN hv hd hcd).run pinsZ sZ σZ HZ (fun v H1 => v = .ref f ∧ H1 = HZ) IZ ⟨.ref f, h.1, rfl, rfl⟩
    refine wpAny_Call_Name_kw (thn rd fun u s1 q => ?_)
    obtain ⟨_, _, J, ru, rfl, rfl⟩ := q
    cases (show u = Value.ref f from ru)
    have of1 := J.base.keep f _ hf hfn hfr (fun z => nomatch (show f ∈ ([] : List Addr) from z))
    have go := lam_runs (E := E) (Q := Q) I L of1 hbind hr J.env0 J.nolimit J.base h.2.1 (fun hr2 => hbody _ _ s1 _ hr2) h.2.2
    exact PySem.W.callWith_F0 ⟨_, _, _, _, of1⟩ (wp_back (codeAny_mono go fun _ _ => back_of J fun pins H s e s' => passes_call tk hW pins σZ H s e s'))
/-- x(lambda: body) -/
theorem pe_lamcall {T : List (Addr × Str)} {TT : (XK → Hp → VK → Prop) → Hp → VK → Prop} {x a : Str} {g c P : Addr} {pg : Arguments} {bg : List Stmt} {sg : Scope} {dV kV doc pm cdv ct oc : Value} {an od : Option Addr} {osl : Array (Option Value)} {Ng : List Str}
    {t : XK → TE} {p lpos pos : Pos} (hg : Gl X x) (hm : X.mg x = some (.ref g)) (hk : PySem.W.keepIn X.K (.ref g) = true) (lk : X.K.lookup g = some ⟨oc, od, .func (PySem.W.fnOf x x pg bg sg dV kV doc pm an cdv ct), osl⟩) (hcg : PySem.W.codeIn X.K cdv x = true)
    (hb : L2.Binds X.K (PySem.W.fnOf x x pg bg sg dV kV doc pm an cdv ct) [a] []) (Sg : FnScope Ng [a] sg) (hNg : Ng[0]? = some a) (hva : Vis sg a) (hG : GivesTo X Ng x sg g cdv bg a (X.env.qual ++ "<lambda>") TT) (TB : TabB X.base X.mg c P) (hcode : X.env.code = .ref c)
    (hmT : (P, X.env.qual ++ "<lambda>") ∈ T) (hu : ∀ p ∈ T, p.1 = P → p.2 = X.env.qual ++ "<lambda>") (hr : Room (k + 2) X.A) (L : LamS X.env.scope scope) (hdef : defaultsOf params X.env = ([], []))
    (hbind : ∀ (q : Str) (cl : List (Str × Addr)) (pm cv ctv : Value), bindArgs (PySem.W.kla_fn "<lambda>" q params body scope cl pm cv ctv) ⟨[], []⟩ = pure [])
    (hbody : ∀ (A : Around) (outer : List Env) (s : Shared) (H : Hp) (E : XK) (f c' : Addr), Room k (A.deeper (lamEnv X scope s.heap.objs.size f c')) → PE (lamCx X A outer s H E scope f c') body (t E))
    (hdb : (x == ("__debug__" : Str)) = false := by decide) (hd : (a == ("__debug__" : Str)) = false := by decide) (hcd : (a == ("__classdict__" : Str)) = false := by decide) :
    PE X (.Call (.Name x p) [.Lambda params body scope lpos] [] pos) (tLam T TT t) where
  run pins s σ H Q I h := by
    have made : wpAny (model X.prog X.w) X.A (eval (.Lambda params body scope lpos) X.env) (fun v s' => ∃ f, v = .ref f ∧ wpAny (model X.prog X.w) X.A (call (.ref g) [.ref f]) (EP X pins σ Q) X.xe s' ∧ X.K.In s'.heap) X.xe s := by
      refine LamX.lam_make2 I TB hcode hmT hu h.1 hdef (L.has I.ok) fun f c' pm' ctv H1 s' J eN T1 hf hfn hfr hco => ⟨f, rfl, wp_back ?_, J.kIn⟩
      have go : codeAny (model X.prog X.w) X.A (.call (.ref g) ⟨[.ref f], []⟩) (CR C8.CX0 X.stack X.prog X.w H1 s' Q C8.E0) s' :=
        LamX.run_ofS (N := Ng) (ps := [a]) (us := [.ref f]) (vs := [.ref f]) lk hcg Sg hr.toRoom J.env0 (hb s' [.ref f] J.kIn rfl) (.cons rfl .nil) rfl fun hr' => by
          obtain ⟨t', w1, w2⟩ := hG f c' s' H1 Q (fun E H' Q' => t E σ H' Q') (fun W pn xe E p1 p2 tk hW => lam_act (i := 0) J L hf hfn hfr (hbind _ _ _ _ _) tk hW (Room.of_deeper hr' hr.gd) (fun A outer s H r2 => hbody A outer s H E f c' r2) hNg hva hd hcd) hco (h.2 H1 eN T1)
          exact ⟨t', w1.nox, w2⟩
      exact codeAny_mono go fun r s2 q => by
        match r, q with
        | .error _, q => exact (show False from q).elim
        | .ok (.ret _), q => exact J.after q
    refine wpAny_Call_Name_kw (ld_glob I hg hm (PySem.W.callWith_K (h₀ := X.base) I.ok.mod.kin hk ?_ (by rfl) (by rfl)) hdb)
    exact Calls.spliced_cons (wpAny_mono made (fun v s' q => by
      obtain ⟨f, rfl, z, zk⟩ := q
      exact Calls.spliced_nil ⟨zk, z⟩) fun _ _ q => q)
end
end BL

set_option Elab.async false
set_option linter.all false
set_option maxRecDepth 100000
set_option maxHeartbeats 1000000
namespace BL
open PySem L2

/-! ### plain data -/
inductive T where
  | non | bl (b : Bool) | int (i : Int) | str (x : Str)
  | tup (ts : List T) | lst (ts : List T)
  | dk (ks : List Key) (ts : List T)
  | obj (c : Nat) (ns : List Str) (ts : List T)
  | ftp (ts : List T)
  | cls (c : Nat)
  | nd (ks ts : List T)
instance : Inhabited T := ⟨.non⟩
/-- a value: plain data, or an object that may be changed -/
inductive D where
  | t (x : T) | loc (n : Nat)
instance : Inhabited D := ⟨.t .non⟩
/-- what stands at a location -/
inductive O where
  | lst (ds : List D) | dk (kvs : List (Key × D)) | ins (c : Nat) (fs : List (Str × D)) | flst (ts : List T) | tpl (ds : List D)
  | nd (kvs : List (T × D)) | fdk (kvs : List (Key × D)) | fn (ds : List D) | fnd (kvs : List (T × D))
abbrev Hs := List O
inductive Re where
  | ok (d : D) (G : Hs) | exc (c : Nat) (ns : List Str) (ds : List D) (G : Hs) | stuck
abbrev Ev := List (Option D)
inductive Rs where
  | nx (r : Ev) (G : Hs) | rt (d : D) (G : Hs) | bk (r : Ev) (G : Hs) | ct (r : Ev) (G : Hs) | exc (c : Nat) (ns : List Str) (ds : List D) (r : Ev) (G : Hs) | stuck

/-! ### what stands for what -/
structure Gm0 where
  K : PySem.W.Frag
  ca : Nat → Addr
  w : World
  ft : Nat → Addr → Obj → Addr → Str → List V → Prop
mutual
/-- the key of a dict that a value is -/
def nk : T → Option NestedKey
  | .non => some .none
  | .bl b => some (.num (if b = true then 1 else 0))
  | .int i => some (.num i)
  | .str x => some (.text x)
  | .tup ts => match nks ts with
    | some ks => some (.tup ks)
    | none => none
  | _ => none
def nks : List T → Option (List NestedKey)
  | [] => some []
  | t :: ts => match nk t, nks ts with
    | some k, some ks => some (k :: ks)
    | _, _ => none
end
/-- .. a tuple, not too deep -/
def nkT : T → Option NestedKey
  | .tup ts => match nk (.tup ts) with
    | some k => if k.depth ≤ 8 then some k else none
    | none => none
  | _ => none
abbrev kOf : NestedKey × Addr × V → V := fun e => .ref e.2.1
abbrev vOf : NestedKey × Addr × V → V := fun e => e.2.2
/-- tb: tables of code objects; rv: lists that are being filled by comprehensions -/
structure Gm extends Gm0 where
  tb : List (Addr × Str)
  rv : List Addr

/-- every sign is a sign of Unicode -/
abbrev okS (x : Str) : Prop := PyData.strOk x = true
/-- a list that none of the located ones is: one of the heap, or a written one -/
def Rl (K : PySem.W.Frag) (B : Addr → Prop) (H : Hp) (a : Addr) (xs : List V) : Prop := (Rd H a (.lst xs) ∧ ¬ B a) ∨
  ∃ (o : Obj) (its : Array Value) (n : Nat), K.lookup a = some o ∧ o.cls = .type "list" ∧ o.dict = none ∧ o.data = .seq its n ∧ its.size ≤ sizeLine ∧ Vals xs its.toList
theorem Rl.sq {K : PySem.W.Frag} {B : Addr → Prop} {H : Hp} {a : Addr} {xs : List V} (h : Rl K B H a xs) : SqL K H a xs := h.imp (·.1) id
theorem Rl.here {K : PySem.W.Frag} {B : Addr → Prop} {H : Hp} {a : Addr} {xs : List V} (h : H a = some (.lst xs)) (nb : ¬ B a) : Rl K B H a xs := .inl ⟨.inl h, nb⟩
theorem Rl.fewer {K : PySem.W.Frag} {B B' : Addr → Prop} {H : Hp} {a : Addr} {xs : List V} (hb : B' a → B a) (h : Rl K B H a xs) : Rl K B' H a xs := h.imp (fun z => ⟨z.1, fun q => z.2 (hb q)⟩) id
theorem Rl.mv {K : PySem.W.Frag} {B B' : Addr → Prop} {H H' : Hp} (kp : ∀ a o, H a = some o → ¬ B a → (∀ ps, o ≠ .tbl ps) → H' a = some o ∧ ¬ B' a) {a : Addr} {xs : List V} (h : Rl K B H a xs) : Rl K B' H' a xs := by
  rcases h with ⟨h | ⟨ob, h⟩, nb⟩ | h
  · obtain ⟨h1, h2⟩ := kp _ _ h nb (by simp)
    exact .inl ⟨.inl h1, h2⟩
  · obtain ⟨h1, h2⟩ := kp _ _ h nb (by simp)
    exact .inl ⟨.inr ⟨ob, h1⟩, h2⟩
  · exact .inr h
mutual
def Rp (g : Gm0) (B : Addr → Prop) (H : Hp) : T → V → Prop
  | .non, v => v = .non
  | .bl b, v => v = .bl b
  | .int i, v => v = .int i
  | .str x, v => v = .str x ∧ okS x
  | .tup ts, v => ∃ a xs, v = .ref a ∧ SqT g.K H a xs ∧ Rps g B H ts xs
  | .lst ts, v => ∃ a xs, v = .ref a ∧ Rl g.K B H a xs ∧ Rps g B H ts xs
  | .dk ks ts, v => ∃ a xs, v = .ref a ∧ H a = some (.dK (ks.zip xs)) ∧ xs.length = ks.length ∧ ¬ B a ∧ Rps g B H ts xs
  | .obj c ns ts, v => ∃ a dx xs, v = .ref a ∧ H a = some (.ins (g.ca c) dx (ns.zip xs)) ∧ xs.length = ns.length ∧ ¬ B a ∧ Rps g B H ts xs
  | .ftp ts, v => ∃ a ob xs, v = .ref a ∧ H a = some (.frz ob (.tup xs)) ∧ ob.dict = none ∧ ¬ B a ∧ Rps g B H ts xs
  | .cls c, v => v = .ref (g.ca c)
  | .nd ks ts, v => ∃ a ep es, v = .ref a ∧ H a = some (ndO g.w a es ep) ∧ ¬ B a ∧ ks.map nkT = es.map (fun e => some e.1) ∧ Rps g B H ks (es.map kOf) ∧ Rps g B H ts (es.map vOf)
def Rps (g : Gm0) (B : Addr → Prop) (H : Hp) : List T → List V → Prop
  | [], xs => xs = []
  | t :: ts, xs => ∃ v vs, xs = v :: vs ∧ Rp g B H t v ∧ Rps g B H ts vs
end

/-- the addresses of the located objects -/
def Bd (m : Nat → Addr) (n : Nat) (a : Addr) : Prop := ∃ i, i < n ∧ m i = a
/-- .. and of the lists that are being filled -/
def Bv (g : Gm) (m : Nat → Addr) (n : Nat) (a : Addr) : Prop := Bd m n a ∨ a ∈ g.rv
/-- n: how many locations there are; b: those below b may be named -/
def RpD (g : Gm) (m : Nat → Addr) (n b : Nat) (H : Hp) : D → V → Prop
  | .t x, v => Rp g.toGm0 (Bv g m n) H x v
  | .loc i, v => i < b ∧ v = .ref (m i)
def RpDs (g : Gm) (m : Nat → Addr) (n b : Nat) (H : Hp) : List D → List V → Prop
  | [], xs => xs = []
  | d :: ds, xs => ∃ v vs, xs = v :: vs ∧ RpD g m n b H d v ∧ RpDs g m n b H ds vs
def OR (g : Gm) (m : Nat → Addr) (n i : Nat) (H : Hp) : O → Prop
  | .lst ds => ∃ xs, H (m i) = some (.lst xs) ∧ RpDs g m n n H ds xs
  | .dk kvs => ∃ xs, H (m i) = some (.dK ((kvs.map (·.1)).zip xs)) ∧ RpDs g m n n H (kvs.map (·.2)) xs
  | .ins c fs => ∃ dx xs, H (m i) = some (.ins (g.ca c) dx ((fs.map (·.1)).zip xs)) ∧ RpDs g m n n H (fs.map (·.2)) xs
  | .flst ts => ∃ ob xs, H (m i) = some (.frz ob (.lst xs)) ∧ Rps g.toGm0 (Bv g m n) H ts xs
  | .fdk kvs => ∃ ob xs, H (m i) = some (.frz ob (.dK ((kvs.map (·.1)).zip xs))) ∧ RpDs g m n n H (kvs.map (·.2)) xs
  | .fn ds => ∃ ob u xs c q, H (m i) = some (.frz ob u) ∧ H c = some (LamX.CodeO c q) ∧ ¬ Bv g m n c ∧ g.ft i (m i) ob c q xs ∧ RpDs g m n n H ds xs
  | .tpl ds => ∃ xs, H (m i) = some (.tup xs) ∧ RpDs g m n n H ds xs
  | .nd kvs => ∃ ep es, H (m i) = some (ndO g.w (m i) es ep) ∧ kvs.map (fun p => nkT p.1) = es.map (fun e => some e.1) ∧ Rps g.toGm0 (Bv g m n) H (kvs.map (·.1)) (es.map kOf) ∧ RpDs g m n n H (kvs.map (·.2)) (es.map vOf)
  | .fnd kvs => ∃ ob ep es, H (m i) = some (.frz ob (ndO g.w (m i) es ep)) ∧ kvs.map (fun p => nkT p.1) = es.map (fun e => some e.1) ∧ Rps g.toGm0 (Bv g m n) H (kvs.map (·.1)) (es.map kOf) ∧ RpDs g m n n H (kvs.map (·.2)) (es.map vOf)
def szOk : HO → Prop
  | .lst xs => xs.length ≤ sizeLine
  | .tup xs => xs.length ≤ sizeLine
  | .dK kvs => kvs.length ≤ sizeLine
  | .dT kvs => kvs.length ≤ sizeLine
  | .frz _ u => szOk u
  | _ => True
/-- what a display or a comprehension fills -/
def fillO : HO → Bool
  | .lst _ => true
  | .dK _ => true
  | _ => false
structure SR (g : Gm) (m : Nat → Addr) (H : Hp) (G : Hs) : Prop where
  ob : ∀ i o, G[i]? = some o → OR g m G.length i H o
  inj : ∀ i j, i < G.length → j < G.length → m i = m j → i = j
  sz : ∀ a o, H a = some o → szOk o
  tb : LamX.Tabs g.tb H
  rv : ∀ a, a ∈ g.rv → (∃ o, H a = some o ∧ fillO o = true) ∧ ¬ Bd m G.length a
/-- tuples and what is locked stay -/
def Tk (H H' : Hp) : Prop := ∀ a, (∀ xs, H a = some (.tup xs) → H' a = some (.tup xs)) ∧ ∀ ob u, H a = some (.frz ob u) → H' a = some (.frz ob u)
theorem Tk.refl {H : Hp} : Tk H H := fun _ => ⟨fun _ h => h, fun _ _ h => h⟩
theorem Tk.trans {H H' H2 : Hp} (a : Tk H H') (b : Tk H' H2) : Tk H H2 := fun x => ⟨fun xs h => (b x).1 xs ((a x).1 xs h), fun ob u h => (b x).2 ob u ((a x).2 ob u h)⟩
theorem Tk.rd {H H' : Hp} (t : Tk H H') {a : Addr} {xs : List V} (h : Rd H a (.tup xs)) : Rd H' a (.tup xs) := h.elim (fun h => .inl ((t a).1 xs h)) fun ⟨ob, h⟩ => .inr ⟨ob, (t a).2 ob _ h⟩
/-- neither a tuple nor locked -/
def NoT (H : Hp) (p : Addr) : Prop := (∀ xs, H p ≠ some (.tup xs)) ∧ ∀ ob u, H p ≠ some (.frz ob u)
theorem Tk.upd {H H' : Hp} (t : Tk H H') {p : Addr} {o : HO} (h : NoT H p) : Tk H (upd H' p o) := fun a => by
  refine ⟨fun xs z => ?_, fun ob u z => ?_⟩
  · rw [upd_ne (fun q : a = p => h.1 xs (q ▸ z))]; exact (t a).1 xs z
  · rw [upd_ne (fun q : a = p => h.2 ob u (q ▸ z))]; exact (t a).2 ob u z
theorem rd_none {H : Hp} {p : Addr} (h : H p = none) : NoT H p := ⟨fun _ w => (by rw [h] at w; cases w), fun _ _ w => (by rw [h] at w; cases w)⟩
structure Ex (m : Nat → Addr) (n : Nat) (H : Hp) (m' : Nat → Addr) (n' : Nat) (H' : Hp) : Prop where
  le : n ≤ n'
  tk : Tk H H'
  ag : ∀ i, i < n → m' i = m i
  fr : ∀ i, n ≤ i → i < n' → ∀ o, H (m' i) = some o → ∃ ps, o = .tbl ps
  kp : ∀ a o, H a = some o → ¬ Bd m n a → (∀ ps, o ≠ .tbl ps) → H' a = some o
/-- slots -/
def Sl (g : Gm) (m : Nat → Addr) (n : Nat) (H : Hp) (σ : St) (r : Ev) : Prop :=
  σ.length = r.length ∧ ∀ (i : Nat) (d : D), r[i]? = some (some d) → ∃ v, σ[i]? = some (some v) ∧ RpD g m n n H d v

/-! ### small facts -/
section
variable {g : Gm} {m m' : Nat → Addr} {n n' b b' : Nat} {H H' H2 : Hp} {G G' : Hs}
theorem SR.at_ (s : SR g m H G) {i : Nat} (h : i < G.length) : ∃ o, H (m i) = some o ∧ (∀ ps, o ≠ .tbl ps) ∧ (∀ c q, o = LamX.CodeO c q → m i ≠ c) := by
  refine ?G
  exact (by (intro h; exact h) : have h : (type_of% ?G) := (by
  have e := List.getElem?_eq_getElem h
  have q := s.ob i _ e
  cases hq : G[i] with
  | lst ds => rw [hq] at q; obtain ⟨xs, q, _⟩ := q; exact ⟨_, q, by simp, fun _ _ z => nomatch z⟩
  | dk kvs => rw [hq] at q; obtain ⟨xs, q, _⟩ := q; exact ⟨_, q, by simp, fun _ _ z => nomatch z⟩
  | ins c fs => rw [hq] at q; obtain ⟨dx, xs, q, _⟩ := q; exact ⟨_, q, by simp, fun _ _ z => nomatch z⟩
  | flst ts => rw [hq] at q; obtain ⟨ob, xs, q, _⟩ := q; exact ⟨_, q, by simp, fun _ _ z => nomatch z⟩
  | tpl ds => rw [hq] at q; obtain ⟨xs, q, _⟩ := q; exact ⟨_, q, by simp, fun _ _ z => nomatch z⟩
  | nd kvs => rw [hq] at q; obtain ⟨ep, es, q, _⟩ := q; exact ⟨_, q, by simp, fun _ _ => ndO_code⟩
  | fnd kvs => rw [hq] at q; obtain ⟨ob, ep, es, q, _⟩ := q; exact ⟨_, q, by simp, fun _ _ z => nomatch z⟩
  | fdk kvs => rw [hq] at q; obtain ⟨ob, xs, q, _⟩ := q; exact ⟨_, q, by simp, fun _ _ z => nomatch z⟩
  | fn ds => rw [hq] at q; obtain ⟨ob, u, xs, c, q0, q, _⟩ := q; exact ⟨_, q, by simp, fun _ _ z => nomatch z⟩
 ); type_of% ?G)
theorem SR.bdSome (s : SR g m H G) {a : Addr} (h : Bd m G.length a) : H a ≠ none := by
  obtain ⟨i, hi, rfl⟩ := h
  obtain ⟨o, e, _⟩ := s.at_ hi
  rw [e]; simp
theorem SR.notBd (s : SR g m H G) {a : Addr} (h : H a = none) : ¬ Bv g m G.length a := fun q => q.elim (fun q => s.bdSome q h) fun q => by
  obtain ⟨⟨o, e, _⟩, _⟩ := s.rv a q
  rw [h] at e; cases e
theorem Ex.bd (x : Ex m n H m' n' H') {a : Addr} {o : HO} (h : H a = some o) (hb : ¬ Bd m n a) (ht : ∀ ps, o ≠ .tbl ps) : ¬ Bd m' n' a := by
  rintro ⟨i, hi, rfl⟩
  by_cases q : i < n
  · exact hb ⟨i, q, (x.ag i q).symm⟩
  · obtain ⟨ps, e⟩ := x.fr i (Nat.le_of_not_lt q) hi _ h
    exact ht ps e
theorem Ex.refl : Ex m n H m n H := ⟨Nat.le_refl _, Tk.refl, fun _ _ => rfl, fun i h1 h2 => absurd h2 (Nat.not_lt.mpr h1), fun _ _ h _ _ => h⟩
theorem Ex.trans {m2 : Nat → Addr} {n2 : Nat} (a : Ex m n H m' G'.length H') (s : SR g m' H' G') (c : Ex m' G'.length H' m2 n2 H2) : Ex m n H m2 n2 H2 where
  le := Nat.le_trans a.le c.le
  tk := a.tk.trans c.tk
  ag := fun i h => (c.ag i (Nat.lt_of_lt_of_le h a.le)).trans (a.ag i h)
  fr := fun i h1 h2 o e => by
    by_cases q : i < G'.length
    · rw [c.ag i q] at e; exact a.fr i h1 q o e
    · by_cases ht : ∃ ps, o = .tbl ps
      · exact ht
      · have hb : ¬ Bd m n (m2 i) := fun ⟨j, hj, ej⟩ => by
          obtain ⟨o', e', nt, _⟩ := s.at_ (Nat.lt_of_lt_of_le hj a.le)
          rw [a.ag j hj, ej] at e'
          obtain ⟨ps, e2⟩ := c.fr i (Nat.le_of_not_lt q) h2 _ e'
          exact nt ps e2
        exact c.fr i (Nat.le_of_not_lt q) h2 o (a.kp _ _ e hb fun ps q => ht ⟨ps, q⟩)
  kp := fun x o h hb ht => c.kp x o (a.kp x o h hb ht) (a.bd h hb ht) ht
theorem Ex.rd (x : Ex m n H m' n' H') {a : Addr} {u : HO} (h : Rd H a u) (hb : ¬ Bd m n a) (hu : ∀ ps, u ≠ .tbl ps) : Rd H' a u ∧ ¬ Bd m' n' a := by
  rcases h with h | ⟨ob, h⟩
  · exact ⟨.inl (x.kp _ _ h hb hu), x.bd h hb hu⟩
  · exact ⟨.inr ⟨ob, x.kp _ _ h hb (by simp)⟩, x.bd h hb (by simp)⟩
theorem SqT.ex (x : Ex m G.length H m' n' H') (s : SR g m H G) {K : PySem.W.Frag} {a : Addr} {xs : List V} (h : SqT K H a xs) : SqT K H' a xs := by
  rcases h with h | h
  · exact .inl (x.tk.rd h)
  · exact .inr h
theorem Ex.bv (x : Ex m n H m' n' H') {a : Addr} {o : HO} (h : H a = some o) (hb : ¬ Bv g m n a) (ht : ∀ ps, o ≠ .tbl ps) : ¬ Bv g m' n' a := fun q => q.elim (x.bd h (fun z => hb (.inl z)) ht) fun z => hb (.inr z)
mutual
theorem Rp.ex (x : Ex m G.length H m' n' H') (s : SR g m H G) : ∀ (t : T) (v : V), Rp g.toGm0 (Bv g m G.length) H t v → Rp g.toGm0 (Bv g m' n') H' t v
  | .non, v, h => h
  | .bl b, v, h => h
  | .int i, v, h => h
  | .str y, v, h => h
  | .tup ts, v, ⟨a, xs, e, h, r⟩ => ⟨a, xs, e, SqT.ex x s h, Rps.ex x s ts xs r⟩
  | .lst ts, v, ⟨a, xs, e, h, r⟩ => ⟨a, xs, e, Rl.mv (fun a o h nb ht => ⟨x.kp _ _ h (fun z => nb (.inl z)) ht, x.bv h nb ht⟩) h, Rps.ex x s ts xs r⟩
  | .dk ks ts, v, ⟨a, xs, e, h, l, nb, r⟩ => ⟨a, xs, e, x.kp _ _ h (fun z => nb (.inl z)) (by simp), l, x.bv h nb (by simp), Rps.ex x s ts xs r⟩
  | .obj c ns ts, v, ⟨a, dx, xs, e, h, l, nb, r⟩ => ⟨a, dx, xs, e, x.kp _ _ h (fun z => nb (.inl z)) (by simp), l, x.bv h nb (by simp), Rps.ex x s ts xs r⟩
  | .ftp ts, v, ⟨a, ob, xs, e, h, l, nb, r⟩ => ⟨a, ob, xs, e, x.kp _ _ h (fun z => nb (.inl z)) (by simp), l, x.bv h nb (by simp), Rps.ex x s ts xs r⟩
  | .cls c, v, h => h
  | .nd ks ts, v, ⟨a, ep, es, e, h, nb, q, r1, r2⟩ => ⟨a, ep, es, e, x.kp _ _ h (fun z => nb (.inl z)) (by simp), x.bv h nb (by simp), q, Rps.ex x s ks _ r1, Rps.ex x s ts _ r2⟩
theorem Rps.ex (x : Ex m G.length H m' n' H') (s : SR g m H G) : ∀ (ts : List T) (vs : List V), Rps g.toGm0 (Bv g m G.length) H ts vs → Rps g.toGm0 (Bv g m' n') H' ts vs
  | [], vs, h => h
  | t :: ts, vs, ⟨v, ws, e, h, r⟩ => ⟨v, ws, e, Rp.ex x s t v h, Rps.ex x s ts ws r⟩
end
theorem RpD.ex (x : Ex m G.length H m' n' H') (s : SR g m H G) (hb : b ≤ b') (hg : b ≤ G.length) : ∀ {d : D} {v : V}, RpD g m G.length b H d v → RpD g m' n' b' H' d v
  | .t t, v, h => Rp.ex x s t v h
  | .loc i, v, ⟨h, e⟩ => ⟨Nat.lt_of_lt_of_le h hb, by rw [x.ag i (Nat.lt_of_lt_of_le h hg)]; exact e⟩
theorem RpDs.ex (x : Ex m G.length H m' n' H') (s : SR g m H G) (hb : b ≤ b') (hg : b ≤ G.length) : ∀ {ds : List D} {vs : List V}, RpDs g m G.length b H ds vs → RpDs g m' n' b' H' ds vs
  | [], vs, h => h
  | d :: ds, vs, ⟨v, ws, e, h, r⟩ => ⟨v, ws, e, RpD.ex x s hb hg h, RpDs.ex x s hb hg r⟩
theorem Sl.ex (x : Ex m G.length H m' n' H') (s : SR g m H G) {σ : St} {r : Ev} (h : Sl g m G.length H σ r) : Sl g m' n' H' σ r :=
  ⟨h.1, fun i d e => by
    obtain ⟨v, e1, q⟩ := h.2 i d e
    exact ⟨v, e1, RpD.ex x s x.le (Nat.le_refl _) q⟩⟩
mutual
/-- fewer located objects -/
theorem Rp.fewer {B B' : Addr → Prop} (hb : ∀ a, B' a → B a) : ∀ (t : T) (v : V), Rp g.toGm0 B H t v → Rp g.toGm0 B' H t v
  | .non, v, h => h
  | .bl b, v, h => h
  | .int i, v, h => h
  | .str y, v, h => h
  | .tup ts, v, ⟨a, xs, e, h, r⟩ => ⟨a, xs, e, h, Rps.fewer hb ts xs r⟩
  | .lst ts, v, ⟨a, xs, e, h, r⟩ => ⟨a, xs, e, h.fewer (hb _), Rps.fewer hb ts xs r⟩
  | .dk ks ts, v, ⟨a, xs, e, h, l, nb, r⟩ => ⟨a, xs, e, h, l, fun q => nb (hb _ q), Rps.fewer hb ts xs r⟩
  | .obj c ns ts, v, ⟨a, dx, xs, e, h, l, nb, r⟩ => ⟨a, dx, xs, e, h, l, fun q => nb (hb _ q), Rps.fewer hb ts xs r⟩
  | .ftp ts, v, ⟨a, ob, xs, e, h, l, nb, r⟩ => ⟨a, ob, xs, e, h, l, fun q => nb (hb _ q), Rps.fewer hb ts xs r⟩
  | .cls c, v, h => h
  | .nd ks ts, v, ⟨a, ep, es, e, h, nb, q, r1, r2⟩ => ⟨a, ep, es, e, h, fun z => nb (hb _ z), q, Rps.fewer hb ks _ r1, Rps.fewer hb ts _ r2⟩
theorem Rps.fewer {B B' : Addr → Prop} (hb : ∀ a, B' a → B a) : ∀ (ts : List T) (vs : List V), Rps g.toGm0 B H ts vs → Rps g.toGm0 B' H ts vs
  | [], vs, h => h
  | t :: ts, vs, ⟨v, ws, e, h, r⟩ => ⟨v, ws, e, Rp.fewer hb t v h, Rps.fewer hb ts ws r⟩
end
theorem Bd.mono (h : n ≤ n') {a : Addr} : Bd m n a → Bd m n' a := fun ⟨i, hi, e⟩ => ⟨i, Nat.lt_of_lt_of_le hi h, e⟩
theorem Bv.mono (h : n ≤ n') {a : Addr} : Bv g m n a → Bv g m n' a := fun q => q.elim (fun z => .inl (Bd.mono h z)) .inr
theorem RpD.pop (h : n ≤ n') : ∀ {d : D} {v : V}, RpD g m n' b H d v → RpD g m n b H d v
  | .t t, v, q => Rp.fewer (fun _ => Bv.mono h) t v q
  | .loc i, v, q => q
theorem RpDs.pop (h : n ≤ n') : ∀ {d : List D} {v : List V}, RpDs g m n' b H d v → RpDs g m n b H d v
  | [], vs, h => h
  | d :: ds, vs, ⟨v, ws, e, q, r⟩ => ⟨v, ws, e, RpD.pop h q, RpDs.pop h r⟩
/-- what is named lies below n -/
def rB (n : Nat) : D → Prop
  | .t _ => True
  | .loc i => i < n
def oB (n : Nat) : O → Prop
  | .lst ds => ∀ d ∈ ds, rB n d
  | .dk kvs => ∀ d ∈ kvs.map (·.2), rB n d
  | .ins _ fs => ∀ d ∈ fs.map (·.2), rB n d
  | .flst _ => True
  | .tpl ds => ∀ d ∈ ds, rB n d
  | .nd kvs => ∀ d ∈ kvs.map (·.2), rB n d
  | .fnd kvs => ∀ d ∈ kvs.map (·.2), rB n d
  | .fdk kvs => ∀ d ∈ kvs.map (·.2), rB n d
  | .fn ds => ∀ d ∈ ds, rB n d
theorem RpDs.rb : ∀ {ds : List D} {vs : List V}, RpDs g m n b H ds vs → ∀ d ∈ ds, rB b d
  | [], _, _, d, h => by cases h
  | e :: ds, vs, ⟨v, ws, _, q, r⟩, d, h => by
    rcases List.mem_cons.mp h with rfl | h
    · cases d with
      | t x => trivial
      | loc i => exact q.1
    · exact RpDs.rb r d h
theorem OR.ob {i : Nat} {o : O} (h : OR g m n i H o) : oB n o := by
  cases o with
  | lst ds => obtain ⟨xs, _, r⟩ := h; exact r.rb
  | dk kvs => obtain ⟨xs, _, r⟩ := h; exact r.rb
  | ins c fs => obtain ⟨dx, xs, _, r⟩ := h; exact r.rb
  | flst ts => trivial
  | tpl ds => obtain ⟨xs, _, r⟩ := h; exact r.rb
  | nd kvs => obtain ⟨ep, es, _, _, _, r⟩ := h; exact r.rb
  | fnd kvs => obtain ⟨ob, ep, es, _, _, _, r⟩ := h; exact r.rb
  | fdk kvs => obtain ⟨ob, xs, _, r⟩ := h; exact r.rb
  | fn ds => obtain ⟨ob, u, xs, c, q, _, _, _, _, r⟩ := h; exact r.rb
theorem RpDs.low : ∀ {ds : List D} {vs : List V}, (∀ d ∈ ds, rB b' d) → RpDs g m n b H ds vs → RpDs g m n b' H ds vs
  | [], _, _, h => h
  | e :: ds, vs, hb, ⟨v, ws, e1, q, r⟩ => by
    refine ⟨v, ws, e1, ?_, RpDs.low (fun d hd => hb d (.tail _ hd)) r⟩
    have := hb e (.head _)
    cases e with
    | t x => exact q
    | loc i => exact ⟨this, q.2⟩
/-- the younger locations forgotten: no older object names them -/
theorem SR.pop (s : SR g m H G) {k : Nat} (hk : k ≤ G.length) (hb : ∀ i o, i < k → G[i]? = some o → oB k o) : SR g m H (G.take k) := by
  refine ?G
  exact (by (intro h; exact h) : have h : (type_of% ?G) := (by
  have hl : (G.take k).length ≤ G.length := by rw [List.length_take]; exact Nat.min_le_right _ _
  have hl2 : (G.take k).length = k := by rw [List.length_take]; exact Nat.min_eq_left hk
  refine ⟨fun i o e => ?_, fun i j h1 h2 => s.inj i j (Nat.lt_of_lt_of_le h1 hl) (Nat.lt_of_lt_of_le h2 hl), s.sz, s.tb, fun a ha => ⟨(s.rv a ha).1, fun q => (s.rv a ha).2 (Bd.mono hl q)⟩⟩
  rw [List.getElem?_take] at e
  split at e
  · rename_i hik
    have q := s.ob i o e
    have ho := hb i o hik e
    rw [hl2]
    cases o with
    | lst ds => obtain ⟨xs, e, r⟩ := q; exact ⟨xs, e, RpDs.pop hk (RpDs.low ho r)⟩
    | dk kvs => obtain ⟨xs, e, r⟩ := q; exact ⟨xs, e, RpDs.pop hk (RpDs.low ho r)⟩
    | ins c fs => obtain ⟨dx, xs, e, r⟩ := q; exact ⟨dx, xs, e, RpDs.pop hk (RpDs.low ho r)⟩
    | flst ts => obtain ⟨ob, xs, e, r⟩ := q; exact ⟨ob, xs, e, Rps.fewer (fun _ => Bv.mono hk) _ _ r⟩
    | tpl ds => obtain ⟨xs, e, r⟩ := q; exact ⟨xs, e, RpDs.pop hk (RpDs.low ho r)⟩
    | nd kvs => obtain ⟨ep, es, e, k, r0, r⟩ := q; exact ⟨ep, es, e, k, Rps.fewer (fun _ => Bv.mono hk) _ _ r0, RpDs.pop hk (RpDs.low ho r)⟩
    | fnd kvs => obtain ⟨ob, ep, es, e, k, r0, r⟩ := q; exact ⟨ob, ep, es, e, k, Rps.fewer (fun _ => Bv.mono hk) _ _ r0, RpDs.pop hk (RpDs.low ho r)⟩
    | fdk kvs => obtain ⟨ob, xs, e, r⟩ := q; exact ⟨ob, xs, e, RpDs.pop hk (RpDs.low ho r)⟩
    | fn ds => obtain ⟨ob, u, xs, c, q, e, hc, nb, hf, r⟩ := q; exact ⟨ob, u, xs, c, q, e, hc, fun z => nb (Bv.mono hk z), hf, RpDs.pop hk (RpDs.low ho r)⟩
  · cases e
 ); type_of% ?G)
/-- what an older object names is what it named, or older -/
def Cl (G0 G' : Hs) : Prop := ∀ i, i < G0.length → G'[i]? = G0[i]? ∨ ∃ o, G'[i]? = some o ∧ oB G0.length o
theorem Cl.pop (h : Cl G' G) {m0 : Nat → Addr} {H0 : Hp} (s0 : SR g m0 H0 G') : ∀ i o, i < G'.length → G[i]? = some o → oB G'.length o := fun i o hi e => by
  rcases h i hi with q | ⟨o', q, r⟩
  · rw [q] at e; exact (s0.ob i o e).ob
  · rw [q] at e; cases e; exact r
/-! ### moved to another heap, other places -/
mutual
theorem Rp.mv {g : Gm0} {B B' : Addr → Prop} (kp : ∀ a o, H a = some o → ¬ B a → (∀ ps, o ≠ .tbl ps) → H' a = some o ∧ ¬ B' a) (kt : ∀ a xs, SqT g.K H a xs → SqT g.K H' a xs) : ∀ (t : T) (v : V), Rp g B H t v → Rp g B' H' t v
  | .non, v, h => h
  | .bl b, v, h => h
  | .int i, v, h => h
  | .str y, v, h => h
  | .tup ts, v, ⟨a, xs, e, h, r⟩ => ⟨a, xs, e, kt _ _ h, Rps.mv kp kt ts xs r⟩
  | .lst ts, v, ⟨a, xs, e, h, r⟩ => ⟨a, xs, e, Rl.mv kp h, Rps.mv kp kt ts xs r⟩
  | .dk ks ts, v, ⟨a, xs, e, h, l, nb, r⟩ => ⟨a, xs, e, (kp _ _ h nb (by simp)).1, l, (kp _ _ h nb (by simp)).2, Rps.mv kp kt ts xs r⟩
  | .obj c ns ts, v, ⟨a, dx, xs, e, h, l, nb, r⟩ => ⟨a, dx, xs, e, (kp _ _ h nb (by simp)).1, l, (kp _ _ h nb (by simp)).2, Rps.mv kp kt ts xs r⟩
  | .ftp ts, v, ⟨a, ob, xs, e, h, l, nb, r⟩ => ⟨a, ob, xs, e, (kp _ _ h nb (by simp)).1, l, (kp _ _ h nb (by simp)).2, Rps.mv kp kt ts xs r⟩
  | .cls c, v, h => h
  | .nd ks ts, v, ⟨a, ep, es, e, h, nb, q, r1, r2⟩ => ⟨a, ep, es, e, (kp _ _ h nb (by simp)).1, (kp _ _ h nb (by simp)).2, q, Rps.mv kp kt ks _ r1, Rps.mv kp kt ts _ r2⟩
theorem Rps.mv {g : Gm0} {B B' : Addr → Prop} (kp : ∀ a o, H a = some o → ¬ B a → (∀ ps, o ≠ .tbl ps) → H' a = some o ∧ ¬ B' a) (kt : ∀ a xs, SqT g.K H a xs → SqT g.K H' a xs) : ∀ (ts : List T) (vs : List V), Rps g B H ts vs → Rps g B' H' ts vs
  | [], vs, h => h
  | t :: ts, vs, ⟨v, ws, e, h, r⟩ => ⟨v, ws, e, Rp.mv kp kt t v h, Rps.mv kp kt ts ws r⟩
end
abbrev Gm.rvd (g : Gm) (rv : List Addr) : Gm := ⟨g.toGm0, g.tb, rv⟩
/-- what the values' new places must be -/
structure Mv (g : Gm) (m : Nat → Addr) (n : Nat) (H : Hp) (g' : Gm) (m' : Nat → Addr) (n' : Nat) (H' : Hp) : Prop where
  g0 : g'.toGm0 = g.toGm0
  kp : ∀ a o, H a = some o → ¬ Bv g m n a → (∀ ps, o ≠ .tbl ps) → H' a = some o ∧ ¬ Bv g' m' n' a
  kt : ∀ a xs, SqT g.K H a xs → SqT g.K H' a xs
  ag : ∀ i, i < n → m' i = m i
theorem RpD.mv {g' : Gm} (x : Mv g m n H g' m' n' H') (hb : b ≤ b') (hg : b ≤ n) : ∀ {d : D} {v : V}, RpD g m n b H d v → RpD g' m' n' b' H' d v
  | .t t, v, h => by show Rp g'.toGm0 _ _ _ _; rw [x.g0]; exact Rp.mv x.kp x.kt t v h
  | .loc i, v, ⟨h, e⟩ => ⟨Nat.lt_of_lt_of_le h hb, by rw [x.ag i (Nat.lt_of_lt_of_le h hg)]; exact e⟩
theorem RpDs.mv {g' : Gm} (x : Mv g m n H g' m' n' H') (hb : b ≤ b') (hg : b ≤ n) : ∀ {ds : List D} {vs : List V}, RpDs g m n b H ds vs → RpDs g' m' n' b' H' ds vs
  | [], vs, h => h
  | d :: ds, vs, ⟨v, ws, e, h, r⟩ => ⟨v, ws, e, RpD.mv x hb hg h, RpDs.mv x hb hg r⟩
theorem OR.mv {g' : Gm} (x : Mv g m n H g' m' n' H') (hn : n ≤ n') {i : Nat} (hi : i < n) (hs : H' (m i) = H (m i)) : ∀ {o : O}, OR g m n i H o → OR g' m' n' i H' o := by
  refine ?G
  exact (by (intro h; exact h) : have h : (type_of% ?G) := (by
  intro o q
  have hm := x.ag i hi
  have hc : g'.ca = g.ca := by rw [x.g0]
  have hw : g'.w = g.w := by rw [x.g0]
  cases o with
  | lst ds => obtain ⟨xs, e, r⟩ := q; exact ⟨xs, by rw [hm, hs]; exact e, RpDs.mv x hn (Nat.le_refl _) r⟩
  | dk kvs => obtain ⟨xs, e, r⟩ := q; exact ⟨xs, by rw [hm, hs]; exact e, RpDs.mv x hn (Nat.le_refl _) r⟩
  | ins c fs => obtain ⟨dx, xs, e, r⟩ := q; exact ⟨dx, xs, by rw [hm, hs, hc]; exact e, RpDs.mv x hn (Nat.le_refl _) r⟩
  | flst ts => obtain ⟨ob, xs, e, r⟩ := q; exact ⟨ob, xs, by rw [hm, hs]; exact e, by rw [x.g0]; exact Rps.mv x.kp x.kt _ _ r⟩
  | tpl ds => obtain ⟨xs, e, r⟩ := q; exact ⟨xs, by rw [hm, hs]; exact e, RpDs.mv x hn (Nat.le_refl _) r⟩
  | nd kvs => obtain ⟨ep, es, e, k, r0, r⟩ := q; exact ⟨ep, es, by rw [hm, hs, hw]; exact e, k, by rw [x.g0]; exact Rps.mv x.kp x.kt _ _ r0, RpDs.mv x hn (Nat.le_refl _) r⟩
  | fnd kvs => obtain ⟨ob, ep, es, e, k, r0, r⟩ := q; exact ⟨ob, ep, es, by rw [hm, hs, hw]; exact e, k, by rw [x.g0]; exact Rps.mv x.kp x.kt _ _ r0, RpDs.mv x hn (Nat.le_refl _) r⟩
  | fdk kvs => obtain ⟨ob, xs, e, r⟩ := q; exact ⟨ob, xs, by rw [hm, hs]; exact e, RpDs.mv x hn (Nat.le_refl _) r⟩
  | fn ds => obtain ⟨ob, u, xs, c, q, e, hc, nb, hf, r⟩ := q; exact ⟨ob, u, xs, c, q, by rw [hm, hs]; exact e, (x.kp _ _ hc nb LamX.codeO_ne).1, (x.kp _ _ hc nb LamX.codeO_ne).2, by rw [x.g0, hm]; exact hf, RpDs.mv x hn (Nat.le_refl _) r⟩
 ); type_of% ?G)
theorem Sl.mv {g' : Gm} (x : Mv g m n H g' m' n' H') (hn : n ≤ n') {σ : St} {r : Ev} (h : Sl g m n H σ r) : Sl g' m' n' H' σ r :=
  ⟨h.1, fun i d e => by
    obtain ⟨v, e1, q⟩ := h.2 i d e
    exact ⟨v, e1, RpD.mv x hn (Nat.le_refl _) q⟩⟩
/-- fewer or other lists are being filled: those that are new were not there -/
theorem Ex.mv (x : Ex m G.length H m' n' H') (s : SR g m H G) {rv : List Addr} (hr : ∀ a, a ∈ rv → a ∈ g.rv ∨ H a = none) : Mv g m G.length H (g.rvd rv) m' n' H' where
  g0 := rfl
  kp := fun a o h nb ht => ⟨x.kp a o h (fun z => nb (.inl z)) ht, fun q => by
    rcases q with q | q
    · exact x.bd h (fun z => nb (.inl z)) ht q
    · rcases hr a q with z | z
      · exact nb (.inr z)
      · rw [h] at z; cases z⟩
  kt := fun a xs h => SqT.ex x s h
  ag := x.ag
/-- .. where the lists that are being filled may have been filled further -/
structure Exr (g : Gm) (m : Nat → Addr) (n : Nat) (H : Hp) (m' : Nat → Addr) (n' : Nat) (H' : Hp) : Prop where
  le : n ≤ n'
  tk : Tk H H'
  ag : ∀ i, i < n → m' i = m i
  fr : ∀ i, n ≤ i → i < n' → ∀ o, H (m' i) = some o → ∃ ps, o = .tbl ps
  kp : ∀ a o, H a = some o → ¬ Bd m n a → a ∉ g.rv → (∀ ps, o ≠ .tbl ps) → H' a = some o
theorem Ex.r (x : Ex m n H m' n' H') : Exr g m n H m' n' H' := ⟨x.le, x.tk, x.ag, x.fr, fun a o h nb _ ht => x.kp a o h nb ht⟩
theorem Exr.bd (x : Exr g m n H m' n' H') {a : Addr} {o : HO} (h : H a = some o) (hb : ¬ Bd m n a) (ht : ∀ ps, o ≠ .tbl ps) : ¬ Bd m' n' a := by
  rintro ⟨i, hi, rfl⟩
  by_cases q : i < n
  · exact hb ⟨i, q, (x.ag i q).symm⟩
  · obtain ⟨ps, e⟩ := x.fr i (Nat.le_of_not_lt q) hi _ h
    exact ht ps e
theorem Exr.mv (x : Exr g m G.length H m' n' H') (s : SR g m H G) {rv : List Addr} (hr : ∀ a, a ∈ rv → a ∈ g.rv ∨ H a = none) : Mv g m G.length H (g.rvd rv) m' n' H' where
  g0 := rfl
  kp := fun a o h nb ht => ⟨x.kp a o h (fun z => nb (.inl z)) (fun z => nb (.inr z)) ht, fun q => by
    rcases q with q | q
    · exact x.bd h (fun z => nb (.inl z)) ht q
    · rcases hr a q with z | z
      · exact nb (.inr z)
      · rw [h] at z; cases z⟩
  kt := fun a xs h => by
    rcases h with h | h
    · exact .inl (x.tk.rd h)
    · exact .inr h
  ag := x.ag
theorem Exr.trans {m2 : Nat → Addr} {n2 : Nat} (a : Exr g m n H m' G'.length H') (s : SR g m' H' G') (c : Ex m' G'.length H' m2 n2 H2) : Exr g m n H m2 n2 H2 where
  le := Nat.le_trans a.le c.le
  tk := a.tk.trans c.tk
  ag := fun i h => (c.ag i (Nat.lt_of_lt_of_le h a.le)).trans (a.ag i h)
  fr := fun i h1 h2 o e => by
    by_cases q : i < G'.length
    · rw [c.ag i q] at e; exact a.fr i h1 q o e
    · by_cases ht : ∃ ps, o = .tbl ps
      · exact ht
      · have hb : ¬ Bd m n (m2 i) := fun ⟨j, hj, ej⟩ => by
          obtain ⟨o', e', nt, _⟩ := s.at_ (Nat.lt_of_lt_of_le hj a.le)
          rw [a.ag j hj, ej] at e'
          obtain ⟨ps, e2⟩ := c.fr i (Nat.le_of_not_lt q) h2 _ e'
          exact nt ps e2
        have hr : m2 i ∉ g.rv := fun z => by
          obtain ⟨⟨o', e', hf⟩, _⟩ := s.rv _ z
          obtain ⟨ps, e2⟩ := c.fr i (Nat.le_of_not_lt q) h2 _ e'
          rw [e2] at hf; cases hf
        exact c.fr i (Nat.le_of_not_lt q) h2 o (a.kp _ _ e hb hr fun ps q => ht ⟨ps, q⟩)
  kp := fun x o h hb hr ht => c.kp x o (a.kp x o h hb hr ht) (a.bd h hb ht) ht
theorem SR.less (s : SR g m H G) {rv : List Addr} (hr : ∀ a, a ∈ rv → a ∈ g.rv) : SR (g.rvd rv) m H G := by
  have x : Mv g m G.length H (g.rvd rv) m G.length H := Ex.mv Ex.refl s fun a h => .inl (hr a h)
  exact ⟨fun i o e => OR.mv x (Nat.le_refl _) ((List.getElem?_eq_some_iff.mp e).1) rfl (s.ob i o e), s.inj, s.sz, s.tb, fun a ha => s.rv a (hr a ha)⟩
/-! ### lengths and places -/
theorem Rps.length {B : Addr → Prop} : ∀ {ts : List T} {vs : List V}, Rps g.toGm0 B H ts vs → ts.length = vs.length
  | [], vs, h => by cases h; rfl
  | t :: ts, vs, ⟨v, ws, e, h, r⟩ => by subst e; simp [Rps.length r]
theorem RpDs.length : ∀ {ts : List D} {vs : List V}, RpDs g m n b H ts vs → ts.length = vs.length
  | [], vs, h => by cases h; rfl
  | t :: ts, vs, ⟨v, ws, e, h, r⟩ => by subst e; simp [RpDs.length r]
theorem Rps.get {B : Addr → Prop} : ∀ {ts : List T} {vs : List V} {i : Nat} {t : T}, Rps g.toGm0 B H ts vs → ts[i]? = some t → ∃ v, vs[i]? = some v ∧ Rp g.toGm0 B H t v
  | [], vs, i, t, h, e => by simp at e
  | t :: ts, vs, 0, _, ⟨v, ws, e, h, r⟩, q => by subst e; simp at q; subst q; exact ⟨v, rfl, h⟩
  | t :: ts, vs, i + 1, _, ⟨v, ws, e, h, r⟩, q => by subst e; simp at q; obtain ⟨v', a, b⟩ := Rps.get r q; exact ⟨v', by simpa using a, b⟩
theorem RpDs.get : ∀ {ts : List D} {vs : List V} {i : Nat} {t : D}, RpDs g m n b H ts vs → ts[i]? = some t → ∃ v, vs[i]? = some v ∧ RpD g m n b H t v
  | [], vs, i, t, h, e => by simp at e
  | t :: ts, vs, 0, _, ⟨v, ws, e, h, r⟩, q => by subst e; simp at q; subst q; exact ⟨v, rfl, h⟩
  | t :: ts, vs, i + 1, _, ⟨v, ws, e, h, r⟩, q => by subst e; simp at q; obtain ⟨v', a, b⟩ := RpDs.get r q; exact ⟨v', by simpa using a, b⟩
theorem RpDs.ofT : ∀ {ts : List T} {vs : List V}, Rps g.toGm0 (Bv g m n) H ts vs → RpDs g m n b H (ts.map D.t) vs
  | [], vs, h => h
  | t :: ts, vs, ⟨v, ws, e, h, r⟩ => ⟨v, ws, e, h, RpDs.ofT r⟩
theorem RpDs.append : ∀ {ds es : List D} {vs ws : List V}, RpDs g m n b H ds vs → RpDs g m n b H es ws → RpDs g m n b H (ds ++ es) (vs ++ ws)
  | [], es, vs, ws, h, k => by cases h; exact k
  | d :: ds, es, vs, ws, ⟨v, us, e, h, r⟩, k => ⟨v, us ++ ws, by rw [e]; rfl, h, RpDs.append r k⟩
theorem Rps.append {B : Addr → Prop} : ∀ {ds es : List T} {vs ws : List V}, Rps g.toGm0 B H ds vs → Rps g.toGm0 B H es ws → Rps g.toGm0 B H (ds ++ es) (vs ++ ws)
  | [], es, vs, ws, h, k => by cases h; exact k
  | d :: ds, es, vs, ws, ⟨v, us, e, h, r⟩, k => ⟨v, us ++ ws, by rw [e]; rfl, h, Rps.append r k⟩
theorem Rps.take {B : Addr → Prop} : ∀ {ts : List T} {vs : List V} (k : Nat), Rps g.toGm0 B H ts vs → Rps g.toGm0 B H (ts.take k) (vs.take k)
  | _, _, 0, _ => by simp [Rps]
  | [], vs, k + 1, h => by cases h; simp [Rps]
  | t :: ts, vs, k + 1, ⟨v, ws, e, h, r⟩ => ⟨v, ws.take k, by rw [e]; rfl, h, Rps.take k r⟩
theorem Rps.drop {B : Addr → Prop} : ∀ {ts : List T} {vs : List V} (k : Nat), Rps g.toGm0 B H ts vs → Rps g.toGm0 B H (ts.drop k) (vs.drop k)
  | _, _, 0, h => by simpa using h
  | [], vs, k + 1, h => by cases h; simp [Rps]
  | t :: ts, vs, k + 1, ⟨v, ws, e, h, r⟩ => by subst e; simpa using Rps.drop k r
end
end BL

set_option Elab.async false
set_option linter.all false
set_option maxRecDepth 100000
set_option maxHeartbeats 1000000
namespace BL
open PySem L2

section
variable {g : Gm} {m m' : Nat → Addr} {n n' b b' : Nat} {H H' H2 : Hp} {G G' : Hs}
/-! ### a new object that is plain data -/
theorem Ex.new {p : Addr} {o : HO} (h : H p = none) : Ex m n H m n (upd H p o) where
  le := Nat.le_refl _
  tk := Tk.refl.upd (rd_none h)
  ag := fun _ _ => rfl
  fr := fun i h1 h2 => absurd h2 (Nat.not_lt.mpr h1)
  kp := fun a u e _ _ => by rw [upd_ne (ne_of_none e h)]; exact e
theorem OR.ex (x : Ex m G.length H m' n' H') (s : SR g m H G) {i : Nat} (hi : i < G.length) (hs : H' (m i) = H (m i)) : ∀ {o : O}, OR g m G.length i H o → OR g m' n' i H' o := by
  refine ?G
  exact (by (intro h; exact h) : have h : (type_of% ?G) := (by
  intro o q
  have hm := x.ag i hi
  cases o with
  | lst ds => obtain ⟨xs, e, r⟩ := q; exact ⟨xs, by rw [hm, hs]; exact e, RpDs.ex x s x.le (Nat.le_refl _) r⟩
  | dk kvs => obtain ⟨xs, e, r⟩ := q; exact ⟨xs, by rw [hm, hs]; exact e, RpDs.ex x s x.le (Nat.le_refl _) r⟩
  | ins c fs => obtain ⟨dx, xs, e, r⟩ := q; exact ⟨dx, xs, by rw [hm, hs]; exact e, RpDs.ex x s x.le (Nat.le_refl _) r⟩
  | flst ts => obtain ⟨ob, xs, e, r⟩ := q; exact ⟨ob, xs, by rw [hm, hs]; exact e, Rps.ex x s _ _ r⟩
  | tpl ds => obtain ⟨xs, e, r⟩ := q; exact ⟨xs, by rw [hm, hs]; exact e, RpDs.ex x s x.le (Nat.le_refl _) r⟩
  | nd kvs => obtain ⟨ep, es, e, k, r0, r⟩ := q; exact ⟨ep, es, by rw [hm, hs]; exact e, k, Rps.ex x s _ _ r0, RpDs.ex x s x.le (Nat.le_refl _) r⟩
  | fnd kvs => obtain ⟨ob, ep, es, e, k, r0, r⟩ := q; exact ⟨ob, ep, es, by rw [hm, hs]; exact e, k, Rps.ex x s _ _ r0, RpDs.ex x s x.le (Nat.le_refl _) r⟩
  | fdk kvs => obtain ⟨ob, xs, e, r⟩ := q; exact ⟨ob, xs, by rw [hm, hs]; exact e, RpDs.ex x s x.le (Nat.le_refl _) r⟩
  | fn ds => obtain ⟨ob, u, xs, c, q, e, hc, nb, hf, r⟩ := q; exact ⟨ob, u, xs, c, q, by rw [hm, hs]; exact e, x.kp _ _ hc (fun z => nb (.inl z)) LamX.codeO_ne, x.bv hc nb LamX.codeO_ne, by rw [hm]; exact hf, RpDs.ex x s x.le (Nat.le_refl _) r⟩
 ); type_of% ?G)
theorem getLt {α : Type} {l : List α} {i : Nat} {o : α} (e : l[i]? = some o) : i < l.length := (List.getElem?_eq_some_iff.mp e).1
theorem Tabs.new {T : List (Addr × Str)} {p : Addr} {o : HO} (t : LamX.Tabs T H) (h : H p = none) : LamX.Tabs T (upd H p o) :=
  t.ext fun b u e => by rw [upd_ne (ne_of_none e h)]; exact e
theorem SR.new (s : SR g m H G) {p : Addr} {o : HO} (h : H p = none) (hz : szOk o) : SR g m (upd H p o) G := by
  refine ?G
  exact (by (intro h; exact h) : have h : (type_of% ?G) := (by
  refine ⟨fun i ob e => ?_, s.inj, fun a u e => ?_, Tabs.new s.tb h, fun a ha => ?_⟩
  · have hi := getLt e
    obtain ⟨u, eu, _⟩ := s.at_ hi
    exact OR.ex (Ex.new h) s hi (upd_ne (ne_of_none eu h)) (s.ob i ob e)
  · by_cases q : a = p
    · subst q; rw [upd_same] at e; cases e; exact hz
    · rw [upd_ne q] at e; exact s.sz a u e
  · obtain ⟨⟨u, e, hf⟩, nb⟩ := s.rv a ha
    exact ⟨⟨u, by rw [upd_ne (ne_of_none e h)]; exact e, hf⟩, nb⟩
 ); type_of% ?G)
/-! ### a new located object -/
def mAt (m : Nat → Addr) (n : Nat) (p : Addr) : Nat → Addr := fun i => if i = n then p else m i
theorem mAt_same : mAt m n p n = p := if_pos rfl
theorem mAt_lt {i : Nat} {p : Addr} (h : i < n) : mAt m n p i = m i := if_neg (Nat.ne_of_lt h)
theorem Ex.loc {p : Addr} {o : HO} (h : H p = none) : Ex m n H (mAt m n p) (n + 1) (upd H p o) where
  le := Nat.le_succ _
  tk := Tk.refl.upd (rd_none h)
  ag := fun i hi => mAt_lt hi
  fr := fun i h1 h2 => by
    have : i = n := by omega
    subst this; rw [mAt_same, h]; intro o e; cases e
  kp := fun a u e _ _ => by rw [upd_ne (ne_of_none e h)]; exact e
theorem SR.loc (s : SR g m H G) {p : Addr} {o : HO} {ob : O} (h : H p = none) (hz : szOk o) (ho : OR g (mAt m G.length p) (G.length + 1) G.length (upd H p o) ob) : SR g (mAt m G.length p) (upd H p o) (G ++ [ob]) := by
  refine ?G
  exact (by (intro h; exact h) : have h : (type_of% ?G) := (by
  have hl : (G ++ [ob]).length = G.length + 1 := by simp
  refine ⟨fun i u e => ?_, fun i j h1 h2 e => ?_, fun a u e => ?_, Tabs.new s.tb h, fun a ha => ?_⟩
  · rw [hl]
    by_cases hi : i < G.length
    · rw [List.getElem?_append_left hi] at e
      obtain ⟨w, ew, _⟩ := s.at_ hi
      exact OR.ex (Ex.loc h) s hi (upd_ne (ne_of_none ew h)) (s.ob i u e)
    · have h2 := getLt e
      have : i = G.length := by omega
      subst this
      simp at e
      subst e
      exact ho
  · rw [hl] at h1 h2
    by_cases hi : i < G.length
    · by_cases hj : j < G.length
      · rw [mAt_lt hi, mAt_lt hj] at e; exact s.inj i j hi hj e
      · have : j = G.length := by omega
        subst this
        rw [mAt_lt hi, mAt_same] at e
        obtain ⟨w, ew, _⟩ := s.at_ hi
        rw [e, h] at ew; cases ew
    · have : i = G.length := by omega
      subst this
      by_cases hj : j < G.length
      · rw [mAt_lt hj, mAt_same] at e
        obtain ⟨w, ew, _⟩ := s.at_ hj
        rw [← e, h] at ew; cases ew
      · omega
  · by_cases q : a = p
    · subst q; rw [upd_same] at e; cases e; exact hz
    · rw [upd_ne q] at e; exact s.sz a u e
  · obtain ⟨⟨u, e, hf⟩, nb⟩ := s.rv a ha
    refine ⟨⟨u, by rw [upd_ne (ne_of_none e h)]; exact e, hf⟩, ?_⟩
    rw [hl]
    exact (Ex.loc (o := o) h).bd e nb (fun ps q => by rw [q] at hf; cases hf)
 ); type_of% ?G)
/-! ### a located object is written -/
theorem Ex.write (s : SR g m H G) {i : Nat} {o : HO} (hi : i < G.length) (hn : NoT H (m i)) : Ex m G.length H m G.length (upd H (m i) o) where
  le := Nat.le_refl _
  tk := Tk.refl.upd hn
  ag := fun _ _ => rfl
  fr := fun i h1 h2 => absurd h2 (Nat.not_lt.mpr h1)
  kp := fun a u e nb _ => by rw [upd_ne (fun q => nb ⟨i, hi, q.symm⟩)]; exact e
theorem Tabs.write (s : SR g m H G) {i : Nat} {o : HO} (hi : i < G.length) : LamX.Tabs g.tb (upd H (m i) o) := by
  refine ?G
  exact (by (intro h; exact h) : have h : (type_of% ?G) := (fun p hp => by
  obtain ⟨ps, h1, h2, h3⟩ := s.tb p hp
  obtain ⟨w, ew, nt, ne⟩ := s.at_ hi
  refine ⟨ps, ?_, h2, fun pos cv hc => ?_⟩
  · rw [upd_ne]
    · exact h1
    · intro q; rw [← q, h1] at ew; exact nt ps (Option.some.inj ew).symm
  · obtain ⟨c, e1, e2⟩ := h3 pos cv hc
    refine ⟨c, e1, ?_⟩
    rw [upd_ne]
    · exact e2
    · intro q; rw [← q, e2] at ew; exact ne _ _ (Option.some.inj ew).symm q.symm
 ); type_of% ?G)
theorem SR.write (s : SR g m H G) {i : Nat} {o : HO} {ob : O} (hi : i < G.length) (hn : NoT H (m i)) (hz : szOk o) (ho : OR g m G.length i (upd H (m i) o) ob) : SR g m (upd H (m i) o) (G.set i ob) := by
  refine ?G
  exact (by (intro h; exact h) : have h : (type_of% ?G) := (by
  have hl : (G.set i ob).length = G.length := by simp
  refine ⟨fun j u e => ?_, fun j k h1 h2 e => ?_, fun a u e => ?_, Tabs.write s hi, fun a ha => ?_⟩
  · rw [hl]
    by_cases q : j = i
    · subst q
      rw [List.getElem?_set_self hi] at e
      cases e
      exact ho
    · rw [List.getElem?_set_ne (Ne.symm q)] at e
      have hj := getLt e
      exact OR.ex (Ex.write s hi hn) s hj (upd_ne (fun z => q (s.inj j i hj hi z))) (s.ob j u e)
  · rw [hl] at h1 h2; exact s.inj j k h1 h2 e
  · by_cases q : a = m i
    · subst q; rw [upd_same] at e; cases e; exact hz
    · rw [upd_ne q] at e; exact s.sz a u e
  · obtain ⟨⟨u, e, hf⟩, nb⟩ := s.rv a ha
    refine ⟨⟨u, by rw [upd_ne (fun q => nb ⟨i, hi, q.symm⟩)]; exact e, hf⟩, ?_⟩
    rw [hl]; exact nb
 ); type_of% ?G)
theorem rd_lst {p : Addr} {ys : List V} (h : H p = some (.lst ys)) : NoT H p := ⟨fun _ w => (by rw [h] at w; cases w), fun _ _ w => (by rw [h] at w; cases w)⟩
theorem rd_dK {p : Addr} {ys : List (Key × V)} (h : H p = some (.dK ys)) : NoT H p := ⟨fun _ w => (by rw [h] at w; cases w), fun _ _ w => (by rw [h] at w; cases w)⟩
theorem rd_ins {p : Addr} {c dx : Addr} {ys : List (Str × V)} (h : H p = some (.ins c dx ys)) : NoT H p := ⟨fun _ w => (by rw [h] at w; cases w), fun _ _ w => (by rw [h] at w; cases w)⟩
end

/-! ### the judgement of an expression -/
abbrev De := Ev → Hs → Re
abbrev Dst := Ev → Hs → Rs
def PostE (g : Gm) (W : WX) (m : Nat → Addr) (n : Nat) (H : Hp) (σ : St) (Q : VK) : Re → Prop
  | .ok x G' => ∀ v m' H', Ex m n H m' G'.length H' → SR g m' H' G' → RpD g m' G'.length G'.length H' x v → Q v H'
  | .exc c ns ds G' => ∀ da m' H' xs, Ex m n H m' G'.length H' → SR g m' H' G' → H' da = some (.xd (ns.zip xs)) → ¬ Bd m' G'.length da → RpDs g m' G'.length G'.length H' ds xs → W (.ref (g.ca c)) (some da) σ H'
  | .stuck => False
def tI (g : Gm) (W : WX) (d : De) : TE := fun σ H Q => ∃ m r G, SR g m H G ∧ Sl g m G.length H σ r ∧ PostE g W m G.length H σ Q (d r G)
structure Zb where
  P : Program
  w : World
  K : PySem.W.Frag
  mg : Str → Option Value
  base : Heap
  ca : Nat → Addr
  tb : List (Addr × Str)
  ft : Nat → Addr → Obj → Addr → Str → List V → Prop := fun _ _ _ _ _ _ => True
def Zb.g (Z : Zb) : Gm := ⟨⟨Z.K, Z.ca, Z.w, Z.ft⟩, Z.tb, []⟩
structure Zc extends Zb where
  rv : List Addr
  N : List Str
  sc : Scope
  fn : Str → Bool
  k : Nat
  cq : Option (Addr × Str) := none
  av : Shared → Hp → List Env → List Addr → Prop := fun _ _ _ _ => True
  /-- the context of a def's own body (no lambda, no comprehension within) -/
  own : Bool := false
def Zc.g (Z : Zc) : Gm := ⟨⟨Z.K, Z.ca, Z.w, Z.ft⟩, Z.tb, Z.rv⟩
structure Ok (Z : Zc) (X : Cx) (W : WX) : Prop where
  P : X.prog = Z.P
  w : X.w = Z.w
  K : X.K = Z.K
  mg : X.mg = Z.mg
  base : X.base = Z.base
  N : X.N = Z.N
  sc : X.env.scope = Z.sc
  fn : X.fn = Z.fn
  nd : X.N.Nodup
  calm : X.calm = true
  tk : Takes X W
  po : PassesOwn (model X.prog X.w) X.A X.env X.xe
  rm : Room Z.k X.A
  cq : ∀ c q, Z.cq = some (c, q) → X.env.code = .ref c ∧ X.env.qual = q
  av : Z.av X.s_0 X.H_0 X.outer X.ex
  st : Z.own = true → X.stack = X.env :: X.outer ∧ X.env.frame = some X.env.locals
def PD (Z : Zc) (e : Expr) (d : De) : Prop := ∀ X W, Ok Z X W → PE X e (tI Z.g W d)

theorem peI {X : Cx} {e : Expr} {t t' : TE} (h : PE X e t) (k : ∀ σ H Q, t' σ H Q → t σ H Q) : PE X e t' := ⟨fun pins s σ H Q I z => h.run pins s σ H Q I (k σ H Q z)⟩
theorem ptI {X : Cx} {e : Expr} {t t' : TT} (h : PT X e t) (k : ∀ σ H Q, t' σ H Q → t σ H Q) : PT X e t' := ⟨fun pins s σ H Q I z => h.run pins s σ H Q I (k σ H Q z)⟩
theorem psI {X : Cx} {e : Stmt} {t t' : TS} (h : PS X e t) (k : ∀ D σ H, t' D σ H → t D σ H) : PS X e t' := ⟨fun pins s σ H Q I z => h.run pins s σ H Q I (k Q σ H z)⟩
theorem pssI {X : Cx} {e : List Stmt} {t t' : TS} (h : PSs X e t) (k : ∀ D σ H, t' D σ H → t D σ H) : PSs X e t' := ⟨fun pins s σ H Q I z => h.run pins s σ H Q I (k Q σ H z)⟩
def Re.bind : Re → (D → Hs → Re) → Re
  | .ok d G, k => k d G
  | .exc c ns ds G, _ => .exc c ns ds G
  | .stuck, _ => .stuck
@[simp] theorem bind_ok {d : D} {G : Hs} {k : D → Hs → Re} : (Re.ok d G).bind k = k d G := rfl
@[simp] theorem bind_exc {c : Nat} {ns : List Str} {ds : List D} {G : Hs} {k : D → Hs → Re} : (Re.exc c ns ds G).bind k = .exc c ns ds G := rfl
@[simp] theorem bind_stuck {k : D → Hs → Re} : Re.stuck.bind k = .stuck := rfl

section
variable {g : Gm} {W : WX} {m m1 : Nat → Addr} {n : Nat} {H H1 : Hp} {G G1 : Hs} {σ : St} {Q Q' : VK} {r : Ev}
theorem PostE.trans (x : Ex m n H m1 G1.length H1) (s : SR g m1 H1 G1) {q : Re} (p : PostE g W m n H σ Q q) : PostE g W m1 G1.length H1 σ Q q := by
  cases q with
  | ok d G' => exact fun v m' H' x' s' r => p v m' H' (x.trans s x') s' r
  | exc c ns ds G' => exact fun da m' H' xs x' s' h nb r => p da m' H' xs (x.trans s x') s' h nb r
  | stuck => exact p
theorem tI_bind {d : De} {k : D → Hs → Re} {R : VK} (s : SR g m H G) (sl : Sl g m G.length H σ r) (p : PostE g W m G.length H σ Q ((d r G).bind k))
    (next : ∀ x G1 v m1 H1, d r G = .ok x G1 → Ex m G.length H m1 G1.length H1 → SR g m1 H1 G1 → Sl g m1 G1.length H1 σ r → RpD g m1 G1.length G1.length H1 x v → PostE g W m1 G1.length H1 σ Q (k x G1) → R v H1) : tI g W d σ H R := by
  refine ?G
  exact (by (intro h; exact h) : have h : (type_of% ?G) := (by
  refine ⟨m, r, G, s, sl, ?_⟩
  cases e : d r G with
  | ok x G1 =>
    rw [e] at p
    intro v m1 H1 x1 s1 rv
    exact next x G1 v m1 H1 e x1 s1 (Sl.ex x1 s sl) rv (PostE.trans x1 s1 p)
  | exc c ns ds G' => rw [e] at p; exact p
  | stuck => rw [e] at p; exact p
 ); type_of% ?G)
theorem PostE.ok (s : SR g m H G) (p : PostE g W m G.length H σ Q (.ok d G)) {v : V} (rv : RpD g m G.length G.length H d v) : Q v H := p v m H Ex.refl s rv
end

/-! ### names and constants -/
def dVar (i : Nat) : De := fun r G => match r[i]? with
  | some (some d) => .ok d G
  | _ => .stuck
def dC (t : T) : De := fun _ G => .ok (.t t) G
def flatT : T → Bool
  | .non => true | .bl _ => true | .int _ => true | .str _ => true | _ => false
section
variable {Z : Zc} {pos : Pos}
theorem pd_var {i : Nat} {x : Str} (hN : Z.N[i]? = some x := by rfl) (hv : Vis Z.sc x := by first | exact Or.inl rfl | exact Or.inr (Or.inl rfl) | exact Or.inr (Or.inr rfl))
    (hd : (x == ("__debug__" : Str)) = false := by decide) (hcd : (x == ("__classdict__" : Str)) = false := by decide) : PD Z (.Name x pos) (dVar i) := by
  refine ?G
  exact (by (intro h; exact h) : have h : (type_of% ?G) := (fun X W ok => by
  refine peI (pe_var (i := i) (by rw [ok.N]; exact hN) (by rw [ok.sc]; exact hv) hd hcd) fun σ H Q h => ?_
  obtain ⟨m, r, G, s, sl, p⟩ := h
  unfold dVar at p
  cases e : r[i]? with
  | none => rw [e] at p; exact p.elim
  | some o =>
    cases o with
    | none => rw [e] at p; exact p.elim
    | some d =>
      rw [e] at p
      obtain ⟨v, e1, rv⟩ := sl.2 i d e
      exact ⟨v, e1, p.ok s rv⟩
 ); type_of% ?G)
theorem pd_cst {c : Const} {j : Nat} {v : V} {t : T} (h : ∀ X : Cx, PE X (.Constant c j pos) (tC v)) (hr : ∀ g B H, Rp g B H t v) : PD Z (.Constant c j pos) (dC t) := fun X W ok =>
  peI (h X) fun σ H Q ⟨m, r, G, s, sl, p⟩ => PostE.ok (d := .t t) s p (hr _ _ _)
theorem pd_int {i : Int} {j : Nat} : PD Z (.Constant (.int i) j pos) (dC (.int i)) := pd_cst (fun _ => pe_int) fun _ _ _ => rfl
theorem pd_bl {i : Bool} {j : Nat} : PD Z (.Constant (.bool i) j pos) (dC (.bl i)) := pd_cst (fun _ => pe_bl) fun _ _ _ => rfl
theorem pd_str {i : Str} {j : Nat} (h : okS i := by decide +kernel) : PD Z (.Constant (.str i) j pos) (dC (.str i)) := pd_cst (fun _ => pe_str) fun _ _ _ => ⟨rfl, h⟩
theorem pd_non {j : Nat} : PD Z (.Constant .none j pos) (dC .non) := pd_cst (fun _ => pe_non) fun _ _ _ => rfl
/-- a module's constant that is flat -/
theorem pd_glob {x : Str} {v : V} {u : Value} {t : T} (hg : Z.sc.names.lookup x = some .globalImplicit) (hm : Z.mg x = some u) (hu : RelV v u) (hr : ∀ g B H, Rp g B H t v) (hd : (x == ("__debug__" : Str)) = false := by decide) : PD Z (.Name x pos) (dC t) := fun X W ok => by
  refine peI (pe_glob (v := v) (u := u) (show X.env.scope.names.lookup x = _ by rw [ok.sc]; exact hg) (by rw [ok.mg]; exact hm) hu hd) fun σ H Q ⟨m, r, G, s, sl, p⟩ => PostE.ok (d := .t t) s p (hr _ _ _)
/-! ### two values and an operation -/
def dBin (f : D → D → Hs → Re) (a b : De) : De := fun r G => (a r G).bind fun x G1 => (b r G1).bind fun y G2 => f x y G2
/-- what the operation's rule asks follows from what the operation gives -/
def OpA (g : Gm) (q : R2) (f : D → D → Hs → Re) : Prop := ∀ (W : WX) (m : Nat → Addr) (H : Hp) (G : Hs) (σ : St) (Q : VK) (x y : D) (v u : V), SR g m H G → RpD g m G.length G.length H x v → RpD g m G.length G.length H y u → PostE g W m G.length H σ Q (f x y G) → q v u H Q
theorem tI_bin {W : WX} {q : R2} {f : D → D → Hs → Re} {a b : De} (ha : OpA Z.g q f) {σ : St} {H : Hp} {Q : VK} (h : tI Z.g W (dBin f a b) σ H Q) : tOp q (tI Z.g W a) (tI Z.g W b) σ H Q := by
  obtain ⟨m, r, G, s, sl, p⟩ := h
  refine tI_bind s sl p fun x G1 v m1 H1 e x1 s1 sl1 rv p1 => ?_
  refine tI_bind s1 sl1 p1 fun y G2 u m2 H2 e2 x2 s2 sl2 ru p2 => ?_
  exact ha W m2 H2 G2 σ Q x y v u s2 (RpD.ex x2 s1 x2.le (Nat.le_refl _) rv) ru p2
theorem pd_bin {op : Operator} {f : D → D → Hs → Re} {a b : Expr} {da db : De} (q : Cx → R2) (ho : ∀ X W, Ok Z X W → OpR X (binaryOp op) (q X)) (hq : ∀ X W, Ok Z X W → OpA Z.g (q X) f) (ha : PD Z a da) (hb : PD Z b db) : PD Z (.BinOp a op b pos) (dBin f da db) :=
  fun X W ok => peI (pe_op (ho X W ok) (ha X W ok) (hb X W ok)) fun _ _ _ h => tI_bin (hq X W ok) h
theorem pd_cmp {op : CmpOp} {f : D → D → Hs → Re} {a b : Expr} {da db : De} (q : Cx → R2) (ho : ∀ X W, Ok Z X W → OpR X (compareOp op) (q X)) (hq : ∀ X W, Ok Z X W → OpA Z.g (q X) f) (ha : PD Z a da) (hb : PD Z b db) (hm : behindInMarks op b = false) : PD Z (.Compare a [op] [b] pos) (dBin f da db) :=
  fun X W ok => peI (pe_cmpR (ho X W ok) (ha X W ok) (hb X W ok) hm) fun _ _ _ h => tI_bin (hq X W ok) h
theorem OpA.or {g : Gm} {q q' : R2} {f : D → D → Hs → Re} (h : ∀ (W : WX) (m : Nat → Addr) (H : Hp) (G : Hs) (σ : St) (Q : VK) (x y : D) (v u : V), SR g m H G → RpD g m G.length G.length H x v → RpD g m G.length G.length H y u → PostE g W m G.length H σ Q (f x y G) → q v u H Q ∨ q' v u H Q) : OpA g (fun x y H Q => q x y H Q ∨ q' x y H Q) f := h
end
end BL

set_option Elab.async false
set_option linter.all false
set_option maxRecDepth 100000
set_option maxHeartbeats 1000000
namespace BL
open PySem L2

/-! ### arithmetic -/
def fAdd : D → D → Hs → Re
  | .t (.int i), .t (.int j), G => .ok (.t (.int (i + j))) G
  | .t (.str x), .t (.str y), G => if x.length + y.length ≤ sizeLine then .ok (.t (.str (x ++ y))) G else .stuck
  | .t (.tup xs), .t (.tup ys), G => if xs.length + ys.length ≤ sizeLine then .ok (.t (.tup (xs ++ ys))) G else .stuck
  | .t (.lst xs), .t (.lst ys), G => if xs.length + ys.length ≤ sizeLine then .ok (.t (.lst (xs ++ ys))) G else .stuck
  | _, _, _ => .stuck
def fSub : D → D → Hs → Re
  | .t (.int i), .t (.int j), G => .ok (.t (.int (i - j))) G
  | _, _, _ => .stuck
def mulOk (i j : Int) : Bool := decide (-(2 ^ 64) < i ∧ i < 2 ^ 64) || decide (-(2 ^ 64) < j ∧ j < 2 ^ 64)
def fMul : D → D → Hs → Re
  | .t (.int i), .t (.int j), G => if mulOk i j = true then .ok (.t (.int (i * j))) G else .stuck
  | _, _, _ => .stuck
def fDiv : D → D → Hs → Re
  | .t (.int i), .t (.int j), G => if 0 < j ∧ j < 1073741824 then .ok (.t (.int (i / j))) G else .stuck
  | _, _, _ => .stuck
def fMod : D → D → Hs → Re
  | .t (.int i), .t (.int j), G => if 0 < j then .ok (.t (.int (i % j))) G else .stuck
  | _, _, _ => .stuck
def fPow : D → D → Hs → Re
  | .t (.int i), .t (.int j), G => if 0 ≤ j ∧ j ≤ 1000000 ∧ i.natAbs < 2 ^ 64 then .ok (.t (.int (i ^ j.toNat))) G else .stuck
  | _, _, _ => .stuck
/-! ### comparisons of ints -/
def fCmp (p : Int → Int → Bool) : D → D → Hs → Re
  | .t (.int i), .t (.int j), G => .ok (.t (.bl (p i j))) G
  | _, _, _ => .stuck
abbrev fLt := fCmp fun i j => decide (i < j)
abbrev fLe := fCmp fun i j => decide (i ≤ j)
abbrev fGt := fCmp fun i j => decide (j < i)
abbrev fGe := fCmp fun i j => decide (j ≤ i)
/-- a fact that is there or not: x is None -/
def fIsN (neg : Bool) : D → D → Hs → Re
  | .t .non, .t .non, G => .ok (.t (.bl (!neg))) G
  | _, .t .non, G => .ok (.t (.bl neg)) G
  | _, _, _ => .stuck

theorem okS_app {x y : Str} (hx : okS x) (hy : okS y) : okS (x ++ y) := by
  show PyData.strOk (x ++ y) = true
  unfold okS PyData.strOk at *
  show ((x ++ y).cps.all fun c => decide (c < 0x110000)) = true
  have : (x ++ y).cps = x.cps ++ y.cps := rfl
  rw [this, Array.all_append, hx, hy]; rfl

/-- list + list, written lists too -/
def rCatK (K : PySem.W.Frag) : R2 := fun x y H Q => ∃ l b xs zs, x = .ref l ∧ y = .ref b ∧ SqL K H l xs ∧ SqL K H b zs ∧ xs.length + zs.length ≤ sizeLine ∧ ∀ p, H p = none → Q (.ref p) (upd H p (.lst (xs ++ zs)))
open PyProof.Rows in
theorem op_catK {X : Cx} : OpR X (binaryOp .Add) (rCatK X.K) := by
  refine ?G
  exact (by (intro h; exact h) : have h : (type_of% ?G) := (by
  intro pins s σ H x y v u Q I rx ry h
  obtain ⟨l, b, xs, zs, rfl, rfl, hH, hB, hz, q⟩ := h
  cases rx
  cases ry
  obtain ⟨vs, r1, ⟨⟨c1, d1, t1, l1⟩, n1, e1, ec1, ed1, et1⟩, _⟩ := I.list hH
  obtain ⟨ws, r2, ⟨⟨c2, d2, t2, l2⟩, n2, e2, ec2, ed2, et2⟩, _⟩ := I.list hB
  simp only at ec1 ed1 et1 ec2 ed2 et2
  subst ec1 ed1 et1 ec2 ed2 et2
  have hl : (xs ++ zs).length ≤ sizeLine := by rw [List.length_append]; exact hz
  have hw : vs.toArray.size + ws.toArray.size ≤ sizeLine := by rw [List.size_toArray, List.size_toArray, ← r1.length, ← r2.length]; exact hz
  refine concat_meets ⟨_, e1, rfl⟩ ⟨_, e2, rfl⟩ noFill_list_add seq_list_add PySem.F.slot_list_add PySem.F.entry_list_add (PySem.F.args_list_add_2 _ _) (list_addW l b vs.toArray ws.toArray n1 n2 none none l1 l2 hw) ⟨e1, e2, ?_⟩
  have ea : vs.toArray ++ ws.toArray = (vs ++ ws).toArray := by simp
  rw [ea]
  exact ⟨.ref _, _, I.lnew (t' := s.toks) (r1.append r2) hl, rfl, q _ I.fresh⟩
 ); type_of% ?G)
section
variable {g : Gm}
theorem a_add (K : PySem.W.Frag) (hK : K = g.K) : OpA g (fun x y H Q => (rI0 fun i j => .int (i + j)) x y H Q ∨ (∃ i j, x = .str i ∧ y = .str j ∧ i.length + j.length ≤ sizeLine ∧ Q (.str (i ++ j)) H) ∨ rCatA K x y H Q ∨ rCatK K x y H Q) fAdd := by
  refine ?G
  exact (by (intro h; exact h) : have h : (type_of% ?G) := (by
  subst hK
  intro W m H G σ Q x y v u s rx ry p
  unfold fAdd at p
  split at p
  · cases rx; cases ry
    exact .inl ⟨_, _, rfl, rfl, PostE.ok s p rfl⟩
  · split at p
    · rename_i h
      obtain ⟨e, hx⟩ := rx
      obtain ⟨e', hy⟩ := ry
      subst e; subst e'
      exact .inr (.inl ⟨_, _, rfl, rfl, h, PostE.ok s p ⟨rfl, okS_app hx hy⟩⟩)
    · exact p.elim
  · split at p
    · rename_i xs ys h
      obtain ⟨a, vs, e, hv, r1⟩ := rx
      obtain ⟨b, us, e', hu, r2⟩ := ry
      subst e; subst e'
      have l1 := r1.length
      have l2 := r2.length
      refine .inr (.inr (.inl ⟨a, b, vs, us, rfl, rfl, hv, hu, by omega, fun z => ?_, fun z z' => ?_, fun z z' q hq => ?_⟩))
      · subst z
        have : xs = [] := List.eq_nil_of_length_eq_zero (by simpa using l1)
        subst this
        exact PostE.ok s p ⟨b, us, rfl, hu, by simpa using r2⟩
      · subst z'
        have : ys = [] := List.eq_nil_of_length_eq_zero (by simpa using l2)
        subst this
        exact PostE.ok s p ⟨a, vs, rfl, hv, by simpa using r1⟩
      · have hz : szOk (HO.tup (vs ++ us)) := by show (vs ++ us).length ≤ sizeLine; rw [List.length_append]; omega
        exact p _ _ _ (Ex.new hq) (s.new hq hz) ⟨q, _, rfl, .inl (.inl upd_same), Rps.append (Rps.ex (Ex.new hq) s _ _ r1) (Rps.ex (Ex.new hq) s _ _ r2)⟩
    · exact p.elim
  · split at p
    · rename_i xs ys h
      obtain ⟨a, vs, e, hv, r1⟩ := rx
      obtain ⟨b, us, e', hu, r2⟩ := ry
      subst e; subst e'
      have l1 := r1.length
      have l2 := r2.length
      refine .inr (.inr (.inr ⟨a, b, vs, us, rfl, rfl, hv.sq, hu.sq, by omega, fun q hq => ?_⟩))
      have hz : szOk (HO.lst (vs ++ us)) := by show (vs ++ us).length ≤ sizeLine; rw [List.length_append]; omega
      exact p _ _ _ (Ex.new hq) (s.new hq hz) ⟨q, _, rfl, .here upd_same (s.notBd hq), Rps.append (Rps.ex (Ex.new hq) s _ _ r1) (Rps.ex (Ex.new hq) s _ _ r2)⟩
    · exact p.elim
  · exact p.elim
 ); type_of% ?G)
theorem a_sub : OpA g (rI0 fun i j => .int (i - j)) fSub := by
  intro W m H G σ Q x y v u s rx ry p
  unfold fSub at p
  split at p
  · cases rx; cases ry; exact ⟨_, _, rfl, rfl, PostE.ok s p rfl⟩
  · exact p.elim
theorem a_mul : OpA g (rI CMul fun i j => .int (i * j)) fMul := by
  intro W m H G σ Q x y v u s rx ry p
  unfold fMul at p
  split at p
  · split at p
    · rename_i h
      cases rx; cases ry
      refine ⟨_, _, rfl, rfl, ?_, PostE.ok s p rfl⟩
      unfold mulOk at h
      rcases Bool.or_eq_true_iff.mp h with h | h
      · exact .inl (of_decide_eq_true h)
      · exact .inr (of_decide_eq_true h)
    · exact p.elim
  · exact p.elim
theorem a_div : OpA g (rI CDiv fun i j => .int (i / j)) fDiv := by
  intro W m H G σ Q x y v u s rx ry p
  unfold fDiv at p
  split at p
  · split at p
    · rename_i h; cases rx; cases ry; exact ⟨_, _, rfl, rfl, h, PostE.ok s p rfl⟩
    · exact p.elim
  · exact p.elim
theorem a_mod : OpA g (rI (fun _ j => 0 < j) fun i j => .int (i % j)) fMod := by
  intro W m H G σ Q x y v u s rx ry p
  unfold fMod at p
  split at p
  · split at p
    · rename_i h; cases rx; cases ry; exact ⟨_, _, rfl, rfl, h, PostE.ok s p rfl⟩
    · exact p.elim
  · exact p.elim
theorem a_pow : OpA g (rI CPow fun i j => .int (i ^ j.toNat)) fPow := by
  intro W m H G σ Q x y v u s rx ry p
  unfold fPow at p
  split at p
  · split at p
    · rename_i h; cases rx; cases ry; exact ⟨_, _, rfl, rfl, h, PostE.ok s p rfl⟩
    · exact p.elim
  · exact p.elim
theorem a_cmp {q : Int → Int → Bool} : OpA g (rI0 fun i j => .bl (q i j)) (fCmp q) := by
  intro W m H G σ Q x y v u s rx ry p
  unfold fCmp at p
  split at p
  · cases rx; cases ry; exact ⟨_, _, rfl, rfl, PostE.ok s p rfl⟩
  · exact p.elim
end
section
variable {Z : Zc} {a b : Expr} {da db : De} {pos : Pos}
theorem Ok.Kg {X : Cx} {W : WX} (ok : Ok Z X W) : X.K = Z.g.K := ok.K
theorem pd_add (ha : PD Z a da) (hb : PD Z b db) : PD Z (.BinOp a .Add b pos) (dBin fAdd da db) :=
  pd_bin (fun X => _) (fun X W ok => OpR.or op_add (OpR.or op_add_str (OpR.or op_catA op_catK))) (fun X W ok => a_add X.K ok.Kg) ha hb
theorem pd_sub (ha : PD Z a da) (hb : PD Z b db) : PD Z (.BinOp a .Sub b pos) (dBin fSub da db) := pd_bin (fun _ => _) (fun _ _ _ => op_sub) (fun _ _ _ => a_sub) ha hb
theorem pd_mul (ha : PD Z a da) (hb : PD Z b db) : PD Z (.BinOp a .Mult b pos) (dBin fMul da db) := pd_bin (fun _ => _) (fun _ _ _ => op_mul) (fun _ _ _ => a_mul) ha hb
theorem pd_div (ha : PD Z a da) (hb : PD Z b db) : PD Z (.BinOp a .FloorDiv b pos) (dBin fDiv da db) := pd_bin (fun _ => _) (fun _ _ _ => op_fdiv) (fun _ _ _ => a_div) ha hb
theorem pd_mod (ha : PD Z a da) (hb : PD Z b db) : PD Z (.BinOp a .Mod b pos) (dBin fMod da db) := pd_bin (fun _ => _) (fun _ _ _ => op_mod) (fun _ _ _ => a_mod) ha hb
theorem pd_pow (ha : PD Z a da) (hb : PD Z b db) : PD Z (.BinOp a .Pow b pos) (dBin fPow da db) := pd_bin (fun _ => _) (fun _ _ _ => op_pow) (fun _ _ _ => a_pow) ha hb
end
end BL

set_option Elab.async false
set_option linter.all false
set_option maxRecDepth 100000
set_option maxHeartbeats 1000000
namespace BL
open PySem L2

/-- a global name of the def -/
def GlS (Z : Zc) (x : Str) : Prop := Z.sc.names.lookup x = some NameKind.globalImplicit
/-! ### arguments -/
def dArgs : List De → (List D → Hs → Re) → De
  | [], k, _, G => k [] G
  | a :: as, k, r, G => (a r G).bind fun x G1 => dArgs as (fun xs G2 => k (x :: xs) G2) r G1
def tCs : List TE → TA
  | [] => tNil
  | t :: ts => tCons t (tCs ts)
def PDA (Z : Zc) (es : List Expr) (das : List De) : Prop := ∀ X W, Ok Z X W → PA X es (tCs (das.map (tI Z.g W)))
section
variable {Z : Zc} {e : Expr} {es : List Expr} {d : De} {das : List De}
theorem pda_nil : PDA Z [] [] := fun X W ok => pa_nil
theorem pda_cons (h : PD Z e d) (hs : PDA Z es das) (he : ∀ env, starEach (e :: es) env = (false, eval e env) :: starEach es env := by intro _; rfl) : PDA Z (e :: es) (d :: das) := fun X W ok => pa_cons (h X W ok) (hs X W ok) (he _)
end
section
variable {g : Gm} {W : WX}
theorem tA_of : ∀ {das : List De} {m : Nat → Addr} {H : Hp} {G : Hs} {σ : St} {r : Ev} {Q : VK} {k : List D → Hs → Re} {R : List V → Hp → Prop}, SR g m H G → Sl g m G.length H σ r → PostE g W m G.length H σ Q (dArgs das k r G) →
    (∀ ds G1 vs m1 H1, Ex m G.length H m1 G1.length H1 → SR g m1 H1 G1 → Sl g m1 G1.length H1 σ r → RpDs g m1 G1.length G1.length H1 ds vs → ds.length = das.length → PostE g W m1 G1.length H1 σ Q (k ds G1) → R vs H1) → tCs (das.map (tI g W)) σ H R
  | [], m, H, G, σ, r, Q, k, R, s, sl, p, next => next [] G [] m H Ex.refl s sl rfl rfl p
  | d :: das, m, H, G, σ, r, Q, k, R, s, sl, p, next => by
    refine tI_bind s sl p fun x G1 v m1 H1 e x1 s1 sl1 rv p1 => ?_
    refine tA_of s1 sl1 p1 fun ds G2 vs m2 H2 x2 s2 sl2 rs hl p2 => ?_
    exact next (x :: ds) G2 (v :: vs) m2 H2 (x1.trans s1 x2) s2 sl2 ⟨v, vs, rfl, RpD.ex x2 s1 x2.le (Nat.le_refl _) rv, rs⟩ (by simp [hl]) p2
end
/-- a call of something known, by values -/
def CaA (g : Gm) (q : List V → Hp → VK → Prop) (f : List D → Hs → Re) : Prop := ∀ (W : WX) (m : Nat → Addr) (H : Hp) (G : Hs) (σ : St) (Q : VK) (ds : List D) (vs : List V), SR g m H G → RpDs g m G.length G.length H ds vs → PostE g W m G.length H σ Q (f ds G) → q vs H Q
section
variable {Z : Zc} {x : Str} {id T : String} {e o : Expr} {es : List Expr} {d : De} {das : List De} {f : List D → Hs → Re} {p pos : Pos}
theorem pd_callB (q : Cx → List V → Hp → VK → Prop) (hc : ∀ X W, Ok Z X W → CallR X (.builtin id) (q X)) (hq : ∀ X W, Ok Z X W → CaA Z.g (q X) f) (hg : GlS Z x) (hm : Z.mg x = none) (hv : bootBuiltins x = some (.builtin id))
    (ha : PDA Z (e :: es) das) (he : ∀ env, starEach (e :: es) env = (false, eval e env) :: starEach es env) (hpl : ∀ env, (backTo pos (starEach es env)).any (·.1) = false)
    (hn : x ≠ "__name__") (hdb : (x == ("__debug__" : Str)) = false) : PD Z (.Call (.Name x p) (e :: es) [] pos) (dArgs das f) := by
  refine ?G
  exact (by (intro h; exact h) : have h : (type_of% ?G) := (fun X W ok => by
  refine peI (pe_callB (hc X W ok) (show X.env.scope.names.lookup x = _ by rw [ok.sc]; exact hg) (by rw [ok.mg]; exact hm) hv (ha X W ok) hn hdb (he _) (hpl _)) fun σ H Q h => ?_
  obtain ⟨m, r, G, s, sl, p⟩ := h
  exact tA_of s sl p fun ds G1 vs m1 H1 x1 s1 sl1 rs _ p1 => hq X W ok W m1 H1 G1 σ Q ds vs s1 rs p1
 ); type_of% ?G)
theorem pd_callTy (q : Cx → List V → Hp → VK → Prop) (hc : ∀ X W, Ok Z X W → CallR X (.type T) (q X)) (hq : ∀ X W, Ok Z X W → CaA Z.g (q X) f) (hg : GlS Z x) (hm : Z.mg x = none) (hv : bootBuiltins x = some (.type T))
    (ha : PDA Z (e :: es) das) (he : ∀ env, starEach (e :: es) env = (false, eval e env) :: starEach es env) (hpl : ∀ env, (backTo pos (starEach es env)).any (·.1) = false)
    (hn : x ≠ "__name__") (hdb : (x == ("__debug__" : Str)) = false) : PD Z (.Call (.Name x p) (e :: es) [] pos) (dArgs das f) := by
  refine ?G
  exact (by (intro h; exact h) : have h : (type_of% ?G) := (fun X W ok => by
  refine peI (pe_callTy (hc X W ok) (show X.env.scope.names.lookup x = _ by rw [ok.sc]; exact hg) (by rw [ok.mg]; exact hm) hv (ha X W ok) hn hdb (he _) (hpl _)) fun σ H Q h => ?_
  obtain ⟨m, r, G, s, sl, p⟩ := h
  exact tA_of s sl p fun ds G1 vs m1 H1 x1 s1 sl1 rs _ p1 => hq X W ok W m1 H1 G1 σ Q ds vs s1 rs p1
 ); type_of% ?G)
end
/-! ### what is read as a list, as a tuple -/
def asL (G : Hs) : D → Option (List D)
  | .t (.lst ts) => some (ts.map D.t)
  | .loc i => match G[i]? with
    | some (.lst ds) => some ds
    | some (.flst ts) => some (ts.map D.t)
    | _ => none
  | _ => none
def asT : D → Option (List D)
  | .t (.tup ts) => some (ts.map D.t)
  | .t (.ftp ts) => some (ts.map D.t)
  | _ => none
def asS (G : Hs) (d : D) : Option (List D) := match asT d with
  | some ds => some ds
  | none => asL G d
/-- all plain -/
def plain : List D → Option (List T)
  | [] => some []
  | .t x :: ds => match plain ds with
    | some ts => some (x :: ts)
    | none => none
  | .loc _ :: _ => none
@[simp] theorem plain_map (ts : List T) : plain (ts.map D.t) = some ts := by
  induction ts with
  | nil => rfl
  | cons t ts ih => show (match plain (ts.map D.t) with | some us => some (t :: us) | none => none) = _; rw [ih]
theorem plain_some : ∀ {ds : List D} {ts : List T}, plain ds = some ts → ds = ts.map D.t
  | [], ts, h => by cases h; rfl
  | .t x :: ds, ts, h => by
    unfold plain at h
    split at h
    · rename_i us e
      cases h
      rw [plain_some e]; rfl
    · cases h
  | .loc _ :: _, _, h => by cases h
section
variable {g : Gm} {m : Nat → Addr} {n b : Nat} {H : Hp} {G : Hs}
theorem RpDs.toT : ∀ {ts : List T} {vs : List V}, RpDs g m n b H (ts.map D.t) vs → Rps g.toGm0 (Bv g m n) H ts vs
  | [], vs, h => h
  | t :: ts, vs, ⟨v, ws, e, h, r⟩ => ⟨v, ws, e, h, RpDs.toT r⟩
theorem RpDs.up (h : b ≤ b') : ∀ {ds : List D} {vs : List V}, RpDs g m n b H ds vs → RpDs g m n b' H ds vs
  | [], vs, q => q
  | .t x :: ds, vs, ⟨v, ws, e, q, r⟩ => ⟨v, ws, e, q, RpDs.up h r⟩
  | .loc i :: ds, vs, ⟨v, ws, e, q, r⟩ => ⟨v, ws, e, ⟨Nat.lt_of_lt_of_le q.1 h, q.2⟩, RpDs.up h r⟩
theorem asL_rp (s : SR g m H G) {d : D} {v : V} {ds : List D} (rd : RpD g m G.length G.length H d v) (e : asL G d = some ds) : ∃ a xs, v = .ref a ∧ SqL g.K H a xs ∧ RpDs g m G.length G.length H ds xs := by
  refine ?G
  exact (by (intro h; exact h) : have h : (type_of% ?G) := (by
  cases d with
  | t t =>
    cases t with
    | lst ts =>
      cases e
      obtain ⟨a, xs, rfl, h, r⟩ := rd
      exact ⟨a, xs, rfl, h.sq, RpDs.ofT r⟩
    | _ => cases e
  | loc i =>
    obtain ⟨hi, rfl⟩ := rd
    cases q : G[i]? with
    | none => simp [asL, q] at e
    | some o =>
      cases o with
      | lst ds' =>
        simp [asL, q] at e
        subst e
        obtain ⟨xs, h, r⟩ := s.ob i _ q
        exact ⟨_, xs, rfl, .inl (.inl h), r⟩
      | flst ts =>
        simp [asL, q] at e
        subst e
        obtain ⟨ob, xs, h, r⟩ := s.ob i _ q
        exact ⟨_, xs, rfl, .inl (.inr ⟨ob, h⟩), RpDs.ofT r⟩
      | dk kvs => simp [asL, q] at e
      | ins c fs => simp [asL, q] at e
      | tpl ds => simp [asL, q] at e
      | nd kvs => simp [asL, q] at e
      | fnd kvs => simp [asL, q] at e
      | fdk kvs => simp [asL, q] at e
      | fn ds => simp [asL, q] at e
 ); type_of% ?G)
theorem asT_rp {d : D} {v : V} {ds : List D} (rd : RpD g m n b H d v) (e : asT d = some ds) : ∃ a xs, v = .ref a ∧ SqT g.K H a xs ∧ RpDs g m n b H ds xs := by
  cases d with
  | t t =>
    cases t with
    | tup ts =>
      cases e
      obtain ⟨a, xs, rfl, h, r⟩ := rd
      exact ⟨a, xs, rfl, h, RpDs.ofT r⟩
    | ftp ts =>
      cases e
      obtain ⟨a, ob, xs, rfl, h, _, _, r⟩ := rd
      exact ⟨a, xs, rfl, .inl (.inr ⟨ob, h⟩), RpDs.ofT r⟩
    | _ => cases e
  | loc i => cases e
theorem asS_rp (s : SR g m H G) {d : D} {v : V} {ds : List D} (rd : RpD g m G.length G.length H d v) (e : asS G d = some ds) : ∃ a xs, v = .ref a ∧ (SqL g.K H a xs ∨ SqT g.K H a xs) ∧ RpDs g m G.length G.length H ds xs := by
  unfold asS at e
  cases q : asT d with
  | some es =>
    rw [q] at e; cases e
    obtain ⟨a, xs, e1, h, r⟩ := asT_rp rd q
    exact ⟨a, xs, e1, .inr h, r⟩
  | none =>
    rw [q] at e
    obtain ⟨a, xs, e1, h, r⟩ := asL_rp s rd e
    exact ⟨a, xs, e1, .inl h, r⟩
theorem SR.szL (s : SR g m H G) {K : PySem.W.Frag} {a : Addr} {xs : List V} (h : SqL K H a xs) : xs.length ≤ sizeLine := by
  rcases h with (h | ⟨ob, h⟩) | ⟨o, its, n, _, _, _, _, hz, r⟩
  · exact s.sz _ _ h
  · exact s.sz _ _ h
  · rw [r.length]; simpa using hz
theorem SR.szT (s : SR g m H G) {K : PySem.W.Frag} {a : Addr} {xs : List V} (h : SqT K H a xs) : xs.length ≤ sizeLine := by
  rcases h with (h | ⟨ob, h⟩) | ⟨o, its, n, _, _, _, hz, r⟩
  · exact s.sz _ _ h
  · exact s.sz _ _ h
  · rw [r.length]; simpa using hz
end
/-! ### len, int, tuple, list, min, abs -/
def fLen : List D → Hs → Re
  | [.t (.str x)], G => if x.length ≤ sizeLine then .ok (.t (.int x.length)) G else .stuck
  | [d], G => match asS G d with
    | some ds => .ok (.t (.int ds.length)) G
    | none => .stuck
  | _, _ => .stuck
def fInt : List D → Hs → Re
  | [.t (.int i)], G => .ok (.t (.int i)) G
  | [.t (.bl b)], G => .ok (.t (.int (if b then 1 else 0))) G
  | _, _ => .stuck
def fMin : List D → Hs → Re
  | [.t (.int i), .t (.int j)], G => .ok (.t (.int (if j < i then j else i))) G
  | _, _ => .stuck
def fAbs : List D → Hs → Re
  | [.t (.int i)], G => .ok (.t (.int (if i < 0 then -i else i))) G
  | _, _ => .stuck
/-- tuple(x), list(x) as plain data -/
def fTup : List D → Hs → Re
  | [d], G => match asS G d with
    | some ds => match plain ds with
      | some ts => .ok (.t (.tup ts)) G
      | none => .stuck
    | none => .stuck
  | _, _ => .stuck
def fLst : List D → Hs → Re
  | [d], G => match asS G d with
    | some ds => match plain ds with
      | some ts => .ok (.t (.lst ts)) G
      | none => .stuck
    | none => .stuck
  | _, _ => .stuck
/-- list(x), one that may be changed -/
def fLstL : List D → Hs → Re
  | [d], G => match asS G d with
    | some ds => .ok (.loc G.length) (G ++ [.lst ds])
    | none => .stuck
  | _, _ => .stuck
def boolsT : List D → Option (List Bool)
  | [] => some []
  | .t (.bl b) :: ds => match boolsT ds with
    | some bs => some (b :: bs)
    | none => none
  | _ => none
def fAll : List D → Hs → Re
  | [d], G => match asL G d with
    | some ds => match boolsT ds with
      | some bs => .ok (.t (.bl (bs.all id))) G
      | none => .stuck
    | none => .stuck
  | _, _ => .stuck
def fAny : List D → Hs → Re
  | [d], G => match asL G d with
    | some ds => match boolsT ds with
      | some bs => .ok (.t (.bl (bs.any id))) G
      | none => .stuck
    | none => .stuck
  | _, _ => .stuck
section
variable {g : Gm}
theorem rpds1 {m : Nat → Addr} {n b : Nat} {H : Hp} {d : D} {vs : List V} (h : RpDs g m n b H [d] vs) : ∃ v, vs = [v] ∧ RpD g m n b H d v := by
  obtain ⟨v, ws, e, r, q⟩ := h
  cases q
  exact ⟨v, e, r⟩
theorem rpds2 {m : Nat → Addr} {n b : Nat} {H : Hp} {d d' : D} {vs : List V} (h : RpDs g m n b H [d, d'] vs) : ∃ v u, vs = [v, u] ∧ RpD g m n b H d v ∧ RpD g m n b H d' u := by
  obtain ⟨v, ws, e, r, q⟩ := h
  obtain ⟨u, rfl, r'⟩ := rpds1 q
  exact ⟨v, u, e, r, r'⟩
theorem c_len (K : PySem.W.Frag) (hK : K = g.K) : CaA g (fun xs H Q => ∃ x n, xs = [x] ∧ LenV K x H n ∧ Q (.int n) H) fLen := by
  refine ?G
  exact (by (intro h; exact h) : have h : (type_of% ?G) := (by
  subst hK
  intro W m H G σ Q ds vs s rs p
  unfold fLen at p
  split at p
  · split at p
    · rename_i h
      obtain ⟨v, rfl, e, _⟩ := rpds1 rs
      subst e
      exact ⟨_, _, rfl, ⟨h, rfl⟩, PostE.ok s p rfl⟩
    · exact p.elim
  · split at p
    · rename_i ds' e
      obtain ⟨v, rfl, r⟩ := rpds1 rs
      obtain ⟨a, xs, rfl, h, r'⟩ := asS_rp s r e
      have hl := r'.length
      rcases h with h | h
      · exact ⟨_, _, rfl, .inl ⟨xs, h, rfl⟩, PostE.ok s p (by rw [hl]; rfl)⟩
      · exact ⟨_, _, rfl, .inr ⟨xs, h, rfl⟩, PostE.ok s p (by rw [hl]; rfl)⟩
    · exact p.elim
  · exact p.elim
 ); type_of% ?G)
theorem c_int : CaA g (fun xs H Q => (∃ i, xs = [.int i] ∧ Q (.int i) H) ∨ ∃ k, xs = [.bl k] ∧ Q (.int (if k then 1 else 0)) H) fInt := by
  intro W m H G σ Q ds vs s rs p
  unfold fInt at p
  split at p
  · obtain ⟨v, rfl, e⟩ := rpds1 rs
    cases e
    exact .inl ⟨_, rfl, PostE.ok s p rfl⟩
  · obtain ⟨v, rfl, e⟩ := rpds1 rs
    cases e
    exact .inr ⟨_, rfl, PostE.ok s p rfl⟩
  · exact p.elim
theorem c_min : CaA g (fun xs H Q => ∃ i j, xs = [.int i, .int j] ∧ Q (.int (if j < i then j else i)) H) fMin := by
  intro W m H G σ Q ds vs s rs p
  unfold fMin at p
  split at p
  · obtain ⟨v, u, rfl, e, e'⟩ := rpds2 rs
    cases e; cases e'
    exact ⟨_, _, rfl, PostE.ok s p rfl⟩
  · exact p.elim
theorem c_tup (K : PySem.W.Frag) (hK : K = g.K) : CaA g (fun xs H Q => ∃ p ys, xs = [.ref p] ∧ ((SqL K H p ys ∧ ∀ l, H l = none → Q (.ref l) (upd H l (.tup ys))) ∨ (SqT K H p ys ∧ Q (.ref p) H))) fTup := by
  refine ?G
  exact (by (intro h; exact h) : have h : (type_of% ?G) := (by
  subst hK
  intro W m H G σ Q ds vs s rs p
  unfold fTup at p
  split at p
  · split at p
    · split at p
      · rename_i ds' e _ ts e2
        obtain ⟨v, rfl, r⟩ := rpds1 rs
        obtain ⟨a, xs, rfl, h, r'⟩ := asS_rp s r e
        have h2 := plain_some e2
        subst h2
        rcases h with h | h
        · refine ⟨a, xs, rfl, .inl ⟨h, fun l hl => ?_⟩⟩
          exact p _ _ _ (Ex.new hl) (s.new hl (s.szL h)) ⟨l, xs, rfl, .inl (.inl upd_same), Rps.ex (Ex.new hl) s _ _ r'.toT⟩
        · exact ⟨a, xs, rfl, .inr ⟨h, PostE.ok s p ⟨a, xs, rfl, h, r'.toT⟩⟩⟩
      · exact p.elim
    · exact p.elim
  · exact p.elim
 ); type_of% ?G)
theorem c_lst (K : PySem.W.Frag) (hK : K = g.K) : CaA g (fun xs H Q => ∃ p ys, xs = [.ref p] ∧ (SqL K H p ys ∨ SqT K H p ys) ∧ ∀ l, H l = none → Q (.ref l) (upd H l (.lst ys))) fLst := by
  refine ?G
  exact (by (intro h; exact h) : have h : (type_of% ?G) := (by
  subst hK
  intro W m H G σ Q ds vs s rs p
  unfold fLst at p
  split at p
  · split at p
    · split at p
      · rename_i ds' e _ ts e2
        obtain ⟨v, rfl, r⟩ := rpds1 rs
        obtain ⟨a, xs, rfl, h, r'⟩ := asS_rp s r e
        have h2 := plain_some e2
        subst h2
        have hz : xs.length ≤ sizeLine := by
          rcases h with h | h
          · exact s.szL h
          · exact s.szT h
        refine ⟨a, xs, rfl, h, fun l hl => ?_⟩
        exact p _ _ _ (Ex.new hl) (s.new hl hz) ⟨l, xs, rfl, .here upd_same (s.notBd hl), Rps.ex (Ex.new hl) s _ _ r'.toT⟩
      · exact p.elim
    · exact p.elim
  · exact p.elim
 ); type_of% ?G)
theorem newL (s : SR g m H G) {l : Addr} {xs : List V} {ds : List D} (hl : H l = none) (hz : xs.length ≤ sizeLine) (r : RpDs g m G.length G.length H ds xs) :
    Ex m G.length H (mAt m G.length l) (G ++ [O.lst ds]).length (upd H l (.lst xs)) ∧ SR g (mAt m G.length l) (upd H l (.lst xs)) (G ++ [.lst ds]) ∧ RpD g (mAt m G.length l) (G ++ [O.lst ds]).length (G ++ [O.lst ds]).length (upd H l (.lst xs)) (.loc G.length) (.ref l) := by
  have e : (G ++ [O.lst ds]).length = G.length + 1 := by simp
  rw [e]
  refine ⟨Ex.loc hl, s.loc hl hz ⟨xs, by rw [mAt_same]; exact upd_same, RpDs.ex (Ex.loc hl) s (Nat.le_succ _) (Nat.le_refl _) r⟩, Nat.lt_succ_self _, by rw [mAt_same]⟩
theorem bools_rp {m : Nat → Addr} {n b : Nat} {H : Hp} : ∀ {ds : List D} {bs : List Bool} {vs : List V}, boolsT ds = some bs → RpDs g m n b H ds vs → vs = bs.map V.bl
  | [], bs, vs, e, r => by cases e; exact r
  | .t (.bl k) :: ds, bs, vs, e, ⟨v, ws, e1, h, r⟩ => by
    unfold boolsT at e
    split at e
    · rename_i bs' e2
      cases e
      rw [e1, bools_rp e2 r, show v = .bl k from h]; rfl
    · cases e
  | .t .non :: _, _, _, e, _ => by cases e
  | .t (.int _) :: _, _, _, e, _ => by cases e
  | .t (.str _) :: _, _, _, e, _ => by cases e
  | .t (.tup _) :: _, _, _, e, _ => by cases e
  | .t (.lst _) :: _, _, _, e, _ => by cases e
  | .t (.dk _ _) :: _, _, _, e, _ => by cases e
  | .t (.obj _ _ _) :: _, _, _, e, _ => by cases e
  | .t (.ftp _) :: _, _, _, e, _ => by cases e
  | .t (.cls _) :: _, _, _, e, _ => by cases e
  | .t (.nd _ _) :: _, _, _, e, _ => by cases e
  | .loc _ :: _, _, _, e, _ => by cases e
theorem c_all (K : PySem.W.Frag) (hK : K = g.K) : CaA g (rAll K) fAll := by
  subst hK
  intro W m H G σ Q ds vs s rs p
  unfold fAll at p
  split at p
  · split at p
    · split at p
      · rename_i ds' e _ bs e2
        obtain ⟨v, rfl, r⟩ := rpds1 rs
        obtain ⟨a, xs, rfl, h, r'⟩ := asL_rp s r e
        rw [bools_rp e2 r'] at h
        exact ⟨a, bs, rfl, h, PostE.ok s p rfl⟩
      · exact p.elim
    · exact p.elim
  · exact p.elim
end
section
variable {Z : Zc} {e e' : Expr} {d d' : De} {p pos : Pos}
theorem pd_len (hm : Z.mg "len" = none) (h : PD Z e d) (hg : GlS Z "len" := by rfl) (he : ∀ env, starEach [e] env = (false, eval e env) :: starEach [] env := by intro _; rfl) : PD Z (.Call (.Name "len" p) [e] [] pos) (dArgs [d] fLen) :=
  pd_callB (fun X => _) (fun _ _ _ => call_len) (fun X W ok => c_len X.K ok.Kg) hg hm (by decide +kernel) (pda_cons h pda_nil he) he (fun _ => rfl) (by decide) (by decide)
theorem pd_intf (hm : Z.mg "int" = none) (h : PD Z e d) (hg : GlS Z "int" := by rfl) (he : ∀ env, starEach [e] env = (false, eval e env) :: starEach [] env := by intro _; rfl) : PD Z (.Call (.Name "int" p) [e] [] pos) (dArgs [d] fInt) :=
  pd_callTy (fun X => _) (fun _ _ _ => call_int1) (fun X W ok => c_int) hg hm (by decide +kernel) (pda_cons h pda_nil he) he (fun _ => rfl) (by decide) (by decide)
theorem pd_min (hm : Z.mg "min" = none) (h : PD Z e d) (h' : PD Z e' d') (hg : GlS Z "min" := by rfl) (he : ∀ env, starEach [e, e'] env = (false, eval e env) :: starEach [e'] env := by intro _; rfl) (he' : ∀ env, starEach [e'] env = (false, eval e' env) :: starEach [] env := by intro _; rfl)
    (hpl : ∀ env, (backTo pos (starEach [e'] env)).any (·.1) = false := by intro _; rfl) : PD Z (.Call (.Name "min" p) [e, e'] [] pos) (dArgs [d, d'] fMin) :=
  pd_callB (fun X => _) (fun _ _ ok => call_min2 ok.calm) (fun X W ok => c_min) hg hm (by decide +kernel) (pda_cons h (pda_cons h' pda_nil he') he) he hpl (by decide) (by decide)
theorem pd_tup (hm : Z.mg "tuple" = none) (h : PD Z e d) (hg : GlS Z "tuple" := by rfl) (he : ∀ env, starEach [e] env = (false, eval e env) :: starEach [] env := by intro _; rfl) : PD Z (.Call (.Name "tuple" p) [e] [] pos) (dArgs [d] fTup) :=
  pd_callTy (fun X => _) (fun _ _ _ => call_tuple_of) (fun X W ok => c_tup X.K ok.Kg) hg hm (by decide +kernel) (pda_cons h pda_nil he) he (fun _ => rfl) (by decide) (by decide)
theorem pd_lst (hm : Z.mg "list" = none) (h : PD Z e d) (hg : GlS Z "list" := by rfl) (he : ∀ env, starEach [e] env = (false, eval e env) :: starEach [] env := by intro _; rfl) : PD Z (.Call (.Name "list" p) [e] [] pos) (dArgs [d] fLst) :=
  pd_callTy (fun X => _) (fun _ _ _ => call_list_of) (fun X W ok => c_lst X.K ok.Kg) hg hm (by decide +kernel) (pda_cons h pda_nil he) he (fun _ => rfl) (by decide) (by decide)
theorem pd_all (hm : Z.mg "all" = none) (h : PD Z e d) (hg : GlS Z "all" := by rfl) (he : ∀ env, starEach [e] env = (false, eval e env) :: starEach [] env := by intro _; rfl) : PD Z (.Call (.Name "all" p) [e] [] pos) (dArgs [d] fAll) :=
  pd_callB (fun X => _) (fun _ _ ok => cr_all ok.calm) (fun X W ok => c_all X.K ok.Kg) hg hm (by decide +kernel) (pda_cons h pda_nil he) he (fun _ => rfl) (by decide) (by decide)
end
end BL

set_option Elab.async false
set_option linter.all false
set_option maxRecDepth 100000
set_option maxHeartbeats 1000000
namespace BL
open PySem L2

/-! ### == of plain data -/
mutual
def cmpT : T → Bool
  | .non => true | .bl _ => true | .int _ => true | .str _ => true
  | .tup ts => cmpTs ts | .lst ts => cmpTs ts
  | .dk _ _ => false | .obj _ _ _ => false | .ftp ts => cmpTs ts | .cls _ => false | .nd _ _ => false
def cmpTs : List T → Bool
  | [] => true
  | t :: ts => cmpT t && cmpTs ts
end
mutual
def toP : T → PyData
  | .non => .none | .bl b => .bool b | .int i => .int i | .str x => .str x
  | .tup ts => .tuple (toPs ts) | .lst ts => .list (toPs ts)
  | .dk _ _ => .none | .obj _ _ _ => .none | .ftp ts => .tuple (toPs ts) | .cls _ => .none | .nd _ _ => .none
def toPs : List T → List PyData
  | [] => []
  | t :: ts => toP t :: toPs ts
end
mutual
def dep : T → Nat
  | .tup ts => deps ts + 1 | .lst ts => deps ts + 1 | .ftp ts => deps ts + 1
  | _ => 0
def deps : List T → Nat
  | [] => 0
  | t :: ts => max (dep t) (deps ts)
end
mutual
theorem dep_P : ∀ t : T, cmpT t = true → (toP t).depth = dep t
  | .non, _ => rfl
  | .bl _, _ => rfl
  | .int _, _ => rfl
  | .str _, _ => rfl
  | .tup ts, h => by simp only [toP, dep, PyData.depth]; rw [deps_P ts (by simpa [cmpT] using h)]
  | .lst ts, h => by simp only [toP, dep, PyData.depth]; rw [deps_P ts (by simpa [cmpT] using h)]
  | .dk _ _, h => by simp [cmpT] at h
  | .obj _ _ _, h => by simp [cmpT] at h
  | .ftp ts, h => by simp only [toP, dep, PyData.depth]; rw [deps_P ts (by simpa [cmpT] using h)]
  | .cls _, h => by simp [cmpT] at h
  | .nd _ _, h => by simp [cmpT] at h
theorem deps_P : ∀ ts : List T, cmpTs ts = true → PyData.depthAll (toPs ts) = deps ts
  | [], _ => rfl
  | t :: ts, h => by
    simp only [cmpTs, Bool.and_eq_true] at h
    simp only [toPs, deps, PyData.depthAll]; rw [dep_P t h.1, deps_P ts h.2]
end
section
variable {g : Gm} {B : Addr → Prop} {H : Hp}
mutual
theorem Rp.dp : ∀ (t : T) (v : V), cmpT t = true → Rp g.toGm0 B H t v → Dp g.K H v (toP t) ∧ (toP t).canLay0 = true
  | .non, v, _, h => by cases h; exact ⟨.non, rfl⟩
  | .bl b, v, _, h => by cases h; exact ⟨.bl b, rfl⟩
  | .int i, v, _, h => by cases h; exact ⟨.int i, rfl⟩
  | .str x, v, _, ⟨h, o⟩ => by subst h; exact ⟨.str x, o⟩
  | .tup ts, v, c, ⟨a, xs, e, h, r⟩ => by
    subst e
    have q := Rps.dp ts xs (by simpa [cmpT] using c) r
    exact ⟨.tup h q.1, q.2⟩
  | .lst ts, v, c, ⟨a, xs, e, h, r⟩ => by
    subst e
    have q := Rps.dp ts xs (by simpa [cmpT] using c) r
    exact ⟨.lst h.sq q.1, q.2⟩
  | .dk _ _, v, c, _ => by simp [cmpT] at c
  | .obj _ _ _, v, c, _ => by simp [cmpT] at c
  | .ftp ts, v, c, ⟨a, ob, xs, e, h, _, _, r⟩ => by
    subst e
    have q := Rps.dp ts xs (by simpa [cmpT] using c) r
    exact ⟨.tup (.inl (.inr ⟨ob, h⟩)) q.1, q.2⟩
  | .cls _, v, c, _ => by simp [cmpT] at c
  | .nd _ _, v, c, _ => by simp [cmpT] at c
theorem Rps.dp : ∀ (ts : List T) (vs : List V), cmpTs ts = true → Rps g.toGm0 B H ts vs → DpAll g.K H vs (toPs ts) ∧ PyData.canLayAll0 (toPs ts) = true
  | [], vs, _, h => by cases h; exact ⟨.nil, rfl⟩
  | t :: ts, vs, c, ⟨v, ws, e, h, r⟩ => by
    subst e
    simp only [cmpTs, Bool.and_eq_true] at c
    have q1 := Rp.dp t v c.1 h
    have q2 := Rps.dp ts ws c.2 r
    exact ⟨.cons q1.1 q2.1, by simp only [toPs, PyData.canLayAll0, q1.2, q2.2, Bool.and_self]⟩
end
end
/-- a value as plain data (a located list as it stands) -/
def asD (G : Hs) : D → Option T
  | .t x => some x
  | .loc i => match G[i]? with
    | some (.lst ds) => (plain ds).map T.lst
    | some (.flst ts) => some (.lst ts)
    | _ => none
def teq (a b : T) : Bool := PyData.eqv (toP a) (toP b)
def eqOk (a b : T) : Bool := cmpT a && cmpT b && decide (min (dep a) (dep b) ≤ 64)
def fEq (neg : Bool) (x y : D) (G : Hs) : Re := match asD G x, asD G y with
  | some a, some b => if eqOk a b = true then .ok (.t (.bl (if neg then !teq a b else teq a b))) G else .stuck
  | _, _ => .stuck
/-- what the rule of == asks of two values -/
def rEqN (K : PySem.W.Frag) (neg : Bool) : R2 := fun x y H Q => ∃ d e, Dp K H x d ∧ Dp K H y e ∧ d.canLay0 = true ∧ e.canLay0 = true ∧ min d.depth e.depth ≤ 64 ∧ Q (.bl (if neg then !PyData.eqv d e else PyData.eqv d e)) H
theorem op_eqN {X : Cx} (hu : X.A.units + 64 < cLine) : OpR X (compareOp .Eq) (rEqN X.K false) := by
  intro pins s σ H x y v u Q I rx ry h
  obtain ⟨d, e, hd, he, c1, c2, hm, q⟩ := h
  obtain ⟨as, r1⟩ := Dp.reads I d x v hd rx
  obtain ⟨bs, r2⟩ := Dp.reads I e y u he ry
  exact SeqAt.compareEq_reads r1 r2 c1 c2 (by omega) ⟨.bl _, H, I, rfl, q⟩
theorem op_neN {X : Cx} (hu : X.A.units + 64 < cLine) : OpR X (compareOp .NotEq) (rEqN X.K true) := by
  intro pins s σ H x y v u Q I rx ry h
  obtain ⟨d, e, hd, he, c1, c2, hm, q⟩ := h
  obtain ⟨as, r1⟩ := Dp.reads I d x v hd rx
  obtain ⟨bs, r2⟩ := Dp.reads I e y u he ry
  exact SeqAt.compareNe_reads r1 r2 c1 c2 (by omega) ⟨.bl _, H, I, rfl, q⟩
section
variable {g : Gm} {m : Nat → Addr} {H : Hp} {G : Hs}
/-- as plain data, wherever it lies: no place is named -/
theorem asD_dp (s : SR g m H G) {d : D} {v : V} {t : T} (r : RpD g m G.length G.length H d v) (e : asD G d = some t) (c : cmpT t = true) : Dp g.K H v (toP t) ∧ (toP t).canLay0 = true := by
  refine ?G
  exact (by (intro h; exact h) : have h : (type_of% ?G) := (by
  cases d with
  | t x => cases e; exact Rp.dp t v c r
  | loc i =>
    obtain ⟨hi, rfl⟩ := r
    cases q : G[i]? with
    | none => simp [asD, q] at e
    | some o =>
      cases o with
      | lst ds =>
        simp [asD, q] at e
        obtain ⟨ts, e1, rfl⟩ := e
        have := plain_some e1
        subst this
        obtain ⟨xs, h, r⟩ := s.ob i _ q
        have q := Rps.dp ts xs (by simpa [cmpT] using c) r.toT
        exact ⟨.lst (.inl (.inl h)) q.1, q.2⟩
      | flst ts =>
        simp [asD, q] at e
        subst e
        obtain ⟨ob, xs, h, r⟩ := s.ob i _ q
        have q := Rps.dp ts xs (by simpa [cmpT] using c) r
        exact ⟨.lst (.inl (.inr ⟨ob, h⟩)) q.1, q.2⟩
      | dk kvs => simp [asD, q] at e
      | ins c fs => simp [asD, q] at e
      | tpl ds => simp [asD, q] at e
      | nd kvs => simp [asD, q] at e
      | fnd kvs => simp [asD, q] at e
      | fdk kvs => simp [asD, q] at e
      | fn ds => simp [asD, q] at e
 ); type_of% ?G)
theorem a_eq {neg : Bool} (K : PySem.W.Frag) (hK : K = g.K) : OpA g (rEqN K neg) (fEq neg) := by
  refine ?G
  exact (by (intro h; exact h) : have h : (type_of% ?G) := (by
  subst hK
  intro W m H G σ Q x y v u s rx ry p
  unfold fEq at p
  split at p
  · rename_i a b ea eb
    split at p
    · rename_i h
      simp only [eqOk, Bool.and_eq_true, decide_eq_true_eq] at h
      have qa := asD_dp s rx ea h.1.1
      have qb := asD_dp s ry eb h.1.2
      refine ⟨_, _, qa.1, qb.1, qa.2, qb.2, ?_, PostE.ok s p rfl⟩
      rw [dep_P a h.1.1, dep_P b h.1.2]; exact h.2
    · exact p.elim
  · exact p.elim
 ); type_of% ?G)
end
section
variable {Z : Zc} {a b : Expr} {da db : De} {pos : Pos}
theorem Ok.u64 {X : Cx} {W : WX} (ok : Ok Z X W) : X.A.units + 64 < cLine := ok.rm.units
theorem pd_eq (ha : PD Z a da) (hb : PD Z b db) : PD Z (.Compare a [.Eq] [b] pos) (dBin (fEq false) da db) := pd_cmp (fun X => rEqN X.K false) (fun _ _ ok => op_eqN ok.u64) (fun _ _ ok => a_eq _ ok.Kg) ha hb (nomark _)
theorem pd_ne (ha : PD Z a da) (hb : PD Z b db) : PD Z (.Compare a [.NotEq] [b] pos) (dBin (fEq true) da db) := pd_cmp (fun X => rEqN X.K true) (fun _ _ ok => op_neN ok.u64) (fun _ _ ok => a_eq _ ok.Kg) ha hb (nomark _)
end
/-! ### x in xs -/
def flatTs : List T → Bool
  | [] => true
  | t :: ts => flatT t && flatTs ts
def fIn (neg : Bool) : D → D → Hs → Re
  | .t (.str u), .t (.str z), G => if u.cps.size = 1 then .ok (.t (.bl (if neg then !decide (u.cps[0]! ∈ z.cps.toList) else decide (u.cps[0]! ∈ z.cps.toList)))) G else .stuck
  | .t x, y, G => match asS G y with
    | some ds => match plain ds with
      | some ts => if flatT x = true ∧ flatTs ts = true then .ok (.t (.bl (if neg then !ts.any (fun t => teq t x) else ts.any (fun t => teq t x)))) G else .stuck
      | none => .stuck
    | none => .stuck
  | _, _, _ => .stuck
section
variable {g : Gm} {B : Addr → Prop} {H : Hp}
theorem Rp.flat : ∀ {t : T} {v : V}, flatT t = true → Rp g.toGm0 B H t v → flatV v = true
  | .non, v, _, h => by cases h; rfl
  | .bl _, v, _, h => by cases h; rfl
  | .int _, v, _, h => by cases h; rfl
  | .str _, v, _, ⟨h, _⟩ => by cases h; rfl
theorem teq_flat : ∀ {t u : T} {v w : V}, flatT t = true → flatT u = true → Rp g.toGm0 B H t v → Rp g.toGm0 B H u w → eqV v w = teq t u := by
  refine ?G
  exact (by (intro h; exact h) : have h : (type_of% ?G) := (by
  intro t u v w ft fu ht hu
  cases t <;> (try (simp [flatT] at ft; done)) <;> cases u <;> (try (simp [flatT] at fu; done))
  all_goals
    first
    | (obtain ⟨e1, _⟩ := ht; obtain ⟨e2, _⟩ := hu; subst e1; subst e2; rfl)
    | (obtain ⟨e1, _⟩ := ht; have e2 : w = _ := hu; subst e1; subst e2; rfl)
    | (have e1 : v = _ := ht; obtain ⟨e2, _⟩ := hu; subst e1; subst e2; rfl)
    | (have e1 : v = _ := ht; have e2 : w = _ := hu; subst e1; subst e2; rfl)
 ); type_of% ?G)
theorem Rps.flatAll : ∀ {ts : List T} {vs : List V}, flatTs ts = true → Rps g.toGm0 B H ts vs → vs.all flatV = true
  | [], vs, _, h => by cases h; rfl
  | t :: ts, vs, f, ⟨v, ws, e, h, r⟩ => by
    subst e
    simp only [flatTs, Bool.and_eq_true] at f
    simp only [List.all_cons, Bool.and_eq_true]
    exact ⟨Rp.flat f.1 h, Rps.flatAll f.2 r⟩
theorem Rps.anyEq {x : T} {w : V} (fx : flatT x = true) (hx : Rp g.toGm0 B H x w) : ∀ {ts : List T} {vs : List V}, flatTs ts = true → Rps g.toGm0 B H ts vs → (vs.any fun y => eqV y w) = ts.any (fun t => teq t x)
  | [], vs, _, h => by cases h; rfl
  | t :: ts, vs, f, ⟨v, ws, e, h, r⟩ => by
    subst e
    simp only [flatTs, Bool.and_eq_true] at f
    simp only [List.any_cons]
    rw [teq_flat f.1 fx h hx, Rps.anyEq fx hx f.2 r]
end
theorem one_sign {u : Str} (h : u.cps.size = 1) : u = ⟨#[u.cps[0]!]⟩ := by
  obtain ⟨⟨l⟩⟩ := u
  match l, h with
  | [c], _ => rfl
theorem fin_in {neg : Bool} {x y : D} {G : Hs} {r : Re} (e : fIn neg x y G = r) (hr : r ≠ .stuck) :
    (∃ u z, x = .t (.str u) ∧ y = .t (.str z) ∧ u.cps.size = 1 ∧ r = .ok (.t (.bl (if neg then !decide (u.cps[0]! ∈ z.cps.toList) else decide (u.cps[0]! ∈ z.cps.toList)))) G) ∨
    (∃ t ts, x = .t t ∧ asS G y = some (ts.map D.t) ∧ flatT t = true ∧ flatTs ts = true ∧ r = .ok (.t (.bl (if neg then !ts.any (fun u => teq u t) else ts.any (fun u => teq u t)))) G) := by
  refine ?G
  exact (by (intro h; exact h) : have h : (type_of% ?G) := (by
  unfold fIn at e
  split at e
  · split at e
    · exact .inl ⟨_, _, rfl, rfl, by assumption, e.symm⟩
    · exact absurd e.symm hr
  · split at e
    · split at e
      · split at e
        · rename_i ds e1 _ ts e2 h
          have := plain_some e2
          subst this
          exact .inr ⟨_, ts, rfl, e1, h.1, h.2, e.symm⟩
        · exact absurd e.symm hr
      · exact absurd e.symm hr
    · exact absurd e.symm hr
  · exact absurd e.symm hr
 ); type_of% ?G)
def rInN (K : PySem.W.Frag) (neg : Bool) : R2 := fun x y H Q => (∃ (c : Nat) (z : Str), x = .str ⟨#[c]⟩ ∧ y = .str z ∧ Q (.bl (if neg then !decide (c ∈ z.cps.toList) else decide (c ∈ z.cps.toList))) H) ∨ rIn K neg x y H Q
theorem a_in {g : Gm} {neg : Bool} (K : PySem.W.Frag) (hK : K = g.K) : OpA g (rInN K neg) (fIn neg) := by
  refine ?G
  exact (by (intro h; exact h) : have h : (type_of% ?G) := (by
  subst hK
  intro W m H G σ Q x y v u s rx ry p
  have hr : fIn neg x y G ≠ .stuck := fun e => by rw [e] at p; exact p
  rcases fin_in rfl hr with ⟨a, z, rfl, rfl, h1, e⟩ | ⟨t, ts, rfl, h1, h2, h3, e⟩
  · rw [e] at p
    obtain ⟨e1, _⟩ := rx
    obtain ⟨e2, _⟩ := ry
    subst e1; subst e2
    exact .inl ⟨_, z, by rw [← one_sign h1], rfl, PostE.ok s p rfl⟩
  · rw [e] at p
    obtain ⟨a, xs, rfl, hq, r⟩ := asS_rp s ry h1
    refine .inr ⟨a, xs, rfl, hq, Rp.flat h2 rx, Rps.flatAll h3 r.toT, ?_⟩
    have : inV v xs = ts.any (fun u => teq u t) := Rps.anyEq h2 rx h3 r.toT
    rw [this]
    exact PostE.ok s p rfl
 ); type_of% ?G)
section
variable {Z : Zc} {a b : Expr} {da db : De} {pos : Pos}
end
end BL

set_option Elab.async false
set_option linter.all false
set_option maxRecDepth 100000
set_option maxHeartbeats 1000000
namespace BL
open PySem L2

/-! ### x[i] -/
def fIx : D → D → Hs → Re
  | .t (.str z), .t (.int i), G => if z.length ≤ sizeLine then (match atI z.cps.toList i with
    | some c => .ok (.t (.str ⟨#[c]⟩)) G
    | none => .stuck) else .stuck
  | x, .t (.int i), G => match asS G x with
    | some ds => (match atI ds i with
      | some d => .ok d G
      | none => .stuck)
    | none => .stuck
  | _, _, _ => .stuck
theorem fix_in {x y : D} {G : Hs} (h : fIx x y G ≠ .stuck) :
    (∃ z i c, x = .t (.str z) ∧ y = .t (.int i) ∧ z.length ≤ sizeLine ∧ atI z.cps.toList i = some c ∧ fIx x y G = .ok (.t (.str ⟨#[c]⟩)) G) ∨
    (∃ i ds d, y = .t (.int i) ∧ asS G x = some ds ∧ atI ds i = some d ∧ fIx x y G = .ok d G) := by
  refine ?G
  exact (by (intro h; exact h) : have h : (type_of% ?G) := (by
  revert h
  unfold fIx
  intro h
  split at h
  · split at h
    · split at h
      · rename_i hz _ c e
        refine .inl ⟨_, _, c, rfl, rfl, hz, e, ?_⟩
        rw [if_pos hz]
      · exact absurd rfl h
    · exact absurd rfl h
  · rename_i hn
    split at h
    · split at h
      · rename_i ds e _ d e2
        exact .inr ⟨_, ds, d, rfl, e, e2, rfl⟩
      · exact absurd rfl h
    · exact absurd rfl h
  · exact absurd rfl h
 ); type_of% ?G)
section
variable {g : Gm} {m : Nat → Addr} {n b : Nat} {H : Hp} {G : Hs}
theorem RpDs.atI {ds : List D} {vs : List V} {i : Int} {d : D} (r : RpDs g m n b H ds vs) (e : L2.atI ds i = some d) : ∃ v, L2.atI vs i = some v ∧ RpD g m n b H d v := by
  unfold L2.atI at *
  rw [← r.length]
  cases q : ixN ds.length i with
  | none => rw [q] at e; cases e
  | some j =>
    rw [q] at e
    exact r.get e
theorem okS_one {z : Str} {i : Int} {c : Nat} (h : okS z) (e : L2.atI z.cps.toList i = some c) : okS ⟨#[c]⟩ := by
  obtain ⟨j, _, e2, _⟩ := atI_get e
  have hc : c ∈ z.cps.toList := List.mem_of_getElem? e2
  show ((#[c] : Array Nat).all fun c => decide (c < 0x110000)) = true
  have : (z.cps.all fun c => decide (c < 0x110000)) = true := h
  rw [Array.all_eq_true'] at this
  have := this c (Array.mem_def.mpr hc)
  simpa using this
theorem a_ix (K : PySem.W.Frag) (hK : K = g.K) : OpA g (rIx K) fIx := by
  refine ?G
  exact (by (intro h; exact h) : have h : (type_of% ?G) := (by
  subst hK
  intro W m H G σ Q x y v u s rx ry p
  have hr : fIx x y G ≠ .stuck := fun e => by rw [e] at p; exact p
  rcases fix_in hr with ⟨z, i, c, rfl, rfl, hz, e, q⟩ | ⟨i, ds, d, rfl, e, e2, q⟩
  · rw [q] at p
    obtain ⟨e1, ho⟩ := rx
    cases ry
    subst e1
    exact .inr (.inr ⟨z, i, c, rfl, rfl, hz, e, PostE.ok s p ⟨rfl, okS_one ho e⟩⟩)
  · rw [q] at p
    cases ry
    obtain ⟨a, xs, rfl, h, r⟩ := asS_rp s rx e
    obtain ⟨w, e3, rw'⟩ := r.atI e2
    rcases h with h | h
    · exact .inl ⟨a, xs, i, w, rfl, rfl, h, e3, PostE.ok s p rw'⟩
    · exact .inr (.inl ⟨a, xs, i, w, rfl, rfl, h, e3, PostE.ok s p rw'⟩)
 ); type_of% ?G)
end
section
variable {Z : Zc} {a b o : Expr} {da db do_ : De} {pos p2 : Pos}
theorem pd_ix (ha : PD Z a da) (hb : PD Z b db) (hs : PlainIx b := by intro _ _; rfl) : PD Z (.Subscript a b pos) (dBin fIx da db) := fun X W ok =>
  peI (pe_ix ix_seq (ha X W ok) (hb X W ok) hs) fun _ _ _ h => tI_bin (a_ix _ ok.Kg) h
end
/-! ### slices -/
def cutA {α : Type} (xs : List α) (lo hi : Option Int) : List α := (xs.drop (HT.sIx xs.length 0 lo)).take (HT.sIx xs.length xs.length hi - HT.sIx xs.length 0 lo)
def fSl (x : D) (lo hi : Option Int) (G : Hs) : Re := match x with
  | .t (.str z) => if z.length ≤ sizeLine then .ok (.t (.str (cutS z lo hi))) G else .stuck
  | .t (.tup ts) => .ok (.t (.tup (cutA ts lo hi))) G
  | .t (.ftp ts) => .ok (.t (.tup (cutA ts lo hi))) G
  | x => match asL G x with
    | some ds => (match plain ds with
      | some ts => .ok (.t (.lst (cutA ts lo hi))) G
      | none => .stuck)
    | none => .stuck
abbrev Dop := Option De
def dSl (a : De) (lo hi : Dop) : De := fun r G => (a r G).bind fun x G1 => match lo with
  | none => (match hi with
    | none => fSl x none none G1
    | some h => (h r G1).bind fun y G2 => match y with | .t (.int j) => fSl x none (some j) G2 | _ => .stuck)
  | some l => (l r G1).bind fun w G2 => match w with
    | .t (.int i) => (match hi with
      | none => fSl x (some i) none G2
      | some h => (h r G2).bind fun y G3 => match y with | .t (.int j) => fSl x (some i) (some j) G3 | _ => .stuck)
    | _ => .stuck
theorem okS_cut {z : Str} {lo hi : Option Int} (h : okS z) : okS (cutS z lo hi) := by
  have hz : (z.cps.all fun c => decide (c < 0x110000)) = true := h
  rw [Array.all_eq_true'] at hz
  show ((cutS z lo hi).cps.all fun c => decide (c < 0x110000)) = true
  rw [Array.all_eq_true']
  intro c hc
  apply hz
  rw [Array.mem_def] at hc ⊢
  exact List.mem_of_mem_drop (List.mem_of_mem_take hc)
def rSlN (K : PySem.W.Frag) : V → Option Int → Option Int → Hp → VK → Prop := fun x lo hi H Q => rSlS x lo hi H Q ∨ rSlA K x lo hi H Q ∨ rSlL K x lo hi H Q
theorem a_sl {g : Gm} (K : PySem.W.Frag) (hK : K = g.K) {W : WX} {m : Nat → Addr} {H : Hp} {G : Hs} {σ : St} {Q : VK} {x : D} {v : V} {lo hi : Option Int} (s : SR g m H G) (rx : RpD g m G.length G.length H x v) (p : PostE g W m G.length H σ Q (fSl x lo hi G)) : rSlN K v lo hi H Q := by
  refine ?G
  exact (by (intro h; exact h) : have h : (type_of% ?G) := (by
  subst hK
  unfold fSl at p
  split at p
  · split at p
    · rename_i h
      obtain ⟨e, ho⟩ := rx
      subst e
      exact .inl ⟨_, rfl, h, PostE.ok s p ⟨rfl, okS_cut ho⟩⟩
    · exact p.elim
  · rename_i ts
    obtain ⟨a, xs, rfl, h, r⟩ := rx
    have hl := r.length
    refine .inr (.inl ⟨a, xs, rfl, h, fun ⟨h1, h2⟩ => ?_, fun hn q hq => ?_⟩)
    · have : cutA ts lo hi = ts := by unfold cutA; rw [hl, h1, h2]; simp [← hl]
      rw [this] at p
      exact PostE.ok s p ⟨a, xs, rfl, h, r⟩
    · have hz : (cutV xs lo hi).length ≤ sizeLine := Nat.le_trans (cutV_length _ _ _) (s.szT h)
      refine p _ _ _ (Ex.new hq) (s.new hq hz) ⟨q, _, rfl, .inl (.inl upd_same), ?_⟩
      have := Rps.take (HT.sIx xs.length xs.length hi - HT.sIx xs.length 0 lo) (Rps.drop (HT.sIx xs.length 0 lo) r)
      have e : cutA ts lo hi = (ts.drop (HT.sIx xs.length 0 lo)).take (HT.sIx xs.length xs.length hi - HT.sIx xs.length 0 lo) := by unfold cutA; rw [hl]
      rw [e]
      exact Rps.ex (Ex.new hq) s _ _ this
  · rename_i ts
    obtain ⟨a, ob, xs, rfl, h0, _, _, r⟩ := rx
    have h : SqT g.K H a xs := .inl (.inr ⟨ob, h0⟩)
    have hl := r.length
    refine .inr (.inl ⟨a, xs, rfl, h, fun ⟨h1, h2⟩ => ?_, fun hn q hq => ?_⟩)
    · have : cutA ts lo hi = ts := by unfold cutA; rw [hl, h1, h2]; simp [← hl]
      rw [this] at p
      exact PostE.ok s p ⟨a, xs, rfl, h, r⟩
    · have hz : (cutV xs lo hi).length ≤ sizeLine := Nat.le_trans (cutV_length _ _ _) (s.szT h)
      refine p _ _ _ (Ex.new hq) (s.new hq hz) ⟨q, _, rfl, .inl (.inl upd_same), ?_⟩
      have := Rps.take (HT.sIx xs.length xs.length hi - HT.sIx xs.length 0 lo) (Rps.drop (HT.sIx xs.length 0 lo) r)
      have e : cutA ts lo hi = (ts.drop (HT.sIx xs.length 0 lo)).take (HT.sIx xs.length xs.length hi - HT.sIx xs.length 0 lo) := by unfold cutA; rw [hl]
      rw [e]
      exact Rps.ex (Ex.new hq) s _ _ this
  · split at p
    · split at p
      · rename_i ds e _ ts e2
        obtain ⟨a, xs, rfl, h, r⟩ := asL_rp s rx e
        have := plain_some e2
        subst this
        have r := r.toT
        have hl := r.length
        refine .inr (.inr ⟨a, xs, rfl, h, fun q hq => ?_⟩)
        have hz : (cutV xs lo hi).length ≤ sizeLine := Nat.le_trans (cutV_length _ _ _) (s.szL h)
        refine p _ _ _ (Ex.new hq) (s.new hq hz) ⟨q, _, rfl, .here upd_same (s.notBd hq), ?_⟩
        have := Rps.take (HT.sIx xs.length xs.length hi - HT.sIx xs.length 0 lo) (Rps.drop (HT.sIx xs.length 0 lo) r)
        have e : cutA ts lo hi = (ts.drop (HT.sIx xs.length 0 lo)).take (HT.sIx xs.length xs.length hi - HT.sIx xs.length 0 lo) := by unfold cutA; rw [hl]
        rw [e]
        exact Rps.ex (Ex.new hq) s _ _ this
      · exact p.elim
    · exact p.elim
 ); type_of% ?G)
section
variable {Z : Zc} {a l u : Expr} {da dl du : De} {pos p2 : Pos}
theorem tI_sl {W : WX} {X : Cx} (hK : X.K = Z.g.K) {da : De} {lo hi : Dop} {σ : St} {H : Hp} {Q : VK} (h : tI Z.g W (dSl da lo hi) σ H Q) :
    tSl (rSlN X.K) (tI Z.g W da) (match lo with | none => tNoPart | some l => tPart (tI Z.g W l)) (match hi with | none => tNoPart | some l => tPart (tI Z.g W l)) σ H Q := by
  refine ?G
  exact (by (intro h; exact h) : have h : (type_of% ?G) := (by
  obtain ⟨m, r, G, s, sl, p⟩ := h
  refine tI_bind s sl p fun x G1 v m1 H1 e x1 s1 sl1 rv p1 => ?_
  cases lo with
  | none =>
    cases hi with
    | none => exact a_sl _ hK s1 rv p1
    | some hi =>
      refine tI_bind s1 sl1 p1 fun y G2 u m2 H2 e2 x2 s2 sl2 ru p2 => ?_
      split at p2
      · cases ru
        exact ⟨_, rfl, a_sl _ hK s2 (RpD.ex x2 s1 x2.le (Nat.le_refl _) rv) p2⟩
      · exact p2.elim
  | some lo =>
    refine tI_bind s1 sl1 p1 fun y G2 u m2 H2 e2 x2 s2 sl2 ru p2 => ?_
    split at p2
    · cases ru
      refine ⟨_, rfl, ?_⟩
      cases hi with
      | none => exact a_sl _ hK s2 (RpD.ex x2 s1 x2.le (Nat.le_refl _) rv) p2
      | some hi =>
        refine tI_bind s2 sl2 p2 fun y G3 u m3 H3 e3 x3 s3 sl3 ru p3 => ?_
        split at p3
        · cases ru
          exact ⟨_, rfl, a_sl _ hK s3 (RpD.ex x3 s2 x3.le (Nat.le_refl _) (RpD.ex x2 s1 x2.le (Nat.le_refl _) rv)) p3⟩
        · exact p3.elim
    · exact p2.elim
 ); type_of% ?G)
theorem sl_any {X : Cx} : SlR X (rSlN X.K) := SlR.or sl_str (SlR.or sl_tupA sl_list)
theorem pd_slU (ha : PD Z a da) (hu : PD Z u du) : PD Z (.Subscript a (.Slice none (some u) none p2) pos) (dSl da none (some du)) := fun X W ok =>
  peI (pe_slice sl_any (ha X W ok) po_none (po_some (hu X W ok))) fun _ _ _ h => tI_sl (lo := none) (hi := some du) ok.Kg h
end
/-! ### displays -/
def fTupD : List D → Hs → Re := fun ds G => match plain ds with
  | some ts => if ts.length ≤ sizeLine then .ok (.t (.tup ts)) G else .stuck
  | none => .stuck
def fLstD : List D → Hs → Re := fun ds G => match plain ds with
  | some ts => if ts.length ≤ sizeLine then .ok (.t (.lst ts)) G else .stuck
  | none => .stuck
def fLstDL : List D → Hs → Re := fun ds G => if ds.length ≤ sizeLine then .ok (.loc G.length) (G ++ [.lst ds]) else .stuck
section
variable {Z : Zc} {es : List Expr} {das : List De} {pos : Pos} {x1 : Nat}
theorem pd_tupD (h : PDA Z es das) : PD Z (.Tuple es x1 pos) (dArgs das fTupD) := by
  refine ?G
  exact (by (intro h; exact h) : have h : (type_of% ?G) := (fun X W ok => by
  refine peI (pe_tup (h X W ok)) fun σ H Q h => ?_
  obtain ⟨m, r, G, s, sl, p⟩ := h
  refine tA_of s sl p fun ds G1 vs m1 H1 x1 s1 sl1 rs _ p1 => ?_
  unfold fTupD at p1
  split at p1
  · rename_i ts e
    have := plain_some e
    subst this
    split at p1
    · rename_i hz
      have r := rs.toT
      have hz' : vs.length ≤ sizeLine := by rw [← r.length]; exact hz
      exact ⟨hz', fun q hq => p1 _ _ _ (Ex.new hq) (s1.new hq hz') ⟨q, _, rfl, .inl (.inl upd_same), Rps.ex (Ex.new hq) s1 _ _ r⟩⟩
    · exact p1.elim
  · exact p1.elim
 ); type_of% ?G)
theorem pd_lstD (h : PDA Z es das) : PD Z (.List es pos) (dArgs das fLstD) := by
  refine ?G
  exact (by (intro h; exact h) : have h : (type_of% ?G) := (fun X W ok => by
  refine peI (pe_lst (h X W ok)) fun σ H Q h => ?_
  obtain ⟨m, r, G, s, sl, p⟩ := h
  refine tA_of s sl p fun ds G1 vs m1 H1 x1 s1 sl1 rs _ p1 => ?_
  unfold fLstD at p1
  split at p1
  · rename_i ts e
    have := plain_some e
    subst this
    split at p1
    · rename_i hz
      have r := rs.toT
      have hz' : vs.length ≤ sizeLine := by rw [← r.length]; exact hz
      exact ⟨hz', fun q hq => p1 _ _ _ (Ex.new hq) (s1.new hq hz') ⟨q, _, rfl, .here upd_same (s1.notBd hq), Rps.ex (Ex.new hq) s1 _ _ r⟩⟩
    · exact p1.elim
  · exact p1.elim
 ); type_of% ?G)
theorem pd_lstDL (h : PDA Z es das) : PD Z (.List es pos) (dArgs das fLstDL) := fun X W ok => by
  refine peI (pe_lst (h X W ok)) fun σ H Q h => ?_
  obtain ⟨m, r, G, s, sl, p⟩ := h
  refine tA_of s sl p fun ds G1 vs m1 H1 x1 s1 sl1 rs _ p1 => ?_
  unfold fLstDL at p1
  split at p1
  · rename_i hz
    have hz' : vs.length ≤ sizeLine := by rw [← rs.length]; exact hz
    refine ⟨hz', fun q hq => ?_⟩
    obtain ⟨q1, q2, q3⟩ := newL s1 hq hz' rs
    exact p1 _ _ _ q1 q2 q3
  · exact p1.elim
end
end BL

set_option Elab.async false
set_option linter.all false
set_option maxRecDepth 100000
set_option maxHeartbeats 1000000
namespace BL
open PySem L2

/-! ### truth -/
def truth (G : Hs) : D → Option Bool
  | .t .non => some false
  | .t (.bl b) => some b
  | .t (.int i) => some (i != 0)
  | .t (.str x) => if x.length ≤ sizeLine then some ((x.length : Int) != 0) else none
  | .t (.tup ts) => some (!ts.isEmpty)
  | .t (.lst ts) => some (!ts.isEmpty)
  | .t (.dk ks _) => some (!ks.isEmpty)
  | .t (.obj _ _ _) => none
  | .t (.ftp ts) => some (!ts.isEmpty)
  | .t (.cls _) => none
  | .t (.nd _ _) => none
  | .loc i => match G[i]? with
    | some (.lst ds) => some (!ds.isEmpty)
    | some (.flst ts) => some (!ts.isEmpty)
    | some (.dk kvs) => some (!kvs.isEmpty)
    | _ => none
theorem isEmpty_len {α β : Type} {xs : List α} {ys : List β} (h : xs.length = ys.length) : xs.isEmpty = ys.isEmpty := by
  cases xs <;> cases ys <;> simp at h ⊢
theorem zip_empty {α β : Type} {xs : List α} {ys : List β} (h : ys.length = xs.length) : (xs.zip ys).isEmpty = xs.isEmpty := by
  cases xs <;> cases ys <;> simp at h ⊢
section
variable {g : Gm} {m : Nat → Addr} {H : Hp} {G : Hs}
theorem truth_rp (s : SR g m H G) {d : D} {v : V} {k : Bool} (r : RpD g m G.length G.length H d v) (e : truth G d = some k) : TruV g.K v H k := by
  refine ?G
  exact (by (intro h; exact h) : have h : (type_of% ?G) := (by
  cases d with
  | t x =>
    cases x with
    | non => cases r; cases e; rfl
    | bl b => cases r; cases e; rfl
    | int i => cases r; cases e; rfl
    | str z =>
      obtain ⟨r, _⟩ := r
      subst r
      simp only [truth] at e
      split at e
      · cases e; exact ⟨by assumption, rfl⟩
      · cases e
    | tup ts =>
      obtain ⟨a, xs, rfl, h, r⟩ := r
      cases e
      exact .inr (.inl ⟨xs, h, by rw [isEmpty_len r.length]⟩)
    | lst ts =>
      obtain ⟨a, xs, rfl, h, r⟩ := r
      cases e
      exact .inl ⟨xs, h.sq, by rw [isEmpty_len r.length]⟩
    | dk ks ts =>
      obtain ⟨a, xs, rfl, h, l, nb, r⟩ := r
      cases e
      exact .inr (.inr ⟨_, h, by rw [zip_empty l]⟩)
    | obj c ns ts => cases e
    | ftp ts =>
      obtain ⟨a, ob, xs, rfl, h, _, _, r⟩ := r
      cases e
      exact .inr (.inl ⟨xs, .inl (.inr ⟨ob, h⟩), by rw [isEmpty_len r.length]⟩)
    | cls c => cases e
    | nd ks ts => cases e
  | loc i =>
    obtain ⟨hi, rfl⟩ := r
    cases q : G[i]? with
    | none => simp [truth, q] at e
    | some o =>
      cases o with
      | lst ds =>
        simp [truth, q] at e
        obtain ⟨xs, h, r⟩ := s.ob i _ q
        exact .inl ⟨xs, .inl (.inl h), by rw [← isEmpty_len r.length, e]; simp⟩
      | flst ts =>
        simp [truth, q] at e
        obtain ⟨ob, xs, h, r⟩ := s.ob i _ q
        exact .inl ⟨xs, .inl (.inr ⟨ob, h⟩), by rw [← isEmpty_len r.length, e]; simp⟩
      | dk kvs =>
        simp [truth, q] at e
        obtain ⟨xs, h, r⟩ := s.ob i _ q
        have hl := r.length
        exact .inr (.inr ⟨_, h, by rw [zip_empty (by simpa using hl.symm), ← isEmpty_len (show kvs.length = (kvs.map (·.1)).length by simp), e]; simp⟩)
      | ins c fs => simp [truth, q] at e
      | tpl ds => simp [truth, q] at e
      | nd kvs => simp [truth, q] at e
      | fnd kvs => simp [truth, q] at e
      | fdk kvs => simp [truth, q] at e
      | fn ds => simp [truth, q] at e
 ); type_of% ?G)
end
def dT (d : De) : De := fun r G => (d r G).bind fun x G1 => match truth G1 x with
  | some b => .ok (.t (.bl b)) G1
  | none => .stuck
def tT (g : Gm) (W : WX) (d : De) : TT := fun σ H Q => ∃ m r G, SR g m H G ∧ Sl g m G.length H σ r ∧ PostE g W m G.length H σ (fun v H' => ∀ b, v = .bl b → Q b H') (dT d r G)
def PDT (Z : Zc) (e : Expr) (d : De) : Prop := ∀ X W, Ok Z X W → PT X e (tT Z.g W d)
def PDW (Z : Zc) (e : Expr) (d : De) : Prop := ∀ X W, Ok Z X W → PW X e (tT Z.g W d)
theorem pwI {X : Cx} {e : Expr} {t t' : TT} (h : PW X e t) (k : ∀ σ H Q, t' σ H Q → t σ H Q) : PW X e t' := ⟨fun wh pins s σ H Q I z => h.run wh pins s σ H Q I (k σ H Q z)⟩
/-- the test's answer b is known behind the expression -/
theorem tT_of {g : Gm} {W : WX} {d : De} {σ : St} {H : Hp} {Q : Bool → Hp → Prop} {R : VK} (h : tT g W d σ H Q)
    (next : ∀ m r G x G1 v m1 H1 b, SR g m H G → Sl g m G.length H σ r → d r G = .ok x G1 → Ex m G.length H m1 G1.length H1 → SR g m1 H1 G1 → RpD g m1 G1.length G1.length H1 x v → truth G1 x = some b → Q b H1 → R v H1) : tI g W d σ H R := by
  refine ?G
  exact (by (intro h; exact h) : have h : (type_of% ?G) := (by
  obtain ⟨m, r, G, s, sl, p⟩ := h
  refine tI_bind s sl p fun x G1 v m1 H1 e x1 s1 sl1 rv p1 => ?_
  cases q : truth G1 x with
  | none => rw [q] at p1; exact p1.elim
  | some b =>
    rw [q] at p1
    exact next m r G x G1 v m1 H1 b s sl e x1 s1 rv q (PostE.ok (d := .t (.bl b)) s1 p1 (v := .bl b) rfl b rfl)
 ); type_of% ?G)
section
variable {Z : Zc} {a b c : Expr} {rest : List Expr} {da db dc : De} {pos : Pos}
theorem pdt_truth (h : PD Z a da) (he : ∀ env whole, isTrue a env whole = (do let v ← whole; standAt a.pos; holding [v] (truthy v)) := by intro _ _; rfl) : PDT Z a da := fun X W ok => by
  refine ptI (pt_truth (h X W ok) (he _)) fun σ H Q h => ?_
  exact tT_of h fun m r G x G1 v m1 H1 b s sl e x1 s1 rv q hq => ⟨b, by rw [ok.Kg]; exact truth_rp s1 rv q, hq⟩
/-- a comparison as a test: it gives a bool -/
def IsB (f : D → D → Hs → Re) : Prop := ∀ x y G d G', f x y G = .ok d G' → ∃ b, d = .t (.bl b)
theorem tT_bin {g : Gm} {W : WX} {f : D → D → Hs → Re} (hb : IsB f) {σ : St} {H : Hp} {Q : Bool → Hp → Prop} (h : tT g W (dBin f da db) σ H Q) : tI g W (dBin f da db) σ H (fun v H' => ∃ k, v = .bl k ∧ Q k H') := by
  refine ?G
  exact (by (intro h; exact h) : have h : (type_of% ?G) := (by
  refine tT_of h fun m r G x G1 v m1 H1 b s sl e x1 s1 rv q hq => ?_
  have : ∃ k, x = .t (.bl k) := by
    unfold dBin at e
    cases ea : da r G with
    | ok y G2 =>
      rw [ea] at e
      cases eb : db r G2 with
      | ok z G3 =>
        simp only [bind_ok] at e
        rw [eb] at e
        exact hb _ _ _ _ _ e
      | exc _ _ _ _ => simp only [bind_ok] at e; rw [eb] at e; cases e
      | stuck => simp only [bind_ok] at e; rw [eb] at e; cases e
    | exc _ _ _ _ => rw [ea] at e; cases e
    | stuck => rw [ea] at e; cases e
  obtain ⟨k, rfl⟩ := this
  cases q
  exact ⟨b, rv, hq⟩
 ); type_of% ?G)
theorem pdt_cmp {op : CmpOp} {f : D → D → Hs → Re} (q : Cx → R2) (ho : ∀ X W, Ok Z X W → OpR X (compareOp op) (q X)) (hq : ∀ X W, Ok Z X W → OpA Z.g (q X) f) (hf : IsB f) (ha : PD Z a da) (hb : PD Z b db) (hm : behindInMarks op b = false) : PDT Z (.Compare a [op] [b] pos) (dBin f da db) :=
  fun X W ok => ptI (pt_cmpR (ho X W ok) (ha X W ok) (hb X W ok) hm) fun _ _ _ h => tI_bin (hq X W ok) (tT_bin hf h)
theorem isB_cmp {p : Int → Int → Bool} : IsB (fCmp p) := by
  intro x y G d G' e
  unfold fCmp at e
  split at e
  · cases e; exact ⟨_, rfl⟩
  · cases e
theorem isB_eq {p : Bool} : IsB (fEq p) := by
  intro x y G d G' e
  unfold fEq at e
  split at e
  · split at e
    · cases e; exact ⟨_, rfl⟩
    · cases e
  · cases e
theorem isB_in {p : Bool} : IsB (fIn p) := by
  intro x y G d G' e
  rcases fin_in e (by simp) with ⟨_, _, _, _, _, q⟩ | ⟨_, _, _, _, _, _, q⟩
  · cases q; exact ⟨_, rfl⟩
  · cases q; exact ⟨_, rfl⟩
theorem pdt_lt (ha : PD Z a da) (hb : PD Z b db) : PDT Z (.Compare a [.Lt] [b] pos) (dBin fLt da db) := pdt_cmp (fun _ => _) (fun _ _ _ => op_lt) (fun _ _ _ => a_cmp) isB_cmp ha hb (nomark _)
theorem pdt_gt (ha : PD Z a da) (hb : PD Z b db) : PDT Z (.Compare a [.Gt] [b] pos) (dBin fGt da db) := pdt_cmp (fun _ => _) (fun _ _ _ => op_gt) (fun _ _ _ => a_cmp) isB_cmp ha hb (nomark _)
theorem pdt_ge (ha : PD Z a da) (hb : PD Z b db) : PDT Z (.Compare a [.GtE] [b] pos) (dBin fGe da db) := pdt_cmp (fun _ => _) (fun _ _ _ => op_ge) (fun _ _ _ => a_cmp) isB_cmp ha hb (nomark _)
theorem pdt_eq (ha : PD Z a da) (hb : PD Z b db) : PDT Z (.Compare a [.Eq] [b] pos) (dBin (fEq false) da db) := pdt_cmp (fun X => rEqN X.K false) (fun _ _ ok => op_eqN ok.u64) (fun _ _ ok => a_eq _ ok.Kg) isB_eq ha hb (nomark _)
theorem pdt_ne (ha : PD Z a da) (hb : PD Z b db) : PDT Z (.Compare a [.NotEq] [b] pos) (dBin (fEq true) da db) := pdt_cmp (fun X => rEqN X.K true) (fun _ _ ok => op_neN ok.u64) (fun _ _ ok => a_eq _ ok.Kg) isB_eq ha hb (nomark _)
theorem pdt_in (ha : PD Z a da) (hb : PD Z b db) (hm : behindInMarks .In b = false := by rfl) : PDT Z (.Compare a [.In] [b] pos) (dBin (fIn false) da db) :=
  pdt_cmp (fun X => rInN X.K false) (fun X _ ok => OpR.or op_in_sign op_in_seq) (fun _ _ ok => a_in _ ok.Kg) isB_in ha hb hm
theorem pdt_notIn (ha : PD Z a da) (hb : PD Z b db) (hm : behindInMarks .NotIn b = false := by rfl) : PDT Z (.Compare a [.NotIn] [b] pos) (dBin (fIn true) da db) :=
  pdt_cmp (fun X => rInN X.K true) (fun X _ ok => OpR.or op_notIn_sign op_notIn_seq) (fun _ _ ok => a_in _ ok.Kg) isB_in ha hb hm
/-! ### not, and, or, a if c else b -/
def dNot (d : De) : De := fun r G => (dT d r G).bind fun x G1 => match x with
  | .t (.bl b) => .ok (.t (.bl (!b))) G1
  | _ => .stuck
def dAnd (a b : De) : De := fun r G => (a r G).bind fun x G1 => match truth G1 x with
  | some true => b r G1
  | some false => .ok x G1
  | none => .stuck
def dOr (a b : De) : De := fun r G => (a r G).bind fun x G1 => match truth G1 x with
  | some true => .ok x G1
  | some false => b r G1
  | none => .stuck
def dIte (c a b : De) : De := fun r G => (dT c r G).bind fun x G1 => match x with
  | .t (.bl true) => a r G1
  | .t (.bl false) => b r G1
  | _ => .stuck
/-- behind a test -/
theorem tT_bind {g : Gm} {W : WX} {d : De} {k : D → Hs → Re} {m : Nat → Addr} {H : Hp} {G : Hs} {σ : St} {r : Ev} {Q : VK} {R : Bool → Hp → Prop} (s : SR g m H G) (sl : Sl g m G.length H σ r) (p : PostE g W m G.length H σ Q ((dT d r G).bind k))
    (next : ∀ b G1 m1 H1, dT d r G = .ok (.t (.bl b)) G1 → Ex m G.length H m1 G1.length H1 → SR g m1 H1 G1 → Sl g m1 G1.length H1 σ r → PostE g W m1 G1.length H1 σ Q (k (.t (.bl b)) G1) → R b H1) : tT g W d σ H R := by
  refine ?G
  exact (by (intro h; exact h) : have h : (type_of% ?G) := (by
  refine ⟨m, r, G, s, sl, ?_⟩
  cases e : dT d r G with
  | ok x G1 =>
    rw [e] at p
    intro v m1 H1 x1 s1 rv b eb
    subst eb
    have : x = .t (.bl b) := by
      unfold dT at e
      cases e2 : d r G with
      | ok y G2 =>
        rw [e2] at e
        simp only [bind_ok] at e
        split at e
        · cases e; cases rv; rfl
        · cases e
      | exc _ _ _ _ => rw [e2] at e; cases e
      | stuck => rw [e2] at e; cases e
    subst this
    exact next b G1 m1 H1 e x1 s1 (Sl.ex x1 s sl) (PostE.trans x1 s1 p)
  | exc c ns ds G' => rw [e] at p; exact p
  | stuck => rw [e] at p; exact p
 ); type_of% ?G)
theorem pd_not (h : PD Z a da) : PD Z (.UnaryOp .Not a pos) (dNot da) := fun X W ok => by
  refine peI (pe_notT (h X W ok)) fun σ H Q h => ?_
  obtain ⟨m, r, G, s, sl, p⟩ := h
  have : tT Z.g W da σ H (fun b H1 => Q (.bl (!b)) H1) := tT_bind s sl p fun b G1 m1 H1 e x1 s1 sl1 p1 => PostE.ok (d := .t (.bl (!b))) s1 p1 rfl
  exact tT_of this fun m r G x G1 v m1 H1 b s sl e x1 s1 rv q hq => ⟨b, by rw [ok.Kg]; exact truth_rp s1 rv q, hq⟩
theorem pdt_not (h : PDT Z a da) : PDT Z (.UnaryOp .Not a pos) (dNot da) := by
  refine ?G
  exact (by (intro h; exact h) : have h : (type_of% ?G) := (fun X W ok => by
  refine ptI (pt_not (h X W ok)) fun σ H Q h => ?_
  obtain ⟨m, r, G, s, sl, p⟩ := h
  have p' : PostE Z.g W m G.length H σ (fun v H' => ∀ b, v = .bl b → Q b H') ((dT da r G).bind fun x G1 => match x with | .t (.bl b) => .ok (.t (.bl (!b))) G1 | _ => .stuck) := by
    unfold dT dNot at p
    cases e : dT da r G with
    | ok x G1 =>
      rw [e] at p
      cases x with
      | t t =>
        cases t with
        | bl b => exact p
        | _ => exact p
      | loc i => exact p
    | exc _ _ _ _ => rw [e] at p; exact p
    | stuck => rw [e] at p; exact p
  exact tT_bind s sl p' fun b G1 m1 H1 e x1 s1 sl1 p1 => PostE.ok (d := .t (.bl (!b))) s1 p1 (v := .bl (!b)) rfl _ rfl
 ); type_of% ?G)
theorem pd_one {op : BoolOp} (h : PD Z a da) : PD Z (.BoolOp op [a] pos) da := fun X W ok => pe_one (h X W ok)
theorem pd_and (ha : PD Z a da) (hb : PD Z (.BoolOp .And (b :: rest) pos) db) : PD Z (.BoolOp .And (a :: b :: rest) pos) (dAnd da db) := by
  refine ?G
  exact (by (intro h; exact h) : have h : (type_of% ?G) := (fun X W ok => by
  refine peI (pe_andT (ha X W ok) (hb X W ok)) fun σ H Q h => ?_
  obtain ⟨m, r, G, s, sl, p⟩ := h
  refine tI_bind s sl p fun x G1 v m1 H1 e x1 s1 sl1 rv p1 => ?_
  cases q : truth G1 x with
  | none => rw [q] at p1; exact p1.elim
  | some k =>
    rw [q] at p1
    refine ⟨k, by rw [ok.Kg]; exact truth_rp s1 rv q, ?_⟩
    cases k with
    | true => exact ⟨m1, r, G1, s1, sl1, p1⟩
    | false => exact PostE.ok s1 p1 rv
 ); type_of% ?G)
theorem pd_ite (hc : PDT Z c dc) (ha : PD Z a da) (hb : PD Z b db) : PD Z (.IfExp c a b pos) (dIte dc da db) := fun X W ok => by
  refine peI (pe_ifExp (hc X W ok) (ha X W ok) (hb X W ok)) fun σ H Q h => ?_
  obtain ⟨m, r, G, s, sl, p⟩ := h
  refine tT_bind s sl p fun k G1 m1 H1 e x1 s1 sl1 p1 => ?_
  cases k with
  | true => exact ⟨m1, r, G1, s1, sl1, p1⟩
  | false => exact ⟨m1, r, G1, s1, sl1, p1⟩
theorem dT_and {r : Ev} {G : Hs} : dT (dAnd da db) r G = (dT da r G).bind fun x G1 => match x with
    | .t (.bl true) => dT db r G1
    | .t (.bl false) => .ok (.t (.bl false)) G1
    | _ => .stuck := by
  unfold dT dAnd
  cases da r G with
  | ok x G1 =>
    simp only [bind_ok]
    cases q : truth G1 x with
    | none => rfl
    | some k =>
      cases k with
      | true => rfl
      | false => simp only [bind_ok]; rw [q]
  | exc _ _ _ _ => rfl
  | stuck => rfl
theorem dT_or {r : Ev} {G : Hs} : dT (dOr da db) r G = (dT da r G).bind fun x G1 => match x with
    | .t (.bl true) => .ok (.t (.bl true)) G1
    | .t (.bl false) => dT db r G1
    | _ => .stuck := by
  unfold dT dOr
  cases da r G with
  | ok x G1 =>
    simp only [bind_ok]
    cases q : truth G1 x with
    | none => rfl
    | some k =>
      cases k with
      | true => simp only [bind_ok]; rw [q]
      | false => rfl
  | exc _ _ _ _ => rfl
  | stuck => rfl
theorem pdw_and1 (h : PDT Z a da) : PDW Z (.BoolOp .And [a] pos) da := fun X W ok => pw_and1 (h X W ok)
theorem pdw_or1 (h : PDT Z a da) : PDW Z (.BoolOp .Or [a] pos) da := fun X W ok => pw_or1 (h X W ok)
theorem pdw_and (ha : PDT Z a da) (hb : PDW Z (.BoolOp .And (b :: rest) pos) db) : PDW Z (.BoolOp .And (a :: b :: rest) pos) (dAnd da db) := fun X W ok => by
  refine pwI (pw_and (ha X W ok) (hb X W ok)) fun σ H Q h => ?_
  obtain ⟨m, r, G, s, sl, p⟩ := h
  rw [dT_and] at p
  refine tT_bind s sl p fun k G1 m1 H1 e x1 s1 sl1 p1 => ?_
  cases k with
  | true => exact ⟨m1, r, G1, s1, sl1, p1⟩
  | false => exact PostE.ok (d := .t (.bl false)) s1 p1 (v := .bl false) rfl _ rfl
theorem pdw_or (ha : PDT Z a da) (hb : PDW Z (.BoolOp .Or (b :: rest) pos) db) : PDW Z (.BoolOp .Or (a :: b :: rest) pos) (dOr da db) := fun X W ok => by
  refine pwI (pw_or (ha X W ok) (hb X W ok)) fun σ H Q h => ?_
  obtain ⟨m, r, G, s, sl, p⟩ := h
  rw [dT_or] at p
  refine tT_bind s sl p fun k G1 m1 H1 e x1 s1 sl1 p1 => ?_
  cases k with
  | true => exact PostE.ok (d := .t (.bl true)) s1 p1 (v := .bl true) rfl _ rfl
  | false => exact ⟨m1, r, G1, s1, sl1, p1⟩
theorem pdt_w (h : PDW Z a da) : PDT Z a da := fun X W ok => (h X W ok).pt
/-! ### a op b op' c -/
def dChain (f f' : D → D → Hs → Re) (a b c : De) : De := fun r G => (a r G).bind fun x G1 => (b r G1).bind fun y G2 => (f x y G2).bind fun z G3 => match z with
  | .t (.bl true) => (c r G3).bind fun w G4 => f' y w G4
  | .t (.bl false) => .ok (.t (.bl false)) G3
  | _ => .stuck
theorem tI_chain {g : Gm} {W : WX} {q q' : R2} {f f' : D → D → Hs → Re} (hq : OpA g q f) (hq' : OpA g q' f') {σ : St} {H : Hp} {Q : VK} (h : tI g W (dChain f f' da db dc) σ H Q) : tChain q q' (tI g W da) (tI g W db) (tI g W dc) σ H Q := by
  refine ?G
  exact (by (intro h; exact h) : have h : (type_of% ?G) := (by
  obtain ⟨m, r, G, s, sl, p⟩ := h
  refine tI_bind s sl p fun x G1 v m1 H1 e x1 s1 sl1 rv p1 => ?_
  refine tI_bind s1 sl1 p1 fun y G2 u m2 H2 e2 x2 s2 sl2 ru p2 => ?_
  refine hq W m2 H2 G2 σ _ x y v u s2 (RpD.ex x2 s1 x2.le (Nat.le_refl _) rv) ru ?_
  cases ez : f x y G2 with
  | stuck => rw [ez] at p2; exact p2
  | exc _ _ _ _ => rw [ez] at p2; exact p2
  | ok z G3 =>
    rw [ez] at p2
    simp only [bind_ok] at p2
    intro t m3 H3 x3 s3 rz
    have p3 := PostE.trans x3 s3 p2
    split at p3
    · cases rz
      refine ⟨true, rfl, ?_⟩
      refine tI_bind s3 (Sl.ex x3 s2 sl2) p3 fun w' G4 t' m4 H4 e4 x4 s4 sl4 rt p4 => ?_
      exact hq' W m4 H4 G4 σ Q y w' u t' s4 (RpD.ex x4 s3 x4.le (Nat.le_refl _) (RpD.ex x3 s2 x3.le (Nat.le_refl _) ru)) rt p4
    · cases rz
      exact ⟨false, rfl, PostE.ok (d := .t (.bl false)) s3 p3 rfl⟩
    · exact p3.elim
 ); type_of% ?G)
theorem pd_chain {op op' : CmpOp} {f f' : D → D → Hs → Re} (q q' : Cx → R2) (ho : ∀ X W, Ok Z X W → OpR X (compareOp op) (q X)) (hq : ∀ X W, Ok Z X W → OpA Z.g (q X) f) (ho' : ∀ X W, Ok Z X W → OpR X (compareOp op') (q' X)) (hq' : ∀ X W, Ok Z X W → OpA Z.g (q' X) f')
    (ha : PD Z a da) (hb : PD Z b db) (hc : PD Z c dc) (hm : lastMarks [op, op'] [b, c] = false := by rfl) : PD Z (.Compare a [op, op'] [b, c] pos) (dChain f f' da db dc) := fun X W ok =>
  peI (pe_chain (ho X W ok) (ho' X W ok) (ha X W ok) (hb X W ok) (hc X W ok) hm) fun _ _ _ h => tI_chain (hq X W ok) (hq' X W ok) h
theorem pd_leLe (ha : PD Z a da) (hb : PD Z b db) (hc : PD Z c dc) (hm : lastMarks [.LtE, .LtE] [b, c] = false := by rfl) : PD Z (.Compare a [.LtE, .LtE] [b, c] pos) (dChain fLe fLe da db dc) :=
  pd_chain (fun _ => _) (fun _ => _) (fun _ _ _ => op_le) (fun _ _ _ => a_cmp) (fun _ _ _ => op_le) (fun _ _ _ => a_cmp) ha hb hc hm
end
end BL

set_option Elab.async false
set_option linter.all false
set_option maxRecDepth 100000
set_option maxHeartbeats 1000000
namespace BL
open PySem L2

/-! ### statements -/
def PostS (g : Gm) (W : WX) (m : Nat → Addr) (n : Nat) (H : Hp) (E : Ends) : Rs → Prop
  | .nx r G' => ∀ σ' m' H', Ex m n H m' G'.length H' → SR g m' H' G' → Sl g m' G'.length H' σ' r → E.nx σ' H'
  | .rt d G' => ∀ v m' H', Ex m n H m' G'.length H' → SR g m' H' G' → RpD g m' G'.length G'.length H' d v → E.rt v H'
  | .bk r G' => ∀ σ' m' H', Ex m n H m' G'.length H' → SR g m' H' G' → Sl g m' G'.length H' σ' r → E.bk σ' H'
  | .ct r G' => ∀ σ' m' H', Ex m n H m' G'.length H' → SR g m' H' G' → Sl g m' G'.length H' σ' r → E.ct σ' H'
  | .exc c ns ds r G' => ∀ σ' da m' H' xs, Ex m n H m' G'.length H' → SR g m' H' G' → Sl g m' G'.length H' σ' r → H' da = some (.xd (ns.zip xs)) → ¬ Bd m' G'.length da → RpDs g m' G'.length G'.length H' ds xs → W (.ref (g.ca c)) (some da) σ' H'
  | .stuck => False
def tS (g : Gm) (W : WX) (d : Dst) : TS := fun E σ H => ∃ m r G, SR g m H G ∧ Sl g m G.length H σ r ∧ PostS g W m G.length H E (d r G)
def PSD (Z : Zc) (st : Stmt) (d : Dst) : Prop := ∀ X W, Ok Z X W → PS X st (tS Z.g W d)
def PSDs (Z : Zc) (st : List Stmt) (d : Dst) : Prop := ∀ X W, Ok Z X W → PSs X st (tS Z.g W d)
/-- an expression, then a statement's end -/
def Re.thn (r : Ev) : Re → (D → Hs → Rs) → Rs
  | .ok d G, k => k d G
  | .exc c ns ds G, _ => .exc c ns ds r G
  | .stuck, _ => .stuck
@[simp] theorem thn_ok {r : Ev} {d : D} {G : Hs} {k : D → Hs → Rs} : (Re.ok d G).thn r k = k d G := rfl
@[simp] theorem thn_exc {r : Ev} {c : Nat} {ns : List Str} {ds : List D} {G : Hs} {k : D → Hs → Rs} : (Re.exc c ns ds G).thn r k = .exc c ns ds r G := rfl
@[simp] theorem thn_stuck {r : Ev} {k : D → Hs → Rs} : Re.stuck.thn r k = .stuck := rfl
section
variable {g : Gm} {W : WX} {m m1 : Nat → Addr} {n : Nat} {H H1 : Hp} {G G1 : Hs} {σ : St} {E : Ends} {r : Ev}
theorem PostS.trans (x : Ex m n H m1 G1.length H1) (s : SR g m1 H1 G1) {q : Rs} (p : PostS g W m n H E q) : PostS g W m1 G1.length H1 E q := by
  refine ?G
  exact (by (intro h; exact h) : have h : (type_of% ?G) := (by
  cases q with
  | nx r G' => exact fun σ' m' H' x' s' r => p σ' m' H' (x.trans s x') s' r
  | rt d G' => exact fun v m' H' x' s' r => p v m' H' (x.trans s x') s' r
  | bk r G' => exact fun σ' m' H' x' s' r => p σ' m' H' (x.trans s x') s' r
  | ct r G' => exact fun σ' m' H' x' s' r => p σ' m' H' (x.trans s x') s' r
  | exc c ns ds r G' => exact fun σ' da m' H' xs x' s' sl h nb r => p σ' da m' H' xs (x.trans s x') s' sl h nb r
  | stuck => exact p
 ); type_of% ?G)
theorem tS_bind {d : De} {k : D → Hs → Rs} {R : VK} (s : SR g m H G) (sl : Sl g m G.length H σ r) (p : PostS g W m G.length H E ((d r G).thn r k))
    (next : ∀ x G1 v m1 H1, d r G = .ok x G1 → Ex m G.length H m1 G1.length H1 → SR g m1 H1 G1 → Sl g m1 G1.length H1 σ r → RpD g m1 G1.length G1.length H1 x v → PostS g W m1 G1.length H1 E (k x G1) → R v H1) : tI g W d σ H R := by
  refine ?G
  exact (by (intro h; exact h) : have h : (type_of% ?G) := (by
  refine ⟨m, r, G, s, sl, ?_⟩
  cases e : d r G with
  | ok x G1 =>
    rw [e] at p
    intro v m1 H1 x1 s1 rv
    exact next x G1 v m1 H1 e x1 s1 (Sl.ex x1 s sl) rv (PostS.trans x1 s1 p)
  | exc c ns ds G' =>
    rw [e] at p
    intro da m' H' xs x1 s1 h nb rs
    exact p σ da m' H' xs x1 s1 (Sl.ex x1 s sl) h nb rs
  | stuck => rw [e] at p; exact p
 ); type_of% ?G)
theorem tST_bind {d : De} {k : D → Hs → Rs} {R : Bool → Hp → Prop} (s : SR g m H G) (sl : Sl g m G.length H σ r) (p : PostS g W m G.length H E ((dT d r G).thn r k))
    (next : ∀ b G1 m1 H1, dT d r G = .ok (.t (.bl b)) G1 → Ex m G.length H m1 G1.length H1 → SR g m1 H1 G1 → Sl g m1 G1.length H1 σ r → PostS g W m1 G1.length H1 E (k (.t (.bl b)) G1) → R b H1) : tT g W d σ H R := by
  refine ?G
  exact (by (intro h; exact h) : have h : (type_of% ?G) := (by
  refine ⟨m, r, G, s, sl, ?_⟩
  cases e : dT d r G with
  | ok x G1 =>
    rw [e] at p
    intro v m1 H1 x1 s1 rv b eb
    subst eb
    have : x = .t (.bl b) := by
      unfold dT at e
      cases e2 : d r G with
      | ok y G2 =>
        rw [e2] at e
        simp only [bind_ok] at e
        split at e
        · cases e; cases rv; rfl
        · cases e
      | exc _ _ _ _ => rw [e2] at e; cases e
      | stuck => rw [e2] at e; cases e
    subst this
    exact next b G1 m1 H1 e x1 s1 (Sl.ex x1 s sl) (PostS.trans x1 s1 p)
  | exc c ns ds G' =>
    rw [e] at p
    intro da m' H' xs x1 s1 h nb rs
    exact p σ da m' H' xs x1 s1 (Sl.ex x1 s sl) h nb rs
  | stuck => rw [e] at p; exact p
 ); type_of% ?G)
theorem PostS.nx' (s : SR g m H G) (sl : Sl g m G.length H σ r) (p : PostS g W m G.length H E (.nx r G)) : E.nx σ H := p σ m H Ex.refl s sl
theorem Sl.set {n : Nat} (sl : Sl g m n H σ r) {i : Nat} {d : D} {v : V} (rv : RpD g m n n H d v) : Sl g m n H (σ.set i (some v)) (r.set i (some d)) := by
  refine ?G
  exact (by (intro h; exact h) : have h : (type_of% ?G) := (by
  refine ⟨by simp [sl.1], fun j d' e => ?_⟩
  by_cases q : i = j
  · subst q
    have hi : i < r.length := by have := getLt e; simpa using this
    rw [List.getElem?_set_self hi] at e
    cases e
    exact ⟨v, by rw [List.getElem?_set_self (by rw [sl.1]; exact hi)], rv⟩
  · rw [List.getElem?_set_ne q] at e
    obtain ⟨w, e1, q1⟩ := sl.2 j d' e
    exact ⟨w, by rw [List.getElem?_set_ne q]; exact e1, q1⟩
 ); type_of% ?G)
end
def dNext : Dst := fun r G => .nx r G
def dSeq (a b : Dst) : Dst := fun r G => match a r G with
  | .nx r' G' => b r' G'
  | q => q
def dSet (i : Nat) (d : De) : Dst := fun r G => (d r G).thn r fun x G1 => .nx (r.set i (some x)) G1
def dRet (d : De) : Dst := fun r G => (d r G).thn r fun x G1 => .rt x G1
def dRetN : Dst := fun _ G => .rt (.t .non) G
def dDrop (d : De) : Dst := fun r G => (d r G).thn r fun _ G1 => .nx r G1
def dIf (c : De) (a b : Dst) : Dst := fun r G => (dT c r G).thn r fun x G1 => match x with
  | .t (.bl true) => a r G1
  | .t (.bl false) => b r G1
  | _ => .stuck
def dStuck : Dst := fun _ _ => .stuck
section
variable {Z : Zc} {st : Stmt} {rest a b : List Stmt} {t u : Dst} {e c : Expr} {d dc : De} {pos pos' : Pos}
theorem psd_nil : PSDs Z [] dNext := fun X W ok => pssI pss_nil fun D σ H ⟨m, r, G, s, sl, p⟩ => PostS.nx' s sl p
theorem psd_cons (h1 : PSD Z st t) (h2 : PSDs Z rest u) : PSDs Z (st :: rest) (dSeq t u) := by
  refine ?G
  exact (by (intro h; exact h) : have h : (type_of% ?G) := (fun X W ok => by
  refine pssI (pss_cons (h1 X W ok) (h2 X W ok)) fun D σ H ⟨m, r, G, s, sl, p⟩ => ?_
  refine ⟨m, r, G, s, sl, ?_⟩
  unfold dSeq at p
  cases e : t r G with
  | nx r' G' =>
    rw [e] at p
    exact fun σ' m' H' x' s' sl' => ⟨m', r', G', s', sl', PostS.trans x' s' p⟩
  | rt d G' => rw [e] at p; exact p
  | bk r' G' => rw [e] at p; exact p
  | ct r' G' => rw [e] at p; exact p
  | exc c ns ds r' G' => rw [e] at p; exact p
  | stuck => rw [e] at p; exact p
 ); type_of% ?G)
theorem psd_one (h1 : PSD Z st t) : PSDs Z [st] t := fun X W ok => pss_one (h1 X W ok)
/-- a statement that is never reached -/
theorem psd_never : PSD Z st dStuck := fun X W ok => psI ps_never fun D σ H ⟨m, r, G, s, sl, p⟩ => p
theorem psd_expr (h : PD Z e d) (hs : ∀ env, swapsWith e none pos.line env = pure false := by intro _; rfl) : PSD Z (.Expr e pos) (dDrop d) := fun X W ok => by
  refine psI (ps_expr (h X W ok) (hs _)) fun D σ H ⟨m, r, G, s, sl, p⟩ => ?_
  exact tS_bind s sl p fun x G1 v m1 H1 e x1 s1 sl1 rv p1 => PostS.nx' s1 sl1 p1
theorem psd_ret (h : PD Z e d) : PSD Z (.Return (some e) pos) (dRet d) := fun X W ok => by
  refine psI (ps_ret (h X W ok)) fun D σ H ⟨m, r, G, s, sl, p⟩ => ?_
  exact tS_bind s sl p fun x G1 v m1 H1 e x1 s1 sl1 rv p1 => p1 v m1 H1 Ex.refl s1 rv
theorem psd_if (hc : PDT Z c dc) (ha : PSDs Z a t) (hb : PSDs Z b u) : PSD Z (.If c a b pos) (dIf dc t u) := fun X W ok => by
  refine psI (ps_if (hc X W ok) (ha X W ok) (hb X W ok)) fun D σ H ⟨m, r, G, s, sl, p⟩ => ?_
  refine tST_bind s sl p fun k G1 m1 H1 e x1 s1 sl1 p1 => ?_
  cases k with
  | true => exact ⟨m1, r, G1, s1, sl1, p1⟩
  | false => exact ⟨m1, r, G1, s1, sl1, p1⟩
theorem psd_set {i : Nat} {x : Str} (h : PD Z e d) (hi : Z.N[i]? = some x := by rfl) (hx : Loc Z.sc x := by first | exact Or.inl rfl | exact Or.inr rfl)
    (hf : Z.fn x = true ∨ Z.sc.names.lookup x = some .local := by first | exact .inl rfl | exact .inr rfl)
    (hs : ∀ env : Env, env.scope = Z.sc → swapsWith e (some (.Name x pos')) pos.line env = pure false := by intro _ _; rfl) : PSD Z (.Assign [.Name x pos'] e pos) (dSet i d) := by
  refine ?G
  exact (by (intro h; exact h) : have h : (type_of% ?G) := (fun X W ok => by
  refine psI (ps_set (i := i) ok.nd (by rw [ok.N]; exact hi) (by rw [ok.sc]; exact hx) (h X W ok) (hs _ ok.sc) (by rw [ok.fn, ok.sc]; exact hf)) fun D σ H ⟨m, r, G, s, sl, p⟩ => ?_
  exact tS_bind s sl p fun x G1 v m1 H1 e x1 s1 sl1 rv p1 => p1 _ m1 H1 Ex.refl s1 (sl1.set rv)
 ); type_of% ?G)
/-! ### two names at once -/
def dPar (i j : Nat) (a b : De) : Dst := fun r G => (a r G).thn r fun x G1 => (b r G1).thn r fun y G2 => .nx ((r.set i (some x)).set j (some y)) G2
end
end BL

set_option Elab.async false
set_option linter.all false
set_option maxRecDepth 100000
set_option maxHeartbeats 1000000
namespace BL
open PySem L2

/-! ### what is walked: items that are values or pairs of values -/
inductive Im where
  | one (d : D) | two (a b : D)
/-- what a walk leaves as it is: the located list, if it is one -/
abbrev Kp := Option (Nat × O)
inductive Ri where
  | ok (its : List Im) (kp : Kp) (G : Hs) | exc (c : Nat) (ns : List Str) (ds : List D) (G : Hs) | stuck
abbrev Di := Ev → Hs → Ri
def kpOk (kp : Kp) (G : Hs) : Prop := ∀ i o, kp = some (i, o) → G[i]? = some o
def ImR (g : Gm) (m : Nat → Addr) (n : Nat) (H : Hp) : Im → V → Prop
  | .one d, v => RpD g m n n H d v
  | .two a b, v => ∃ p x y, v = .ref p ∧ H p = some (.tup [x, y]) ∧ RpD g m n n H a x ∧ RpD g m n n H b y
/-- J gives the items, as long as what is walked stands -/
def Wk (g : Gm) (m : Nat → Addr) (n : Nat) (H : Hp) (J : It) (its : List Im) (kp : Kp) : Prop :=
  ∀ rv i m2 H2 G2, (∀ a, a ∈ rv → a ∈ g.rv ∨ H a = none) → SR (g.rvd rv) m2 H2 G2 → Exr g m n H m2 G2.length H2 → kpOk kp G2 →
    (i = its.length → J.stop i H2) ∧ (∀ im, its[i]? = some im → J.go i H2 ∧ ∀ x H3, J.yld i H2 x H3 → Ex m2 G2.length H2 m2 G2.length H3 ∧ SR (g.rvd rv) m2 H3 G2 ∧ ImR (g.rvd rv) m2 G2.length H3 im x)
def PostI (g : Gm) (W : WX) (m : Nat → Addr) (n : Nat) (H : Hp) (σ : St) (R : It → Hp → Prop) : Ri → Prop
  | .ok its kp G' => ∀ J m' H', Ex m n H m' G'.length H' → SR g m' H' G' → kpOk kp G' → its.length ≤ sizeLine → Wk g m' G'.length H' J its kp → R J H'
  | .exc c ns ds G' => ∀ da m' H' xs, Ex m n H m' G'.length H' → SR g m' H' G' → H' da = some (.xd (ns.zip xs)) → ¬ Bd m' G'.length da → RpDs g m' G'.length G'.length H' ds xs → W (.ref (g.ca c)) (some da) σ H'
  | .stuck => False
def tII (g : Gm) (W : WX) (d : Di) : TI := fun σ H R => ∃ m r G, SR g m H G ∧ Sl g m G.length H σ r ∧ PostI g W m G.length H σ R (d r G)
def PDI (Z : Zc) (tg e : Expr) (d : Di) : Prop := ∀ X W, Ok Z X W → PI X tg e (tII Z.g W d)
theorem piI {X : Cx} {tg e : Expr} {t t' : TI} (h : PI X tg e t) (k : ∀ σ H R, t' σ H R → t σ H R) : PI X tg e t' := ⟨fun pins s σ H R I z => h.run pins s σ H R I (k σ H R z)⟩
def Re.itr : Re → (D → Hs → Ri) → Ri
  | .ok d G, k => k d G
  | .exc c ns ds G, _ => .exc c ns ds G
  | .stuck, _ => .stuck
@[simp] theorem itr_ok {d : D} {G : Hs} {k : D → Hs → Ri} : (Re.ok d G).itr k = k d G := rfl
@[simp] theorem itr_exc {c : Nat} {ns : List Str} {ds : List D} {G : Hs} {k : D → Hs → Ri} : (Re.exc c ns ds G).itr k = .exc c ns ds G := rfl
@[simp] theorem itr_stuck {k : D → Hs → Ri} : Re.stuck.itr k = .stuck := rfl
section
variable {g : Gm} {W : WX} {m m1 : Nat → Addr} {n : Nat} {H H1 : Hp} {G G1 : Hs} {σ : St} {R : It → Hp → Prop} {r : Ev}
theorem PostI.trans (x : Ex m n H m1 G1.length H1) (s : SR g m1 H1 G1) {q : Ri} (p : PostI g W m n H σ R q) : PostI g W m1 G1.length H1 σ R q := by
  cases q with
  | ok its kp G' => exact fun J m' H' x' s' k z w => p J m' H' (x.trans s x') s' k z w
  | exc c ns ds G' => exact fun da m' H' xs x' s' h nb r => p da m' H' xs (x.trans s x') s' h nb r
  | stuck => exact p
theorem tII_bind {d : De} {k : D → Hs → Ri} {Q : VK} (s : SR g m H G) (sl : Sl g m G.length H σ r) (p : PostI g W m G.length H σ R ((d r G).itr k))
    (next : ∀ x G1 v m1 H1, d r G = .ok x G1 → Ex m G.length H m1 G1.length H1 → SR g m1 H1 G1 → Sl g m1 G1.length H1 σ r → RpD g m1 G1.length G1.length H1 x v → PostI g W m1 G1.length H1 σ R (k x G1) → Q v H1) : tI g W d σ H Q := by
  refine ?G
  exact (by (intro h; exact h) : have h : (type_of% ?G) := (by
  refine ⟨m, r, G, s, sl, ?_⟩
  cases e : d r G with
  | ok x G1 =>
    rw [e] at p
    intro v m1 H1 x1 s1 rv
    exact next x G1 v m1 H1 e x1 s1 (Sl.ex x1 s sl) rv (PostI.trans x1 s1 p)
  | exc c ns ds G' => rw [e] at p; exact p
  | stuck => rw [e] at p; exact p
 ); type_of% ?G)
end
/-! ### lists and tuples -/
def kpOf (G : Hs) : D → Kp
  | .loc i => match G[i]? with
    | some o => some (i, o)
    | none => none
  | _ => none
def iL (d : De) : Di := fun r G => (d r G).itr fun x G1 => match asL G1 x with
  | some ds => .ok (ds.map Im.one) (kpOf G1 x) G1
  | none => .stuck
def iT (d : De) : Di := fun r G => (d r G).itr fun x G1 => match asT x with
  | some ds => .ok (ds.map Im.one) none G1
  | none => .stuck
theorem kpOf_ok {G : Hs} {x : D} : kpOk (kpOf G x) G := by
  intro i o e
  cases x with
  | t t => cases e
  | loc j =>
    cases q : G[j]? with
    | none => simp [kpOf, q] at e
    | some o' =>
      simp [kpOf, q] at e
      obtain ⟨rfl, rfl⟩ := e
      exact q
theorem asL_kp {G G2 : Hs} {x : D} {ds : List D} (e : asL G x = some ds) (k : kpOk (kpOf G x) G2) : asL G2 x = some ds := by
  cases x with
  | t t => cases t <;> exact e
  | loc j =>
    cases q : G[j]? with
    | none => simp [asL, q] at e
    | some o =>
      have := k j o (by simp [kpOf, q])
      simp only [asL, q] at e
      simp only [asL, this]
      exact e
section
variable {g : Gm} {m : Nat → Addr} {n : Nat} {H : Hp} {G : Hs}
theorem wk_list (s : SR g m H G) {x : D} {a : Addr} {ds : List D} (rx : RpD g m G.length G.length H x (.ref a)) (e : asL G x = some ds) : Wk g m G.length H (Itl g.K a) (ds.map Im.one) (kpOf G x) := by
  refine ?G
  exact (by (intro h; exact h) : have h : (type_of% ?G) := (by
  intro rv i m2 H2 G2 hrv s2 x2 k2
  obtain ⟨a', xs, ea, h, r⟩ := asL_rp s2 (RpD.mv (Exr.mv x2 s hrv) x2.le (Nat.le_refl _) rx) (asL_kp e k2)
  cases ea
  refine ⟨fun hi => ⟨xs, h, by have hi := Nat.le_of_eq hi.symm; rw [← r.length]; simpa using hi⟩, fun im hi => ?_⟩
  rw [List.getElem?_map] at hi
  cases hd : ds[i]? with
  | none => rw [hd] at hi; cases hi
  | some d =>
    rw [hd] at hi
    cases hi
    obtain ⟨v, ev, rv⟩ := r.get hd
    refine ⟨⟨xs, v, h, ev⟩, fun y H3 ⟨e3, q⟩ => ?_⟩
    subst e3
    have := q xs h
    rw [ev] at this
    cases this
    exact ⟨Ex.refl, s2, rv⟩
 ); type_of% ?G)
theorem wk_tup (s : SR g m H G) {x : D} {a : Addr} {ds : List D} (rx : RpD g m G.length G.length H x (.ref a)) (e : asT x = some ds) : Wk g m G.length H (Itt g.K a) (ds.map Im.one) none := by
  refine ?G
  exact (by (intro h; exact h) : have h : (type_of% ?G) := (by
  intro rv i m2 H2 G2 hrv s2 x2 k2
  obtain ⟨a', xs, ea, h, r⟩ := asT_rp (RpD.mv (Exr.mv x2 s hrv) x2.le (Nat.le_refl _) rx) e
  cases ea
  refine ⟨fun hi => ⟨xs, h, by have hi := Nat.le_of_eq hi.symm; rw [← r.length]; simpa using hi⟩, fun im hi => ?_⟩
  rw [List.getElem?_map] at hi
  cases hd : ds[i]? with
  | none => rw [hd] at hi; cases hi
  | some d =>
    rw [hd] at hi
    cases hi
    obtain ⟨v, ev, rv⟩ := r.get hd
    refine ⟨⟨xs, v, h, ev⟩, fun y H3 ⟨e3, q⟩ => ?_⟩
    subst e3
    have := q xs h
    rw [ev] at this
    cases this
    exact ⟨Ex.refl, s2, rv⟩
 ); type_of% ?G)
end
section
variable {Z : Zc} {tg e a b : Expr} {d da db : De} {p pos : Pos}
/-! ### a list or a tuple, by the value: the walk of either -/
/-- two rules for one walk -/
theorem PI.or {X : Cx} {t u : TI} (h1 : PI X tg e t) (h2 : PI X tg e u) : PI X tg e (fun σ H R => t σ H R ∨ u σ H R) := ⟨fun pins s σ H R I z => z.elim (h1.run pins s σ H R I) (h2.run pins s σ H R I)⟩
def iS (d : De) : Di := fun r G => (d r G).itr fun x G1 => match asT x with
  | some ds => .ok (ds.map Im.one) none G1
  | none => match asL G1 x with
    | some ds => .ok (ds.map Im.one) (kpOf G1 x) G1
    | none => .stuck
theorem pdi_seq (h : PD Z e d) : PDI Z tg e (iS d) := by
  refine ?G
  exact (by (intro h; exact h) : have h : (type_of% ?G) := (fun X W ok => by
  refine piI (PI.or (pi_tup (h X W ok)) (pi_list (h X W ok))) fun σ H R ⟨m, r, G, s, sl, p⟩ => ?_
  unfold iS at p
  cases ex : d r G with
  | stuck => rw [ex] at p; exact p.elim
  | exc c ns ds G' =>
    rw [ex] at p
    exact .inl ⟨m, r, G, s, sl, by rw [ex]; exact p⟩
  | ok x G1 =>
    rw [ex] at p
    simp only [itr_ok] at p
    cases q : asT x with
    | some ds =>
      rw [q] at p
      refine .inl ⟨m, r, G, s, sl, ?_⟩
      rw [ex]
      intro v m1 H1 x1 s1 rv
      obtain ⟨a, xs, rfl, h, r'⟩ := asT_rp rv q
      rw [ok.Kg]
      exact ⟨a, rfl, ⟨xs, h⟩, p _ m1 H1 x1 s1 (fun _ _ z => nomatch z) (by rw [List.length_map, r'.length]; exact s1.szT h) (wk_tup s1 rv q)⟩
    | none =>
      rw [q] at p
      simp only at p
      refine .inr ⟨m, r, G, s, sl, ?_⟩
      rw [ex]
      intro v m1 H1 x1 s1 rv
      cases q2 : asL G1 x with
      | none => rw [q2] at p; exact p.elim
      | some ds =>
        rw [q2] at p
        obtain ⟨a, xs, rfl, h, r'⟩ := asL_rp s1 rv q2
        rw [ok.Kg]
        exact ⟨a, rfl, ⟨xs, h⟩, p _ m1 H1 x1 s1 kpOf_ok (by rw [List.length_map, r'.length]; exact s1.szL h) (wk_list s1 rv q2)⟩
 ); type_of% ?G)
/-! ### ranges -/
def intIms (lo : Int) (n : Nat) : List Im := (List.range n).map fun i : Nat => Im.one (.t (.int (lo + (i : Int))))
def iR1 (d : De) : Di := fun r G => (d r G).itr fun x G1 => match x with
  | .t (.int j) => if -(2 ^ 62) ≤ j ∧ j ≤ 16777216 then .ok (intIms 0 j.toNat) none G1 else .stuck
  | _ => .stuck
def iR2 (a b : De) : Di := fun r G => (a r G).itr fun x G1 => (b r G1).itr fun y G2 => match x, y with
  | .t (.int i), .t (.int j) => if -(2 ^ 62) ≤ i ∧ i < 2 ^ 62 ∧ -(2 ^ 62) ≤ j ∧ j < 2 ^ 62 ∧ j - i ≤ 16777216 then .ok (intIms i (j - i).toNat) none G2 else .stuck
  | _, _ => .stuck
theorem wk_range {g : Gm} {m : Nat → Addr} {n : Nat} {H : Hp} {lo : Int} {k : Nat} : Wk g m n H (Itr lo k) (intIms lo k) none := by
  refine ?G
  exact (by (intro h; exact h) : have h : (type_of% ?G) := (by
  intro rv i m2 H2 G2 hrv s2 x2 k2
  refine ⟨fun hi => show k ≤ i by have hi := Nat.le_of_eq hi.symm; simpa [intIms] using hi, fun im hi => ?_⟩
  have hk : i < k := by have := getLt hi; simpa [intIms] using this
  refine ⟨hk, fun y H3 ⟨e3, ey⟩ => ?_⟩
  subst e3; subst ey
  have : im = .one (.t (.int (lo + i))) := by
    simp only [intIms, List.getElem?_map, List.getElem?_range hk] at hi
    exact (Option.some.inj hi).symm
  subst this
  exact ⟨Ex.refl, s2, rfl⟩
 ); type_of% ?G)
theorem pdi_range1 (hm : Z.mg "range" = none) (h : PD Z a da) (hg : GlS Z "range" := by rfl) (hs : ∀ env, starEach [a] env = [(false, eval a env)] := by intro _; rfl) : PDI Z tg (.Call (.Name "range" p) [a] [] pos) (iR1 da) := by
  refine ?G
  exact (by (intro h; exact h) : have h : (type_of% ?G) := (fun X W ok => by
  refine piI (pi_range1 (ta := tCons (tI Z.g W da) tNil) (show X.env.scope.names.lookup _ = _ by rw [ok.sc]; exact hg) (by rw [ok.mg]; exact hm) (pa_cons (h X W ok) pa_nil (hs _)) (hs _)) fun σ H R ⟨m, r, G, s, sl, p⟩ => ?_
  refine tII_bind s sl p fun x G1 v m1 H1 e x1 s1 sl1 rv p1 => ?_
  split at p1
  · split at p1
    · rename_i j hj
      cases rv
      exact ⟨j, rfl, hj.1, by have := hj.2; omega, p1 _ m1 H1 Ex.refl s1 (fun _ _ z => nomatch z) (by have := hj.2; simp only [intIms, List.length_map, List.length_range]; show j.toNat ≤ 16777216; omega) wk_range⟩
    · exact p1.elim
  · exact p1.elim
 ); type_of% ?G)
/-! ### a text, sign by sign -/
def iStr' (d : De) : Di := fun r G => (d r G).itr fun x G1 => match x with
  | .t (.str z) => if z.length ≤ sizeLine then .ok (z.cps.toList.map fun c => Im.one (.t (.str ⟨#[c]⟩))) none G1 else .stuck
  | _ => .stuck
end
end BL

set_option Elab.async false
set_option linter.all false
set_option maxRecDepth 100000
set_option maxHeartbeats 1000000
namespace BL
open PySem L2

/-! ### targets -/
abbrev Tg := Im → Ev → Option Ev
def PDG (Z : Zc) (target : Expr) (is : List Nat) (td : Tg) : Prop := ∃ gt : TG, (∀ X W, Ok Z X W → PG X target gt) ∧
  ∀ (g : Gm) (m : Nat → Addr) (n : Nat) (H : Hp) (σ : St) (r r' : Ev) (im : Im) (v : V) (Q : St → Hp → Prop), g.K = Z.K → Sl g m n H σ r → ImR g m n H im v → td im r = some r' →
    (∀ σ', σ'.length = σ.length → (∀ j, j ∉ is → σ'[j]? = σ[j]?) → Sl g m n H σ' r' → Q σ' H) → gt v σ H Q
def gN (i : Nat) : Tg := fun im r => match im with
  | .one d => some (r.set i (some d))
  | .two (.t a) (.t b) => some (r.set i (some (.t (.tup [a, b]))))
  | _ => none
def gNN (i j : Nat) : Tg := fun im r => match im with
  | .two a b => some ((r.set i (some a)).set j (some b))
  | .one (.t (.tup [a, b])) => some ((r.set i (some (.t a))).set j (some (.t b)))
  | _ => none
section
variable {Z : Zc} {pos px py : Pos} {kt : Nat}
theorem pdg_name {i : Nat} {x : Str} (hi : Z.N[i]? = some x := by rfl) (hx : Loc Z.sc x := by first | exact Or.inl rfl | exact Or.inr rfl)
    (hf : Z.fn x = true ∨ Z.sc.names.lookup x = some .local := by first | exact .inl rfl | exact .inr rfl) : PDG Z (.Name x pos) [i] (gN i) := by
  refine ?G
  exact (by (intro h; exact h) : have h : (type_of% ?G) := (by
  refine ⟨gName i, fun X W ok => pg_name (i := i) ok.nd (by rw [ok.N]; exact hi) (by rw [ok.sc]; exact hx) (by rw [ok.fn, ok.sc]; exact hf), ?_⟩
  intro g m n H σ r r' im v Q hK sl ri e k
  unfold gN at e
  have fin : ∀ d, RpD g m n n H d v → r' = r.set i (some d) → Q (σ.set i (some v)) H := fun d rv er => by
    subst er
    refine k _ (by simp) (fun j hj => ?_) (sl.set rv)
    rw [List.getElem?_set_ne]
    intro q; exact hj (by simp [q])
  split at e
  · cases e; exact fin _ ri rfl
  · cases e
    obtain ⟨p, x, y, rfl, h, ra, rb⟩ := ri
    exact fin (.t (.tup [_, _])) ⟨p, [x, y], rfl, .inl (.inl h), x, [y], rfl, ra, y, [], rfl, rb, rfl⟩ rfl
  · cases e
 ); type_of% ?G)
end
/-! ### for -/
open Classical in
noncomputable def forLoop (td : Tg) (body : Dst) (kp : Kp) : List Im → Ev → Hs → Rs
  | [], r, G => if kpOk kp G then .nx r G else .stuck
  | im :: its, r, G => if kpOk kp G then (match td im r with
    | some r1 => (match body r1 G with
      | .nx r2 G2 => forLoop td body kp its r2 G2
      | .ct r2 G2 => forLoop td body kp its r2 G2
      | .bk r2 G2 => .nx r2 G2
      | q => q)
    | none => .stuck) else .stuck
noncomputable def dFor (di : Di) (td : Tg) (body : Dst) : Dst := fun r G => match di r G with
  | .ok its kp G1 => forLoop td body kp its r G1
  | .exc c ns ds G1 => .exc c ns ds r G1
  | .stuck => .stuck
section
variable {Z : Zc} {tg it c : Expr} {is : List Nat} {body : List Stmt} {di : Di} {td : Tg} {db : Dst} {dc : De} {pos : Pos}
theorem psd_for (hi : PDI Z tg it di) (hg : PDG Z tg is td) (hb : PSDs Z body db) (hs : ∀ env x, foldedSetIterable it env x = pure x := by intro _ _; rfl) : PSD Z (.For tg it body [] pos) (dFor di td db) := by
  refine ?G
  exact (by (intro h; exact h) : have h : (type_of% ?G) := (fun X W ok => by
  obtain ⟨gt, hgt, hg⟩ := hg
  refine psI (ps_for ok.po ok.calm (hi X W ok) (hgt X W ok) (hb X W ok) (hs _)) fun D σ H ⟨m, r, G, s, sl, p⟩ => ?_
  refine ⟨m, r, G, s, sl, ?_⟩
  unfold dFor at p
  cases e : di r G with
  | stuck => rw [e] at p; exact p
  | exc c ns ds G1 =>
    rw [e] at p
    exact fun da m' H' xs x1 s1 h nb rs => p σ da m' H' xs x1 s1 (Sl.ex x1 s sl) h nb rs
  | ok its kp G1 =>
    rw [e] at p
    intro J m1 H1 x1 s1 hk _ hw
    refine ⟨fun i mm σ' H' => ∃ m2 r2 G2, SR Z.g m2 H' G2 ∧ Sl Z.g m2 G2.length H' σ' r2 ∧ Ex m1 G1.length H1 m2 G2.length H' ∧ i ≤ its.length ∧ mm = its.length - i ∧ PostS Z.g W m2 G2.length H' D (forLoop td db kp (its.drop i) r2 G2),
      ⟨its.length, m1, r, G1, s1, Sl.ex x1 s sl, Ex.refl, Nat.zero_le _, rfl, PostS.trans x1 s1 (by simpa using p)⟩, ?_⟩
    rintro i mm σ' H' ⟨m2, r2, G2, s2, sl2, x2, hil, hmm, p2⟩
    by_cases hi : i < its.length
    · right
      have hd : its.drop i = its[i] :: its.drop (i + 1) := List.drop_eq_getElem_cons hi
      rw [hd] at p2
      unfold forLoop at p2
      split at p2
      · rename_i hk2
        obtain ⟨hgo, hy⟩ := (hw Z.g.rv i m2 H' G2 (fun _ z => .inl z) s2 x2.r hk2).2 its[i] (List.getElem?_eq_getElem hi)
        refine ⟨hgo, fun σ3 H3 => ∃ m3 r3 G3, SR Z.g m3 H3 G3 ∧ Sl Z.g m3 G3.length H3 σ3 r3 ∧ Ex m1 G1.length H1 m3 G3.length H3 ∧ PostS Z.g W m3 G3.length H3 D (forLoop td db kp (its.drop (i + 1)) r3 G3), ?_, ?_⟩
        · rintro σ3 H3 ⟨m3, r3, G3, s3, sl3, x3, p3⟩
          exact ⟨its.length - (i + 1), by omega, m3, r3, G3, s3, sl3, x3, hi, rfl, p3⟩
        · intro x H3 hyl
          obtain ⟨x3, s3, ri⟩ := hy x H3 hyl
          cases et : td its[i] r2 with
          | none => rw [et] at p2; exact p2.elim
          | some r3 =>
            rw [et] at p2
            refine hg Z.g m2 G2.length H3 σ' r2 r3 its[i] x _ rfl (Sl.ex x3 s2 sl2) ri et fun σ3 _ _ sl3 => ?_
            refine ⟨m2, r3, G2, s3, sl3, ?_⟩
            have p3 := PostS.trans x3 s3 p2
            simp only at p3
            cases eb : db r3 G2 with
            | nx r4 G4 => rw [eb] at p3; exact fun σ4 m4 H4 x4 s4 sl4 => ⟨m4, r4, G4, s4, sl4, (x2.trans s2 x3).trans s3 x4, PostS.trans x4 s4 p3⟩
            | ct r4 G4 => rw [eb] at p3; exact fun σ4 m4 H4 x4 s4 sl4 => ⟨m4, r4, G4, s4, sl4, (x2.trans s2 x3).trans s3 x4, PostS.trans x4 s4 p3⟩
            | bk r4 G4 => rw [eb] at p3; exact p3
            | rt d G4 => rw [eb] at p3; exact p3
            | exc _ _ _ _ _ => rw [eb] at p3; exact p3
            | stuck => rw [eb] at p3; exact p3
      · exact p2.elim
    · left
      have hl : its.length ≤ i := Nat.le_of_not_lt hi
      rw [List.drop_of_length_le hl] at p2
      unfold forLoop at p2
      split at p2
      · rename_i hk2
        exact ⟨(hw Z.g.rv i m2 H' G2 (fun _ z => .inl z) s2 x2.r hk2).1 (Nat.le_antisymm hil hl), PostS.nx' s2 sl2 p2⟩
      · exact p2.elim
 ); type_of% ?G)
/-! ### while -/
def whileLoop (c : De) (body : Dst) : Nat → Ev → Hs → Rs
  | 0, _, _ => .stuck
  | n + 1, r, G => (dT c r G).thn r fun x G1 => match x with
    | .t (.bl true) => (match body r G1 with
      | .nx r2 G2 => whileLoop c body n r2 G2
      | .ct r2 G2 => whileLoop c body n r2 G2
      | .bk r2 G2 => .nx r2 G2
      | q => q)
    | .t (.bl false) => .nx r G1
    | _ => .stuck
open Classical in
noncomputable def dWhile (c : De) (body : Dst) : Dst := fun r G => if h : ∃ n, whileLoop c body n r G ≠ .stuck then whileLoop c body (Classical.choose h) r G else .stuck
theorem psd_while (hc : PDT Z c dc) (hb : PSDs Z body db) : PSD Z (.While c body [] pos) (dWhile dc db) := by
  refine ?G
  exact (by (intro h; exact h) : have h : (type_of% ?G) := (fun X W ok => by
  refine psI (ps_while ok.po (hc X W ok) (hb X W ok)) fun D σ H ⟨m, r, G, s, sl, p⟩ => ?_
  unfold dWhile at p
  split at p
  · rename_i h
    refine ⟨fun n σ' H' => ∃ m2 r2 G2, SR Z.g m2 H' G2 ∧ Sl Z.g m2 G2.length H' σ' r2 ∧ PostS Z.g W m2 G2.length H' D (whileLoop dc db n r2 G2), ⟨_, m, r, G, s, sl, p⟩, ?_⟩
    rintro n σ' H' ⟨m2, r2, G2, s2, sl2, p2⟩
    cases n with
    | zero => exact p2.elim
    | succ n =>
      refine tST_bind s2 sl2 p2 fun k G3 m3 H3 e x3 s3 sl3 p3 => ?_
      cases k with
      | false => exact PostS.nx' s3 sl3 p3
      | true =>
        refine ⟨fun σ4 H4 => ∃ m4 r4 G4, SR Z.g m4 H4 G4 ∧ Sl Z.g m4 G4.length H4 σ4 r4 ∧ PostS Z.g W m4 G4.length H4 D (whileLoop dc db n r4 G4), ?_, m3, r2, G3, s3, sl3, ?_⟩
        · rintro σ4 H4 ⟨m4, r4, G4, s4, sl4, p4⟩
          exact ⟨n, Nat.lt_succ_self _, m4, r4, G4, s4, sl4, p4⟩
        · simp only at p3
          cases eb : db r2 G3 with
          | nx r4 G4 => rw [eb] at p3; exact fun σ4 m4 H4 x4 s4 sl4 => ⟨m4, r4, G4, s4, sl4, PostS.trans x4 s4 p3⟩
          | ct r4 G4 => rw [eb] at p3; exact fun σ4 m4 H4 x4 s4 sl4 => ⟨m4, r4, G4, s4, sl4, PostS.trans x4 s4 p3⟩
          | bk r4 G4 => rw [eb] at p3; exact p3
          | rt d G4 => rw [eb] at p3; exact p3
          | exc _ _ _ _ _ => rw [eb] at p3; exact p3
          | stuck => rw [eb] at p3; exact p3
  · exact p.elim
 ); type_of% ?G)
end
end BL

set_option Elab.async false
set_option linter.all false
set_option maxRecDepth 100000
set_option maxHeartbeats 1000000
namespace BL
open PySem L2

/-! ### list comprehensions -/
inductive Rc where
  | ok (ds : List D) (G : Hs) | stuck
def wipeE (r : Ev) : List Nat → Ev
  | [] => r
  | v :: vs => (wipeE r vs).set v none
open Classical in
noncomputable def compLoop (td : Tg) (tt elt : De) (kp : Kp) (r : Ev) : List Im → List D → Hs → Rc
  | [], acc, G => if kpOk kp G then .ok acc G else .stuck
  | im :: its, acc, G => if kpOk kp G then (match td im r with
    | some r1 => (match dT tt r1 G with
      | .ok (.t (.bl true)) G2 => (match elt r1 G2 with
        | .ok d G3 => compLoop td tt elt kp r its (acc ++ [d]) G3
        | _ => .stuck)
      | .ok (.t (.bl false)) G2 => compLoop td tt elt kp r its acc G2
      | _ => .stuck)
    | none => .stuck) else .stuck
noncomputable def compRun (own : List Nat) (di : Di) (td : Tg) (tt elt : De) (k : List D → Hs → Re) : De := fun r G => match di r G with
  | .ok its kp G1 => (match compLoop td tt elt kp (wipeE r own) its [] G1 with
    | .ok ds G2 => k ds G2
    | .stuck => .stuck)
  | .exc c ns ds G1 => .exc c ns ds G1
  | .stuck => .stuck
def kLst : List D → Hs → Re := fun ds G => match plain ds with
  | some ts => .ok (.t (.lst ts)) G
  | none => .stuck
def kLstL : List D → Hs → Re := fun ds G => .ok (.loc G.length) (G ++ [.lst ds])
/-- what may be made of the list that a comprehension has filled at Da -/
def FinL (g : Gm) (k : List D → Hs → Re) : Prop := ∀ (W : WX) (m m2 : Nat → Addr) (n : Nat) (H H2 : Hp) (G2 : Hs) (σ : St) (Q : VK) (Da : Addr) (ds : List D) (xs : List V), H Da = none → Da ∉ g.rv → Ex m n H m2 G2.length H2 → SR (g.rvd (Da :: g.rv)) m2 H2 G2 → H2 Da = some (.lst xs) →
  RpDs (g.rvd (Da :: g.rv)) m2 G2.length G2.length H2 ds xs → PostE g W m n H σ Q (k ds G2) → Q (.ref Da) H2
theorem RpDs.less {g : Gm} {m : Nat → Addr} {H : Hp} {G : Hs} (s : SR g m H G) {rv : List Addr} (hr : ∀ a, a ∈ rv → a ∈ g.rv) {ds : List D} {xs : List V} (r : RpDs g m G.length G.length H ds xs) : RpDs (g.rvd rv) m G.length G.length H ds xs :=
  RpDs.mv (Ex.mv Ex.refl s fun a h => .inl (hr a h)) (Nat.le_refl _) (Nat.le_refl _) r
theorem fin_lst {g : Gm} : FinL g kLst := by
  refine ?G
  exact (by (intro h; exact h) : have h : (type_of% ?G) := (by
  intro W m m2 n H H2 G2 σ Q Da ds xs hn hnr x s hD rs p
  unfold kLst at p
  split at p
  · rename_i ts e
    have := plain_some e
    subst this
    have s' : SR g m2 H2 G2 := s.less fun a h => List.mem_cons_of_mem _ h
    have rs' : RpDs g m2 G2.length G2.length H2 (ts.map D.t) xs := RpDs.less s (fun a h => List.mem_cons_of_mem _ h) rs
    refine p _ m2 H2 x s' ⟨Da, xs, rfl, .here hD ?_, rs'.toT⟩
    rintro (q | q)
    · exact (s.rv Da (List.mem_cons_self)).2 q
    · exact hnr q
  · exact p.elim
 ); type_of% ?G)
/-! ### the context of a comprehension's block -/
def Zc.blk (Z : Zc) (scope : Scope) (rv : List Addr) : Zc := { Z with sc := relS scope Z.sc, fn := fun x => scope.names.lookup x == some .cell, rv := rv, av := fun _ _ _ _ => True, own := false }
theorem Ok.blk {Z : Zc} {X : Cx} {W : WX} (ok : Ok Z X W) (s : Shared) (H : Hp) (scope : Scope) (cl : List (Str × Addr)) (C : Addr) (fp : List Addr) (rv : List Addr) : Ok (Z.blk scope rv) (X.blk s H scope (compEnvC scope cl C X.env) fp) (fun _ _ _ _ => False) where
  P := ok.P
  w := ok.w
  K := ok.K
  mg := ok.mg
  base := ok.base
  N := ok.N
  sc := by show relS scope X.env.scope = relS scope Z.sc; rw [ok.sc]
  fn := rfl
  nd := ok.nd
  calm := ok.calm
  tk := LamX.takes0
  po := PassesOwn.never
  rm := ok.rm
  cq := ok.cq
  av := trivial
  st := fun h => nomatch h
theorem wipeE_len (r : Ev) : ∀ vs : List Nat, (wipeE r vs).length = r.length
  | [] => rfl
  | v :: vs => by unfold wipeE; rw [List.length_set, wipeE_len r vs]
theorem wipeE_some {r : Ev} {i : Nat} {x : D} : ∀ {vs : List Nat}, (wipeE r vs)[i]? = some (some x) → r[i]? = some (some x) ∧ i ∉ vs
  | [], h => ⟨h, by simp⟩
  | v :: vs, h => by
    unfold wipeE at h
    by_cases q : v = i
    · subst q
      have hv : v < (wipeE r vs).length := by have := getLt h; simpa using this
      rw [List.getElem?_set_self hv] at h; cases h
    · rw [List.getElem?_set_ne q] at h
      obtain ⟨a, b⟩ := wipeE_some h
      exact ⟨a, by simp [Ne.symm q, b]⟩
theorem Sl.wipe {g : Gm} {m : Nat → Addr} {n : Nat} {H : Hp} {σ : St} {r : Ev} (h : Sl g m n H σ r) (vs : List Nat) : Sl g m n H (L2.wipe σ vs) (wipeE r vs) :=
  ⟨by rw [wipe_length, wipeE_len]; exact h.1, fun i d e => by
    obtain ⟨a, b⟩ := wipeE_some e
    obtain ⟨v, e1, q⟩ := h.2 i d a
    exact ⟨v, by rw [wipe_out b]; exact e1, q⟩⟩
theorem wipe_same {σ σ' : St} (vs is : List Nat) (hl : σ'.length = σ.length) (h : ∀ j, j ∉ is → σ'[j]? = σ[j]?) (hs : ∀ i, i ∈ is → i ∈ vs) : L2.wipe σ' vs = L2.wipe σ vs := by
  refine ?G
  exact (by (intro h; exact h) : have h : (type_of% ?G) := (by
  apply List.ext_getElem?
  intro i
  by_cases q : i ∈ vs
  · have : ∀ τ : St, (L2.wipe τ vs)[i]? = if i < τ.length then some none else none := by
      intro τ
      by_cases hi : i < τ.length
      · rw [if_pos hi]
        have hw : i < (L2.wipe τ vs).length := by rw [wipe_length]; exact hi
        cases e : (L2.wipe τ vs)[i]? with
        | none => rw [List.getElem?_eq_none_iff] at e; omega
        | some o =>
          cases o with
          | none => rfl
          | some v => exact ((wipe_some e).2 q).elim
      · rw [if_neg hi, List.getElem?_eq_none_iff, wipe_length]; omega
    rw [this, this, hl]
  · rw [wipe_out q, wipe_out q]
    exact h i fun z => q (hs i z)
 ); type_of% ?G)
theorem wipe_idem {σ : St} (vs : List Nat) : L2.wipe (L2.wipe σ vs) vs = L2.wipe σ vs := by
  refine ?G
  exact (by (intro h; exact h) : have h : (type_of% ?G) := (by
  apply List.ext_getElem?
  intro i
  by_cases q : i ∈ vs
  · have : ∀ τ : St, (L2.wipe τ vs)[i]? = if i < τ.length then some none else none := by
      intro τ
      by_cases hi : i < τ.length
      · rw [if_pos hi]
        have hw : i < (L2.wipe τ vs).length := by rw [wipe_length]; exact hi
        cases e : (L2.wipe τ vs)[i]? with
        | none => rw [List.getElem?_eq_none_iff] at e; omega
        | some o =>
          cases o with
          | none => rfl
          | some v => exact ((wipe_some e).2 q).elim
      · rw [if_neg hi, List.getElem?_eq_none_iff, wipe_length]; omega
    rw [this, this, wipe_length]
  · rw [wipe_out q]
 ); type_of% ?G)
/-! ### the rule -/
def PDTs (Z : Zc) (ifs : List Expr) (d : De) : Prop := ∀ X W, Ok Z X W → PTs X ifs (tT Z.g W d)
theorem ptsI {X : Cx} {e : List Expr} {t t' : TT} (h : PTs X e t) (k : ∀ σ H Q, t' σ H Q → t σ H Q) : PTs X e t' := ⟨fun pins s σ H Q I z => h.run pins s σ H Q I (k σ H Q z)⟩
abbrev dYes : De := dC (.bl true)
section
variable {Z : Zc} {c : Expr} {dc : De}
theorem pdts_nil : PDTs Z [] dYes := fun X W ok => ptsI pts_nil fun σ H Q ⟨m, r, G, s, sl, p⟩ => PostE.ok (d := .t (.bl true)) s p (v := .bl true) rfl true rfl
theorem pdts_one (h : PDT Z c dc) : PDTs Z [c] dc := fun X W ok => pts_one (h X W ok)
end
def CompPost (g : Gm) (W : WX) (m : Nat → Addr) (n : Nat) (H : Hp) (σ : St) (Q : VK) (k : List D → Hs → Re) : Rc → Prop
  | .ok ds G => PostE g W m n H σ Q (k ds G)
  | .stuck => False
/-- a list or dict is laid to be filled -/
theorem SR.begin {g : Gm} {m : Nat → Addr} {H : Hp} {G : Hs} (s : SR g m H G) {Da : Addr} {o : HO} (hf : fillO o = true) (hz : szOk o) (h : H Da = none) : SR (g.rvd (Da :: g.rv)) m (upd H Da o) G ∧ Mv g m G.length H (g.rvd (Da :: g.rv)) m G.length (upd H Da o) := by
  refine ?G
  exact (by (intro h; exact h) : have h : (type_of% ?G) := (by
  have x : Ex m G.length H m G.length (upd H Da o) := Ex.new h
  have mv : Mv g m G.length H (g.rvd (Da :: g.rv)) m G.length (upd H Da o) := Ex.mv x s fun a ha => by
    rcases List.mem_cons.mp ha with rfl | q
    · exact .inr h
    · exact .inl q
  have s1 := s.new (o := o) h hz
  refine ⟨⟨fun i o e => ?_, s.inj, s1.sz, s1.tb, fun a ha => ?_⟩, mv⟩
  · obtain ⟨u, eu, _⟩ := s.at_ (getLt e)
    exact OR.mv mv (Nat.le_refl _) (getLt e) (upd_ne (ne_of_none eu h)) (s.ob i o e)
  · rcases List.mem_cons.mp ha with rfl | q
    · exact ⟨⟨_, upd_same, hf⟩, fun z => s.bdSome z h⟩
    · exact s1.rv a q
 ); type_of% ?G)
/-- .. is filled further -/
theorem SR.grow {g : Gm} {m : Nat → Addr} {H : Hp} {G : Hs} (s : SR g m H G) {Da : Addr} {o o' : HO} (hD : H Da = some o) (hr : Da ∈ g.rv) (hf : fillO o' = true) (hz : szOk o') : SR g m (upd H Da o') G ∧ Mv g m G.length H g m G.length (upd H Da o') := by
  refine ?G
  exact (by (intro h; exact h) : have h : (type_of% ?G) := (by
  obtain ⟨⟨o1, e1, hf1⟩, nb⟩ := s.rv Da hr
  rw [hD] at e1
  cases e1
  have mv : Mv g m G.length H g m G.length (upd H Da o') := ⟨rfl, fun a o h nb ht => ⟨by rw [upd_ne (fun q => nb (.inr (by rw [q]; exact hr)))]; exact h, nb⟩, fun a zs h => by
    rcases h with (h | ⟨ob, h⟩) | h
    · refine .inl (.inl ?_)
      rw [upd_ne (fun q => by rw [q, hD] at h; cases h; cases hf1)]; exact h
    · refine .inl (.inr ⟨ob, ?_⟩)
      rw [upd_ne (fun q => by rw [q, hD] at h; cases h; cases hf1)]; exact h
    · exact .inr h, fun _ _ => rfl⟩
  refine ⟨⟨fun i o e => OR.mv mv (Nat.le_refl _) (getLt e) (upd_ne (fun q => nb ⟨i, getLt e, q⟩)) (s.ob i o e), s.inj, fun a o e => ?_, ?_, fun a ha => ?_⟩, mv⟩
  · by_cases q : a = Da
    · subst q; rw [upd_same] at e; cases e; exact hz
    · rw [upd_ne q] at e; exact s.sz a o e
  · intro p hp
    obtain ⟨ps, h1, h2, h3⟩ := s.tb p hp
    refine ⟨ps, by rw [upd_ne (fun q => by rw [q, hD] at h1; cases h1; cases hf1)]; exact h1, h2, fun pos cv hc => ?_⟩
    obtain ⟨c, e1, e2⟩ := h3 pos cv hc
    exact ⟨c, e1, by rw [upd_ne (fun q => by rw [q, hD] at e2; cases e2; cases hf1)]; exact e2⟩
  · obtain ⟨⟨o2, e, hf2⟩, nb'⟩ := s.rv a ha
    refine ⟨?_, nb'⟩
    by_cases q : a = Da
    · subst q; exact ⟨o', upd_same, hf⟩
    · exact ⟨o2, by rw [upd_ne q]; exact e, hf2⟩
 ); type_of% ?G)
theorem Ex.grow {m m' : Nat → Addr} {n n' : Nat} {H H' : Hp} {Da : Addr} {o : HO} (x : Ex m n H m' n' H') (hn : H Da = none) : Ex m n H m' n' (upd H' Da o) where
  le := x.le
  tk := x.tk.upd (rd_none hn)
  ag := x.ag
  fr := x.fr
  kp := fun a o h nb ht => by rw [upd_ne (ne_of_none h hn)]; exact x.kp a o h nb ht
section
variable {Z : Zc} {elt tg iter : Expr} {ifs : List Expr} {scope : Scope} {own : List (Str × Nat)} {is : List Nat} {pos : Pos} {di : Di} {td : Tg} {dt de : De} {k : List D → Hs → Re}
theorem PE.some {ι : Type} {X : Cx} {e : Expr} {t : ι → TE} (h : ∀ i, PE X e (t i)) : PE X e (fun σ H Q => ∃ i, t i σ H Q) := ⟨fun pins s σ H Q I ⟨i, z⟩ => (h i).run pins s σ H Q I z⟩
theorem PTs.some {ι : Type} {X : Cx} {e : List Expr} {t : ι → TT} (h : ∀ i, PTs X e (t i)) : PTs X e (fun σ H Q => ∃ i, t i σ H Q) := ⟨fun pins s σ H Q I ⟨i, z⟩ => (h i).run pins s σ H Q I z⟩
/-- the reading of a comprehension, from what the loop over the items gives -/
theorem tLc_of {W : WX} (fin : FinL Z.g k) {gt : TG}
    (hg : ∀ (g : Gm) (m : Nat → Addr) (n : Nat) (H : Hp) (σ : St) (r r' : Ev) (im : Im) (v : V) (Q : St → Hp → Prop), g.K = Z.K → Sl g m n H σ r → ImR g m n H im v → td im r = some r' →
      (∀ σ', σ'.length = σ.length → (∀ j, j ∉ is → σ'[j]? = σ[j]?) → Sl g m n H σ' r' → Q σ' H) → gt v σ H Q)
    {vs : List Nat} (his : ∀ i, i ∈ is → i ∈ vs) {σ : St} {H : Hp} {Q : VK} (h : tI Z.g W (compRun vs di td dt de k) σ H Q) :
    tLc (tII Z.g W di) gt (fun σ H Q => ∃ rv, tT (Z.g.rvd rv) (fun _ _ _ _ => False) dt σ H Q) (fun σ H Q => ∃ rv, tI (Z.g.rvd rv) (fun _ _ _ _ => False) de σ H Q) vs σ H Q := by
  refine ?G
  exact (by (intro h; exact h) : have h : (type_of% ?G) := (by
  obtain ⟨m, r, G, s, sl, p⟩ := h
  refine ⟨m, r, G, s, sl, ?_⟩
  unfold compRun at p
  cases e : di r G with
  | stuck => rw [e] at p; exact p
  | exc c ns ds G1 => rw [e] at p; exact p
  | ok its kp G1 =>
    rw [e] at p
    intro J m1 H1 x1 s1 hk hsz hw Da hDa
    have hnr : Da ∉ Z.g.rv := fun q => by
      obtain ⟨⟨xs, z, _⟩, _⟩ := s1.rv Da q
      rw [hDa] at z; cases z
    obtain ⟨s1', mv1⟩ := s1.begin (o := .lst []) rfl (Nat.zero_le _) hDa
    have p1 : CompPost Z.g W m1 G1.length H1 σ Q k (compLoop td dt de kp (wipeE r vs) its [] G1) := by
      simp only at p
      cases ec : compLoop td dt de kp (wipeE r vs) its [] G1 with
      | stuck => rw [ec] at p; exact p
      | ok ds G2 => rw [ec] at p; exact PostE.trans x1 s1 p
    have sl1 : Sl (Z.g.rvd (Da :: Z.g.rv)) m1 G1.length (upd H1 Da (.lst [])) (wipe σ vs) (wipeE r vs) := Sl.mv mv1 (Nat.le_refl _) ((Sl.ex x1 s sl).wipe vs)
    refine ⟨fun i mm H' => ∃ m2 G2 acc xs, SR (Z.g.rvd (Da :: Z.g.rv)) m2 H' G2 ∧ Sl (Z.g.rvd (Da :: Z.g.rv)) m2 G2.length H' (wipe σ vs) (wipeE r vs) ∧ Ex m1 G1.length H1 m2 G2.length H' ∧ H' Da = some (.lst xs) ∧ RpDs (Z.g.rvd (Da :: Z.g.rv)) m2 G2.length G2.length H' acc xs ∧ acc.length ≤ i ∧
        i ≤ its.length ∧ mm = its.length - i ∧ CompPost Z.g W m1 G1.length H1 σ Q k (compLoop td dt de kp (wipeE r vs) (its.drop i) acc G2),
      ⟨its.length, m1, G1, [], [], s1', sl1, Ex.new hDa, upd_same, rfl, Nat.le_refl _, Nat.zero_le _, rfl, by simpa using p1⟩, ?_⟩
    rintro i mm H' ⟨m2, G2, acc, xs, s2, sl2, x2, hD, rs, hai, hil, hmm, p2⟩
    have hrv : ∀ a, a ∈ Da :: Z.g.rv → a ∈ Z.g.rv ∨ H1 a = none := fun a ha => by
      rcases List.mem_cons.mp ha with rfl | q
      · exact .inr hDa
      · exact .inl q
    by_cases hi : i < its.length
    · right
      have hd : its.drop i = its[i] :: its.drop (i + 1) := List.drop_eq_getElem_cons hi
      rw [hd] at p2
      unfold compLoop at p2
      split at p2
      · rename_i hk2
        obtain ⟨hgo, hy⟩ := (hw (Da :: Z.g.rv) i m2 H' G2 hrv s2 x2.r hk2).2 its[i] (List.getElem?_eq_getElem hi)
        refine ⟨hgo, fun H3 => ∃ m3 G3 acc' xs', SR (Z.g.rvd (Da :: Z.g.rv)) m3 H3 G3 ∧ Sl (Z.g.rvd (Da :: Z.g.rv)) m3 G3.length H3 (wipe σ vs) (wipeE r vs) ∧ Ex m1 G1.length H1 m3 G3.length H3 ∧ H3 Da = some (.lst xs') ∧ RpDs (Z.g.rvd (Da :: Z.g.rv)) m3 G3.length G3.length H3 acc' xs' ∧ acc'.length ≤ i + 1 ∧
            CompPost Z.g W m1 G1.length H1 σ Q k (compLoop td dt de kp (wipeE r vs) (its.drop (i + 1)) acc' G3), ?_, ?_⟩
        · rintro H3 ⟨m3, G3, acc', xs', s3, sl3, x3, hD3, rs3, ha3, p3⟩
          exact ⟨its.length - (i + 1), by omega, m3, G3, acc', xs', s3, sl3, x3, hD3, rs3, ha3, hi, rfl, p3⟩
        · intro x H3 hyl
          obtain ⟨x3, s3, ri⟩ := hy x H3 hyl
          cases et : td its[i] (wipeE r vs) with
          | none => rw [et] at p2; exact p2.elim
          | some r3 =>
            rw [et] at p2
            simp only at p2
            refine hg _ m2 G2.length H3 (wipe σ vs) (wipeE r vs) r3 its[i] x _ rfl (Sl.ex x3 s2 sl2) ri et fun σ3 hl3 ho3 sl3 => ?_
            refine ⟨by rw [wipe_same vs is hl3 ho3 his, wipe_idem], Da :: Z.g.rv, m2, r3, G2, s3, sl3, ?_⟩
            have hD3 : H3 Da = some (.lst xs) := x3.kp _ _ hD (fun z => (s2.rv Da List.mem_cons_self).2 z) (by simp)
            have sl3' : Sl (Z.g.rvd (Da :: Z.g.rv)) m2 G2.length H3 (wipe σ vs) (wipeE r vs) := Sl.ex x3 s2 sl2
            have rs3 : RpDs (Z.g.rvd (Da :: Z.g.rv)) m2 G2.length G2.length H3 acc xs := RpDs.ex x3 s2 x3.le (Nat.le_refl _) rs
            cases eT : dT dt r3 G2 with
            | stuck => rw [eT] at p2; exact p2.elim
            | exc _ _ _ _ => rw [eT] at p2; exact p2.elim
            | ok b G4 =>
              rw [eT] at p2
              intro v m4 H4 x4 s4 rv b' eb
              subst eb
              have hD4 : H4 Da = some (.lst xs) := x4.kp _ _ hD3 (fun z => (s3.rv Da List.mem_cons_self).2 z) (by simp)
              have sl4 := Sl.ex x4 s3 sl3
              have sl4' := Sl.ex x4 s3 sl3'
              have rs4 := RpDs.ex x4 s3 x4.le (Nat.le_refl _) rs3
              split at p2
              · rename_i q
                cases q
                cases rv
                refine ⟨Da :: Z.g.rv, m4, r3, G4, s4, sl4, ?_⟩
                cases eE : de r3 G4 with
                | stuck => rw [eE] at p2; exact p2.elim
                | exc _ _ _ _ => rw [eE] at p2; exact p2.elim
                | ok d G5 =>
                  rw [eE] at p2
                  simp only at p2
                  intro y m5 H5 x5 s5 ry
                  have hD5 : H5 Da = some (.lst xs) := x5.kp _ _ hD4 (fun z => (s4.rv Da List.mem_cons_self).2 z) (by simp)
                  have hz : xs.length < sizeLine := by
                    rw [← rs.length]; omega
                  have hz' : (xs ++ [y]).length ≤ sizeLine := by rw [List.length_append]; exact hz
                  obtain ⟨s6, mv6⟩ := s5.grow (o' := .lst (xs ++ [y])) hD5 List.mem_cons_self rfl hz'
                  refine ⟨xs, hD5, hz, m5, G5, acc ++ [d], xs ++ [y], s6, Sl.mv mv6 (Nat.le_refl _) (Sl.ex x5 s4 sl4'), ?_, upd_same, ?_, ?_, p2⟩
                  · exact Ex.grow (((x2.trans s2 x3).trans s3 x4).trans s4 x5) hDa
                  · exact RpDs.append (RpDs.mv mv6 (Nat.le_refl _) (Nat.le_refl _) (RpDs.ex x5 s4 x5.le (Nat.le_refl _) rs4)) ⟨y, [], rfl, RpD.mv mv6 (Nat.le_refl _) (Nat.le_refl _) ry, rfl⟩
                  · rw [List.length_append]; exact Nat.succ_le_succ hai
              · rename_i q
                cases q
                cases rv
                exact ⟨m4, G4, acc, xs, s4, sl4', (x2.trans s2 x3).trans s3 x4, hD4, rs4, Nat.le_succ_of_le hai, p2⟩
              · exact p2.elim
      · exact p2.elim
    · left
      have hl : its.length ≤ i := Nat.le_of_not_lt hi
      rw [List.drop_of_length_le hl] at p2
      unfold compLoop at p2
      split at p2
      · rename_i hk2
        exact ⟨(hw (Da :: Z.g.rv) i m2 H' G2 hrv s2 x2.r hk2).1 (Nat.le_antisymm hil hl), fin W m1 m2 G1.length H1 H' G2 σ Q Da acc xs hDa hnr x2 s2 hD rs p2⟩
      · exact p2.elim
 ); type_of% ?G)
theorem pd_lc (fin : ∀ g, FinL g k) (hi : PDI Z tg iter di) (hb : BlkOk Z.N Z.sc scope own) (hg : PDG (Z.blk scope []) tg is td) (his : ∀ i, i ∈ is → i ∈ own.map (·.2)) (ht : ∀ rv, PDTs (Z.blk scope rv) ifs dt) (he : ∀ rv, PD (Z.blk scope rv) elt de)
    (hs : ∀ env x, foldedSetIterable iter env x = pure x := by intro _ _; rfl) : PD Z (.ListComp elt [⟨tg, iter, ifs, 0⟩] scope pos) (compRun (own.map (·.2)) di td dt de k) := by
  refine ?G
  exact (by (intro h; exact h) : have h : (type_of% ?G) := (fun X W ok => by
  obtain ⟨gt, hgt, hg⟩ := hg
  refine peI (pe_lc (own := own) (g := gt) ok.calm ok.nd (hi X W ok) (by rw [ok.N, ok.sc]; exact hb) (fun s H C cl fp => hgt _ _ (ok.blk s H scope cl C fp []))
    (fun s H C cl fp => PTs.some fun rv => ht rv _ _ (ok.blk s H scope cl C fp rv)) (fun s H C cl fp => PE.some fun rv => he rv _ _ (ok.blk s H scope cl C fp rv)) (hs _)) fun σ H Q h => ?_
  exact tLc_of (Z := Z) (fin _) hg his h
 ); type_of% ?G)
end
end BL

set_option Elab.async false
set_option linter.all false
set_option maxRecDepth 100000
set_option maxHeartbeats 1000000
namespace BL
open PySem L2

/-! ### what a def gives, by plain data -/
abbrev Fd := List D → Hs → Re
def PostF (g : Gm) (m : Nat → Addr) (n : Nat) (H : Hp) (Q : VK) (E : XK) : Re → Prop
  | .ok x G' => ∀ v m' H', Ex m n H m' G'.length H' → SR g m' H' G' → RpD g m' G'.length G'.length H' x v → Q v H'
  | .exc c ns ds G' => ∀ da m' H' xs, Ex m n H m' G'.length H' → SR g m' H' G' → H' da = some (.xd (ns.zip xs)) → ¬ Bd m' G'.length da → RpDs g m' G'.length G'.length H' ds xs → E (.ref (g.ca c)) (some da) H'
  | .stuck => False
theorem PostF.eq {g : Gm} {W : WX} {m : Nat → Addr} {n : Nat} {H : Hp} {σ : St} {Q : VK} {q : Re} (p : PostE g W m n H σ Q q) : PostF g m n H Q (fun c d H' => W c d σ H') q := by
  cases q with
  | ok d G => exact p
  | exc c ns ds G => exact p
  | stuck => exact p
/-- the promise of a def that gives F -/
def spD (g : Gm) (np : Nat) (F : Fd) : Sp := fun vs H Q E => vs.length = np ∧ ∃ rv m G ds, SR (g.rvd rv) m H G ∧ RpDs (g.rvd rv) m G.length G.length H ds vs ∧ PostF (g.rvd rv) m G.length H Q E (F ds G)
/-- a def that stands at f -/
structure FnD (Z : Zb) (k : Nat) (f : Addr) (fd : FuncData) (ps : List Str) (F : Fd) : Prop where
  ok : FnOk Z.P Z.w Z.K Z.mg Z.base (L2.CX Z.P Z.w) k f fd ps (spD Z.g ps.length F)
  kp : PySem.W.keepIn Z.K (.ref f) = true
theorem FnD.mono {Z : Zb} {k k' : Nat} {f : Addr} {fd : FuncData} {ps : List Str} {F : Fd} (h : FnD Z k f fd ps F) (hk : k ≤ k') : FnD Z k' f fd ps F := ⟨h.ok.mono hk, h.kp⟩
/-- default values: plain data that is written -/
def Dfl (g : Gm0) (ts : List T) (vs : List V) : Prop := ∀ B H, Rps g B H ts vs
theorem dfl_nil {g : Gm0} : Dfl g [] [] := fun _ _ => rfl
section
variable {Z : Zc} {x : Str} {e : Expr} {es : List Expr} {das : List De} {F : Fd} {k : Nat} {f : Addr} {fd : FuncData} {ps : List Str} {dts : List T} {dvs : List V} {dus : List Value} {p pos : Pos}
theorem sp_of {X : Cx} {W : WX} (ok : Ok Z X W) {m : Nat → Addr} {H : Hp} {G : Hs} {σ : St} {Q : VK} {ds : List D} {vs : List V} {n : Nat} (hn : ds.length + dts.length = n) (hd : Dfl Z.g.toGm0 dts dvs) (s : SR Z.g m H G) (rs : RpDs Z.g m G.length G.length H ds vs)
    (p : PostE Z.g W m G.length H σ Q (F (ds ++ dts.map D.t) G)) : spD Z.g n F (vs ++ dvs) H Q (fun c d H' => W c d σ H') := by
  have rd : RpDs Z.g m G.length G.length H (dts.map D.t) dvs := RpDs.ofT (hd _ _)
  refine ⟨?_, Z.g.rv, m, G, ds ++ dts.map D.t, s, RpDs.append rs rd, PostF.eq p⟩
  rw [List.length_append, ← rs.length, ← rd.length, List.length_map]; exact hn
theorem pd_call (h : FnD Z.toZb k f fd ps F) (hk : k ≤ Z.k) (hm : Z.mg x = some (.ref f)) (hb : Binds Z.K fd ps dus) (hv : Vals dvs dus) (hd : Dfl Z.g.toGm0 dts dvs) (ha : PDA Z (e :: es) das) (hn : das.length + dts.length = ps.length) (hg : GlS Z x := by rfl)
    (hdb : (x == ("__debug__" : Str)) = false := by decide) (he : ∀ env, starEach (e :: es) env = (false, eval e env) :: starEach es env := by intro _; rfl) (hpl : ∀ env, (backTo pos (starEach es env)).any (·.1) = false := by intro _; rfl) :
    PD Z (.Call (.Name x p) (e :: es) [] pos) (dArgs das fun ds G => F (ds ++ dts.map D.t) G) := by
  refine ?G
  exact (by (intro h; exact h) : have h : (type_of% ?G) := (fun X W ok => by
  refine peI (pe_callSD (X := X) (CX := L2.CX X.prog X.w) (k := k) (f := f) (fd := fd) (ps := ps) (sp := spD Z.g ps.length F) (dvs := dvs) (ds := dus) (E := fun σ c d H' => W c d σ H') (by rw [ok.P, ok.w, ok.K, ok.mg, ok.base]; exact h.ok) (ok.rm.mono hk) (show X.env.scope.names.lookup x = _ by rw [ok.sc]; exact hg) (by rw [ok.mg]; exact hm) (by rw [ok.K]; exact h.kp) (by rw [ok.K]; exact hb) hv (fun σ => passAt ok.tk σ) (ha X W ok) hdb (he _) (hpl _)) fun σ H Q ⟨m, r, G, s, sl, p⟩ => ?_
  refine tA_of s sl p fun ds G1 vs m1 H1 x1 s1 sl1 rs hl p1 => ?_
  exact sp_of ok (by rw [hl]; exact hn) hd s1 rs p1
 ); type_of% ?G)
end
/-! ### a def by its body -/
def startE (n : Nat) (ds : List D) : Ev := ds.map some ++ List.replicate (n - ds.length) none
/-- a value as plain data, what it names looked up -/
def frz (G : Hs) : D → Option T
  | .t x => some x
  | .loc i => match G[i]? with
    | some (.lst ds) => (plain ds).map T.lst
    | some (.dk kvs) => (plain (kvs.map (·.2))).map (T.dk (kvs.map (·.1)))
    | some (.ins c fs) => (plain (fs.map (·.2))).map (T.obj c (fs.map (·.1)))
    | some (.nd kvs) => (plain (kvs.map (·.2))).map (T.nd (kvs.map (·.1)))
    | _ => none
def popD (n : Nat) (d : D) (G : Hs) : Option D := match d with
  | .t x => some (.t x)
  | .loc i => if i < n then some (.loc i) else (frz G (.loc i)).map D.t
def popDs (n : Nat) : List D → Hs → Option (List D)
  | [], _ => some []
  | d :: ds, G => match popD n d G, popDs n ds G with
    | some e, some es => some (e :: es)
    | _, _ => none
/-- what a body's end gives: the locations that the body made are forgotten -/
noncomputable def endPop (G0 : Hs) : Rs → Re := open Classical in fun s => match s with
  | .rt d G => if Cl G0 G then (match popD G0.length d G with
    | some e => .ok e (G.take G0.length)
    | none => .stuck) else .stuck
  | .nx _ G => if Cl G0 G then .ok (.t .non) (G.take G0.length) else .stuck
  | .exc c ns ds _ G => if Cl G0 G then (match popDs G0.length ds G with
    | some es => .exc c ns es (G.take G0.length)
    | none => .stuck) else .stuck
  | _ => .stuck
/-- .. are kept -/
def endKeep : Rs → Re
  | .rt d G => .ok d G
  | .nx _ G => .ok (.t .non) G
  | .exc c ns ds _ G => .exc c ns ds G
  | _ => .stuck
noncomputable def runPop (n : Nat) (b : Dst) : Fd := fun ds G => endPop G (b (startE n ds) G)
def runKeep (n : Nat) (b : Dst) : Fd := fun ds G => endKeep (b (startE n ds) G)
section
variable {g : Gm} {m : Nat → Addr} {H : Hp} {G : Hs}
theorem frz_rp (s : SR g m H G) {n i : Nat} {t : T} {v : V} (hn : n ≤ i) (r : RpD g m G.length G.length H (.loc i) v) (e : frz G (.loc i) = some t) : Rp g.toGm0 (Bv g m n) H t v := by
  refine ?G
  exact (by (intro h; exact h) : have h : (type_of% ?G) := (by
  obtain ⟨hi, rfl⟩ := r
  have nb : ¬ Bv g m n (m i) := fun q => by
    rcases q with ⟨j, hj, ej⟩ | q
    · have := s.inj j i (by omega) hi ej
      omega
    · exact (s.rv _ q).2 ⟨i, hi, rfl⟩
  have mo : ∀ a, Bv g m n a → Bv g m G.length a := fun a q => q.elim (fun z => .inl (Bd.mono (by omega) z)) .inr
  cases q : G[i]? with
  | none => simp [frz, q] at e
  | some o =>
    cases o with
    | lst ds =>
      simp [frz, q] at e
      obtain ⟨ts, e1, rfl⟩ := e
      have := plain_some e1
      subst this
      obtain ⟨xs, h, r⟩ := s.ob i _ q
      exact ⟨_, xs, rfl, .here h nb, Rps.fewer mo _ _ r.toT⟩
    | dk kvs =>
      simp [frz, q] at e
      obtain ⟨ts, e1, rfl⟩ := e
      have := plain_some e1
      obtain ⟨xs, h, r⟩ := s.ob i _ q
      rw [this] at r
      have hl := r.length
      have hl2 : ts.length = kvs.length := by have := congrArg List.length this; simpa using this.symm
      refine ⟨_, xs, rfl, h, by rw [← hl]; simp [hl2], nb, Rps.fewer mo _ _ r.toT⟩
    | ins c fs =>
      simp [frz, q] at e
      obtain ⟨ts, e1, rfl⟩ := e
      have := plain_some e1
      obtain ⟨dx, xs, h, r⟩ := s.ob i _ q
      rw [this] at r
      have hl := r.length
      have hl2 : ts.length = fs.length := by have := congrArg List.length this; simpa using this.symm
      refine ⟨_, dx, xs, rfl, h, by rw [← hl]; simp [hl2], nb, Rps.fewer mo _ _ r.toT⟩
    | flst ts => simp [frz, q] at e
    | tpl ds => simp [frz, q] at e
    | fdk kvs => simp [frz, q] at e
    | fnd kvs => simp [frz, q] at e
    | fn ds => simp [frz, q] at e
    | nd kvs =>
      simp [frz, q] at e
      obtain ⟨ts, e1, rfl⟩ := e
      have := plain_some e1
      obtain ⟨ep, es, h, hk, r0, r⟩ := s.ob i _ q
      rw [this] at r
      exact ⟨_, ep, es, rfl, h, nb, by rw [List.map_map]; exact hk, Rps.fewer mo _ _ r0, Rps.fewer mo _ _ r.toT⟩
 ); type_of% ?G)
theorem popD_rp (s : SR g m H G) {n : Nat} (hn : n ≤ G.length) {d e : D} {v : V} (r : RpD g m G.length G.length H d v) (h : popD n d G = some e) : RpD g m n n H e v := by
  cases d with
  | t x => cases h; exact RpD.pop hn r
  | loc i =>
    simp only [popD] at h
    split at h
    · cases h; exact ⟨by assumption, r.2⟩
    · rename_i hi
      cases q : frz G (.loc i) with
      | none => rw [q] at h; cases h
      | some t => rw [q] at h; cases h; exact frz_rp s (Nat.le_of_not_lt hi) r q
theorem popDs_rp (s : SR g m H G) {n : Nat} (hn : n ≤ G.length) : ∀ {ds es : List D} {vs : List V}, RpDs g m G.length G.length H ds vs → popDs n ds G = some es → RpDs g m n n H es vs
  | [], es, vs, r, h => by cases h; exact r
  | d :: ds, es, vs, ⟨v, ws, e, rd, r⟩, h => by
    unfold popDs at h
    split at h
    · rename_i e1 es1 q1 q2
      cases h
      exact ⟨v, ws, e, popD_rp s hn rd q1, popDs_rp s hn r q2⟩
    · cases h
theorem take_len {n : Nat} (hn : n ≤ G.length) : (G.take n).length = n := by rw [List.length_take]; exact Nat.min_eq_left hn
theorem Ex.popped {m0 : Nat → Addr} {n : Nat} {H0 : Hp} (x : Ex m0 n H0 m G.length H) : Ex m0 n H0 m n H := ⟨Nat.le_refl _, x.tk, x.ag, fun i h1 h2 => absurd h2 (Nat.not_lt.mpr h1), x.kp⟩
end
/-- a def's own context -/
def Zc.dfn (Z : Zc) (N : List Str) (sc : Scope) (k : Nat) (rv : List Addr) : Zc := { Z with N := N, sc := sc, fn := fun _ => true, k := k, rv := rv, cq := none, av := fun _ _ _ _ => True, own := true }
section
variable {Z : Zc} {x qual : Str} {st : Stmt} {f : Addr} {fd : FuncData} {N ps : List Str} {k : Nat} {db : Dst}
theorem Ok.dfn {cdv : Value} {A : Around} {outer : List Env} {s : Shared} {H : Hp} {E : XK} (S : FnScope N ps (defScope st)) (hr : Room k (A.deeper (PyProof.Rows.envOfC qual (defScope st) s.heap.objs.size f cdv))) (rv : List Addr) :
    Ok (Z.dfn N (defScope st) k rv) (cxOf (L2.CX Z.P Z.w) Z.P Z.w Z.K Z.mg Z.base N qual (defScope st) f cdv A outer s H E) (fun cls d _ H => E cls d H) where
  P := rfl
  w := rfl
  K := rfl
  mg := rfl
  base := rfl
  N := rfl
  sc := rfl
  fn := rfl
  nd := S.nd
  calm := rfl
  tk := takes_of rfl rfl rfl rfl
  po := passes_of rfl
  rm := hr
  cq := fun c q h => nomatch h
  av := trivial
  st := fun _ => ⟨rfl, rfl⟩
theorem start_sl {g : Gm} {m : Nat → Addr} {n : Nat} {H : Hp} {ds : List D} {vs : List V} (r : RpDs g m n n H ds vs) : Sl g m n H (L2.start N vs) (startE N.length ds) := by
  refine ?G
  exact (by (intro h; exact h) : have h : (type_of% ?G) := (by
  have hl := r.length
  refine ⟨by simp [L2.start, startE, hl], fun i d e => ?_⟩
  unfold startE at e
  by_cases hi : i < ds.length
  · rw [List.getElem?_append_left (by simpa using hi), List.getElem?_map] at e
    cases hd : ds[i]? with
    | none => rw [hd] at e; cases e
    | some d' =>
      rw [hd] at e
      cases e
      obtain ⟨v, ev, rv⟩ := r.get hd
      refine ⟨v, ?_, rv⟩
      unfold L2.start
      rw [List.getElem?_append_left (by rw [List.length_map, ← hl]; exact hi), List.getElem?_map, ev]
      rfl
  · rw [List.getElem?_append_right (by simpa using Nat.le_of_not_lt hi), List.getElem?_replicate] at e
    split at e
    · cases e
    · cases e
 ); type_of% ?G)
end
end BL

set_option Elab.async false
set_option linter.all false
set_option maxRecDepth 100000
set_option maxHeartbeats 1000000
namespace BL
open PySem L2

/-! ### o.f -/
def zipLk {α : Type} (f : Str) : List Str → List α → Option α
  | n :: ns, x :: xs => if n = f then some x else zipLk f ns xs
  | _, _ => none
/-- the class and the attribute -/
def fFld (cs : List Nat) (f : Str) : D → Hs → Re := fun x G => match x with
  | .t (.obj c ns ts) => if cs.contains c = true then (match zipLk f ns ts with
    | some t => .ok (.t t) G
    | none => .stuck) else .stuck
  | .loc i => (match G[i]? with
    | some (.ins c fs) => if cs.contains c = true then (match zipLk f (fs.map (·.1)) (fs.map (·.2)) with
      | some d => .ok d G
      | none => .stuck) else .stuck
    | _ => .stuck)
  | _ => .stuck
def dUn (f : D → Hs → Re) (a : De) : De := fun r G => (a r G).bind f
theorem zipLk_lookup {f : Str} : ∀ {ns : List Str} {xs : List V} {g : Gm0} {B : Addr → Prop} {H : Hp} {ts : List T} {t : T}, Rps g B H ts xs → zipLk f ns ts = some t → ∃ v, (ns.zip xs).lookup f = some v ∧ Rp g B H t v
  | [], xs, g, B, H, ts, t, r, e => by cases ts <;> cases e
  | n :: ns, xs, g, B, H, [], t, r, e => by cases e
  | n :: ns, xs, g, B, H, u :: ts, t, ⟨v, ws, ex, h, r⟩, e => by
    subst ex
    unfold zipLk at e
    rw [List.zip_cons_cons, List.lookup_cons]
    split at e
    · rename_i q
      cases e
      subst q
      exact ⟨v, by simp, h⟩
    · rename_i q
      rw [show (f == n) = false from beq_eq_false_iff_ne.mpr (Ne.symm q)]
      exact zipLk_lookup r e
theorem zipLkD_lookup {f : Str} {g : Gm} {m : Nat → Addr} {n0 b : Nat} {H : Hp} : ∀ {ns : List Str} {xs : List V} {ts : List D} {t : D}, RpDs g m n0 b H ts xs → zipLk f ns ts = some t → ∃ v, (ns.zip xs).lookup f = some v ∧ RpD g m n0 b H t v
  | [], xs, ts, t, r, e => by cases ts <;> cases e
  | n :: ns, xs, [], t, r, e => by cases e
  | n :: ns, xs, u :: ts, t, ⟨v, ws, ex, h, r⟩, e => by
    subst ex
    unfold zipLk at e
    rw [List.zip_cons_cons, List.lookup_cons]
    split at e
    · rename_i q
      cases e
      subst q
      exact ⟨v, by simp, h⟩
    · rename_i q
      rw [show (f == n) = false from beq_eq_false_iff_ne.mpr (Ne.symm q)]
      exact zipLkD_lookup r e
theorem fld_rp {g : Gm} {m : Nat → Addr} {H : Hp} {G : Hs} {cs : List Nat} {f : Str} (s : SR g m H G) {x : D} {v : V} {d : D} {G' : Hs} (r : RpD g m G.length G.length H x v) (e : fFld cs f x G = .ok d G') :
    G' = G ∧ ∃ a c dx fs u, v = .ref a ∧ H a = some (.ins (g.ca c) dx fs) ∧ c ∈ cs ∧ fs.lookup f = some u ∧ RpD g m G.length G.length H d u := by
  refine ?G
  exact (by (intro h; exact h) : have h : (type_of% ?G) := (by
  unfold fFld at e
  split at e
  · rename_i c ns ts
    split at e
    · rename_i hc
      obtain ⟨a, dx, xs, rfl, h, l, nb, r⟩ := r
      cases q : zipLk f ns ts with
      | none => rw [q] at e; cases e
      | some t =>
        rw [q] at e
        cases e
        obtain ⟨u, e1, ru⟩ := zipLk_lookup r q
        exact ⟨rfl, a, c, dx, _, u, rfl, h, by simpa using hc, e1, ru⟩
    · cases e
  · rename_i i
    obtain ⟨hi, rfl⟩ := r
    cases q : G[i]? with
    | none => rw [q] at e; cases e
    | some o =>
      rw [q] at e
      cases o with
      | ins c fs =>
        simp only at e
        split at e
        · rename_i hc
          obtain ⟨dx, xs, h, r⟩ := s.ob i _ q
          cases q2 : zipLk f (fs.map (·.1)) (fs.map (·.2)) with
          | none => rw [q2] at e; cases e
          | some t =>
            rw [q2] at e
            cases e
            obtain ⟨u, e1, ru⟩ := zipLkD_lookup r q2
            exact ⟨rfl, _, c, dx, _, u, rfl, h, by simpa using hc, e1, ru⟩
        · cases e
      | lst _ => cases e
      | dk _ => cases e
      | flst _ => cases e
      | tpl _ => cases e
      | nd _ => cases e
      | fnd _ => cases e
      | fdk _ => cases e
      | fn _ => cases e
  · cases e
 ); type_of% ?G)
section
variable {Z : Zc} {o : Expr} {d : De} {f : Str} {cs : List Nat} {pos pos' : Pos}
theorem pd_fld (h : PD Z o d) (hc : ∀ c, c ∈ cs → Cls Z.K (Z.ca c) ∧ NoAttr Z.K (Z.ca c) f) (hb : ∀ env, attributeBase o f env (eval o env) = eval o env := by intro _; rfl) : PD Z (.Attribute o f pos) (dUn (fFld cs f) d) := by
  refine ?G
  exact (by (intro h; exact h) : have h : (type_of% ?G) := (fun X W ok => by
  refine peI (pe_fld (h X W ok) (hb _)) fun σ H Q ⟨m, r, G, s, sl, p⟩ => ?_
  refine tI_bind s sl p fun x G1 v m1 H1 e x1 s1 sl1 rv p1 => ?_
  cases q : fFld cs f x G1 with
  | stuck => rw [q] at p1; exact p1.elim
  | exc _ _ _ _ =>
    exfalso
    unfold fFld at q
    split at q <;> (repeat (split at q)) <;> cases q
  | ok d' G2 =>
    rw [q] at p1
    obtain ⟨rfl, a, c, dx, fs, u, rfl, h2, h3, h4, h5⟩ := fld_rp s1 rv q
    obtain ⟨k1, k2⟩ := hc c h3
    exact ⟨a, _, dx, fs, u, rfl, h2, by rw [ok.K]; exact k1, by rw [ok.K]; exact k2, h4, PostE.ok s1 p1 h5⟩
 ); type_of% ?G)
end
/-! ### self.f = e -/
def setF {α : Type} (f : Str) (x : α) : List (Str × α) → List (Str × α)
  | [] => [(f, x)]
  | (n, y) :: r => if n = f then (n, x) :: r else (n, y) :: setF f x r
/-- (a name of what may be written: any) -/
def okIn (_ : Nat) : D → Bool := fun _ => true
def dSetF (cs : List Nat) (f : Str) (o e : De) : Dst := fun r G => (e r G).thn r fun y G1 => (o r G1).thn r fun x G2 => match x with
  | .loc i => (match G2[i]? with
    | some (.ins c fs) => if cs.contains c = true ∧ okIn i y = true ∧ fs.length < 999 then .nx r (G2.set i (.ins c (setF f y fs))) else .stuck
    | _ => .stuck)
  | _ => .stuck
theorem setF_put {f : Str} {g : Gm} {m : Nat → Addr} {n0 b : Nat} {H : Hp} {y : D} {u : V} (ru : RpD g m n0 b H y u) : ∀ {fs : List (Str × D)} {xs : List V}, RpDs g m n0 b H (fs.map (·.2)) xs → ∃ ys, putF f u ((fs.map (·.1)).zip xs) = ((setF f y fs).map (·.1)).zip ys ∧ RpDs g m n0 b H ((setF f y fs).map (·.2)) ys
  | [], xs, r => by cases r; exact ⟨[u], rfl, u, [], rfl, ru, rfl⟩
  | (n, d) :: fs, xs, ⟨v, ws, e, h, r⟩ => by
    subst e
    have hz : ((((n, d) :: fs).map (·.1)).zip (v :: ws)) = (n, v) :: ((fs.map (·.1)).zip ws) := rfl
    rw [hz]
    unfold setF
    by_cases q : n = f
    · subst q
      rw [if_pos rfl]
      refine ⟨u :: ws, ?_, u, ws, rfl, ru, r⟩
      show (if n = n then _ else _) = _
      rw [if_pos rfl]; rfl
    · rw [if_neg q]
      obtain ⟨ys, e1, r1⟩ := setF_put ru r
      refine ⟨v :: ys, ?_, v, ys, rfl, h, r1⟩
      show (if n = f then _ else _) = _
      rw [if_neg q, e1]; rfl
theorem okIn_rp {g : Gm} {m : Nat → Addr} {n b i : Nat} {H : Hp} {y : D} {u : V} (h : okIn i y = true) (r : RpD g m n b H y u) : RpD g m n b H y u := r
section
variable {Z : Zc} {o e : Expr} {do_ de : De} {f : Str} {cs : List Nat} {pos pos' : Pos}
theorem psd_fld (ho : PD Z o do_) (he : PD Z e de) (hc : ∀ c, c ∈ cs → Cls Z.K (Z.ca c) ∧ NoAttr Z.K (Z.ca c) f) (hs : ∀ env, swapsWith e (some (.Attribute o f pos')) pos.line env = pure false := by intro _; rfl) : PSD Z (.Assign [.Attribute o f pos'] e pos) (dSetF cs f do_ de) := by
  refine ?G
  exact (by (intro h; exact h) : have h : (type_of% ?G) := (fun X W ok => by
  refine psI (ps_fld (ho X W ok) (he X W ok) (hs _)) fun D σ H ⟨m, r, G, s, sl, p⟩ => ?_
  refine tS_bind s sl p fun y G1 u m1 H1 e1 x1 s1 sl1 ru p1 => ?_
  refine tS_bind s1 sl1 p1 fun x G2 v m2 H2 e2 x2 s2 sl2 rv p2 => ?_
  cases x with
  | t t => exact p2.elim
  | loc i =>
    obtain ⟨hi, rfl⟩ := rv
    simp only at p2
    cases q : G2[i]? with
    | none => rw [q] at p2; exact p2.elim
    | some ob =>
      rw [q] at p2
      cases ob with
      | ins c fs =>
        simp only at p2
        split at p2
        · rename_i hk
          obtain ⟨dx, xs, h, rs⟩ := s2.ob i _ q
          obtain ⟨k1, k2⟩ := hc c (by simpa using hk.1)
          have hl := rs.length
          have ru2 := okIn_rp hk.2.1 (RpD.ex x2 s1 x2.le (Nat.le_refl _) ru)
          obtain ⟨ys, ey, ry⟩ := setF_put (f := f) ru2 rs
          refine ⟨m2 i, _, dx, _, rfl, h, by rw [ok.K]; exact k1, by rw [ok.K]; exact k2, ?_, ?_⟩
          · have h3 := hk.2.2
            have : ((fs.map (·.1)).zip xs).length ≤ fs.length := by rw [List.length_zip, List.length_map]; exact Nat.min_le_left _ _
            omega
          · rw [ey]
            have xw : Ex m2 G2.length H2 m2 G2.length (upd H2 (m2 i) (.ins (Z.g.ca c) dx (((setF f y fs).map (·.1)).zip ys))) := Ex.write s2 hi (rd_ins h)
            refine p2 σ m2 _ ?_ (s2.write hi (rd_ins h) trivial ⟨dx, ys, upd_same, RpDs.ex xw s2 (Nat.le_refl _) (Nat.le_refl _) ry⟩) ?_
            · rw [List.length_set]; exact xw
            · rw [List.length_set]; exact Sl.ex xw s2 sl2
        · exact p2.elim
      | lst _ => exact p2.elim
      | dk _ => exact p2.elim
      | flst _ => exact p2.elim
      | tpl _ => exact p2.elim
      | nd _ => exact p2.elim
      | fnd _ => exact p2.elim
      | fdk _ => exact p2.elim
      | fn _ => exact p2.elim
 ); type_of% ?G)
end
end BL

set_option Elab.async false
set_option linter.all false
set_option maxRecDepth 100000
set_option maxHeartbeats 1000000
namespace BL
open PySem L2

/-! ### o.m(..) -/
/-- how a method's call is read by the machine -/
def MethEval (pl : Env → Sem Bool) (o : Expr) (m : Str) (ap : Pos) (as : List Expr) (ps : Pos) : Prop := ∀ env, eval (.Call (.Attribute o m ap) as [] ps) env = (eval o env >>= fun ov => standAt ap.atName >>= fun _ => holding [ov] (getMethod ov m (pl env)) >>= fun q => callWith ps q.1 q.2 (backTo ps (starEach as env)) (backToKw ps (keywordEach [] env)))
/-- the receiver is an object of the class number c -/
def isObj' (c : Nat) (G : Hs) : D → Bool
  | .t (.obj c' ns _) => decide (c' = c)
  | .loc i => match G[i]? with
    | some (.ins c' _) => decide (c' = c)
    | _ => false
  | _ => false
def noFld (m : Str) (G : Hs) : D → Bool
  | .t (.obj _ ns _) => !(ns.contains m)
  | .loc i => match G[i]? with
    | some (.ins _ fs) => !((fs.map (·.1)).contains m)
    | _ => false
  | _ => false
theorem lookup_none {m : Str} : ∀ {ns : List Str} {xs : List V}, ns.contains m = false → (ns.zip xs).lookup m = none
  | [], xs, _ => by simp
  | n :: ns, [], _ => by simp
  | n :: ns, x :: xs, h => by
    rw [List.contains_cons, Bool.or_eq_false_iff] at h
    rw [List.zip_cons_cons, List.lookup_cons, h.1]
    exact lookup_none h.2
theorem obj_rp {g : Gm} {mm : Nat → Addr} {H : Hp} {G : Hs} {c : Nat} {m : Str} (s : SR g mm H G) {x : D} {v : V} (r : RpD g mm G.length G.length H x v) (h1 : isObj' c G x = true) (h2 : noFld m G x = true) : ∃ a dx fs, v = .ref a ∧ H a = some (.ins (g.ca c) dx fs) ∧ fs.lookup m = none := by
  refine ?G
  exact (by (intro h; exact h) : have h : (type_of% ?G) := (by
  cases x with
  | t t =>
    cases t with
    | obj c' ns ts =>
      simp only [isObj', decide_eq_true_eq] at h1
      subst h1
      obtain ⟨a, dx, xs, rfl, h, l, nb, r⟩ := r
      exact ⟨a, dx, _, rfl, h, lookup_none (by simpa [noFld] using h2)⟩
    | _ => cases h1
  | loc i =>
    obtain ⟨hi, rfl⟩ := r
    cases q : G[i]? with
    | none => simp [isObj', q] at h1
    | some o =>
      cases o with
      | ins c' fs =>
        simp [isObj', q] at h1
        subst h1
        obtain ⟨dx, xs, h, r⟩ := s.ob i _ q
        refine ⟨_, dx, _, rfl, h, lookup_none ?_⟩
        simp only [noFld, q] at h2
        simpa using h2
      | lst _ => simp [isObj', q] at h1
      | dk _ => simp [isObj', q] at h1
      | flst _ => simp [isObj', q] at h1
      | tpl _ => simp [isObj', q] at h1
      | nd _ => simp [isObj', q] at h1
      | fnd _ => simp [isObj', q] at h1
      | fdk _ => simp [isObj', q] at h1
      | fn _ => simp [isObj', q] at h1
 ); type_of% ?G)
def dMeth (c : Nat) (m : Str) (o : De) (das : List De) (F : Fd) (dts : List T) : De := fun r G => (o r G).bind fun x G1 => if isObj' c G1 x = true ∧ noFld m G1 x = true then dArgs das (fun ds G2 => F (x :: (ds ++ dts.map D.t)) G2) r G1 else .stuck
section
variable {Z : Zc} {o e : Expr} {es : List Expr} {do_ : De} {das : List De} {F : Fd} {k c : Nat} {f : Addr} {fd : FuncData} {ps : List Str} {m : Str} {dts : List T} {dvs : List V} {dus : List Value} {pos apos : Pos} {pl : Env → Sem Bool}
theorem pd_meth (ho : PD Z o do_) (hc : Cls Z.K (Z.ca c)) (hm : Meth Z.K (Z.ca c) m f) (h : FnD Z.toZb k f fd ps F) (hk : k ≤ Z.k) (hb : Binds Z.K fd ps dus) (hv : Vals dvs dus) (hd : Dfl Z.g.toGm0 dts dvs) (ha : PDA Z (e :: es) das) (hn : das.length + dts.length + 1 = ps.length)
    (he : ∀ env, starEach (e :: es) env = (false, eval e env) :: starEach es env := by intro _; rfl) (hpl : ∀ env, (backTo pos (starEach es env)).any (·.1) = false := by intro _; rfl) (ht : MethEval pl o m apos (e :: es) pos := by intro _; rfl) :
    PD Z (.Call (.Attribute o m apos) (e :: es) [] pos) (dMeth c m do_ das F dts) := by
  refine ?G
  exact (by (intro h; exact h) : have h : (type_of% ?G) := (fun X W ok => by
  refine ⟨fun pins s σ H Q I h0 => ?_⟩
  obtain ⟨mm, r, G, s0, sl, p⟩ := h0
  have hF : FnOk X.prog X.w X.K X.mg X.base (L2.CX X.prog X.w) k f fd ps (spD Z.g ps.length F) := by rw [ok.P, ok.w, ok.K, ok.mg, ok.base]; exact h.ok
  have main : tI Z.g W do_ σ H fun x H1 => ∃ a dx fs, x = V.ref a ∧ H1 a = some (.ins (Z.ca c) dx fs) ∧ fs.lookup m = none ∧ (tCs (das.map (tI Z.g W))) σ H1 fun vs H2 => spD Z.g ps.length F (x :: (vs ++ dvs)) H2 Q (fun cl d H' => W cl d σ H') := by
    refine tI_bind s0 sl p fun x G1 v m1 H1 e1 x1 s1 sl1 rv p1 => ?_
    split at p1
    · rename_i hk2
      obtain ⟨a, dx, fs, rfl, h2, h3⟩ := obj_rp s1 rv hk2.1 hk2.2
      refine ⟨a, dx, fs, rfl, h2, h3, ?_⟩
      refine tA_of s1 sl1 p1 fun ds G2 vs m2 H2 x2 s2 sl2 rs hl p2 => ?_
      have rd : RpDs Z.g m2 G2.length G2.length H2 (dts.map D.t) dvs := RpDs.ofT (hd _ _)
      have rv2 := RpD.ex x2 s1 x2.le (Nat.le_refl _) rv
      refine ⟨?_, Z.g.rv, m2, G2, x :: (ds ++ dts.map D.t), s2, ⟨_, _, rfl, rv2, RpDs.append rs rd⟩, PostF.eq p2⟩
      rw [List.length_cons, List.length_append, ← rs.length, ← rd.length, List.length_map, hl]; exact hn
    · exact p1.elim
  refine PySem.W.methodCall_KW (pl := pl X.env) (thn ((ho X W ok).run pins s σ H _ I main) fun u s1 hq => ?_) (ht _)
  obtain ⟨x, H1, I1, rx, a, dx, fs, ex, ea, lk, q⟩ := hq
  subst ex
  obtain rfl : u = Value.ref a := rx
  have hM : Meth X.K (Z.ca c) m f := by rw [ok.K]; exact hm
  refine getmeth_ok I1 ea (by rw [ok.K]; exact hc) hM lk ?_
  refine PySem.W.callWith_K (first := [.ref a]) (h₀ := X.base) I.ok.mod.kin hM.kp (thn ((ha X W ok).run pos pins s1 σ H1 _ I1 q) fun us s2 hw => ?_) (he _) (hpl _)
  obtain ⟨vs, H2, I2, r2, q2⟩ := hw
  refine ⟨I2.kIn, ?_⟩
  have hB : Binds X.K fd ps dus := by rw [ok.K]; exact hb
  exact run_fnSD (E := fun σ cl d H' => W cl d σ H') (us := .ref a :: us) (vs := .ref a :: vs) hF (ok.rm.mono hk) hB hv (passAt ok.tk σ) I2 (.cons rfl r2) q2
 ); type_of% ?G)
end
/-! ### C(..) -/
/-- a new object, its __init__ run, and then plain data -/
noncomputable def mkEnd (G0 : Hs) : Re → Re := open Classical in fun s => match s with
  | .ok (.t .non) G' => if Cl G0 G' then (match popD G0.length (.loc G0.length) G' with
    | some e => .ok e (G'.take G0.length)
    | none => .stuck) else .stuck
  | .exc c' ns es G' => if Cl G0 G' then (match popDs G0.length es G' with
    | some es' => .exc c' ns es' (G'.take G0.length)
    | none => .stuck) else .stuck
  | _ => .stuck
noncomputable def dMake (c : Nat) (das : List De) (F : Fd) (dts : List T) : De := dArgs das fun ds G => mkEnd G (F (.loc G.length :: (ds ++ dts.map D.t)) (G ++ [.ins c []]))
section
variable {Z : Zc} {e : Expr} {es : List Expr} {das : List De} {F : Fd} {k c : Nat} {f : Addr} {fd : FuncData} {ps : List Str} {x : Str} {dts : List T} {dvs : List V} {dus : List Value} {pos p : Pos}
/-- a new instance stands at x0, its dict at dx -/
theorem SR.made {g : Gm} {m : Nat → Addr} {H : Hp} {G : Hs} (s : SR g m H G) {x0 dx : Addr} (h1 : H x0 = none) (h2 : H dx = none) (hne : dx ≠ x0) :
    Ex m G.length H (mAt m G.length x0) (G ++ [O.ins c []]).length (upd (upd H dx (.own x0)) x0 (.ins (g.ca c) dx [])) ∧ SR g (mAt m G.length x0) (upd (upd H dx (.own x0)) x0 (.ins (g.ca c) dx [])) (G ++ [.ins c []]) := by
  refine ?G
  exact (by (intro h; exact h) : have h : (type_of% ?G) := (by
  have s1 := s.new (o := .own x0) h2 trivial
  have x1 : Ex m G.length H m G.length (upd H dx (.own x0)) := Ex.new h2
  have h3 : upd H dx (.own x0) x0 = none := by rw [upd_ne (Ne.symm hne)]; exact h1
  have hl : (G ++ [O.ins c []]).length = G.length + 1 := by simp
  refine ⟨?_, s1.loc h3 trivial ⟨dx, [], by rw [mAt_same]; exact upd_same, rfl⟩⟩
  rw [hl]
  exact x1.trans s1 (Ex.loc h3)
 ); type_of% ?G)
theorem make_sp {X : Cx} {W : WX} (ok : Ok Z X W) {m : Nat → Addr} {H : Hp} {G : Hs} {σ : St} {Q : VK} {ds : List D} {vs : List V} {n : Nat} (hn : ds.length + dts.length + 1 = n) (hd : Dfl Z.g.toGm0 dts dvs) (s : SR Z.g m H G) (rs : RpDs Z.g m G.length G.length H ds vs)
    (p : PostE Z.g W m G.length H σ Q (mkEnd G (F (.loc G.length :: (ds ++ dts.map D.t)) (G ++ [.ins c []])))) (x0 dx : Addr) (h1 : H x0 = none) (h2 : H dx = none) (hne : dx ≠ x0) :
    spD Z.g n F (.ref x0 :: (vs ++ dvs)) (upd (upd H dx (.own x0)) x0 (.ins (Z.g.ca c) dx [])) (fun v H2 => v = .non ∧ Q (.ref x0) H2) (fun cl d H' => W cl d σ H') := by
  refine ?G
  exact (by (intro h; exact h) : have h : (type_of% ?G) := (by
  obtain ⟨x1, s1⟩ := s.made (c := c) h1 h2 hne
  have rd : RpDs Z.g m G.length G.length H (dts.map D.t) dvs := RpDs.ofT (hd _ _)
  have hl : (G ++ [O.ins c []]).length = G.length + 1 := by simp
  have rs1 := RpDs.ex x1 s x1.le (Nat.le_refl _) (RpDs.append rs rd)
  refine ⟨?_, Z.g.rv, _, _, .loc G.length :: (ds ++ dts.map D.t), s1, ⟨_, _, rfl, ⟨by rw [hl]; exact Nat.lt_succ_self _, by rw [mAt_same]⟩, rs1⟩, ?_⟩
  · rw [List.length_cons, List.length_append, ← rs.length, ← rd.length, List.length_map]; exact hn
  · cases eF : F (.loc G.length :: (ds ++ dts.map D.t)) (G ++ [.ins c []]) with
    | stuck => rw [eF] at p; exact p.elim
    | exc c' ns es G' =>
      rw [eF] at p
      simp only [mkEnd] at p
      intro da m' H' xs x' s' h nb rs'
      split at p
      · rename_i hcl
        cases q : popDs G.length es G' with
        | none => rw [q] at p; exact p.elim
        | some es' =>
          rw [q] at p
          have hle : G.length ≤ G'.length := Nat.le_trans (by rw [hl]; exact Nat.le_succ _) x'.le
          refine p da m' H' xs ?_ (s'.pop hle (hcl.pop s)) h ?_ ?_
          · rw [take_len hle]; exact (x1.trans s1 x').popped
          · rw [take_len hle]; exact fun z => nb (Bd.mono hle z)
          · rw [take_len hle]; exact popDs_rp s' hle rs' q
      · exact p.elim
    | ok d G' =>
      rw [eF] at p
      intro v m' H' x' s' rv
      have hd : d = .t .non := by
        cases d with
        | t t => cases t <;> first | rfl | exact p.elim
        | loc i => exact p.elim
      subst hd
      simp only [mkEnd] at p
      refine ⟨rv, ?_⟩
      split at p
      rotate_left
      · exact p.elim
      rename_i hcl
      cases q : popD G.length (.loc G.length) G' with
      | none => rw [q] at p; exact p.elim
      | some e' =>
        rw [q] at p
        have hlt : G.length < G'.length := Nat.lt_of_lt_of_le (by rw [hl]; exact Nat.lt_succ_self _) x'.le
        have hle : G.length ≤ G'.length := Nat.le_of_lt hlt
        have rself : RpD Z.g m' G'.length G'.length H' (.loc G.length) (.ref x0) := ⟨hlt, by rw [x'.ag _ (by rw [hl]; exact Nat.lt_succ_self _), mAt_same]⟩
        refine p (.ref x0) m' H' ?_ (s'.pop hle (hcl.pop s)) ?_
        · rw [take_len hle]; exact (x1.trans s1 x').popped
        · rw [take_len hle]; exact popD_rp s' hle rself q
 ); type_of% ?G)
theorem run_makeSD {X : Cx} {CX : CXT} {C : Addr} {sp : Sp} {E : XK} {pins : List (Addr × Obj)} {σ : St} {H : Hp} {s : Shared} {Q : VK} {us : List Value} {vs : List V} (M : Mk X.K C f) (F : FnOk X.prog X.w X.K X.mg X.base CX k f fd ps sp) (hr : Room (k + 1) X.A) (hb : Binds X.K fd ps dus) (hd : Vals dvs dus) (hx : PassesAt CX X σ E) (I : Inv X pins σ H s) (r : Vals vs us)
    (h : ∀ x0 dx, H x0 = none → H dx = none → dx ≠ x0 → sp (.ref x0 :: (vs ++ dvs)) (upd (upd H dx (.own x0)) x0 (.ins C dx [])) (fun v H2 => v = .non ∧ Q (.ref x0) H2) E) : wpAny (model X.prog X.w) X.A (call (.ref C) us) (EP X pins σ Q) X.xe s := by
  refine ?G
  exact (by (intro h; exact h) : have h : (type_of% ?G) := (by
  have g1 := h (s.heap.objs.size + 1) s.heap.objs.size (I.hok.fresh (Nat.le_succ _)) (I.hok.fresh (Nat.le_refl _)) (Nat.ne_of_lt (Nat.lt_succ_self _))
  have J := Inv.made (C := C) I
  have rr : Vals (V.ref (s.heap.objs.size + 1) :: (vs ++ dvs)) (Value.ref (s.heap.objs.size + 1) :: (us ++ dus)) := .cons rfl (r.append hd)
  have len2 : (Value.ref (s.heap.objs.size + 1) :: us ++ dus).length = ps.length := ((F.len _ _ _ _ g1).symm.trans rr.length).symm
  refine wpAny_call (make_map (f := f) I.kIn M.makes M.init (beq_iff_eq.mp M.fn) (codeAny_mono (F.run _ X.stack _ _ ⟨.ref (s.heap.objs.size + 1) :: us, []⟩ (.ref (s.heap.objs.size + 1) :: (us ++ dus)) _ _ E (hr.make C us []) (J.env0.make C us []) (hb _ (.ref (s.heap.objs.size + 1) :: us) J.kIn len2) rr g1) fun q s' hq => ?_))
  cases q with
  | error er => exact hx pins _ _ er s' J hq
  | ok fl =>
    cases fl with
    | ret u =>
      obtain ⟨v, H', J3, rv, ev, q3⟩ := J.after hq
      subst ev
      exact ⟨rv, .ref (s.heap.objs.size + 1), H', J3, rfl, q3⟩
    | next => exact hq.elim
    | brk => exact hq.elim
    | cont => exact hq.elim
 ); type_of% ?G)
theorem pd_make (hM : Mk Z.K (Z.ca c) f) (h : FnD Z.toZb k f fd ps F) (hk : k + 1 ≤ Z.k) (hm : Z.mg x = some (.ref (Z.ca c))) (hb : Binds Z.K fd ps dus) (hv : Vals dvs dus) (hd : Dfl Z.g.toGm0 dts dvs) (ha : PDA Z (e :: es) das) (hn : das.length + dts.length + 1 = ps.length) (hg : GlS Z x := by rfl)
    (hdb : (x == ("__debug__" : Str)) = false := by decide) (he : ∀ env, starEach (e :: es) env = (false, eval e env) :: starEach es env := by intro _; rfl) (hpl : ∀ env, (backTo pos (starEach es env)).any (·.1) = false := by intro _; rfl) :
    PD Z (.Call (.Name x p) (e :: es) [] pos) (dMake c das F dts) := by
  refine ?G
  exact (by (intro h; exact h) : have h : (type_of% ?G) := (fun X W ok => by
  refine ⟨fun pins s σ H Q I h0 => ?_⟩
  obtain ⟨mm, r, G, s0, sl, p⟩ := h0
  have hF : FnOk X.prog X.w X.K X.mg X.base (L2.CX X.prog X.w) k f fd ps (spD Z.g ps.length F) := by rw [ok.P, ok.w, ok.K, ok.mg, ok.base]; exact h.ok
  have hM' : Mk X.K (Z.ca c) f := by rw [ok.K]; exact hM
  have main := tA_of (R := fun vs H1 => ∀ x0 dx, H1 x0 = none → H1 dx = none → dx ≠ x0 → spD Z.g ps.length F (.ref x0 :: (vs ++ dvs)) (upd (upd H1 dx (.own x0)) x0 (.ins (Z.ca c) dx [])) (fun v H2 => v = .non ∧ Q (.ref x0) H2) (fun cl d H' => W cl d σ H')) s0 sl p fun ds G1 vs m1 H1 x1 s1 sl1 rs hl p1 => make_sp ok (by rw [hl]; exact hn) hd s1 rs p1
  refine wpAny_Call_Name_kw (ld_glob I (show X.env.scope.names.lookup x = _ by rw [ok.sc]; exact hg) (by rw [ok.mg]; exact hm) ?_ hdb)
  refine PySem.W.callWith_K (h₀ := X.base) I.ok.mod.kin hM'.kp (thn ((ha X W ok).run pos pins s σ H _ I main) fun us s1 hq => ?_) (he _) (hpl _)
  obtain ⟨vs, H1, I1, r1, q⟩ := hq
  have hB : Binds X.K fd ps dus := by rw [ok.K]; exact hb
  exact ⟨I1.kIn, run_makeSD hM' hF (ok.rm.mono hk) hB hv (passAt ok.tk σ) I1 r1 q⟩
 ); type_of% ?G)
end
end BL

set_option Elab.async false
set_option linter.all false
set_option maxRecDepth 100000
set_option maxHeartbeats 1000000
namespace BL
open PySem L2

def keyOf : D → Option Key
  | .t (.int i) => some (.inl i)
  | .t (.str x) => some (.inr x)
  | _ => none
def getA {α : Type} : List (Key × α) → Key → Option α
  | [], _ => none
  | (k', v) :: r, k => if k' = k then some v else getA r k
def hasA {α : Type} : List (Key × α) → Key → Bool
  | [], _ => false
  | (k', _) :: r, k => decide (k' = k) || hasA r k
def modA {α : Type} (k : Key) (v : α) : List (Key × α) → List (Key × α)
  | [] => []
  | (k', u) :: r => (k', if k' = k then v else u) :: modA k v r
def putA {α : Type} (kvs : List (Key × α)) (k : Key) (v : α) : List (Key × α) := if hasA kvs k = true then modA k v kvs else kvs ++ [(k, v)]
section
variable {g : Gm} {m : Nat → Addr} {n b : Nat} {H : Hp}
theorem keyOf_rp {d : D} {v : V} {k : Key} (r : RpD g m n b H d v) (e : keyOf d = some k) : v = kV k := by
  cases d with
  | loc i => cases e
  | t t =>
    cases t with
    | int i => cases e; exact r
    | str x => cases e; exact r.1
    | _ => cases e
theorem getA_val : ∀ {kvs : List (Key × D)} {xs : List V} {k : Key}, RpDs g m n b H (kvs.map (·.2)) xs → (∀ d, getA kvs k = some d → ∃ v, valV ((kvs.map (·.1)).zip xs) k = some v ∧ RpD g m n b H d v) ∧ (getA kvs k = none → valV ((kvs.map (·.1)).zip xs) k = none)
  | [], xs, k, r => by cases r; exact ⟨fun d e => (nomatch e), fun _ => rfl⟩
  | (k', d) :: kvs, xs, k, ⟨v, ws, e, h, r⟩ => by
    subst e
    have hz : ((((k', d) :: kvs).map (·.1)).zip (v :: ws)) = (k', v) :: ((kvs.map (·.1)).zip ws) := rfl
    rw [hz]
    unfold getA
    by_cases q : k' = k
    · rw [if_pos q]
      rw [valV_pos (p := (k', v)) q]
      exact ⟨fun d' e => by cases e; exact ⟨v, rfl, h⟩, fun e => nomatch e⟩
    · rw [if_neg q]
      rw [valV_neg (p := (k', v)) q]
      exact getA_val r
theorem hasA_any : ∀ {kvs : List (Key × D)} {xs : List V} {k : Key}, (kvs.map (·.2)).length = xs.length → (((kvs.map (·.1)).zip xs).any fun kv => decide (kv.1 = k)) = hasA kvs k
  | [], xs, k, h => rfl
  | (k', d) :: kvs, [], k, h => by simp at h
  | (k', d) :: kvs, v :: ws, k, h => by
    have hz : ((((k', d) :: kvs).map (·.1)).zip (v :: ws)) = (k', v) :: ((kvs.map (·.1)).zip ws) := rfl
    rw [hz, List.any_cons, hasA_any (by simpa using h)]; rfl
theorem modA_map {y : D} {u : V} (ru : RpD g m n b H y u) {k : Key} : ∀ {kvs : List (Key × D)} {xs : List V}, RpDs g m n b H (kvs.map (·.2)) xs →
    ∃ ys, ((kvs.map (·.1)).zip xs).map (fun kv => if kv.1 = k then (kv.1, u) else kv) = ((modA k y kvs).map (·.1)).zip ys ∧ RpDs g m n b H ((modA k y kvs).map (·.2)) ys
  | [], xs, r => by cases r; exact ⟨[], rfl, rfl⟩
  | (k', d) :: kvs, xs, ⟨v, ws, e, h, r⟩ => by
    subst e
    obtain ⟨ys, e1, r1⟩ := modA_map ru (k := k) r
    have hz : ((((k', d) :: kvs).map (·.1)).zip (v :: ws)) = (k', v) :: ((kvs.map (·.1)).zip ws) := rfl
    rw [hz, List.map_cons, e1]
    by_cases q : k' = k
    · refine ⟨u :: ys, ?_, u, ys, rfl, ?_, r1⟩
      · simp [modA, q]
      · simp only [if_pos q]; exact ru
    · refine ⟨v :: ys, ?_, v, ys, rfl, ?_, r1⟩
      · simp [modA, q]
      · simp only [if_neg q]; exact h
theorem putA_put {y : D} {u : V} (ru : RpD g m n b H y u) {k : Key} {kvs : List (Key × D)} {xs : List V} (r : RpDs g m n b H (kvs.map (·.2)) xs) :
    ∃ ys, putK ((kvs.map (·.1)).zip xs) k u = ((putA kvs k y).map (·.1)).zip ys ∧ RpDs g m n b H ((putA kvs k y).map (·.2)) ys := by
  refine ?G
  exact (by (intro h; exact h) : have h : (type_of% ?G) := (by
  have hl := r.length
  unfold putK putA
  rw [hasA_any hl]
  split
  · exact modA_map ru r
  · refine ⟨xs ++ [u], ?_, ?_⟩
    · rw [List.map_append, List.zip_append (by simpa using hl)]; rfl
    · rw [List.map_append]; exact RpDs.append r ⟨u, [], rfl, ru, rfl⟩
 ); type_of% ?G)
end
/-! ### d[k] -/
def dkOf (G : Hs) : D → Option (List (Key × D))
  | .t (.dk ks ts) => some (ks.zip (ts.map D.t))
  | .loc i => match G[i]? with
    | some (.dk kvs) => some kvs
    | some (.fdk kvs) => some kvs
    | _ => none
  | _ => none
theorem zipF {α β : Type} : ∀ {ks : List α} {ts : List β}, ks.length = ts.length → (ks.zip ts).map (·.1) = ks ∧ (ks.zip ts).map (·.2) = ts
  | [], [], _ => ⟨rfl, rfl⟩
  | k :: ks, t :: ts, h => by
    obtain ⟨a, b⟩ := zipF (ks := ks) (ts := ts) (by simpa using h)
    exact ⟨by simp [a], by simp [b]⟩
theorem dkOf_rp {g : Gm} {m : Nat → Addr} {H : Hp} {G : Hs} (s : SR g m H G) {d : D} {v : V} {kvs : List (Key × D)} (r : RpD g m G.length G.length H d v) (e : dkOf G d = some kvs) : ∃ a xs, v = .ref a ∧ Rd H a (.dK ((kvs.map (·.1)).zip xs)) ∧ RpDs g m G.length G.length H (kvs.map (·.2)) xs := by
  refine ?G
  exact (by (intro h; exact h) : have h : (type_of% ?G) := (by
  cases d with
  | t t =>
    cases t with
    | dk ks ts =>
      cases e
      obtain ⟨a, xs, rfl, h, l, nb, r⟩ := r
      have hl : ks.length = (ts.map D.t).length := by rw [List.length_map, r.length, l]
      obtain ⟨e1, e2⟩ := zipF hl
      exact ⟨a, xs, rfl, .inl (by rw [e1]; exact h), by rw [e2]; exact RpDs.ofT r⟩
    | _ => cases e
  | loc i =>
    obtain ⟨hi, rfl⟩ := r
    cases q : G[i]? with
    | none => simp [dkOf, q] at e
    | some o =>
      cases o with
      | dk kvs' =>
        simp [dkOf, q] at e
        subst e
        obtain ⟨xs, h, r⟩ := s.ob i _ q
        exact ⟨_, xs, rfl, .inl h, r⟩
      | fdk kvs' =>
        simp [dkOf, q] at e
        subst e
        obtain ⟨ob, xs, h, r⟩ := s.ob i _ q
        exact ⟨_, xs, rfl, .inr ⟨ob, h⟩, r⟩
      | lst _ => simp [dkOf, q] at e
      | ins _ _ => simp [dkOf, q] at e
      | flst _ => simp [dkOf, q] at e
      | tpl _ => simp [dkOf, q] at e
      | nd _ => simp [dkOf, q] at e
      | fnd _ => simp [dkOf, q] at e
      | fn _ => simp [dkOf, q] at e
 ); type_of% ?G)
theorem dget_rd {H : Hp} {a : Addr} {kvs : List (Key × V)} {k : Key} (e : Rd H a (.dK kvs)) : DGet H a (kV k) (valV kvs k) := .inl ⟨kvs, k, e, rfl, rfl⟩
def fGet : D → D → Hs → Re := fun x y G => match dkOf G x, keyOf y with
  | some kvs, some k => (match getA kvs k with
    | some d => .ok d G
    | none => .stuck)
  | _, _ => .stuck
def fDin (neg : Bool) : D → D → Hs → Re := fun y x G => match dkOf G x, keyOf y with
  | some kvs, some k => .ok (.t (.bl (if neg then !(getA kvs k).isSome else (getA kvs k).isSome))) G
  | _, _ => .stuck
section
variable {Z : Zc} {o i e : Expr} {do_ di de : De} {pos pos' : Pos}
theorem Ok.u1 {X : Cx} {W : WX} (ok : Ok Z X W) : X.A.units + 1 < cLine := hu_of ok.rm
theorem pd_dget (ho : PD Z o do_) (hi : PD Z i di) (hs : NoSl i := by intro _ _; rfl) : PD Z (.Subscript o i pos) (dBin fGet do_ di) := by
  refine ?G
  exact (by (intro h; exact h) : have h : (type_of% ?G) := (fun X W ok => by
  refine peI (pe_dget ok.u1 (ho X W ok) (hi X W ok) hs) fun σ H Q h => ?_
  refine tI_bin (q := fun x y H2 Q => ∃ a v, x = .ref a ∧ DGet H2 a y (some v) ∧ Q v H2) ?_ h
  intro W m H G σ Q x y v u s rx ry p
  unfold fGet at p
  split at p
  · rename_i kvs k ek eq
    obtain ⟨a, xs, rfl, hd, rs⟩ := dkOf_rp s rx ek
    have hk := keyOf_rp ry eq
    subst hk
    cases q : getA kvs k with
    | none => rw [q] at p; exact p.elim
    | some d =>
      rw [q] at p
      obtain ⟨w, ew, rw'⟩ := (getA_val (k := k) rs).1 d q
      exact ⟨a, w, rfl, by rw [← ew]; exact dget_rd hd, PostE.ok s p rw'⟩
  · exact p.elim
 ); type_of% ?G)
def rDin (neg : Bool) : R2 := fun y x H2 Q => ∃ a o, x = .ref a ∧ DGet H2 a y o ∧ Q (.bl (if neg then !o.isSome else o.isSome)) H2
/-! ### d[k] = e -/
def dPut (o i e : De) : Dst := fun r G => (e r G).thn r fun y G1 => (o r G1).thn r fun x G2 => (i r G2).thn r fun z G3 => match x, keyOf z with
  | .loc j, some k => (match G3[j]? with
    | some (.dk kvs) => if okIn j y = true ∧ kvs.length < 16777215 then .nx r (G3.set j (.dk (putA kvs k y))) else .stuck
    | _ => .stuck)
  | _, _ => .stuck
theorem putA_len {α : Type} {kvs : List (Key × α)} {k : Key} {v : α} : (putA kvs k v).length ≤ kvs.length + 1 := by
  have hm : ∀ l : List (Key × α), (modA k v l).length = l.length := by
    intro l
    induction l with
    | nil => rfl
    | cons p l ih => obtain ⟨a, b⟩ := p; simp [modA, ih]
  unfold putA
  split
  · rw [hm]; exact Nat.le_succ _
  · simp
theorem psd_dput (ho : PD Z o do_) (hi : PD Z i di) (he : PD Z e de) (hs : ∀ env, swapsWith e (some (.Subscript o i pos')) pos.line env = pure false := by intro _; rfl) : PSD Z (.Assign [.Subscript o i pos'] e pos) (dPut do_ di de) := by
  refine ?G
  exact (by (intro h; exact h) : have h : (type_of% ?G) := (fun X W ok => by
  refine psI (ps_dput ok.u1 (ho X W ok) (hi X W ok) (he X W ok) (hs _)) fun D σ H ⟨m, r, G, s, sl, p⟩ => ?_
  refine tS_bind s sl p fun y G1 u m1 H1 e1 x1 s1 sl1 ru p1 => ?_
  refine tS_bind s1 sl1 p1 fun x G2 v m2 H2 e2 x2 s2 sl2 rv p2 => ?_
  refine tS_bind s2 sl2 p2 fun z G3 t m3 H3 e3 x3 s3 sl3 rz p3 => ?_
  split at p3
  · rename_i j k hk
    have hkv := keyOf_rp rz hk
    subst hkv
    have rv3 := RpD.ex x3 s2 x3.le (Nat.le_refl _) rv
    obtain ⟨hj, rfl⟩ := rv3
    cases q : G3[j]? with
    | none => rw [q] at p3; exact p3.elim
    | some ob =>
      rw [q] at p3
      cases ob with
      | dk kvs =>
        simp only at p3
        split at p3
        · rename_i hok
          obtain ⟨xs, hd, rs⟩ := s3.ob j _ q
          have ru3 := okIn_rp hok.1 (RpD.ex x3 s2 x3.le (Nat.le_refl _) (RpD.ex x2 s1 x2.le (Nat.le_refl _) ru))
          obtain ⟨ys, ey, ry⟩ := putA_put (k := k) ru3 rs
          have hz : ((kvs.map (·.1)).zip xs).length ≤ kvs.length := by rw [List.length_zip, List.length_map]; exact Nat.min_le_left _ _
          have hzl : ((kvs.map (·.1)).zip xs).length < sizeLine := Nat.lt_of_le_of_lt hz (Nat.lt_of_lt_of_le hok.2 (by decide))
          refine ⟨m3 j, _, rfl, DPut.k hd hzl, ?_⟩
          rw [ey]
          have hz2 : szOk (HO.dK (((putA kvs k y).map (·.1)).zip ys)) := by
            show (((putA kvs k y).map (·.1)).zip ys).length ≤ sizeLine
            rw [List.length_zip, List.length_map]
            have := putA_len (kvs := kvs) (k := k) (v := y)
            have h2 : kvs.length < 16777215 := hok.2
            have h3 : min (putA kvs k y).length ys.length ≤ (putA kvs k y).length := Nat.min_le_left _ _
            show _ ≤ 16777216
            omega
          have xw : Ex m3 G3.length H3 m3 G3.length (upd H3 (m3 j) (.dK (((putA kvs k y).map (·.1)).zip ys))) := Ex.write s3 hj (rd_dK hd)
          refine p3 σ m3 _ ?_ (s3.write hj (rd_dK hd) hz2 ⟨ys, upd_same, RpDs.ex xw s3 (Nat.le_refl _) (Nat.le_refl _) ry⟩) ?_
          · rw [List.length_set]; exact xw
          · rw [List.length_set]; exact Sl.ex xw s3 sl3
        · exact p3.elim
      | lst _ => exact p3.elim
      | ins _ _ => exact p3.elim
      | flst _ => exact p3.elim
      | tpl _ => exact p3.elim
      | nd _ => exact p3.elim
      | fnd _ => exact p3.elim
      | fdk _ => exact p3.elim
      | fn _ => exact p3.elim
  · exact p3.elim
 ); type_of% ?G)
end
end BL

set_option Elab.async false
set_option linter.all false
set_option maxRecDepth 100000
set_option maxHeartbeats 1000000
namespace BL
open PySem L2

/-! ### methods of built-in types -/
/-- the receiver's kind, and what its rule asks -/
def MtA (g : Gm) (K : PySem.W.Frag) (T : String) (q : V → List V → Hp → VK → Prop) (f : D → List D → Hs → Re) (ty : Hs → D → Bool) : Prop :=
  (∀ (m : Nat → Addr) (H : Hp) (G : Hs) (x : D) (v : V), SR g m H G → RpD g m G.length G.length H x v → ty G x = true → tyV K T v H) ∧
  ∀ (W : WX) (m : Nat → Addr) (H : Hp) (G : Hs) (σ : St) (Q : VK) (x : D) (ds : List D) (v : V) (vs : List V), SR g m H G → RpD g m G.length G.length H x v → RpDs g m G.length G.length H ds vs → PostE g W m G.length H σ Q (f x ds G) → q v vs H Q
def dBm (ty : Hs → D → Bool) (f : D → List D → Hs → Re) (o : De) (das : List De) : De := fun r G => (o r G).bind fun x G1 => if ty G1 x = true then dArgs das (fun ds G2 => f x ds G2) r G1 else .stuck
section
variable {Z : Zc} {o e : Expr} {es : List Expr} {do_ : De} {das : List De} {name : Str} {T id : String} {f : D → List D → Hs → Re} {ty : Hs → D → Bool} {apos cpos : Pos} {q : Cx → V → List V → Hp → VK → Prop}
theorem pd_bm (pa : PlainAttrs T) (slot : Slot T name id) (hty : typeOf (.builtin id) = pure (.type "method_descriptor")) (hm : ∀ X W, Ok Z X W → MtR X id (q X)) (hq : ∀ X W, Ok Z X W → MtA Z.g X.K T (q X) f ty) (ho : PD Z o do_) (ha : PDA Z (e :: es) das)
    (hbase : ∀ env, attributeBase o name env (eval o env) = eval o env := by intro _; rfl)
    (hfew : ∀ env : Env, ((backTo cpos (starEach (e :: es) env)).all (fun x => !x.1) && (backToKw cpos (keywordEach [] env)).all (fun x => x.1.isSome) && decide ((e :: es).length + ([] : List Keyword).length + (if ([] : List Keyword).isEmpty then 0 else 1) < 30)) = true := by intro _; rfl)
    (hline : (apos.endLine == cpos.line) = true := by rfl) (hs : ∀ env, starEach (e :: es) env = (false, eval e env) :: starEach es env := by intro _; rfl) (hplain : ∀ env, (backTo cpos (starEach es env)).any (·.1) = false := by intro _; rfl) :
    PD Z (.Call (.Attribute o name apos) (e :: es) [] cpos) (dBm ty f do_ das) := by
  refine ?G
  exact (by (intro h; exact h) : have h : (type_of% ?G) := (fun X W ok => by
  refine peI (pe_bm pa slot hty (hm X W ok) (ho X W ok) (ha X W ok) (hbase _) (hfew _) hline (hs _) (hplain _)) fun σ H Q ⟨m, r, G, s, sl, p⟩ => ?_
  refine tI_bind s sl p fun x G1 v m1 H1 e1 x1 s1 sl1 rv p1 => ?_
  split at p1
  · rename_i hk
    refine ⟨(hq X W ok).1 m1 H1 G1 x v s1 rv hk, ?_⟩
    refine tA_of s1 sl1 p1 fun ds G2 vs m2 H2 x2 s2 sl2 rs hl p2 => ?_
    exact (hq X W ok).2 W m2 H2 G2 σ Q x ds v vs s2 (RpD.ex x2 s1 x2.le (Nat.le_refl _) rv) rs p2
  · exact p1.elim
 ); type_of% ?G)
end
def isL (G : Hs) (x : D) : Bool := (asL G x).isSome
def isS : Hs → D → Bool := fun _ x => match x with
  | .t (.str _) => true
  | _ => false
theorem isL_ty {g : Gm} {K : PySem.W.Frag} (hK : K = g.K) (m : Nat → Addr) (H : Hp) (G : Hs) (x : D) (v : V) (s : SR g m H G) (r : RpD g m G.length G.length H x v) (h : isL G x = true) : tyV K "list" v H := by
  subst hK
  unfold isL at h
  cases q : asL G x with
  | none => rw [q] at h; cases h
  | some ds =>
    obtain ⟨a, xs, rfl, hq, _⟩ := asL_rp s r q
    exact .inl ⟨rfl, xs, hq⟩
/-! ### xs.append(e), xs.clear() -/
def fApp : D → List D → Hs → Re := fun x ds G => match x, ds with
  | .loc i, [y] => (match G[i]? with
    | some (.lst es) => if okIn i y = true ∧ es.length < 16777216 then .ok (.t .non) (G.set i (.lst (es ++ [y]))) else .stuck
    | _ => .stuck)
  | _, _ => .stuck
def fClear : D → List D → Hs → Re := fun x ds G => match x, ds with
  | .loc i, [] => (match G[i]? with
    | some (.lst es) => .ok (.t .non) (G.set i (.lst []))
    | _ => .stuck)
  | _, _ => .stuck
theorem wrL {g : Gm} {m : Nat → Addr} {H : Hp} {G : Hs} (s : SR g m H G) {i : Nat} {es : List D} {ys zs : List V} (hi : i < G.length) (h0 : H (m i) = some (.lst zs)) (hz : ys.length ≤ sizeLine) (r : RpDs g m G.length G.length H es ys) :
    Ex m G.length H m (G.set i (.lst es)).length (upd H (m i) (.lst ys)) ∧ SR g m (upd H (m i) (.lst ys)) (G.set i (.lst es)) := by
  have xw : Ex m G.length H m G.length (upd H (m i) (.lst ys)) := Ex.write s hi (rd_lst h0)
  rw [List.length_set]
  exact ⟨xw, s.write hi (rd_lst h0) hz ⟨ys, upd_same, RpDs.ex xw s (Nat.le_refl _) (Nat.le_refl _) r⟩⟩
theorem a_app {g : Gm} (K : PySem.W.Frag) (hK : K = g.K) : MtA g K "list" rAppend fApp isL := by
  refine ?G
  exact (by (intro h; exact h) : have h : (type_of% ?G) := (by
  refine ⟨isL_ty hK, ?_⟩
  intro W m H G σ Q x ds v vs s rx rs p
  unfold fApp at p
  split at p
  · rename_i i y
    obtain ⟨hi, rfl⟩ := rx
    obtain ⟨u, rfl, ru⟩ := rpds1 rs
    cases q : G[i]? with
    | none => rw [q] at p; exact p.elim
    | some o =>
      rw [q] at p
      cases o with
      | lst es =>
        simp only at p
        split at p
        · rename_i hk
          obtain ⟨xs, h, r⟩ := s.ob i _ q
          have hl := r.length
          have hz : xs.length < sizeLine := by rw [← hl]; exact hk.2
          refine ⟨m i, xs, u, rfl, rfl, h, hz, ?_⟩
          obtain ⟨x1, s1⟩ := wrL s hi h (es := es ++ [y]) (ys := xs ++ [u]) (by rw [List.length_append]; exact hz) (RpDs.append r ⟨u, [], rfl, okIn_rp hk.1 ru, rfl⟩)
          exact p .non m _ x1 s1 rfl
        · exact p.elim
      | dk _ => exact p.elim
      | ins _ _ => exact p.elim
      | flst _ => exact p.elim
      | tpl _ => exact p.elim
      | nd _ => exact p.elim
      | fnd _ => exact p.elim
      | fdk _ => exact p.elim
      | fn _ => exact p.elim
  · exact p.elim
 ); type_of% ?G)
section
variable {Z : Zc} {o e i : Expr} {do_ de di : De} {apos cpos pos p : Pos}
theorem pd_append (ho : PD Z o do_) (he : PD Z e de) (hbase : ∀ env, attributeBase o "append" env (eval o env) = eval o env := by intro _; rfl)
    (hline : (apos.endLine == cpos.line) = true := by rfl) (hs : ∀ env, starEach [e] env = (false, eval e env) :: starEach [] env := by intro _; rfl) : PD Z (.Call (.Attribute o "append" apos) [e] [] cpos) (dBm isL fApp do_ [de]) :=
  pd_bm (q := fun _ => rAppend) PySem.F.plainAttrs_list PySem.F.slot_list_append PySem.F.type_list_append (fun _ _ _ => mt_append) (fun X W ok => a_app _ ok.Kg) ho (pda_cons he pda_nil hs) hbase (fun env => by rw [hs]; rfl) hline hs (fun _ => rfl)
end
/-! ### sep.join(xs) -/
def strsT : List D → Option (List Str)
  | [] => some []
  | .t (.str x) :: ds => match strsT ds with
    | some xs => some (x :: xs)
    | none => none
  | _ => none
def fJoin : D → List D → Hs → Re := fun x ds G => match x, ds with
  | .t (.str a), [y] => (match asS G y with
    | some es => (match strsT es with
      | some ys => if (ys.map (·.length)).sum + ys.length * a.length ≤ 16777216 then .ok (.t (.str (Txt.join a ys))) G else .stuck
      | none => .stuck)
    | none => .stuck)
  | _, _ => .stuck
theorem okS_mem {x : Str} : okS x ↔ ∀ c ∈ x.cps.toList, c < 0x110000 := by
  unfold okS PyData.strOk
  rw [Array.all_eq_true']
  constructor
  · intro h c hc
    exact of_decide_eq_true (h c (Array.mem_def.mpr hc))
  · intro h c hc
    exact decide_eq_true (h c (Array.mem_def.mp hc))
theorem okS_join {a : Str} (ha : okS a) {ys : List Str} (hy : ∀ y ∈ ys, okS y) : okS (Txt.join a ys) := by
  refine ?G
  exact (by (intro h; exact h) : have h : (type_of% ?G) := (by
  rw [okS_mem] at ha ⊢
  have hy' : ∀ y ∈ ys, ∀ c ∈ y.cps.toList, c < 0x110000 := fun y hm => okS_mem.mp (hy y hm)
  rw [TL.join_eq]
  have e : (Str.join a ys).cps.toList = TL.joinL (TL.tl a) (ys.map TL.tl) := TL.tl_join a ys
  rw [e]
  have gen : ∀ ps : List (List Nat), (∀ p ∈ ps, ∀ c ∈ p, c < 0x110000) → ∀ c ∈ TL.joinL (TL.tl a) ps, c < 0x110000 := by
    intro ps
    induction ps with
    | nil => intro _ c hc; simp [TL.joinL] at hc
    | cons p ps ih =>
      intro h c hc
      cases ps with
      | nil => exact h p (by simp) c (by simpa [TL.joinL] using hc)
      | cons q ps =>
        rw [TL.joinL] at hc
        rcases List.mem_append.mp hc with hc | hc
        · exact h p (by simp) c hc
        · rcases List.mem_append.mp hc with hc | hc
          · exact ha c hc
          · exact ih (fun p' hp' => h p' (List.mem_cons_of_mem _ hp')) c hc
  refine gen _ ?_
  intro p hp c hc
  obtain ⟨y, hm, rfl⟩ := List.mem_map.mp hp
  exact hy' y hm c hc
 ); type_of% ?G)
section
variable {Z : Zc} {o e i : Expr} {do_ de di : De} {apos cpos pos p : Pos}
/-! ### xs[i] = e -/
def dSetL (o i e : De) : Dst := fun r G => (e r G).thn r fun y G1 => (o r G1).thn r fun x G2 => (i r G2).thn r fun z G3 => match x, z with
  | .loc j, .t (.int k) => (match G3[j]? with
    | some (.lst es) => (match ixN es.length k with
      | some n => if okIn j y = true then .nx r (G3.set j (.lst (es.set n y))) else .stuck
      | none => .stuck)
    | _ => .stuck)
  | _, _ => .stuck
theorem RpDs.set {g : Gm} {m : Nat → Addr} {n b : Nat} {H : Hp} {y : D} {u : V} (ru : RpD g m n b H y u) : ∀ {ds : List D} {vs : List V} (k : Nat), RpDs g m n b H ds vs → RpDs g m n b H (ds.set k y) (vs.set k u)
  | [], vs, k, r => by cases r; simp [RpDs]
  | d :: ds, vs, 0, ⟨v, ws, e, h, r⟩ => ⟨u, ws, by rw [e]; rfl, ru, r⟩
  | d :: ds, vs, k + 1, ⟨v, ws, e, h, r⟩ => ⟨v, ws.set k u, by rw [e]; rfl, h, RpDs.set ru k r⟩
/-! ### a, b = e1, e2 -/
end
end BL

set_option Elab.async false
set_option linter.all false
set_option maxRecDepth 100000
set_option maxHeartbeats 1000000
namespace BL
open PySem L2

/-! ### kinds of values; isinstance -/
inductive Kd where
  | non | bl | int | str | tup | lst | dk | obj (c : Nat)
def kind (G : Hs) : D → Option Kd
  | .t .non => some .non
  | .t (.bl _) => some .bl
  | .t (.int _) => some .int
  | .t (.str _) => some .str
  | .t (.tup _) => some .tup
  | .t (.lst _) => some .lst
  | .t (.dk _ _) => some .dk
  | .t (.obj c _ _) => some (.obj c)
  | .t (.ftp _) => some .tup
  | .t (.cls _) => none
  | .t (.nd _ _) => none
  | .loc i => match G[i]? with
    | some (.lst _) => some .lst
    | some (.flst _) => some .lst
    | some (.dk _) => some .dk
    | some (.ins c _) => some (.obj c)
    | some (.tpl _) => some .tup
    | some (.nd _) => none
    | some (.fnd _) => none
    | some (.fdk _) => none
    | some (.fn _) => none
    | none => none
/-- what must be known of a class, to ask what its objects are -/
structure InsF (K : PySem.W.Frag) (C : Addr) : Prop where
  cl : Cls K C
  ha : PySem.W.findIn K (.ref C) "__class__" = some (some (.builtin "object.__class__"))
  hn : PySem.W.specialIn K (.builtin "object.__class__") "__get__" = some (some (.builtin "getset_descriptor.__get__"))
  htk : PySem.W.takesIn K (.builtin "object.__class__") = some true
  hm : PySem.W.mroIn K C (.type "object") = some true
def kdV (g : Gm) : Kd → Value
  | .non => .type "NoneType" | .bl => .type "bool" | .int => .type "int" | .str => .type "str" | .tup => .type "tuple" | .lst => .type "list" | .dk => .type "dict"
  | .obj c => .ref (g.ca c)
def kdOk (g : Gm) : Kd → Prop
  | .obj c => InsF g.K (g.ca c)
  | _ => True
theorem kind_ty {g : Gm} {m : Nat → Addr} {H : Hp} {G : Hs} (s : SR g m H G) {x : D} {v : V} {k : Kd} (r : RpD g m G.length G.length H x v) (e : kind G x = some k) (hk : kdOk g k) : TyX g.K H v (kdV g k) := by
  refine ?G
  exact (by (intro h; exact h) : have h : (type_of% ?G) := (by
  cases x with
  | t t =>
    cases t with
    | non => cases e; cases r; exact .base .non
    | bl b => cases e; cases r; exact .base (.bl b)
    | int i => cases e; cases r; exact .base (.int i)
    | str z => cases e; obtain ⟨r, _⟩ := r; subst r; exact .base (.str z)
    | tup ts =>
      cases e
      obtain ⟨a, xs, rfl, h, _⟩ := r
      rcases h with (h | ⟨ob, h⟩) | ⟨o, its, n, h1, h2, _⟩
      · exact .base (.tup h)
      · exact .fTuple h
      · exact .kTuple h1 h2
    | lst ts =>
      cases e
      obtain ⟨a, xs, rfl, h, _⟩ := r
      rcases h with ⟨h | ⟨ob, h⟩, _⟩ | ⟨o, its, n, h1, h2, _⟩
      · exact .base (.lst h)
      · exact .base (.frz h)
      · exact .kList h1 h2
    | dk ks ts => cases e; obtain ⟨a, xs, rfl, h, _⟩ := r; exact .base (.dK h)
    | obj c ns ts => cases e; obtain ⟨a, dx, xs, rfl, h, _⟩ := r; exact .base (.ins h hk.cl hk.ha hk.hn hk.htk hk.hm)
    | ftp ts => cases e; obtain ⟨a, ob, xs, rfl, h, _⟩ := r; exact .fTuple h
    | cls c => cases e
    | nd ks ts => cases e
  | loc i =>
    obtain ⟨hi, rfl⟩ := r
    cases q : G[i]? with
    | none => simp [kind, q] at e
    | some o =>
      have ob := s.ob i _ q
      cases o with
      | lst ds => simp [kind, q] at e; subst e; obtain ⟨xs, h, _⟩ := ob; exact .base (.lst h)
      | flst ts => simp [kind, q] at e; subst e; obtain ⟨o', xs, h, _⟩ := ob; exact .base (.frz h)
      | dk kvs => simp [kind, q] at e; subst e; obtain ⟨xs, h, _⟩ := ob; exact .base (.dK h)
      | tpl ds => simp [kind, q] at e; subst e; obtain ⟨xs, h, _⟩ := ob; exact .base (.tup h)
      | nd kvs => simp [kind, q] at e
      | fnd kvs => simp [kind, q] at e
      | fdk kvs => simp [kind, q] at e
      | fn ds => simp [kind, q] at e
      | ins c fs => simp [kind, q] at e; subst e; obtain ⟨dx, xs, h, _⟩ := ob; exact .base (.ins h hk.cl hk.ha hk.hn hk.htk hk.hm)
 ); type_of% ?G)
/-- the test of a kind -/
def fIsi (t : Kd → Option Bool) : D → Hs → Re := fun x G => match kind G x with
  | some k => (match t k with
    | some b => .ok (.t (.bl b)) G
    | none => .stuck)
  | none => .stuck
/-- the answers are those of the class u -/
def IsiOk (g : Gm) (u : Value) (t : Kd → Option Bool) : Prop := ∀ k b, t k = some b → kdOk g k ∧ PySem.W.kitOne g.K (kdV g k) u = some b
def isInt : Kd → Option Bool
  | .int => some true | .bl => some true | .obj _ => none | _ => some false
def isBool : Kd → Option Bool
  | .bl => some true | .obj _ => none | _ => some false
def isStr : Kd → Option Bool
  | .str => some true | .obj _ => none | _ => some false
def isTup : Kd → Option Bool
  | .tup => some true | .obj _ => none | _ => some false
def isLst : Kd → Option Bool
  | .lst => some true | .obj _ => none | _ => some false
def isRow : Kd → Option Bool
  | .lst => some true | .tup => some true | .obj _ => none | _ => some false
/-- an own class; the classes os are others -/
def isOwn (c : Nat) (os : List Nat) : Kd → Option Bool
  | .obj c' => if c' = c then some true else if os.contains c' = true then some false else none
  | _ => some false
theorem isi_int {g : Gm} : IsiOk g (.type "int") isInt := by
  intro k b e
  cases k <;> first | (cases e; exact ⟨trivial, kit_ty (by decide +kernel)⟩) | cases e
theorem isi_bool {g : Gm} : IsiOk g (.type "bool") isBool := by
  intro k b e
  cases k <;> first | (cases e; exact ⟨trivial, kit_ty (by decide +kernel)⟩) | cases e
theorem isi_tup {g : Gm} : IsiOk g (.type "tuple") isTup := by
  intro k b e
  cases k <;> first | (cases e; exact ⟨trivial, kit_ty (by decide +kernel)⟩) | cases e
section
variable {Z : Zc} {e : Expr} {d : De} {x n : Str} {p p2 pos : Pos} {t : Kd → Option Bool}
theorem isi_of {W : WX} {u : Value} {c : V} {q : VK} (hu : ClsV c u) (ht : IsiOk Z.g u t) {σ : St} {H : Hp} {Q : VK} (h : tI Z.g W (dUn (fIsi t) d) σ H Q) : tCons (tI Z.g W d) (tCons (tC c) tNil) σ H fun vs H1 => rIsi Z.K vs H1 Q := by
  refine ?G
  exact (by (intro h; exact h) : have h : (type_of% ?G) := (by
  obtain ⟨m, r, G, s, sl, p⟩ := h
  refine tI_bind s sl p fun y G1 v m1 H1 e1 x1 s1 sl1 rv p1 => ?_
  unfold fIsi at p1
  split at p1
  · rename_i k ek
    split at p1
    · rename_i b eb
      obtain ⟨h1, h2⟩ := ht k b eb
      exact ⟨v, c, _, u, b, rfl, hu, kind_ty s1 rv ek h1, h2, PostE.ok s1 p1 rfl⟩
    · exact p1.elim
  · exact p1.elim
 ); type_of% ?G)
theorem pd_isiB {tn : String} (hm : Z.mg "isinstance" = none) (hmn : Z.mg n = none) (hv : bootBuiltins n = some (.type tn)) (ht : IsiOk Z.g (.type tn) t) (h : PD Z e d) (hg : GlS Z "isinstance" := by rfl) (hgn : GlS Z n := by rfl) (hn : n ≠ "__name__" := by decide) (hdb : (n == ("__debug__" : Str)) = false := by decide)
    (he : ∀ env, starEach [e, .Name n p2] env = (false, eval e env) :: starEach [.Name n p2] env := by intro _; rfl) (hpl : ∀ env, (backTo pos (starEach [.Name n p2] env)).any (·.1) = false := by intro _; rfl) :
    PD Z (.Call (.Name "isinstance" p) [e, .Name n p2] [] pos) (dUn (fIsi t) d) := by
  refine ?G
  exact (by (intro h; exact h) : have h : (type_of% ?G) := (fun X W ok => by
  refine peI (pe_callB call_isi (show X.env.scope.names.lookup _ = _ by rw [ok.sc]; exact hg) (by rw [ok.mg]; exact hm) (by decide +kernel) (pa_cons (h X W ok) (pa_cons (pe_bltn (v := .ty tn) (show X.env.scope.names.lookup _ = _ by rw [ok.sc]; exact hgn) (by rw [ok.mg]; exact hmn) hv rfl hn hdb) pa_nil) (he _)) (by decide) (by decide) (he _) (hpl _)) fun σ H Q h => ?_
  rw [show X.K = Z.K from ok.K]
  exact isi_of (q := Q) (.ty tn) ht h
 ); type_of% ?G)
theorem pd_isiC {c : Nat} (hm : Z.mg "isinstance" = none) (hmn : Z.mg n = some (.ref (Z.ca c))) (ht : IsiOk Z.g (.ref (Z.ca c)) t) (h : PD Z e d) (hg : GlS Z "isinstance" := by rfl) (hgn : GlS Z n := by rfl) (hdb : (n == ("__debug__" : Str)) = false := by decide)
    (he : ∀ env, starEach [e, .Name n p2] env = (false, eval e env) :: starEach [.Name n p2] env := by intro _; rfl) (hpl : ∀ env, (backTo pos (starEach [.Name n p2] env)).any (·.1) = false := by intro _; rfl) :
    PD Z (.Call (.Name "isinstance" p) [e, .Name n p2] [] pos) (dUn (fIsi t) d) := by
  refine ?G
  exact (by (intro h; exact h) : have h : (type_of% ?G) := (fun X W ok => by
  refine peI (pe_callB call_isi (show X.env.scope.names.lookup _ = _ by rw [ok.sc]; exact hg) (by rw [ok.mg]; exact hm) (by decide +kernel) (pa_cons (h X W ok) (pa_cons (pe_glob (v := .ref (Z.ca c)) (show X.env.scope.names.lookup _ = _ by rw [ok.sc]; exact hgn) (by rw [ok.mg]; exact hmn) rfl hdb) pa_nil) (he _)) (by decide) (by decide) (he _) (hpl _)) fun σ H Q h => ?_
  rw [show X.K = Z.K from ok.K]
  exact isi_of (q := Q) (.own _) ht h
 ); type_of% ?G)
end
end BL

set_option Elab.async false
set_option linter.all false
set_option maxRecDepth 100000
set_option maxHeartbeats 1000000
namespace BL
open PySem L2

/-! ### == and != of objects by their class's own __eq__ -/
section
variable {prog : Program} {w : World} {A : Around} {E : Value → Shared → Prop} {s : Shared} {K : PySem.W.Frag} {x C f : Addr} {ox : Obj} {od : Option Obj} {b tb : Value}
open PySem.W in
theorem special_bi {M : Model} {name : Str} {id : String} {args : List Value} {Q : Option Value → Shared → Prop} (X : K.In s.heap) (I : InstAt s.heap x ox C od) (hs : findIn K (.ref C) name = some (some (.builtin id))) (hb : ∀ v, bindSpecial (.builtin id) v = pure (.builtin id, [v]))
    (h : wpAny M A (call (.builtin id) (.ref x :: args)) (fun v => Q (some v)) E s) : wpAny M A (callSpecialIfBound? (.ref x) name args) Q E s := by
  refine ?G
  exact (by (intro h; exact h) : have h : (type_of% ?G) := (by
  simp only [callSpecialIfBound?, bindSpecialIfBound?]
  refine wpAny_holding (wpAny_bind (wpAny_bind (wpAny_bind (I.type.here ((looks_findIn X hs).here ?_)))))
  simp only [hb]
  refine wpAny_bind (wpAny_askSetting (wpAny_ite ?_))
  have last : wpAny M A (call (.builtin id) ([.ref x] ++ args) >>= fun v => pure (some v)) Q E s := wpAny_bind (wpAny_mono h (fun v s' q => wpAny_pure q) fun _ _ q => q)
  split
  · exact wpAny_bind (wpAny_pure (wpAny_pure last))
  · exact wpAny_tryCatch (wpAny_bind (wpAny_pure (wpAny_pure last)))
 ); type_of% ?G)
open PySem.W in
/-- a comparison that the left one's own method answers -/
theorem cmp_first {op : CmpOp} {Q : Value → Shared → Prop} (hu : A.units < cLine) (X : K.In s.heap) (I : InstAt s.heap x ox C od) (hb : Looks (model prog w) s.heap (typeOf b) tb) (hn : notFirst K C tb = true)
    (ans : wpAny (model prog w) A (tryCompare (.ref x) (cmpInfo op).2.1 b) (fun r s' => ∃ v, r = some v ∧ Q v s') E s) : wpAny (model prog w) A (richCompare op (.ref x) b) Q E s := by
  refine ?G
  exact (by (intro h; exact h) : have h : (type_of% ?G) := (by
  have told : ∀ {k : Option Value → Sem Value}, (∀ v, k (some v) = pure v) → wpAny (model prog w) A (tryCompare (.ref x) (cmpInfo op).2.1 b >>= k) Q E s := fun hk =>
    wpAny_bind (wpAny_mono ans (fun r s' ⟨v, e, q⟩ => by rw [e, hk]; exact wpAny_pure q) fun _ _ z => z)
  unfold richCompare
  simp only [oneThing_ref]
  refine wpAny_holding (wpAny_bind (wpAny_cRoomFor hu (wpAny_bind (I.type.here (wpAny_bind (hb.here ?_))))))
  cases same : (Value.ref C == tb) with
  | true =>
    have out : (Value.ref C != tb) = false := by unfold bne; rw [same]; rfl
    simp only [out, Bool.false_eq_true, if_false]
    exact wpAny_bind (wpAny_pure (by simp only [Bool.false_eq_true, if_false]; exact told fun _ => rfl))
  | false =>
    have out : (Value.ref C != tb) = true := by unfold bne; rw [same]; rfl
    have low : subIn K tb (.ref C) = some false := by
      have other : ¬ tb = Value.ref C := fun z => by rw [z] at same; simp at same
      have two : tb = Value.ref C ∨ subIn K tb (.ref C) = some false := by unfold notFirst at hn; simpa using hn
      exact two.resolve_left other
    simp only [out, if_true]
    exact wpAny_bind ((looks_subIn X low).here (by simp only [Bool.false_eq_true, if_false]; exact told fun _ => rfl))
 ); type_of% ?G)
open PySem.W in
/-- x != b, by __eq__ turned round -/
theorem ne_inst {Q : Value → Shared → Prop} (hu : A.units + 1 < cLine) (X : K.In s.heap) (I : InstAt s.heap x ox C od) (hb : Looks (model prog w) s.heap (typeOf b) tb) (hn : notFirst K C tb = true)
    (hne : findIn K (.ref C) "__ne__" = some (some (.builtin "object.__ne__"))) (hs : findIn K (.ref C) "__eq__" = some (some (.ref f))) (hf : isFn K (.ref f) = true) (hm : mroIn K C (.type "object") = some true)
    (h : wpAny (model prog w) A.in1 (call (.ref f) [.ref x, b]) (fun v s' => ∃ r, v = .bool r ∧ Q (.bool (!r)) s') E s) : wpAny (model prog w) A (richCompare .NotEq (.ref x) b) Q E s := by
  refine ?G
  exact (by (intro h; exact h) : have h : (type_of% ?G) := (by
  have asked : wpAny (model prog w) A.in1 (callSpecialIfBound? (.ref x) "__eq__" [b]) (fun r s' => ∃ t, r = some (.bool t) ∧ Q (.bool (!t)) s') E s :=
    ifBound_K X I hs hf (wpAny_mono h (fun v s' ⟨t, e, q⟩ => ⟨t, by rw [e], q⟩) fun _ _ z => z)
  refine cmp_first (Nat.lt_of_succ_lt hu) X I hb hn ?_
  refine wpAny_bind (m := callSpecialIfBound? (.ref x) (cmpInfo .NotEq).2.1 [b]) (special_bi X I hne F.cmp_object.ne.bind ?_)
  refine wpAny_call (codeAny_call_builtin F.cmp_object.ne.plain F.cmpEntry_ne (PySem.W.check_slot F.cmpKind_ne F.cmpSplit_ne (I.type.andThen (looks_mroIn X hm)) (F.cmpArgs_ne _ _) ?_))
  show wpAny _ _ (slotArgs "__ne__" 1 _ >>= _) _ _ _
  refine wpAny_bind (wpAny_pure (wpAny_bind (wpAny_cRoomFor hu (wpAny_bind (wpAny_mono asked (fun r s' ⟨t, e, q⟩ => ?_) fun _ _ z => z)))))
  rw [e]
  exact wpAny_bind (wpAny_truthy_bool (wpAny_pure (wpAny_pure ⟨_, rfl, q⟩)))
 ); type_of% ?G)
end
/-- x == y, x != y: x an object of the class at C -/
def rEqO (K : PySem.W.Frag) (C : Addr) (neg : Bool) (sp : Sp) : R2 := fun x y H Q => ∃ a dx fs t, x = .ref a ∧ H a = some (.ins C dx fs) ∧ TyX K H y t ∧ PySem.W.notFirst K C t = true ∧ sp [x, y] H (fun v H' => ∃ b, v = .bl b ∧ Q (.bl (if neg then !b else b)) H') E0
section
variable {X : Cx} {k : Nat} {f C : Addr} {fd : FuncData} {ps : List Str} {sp : Sp}
theorem run_eq {A : Around} {pins : List (Addr × Obj)} {σ : St} {H : Hp} {s : Shared} {a : Addr} {y : V} {u : Value} {R : V → Hp → Prop} {Q' : Value → Shared → Prop} (F : FnOk X.prog X.w X.K X.mg X.base (L2.CX X.prog X.w) k f fd ps sp) (hr : Room k A) (hfr : A.frames = X.A.frames) (hb : Binds X.K fd ps []) (I : Inv X pins σ H s) (ry : RelV y u)
    (h : sp [.ref a, y] H R E0) (hQ : ∀ v' v H' s', Inv X pins σ H' s' → RelV v v' → R v H' → Q' v' s') : wpAny (model X.prog X.w) A (call (.ref f) [.ref a, u]) Q' X.xe s := by
  refine ?G
  exact (by (intro h; exact h) : have h : (type_of% ?G) := (by
  have e0 : Env0 X.prog X.w X.K X.mg X.base A X.stack s H := by
    have e := I.env0
    exact ⟨by rw [hfr]; exact e.frames, e.mod, e.bs, e.bsz, e.funs, e.frf, e.hok, e.bare⟩
  have hl := F.len _ _ _ _ h
  have r2 : Vals [V.ref a, y] [Value.ref a, u] := .cons rfl (.cons ry .nil)
  refine wpAny_call (codeAny_mono (F.run A X.stack s H ⟨[.ref a, u], []⟩ [.ref a, u] [.ref a, y] R E0 hr e0 (by
    have := hb s [.ref a, u] I.kIn (by simpa using hl)
    simpa using this) r2 h) fun r s' hq => ?_)
  cases r with
  | error e => exact passL pins σ H s e s' I hq
  | ok fl =>
    cases fl with
    | ret v' =>
      obtain ⟨v, H', I', rv, q⟩ := I.after hq
      exact hQ v' v H' s' I' rv q
    | next => exact hq.elim
    | brk => exact hq.elim
    | cont => exact hq.elim
 ); type_of% ?G)
theorem op_eqO (F : FnOk X.prog X.w X.K X.mg X.base (L2.CX X.prog X.w) k f fd ps sp) (hr : Room k X.A) (hb : Binds X.K fd ps []) (hs : PySem.W.findIn X.K (.ref C) "__eq__" = some (some (.ref f))) (hf : PySem.W.isFn X.K (.ref f) = true) : OpR X (compareOp .Eq) (rEqO X.K C false sp) := by
  refine ?G
  exact (by (intro h; exact h) : have h : (type_of% ?G) := (by
  intro pins s σ H x y v u Q I rx ry h
  obtain ⟨a, dx, fs, t, rfl, ha, ty, hn, h⟩ := h
  cases rx
  obtain ⟨mA, J, _⟩ := ins_get I.hok ha
  obtain ⟨od, J, _⟩ := J.look
  obtain ⟨P, KX, hP, _⟩ := kit_of I ry ty
  obtain ⟨m, hF⟩ := I.fr
  refine PySem.W.cmp_K (op := .Eq) (tb := t) hr.units0 hF I.ok.mod.kin J (KX.ty _ _ I.kIn hP) hn hs hf ?_
  refine run_eq F hr rfl hb I ry h fun v' v H' s' I' rv ⟨b, eb, q⟩ => ?_
  subst eb
  cases rv
  exact ⟨.bl b, H', I', rfl, q⟩
 ); type_of% ?G)
theorem op_neO (F : FnOk X.prog X.w X.K X.mg X.base (L2.CX X.prog X.w) k f fd ps sp) (hr : Room (k + 1) X.A) (hb : Binds X.K fd ps []) (hs : PySem.W.findIn X.K (.ref C) "__eq__" = some (some (.ref f))) (hf : PySem.W.isFn X.K (.ref f) = true)
    (hne : PySem.W.findIn X.K (.ref C) "__ne__" = some (some (.builtin "object.__ne__"))) (hm : PySem.W.mroIn X.K C (.type "object") = some true) : OpR X (compareOp .NotEq) (rEqO X.K C true sp) := by
  refine ?G
  exact (by (intro h; exact h) : have h : (type_of% ?G) := (by
  intro pins s σ H x y v u Q I rx ry h
  obtain ⟨a, dx, fs, t, rfl, ha, ty, hn, h⟩ := h
  cases rx
  obtain ⟨mA, J, _⟩ := ins_get I.hok ha
  obtain ⟨od, J, _⟩ := J.look
  obtain ⟨P, KX, hP, _⟩ := kit_of I ry ty
  refine ne_inst (b := u) (tb := t) (hu_of hr) I.kIn J (KX.ty _ _ I.kIn hP) hn hne hs hf hm ?_
  refine run_eq F hr.in1 rfl hb I ry h fun v' v H' s' I' rv ⟨b, eb, q⟩ => ?_
  subst eb
  cases rv
  exact ⟨b, rfl, .bl (!b), H', I', rfl, q⟩
 ); type_of% ?G)
end
/-- what must be known of a class with an own __eq__ -/
structure EqF (K : PySem.W.Frag) (C f : Addr) : Prop where
  hs : PySem.W.findIn K (.ref C) "__eq__" = some (some (.ref f))
  hf : PySem.W.isFn K (.ref f) = true
  hne : PySem.W.findIn K (.ref C) "__ne__" = some (some (.builtin "object.__ne__"))
  hm : PySem.W.mroIn K C (.type "object") = some true
/-- the other one's kinds: none of them is a class below -/
def okKd (c : Nat) (oth : List Nat) : Option Kd → Bool
  | some (.obj c') => decide (c' = c) || oth.contains c'
  | some _ => true
  | none => false
def flipB (neg : Bool) : Re → Re
  | .ok (.t (.bl b)) G' => .ok (.t (.bl (if neg then !b else b))) G'
  | _ => .stuck
def fEqO (c : Nat) (oth : List Nat) (neg : Bool) (F : Fd) : D → D → Hs → Re := fun x y G => if (isObj' c G x && okKd c oth (kind G y)) = true then flipB neg (F [x, y] G) else .stuck
theorem notFirst_ty {K : PySem.W.Frag} {C : Addr} {n : String} (h : (fastBuiltinMro n).map (fun l => l.all fun v => match v with | .type _ => true | _ => false) = some true) : PySem.W.notFirst K C (.type n) = true := by
  refine ?G
  exact (by (intro h; exact h) : have h : (type_of% ?G) := (by
  unfold PySem.W.notFirst
  have : PySem.W.subIn K (.type n) (.ref C) = some false := by
    show (fastBuiltinMro n).map (·.contains (.ref C)) = some false
    cases q : fastBuiltinMro n with
    | none => rw [q] at h; cases h
    | some l =>
      rw [q] at h
      have h1 : (l.all fun v => match v with | .type _ => true | _ => false) = true := Option.some.inj h
      show some (l.contains (.ref C)) = some false
      congr 1
      rw [List.all_eq_true] at h1
      rw [Bool.eq_false_iff]
      intro hc
      have := h1 (.ref C) (by simpa using hc)
      simp at this
  rw [this]; simp
 ); type_of% ?G)
section
variable {Z : Zc} {a b : Expr} {da db : De} {c k : Nat} {oth : List Nat} {f : Addr} {fd : FuncData} {ps : List Str} {F : Fd} {pos : Pos}
theorem a_eqO {neg : Bool} (hi : ∀ c', c' = c ∨ c' ∈ oth → InsF Z.K (Z.ca c')) (ho : ∀ c', c' ∈ oth → PySem.W.notFirst Z.K (Z.ca c) (.ref (Z.ca c')) = true) (hn : 2 = ps.length) : OpA Z.g (rEqO Z.K (Z.ca c) neg (spD Z.g ps.length F)) (fEqO c oth neg F) := by
  refine ?G
  exact (by (intro h; exact h) : have h : (type_of% ?G) := (by
  intro W m H G σ Q x y v u s rx ry p
  unfold fEqO at p
  split at p
  · rename_i hxk
    obtain ⟨hx, hk⟩ := Bool.and_eq_true_iff.mp hxk
    cases ek : kind G y with
    | none => rw [ek] at hk; cases hk
    | some kd =>
    rw [ek] at hk
    have hko : kdOk Z.g kd := by
      cases kd with
      | obj c' =>
        simp only [okKd, Bool.or_eq_true, decide_eq_true_eq] at hk
        exact hi c' (hk.imp id (by simp))
      | _ => trivial
    have ty := kind_ty s ry ek hko
    obtain ⟨A0, dx, fs, rfl, h1⟩ : ∃ a dx fs, v = .ref a ∧ H a = some (.ins (Z.ca c) dx fs) := by
      cases x with
      | t t =>
        cases t with
        | obj c' ns ts =>
          simp only [isObj', decide_eq_true_eq] at hx
          subst hx
          obtain ⟨a, dx, xs, rfl, h, _⟩ := rx
          exact ⟨a, dx, _, rfl, h⟩
        | _ => cases hx
      | loc i =>
        obtain ⟨hi', rfl⟩ := rx
        cases q : G[i]? with
        | none => simp [isObj', q] at hx
        | some o =>
          cases o with
          | ins c' fs =>
            simp [isObj', q] at hx
            subst hx
            obtain ⟨dx, xs, h, r⟩ := s.ob i _ q
            exact ⟨_, dx, _, rfl, h⟩
          | lst _ => simp [isObj', q] at hx
          | dk _ => simp [isObj', q] at hx
          | flst _ => simp [isObj', q] at hx
          | tpl _ => simp [isObj', q] at hx
          | nd _ => simp [isObj', q] at hx
          | fnd _ => simp [isObj', q] at hx
          | fdk _ => simp [isObj', q] at hx
          | fn _ => simp [isObj', q] at hx
    refine ⟨A0, dx, fs, kdV Z.g kd, rfl, h1, ty, ?_, ?_⟩
    · cases kd with
      | obj c' =>
        simp only [okKd, Bool.or_eq_true, decide_eq_true_eq] at hk
        rcases hk with rfl | hk
        · unfold PySem.W.notFirst; simp [kdV]; exact .inl rfl
        · exact ho c' (by simpa using hk)
      | _ => exact notFirst_ty (by decide +kernel)
    · refine ⟨hn, Z.g.rv, m, G, [x, y], s, ⟨_, _, rfl, rx, _, _, rfl, ry, rfl⟩, ?_⟩
      cases e : F [x, y] G with
      | stuck => rw [e] at p; exact p.elim
      | exc _ _ _ _ => rw [e] at p; exact p.elim
      | ok d G' =>
        rw [e] at p
        intro v' m' H' x' s' rv'
        have : ∃ b, d = .t (.bl b) := by
          cases d with
          | t t => cases t <;> first | exact ⟨_, rfl⟩ | exact p.elim
          | loc i => exact p.elim
        obtain ⟨b, rfl⟩ := this
        exact ⟨b, rv', p _ m' H' x' s' rfl⟩
  · exact p.elim
 ); type_of% ?G)
theorem opO {X : Cx} {W : WX} (ok : Ok Z X W) (h : FnD Z.toZb k f fd ps F) (hk : k + 1 ≤ Z.k) (hb : Binds Z.K fd ps []) (hE : EqF Z.K (Z.ca c) f) :
    OpR X (compareOp .Eq) (rEqO Z.K (Z.ca c) false (spD Z.g ps.length F)) ∧ OpR X (compareOp .NotEq) (rEqO Z.K (Z.ca c) true (spD Z.g ps.length F)) := by
  refine ?G
  exact (by (intro h; exact h) : have h : (type_of% ?G) := (by
  have hF : FnOk X.prog X.w X.K X.mg X.base (L2.CX X.prog X.w) k f fd ps (spD Z.g ps.length F) := by rw [ok.P, ok.w, ok.K, ok.mg, ok.base]; exact h.ok
  have hB : Binds X.K fd ps [] := by rw [ok.K]; exact hb
  have r1 : Room (k + 1) X.A := ok.rm.mono hk
  constructor
  · have := op_eqO (C := Z.ca c) hF (r1.mono (Nat.le_succ _)) hB (by rw [ok.K]; exact hE.hs) (by rw [ok.K]; exact hE.hf)
    rw [ok.K] at this; exact this
  · have := op_neO (C := Z.ca c) hF r1 hB (by rw [ok.K]; exact hE.hs) (by rw [ok.K]; exact hE.hf) (by rw [ok.K]; exact hE.hne) (by rw [ok.K]; exact hE.hm)
    rw [ok.K] at this; exact this
 ); type_of% ?G)
theorem pd_eqO (h : FnD Z.toZb k f fd ps F) (hk : k + 1 ≤ Z.k) (hb : Binds Z.K fd ps []) (hE : EqF Z.K (Z.ca c) f) (hi : ∀ c', c' = c ∨ c' ∈ oth → InsF Z.K (Z.ca c')) (ho : ∀ c', c' ∈ oth → PySem.W.notFirst Z.K (Z.ca c) (.ref (Z.ca c')) = true) (hn : 2 = ps.length) (ha : PD Z a da) (hb' : PD Z b db) :
    PD Z (.Compare a [.Eq] [b] pos) (dBin (fEqO c oth false F) da db) := pd_cmp (fun _ => _) (fun X W ok => (opO ok h hk hb hE).1) (fun _ _ _ => a_eqO hi ho hn) ha hb' (nomark _)
theorem pd_neO (h : FnD Z.toZb k f fd ps F) (hk : k + 1 ≤ Z.k) (hb : Binds Z.K fd ps []) (hE : EqF Z.K (Z.ca c) f) (hi : ∀ c', c' = c ∨ c' ∈ oth → InsF Z.K (Z.ca c')) (ho : ∀ c', c' ∈ oth → PySem.W.notFirst Z.K (Z.ca c) (.ref (Z.ca c')) = true) (hn : 2 = ps.length) (ha : PD Z a da) (hb' : PD Z b db) :
    PD Z (.Compare a [.NotEq] [b] pos) (dBin (fEqO c oth true F) da db) := pd_cmp (fun _ => _) (fun X W ok => (opO ok h hk hb hE).2) (fun _ _ _ => a_eqO hi ho hn) ha hb' (nomark _)
end
end BL

set_option Elab.async false
set_option linter.all false
set_option maxRecDepth 100000
set_option maxHeartbeats 1000000
namespace BL
open PySem L2

/-! ### enumerate, over whatever iterator stands under it -/
/-- pairs of a number and what the inner iterator gives -/
def Itp (go : Nat → Hp → Prop) (giv : Nat → Hp → V → Prop) (stop : Nat → Hp → Prop) : It where
  go := go
  yld := fun i H y H' => ∃ T x, y = .ref T ∧ H T = none ∧ H' = upd H T (.tup [.int (i : Nat), x]) ∧ giv i H x
  stop := stop
/-- an iterator that may stand under an enumerate at e: Inn i tells that it stands at its place i -/
structure Under (P : Program) (w : World) (K : PySem.W.Frag) (e it : Addr) (Inn : Nat → Heap → Prop) (go : Nat → Hp → Prop) (giv : Nat → Hp → V → Prop) (stop : Nat → Hp → Prop) : Prop where
  ne : e ≠ it
  obj : ∀ i h, Inn i h → ∃ o vs, h.get? it = some o ∧ o.data = .fields vs
  keep : ∀ i h h', Inn i h → (∀ o, h.get? it = some o → h'.get? it = some o) → Inn i h'
  item : ∀ (X : Cx), X.prog = P → X.w = w → X.K = K → X.calm = true → ∀ (i : Nat) (pins : List (Addr × Obj)) (s : Shared) (σ : St) (H : Hp), Inv X pins σ H s → Inn i s.heap → (∃ old, IsEnum s.heap e it ((i : Nat) : Int) old) → go i H →
    ∃ (fp : List Addr) (n : Nat) (PV : Nat → Value → Prop) (St : Nat → Heap → Prop), Draws P w X.A.in1 it fp n PV St ∧ St i s.heap ∧ i < n ∧ e ∉ fp ∧ (∀ h', St (i + 1) h' → Inn (i + 1) h') ∧ ∀ v, PV i v → ∃ x, RelV x v ∧ giv i H x
  done : ∀ (X : Cx), X.prog = P → X.w = w → X.K = K → X.calm = true → ∀ (i : Nat) (pins : List (Addr × Obj)) (s : Shared) (σ : St) (H : Hp), Inv X pins σ H s → Inn i s.heap → stop i H → ∀ (Q E : Value → Shared → Prop),
    (∀ h' x, Heap.ExtBut it s.heap h' → (∃ o, h'.get? x = some o ∧ o.cls = .type "StopIteration") → E (.ref x) { s with heap := h' }) → wpAny (model P w) X.A.in1 (Builtin.SmallTypes.nextOf (.ref it)) Q E s
section
variable {P : Program} {w : World} {K : PySem.W.Frag} {e it : Addr} {Inn : Nat → Heap → Prop} {go : Nat → Hp → Prop} {giv : Nat → Hp → V → Prop} {stop : Nat → Hp → Prop}
end
/-! ### making it -/
section
variable {prog : Program} {w : World} {A : Around} {E : Value → Shared → Prop} {s : Shared}
end
/-! ### over a tuple -/
def IteT (K : PySem.W.Frag) (a : Addr) : It := Itp (fun i H => ∃ (xs : List V) (x : V), SqT K H a xs ∧ xs[i]? = some x) (fun i H x => ∀ xs, SqT K H a xs → xs[i]? = some x) (fun i H => ∃ xs : List V, SqT K H a xs ∧ xs.length ≤ i)
def iEnumT (K : PySem.W.Frag) (ta : TA) : TI := fun σ H R => ta σ H fun vs H1 => ∃ a xs, vs = [.ref a] ∧ SqT K H1 a xs ∧ R (IteT K a) H1
/-! ### enumerate, a list or a tuple -/
def enumIms (ds : List D) : List Im := (List.range ds.length).zipWith (fun i d => Im.two (.t (.int (i : Nat))) d) ds
section
variable {g : Gm} {m : Nat → Addr} {n : Nat} {H : Hp} {G : Hs}
end
end BL

set_option Elab.async false
set_option linter.all false
set_option maxRecDepth 100000
set_option maxHeartbeats 1000000
namespace BL
open PySem L2

/-! ### enumerate -/
def iEn (d : De) : Di := fun r G => (d r G).itr fun x G1 => match asT x with
  | some ds => .ok (enumIms ds) none G1
  | none => match asL G1 x with
    | some ds => .ok (enumIms ds) (kpOf G1 x) G1
    | none => .stuck
section
variable {Z : Zc} {e : Expr} {d : De} {p pos tpos : Pos} {elts : List Expr} {kk : Nat}
end
/-! ### isinstance with two classes -/
theorem isi_own {g : Gm} {c : Nat} {os : List Nat} (hi : ∀ c', c' = c ∨ c' ∈ os → InsF g.K (g.ca c'))
    (hty : ∀ n, n ∈ ["NoneType", "bool", "int", "str", "tuple", "list", "dict"] → PySem.W.kitOne g.K (.type n) (.ref (g.ca c)) = some false) (hc : PySem.W.kitOne g.K (.ref (g.ca c)) (.ref (g.ca c)) = some true) (ho : ∀ c', c' ∈ os → PySem.W.kitOne g.K (.ref (g.ca c')) (.ref (g.ca c)) = some false) : IsiOk g (.ref (g.ca c)) (isOwn c os) := by
  refine ?G
  exact (by (intro h; exact h) : have h : (type_of% ?G) := (by
  intro k b e
  cases k with
  | obj c' =>
    simp only [isOwn] at e
    split at e
    · rename_i q
      cases e
      subst q
      exact ⟨hi _ (.inl rfl), hc⟩
    · split at e
      · rename_i q
        cases e
        have q' : c' ∈ os := by simpa using q
        exact ⟨hi _ (.inr q'), ho _ q'⟩
      · cases e
  | _ => cases e; exact ⟨trivial, hty _ (by simp)⟩
 ); type_of% ?G)
/-- the tests of two classes, one after the other -/
def isOr (t u : Kd → Option Bool) : Kd → Option Bool := fun k => match t k with
  | some true => some true
  | some false => u k
  | none => none
section
variable {Z : Zc} {e : Expr} {d : De} {n n2 : Str} {p p2 p3 p4 pos : Pos} {kk : Nat} {t t2 : Kd → Option Bool}
end
/-! ### len of an object by its class's own __len__ -/
section
open PySem.W
variable {prog : Program} {w : World} {A : Around} {E : Value → Shared → Prop} {s : Shared} {K : PySem.W.Frag} {x C f : Addr} {ox : Obj} {od : Option Obj}
end
theorem run_one {X : Cx} {k : Nat} {f : Addr} {fd : FuncData} {ps : List Str} {sp : Sp} {A : Around} {pins : List (Addr × Obj)} {σ : St} {H : Hp} {s : Shared} {vs : List V} {us : List Value} {R : V → Hp → Prop} {Q' : Value → Shared → Prop} (F : FnOk X.prog X.w X.K X.mg X.base (L2.CX X.prog X.w) k f fd ps sp) (hr : Room k A) (hfr : A.frames = X.A.frames) (hb : Binds X.K fd ps []) (I : Inv X pins σ H s) (r2 : Vals vs us)
    (h : sp vs H R E0) (hQ : ∀ v' v H' s', Inv X pins σ H' s' → RelV v v' → R v H' → Q' v' s') : wpAny (model X.prog X.w) A (call (.ref f) us) Q' X.xe s := by
  refine ?G
  exact (by (intro h; exact h) : have h : (type_of% ?G) := (by
  have e0 : Env0 X.prog X.w X.K X.mg X.base A X.stack s H := by
    have e := I.env0
    exact ⟨by rw [hfr]; exact e.frames, e.mod, e.bs, e.bsz, e.funs, e.frf, e.hok, e.bare⟩
  have hl : us.length = ps.length := (F.len _ _ _ _ h ▸ r2.length).symm
  refine wpAny_call (codeAny_mono (F.run A X.stack s H ⟨us, []⟩ us vs R E0 hr e0 (by
    have := hb s us I.kIn (by simpa using hl)
    simpa using this) r2 h) fun r s' hq => ?_)
  cases r with
  | error e => exact passL pins σ H s e s' I hq
  | ok fl =>
    cases fl with
    | ret v' =>
      obtain ⟨v, H', I', rv, q⟩ := I.after hq
      exact hQ v' v H' s' I' rv q
    | next => exact hq.elim
    | brk => exact hq.elim
    | cont => exact hq.elim
 ); type_of% ?G)
/-- what must be known of a class with an own __len__ -/
structure LenF (K : PySem.W.Frag) (C f : Addr) : Prop where
  hs : PySem.W.findIn K (.ref C) "__len__" = some (some (.ref f))
  hf : PySem.W.isFn K (.ref f) = true
def rLenO (K : PySem.W.Frag) (C : Addr) (sp : Sp) : List V → Hp → VK → Prop := fun xs H Q => ∃ a dx fs, xs = [.ref a] ∧ H a = some (.ins C dx fs) ∧ sp [.ref a] H (fun v H' => ∃ n : Int, v = .int n ∧ 0 ≤ n ∧ n < 2 ^ 63 ∧ Q (.int n) H') E0
/-- len of an object: what __len__ gives -/
def okLen : Re → Re
  | .ok (.t (.int n)) G' => if 0 ≤ n ∧ n < 2 ^ 63 then .ok (.t (.int n)) G' else .stuck
  | _ => .stuck
def fLenO (c : Nat) (F : Fd) : List D → Hs → Re
  | [x], G => if isObj' c G x = true then okLen (F [x] G) else .stuck
  | _, _ => .stuck
theorem isObj_rp {g : Gm} {m : Nat → Addr} {H : Hp} {G : Hs} (s : SR g m H G) {x : D} {v : V} {c : Nat} (rx : RpD g m G.length G.length H x v) (hx : isObj' c G x = true) : ∃ a dx fs, v = .ref a ∧ H a = some (.ins (g.ca c) dx fs) := by
  refine ?G
  exact (by (intro h; exact h) : have h : (type_of% ?G) := (by
  cases x with
  | t t =>
    cases t with
    | obj c' ns ts =>
      simp only [isObj', decide_eq_true_eq] at hx
      subst hx
      obtain ⟨a, dx, xs, rfl, h, _⟩ := rx
      exact ⟨a, dx, _, rfl, h⟩
    | _ => cases hx
  | loc i =>
    obtain ⟨hi', rfl⟩ := rx
    cases q : G[i]? with
    | none => simp [isObj', q] at hx
    | some o =>
      cases o with
      | ins c' fs =>
        simp [isObj', q] at hx
        subst hx
        obtain ⟨dx, xs, h, r⟩ := s.ob i _ q
        exact ⟨_, dx, _, rfl, h⟩
      | lst _ => simp [isObj', q] at hx
      | dk _ => simp [isObj', q] at hx
      | flst _ => simp [isObj', q] at hx
      | tpl _ => simp [isObj', q] at hx
      | nd _ => simp [isObj', q] at hx
      | fnd _ => simp [isObj', q] at hx
      | fdk _ => simp [isObj', q] at hx
      | fn _ => simp [isObj', q] at hx
 ); type_of% ?G)
section
variable {Z : Zc} {e : Expr} {d : De} {c k : Nat} {f : Addr} {fd : FuncData} {ps : List Str} {F : Fd} {p pos : Pos}
end
end BL

set_option Elab.async false
set_option linter.all false
set_option maxRecDepth 100000
set_option maxHeartbeats 1000000
namespace BL
open PySem L2

def Zc.wv (Z : Zc) (rv : List Addr) : Zc := { Z with rv := rv }
theorem Ok.wv {Z : Zc} {X : Cx} {W : WX} (ok : Ok Z X W) (rv : List Addr) : Ok (Z.wv rv) X W := ⟨ok.P, ok.w, ok.K, ok.mg, ok.base, ok.N, ok.sc, ok.fn, ok.nd, ok.calm, ok.tk, ok.po, ok.rm, ok.cq, ok.av, ok.st⟩
/-- what was being filled becomes a located object -/
theorem SR.adopt {g : Gm} {m m2 : Nat → Addr} {n : Nat} {H H2 : Hp} {G2 : Hs} {Da : Addr} {ob : O} (hn : H Da = none) (hnr : Da ∉ g.rv) (x : Ex m n H m2 G2.length H2) (s : SR (g.rvd (Da :: g.rv)) m2 H2 G2)
    (ho : ∀ mv : Mv (g.rvd (Da :: g.rv)) m2 G2.length H2 g (mAt m2 G2.length Da) (G2.length + 1) H2, OR g (mAt m2 G2.length Da) (G2.length + 1) G2.length H2 ob) :
    Ex m n H (mAt m2 G2.length Da) (G2 ++ [ob]).length H2 ∧ SR g (mAt m2 G2.length Da) H2 (G2 ++ [ob]) := by
  refine ?G
  exact (by (intro h; exact h) : have h : (type_of% ?G) := (by
  have hl : (G2 ++ [ob]).length = G2.length + 1 := by simp
  have nb := (s.rv Da (List.mem_cons_self)).2
  have mv : Mv (g.rvd (Da :: g.rv)) m2 G2.length H2 g (mAt m2 G2.length Da) (G2.length + 1) H2 := ⟨rfl, fun a o h nb ht => ⟨h, fun q => by
    rcases q with ⟨i, hi, e⟩ | q
    · by_cases h2 : i < G2.length
      · rw [mAt_lt h2] at e; exact nb (.inl ⟨i, h2, e⟩)
      · have : i = G2.length := by omega
        subst this
        rw [mAt_same] at e
        subst e
        exact nb (.inr List.mem_cons_self)
    · exact nb (.inr (List.mem_cons_of_mem _ q))⟩, fun _ _ h => h, fun i hi => mAt_lt hi⟩
  refine ⟨?_, ?_⟩
  · rw [hl]
    exact ⟨Nat.le_succ_of_le x.le, x.tk, fun i hi => (mAt_lt (Nat.lt_of_lt_of_le hi x.le)).trans (x.ag i hi), fun i h1 h2 => by
      by_cases q : i < G2.length
      · rw [mAt_lt q]; exact x.fr i h1 q
      · have : i = G2.length := by omega
        subst this
        rw [mAt_same, hn]; exact (fun o e => nomatch e), x.kp⟩
  · refine ⟨fun i u e => ?_, fun i j h1 h2 e => ?_, s.sz, s.tb, fun a ha => ?_⟩
    · rw [hl]
      by_cases hi : i < G2.length
      · rw [List.getElem?_append_left hi] at e
        exact OR.mv mv (Nat.le_succ _) hi rfl (s.ob i u e)
      · have h2 := getLt e
        have : i = G2.length := by omega
        subst this
        simp at e
        subst e
        exact ho mv
    · rw [hl] at h1 h2
      by_cases hi : i < G2.length
      · by_cases hj : j < G2.length
        · rw [mAt_lt hi, mAt_lt hj] at e; exact s.inj i j hi hj e
        · have : j = G2.length := by omega
          subst this
          rw [mAt_lt hi, mAt_same] at e
          exact (nb ⟨i, hi, e⟩).elim
      · have : i = G2.length := by omega
        subst this
        by_cases hj : j < G2.length
        · rw [mAt_lt hj, mAt_same] at e
          exact (nb ⟨j, hj, e.symm⟩).elim
        · omega
    · obtain ⟨h1, h2⟩ := s.rv a (List.mem_cons_of_mem _ ha)
      refine ⟨h1, ?_⟩
      rw [hl]
      rintro ⟨i, hi, e⟩
      by_cases q : i < G2.length
      · rw [mAt_lt q] at e; exact h2 ⟨i, q, e⟩
      · have : i = G2.length := by omega
        subst this
        rw [mAt_same] at e
        subst e
        exact hnr ha
 ); type_of% ?G)
/-! ### {k: v, ..}, the keys texts that are written -/
def mergeA (kvs more : List (Key × D)) : List (Key × D) := more.foldl (fun acc kv => putA acc kv.1 kv.2) kvs
theorem mergeA_rp {g : Gm} {m : Nat → Addr} {n b : Nat} {H : Hp} : ∀ {more : List (Key × D)} {ys : List V} {kvs : List (Key × D)} {xs : List V}, RpDs g m n b H (more.map (·.2)) ys → RpDs g m n b H (kvs.map (·.2)) xs →
    ∃ zs, mergeK ((kvs.map (·.1)).zip xs) ((more.map (·.1)).zip ys) = ((mergeA kvs more).map (·.1)).zip zs ∧ RpDs g m n b H ((mergeA kvs more).map (·.2)) zs
  | [], ys, kvs, xs, r, r2 => by cases r; exact ⟨xs, rfl, r2⟩
  | (k, d) :: more, ys, kvs, xs, ⟨v, ws, e, h, r⟩, r2 => by
    subst e
    obtain ⟨us, e1, r1⟩ := putA_put (k := k) h r2
    obtain ⟨zs, e2, r3⟩ := mergeA_rp r r1
    refine ⟨zs, ?_, r3⟩
    rw [← e1] at e2
    exact e2
def dDisp (ks : List Str) (das : List De) : De := dArgs das fun ds G => .ok (.loc G.length) (G ++ [.dk (mergeA [] ((ks.map Sum.inr).zip ds))])
def tX (g : Gm) (W : WX) (d : De) : TE := fun σ H Q => ∃ rv, tI (g.rvd rv) W d σ H Q
/-- the pairs of a display: its keys are texts -/
def PPz (Z : Zc) (pos : Pos) (keys : List (Option Expr)) (vals : List Expr) (ks : List Str) (das : List De) : Prop := ∀ X W, Ok Z X W → PPs X pos keys vals ((ks.map fun k => tC (.str k)).zip (das.map (tX Z.g W))) ∧ ks.length = das.length
section
variable {Z : Zc} {pos kp : Pos} {j : Nat} {k : Str} {v : Expr} {keys : List (Option Expr)} {vals : List Expr} {ks : List Str} {d : De} {das : List De}
theorem ppz_nil : PPz Z pos [] [] [] [] := fun X W ok => ⟨pps_nil, rfl⟩
theorem ppz_cons (hv : ∀ rv, PD (Z.wv rv) v d) (h : PPz Z pos keys vals ks das) : PPz Z pos (some (.Constant (.str k) j kp) :: keys) (v :: vals) (k :: ks) (d :: das) := fun X W ok => ⟨pps_cons pe_str (PE.some fun rv => hv rv X W (ok.wv rv)) (h X W ok).1, by simp [(h X W ok).2]⟩
end
theorem pairs_of {g : Gm} {W : WX} {Da : Addr} {m0 : Nat → Addr} {n0 : Nat} {H0 : Hp} {σ : St} {r : Ev} {Q : VK} : ∀ {das : List De} {ks : List Str} {m : Nat → Addr} {H : Hp} {G : Hs} {k : List D → Hs → Re} {R : List (V × V) → Hp → Prop}, ks.length = das.length →
    SR (g.rvd (Da :: g.rv)) m H G → Sl (g.rvd (Da :: g.rv)) m G.length H σ r → Ex m0 n0 H0 m G.length H → PostE g W m0 n0 H0 σ Q (dArgs das k r G) →
    (∀ ds G1 vs m1 H1, Ex m0 n0 H0 m1 G1.length H1 → Ex m G.length H m1 G1.length H1 → SR (g.rvd (Da :: g.rv)) m1 H1 G1 → RpDs (g.rvd (Da :: g.rv)) m1 G1.length G1.length H1 ds vs → ds.length = das.length → PostE g W m0 n0 H0 σ Q (k ds G1) → R ((ks.map V.str).zip vs) H1) →
    tPairs ((ks.map fun k => tC (.str k)).zip (das.map (tX g W))) σ H R
  | [], [], m, H, G, k, R, hl, s, sl, x0, p, next => next [] G [] m H x0 Ex.refl s rfl rfl p
  | d :: das, k0 :: ks, m, H, G, k, R, hl, s, sl, x0, p, next => by
    refine (⟨Da :: g.rv, m, r, G, s, sl, ?_⟩ : tX g W d σ H _)
    unfold dArgs at p
    cases e : d r G with
    | stuck => rw [e] at p; exact p
    | exc c ns ds G' =>
      rw [e] at p
      intro da m' H' xs x' s' h nb rs
      have s2 : SR g m' H' G' := s'.less (rv := g.rv) fun a ha => List.mem_cons_of_mem _ ha
      exact p da m' H' xs (x0.trans s x') s2 h nb (RpDs.less s' (rv := g.rv) (fun a ha => List.mem_cons_of_mem _ ha) rs)
    | ok y G1 =>
      rw [e] at p
      intro v m1 H1 x1 s1 rv
      refine pairs_of (das := das) (ks := ks) (by simpa using hl) s1 (Sl.ex x1 s sl) (x0.trans s x1) p fun ds G2 vs m2 H2 x02 x2 s2 rs hl2 p2 => ?_
      exact next (y :: ds) G2 (v :: vs) m2 H2 x02 (x1.trans s1 x2) s2 ⟨v, vs, rfl, RpD.ex x2 s1 x2.le (Nat.le_refl _) rv, rs⟩ (by simp [hl2]) p2
section
variable {Z : Zc} {pos : Pos} {keys : List (Option Expr)} {vals : List Expr} {ks : List Str} {das : List De}
theorem kvs_map {ks : List Str} {vs : List V} : (ks.map V.str).zip vs = (((ks.map Sum.inr : List Key)).zip vs).map (fun kv => (kV kv.1, kv.2)) := by
  induction ks generalizing vs with
  | nil => rfl
  | cons k ks ih =>
    cases vs with
    | nil => rfl
    | cons v vs => simp only [List.map_cons, List.zip_cons_cons, ih]; rfl
theorem pd_disp (h : PPz Z pos keys vals ks das) (hall : keys.all (·.isSome) = true := by rfl) (hl : keys.length = vals.length := by rfl) (h0 : keys ≠ [] := by simp) (h15 : keys.length ≤ 15 := by decide) (hk : ks.length ≤ 15 := by decide) : PD Z (.Dict keys vals pos) (dDisp ks das) := by
  refine ?G
  exact (by (intro h; exact h) : have h : (type_of% ?G) := (fun X W ok => by
  obtain ⟨hp, hlen⟩ := h X W ok
  refine peI (pe_disp hp hall hl h0 h15) fun σ H Q h => ?_
  obtain ⟨m, r, G, s, sl, p⟩ := h
  intro Da hDa
  have hnr : Da ∉ Z.g.rv := fun q => by
    obtain ⟨⟨xs, z, _⟩, _⟩ := s.rv Da q
    rw [hDa] at z; cases z
  obtain ⟨s1, mv1⟩ := s.begin (o := .dK []) rfl (Nat.zero_le _) hDa
  refine pairs_of hlen s1 (Sl.mv mv1 (Nat.le_refl _) sl) (Ex.new hDa) p fun ds G1 vs m1 H1 x1 x2 s2 rs hl2 p1 => ?_
  have hD : H1 Da = some (.dK []) := x2.kp _ _ upd_same (s1.rv Da List.mem_cons_self).2 (by simp)
  have hvl : vs.length = ks.length := by rw [← rs.length, hl2, hlen]
  refine ⟨hD, ((ks.map Sum.inr : List Key)).zip vs, kvs_map, by rw [List.length_zip, List.length_map, hvl, Nat.min_self]; exact hk, ?_⟩
  have hdl : ((ks.map Sum.inr : List Key)).length = ds.length := by rw [List.length_map, hlen, hl2]
  obtain ⟨e1, e2⟩ := zipF hdl
  obtain ⟨zs, e3, r3⟩ := mergeA_rp (more := ((ks.map Sum.inr : List Key)).zip ds) (kvs := []) (xs := []) (by rw [e2]; exact rs) rfl
  rw [e1] at e3
  have e3' : mergeK [] (((ks.map Sum.inr : List Key)).zip vs) = ((mergeA [] (((ks.map Sum.inr : List Key)).zip ds)).map (·.1)).zip zs := e3
  have hz : (mergeK [] (((ks.map Sum.inr : List Key)).zip vs)).length ≤ sizeLine := by
    refine Nat.le_trans (length_mergeK _ _) ?_
    rw [List.length_zip, List.length_map, hvl, Nat.min_self, List.length_nil, Nat.zero_add]
    exact Nat.le_trans hk (by decide)
  obtain ⟨s3, mv3⟩ := s2.grow (o' := .dK (mergeK [] (((ks.map Sum.inr : List Key)).zip vs))) hD List.mem_cons_self rfl hz
  obtain ⟨x4, s4⟩ := SR.adopt (ob := .dk (mergeA [] (((ks.map Sum.inr : List Key)).zip ds))) hDa hnr (Ex.grow (o := .dK (mergeK [] (((ks.map Sum.inr : List Key)).zip vs))) x1 hDa) s3 fun mv4 => ⟨zs, by rw [mAt_same, upd_same, e3'], RpDs.mv mv4 (Nat.le_succ _) (Nat.le_refl _) (RpDs.mv mv3 (Nat.le_refl _) (Nat.le_refl _) r3)⟩
  refine p1 _ _ _ x4 s4 ⟨by simp, by rw [mAt_same]⟩
 ); type_of% ?G)
end
end BL

set_option Elab.async false
set_option linter.all false
set_option maxRecDepth 100000
set_option maxHeartbeats 1000000
namespace BL
open PySem L2

/-! ### C(e, .., k = v, ..): the keywords right behind the values, in the order of the parameters -/
def PDK (Z : Zc) (kws : List Keyword) (dks : List De) : Prop := ∀ X W, Ok Z X W → PK X kws (tCs (dks.map (tI Z.g W)))
section
variable {Z : Zc} {e : Expr} {es : List Expr} {kws : List Keyword} {das dks : List De} {d : De} {F : Fd} {k c : Nat} {f : Addr} {fd : FuncData} {ps ks : List Str} {x : Str} {nm : Option Str} {dts : List T} {dvs : List V} {pos p kpos : Pos} {g : List Value → List Value → List Value}
theorem pdk_nil : PDK Z [] [] := fun _ _ _ => pk_nil
theorem pdk_cons (h : PD Z e d) (hs : PDK Z kws dks) : PDK Z (⟨nm, e, kpos⟩ :: kws) (d :: dks) := fun X W ok => pk_cons (h X W ok) (hs X W ok)
theorem run_makeKD {X : Cx} {CX : CXT} {C : Addr} {sp : Sp} {E : XK} {n : Nat} {gV : List V → List V → List V} {pins : List (Addr × Obj)} {σ : St} {H : Hp} {s : Shared} {Q : VK} {us ws : List Value} {vs zs : List V} (M : Mk X.K C f) (F : FnOk X.prog X.w X.K X.mg X.base CX k f fd ps sp) (hr : Room (k + 1) X.A) (hb : KBn X.K fd ps (n + 1) ks g gV)
    (hx : PassesAt CX X σ E) (I : Inv X pins σ H s) (r : Vals vs us) (rz : Vals zs ws) (l1 : vs.length = n) (l2 : zs.length = ks.length)
    (h : ∀ x dx, H x = none → H dx = none → dx ≠ x → sp (gV (.ref x :: vs) zs) (upd (upd H dx (.own x)) x (.ins C dx [])) (fun v H2 => v = .non ∧ Q (.ref x) H2) E) :
    wpAny (model X.prog X.w) X.A (call (.ref C) us (ks.zip ws)) (EP X pins σ Q) X.xe s := by
  refine ?G
  exact (by (intro h; exact h) : have h : (type_of% ?G) := (by
  have g1 := h (s.heap.objs.size + 1) s.heap.objs.size (I.hok.fresh (Nat.le_succ _)) (I.hok.fresh (Nat.le_refl _)) (Nat.ne_of_lt (Nat.lt_succ_self _))
  have J := Inv.made (C := C) I
  have q1 : Vals (V.ref (s.heap.objs.size + 1) :: vs) (Value.ref (s.heap.objs.size + 1) :: us) := .cons rfl r
  have l3 : (Value.ref (s.heap.objs.size + 1) :: us).length = n + 1 := by rw [← q1.length, List.length_cons, l1]
  refine wpAny_call (make_map (f := f) I.kIn M.makes M.init (beq_iff_eq.mp M.fn) (codeAny_mono (F.run _ X.stack _ _ ⟨Value.ref (s.heap.objs.size + 1) :: us, ks.zip ws⟩ (g (Value.ref (s.heap.objs.size + 1) :: us) ws) _ _ E (hr.make C us (ks.zip ws))
    (J.env0.make C us (ks.zip ws)) (hb.to _ _ ws J.kIn l3 (rz.length.symm.trans l2)) (hb.rel q1 rz) g1) fun q s' hq => ?_))
  cases q with
  | error er => exact hx pins _ _ er s' J hq
  | ok fl =>
    cases fl with
    | ret u =>
      obtain ⟨v, H', J3, rv, ev, q3⟩ := J.after hq
      subst ev
      exact ⟨rv, .ref (s.heap.objs.size + 1), H', J3, rfl, q3⟩
    | next => exact hq.elim
    | brk => exact hq.elim
    | cont => exact hq.elim
 ); type_of% ?G)
end
/-! ### o[i], a dict or a row, by the value -/
def fItem : D → D → Hs → Re := fun x y G => match dkOf G x with
  | some _ => fGet x y G
  | none => fIx x y G
theorem PE.or {X : Cx} {e : Expr} {t u : TE} (h1 : PE X e t) (h2 : PE X e u) : PE X e (fun σ H Q => t σ H Q ∨ u σ H Q) := ⟨fun pins s σ H Q I z => z.elim (h1.run pins s σ H Q I) (h2.run pins s σ H Q I)⟩
theorem PT.or {X : Cx} {e : Expr} {t u : TT} (h1 : PT X e t) (h2 : PT X e u) : PT X e (fun σ H Q => t σ H Q ∨ u σ H Q) := ⟨fun pins s σ H Q I z => z.elim (h1.run pins s σ H Q I) (h2.run pins s σ H Q I)⟩
section
variable {Z : Zc} {o i : Expr} {do_ di : De} {pos : Pos}
end
end BL

set_option Elab.async false
set_option linter.all false
set_option maxRecDepth 100000
set_option maxHeartbeats 1000000
namespace BL
open PySem L2

section
variable {Z : Zc} {x qual : Str} {st : Stmt} {f : Addr} {fd : FuncData} {N ps : List Str} {k : Nat} {db : Dst} {dvs : List V} {kws : List (Str × V)}
/-- a def as the head tells it -/
abbrev FnE (K : PySem.W.Frag) (x qual : Str) (st : Stmt) (dvs : List V) (f : Addr) (fd : FuncData) : Prop := FunD K x qual (defArgs st) (defBody st) (defScope st) dvs [] f fd
theorem fnd_pop (Fn : FnE Z.K x qual st dvs f fd) (S : FnScope N ps (defScope st)) (hb : ∀ rv, PSDs (Z.dfn N (defScope st) k rv) (defBody st) db) : FnD Z.toZb (k + 1) f fd ps (runPop N.length db) := by
  refine ?G
  exact (by (intro h; exact h) : have h : (type_of% ?G) := (by
  refine ⟨funDok (CX := L2.CX Z.P Z.w) Fn S (fun vs H Q E h => h.1) (fun cdv A outer s H vs Q E hr h => ?_), Fn.kp⟩
  obtain ⟨hl, rv, m, G, ds, s0, rs, p⟩ := h
  refine ⟨_, hb rv _ _ (Ok.dfn (Z := Z) S hr rv), m, _, G, s0, start_sl (N := N) rs, ?_⟩
  show PostS (Z.g.rvd rv) _ m G.length H _ (db (startE N.length ds) G)
  unfold runPop at p
  cases e : db (startE N.length ds) G with
  | rt d G' =>
    rw [e] at p
    simp only [endPop] at p
    intro v m' H' x' s' rv'
    split at p
    · rename_i hcl
      cases q : popD G.length d G' with
      | none => rw [q] at p; exact p.elim
      | some d' =>
        rw [q] at p
        refine p v m' H' ?_ (s'.pop x'.le (hcl.pop s0)) ?_
        · rw [take_len x'.le]; exact x'.popped
        · rw [take_len x'.le]; exact popD_rp s' x'.le rv' q
    · exact p.elim
  | nx r G' =>
    rw [e] at p
    simp only [endPop] at p
    intro σ' m' H' x' s' sl'
    split at p
    · rename_i hcl
      refine p .non m' H' ?_ (s'.pop x'.le (hcl.pop s0)) rfl
      rw [take_len x'.le]; exact x'.popped
    · exact p.elim
  | exc c ns es r G' =>
    rw [e] at p
    simp only [endPop] at p
    intro σ' da m' H' xs x' s' sl' h nb rs'
    split at p
    · rename_i hcl
      cases q : popDs G.length es G' with
      | none => rw [q] at p; exact p.elim
      | some es' =>
        rw [q] at p
        refine p da m' H' xs ?_ (s'.pop x'.le (hcl.pop s0)) h ?_ ?_
        · rw [take_len x'.le]; exact x'.popped
        · rw [take_len x'.le]; exact fun z => nb (Bd.mono x'.le z)
        · rw [take_len x'.le]; exact popDs_rp s' x'.le rs' q
    · exact p.elim
  | bk r G' => rw [e] at p; exact p.elim
  | ct r G' => rw [e] at p; exact p.elim
  | stuck => rw [e] at p; exact p.elim
 ); type_of% ?G)
theorem fnd_keep (Fn : FnE Z.K x qual st dvs f fd) (S : FnScope N ps (defScope st)) (hb : ∀ rv, PSDs (Z.dfn N (defScope st) k rv) (defBody st) db) : FnD Z.toZb (k + 1) f fd ps (runKeep N.length db) := by
  refine ?G
  exact (by (intro h; exact h) : have h : (type_of% ?G) := (by
  refine ⟨funDok (CX := L2.CX Z.P Z.w) Fn S (fun vs H Q E h => h.1) (fun cdv A outer s H vs Q E hr h => ?_), Fn.kp⟩
  obtain ⟨hl, rv, m, G, ds, s0, rs, p⟩ := h
  refine ⟨_, hb rv _ _ (Ok.dfn (Z := Z) S hr rv), m, _, G, s0, start_sl (N := N) rs, ?_⟩
  show PostS (Z.g.rvd rv) _ m G.length H _ (db (startE N.length ds) G)
  unfold runKeep at p
  cases e : db (startE N.length ds) G with
  | rt d G' => rw [e] at p; exact p
  | nx r G' => rw [e] at p; exact fun σ' m' H' x' s' sl' => p .non m' H' x' s' rfl
  | exc c ns es r G' => rw [e] at p; exact fun σ' da m' H' xs x' s' sl' h nb rs' => p da m' H' xs x' s' h nb rs'
  | bk r G' => rw [e] at p; exact p.elim
  | ct r G' => rw [e] at p; exact p.elim
  | stuck => rw [e] at p; exact p.elim
 ); type_of% ?G)
end
/-! ### a law's end -/
/-- the script, as it is handed in -/
def scr (ns : List Int) : D := .t (.lst (ns.map T.int))
def spL (K : PySem.W.Frag) (n : Nat) : Sp := fun vs H Q _ => ∃ (a : Addr) (ns : List Int), vs = [.ref a] ∧ ns.length ≤ n ∧ Only H ∧ SqL K H a (ns.map V.int) ∧ ∀ H', Q (.bl true) H'
theorem rps_ints {g : Gm0} {B : Addr → Prop} {H : Hp} : ∀ {ns : List Int}, Rps g B H (ns.map T.int) (ns.map V.int)
  | [] => rfl
  | n :: ns => ⟨_, _, rfl, rfl, rps_ints⟩
end BL

set_option Elab.async false
set_option linter.all false
set_option maxRecDepth 100000
set_option maxHeartbeats 1000000
namespace BL
open PySem L2

/-! ### a, b = .. through a pair -/
def dTwo (i j : Nat) (d : De) : Dst := fun r G => (d r G).thn r fun x G1 => match asT x with
  | some [a, b] => .nx ((r.set i (some a)).set j (some b)) G1
  | _ => .stuck
section
variable {Z : Zc} {a b e : Expr} {da db d : De} {i j : Nat} {x y : Str} {px py pt pos pt2 : Pos} {kt k2 : Nat}
theorem two_pg {X : Cx} {W : WX} (ok : Ok Z X W) (hi : Z.N[i]? = some x) (hx : Loc Z.sc x) (hf : Z.fn x = true ∨ Z.sc.names.lookup x = some .local) (hj : Z.N[j]? = some y) (hy : Loc Z.sc y) (hf' : Z.fn y = true ∨ Z.sc.names.lookup y = some .local) :
    PG X (.Tuple [.Name x px, .Name y py] kt pt) (gTup Z.K 2 (gCons (gName i) (gCons (gName j) gNil))) := by
  refine ?G
  exact (by (intro h; exact h) : have h : (type_of% ?G) := (
  ok.K ▸ pg_tup (n := 2) ok.calm (pgs_cons (pg_name (i := i) ok.nd (by rw [ok.N]; exact hi) (by rw [ok.sc]; exact hx) (by rw [ok.fn, ok.sc]; exact hf)) (pgs_cons (pg_name (i := j) ok.nd (by rw [ok.N]; exact hj) (by rw [ok.sc]; exact hy) (by rw [ok.fn, ok.sc]; exact hf')) pgs_nil))
 ); type_of% ?G)
theorem psd_par2 (ha : PD Z a da) (hb : PD Z b db) (hi : Z.N[i]? = some x := by rfl) (hj : Z.N[j]? = some y := by rfl)
    (hx : Loc Z.sc x := by first | exact Or.inl rfl | exact Or.inr rfl) (hf : Z.fn x = true ∨ Z.sc.names.lookup x = some .local := by first | exact .inl rfl | exact .inr rfl)
    (hy : Loc Z.sc y := by first | exact Or.inl rfl | exact Or.inr rfl) (hf' : Z.fn y = true ∨ Z.sc.names.lookup y = some .local := by first | exact .inl rfl | exact .inr rfl)
    (he : ∀ env, starEach [a, b] env = (false, eval a env) :: starEach [b] env := by intro _; rfl) (he2 : ∀ env, starEach [b] env = (false, eval b env) :: starEach [] env := by intro _; rfl)
    (hw : ∀ env : Env, env.scope = Z.sc → swappedStores [.Tuple [.Name x px, .Name y py] kt pt] (.Tuple [a, b] k2 pt2) env = pure none := by intro env h; cases env; cases h; rfl)
    (hs : ∀ env, swapsWithSole [.Tuple [.Name x px, .Name y py] kt pt] (.Tuple [a, b] k2 pt2) pos.line env = pure false := by intro _; rfl) (h1 : ∀ env, (assignEach [.Tuple [.Name x px, .Name y py] kt pt] env).map (·.2) = [assign (.Tuple [.Name x px, .Name y py] kt pt) env] := by intro _; rfl) :
    PSD Z (.Assign [.Tuple [.Name x px, .Name y py] kt pt] (.Tuple [a, b] k2 pt2) pos) (dPar i j da db) := by
  refine ?G
  exact (by (intro h; exact h) : have h : (type_of% ?G) := (fun X W ok => by
  refine psI (ps_asg (pe_tup (pa_cons (ha X W ok) (pa_cons (hb X W ok) pa_nil (he2 _)) (he _))) (two_pg ok hi hx hf hj hy hf') (hs _) (hw _ ok.sc) (h1 _)) fun D σ H ⟨m, r, G, s, sl, p⟩ => ?_
  refine tS_bind s sl p fun u G1 v m1 H1 e1 x1 s1 sl1 ru p1 => ?_
  refine tS_bind s1 sl1 p1 fun z G2 t m2 H2 e2 x2 s2 sl2 rz p2 => ?_
  refine ⟨by show 2 ≤ sizeLine; decide, fun tp htp => ?_⟩
  have x3 : Ex m2 G2.length H2 m2 G2.length (upd H2 tp (.tup [v, t])) := Ex.new htp
  have s3 := s2.new (o := .tup [v, t]) htp (by show 2 ≤ sizeLine; decide)
  refine ⟨tp, [v, t], rfl, .inl (.inl upd_same), rfl, v, [t], rfl, t, [], rfl, rfl, ?_⟩
  exact p2 _ m2 _ x3 s3 (((Sl.ex x3 s2 sl2).set (RpD.ex x3 s2 x3.le (Nat.le_refl _) (RpD.ex x2 s1 x2.le (Nat.le_refl _) ru))).set (RpD.ex x3 s2 x3.le (Nat.le_refl _) rz))
 ); type_of% ?G)
end
/-! ### a callee, all in one -/
structure Ca (b : Zb) (k : Nat) (f : Addr) (ps : List Str) (F : Fd) (dts : List T) : Prop where
  ex : ∃ fd dvs dus, FnD b k f fd ps F ∧ Binds b.K fd ps dus ∧ Vals dvs dus ∧ Dfl b.g.toGm0 dts dvs
/-- .. called with keywords right behind the values -/
structure CaK (b : Zb) (k n : Nat) (f : Addr) (ps ks : List Str) (F : Fd) (dts : List T) : Prop where
  ex : ∃ fd dvs g, FnD b k f fd ps F ∧ KBn b.K fd ps n ks g (fun vs zs => vs ++ zs ++ dvs) ∧ Dfl b.g.toGm0 dts dvs
theorem Ca.mono {b : Zb} {k k' : Nat} {f : Addr} {ps : List Str} {F : Fd} {dts : List T} (h : Ca b k f ps F dts) (hk : k ≤ k') : Ca b k' f ps F dts := by
  obtain ⟨fd, dvs, dus, h1, h2⟩ := h.ex
  exact ⟨fd, dvs, dus, h1.mono hk, h2⟩
/-- f(e, ..) -/
def dCall (das : List De) (F : Fd) (dts : List T) : De := dArgs das fun ds G => F (ds ++ dts.map D.t) G
section
variable {Z : Zc} {x m : Str} {a b o e : Expr} {es : List Expr} {kws : List Keyword} {da db do_ d : De} {das dks : List De} {F : Fd} {k c : Nat} {f : Addr} {ps ks : List Str} {dts : List T} {p pos apos : Pos} {oth : List Nat} {pl : Env → Sem Bool}
theorem pd_callC (h : Ca Z.toZb k f ps F dts) (hk : k ≤ Z.k) (hm : Z.mg x = some (.ref f)) (ha : PDA Z (e :: es) das) (hn : das.length + dts.length = ps.length) (hg : GlS Z x := by rfl)
    (hdb : (x == ("__debug__" : Str)) = false := by decide) (he : ∀ env, starEach (e :: es) env = (false, eval e env) :: starEach es env := by intro _; rfl) (hpl : ∀ env, (backTo pos (starEach es env)).any (·.1) = false := by intro _; rfl) :
    PD Z (.Call (.Name x p) (e :: es) [] pos) (dCall das F dts) := by
  obtain ⟨fd, dvs, dus, h1, h2, h3, h4⟩ := h.ex
  exact pd_call h1 hk hm h2 h3 h4 ha hn hg hdb he hpl
theorem pd_methC (ho : PD Z o do_) (hc : Cls Z.K (Z.ca c)) (hm : Meth Z.K (Z.ca c) m f) (h : Ca Z.toZb k f ps F dts) (hk : k ≤ Z.k) (ha : PDA Z (e :: es) das) (hn : das.length + dts.length + 1 = ps.length)
    (he : ∀ env, starEach (e :: es) env = (false, eval e env) :: starEach es env := by intro _; rfl) (hpl : ∀ env, (backTo pos (starEach es env)).any (·.1) = false := by intro _; rfl) (ht : MethEval pl o m apos (e :: es) pos := by intro _; rfl) :
    PD Z (.Call (.Attribute o m apos) (e :: es) [] pos) (dMeth c m do_ das F dts) := by
  obtain ⟨fd, dvs, dus, h1, h2, h3, h4⟩ := h.ex
  exact pd_meth ho hc hm h1 hk h2 h3 h4 ha hn he hpl ht
theorem pd_makeC (hM : Mk Z.K (Z.ca c) f) (h : Ca Z.toZb k f ps F dts) (hk : k + 1 ≤ Z.k) (hm : Z.mg x = some (.ref (Z.ca c))) (ha : PDA Z (e :: es) das) (hn : das.length + dts.length + 1 = ps.length) (hg : GlS Z x := by rfl)
    (hdb : (x == ("__debug__" : Str)) = false := by decide) (he : ∀ env, starEach (e :: es) env = (false, eval e env) :: starEach es env := by intro _; rfl) (hpl : ∀ env, (backTo pos (starEach es env)).any (·.1) = false := by intro _; rfl) :
    PD Z (.Call (.Name x p) (e :: es) [] pos) (dMake c das F dts) := by
  obtain ⟨fd, dvs, dus, h1, h2, h3, h4⟩ := h.ex
  exact pd_make hM h1 hk hm h2 h3 h4 ha hn hg hdb he hpl
/-- what == of a class with an own __eq__ asks -/
structure EqA (b : Zb) (k : Nat) (c : Nat) (oth : List Nat) (f : Addr) (ps : List Str) (F : Fd) : Prop where
  ca : Ca b k f ps F []
  eq : EqF b.K (b.ca c) f
  hi : ∀ c', c' = c ∨ c' ∈ oth → InsF b.K (b.ca c')
  ho : ∀ c', c' ∈ oth → PySem.W.notFirst b.K (b.ca c) (.ref (b.ca c')) = true
  hn : 2 = ps.length
theorem EqA.ex {b : Zb} {ps : List Str} (h : EqA b k c oth f ps F) : ∃ fd, FnD b k f fd ps F ∧ Binds b.K fd ps [] := by
  obtain ⟨fd, dvs, dus, h1, h2, h3, h4⟩ := h.ca.ex
  have := h4 (fun _ => False) (fun _ => none)
  cases dvs with
  | nil => cases h3; exact ⟨fd, h1, h2⟩
  | cons v vs => cases this
theorem pd_eqC (h : EqA Z.toZb k c oth f ps F) (hk : k + 1 ≤ Z.k) (ha : PD Z a da) (hb : PD Z b db) : PD Z (.Compare a [.Eq] [b] pos) (dBin (fEqO c oth false F) da db) := by
  obtain ⟨fd, h1, h2⟩ := h.ex
  exact pd_eqO h1 hk h2 h.eq h.hi h.ho h.hn ha hb
theorem pd_neC (h : EqA Z.toZb k c oth f ps F) (hk : k + 1 ≤ Z.k) (ha : PD Z a da) (hb : PD Z b db) : PD Z (.Compare a [.NotEq] [b] pos) (dBin (fEqO c oth true F) da db) := by
  obtain ⟨fd, h1, h2⟩ := h.ex
  exact pd_neO h1 hk h2 h.eq h.hi h.ho h.hn ha hb
structure LenA (b : Zb) (k : Nat) (c : Nat) (f : Addr) (ps : List Str) (F : Fd) : Prop where
  ca : Ca b k f ps F []
  len : LenF b.K (b.ca c) f
  hn : 1 = ps.length
/-! ### constants of the module -/
theorem pd_gI {i : Int} (h : ∃ t, Z.mg x = some (.int i t)) (hg : Z.sc.names.lookup x = some .globalImplicit := by rfl) (hd : (x == ("__debug__" : Str)) = false := by decide) : PD Z (.Name x p) (dC (.int i)) := by
  obtain ⟨t, h⟩ := h
  exact pd_glob (v := .int i) hg h ⟨t, rfl⟩ (fun _ _ _ => rfl) hd
end
/-! ### how a def is found -/
section
variable {b : Zb} {x qual : Str} {st : Stmt} {f : Addr} {N ps : List Str} {k : Nat} {db : Dst} {F : Fd}
def Zb.dfn (b : Zb) (N : List Str) (sc : Scope) (k : Nat) (rv : List Addr) : Zc := { b with N := N, sc := sc, fn := fun _ => true, k := k, rv := rv, own := true }
def Zb.z (b : Zb) : Zc := { b with N := [], sc := default, fn := fun _ => true, k := 0, rv := [] }
theorem ca_pop (Fn : ∃ fd, FnE b.K x qual st [] f fd) (S : FnScope N ps (defScope st)) (hb : ∀ rv, PSDs (b.dfn N (defScope st) k rv) (defBody st) db)
    (hbind : ∀ (kV doc pm : Value) (an : Option Addr) (cdv ct : Value) (us : List Value), us.length = ps.length → bindArgs (PySem.W.fnOf x qual (defArgs st) (defBody st) (defScope st) .none kV doc pm an cdv ct) ⟨us, []⟩ = pure (ps.zip us)) : Ca b (k + 1) f ps (runPop N.length db) [] := by
  obtain ⟨fd, Fn⟩ := Fn
  exact ⟨fd, [], [], fnd_pop (Z := b.z) Fn S hb, Fn.bindsN hbind, .nil, dfl_nil⟩
theorem ca_keep (Fn : ∃ fd, FnE b.K x qual st [] f fd) (S : FnScope N ps (defScope st)) (hb : ∀ rv, PSDs (b.dfn N (defScope st) k rv) (defBody st) db)
    (hbind : ∀ (kV doc pm : Value) (an : Option Addr) (cdv ct : Value) (us : List Value), us.length = ps.length → bindArgs (PySem.W.fnOf x qual (defArgs st) (defBody st) (defScope st) .none kV doc pm an cdv ct) ⟨us, []⟩ = pure (ps.zip us)) : Ca b (k + 1) f ps (runKeep N.length db) [] := by
  obtain ⟨fd, Fn⟩ := Fn
  exact ⟨fd, [], [], fnd_keep (Z := b.z) Fn S hb, Fn.bindsN hbind, .nil, dfl_nil⟩
variable {dvs : List V} {dts : List T}
theorem hF_pop (S : FnScope N ps (defScope st)) (hb : ∀ rv, PSDs (b.dfn N (defScope st) k rv) (defBody st) db) : ∀ fd, FnE b.K x qual st dvs f fd → FnD b (k + 1) f fd ps (runPop N.length db) := fun fd Fn => fnd_pop (Z := b.z) Fn S hb
end
end BL

set_option Elab.async false
set_option linter.all false
set_option maxRecDepth 100000
set_option maxHeartbeats 1000000
namespace BL
open PySem L2

/-! ### facts of classes, as the head may find them -/
def insB (K : PySem.W.Frag) (C : Addr) : Bool := He.eqO (PySem.W.findIn K (.ref C) "__class__") (some (some (.builtin "object.__class__"))) && (He.eqO (PySem.W.specialIn K (.builtin "object.__class__") "__get__") (some (some (.builtin "getset_descriptor.__get__"))) &&
  (decide (PySem.W.takesIn K (.builtin "object.__class__") = some true) && decide (PySem.W.mroIn K C (.type "object") = some true)))
theorem insB_ok {K : PySem.W.Frag} {C : Addr} (hc : Cls K C) (h : insB K C = true) : InsF K C := by
  obtain ⟨h1, h⟩ := He.ba h
  obtain ⟨h2, h⟩ := He.ba h
  obtain ⟨h3, h4⟩ := He.ba h
  exact ⟨hc, He.eqO_ok h1, He.eqO_ok h2, of_decide_eq_true h3, of_decide_eq_true h4⟩
def eqB (K : PySem.W.Frag) (C f : Addr) : Bool := He.eqO (PySem.W.findIn K (.ref C) "__eq__") (some (some (.ref f))) && (PySem.W.isFn K (.ref f) && (He.eqO (PySem.W.findIn K (.ref C) "__ne__") (some (some (.builtin "object.__ne__"))) && decide (PySem.W.mroIn K C (.type "object") = some true)))
theorem eqB_ok {K : PySem.W.Frag} {C f : Addr} (h : eqB K C f = true) : EqF K C f := by
  obtain ⟨h1, h⟩ := He.ba h
  obtain ⟨h2, h⟩ := He.ba h
  obtain ⟨h3, h4⟩ := He.ba h
  exact ⟨He.eqO_ok h1, h2, He.eqO_ok h3, of_decide_eq_true h4⟩
def lenB (K : PySem.W.Frag) (C f : Addr) : Bool := He.eqO (PySem.W.findIn K (.ref C) "__len__") (some (some (.ref f))) && PySem.W.isFn K (.ref f)
/-- C against the built-in types, itself and the others os -/
def kitB' (K : PySem.W.Frag) (C : Addr) (os : List Addr) : Bool := (["NoneType", "bool", "int", "str", "tuple", "list", "dict"].all fun n => decide (PySem.W.kitOne K (.type n) (.ref C) = some false)) && (decide (PySem.W.kitOne K (.ref C) (.ref C) = some true) && os.all fun c => decide (PySem.W.kitOne K (.ref c) (.ref C) = some false))
theorem kitB_ok {g : Gm} {c : Nat} {os : List Nat} (hi : ∀ c', c' = c ∨ c' ∈ os → InsF g.K (g.ca c')) (h : kitB' g.K (g.ca c) (os.map g.ca) = true) : IsiOk g (.ref (g.ca c)) (isOwn c os) := by
  obtain ⟨h1, h⟩ := He.ba h
  obtain ⟨h2, h3⟩ := He.ba h
  rw [List.all_eq_true] at h1 h3
  exact isi_own hi (fun n hn => of_decide_eq_true (h1 n hn)) (of_decide_eq_true h2) fun c' hc => of_decide_eq_true (h3 (g.ca c') (List.mem_map.mpr ⟨c', hc, rfl⟩))
def firstB (K : PySem.W.Frag) (C : Addr) (os : List Addr) : Bool := os.all fun c => PySem.W.notFirst K C (.ref c)
theorem firstB_ok {K : PySem.W.Frag} {C : Addr} {ca : Nat → Addr} {os : List Nat} (h : firstB K C (os.map ca) = true) : ∀ c', c' ∈ os → PySem.W.notFirst K C (.ref (ca c')) = true := fun c' hc => by
  have := (List.all_eq_true.mp h) (ca c') (List.mem_map.mpr ⟨c', hc, rfl⟩)
  exact this
end BL

set_option Elab.async false
set_option linter.all false
set_option maxRecDepth 100000
set_option maxHeartbeats 2000000
namespace BL
open PySem L2

/-! ### a def that has the cell __class__: its context, its entry -/
def cxK (CX : CXT) (P : Program) (w : World) (K : PySem.W.Frag) (mg : Str → Option Value) (base : Heap) (N : List Str) (qual : Str) (scope : Scope) (f cda cc : Addr) (A : Around) (outer : List Env) (s : Shared) (H : Hp) (E : XK) : Cx :=
  let env := PySem.W.ksEnv qual scope s.heap.objs.size f (.ref cda) cc
  { prog := P, w := w, K := K, mg := mg, base := base, A := A.deeper env, N := N, s_0 := s, H_0 := H, env := env, outer := outer, stack := env :: outer, ex := [], calm := true, fn := fun _ => false, pn := [],
    xe := fun e s' => wpAny (model P w) (A.deeper env) (leaving env e) (fun _ s'' => CX outer H s E e s'') (fun e' s'' => CX outer H s E e' s'') s' }
structure FnScK (N ps : List Str) (sc : Scope) : Prop where
  kind : sc.kind = .function
  co : sc.isCoroutine = false
  gen : sc.isGenerator = false
  nd : N.Nodup
  pre : N.take ps.length = ps
  par : ∀ x ∈ ps, sc.names.lookup x = some .local
  free : ∀ y ∈ sc.names, y.2 = .free → y.1 = ("__class__" : Str)
  nocell : ∀ y ∈ sc.names, y.2 ≠ .cell
  hs : sc.names.lookup ("super" : Str) = some .globalImplicit
  hc : sc.names.lookup ("__class__" : Str) = some .free
theorem lk_of {l : List (Str × Value)} {y : Str} {u : Value} (h : (y, u) ∈ l) (hu : ∀ v, (y, v) ∈ l → v = u) : l.lookup y = some u := by
  refine ?G
  exact (by (intro h; exact h) : have h : (type_of% ?G) := (by
  induction l with
  | nil => cases h
  | cons p l ih =>
    obtain ⟨z, v⟩ := p
    by_cases e : y = z
    · subst e
      have := hu v (.head _)
      subst this
      simp [List.lookup]
    · have e' : (y == z) = false := by simpa using e
      simp only [List.lookup, e']
      refine ih ?_ fun v hv => hu v (.tail _ hv)
      rcases List.mem_cons.mp h with h | h
      · injection h with h1 _; exact absurd h1 e
      · exact h
 ); type_of% ?G)
theorem zip_lk {ps : List Str} {us : List Value} (nd : ps.Nodup) {i : Nat} {y : Str} {u : Value} (hp : ps[i]? = some y) (hu : us[i]? = some u) : (ps.zip us).reverse.lookup y = some u := by
  refine ?G
  exact (by (intro h; exact h) : have h : (type_of% ?G) := (by
  have hz : (ps.zip us)[i]? = some (y, u) := by rw [List.getElem?_zip_eq_some]; exact ⟨hp, hu⟩
  refine lk_of (List.mem_reverse.mpr (List.mem_of_getElem? hz)) fun v hv => ?_
  obtain ⟨j, hj⟩ := List.mem_iff_getElem?.mp (List.mem_reverse.mp hv)
  rw [List.getElem?_zip_eq_some] at hj
  have hij : i = j := by
    obtain ⟨h1, e1⟩ := List.getElem?_eq_some_iff.mp hp
    obtain ⟨h2, e2⟩ := List.getElem?_eq_some_iff.mp hj.1
    rcases Nat.lt_trichotomy i j with q | q | q
    · exact absurd (e1.trans e2.symm) (List.pairwise_iff_getElem.mp nd i j h1 h2 q)
    · exact q
    · exact absurd (e2.trans e1.symm) (List.pairwise_iff_getElem.mp nd j i h2 h1 q)
  subst hij
  rw [hu] at hj
  exact (Option.some.inj hj.2).symm
 ); type_of% ?G)
/-- a parameter's value at the entry -/
theorem start_val {N : List Str} {vs : List V} {i : Nat} {v : V} (h : (L2.start N vs)[i]? = some (some v)) : vs[i]? = some v := by
  simp only [L2.start, List.getElem?_append, List.length_map, List.getElem?_map, List.getElem?_replicate] at h
  split at h
  · simpa using h
  · split at h <;> simp at h
section
variable {CX : CXT} {P : Program} {w : World} {K : PySem.W.Frag} {mg : Str → Option Value} {base : Heap} {N ps : List Str} {qual : Str} {scope : Scope} {f cda cc : Addr} {A : Around} {outer : List Env} {s : Shared} {H : Hp} {E : XK} {us : List Value} {vs : List V}
theorem inv_startK {h1 : Heap} {tk : Nat} {ocl : Value} {ocd : Option Addr} {ocs : Array (Option Value)} {cv : Option Value} (S : FnScK N ps scope) (hd : A.handled = none) (e0 : Env0 P w K mg base A outer s H) (hl : vs.length = ps.length) (r : Vals vs us)
    (hcc : K.lookup cc = some ⟨ocl, ocd, .cell cv, ocs⟩) (hns : h1.Ns s.heap.objs.size (fun x => (ps.zip us).reverse.lookup x)) (hk : ∀ b o, s.heap.get? b = some o → h1.get? b = some o) :
    Inv (cxK CX P w K mg base N qual scope f cda cc A outer s H E) [] (L2.start N vs) H { s with heap := h1, toks := tk } := by
  refine ?G
  exact (by (intro h; exact h) : have h : (type_of% ?G) := (by
  have old := e0.bs _ _ (e0.mod.kin _ _ hcc)
  have none_in : ∀ (b : Addr) {p : Prop}, b ∈ ([] : List Addr) → p := fun b p z => absurd z List.not_mem_nil
  have only : ∀ {y c}, ([(("__class__" : Str), cc)] : List (Str × Addr)).lookup y = some c → y = ("__class__" : Str) ∧ c = cc := fun q => by simpa using PySem.mem_of_lookup q
  have wide : ps.length ≤ N.length := by simpa using congrArg List.length S.pre ▸ (List.length_take_le' ps.length N)
  exact {
    ok := {
      mod := e0.mod, kind := S.kind, glob := rfl, blt := rfl, above := Nat.le_refl _, hd := fun _ => hd, frames := Around.frames_deeper e0.frames, stk := .inr ⟨rfl, rfl⟩
      bs := e0.bs, bsz := e0.bsz, funs := e0.funs, frf := e0.frf
      exf := fun b z => none_in b z, noex := fun _ _ _ z => none_in _ z, exfs := fun b z => none_in b z
      inj := fun y z c q1 q2 => (only q1).1.trans (only q2).1.symm
      has := fun y hy => hy.elim (fun q => absurd rfl (S.nocell _ (PySem.mem_of_lookup q))) (fun q => ⟨cc, by
        have e : y = ("__class__" : Str) := S.free _ (PySem.mem_of_lookup q) rfl
        rw [e]; exact List.lookup_cons_self⟩)
      cab := fun y c own q => by cases own }
    os := rfl, bare := e0.bare, base := Un.kept hk, free := e0.hok.fresh (Nat.le_refl _), hok := e0.hok.kept hk
    pin := fun p z => absurd z List.not_mem_nil
    cell := fun y c q => ⟨cv, _, (only q).2 ▸ hk _ _ old.1, rfl⟩
    freeC := fun y c q => (only q).2 ▸ old.2
    loc := ⟨_, hns, fun i y v hN hv _ => by
      have hvs := start_val hv
      obtain ⟨u, hu, rel⟩ := r.get hvs
      have hi : i < ps.length := hl ▸ (List.getElem?_eq_some_iff.mp hvs).1
      have hy : ps[i]? = some y := by rw [← S.pre, List.getElem?_take_of_lt hi]; exact hN
      exact ⟨u, rel, .inl ⟨S.par y (List.mem_of_getElem? hy), zip_lk (S.pre ▸ S.nd.sublist (List.take_sublist _ _)) hy hu⟩⟩⟩
    len := by
      simp only [L2.start, List.length_append, List.length_map, List.length_replicate]
      show _ = N.length
      omega }
 ); type_of% ?G)
end
/-! ### super().__init__(text) -/
structure SupC (P : Program) (K : PySem.W.Frag) (f cda cc C : Addr) : Prop where
  fn : ∃ oc od fd osl ar, K.lookup f = some ⟨oc, od, .func fd, osl⟩ ∧ (fd.params.posonlyargs ++ fd.params.args).head? = some ar ∧ ar.arg = ("self" : Str)
  code : ∃ ccl cdd vs ccs file tf, K.lookup cda = some ⟨ccl, cdd, .fields vs, ccs⟩ ∧ vs[2]? = some (.str file tf) ∧ ((P.main.file : Str) == file) = true
  cell : ∃ cl cld csl, K.lookup cc = some ⟨cl, cld, .cell (some (.ref C)), csl⟩
  cls : ∃ cd, PySem.W.clsIn K C = some cd ∧ PySem.W.alongIn K "__init__" ((cd.mro.dropWhile (· != .ref C)).drop 1) = some (some (.builtin "ValueError.__init__"))
  self : PySem.W.mroIn K C (.ref C) = some true
  val : PySem.W.subIn K (.ref C) (.type "ValueError") = some true
  op : PySem.W.nsIn K cStatics "thirdparty.any" = some none
  top : (P.main.scope.names.lookup ("super" : Str)).isSome = false
section
variable {CX : CXT} {P : Program} {w : World} {K : PySem.W.Frag} {mg : Str → Option Value} {base : Heap} {N ps : List Str} {qual : Str} {scope : Scope} {f cda cc C : Addr} {A : Around} {outer : List Env} {s0 s : Shared} {H0 H : Hp} {E : XK} {σ : St}
abbrev supE (m : Str) (j : Nat) (p0 p1 p2 p3 p4 : Pos) : Expr := .Call (.Attribute (.Call (.Name "super" p0) [] [] p1) "__init__" p2) [.Constant (.str m) j p3] [] p4
def SupEval (pl : Env → Sem Bool) (m : Str) (j : Nat) (p0 p1 p2 p3 p4 : Pos) : Prop := ∀ env, eval (supE m j p0 p1 p2 p3 p4) env = (attributeBase (.Call (.Name "super" p0) [] [] p1) "__init__" env (eval (.Call (.Name "super" p0) [] [] p1) env) >>= fun ov => standAt p2.atName >>= fun _ => holding [ov] (getMethod ov "__init__" (pl env)) >>= fun q => callWith p4 q.1 q.2 (backTo p4 (starEach [.Constant (.str m) j p3] env)) [])
theorem sup_ok {pl : Env → Sem Bool} {body : List Stmt} {m : Str} {j : Nat} {p0 p1 p2 p3 p4 : Pos} {a : Addr} {E' : Value → Shared → Prop} {Q : Value → Shared → Prop} (he : SupEval pl m j p0 p1 p2 p3 p4) (S : FnScK N ps scope) (c : SupC P K f cda cc C) (T : OexC K C) (hm : mg "super" = none) (hN : N[0]? = some ("self" : Str)) (hself : scope.names.lookup ("self" : Str) = some .local)
    (I : Inv (cxK CX P w K mg base N qual scope f cda cc A outer s0 H0 E) [] σ H s) (ha : σ[0]? = some (some (.ref a))) (hH : H a = some (exo a C none))
    (hq : ∀ v s', Inv (cxK CX P w K mg base N qual scope f cda cc A outer s0 H0 E) [] σ H s' → Q v s') :
    _root_.PySem.wpAt (model P w) (cxK CX P w K mg base N qual scope f cda cc A outer s0 H0 E).A (.func body (cxK CX P w K mg base N qual scope f cda cc A outer s0 H0 E).env)
      (eval (supE m j p0 p1 p2 p3 p4) (cxK CX P w K mg base N qual scope f cda cc A outer s0 H0 E).env) Q E' s := by
  refine ?G
  exact (by (intro h; exact h) : have h : (type_of% ?G) := (by
  obtain ⟨oc, od, fd, osl, ar, hf, hp, har⟩ := c.fn
  obtain ⟨ccl, cdd, vs, ccs, file, tf, hcode, hvs, hfile⟩ := c.code
  obtain ⟨cl, cld, csl, hcell⟩ := c.cell
  obtain ⟨cd, hcd, hal⟩ := c.cls
  have KX := I.kIn
  refine ks_wpAt_MethodCall (pl := pl _) ?_ (he _)
  refine ks_wpAt_super_base S.hs S.hc (by decide) rfl (KX _ _ hf) rfl hp rfl (KX _ _ hcode) rfl hvs hfile c.top ?_
  obtain ⟨mb, hb1, hb2⟩ := I.mod.blt
  refine PySem.W.ks_loadName_global S.kind S.hs (Calls.loadGlobal_builtin (I.mod.glob.keeps I.bk) hm (hb1.keeps I.bk) ((hb2 "super" (by decide)).trans PyProof.Rows.Boot.«super») ⟨rfl, ?_⟩)
  refine wpAny_loadName_free S.kind S.hc rfl ⟨_, KX _ _ hcell, rfl⟩ ?_
  obtain ⟨mm, hns, hloc⟩ := I.loc
  obtain ⟨u, ru, hlk⟩ := hloc 0 "self" _ hN ha (.inl hself)
  obtain rfl : u = Value.ref a := ru
  have hv : mm "self" = some (.ref a) := by
    rcases hlk with ⟨_, q⟩ | ⟨q, _⟩
    · exact q
    · exfalso
      have q : scope.names.lookup ("self" : Str) = some .cell ∨ scope.names.lookup ("self" : Str) = some .free := q
      rw [hself] at q
      rcases q with q | q <;> cases q
  rw [har]
  refine wpAny_loadName_local S.kind hself hns hv ?_
  obtain ⟨oD, hD1, hD2⟩ : ∃ oD, s.heap.get? C = some oD ∧ oD.data = .cls cd := by
    unfold PySem.W.clsIn at hcd
    split at hcd
    · rename_i c' d' cd' sl ho
      cases hcd
      exact ⟨_, KX _ _ ho, rfl⟩
    · cases hcd
  obtain ⟨t1, hx⟩ := exo_at I.hok hH
  obtain ⟨hh, g, dr, tk, os⟩ := s
  refine ks_wpAny_isType_cls hD1 hD2 ⟨rfl, ?_⟩
  refine ks_wpAny_call_super hD1 hD2 hx rfl (fun c e => by cases e) (PySem.W.looks_mroIn KX c.self) (fun h' e k => ?_)
  have I1 := I.kept (t' := tk) k
  have KX1 := I1.kIn
  have hx1 := k _ _ hx
  have hI : PySem.W.Looks (model P w) h' (isInstance (.ref a) (.type "ValueError")) true := (PySem.W.InstAt.type (h := h') (x := a) (C := C) (od := none) ⟨hx1, rfl, rfl, trivial⟩).andThen (PySem.W.looks_subIn KX1 c.val)
  refine PySem.W.kxs_getMethod PySem.W.kxs_ValueError e (PySem.W.looks_opaque KX1 c.op) (l₀ := cd.mro) (fun A Q E s k q => wpAny_bind ((PySem.W.looks_clsIn KX1 hcd) A _ E s k (wpAny_pure q))) rfl KX1 hal hI ?_ (by decide) ?_
  · exact PySem.W.ks_ne KX1 (ox := { cls := .ref C, dict := none, data := .fields #[.ref t1, .none, .none, .none, .bool false, .none] }) (odx := none) ⟨hx1, rfl, rfl, trivial⟩ hcd
  have k2 : ∀ b o, h'.get? b = some o → (h'.push (PySem.W.kxs_mw "ValueError.__init__" a)).get? b = some o := fun b o q => Heap.get?_push_of_some _ q
  have I2 := I1.kept (t' := tk + 1) k2
  refine PySem.W.kxs_callWith (i := "ValueError.__init__") (x := a) rfl (Calls.evalArgs_plain ?_)
  have hpa : PA (cxK CX P w K mg base N qual scope f cda cc A outer s0 H0 E) [.Constant (.str m) j p3] (tCons (tC (.str m)) tNil) := pa_cons pe_str pa_nil
  have I2p := I2.pins_of (pins' := [(h'.objs.size, PySem.W.kxs_mw "ValueError.__init__" a)]) fun p hp => by
    rcases List.mem_cons.mp hp with rfl | hp
    · exact ⟨Heap.get?_push_at rfl rfl, I1.hok.fresh (Nat.le_refl _), Ne.symm (Nat.ne_of_lt I1.lt), I1.nofs (Nat.le_refl _), fun v q => by cases q⟩
    · cases hp
  refine thn (hpa.run p4 _ _ σ H (fun vs H1 => vs = [V.str m] ∧ H1 = H) I2p ⟨rfl, rfl⟩) fun us s1 hh2 => ?_
  obtain ⟨vs', H1, I3, r3, rfl, rfl⟩ := hh2
  have hu : s1.heap.get? h'.objs.size = some (PySem.W.kxs_mw "ValueError.__init__" a) := (I3.pin _ (List.mem_append_right _ (.head _))).1
  refine ⟨hu, ?_⟩
  show wpAny _ _ (call (.ref h'.objs.size) us []) _ _ _
  have I4 := I3.pins_of (pins' := []) fun p hp => by cases hp
  obtain ⟨nm, q, N', bs, bm, sn, sub, ab, col, dd, k0, k1, k2', k3, k5, hC, hbm⟩ := T.cls
  obtain ⟨t2, he2⟩ := exo_at I4.hok hH
  have hC2 := I4.kIn _ _ hC
  have hz : us.length ≤ sizeLine := by
    rw [← Paired.length r3, sizeLine_eq]
    show 1 ≤ _
    omega
  obtain ⟨hh3, g3, d3, tk3, os3⟩ := s1
  refine wpAny_call (codeAny_of_tree ?_)
  show wpAny _ (Around.in1 _) (callAny (.ref h'.objs.size) ⟨us, []⟩) _ _ _
  simp only [callAny]
  refine wpAny_bind (wpAny_load hu ?_)
  simp only [PySem.W.kxs_mw, show (Value.type "method-wrapper" == Value.type "method" || Value.type "method-wrapper" == Value.type "builtin_function_or_method" || Value.type "method-wrapper" == Value.type "method-wrapper") = true by decide, if_true]
  refine PySem.W.KFB.if_so (by decide) ?_
  refine wpAny_bind (PySem.W.check_bound_init F.excBase_ValueError.toExcCallFacts hC2 he2 rfl ?_)
  refine wpAny_bind (wpAny_pure (wpAny_pure ?_))
  refine ⟨plainId_quiet F.excBase_ValueError.init.plain _, codeAny_builtin F.excBase_ValueError.initEntry ?_⟩
  refine PySem.W.exc_init_tree (cls := .ref C) (t0 := t2) (dv := none) (c2 := .none) (c3 := .none) (b4 := .bool false) he2 hz fun h4 k4 hx4 _ => ?_
  have J := I4.write (t' := tk3) (x := a) (e := a) (o := exo a C none) (by rw [hH]; exact True.intro) (.inl rfl) k4 ⟨_, hx4⟩ (exo_ok hx4)
  have eu : upd H1 a (exo a C none) = H1 := by
    funext b
    by_cases hb : b = a
    · rw [hb, upd_same, hH]
    · rw [upd_ne hb]
  rw [eu] at J
  exact hq _ _ J
 ); type_of% ?G)
/-- what a making asks: the fields' stores t behind super().__init__ -/
def spX (N ps : List Str) (C : Addr) (t : TS) : Sp := fun vs H Q _ => vs.length = ps.length ∧ ∃ a, (L2.start N vs)[0]? = some (some (.ref a)) ∧ H a = some (exo a C none) ∧ t { nx := fun _ H' => Q .non H', rt := Q } (L2.start N vs) H
theorem exi_fn {pl : Env → Sem Bool} {k : Nat} {name : Str} {params : Arguments} {rest : List Stmt} {dV kV doc pm ct oc : Value} {an od : Option Addr} {osl : Array (Option Value)} {m : Str} {j : Nat} {p0 p1 p2 p3 p4 p5 : Pos} {t : TS}
    (lk : K.lookup f = some ⟨oc, od, .func (PySem.W.ksFn name qual params (.Expr (supE m j p0 p1 p2 p3 p4) p5 :: rest) scope dV kV doc pm an (.ref cda) ct cc), osl⟩) (hcd : PySem.W.codeIn K (.ref cda) qual = true) (he : SupEval pl m j p0 p1 p2 p3 p4) (S : FnScK N ps scope) (c : SupC P K f cda cc C) (T : OexC K C)
    (hm : mg "super" = none) (hN : N[0]? = some ("self" : Str)) (hself : scope.names.lookup ("self" : Str) = some .local)
    (hrest : ∀ A outer s H E, PSs (cxK CX P w K mg base N qual scope f cda cc A outer s H E) rest t) :
    L2.FnOk P w K mg base CX (k + 1) f (PySem.W.ksFn name qual params (.Expr (supE m j p0 p1 p2 p3 p4) p5 :: rest) scope dV kV doc pm an (.ref cda) ct cc) ps (spX N ps C t) := by
  refine ?G
  exact (by (intro h; exact h) : have h : (type_of% ?G) := (by
  refine ⟨fun vs H Q E h => h.1, fun A outer s H args us vs Q E hr e0 hb r hsp => ?_⟩
  obtain ⟨hl, a, ha, hH, ht⟩ := hsp
  have KX : K.In s.heap := e0.mod.kin.keeps fun b o e => (e0.bs b o e).1
  have lim : s.heap.NoLimit := e0.mod.nolimit.keeps fun b o e => (e0.bs b o e).1
  obtain ⟨cl, cld, csl, hcell⟩ := c.cell
  refine ks_codeAny_call_defAt hr.depth (KX _ _ lk) rfl lim (PySem.W.codeRec_of KX hcd) rfl hb S.nocell (fun y hy => S.par y.1 (List.of_mem_zip hy).1) (fun h1 hns hk => ?_) S.co S.gen S.kind
  have I : Inv (cxK CX P w K mg base N qual scope f cda cc A outer s H E) [] (L2.start N vs) H { s with heap := h1, toks := s.toks + (ps.zip us).length } := inv_startK S hr.hd e0 hl r hcell hns hk
  refine ks_wpAt_execs_cons (ks_wpAt_Expr_any (sup_ok he S c T hm hN hself I ha hH fun v s' J => ?_) I.quiet)
  refine wpAt_of_wpAny (wpAny_mono ((hrest A outer s H E).run [] s' _ H _ J ht) (fun fl s'' hs => ?_) fun e s'' hs => hs)
  have fin : ∀ {σ' : St} {H' : Hp} {v : V} {u : Value}, Inv (cxK CX P w K mg base N qual scope f cda cc A outer s H E) [] σ' H' s'' → RelV v u → Q v H' → CE outer P w H s Q u s'' :=
    fun {σ' H' v u} J rv q => ⟨v, H', J.os, J.bare, J.base, J.hok, rv, q⟩
  cases fl with
  | ret u =>
    obtain ⟨v, σ', H', J, rv, q⟩ := hs
    exact fin J rv q
  | next =>
    obtain ⟨σ', H', J, q⟩ := hs
    exact fin (v := V.non) (u := Value.none) J rfl q
  | brk =>
    obtain ⟨_, _, _, q⟩ := hs
    exact False.elim q
  | cont =>
    obtain ⟨_, _, _, q⟩ := hs
    exact False.elim q
 ); type_of% ?G)
end
end BL

set_option Elab.async false
set_option linter.all false
set_option maxRecDepth 100000
set_option maxHeartbeats 2000000
namespace BL
open PySem L2

/-! ### self.f = x, one behind another -/
def tFlds (K : PySem.W.Frag) : List (Str × Nat) → TS
  | [] => tNext
  | (f, i) :: r => tSeq (tOst K f (tVar 0) (tVar i)) (tFlds K r)
section
variable {K : PySem.W.Frag} {a C dx : Addr} {σ : St} {D : Ends} {val : Nat → V}
theorem flds_old (T : OexC K C) (h0 : σ[0]? = some (some (.ref a))) (hne : dx ≠ a) : ∀ (l : List (Str × Nat)) (H : Hp) (fs : List (Str × V)), H a = some (exo a C (some dx)) → H dx = some (exd dx fs) → fs.length + l.length ≤ 900 →
    (∀ p ∈ l, PySem.W.findIn K (.ref C) p.1 = some none ∧ σ[p.2]? = some (some (val p.2))) → D.nx σ (upd H dx (exd dx ((l.map fun p => (p.1, val p.2)).reverse ++ fs))) → tFlds K l D σ H
  | [], H, fs, ha, hd, _, _, h => by
    show D.nx σ H
    have e : upd H dx (exd dx fs) = H := by
      funext b
      by_cases hb : b = dx
      · rw [hb, upd_same, hd]
      · rw [upd_ne hb]
    simpa [e] using h
  | (f, i) :: l, H, fs, ha, hd, hl, hp, h => by
    obtain ⟨h1, h2⟩ := hp (f, i) (.head _)
    refine ⟨val i, h2, .ref a, h0, a, C, rfl, T, h1, .inr ⟨dx, fs, ha, hd, by simp at hl; omega, ?_⟩⟩
    refine flds_old T h0 hne l _ ((f, val i) :: fs) ?_ upd_same (by simp at hl ⊢; omega) (fun p hp' => hp p (.tail _ hp')) ?_
    · rw [upd_ne (Ne.symm hne)]; exact ha
    · have e : upd (upd H dx (exd dx ((f, val i) :: fs))) dx (exd dx ((l.map fun p => (p.1, val p.2)).reverse ++ (f, val i) :: fs)) = upd H dx (exd dx (((((f, i) :: l).map fun p => (p.1, val p.2)).reverse) ++ fs)) := by
        funext b
        by_cases hb : b = dx
        · rw [hb, upd_same, upd_same]; simp
        · rw [upd_ne hb, upd_ne hb, upd_ne hb]
      rw [e]; exact h
theorem flds_new (T : OexC K C) (h0 : σ[0]? = some (some (.ref a))) {f : Str} {i : Nat} {l : List (Str × Nat)} {H : Hp} (ha : H a = some (exo a C none)) (hl : l.length ≤ 800) (hp : ∀ p ∈ (f, i) :: l, PySem.W.findIn K (.ref C) p.1 = some none ∧ σ[p.2]? = some (some (val p.2)))
    (h : ∀ dx, H dx = none → dx ≠ a → D.nx σ (upd (upd H a (exo a C (some dx))) dx (exd dx ((((f, i) :: l).map fun p => (p.1, val p.2)).reverse)))) : tFlds K ((f, i) :: l) D σ H := by
  refine ?G
  exact (by (intro h; exact h) : have h : (type_of% ?G) := (by
  obtain ⟨h1, h2⟩ := hp (f, i) (.head _)
  refine ⟨val i, h2, .ref a, h0, a, C, rfl, T, h1, .inl ⟨ha, fun dx hd hne => ?_⟩⟩
  refine flds_old T h0 hne l _ [(f, val i)] upd_same ?_ (by simp; omega) (fun p hp' => hp p (.tail _ hp')) ?_
  · rw [upd_ne hne, upd_same]
  · have e : upd (upd (upd H dx (exd dx [(f, val i)])) a (exo a C (some dx))) dx (exd dx ((l.map fun p => (p.1, val p.2)).reverse ++ [(f, val i)])) = upd (upd H a (exo a C (some dx))) dx (exd dx ((((f, i) :: l).map fun p => (p.1, val p.2)).reverse)) := by
      funext b
      by_cases hb : b = dx
      · rw [hb, upd_same, upd_same]; simp
      · rw [upd_ne hb, upd_ne hb]
        by_cases hb2 : b = a
        · rw [hb2, upd_same, upd_same]
        · rw [upd_ne hb2, upd_ne hb2, upd_ne hb]
    rw [e]; exact h dx hd hne
 ); type_of% ?G)
end
/-- the fields of the names ns, from the parameters behind self -/
def fldsOf (ns : List Str) : List (Str × Nat) := ns.zipIdx 1
/-- an own error class: its making keeps what it got, by the names ns -/
structure ExA (b : Zb) (k c : Nat) (ns : List Str) : Prop where
  T : OexC b.K (b.ca c)
  ne : ns ≠ []
  few : ns.length ≤ 100
  no : ∀ n ∈ ns, PySem.W.findIn b.K (.ref (b.ca c)) n = some none
  ex : ∃ fI fd ps, PySem.W.findIn b.K (.ref (b.ca c)) "__init__" = some (some (.ref fI)) ∧ PySem.W.typeIn b.K (.ref fI) = some (.type "function") ∧ ps.length = ns.length + 1 ∧ Binds b.K fd ps [] ∧
    L2.FnOk b.P b.w b.K b.mg b.base (L2.CX b.P b.w) k fI fd ps (spX ps ps (b.ca c) (tFlds b.K (fldsOf ns)))
def dRaise (c : Nat) (ns : List Str) (das : List De) : Dst := fun r G => (dArgs das (fun ds G => .exc c ns.reverse ds.reverse G) r G).thn r fun _ _ => .stuck
theorem RpDs.rev {g : Gm} {m : Nat → Addr} {n b : Nat} {H : Hp} : ∀ {ds : List D} {vs : List V}, RpDs g m n b H ds vs → RpDs g m n b H ds.reverse vs.reverse
  | [], vs, h => by cases h; rfl
  | d :: ds, vs, ⟨v, ws, e, h, r⟩ => by
    subst e
    rw [List.reverse_cons, List.reverse_cons]
    exact RpDs.append (RpDs.rev r) ⟨v, [], rfl, h, rfl⟩
theorem flds_zip {val : Nat → V} : ∀ (ns : List Str) (vs : List V) (j : Nat), vs.length = ns.length → (∀ i v, vs[i]? = some v → val (i + j) = v) → ((ns.zipIdx j).map fun p => (p.1, val p.2)) = ns.zip vs
  | [], [], _, _, _ => rfl
  | n :: ns, v :: vs, j, hl, h => by
    simp only [List.zipIdx_cons, List.map_cons, List.zip_cons_cons, List.cons.injEq, Prod.mk.injEq, true_and]
    refine ⟨by simpa using h 0 v rfl, flds_zip ns vs (j + 1) (by simpa using hl) fun i u hu => ?_⟩
    have := h (i + 1) u (by simpa using hu)
    rw [← this]
    congr 1
    omega
  | [], _ :: _, _, hl, _ => by simp at hl
  | _ :: _, [], _, hl, _ => by simp at hl
section
variable {Z : Zc} {x : Str} {e : Expr} {es : List Expr} {das : List De} {k c : Nat} {ns : List Str} {p pos pos' : Pos}
theorem psd_raise (h : ExA Z.toZb k c ns) (hk : k + 1 ≤ Z.k) (hm : Z.mg x = some (.ref (Z.ca c))) (ha : PDA Z (e :: es) das) (hn : das.length = ns.length) (hg : GlS Z x := by rfl)
    (hdb : (x == ("__debug__" : Str)) = false := by decide) (he : ∀ env, starEach (e :: es) env = (false, eval e env) :: starEach es env := by intro _; rfl) (hpl : ∀ env, (backTo pos (starEach es env)).any (·.1) = false := by intro _; rfl) :
    PSD Z (.Raise (some (.Call (.Name x p) (e :: es) [] pos)) none pos') (dRaise c ns das) := by
  refine ?G
  exact (by (intro h; exact h) : have h : (type_of% ?G) := (fun X W ok => by
  obtain ⟨fI, fd, ps, iC, tI', hl, hb, F1⟩ := h.ex
  have hx : Passes (L2.CX X.prog X.w) X (fun _ _ _ => False) := passes_call ok.tk fun _ _ _ _ z => z.elim
  refine psI (ps_raise ok.calm ok.tk (pmk_oex (X := X) (CX := L2.CX X.prog X.w) (C := Z.ca c) (dvs := []) (ds := []) (by rw [ok.K]; exact h.T) (by rw [ok.K]; exact iC) (by rw [ok.K]; exact tI') (by rw [ok.P, ok.w, ok.K, ok.mg, ok.base]; exact F1) (ok.rm.mono hk).toRoom (by rw [ok.K]; exact hb) .nil hx
    (show X.env.scope.names.lookup x = _ by rw [ok.sc]; exact hg) (by rw [ok.mg]; exact hm) (ha X W ok) hdb (he _) (hpl _))) fun D σ H ⟨m, r, G, s, sl, p⟩ => ?_
  have pe : PostE Z.g W m G.length H σ (fun _ _ => False) (dArgs das (fun ds G => .exc c ns.reverse ds.reverse G) r G) := by
    unfold dRaise at p
    cases q : dArgs das (fun ds G => .exc c ns.reverse ds.reverse G) r G with
    | ok d G' => rw [q] at p; exact p.elim
    | stuck => rw [q] at p; exact p.elim
    | exc c' ns' ds' G' =>
      rw [q] at p
      intro da m' H' xs x' s' hd nb rs
      exact p σ da m' H' xs x' s' (Sl.ex x' s sl) hd nb rs
  refine tA_of s sl pe fun ds G1 vs m1 H1 x1 s1 sl1 rs hl1 p1 => ?_
  have hlv : vs.length = ns.length := by rw [← rs.length, hl1, hn]
  refine ⟨by rw [hlv]; have := h.few; omega, fun a hna => ?_⟩
  refine ⟨by rw [List.length_cons, List.append_nil, hlv, hl], a, ?_, upd_same, ?_⟩
  · unfold L2.start
    rfl
  have hne := h.ne
  have hval : ∀ p ∈ fldsOf ns, PySem.W.findIn Z.K (.ref (Z.ca c)) p.1 = some none ∧ (L2.start ps (V.ref a :: (vs ++ [])))[p.2]? = some (some (((V.ref a :: vs)[p.2]?).getD .non)) := by
    intro p hp
    unfold fldsOf at hp
    have hm1 := List.mem_zipIdx hp
    refine ⟨h.no p.1 (by rw [hm1.2.2]; exact List.getElem_mem _), ?_⟩
    have hi : p.2 < (V.ref a :: vs).length := by rw [List.length_cons, hlv]; omega
    unfold L2.start
    rw [List.append_nil, List.getElem?_append_left (by simpa using hi), List.getElem?_map, List.getElem?_eq_getElem hi]
    rfl
  have hz : ((fldsOf ns).map fun p => (p.1, ((V.ref a :: vs)[p.2]?).getD .non)) = ns.zip vs := flds_zip (val := fun i => ((V.ref a :: vs)[i]?).getD .non) ns vs 1 hlv fun i v hv => by simp [hv]
  obtain ⟨f0, l0, hfl⟩ : ∃ f0 l0, fldsOf ns = (f0, 1) :: l0 := by
    cases ns with
    | nil => exact absurd rfl hne
    | cons n ns => exact ⟨n, ns.zipIdx 2, rfl⟩
  have hlen0 : l0.length ≤ 800 := by
    have e1 : (fldsOf ns).length = ns.length := by unfold fldsOf; simp
    rw [hfl, List.length_cons] at e1
    have := h.few
    omega
  rw [hfl] at hval hz ⊢
  refine flds_new (val := fun i => ((V.ref a :: vs)[i]?).getD .non) h.T rfl upd_same hlen0 hval fun dx hd hdx => ?_
  rw [upd_ne hdx] at hd
  rw [hz]
  refine ⟨rfl, dx, _, ?_, upd_same, hd, ?_⟩
  · rw [upd_ne (Ne.symm hdx), upd_same]
  have er : (ns.zip vs).reverse = ns.reverse.zip vs.reverse := List.reverse_zipWith (by rw [hlv])
  have eH : upd (del (upd (upd (upd H1 a (exo a (Z.ca c) none)) a (exo a (Z.ca c) (some dx))) dx (exd dx (ns.zip vs).reverse)) a) dx (HO.xd (ns.zip vs).reverse) = upd H1 dx (HO.xd (ns.reverse.zip vs.reverse)) := by
    funext b
    by_cases hb : b = dx
    · rw [hb, upd_same, upd_same, er]
    · rw [upd_ne hb, upd_ne hb]
      by_cases hb2 : b = a
      · rw [hb2, del_same, hna]
      · rw [del_ne hb2, upd_ne hb, upd_ne hb2, upd_ne hb2]
  show W _ _ σ (upd (del _ a) dx _)
  rw [eH]
  exact p1 dx m1 _ vs.reverse (Ex.new hd) (s1.new hd trivial) upd_same (fun z => s1.notBd hd (.inl z)) (RpDs.ex (Ex.new hd) s1 (Nat.le_refl _) (Nat.le_refl _) rs.rev)
 ); type_of% ?G)
end
end BL

set_option Elab.async false
set_option linter.all false
set_option maxRecDepth 100000
set_option maxHeartbeats 2000000
namespace BL
open PySem PySem.Spec PyProof.Rows L2

/-! ### try: .. with clauses that all name the error -/
abbrev Cls1 := Value × (Addr → Value → Option Addr → TS)
/-- behind a clause the name is gone -/
def endsAs (D : Ends) (i : Nat) : Ends := { nx := fun z K' => D.nx (z.set i none) K', rt := D.rt, bk := fun z K' => D.bk (z.set i none) K', ct := fun z K' => D.ct (z.set i none) K' }
def wClauses (K : PySem.W.Frag) (i : Nat) (out : WX) (D : Ends) : List Cls1 → WX
  | [] => out
  | q :: qs => fun cls d z K' => ∃ b, PySem.W.exmOne K cls q.1 = some b ∧ (b = true → ∀ a, K' a = none → q.2 a cls d (endsAs D i) (z.set i (some (.ref a))) K') ∧ (b = false → wClauses K i out D qs cls d z K')
inductive ClsOk (X : Cx) (n : Str) : List ExceptHandler → List Cls1 → Prop
  | none : ClsOk X n [] []
  | more {x : Str} {c : Value} {ts : Addr → Value → Option Addr → TS} {st : Stmt} {sts : List Stmt} {np hp : Pos} {hs : List ExceptHandler} {qs : List Cls1} (nm : Names X x c)
      (su : ∀ a oe cls d pn, L2.Zc cls d oe → (∃ fs, oe.data = .fields fs) → PSs (X.suite a ((a, oe) :: pn)) (st :: sts) (ts a cls d)) (r : ClsOk X n hs qs) :
      ClsOk X n (.ExceptHandler (some (.Name x np)) (some n) (st :: sts) hp :: hs) ((c, ts) :: qs)
section
variable {X : Cx} {n : Str} {i : Nat} {out : WX} {D : Ends} {pins : List (Addr × Obj)}
/-- an error that has landed, looked at by the clauses one after the other -/
theorem clauses_go (stk : X.stack = X.env :: X.outer) (frm : X.env.frame = some X.env.locals) (nd : X.N.Nodup) (at_ : X.N[i]? = some n) (lcl : X.env.kindOf n = some .local) (tk : Takes X out) {a : Addr} {cls : Value} {d : Option Addr} {z : L2.St} {K' : Hp} {s0 s1 : Shared} {B : Heap}
    (J : Inv X pins z K' s0) (nb : ∀ b o, s0.heap.get? b = some o → b ∉ frs X.stack → B.get? b = some o) (os : s1.os = s0.os) (ag : AllBare s1.gens) (na : K' a = none) (nL : a ≠ X.env.locals) (nF : a ∉ X.fs)
    (fl : HandSPX.FlyingZ B (X.env :: X.outer) a (L2.Zc cls d) s1.heap) (up : s0.heap.UpToSlots s1.heap) :
    ∀ {hs : List ExceptHandler} {qs : List Cls1}, ClsOk X n hs qs → wClauses X.K i out D qs cls d z K' → wpAny (model X.prog X.w) X.A (handleBy (.ref a) X.env hs) (SP X pins D) X.xe s1 := by
  refine ?G
  exact (by (intro h; exact h) : have h : (type_of% ?G) := (by
  have okX := J.ok
  have J1 : Inv X pins z K' s1 := J.landed nb fl.1 up os ag
  obtain ⟨oe, fs, hoe, hze, hfs⟩ := fl.there
  intro hs qs hk
  induction hk with
  | none =>
    intro w
    refine wpAny_handleBy_nil ?_
    obtain ⟨_, _, _, o5, v5, T5, _, _, e5, _, d5, f5, _⟩ := id fl
    unfold PySem.passOn
    refine wpAny_bind (wpAny_field e5 d5 f5 ?_)
    rw [if_neg (show ¬ ((Value.ref T5 == Value.none) = true) by simp)]
    have away : wpAny (model X.prog X.w) X.A (setFlight (.ref a) X.env.frame) (fun _ s4 => wpAny (model X.prog X.w) X.A (throw (.ref a) : Sem Flow) (SP X pins D) X.xe s4) X.xe s1 := by
      rw [frm]
      refine HandSPX.setFlight_upZ fl fun h4 hh up4 => wpAny_throw (tk _ _ ?_)
      exact ⟨a, B, s0, pins, z, K', cls, d, rfl, J, nb, up.trans up4, .inr (.inr (by rw [stk]; exact hh)), na, os, ag, w⟩
    first
      | exact wpAny_bind (wpAny_pure (wpAny_bind away))
      | exact wpAny_bind away
  | @more x c ts st sts np hp hs2 qs2 nm su r ih =>
    rintro ⟨b, hb, yes, no⟩
    have S1 := J1.suite hoe hfs na nL nF
    refine wpAny_handleBy_cons (codeAny_handlers_test ?_) (by intro q; cases q)
    have LT : PySem.W.Looks (model X.prog X.w) s1.heap (typeOf (.ref a)) cls := fun A' Q' E' s' k' q' => wpAny_typeOf_ref (k' _ _ hoe) (by rw [hze.1]; exact q')
    have LM := PySem.W.exm_one (M := model X.prog X.w) J1.kIn LT hb
    have name : ∀ {Q' E' : Value → Shared → Prop}, Q' c s1 → wpAny (model X.prog X.w) (X.A.mark (some (.ref a))) (eval (.Name x np) X.env) Q' E' s1 := fun {Q' E'} q' => by
      obtain ⟨g1, g2, g3 | ⟨g3, g4, g5⟩⟩ := nm
      · exact ld_glob (X := X.suite a ((a, oe) :: (X.pn ++ pins))) S1 g1 g3 q' g2
      · exact ld_blt (X := X.suite a ((a, oe) :: (X.pn ++ pins))) S1 g1 g3 g4 q' g5 g2
    refine name (LM.here ?_)
    cases b with
    | false => exact ih (no rfl)
    | true =>
      refine codeAny_handlers_suite_as ?_
      refine HandSPX.lands_againZ fl fun h4 fl4 up4 => ?_
      have J4 : Inv X pins z K' { s1 with heap := h4 } := J.landed nb fl4.1 (up.trans up4) os ag
      obtain ⟨oe4, fs4, he4, hz4, hd4⟩ := fl4.there
      have S4 := J4.suite he4 hd4 na nL nF
      refine store_ok (X := X.suite a ((a, oe4) :: (X.pn ++ pins))) (v := .ref a) S4 nd at_ (.inl lcl) rfl (fun s5 S5 => ?_) (.inr lcl)
      refine wpAny_mono ((su a oe4 cls d (X.pn ++ pins) hz4 ⟨_, hd4⟩).run [] s5 _ K' _ S5 (yes rfl a na)) (fun f s6 hsp => ?_) (fun _ _ bad => False.elim bad)
      have tidy : ∀ {z6 : L2.St} {K6 : Hp} {Q' : Shared → Prop}, Inv (X.suite a ((a, oe4) :: (X.pn ++ pins))) [] z6 K6 s6 → (∀ s7, Inv X pins (z6.set i none) K6 s7 → Q' s7) →
          wpAny (model X.prog X.w) X.A (do bindName X.env n .none; unbindBehindTheSuite X.env n hp) (fun _ s7 => Q' s7) X.xe s6 := fun {z6 K6 Q'} S6 hq => gone_ok (S6.unsuite okX) nd at_ lcl hq
      cases f with
      | ret u =>
        obtain ⟨v6, z6, K6, S6, r6, q6⟩ := hsp
        exact tidy S6 fun s7 J7 => ⟨_, _, _, J7, r6, q6⟩
      | next =>
        obtain ⟨z6, K6, S6, q6⟩ := hsp
        exact tidy S6 fun s7 J7 => ⟨_, _, J7, q6⟩
      | brk =>
        obtain ⟨z6, K6, S6, q6⟩ := hsp
        exact tidy S6 fun s7 J7 => ⟨_, _, J7, q6⟩
      | cont =>
        obtain ⟨z6, K6, S6, q6⟩ := hsp
        exact tidy S6 fun s7 J7 => ⟨_, _, J7, q6⟩
 ); type_of% ?G)
theorem ps_try_named {body : List Stmt} {h0 : ExceptHandler} {hs : List ExceptHandler} {qs : List Cls1} {pos : Pos} {tb : WX → TS} (stk : X.stack = X.env :: X.outer) (frm : X.env.frame = some X.env.locals) (nd : X.N.Nodup) (at_ : X.N[i]? = some n) (lcl : X.env.kindOf n = some .local) (tk : Takes X out)
    (hb : ∀ (W : WX) (pn : List (Addr × Obj)) (xe : Value → Shared → Prop), Takes (X.tr pn xe) W → PassesOwn (model X.prog X.w) X.A X.env xe → PSs (X.tr pn xe) body (tb W))
    (hc : ClsOk X n (h0 :: hs) qs) : PS X (.Try body (h0 :: hs) [] [] pos) (fun D z K' => tb (wClauses X.K i out D qs) D z K') := by
  refine ?G
  exact (by (intro h; exact h) : have h : (type_of% ?G) := (by
  refine ⟨fun pins s z K' D I h => ?_⟩
  have okX := I.ok
  have hfr : X.A.frames = some (X.env :: X.outer) := by rw [okX.frames, stk]
  refine wpAny_Try_except ?_
  let xe' : Value → Shared → Prop := fun e s1 => wpAny (model X.prog X.w) X.A (noteFrame e X.env) (fun _ s2 => wpAny (model X.prog X.w) X.A (setFlight e Option.none) (fun _ s3 => wpAny (model X.prog X.w) X.A (handleBy e X.env (h0 :: hs)) (SP X pins D) X.xe s3) X.xe s2) X.xe s1
  have tk' : Takes (X.tr (X.pn ++ pins) xe') (wClauses X.K i out D qs) := fun u s' got => by
    obtain ⟨a, B, sI, pins', z', H', cls, d, rfl, J', nb, up, sky, na, os, ag, w⟩ := got
    have J : Inv X pins z' H' sI := J'.ofTry okX
    have sky' : Sky B (X.env :: X.outer) a (L2.Zc cls d) X.env.locals s'.heap := by rw [← stk]; exact sky
    show wpAny (model X.prog X.w) X.A (noteFrame (.ref a) X.env) _ _ _
    refine Sky.land L2.Zc.steady hfr frm sky' fun h3 fl3 up3 => ?_
    obtain ⟨oe3, fs3, he3, hz3, hd3⟩ := fl3.there
    have out3 : a ∉ frs (X.env :: X.outer) := fun hm => by
      obtain ⟨_, o', e', hnf⟩ := fl3.2.2.1.mem hm
      rw [he3] at e'
      cases e'
      exact hnf _ hd3
    refine clauses_go (B := B) stk frm nd at_ lcl tk (s1 := { s' with heap := h3 }) J nb os ag na (fun q => out3 ?_) (fun q => out3 ?_) fl3 (up.trans up3) hc w
    · exact List.mem_filterMap.mpr ⟨X.env, List.mem_cons_self, by rw [frm, q]⟩
    · obtain ⟨e, he, q2⟩ := List.mem_filterMap.mp q
      exact List.mem_filterMap.mpr ⟨e, List.mem_cons_of_mem _ he, q2⟩
  refine wpAny_mono ((hb (wClauses X.K i out D qs) (X.pn ++ pins) xe' tk' PassesOwn.looking).run [] s z K' D (I.toTry _) h) (fun f s1 hsp => ?_) (fun e s1 he => he)
  cases f with
  | ret u =>
    obtain ⟨v, z', H', J', r, q⟩ := hsp
    exact ⟨v, z', H', J'.ofTry okX, r, q⟩
  | next =>
    obtain ⟨z', H', J', q⟩ := hsp
    exact wpAny_execs_nil ⟨z', H', J'.ofTry okX, q⟩
  | brk =>
    obtain ⟨z', H', J', q⟩ := hsp
    exact ⟨z', H', J'.ofTry okX, q⟩
  | cont =>
    obtain ⟨z', H', J', q⟩ := hsp
    exact ⟨z', H', J'.ofTry okX, q⟩
 ); type_of% ?G)
end
end BL

set_option Elab.async false
set_option linter.all false
set_option maxRecDepth 100000
set_option maxHeartbeats 400000
namespace BL
open PySem PySem.Spec PyProof.Rows L2

/-! ### what repr and str tell of tuples and lists -/
mutual
/-- plain data as what is shown -/
def pyT : T → Option PyData
  | .non => some .none
  | .bl b => some (.bool b)
  | .int i => some (.int i)
  | .str x => some (.str x)
  | .tup ts => (pyTs ts).map .tuple
  | .ftp ts => (pyTs ts).map .tuple
  | .lst ts => (pyTs ts).map .list
  | _ => none
def pyTs : List T → Option (List PyData)
  | [] => some []
  | t :: ts => match pyT t, pyTs ts with
    | some d, some ds => some (d :: ds)
    | _, _ => none
end
mutual
theorem reads_of {P : Program} {w : World} {g : Gm0} {B : Addr → Prop} {H : Hp} {h : Heap} (hok : HOk P w H h) (kin : g.K.In h) : ∀ (t : T) {v : V} {u : Value} {d : PyData}, Rp g B H t v → RelV v u → pyT t = some d → ∃ as, Reads h u d as
  | .non, v, u, d, r, ru, e => by
    cases r; cases ru; cases e; exact ⟨_, .none⟩
  | .bl b, v, u, d, r, ru, e => by
    cases r; cases ru; cases e; exact ⟨_, .bool b⟩
  | .int i, v, u, d, r, ru, e => by
    cases r
    obtain ⟨t, rfl⟩ := ru
    cases e; exact ⟨_, .int i t⟩
  | .str x, v, u, d, r, ru, e => by
    cases r.1
    obtain ⟨t, rfl⟩ := ru
    cases e; exact ⟨_, .str x t⟩
  | .tup ts, v, u, d, ⟨a, xs, ev, hs, rs⟩, ru, e => by
    cases ev; cases ru
    obtain ⟨ds, e1, rfl⟩ := Option.map_eq_some_iff.mp e
    rcases hs with hs | ⟨o, its, n, hk, h1, h2, _, h4⟩
    · obtain ⟨_, its, rv, o, h0, h1, n, h2⟩ := hs.ok hok
      obtain ⟨as, q⟩ := readss_of hok kin ts rs rv e1
      exact ⟨_, .tuple h0 h1 h2 (by simpa using q)⟩
    · obtain ⟨as, q⟩ := readss_of hok kin ts rs h4 e1
      exact ⟨_, .tuple (kin a o hk) h1 h2 q⟩
  | .ftp ts, v, u, d, ⟨a, ob, xs, ev, h0, _, _, rs⟩, ru, e => by
    cases ev; cases ru
    obtain ⟨ds, e1, rfl⟩ := Option.map_eq_some_iff.mp e
    obtain ⟨_, its, rv, o, h0, h1, n, h2⟩ := (hok a _ h0).2
    obtain ⟨as, q⟩ := readss_of hok kin ts rs rv e1
    exact ⟨_, .tuple h0 h1 h2 (by simpa using q)⟩
  | .lst ts, v, u, d, ⟨a, xs, ev, hs, rs⟩, ru, e => by
    cases ev; cases ru
    obtain ⟨ds, e1, rfl⟩ := Option.map_eq_some_iff.mp e
    rcases hs with ⟨hs, _⟩ | ⟨o, its, n, hk, h1, _, h2, _, h4⟩
    · obtain ⟨_, its, n, rv, h0⟩ := hs.ok hok
      obtain ⟨as, q⟩ := readss_of hok kin ts rs rv e1
      exact ⟨_, .list h0 rfl rfl (by simpa using q)⟩
    · obtain ⟨as, q⟩ := readss_of hok kin ts rs h4 e1
      exact ⟨_, .list (kin a o hk) h1 h2 q⟩
  | .dk _ _, _, _, _, _, _, e => nomatch e
  | .obj _ _ _, _, _, _, _, _, e => nomatch e
  | .cls _, _, _, _, _, _, e => nomatch e
  | .nd _ _, _, _, _, _, _, e => nomatch e
theorem readss_of {P : Program} {w : World} {g : Gm0} {B : Addr → Prop} {H : Hp} {h : Heap} (hok : HOk P w H h) (kin : g.K.In h) : ∀ (ts : List T) {vs : List V} {us : List Value} {ds : List PyData}, Rps g B H ts vs → Vals vs us → pyTs ts = some ds → ∃ as, ReadsAll h us ds as
  | [], vs, us, ds, r, ru, e => by
    cases r; cases ru; cases e; exact ⟨_, .nil⟩
  | t :: ts, vs, us, ds, ⟨v, vs', ev, r, rs⟩, ru, e => by
    subst ev
    obtain _ | ⟨r1, r2⟩ := ru
    unfold pyTs at e
    split at e
    · next d ds' e1 e2 =>
      cases e
      obtain ⟨as, q⟩ := reads_of hok kin t r r1 e1
      obtain ⟨bs, qs⟩ := readss_of hok kin ts rs r2 e2
      exact ⟨_, .cons q qs⟩
    · cases e
end
mutual
theorem pyT_noDict : ∀ (t : T) {d : PyData}, pyT t = some d → d.hasDict = false
  | .non, _, e => by cases e; rfl
  | .bl _, _, e => by cases e; rfl
  | .int _, _, e => by cases e; rfl
  | .str _, _, e => by cases e; rfl
  | .tup ts, _, e => by
    obtain ⟨ds, e1, rfl⟩ := Option.map_eq_some_iff.mp e
    exact pyTs_noDict ts e1
  | .ftp ts, _, e => by
    obtain ⟨ds, e1, rfl⟩ := Option.map_eq_some_iff.mp e
    exact pyTs_noDict ts e1
  | .lst ts, _, e => by
    obtain ⟨ds, e1, rfl⟩ := Option.map_eq_some_iff.mp e
    exact pyTs_noDict ts e1
  | .dk _ _, _, e => nomatch e
  | .obj _ _ _, _, e => nomatch e
  | .cls _, _, e => nomatch e
  | .nd _ _, _, e => nomatch e
theorem pyTs_noDict : ∀ (ts : List T) {ds : List PyData}, pyTs ts = some ds → PyData.hasDictAll ds = false
  | [], _, e => by cases e; rfl
  | t :: ts, _, e => by
    unfold pyTs at e
    split at e
    · next d ds' e1 e2 =>
      cases e
      show (d.hasDict || PyData.hasDictAll ds') = false
      rw [pyT_noDict t e1, pyTs_noDict ts e2]; rfl
    · cases e
end
/-- a container that can be shown here -/
def okPy (d : PyData) : Bool := d.showable && (decide (d.depth ≤ 40) && (decide (d.shown.length ≤ sizeLine) && PyData.strOk d.shown))
def isBox : T → Bool
  | .tup _ | .ftp _ | .lst _ => true
  | _ => false
/-- room for a repr: no guard around, and units left -/
structure Gs (A : Around) : Prop where
  gd : A.guards = some []
  un : A.units + 64 < cLine
theorem Room.gs {k : Nat} {A : Around} (r : Room k A) : Gs A := ⟨r.gd, r.units⟩
theorem gs_of {A : Around} {env : Env} {h : Option Value} (r : Room 1 A) : Gs ((A.deeper env).mark h) := ⟨r.gd, (r.deeper (k := 0) env).units⟩
/-- what is asked of the value: it stands for a container that can be shown -/
def rBox (K : PySem.W.Frag) : List V → Hp → VK → Prop := fun xs H Q => ∃ a g B t d, xs = [.ref a] ∧ Gm0.K g = K ∧ Rp g B H t (.ref a) ∧ pyT t = some d ∧ okPy d = true ∧ Q (.str d.shown) H
theorem box_ref {g : Gm0} {B : Addr → Prop} {H : Hp} {t : T} {v : V} (hb : isBox t = true) (r : Rp g B H t v) : ∃ a, v = .ref a := by
  cases t with
  | tup ts => obtain ⟨a, _, e, _⟩ := r; exact ⟨a, e⟩
  | ftp ts => obtain ⟨a, _, _, e, _⟩ := r; exact ⟨a, e⟩
  | lst ts => obtain ⟨a, _, e, _⟩ := r; exact ⟨a, e⟩
  | _ => cases hb
theorem okPy_iff {d : PyData} (h : okPy d = true) : d.showable = true ∧ d.depth ≤ 40 ∧ d.shown.length ≤ sizeLine ∧ okS d.shown := by
  unfold okPy at h
  simp only [Bool.and_eq_true, decide_eq_true_eq] at h
  exact h
section
variable {X : Cx}
theorem call_reprB (hr : Gs X.A) : CallR X (.builtin "repr") (rBox X.K) := by
  refine ?G
  exact (by (intro h; exact h) : have h : (type_of% ?G) := (by
  intro pins s σ H xs us Q I r h
  obtain ⟨a, g, B, t, d, rfl, hK, rp, e, hok, q⟩ := h
  obtain ⟨u, rfl, ru⟩ := vals1 r
  obtain ⟨h1, h2, h3, h4⟩ := okPy_iff hok
  cases (show u = Value.ref a from ru)
  obtain ⟨as, rd⟩ := reads_of I.hok (by rw [hK]; exact I.kIn) t rp rfl e
  exact repr_of_reads' rd h1 (PyData.noDict_hsm (pyT_noDict t e)) hr.gd (by have := hr.un; omega) (fun _ _ z => z) (fun h' u tk grows => ⟨.str d.shown, H, I.kept grows, ⟨_, rfl⟩, q⟩) h3
 ); type_of% ?G)
end
end BL

set_option Elab.async false
set_option linter.all false
set_option maxRecDepth 100000
set_option maxHeartbeats 2000000
namespace BL
open PySem PySem.Spec PyProof.Rows L2

/-! ### repr of a number, a text, a truth, None -/
def reprV : V → Option Str
  | .int i => if i.natAbs.log2 < 1920 then some (toString i) else none
  | .str x => if (reprText x).length ≤ sizeLine then some (reprText x) else none
  | .bl b => some (if b then "True" else "False")
  | .non => some "None"
  | _ => none
def reprT : T → Option Str
  | .int i => if i.natAbs.log2 < 1920 then some (toString i) else none
  | .str x => if (reprText x).length ≤ sizeLine then some (reprText x) else none
  | .bl b => some (if b then "True" else "False")
  | .non => some "None"
  | t => match pyT t with
    | some d => if okPy d = true then some d.shown else none
    | none => none
/-- a value whose repr is told: flat, or a container that can be shown -/
def ReprV (K : PySem.W.Frag) (H : Hp) (w : V) (y : Str) : Prop := reprV w = some y ∨ ∃ a g B t d, w = .ref a ∧ Gm0.K g = K ∧ Rp g B H t (.ref a) ∧ pyT t = some d ∧ okPy d = true ∧ y = d.shown
theorem reprT_box {t : T} (hb : isBox t = true) : reprT t = match pyT t with
    | some d => if okPy d = true then some d.shown else none
    | none => none := by
  cases t <;> first | rfl | cases hb
theorem reprT_v {g : Gm0} {B : Addr → Prop} {H : Hp} {t : T} {v : V} {y : Str} (r : Rp g B H t v) (e : reprT t = some y) : ReprV g.K H v y := by
  refine ?G
  exact (by (intro h; exact h) : have h : (type_of% ?G) := (by
  cases hb : isBox t with
  | true =>
    rw [reprT_box hb] at e
    obtain ⟨a, rfl⟩ := box_ref hb r
    cases e1 : pyT t with
    | none => rw [e1] at e; cases e
    | some d =>
      rw [e1] at e
      simp only at e
      split at e
      · next hk => cases e; exact .inr ⟨a, g, B, t, d, rfl, rfl, r, e1, hk, rfl⟩
      · cases e
  | false =>
    cases t with
    | int i => cases r; exact .inl e
    | str x => cases r.1; exact .inl e
    | bl b => cases r; exact .inl e
    | non => cases r; exact .inl e
    | tup _ => cases hb
    | ftp _ => cases hb
    | lst _ => cases hb
    | _ => cases e
 ); type_of% ?G)
def rRepr (K : PySem.W.Frag) : List V → Hp → VK → Prop := fun xs H Q => ∃ w y, xs = [w] ∧ ReprV K H w y ∧ Q (.str y) H
theorem call_reprV {X : Cx} (hg : Gs X.A) : CallR X (.builtin "repr") (rRepr X.K) := by
  refine ?G
  exact (by (intro h; exact h) : have h : (type_of% ?G) := (by
  intro pins s σ H xs us Q I r h
  obtain ⟨w, y, rfl, e, q⟩ := h
  rcases e with e | ⟨a, g, B, t, d, rfl, hK, rp, e1, hk, rfl⟩
  case inr => exact call_reprB hg pins s σ H [.ref a] us Q I r ⟨a, g, B, t, d, rfl, hK, rp, e1, hk, q⟩
  obtain ⟨u, rfl, ru⟩ := vals1 r
  cases w with
  | int i =>
    obtain ⟨t, rfl⟩ := ru
    change (if i.natAbs.log2 < 1920 then some (toString i : Str) else none) = some y at e
    split at e
    · rename_i hz
      cases e
      exact PySem.P.repr_of_int hz ⟨.str _, H, I.tok _, ⟨_, rfl⟩, q⟩
    · cases e
  | str x =>
    obtain ⟨t, rfl⟩ := ru
    change (if (reprText x).length ≤ sizeLine then some (reprText x) else none) = some y at e
    split at e
    · rename_i hz
      cases e
      exact PySem.P.repr_of_str ⟨.str _, H, I.tok _, ⟨_, rfl⟩, q⟩ hz
    · cases e
  | bl b =>
    cases ru
    cases e
    exact PySem.P.repr_of_bool ⟨.str _, H, I.tok _, ⟨_, rfl⟩, q⟩
  | non =>
    cases ru
    cases e
    exact PySem.P.repr_of_none ⟨.str _, H, I.tok _, ⟨_, rfl⟩, q⟩
  | _ => cases e
 ); type_of% ?G)
/-- repr(n.f), n the error at a -/
def tRpr (K : PySem.W.Frag) (i : Nat) (a : Addr) (cls : Value) (d : Option Addr) (C : Addr) (f : Str) : TE := fun σ H Q => tXf a cls d C f (tVar i) σ H fun w H1 => ∃ y, ReprV K H1 w y ∧ Q (.str y) H1
theorem pe_rpr {X : Cx} {e : Expr} {i : Nat} {a C : Addr} {cls : Value} {d : Option Addr} {f : Str} {p pos : Pos} (gs : Gs X.A) (h : PE X e (tXf a cls d C f (tVar i))) (hg : Gl X "repr") (hm : X.mg "repr" = none) (hs : starEach [e] X.env = (false, eval e X.env) :: starEach [] X.env := by rfl) :
    PE X (.Call (.Name "repr" p) [e] [] pos) (tRpr X.K i a cls d C f) := by
  refine ?G
  exact (by (intro h; exact h) : have h : (type_of% ?G) := (by
  refine peI (pe_callB (call_reprV gs) hg hm (by decide +kernel) (pa_cons h pa_nil hs) (by decide) (by decide) hs rfl) fun σ H Q z => ?_
  show tXf a cls d C f (tVar i) σ H fun x H1 => rRepr X.K [x] H1 Q
  obtain ⟨x, e0, ex, ec, dd, fs, v, e1, e2, e3, y, ey, q⟩ := z
  exact ⟨x, e0, ex, ec, dd, fs, v, e1, e2, e3, v, y, rfl, ey, q⟩
 ); type_of% ?G)
end BL

set_option Elab.async false
set_option linter.all false
set_option maxRecDepth 100000
set_option maxHeartbeats 2000000
namespace BL
open PySem PySem.Spec PyProof.Rows L2

/-! ### def x(a): try: a() / except C as e: return (.., e.f, ..) .. / return None -/
/-- a part of what a clause gives: a written value, or a field of the error of the class at C -/
inductive Prt where
  | cst (v : V) | fld (C : Addr) (f : Str) | yes (C : Addr) | rpr (K : PySem.W.Frag) (C : Addr) (f : Str)
def prtR (cls : Value) (d : Option Addr) (H : Hp) : Prt → V → Prop
  | .cst v, u => u = v
  | .fld C f, u => cls = .ref C ∧ ∃ dd fs, d = some dd ∧ H dd = some (.xd fs) ∧ fs.lookup f = some u
  | .yes C, u => u = .bl true ∧ cls = .ref C ∧ ∃ dd fs, d = some dd ∧ H dd = some (.xd fs)
  | .rpr K C f, u => cls = .ref C ∧ ∃ dd fs w y, d = some dd ∧ H dd = some (.xd fs) ∧ fs.lookup f = some w ∧ ReprV K H w y ∧ u = .str y
def prtsR (cls : Value) (d : Option Addr) (H : Hp) : List Prt → List V → Prop
  | [], us => us = []
  | p :: ps, us => ∃ u ws, us = u :: ws ∧ prtR cls d H p u ∧ prtsR cls d H ps ws
/-- the clauses, one after the other -/
def catchR (K : PySem.W.Frag) (cls : Value) (d : Option Addr) (H : Hp) (Q : VK) : List (Value × List Prt) → Prop
  | [] => False
  | (c, ps) :: r => ∃ b, PySem.W.exmOne K cls c = some b ∧ (b = true → ∃ us, prtsR cls d H ps us ∧ us.length ≤ sizeLine ∧ ∀ p, H p = none → Q (.ref p) (upd H p (.tup us))) ∧ (b = false → catchR K cls d H Q r)
/-- isinstance of the error at a, with the answer True -/
def tYes (i : Nat) (a : Addr) (cls : Value) (d : Option Addr) (C : Addr) : TE := fun σ H Q => σ[i]? = some (some (.ref a)) ∧ cls = .ref C ∧ (∃ dd fs, d = some dd ∧ H dd = some (.xd fs)) ∧ Q (.bl true) H
/-- the reading of a clause's parts: i is the error's slot -/
def tPrt (i : Nat) (a : Addr) (cls : Value) (d : Option Addr) : Prt → TE
  | .cst v => tC v
  | .fld C f => tXf a cls d C f (tVar i)
  | .yes C => tYes i a cls d C
  | .rpr K C f => tRpr K i a cls d C f
def tPrts (i : Nat) (a : Addr) (cls : Value) (d : Option Addr) : List Prt → TA
  | [] => tNil
  | p :: ps => tCons (tPrt i a cls d p) (tPrts i a cls d ps)
theorem prts_of {i : Nat} {a : Addr} {cls : Value} {d : Option Addr} {z : L2.St} {H : Hp} (hz : z[i]? = some (some (.ref a))) : ∀ {ps : List Prt} {us : List V} {R : List V → Hp → Prop}, prtsR cls d H ps us → R us H → tPrts i a cls d ps z H R
  | [], us, R, h, hr => by cases h; exact hr
  | p :: ps, us, R, ⟨u, ws, e, h, r⟩, hr => by
    subst e
    show tPrt i a cls d p z H fun x H1 => tPrts i a cls d ps z H1 fun xs H2 => R (x :: xs) H2
    cases p with
    | cst v =>
      have h : u = v := h
      subst h
      exact prts_of hz r hr
    | fld C f =>
      obtain ⟨h1, dd, fs, h2, h3, h4⟩ := h
      exact ⟨.ref a, hz, rfl, h1, dd, fs, u, h2, h3, h4, prts_of hz r hr⟩
    | yes C =>
      obtain ⟨h0, h1, h2⟩ := h
      subst h0
      exact ⟨hz, h1, h2, prts_of hz r hr⟩
    | rpr K C f =>
      obtain ⟨h1, dd, fs, w, y, h2, h3, h4, h5, h6⟩ := h
      subst h6
      exact ⟨.ref a, hz, rfl, h1, dd, fs, w, h2, h3, h4, y, h5, prts_of hz r hr⟩
/-- a clause's tuple is walked -/
inductive PrtsOk (X : Cx) (n : Str) (a : Addr) (cls : Value) (d : Option Addr) (i : Nat) : List Expr → List Prt → Prop
  | nil : PrtsOk X n a cls d i [] []
  | cst {e : Expr} {es : List Expr} {v : V} {ps : List Prt} (h : PE X e (tC v)) (hs : starEach (e :: es) X.env = (false, eval e X.env) :: starEach es X.env) (r : PrtsOk X n a cls d i es ps) : PrtsOk X n a cls d i (e :: es) (.cst v :: ps)
  | fld {e : Expr} {es : List Expr} {C : Addr} {f : Str} {ps : List Prt} (h : PE X e (tXf a cls d C f (tVar i))) (hs : starEach (e :: es) X.env = (false, eval e X.env) :: starEach es X.env) (r : PrtsOk X n a cls d i es ps) : PrtsOk X n a cls d i (e :: es) (.fld C f :: ps)
  | rpr {e : Expr} {es : List Expr} {K : PySem.W.Frag} {C : Addr} {f : Str} {ps : List Prt} (h : PE X e (tRpr K i a cls d C f)) (hs : starEach (e :: es) X.env = (false, eval e X.env) :: starEach es X.env) (r : PrtsOk X n a cls d i es ps) : PrtsOk X n a cls d i (e :: es) (.rpr K C f :: ps)
  | yes {e : Expr} {es : List Expr} {C : Addr} {ps : List Prt} (h : PE X e (tYes i a cls d C)) (hs : starEach (e :: es) X.env = (false, eval e X.env) :: starEach es X.env) (r : PrtsOk X n a cls d i es ps) : PrtsOk X n a cls d i (e :: es) (.yes C :: ps)
theorem PrtsOk.pa {X : Cx} {n : Str} {a : Addr} {cls : Value} {d : Option Addr} {i : Nat} {es : List Expr} {ps : List Prt} (h : PrtsOk X n a cls d i es ps) : PA X es (tPrts i a cls d ps) := by
  induction h with
  | nil => exact pa_nil
  | cst h hs r ih => exact pa_cons h ih hs
  | fld h hs r ih => exact pa_cons h ih hs
  | yes h hs r ih => exact pa_cons h ih hs
  | rpr h hs r ih => exact pa_cons h ih hs
/-- the clauses' readings -/
def clsTs (i : Nat) (l : List (Value × List Prt)) : List Cls1 := l.map fun q => (q.1, fun a cls d => tRet (tTup (tPrts i a cls d q.2)))
theorem catch_w {K : PySem.W.Frag} {cls : Value} {d : Option Addr} {H : Hp} {Q : VK} {i : Nat} {out : WX} {D : Ends} {z : L2.St} (hi : i < z.length) (hrt : ∀ v H', Q v H' → D.rt v H') : ∀ {l : List (Value × List Prt)}, catchR K cls d H Q l → wClauses K i out D (clsTs i l) cls d z H
  | [], h => h.elim
  | (c, ps) :: r, ⟨b, hb, yes, no⟩ => by
    refine ⟨b, hb, fun e a na => ?_, fun e => catch_w hi hrt (no e)⟩
    obtain ⟨us, h1, h2, h3⟩ := yes e
    show tTup (tPrts i a cls d ps) (z.set i (some (.ref a))) H _
    exact prts_of (by rw [List.getElem?_set_self hi]) h1 ⟨h2, fun p hp => hrt _ _ (h3 p hp)⟩
/-- what x makes of the lambda's reading tl -/
def TTf (K : PySem.W.Frag) (l : List (Value × List Prt)) : (XK → Hp → VK → Prop) → Hp → VK → Prop := fun tl H Q => ∃ Ech : XK, (∀ cls d H', Ech cls d H' → catchR K cls d H' Q l) ∧ tl Ech H fun _ H' => Q .non H'
theorem takes_len {X : Cx} {W : WX} (tk : Takes X W) : Takes X (fun cls d z H => z.length = X.N.length → W cls d z H) := fun u s' ⟨a, B, sI, pins, z, H, cls, d, e, I, nb, up, sky, na, os, ag, w⟩ => tk u s' ⟨a, B, sI, pins, z, H, cls, d, e, I, nb, up, sky, na, os, ag, w I.len⟩
theorem fault_gives {X : Cx} {Ng : List Str} {x a e q : Str} {sg : Scope} {g : Addr} {cdg : Value} {h0 : ExceptHandler} {hs : List ExceptHandler} {l : List (Value × List Prt)} {j : Nat} {p1 p2 p3 p4 p5 p6 : Pos} (hN : Ng = [a, e]) (hne : Ng.Nodup) (hle : sg.names.lookup e = some .local)
    (hc : ∀ (s : Shared) (H : Hp), ClsOk (cxOf C8.CX0 X.prog X.w X.K X.mg X.base Ng x sg g cdg X.A X.stack s H C8.E0).nox e (h0 :: hs) (clsTs 1 l)) :
    LamX.GivesTo X Ng x sg g cdg [.Try [.Expr (.Call (.Name a p1) [] [] p2) p3] (h0 :: hs) [] [] p4, .Return (some (.Constant .none j p5)) p6] a q (TTf X.K l) := by
  refine ?G
  exact (by (intro h; exact h) : have h : (type_of% ?G) := (by
  intro f c' s H Q tl act hco h
  obtain ⟨Ech, hE, ht⟩ := h
  refine ⟨_, pss_cons (ps_try_named (X := (cxOf C8.CX0 X.prog X.w X.K X.mg X.base Ng x sg g cdg X.A X.stack s H C8.E0).nox) (i := 1) (n := e) (out := fun _ _ _ _ => False)
      (tb := fun W D σ H => ∃ Ech : XK, (∀ cls d σ' H', σ'.length = 2 → Ech cls d H' → W cls d σ' H') ∧ σ[0]? = some (some (.ref f)) ∧ H c' = some (LamX.CodeO c' q) ∧ tl Ech H fun _ H' => D.nx σ H')
      rfl rfl hne (by rw [hN]; rfl) hle LamX.takes0 (fun W pn xe tk _ => ?_) (hc s H)) (pss_one (ps_ret pe_non)), ?_⟩
  · refine ⟨fun pins s' z H' D I h' => ?_⟩
    obtain ⟨Ech, hW, h1, h2, h3⟩ := h'
    have hp := act _ pn xe Ech p1 p2 (takes_len tk) fun cls d z' H'' hE hl => hW cls d z' H'' (by rw [hl]; show Ng.length = 2; rw [hN]; rfl) hE
    have hq := pss_one (ps_expr (pos := p3) hp)
    exact hq.run pins s' z H' D I ⟨h1, h2, h3⟩
  · subst hN
    refine ⟨Ech, fun cls d z' H' hl hE' => ?_, rfl, hco, ht⟩
    exact catch_w (by rw [hl]; decide) (fun v H'' hq => hq) (hE cls d H' hE')
 ); type_of% ?G)
/-! ### def x(a): try: return (tag, a()) / except C as e: return (..) .. -/
def TTm (K : PySem.W.Frag) (tag : Str) (l : List (Value × List Prt)) : (XK → Hp → VK → Prop) → Hp → VK → Prop := fun tl H Q => ∃ Ech : XK, (∀ cls d H', Ech cls d H' → catchR K cls d H' Q l) ∧ tl Ech H fun v H' => ([V.str tag, v] : List V).length ≤ sizeLine ∧ ∀ p, H' p = none → Q (.ref p) (upd H' p (.tup [.str tag, v]))
/-! ### isinstance of the error -/
def rIsX (K : PySem.W.Frag) (C a : Addr) (cls : Value) (d : Option Addr) : List V → Hp → VK → Prop := fun xs H Q => ∃ (c : V) (cv : Value), xs = [.ref a, c] ∧ ClsV c cv ∧ cls = .ref C ∧ (∃ dd fs, d = some dd ∧ H dd = some (.xd fs)) ∧ PySem.W.kitOne K (.ref C) cv = some true ∧ Q (.bl true) H
section
variable {X : Cx} {a C : Addr} {oe : Obj} {cls : Value} {d : Option Addr} {pn : List (Addr × Obj)} {x n : Str} {i : Nat} {p p2 p3 pos : Pos}
end
end BL

set_option Elab.async false
set_option linter.all false
set_option maxRecDepth 100000
set_option maxHeartbeats 2000000
namespace BL
open PySem L2

/-! ### sizes from the heap itself -/
def SzH (H : Hp) : Prop := ∀ a o, H a = some o → szOk o
theorem sz_obj {P : Program} {w : World} {H : Hp} {h : Heap} {a : Addr} : ∀ {o : HO}, ObjOk P w H h a o → szOk o
  | .lst _, x => x.1
  | .tup _, x => x.1
  | .dK _, x => x.1
  | .dT _, x => x.1
  | .frz _ u, x => sz_obj (o := u) x.2
  | .set _ _, _ => trivial
  | .ins _ _ _, _ => trivial
  | .own _, _ => trivial
  | .xd _, _ => trivial
  | .rng _ _, _ => trivial
  | .tbl _, _ => trivial
  | .met _ _, _ => trivial
  | .ext _, _ => trivial
theorem sz_hok {P : Program} {w : World} {H : Hp} {h : Heap} (x : HOk P w H h) : SzH H := fun a o e => sz_obj (x a o e)
/-- the def that gets the lambda runs in a heap of right sizes -/
theorem gives_sz {X : Cx} {Ng : List Str} {x : Str} {sg : Scope} {g : Addr} {cdg : Value} {bg : List Stmt} {a q : Str} {TT : (XK → Hp → VK → Prop) → Hp → VK → Prop} (hG : LamX.GivesTo X Ng x sg g cdg bg a q TT) : LamX.GivesTo X Ng x sg g cdg bg a q (fun tl H Q => SzH H → TT tl H Q) := by
  intro f c' s H Q tl act hco h
  by_cases hz : SzH H
  · exact hG f c' s H Q tl act hco (h hz)
  · exact ⟨fun _ _ H' => H' = H, ⟨fun pins s' z H' D I e => absurd (by rw [e] at I; exact sz_hok I.hok) hz⟩, rfl⟩
/-! ### the located objects while a lambda is made -/
section
variable {g : Gm} {m : Nat → Addr} {H H1 : Hp} {G : Hs}
theorem Ex.ext (e : LamX.ExtN H H1) : Ex m G.length H m G.length H1 := ⟨Nat.le_refl _, fun a => ⟨fun xs h => e a _ h (by simp), fun ob u h => e a _ h (by simp)⟩, fun _ _ => rfl, fun i h1 h2 => absurd h2 (Nat.not_lt.mpr h1), fun a o h _ ht => e a o h ht⟩
theorem SR.ext (s : SR g m H G) (e : LamX.ExtN H H1) (t : LamX.Tabs g.tb H1) (z : SzH H1) : SR g m H1 G := by
  refine ⟨fun i ob h => ?_, s.inj, z, t, fun a ha => ?_⟩
  · have hi := getLt h
    obtain ⟨u, eu, nt, _⟩ := s.at_ hi
    exact OR.ex (Ex.ext e) s hi ((e _ _ eu nt).trans eu.symm) (s.ob i ob h)
  · obtain ⟨⟨u, eu, hf⟩, nb⟩ := s.rv a ha
    exact ⟨⟨u, e _ _ eu (fun ps q => by rw [q] at hf; cases hf), hf⟩, nb⟩
end
/-! ### a def whose code object is known -/
def Zb.dfl (b : Zb) (N : List Str) (sc : Scope) (k : Nat) (rv : List Addr) (c : Addr) (qual : Str) : Zc := { b with N := N, sc := sc, fn := fun _ => true, k := k, rv := rv, cq := some (c, qual ++ ".<locals>."), own := true }
section
variable {b : Zb} {x qual : Str} {st : Stmt} {f c : Addr} {fd : FuncData} {dvs : List V} {N ps : List Str} {k : Nat} {db : Dst}
theorem post_pop {g : Gm} {m : Nat → Addr} {H : Hp} {G : Hs} {Q : VK} {E : XK} {n : Nat} {ds : List D} (s0 : SR g m H G) (p : PostF g m G.length H Q E (runPop n db ds G)) : PostS g (fun cls d _ H => E cls d H) m G.length H { nx := fun _ H' => Q .non H', rt := Q } (db (startE n ds) G) := by
  refine ?G
  exact (by (intro h; exact h) : have h : (type_of% ?G) := (by
  unfold runPop at p
  cases e : db (startE n ds) G with
  | rt d G' =>
    rw [e] at p
    simp only [endPop] at p
    intro v m' H' x' s' rv'
    split at p
    · rename_i hcl
      cases q : popD G.length d G' with
      | none => rw [q] at p; exact p.elim
      | some d' =>
        rw [q] at p
        refine p v m' H' ?_ (s'.pop x'.le (hcl.pop s0)) ?_
        · rw [take_len x'.le]; exact x'.popped
        · rw [take_len x'.le]; exact popD_rp s' x'.le rv' q
    · exact p.elim
  | nx r G' =>
    rw [e] at p
    simp only [endPop] at p
    intro σ' m' H' x' s' sl'
    split at p
    · rename_i hcl
      refine p .non m' H' ?_ (s'.pop x'.le (hcl.pop s0)) rfl
      rw [take_len x'.le]; exact x'.popped
    · exact p.elim
  | exc c ns es r G' =>
    rw [e] at p
    simp only [endPop] at p
    intro σ' da m' H' xs x' s' sl' h nb rs'
    split at p
    · rename_i hcl
      cases q : popDs G.length es G' with
      | none => rw [q] at p; exact p.elim
      | some es' =>
        rw [q] at p
        refine p da m' H' xs ?_ (s'.pop x'.le (hcl.pop s0)) h ?_ ?_
        · rw [take_len x'.le]; exact x'.popped
        · rw [take_len x'.le]; exact fun z => nb (Bd.mono x'.le z)
        · rw [take_len x'.le]; exact popDs_rp s' x'.le rs' q
    · exact p.elim
  | bk r G' => rw [e] at p; exact p.elim
  | ct r G' => rw [e] at p; exact p.elim
  | stuck => rw [e] at p; exact p.elim
 ); type_of% ?G)
theorem Ok.dfl {A : Around} {outer : List Env} {s : Shared} {H : Hp} {E : XK} (S : FnScope N ps (defScope st)) (hr : Room k (A.deeper (PyProof.Rows.envOfC qual (defScope st) s.heap.objs.size f (.ref c)))) (rv : List Addr) :
    Ok (b.dfl N (defScope st) k rv c qual) (cxOf (L2.CX b.P b.w) b.P b.w b.K b.mg b.base N qual (defScope st) f (.ref c) A outer s H E) (fun cls d _ H => E cls d H) where
  P := rfl
  w := rfl
  K := rfl
  mg := rfl
  base := rfl
  N := rfl
  sc := rfl
  fn := rfl
  nd := S.nd
  calm := rfl
  tk := takes_of rfl rfl rfl rfl
  po := passes_of rfl
  rm := hr
  cq := fun c' q h => by cases h; exact ⟨rfl, rfl⟩
  av := trivial
  st := fun _ => ⟨rfl, rfl⟩
theorem fnd_ofL {F : Fd} (Fn : FnE b.K x qual st dvs f fd) (hc : fd.code = .ref c) (S : FnScope N ps (defScope st)) (hb : ∀ rv, PSDs (b.dfl N (defScope st) k rv c qual) (defBody st) db)
    (hp : ∀ {g : Gm} {m : Nat → Addr} {H : Hp} {G : Hs} {Q : VK} {E : XK} {ds : List D}, SR g m H G → PostF g m G.length H Q E (F ds G) → PostS g (fun cls d _ H => E cls d H) m G.length H { nx := fun _ H' => Q .non H', rt := Q } (db (startE N.length ds) G)) : FnD b (k + 1) f fd ps F := by
  refine ?G
  exact (by (intro h; exact h) : have h : (type_of% ?G) := (by
  refine ⟨?_, Fn.kp⟩
  obtain ⟨oc, od, dV, kV, doc, pm, an, cdv, ct, osl, rfl, lk, hcd, _, _⟩ := Fn.ex
  have hc : cdv = .ref c := hc
  subst hc
  refine fn_of lk hcd S (fun vs H Q E h => h.1) fun A outer s H vs Q E hr h => ?_
  obtain ⟨hl, rv, m, G, ds, s0, rs, p⟩ := h
  exact ⟨_, hb rv _ _ (Ok.dfl S hr rv), m, _, G, s0, start_sl (N := N) rs, hp s0 p⟩
 ); type_of% ?G)
theorem hF_popL (S : FnScope N ps (defScope st)) (hb : ∀ rv, PSDs (b.dfl N (defScope st) k rv c qual) (defBody st) db) : ∀ fd, FnE b.K x qual st dvs f fd → fd.code = .ref c → FnD b (k + 1) f fd ps (runPop N.length db) := fun fd Fn hc => fnd_ofL Fn hc S hb post_pop
end
end BL

set_option Elab.async false
set_option linter.all false
set_option maxRecDepth 100000
set_option maxHeartbeats 2000000
namespace BL
open PySem L2

/-! ### x(lambda: ..), x a def that tells how a call is refused -/
inductive Pt where
  | cst (t : T) | fld (c : Nat) (f : Str) | yes (c : Nat) | rpr (c : Nat) (f : Str)
def ptV (c : Nat) (ns : List Str) (ds : List D) : Pt → Option T
  | .cst t => some t
  | .fld c' f => if c' = c then (match zipLk f ns ds with
    | some (.t t) => some t
    | _ => none) else none
  | .yes c' => if c' = c then some (.bl true) else none
  | .rpr c' f => if c' = c then (match zipLk f ns ds with
    | some (.t t) => (match reprT t with
      | some y => if PyData.strOk y = true then some (.str y) else none
      | none => none)
    | _ => none) else none
def ptsV (c : Nat) (ns : List Str) (ds : List D) : List Pt → Option (List T)
  | [] => some []
  | p :: ps => match ptV c ns ds p, ptsV c ns ds ps with
    | some t, some ts => some (t :: ts)
    | _, _ => none
abbrev Hdl := (Nat → Option Bool) × List Pt
def catchD (c : Nat) (ns : List Str) (ds : List D) (G : Hs) : List Hdl → Re
  | [] => .stuck
  | q :: qs => match q.1 c with
    | some true => (match ptsV c ns ds q.2 with
      | some ts => if ts.length ≤ sizeLine then .ok (.t (.tup ts)) G else .stuck
      | none => .stuck)
    | some false => catchD c ns ds G qs
    | none => .stuck
def dFault (hs : List Hdl) (db : De) : De := fun r G => match db r G with
  | .ok _ G' => .ok (.t .non) G'
  | .exc c ns ds G' => catchD c ns ds G' hs
  | .stuck => .stuck
/-- .. with what it gives -/
def dMet (tag : Str) (hs : List Hdl) (db : De) : De := fun r G => match db r G with
  | .ok (.t t) G' => .ok (.t (.tup [.str tag, t])) G'
  | .ok _ _ => .stuck
  | .exc c ns ds G' => catchD c ns ds G' hs
  | .stuck => .stuck
/-! what stands for what -/
def PtR (g : Gm0) : Pt → Prt → Prop
  | .cst t, .cst v => ∀ B H, Rp g B H t v
  | .fld c f, .fld C f' => C = g.ca c ∧ f' = f
  | .yes c, .yes C => C = g.ca c
  | .rpr c f, .rpr K C f' => K = g.K ∧ C = g.ca c ∧ f' = f
  | _, _ => False
def PtsR (g : Gm0) : List Pt → List Prt → Prop
  | [], qs => qs = []
  | p :: ps, qs => ∃ q rs, qs = q :: rs ∧ PtR g p q ∧ PtsR g ps rs
def ClsR (g : Gm0) : List Hdl → List (Value × List Prt) → Prop
  | [], l => l = []
  | h :: hs, l => ∃ v ps r, l = (v, ps) :: r ∧ (∀ c b, h.1 c = some b → PySem.W.exmOne g.K (.ref (g.ca c)) v = some b) ∧ PtsR g h.2 ps ∧ ClsR g hs r
section
variable {g : Gm} {W : WX} {m m' : Nat → Addr} {n : Nat} {H H' : Hp} {G' : Hs} {σ : St} {Q : VK} {c : Nat} {ns : List Str} {ds : List D} {xs : List V} {da : Addr}
theorem pts_of (hd : H' da = some (.xd (ns.zip xs))) (rs : RpDs g m' G'.length G'.length H' ds xs) : ∀ {ps : List Pt} {qs : List Prt} {ts : List T}, PtsR g.toGm0 ps qs → ptsV c ns ds ps = some ts → ∃ us, prtsR (.ref (g.ca c)) (some da) H' qs us ∧ Rps g.toGm0 (Bv g m' G'.length) H' ts us
  | [], qs, ts, h, e => by
    cases h
    simp [ptsV] at e
    subst e
    exact ⟨[], rfl, rfl⟩
  | p :: ps, qs, ts, ⟨q, qs', eq, hq, hr⟩, e => by
    subst eq
    unfold ptsV at e
    cases e1 : ptV c ns ds p with
    | none => rw [e1] at e; cases e
    | some t =>
      cases e2 : ptsV c ns ds ps with
      | none => rw [e1, e2] at e; cases e
      | some ts' =>
        rw [e1, e2] at e
        cases e
        obtain ⟨us, h1, h2⟩ := pts_of hd rs hr e2
        have one : ∃ u, prtR (.ref (g.ca c)) (some da) H' q u ∧ Rp g.toGm0 (Bv g m' G'.length) H' t u := by
          cases p with
          | cst t0 =>
            cases q with
            | cst v =>
              simp [ptV] at e1
              subst e1
              exact ⟨v, rfl, hq _ _⟩
            | fld C f => exact hq.elim
            | yes C => exact hq.elim
            | rpr K C f => exact hq.elim
          | rpr c0 f0 =>
            cases q with
            | cst v => exact hq.elim
            | fld C f => exact hq.elim
            | yes C => exact hq.elim
            | rpr K C f =>
              obtain ⟨hK, hC, hf⟩ := hq
              subst hK
              simp only [ptV] at e1
              by_cases hc : c0 = c
              · rw [if_pos hc] at e1
                subst hc
                cases e3 : zipLk f0 ns ds with
                | none => rw [e3] at e1; cases e1
                | some d =>
                  rw [e3] at e1
                  cases d with
                  | loc i => cases e1
                  | t t1 =>
                    simp only at e1
                    cases e4 : reprT t1 with
                    | none => rw [e4] at e1; cases e1
                    | some y =>
                      rw [e4] at e1
                      simp only at e1
                      split at e1
                      · rename_i hy
                        cases e1
                        obtain ⟨v, h3, h4⟩ := zipLkD_lookup rs e3
                        subst hf
                        exact ⟨.str y, ⟨by rw [hC], da, _, v, y, rfl, hd, h3, reprT_v h4 e4, rfl⟩, rfl, hy⟩
                      · cases e1
              · rw [if_neg hc] at e1; cases e1
          | yes c0 =>
            cases q with
            | cst v => exact hq.elim
            | rpr K C f => exact hq.elim
            | fld C f => exact hq.elim
            | yes C =>
              have hq : C = g.ca c0 := hq
              simp only [ptV] at e1
              by_cases hc : c0 = c
              · rw [if_pos hc] at e1
                cases e1
                exact ⟨.bl true, ⟨rfl, by rw [hq, hc], da, _, rfl, hd⟩, rfl⟩
              · rw [if_neg hc] at e1; cases e1
          | fld c0 f0 =>
            cases q with
            | cst v => exact hq.elim
            | yes C => exact hq.elim
            | rpr K C f => exact hq.elim
            | fld C f =>
              obtain ⟨hC, hf⟩ := hq
              simp only [ptV] at e1
              by_cases hc : c0 = c
              · rw [if_pos hc] at e1
                subst hc
                cases e3 : zipLk f0 ns ds with
                | none => rw [e3] at e1; cases e1
                | some d =>
                  rw [e3] at e1
                  cases d with
                  | loc i => cases e1
                  | t t1 =>
                    cases e1
                    obtain ⟨v, h3, h4⟩ := zipLkD_lookup rs e3
                    subst hf
                    exact ⟨v, ⟨by rw [hC], da, _, rfl, hd, h3⟩, h4⟩
              · rw [if_neg hc] at e1; cases e1
        obtain ⟨u, h3, h4⟩ := one
        exact ⟨u :: us, ⟨u, us, rfl, h3, h1⟩, ⟨u, us, rfl, h4, h2⟩⟩
theorem catch_of (x : Ex m n H m' G'.length H') (s : SR g m' H' G') (hd : H' da = some (.xd (ns.zip xs))) (rs : RpDs g m' G'.length G'.length H' ds xs)
    (tr : ∀ {m2 : Nat → Addr} {H2 : Hp}, Ex m' G'.length H' m2 G'.length H2 → Ex m n H m2 G'.length H2) : ∀ {hs : List Hdl} {l : List (Value × List Prt)}, ClsR g.toGm0 hs l → PostE g W m n H σ Q (catchD c ns ds G' hs) → catchR g.K (.ref (g.ca c)) (some da) H' Q l
  | [], l, _, p => p.elim
  | h :: hs, l, ⟨v, ps, r, el, hv, hp, hr⟩, p => by
    subst el
    unfold catchD at p
    cases e1 : h.1 c with
    | none => rw [e1] at p; exact p.elim
    | some b =>
      rw [e1] at p
      refine ⟨b, hv c b e1, fun hb => ?_, fun hb => ?_⟩
      · subst hb
        simp only at p
        cases e2 : ptsV c ns ds h.2 with
        | none => rw [e2] at p; exact p.elim
        | some ts =>
          rw [e2] at p
          simp only at p
          by_cases hl : ts.length ≤ sizeLine
          · rw [if_pos hl] at p
            obtain ⟨us, h1, h2⟩ := pts_of hd rs hp e2
            have hlu : us.length ≤ sizeLine := by rw [← h2.length]; exact hl
            refine ⟨us, h1, hlu, fun pp hpp => ?_⟩
            exact p (.ref pp) m' _ (tr (Ex.new hpp)) (s.new hpp hlu) ⟨pp, us, rfl, .inl (.inl upd_same), Rps.ex (Ex.new hpp) s _ _ h2⟩
          · rw [if_neg hl] at p; exact p.elim
      · subst hb
        exact catch_of x s hd rs tr hr p
end
/-! the rule -/
def Zc.lam (Z : Zc) (scope : Scope) (k : Nat) : Zc := { Z with sc := scope, fn := fun _ => false, k := k, cq := none, av := fun _ _ _ _ => True, own := false }
theorem Ok.lam {Z : Zc} {X : Cx} {W : WX} (ok : Ok Z X W) {A : Around} {outer : List Env} {s : Shared} {H : Hp} {E : XK} {scope : Scope} {f c' : Addr} {k : Nat} (hr : Room k (A.deeper (LamX.lamEnv X scope s.heap.objs.size f c'))) :
    Ok (Z.lam scope k) (LamX.lamCx X A outer s H E scope f c') (fun cls d _ H => E cls d H) where
  P := ok.P
  w := ok.w
  K := ok.K
  mg := ok.mg
  base := ok.base
  N := ok.N
  sc := rfl
  fn := rfl
  nd := ok.nd
  calm := rfl
  tk := takes_of rfl rfl rfl rfl
  po := passes_of rfl
  rm := hr
  cq := fun c q h => nomatch h
  av := trivial
  st := fun h => nomatch h
section
variable {Z : Zc}
/-- the def x that tells refusals -/
structure FltA (b : Zb) (x a : Str) (g : Addr) (hs : List Hdl) : Prop where
  kp : PySem.W.keepIn b.K (.ref g) = true
  ex : ∃ (pg : Arguments) (bg : List Stmt) (sg : Scope) (dV kV doc pm cdv ct oc : Value) (an od : Option Addr) (osl : Array (Option Value)) (Ng : List Str) (l : List (Value × List Prt)),
    b.K.lookup g = some ⟨oc, od, .func (PySem.W.fnOf x x pg bg sg dV kV doc pm an cdv ct), osl⟩ ∧ PySem.W.codeIn b.K cdv x = true ∧ L2.Binds b.K (PySem.W.fnOf x x pg bg sg dV kV doc pm an cdv ct) [a] [] ∧ FnScope Ng [a] sg ∧ Ng[0]? = some a ∧ Vis sg a ∧ ClsR b.g.toGm0 hs l ∧
    ∀ (X : Cx), X.prog = b.P → X.w = b.w → X.K = b.K → X.mg = b.mg → X.base = b.base → Room 1 X.A → LamX.GivesTo X Ng x sg g cdv bg a (X.env.qual ++ "<lambda>") (TTf X.K l)
theorem pd_fault {x a q : Str} {g c P : Addr} {hs : List Hdl} {k : Nat} {params : Arguments} {body : Expr} {scope : Scope} {db : De} {p lpos pos : Pos} (h : FltA Z.toZb x a g hs) (hq : Z.cq = some (c, q)) (hm : Z.mg x = some (.ref g)) (TB : LamX.TabB Z.base Z.mg c P) (hT : (P, q ++ "<lambda>") ∈ Z.tb) (hu : ∀ p ∈ Z.tb, p.1 = P → p.2 = q ++ "<lambda>")
    (hk : k + 2 ≤ Z.k) (L : LamX.LamS Z.sc scope) (hb : PD (Z.lam scope k) body db) (hg : GlS Z x := by rfl) (hdef : ∀ env, defaultsOf params env = ([], []) := by intro _; rfl)
    (hbind : ∀ (q : Str) (cl : List (Str × Addr)) (pm cv ctv : Value), bindArgs (PySem.W.kla_fn "<lambda>" q params body scope cl pm cv ctv) ⟨[], []⟩ = pure [] := by intros; rfl)
    (hdb : (x == ("__debug__" : Str)) = false := by decide) (hd : (a == ("__debug__" : Str)) = false := by decide) (hcd : (a == ("__classdict__" : Str)) = false := by decide) :
    PD Z (.Call (.Name x p) [.Lambda params body scope lpos] [] pos) (dFault hs db) := by
  refine ?G
  exact (by (intro h; exact h) : have h : (type_of% ?G) := (fun X W ok => by
  obtain ⟨hcode, hqual⟩ := ok.cq c q hq
  obtain ⟨pg, bg, sg, dV, kV, doc, pm, cdv, ct, oc, an, od, osl, Ng, l, lk, hcg, hbd, Sg, hNg, hva, hcl, hG⟩ := h.ex
  refine peI (pe_lamcall (X := X) (T := Z.tb) (TT := fun tl H Q => SzH H → TTf X.K l tl H Q) (t := fun E => tI Z.g (fun cls d _ H => E cls d H) db) (k := k) (show X.env.scope.names.lookup x = _ by rw [ok.sc]; exact hg) (by rw [ok.mg]; exact hm) (by rw [ok.K]; exact h.kp) (by rw [ok.K]; exact lk) (by rw [ok.K]; exact hcg) (by rw [ok.K]; exact hbd) Sg hNg hva
    (gives_sz (hG X ok.P ok.w ok.K ok.mg ok.base (ok.rm.mono (by omega)))) (by rw [ok.base, ok.mg]; exact TB) hcode (by rw [hqual]; exact hT) (by rw [hqual]; exact hu) (ok.rm.mono hk) (by rw [ok.sc]; exact L) (hdef _) hbind (fun A outer s H E f c' hr => hb _ _ (ok.lam hr)) hdb hd hcd) fun σ H Q ⟨m, r, G, s, sl, p⟩ => ?_
  refine ⟨s.tb, fun H1 eN T1 hz => ?_⟩
  have s1 := s.ext eN T1 hz
  have x1 : Ex m G.length H m G.length H1 := Ex.ext eN
  refine ⟨fun cls d H' => catchR X.K cls d H' Q l, fun _ _ _ z => z, m, r, G, s1, Sl.ex x1 s sl, ?_⟩
  unfold dFault at p
  cases e : db r G with
  | ok d G' =>
    rw [e] at p
    intro v m' H' x' s' rv
    exact p .non m' H' (x1.trans s1 x') s' rfl
  | stuck => rw [e] at p; exact p.elim
  | exc c0 ns ds G' =>
    rw [e] at p
    intro da m' H' xs x' s' hd' nb rs
    rw [show X.K = Z.g.K from ok.K]
    exact catch_of (x1.trans s1 x') s' hd' rs (fun y => (x1.trans s1 x').trans s' y) hcl p
 ); type_of% ?G)
/-- the def x that tells what is given, or refusals -/
structure MetA (b : Zb) (x a tag : Str) (g : Addr) (hs : List Hdl) : Prop where
  kp : PySem.W.keepIn b.K (.ref g) = true
  ex : ∃ (pg : Arguments) (bg : List Stmt) (sg : Scope) (dV kV doc pm cdv ct oc : Value) (an od : Option Addr) (osl : Array (Option Value)) (Ng : List Str) (l : List (Value × List Prt)),
    b.K.lookup g = some ⟨oc, od, .func (PySem.W.fnOf x x pg bg sg dV kV doc pm an cdv ct), osl⟩ ∧ PySem.W.codeIn b.K cdv x = true ∧ L2.Binds b.K (PySem.W.fnOf x x pg bg sg dV kV doc pm an cdv ct) [a] [] ∧ FnScope Ng [a] sg ∧ Ng[0]? = some a ∧ Vis sg a ∧ ClsR b.g.toGm0 hs l ∧ okS tag ∧
    ∀ (X : Cx), X.prog = b.P → X.w = b.w → X.K = b.K → X.mg = b.mg → X.base = b.base → Room 1 X.A → LamX.GivesTo X Ng x sg g cdv bg a (X.env.qual ++ "<lambda>") (TTm X.K tag l)
end
end BL

set_option Elab.async false
set_option linter.all false
set_option maxRecDepth 100000
set_option maxHeartbeats 2000000
namespace BL
open PySem L2

/-! ### an own error class, as the top shows it -/
abbrev supPl (p0 p1 : Pos) : Env → Sem Bool := fun env => do return (← importBound (.Call (.Name "super" p0) [] [] p1) env).getD true
theorem supEval (m : Str) (j : Nat) (p0 p1 p2 p3 p4 : Pos) (h : (p2.endLine == p4.line) = true) : SupEval (supPl p0 p1) m j p0 p1 p2 p3 p4 := by
  refine ?G
  exact (by (intro h; exact h) : have h : (type_of% ?G) := (by
  intro env
  unfold supE
  rw [arm_eval_Call]
  have e : ∀ ov, methodCall (.Call (.Name "super" p0) [] [] p1) "__init__" p2 p4 env ov ([Expr.Constant (.str m) j p3].length + ([] : List Keyword).length) (backTo p4 (starEach [.Constant (.str m) j p3] env)) (backToKw p4 (keywordEach [] env)) = (holding [ov] (getMethod ov "__init__" (supPl p0 p1 env)) >>= fun q => callWith p4 q.1 q.2 (backTo p4 (starEach [.Constant (.str m) j p3] env)) []) := by
    intro ov
    unfold methodCall methodCallPos
    rw [h]
    rfl
  simp only [e]
 ); type_of% ?G)
/-- self.n = n -/
def asg1 (n : Str) : Stmt → Bool
  | .Assign [.Attribute (.Name s _) f _] (.Name y _) _ => (s == ("self" : Str)) && (f == n) && (y == n) && !(n == ("__debug__" : Str)) && !(n == ("__classdict__" : Str))
  | _ => false
theorem asg1_ok {n : Str} {st : Stmt} (h : asg1 n st = true) : ∃ p1 p2 p3 p4, st = .Assign [.Attribute (.Name "self" p1) n p2] (.Name n p3) p4 ∧ (n == ("__debug__" : Str)) = false ∧ (n == ("__classdict__" : Str)) = false := by
  unfold asg1 at h
  split at h
  · simp only [Bool.and_eq_true, beq_iff_eq, Bool.not_eq_true'] at h
    obtain ⟨⟨⟨⟨rfl, rfl⟩, rfl⟩, hd⟩, hc⟩ := h
    exact ⟨_, _, _, _, rfl, hd, hc⟩
  · cases h
def asgB : List Str → List Stmt → Bool
  | [], [] => true
  | n :: ns, st :: r => asg1 n st && asgB ns r
  | _, _ => false
theorem asg_ok {X : Cx} (h0 : X.N[0]? = some ("self" : Str)) (v0 : Vis X.env.scope "self") : ∀ {ns : List Str} {r : List Stmt} {j : Nat}, asgB ns r = true → (∀ i n, ns[i]? = some n → X.N[i + j]? = some n ∧ Vis X.env.scope n) → PSs X r (tFlds X.K (ns.zipIdx j))
  | [], [], _, _, _ => pss_nil
  | [], _ :: _, _, h, _ => by simp [asgB] at h
  | _ :: _, [], _, h, _ => by simp [asgB] at h
  | n :: ns, st :: r, j, h, hn => by
    simp only [asgB, Bool.and_eq_true] at h
    obtain ⟨p1, p2, p3, p4, rfl, hd, hc⟩ := asg1_ok h.1
    obtain ⟨q1, q2⟩ := hn 0 _ rfl
    rw [Nat.zero_add] at q1
    rw [List.zipIdx_cons]
    refine pss_cons (ps_ost (pe_var h0 v0) (pe_var q1 q2 hd hc)) (asg_ok h0 v0 h.2 fun i m hm => ?_)
    have := hn (i + 1) m (by simpa using hm)
    rw [show i + (j + 1) = i + 1 + j by omega]
    exact this
def argsOf : List Str → List (Option Expr × Pos) → List Arg
  | n :: ns, q :: qs => ⟨n, q.1, q.2⟩ :: argsOf ns qs
  | _, _ => []
theorem argsOf_eq : ∀ {as : List Arg} {ns : List Str}, as.map (·.arg) = ns → as = argsOf ns (as.map fun a => (a.annotation, a.pos))
  | [], ns, h => by cases h; rfl
  | a :: as, ns, h => by
    cases h
    have e := argsOf_eq (as := as) rfl
    show a :: as = ⟨a.arg, a.annotation, a.pos⟩ :: argsOf (as.map (·.arg)) (as.map fun a => (a.annotation, a.pos))
    rw [← e]
    cases a
    rfl
def scB (ps : List Str) (sc : Scope) : Bool := decide (sc.kind = .function) && (!sc.isCoroutine && (!sc.isGenerator && (ps.all (fun y => decide (sc.names.lookup y = some .local)) && (sc.names.all (fun y => !decide (y.2 = .free) || y.1 == ("__class__" : Str)) &&
  (sc.names.all (fun y => !decide (y.2 = .cell)) && (decide (sc.names.lookup ("super" : Str) = some .globalImplicit) && decide (sc.names.lookup ("__class__" : Str) = some .free)))))))
theorem scB_ok {ps : List Str} {sc : Scope} (nd : ps.Nodup) (h : scB ps sc = true) : FnScK ps ps sc := by
  unfold scB at h
  simp only [Bool.and_eq_true, decide_eq_true_eq, Bool.not_eq_true', List.all_eq_true, Bool.or_eq_true, decide_eq_false_iff_not, beq_iff_eq] at h
  obtain ⟨h1, h2, h3, h4, h5, h6, h7, h8⟩ := h
  refine ⟨h1, h2, h3, nd, List.take_length, h4, fun y hy e => ?_, h6, h7, h8⟩
  rcases h5 y hy with q | q
  · exact absurd e q
  · exact q
/-- the function object of the class's __init__ -/
structure InitD (K : PySem.W.Frag) (file : Str) (f C : Addr) (ns : List Str) : Prop where
  ex : ∃ (oc : Value) (od : Option Addr) (osl : Array (Option Value)) (name qual : Str) (qs : List (Option Expr × Pos)) (kd : List (Option Expr)) (df : List Expr) (m : Str) (j : Nat) (p0 p1 p2 p3 p4 p5 : Pos) (r : List Stmt) (sc : Scope) (kV doc pm ct : Value) (an : Option Addr) (cda cc : Addr) (cl : Value) (cld : Option Addr) (csl : Array (Option Value)) (ccl : Value) (cdd : Option Addr) (vs : Array Value) (ccs : Array (Option Value)) (tf : Tok),
    K.lookup f = some ⟨oc, od, .func (PySem.W.ksFn name qual ⟨[], argsOf (("self" : Str) :: ns) qs, none, [], kd, none, df⟩ (.Expr (supE m j p0 p1 p2 p3 p4) p5 :: r) sc .none kV doc pm an (.ref cda) ct cc), osl⟩ ∧ qs.length = ns.length + 1 ∧ (p2.endLine == p4.line) = true ∧ asgB ns r = true ∧ scB (("self" : Str) :: ns) sc = true ∧
    PySem.W.codeIn K (.ref cda) qual = true ∧ K.lookup cc = some ⟨cl, cld, .cell (some (.ref C)), csl⟩ ∧ K.lookup cda = some ⟨ccl, cdd, .fields vs, ccs⟩ ∧ vs[2]? = some (.str file tf)
def fileB (K : PySem.W.Frag) (file : Str) (c : Addr) : Bool := match K.lookup c with
  | some ⟨_, _, .fields vs, _⟩ => (match (vs[2]? : Option Value) with
    | some (.str fl _) => decide (fl = file)
    | _ => false)
  | _ => false
theorem fileB_ok {K : PySem.W.Frag} {file : Str} {c : Addr} (h : fileB K file c = true) : ∃ ccl cdd vs ccs tf, K.lookup c = some ⟨ccl, cdd, .fields vs, ccs⟩ ∧ vs[2]? = some (.str file tf) := by
  unfold fileB at h
  split at h
  · rename_i a b vs d lk
    split at h
    · rename_i fl tf hv
      rw [of_decide_eq_true h] at hv
      exact ⟨a, b, vs, d, tf, lk, hv⟩
    · cases h
  · cases h
def initB (K : PySem.W.Frag) (file : Str) (f C : Addr) (ns : List Str) : Bool := match K.lookup f with
  | some ⟨_, _, .func fd, _⟩ => (match fd.body, fd.code, fd.closure with
    | .stmts (.Expr (.Call (.Attribute (.Call (.Name s0 _) [] [] _) s1 p2) [.Constant (.str _) _ _] [] p4) _ :: r), .ref cda, [(cn, cc)] =>
      fileB K file cda && (s0 == ("super" : Str)) && (s1 == ("__init__" : Str)) && (p2.endLine == p4.line) && asgB ns r && (cn == ("__class__" : Str)) && scB (("self" : Str) :: ns) fd.scope && PySem.W.codeIn K (.ref cda) fd.qualname &&
      (fd.params.posonlyargs.isEmpty && decide (fd.params.args.map (·.arg) = ("self" : Str) :: ns) && fd.params.vararg.isNone && fd.params.kwonlyargs.isEmpty && fd.params.kwarg.isNone) && decide (fd.globals = mainGlobals) && decide (fd.builtins = builtinsNs) && (match fd.defaults with | .none => true | _ => false) &&
      (match K.lookup cc with
        | some ⟨_, _, .cell (some (.ref C')), _⟩ => decide (C' = C)
        | _ => false)
    | _, _, _ => false)
  | _ => false
theorem initB_ok {K : PySem.W.Frag} {file : Str} {f C : Addr} {ns : List Str} (h : initB K file f C ns = true) : InitD K file f C ns := by
  refine ?G
  exact (by (intro h; exact h) : have h : (type_of% ?G) := (by
  unfold initB at h
  split at h
  · rename_i oc od fd osl lk
    split at h
    · rename_i s0 p0 p1 s1 p2 m j p3 p4 p5 r cda cn cc hb hc hcl
      simp only [Bool.and_eq_true, beq_iff_eq, decide_eq_true_eq] at h
      obtain ⟨⟨⟨⟨⟨⟨⟨⟨⟨⟨⟨⟨h0, h1⟩, h2⟩, h3⟩, h4⟩, h5⟩, h6⟩, h7⟩, ⟨⟨⟨⟨a1, a2⟩, a3⟩, a4⟩, a5⟩⟩, h9⟩, h10⟩, h11⟩, h12⟩ := h
      subst h1 h2 h5
      split at h11
      · rename_i hdf
        split at h12
        · rename_i cl cld C' csl lc
          simp at h12
          subst h12
          obtain ⟨nm, ql, ⟨po, ar, va, ko, kd, ka, df⟩, bd, sc, gl, clo, dV, kV, doc, pm, an, cd, ct, bl⟩ := fd
          simp only at hb hc hcl h6 h7 a1 a2 a3 a4 a5 h9 h10 hdf
          subst hb hc hcl h9 h10 hdf
          have e1 : po = [] := List.isEmpty_iff.mp a1
          have e2 : ko = [] := List.isEmpty_iff.mp a4
          have e3 : va = none := Option.isNone_iff_eq_none.mp a3
          have e4 : ka = none := Option.isNone_iff_eq_none.mp a5
          subst e1 e2 e3 e4
          have e5 := argsOf_eq a2
          have hl : ar.length = ns.length + 1 := by have := congrArg List.length a2; simpa using this
          obtain ⟨ccl, cdd, vs, ccs, tf, lc2, lv2⟩ := fileB_ok h0
          refine ⟨oc, od, osl, nm, ql, ar.map fun a => (a.annotation, a.pos), kd, df, m, j, p0, p1, p2, p3, p4, p5, r, sc, kV, doc, pm, ct, an, cda, cc, cl, cld, csl, ccl, cdd, vs, ccs, tf, ?_, by simpa using hl, by simpa using h3, h4, h6, h7, lc, lc2, lv2⟩
          rw [lk, ← e5]
        · cases h12
      · cases h11
    · cases h
  · cases h
 ); type_of% ?G)
def clsXB (K : PySem.W.Frag) (C : Addr) : Bool := match K.lookup C with
  | some ⟨.type t, _, .cls cd, sl⟩ => decide (t = "type") && (match cd.mro, sl.toList with
    | .ref C' :: bm, [_, _, _, _, some (.builtin n), _] => decide (C' = C) && decide (n = "ValueError.__new__") && !cd.hasDel && cd.hasDict && PySem.HandSPX.refsVE bm
    | _, _ => false)
  | _ => false
theorem clsXB_ok {K : PySem.W.Frag} {C : Addr} (h : clsXB K C = true) : ∃ nm q N bs bm sn sub ab col dd k0 k1 k2 k3 k5, K.lookup C = some (excClassObj nm q C N bs bm true sn sub ab col dd k0 k1 k2 k3 k5 "ValueError.__new__") ∧ PySem.HandSPX.refsVE bm = true := by
  refine ?G
  exact (by (intro h; exact h) : have h : (type_of% ?G) := (by
  unfold clsXB at h
  split at h
  · rename_i t dd cd sl lk
    obtain ⟨h0, hx⟩ := He.ba h
    clear h
    have h0 := of_decide_eq_true h0
    subst h0
    split at hx
    · rename_i C' bm k0 k1 k2 k3 n k5 hm hs
      obtain ⟨hx, h5⟩ := He.ba hx
      obtain ⟨hx, h4⟩ := He.ba hx
      obtain ⟨hx, h3⟩ := He.ba hx
      obtain ⟨ha, hb⟩ := He.ba hx
      have ea := of_decide_eq_true ha
      have eb := of_decide_eq_true hb
      rw [Bool.not_eq_true'] at h3
      subst ea eb
      obtain ⟨nm, bs, mro, ns, qn, hd, sn, sub, ab, col, del⟩ := cd
      dsimp only at hm h3 h4
      subst hm h3 h4
      have hsl : sl = #[k0, k1, k2, k3, some (.builtin "ValueError.__new__"), k5] := by
        obtain ⟨l⟩ := sl
        simp only at hs
        rw [hs]
      subst hsl
      exact ⟨nm, qn, ns, bs, bm, sn, sub, ab, col, dd, k0, k1, k2, k3, k5, lk, h5⟩
    · cases hx
  · cases h
 ); type_of% ?G)
def supIn (K : PySem.W.Frag) (C : Addr) : Option (Option Value) := (PySem.W.clsIn K C).bind fun cd => PySem.W.alongIn K "__init__" ((cd.mro.dropWhile (· != .ref C)).drop 1)
/-- all that is asked of an own error class at C, its __init__ at f -/
def excB (K : PySem.W.Frag) (file : Str) (C f : Addr) (ns : List Str) : Bool := clsXB K C && (initB K file f C ns && (He.eqO (PySem.W.findIn K (.ref C) "__setattr__") (some (some (.builtin "object.__setattr__"))) && (decide (PySem.W.subIn K (.ref C) (.type "BaseException") = some true) && (decide (PySem.W.typeIn K (.ref C) = some (.type "type")) &&
  (PySem.W.keepIn K (.ref C) && (He.eqO (PySem.W.findIn K (.ref C) "__init__") (some (some (.ref f))) && (decide (PySem.W.typeIn K (.ref f) = some (.type "function")) && ((ns.all fun n => decide (PySem.W.findIn K (.ref C) n = some none)) && (decide (PySem.W.mroIn K C (.ref C) = some true) && (decide (PySem.W.subIn K (.ref C) (.type "ValueError") = some true) &&
  (decide (PySem.W.nsIn K cStatics "thirdparty.any" = some none) && decide (supIn K C = some (some (.builtin "ValueError.__init__"))))))))))))))
theorem exa_ok {b : Zb} {c : Nat} {f : Addr} {ns : List Str} {file : Str} (h : excB b.K file (b.ca c) f ns = true) (hne : ns ≠ []) (few : ns.length ≤ 100) (nd : (("self" : Str) :: ns).Nodup) (hfile : ((b.P.main.file : Str) == file) = true) (htop : (b.P.main.scope.names.lookup ("super" : Str)).isSome = false) (hm : b.mg "super" = none)
    (hbind : ∀ (name qual : Str) (qs : List (Option Expr × Pos)) (kd : List (Option Expr)) (df : List Expr) (body : List Stmt) (sc : Scope) (kV doc pm ct : Value) (an : Option Addr) (cdv : Value) (cc : Addr) (us : List Value), qs.length = ns.length + 1 → us.length = ns.length + 1 →
      bindArgs (PySem.W.ksFn name qual ⟨[], argsOf (("self" : Str) :: ns) qs, none, [], kd, none, df⟩ body sc .none kV doc pm an cdv ct cc) ⟨us, []⟩ = pure ((("self" : Str) :: ns).zip us)) : ExA b 1 c ns := by
  refine ?G
  exact (by (intro h; exact h) : have h : (type_of% ?G) := (by
  unfold excB at h
  obtain ⟨h1, h⟩ := He.ba h
  obtain ⟨h2, h⟩ := He.ba h
  obtain ⟨h3, h⟩ := He.ba h
  obtain ⟨h4, h⟩ := He.ba h
  obtain ⟨h5, h⟩ := He.ba h
  obtain ⟨h6, h⟩ := He.ba h
  obtain ⟨h7, h⟩ := He.ba h
  obtain ⟨h8, h⟩ := He.ba h
  obtain ⟨h9, h⟩ := He.ba h
  obtain ⟨h10, h⟩ := He.ba h
  obtain ⟨h11, h⟩ := He.ba h
  obtain ⟨h12, h13⟩ := He.ba h
  have T : OexC b.K (b.ca c) := ⟨clsXB_ok h1, He.eqO_ok h3, of_decide_eq_true h4, of_decide_eq_true h5, h6⟩
  obtain ⟨oc, od, osl, name, qual, qs, kd, df, m, j, p0, p1, p2, p3, p4, p5, r, sc, kV, doc, pm, ct, an, cda, cc, cl, cld, csl, ccl, cdd, vs, ccs, tf, lk, hq, hp, ha, hsc, hcd, hcc, hco, hv⟩ := (initB_ok h2).ex
  have S := scB_ok nd hsc
  obtain ⟨cd, hcd2, hal⟩ : ∃ cd, PySem.W.clsIn b.K (b.ca c) = some cd ∧ PySem.W.alongIn b.K "__init__" ((cd.mro.dropWhile (· != .ref (b.ca c))).drop 1) = some (some (.builtin "ValueError.__init__")) := by
    have e := of_decide_eq_true h13
    unfold supIn at e
    cases q : PySem.W.clsIn b.K (b.ca c) with
    | none => rw [q] at e; cases e
    | some cd => rw [q] at e; exact ⟨cd, rfl, e⟩
  obtain ⟨q0, qs', eqs⟩ : ∃ q0 qs', qs = q0 :: qs' := by
    cases qs with
    | nil => simp at hq
    | cons q0 qs' => exact ⟨q0, qs', rfl⟩
  have SC : SupC b.P b.K f cda cc (b.ca c) := {
    fn := ⟨_, _, _, _, ⟨"self", q0.1, q0.2⟩, lk, by subst eqs; rfl, rfl⟩
    code := ⟨_, _, _, _, file, tf, hco, hv, hfile⟩
    cell := ⟨_, _, _, hcc⟩
    cls := ⟨cd, hcd2, hal⟩
    self := of_decide_eq_true h10
    val := of_decide_eq_true h11
    op := of_decide_eq_true h12
    top := htop }
  refine ⟨T, hne, few, fun n hn => of_decide_eq_true (List.all_eq_true.mp h9 n hn), f, PySem.W.ksFn name qual ⟨[], argsOf (("self" : Str) :: ns) qs, none, [], kd, none, df⟩ (.Expr (supE m j p0 p1 p2 p3 p4) p5 :: r) sc .none kV doc pm an (.ref cda) ct cc, ("self" : Str) :: ns, He.eqO_ok h7, of_decide_eq_true h8, rfl, Binds.all fun us hl => hbind _ _ qs kd df _ _ _ _ _ _ _ _ _ us hq (by simpa using hl), ?_⟩
  refine exi_fn (k := 0) lk hcd (supEval m j p0 p1 p2 p3 p4 hp) S SC T hm rfl (S.par _ (.head _)) fun A outer s H E => ?_
  exact asg_ok (X := cxK (L2.CX b.P b.w) b.P b.w b.K b.mg b.base (("self" : Str) :: ns) qual sc f cda cc A outer s H E) rfl (.inl (S.par _ (.head _))) ha fun i n hn => ⟨show (("self" : Str) :: ns)[i + 1]? = some n by simpa using hn, .inl (S.par n (.tail _ (List.mem_of_getElem? hn)))⟩
 ); type_of% ?G)
end BL

set_option Elab.async false
set_option linter.all false
set_option maxRecDepth 100000
set_option maxHeartbeats 2000000
namespace BL
open PySem L2

/-! ### a law's end, with tables of code objects -/
def spLT (K : PySem.W.Frag) (n : Nat) (ts : List Addr) : Sp := fun vs H Q _ => ∃ (a : Addr) (ns : List Int), vs = [.ref a] ∧ ns.length ≤ n ∧ (∀ p ∈ ts, H p = some (.tbl #[])) ∧ SqL K H a (ns.map V.int) ∧ ∀ H', Q (.bl true) H'
theorem law_okT {Z : Zb} {k n : Nat} {f : Addr} {fd : FuncData} {x : Str} {F : Fd} (h : FnD Z k f fd [x] F) (hn : n ≤ sizeLine) (hF : ∀ ns : List Int, ns.length ≤ n → ∃ G, F [scr ns] [] = .ok (.t (.bl true)) G) : FnOk Z.P Z.w Z.K Z.mg Z.base L2.CX0 k f fd [x] (spLT Z.K n (Z.tb.map (·.1))) where
  len := fun vs H Q E ⟨a, ns, e, _⟩ => by subst e; rfl
  run := fun A outer s H args us vs Q E hr e0 hb hv ⟨a, ns, e, hl, hO, hS, q⟩ => by
    subst e
    obtain ⟨G, hG⟩ := hF ns hl
    refine codeAny_mono (h.ok.run A outer s H args us _ Q E0 hr e0 hb hv ⟨rfl, [], fun _ => 0, [], [scr ns], ⟨fun i o z => by simp at z, fun i j z => absurd z (Nat.not_lt_zero _), sz_hok e0.hok, fun p hp => LamX.TabS.nil (hO _ (List.mem_map.mpr ⟨p, hp, rfl⟩)), fun b z => (by cases z)⟩, ⟨_, _, rfl, ⟨a, ns.map V.int, rfl, ?_, rps_ints⟩, rfl⟩, ?_⟩) ?_
    · rcases hS with hS | hS
      · exact .inl ⟨hS, fun z => by
          rcases z with ⟨i, hi, _⟩ | z
          · exact absurd hi (Nat.not_lt_zero _)
          · cases z⟩
      · exact .inr hS
    · rw [hG]
      intro v m' H' _ _ rv
      cases rv
      exact q H'
    · intro r s' hq
      cases r with
      | error e =>
        obtain ⟨_, _, _, _, _, _, _, _, _, _, _, _, z⟩ := hq
        exact z.elim
      | ok fl => cases fl <;> exact hq
/-! ### the def that tells refusals -/
theorem sub_of {K : PySem.W.Frag} {ca : Nat → Addr} {v : Value} {l : List (Nat × Bool)} (h : (l.all fun p => decide (PySem.W.exmOne K (.ref (ca p.1)) v = some p.2)) = true) : ∀ c b, l.lookup c = some b → PySem.W.exmOne K (.ref (ca c)) v = some b := by
  refine ?G
  exact (by (intro h; exact h) : have h : (type_of% ?G) := (fun c b e => by
  have mem : ∀ {l : List (Nat × Bool)}, l.lookup c = some b → (c, b) ∈ l := by
    intro l
    induction l with
    | nil => intro z; cases z
    | cons p l ih =>
      intro z
      obtain ⟨c', b'⟩ := p
      by_cases q : c = c'
      · subst q
        simp [List.lookup] at z
        subst z
        exact .head _
      · have q' : (c == c') = false := by simpa using q
        simp only [List.lookup, q'] at z
        exact .tail _ (ih z)
  exact of_decide_eq_true (List.all_eq_true.mp h _ (mem e))
 ); type_of% ?G)
theorem flt_of {b : Zb} {x a : Str} {g : Addr} {st : Stmt} {N : List Str} {hs : List Hdl} {l : List (Value × List Prt)} (Fn : ∃ fd, FnE b.K x x st [] g fd) (S : FnScope N [a] (defScope st)) (hN : N[0]? = some a) (hv : Vis (defScope st) a) (hcl : ClsR b.g.toGm0 hs l)
    (hb : ∀ (kV doc pm : Value) (an : Option Addr) (cdv ct : Value) (us : List Value), us.length = 1 → bindArgs (PySem.W.fnOf x x (defArgs st) (defBody st) (defScope st) .none kV doc pm an cdv ct) ⟨us, []⟩ = pure ([a].zip us))
    (hG : ∀ (X : Cx) (cdv : Value), X.K = b.K → X.mg = b.mg → Room 1 X.A → LamX.GivesTo X N x (defScope st) g cdv (defBody st) a (X.env.qual ++ "<lambda>") (TTf X.K l)) : FltA b x a g hs := by
  refine ?G
  exact (by (intro h; exact h) : have h : (type_of% ?G) := (by
  obtain ⟨fd, Fn⟩ := Fn
  refine ⟨Fn.kp, ?_⟩
  obtain ⟨oc, od, dV, kV, doc, pm, an, cdv, ct, osl, rfl, lk, hcd, hD, _⟩ := Fn.ex
  rcases hD with ⟨_, rfl⟩ | ⟨e, _⟩
  · exact ⟨_, _, _, _, _, _, _, _, _, _, _, _, _, N, l, lk, hcd, Binds.all fun us hl => hb _ _ _ _ _ _ us hl, S, hN, hv, hcl, fun X _ _ eK em _ hr => hG X cdv eK em hr⟩
  · exact absurd rfl e
 ); type_of% ?G)
end BL

set_option Elab.async false
set_option linter.all false
set_option maxRecDepth 100000
set_option maxHeartbeats 1000000
namespace BL
open PySem L2

/-! ### what a denotation gives, read backwards -/
abbrev XP := Nat → List Str → List D → Hs → Prop
@[irreducible] def Wp : Re → (D → Hs → Prop) → XP → Prop
  | .ok d G, Q, _ => Q d G
  | .exc c ns ds G, _, E => E c ns ds G
  | .stuck, _, _ => False
abbrev NP := Ev → Hs → Prop
abbrev TP := D → Hs → Prop
@[irreducible] def Ws : Rs → NP → TP → NP → NP → XP → Prop
  | .nx r G, n, _, _, _, _ => n r G
  | .rt d G, _, t, _, _, _ => t d G
  | .bk r G, _, _, b, _, _ => b r G
  | .ct r G, _, _, _, c, _ => c r G
  | .exc c ns ds _ G, _, _, _, _, x => x c ns ds G
  | .stuck, _, _, _, _, _ => False
/-- by a truth -/
@[irreducible] def Wt : Option Bool → Prop → Prop → Prop
  | some true, A, _ => A
  | some false, _, B => B
  | none, _, _ => False
theorem wt_some {b : Bool} {A B : Prop} : Wt (some b) A B = ((b = true → A) ∧ (b = false → B)) := by
  with_unfolding_all
  cases b
  · exact propext ⟨fun h => ⟨fun z => (nomatch z), fun _ => h⟩, fun h => h.2 rfl⟩
  · exact propext ⟨fun h => ⟨fun _ => h, fun z => (nomatch z)⟩, fun h => h.1 rfl⟩
section
variable {Q Q' : D → Hs → Prop} {E E' : XP} {N N' : NP} {R R' : TP} {B B' C C' : NP} {X X' : XP} {d : D} {G : Hs} {r : Ev}
@[simp] theorem wp_ok : Wp (.ok d G) Q E = Q d G := by
  with_unfolding_all exact rfl
@[simp] theorem wp_exc {c : Nat} {ns : List Str} {ds : List D} : Wp (.exc c ns ds G) Q E = E c ns ds G := by
  with_unfolding_all exact rfl
@[simp] theorem wp_stuck : Wp .stuck Q E = False := by
  with_unfolding_all exact rfl
@[simp] theorem ws_nx : Ws (.nx r G) N R B C X = N r G := by
  with_unfolding_all exact rfl
@[simp] theorem ws_rt : Ws (.rt d G) N R B C X = R d G := by
  with_unfolding_all exact rfl
@[simp] theorem ws_bk : Ws (.bk r G) N R B C X = B r G := by
  with_unfolding_all exact rfl
@[simp] theorem ws_ct : Ws (.ct r G) N R B C X = C r G := by
  with_unfolding_all exact rfl
@[simp] theorem ws_stuck : Ws .stuck N R B C X = False := by
  with_unfolding_all exact rfl
theorem Wp.mono {e : Re} (h : Wp e Q E) (k : ∀ x G, Q x G → Q' x G) (k' : ∀ c ns ds G, E c ns ds G → E' c ns ds G) : Wp e Q' E' := by
  with_unfolding_all
  cases e with
  | ok d G => exact k _ _ h
  | exc c ns ds G => exact k' _ _ _ _ h
  | stuck => exact h
theorem Wp.then {e : Re} (h : Wp e Q (fun _ _ _ _ => False)) (k : ∀ x G, Q x G → Q' x G) : Wp e Q' E' := by
  with_unfolding_all exact h.mono k fun _ _ _ _ z => z.elim
theorem Wp.of {e : Re} (h : e = .ok d G) (k : Q d G) : Wp e Q E := by
  with_unfolding_all
  rw [h]; exact k
theorem Wp.ex {e : Re} (h : Wp e Q (fun _ _ _ _ => False)) : ∃ x G, e = .ok x G ∧ Q x G := by
  with_unfolding_all
  cases e with
  | ok d G => exact ⟨_, _, rfl, h⟩
  | exc c ns ds G => exact h.elim
  | stuck => exact h.elim
theorem Ws.mono {s : Rs} (h : Ws s N R B C X) (h1 : ∀ r G, N r G → N' r G) (h2 : ∀ d G, R d G → R' d G) (h3 : ∀ r G, B r G → B' r G) (h4 : ∀ r G, C r G → C' r G) (h5 : ∀ c ns ds G, X c ns ds G → X' c ns ds G) : Ws s N' R' B' C' X' := by
  with_unfolding_all
  cases s with
  | nx r G => exact h1 _ _ h
  | rt d G => exact h2 _ _ h
  | bk r G => exact h3 _ _ h
  | ct r G => exact h4 _ _ h
  | exc c ns ds r G => exact h5 _ _ _ _ h
  | stuck => exact h
theorem wp_bind {e : Re} {k : D → Hs → Re} : Wp (e.bind k) Q E = Wp e (fun x G1 => Wp (k x G1) Q E) E := by
  with_unfolding_all
  cases e <;> rfl
theorem ws_thn {e : Re} {k : D → Hs → Rs} : Ws (e.thn r k) N R B C X = Wp e (fun x G1 => Ws (k x G1) N R B C X) X := by
  with_unfolding_all
  cases e <;> rfl
theorem ws_seq {a b : Dst} : Ws (dSeq a b r G) N R B C X = Ws (a r G) (fun r1 G1 => Ws (b r1 G1) N R B C X) R B C X := by
  with_unfolding_all
  unfold dSeq
  cases a r G <;> rfl
theorem ws_set {i : Nat} {a : De} : Ws (dSet i a r G) N R B C X = Wp (a r G) (fun x G1 => N (r.set i (some x)) G1) X := by
  with_unfolding_all exact ws_thn
theorem ws_ret {a : De} : Ws (dRet a r G) N R B C X = Wp (a r G) R X := by
  with_unfolding_all exact ws_thn
theorem ws_drop {a : De} : Ws (dDrop a r G) N R B C X = Wp (a r G) (fun _ G1 => N r G1) X := by
  with_unfolding_all exact ws_thn
theorem wp_T {a : De} : Wp (dT a r G) Q E = Wp (a r G) (fun x G1 => Wt (truth G1 x) (Q (.t (.bl true)) G1) (Q (.t (.bl false)) G1)) E := by
  with_unfolding_all
  unfold dT
  rw [wp_bind]
  congr 1
  funext x G1
  cases truth G1 x with
  | none => rfl
  | some t => cases t <;> rfl
theorem ws_if {c : De} {a b : Dst} : Ws (dIf c a b r G) N R B C X = Wp (c r G) (fun x G1 => Wt (truth G1 x) (Ws (a r G1) N R B C X) (Ws (b r G1) N R B C X)) X := by
  with_unfolding_all
  unfold dIf
  rw [ws_thn, wp_T]
theorem wp_bin {f : D → D → Hs → Re} {a b : De} : Wp (dBin f a b r G) Q E = Wp (a r G) (fun x G1 => Wp (b r G1) (fun y G2 => Wp (f x y G2) Q E) E) E := by
  with_unfolding_all
  unfold dBin; simp only [wp_bind]
theorem wp_un {f : D → Hs → Re} {a : De} : Wp (dUn f a r G) Q E = Wp (a r G) (fun x G1 => Wp (f x G1) Q E) E := by
  with_unfolding_all
  unfold dUn; rw [wp_bind]
theorem wp_args0 {k : List D → Hs → Re} : Wp (dArgs [] k r G) Q E = Wp (k [] G) Q E := by
  with_unfolding_all exact rfl
theorem wp_args {a : De} {as : List De} {k : List D → Hs → Re} : Wp (dArgs (a :: as) k r G) Q E = Wp (a r G) (fun x G1 => Wp (dArgs as (fun xs G2 => k (x :: xs) G2) r G1) Q E) E := by
  with_unfolding_all exact wp_bind
theorem wp_call {as : List De} {F : Fd} {dts : List T} : Wp (dCall as F dts r G) Q E = Wp (dArgs as (fun ds G1 => F (ds ++ dts.map D.t) G1) r G) Q E := by
  with_unfolding_all exact rfl
theorem wp_not {a : De} : Wp (dNot a r G) Q E = Wp (a r G) (fun x G1 => Wt (truth G1 x) (Q (.t (.bl false)) G1) (Q (.t (.bl true)) G1)) E := by
  with_unfolding_all
  unfold dNot; rw [wp_bind, wp_T]; rfl
theorem wp_and {a b : De} : Wp (dAnd a b r G) Q E = Wp (a r G) (fun x G1 => Wt (truth G1 x) (Wp (b r G1) Q E) (Q x G1)) E := by
  with_unfolding_all
  unfold dAnd
  rw [wp_bind]
  congr 1
  funext x G1
  cases truth G1 x with
  | none => rfl
  | some t => cases t <;> rfl
theorem wp_or {a b : De} : Wp (dOr a b r G) Q E = Wp (a r G) (fun x G1 => Wt (truth G1 x) (Q x G1) (Wp (b r G1) Q E)) E := by
  with_unfolding_all
  unfold dOr
  rw [wp_bind]
  congr 1
  funext x G1
  cases truth G1 x with
  | none => rfl
  | some t => cases t <;> rfl
theorem wp_ite {c a b : De} : Wp (dIte c a b r G) Q E = Wp (c r G) (fun x G1 => Wt (truth G1 x) (Wp (a r G1) Q E) (Wp (b r G1) Q E)) E := by
  with_unfolding_all
  unfold dIte
  rw [wp_bind, wp_T]
theorem wp_pop {n : Nat} {b : Dst} {ds : List D} : Wp (runPop n b ds G) Q E = Ws (b (startE n ds) G) (fun _ G' => Cl G G' ∧ Q (.t .non) (G'.take G.length)) (fun x G' => Cl G G' ∧ ∃ e, popD G.length x G' = some e ∧ Q e (G'.take G.length)) (fun _ _ => False) (fun _ _ => False) (fun c ns es G' => Cl G G' ∧ ∃ es', popDs G.length es G' = some es' ∧ E c ns es' (G'.take G.length)) := by
  refine ?G
  exact (by (intro h; exact h) : have h : (type_of% ?G) := (by
  with_unfolding_all
  unfold runPop
  cases e : b (startE n ds) G with
  | rt x G' =>
    simp only [endPop, ws_rt]
    by_cases hc : Cl G G'
    · simp only [hc, if_true, true_and]; cases q : popD (List.length G) x G' <;> simp
    · simp only [hc, if_false, false_and]; exact wp_stuck
  | exc c ns es r G' =>
    simp only [endPop, Ws]
    by_cases hc : Cl G G'
    · simp only [hc, if_true, true_and]; cases q : popDs (List.length G) es G' <;> simp
    · simp only [hc, if_false, false_and]; exact wp_stuck
  | nx r G' =>
    simp only [endPop, ws_nx]
    by_cases hc : Cl G G'
    · simp only [hc, if_true, true_and]; exact wp_ok
    · simp only [hc, if_false, false_and]; exact wp_stuck
  | _ => rfl
 ); type_of% ?G)
theorem wp_keep {n : Nat} {b : Dst} {ds : List D} : Wp (runKeep n b ds G) Q E = Ws (b (startE n ds) G) (fun _ G' => Q (.t .non) G') Q (fun _ _ => False) (fun _ _ => False) E := by
  with_unfolding_all
  unfold runKeep
  cases e : b (startE n ds) G <;> rfl
theorem ws_par {i j : Nat} {a b : De} : Ws (dPar i j a b r G) N R B C X = Wp (a r G) (fun x G1 => Wp (b r G1) (fun y G2 => N ((r.set i (some x)).set j (some y)) G2) X) X := by
  with_unfolding_all
  unfold dPar; simp only [ws_thn]; rfl
end
/-! ### loops -/
@[irreducible] def Wi : Ri → (List Im → Kp → Hs → Prop) → XP → Prop
  | .ok its kp G, Q, _ => Q its kp G
  | .exc c ns ds G, _, E => E c ns ds G
  | .stuck, _, _ => False
section
variable {E : XP} {N : NP} {R : TP} {B C : NP} {X : XP} {G : Hs} {r : Ev}
theorem wi_itr {e : Re} {k : D → Hs → Ri} {Q : List Im → Kp → Hs → Prop} : Wi (e.itr k) Q E = Wp e (fun x G1 => Wi (k x G1) Q E) E := by
  with_unfolding_all
  cases e <;> rfl
theorem ws_for {di : Di} {td : Tg} {b : Dst} : Ws (dFor di td b r G) N R B C X = Wi (di r G) (fun its kp G1 => Ws (forLoop td b kp its r G1) N R B C X) X := by
  with_unfolding_all
  unfold dFor; cases di r G <;> rfl
/-- a for by its invariant: I i r G ahead of the i-th item -/
theorem ws_loop {td : Tg} {b : Dst} {kp : Kp} {its : List Im} (I : Nat → Ev → Hs → Prop) (h0 : I 0 r G) (hk : ∀ i r G, I i r G → kpOk kp G)
    (hs : ∀ i r G im, its[i]? = some im → I i r G → ∃ r1, td im r = some r1 ∧ Ws (b r1 G) (I (i + 1)) R N (I (i + 1)) X) (he : ∀ r G, I its.length r G → N r G) : Ws (forLoop td b kp its r G) N R B C X := by
  refine ?G
  exact (by (intro h; exact h) : have h : (type_of% ?G) := (by
  with_unfolding_all
  have main : ∀ (l : List Im) (i : Nat) (r : Ev) (G : Hs), its.drop i = l → i + l.length = its.length → I i r G → Ws (forLoop td b kp l r G) N R B C X := by
    intro l
    induction l with
    | nil =>
      intro i r G _ hl hI
      unfold forLoop
      rw [if_pos (hk i r G hI)]
      have : i = its.length := by simpa using hl
      subst this
      exact he r G hI
    | cons im l ih =>
      intro i r G hd hl hI
      unfold forLoop
      rw [if_pos (hk i r G hI)]
      have hi : its[i]? = some im := by
        have := congrArg (fun l : List Im => l[0]?) hd
        simpa using this
      obtain ⟨r1, e1, h1⟩ := hs i r G im hi hI
      rw [e1]
      have hd' : its.drop (i + 1) = l := by
        have := congrArg List.tail hd
        simpa using this
      have hl' : i + 1 + l.length = its.length := by rw [← hl, List.length_cons]; omega
      simp only
      cases eb : b r1 G with
      | nx r2 G2 => rw [eb] at h1; exact ih (i + 1) r2 G2 hd' hl' h1
      | ct r2 G2 => rw [eb] at h1; exact ih (i + 1) r2 G2 hd' hl' h1
      | bk r2 G2 => rw [eb] at h1; exact h1
      | rt d G2 => rw [eb] at h1; exact h1
      | exc c ns ds r2 G2 => rw [eb] at h1; exact h1
      | stuck => rw [eb] at h1; exact h1
  exact main its 0 r G rfl (by simp) h0
 ); type_of% ?G)
theorem wp_comp {Q : D → Hs → Prop} {own : List Nat} {di : Di} {td : Tg} {tt elt : De} {k : List D → Hs → Re} : Wp (compRun own di td tt elt k r G) Q E = Wi (di r G) (fun its kp G1 => match compLoop td tt elt kp (wipeE r own) its [] G1 with
    | .ok ds G2 => Wp (k ds G2) Q E
    | .stuck => False) E := by
  with_unfolding_all
  unfold compRun
  cases di r G with
  | ok its kp G1 => simp only [Wi]; cases compLoop td tt elt kp (wipeE r own) its [] G1 <;> rfl
  | exc c ns ds G1 => rfl
  | stuck => rfl
/-- a comprehension without tests, by its invariant -/
theorem comp_loop {td : Tg} {elt : De} {kp : Kp} {its : List Im} (I : Nat → List D → Hs → Prop) {K : List D → Hs → Prop} (h0 : I 0 [] G) (hk : ∀ i acc G, I i acc G → kpOk kp G)
    (hs : ∀ i acc G im, its[i]? = some im → I i acc G → ∃ r1, td im r = some r1 ∧ Wp (elt r1 G) (fun d G' => I (i + 1) (acc ++ [d]) G') (fun _ _ _ _ => False)) (he : ∀ acc G, I its.length acc G → K acc G) :
    match compLoop td dYes elt kp r its [] G with
    | .ok ds G2 => K ds G2
    | .stuck => False := by
  with_unfolding_all
  have main : ∀ (l : List Im) (i : Nat) (acc : List D) (G : Hs), its.drop i = l → i + l.length = its.length → I i acc G → match compLoop td dYes elt kp r l acc G with
    | .ok ds G2 => K ds G2
    | .stuck => False := by
    intro l
    induction l with
    | nil =>
      intro i acc G _ hl hI
      unfold compLoop
      rw [if_pos (hk i acc G hI)]
      have : i = its.length := by simpa using hl
      subst this
      exact he acc G hI
    | cons im l ih =>
      intro i acc G hd hl hI
      unfold compLoop
      rw [if_pos (hk i acc G hI)]
      have hi : its[i]? = some im := by
        have := congrArg (fun l : List Im => l[0]?) hd
        simpa using this
      obtain ⟨r1, e1, h1⟩ := hs i acc G im hi hI
      rw [e1]
      have hd' : its.drop (i + 1) = l := by
        have := congrArg List.tail hd
        simpa using this
      have hl' : i + 1 + l.length = its.length := by rw [← hl, List.length_cons]; omega
      have ey : dT dYes r1 G = .ok (.t (.bl true)) G := rfl
      simp only [ey]
      cases eb : elt r1 G with
      | ok d G3 => rw [eb] at h1; exact ih (i + 1) _ G3 hd' hl' h1
      | exc c ns ds G2 => rw [eb] at h1; exact h1
      | stuck => rw [eb] at h1; exact h1
  exact main its 0 [] G rfl (by simp) h0
end
end BL

set_option Elab.async false
set_option linter.all false
set_option maxRecDepth 100000
set_option maxHeartbeats 1000000
namespace BL
open PySem L2

/-! ### steps: each read backwards, to be applied -/
section
variable {Q : D → Hs → Prop} {E : XP} {N : NP} {R : TP} {B C : NP} {X : XP} {d x y z : D} {G : Hs} {r : Ev}
theorem s_seq {a b : Dst} (h : Ws (a r G) (fun r1 G1 => Ws (b r1 G1) N R B C X) R B C X) : Ws (dSeq a b r G) N R B C X := by rw [ws_seq]; with_unfolding_all exact h
theorem s_next (h : N r G) : Ws (dNext r G) N R B C X := by with_unfolding_all exact h
theorem s_set {i : Nat} {a : De} (h : Wp (a r G) (fun x G1 => N (r.set i (some x)) G1) X) : Ws (dSet i a r G) N R B C X := by rw [ws_set]; with_unfolding_all exact h
theorem s_ret {a : De} (h : Wp (a r G) R X) : Ws (dRet a r G) N R B C X := by rw [ws_ret]; with_unfolding_all exact h
theorem s_retN (h : R (.t .non) G) : Ws (dRetN r G) N R B C X := by with_unfolding_all exact h
theorem s_drop {a : De} (h : Wp (a r G) (fun _ G1 => N r G1) X) : Ws (dDrop a r G) N R B C X := by rw [ws_drop]; with_unfolding_all exact h
theorem s_if {c : De} {a b : Dst} (h : Wp (c r G) (fun x G1 => Wt (truth G1 x) (Ws (a r G1) N R B C X) (Ws (b r G1) N R B C X)) X) : Ws (dIf c a b r G) N R B C X := by rw [ws_if]; with_unfolding_all exact h
theorem s_par {i j : Nat} {a b : De} (h : Wp (a r G) (fun x G1 => Wp (b r G1) (fun y G2 => N ((r.set i (some x)).set j (some y)) G2) X) X) : Ws (dPar i j a b r G) N R B C X := by rw [ws_par]; with_unfolding_all exact h
/-- .. the slots as they are then -/
theorem s_set' {i : Nat} {a : De} {f : D → Ev} (hf : ∀ x, r.set i (some x) = f x) (h : Wp (a r G) (fun x G1 => N (f x) G1) X) : Ws (dSet i a r G) N R B C X := by with_unfolding_all exact s_set (by simp only [hf]; exact h)
theorem s_par' {i j : Nat} {a b : De} {f : D → D → Ev} (hf : ∀ x y, (r.set i (some x)).set j (some y) = f x y) (h : Wp (a r G) (fun x G1 => Wp (b r G1) (fun y G2 => N (f x y) G2) X) X) : Ws (dPar i j a b r G) N R B C X := by with_unfolding_all exact s_par (by simp only [hf]; exact h)
/-- x[z] = y at a dict -/
def PutP (x z y : D) (G : Hs) (K : Hs → Prop) : Prop := ∃ j k kvs, x = .loc j ∧ keyOf z = some k ∧ G[j]? = some (.dk kvs) ∧ okIn j y = true ∧ kvs.length < 16777215 ∧ K (G.set j (.dk (putA kvs k y)))
theorem putP {j : Nat} {k : Key} {kvs : List (Key × D)} {K : Hs → Prop} (h : G[j]? = some (.dk kvs)) (h1 : keyOf z = some k) (h2 : okIn j y = true) (h3 : kvs.length < 16777215) (hk : K (G.set j (.dk (putA kvs k y)))) : PutP (.loc j) z y G K := ⟨j, k, kvs, rfl, h1, h, h2, h3, hk⟩
theorem s_put {o i e : De} (h : Wp (e r G) (fun y G1 => Wp (o r G1) (fun x G2 => Wp (i r G2) (fun z G3 => PutP x z y G3 (fun G4 => N r G4)) X) X) X) : Ws (dPut o i e r G) N R B C X := by
  refine ?G
  exact (by (intro h; exact h) : have h : (type_of% ?G) := (by
  unfold dPut
  rw [ws_thn]
  refine h.mono (fun y G1 h => ?_) fun _ _ _ _ z => z
  rw [ws_thn]
  refine h.mono (fun x G2 h => ?_) fun _ _ _ _ z => z
  rw [ws_thn]
  refine h.mono (fun z G3 h => ?_) fun _ _ _ _ z => z
  obtain ⟨j, k, kvs, rfl, h1, h2, h3, h4, h5⟩ := h
  simp only [h1, h2, h3, h4, and_self, if_true]
  with_unfolding_all exact h5
 ); type_of% ?G)
/-- x.f = y -/
def SetFP (cs : List Nat) (f : Str) (x y : D) (G : Hs) (K : Hs → Prop) : Prop := ∃ i c fs, x = .loc i ∧ G[i]? = some (.ins c fs) ∧ cs.contains c = true ∧ okIn i y = true ∧ fs.length < 999 ∧ K (G.set i (.ins c (setF f y fs)))
theorem setFP {cs : List Nat} {f : Str} {i c : Nat} {fs : List (Str × D)} {K : Hs → Prop} (h : G[i]? = some (.ins c fs)) (h1 : cs.contains c = true) (h2 : okIn i y = true) (h3 : fs.length < 999) (hk : K (G.set i (.ins c (setF f y fs)))) : SetFP cs f (.loc i) y G K := ⟨i, c, fs, rfl, h, h1, h2, h3, hk⟩
theorem s_setF {cs : List Nat} {f : Str} {o e : De} (h : Wp (e r G) (fun y G1 => Wp (o r G1) (fun x G2 => SetFP cs f x y G2 (fun G3 => N r G3)) X) X) : Ws (dSetF cs f o e r G) N R B C X := by
  unfold dSetF
  rw [ws_thn]
  refine h.mono (fun y G1 h => ?_) fun _ _ _ _ z => z
  rw [ws_thn]
  refine h.mono (fun x G2 h => ?_) fun _ _ _ _ z => z
  obtain ⟨j, c, fs, rfl, h2, h1, h3, h4, h5⟩ := h
  simp only [h1, h2, h3, h4, and_self, if_true]
  with_unfolding_all exact h5
/-- x[z] = y at a list -/
def SetLP (x z y : D) (G : Hs) (K : Hs → Prop) : Prop := ∃ j k es n, x = .loc j ∧ z = .t (.int k) ∧ G[j]? = some (.lst es) ∧ ixN es.length k = some n ∧ okIn j y = true ∧ K (G.set j (.lst (es.set n y)))
theorem s_setL {o i e : De} (h : Wp (e r G) (fun y G1 => Wp (o r G1) (fun x G2 => Wp (i r G2) (fun z G3 => SetLP x z y G3 (fun G4 => N r G4)) X) X) X) : Ws (dSetL o i e r G) N R B C X := by
  refine ?G
  exact (by (intro h; exact h) : have h : (type_of% ?G) := (by
  unfold dSetL
  rw [ws_thn]
  refine h.mono (fun y G1 h => ?_) fun _ _ _ _ z => z
  rw [ws_thn]
  refine h.mono (fun x G2 h => ?_) fun _ _ _ _ z => z
  rw [ws_thn]
  refine h.mono (fun z G3 h => ?_) fun _ _ _ _ z => z
  obtain ⟨j, k, es, n, rfl, rfl, h1, h2, h3, h5⟩ := h
  simp only [h1, h2, h3, if_true]
  with_unfolding_all exact h5
 ); type_of% ?G)
theorem s_for {di : Di} {td : Tg} {b : Dst} (h : Wi (di r G) (fun its kp G1 => Ws (forLoop td b kp its r G1) N R B C X) X) : Ws (dFor di td b r G) N R B C X := by rw [ws_for]; with_unfolding_all exact h
theorem s_cut (P : NP) {s : Rs} (h : Ws s P R B C X) (k : ∀ r G, P r G → N r G) : Ws s N R B C X := by with_unfolding_all exact h.mono k (fun _ _ z => z) (fun _ _ z => z) (fun _ _ z => z) (fun _ _ _ _ z => z)
theorem e_cut (P : D → Hs → Prop) {e : Re} (h : Wp e P E) (k : ∀ x G, P x G → Q x G) : Wp e Q E := by with_unfolding_all exact h.mono k fun _ _ _ _ z => z
/-! ### expressions -/
theorem e_var {i : Nat} (h : r[i]? = some (some d)) (k : Q d G) : Wp (dVar i r G) Q E := by unfold dVar; rw [h]; with_unfolding_all exact k
theorem e_C {t : T} (k : Q (.t t) G) : Wp (dC t r G) Q E := by with_unfolding_all exact k
theorem e_bin {f : D → D → Hs → Re} {a b : De} (h : Wp (a r G) (fun x G1 => Wp (b r G1) (fun y G2 => Wp (f x y G2) Q E) E) E) : Wp (dBin f a b r G) Q E := by rw [wp_bin]; with_unfolding_all exact h
theorem e_un {f : D → Hs → Re} {a : De} (h : Wp (a r G) (fun x G1 => Wp (f x G1) Q E) E) : Wp (dUn f a r G) Q E := by rw [wp_un]; with_unfolding_all exact h
theorem e_not {a : De} (h : Wp (a r G) (fun x G1 => Wt (truth G1 x) (Q (.t (.bl false)) G1) (Q (.t (.bl true)) G1)) E) : Wp (dNot a r G) Q E := by rw [wp_not]; with_unfolding_all exact h
theorem e_and {a b : De} (h : Wp (a r G) (fun x G1 => Wt (truth G1 x) (Wp (b r G1) Q E) (Q x G1)) E) : Wp (dAnd a b r G) Q E := by rw [wp_and]; with_unfolding_all exact h
theorem e_or {a b : De} (h : Wp (a r G) (fun x G1 => Wt (truth G1 x) (Q x G1) (Wp (b r G1) Q E)) E) : Wp (dOr a b r G) Q E := by rw [wp_or]; with_unfolding_all exact h
theorem e_ite {c a b : De} (h : Wp (c r G) (fun x G1 => Wt (truth G1 x) (Wp (a r G1) Q E) (Wp (b r G1) Q E)) E) : Wp (dIte c a b r G) Q E := by rw [wp_ite]; with_unfolding_all exact h
theorem e_call1 {a : De} {F : Fd} (h : Wp (a r G) (fun x G1 => Wp (F [x] G1) Q E) E) : Wp (dCall [a] F [] r G) Q E := by
  rw [wp_call, wp_args]; with_unfolding_all exact h
theorem e_call2 {a b : De} {F : Fd} (h : Wp (a r G) (fun x G1 => Wp (b r G1) (fun y G2 => Wp (F [x, y] G2) Q E) E) E) : Wp (dCall [a, b] F [] r G) Q E := by
  rw [wp_call, wp_args]
  refine h.mono (fun x G1 h => ?_) fun _ _ _ _ z => z
  rw [wp_args]; with_unfolding_all exact h
theorem e_call3 {a b c : De} {F : Fd} (h : Wp (a r G) (fun x G1 => Wp (b r G1) (fun y G2 => Wp (c r G2) (fun z G3 => Wp (F [x, y, z] G3) Q E) E) E) E) : Wp (dCall [a, b, c] F [] r G) Q E := by
  rw [wp_call, wp_args]
  refine h.mono (fun x G1 h => ?_) fun _ _ _ _ z => z
  rw [wp_args]
  refine h.mono (fun x G1 h => ?_) fun _ _ _ _ z => z
  rw [wp_args]; with_unfolding_all exact h
theorem e_call4 {a b c e : De} {F : Fd} (h : Wp (a r G) (fun x G1 => Wp (b r G1) (fun y G2 => Wp (c r G2) (fun z G3 => Wp (e r G3) (fun w G4 => Wp (F [x, y, z, w] G4) Q E) E) E) E) E) : Wp (dCall [a, b, c, e] F [] r G) Q E := by
  rw [wp_call, wp_args]
  refine h.mono (fun x G1 h => ?_) fun _ _ _ _ z => z
  rw [wp_args]
  refine h.mono (fun x G1 h => ?_) fun _ _ _ _ z => z
  rw [wp_args]
  refine h.mono (fun x G1 h => ?_) fun _ _ _ _ z => z
  rw [wp_args]; with_unfolding_all exact h
theorem e_args0 {k : List D → Hs → Re} (h : Wp (k [] G) Q E) : Wp (dArgs [] k r G) Q E := by with_unfolding_all exact h
theorem e_args1 {a : De} {k : List D → Hs → Re} (h : Wp (a r G) (fun x G1 => Wp (k [x] G1) Q E) E) : Wp (dArgs [a] k r G) Q E := by
  rw [wp_args]; with_unfolding_all exact h
theorem e_args2 {a b : De} {k : List D → Hs → Re} (h : Wp (a r G) (fun x G1 => Wp (b r G1) (fun y G2 => Wp (k [x, y] G2) Q E) E) E) : Wp (dArgs [a, b] k r G) Q E := by
  rw [wp_args]
  refine h.mono (fun x G1 h => ?_) fun _ _ _ _ z => z
  rw [wp_args]; with_unfolding_all exact h
theorem e_args3 {a b c : De} {k : List D → Hs → Re} (h : Wp (a r G) (fun x G1 => Wp (b r G1) (fun y G2 => Wp (c r G2) (fun z G3 => Wp (k [x, y, z] G3) Q E) E) E) E) : Wp (dArgs [a, b, c] k r G) Q E := by
  rw [wp_args]
  refine h.mono (fun x G1 h => ?_) fun _ _ _ _ z => z
  rw [wp_args]
  refine h.mono (fun x G1 h => ?_) fun _ _ _ _ z => z
  rw [wp_args]; with_unfolding_all exact h
theorem e_args4 {a b c e : De} {k : List D → Hs → Re} (h : Wp (a r G) (fun x G1 => Wp (b r G1) (fun y G2 => Wp (c r G2) (fun z G3 => Wp (e r G3) (fun w G4 => Wp (k [x, y, z, w] G4) Q E) E) E) E) E) : Wp (dArgs [a, b, c, e] k r G) Q E := by
  rw [wp_args]
  refine h.mono (fun x G1 h => ?_) fun _ _ _ _ z => z
  rw [wp_args]
  refine h.mono (fun x G1 h => ?_) fun _ _ _ _ z => z
  rw [wp_args]
  refine h.mono (fun x G1 h => ?_) fun _ _ _ _ z => z
  rw [wp_args]; with_unfolding_all exact h
theorem e_argsC {a : De} {as : List De} {k : List D → Hs → Re} (h : Wp (a r G) (fun x G1 => Wp (dArgs as (fun xs G2 => k (x :: xs) G2) r G1) Q E) E) : Wp (dArgs (a :: as) k r G) Q E := by rw [wp_args]; with_unfolding_all exact h
/-- a < b < c -/
theorem e_chain {f f' : D → D → Hs → Re} {a b c : De} (h : Wp (a r G) (fun x G1 => Wp (b r G1) (fun y G2 => Wp (f x y G2) (fun z G3 => Wt (match z with | .t (.bl t) => some t | _ => none) (Wp (c r G3) (fun w G4 => Wp (f' y w G4) Q E) E) (Q (.t (.bl false)) G3)) E) E) E) : Wp (dChain f f' a b c r G) Q E := by
  refine ?G
  exact (by (intro h; exact h) : have h : (type_of% ?G) := (by
  unfold dChain
  rw [wp_bind]
  refine h.mono (fun x G1 h => ?_) fun _ _ _ _ z => z
  rw [wp_bind]
  refine h.mono (fun y G2 h => ?_) fun _ _ _ _ z => z
  rw [wp_bind]
  refine h.mono (fun z G3 h => ?_) fun _ _ _ _ z => z
  split at h
  · next t =>
    cases t with
    | true => show Wp ((c r G3).bind _) Q E; rw [wp_bind]; with_unfolding_all exact h
    | false => with_unfolding_all exact h
  · exact False.elim (by with_unfolding_all exact h)
 ); type_of% ?G)
theorem e_sl0 {a h : De} (k : Wp (a r G) (fun x G1 => Wp (h r G1) (fun y G2 => Wp (match y with | .t (.int j) => fSl x none (some j) G2 | _ => .stuck) Q E) E) E) : Wp (dSl a none (some h) r G) Q E := by
  unfold dSl
  rw [wp_bind]
  refine k.mono (fun x G1 k => ?_) fun _ _ _ _ z => z
  show Wp ((h r G1).bind _) Q E
  rw [wp_bind]
  with_unfolding_all exact k
theorem e_sl1 {a l : De} (k : Wp (a r G) (fun x G1 => Wp (l r G1) (fun y G2 => Wp (match y with | .t (.int j) => fSl x (some j) none G2 | _ => .stuck) Q E) E) E) : Wp (dSl a (some l) none r G) Q E := by
  unfold dSl
  rw [wp_bind]
  refine k.mono (fun x G1 k => ?_) fun _ _ _ _ z => z
  show Wp ((l r G1).bind _) Q E
  rw [wp_bind]
  refine k.mono (fun y G2 k => ?_) fun _ _ _ _ z => z
  with_unfolding_all exact k
theorem e_bm {ty : Hs → D → Bool} {f : D → List D → Hs → Re} {o : De} {das : List De} (h : Wp (o r G) (fun x G1 => ty G1 x = true ∧ Wp (dArgs das (fun ds G2 => f x ds G2) r G1) Q E) E) : Wp (dBm ty f o das r G) Q E := by
  unfold dBm
  rw [wp_bind]
  refine h.mono (fun x G1 h => ?_) fun _ _ _ _ z => z
  rw [if_pos h.1]
  with_unfolding_all exact h.2
theorem e_meth {c : Nat} {m : Str} {o : De} {das : List De} {F : Fd} {dts : List T} (h : Wp (o r G) (fun x G1 => (isObj' c G1 x = true ∧ noFld m G1 x = true) ∧ Wp (dArgs das (fun ds G2 => F (x :: (ds ++ dts.map D.t)) G2) r G1) Q E) E) : Wp (dMeth c m o das F dts r G) Q E := by
  unfold dMeth
  rw [wp_bind]
  refine h.mono (fun x G1 h => ?_) fun _ _ _ _ z => z
  rw [if_pos h.1]
  with_unfolding_all exact h.2
/-- C(..): the made object stands behind the others -/
theorem e_make {c : Nat} {das : List De} {F : Fd} {dts : List T} (h : Wp (dArgs das (fun ds G => mkEnd G (F (.loc G.length :: (ds ++ dts.map D.t)) (G ++ [.ins c []]))) r G) Q E) : Wp (dMake c das F dts r G) Q E := by with_unfolding_all exact h
theorem e_mk {G0 : Hs} {e : Re} (h : Wp e (fun x G' => x = .t .non ∧ Cl G0 G' ∧ ∃ y, popD G0.length (.loc G0.length) G' = some y ∧ Q y (G'.take G0.length)) (fun c ns es G' => Cl G0 G' ∧ ∃ es', popDs G0.length es G' = some es' ∧ E c ns es' (G'.take G0.length))) : Wp (mkEnd G0 e) Q E := by
  refine ?G
  exact (by (intro h; exact h) : have h : (type_of% ?G) := (by
  cases e with
  | ok x G' =>
    rw [wp_ok] at h
    obtain ⟨rfl, hc, y, h1, h2⟩ := h
    simp only [mkEnd, h1, hc, if_true]
    with_unfolding_all exact h2
  | exc c ns es G' =>
    rw [wp_exc] at h
    obtain ⟨hc, es', h1, h2⟩ := h
    simp only [mkEnd, h1, hc, if_true]
    with_unfolding_all exact h2
  | stuck => with_unfolding_all exact h
 ); type_of% ?G)
theorem e_disp {ks : List Str} {das : List De} (h : Wp (dArgs das (fun ds G => .ok (.loc G.length) (G ++ [.dk (mergeA [] ((ks.map Sum.inr).zip ds))])) r G) Q E) : Wp (dDisp ks das r G) Q E := by with_unfolding_all exact h
theorem e_ok (h : Q d G) : Wp (.ok d G) Q E := by with_unfolding_all exact h
/-! ### truths -/
theorem t_T {A B : Prop} (h : A) : Wt (truth G (.t (.bl true))) A B := by with_unfolding_all exact h
theorem t_F {A B : Prop} (h : B) : Wt (truth G (.t (.bl false))) A B := by with_unfolding_all exact h
theorem t_dec {A B : Prop} {p : Prop} {_ : Decidable p} (h1 : p → A) (h2 : ¬ p → B) : Wt (truth G (.t (.bl (decide p)))) A B := by
  by_cases h : p
  · rw [decide_eq_true h]; with_unfolding_all exact h1 h
  · rw [decide_eq_false h]; with_unfolding_all exact h2 h
theorem t_ndec {A B : Prop} {p : Prop} {_ : Decidable p} (h1 : ¬ p → A) (h2 : p → B) : Wt (truth G (.t (.bl (!decide p)))) A B := by
  by_cases h : p
  · rw [decide_eq_true h]; with_unfolding_all exact h2 h
  · rw [decide_eq_false h]; with_unfolding_all exact h1 h
theorem t_bl {A B : Prop} {b : Bool} (h1 : b = true → A) (h2 : b = false → B) : Wt (truth G (.t (.bl b))) A B := by
  cases b
  · with_unfolding_all exact h2 rfl
  · with_unfolding_all exact h1 rfl
theorem t_sdec {A B : Prop} {p : Prop} {_ : Decidable p} (h1 : p → A) (h2 : ¬ p → B) : Wt (some (decide p)) A B := by
  by_cases h : p
  · rw [decide_eq_true h]; with_unfolding_all exact h1 h
  · rw [decide_eq_false h]; with_unfolding_all exact h2 h
/-! ### operators on plain data -/
theorem f_addI {i j : Int} (h : Q (.t (.int (i + j))) G) : Wp (fAdd (.t (.int i)) (.t (.int j)) G) Q E := by with_unfolding_all exact h
theorem f_addT {i j : List T} (hl : i.length + j.length ≤ sizeLine) (h : Q (.t (.tup (i ++ j))) G) : Wp (fAdd (.t (.tup i)) (.t (.tup j)) G) Q E := by
  simp only [fAdd, hl, if_true]; with_unfolding_all exact h
theorem f_sub {i j : Int} (h : Q (.t (.int (i - j))) G) : Wp (fSub (.t (.int i)) (.t (.int j)) G) Q E := by with_unfolding_all exact h
theorem mulOkL {i j : Int} (h1 : -(2 ^ 64) < i) (h2 : i < 2 ^ 64) : mulOk i j = true := by
  unfold mulOk; rw [decide_eq_true ⟨h1, h2⟩]; rfl
theorem mulOkR {i j : Int} (h1 : -(2 ^ 64) < j) (h2 : j < 2 ^ 64) : mulOk i j = true := by
  unfold mulOk; rw [decide_eq_true (p := -(2 ^ 64) < j ∧ j < 2 ^ 64) ⟨h1, h2⟩, Bool.or_true]
theorem f_mul {i j : Int} (hm : mulOk i j = true) (h : Q (.t (.int (i * j))) G) : Wp (fMul (.t (.int i)) (.t (.int j)) G) Q E := by
  simp only [fMul, hm, if_true]; with_unfolding_all exact h
theorem f_div {i j : Int} (h1 : 0 < j) (h2 : j < 1073741824) (h : Q (.t (.int (i / j))) G) : Wp (fDiv (.t (.int i)) (.t (.int j)) G) Q E := by
  simp only [fDiv, h1, h2, and_self, if_true]; with_unfolding_all exact h
theorem f_mod {i j : Int} (h1 : 0 < j) (h : Q (.t (.int (i % j))) G) : Wp (fMod (.t (.int i)) (.t (.int j)) G) Q E := by
  simp only [fMod, h1, if_true]; with_unfolding_all exact h
theorem f_pow {i j : Int} (h1 : 0 ≤ j ∧ j ≤ 1000000 ∧ i.natAbs < 2 ^ 64) (h : Q (.t (.int (i ^ j.toNat))) G) : Wp (fPow (.t (.int i)) (.t (.int j)) G) Q E := by
  simp only [fPow, h1, and_self, if_true]; with_unfolding_all exact h
theorem f_cmp {p : Int → Int → Bool} {i j : Int} (h : Q (.t (.bl (p i j))) G) : Wp (fCmp p (.t (.int i)) (.t (.int j)) G) Q E := by with_unfolding_all exact h
theorem f_int {i : Int} (h : Q (.t (.int i)) G) : Wp (fInt [.t (.int i)] G) Q E := by with_unfolding_all exact h
theorem f_lenT {ts : List T} (h : Q (.t (.int ts.length)) G) : Wp (fLen [.t (.tup ts)] G) Q E := by
  simp only [fLen, asS, asT, List.length_map]; with_unfolding_all exact h
theorem f_lenL {ts : List T} (h : Q (.t (.int ts.length)) G) : Wp (fLen [.t (.lst ts)] G) Q E := by
  simp only [fLen, asS, asT, asL, List.length_map]; with_unfolding_all exact h
theorem asS_notS {ds : List D} (h : asS G d = some ds) : ∀ s, d ≠ .t (.str s) := by
  intro s e; subst e; simp [asS, asT, asL] at h
theorem f_len {ds : List D} (hs : asS G d = some ds) (h : Q (.t (.int ds.length)) G) : Wp (fLen [d] G) Q E := by
  have hn := asS_notS hs
  unfold fLen
  split
  · next x e => simp at e; exact absurd e (hn x)
  · next e' hd => simp at hd; subst hd; rw [hs]; with_unfolding_all exact h
  · next h1 h2 => exact absurd rfl (h2 d)
theorem f_tup {ds : List D} {ts : List T} (hs : asS G d = some ds) (hp : plain ds = some ts) (h : Q (.t (.tup ts)) G) : Wp (fTup [d] G) Q E := by
  simp only [fTup, hs, hp]; with_unfolding_all exact h
theorem f_lst {ds : List D} {ts : List T} (hs : asS G d = some ds) (hp : plain ds = some ts) (h : Q (.t (.lst ts)) G) : Wp (fLst [d] G) Q E := by
  simp only [fLst, hs, hp]; with_unfolding_all exact h
theorem f_lstD {ds : List D} {ts : List T} (hp : plain ds = some ts) (hl : ts.length ≤ sizeLine) (h : Q (.t (.lst ts)) G) : Wp (fLstD ds G) Q E := by
  simp only [fLstD, hp, hl, if_true]; with_unfolding_all exact h
theorem f_tupD {ds : List D} {ts : List T} (hp : plain ds = some ts) (hl : ts.length ≤ sizeLine) (h : Q (.t (.tup ts)) G) : Wp (fTupD ds G) Q E := by
  simp only [fTupD, hp, hl, if_true]; with_unfolding_all exact h
theorem f_lstDL {ds : List D} (hl : ds.length ≤ sizeLine) (h : Q (.loc G.length) (G ++ [.lst ds])) : Wp (fLstDL ds G) Q E := by
  simp only [fLstDL, hl, if_true]; with_unfolding_all exact h
theorem f_get {kvs : List (Key × D)} {k : Key} (h1 : dkOf G x = some kvs) (h2 : keyOf y = some k) (h3 : getA kvs k = some d) (h : Q d G) : Wp (fGet x y G) Q E := by
  simp only [fGet, h1, h2, h3]; with_unfolding_all exact h
theorem dkL {p : Nat} {kvs : List (Key × D)} (h : G[p]? = some (.dk kvs)) : dkOf G (.loc p) = some kvs := by
  simp only [dkOf, h]
theorem f_eq {neg : Bool} {a b : T} (h1 : asD G x = some a) (h2 : asD G y = some b) (h3 : eqOk a b = true) (h : Q (.t (.bl (if neg then !teq a b else teq a b))) G) : Wp (fEq neg x y G) Q E := by
  simp only [fEq, h1, h2, h3, if_true]; with_unfolding_all exact h
theorem teqI {i j : Int} : teq (.int i) (.int j) = decide (i = j) := by
  show (i == j) = _
  rw [Bool.eq_iff_iff]; simp
theorem f_eqI {i j : Int} (h : Q (.t (.bl (decide (i = j)))) G) : Wp (fEq false (.t (.int i)) (.t (.int j)) G) Q E := by
  refine f_eq rfl rfl rfl ?_
  rw [teqI]; exact h
theorem f_neI {i j : Int} (h : Q (.t (.bl (!decide (i = j)))) G) : Wp (fEq true (.t (.int i)) (.t (.int j)) G) Q E := by
  refine f_eq rfl rfl rfl ?_
  rw [teqI]; exact h
theorem f_ix {ds : List D} {i : Int} (h1 : asS G x = some ds) (h2 : atI ds i = some d) (h : Q d G) : Wp (fIx x (.t (.int i)) G) Q E := by
  have e : fIx x (.t (.int i)) G = .ok d G := by
    cases x with
    | loc j => simp only [fIx, h1, h2]
    | t u => cases u <;> first | simp [asS, asT, asL] at h1; done | simp only [fIx, h1, h2]
  rw [e]; with_unfolding_all exact h
theorem f_isi {t : Kd → Option Bool} {k : Kd} {b : Bool} (h1 : kind G x = some k) (h2 : t k = some b) (h : Q (.t (.bl b)) G) : Wp (fIsi t x G) Q E := by
  simp only [fIsi, h1, h2]; with_unfolding_all exact h
theorem f_fld {cs : List Nat} {f : Str} {c : Nat} {ns : List Str} {ts : List T} {t : T} (h1 : cs.contains c = true) (h2 : zipLk f ns ts = some t) (h : Q (.t t) G) : Wp (fFld cs f (.t (.obj c ns ts)) G) Q E := by
  simp only [fFld, h1, if_true, h2]; with_unfolding_all exact h
theorem f_fldL {cs : List Nat} {f : Str} {c i : Nat} {fs : List (Str × D)} (h0 : G[i]? = some (.ins c fs)) (h1 : cs.contains c = true) (h2 : zipLk f (fs.map (·.1)) (fs.map (·.2)) = some d) (h : Q d G) : Wp (fFld cs f (.loc i) G) Q E := by
  simp only [fFld, h0, h1, if_true, h2]; with_unfolding_all exact h
theorem bools_map : ∀ bs : List Bool, boolsT (bs.map fun b => D.t (.bl b)) = some bs
  | [] => rfl
  | b :: bs => by simp [boolsT, bools_map bs]
theorem f_all {ds : List D} {bs : List Bool} (h1 : asL G d = some ds) (h2 : boolsT ds = some bs) (h : Q (.t (.bl (bs.all id))) G) : Wp (fAll [d] G) Q E := by
  simp only [fAll, h1, h2]; with_unfolding_all exact h
/-! ### walks -/
theorem i_S {a : De} {P : List Im → Kp → Hs → Prop} (h : Wp (a r G) (fun x G1 => ∃ ds, (asT x = some ds ∧ P (ds.map Im.one) none G1) ∨ (asT x = none ∧ asL G1 x = some ds ∧ P (ds.map Im.one) (kpOf G1 x) G1)) E) : Wi (iS a r G) P E := by
  unfold iS
  rw [wi_itr]
  refine h.mono (fun x G1 h => ?_) fun _ _ _ _ z => z
  obtain ⟨ds, ⟨h1, h2⟩ | ⟨h0, h1, h2⟩⟩ := h
  · simp only [h1]; with_unfolding_all exact h2
  · simp only [h0, h1]; with_unfolding_all exact h2
theorem i_En {a : De} {P : List Im → Kp → Hs → Prop} (h : Wp (a r G) (fun x G1 => ∃ ds, (asT x = some ds ∧ P (enumIms ds) none G1) ∨ (asT x = none ∧ asL G1 x = some ds ∧ P (enumIms ds) (kpOf G1 x) G1)) E) : Wi (iEn a r G) P E := by
  unfold iEn
  rw [wi_itr]
  refine h.mono (fun x G1 h => ?_) fun _ _ _ _ z => z
  obtain ⟨ds, ⟨h1, h2⟩ | ⟨h0, h1, h2⟩⟩ := h
  · simp only [h1]; with_unfolding_all exact h2
  · simp only [h0, h1]; with_unfolding_all exact h2
theorem i_R1 {a : De} {P : List Im → Kp → Hs → Prop} (h : Wp (a r G) (fun x G1 => ∃ j, x = .t (.int j) ∧ -(2 ^ 62) ≤ j ∧ j ≤ 16777216 ∧ P (((List.range j.toNat).map fun i : Nat => D.t (.int (i : Int))).map Im.one) none G1) E) : Wi (iR1 a r G) P E := by
  refine ?G
  exact (by (intro h; exact h) : have h : (type_of% ?G) := (by
  unfold iR1
  rw [wi_itr]
  refine h.mono (fun x G1 h => ?_) fun _ _ _ _ z => z
  obtain ⟨j, rfl, h1, h2, h3⟩ := h
  simp only [h1, h2, and_self, if_true]
  have e : intIms 0 j.toNat = ((List.range j.toNat).map fun i : Nat => D.t (.int (i : Int))).map Im.one := by
    unfold intIms
    rw [List.map_map]
    with_unfolding_all exact List.map_congr_left fun i _ => by simp
  rw [e]
  with_unfolding_all exact h3
 ); type_of% ?G)
theorem i_Str {a : De} {P : List Im → Kp → Hs → Prop} (h : Wp (a r G) (fun x G1 => ∃ z, x = .t (.str z) ∧ z.length ≤ sizeLine ∧ P ((z.cps.toList.map fun c => D.t (.str ⟨#[c]⟩)).map Im.one) none G1) E) : Wi (iStr' a r G) P E := by
  unfold iStr'
  rw [wi_itr]
  refine h.mono (fun x G1 h => ?_) fun _ _ _ _ z => z
  obtain ⟨j, rfl, h1, h3⟩ := h
  simp only [h1, if_true]
  rw [List.map_map] at h3
  with_unfolding_all exact h3
/-- a comprehension -/
@[irreducible] def Wc : Rc → (List D → Hs → Prop) → Prop
  | .ok ds G, K => K ds G
  | .stuck, _ => False
theorem e_comp {own : List Nat} {di : Di} {td : Tg} {tt elt : De} {k : List D → Hs → Re} (h : Wi (di r G) (fun its kp G1 => Wc (compLoop td tt elt kp (wipeE r own) its [] G1) (fun ds G2 => Wp (k ds G2) Q E)) E) : Wp (compRun own di td tt elt k r G) Q E := by
  refine ?G
  exact (by (intro h; exact h) : have h : (type_of% ?G) := (by
  rw [wp_comp]
  cases e : di r G with
  | ok its kp G1 =>
    rw [e] at h
    simp only [Wi] at h ⊢
    cases e2 : compLoop td tt elt kp (wipeE r own) its [] G1 with
    | ok ds G2 => rw [e2] at h; with_unfolding_all exact h
    | stuck => rw [e2] at h; with_unfolding_all exact h
  | exc c ns ds G1 => rw [e] at h; with_unfolding_all exact h
  | stuck => rw [e] at h; with_unfolding_all exact h
 ); type_of% ?G)
theorem e_comp' {own : List Nat} {r0 : Ev} {di : Di} {td : Tg} {tt elt : De} {k : List D → Hs → Re} (hr : wipeE r own = r0) (h : Wi (di r G) (fun its kp G1 => Wc (compLoop td tt elt kp r0 its [] G1) (fun ds G2 => Wp (k ds G2) Q E)) E) : Wp (compRun own di td tt elt k r G) Q E := by with_unfolding_all exact e_comp (by rw [hr]; exact h)
/-- a comprehension over singles, by an invariant on what was made -/
theorem c_loop {i : Nat} {elt : De} {kp : Kp} {ds : List D} (I : Nat → List D → Hs → Prop) {K : List D → Hs → Prop} (h0 : I 0 [] G) (hk : ∀ i acc G, I i acc G → kpOk kp G)
    (hs : ∀ j acc G d, ds[j]? = some d → I j acc G → Wp (elt (r.set i (some d)) G) (fun d G' => I (j + 1) (acc ++ [d]) G') (fun _ _ _ _ => False)) (he : ∀ acc G, I ds.length acc G → K acc G) :
    Wc (compLoop (gN i) dYes elt kp r (ds.map Im.one) [] G) K := by
  refine ?G
  exact (by (intro h; exact h) : have h : (type_of% ?G) := (by
  have := comp_loop (r := r) (td := gN i) (its := ds.map Im.one) (elt := elt) (kp := kp) I (K := K) h0 hk (fun j acc G im e hI => by
    rw [List.getElem?_map] at e
    cases hd : ds[j]? with
    | none => rw [hd] at e; cases e
    | some d =>
      rw [hd] at e
      cases e
      with_unfolding_all exact ⟨_, rfl, hs j acc G d hd hI⟩) (fun acc G hI => he acc G (by rw [List.length_map] at hI; with_unfolding_all exact hI))
  cases e2 : compLoop (gN i) dYes elt kp r (ds.map Im.one) [] G with
  | ok ds G2 => rw [e2] at this; with_unfolding_all exact this
  | stuck => rw [e2] at this; with_unfolding_all exact this
 ); type_of% ?G)
theorem kp_none {G : Hs} : kpOk none G := fun _ _ h => nomatch h
/-- .. that changes nothing: the items by a function -/
theorem c_map {i : Nat} {elt : De} {kp : Kp} {ds : List D} {f : D → D} {K : List D → Hs → Prop} (hk : kpOk kp G)
    (hs : ∀ d, d ∈ ds → ∀ Q : D → Hs → Prop, Q (f d) G → Wp (elt (r.set i (some d)) G) Q (fun _ _ _ _ => False)) (he : K (ds.map f) G) :
    Wc (compLoop (gN i) dYes elt kp r (ds.map Im.one) [] G) K := by
  refine ?G
  exact (by (intro h; exact h) : have h : (type_of% ?G) := (by
  refine c_loop (fun j acc G' => acc = (ds.take j).map f ∧ G' = G) ⟨by simp, rfl⟩ (fun _ _ _ h => by rw [h.2]; with_unfolding_all exact hk) (fun j acc G' d hd hI => ?_) (fun acc G' hI => by
    rw [hI.1, hI.2, List.take_length]; with_unfolding_all exact he)
  obtain ⟨rfl, rfl⟩ := hI
  refine hs d (List.mem_of_getElem? hd) _ ⟨?_, rfl⟩
  rw [List.take_add_one, hd]
  simp
 ); type_of% ?G)
/-- a for over singles, by its invariant -/
theorem s_each {i : Nat} {ds : List D} {kp : Kp} {b : Dst} (I : Nat → Ev → Hs → Prop) (h0 : I 0 r G) (hk : ∀ n r G, I n r G → kpOk kp G)
    (hs : ∀ (n : Nat) d r G, ds[n]? = some d → I n r G → Ws (b (r.set i (some d)) G) (I (n + 1)) R N (I (n + 1)) X) (he : ∀ r G, I ds.length r G → N r G) :
    Ws (forLoop (gN i) b kp (ds.map Im.one) r G) N R B C X := by
  refine ?G
  exact (by (intro h; exact h) : have h : (type_of% ?G) := (by
  refine ws_loop I h0 hk (fun n r' G' im e hI => ?_) (fun r' G' hI => he r' G' (by rw [List.length_map] at hI; with_unfolding_all exact hI))
  rw [List.getElem?_map] at e
  cases hd : ds[n]? with
  | none => rw [hd] at e; cases e
  | some d =>
    rw [hd] at e
    cases e
    with_unfolding_all exact ⟨_, rfl, hs n d r' G' hd hI⟩
 ); type_of% ?G)
theorem k_lst {ds : List D} {ts : List T} (hp : plain ds = some ts) (h : Q (.t (.lst ts)) G) : Wp (kLst ds G) Q E := by
  simp only [kLst, hp]; with_unfolding_all exact h
/-! ### calls -/
/-- a def that hands on no new object -/
theorem r_pop {n : Nat} {b : Dst} {ds : List D} (h : Ws (b (startE n ds) G) (fun _ G' => Cl G G' ∧ Q (.t .non) (G'.take G.length)) (fun x G' => Cl G G' ∧ ∃ e, popD G.length x G' = some e ∧ Q e (G'.take G.length)) (fun _ _ => False) (fun _ _ => False) (fun c ns es G' => Cl G G' ∧ ∃ es', popDs G.length es G' = some es' ∧ E c ns es' (G'.take G.length))) : Wp (runPop n b ds G) Q E := by
  rw [wp_pop]; with_unfolding_all exact h
theorem r_keep {n : Nat} {b : Dst} {ds : List D} (h : Ws (b (startE n ds) G) (fun _ G' => Q (.t .non) G') Q (fun _ _ => False) (fun _ _ => False) E) : Wp (runKeep n b ds G) Q E := by
  rw [wp_keep]; with_unfolding_all exact h
theorem r_pop' {n : Nat} {b : Dst} {ds : List D} {r0 : Ev} (hr : startE n ds = r0) (h : Ws (b r0 G) (fun _ G' => Cl G G' ∧ Q (.t .non) (G'.take G.length)) (fun x G' => Cl G G' ∧ ∃ e, popD G.length x G' = some e ∧ Q e (G'.take G.length)) (fun _ _ => False) (fun _ _ => False) (fun c ns es G' => Cl G G' ∧ ∃ es', popDs G.length es G' = some es' ∧ E c ns es' (G'.take G.length))) : Wp (runPop n b ds G) Q E := by with_unfolding_all exact r_pop (by rw [hr]; exact h)
theorem r_keep' {n : Nat} {b : Dst} {ds : List D} {r0 : Ev} (hr : startE n ds = r0) (h : Ws (b r0 G) (fun _ G' => Q (.t .non) G') Q (fun _ _ => False) (fun _ _ => False) E) : Wp (runKeep n b ds G) Q E := by with_unfolding_all exact r_keep (by rw [hr]; exact h)
/-- plain data is given back, nothing new stands in the heap -/
theorem Cl.refl : Cl G G := fun _ _ => .inl rfl
theorem Cl.app {H : Hs} : Cl G (G ++ H) := fun i hi => .inl (List.getElem?_append_left hi)
theorem p_ret {t : T} {G0 : Hs} (hn : G.length ≤ G0.length) (h : Q (.t t) G) (hc : Cl G0 G := by walk_at "cl") : Cl G0 G ∧ ∃ e, popD G0.length (.t t) G = some e ∧ Q e (G.take G0.length) := ⟨hc, _, rfl, by rw [List.take_of_length_le hn]; exact h⟩
end
end BL

set_option Elab.async false
set_option linter.all false
set_option maxRecDepth 100000
set_option maxHeartbeats 2000000
namespace BL
open PySem L2

/-! ### -x -/
def fNeg : D → Hs → Re
  | .t (.int i), G => .ok (.t (.int (-i))) G
  | _, _ => .stuck
/-! ### xs.pop(i), xs.insert(i, y) -/
def fPop : D → List D → Hs → Re := fun x ds G => match x, ds with
  | .loc j, [.t (.int i)] => (match G[j]? with
    | some (.lst es) => if 0 ≤ i ∧ i < 2 ^ 63 then (match es[i.toNat]? with
      | some y => .ok y (G.set j (.lst (es.eraseIdx i.toNat)))
      | none => .stuck) else .stuck
    | _ => .stuck)
  | _, _ => .stuck
def fIns : D → List D → Hs → Re := fun x ds G => match x, ds with
  | .loc j, [.t (.int i), y] => (match G[j]? with
    | some (.lst es) => if okIn j y = true ∧ es.length < 16777216 ∧ 0 ≤ i ∧ i < 2 ^ 63 then .ok (.t .non) (G.set j (.lst (es.take i.toNat ++ [y] ++ es.drop i.toNat))) else .stuck
    | _ => .stuck)
  | _, _ => .stuck
theorem RpDs.erase {g : Gm} {m : Nat → Addr} {n b : Nat} {H : Hp} : ∀ {ds : List D} {vs : List V} (k : Nat), RpDs g m n b H ds vs → RpDs g m n b H (ds.eraseIdx k) (vs.eraseIdx k)
  | [], vs, k, r => by cases r; simp [RpDs]
  | d :: ds, vs, 0, ⟨v, ws, e, h, r⟩ => by subst e; exact r
  | d :: ds, vs, k + 1, ⟨v, ws, e, h, r⟩ => by subst e; exact ⟨v, ws.eraseIdx k, rfl, h, RpDs.erase k r⟩
def rIns : V → List V → Hp → VK → Prop := fun x vs H Q => ∃ (l : Addr) (xs : List V) (i : Int) (y : V), x = .ref l ∧ vs = [.int i, y] ∧ H l = some (.lst xs) ∧ xs.length < sizeLine ∧ 0 ≤ i ∧ i < 2 ^ 63 ∧ Q .non (upd H l (.lst (xs.take i.toNat ++ [y] ++ xs.drop i.toNat)))
section
variable {Z : Zc} {o e e2 i : Expr} {do_ de de2 di : De} {apos cpos pos p : Pos}
theorem pd_neg (he : PD Z e de) : PD Z (.UnaryOp .USub e pos) (dUn fNeg de) := fun X W ok => by
  refine peI (pe_un un_neg (he X W ok)) fun σ H Q ⟨m, r, G, s, sl, p⟩ => ?_
  refine tI_bind s sl p fun x G1 v m1 H1 e1 x1 s1 sl1 rv p1 => ?_
  unfold fNeg at p1
  split at p1
  · cases rv; exact ⟨_, rfl, PostE.ok s1 p1 rfl⟩
  · exact p1.elim
end
/-! ### x in t, both data of any depth, t a tuple -/
def fInT (neg : Bool) : D → D → Hs → Re
  | .t x, .t (.tup ts), G => if cmpT x = true ∧ cmpTs ts = true ∧ min (deps ts) (dep x) ≤ 64 then .ok (.t (.bl (if neg then !ts.any (fun t => teq t x) else ts.any (fun t => teq t x)))) G else .stuck
  | _, _, _ => .stuck
def rInTN (K : PySem.W.Frag) (neg : Bool) : R2 := fun x y H Q => ∃ d ds, Dp K H x d ∧ Dp K H y (.tuple ds) ∧ d.canLay0 = true ∧ PyData.canLayAll0 ds = true ∧ min (PyData.depthAll ds) d.depth ≤ 64 ∧ Q (.bl (if neg then !ds.any (fun z => PyData.eqv z d) else ds.any (fun z => PyData.eqv z d))) H
section
variable {Z : Zc} {a b : Expr} {da db : De} {pos : Pos}
end
/-! ### C() -/
section
variable {Z : Zc} {x : Str} {F : Fd} {k c : Nat} {f : Addr} {fd : FuncData} {ps : List Str} {dts : List T} {dvs : List V} {dus : List Value} {pos p : Pos}
end
/-! ### tuples of texts that stand in the module -/
def tupB (K : PySem.W.Frag) (a : Addr) (zs : List Str) : Bool := match K.lookup a with
  | some ⟨.type t, _, .seq its _, _⟩ => decide (t = "tuple") && (decide (its.size ≤ sizeLine) && He.relAll (zs.map V.str) its.toList)
  | _ => false
section
variable {Z : Zc} {x : Str} {pos : Pos}
end
/-! ### list(range(e)) -/
def fRgL : D → Hs → Re
  | .t (.int n), G => if 0 ≤ n ∧ n ≤ 16777216 then .ok (.t (.lst ((List.range n.toNat).map fun i => T.int (i : Nat)))) G else .stuck
  | _, _ => .stuck
theorem rps_rg {g : Gm0} {B : Addr → Prop} {H : Hp} {f : Nat → Int} : ∀ (l : List Nat), Rps g B H (l.map fun i => T.int (f i)) (l.map fun i => V.int (f i))
  | [] => rfl
  | i :: l => ⟨_, _, rfl, rfl, rps_rg l⟩
section
variable {Z : Zc} {e : Expr} {d : De} {p pos p2 pos2 : Pos}
end
/-! ### a def whose code object is known, as a callee -/
theorem code_of {K : PySem.W.Frag} {x qual : Str} {st : Stmt} {dvs : List V} {p : He.Defn} {fd : FuncData} (Fn : FnE K x qual st dvs (He.fAd K p) fd) : fd.code = .ref (He.cT K p).1 := by
  obtain ⟨oc, od, dV, kV, doc, pm, an, cdv, ct, osl, rfl, lk, hcd, _, _⟩ := Fn.ex
  obtain ⟨c, e⟩ := He.codeIn_ref hcd
  subst e
  have := He.codeOf_eq (p := p) (c := c) lk rfl
  show Value.ref c = Value.ref (He.codeOf K p)
  rw [this]
/-! ### a Hook whose K holds the interpreter's statics, too -/
def asZ (g : Addr → Option Obj) (n : Nat) : List Addr := He.asD g n ++ [cStatics]
section
variable {n : Nat} {fa : List He.Fa} {fn : List He.DefD} {tf : List He.Defn} {ex : PySem.W.Frag → Bool}
def obsZ (n : Nat) (fa : List He.Fa) (fn : List He.DefD) (tf : List He.Defn) (ex : PySem.W.Frag → Bool) (g : Addr → Option Obj) : He.AlX :=
  let K := He.frT g (asZ g n)
  (He.obsT fa fn [] K, ex K && He.tabsB g tf K)
theorem says_at {w : World} {h : Heap} {as : List Addr} (e1 : He.obsT fa fn [] (He.frT h.get? as) = He.valT fn [] w) (e2 : (ex (He.frT h.get? as) && He.tabsB h.get? tf (He.frT h.get? as)) = true) : He.SaysX fa fn [] tf ex w h (He.frT h.get? as) := by
  refine ?G
  exact (by (intro h; exact h) : have h : (type_of% ?G) := (by
  obtain ⟨h1, h2⟩ := He.ba e2
  generalize hK : He.frT h.get? as = K at *
  have one : ∀ p ∈ tf, PySem.W.codeHdIn K (He.cT K p).1 (He.cT K p).2 = true ∧ ∃ o, h.get? (He.cT K p).2 = some o ∧ He.emptyTab o = true := by
    intro p hp
    have z := List.all_eq_true.mp h2 p hp
    obtain ⟨z1, z2⟩ := He.ba z
    split at z2
    · exact ⟨z1, _, by assumption, z2⟩
    · cases z2
  refine ⟨e1, h1, fun p hp => (one p hp).1, fun p hp => ?_, fun p hp => ?_⟩
  · obtain ⟨_, o, q, z⟩ := one p hp
    subst hK
    exact He.frT_none q z
  · obtain ⟨_, o, q, z⟩ := one p hp
    rw [q, He.emptyTab_eq z]
 ); type_of% ?G)
def hookZ (n : Nat) (fa : List He.Fa) (fn : List He.DefD) (tf : List He.Defn) (ex : PySem.W.Frag → Bool) : PySem.W.Hook where
  α := He.AlX
  obs := fun s => obsZ n fa fn tf ex s.heap.get?
  val := fun w => He.valX fn [] w
  says := fun w h => ∃ K : PySem.W.Frag, K.In h ∧ He.SaysX fa fn [] tf ex w h K
  of := fun _ _ e => ⟨_, He.frT_in, says_at (congrArg (fun z : He.AlX => z.1) e) (congrArg (fun z : He.AlX => z.2) e)⟩
  keeps := fun _ _ _ ⟨K, hK, c⟩ k => ⟨K, PySem.W.Frag.In.keeps hK k, ⟨c.t, c.more, c.hd, c.out, fun p hp => k _ _ (c.empty p hp)⟩⟩
end
end BL

set_option Elab.async false
set_option linter.all false
set_option maxRecDepth 100000
set_option maxHeartbeats 1000000
namespace BL
open PySem L2

/-! ### equality of plain data -/
mutual
/-- no truths, dicts, objects -/
def noB : T → Bool
  | .non => true | .int _ => true | .str _ => true
  | .tup ts => noBs ts | .lst ts => noBs ts
  | .bl _ => false | .dk _ _ => false | .obj _ _ _ => false | .ftp _ => false | .cls _ => false | .nd _ _ => false
def noBs : List T → Bool
  | [] => true
  | t :: ts => noB t && noBs ts
end
mutual
theorem teq_iff : ∀ a b : T, noB a = true → noB b = true → (PyData.eqv (toP a) (toP b) = true ↔ a = b)
  | .non, b, _, hb => by cases b <;> simp_all [toP, PyData.eqv, noB]
  | .int i, b, _, hb => by cases b <;> simp_all [toP, PyData.eqv, noB]
  | .str x, b, _, hb => by cases b <;> simp_all [toP, PyData.eqv, noB]
  | .tup ts, b, ha, hb => by
    cases b with
    | tup us =>
      have := teqs_iff ts us (by simpa [noB] using ha) (by simpa [noB] using hb)
      simp [toP, PyData.eqv, this]
    | _ => simp_all [toP, PyData.eqv, noB]
  | .lst ts, b, ha, hb => by
    cases b with
    | lst us =>
      have := teqs_iff ts us (by simpa [noB] using ha) (by simpa [noB] using hb)
      simp [toP, PyData.eqv, this]
    | _ => simp_all [toP, PyData.eqv, noB]
  | .bl b, _, ha, _ => by simp [noB] at ha
  | .dk _ _, _, ha, _ => by simp [noB] at ha
  | .obj _ _ _, _, ha, _ => by simp [noB] at ha
  | .ftp _, _, ha, _ => by simp [noB] at ha
  | .cls _, _, ha, _ => by simp [noB] at ha
  | .nd _ _, _, ha, _ => by simp [noB] at ha
theorem teqs_iff : ∀ a b : List T, noBs a = true → noBs b = true → (PyData.eqvAll (toPs a) (toPs b) = true ↔ a = b)
  | [], b, _, hb => by cases b <;> simp [toPs, PyData.eqvAll]
  | t :: ts, b, ha, hb => by
    cases b with
    | nil => simp [toPs, PyData.eqvAll]
    | cons u us =>
      simp only [noBs, Bool.and_eq_true] at ha hb
      have h1 := teq_iff t u ha.1 hb.1
      have h2 := teqs_iff ts us ha.2 hb.2
      simp [toPs, PyData.eqvAll, h1, h2]
end
mutual
theorem cmp_noB : ∀ t : T, noB t = true → cmpT t = true
  | .non, _ => rfl
  | .int _, _ => rfl
  | .str _, _ => rfl
  | .tup ts, h => by simp only [cmpT]; exact cmps_noB ts (by simpa [noB] using h)
  | .lst ts, h => by simp only [cmpT]; exact cmps_noB ts (by simpa [noB] using h)
  | .bl _, h => rfl
  | .dk _ _, h => by simp [noB] at h
  | .obj _ _ _, h => by simp [noB] at h
  | .ftp _, h => by simp [noB] at h
  | .cls _, h => by simp [noB] at h
  | .nd _ _, h => by simp [noB] at h
theorem cmps_noB : ∀ t : List T, noBs t = true → cmpTs t = true
  | [], _ => rfl
  | t :: ts, h => by
    simp only [noBs, Bool.and_eq_true] at h
    simp only [cmpTs, cmp_noB t h.1, cmps_noB ts h.2, Bool.and_self]
end
theorem noBs_iff {ts : List T} : noBs ts = true ↔ ∀ t ∈ ts, noB t = true := by
  induction ts with
  | nil => simp [noBs]
  | cons t ts ih => simp [noBs, ih]
theorem deps_le {ts : List T} {n : Nat} (h : ∀ t ∈ ts, dep t ≤ n) : deps ts ≤ n := by
  induction ts with
  | nil => simp [deps]
  | cons t ts ih =>
    simp only [deps]
    have h1 := h t (.head _)
    have h2 := ih fun u hu => h u (.tail _ hu)
    omega
/-- == of data without truths -/
theorem f_eqT {Q : D → Hs → Prop} {E : XP} {x y : D} {G : Hs} {neg : Bool} {a b : T} (h1 : asD G x = some a) (h2 : asD G y = some b) (ha : noB a = true) (hb : noB b = true) (hd : dep a ≤ 64) (h : ∀ t : Bool, (t = true ↔ (if neg then a ≠ b else a = b)) → Q (.t (.bl t)) G) : Wp (fEq neg x y G) Q E := by
  refine ?G
  exact (by (intro h; exact h) : have h : (type_of% ?G) := (by
  refine f_eq h1 h2 ?_ (h _ ?_)
  · unfold eqOk
    rw [cmp_noB a ha, cmp_noB b hb]
    simp only [Bool.and_self, Bool.true_and, decide_eq_true_eq]
    omega
  · have := teq_iff a b ha hb
    unfold teq
    cases neg
    · simpa using this
    · simp [← this]
 ); type_of% ?G)
theorem noB_ints (ws : List Int) : noBs (ws.map T.int) = true := noBs_iff.mpr (by simp; intro a _; rfl)
theorem dep_ints (ws : List Int) : deps (ws.map T.int) = 0 := Nat.le_zero.mp (deps_le (by simp; intro a _; rfl))
theorem atI_ok {α : Type} {xs : List α} {i : Int} (h0 : 0 ≤ i) (h1 : i < xs.length) : ∃ x, xs[i.toNat]? = some x ∧ atI xs i = some x := by
  have hn : i.toNat < xs.length := by omega
  refine ⟨xs[i.toNat], List.getElem?_eq_getElem hn, ?_⟩
  unfold atI ixN
  rw [if_pos h0, if_pos h1]
  exact List.getElem?_eq_getElem hn
/-! ### places in the heap -/
theorem gSet {G : Hs} {p : Nat} {o o' : O} (h : G[p]? = some o') : (G.set p o)[p]? = some o := by
  have := (List.getElem?_eq_some_iff.mp h).1
  rw [List.getElem?_set_self this]
theorem gApp {G H : Hs} {p : Nat} {o : O} (h : G[p]? = some o) : (G ++ H)[p]? = some o := by
  have := (List.getElem?_eq_some_iff.mp h).1
  rw [List.getElem?_append_left this]; exact h
theorem gNew {G : Hs} {o : O} : (G ++ [o])[G.length]? = some o := by simp
theorem gLt {G : Hs} {p : Nat} {o : O} (h : G[p]? = some o) : p < G.length := (List.getElem?_eq_some_iff.mp h).1
/-- the same but for what stands at p -/
def Fr (p : Nat) (G G' : Hs) : Prop := G'.length = G.length ∧ ∀ i, i ≠ p → G'[i]? = G[i]?
theorem Fr.refl {p : Nat} {G : Hs} : Fr p G G := ⟨rfl, fun _ _ => rfl⟩
theorem Fr.trans {p : Nat} {G G' G2 : Hs} (a : Fr p G G') (b : Fr p G' G2) : Fr p G G2 := ⟨b.1.trans a.1, fun i h => (b.2 i h).trans (a.2 i h)⟩
theorem Fr.set {p : Nat} {G : Hs} {o : O} : Fr p G (G.set p o) := ⟨by simp, fun i h => by rw [List.getElem?_set_ne (Ne.symm h)]⟩
theorem Fr.get {p i : Nat} {G G' : Hs} (a : Fr p G G') (h : i ≠ p) {o : O} (e : G[i]? = some o) : G'[i]? = some o := by rw [a.2 i h]; exact e
end BL

set_option Elab.async false
set_option linter.all false
set_option maxRecDepth 100000
set_option maxHeartbeats 1000000
namespace BL
open PySem L2
section
variable {Q : D → Hs → Prop} {E : XP} {N : NP} {R : TP} {B C : NP} {X : XP} {d x y z : D} {G : Hs} {r : Ev}
abbrev dS (w : Str) : D := .t (.str w)
abbrev dI (i : Int) : D := .t (.int i)
theorem asS_or {ds : List D} (h : asS G d = some ds) : asT d = some ds ∨ (asT d = none ∧ asL G d = some ds) := by
  unfold asS at h
  cases e : asT d with
  | some es => rw [e] at h; left; exact h
  | none => rw [e] at h; right; exact ⟨rfl, h⟩
theorem asS_loc {i : Nat} {ds : List D} (h : G[i]? = some (.lst ds)) : asS G (.loc i) = some ds := by
  simp only [asS, asT, asL, h]
theorem asS_tup {ts : List T} : asS G (.t (.tup ts)) = some (ts.map D.t) := rfl
theorem asS_lst {ts : List T} : asS G (.t (.lst ts)) = some (ts.map D.t) := rfl
theorem kpL {G' : Hs} (h : ∀ i, x = .loc i → G'[i]? = G[i]?) : kpOk (kpOf G x) G' := by
  intro i o e
  unfold kpOf at e
  split at e
  · next i' =>
    cases q : G[i']? with
    | none => rw [q] at e; cases e
    | some o' => rw [q] at e; simp at e; obtain ⟨rfl, rfl⟩ := e; rw [h _ rfl]; exact q
  · cases e
theorem i_S' {a : De} {P : List Im → Kp → Hs → Prop} (h : Wp (a r G) (fun x G1 => ∃ ds, asS G1 x = some ds ∧ ∀ kp, (∀ G', (∀ i, x = .loc i → G'[i]? = G1[i]?) → kpOk kp G') → P (ds.map Im.one) kp G1) E) : Wi (iS a r G) P E := by
  apply i_S
  refine e_cut _ h (fun x G1 h => ?_)
  obtain ⟨ds, h1, h2⟩ := h
  refine ⟨ds, ?_⟩
  rcases asS_or h1 with q | ⟨q, q2⟩
  · exact .inl ⟨q, h2 _ fun _ _ => kp_none⟩
  · exact .inr ⟨q, q2, h2 _ fun G' hs => kpL hs⟩
theorem i_En' {a : De} {P : List Im → Kp → Hs → Prop} (h : Wp (a r G) (fun x G1 => ∃ ds, asS G1 x = some ds ∧ ∀ kp, (∀ G', (∀ i, x = .loc i → G'[i]? = G1[i]?) → kpOk kp G') → P (enumIms ds) kp G1) E) : Wi (iEn a r G) P E := by
  apply i_En
  refine e_cut _ h (fun x G1 h => ?_)
  obtain ⟨ds, h1, h2⟩ := h
  refine ⟨ds, ?_⟩
  rcases asS_or h1 with q | ⟨q, q2⟩
  · exact .inl ⟨q, h2 _ fun _ _ => kp_none⟩
  · exact .inr ⟨q, q2, h2 _ fun G' hs => kpL hs⟩
theorem cut_take {α : Type} (xs : List α) (n : Nat) : cutA xs none (some (n : Int)) = xs.take n := by
  unfold cutA
  rw [HT.sIx_none, HT.sIx_nat]
  simp
/-- all([.. for x in ..]) -/
theorem e_all {own : List Nat} {di : Di} {i : Nat} {elt : De} (p : D → Bool) (h : Wi (di r G) (fun its kp G1 => G1 = G ∧ kpOk kp G ∧ ∃ ds : List D, its = ds.map Im.one ∧ (∀ d ∈ ds, ∀ Q' : D → Hs → Prop, Q' (.t (.bl (p d))) G → Wp (elt ((wipeE r own).set i (some d)) G) Q' (fun _ _ _ _ => False)) ∧ Q (.t (.bl (ds.all p))) G) E) : Wp (dArgs [compRun own di (gN i) dYes elt kLst] fAll r G) Q E := by
  refine ?G
  exact (by (intro h; exact h) : have h : (type_of% ?G) := (by
  apply e_args1
  apply e_comp
  cases e : di r G with
  | stuck => rw [e] at h; with_unfolding_all exact h
  | exc c ns ds G1 => rw [e] at h; with_unfolding_all exact h
  | ok its kp G1 =>
    rw [e] at h
    simp only [Wi] at h ⊢
    obtain ⟨rfl, hk, ds, rfl, hs, hq⟩ := h
    refine c_map (f := fun d => .t (.bl (p d))) hk hs ?_
    have e1 : (ds.map fun d => D.t (.bl (p d))) = (ds.map fun d => T.bl (p d)).map D.t := by rw [List.map_map]; rfl
    rw [e1]
    refine k_lst (plain_map _) ?_
    have e2 : (ds.map fun d => T.bl (p d)).map D.t = (ds.map p).map fun b => D.t (.bl b) := by rw [List.map_map, List.map_map]; rfl
    refine f_all (ds := (ds.map fun d => T.bl (p d)).map D.t) rfl (by rw [e2]; exact bools_map _) ?_
    rw [List.all_map]
    exact hq
 ); type_of% ?G)
theorem setNew {G : Hs} {o o' : O} : (G ++ [o]).set G.length o' = G ++ [o'] := by
  simp
theorem takeNew {G H : Hs} : (G ++ H).take G.length = G := by simp
end
end BL

set_option Elab.async false
set_option linter.all false
set_option maxRecDepth 100000
set_option maxHeartbeats 1000000
namespace BL
open PySem L2
section
variable {Q : D → Hs → Prop} {E : XP} {N : NP} {R : TP} {B C : NP} {X : XP} {d x y z : D} {G : Hs} {r : Ev}
/-! ### more steps -/
theorem f_neg {i : Int} (h : Q (.t (.int (-i))) G) : Wp (fNeg (.t (.int i)) G) Q E := by with_unfolding_all exact h
theorem s_raise1 {c : Nat} {ns : List Str} {a : De} (h : Wp (a r G) (fun x G1 => X c ns.reverse [x] G1) X) : Ws (dRaise c ns [a] r G) N R B C X := by
  unfold dRaise
  rw [ws_thn, wp_args]
  refine h.mono (fun x G1 h => ?_) fun _ _ _ _ z => z
  rw [wp_args0, wp_exc]
  exact h
theorem s_raise2 {c : Nat} {ns : List Str} {a b : De} (h : Wp (a r G) (fun x G1 => Wp (b r G1) (fun y G2 => X c ns.reverse [y, x] G2) X) X) : Ws (dRaise c ns [a, b] r G) N R B C X := by
  unfold dRaise
  rw [ws_thn, wp_args]
  refine h.mono (fun x G1 h => ?_) fun _ _ _ _ z => z
  rw [wp_args]
  refine h.mono (fun y G2 h => ?_) fun _ _ _ _ z => z
  rw [wp_args0, wp_exc]
  exact h
theorem s_raise3 {c : Nat} {ns : List Str} {a b e : De} (h : Wp (a r G) (fun x G1 => Wp (b r G1) (fun y G2 => Wp (e r G2) (fun z G3 => X c ns.reverse [z, y, x] G3) X) X) X) : Ws (dRaise c ns [a, b, e] r G) N R B C X := by
  unfold dRaise
  rw [ws_thn, wp_args]
  refine h.mono (fun x G1 h => ?_) fun _ _ _ _ z => z
  rw [wp_args]
  refine h.mono (fun y G2 h => ?_) fun _ _ _ _ z => z
  rw [wp_args]
  refine h.mono (fun z G3 h => ?_) fun _ _ _ _ z => z
  rw [wp_args0, wp_exc]
  exact h
theorem e_fault {hs : List Hdl} {db : De} (h : Wp (db r G) (fun _ G' => Q (.t .non) G') (fun c ns ds G' => Wp (catchD c ns ds G' hs) Q E)) : Wp (dFault hs db r G) Q E := by
  unfold dFault
  cases e : db r G with
  | ok d G' => rw [e] at h; rw [wp_ok] at h; exact e_ok h
  | exc c ns ds G' => rw [e] at h; rw [wp_exc] at h; exact h
  | stuck => rw [e] at h; rw [wp_stuck] at h; exact h.elim
/-- a catch of plain fields: what is caught is told -/
theorem f_catch {hs : List Hdl} {c : Nat} {ns : List Str} {ds : List D} {t : T} (e : ∀ G, catchD c ns ds G hs = .ok (.t t) G) (h : Q (.t t) G) : Wp (catchD c ns ds G hs) Q E := by rw [e]; exact e_ok h
theorem f_nnT (h : Q (.t (.bl false)) G) : Wp (fIsN true (.t .non) (.t .non) G) Q E := by with_unfolding_all exact h
theorem f_nnF (h : Q (.t (.bl true)) G) : Wp (fIsN false (.t .non) (.t .non) G) Q E := by with_unfolding_all exact h
theorem f_nonI {neg : Bool} {i : Int} (h : Q (.t (.bl neg)) G) : Wp (fIsN neg (.t (.int i)) (.t .non) G) Q E := by with_unfolding_all exact h
theorem f_app {i : Nat} {es : List D} {y : D} (h : G[i]? = some (.lst es)) (h1 : okIn i y = true) (h2 : es.length < 16777216) (k : Q (.t .non) (G.set i (.lst (es ++ [y])))) : Wp (fApp (.loc i) [y] G) Q E := by
  have e : fApp (.loc i) [y] G = .ok (.t .non) (G.set i (.lst (es ++ [y]))) := by simp only [fApp, h, h1, h2, and_self, if_true]
  rw [e]; exact e_ok k
theorem isL_loc {i : Nat} {es : List D} (h : G[i]? = some (.lst es)) : isL G (.loc i) = true := by simp [isL, asL, h]
theorem f_slL {ts : List T} {lo hi : Option Int} (h : Q (.t (.lst (cutA ts lo hi))) G) : Wp (fSl (.t (.lst ts)) lo hi G) Q E := by
  have e : fSl (.t (.lst ts)) lo hi G = .ok (.t (.lst (cutA ts lo hi))) G := by simp only [fSl, asL, plain_map]
  rw [e]; exact e_ok h
theorem f_min {i j : Int} (h : Q (.t (.int (if j < i then j else i))) G) : Wp (fMin [.t (.int i), .t (.int j)] G) Q E := e_ok h
theorem f_inI {i : Int} {is : List Int} (h : asS G y = some (is.map dI)) (k : Q (.t (.bl (decide (i ∈ is)))) G) : Wp (fIn false (.t (.int i)) y G) Q E := by
  refine ?G
  exact (by (intro h; exact h) : have h : (type_of% ?G) := (by
  have e : plain (is.map dI) = some (is.map T.int) := by
    have := plain_map (is.map T.int)
    rw [List.map_map] at this
    exact this
  have e1 : flatTs (is.map T.int) = true := by
    clear h k e
    induction is with
    | nil => rfl
    | cons v is ih => simp [flatTs, flatT, ih]
  have e2 : (is.map T.int).any (fun t => teq t (.int i)) = decide (i ∈ is) := by
    clear h k e e1
    induction is with
    | nil => rfl
    | cons v is ih =>
      rw [List.map_cons, List.any_cons, ih, teqI, Bool.eq_iff_iff]
      simp only [Bool.or_eq_true, decide_eq_true_eq, List.mem_cons]
      constructor
      · rintro (h | h)
        · exact .inl h.symm
        · exact .inr h
      · rintro (h | h)
        · exact .inl h.symm
        · exact .inr h
  have e3 : fIn false (.t (.int i)) y G = .ok (.t (.bl (decide (i ∈ is)))) G := by
    cases y with
    | loc j => simp only [fIn, h, e, e1, e2, flatT, and_self, if_true, Bool.false_eq_true, if_false]
    | t u => cases u <;> first | (simp [asS, asT, asL] at h; done) | simp only [fIn, h, e, e1, e2, flatT, and_self, if_true, Bool.false_eq_true, if_false]
  rw [e3]; exact e_ok k
 ); type_of% ?G)
theorem f_eqO {c : Nat} {oth : List Nat} {neg : Bool} {F : Fd} (h1 : isObj' c G x = true) (h2 : okKd c oth (kind G y) = true) (h : Wp (F [x, y] G) (fun d G' => ∃ b, d = .t (.bl b) ∧ Q (.t (.bl (if neg then !b else b))) G') (fun _ _ _ _ => False)) : Wp (fEqO c oth neg F x y G) Q E := by
  unfold fEqO
  rw [if_pos (by rw [h1, h2]; rfl)]
  obtain ⟨d, G', e, b, rfl, hq⟩ := h.ex
  rw [e]
  exact e_ok hq
theorem takeAll {G : Hs} {o o' : O} : (G ++ [o]).take (G ++ [o']).length = G ++ [o] := List.take_of_length_le (by rw [List.length_append, List.length_append]; exact Nat.le_refl _)
end
end BL

set_option Elab.async false
set_option linter.all false
set_option maxRecDepth 100000
set_option maxHeartbeats 2000000
namespace BL
open PySem L2

/-! ### what isinstance asks of an own error class, as one check -/
def xcB (K : PySem.W.Frag) (D : Addr) : Bool := L2.xfB K D && (decide (PySem.W.findIn K (.ref D) "__class__" = some (some (.builtin "object.__class__"))) && (decide (PySem.W.specialIn K (.builtin "object.__class__") "__get__" = some (some (.builtin "getset_descriptor.__get__"))) && (decide (PySem.W.takesIn K (.builtin "object.__class__") = some true) && decide (PySem.W.mroIn K D (.type "object") = some true))))
/-! ### [*e, x] -/
def rowOf : D → Option (List T)
  | .t (.tup ts) => some ts
  | .t (.lst ts) => some ts
  | .t (.ftp ts) => some ts
  | _ => none
def fSnoc (ts : List T) : D → Hs → Re
  | .t u, G => if ts.length + 1 ≤ sizeLine then .ok (.t (.lst (ts ++ [u]))) G else .stuck
  | _, _ => .stuck
def dSnoc (da db : De) : De := fun r G => (da r G).bind fun x G1 => match rowOf x with
  | some ts => (db r G1).bind fun y G2 => fSnoc ts y G2
  | none => .stuck
theorem Rps.app {g : Gm0} {B : Addr → Prop} {H : Hp} : ∀ {ts us : List T} {xs ys : List V}, Rps g B H ts xs → Rps g B H us ys → Rps g B H (ts ++ us) (xs ++ ys)
  | [], _, _, _, h, k => by cases h; exact k
  | t :: ts, _, _, _, ⟨v, vs, e, h, r⟩, k => ⟨v, vs ++ _, by rw [e]; rfl, h, Rps.app r k⟩
/-! a value that was made besides changes nothing -/
theorem PostE.ex {g : Gm} {W : WX} {m m1 : Nat → Addr} {G : Hs} {H H1 : Hp} {σ : St} {Q : VK} {e : Re} (x : Ex m G.length H m1 G.length H1) (s : SR g m1 H1 G) (p : PostE g W m G.length H σ Q e) : PostE g W m1 G.length H1 σ Q e := by
  cases e with
  | ok d G' => exact fun v m' H' x' s' rv => p v m' H' (x.trans s x') s' rv
  | exc c ns ds G' => exact fun da m' H' xs x' s' hd nb rs => p da m' H' xs (x.trans s x') s' hd nb rs
  | stuck => exact p
section
variable {Z : Zc} {a b : Expr} {da db : De} {p pos pos2 : Pos}
/-! ### [e] * n -/
def fRep : D → D → Hs → Re
  | .t u, .t (.int k), G => if 0 ≤ k ∧ k ≤ 16777216 then .ok (.t (.lst (List.replicate k.toNat u))) G else .stuck
  | _, _, _ => .stuck
end
/-! ### read backwards -/
section
variable {Q : D → Hs → Prop} {E : XP} {N : NP} {R : TP} {B C : NP} {X : XP} {d x y z : D} {G : Hs} {r : Ev}
theorem e_met {tag : Str} {hs : List Hdl} {db : De} (h : Wp (db r G) (fun d G' => ∃ t, d = .t t ∧ Q (.t (.tup [.str tag, t])) G') (fun c ns ds G' => Wp (catchD c ns ds G' hs) Q E)) : Wp (dMet tag hs db r G) Q E := by
  unfold dMet
  cases e : db r G with
  | ok d G' =>
    rw [e] at h
    rw [wp_ok] at h
    obtain ⟨t, rfl, h⟩ := h
    exact e_ok h
  | exc c ns ds G' => rw [e] at h; rw [wp_exc] at h; exact h
  | stuck => rw [e] at h; rw [wp_stuck] at h; exact h.elim
end
/-! ### a value is equal to itself -/
mutual
theorem eqv_self : ∀ t : T, cmpT t = true → PyData.eqv (toP t) (toP t) = true
  | .non, _ => by simp [toP, PyData.eqv]
  | .bl _, _ => by simp [toP, PyData.eqv]
  | .int _, _ => by simp [toP, PyData.eqv]
  | .str _, _ => by simp [toP, PyData.eqv]
  | .tup ts, h => by simp only [toP, PyData.eqv]; exact eqvs_self ts (by simpa [cmpT] using h)
  | .ftp ts, h => by simp only [toP, PyData.eqv]; exact eqvs_self ts (by simpa [cmpT] using h)
  | .cls _, h => by simp [cmpT] at h
  | .nd _ _, h => by simp [cmpT] at h
  | .lst ts, h => by simp only [toP, PyData.eqv]; exact eqvs_self ts (by simpa [cmpT] using h)
  | .dk _ _, h => by simp [cmpT] at h
  | .obj _ _ _, h => by simp [cmpT] at h
theorem eqvs_self : ∀ t : List T, cmpTs t = true → PyData.eqvAll (toPs t) (toPs t) = true
  | [], _ => by simp [toPs, PyData.eqvAll]
  | t :: ts, h => by
    simp only [cmpTs, Bool.and_eq_true] at h
    simp only [toPs, PyData.eqvAll, eqv_self t h.1, eqvs_self ts h.2, Bool.and_self]
end
section
variable {Q : D → Hs → Prop} {E : XP} {G : Hs}
end
end BL

set_option Elab.async false
set_option linter.all false
set_option maxRecDepth 100000
set_option maxHeartbeats 2000000
namespace BL
open PySem PySem.Spec PyProof.Rows L2

/-! ### zip(x, y), each a tuple or a list -/
/-- a tuple (t) or a list -/
def SqK (t : Bool) (K : PySem.W.Frag) (H : Hp) (a : Addr) (xs : List V) : Prop := if t = true then SqT K H a xs else SqL K H a xs
def ItrK (t : Bool) (h : Heap) (it l : Addr) (i : Nat) : Prop := if t = true then h.IsTupleIter it l i else h.IsListIter it l i
def SeqK (t : Bool) (h : Heap) (l : Addr) (vs : Array Value) : Prop := if t = true then h.IsTuple l vs else h.IsList l vs
def ItzG (K : PySem.W.Frag) (t u : Bool) (a b : Addr) : It where
  go := fun i H => ∃ (xs ys : List V) (x y : V), SqK t K H a xs ∧ SqK u K H b ys ∧ xs[i]? = some x ∧ ys[i]? = some y
  yld := fun i H v H' => ∃ T x y, v = .ref T ∧ H T = none ∧ H' = upd H T (.tup [x, y]) ∧ (∀ xs, SqK t K H a xs → xs[i]? = some x) ∧ ∀ ys, SqK u K H b ys → ys[i]? = some y
  stop := fun i H => ∃ xs ys : List V, SqK t K H a xs ∧ SqK u K H b ys ∧ i ≤ xs.length ∧ i ≤ ys.length ∧ (i = xs.length ∨ i = ys.length)
def iZipG (K : PySem.W.Frag) (ta : TA) : TI := fun σ H R => ta σ H fun vs H1 => ∃ t u a b xs ys, vs = [.ref a, .ref b] ∧ SqK t K H1 a xs ∧ SqK u K H1 b ys ∧ R (ItzG K t u a b) H1
/-! ### .. of plain rows -/
def zipIms (xs ys : List T) : List Im := List.zipWith (fun a b => Im.two (.t a) (.t b)) xs ys
def iZip (da db : De) : Di := fun r G => (da r G).itr fun x G1 => match rowOf x with
  | none => .stuck
  | some xs => (db r G1).itr fun y G2 => match rowOf y with
    | none => .stuck
    | some ys => .ok (zipIms xs ys) none G2
/-- the kind of a plain row is fixed -/
def tupOf : D → Bool
  | .t (.tup _) => true
  | .t (.ftp _) => true
  | _ => false
section
variable {Z : Zc} {e e2 : Expr} {da db : De} {p pos tpos : Pos} {elts : List Expr} {kk : Nat}
end
end BL

set_option Elab.async false
set_option linter.all false
set_option maxRecDepth 100000
set_option maxHeartbeats 2000000
namespace BL
open PySem PySem.Spec PyProof.Rows L2

/-! ### tuple(x): a tuple that is known to have no dict -/
def fTupF : List D → Hs → Re
  | [.t (.ftp ts)], G => .ok (.t (.ftp ts)) G
  | [.t (.tup ts)], G => .ok (.t (.tup ts)) G
  | [d], G => (match asL G d with
    | some ds => (match plain ds with
      | some ts => .ok (.t (.ftp ts)) G
      | none => .stuck)
    | none => .stuck)
  | _, _ => .stuck
section
variable {Z : Zc} {e : Expr} {d : De} {p pos : Pos}
end
/-! ### t.index(x), a tuple of words that has no dict -/
def fzT (x : V) (H : Hp) : Prop := ∃ a ob xs, x = .ref a ∧ H a = some (.frz ob (.tup xs)) ∧ ob.dict = none
def tTix (q : V → List V → Hp → VK → Prop) (to : TE) (t : TA) : TE := fun σ H Q => to σ H fun x H1 => fzT x H1 ∧ t σ H1 fun xs H2 => q x xs H2 Q
def isTp (G : Hs) : D → Bool
  | .t (.ftp _) => true
  | _ => false
def fTix : D → List D → Hs → Re
  | .t (.ftp ts), [.t (.str z)], G => (match strsT (ts.map D.t) with
    | some ys => (match ys.findIdx? (· == z) with
      | some j => .ok (.t (.int (j : Nat))) G
      | none => .stuck)
    | none => .stuck)
  | _, _, _ => .stuck
section
variable {Z : Zc} {o e : Expr} {do_ de : De} {apos cpos : Pos}
end
/-! ### min(xs), max(xs) of a list of ints -/
def intsT : List D → Option (List Int)
  | [] => some []
  | .t (.int i) :: ds => (match intsT ds with
    | some is => some (i :: is)
    | none => none)
  | _ => none
theorem ints_map : ∀ is : List Int, intsT (is.map dI) = some is
  | [] => rfl
  | i :: is => by simp [intsT, ints_map is]
theorem ints_rp {g : Gm} {m : Nat → Addr} {n b : Nat} {H : Hp} : ∀ {ds : List D} {is : List Int} {xs : List V}, intsT ds = some is → RpDs g m n b H ds xs → xs = is.map V.int
  | [], is, xs, e, r => by cases e; cases r; rfl
  | d :: ds, is, xs, e, ⟨v, ws, e1, h, r⟩ => by
    cases d with
    | loc i => cases e
    | t t =>
      cases t with
      | int i =>
        simp only [intsT] at e
        cases e2 : intsT ds with
        | none => rw [e2] at e; cases e
        | some js => rw [e2] at e; cases e; rw [e1, ints_rp e2 r, show v = .int i from h]; rfl
      | _ => cases e
def leastI : List Int → Option Int
  | [] => none
  | a :: l => some (l.foldl (fun x y => if y < x then y else x) a)
def mostI : List Int → Option Int
  | [] => none
  | a :: l => some (l.foldl (fun x y => if x < y then y else x) a)
def fMinL : List D → Hs → Re
  | [d], G => (match asL G d with
    | some ds => (match intsT ds with
      | some is => (match leastI is with
        | some m => .ok (.t (.int m)) G
        | none => .stuck)
      | none => .stuck)
    | none => .stuck)
  | _, _ => .stuck
def fMaxL : List D → Hs → Re
  | [d], G => (match asL G d with
    | some ds => (match intsT ds with
      | some is => (match mostI is with
        | some m => .ok (.t (.int m)) G
        | none => .stuck)
      | none => .stuck)
    | none => .stuck)
  | _, _ => .stuck
section
variable {Z : Zc} {e : Expr} {d : De} {p pos : Pos}
end
/-! ### read backwards -/
section
variable {Q : D → Hs → Prop} {E : XP} {G : Hs} {d : D} {r : Ev}
theorem asS_ftp {ts : List T} : asS G (.t (.ftp ts)) = some (ts.map D.t) := rfl
theorem ixN_nat {n k : Nat} (h : k < n) : ixN n (k : Int) = some k := by
  unfold ixN
  rw [if_pos (by omega), if_pos (by omega)]
  simp
theorem atI_nat {α : Type} {xs : List α} {k : Nat} {x : α} (h : xs[k]? = some x) : atI xs (k : Int) = some x := by
  unfold atI
  rw [ixN_nat (getLt h)]
  exact h
end
end BL

set_option Elab.async false
set_option linter.all false
set_option maxRecDepth 100000
set_option maxHeartbeats 2000000
namespace BL
open PySem L2
section
variable {Q : D → Hs → Prop} {E : XP} {G : Hs} {d : D} {r : Ev}
theorem f_lenF {ts : List T} (h : Q (.t (.int ts.length)) G) : Wp (fLen [.t (.ftp ts)] G) Q E := by
  refine f_len asS_ftp ?_
  rw [List.length_map]; exact h
end
end BL

set_option Elab.async false
set_option linter.all false
set_option maxRecDepth 100000
set_option maxHeartbeats 2000000
namespace BL
open PySem L2

/-! ### a property, and its getter as the head finds it -/
/-- where the property stands, where its getter stands -/
def prpAd (K : PySem.W.Frag) (q : Str × Str) : Addr := match PySem.W.findIn K (.ref (He.ga K q.1)) q.2 with
  | some (some (.ref p)) => p
  | _ => 0
def getAd (K : PySem.W.Frag) (q : Str × Str) : Addr := match PySem.W.recIn K (prpAd K q) "property" with
  | some (.ref g :: _) => g
  | _ => match PySem.W.recIn K (prpAd K q) "classmethod" with
    | some (.ref g :: _) => g
    | _ => 0
def prpB (K : PySem.W.Frag) (q : Str × Str) : Bool := He.eqO (PySem.W.findIn K (.ref (He.ga K q.1)) q.2) (some (some (.ref (prpAd K q)))) && (He.eqO (PySem.W.specialIn K (.ref (prpAd K q)) "__get__") (some (some (.builtin "property.__get__"))) &&
  (decide (PySem.W.takesIn K (.ref (prpAd K q)) = some true) && (match PySem.W.recIn K (prpAd K q) "property" with
    | some (.ref g :: _) => decide (g = getAd K q)
    | _ => false)))
theorem prpB_ok {K : PySem.W.Frag} {q : Str × Str} (h : prpB K q = true) : PropOf K (He.ga K q.1) q.2 (prpAd K q) (getAd K q) := by
  obtain ⟨h1, h⟩ := He.ba h
  obtain ⟨h2, h⟩ := He.ba h
  obtain ⟨h3, h4⟩ := He.ba h
  refine ⟨He.eqO_ok h1, He.eqO_ok h2, of_decide_eq_true h3, ?_⟩
  split at h4
  · rename_i g rest e
    have eg := of_decide_eq_true h4
    exact ⟨rest, by rw [e, eg]⟩
  · cases h4
/-- what the getter is -/
def getW (K : PySem.W.Frag) (q : Str × Str) : He.FnW := match K.lookup (getAd K q) with
  | some ⟨_, _, .func u, _⟩ => some (u.name, u.qualname, u.params, u.body, u.scope, u.globals, u.closure, u.builtins)
  | _ => none
def isNon : Value → Bool
  | .none => true
  | _ => false
abbrev Getr := (Str × Str) × He.DefD
def getB (K : PySem.W.Frag) (q : Getr) : Bool := PySem.W.keepIn K (.ref (getAd K q.1)) && (match K.lookup (getAd K q.1) with
  | some ⟨_, _, .func u, _⟩ => PySem.W.codeIn K u.code q.2.qual && isNon u.defaults
  | _ => false)
theorem getr_fn {K : PySem.W.Frag} {q : Getr} (e : getW K q.1 = q.2.val) (c : getB K q = true) : ∃ fd, FunD K q.2.name q.2.qual q.2.params q.2.body q.2.scope [] [] (getAd K q.1) fd := by
  refine ?G
  exact (by (intro h; exact h) : have h : (type_of% ?G) := (by
  obtain ⟨kp, c⟩ := He.ba c
  unfold getW at e
  cases lk : K.lookup (getAd K q.1) with
  | none => rw [lk] at c; cases c
  | some o =>
    obtain ⟨oc, od, dt, osl⟩ := o
    rw [lk] at c e
    cases dt with
    | func u =>
      obtain ⟨u1, u2, u3, u4, u5, u6, u7, u8, u9, u10, u11, u12, u13, u14, u15⟩ := u
      have ev : (some (u1, u2, u3, u4, u5, u6, u7, u15) : He.FnW) = some (q.2.name, q.2.qual, q.2.params, .stmts q.2.body, q.2.scope, mainGlobals, [], builtinsNs) := e
      simp only [Option.some.injEq, Prod.mk.injEq] at ev
      obtain ⟨e1, e2, e3, e4, e5, e6, e7, e8⟩ := ev
      subst e1 e2 e3 e4 e5 e6 e7 e8
      have c' : (PySem.W.codeIn K u13 q.2.qual && isNon u8) = true := c
      obtain ⟨c1, c2⟩ := He.ba c'
      cases u8 with
      | none => exact ⟨_, ⟨oc, od, .none, u9, u10, u11, u12, u13, u14, osl, rfl, lk, c1, .inl ⟨rfl, rfl⟩, .inl rfl⟩, kp⟩
      | _ => cases c2
    | _ => cases c
 ); type_of% ?G)
/-! ### the Hook with getters -/
section
variable {n : Nat} {fa : List He.Fa} {fn : List He.DefD} {tf : List He.Defn} {gs : List Getr} {ex : PySem.W.Frag → Bool}
abbrev AlP : Type := He.AlX × List He.FnW
def obsP (n : Nat) (fa : List He.Fa) (fn : List He.DefD) (tf : List He.Defn) (gs : List Getr) (ex : PySem.W.Frag → Bool) (g : Addr → Option Obj) : AlP := (obsZ n fa fn tf ex g, gs.map fun q => getW (He.frT g (asZ g n)) q.1)
def hookP (n : Nat) (fa : List He.Fa) (fn : List He.DefD) (tf : List He.Defn) (gs : List Getr) (ex : PySem.W.Frag → Bool) : PySem.W.Hook where
  α := AlP
  obs := fun s => obsP n fa fn tf gs ex s.heap.get?
  val := fun w => (He.valX fn [] w, gs.map fun q : Getr => He.DefD.val q.2)
  says := fun w h => ∃ K : PySem.W.Frag, K.In h ∧ He.SaysX fa fn [] tf ex w h K ∧ (gs.map fun q : Getr => getW K q.1) = gs.map fun q : Getr => He.DefD.val q.2
  of := fun _ _ e => ⟨_, He.frT_in, says_at (congrArg (fun z : AlP => z.1.1) e) (congrArg (fun z : AlP => z.1.2) e), congrArg (fun z : AlP => z.2) e⟩
  keeps := fun _ _ _ ⟨K, hK, c, d⟩ k => ⟨K, PySem.W.Frag.In.keeps hK k, ⟨c.t, c.more, c.hd, c.out, fun p hp => k _ _ (c.empty p hp)⟩, d⟩
theorem getr_at {K : PySem.W.Frag} {q : Getr} {i : Nat} (h : (gs.map fun q => getW K q.1) = gs.map fun q => q.2.val) (e : gs[i]? = some q) : getW K q.1 = q.2.val := by
  have := congrArg (fun l : List He.FnW => l[i]?) h
  simpa [e] using this
end
/-! ### e.f, a property -/
def noX : Re → Re
  | .ok d G => .ok d G
  | _ => .stuck
def fProp (c : Nat) (F : Fd) (x : D) (G : Hs) : Re := if isObj' c G x = true then noX (F [x] G) else .stuck
section
variable {Z : Zc} {o : Expr} {do_ : De} {c k : Nat} {f : Str} {g pa : Addr} {ps : List Str} {F : Fd} {pos : Pos}
theorem pd_prop (ho : PD Z o do_) (hc : Cls Z.K (Z.ca c)) (hp : PropOf Z.K (Z.ca c) f pa g) (h : Ca Z.toZb k g ps F []) (hk : k + 1 ≤ Z.k) (hn : 1 = ps.length) (hab : ∀ env, attributeBase o f env (eval o env) = eval o env := by intro _; rfl) :
    PD Z (.Attribute o f pos) (dUn (fProp c F) do_) := by
  refine ?G
  exact (by (intro h; exact h) : have h : (type_of% ?G) := (fun X W ok => by
  obtain ⟨fd, dvs, dus, h1, h2, h3, h4⟩ := h.ex
  have hz := h4 (fun _ => False) (fun _ => none)
  cases dvs with
  | cons v vs => cases hz
  | nil =>
    cases h3
    refine peI (pe_prop (E := E0) (dvs := []) (ho X W ok) (by rw [ok.K]; exact hc) (by rw [ok.K]; exact hp) (show FnOk X.prog X.w X.K X.mg X.base (L2.CX X.prog X.w) k g fd ps (spD Z.g ps.length F) by rw [ok.P, ok.w, ok.K, ok.mg, ok.base]; exact h1.ok) (ok.rm.mono hk) (by rw [ok.K]; exact h2) .nil (fun pins σ H s e s' I hq => passL pins σ H s e s' I hq) (hab _)) fun σ H Q ⟨m, r, G, s, sl, p⟩ => ?_
    refine tI_bind s sl p fun x G1 v m1 H1 e1 x1 s1 sl1 rv p1 => ?_
    unfold fProp at p1
    split at p1
    · rename_i hx
      obtain ⟨a, dx, fs, rfl, ha⟩ := isObj_rp s1 rv hx
      refine ⟨a, dx, fs, rfl, ha, hn, Z.g.rv, m1, _, [x], s1, ⟨_, _, rfl, rv, rfl⟩, ?_⟩
      cases e : F [x] G1 with
      | stuck => rw [e] at p1; exact p1.elim
      | exc _ _ _ _ => rw [e] at p1; exact p1.elim
      | ok d G' => rw [e] at p1; exact p1
    · exact p1.elim
 ); type_of% ?G)
end
section
variable {Q : D → Hs → Prop} {E : XP} {G : Hs}
theorem f_prop {c : Nat} {F : Fd} {x : D} (h1 : isObj' c G x = true) (h : Wp (F [x] G) Q (fun _ _ _ _ => False)) : Wp (fProp c F x G) Q E := by
  obtain ⟨d, G', e, hq⟩ := h.ex
  have e2 : fProp c F x G = .ok d G' := by simp only [fProp, h1, if_true, e, noX]
  rw [e2]
  exact e_ok hq
end
end BL

set_option Elab.async false
set_option linter.all false
set_option maxRecDepth 100000
set_option maxHeartbeats 2000000
namespace BL
open PySem PySem.Spec PyProof.Rows L2

/-! ### o[i], an own __getitem__ -/
structure GetF (K : PySem.W.Frag) (C f : Addr) : Prop where
  hs : PySem.W.findIn K (.ref C) "__getitem__" = some (some (.ref f))
  hf : PySem.W.isFn K (.ref f) = true
  fi : PySem.W.fnIn K f = true
def gtiB (K : PySem.W.Frag) (C f : Addr) : Bool := He.eqO (PySem.W.findIn K (.ref C) "__getitem__") (some (some (.ref f))) && (PySem.W.isFn K (.ref f) && PySem.W.fnIn K f)
theorem gtiB_ok {K : PySem.W.Frag} {C f : Addr} (h : gtiB K C f = true) : GetF K C f := by
  obtain ⟨h1, h⟩ := He.ba h
  obtain ⟨h2, h3⟩ := He.ba h
  exact ⟨He.eqO_ok h1, h2, h3⟩
def OwnIx (b : Expr) : Prop := ∀ o i, subscripted b true o i = runValue (.builtin "lifetime.subscript" ⟨[o, i], []⟩)
def rGetO (C : Addr) (sp : Sp) : R2 := fun x y H Q => ∃ a dx fs, x = .ref a ∧ H a = some (.ins C dx fs) ∧ sp [x, y] H Q E0
theorem pe_getO {X : Cx} {k : Nat} {f C : Addr} {fd : FuncData} {ps : List Str} {sp : Sp} {a b : Expr} {ta tb : TE} {pos : Pos} (F : FnOk X.prog X.w X.K X.mg X.base (L2.CX X.prog X.w) k f fd ps sp) (hr : Room (k + 1) X.A) (hb : Binds X.K fd ps []) (hL : GetF X.K C f) (ha : PE X a ta) (hi : PE X b tb) (hs : OwnIx b) :
    PE X (.Subscript a b pos) (tOp (rGetO C sp) ta tb) := by
  refine ?G
  exact (by (intro h; exact h) : have h : (type_of% ?G) := (by
  refine ⟨fun pins s σ H Q I h => Subscript_ (binT ha hi I h fun v u s2 x y H2 J rx ry q => ?_)⟩
  obtain ⟨o, dx, fs, rfl, ho, q⟩ := q
  cases rx
  obtain ⟨mA, N, _⟩ := ins_get J.hok ho
  obtain ⟨od, N, _⟩ := N.look
  obtain ⟨m, hF⟩ := J.fr
  refine PySem.W.sub_K hF J.ok.mod.kin N hL.hs hL.fi hL.hf ?_ (hs _ _)
  exact run_one (vs := [V.ref o, y]) F hr.in1 rfl hb J (.cons rfl (.cons ry .nil)) q fun v' v H' s' J' rv q => ⟨v, H', J', rv, q⟩
 ); type_of% ?G)
def fGetO (c : Nat) (F : Fd) (x y : D) (G : Hs) : Re := if isObj' c G x = true then noX (F [x, y] G) else .stuck
structure GetA (b : Zb) (k : Nat) (c : Nat) (f : Addr) (ps : List Str) (F : Fd) : Prop where
  ca : Ca b k f ps F []
  get : GetF b.K (b.ca c) f
  hn : 2 = ps.length
section
variable {Z : Zc} {a b : Expr} {da db : De} {c k : Nat} {f : Addr} {ps : List Str} {F : Fd} {pos : Pos}
theorem pd_getO (h : GetA Z.toZb k c f ps F) (hk : k + 1 ≤ Z.k) (ha : PD Z a da) (hb : PD Z b db) (hs : OwnIx b := by intro _ _; rfl) : PD Z (.Subscript a b pos) (dBin (fGetO c F) da db) := by
  refine ?G
  exact (by (intro h; exact h) : have h : (type_of% ?G) := (fun X W ok => by
  obtain ⟨fd, dvs, dus, h1, h2, h3, h4⟩ := h.ca.ex
  have hz := h4 (fun _ => False) (fun _ => none)
  cases dvs with
  | cons v vs => cases hz
  | nil =>
    cases h3
    refine peI (pe_getO (C := Z.ca c) (show FnOk X.prog X.w X.K X.mg X.base (L2.CX X.prog X.w) k f fd ps (spD Z.g ps.length F) by rw [ok.P, ok.w, ok.K, ok.mg, ok.base]; exact h1.ok) (ok.rm.mono hk) (by rw [ok.K]; exact h2) (by rw [ok.K]; exact h.get) (ha X W ok) (hb X W ok) hs) fun σ H Q h0 => ?_
    refine tI_bin (f := fGetO c F) ?_ h0
    intro W' m H G σ Q x y v u s rx ry p
    unfold fGetO at p
    split at p
    · rename_i hx
      obtain ⟨o, dx, fs, rfl, ho⟩ := isObj_rp s rx hx
      refine ⟨o, dx, fs, rfl, ho, h.hn, Z.g.rv, m, _, [x, y], s, ⟨_, _, rfl, rx, _, _, rfl, ry, rfl⟩, ?_⟩
      cases e : F [x, y] G with
      | stuck => rw [e] at p; exact p.elim
      | exc _ _ _ _ => rw [e] at p; exact p.elim
      | ok d G' => rw [e] at p; exact p
    · exact p.elim
 ); type_of% ?G)
end
section
variable {Q : D → Hs → Prop} {E : XP} {G : Hs}
theorem f_getO {c : Nat} {F : Fd} {x y : D} (h1 : isObj' c G x = true) (h : Wp (F [x, y] G) Q (fun _ _ _ _ => False)) : Wp (fGetO c F x y G) Q E := by
  obtain ⟨d, G', e, hq⟩ := h.ex
  have e2 : fGetO c F x y G = .ok d G' := by simp only [fGetO, h1, if_true, e, noX]
  rw [e2]
  exact e_ok hq
end
end BL

set_option Elab.async false
set_option linter.all false
set_option maxRecDepth 100000
set_option maxHeartbeats 2000000
namespace BL
open PySem L2

/-! ### try: e / except C as n: return .. -/
/-- a clause: which classes it takes, whether it gives a tuple, its parts -/
abbrev Hdt := (Nat → Option Bool) × Bool × List Pt
abbrev Cvt := Value × Bool × List Prt
def giveT (tp : Bool) (ts : List T) (G : Hs) : Re := if tp = true then (if ts.length ≤ sizeLine then .ok (.t (.tup ts)) G else .stuck) else (match ts with
  | [t] => .ok (.t t) G
  | _ => .stuck)
def catchT (c : Nat) (ns : List Str) (ds : List D) (G : Hs) : List Hdt → Re
  | [] => .exc c ns ds G
  | q :: qs => match q.1 c with
    | some true => (match ptsV c ns ds q.2.2 with
      | some ts => giveT q.2.1 ts G
      | none => .stuck)
    | some false => catchT c ns ds G qs
    | none => .stuck
def Re.ret (r : Ev) : Re → Rs
  | .ok d G => .rt d G
  | .exc c ns ds G => .exc c ns ds r G
  | .stuck => .stuck
def dTryE (hs : List Hdt) (d : De) : Dst := fun r G => match d r G with
  | .ok _ G' => .nx r G'
  | .exc c ns ds G' => (catchT c ns ds G' hs).ret r
  | .stuck => .stuck
def hdPrt : List Prt → Prt
  | p :: _ => p
  | [] => .cst .non
def cvtT (i : Nat) (q : Cvt) : Cls1 := (q.1, fun a cls d => tRet (if q.2.1 = true then tTup (tPrts i a cls d q.2.2) else tPrt i a cls d (hdPrt q.2.2)))
def ClsT (g : Gm0) : List Hdt → List Cvt → Prop
  | [], l => l = []
  | h :: hs, l => ∃ v ps r, l = (v, h.2.1, ps) :: r ∧ (∀ c b, h.1 c = some b → PySem.W.exmOne g.K (.ref (g.ca c)) v = some b) ∧ PtsR g h.2.2 ps ∧ ClsT g hs r
section
variable {g : Gm} {W : WX} {m m' : Nat → Addr} {n : Nat} {H H' : Hp} {G' : Hs} {σ : St} {D : Ends} {r : Ev} {c i : Nat} {ns : List Str} {ds : List BL.D} {xs : List V} {da : Addr}
end
/-! statements at the top of a def -/
def Top (X : Cx) : Prop := X.stack = X.env :: X.outer ∧ X.env.frame = some X.env.locals
def PSDT (Z : Zc) (st : Stmt) (d : Dst) : Prop := ∀ X W, Ok Z X W → Top X → PS X st (tS Z.g W d)
def PSDsT (Z : Zc) (st : List Stmt) (d : Dst) : Prop := ∀ X W, Ok Z X W → Top X → PSs X st (tS Z.g W d)
theorem Ok.tr {Z : Zc} {X : Cx} {W W' : WX} (ok : Ok Z X W) {pn : List (Addr × Obj)} {xe : Value → Shared → Prop} (tk : Takes (X.tr pn xe) W') (po : PassesOwn (model X.prog X.w) X.A X.env xe) : Ok Z (X.tr pn xe) W' where
  P := ok.P
  w := ok.w
  K := ok.K
  mg := ok.mg
  base := ok.base
  N := ok.N
  sc := ok.sc
  fn := ok.fn
  nd := ok.nd
  calm := ok.calm
  tk := tk
  po := po
  rm := ok.rm
  cq := ok.cq
  av := ok.av
  st := ok.st
section
variable {Z : Zc} {e : Expr} {d : De} {n : Str} {i : Nat} {h0 : ExceptHandler} {hs : List ExceptHandler} {ht : List Hdt} {l : List Cvt} {p pos : Pos}
end
section
variable {Z : Zc} {b : Zb} {x qual : Str} {st : Stmt} {f : Addr} {fd : FuncData} {N ps : List Str} {k : Nat} {db : Dst} {dvs : List V}
end
/-! read backwards -/
section
variable {N : NP} {R : TP} {B C : NP} {X : XP} {G : Hs} {r : Ev}
end
end BL

set_option Elab.async false
set_option linter.all false
set_option maxRecDepth 100000
set_option maxHeartbeats 2000000
namespace BL
open PySem L2

/-! ### [e for x in a for y in b] -/
open Classical in
noncomputable def inLoop (td : Tg) (tt elt : De) (kp : Kp) (r : Ev) : List Im → List D → Hs → Rc
  | [], acc, G => if kpOk kp G then .ok acc G else .stuck
  | im :: its, acc, G => if kpOk kp G then (match td im r with
    | some r1 => (match dT tt r1 G with
      | .ok (.t (.bl true)) G2 => (match elt r1 G2 with
        | .ok d G3 => if acc.length < sizeLine then inLoop td tt elt kp r its (acc ++ [d]) G3 else .stuck
        | _ => .stuck)
      | .ok (.t (.bl false)) G2 => inLoop td tt elt kp r its acc G2
      | _ => .stuck)
    | none => .stuck) else .stuck
noncomputable def inRun (vs : List Nat) (di : Di) (td : Tg) (tt elt : De) (r : Ev) (acc : List D) (G : Hs) : Rc := match di r G with
  | .ok its kp G1 => inLoop td tt elt kp (wipeE r vs) its acc G1
  | _ => .stuck
open Classical in
noncomputable def outLoop (td : Tg) (tt : De) (inn : Ev → List D → Hs → Rc) (kp : Kp) (r : Ev) : List Im → List D → Hs → Rc
  | [], acc, G => if kpOk kp G then .ok acc G else .stuck
  | im :: its, acc, G => if kpOk kp G then (match td im r with
    | some r1 => (match dT tt r1 G with
      | .ok (.t (.bl true)) G2 => (match inn r1 acc G2 with
        | .ok acc' G3 => outLoop td tt inn kp r its acc' G3
        | .stuck => .stuck)
      | .ok (.t (.bl false)) G2 => outLoop td tt inn kp r its acc G2
      | _ => .stuck)
    | none => .stuck) else .stuck
noncomputable def comp2Run (own vs1 : List Nat) (di : Di) (td : Tg) (tt : De) (di1 : Di) (td1 : Tg) (tt1 elt : De) (k : List D → Hs → Re) : De := fun r G => match di r G with
  | .ok its kp G1 => (match outLoop td tt (inRun vs1 di1 td1 tt1 elt) kp (wipeE r own) its [] G1 with
    | .ok ds G2 => k ds G2
    | .stuck => .stuck)
  | .exc c ns ds G1 => .exc c ns ds G1
  | .stuck => .stuck
/-- the list at Da is being filled -/
structure Flw (g : Gm) (m1 : Nat → Addr) (n1 : Nat) (H1 : Hp) (Da : Addr) (τs : List (L2.St × Ev)) (acc : List D) (m : Nat → Addr) (G : Hs) (H : Hp) (xs : List V) : Prop where
  s : SR g m H G
  sl : ∀ p ∈ τs, Sl g m G.length H p.1 p.2
  x : Ex m1 n1 H1 m G.length H
  hD : H Da = some (.lst xs)
  rs : RpDs g m G.length G.length H acc xs
section
variable {g : Gm} {m1 m m' : Nat → Addr} {n1 : Nat} {H1 H H' : Hp} {Da : Addr} {τs : List (L2.St × Ev)} {acc : List D} {G G' : Hs} {xs : List V}
theorem Flw.ex (f : Flw g m1 n1 H1 Da τs acc m G H xs) (hr : Da ∈ g.rv) (x : Ex m G.length H m' G'.length H') (s : SR g m' H' G') : Flw g m1 n1 H1 Da τs acc m' G' H' xs :=
  ⟨s, fun p hp => Sl.ex x f.s (f.sl p hp), f.x.trans f.s x, x.kp _ _ f.hD (fun z => (f.s.rv Da hr).2 z) (by simp), RpDs.ex x f.s x.le (Nat.le_refl _) f.rs⟩
theorem Flw.app (f : Flw g m1 n1 H1 Da τs acc m G H xs) (hr : Da ∈ g.rv) (hn : H1 Da = none) (hz : xs.length < sizeLine) {d : D} {y : V} (ry : RpD g m G.length G.length H d y) : Flw g m1 n1 H1 Da τs (acc ++ [d]) m G (upd H Da (.lst (xs ++ [y]))) (xs ++ [y]) := by
  refine ?G
  exact (by (intro h; exact h) : have h : (type_of% ?G) := (by
  have hz' : (xs ++ [y]).length ≤ sizeLine := by rw [List.length_append]; exact hz
  obtain ⟨s6, mv6⟩ := f.s.grow (o' := .lst (xs ++ [y])) f.hD hr rfl hz'
  exact ⟨s6, fun p hp => Sl.mv mv6 (Nat.le_refl _) (f.sl p hp), Ex.grow f.x hn, upd_same, RpDs.append (RpDs.mv mv6 (Nat.le_refl _) (Nat.le_refl _) f.rs) ⟨y, [], rfl, RpD.mv mv6 (Nat.le_refl _) (Nat.le_refl _) ry, rfl⟩⟩
 ); type_of% ?G)
end
section
variable {Z : Zc} {is1 : List Nat} {di1 : Di} {td1 : Tg} {dt1 de : De}
def KpR (K : List D → Hs → Prop) : Rc → Prop
  | .ok acc G => K acc G
  | .stuck => False
end
section
variable {Z : Zc} {elt tg iter tg1 iter1 : Expr} {ifs ifs1 : List Expr} {scope : Scope} {own : List (Str × Nat)} {is is1 vs1 : List Nat} {pos : Pos} {di di1 : Di} {td td1 : Tg} {dt dt1 de : De} {k : List D → Hs → Re}
theorem PI.some {ι : Type} {X : Cx} {tg e : Expr} {t : ι → TI} (h : ∀ i, PI X tg e (t i)) : PI X tg e (fun σ H Q => ∃ i, t i σ H Q) := ⟨fun pins s σ H Q I ⟨i, z⟩ => (h i).run pins s σ H Q I z⟩
end
/-! ### read backwards -/
section
variable {Q : D → Hs → Prop} {E : XP} {G : Hs} {r : Ev}
end
end BL

set_option Elab.async false
set_option linter.all false
set_option maxRecDepth 100000
set_option maxHeartbeats 2000000
namespace BL
open PySem PySem.Spec PyProof.Rows L2 ClX

/-! ### C.m(..), m a classmethod -/
def isCm (K : PySem.W.Frag) (C p : Addr) : Option PySem.W.CFound → Bool
  | some (.get f x y z) => (f == .builtin "classmethod.__get__") && ((x == .ref p) && ((y == .none) && (z == .ref C)))
  | _ => false
structure ClsM (K : PySem.W.Frag) (C : Addr) (m : Str) (p g : Addr) : Prop where
  rd : CRead K C (.type "type")
  mt : CMet K C (.type "type") m p g
def clsMB (K : PySem.W.Frag) (q : Str × Str) : Bool := PySem.W.readsIn K (He.ga K q.1) (.type "type") && (He.eqO (PySem.W.specialIn K (.ref (He.ga K q.1)) "__getattribute__") (some (some (.builtin "type.__getattribute__"))) &&
  (isCm K (He.ga K q.1) (prpAd K q) (PySem.W.findCls K (.ref (He.ga K q.1)) (.type "type") q.2) && (PySem.W.fnIn K (getAd K q) && (match PySem.W.recIn K (prpAd K q) "classmethod" with
    | some (.ref g :: _) => decide (g = getAd K q)
    | _ => false))))
def dClsM (c : Nat) (das : List De) (F : Fd) (dts : List T) : De := dArgs das (fun ds G => F (.t (.cls c) :: (ds ++ dts.map D.t)) G)
section
variable {Z : Zc} {x m : Str} {e : Expr} {es : List Expr} {das : List De} {F : Fd} {k c : Nat} {f pa : Addr} {ps : List Str} {dts : List T} {p pos apos : Pos} {pl : Env → Sem Bool}
end
/-! ### cls(..), cls a name that holds a class -/
noncomputable def dMakeV (i c : Nat) (das : List De) (F : Fd) (dts : List T) : De := fun r G => match r[i]? with
  | some (some (.t (.cls c'))) => if c' = c then dMake c das F dts r G else .stuck
  | _ => .stuck
section
variable {Z : Zc} {x : Str} {e : Expr} {es : List Expr} {das : List De} {F : Fd} {k c i : Nat} {f : Addr} {ps : List Str} {dts : List T} {p pos : Pos}
end
/-! ### l.index(i), a list of ints -/
def fLix : D → List D → Hs → Re := fun x ds G => match ds with
  | [.t (.int i)] => (match asL G x with
    | some es => (match intsT es with
      | some is => (match is.findIdx? (· == i) with
        | some j => .ok (.t (.int (j : Nat))) G
        | none => .stuck)
      | none => .stuck)
    | none => .stuck)
  | _ => .stuck
section
variable {Z : Zc} {o e : Expr} {do_ de : De} {apos cpos : Pos}
end
/-! ### x in l, data of any depth, l a list -/
def fInD (neg : Bool) : D → D → Hs → Re := fun x y G => match x, asD G y with
  | .t u, some (.lst ts) => if (cmpT u = true ∧ cmpTs ts = true) ∧ (dep u ≤ 64 ∧ deps ts ≤ 63) then .ok (.t (.bl (if neg then !ts.any (fun t => teq t u) else ts.any (fun t => teq t u)))) G else .stuck
  | _, _ => .stuck
section
variable {Z : Zc} {a b : Expr} {da db : De} {pos : Pos}
end
/-! ### [x, *e] -/
def fConsS : D → D → Hs → Re := fun x y G => match x, rowOf y with
  | .t u, some ts => if ts.length + 1 ≤ sizeLine then .ok (.t (.lst (u :: ts))) G else .stuck
  | _, _ => .stuck
section
variable {Z : Zc} {a b : Expr} {da db : De} {p pos : Pos}
end
/-! ### l.extend(k), both located -/
def fExt : D → List D → Hs → Re := fun x ds G => match x, ds with
  | .loc i, [.loc j] => (match G[i]?, G[j]? with
    | some (.lst es), some (.lst fs) => if es.length + fs.length ≤ sizeLine ∧ fs.all (okIn 0) = true then .ok (.t .non) (G.set i (.lst (es ++ fs))) else .stuck
    | _, _ => .stuck)
  | _, _ => .stuck
section
variable {Z : Zc} {o e : Expr} {do_ de : De} {apos cpos : Pos}
end
/-! ### l[:u] as a new located list, and such a list times an int -/
def fSlL (x : D) (j : Int) (G : Hs) : Re := match asL G x with
  | some ds => (match plain ds with
    | some ts => .ok (.loc G.length) (G ++ [.lst ((cutA ts none (some j)).map D.t)])
    | none => .stuck)
  | none => .stuck
def dSlL (a u : De) : De := fun r G => (a r G).bind fun x G1 => (u r G1).bind fun y G2 => match y with | .t (.int j) => fSlL x j G2 | _ => .stuck
def fRepL : D → D → Hs → Re
  | .loc i, .t (.int k), G => (match G[i]? with
    | some (.lst es) => (match plain es with
      | some ts => if 0 ≤ k ∧ k ≤ 1000000 ∧ ts.length * k.toNat ≤ 16777216 then .ok (.t (.lst (List.replicate k.toNat ts).flatten)) G else .stuck
      | none => .stuck)
    | _ => .stuck)
  | _, _, _ => .stuck
section
variable {Z : Zc} {a b u : Expr} {da db du : De} {pos p2 : Pos}
end
/-! ### read backwards -/
section
variable {Q : D → Hs → Prop} {E : XP} {x y : D} {G : Hs} {r : Ev}
end
end BL

set_option Elab.async false
set_option linter.all false
set_option maxRecDepth 100000
set_option maxHeartbeats 400000
/-! A law's end: the law's def is called with the script alone, with no guard around. -/
namespace BL
open PySem PySem.Spec PyProof.Rows L2
open LamX (TabB)

/-- may such an object be one that the abstract heap of a law's start names -/
def seenD : Data → Bool
  | .seq _ _ => true
  | .fields fs => fs.isEmpty
  | _ => false
/-- the abstract heap at a law's start: empty tables, and the script where the frame's facts do not hold it -/
def startH (K : PySem.W.Frag) (T : List Addr) (a : Addr) (O : Obj) (xs : List V) : Hp := fun b => if b ∈ T then some (.tbl #[]) else if b = a ∧ (K.lookup a).isNone = true then some (.frz O (.lst xs)) else none
section
variable {K : PySem.W.Frag} {T : List Addr} {a b : Addr} {O : Obj} {xs : List V} {u : HO}
theorem startH_tab (h : b ∈ T) : startH K T a O xs b = some (.tbl #[]) := if_pos h
theorem startH_inv (h : startH K T a O xs b = some u) : (b ∈ T ∧ u = .tbl #[]) ∨ (b ∉ T ∧ b = a ∧ K.lookup a = none ∧ u = .frz O (.lst xs)) := by
  unfold startH at h
  split at h
  · next m => exact .inl ⟨m, (Option.some.inj h).symm⟩
  · next m =>
    split at h
    · next m2 => exact .inr ⟨m, m2.1, Option.isNone_iff_eq_none.mp m2.2, (Option.some.inj h).symm⟩
    · cases h
theorem startH_script (h : a ∉ T) (hk : K.lookup a = none) : startH K T a O xs a = some (.frz O (.lst xs)) := (if_neg h).trans (if_pos ⟨rfl, by rw [hk]; rfl⟩)
end
section
variable {P : Program} {w : World} {K : PySem.W.Frag} {mg mb : Str → Option Value} {k : Nat} {fa a : Addr} {cs : List (Addr × Addr)} {fd : FuncData} {x : Str} {sp : Sp} {s₁ : Shared} {vs : List Value} {ns : List Int}
theorem law_calls {CX : CXT} (KX : K.In s₁.heap) (hns : s₁.heap.Ns mainGlobals mg) (hb : s₁.heap.Ns builtinsNs mb) (hbb : ∀ x : Str, x ≠ "__name__" → mb x = bootBuiltins x) (hlim : s₁.heap.NoLimit) (hg : s₁.gens = #[])
    (hT : ∀ p ∈ cs, s₁.heap.get? p.2 = some { cls := .none, data := .fields #[] }) (nT : ∀ p ∈ cs, K.lookup p.2 = none) (C : ∀ p ∈ cs, PySem.W.CodeHd s₁.heap p.1 p.2)
    (hbm : ∃ (bm : Addr) (ob : Obj), mg "__builtins__" = some (.ref bm) ∧ bm ≠ builtinsNs ∧ s₁.heap.get? bm = some ob ∧ ob.cls = .type "module" ∧ ob.dict = some builtinsNs ∧ ob.data = .plain)
    (ha : s₁.heap.get? a = some { cls := .type "list", data := .seq vs.toArray }) (hi : IntsAre vs ns) (hl : ns.length ≤ sizeLine) (hr : Room k callerA)
    (F : ∀ base : Heap, K.In base → base.Ns mainGlobals mg → (∀ p ∈ cs, TabB base mg p.1 p.2) → FnOk P w K mg base CX k fa fd [x] sp) (hbind : ∀ (s : Shared) (u : Value), BindsTo s fd ⟨[u], []⟩ [(x, u)])
    (hsp : ∀ H : Hp, (∀ p ∈ cs, H p.2 = some (.tbl #[])) → SqL K H a (ns.map V.int) → sp [.ref a] H (fun v _ => v = .bl true) fun _ _ _ => False)
    (hCX : ∀ H e s', CX [] H s₁ (fun _ _ _ => False) e s' → False) :
    codeAny (model P w) callerA (.call (.ref fa) ⟨[.ref a], []⟩) (fun r s' => r = .ok (.ret (.bool true)) ∧ OldK s₁.heap s'.heap ∧ s'.os = s₁.os ∧ AllBare s'.gens) s₁ := by
  refine ?G
  exact (by (intro h; exact h) : have h : (type_of% ?G) := (by
  have rv := vals_ints hi
  let T := cs.map (·.2)
  let H := startH K T a { cls := .type "list", data := .seq vs.toArray } (ns.map V.int)
  have mem : ∀ {p : Addr × Addr}, p ∈ cs → p.2 ∈ T := fun hp => List.mem_map_of_mem hp
  have tab : ∀ {b : Addr}, b ∈ T → s₁.heap.get? b = some { cls := .none, data := .fields #[] } ∧ K.lookup b = none ∧ ∃ c, PySem.W.CodeHd s₁.heap c b := fun hb => by
    obtain ⟨p, hp, rfl⟩ := List.mem_map.mp hb
    exact ⟨hT p hp, nT p hp, p.1, C p hp⟩
  have aT : a ∉ T := fun z => nomatch congrArg Obj.data (Option.some.inj (ha.symm.trans (tab z).1))
  -- what is not named stays in the base
  have out : ∀ {b : Addr} {o : Obj}, s₁.heap.get? b = some o → seenD o.data = false → H b = none := fun {b o} e d => by
    cases q : H b with
    | none => rfl
    | some u =>
      have z : seenD o.data = true := by
        rcases startH_inv q with ⟨m, _⟩ | ⟨_, rfl, _⟩
        · rw [Option.some.inj (e.symm.trans (tab m).1)]; rfl
        · rw [Option.some.inj (e.symm.trans ha)]; rfl
      rw [d] at z
      cases z
  have stay : ∀ {b : Addr} {o : Obj}, s₁.heap.get? b = some o → seenD o.data = false → (hidT s₁.heap H).get? b = some o := fun e d => hidT_get e (out e d)
  have ns_stay : ∀ {b : Addr} {m : Str → Option Value}, s₁.heap.Ns b m → (hidT s₁.heap H).Ns b m := fun ⟨o, es, ep, e, d, r⟩ => ⟨o, es, ep, stay e (by rw [d]; rfl), d, r⟩
  have k_stay : K.In (hidT s₁.heap H) := fun b o e => hidT_get (KX b o e) (by
    cases q : H b with
    | none => rfl
    | some u =>
      have z : K.lookup b = none := by
        rcases startH_inv q with ⟨m, _⟩ | ⟨_, rfl, n, _⟩
        · exact (tab m).2.1
        · exact n
      exact nomatch (show K.lookup b = some o from e).symm.trans z)
  have held : HOk P w H s₁.heap := fun b u q => by
    rcases startH_inv q with ⟨m, rfl⟩ | ⟨_, rfl, _, rfl⟩
    · exact (tab m).1
    · exact ⟨ha, by rw [List.length_map]; exact hl, vs, _, rv, ha⟩
  have script : SqL K H a (ns.map V.int) := by
    cases hk : K.lookup a with
    | none => exact .inl (.inr ⟨_, startH_script aT hk⟩)
    | some o =>
      cases ha.symm.trans (KX a o hk)
      exact .inr ⟨_, vs.toArray, _, hk, rfl, rfl, rfl, by rw [List.size_toArray, hi.length]; exact hl, by simpa using rv⟩
  have tables : ∀ p ∈ cs, TabB (hidT s₁.heap H) mg p.1 p.2 := fun p hp => by
    refine ⟨?_, ?_, fun z => ?_⟩
    · obtain ⟨o, us, f1, f2, f3, f4, f5, f6, f7, e, c1, c2, c3, rest⟩ := C p hp
      refine ⟨o, us, f1, f2, f3, f4, f5, f6, f7, stay e ?_, c1, c2, c3, rest⟩
      rw [c2]
      cases hu : us.isEmpty with
      | false => exact hu
      | true => rw [Array.isEmpty_iff.mp hu] at c3; cases c3
    · obtain ⟨bm, ob, b1, b2, b3, b4, b5, b6⟩ := hbm
      refine ⟨bm, ob, b1, b2, ?_, ?_, stay b3 (by rw [b6]; rfl), b4, b5, b6⟩
      · rintro rfl
        obtain ⟨o, es, ep, e, d, _⟩ := hns
        cases b3.symm.trans e
        exact nomatch b6.symm.trans d
      · rintro rfl
        cases b3.symm.trans (hT p hp)
        cases b6
    · obtain ⟨o, es, ep, e, d, _⟩ := hns
      cases (z ▸ e : s₁.heap.get? p.2 = some o).symm.trans (hT p hp)
      cases d
  obtain ⟨mc, l1, l2⟩ := hlim
  have e0 : Env0 P w K mg (hidT s₁.heap H) callerA [] s₁ H := {
    frames := rfl
    mod := ⟨k_stay, ns_stay hns, ⟨mb, ns_stay hb, hbb⟩, ⟨mc, ns_stay l1, l2⟩⟩
    bs := fun b o e => of_hidT e
    bsz := Nat.le_of_eq (hidT_size _ _)
    funs := trivial
    frf := fun b hb => nomatch (show b ∈ ([] : List Addr) from hb)
    hok := held
    bare := .of_eq hg }
  have told := (F _ k_stay (ns_stay hns) tables).run callerA [] s₁ H ⟨[.ref a], []⟩ [.ref a] [.ref a] _ _ hr e0 (hbind s₁ (.ref a)) (.cons rfl .nil) (hsp H (fun p hp => startH_tab (mem hp)) script)
  refine codeAny_mono told fun r s' h => ?_
  match r, h with
  | .error e, h => exact (hCX H e s' h).elim
  | .ok (.ret u), h =>
    obtain ⟨v, H', os, bare, un, hok', r', q⟩ := h
    cases (show v = .bl true from q)
    cases (show u = Value.bool true from r')
    have no : ∀ {α : Prop} {b : Addr}, b ∈ ([] : List Addr) → α := fun z => nomatch z
    have grown : ∀ {b : Addr}, b ∈ T → ∃ more : Array Value, s'.heap.get? b = some { cls := .none, data := .fields more } := fun {b} hb => by
      obtain ⟨more, z⟩ := un.tbls b #[] (startH_tab hb)
      exact ⟨_, hok' b _ z⟩
    have same : ∀ {b : Addr} {o : Obj}, b ∉ T → s₁.heap.get? b = some o → s'.heap.get? b = some o := fun {b o} hb e => by
      cases q : H b with
      | none => exact un.keep b o e q (fun z => no z) (fun z => no z)
      | some u =>
        rcases startH_inv q with ⟨m, _⟩ | ⟨_, rfl, _, rfl⟩
        · exact absurd m hb
        · cases e.symm.trans ha
          exact (hok' b _ (un.frzs b _ _ q)).1
    refine ⟨rfl, ⟨fun b o e => ?_, fun b o e => ?_⟩, os, bare⟩
    · rcases Classical.em (b ∈ T) with hb | hb
      · obtain ⟨more, hm⟩ := grown hb
        obtain ⟨t1, _, c, t3⟩ := tab hb
        cases e.symm.trans t1
        exact .inr (.inl ⟨(t3.tab t1).isCodeTable, rfl, #[], more, rfl, by rw [Array.empty_append]; exact hm⟩)
      · exact .inl (same hb e)
    · rcases Classical.em (b ∈ T) with hb | hb
      · exact ⟨_, (grown hb).choose_spec⟩
      · exact ⟨o, same hb e⟩
 ); type_of% ?G)
end
/-- what the head's heap tells of a law's def -/
def LawAt (l : PySem.W.OpenLaw) (w : World) (K : PySem.W.Frag) (CX : CXT) (k n : Nat) (x : Str) (mg : Str → Option Value) (fa : Addr) (h : Heap) : Prop :=
  ∃ (fd : FuncData) (cs : List (Addr × Addr)) (sp : Sp), (∀ p ∈ cs, h.get? p.2 = some { cls := .none, data := .fields #[] }) ∧ (∀ p ∈ cs, K.lookup p.2 = none) ∧ (∀ p ∈ cs, PySem.W.CodeHd h p.1 p.2) ∧ (∀ (s : Shared) (u : Value), BindsTo s fd ⟨[u], []⟩ [(x, u)]) ∧
    (∀ (H : Hp) (a : Addr) (ns : List Int), ns.length ≤ n → (∀ z ∈ ns, Builtin.Int.intBits z ≤ 1048576) → (∀ p ∈ cs, H p.2 = some (.tbl #[])) → SqL K H a (ns.map V.int) → sp [.ref a] H (fun v _ => v = .bl true) fun _ _ _ => False) ∧
    ∀ base : Heap, K.In base → base.Ns mainGlobals mg → (∀ p ∈ cs, TabB base mg p.1 p.2) → FnOk l.prog w K mg base CX k fa fd [x] sp
/-- a law's end by its head -/
theorem walk_of {l : PySem.W.OpenLaw} {n k : Nat} {q : Program} {loose : List Str} {XP : (Str → Option Value) → Heap → Prop} {YP : World → Heap → Prop} {d : DefRec} {CX : World → CXT} {x : Str} (hn : l.most = some n) (hn2 : n ≤ sizeLine) (hdf : d.params.defaults = []) (hr : Room k callerA)
    (F : ∀ (w : World) (mg : Str → Option Value) (fa : Addr) (h : Heap), YP w h → h.Ns mainGlobals mg → mg d.name = some (.ref fa) → ∃ K : PySem.W.Frag, K.In h ∧ LawAt l w K (CX w) k n x mg fa h)
    (hCX : ∀ (w : World) (H : Hp) (s : Shared) (e : Value) (s' : Shared), CX w [] H s (fun _ _ _ => False) e s' → False) : PySem.W.WalkO q loose XP YP l.row.toRowW d [] (fun f vs => PySem.call f vs) := by
  refine ?G
  exact (by (intro h; exact h) : have h : (type_of% ?G) := (
  Att.attach_callB hn hdf fun w s₀ s₁ mg mb fa o pm cd doc a vs ns G Y ho hd hcd hmg hobj hints hlen hbits hg => by
    obtain ⟨K, KX, fd, cs, sp, h1, h2, h3, h4, h5, h6⟩ := F w mg fa _ Y G.T.g hmg
    exact law_calls KX G.T.g G.T.b G.T.builtins G.T.nolimit hg h1 h2 h3 G.T.bmain hobj hints (Nat.le_trans hlen hn2) hr h6 h4 (fun H u z => h5 H a ns hlen hbits u z) fun H e s' => hCX w H s₁ e s'
 ); type_of% ?G)
theorem room_law {k : Nat} (h : 301 + 3 * k + 5 < recursionLimit) (h2 : 4 + 16 * k + 200 < cLine) : Room k callerA where
  hd := rfl
  dp := h
  un := h2
  gd := rfl
end BL

set_option Elab.async false
set_option linter.all false
set_option maxRecDepth 100000
set_option maxHeartbeats 2000000
namespace BL
open PySem L2

/-! ### the Hook that looks at written addresses -/
section
variable {as : List Addr} {fa : List He.Fa} {fn : List He.DefD} {tf : List He.Defn} {gs : List Getr} {ex : PySem.W.Frag → Bool}
def obsL (as : List Addr) (fa : List He.Fa) (fn : List He.DefD) (tf : List He.Defn) (gs : List Getr) (ex : PySem.W.Frag → Bool) (g : Addr → Option Obj) : AlP :=
  ((He.obsT fa fn [] (He.frT g as), ex (He.frT g as) && He.tabsB g tf (He.frT g as)), gs.map fun q => getW (He.frT g as) q.1)
def hookL (as : List Addr) (fa : List He.Fa) (fn : List He.DefD) (tf : List He.Defn) (gs : List Getr) (ex : PySem.W.Frag → Bool) : PySem.W.Hook where
  α := AlP
  obs := fun s => obsL as fa fn tf gs ex s.heap.get?
  val := fun w => (He.valX fn [] w, gs.map fun q : Getr => He.DefD.val q.2)
  says := fun w h => ∃ K : PySem.W.Frag, K.In h ∧ He.SaysX fa fn [] tf ex w h K ∧ (gs.map fun q : Getr => getW K q.1) = gs.map fun q : Getr => He.DefD.val q.2
  of := fun _ _ e => ⟨_, He.frT_in, says_at (congrArg (fun z : AlP => z.1.1) e) (congrArg (fun z : AlP => z.1.2) e), congrArg (fun z : AlP => z.2) e⟩
  keeps := fun _ _ _ ⟨K, hK, c, d⟩ k => ⟨K, PySem.W.Frag.In.keeps hK k, ⟨c.t, c.more, c.hd, c.out, fun p hp => k _ _ (c.empty p hp)⟩, d⟩
theorem obsL_eq {g : Addr → Option Obj} {s : Shared} (h : ∀ a, g a = s.heap.get? a) : obsL as fa fn tf gs ex g = (hookL as fa fn tf gs ex).obs s := by
  have e : g = s.heap.get? := funext h
  rw [e] <;> rfl
end
end BL

set_option Elab.async false
set_option linter.all false
set_option maxRecDepth 100000
set_option maxHeartbeats 1000000
namespace BL
open PySem L2

/-! ### comprehensions with tests, loops over pairs -/
section
variable {Q : D → Hs → Prop} {E : XP} {N : NP} {R : TP} {B C : NP} {X : XP} {G : Hs} {r : Ev}
abbrev noE : XP := fun _ _ _ _ => False
theorem comp_loopT {td : Tg} {tt elt : De} {kp : Kp} {its : List Im} (I : Nat → List D → Hs → Prop) {K : List D → Hs → Prop} (h0 : I 0 [] G) (hk : ∀ i acc G, I i acc G → kpOk kp G)
    (hs : ∀ i acc G im, its[i]? = some im → I i acc G → ∃ r1, td im r = some r1 ∧ Wp (tt r1 G) (fun x G1 => Wt (truth G1 x) (Wp (elt r1 G1) (fun d G2 => I (i + 1) (acc ++ [d]) G2) noE) (I (i + 1) acc G1)) noE) (he : ∀ acc G, I its.length acc G → K acc G) :
    Wc (compLoop td tt elt kp r its [] G) K := by
  refine ?G
  exact (by (intro h; exact h) : have h : (type_of% ?G) := (by
  have main : ∀ (l : List Im) (i : Nat) (acc : List D) (G : Hs), its.drop i = l → i + l.length = its.length → I i acc G → Wc (compLoop td tt elt kp r l acc G) K := by
    intro l
    induction l with
    | nil =>
      intro i acc G _ hl hI
      unfold compLoop
      rw [if_pos (hk i acc G hI)]
      have : i = its.length := by simpa using hl
      subst this
      with_unfolding_all exact he acc G hI
    | cons im l ih =>
      intro i acc G hd hl hI
      unfold compLoop
      rw [if_pos (hk i acc G hI)]
      have hi : its[i]? = some im := by
        have := congrArg (fun l : List Im => l[0]?) hd
        simpa using this
      obtain ⟨r1, e1, h1⟩ := hs i acc G im hi hI
      rw [e1]
      have hd' : its.drop (i + 1) = l := by
        have := congrArg List.tail hd
        simpa using this
      have hl' : i + 1 + l.length = its.length := by rw [← hl, List.length_cons]; omega
      have e2 : Wp (dT tt r1 G) (fun x G1 => (x = .t (.bl true) ∧ Wp (elt r1 G1) (fun d G2 => I (i + 1) (acc ++ [d]) G2) noE) ∨ (x = .t (.bl false) ∧ I (i + 1) acc G1)) noE := by
        rw [wp_T]
        refine h1.mono (fun x G1 h => ?_) fun _ _ _ _ z => z
        cases ht : truth G1 x with
        | none => rw [ht] at h; with_unfolding_all exact h
        | some b =>
          rw [ht] at h
          rw [wt_some] at h ⊢
          exact ⟨fun z => .inl ⟨rfl, h.1 z⟩, fun z => .inr ⟨rfl, h.2 z⟩⟩
      cases ed : dT tt r1 G with
      | stuck => rw [ed] at e2; rw [wp_stuck] at e2; exact e2.elim
      | exc c ns ds G2 => rw [ed] at e2; rw [wp_exc] at e2; exact e2.elim
      | ok x G1 =>
        rw [ed, wp_ok] at e2
        rcases e2 with ⟨rfl, h2⟩ | ⟨rfl, h2⟩
        · cases eb : elt r1 G1 with
          | ok d G3 => rw [eb, wp_ok] at h2; simp only [ed, eb]; exact ih (i + 1) _ G3 hd' hl' h2
          | exc c ns ds G2 => rw [eb, wp_exc] at h2; exact h2.elim
          | stuck => rw [eb, wp_stuck] at h2; exact h2.elim
        · simp only [ed]; exact ih (i + 1) _ G1 hd' hl' h2
  exact main its 0 [] G rfl (by simp) h0
 ); type_of% ?G)
/-- over singles -/
theorem c_loopT {i : Nat} {tt elt : De} {kp : Kp} {ds : List D} (I : Nat → List D → Hs → Prop) {K : List D → Hs → Prop} (h0 : I 0 [] G) (hk : ∀ i acc G, I i acc G → kpOk kp G)
    (hs : ∀ j acc G d, ds[j]? = some d → I j acc G → Wp (tt (r.set i (some d)) G) (fun x G1 => Wt (truth G1 x) (Wp (elt (r.set i (some d)) G1) (fun d G2 => I (j + 1) (acc ++ [d]) G2) noE) (I (j + 1) acc G1)) noE) (he : ∀ acc G, I ds.length acc G → K acc G) :
    Wc (compLoop (gN i) tt elt kp r (ds.map Im.one) [] G) K := by
  refine ?G
  exact (by (intro h; exact h) : have h : (type_of% ?G) := (
  comp_loopT I h0 hk (fun j acc G im e hI => by
    rw [List.getElem?_map] at e
    cases hd : ds[j]? with
    | none => rw [hd] at e; cases e
    | some d =>
      rw [hd] at e
      cases e
      with_unfolding_all exact ⟨_, rfl, hs j acc G d hd hI⟩) (fun acc G hI => he acc G (by rw [List.length_map] at hI; with_unfolding_all exact hI))
 ); type_of% ?G)
theorem filter_take {α : Type} {xs : List α} {p : α → Bool} {j : Nat} {a : α} (h : xs[j]? = some a) : (xs.take (j + 1)).filter p = (xs.take j).filter p ++ if p a then [a] else [] := by
  rw [List.take_add_one, h, List.filter_append]
  cases hp : p a <;> simp [hp]
/-- .. that changes nothing: those of a row of some kind that pass -/
theorem c_filter {α : Type} {i : Nat} {tt elt : De} {kp : Kp} {xs : List α} {g : α → D} {f : α → D} (p : α → Bool) {K : List D → Hs → Prop} (hk : kpOk kp G)
    (ht : ∀ (j : Nat) (a : α), xs[j]? = some a → ∀ Q : D → Hs → Prop, Q (.t (.bl (p a))) G → Wp (tt (r.set i (some (g a))) G) Q noE) (hf : ∀ (j : Nat) (a : α), xs[j]? = some a → p a = true → ∀ Q : D → Hs → Prop, Q (f a) G → Wp (elt (r.set i (some (g a))) G) Q noE) (he : K ((xs.filter p).map f) G) :
    Wc (compLoop (gN i) tt elt kp r ((xs.map g).map Im.one) [] G) K := by
  refine ?G
  exact (by (intro h; exact h) : have h : (type_of% ?G) := (by
  refine c_loopT (fun j acc G' => acc = ((xs.take j).filter p).map f ∧ G' = G) ⟨by simp, rfl⟩ (fun _ _ _ h => by rw [h.2]; with_unfolding_all exact hk) (fun j acc G' d hd hI => ?_) (fun acc G' hI => by
    rw [hI.1, hI.2, List.length_map, List.take_length]; with_unfolding_all exact he)
  obtain ⟨rfl, rfl⟩ := hI
  rw [List.getElem?_map] at hd
  cases hx : xs[j]? with
  | none => rw [hx] at hd; cases hd
  | some a =>
    rw [hx] at hd
    cases hd
    refine ht j a hx _ ?_
    refine t_bl (fun z => ?_) (fun z => ?_)
    · refine hf j a hx z _ ⟨?_, rfl⟩
      rw [filter_take hx, z]
      simp
    · refine ⟨?_, rfl⟩
      rw [filter_take hx, z]
      simp
 ); type_of% ?G)
end
end BL

set_option Elab.async false
set_option linter.all false
set_option maxRecDepth 100000
set_option maxHeartbeats 2000000
namespace BL
open PySem L2

/-! ### several names at once, through a tuple -/
def dArgsS : List De → (List D → Hs → Rs) → Dst
  | [], k => fun _ G => k [] G
  | a :: as, k => fun r G => (a r G).thn r fun x G1 => dArgsS as (fun xs G2 => k (x :: xs) G2) r G1
def setsE : Ev → List Nat → List D → Ev
  | r, i :: is, d :: ds => setsE (r.set i (some d)) is ds
  | r, _, _ => r
def setsV : L2.St → List Nat → List V → L2.St
  | r, i :: is, d :: ds => setsV (r.set i (some d)) is ds
  | r, _, _ => r
def dParN (is : List Nat) (das : List De) : Dst := fun r G => dArgsS das (fun ds G1 => if ds.length = is.length then .nx (setsE r is ds) G1 else .stuck) r G
def gNames : List Nat → TGs
  | [] => gNil
  | i :: is => gCons (gName i) (gNames is)
section
variable {g : Gm} {W : WX} {m : Nat → Addr} {H : Hp} {G : Hs} {σ : L2.St} {r : Ev} {E : Ends}
end
section
variable {Z : Zc} {es ns : List Expr} {das : List De} {is : List Nat} {pt pos pt2 : Pos} {kt k2 : Nat}
end
/-! ### x, y, z = a, b, c without a tuple -/
section
variable {Z : Zc} {a b c : Expr} {da db dc : De} {i j l : Nat} {x y z : Str} {px py pz pt pos pt2 : Pos} {kt k2 : Nat}
end
/-! ### x += e, ints -/
section
variable {Z : Zc} {e : Expr} {d : De} {i : Nat} {x : Str} {px pos : Pos}
def dAugI (i : Nat) (f : Int → Int → Int) (d : De) : Dst := fun r G => match r[i]? with
  | some (some (.t (.int a))) => (d r G).thn r fun y G1 => match y with
    | .t (.int b) => .nx (r.set i (some (.t (.int (f a b))))) G1
    | _ => .stuck
  | _ => .stuck
end
/-! ### l[::-1] -/
def fRev : D → Hs → Re := fun x G => match asL G x with
  | some ds => (match plain ds with
    | some ts => .ok (.t (.lst ts.reverse)) G
    | none => .stuck)
  | none => .stuck
theorem Rps.rev {g : Gm0} {B : Addr → Prop} {H : Hp} : ∀ {ts : List T} {vs : List V}, Rps g B H ts vs → Rps g B H ts.reverse vs.reverse
  | [], vs, h => by cases h; rfl
  | t :: ts, vs, ⟨v, ws, e, h, r⟩ => by
    subst e
    rw [List.reverse_cons, List.reverse_cons]
    exact Rps.app (Rps.rev r) ⟨v, [], rfl, h, rfl⟩
section
variable {Z : Zc} {e : Expr} {d : De} {k : Nat} {p1 p2 p3 pos : Pos}
end
/-! ### (*a, x, *b) -/
def fSxs (ts : List T) (u : T) (us : List T) (G : Hs) : Re := if ts.length + us.length ≤ 1000000 then .ok (.t (.tup (ts ++ u :: us))) G else .stuck
def dSxs (da db dc : De) : De := fun r G => (da r G).bind fun x G1 => match rowOf x with
  | none => .stuck
  | some ts => (db r G1).bind fun u G2 => match u with
    | .loc _ => .stuck
    | .t u => (dc r G2).bind fun y G3 => match rowOf y with
      | none => .stuck
      | some us => fSxs ts u us G3
section
variable {Z : Zc} {a b c : Expr} {da db dc : De} {p p' pos : Pos} {k : Nat}
end
/-! ### l.index(w), a list of texts -/
def fLixS : D → List D → Hs → Re := fun x ds G => match ds with
  | [.t (.str i)] => (match asL G x with
    | some es => (match strsT es with
      | some is => (match is.findIdx? (· == i) with
        | some j => .ok (.t (.int (j : Nat))) G
        | none => .stuck)
      | none => .stuck)
    | none => .stuck)
  | _ => .stuck
section
variable {Z : Zc} {o e : Expr} {do_ de : De} {apos cpos : Pos}
end
/-! ### read backwards -/
section
variable {Q : D → Hs → Prop} {E : XP} {N : NP} {R : TP} {B C : NP} {X : XP} {d x y z : D} {G : Hs} {r : Ev}
theorem ws_argsS0 {k : List D → Hs → Rs} (h : Ws (k [] G) N R B C X) : Ws (dArgsS [] k r G) N R B C X := h
theorem ws_argsS {a : De} {as : List De} {k : List D → Hs → Rs} (h : Wp (a r G) (fun x G1 => Ws (dArgsS as (fun xs G2 => k (x :: xs) G2) r G1) N R B C X) X) : Ws (dArgsS (a :: as) k r G) N R B C X := by
  unfold dArgsS
  rw [ws_thn]; exact h
theorem s_nxIf {n k : Nat} {r1 : Ev} (hn : n = k) (h : N r1 G) : Ws (if n = k then .nx r1 G else .stuck) N R B C X := by rw [if_pos hn, ws_nx]; exact h
/-- x, y, .. = a, b, ..: f gives the slots as they are then -/
theorem s_par3' {i j l : Nat} {a b c : De} {f : D → D → D → Ev} (hf : ∀ x y z, setsE r [i, j, l] [x, y, z] = f x y z) (h : Wp (a r G) (fun x G1 => Wp (b r G1) (fun y G2 => Wp (c r G2) (fun z G3 => N (f x y z) G3) X) X) X) : Ws (dParN [i, j, l] [a, b, c] r G) N R B C X := by
  refine ?G
  exact (by (intro h; exact h) : have h : (type_of% ?G) := (by
  unfold dParN
  apply ws_argsS
  refine h.mono (fun x G1 h => ?_) fun _ _ _ _ z => z
  apply ws_argsS
  refine h.mono (fun y G2 h => ?_) fun _ _ _ _ z => z
  apply ws_argsS
  refine h.mono (fun z G3 h => ?_) fun _ _ _ _ z => z
  apply ws_argsS0
  refine s_nxIf rfl ?_
  rw [hf]; exact h
 ); type_of% ?G)
theorem s_par4' {i j l n : Nat} {a b c d : De} {f : D → D → D → D → Ev} (hf : ∀ x y z w, setsE r [i, j, l, n] [x, y, z, w] = f x y z w) (h : Wp (a r G) (fun x G1 => Wp (b r G1) (fun y G2 => Wp (c r G2) (fun z G3 => Wp (d r G3) (fun w G4 => N (f x y z w) G4) X) X) X) X) : Ws (dParN [i, j, l, n] [a, b, c, d] r G) N R B C X := by
  refine ?G
  exact (by (intro h; exact h) : have h : (type_of% ?G) := (by
  unfold dParN
  apply ws_argsS
  refine h.mono (fun x G1 h => ?_) fun _ _ _ _ z => z
  apply ws_argsS
  refine h.mono (fun y G2 h => ?_) fun _ _ _ _ z => z
  apply ws_argsS
  refine h.mono (fun z G3 h => ?_) fun _ _ _ _ z => z
  apply ws_argsS
  refine h.mono (fun w G4 h => ?_) fun _ _ _ _ z => z
  apply ws_argsS0
  refine s_nxIf rfl ?_
  rw [hf]; exact h
 ); type_of% ?G)
theorem s_par5' {i j l n o : Nat} {a b c d e : De} {f : D → D → D → D → D → Ev} (hf : ∀ x y z w v, setsE r [i, j, l, n, o] [x, y, z, w, v] = f x y z w v) (h : Wp (a r G) (fun x G1 => Wp (b r G1) (fun y G2 => Wp (c r G2) (fun z G3 => Wp (d r G3) (fun w G4 => Wp (e r G4) (fun v G5 => N (f x y z w v) G5) X) X) X) X) X) : Ws (dParN [i, j, l, n, o] [a, b, c, d, e] r G) N R B C X := by
  refine ?G
  exact (by (intro h; exact h) : have h : (type_of% ?G) := (by
  unfold dParN
  apply ws_argsS
  refine h.mono (fun x G1 h => ?_) fun _ _ _ _ z => z
  apply ws_argsS
  refine h.mono (fun y G2 h => ?_) fun _ _ _ _ z => z
  apply ws_argsS
  refine h.mono (fun z G3 h => ?_) fun _ _ _ _ z => z
  apply ws_argsS
  refine h.mono (fun w G4 h => ?_) fun _ _ _ _ z => z
  apply ws_argsS
  refine h.mono (fun v G5 h => ?_) fun _ _ _ _ z => z
  apply ws_argsS0
  refine s_nxIf rfl ?_
  rw [hf]; exact h
 ); type_of% ?G)
end
end BL

set_option Elab.async false
set_option linter.all false
set_option maxRecDepth 100000
set_option maxHeartbeats 2000000
namespace BL
open PySem L2

/-! ### x.split(y) -/
def fSplit' : D → List D → Hs → Re := fun x ds G => match x, ds with
  | .t (.str a), [.t (.str b)] => if b = " " ∧ a.length + 2 ≤ 16777216 then .ok (.t (.lst ((Txt.split a " ").map T.str))) G else .stuck
  | _, _ => .stuck
section
variable {Z : Zc} {o e : Expr} {do_ de : De} {apos cpos : Pos}
end
/-! ### sorted(ints) -/
def insI (x : Int) : List Int → List Int
  | [] => [x]
  | y :: ys => if x ≤ y then x :: y :: ys else y :: insI x ys
def sortI : List Int → List Int
  | [] => []
  | x :: xs => insI x (sortI xs)
theorem ins_perm (x : Int) : ∀ l : List Int, (insI x l).Perm (x :: l)
  | [] => .refl _
  | y :: ys => by
    unfold insI
    split
    · exact .refl _
    · exact ((ins_perm x ys).cons y).trans (.swap x y ys)
theorem sort_perm : ∀ l : List Int, (sortI l).Perm l
  | [] => .refl _
  | x :: xs => (ins_perm x _).trans ((sort_perm xs).cons x)
theorem ins_sorted (x : Int) : ∀ l : List Int, l.Pairwise (· ≤ ·) → (insI x l).Pairwise (· ≤ ·)
  | [], _ => by simp [insI]
  | y :: ys, h => by
    unfold insI
    rw [List.pairwise_cons] at h
    split
    · rename_i hxy
      rw [List.pairwise_cons, List.pairwise_cons]
      refine ⟨fun z hz => ?_, h⟩
      rcases List.mem_cons.mp hz with rfl | hz
      · exact hxy
      · exact Int.le_trans hxy (h.1 z hz)
    · rename_i hxy
      rw [List.pairwise_cons]
      refine ⟨fun z hz => ?_, ins_sorted x ys h.2⟩
      rcases List.mem_cons.mp ((ins_perm x ys).mem_iff.mp hz) with rfl | hz
      · omega
      · exact h.1 z hz
theorem sort_sorted : ∀ l : List Int, (sortI l).Pairwise (· ≤ ·)
  | [] => List.Pairwise.nil
  | x :: xs => ins_sorted x _ (sort_sorted xs)
theorem perm_eq : ∀ {l k : List Int}, l.Perm k → l.Pairwise (· ≤ ·) → k.Pairwise (· ≤ ·) → l = k
  | [], k, h, _, _ => (List.nil_perm.mp h).symm
  | x :: l, [], h, _, _ => (List.perm_nil.mp h)
  | x :: l, y :: k, h, h1, h2 => by
    rw [List.pairwise_cons] at h1 h2
    have e : x = y := by
      have a : x ∈ y :: k := h.mem_iff.mp (List.mem_cons_self ..)
      have b : y ∈ x :: l := h.mem_iff.mpr (List.mem_cons_self ..)
      rcases List.mem_cons.mp a with a | a
      · exact a
      · rcases List.mem_cons.mp b with b | b
        · exact b.symm
        · exact Int.le_antisymm (h1.1 y b) (h2.1 x a)
    subst e
    rw [perm_eq (List.Perm.cons_inv h) h1.2 h2.2]
def fSorted : List D → Hs → Re := fun ds G => match ds with
  | [d] => (match asL G d with
    | some es => (match intsT es with
      | some is => if is.length < 64 then .ok (.t (.lst ((sortI is).map T.int))) G else .stuck
      | none => .stuck)
    | none => .stuck)
  | _ => .stuck
theorem c_sorted {g : Gm} (K : PySem.W.Frag) (hK : K = g.K) : CaA g (rSorted K) fSorted := by
  refine ?G
  exact (by (intro h; exact h) : have h : (type_of% ?G) := (by
  subst hK
  intro W m H G σ Q ds vs s rs p
  unfold fSorted at p
  split at p
  · split at p
    · split at p
      · split at p
        · rename_i ds' e _ is e2 hz
          obtain ⟨v, rfl, r⟩ := rpds1 rs
          obtain ⟨a, xs, rfl, h, r'⟩ := asL_rp s r e
          rw [ints_rp e2 r'] at h
          refine ⟨a, is, rfl, h, hz, fun ns q hp hs hq => ?_⟩
          have e3 : ns = sortI is := perm_eq (hp.trans (sort_perm is).symm) hs (sort_sorted is)
          subst e3
          have hz' : szOk (HO.lst ((sortI is).map V.int)) := by
            show (List.map _ _).length ≤ sizeLine
            rw [List.length_map, (sort_perm is).length_eq]
            exact Nat.le_trans (Nat.le_of_lt hz) (by decide)
          exact p _ _ _ (Ex.new hq) (s.new hq hz') ⟨q, _, rfl, .here upd_same (s.notBd hq), rps_ints⟩
        · exact p.elim
      · exact p.elim
    · exact p.elim
  · exact p.elim
 ); type_of% ?G)
section
variable {Z : Zc} {e : Expr} {d : De} {p pos : Pos}
theorem pd_sorted (hm : Z.mg "sorted" = none) (h : PD Z e d) (hg : GlS Z "sorted" := by rfl) (he : ∀ env, starEach [e] env = (false, eval e env) :: starEach [] env := by intro _; rfl) : PD Z (.Call (.Name "sorted" p) [e] [] pos) (dArgs [d] fSorted) :=
  pd_callB (fun X => _) (fun _ _ ok => cr_sorted) (fun X W ok => c_sorted X.K ok.Kg) hg hm (by decide +kernel) (pda_cons h pda_nil he) he (fun _ => rfl) (by decide) (by decide)
end
/-! ### def x(a): try: return (tag, a().f) / except C as e: return (..) .. -/
def TTa (K : PySem.W.Frag) (tag f : Str) (l : List (Value × List Prt)) : (XK → Hp → VK → Prop) → Hp → VK → Prop := fun tl H Q => ∃ Ech : XK, (∀ cls d H', Ech cls d H' → catchR K cls d H' Q l) ∧ tl Ech H fun v H' => ∃ a C dx fs u, v = .ref a ∧ H' a = some (.ins C dx fs) ∧ Cls K C ∧ NoAttr K C f ∧ fs.lookup f = some u ∧ ([V.str tag, u] : List V).length ≤ sizeLine ∧ ∀ p, H' p = none → Q (.ref p) (upd H' p (.tup [.str tag, u]))
/-- .. with a field of what it gives -/
def dMetA (tag f : Str) (cs : List Nat) (hs : List Hdl) (db : De) : De := fun r G => match db r G with
  | .ok d G' => (match fFld cs f d G' with
    | .ok (.t t) G2 => .ok (.t (.tup [.str tag, t])) G2
    | _ => .stuck)
  | .exc c ns ds G' => catchD c ns ds G' hs
  | .stuck => .stuck
structure MetF (b : Zb) (x a tag f : Str) (g : Addr) (hs : List Hdl) : Prop where
  kp : PySem.W.keepIn b.K (.ref g) = true
  ex : ∃ (pg : Arguments) (bg : List Stmt) (sg : Scope) (dV kV doc pm cdv ct oc : Value) (an od : Option Addr) (osl : Array (Option Value)) (Ng : List Str) (l : List (Value × List Prt)),
    b.K.lookup g = some ⟨oc, od, .func (PySem.W.fnOf x x pg bg sg dV kV doc pm an cdv ct), osl⟩ ∧ PySem.W.codeIn b.K cdv x = true ∧ L2.Binds b.K (PySem.W.fnOf x x pg bg sg dV kV doc pm an cdv ct) [a] [] ∧ FnScope Ng [a] sg ∧ Ng[0]? = some a ∧ Vis sg a ∧ ClsR b.g.toGm0 hs l ∧ okS tag ∧
    ∀ (X : Cx), X.prog = b.P → X.w = b.w → X.K = b.K → X.mg = b.mg → X.base = b.base → Room 1 X.A → LamX.GivesTo X Ng x sg g cdv bg a (X.env.qual ++ "<lambda>") (TTa X.K tag f l)
section
variable {Z : Zc}
end
/-! ### read backwards -/
section
variable {Q : D → Hs → Prop} {E : XP} {d x y : D} {G : Hs} {r : Ev}
theorem e_metA {tag f : Str} {cs : List Nat} {hs : List Hdl} {db : De} (h : Wp (db r G) (fun d G' => ∃ t, fFld cs f d G' = .ok (.t t) G' ∧ Q (.t (.tup [.str tag, t])) G') (fun c ns ds G' => Wp (catchD c ns ds G' hs) Q E)) : Wp (dMetA tag f cs hs db r G) Q E := by
  refine ?G
  exact (by (intro h; exact h) : have h : (type_of% ?G) := (by
  unfold dMetA
  cases e : db r G with
  | ok d G' =>
    rw [e, wp_ok] at h
    obtain ⟨t, h1, h⟩ := h
    simp only [h1]
    exact e_ok h
  | exc c ns ds G' => rw [e] at h; rw [wp_exc] at h; exact h
  | stuck => rw [e] at h; rw [wp_stuck] at h; exact h.elim
 ); type_of% ?G)
theorem f_abs {i : Int} (h : Q (.t (.int (if i < 0 then -i else i))) G) : Wp (fAbs [.t (.int i)] G) Q E := e_ok h
theorem f_sorted {is : List Int} (h1 : asL G d = some (is.map dI)) (hz : is.length < 64) (h : Q (.t (.lst ((sortI is).map T.int))) G) : Wp (fSorted [d] G) Q E := by
  simp only [fSorted, h1, ints_map, hz, if_true]; exact e_ok h
end
end BL

set_option Elab.async false
set_option linter.all false
set_option maxRecDepth 100000
set_option maxHeartbeats 2000000
namespace BL
open PySem PySem.Spec PyProof.Rows L2

/-! ### sum(lists, []) -/
section
variable {prog : Program} {w : World} {A : Around} {E : Value → Shared → Prop} {s : Shared}
theorem PlainL.mv {h h' : Heap} {a : Addr} {its : Array Value} (x : PlainL h a its) (k : ∀ o, h.get? a = some o → h'.get? a = some o) : PlainL h' a its := by
  obtain ⟨o, n, e, r⟩ := x
  exact ⟨o, n, k _ e, r⟩
theorem PlainL.has {h : Heap} {a : Addr} {its : Array Value} (x : PlainL h a its) : ∃ o, h.get? a = some o := by
  obtain ⟨o, n, e, r⟩ := x
  exact ⟨o, e⟩
end
/-- what sum(lists, []) asks and tells -/
def rSumL (K : PySem.W.Frag) : List V → Hp → VK → Prop := fun vs H Q => ∃ (x st : Addr) (as : List Addr) (ls : List (List V)), vs = [.ref x, .ref st] ∧ SqL K H x (as.map V.ref) ∧ SqL K H st [] ∧ as.length = ls.length ∧ (∀ (i : Nat) a l, as[i]? = some a → ls[i]? = some l → SqL K H a l) ∧ ls.flatten.length ≤ sizeLine ∧
  (as = [] → Q (.ref st) H) ∧ ∀ p, H p = none → Q (.ref p) (upd H p (.lst ls.flatten))
def listsT : List D → Option (List (List T))
  | [] => some []
  | .t (.lst ts) :: ds => (listsT ds).map (ts :: ·)
  | _ :: _ => none
def fSumL : List D → Hs → Re := fun ds G => match ds with
  | [d, .t (.lst [])] => (match asL G d with
    | some es => (match listsT es with
      | some ls => if ls.flatten.length ≤ 16777216 then .ok (.t (.lst ls.flatten)) G else .stuck
      | none => .stuck)
    | none => .stuck)
  | _ => .stuck
section
variable {Z : Zc} {e e' : Expr} {d d' : De} {p pos : Pos}
end
section
variable {Q : D → Hs → Prop} {E : XP} {d : D} {G : Hs}
end
end BL

set_option Elab.async false
set_option linter.all false
set_option maxRecDepth 100000
set_option maxHeartbeats 2000000
namespace BL
open PySem PySem.Spec PyProof.Rows L2

/-! ### def x(a): try: return (tag, [y.f for y in a()]) / except C as e: return (..) .. -/
def FldAt (K : PySem.W.Frag) (f : Str) (H : Hp) (x u : V) : Prop := ∃ a C dx fs, x = .ref a ∧ H a = some (.ins C dx fs) ∧ Cls K C ∧ NoAttr K C f ∧ fs.lookup f = some u
def TTl (K : PySem.W.Frag) (tag f : Str) (l : List (Value × List Prt)) : (XK → Hp → VK → Prop) → Hp → VK → Prop := fun tl H Q => ∃ Ech : XK, (∀ cls d H', Ech cls d H' → catchR K cls d H' Q l) ∧ (∀ A B : VK, (∀ v H', A v H' → B v H') → tl Ech H A → tl Ech H B) ∧
  tl Ech H fun v H' => ∃ (a : Addr) (xs us : List V), v = .ref a ∧ SqL K H' a xs ∧ us.length = xs.length ∧ us.length ≤ sizeLine ∧ (∀ (i : Nat) x u, xs[i]? = some x → us[i]? = some u → FldAt K f H' x u) ∧
    ∀ D p, H' D = none → upd H' D (.lst us) p = none → Q (.ref p) (upd (upd H' D (.lst us)) p (.tup [.str tag, .ref D]))
theorem SqL.updN {K : PySem.W.Frag} {H : Hp} {a D : Addr} {xs : List V} {o : HO} (h : SqL K H a xs) (hD : H D = none) : SqL K (upd H D o) a xs :=
  h.imp (fun r => r.imp (fun e => by rw [upd_ne (ne_of_none e hD)]; exact e) fun ⟨ob, e⟩ => ⟨ob, by rw [upd_ne (ne_of_none e hD)]; exact e⟩) id
def fldsD (cs : List Nat) (f : Str) (G : Hs) : List D → Option (List T)
  | [] => some []
  | d :: ds => match fFld cs f d G with
    | .ok (.t t) _ => (fldsD cs f G ds).map (t :: ·)
    | _ => none
/-- .. with that field of each of what it gives -/
def dMetL (tag f : Str) (cs : List Nat) (hs : List Hdl) (db : De) : De := fun r G => match db r G with
  | .ok d G' => (match asL G' d with
    | some ds => (match fldsD cs f G' ds with
      | some ts => .ok (.t (.tup [.str tag, .lst ts])) G'
      | none => .stuck)
    | none => .stuck)
  | .exc c ns ds G' => catchD c ns ds G' hs
  | .stuck => .stuck
structure MetL (b : Zb) (x a tag f : Str) (g : Addr) (hs : List Hdl) : Prop where
  kp : PySem.W.keepIn b.K (.ref g) = true
  ex : ∃ (pg : Arguments) (bg : List Stmt) (sg : Scope) (dV kV doc pm cdv ct oc : Value) (an od : Option Addr) (osl : Array (Option Value)) (Ng : List Str) (l : List (Value × List Prt)),
    b.K.lookup g = some ⟨oc, od, .func (PySem.W.fnOf x x pg bg sg dV kV doc pm an cdv ct), osl⟩ ∧ PySem.W.codeIn b.K cdv x = true ∧ L2.Binds b.K (PySem.W.fnOf x x pg bg sg dV kV doc pm an cdv ct) [a] [] ∧ FnScope Ng [a] sg ∧ Ng[0]? = some a ∧ Vis sg a ∧ ClsR b.g.toGm0 hs l ∧ okS tag ∧
    ∀ (X : Cx), X.prog = b.P → X.w = b.w → X.K = b.K → X.mg = b.mg → X.base = b.base → Room 1 X.A → LamX.GivesTo X Ng x sg g cdv bg a (X.env.qual ++ "<lambda>") (TTl X.K tag f l)
section
variable {Z : Zc}
end
section
variable {Q : D → Hs → Prop} {E : XP} {G : Hs} {r : Ev}
theorem e_metL {tag f : Str} {cs : List Nat} {hs : List Hdl} {db : De} (h : Wp (db r G) (fun d G' => ∃ ds ts, asL G' d = some ds ∧ fldsD cs f G' ds = some ts ∧ Q (.t (.tup [.str tag, .lst ts])) G') (fun c ns ds G' => Wp (catchD c ns ds G' hs) Q E)) : Wp (dMetL tag f cs hs db r G) Q E := by
  refine ?G
  exact (by (intro h; exact h) : have h : (type_of% ?G) := (by
  unfold dMetL
  cases e : db r G with
  | ok d G' =>
    rw [e, wp_ok] at h
    obtain ⟨ds, ts, h1, h2, h⟩ := h
    simp only [h1, h2]
    exact e_ok h
  | exc c ns ds G' => rw [e] at h; rw [wp_exc] at h; exact h
  | stuck => rw [e] at h; rw [wp_stuck] at h; exact h.elim
 ); type_of% ?G)
end
/-! ### name = [.. for .. for ..] -/
section
variable {Z : Zc} {k : List D → Hs → Re} {tg iter tg1 iter1 elt : Expr} {ifs ifs1 : List Expr} {di di1 : Di} {td td1 : Tg} {is is1 vs1 : List Nat} {dt dt1 de : De} {scope : Scope} {own : List (Str × Nat)} {pos : Pos}
end
end BL

set_option Elab.async false
set_option linter.all false
set_option maxRecDepth 100000
set_option maxHeartbeats 4000000
namespace BL
open PySem PySem.Spec PyProof.Rows L2

/-! ### len(set(texts)) -/
/-- the texts met so far, each once -/
def metS (L : List Str) (x : Str) : List Str := if L.any (· == x) then L else L ++ [x]
def metN (xs : List Str) : Nat → List Str
  | 0 => []
  | i + 1 => metS (metN xs i) (xs.getD i Str.empty)
/-- a set that is new -/
abbrev oS (led : Bool) : Obj := { cls := .type "set", dict := none, data := .set #[] 0 (.fresh 0 0 led) }
abbrev hS (h : Heap) (led : Bool) : Heap := h.push (oS led)
section
variable {prog : Program} {w : World} {A : Around} {R : Result → Shared → Prop} {I : Addr} {fp wr : List Addr} {G : Array GenState → Array GenState → Prop} {n : Nat} {P : Nat → Value → Prop} {St : Nat → Shared → Prop}
/-- T is the set, I the walk -/
abbrev TxtAt (prog : Program) (w : World) (T : Addr) (h : Heap) (L : List Str) : Prop := h.SetOf (PySem.strKind prog w) T (fun k => L.any (· == k)) L.length
theorem TxtAt.mv {T : Addr} {h h' : Heap} {L : List Str} (x : TxtAt prog w T h L) (k : ∀ o, h.get? T = some o → h'.get? T = some o) : TxtAt prog w T h' L := by
  obtain ⟨o, es, ep, t, e, r⟩ := x
  exact ⟨o, es, ep, t, k o e, r⟩
end
section
variable {prog : Program} {w : World} {A : Around} {E : Value → Shared → Prop} {s : Shared}
end
section
variable {X : Cx} {a : Expr} {ta : TE} {p p2 q pos : Pos}
def tLenTx (K : PySem.W.Frag) (ta : TE) : TE := fun σ H Q => ta σ H fun x H1 => ∃ (l : Addr) (xs : List Str), x = .ref l ∧ SqL K H1 l (xs.map V.str) ∧ xs.length ≤ 4000 ∧ Q (.int ((metN xs xs.length).length : Nat)) H1
end
end BL

set_option Elab.async false
set_option linter.all false
set_option maxRecDepth 100000
set_option maxHeartbeats 4000000
namespace BL
open PySem PySem.Spec PyProof.Rows PySem.SeqAt L2
open AutoSeq1 (wpAny_loadPart')

/-! ### tuples of own objects, item by item -/
section
variable {prog : Program} {w : World} {A : Around} {R : Result → Shared → Prop}
end
/-! two data that no value has both -/
mutual
def dif : T → T → Bool
  | .str a, .str b => decide (a ≠ b)
  | .int a, .int b => decide (a ≠ b)
  | .tup xs, .tup ys => difs xs ys
  | .obj _ ns xs, .obj _ ms ys => decide (ns = ms) && difs xs ys
  | _, _ => false
def difs : List T → List T → Bool
  | [], [] => false
  | x :: xs, y :: ys => dif x y || difs xs ys
  | _, _ => true
end
theorem zip_same {α β : Type} : ∀ {ns : List α} {xs ys : List β}, xs.length = ns.length → ys.length = ns.length → ns.zip xs = ns.zip ys → xs = ys
  | [], [], [], _, _, _ => rfl
  | n :: ns, x :: xs, y :: ys, h1, h2, e => by
    simp only [List.zip_cons_cons, List.cons.injEq, Prod.mk.injEq, true_and] at e
    rw [e.1, zip_same (by simpa using h1) (by simpa using h2) e.2]
section
variable {X : Cx} {pins : List (Addr × Obj)} {σ : L2.St} {H : Hp} {s : Shared} {g : Gm0} {B : Addr → Prop}
mutual
theorem dif_no (I : Inv X pins σ H s) (hK : g.K = X.K) : ∀ (x y : T) (v : V), dif x y = true → Rp g B H x v → Rp g B H y v → False
  | .str a, .str b, v, h, h1, h2 => by
    simp only [dif, decide_eq_true_eq] at h
    have e := h1.1.symm.trans h2.1
    cases e
    exact h rfl
  | .int a, .int b, v, h, h1, h2 => by
    simp only [dif, decide_eq_true_eq] at h
    have e : V.int a = V.int b := h1.symm.trans h2
    cases e
    exact h rfl
  | .tup xs, .tup ys, v, h, h1, h2 => by
    obtain ⟨a, us, rfl, q1, r1⟩ := h1
    obtain ⟨b, vs, e, q2, r2⟩ := h2
    cases e
    rw [hK] at q1 q2
    obtain rfl := I.tuple_inj q1 q2
    exact difs_no I hK xs ys us (by simpa [dif] using h) r1 r2
  | .obj c ns xs, .obj d ms ys, v, h, h1, h2 => by
    obtain ⟨a, dx, us, rfl, q1, l1, _, r1⟩ := h1
    obtain ⟨b, dy, vs, e, q2, l2, _, r2⟩ := h2
    cases e
    simp only [dif, Bool.and_eq_true, decide_eq_true_eq] at h
    obtain ⟨rfl, h⟩ := h
    rw [q1] at q2
    simp only [Option.some.injEq, HO.ins.injEq] at q2
    obtain rfl := zip_same l1 l2 q2.2.2
    exact difs_no I hK xs ys us h r1 r2
  | .non, _, _, h, _, _ => by simp [dif] at h
  | .bl _, _, _, h, _, _ => by simp [dif] at h
  | .lst _, _, _, h, _, _ => by simp [dif] at h
  | .dk _ _, _, _, h, _, _ => by simp [dif] at h
  | .ftp _, _, _, h, _, _ => by simp [dif] at h
  | .cls _, _, _, h, _, _ => by simp [dif] at h
  | .nd _ _, _, _, h, _, _ => by simp [dif] at h
  | .str _, .non, _, h, _, _ | .str _, .bl _, _, h, _, _ | .str _, .int _, _, h, _, _ | .str _, .tup _, _, h, _, _ | .str _, .lst _, _, h, _, _ | .str _, .dk _ _, _, h, _, _ | .str _, .obj _ _ _, _, h, _, _ | .str _, .ftp _, _, h, _, _ | .str _, .cls _, _, h, _, _ | .str _, .nd _ _, _, h, _, _ => by simp [dif] at h
  | .int _, .non, _, h, _, _ | .int _, .bl _, _, h, _, _ | .int _, .str _, _, h, _, _ | .int _, .tup _, _, h, _, _ | .int _, .lst _, _, h, _, _ | .int _, .dk _ _, _, h, _, _ | .int _, .obj _ _ _, _, h, _, _ | .int _, .ftp _, _, h, _, _ | .int _, .cls _, _, h, _, _ | .int _, .nd _ _, _, h, _, _ => by simp [dif] at h
  | .tup _, .non, _, h, _, _ | .tup _, .bl _, _, h, _, _ | .tup _, .str _, _, h, _, _ | .tup _, .int _, _, h, _, _ | .tup _, .lst _, _, h, _, _ | .tup _, .dk _ _, _, h, _, _ | .tup _, .obj _ _ _, _, h, _, _ | .tup _, .ftp _, _, h, _, _ | .tup _, .cls _, _, h, _, _ | .tup _, .nd _ _, _, h, _, _ => by simp [dif] at h
  | .obj _ _ _, .non, _, h, _, _ | .obj _ _ _, .bl _, _, h, _, _ | .obj _ _ _, .str _, _, h, _, _ | .obj _ _ _, .int _, _, h, _, _ | .obj _ _ _, .lst _, _, h, _, _ | .obj _ _ _, .dk _ _, _, h, _, _ | .obj _ _ _, .tup _, _, h, _, _ | .obj _ _ _, .ftp _, _, h, _, _ | .obj _ _ _, .cls _, _, h, _, _ | .obj _ _ _, .nd _ _, _, h, _, _ => by simp [dif] at h
theorem difs_no (I : Inv X pins σ H s) (hK : g.K = X.K) : ∀ (xs ys : List T) (vs : List V), difs xs ys = true → Rps g B H xs vs → Rps g B H ys vs → False
  | [], [], _, h, _, _ => by simp [difs] at h
  | x :: xs, y :: ys, _, h, ⟨v, ws, e, q1, r1⟩, ⟨v', ws', e', q2, r2⟩ => by
    subst e
    cases e'
    simp only [difs, Bool.or_eq_true] at h
    rcases h with h | h
    · exact dif_no I hK x y v h q1 q2
    · exact difs_no I hK xs ys ws h r1 r2
  | [], y :: ys, _, _, e, ⟨v', ws', e', _, _⟩ => by
    have e : _ = ([] : List V) := e
    rw [e] at e'; cases e'
  | x :: xs, [], _, _, ⟨v, ws, e, _, _⟩, e' => by
    have e' : _ = ([] : List V) := e'
    rw [e'] at e; cases e
end
end
/-! the pairs by the own == of the class c -/
def isT (c : Nat) : T → Bool
  | .obj c' _ _ => decide (c' = c)
  | _ => false
open Classical in
noncomputable def eqTs (c : Nat) (F : Fd) (G : Hs) : List T → List T → Option Bool
  | x :: xs, y :: ys => if isT c x = true ∧ isT c y = true then (match F [.t x, .t y] G with
    | .ok (.t (.bl true)) G' => if G' = G then eqTs c F G xs ys else none
    | .ok (.t (.bl false)) G' => if G' = G ∧ dif x y = true then some false else none
    | _ => none) else none
  | [], [] => some true
  | _, _ => some false
noncomputable def fTupO (c : Nat) (F : Fd) : D → D → Hs → Re
  | .t (.tup xs), .t (.tup ys), G => match eqTs c F G xs ys with
    | some b => .ok (.t (.bl b)) G
    | none => .stuck
  | _, _, _ => .stuck
def rTupO (g : Gm) (c : Nat) (F : Fd) : R2 := fun v u H Q => ∃ m G xs ys b, SR g m H G ∧ Rp g.toGm0 (Bv g m G.length) H (.tup xs) v ∧ Rp g.toGm0 (Bv g m G.length) H (.tup ys) u ∧ eqTs c F G xs ys = some b ∧ ∀ m' H', Ex m G.length H m' G.length H' → SR g m' H' G → Q (.bl b) H'
section
variable {Z : Zc} {X : Cx} {W : WX} {c k : Nat} {f : Addr} {fd : FuncData} {ps : List Str} {F : Fd}
end
section
variable {Z : Zc} {a b : Expr} {da db : De} {c k : Nat} {oth : List Nat} {f : Addr} {ps : List Str} {F : Fd} {pos : Pos}
end
end BL

set_option Elab.async false
set_option linter.all false
set_option maxRecDepth 100000
set_option maxHeartbeats 4000000
namespace BL
open PySem PySem.Spec PyProof.Rows L2

/-! ### {k: v}, the key any expression -/
def dDisp1 (dk dv : De) : De := fun r G => (dk r G).bind fun x G1 => (dv r G1).bind fun y G2 => match keyOf x with
  | some k => .ok (.loc G2.length) (G2 ++ [.dk [(k, y)]])
  | none => .stuck
section
variable {Z : Zc} {ke ve : Expr} {dk dv : De} {pos : Pos}
end
/-! ### a + b, a new list that may be changed -/
def fAddL : D → D → Hs → Re := fun x y G => match asL G x, asL G y with
  | some a, some b => if a.length + b.length ≤ sizeLine then .ok (.loc G.length) (G ++ [.lst (a ++ b)]) else .stuck
  | _, _ => .stuck
/-! ### len(set(texts)) -/
def strD : D → Option Str
  | .t (.str x) => some x
  | _ => none
def strsD : List D → Option (List Str)
  | [] => some []
  | d :: ds => match strD d, strsD ds with
    | some x, some xs => some (x :: xs)
    | _, _ => none
def fLenTx : List D → Hs → Re := fun ds G => match ds with
  | [x] => (match asL G x with
    | some es => (match strsD es with
      | some xs => if xs.length ≤ 4000 then .ok (.t (.int ((metN xs xs.length).length : Nat))) G else .stuck
      | none => .stuck)
    | none => .stuck)
  | _ => .stuck
section
variable {Z : Zc} {e a b : Expr} {d da db : De} {p p2 q pos : Pos}
end
/-! ### try: e / except C as n: return n.f == x -/
def dTryQ (sel : Nat → Option Bool) (c0 : Nat) (f : Str) (j : Nat) (d : De) : Dst := fun r G => match d r G with
  | .ok _ G' => .nx r G'
  | .exc c ns ds G' => (match sel c with
    | some true => (match ptsV c ns ds [.fld c0 f], r[j]? with
      | some [t], some (some y) => (fEq false (.t t) y G').ret r
      | _, _ => .stuck)
    | some false => .exc c ns ds r G'
    | none => .stuck)
  | .stuck => .stuck
section
variable {Z : Zc} {e : Expr} {d : De} {n x y f : Str} {i j c0 : Nat} {C : Addr} {v : Value} {h0 : ExceptHandler} {sel : Nat → Option Bool} {p p1 p2 p3 p4 p5 np hp pos : Pos}
end
/-! ### read backwards -/
theorem whileLoop_same {c : De} {b : Dst} : ∀ {n k : Nat} {r : Ev} {G : Hs}, whileLoop c b n r G ≠ .stuck → whileLoop c b k r G ≠ .stuck → whileLoop c b n r G = whileLoop c b k r G
  | 0, _, _, _, h, _ => absurd rfl h
  | _ + 1, 0, _, _, _, h => absurd rfl h
  | n + 1, k + 1, r, G, h1, h2 => by
    unfold whileLoop at h1 h2 ⊢
    cases e : dT c r G with
    | stuck => rfl
    | exc _ _ _ _ => rfl
    | ok x G1 =>
      rw [e] at h1 h2
      simp only [thn_ok] at h1 h2 ⊢
      split
      · cases eb : b r G1 with
        | nx r2 G2 =>
          simp only [eb] at h1 h2
          exact whileLoop_same h1 h2
        | ct r2 G2 =>
          simp only [eb] at h1 h2
          exact whileLoop_same h1 h2
        | bk _ _ => rfl
        | rt _ _ => rfl
        | exc _ _ _ _ _ => rfl
        | stuck => rfl
      · rfl
      · rfl
section
variable {Q : D → Hs → Prop} {E : XP} {N : NP} {R : TP} {B C : NP} {X : XP} {x y z : D} {G : Hs} {r : Ev}
/-- a while, by an invariant that bears a number which falls -/
theorem s_while {c : De} {b : Dst} (I : Nat → Ev → Hs → Prop) {n0 : Nat} (h0 : I n0 r G)
    (hs : ∀ n r G, I n r G → Wp (c r G) (fun x G1 => Wt (truth G1 x) (Ws (b r G1) (fun r2 G2 => ∃ k, k < n ∧ I k r2 G2) R N (fun r2 G2 => ∃ k, k < n ∧ I k r2 G2) X) (N r G1)) X) : Ws (dWhile c b r G) N R B C X := by
  refine ?G
  exact (by (intro h; exact h) : have h : (type_of% ?G) := (by
  have main : ∀ n r G, I n r G → ∃ k, whileLoop c b k r G ≠ .stuck ∧ Ws (whileLoop c b k r G) N R B C X := by
    intro n
    induction n using Nat.strongRecOn with
    | _ n ih =>
      intro r G hI
      have h := hs n r G hI
      rw [← wp_T (Q := fun x G1 => match x with
        | .t (.bl true) => Ws (b r G1) (fun r2 G2 => ∃ k, k < n ∧ I k r2 G2) R N (fun r2 G2 => ∃ k, k < n ∧ I k r2 G2) X
        | .t (.bl false) => N r G1
        | _ => False)] at h
      cases e : dT c r G with
      | stuck => rw [e, wp_stuck] at h; exact h.elim
      | exc c3 ns3 ds3 G3 =>
        rw [e, wp_exc] at h
        have ew : whileLoop c b 1 r G = .exc c3 ns3 ds3 r G3 := by rw [whileLoop, e]; rfl
        exact ⟨1, by rw [ew]; exact fun z => (nomatch z), by rw [ew]; with_unfolding_all exact h⟩
      | ok x G1 =>
        rw [e, wp_ok] at h
        split at h
        · cases eb : b r G1 with
          | nx r2 G2 =>
            rw [eb, ws_nx] at h
            obtain ⟨k, hk, hI2⟩ := h
            obtain ⟨k2, a1, a2⟩ := ih k hk r2 G2 hI2
            have ew : whileLoop c b (k2 + 1) r G = whileLoop c b k2 r2 G2 := by
              rw [whileLoop, e]; simp only [thn_ok, eb]
            exact ⟨k2 + 1, by rw [ew]; exact a1, by rw [ew]; exact a2⟩
          | ct r2 G2 =>
            rw [eb, ws_ct] at h
            obtain ⟨k, hk, hI2⟩ := h
            obtain ⟨k2, a1, a2⟩ := ih k hk r2 G2 hI2
            have ew : whileLoop c b (k2 + 1) r G = whileLoop c b k2 r2 G2 := by
              rw [whileLoop, e]; simp only [thn_ok, eb]
            exact ⟨k2 + 1, by rw [ew]; exact a1, by rw [ew]; exact a2⟩
          | bk r2 G2 =>
            rw [eb, ws_bk] at h
            have ew : whileLoop c b 1 r G = .nx r2 G2 := by rw [whileLoop, e]; simp only [thn_ok, eb]
            exact ⟨1, by rw [ew]; exact fun z => (nomatch z), by rw [ew, ws_nx]; exact h⟩
          | rt d G2 =>
            rw [eb, ws_rt] at h
            have ew : whileLoop c b 1 r G = .rt d G2 := by rw [whileLoop, e]; simp only [thn_ok, eb]
            exact ⟨1, by rw [ew]; exact fun z => (nomatch z), by rw [ew, ws_rt]; exact h⟩
          | exc c3 ns3 ds3 r3 G3 =>
            rw [eb] at h
            have ew : whileLoop c b 1 r G = .exc c3 ns3 ds3 r3 G3 := by rw [whileLoop, e]; simp only [thn_ok, eb]
            exact ⟨1, by rw [ew]; exact fun z => (nomatch z), by rw [ew]; with_unfolding_all exact h⟩
          | stuck => rw [eb, ws_stuck] at h; exact h.elim
        · have ew : whileLoop c b 1 r G = .nx r G1 := by rw [whileLoop, e]; simp only [thn_ok]
          exact ⟨1, by rw [ew]; exact fun z => (nomatch z), by rw [ew, ws_nx]; exact h⟩
        · exact h.elim
  obtain ⟨k, a1, a2⟩ := main n0 r G h0
  unfold dWhile
  have hex : ∃ n, whileLoop c b n r G ≠ .stuck := ⟨k, a1⟩
  rw [dif_pos hex, whileLoop_same (Classical.choose_spec hex) a1]
  exact a2
 ); type_of% ?G)
theorem e_disp1 {dk dv : De} (h : Wp (dk r G) (fun x G1 => Wp (dv r G1) (fun y G2 => ∃ k, keyOf x = some k ∧ Q (.loc G2.length) (G2 ++ [.dk [(k, y)]])) E) E) : Wp (dDisp1 dk dv r G) Q E := by
  unfold dDisp1
  rw [wp_bind]
  refine h.mono (fun x G1 h => ?_) fun _ _ _ _ z => z
  rw [wp_bind]
  refine h.mono (fun y G2 h => ?_) fun _ _ _ _ z => z
  obtain ⟨k, e, h⟩ := h
  rw [e]
  exact e_ok h
end
end BL

set_option Elab.async false
set_option linter.all false
set_option maxRecDepth 100000
set_option maxHeartbeats 4000000
namespace LamY
open PySem PySem.Spec PyProof.Rows L2 LamX

/-! ### x(lambda a=n: body): one parameter with a default that the body leaves alone -/
/-- the lambda's scope: a is its own, all else is captured or global; N: the maker's names -/
structure ScpD (N : List Str) (sc scope : Scope) (a : Str) : Prop where
  kind : scope.kind = .function
  co : scope.isCoroutine = false
  gen : scope.isGenerator = false
  cell : ∀ y ∈ scope.names, y.2 ≠ .cell
  own : ∀ y ∈ scope.names, y.2 = .local → y.1 ∉ N
  par : scope.names.lookup a = some .local
  free : ∀ y ∈ scope.names, y.2 = .free → sc.names.lookup y.1 = some .cell ∨ sc.names.lookup y.1 = some .free
def scpDB (N : List Str) (sc scope : Scope) (a : Str) : Bool :=
  decide (scope.kind = .function) && (!scope.isCoroutine && (!scope.isGenerator && (decide (scope.names.lookup a = some .local) &&
    scope.names.all fun y => !decide (y.2 = .cell) && ((!decide (y.2 = .local) || !N.contains y.1) && (!decide (y.2 = .free) || (decide (sc.names.lookup y.1 = some .cell) || decide (sc.names.lookup y.1 = some .free)))))))
theorem ScpD.has {X : Cx} {N : List Str} {scope : Scope} {a : Str} (L : ScpD N X.env.scope scope a) (ok : X.Ok) : ∀ y ∈ scope.names, y.2 = .free → ∃ c, X.env.cells.lookup y.1 = some c := fun y hy e => (L.free y hy e).elim (fun k => ok.has _ (.inl k)) fun k => ok.has _ (.inr k)
abbrev oD (q : Str) (params : Arguments) (body : Expr) (scope : Scope) (cl : List (Str × Addr)) (t : Addr) (doc pm : Value) (c' : Addr) (ctv : Value) : Obj := PySem.W.kdv_obj "<lambda>" q params (.expr body) scope cl (.ref t) doc pm c' ctv
section
variable {X : Cx} {pins : List (Addr × Obj)} {σ : L2.St} {H HZ : Hp} {s s1 : Shared}
/-- how its call binds -/
def BindD (params : Arguments) (body : Expr) (scope : Scope) (a : Str) : Prop := ∀ (q : Str) (cl : List (Str × Addr)) (t : Addr) (doc pm cv ctv : Value), ∃ k : Option (Array Value) → Sem (List (Str × Value)),
  bindArgs (PySem.W.kdv_fn "<lambda>" q params (.expr body) scope cl (.ref t) doc pm cv ctv) ⟨[], []⟩ = seqItems? (.ref t) >>= k ∧ ∀ v, k (some #[v]) = pure [(a, v)]
end
section
variable {X : Cx}
end
end LamY

set_option Elab.async false
set_option linter.all false
set_option maxRecDepth 100000
set_option maxHeartbeats 4000000
namespace BL
open PySem PySem.Spec PyProof.Rows L2

/-! ### repr(x) -/
def fRepr : List D → Hs → Re := fun ds G => match ds with
  | [.t t] => (match reprT t with
    | some y => if PyData.strOk y = true then .ok (.t (.str y)) G else .stuck
    | none => .stuck)
  | _ => .stuck
section
variable {Z : Zc} {e a b : Expr} {d da db : De} {p pos : Pos}
theorem pd_repr (hm : Z.mg "repr" = none) (h : PD Z e d) (hg : GlS Z "repr" := by rfl) (hs : ∀ env, starEach [e] env = (false, eval e env) :: starEach [] env := by intro _; rfl) : PD Z (.Call (.Name "repr" p) [e] [] pos) (dArgs [d] fRepr) := by
  refine ?G
  exact (by (intro h; exact h) : have h : (type_of% ?G) := (fun X W ok => by
  refine peI (pe_callB (call_reprV ok.rm.gs) (show X.env.scope.names.lookup _ = _ by rw [ok.sc]; exact hg) (by rw [ok.mg]; exact hm) (by decide +kernel) (pa_cons (h X W ok) pa_nil (hs _)) (by decide) (by decide) (hs _) rfl) fun σ H Q h => ?_
  obtain ⟨m, r, G, s, sl, p⟩ := h
  refine tI_bind s sl p fun x G1 v m1 H1 e1 x1 s1 sl1 rv p1 => ?_
  change PostE Z.g W m1 G1.length H1 σ Q (fRepr [x] G1) at p1
  unfold fRepr at p1
  split at p1
  · rename_i t hx
    cases hx
    cases ey : reprT t with
    | none => rw [ey] at p1; exact p1.elim
    | some y =>
      rw [ey] at p1
      simp only at p1
      split at p1
      · rename_i hy
        exact ⟨v, y, rfl, show ReprV X.K _ _ _ from ok.K ▸ reprT_v rv ey, PostE.ok s1 p1 ⟨rfl, hy⟩⟩
      · exact p1.elim
  · exact p1.elim
 ); type_of% ?G)
end
/-! ### x in t, t a tuple of the ftp kind -/
def asTup : D → D
  | .t (.ftp ts) => .t (.tup ts)
  | x => x
def fInF (neg : Bool) : D → D → Hs → Re := fun x y G => fInT neg x (asTup y) G
section
variable {Z : Zc} {a b : Expr} {da db : De} {pos : Pos}
end
/-! ### x(lambda a=n: body), x a def that tells refusals -/
section
variable {Z : Zc}
end
/-! ### read backwards -/
section
variable {Q : D → Hs → Prop} {E : XP} {x y z : D} {G : Hs} {r : Ev}
theorem f_repr {t : T} {w : Str} (h1 : reprT t = some w) (h2 : PyData.strOk w = true) (h : Q (.t (.str w)) G) : Wp (fRepr [.t t] G) Q E := by
  simp only [fRepr, h1, h2, if_true]; exact e_ok h
end
end BL

set_option Elab.async false
set_option linter.all false
set_option maxRecDepth 100000
set_option maxHeartbeats 4000000
namespace BL
open PySem PySem.Spec PyProof.Rows L2

/-! ### tuples of located things -/
noncomputable def fTplL : List D → Hs → Re := fun ds G => if ds.length ≤ sizeLine then .ok (.loc G.length) (G ++ [.tpl ds]) else .stuck
def fIxP : D → D → Hs → Re := fun x y G => match x with
  | .loc i => (match G[i]? with
    | some (.tpl ds) => (match y with
      | .t (.int k) => (match atI ds k with
        | some d => .ok d G
        | none => .stuck)
      | _ => .stuck)
    | _ => fIx (.loc i) y G)
  | .t t => fIx (.t t) y G
section
variable {g : Gm} {m : Nat → Addr} {H : Hp} {G : Hs}
end
section
variable {Z : Zc} {es : List Expr} {das : List De} {a b l : Expr} {da db dl : De} {pos p2 : Pos} {x1 : Nat}
/-! ### {} -/
def dDict0 : De := fun _ G => .ok (.loc G.length) (G ++ [.dk []])
/-! ### a text times a number -/
def repS (z : Str) (n : Int) : Str := ⟨(List.replicate n.toNat z.cps).foldl (· ++ ·) #[]⟩
def rMulS : R2 := fun x y H Q => ∃ z n, x = .str z ∧ y = .int n ∧ (1 ≤ n ∧ n ≤ 1000 ∧ 1 ≤ z.length ∧ z.length ≤ 1000) ∧ (repS z n).length ≤ sizeLine ∧ Q (.str (repS z n)) H
def fMulS : D → D → Hs → Re := fun x y G => match x, y with
  | .t (.str z), .t (.int n) => if (1 ≤ n ∧ n ≤ 1000 ∧ 1 ≤ z.length ∧ z.length ≤ 1000) ∧ (repS z n).length ≤ sizeLine ∧ PyData.strOk (repS z n) = true then .ok (.t (.str (repS z n))) G else .stuck
  | _, _ => .stuck
/-! ### l[u:] as a new located list -/
def fSlLo (x : D) (j : Int) (G : Hs) : Re := match asL G x with
  | some ds => (match plain ds with
    | some ts => .ok (.loc G.length) (G ++ [.lst ((cutA ts (some j) none).map D.t)])
    | none => .stuck)
  | none => .stuck
def dSlLo (a u : De) : De := fun r G => (a r G).bind fun x G1 => (u r G1).bind fun y G2 => match y with | .t (.int j) => fSlLo x j G2 | _ => .stuck
end
/-! ### read backwards -/
section
variable {Q : D → Hs → Prop} {E : XP} {x y z : D} {G : Hs} {r : Ev}
end
end BL

set_option Elab.async false
set_option linter.all false
set_option maxRecDepth 100000
set_option maxHeartbeats 4000000
namespace BL
open PySem PySem.Spec PyProof.Rows L2

/-! ### continue -/
def dCont : Dst := fun r G => .ct r G
/-! ### a, b, c, d = x, x a list or a tuple of as many -/
def asU (G : Hs) : D → Option (List D)
  | .t (.tup ts) => some (ts.map D.t)
  | .t (.lst ts) => some (ts.map D.t)
  | .t _ => none
  | .loc i => match G[i]? with
    | some (.tpl ds) => some ds
    | some (.lst ds) => some ds
    | _ => none
def dUnpN (is : List Nat) (d : De) : Dst := fun r G => (d r G).thn r fun x G1 => match asU G1 x with
  | some ds => if ds.length = is.length then .nx (setsE r is ds) G1 else .stuck
  | none => .stuck
section
variable {g : Gm} {m : Nat → Addr} {H : Hp} {G : Hs}
end
section
variable {Z : Zc} {e : Expr} {ns : List Expr} {d : De} {is : List Nat} {pt pos : Pos} {kt : Nat}
end
section
variable {X : XP} {N : NP} {R : TP} {B C : NP} {G : Hs} {r : Ev}
end
end BL

set_option Elab.async false
set_option linter.all false
set_option maxRecDepth 100000
set_option maxHeartbeats 4000000
namespace BL
open PySem PySem.Spec PyProof.Rows L2

/-! ### a walk over a list of pairs, some of them located -/
def imQ (G : Hs) : D → Im
  | .loc j => (match G[j]? with
    | some (.tpl [a, b]) => .two a b
    | _ => .one (.loc j))
  | d => .one d
def iSQ (d : De) : Di := fun r G => (d r G).itr fun x G1 => match asT x with
  | some ds => .ok (ds.map Im.one) none G1
  | none => match asL G1 x with
    | some ds => .ok (ds.map (imQ G1)) (kpOf G1 x) G1
    | none => .stuck
section
variable {g : Gm} {m : Nat → Addr} {n : Nat} {H : Hp} {G : Hs}
end
section
variable {Z : Zc} {tg e : Expr} {d : De} {p pos : Pos}
/-! ### len(x), x a located tuple too -/
def fLenP : List D → Hs → Re := fun ds G => match ds with
  | [.loc i] => (match G[i]? with
    | some (.tpl es) => .ok (.t (.int es.length)) G
    | _ => fLen ds G)
  | _ => fLen ds G
end
section
variable {Q : D → Hs → Prop} {E : XP} {G : Hs} {r : Ev}
end
end BL

set_option Elab.async false
set_option linter.all false
set_option maxRecDepth 100000
set_option maxHeartbeats 4000000
namespace BL
open PySem PySem.Spec PyProof.Rows L2

/-! ### list(range(e)), one that may be changed -/
def fRgLL : D → Hs → Re
  | .t (.int n), G => if 0 ≤ n ∧ n ≤ 16777216 then .ok (.loc G.length) (G ++ [.lst (((List.range n.toNat).map fun i => T.int (i : Nat)).map D.t)]) else .stuck
  | _, _ => .stuck
section
variable {Z : Zc} {e : Expr} {d : De} {p pos p2 pos2 : Pos}
end
end BL

set_option Elab.async false
set_option linter.all false
set_option maxRecDepth 100000
set_option maxHeartbeats 4000000
namespace BL
open PySem PySem.Spec PyProof.Rows L2

/-! ### the entries of a dict with tuple keys -/
def valN (es : Nd) (k : NestedKey) : Option V := (es.find? fun e => decide (e.1 = k)).map (·.2.2)
def updN (k : NestedKey) (v : V) : NestedKey × Addr × V → NestedKey × Addr × V := fun e => if e.1 = k then (e.1, e.2.1, v) else e
def putN (es : Nd) (k : NestedKey) (b : Addr) (v : V) : Nd := if (valN es k).isSome then es.map (updN k v) else es ++ [(k, b, v)]
theorem valN_cons {p : NestedKey × Addr × V} {ps : Nd} {k : NestedKey} : valN (p :: ps) k = if p.1 = k then some p.2.2 else valN ps k := by
  unfold valN
  rw [List.find?_cons]
  by_cases h : p.1 = k <;> simp [h]
theorem atKey_cons {q : NestedKey × Addr × Value} {qs : NdX} {k : NestedKey} : atKey (q :: qs) k = if q.1 = k then some q.2 else atKey qs k := by
  unfold atKey
  rw [List.find?_cons]
  by_cases h : q.1 = k <;> simp [h]
theorem NdR.val {k : NestedKey} : ∀ {es : Nd} {xs : NdX}, NdR es xs → RelO (valN es k) ((atKey xs k).map (·.2)) := by
  intro es xs r
  induction r with
  | nil => trivial
  | @cons p q ps qs h t ih =>
    rw [valN_cons, atKey_cons, ← h.1]
    by_cases e : p.1 = k
    · rw [if_pos e, if_pos e]; exact h.2.2
    · rw [if_neg e, if_neg e]; exact ih
theorem NdR.upd {k : NestedKey} {v : V} {u : Value} (rv : RelV v u) : ∀ {es : Nd} {xs : NdX}, NdR es xs → NdR (es.map (updN k v)) (xs.map (putAt k u)) := by
  intro es xs r
  induction r with
  | nil => exact .nil
  | @cons p q ps qs h t ih =>
    refine .cons ?_ ih
    unfold updN putAt
    rw [← h.1]
    by_cases e : p.1 = k
    · rw [if_pos e, if_pos e]; exact ⟨rfl, h.2.1, rv⟩
    · rw [if_neg e, if_neg e]; exact h
theorem NdR.snoc {p : NestedKey × Addr × V} {q : NestedKey × Addr × Value} (h : p.1 = q.1 ∧ p.2.1 = q.2.1 ∧ RelV p.2.2 q.2.2) : ∀ {es : Nd} {xs : NdX}, NdR es xs → NdR (es ++ [p]) (xs ++ [q]) := by
  intro es xs r
  induction r with
  | nil => exact .cons h .nil
  | cons h' t ih => exact .cons h' ih
theorem NdR.put {k : NestedKey} {b : Addr} {v : V} {u : Value} (rv : RelV v u) {es : Nd} {xs : NdX} (r : NdR es xs) : NdR (putN es k b v) (storedH xs k b u) := by
  refine ?G
  exact (by (intro h; exact h) : have h : (type_of% ?G) := (by
  have h := r.val (k := k)
  unfold putN storedH
  cases e1 : valN es k with
  | none =>
    cases e2 : atKey xs k with
    | none => exact NdR.snoc ⟨rfl, rfl, rv⟩ r
    | some p => rw [e1, e2] at h; exact (show False from h).elim
  | some y =>
    cases e2 : atKey xs k with
    | none => rw [e1, e2] at h; exact (show False from h).elim
    | some p => exact NdR.upd rv r
 ); type_of% ?G)
theorem NdR.len {es : Nd} {xs : NdX} (r : NdR es xs) : es.length = xs.length := Paired.length r
theorem NdR.at {i : Nat} {x : NestedKey × Addr × Value} : ∀ {es : Nd} {xs : NdX}, NdR es xs → xs[i]? = some x → ∃ e, es[i]? = some e ∧ e.1 = x.1 ∧ e.2.1 = x.2.1 ∧ RelV e.2.2 x.2.2 := by
  intro es xs r
  induction r generalizing i with
  | nil => intro h; simp at h
  | @cons p q ps qs h t ih =>
    intro hi
    cases i with
    | zero => simp at hi; subst hi; exact ⟨p, rfl, h⟩
    | succ j => simp at hi; obtain ⟨e, e1, e2⟩ := ih hi; exact ⟨e, by simpa using e1, e2⟩
theorem putN_len {es : Nd} {k : NestedKey} {b : Addr} {v : V} : (putN es k b v).length ≤ es.length + 1 := by
  unfold putN
  split
  · rw [List.length_map]; omega
  · rw [List.length_append]; exact Nat.le_refl _
/-! ### d[k], k in d, d[k] = v -/
def KeyA (X : Cx) (H : Hp) (k : NestedKey) (b : Addr) : Prop := KeyV X.K H k (.ref b) ∧ k.depth ≤ 8
def NdH (X : Cx) (H : Hp) (a : Addr) (es : Nd) : Prop := ∃ ep, H a = some (ndO X.w a es ep) ∧ ∀ e ∈ es, KeyA X H e.1 e.2.1
/-- .. it may be locked -/
def NdG (X : Cx) (H : Hp) (a : Addr) (es : Nd) : Prop := ∃ ep, Rd H a (ndO X.w a es ep) ∧ ∀ e ∈ es, KeyA X H e.1 e.2.1
theorem NdH.g {X : Cx} {H : Hp} {a : Addr} {es : Nd} (h : NdH X H a es) : NdG X H a es := by
  obtain ⟨ep, h, k⟩ := h
  exact ⟨ep, .inl h, k⟩
section
variable {X : Cx} {pins : List (Addr × Obj)} {σ : L2.St} {H : Hp} {s : Shared} {a b : Addr} {es : Nd} {k : NestedKey} {v : V} {r : Value} {A : Around} {E : Value → Shared → Prop}
theorem KeyA.is (I : Inv X pins σ H s) (h : KeyA X H k b) : (nestedKind X.prog X.w).is s.heap k b := ⟨KeyV.is I _ _ _ h.1 rfl, h.2⟩
theorem nd_of (I : Inv X pins σ H s) (n : NdG X H a es) : es.length ≤ sizeLine ∧ (a == sysModules) = false ∧ ∃ xs, NdR es xs ∧ s.heap.DictOfH (nestedKind X.prog X.w) a xs := by
  refine ?G
  exact (by (intro h; exact h) : have h : (type_of% ?G) := (by
  obtain ⟨ep, h, hk⟩ := n
  obtain ⟨z, d, xs, q, o, ar, e, q1, q2, q3, q4⟩ := (show ObjOk X.prog X.w H s.heap a (ndO X.w a es ep) from h.ok I.hok).1
  refine ⟨z, d, xs, q, o, ar, ep, e, q1, q2, q3, fun x hx => ?_, q4⟩
  obtain ⟨i, hi⟩ := List.mem_iff_getElem?.mp hx
  obtain ⟨e', he, h1, h2, _⟩ := q.at hi
  have := hk e' (List.mem_of_getElem? he)
  rw [h1, h2] at this
  exact this.is I
 ); type_of% ?G)
theorem n_room (hu : A.units + 9 < cLine) : (nestedKind X.prog X.w).room A.in1 := by show A.units + 1 + 8 < cLine; omega
/-- the object behind a store -/
theorem n_stored {h' : Heap} {t : Nat} {xs : NdX} (I : Inv X pins σ H s) (mu : Mut (H a)) (z : es.length < sizeLine) (hd : (a == sysModules) = false) (q : NdR es xs) (rv : RelV v r) (dd : h'.DictOfH (nestedKind X.prog X.w) a (storedH xs k b r)) (sb : Heap.SameBut a s.heap h') :
    ∃ ep, Inv X pins σ (upd H a (ndO X.w a (putN es k b v) ep)) { s with heap := h', toks := t } := by
  obtain ⟨o, ar, ep, e, q1, q2, q3, _, q4⟩ := dd
  have hz := putN_len (es := es) (k := k) (b := b) (v := v)
  exact ⟨ep, d_write I mu sb ⟨o, e⟩ (ndP_ok ⟨by omega, hd, _, q.put rv, o, ar, e, q1, q2, q3, q4⟩)⟩
theorem n_set {Q : Unit → Shared → Prop} (hu : A.units + 9 < cLine) (I : Inv X pins σ H s) (n : NdH X H a es) (hk : KeyA X H k b) (z : es.length < sizeLine) (rv : RelV v r) (h : ∀ ep s', Inv X pins σ (upd H a (ndO X.w a (putN es k b v) ep)) s' → Q () s') :
    wpAny (model X.prog X.w) A (setItem (.ref a) (.ref b) r) Q E s := by
  refine ?G
  exact (by (intro h; exact h) : have h : (type_of% ?G) := (by
  obtain ⟨_, hd, xs, q, dd⟩ := nd_of I n.g
  obtain ⟨ep0, ha, _⟩ := n
  refine wpAny_setItem_heap (hsz := by rw [← q.len]; omega) (n_room hu) (hk.is I) dd fun h' dd' sb => ?_
  obtain ⟨ep, J⟩ := n_stored (t := s.toks + (nestedKind X.prog X.w).draws k) I (by rw [ha]; trivial) z hd q rv dd' sb
  exact h ep _ J
 ); type_of% ?G)
/-! trees -/
def nGet (X : Cx) : R2 := fun x y H2 Q => ∃ a es k b v, x = .ref a ∧ y = .ref b ∧ NdG X H2 a es ∧ KeyA X H2 k b ∧ valN es k = some v ∧ Q v H2
def nIn (X : Cx) (neg : Bool) : R2 := fun y x H2 Q => ∃ a es k b, x = .ref a ∧ y = .ref b ∧ NdG X H2 a es ∧ KeyA X H2 k b ∧ Q (.bl (if neg then !(valN es k).isSome else (valN es k).isSome)) H2
end
section
variable {X : Cx} {o i e : Expr} {td ty te : TE} {pos pos' : Pos}
def sNput (X : Cx) (td ty te : TE) : TS := fun D σ H => te σ H fun v H1 => td σ H1 fun x H2 => ty σ H2 fun y H3 => ∃ a es k b, x = .ref a ∧ y = .ref b ∧ NdH X H3 a es ∧ KeyA X H3 k b ∧ es.length < sizeLine ∧ ∀ ep, D.nx σ (upd H3 a (ndO X.w a (putN es k b v) ep))
/-- {} -/
def tNnew (X : Cx) : TE := fun _ H Q => ∀ p, H p = none → Q (.ref p) (upd H p (ndO X.w p [] 0))
/-- {k: v} -/
def tNone1 (X : Cx) (tk tv : TE) : TE := fun σ H Q => ∀ p, H p = none → tk σ (upd H p (ndO X.w p [] 0)) fun y H1 => tv σ H1 fun v H2 => ∃ ep k b, y = .ref b ∧ H2 p = some (ndO X.w p [] ep) ∧ KeyA X H2 k b ∧ ∀ ep, Q (.ref p) (upd H2 p (ndO X.w p [(k, b, v)] ep))
def one1 (X : Cx) (p : Addr) (Q : VK) : List (V × V) → Hp → Prop := fun ps H2 => match ps with
  | [(y, v)] => ∃ ep k b, y = .ref b ∧ H2 p = some (ndO X.w p [] ep) ∧ KeyA X H2 k b ∧ ∀ ep, Q (.ref p) (upd H2 p (ndO X.w p [(k, b, v)] ep))
  | _ => False
end
end BL

set_option Elab.async false
set_option linter.all false
set_option maxRecDepth 100000
set_option maxHeartbeats 4000000
namespace BL
open PySem PySem.Spec PyProof.Rows L2

/-! ### a value as a key -/
section
variable {g : Gm0} {B : Addr → Prop} {H : Hp}
mutual
theorem nk_rp : ∀ (t : T) (v : V) (k : NestedKey), nk t = some k → Rp g B H t v → KeyV g.K H k v
  | .non, v, k, e, h => by cases e; exact h
  | .bl b, v, k, e, h => by cases e; exact .inr ⟨b, h, rfl⟩
  | .int i, v, k, e, h => by cases e; exact .inl h
  | .str x, v, k, e, h => by cases e; exact h.1
  | .tup ts, v, k, e, ⟨a, xs, ev, hs, r⟩ => by
    simp only [nk] at e
    cases q : nks ts with
    | none => rw [q] at e; cases e
    | some ks => rw [q] at e; cases e; exact ⟨a, xs, ev, hs, nks_rp ts xs ks q r⟩
  | .lst _, _, _, e, _ => by simp [nk] at e
  | .dk _ _, _, _, e, _ => by simp [nk] at e
  | .obj _ _ _, _, _, e, _ => by simp [nk] at e
  | .ftp _, _, _, e, _ => by simp [nk] at e
  | .cls _, _, _, e, _ => by simp [nk] at e
  | .nd _ _, _, _, e, _ => by simp [nk] at e
theorem nks_rp : ∀ (ts : List T) (vs : List V) (ks : List NestedKey), nks ts = some ks → Rps g B H ts vs → KeyVs g.K H ks vs
  | [], vs, ks, e, h => by cases e; exact h
  | t :: ts, vs, ks, e, ⟨v, ws, ev, h, r⟩ => by
    simp only [nks] at e
    cases q1 : nk t with
    | none => rw [q1] at e; cases e
    | some k =>
      cases q2 : nks ts with
      | none => rw [q1, q2] at e; cases e
      | some ks' => rw [q1, q2] at e; cases e; exact ⟨v, ws, ev, nk_rp t v k q1 h, nks_rp ts ws ks' q2 r⟩
end
theorem nkT_rp {t : T} {v : V} {k : NestedKey} (e : nkT t = some k) (h : Rp g B H t v) : ∃ b, v = .ref b ∧ KeyV g.K H k (.ref b) ∧ k.depth ≤ 8 := by
  refine ?G
  exact (by (intro h; exact h) : have h : (type_of% ?G) := (by
  unfold nkT at e
  split at e
  · rename_i ts
    cases q : nk (.tup ts) with
    | none => rw [q] at e; cases e
    | some k' =>
      rw [q] at e
      simp only at e
      split at e
      · rename_i hd
        cases e
        have := nk_rp (.tup ts) v _ q h
        obtain ⟨a, xs, rfl, _⟩ := h
        exact ⟨a, rfl, this, hd⟩
      · cases e
  · cases e
 ); type_of% ?G)
end
abbrev Kvs := List (T × D)
def lookN (kvs : Kvs) (k : NestedKey) : Option D := (kvs.find? fun p => decide (nkT p.1 = some k)).map (·.2)
def putL (kvs : Kvs) (k : NestedKey) (t : T) (d : D) : Kvs := if (lookN kvs k).isSome then kvs.map (fun p => if nkT p.1 = some k then (p.1, d) else p) else kvs ++ [(t, d)]
theorem lookN_cons {p : T × D} {ps : Kvs} {k : NestedKey} : lookN (p :: ps) k = if nkT p.1 = some k then some p.2 else lookN ps k := by
  unfold lookN
  rw [List.find?_cons]
  by_cases h : nkT p.1 = some k <;> simp [h]
/-- entries of the layer, entries of the heap -/
structure NdE (g : Gm) (m : Nat → Addr) (n b : Nat) (H : Hp) (kvs : Kvs) (es : Nd) : Prop where
  ks : kvs.map (fun p => nkT p.1) = es.map (fun e => some e.1)
  rk : Rps g.toGm0 (Bv g m n) H (kvs.map (·.1)) (es.map kOf)
  rv : RpDs g m n b H (kvs.map (·.2)) (es.map vOf)
section
variable {g : Gm} {m : Nat → Addr} {n b : Nat} {H : Hp} {G : Hs}
theorem NdE.look {k : NestedKey} : ∀ {kvs : Kvs} {es : Nd}, NdE g m n b H kvs es → (lookN kvs k = none → valN es k = none) ∧ ∀ d, lookN kvs k = some d → ∃ v, valN es k = some v ∧ RpD g m n b H d v
  | [], [], _ => ⟨fun _ => rfl, fun _ h => nomatch h⟩
  | [], _ :: _, h => by have := h.ks; cases this
  | _ :: _, [], h => by have := h.ks; cases this
  | p :: ps, e :: es, h => by
    obtain ⟨h1, h2, v1, v2, e2, hv, h3⟩ := h
    simp only [List.map_cons, List.cons.injEq] at h1
    obtain ⟨w1, w2, e3, hw, h4⟩ := h2
    simp only [List.map_cons, List.cons.injEq] at e2 e3
    obtain ⟨rfl, rfl⟩ := e2
    obtain ⟨rfl, rfl⟩ := e3
    obtain ⟨i1, i2⟩ := NdE.look (k := k) ⟨h1.2, h4, h3⟩
    rw [lookN_cons, valN_cons, h1.1]
    by_cases q : e.1 = k
    · rw [if_pos q, if_pos (by rw [q])]
      exact ⟨fun z => (nomatch z), fun d hd => by cases hd; exact ⟨_, rfl, hv⟩⟩
    · rw [if_neg q, if_neg (fun z => q (Option.some.inj z))]
      exact ⟨i1, i2⟩
theorem NdE.isSome {k : NestedKey} {kvs : Kvs} {es : Nd} (h : NdE g m n b H kvs es) : (valN es k).isSome = (lookN kvs k).isSome := by
  obtain ⟨h1, h2⟩ := h.look (k := k)
  cases e : lookN kvs k with
  | none => rw [h1 e]; rfl
  | some d => obtain ⟨v, ev, _⟩ := h2 d e; rw [ev]; rfl
theorem NdE.upd {k : NestedKey} {d : D} {v : V} (rd : RpD g m n b H d v) : ∀ {kvs : Kvs} {es : Nd}, NdE g m n b H kvs es → NdE g m n b H (kvs.map fun p => if nkT p.1 = some k then (p.1, d) else p) (es.map (updN k v))
  | [], [], h => h
  | [], _ :: _, h => by have := h.ks; cases this
  | _ :: _, [], h => by have := h.ks; cases this
  | p :: ps, e :: es, h => by
    obtain ⟨h1, h2, v1, v2, e2, hv, h3⟩ := h
    simp only [List.map_cons, List.cons.injEq] at h1
    obtain ⟨w1, w2, e3, hw, h4⟩ := h2
    simp only [List.map_cons, List.cons.injEq] at e2 e3
    obtain ⟨rfl, rfl⟩ := e2
    obtain ⟨rfl, rfl⟩ := e3
    obtain ⟨i1, i2, i3⟩ := NdE.upd (k := k) rd ⟨h1.2, h4, h3⟩
    have hu : updN k v e = if e.1 = k then (e.1, e.2.1, v) else e := rfl
    by_cases q : e.1 = k
    · have q' : nkT p.1 = some k := by rw [h1.1, q]
      rw [if_pos q] at hu
      refine ⟨?_, ?_, ?_⟩
      · simp only [List.map_cons, hu, q', if_true, List.cons.injEq]; exact ⟨by rw [q], i1⟩
      · simp only [List.map_cons, hu, q', if_true]; exact ⟨_, _, rfl, hw, i2⟩
      · simp only [List.map_cons, hu, q', if_true]; exact ⟨_, _, rfl, rd, i3⟩
    · have q' : ¬ nkT p.1 = some k := by rw [h1.1]; exact fun z => q (Option.some.inj z)
      rw [if_neg q] at hu
      refine ⟨?_, ?_, ?_⟩
      · simp only [List.map_cons, hu, q', if_false, List.cons.injEq]; exact ⟨h1.1, i1⟩
      · simp only [List.map_cons, hu, q', if_false]; exact ⟨_, _, rfl, hw, i2⟩
      · simp only [List.map_cons, hu, q', if_false]; exact ⟨_, _, rfl, hv, i3⟩
theorem NdE.put {k : NestedKey} {t : T} {c : Addr} {d : D} {v : V} (ht : nkT t = some k) (rt : Rp g.toGm0 (Bv g m n) H t (.ref c)) (rd : RpD g m n b H d v) {kvs : Kvs} {es : Nd} (h : NdE g m n b H kvs es) : NdE g m n b H (putL kvs k t d) (putN es k c v) := by
  refine ?G
  exact (by (intro h; exact h) : have h : (type_of% ?G) := (by
  have q := h.isSome (k := k)
  unfold putL putN
  rw [q]
  cases (lookN kvs k).isSome with
  | true => exact h.upd rd
  | false =>
    refine ⟨?_, ?_, ?_⟩
    · simp only [Bool.false_eq_true, if_false, List.map_append, List.map_cons, List.map_nil, ht, h.ks]
    · simp only [Bool.false_eq_true, if_false, List.map_append, List.map_cons, List.map_nil]
      exact Rps.append h.rk ⟨_, _, rfl, rt, rfl⟩
    · simp only [Bool.false_eq_true, if_false, List.map_append, List.map_cons, List.map_nil]
      exact RpDs.append h.rv ⟨_, _, rfl, rd, rfl⟩
 ); type_of% ?G)
theorem NdE.len {kvs : Kvs} {es : Nd} (h : NdE g m n b H kvs es) : kvs.length = es.length := by
  have := congrArg List.length h.ks
  simpa using this
theorem NdE.keys {X : Cx} {kvs : Kvs} {es : Nd} (hK : X.K = g.K) : NdE g m n b H kvs es → ∀ e ∈ es, KeyA X H e.1 e.2.1 := by
  refine ?G
  exact (by (intro h; exact h) : have h : (type_of% ?G) := (by
  intro h e he
  obtain ⟨i, hi⟩ := List.mem_iff_getElem?.mp he
  have h1 := congrArg (fun l => l[i]?) h.ks
  simp only [List.getElem?_map, hi, Option.map_some] at h1
  cases hp : kvs[i]? with
  | none => rw [hp] at h1; cases h1
  | some p =>
    rw [hp] at h1
    have h1 : nkT p.1 = some e.1 := Option.some.inj h1
    obtain ⟨v, ev, rv⟩ := h.rk.get (i := i) (t := p.1) (by rw [List.getElem?_map, hp]; rfl)
    rw [List.getElem?_map, hi] at ev
    cases ev
    obtain ⟨b, eb, hb, hd⟩ := nkT_rp h1 rv
    cases eb
    unfold KeyA
    rw [hK]
    exact ⟨hb, hd⟩
 ); type_of% ?G)
/-- a dict with tuple keys, located or not -/
def asN (G : Hs) : D → Option Kvs
  | .t (.nd ks ts) => some (ks.zip (ts.map D.t))
  | .loc i => match G[i]? with
    | some (.nd kvs) => some kvs
    | some (.fnd kvs) => some kvs
    | _ => none
  | _ => none
end
section
variable {g : Gm} {m : Nat → Addr} {H : Hp} {G : Hs}
end
/-! ### x[y], y in x, {}, {k: v}, x[y] = e -/
def keyN : D → Option NestedKey
  | .t t => nkT t
  | .loc _ => none
def fGetN : D → D → Hs → Re := fun x y G => match asN G x, keyN y with
  | some kvs, some k => (match lookN kvs k with
    | some d => .ok d G
    | none => .stuck)
  | _, _ => .stuck
def fInN (neg : Bool) : D → D → Hs → Re := fun y x G => match asN G x, keyN y with
  | some kvs, some k => .ok (.t (.bl (if neg then !(lookN kvs k).isSome else (lookN kvs k).isSome))) G
  | _, _ => .stuck
theorem Ok.u9 {Z : Zc} {X : Cx} {W : WX} (ok : Ok Z X W) : X.A.units + 9 < cLine := by
  have := ok.rm.un
  omega
section
variable {Z : Zc} {o i e : Expr} {do_ di de : De} {pos pos' : Pos}
/-- {} for tuple keys -/
def dNd0 : De := fun _ G => .ok (.loc G.length) (G ++ [.nd []])
def dPutN (o i e : De) : Dst := fun r G => (e r G).thn r fun y G1 => (o r G1).thn r fun x G2 => (i r G2).thn r fun z G3 => match x, z with
  | .loc j, .t t => (match nkT t, G3[j]? with
    | some k, some (.nd kvs) => if kvs.length < 16777215 then .nx r (G3.set j (.nd (putL kvs k t y))) else .stuck
    | _, _ => .stuck)
  | _, _ => .stuck
/-- {k: v} -/
def dNd1 (dk dv : De) : De := fun r G => (dk r (G ++ [.nd []])).bind fun y G1 => (dv r G1).bind fun v G2 => match y with
  | .t t => (match nkT t, G2[G.length]? with
    | some k, some (.nd []) => .ok (.loc G.length) (G2.set G.length (.nd [(t, v)]))
    | _, _ => .stuck)
  | .loc _ => .stuck
end
end BL

set_option Elab.async false
set_option linter.all false
set_option maxRecDepth 100000
set_option maxHeartbeats 4000000
namespace BL
open PySem PySem.Spec PyProof.Rows L2
section
variable {prog : Program} {w : World} {A : Around} {E : Value → Shared → Prop} {s : Shared}
/-- what a walk over the keys needs of the dict -/
def Dcs (d : Addr) (es : Array DictEntry) (ep : Nat) (h : Heap) : Prop := ∃ od, h.get? d = some od ∧ od.ExactDict ∧ od.data = .dict es ep
end
/-! ### the walks -/
def NdKey (es : Nd) (i : Nat) (x : V) : Prop := ∃ e, es[i]? = some e ∧ x = .ref e.2.1
/-- the keys of the dict at d -/
def ItN (w : World) (d : Addr) (es : Nd) (ep : Nat) : It where
  go := fun i H => H d = some (ndO w d es ep) ∧ i < es.length
  yld := fun i H x H' => H' = H ∧ NdKey es i x
  stop := fun i H => H d = some (ndO w d es ep) ∧ es.length ≤ i
/-- .. each in a new pair with its number -/
def IteN (w : World) (d : Addr) (es : Nd) (ep : Nat) : It := Itp (fun i H => H d = some (ndO w d es ep) ∧ i < es.length) (fun i _ x => NdKey es i x) (fun i H => H d = some (ndO w d es ep) ∧ es.length ≤ i)
section
variable {P : Program} {w : World} {K : PySem.W.Frag} {tg : Expr} {d : Addr} {es : Nd} {ep : Nat}
end
def iKeysN (w : World) (td : TE) : TI := fun σ H R => td σ H fun x H1 => ∃ d es ep, x = .ref d ∧ H1 d = some (ndO w d es ep) ∧ R (ItN w d es ep) H1
def iEnumN (w : World) (ta : TA) : TI := fun σ H R => ta σ H fun vs H1 => ∃ d es ep, vs = [.ref d] ∧ H1 d = some (ndO w d es ep) ∧ R (IteN w d es ep) H1
end BL

set_option Elab.async false
set_option linter.all false
set_option maxRecDepth 100000
set_option maxHeartbeats 4000000
namespace BL
open PySem PySem.Spec PyProof.Rows L2

/-! ### {k: v for .. in ..}, the keys tuples -/
/-- one turn's store -/
def NdStep (X : Cx) (D : Addr) (Nx : Hp → Prop) : V → V → Hp → Prop := fun y z H => ∃ es k b, y = .ref b ∧ NdH X H D es ∧ KeyA X H k b ∧ es.length < sizeLine ∧ ∀ ep, Nx (upd H D (ndO X.w D (putN es k b z) ep))
def tDcN (X : Cx) (wi : TI) (gt : TG) (tk tv : TE) (vs : List Nat) : TE := fun σ H Q => wi σ H fun J H1 => ∀ D, H1 D = none → ∃ W : Nat → Nat → Hp → Prop, (∃ m, W 0 m (upd H1 D (ndO X.w D [] 0))) ∧ ∀ i m H2, W i m H2 →
  (J.stop i H2 ∧ Q (.ref D) H2) ∨ (J.go i H2 ∧ ∃ Nx : Hp → Prop, (∀ H', Nx H' → ∃ m', m' < m ∧ W (i + 1) m' H') ∧ ∀ x H', J.yld i H2 x H' → gt x (wipe σ vs) H' fun σ2 H3 => wipe σ2 vs = wipe σ vs ∧ tk σ2 H3 fun y H4 => tv σ2 H4 fun z H5 => NdStep X D Nx y z H5)
section
variable {X : Cx} {kx vx tg iter : Expr} {scope : Scope} {own : List (Str × Nat)} {pos spos py : Pos} {wi : TI} {gt : TG} {tk tv : TE}
end
end BL

set_option Elab.async false
set_option linter.all false
set_option maxRecDepth 100000
set_option maxHeartbeats 4000000
namespace BL
open PySem PySem.Spec PyProof.Rows L2

/-! ### for k in d, enumerate(d): the keys of a dict that is data -/
def ksOf : D → Option (List T)
  | .t (.nd ks _) => if ks.length ≤ 16777216 then some ks else none
  | _ => none
def iNd (d : De) : Di := fun r G => (d r G).itr fun x G1 => match ksOf x with
  | some ks => .ok ((ks.map D.t).map Im.one) none G1
  | none => .stuck
def iEnNd (d : De) : Di := fun r G => (d r G).itr fun x G1 => match ksOf x with
  | some ks => .ok (enumIms (ks.map D.t)) none G1
  | none => .stuck
section
variable {g : Gm} {m : Nat → Addr} {H : Hp} {G : Hs}
end
section
variable {Z : Zc} {tg e : Expr} {d : De} {p pos tpos : Pos} {elts : List Expr} {kk : Nat}
end
/-! ### {k: v for ..} -/
open Classical in
noncomputable def dcLoop (td : Tg) (ke ve : De) (kp : Kp) (r : Ev) (n : Nat) : List Im → Hs → Option Hs
  | [], G => if kpOk kp G then some G else none
  | im :: its, G => if kpOk kp G then (match td im r with
    | some r1 => (match ke r1 G with
      | .ok (.t t) G2 => (match ve r1 G2 with
        | .ok v G3 => (match nkT t, G3[n]? with
          | some k, some (.nd kvs) => if kvs.length < 16777215 then dcLoop td ke ve kp r n its (G3.set n (.nd (putL kvs k t v))) else none
          | _, _ => none)
        | _ => none)
      | _ => none)
    | none => none) else none
noncomputable def dcRun (own : List Nat) (di : Di) (td : Tg) (ke ve : De) : De := fun r G => match di r G with
  | .ok its kp G1 => (match dcLoop td ke ve kp (wipeE r own) G1.length its (G1 ++ [.nd []]) with
    | some G2 => .ok (.loc G1.length) G2
    | none => .stuck)
  | .exc c ns ds G1 => .exc c ns ds G1
  | .stuck => .stuck
def DcPost (g : Gm) (W : WX) (m : Nat → Addr) (n : Nat) (H : Hp) (σ : L2.St) (Q : VK) (k : Nat) : Option Hs → Prop
  | some G2 => PostE g W m n H σ Q (.ok (.loc k) G2)
  | none => False
section
variable {Z : Zc} {kx vx tg iter : Expr} {scope : Scope} {own : List (Str × Nat)} {is : List Nat} {pos : Pos} {di : Di} {td : Tg} {ke ve : De}
end
end BL

set_option Elab.async false
set_option linter.all false
set_option maxRecDepth 100000
set_option maxHeartbeats 4000000
namespace BL
open PySem PySem.Spec PyProof.Rows L2

/-! ### x * y, both of one class with an own __mul__ -/
structure MulF (K : PySem.W.Frag) (C f : Addr) : Prop where
  hs : PySem.W.findIn K (.ref C) "__mul__" = some (some (.ref f))
  hf : PySem.W.isFn K (.ref f) = true
  hc : PySem.W.selfFirst K C = true
def mulB (K : PySem.W.Frag) (C f : Addr) : Bool := He.eqO (PySem.W.findIn K (.ref C) "__mul__") (some (some (.ref f))) && (PySem.W.isFn K (.ref f) && PySem.W.selfFirst K C)
theorem mulB_ok {K : PySem.W.Frag} {C f : Addr} (h : mulB K C f = true) : MulF K C f := by
  obtain ⟨h1, h⟩ := He.ba h
  obtain ⟨h2, h3⟩ := He.ba h
  exact ⟨He.eqO_ok h1, h2, h3⟩
def fMulO (c : Nat) (F : Fd) : D → D → Hs → Re := fun x y G => if isObj' c G x = true ∧ isObj' c G y = true then F [x, y] G else .stuck
theorem objO_rp {g : Gm} {m : Nat → Addr} {H : Hp} {G : Hs} {c : Nat} (s : SR g m H G) {x : D} {v : V} (r : RpD g m G.length G.length H x v) (h : isObj' c G x = true) : ∃ a dx fs, v = .ref a ∧ H a = some (.ins (g.ca c) dx fs) := by
  refine ?G
  exact (by (intro h; exact h) : have h : (type_of% ?G) := (by
  cases x with
  | t t =>
    cases t with
    | obj c' ns ts =>
      simp only [isObj', decide_eq_true_eq] at h
      subst h
      obtain ⟨a, dx, xs, rfl, h, _⟩ := r
      exact ⟨a, dx, _, rfl, h⟩
    | _ => cases h
  | loc i =>
    obtain ⟨hi, rfl⟩ := r
    cases q : G[i]? with
    | none => simp [isObj', q] at h
    | some o =>
      cases o with
      | ins c' fs =>
        simp [isObj', q] at h
        subst h
        obtain ⟨dx, xs, h, r⟩ := s.ob i _ q
        exact ⟨_, dx, _, rfl, h⟩
      | _ => simp [isObj', q] at h
 ); type_of% ?G)
theorem cmpBack_ok {X : Cx} {pins : List (Addr × Obj)} {σ : L2.St} {Q : VK} {u : Value} {s : Shared} (h : EP X pins σ Q u s) : PySem.W.CmpBack (EP X pins σ Q) u s := by
  obtain ⟨v, H', I', rv, q⟩ := id h
  unfold PySem.W.CmpBack
  split
  · cases v <;> first | (cases (show Value.notImplemented = _ from rv)) | (obtain ⟨t, z⟩ := rv; cases z)
  · exact h
section
variable {Z : Zc} {a b : Expr} {da db : De} {F : Fd} {k c : Nat} {f : Addr} {fd : FuncData} {ps : List Str} {pos : Pos}
theorem pd_mulO (h : FnD Z.toZb k f fd ps F) (hk : k ≤ Z.k) (hbd : Binds Z.K fd ps []) (hM : MulF Z.K (Z.ca c) f) (hn : 2 = ps.length) (ha : PD Z a da) (hb : PD Z b db) : PD Z (.BinOp a .Mult b pos) (dBin (fMulO c F) da db) := by
  refine ?G
  exact (by (intro h; exact h) : have h : (type_of% ?G) := (fun X W ok => ⟨fun pins s σ H Q I h0 => by
  obtain ⟨m, r, G, s0, sl, p⟩ := h0
  have hF : FnOk X.prog X.w X.K X.mg X.base (L2.CX X.prog X.w) k f fd ps (spD Z.g ps.length F) := by rw [ok.P, ok.w, ok.K, ok.mg, ok.base]; exact h.ok
  have hB : Binds X.K fd ps [] := by rw [ok.K]; exact hbd
  have main : tI Z.g W da σ H fun x H1 => tI Z.g W db σ H1 fun y H2 => (∃ a b dx fs dy gs, x = V.ref a ∧ y = V.ref b ∧ H2 a = some (.ins (Z.ca c) dx fs) ∧ H2 b = some (.ins (Z.ca c) dy gs)) ∧ spD Z.g ps.length F [x, y] H2 Q (fun cl d H' => W cl d σ H') := by
    refine tI_bind s0 sl p fun x G1 v m1 H1 e1 x1 s1 sl1 rv p1 => ?_
    refine tI_bind s1 sl1 p1 fun y G2 u m2 H2 e2 x2 s2 sl2 ru p2 => ?_
    unfold fMulO at p2
    split at p2
    · rename_i hxy
      have rv2 := RpD.ex x2 s1 x2.le (Nat.le_refl _) rv
      obtain ⟨a1, dx, fs, e1, h1⟩ := objO_rp s2 rv2 hxy.1
      obtain ⟨a2, dy, gs, e2, h2⟩ := objO_rp s2 ru hxy.2
      exact ⟨⟨a1, a2, dx, fs, dy, gs, e1, e2, h1, h2⟩, hn, Z.g.rv, m2, G2, [x, y], s2, ⟨_, _, rfl, rv2, _, _, rfl, ru, rfl⟩, PostF.eq p2⟩
    · exact p2.elim
  refine wpAny_BinOp (binT (ha X W ok) (hb X W ok) I main fun v u s2 x y H2 I2 rx ry ⟨⟨a1, a2, dx, fs, dy, gs, ex, ey, h1, h2⟩, q⟩ => ?_)
  subst ex ey
  cases (show v = Value.ref a1 from rx)
  cases (show u = Value.ref a2 from ry)
  obtain ⟨_, J1, _⟩ := ins_get I2.hok h1
  obtain ⟨_, J1, _⟩ := J1.look
  obtain ⟨_, J2, _⟩ := ins_get I2.hok h2
  obtain ⟨_, J2, _⟩ := J2.look
  obtain ⟨mm, hFr⟩ := I2.fr
  refine PySem.W.binop_K (op := .Mult) hFr I2.ok.mod.kin J1 J2.type (by rw [ok.K]; exact hM.hc) (by rw [ok.K]; exact hM.hs) (by rw [ok.K]; exact hM.hf) ?_
  exact wpAny_mono (run_fnSD (E := fun σ cl d H' => W cl d σ H') (us := [.ref a1, .ref a2]) (vs := [.ref a1, .ref a2]) (dvs := []) (ds := []) hF (ok.rm.mono hk) hB .nil (passAt ok.tk σ) I2 (.cons rfl (.cons rfl .nil)) q) (fun _ _ z => cmpBack_ok z) fun _ _ z => z⟩
 ); type_of% ?G)
end
end BL

set_option Elab.async false
set_option linter.all false
set_option maxRecDepth 100000
set_option maxHeartbeats 4000000
namespace BL
open PySem PySem.Spec PyProof.Rows L2

/-! ### f'..' -/
def txtI (i : Int) : Option Str := if i.natAbs.log2 < 1920 ∧ PyData.strOk (toString i) = true then some (toString i) else none
def dFmt (d : De) : De := fun r G => (d r G).bind fun x G1 => match x with
  | .t (.str y) => if y.length ≤ sizeLine then .ok (.t (.str y)) G1 else .stuck
  | .t (.int i) => (match txtI i with
    | some y => .ok (.t (.str y)) G1
    | none => .stuck)
  | _ => .stuck
def dJs : List De → Str → De
  | [], acc => fun _ G => .ok (.t (.str acc)) G
  | d :: ds, acc => fun r G => (d r G).bind fun x G1 => match x with
    | .t (.str y) => if (acc ++ y).length ≤ sizeLine then dJs ds (acc ++ y) r G1 else .stuck
    | _ => .stuck
section
variable {Z : Zc} {e v1 v2 : Expr} {d : De} {ds : List De} {rest es : List Expr} {pos p : Pos}
def PJD (Z : Zc) (es : List Expr) (ds : List De) : Prop := ∀ X W, Ok Z X W → PJ X es (ds.map (tI Z.g W))
/-! ### str(i) -/
def fStrI : List D → Hs → Re := fun ds G => match ds with
  | [.t (.int i)] => (match txtI i with
    | some y => .ok (.t (.str y)) G
    | none => .stuck)
  | _ => .stuck
end
/-! ### read backwards -/
section
variable {Q : D → Hs → Prop} {E : XP} {N : NP} {R : TP} {B C : NP} {X : XP} {x y : D} {G : Hs} {r : Ev}
theorem f_mulO {c : Nat} {F : Fd} (h1 : isObj' c G x = true) (h2 : isObj' c G y = true) (h : Wp (F [x, y] G) Q E) : Wp (fMulO c F x y G) Q E := by
  simp only [fMulO, h1, h2, and_self, if_true]; exact h
end
end BL

set_option Elab.async false
set_option linter.all false
set_option maxRecDepth 100000
set_option maxHeartbeats 4000000
namespace BL
open PySem PySem.Spec PyProof.Rows L2

/-! ### own *, all in one -/
structure MulA (b : Zb) (k : Nat) (c : Nat) (f : Addr) (ps : List Str) (F : Fd) : Prop where
  ca : Ca b k f ps F []
  mul : MulF b.K (b.ca c) f
  hn : 2 = ps.length
section
variable {Z : Zc} {a b : Expr} {da db : De} {c k : Nat} {f : Addr} {ps : List Str} {F : Fd} {pos : Pos}
theorem pd_mulC (h : MulA Z.toZb k c f ps F) (hk : k + 1 ≤ Z.k) (ha : PD Z a da) (hb : PD Z b db) : PD Z (.BinOp a .Mult b pos) (dBin (fMulO c F) da db) := by
  obtain ⟨fd, dvs, dus, h1, h2, h3, h4⟩ := h.ca.ex
  have hz := h4 (fun _ => False) (fun _ => none)
  cases dvs with
  | cons v vs => cases hz
  | nil =>
    cases h3
    exact pd_mulO h1 (Nat.le_of_succ_le hk) h2 h.mul h.hn ha hb
end
end BL

set_option Elab.async false
set_option linter.all false
set_option maxRecDepth 100000
set_option maxHeartbeats 4000000
namespace BL
open PySem PySem.Spec PyProof.Rows L2

/-! ### a located dict with flat keys is written -/
section
variable {g : Gm} {m : Nat → Addr} {H : Hp} {G : Hs}
theorem zip_le {kvs : List (Key × D)} {xs : List V} : ((kvs.map (·.1)).zip xs).length ≤ kvs.length := by
  rw [List.length_zip, List.length_map]; exact Nat.min_le_left _ _
theorem dk_put (s : SR g m H G) {j : Nat} (hj : j < G.length) {kvs : List (Key × D)} {xs : List V} (hd : H (m j) = some (.dK ((kvs.map (·.1)).zip xs))) (rs : RpDs g m G.length G.length H (kvs.map (·.2)) xs) {k : Key} {y : D} {u : V}
    (ru : RpD g m G.length G.length H y u) (hlt : kvs.length < 16777215) :
    Ex m G.length H m (G.set j (.dk (putA kvs k y))).length (upd H (m j) (.dK (putK ((kvs.map (·.1)).zip xs) k u))) ∧ SR g m (upd H (m j) (.dK (putK ((kvs.map (·.1)).zip xs) k u))) (G.set j (.dk (putA kvs k y))) := by
  refine ?G
  exact (by (intro h; exact h) : have h : (type_of% ?G) := (by
  obtain ⟨ys, ey, ry⟩ := putA_put (k := k) ru rs
  rw [ey]
  have hz2 : szOk (HO.dK (((putA kvs k y).map (·.1)).zip ys)) := by
    have h1 := zip_le (kvs := putA kvs k y) (xs := ys)
    have h2 := putA_len (kvs := kvs) (k := k) (v := y)
    show _ ≤ 16777216
    omega
  have xw : Ex m G.length H m G.length (upd H (m j) (.dK (((putA kvs k y).map (·.1)).zip ys))) := Ex.write s hj (rd_dK hd)
  exact ⟨by rw [List.length_set]; exact xw, s.write hj (rd_dK hd) hz2 ⟨ys, upd_same, RpDs.ex xw s (Nat.le_refl _) (Nat.le_refl _) ry⟩⟩
 ); type_of% ?G)
end
/-! ### d.setdefault(k, v) -/
def isDkL (G : Hs) : D → Bool
  | .loc i => match G[i]? with
    | some (.dk _) => true
    | _ => false
  | _ => false
def fSetd : D → List D → Hs → Re := fun x ds G => match x, ds with
  | .loc i, [y, z] => (match keyOf y, G[i]? with
    | some k, some (.dk kvs) => if kvs.length < 16777215 then (match getA kvs k with
      | some d => .ok d G
      | none => .ok z (G.set i (.dk (putA kvs k z)))) else .stuck
    | _, _ => .stuck)
  | _, _ => .stuck
def rSdk : V → List V → Hp → VK → Prop := fun x xs H Q => ∃ (a : Addr) (kvs : List (Key × V)) (k : Key) (z : V), x = .ref a ∧ xs = [kV k, z] ∧ H a = some (.dK kvs) ∧ kvs.length < sizeLine ∧ (∀ v, valV kvs k = some v → Q v H) ∧ (valV kvs k = none → Q z (upd H a (.dK (putK kvs k z))))
section
variable {Z : Zc} {o e e2 : Expr} {do_ de de2 : De} {apos cpos : Pos}
end
/-! ### len(d) -/
def fLenK : List D → Hs → Re := fun ds G => match ds with
  | [x] => (match dkOf G x with
    | some kvs => .ok (.t (.int kvs.length)) G
    | none => .stuck)
  | _ => .stuck
def fLenN : List D → Hs → Re := fun ds G => match ds with
  | [x] => (match asN G x with
    | some kvs => .ok (.t (.int kvs.length)) G
    | none => .stuck)
  | _ => .stuck
section
variable {Z : Zc} {e : Expr} {d : De} {p pos : Pos}
end
/-! ### a located dict is locked: from then on it is read alone -/
def dFz (d : De) : De := fun r G => (d r G).bind fun x G1 => match x with
  | .loc j => (match G1[j]? with
    | some (.dk kvs) => .ok (.loc j) (G1.set j (.fdk kvs))
    | some (.fdk _) => .ok (.loc j) G1
    | _ => .stuck)
  | _ => .stuck
theorem pd_fz {Z : Zc} {e : Expr} {d : De} (h : PD Z e d) : PD Z e (dFz d) := by
  refine ?G
  exact (by (intro h; exact h) : have h : (type_of% ?G) := (fun X W ok => ⟨fun pins s σ H Q I h0 => by
  obtain ⟨m, r, G, s0, sl, p⟩ := h0
  have main : tI Z.g W d σ H fun v H1 => Q v H1 ∨ ∃ a u, v = .ref a ∧ H1 a = some u ∧ Mut (some u) ∧ ∀ od, Q (.ref a) (upd H1 a (.frz od u)) := by
    refine tI_bind s0 sl p fun x G1 v m1 H1 e1 x1 s1 sl1 rv p1 => ?_
    split at p1
    · rename_i j
      obtain ⟨hj, rfl⟩ := rv
      split at p1
      · rename_i kvs q
        obtain ⟨xs, hd, rx⟩ := s1.ob j _ q
        refine .inr ⟨m1 j, _, rfl, hd, trivial, fun od => ?_⟩
        have xw : Ex m1 G1.length H1 m1 G1.length (upd H1 (m1 j) (.frz od (.dK ((kvs.map (·.1)).zip xs)))) := Ex.write s1 hj (rd_dK hd)
        have hz : szOk (HO.frz od (.dK ((kvs.map (·.1)).zip xs))) := show szOk (HO.dK ((kvs.map (·.1)).zip xs)) from s1.sz _ _ hd
        have sw := s1.write (ob := .fdk kvs) hj (rd_dK hd) hz ⟨od, xs, upd_same, RpDs.ex xw s1 (Nat.le_refl _) (Nat.le_refl _) rx⟩
        exact p1 _ m1 _ (by rw [List.length_set]; exact xw) sw ⟨by rw [List.length_set]; exact hj, rfl⟩
      · exact .inl (PostE.ok s1 p1 ⟨hj, rfl⟩)
      · exact p1.elim
    · exact p1.elim
  refine thn ((h X W ok).run pins s σ H _ I main) fun u s1 ⟨v, H1, I1, rv, q⟩ => ?_
  rcases q with q | ⟨a, u', rfl, ha, mu, q⟩
  · exact ⟨v, H1, I1, rv, q⟩
  · obtain ⟨od, I2⟩ := I1.lock ha mu
    exact ⟨.ref a, _, I2, rv, q od⟩⟩
 ); type_of% ?G)
end BL

set_option Elab.async false
set_option linter.all false
set_option maxRecDepth 100000
set_option maxHeartbeats 4000000
namespace BL
open PySem PySem.Spec PyProof.Rows L2

/-! ### walks over dicts that are locked -/
def kD : Key → D
  | .inl i => .t (.int i)
  | .inr x => .t (.str x)
def okK : Key → Bool
  | .inl _ => true
  | .inr x => PyData.strOk x
def fdOf (G : Hs) : D → Option (List (Key × D))
  | .loc j => match G[j]? with
    | some (.fdk kvs) => if kvs.length ≤ 16777216 ∧ (kvs.all fun p => okK p.1) = true then some kvs else none
    | _ => none
  | _ => none
def iFd (d : De) : Di := fun r G => (d r G).itr fun x G1 => match fdOf G1 x with
  | some kvs => .ok ((kvs.map fun p => kD p.1).map Im.one) none G1
  | none => .stuck
def iEnFd (d : De) : Di := fun r G => (d r G).itr fun x G1 => match fdOf G1 x with
  | some kvs => .ok (enumIms (kvs.map fun p => kD p.1)) none G1
  | none => .stuck
section
variable {g : Gm} {m : Nat → Addr} {H : Hp} {G : Hs}
theorem kD_rp {n b : Nat} : ∀ {k : Key}, okK k = true → RpD g m n b H (kD k) (kV k)
  | .inl i, _ => rfl
  | .inr x, h => ⟨rfl, h⟩
theorem fd_rp (s : SR g m H G) {x : D} {v : V} {kvs : List (Key × D)} (e : fdOf G x = some kvs) (r : RpD g m G.length G.length H x v) :
    ∃ (a : Addr) (ob : Obj) (us : List (Key × V)), v = .ref a ∧ H a = some (.frz ob (.dK us)) ∧ us.length = kvs.length ∧ us.map (·.1) = kvs.map (·.1) ∧ (∀ p ∈ kvs, okK p.1 = true) ∧ kvs.length ≤ sizeLine := by
  refine ?G
  exact (by (intro h; exact h) : have h : (type_of% ?G) := (by
  unfold fdOf at e
  split at e
  · rename_i j
    split at e
    · rename_i kvs' q
      split at e
      · rename_i hl
        cases e
        obtain ⟨hj, rfl⟩ := r
        obtain ⟨ob, xs, h, rx⟩ := s.ob j _ q
        have hlen := rx.length
        rw [List.length_map] at hlen
        refine ⟨_, ob, _, rfl, h, by rw [List.length_zip, List.length_map, ← hlen, Nat.min_self], ?_, fun p hp => List.all_eq_true.mp hl.2 p hp, hl.1⟩
        exact (zipF (by rw [List.length_map, hlen])).1
      · cases e
    · cases e
  · cases e
 ); type_of% ?G)
theorem fd_key {us : List (Key × V)} {kvs : List (Key × D)} (e : us.map (·.1) = kvs.map (·.1)) {i : Nat} {k : Key} {x : V} (h : us[i]? = some (k, x)) : ∃ d, kvs[i]? = some (k, d) := by
  have := congrArg (fun l : List Key => l[i]?) e
  simp only [List.getElem?_map, h, Option.map_some] at this
  cases q : kvs[i]? with
  | none => rw [q] at this; cases this
  | some p => rw [q] at this; obtain ⟨k', d⟩ := p; cases this; exact ⟨d, rfl⟩
theorem wk_fd {a : Addr} {ob : Obj} {us : List (Key × V)} {kvs : List (Key × D)} (h : H a = some (.frz ob (.dK us))) (hl : us.length = kvs.length) (e : us.map (·.1) = kvs.map (·.1)) (hk : ∀ p ∈ kvs, okK p.1 = true) : Wk g m G.length H (Itk a ob us) ((kvs.map fun p => kD p.1).map Im.one) none := by
  refine ?G
  exact (by (intro h; exact h) : have h : (type_of% ?G) := (by
  intro rv i m2 H2 G2 hrv s2 x2 _
  have h2 : H2 a = some (.frz ob (.dK us)) := (x2.tk a).2 ob _ h
  refine ⟨fun hi => ⟨h2, by rw [hi, List.length_map, List.length_map, hl]; exact Nat.le_refl _⟩, fun im hi => ?_⟩
  rw [List.getElem?_map, List.getElem?_map] at hi
  cases hd : kvs[i]? with
  | none => rw [hd] at hi; cases hi
  | some p =>
    rw [hd] at hi
    cases hi
    refine ⟨⟨h2, by have := getLt hd; omega⟩, fun y H3 ⟨e3, k, x, hkx, ey⟩ => ?_⟩
    subst e3 ey
    obtain ⟨d, hd'⟩ := fd_key e hkx
    rw [hd] at hd'
    cases hd'
    exact ⟨Ex.refl, s2, kD_rp (hk _ (List.mem_of_getElem? hd))⟩
 ); type_of% ?G)
end
/-- each key in a new pair with its number -/
def Itke (d : Addr) (o : Obj) (us : List (Key × V)) : It := Itp (fun i H => H d = some (.frz o (.dK us)) ∧ i < us.length) (fun i _ y => ∃ k x, y = kV k ∧ us[i]? = some (k, x)) (fun i H => H d = some (.frz o (.dK us)) ∧ us.length ≤ i)
section
variable {g : Gm} {m : Nat → Addr} {H : Hp} {G : Hs}
end
section
variable {P : Program} {w : World} {K : PySem.W.Frag} {d : Addr} {o : Obj} {us : List (Key × V)} {ar0 : Array DictEntry} {ep : Nat}
end
def iEnumFd (ta : TA) : TI := fun σ H R => ta σ H fun vs H1 => ∃ d o us, vs = [.ref d] ∧ H1 d = some (.frz o (.dK us)) ∧ R (Itke d o us) H1
section
variable {Z : Zc} {tg e : Expr} {d : De} {p pos tpos : Pos} {elts : List Expr} {kk : Nat}
theorem pdi_fd (h : PD Z e d) : PDI Z tg e (iFd d) := by
  refine ?G
  exact (by (intro h; exact h) : have h : (type_of% ?G) := (fun X W ok => by
  refine piI (pi_keys (h X W ok)) fun σ H R ⟨m, r, G, s, sl, p⟩ => ⟨m, r, G, s, sl, ?_⟩
  unfold iFd at p
  cases ex : d r G with
  | stuck => rw [ex] at p; exact p.elim
  | exc c ns ds G' => rw [ex] at p; exact p
  | ok x G1 =>
    rw [ex] at p
    simp only [itr_ok] at p
    cases q : fdOf G1 x with
    | none => rw [q] at p; exact p.elim
    | some kvs =>
      rw [q] at p
      intro v m1 H1 x1 s1 rv
      obtain ⟨a, ob, us, rfl, ha, hl, he, hk, hz⟩ := fd_rp s1 q rv
      exact ⟨a, ob, rfl, .inl ⟨us, ha, p _ m1 H1 x1 s1 (fun _ _ z => nomatch z) (by rw [List.length_map, List.length_map]; exact hz) (wk_fd ha hl he hk)⟩⟩
 ); type_of% ?G)
end
/-! ### list(d.values()), the values plain -/
def plK (kvs : List (Key × D)) : Option (List T) := plain (kvs.map (·.2))
def dLsV (d : De) : De := fun r G => (d r G).bind fun x G1 => match dkOf G1 x with
  | some kvs => (match plK kvs with
    | some ts => if ts.length ≤ 16777216 then .ok (.t (.lst ts)) G1 else .stuck
    | none => .stuck)
  | none => .stuck
def tLsV (td : TE) : TE := fun σ H Q => td σ H fun x H1 => ∃ (a : Addr) (kvs : List (Key × V)), x = .ref a ∧ Rd H1 a (.dK kvs) ∧ ∀ q, H1 q = none → Q (.ref q) (upd H1 q (.lst (kvs.map (·.2))))
end BL

set_option Elab.async false
set_option linter.all false
set_option maxRecDepth 100000
set_option maxHeartbeats 4000000
namespace BL
open PySem PySem.Spec PyProof.Rows L2

/-! ### {k: v for ..}, the keys ints or texts -/
open Classical in
noncomputable def dcLoopK (td : Tg) (ke ve : De) (kp : Kp) (r : Ev) (n : Nat) : List Im → Hs → Option Hs
  | [], G => if kpOk kp G then some G else none
  | im :: its, G => if kpOk kp G then (match td im r with
    | some r1 => (match ke r1 G with
      | .ok y G2 => (match ve r1 G2 with
        | .ok v G3 => (match keyOf y, G3[n]? with
          | some k, some (.dk kvs) => if kvs.length < 16777215 then dcLoopK td ke ve kp r n its (G3.set n (.dk (putA kvs k v))) else none
          | _, _ => none)
        | _ => none)
      | _ => none)
    | none => none) else none
noncomputable def dcRunK (own : List Nat) (di : Di) (td : Tg) (ke ve : De) : De := fun r G => match di r G with
  | .ok its kp G1 => (match dcLoopK td ke ve kp (wipeE r own) G1.length its (G1 ++ [.dk []]) with
    | some G2 => .ok (.loc G1.length) G2
    | none => .stuck)
  | .exc c ns ds G1 => .exc c ns ds G1
  | .stuck => .stuck
theorem yes_i {P R : Prop} (h : P) : if true = true then P else R := by rw [if_pos rfl]; exact h
section
variable {Z : Zc} {kx vx tg iter : Expr} {scope : Scope} {own : List (Str × Nat)} {is : List Nat} {pos : Pos} {di : Di} {td : Tg} {ke ve : De}
theorem tDc_of {W : WX} {gt : TG}
    (hg : ∀ (g : Gm) (m : Nat → Addr) (n : Nat) (H : Hp) (σ : L2.St) (r r' : Ev) (im : Im) (v : V) (Q : L2.St → Hp → Prop), g.K = Z.K → Sl g m n H σ r → ImR g m n H im v → td im r = some r' →
      (∀ σ', σ'.length = σ.length → (∀ j, j ∉ is → σ'[j]? = σ[j]?) → Sl g m n H σ' r' → Q σ' H) → gt v σ H Q)
    {vs : List Nat} (his : ∀ i, i ∈ is → i ∈ vs) {σ : L2.St} {H : Hp} {Q : VK} (h : tI Z.g W (dcRunK vs di td ke ve) σ H Q) :
    tDc (tII Z.g W di) gt L2.tYes (tI Z.g (fun _ _ _ _ => False) ke) (tI Z.g (fun _ _ _ _ => False) ve) vs σ H Q := by
  refine ?G
  exact (by (intro h; exact h) : have h : (type_of% ?G) := (by
  obtain ⟨m, r, G, s, sl, p⟩ := h
  refine ⟨m, r, G, s, sl, ?_⟩
  unfold dcRunK at p
  cases e : di r G with
  | stuck => rw [e] at p; exact p
  | exc c ns ds G1 => rw [e] at p; exact p
  | ok its kp G1 =>
    rw [e] at p
    intro J m1 H1 x1 s1 hk hsz hwk D hD
    have p1 : DcPost Z.g W m1 G1.length H1 σ Q G1.length (dcLoopK td ke ve kp (wipeE r vs) G1.length its (G1 ++ [.dk []])) := by
      simp only at p
      cases ec : dcLoopK td ke ve kp (wipeE r vs) G1.length its (G1 ++ [.dk []]) with
      | none => rw [ec] at p; exact p
      | some G2 => rw [ec] at p; exact PostE.trans x1 s1 p
    have eG : (G1 ++ [O.dk []]).length = G1.length + 1 := by simp
    have s0 : SR Z.g (mAt m1 G1.length D) (upd H1 D (.dK [])) (G1 ++ [.dk []]) := s1.loc hD (Nat.zero_le _) ⟨[], by rw [mAt_same]; exact upd_same, rfl⟩
    have x0 : Ex m1 G1.length H1 (mAt m1 G1.length D) (G1 ++ [O.dk []]).length (upd H1 D (.dK [])) := by rw [eG]; exact Ex.loc hD
    have sl0 := Sl.ex x0 s1 ((Sl.ex x1 s sl).wipe vs)
    refine ⟨fun i mm H' => ∃ m2 G2, (SR Z.g m2 H' G2 ∧ Sl Z.g m2 G2.length H' (wipe σ vs) (wipeE r vs) ∧ Ex m1 G1.length H1 m2 G2.length H' ∧ G1.length < G2.length ∧ m2 G1.length = D) ∧ i ≤ its.length ∧ mm = its.length - i ∧ DcPost Z.g W m1 G1.length H1 σ Q G1.length (dcLoopK td ke ve kp (wipeE r vs) G1.length (its.drop i) G2),
      ⟨its.length, mAt m1 G1.length D, G1 ++ [O.dk []], ⟨s0, sl0, x0, by rw [eG]; exact Nat.lt_succ_self _, mAt_same⟩, Nat.zero_le _, rfl, by rw [List.drop_zero]; exact p1⟩, ?_⟩
    rintro i mm H' ⟨m2, G2, ⟨s2, sl2, x2, hl2, hm2⟩, hil, hmm, p2⟩
    by_cases hi : i < its.length
    · right
      rw [List.drop_eq_getElem_cons hi] at p2
      unfold dcLoopK at p2
      split at p2
      · rename_i hk2
        obtain ⟨hgo, hy⟩ := (hwk Z.g.rv i m2 H' G2 (fun a ha => .inl ha) s2 x2.r hk2).2 its[i] (List.getElem?_eq_getElem hi)
        refine ⟨hgo, fun H3 => ∃ m3 G3, (SR Z.g m3 H3 G3 ∧ Sl Z.g m3 G3.length H3 (wipe σ vs) (wipeE r vs) ∧ Ex m1 G1.length H1 m3 G3.length H3 ∧ G1.length < G3.length ∧ m3 G1.length = D) ∧ DcPost Z.g W m1 G1.length H1 σ Q G1.length (dcLoopK td ke ve kp (wipeE r vs) G1.length (its.drop (i + 1)) G3), ?_, ?_⟩
        · rintro H3 ⟨m3, G3, c3, p3⟩
          exact ⟨its.length - (i + 1), by omega, m3, G3, c3, hi, rfl, p3⟩
        · intro x H3 hyl
          obtain ⟨x3, s3, ri⟩ := hy x H3 hyl
          cases et : td its[i] (wipeE r vs) with
          | none => rw [et] at p2; exact p2.elim
          | some r3 =>
            rw [et] at p2
            simp only at p2
            refine hg Z.g m2 G2.length H3 (wipe σ vs) (wipeE r vs) r3 its[i] x _ rfl (Sl.ex x3 s2 sl2) ri et fun σ3 hl3 ho3 sl3 => ⟨by rw [wipe_same vs is hl3 ho3 his, wipe_idem], ?_⟩
            have sl3' : Sl Z.g m2 G2.length H3 (wipe σ vs) (wipeE r vs) := Sl.ex x3 s2 sl2
            unfold L2.tYes
            with_reducible refine yes_i ?_
            refine ⟨m2, r3, G2, s3, sl3, ?_⟩
            cases eE : ke r3 G2 with
            | stuck => rw [eE] at p2; exact p2.elim
            | exc _ _ _ _ => rw [eE] at p2; exact p2.elim
            | ok y G4 =>
              rw [eE] at p2
              intro u m4 H4 x4 s4 ru
              have sl4' := Sl.ex x4 s3 sl3'
              refine ⟨m4, r3, G4, s4, Sl.ex x4 s3 sl3, ?_⟩
              simp only at p2
              cases eV : ve r3 G4 with
              | stuck => rw [eV] at p2; exact p2.elim
              | exc _ _ _ _ => rw [eV] at p2; exact p2.elim
              | ok v G5 =>
                rw [eV] at p2
                intro w m5 H5 x5 s5 rw'
                simp only at p2
                split at p2
                · rename_i k kvs hkt hg5
                  split at p2
                  · rename_i hlt
                    have hj := getLt hg5
                    have hl4 : G1.length < G4.length := Nat.lt_of_lt_of_le hl2 x4.le
                    have hm5 : m5 G1.length = D := by rw [x5.ag _ hl4, x4.ag _ hl2]; exact hm2
                    obtain ⟨xs, hd, rx⟩ := s5.ob _ _ hg5
                    have ek := keyOf_rp ru hkt
                    obtain ⟨xw, sw⟩ := dk_put s5 hj hd rx rw' hlt (k := k)
                    refine ⟨_, k, ek, by rw [← hm5]; exact hd, by have := zip_le (kvs := kvs) (xs := xs); rw [sizeLine_eq]; omega, ?_⟩
                    rw [← hm5]
                    exact ⟨m5, _, ⟨sw, Sl.ex xw s5 (Sl.ex x5 s4 sl4'), (((x2.trans s2 x3).trans s3 x4).trans s4 x5).trans s5 xw, by rw [List.length_set]; exact hj, rfl⟩, p2⟩
                  · exact p2.elim
                · exact p2.elim
      · exact p2.elim
    · left
      have hl : its.length ≤ i := Nat.le_of_not_lt hi
      rw [List.drop_of_length_le hl] at p2
      unfold dcLoopK at p2
      split at p2
      · rename_i hk2
        refine ⟨(hwk Z.g.rv i m2 H' G2 (fun a ha => .inl ha) s2 x2.r hk2).1 (Nat.le_antisymm hil hl), ?_⟩
        exact p2 (.ref D) m2 H' x2 s2 ⟨hl2, by rw [hm2]⟩
      · exact p2.elim
 ); type_of% ?G)
theorem ps_setDcK {X : Cx} {i : Nat} {y : Str} {py spos : Pos} {wi : TI} {gt : TG} {tt : TT} {tk tv : TE} (hc : X.calm = true) (hN : X.N.Nodup) (hy : X.N[i]? = some y) (hyl : X.env.scope.names.lookup y = some .local)
    (hsw : swapsWith (.DictComp kx vx [⟨tg, iter, [], 0⟩] scope pos) (some (.Name y py)) spos.line X.env = pure true) (hi : PI X tg iter wi) (ok : BlkOk X.N X.env.scope scope own)
    (hg : ∀ s H C cl fp, PG (X.blk s H scope (compEnvC scope cl C X.env) fp) tg gt) (ht : ∀ s H C cl fp, PTs (X.blk s H scope (compEnvC scope cl C X.env) fp) [] tt) (hk : ∀ s H C cl fp, PE (X.blk s H scope (compEnvC scope cl C X.env) fp) kx tk) (hv : ∀ s H C cl fp, PE (X.blk s H scope (compEnvC scope cl C X.env) fp) vx tv)
    (hs : ∀ x, foldedSetIterable iter X.env x = pure x) : PS X (.Assign [.Name y py] (.DictComp kx vx [⟨tg, iter, [], 0⟩] scope pos) spos) (tAsg (tDc wi gt tt tk tv (own.map (·.2))) (gName i)) := by
  refine ?G
  exact (by (intro h; exact h) : have h : (type_of% ?G) := (⟨fun pins s σ H D I h => by
  rw [exec_Assign_Name_used _ _ _ _ hsw]
  refine wpAny_bind (wpAny_standAt (wpAny_bind ?_))
  change tDc wi gt tt tk tv (own.map (·.2)) σ H (fun x H1 => gName i x σ H1 D.nx) at h
  change wpAny _ X.A (do let _ ← comprehension (.DictComp kx vx [⟨tg, iter, [], 0⟩] scope pos) scope X.env (firstIterPos [⟨tg, iter, [], 0⟩] pos) newDict false (eval iter X.env) (some (assign (.Name y py) X.env))) _ _ s
  refine wpAny_bind (thn (dc_core (Qf := fun _ s' => SP X pins D .next s') hc hN I hi ok hg ht hk hv hs h fun L C s' mm H' J q hn ⟨f0, f1, f2, f3, f4, f5⟩ => ?_) fun _ s' hq => wpAny_pure (wpAny_pure hq))
  refine wpAny_assign_Name (store_ok2 (v := V.ref L) J hN hy (.inl hyl) rfl (fun s2 I2 ⟨a, sb, ha⟩ => ⟨mm, hn.sameBut sb ?_, fun h3 sb3 => ?_⟩) (.inr hyl))
  · exact ha.elim (fun z => by rw [z]; exact f1) fun z e => f4 y a z e.symm
  · exact ⟨_, H', I2.turned (t' := s2.toks) (fun b o hb e => (sb3.2 b hb).trans e) f0 f1 f3 f4 f5, q⟩⟩
 ); type_of% ?G)
theorem psd_setDcK {i : Nat} {y : Str} {py spos : Pos} (hi : PDI Z tg iter di) (hb : BlkOk Z.N Z.sc scope own) (hg : PDG (Z.blk scope []) tg is td) (his : ∀ i, i ∈ is → i ∈ own.map (·.2)) (hk : ∀ rv, PD (Z.blk scope rv) kx ke) (hv : ∀ rv, PD (Z.blk scope rv) vx ve)
    (hy : Z.N[i]? = some y := by rfl) (hyl : Z.sc.names.lookup y = some .local := by rfl) (hsk : Z.sc.kind = .function := by rfl) (hl : (py.line == pos.line) = true := by rfl) (hna : (scope.names.any fun (n, k) => n == y && (k == .local || k == .cell)) = false := by decide +kernel)
    (hs : ∀ env x, foldedSetIterable iter env x = pure x := by intro _ _; rfl) : PSD Z (.Assign [.Name y py] (.DictComp kx vx [⟨tg, iter, [], 0⟩] scope pos) spos) (dSet i (dcRunK (own.map (·.2)) di td ke ve)) := by
  refine ?G
  exact (by (intro h; exact h) : have h : (type_of% ?G) := (fun X W ok => by
  obtain ⟨gt, hgt, hg⟩ := hg
  have hsw : swapsWith (.DictComp kx vx [⟨tg, iter, [], 0⟩] scope pos) (some (.Name y py)) spos.line X.env = pure true := by
    have ky : X.env.kindOf y = some .local := by show X.env.scope.names.lookup y = _; rw [ok.sc]; exact hyl
    have hbk : X.env.blockKind = .function := by unfold Env.blockKind; rw [ok.sc, hsk]; rfl
    unfold swapsWith
    simp only [hbk, ky, hna, Expr.pos, hl]
    rfl
  refine psI (ps_setDcK (i := i) (own := own) (gt := gt) ok.calm ok.nd (by rw [ok.N]; exact hy) (by rw [ok.sc]; exact hyl) hsw (hi X W ok) (by rw [ok.N, ok.sc]; exact hb) (fun s H C cl fp => hgt _ _ (ok.blk s H scope cl C fp [])) (fun s H C cl fp => L2.pts_nil) (fun s H C cl fp => hk Z.rv _ _ (ok.blk s H scope cl C fp Z.rv)) (fun s H C cl fp => hv Z.rv _ _ (ok.blk s H scope cl C fp Z.rv)) (hs _)) fun D σ H ⟨m, r, G, s, sl, p⟩ => ?_
  have : tI Z.g W (dcRunK (own.map (·.2)) di td ke ve) σ H (fun v H1 => D.nx (σ.set i (some v)) H1) := tS_bind s sl p fun x G1 v m1 H1 e x1 s1 sl1 rv p1 => p1 _ m1 H1 Ex.refl s1 (sl1.set rv)
  exact tDc_of (Z := Z) hg his this
 ); type_of% ?G)
end
/-! ### read backwards -/
section
variable {Q : D → Hs → Prop} {E : XP} {N : NP} {R : TP} {B C : NP} {X : XP} {x y z : D} {G : Hs} {r : Ev}
theorem e_fz {d : De} (h : Wp (d r G) (fun x G1 => ∃ j, x = .loc j ∧ ((∃ kvs, G1[j]? = some (.dk kvs) ∧ Q (.loc j) (G1.set j (.fdk kvs))) ∨ ∃ kvs, G1[j]? = some (.fdk kvs) ∧ Q (.loc j) G1)) E) : Wp (dFz d r G) Q E := by
  unfold dFz
  rw [wp_bind]
  refine h.mono (fun x G1 h => ?_) fun _ _ _ _ z => z
  rcases h with ⟨j, rfl, ⟨kvs, hg, q⟩ | ⟨kvs, hg, q⟩⟩ <;> simp only [hg] <;> exact e_ok q
theorem i_Fd {a : De} {P : List Im → Kp → Hs → Prop} (h : Wp (a r G) (fun x G1 => ∃ kvs, fdOf G1 x = some kvs ∧ P ((kvs.map fun p => kD p.1).map Im.one) none G1) E) : Wi (iFd a r G) P E := by
  unfold iFd
  rw [wi_itr]
  refine h.mono (fun x G1 h => ?_) fun _ _ _ _ z => z
  obtain ⟨ks, e, q⟩ := h
  rw [e]
  with_unfolding_all exact q
/-- a dict comprehension with flat keys, by an invariant on the heap as a whole: J j G, the new dict is G1.length -/
theorem e_dcK {own : List Nat} {di : Di} {td : Tg} {ke ve : De} {r0 : Ev} (hr : wipeE r own = r0) (h : Wi (di r G) (fun its kp G1 => ∃ J : Nat → Hs → Prop, J 0 (G1 ++ [.dk []]) ∧ (∀ j G2, J j G2 → kpOk kp G2) ∧
    (∀ j G2 im, its[j]? = some im → J j G2 → ∃ r1, td im r0 = some r1 ∧ Wp (ke r1 G2) (fun y G3 => ∃ k, keyOf y = some k ∧ Wp (ve r1 G3) (fun v G4 => ∃ kvs, G4[G1.length]? = some (.dk kvs) ∧ kvs.length < 16777215 ∧ J (j + 1) (G4.set G1.length (.dk (putA kvs k v)))) (fun _ _ _ _ => False)) (fun _ _ _ _ => False)) ∧
    ∀ G2, J its.length G2 → Q (.loc G1.length) G2) E) : Wp (dcRunK own di td ke ve r G) Q E := by
  refine ?G
  exact (by (intro h; exact h) : have h : (type_of% ?G) := (by
  unfold dcRunK
  cases e : di r G with
  | stuck => rw [e] at h; exact False.elim (by with_unfolding_all exact h)
  | exc c ns ds G1 => rw [e] at h; with_unfolding_all exact h
  | ok its kp G1 =>
    rw [e] at h
    have h : ∃ J : Nat → Hs → Prop, J 0 (G1 ++ [.dk []]) ∧ (∀ j G2, J j G2 → kpOk kp G2) ∧
      (∀ j G2 im, its[j]? = some im → J j G2 → ∃ r1, td im r0 = some r1 ∧ Wp (ke r1 G2) (fun y G3 => ∃ k, keyOf y = some k ∧ Wp (ve r1 G3) (fun v G4 => ∃ kvs, G4[G1.length]? = some (.dk kvs) ∧ kvs.length < 16777215 ∧ J (j + 1) (G4.set G1.length (.dk (putA kvs k v)))) (fun _ _ _ _ => False)) (fun _ _ _ _ => False)) ∧
      ∀ G2, J its.length G2 → Q (.loc G1.length) G2 := by with_unfolding_all exact h
    obtain ⟨J, h0, hk, hs, he⟩ := h
    have main : ∀ (l : List Im) (j : Nat) (G2 : Hs), its.drop j = l → j + l.length = its.length → J j G2 → ∃ G3, dcLoopK td ke ve kp r0 G1.length l G2 = some G3 ∧ J its.length G3 := by
      intro l
      induction l with
      | nil =>
        intro j G2 _ hl hI
        unfold dcLoopK
        rw [if_pos (hk _ _ hI)]
        have : j = its.length := by simpa using hl
        subst this
        exact ⟨_, rfl, hI⟩
      | cons im l ih =>
        intro j G2 hd hl hI
        unfold dcLoopK
        rw [if_pos (hk _ _ hI)]
        have hi : its[j]? = some im := by
          have := congrArg (fun l : List Im => l[0]?) hd
          simpa using this
        obtain ⟨r1, e1, h1⟩ := hs j G2 im hi hI
        obtain ⟨y, G3, e4, k, ek, h2⟩ := h1.ex
        obtain ⟨v, G4, e5, kvs, eg, e3, h3⟩ := h2.ex
        simp only [e1, e4, e5, ek, eg, e3, if_true]
        refine ih (j + 1) _ ?_ (by rw [← hl, List.length_cons]; omega) h3
        have := congrArg List.tail hd
        simpa using this
    obtain ⟨G3, e1, e2⟩ := main its 0 _ rfl (by simp) h0
    simp only [hr, e1]
    exact e_ok (he G3 e2)
 ); type_of% ?G)
end
end BL

set_option Elab.async false
set_option linter.all false
set_option maxRecDepth 100000
set_option maxHeartbeats 1000000
namespace BL
open PySem PySem.Spec PyProof.Rows L2

/-! ### len(set(..)) of ints or texts -/
def metSK (L : List Key) (x : Key) : List Key := if L.any (fun z => decide (z = x)) then L else L ++ [x]
def metNK (xs : List Key) : Nat → List Key
  | 0 => []
  | i + 1 => metSK (metNK xs i) (xs.getD i (.inl 0))
theorem metSK_any (L : List Key) (x k : Key) : (metSK L x).any (fun z => decide (z = k)) = (L.any (fun z => decide (z = k)) || decide (k = x)) := by
  refine ?G
  exact (by (intro h; exact h) : have h : (type_of% ?G) := (by
  unfold metSK
  by_cases q : L.any (fun z => decide (z = x)) = true
  · rw [if_pos q]
    by_cases e : k = x
    · subst e; rw [q]; rfl
    · simp [e]
  · rw [if_neg q, List.any_append]
    have : [x].any (fun z => decide (z = k)) = decide (k = x) := by
      simp only [List.any_cons, List.any_nil, Bool.or_false]
      exact decide_eq_decide.mpr ⟨fun h => h.symm, fun h => h.symm⟩
    rw [this]
 ); type_of% ?G)
theorem metSK_len (L : List Key) (x : Key) : (metSK L x).length = if L.any (fun z => decide (z = x)) then L.length else L.length + 1 := by
  unfold metSK
  split <;> simp
theorem metNK_le (xs : List Key) : ∀ i, (metNK xs i).length ≤ i
  | 0 => Nat.le_refl _
  | i + 1 => by
    have h := metNK_le xs i
    show (metSK _ _).length ≤ i + 1
    rw [metSK_len]
    split <;> omega
theorem setOf_cg {P : Program} {w : World} {h : Heap} {a : Addr} {S S' : Key → Bool} {n n' : Nat} (q : h.SetOf (mixKind P w) a S n) (e : ∀ k, S k = S' k) (en : n = n') : h.SetOf (mixKind P w) a S' n' := by
  cases en
  cases (show S = S' from funext e)
  exact q
theorem key_at : ∀ {xs : List Key} {us : List Value} {i : Nat} {v : Value}, Vals (xs.map kV) us → us[i]? = some v → RelV (kV (xs.getD i (.inl 0))) v
  | [], [], i, v, .nil, h => by simp at h
  | x :: xs, u :: us, 0, v, .cons r t, h => by simp at h; subst h; simpa using r
  | x :: xs, u :: us, i + 1, v, .cons r t, h => by simpa using key_at t (by simpa using h)
section
variable {prog : Program} {w : World} {A : Around} {R : Result → Shared → Prop} {I : Addr} {fp wr : List Addr} {G : Array GenState → Array GenState → Prop} {n : Nat} {P : Nat → Value → Prop} {St : Nat → Shared → Prop}
/-- T is the set, I the walk -/
abbrev KeyAt (prog : Program) (w : World) (T : Addr) (h : Heap) (L : List Key) : Prop := h.SetOf (mixKind prog w) T (fun k => L.any (fun z => decide (z = k))) L.length
theorem KeyAt.mv {T : Addr} {h h' : Heap} {L : List Key} (x : KeyAt prog w T h L) (k : ∀ o, h.get? T = some o → h'.get? T = some o) : KeyAt prog w T h' L := by
  obtain ⟨o, es, ep, t, e, r⟩ := x
  exact ⟨o, es, ep, t, k o e, r⟩
theorem fill_keys (Wk : WalksS prog w A.in1 I fp wr G n P St) {T : Addr} (nT : T ∉ fp) {xs : List Key} (few : n + 1 < scanBound) (txt : ∀ i v, P i v → RelV (kV (xs.getD i (.inl 0))) v) :
    ∀ (left i : Nat) (s0 : Shared), i + left = n → St i s0 → KeyAt prog w T s0.heap (metNK xs i) →
      (∀ s1, Moved (T :: wr) G s0 s1 → KeyAt prog w T s1.heap (metNK xs n) → R (.ok (.ret .none)) s1) → codeAny (model prog w) A (.builtin "set.update.loop" ⟨[.ref T, .ref I], []⟩) R s0 := by
  refine ?G
  exact (by (intro h; exact h) : have h : (type_of% ?G) := (by
  have nW : T ∉ wr := fun z => nT (Wk.sub _ z)
  have more : ∀ b, b ∈ wr → b ∈ T :: wr := fun b z => .tail _ z
  intro left
  induction left with
  | zero =>
    intro i s0 hl hst hT hR
    obtain rfl : i = n := by omega
    refine codeAny_builtin F.entry_set_update_loop ?_
    rw [Around.under_plainId F.plain_set_update_loop _]
    show wpAny _ A.in1 (pyNext (.ref I) >>= _) _ _ s0
    refine wpAny_bind (Wk.done s0 _ _ hst fun s1 mv => ?_)
    show wpAny _ A.in1 (ret .none) _ _ s1
    exact wpAny_pure (hR s1 (mv.mono more) (hT.mv fun o e => mv.heap T o nW e))
  | succ left ih =>
    intro i s0 hl hst hT hR
    have lt : i < n := by omega
    refine codeAny_builtin F.entry_set_update_loop ?_
    rw [Around.under_plainId F.plain_set_update_loop _]
    show wpAny _ A.in1 (pyNext (.ref I) >>= _) _ _ s0
    refine wpAny_bind (Wk.item i s0 _ _ lt hst fun v s1 hP hst1 mv => ?_)
    have hv := txt i v hP
    have hT1 : KeyAt prog w T s1.heap (metNK xs i) := hT.mv fun o e => mv.heap T o nW e
    show wpAny _ A.in1 (holding [v] (setAdd T v) >>= _) _ _ s1
    refine wpAny_bind (wpAny_holding ?_)
    unfold setAdd
    refine wpAny_holding (wpAny_bind ((mixKind prog w).pyHash (k := xs.getD i (.inl 0)) (kV_is hv) ?_))
    have few1 : (metNK xs i).length + 1 < scanBound := by
      have := metNK_le xs i
      omega
    refine wpAny_setAddHashed_of (knd := mixKind prog w) (s := { s1 with toks := s1.toks + 1 }) (kV_is hv) (key_scan hv) hT1 few1 fun h2 but hT2 => ?_
    have hT3 : KeyAt prog w T h2 (metNK xs (i + 1)) := setOf_cg hT2 (fun k => (metSK_any _ _ k).symm) (metSK_len _ _).symm
    refine wpAny_pure ⟨plainId_quiet F.plain_set_update_loop _, ?_⟩
    refine ih (i + 1) _ (by omega) (Wk.frame _ s1 _ _ hst1 (Nat.le_succ _) fun b hb o e => ?_) hT3 fun s3 mv3 hT4 => hR s3 (Moved.trans Wk.gtrans ((mv.mono more).then_heap (Nat.le_succ _) fun b o hb e => ?_) mv3) hT4
    · rw [but.2 b (fun z => nT (z ▸ hb))]; exact e
    · rw [but.2 b (fun z => hb (z ▸ .head _))]; exact e
 ); type_of% ?G)
end
section
variable {prog : Program} {w : World} {A : Around} {E : Value → Shared → Prop} {s : Shared}
end
section
variable {X : Cx} {a : Expr} {ta : TE} {p p2 q pos : Pos}
def tLenKs (K : PySem.W.Frag) (ta : TE) : TE := fun σ H Q => ta σ H fun x H1 => ∃ (l : Addr) (xs : List Key), x = .ref l ∧ SqL K H1 l (xs.map kV) ∧ xs.length ≤ 4000 ∧ Q (.int ((metNK xs xs.length).length : Nat)) H1
end
end BL

set_option Elab.async false
set_option linter.all false
set_option maxRecDepth 100000
set_option maxHeartbeats 400000
namespace BL
open PySem PySem.Spec PyProof.Rows L2

def fLenKs : List D → Hs → Re := fun ds G => match ds with
  | [x] => (match asL G x with
    | some es => (match intsT es with
      | some xs => if xs.length ≤ 4000 then .ok (.t (.int ((metNK (xs.map .inl) xs.length).length : Nat))) G else .stuck
      | none => .stuck)
    | none => .stuck)
  | _ => .stuck
section
variable {Z : Zc} {e a b : Expr} {d da db : De} {p p2 q pos : Pos}
end
/-! ### l.index(x), data of any depth -/
def fLixD : D → List D → Hs → Re := fun x ds G => match ds with
  | [.t u] => (match asD G x with
    | some (.lst ts) => if (cmpT u = true ∧ cmpTs ts = true) ∧ (dep u ≤ 64 ∧ deps ts ≤ 63) then (match ts.findIdx? (fun t => teq t u) with
      | some j => .ok (.t (.int (j : Nat))) G
      | none => .stuck) else .stuck
    | _ => .stuck)
  | _ => .stuck
section
variable {Z : Zc} {o e : Expr} {do_ de : De} {apos cpos : Pos}
end
end BL

set_option Elab.async false
set_option linter.all false
set_option maxRecDepth 100000
set_option maxHeartbeats 400000
namespace BL
open PySem PySem.Spec PyProof.Rows L2

/-! ### d.setdefault(k, v), the keys tuples -/
def rSdN (X : Cx) : V → List V → Hp → VK → Prop := fun x xs H Q => ∃ (a : Addr) (es : Nd) (k : NestedKey) (b : Addr) (z : V), x = .ref a ∧ xs = [.ref b, z] ∧ NdH X H a es ∧ KeyA X H k b ∧ es.length < sizeLine ∧
  (∀ v, valN es k = some v → Q v H) ∧ (valN es k = none → ∀ ep, Q z (upd H a (ndO X.w a (putN es k b z) ep)))
def tSdN (X : Cx) (to : TE) (t : TA) : TE := fun σ H Q => to σ H fun x H1 => (∃ a es, x = V.ref a ∧ NdH X H1 a es) ∧ t σ H1 fun xs H2 => rSdN X x xs H2 Q
section
variable {X : Cx} {o e : Expr} {es : List Expr} {to : TE} {t : TA} {apos cpos : Pos}
end
def isNdL (G : Hs) : D → Bool
  | .loc i => match G[i]? with
    | some (.nd _) => true
    | _ => false
  | _ => false
def fSetdN : D → List D → Hs → Re := fun x ds G => match x, ds with
  | .loc i, [.t t, z] => (match nkT t, G[i]? with
    | some k, some (.nd kvs) => if kvs.length < 16777215 then (match lookN kvs k with
      | some d => .ok d G
      | none => .ok z (G.set i (.nd (putL kvs k t z)))) else .stuck
    | _, _ => .stuck)
  | _, _ => .stuck
section
variable {Z : Zc} {o e e2 : Expr} {do_ de de2 : De} {apos cpos : Pos}
end
section
variable {Q : D → Hs → Prop} {E : XP} {x y z : D} {G : Hs}
end
end BL

set_option Elab.async false
set_option linter.all false
set_option maxRecDepth 100000
set_option maxHeartbeats 400000
namespace BL
open PySem PySem.Spec PyProof.Rows L2

/-! ### tuple(range(e)), list(range(a, b)) -/
def rgT (n : Nat) : List T := (List.range n).map fun i => T.int (i : Nat)
def rgT2 (a : Int) (n : Nat) : List T := (List.range n).map fun i => T.int (a + (i : Nat))
def fRgT : D → Hs → Re
  | .t (.int n), G => if 0 ≤ n ∧ n ≤ 16777216 then .ok (.t (.tup (rgT n.toNat))) G else .stuck
  | _, _ => .stuck
def fRgL2 : D → D → Hs → Re
  | .t (.int a), .t (.int b), G => if 0 ≤ a ∧ a ≤ b ∧ b ≤ 16777216 then .ok (.t (.lst (rgT2 a (b - a).toNat))) G else .stuck
  | _, _, _ => .stuck
section
variable {Z : Zc} {e e2 : Expr} {d d2 : De} {p pos p2 pos2 : Pos}
theorem pd_tupRg (hm : Z.mg "tuple" = none) (hm2 : Z.mg "range" = none) (h : PD Z e d) (hg : GlS Z "tuple" := by rfl) (hg2 : GlS Z "range" := by rfl) (he : ∀ env, starEach [e] env = (false, eval e env) :: starEach [] env := by intro _; rfl) (he2 : ∀ env, starEach [Expr.Call (.Name "range" p2) [e] [] pos2] env = (false, eval (.Call (.Name "range" p2) [e] [] pos2) env) :: starEach [] env := by intro _; rfl) : PD Z (.Call (.Name "tuple" p) [.Call (.Name "range" p2) [e] [] pos2] [] pos) (dUn fRgT d) := by
  refine ?G
  exact (by (intro h; exact h) : have h : (type_of% ?G) := (fun X W ok => by
  refine peI (pe_tupRg ok.calm (show X.env.scope.names.lookup _ = _ by rw [ok.sc]; exact hg) (by rw [ok.mg]; exact hm) (prg_1 (show X.env.scope.names.lookup _ = _ by rw [ok.sc]; exact hg2) (by rw [ok.mg]; exact hm2) (h X W ok) (he _)) (he2 _)) fun σ H Q ⟨m, r, G, s, sl, p⟩ => ?_
  refine tI_bind s sl p fun x G1 v m1 H1 e1 x1 s1 sl1 rv p1 => ?_
  unfold fRgT at p1
  split at p1
  · rename_i n
    split at p1
    · rename_i hz
      cases rv
      refine ⟨n, rfl, RgOk.of_le (by omega) hz.2 (by omega) hz.1, fun q hq => ?_⟩
      have hl : (rgV 0 n).length ≤ sizeLine := by rw [rgV_length]; have : sizeLine = 16777216 := rfl; omega
      refine p1 (.ref q) m1 _ (Ex.new hq) (s1.new hq hl) ⟨q, _, rfl, .inl (.inl upd_same), ?_⟩
      have e : rgV 0 n = (List.range n.toNat).map fun i => V.int (((i : Nat) : Int)) := by unfold rgV; simp
      rw [e]
      exact rps_rg _
    · exact p1.elim
  · exact p1.elim
 ); type_of% ?G)
end
section
variable {Q : D → Hs → Prop} {E : XP} {G : Hs}
theorem f_rgT {n : Int} (h0 : 0 ≤ n) (h1 : n ≤ 16777216) (h : Q (.t (.tup (rgT n.toNat))) G) : Wp (fRgT (.t (.int n)) G) Q E := by
  simp only [fRgT, h0, h1, and_self, if_true]; with_unfolding_all exact h
end
end BL

set_option Elab.async false
set_option linter.all false
set_option maxRecDepth 100000
set_option maxHeartbeats 400000
namespace BL
open PySem PySem.Spec PyProof.Rows L2

/-! ### each once, in the order of first places -/
section
variable {α : Type} [DecidableEq α]
def ded (l : List α) : List α := l.foldl (fun a x => if x ∈ a then a else a ++ [x]) []
theorem ded_snoc {l : List α} {x : α} : ded (l ++ [x]) = if x ∈ ded l then ded l else ded l ++ [x] := by
  unfold ded
  rw [List.foldl_append]; rfl
theorem ded_take {l : List α} {k : Nat} {x : α} (h : l[k]? = some x) : ded (l.take (k + 1)) = if x ∈ ded (l.take k) then ded (l.take k) else ded (l.take k) ++ [x] := by
  rw [List.take_add_one, h]
  exact ded_snoc
theorem snocInd {P : List α → Prop} (h0 : P []) (hs : ∀ l x, P l → P (l ++ [x])) (l : List α) : P l := by
  have : ∀ n (l : List α), l.length = n → P l := by
    intro n
    induction n with
    | zero => intro l h; rw [List.length_eq_zero_iff.mp h]; exact h0
    | succ n ih =>
      intro l h
      have hne : l ≠ [] := fun z => by rw [z] at h; cases h
      rw [← List.dropLast_concat_getLast hne]
      exact hs _ _ (ih _ (by rw [List.length_dropLast]; omega))
  exact this _ l rfl
theorem mem_ded {x : α} : ∀ {l : List α}, x ∈ ded l ↔ x ∈ l := by
  intro l
  induction l using snocInd with
  | h0 => exact Iff.rfl
  | hs l y ih =>
    rw [ded_snoc]
    by_cases q : y ∈ ded l
    · rw [if_pos q, List.mem_append, ih]
      exact ⟨.inl, fun h => h.elim id fun h => by simp at h; subst h; exact ih.mp q⟩
    · rw [if_neg q, List.mem_append, List.mem_append, ih]
theorem ded_nodup : ∀ {l : List α}, (ded l).Nodup := by
  intro l
  induction l using snocInd with
  | h0 => exact List.nodup_nil
  | hs l y ih =>
    rw [ded_snoc]
    split
    · exact ih
    · rename_i q
      rw [List.nodup_append]
      exact ⟨ih, by simp, fun a ha b hb => by simp at hb; subst hb; exact fun z => q (z ▸ ha)⟩
def ixo (L : List α) (x : α) : Nat := L.idxOf x
theorem idx_pre {L t : List α} {x : α} (h : x ∈ L) : ixo (L ++ t) x = ixo L x := by unfold ixo; rw [List.idxOf_append, if_pos h]
theorem idx_new {L : List α} {x : α} (h : x ∉ L) : ixo (L ++ [x]) x = L.length := by unfold ixo; rw [List.idxOf_append, if_neg h]; simp
theorem idx_inj {L : List α} {x y : α} (hx : x ∈ L) (hy : y ∈ L) (h : ixo L x = ixo L y) : x = y := by
  have h1 := List.idxOf_lt_length_of_mem hx
  have h2 := List.idxOf_lt_length_of_mem hy
  have e1 := List.getElem_idxOf h1
  have e2 := List.getElem_idxOf h2
  rw [← e1, ← e2]
  unfold ixo at h
  simp only [h]
/-- a finer look tells at least as many apart -/
theorem ded_finer {β γ : Type} [DecidableEq γ] (f : β → α) (g : β → γ) : ∀ (S : List β), (∀ a ∈ S, ∀ b ∈ S, g a = g b → f a = f b) → (ded (S.map f)).length ≤ (ded (S.map g)).length := by
  refine ?G
  exact (by (intro h; exact h) : have h : (type_of% ?G) := (by
  intro S
  have main : ∀ (S : List β), (∀ a ∈ S, ∀ b ∈ S, g a = g b → f a = f b) → (ded (S.map f)).length ≤ (ded (S.map g)).length := by
    intro S h
    have hs : ∀ u ∈ ded (S.map f), ∃ v ∈ ded (S.map g), ∃ s ∈ S, f s = u ∧ g s = v := fun u hu => by
      obtain ⟨s, hs, e⟩ := List.mem_map.mp (mem_ded.mp hu)
      exact ⟨g s, mem_ded.mpr (List.mem_map.mpr ⟨s, hs, rfl⟩), s, hs, e, rfl⟩
    have inj : ∀ (A : List α) (B : List γ), A.Nodup → (∀ u ∈ A, ∃ v ∈ B, ∃ s ∈ S, f s = u ∧ g s = v) → A.length ≤ B.length := by
      intro A
      induction A with
      | nil => intro B _ _; exact Nat.zero_le _
      | cons u A ih =>
        intro B nd hA
        obtain ⟨v, hv, s, hs, e1, e2⟩ := hA u (.head _)
        rw [List.nodup_cons] at nd
        have := ih (B.erase v) nd.2 fun w hw => by
          obtain ⟨v', hv', s', hs', e1', e2'⟩ := hA w (.tail _ hw)
          refine ⟨v', (List.mem_erase_of_ne fun z => ?_).mpr hv', s', hs', e1', e2'⟩
          have : f s' = f s := h s' hs' s hs (by rw [e2', e2, z])
          rw [e1', e1] at this
          exact nd.1 (this ▸ hw)
        rw [List.length_erase_of_mem hv] at this
        have hpos := List.length_pos_of_mem hv
        simp only [List.length_cons]
        omega
    exact inj _ _ ded_nodup hs
  exact main S
 ); type_of% ?G)
end
/-! ### states told apart -/
/-- the class of s under f, by first places in S -/
def cls {α : Type} [DecidableEq α] (S : List Int) (f : Int → α) (s : Int) : Nat := ixo (ded (S.map f)) (f s)
/-- what one look tells: one's own class, and those of the states behind -/
def sgn (δ : Int → List Int) (c : Int → Nat) (s : Int) : Nat × List Nat := (c s, (δ s).map c)
def cnt {α : Type} [DecidableEq α] (S : List Int) (f : Int → α) : Nat := (ded (S.map f)).length
def refi (S : List Int) (δ : Int → List Int) : Nat → (Int → Nat) → Int → Nat
  | 0, c => cls S (sgn δ c)
  | n + 1, c => if cnt S (sgn δ c) = cnt S c then cls S (sgn δ c) else refi S δ n (cls S (sgn δ c))
section
variable {α : Type} [DecidableEq α] {S : List Int} {δ : Int → List Int} {f : Int → α} {c : Int → Nat}
theorem cls_eq {s t : Int} (hs : s ∈ S) (ht : t ∈ S) : cls S f s = cls S f t ↔ f s = f t :=
  ⟨idx_inj (mem_ded.mpr (List.mem_map.mpr ⟨s, hs, rfl⟩)) (mem_ded.mpr (List.mem_map.mpr ⟨t, ht, rfl⟩)), fun h => by unfold cls; rw [h]⟩
end
end BL

set_option Elab.async false
set_option linter.all false
set_option maxRecDepth 100000
set_option maxHeartbeats 1000000
namespace BL
open PySem PySem.Spec PyProof.Rows L2

/-! ### tuple * int, any count -/
def rRepA (K : PySem.W.Frag) : R2 := fun x y H Q => ∃ l k xs, x = .ref l ∧ y = .int k ∧ SqT K H l xs ∧ 0 ≤ k ∧ k ≤ 1000 ∧ xs.length ≤ 1000 ∧ (∀ p, H p = none → Q (.ref p) (upd H p (.tup (List.replicate k.toNat xs).flatten))) ∧ (xs = [] ∨ k = 1 → Q (.ref l) H)
def fRepTT : D → D → Hs → Re
  | .t (.tup ts), .t (.int k), G => if 0 ≤ k ∧ k ≤ 1000 ∧ ts.length ≤ 1000 then .ok (.t (.tup (List.replicate k.toNat ts).flatten)) G else .stuck
  | _, _, _ => .stuck
section
variable {Z : Zc} {a b : Expr} {da db : De} {pos : Pos}
end
end BL

set_option Elab.async false
set_option linter.all false
set_option maxRecDepth 100000
set_option maxHeartbeats 1000000
namespace BL
open PySem PySem.Spec PyProof.Rows L2

/-! ### dict(l), a list of pairs (flat key, plain value) -/
def prsT : List T → Option (List (Key × T))
  | [] => some []
  | .tup [k, v] :: ts => (match keyOf (.t k), prsT ts with
    | some k', some r => some ((k', v) :: r)
    | _, _ => none)
  | _ => none
def mergeT (acc : List (Key × D)) (l : List (Key × T)) : List (Key × D) := l.foldl (fun a p => putA a p.1 (.t p.2)) acc
def fDictP : List D → Hs → Re := fun ds G => match ds with
  | [x] => (match asD G x with
    | some (.lst ts) => (match prsT ts with
      | some kvs => .ok (.loc G.length) (G ++ [.dk (mergeT [] kvs)])
      | none => .stuck)
    | _ => .stuck)
  | _ => .stuck
section
variable {g : Gm} {m : Nat → Addr} {n b : Nat} {H : Hp}
end
section
variable {Z : Zc} {e : Expr} {d : De} {p pos : Pos}
end
end BL

set_option Elab.async false
set_option linter.all false
set_option maxRecDepth 100000
set_option maxHeartbeats 1000000
namespace BL
open PySem PySem.Spec PyProof.Rows L2

/-! ### sum(l), a list of ints -/
def fSumI : List D → Hs → Re := fun ds G => match ds with
  | [x] => (match asL G x with
    | some es => (match intsT es with
      | some is => .ok (.t (.int is.sum)) G
      | none => .stuck)
    | none => .stuck)
  | _ => .stuck
section
variable {Z : Zc} {e : Expr} {d : De} {p pos : Pos}
end
end BL

set_option Elab.async false
set_option linter.all false
set_option maxRecDepth 100000
set_option maxHeartbeats 400000
namespace BL
open PySem PySem.Spec PyProof.Rows L2

/-! ### refined so many times -/
def refN (S : List Int) (δ : Int → List Int) : Nat → (Int → Nat) → Int → Nat
  | 0, c => c
  | n + 1, c => refN S δ n (cls S (sgn δ c))
/-- the same on the states of S -/
def OnS {α : Type} (S : List Int) (a b : Int → α) : Prop := ∀ s, s ∈ S → a s = b s
section
variable {α : Type} [DecidableEq α] {S : List Int} {δ : Int → List Int} {f g : Int → α} {c c' : Int → Nat}
theorem cls_on (h : OnS S f g) : OnS S (cls S f) (cls S g) := fun s hs => by
  unfold cls
  rw [h s hs, List.map_congr_left h]
theorem sgn_on (hd : ∀ s, s ∈ S → ∀ t ∈ δ s, t ∈ S) (h : OnS S c c') : OnS S (sgn δ c) (sgn δ c') := fun s hs => by
  unfold sgn
  rw [h s hs, List.map_congr_left fun t ht => h t (hd s hs t ht)]
theorem refN_on (hd : ∀ s, s ∈ S → ∀ t ∈ δ s, t ∈ S) : ∀ (n : Nat) {c c' : Int → Nat}, OnS S c c' → OnS S (refN S δ n c) (refN S δ n c')
  | 0, _, _, h => h
  | n + 1, _, _, h => refN_on hd n (cls_on (sgn_on hd h))
/-- numbers by first places are known by what they tell apart -/
theorem cls_part {β : Type} [DecidableEq β] {a : Int → β} (h : ∀ s, s ∈ S → ∀ t, t ∈ S → (f s = f t ↔ a s = a t)) : OnS S (cls S f) (cls S a) := by
  refine ?G
  exact (by (intro h; exact h) : have h : (type_of% ?G) := (by
  have main : ∀ (P : List Int), (∀ s ∈ P, s ∈ S) → (ded (P.map f)).length = (ded (P.map a)).length ∧ ∀ s, s ∈ P → ixo (ded (P.map f)) (f s) = ixo (ded (P.map a)) (a s) := by
    intro P
    induction P using snocInd with
    | h0 => exact fun _ => ⟨rfl, fun s hs => by cases hs⟩
    | hs P y ih =>
      intro hP
      obtain ⟨h1, h2⟩ := ih fun s hs => hP s (List.mem_append_left _ hs)
      have hy := hP y (List.mem_append_right _ (.head _))
      have hm : f y ∈ ded (P.map f) ↔ a y ∈ ded (P.map a) := by
        rw [mem_ded, mem_ded, List.mem_map, List.mem_map]
        exact ⟨fun ⟨s, hs, e⟩ => ⟨s, hs, (h s (hP s (List.mem_append_left _ hs)) y hy).mp e⟩, fun ⟨s, hs, e⟩ => ⟨s, hs, (h s (hP s (List.mem_append_left _ hs)) y hy).mpr e⟩⟩
      rw [List.map_append, List.map_append, List.map_singleton, List.map_singleton, ded_snoc, ded_snoc]
      by_cases q : f y ∈ ded (P.map f)
      · rw [if_pos q, if_pos (hm.mp q)]
        refine ⟨h1, fun s hs => ?_⟩
        rcases List.mem_append.mp hs with hs | hs
        · exact h2 s hs
        · simp at hs
          subst hs
          obtain ⟨t, ht, e⟩ := List.mem_map.mp (mem_ded.mp q)
          have e2 := (h t (hP t (List.mem_append_left _ ht)) s hy).mp e
          rw [← e, ← e2]
          exact h2 t ht
      · rw [if_neg q, if_neg (fun z => q (hm.mpr z))]
        refine ⟨by rw [List.length_append, List.length_append, h1]; rfl, fun s hs => ?_⟩
        rcases List.mem_append.mp hs with hs | hs
        · rw [idx_pre (mem_ded.mpr (List.mem_map.mpr ⟨s, hs, rfl⟩)), idx_pre (mem_ded.mpr (List.mem_map.mpr ⟨s, hs, rfl⟩))]
          exact h2 s hs
        · simp at hs
          subst hs
          rw [idx_new q, idx_new (fun z => q (hm.mpr z)), h1]
  intro s hs
  exact (main S fun _ h => h).2 s hs
 ); type_of% ?G)
/-- where nothing more is told apart, nothing changes -/
theorem sgn_part (hc : cnt S (sgn δ c) = cnt S c) : ∀ s, s ∈ S → ∀ t, t ∈ S → (sgn δ c s = sgn δ c t ↔ c s = c t) := by
  refine ?G
  exact (by (intro h; exact h) : have h : (type_of% ?G) := (by
  intro s hs t ht
  refine ⟨fun h => congrArg Prod.fst h, fun h => ?_⟩
  apply Classical.byContradiction
  intro hne
  have key : ∀ (P : List Int), (∀ u ∈ P, u ∈ S) → (ded (P.map c)).length ≤ (ded (P.map (sgn δ c))).length := fun P _ => ded_finer c (sgn δ c) P fun a _ b _ h => congrArg Prod.fst h
  have two : (ded (S.map c)).length + 1 ≤ (ded (S.map (sgn δ c))).length := by
    have hs' : ∀ u ∈ ded (S.map c), ∃ v ∈ (ded (S.map (sgn δ c))).erase (sgn δ c t), v.1 = u := fun u hu => by
      obtain ⟨x, hx, rfl⟩ := List.mem_map.mp (mem_ded.mp hu)
      by_cases q : sgn δ c x = sgn δ c t
      · refine ⟨sgn δ c s, (List.mem_erase_of_ne hne).mpr (mem_ded.mpr (List.mem_map.mpr ⟨s, hs, rfl⟩)), ?_⟩
        have : c x = c t := congrArg Prod.fst q
        show c s = c x
        rw [this, h]
      · exact ⟨sgn δ c x, (List.mem_erase_of_ne q).mpr (mem_ded.mpr (List.mem_map.mpr ⟨x, hx, rfl⟩)), rfl⟩
    have inj : ∀ (A : List Nat) (B : List (Nat × List Nat)), A.Nodup → (∀ u ∈ A, ∃ v ∈ B, v.1 = u) → A.length ≤ B.length := by
      intro A
      induction A with
      | nil => intro B _ _; exact Nat.zero_le _
      | cons u A ih =>
        intro B nd hA
        obtain ⟨v, hv, e⟩ := hA u (.head _)
        rw [List.nodup_cons] at nd
        have := ih (B.erase v) nd.2 fun w hw => by
          obtain ⟨v', hv', e'⟩ := hA w (.tail _ hw)
          exact ⟨v', (List.mem_erase_of_ne fun z => nd.1 (by rw [← e, ← z, e']; exact hw)).mpr hv', e'⟩
        rw [List.length_erase_of_mem hv] at this
        have hpos := List.length_pos_of_mem hv
        simp only [List.length_cons]
        omega
    have h1 := inj _ _ ded_nodup hs'
    rw [List.length_erase_of_mem (mem_ded.mpr (List.mem_map.mpr ⟨t, ht, rfl⟩))] at h1
    have hpos := List.length_pos_of_mem (mem_ded.mpr (List.mem_map.mpr ⟨t, ht, rfl⟩) : sgn δ c t ∈ ded (S.map (sgn δ c)))
    omega
  unfold cnt at hc
  omega
 ); type_of% ?G)
theorem cls_self (hc : ∃ (β : Type) (_ : DecidableEq β) (a : Int → β), OnS S c (cls S a)) : OnS S (cls S c) c := by
  obtain ⟨β, _, a, ha⟩ := hc
  intro s hs
  rw [cls_on ha s hs, ha s hs]
  exact cls_part (fun s hs t ht => cls_eq hs ht) s hs
theorem stay (hd : ∀ s, s ∈ S → ∀ t ∈ δ s, t ∈ S) (hc : ∃ (β : Type) (_ : DecidableEq β) (a : Int → β), OnS S c (cls S a)) (he : cnt S (sgn δ c) = cnt S c) : ∀ n, OnS S (refN S δ n c) c
  | 0 => fun _ _ => rfl
  | n + 1 => by
    have h1 : OnS S (cls S (sgn δ c)) c := fun s hs => by
      rw [cls_part (sgn_part he) s hs]
      exact cls_self hc s hs
    intro s hs
    show refN S δ n (cls S (sgn δ c)) s = c s
    rw [refN_on hd n h1 s hs]
    exact stay hd hc he n s hs
end
end BL

set_option Elab.async false
set_option linter.all false
set_option maxRecDepth 100000
set_option maxHeartbeats 400000
namespace BL
open PySem PySem.Spec PyProof.Rows L2

/-! ### t[:n], t a tuple that is known to have no dict: so is its part -/
abbrev WholeT (xs : List V) (lo hi : Option Int) : Prop := HT.sIx xs.length 0 lo = 0 ∧ HT.sIx xs.length xs.length hi = xs.length
def rSlF (K : PySem.W.Frag) : V → Option Int → Option Int → Hp → VK → Prop := fun x lo hi H Q => ∃ p ys, x = .ref p ∧ SqT K H p ys ∧ (WholeT ys lo hi → Q (.ref p) H) ∧
  (¬ WholeT ys lo hi → ∀ l ob, H l = none → ob.dict = none → Q (.ref l) (upd H l (.frz ob (.tup (cutV ys lo hi)))))
def fSlF (x : D) (lo hi : Option Int) (G : Hs) : Re := match x with
  | .t (.ftp ts) => .ok (.t (.ftp (cutA ts lo hi))) G
  | _ => .stuck
def dSlF (a : De) (hi : De) : De := fun r G => (a r G).bind fun x G1 => (hi r G1).bind fun y G2 => match y with | .t (.int j) => fSlF x none (some j) G2 | _ => .stuck
section
variable {Z : Zc} {a u : Expr} {da du : De} {pos p2 : Pos}
end
/-! read backwards -/
section
variable {G : Hs} {Q : D → Hs → Prop} {E : XP}
end
end BL

set_option Elab.async false
set_option linter.all false
set_option maxRecDepth 100000
set_option maxHeartbeats 400000
namespace BL
open PySem PySem.Spec PyProof.Rows L2

/-! ### what is promised of a place with a function value -/
abbrev Ft := Nat → Addr → Obj → Addr → Str → List V → Prop
abbrev Gm0.wft (g : Gm0) (ft : Ft) : Gm0 := ⟨g.K, g.ca, g.w, ft⟩
abbrev Gm.wft (g : Gm) (ft : Ft) : Gm := ⟨g.toGm0.wft ft, g.tb, g.rv⟩
mutual
theorem Rp.wft {g : Gm0} {ft : Ft} {B : Addr → Prop} {H : Hp} : ∀ (t : T) (v : V), Rp g B H t v → Rp (g.wft ft) B H t v
  | .non, v, h => h
  | .bl b, v, h => h
  | .int i, v, h => h
  | .str y, v, h => h
  | .tup ts, v, ⟨a, xs, e, h, r⟩ => ⟨a, xs, e, h, Rps.wft ts xs r⟩
  | .lst ts, v, ⟨a, xs, e, h, r⟩ => ⟨a, xs, e, h, Rps.wft ts xs r⟩
  | .dk ks ts, v, ⟨a, xs, e, h, l, nb, r⟩ => ⟨a, xs, e, h, l, nb, Rps.wft ts xs r⟩
  | .obj c ns ts, v, ⟨a, dx, xs, e, h, l, nb, r⟩ => ⟨a, dx, xs, e, h, l, nb, Rps.wft ts xs r⟩
  | .ftp ts, v, ⟨a, ob, xs, e, h, l, nb, r⟩ => ⟨a, ob, xs, e, h, l, nb, Rps.wft ts xs r⟩
  | .cls c, v, h => h
  | .nd ks ts, v, ⟨a, ep, es, e, h, nb, q, r1, r2⟩ => ⟨a, ep, es, e, h, nb, q, Rps.wft ks _ r1, Rps.wft ts _ r2⟩
theorem Rps.wft {g : Gm0} {ft : Ft} {B : Addr → Prop} {H : Hp} : ∀ (ts : List T) (vs : List V), Rps g B H ts vs → Rps (g.wft ft) B H ts vs
  | [], vs, h => h
  | t :: ts, vs, ⟨v, ws, e, h, r⟩ => ⟨v, ws, e, Rp.wft t v h, Rps.wft ts ws r⟩
end
section
variable {g : Gm} {ft : Ft} {m : Nat → Addr} {n b i : Nat} {H : Hp} {G : Hs}
theorem RpD.wft : ∀ {d : D} {v : V}, RpD g m n b H d v → RpD (g.wft ft) m n b H d v
  | .t t, v, h => Rp.wft t v h
  | .loc i, v, h => h
theorem RpDs.wft : ∀ {ds : List D} {vs : List V}, RpDs g m n b H ds vs → RpDs (g.wft ft) m n b H ds vs
  | [], vs, h => h
  | d :: ds, vs, ⟨v, ws, e, h, r⟩ => ⟨v, ws, e, RpD.wft h, RpDs.wft r⟩
theorem OR.wft (hf : ∀ a ob c q xs, g.ft i a ob c q xs → ft i a ob c q xs) : ∀ {o : O}, OR g m n i H o → OR (g.wft ft) m n i H o
  | .lst ds, ⟨xs, e, r⟩ => ⟨xs, e, RpDs.wft r⟩
  | .dk kvs, ⟨xs, e, r⟩ => ⟨xs, e, RpDs.wft r⟩
  | .ins c fs, ⟨dx, xs, e, r⟩ => ⟨dx, xs, e, RpDs.wft r⟩
  | .flst ts, ⟨ob, xs, e, r⟩ => ⟨ob, xs, e, Rps.wft _ _ r⟩
  | .tpl ds, ⟨xs, e, r⟩ => ⟨xs, e, RpDs.wft r⟩
  | .nd kvs, ⟨ep, es, e, k, r0, r⟩ => ⟨ep, es, e, k, Rps.wft _ _ r0, RpDs.wft r⟩
  | .fnd kvs, ⟨ob, ep, es, e, k, r0, r⟩ => ⟨ob, ep, es, e, k, Rps.wft _ _ r0, RpDs.wft r⟩
  | .fdk kvs, ⟨ob, xs, e, r⟩ => ⟨ob, xs, e, RpDs.wft r⟩
  | .fn ds, ⟨ob, u, xs, c, q, e, hc, nb, h, r⟩ => ⟨ob, u, xs, c, q, e, hc, nb, hf _ _ _ _ _ h, RpDs.wft r⟩
theorem SR.wft (s : SR g m H G) (hf : ∀ i a ob c q xs, i < G.length → g.ft i a ob c q xs → ft i a ob c q xs) : SR (g.wft ft) m H G :=
  ⟨fun i o e => OR.wft (fun a ob c q xs h => hf i a ob c q xs (getLt e) h) (s.ob i o e), s.inj, s.sz, s.tb, s.rv⟩
theorem Sl.wft {σ : L2.St} {r : Ev} (h : Sl g m n H σ r) : Sl (g.wft ft) m n H σ r :=
  ⟨h.1, fun i d e => by
    obtain ⟨v, e1, q⟩ := h.2 i d e
    exact ⟨v, e1, q.wft⟩⟩
end
/-! ### the frame of a lambda that was handed on -/
structure CloS (N ps cs : List Str) (sc : Scope) : Prop where
  kind : sc.kind = .function
  co : sc.isCoroutine = false
  gen : sc.isGenerator = false
  own : ∀ y ∈ sc.names, y.2 ≠ .cell
  par : ∀ y ∈ ps, sc.names.lookup y = some .local
  cap : ∀ y ∈ cs, sc.names.lookup y = some .free
  all : ∀ y ∈ sc.names, y.2 = .free → y.1 ∈ cs
  eq : N = ps ++ cs
  nd : N.Nodup
/-- the cells hold the captured values -/
def CellsAt (h : Heap) (H : Hp) (cl : List (Str × Addr)) (cs : List Str) (ws : List V) : Prop :=
  ∀ (j : Nat) (y : Str), cs[j]? = some y → ∃ c u v, cl.lookup y = some c ∧ H c = none ∧ h.IsCell c (some u) ∧ ws[j]? = some v ∧ RelV v u
structure CloL (cl : List (Str × Addr)) (cs : List Str) : Prop where
  keys : ∀ y c, cl.lookup y = some c → y ∈ cs
  inj : ∀ x y c, cl.lookup x = some c → cl.lookup y = some c → x = y
abbrev cloEnv (q : Str) (sc : Scope) (L f c' : Addr) (cl : List (Str × Addr)) : Env := PySem.W.envX q sc L f (.ref c') cl
def cloCx (P : Program) (w : World) (K : PySem.W.Frag) (mg : Str → Option Value) (base : Heap) (N : List Str) (q : Str) (cl : List (Str × Addr)) (A : Around) (outer : List Env) (s : Shared) (H : Hp) (E : XK) (sc : Scope) (f c' : Addr) : Cx where
  prog := P
  w := w
  K := K
  mg := mg
  base := base
  A := A.deeper (cloEnv q sc s.heap.objs.size f c' cl)
  N := N
  s_0 := s
  H_0 := H
  env := cloEnv q sc s.heap.objs.size f c' cl
  outer := outer
  stack := cloEnv q sc s.heap.objs.size f c' cl :: outer
  ex := []
  fn := fun _ => false
  calm := true
  pn := []
  xe := fun e s' => wpAny (model P w) (A.deeper (cloEnv q sc s.heap.objs.size f c' cl)) (leaving (cloEnv q sc s.heap.objs.size f c' cl) e) (fun _ s'' => L2.CX P w outer H s E e s'') (fun e' s'' => L2.CX P w outer H s E e' s'') s'
def Zc.clo (Z : Zc) (N : List Str) (sc : Scope) (k : Nat) : Zc := { Z with N := N, sc := sc, fn := fun _ => false, k := k, cq := none, av := fun _ _ _ _ => True, own := false }
theorem Ok.clo {Z : Zc} {X : Cx} {W : WX} (ok : Ok Z X W) {N ps cs : List Str} {q : Str} {cl : List (Str × Addr)} {A : Around} {outer : List Env} {s : Shared} {H : Hp} {E : XK} {sc : Scope} {f c' : Addr} {k : Nat} (S : CloS N ps cs sc) (hr : Room k (A.deeper (cloEnv q sc s.heap.objs.size f c' cl))) :
    Ok (Z.clo N sc k) (cloCx X.prog X.w X.K X.mg X.base N q cl A outer s H E sc f c') (fun cls d _ H => E cls d H) where
  P := ok.P
  w := ok.w
  K := ok.K
  mg := ok.mg
  base := ok.base
  N := rfl
  sc := rfl
  fn := rfl
  nd := S.nd
  calm := rfl
  tk := takes_of rfl rfl rfl rfl
  po := passes_of rfl
  rm := hr
  cq := fun c q h => nomatch h
  av := trivial
  st := fun h => nomatch h
/-! ### step(a, b) in the def that got the lambda -/
def dStep (j i0 : Nat) (lam d1 d2 : De) : De := fun r G => match r[j]? with
  | some (some (.loc i)) => if i = i0 then (d1 r G).bind fun x G1 => (d2 r G1).bind fun y G2 => (match G2[i0]? with
      | some (.fn ds) => (match lam (some x :: some y :: ds.map some) G2 with
        | .ok d G3 => .ok d G3
        | _ => .stuck)
      | _ => .stuck) else .stuck
  | _ => .stuck
section
variable {M : Model} {A : Around} {E : Value → Shared → Prop} {s : Shared} {env : Env} {pos : Pos} {first : List Value} {Q : Value → Shared → Prop} {q : Addr}
end
theorem IsCell.un {fs : List Addr} {H H' : Hp} {h h' : Heap} {c : Addr} {v : Option Value} (u : Un fs [] H H' h h') (hn : H c = none) (hc : h.IsCell c v) : h'.IsCell c v := by
  obtain ⟨o, ho, hd⟩ := hc
  obtain ⟨sl, q⟩ := u.any ho hn (by simp)
  exact ⟨_, q, hd⟩
theorem CellsAt.un {fs : List Addr} {H H' : Hp} {h h' : Heap} {cl : List (Str × Addr)} {cs : List Str} {ws : List V} (u : Un fs [] H H' h h') (hc : CellsAt h H cl cs ws) : CellsAt h' H' cl cs ws := fun j y hj => by
  obtain ⟨c, w, v, h1, h2, h3, h4, h5⟩ := hc j y hj
  obtain ⟨o, ho, _⟩ := id h3
  exact ⟨c, w, v, h1, u.free c o ho h2 (by simp), IsCell.un u h2 h3, h4, h5⟩
/-! ### a lambda is made: its object is known from now on -/
abbrev cloO (q : Str) (params : Arguments) (body : Expr) (sc : Scope) (cl : List (Str × Addr)) (pm : Value) (c' : Addr) (ctv : Value) : Obj := PySem.W.kla_obj "<lambda>" q params body sc cl pm c' ctv
abbrev cloH (ob : Obj) : HO := .frz ob (.ext fun _ => True)
section
variable {X : Cx} {pins : List (Addr × Obj)} {σ : L2.St} {H : Hp} {s : Shared}
end
/-! ### f(a, b, lambda u, v: .., c, d) -/
def capsE (r : Ev) : List Nat → Option (List D)
  | [] => some []
  | i :: is => match r[i]?, capsE r is with
    | some (some d), some ds => some (d :: ds)
    | _, _ => none
noncomputable def dSpr (d1 d2 : De) (caps : List Nat) (t4 t5 : T) (n : Nat) (b : Nat → Dst) : De := fun r G => (d1 r G).bind fun x G1 => (d2 r G1).bind fun y G2 => match capsE r caps with
  | some cv => endPop G2 (b G2.length (startE n [x, y, .loc G2.length, .t t4, .t t5]) (G2 ++ [.fn cv]))
  | none => .stuck
def Ft.at (ft0 : Ft) (i0 : Nat) (f : Addr) (fo : Obj) (c' : Addr) (q' : Str) (ws : List V) : Ft := fun i a ob c q xs => if i = i0 then a = f ∧ ob = fo ∧ c = c' ∧ q = q' ∧ xs = ws else ft0 i a ob c q xs
abbrev Zb.wft (b : Zb) (ft : Ft) : Zb := { b with ft := ft }
def Zb.clv (b : Zb) (N : List Str) (sc : Scope) (k : Nat) (rv : List Addr) (av : Shared → Hp → List Env → List Addr → Prop) : Zc := { b with N := N, sc := sc, fn := fun _ => true, k := k, rv := rv, av := av }
def Zb.cl (b : Zb) (N : List Str) (sc : Scope) (k : Nat) (rv : List Addr) : Zc := { b with N := N, sc := sc, fn := fun _ => false, k := k, rv := rv }
/-- the call of the lambda in the def that got it at slot j -/
def StepJ (Z : Zc) (nm : Str) (j i0 : Nat) (lam : De) : Prop := ∀ {e1 e2 : Expr} {d1 d2 : De} {p pos : Pos}, PD Z e1 d1 → PD Z e2 d2 → (∀ env, starEach [e1, e2] env = (false, eval e1 env) :: starEach [e2] env) → (∀ env, starEach [e2] env = (false, eval e2 env) :: starEach [] env) → PD Z (.Call (.Name nm p) [e1, e2] [] pos) (dStep j i0 lam d1 d2)
section
variable {g : Gm} {m : Nat → Addr} {n b : Nat} {H : Hp} {σ : L2.St} {r : Ev}
end
/-! the call, once the function value is made -/
structure SprA (Z : Zc) (x nm : Str) (st : Stmt) (gsp : Addr) (Nsp ps : List Str) (k kl : Nat) (lam : De) (b : Nat → Dst) (N cs : List Str) (pa pb : Str) (sc : Scope) (params : Arguments) (body : Expr) : Prop where
  fn : ∃ fd, FnE Z.K x x st [] gsp fd
  hbind : ∀ (kV doc pm : Value) (an : Option Addr) (cdv ct : Value) (us : List Value), us.length = ps.length → bindArgs (PySem.W.fnOf x x (defArgs st) (defBody st) (defScope st) .none kV doc pm an cdv ct) ⟨us, []⟩ = pure (ps.zip us)
  S : FnScope Nsp ps (defScope st)
  hb : ∀ (ft : Ft) (rv : List Addr) (av : Shared → Hp → List Env → List Addr → Prop) (i0 : Nat), StepJ ((Z.toZb.wft ft).clv Nsp (defScope st) k rv av) nm 2 i0 lam → PSDs ((Z.toZb.wft ft).clv Nsp (defScope st) k rv av) (defBody st) (b i0)
  hlam : ∀ (ft : Ft) (rv : List Addr), PD ((Z.toZb.wft ft).cl N sc kl rv) body lam
  L : CloS N [pa, pb] cs sc
  hpl : ps.length = 5
  hN : Nsp[2]? = some nm
  hvn : Vis (defScope st) nm
  hnd : (nm == ("__debug__" : Str)) = false
  hncd : (nm == ("__classdict__" : Str)) = false
  hkl : kl + 1 ≤ k
  hm : Z.mg x = some (.ref gsp)
  hk : k + 1 ≤ Z.k
  hg : GlS Z x
  hdb : (x == ("__debug__" : Str)) = false
  hlb : ∀ (q : Str) (cl : List (Str × Addr)) (pm cv ctv u1 u2 : Value), bindArgs (PySem.W.kla_fn "<lambda>" q params body sc cl pm cv ctv) ⟨[u1, u2], []⟩ = pure [(pa, u1), (pb, u2)]
/-- a value that is had without a trace -/
def Still (X : Cx) (e : Expr) (v : V) : Prop := ∀ (pins : List (Addr × Obj)) (σ : L2.St) (H : Hp) (s : Shared) (Q E : Value → Shared → Prop), Inv X pins σ H s → (∀ (u : Value) (tk : Nat), RelV v u → Q u { s with toks := tk }) → wpAny (model X.prog X.w) X.A (eval e X.env) (fun u s' => Q u s') E s
section
variable {Z : Zc} {x nm q : Str} {st : Stmt} {gsp c P : Addr} {Nsp ps : List Str} {k kl j : Nat} {e1 e2 e4 e5 : Expr} {d1 d2 lam : De} {t4 t5 : T} {v4 v5 : V} {caps : List Nat} {N cs : List Str} {pa pb : Str} {sc : Scope} {params : Arguments} {body : Expr} {p lpos pos : Pos} {b : Nat → Dst}
end
/-! ### f(a, b, g(c, d), ..), g a def that gives a lambda over its two parameters -/
noncomputable def dSprR (d1 d2 d6 d7 : De) (t4 t5 : T) (n : Nat) (b : Nat → Dst) : De := fun r G => (d1 r G).bind fun x G1 => (d2 r G1).bind fun y G2 => (d6 r G2).bind fun u G3 => (d7 r G3).bind fun w G4 =>
  endPop G4 (b G4.length (startE n [x, y, .loc G4.length, .t t4, .t t5]) (G4 ++ [.fn [u, w]]))
structure RetA (Z : Zc) (x : Str) (st : Stmt) (gg c P : Addr) (Ng : List Str) (k : Nat) (qa qb : Str) (sc : Scope) (params : Arguments) (body : Expr) (lpos rpos : Pos) : Prop where
  fn : ∃ fd, FnE Z.K x x st [] gg fd ∧ fd.code = .ref c
  hbind : ∀ (kV doc pm : Value) (an : Option Addr) (cdv ct : Value) (us : List Value), us.length = [qa, qb].length → bindArgs (PySem.W.fnOf x x (defArgs st) (defBody st) (defScope st) .none kV doc pm an cdv ct) ⟨us, []⟩ = pure ([qa, qb].zip us)
  S : FnScope Ng [qa, qb] (defScope st)
  hbd : defBody st = [.Return (some (.Lambda params body sc lpos)) rpos]
  cells : (defScope st).names.lookup qa = some .cell ∧ (defScope st).names.lookup qb = some .cell
  TB : LamX.TabB Z.base Z.mg c P
  hT : (P, x ++ ".<locals>." ++ "<lambda>") ∈ Z.tb
  hu : ∀ p ∈ Z.tb, p.1 = P → p.2 = x ++ ".<locals>." ++ "<lambda>"
  hm : Z.mg x = some (.ref gg)
  hk : k + 1 ≤ Z.k
  hg : GlS Z x
  hdb : (x == ("__debug__" : Str)) = false
  hdf : ∀ env, defaultsOf params env = ([], [])
section
variable {Z : Zc} {x x2 nm : Str} {st stg : Stmt} {gsp gg c P : Addr} {Nsp Ng ps : List Str} {k kl kg j : Nat} {e1 e2 e4 e5 e6 e7 : Expr} {d1 d2 d6 d7 lam : De} {t4 t5 : T} {v4 v5 : V} {N : List Str} {pa pb qa qb : Str} {sc : Scope} {params : Arguments} {body : Expr} {p p6 p7 lpos rpos pos : Pos} {b : Nat → Dst}
end
end BL

set_option Elab.async false
set_option linter.all false
set_option maxRecDepth 100000
set_option maxHeartbeats 400000
namespace BL
open PySem PySem.Spec PyProof.Rows L2

/-! ### the lambda that a def gives -/
def retE (st : Stmt) : Expr := match defBody st with
  | [.Return (some e) _] => e
  | _ => .Name "" ⟨0, 0, 0, 0⟩
def retP (st : Stmt) : Pos := match defBody st with
  | [.Return (some _) p] => p
  | _ => ⟨0, 0, 0, 0⟩
def lamA : Expr → Arguments → Arguments
  | .Lambda a _ _ _, _ => a
  | _, a => a
def lamB : Expr → Expr
  | .Lambda _ b _ _ => b
  | e => e
def lamS : Expr → Scope
  | .Lambda _ _ s _ => s
  | _ => default
def lamP : Expr → Pos
  | .Lambda _ _ _ p => p
  | _ => ⟨0, 0, 0, 0⟩
section
variable {Z : Zc} {x : Str} {pos : Pos}
end
/-! ### read backwards -/
section
variable {G : Hs} {Q : D → Hs → Prop} {E : XP} {r : Ev}
/-- what a def's end asks -/
abbrev PopN (G : Hs) (Q : D → Hs → Prop) : NP := fun _ G' => Cl G G' ∧ Q (.t .non) (G'.take G.length)
abbrev PopR (G : Hs) (Q : D → Hs → Prop) : TP := fun x G' => Cl G G' ∧ ∃ e, popD G.length x G' = some e ∧ Q e (G'.take G.length)
abbrev PopX (G : Hs) (E : XP) : XP := fun c ns es G' => Cl G G' ∧ ∃ es', popDs G.length es G' = some es' ∧ E c ns es' (G'.take G.length)
end
end BL
namespace BL
open PySem L2
/-! ### captured names, looked up -/
def capB (N cs : List Str) (caps : List Nat) (sc : Scope) : Bool := decide (caps.length = cs.length) && (List.range cs.length).all fun j => match cs[j]?, caps[j]? with
  | some y, some i => decide (N[i]? = some y) && (decide (sc.names.lookup y = some .cell) || decide (sc.names.lookup y = some .free))
  | _, _ => false
end BL

set_option Elab.async false
set_option linter.all false
set_option maxRecDepth 100000
set_option maxHeartbeats 400000
namespace BL

/-! ### rows of places in their order: their numbers -/
def wN (w : Nat) (v : List Nat) : Nat := v.foldl (fun n d => n * w + d + 1) 0
theorem wN_nil {w : Nat} : wN w [] = 0 := rfl
theorem wN_snoc {w d : Nat} {v : List Nat} : wN w (v ++ [d]) = wN w v * w + d + 1 := by unfold wN; rw [List.foldl_append]; rfl
def Dg (w : Nat) (v : List Nat) : Prop := ∀ d ∈ v, d < w
theorem Dg.snoc {w d : Nat} {v : List Nat} (h : Dg w v) (hd : d < w) : Dg w (v ++ [d]) := fun x hx => by
  rcases List.mem_append.mp hx with hx | hx
  · exact h x hx
  · rw [List.mem_singleton] at hx; rw [hx]; exact hd
theorem Dg.init {w d : Nat} {v : List Nat} (h : Dg w (v ++ [d])) : Dg w v ∧ d < w := ⟨fun x hx => h x (List.mem_append_left _ hx), h d (List.mem_append_right _ (.head _))⟩
theorem wN_up {w a b : Nat} {r s : List Nat} (ha : a < w) (h : wN w r < wN w s) : wN w (r ++ [a]) < wN w (s ++ [b]) := by
  rw [wN_snoc, wN_snoc]
  have := Nat.mul_le_mul_right w (show wN w r + 1 ≤ wN w s from h)
  rw [Nat.add_mul] at this
  omega
/-! ### what rows lead to, in the order of the rows -/
section
variable {α : Type} [DecidableEq α]
def sadd (qs : List (α × List Nat)) (p : α × List Nat) : List (α × List Nat) := if p.1 ∈ qs.map Prod.fst then qs else qs ++ [p]
def kids (δ : α → Nat → α) (w : Nat) (p : α × List Nat) : List (α × List Nat) := (List.range w).map fun j => (δ p.1 j, p.2 ++ [j])
def Sx (δ : α → Nat → α) (w : Nat) (b : α) : Nat → List (α × List Nat)
  | 0 => [(b, [])]
  | k + 1 => match (Sx δ w b k)[k]? with
    | some p => (kids δ w p).foldl sadd (Sx δ w b k)
    | none => Sx δ w b k
variable {δ : α → Nat → α} {w : Nat} {b : α}
abbrev runS (δ : α → Nat → α) (b : α) (v : List Nat) : α := v.foldl δ b
/-- the list so far; all its rows lie below the number n -/
structure SOk (δ : α → Nat → α) (w : Nat) (b : α) (qs : List (α × List Nat)) : Prop where
  nd : (qs.map Prod.fst).Nodup
  run : ∀ p ∈ qs, p.1 = runS δ b p.2 ∧ Dg w p.2
  up : qs.Pairwise fun p q => wN w p.2 < wN w q.2
theorem SOk.add {qs : List (α × List Nat)} {p : α × List Nat} (h : SOk δ w b qs) (h1 : p.1 = runS δ b p.2) (h2 : Dg w p.2) (h3 : ∀ q ∈ qs, wN w q.2 < wN w p.2) : SOk δ w b (sadd qs p) := by
  refine ?G
  exact (by (intro h; exact h) : have h : (type_of% ?G) := (by
  unfold sadd
  split
  · exact h
  · rename_i hn
    refine ⟨?_, fun q hq => ?_, ?_⟩
    · rw [List.map_append, List.nodup_append]
      exact ⟨h.nd, by simp, fun a ha c hc => by simp at hc; subst hc; exact fun z => hn (z ▸ ha)⟩
    · rcases List.mem_append.mp hq with hq | hq
      · exact h.run q hq
      · rw [List.mem_singleton] at hq; subst hq; exact ⟨h1, h2⟩
    · rw [List.pairwise_append]
      refine ⟨h.up, by simp, fun a ha c hc => ?_⟩
      rw [List.mem_singleton] at hc
      subst hc
      exact h3 a ha
 ); type_of% ?G)
theorem sadd_pre (qs : List (α × List Nat)) (p : α × List Nat) : ∃ t, sadd qs p = qs ++ t := by
  unfold sadd
  split
  · exact ⟨[], by simp⟩
  · exact ⟨[p], rfl⟩
/-- while the children of the pair at place k are added: all rows lie below the next child's, and all earlier ones' children are there, with rows not behind -/
structure SIn (δ : α → Nat → α) (w : Nat) (b : α) (k j : Nat) (qs : List (α × List Nat)) : Prop where
  ok : SOk δ w b qs
  hd : qs[0]? = some (b, [])
  lim : ∀ (i : Nat) (q : α × List Nat), qs[i]? = some q → q.2 = [] ∨ ∃ (a : Nat) (r : α × List Nat) (c : Nat), qs[a]? = some r ∧ c < w ∧ q.2 = r.2 ++ [c] ∧ (a < k ∨ a = k ∧ c < j)
  kid : ∀ (a : Nat) (r : α × List Nat) (c : Nat), qs[a]? = some r → c < w → (a < k ∨ a = k ∧ c < j) → ∃ q ∈ qs, q.1 = δ r.1 c ∧ wN w q.2 ≤ wN w (r.2 ++ [c])
theorem SIn.init : SIn δ w b 0 0 [(b, [])] where
  ok := ⟨by simp, fun p hp => by rw [List.mem_singleton] at hp; subst hp; exact ⟨rfl, fun d hd => by cases hd⟩, by simp⟩
  hd := rfl
  lim := fun i q h => by
    cases i with
    | zero => simp at h; subst h; exact .inl rfl
    | succ i => simp at h
  kid := fun a r c _ _ h => by omega
theorem SIn.below {k j : Nat} {qs : List (α × List Nat)} {p : α × List Nat} (h : SIn δ w b k j qs) (hp : qs[k]? = some p) : ∀ q ∈ qs, wN w q.2 < wN w (p.2 ++ [j]) := by
  refine ?G
  exact (by (intro h; exact h) : have h : (type_of% ?G) := (fun q hq => by
  obtain ⟨i, hi⟩ := List.mem_iff_getElem?.mp hq
  rcases h.lim i q hi with e | ⟨a, r, c, ha, hc, e, hlt⟩
  · rw [e, wN_nil, wN_snoc]; omega
  · rw [e]
    rcases hlt with hlt | ⟨rfl, hlt⟩
    · refine wN_up hc ?_
      have ha2 := (List.getElem?_eq_some_iff.mp ha)
      have hp2 := (List.getElem?_eq_some_iff.mp hp)
      obtain ⟨a1, a2⟩ := ha2
      obtain ⟨p1, p2⟩ := hp2
      have := List.pairwise_iff_getElem.mp h.ok.up a k a1 p1 hlt
      rw [a2, p2] at this
      exact this
    · rw [hp] at ha
      cases ha
      rw [wN_snoc, wN_snoc]; omega
 ); type_of% ?G)
theorem SIn.step {k j : Nat} {qs : List (α × List Nat)} {p : α × List Nat} (h : SIn δ w b k j qs) (hp : qs[k]? = some p) (hj : j < w) : SIn δ w b k (j + 1) (sadd qs (δ p.1 j, p.2 ++ [j])) := by
  refine ?G
  exact (by (intro h; exact h) : have h : (type_of% ?G) := (by
  obtain ⟨hr, hdg⟩ := h.ok.run p (List.mem_of_getElem? hp)
  have hb := h.below hp
  obtain ⟨t, et⟩ := sadd_pre qs (δ p.1 j, p.2 ++ [j])
  have keep : ∀ {i : Nat} {q : α × List Nat}, qs[i]? = some q → (sadd qs (δ p.1 j, p.2 ++ [j]))[i]? = some q := fun {i q} hi => by
    rw [et, List.getElem?_append_left (List.getElem?_eq_some_iff.mp hi).1]; exact hi
  have hk := (List.getElem?_eq_some_iff.mp hp).1
  refine ⟨h.ok.add (by show δ p.1 j = runS δ b (p.2 ++ [j]); rw [hr, runS, runS, List.foldl_append]; rfl) (hdg.snoc hj) hb, keep h.hd, fun i q hq => ?_, fun a r c ha hc hlt => ?_⟩
  · by_cases hi : i < qs.length
    · rw [et, List.getElem?_append_left hi] at hq
      rcases h.lim i q hq with e | ⟨a, r, c, ha, hc, e, hlt⟩
      · exact .inl e
      · exact .inr ⟨a, r, c, keep ha, hc, e, by omega⟩
    · have hn : δ p.1 j ∉ qs.map Prod.fst := fun z => by
        unfold sadd at hq
        rw [if_pos z] at hq
        exact hi (List.getElem?_eq_some_iff.mp hq).1
      unfold sadd at hq
      rw [if_neg hn, List.getElem?_append_right (by omega)] at hq
      have hi0 : i - qs.length = 0 := by have := (List.getElem?_eq_some_iff.mp hq).1; simp at this; omega
      rw [hi0] at hq
      cases hq
      exact .inr ⟨k, p, j, keep hp, hj, rfl, .inr ⟨rfl, Nat.lt_succ_self _⟩⟩
  · have hak : a < qs.length := by omega
    have ha0 : qs[a]? = some r := by rw [et, List.getElem?_append_left hak] at ha; exact ha
    by_cases hnew : a = k ∧ c = j
    · obtain ⟨rfl, rfl⟩ := hnew
      rw [hp] at ha0
      cases ha0
      by_cases hm : δ p.1 c ∈ qs.map Prod.fst
      · obtain ⟨q, hq, e⟩ := List.mem_map.mp hm
        exact ⟨q, by rw [et]; exact List.mem_append_left _ hq, e, Nat.le_of_lt (hb q hq)⟩
      · refine ⟨(δ p.1 c, p.2 ++ [c]), ?_, rfl, Nat.le_refl _⟩
        unfold sadd
        rw [if_neg hm]
        exact List.mem_append_right _ (.head _)
    · obtain ⟨q, hq, e, hle⟩ := h.kid a r c ha0 hc (by omega)
      exact ⟨q, by rw [et]; exact List.mem_append_left _ hq, e, hle⟩
 ); type_of% ?G)
theorem SIn.next {k : Nat} {qs : List (α × List Nat)} (h : SIn δ w b k w qs) : SIn δ w b (k + 1) 0 qs where
  ok := h.ok
  hd := h.hd
  lim := fun i q hq => by
    rcases h.lim i q hq with e | ⟨a, r, c, ha, hc, e, hlt⟩
    · exact .inl e
    · exact .inr ⟨a, r, c, ha, hc, e, by omega⟩
  kid := fun a r c ha hc hlt => h.kid a r c ha hc (by omega)
/-- the children of p, the first j of them, added -/
def SxJ (δ : α → Nat → α) (w : Nat) (b : α) (k j : Nat) (p : α × List Nat) : List (α × List Nat) := ((kids δ w p).take j).foldl sadd (Sx δ w b k)
end
end BL
namespace BL
section
variable {α : Type} [DecidableEq α] {δ : α → Nat → α} {w : Nat} {b : α}
theorem SIn.len {k j : Nat} {qs : List (α × List Nat)} (h : SIn δ w b k j qs) : ∀ (i : Nat) (q : α × List Nat), qs[i]? = some q → q.2.length ≤ i := by
  refine ?G
  exact (by (intro h; exact h) : have h : (type_of% ?G) := (fun i => by
  induction i using Nat.strongRecOn with
  | ind i ih =>
    intro q hq
    rcases h.lim i q hq with e | ⟨a, r, c, ha, hc, e, _⟩
    · rw [e]; exact Nat.zero_le _
    · have hai : a < i := by
        rcases Nat.lt_or_ge a i with z | z
        · exact z
        · exfalso
          have hlt : wN w r.2 < wN w q.2 := by
            rw [e, wN_snoc]
            have h0 : 0 < w := by omega
            have := Nat.le_mul_of_pos_right (wN w r.2) h0
            omega
          obtain ⟨a1, a2⟩ := List.getElem?_eq_some_iff.mp ha
          obtain ⟨q1, q2⟩ := List.getElem?_eq_some_iff.mp hq
          rcases Nat.lt_or_ge i a with z2 | z2
          · have := List.pairwise_iff_getElem.mp h.ok.up i a q1 a1 z2
            rw [a2, q2] at this
            omega
          · have : i = a := by omega
            subst this
            rw [a2] at q2
            rw [q2] at hlt
            omega
      have := ih a hai r ha
      rw [e, List.length_append]
      simp only [List.length_singleton]
      omega
 ); type_of% ?G)
end
end BL

set_option Elab.async false
set_option linter.all false
set_option maxRecDepth 100000
set_option maxHeartbeats 400000
namespace BL

/-! ### all rows up to a length, in their order -/
def layA (w : Nat) : Nat → List (List Nat)
  | 0 => [[]]
  | n + 1 => ((layA w n).map fun v => (List.range w).map fun d => v ++ [d]).flatten
def allA (w : Nat) : Nat → List (List Nat)
  | 0 => layA w 0
  | n + 1 => allA w n ++ layA w (n + 1)
section
variable {α : Type} [DecidableEq α] {δ : α → Nat → α} {w : Nat} {b : α}
end
end BL

set_option Elab.async false
set_option linter.all false
set_option maxRecDepth 100000
set_option maxHeartbeats 400000
namespace BL

/-! ### states that some row tells apart are told apart by a short one -/
def chN {β : Type} [DecidableEq β] (S : List Int) (δ : Int → List Int) (tl : Int → β) : Nat → Int → Nat
  | 0 => cls S tl
  | k + 1 => cls S (sgn δ (chN S δ tl k))
abbrev runM (δ : Int → List Int) (s : Int) (v : List Nat) : Int := v.foldl (fun s d => (δ s).getD d 0) s
section
variable {β : Type} [DecidableEq β] {S : List Int} {δ : Int → List Int} {tl : Int → β} {w : Nat}
end
end BL

set_option Elab.async false
set_option linter.all false
set_option maxRecDepth 100000
set_option maxHeartbeats 1000000
namespace BL
open PySem L2

/-! ### a def that hands on new objects within new objects: as plain data -/
def frzL (f : D → Option T) : List D → Option (List T)
  | [] => some []
  | d :: ds => match f d, frzL f ds with
    | some t, some ts => some (t :: ts)
    | _, _ => none
/-- a value as plain data, all that it names looked up (nothing older than n) -/
def frzX (n : Nat) (G : Hs) : Nat → D → Option T
  | _, .t x => some x
  | 0, .loc _ => none
  | k + 1, .loc i => if i < n then none else match G[i]? with
    | some (.lst ds) => (frzL (frzX n G k) ds).map T.lst
    | some (.dk kvs) => (frzL (frzX n G k) (kvs.map (·.2))).map (T.dk (kvs.map (·.1)))
    | some (.ins c fs) => (frzL (frzX n G k) (fs.map (·.2))).map (T.obj c (fs.map (·.1)))
    | some (.nd kvs) => (frzL (frzX n G k) (kvs.map (·.2))).map (T.nd (kvs.map (·.1)))
    | some (.tpl ds) => (frzL (frzX n G k) ds).map T.tup
    | _ => none
def popX (n : Nat) (d : D) (G : Hs) : Option D := match d with
  | .t x => some (.t x)
  | .loc i => if i < n then some (.loc i) else (frzX n G 6 (.loc i)).map D.t
noncomputable def endDp (G0 : Hs) : Rs → Re := open Classical in fun s => match s with
  | .rt d G => if Cl G0 G then (match popX G0.length d G with
    | some e => .ok e (G.take G0.length)
    | none => .stuck) else .stuck
  | .nx r G => endPop G0 (.nx r G)
  | .exc c ns ds r G => endPop G0 (.exc c ns ds r G)
  | _ => .stuck
noncomputable def runDp (n : Nat) (b : Dst) : Fd := fun ds G => endDp G (b (startE n ds) G)
section
variable {g : Gm} {m : Nat → Addr} {H : Hp} {G : Hs}
end
section
variable {Z : Zc} {x qual : Str} {st : Stmt} {f : Addr} {fd : FuncData} {N ps : List Str} {k : Nat} {db : Dst} {dvs : List V}
end
section
variable {b : Zb} {x qual : Str} {st : Stmt} {f : Addr} {N ps : List Str} {k : Nat} {db : Dst} {dvs : List V}
end
/-! ### read backwards -/
section
variable {Q : D → Hs → Prop} {E : XP} {G : Hs}
theorem r_dp {n : Nat} {b : Dst} {ds : List D} (h : Ws (b (startE n ds) G) (fun _ G' => Cl G G' ∧ Q (.t .non) (G'.take G.length)) (fun x G' => Cl G G' ∧ ∃ e, popX G.length x G' = some e ∧ Q e (G'.take G.length)) (fun _ _ => False) (fun _ _ => False) (fun c ns es G' => Cl G G' ∧ ∃ es', popDs G.length es G' = some es' ∧ E c ns es' (G'.take G.length))) : Wp (runDp n b ds G) Q E := by
  refine ?G
  exact (by (intro h; exact h) : have h : (type_of% ?G) := (by
  with_unfolding_all
  unfold runDp
  cases e : b (startE n ds) G with
  | rt x G' =>
    rw [e, ws_rt] at h
    obtain ⟨hc, d, hd, hq⟩ := h
    simp only [endDp, hc, if_true, hd]
    exact e_ok hq
  | exc c ns es r G' =>
    have h2 : Wp (runPop n b ds G) Q E := r_pop (by
      rw [e] at h ⊢
      exact h)
    unfold runPop at h2
    rw [e] at h2
    exact h2
  | nx r G' =>
    have h2 : Wp (runPop n b ds G) Q E := r_pop (by
      rw [e] at h ⊢
      exact h)
    unfold runPop at h2
    rw [e] at h2
    exact h2
  | _ => rw [e] at h; exact h
 ); type_of% ?G)
theorem r_dp' {n : Nat} {b : Dst} {ds : List D} {r0 : Ev} (hr : startE n ds = r0) (h : Ws (b r0 G) (fun _ G' => Cl G G' ∧ Q (.t .non) (G'.take G.length)) (fun x G' => Cl G G' ∧ ∃ e, popX G.length x G' = some e ∧ Q e (G'.take G.length)) (fun _ _ => False) (fun _ _ => False) (fun c ns es G' => Cl G G' ∧ ∃ es', popDs G.length es G' = some es' ∧ E c ns es' (G'.take G.length))) : Wp (runDp n b ds G) Q E := r_dp (by rw [hr]; exact h)
end
end BL

set_option Elab.async false
set_option linter.all false
set_option maxRecDepth 100000
set_option maxHeartbeats 1000000
namespace BL
open PySem PySem.Spec PyProof.Rows L2

/-! ### tuple > tuple, of ints -/
def gtI (ns ms : List Int) : Bool := Ob.lexAt (fun j => decide (ns.getD j 0 = ms.getD j 0)) (fun j => decide (ms.getD j 0 < ns.getD j 0)) (decide (ns.length > ms.length)) 0 (min ns.length ms.length)
def rGtT (K : PySem.W.Frag) : R2 := fun x y H Q => ∃ (a b : Addr) (ns ms : List Int), x = .ref a ∧ y = .ref b ∧ SqT K H a (ns.map V.int) ∧ SqT K H b (ms.map V.int) ∧ Q (.bl (gtI ns ms)) H
def fGtT : D → D → Hs → Re
  | .t (.tup xs), .t (.tup ys), G => match intsT (xs.map D.t), intsT (ys.map D.t) with
    | some ns, some ms => .ok (.t (.bl (gtI ns ms))) G
    | _, _ => .stuck
  | _, _, _ => .stuck
section
variable {Z : Zc} {a b : Expr} {da db : De} {pos : Pos}
end
section
variable {Q : D → Hs → Prop} {E : XP} {G : Hs}
end
/-! ### what it tells of rows of places -/
end BL

set_option Elab.async false
set_option linter.all false
set_option maxRecDepth 100000
set_option maxHeartbeats 1000000
namespace BL
open PySem PySem.Spec PyProof.Rows L2

/-! ### dict == dict, of plain data under the same keys -/
abbrev Dit := Key × (V × PyData) × (V × PyData)
def rEqDk (K : PySem.W.Frag) : R2 := fun x y H Q => ∃ (a b : Addr) (ps : List Dit), x = .ref a ∧ y = .ref b ∧ H a = some (.dK (ps.map fun p => (p.1, p.2.1.1))) ∧ H b = some (.dK (ps.map fun p => (p.1, p.2.2.1))) ∧ (ps.map (·.1)).Nodup ∧
  (∀ p ∈ ps, Dp K H p.2.1.1 p.2.1.2 ∧ Dp K H p.2.2.1 p.2.2.2 ∧ p.2.1.2.canLay0 = true ∧ p.2.2.2.canLay0 = true ∧ min p.2.1.2.depth p.2.2.2.depth ≤ 60) ∧ Q (.bl (ps.all fun p => PyData.eqv p.2.1.2 p.2.2.2)) H
def eqAll : List T → List T → Bool
  | x :: xs, y :: ys => teq x y && eqAll xs ys
  | _, _ => true
def fEqDk : D → D → Hs → Re
  | .t (.dk ks xs), .t (.dk ls ys), G => if ks = ls ∧ ks.Nodup ∧ xs.length = ks.length ∧ ys.length = ks.length ∧ (xs.all fun t => cmpT t && decide (dep t ≤ 60)) = true ∧ (ys.all cmpT) = true then .ok (.t (.bl (eqAll xs ys))) G else .stuck
  | _, _, _ => .stuck
section
variable {Z : Zc} {a b : Expr} {da db : De} {pos : Pos}
end
end BL

set_option Elab.async false
set_option linter.all false
set_option maxRecDepth 100000
set_option maxHeartbeats 1000000
namespace BL
open PySem L2

/-! ### a list comprehension whose element may raise: the exception crosses the block -/
section
variable {M : Model} {A : Around} {E : Value → Shared → Prop} {s : Shared} {env : Env}
/-- what is due behind the block: the value, or the exception passed on by the def's own frame -/
def crossPost (M : Model) (A : Around) (E : Value → Shared → Prop) (env : Env) (Q : Value → Shared → Prop) (acc : Value) (C : Addr) (r : Result) (s' : Shared) : Prop :=
  ∃ m, s'.heap.Ns C m ∧ ∀ h', Heap.SameBut C s'.heap h' → match r with
    | .ok _ => Q acc { s' with heap := h' }
    | .error x => wpAny M A (passOn "comprehension.variables-let-go" x env : Sem Value) (fun _ _ => False) E { s' with heap := h' }
theorem noteFrame_env {x : Value} {e1 e2 : Env} (h : e1.frame = e2.frame) : noteFrame x e1 = noteFrame x e2 := by
  unfold noteFrame frameOf; rw [h]
end

section
variable {M : Model} {A : Around} {E : Value → Shared → Prop} {s : Shared} {Z : Obj → Prop} {base : Heap} {env : Env} {outer : List Env} {L C e : Addr}
/-- an exception that is held at C is noted by the frame L -/
theorem look_elsewhere {Q : Unit → Shared → Prop} (hZ : HandSPX.Steady Z) (hfr : A.frames = some (env :: outer)) (hf : env.frame = some L) (hCL : C ≠ L) (hh : HandSPX.HeldZ base (env :: outer) e Z C s.heap)
    (hQ : ∀ h', HandSPX.HeldZ base (env :: outer) e Z L h' → s.heap.UpToSlots h' → Q () { s with heap := h' }) : wpAny M A (noteFrame (.ref e) env) Q E s := by
  refine ?G
  exact (by (intro h; exact h) : have h : (type_of% ?G) := (by
  obtain ⟨st, ne, fl, oe, vs, T, oT, ts, ge, ze, de, h1, bT, Te, gT, dT, h3⟩ := hh
  have nT : ∀ b, b ≠ T → (s.heap.update T (Obj.mapFields (·.setIfInBounds 3 Value.none))).get? b = s.heap.get? b := fun b hb => Heap.get?_update_other _ _ (Ne.symm hb)
  have rT : ∀ b o, s.heap.get? b = some o → (∀ ws, o.data ≠ .fields ws) → b ≠ T := fun b o g n q => by
    subst q
    rw [gT] at g
    cases g
    exact n _ dT
  have raw : ¬ (rawInt C == rawInt L) = true := by
    simp only [rawInt, beq_iff_eq]
    intro q
    have q : (C : Int) = (L : Int) := by injection q
    exact hCL (Int.ofNat.inj q)
  unfold noteFrame
  simp only [hf]
  refine wpAny_bind (wpAny_field ge de h1 ?_)
  rw [if_pos (by simp : (Value.ref T != Value.none) = true)]
  refine wpAny_bind (wpAny_field gT dT h3 ?_)
  rw [if_neg raw]
  refine wpAny_bind (wpAny_setField gT dT (Array.getElem?_eq_some_iff.mp h3).1 ?_)
  refine HandSPX.wpAny_entryZ hZ hfr (fl.of_keeps fun b o g n => ⟨o, by rw [nT b (rT b o g n)]; exact g, rfl⟩) hf (by rw [nT e (Ne.symm Te)]; exact ge)
    (fun b o g => by rw [nT b (fun q => by rw [q, bT] at g; cases g)]; exact st b o g) ne de (Array.getElem?_eq_some_iff.mp h1).1 ze fun h' ⟨y1, y2, y3, y4⟩ => ?_
  exact hQ h' ⟨y1, ne, y2, y3⟩ fun b o g n => y4 b o (by rw [nT b (rT b o g n)]; exact g) n
 ); type_of% ?G)
/-- in the air, noted by the frame -/
theorem sky_note {B : Heap} {a : Addr} {Q : Unit → Shared → Prop} (hZ : HandSPX.Steady Z) (hfr : A.frames = some (env :: outer)) (hf : env.frame = some L) (hCL : C ≠ L) (x : Sky B (env :: outer) a Z C s.heap)
    (hQ : ∀ h', HandSPX.HeldZ B (env :: outer) a Z L h' → s.heap.UpToSlots h' → Q () { s with heap := h' }) : wpAny M A (noteFrame (.ref a) env) Q E s := by
  rcases x with ⟨hB, hn, hl, oe, vs, he, hz, hd, h1⟩ | fl | hh
  · exact HandSPX.look_newZ hZ hfr hl hf he hB hn hd h1 hz hQ
  · exact HandSPX.looks_onZ hZ hfr hf fl hQ
  · exact look_elsewhere hZ hfr hf hCL hh hQ
end

section
variable {X : Cx} {W : WX} {pins : List (Addr × Obj)} {σ : St} {H3 : Hp} {s3 : Shared} {scope : Scope} {cenv : Env} {fp : List Addr}
/-- an exception held by the def's frame, amid the block -/
def HeldB (X : Cx) (W : WX) (σ : St) (s3 : Shared) (H3 : Hp) (scope : Scope) (cenv : Env) (fp : List Addr) (u : Value) (s' : Shared) : Prop :=
  ∃ (a : Addr) (B : Heap) (sI : Shared) (pb : List (Addr × Obj)) (σb : St) (H : Hp) (cls : Value) (d : Option Addr),
    u = .ref a ∧ Inv (X.blk s3 H3 scope cenv fp) pb σb H sI ∧ (∀ b o, sI.heap.get? b = some o → b ∉ frs X.stack → B.get? b = some o) ∧ sI.heap.UpToSlots s'.heap ∧
      HandSPX.HeldZ B X.stack a (L2.Zc cls d) X.env.locals s'.heap ∧ H a = none ∧ s'.os = sI.os ∧ PyProof.Rows.AllBare s'.gens ∧ W cls d σ H
/-- the block's wish about exceptions -/
abbrev blkx (X : Cx) (W : WX) (σ : St) (s3 : Shared) (H3 : Hp) (scope : Scope) (cenv : Env) (fp : List Addr) : Cx :=
  (X.blk s3 H3 scope cenv fp).wish fun u s' => wpAny (model X.prog X.w) X.A (noteFrame u cenv) (fun _ s'' => HeldB X W σ s3 H3 scope cenv fp u s'') (fun _ _ => False) s'
theorem blkx_takes (hst : X.stack = X.env :: X.outer) (hf : X.env.frame = some X.env.locals) (hcf : cenv.frame = X.env.frame) (hC : cenv.locals ≠ X.env.locals) :
    Takes (blkx X W σ s3 H3 scope cenv fp) (fun c d _ H => W c d σ H) := by
  refine ?G
  exact (by (intro h; exact h) : have h : (type_of% ?G) := (by
  rintro u s' ⟨a, B, sI, pb, σb, H, cls, d, rfl, I, nb, up, sky, na, os, ag, w⟩
  have I0 : Inv (X.blk s3 H3 scope cenv fp) pb σb H sI := I.unwish
  have hfr : X.A.frames = some (X.env :: X.outer) := by rw [← hst]; exact I0.ok.frames
  have sky : Sky B X.stack a (L2.Zc cls d) cenv.locals s'.heap := sky
  show wpAny _ _ (noteFrame (.ref a) cenv) _ _ s'
  rw [noteFrame_env hcf]
  rw [hst] at sky
  refine sky_note L2.Zc.steady hfr hf hC sky fun h' hh up' => ?_
  exact ⟨a, B, sI, pb, σb, H, cls, d, rfl, I0, nb, up.trans up', by rw [hst]; exact hh, na, os, ag, w⟩
 ); type_of% ?G)
theorem blkx_passes (s3 : Shared) (H3 : Hp) : PassesOwn (model X.prog X.w) X.A cenv (blkx X W σ s3 H3 scope cenv fp).xe := PassesOwn.looking
end
section
variable {X : Cx} {W : WX}
end

/-! ### denotation and rule -/
inductive Rx where
  | ok (ds : List D) (G : Hs) | exc (c : Nat) (ns : List Str) (ds : List D) (G : Hs) | stuck
open Classical in
noncomputable def compLoopX (td : Tg) (tt elt : De) (kp : Kp) (r : Ev) : List Im → List D → Hs → Rx
  | [], acc, G => if kpOk kp G then .ok acc G else .stuck
  | im :: its, acc, G => if kpOk kp G then (match td im r with
    | some r1 => (match dT tt r1 G with
      | .ok (.t (.bl true)) G2 => (match elt r1 G2 with
        | .ok d G3 => compLoopX td tt elt kp r its (acc ++ [d]) G3
        | .exc c ns ds G3 => .exc c ns ds G3
        | .stuck => .stuck)
      | .ok (.t (.bl false)) G2 => compLoopX td tt elt kp r its acc G2
      | _ => .stuck)
    | none => .stuck) else .stuck
noncomputable def compRunX (own : List Nat) (di : Di) (td : Tg) (tt elt : De) (k : List D → Hs → Re) : De := fun r G => match di r G with
  | .ok its kp G1 => (match compLoopX td tt elt kp (wipeE r own) its [] G1 with
    | .ok ds G2 => k ds G2
    | .exc c ns ds G2 => .exc c ns ds G2
    | .stuck => .stuck)
  | .exc c ns ds G1 => .exc c ns ds G1
  | .stuck => .stuck
def CompPostX (g : Gm) (W : WX) (m : Nat → Addr) (n : Nat) (H : Hp) (σ : L2.St) (Q : VK) (k : List D → Hs → Re) : Rx → Prop
  | .ok ds G => PostE g W m n H σ Q (k ds G)
  | .exc c ns ds G => PostE g W m n H σ Q (.exc c ns ds G)
  | .stuck => False
theorem Ok.blkx {Z : Zc} {X : Cx} {W : WX} (ok : Ok Z X W) (hst : X.stack = X.env :: X.outer) (hf : X.env.frame = some X.env.locals) (σ : L2.St) (s : Shared) (H : Hp) (scope : Scope) (cl : List (Str × Addr)) (C : Addr) (fp : List Addr) (rv : List Addr) (hC : C ≠ X.env.locals) :
    Ok (Z.blk scope rv) (blkx X W σ s H scope (compEnvC scope cl C X.env) fp) (fun c d _ H => W c d σ H) where
  P := ok.P
  w := ok.w
  K := ok.K
  mg := ok.mg
  base := ok.base
  N := ok.N
  sc := by show relS scope X.env.scope = relS scope Z.sc; rw [ok.sc]
  fn := rfl
  nd := ok.nd
  calm := ok.calm
  tk := blkx_takes hst hf rfl hC
  po := blkx_passes s H
  rm := ok.rm
  cq := ok.cq
  av := trivial
  st := fun h => nomatch h
section
variable {Z : Zc} {elt tg iter : Expr} {ifs : List Expr} {scope : Scope} {own : List (Str × Nat)} {is : List Nat} {pos : Pos} {di : Di} {td : Tg} {dt de : De} {k : List D → Hs → Re}
end

/-! ### read backwards -/
section
variable {r : Ev} {G : Hs} {Q : D → Hs → Prop} {E : Nat → List Str → List D → Hs → Prop}
end
end BL

set_option Elab.async false
set_option linter.all false
set_option maxRecDepth 100000
set_option maxHeartbeats 4000000
namespace BL
open PySem PySem.Spec PyProof.Rows L2

/-! ### {k: v, ..}, the keys numbers or texts that are written -/
def dDispK (ks : List Key) (das : List De) : De := dArgs das fun ds G => .ok (.loc G.length) (G ++ [.dk (mergeA [] (ks.zip ds))])
def PPk (Z : Zc) (pos : Pos) (keys : List (Option Expr)) (vals : List Expr) (ks : List Key) (das : List De) : Prop := ∀ X W, Ok Z X W → PPs X pos keys vals ((ks.map fun k => tC (kV k)).zip (das.map (tX Z.g W))) ∧ ks.length = das.length
section
variable {Z : Zc} {pos kp : Pos} {j : Nat} {v : Expr} {keys : List (Option Expr)} {vals : List Expr} {ks : List Key} {d : De} {das : List De}
end
section
variable {Z : Zc} {pos : Pos} {keys : List (Option Expr)} {vals : List Expr} {ks : List Key} {das : List De}
end
/-! ### d.get(k, v), d a located dict with flat keys -/
def fGetDf : D → List D → Hs → Re := fun x ds G => match x, ds with
  | .loc i, [y, z] => (match keyOf y, G[i]? with
    | some k, some (.dk kvs) => .ok ((getA kvs k).getD z) G
    | _, _ => .stuck)
  | _, _ => .stuck
def rGetDf : V → List V → Hp → VK → Prop := fun x xs H Q => ∃ (a : Addr) (kvs : List (Key × V)) (k : Key) (z : V), x = .ref a ∧ xs = [kV k, z] ∧ H a = some (.dK kvs) ∧ Q ((valV kvs k).getD z) H
section
variable {Z : Zc} {o e e2 : Expr} {do_ de de2 : De} {apos cpos : Pos}
end
/-! ### f(k = v, ..), no positional value -/
section
variable {k : Nat} {f : Addr} {fd : FuncData} {ps ks : List Str} {g : List Value → List Value → List Value}
theorem FunD.kbindsN {K : PySem.W.Frag} {x qual : Str} {params : Arguments} {body : List Stmt} {scope : Scope} (F : FunD K x qual params body scope [] [] f fd) (n : Nat) (ks : List Str)
    (h : ∀ (kV doc pm : Value) (an : Option Addr) (cdv ct : Value) (us ws : List Value), us.length = n → ws.length = ks.length → bindArgs (PySem.W.fnOf x qual params body scope .none kV doc pm an cdv ct) ⟨us, ks.zip ws⟩ = pure (ps.zip (us ++ ws))) :
    KBn K fd ps n ks (fun us ws => us ++ ws) (fun vs zs => vs ++ zs ++ []) := by
  refine ?G
  exact (by (intro h; exact h) : have h : (type_of% ?G) := (by
  obtain ⟨oc, od, dV, kV, doc, pm, an, cdv, ct, osl, rfl, lk, hcd, hD, hK⟩ := F.ex
  rcases hD with ⟨_, rfl⟩ | ⟨e, _⟩
  · exact ⟨fun s us ws _ l1 l2 => .of_eq (h kV doc pm an cdv ct us ws l1 l2), fun r1 r2 => by rw [List.append_nil]; exact r1.append r2⟩
  · exact absurd rfl e
 ); type_of% ?G)
theorem ca_kwN {b : Zb} {x qual : Str} {st : Stmt} {F : Fd} (Fn : ∃ fd, FnE b.K x qual st [] f fd) (hF : ∀ fd, FnE b.K x qual st [] f fd → FnD b k f fd ps F) (n : Nat) (ks : List Str)
    (h : ∀ (kV doc pm : Value) (an : Option Addr) (cdv ct : Value) (us ws : List Value), us.length = n → ws.length = ks.length → bindArgs (PySem.W.fnOf x qual (defArgs st) (defBody st) (defScope st) .none kV doc pm an cdv ct) ⟨us, ks.zip ws⟩ = pure (ps.zip (us ++ ws))) : CaK b k n f ps ks F [] := by
  obtain ⟨fd, Fn⟩ := Fn
  exact ⟨fd, [], _, hF fd Fn, FunD.kbindsN Fn n ks h, dfl_nil⟩
end
section
variable {Z : Zc} {x : Str} {kws : List Keyword} {dks : List De} {F : Fd} {k : Nat} {f : Addr} {ps ks : List Str} {dts : List T} {p pos : Pos}
end
/-! ### read backwards -/
section
variable {Q : D → Hs → Prop} {E : XP} {G : Hs} {r : Ev} {y z : D}
end
end BL

set_option Elab.async false
set_option linter.all false
set_option maxRecDepth 100000
set_option maxHeartbeats 4000000
namespace BL
open PySem PySem.Spec PyProof.Rows L2

/-! ### a located dict with tuple keys is locked: from then on it is read alone -/
def dFzN (d : De) : De := fun r G => (d r G).bind fun x G1 => match x with
  | .loc j => (match G1[j]? with
    | some (.nd kvs) => .ok (.loc j) (G1.set j (.fnd kvs))
    | some (.fnd _) => .ok (.loc j) G1
    | _ => .stuck)
  | _ => .stuck
/-! ### its keys are walked over -/
def ItNf (w : World) (d : Addr) (ob : Obj) (es : Nd) (ep : Nat) : It where
  go := fun i H => H d = some (.frz ob (ndO w d es ep)) ∧ i < es.length
  yld := fun i H x H' => H' = H ∧ NdKey es i x
  stop := fun i H => H d = some (.frz ob (ndO w d es ep)) ∧ es.length ≤ i
section
variable {P : Program} {w : World} {K : PySem.W.Frag} {tg : Expr} {d : Addr} {ob : Obj} {es : Nd} {ep : Nat}
end
def iKeysNf (w : World) (td : TE) : TI := fun σ H R => td σ H fun x H1 => ∃ d ob es ep, x = .ref d ∧ H1 d = some (.frz ob (ndO w d es ep)) ∧ R (ItNf w d ob es ep) H1
def ndfOf (G : Hs) : D → Option (List T)
  | .loc j => match G[j]? with
    | some (.fnd kvs) => if kvs.length ≤ 16777216 then some (kvs.map (·.1)) else none
    | _ => none
  | _ => none
def iNdF (d : De) : Di := fun r G => (d r G).itr fun x G1 => match ndfOf G1 x with
  | some ks => .ok ((ks.map D.t).map Im.one) none G1
  | none => .stuck
section
variable {g : Gm} {m : Nat → Addr} {H : Hp} {G : Hs}
end
/-! ### read backwards -/
section
variable {Q : D → Hs → Prop} {E : XP} {G : Hs} {r : Ev}
end
end BL

set_option Elab.async false
set_option linter.all false
set_option maxRecDepth 100000
set_option maxHeartbeats 4000000
namespace BL
open PySem PySem.Spec PyProof.Rows L2

/-! ### == and != of lists that hold located lists -/
def fEqX (neg : Bool) (x y : D) (G : Hs) : Re := match frzX 0 G 6 x, frzX 0 G 6 y with
  | some a, some b => if eqOk a b = true then .ok (.t (.bl (if neg then !teq a b else teq a b))) G else .stuck
  | _, _ => .stuck
section
variable {Z : Zc} {a b : Expr} {da db : De} {pos : Pos}
end
/-! ### a <= b < c asked for its truth -/
section
variable {Z : Zc} {a b c : Expr} {da db dc : De} {pos : Pos}
end
/-! ### read backwards -/
section
variable {Q : D → Hs → Prop} {E : XP} {G : Hs} {x y : D}
end
end BL

set_option Elab.async false
set_option linter.all false
set_option maxRecDepth 100000
set_option maxHeartbeats 1000000
namespace BL
open PySem L2

/-! ### super().__init__(e, ..) of an own class whose base is an own class -/
abbrev supX (es : List Expr) (p0 p1 p2 p4 : Pos) : Expr := .Call (.Attribute (.Call (.Name "super" p0) [] [] p1) "__init__" p2) es [] p4
def SupEvX (pl : Env → Sem Bool) (es : List Expr) (p0 p1 p2 p4 : Pos) : Prop := ∀ env, eval (supX es p0 p1 p2 p4) env = (attributeBase (.Call (.Name "super" p0) [] [] p1) "__init__" env (eval (.Call (.Name "super" p0) [] [] p1) env) >>= fun ov => standAt p2.atName >>= fun _ => holding [ov] (getMethod ov "__init__" (pl env)) >>= fun q => callWith p4 q.1 q.2 (backTo p4 (starEach es env)) [])
/-- a bound method that stands in the heap -/
abbrev bdO (f x : Addr) : Obj := { cls := .type "method", dict := none, data := .fields #[.ref f, .ref x], slots := #[] }
def BdAt (u f x : Addr) (h : Heap) : Prop := h.get? u = some (bdO f x) ∧ PySem.W.FnAt f h
structure SupO (P : Program) (K : PySem.W.Frag) (f cda cc C g : Addr) : Prop where
  fn : ∃ oc od fd osl ar, K.lookup f = some ⟨oc, od, .func fd, osl⟩ ∧ (fd.params.posonlyargs ++ fd.params.args).head? = some ar ∧ ar.arg = ("self" : Str)
  code : ∃ ccl cdd vs ccs file tf, K.lookup cda = some ⟨ccl, cdd, .fields vs, ccs⟩ ∧ vs[2]? = some (.str file tf) ∧ ((P.main.file : Str) == file) = true
  cell : ∃ cl cld csl, K.lookup cc = some ⟨cl, cld, .cell (some (.ref C)), csl⟩
  cls : ∃ cd, PySem.W.clsIn K C = some cd ∧ PySem.W.alongIn K "__init__" ((cd.mro.dropWhile (· != .ref C)).drop 1) = some (some (.ref g))
  self : PySem.W.mroIn K C (.ref C) = some true
  op : PySem.W.nsIn K cStatics "thirdparty.any" = some none
  top : (P.main.scope.names.lookup ("super" : Str)).isSome = false
  base : ∃ oc od fd osl, K.lookup g = some ⟨oc, od, .func fd, osl⟩ ∧ oc = .type "function"
section
variable {CX : CXT} {P : Program} {w : World} {K : PySem.W.Frag} {mg : Str → Option Value} {base : Heap} {N ps : List Str} {qual : Str} {scope : Scope} {f cda cc C g : Addr} {A : Around} {outer : List Env} {s0 s : Shared} {H0 H : Hp} {E : XK} {σ : St}
end
/-! ### a def that ends with super().__init__(e, ..) -/
def Zb.dfnK (b : Zb) (N : List Str) (sc : Scope) (k : Nat) (rv : List Addr) : Zc := { b with N := N, sc := sc, fn := fun _ => false, k := k, rv := rv }
theorem Ok.dfnK {b : Zb} {N : List Str} {qual : Str} {scope : Scope} {f cda cc : Addr} {k : Nat} {A : Around} {outer : List Env} {s : Shared} {H : Hp} {E : XK} (nd : N.Nodup) (hr : Room k (A.deeper (PySem.W.ksEnv qual scope s.heap.objs.size f (.ref cda) cc))) (rv : List Addr) :
    Ok (b.dfnK N scope k rv) (cxK (L2.CX b.P b.w) b.P b.w b.K b.mg b.base N qual scope f cda cc A outer s H E) (fun cls d _ H => E cls d H) where
  P := rfl
  w := rfl
  K := rfl
  mg := rfl
  base := rfl
  N := rfl
  sc := rfl
  fn := rfl
  nd := nd
  calm := rfl
  tk := takes_of rfl rfl rfl rfl
  po := passes_of rfl
  rm := hr
  cq := fun c q h => nomatch h
  av := trivial
  st := fun h => nomatch h
/-- its body, where the def itself is the code that runs -/
def PSA (b : Zb) (N : List Str) (qual : Str) (scope : Scope) (f cda cc : Addr) (k : Nat) (rv : List Addr) (st : List Stmt) (d : Dst) : Prop := ∀ (A : Around) (outer : List Env) (s0 : Shared) (H0 : Hp) (E : XK) (body : List Stmt), Room k (A.deeper (PySem.W.ksEnv qual scope s0.heap.objs.size f (.ref cda) cc)) →
  ∀ (s : Shared) (σ : St) (H : Hp) (D : Ends), Inv (cxK (L2.CX b.P b.w) b.P b.w b.K b.mg b.base N qual scope f cda cc A outer s0 H0 E) [] σ H s → tS (b.dfnK N scope k rv).g (fun cls d _ H => E cls d H) d D σ H →
    _root_.PySem.wpAt (model b.P b.w) (cxK (L2.CX b.P b.w) b.P b.w b.K b.mg b.base N qual scope f cda cc A outer s0 H0 E).A (.func body (cxK (L2.CX b.P b.w) b.P b.w b.K b.mg b.base N qual scope f cda cc A outer s0 H0 E).env)
      (execs st (cxK (L2.CX b.P b.w) b.P b.w b.K b.mg b.base N qual scope f cda cc A outer s0 H0 E).env) (SP (cxK (L2.CX b.P b.w) b.P b.w b.K b.mg b.base N qual scope f cda cc A outer s0 H0 E) [] D) (cxK (L2.CX b.P b.w) b.P b.w b.K b.mg b.base N qual scope f cda cc A outer s0 H0 E).xe s
section
variable {b : Zb} {N ps : List Str} {qual : Str} {scope : Scope} {f cda cc g : Addr} {k : Nat} {rv : List Addr} {st : Stmt} {rest : List Stmt} {d1 d2 : Dst}
/-- super().__init__(e, ..) -/
def dSup (c : Nat) (das : List De) (F : Fd) (dts : List T) : Dst := fun (r : Ev) (G : Hs) => match r[0]? with
  | some (some (D.loc i)) => (match G[i]? with
    | some (O.ins c' fs) => if c' = c then Re.thn r (dArgs das (fun ds G1 => F (.loc i :: (ds ++ dts.map D.t)) G1) r G) (fun _ G2 => Rs.nx r G2) else Rs.stuck
    | _ => Rs.stuck)
  | _ => Rs.stuck
end
/-! ### such a def as the top shows it -/
structure SupD (P : Program) (K : PySem.W.Frag) (f C g : Addr) (d : He.DefD) : Prop where
  ex : ∃ (oc : Value) (od : Option Addr) (osl : Array (Option Value)) (kV doc pm ct : Value) (an : Option Addr) (cda cc : Addr), K.lookup f = some ⟨oc, od, .func (PySem.W.ksFn d.name d.qual d.params d.body d.scope .none kV doc pm an (.ref cda) ct cc), osl⟩ ∧ PySem.W.codeIn K (.ref cda) d.qual = true ∧
    PySem.W.keepIn K (.ref f) = true ∧ ((d.params.posonlyargs ++ d.params.args).head?.map (·.arg) = some ("self" : Str) → SupO P K f cda cc C g)
section
variable {b : Zb} {N ps : List Str} {f C g : Addr} {d : He.DefD} {k : Nat} {db : Dst}
end
/-- its scope, by decision -/
def scB' (N ps : List Str) (sc : Scope) : Bool := scB ps sc && (decide N.Nodup && decide (N.take ps.length = ps))
/-! ### what the top shows of it -/
abbrev Sd := He.DefD × Str × (Str × Option Str)
def supW (K : PySem.W.Frag) (p : Str × Option Str) : He.FnW := match K.lookup (He.fAd K p) with
  | some ⟨_, _, .func u, _⟩ => some (u.name, u.qualname, u.params, u.body, u.scope, u.globals, [], u.builtins)
  | _ => none
def isFunO (K : PySem.W.Frag) (a : Addr) : Bool := match K.lookup a with
  | some ⟨.type t, _, .func _, _⟩ => decide (t = "function")
  | _ => false
def supB (file : Str) (K : PySem.W.Frag) (q : Sd) : Bool := PySem.W.keepIn K (.ref (He.fAd K q.1.at_)) && ((match K.lookup (He.fAd K q.1.at_) with
  | some ⟨_, _, .func u, _⟩ => (match u.closure, u.code with
    | [(cn, cc)], .ref cda => (cn == ("__class__" : Str)) && (fileB K file cda && (PySem.W.codeIn K (.ref cda) q.1.qual && (isNon u.defaults && (match K.lookup cc with
        | some ⟨_, _, .cell (some (.ref C')), _⟩ => decide (C' = He.ga K q.2.1)
        | _ => false))))
    | _, _ => false)
  | _ => false) && (decide (PySem.W.mroIn K (He.ga K q.2.1) (.ref (He.ga K q.2.1)) = some true) && (decide (PySem.W.nsIn K cStatics "thirdparty.any" = some none) && (decide (supIn K (He.ga K q.2.1) = some (some (.ref (He.fAd K q.2.2)))) && isFunO K (He.fAd K q.2.2)))))
/-! ### the Hook -/
section
variable {as : List Addr} {fa : List He.Fa} {fn : List He.DefD} {tf : List He.Defn} {gs : List Getr} {ss : List Sd} {ex : PySem.W.Frag → Bool}
abbrev AlS : Type := AlP × List He.FnW
def obsS (as : List Addr) (fa : List He.Fa) (fn : List He.DefD) (tf : List He.Defn) (gs : List Getr) (ss : List Sd) (ex : PySem.W.Frag → Bool) (g : Addr → Option Obj) : AlS :=
  (obsL as fa fn tf gs ex g, ss.map fun q => supW (He.frT g as) q.1.at_)
def hookS (as : List Addr) (fa : List He.Fa) (fn : List He.DefD) (tf : List He.Defn) (gs : List Getr) (ss : List Sd) (ex : PySem.W.Frag → Bool) : PySem.W.Hook where
  α := AlS
  obs := fun s => obsS as fa fn tf gs ss ex s.heap.get?
  val := fun w => ((He.valX fn [] w, gs.map fun q : Getr => He.DefD.val q.2), ss.map fun q : Sd => He.DefD.val q.1)
  says := fun w h => ∃ K : PySem.W.Frag, K.In h ∧ He.SaysX fa fn [] tf ex w h K ∧ ((gs.map fun q : Getr => getW K q.1) = gs.map fun q : Getr => He.DefD.val q.2) ∧ (ss.map fun q : Sd => supW K q.1.at_) = ss.map fun q : Sd => He.DefD.val q.1
  of := fun _ _ e => ⟨_, He.frT_in, says_at (congrArg (fun z : AlS => z.1.1.1) e) (congrArg (fun z : AlS => z.1.1.2) e), congrArg (fun z : AlS => z.1.2) e, congrArg (fun z : AlS => z.2) e⟩
  keeps := fun _ _ _ ⟨K, hK, c, d, d2⟩ k => ⟨K, PySem.W.Frag.In.keeps hK k, ⟨c.t, c.more, c.hd, c.out, fun p hp => k _ _ (c.empty p hp)⟩, d, d2⟩
end
end BL

set_option Elab.async false
set_option linter.all false
set_option maxRecDepth 100000
set_option maxHeartbeats 1000000
namespace BL
open PySem PySem.Spec PyProof.Rows L2
open PpSet (hB boolK boolK_is)

/-! ### o.m(..), o of one of several classes that share the def -/
def dMethS (cs : List Nat) (m : Str) (o : De) (das : List De) (F : Fd) (dts : List T) : De := fun r G => (o r G).bind fun x G1 => if (cs.any fun c => isObj' c G1 x) = true ∧ noFld m G1 x = true then dArgs das (fun ds G2 => F (x :: (ds ++ dts.map D.t)) G2) r G1 else .stuck
section
variable {Z : Zc} {o e : Expr} {es : List Expr} {do_ : De} {das : List De} {F : Fd} {k : Nat} {cs : List Nat} {f : Addr} {ps : List Str} {m : Str} {dts : List T} {pos apos : Pos} {pl : Env → Sem Bool}
end
section
variable {Q : D → Hs → Prop} {E : XP} {x y z : D} {G : Hs} {r : Ev}
end
/-! ### super().__init__(e, ..), the callee all in one -/
/-! ### str(e) of an int or a text -/
def fStrA : List D → Hs → Re := fun ds G => match ds with
  | [.t (.int i)] => (match txtI i with
    | some y => .ok (.t (.str y)) G
    | none => .stuck)
  | [.t (.str y)] => .ok (.t (.str y)) G
  | _ => .stuck
section
variable {Z : Zc} {e : Expr} {d : De} {p pos : Pos}
end
section
variable {Q : D → Hs → Prop} {E : XP} {G : Hs}
end
/-! ### range(a, b, -1) -/
def dnIms (lo : Int) (n : Nat) : List Im := (List.range n).map fun i : Nat => Im.one (.t (.int (lo - (i : Int))))
def iR3 (a b c : De) : Di := fun r G => (a r G).itr fun x G1 => (b r G1).itr fun y G2 => (c r G2).itr fun z G3 => match x, y, z with
  | .t (.int i), .t (.int j), .t (.int k) => if k = -1 ∧ -(2 ^ 62) ≤ i ∧ i < 2 ^ 62 ∧ -(2 ^ 62) ≤ j ∧ j < 2 ^ 62 ∧ i - j ≤ 16777216 then .ok (dnIms i (i - j).toNat) none G3 else .stuck
  | _, _, _ => .stuck
section
variable {Z : Zc} {tg a b c : Expr} {da db dc : De} {p pos : Pos}
end
section
variable {E : XP} {G : Hs} {r : Ev}
end
/-! ### T[e], T a dict of the module: {True: y, False: n} -/
def trB (K : PySem.W.Frag) (a : Addr) (y n : Str) : Bool := match K.lookup a with
  | some ⟨.type c, none, .dict es _, sl⟩ => decide (c = "dict") && (sl.isEmpty && (match es.toList with
    | [⟨h1, .bool b1, .str z1 _⟩, ⟨h0, .bool b0, .str z0 _⟩] => b1 && (!b0 && (decide (h1 = hB true) && (decide (h0 = hB false) && (decide (z1 = y) && decide (z0 = n)))))
    | _ => false))
  | _ => false
def fTruth (y n : Str) : D → Hs → Re
  | .t (.bl b), G => .ok (.t (.str (if b then y else n))) G
  | _, _ => .stuck
section
variable {Z : Zc} {x y n : Str} {e : Expr} {d : De} {a : Addr} {p pos : Pos}
end
/-! ### a method that stands in a class above -/
def methB (K : PySem.W.Frag) (C : Addr) (m : Str) (f : Addr) : Bool := He.eqO (PySem.W.findIn K (.ref C) m) (some (some (.ref f))) && (PySem.W.isFn K (.ref f) && PySem.W.keepIn K (.ref f))
end BL

set_option Elab.async false
set_option linter.all false
set_option maxRecDepth 100000
set_option maxHeartbeats 1000000
namespace BL
open PySem PySem.Spec PyProof.Rows L2 HT

/-! ### t[::-1], t a tuple -/
section
variable {prog : Program} {w : World} {A : Around} {E : Value → Shared → Prop} {s : Shared}
end
def tRevT (K : PySem.W.Frag) (te : TE) : TE := fun σ H Q => te σ H fun x H1 => ∃ a xs, x = .ref a ∧ SqT K H1 a xs ∧ ∀ p, H1 p = none → Q (.ref p) (upd H1 p (.tup xs.reverse))
def fRevT : D → Hs → Re := fun x G => match x with
  | .t (.tup ts) => .ok (.t (.tup ts.reverse)) G
  | _ => .stuck
section
variable {Z : Zc} {e : Expr} {d : De} {k : Nat} {p1 p2 p3 pos : Pos}
end
end BL

set_option Elab.async false
set_option linter.all false
set_option maxRecDepth 100000
set_option maxHeartbeats 1000000
namespace PySem.W
open Lean Elab Tactic Meta PySem PySem.Calls PyProof.Rows
/-! ### a op b, a and b of two own classes, neither below the other, the def of the first -/
section
variable {prog : Program} {w : World} {A : Around} {E : Value → Shared → Prop} {s : Shared} {K : Frag} {x C C2 L f f2 : Addr} {h₀ : Heap} {m : Str → Option Value} {ox : Obj} {od : Option Obj}
end
end PySem.W
namespace BL
open PySem PySem.Spec PyProof.Rows L2
structure BopF (K : PySem.W.Frag) (op : Operator) (cs : List Addr) (f : Addr) : Prop where
  hf : PySem.W.isFn K (.ref f) = true
  at_ : ∀ C ∈ cs, PySem.W.findIn K (.ref C) (PySem.dunder op.info.2) = some (some (.ref f)) ∧ PySem.W.findIn K (.ref C) (PySem.dunderR op.info.2) = some none ∧ PySem.W.selfFirst K C = true
  sub : ∀ C ∈ cs, ∀ D ∈ cs, C ≠ D → PySem.W.subIn K (.ref D) (.ref C) = some false
def bopB (K : PySem.W.Frag) (op : Operator) (cs : List Addr) (f : Addr) : Bool := PySem.W.isFn K (.ref f) && (cs.all (fun C => He.eqO (PySem.W.findIn K (.ref C) (PySem.dunder op.info.2)) (some (some (.ref f))) && (He.eqO (PySem.W.findIn K (.ref C) (PySem.dunderR op.info.2)) (some none) && PySem.W.selfFirst K C)) &&
  cs.all fun C => cs.all fun D => decide (C = D) || decide (PySem.W.subIn K (.ref D) (.ref C) = some false))
def fOpS (cs : List Nat) (F : Fd) : D → D → Hs → Re := fun x y G => if (cs.any fun c => isObj' c G x) = true ∧ (cs.any fun c => isObj' c G y) = true then F [x, y] G else .stuck
section
variable {Z : Zc} {op : Operator} {a b : Expr} {da db : De} {F : Fd} {k : Nat} {cs : List Nat} {f : Addr} {ps : List Str} {pos : Pos}
end
/-! ### ~a of one of several own classes -/
structure InvF (K : PySem.W.Frag) (cs : List Addr) (f : Addr) : Prop where
  hf : PySem.W.isFn K (.ref f) = true
  at_ : ∀ C ∈ cs, PySem.W.findIn K (.ref C) "__invert__" = some (some (.ref f))
def invB (K : PySem.W.Frag) (cs : List Addr) (f : Addr) : Bool := PySem.W.isFn K (.ref f) && cs.all fun C => He.eqO (PySem.W.findIn K (.ref C) "__invert__") (some (some (.ref f)))
def fInvS (cs : List Nat) (F : Fd) : D → Hs → Re := fun x G => if (cs.any fun c => isObj' c G x) = true then F [x] G else .stuck
section
variable {Z : Zc} {a : Expr} {da : De} {F : Fd} {k : Nat} {cs : List Nat} {f : Addr} {ps : List Str} {pos : Pos}
end
end BL

set_option Elab.async false
set_option linter.all false
set_option maxRecDepth 100000
set_option maxHeartbeats 1000000
namespace BL
open PySem PySem.Spec PyProof.Rows L2

/-! ### isinstance(x, C), the classes cs at or below C -/
def isOwnS (cs os : List Nat) : Kd → Option Bool
  | .obj c' => if cs.contains c' = true then some true else if os.contains c' = true then some false else none
  | _ => some false
def kitS (K : PySem.W.Frag) (C : Addr) (cs os : List Addr) : Bool := (["NoneType", "bool", "int", "str", "tuple", "list", "dict"].all fun n => decide (PySem.W.kitOne K (.type n) (.ref C) = some false)) && ((cs.all fun c => decide (PySem.W.kitOne K (.ref c) (.ref C) = some true)) && os.all fun c => decide (PySem.W.kitOne K (.ref c) (.ref C) = some false))
/-! ### == and != of several own classes that share their def -/
def fPick (cs : List Nat) (g : Nat → D → D → Hs → Re) : D → D → Hs → Re := fun x y G => match cs.find? fun c => isObj' c G x with
  | some c => g c x y G
  | none => .stuck
def fEqS (all cs : List Nat) (neg : Bool) (F : Fd) : D → D → Hs → Re := fPick cs fun c => fEqO c (all.filter fun k => k != c) neg F
section
variable {Z : Zc} {a b : Expr} {da db : De} {F : Fd} {k c0 : Nat} {all cs : List Nat} {f : Addr} {ps : List Str} {pos : Pos}
end
end BL

set_option Elab.async false
set_option linter.all false
set_option maxRecDepth 100000
set_option maxHeartbeats 1000000
namespace BL
open PySem PySem.Spec PyProof.Rows L2

/-! ### a def with the cell __class__ and parameters that inner code captures -/
theorem cellsFrom_app : ∀ (names : List (Str × NameKind)) (n : Nat) (acc : List (Str × Addr)), cellsFrom n names acc = cellsFrom n names [] ++ acc
  | [], _, _ => rfl
  | (x, k) :: r, n, acc => by
    unfold cellsFrom
    split
    · rw [cellsFrom_app r (n + 1) ((x, n) :: acc), cellsFrom_app r (n + 1) [(x, n)], List.append_assoc]
      rfl
    · exact cellsFrom_app r n acc
theorem cellsFrom_kind : ∀ {names : List (Str × NameKind)} {n : Nat} {y : Str} {c : Addr}, (y, c) ∈ cellsFrom n names [] → (y, NameKind.cell) ∈ names
  | [], _, _, _, h => nomatch h
  | (x, k) :: r, n, y, c, h => by
    unfold cellsFrom at h
    split at h
    · rename_i hk
      have hk : k = .cell := by simpa using hk
      rw [cellsFrom_app, List.mem_append] at h
      rcases h with h | h
      · exact List.mem_cons_of_mem _ (cellsFrom_kind h)
      · cases List.mem_singleton.mp h
        rw [hk]; exact .head _
    · exact List.mem_cons_of_mem _ (cellsFrom_kind h)
/-! #### the frame: that of a def without the cell, with the closure put behind -/
def plusK (clo : List (Str × Addr)) (env : Env) : Env := { env with cells := env.cells ++ clo }
abbrev envQ (qual : Str) (scope : Scope) (L f : Addr) (cd : Value) (cc : Addr) : Env := PySem.W.envX qual scope L f cd (cellsFrom (L + 1) scope.names [] ++ [(("__class__" : Str), cc)])
def cxQ (CX : CXT) (P : Program) (w : World) (K : PySem.W.Frag) (mg : Str → Option Value) (base : Heap) (N : List Str) (qual : Str) (scope : Scope) (f cda cc : Addr) (A : Around) (outer : List Env) (s : Shared) (H : Hp) (E : XK) : Cx :=
  let env := envQ qual scope s.heap.objs.size f (.ref cda) cc
  { prog := P, w := w, K := K, mg := mg, base := base, A := A.deeper env, N := N, s_0 := s, H_0 := H, env := env, outer := outer, stack := env :: outer, ex := [], calm := true, fn := fun y => !(y == ("__class__" : Str)), pn := [],
    xe := fun e s' => wpAny (model P w) (A.deeper env) (leaving env e) (fun _ s'' => CX outer H s E e s'') (fun e' s'' => CX outer H s E e' s'') s' }
structure FnScQ (N ps : List Str) (sc : Scope) : Prop where
  kind : sc.kind = .function
  co : sc.isCoroutine = false
  gen : sc.isGenerator = false
  nd : N.Nodup
  pre : N.take ps.length = ps
  par : ∀ x ∈ ps, sc.names.lookup x = some .local ∨ sc.names.lookup x = some .cell
  free : ∀ y ∈ sc.names, y.2 = .free → y.1 = ("__class__" : Str)
  nocc : ∀ y ∈ sc.names, y.2 = .cell → y.1 ≠ ("__class__" : Str)
  hs : sc.names.lookup ("super" : Str) = some .globalImplicit
  hc : sc.names.lookup ("__class__" : Str) = some .free
theorem FnScQ.lk {N ps : List Str} {sc : Scope} (S : FnScQ N ps sc) {n : Nat} {cc : Addr} {y : Str} {c : Addr} (h : (cellsFrom n sc.names [] ++ [(("__class__" : Str), cc)]).lookup y = some c) :
    (y ≠ ("__class__" : Str) ∧ (cellsFrom n sc.names []).lookup y = some c) ∨ (y = ("__class__" : Str) ∧ c = cc) := by
  refine ?G
  exact (by (intro h; exact h) : have h : (type_of% ?G) := (by
  rw [List.lookup_append] at h
  cases e : (cellsFrom n sc.names []).lookup y with
  | some c' =>
    rw [e] at h
    cases h
    exact .inl ⟨S.nocc _ (cellsFrom_kind (PySem.mem_of_lookup e)) rfl, rfl⟩
  | none =>
    rw [e] at h
    by_cases q : y = ("__class__" : Str)
    · subst q
      simp [List.lookup] at h
      exact .inr ⟨rfl, h.symm⟩
    · have e' : (y == ("__class__" : Str)) = false := by simpa using q
      simp [List.lookup, e'] at h
 ); type_of% ?G)
theorem FnScQ.cls {N ps : List Str} {sc : Scope} (S : FnScQ N ps sc) {n : Nat} {cc : Addr} : (cellsFrom n sc.names [] ++ [(("__class__" : Str), cc)]).lookup ("__class__" : Str) = some cc := by
  rw [List.lookup_append]
  cases e : (cellsFrom n sc.names []).lookup ("__class__" : Str) with
  | some c' => exact absurd rfl (S.nocc _ (cellsFrom_kind (PySem.mem_of_lookup e)) rfl)
  | none => simp [List.lookup]
section
variable {CX : CXT} {P : Program} {w : World} {K : PySem.W.Frag} {mg : Str → Option Value} {base : Heap} {N ps : List Str} {qual : Str} {scope : Scope} {f cda cc : Addr} {A : Around} {outer : List Env} {s s1 : Shared} {H : Hp} {E : XK} {us : List Value} {vs : List V}
end
end BL
namespace BL
open PySem L2
section
variable {CX : CXT} {P : Program} {w : World} {K : PySem.W.Frag} {mg : Str → Option Value} {base : Heap} {N ps : List Str} {qual : Str} {scope : Scope} {f cda cc C g : Addr} {A : Around} {outer : List Env} {s0 s : Shared} {H0 H : Hp} {E : XK} {σ : St}
end
/-! ### a def that ends with super().__init__(e, ..) -/
def Zb.dfnQ (b : Zb) (N : List Str) (sc : Scope) (k : Nat) (rv : List Addr) : Zc := { b with N := N, sc := sc, fn := fun y => !(y == ("__class__" : Str)), k := k, rv := rv }
theorem Ok.dfnQ {b : Zb} {N : List Str} {qual : Str} {scope : Scope} {f cda cc : Addr} {k : Nat} {A : Around} {outer : List Env} {s : Shared} {H : Hp} {E : XK} (nd : N.Nodup) (hr : Room k (A.deeper (envQ qual scope s.heap.objs.size f (.ref cda) cc))) (rv : List Addr) :
    Ok (b.dfnQ N scope k rv) (cxQ (L2.CX b.P b.w) b.P b.w b.K b.mg b.base N qual scope f cda cc A outer s H E) (fun cls d _ H => E cls d H) where
  P := rfl
  w := rfl
  K := rfl
  mg := rfl
  base := rfl
  N := rfl
  sc := rfl
  fn := rfl
  nd := nd
  calm := rfl
  tk := takes_of rfl rfl rfl rfl
  po := passes_of rfl
  rm := hr
  cq := fun c q h => nomatch h
  av := trivial
  st := fun h => nomatch h
/-- its body, where the def itself is the code that runs -/
def PSB (b : Zb) (N : List Str) (qual : Str) (scope : Scope) (f cda cc : Addr) (k : Nat) (rv : List Addr) (st : List Stmt) (d : Dst) : Prop := ∀ (A : Around) (outer : List Env) (s0 : Shared) (H0 : Hp) (E : XK) (body : List Stmt), Room k (A.deeper (envQ qual scope s0.heap.objs.size f (.ref cda) cc)) →
  ∀ (s : Shared) (σ : St) (H : Hp) (D : Ends), Inv (cxQ (L2.CX b.P b.w) b.P b.w b.K b.mg b.base N qual scope f cda cc A outer s0 H0 E) [] σ H s → tS (b.dfnQ N scope k rv).g (fun cls d _ H => E cls d H) d D σ H →
    _root_.PySem.wpAt (model b.P b.w) (cxQ (L2.CX b.P b.w) b.P b.w b.K b.mg b.base N qual scope f cda cc A outer s0 H0 E).A (.func body (cxQ (L2.CX b.P b.w) b.P b.w b.K b.mg b.base N qual scope f cda cc A outer s0 H0 E).env)
      (execs st (cxQ (L2.CX b.P b.w) b.P b.w b.K b.mg b.base N qual scope f cda cc A outer s0 H0 E).env) (SP (cxQ (L2.CX b.P b.w) b.P b.w b.K b.mg b.base N qual scope f cda cc A outer s0 H0 E) [] D) (cxQ (L2.CX b.P b.w) b.P b.w b.K b.mg b.base N qual scope f cda cc A outer s0 H0 E).xe s
section
variable {b : Zb} {N ps : List Str} {qual : Str} {scope : Scope} {f cda cc g : Addr} {k : Nat} {rv : List Addr} {st : Stmt} {rest : List Stmt} {d1 d2 : Dst}
end
section
variable {b : Zb} {N ps : List Str} {f C g : Addr} {d : He.DefD} {k : Nat} {db : Dst}
end
/-- its scope, by decision -/
def scQ (N ps : List Str) (sc : Scope) : Bool := (decide (sc.kind = .function) && (!sc.isCoroutine && (!sc.isGenerator && (ps.all (fun y => decide (sc.names.lookup y = some .local) || decide (sc.names.lookup y = some .cell)) && (sc.names.all (fun y => !decide (y.2 = .free) || y.1 == ("__class__" : Str)) &&
  (sc.names.all (fun y => !decide (y.2 = .cell) || !(y.1 == ("__class__" : Str))) && (decide (sc.names.lookup ("super" : Str) = some .globalImplicit) && decide (sc.names.lookup ("__class__" : Str) = some .free)))))))) && (decide N.Nodup && decide (N.take ps.length = ps))
end BL

set_option Elab.async false
set_option linter.all false
set_option maxRecDepth 100000
set_option maxHeartbeats 1000000
namespace BL
open PySem PySem.Spec PyProof.Rows L2

/-! ### sorted(texts) -/
def leS (a b : Str) : Bool := !ltCps b.cps.toList a.cps.toList
def insT (x : Str) : List Str → List Str
  | [] => [x]
  | y :: ys => if leS x y = true then x :: y :: ys else y :: insT x ys
def sortT : List Str → List Str
  | [] => []
  | x :: xs => insT x (sortT xs)
abbrev Up (l : List Str) : Prop := l.Pairwise (fun a b => leS a b = true)
def fSortT : List D → Hs → Re := fun ds G => match ds with
  | [d] => (match asL G d with
    | some es => (match strsT es with
      | some ws => if ws.length < 64 then .ok (.t (.lst ((sortT ws).map T.str))) G else .stuck
      | none => .stuck)
    | none => .stuck)
  | _ => .stuck
section
variable {Z : Zc} {e : Expr} {d : De} {p pos : Pos}
end
/-! ### list(d), the keys of a located dict -/
def kT : Key → T
  | .inl i => .int i
  | .inr x => .str x
def fLstK : List D → Hs → Re := fun ds G => match ds with
  | [.loc i] => (match G[i]? with
    | some (.dk kvs) => if (kvs.all fun p => match p.1 with | .inr x => PyData.strOk x | .inl _ => true) = true then .ok (.t (.lst (kvs.map fun p => kT p.1))) G else .stuck
    | _ => .stuck)
  | _ => .stuck
section
variable {Z : Zc} {e : Expr} {d : De} {p pos : Pos}
end
/-! ### a truth or an int, and an int -/
def fAddB : D → D → Hs → Re
  | .t (.int i), .t (.int j), G => .ok (.t (.int (i + j))) G
  | .t (.bl b), .t (.int j), G => .ok (.t (.int ((if b = true then (1 : Int) else 0) + j))) G
  | _, _, _ => .stuck
section
variable {Z : Zc} {a b : Expr} {da db : De} {pos : Pos}
end
section
variable {Q : D → Hs → Prop} {E : XP} {G : Hs}
end
end BL

set_option Elab.async false
set_option linter.all false
set_option maxRecDepth 100000
set_option maxHeartbeats 400000
namespace BL
open PySem PySem.Spec PyProof.Rows L2

/-! ### repr and str of tuples and lists -/
/-- .. as the layer's functions -/
def fReprB : List D → Hs → Re := fun ds G => match ds with
  | [.t t] => if isBox t = true then (match pyT t with
    | some d => if okPy d = true then .ok (.t (.str d.shown)) G else .stuck
    | none => .stuck) else .stuck
  | _ => .stuck
/-- is the only argument a container -/
def boxed : List D → Bool
  | [.t t] => isBox t
  | _ => false
/-- str(x) -/
def fStrD : List D → Hs → Re := fun ds G => if boxed ds = true then fReprB ds G else fStrA ds G
theorem CallR.or {X : Cx} {f : Value} {r r' : List V → Hp → VK → Prop} (h : CallR X f r) (h' : CallR X f r') : CallR X f fun xs H Q => r xs H Q ∨ r' xs H Q := fun pins s σ H xs us Q I v z => z.elim (h pins s σ H xs us Q I v) (h' pins s σ H xs us Q I v)
theorem CaA.or {g : Gm} {r r' : List V → Hp → VK → Prop} {f f' : List D → Hs → Re} (h : CaA g r f) (h' : CaA g r' f') (b : List D → Bool) : CaA g (fun xs H Q => r xs H Q ∨ r' xs H Q) fun ds G => if b ds = true then f ds G else f' ds G := by
  refine ?G
  exact (by (intro h; exact h) : have h : (type_of% ?G) := (fun W m H G σ Q ds vs s rs p => by
  change PostE g W m G.length H σ Q (if b ds = true then f ds G else f' ds G) at p
  cases hb : b ds with
  | true => rw [hb, if_pos rfl] at p; exact .inl (h W m H G σ Q ds vs s rs p)
  | false => rw [hb, if_neg (by decide)] at p; exact .inr (h' W m H G σ Q ds vs s rs p)
 ); type_of% ?G)
section
variable {Z : Zc} {e : Expr} {d : De} {p pos : Pos}
end
section
variable {Q : D → Hs → Prop} {E : XP} {G : Hs}
end
end BL

set_option Elab.async false
set_option linter.all false
set_option maxRecDepth 100000
set_option maxHeartbeats 400000
namespace BL
open PySem L2

/-! ### <, <=, >, >= of objects of one class by its own __lt__ and __le__ -/
/-- one of the four comparisons, by the name of the own method that answers it -/
structure OrdF (K : PySem.W.Frag) (C f : Addr) (nm : Str) : Prop where
  hs : PySem.W.findIn K (.ref C) nm = some (some (.ref f))
  hf : PySem.W.isFn K (.ref f) = true
section
variable {prog : Program} {w : World} {A : Around} {E : Value → Shared → Prop} {s : Shared} {K : PySem.W.Frag} {x y C f : Addr} {ox oy : Obj} {od od' : Option Obj} {Q : Value → Shared → Prop}
/-- the two methods of object that decline -/
inductive Declines : CmpOp → String → Prop
  | gt : Declines .Gt "object.__gt__"
  | ge : Declines .GtE "object.__ge__"
theorem entry_gt : entryFor table "object.__gt__" = some Builtin.«object.__gt__» := entryFor_of_tree (by kernel_rfl)
theorem entry_ge : entryFor table "object.__ge__" = some Builtin.«object.__ge__» := entryFor_of_tree (by kernel_rfl)
theorem argsok_gt (a b : Value) : argsOk "object.__gt__" ⟨[a, b], []⟩ := by unfold argsOk; kernel_rfl
theorem argsok_ge (a b : Value) : argsOk "object.__ge__" ⟨[a, b], []⟩ := by unfold argsOk; kernel_rfl
theorem call_declines {op : CmpOp} {id : String} (h : Declines op id) (X : K.In s.heap) (I : PySem.W.InstAt s.heap x ox C od) (hm : PySem.W.mroIn K C (.type "object") = some true) {b : Value} (q : Q .notImplemented s) :
    wpAny (model prog w) A (call (.builtin id) [.ref x, b]) Q E s := by
  refine ?G
  exact (by (intro h; exact h) : have h : (type_of% ?G) := (by
  have below : PySem.W.Looks (model prog w) s.heap (isInstance (.ref x) (.type "object")) true := I.type.andThen (PySem.W.looks_mroIn X hm)
  cases h with
  | gt => exact wpAny_call (codeAny_call_builtin F.slot_zip_gt.plain entry_gt (PySem.W.check_slot (n := "__gt__") (by decide +kernel) (by decide +kernel) below (argsok_gt _ _) (wpAny_bind (m := slotArgs "__gt__" 1 _) (wpAny_pure (wpAny_pure q)))))
  | ge => exact wpAny_call (codeAny_call_builtin F.slot_zip_ge.plain entry_ge (PySem.W.check_slot (n := "__ge__") (by decide +kernel) (by decide +kernel) below (argsok_ge _ _) (wpAny_bind (m := slotArgs "__ge__" 1 _) (wpAny_pure (wpAny_pure q)))))
 ); type_of% ?G)
theorem try_declines {op : CmpOp} {id : String} (h : Declines op id) (X : K.In s.heap) (I : PySem.W.InstAt s.heap x ox C od) (hm : PySem.W.mroIn K C (.type "object") = some true) (hs : PySem.W.findIn K (.ref C) (cmpInfo op).2.1 = some (some (.builtin id))) {b : Value} {R : Option Value → Shared → Prop} (q : R none s) :
    wpAny (model prog w) A (tryCompare (.ref x) (cmpInfo op).2.1 b) R E s := by
  refine ?G
  exact (by (intro h; exact h) : have h : (type_of% ?G) := (by
  have hb : ∀ v, bindSpecial (.builtin id) v = pure (.builtin id, [v]) := by
    cases h with
    | gt => exact F.slot_zip_gt.bind
    | ge => exact F.slot_zip_ge.bind
  unfold tryCompare
  refine wpAny_bind (special_bi X I hs hb ?_)
  exact call_declines h X I hm (wpAny_pure q)
 ); type_of% ?G)
/-- x > y, x >= y: y's class answers -/
theorem cmp_back {op : CmpOp} {id : String} (h : Declines op id) (hu : A.units < cLine) (X : K.In s.heap) (I : PySem.W.InstAt s.heap x ox C od) (J : PySem.W.InstAt s.heap y oy C od') (hm : PySem.W.mroIn K C (.type "object") = some true)
    (hd : PySem.W.findIn K (.ref C) (cmpInfo op).2.1 = some (some (.builtin id))) (hs : OrdF K C f (cmpInfo op).2.2) (q : wpAny (model prog w) A (call (.ref f) [.ref y, .ref x]) (PySem.W.CmpBack Q) E s) : wpAny (model prog w) A (compareOp op (.ref x) (.ref y)) Q E s := by
  refine ?G
  exact (by (intro h; exact h) : have h : (type_of% ?G) := (by
  have e : compareOp op (.ref x) (.ref y) = richCompare op (.ref x) (.ref y) := by cases h <;> rfl
  rw [e]
  have back : wpAny (model prog w) A (tryCompare (.ref y) (cmpInfo op).2.2 (.ref x)) (fun r s' => ∃ v, r = some v ∧ Q v s') E s := by
    unfold tryCompare
    refine wpAny_bind (PySem.W.ifBound_K X J hs.hs hs.hf (wpAny_mono q (fun v s' hv => ?_) fun _ _ z => z))
    cases v <;> first | exact hv.elim | exact wpAny_pure ⟨_, rfl, hv⟩
  unfold richCompare
  simp only [PySem.oneThing_ref]
  refine wpAny_holding (wpAny_bind (wpAny_cRoomFor hu (wpAny_bind (I.type.here (wpAny_bind (J.type.here ?_))))))
  simp only [bne_self_eq_false, Bool.false_eq_true, if_false]
  refine wpAny_bind (wpAny_pure ?_)
  simp only [Bool.false_eq_true, if_false, Bool.not_false, if_true]
  refine wpAny_bind (try_declines h X I hm hd ?_)
  refine wpAny_bind (wpAny_mono back (fun r s' z => ?_) fun _ _ z => z)
  obtain ⟨v, rfl, hv⟩ := z
  exact wpAny_pure hv
 ); type_of% ?G)
end
/-- x > y of two objects of the class at C -/
def rGtO (C : Addr) (sp : Sp) : R2 := fun x y H Q => ∃ a dx fs a' dx' fs', x = .ref a ∧ H a = some (.ins C dx fs) ∧ y = .ref a' ∧ H a' = some (.ins C dx' fs') ∧ sp [y, x] H (fun v H' => ∃ b, v = .bl b ∧ Q (.bl b) H') E0
section
variable {X : Cx} {k : Nat} {f C : Addr} {fd : FuncData} {ps : List Str} {sp : Sp}
theorem op_ordO {op : CmpOp} (hop : op = .Lt ∨ op = .LtE) (F : FnOk X.prog X.w X.K X.mg X.base (L2.CX X.prog X.w) k f fd ps sp) (hr : Room k X.A) (hb : Binds X.K fd ps []) (hs : OrdF X.K C f (cmpInfo op).2.1) : OpR X (compareOp op) (rEqO X.K C false sp) := by
  refine ?G
  exact (by (intro h; exact h) : have h : (type_of% ?G) := (by
  intro pins s σ H x y v u Q I rx ry h
  obtain ⟨a, dx, fs, t, rfl, ha, ty, hn, h⟩ := h
  cases (show v = Value.ref a from rx)
  obtain ⟨mA, J, _⟩ := ins_get I.hok ha
  obtain ⟨od, J, _⟩ := J.look
  obtain ⟨P, KX, hP, _⟩ := kit_of I ry ty
  obtain ⟨m, hF⟩ := I.fr
  have e : compareOp op (.ref a) u = richCompare op (.ref a) u := by rcases hop with rfl | rfl <;> rfl
  rw [e]
  refine PySem.W.cmp_K (op := op) (tb := t) hr.units0 hF I.ok.mod.kin J (KX.ty _ _ I.kIn hP) hn hs.hs hs.hf (run_eq F hr rfl hb I ry h fun v' v H' s' I' rv q => ?_)
  obtain ⟨b, rfl, q⟩ := q
  cases (show v' = Value.bool b from rv)
  exact ⟨.bl b, H', I', rfl, q⟩
 ); type_of% ?G)
theorem op_gtO {op : CmpOp} {id : String} (hd : Declines op id) (F : FnOk X.prog X.w X.K X.mg X.base (L2.CX X.prog X.w) k f fd ps sp) (hr : Room k X.A) (hb : Binds X.K fd ps []) (hs : OrdF X.K C f (cmpInfo op).2.2) (hm : PySem.W.mroIn X.K C (.type "object") = some true)
    (hg : PySem.W.findIn X.K (.ref C) (cmpInfo op).2.1 = some (some (.builtin id))) : OpR X (compareOp op) (rGtO C sp) := by
  refine ?G
  exact (by (intro h; exact h) : have h : (type_of% ?G) := (by
  intro pins s σ H x y v u Q I rx ry h
  obtain ⟨a, dx, fs, a', dx', fs', rfl, ha, rfl, ha', h⟩ := h
  cases (show v = Value.ref a from rx)
  cases (show u = Value.ref a' from ry)
  obtain ⟨_, L, _⟩ := ins_get I.hok ha
  obtain ⟨_, L, _⟩ := L.look
  obtain ⟨_, M, _⟩ := ins_get I.hok ha'
  obtain ⟨_, M, _⟩ := M.look
  refine cmp_back hd hr.units0 I.kIn L M hm hg hs (run_eq F hr rfl hb I (y := .ref a) rfl h fun v' v H' s' I' rv q => ?_)
  obtain ⟨b, rfl, q⟩ := q
  cases (show v' = Value.bool b from rv)
  exact ⟨.bl b, H', I', rfl, q⟩
 ); type_of% ?G)
end
def fGtO (c : Nat) (F : Fd) : D → D → Hs → Re := fun x y G => if (isObj' c G x && isObj' c G y) = true then flipB false (F [y, x] G) else .stuck
theorem obj_at {g : Gm} {m : Nat → Addr} {H : Hp} {G : Hs} {c : Nat} {x : D} {v : V} (s : SR g m H G) (rx : RpD g m G.length G.length H x v) (hx : isObj' c G x = true) : ∃ a dx fs, v = .ref a ∧ H a = some (.ins (g.ca c) dx fs) := by
  refine ?G
  exact (by (intro h; exact h) : have h : (type_of% ?G) := (by
  cases x with
  | t t =>
    cases t with
    | obj c' ns ts =>
      obtain rfl : c' = c := of_decide_eq_true hx
      obtain ⟨a, dx, xs, e, h, _⟩ := rx
      exact ⟨a, dx, _, e, h⟩
    | _ => cases hx
  | loc i =>
    have e := rx.2
    have hx : (match G[i]? with
      | some (.ins c' _) => decide (c' = c)
      | _ => false) = true := hx
    split at hx
    · next c' fs q =>
      obtain rfl : c' = c := of_decide_eq_true hx
      obtain ⟨dx, xs, h, _⟩ := s.ob i _ q
      exact ⟨_, dx, _, e, h⟩
    · cases hx
 ); type_of% ?G)
section
variable {Z : Zc} {a b : Expr} {da db : De} {c k : Nat} {oth : List Nat} {f : Addr} {fd : FuncData} {ps : List Str} {F : Fd} {pos : Pos}
theorem a_gtO (hn : 2 = ps.length) : OpA Z.g (rGtO (Z.ca c) (spD Z.g ps.length F)) (fGtO c F) := by
  refine ?G
  exact (by (intro h; exact h) : have h : (type_of% ?G) := (by
  intro W m H G σ Q x y v u s rx ry p
  unfold fGtO at p
  split at p
  · next hxy =>
    obtain ⟨hx, hy⟩ := Bool.and_eq_true_iff.mp hxy
    obtain ⟨a, dx, fs, rfl, h1⟩ := obj_at s rx hx
    obtain ⟨a', dx', fs', rfl, h2⟩ := obj_at s ry hy
    refine ⟨a, dx, fs, a', dx', fs', rfl, h1, rfl, h2, hn, Z.g.rv, m, G, [y, x], s, ⟨_, _, rfl, ry, _, _, rfl, rx, rfl⟩, ?_⟩
    match e : F [y, x] G with
    | .stuck => rw [e] at p; exact p.elim
    | .exc _ _ _ _ => rw [e] at p; exact p.elim
    | .ok d G' =>
      rw [e] at p
      intro v' m' H' x' s' rv'
      match d, p, rv' with
      | .t (.bl b), p, rv' => exact ⟨b, rv', p _ m' H' x' s' rfl⟩
  · exact p.elim
 ); type_of% ?G)
end
/-- a class with an own method nm that answers < or <= (and the comparisons turned round) -/
structure OrdA (b : Zb) (k c : Nat) (f : Addr) (ps : List Str) (F : Fd) (nm : Str) : Prop where
  ca : Ca b k f ps F []
  own : OrdF b.K (b.ca c) f nm
  ins : InsF b.K (b.ca c)
  two : 2 = ps.length
theorem OrdA.ex {b : Zb} {k c : Nat} {f : Addr} {ps : List Str} {F : Fd} {nm : Str} (h : OrdA b k c f ps F nm) : ∃ fd, FnD b k f fd ps F ∧ Binds b.K fd ps [] := by
  obtain ⟨fd, dvs, dus, h1, h2, h3, h4⟩ := h.ca.ex
  cases dvs with
  | nil => cases h3; exact ⟨fd, h1, h2⟩
  | cons v vs => exact nomatch h4 (fun _ => False) (fun _ => none)
/-- what the class leaves to object -/
structure DecF (K : PySem.W.Frag) (C : Addr) (op : CmpOp) (id : String) : Prop where
  obj : PySem.W.mroIn K C (.type "object") = some true
  dec : PySem.W.findIn K (.ref C) (cmpInfo op).2.1 = some (some (.builtin id))
def ordB (K : PySem.W.Frag) (C f : Addr) (nm : Str) : Bool := He.eqO (PySem.W.findIn K (.ref C) nm) (some (some (.ref f))) && PySem.W.isFn K (.ref f)
theorem ordB_ok {K : PySem.W.Frag} {C f : Addr} {nm : Str} (h : ordB K C f nm = true) : OrdF K C f nm := by
  obtain ⟨h1, h2⟩ := He.ba h
  exact ⟨He.eqO_ok h1, h2⟩
def decB (K : PySem.W.Frag) (C : Addr) (op : CmpOp) (id : String) : Bool := decide (PySem.W.mroIn K C (.type "object") = some true) && He.eqO (PySem.W.findIn K (.ref C) (cmpInfo op).2.1) (some (some (.builtin id)))
theorem decB_ok {K : PySem.W.Frag} {C : Addr} {op : CmpOp} {id : String} (h : decB K C op id = true) : DecF K C op id := by
  obtain ⟨h1, h2⟩ := He.ba h
  exact ⟨of_decide_eq_true h1, He.eqO_ok h2⟩
section
variable {Z : Zc} {a b : Expr} {da db : De} {c k : Nat} {f : Addr} {ps : List Str} {F : Fd} {pos : Pos} {op : CmpOp} {id : String}
theorem opOrd (hop : op = .Lt ∨ op = .LtE) (h : OrdA Z.toZb k c f ps F (cmpInfo op).2.1) (hk : k + 1 ≤ Z.k) {X : Cx} {W : WX} (ok : Ok Z X W) : OpR X (compareOp op) (rEqO Z.K (Z.ca c) false (spD Z.g ps.length F)) := by
  refine ?G
  exact (by (intro h; exact h) : have h : (type_of% ?G) := (by
  obtain ⟨fd, h1, h2⟩ := h.ex
  have hF : FnOk X.prog X.w X.K X.mg X.base (L2.CX X.prog X.w) k f fd ps (spD Z.g ps.length F) := by rw [ok.P, ok.w, ok.K, ok.mg, ok.base]; exact h1.ok
  have := op_ordO (C := Z.ca c) hop hF (ok.rm.mono (by omega)) (by rw [ok.K]; exact h2) (by rw [ok.K]; exact h.own)
  rw [ok.K] at this; exact this
 ); type_of% ?G)
theorem opBack (hd : Declines op id) (h : OrdA Z.toZb k c f ps F (cmpInfo op).2.2) (hq : DecF Z.K (Z.ca c) op id) (hk : k + 1 ≤ Z.k) {X : Cx} {W : WX} (ok : Ok Z X W) : OpR X (compareOp op) (rGtO (Z.ca c) (spD Z.g ps.length F)) := by
  refine ?G
  exact (by (intro h; exact h) : have h : (type_of% ?G) := (by
  obtain ⟨fd, h1, h2⟩ := h.ex
  have hF : FnOk X.prog X.w X.K X.mg X.base (L2.CX X.prog X.w) k f fd ps (spD Z.g ps.length F) := by rw [ok.P, ok.w, ok.K, ok.mg, ok.base]; exact h1.ok
  exact op_gtO (C := Z.ca c) hd hF (ok.rm.mono (by omega)) (by rw [ok.K]; exact h2) (by rw [ok.K]; exact h.own) (by rw [ok.K]; exact hq.obj) (by rw [ok.K]; exact hq.dec)
 ); type_of% ?G)
theorem aOrd (h : OrdA Z.toZb k c f ps F (cmpInfo op).2.1) : OpA Z.g (rEqO Z.K (Z.ca c) false (spD Z.g ps.length F)) (fEqO c [] false F) := a_eqO (oth := []) (fun c' z => z.elim (fun e => e ▸ h.ins) fun z => nomatch z) (fun c' z => nomatch z) h.two
theorem pd_ordC (hop : op = .Lt ∨ op = .LtE) (h : OrdA Z.toZb k c f ps F (cmpInfo op).2.1) (hk : k + 1 ≤ Z.k) (ha : PD Z a da) (hb : PD Z b db) (hm : behindInMarks op b = false) : PD Z (.Compare a [op] [b] pos) (dBin (fEqO c [] false F) da db) :=
  pd_cmp (fun _ => _) (fun X W ok => opOrd hop h hk ok) (fun _ _ _ => aOrd h) ha hb hm
theorem pd_ltC (h : OrdA Z.toZb k c f ps F "__lt__") (hk : k + 1 ≤ Z.k) (ha : PD Z a da) (hb : PD Z b db) : PD Z (.Compare a [.Lt] [b] pos) (dBin (fEqO c [] false F) da db) := pd_ordC (.inl rfl) h hk ha hb (nomark _)
theorem pd_leC (h : OrdA Z.toZb k c f ps F "__le__") (hk : k + 1 ≤ Z.k) (ha : PD Z a da) (hb : PD Z b db) : PD Z (.Compare a [.LtE] [b] pos) (dBin (fEqO c [] false F) da db) := pd_ordC (.inr rfl) h hk ha hb (nomark _)
theorem pd_gtC (h : OrdA Z.toZb k c f ps F "__lt__") (hq : DecF Z.K (Z.ca c) .Gt "object.__gt__") (hk : k + 1 ≤ Z.k) (ha : PD Z a da) (hb : PD Z b db) : PD Z (.Compare a [.Gt] [b] pos) (dBin (fGtO c F) da db) :=
  pd_cmp (fun _ => _) (fun X W ok => opBack .gt h hq hk ok) (fun _ _ _ => a_gtO h.two) ha hb (nomark _)
theorem pd_geC (h : OrdA Z.toZb k c f ps F "__le__") (hq : DecF Z.K (Z.ca c) .GtE "object.__ge__") (hk : k + 1 ≤ Z.k) (ha : PD Z a da) (hb : PD Z b db) : PD Z (.Compare a [.GtE] [b] pos) (dBin (fGtO c F) da db) :=
  pd_cmp (fun _ => _) (fun X W ok => opBack .ge h hq hk ok) (fun _ _ _ => a_gtO h.two) ha hb (nomark _)
end
/-! ### C(k = v, ..), no positional value -/
section
variable {Z : Zc} {x : Str} {kws : List Keyword} {dks : List De} {F : Fd} {k c : Nat} {f : Addr} {ps ks : List Str} {dts : List T} {p pos : Pos}
theorem pd_makeK0 (hM : Mk Z.K (Z.ca c) f) (h : CaK Z.toZb k 1 f ps ks F dts) (hk : k + 1 ≤ Z.k) (hm : Z.mg x = some (.ref (Z.ca c))) (hkw : PDK Z kws dks) (hkl : dks.length = ks.length) (hn : dks.length + dts.length + 1 = ps.length) (hg : GlS Z x := by rfl)
    (hall : ∀ env, (backToKw pos (keywordEach kws env)).all (·.1.isSome) = true := by intro _; rfl) (hks : ∀ env, (backToKw pos (keywordEach kws env)).filterMap (·.1) = ks := by intro _; rfl)
    (hdb : (x == ("__debug__" : Str)) = false := by decide)
    (hpl : ∀ env, ((backTo pos (starEach [] env)).any (·.1) || (backToKw pos (keywordEach kws env)).any (·.1.isNone)) = false := by intro _; rfl) :
    PD Z (.Call (.Name x p) [] kws pos) (dMake c dks F dts) := by
  refine ?G
  exact (by (intro h; exact h) : have h : (type_of% ?G) := (fun X W ok => ⟨fun pins s σ H Q I h0 => by
  obtain ⟨fd, dvs, gg, h1, h2, hd⟩ := h.ex
  obtain ⟨mm, r, G, s0, sl, p0⟩ := h0
  unfold dMake at p0
  have hM' : Mk X.K (Z.ca c) f := by rw [ok.K]; exact hM
  have asked := tA_of (R := fun zs H2 => zs.length = ks.length ∧ ∀ x0 dx, H2 x0 = none → H2 dx = none → dx ≠ x0 → spD Z.g ps.length F ([V.ref x0] ++ zs ++ dvs) (upd (upd H2 dx (.own x0)) x0 (.ins (Z.ca c) dx [])) (fun v H2 => v = .non ∧ Q (.ref x0) H2) (fun cl d H' => W cl d σ H')) s0 sl p0
    fun ds G1 zs m1 H1 x1 s1 sl1 rs hl p1 => ⟨by rw [← rs.length, hl, hkl], make_sp ok (n := ps.length) (by rw [hl]; exact hn) hd s1 rs p1⟩
  refine wpAny_Call_Name_kw (ld_glob I (show X.env.scope.names.lookup x = _ by rw [ok.sc]; exact hg) (by rw [ok.mg]; exact hm) ?_ hdb)
  refine PySem.W.callWith_KW0 (h₀ := X.base) I.ok.mod.kin hM'.kp (hall _) (thn ((hkw X W ok).run pos pins s σ H _ I asked) fun ws s2 q => ?_) (hpl _)
  obtain ⟨zs, H2, J, rz, l2, q2⟩ := q
  rw [hks]
  have hF : FnOk X.prog X.w X.K X.mg X.base (L2.CX X.prog X.w) k f fd ps (spD Z.g ps.length F) := by rw [ok.P, ok.w, ok.K, ok.mg, ok.base]; exact h1.ok
  exact ⟨J.kIn, run_makeKD (n := 0) hM' hF (ok.rm.mono hk) (by rw [ok.K]; exact h2) (passAt ok.tk σ) J .nil rz rfl l2 q2⟩⟩
 ); type_of% ?G)
end
end BL

set_option Elab.async false
set_option linter.all false
set_option maxRecDepth 100000
set_option maxHeartbeats 400000
namespace BL
open PySem PySem.Spec PyProof.Rows L2

/-! ### <, <=, >, >= of tuples of ints -/
inductive TOp where
  | lt | le | gt | ge
def TOp.op : TOp → CmpOp
  | .lt => .Lt | .le => .LtE | .gt => .Gt | .ge => .GtE
/-- what the first unequal pair gives -/
def TOp.one : TOp → Int → Int → Bool
  | .lt, a, b => decide (a < b) | .le, a, b => decide (a ≤ b) | .gt, a, b => decide (b < a) | .ge, a, b => decide (b ≤ a)
/-- what the lengths give where one is the other's beginning -/
def TOp.len : TOp → Nat → Nat → Bool
  | .lt, n, m => decide (n < m) | .le, n, m => decide (n ≤ m) | .gt, n, m => decide (n > m) | .ge, n, m => decide (n ≥ m)
def cmI (t : TOp) (ns ms : List Int) : Bool := Ob.lexAt (fun j => decide (ns.getD j 0 = ms.getD j 0)) (fun j => t.one (ns.getD j 0) (ms.getD j 0)) (t.len ns.length ms.length) 0 (min ns.length ms.length)
def rCmT (t : TOp) (K : PySem.W.Frag) : R2 := fun x y H Q => ∃ (a b : Addr) (ns ms : List Int), x = .ref a ∧ y = .ref b ∧ SqT K H a (ns.map V.int) ∧ SqT K H b (ms.map V.int) ∧ Q (.bl (cmI t ns ms)) H
theorem int_of {its : List Value} {ns : List Int} (r : Vals (ns.map V.int) its) {j : Nat} (h : j < its.toArray.size) : ∃ t, its.toArray[j] = .int (ns.getD j 0) t := by
  refine ?G
  exact (by (intro h; exact h) : have h : (type_of% ?G) := (by
  have hj : j < its.length := by rw [List.size_toArray] at h; exact h
  have hl := r.length
  rw [List.length_map] at hl
  have hn : j < ns.length := hl ▸ hj
  obtain ⟨u, e1, t, e2⟩ := r.get (i := j) (x := .int ns[j]) (by rw [List.getElem?_map, List.getElem?_eq_getElem hn]; rfl)
  refine ⟨t, ?_⟩
  rw [List.getElem?_eq_getElem hj] at e1
  rw [List.getElem_toArray, Option.some.inj e1, e2, List.getD_eq_getElem?_getD, List.getElem?_eq_getElem hn]
  rfl
 ); type_of% ?G)
theorem op_cmT {X : Cx} (t : TOp) (hu : X.A.units < cLine) : OpR X (compareOp t.op) (rCmT t X.K) := by
  refine ?G
  exact (by (intro h; exact h) : have h : (type_of% ?G) := (by
  intro pins s σ H x y v u Q I rx ry h
  obtain ⟨a, b, ns, ms, rfl, rfl, ha, hb, q⟩ := h
  cases (show v = Value.ref a from rx)
  cases (show u = Value.ref b from ry)
  obtain ⟨its, r1, p1, _⟩ := I.tuple ha
  obtain ⟨its2, r2, p2, _⟩ := I.tuple hb
  have n1 : its.toArray.size = ns.length := by rw [List.size_toArray, ← r1.length, List.length_map]
  have n2 : its2.toArray.size = ms.length := by rw [List.size_toArray, ← r2.length, List.length_map]
  have alike : ∀ j (h1 : j < its.toArray.size) (h2 : j < its2.toArray.size), SeqAt.EqAt X.A.in1 s its.toArray[j] its2.toArray[j] (decide (ns.getD j 0 = ms.getD j 0)) := fun j h1 h2 => by
    obtain ⟨t1, e1⟩ := int_of r1 h1
    obtain ⟨t2, e2⟩ := int_of r2 h2
    rw [e1, e2]
    exact SeqAt.EqAt.int_int _ _ _ _
  have first : ∀ j (h1 : j < its.toArray.size) (h2 : j < its2.toArray.size), decide (ns.getD j 0 = ms.getD j 0) = false → Ob.RcOp t.op X.A.in1 s its.toArray[j] its2.toArray[j] (t.one (ns.getD j 0) (ms.getD j 0)) := fun j h1 h2 _ => by
    obtain ⟨t1, e1⟩ := int_of r1 h1
    obtain ⟨t2, e2⟩ := int_of r2 h2
    rw [e1, e2]
    cases t with
    | lt => exact Ob.RcOp.lt_int _ _ _ _
    | le => exact Ob.RcOp.le_int _ _ _ _
    | gt => exact Ob.RcOp.gt_int _ _ _ _
    | ge => exact Ob.RcOp.ge_int _ _ _ _
  have told : Ob.RcOp t.op X.A s (.ref a) (.ref b) (cmI t ns ms) := by
    unfold cmI
    rw [← n1, ← n2]
    cases t with
    | lt => exact Ob.RcOp.tuples_lt p1 p2 hu alike first
    | le => exact Ob.RcOp.tuples_le p1 p2 hu alike first
    | gt => exact Ob.RcOp.tuples_gt p1 p2 hu alike first
    | ge => exact Ob.RcOp.tuples_ge p1 p2 hu alike first
  have e : compareOp t.op (.ref a) (.ref b) = richCompare t.op (.ref a) (.ref b) := by cases t <;> rfl
  rw [e]
  exact told X.prog X.w X.xe (EP X pins σ Q) ⟨.bl _, H, I, rfl, q⟩
 ); type_of% ?G)
def fCmT (t : TOp) : D → D → Hs → Re
  | .t (.tup xs), .t (.tup ys), G => match intsT (xs.map D.t), intsT (ys.map D.t) with
    | some ns, some ms => .ok (.t (.bl (cmI t ns ms))) G
    | _, _ => .stuck
  | _, _, _ => .stuck
theorem a_cmT {g : Gm} {t : TOp} : OpA g (rCmT t g.K) (fCmT t) := by
  refine ?G
  exact (by (intro h; exact h) : have h : (type_of% ?G) := (by
  intro W m H G σ Q x y v u s rx ry p
  unfold fCmT at p
  split at p
  · next xs ys =>
    split at p
    · next ns ms e1 e2 =>
      obtain ⟨a, vs, rfl, h1, r1⟩ := rx
      obtain ⟨b, us, rfl, h2, r2⟩ := ry
      rw [ints_rp e1 (RpDs.ofT (g := g) (m := m) (n := G.length) (b := G.length) r1)] at h1
      rw [ints_rp e2 (RpDs.ofT (g := g) (m := m) (n := G.length) (b := G.length) r2)] at h2
      exact ⟨a, b, ns, ms, rfl, rfl, h1, h2, PostE.ok s p rfl⟩
    · exact p.elim
  · exact p.elim
 ); type_of% ?G)
section
variable {Z : Zc} {a b : Expr} {da db : De} {pos : Pos}
theorem pd_cmT (t : TOp) (ha : PD Z a da) (hb : PD Z b db) (hm : behindInMarks t.op b = false) : PD Z (.Compare a [t.op] [b] pos) (dBin (fCmT t) da db) :=
  pd_cmp (fun X => rCmT t X.K) (fun X W ok => op_cmT t (by have := ok.u64; omega)) (fun X W ok => by rw [ok.Kg]; exact a_cmT) ha hb hm
theorem pd_cmlt (ha : PD Z a da) (hb : PD Z b db) : PD Z (.Compare a [.Lt] [b] pos) (dBin (fCmT .lt) da db) := pd_cmT .lt ha hb (nomark _)
theorem pd_cmle (ha : PD Z a da) (hb : PD Z b db) : PD Z (.Compare a [.LtE] [b] pos) (dBin (fCmT .le) da db) := pd_cmT .le ha hb (nomark _)
theorem pd_cmgt (ha : PD Z a da) (hb : PD Z b db) : PD Z (.Compare a [.Gt] [b] pos) (dBin (fCmT .gt) da db) := pd_cmT .gt ha hb (nomark _)
theorem pd_cmge (ha : PD Z a da) (hb : PD Z b db) : PD Z (.Compare a [.GtE] [b] pos) (dBin (fCmT .ge) da db) := pd_cmT .ge ha hb (nomark _)
end
/-! plainly -/
theorem lexAt_congr {e e' r r' : Nat → Bool} {z z' : Bool} (he : ∀ i, e i = e' i) (hr : ∀ i, r i = r' i) (hz : z = z') : ∀ k i, Ob.lexAt e r z i k = Ob.lexAt e' r' z' i k
  | 0, _ => hz
  | k + 1, i => by rw [Ob.lexAt_succ, Ob.lexAt_succ, he, hr, lexAt_congr he hr hz k]
theorem cmI_gt (ns ms : List Int) : cmI .gt ns ms = cmI .lt ms ns := by
  unfold cmI
  rw [Nat.min_comm]
  exact lexAt_congr (fun i => decide_eq_decide.mpr eq_comm) (fun i => rfl) rfl _ _
theorem cmI_ge (ns ms : List Int) : cmI .ge ns ms = cmI .le ms ns := by
  unfold cmI
  rw [Nat.min_comm]
  exact lexAt_congr (fun i => decide_eq_decide.mpr eq_comm) (fun i => rfl) rfl _ _
section
variable {Q : D → Hs → Prop} {E : XP} {G : Hs}
theorem f_cmT {t : TOp} {ns ms : List Int} (h : Q (.t (.bl (cmI t ns ms))) G) : Wp (fCmT t (.t (.tup (ns.map T.int))) (.t (.tup (ms.map T.int))) G) Q E := by
  have e : ∀ ns : List Int, intsT ((ns.map T.int).map D.t) = some ns := fun ns => by
    rw [show (ns.map T.int).map D.t = ns.map dI by rw [List.map_map]; rfl]
    exact ints_map ns
  unfold fCmT
  simp only [e]
  exact e_ok h
end
end BL

set_option Elab.async false
set_option linter.all false
set_option maxRecDepth 100000
set_option maxHeartbeats 400000
namespace BL
open PySem PySem.Spec PyProof.Rows L2

/-! ### o[i] by an own __getitem__ that may raise -/
def tGetX (C : Addr) (sp : Sp) (E : L2.St → XK) (ta tb : TE) : TE := fun σ H Q => ta σ H fun x H1 => tb σ H1 fun y H2 => ∃ a dx fs, x = .ref a ∧ H2 a = some (.ins C dx fs) ∧ sp [x, y] H2 Q (E σ)
theorem pe_getX {X : Cx} {k : Nat} {f C : Addr} {fd : FuncData} {ps : List Str} {sp : Sp} {E : L2.St → XK} {a b : Expr} {ta tb : TE} {pos : Pos} (F : FnOk X.prog X.w X.K X.mg X.base (L2.CX X.prog X.w) k f fd ps sp) (hr : Room (k + 1) X.A) (hb : Binds X.K fd ps []) (hL : GetF X.K C f) (hx : ∀ σ, PassesAt (L2.CX X.prog X.w) X σ (E σ)) (ha : PE X a ta) (hi : PE X b tb) (hs : OwnIx b) :
    PE X (.Subscript a b pos) (tGetX C sp E ta tb) where
  run pins s σ H Q I h := Subscript_ <| thn (ha.run pins s σ H _ I h) fun v s1 q => by
    obtain ⟨x, H1, I1, rx, q⟩ := q
    refine thn (hi.run pins s1 σ H1 _ I1 q) fun u s2 q => ?_
    obtain ⟨y, H2, J, ry, o, dx, fs, rfl, ho, q⟩ := q
    cases (show v = Value.ref o from rx)
    obtain ⟨_, N, _⟩ := ins_get J.hok ho
    obtain ⟨_, N, _⟩ := N.look
    obtain ⟨m, hF⟩ := J.fr
    exact PySem.W.sub_K hF J.ok.mod.kin N hL.hs hL.fi hL.hf (wp_back (F.does (A := X.A.in1) (vs := [.ref o, y]) hr.in1 J.env0.in1 J hb .nil (.cons rfl (.cons ry .nil)) (hx σ) q)) (hs _ _)
def fGetX (c : Nat) (F : Fd) (x y : D) (G : Hs) : Re := if isObj' c G x = true then F [x, y] G else .stuck
section
variable {Z : Zc} {a b : Expr} {da db : De} {c k : Nat} {f : Addr} {ps : List Str} {F : Fd} {pos : Pos}
theorem pd_getX (h : GetA Z.toZb k c f ps F) (hk : k + 1 ≤ Z.k) (ha : PD Z a da) (hb : PD Z b db) (hs : OwnIx b := by intro _ _; rfl) : PD Z (.Subscript a b pos) (dBin (fGetX c F) da db) := by
  refine ?G
  exact (by (intro h; exact h) : have h : (type_of% ?G) := (fun X W ok => by
  obtain ⟨fd, dvs, dus, h1, h2, h3, h4⟩ := h.ca.ex
  cases dvs with
  | cons v vs => exact nomatch h4 (fun _ => False) (fun _ => none)
  | nil =>
    cases h3
    have hF : FnOk X.prog X.w X.K X.mg X.base (L2.CX X.prog X.w) k f fd ps (spD Z.g ps.length F) := by rw [ok.P, ok.w, ok.K, ok.mg, ok.base]; exact h1.ok
    refine peI (pe_getX (C := Z.ca c) (E := fun σ cl d H' => W cl d σ H') hF (ok.rm.mono hk) (by rw [ok.K]; exact h2) (by rw [ok.K]; exact h.get) (fun σ => passAt ok.tk σ) (ha X W ok) (hb X W ok) hs) fun σ H Q h0 => ?_
    obtain ⟨m, r, G, s, sl, p⟩ := h0
    unfold dBin at p
    refine tI_bind s sl p fun x G1 v m1 H1 e x1 s1 sl1 rv p1 => ?_
    refine tI_bind s1 sl1 p1 fun y G2 u m2 H2 e2 x2 s2 sl2 ru p2 => ?_
    have rx := RpD.ex x2 s1 x2.le (Nat.le_refl _) rv
    unfold fGetX at p2
    split at p2
    · next hx =>
      obtain ⟨o, dx, fs, rfl, ho⟩ := isObj_rp s2 rx hx
      exact ⟨o, dx, fs, rfl, ho, h.hn, Z.g.rv, m2, _, [x, y], s2, ⟨_, _, rfl, rx, _, _, rfl, ru, rfl⟩, PostF.eq p2⟩
    · exact p2.elim
 ); type_of% ?G)
end
section
variable {Q : D → Hs → Prop} {E : XP} {G : Hs}
theorem f_getX {c : Nat} {F : Fd} {x y : D} (h1 : isObj' c G x = true) (h : Wp (F [x, y] G) Q E) : Wp (fGetX c F x y G) Q E := by
  unfold fGetX
  rw [if_pos h1]
  exact h
end
end BL

set_option Elab.async false
set_option linter.all false
set_option maxRecDepth 100000
set_option maxHeartbeats 1000000
namespace BL
open PySem PySem.Spec PyProof.Rows L2
section
variable {prog : Program} {w : World} {A : Around} {E : Value → Shared → Prop} {s : Shared}
theorem made_keysT {l : Addr} {its : Array Value} {xs : List Key} {Q : Value → Shared → Prop} (hh : A.handled = none) (hl : s.heap.IsTuple l its) (hi : Vals (xs.map kV) its.toList) (few : its.size + 1 < scanBound)
    (h : ∀ (h1 : Heap) (tk : Nat), KeyAt prog w s.heap.objs.size h1 (metNK xs its.size) → (∀ b o, b < s.heap.objs.size → s.heap.get? b = some o → h1.get? b = some o) → Q (.ref s.heap.objs.size) { s with heap := h1, toks := tk }) :
    wpAny (model prog w) A (call (.type "set") [.ref l]) Q E s := by
  refine ?G
  exact (by (intro h; exact h) : have h : (type_of% ?G) := (by
  obtain ⟨c0, tl0, mro0⟩ := PySem.F.called_set.mro
  have k1 := PySem.F.called_set.made
  have k2 := PySem.F.called_set.sub
  refine wpAny_call (codeAny_of_tree ?_)
  show wpAny _ _ (callAny (.type "set") _) _ _ _
  refine wpAny_pure ⟨Code.quiet_builtin _ (by decide +kernel), codeAny_builtin PySem.F.entry_type_call ?_⟩
  rw [Around.under_plain (weight_type_call_type "set" [.ref l] []) rfl]
  have k3 := PySem.F.called_set.notType
  have k4 := PySem.F.called_set.canCreate
  have k5 := PySem.F.typeCall_set_1 (.ref l)
  repeat (any_goals (first | assumption | wp_step))
  refine codeAny_mono (code_set_new_1 (.ref l) (E := E) (Q₁ := fun ob s1 => ∃ led, ob = .ref s.heap.objs.size ∧ s1 = { s with heap := hS s.heap led }) fun led => ⟨led, rfl, rfl⟩) fun r s1 hr => ?_
  rcases r with ⟨e⟩ | ⟨_ | _ | _ | ob⟩
  case error => exact hr
  all_goals try exact hr.elim
  obtain ⟨led, rfl, rfl⟩ := hr
  have g0 : (hS s.heap led).get? s.heap.objs.size = some (oS led) := Heap.get?_push_size _ rfl
  have ty : Shared.TypeIs { s with heap := hS s.heap led } (.ref s.heap.objs.size) "set" := ⟨_, g0, rfl⟩
  have k6 := PySem.F.called_set.init.lookup
  have k7 := PySem.F.called_set.init.bind (.ref s.heap.objs.size)
  repeat (any_goals (first | assumption | wp_step))
  refine codeAny_mono (codeAny_call_builtin (R := wants (fun r s2 => r = .none ∧ ∃ h1 tk, s2 = { s with heap := h1, toks := tk } ∧ KeyAt prog w s.heap.objs.size h1 (metNK xs its.size) ∧
      (∀ b o, b < s.heap.objs.size → s.heap.get? b = some o → h1.get? b = some o)) E) PySem.F.called_set.init.plain PySem.F.entry_set_init (check_set_init_1 ty ?_)) fun r2 s2 hr2 => ?_
  · obtain ⟨⟨c1, d1, t1, l1⟩, e1, ec, n1, et⟩ := hl
    simp only at ec et
    subst ec et
    have e2 : (hS s.heap led).get? l = some ⟨.type "tuple", d1, .seq its n1, l1⟩ := Heap.get?_push_of_some _ e1
    have il : (hS s.heap led).IsTuple l its := ⟨_, e2, rfl, n1, rfl⟩
    have j1 := PySem.F.sub_tuple_set
    have j2 := PySem.F.sub_tuple_frozenset
    have j3 : (Value.type "tuple" == Value.type "dict") = false := by decide
    unfold Builtin.«set.__init__» noKeywords Builtin.Frozenset.updateFrom
    generalize hPI : pyIter = PI
    wp_walk
    subst hPI
    refine wpAny_pyIter_tuple il (wpAny_bind (wpAny_runValue ?_))
    have lt : l < s.heap.objs.size := Heap.lt_size e1
    have sz : (hS s.heap led).objs.size = s.heap.objs.size + 1 := Heap.size_push _ _
    have h3 : A.in1.in1.in1.handled = none := by simp [hh]
    have nI : l ≠ (hS s.heap led).objs.size := by rw [sz]; exact Nat.ne_of_lt (Nat.lt_succ_of_lt lt)
    have nT : s.heap.objs.size ∉ [(hS s.heap led).objs.size, l] := by
      rw [sz]
      intro z
      rcases List.mem_cons.mp z with z | z
      · exact Nat.ne_of_lt (Nat.lt_succ_self _) z
      · exact Nat.ne_of_lt lt (List.mem_singleton.mp z).symm
    refine fill_keys ((Walks.tuple h3 _ l nI its).toS) nT few (fun i v hv => key_at hi (by rw [Array.getElem?_toList]; exact hv)) its.size 0 _ (by omega) ⟨⟨_, Heap.get?_push_size _ rfl, rfl, rfl⟩, il.push _⟩ ?_ fun s3 mv hT => ?_
    · have g1 : ((hS s.heap led).push { cls := .type "tuple_iterator", data := .fields #[.ref l, .int 0 0] }).get? s.heap.objs.size = some (oS led) := Heap.get?_push_of_some _ g0
      exact setOf_cg (S := fun _ => false) (n := 0) ⟨_, #[], 0, _, g1, ⟨rfl, rfl, rfl⟩, rfl, (fun e he => by simp at he), (fun k => by simp), (by decide), (by rfl), rfl⟩ (fun _ => rfl) rfl
    · obtain ⟨h4, g4, d4, t4, o4⟩ := s3
      obtain rfl : g4 = s.gens := mv.gens
      obtain rfl : d4 = s.drawn := mv.drawn
      obtain rfl : o4 = s.os := mv.os
      show wpAny _ _ _ _ _ _
      refine wpAny_pure ?_
      show wpAny _ _ (ret .none) _ _ _
      refine wpAny_pure ⟨rfl, h4, t4, rfl, hT, fun b o hb e => mv.heap b o (fun z => ?_) (Heap.get?_push_of_some _ (Heap.get?_push_of_some _ e))⟩
      rcases List.mem_cons.mp z with z | z
      · exact Nat.ne_of_lt hb z
      · have q := List.mem_singleton.mp z
        rw [q, sz] at hb
        exact Nat.lt_irrefl _ (Nat.lt_of_succ_lt hb)
  · rcases r2 with ⟨e⟩ | ⟨_ | _ | _ | ob⟩
    case error => exact hr2
    all_goals try exact hr2.elim
    obtain ⟨rfl, h4, t4, rfl, hT, hk⟩ := hr2
    repeat (any_goals (first | assumption | wp_step))
    exact h _ _ hT hk
 ); type_of% ?G)
end
section
variable {X : Cx} {a : Expr} {ta : TE} {p p2 q pos : Pos}
def tLenKt (K : PySem.W.Frag) (ta : TE) : TE := fun σ H Q => ta σ H fun x H1 => ∃ (l : Addr) (xs : List Key), x = .ref l ∧ SqT K H1 l (xs.map kV) ∧ xs.length ≤ 4000 ∧ Q (.int ((metNK xs xs.length).length : Nat)) H1
theorem pe_lenKt (hc : X.calm = true) (hg : Gl X "len") (hm : X.mg "len" = none) (hg2 : Gl X "set") (hm2 : X.mg "set" = none) (ha : PE X a ta)
    (na : starEach [a] X.env = (false, eval a X.env) :: starEach [] X.env) : PE X (.Call (.Name "len" p) [.Call (.Name "set" p2) [a] [] q] [] pos) (tLenKt X.K ta) := by
  refine ?G
  exact (by (intro h; exact h) : have h : (type_of% ?G) := (by
  refine ⟨fun pins s σ H Q I h => Call_ (ld_blt I hg hm boot_len (callWith_builtin1 (args_cons (Call_ (ld_blt I hg2 hm2 boot_set (callWith_type1 (args_cons (thn (ha.run pins s σ H _ I h) fun v s1 z => args_nil ?_) na) na rfl))) rfl) rfl rfl))⟩
  obtain ⟨x, H1, I1, r1, l, xs, rfl, hq, hl, q1⟩ := z
  cases r1
  obtain ⟨its, r, pl, hz⟩ := I1.tuple hq
  have el : its.toArray.size = xs.length := by rw [List.size_toArray, ← r.length, List.length_map]
  refine made_keysT (I1.ok.hd hc) pl (by simpa using r) (by rw [el]; unfold scanBound; omega) fun h2 tk hS hk => args_nil ?_
  rw [el] at hS
  have := metNK_le xs xs.length
  obtain ⟨o, es, ep, t, ho, hex, hd, _, _, _, hf, hn⟩ := hS
  have I2 : Inv X pins σ H1 { s1 with heap := h2, toks := tk } := I1.kept fun b o e => hk b o (Heap.lt_size e) e
  exact call_len_set ho hex hd hf (by rw [hn] <;> omega) ⟨.int ((metNK xs xs.length).length : Nat), H1, I2.tok _, ⟨_, by rw [hn]⟩, q1⟩
 ); type_of% ?G)
end
def fLenKt : List D → Hs → Re := fun ds G => match ds with
  | [.t (.tup ts)] => (match intsT (ts.map D.t) with
    | some xs => if xs.length ≤ 4000 then .ok (.t (.int ((metNK (xs.map .inl) xs.length).length : Nat))) G else .stuck
    | none => .stuck)
  | _ => .stuck
section
variable {Z : Zc} {e : Expr} {d : De} {p p2 q pos : Pos}
theorem pd_lenKt (hm : Z.mg "len" = none) (hm2 : Z.mg "set" = none) (h : PD Z e d) (hg : GlS Z "len" := by rfl) (hg2 : GlS Z "set" := by rfl) (he : ∀ env, starEach [e] env = (false, eval e env) :: starEach [] env := by intro _; rfl) :
    PD Z (.Call (.Name "len" p) [.Call (.Name "set" p2) [e] [] q] [] pos) (dArgs [d] fLenKt) := by
  refine ?G
  exact (by (intro h; exact h) : have h : (type_of% ?G) := (fun X W ok => by
  refine peI (pe_lenKt ok.calm (show X.env.scope.names.lookup _ = _ by rw [ok.sc]; exact hg) (by rw [ok.mg]; exact hm) (show X.env.scope.names.lookup _ = _ by rw [ok.sc]; exact hg2) (by rw [ok.mg]; exact hm2) (h X W ok) (he _)) fun σ H Q h0 => ?_
  obtain ⟨m, r, G, s, sl, p0⟩ := h0
  refine tI_bind s sl p0 fun x G1 v m1 H1 e1 x1 s1 sl1 rv p1 => ?_
  change PostE Z.g W m1 G1.length H1 σ Q (fLenKt [x] G1) at p1
  unfold fLenKt at p1
  split at p1
  · next ts hx =>
    cases hx
    split at p1
    · next xs eb =>
      split at p1
      · next hz =>
        obtain ⟨l, vs, rfl, hl, rs⟩ := rv
        rw [ints_rp eb (RpDs.ofT (g := Z.g) (m := m1) (n := G1.length) (b := G1.length) rs)] at hl
        refine ⟨l, xs.map .inl, rfl, by rw [show X.K = Z.g.K from ok.K, List.map_map]; exact hl, by rw [List.length_map]; exact hz, ?_⟩
        rw [List.length_map]
        exact PostE.ok s1 p1 rfl
      · exact p1.elim
    · exact p1.elim
  · exact p1.elim
 ); type_of% ?G)
end
section
variable {Q : D → Hs → Prop} {E : XP} {G : Hs}
theorem f_lenKt {ns : List Int} (hz : ns.length ≤ 4000) (h : Q (.t (.int ((metNK (ns.map .inl) ns.length).length : Nat))) G) : Wp (fLenKt [.t (.tup (ns.map T.int))] G) Q E := by
  have e : intsT ((ns.map T.int).map D.t) = some ns := by
    rw [show (ns.map T.int).map D.t = ns.map dI by rw [List.map_map]; rfl]
    exact ints_map ns
  unfold fLenKt
  simp only [e, hz, if_true]
  exact e_ok h
end
end BL

set_option Elab.async false
set_option linter.all false
set_option maxRecDepth 100000
set_option maxHeartbeats 4000000
namespace LW
open PySem L2 BL

def top (i : Nat) : Stmt := PySem.Challenge.pw_betweenlooks_k09_acts_and_their_operator.main.body.getD i (.Pass ⟨0, 0, 0, 0⟩)
abbrev s_is_integer : Stmt := top 8
abbrev s_is_within : Stmt := top 9
abbrev s_is_act : Stmt := top 12
abbrev s_Act_init : Stmt := inClass (top 15) 0
abbrev s_draw : Stmt := top 18
abbrev s_pick : Stmt := top 19
abbrev s_led : Stmt := top 13
abbrev s_Act_times : Stmt := inClass (top 15) 7
abbrev s_Act_getitem : Stmt := inClass (top 15) 1
abbrev s_Act_rank : Stmt := inClass (top 15) 9
abbrev s_Act_is_swap : Stmt := inClass (top 15) 10
abbrev s_ascending : Stmt := top 14
abbrev s_Act_image : Stmt := inClass (top 15) 8
abbrev s_l_is_act : Stmt := top 22
abbrev s_powers : Stmt := top 21
abbrev s_Act_mul : Stmt := inClass (top 15) 6
abbrev s_Act_eq : Stmt := inClass (top 15) 3
abbrev s_Act_le : Stmt := inClass (top 15) 5
abbrev s_Act_lt : Stmt := inClass (top 15) 4
abbrev s_is_compared : Stmt := top 23
abbrev s_pen : Stmt := top 17
abbrev s_law : Stmt := top 24
abbrev s_refused : Stmt := top 20
def caK (K : PySem.W.Frag) : Nat → Addr
  | 0 => He.ga K "Act"
  | 1 => He.ga K "BadAct"
  | 2 => He.ga K "BadState"
  | 3 => He.ga K "BadNumber"
  | 4 => He.ga K "Uneven"
  | _ => 0
def tbL (K : PySem.W.Frag) : List (Addr × Str) := [((He.cT K ("law", none)).2, ("law" : Str) ++ ".<locals>." ++ "<lambda>")]
def bz (P : Program) (w : World) (K : PySem.W.Frag) (mg : Str → Option Value) (base : Heap) (ft : Ft) : Zb := ⟨P, w, K, mg, base, caK K, tbL K, ft⟩
end LW
set_option Elab.async false
set_option linter.all false
set_option maxRecDepth 100000
set_option maxHeartbeats 4000000
namespace LW
open PySem L2 BL

def D_is_integer : He.DefD := ⟨("is_integer", none), "is_integer", "is_integer", defArgs s_is_integer, defBody s_is_integer, defScope s_is_integer, [], []⟩
def D_is_within : He.DefD := ⟨("is_within", none), "is_within", "is_within", defArgs s_is_within, defBody s_is_within, defScope s_is_within, [], []⟩
def D_is_act : He.DefD := ⟨("is_act", none), "is_act", "is_act", defArgs s_is_act, defBody s_is_act, defScope s_is_act, [], []⟩
def D_Act_init : He.DefD := ⟨("Act", some "__init__"), "__init__", "Act.__init__", defArgs s_Act_init, defBody s_Act_init, defScope s_Act_init, [], []⟩
def D_draw : He.DefD := ⟨("_law_draw", none), "_law_draw", "_law_draw", defArgs s_draw, defBody s_draw, defScope s_draw, [], []⟩
def D_pick : He.DefD := ⟨("_law_pick", none), "_law_pick", "_law_pick", defArgs s_pick, defBody s_pick, defScope s_pick, [], []⟩
def D_led : He.DefD := ⟨("led", none), "led", "led", defArgs s_led, defBody s_led, defScope s_led, [], []⟩
def D_Act_times : He.DefD := ⟨("Act", some "times"), "times", "Act.times", defArgs s_Act_times, defBody s_Act_times, defScope s_Act_times, [], []⟩
def D_Act_getitem : He.DefD := ⟨("Act", some "__getitem__"), "__getitem__", "Act.__getitem__", defArgs s_Act_getitem, defBody s_Act_getitem, defScope s_Act_getitem, [], []⟩
def D_ascending : He.DefD := ⟨("ascending", none), "ascending", "ascending", defArgs s_ascending, defBody s_ascending, defScope s_ascending, [], []⟩
def D_l_is_act : He.DefD := ⟨("_law_is_act", none), "_law_is_act", "_law_is_act", defArgs s_l_is_act, defBody s_l_is_act, defScope s_l_is_act, [], []⟩
def D_powers : He.DefD := ⟨("_law_powers", none), "_law_powers", "_law_powers", defArgs s_powers, defBody s_powers, defScope s_powers, [], []⟩
def D_Act_mul : He.DefD := ⟨("Act", some "__mul__"), "__mul__", "Act.__mul__", defArgs s_Act_mul, defBody s_Act_mul, defScope s_Act_mul, [], []⟩
def D_Act_eq : He.DefD := ⟨("Act", some "__eq__"), "__eq__", "Act.__eq__", defArgs s_Act_eq, defBody s_Act_eq, defScope s_Act_eq, [], []⟩
def D_Act_le : He.DefD := ⟨("Act", some "__le__"), "__le__", "Act.__le__", defArgs s_Act_le, defBody s_Act_le, defScope s_Act_le, [], []⟩
def D_Act_lt : He.DefD := ⟨("Act", some "__lt__"), "__lt__", "Act.__lt__", defArgs s_Act_lt, defBody s_Act_lt, defScope s_Act_lt, [], []⟩
def D_is_compared : He.DefD := ⟨("_law_is_compared", none), "_law_is_compared", "_law_is_compared", defArgs s_is_compared, defBody s_is_compared, defScope s_is_compared, [], []⟩
def D_pen : He.DefD := ⟨("_law_pen", none), "_law_pen", "_law_pen", defArgs s_pen, defBody s_pen, defScope s_pen, [], []⟩
def D_law : He.DefD := ⟨("law", none), "law", "law", defArgs s_law, defBody s_law, defScope s_law, [], []⟩
def D_refused : He.DefD := ⟨("_law_refused", none), "_law_refused", "_law_refused", defArgs s_refused, defBody s_refused, defScope s_refused, [], []⟩
def D_Act_rank : He.DefD := ⟨("Act", some "rank"), "rank", "Act.rank", defArgs s_Act_rank, defBody s_Act_rank, defScope s_Act_rank, [], []⟩
def D_Act_is_swap : He.DefD := ⟨("Act", some "is_swap"), "is_swap", "Act.is_swap", defArgs s_Act_is_swap, defBody s_Act_is_swap, defScope s_Act_is_swap, [], []⟩
def D_Act_image : He.DefD := ⟨("Act", some "image"), "image", "Act.image", defArgs s_Act_image, defBody s_Act_image, defScope s_Act_image, [], []⟩
def fn : List He.DefD := [D_is_integer, D_is_within, D_is_act, D_Act_init, D_draw, D_pick, D_led, D_Act_times, D_Act_getitem, D_ascending, D_l_is_act, D_powers, D_Act_mul, D_Act_eq, D_Act_le, D_Act_lt, D_is_compared, D_pen, D_law, D_refused]
def gs : List Getr := [(("Act", "rank"), D_Act_rank), (("Act", "is_swap"), D_Act_is_swap), (("Act", "image"), D_Act_image)]
def fa0 : List He.Fa := [.free "len", .free "min", .free "range", .glo "BadAct", .free "super", .free "repr", .glo "BadState", .glo "BadNumber", .glo "Uneven", .glo "LooksError", .glo "_law_refused", .cls "Act", .noat "Act" "states", .free "isinstance", .free "int", .free "bool", .glo "is_integer", .glo "is_within", .free "all", .free "tuple"]
def fa1 : List He.Fa := [.glo "is_act", .mkr "Act", .glo "Act", .glo "_law_draw", .free "list", .glo "_law_pick", .glo "led", .int "MOST_POWER" 1000000000000000000000000000000, .meth "Act" "times", .free "set", .free "sorted", .glo "ascending", .glo "_law_is_act", .glo "_law_powers", .glo "_law_is_compared", .glo "_law_pen", .glo "law"]
def fa : List He.Fa := fa0 ++ fa1
def ex (K : PySem.W.Frag) : Bool := excB K (PySem.Challenge.rw_betweenlooks_k09_acts_and_their_operator).prog.main.file (caK K 1) (He.fAd K ("BadAct", some "__init__")) ["states"] && ((([(1, true), (2, false), (3, false), (4, false)] : List (Nat × Bool)).all fun p => decide (PySem.W.exmOne K (.ref (caK K p.1)) (.ref (He.ga K "BadAct")) = some p.2)) && (L2.xfB K (He.ga K "BadAct") && (decide (PySem.W.findIn K (.ref (He.ga K "BadAct")) "states" = some none) && (excB K (PySem.Challenge.rw_betweenlooks_k09_acts_and_their_operator).prog.main.file (caK K 2) (He.fAd K ("BadState", some "__init__")) ["state"] && ((([(1, false), (2, true), (3, false), (4, false)] : List (Nat × Bool)).all fun p => decide (PySem.W.exmOne K (.ref (caK K p.1)) (.ref (He.ga K "BadState")) = some p.2)) && (L2.xfB K (He.ga K "BadState") && (decide (PySem.W.findIn K (.ref (He.ga K "BadState")) "state" = some none) && (excB K (PySem.Challenge.rw_betweenlooks_k09_acts_and_their_operator).prog.main.file (caK K 3) (He.fAd K ("BadNumber", some "__init__")) ["number"] && ((([(1, false), (2, false), (3, true), (4, false)] : List (Nat × Bool)).all fun p => decide (PySem.W.exmOne K (.ref (caK K p.1)) (.ref (He.ga K "BadNumber")) = some p.2)) && (L2.xfB K (He.ga K "BadNumber") && (decide (PySem.W.findIn K (.ref (He.ga K "BadNumber")) "number" = some none) && (excB K (PySem.Challenge.rw_betweenlooks_k09_acts_and_their_operator).prog.main.file (caK K 4) (He.fAd K ("Uneven", some "__init__")) ["many", "most"] && ((([(1, false), (2, false), (3, false), (4, true)] : List (Nat × Bool)).all fun p => decide (PySem.W.exmOne K (.ref (caK K p.1)) (.ref (He.ga K "Uneven")) = some p.2)) && (L2.xfB K (He.ga K "Uneven") && (decide (PySem.W.findIn K (.ref (He.ga K "Uneven")) "many" = some none) && (decide (PySem.W.findIn K (.ref (He.ga K "Uneven")) "most" = some none) && ((([(1, true), (2, true), (3, true), (4, true)] : List (Nat × Bool)).all fun p => decide (PySem.W.exmOne K (.ref (caK K p.1)) (.ref (He.ga K "LooksError")) = some p.2)) && (gtiB K (He.ga K "Act") (He.fAd K ("Act", some "__getitem__")) && (prpB K ("Act", "rank") && (prpB K ("Act", "is_swap") && (prpB K ("Act", "image") && (insB K (He.ga K "Act") && (kitB' K (He.ga K "Act") (([] : List Nat).map (caK K)) && (mulB K (He.ga K "Act") (He.fAd K ("Act", some "__mul__")) && (eqB K (He.ga K "Act") (He.fAd K ("Act", some "__eq__")) && (firstB K (He.ga K "Act") (([] : List Nat).map (caK K)) && (ordB K (He.ga K "Act") (He.fAd K ("Act", some "__le__")) "__le__" && (decB K (He.ga K "Act") .GtE "object.__ge__" && (ordB K (He.ga K "Act") (He.fAd K ("Act", some "__lt__")) "__lt__" && (decB K (He.ga K "Act") .Gt "object.__gt__" && (getB K (("Act", "rank"), D_Act_rank) && (getB K (("Act", "is_swap"), D_Act_is_swap) && (getB K (("Act", "image"), D_Act_image))))))))))))))))))))))))))))))))))
abbrev R : PySem.W.OpenRow := PySem.W.OpenLaw.row PySem.Challenge.rw_betweenlooks_k09_acts_and_their_operator
def tf : List He.Defn := [("law", none)]
def ad0 : List PySem.Addr := [3, 6, 4, 21, 31, 53, 74, 95, 116, 125, 132, 137, 142, 147, 245, 256, 263, 270, 277, 282, 287, 294, 299, 0, 20, 30, 52, 73, 94, 115, 124, 131, 136, 141, 146, 244, 255, 262, 269, 276, 281, 286, 293, 298, 15, 16, 17, 18, 19, 29, 32, 50, 51, 71, 72, 92, 93, 113, 114, 119, 120, 121, 122, 123, 126, 127, 128, 129, 130, 133, 134, 135, 138, 139, 140, 143, 144, 145, 161, 168, 175, 182, 189, 196, 203, 210, 218, 226, 234, 242, 243, 246, 247, 250, 251, 252, 253, 254, 257, 258]
def ad1 : List PySem.Addr := [259, 260, 261, 264, 265, 266, 267, 268, 271, 272, 273, 274, 275, 278, 279, 280, 283, 284, 285, 288, 289, 290, 291, 292, 295, 296, 297, 49, 38, 70, 59, 91, 80, 112, 101, 160, 167, 174, 181, 188, 195, 202, 209, 217, 225, 233, 241, 44, 45, 46, 47, 48, 65, 66, 67, 68, 69, 86, 87, 88, 89, 90, 107, 108, 109, 110, 111, 155, 156, 157, 158, 159, 162, 163, 164, 165, 166, 169, 170, 171, 172, 173, 176, 177, 178, 179, 180, 183, 184, 185, 186, 187, 190, 191, 192, 193, 194, 197, 198, 199]
def ad2 : List PySem.Addr := [200, 201, 204, 205, 206, 207, 208, 216, 224, 232, 240, 2]
def ads : List PySem.Addr := ad0 ++ ad1 ++ ad2
abbrev hk : PySem.W.Hook := hookL ads fa fn tf gs ex
def ob (s : PySem.W.SharedT) : AlP := obsL ads fa fn tf gs ex (HandSHeadRun.getT s)
theorem ob_eq (s : PySem.W.SharedT) : ob s = hk.obs s.abs := obsL_eq (HandSHeadRun.getT_eq s)
def nm0 : List PySem.Str := ["_wall", "LooksError", "Uneven", "BadState", "BadAct", "BadNumber", "is_integer", "is_within", "MOST_POWER", "is_act", "led", "ascending", "Act", "_law_pen", "_law_draw", "_law_pick", "_law_refused", "_law_powers", "_law_is_act", "_law_is_compared"]
def names : List PySem.Str := nm0
theorem run (w : World) : HandSHeadRun.RunEq R (PySem.W.view R.prog [24]) hk ob 60000 names w := by
  intro os
  kernel_rfl
end LW
set_option Elab.async false
set_option linter.all false
set_option maxRecDepth 100000
set_option maxHeartbeats 4000000
namespace LW
open PySem L2 BL

def hs_refused : List Hdl := [(fun c => ([(1, true), (2, false), (3, false), (4, false)] : List (Nat × Bool)).lookup c, [.cst (.str "act"), .rpr 1 "states"]), (fun c => ([(1, false), (2, true), (3, false), (4, false)] : List (Nat × Bool)).lookup c, [.cst (.str "state"), .rpr 2 "state"]), (fun c => ([(1, false), (2, false), (3, true), (4, false)] : List (Nat × Bool)).lookup c, [.cst (.str "number"), .rpr 3 "number"]), (fun c => ([(1, false), (2, false), (3, false), (4, true)] : List (Nat × Bool)).lookup c, [.cst (.str "uneven"), .fld 4 "many", .fld 4 "most"]), (fun c => ([(1, true), (2, true), (3, true), (4, true)] : List (Nat × Bool)).lookup c, [.cst (.str "other")])]
/-- is_integer(value): slots 0:value -/
noncomputable def d_is_integer : Dst := (dRet (dAnd (dUn (fIsi isInt) (dVar 0)) (dNot (dUn (fIsi isBool) (dVar 0)))))
noncomputable def F_is_integer : Fd := runPop 1 d_is_integer
/-- is_within(value, low, high): slots 0:value 1:low 2:high -/
noncomputable def d_is_within : Dst := (dRet (dAnd (dCall [(dVar 0)] F_is_integer []) (dChain fLe fLe (dVar 1) (dVar 0) (dVar 2))))
noncomputable def F_is_within : Fd := runPop 3 d_is_within
/-- is_act(states): slots 0:states 1:state -/
noncomputable def d_is_act : Dst := (dSeq (dIf (dOr (dNot (dUn (fIsi isTup) (dVar 0))) (dBin (fEq false) (dArgs [(dVar 0)] fLen) (dC (.int 0))))
  (dRet (dC (.bl false)))
  dNext)
  (dRet (dArgs [(compRun [1] (iS (dVar 0)) (gN 1) dYes (dCall [(dVar 1), (dC (.int 0)), (dBin fSub (dArgs [(dVar 0)] fLen) (dC (.int 1)))] F_is_within []) kLst)] fAll)))
noncomputable def F_is_act : Fd := runPop 2 d_is_act
/-- Act.__init__(self, states): slots 0:self 1:states -/
noncomputable def d_Act_init : Dst := (dSeq (dIf (dNot (dCall [(dVar 1)] F_is_act []))
  (dRaise 1 ["states"] [(dVar 1)])
  dNext)
  (dSetF [0] "states" (dVar 0) (dVar 1)))
noncomputable def F_Act_init : Fd := runPop 2 d_Act_init
/-- _law_draw(_law_pen_here, _law_many): slots 0:_law_pen_here 1:_law_many 2:_law_digit 3:_law_at 4:_law_cell 5:_law_mixed -/
noncomputable def d_draw : Dst := (dSeq (dIf (dBin fGe (dBin fGet (dVar 0) (dC (.str "left"))) (dVar 1))
  (dSeq (dSet 2 (dBin fMod (dArgs [(dBin fGet (dVar 0) (dC (.str "left")))] fInt) (dVar 1)))
  (dSeq (dPut (dVar 0) (dC (.str "left")) (dBin fDiv (dBin fGet (dVar 0) (dC (.str "left"))) (dVar 1)))
  (dRet (dVar 2))))
  dNext)
  (dSeq (dSet 3 (dBin fGet (dVar 0) (dC (.str "at"))))
  (dSeq (dPut (dVar 0) (dC (.str "at")) (dBin fAdd (dVar 3) (dC (.int 1))))
  (dSeq (dSet 4 (dBin fAdd (dBin fMul (dC (.int 37)) (dVar 3)) (dC (.int 11))))
  (dSeq (dIf (dBin (fEq true) (dBin fGet (dVar 0) (dC (.str "cells"))) (dArgs [] fLstD))
  (dSet 4 (dBin fIx (dBin fGet (dVar 0) (dC (.str "cells"))) (dBin fMod (dArgs [(dVar 3)] fInt) (dArgs [(dBin fGet (dVar 0) (dC (.str "cells")))] fLen))))
  dNext)
  (dSeq (dIf (dAnd (dBin fLt (dVar 3) (dArgs [(dBin fGet (dVar 0) (dC (.str "cells")))] fLen)) (dBin fGe (dVar 4) (dBin fPow (dC (.int 10)) (dC (.int 18)))))
  (dSeq (dPut (dVar 0) (dC (.str "left")) (dBin fDiv (dBin fSub (dVar 4) (dBin fPow (dC (.int 10)) (dC (.int 18)))) (dVar 1)))
  (dRet (dBin fMod (dArgs [(dBin fSub (dVar 4) (dBin fPow (dC (.int 10)) (dC (.int 18))))] fInt) (dVar 1))))
  dNext)
  (dSeq (dSet 5 (dBin fAdd (dBin fAdd (dBin fAdd (dBin fMul (dBin fMod (dArgs [(dVar 4)] fInt) (dC (.int 2147483629))) (dC (.int 48271))) (dBin fMul (dBin fMul (dC (.int 69621)) (dVar 3)) (dVar 3))) (dBin fMul (dC (.int 53)) (dVar 3))) (dC (.int 7))))
  (dSeq (dSet 5 (dBin fMod (dArgs [(dVar 5)] fInt) (dC (.int 2147483647))))
  (dSeq (dSet 5 (dBin fMod (dArgs [(dBin fMul (dVar 5) (dBin fAdd (dVar 5) (dC (.int 40014))))] fInt) (dC (.int 2147483587))))
  (dRet (dBin fMod (dArgs [(dBin fDiv (dBin fMod (dArgs [(dBin fMul (dVar 5) (dVar 5))] fInt) (dC (.int 2147483563))) (dC (.int 64)))] fInt) (dVar 1))))))))))))
noncomputable def F_draw : Fd := runPop 6 d_draw
/-- _law_pick(_law_pen_here, _law_some): slots 0:_law_pen_here 1:_law_some -/
noncomputable def d_pick : Dst := (dRet (dBin fIx (dVar 1) (dCall [(dVar 0), (dArgs [(dVar 1)] fLen)] F_draw [])))
noncomputable def F_pick : Fd := runPop 2 d_pick
/-- led(first, second): slots 0:first 1:second 2:state -/
noncomputable def d_led : Dst := (dRet (dArgs [(compRun [2] (iS (dVar 0)) (gN 2) dYes (dBin fIx (dVar 1) (dVar 2)) kLst)] fTup))
noncomputable def F_led : Fd := runPop 3 d_led
/-- Act.times(self, number): slots 0:self 1:number 2:found 3:base 4:left -/
noncomputable def d_Act_times : Dst := (dSeq (dIf (dNot (dCall [(dVar 1), (dC (.int 0)), (dC (.int 1000000000000000000000000000000))] F_is_within []))
  (dRaise 3 ["number"] [(dVar 1)])
  dNext)
  (dSeq (dSet 2 (dUn fRgT (dArgs [(dUn (fFld [0] "states") (dVar 0))] fLen)))
  (dSeq (dSet 3 (dUn (fFld [0] "states") (dVar 0)))
  (dSeq (dSet 4 (dArgs [(dVar 1)] fInt))
  (dSeq (dWhile (dBin fGt (dVar 4) (dC (.int 0)))
  (dSeq (dIf (dBin (fEq false) (dBin fMod (dVar 4) (dC (.int 2))) (dC (.int 1)))
  (dSet 2 (dCall [(dVar 2), (dVar 3)] F_led []))
  dNext)
  (dSeq (dSet 3 (dCall [(dVar 3), (dVar 3)] F_led []))
  (dSet 4 (dBin fDiv (dVar 4) (dC (.int 2)))))))
  (dRet (dMake 0 [(dVar 2)] F_Act_init [])))))))
noncomputable def F_Act_times : Fd := runPop 5 d_Act_times
/-- Act.__getitem__(self, state): slots 0:self 1:state -/
noncomputable def d_Act_getitem : Dst := (dSeq (dIf (dNot (dCall [(dVar 1), (dC (.int 0)), (dBin fSub (dArgs [(dUn (fFld [0] "states") (dVar 0))] fLen) (dC (.int 1)))] F_is_within []))
  (dRaise 2 ["state"] [(dVar 1)])
  dNext)
  (dRet (dBin fIx (dUn (fFld [0] "states") (dVar 0)) (dVar 1))))
noncomputable def F_Act_getitem : Fd := runPop 2 d_Act_getitem
/-- Act.rank(self): slots 0:self -/
noncomputable def d_Act_rank : Dst := (dRet (dArgs [(dUn (fFld [0] "states") (dVar 0))] fLenKt))
noncomputable def F_Act_rank : Fd := runPop 1 d_Act_rank
/-- Act.is_swap(self): slots 0:self -/
noncomputable def d_Act_is_swap : Dst := (dRet (dBin (fEq false) (dUn (fProp 0 F_Act_rank) (dVar 0)) (dArgs [(dUn (fFld [0] "states") (dVar 0))] fLen)))
noncomputable def F_Act_is_swap : Fd := runPop 1 d_Act_is_swap
/-- ascending(states): slots 0:states 1:seen 2:state -/
noncomputable def d_ascending : Dst := (dSeq (dSet 1 (dcRunK [2] (iS (dVar 0)) (gN 2) (dVar 2) (dC (.bl true))))
  (dRet (dArgs [(dArgs [(compRun [2] (iFd (dFz (dVar 1))) (gN 2) dYes (dArgs [(dVar 2)] fInt) kLst)] fSorted)] fTup)))
noncomputable def F_ascending : Fd := runPop 3 d_ascending
/-- Act.image(self): slots 0:self -/
noncomputable def d_Act_image : Dst := (dRet (dCall [(dUn (fFld [0] "states") (dVar 0))] F_ascending []))
noncomputable def F_Act_image : Fd := runPop 1 d_Act_image
/-- _law_is_act(_law_act, _law_a): slots 0:_law_act 1:_law_a 2:_law_image 3:_law_k -/
noncomputable def d_l_is_act : Dst := (dSeq (dSet 2 (dArgs [(compRun [3] (iR1 (dArgs [(dVar 1)] fLen)) (gN 3) (dBin (fIn false) (dVar 3) (dVar 1)) (dVar 3) kLst)] fTup))
  (dSeq (dIf (dOr (dBin (fEq true) (dUn (fFld [0] "states") (dVar 0)) (dVar 1)) (dOr (dBin (fEq true) (dUn (fProp 0 F_Act_image) (dVar 0)) (dVar 2)) (dBin (fEq true) (dUn (fProp 0 F_Act_rank) (dVar 0)) (dArgs [(dVar 2)] fLen))))
  (dRet (dC (.bl false)))
  dNext)
  (dSeq (dIf (dOr (dBin (fEq true) (dUn (fProp 0 F_Act_is_swap) (dVar 0)) (dBin (fEq false) (dArgs [(dVar 2)] fLen) (dArgs [(dVar 1)] fLen))) (dBin (fIn true) (dUn (fProp 0 F_Act_is_swap) (dVar 0)) (dArgs [(dC (.bl true)), (dC (.bl false))] fLstD)))
  (dRet (dC (.bl false)))
  dNext)
  (dRet (dBin (fEq false) (compRun [3] (iR1 (dArgs [(dVar 1)] fLen)) (gN 3) dYes (dBin (fGetO 0 F_Act_getitem) (dVar 0) (dVar 3)) kLst) (dArgs [(dVar 1)] fLst))))))
noncomputable def F_l_is_act : Fd := runPop 4 d_l_is_act
/-- _law_powers(_law_a, _law_many): slots 0:_law_a 1:_law_many 2:_law_found 3:_law_k -/
noncomputable def d_powers : Dst := (dSeq (dSet 2 (dArgs [(dUn fRgT (dArgs [(dVar 0)] fLen))] fLstDL))
  (dSeq (dWhile (dBin fLt (dArgs [(dVar 2)] fLen) (dVar 1))
  (dDrop (dBm isL fApp (dVar 2) [(dArgs [(compRun [3] (iS (dBin fIx (dVar 2) (dUn fNeg (dC (.int 1))))) (gN 3) dYes (dBin fIx (dVar 0) (dVar 3)) kLst)] fTup)])))
  (dRet (dVar 2))))
noncomputable def F_powers : Fd := runPop 4 d_powers
/-- Act.__mul__(self, other): slots 0:self 1:other -/
noncomputable def d_Act_mul : Dst := (dSeq (dIf (dNot (dUn (fIsi (isOwn 0 [])) (dVar 1)))
  dStuck
  dNext)
  (dSeq (dIf (dBin (fEq true) (dArgs [(dUn (fFld [0] "states") (dVar 0))] fLen) (dArgs [(dUn (fFld [0] "states") (dVar 1))] fLen))
  (dRaise 4 ["many", "most"] [(dArgs [(dUn (fFld [0] "states") (dVar 0))] fLen), (dArgs [(dUn (fFld [0] "states") (dVar 1))] fLen)])
  dNext)
  (dRet (dMake 0 [(dCall [(dUn (fFld [0] "states") (dVar 0)), (dUn (fFld [0] "states") (dVar 1))] F_led [])] F_Act_init []))))
noncomputable def F_Act_mul : Fd := runPop 2 d_Act_mul
/-- Act.__eq__(self, other): slots 0:self 1:other -/
noncomputable def d_Act_eq : Dst := (dSeq (dIf (dNot (dUn (fIsi (isOwn 0 [])) (dVar 1)))
  (dRet (dC (.bl false)))
  dNext)
  (dRet (dBin (fEq false) (dUn (fFld [0] "states") (dVar 0)) (dUn (fFld [0] "states") (dVar 1)))))
noncomputable def F_Act_eq : Fd := runPop 2 d_Act_eq
/-- Act.__le__(self, other): slots 0:self 1:other -/
noncomputable def d_Act_le : Dst := (dSeq (dIf (dNot (dUn (fIsi (isOwn 0 [])) (dVar 1)))
  dStuck
  dNext)
  (dRet (dBin (fCmT .le) (dUn (fFld [0] "states") (dVar 0)) (dUn (fFld [0] "states") (dVar 1)))))
noncomputable def F_Act_le : Fd := runPop 2 d_Act_le
/-- Act.__lt__(self, other): slots 0:self 1:other -/
noncomputable def d_Act_lt : Dst := (dSeq (dIf (dNot (dUn (fIsi (isOwn 0 [])) (dVar 1)))
  dStuck
  dNext)
  (dRet (dBin (fCmT .lt) (dUn (fFld [0] "states") (dVar 0)) (dUn (fFld [0] "states") (dVar 1)))))
noncomputable def F_Act_lt : Fd := runPop 2 d_Act_lt
/-- _law_is_compared(_law_one, _law_other, _law_a, _law_b): slots 0:_law_one 1:_law_other 2:_law_a 3:_law_b 4:_law_told -/
noncomputable def d_is_compared : Dst := (dSeq (dSet 4 (dArgs [(dBin (fEqO 0 [] false F_Act_eq) (dVar 0) (dVar 1)), (dBin (fEqO 0 [] true F_Act_eq) (dVar 0) (dVar 1)), (dBin (fEqO 0 [] false F_Act_lt) (dVar 0) (dVar 1)), (dBin (fEqO 0 [] false F_Act_le) (dVar 0) (dVar 1)), (dBin (fGtO 0 F_Act_lt) (dVar 0) (dVar 1)), (dBin (fGtO 0 F_Act_le) (dVar 0) (dVar 1))] fLstD))
  (dSeq (dIf (dBin (fEq true) (dVar 4) (dArgs [(dBin (fEq false) (dVar 2) (dVar 3)), (dBin (fEq true) (dVar 2) (dVar 3)), (dBin (fCmT .lt) (dVar 2) (dVar 3)), (dBin (fCmT .le) (dVar 2) (dVar 3)), (dBin (fCmT .gt) (dVar 2) (dVar 3)), (dBin (fCmT .ge) (dVar 2) (dVar 3))] fLstD))
  (dRet (dC (.bl false)))
  dNext)
  (dRet (dAnd (dNot (dBin (fEqO 0 [] false F_Act_eq) (dVar 0) (dVar 2))) (dAnd (dBin (fEqO 0 [] true F_Act_eq) (dVar 0) (dVar 3)) (dAnd (dNot (dBin (fEqO 0 [] false F_Act_eq) (dVar 0) (dArgs [(dVar 2)] fLst))) (dNot (dBin (fEqO 0 [] false F_Act_eq) (dVar 0) (dC .non)))))))))
noncomputable def F_is_compared : Fd := runPop 5 d_is_compared
/-- _law_pen(_law_script): slots 0:_law_script -/
noncomputable def d_pen : Dst := (dRet (dDisp ["cells", "at", "left"] [(dArgs [(dSl (dVar 0) none (some (dC (.int 63))))] fLst), (dC (.int 0)), (dC (.int 0))]))
noncomputable def F_pen : Fd := runKeep 1 d_pen
/-- law(_law_script): slots 0:_law_script 1:_law_pen_here 2:_law_turn 3:_law_many 4:_law_a 5:_law_more 6:_law_b 7:_law_one 8:_law_other 9:_law_powers_here 10:_law_odd 11:_law_k 12:_law_n -/
noncomputable def d_law : Dst := (dSeq (dSet 1 (dCall [(dVar 0)] F_pen []))
  (dSeq (dFor (iR1 (dBin fAdd (dC (.int 5)) (dArgs [(dC (.int 5)), (dArgs [(dVar 0)] fLen)] fMin))) (gN 2)
  (dSeq (dSet 3 (dBin fAdd (dC (.int 1)) (dCall [(dVar 1), (dC (.int 8))] F_draw [])))
  (dSeq (dSet 4 (dArgs [(compRun [11] (iR1 (dVar 3)) (gN 11) dYes (dCall [(dVar 1), (dVar 3)] F_draw []) kLst)] fTup))
  (dSeq (dSet 5 (dIte (dBin fGt (dCall [(dVar 1), (dC (.int 4))] F_draw []) (dC (.int 0))) (dVar 3) (dBin fAdd (dC (.int 1)) (dCall [(dVar 1), (dC (.int 8))] F_draw []))))
  (dSeq (dSet 6 (dIte (dBin fGt (dCall [(dVar 1), (dC (.int 6))] F_draw []) (dC (.int 0))) (dArgs [(compRun [11] (iR1 (dVar 5)) (gN 11) dYes (dCall [(dVar 1), (dVar 5)] F_draw []) kLst)] fTup) (dVar 4)))
  (dSeq (dPar 7 8 (dMake 0 [(dVar 4)] F_Act_init []) (dMake 0 [(dVar 6)] F_Act_init []))
  (dSeq (dIf (dOr (dNot (dCall [(dVar 7), (dVar 4)] F_l_is_act [])) (dOr (dNot (dCall [(dVar 8), (dVar 6)] F_l_is_act [])) (dNot (dCall [(dVar 7), (dVar 8), (dVar 4), (dVar 6)] F_is_compared []))))
  (dRet (dC (.bl false)))
  dNext)
  (dSeq (dIf (dBin (fEq false) (dArgs [(dVar 4)] fLen) (dArgs [(dVar 6)] fLen))
  (dIf (dNot (dCall [(dBin (fMulO 0 F_Act_mul) (dVar 7) (dVar 8)), (dArgs [(compRun [11] (iS (dVar 4)) (gN 11) dYes (dBin fIx (dVar 6) (dVar 11)) kLst)] fTup)] F_l_is_act []))
  (dRet (dC (.bl false)))
  dNext)
  (dIf (dBin (fEq true) (dFault hs_refused (dBin (fMulO 0 F_Act_mul) (dVar 7) (dVar 8))) (dArgs [(dC (.str "uneven")), (dArgs [(dVar 4)] fLen), (dArgs [(dVar 6)] fLen)] fTupD))
  (dRet (dC (.bl false)))
  dNext))
  (dSeq (dSet 9 (dCall [(dVar 4), (dC (.int 12))] F_powers []))
  (dSeq (dIf (dOr (dBin (fEq true) (compRun [12] (iR1 (dC (.int 12))) (gN 12) dYes (dUn (fFld [0] "states") (dMeth 0 "times" (dVar 7) [(dVar 12)] F_Act_times [])) kLst) (dVar 9)) (dNot (dCall [(dVar 7), (dVar 4)] F_l_is_act [])))
  (dRet (dC (.bl false)))
  dNext)
  (dSeq (dSet 10 (dCall [(dVar 1), (dArgs [(dUn fNeg (dC (.int 1))), (dVar 3), (dC (.bl true)), (dC .non), (dC (.str "0")), (dBin fPow (dC (.int 10)) (dC (.int 30)))] fLstD)] F_pick []))
  (dSeq (dIf (dBin (fEq true) (dFault hs_refused (dBin (fGetX 0 F_Act_getitem) (dVar 7) (dVar 10))) (dArgs [(dC (.str "state")), (dArgs [(dVar 10)] fRepr)] fTupD))
  (dRet (dC (.bl false)))
  dNext)
  (dSeq (dSet 10 (dCall [(dVar 1), (dArgs [(dUn fNeg (dC (.int 1))), (dBin fAdd (dBin fPow (dC (.int 10)) (dC (.int 30))) (dC (.int 1))), (dC (.bl true)), (dC .non), (dC (.str "2")), (dArgs [(dC (.int 1))] fTupD)] fLstD)] F_pick []))
  (dSeq (dIf (dBin (fEq true) (dFault hs_refused (dMeth 0 "times" (dVar 7) [(dVar 10)] F_Act_times [])) (dArgs [(dC (.str "number")), (dArgs [(dVar 10)] fRepr)] fTupD))
  (dRet (dC (.bl false)))
  dNext)
  (dSeq (dSet 10 (dCall [(dVar 1), (dArgs [(dArgs [] fTupD), (dArgs [(dC (.int 0))] fLstD), (dArgs [(dC (.int 1))] fTupD), (dArgs [(dC (.int 0)), (dC (.int 2))] fTupD), (dArgs [(dC (.bl true))] fTupD), (dC (.str "0")), (dC .non), (dArgs [(dUn fNeg (dC (.int 1))), (dC (.int 0))] fTupD), (dArgs [(dC (.str "0"))] fTupD), (dArgs [(dVar 4)] fLst), (dBin fAdd (dVar 4) (dArgs [(dBin fAdd (dVar 3) (dC (.int 1)))] fTupD)), (dC (.int 0)), (dArgs [(dC (.bl false))] fTupD), (dArgs [(dC (.int 0)), (dC (.bl true))] fTupD)] fLstD)] F_pick []))
  (dIf (dBin (fEq true) (dFault hs_refused (dMake 0 [(dVar 10)] F_Act_init [])) (dArgs [(dC (.str "act")), (dArgs [(dVar 10)] fRepr)] fTupD))
  (dRet (dC (.bl false)))
  dNext))))))))))))))))
  (dRet (dC (.bl true)))))
noncomputable def F_law : Fd := runPop 13 d_law
end LW

set_option Elab.async false
set_option linter.all false
set_option maxRecDepth 100000
set_option maxHeartbeats 4000000
namespace LW
open PySem L2 BL
local macro_rules | `(tactic| walk_at "st") => `(tactic| repeat (first
  | with_reducible apply s_seq | ((with_reducible apply s_set'); (intro x; simp only [List.set_cons_succ, List.set_cons_zero]; exact rfl)) | with_reducible apply s_set | with_reducible apply s_ret | with_reducible apply s_retN | with_reducible apply s_drop | ((with_reducible apply s_par'); (intro x y; simp only [List.set_cons_succ, List.set_cons_zero]; exact rfl)) | ((with_reducible apply s_par3'); (intro x y z; simp only [setsE, List.set_cons_succ, List.set_cons_zero]; exact rfl)) | ((with_reducible apply s_par4'); (intro x y z w; simp only [setsE, List.set_cons_succ, List.set_cons_zero]; exact rfl)) | ((with_reducible apply s_par5'); (intro x y z w v; simp only [setsE, List.set_cons_succ, List.set_cons_zero]; exact rfl)) | with_reducible apply s_par | with_reducible apply s_put | with_reducible apply s_setF | with_reducible apply s_setL | with_reducible apply s_next | with_reducible apply s_for
  | with_reducible apply e_C | with_reducible apply e_bin | with_reducible apply e_un | with_reducible apply e_not | with_reducible apply e_and | with_reducible apply e_or | with_reducible apply e_ite | with_reducible apply e_chain
  | with_reducible apply e_call1 | with_reducible apply e_call2 | with_reducible apply e_call3 | with_reducible apply e_call4 | with_reducible apply e_args0 | with_reducible apply e_args1 | with_reducible apply e_args2 | with_reducible apply e_args3 | with_reducible apply e_args4 | with_reducible apply e_argsC
  | with_reducible apply e_sl0 | with_reducible apply e_sl1 | ((with_reducible apply e_comp'); (simp only [wipeE, List.set_cons_succ, List.set_cons_zero]; exact rfl)) | with_reducible apply e_comp | with_reducible apply i_R1 | with_reducible apply i_S' | with_reducible apply i_En' | with_reducible apply i_Str
  | ((with_reducible apply e_var); (first | exact rfl | assumption))
  | with_reducible apply f_addI | with_reducible apply f_sub | with_reducible apply f_cmp | with_reducible apply f_int | with_reducible apply f_eqI | with_reducible apply f_neI | with_reducible apply f_lenT | with_reducible apply f_lenL | with_reducible apply f_lenF | with_reducible apply e_met | with_reducible apply e_metA | with_reducible apply e_metL | with_reducible apply f_abs
  | with_reducible apply t_T | with_reducible apply t_F
  | with_reducible apply f_neg | with_reducible apply f_nnT | with_reducible apply f_nnF | with_reducible apply f_nonI | with_reducible apply s_raise1 | with_reducible apply s_raise2 | with_reducible apply s_raise3 | ((with_reducible apply f_fld); (exact rfl); (exact rfl)) | ((with_reducible apply f_fldL); (first | exact gNew | assumption); (exact rfl); (exact rfl))
  | ((with_reducible apply f_tupD); (exact rfl); (exact of_decide_eq_true rfl))
  | ((with_reducible apply f_get); (first | exact rfl | exact dkL (by assumption) | exact dkL (gSet (by assumption)) | exact dkL (gSet (gSet (by assumption)))); (exact rfl); (exact rfl))
  | ((with_reducible apply f_mul); (first | exact mulOkL (by decide) (by decide) | exact mulOkR (by decide) (by decide) | exact mulOkL (by omega) (by omega) | exact mulOkR (by omega) (by omega)))
  | ((with_reducible apply f_mod); (first | assumption | decide | omega))
  | ((with_reducible apply f_div); (first | assumption | decide | omega); (first | assumption | decide | omega))
  | ((with_reducible apply f_pow); (exact ⟨by decide, by decide, by decide⟩))
  | ((with_reducible apply f_isi); (exact rfl); (exact rfl))
  | ((with_reducible apply f_lstD); (exact rfl); (exact of_decide_eq_true rfl))
  | ((with_reducible apply putP); (first | assumption | exact gSet (by assumption) | exact gSet (gSet (by assumption))); (exact rfl); (exact rfl); (first | decide | (focus (simp; done))))))
local macro_rules | `(tactic| walk_at "go") => `(tactic| ((first | apply r_pop' | apply r_keep'); (simp only [startE, List.map_cons, List.map_nil, List.length_cons, List.length_nil, Nat.reduceAdd, Nat.reduceSub, List.replicate_succ, List.replicate_zero, List.cons_append, List.nil_append]; exact rfl)))
local macro_rules | `(tactic| walk_at "cl") => `(tactic| (first | exact Cl.refl | exact Cl.app | assumption | exact Pen.cl (by assumption) (by assumption)))


/-! ### the pen -/
def penO (cs : List Int) (a l : Int) : O := .dk [(.inr "cells", .t (.lst (cs.map T.int))), (.inr "at", .t (.int a)), (.inr "left", .t (.int l))]
/-- a pen at p, at most k draws were made -/
def Pen (p : Nat) (k : Int) (G : Hs) : Prop := ∃ cs a l, G[p]? = some (penO cs a l) ∧ 0 ≤ a ∧ a ≤ k
theorem Pen.mono {p : Nat} {k k' : Int} {G : Hs} (h : Pen p k G) (hk : k ≤ k') : Pen p k' G := by
  obtain ⟨cs, a, l, h1, h2, h3⟩ := h
  exact ⟨cs, a, l, h1, h2, by omega⟩
theorem Pen.app {p : Nat} {k : Int} {G H : Hs} (h : Pen p k G) : Pen p k (G ++ H) := by
  obtain ⟨cs, a, l, h1, h2, h3⟩ := h
  exact ⟨cs, a, l, gApp h1, h2, h3⟩
theorem Pen.lt {p : Nat} {k : Int} {G : Hs} (h : Pen p k G) : p < G.length := by
  obtain ⟨cs, a, l, h1, h2, h3⟩ := h
  exact gLt h1
theorem Cl.fr {p : Nat} {o : O} {G G' : Hs} (hf : Fr p G G') (h : G'[p]? = some o) (ho : ∀ n, oB n o) : Cl G G' := fun i _ => by
  by_cases q : i = p
  · subst q; exact .inr ⟨o, h, ho _⟩
  · exact .inl (hf.2 i q)
theorem penB {cs : List Int} {a l : Int} (n : Nat) : oB n (penO cs a l) := by
  intro d hd
  simp at hd
  rcases hd with rfl | rfl | rfl <;> trivial
theorem Pen.cl {p : Nat} {k : Int} {G G' : Hs} (hf : Fr p G G') (hp : Pen p k G') : Cl G G' := by
  obtain ⟨cs, a, l, h, _, _⟩ := hp
  exact Cl.fr hf h penB
section
variable {Q : D → Hs → Prop} {E : XP} {G : Hs}
theorem draw_spec {p : Nat} {k m : Int} (hp : Pen p k G) (hm : 0 < m) (hm2 : m < 1030741824) (hk : k < 4611686018423087904) (hq : ∀ v G', 0 ≤ v → v < m → Pen p (k + 1) G' → Fr p G G' → Q (.t (.int v)) G') : Wp (F_draw [.loc p, .t (.int m)] G) Q E := by
  refine ?G
  exact (by (intro h; exact h) : have h : (type_of% ?G) := (by
  obtain ⟨cs, a, l, hg, h0, h1⟩ := hp
  unfold F_draw d_draw
  walk_at "go"
  unfold penO at hg
  walk_at "st"
  apply s_if
  walk_at "st"
  refine t_dec (fun hl => ?_) (fun hl => ?_)
  · walk_at "st"
    refine p_ret (Nat.le_of_eq List.length_set) ?_ (Cl.fr Fr.set (gSet hg) penB)
    refine hq _ _ (Int.emod_nonneg _ (by omega)) (Int.emod_lt_of_pos _ hm) ⟨cs, a, l / m, gSet hg, h0, by omega⟩ Fr.set
  · walk_at "st"
    refine s_cut (fun r' G' => ∃ c : Int, r' = [some (.loc p), some (.t (.int m)), none, some (.t (.int a)), some (.t (.int c)), none] ∧ G' = G.set p (penO cs (a + 1) l)) ?_ ?_
    · apply s_if
      walk_at "st"
      refine f_eqT rfl rfl (noB_ints cs) rfl (by show deps _ + 1 ≤ 64; rw [dep_ints]; decide) (fun t ht => ?_)
      simp only [if_true] at ht
      refine t_bl (fun h => ?_) (fun h => ?_)
      · rw [ht] at h
        have hc : 0 < (cs.length : Int) := by
          cases cs with
          | nil => exact absurd rfl h
          | cons _ _ => simp
        walk_at "st"
        refine f_len rfl ?_
        refine f_mod ?_ ?_
        · simpa using hc
        have h2 : (0 : Int) ≤ a % cs.length := Int.emod_nonneg _ (by omega)
        have h3 : a % cs.length < cs.length := Int.emod_lt_of_pos _ hc
        obtain ⟨x, hx, hx2⟩ := atI_ok (xs := (cs.map T.int).map D.t) (i := a % (cs.length : Int)) (by simpa using h2) (by simpa using h3)
        refine f_ix (d := x) rfl (by simpa using hx2) ?_
        have : x ∈ (cs.map T.int).map D.t := List.mem_of_getElem? hx
        simp only [List.map_map, List.mem_map] at this
        obtain ⟨c, _, rfl⟩ := this
        exact ⟨c, rfl, rfl⟩
      · walk_at "st"
        exact ⟨_, rfl, rfl⟩
    · rintro r' G' ⟨c, rfl, rfl⟩
      have hg' : (G.set p (penO cs (a + 1) l))[p]? = some (penO cs (a + 1) l) := gSet hg
      generalize hG : G.set p (penO cs (a + 1) l) = G1 at hg' ⊢
      have hl1 : G1.length = G.length := by rw [← hG]; simp
      have hf1 : Fr p G G1 := by rw [← hG]; exact Fr.set
      unfold penO at hg'
      refine s_seq ?_
      refine s_cut (fun r' G' => r' = [some (.loc p), some (.t (.int m)), none, some (.t (.int a)), some (.t (.int c)), none] ∧ G' = G1) ?_ ?_
      · apply s_if
        walk_at "st"
        refine t_dec (fun h => ?_) (fun h => ?_)
        · walk_at "st"
          refine t_dec (fun h => ?_) (fun h => ?_)
          · walk_at "st"
            refine p_ret (Nat.le_of_eq (List.length_set.trans hl1)) ?_ (Cl.fr (hf1.trans Fr.set) (gSet hg') penB)
            exact hq _ _ (Int.emod_nonneg _ (by omega)) (Int.emod_lt_of_pos _ hm) ⟨cs, a + 1, _, gSet hg', by omega, by omega⟩ (hf1.trans Fr.set)
          · walk_at "st"
            exact ⟨rfl, rfl⟩
        · refine t_bl (fun h' => ?_) (fun h' => ?_)
          · exact absurd (by simpa using h') h
          · walk_at "st"
            exact ⟨rfl, rfl⟩
      · rintro r' G' ⟨rfl, rfl⟩
        walk_at "st"
        refine p_ret (Nat.le_of_eq hl1) ?_ (Cl.fr hf1 hg' penB)
        exact hq _ _ (Int.emod_nonneg _ (by omega)) (Int.emod_lt_of_pos _ hm) ⟨cs, a + 1, l, hg', by omega, by omega⟩ hf1
 ); type_of% ?G)
/-- a comprehension that draws -/
theorem c_draws {r : Ev} {elt : De} {ds : List D} {i p : Nat} {k c : Int} {kp : Kp} {K : List D → Hs → Prop} (P : T → Prop) (hpen : Pen p k G) (hkp : ∀ G', Fr p G G' → kpOk kp G')
    (hs : ∀ (j : Nat) d (G' : Hs), ds[j]? = some d → Pen p (k + c * j) G' → Fr p G G' → Wp (elt (r.set i (some d)) G') (fun d G2 => ∃ t, d = .t t ∧ P t ∧ Pen p (k + c * j + c) G2 ∧ Fr p G' G2) (fun _ _ _ _ => False))
    (he : ∀ (ts : List T) G', ts.length = ds.length → (∀ t ∈ ts, P t) → Pen p (k + c * ds.length) G' → Fr p G G' → K (ts.map D.t) G') : Wc (compLoop (gN i) dYes elt kp r (ds.map Im.one) [] G) K := by
  refine ?G
  exact (by (intro h; exact h) : have h : (type_of% ?G) := (by
  refine c_loop (fun j acc G' => ∃ ts : List T, acc = ts.map D.t ∧ ts.length = j ∧ (∀ t ∈ ts, P t) ∧ Pen p (k + c * j) G' ∧ Fr p G G') ⟨[], rfl, rfl, by simp, by simpa using hpen, Fr.refl⟩ (fun _ _ _ h => by obtain ⟨ts, _, _, _, _, h⟩ := h; exact hkp _ h) (fun j acc G' d hd hI => ?_) (fun acc G' hI => ?_)
  · obtain ⟨ts, rfl, hl, hP, hp', hf⟩ := hI
    refine e_cut _ (hs j d G' hd hp' hf) (fun x G2 h => ?_)
    obtain ⟨t, rfl, ht, hp2, hf2⟩ := h
    refine ⟨ts ++ [t], by simp, by simp [hl], ?_, ?_, hf.trans hf2⟩
    · intro u hu
      rcases List.mem_append.mp hu with hu | hu
      · exact hP u hu
      · simp at hu; subst hu; exact ht
    · have e : k + c * ((j + 1 : Nat) : Int) = k + c * j + c := by push_cast; rw [Int.mul_add]; omega
      rw [e]; exact hp2
  · obtain ⟨ts, rfl, hl, hP, hp', hf⟩ := hI
    exact he ts G' hl hP hp' hf
 ); type_of% ?G)
end

end LW

set_option Elab.async false
set_option linter.all false
set_option maxRecDepth 100000
set_option maxHeartbeats 4000000
namespace LW
open PySem L2 BL
local macro_rules | `(tactic| walk_at "st") => `(tactic| repeat (first
  | with_reducible apply s_seq | ((with_reducible apply s_set'); (intro x; simp only [List.set_cons_succ, List.set_cons_zero]; exact rfl)) | with_reducible apply s_set | with_reducible apply s_ret | with_reducible apply s_retN | with_reducible apply s_drop | ((with_reducible apply s_par'); (intro x y; simp only [List.set_cons_succ, List.set_cons_zero]; exact rfl)) | ((with_reducible apply s_par3'); (intro x y z; simp only [setsE, List.set_cons_succ, List.set_cons_zero]; exact rfl)) | ((with_reducible apply s_par4'); (intro x y z w; simp only [setsE, List.set_cons_succ, List.set_cons_zero]; exact rfl)) | ((with_reducible apply s_par5'); (intro x y z w v; simp only [setsE, List.set_cons_succ, List.set_cons_zero]; exact rfl)) | with_reducible apply s_par | with_reducible apply s_put | with_reducible apply s_setF | with_reducible apply s_setL | with_reducible apply s_next | with_reducible apply s_for
  | with_reducible apply e_C | with_reducible apply e_bin | with_reducible apply e_un | with_reducible apply e_not | with_reducible apply e_and | with_reducible apply e_or | with_reducible apply e_ite | with_reducible apply e_chain
  | with_reducible apply e_call1 | with_reducible apply e_call2 | with_reducible apply e_call3 | with_reducible apply e_call4 | with_reducible apply e_args0 | with_reducible apply e_args1 | with_reducible apply e_args2 | with_reducible apply e_args3 | with_reducible apply e_args4 | with_reducible apply e_argsC
  | with_reducible apply e_sl0 | with_reducible apply e_sl1 | ((with_reducible apply e_comp'); (simp only [wipeE, List.set_cons_succ, List.set_cons_zero]; exact rfl)) | with_reducible apply e_comp | with_reducible apply i_R1 | with_reducible apply i_S' | with_reducible apply i_En' | with_reducible apply i_Str
  | ((with_reducible apply e_var); (first | exact rfl | assumption))
  | with_reducible apply f_addI | with_reducible apply f_sub | with_reducible apply f_cmp | with_reducible apply f_int | with_reducible apply f_eqI | with_reducible apply f_neI | with_reducible apply f_lenT | with_reducible apply f_lenL | with_reducible apply f_lenF | with_reducible apply o_deeds | with_reducible apply o_rows | with_reducible apply o_tells | with_reducible apply o_start | with_reducible apply e_disp1 | with_reducible apply e_met | with_reducible apply e_metA | with_reducible apply e_metL | with_reducible apply f_abs
  | with_reducible apply t_T | with_reducible apply t_F
  | with_reducible apply f_neg | with_reducible apply f_nnT | with_reducible apply f_nnF | with_reducible apply f_nonI | with_reducible apply s_raise1 | with_reducible apply s_raise2 | with_reducible apply s_raise3 | ((with_reducible apply f_fld); (exact rfl); (exact rfl)) | ((with_reducible apply f_fldL); (first | exact gNew | assumption); (exact rfl); (exact rfl))
  | ((with_reducible apply f_tupD); (exact rfl); (exact of_decide_eq_true rfl))
  | ((with_reducible apply f_get); (first | exact rfl | exact dkL (by assumption) | exact dkL (gSet (by assumption)) | exact dkL (gSet (gSet (by assumption)))); (exact rfl); (exact rfl))
  | ((with_reducible apply f_mul); (first | exact mulOkL (by decide) (by decide) | exact mulOkR (by decide) (by decide) | exact mulOkL (by omega) (by omega) | exact mulOkR (by omega) (by omega)))
  | ((with_reducible apply f_mod); (first | assumption | decide | omega))
  | ((with_reducible apply f_div); (first | assumption | decide | omega); (first | assumption | decide | omega))
  | ((with_reducible apply f_pow); (exact ⟨by decide, by decide, by decide⟩))
  | ((with_reducible apply f_isi); (exact rfl); (exact rfl))
  | ((with_reducible apply f_lstD); (exact rfl); (exact of_decide_eq_true rfl))
  | ((with_reducible apply putP); (first | assumption | exact gSet (by assumption) | exact gSet (gSet (by assumption))); (exact rfl); (exact rfl); (first | decide | (focus (simp; done))))))
local macro_rules | `(tactic| walk_at "go") => `(tactic| ((first | apply r_pop' | apply r_keep' | apply r_dp'); (simp only [startE, List.map_cons, List.map_nil, List.length_cons, List.length_nil, Nat.reduceAdd, Nat.reduceSub, List.replicate_succ, List.replicate_zero, List.cons_append, List.nil_append]; exact rfl)))
local macro_rules | `(tactic| walk_at "cl") => `(tactic| (first | exact Cl.refl | exact Cl.app | assumption | exact Pen.cl (by assumption) (by assumption)))


/-! ### a map taken again and again -/
def it (f : Nat → Nat) : Nat → Nat → Nat
  | 0, s => s
  | k + 1, s => f (it f k s)
section
variable {f : Nat → Nat} {n s t p i j : Nat}
theorem it_add (a : Nat) : ∀ b, it f (a + b) s = it f b (it f a s)
  | 0 => rfl
  | b + 1 => by
    show f (it f (a + b) s) = f (it f b (it f a s))
    rw [it_add a b]
theorem it_lt (hf : ∀ s, s < n → f s < n) (hs : s < n) : ∀ k, it f k s < n
  | 0 => hs
  | k + 1 => hf _ (it_lt hf hs k)
end
/-- a map on the numbers below n, as a list -/
def pl (n : Nat) (a : Nat → Nat) : List Nat := (List.range n).map a
theorem plq_iff {n : Nat} {a b : Nat → Nat} : pl n a = pl n b ↔ ∀ s, s < n → a s = b s := by
  unfold pl
  rw [List.map_inj_left]
  exact ⟨fun h s hs => h s (List.mem_range.mpr hs), fun h s hs => h s (List.mem_range.mp hs)⟩
theorem pl_len {n : Nat} {a : Nat → Nat} : (pl n a).length = n := by unfold pl; simp
theorem pl_at {n : Nat} {a : Nat → Nat} {s : Nat} (h : s < n) : (pl n a)[s]? = some (a s) := by unfold pl; rw [List.getElem?_map, List.getElem?_range h]; rfl
theorem pl_self {l : List Nat} : pl l.length (fun s => l.getD s 0) = l := by
  apply List.ext_getElem?
  intro i
  by_cases h : i < l.length
  · rw [pl_at h, List.getD_eq_getElem?_getD, List.getElem?_eq_getElem h]; rfl
  · rw [List.getElem?_eq_none (by rw [pl_len]; omega), List.getElem?_eq_none (by omega)]
def nI (n : Nat) : T := .int (n : Int)
abbrev nD (n : Nat) : D := .t (nI n)
theorem Cl.last {G : Hs} {o o' : O} (ho : ∀ n, oB n o') : Cl (G ++ [o]) (G ++ [o']) := fun i hi => by
  rw [List.length_append] at hi
  by_cases q : i < G.length
  · exact .inl (by rw [List.getElem?_append_left q, List.getElem?_append_left q])
  · have : i = G.length := by simp at hi; omega
    subst this
    exact .inr ⟨o', gNew, ho _⟩
theorem insB {c : Nat} {fs : List (Str × D)} {ts : List T} (h : fs.map (·.2) = ts.map D.t) (n : Nat) : oB n (.ins c fs) := by
  intro d hd
  rw [h] at hd
  obtain ⟨t, _, rfl⟩ := List.mem_map.mp hd
  trivial
theorem takeAll {G : Hs} {o o' : O} : (G ++ [o]).take (G ++ [o']).length = G ++ [o] := List.take_of_length_le (by rw [List.length_append, List.length_append]; exact Nat.le_refl _)
section
variable {Q : D → Hs → Prop} {E : XP} {G : Hs} {r : Ev}
theorem c_mapA {α : Type} {i : Nat} {elt : De} {kp : Kp} {xs : List α} {g f : α → D} {K : List D → Hs → Prop} (hk : kpOk kp G)
    (hs : ∀ (j : Nat) (a : α), xs[j]? = some a → ∀ Q' : D → Hs → Prop, Q' (f a) G → Wp (elt (r.set i (some (g a))) G) Q' (fun _ _ _ _ => False)) (he : K (xs.map f) G) :
    Wc (compLoop (gN i) dYes elt kp r ((xs.map g).map Im.one) [] G) K := by
  refine ?G
  exact (by (intro h; exact h) : have h : (type_of% ?G) := (by
  refine c_loop (fun j acc G' => acc = (xs.take j).map f ∧ G' = G) ⟨by simp, rfl⟩ (fun _ _ _ h => by rw [h.2]; with_unfolding_all exact hk) (fun j acc G' d hd hI => ?_) (fun acc G' hI => by
    rw [hI.1, hI.2, List.length_map, List.take_length]; with_unfolding_all exact he)
  obtain ⟨rfl, rfl⟩ := hI
  rw [List.getElem?_map] at hd
  cases hx : xs[j]? with
  | none => rw [hx] at hd; cases hd
  | some a =>
    rw [hx] at hd
    cases hd
    refine hs j a hx _ ⟨?_, rfl⟩
    rw [List.take_add_one, hx]
    simp
 ); type_of% ?G)
end
section
variable {Q : D → Hs → Prop} {E : XP} {G : Hs}
theorem is_integer_spec {i : Int} (h : Q (.t (.bl true)) G) : Wp (F_is_integer [.t (.int i)] G) Q E := by
  unfold F_is_integer d_is_integer
  walk_at "go"
  walk_at "st"
  exact p_ret (Nat.le_refl _) h
theorem is_within_spec {v lo hi : Int} (h : Q (.t (.bl (decide (lo ≤ v ∧ v ≤ hi)))) G) : Wp (F_is_within [.t (.int v), .t (.int lo), .t (.int hi)] G) Q E := by
  refine ?G
  exact (by (intro h; exact h) : have h : (type_of% ?G) := (by
  unfold F_is_within d_is_within
  walk_at "go"
  walk_at "st"
  refine is_integer_spec ?_
  walk_at "st"
  refine t_sdec (fun h1 => ?_) (fun h1 => ?_)
  · walk_at "st"
    refine p_ret (Nat.le_refl _) ?_
    by_cases h2 : v ≤ hi
    · rw [decide_eq_true ⟨h1, h2⟩] at h; rw [decide_eq_true h2]; exact h
    · rw [decide_eq_false (fun q => h2 q.2)] at h; rw [decide_eq_false h2]; exact h
  · refine p_ret (Nat.le_refl _) ?_
    rw [decide_eq_false (fun q => h1 q.1)] at h; exact h
 ); type_of% ?G)
end

/-! ### acts -/
def nT (l : List Nat) : T := .tup (l.map nI)
theorem asS_nT {G : Hs} {l : List Nat} : asS G (.t (nT l)) = some (l.map nD) := by unfold nT; rw [asS_tup, List.map_map]; rfl
def acT (l : List Nat) : T := .obj 0 ["states"] [nT l]
structure AcOk (l : List Nat) : Prop where
  pos : 1 ≤ l.length
  few : l.length ≤ 100
  lt : ∀ x ∈ l, x < l.length
theorem AcOk.pl {n : Nat} {a : Nat → Nat} (h1 : 1 ≤ n) (h2 : n ≤ 100) (h : ∀ s, s < n → a s < n) : AcOk (pl n a) := by
  refine ⟨by rw [pl_len]; exact h1, by rw [pl_len]; exact h2, fun x hx => ?_⟩
  rw [pl_len]
  obtain ⟨s, hs, rfl⟩ := List.mem_map.mp hx
  exact h s (List.mem_range.mp hs)
theorem rgT_pl {n : Nat} : T.tup (rgT n) = nT (pl n fun s => s) := by
  unfold nT rgT pl
  rw [List.map_map]; rfl
section
variable {Q : D → Hs → Prop} {E : XP} {G : Hs}
theorem o_states {l : List Nat} (h : Q (.t (nT l)) G) : Wp (fFld [0] "states" (.t (acT l)) G) Q E := f_fld (c := 0) (ns := ["states"]) (ts := [nT l]) rfl rfl h
theorem is_act_spec {l : List Nat} (ok : AcOk l) (h : Q (.t (.bl true)) G) : Wp (F_is_act [.t (nT l)] G) Q E := by
  refine ?G
  exact (by (intro h; exact h) : have h : (type_of% ?G) := (by
  unfold F_is_act d_is_act
  walk_at "go"
  walk_at "st"
  apply s_if
  walk_at "st"
  refine f_len asS_nT ?_
  walk_at "st"
  refine t_dec (fun q => absurd q (by have := ok.pos; rw [List.length_map]; omega)) (fun _ => ?_)
  refine s_next ?_
  refine s_ret ?_
  refine e_all (fun _ => true) ?_
  walk_at "st"
  refine ⟨_, asS_nT, fun kp hkp => ⟨rfl, hkp G fun _ _ => rfl, _, rfl, fun d' hd' Q' h' => ?_, ?_⟩⟩
  · obtain ⟨v, hv, rfl⟩ := List.mem_map.mp hd'
    walk_at "st"
    refine f_len asS_nT ?_
    walk_at "st"
    refine is_within_spec ?_
    rw [decide_eq_true (by have := ok.lt v hv; rw [List.length_map]; constructor <;> omega)]
    exact h'
  · rw [List.all_eq_true.mpr (fun _ _ => rfl)]
    exact p_ret (Nat.le_refl _) h
 ); type_of% ?G)
theorem act_make {l : List Nat} (ok : AcOk l) (h : Q (.t (acT l)) G) : Wp (mkEnd G (F_Act_init [.loc G.length, .t (nT l)] (G ++ [.ins 0 []]))) Q E := by
  refine ?G
  exact (by (intro h; exact h) : have h : (type_of% ?G) := (by
  apply e_mk
  unfold F_Act_init d_Act_init
  walk_at "go"
  walk_at "st"
  apply s_if
  walk_at "st"
  refine is_act_spec ok ?_
  walk_at "st"
  refine setFP gNew rfl rfl (by decide) ?_
  rw [setNew]
  refine ⟨Cl.last (insB (ts := [nT l]) rfl), rfl, ?_⟩
  rw [takeAll]
  refine ⟨Cl.app, .t (acT l), ?_, ?_⟩
  · unfold popD frz
    simp only [Nat.lt_irrefl, if_false]
    rw [gNew]
    rfl
  · rw [takeNew]
    exact h
 ); type_of% ?G)
theorem led_spec {n : Nat} {a b : Nat → Nat} (ha : ∀ s, s < n → a s < n) (h : Q (.t (nT (pl n fun s => b (a s)))) G) : Wp (F_led [.t (nT (pl n a)), .t (nT (pl n b))] G) Q E := by
  refine ?G
  exact (by (intro h; exact h) : have h : (type_of% ?G) := (by
  unfold F_led d_led
  walk_at "go"
  walk_at "st"
  refine ⟨_, asS_nT, fun kp hkp => ?_⟩
  have e : (pl n a).map nD = ((List.range n).map fun s => nD (a s)) := by unfold pl; rw [List.map_map]; rfl
  rw [e]
  refine c_mapA (xs := List.range n) (f := fun s => nD (b (a s))) (hkp _ (fun i hi => (nomatch hi))) (fun j s hs Q' h' => ?_) ?_
  · have hs := List.mem_range.mp (List.mem_of_getElem? hs)
    simp only [List.set_cons_succ, List.set_cons_zero]
    walk_at "st"
    refine f_ix asS_nT (d := nD (b (a s))) (BL.atI_nat (by rw [List.getElem?_map, pl_at (ha s hs)]; rfl)) ?_
    exact h'
  have e2 : (List.range n).map (fun s => nD (b (a s))) = ((pl n fun s => b (a s)).map nI).map D.t := by unfold pl; rw [List.map_map, List.map_map]; rfl
  rw [e2]
  refine k_lst (plain_map _) ?_
  refine f_tup asS_lst (plain_map _) ?_
  exact p_ret (Nat.le_refl _) h
 ); type_of% ?G)
theorem is_within_int {v lo hi : Int} (h1 : lo ≤ v) (h2 : v ≤ hi) (h : Q (.t (.bl true)) G) : Wp (F_is_within [.t (.int v), .t (.int lo), .t (.int hi)] G) Q E := by
  refine is_within_spec ?_
  rw [decide_eq_true ⟨h1, h2⟩]; exact h
/-- act.times(k) -/
theorem times_spec {n : Nat} {f : Nat → Nat} (h1 : 1 ≤ n) (h2 : n ≤ 100) (hf : ∀ s, s < n → f s < n) {k : Nat} (hk : (k : Int) ≤ 1000000000000000000000000000000) (h : Q (.t (acT (pl n (it f k)))) G) : Wp (F_Act_times [.t (acT (pl n f)), .t (.int k)] G) Q E := by
  refine ?G
  exact (by (intro h; exact h) : have h : (type_of% ?G) := (by
  unfold F_Act_times d_Act_times
  walk_at "go"
  walk_at "st"
  apply s_if
  walk_at "st"
  refine is_within_int (by omega) hk ?_
  walk_at "st"
  refine o_states ?_
  refine f_len asS_nT ?_
  refine f_rgT (by omega) (by rw [List.length_map, pl_len]; omega) ?_
  rw [List.length_map, pl_len, Int.toNat_natCast, rgT_pl]
  walk_at "st"
  refine o_states ?_
  walk_at "st"
  refine s_while (fun m r G' => ∃ a b l : Nat, r = [some (.t (acT (pl n f))), some (.t (.int (k : Int))), some (.t (nT (pl n (it f a)))), some (.t (nT (pl n (it f b)))), some (.t (.int (l : Int)))] ∧ G' = G ∧ a + b * l = k ∧ m = l) (n0 := k) ⟨0, 1, k, rfl, rfl, by omega, rfl⟩ ?_
  rintro m r G' ⟨a, b, l, rfl, rfl, hkl, rfl⟩
  have hlt : ∀ c, ∀ s, s < n → it f c s < n := fun c s hs => it_lt hf hs c
  walk_at "st"
  refine t_dec (fun q => ?_) (fun q => ?_)
  · have q : 0 < m := by omega
    have e2 : (2 : Int) = ((2 : Nat) : Int) := rfl
    have em : ∀ c d : Nat, (pl n fun s => it f d (it f c s)) = pl n (it f (c + d)) := fun c d => plq_iff.mpr fun s _ => (it_add c d).symm
    have hdm := Nat.div_add_mod m 2
    apply s_seq
    apply s_cut (fun r G1 => r = [some (.t (acT (pl n f))), some (.t (.int (k : Int))), some (.t (nT (pl n (it f (a + b * (m % 2)))))), some (.t (nT (pl n (it f b)))), some (.t (.int (m : Int)))] ∧ G1 = G')
    · apply s_if
      walk_at "st"
      refine t_dec (fun q1 => ?_) (fun q1 => ?_)
      · have q1 : m % 2 = 1 := by omega
        walk_at "st"
        refine led_spec (hlt a) ?_
        rw [em, q1, Nat.mul_one]
        exact ⟨rfl, rfl⟩
      · have q1 : m % 2 = 0 := by omega
        walk_at "st"
        rw [q1, Nat.mul_zero, Nat.add_zero]
        exact ⟨rfl, rfl⟩
    · rintro r G1 ⟨rfl, rfl⟩
      walk_at "st"
      refine led_spec (hlt b) ?_
      rw [em]
      walk_at "st"
      refine ⟨m / 2, by omega, a + b * (m % 2), b + b, m / 2, ?_, rfl, ?_, rfl⟩
      · rw [e2, ← Int.natCast_ediv]
      · rw [← hkl, ← Nat.mul_two, Nat.mul_assoc]
        have : b * m = b * (2 * (m / 2) + m % 2) := by rw [hdm]
        rw [this, Nat.mul_add]
        omega
  · have q : m = 0 := by omega
    subst q
    have : a = k := by omega
    subst this
    walk_at "st"
    apply e_make
    walk_at "st"
    refine act_make (AcOk.pl h1 h2 (hlt a)) ?_
    exact p_ret (Nat.le_refl _) h
 ); type_of% ?G)
end

end LW

set_option Elab.async false
set_option linter.all false
set_option maxRecDepth 100000
set_option maxHeartbeats 4000000
namespace LW
open PySem L2 BL
local macro_rules | `(tactic| walk_at "st") => `(tactic| repeat (first
  | with_reducible apply s_seq | ((with_reducible apply s_set'); (intro x; simp only [List.set_cons_succ, List.set_cons_zero]; exact rfl)) | with_reducible apply s_set | with_reducible apply s_ret | with_reducible apply s_retN | with_reducible apply s_drop | ((with_reducible apply s_par'); (intro x y; simp only [List.set_cons_succ, List.set_cons_zero]; exact rfl)) | ((with_reducible apply s_par3'); (intro x y z; simp only [setsE, List.set_cons_succ, List.set_cons_zero]; exact rfl)) | ((with_reducible apply s_par4'); (intro x y z w; simp only [setsE, List.set_cons_succ, List.set_cons_zero]; exact rfl)) | ((with_reducible apply s_par5'); (intro x y z w v; simp only [setsE, List.set_cons_succ, List.set_cons_zero]; exact rfl)) | with_reducible apply s_par | with_reducible apply s_put | with_reducible apply s_setF | with_reducible apply s_setL | with_reducible apply s_next | with_reducible apply s_for
  | with_reducible apply e_C | with_reducible apply e_bin | with_reducible apply e_un | with_reducible apply e_not | with_reducible apply e_and | with_reducible apply e_or | with_reducible apply e_ite | with_reducible apply e_chain
  | with_reducible apply e_call1 | with_reducible apply e_call2 | with_reducible apply e_call3 | with_reducible apply e_call4 | with_reducible apply e_args0 | with_reducible apply e_args1 | with_reducible apply e_args2 | with_reducible apply e_args3 | with_reducible apply e_args4 | with_reducible apply e_argsC
  | with_reducible apply e_sl0 | with_reducible apply e_sl1 | ((with_reducible apply e_comp'); (simp only [wipeE, List.set_cons_succ, List.set_cons_zero]; exact rfl)) | with_reducible apply e_comp | with_reducible apply i_R1 | with_reducible apply i_S' | with_reducible apply i_En' | with_reducible apply i_Str
  | ((with_reducible apply e_var); (first | exact rfl | assumption))
  | with_reducible apply f_addI | with_reducible apply f_sub | with_reducible apply f_cmp | with_reducible apply f_int | with_reducible apply f_eqI | with_reducible apply f_neI | with_reducible apply f_lenT | with_reducible apply f_lenL | with_reducible apply f_lenF | with_reducible apply o_deeds | with_reducible apply o_rows | with_reducible apply o_tells | with_reducible apply o_start | with_reducible apply e_disp1 | with_reducible apply e_met | with_reducible apply e_metA | with_reducible apply e_metL | with_reducible apply f_abs
  | with_reducible apply t_T | with_reducible apply t_F
  | with_reducible apply f_neg | with_reducible apply f_nnT | with_reducible apply f_nnF | with_reducible apply f_nonI | with_reducible apply s_raise1 | with_reducible apply s_raise2 | with_reducible apply s_raise3 | ((with_reducible apply f_fld); (exact rfl); (exact rfl)) | ((with_reducible apply f_fldL); (first | exact gNew | assumption); (exact rfl); (exact rfl))
  | ((with_reducible apply f_tupD); (exact rfl); (exact of_decide_eq_true rfl))
  | ((with_reducible apply f_get); (first | exact rfl | exact dkL (by assumption) | exact dkL (gSet (by assumption)) | exact dkL (gSet (gSet (by assumption)))); (exact rfl); (exact rfl))
  | ((with_reducible apply f_mul); (first | exact mulOkL (by decide) (by decide) | exact mulOkR (by decide) (by decide) | exact mulOkL (by omega) (by omega) | exact mulOkR (by omega) (by omega)))
  | ((with_reducible apply f_mod); (first | assumption | decide | omega))
  | ((with_reducible apply f_div); (first | assumption | decide | omega); (first | assumption | decide | omega))
  | ((with_reducible apply f_pow); (exact ⟨by decide, by decide, by decide⟩))
  | ((with_reducible apply f_isi); (exact rfl); (exact rfl))
  | ((with_reducible apply f_lstD); (exact rfl); (exact of_decide_eq_true rfl))
  | ((with_reducible apply putP); (first | assumption | exact gSet (by assumption) | exact gSet (gSet (by assumption))); (exact rfl); (exact rfl); (first | decide | (focus (simp; done))))))
local macro_rules | `(tactic| walk_at "go") => `(tactic| ((first | apply r_pop' | apply r_keep' | apply r_dp'); (simp only [startE, List.map_cons, List.map_nil, List.length_cons, List.length_nil, Nat.reduceAdd, Nat.reduceSub, List.replicate_succ, List.replicate_zero, List.cons_append, List.nil_append]; exact rfl)))
local macro_rules | `(tactic| walk_at "cl") => `(tactic| (first | exact Cl.refl | exact Cl.app | assumption | exact Pen.cl (by assumption) (by assumption)))


/-- a value that may be asked whether it is a whole number -/
def Val : T → Prop
  | .obj _ _ _ => False
  | .cls _ => False
  | .nd _ _ => False
  | _ => True
def inB (t : T) (lo hi : Int) : Bool := match t with
  | .int v => decide (lo ≤ v ∧ v ≤ hi)
  | _ => false
section
variable {Q : D → Hs → Prop} {E : XP} {G : Hs}
def isI : T → Bool
  | .int _ => true
  | _ => false
theorem is_integer_no {t : T} (hi : isI t = false) (hv : Val t) (h : Q (.t (.bl false)) G) : Wp (F_is_integer [.t t] G) Q E := by
  cases t with
  | int v => cases hi
  | obj c ns ts => exact hv.elim
  | cls c => exact hv.elim
  | nd ks ts => exact hv.elim
  | bl b =>
    unfold F_is_integer d_is_integer
    walk_at "go"
    walk_at "st"
    exact p_ret (Nat.le_refl _) h
  | _ =>
    unfold F_is_integer d_is_integer
    walk_at "go"
    walk_at "st"
    exact p_ret (Nat.le_refl _) h
theorem is_withinT {t : T} {lo hi : Int} (hv : Val t) (h : Q (.t (.bl (inB t lo hi))) G) : Wp (F_is_within [.t t, .t (.int lo), .t (.int hi)] G) Q E := by
  refine ?G
  exact (by (intro h; exact h) : have h : (type_of% ?G) := (by
  cases hi' : isI t with
  | true =>
    cases t with
    | int v => exact is_within_spec h
    | _ => cases hi'
  | false =>
    have e : inB t lo hi = false := by cases t <;> first | rfl | cases hi'
    rw [e] at h
    unfold F_is_within d_is_within
    walk_at "go"
    walk_at "st"
    refine is_integer_no hi' hv ?_
    walk_at "st"
    exact p_ret (Nat.le_refl _) h
 ); type_of% ?G)
end

/-! ### rings -/
theorem noB_nT (l : List Nat) : noB (nT l) = true := by
  show noBs (l.map nI) = true
  exact noBs_iff.mpr fun t ht => by obtain ⟨x, _, rfl⟩ := List.mem_map.mp ht; rfl
theorem deps_nI : ∀ l : List Nat, deps (l.map nI) = 0
  | [] => rfl
  | n :: l => by
    show max 0 (deps (l.map nI)) = 0
    rw [deps_nI l]; rfl
theorem dep_nT (l : List Nat) : dep (nT l) = 1 := by show deps (l.map nI) + 1 = 1; rw [deps_nI]
theorem nT_inj {a b : List Nat} : nT a = nT b ↔ a = b := by
  constructor
  · intro h
    unfold nT at h
    injection h with h
    exact (List.map_inj_right fun x y h => by injection h with h; omega).mp h
  · rintro rfl; rfl

/-! ### the operators and what is told of an act -/
section
variable {Q : D → Hs → Prop} {E : XP} {G : Hs}
theorem act_eqv {l l' : List Nat} {neg : Bool} (h : Q (.t (.bl (if neg then !decide (l = l') else decide (l = l')))) G) : Wp (fEqO 0 [] neg F_Act_eq (.t (acT l)) (.t (acT l')) G) Q E := by
  refine ?G
  exact (by (intro h; exact h) : have h : (type_of% ?G) := (by
  refine f_eqO rfl rfl ?_
  unfold F_Act_eq d_Act_eq
  walk_at "go"
  walk_at "st"
  apply s_if
  walk_at "st"
  refine o_states ?_
  refine o_states ?_
  refine f_eqT rfl rfl (noB_nT l) (noB_nT l') (by rw [dep_nT]; decide) fun t ht => ?_
  have e : t = decide (l = l') := by
    have := ht.trans (by rw [if_neg (by decide)] : _ ↔ nT l = nT l')
    rw [nT_inj] at this
    cases t with
    | true => rw [decide_eq_true (this.mp rfl)]
    | false => rw [decide_eq_false (fun q => absurd (this.mpr q) (by decide))]
  subst e
  refine ⟨Cl.refl, .t (.bl (decide (l = l'))), rfl, ?_⟩
  rw [List.take_of_length_le (Nat.le_refl _)]
  exact ⟨_, rfl, h⟩
 ); type_of% ?G)
theorem nT_ints (l : List Nat) : nT l = .tup ((l.map fun n : Nat => (n : Int)).map T.int) := by unfold nT nI; rw [List.map_map]; rfl
abbrev zs (l : List Nat) : List Int := l.map fun n : Nat => (n : Int)
theorem act_lt {l l' : List Nat} (h : Q (.t (.bl (cmI .lt (zs l) (zs l')))) G) : Wp (fEqO 0 [] false F_Act_lt (.t (acT l)) (.t (acT l')) G) Q E := by
  refine f_eqO rfl rfl ?_
  unfold F_Act_lt d_Act_lt
  walk_at "go"
  walk_at "st"
  apply s_if
  walk_at "st"
  refine o_states ?_
  refine o_states ?_
  rw [nT_ints, nT_ints]
  refine f_cmT ?_
  refine ⟨Cl.refl, _, rfl, ?_⟩
  rw [List.take_of_length_le (Nat.le_refl _)]
  exact ⟨_, rfl, h⟩
theorem act_le {l l' : List Nat} (h : Q (.t (.bl (cmI .le (zs l) (zs l')))) G) : Wp (fEqO 0 [] false F_Act_le (.t (acT l)) (.t (acT l')) G) Q E := by
  refine f_eqO rfl rfl ?_
  unfold F_Act_le d_Act_le
  walk_at "go"
  walk_at "st"
  apply s_if
  walk_at "st"
  refine o_states ?_
  refine o_states ?_
  rw [nT_ints, nT_ints]
  refine f_cmT ?_
  refine ⟨Cl.refl, _, rfl, ?_⟩
  rw [List.take_of_length_le (Nat.le_refl _)]
  exact ⟨_, rfl, h⟩
theorem mul_spec {n : Nat} {a b : Nat → Nat} (h1 : 1 ≤ n) (h2 : n ≤ 100) (ha : ∀ s, s < n → a s < n) (hb : ∀ s, s < n → b s < n) (h : Q (.t (acT (pl n fun s => b (a s)))) G) : Wp (fMulO 0 F_Act_mul (.t (acT (pl n a))) (.t (acT (pl n b))) G) Q E := by
  refine ?G
  exact (by (intro h; exact h) : have h : (type_of% ?G) := (by
  refine f_mulO rfl rfl ?_
  unfold F_Act_mul d_Act_mul
  walk_at "go"
  apply s_seq
  apply s_if
  walk_at "st"
  apply s_if
  walk_at "st"
  refine o_states ?_
  refine f_len asS_nT ?_
  walk_at "st"
  refine o_states ?_
  refine f_len asS_nT ?_
  walk_at "st"
  refine t_ndec (fun q => absurd (by rw [List.length_map, List.length_map, pl_len, pl_len]) q) (fun _ => ?_)
  walk_at "st"
  apply e_make
  walk_at "st"
  refine o_states ?_
  refine o_states ?_
  refine led_spec ha ?_
  refine act_make (AcOk.pl h1 h2 fun s hs => hb _ (ha s hs)) ?_
  exact p_ret (Nat.le_refl _) h
 ); type_of% ?G)
end

end LW

set_option Elab.async false
set_option linter.all false
set_option maxRecDepth 100000
set_option maxHeartbeats 4000000
namespace LW
open PySem L2 BL
local macro_rules | `(tactic| walk_at "st") => `(tactic| repeat (first
  | with_reducible apply s_seq | ((with_reducible apply s_set'); (intro x; simp only [List.set_cons_succ, List.set_cons_zero]; exact rfl)) | with_reducible apply s_set | with_reducible apply s_ret | with_reducible apply s_retN | with_reducible apply s_drop | ((with_reducible apply s_par'); (intro x y; simp only [List.set_cons_succ, List.set_cons_zero]; exact rfl)) | ((with_reducible apply s_par3'); (intro x y z; simp only [setsE, List.set_cons_succ, List.set_cons_zero]; exact rfl)) | ((with_reducible apply s_par4'); (intro x y z w; simp only [setsE, List.set_cons_succ, List.set_cons_zero]; exact rfl)) | ((with_reducible apply s_par5'); (intro x y z w v; simp only [setsE, List.set_cons_succ, List.set_cons_zero]; exact rfl)) | with_reducible apply s_par | with_reducible apply s_put | with_reducible apply s_setF | with_reducible apply s_setL | with_reducible apply s_next | with_reducible apply s_for
  | with_reducible apply e_C | with_reducible apply e_bin | with_reducible apply e_un | with_reducible apply e_not | with_reducible apply e_and | with_reducible apply e_or | with_reducible apply e_ite | with_reducible apply e_chain
  | with_reducible apply e_call1 | with_reducible apply e_call2 | with_reducible apply e_call3 | with_reducible apply e_call4 | with_reducible apply e_args0 | with_reducible apply e_args1 | with_reducible apply e_args2 | with_reducible apply e_args3 | with_reducible apply e_args4 | with_reducible apply e_argsC
  | with_reducible apply e_sl0 | with_reducible apply e_sl1 | ((with_reducible apply e_comp'); (simp only [wipeE, List.set_cons_succ, List.set_cons_zero]; exact rfl)) | with_reducible apply e_comp | with_reducible apply i_R1 | with_reducible apply i_S' | with_reducible apply i_En' | with_reducible apply i_Str
  | ((with_reducible apply e_var); (first | exact rfl | assumption))
  | with_reducible apply f_addI | with_reducible apply f_sub | with_reducible apply f_cmp | with_reducible apply f_int | with_reducible apply f_eqI | with_reducible apply f_neI | with_reducible apply f_lenT | with_reducible apply f_lenL | with_reducible apply f_lenF | with_reducible apply o_deeds | with_reducible apply o_rows | with_reducible apply o_tells | with_reducible apply o_start | with_reducible apply e_disp1 | with_reducible apply e_met | with_reducible apply e_metA | with_reducible apply e_metL | with_reducible apply f_abs
  | with_reducible apply t_T | with_reducible apply t_F
  | with_reducible apply f_neg | with_reducible apply f_nnT | with_reducible apply f_nnF | with_reducible apply f_nonI | with_reducible apply s_raise1 | with_reducible apply s_raise2 | with_reducible apply s_raise3 | ((with_reducible apply f_fld); (exact rfl); (exact rfl)) | ((with_reducible apply f_fldL); (first | exact gNew | assumption); (exact rfl); (exact rfl))
  | ((with_reducible apply f_tupD); (exact rfl); (exact of_decide_eq_true rfl))
  | ((with_reducible apply f_get); (first | exact rfl | exact dkL (by assumption) | exact dkL (gSet (by assumption)) | exact dkL (gSet (gSet (by assumption)))); (exact rfl); (exact rfl))
  | ((with_reducible apply f_mul); (first | exact mulOkL (by decide) (by decide) | exact mulOkR (by decide) (by decide) | exact mulOkL (by omega) (by omega) | exact mulOkR (by omega) (by omega)))
  | ((with_reducible apply f_mod); (first | assumption | decide | omega))
  | ((with_reducible apply f_div); (first | assumption | decide | omega); (first | assumption | decide | omega))
  | ((with_reducible apply f_pow); (exact ⟨by decide, by decide, by decide⟩))
  | ((with_reducible apply f_isi); (exact rfl); (exact rfl))
  | ((with_reducible apply f_lstD); (exact rfl); (exact of_decide_eq_true rfl))
  | ((with_reducible apply putP); (first | assumption | exact gSet (by assumption) | exact gSet (gSet (by assumption))); (exact rfl); (exact rfl); (first | decide | (focus (simp; done))))))
local macro_rules | `(tactic| walk_at "go") => `(tactic| ((first | apply r_pop' | apply r_keep' | apply r_dp'); (simp only [startE, List.map_cons, List.map_nil, List.length_cons, List.length_nil, Nat.reduceAdd, Nat.reduceSub, List.replicate_succ, List.replicate_zero, List.cons_append, List.nil_append]; exact rfl)))
local macro_rules | `(tactic| walk_at "cl") => `(tactic| (first | exact Cl.refl | exact Cl.app | assumption | exact Pen.cl (by assumption) (by assumption)))


/-! ### comparisons -/
section
variable {Q : D → Hs → Prop} {E : XP} {G : Hs}
theorem f_gtO {c : Nat} {F : Fd} {x y : D} (h1 : isObj' c G x = true) (h2 : isObj' c G y = true) (h : Wp (F [y, x] G) (fun d G' => ∃ b, d = .t (.bl b) ∧ Q (.t (.bl b)) G') (fun _ _ _ _ => False)) : Wp (fGtO c F x y G) Q E := by
  obtain ⟨d, G', e, b, rfl, hq⟩ := h.ex
  have e2 : fGtO c F x y G = .ok (.t (.bl b)) G' := by
    unfold fGtO
    rw [if_pos (by rw [h1, h2]; rfl), e]
    rfl
  rw [e2]
  exact e_ok hq
theorem act_gt {l l' : List Nat} (h : Q (.t (.bl (cmI .gt (zs l) (zs l')))) G) : Wp (fGtO 0 F_Act_lt (.t (acT l)) (.t (acT l')) G) Q E := by
  refine f_gtO rfl rfl ?_
  unfold F_Act_lt d_Act_lt
  walk_at "go"
  walk_at "st"
  apply s_if
  walk_at "st"
  refine o_states ?_
  refine o_states ?_
  rw [nT_ints, nT_ints]
  refine f_cmT ?_
  rw [← cmI_gt]
  refine ⟨Cl.refl, _, rfl, ?_⟩
  rw [List.take_of_length_le (Nat.le_refl _)]
  exact ⟨_, rfl, h⟩
theorem act_ge {l l' : List Nat} (h : Q (.t (.bl (cmI .ge (zs l) (zs l')))) G) : Wp (fGtO 0 F_Act_le (.t (acT l)) (.t (acT l')) G) Q E := by
  refine f_gtO rfl rfl ?_
  unfold F_Act_le d_Act_le
  walk_at "go"
  walk_at "st"
  apply s_if
  walk_at "st"
  refine o_states ?_
  refine o_states ?_
  rw [nT_ints, nT_ints]
  refine f_cmT ?_
  rw [← cmI_ge]
  refine ⟨Cl.refl, _, rfl, ?_⟩
  rw [List.take_of_length_le (Nat.le_refl _)]
  exact ⟨_, rfl, h⟩
/-- an act and something else -/
theorem act_strange {l : List Nat} {t : T} {neg : Bool} (ht : t = .non ∨ (∃ ts, t = .tup ts) ∨ ∃ ts, t = .lst ts) (h : Q (.t (.bl neg)) G) : Wp (fEqO 0 [] neg F_Act_eq (.t (acT l)) (.t t) G) Q E := by
  refine ?G
  exact (by (intro h; exact h) : have h : (type_of% ?G) := (by
  have e : (if neg = true then !false else false) = neg := by cases neg <;> rfl
  rcases ht with rfl | ⟨ts, rfl⟩ | ⟨ts, rfl⟩
  all_goals
    refine f_eqO rfl rfl ?_
    unfold F_Act_eq d_Act_eq
    walk_at "go"
    walk_at "st"
    apply s_if
    walk_at "st"
    refine ⟨Cl.refl, _, rfl, ?_⟩
    rw [List.take_of_length_le (Nat.le_refl _)]
    exact ⟨false, rfl, by rw [e]; exact h⟩
 ); type_of% ?G)
end

end LW

set_option Elab.async false
set_option linter.all false
set_option maxRecDepth 100000
set_option maxHeartbeats 4000000
namespace LW
open PySem L2 BL
local macro_rules | `(tactic| walk_at "st") => `(tactic| repeat (first
  | with_reducible apply s_seq | ((with_reducible apply s_set'); (intro x; simp only [List.set_cons_succ, List.set_cons_zero]; exact rfl)) | with_reducible apply s_set | with_reducible apply s_ret | with_reducible apply s_retN | with_reducible apply s_drop | ((with_reducible apply s_par'); (intro x y; simp only [List.set_cons_succ, List.set_cons_zero]; exact rfl)) | ((with_reducible apply s_par3'); (intro x y z; simp only [setsE, List.set_cons_succ, List.set_cons_zero]; exact rfl)) | ((with_reducible apply s_par4'); (intro x y z w; simp only [setsE, List.set_cons_succ, List.set_cons_zero]; exact rfl)) | ((with_reducible apply s_par5'); (intro x y z w v; simp only [setsE, List.set_cons_succ, List.set_cons_zero]; exact rfl)) | with_reducible apply s_par | with_reducible apply s_put | with_reducible apply s_setF | with_reducible apply s_setL | with_reducible apply s_next | with_reducible apply s_for
  | with_reducible apply e_C | with_reducible apply e_bin | with_reducible apply e_un | with_reducible apply e_not | with_reducible apply e_and | with_reducible apply e_or | with_reducible apply e_ite | with_reducible apply e_chain
  | with_reducible apply e_call1 | with_reducible apply e_call2 | with_reducible apply e_call3 | with_reducible apply e_call4 | with_reducible apply e_args0 | with_reducible apply e_args1 | with_reducible apply e_args2 | with_reducible apply e_args3 | with_reducible apply e_args4 | with_reducible apply e_argsC
  | with_reducible apply e_sl0 | with_reducible apply e_sl1 | ((with_reducible apply e_comp'); (simp only [wipeE, List.set_cons_succ, List.set_cons_zero]; exact rfl)) | with_reducible apply e_comp | with_reducible apply i_R1 | with_reducible apply i_S' | with_reducible apply i_En' | with_reducible apply i_Str
  | ((with_reducible apply e_var); (first | exact rfl | assumption))
  | with_reducible apply f_addI | with_reducible apply f_sub | with_reducible apply f_cmp | with_reducible apply f_int | with_reducible apply f_eqI | with_reducible apply f_neI | with_reducible apply f_lenT | with_reducible apply f_lenL | with_reducible apply f_lenF | with_reducible apply o_deeds | with_reducible apply o_rows | with_reducible apply o_tells | with_reducible apply o_start | with_reducible apply e_disp1 | with_reducible apply e_met | with_reducible apply e_metA | with_reducible apply e_metL | with_reducible apply f_abs
  | with_reducible apply t_T | with_reducible apply t_F
  | with_reducible apply f_neg | with_reducible apply f_nnT | with_reducible apply f_nnF | with_reducible apply f_nonI | with_reducible apply s_raise1 | with_reducible apply s_raise2 | with_reducible apply s_raise3 | ((with_reducible apply f_fld); (exact rfl); (exact rfl)) | ((with_reducible apply f_fldL); (first | exact gNew | assumption); (exact rfl); (exact rfl))
  | ((with_reducible apply f_tupD); (exact rfl); (exact of_decide_eq_true rfl))
  | ((with_reducible apply f_get); (first | exact rfl | exact dkL (by assumption) | exact dkL (gSet (by assumption)) | exact dkL (gSet (gSet (by assumption)))); (exact rfl); (exact rfl))
  | ((with_reducible apply f_mul); (first | exact mulOkL (by decide) (by decide) | exact mulOkR (by decide) (by decide) | exact mulOkL (by omega) (by omega) | exact mulOkR (by omega) (by omega)))
  | ((with_reducible apply f_mod); (first | assumption | decide | omega))
  | ((with_reducible apply f_div); (first | assumption | decide | omega); (first | assumption | decide | omega))
  | ((with_reducible apply f_pow); (exact ⟨by decide, by decide, by decide⟩))
  | ((with_reducible apply f_isi); (exact rfl); (exact rfl))
  | ((with_reducible apply f_lstD); (exact rfl); (exact of_decide_eq_true rfl))
  | ((with_reducible apply putP); (first | assumption | exact gSet (by assumption) | exact gSet (gSet (by assumption))); (exact rfl); (exact rfl); (first | decide | (focus (simp; done))))))
local macro_rules | `(tactic| walk_at "go") => `(tactic| ((first | apply r_pop' | apply r_keep' | apply r_dp'); (simp only [startE, List.map_cons, List.map_nil, List.length_cons, List.length_nil, Nat.reduceAdd, Nat.reduceSub, List.replicate_succ, List.replicate_zero, List.cons_append, List.nil_append]; exact rfl)))
local macro_rules | `(tactic| walk_at "cl") => `(tactic| (first | exact Cl.refl | exact Cl.app | assumption | exact Pen.cl (by assumption) (by assumption)))


section
variable {Q : D → Hs → Prop} {E : XP} {G : Hs}
abbrev bls (a b c d e f : Bool) : T := .lst [.bl a, .bl b, .bl c, .bl d, .bl e, .bl f]
theorem bls_ok : ∀ a b c d e f : Bool, (eqOk (bls a b c d e f) (bls a b c d e f) && teq (bls a b c d e f) (bls a b c d e f)) = true := by decide +kernel
theorem ne_bls {a b c d e f : Bool} (h : Q (.t (.bl false)) G) : Wp (fEq true (.t (bls a b c d e f)) (.t (bls a b c d e f)) G) Q E := by
  obtain ⟨h1, h2⟩ := Bool.and_eq_true_iff.mp (bls_ok a b c d e f)
  refine f_eq rfl rfl h1 ?_
  rw [h2]
  exact h
theorem eq_nT {l l' : List Nat} {neg : Bool} (h : Q (.t (.bl (if neg = true then !decide (l = l') else decide (l = l')))) G) : Wp (fEq neg (.t (nT l)) (.t (nT l')) G) Q E := by
  refine ?G
  exact (by (intro h; exact h) : have h : (type_of% ?G) := (by
  refine f_eqT rfl rfl (noB_nT l) (noB_nT l') (by rw [dep_nT]; decide) fun t ht => ?_
  have e : t = (if neg = true then !decide (l = l') else decide (l = l')) := by
    cases neg with
    | true =>
      simp only [if_true] at ht ⊢
      rw [Ne, nT_inj] at ht
      cases t with
      | true => rw [decide_eq_false (ht.mp rfl)]; rfl
      | false => rw [decide_eq_true (Classical.byContradiction fun q => absurd (ht.mpr q) (by decide))]; rfl
    | false =>
      simp only [Bool.false_eq_true, if_false] at ht ⊢
      rw [nT_inj] at ht
      cases t with
      | true => rw [decide_eq_true (ht.mp rfl)]
      | false => rw [decide_eq_false (fun q => absurd (ht.mpr q) (by decide))]
  rw [e]
  exact h
 ); type_of% ?G)
theorem is_compared_spec {l l' : List Nat} (hl : l.length ≤ 100) (h : Q (.t (.bl true)) G) : Wp (F_is_compared [.t (acT l), .t (acT l'), .t (nT l), .t (nT l')] G) Q E := by
  refine ?G
  exact (by (intro h; exact h) : have h : (type_of% ?G) := (by
  unfold F_is_compared d_is_compared
  walk_at "go"
  walk_at "st"
  refine act_eqv ?_
  walk_at "st"
  refine act_eqv ?_
  walk_at "st"
  refine act_lt ?_
  walk_at "st"
  refine act_le ?_
  walk_at "st"
  refine act_gt ?_
  walk_at "st"
  refine act_ge ?_
  walk_at "st"
  apply s_if
  walk_at "st"
  refine eq_nT ?_
  walk_at "st"
  refine eq_nT ?_
  walk_at "st"
  rw [nT_ints, nT_ints]
  refine f_cmT ?_
  walk_at "st"
  refine f_cmT ?_
  walk_at "st"
  refine f_cmT ?_
  walk_at "st"
  refine f_cmT ?_
  walk_at "st"
  rw [← nT_ints, ← nT_ints]
  refine ne_bls ?_
  walk_at "st"
  refine act_strange (.inr (.inl ⟨_, rfl⟩)) ?_
  walk_at "st"
  refine act_strange (.inr (.inl ⟨_, rfl⟩)) ?_
  walk_at "st"
  refine f_lst asS_nT (ts := l.map nI) (by rw [show l.map nD = (l.map nI).map D.t by rw [List.map_map]; rfl]; exact plain_map _) ?_
  walk_at "st"
  refine act_strange (.inr (.inr ⟨_, rfl⟩)) ?_
  walk_at "st"
  refine act_strange (.inl rfl) ?_
  walk_at "st"
  exact p_ret (Nat.le_refl _) h
 ); type_of% ?G)
end

end LW

set_option Elab.async false
set_option linter.all false
set_option maxRecDepth 100000
set_option maxHeartbeats 4000000
namespace LW
open PySem L2 BL
local macro_rules | `(tactic| walk_at "st") => `(tactic| repeat (first
  | with_reducible apply s_seq | ((with_reducible apply s_set'); (intro x; simp only [List.set_cons_succ, List.set_cons_zero]; exact rfl)) | with_reducible apply s_set | with_reducible apply s_ret | with_reducible apply s_retN | with_reducible apply s_drop | ((with_reducible apply s_par'); (intro x y; simp only [List.set_cons_succ, List.set_cons_zero]; exact rfl)) | ((with_reducible apply s_par3'); (intro x y z; simp only [setsE, List.set_cons_succ, List.set_cons_zero]; exact rfl)) | ((with_reducible apply s_par4'); (intro x y z w; simp only [setsE, List.set_cons_succ, List.set_cons_zero]; exact rfl)) | ((with_reducible apply s_par5'); (intro x y z w v; simp only [setsE, List.set_cons_succ, List.set_cons_zero]; exact rfl)) | with_reducible apply s_par | with_reducible apply s_put | with_reducible apply s_setF | with_reducible apply s_setL | with_reducible apply s_next | with_reducible apply s_for
  | with_reducible apply e_C | with_reducible apply e_bin | with_reducible apply e_un | with_reducible apply e_not | with_reducible apply e_and | with_reducible apply e_or | with_reducible apply e_ite | with_reducible apply e_chain
  | with_reducible apply e_call1 | with_reducible apply e_call2 | with_reducible apply e_call3 | with_reducible apply e_call4 | with_reducible apply e_args0 | with_reducible apply e_args1 | with_reducible apply e_args2 | with_reducible apply e_args3 | with_reducible apply e_args4 | with_reducible apply e_argsC
  | with_reducible apply e_sl0 | with_reducible apply e_sl1 | ((with_reducible apply e_comp'); (simp only [wipeE, List.set_cons_succ, List.set_cons_zero]; exact rfl)) | with_reducible apply e_comp | with_reducible apply i_R1 | with_reducible apply i_S' | with_reducible apply i_En' | with_reducible apply i_Str
  | ((with_reducible apply e_var); (first | exact rfl | assumption))
  | with_reducible apply f_addI | with_reducible apply f_sub | with_reducible apply f_cmp | with_reducible apply f_int | with_reducible apply f_eqI | with_reducible apply f_neI | with_reducible apply f_lenT | with_reducible apply f_lenL | with_reducible apply f_lenF | with_reducible apply o_deeds | with_reducible apply o_rows | with_reducible apply o_tells | with_reducible apply o_start | with_reducible apply e_disp1 | with_reducible apply e_met | with_reducible apply e_metA | with_reducible apply e_metL | with_reducible apply f_abs
  | with_reducible apply t_T | with_reducible apply t_F
  | with_reducible apply f_neg | with_reducible apply f_nnT | with_reducible apply f_nnF | with_reducible apply f_nonI | with_reducible apply s_raise1 | with_reducible apply s_raise2 | with_reducible apply s_raise3 | ((with_reducible apply f_fld); (exact rfl); (exact rfl)) | ((with_reducible apply f_fldL); (first | exact gNew | assumption); (exact rfl); (exact rfl))
  | ((with_reducible apply f_tupD); (exact rfl); (exact of_decide_eq_true rfl))
  | ((with_reducible apply f_get); (first | exact rfl | exact dkL (by assumption) | exact dkL (gSet (by assumption)) | exact dkL (gSet (gSet (by assumption)))); (exact rfl); (exact rfl))
  | ((with_reducible apply f_mul); (first | exact mulOkL (by decide) (by decide) | exact mulOkR (by decide) (by decide) | exact mulOkL (by omega) (by omega) | exact mulOkR (by omega) (by omega)))
  | ((with_reducible apply f_mod); (first | assumption | decide | omega))
  | ((with_reducible apply f_div); (first | assumption | decide | omega); (first | assumption | decide | omega))
  | ((with_reducible apply f_pow); (exact ⟨by decide, by decide, by decide⟩))
  | ((with_reducible apply f_isi); (exact rfl); (exact rfl))
  | ((with_reducible apply f_lstD); (exact rfl); (exact of_decide_eq_true rfl))
  | ((with_reducible apply putP); (first | assumption | exact gSet (by assumption) | exact gSet (gSet (by assumption))); (exact rfl); (exact rfl); (first | decide | (focus (simp; done))))))
local macro_rules | `(tactic| walk_at "go") => `(tactic| ((first | apply r_pop' | apply r_keep' | apply r_dp'); (simp only [startE, List.map_cons, List.map_nil, List.length_cons, List.length_nil, Nat.reduceAdd, Nat.reduceSub, List.replicate_succ, List.replicate_zero, List.cons_append, List.nil_append]; exact rfl)))
local macro_rules | `(tactic| walk_at "cl") => `(tactic| (first | exact Cl.refl | exact Cl.app | assumption | exact Pen.cl (by assumption) (by assumption)))


/-! ### how many states are reached -/
theorem met_ded : ∀ (xs : List Int) (i : Nat), i ≤ xs.length → metNK (xs.map .inl) i = (ded (xs.take i)).map Sum.inl
  | xs, 0, _ => rfl
  | xs, i + 1, h => by
    have ih := met_ded xs i (by omega)
    have e : xs[i]? = some xs[i] := List.getElem?_eq_getElem (by omega)
    rw [metNK, ih, ded_take e]
    have e2 : (xs.map Sum.inl : List Key).getD i (.inl 0) = .inl xs[i] := by
      rw [List.getD_eq_getElem?_getD, List.getElem?_map, e]; rfl
    rw [e2]
    unfold metSK
    have e3 : ((ded (xs.take i)).map Sum.inl : List Key).any (fun z => decide (z = .inl xs[i])) = decide (xs[i] ∈ ded (xs.take i)) := by
      rw [Bool.eq_iff_iff, List.any_eq_true, decide_eq_true_iff]
      constructor
      · rintro ⟨z, hz, hd⟩
        obtain ⟨y, hy, rfl⟩ := List.mem_map.mp hz
        rw [← Sum.inl.inj (of_decide_eq_true hd)]; exact hy
      · exact fun hm => ⟨_, List.mem_map.mpr ⟨_, hm, rfl⟩, decide_eq_true rfl⟩
    rw [e3]
    by_cases q : xs[i] ∈ ded (xs.take i)
    · rw [decide_eq_true q, if_pos rfl, if_pos q]
    · rw [decide_eq_false q, if_neg q, List.map_append]; rfl
theorem ded_map {α β : Type} [DecidableEq α] [DecidableEq β] {g : α → β} (hg : ∀ x y, g x = g y → x = y) : ∀ l : List α, ded (l.map g) = (ded l).map g := by
  refine ?G
  exact (by (intro h; exact h) : have h : (type_of% ?G) := (by
  intro l
  induction l using snocInd with
  | h0 => rfl
  | hs l y ih =>
    rw [List.map_append, List.map_singleton, ded_snoc, ded_snoc, ih]
    have : g y ∈ (ded l).map g ↔ y ∈ ded l := ⟨fun h => by
      obtain ⟨z, hz, e⟩ := List.mem_map.mp h
      rw [← hg _ _ e]; exact hz, fun h => List.mem_map.mpr ⟨y, h, rfl⟩⟩
    by_cases q : y ∈ ded l
    · rw [if_pos q, if_pos (this.mpr q)]
    · rw [if_neg q, if_neg (fun z => q (this.mp z)), List.map_append]; rfl
 ); type_of% ?G)
/-- the states to which some state is led, ascending -/
def img (l : List Nat) : List Nat := (List.range l.length).filter fun x => decide (x ∈ l)
theorem img_len {l : List Nat} (h : ∀ x ∈ l, x < l.length) : (ded l).length = (img l).length := by
  have p : (ded l).Perm (img l) := by
    refine (List.perm_ext_iff_of_nodup ded_nodup (List.nodup_range.filter _)).mpr fun x => ?_
    rw [mem_ded, List.mem_filter, List.mem_range, decide_eq_true_iff]
    exact ⟨fun hx => ⟨h x hx, hx⟩, fun hx => hx.2⟩
  exact p.length_eq
section
variable {Q : D → Hs → Prop} {E : XP} {G : Hs}
theorem rank_spec {l : List Nat} (ok : AcOk l) (h : Q (.t (nI (img l).length)) G) : Wp (fProp 0 F_Act_rank (.t (acT l)) G) Q E := by
  refine f_prop rfl ?_
  unfold F_Act_rank d_Act_rank
  walk_at "go"
  walk_at "st"
  refine o_states ?_
  rw [nT_ints]
  refine f_lenKt (by rw [List.length_map]; have := ok.few; omega) ?_
  rw [met_ded _ _ (Nat.le_refl _), List.take_length, List.length_map, ded_map (fun x y h => by omega), List.length_map, img_len ok.lt]
  exact p_ret (Nat.le_refl _) h
theorem is_swap_spec {l : List Nat} (ok : AcOk l) (h : Q (.t (.bl (decide ((img l).length = l.length)))) G) : Wp (fProp 0 F_Act_is_swap (.t (acT l)) G) Q E := by
  refine ?G
  exact (by (intro h; exact h) : have h : (type_of% ?G) := (by
  refine f_prop rfl ?_
  unfold F_Act_is_swap d_Act_is_swap
  walk_at "go"
  walk_at "st"
  refine rank_spec ok ?_
  walk_at "st"
  refine o_states ?_
  refine f_len asS_nT ?_
  rw [List.length_map]
  refine f_eqI ?_
  have e : decide (((img l).length : Int) = (l.length : Int)) = decide ((img l).length = l.length) := decide_eq_decide.mpr ⟨fun q => by omega, fun q => by omega⟩
  rw [e]
  exact p_ret (Nat.le_refl _) h
 ); type_of% ?G)
end

end LW

set_option Elab.async false
set_option linter.all false
set_option maxRecDepth 100000
set_option maxHeartbeats 4000000
namespace LW
open PySem L2 BL
local macro_rules | `(tactic| walk_at "st") => `(tactic| repeat (first
  | with_reducible apply s_seq | ((with_reducible apply s_set'); (intro x; simp only [List.set_cons_succ, List.set_cons_zero]; exact rfl)) | with_reducible apply s_set | with_reducible apply s_ret | with_reducible apply s_retN | with_reducible apply s_drop | ((with_reducible apply s_par'); (intro x y; simp only [List.set_cons_succ, List.set_cons_zero]; exact rfl)) | ((with_reducible apply s_par3'); (intro x y z; simp only [setsE, List.set_cons_succ, List.set_cons_zero]; exact rfl)) | ((with_reducible apply s_par4'); (intro x y z w; simp only [setsE, List.set_cons_succ, List.set_cons_zero]; exact rfl)) | ((with_reducible apply s_par5'); (intro x y z w v; simp only [setsE, List.set_cons_succ, List.set_cons_zero]; exact rfl)) | with_reducible apply s_par | with_reducible apply s_put | with_reducible apply s_setF | with_reducible apply s_setL | with_reducible apply s_next | with_reducible apply s_for
  | with_reducible apply e_C | with_reducible apply e_bin | with_reducible apply e_un | with_reducible apply e_not | with_reducible apply e_and | with_reducible apply e_or | with_reducible apply e_ite | with_reducible apply e_chain
  | with_reducible apply e_call1 | with_reducible apply e_call2 | with_reducible apply e_call3 | with_reducible apply e_call4 | with_reducible apply e_args0 | with_reducible apply e_args1 | with_reducible apply e_args2 | with_reducible apply e_args3 | with_reducible apply e_args4 | with_reducible apply e_argsC
  | with_reducible apply e_sl0 | with_reducible apply e_sl1 | ((with_reducible apply e_comp'); (simp only [wipeE, List.set_cons_succ, List.set_cons_zero]; exact rfl)) | with_reducible apply e_comp | with_reducible apply i_R1 | with_reducible apply i_S' | with_reducible apply i_En' | with_reducible apply i_Str
  | ((with_reducible apply e_var); (first | exact rfl | assumption))
  | with_reducible apply f_addI | with_reducible apply f_sub | with_reducible apply f_cmp | with_reducible apply f_int | with_reducible apply f_eqI | with_reducible apply f_neI | with_reducible apply f_lenT | with_reducible apply f_lenL | with_reducible apply f_lenF | with_reducible apply o_deeds | with_reducible apply o_rows | with_reducible apply o_tells | with_reducible apply o_start | with_reducible apply e_disp1 | with_reducible apply e_met | with_reducible apply e_metA | with_reducible apply e_metL | with_reducible apply f_abs
  | with_reducible apply t_T | with_reducible apply t_F
  | with_reducible apply f_neg | with_reducible apply f_nnT | with_reducible apply f_nnF | with_reducible apply f_nonI | with_reducible apply s_raise1 | with_reducible apply s_raise2 | with_reducible apply s_raise3 | ((with_reducible apply f_fld); (exact rfl); (exact rfl)) | ((with_reducible apply f_fldL); (first | exact gNew | assumption); (exact rfl); (exact rfl))
  | ((with_reducible apply f_tupD); (exact rfl); (exact of_decide_eq_true rfl))
  | ((with_reducible apply f_get); (first | exact rfl | exact dkL (by assumption) | exact dkL (gSet (by assumption)) | exact dkL (gSet (gSet (by assumption)))); (exact rfl); (exact rfl))
  | ((with_reducible apply f_mul); (first | exact mulOkL (by decide) (by decide) | exact mulOkR (by decide) (by decide) | exact mulOkL (by omega) (by omega) | exact mulOkR (by omega) (by omega)))
  | ((with_reducible apply f_mod); (first | assumption | decide | omega))
  | ((with_reducible apply f_div); (first | assumption | decide | omega); (first | assumption | decide | omega))
  | ((with_reducible apply f_pow); (exact ⟨by decide, by decide, by decide⟩))
  | ((with_reducible apply f_isi); (exact rfl); (exact rfl))
  | ((with_reducible apply f_lstD); (exact rfl); (exact of_decide_eq_true rfl))
  | ((with_reducible apply putP); (first | assumption | exact gSet (by assumption) | exact gSet (gSet (by assumption))); (exact rfl); (exact rfl); (first | decide | (focus (simp; done))))))
local macro_rules | `(tactic| walk_at "go") => `(tactic| ((first | apply r_pop' | apply r_keep' | apply r_dp'); (simp only [startE, List.map_cons, List.map_nil, List.length_cons, List.length_nil, Nat.reduceAdd, Nat.reduceSub, List.replicate_succ, List.replicate_zero, List.cons_append, List.nil_append]; exact rfl)))
local macro_rules | `(tactic| walk_at "cl") => `(tactic| (first | exact Cl.refl | exact Cl.app | assumption | exact Pen.cl (by assumption) (by assumption)))


/-! ### the law's own powers -/
section
variable {Q : D → Hs → Prop} {E : XP} {G : Hs}
/-- the first k powers of a map, as tuples -/
def powT (n : Nat) (f : Nat → Nat) (k : Nat) : List T := (List.range k).map fun i => nT (pl n (it f i))
theorem powT_len {n k : Nat} {f : Nat → Nat} : (powT n f k).length = k := by unfold powT; simp
theorem powT_last {n k : Nat} {f : Nat → Nat} : atI ((powT n f (k + 1)).map D.t) (-1) = some (.t (nT (pl n (it f k)))) := by
  refine ?G
  exact (by (intro h; exact h) : have h : (type_of% ?G) := (by
  have h : (powT n f (k + 1)).map D.t = (powT n f k).map D.t ++ [.t (nT (pl n (it f k)))] := by
    unfold powT
    rw [List.range_succ, List.map_append, List.map_append]; rfl
  rw [h]
  unfold atI ixN
  simp only [List.length_append, List.length_map, powT_len, List.length_singleton]
  have e1 : ((-1 : Int) + ((k + 1 : Nat) : Int)).toNat = k := by omega
  have e2 : (((powT n f k).map D.t) ++ [D.t (nT (pl n (it f k)))])[k]? = some (.t (nT (pl n (it f k)))) := by
    rw [List.getElem?_append_right (by rw [List.length_map, powT_len]; exact Nat.le_refl _), List.length_map, powT_len, Nat.sub_self]; rfl
  rw [if_neg (by decide)]
  split
  · refine (show Option.bind (some _) _ = _ from ?_)
    show (((powT n f k).map D.t) ++ [D.t (nT (pl n (it f k)))])[((-1 : Int) + ((k + 1 : Nat) : Int)).toNat]? = _
    rw [e1]; exact e2
  · omega
 ); type_of% ?G)
end

end LW

set_option Elab.async false
set_option linter.all false
set_option maxRecDepth 100000
set_option maxHeartbeats 4000000
namespace LW
open PySem L2 BL
local macro_rules | `(tactic| walk_at "st") => `(tactic| repeat (first
  | with_reducible apply s_seq | ((with_reducible apply s_set'); (intro x; simp only [List.set_cons_succ, List.set_cons_zero]; exact rfl)) | with_reducible apply s_set | with_reducible apply s_ret | with_reducible apply s_retN | with_reducible apply s_drop | ((with_reducible apply s_par'); (intro x y; simp only [List.set_cons_succ, List.set_cons_zero]; exact rfl)) | ((with_reducible apply s_par3'); (intro x y z; simp only [setsE, List.set_cons_succ, List.set_cons_zero]; exact rfl)) | ((with_reducible apply s_par4'); (intro x y z w; simp only [setsE, List.set_cons_succ, List.set_cons_zero]; exact rfl)) | ((with_reducible apply s_par5'); (intro x y z w v; simp only [setsE, List.set_cons_succ, List.set_cons_zero]; exact rfl)) | with_reducible apply s_par | with_reducible apply s_put | with_reducible apply s_setF | with_reducible apply s_setL | with_reducible apply s_next | with_reducible apply s_for
  | with_reducible apply e_C | with_reducible apply e_bin | with_reducible apply e_un | with_reducible apply e_not | with_reducible apply e_and | with_reducible apply e_or | with_reducible apply e_ite | with_reducible apply e_chain
  | with_reducible apply e_call1 | with_reducible apply e_call2 | with_reducible apply e_call3 | with_reducible apply e_call4 | with_reducible apply e_args0 | with_reducible apply e_args1 | with_reducible apply e_args2 | with_reducible apply e_args3 | with_reducible apply e_args4 | with_reducible apply e_argsC
  | with_reducible apply e_sl0 | with_reducible apply e_sl1 | ((with_reducible apply e_comp'); (simp only [wipeE, List.set_cons_succ, List.set_cons_zero]; exact rfl)) | with_reducible apply e_comp | with_reducible apply i_R1 | with_reducible apply i_S' | with_reducible apply i_En' | with_reducible apply i_Str
  | ((with_reducible apply e_var); (first | exact rfl | assumption))
  | with_reducible apply f_addI | with_reducible apply f_sub | with_reducible apply f_cmp | with_reducible apply f_int | with_reducible apply f_eqI | with_reducible apply f_neI | with_reducible apply f_lenT | with_reducible apply f_lenL | with_reducible apply f_lenF | with_reducible apply o_deeds | with_reducible apply o_rows | with_reducible apply o_tells | with_reducible apply o_start | with_reducible apply e_disp1 | with_reducible apply e_met | with_reducible apply e_metA | with_reducible apply e_metL | with_reducible apply f_abs
  | with_reducible apply t_T | with_reducible apply t_F
  | with_reducible apply f_neg | with_reducible apply f_nnT | with_reducible apply f_nnF | with_reducible apply f_nonI | with_reducible apply s_raise1 | with_reducible apply s_raise2 | with_reducible apply s_raise3 | ((with_reducible apply f_fld); (exact rfl); (exact rfl)) | ((with_reducible apply f_fldL); (first | exact gNew | assumption); (exact rfl); (exact rfl))
  | ((with_reducible apply f_tupD); (exact rfl); (exact of_decide_eq_true rfl))
  | ((with_reducible apply f_get); (first | exact rfl | exact dkL (by assumption) | exact dkL (gSet (by assumption)) | exact dkL (gSet (gSet (by assumption)))); (exact rfl); (exact rfl))
  | ((with_reducible apply f_mul); (first | exact mulOkL (by decide) (by decide) | exact mulOkR (by decide) (by decide) | exact mulOkL (by omega) (by omega) | exact mulOkR (by omega) (by omega)))
  | ((with_reducible apply f_mod); (first | assumption | decide | omega))
  | ((with_reducible apply f_div); (first | assumption | decide | omega); (first | assumption | decide | omega))
  | ((with_reducible apply f_pow); (exact ⟨by decide, by decide, by decide⟩))
  | ((with_reducible apply f_isi); (exact rfl); (exact rfl))
  | ((with_reducible apply f_lstD); (exact rfl); (exact of_decide_eq_true rfl))
  | ((with_reducible apply putP); (first | assumption | exact gSet (by assumption) | exact gSet (gSet (by assumption))); (exact rfl); (exact rfl); (first | decide | (focus (simp; done))))))
local macro_rules | `(tactic| walk_at "go") => `(tactic| ((first | apply r_pop' | apply r_keep' | apply r_dp'); (simp only [startE, List.map_cons, List.map_nil, List.length_cons, List.length_nil, Nat.reduceAdd, Nat.reduceSub, List.replicate_succ, List.replicate_zero, List.cons_append, List.nil_append]; exact rfl)))
local macro_rules | `(tactic| walk_at "cl") => `(tactic| (first | exact Cl.refl | exact Cl.app | assumption | exact Pen.cl (by assumption) (by assumption)))


section
variable {Q : D → Hs → Prop} {E : XP} {G : Hs}
theorem powers_spec {n : Nat} {f : Nat → Nat} (h1 : 1 ≤ n) (h2 : n ≤ 100) (hf : ∀ s, s < n → f s < n) (h : Q (.t (.lst (powT n f 12))) G) : Wp (F_powers [.t (nT (pl n f)), .t (.int 12)] G) Q E := by
  refine ?G
  exact (by (intro h; exact h) : have h : (type_of% ?G) := (by
  unfold F_powers d_powers
  walk_at "go"
  walk_at "st"
  refine f_len asS_nT ?_
  refine f_rgT (by omega) (by rw [List.length_map, pl_len]; omega) ?_
  rw [List.length_map, pl_len, Int.toNat_natCast, rgT_pl]
  refine f_lstDL (by show 1 ≤ sizeLine; decide) ?_
  walk_at "st"
  refine s_while (fun m r G' => ∃ (k : Nat) (x3 : Option D), r = [some (.t (nT (pl n f))), some (.t (.int 12)), some (.loc G.length), x3] ∧ G' = G ++ [.lst ((powT n f (k + 1)).map D.t)] ∧ k + 1 + m = 12) (n0 := 11) ⟨0, _, rfl, rfl, rfl⟩ ?_
  rintro m r G' ⟨k, x3, rfl, rfl, hk⟩
  walk_at "st"
  refine f_len (asS_loc gNew) ?_
  rw [List.length_map, powT_len]
  walk_at "st"
  refine t_dec (fun q => ?_) (fun q => ?_)
  · walk_at "st"
    apply e_bm
    walk_at "st"
    refine ⟨isL_loc gNew, ?_⟩
    walk_at "st"
    refine f_ix (asS_loc gNew) powT_last ?_
    refine ⟨_, asS_nT, fun kp hkp => ?_⟩
    have e : (pl n (it f k)).map nD = ((List.range n).map fun s => nD (it f k s)) := by unfold pl; rw [List.map_map]; rfl
    rw [e]
    refine c_mapA (xs := List.range n) (f := fun s => nD (it f (k + 1) s)) (hkp _ (fun i hi => (nomatch hi))) (fun j s hs Q' h' => ?_) ?_
    · have hs := List.mem_range.mp (List.mem_of_getElem? hs)
      simp only [List.set_cons_succ, List.set_cons_zero]
      walk_at "st"
      refine f_ix asS_nT (d := nD (it f (k + 1) s)) (BL.atI_nat (by rw [List.getElem?_map, pl_at (it_lt hf hs k)]; rfl)) ?_
      exact h'
    have e2 : (List.range n).map (fun s => nD (it f (k + 1) s)) = ((pl n (it f (k + 1))).map nI).map D.t := by unfold pl; rw [List.map_map, List.map_map]; rfl
    rw [e2]
    refine k_lst (plain_map _) ?_
    refine f_tup asS_lst (plain_map _) ?_
    refine f_app gNew rfl (by rw [List.length_map, powT_len]; omega) ?_
    rw [setNew]
    refine ⟨m - 1, by omega, k + 1, _, rfl, ?_, by omega⟩
    unfold powT
    rw [List.range_succ (n := k + 1), List.map_append, List.map_append]; rfl
  · have e : k = 11 := by omega
    subst e
    walk_at "st"
    refine ⟨Cl.app, .t (.lst (powT n f 12)), ?_, ?_⟩
    · simp only [popD, frz, Nat.lt_irrefl, if_false, gNew, plain_map]; rfl
    · rw [takeNew]; exact h
 ); type_of% ?G)
end

end LW

set_option Elab.async false
set_option linter.all false
set_option maxRecDepth 100000
set_option maxHeartbeats 4000000
namespace LW
open PySem L2 BL
local macro_rules | `(tactic| walk_at "st") => `(tactic| repeat (first
  | with_reducible apply s_seq | ((with_reducible apply s_set'); (intro x; simp only [List.set_cons_succ, List.set_cons_zero]; exact rfl)) | with_reducible apply s_set | with_reducible apply s_ret | with_reducible apply s_retN | with_reducible apply s_drop | ((with_reducible apply s_par'); (intro x y; simp only [List.set_cons_succ, List.set_cons_zero]; exact rfl)) | ((with_reducible apply s_par3'); (intro x y z; simp only [setsE, List.set_cons_succ, List.set_cons_zero]; exact rfl)) | ((with_reducible apply s_par4'); (intro x y z w; simp only [setsE, List.set_cons_succ, List.set_cons_zero]; exact rfl)) | ((with_reducible apply s_par5'); (intro x y z w v; simp only [setsE, List.set_cons_succ, List.set_cons_zero]; exact rfl)) | with_reducible apply s_par | with_reducible apply s_put | with_reducible apply s_setF | with_reducible apply s_setL | with_reducible apply s_next | with_reducible apply s_for
  | with_reducible apply e_C | with_reducible apply e_bin | with_reducible apply e_un | with_reducible apply e_not | with_reducible apply e_and | with_reducible apply e_or | with_reducible apply e_ite | with_reducible apply e_chain
  | with_reducible apply e_call1 | with_reducible apply e_call2 | with_reducible apply e_call3 | with_reducible apply e_call4 | with_reducible apply e_args0 | with_reducible apply e_args1 | with_reducible apply e_args2 | with_reducible apply e_args3 | with_reducible apply e_args4 | with_reducible apply e_argsC
  | with_reducible apply e_sl0 | with_reducible apply e_sl1 | ((with_reducible apply e_comp'); (simp only [wipeE, List.set_cons_succ, List.set_cons_zero]; exact rfl)) | with_reducible apply e_comp | with_reducible apply i_R1 | with_reducible apply i_S' | with_reducible apply i_En' | with_reducible apply i_Str
  | ((with_reducible apply e_var); (first | exact rfl | assumption))
  | with_reducible apply f_addI | with_reducible apply f_sub | with_reducible apply f_cmp | with_reducible apply f_int | with_reducible apply f_eqI | with_reducible apply f_neI | with_reducible apply f_lenT | with_reducible apply f_lenL | with_reducible apply f_lenF | with_reducible apply o_deeds | with_reducible apply o_rows | with_reducible apply o_tells | with_reducible apply o_start | with_reducible apply e_disp1 | with_reducible apply e_met | with_reducible apply e_metA | with_reducible apply e_metL | with_reducible apply f_abs
  | with_reducible apply t_T | with_reducible apply t_F
  | with_reducible apply f_neg | with_reducible apply f_nnT | with_reducible apply f_nnF | with_reducible apply f_nonI | with_reducible apply s_raise1 | with_reducible apply s_raise2 | with_reducible apply s_raise3 | ((with_reducible apply f_fld); (exact rfl); (exact rfl)) | ((with_reducible apply f_fldL); (first | exact gNew | assumption); (exact rfl); (exact rfl))
  | ((with_reducible apply f_tupD); (exact rfl); (exact of_decide_eq_true rfl))
  | ((with_reducible apply f_get); (first | exact rfl | exact dkL (by assumption) | exact dkL (gSet (by assumption)) | exact dkL (gSet (gSet (by assumption)))); (exact rfl); (exact rfl))
  | ((with_reducible apply f_mul); (first | exact mulOkL (by decide) (by decide) | exact mulOkR (by decide) (by decide) | exact mulOkL (by omega) (by omega) | exact mulOkR (by omega) (by omega)))
  | ((with_reducible apply f_mod); (first | assumption | decide | omega))
  | ((with_reducible apply f_div); (first | assumption | decide | omega); (first | assumption | decide | omega))
  | ((with_reducible apply f_pow); (exact ⟨by decide, by decide, by decide⟩))
  | ((with_reducible apply f_isi); (exact rfl); (exact rfl))
  | ((with_reducible apply f_lstD); (exact rfl); (exact of_decide_eq_true rfl))
  | ((with_reducible apply putP); (first | assumption | exact gSet (by assumption) | exact gSet (gSet (by assumption))); (exact rfl); (exact rfl); (first | decide | (focus (simp; done))))))
local macro_rules | `(tactic| walk_at "go") => `(tactic| ((first | apply r_pop' | apply r_keep' | apply r_dp'); (simp only [startE, List.map_cons, List.map_nil, List.length_cons, List.length_nil, Nat.reduceAdd, Nat.reduceSub, List.replicate_succ, List.replicate_zero, List.cons_append, List.nil_append]; exact rfl)))
local macro_rules | `(tactic| walk_at "cl") => `(tactic| (first | exact Cl.refl | exact Cl.app | assumption | exact Pen.cl (by assumption) (by assumption)))


/-! ### what states there are, in ascending order -/
def kvY (S : List Int) : List (Key × D) := S.map fun s => (.inl s, .t (.bl true))
theorem kvY_has : ∀ {S : List Int} {s : Int}, hasA (kvY S) (.inl s) = decide (s ∈ S)
  | [], s => rfl
  | u :: us, s => by
    show (decide ((.inl u : Key) = .inl s) || hasA (kvY us) (.inl s)) = _
    rw [kvY_has, ← Bool.decide_or]
    refine decide_eq_decide.mpr ⟨fun h => ?_, fun h => ?_⟩
    · rcases h with h | h
      · rw [Sum.inl.inj h]; exact .head _
      · exact .tail _ h
    · cases h with
      | head => exact .inl rfl
      | tail _ h => exact .inr h
theorem kvY_mod {k : Key} : ∀ {S : List Int}, modA k (.t (.bl true)) (kvY S) = kvY S
  | [] => rfl
  | u :: us => by
    show (Sum.inl u, if (Sum.inl u : Key) = k then D.t (.bl true) else .t (.bl true)) :: modA k (.t (.bl true)) (kvY us) = _
    rw [kvY_mod, ite_self]; rfl
theorem kvY_put {S : List Int} {s : Int} : putA (kvY S) (.inl s) (.t (.bl true)) = kvY (if s ∈ S then S else S ++ [s]) := by
  unfold putA
  rw [kvY_has, kvY_mod]
  by_cases q : s ∈ S
  · rw [decide_eq_true q, if_pos rfl, if_pos q]
  · rw [decide_eq_false q, if_neg (by decide), if_neg q]
    unfold kvY
    rw [List.map_append]; rfl
theorem ded_le (l : List Int) : (ded l).length ≤ l.length := by
  induction l using snocInd with
  | h0 => exact Nat.le_refl _
  | hs l x ih =>
    rw [ded_snoc, List.length_append]
    split
    · omega
    · rw [List.length_append]; simp only [List.length_singleton]; omega
theorem sort_img {l : List Nat} (h : ∀ x ∈ l, x < l.length) : sortI (ded (zs l)) = zs (img l) := by
  refine ?G
  exact (by (intro h; exact h) : have h : (type_of% ?G) := (by
  refine perm_eq ((sort_perm _).trans ?_) (sort_sorted _) ?_
  · refine (List.perm_ext_iff_of_nodup ded_nodup ?_).mpr fun x => ?_
    · refine List.Pairwise.map _ (fun a b hab hz => hab (by omega)) (List.nodup_range.filter _)
    · rw [mem_ded]
      constructor
      · intro hx
        obtain ⟨y, hy, rfl⟩ := List.mem_map.mp hx
        exact List.mem_map.mpr ⟨y, List.mem_filter.mpr ⟨List.mem_range.mpr (h y hy), decide_eq_true hy⟩, rfl⟩
      · intro hx
        obtain ⟨y, hy, rfl⟩ := List.mem_map.mp hx
        exact List.mem_map.mpr ⟨y, of_decide_eq_true (List.mem_filter.mp hy).2, rfl⟩
  · refine List.Pairwise.map (R := fun a b : Nat => a < b) _ (fun a b hab => by omega) ?_
    exact List.Pairwise.filter _ List.pairwise_lt_range
 ); type_of% ?G)
section
variable {Q : D → Hs → Prop} {E : XP} {G : Hs}
theorem ascending_spec {l : List Nat} (ok : AcOk l) (hl : l.length < 64) (h : Q (.t (nT (img l))) G) : Wp (F_ascending [.t (nT l)] G) Q E := by
  refine ?G
  exact (by (intro h; exact h) : have h : (type_of% ?G) := (by
  unfold F_ascending d_ascending
  walk_at "go"
  walk_at "st"
  refine e_dcK rfl ?_
  walk_at "st"
  refine ⟨_, asS_nT, fun kp hkp => ?_⟩
  refine ⟨fun j G2 => G2 = G ++ [.dk (kvY (ded ((zs l).take j)))], rfl, fun j G2 e => ?_, fun j G2 im hi e => ?_, fun G2 e => ?_⟩
  · exact hkp _ fun i hi => (nomatch hi)
  · subst e
    rw [List.getElem?_map, List.getElem?_map] at hi
    cases es : l[j]? with
    | none => rw [es] at hi; cases hi
    | some s =>
    rw [es] at hi
    cases hi
    refine ⟨_, rfl, ?_⟩
    simp only [List.set_cons_succ, List.set_cons_zero]
    walk_at "st"
    refine ⟨.inl (s : Int), rfl, ?_⟩
    walk_at "st"
    have ez : (zs l)[j]? = some (s : Int) := by rw [List.getElem?_map, es]; rfl
    refine ⟨_, gNew, ?_, ?_⟩
    · show (kvY _).length < _
      unfold kvY
      rw [List.length_map]
      have := ded_le ((zs l).take j)
      rw [List.length_take, List.length_map] at this
      omega
    · rw [kvY_put, setNew, ded_take ez]
  · subst e
    rw [List.length_map, List.length_map]
    have e1 : (zs l).take l.length = zs l := List.take_of_length_le (by rw [List.length_map]; exact Nat.le_refl _)
    rw [e1]
    walk_at "st"
    refine i_Fd ?_
    refine e_fz ?_
    walk_at "st"
    refine ⟨_, rfl, .inl ⟨_, gNew, ?_⟩⟩
    rw [setNew]
    refine ⟨kvY (ded (zs l)), by
      simp only [fdOf, gNew]
      refine if_pos ⟨?_, ?_⟩
      · unfold kvY
        rw [List.length_map]
        have := ded_le (zs l)
        rw [List.length_map] at this
        omega
      · unfold kvY
        rw [List.all_map, List.all_eq_true]
        intro s _; rfl, ?_⟩
    have e2 : (kvY (ded (zs l))).map (fun p => kD p.1) = (ded (zs l)).map dI := by unfold kvY; rw [List.map_map]; rfl
    rw [e2]
    refine c_mapA (xs := ded (zs l)) (f := dI) kp_none (fun j s hs Q' h' => ?_) ?_
    · simp only [List.set_cons_succ, List.set_cons_zero]
      walk_at "st"
      exact h'
    have e3 : (ded (zs l)).map dI = ((ded (zs l)).map T.int).map D.t := by rw [List.map_map]; rfl
    rw [e3]
    refine k_lst (plain_map _) ?_
    refine f_sorted (is := ded (zs l)) (congrArg some e3.symm) (by have := ded_le (zs l); rw [List.length_map] at this; omega) ?_
    rw [sort_img ok.lt]
    refine f_tup asS_lst (plain_map _) ?_
    refine ⟨Cl.app, .t (nT (img l)), by rw [nT_ints]; rfl, ?_⟩
    rw [takeNew]; exact h
 ); type_of% ?G)
theorem image_spec {l : List Nat} (ok : AcOk l) (hl : l.length < 64) (h : Q (.t (nT (img l))) G) : Wp (fProp 0 F_Act_image (.t (acT l)) G) Q E := by
  refine f_prop rfl ?_
  unfold F_Act_image d_Act_image
  walk_at "go"
  walk_at "st"
  refine o_states ?_
  refine ascending_spec ok hl ?_
  exact p_ret (Nat.le_refl _) h
end

end LW

set_option Elab.async false
set_option linter.all false
set_option maxRecDepth 100000
set_option maxHeartbeats 4000000
namespace LW
open PySem L2 BL
local macro_rules | `(tactic| walk_at "st") => `(tactic| repeat (first
  | with_reducible apply s_seq | ((with_reducible apply s_set'); (intro x; simp only [List.set_cons_succ, List.set_cons_zero]; exact rfl)) | with_reducible apply s_set | with_reducible apply s_ret | with_reducible apply s_retN | with_reducible apply s_drop | ((with_reducible apply s_par'); (intro x y; simp only [List.set_cons_succ, List.set_cons_zero]; exact rfl)) | ((with_reducible apply s_par3'); (intro x y z; simp only [setsE, List.set_cons_succ, List.set_cons_zero]; exact rfl)) | ((with_reducible apply s_par4'); (intro x y z w; simp only [setsE, List.set_cons_succ, List.set_cons_zero]; exact rfl)) | ((with_reducible apply s_par5'); (intro x y z w v; simp only [setsE, List.set_cons_succ, List.set_cons_zero]; exact rfl)) | with_reducible apply s_par | with_reducible apply s_put | with_reducible apply s_setF | with_reducible apply s_setL | with_reducible apply s_next | with_reducible apply s_for
  | with_reducible apply e_C | with_reducible apply e_bin | with_reducible apply e_un | with_reducible apply e_not | with_reducible apply e_and | with_reducible apply e_or | with_reducible apply e_ite | with_reducible apply e_chain
  | with_reducible apply e_call1 | with_reducible apply e_call2 | with_reducible apply e_call3 | with_reducible apply e_call4 | with_reducible apply e_args0 | with_reducible apply e_args1 | with_reducible apply e_args2 | with_reducible apply e_args3 | with_reducible apply e_args4 | with_reducible apply e_argsC
  | with_reducible apply e_sl0 | with_reducible apply e_sl1 | ((with_reducible apply e_comp'); (simp only [wipeE, List.set_cons_succ, List.set_cons_zero]; exact rfl)) | with_reducible apply e_comp | with_reducible apply i_R1 | with_reducible apply i_S' | with_reducible apply i_En' | with_reducible apply i_Str
  | ((with_reducible apply e_var); (first | exact rfl | assumption))
  | with_reducible apply f_addI | with_reducible apply f_sub | with_reducible apply f_cmp | with_reducible apply f_int | with_reducible apply f_eqI | with_reducible apply f_neI | with_reducible apply f_lenT | with_reducible apply f_lenL | with_reducible apply f_lenF | with_reducible apply o_deeds | with_reducible apply o_rows | with_reducible apply o_tells | with_reducible apply o_start | with_reducible apply e_disp1 | with_reducible apply e_met | with_reducible apply e_metA | with_reducible apply e_metL | with_reducible apply f_abs
  | with_reducible apply t_T | with_reducible apply t_F
  | with_reducible apply f_neg | with_reducible apply f_nnT | with_reducible apply f_nnF | with_reducible apply f_nonI | with_reducible apply s_raise1 | with_reducible apply s_raise2 | with_reducible apply s_raise3 | ((with_reducible apply f_fld); (exact rfl); (exact rfl)) | ((with_reducible apply f_fldL); (first | exact gNew | assumption); (exact rfl); (exact rfl))
  | ((with_reducible apply f_tupD); (exact rfl); (exact of_decide_eq_true rfl))
  | ((with_reducible apply f_get); (first | exact rfl | exact dkL (by assumption) | exact dkL (gSet (by assumption)) | exact dkL (gSet (gSet (by assumption)))); (exact rfl); (exact rfl))
  | ((with_reducible apply f_mul); (first | exact mulOkL (by decide) (by decide) | exact mulOkR (by decide) (by decide) | exact mulOkL (by omega) (by omega) | exact mulOkR (by omega) (by omega)))
  | ((with_reducible apply f_mod); (first | assumption | decide | omega))
  | ((with_reducible apply f_div); (first | assumption | decide | omega); (first | assumption | decide | omega))
  | ((with_reducible apply f_pow); (exact ⟨by decide, by decide, by decide⟩))
  | ((with_reducible apply f_isi); (exact rfl); (exact rfl))
  | ((with_reducible apply f_lstD); (exact rfl); (exact of_decide_eq_true rfl))
  | ((with_reducible apply putP); (first | assumption | exact gSet (by assumption) | exact gSet (gSet (by assumption))); (exact rfl); (exact rfl); (first | decide | (focus (simp; done))))))
local macro_rules | `(tactic| walk_at "go") => `(tactic| ((first | apply r_pop' | apply r_keep' | apply r_dp'); (simp only [startE, List.map_cons, List.map_nil, List.length_cons, List.length_nil, Nat.reduceAdd, Nat.reduceSub, List.replicate_succ, List.replicate_zero, List.cons_append, List.nil_append]; exact rfl)))
local macro_rules | `(tactic| walk_at "cl") => `(tactic| (first | exact Cl.refl | exact Cl.app | assumption | exact Pen.cl (by assumption) (by assumption)))


/-! ### what the law asks of an act -/
section
variable {Q : D → Hs → Prop} {E : XP} {G : Hs}
theorem getO_spec {l : List Nat} {k v : Nat} (hv : l[k]? = some v) (h : Q (nD v) G) : Wp (fGetO 0 F_Act_getitem (.t (acT l)) (nD k) G) Q E := by
  refine ?G
  exact (by (intro h; exact h) : have h : (type_of% ?G) := (by
  have hk := (List.getElem?_eq_some_iff.mp hv).1
  refine f_getO rfl ?_
  unfold F_Act_getitem d_Act_getitem
  walk_at "go"
  walk_at "st"
  apply s_if
  walk_at "st"
  refine o_states ?_
  refine f_len asS_nT ?_
  rw [List.length_map]
  walk_at "st"
  refine is_within_int (by omega) (by omega) ?_
  walk_at "st"
  refine o_states ?_
  walk_at "st"
  refine f_ix asS_nT (d := nD v) (BL.atI_nat (by rw [List.getElem?_map, hv]; rfl)) ?_
  exact p_ret (Nat.le_refl _) h
 ); type_of% ?G)
theorem eq_same {x : T} (hb : noB x = true) (hd : dep x ≤ 64) {neg : Bool} (h : Q (.t (.bl (!neg))) G) : Wp (fEq neg (.t x) (.t x) G) Q E := by
  refine f_eqT rfl rfl hb hb hd fun t ht => ?_
  have : t = !neg := by
    cases neg with
    | true =>
      cases t with
      | false => rfl
      | true => exact absurd rfl (ht.mp rfl)
    | false => exact ht.mpr rfl
  rw [this]; exact h
theorem ne_same {x : T} (hb : noB x = true) (hd : dep x ≤ 64) (h : Q (.t (.bl false)) G) : Wp (fEq true (.t x) (.t x) G) Q E := eq_same hb hd h
theorem eq_bb {neg a b : Bool} (h : Q (.t (.bl (if neg then a != b else a == b))) G) : Wp (fEq neg (.t (.bl a)) (.t (.bl b)) G) Q E := by
  cases neg <;> cases a <;> cases b <;> exact e_ok h
theorem in_tf {b : Bool} (h : Q (.t (.bl false)) G) : Wp (fIn true (.t (.bl b)) (.t (.lst [.bl true, .bl false])) G) Q E := by
  cases b <;> exact e_ok h
theorem l_is_act_spec {l : List Nat} (ok : AcOk l) (hl : l.length < 64) (h : Q (.t (.bl true)) G) : Wp (F_l_is_act [.t (acT l), .t (nT l)] G) Q E := by
  refine ?G
  exact (by (intro h; exact h) : have h : (type_of% ?G) := (by
  unfold F_l_is_act d_l_is_act
  walk_at "go"
  walk_at "st"
  refine f_len asS_nT ?_
  rw [List.length_map]
  refine ⟨_, rfl, by omega, by omega, ?_⟩
  rw [Int.toNat_natCast]
  refine c_filter (xs := List.range l.length) (g := fun i : Nat => D.t (.int (i : Int))) (f := nD) (fun i => decide (i ∈ l)) kp_none (fun j a ha Q' h' => ?_) (fun j a ha hp Q' h' => ?_) ?_
  · simp only [List.set_cons_succ, List.set_cons_zero]
    walk_at "st"
    refine f_inI (is := zs l) (by rw [nT_ints]; exact (asS_tup).trans (by rw [List.map_map]; rfl)) ?_
    have e : decide ((a : Int) ∈ zs l) = decide (a ∈ l) := decide_eq_decide.mpr ⟨fun q => by
      obtain ⟨y, hy, e⟩ := List.mem_map.mp q
      have : a = y := by omega
      rw [this]; exact hy, fun q => List.mem_map.mpr ⟨a, q, rfl⟩⟩
    rw [e]; exact h'
  · simp only [List.set_cons_succ, List.set_cons_zero]
    walk_at "st"
    exact h'
  have e1 : ((List.range l.length).filter fun i => decide (i ∈ l)).map nD = ((img l).map nI).map D.t := by rw [List.map_map]; rfl
  rw [e1]
  refine k_lst (plain_map _) ?_
  refine f_tup asS_lst (plain_map _) ?_
  apply s_seq
  apply s_if
  walk_at "st"
  refine o_states ?_
  walk_at "st"
  refine ne_same (noB_nT l) (by rw [dep_nT]; decide) ?_
  walk_at "st"
  refine image_spec ok hl ?_
  walk_at "st"
  refine ne_same (noB_nT (img l)) (by rw [dep_nT]; decide) ?_
  walk_at "st"
  refine rank_spec ok ?_
  walk_at "st"
  rw [List.length_map]
  refine ne_same rfl (by show 0 ≤ 64; decide) ?_
  walk_at "st"
  apply s_if
  walk_at "st"
  refine is_swap_spec ok ?_
  walk_at "st"
  refine f_len asS_nT ?_
  rw [List.length_map, List.length_map]
  refine f_eqI ?_
  have e2 : decide (((img l).length : Int) = (l.length : Int)) = decide ((img l).length = l.length) := decide_eq_decide.mpr ⟨fun q => by omega, fun q => by omega⟩
  rw [e2]
  refine eq_bb ?_
  rw [if_pos rfl, bne_self_eq_false]
  walk_at "st"
  refine is_swap_spec ok ?_
  walk_at "st"
  refine in_tf ?_
  walk_at "st"
  refine f_len asS_nT ?_
  rw [List.length_map]
  refine ⟨_, rfl, by omega, by omega, ?_⟩
  rw [Int.toNat_natCast]
  refine c_mapA (xs := List.range l.length) (g := fun i : Nat => D.t (.int (i : Int))) (f := fun i => nD (l.getD i 0)) kp_none (fun j a ha Q' h' => ?_) ?_
  · have ha := List.mem_range.mp (List.mem_of_getElem? ha)
    simp only [List.set_cons_succ, List.set_cons_zero]
    walk_at "st"
    refine getO_spec (k := a) (v := l.getD a 0) ?_ h'
    rw [List.getD_eq_getElem?_getD, List.getElem?_eq_getElem ha]; rfl
  have e3 : (List.range l.length).map (fun i => nD (l.getD i 0)) = (l.map nI).map D.t := by
    have := congrArg (List.map nD) (pl_self (l := l))
    unfold pl at this
    rw [List.map_map] at this
    rw [List.map_map]
    exact this
  rw [e3]
  refine k_lst (plain_map _) ?_
  walk_at "st"
  refine f_lst asS_nT (ts := l.map nI) (by rw [show l.map nD = (l.map nI).map D.t by rw [List.map_map]; rfl]; exact plain_map _) ?_
  refine eq_same (by show noBs (l.map nI) = true; exact noB_nT l) (by show dep (nT l) ≤ 64; rw [dep_nT]; decide) ?_
  exact p_ret (Nat.le_refl _) h
 ); type_of% ?G)
end

end LW

set_option Elab.async false
set_option linter.all false
set_option maxRecDepth 100000
set_option maxHeartbeats 4000000
namespace LW
open PySem L2 BL
local macro_rules | `(tactic| walk_at "st") => `(tactic| repeat (first
  | with_reducible apply s_seq | ((with_reducible apply s_set'); (intro x; simp only [List.set_cons_succ, List.set_cons_zero]; exact rfl)) | with_reducible apply s_set | with_reducible apply s_ret | with_reducible apply s_retN | with_reducible apply s_drop | ((with_reducible apply s_par'); (intro x y; simp only [List.set_cons_succ, List.set_cons_zero]; exact rfl)) | ((with_reducible apply s_par3'); (intro x y z; simp only [setsE, List.set_cons_succ, List.set_cons_zero]; exact rfl)) | ((with_reducible apply s_par4'); (intro x y z w; simp only [setsE, List.set_cons_succ, List.set_cons_zero]; exact rfl)) | ((with_reducible apply s_par5'); (intro x y z w v; simp only [setsE, List.set_cons_succ, List.set_cons_zero]; exact rfl)) | with_reducible apply s_par | with_reducible apply s_put | with_reducible apply s_setF | with_reducible apply s_setL | with_reducible apply s_next | with_reducible apply s_for
  | with_reducible apply e_C | with_reducible apply e_bin | with_reducible apply e_un | with_reducible apply e_not | with_reducible apply e_and | with_reducible apply e_or | with_reducible apply e_ite | with_reducible apply e_chain
  | with_reducible apply e_call1 | with_reducible apply e_call2 | with_reducible apply e_call3 | with_reducible apply e_call4 | with_reducible apply e_args0 | with_reducible apply e_args1 | with_reducible apply e_args2 | with_reducible apply e_args3 | with_reducible apply e_args4 | with_reducible apply e_argsC
  | with_reducible apply e_sl0 | with_reducible apply e_sl1 | ((with_reducible apply e_comp'); (simp only [wipeE, List.set_cons_succ, List.set_cons_zero]; exact rfl)) | with_reducible apply e_comp | with_reducible apply i_R1 | with_reducible apply i_S' | with_reducible apply i_En' | with_reducible apply i_Str
  | ((with_reducible apply e_var); (first | exact rfl | assumption))
  | with_reducible apply f_addI | with_reducible apply f_sub | with_reducible apply f_cmp | with_reducible apply f_int | with_reducible apply f_eqI | with_reducible apply f_neI | with_reducible apply f_lenT | with_reducible apply f_lenL | with_reducible apply f_lenF | with_reducible apply o_deeds | with_reducible apply o_rows | with_reducible apply o_tells | with_reducible apply o_start | with_reducible apply e_disp1 | with_reducible apply e_met | with_reducible apply e_metA | with_reducible apply e_metL | with_reducible apply f_abs
  | with_reducible apply t_T | with_reducible apply t_F
  | with_reducible apply f_neg | with_reducible apply f_nnT | with_reducible apply f_nnF | with_reducible apply f_nonI | with_reducible apply s_raise1 | with_reducible apply s_raise2 | with_reducible apply s_raise3 | ((with_reducible apply f_fld); (exact rfl); (exact rfl)) | ((with_reducible apply f_fldL); (first | exact gNew | assumption); (exact rfl); (exact rfl))
  | ((with_reducible apply f_tupD); (exact rfl); (exact of_decide_eq_true rfl))
  | ((with_reducible apply f_get); (first | exact rfl | exact dkL (by assumption) | exact dkL (gSet (by assumption)) | exact dkL (gSet (gSet (by assumption)))); (exact rfl); (exact rfl))
  | ((with_reducible apply f_mul); (first | exact mulOkL (by decide) (by decide) | exact mulOkR (by decide) (by decide) | exact mulOkL (by omega) (by omega) | exact mulOkR (by omega) (by omega)))
  | ((with_reducible apply f_mod); (first | assumption | decide | omega))
  | ((with_reducible apply f_div); (first | assumption | decide | omega); (first | assumption | decide | omega))
  | ((with_reducible apply f_pow); (exact ⟨by decide, by decide, by decide⟩))
  | ((with_reducible apply f_isi); (exact rfl); (exact rfl))
  | ((with_reducible apply f_lstD); (exact rfl); (exact of_decide_eq_true rfl))
  | ((with_reducible apply putP); (first | assumption | exact gSet (by assumption) | exact gSet (gSet (by assumption))); (exact rfl); (exact rfl); (first | decide | (focus (simp; done))))))
local macro_rules | `(tactic| walk_at "go") => `(tactic| ((first | apply r_pop' | apply r_keep' | apply r_dp'); (simp only [startE, List.map_cons, List.map_nil, List.length_cons, List.length_nil, Nat.reduceAdd, Nat.reduceSub, List.replicate_succ, List.replicate_zero, List.cons_append, List.nil_append]; exact rfl)))
local macro_rules | `(tactic| walk_at "cl") => `(tactic| (first | exact Cl.refl | exact Cl.app | assumption | exact Pen.cl (by assumption) (by assumption)))


/-! ### values that are refused -/
section
variable {Q : D → Hs → Prop} {E : XP} {G : Hs}
theorem pick_spec {p : Nat} {k : Int} {ts : List T} (hp : Pen p k G) (h0 : 0 < ts.length) (hl : ts.length ≤ 1000) (hk : k < 4611686018423087904) (hq : ∀ t G', t ∈ ts → Pen p (k + 1) G' → Q (.t t) G') : Wp (F_pick [.loc p, .t (.lst ts)] G) Q E := by
  refine ?G
  exact (by (intro h; exact h) : have h : (type_of% ?G) := (by
  unfold F_pick d_pick
  walk_at "go"
  walk_at "st"
  refine draw_spec hp (by omega) (by omega) hk (fun v G1 hv0 hv1 hp1 hf1 => ?_)
  obtain ⟨n, rfl⟩ : ∃ n : Nat, v = (n : Int) := ⟨v.toNat, by omega⟩
  have hn : n < ts.length := by omega
  refine f_ix asS_lst (d := .t ts[n]) (BL.atI_nat (by rw [List.getElem?_map, List.getElem?_eq_getElem hn]; rfl)) ?_
  exact p_ret (Nat.le_of_eq hf1.1) (hq _ _ (List.getElem_mem hn) hp1) (hp1.cl hf1)
 ); type_of% ?G)
/-- a value whose repr is told -/
def Shown (t : T) : Prop := ∃ y, reprT t = some y ∧ PyData.strOk y = true
theorem refused_eq {c : Nat} {tag f : Str} {t : T} (ht : Shown t) (he : ∀ y, reprT t = some y → PyData.strOk y = true → ∀ G, catchD c [f] [.t t] G hs_refused = .ok (.t (.tup [.str tag, .str y])) G)
    (h : ∀ y, reprT t = some y → PyData.strOk y = true → Q (.t (.tup [.str tag, .str y])) G) : Wp (catchD c [f] [.t t] G hs_refused) Q E := by
  obtain ⟨y, h1, h2⟩ := ht
  rw [he y h1 h2]
  exact e_ok (h y h1 h2)
theorem c_state {t : T} (ht : Shown t) (h : ∀ y, reprT t = some y → PyData.strOk y = true → Q (.t (.tup [.str "state", .str y])) G) : Wp (catchD 2 ["state"] [.t t] G hs_refused) Q E := by
  refine ?G
  exact (by (intro h; exact h) : have h : (type_of% ?G) := (
  refused_eq ht (fun y h1 h2 G => by
    show (match ptsV 2 ["state"] [.t t] [.cst (.str "state"), .rpr 2 "state"] with
      | some ts => if ts.length ≤ sizeLine then Re.ok (.t (.tup ts)) G else .stuck
      | none => .stuck) = _
    have e : ptsV 2 ["state"] [.t t] [.cst (.str "state"), .rpr 2 "state"] = some [.str "state", .str y] := by
      simp only [ptsV, ptV, zipLk, h1, h2, if_true, beq_self_eq_true]
    rw [e]; rfl) h
 ); type_of% ?G)
theorem c_number {t : T} (ht : Shown t) (h : ∀ y, reprT t = some y → PyData.strOk y = true → Q (.t (.tup [.str "number", .str y])) G) : Wp (catchD 3 ["number"] [.t t] G hs_refused) Q E := by
  refine ?G
  exact (by (intro h; exact h) : have h : (type_of% ?G) := (
  refused_eq ht (fun y h1 h2 G => by
    show (match ptsV 3 ["number"] [.t t] [.cst (.str "number"), .rpr 3 "number"] with
      | some ts => if ts.length ≤ sizeLine then Re.ok (.t (.tup ts)) G else .stuck
      | none => .stuck) = _
    have e : ptsV 3 ["number"] [.t t] [.cst (.str "number"), .rpr 3 "number"] = some [.str "number", .str y] := by
      simp only [ptsV, ptV, zipLk, h1, h2, if_true, beq_self_eq_true]
    rw [e]; rfl) h
 ); type_of% ?G)
theorem c_act {t : T} (ht : Shown t) (h : ∀ y, reprT t = some y → PyData.strOk y = true → Q (.t (.tup [.str "act", .str y])) G) : Wp (catchD 1 ["states"] [.t t] G hs_refused) Q E := by
  refine ?G
  exact (by (intro h; exact h) : have h : (type_of% ?G) := (
  refused_eq ht (fun y h1 h2 G => by
    show (match ptsV 1 ["states"] [.t t] [.cst (.str "act"), .rpr 1 "states"] with
      | some ts => if ts.length ≤ sizeLine then Re.ok (.t (.tup ts)) G else .stuck
      | none => .stuck) = _
    have e : ptsV 1 ["states"] [.t t] [.cst (.str "act"), .rpr 1 "states"] = some [.str "act", .str y] := by
      simp only [ptsV, ptV, zipLk, h1, h2, if_true, beq_self_eq_true]
    rw [e]; rfl) h
 ); type_of% ?G)
theorem c_uneven {a b : Int} (h : Q (.t (.tup [.str "uneven", .int a, .int b])) G) : Wp (catchD 4 ["most", "many"] [.t (.int b), .t (.int a)] G hs_refused) Q E := f_catch (fun _ => rfl) h
theorem shown_closed {t : T} (h : ((reprT t).elim false PyData.strOk) = true) : Shown t := by
  cases e : reprT t with
  | none => rw [e] at h; cases h
  | some y => rw [e] at h; exact ⟨y, e, h⟩
end
/-! lists of small numbers are shown -/
theorem okS_from : ∀ (ts : List Str) (k : Nat) (acc : Str), okS acc → (∀ t ∈ ts, okS t ∧ t.length ≤ 1) → okS (textFrom k acc ts) ∧ (textFrom k acc ts).length ≤ acc.length + 3 * ts.length
  | [], k, acc, h, _ => ⟨h, by show acc.length ≤ acc.length + _; omega⟩
  | t :: ts, k, acc, h, ht => by
    have hc : okS (((if k > 0 then ", " else "" : String) : Str)) ∧ (((if k > 0 then ", " else "" : String) : Str)).length ≤ 2 := by
      split
      · exact ⟨by decide +kernel, by decide +kernel⟩
      · exact ⟨by decide +kernel, by decide +kernel⟩
    have h1 := ht t (.head _)
    obtain ⟨a, b⟩ := okS_from ts (k + 1) (acc ++ ((if k > 0 then ", " else "" : String) : Str) ++ t) (okS_app (okS_app h hc.1) h1.1) fun u hu => ht u (.tail _ hu)
    rw [strLen_append, strLen_append] at b
    refine ⟨a, Nat.le_trans b ?_⟩
    rw [List.length_cons]
    have := hc.2
    have := h1.2
    omega
theorem okS_join : ∀ (ts : List Str), (∀ t ∈ ts, okS t ∧ t.length ≤ 1) → okS (Str.join ", " ts) ∧ (Str.join ", " ts).length ≤ 3 * ts.length
  | [], _ => ⟨by decide +kernel, by decide +kernel⟩
  | [t], h => by
    have := h t (.head _)
    exact ⟨this.1, by show t.length ≤ 3 * 1; omega⟩
  | t :: u :: ts, h => by
    obtain ⟨a, b⟩ := okS_join (u :: ts) fun x hx => h x (.tail _ hx)
    have h1 := h t (.head _)
    refine ⟨okS_app (okS_app h1.1 (by decide +kernel)) a, ?_⟩
    show (t ++ ((", " : String) : Str) ++ Str.join ", " (u :: ts)).length ≤ _
    rw [strLen_append, strLen_append]
    have e2 : ((", " : String) : Str).length = 2 := rfl
    rw [e2]
    simp only [List.length_cons] at b ⊢
    omega
def digD (n : Nat) : PyData := .int (n : Int)
theorem dig_ok : ∀ n, n < 10 → (PyData.showable (digD n) && (decide (PyData.depth (digD n) = 0) && (PyData.strOk (PyData.shown (digD n)) && decide ((PyData.shown (digD n)).length ≤ 1)))) = true := by decide +kernel
theorem pyTs_dig : ∀ l : List Nat, pyTs (l.map nI) = some (l.map digD)
  | [] => rfl
  | n :: l => by
    show (match pyT (nI n), pyTs (l.map nI) with
      | some d, some ds => some (d :: ds)
      | _, _ => none) = _
    rw [pyTs_dig l]; rfl
theorem digs_ok : ∀ l : List Nat, (∀ x ∈ l, x ≤ 9) → PyData.showableAll (l.map digD) = true ∧ PyData.depthAll (l.map digD) = 0 ∧ (PyData.shownAll (l.map digD)).length = l.length ∧ ∀ t ∈ PyData.shownAll (l.map digD), okS t ∧ t.length ≤ 1
  | [], _ => ⟨rfl, rfl, rfl, fun t ht => nomatch ht⟩
  | n :: l, h => by
    obtain ⟨a, b, c, d⟩ := digs_ok l fun x hx => h x (.tail _ hx)
    have hn := dig_ok n (by have := h n (.head _); omega)
    simp only [Bool.and_eq_true, decide_eq_true_eq] at hn
    refine ⟨?_, ?_, ?_, ?_⟩
    · show (PyData.showable (digD n) && PyData.showableAll (l.map digD)) = true
      rw [hn.1, a]; rfl
    · show max (PyData.depth (digD n)) (PyData.depthAll (l.map digD)) = 0
      rw [hn.2.1, b]; rfl
    · show (PyData.shown (digD n) :: PyData.shownAll (l.map digD)).length = _
      rw [List.length_cons, c]; rfl
    · intro t ht
      rcases List.mem_cons.mp (show t ∈ PyData.shown (digD n) :: PyData.shownAll (l.map digD) from ht) with rfl | ht
      · exact ⟨hn.2.2.1, hn.2.2.2⟩
      · exact d t ht
theorem shown_lst {l : List Nat} (hl : l.length ≤ 100) (h : ∀ x ∈ l, x ≤ 9) : Shown (.lst (l.map nI)) := by
  refine ?G
  exact (by (intro h; exact h) : have h : (type_of% ?G) := (by
  obtain ⟨a, b, c, d⟩ := digs_ok l h
  obtain ⟨p, q⟩ := okS_from (PyData.shownAll (l.map digD)) 0 "[" (by decide +kernel) d
  have e : PyData.shown (.list (l.map digD)) = textFrom 0 "[" (PyData.shownAll (l.map digD)) ++ "]" := rfl
  have ok : okS (PyData.shown (.list (l.map digD))) := by rw [e]; exact okS_app p (by decide +kernel)
  have hk : okPy (.list (l.map digD)) = true := by
    unfold okPy
    rw [Bool.and_eq_true, Bool.and_eq_true, Bool.and_eq_true, decide_eq_true_eq, decide_eq_true_eq]
    refine ⟨a, ?_, ?_, ok⟩
    · show PyData.depthAll (l.map digD) + 1 ≤ 40
      rw [b]; decide
    · rw [e, strLen_append, sizeLine_eq]
      have e1 : ((("[" : String) : Str)).length = 1 := rfl
      have e2 : ((("]" : String) : Str)).length = 1 := rfl
      rw [e1, c] at q
      rw [e2]
      omega
  refine ⟨_, ?_, ok⟩
  show (match (pyTs (l.map nI)).map PyData.list with
    | some d => if okPy d = true then some d.shown else none
    | none => none) = _
  rw [pyTs_dig]
  exact if_pos hk
 ); type_of% ?G)
theorem shown_tup {l : List Nat} (hl : l.length ≤ 100) (h : ∀ x ∈ l, x ≤ 9) : Shown (.tup (l.map nI)) := by
  refine ?G
  exact (by (intro h; exact h) : have h : (type_of% ?G) := (by
  obtain ⟨a, b, c, d⟩ := digs_ok l h
  obtain ⟨p, q⟩ := okS_join (PyData.shownAll (l.map digD)) d
  have e : PyData.shown (.tuple (l.map digD)) = (("(" : String) : Str) ++ Str.join ", " (PyData.shownAll (l.map digD)) ++ ((if (PyData.shownAll (l.map digD)).length == 1 then ",)" else ")" : String) : Str) := rfl
  have hc : okS (((if (PyData.shownAll (l.map digD)).length == 1 then ",)" else ")" : String) : Str)) ∧ (((if (PyData.shownAll (l.map digD)).length == 1 then ",)" else ")" : String) : Str)).length ≤ 2 := by
    split
    · exact ⟨by decide +kernel, by decide +kernel⟩
    · exact ⟨by decide +kernel, by decide +kernel⟩
  have ok : okS (PyData.shown (.tuple (l.map digD))) := by rw [e]; exact okS_app (okS_app (by decide +kernel) p) hc.1
  have hk : okPy (.tuple (l.map digD)) = true := by
    unfold okPy
    rw [Bool.and_eq_true, Bool.and_eq_true, Bool.and_eq_true, decide_eq_true_eq, decide_eq_true_eq]
    refine ⟨a, ?_, ?_, ok⟩
    · show PyData.depthAll (l.map digD) + 1 ≤ 40
      rw [b]; decide
    · rw [e, strLen_append, strLen_append, sizeLine_eq]
      have e1 : ((("(" : String) : Str)).length = 1 := rfl
      have := hc.2
      rw [c] at q
      rw [e1]
      omega
  refine ⟨_, ?_, ok⟩
  show (match (pyTs (l.map nI)).map PyData.tuple with
    | some d => if okPy d = true then some d.shown else none
    | none => none) = _
  rw [pyTs_dig]
  exact if_pos hk
 ); type_of% ?G)
/-! what is refused -/
section
variable {Q : D → Hs → Prop} {E : XP} {G : Hs}
theorem getitem_no {l : List Nat} {t : T} (hv : Val t) (hb : inB t 0 ((l.length : Int) - 1) = false) (h : E 2 ["state"] [.t t] G) : Wp (F_Act_getitem [.t (acT l), .t t] G) Q E := by
  unfold F_Act_getitem d_Act_getitem
  walk_at "go"
  apply s_seq
  apply s_if
  walk_at "st"
  refine o_states ?_
  refine f_len asS_nT ?_
  rw [List.length_map]
  walk_at "st"
  refine is_withinT hv ?_
  rw [hb]
  walk_at "st"
  refine ⟨Cl.refl, _, rfl, ?_⟩
  rw [List.take_of_length_le (Nat.le_refl _)]; exact h
theorem times_no {l : List Nat} {t : T} (hv : Val t) (hb : inB t 0 1000000000000000000000000000000 = false) (h : E 3 ["number"] [.t t] G) : Wp (F_Act_times [.t (acT l), .t t] G) Q E := by
  unfold F_Act_times d_Act_times
  walk_at "go"
  apply s_seq
  apply s_if
  walk_at "st"
  refine is_withinT hv ?_
  rw [hb]
  walk_at "st"
  refine ⟨Cl.refl, _, rfl, ?_⟩
  rw [List.take_of_length_le (Nat.le_refl _)]; exact h
theorem mul_no {l l' : List Nat} (hl : l.length ≠ l'.length) (h : E 4 ["most", "many"] [.t (.int l'.length), .t (.int l.length)] G) : Wp (fMulO 0 F_Act_mul (.t (acT l)) (.t (acT l')) G) Q E := by
  refine ?G
  exact (by (intro h; exact h) : have h : (type_of% ?G) := (by
  refine f_mulO rfl rfl ?_
  unfold F_Act_mul d_Act_mul
  walk_at "go"
  apply s_seq
  apply s_if
  walk_at "st"
  apply s_if
  walk_at "st"
  refine o_states ?_
  refine f_len asS_nT ?_
  walk_at "st"
  refine o_states ?_
  refine f_len asS_nT ?_
  rw [List.length_map, List.length_map]
  walk_at "st"
  refine t_ndec (fun _ => ?_) (fun q => absurd (by omega) hl)
  walk_at "st"
  refine o_states ?_
  refine f_len asS_nT ?_
  walk_at "st"
  refine o_states ?_
  refine f_len asS_nT ?_
  rw [List.length_map, List.length_map]
  refine ⟨Cl.refl, _, rfl, ?_⟩
  rw [List.take_of_length_le (Nat.le_refl _)]; exact h
 ); type_of% ?G)
def tupB : T → Bool
  | .tup _ => true
  | .ftp _ => true
  | _ => false
/-- what no act has -/
def NoAct (t : T) : Prop := (tupB t = false ∧ Val t) ∨ ∃ ts : List T, t = .tup ts ∧ (∀ u ∈ ts, Val u) ∧ (ts = [] ∨ (ts.all fun u => inB u 0 ((ts.length : Int) - 1)) = false)
theorem is_act_tup {ts : List T} (hv : ∀ u ∈ ts, Val u) (hb : ts = [] ∨ (ts.all fun u => inB u 0 ((ts.length : Int) - 1)) = false) (h : Q (.t (.bl false)) G) : Wp (F_is_act [.t (.tup ts)] G) Q E := by
  refine ?G
  exact (by (intro h; exact h) : have h : (type_of% ?G) := (by
  unfold F_is_act d_is_act
  walk_at "go"
  walk_at "st"
  apply s_if
  walk_at "st"
  refine t_dec (fun _ => ?_) (fun q => ?_)
  · walk_at "st"
    exact p_ret (Nat.le_refl _) h
  · have hb : (ts.all fun u => inB u 0 ((ts.length : Int) - 1)) = false := by
      rcases hb with rfl | hb
      · exact absurd rfl q
      · exact hb
    refine s_next ?_
    refine s_ret ?_
    refine e_all (fun d => match d with | .t u => inB u 0 ((ts.length : Int) - 1) | _ => false) ?_
    walk_at "st"
    refine ⟨_, asS_tup, fun kp hkp => ⟨rfl, hkp G fun _ _ => rfl, _, rfl, fun d' hd' Q' h' => ?_, ?_⟩⟩
    · obtain ⟨v, hv', rfl⟩ := List.mem_map.mp hd'
      walk_at "st"
      refine is_withinT (hv v hv') ?_
      exact h'
    · rw [List.all_map]
      show _ ∧ ∃ e, _
      have e : ts.all ((fun d => match d with | D.t u => inB u 0 ((ts.length : Int) - 1) | _ => false) ∘ D.t) = false := hb
      rw [e]
      exact p_ret (Nat.le_refl _) h
 ); type_of% ?G)
theorem is_act_no {t : T} (ht : tupB t = false) (hv : Val t) (h : Q (.t (.bl false)) G) : Wp (F_is_act [.t t] G) Q E := by
  cases t with
  | tup ts => cases ht
  | ftp ts => cases ht
  | obj c ns ts => exact hv.elim
  | cls c => exact hv.elim
  | nd ks ts => exact hv.elim
  | _ =>
    unfold F_is_act d_is_act
    walk_at "go"
    walk_at "st"
    apply s_if
    walk_at "st"
    exact p_ret (Nat.le_refl _) h
theorem make_no {t : T} (ht : NoAct t) (h : E 1 ["states"] [.t t] G) : Wp (mkEnd G (F_Act_init [.loc G.length, .t t] (G ++ [.ins 0 []]))) Q E := by
  refine ?G
  exact (by (intro h; exact h) : have h : (type_of% ?G) := (by
  apply e_mk
  unfold F_Act_init d_Act_init
  walk_at "go"
  apply s_seq
  apply s_if
  walk_at "st"
  have main : ∀ {Q' : D → Hs → Prop} {E' : XP}, Q' (.t (.bl false)) (G ++ [.ins 0 []]) → Wp (F_is_act [.t t] (G ++ [.ins 0 []])) Q' E' := by
    intro Q' E' h'
    rcases ht with ⟨h1, h2⟩ | ⟨ts, rfl, h1, h2⟩
    · exact is_act_no h1 h2 h'
    · exact is_act_tup h1 h2 h'
  refine main ?_
  walk_at "st"
  refine ⟨Cl.refl, _, rfl, ?_⟩
  rw [List.take_of_length_le (Nat.le_refl _)]
  refine ⟨Cl.app, _, rfl, ?_⟩
  rw [takeNew]
  exact h
 ); type_of% ?G)
end

end LW

set_option Elab.async false
set_option linter.all false
set_option maxRecDepth 100000
set_option maxHeartbeats 4000000
namespace LW
open PySem L2 BL
local macro_rules | `(tactic| walk_at "st") => `(tactic| repeat (first
  | with_reducible apply s_seq | ((with_reducible apply s_set'); (intro x; simp only [List.set_cons_succ, List.set_cons_zero]; exact rfl)) | with_reducible apply s_set | with_reducible apply s_ret | with_reducible apply s_retN | with_reducible apply s_drop | ((with_reducible apply s_par'); (intro x y; simp only [List.set_cons_succ, List.set_cons_zero]; exact rfl)) | ((with_reducible apply s_par3'); (intro x y z; simp only [setsE, List.set_cons_succ, List.set_cons_zero]; exact rfl)) | ((with_reducible apply s_par4'); (intro x y z w; simp only [setsE, List.set_cons_succ, List.set_cons_zero]; exact rfl)) | ((with_reducible apply s_par5'); (intro x y z w v; simp only [setsE, List.set_cons_succ, List.set_cons_zero]; exact rfl)) | with_reducible apply s_par | with_reducible apply s_put | with_reducible apply s_setF | with_reducible apply s_setL | with_reducible apply s_next | with_reducible apply s_for
  | with_reducible apply e_C | with_reducible apply e_bin | with_reducible apply e_un | with_reducible apply e_not | with_reducible apply e_and | with_reducible apply e_or | with_reducible apply e_ite | with_reducible apply e_chain
  | with_reducible apply e_call1 | with_reducible apply e_call2 | with_reducible apply e_call3 | with_reducible apply e_call4 | with_reducible apply e_args0 | with_reducible apply e_args1 | with_reducible apply e_args2 | with_reducible apply e_args3 | with_reducible apply e_args4 | with_reducible apply e_argsC
  | with_reducible apply e_sl0 | with_reducible apply e_sl1 | ((with_reducible apply e_comp'); (simp only [wipeE, List.set_cons_succ, List.set_cons_zero]; exact rfl)) | with_reducible apply e_comp | with_reducible apply i_R1 | with_reducible apply i_S' | with_reducible apply i_En' | with_reducible apply i_Str
  | ((with_reducible apply e_var); (first | exact rfl | assumption))
  | with_reducible apply f_addI | with_reducible apply f_sub | with_reducible apply f_cmp | with_reducible apply f_int | with_reducible apply f_eqI | with_reducible apply f_neI | with_reducible apply f_lenT | with_reducible apply f_lenL | with_reducible apply f_lenF | with_reducible apply o_deeds | with_reducible apply o_rows | with_reducible apply o_tells | with_reducible apply o_start | with_reducible apply e_disp1 | with_reducible apply e_met | with_reducible apply e_metA | with_reducible apply e_metL | with_reducible apply f_abs
  | with_reducible apply t_T | with_reducible apply t_F
  | with_reducible apply f_neg | with_reducible apply f_nnT | with_reducible apply f_nnF | with_reducible apply f_nonI | with_reducible apply s_raise1 | with_reducible apply s_raise2 | with_reducible apply s_raise3 | ((with_reducible apply f_fld); (exact rfl); (exact rfl)) | ((with_reducible apply f_fldL); (first | exact gNew | assumption); (exact rfl); (exact rfl))
  | ((with_reducible apply f_tupD); (exact rfl); (exact of_decide_eq_true rfl))
  | ((with_reducible apply f_get); (first | exact rfl | exact dkL (by assumption) | exact dkL (gSet (by assumption)) | exact dkL (gSet (gSet (by assumption)))); (exact rfl); (exact rfl))
  | ((with_reducible apply f_mul); (first | exact mulOkL (by decide) (by decide) | exact mulOkR (by decide) (by decide) | exact mulOkL (by omega) (by omega) | exact mulOkR (by omega) (by omega)))
  | ((with_reducible apply f_mod); (first | assumption | decide | omega))
  | ((with_reducible apply f_div); (first | assumption | decide | omega); (first | assumption | decide | omega))
  | ((with_reducible apply f_pow); (exact ⟨by decide, by decide, by decide⟩))
  | ((with_reducible apply f_isi); (exact rfl); (exact rfl))
  | ((with_reducible apply f_lstD); (exact rfl); (exact of_decide_eq_true rfl))
  | ((with_reducible apply putP); (first | assumption | exact gSet (by assumption) | exact gSet (gSet (by assumption))); (exact rfl); (exact rfl); (first | decide | (focus (simp; done))))))
local macro_rules | `(tactic| walk_at "go") => `(tactic| ((first | apply r_pop' | apply r_keep' | apply r_dp'); (simp only [startE, List.map_cons, List.map_nil, List.length_cons, List.length_nil, Nat.reduceAdd, Nat.reduceSub, List.replicate_succ, List.replicate_zero, List.cons_append, List.nil_append]; exact rfl)))
local macro_rules | `(tactic| walk_at "cl") => `(tactic| (first | exact Cl.refl | exact Cl.app | assumption | exact Pen.cl (by assumption) (by assumption)))


/-! ### the law -/
/-- states of some act of the law: at most eight -/
structure Sm (l : List Nat) : Prop where
  ok : AcOk l
  few : l.length ≤ 8
theorem sm_of {l : List Nat} {n : Nat} (hl : l.length = n) (h1 : 1 ≤ n) (h8 : n ≤ 8) (h : ∀ x ∈ l, x < n) : Sm l := ⟨⟨by omega, by omega, fun x hx => by rw [hl]; exact h x hx⟩, by omega⟩
theorem sm_lt {l : List Nat} (h : Sm l) : ∀ s, s < l.length → l.getD s 0 < l.length := fun s hs => by
  rw [List.getD_eq_getElem?_getD, List.getElem?_eq_getElem hs]
  exact h.ok.lt _ (List.getElem_mem hs)
theorem exMapN {α : Type} {f : Nat → T} {P : Nat → Prop} : ∀ {ts : List T}, (∀ t ∈ ts, ∃ x, t = f x ∧ P x) → ∃ l : List Nat, ts = l.map f ∧ ∀ x ∈ l, P x
  | [], _ => ⟨[], rfl, fun _ h => nomatch h⟩
  | t :: ts, h => by
    obtain ⟨x, rfl, hx⟩ := h t (.head _)
    obtain ⟨l, rfl, hl⟩ := exMapN (α := α) fun u hu => h u (.tail _ hu)
    exact ⟨x :: l, rfl, fun y hy => by
      rcases List.mem_cons.mp hy with rfl | hy
      · exact hx
      · exact hl y hy⟩
theorem inB_out {v lo hi : Int} (h : v < lo ∨ hi < v) : inB (.int v) lo hi = false := decide_eq_false (fun q => by omega)
theorem ten30 : (10 : Int) ^ Int.toNat 30 = 1000000000000000000000000000000 := by decide +kernel
theorem Cl.nil {G : Hs} : Cl [] G := fun i hi => absurd hi (Nat.not_lt_zero i)
theorem dig_shown : ∀ n : Nat, n < 10 → Shown (nI n) := fun n hn => shown_closed (by
  have : ∀ n : Nat, n < 10 → ((reprT (nI n)).elim false PyData.strOk) = true := by decide +kernel
  exact this n hn)
section
variable {Q : D → Hs → Prop} {E : XP} {G : Hs}
theorem pen_spec {ns : List Int} (h : Q (.loc G.length) (G ++ [penO (ns.take 63) 0 0])) : Wp (F_pen [scr ns] G) Q E := by
  unfold F_pen d_pen scr
  walk_at "go"
  walk_at "st"
  apply e_disp
  walk_at "st"
  refine f_slL ?_
  refine f_lst asS_lst (plain_map _) ?_
  walk_at "st"
  have e : cutA (ns.map T.int) none (some 63) = (ns.take 63).map T.int := by
    have := cut_take (ns.map T.int) 63
    rw [List.map_take]; exact this
  rw [e]
  exact e_ok h
/-- tuple([draw(pen, n) for k in range(n)]) -/
theorem draws_spec {r : Ev} {elt : De} {p n : Nat} {k : Int} {K : List D → Hs → Prop} {i : Nat} (hp : Pen p k G) (hn : n ≤ 8)
    (hs : ∀ (j : Nat) (G' : Hs), j < n → Pen p (k + 1 * j) G' → ∀ Q' : D → Hs → Prop, (∀ v G2, 0 ≤ v → v < (n : Int) → Pen p (k + 1 * j + 1) G2 → Fr p G' G2 → Q' (.t (.int v)) G2) → Wp (elt (r.set i (some (.t (.int (j : Int))))) G') Q' (fun _ _ _ _ => False))
    (he : ∀ (l : List Nat) G', l.length = n → (∀ x ∈ l, x < n) → Pen p (k + 10) G' → K ((l.map nI).map D.t) G') : Wc (compLoop (gN i) dYes elt none r (((List.range n).map fun i : Nat => D.t (.int (i : Int))).map Im.one) [] G) K := by
  refine ?G
  exact (by (intro h; exact h) : have h : (type_of% ?G) := (by
  refine c_draws (c := 1) (fun t => ∃ x : Nat, t = nI x ∧ x < n) hp (fun _ _ => kp_none) (fun j d G2 hd2 hp2 hf2 => ?_) (fun ts G2 hl hP hp2 hf2 => ?_)
  · rw [List.getElem?_map] at hd2
    cases e : (List.range n)[j]? with
    | none => rw [e] at hd2; cases hd2
    | some a =>
      rw [e] at hd2
      cases hd2
      obtain ⟨hj, ej⟩ := List.getElem?_eq_some_iff.mp e
      rw [List.length_range] at hj
      rw [List.getElem_range] at ej
      subst ej
      refine hs j G2 hj hp2 _ (fun v G3 h0 h1 hp3 hf3 => ⟨_, rfl, ⟨v.toNat, ?_, by omega⟩, hp3, hf3⟩)
      show T.int v = T.int ((v.toNat : Nat) : Int)
      congr 1; omega
  · obtain ⟨l, rfl, hlx⟩ := exMapN (α := Nat) hP
    rw [List.length_map, List.length_map, List.length_range] at hl
    rw [List.length_map, List.length_range] at hp2
    exact he l G2 hl hlx (hp2.mono (by omega))
 ); type_of% ?G)
theorem ne_rep {tag y : Str} (h : Q (.t (.bl false)) G) : Wp (fEq true (.t (.tup [.str tag, .str y])) (.t (.tup [.str tag, .str y])) G) Q E :=
  ne_same rfl (by show 1 ≤ 64; decide) h
theorem law_wp (ns : List Int) (hns : ns.length ≤ 63) : Wp (F_law [scr ns] []) (fun d _ => d = .t (.bl true)) (fun _ _ _ _ => False) := by
  refine ?G
  exact (by (intro h; exact h) : have h : (type_of% ?G) := (by
  unfold F_law d_law
  walk_at "go"
  walk_at "st"
  refine pen_spec ?_
  walk_at "st"
  unfold scr
  walk_at "st"
  rw [List.length_map]
  refine f_min ?_
  walk_at "st"
  obtain ⟨mm, hmm, hm10⟩ : ∃ mm : Int, (if (ns.length : Int) < 5 then (ns.length : Int) else 5) = mm ∧ 0 ≤ mm ∧ mm ≤ 5 := by
    split
    · exact ⟨_, rfl, by omega, by omega⟩
    · exact ⟨_, rfl, by omega, by omega⟩
  rw [hmm]
  refine ⟨_, rfl, by omega, by omega, ?_⟩
  have hp0 : Pen 0 0 ([] ++ [penO (ns.take 63) 0 0]) := ⟨_, _, _, rfl, Int.le_refl _, Int.le_refl _⟩
  generalize ([] ++ [penO (ns.take 63) 0 0] : Hs) = G0 at hp0 ⊢
  generalize D.t (T.lst (ns.map T.int)) = S
  refine s_each (fun j r G' => (∃ x2 x3 x4 x5 x6 x7 x8 x9 x10 x11 x12, r = [some S, some (.loc 0), x2, x3, x4, x5, x6, x7, x8, x9, x10, x11, x12]) ∧ Pen 0 (1000 * j) G') ⟨⟨_, _, _, _, _, _, _, _, _, _, _, rfl⟩, hp0.mono (by omega)⟩ (fun _ _ _ _ => kp_none) (fun j d0 r G' hd hI => ?_) (fun r G' hI => ?_)
  · obtain ⟨⟨x2, x3, x4, x5, x6, x7, x8, x9, x10, x11, x12, rfl⟩, hp⟩ := hI
    have hj : j < 10 := by
      have := (List.getElem?_eq_some_iff.mp hd).1
      simp at this
      omega
    simp only [List.set_cons_succ, List.set_cons_zero]
    walk_at "st"
    refine draw_spec hp (by decide) (by decide) (by omega) (fun v G1 hv0 hv1 hp1 hf1 => ?_)
    walk_at "st"
    refine ⟨_, rfl, by omega, by omega, ?_⟩
    obtain ⟨n, hn⟩ : ∃ n : Nat, (1 + v) = (n : Int) := ⟨(1 + v).toNat, by omega⟩
    rw [hn, Int.toNat_natCast]
    refine draws_spec hp1 (by omega) (fun i G2 hi hp2 Q' h' => ?_) (fun l G2 hl hlx hp2 => ?_)
    · walk_at "st"
      exact draw_spec hp2 (by omega) (by omega) (by omega) h'
    refine k_lst (plain_map _) ?_
    refine f_tup asS_lst (plain_map _) ?_
    have hL : Sm l := sm_of hl (by omega) (by omega) hlx
    have hp2 : Pen 0 (1000 * j + 20) G2 := hp2.mono (by omega)
    clear hp1 hf1 hp hlx
    apply s_seq
    apply s_cut (fun r1 G3 => ∃ m : Nat, r1 = [some S, some (.loc 0), some d0, some (dI n), some (.t (nT l)), some (dI m), x6, x7, x8, x9, x10, x11, x12] ∧ 1 ≤ m ∧ m ≤ 8 ∧ Pen 0 (1000 * j + 30) G3)
    · walk_at "st"
      refine draw_spec hp2 (by decide) (by decide) (by omega) (fun v2 G3 h0 h1 hp3 hf3 => ?_)
      walk_at "st"
      refine t_dec (fun _ => ?_) (fun _ => ?_)
      · walk_at "st"
        exact ⟨n, rfl, by omega, by omega, hp3.mono (by omega)⟩
      · walk_at "st"
        refine draw_spec hp3 (by decide) (by decide) (by omega) (fun v3 G4 h2 h3 hp4 hf4 => ?_)
        walk_at "st"
        obtain ⟨m, hm⟩ : ∃ m : Nat, (1 + v3) = (m : Int) := ⟨(1 + v3).toNat, by omega⟩
        rw [hm]
        exact ⟨m, rfl, by omega, by omega, hp4.mono (by omega)⟩
    rintro r1 G3 ⟨m, rfl, hm1, hm8, hp3⟩
    clear hp2
    apply s_seq
    apply s_cut (fun r1 G4 => ∃ l' : List Nat, r1 = [some S, some (.loc 0), some d0, some (dI n), some (.t (nT l)), some (dI m), some (.t (nT l')), x7, x8, x9, x10, x11, x12] ∧ Sm l' ∧ Pen 0 (1000 * j + 60) G4)
    · walk_at "st"
      refine draw_spec hp3 (by decide) (by decide) (by omega) (fun v2 G4 h0 h1 hp4 hf4 => ?_)
      walk_at "st"
      refine t_dec (fun _ => ?_) (fun _ => ?_)
      · walk_at "st"
        refine ⟨_, rfl, by omega, by omega, ?_⟩
        rw [Int.toNat_natCast]
        refine draws_spec hp4 hm8 (fun i G5 hi hp5 Q' h' => ?_) (fun l' G5 hl' hlx hp5 => ?_)
        · walk_at "st"
          exact draw_spec hp5 (by omega) (by omega) (by omega) h'
        refine k_lst (plain_map _) ?_
        refine f_tup asS_lst (plain_map _) ?_
        exact ⟨l', rfl, sm_of hl' hm1 hm8 hlx, hp5.mono (by omega)⟩
      · walk_at "st"
        exact ⟨l, rfl, hL, hp4.mono (by omega)⟩
    rintro r1 G4 ⟨l', rfl, hL', hp4⟩
    clear hp3
    walk_at "st"
    apply e_make
    walk_at "st"
    refine act_make hL.ok ?_
    apply e_make
    walk_at "st"
    refine act_make hL'.ok ?_
    have hl8 := hL.few
    have hl8' := hL'.few
    apply s_seq
    apply s_if
    walk_at "st"
    refine l_is_act_spec hL.ok (by omega) ?_
    walk_at "st"
    refine l_is_act_spec hL'.ok (by omega) ?_
    walk_at "st"
    refine is_compared_spec (by omega) ?_
    walk_at "st"
    apply s_cut (fun r1 G5 => r1 = [some S, some (.loc 0), some d0, some (dI n), some (.t (nT l)), some (dI m), some (.t (nT l')), some (.t (acT l)), some (.t (acT l')), x9, x10, x11, x12] ∧ G5 = G4)
    · apply s_if
      walk_at "st"
      refine f_len asS_nT ?_
      walk_at "st"
      refine f_len asS_nT ?_
      rw [List.length_map, List.length_map]
      refine f_eqI ?_
      refine t_dec (fun q => ?_) (fun q => ?_)
      · have q : l'.length = l.length := by omega
        apply s_if
        walk_at "st"
        have e1 : l = pl l.length (fun s => l.getD s 0) := pl_self.symm
        have e2 : l' = pl l.length (fun s => l'.getD s 0) := by rw [← q]; exact pl_self.symm
        have e3 : ∀ s, s < l.length → l'.getD s 0 < l.length := fun s hs => by
          have := sm_lt hL' s (by omega)
          omega
        rw [show acT l = acT (pl l.length (fun s => l.getD s 0)) by rw [← e1], show acT l' = acT (pl l.length (fun s => l'.getD s 0)) by rw [← e2]]
        refine mul_spec hL.ok.pos (by omega) (sm_lt hL) e3 ?_
        walk_at "st"
        refine ⟨_, asS_nT, fun kp hkp => ?_⟩
        have e4 : l.map nD = (List.range l.length).map fun s => nD (l.getD s 0) := by
          have := congrArg (List.map nD) e1
          rw [this]
          unfold pl
          rw [List.map_map]; rfl
        rw [e4]
        refine c_mapA (xs := List.range l.length) (f := fun s => nD (l'.getD (l.getD s 0) 0)) (hkp _ (fun i hi => (nomatch hi))) (fun j s hs Q' h' => ?_) ?_
        · have hs := List.mem_range.mp (List.mem_of_getElem? hs)
          simp only [List.set_cons_succ, List.set_cons_zero]
          walk_at "st"
          refine f_ix asS_nT (d := nD (l'.getD (l.getD s 0) 0)) (BL.atI_nat ?_) ?_
          · have hlt := sm_lt hL s hs
            rw [List.getElem?_map, List.getD_eq_getElem?_getD (l := l'), List.getElem?_eq_getElem (by omega)]; rfl
          exact h'
        have e5 : (List.range l.length).map (fun s => nD (l'.getD (l.getD s 0) 0)) = ((pl l.length fun s => l'.getD (l.getD s 0) 0).map nI).map D.t := by unfold pl; rw [List.map_map, List.map_map]; rfl
        rw [e5]
        refine k_lst (plain_map _) ?_
        refine f_tup asS_lst (plain_map _) ?_
        refine l_is_act_spec (AcOk.pl hL.ok.pos (by omega) fun s hs => e3 _ (sm_lt hL s hs)) (by rw [pl_len]; omega) ?_
        walk_at "st"
        rw [← e1, ← e2]
        exact ⟨rfl, rfl⟩
      · apply s_if
        walk_at "st"
        apply e_fault
        walk_at "st"
        refine mul_no (by omega) ?_
        refine c_uneven ?_
        walk_at "st"
        refine f_len asS_nT ?_
        walk_at "st"
        refine f_len asS_nT ?_
        rw [List.length_map, List.length_map]
        walk_at "st"
        refine ne_same rfl (by show 1 ≤ 64; decide) ?_
        walk_at "st"
        exact ⟨rfl, rfl⟩
    rintro r1 G5 ⟨rfl, rfl⟩
    have e1 : l = pl l.length (fun s => l.getD s 0) := pl_self.symm
    have hf := sm_lt hL
    apply s_seq
    apply s_cut (fun r1 G6 => r1 = [some S, some (.loc 0), some d0, some (dI n), some (.t (nT l)), some (dI m), some (.t (nT l')), some (.t (acT l)), some (.t (acT l')), some (.t (.lst (powT l.length (fun s => l.getD s 0) 12))), x10, x11, x12] ∧ G6 = G5)
    · walk_at "st"
      rw [show nT l = nT (pl l.length (fun s => l.getD s 0)) by rw [← e1]]
      refine powers_spec hL.ok.pos (by omega) hf ?_
      rw [← e1]
      exact ⟨rfl, rfl⟩
    rintro r1 G6 ⟨rfl, rfl⟩
    apply s_seq
    apply s_if
    walk_at "st"
    refine ⟨_, rfl, by decide, by decide, ?_⟩
    refine c_mapA (xs := List.range 12) (g := fun i : Nat => D.t (.int (i : Int))) (f := fun i => .t (nT (pl l.length (it (fun s => l.getD s 0) i)))) kp_none (fun j s hs Q' h' => ?_) ?_
    · have hs := List.mem_range.mp (List.mem_of_getElem? hs)
      simp only [List.set_cons_succ, List.set_cons_zero]
      walk_at "st"
      apply e_meth
      walk_at "st"
      refine ⟨⟨rfl, rfl⟩, ?_⟩
      walk_at "st"
      rw [show acT l = acT (pl l.length (fun s => l.getD s 0)) by rw [← e1]]
      refine times_spec hL.ok.pos (by omega) hf (by omega) ?_
      refine o_states ?_
      exact h'
    have e6 : (List.range 12).map (fun i => D.t (nT (pl l.length (it (fun s => l.getD s 0) i)))) = (powT l.length (fun s => l.getD s 0) 12).map D.t := by unfold powT; rw [List.map_map]; rfl
    rw [e6]
    refine k_lst (plain_map _) ?_
    walk_at "st"
    refine ne_same (noBs_iff.mpr fun t ht => ?_) ?_ ?_
    · obtain ⟨i, _, rfl⟩ := List.mem_map.mp ht
      exact noB_nT _
    · show deps (powT l.length (fun s => l.getD s 0) 12) + 1 ≤ 64
      have : ∀ ts : List T, (∀ t ∈ ts, dep t ≤ 1) → deps ts ≤ 1 := by
        intro ts
        induction ts with
        | nil => exact fun _ => Nat.zero_le _
        | cons t ts ih =>
          intro h
          show max (dep t) (deps ts) ≤ 1
          have h1 := h t (.head _)
          have h2 := ih fun u hu => h u (.tail _ hu)
          omega
      have := this (powT l.length (fun s => l.getD s 0) 12) fun t ht => by
        obtain ⟨i, _, rfl⟩ := List.mem_map.mp ht
        rw [dep_nT]; exact Nat.le_refl _
      omega
    walk_at "st"
    refine l_is_act_spec hL.ok (by omega) ?_
    walk_at "st"
    have hnl : n = l.length := hl.symm
    refine pick_spec hp4 (by show 0 < 6; decide) (by show 6 ≤ 1000; decide) (by omega) (fun t G6 ht hp5 => ?_)
    have h1 : Val t ∧ inB t 0 ((l.length : Int) - 1) = false ∧ Shown t := by
      simp only [List.mem_cons, List.not_mem_nil, or_false] at ht
      rcases ht with rfl | rfl | rfl | rfl | rfl | rfl
      · exact ⟨trivial, inB_out (.inl (by omega)), shown_closed (by decide +kernel)⟩
      · exact ⟨trivial, inB_out (.inr (by omega)), dig_shown n (by omega)⟩
      · exact ⟨trivial, rfl, shown_closed (by decide +kernel)⟩
      · exact ⟨trivial, rfl, shown_closed (by decide +kernel)⟩
      · exact ⟨trivial, rfl, shown_closed (by decide +kernel)⟩
      · exact ⟨trivial, inB_out (.inr (by rw [ten30]; omega)), shown_closed (by decide +kernel)⟩
    clear ht hp4
    apply s_seq
    apply s_if
    walk_at "st"
    apply e_fault
    walk_at "st"
    refine f_getX rfl ?_
    refine getitem_no h1.1 h1.2.1 ?_
    refine c_state h1.2.2 fun y e y2 => ?_
    walk_at "st"
    refine f_repr e y2 ?_
    walk_at "st"
    refine ne_rep ?_
    walk_at "st"
    clear h1
    refine pick_spec hp5 (by show 0 < 6; decide) (by show 6 ≤ 1000; decide) (by omega) (fun t G7 ht hp6 => ?_)
    have h1 : Val t ∧ inB t 0 1000000000000000000000000000000 = false ∧ Shown t := by
      simp only [List.mem_cons, List.not_mem_nil, or_false] at ht
      rcases ht with rfl | rfl | rfl | rfl | rfl | rfl
      · exact ⟨trivial, inB_out (.inl (by decide)), shown_closed (by decide +kernel)⟩
      · exact ⟨trivial, inB_out (.inr (by rw [ten30]; decide)), shown_closed (by decide +kernel)⟩
      · exact ⟨trivial, rfl, shown_closed (by decide +kernel)⟩
      · exact ⟨trivial, rfl, shown_closed (by decide +kernel)⟩
      · exact ⟨trivial, rfl, shown_closed (by decide +kernel)⟩
      · exact ⟨trivial, rfl, shown_closed (by decide +kernel)⟩
    clear ht hp5
    apply s_seq
    apply s_if
    walk_at "st"
    apply e_fault
    apply e_meth
    walk_at "st"
    refine ⟨⟨rfl, rfl⟩, ?_⟩
    walk_at "st"
    refine times_no h1.1 h1.2.1 ?_
    refine c_number h1.2.2 fun y e y2 => ?_
    walk_at "st"
    refine f_repr e y2 ?_
    walk_at "st"
    refine ne_rep ?_
    walk_at "st"
    clear h1
    refine f_lst asS_nT (ts := l.map nI) (by rw [show l.map nD = (l.map nI).map D.t by rw [List.map_map]; rfl]; exact plain_map _) ?_
    walk_at "st"
    have : l.length ≤ sizeLine := by rw [sizeLine_eq]; omega
    refine f_addT (by rw [List.length_map, sizeLine_eq]; show l.length + 1 ≤ _; omega) ?_
    walk_at "st"
    refine pick_spec hp6 (by show 0 < 14; decide) (by show 14 ≤ 1000; decide) (by omega) (fun t G8 ht hp7 => ?_)
    have hdig : ∀ x ∈ l, x ≤ 9 := fun x hx => by have := hL.ok.lt x hx; omega
    have h1 : NoAct t ∧ Shown t := by
      simp only [List.mem_cons, List.not_mem_nil, or_false] at ht
      rcases ht with rfl | rfl | rfl | rfl | rfl | rfl | rfl | rfl | rfl | rfl | rfl | rfl | rfl | rfl
      · exact ⟨.inr ⟨_, rfl, (fun u hu => (nomatch hu)), .inl rfl⟩, shown_closed (by decide +kernel)⟩
      · exact ⟨.inl ⟨rfl, trivial⟩, shown_closed (by decide +kernel)⟩
      · exact ⟨.inr ⟨_, rfl, fun u hu => by simp at hu; subst hu; trivial, .inr rfl⟩, shown_closed (by decide +kernel)⟩
      · exact ⟨.inr ⟨_, rfl, fun u hu => by simp at hu; rcases hu with rfl | rfl <;> trivial, .inr rfl⟩, shown_closed (by decide +kernel)⟩
      · exact ⟨.inr ⟨_, rfl, fun u hu => by simp at hu; subst hu; trivial, .inr rfl⟩, shown_closed (by decide +kernel)⟩
      · exact ⟨.inl ⟨rfl, trivial⟩, shown_closed (by decide +kernel)⟩
      · exact ⟨.inl ⟨rfl, trivial⟩, shown_closed (by decide +kernel)⟩
      · exact ⟨.inr ⟨_, rfl, fun u hu => by simp at hu; rcases hu with rfl | rfl <;> trivial, .inr rfl⟩, shown_closed (by decide +kernel)⟩
      · exact ⟨.inr ⟨_, rfl, fun u hu => by simp at hu; subst hu; trivial, .inr rfl⟩, shown_closed (by decide +kernel)⟩
      · exact ⟨.inl ⟨rfl, trivial⟩, shown_lst (by omega) hdig⟩
      · refine ⟨.inr ⟨_, rfl, fun u hu => ?_, .inr ?_⟩, ?_⟩
        · rcases List.mem_append.mp hu with hu | hu
          · obtain ⟨x, _, rfl⟩ := List.mem_map.mp hu; trivial
          · simp at hu; subst hu; trivial
        · rw [List.all_append, Bool.and_eq_false_iff]
          refine .inr ?_
          show (inB (.int ((n : Int) + 1)) 0 (((l.map nI ++ [T.int ((n : Int) + 1)]).length : Int) - 1) && true) = false
          rw [Bool.and_true]
          refine decide_eq_false ?_
          rw [List.length_append, List.length_map]
          show ¬ (_ ∧ (n : Int) + 1 ≤ ((l.length + 1 : Nat) : Int) - 1)
          omega
        · have e : l.map nI ++ [T.int ((n : Int) + 1)] = (l ++ [n + 1]).map nI := by rw [List.map_append]; rfl
          rw [e]
          exact shown_tup (by rw [List.length_append]; show l.length + 1 ≤ 100; omega) fun x hx => by
            rcases List.mem_append.mp hx with hx | hx
            · exact hdig x hx
            · simp at hx; omega
      · exact ⟨.inl ⟨rfl, trivial⟩, shown_closed (by decide +kernel)⟩
      · exact ⟨.inr ⟨_, rfl, fun u hu => by simp at hu; subst hu; trivial, .inr rfl⟩, shown_closed (by decide +kernel)⟩
      · exact ⟨.inr ⟨_, rfl, fun u hu => by simp at hu; rcases hu with rfl | rfl <;> trivial, .inr rfl⟩, shown_closed (by decide +kernel)⟩
    clear ht hp6
    apply s_if
    walk_at "st"
    apply e_fault
    apply e_make
    walk_at "st"
    refine make_no h1.1 ?_
    refine c_act h1.2 fun y e y2 => ?_
    walk_at "st"
    refine f_repr e y2 ?_
    walk_at "st"
    refine ne_rep ?_
    walk_at "st"
    exact ⟨⟨_, _, _, _, _, _, _, _, _, _, _, rfl⟩, hp7.mono (by push_cast; omega)⟩
  · obtain ⟨⟨x2, x3, x4, x5, x6, x7, x8, x9, x10, x11, x12, rfl⟩, hp⟩ := hI
    walk_at "st"
    exact ⟨Cl.nil, .t (.bl true), rfl, rfl⟩
 ); type_of% ?G)
theorem law_true (ns : List Int) (h : ns.length ≤ 63) : ∃ G, F_law [scr ns] [] = .ok (.t (.bl true)) G := by
  obtain ⟨d, G, e, rfl⟩ := (law_wp ns h).ex
  exact ⟨G, e⟩
end

end LW

set_option Elab.async false
set_option linter.all false
set_option maxRecDepth 100000
set_option maxHeartbeats 4000000
namespace LW
open PySem L2 BL

/-- what the walk asks of the top -/
structure Fx (P : Program) (w : World) (K : PySem.W.Frag) (mg : Str → Option Value) (base : Heap) : Prop where
  tb_law : LamX.TabB base mg (He.cT K ("law", none)).1 (He.cT K ("law", none)).2
  n_len : mg "len" = none
  n_min : mg "min" = none
  n_range : mg "range" = none
  k_BadAct : mg "BadAct" = some (.ref (He.ga K "BadAct"))
  n_super : mg "super" = none
  xa_BadAct : ∀ ft : Ft, ExA (bz P w K mg base ft) 1 1 ["states"]
  su_BadAct : (([(1, true), (2, false), (3, false), (4, false)] : List (Nat × Bool)).all fun p => decide (PySem.W.exmOne K (.ref (caK K p.1)) (.ref (He.ga K "BadAct")) = some p.2)) = true
  xf_BadAct : L2.XfC K (He.ga K "BadAct")
  n_repr : mg "repr" = none
  nf_BadAct_states : PySem.W.findIn K (.ref (He.ga K "BadAct")) "states" = some none
  k_BadState : mg "BadState" = some (.ref (He.ga K "BadState"))
  xa_BadState : ∀ ft : Ft, ExA (bz P w K mg base ft) 1 2 ["state"]
  su_BadState : (([(1, false), (2, true), (3, false), (4, false)] : List (Nat × Bool)).all fun p => decide (PySem.W.exmOne K (.ref (caK K p.1)) (.ref (He.ga K "BadState")) = some p.2)) = true
  xf_BadState : L2.XfC K (He.ga K "BadState")
  nf_BadState_state : PySem.W.findIn K (.ref (He.ga K "BadState")) "state" = some none
  k_BadNumber : mg "BadNumber" = some (.ref (He.ga K "BadNumber"))
  xa_BadNumber : ∀ ft : Ft, ExA (bz P w K mg base ft) 1 3 ["number"]
  su_BadNumber : (([(1, false), (2, false), (3, true), (4, false)] : List (Nat × Bool)).all fun p => decide (PySem.W.exmOne K (.ref (caK K p.1)) (.ref (He.ga K "BadNumber")) = some p.2)) = true
  xf_BadNumber : L2.XfC K (He.ga K "BadNumber")
  nf_BadNumber_number : PySem.W.findIn K (.ref (He.ga K "BadNumber")) "number" = some none
  k_Uneven : mg "Uneven" = some (.ref (He.ga K "Uneven"))
  xa_Uneven : ∀ ft : Ft, ExA (bz P w K mg base ft) 1 4 ["many", "most"]
  su_Uneven : (([(1, false), (2, false), (3, false), (4, true)] : List (Nat × Bool)).all fun p => decide (PySem.W.exmOne K (.ref (caK K p.1)) (.ref (He.ga K "Uneven")) = some p.2)) = true
  xf_Uneven : L2.XfC K (He.ga K "Uneven")
  nf_Uneven_many : PySem.W.findIn K (.ref (He.ga K "Uneven")) "many" = some none
  nf_Uneven_most : PySem.W.findIn K (.ref (He.ga K "Uneven")) "most" = some none
  k_LooksError : mg "LooksError" = some (.ref (He.ga K "LooksError"))
  su_LooksError : (([(1, true), (2, true), (3, true), (4, true)] : List (Nat × Bool)).all fun p => decide (PySem.W.exmOne K (.ref (caK K p.1)) (.ref (He.ga K "LooksError")) = some p.2)) = true
  f_refused : ∃ fd, FnE K "_law_refused" "_law_refused" s_refused [] (He.fAd K ("_law_refused", none)) fd
  m_refused : mg "_law_refused" = some (.ref (He.fAd K ("_law_refused", none)))
  cl_Act : Cls K (He.ga K "Act")
  na_Act_states : NoAttr K (He.ga K "Act") "states"
  n_isinstance : mg "isinstance" = none
  n_int : mg "int" = none
  n_bool : mg "bool" = none
  f_is_integer : ∃ fd, FnE K "is_integer" "is_integer" s_is_integer [] (He.fAd K ("is_integer", none)) fd
  m_is_integer : mg "is_integer" = some (.ref (He.fAd K ("is_integer", none)))
  f_is_within : ∃ fd, FnE K "is_within" "is_within" s_is_within [] (He.fAd K ("is_within", none)) fd
  m_is_within : mg "is_within" = some (.ref (He.fAd K ("is_within", none)))
  n_all : mg "all" = none
  n_tuple : mg "tuple" = none
  f_is_act : ∃ fd, FnE K "is_act" "is_act" s_is_act [] (He.fAd K ("is_act", none)) fd
  m_is_act : mg "is_act" = some (.ref (He.fAd K ("is_act", none)))
  f_Act_init : ∃ fd, FnE K "__init__" "Act.__init__" s_Act_init [] (He.fAd K ("Act", some "__init__")) fd
  mk_Act : Mk K (He.ga K "Act") (He.fAd K ("Act", some "__init__"))
  k_Act : mg "Act" = some (.ref (He.ga K "Act"))
  f_draw : ∃ fd, FnE K "_law_draw" "_law_draw" s_draw [] (He.fAd K ("_law_draw", none)) fd
  m_draw : mg "_law_draw" = some (.ref (He.fAd K ("_law_draw", none)))
  f_pick : ∃ fd, FnE K "_law_pick" "_law_pick" s_pick [] (He.fAd K ("_law_pick", none)) fd
  n_list : mg "list" = none
  m_pick : mg "_law_pick" = some (.ref (He.fAd K ("_law_pick", none)))
  f_led : ∃ fd, FnE K "led" "led" s_led [] (He.fAd K ("led", none)) fd
  m_led : mg "led" = some (.ref (He.fAd K ("led", none)))
  g_MOST_POWER : ∃ t, mg "MOST_POWER" = some (.int 1000000000000000000000000000000 t)
  f_Act_times : ∃ fd, FnE K "times" "Act.times" s_Act_times [] (He.fAd K ("Act", some "times")) fd
  mt_Act_times : Meth K (He.ga K "Act") "times" (He.fAd K ("Act", some "times"))
  f_Act_getitem : ∃ fd, FnE K "__getitem__" "Act.__getitem__" s_Act_getitem [] (He.fAd K ("Act", some "__getitem__")) fd
  gi_Act : GetF K (He.ga K "Act") (He.fAd K ("Act", some "__getitem__"))
  n_set : mg "set" = none
  f_Act_rank : ∃ fd, FnE K "rank" "Act.rank" s_Act_rank [] (getAd K ("Act", "rank")) fd
  pr_Act_rank : PropOf K (He.ga K "Act") "rank" (prpAd K ("Act", "rank")) (getAd K ("Act", "rank"))
  f_Act_is_swap : ∃ fd, FnE K "is_swap" "Act.is_swap" s_Act_is_swap [] (getAd K ("Act", "is_swap")) fd
  pr_Act_is_swap : PropOf K (He.ga K "Act") "is_swap" (prpAd K ("Act", "is_swap")) (getAd K ("Act", "is_swap"))
  n_sorted : mg "sorted" = none
  f_ascending : ∃ fd, FnE K "ascending" "ascending" s_ascending [] (He.fAd K ("ascending", none)) fd
  m_ascending : mg "ascending" = some (.ref (He.fAd K ("ascending", none)))
  f_Act_image : ∃ fd, FnE K "image" "Act.image" s_Act_image [] (getAd K ("Act", "image")) fd
  pr_Act_image : PropOf K (He.ga K "Act") "image" (prpAd K ("Act", "image")) (getAd K ("Act", "image"))
  f_l_is_act : ∃ fd, FnE K "_law_is_act" "_law_is_act" s_l_is_act [] (He.fAd K ("_law_is_act", none)) fd
  m_l_is_act : mg "_law_is_act" = some (.ref (He.fAd K ("_law_is_act", none)))
  f_powers : ∃ fd, FnE K "_law_powers" "_law_powers" s_powers [] (He.fAd K ("_law_powers", none)) fd
  m_powers : mg "_law_powers" = some (.ref (He.fAd K ("_law_powers", none)))
  i_Act : InsF K (He.ga K "Act")
  kt_Act : kitB' K (He.ga K "Act") (([] : List Nat).map (caK K)) = true
  f_Act_mul : ∃ fd, FnE K "__mul__" "Act.__mul__" s_Act_mul [] (He.fAd K ("Act", some "__mul__")) fd
  mu_Act : MulF K (He.ga K "Act") (He.fAd K ("Act", some "__mul__"))
  f_Act_eq : ∃ fd, FnE K "__eq__" "Act.__eq__" s_Act_eq [] (He.fAd K ("Act", some "__eq__")) fd
  e_Act : EqF K (He.ga K "Act") (He.fAd K ("Act", some "__eq__"))
  fs_Act : firstB K (He.ga K "Act") (([] : List Nat).map (caK K)) = true
  f_Act_le : ∃ fd, FnE K "__le__" "Act.__le__" s_Act_le [] (He.fAd K ("Act", some "__le__")) fd
  or_Act_le : OrdF K (He.ga K "Act") (He.fAd K ("Act", some "__le__")) "__le__"
  de_Act_ge : DecF K (He.ga K "Act") .GtE "object.__ge__"
  f_Act_lt : ∃ fd, FnE K "__lt__" "Act.__lt__" s_Act_lt [] (He.fAd K ("Act", some "__lt__")) fd
  or_Act_lt : OrdF K (He.ga K "Act") (He.fAd K ("Act", some "__lt__")) "__lt__"
  de_Act_gt : DecF K (He.ga K "Act") .Gt "object.__gt__"
  f_is_compared : ∃ fd, FnE K "_law_is_compared" "_law_is_compared" s_is_compared [] (He.fAd K ("_law_is_compared", none)) fd
  m_is_compared : mg "_law_is_compared" = some (.ref (He.fAd K ("_law_is_compared", none)))
  f_pen : ∃ fd, FnE K "_law_pen" "_law_pen" s_pen [] (He.fAd K ("_law_pen", none)) fd
  m_pen : mg "_law_pen" = some (.ref (He.fAd K ("_law_pen", none)))
  f_law : ∃ fd, FnE K "law" "law" s_law [] (He.fAd K ("law", none)) fd
  m_law : mg "law" = some (.ref (He.fAd K ("law", none)))
section
variable {P : Program} {w : World} {K : PySem.W.Frag} {mg : Str → Option Value} {base : Heap} {ft : Ft}
theorem fd_states (x : Fx P w K mg base) : ∀ c, c ∈ [0] → Cls (bz P w K mg base ft).K ((bz P w K mg base ft).ca c) ∧ NoAttr (bz P w K mg base ft).K ((bz P w K mg base ft).ca c) "states" := by
  intro c hc
  simp only [List.mem_cons, List.not_mem_nil, or_false] at hc
  rcases hc with rfl
  · exact ⟨x.cl_Act, x.na_Act_states⟩
theorem ins_all (x : Fx P w K mg base) : ∀ c, c ∈ [0] → InsF K (caK K c) := by
  intro c hc
  simp only [List.mem_cons, List.not_mem_nil, or_false] at hc
  rcases hc with rfl
  · exact x.i_Act
theorem ki_Act (x : Fx P w K mg base) {rv : List Addr} : IsiOk ⟨⟨K, caK K, w, ft⟩, tbL K, rv⟩ (.ref (caK K 0)) (isOwn 0 []) := kitB_ok (g := ⟨⟨K, caK K, w, ft⟩, tbL K, rv⟩) (fun c hc => ins_all x c (by simp at hc ⊢; omega)) x.kt_Act
theorem hu_law (x : Fx P w K mg base) : ∀ p ∈ (bz P w K mg base ft).tb, p.1 = (He.cT K ("law", none)).2 → p.2 = ("law" : Str) ++ ".<locals>." ++ "<lambda>" := by
  intro p hp e
  simp only [bz, tbL, List.mem_cons, List.not_mem_nil, or_false] at hp
  rcases hp with rfl
  · rfl
def l_refused (K : PySem.W.Frag) : List (Value × List Prt) := [(.ref (He.ga K "BadAct"), [.cst (.str "act"), .rpr K (He.ga K "BadAct") "states"]), (.ref (He.ga K "BadState"), [.cst (.str "state"), .rpr K (He.ga K "BadState") "state"]), (.ref (He.ga K "BadNumber"), [.cst (.str "number"), .rpr K (He.ga K "BadNumber") "number"]), (.ref (He.ga K "Uneven"), [.cst (.str "uneven"), .fld (He.ga K "Uneven") "many", .fld (He.ga K "Uneven") "most"]), (.ref (He.ga K "LooksError"), [.cst (.str "other")])]
theorem sc_refused : FnScope ["_law_call", "e"] ["_law_call"] (defScope s_refused) := ⟨rfl, rfl, rfl, by decide +kernel, rfl, by decide +kernel, by decide +kernel⟩
theorem cr_refused (x : Fx P w K mg base) : ClsR (bz P w K mg base ft).g.toGm0 hs_refused (l_refused K) := by
  refine ?G
  exact (by (intro h; exact h) : have h : (type_of% ?G) := (⟨_, _, _, rfl, sub_of x.su_BadAct, ⟨_, _, rfl, fun _ _ => ⟨rfl, by decide +kernel⟩, ⟨_, _, rfl, ⟨rfl, rfl, rfl⟩, rfl⟩⟩, ⟨_, _, _, rfl, sub_of x.su_BadState, ⟨_, _, rfl, fun _ _ => ⟨rfl, by decide +kernel⟩, ⟨_, _, rfl, ⟨rfl, rfl, rfl⟩, rfl⟩⟩, ⟨_, _, _, rfl, sub_of x.su_BadNumber, ⟨_, _, rfl, fun _ _ => ⟨rfl, by decide +kernel⟩, ⟨_, _, rfl, ⟨rfl, rfl, rfl⟩, rfl⟩⟩, ⟨_, _, _, rfl, sub_of x.su_Uneven, ⟨_, _, rfl, fun _ _ => ⟨rfl, by decide +kernel⟩, ⟨_, _, rfl, ⟨rfl, rfl⟩, ⟨_, _, rfl, ⟨rfl, rfl⟩, rfl⟩⟩⟩, ⟨_, _, _, rfl, sub_of x.su_LooksError, ⟨_, _, rfl, fun _ _ => ⟨rfl, by decide +kernel⟩, rfl⟩, rfl⟩⟩⟩⟩⟩
 ); type_of% ?G)
theorem gv_refused (x : Fx P w K mg base) (X : Cx) (cdv : Value) (eK : X.K = K) (em : X.mg = mg) (hr : BL.Room 1 X.A) : LamX.GivesTo X ["_law_call", "e"] "_law_refused" (defScope s_refused) (He.fAd K ("_law_refused", none)) cdv (defBody s_refused) "_law_call" (X.env.qual ++ "<lambda>") (TTf X.K (l_refused K)) := by
  refine ?G
  exact (by (intro h; exact h) : have h : (type_of% ?G) := (
  fault_gives rfl (by decide +kernel) rfl fun s H =>
    .more ⟨rfl, by decide, .inl (by show X.mg _ = _; rw [em]; exact x.k_BadAct)⟩ (fun a oe cls d pn hz hf => pss_one (ps_ret (pe_tup (PrtsOk.pa (n := "e") (.cst pe_str rfl (.rpr (eK ▸ pe_rpr (gs_of hr) (pe_xf (by rw [eK]; exact x.xf_BadAct) (by rw [eK]; exact x.nf_BadAct_states) hz hf (pe_var rfl (.inl rfl))) rfl (by show X.mg _ = _; rw [em]; exact x.n_repr) rfl) rfl .nil)))))) (.more ⟨rfl, by decide, .inl (by show X.mg _ = _; rw [em]; exact x.k_BadState)⟩ (fun a oe cls d pn hz hf => pss_one (ps_ret (pe_tup (PrtsOk.pa (n := "e") (.cst pe_str rfl (.rpr (eK ▸ pe_rpr (gs_of hr) (pe_xf (by rw [eK]; exact x.xf_BadState) (by rw [eK]; exact x.nf_BadState_state) hz hf (pe_var rfl (.inl rfl))) rfl (by show X.mg _ = _; rw [em]; exact x.n_repr) rfl) rfl .nil)))))) (.more ⟨rfl, by decide, .inl (by show X.mg _ = _; rw [em]; exact x.k_BadNumber)⟩ (fun a oe cls d pn hz hf => pss_one (ps_ret (pe_tup (PrtsOk.pa (n := "e") (.cst pe_str rfl (.rpr (eK ▸ pe_rpr (gs_of hr) (pe_xf (by rw [eK]; exact x.xf_BadNumber) (by rw [eK]; exact x.nf_BadNumber_number) hz hf (pe_var rfl (.inl rfl))) rfl (by show X.mg _ = _; rw [em]; exact x.n_repr) rfl) rfl .nil)))))) (.more ⟨rfl, by decide, .inl (by show X.mg _ = _; rw [em]; exact x.k_Uneven)⟩ (fun a oe cls d pn hz hf => pss_one (ps_ret (pe_tup (PrtsOk.pa (n := "e") (.cst pe_str rfl (.fld (pe_xf (by rw [eK]; exact x.xf_Uneven) (by rw [eK]; exact x.nf_Uneven_many) hz hf (pe_var rfl (.inl rfl))) rfl (.fld (pe_xf (by rw [eK]; exact x.xf_Uneven) (by rw [eK]; exact x.nf_Uneven_most) hz hf (pe_var rfl (.inl rfl))) rfl .nil))))))) (.more ⟨rfl, by decide, .inl (by show X.mg _ = _; rw [em]; exact x.k_LooksError)⟩ (fun a oe cls d pn hz hf => pss_one (ps_ret (pe_tup (PrtsOk.pa (n := "e") (.cst pe_str rfl .nil))))) (.none)))))
 ); type_of% ?G)
theorem flt_refused (x : Fx P w K mg base) : FltA (bz P w K mg base ft) "_law_refused" "_law_call" (He.fAd K ("_law_refused", none)) hs_refused := flt_of x.f_refused sc_refused rfl (.inl rfl) (cr_refused x) (fun _ _ _ _ _ _ us hl => match us, hl with | [_], _ => rfl) fun X cdv eK em hr => gv_refused x X cdv eK em hr
theorem sc_is_integer : FnScope ["value"] ["value"] (defScope s_is_integer) := ⟨rfl, rfl, rfl, by decide +kernel, rfl, by decide +kernel, by decide +kernel⟩
theorem t_is_integer (x : Fx P w K mg base) (rv : List Addr) : PSDs ((bz P w K mg base ft).dfn ["value"] (defScope s_is_integer) 0 rv) (defBody s_is_integer) d_is_integer :=
  (psd_one (psd_ret (pd_and (pd_isiB x.n_isinstance x.n_int (by decide +kernel) isi_int (pd_var (i := 0))) (pd_one (pd_not (pd_isiB x.n_isinstance x.n_bool (by decide +kernel) isi_bool (pd_var (i := 0))))))))
theorem w_is_integer (x : Fx P w K mg base) : Ca (bz P w K mg base ft) 1 (He.fAd K ("is_integer", none)) ["value"] F_is_integer [] := ca_pop x.f_is_integer sc_is_integer (t_is_integer x) fun _ _ _ _ _ _ us hl => match us, hl with | [_], _ => rfl
theorem sc_is_within : FnScope ["value", "low", "high"] ["value", "low", "high"] (defScope s_is_within) := ⟨rfl, rfl, rfl, by decide +kernel, rfl, by decide +kernel, by decide +kernel⟩
theorem t_is_within (x : Fx P w K mg base) (rv : List Addr) : PSDs ((bz P w K mg base ft).dfn ["value", "low", "high"] (defScope s_is_within) 1 rv) (defBody s_is_within) d_is_within :=
  (psd_one (psd_ret (pd_and (pd_callC (w_is_integer x) (Nat.le_of_ble_eq_true rfl) x.m_is_integer (pda_cons (pd_var (i := 0)) pda_nil) rfl) (pd_one (pd_leLe (pd_var (i := 1)) (pd_var (i := 0)) (pd_var (i := 2)))))))
theorem w_is_within (x : Fx P w K mg base) : Ca (bz P w K mg base ft) 2 (He.fAd K ("is_within", none)) ["value", "low", "high"] F_is_within [] := ca_pop x.f_is_within sc_is_within (t_is_within x) fun _ _ _ _ _ _ us hl => match us, hl with | [_, _, _], _ => rfl
theorem sc_is_act : FnScope ["states", "state"] ["states"] (defScope s_is_act) := ⟨rfl, rfl, rfl, by decide +kernel, rfl, by decide +kernel, by decide +kernel⟩
theorem t_is_act (x : Fx P w K mg base) (rv : List Addr) : PSDs ((bz P w K mg base ft).dfn ["states", "state"] (defScope s_is_act) 2 rv) (defBody s_is_act) d_is_act := by
  refine ?G
  exact (by (intro h; exact h) : have h : (type_of% ?G) := (
  (psd_cons (psd_if (pdt_w (pdw_or (pdt_not (pdt_truth (pd_isiB x.n_isinstance x.n_tuple (by decide +kernel) isi_tup (pd_var (i := 0))))) (pdw_or1 (pdt_eq (pd_len x.n_len (pd_var (i := 0))) pd_int))))
  (psd_one (psd_ret pd_bl))
  psd_nil)
  (psd_one (psd_ret (pd_all x.n_all (pd_lc (own := [("state", 1)]) (fun _ => fin_lst) (pdi_seq (pd_var (i := 0))) (blkOk_by (by kernel_rfl)) (pdg_name (i := 1)) (by simp) (fun _ => pdts_nil) (fun _ => (pd_callC (w_is_within x) (Nat.le_of_ble_eq_true rfl) x.m_is_within (pda_cons (pd_var (i := 1)) (pda_cons pd_int (pda_cons (pd_sub (pd_len x.n_len (pd_var (i := 0))) pd_int) pda_nil))) rfl)))))))
 ); type_of% ?G)
theorem w_is_act (x : Fx P w K mg base) : Ca (bz P w K mg base ft) 3 (He.fAd K ("is_act", none)) ["states"] F_is_act [] := ca_pop x.f_is_act sc_is_act (t_is_act x) fun _ _ _ _ _ _ us hl => match us, hl with | [_], _ => rfl
theorem sc_Act_init : FnScope ["self", "states"] ["self", "states"] (defScope s_Act_init) := ⟨rfl, rfl, rfl, by decide +kernel, rfl, by decide +kernel, by decide +kernel⟩
theorem t_Act_init (x : Fx P w K mg base) (rv : List Addr) : PSDs ((bz P w K mg base ft).dfn ["self", "states"] (defScope s_Act_init) 3 rv) (defBody s_Act_init) d_Act_init := by
  refine ?G
  exact (by (intro h; exact h) : have h : (type_of% ?G) := (
  (psd_cons (psd_if (pdt_not (pdt_truth (pd_callC (w_is_act x) (Nat.le_of_ble_eq_true rfl) x.m_is_act (pda_cons (pd_var (i := 1)) pda_nil) rfl)))
  (psd_one (psd_raise (c := 1) (ns := ["states"]) (x.xa_BadAct _) (Nat.le_of_ble_eq_true rfl) x.k_BadAct (pda_cons (pd_var (i := 1)) pda_nil) rfl))
  psd_nil)
  (psd_one (psd_fld (cs := [0]) (pd_var (i := 0)) (pd_var (i := 1)) (fd_states x))))
 ); type_of% ?G)
theorem w_Act_init (x : Fx P w K mg base) : Ca (bz P w K mg base ft) 4 (He.fAd K ("Act", some "__init__")) ["self", "states"] F_Act_init [] := ca_pop x.f_Act_init sc_Act_init (t_Act_init x) fun _ _ _ _ _ _ us hl => match us, hl with | [_, _], _ => rfl
theorem w_Act_init_1_states (x : Fx P w K mg base) : CaK (bz P w K mg base ft) 4 1 (He.fAd K ("Act", some "__init__")) ["self", "states"] ["states"] F_Act_init [] := ca_kwN x.f_Act_init (hF_pop sc_Act_init (t_Act_init x)) 1 ["states"] fun _ _ _ _ _ _ us ws hl hw => match us, hl, ws, hw with | [_], _, [_], _ => rfl
theorem sc_draw : FnScope ["_law_pen_here", "_law_many", "_law_digit", "_law_at", "_law_cell", "_law_mixed"] ["_law_pen_here", "_law_many"] (defScope s_draw) := ⟨rfl, rfl, rfl, by decide +kernel, rfl, by decide +kernel, by decide +kernel⟩
theorem t_draw (x : Fx P w K mg base) (rv : List Addr) : PSDs ((bz P w K mg base ft).dfn ["_law_pen_here", "_law_many", "_law_digit", "_law_at", "_law_cell", "_law_mixed"] (defScope s_draw) 0 rv) (defBody s_draw) d_draw := by
  refine ?G
  exact (by (intro h; exact h) : have h : (type_of% ?G) := (
  (psd_cons (psd_if (pdt_ge (pd_dget (pd_var (i := 0)) pd_str) (pd_var (i := 1)))
  (psd_cons (psd_set (i := 2) (pd_mod (pd_intf x.n_int (pd_dget (pd_var (i := 0)) pd_str)) (pd_var (i := 1))))
  (psd_cons (psd_dput (pd_var (i := 0)) pd_str (pd_div (pd_dget (pd_var (i := 0)) pd_str) (pd_var (i := 1))))
  (psd_one (psd_ret (pd_var (i := 2))))))
  psd_nil)
  (psd_cons (psd_set (i := 3) (pd_dget (pd_var (i := 0)) pd_str))
  (psd_cons (psd_dput (pd_var (i := 0)) pd_str (pd_add (pd_var (i := 3)) pd_int))
  (psd_cons (psd_set (i := 4) (pd_add (pd_mul pd_int (pd_var (i := 3))) pd_int))
  (psd_cons (psd_if (pdt_ne (pd_dget (pd_var (i := 0)) pd_str) (pd_lstD pda_nil))
  (psd_one (psd_set (i := 4) (pd_ix (pd_dget (pd_var (i := 0)) pd_str) (pd_mod (pd_intf x.n_int (pd_var (i := 3))) (pd_len x.n_len (pd_dget (pd_var (i := 0)) pd_str))))))
  psd_nil)
  (psd_cons (psd_if (pdt_w (pdw_and (pdt_lt (pd_var (i := 3)) (pd_len x.n_len (pd_dget (pd_var (i := 0)) pd_str))) (pdw_and1 (pdt_ge (pd_var (i := 4)) (pd_pow pd_int pd_int)))))
  (psd_cons (psd_dput (pd_var (i := 0)) pd_str (pd_div (pd_sub (pd_var (i := 4)) (pd_pow pd_int pd_int)) (pd_var (i := 1))))
  (psd_one (psd_ret (pd_mod (pd_intf x.n_int (pd_sub (pd_var (i := 4)) (pd_pow pd_int pd_int))) (pd_var (i := 1))))))
  psd_nil)
  (psd_cons (psd_set (i := 5) (pd_add (pd_add (pd_add (pd_mul (pd_mod (pd_intf x.n_int (pd_var (i := 4))) pd_int) pd_int) (pd_mul (pd_mul pd_int (pd_var (i := 3))) (pd_var (i := 3)))) (pd_mul pd_int (pd_var (i := 3)))) pd_int))
  (psd_cons (psd_set (i := 5) (pd_mod (pd_intf x.n_int (pd_var (i := 5))) pd_int))
  (psd_cons (psd_set (i := 5) (pd_mod (pd_intf x.n_int (pd_mul (pd_var (i := 5)) (pd_add (pd_var (i := 5)) pd_int))) pd_int))
  (psd_one (psd_ret (pd_mod (pd_intf x.n_int (pd_div (pd_mod (pd_intf x.n_int (pd_mul (pd_var (i := 5)) (pd_var (i := 5)))) pd_int) pd_int)) (pd_var (i := 1))))))))))))))
 ); type_of% ?G)
theorem w_draw (x : Fx P w K mg base) : Ca (bz P w K mg base ft) 1 (He.fAd K ("_law_draw", none)) ["_law_pen_here", "_law_many"] F_draw [] := ca_pop x.f_draw sc_draw (t_draw x) fun _ _ _ _ _ _ us hl => match us, hl with | [_, _], _ => rfl
theorem sc_pick : FnScope ["_law_pen_here", "_law_some"] ["_law_pen_here", "_law_some"] (defScope s_pick) := ⟨rfl, rfl, rfl, by decide +kernel, rfl, by decide +kernel, by decide +kernel⟩
theorem t_pick (x : Fx P w K mg base) (rv : List Addr) : PSDs ((bz P w K mg base ft).dfn ["_law_pen_here", "_law_some"] (defScope s_pick) 1 rv) (defBody s_pick) d_pick :=
  (psd_one (psd_ret (pd_ix (pd_var (i := 1)) (pd_callC (w_draw x) (Nat.le_of_ble_eq_true rfl) x.m_draw (pda_cons (pd_var (i := 0)) (pda_cons (pd_len x.n_len (pd_var (i := 1))) pda_nil)) rfl))))
theorem w_pick (x : Fx P w K mg base) : Ca (bz P w K mg base ft) 2 (He.fAd K ("_law_pick", none)) ["_law_pen_here", "_law_some"] F_pick [] := ca_pop x.f_pick sc_pick (t_pick x) fun _ _ _ _ _ _ us hl => match us, hl with | [_, _], _ => rfl
theorem sc_led : FnScope ["first", "second", "state"] ["first", "second"] (defScope s_led) := ⟨rfl, rfl, rfl, by decide +kernel, rfl, by decide +kernel, by decide +kernel⟩
theorem t_led (x : Fx P w K mg base) (rv : List Addr) : PSDs ((bz P w K mg base ft).dfn ["first", "second", "state"] (defScope s_led) 0 rv) (defBody s_led) d_led :=
  (psd_one (psd_ret (pd_tup x.n_tuple (pd_lc (own := [("state", 2)]) (fun _ => fin_lst) (pdi_seq (pd_var (i := 0))) (blkOk_by (by kernel_rfl)) (pdg_name (i := 2)) (by simp) (fun _ => pdts_nil) (fun _ => (pd_ix (pd_var (i := 1)) (pd_var (i := 2))))))))
theorem w_led (x : Fx P w K mg base) : Ca (bz P w K mg base ft) 1 (He.fAd K ("led", none)) ["first", "second"] F_led [] := ca_pop x.f_led sc_led (t_led x) fun _ _ _ _ _ _ us hl => match us, hl with | [_, _], _ => rfl
theorem sc_Act_times : FnScope ["self", "number", "found", "base", "left"] ["self", "number"] (defScope s_Act_times) := ⟨rfl, rfl, rfl, by decide +kernel, rfl, by decide +kernel, by decide +kernel⟩
theorem t_Act_times (x : Fx P w K mg base) (rv : List Addr) : PSDs ((bz P w K mg base ft).dfn ["self", "number", "found", "base", "left"] (defScope s_Act_times) 5 rv) (defBody s_Act_times) d_Act_times := by
  refine ?G
  exact (by (intro h; exact h) : have h : (type_of% ?G) := (
  (psd_cons (psd_if (pdt_not (pdt_truth (pd_callC (w_is_within x) (Nat.le_of_ble_eq_true rfl) x.m_is_within (pda_cons (pd_var (i := 1)) (pda_cons pd_int (pda_cons (pd_gI (i := 1000000000000000000000000000000) x.g_MOST_POWER) pda_nil))) rfl)))
  (psd_one (psd_raise (c := 3) (ns := ["number"]) (x.xa_BadNumber _) (Nat.le_of_ble_eq_true rfl) x.k_BadNumber (pda_cons (pd_var (i := 1)) pda_nil) rfl))
  psd_nil)
  (psd_cons (psd_set (i := 2) (pd_tupRg x.n_tuple x.n_range (pd_len x.n_len (pd_fld (cs := [0]) (pd_var (i := 0)) (fd_states x)))))
  (psd_cons (psd_set (i := 3) (pd_fld (cs := [0]) (pd_var (i := 0)) (fd_states x)))
  (psd_cons (psd_set (i := 4) (pd_intf x.n_int (pd_var (i := 1))))
  (psd_cons (psd_while (pdt_gt (pd_var (i := 4)) pd_int)
  (psd_cons (psd_if (pdt_eq (pd_mod (pd_var (i := 4)) pd_int) pd_int)
  (psd_one (psd_set (i := 2) (pd_callC (w_led x) (Nat.le_of_ble_eq_true rfl) x.m_led (pda_cons (pd_var (i := 2)) (pda_cons (pd_var (i := 3)) pda_nil)) rfl)))
  psd_nil)
  (psd_cons (psd_set (i := 3) (pd_callC (w_led x) (Nat.le_of_ble_eq_true rfl) x.m_led (pda_cons (pd_var (i := 3)) (pda_cons (pd_var (i := 3)) pda_nil)) rfl))
  (psd_one (psd_set (i := 4) (pd_div (pd_var (i := 4)) pd_int))))))
  (psd_one (psd_ret (pd_makeC (c := 0) x.mk_Act (w_Act_init x) (Nat.le_of_ble_eq_true rfl) x.k_Act (pda_cons (pd_var (i := 2)) pda_nil) rfl))))))))
 ); type_of% ?G)
theorem w_Act_times (x : Fx P w K mg base) : Ca (bz P w K mg base ft) 6 (He.fAd K ("Act", some "times")) ["self", "number"] F_Act_times [] := ca_pop x.f_Act_times sc_Act_times (t_Act_times x) fun _ _ _ _ _ _ us hl => match us, hl with | [_, _], _ => rfl
theorem sc_Act_getitem : FnScope ["self", "state"] ["self", "state"] (defScope s_Act_getitem) := ⟨rfl, rfl, rfl, by decide +kernel, rfl, by decide +kernel, by decide +kernel⟩
theorem t_Act_getitem (x : Fx P w K mg base) (rv : List Addr) : PSDs ((bz P w K mg base ft).dfn ["self", "state"] (defScope s_Act_getitem) 2 rv) (defBody s_Act_getitem) d_Act_getitem := by
  refine ?G
  exact (by (intro h; exact h) : have h : (type_of% ?G) := (
  (psd_cons (psd_if (pdt_not (pdt_truth (pd_callC (w_is_within x) (Nat.le_of_ble_eq_true rfl) x.m_is_within (pda_cons (pd_var (i := 1)) (pda_cons pd_int (pda_cons (pd_sub (pd_len x.n_len (pd_fld (cs := [0]) (pd_var (i := 0)) (fd_states x))) pd_int) pda_nil))) rfl)))
  (psd_one (psd_raise (c := 2) (ns := ["state"]) (x.xa_BadState _) (Nat.le_of_ble_eq_true rfl) x.k_BadState (pda_cons (pd_var (i := 1)) pda_nil) rfl))
  psd_nil)
  (psd_one (psd_ret (pd_ix (pd_fld (cs := [0]) (pd_var (i := 0)) (fd_states x)) (pd_var (i := 1))))))
 ); type_of% ?G)
theorem w_Act_getitem (x : Fx P w K mg base) : Ca (bz P w K mg base ft) 3 (He.fAd K ("Act", some "__getitem__")) ["self", "state"] F_Act_getitem [] := ca_pop x.f_Act_getitem sc_Act_getitem (t_Act_getitem x) fun _ _ _ _ _ _ us hl => match us, hl with | [_, _], _ => rfl
theorem ga_Act (x : Fx P w K mg base) : GetA (bz P w K mg base ft) 3 0 (He.fAd K ("Act", some "__getitem__")) ["self", "state"] F_Act_getitem := ⟨w_Act_getitem x, x.gi_Act, rfl⟩
theorem sc_Act_rank : FnScope ["self"] ["self"] (defScope s_Act_rank) := ⟨rfl, rfl, rfl, by decide +kernel, rfl, by decide +kernel, by decide +kernel⟩
theorem t_Act_rank (x : Fx P w K mg base) (rv : List Addr) : PSDs ((bz P w K mg base ft).dfn ["self"] (defScope s_Act_rank) 0 rv) (defBody s_Act_rank) d_Act_rank :=
  (psd_one (psd_ret (pd_lenKt x.n_len x.n_set (pd_fld (cs := [0]) (pd_var (i := 0)) (fd_states x)))))
theorem w_Act_rank (x : Fx P w K mg base) : Ca (bz P w K mg base ft) 1 (getAd K ("Act", "rank")) ["self"] F_Act_rank [] := ca_pop x.f_Act_rank sc_Act_rank (t_Act_rank x) fun _ _ _ _ _ _ us hl => match us, hl with | [_], _ => rfl
theorem sc_Act_is_swap : FnScope ["self"] ["self"] (defScope s_Act_is_swap) := ⟨rfl, rfl, rfl, by decide +kernel, rfl, by decide +kernel, by decide +kernel⟩
theorem t_Act_is_swap (x : Fx P w K mg base) (rv : List Addr) : PSDs ((bz P w K mg base ft).dfn ["self"] (defScope s_Act_is_swap) 2 rv) (defBody s_Act_is_swap) d_Act_is_swap :=
  (psd_one (psd_ret (pd_eq (pd_prop (c := 0) (pa := prpAd K ("Act", "rank")) (pd_var (i := 0)) x.cl_Act x.pr_Act_rank (w_Act_rank x) (Nat.le_of_ble_eq_true rfl) rfl) (pd_len x.n_len (pd_fld (cs := [0]) (pd_var (i := 0)) (fd_states x))))))
theorem w_Act_is_swap (x : Fx P w K mg base) : Ca (bz P w K mg base ft) 3 (getAd K ("Act", "is_swap")) ["self"] F_Act_is_swap [] := ca_pop x.f_Act_is_swap sc_Act_is_swap (t_Act_is_swap x) fun _ _ _ _ _ _ us hl => match us, hl with | [_], _ => rfl
theorem sc_ascending : FnScope ["states", "seen", "state"] ["states"] (defScope s_ascending) := ⟨rfl, rfl, rfl, by decide +kernel, rfl, by decide +kernel, by decide +kernel⟩
theorem t_ascending (x : Fx P w K mg base) (rv : List Addr) : PSDs ((bz P w K mg base ft).dfn ["states", "seen", "state"] (defScope s_ascending) 0 rv) (defBody s_ascending) d_ascending := by
  refine ?G
  exact (by (intro h; exact h) : have h : (type_of% ?G) := (
  (psd_cons (psd_setDcK (i := 1) (own := [("state", 2)]) (pdi_seq (pd_var (i := 0))) (blkOk_by (by kernel_rfl)) (pdg_name (i := 2)) (by simp) (fun _ => (pd_var (i := 2))) (fun _ => pd_bl))
  (psd_one (psd_ret (pd_tup x.n_tuple (pd_sorted x.n_sorted (pd_lc (own := [("state", 2)]) (fun _ => fin_lst) (pdi_fd (pd_fz (pd_var (i := 1)))) (blkOk_by (by kernel_rfl)) (pdg_name (i := 2)) (by simp) (fun _ => pdts_nil) (fun _ => (pd_intf x.n_int (pd_var (i := 2))))))))))
 ); type_of% ?G)
theorem w_ascending (x : Fx P w K mg base) : Ca (bz P w K mg base ft) 1 (He.fAd K ("ascending", none)) ["states"] F_ascending [] := ca_pop x.f_ascending sc_ascending (t_ascending x) fun _ _ _ _ _ _ us hl => match us, hl with | [_], _ => rfl
theorem sc_Act_image : FnScope ["self"] ["self"] (defScope s_Act_image) := ⟨rfl, rfl, rfl, by decide +kernel, rfl, by decide +kernel, by decide +kernel⟩
theorem t_Act_image (x : Fx P w K mg base) (rv : List Addr) : PSDs ((bz P w K mg base ft).dfn ["self"] (defScope s_Act_image) 1 rv) (defBody s_Act_image) d_Act_image :=
  (psd_one (psd_ret (pd_callC (w_ascending x) (Nat.le_of_ble_eq_true rfl) x.m_ascending (pda_cons (pd_fld (cs := [0]) (pd_var (i := 0)) (fd_states x)) pda_nil) rfl)))
theorem w_Act_image (x : Fx P w K mg base) : Ca (bz P w K mg base ft) 2 (getAd K ("Act", "image")) ["self"] F_Act_image [] := ca_pop x.f_Act_image sc_Act_image (t_Act_image x) fun _ _ _ _ _ _ us hl => match us, hl with | [_], _ => rfl
theorem sc_l_is_act : FnScope ["_law_act", "_law_a", "_law_image", "_law_k"] ["_law_act", "_law_a"] (defScope s_l_is_act) := ⟨rfl, rfl, rfl, by decide +kernel, rfl, by decide +kernel, by decide +kernel⟩
theorem t_l_is_act (x : Fx P w K mg base) (rv : List Addr) : PSDs ((bz P w K mg base ft).dfn ["_law_act", "_law_a", "_law_image", "_law_k"] (defScope s_l_is_act) 4 rv) (defBody s_l_is_act) d_l_is_act := by
  refine ?G
  exact (by (intro h; exact h) : have h : (type_of% ?G) := (
  (psd_cons (psd_set (i := 2) (pd_tup x.n_tuple (pd_lc (own := [("_law_k", 3)]) (fun _ => fin_lst) (pdi_range1 x.n_range (pd_len x.n_len (pd_var (i := 1)))) (blkOk_by (by kernel_rfl)) (pdg_name (i := 3)) (by simp) (fun _ => pdts_one (pdt_in (pd_var (i := 3)) (pd_var (i := 1)))) (fun _ => (pd_var (i := 3))))))
  (psd_cons (psd_if (pdt_w (pdw_or (pdt_ne (pd_fld (cs := [0]) (pd_var (i := 0)) (fd_states x)) (pd_var (i := 1))) (pdw_or (pdt_ne (pd_prop (c := 0) (pa := prpAd K ("Act", "image")) (pd_var (i := 0)) x.cl_Act x.pr_Act_image (w_Act_image x) (Nat.le_of_ble_eq_true rfl) rfl) (pd_var (i := 2))) (pdw_or1 (pdt_ne (pd_prop (c := 0) (pa := prpAd K ("Act", "rank")) (pd_var (i := 0)) x.cl_Act x.pr_Act_rank (w_Act_rank x) (Nat.le_of_ble_eq_true rfl) rfl) (pd_len x.n_len (pd_var (i := 2))))))))
  (psd_one (psd_ret pd_bl))
  psd_nil)
  (psd_cons (psd_if (pdt_w (pdw_or (pdt_ne (pd_prop (c := 0) (pa := prpAd K ("Act", "is_swap")) (pd_var (i := 0)) x.cl_Act x.pr_Act_is_swap (w_Act_is_swap x) (Nat.le_of_ble_eq_true rfl) rfl) (pd_eq (pd_len x.n_len (pd_var (i := 2))) (pd_len x.n_len (pd_var (i := 1))))) (pdw_or1 (pdt_notIn (pd_prop (c := 0) (pa := prpAd K ("Act", "is_swap")) (pd_var (i := 0)) x.cl_Act x.pr_Act_is_swap (w_Act_is_swap x) (Nat.le_of_ble_eq_true rfl) rfl) (pd_lstD (pda_cons pd_bl (pda_cons pd_bl pda_nil)))))))
  (psd_one (psd_ret pd_bl))
  psd_nil)
  (psd_one (psd_ret (pd_eq (pd_lc (own := [("_law_k", 3)]) (fun _ => fin_lst) (pdi_range1 x.n_range (pd_len x.n_len (pd_var (i := 1)))) (blkOk_by (by kernel_rfl)) (pdg_name (i := 3)) (by simp) (fun _ => pdts_nil) (fun _ => (pd_getO (ga_Act x) (Nat.le_of_ble_eq_true rfl) (pd_var (i := 0)) (pd_var (i := 3))))) (pd_lst x.n_list (pd_var (i := 1)))))))))
 ); type_of% ?G)
theorem w_l_is_act (x : Fx P w K mg base) : Ca (bz P w K mg base ft) 5 (He.fAd K ("_law_is_act", none)) ["_law_act", "_law_a"] F_l_is_act [] := ca_pop x.f_l_is_act sc_l_is_act (t_l_is_act x) fun _ _ _ _ _ _ us hl => match us, hl with | [_, _], _ => rfl
theorem sc_powers : FnScope ["_law_a", "_law_many", "_law_found", "_law_k"] ["_law_a", "_law_many"] (defScope s_powers) := ⟨rfl, rfl, rfl, by decide +kernel, rfl, by decide +kernel, by decide +kernel⟩
theorem t_powers (x : Fx P w K mg base) (rv : List Addr) : PSDs ((bz P w K mg base ft).dfn ["_law_a", "_law_many", "_law_found", "_law_k"] (defScope s_powers) 0 rv) (defBody s_powers) d_powers := by
  refine ?G
  exact (by (intro h; exact h) : have h : (type_of% ?G) := (
  (psd_cons (psd_set (i := 2) (pd_lstDL (pda_cons (pd_tupRg x.n_tuple x.n_range (pd_len x.n_len (pd_var (i := 0)))) pda_nil)))
  (psd_cons (psd_while (pdt_lt (pd_len x.n_len (pd_var (i := 2))) (pd_var (i := 1)))
  (psd_one (psd_expr (pd_append (pd_var (i := 2)) (pd_tup x.n_tuple (pd_lc (own := [("_law_k", 3)]) (fun _ => fin_lst) (pdi_seq (pd_ix (pd_var (i := 2)) (pd_neg pd_int))) (blkOk_by (by kernel_rfl)) (pdg_name (i := 3)) (by simp) (fun _ => pdts_nil) (fun _ => (pd_ix (pd_var (i := 0)) (pd_var (i := 3))))))))))
  (psd_one (psd_ret (pd_var (i := 2))))))
 ); type_of% ?G)
theorem w_powers (x : Fx P w K mg base) : Ca (bz P w K mg base ft) 1 (He.fAd K ("_law_powers", none)) ["_law_a", "_law_many"] F_powers [] := ca_pop x.f_powers sc_powers (t_powers x) fun _ _ _ _ _ _ us hl => match us, hl with | [_, _], _ => rfl
theorem sc_Act_mul : FnScope ["self", "other"] ["self", "other"] (defScope s_Act_mul) := ⟨rfl, rfl, rfl, by decide +kernel, rfl, by decide +kernel, by decide +kernel⟩
theorem t_Act_mul (x : Fx P w K mg base) (rv : List Addr) : PSDs ((bz P w K mg base ft).dfn ["self", "other"] (defScope s_Act_mul) 5 rv) (defBody s_Act_mul) d_Act_mul := by
  refine ?G
  exact (by (intro h; exact h) : have h : (type_of% ?G) := (
  (psd_cons (psd_if (pdt_not (pdt_truth (pd_isiC (c := 0) x.n_isinstance x.k_Act (ki_Act x) (pd_var (i := 1)))))
  (psd_one psd_never)
  psd_nil)
  (psd_cons (psd_if (pdt_ne (pd_len x.n_len (pd_fld (cs := [0]) (pd_var (i := 0)) (fd_states x))) (pd_len x.n_len (pd_fld (cs := [0]) (pd_var (i := 1)) (fd_states x))))
  (psd_one (psd_raise (c := 4) (ns := ["many", "most"]) (x.xa_Uneven _) (Nat.le_of_ble_eq_true rfl) x.k_Uneven (pda_cons (pd_len x.n_len (pd_fld (cs := [0]) (pd_var (i := 0)) (fd_states x))) (pda_cons (pd_len x.n_len (pd_fld (cs := [0]) (pd_var (i := 1)) (fd_states x))) pda_nil)) rfl))
  psd_nil)
  (psd_one (psd_ret (pd_makeC (c := 0) x.mk_Act (w_Act_init x) (Nat.le_of_ble_eq_true rfl) x.k_Act (pda_cons (pd_callC (w_led x) (Nat.le_of_ble_eq_true rfl) x.m_led (pda_cons (pd_fld (cs := [0]) (pd_var (i := 0)) (fd_states x)) (pda_cons (pd_fld (cs := [0]) (pd_var (i := 1)) (fd_states x)) pda_nil)) rfl) pda_nil) rfl)))))
 ); type_of% ?G)
theorem w_Act_mul (x : Fx P w K mg base) : Ca (bz P w K mg base ft) 6 (He.fAd K ("Act", some "__mul__")) ["self", "other"] F_Act_mul [] := ca_pop x.f_Act_mul sc_Act_mul (t_Act_mul x) fun _ _ _ _ _ _ us hl => match us, hl with | [_, _], _ => rfl
theorem ml_Act (x : Fx P w K mg base) : MulA (bz P w K mg base ft) 6 0 (He.fAd K ("Act", some "__mul__")) ["self", "other"] F_Act_mul := ⟨w_Act_mul x, x.mu_Act, rfl⟩
theorem sc_Act_eq : FnScope ["self", "other"] ["self", "other"] (defScope s_Act_eq) := ⟨rfl, rfl, rfl, by decide +kernel, rfl, by decide +kernel, by decide +kernel⟩
theorem t_Act_eq (x : Fx P w K mg base) (rv : List Addr) : PSDs ((bz P w K mg base ft).dfn ["self", "other"] (defScope s_Act_eq) 0 rv) (defBody s_Act_eq) d_Act_eq :=
  (psd_cons (psd_if (pdt_not (pdt_truth (pd_isiC (c := 0) x.n_isinstance x.k_Act (ki_Act x) (pd_var (i := 1)))))
  (psd_one (psd_ret pd_bl))
  psd_nil)
  (psd_one (psd_ret (pd_eq (pd_fld (cs := [0]) (pd_var (i := 0)) (fd_states x)) (pd_fld (cs := [0]) (pd_var (i := 1)) (fd_states x))))))
theorem w_Act_eq (x : Fx P w K mg base) : Ca (bz P w K mg base ft) 1 (He.fAd K ("Act", some "__eq__")) ["self", "other"] F_Act_eq [] := ca_pop x.f_Act_eq sc_Act_eq (t_Act_eq x) fun _ _ _ _ _ _ us hl => match us, hl with | [_, _], _ => rfl
theorem ea_Act (x : Fx P w K mg base) : EqA (bz P w K mg base ft) 1 0 [] (He.fAd K ("Act", some "__eq__")) ["self", "other"] F_Act_eq := ⟨w_Act_eq x, x.e_Act, fun c hc => ins_all x c (by simp at hc ⊢; omega), firstB_ok x.fs_Act, rfl⟩
theorem sc_Act_le : FnScope ["self", "other"] ["self", "other"] (defScope s_Act_le) := ⟨rfl, rfl, rfl, by decide +kernel, rfl, by decide +kernel, by decide +kernel⟩
theorem t_Act_le (x : Fx P w K mg base) (rv : List Addr) : PSDs ((bz P w K mg base ft).dfn ["self", "other"] (defScope s_Act_le) 0 rv) (defBody s_Act_le) d_Act_le :=
  (psd_cons (psd_if (pdt_not (pdt_truth (pd_isiC (c := 0) x.n_isinstance x.k_Act (ki_Act x) (pd_var (i := 1)))))
  (psd_one psd_never)
  psd_nil)
  (psd_one (psd_ret (pd_cmle (pd_fld (cs := [0]) (pd_var (i := 0)) (fd_states x)) (pd_fld (cs := [0]) (pd_var (i := 1)) (fd_states x))))))
theorem w_Act_le (x : Fx P w K mg base) : Ca (bz P w K mg base ft) 1 (He.fAd K ("Act", some "__le__")) ["self", "other"] F_Act_le [] := ca_pop x.f_Act_le sc_Act_le (t_Act_le x) fun _ _ _ _ _ _ us hl => match us, hl with | [_, _], _ => rfl
theorem oa_Act_le (x : Fx P w K mg base) : OrdA (bz P w K mg base ft) 1 0 (He.fAd K ("Act", some "__le__")) ["self", "other"] F_Act_le "__le__" := ⟨w_Act_le x, x.or_Act_le, x.i_Act, rfl⟩
theorem sc_Act_lt : FnScope ["self", "other"] ["self", "other"] (defScope s_Act_lt) := ⟨rfl, rfl, rfl, by decide +kernel, rfl, by decide +kernel, by decide +kernel⟩
theorem t_Act_lt (x : Fx P w K mg base) (rv : List Addr) : PSDs ((bz P w K mg base ft).dfn ["self", "other"] (defScope s_Act_lt) 0 rv) (defBody s_Act_lt) d_Act_lt :=
  (psd_cons (psd_if (pdt_not (pdt_truth (pd_isiC (c := 0) x.n_isinstance x.k_Act (ki_Act x) (pd_var (i := 1)))))
  (psd_one psd_never)
  psd_nil)
  (psd_one (psd_ret (pd_cmlt (pd_fld (cs := [0]) (pd_var (i := 0)) (fd_states x)) (pd_fld (cs := [0]) (pd_var (i := 1)) (fd_states x))))))
theorem w_Act_lt (x : Fx P w K mg base) : Ca (bz P w K mg base ft) 1 (He.fAd K ("Act", some "__lt__")) ["self", "other"] F_Act_lt [] := ca_pop x.f_Act_lt sc_Act_lt (t_Act_lt x) fun _ _ _ _ _ _ us hl => match us, hl with | [_, _], _ => rfl
theorem oa_Act_lt (x : Fx P w K mg base) : OrdA (bz P w K mg base ft) 1 0 (He.fAd K ("Act", some "__lt__")) ["self", "other"] F_Act_lt "__lt__" := ⟨w_Act_lt x, x.or_Act_lt, x.i_Act, rfl⟩
theorem sc_is_compared : FnScope ["_law_one", "_law_other", "_law_a", "_law_b", "_law_told"] ["_law_one", "_law_other", "_law_a", "_law_b"] (defScope s_is_compared) := ⟨rfl, rfl, rfl, by decide +kernel, rfl, by decide +kernel, by decide +kernel⟩
theorem t_is_compared (x : Fx P w K mg base) (rv : List Addr) : PSDs ((bz P w K mg base ft).dfn ["_law_one", "_law_other", "_law_a", "_law_b", "_law_told"] (defScope s_is_compared) 2 rv) (defBody s_is_compared) d_is_compared := by
  refine ?G
  exact (by (intro h; exact h) : have h : (type_of% ?G) := (
  (psd_cons (psd_set (i := 4) (pd_lstD (pda_cons (pd_eqC (ea_Act x) (Nat.le_of_ble_eq_true rfl) (pd_var (i := 0)) (pd_var (i := 1))) (pda_cons (pd_neC (ea_Act x) (Nat.le_of_ble_eq_true rfl) (pd_var (i := 0)) (pd_var (i := 1))) (pda_cons (pd_ltC (oa_Act_lt x) (Nat.le_of_ble_eq_true rfl) (pd_var (i := 0)) (pd_var (i := 1))) (pda_cons (pd_leC (oa_Act_le x) (Nat.le_of_ble_eq_true rfl) (pd_var (i := 0)) (pd_var (i := 1))) (pda_cons (pd_gtC (oa_Act_lt x) x.de_Act_gt (Nat.le_of_ble_eq_true rfl) (pd_var (i := 0)) (pd_var (i := 1))) (pda_cons (pd_geC (oa_Act_le x) x.de_Act_ge (Nat.le_of_ble_eq_true rfl) (pd_var (i := 0)) (pd_var (i := 1))) pda_nil))))))))
  (psd_cons (psd_if (pdt_ne (pd_var (i := 4)) (pd_lstD (pda_cons (pd_eq (pd_var (i := 2)) (pd_var (i := 3))) (pda_cons (pd_ne (pd_var (i := 2)) (pd_var (i := 3))) (pda_cons (pd_cmlt (pd_var (i := 2)) (pd_var (i := 3))) (pda_cons (pd_cmle (pd_var (i := 2)) (pd_var (i := 3))) (pda_cons (pd_cmgt (pd_var (i := 2)) (pd_var (i := 3))) (pda_cons (pd_cmge (pd_var (i := 2)) (pd_var (i := 3))) pda_nil))))))))
  (psd_one (psd_ret pd_bl))
  psd_nil)
  (psd_one (psd_ret (pd_and (pd_not (pd_eqC (ea_Act x) (Nat.le_of_ble_eq_true rfl) (pd_var (i := 0)) (pd_var (i := 2)))) (pd_and (pd_neC (ea_Act x) (Nat.le_of_ble_eq_true rfl) (pd_var (i := 0)) (pd_var (i := 3))) (pd_and (pd_not (pd_eqC (ea_Act x) (Nat.le_of_ble_eq_true rfl) (pd_var (i := 0)) (pd_lst x.n_list (pd_var (i := 2))))) (pd_one (pd_not (pd_eqC (ea_Act x) (Nat.le_of_ble_eq_true rfl) (pd_var (i := 0)) pd_non))))))))))
 ); type_of% ?G)
theorem w_is_compared (x : Fx P w K mg base) : Ca (bz P w K mg base ft) 3 (He.fAd K ("_law_is_compared", none)) ["_law_one", "_law_other", "_law_a", "_law_b"] F_is_compared [] := ca_pop x.f_is_compared sc_is_compared (t_is_compared x) fun _ _ _ _ _ _ us hl => match us, hl with | [_, _, _, _], _ => rfl
theorem sc_pen : FnScope ["_law_script"] ["_law_script"] (defScope s_pen) := ⟨rfl, rfl, rfl, by decide +kernel, rfl, by decide +kernel, by decide +kernel⟩
theorem t_pen (x : Fx P w K mg base) (rv : List Addr) : PSDs ((bz P w K mg base ft).dfn ["_law_script"] (defScope s_pen) 0 rv) (defBody s_pen) d_pen :=
  (psd_one (psd_ret (pd_disp (ppz_cons (fun _ => (pd_lst x.n_list (pd_slU (pd_var (i := 0)) pd_int))) (ppz_cons (fun _ => pd_int) (ppz_cons (fun _ => pd_int) ppz_nil))))))
theorem w_pen (x : Fx P w K mg base) : Ca (bz P w K mg base ft) 1 (He.fAd K ("_law_pen", none)) ["_law_script"] F_pen [] := ca_keep x.f_pen sc_pen (t_pen x) fun _ _ _ _ _ _ us hl => match us, hl with | [_], _ => rfl
theorem sc_law : FnScope ["_law_script", "_law_pen_here", "_law_turn", "_law_many", "_law_a", "_law_more", "_law_b", "_law_one", "_law_other", "_law_powers_here", "_law_odd", "_law_k", "_law_n"] ["_law_script"] (defScope s_law) := ⟨rfl, rfl, rfl, by decide +kernel, rfl, by decide +kernel, by decide +kernel⟩
theorem t_law (x : Fx P w K mg base) (rv : List Addr) : PSDs ((bz P w K mg base ft).dfl ["_law_script", "_law_pen_here", "_law_turn", "_law_many", "_law_a", "_law_more", "_law_b", "_law_one", "_law_other", "_law_powers_here", "_law_odd", "_law_k", "_law_n"] (defScope s_law) 9 rv (He.cT K ("law", none)).1 "law") (defBody s_law) d_law := by
  refine ?G
  exact (by (intro h; exact h) : have h : (type_of% ?G) := (
  (psd_cons (psd_set (i := 1) (pd_callC (w_pen x) (Nat.le_of_ble_eq_true rfl) x.m_pen (pda_cons (pd_var (i := 0)) pda_nil) rfl))
  (psd_cons (psd_for (pdi_range1 x.n_range (pd_add pd_int (pd_min x.n_min pd_int (pd_len x.n_len (pd_var (i := 0)))))) (pdg_name (i := 2))
  (psd_cons (psd_set (i := 3) (pd_add pd_int (pd_callC (w_draw x) (Nat.le_of_ble_eq_true rfl) x.m_draw (pda_cons (pd_var (i := 1)) (pda_cons pd_int pda_nil)) rfl)))
  (psd_cons (psd_set (i := 4) (pd_tup x.n_tuple (pd_lc (own := [("_law_k", 11)]) (fun _ => fin_lst) (pdi_range1 x.n_range (pd_var (i := 3))) (blkOk_by (by kernel_rfl)) (pdg_name (i := 11)) (by simp) (fun _ => pdts_nil) (fun _ => (pd_callC (w_draw x) (Nat.le_of_ble_eq_true rfl) x.m_draw (pda_cons (pd_var (i := 1)) (pda_cons (pd_var (i := 3)) pda_nil)) rfl)))))
  (psd_cons (psd_set (i := 5) (pd_ite (pdt_gt (pd_callC (w_draw x) (Nat.le_of_ble_eq_true rfl) x.m_draw (pda_cons (pd_var (i := 1)) (pda_cons pd_int pda_nil)) rfl) pd_int) (pd_var (i := 3)) (pd_add pd_int (pd_callC (w_draw x) (Nat.le_of_ble_eq_true rfl) x.m_draw (pda_cons (pd_var (i := 1)) (pda_cons pd_int pda_nil)) rfl))))
  (psd_cons (psd_set (i := 6) (pd_ite (pdt_gt (pd_callC (w_draw x) (Nat.le_of_ble_eq_true rfl) x.m_draw (pda_cons (pd_var (i := 1)) (pda_cons pd_int pda_nil)) rfl) pd_int) (pd_tup x.n_tuple (pd_lc (own := [("_law_k", 11)]) (fun _ => fin_lst) (pdi_range1 x.n_range (pd_var (i := 5))) (blkOk_by (by kernel_rfl)) (pdg_name (i := 11)) (by simp) (fun _ => pdts_nil) (fun _ => (pd_callC (w_draw x) (Nat.le_of_ble_eq_true rfl) x.m_draw (pda_cons (pd_var (i := 1)) (pda_cons (pd_var (i := 5)) pda_nil)) rfl)))) (pd_var (i := 4))))
  (psd_cons (psd_par2 (i := 7) (j := 8) (pd_makeC (c := 0) x.mk_Act (w_Act_init x) (Nat.le_of_ble_eq_true rfl) x.k_Act (pda_cons (pd_var (i := 4)) pda_nil) rfl) (pd_makeK0 (c := 0) x.mk_Act (w_Act_init_1_states x) (Nat.le_of_ble_eq_true rfl) x.k_Act (pdk_cons (pd_var (i := 6)) pdk_nil) rfl rfl))
  (psd_cons (psd_if (pdt_w (pdw_or (pdt_not (pdt_truth (pd_callC (w_l_is_act x) (Nat.le_of_ble_eq_true rfl) x.m_l_is_act (pda_cons (pd_var (i := 7)) (pda_cons (pd_var (i := 4)) pda_nil)) rfl))) (pdw_or (pdt_not (pdt_truth (pd_callC (w_l_is_act x) (Nat.le_of_ble_eq_true rfl) x.m_l_is_act (pda_cons (pd_var (i := 8)) (pda_cons (pd_var (i := 6)) pda_nil)) rfl))) (pdw_or1 (pdt_not (pdt_truth (pd_callC (w_is_compared x) (Nat.le_of_ble_eq_true rfl) x.m_is_compared (pda_cons (pd_var (i := 7)) (pda_cons (pd_var (i := 8)) (pda_cons (pd_var (i := 4)) (pda_cons (pd_var (i := 6)) pda_nil)))) rfl)))))))
  (psd_one (psd_ret pd_bl))
  psd_nil)
  (psd_cons (psd_if (pdt_eq (pd_len x.n_len (pd_var (i := 4))) (pd_len x.n_len (pd_var (i := 6))))
  (psd_one (psd_if (pdt_not (pdt_truth (pd_callC (w_l_is_act x) (Nat.le_of_ble_eq_true rfl) x.m_l_is_act (pda_cons (pd_mulC (ml_Act x) (Nat.le_of_ble_eq_true rfl) (pd_var (i := 7)) (pd_var (i := 8))) (pda_cons (pd_tup x.n_tuple (pd_lc (own := [("_law_k", 11)]) (fun _ => fin_lst) (pdi_seq (pd_var (i := 4))) (blkOk_by (by kernel_rfl)) (pdg_name (i := 11)) (by simp) (fun _ => pdts_nil) (fun _ => (pd_ix (pd_var (i := 6)) (pd_var (i := 11)))))) pda_nil)) rfl)))
  (psd_one (psd_ret pd_bl))
  psd_nil))
  (psd_one (psd_if (pdt_ne (pd_fault (k := 7) (flt_refused x) rfl x.m_refused x.tb_law (.head _) (hu_law x) (Nat.le_of_ble_eq_true rfl) (LamX.lamS_by (by kernel_rfl)) (pd_mulC (ml_Act x) (Nat.le_of_ble_eq_true rfl) (pd_var (i := 7)) (pd_var (i := 8)))) (pd_tupD (pda_cons pd_str (pda_cons (pd_len x.n_len (pd_var (i := 4))) (pda_cons (pd_len x.n_len (pd_var (i := 6))) pda_nil)))))
  (psd_one (psd_ret pd_bl))
  psd_nil)))
  (psd_cons (psd_set (i := 9) (pd_callC (w_powers x) (Nat.le_of_ble_eq_true rfl) x.m_powers (pda_cons (pd_var (i := 4)) (pda_cons pd_int pda_nil)) rfl))
  (psd_cons (psd_if (pdt_w (pdw_or (pdt_ne (pd_lc (own := [("_law_n", 12)]) (fun _ => fin_lst) (pdi_range1 x.n_range pd_int) (blkOk_by (by kernel_rfl)) (pdg_name (i := 12)) (by simp) (fun _ => pdts_nil) (fun _ => (pd_fld (cs := [0]) (pd_methC (c := 0) (pd_var (i := 7)) x.cl_Act x.mt_Act_times (w_Act_times x) (Nat.le_of_ble_eq_true rfl) (pda_cons (pd_var (i := 12)) pda_nil) rfl) (fd_states x)))) (pd_var (i := 9))) (pdw_or1 (pdt_not (pdt_truth (pd_callC (w_l_is_act x) (Nat.le_of_ble_eq_true rfl) x.m_l_is_act (pda_cons (pd_var (i := 7)) (pda_cons (pd_var (i := 4)) pda_nil)) rfl))))))
  (psd_one (psd_ret pd_bl))
  psd_nil)
  (psd_cons (psd_set (i := 10) (pd_callC (w_pick x) (Nat.le_of_ble_eq_true rfl) x.m_pick (pda_cons (pd_var (i := 1)) (pda_cons (pd_lstD (pda_cons (pd_neg pd_int) (pda_cons (pd_var (i := 3)) (pda_cons pd_bl (pda_cons pd_non (pda_cons pd_str (pda_cons (pd_pow pd_int pd_int) pda_nil))))))) pda_nil)) rfl))
  (psd_cons (psd_if (pdt_ne (pd_fault (k := 4) (flt_refused x) rfl x.m_refused x.tb_law (.head _) (hu_law x) (Nat.le_of_ble_eq_true rfl) (LamX.lamS_by (by kernel_rfl)) (pd_getX (ga_Act x) (Nat.le_of_ble_eq_true rfl) (pd_var (i := 7)) (pd_var (i := 10)))) (pd_tupD (pda_cons pd_str (pda_cons (pd_repr x.n_repr (pd_var (i := 10))) pda_nil))))
  (psd_one (psd_ret pd_bl))
  psd_nil)
  (psd_cons (psd_set (i := 10) (pd_callC (w_pick x) (Nat.le_of_ble_eq_true rfl) x.m_pick (pda_cons (pd_var (i := 1)) (pda_cons (pd_lstD (pda_cons (pd_neg pd_int) (pda_cons (pd_add (pd_pow pd_int pd_int) pd_int) (pda_cons pd_bl (pda_cons pd_non (pda_cons pd_str (pda_cons (pd_tupD (pda_cons pd_int pda_nil)) pda_nil))))))) pda_nil)) rfl))
  (psd_cons (psd_if (pdt_ne (pd_fault (k := 6) (flt_refused x) rfl x.m_refused x.tb_law (.head _) (hu_law x) (Nat.le_of_ble_eq_true rfl) (LamX.lamS_by (by kernel_rfl)) (pd_methC (c := 0) (pd_var (i := 7)) x.cl_Act x.mt_Act_times (w_Act_times x) (Nat.le_of_ble_eq_true rfl) (pda_cons (pd_var (i := 10)) pda_nil) rfl)) (pd_tupD (pda_cons pd_str (pda_cons (pd_repr x.n_repr (pd_var (i := 10))) pda_nil))))
  (psd_one (psd_ret pd_bl))
  psd_nil)
  (psd_cons (psd_set (i := 10) (pd_callC (w_pick x) (Nat.le_of_ble_eq_true rfl) x.m_pick (pda_cons (pd_var (i := 1)) (pda_cons (pd_lstD (pda_cons (pd_tupD pda_nil) (pda_cons (pd_lstD (pda_cons pd_int pda_nil)) (pda_cons (pd_tupD (pda_cons pd_int pda_nil)) (pda_cons (pd_tupD (pda_cons pd_int (pda_cons pd_int pda_nil))) (pda_cons (pd_tupD (pda_cons pd_bl pda_nil)) (pda_cons pd_str (pda_cons pd_non (pda_cons (pd_tupD (pda_cons (pd_neg pd_int) (pda_cons pd_int pda_nil))) (pda_cons (pd_tupD (pda_cons pd_str pda_nil)) (pda_cons (pd_lst x.n_list (pd_var (i := 4))) (pda_cons (pd_add (pd_var (i := 4)) (pd_tupD (pda_cons (pd_add (pd_var (i := 3)) pd_int) pda_nil))) (pda_cons pd_int (pda_cons (pd_tupD (pda_cons pd_bl pda_nil)) (pda_cons (pd_tupD (pda_cons pd_int (pda_cons pd_bl pda_nil))) pda_nil))))))))))))))) pda_nil)) rfl))
  (psd_one (psd_if (pdt_ne (pd_fault (k := 5) (flt_refused x) rfl x.m_refused x.tb_law (.head _) (hu_law x) (Nat.le_of_ble_eq_true rfl) (LamX.lamS_by (by kernel_rfl)) (pd_makeC (c := 0) x.mk_Act (w_Act_init x) (Nat.le_of_ble_eq_true rfl) x.k_Act (pda_cons (pd_var (i := 10)) pda_nil) rfl)) (pd_tupD (pda_cons pd_str (pda_cons (pd_repr x.n_repr (pd_var (i := 10))) pda_nil))))
  (psd_one (psd_ret pd_bl))
  psd_nil)))))))))))))))))
  (psd_one (psd_ret pd_bl))))
 ); type_of% ?G)
end

end LW

set_option Elab.async false
set_option linter.all false
set_option maxRecDepth 100000
set_option maxHeartbeats 4000000
namespace LW
open PySem L2 BL

theorem fLaw {w : World} {K : PySem.W.Frag} {h : Heap} {mg : Str → Option Value} (X : K.In h) (G : h.Ns mainGlobals mg) (c : He.SaysX fa fn [] tf ex w h K) : mg "law" = some (.ref (He.fAd K ("law", none))) ∧ (∃ fd, FnE K "law" "law" s_law [] (He.fAd K ("law", none)) fd) := ⟨He.glo_ok X G (He.SaysD.facts c.t.d (List.mem_of_getElem? (i := 36) rfl)), He.SaysD.defs c.t.d (d := D_law) (List.mem_of_getElem? (i := 18) rfl)⟩
theorem facts {w : World} {K : PySem.W.Frag} {h : Heap} {mg : Str → Option Value} (X : K.In h) (G : h.Ns mainGlobals mg) (c : He.SaysX fa fn [] tf ex w h K) (cg : (gs.map fun q : Getr => getW K q.1) = gs.map fun q : Getr => He.DefD.val q.2) (base : Heap) (hT : ∀ p ∈ tf.map (He.cT K), LamX.TabB base mg p.1 p.2) : Fx (PySem.Challenge.rw_betweenlooks_k09_acts_and_their_operator).prog w K mg base := by
  refine ?G
  exact (by (intro h; exact h) : have h : (type_of% ?G) := (by
  let P := (PySem.Challenge.rw_betweenlooks_k09_acts_and_their_operator).prog
  have cd := c.t.d
  have hf : ∀ {f : He.Fa} (i : Nat), fa[i]? = some f → f.ok K = true := fun i e => He.SaysD.facts cd (List.mem_of_getElem? e)
  have hd : ∀ {d : He.DefD} (i : Nat), fn[i]? = some d → ∃ fd, FunD K d.name d.qual d.params d.body d.scope (d.dvs K) (d.kws K) (He.fAd K d.at_) fd := fun i e => He.SaysD.defs cd (List.mem_of_getElem? e)
  have e0 : ex K = true := c.more
  obtain ⟨x0, e1⟩ := He.ba e0
  obtain ⟨x1, e2⟩ := He.ba e1
  obtain ⟨x2, e3⟩ := He.ba e2
  obtain ⟨x3, e4⟩ := He.ba e3
  obtain ⟨x4, e5⟩ := He.ba e4
  obtain ⟨x5, e6⟩ := He.ba e5
  obtain ⟨x6, e7⟩ := He.ba e6
  obtain ⟨x7, e8⟩ := He.ba e7
  obtain ⟨x8, e9⟩ := He.ba e8
  obtain ⟨x9, e10⟩ := He.ba e9
  obtain ⟨x10, e11⟩ := He.ba e10
  obtain ⟨x11, e12⟩ := He.ba e11
  obtain ⟨x12, e13⟩ := He.ba e12
  obtain ⟨x13, e14⟩ := He.ba e13
  obtain ⟨x14, e15⟩ := He.ba e14
  obtain ⟨x15, e16⟩ := He.ba e15
  obtain ⟨x16, e17⟩ := He.ba e16
  obtain ⟨x17, e18⟩ := He.ba e17
  obtain ⟨x18, e19⟩ := He.ba e18
  obtain ⟨x19, e20⟩ := He.ba e19
  obtain ⟨x20, e21⟩ := He.ba e20
  obtain ⟨x21, e22⟩ := He.ba e21
  obtain ⟨x22, e23⟩ := He.ba e22
  obtain ⟨x23, e24⟩ := He.ba e23
  obtain ⟨x24, e25⟩ := He.ba e24
  obtain ⟨x25, e26⟩ := He.ba e25
  obtain ⟨x26, e27⟩ := He.ba e26
  obtain ⟨x27, e28⟩ := He.ba e27
  obtain ⟨x28, e29⟩ := He.ba e28
  obtain ⟨x29, e30⟩ := He.ba e29
  obtain ⟨x30, e31⟩ := He.ba e30
  obtain ⟨x31, e32⟩ := He.ba e31
  obtain ⟨x32, e33⟩ := He.ba e32
  have h_tb_law : LamX.TabB base mg (He.cT K ("law", none)).1 (He.cT K ("law", none)).2 := hT _ (List.mem_map.mpr ⟨("law", none), List.mem_of_getElem? (i := 0) rfl, rfl⟩)
  have h_n_len : mg "len" = none := He.free_ok X G (hf 0 rfl)
  have h_n_min : mg "min" = none := He.free_ok X G (hf 1 rfl)
  have h_n_range : mg "range" = none := He.free_ok X G (hf 2 rfl)
  have h_k_BadAct : mg "BadAct" = some (.ref (He.ga K "BadAct")) := He.glo_ok X G (hf 3 rfl)
  have h_n_super : mg "super" = none := He.free_ok X G (hf 4 rfl)
  have h_xa_BadAct : ∀ ft : Ft, ExA (bz P w K mg base ft) 1 1 ["states"] := fun ft => exa_ok (b := bz P w K mg base ft) (c := 1) x0 (by simp) (by decide) (by decide +kernel) (beq_self_eq_true _) (by kernel_rfl) h_n_super (fun _ _ qs _ _ _ _ _ _ _ _ _ _ _ us h1 h2 => match qs, h1, us, h2 with | [_, _], _, [_, _], _ => rfl)
  have h_su_BadAct : (([(1, true), (2, false), (3, false), (4, false)] : List (Nat × Bool)).all fun p => decide (PySem.W.exmOne K (.ref (caK K p.1)) (.ref (He.ga K "BadAct")) = some p.2)) = true := x1
  have h_xf_BadAct : L2.XfC K (He.ga K "BadAct") := L2.xfB_ok x2
  have h_n_repr : mg "repr" = none := He.free_ok X G (hf 5 rfl)
  have h_nf_BadAct_states : PySem.W.findIn K (.ref (He.ga K "BadAct")) "states" = some none := of_decide_eq_true x3
  have h_k_BadState : mg "BadState" = some (.ref (He.ga K "BadState")) := He.glo_ok X G (hf 6 rfl)
  have h_xa_BadState : ∀ ft : Ft, ExA (bz P w K mg base ft) 1 2 ["state"] := fun ft => exa_ok (b := bz P w K mg base ft) (c := 2) x4 (by simp) (by decide) (by decide +kernel) (beq_self_eq_true _) (by kernel_rfl) h_n_super (fun _ _ qs _ _ _ _ _ _ _ _ _ _ _ us h1 h2 => match qs, h1, us, h2 with | [_, _], _, [_, _], _ => rfl)
  have h_su_BadState : (([(1, false), (2, true), (3, false), (4, false)] : List (Nat × Bool)).all fun p => decide (PySem.W.exmOne K (.ref (caK K p.1)) (.ref (He.ga K "BadState")) = some p.2)) = true := x5
  have h_xf_BadState : L2.XfC K (He.ga K "BadState") := L2.xfB_ok x6
  have h_nf_BadState_state : PySem.W.findIn K (.ref (He.ga K "BadState")) "state" = some none := of_decide_eq_true x7
  have h_k_BadNumber : mg "BadNumber" = some (.ref (He.ga K "BadNumber")) := He.glo_ok X G (hf 7 rfl)
  have h_xa_BadNumber : ∀ ft : Ft, ExA (bz P w K mg base ft) 1 3 ["number"] := fun ft => exa_ok (b := bz P w K mg base ft) (c := 3) x8 (by simp) (by decide) (by decide +kernel) (beq_self_eq_true _) (by kernel_rfl) h_n_super (fun _ _ qs _ _ _ _ _ _ _ _ _ _ _ us h1 h2 => match qs, h1, us, h2 with | [_, _], _, [_, _], _ => rfl)
  have h_su_BadNumber : (([(1, false), (2, false), (3, true), (4, false)] : List (Nat × Bool)).all fun p => decide (PySem.W.exmOne K (.ref (caK K p.1)) (.ref (He.ga K "BadNumber")) = some p.2)) = true := x9
  have h_xf_BadNumber : L2.XfC K (He.ga K "BadNumber") := L2.xfB_ok x10
  have h_nf_BadNumber_number : PySem.W.findIn K (.ref (He.ga K "BadNumber")) "number" = some none := of_decide_eq_true x11
  have h_k_Uneven : mg "Uneven" = some (.ref (He.ga K "Uneven")) := He.glo_ok X G (hf 8 rfl)
  have h_xa_Uneven : ∀ ft : Ft, ExA (bz P w K mg base ft) 1 4 ["many", "most"] := fun ft => exa_ok (b := bz P w K mg base ft) (c := 4) x12 (by simp) (by decide) (by decide +kernel) (beq_self_eq_true _) (by kernel_rfl) h_n_super (fun _ _ qs _ _ _ _ _ _ _ _ _ _ _ us h1 h2 => match qs, h1, us, h2 with | [_, _, _], _, [_, _, _], _ => rfl)
  have h_su_Uneven : (([(1, false), (2, false), (3, false), (4, true)] : List (Nat × Bool)).all fun p => decide (PySem.W.exmOne K (.ref (caK K p.1)) (.ref (He.ga K "Uneven")) = some p.2)) = true := x13
  have h_xf_Uneven : L2.XfC K (He.ga K "Uneven") := L2.xfB_ok x14
  have h_nf_Uneven_many : PySem.W.findIn K (.ref (He.ga K "Uneven")) "many" = some none := of_decide_eq_true x15
  have h_nf_Uneven_most : PySem.W.findIn K (.ref (He.ga K "Uneven")) "most" = some none := of_decide_eq_true x16
  have h_k_LooksError : mg "LooksError" = some (.ref (He.ga K "LooksError")) := He.glo_ok X G (hf 9 rfl)
  have h_su_LooksError : (([(1, true), (2, true), (3, true), (4, true)] : List (Nat × Bool)).all fun p => decide (PySem.W.exmOne K (.ref (caK K p.1)) (.ref (He.ga K "LooksError")) = some p.2)) = true := x17
  have h_f_refused : ∃ fd, FnE K "_law_refused" "_law_refused" s_refused [] (He.fAd K ("_law_refused", none)) fd := hd (d := D_refused) 19 rfl
  have h_m_refused : mg "_law_refused" = some (.ref (He.fAd K ("_law_refused", none))) := He.glo_ok X G (hf 10 rfl)
  have h_cl_Act : Cls K (He.ga K "Act") := He.cls_ok (hf 11 rfl)
  have h_na_Act_states : NoAttr K (He.ga K "Act") "states" := He.noat_ok (hf 12 rfl)
  have h_n_isinstance : mg "isinstance" = none := He.free_ok X G (hf 13 rfl)
  have h_n_int : mg "int" = none := He.free_ok X G (hf 14 rfl)
  have h_n_bool : mg "bool" = none := He.free_ok X G (hf 15 rfl)
  have h_f_is_integer : ∃ fd, FnE K "is_integer" "is_integer" s_is_integer [] (He.fAd K ("is_integer", none)) fd := hd (d := D_is_integer) 0 rfl
  have h_m_is_integer : mg "is_integer" = some (.ref (He.fAd K ("is_integer", none))) := He.glo_ok X G (hf 16 rfl)
  have h_f_is_within : ∃ fd, FnE K "is_within" "is_within" s_is_within [] (He.fAd K ("is_within", none)) fd := hd (d := D_is_within) 1 rfl
  have h_m_is_within : mg "is_within" = some (.ref (He.fAd K ("is_within", none))) := He.glo_ok X G (hf 17 rfl)
  have h_n_all : mg "all" = none := He.free_ok X G (hf 18 rfl)
  have h_n_tuple : mg "tuple" = none := He.free_ok X G (hf 19 rfl)
  have h_f_is_act : ∃ fd, FnE K "is_act" "is_act" s_is_act [] (He.fAd K ("is_act", none)) fd := hd (d := D_is_act) 2 rfl
  have h_m_is_act : mg "is_act" = some (.ref (He.fAd K ("is_act", none))) := He.glo_ok X G (hf 20 rfl)
  have h_f_Act_init : ∃ fd, FnE K "__init__" "Act.__init__" s_Act_init [] (He.fAd K ("Act", some "__init__")) fd := hd (d := D_Act_init) 3 rfl
  have h_mk_Act : Mk K (He.ga K "Act") (He.fAd K ("Act", some "__init__")) := He.mkr_ok (hf 21 rfl)
  have h_k_Act : mg "Act" = some (.ref (He.ga K "Act")) := He.glo_ok X G (hf 22 rfl)
  have h_f_draw : ∃ fd, FnE K "_law_draw" "_law_draw" s_draw [] (He.fAd K ("_law_draw", none)) fd := hd (d := D_draw) 4 rfl
  have h_m_draw : mg "_law_draw" = some (.ref (He.fAd K ("_law_draw", none))) := He.glo_ok X G (hf 23 rfl)
  have h_f_pick : ∃ fd, FnE K "_law_pick" "_law_pick" s_pick [] (He.fAd K ("_law_pick", none)) fd := hd (d := D_pick) 5 rfl
  have h_n_list : mg "list" = none := He.free_ok X G (hf 24 rfl)
  have h_m_pick : mg "_law_pick" = some (.ref (He.fAd K ("_law_pick", none))) := He.glo_ok X G (hf 25 rfl)
  have h_f_led : ∃ fd, FnE K "led" "led" s_led [] (He.fAd K ("led", none)) fd := hd (d := D_led) 6 rfl
  have h_m_led : mg "led" = some (.ref (He.fAd K ("led", none))) := He.glo_ok X G (hf 26 rfl)
  have h_g_MOST_POWER : ∃ t, mg "MOST_POWER" = some (.int 1000000000000000000000000000000 t) := He.int_ok X G (hf 27 rfl)
  have h_f_Act_times : ∃ fd, FnE K "times" "Act.times" s_Act_times [] (He.fAd K ("Act", some "times")) fd := hd (d := D_Act_times) 7 rfl
  have h_mt_Act_times : Meth K (He.ga K "Act") "times" (He.fAd K ("Act", some "times")) := He.meth_ok (hf 28 rfl)
  have h_f_Act_getitem : ∃ fd, FnE K "__getitem__" "Act.__getitem__" s_Act_getitem [] (He.fAd K ("Act", some "__getitem__")) fd := hd (d := D_Act_getitem) 8 rfl
  have h_gi_Act : GetF K (He.ga K "Act") (He.fAd K ("Act", some "__getitem__")) := gtiB_ok x18
  have h_n_set : mg "set" = none := He.free_ok X G (hf 29 rfl)
  have h_f_Act_rank : ∃ fd, FnE K "rank" "Act.rank" s_Act_rank [] (getAd K ("Act", "rank")) fd := getr_fn (q := (("Act", "rank"), D_Act_rank)) (getr_at cg (i := 0) rfl) x31
  have h_pr_Act_rank : PropOf K (He.ga K "Act") "rank" (prpAd K ("Act", "rank")) (getAd K ("Act", "rank")) := prpB_ok x19
  have h_f_Act_is_swap : ∃ fd, FnE K "is_swap" "Act.is_swap" s_Act_is_swap [] (getAd K ("Act", "is_swap")) fd := getr_fn (q := (("Act", "is_swap"), D_Act_is_swap)) (getr_at cg (i := 1) rfl) x32
  have h_pr_Act_is_swap : PropOf K (He.ga K "Act") "is_swap" (prpAd K ("Act", "is_swap")) (getAd K ("Act", "is_swap")) := prpB_ok x20
  have h_n_sorted : mg "sorted" = none := He.free_ok X G (hf 30 rfl)
  have h_f_ascending : ∃ fd, FnE K "ascending" "ascending" s_ascending [] (He.fAd K ("ascending", none)) fd := hd (d := D_ascending) 9 rfl
  have h_m_ascending : mg "ascending" = some (.ref (He.fAd K ("ascending", none))) := He.glo_ok X G (hf 31 rfl)
  have h_f_Act_image : ∃ fd, FnE K "image" "Act.image" s_Act_image [] (getAd K ("Act", "image")) fd := getr_fn (q := (("Act", "image"), D_Act_image)) (getr_at cg (i := 2) rfl) e33
  have h_pr_Act_image : PropOf K (He.ga K "Act") "image" (prpAd K ("Act", "image")) (getAd K ("Act", "image")) := prpB_ok x21
  have h_f_l_is_act : ∃ fd, FnE K "_law_is_act" "_law_is_act" s_l_is_act [] (He.fAd K ("_law_is_act", none)) fd := hd (d := D_l_is_act) 10 rfl
  have h_m_l_is_act : mg "_law_is_act" = some (.ref (He.fAd K ("_law_is_act", none))) := He.glo_ok X G (hf 32 rfl)
  have h_f_powers : ∃ fd, FnE K "_law_powers" "_law_powers" s_powers [] (He.fAd K ("_law_powers", none)) fd := hd (d := D_powers) 11 rfl
  have h_m_powers : mg "_law_powers" = some (.ref (He.fAd K ("_law_powers", none))) := He.glo_ok X G (hf 33 rfl)
  have h_i_Act : InsF K (He.ga K "Act") := insB_ok h_cl_Act x22
  have h_kt_Act : kitB' K (He.ga K "Act") (([] : List Nat).map (caK K)) = true := x23
  have h_f_Act_mul : ∃ fd, FnE K "__mul__" "Act.__mul__" s_Act_mul [] (He.fAd K ("Act", some "__mul__")) fd := hd (d := D_Act_mul) 12 rfl
  have h_mu_Act : MulF K (He.ga K "Act") (He.fAd K ("Act", some "__mul__")) := mulB_ok x24
  have h_f_Act_eq : ∃ fd, FnE K "__eq__" "Act.__eq__" s_Act_eq [] (He.fAd K ("Act", some "__eq__")) fd := hd (d := D_Act_eq) 13 rfl
  have h_e_Act : EqF K (He.ga K "Act") (He.fAd K ("Act", some "__eq__")) := eqB_ok x25
  have h_fs_Act : firstB K (He.ga K "Act") (([] : List Nat).map (caK K)) = true := x26
  have h_f_Act_le : ∃ fd, FnE K "__le__" "Act.__le__" s_Act_le [] (He.fAd K ("Act", some "__le__")) fd := hd (d := D_Act_le) 14 rfl
  have h_or_Act_le : OrdF K (He.ga K "Act") (He.fAd K ("Act", some "__le__")) "__le__" := ordB_ok x27
  have h_de_Act_ge : DecF K (He.ga K "Act") .GtE "object.__ge__" := decB_ok x28
  have h_f_Act_lt : ∃ fd, FnE K "__lt__" "Act.__lt__" s_Act_lt [] (He.fAd K ("Act", some "__lt__")) fd := hd (d := D_Act_lt) 15 rfl
  have h_or_Act_lt : OrdF K (He.ga K "Act") (He.fAd K ("Act", some "__lt__")) "__lt__" := ordB_ok x29
  have h_de_Act_gt : DecF K (He.ga K "Act") .Gt "object.__gt__" := decB_ok x30
  have h_f_is_compared : ∃ fd, FnE K "_law_is_compared" "_law_is_compared" s_is_compared [] (He.fAd K ("_law_is_compared", none)) fd := hd (d := D_is_compared) 16 rfl
  have h_m_is_compared : mg "_law_is_compared" = some (.ref (He.fAd K ("_law_is_compared", none))) := He.glo_ok X G (hf 34 rfl)
  have h_f_pen : ∃ fd, FnE K "_law_pen" "_law_pen" s_pen [] (He.fAd K ("_law_pen", none)) fd := hd (d := D_pen) 17 rfl
  have h_m_pen : mg "_law_pen" = some (.ref (He.fAd K ("_law_pen", none))) := He.glo_ok X G (hf 35 rfl)
  have h_f_law : ∃ fd, FnE K "law" "law" s_law [] (He.fAd K ("law", none)) fd := hd (d := D_law) 18 rfl
  have h_m_law : mg "law" = some (.ref (He.fAd K ("law", none))) := He.glo_ok X G (hf 36 rfl)
  exact ⟨h_tb_law, h_n_len, h_n_min, h_n_range, h_k_BadAct, h_n_super, h_xa_BadAct, h_su_BadAct, h_xf_BadAct, h_n_repr, h_nf_BadAct_states, h_k_BadState, h_xa_BadState, h_su_BadState, h_xf_BadState, h_nf_BadState_state, h_k_BadNumber, h_xa_BadNumber, h_su_BadNumber, h_xf_BadNumber, h_nf_BadNumber_number, h_k_Uneven, h_xa_Uneven, h_su_Uneven, h_xf_Uneven, h_nf_Uneven_many, h_nf_Uneven_most, h_k_LooksError, h_su_LooksError, h_f_refused, h_m_refused, h_cl_Act, h_na_Act_states, h_n_isinstance, h_n_int, h_n_bool, h_f_is_integer, h_m_is_integer, h_f_is_within, h_m_is_within, h_n_all, h_n_tuple, h_f_is_act, h_m_is_act, h_f_Act_init, h_mk_Act, h_k_Act, h_f_draw, h_m_draw, h_f_pick, h_n_list, h_m_pick, h_f_led, h_m_led, h_g_MOST_POWER, h_f_Act_times, h_mt_Act_times, h_f_Act_getitem, h_gi_Act, h_n_set, h_f_Act_rank, h_pr_Act_rank, h_f_Act_is_swap, h_pr_Act_is_swap, h_n_sorted, h_f_ascending, h_m_ascending, h_f_Act_image, h_pr_Act_image, h_f_l_is_act, h_m_l_is_act, h_f_powers, h_m_powers, h_i_Act, h_kt_Act, h_f_Act_mul, h_mu_Act, h_f_Act_eq, h_e_Act, h_fs_Act, h_f_Act_le, h_or_Act_le, h_de_Act_ge, h_f_Act_lt, h_or_Act_lt, h_de_Act_gt, h_f_is_compared, h_m_is_compared, h_f_pen, h_m_pen, h_f_law, h_m_law⟩
 ); type_of% ?G)
end LW

set_option Elab.async false
set_option linter.all false
set_option maxRecDepth 100000
set_option maxHeartbeats 0

open PySem PySem.W PySem.Calls PyProof.Rows
theorem PySem.Challenge.cw_betweenlooks_k09_acts_and_their_operator_holds : PySem.Challenge.rw_betweenlooks_k09_acts_and_their_operator.Holds := by
  w_on; o_law
  refine HandSHeadRun.head_any (r := OpenLaw.row PySem.Challenge.rw_betweenlooks_k09_acts_and_their_operator) (q := view (OpenLaw.row PySem.Challenge.rw_betweenlooks_k09_acts_and_their_operator).prog [24]) (H := LW.hk) (ob := LW.ob) (M := 60000) (loose := LW.names) (d := HandSHeadRun.topDef (OpenLaw.row PySem.Challenge.rw_betweenlooks_k09_acts_and_their_operator).prog 24) (kwd := []) LW.ob_eq
    (by kernel_rfl) (fun s => by kernel_rfl) LW.run (by kernel_rfl) (by kernel_rfl) (by kernel_rfl) (by rfl) (by first | assumption | decide +kernel) (by decide +kernel) ⟨rfl, rfl, rfl, rfl, rfl, by decide +kernel⟩ ?hw ?hc
  case hw => w_witness2
  case hc =>
    refine BL.walk_of (l := PySem.Challenge.rw_betweenlooks_k09_acts_and_their_operator) (n := 63) (k := 10) (x := "_law_script") (CX := fun _ => L2.CX0) rfl (by decide) (by kernel_rfl) (BL.room_law (by decide) (by decide)) ?F (fun _ _ _ _ _ z => z)
    intro w mg fa h Y G hmg0
    obtain ⟨K, KX, c, cg⟩ := Y
    have hmg : mg ("law" : PySem.Str) = some (.ref fa) := by
      have e : (HandSHeadRun.topDef (OpenLaw.row PySem.Challenge.rw_betweenlooks_k09_acts_and_their_operator).prog 24).name = ("law" : PySem.Str) := by kernel_rfl
      rw [← e]
      exact hmg0
    obtain ⟨m0, f0⟩ := LW.fLaw KX G c
    have ea := hmg.symm.trans m0
    cases ea
    obtain ⟨fd, Fn⟩ := f0
    have hb := L2.FunD.bindsA (ps := ["_law_script"]) Fn fun _ _ _ _ _ _ us hl => match us, hl with | [_], _ => rfl
    refine ⟨K, KX, fd, LW.tf.map (He.cT K), BL.spLT K 63 ((LW.tbL K).map (·.1)), ?_, ?_, ?_, fun s v => hb s [v] rfl, fun H a ns hl _ hO hS => ⟨a, ns, rfl, hl, ?_, hS, fun _ => rfl⟩, fun base _ _ hT => ?_⟩
    · intro p hp
      obtain ⟨q, hq, rfl⟩ := List.mem_map.mp hp
      exact c.empty q hq
    · intro p hp
      obtain ⟨q, hq, rfl⟩ := List.mem_map.mp hp
      exact c.out q hq
    · intro p hp
      obtain ⟨q, hq, rfl⟩ := List.mem_map.mp hp
      exact PySem.W.codeHd_of_K KX (c.hd q hq)
    · intro p hp
      obtain ⟨q, hq, rfl⟩ := List.mem_map.mp hp
      simp only [LW.tbL, List.mem_cons, List.not_mem_nil, or_false] at hq
      rcases hq with rfl
      · exact hO (He.cT K ("law", none)) (List.mem_map.mpr ⟨("law", none), List.mem_of_getElem? (i := 0) rfl, rfl⟩)
    exact BL.law_okT (Z := LW.bz (PySem.Challenge.rw_betweenlooks_k09_acts_and_their_operator).prog w K mg base (fun _ _ _ _ _ _ => True)) (BL.hF_popL LW.sc_law (LW.t_law (LW.facts KX G c cg base hT)) fd Fn (BL.code_of Fn)) (by decide) LW.law_true
