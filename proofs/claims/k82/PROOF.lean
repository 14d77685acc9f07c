import PyProof.Rows.All
import Wide.All
import OpenK.AllK
import Wide.FinOn
import HandS.ForMost
import HandS.Exc
import HandS.TryOnly
import HandS.ExcOwn
import HandS.WordsExc
import HandS.CallSlots
import HandS.Lambda
import HandS.MakeKwOnly
import KE.KDictKeyed
import HandS.ExcInit
import HandS.Star
import HandS.Defaults
import HandS.MakeKw
import HandS.Wide
import HandS.Deep
import HandS.Conv
import HandS.Small
import PyProof.StrLawsIn
import HandS.TupAny
import HandS.TupLe
import HandS.TupMul
import HandS.IsInst
import KE.KDictCopyH
import HandS.Walk
import HandS.NoneIn
import HandS.DictComp
import KE.GoesNew
import KE.KDictZip
import HandS.Zip0
import KE.DataFind
import HandS.RaiseMore
import HandS.SetFor
import HandS.Text
import HandS.Style
import KE.KStateDown
import HandS.Base
import HandS.Call
import HandS.Ends
import HandS.Head0
import HandS.Head1
import HandS.Head2
import HandS.HeadEnd
import HandS.HeadHook1
import HandS.HeadHook2
import HandS.HeadHook4
import HandS.Codes
import HandS.Dict
import KE.KDictPairs
import KE.SortData
import HandS.HeadWalk
import HandS.ExcField
import HandS.ExcIs
import HandS.TryMany
import KE.KExcSuper
import KE.KExcIs
import PyProof.StrLawsRepr
import KE.KExcInit
import PySem.Challenge.RW_visitslips_k82_errors_told
set_option Elab.async false
set_option linter.all false
set_option maxRecDepth 100000
set_option maxHeartbeats 1900000
/-! DG: defs called where nothing is being told (no repr is under way): room, promises, calls. -/
namespace L2
open PyProof.Rows PySem PySem.Spec
/-- an argument without a star, then others -/
abbrev ArgAt (X : Cx) (e : Expr) (es : List Expr) : Prop := starEach (e :: es) X.env = (false, eval e X.env) :: starEach es X.env
/-- one argument without a star -/
abbrev OneAt (X : Cx) (e : Expr) : Prop := starEach [e] X.env = [(false, eval e X.env)]
/-- no star among the others -/
abbrev FlatAt (X : Cx) (pos : Pos) (es : List Expr) : Prop := (backTo pos (starEach es X.env)).any (·.1) = false
/-- neither a star nor two stars -/
abbrev FlatKw (X : Cx) (pos : Pos) (es : List Expr) (kws : List Keyword) : Prop := ((backTo pos (starEach es X.env)).any (·.1) || (backToKw pos (keywordEach kws X.env)).any (·.1.isNone)) = false
/-- the object of an attribute is evaluated plainly -/
abbrev BaseAt (X : Cx) (o : Expr) (name : Str) : Prop := attributeBase o name X.env (eval o X.env) = eval o X.env
/-- all keywords have names; these are they -/
abbrev KwAt (X : Cx) (pos : Pos) (kws : List Keyword) : Prop := (backToKw pos (keywordEach kws X.env)).all (·.1.isSome) = true
abbrev KwNames (X : Cx) (pos : Pos) (kws : List Keyword) (ks : List Str) : Prop := (backToKw pos (keywordEach kws X.env)).filterMap (·.1) = ks
end L2
namespace DL
open L2 PyProof.Rows PySem PySem.Spec
/-- room for calls; nothing is being told -/
structure Room (k : Nat) (A : Around) : Prop extends L2.Room k A where
  gd : A.guards = some []
namespace Room
variable {j k : Nat} {A : Around}
theorem mono (r : Room k A) (h : j ≤ k) : Room j A := ⟨r.toRoom.mono h, r.gd⟩
theorem deeper (r : Room (k + 1) A) (env : PySem.Env) : Room k (A.deeper env) := ⟨r.toRoom.deeper env, r.gd⟩
theorem in1 (r : Room (k + 1) A) : Room k A.in1 := ⟨r.toRoom.in1, r.gd⟩
theorem make (r : Room (k + 1) A) (C : Addr) (us : List Value) (kw : List (Str × Value)) : Room k (A.under (.builtin "type.__call__" ⟨.ref C :: us, kw⟩)) := ⟨r.toRoom.make C us kw, by
  have q : (Code.builtin "type.__call__" ⟨.ref C :: us, kw⟩).isGuard = false := by
    show guardIds.contains "type.__call__" = false
    decide +kernel
  unfold Around.under
  simp only [Code.guards, q, r.gd]
  rfl⟩
theorem units (r : Room k A) : A.units + 64 < cLine := r.toRoom.units
end Room
/-- what a def keeps, called where there is room -/
structure FnOk (P : Program) (w : World) (K : PySem.W.Frag) (mg : Str → Option Value) (base :
    Heap) (CX : CXT) (k : Nat) (f : Addr) (fd : FuncData) (ps : List Str) (sp : Sp) : Prop where
  len : ∀ vs H Q E, sp vs H
      Q E → vs.length = ps.length
  run : ∀ (A : Around) (outer : List PySem.Env) (s : Shared) (H : Hp) (args : Args) (us : List Value) (vs : List V) (Q : VK) (E : XK), Room k A → Env0 P w K mg base A outer s H → BindsTo s fd args (ps.zip us) → Vals vs us → sp vs H Q E →
    codeAny (model P w) A (.call (.ref
        f) args) (CR CX outer P w H s Q E) s
section
variable {P : Program} {w : World} {K : PySem.W.Frag} {mg : Str → Option Value} {base : Heap} {CX : CXT} {j k : Nat} {f : Addr} {fd : FuncData} {ps : List Str} {sp sp' : Sp}
theorem FnOk.mono (F : FnOk P w K mg base CX j f fd ps sp) (h : j ≤ k) : FnOk P w K mg base CX k f fd ps sp := ⟨F.len, fun A outer s H args us vs Q E hr => F.run A outer s H args us vs Q E (hr.mono h)⟩
theorem FnOk.imp (F : FnOk P w K mg base CX k f fd ps sp) (h : ∀ vs H Q E, sp' vs H Q E → sp vs H Q E) : FnOk P w K mg base CX k f fd ps sp' :=
  ⟨fun _ _ _ _ q => F.len _ _ _ _ (h _ _ _ _ q), fun A outer s H args us vs Q E hr he hb hv hs => F.run A outer s H args us vs Q E hr he hb hv (h _ _ _ _ hs)⟩
/-- a def's code object, as the written part has it -/
def CodeAt (K : PySem.W.Frag) (qual : Str) (cdv : Value) : Prop := ∃ (f : Addr) (oc : Value) (od : Option Addr) (fd : FuncData) (osl : Array (Option Value)), K.lookup f = some ⟨oc, od, .func fd, osl⟩ ∧ fd.qualname = qual ∧ fd.code = cdv ∧ PySem.W.codeIn K cdv qual = true
/-- a def of the text keeps what its body does -/
theorem fnOk_of {x qual : Str} {params : Arguments} {body : List Stmt} {scope : Scope} {dvs : List V} {kws : List (Str × V)} {N : List Str} (F : FunD K x qual params body scope dvs kws f fd) (S : FnScope N ps scope) (len : ∀ vs H Q E, sp vs H Q E → vs.length = ps.length)
    (hbody : ∀ (cdv : Value) (_ : CodeAt K qual cdv) (A : Around) (outer : List PySem.Env) (s : Shared) (H : Hp) (vs : List V) (Q : VK) (E : XK), Room k (A.deeper (envOfC qual scope s.heap.objs.size f cdv)) → sp vs H Q E →
      ∃ t, PSs (cxOf CX P w K mg base N qual scope f cdv A outer s H E) body t ∧ t { nx := fun _ H' => Q .non H', rt := Q } (L2.start N vs) H) : FnOk P w K mg base CX (k + 1) f fd ps sp := by
  (obtain ⟨oc, od, dV, kV, doc, pm, an, cdv, ct, osl, rfl, lk, hcd, _, _⟩ := F.ex)
  (refine ⟨len, fun A outer s H args us vs Q E hr e0 hb r hsp => ?_⟩)
  exact LamX.run_ofS lk hcd S hr.toRoom e0 hb r (len _ _ _ _ hsp) fun room => hbody cdv ⟨f, oc, od, _, osl, lk, rfl, rfl, hcd⟩ A outer s H vs Q E ⟨room, hr.gd⟩ hsp
end
section
variable {X : Cx} {CX : CXT} {k n : Nat} {f C : Addr} {fd : FuncData} {ps ks : List Str} {sp : Sp} {dvs : List V} {ds : List Value} {E : L2.St → XK} {x : Str} {p pos : Pos} {e : Expr} {es : List Expr} {kws : List Keyword} {t tk : TA} {g : List Value → List Value → List Value} {gV : List V → List V → List V}
/-- how a call's end is met -/
theorem met {pins : List (Addr × Obj)} {σ : L2.St} {H : Hp} {s : Shared} {Q : VK} {E : XK} {r : Result} {s' : Shared} (hx : PassesAt CX X σ E) (I : Inv X pins σ H s) (hq : CR CX X.stack X.prog X.w H s Q E r s') :
    match r with
    | .ok (.ret u) => EP X pins σ Q u s'
    | .ok _ => False
    | .error u => X.xe u s' := by
  rcases r with u | fl
  · exact hx pins H s u s' I hq
  · cases fl with
    | ret u => exact I.after hq
    | _ => exact False.elim hq
theorem run_fnSD {pins : List (Addr × Obj)} {σ : L2.St} {H : Hp} {s : Shared} {Q : VK} {us : List Value} {vs : List V} (G : FnOk X.prog X.w X.K X.mg X.base CX k f fd ps sp) (hr : Room k X.A) (hb : Binds X.K fd ps ds) (hd : Vals dvs ds) (hx : PassesAt CX X σ (E σ))
    (I : Inv X pins σ H s) (r : Vals vs us) (h : sp (vs ++ dvs) H Q (E σ))
        : wpAny (model X.prog X.w) X.A (call (.ref f) us) (EP X pins σ Q) X.xe s := by
  have all := r.append hd
  have few : (us ++ ds).length = ps.length := all.length.symm.trans (G.len _ _ _ _ h)
  refine wpAny_call (codeAny_mono (G.run _ _ _ _ ⟨us, []⟩ _ _ Q _ hr I.env0 (hb s us I.kIn few) all h) ?_)
  rintro (u | fl) s' hq
  · exact met hx I hq
  · have := met hx I hq
    cases fl <;> exact this
theorem pe_callSD (G : FnOk X.prog X.w X.K X.mg X.base CX k f fd ps sp) (hr : Room k X.A) (hg : Gl X x) (hm : X.mg x = some (.ref f)) (hk : PySem.W.keepIn X.K (.ref f) = true) (hb : Binds X.K fd ps ds) (hd : Vals dvs ds) (hx : ∀ σ, PassesAt CX X σ (E σ)) (ha : PA X (e :: es) t)
    (hdb : (x == ("__debug__" : Str)) = false := by decide) (he : ArgAt X e es := by rfl) (hpl : FlatAt X pos es := by rfl) : PE X (.Call (.Name x p) (e :: es) [] pos) (tCallSD sp dvs E t) := by
  constructor
  intro pins s σ H Q I h
  apply wpAny_Call_Name_kw
  refine ld_glob I hg hm ?_ hdb
  refine PySem.W.callWith_K (h₀ := X.base) I.ok.mod.kin hk (thn (ha.run pos pins s σ H _ I h) ?_) he hpl
  rintro us s1 ⟨vs, H1, I1, r, q⟩
  exact ⟨I1.kIn, run_fnSD G hr hb hd (hx σ) I1 r q⟩
end
end DL
set_option Elab.async false
set_option linter.all false
set_option maxRecDepth 100000
set_option maxHeartbeats 1900000
/-! DL0: values without a heap, mini heaps of cells, what they stand for. -/
namespace DL
open L2 PyProof.Rows PySem PySem.Spec

/-- a value as data -/
inductive D where
  | non | bl (b : Bool) | int (i : Int) | str (x : Str)
  | tup (ds : List D) | lst (ds : List D) | scr (ds : List D) | dct (ks vs : List D)
  | obj (c : Str) (ns : List Str) (ds : List D)
  | glo (x : Str) | ty (n : String)
  /-- a dict of n keys that are tuples (just counted) -/
  | dkn (n : Nat)
  /-- a dict whose keys are tuples: keys, values -/
  | dkv (ks vs : List D)
  /-- an own error: its class, its field, what the field holds -/
  | exc (c f : Str) (x : D)
/-- a value as a def holds it: data, or a changing thing by its number -/
inductive W where
  | d (x : D) | cell (n : Nat)
/-- what a changing thing holds -/
inductive C where
  | lst (ds : List D) | dct (ks : List D) (ws : List W) | obj (c : Str) (ns : List Str) (ws : List W)
  | dkv (ks : List D) (ws : List W)
abbrev Cs := List (Option C)
/-- where the cells stand; g: what a comprehension is filling (nobody sees it) -/
structure Ca where
  l : List (Option Addr)
  g : Addr → Prop
/-- an exception: class, fields -/
structure Ex where
  c : Str
  ns : List Str
  ds : List D
/-- what a step comes to -/
inductive R (α : Type) where
  | ok (a : α) (cc : Cs) | raise (x : Ex) (cc : Cs) | stuck
abbrev Env := List (Option W)
def R.bind {α β : Type} (r : R α) (f : α → Cs → R β) : R β := match r with
  | .ok a cc => f a cc
  | .raise x cc => .raise x cc
  | .stuck => .stuck
abbrev M (α : Type) := Cs → R α
abbrev ME := Env → M W

/-- a tuple of the module's own text -/
def KTup (K : PySem.W.Frag) (a : Addr) (xs : List V) : Prop :=
  ∃ (ob : Obj) (its : Array Value) (k : Nat), K.lookup a = some ob ∧ ob.cls = .type "tuple" ∧ ob.data = .seq its k ∧ its.size ≤ sizeLine ∧ Vals xs its.toList
/-- a list of the module's own text -/
def KLst (K : PySem.W.Frag) (a : Addr) (xs : List V) : Prop :=
  ∃ (ob : Obj) (its : Array Value) (k : Nat), K.lookup a = some ob ∧ ob.cls = .type "list" ∧ ob.dict = none ∧ ob.data = .seq its k ∧ its.size ≤ sizeLine ∧ Vals xs its.toList
/-- a tuple, tracked or of the text -/
def TupAt (K : PySem.W.Frag) (H : Hp) (a : Addr) (vs : List V) : Prop := H a = some (.tup vs) ∨ KTup K a vs
theorem lst_sq {K : PySem.W.Frag} {L : Addr → Prop} {H : Hp} {a : Addr} {vs : List V} (h : (¬ L a ∧ Rd H a (.lst vs)) ∨ KLst K a vs) : SqL K H a vs := h.elim (fun z => .inl z.2) .inr
theorem TupAt.sq {K : PySem.W.Frag} {H : Hp} {a : Addr} {vs : List V} (h : TupAt K H a vs) : SqT K H a vs := h.elim (fun z => .inl (.inl z)) .inr
/-- a key of a dict, as data -/
def keyD : Key → D
  | .inl i => .int i
  | .inr x => .str x
/-- a dict's entries -/
def DAt (H : Hp) (a : Addr) (ks : List D) (vs : List V) : Prop :=
  ∃ kvs : List (Key × V), H a = some (.dK kvs) ∧ kvs.map (fun p => keyD p.1) = ks ∧ kvs.map (·.2) = vs

/-- a dict by its entries alone -/
def RawD (a : Addr) (es : List DictEntry) : HO := .ext fun h => (a == sysModules) = false ∧ es.length ≤ sizeLine ∧ ∃ o ep, h.get? a = some o ∧ o.ExactDict ∧ o.data = .dict es.toArray ep
/-! ### keys that are tuples -/
mutual
def nk : D → Option NestedKey
  | .non => some .none
  | .bl b => some (.num (if b = true then 1 else 0))
  | .int i => some (.num i)
  | .str x => some (.text x)
  | .tup ds => (nks ds).map .tup
  | _ => none
def nks : List D → Option (List NestedKey)
  | [] => some []
  | x :: xs => match nk x, nks xs with
    | some k, some ks => some (k :: ks)
    | _, _ => none
end
/-- a key that is a tuple, not too deep -/
def tk (x : D) : Option NestedKey := match x with
  | .tup ds => match nk (.tup ds) with
    | some k => if k.depth ≤ 8 then some k else none
    | none => none
  | _ => none
theorem tk_is {x : D} {k : NestedKey} (e : tk x = some k) : (∃ ds, x = .tup ds) ∧ nk x = some k ∧ k.depth ≤ 8 := by
  cases x with
  | tup ds =>
    simp only [tk] at e
    split at e
    · rename_i k' q
      split at e
      · rename_i deep
        cases e
        exact ⟨⟨ds, rfl⟩, q, deep⟩
      · exact nomatch e
    · exact nomatch e
  | _ => exact nomatch e
def tks : List D → Option (List NestedKey)
  | [] => some []
  | x :: xs => match tk x, tks xs with
    | some k, some ks => some (k :: ks)
    | _, _ => none
theorem tks_snoc : ∀ {xs : List D} {x : D} {ks : List NestedKey} {k : NestedKey}, tks xs = some ks → tk x = some k → tks (xs ++ [x]) = some (ks ++ [k])
  | [], x, ks, k, h, e => by cases h; simp [tks, e]
  | y :: xs, x, ks, k, h, e => by
    simp only [tks] at h
    split at h
    · rename_i j js q1 q2
      cases h
      simp only [List.cons_append, tks, q1, tks_snoc q2 e]
    · exact nomatch h
def entsN (P : Program) (w : World) (xs : List (NestedKey × Addr × Value)) : List DictEntry := xs.map (entryOfKey (nestedKind P w))
/-- what values are read by: the written part, the program, the world -/
structure Wd where
  K : PySem.W.Frag
  P : Program
  w : World
instance : Coe Wd PySem.W.Frag := ⟨Wd.K⟩
abbrev wd (P : Program) (w : World) (K : PySem.W.Frag) : Wd := ⟨K, P, w⟩
abbrev _root_.L2.Cx.wd (X : Cx) : Wd := ⟨X.K, X.prog, X.w⟩
section
variable (K : Wd) (mg : Str → Option Value) (L : Addr → Prop) (H : Hp)
mutual
/-- the value v is the data; L: the addresses that may still change -/
def DenD : D → V → Prop
  | .non, v => v = .non
  | .bl b, v => v = .bl b
  | .int i, v => v = .int i
  | .str x, v => v = .str x
  | .tup ds, v => ∃ a vs, v = .ref a ∧ ((¬ L a ∧ H a = some (.tup vs)) ∨ KTup K a vs) ∧ DenL ds vs
  | .lst ds, v => ∃ a vs, v = .ref a ∧ ¬ L a ∧ H a = some (.lst vs) ∧ DenL ds vs
  | .scr ds, v => ∃ a vs, v = .ref a ∧ ((¬ L a ∧ Rd H a (.lst vs)) ∨ KLst K a vs) ∧ DenL ds vs
  | .dct ks ds, v => ∃ a vs, v = .ref a ∧ ¬ L a ∧ DAt H a ks vs ∧ DenL ds vs
  | .obj c ns ds, v => ∃ a Cl dx vs, v = .ref a ∧ ¬ L a ∧ mg c = some (.ref Cl) ∧ H a = some (.ins Cl dx (ns.zip vs)) ∧ ns.length = vs.length ∧ DenL ds vs
  | .glo x, v => ∃ a, mg x = some (.ref a) ∧ v = .ref a
  | .ty n, v => v = .ty n
  | .dkn n, v => ∃ a es, v = .ref a ∧ ¬ L a ∧ H a = some (RawD a es) ∧ es.length = n
  | .dkv ks ds, v => ∃ a es vs, v = .ref a ∧ ¬ L a ∧ H a = some (RawD a (entsN K.P K.w es)) ∧ tks ks = some (es.map (·.1)) ∧ (es.map (·.1)).Nodup ∧ DenL ks (es.map fun x => V.ref x.2.1) ∧ Vals vs (es.map fun x => x.2.2) ∧ DenL ds vs
  | .exc c f x, v => ∃ a C dx u, v = .ref a ∧ ¬ L a ∧ ¬ L dx ∧ mg c = some (.ref C) ∧ H a = some (exo a C (some dx)) ∧ H dx = some (exd dx [(f, u)]) ∧ DenD x u
def DenL : List D → List V → Prop
  | [], vs => vs = []
  | x :: xs, vs => ∃ v vr, vs = v :: vr ∧ DenD x v ∧ DenL xs vr
end
end

/-- nothing that does not change any more is touched -/
def Kp (L : Addr → Prop) (H : Hp) (L' : Addr → Prop) (H' : Hp) : Prop := ∀ a o, H a = some o → (∀ ps, o ≠ .tbl ps) → ¬ L a → H' a = some o ∧ ¬ L' a
theorem Kp.refl (L : Addr → Prop) (H : Hp) : Kp L H L H := fun _ _ h _ n => ⟨h, n⟩
theorem Kp.trans {L L1 L2' : Addr → Prop} {H H1 H2 : Hp} (p : Kp L H L1 H1) (q : Kp L1 H1 L2' H2) : Kp L H L2' H2 := fun a o h t n => by
  obtain ⟨h1, n1⟩ := p a o h t n
  exact q a o h1 t n1
theorem raw_tbl {a : Addr} {es : List DictEntry} (ps : Array Value) : RawD a es ≠ .tbl ps := fun z => by
  unfold RawD at z
  cases z

section
variable {K : Wd} {mg : Str → Option Value} {L L' : Addr → Prop} {H H' : Hp}
theorem Kp.dat (p : Kp L H L' H') {a : Addr} {ks : List D} {vs : List V} (n : ¬ L a) (h : DAt H a ks vs) : DAt H' a ks vs ∧ ¬ L' a := by
  obtain ⟨kvs, h1, h2, h3⟩ := h
  obtain ⟨q1, q2⟩ := p a _ h1 nofun n
  exact ⟨⟨kvs, q1, h2, h3⟩, q2⟩
mutual
theorem DenD.mono (p : Kp L H L' H') : ∀ (x : D) (v : V), DenD K mg L H x v → DenD K mg L' H' x v
  | .non, _, h => h
  | .bl _, _, h => h
  | .int _, _, h => h
  | .str _, _, h => h
  | .tup ds, v, h => by
    simp only [DenD] at h ⊢
    obtain ⟨a, vs, rfl, h1, h2⟩ := h
    refine ⟨a, vs, rfl, ?_, DenL.mono p ds vs h2⟩
    rcases h1 with ⟨n, h1⟩ | h1
    · obtain ⟨q1, q2⟩ := p a _ h1 nofun n
      exact .inl ⟨q2, q1⟩
    · exact .inr h1
  | .lst ds, v, h => by
    simp only [DenD] at h ⊢
    obtain ⟨a, vs, rfl, n, h1, h2⟩ := h
    obtain ⟨q1, q2⟩ := p a _ h1 nofun n
    exact ⟨a, vs, rfl, q2, q1, DenL.mono p ds vs h2⟩
  | .scr ds, v, h => by
    simp only [DenD] at h ⊢
    obtain ⟨a, vs, rfl, lies, h2⟩ := h
    refine ⟨a, vs, rfl, lies.imp ?_ id, DenL.mono p ds vs h2⟩
    rintro ⟨n, h1 | ⟨o, h1⟩⟩
    · obtain ⟨q1, q2⟩ := p a _ h1 nofun n
      exact ⟨q2, .inl q1⟩
    · obtain ⟨q1, q2⟩ := p a _ h1 nofun n
      exact ⟨q2, .inr ⟨o, q1⟩⟩
  | .dct ks ds, v, h => by
    simp only [DenD] at h ⊢
    obtain ⟨a, vs, rfl, n, h1, h2⟩ := h
    obtain ⟨q1, q2⟩ := p.dat n h1
    exact ⟨a, vs, rfl, q2, q1, DenL.mono p ds vs h2⟩
  | .obj c ns ds, v, h => by
    simp only [DenD] at h ⊢
    obtain ⟨a, Cl, dx, vs, rfl, n, h0, h1, hl, h2⟩ := h
    obtain ⟨q1, q2⟩ := p a _ h1 nofun n
    exact ⟨a, Cl, dx, vs, rfl, q2, h0, q1, hl, DenL.mono p ds vs h2⟩
  | .glo x, _, h => by
    simp only [DenD] at h ⊢
    exact h
  | .ty _, _, h => h
  | .dkn n, v, h => by
    simp only [DenD] at h ⊢
    obtain ⟨a, es, rfl, n, h1, h2⟩ := h
    obtain ⟨q1, q2⟩ := p a _ h1 raw_tbl n
    exact ⟨a, es, rfl, q2, q1, h2⟩
  | .dkv ks ds, v, h => by
    simp only [DenD] at h ⊢
    obtain ⟨a, es, vs, rfl, n, h1, h2, h3, h4, h5, h6⟩ := h
    obtain ⟨q1, q2⟩ := p a _ h1 raw_tbl n
    exact ⟨a, es, vs, rfl, q2, q1, h2, h3, DenL.mono p ks _ h4, h5, DenL.mono p ds vs h6⟩
  | .exc c f x, v, h => by
    simp only [DenD] at h ⊢
    obtain ⟨a, C, dx, u, rfl, n, nd, h0, h1, h2, h3⟩ := h
    obtain ⟨q1, q2⟩ := p a _ h1 (fun ps e => by unfold exo at e; cases e) n
    obtain ⟨q3, q4⟩ := p dx _ h2 (fun ps e => by unfold exd at e; cases e) nd
    exact ⟨a, C, dx, u, rfl, q2, q4, h0, q1, q3, DenD.mono p x u h3⟩
theorem DenL.mono (p : Kp L H L' H') : ∀ (xs : List D) (vs : List V), DenL K mg L H xs vs → DenL K mg L' H' xs vs
  | [], _, h => h
  | x :: xs, vs, h => by
    simp only [DenL] at h ⊢
    obtain ⟨v, vr, rfl, h1, h2⟩ := h
    exact ⟨v, vr, rfl, DenD.mono p x v h1, DenL.mono p xs vr h2⟩
end
theorem DenL.length : ∀ {xs : List D} {vs : List V}, DenL K mg L H xs vs → vs.length = xs.length
  | [], vs, h => by
    have e : vs = [] := h
    rw [e]
    rfl
  | x :: xs, vs, h => by
    obtain ⟨v, vr, rfl, _, h2⟩ := h
    simp [DenL.length h2]
theorem DenL.get : ∀ {xs : List D} {vs : List V} {i : Nat} {x : D}, DenL K mg L H xs vs → xs[i]? = some x → ∃ v, vs[i]? = some v ∧ DenD K mg L H x v
  | [], _, i, x, _, e => by simp at e
  | y :: xs, vs, 0, x, h, e => by
    obtain ⟨v, vr, rfl, h1, _⟩ := h
    simp at e
    subst e
    exact ⟨v, rfl, h1⟩
  | y :: xs, vs, i + 1, x, h, e => by
    obtain ⟨v, vr, rfl, _, h2⟩ := h
    simpa using DenL.get (i := i) h2 (by simpa using e)
theorem DenL.append : ∀ {xs ys : List D} {vs us : List V}, DenL K mg L H xs vs → DenL K mg L H ys us → DenL K mg L H (xs ++ ys) (vs ++ us)
  | [], ys, vs, us, h, h' => by
    have e : vs = [] := h
    subst e
    simpa using h'
  | x :: xs, ys, vs, us, h, h' => by
    obtain ⟨v, vr, rfl, h1, h2⟩ := h
    exact ⟨v, vr ++ us, rfl, h1, DenL.append h2 h'⟩
theorem DenL.snoc {xs : List D} {vs : List V} {x : D} {v : V} (h : DenL K mg L H xs vs) (h' : DenD K mg L H x v) : DenL K mg L H (xs ++ [x]) (vs ++ [v]) :=
  h.append ⟨v, [], rfl, h', rfl⟩
theorem DenL.take : ∀ {xs : List D} {vs : List V} (n : Nat), DenL K mg L H xs vs → DenL K mg L H (xs.take n) (vs.take n)
  | _, vs, 0, _ => by simp only [List.take_zero]; exact rfl
  | [], vs, n + 1, h => by
    have e : vs = [] := h
    subst e
    exact rfl
  | x :: xs, vs, n + 1, h => by
    obtain ⟨v, vr, rfl, h1, h2⟩ := h
    exact ⟨v, vr.take n, rfl, h1, DenL.take n h2⟩
theorem DenL.drop : ∀ {xs : List D} {vs : List V} (n : Nat), DenL K mg L H xs vs → DenL K mg L H (xs.drop n) (vs.drop n)
  | _, vs, 0, h => by simpa using h
  | [], vs, n + 1, h => by
    have e : vs = [] := h
    subst e
    exact rfl
  | x :: xs, vs, n + 1, h => by
    obtain ⟨v, vr, rfl, h1, h2⟩ := h
    simpa using DenL.drop n h2
theorem DenL.reverse : ∀ {xs : List D} {vs : List V}, DenL K mg L H xs vs → DenL K mg L H xs.reverse vs.reverse
  | [], vs, h => by
    have e : vs = [] := h
    subst e
    exact rfl
  | x :: xs, vs, h => by
    obtain ⟨v, vr, rfl, h1, h2⟩ := h
    simp only [List.reverse_cons]
    exact (DenL.reverse h2).snoc h1
theorem DenL.set : ∀ {xs : List D} {vs : List V} (i : Nat) {x : D} {v : V}, DenL K mg L H xs vs → DenD K mg L H x v → DenL K mg L H (xs.set i x) (vs.set i v)
  | [], vs, i, x, v, h, _ => by
    have e : vs = [] := h
    subst e
    exact rfl
  | y :: xs, vs, 0, x, v, h, h' => by
    obtain ⟨u, vr, rfl, h1, h2⟩ := h
    exact ⟨v, vr, rfl, h', h2⟩
  | y :: xs, vs, i + 1, x, v, h, h' => by
    obtain ⟨u, vr, rfl, h1, h2⟩ := h
    exact ⟨u, vr.set i v, rfl, h1, DenL.set i h2 h'⟩
theorem DenL.eraseIdx : ∀ {xs : List D} {vs : List V} (i : Nat), DenL K mg L H xs vs → DenL K mg L H (xs.eraseIdx i) (vs.eraseIdx i)
  | [], vs, i, h => by
    have e : vs = [] := h
    subst e
    exact rfl
  | y :: xs, vs, 0, h => by
    obtain ⟨u, vr, rfl, h1, h2⟩ := h
    simpa using h2
  | y :: xs, vs, i + 1, h => by
    obtain ⟨u, vr, rfl, h1, h2⟩ := h
    exact ⟨u, vr.eraseIdx i, rfl, h1, DenL.eraseIdx i h2⟩
end

/-! the tables that defs' code objects have -/
/-- a def of the law's own text -/
def lawish (q : Str) : Bool := match q.cps.toList with
  | [108, 97, 119] => true
  | 95 :: 108 :: 97 :: 119 :: _ => true
  | _ => false
/-- the table of a code object -/
def tabAt (K : PySem.W.Frag) (c : Addr) : Addr := match K.lookup c with
  | some ⟨_, _, .fields parts, _⟩ => (match parts.getD 11 .none with
    | .ref P => P
    | _ => 0)
  | _ => 0
/-- the tables of the law's own defs, what their lambdas are called -/
def tabs3 (K : PySem.W.Frag) : List (Addr × Addr × Str) := K.filterMap fun p => match p.2.data with
  | .func fd => if lawish fd.qualname = true then (match fd.code with
    | .ref c => some (c, tabAt K c, fd.qualname ++ ".<locals>." ++ "<lambda>")
    | _ => none) else none
  | _ => none
def tabsK (K : PySem.W.Frag) : List (Addr × Str) := (tabs3 K).map fun t => (t.2.1, t.2.2)
def TabL (L : Addr → Prop) (H : Hp) (P : Addr) (q : Str) : Prop := ∃ ps : Array Value, H P = some (.tbl ps) ∧ TriplesOk ps.toList ∧ ∀ (pos : Pos) (cv : Value), codeAmong pos ps.toList = some cv → ∃ c, cv = .ref c ∧ H c = some (LamX.CodeO c q) ∧ ¬ L c
def Tbs (T : List (Addr × Str)) (L : Addr → Prop) (H : Hp) : Prop := ∀ p ∈ T, TabL L H p.1 p.2
theorem Tbs.step {T : List (Addr × Str)} {L L' : Addr → Prop} {H H' : Hp} (t : Tbs T L H) (k : Kp L H L' H') (e : ∀ a ps, H a = some (.tbl ps) → H' a = some (.tbl ps)) : Tbs T L' H' := by
  intro p hp
  obtain ⟨ps, h1, h2, h3⟩ := t p hp
  (refine ⟨ps, e _ _ h1, h2, fun pos cv hc => ?_⟩)
  obtain ⟨c, e1, e2, e3⟩ := h3 pos cv hc
  obtain ⟨q1, q2⟩ := k c _ e2 (fun ps => LamX.codeO_ne ps) e3
  exact ⟨c, e1, q1, q2⟩
theorem Tbs.put {T : List (Addr × Str)} {L L' : Addr → Prop} {H : Hp} {a : Addr} {o u : HO} (t : Tbs T L H) (h : H a = some u) (nt : ∀ ps, u ≠ .tbl ps) (nc : ∀ c q, u ≠ LamX.CodeO c q) (l : ∀ c, c ≠ a → ¬ L c → ¬ L' c) : Tbs T L' (upd H a o) := by
  intro p hp
  obtain ⟨ps, h1, h2, h3⟩ := t p hp
  refine ⟨ps, by rw [upd_ne (fun z => by subst z; rw [h] at h1; exact nt ps (Option.some.inj h1))]; exact h1, h2, fun pos cv hc => ?_⟩
  obtain ⟨c, e1, e2, e3⟩ := h3 pos cv hc
  have ne : c ≠ a := fun z => by
    subst z
    rw [h] at e2
    exact nc _ _ (Option.some.inj e2)
  exact ⟨c, e1, by rw [upd_ne ne]; exact e2, l c ne e3⟩
theorem tbl_new {H : Hp} {p : Addr} {o : HO} (h : H p = none) : ∀ a ps, H a = some (.tbl ps) → upd H p o a = some (.tbl ps) := fun a ps e => by
  rw [upd_ne (ne_of_none e h)]
  exact e
theorem tbl_write {H : Hp} {p : Addr} {o u : HO} (h : H p = some u) (mu : Mut (some u)) : ∀ a ps, H a = some (.tbl ps) → upd H p o a = some (.tbl ps) := fun a ps e => by
  rw [upd_ne (fun z => by subst z; rw [h] at e; cases e; exact mu)]
  exact e
/-! ### cells -/
def Live (ca : Ca) (a : Addr) : Prop := some a ∈ ca.l ∨ ca.g a
def Ca.snoc (ca : Ca) (p : Addr) : Ca := ⟨ca.l ++ [some p], ca.g⟩
def Ca.del (ca : Ca) (n : Nat) : Ca := ⟨ca.l.set n none, ca.g⟩
def Ca.cut (ca : Ca) (n : Nat) : Ca := ⟨ca.l.take n, ca.g⟩
section
variable (K : Wd) (mg : Str → Option Value) (ca : Ca) (H : Hp)
def DenW : W → V → Prop
  | .d x, v => DenD K mg (Live ca) H x v
  | .cell n, v => n < ca.l.length ∧ ∀ a, ca.l[n]? = some (some a) → v = .ref a
def DenWs : List W → List V → Prop
  | [], vs => vs = []
  | x :: xs, vs => ∃ v vr, vs = v :: vr ∧ DenW K mg ca H x v ∧ DenWs xs vr
/-- at a: a dict whose keys are tuples -/
def NAt (a : Addr) (ks : List D) (vs : List V) : Prop := ∃ es, H a = some (RawD a (entsN K.P K.w es)) ∧ tks ks = some (es.map (·.1)) ∧ (es.map (·.1)).Nodup ∧ DenL K mg (Live ca) H ks (es.map fun x => V.ref x.2.1) ∧ Vals vs (es.map fun x => x.2.2)
/-- what stands at a cell -/
def DenC : C → Addr → Prop
  | .lst ds, a => ∃ vs, H a = some (.lst vs) ∧ DenL K mg (Live ca) H ds vs
  | .dct ks ws, a => ∃ kvs : List (Key × V), H a = some (.dK kvs) ∧ kvs.map (fun p => keyD p.1) = ks ∧ DenWs K mg ca H ws (kvs.map (·.2))
  | .obj c ns ws, a => ∃ Cl dx vs, mg c = some (.ref Cl) ∧ H a = some (.ins Cl dx (ns.zip vs)) ∧ ns.length = vs.length ∧ DenWs K mg ca H ws vs
  | .dkv ks ws, a => ∃ vs, NAt K mg ca H a ks vs ∧ DenWs K mg ca H ws vs
structure CsOk (cc : Cs) : Prop where
  len : ca.l.length = cc.length
  at_ : ∀ (n : Nat) (a : Addr), ca.l[n]? = some (some a) → ∃ c, cc[n]? = some (some c) ∧ DenC K mg ca H c a
  live : ∀ (n : Nat) (c : C), cc[n]? = some (some c) → ∃ a, ca.l[n]? = some (some a)
  inj : ∀ (n m : Nat) (a : Addr), ca.l[n]? = some (some a) → ca.l[m]? = some (some a) → n = m
  gh : ∀ a, ca.g a → ∃ o, H a = some o ∧ Mut (some o)
  gd : ∀ (n : Nat) (a : Addr), ca.l[n]? = some (some a) → ¬ ca.g a
  tabs : Tbs (tabsK K.K) (Live ca) H
/-- the def's names -/
structure EnvOk (env : Env) (σ : L2.St) : Prop where
  len : σ.length = env.length
  at_ : ∀ (i : Nat) (w : W), env[i]? = some (some w) → ∃ v, σ[i]? = some (some v) ∧ DenW K mg ca H w v
end
/-- what keeps the meaning of values -/
structure Mn (ca : Ca) (H : Hp) (ca' : Ca) (H' : Hp) : Prop where
  len : ca.l.length ≤ ca'.l.length
  old : ∀ (n : Nat) (a : Addr), n < ca.l.length → ca'.l[n]? = some (some a) → ca.l[n]? = some (some a)
  kp : Kp (Live ca) H (Live ca') H'
/-- from one state to a later one -/
structure Stp (ca : Ca) (H : Hp) (ca' : Ca) (H' : Hp) : Prop extends Mn ca H ca' H' where
  gEq : ca'.g = ca.g
  gKp : ∀ a, ca.g a → H' a = H a
theorem Mn.refl (ca : Ca) (H : Hp) : Mn ca H ca H := ⟨Nat.le_refl _, fun _ _ _ h => h, Kp.refl _ _⟩
theorem Mn.trans {ca ca1 ca2 : Ca} {H H1 H2 : Hp} (p : Mn ca H ca1 H1) (q : Mn ca1 H1 ca2 H2) : Mn ca H ca2 H2 :=
  ⟨Nat.le_trans p.len q.len, fun n a h e => p.old n a h (q.old n a (Nat.lt_of_lt_of_le h p.len) e), p.kp.trans q.kp⟩
theorem Stp.refl (ca : Ca) (H : Hp) : Stp ca H ca H := ⟨Mn.refl _ _, rfl, fun _ _ => rfl⟩
theorem Stp.trans {ca ca1 ca2 : Ca} {H H1 H2 : Hp} (p : Stp ca H ca1 H1) (q : Stp ca1 H1 ca2 H2) : Stp ca H ca2 H2 :=
  ⟨p.toMn.trans q.toMn, q.gEq.trans p.gEq, fun a h => (q.gKp a (by rw [p.gEq]; exact h)).trans (p.gKp a h)⟩
section
variable {K : Wd} {mg : Str → Option Value} {ca ca' : Ca} {H H' : Hp}
theorem DenW.mn (p : Mn ca H ca' H') : ∀ {w : W} {v : V}, DenW K mg ca H w v → DenW K mg ca' H' w v
  | .d x, v, h => DenD.mono p.kp x v h
  | .cell n, v, h => ⟨Nat.lt_of_lt_of_le h.1 p.len, fun a e => h.2 a (p.old n a h.1 e)⟩
theorem DenWs.mn (p : Mn ca H ca' H') : ∀ {ws : List W} {vs : List V}, DenWs K mg ca H ws vs → DenWs K mg ca' H' ws vs
  | [], _, h => h
  | _ :: _, _, ⟨v, vr, e, h1, h2⟩ => ⟨v, vr, e, h1.mn p, h2.mn p⟩
theorem EnvOk.mn {env : Env} {σ : L2.St} (p : Mn ca H ca' H') (h : EnvOk K mg ca H env σ) : EnvOk K mg ca' H' env σ := ⟨h.len, fun i w e => by
  obtain ⟨v, e1, d⟩ := h.at_ i w e
  exact ⟨v, e1, d.mn p⟩⟩
theorem NAt.mn {a : Addr} {ks : List D} {vs : List V} (p : Kp (Live ca) H (Live ca') H') (e : H' a = H a) (h : NAt K mg ca H a ks vs) : NAt K mg ca' H' a ks vs := by
  obtain ⟨es, h1, h2, h3, h4, h5⟩ := h
  exact ⟨es, e.trans h1, h2, h3, DenL.mono p _ _ h4, h5⟩
/-- as data -/
theorem NAt.den {a : Addr} {ks ds : List D} {vs : List V} (h : NAt K mg ca H a ks vs) (n : ¬ Live ca a) (d : DenL K mg (Live ca) H ds vs) : DenD K mg (Live ca) H (.dkv ks ds) (.ref a) := by
  obtain ⟨es, h1, h2, h3, h4, h5⟩ := h
  exact ⟨a, es, vs, rfl, n, h1, h2, h3, h4, h5, d⟩
theorem nat_of {ks ds : List D} {v : V} (h : DenD K mg (Live ca) H (.dkv ks ds) v) : ∃ a vs, v = .ref a ∧ ¬ Live ca a ∧ NAt K mg ca H a ks vs ∧ DenL K mg (Live ca) H ds vs := by
  obtain ⟨a, es, vs, h0, n, h1, h2, h3, h4, h5, d⟩ := h
  exact ⟨a, vs, h0, n, ⟨es, h1, h2, h3, h4, h5⟩, d⟩
theorem DenC.mn {c : C} {a : Addr} (p : Mn ca H ca' H') (e : H' a = H a) (h : DenC K mg ca H c a) : DenC K mg ca' H' c a := by
  cases c with
  | lst ds => obtain ⟨vs, h1, h2⟩ := h; exact ⟨vs, e.trans h1, DenL.mono p.kp _ _ h2⟩
  | dct ks ws => obtain ⟨kvs, h1, h2, h3⟩ := h; exact ⟨kvs, e.trans h1, h2, h3.mn p⟩
  | obj c ns ws => obtain ⟨Cl, dx, vs, h0, h1, hl, h2⟩ := h; exact ⟨Cl, dx, vs, h0, e.trans h1, hl, h2.mn p⟩
  | dkv ks ws => obtain ⟨vs, h1, h6⟩ := h; exact ⟨vs, h1.mn p.kp e, h6.mn p⟩
end
section
variable {K : Wd} {mg : Str → Option Value} {ca ca' : Ca} {H H' : Hp}
theorem DenW.mono (p : Stp ca H ca' H') : ∀ {w : W} {v : V}, DenW K mg ca H w v → DenW K mg ca' H' w v
  | .d x, v, h => DenD.mono p.kp x v h
  | .cell n, v, h => ⟨Nat.lt_of_lt_of_le h.1 p.len, fun a e => h.2 a (p.old n a h.1 e)⟩
theorem DenWs.mono (p : Stp ca H ca' H') : ∀ {ws : List W} {vs : List V}, DenWs K mg ca H ws vs → DenWs K mg ca' H' ws vs
  | [], _, h => h
  | _ :: _, _, ⟨v, vr, e, h1, h2⟩ => ⟨v, vr, e, h1.mono p, h2.mono p⟩
theorem DenWs.length : ∀ {ws : List W} {vs : List V}, DenWs K mg ca H ws vs → vs.length = ws.length
  | [], vs, h => by
    have e : vs = [] := h
    rw [e]
    rfl
  | x :: xs, vs, h => by
    obtain ⟨v, vr, rfl, _, h2⟩ := h
    simp [DenWs.length h2]
theorem DenWs.get : ∀ {xs : List W} {vs : List V} {i : Nat} {x : W}, DenWs K mg ca H xs vs → xs[i]? = some x → ∃ v, vs[i]? = some v ∧ DenW K mg ca H x v
  | [], _, i, x, _, e => by simp at e
  | y :: xs, vs, 0, x, h, e => by
    obtain ⟨v, vr, rfl, h1, _⟩ := h
    simp at e
    subst e
    exact ⟨v, rfl, h1⟩
  | y :: xs, vs, i + 1, x, h, e => by
    obtain ⟨v, vr, rfl, _, h2⟩ := h
    simpa using DenWs.get (i := i) h2 (by simpa using e)
theorem DenWs.append : ∀ {xs ys : List W} {vs us : List V}, DenWs K mg ca H xs vs → DenWs K mg ca H ys us → DenWs K mg ca H (xs ++ ys) (vs ++ us)
  | [], ys, vs, us, h, h' => by
    have e : vs = [] := h
    subst e
    simpa using h'
  | x :: xs, ys, vs, us, h, h' => by
    obtain ⟨v, vr, rfl, h1, h2⟩ := h
    exact ⟨v, vr ++ us, rfl, h1, DenWs.append h2 h'⟩
theorem DenWs.set : ∀ {xs : List W} {vs : List V} (i : Nat) {x : W} {v : V}, DenWs K mg ca H xs vs → DenW K mg ca H x v → DenWs K mg ca H (xs.set i x) (vs.set i v)
  | [], vs, i, x, v, h, _ => by
    have e : vs = [] := h
    subst e
    exact rfl
  | y :: xs, vs, 0, x, v, h, h' => by
    obtain ⟨u, vr, rfl, h1, h2⟩ := h
    exact ⟨v, vr, rfl, h', h2⟩
  | y :: xs, vs, i + 1, x, v, h, h' => by
    obtain ⟨u, vr, rfl, h1, h2⟩ := h
    exact ⟨u, vr.set i v, rfl, h1, DenWs.set i h2 h'⟩
theorem EnvOk.mono {env : Env} {σ : L2.St} (p : Stp ca H ca' H') (h : EnvOk K mg ca H env σ) : EnvOk K mg ca' H' env σ := ⟨h.len, fun i w e => by
  obtain ⟨v, e1, d⟩ := h.at_ i w e
  exact ⟨v, e1, d.mono p⟩⟩
theorem EnvOk.set {env : Env} {σ : L2.St} {i : Nat} {w : W} {v : V} (h : EnvOk K mg ca H env σ) (d : DenW K mg ca H w v) : EnvOk K mg ca H (env.set i (some w)) (σ.set i (some v)) := ⟨by simp [h.len], fun j u e => by
  by_cases hj : i = j
  · subst hj
    by_cases hl : i < env.length
    · rw [List.getElem?_set_self hl] at e
      cases e
      exact ⟨v, by rw [List.getElem?_set_self (by rw [h.len]; exact hl)], d⟩
    · rw [List.getElem?_eq_none (by simpa using hl)] at e
      cases e
  · rw [List.getElem?_set_ne hj] at e
    obtain ⟨v', e1, d1⟩ := h.at_ j u e
    exact ⟨v', by rw [List.getElem?_set_ne hj]; exact e1, d1⟩⟩
theorem EnvOk.unset {env : Env} {σ : L2.St} {i : Nat} (h : EnvOk K mg ca H env σ) : EnvOk K mg ca H (env.set i none) (σ.set i none) := ⟨by simp [h.len], fun j u e => by
  by_cases hj : i = j
  · subst hj
    by_cases hl : i < env.length
    · rw [List.getElem?_set_self hl] at e
      cases e
    · rw [List.getElem?_eq_none (by simpa using hl)] at e
      cases e
  · rw [List.getElem?_set_ne hj] at e
    obtain ⟨v', e1, d1⟩ := h.at_ j u e
    exact ⟨v', by rw [List.getElem?_set_ne hj]; exact e1, d1⟩⟩
theorem CsOk.mut {cc : Cs} (h : CsOk K mg ca H cc) {a : Addr} (l : Live ca a) : ∃ o, H a = some o ∧ Mut (some o) := by
  rcases l with l | l
  · obtain ⟨n, hn⟩ := List.getElem?_of_mem l
    obtain ⟨c, _, d⟩ := h.at_ n a hn
    cases c with
    | lst ds => obtain ⟨vs, e, _⟩ := d; exact ⟨_, e, True.intro⟩
    | dct ks ws => obtain ⟨kvs, e, _⟩ := d; exact ⟨_, e, True.intro⟩
    | obj c ns ws => obtain ⟨Cl, dx, vs, _, e, _⟩ := d; exact ⟨_, e, True.intro⟩
    | dkv ks ws => obtain ⟨vs, ⟨es, e, _⟩, _⟩ := d; exact ⟨_, e, True.intro⟩
  · exact h.gh a l
theorem CsOk.tracked {cc : Cs} (h : CsOk K mg ca H cc) {a : Addr} (l : Live ca a) : ∃ o, H a = some o := let ⟨o, e, _⟩ := h.mut l; ⟨o, e⟩
theorem Live.of {n : Nat} {a : Addr} (e : ca.l[n]? = some (some a)) : Live ca a := .inl (List.mem_of_getElem? e)
theorem CsOk.gNew {cc : Cs} (h : CsOk K mg ca H cc) {p : Addr} (hp : H p = none) : ¬ ca.g p := fun z => by
  obtain ⟨o, e, _⟩ := h.gh p z
  rw [hp] at e
  cases e
/-- a new object that is no cell -/
theorem Kp.new {L : Addr → Prop} {p : Addr} {o : HO} (h : H p = none) : Kp L H L (upd H p o) := fun a u e _ n => ⟨by rw [upd_ne (ne_of_none e h)]; exact e, n⟩
theorem Stp.new {cc : Cs} {p : Addr} {o : HO} (hc : CsOk K mg ca H cc) (h : H p = none) : Stp ca H ca (upd H p o) := ⟨⟨Nat.le_refl _, fun _ _ _ e => e, Kp.new h⟩, rfl, fun a g => upd_ne fun z => hc.gNew h (z ▸ g)⟩
theorem DenC.mono {c : C} {a : Addr} (p : Stp ca H ca' H') (e : H' a = H a) (h : DenC K mg ca H c a) : DenC K mg ca' H' c a := by
  cases c with
  | lst ds => obtain ⟨vs, h1, h2⟩ := h; exact ⟨vs, e.trans h1, DenL.mono p.kp _ _ h2⟩
  | dct ks ws => obtain ⟨kvs, h1, h2, h3⟩ := h; exact ⟨kvs, e.trans h1, h2, h3.mono p⟩
  | obj c ns ws => obtain ⟨Cl, dx, vs, h0, h1, hl, h2⟩ := h; exact ⟨Cl, dx, vs, h0, e.trans h1, hl, h2.mono p⟩
  | dkv ks ws => obtain ⟨vs, h1, h6⟩ := h; exact ⟨vs, h1.mn p.kp e, h6.mono p⟩
theorem CsOk.new {cc : Cs} {p : Addr} {o : HO} (h : CsOk K mg ca H cc) (hp : H p = none) : CsOk K mg ca (upd H p o) cc := by
  refine ⟨h.len, fun n a e => ?_, h.live, h.inj, fun a g => ?_, h.gd, h.tabs.step (Stp.new h hp).kp (tbl_new hp)⟩
  · obtain ⟨c, e1, d⟩ := h.at_ n a e
    obtain ⟨u, hu⟩ := h.tracked (Live.of e)
    exact ⟨c, e1, d.mono (Stp.new h hp) (upd_ne (ne_of_none hu hp))⟩
  · obtain ⟨u, e, m⟩ := h.gh a g
    exact ⟨u, by rw [upd_ne (ne_of_none e hp)]; exact e, m⟩
/-- a new cell -/
theorem live_snoc {a p : Addr} : Live (ca.snoc p) a ↔ Live ca a ∨ a = p := by
  unfold Live Ca.snoc
  simp only [List.mem_append, List.mem_singleton, Option.some.injEq]
  constructor
  · rintro ((h | h) | h)
    · exact .inl (.inl h)
    · exact .inr h
    · exact .inl (.inr h)
  · rintro ((h | h) | h)
    · exact .inl (.inl h)
    · exact .inr h
    · exact .inl (.inr h)
theorem snoc_lt {n : Nat} {p : Addr} (h : n < ca.l.length) : (ca.snoc p).l[n]? = ca.l[n]? := List.getElem?_append_left h
theorem snoc_eq {p : Addr} : (ca.snoc p).l[ca.l.length]? = some (some p) := by
  unfold Ca.snoc
  rw [List.getElem?_append_right (Nat.le_refl _)]
  simp
theorem snoc_len {p : Addr} : (ca.snoc p).l.length = ca.l.length + 1 := by simp [Ca.snoc]
theorem snoc_split {k : Nat} {p b : Addr} (e : (ca.snoc p).l[k]? = some (some b)) : (ca.l[k]? = some (some b)) ∨ (k = ca.l.length ∧ b = p) := by
  by_cases hk : k < ca.l.length
  · rw [snoc_lt hk] at e
    exact .inl e
  · have e0 : k = ca.l.length := by
      have := (List.getElem?_eq_some_iff.mp e).1
      rw [snoc_len] at this
      omega
    subst e0
    rw [snoc_eq] at e
    cases e
    exact .inr ⟨rfl, rfl⟩
theorem Stp.cell {cc : Cs} {p : Addr} {o : HO} (hc : CsOk K mg ca H cc) (h : H p = none) : Stp ca H (ca.snoc p) (upd H p o) :=
  ⟨⟨by rw [snoc_len]; omega, fun n a hl e => by rw [snoc_lt hl] at e; exact e, fun a u e _ n => ⟨by rw [upd_ne (ne_of_none e h)]; exact e, fun l => by
    rcases live_snoc.mp l with l | l
    · exact n l
    · exact ne_of_none e h l⟩⟩, rfl, fun a g => upd_ne fun z => hc.gNew h (z ▸ g)⟩
theorem CsOk.cell {cc : Cs} {p : Addr} {o : HO} {c : C} (h : CsOk K mg ca H cc) (hp : H p = none) (d : DenC K mg (ca.snoc p) (upd H p o) c p) : CsOk K mg (ca.snoc p) (upd H p o) (cc ++ [some c]) := by
  have np : ∀ n, ca.l[n]? ≠ some (some p) := fun n e => by
    obtain ⟨u, hu⟩ := h.tracked (Live.of e)
    rw [hp] at hu
    cases hu
  refine ⟨by rw [snoc_len]; simp [h.len], fun n a e => ?_, fun n c' e => ?_, fun n m a e1 e2 => ?_, fun a g => ?_, fun n a e => ?_, h.tabs.step (Stp.cell h hp).kp (tbl_new hp)⟩
  · rcases snoc_split e with e | ⟨rfl, rfl⟩
    · obtain ⟨c', e1, d'⟩ := h.at_ n a e
      obtain ⟨u, hu⟩ := h.tracked (Live.of e)
      exact ⟨c', by rw [List.getElem?_append_left (List.getElem?_eq_some_iff.mp e1).1]; exact e1, d'.mono (Stp.cell h hp) (upd_ne (ne_of_none hu hp))⟩
    · exact ⟨c, by rw [h.len, List.getElem?_append_right (Nat.le_refl _)]; simp, d⟩
  · by_cases hn : n < cc.length
    · rw [List.getElem?_append_left hn] at e
      obtain ⟨a, e1⟩ := h.live n c' e
      exact ⟨a, by rw [snoc_lt (by rw [h.len]; exact hn)]; exact e1⟩
    · have e0 : n = cc.length := by
        have := (List.getElem?_eq_some_iff.mp e).1
        simp at this
        omega
      subst e0
      exact ⟨p, by rw [← h.len]; exact snoc_eq⟩
  · rcases snoc_split e1 with q1 | ⟨q1, q1'⟩ <;> rcases snoc_split e2 with q2 | ⟨q2, q2'⟩
    · exact h.inj n m a q1 q2
    · subst q2'
      exact absurd q1 (np n)
    · subst q1'
      exact absurd q2 (np m)
    · rw [q1, q2]
  · obtain ⟨u, e, m⟩ := h.gh a g
    exact ⟨u, by rw [upd_ne (ne_of_none e hp)]; exact e, m⟩
  · rcases snoc_split e with e | ⟨rfl, rfl⟩
    · exact h.gd n a e
    · exact h.gNew hp
/-- a cell's thing is written -/
theorem Stp.write {cc : Cs} {n : Nat} {p : Addr} {o : HO} (hc : CsOk K mg ca H cc) (h : ca.l[n]? = some (some p)) : Stp ca H ca (upd H p o) :=
  ⟨⟨Nat.le_refl _, fun _ _ _ e => e, fun a u e _ l => ⟨by rw [upd_ne (fun z => l (by subst z; exact Live.of h))]; exact e, l⟩⟩, rfl, fun a g => upd_ne fun z => hc.gd n p h (z ▸ g)⟩
theorem CsOk.write {cc : Cs} {n : Nat} {p : Addr} {o : HO} {c : C} (h : CsOk K mg ca H cc) (hp : ca.l[n]? = some (some p)) (d : DenC K mg ca (upd H p o) c p) : CsOk K mg ca (upd H p o) (cc.set n (some c)) := by
  obtain ⟨c0, hc0, _⟩ := h.at_ n p hp
  have hn : n < cc.length := (List.getElem?_eq_some_iff.mp hc0).1
  refine ⟨by simp [h.len], fun m a e => ?_, fun m c' e => ?_, h.inj, fun a g => ?_, h.gd, ?_⟩
  · by_cases hm : n = m
    · subst hm
      rw [hp] at e
      cases e
      exact ⟨c, by rw [List.getElem?_set_self hn], d⟩
    · obtain ⟨c', e1, d'⟩ := h.at_ m a e
      refine ⟨c', by rw [List.getElem?_set_ne hm]; exact e1, d'.mono (Stp.write h hp) (upd_ne fun z => ?_)⟩
      subst z
      exact hm (h.inj n m a hp e)
  · by_cases hm : n = m
    · subst hm
      exact ⟨p, hp⟩
    · rw [List.getElem?_set_ne hm] at e
      exact h.live m c' e
  · obtain ⟨u, e, m⟩ := h.gh a g
    have ne : a ≠ p := fun z => h.gd n p hp (z ▸ g)
    exact ⟨u, by rw [upd_ne ne]; exact e, m⟩
  · obtain ⟨u, e, mu⟩ := h.mut (Live.of hp)
    exact h.tabs.step (Stp.write h hp).kp (tbl_write e mu)
/-- a cell is given up: what stood there changes no more -/
theorem del_ne {n m : Nat} (e : n ≠ m) : (ca.del n).l[m]? = ca.l[m]? := List.getElem?_set_ne e
theorem del_eq {n : Nat} {a : Addr} : (ca.del n).l[n]? ≠ some (some a) := fun e => by
  unfold Ca.del at e
  by_cases hl : n < ca.l.length
  · rw [List.getElem?_set_self hl] at e
    cases e
  · rw [List.getElem?_eq_none (by simpa using hl)] at e
    cases e
theorem del_some {n m : Nat} {a : Addr} (e : (ca.del n).l[m]? = some (some a)) : n ≠ m ∧ ca.l[m]? = some (some a) := by
  have ne : n ≠ m := fun z => by subst z; exact del_eq e
  rw [del_ne ne] at e
  exact ⟨ne, e⟩
theorem live_set_none {n : Nat} {p a : Addr} {cc : Cs} (h : CsOk K mg ca H cc) (hp : ca.l[n]? = some (some p)) : Live (ca.del n) a ↔ Live ca a ∧ a ≠ p := by
  constructor
  · rintro (l | l)
    · obtain ⟨m, hm⟩ := List.getElem?_of_mem l
      obtain ⟨ne, e⟩ := del_some hm
      exact ⟨Live.of e, fun z => by subst z; exact ne (h.inj n m a hp e)⟩
    · exact ⟨.inr l, fun z => by subst z; exact h.gd n a hp l⟩
  · rintro ⟨l | l, ne⟩
    · obtain ⟨m, hm⟩ := List.getElem?_of_mem l
      have e : n ≠ m := fun z => by
        subst z
        rw [hp] at hm
        cases hm
        exact ne rfl
      exact Live.of (n := m) (by rw [del_ne e]; exact hm)
    · exact .inr l
theorem Stp.drop {n : Nat} {p : Addr} {cc : Cs} (h : CsOk K mg ca H cc) (hp : ca.l[n]? = some (some p)) : Stp ca H (ca.del n) H :=
  ⟨⟨by simp [Ca.del], fun m a hl e => (del_some e).2, fun a u e _ l => ⟨e, fun z => l ((live_set_none h hp).mp z).1⟩⟩, rfl, fun _ _ => rfl⟩
theorem CsOk.drop {n : Nat} {p : Addr} {cc : Cs} (h : CsOk K mg ca H cc) (hp : ca.l[n]? = some (some p)) : CsOk K mg (ca.del n) H (cc.set n none) := by
  refine ⟨by simp [h.len, Ca.del], fun m a e => ?_, fun m c' e => ?_, fun m k a e1 e2 => h.inj m k a (del_some e1).2 (del_some e2).2, h.gh, fun m a e => h.gd m a (del_some e).2, h.tabs.step (Stp.drop h hp).kp fun _ _ z => z⟩
  · obtain ⟨ne, e⟩ := del_some e
    obtain ⟨c', e1, d'⟩ := h.at_ m a e
    exact ⟨c', by rw [List.getElem?_set_ne ne]; exact e1, d'.mono (Stp.drop h hp) rfl⟩
  · by_cases hm : n = m
    · subst hm
      rw [List.getElem?_set_self (List.getElem?_eq_some_iff.mp (show cc[n]? = some _ from (h.at_ n p hp).choose_spec.1)).1] at e
      cases e
    · rw [List.getElem?_set_ne hm] at e
      obtain ⟨a, q⟩ := h.live m c' e
      exact ⟨a, by rw [del_ne hm]; exact q⟩
end
end DL
set_option Elab.async false
set_option linter.all false
set_option maxRecDepth 100000
set_option maxHeartbeats 1900000
/-! DL1: the judgements over cells; expressions. -/
namespace DL
open L2 PyProof.Rows PySem PySem.Spec

/-! ### freezing, looking -/
def frz0 (cc : Cs) : W → Option (D × Cs)
  | .d x => some (x, cc)
  | .cell n => match cc[n]? with
    | some (some (.lst ds)) => some (.lst ds, cc.set n none)
    | _ => none
def frzL (cc : Cs) : List W → Option (List D × Cs)
  | [] => some ([], cc)
  | w :: ws => match frz0 cc w with
    | some (x, c1) => match frzL c1 ws with
      | some (xs, c2) => some (x :: xs, c2)
      | none => none
    | none => none
def frz (cc : Cs) : W → Option (D × Cs)
  | .d x => some (x, cc)
  | .cell n => match cc[n]? with
    | some (some (.lst ds)) => some (.lst ds, cc.set n none)
    | some (some (.dct ks ws)) => match frzL (cc.set n none) ws with
      | some (ds, c1) => some (.dct ks ds, c1)
      | none => none
    | some (some (.obj c ns ws)) => match frzL (cc.set n none) ws with
      | some (ds, c1) => some (.obj c ns ds, c1)
      | none => none
    | some (some (.dkv ks ws)) => match frzL (cc.set n none) ws with
      | some (ds, c1) => some (.dkv ks ds, c1)
      | none => none
    | _ => none
section
variable {K : Wd} {mg : Str → Option Value} {ca : Ca} {H : Hp} {cc c1 : Cs}
theorem frz0_ok {w : W} {x : D} {v : V} (hc : CsOk K mg ca H cc) (d : DenW K mg ca H w v) (e : frz0 cc w = some (x, c1)) : ∃ ca', Stp ca H ca' H ∧ CsOk K mg ca' H c1 ∧ DenD K mg (Live ca') H x v := by
  cases w with
  | d y =>
    simp only [frz0, Option.some.injEq, Prod.mk.injEq] at e
    obtain ⟨rfl, rfl⟩ := e
    exact ⟨ca, Stp.refl _ _, hc, d⟩
  | cell n =>
    simp only [frz0] at e
    split at e
    · rename_i ds hn
      simp only [Prod.mk.injEq, Option.some.injEq] at e
      obtain ⟨rfl, rfl⟩ := e
      obtain ⟨a, ha⟩ := hc.live n _ hn
      obtain ⟨c, h1, h2⟩ := hc.at_ n a ha
      rw [hn] at h1
      cases h1
      obtain ⟨vs, h3, h4⟩ := h2
      have e := d.2 a ha
      subst e
      refine ⟨ca.del n, Stp.drop hc ha, hc.drop ha, a, vs, rfl, fun z => ((live_set_none hc ha).mp z).2 rfl, h3, DenL.mono (Stp.drop hc ha).kp _ _ h4⟩
    · cases e
theorem frzL_ok : ∀ {ws : List W} {xs : List D} {vs : List V} {cc c1 : Cs} {ca : Ca}, CsOk K mg ca H cc → DenWs K mg ca H ws vs → frzL cc ws = some (xs, c1) → ∃ ca', Stp ca H ca' H ∧ CsOk K mg ca' H c1 ∧ DenL K mg (Live ca') H xs vs
  | [], xs, vs, cc, c1, ca, hc, d, e => by
    simp only [frzL, Option.some.injEq, Prod.mk.injEq] at e
    obtain ⟨rfl, rfl⟩ := e
    exact ⟨ca, Stp.refl _ _, hc, d⟩
  | w :: ws, xs, vs, cc, c1, ca, hc, d, e => by
    obtain ⟨v, vr, rfl, d1, d2⟩ := d
    simp only [frzL] at e
    split at e
    · rename_i x c2 e1
      obtain ⟨ca1, p1, hc1, q1⟩ := frz0_ok hc d1 e1
      split at e
      · rename_i xs' c3 e2
        simp only [Prod.mk.injEq, Option.some.injEq] at e
        obtain ⟨rfl, rfl⟩ := e
        obtain ⟨ca2, p2, hc2, q2⟩ := frzL_ok hc1 (d2.mono p1) e2
        exact ⟨ca2, p1.trans p2, hc2, v, vr, rfl, DenD.mono p2.kp _ _ q1, q2⟩
      · cases e
    · cases e
theorem frz_ok {w : W} {x : D} {v : V} (hc : CsOk K mg ca H cc) (d : DenW K mg ca H w v) (e : frz cc w = some (x, c1)) : ∃ ca', Stp ca H ca' H ∧ CsOk K mg ca' H c1 ∧ DenD K mg (Live ca') H x v := by
  cases w with
  | d y =>
    simp only [frz, Option.some.injEq, Prod.mk.injEq] at e
    obtain ⟨rfl, rfl⟩ := e
    exact ⟨ca, Stp.refl _ _, hc, d⟩
  | cell n =>
    have main : ∀ c, cc[n]? = some (some c) → ∃ a, ca.l[n]? = some (some a) ∧ v = .ref a ∧ DenC K mg ca H c a := fun c hn => by
      obtain ⟨a, ha⟩ := hc.live n _ hn
      obtain ⟨c', h1, h2⟩ := hc.at_ n a ha
      rw [hn] at h1
      cases h1
      exact ⟨a, ha, d.2 a ha, h2⟩
    simp only [frz] at e
    split at e
    · rename_i ds hn
      exact frz0_ok hc d (by simp only [frz0, hn]; exact e)
    · rename_i ks ws hn
      split at e
      · rename_i ds c2 e1
        simp only [Prod.mk.injEq, Option.some.injEq] at e
        obtain ⟨rfl, rfl⟩ := e
        obtain ⟨a, ha, rfl, kvs, h1, h2, h3⟩ := main _ hn
        obtain ⟨ca1, p1, hc1, q1⟩ := frzL_ok (hc.drop ha) (h3.mono (Stp.drop hc ha)) e1
        have na : ¬ Live (ca.del n) a := fun z => ((live_set_none hc ha).mp z).2 rfl
        exact ⟨ca1, (Stp.drop hc ha).trans p1, hc1, a, _, rfl, (p1.kp a _ h1 nofun na).2, ⟨kvs, (p1.kp a _ h1 nofun na).1, h2, rfl⟩, q1⟩
      · cases e
    · rename_i cn ns ws hn
      split at e
      · rename_i ds c2 e1
        simp only [Prod.mk.injEq, Option.some.injEq] at e
        obtain ⟨rfl, rfl⟩ := e
        obtain ⟨a, ha, rfl, Cl, dx, vs, h0, h1, hl, h3⟩ := main _ hn
        obtain ⟨ca1, p1, hc1, q1⟩ := frzL_ok (hc.drop ha) (h3.mono (Stp.drop hc ha)) e1
        have na : ¬ Live (ca.del n) a := fun z => ((live_set_none hc ha).mp z).2 rfl
        exact ⟨ca1, (Stp.drop hc ha).trans p1, hc1, a, Cl, dx, vs, rfl, (p1.kp a _ h1 nofun na).2, h0, h1, hl, q1⟩
      · cases e
    · rename_i ks ws hn
      split at e
      · rename_i ds c2 e1
        simp only [Prod.mk.injEq, Option.some.injEq] at e
        obtain ⟨rfl, rfl⟩ := e
        obtain ⟨a, ha, rfl, vs, h1, h3⟩ := main _ hn
        obtain ⟨ca1, p1, hc1, q1⟩ := frzL_ok (hc.drop ha) (h3.mono (Stp.drop hc ha)) e1
        have na : ¬ Live (ca.del n) a := fun z => ((live_set_none hc ha).mp z).2 rfl
        obtain ⟨es, z1, z2, z3, z4, z5⟩ := h1
        have h1' : NAt K mg ca1 H a ks vs := ⟨es, z1, z2, z3, DenL.mono ((Stp.drop hc ha).trans p1).kp _ _ z4, z5⟩
        exact ⟨ca1, (Stp.drop hc ha).trans p1, hc1, h1'.den (p1.kp a _ z1 raw_tbl na).2 q1⟩
      · cases e
    · cases e
end

/-- all of them data -/
def allD : List W → Option (List D)
  | [] => some []
  | .d x :: ws => match allD ws with
    | some xs => some (x :: xs)
    | none => none
  | .cell _ :: _ => none
theorem allD_ok {K : Wd} {mg : Str → Option Value} {ca : Ca} {H : Hp} : ∀ {ws : List W} {ds : List D} {vs : List V}, DenWs K mg ca H ws vs → allD ws = some ds → DenL K mg (Live ca) H ds vs
  | [], ds, vs, h, e => by
    simp only [allD, Option.some.injEq] at e
    subst e
    exact h
  | .d x :: ws, ds, vs, h, e => by
    obtain ⟨v, vr, rfl, h1, h2⟩ := h
    simp only [allD] at e
    split at e
    · rename_i xs e1
      cases e
      exact ⟨v, vr, rfl, h1, allD_ok h2 e1⟩
    · cases e
  | .cell _ :: _, _, _, _, e => by cases e
theorem allD_map (ds : List D) : allD (ds.map .d) = some ds := by
  induction ds with
  | nil => rfl
  | cons x xs ih => simp [allD, ih]
/-- what a value shows now, for those who only look -/
def see (cc : Cs) : W → Option D
  | .d x => some x
  | .cell n => match cc[n]? with
    | some (some (.lst ds)) => some (.lst ds)
    | some (some (.dct ks ws)) => match allD ws with
      | some ds => some (.dct ks ds)
      | none => none
    | some (some (.dkv ks ws)) => match allD ws with
      | some ds => some (.dkv ks ds)
      | none => none
    | _ => none
/-- as DenD, the thing itself may still change -/
def DenT (K : Wd) (mg : Str → Option Value) (ca : Ca) (H : Hp) : D → V → Prop
  | .tup ds, v => ∃ a vs, v = .ref a ∧ TupAt K H a vs ∧ DenL K mg (Live ca) H ds vs
  | .lst ds, v => ∃ a vs, v = .ref a ∧ H a = some (.lst vs) ∧ DenL K mg (Live ca) H ds vs
  | .dct ks ds, v => ∃ a vs, v = .ref a ∧ DAt H a ks vs ∧ DenL K mg (Live ca) H ds vs
  | .dkv ks ds, v => ∃ a vs, v = .ref a ∧ NAt K mg ca H a ks vs ∧ DenL K mg (Live ca) H ds vs
  | x, v => DenD K mg (Live ca) H x v
section
variable {K : Wd} {mg : Str → Option Value} {ca : Ca} {H : Hp} {cc : Cs}
theorem DenD.t {x : D} {v : V} (h : DenD K mg (Live ca) H x v) : DenT K mg ca H x v := by
  cases x with
  | tup ds =>
    obtain ⟨a, vs, e, h1, h2⟩ := h
    exact ⟨a, vs, e, h1.elim (fun z => .inl z.2) .inr, h2⟩
  | lst ds =>
    obtain ⟨a, vs, e, _, h1, h2⟩ := h
    exact ⟨a, vs, e, h1, h2⟩
  | dct ks ds =>
    obtain ⟨a, vs, e, _, h1, h2⟩ := h
    exact ⟨a, vs, e, h1, h2⟩
  | dkv ks ds =>
    obtain ⟨a, vs, e, _, h1, h2⟩ := nat_of h
    exact ⟨a, vs, e, h1, h2⟩
  | _ => exact h
theorem cell_at {n : Nat} {v : V} {c : C} (hc : CsOk K mg ca H cc) (d : DenW K mg ca H (.cell n) v) (e : cc[n]? = some (some c)) : ∃ a, ca.l[n]? = some (some a) ∧ v = .ref a ∧ DenC K mg ca H c a := by
  obtain ⟨a, ha⟩ := hc.live n _ e
  obtain ⟨c', h1, h2⟩ := hc.at_ n a ha
  rw [e] at h1
  cases h1
  exact ⟨a, ha, d.2 a ha, h2⟩
theorem see_ok {w : W} {x : D} {v : V} (hc : CsOk K mg ca H cc) (d : DenW K mg ca H w v) (e : see cc w = some x) : DenT K mg ca H x v := by
  cases w with
  | d y =>
    simp only [see, Option.some.injEq] at e
    subst e
    exact DenD.t d
  | cell n =>
    simp only [see] at e
    split at e
    · rename_i ds hn
      cases e
      obtain ⟨a, ha, rfl, vs, h3, h4⟩ := cell_at hc d hn
      exact ⟨a, vs, rfl, h3, h4⟩
    · rename_i ks ws hn
      split at e
      · rename_i ds e1
        cases e
        obtain ⟨a, ha, rfl, kvs, h3, h4, h5⟩ := cell_at hc d hn
        exact ⟨a, _, rfl, ⟨kvs, h3, h4, rfl⟩, allD_ok h5 e1⟩
      · cases e
    · rename_i ks ws hn
      split at e
      · rename_i ds e1
        cases e
        obtain ⟨a, ha, rfl, vs, h3, h5⟩ := cell_at hc d hn
        exact ⟨a, vs, rfl, h3, allD_ok h5 e1⟩
      · cases e
    · cases e
end

/-! ### judgements -/
/-- an exception as it lies -/
def ExOk (K : Wd) (mg : Str → Option Value) (ca : Ca) (H : Hp) (x : Ex) (cls : Value) (dd : Option Addr) : Prop :=
  ∃ Cl d vs, mg x.c = some (.ref Cl) ∧ cls = .ref Cl ∧ dd = some d ∧ H d = some (.xd (x.ns.zip vs)) ∧ ¬ Live ca d ∧ x.ns.length = vs.length ∧ DenL K mg (Live ca) H x.ds vs
section
variable (K : Wd) (mg : Str → Option Value)
/-- a result, from a state on -/
def KS {α β : Type} (den : Ca → Hp → α → β → Prop) (Wx : Value → Option Addr → Hp → Prop) (ca : Ca) (H : Hp) (Q : β → Hp → Prop) : R α → Prop
  | .ok w cc' => ∀ v H' ca', Stp ca H ca' H' → CsOk K mg ca' H' cc' → den ca' H' w v → Q v H'
  | .raise x cc' => ∀ cls dd H' ca', Stp ca H ca' H' → CsOk K mg ca' H' cc' → ExOk K mg ca' H' x cls dd → Wx cls dd H'
  | .stuck => False
def Ev {α β : Type} (den : Ca → Hp → α → β → Prop) (Wx : WX) (m : Env → M α) : L2.St → Hp → (β → Hp → Prop) → Prop := fun σ H Q =>
  ∃ env ca cc, EnvOk K mg ca H env σ ∧ CsOk K mg ca H cc ∧ KS K mg den (fun c d H => Wx c d σ H) ca H Q (m env cc)
end
abbrev denV (K : Wd) (mg : Str → Option Value) : Ca → Hp → W → V → Prop := fun ca H w v => DenW K mg ca H w v
abbrev denB : Ca → Hp → Bool → Bool → Prop := fun _ _ a b => a = b
abbrev denA (K : Wd) (mg : Str → Option Value) : Ca → Hp → List W → List V → Prop := fun ca H w v => DenWs K mg ca H w v
abbrev EvE (X : Cx) (Wx : WX) (m : ME) : TE := Ev X.wd X.mg (denV X.wd X.mg) Wx m
abbrev EvB (X : Cx) (Wx : WX) (m : Env → M Bool) : TT := Ev X.wd X.mg denB Wx m
abbrev EvA (X : Cx) (Wx : WX) (m : Env → M (List W)) : TA := Ev X.wd X.mg (denA X.wd X.mg) Wx m
abbrev PEv (X : Cx) (Wx : WX) (e : Expr) (m : ME) : Prop := PE X e (EvE X Wx m)
abbrev PTv (X : Cx) (Wx : WX) (e : Expr) (m : Env → M Bool) : Prop := PT X e (EvB X Wx m)
abbrev PWv (X : Cx) (Wx : WX) (e : Expr) (m : Env → M Bool) : Prop := PW X e (EvB X Wx m)
abbrev PAv (X : Cx) (Wx : WX) (es : List Expr) (m : Env → M (List W)) : Prop := PA X es (EvA X Wx m)

theorem _root_.L2.PE.imp {X : Cx} {e : Expr} {t t' : TE} (h : PE X e t) (i : ∀ σ H Q, t' σ H Q → t σ H Q) : PE X e t' := ⟨fun pins s σ H Q I q => h.run pins s σ H Q I (i σ H Q q)⟩
theorem _root_.L2.PT.imp {X : Cx} {e : Expr} {t t' : TT} (h : PT X e t) (i : ∀ σ H Q, t' σ H Q → t σ H Q) : PT X e t' := ⟨fun pins s σ H Q I q => h.run pins s σ H Q I (i σ H Q q)⟩
theorem _root_.L2.PW.imp {X : Cx} {e : Expr} {t t' : TT} (h : PW X e t) (i : ∀ σ H Q, t' σ H Q → t σ H Q) : PW X e t' := ⟨fun wh pins s σ H Q I q => h.run wh pins s σ H Q I (i σ H Q q)⟩
theorem _root_.L2.PA.imp {X : Cx} {e : List Expr} {t t' : TA} (h : PA X e t) (i : ∀ σ H Q, t' σ H Q → t σ H Q) : PA X e t' := ⟨fun pos pins s σ H Q I q => h.run pos pins s σ H Q I (i σ H Q q)⟩
theorem _root_.L2.PS.imp {X : Cx} {e : Stmt} {t t' : TS} (h : PS X e t) (i : ∀ D σ H, t' D σ H → t D σ H) : PS X e t' := ⟨fun pins s σ H Q I q => h.run pins s σ H Q I (i Q σ H q)⟩
theorem _root_.L2.PSs.imp {X : Cx} {e : List Stmt} {t t' : TS} (h : PSs X e t) (i : ∀ D σ H, t' D σ H → t D σ H) : PSs X e t' := ⟨fun pins s σ H Q I q => h.run pins s σ H Q I (i Q σ H q)⟩

section
variable {K : Wd} {mg : Str → Option Value}
section
variable {α β γ δ : Type} {den : Ca → Hp → α → β → Prop} {den' : Ca → Hp → γ → δ → Prop} {Wx : Value → Option Addr → Hp → Prop} {ca ca' : Ca} {H H' : Hp} {Q : β → Hp → Prop} {Q' : δ → Hp → Prop} {r : R α}
theorem KS.step (p : Stp ca H ca' H') (h : KS K mg den Wx ca H Q r) : KS K mg den Wx ca' H' Q r := by
  cases r with
  | ok w cc => exact fun v H2 ca2 q => h v H2 ca2 (p.trans q)
  | raise x cc => exact fun cls dd H2 ca2 q => h cls dd H2 ca2 (p.trans q)
  | stuck => exact h
/-- one result, then what hangs on it -/
theorem KS.bind {f : α → Cs → R γ} (h : KS K mg den' Wx ca H Q' (r.bind f))
    (k : ∀ w cc v H' ca', Stp ca H ca' H' → CsOk K mg ca' H' cc → den ca' H' w v → KS K mg den' Wx ca' H' Q' (f w cc) → Q v H') : KS K mg den Wx ca H Q r := by
  cases r with
  | ok w cc => exact fun v H2 ca2 p c d => k w cc v H2 ca2 p c d (KS.step p h)
  | raise x cc => exact h
  | stuck => exact h
/-- a result in hand -/
theorem KS.now {w : α} {cc : Cs} {v : β} (h : KS K mg den Wx ca H Q (.ok w cc)) (p : Stp ca H ca' H') (hc : CsOk K mg ca' H' cc) (d : den ca' H' w v) : Q v H' := h v H' ca' p hc d
end
/-- the reading of a first part, then the rest -/
theorem Ev.bind {α β γ δ : Type} {den : Ca → Hp → α → β → Prop} {den' : Ca → Hp → γ → δ → Prop} {Wx : WX} {m : Env → M α} {f : Env → α → Cs → R γ} {σ : L2.St} {H : Hp} {Q : β → Hp → Prop} {Q' : δ → Hp → Prop}
    (h : Ev K mg den' Wx (fun env cc => (m env cc).bind (f env)) σ H Q')
    (k : ∀ env ca w cc v H', EnvOk K mg ca H' env σ → CsOk K mg ca H' cc → den ca H' w v → KS K mg den' (fun c d H => Wx c d σ H) ca H' Q' (f env w cc) → Q v H') : Ev K mg den Wx m σ H Q := by
  obtain ⟨env, ca, cc, he, hc, hk⟩ := h
  refine ⟨env, ca, cc, he, hc, KS.bind (den := den) (Q := Q) hk fun w c1 v H1 ca1 p c d q => ?_⟩
  exact k env ca1 w c1 v H1 (he.mono p) c d q
end

/-! ### names, constants -/
def mVar (i : Nat) : ME := fun env cc => match env[i]? with
  | some (some w) => .ok w cc
  | _ => .stuck
def mC (x : D) : ME := fun _ cc => .ok (.d x) cc
section
variable {X : Cx} {Wx : WX}
theorem pv_var {i : Nat} {x : Str} {pos : Pos} (hN : X.N[i]? = some x) (hv : Vis X.env.scope x) (hd : (x == ("__debug__" : Str)) = false := by decide) (hcd : (x == ("__classdict__" : Str)) = false := by decide) : PEv X Wx (.Name x pos) (mVar i) := by
  refine (pe_var hN hv hd hcd).imp fun σ H Q h => ?_
  obtain ⟨env, ca, cc, he, hc, hk⟩ := h
  unfold mVar at hk
  split at hk
  · rename_i w hw
    obtain ⟨v, e1, d⟩ := he.at_ i w hw
    exact ⟨v, e1, hk.now (Stp.refl _ _) hc d⟩
  · exact hk.elim
theorem pv_c {e : Expr} {x : D} {v : V} (h : PE X e (tC v)) (hd : ∀ L H, DenD X.wd X.mg L H x v) : PEv X Wx e (mC x) :=
  h.imp fun σ H Q h => by
    obtain ⟨env, ca, cc, he, hc, hk⟩ := h
    exact hk.now (Stp.refl _ _) hc (hd _ _)
theorem pv_int {i j pos} : PEv X Wx (.Constant (.int i) j pos) (mC (.int i)) := pv_c pe_int fun _ _ => rfl
theorem pv_bl {b j pos} : PEv X Wx (.Constant (.bool b) j pos) (mC (.bl b)) := pv_c pe_bl fun _ _ => rfl
theorem pv_non {j pos} : PEv X Wx (.Constant .none j pos) (mC .non) := pv_c pe_non fun _ _ => rfl
theorem pv_str {x j pos} : PEv X Wx (.Constant (.str x) j pos) (mC (.str x)) := pv_c pe_str fun _ _ => rfl
end

/-! ### tests -/
def mT (m : ME) : Env → M Bool := fun env cc => (m env cc).bind fun w c => match w with
  | .d (.bl b) => .ok b c
  | _ => .stuck
def mIf {α : Type} (t : Env → M Bool) (a b : Env → M α) : Env → M α := fun env cc => (t env cc).bind fun x c => if x = true then a env c else b env c
def mOr (a b : Env → M Bool) : Env → M Bool := mIf a (fun _ c => .ok true c) b
def mNot (a : Env → M Bool) : Env → M Bool := fun env cc => (a env cc).bind fun x c => .ok (!x) c
section
variable {X : Cx} {Wx : WX} {e a b : Expr} {rest : List Expr} {pos : Pos}
theorem EvB.of {m : ME} {σ : L2.St} {H : Hp} {Q : Bool → Hp → Prop} (h : EvB X Wx (mT m) σ H Q) : EvE X Wx m σ H (fun x H1 => ∃ c, x = .bl c ∧ Q c H1) := by
  refine Ev.bind h fun env ca w cc v H' he hc d hk => ?_
  split at hk
  · rename_i c
    exact ⟨c, d, hk.now (Stp.refl _ _) hc rfl⟩
  · exact hk.elim
theorem tv_val {m : ME} (h : PEv X Wx e m) (he : ∀ whole, isTrue e X.env whole = (do let v ← whole; standAt e.pos; holding [v] (truthy v)) := by intro _; rfl) : PTv X Wx e (mT m) := (pt_val h he).imp fun _ _ _ => EvB.of
theorem tv_not {m : Env → M Bool} (h : PTv X Wx a m) : PTv X Wx (.UnaryOp .Not a pos) (mNot m) := (pt_not h).imp fun σ H Q h =>
  Ev.bind h fun env ca w cc v H' he hc d hk => by
    have d' : w = v := d
    subst d'
    exact hk.now (Stp.refl _ _) hc rfl
theorem wv_or1 {m : Env → M Bool} (h : PTv X Wx a m) : PWv X Wx (.BoolOp .Or [a] pos) m := pw_or1 h
theorem KS.again {α β : Type} {den : Ca → Hp → α → β → Prop} {Wx : WX} {m : Env → M α} {σ : L2.St} {H : Hp} {Q : β → Hp → Prop} {env : Env} {ca : Ca} {cc : Cs} (he : EnvOk X.wd X.mg ca H env σ) (hc : CsOk X.wd X.mg ca H cc)
    (hk : KS X.wd X.mg den (fun c d H => Wx c d σ H) ca H Q (m env cc)) : Ev X.wd X.mg den Wx m σ H Q := ⟨env, ca, cc, he, hc, hk⟩
theorem wv_or {m n : Env → M Bool} (h : PTv X Wx a m) (h2 : PWv X Wx (.BoolOp .Or (b :: rest) pos) n) : PWv X Wx (.BoolOp .Or (a :: b :: rest) pos) (mOr m n) := (pw_or h h2).imp fun σ H Q h =>
  Ev.bind h fun env ca w cc v H' he hc d hk => by
    have d' : w = v := d
    subst d'
    cases w with
    | true => exact hk.now (Stp.refl _ _) hc rfl
    | false => exact KS.again he hc hk
end
end DL
set_option Elab.async false
set_option linter.all false
set_option maxRecDepth 100000
set_option maxHeartbeats 1900000
/-! DL2: argument lists, displays, calls of defs, operators. -/
namespace DL
open L2 PyProof.Rows PySem PySem.Spec

/-! ### argument lists -/
def mNil : Env → M (List W) := fun _ cc => .ok [] cc
def mCons (a : ME) (r : Env → M (List W)) : Env → M (List W) := fun env cc => (a env cc).bind fun w c => (r env c).bind fun ws c' => .ok (w :: ws) c'
/-- what a star brings -/
def starOf (cc : Cs) (w : W) : Option (List D) := match see cc w with
  | some (.tup ds) => some ds
  | some (.lst ds) => some ds
  | _ => none
section
variable {X : Cx} {Wx : WX} {e : Expr} {es : List Expr}
theorem DenL.ws {K : Wd} {mg : Str → Option Value} {ca : Ca} {H : Hp} : ∀ {ds : List D} {vs : List V}, DenL K mg (Live ca) H ds vs → DenWs K mg ca H (ds.map .d) vs
  | [], _, h => h
  | _ :: _, _, ⟨v, vr, e, h1, h2⟩ => ⟨v, vr, e, h1, DenL.ws h2⟩
theorem av_nil : PAv X Wx [] mNil := pa_nil.imp fun σ H Q h => by
  obtain ⟨env, ca, cc, he, hc, hk⟩ := h
  exact hk.now (Stp.refl _ _) hc rfl
theorem av_cons {a : ME} {r : Env → M (List W)} (ha : PEv X Wx e a) (hr : PAv X Wx es r) (hs : ArgAt X e es := by rfl) : PAv X Wx (e :: es) (mCons a r) := (pa_cons ha hr hs).imp fun σ H Q h =>
  Ev.bind h fun env ca w cc v H' he hc d hk => ⟨env, ca, cc, he, hc, KS.bind hk fun ws c2 vs H2 ca2 p hc2 d2 hk2 => hk2.now (Stp.refl _ _) hc2 ⟨v, vs, rfl, d.mono p, d2⟩⟩
theorem starOf_ok {K : Wd} {mg : Str → Option Value} {ca : Ca} {H : Hp} {cc : Cs} {w : W} {ds : List D} {v : V} (hc : CsOk K mg ca H cc) (d : DenW K mg ca H w v) (e : starOf cc w = some ds) :
    ∃ a vs, v = .ref a ∧ (SqT K H a vs ∨ SqL K H a vs) ∧ DenL K mg (Live ca) H ds vs := by
  unfold starOf at e
  split at e
  · rename_i ds' e1
    cases e
    obtain ⟨a, vs, e2, h1, h2⟩ := see_ok hc d e1
    exact ⟨a, vs, e2, .inl h1.sq, h2⟩
  · rename_i ds' e1
    cases e
    obtain ⟨a, vs, e2, h1, h2⟩ := see_ok hc d e1
    exact ⟨a, vs, e2, .inr (.inl (.inl h1)), h2⟩
  · cases e
end

/-! ### displays -/
abbrev CAP : Nat := 16777216
theorem cap_ok {n : Nat} (h : n ≤ CAP) : n ≤ sizeLine := by rw [sizeLine_eq]; exact h
def mTup (r : Env → M (List W)) : ME := fun env cc => (r env cc).bind fun ws c => match allD ws with
  | some ds => if ds.length ≤ CAP then .ok (.d (.tup ds)) c else .stuck
  | none => .stuck
def mLst (r : Env → M (List W)) : ME := fun env cc => (r env cc).bind fun ws c => match allD ws with
  | some ds => if ds.length ≤ CAP then .ok (.d (.lst ds)) c else .stuck
  | none => .stuck
section
variable {K : Wd} {mg : Str → Option Value} {ca : Ca} {H : Hp} {cc : Cs}
theorem den_tup_new {ds : List D} {vs : List V} {p : Addr} (hc : CsOk K mg ca H cc) (d : DenL K mg (Live ca) H ds vs) (hp : H p = none) : DenW K mg ca (upd H p (.tup vs)) (.d (.tup ds)) (.ref p) :=
  ⟨p, vs, rfl, .inl ⟨fun l => (by obtain ⟨o, e⟩ := hc.tracked l; rw [hp] at e; cases e), upd_same⟩, DenL.mono (Kp.new hp) _ _ d⟩
theorem den_lst_new {ds : List D} {vs : List V} {p : Addr} (hc : CsOk K mg ca H cc) (d : DenL K mg (Live ca) H ds vs) (hp : H p = none) : DenW K mg ca (upd H p (.lst vs)) (.d (.lst ds)) (.ref p) :=
  ⟨p, vs, rfl, fun l => (by obtain ⟨o, e⟩ := hc.tracked l; rw [hp] at e; cases e), upd_same, DenL.mono (Kp.new hp) _ _ d⟩
end
section
variable {X : Cx} {Wx : WX} {es : List Expr} {pos : Pos} {r : Env → M (List W)}
theorem pv_tup {x1} (h : PAv X Wx es r) : PEv X Wx (.Tuple es x1 pos) (mTup r) := (pe_tup h).imp fun σ H Q h =>
  Ev.bind h fun env ca w cc v H' he hc d hk => by
    split at hk
    · rename_i ds e1
      split at hk
      · rename_i hl
        have d' := allD_ok d e1
        refine ⟨cap_ok (by rw [d'.length]; exact hl), fun p hp => ?_⟩
        exact hk.now (Stp.new hc hp) (hc.new hp) (den_tup_new hc d' hp)
      · exact hk.elim
    · exact hk.elim
theorem pv_lst (h : PAv X Wx es r) : PEv X Wx (.List es pos) (mLst r) := (pe_lst h).imp fun σ H Q h =>
  Ev.bind h fun env ca w cc v H' he hc d hk => by
    split at hk
    · rename_i ds e1
      split at hk
      · rename_i hl
        have d' := allD_ok d e1
        refine ⟨cap_ok (by rw [d'.length]; exact hl), fun p hp => ?_⟩
        exact hk.now (Stp.new hc hp) (hc.new hp) (den_lst_new hc d' hp)
      · exact hk.elim
    · exact hk.elim
end

/-! ### defs: what they promise, how they are called -/
abbrev Fn := List W → M W
def spOf (K : Wd) (mg : Str → Option Value) (n : Nat) (F : Fn) : Sp := fun vs H Q E =>
  ∃ ws ca cc, ws.length = n ∧ DenWs K mg ca H ws vs ∧ CsOk K mg ca H cc ∧ KS K mg (denV K mg) E ca H Q (F ws cc)
def mCall (F : Fn) (n : Nat) (r : Env → M (List W)) (dfl : List W) : ME := fun env cc => (r env cc).bind fun ws c => if (ws ++ dfl).length = n then F (ws ++ dfl) c else .stuck
section
variable {X : Cx} {Wx : WX} {k n : Nat} {f : Addr} {fd : FuncData} {ps : List Str} {F : Fn} {dvs : List V} {dfl : List W} {ds : List Value} {x m : Str} {p pos apos : Pos} {e o : Expr} {es : List Expr} {r : Env → M (List W)}
/-- the defaults of a def, as data that stands still -/
def DflW (K : Wd) (mg : Str → Option Value) (dfl : List W) (dvs : List V) : Prop := ∀ ca H, DenWs K mg ca H dfl dvs
theorem DflW.nil {K : Wd} {mg : Str → Option Value} : DflW K mg [] [] := fun _ _ => rfl
theorem sp_call {σ : L2.St} {H : Hp} {Q : VK} (hd : DflW X.wd X.mg dfl dvs) (h : EvE X Wx (mCall F n r dfl) σ H Q) : EvA X Wx r σ H fun vs H1 => spOf X.wd X.mg n F (vs ++ dvs) H1 Q (WE Wx σ) :=
  Ev.bind h fun env ca ws cc vs H' he hc d hk => by
    split at hk
    · rename_i hl
      exact ⟨ws ++ dfl, ca, cc, hl, d.append (hd _ _), hc, hk⟩
    · exact hk.elim
/-- x(e, ..), x a def of the module -/
theorem pv_call (G : FnOk X.prog X.w X.K X.mg X.base (L2.CX X.prog X.w) k f fd ps (spOf X.wd X.mg n F)) (hr : Room k X.A) (hg : Gl X x) (hm : X.mg x = some (.ref f)) (hk : PySem.W.keepIn X.K (.ref f) = true) (hb : Binds X.K fd ps ds) (hd : Vals dvs ds)
    (hdw : DflW X.wd X.mg dfl dvs) (tk : Takes X Wx) (ha : PAv X Wx (e :: es) r) (hdb : (x == ("__debug__" : Str)) = false := by decide) (he : ArgAt X e es := by rfl)
    (hpl : FlatAt X pos es := by rfl) : PEv X Wx (.Call (.Name x p) (e :: es) [] pos) (mCall F n r dfl) :=
  (pe_callSD (E := WE Wx) G hr hg hm hk hb hd (fun σ => passAt tk σ) ha hdb he hpl).imp fun σ H Q h => sp_call hdw h
/-! ### a body, and what its def says -/
/-- the end of a body -/
def okBelow1 (n : Nat) : W → Bool
  | .d _ => true
  | .cell m => decide (m < n)
def okBelow (n : Nat) : Cs → Bool
  | [] => true
  | none :: cs => okBelow n cs
  | some (.lst _) :: cs => okBelow n cs
  | some (.dct _ ws) :: cs => ws.all (okBelow1 n) && okBelow n cs
  | some (.obj _ _ ws) :: cs => ws.all (okBelow1 n) && okBelow n cs
  | some (.dkv _ ws) :: cs => ws.all (okBelow1 n) && okBelow n cs
theorem okBelow_get {n : Nat} : ∀ {cs : Cs} {i : Nat} {c : C}, okBelow n cs = true → cs[i]? = some (some c) → (match c with | .lst _ => True | .dct _ ws => ∀ w ∈ ws, okBelow1 n w = true | .obj _ _ ws => ∀ w ∈ ws, okBelow1 n w = true | .dkv _ ws => ∀ w ∈ ws, okBelow1 n w = true)
  | [], i, c, _, e => by simp at e
  | b :: cs, 0, c, h, e => by
    simp at e
    subst e
    cases c with
    | lst _ => trivial
    | dct ks ws => simp only [okBelow, Bool.and_eq_true, List.all_eq_true] at h; exact h.1
    | obj cn ns ws => simp only [okBelow, Bool.and_eq_true, List.all_eq_true] at h; exact h.1
    | dkv ks ws => simp only [okBelow, Bool.and_eq_true, List.all_eq_true] at h; exact h.1
  | b :: cs, i + 1, c, h, e => by
    have h' : okBelow n cs = true := by
      cases b with
      | none => exact h
      | some b =>
        cases b with
        | lst _ => exact h
        | dct ks ws => simp only [okBelow, Bool.and_eq_true] at h; exact h.2
        | obj cn ns ws => simp only [okBelow, Bool.and_eq_true] at h; exact h.2
        | dkv ks ws => simp only [okBelow, Bool.and_eq_true] at h; exact h.2
    exact okBelow_get (i := i) h' (by simpa using e)
/-- only the caller's cells stay -/
def cut {α : Type} (n : Nat) (ok : α → Bool) (a : α) (cc : Cs) : R α := if okBelow n (cc.take n) = true ∧ ok a = true then .ok a (cc.take n) else .stuck
end
section
variable {K : Wd} {mg : Str → Option Value} {ca : Ca} {H : Hp} {cc : Cs}
theorem live_take {n : Nat} {a : Addr} (l : Live (ca.cut n) a) : Live ca a := l.imp List.mem_of_mem_take fun z => z
theorem cut_len {n : Nat} : (ca.cut n).l.length = min n ca.l.length := by simp [Ca.cut]
theorem cut_lt {n m : Nat} (h : m < n) : (ca.cut n).l[m]? = ca.l[m]? := List.getElem?_take_of_lt h
theorem cut_some {n m : Nat} {a : Option Addr} (e : (ca.cut n).l[m]? = some a) : m < n ∧ ca.l[m]? = some a := by
  have hm : m < n := by
    have := (List.getElem?_eq_some_iff.mp e).1
    rw [cut_len] at this
    omega
  rw [cut_lt hm] at e
  exact ⟨hm, e⟩
theorem Kp.take {n : Nat} : Kp (Live ca) H (Live (ca.cut n)) H := fun a o e _ l => ⟨e, fun z => l (live_take z)⟩
theorem DenW.take {n : Nat} (hl : n ≤ ca.l.length) : ∀ {w : W} {v : V}, DenW K mg ca H w v → okBelow1 n w = true → DenW K mg (ca.cut n) H w v
  | .d x, v, h, _ => DenD.mono Kp.take x v h
  | .cell m, v, h, ok => by
    have hm : m < n := of_decide_eq_true ok
    exact ⟨by rw [cut_len]; omega, fun a e => h.2 a (cut_some e).2⟩
theorem DenWs.take {n : Nat} (hl : n ≤ ca.l.length) : ∀ {ws : List W} {vs : List V}, DenWs K mg ca H ws vs → (∀ w ∈ ws, okBelow1 n w = true) → DenWs K mg (ca.cut n) H ws vs
  | [], _, h, _ => h
  | w :: ws, _, ⟨v, vr, e, h1, h2⟩, ok => ⟨v, vr, e, h1.take hl (ok w List.mem_cons_self), DenWs.take hl h2 fun u hu => ok u (List.mem_cons_of_mem _ hu)⟩
theorem CsOk.take {n : Nat} (h : CsOk K mg ca H cc) (hl : n ≤ ca.l.length) (ok : okBelow n (cc.take n) = true) : CsOk K mg (ca.cut n) H (cc.take n) := by
  refine ⟨by rw [cut_len]; simp [h.len], fun m a e => ?_, fun m c e => ?_, fun m j a e1 e2 => h.inj m j a (cut_some e1).2 (cut_some e2).2, h.gh, fun m a e => h.gd m a (cut_some e).2, h.tabs.step Kp.take fun _ _ z => z⟩
  · obtain ⟨hm, e⟩ := cut_some e
    obtain ⟨c, e1, d⟩ := h.at_ m a e
    have e1' : (cc.take n)[m]? = some (some c) := by rw [List.getElem?_take_of_lt hm]; exact e1
    refine ⟨c, e1', ?_⟩
    have q := okBelow_get ok e1'
    cases c with
    | lst ds => obtain ⟨vs, h1, h2⟩ := d; exact ⟨vs, h1, DenL.mono Kp.take _ _ h2⟩
    | dct ks ws => obtain ⟨kvs, h1, h2, h3⟩ := d; exact ⟨kvs, h1, h2, h3.take hl q⟩
    | obj cn ns ws => obtain ⟨Cl, dx, vs, h0, h1, hl', h2⟩ := d; exact ⟨Cl, dx, vs, h0, h1, hl', h2.take hl q⟩
    | dkv ks ws => obtain ⟨vs, h1, h2⟩ := d; exact ⟨vs, h1.mn Kp.take rfl, h2.take hl q⟩
  · have hm : m < n := by
      have := (List.getElem?_eq_some_iff.mp e).1
      simp at this
      omega
    rw [List.getElem?_take_of_lt hm] at e
    obtain ⟨a, e1⟩ := h.live m c e
    exact ⟨a, by rw [cut_lt hm]; exact e1⟩
theorem Stp.take {ca0 : Ca} {H0 : Hp} (p : Stp ca0 H0 ca H) : Stp ca0 H0 (ca.cut ca0.l.length) H := by
  exact ⟨⟨by rw [cut_len]; have := p.len; omega, fun n a hn e => p.old n a hn (cut_some e).2, p.kp.trans Kp.take⟩, p.gEq, p.gKp⟩
end

/-! ### statements -/
inductive SR where
  | nx (env : Env) (cc : Cs) | rt (w : W) (cc : Cs) | bk (env : Env) (cc : Cs) | ct (env : Env) (cc : Cs) | raise (x : Ex) (env : Env) (cc : Cs) | stuck
abbrev MS := Env → Cs → SR
section
variable (K : Wd) (mg : Str → Option Value) (Wx : WX)
def KSt (ca : Ca) (H : Hp) (Dn : Ends) : SR → Prop
  | .nx env cc => ∀ σ H' ca', Stp ca H ca' H' → EnvOk K mg ca' H' env σ → CsOk K mg ca' H' cc → Dn.nx σ H'
  | .rt w cc => ∀ v H' ca', Stp ca H ca' H' → CsOk K mg ca' H' cc → DenW K mg ca' H' w v → Dn.rt v H'
  | .bk env cc => ∀ σ H' ca', Stp ca H ca' H' → EnvOk K mg ca' H' env σ → CsOk K mg ca' H' cc → Dn.bk σ H'
  | .ct env cc => ∀ σ H' ca', Stp ca H ca' H' → EnvOk K mg ca' H' env σ → CsOk K mg ca' H' cc → Dn.ct σ H'
  | .raise x env cc => ∀ cls dd σ H' ca', Stp ca H ca' H' → EnvOk K mg ca' H' env σ → CsOk K mg ca' H' cc → ExOk K mg ca' H' x cls dd → Wx cls dd σ H'
  | .stuck => False
def EvSt (m : MS) : TS := fun Dn σ H => ∃ env ca cc, EnvOk K mg ca H env σ ∧ CsOk K mg ca H cc ∧ KSt K mg Wx ca H Dn (m env cc)
end
abbrev PSv (X : Cx) (Wx : WX) (st : Stmt) (m : MS) : Prop := PS X st (EvSt X.wd X.mg Wx m)
abbrev PSsv (X : Cx) (Wx : WX) (sts : List Stmt) (m : MS) : Prop := PSs X sts (EvSt X.wd X.mg Wx m)
section
variable {K : Wd} {mg : Str → Option Value} {Wx : WX}
theorem KSt.step {ca ca' : Ca} {H H' : Hp} {Dn : Ends} {r : SR} (p : Stp ca H ca' H') (h : KSt K mg Wx ca H Dn r) : KSt K mg Wx ca' H' Dn r := by
  cases r with
  | nx env cc => exact fun σ H2 ca2 q => h σ H2 ca2 (p.trans q)
  | rt w cc => exact fun v H2 ca2 q => h v H2 ca2 (p.trans q)
  | bk env cc => exact fun σ H2 ca2 q => h σ H2 ca2 (p.trans q)
  | ct env cc => exact fun σ H2 ca2 q => h σ H2 ca2 (p.trans q)
  | raise x env cc => exact fun cls dd σ H2 ca2 q => h cls dd σ H2 ca2 (p.trans q)
  | stuck => exact h
/-- a statement that begins by an expression's result -/
def R.thenS {α : Type} (r : R α) (env : Env) (f : α → Cs → SR) : SR := match r with
  | .ok a cc => f a cc
  | .raise x cc => .raise x env cc
  | .stuck => .stuck
theorem KSt.bind {α β : Type} {den : Ca → Hp → α → β → Prop} {ca : Ca} {H : Hp} {Dn : Ends} {r : R α} {env : Env} {σ : L2.St} {f : α → Cs → SR} {Q : β → Hp → Prop} (he : EnvOk K mg ca H env σ) (h : KSt K mg Wx ca H Dn (r.thenS env f))
    (k : ∀ w cc v H' ca', Stp ca H ca' H' → CsOk K mg ca' H' cc → den ca' H' w v → KSt K mg Wx ca' H' Dn (f w cc) → Q v H') : KS K mg den (fun c d H => Wx c d σ H) ca H Q r := by
  cases r with
  | ok w cc => exact fun v H2 ca2 p c d => k w cc v H2 ca2 p c d (KSt.step p h)
  | raise x cc => exact fun cls dd H2 ca2 p c x => h cls dd σ H2 ca2 p (he.mono p) c x
  | stuck => exact h
theorem EvSt.bind {α β : Type} {den : Ca → Hp → α → β → Prop} {m : Env → M α} {f : Env → α → Cs → SR} {Dn : Ends} {σ : L2.St} {H : Hp} {Q : β → Hp → Prop}
    (h : EvSt K mg Wx (fun env cc => (m env cc).thenS env (f env)) Dn σ H)
    (k : ∀ env ca w cc v H', EnvOk K mg ca H' env σ → CsOk K mg ca H' cc → den ca H' w v → KSt K mg Wx ca H' Dn (f env w cc) → Q v H') : Ev K mg den Wx m σ H Q := by
  obtain ⟨env, ca, cc, he, hc, hk⟩ := h
  exact ⟨env, ca, cc, he, hc, KSt.bind he hk fun w c1 v H1 ca1 p c d q => k env ca1 w c1 v H1 (he.mono p) c d q⟩
def SR.seq (r : SR) (f : MS) : SR := match r with
  | .nx env cc => f env cc
  | r => r
def sSeq (a b : MS) : MS := fun env cc => (a env cc).seq b
def sNext : MS := fun env cc => .nx env cc
def sRet (m : ME) : MS := fun env cc => (m env cc).thenS env fun w c => .rt w c
def sSet (i : Nat) (m : ME) : MS := fun env cc => (m env cc).thenS env fun w c => .nx (env.set i (some w)) c
def sIf (t : Env → M Bool) (a b : MS) : MS := fun env cc => (t env cc).thenS env fun x c => if x = true then a env c else b env c
end
section
variable {X : Cx} {Wx : WX} {st : Stmt} {sts : List Stmt} {e c : Expr} {m : ME} {a b : MS} {pos : Pos}
theorem ssv_nil : PSsv X Wx [] sNext := pss_nil.imp fun Dn σ H h => by
  obtain ⟨env, ca, cc, he, hc, hk⟩ := h
  exact hk σ H ca (Stp.refl _ _) he hc
theorem ssv_one (h : PSv X Wx st a) : PSsv X Wx [st] a := pss_one h
theorem ssv_cons (h1 : PSv X Wx st a) (h2 : PSsv X Wx sts b) : PSsv X Wx (st :: sts) (sSeq a b) := (pss_cons h1 h2).imp fun Dn σ H h => by
  obtain ⟨env, ca, cc, he, hc, hk⟩ := h
  refine ⟨env, ca, cc, he, hc, ?_⟩
  unfold sSeq at hk
  cases q : a env cc with
  | nx env' cc' =>
    rw [q] at hk
    exact fun σ' H' ca' p he' hc' => ⟨env', ca', cc', he', hc', KSt.step p hk⟩
  | rt w cc' => rw [q] at hk; exact hk
  | bk env' cc' => rw [q] at hk; exact hk
  | ct env' cc' => rw [q] at hk; exact hk
  | raise x env' cc' => rw [q] at hk; exact hk
  | stuck => rw [q] at hk; exact hk
theorem sv_ret (h : PEv X Wx e m) : PSv X Wx (.Return (some e) pos) (sRet m) := (ps_ret h).imp fun Dn σ H h =>
  EvSt.bind h fun env ca w cc v H' he hc d hk => hk v H' ca (Stp.refl _ _) hc d
theorem sv_set {i : Nat} {x : Str} {pos' : Pos} (hN : X.N.Nodup) (hi : X.N[i]? = some x) (hx : Loc X.env.scope x) (h : PEv X Wx e m) (hs : swapsWith e (some (.Name x pos')) pos.line X.env = pure false := by rfl)
    (hf : X.fn x = true ∨ X.env.scope.names.lookup x = some .local := by first | exact .inl rfl | exact .inr rfl | assumption) : PSv X Wx (.Assign [.Name x pos'] e pos) (sSet i m) := (ps_set hN hi hx h hs hf).imp fun Dn σ H h =>
  EvSt.bind h fun env ca w cc v H' he hc d hk => hk _ H' ca (Stp.refl _ _) (he.set d) hc
theorem sv_if {t : Env → M Bool} {as bs : List Stmt} (hc : PTv X Wx c t) (ha : PSsv X Wx as a) (hb : PSsv X Wx bs b) : PSv X Wx (.If c as bs pos) (sIf t a b) := (ps_if hc ha hb).imp fun Dn σ H h =>
  EvSt.bind h fun env ca w cc v H' he hc d hk => by
    have d' : w = v := d
    subst d'
    cases w with
    | true => exact ⟨env, ca, cc, he, hc, hk⟩
    | false => exact ⟨env, ca, cc, he, hc, hk⟩
end

/-! ### a def, by its body -/
def env0 (n : Nat) (ws : List W) : Env := ws.map some ++ List.replicate (n - ws.length) none
/-- how a value leaves: as it is, or frozen -/
def out (keep : Bool) (cc : Cs) (w : W) : R W := match keep with
  | true => .ok w cc
  | false => match frz cc w with
    | some (x, c) => .ok (.d x) c
    | none => .stuck
/-- a body's end, n the caller's cells -/
def endFn (n : Nat) : SR → R W
  | .nx _ cc => cut n (okBelow1 n) (.d .non) cc
  | .rt (.d x) cc => cut n (okBelow1 n) (.d x) cc
  | .rt (.cell m) cc => if m < n then cut n (okBelow1 n) (.cell m) cc else match frz cc (.cell m) with
    | some (x, c) => cut n (okBelow1 n) (.d x) c
    | none => .stuck
  | .raise x _ cc => if okBelow n (cc.take n) = true then .raise x (cc.take n) else .stuck
  | _ => .stuck
/-- a def: n names -/
def fnOf (n : Nat) (m : MS) : Fn := fun ws cc => endFn cc.length (m (env0 n ws) cc)
section
variable {K : Wd} {mg : Str → Option Value}
theorem envOk_start {N : List Str} {ca : Ca} {H : Hp} {ws : List W} {vs : List V} (d : DenWs K mg ca H ws vs) (hl : ws.length ≤ N.length) : EnvOk K mg ca H (env0 N.length ws) (L2.start N vs) := by
  have l := d.length
  refine ⟨by simp [env0, L2.start]; have := d.length; omega, fun i w e => ?_⟩
  unfold env0 at e
  by_cases hi : i < ws.length
  · rw [List.getElem?_append_left (by simpa using hi), List.getElem?_map] at e
    cases q : ws[i]? with
    | none => rw [q] at e; exact nomatch e
    | some w' =>
      rw [q] at e
      cases e
      obtain ⟨v, e1, d1⟩ := d.get q
      refine ⟨v, ?_, d1⟩
      unfold L2.start
      rw [List.getElem?_append_left (by simp; omega), List.getElem?_map, e1]
      rfl
  · rw [List.getElem?_append_right (by simpa using hi), List.getElem?_replicate] at e
    split at e <;> cases e
theorem ExOk.take {ca : Ca} {H : Hp} {x : Ex} {cls : Value} {dd : Option Addr} {n : Nat} (h : ExOk K mg ca H x cls dd) : ExOk K mg (ca.cut n) H x cls dd := by
  obtain ⟨Cl, d, vs, h1, h2, h3, h4, h5, h6, h7⟩ := h
  exact ⟨Cl, d, vs, h1, h2, h3, h4, fun z => h5 (live_take z), h6, DenL.mono Kp.take _ _ h7⟩
/-- the end of a body meets the promise -/
theorem end_ok {ca : Ca} {H : Hp} {Q : VK} {E : XK} {cc : Cs} {r : SR} (hl : ca.l.length = cc.length) (h : KS K mg (denV K mg) E ca H Q (endFn cc.length r)) :
    KSt K mg (fun c d _ H => E c d H) ca H { nx := fun _ H' => Q .non H', rt := Q } r := by
  have done : ∀ {w : W} {c : Cs} {v : V} {H' : Hp} {ca' : Ca}, KS K mg (denV K mg) E ca H Q (cut cc.length (okBelow1 cc.length) w c) → Stp ca H ca' H' → CsOk K mg ca' H' c → DenW K mg ca' H' w v → Q v H' := fun {w c v H' ca'} hk p hc d => by
    unfold cut at hk
    split at hk
    · rename_i hb
      have hl' : cc.length ≤ ca'.l.length := by rw [← hl]; exact p.len
      have p' := p.take
      rw [hl] at p'
      exact hk.now p' (hc.take hl' hb.1) (d.take hl' hb.2)
    · exact hk.elim
  cases r with
  | nx env c => exact fun σ H' ca' p he hc => done (v := .non) h p hc rfl
  | rt w c =>
    cases w with
    | d x => exact fun v H' ca' p hc d => done h p hc d
    | cell m =>
      simp only [endFn] at h
      split at h
      · exact fun v H' ca' p hc d => done h p hc d
      · split at h
        · rename_i x c2 e
          intro v H' ca' p hc d
          obtain ⟨ca2, p2, hc2, d2⟩ := frz_ok hc d e
          exact done (w := .d x) h (p.trans p2) hc2 d2
        · exact h.elim
  | bk env c => exact h.elim
  | ct env c => exact h.elim
  | raise x env c =>
    simp only [endFn] at h
    split at h
    · rename_i hb
      intro cls dd σ H' ca' p he hc hx
      have hl' : cc.length ≤ ca'.l.length := by rw [← hl]; exact p.len
      have p' := p.take
      rw [hl] at p'
      exact h cls dd H' _ p' (hc.take hl' hb) hx.take
    · exact h.elim
  | stuck => exact h.elim
end
section
variable {P : Program} {w : World} {K : PySem.W.Frag} {mg : (Str → Option Value)} {base : Heap}
/-- THE RULE for a def of the text -/
theorem fn_ok {x qual : Str} {params : Arguments} {body : List Stmt} {scope : Scope} {dvs : List V} {kws : List (Str × V)} {f : Addr} {fd : FuncData} {N ps : List Str} {k : Nat} {m : MS} (F : FunD K x qual params body scope dvs kws f fd) (S : FnScope N ps scope) (hl : ps.length ≤ N.length)
    (hb : ∀ (cdv : Value) (_ : CodeAt K qual cdv) (A : Around) (outer : List PySem.Env) (s : Shared) (H : Hp) (E : XK), Room k (A.deeper (envOfC qual scope s.heap.objs.size f cdv)) →
      Takes (cxOf (L2.CX P w) P w K mg base N qual scope f cdv A outer s H E) (fun c d _ H => E c d H) →
      PSsv (cxOf (L2.CX P w) P w K mg base N qual scope f cdv A outer s H E) (fun c d _ H => E c d H) body m) :
    FnOk P w K mg base (L2.CX P w) (k + 1) f fd ps (spOf (wd P w K) mg ps.length (fnOf N.length m)) := by
  refine fnOk_of F S (fun vs H Q E h => ?_) (fun cdv cod A outer s H vs Q E hr h => ⟨_, hb cdv cod A outer s H E hr (takes_of rfl rfl rfl rfl), ?_⟩)
  · obtain ⟨ws, ca, cc, h1, h2, _⟩ := h
    rw [h2.length, h1]
  · obtain ⟨ws, ca, cc, h1, h2, hc, hk⟩ := h
    exact ⟨env0 N.length ws, ca, cc, envOk_start h2 (by omega), hc, end_ok hc.len hk⟩
end
end DL
set_option Elab.async false
set_option linter.all false
set_option maxRecDepth 100000
set_option maxHeartbeats 1900000
/-! DN0: dicts whose keys are tuples: what stands in the heap; reading. -/
namespace DL
open L2 PyProof.Rows PySem PySem.Spec
section
variable {X : Cx} {pins : List (Addr × Obj)} {σ : L2.St} {H : Hp} {s : Shared} {L : Addr → Prop}
mutual
theorem nest_of (inv : Inv X pins σ H s) : ∀ (x : D) {v : V} {k : NestedKey} {u : Value}, DenD X.wd X.mg L H x v → nk x = some k → RelV v u → NestedIs s.heap k u
  | .non, _, _, _, d, e, r => by cases e; cases (show _ = V.non from d); cases r; exact .none
  | .bl b, _, _, _, d, e, r => by cases e; cases (show _ = V.bl b from d); cases r; exact .bool rfl
  | .int i, _, _, _, d, e, r => by cases e; cases (show _ = V.int i from d); obtain ⟨t, rfl⟩ := r; exact .int i t
  | .str x, _, _, _, d, e, r => by cases e; cases (show _ = V.str x from d); obtain ⟨t, rfl⟩ := r; exact .text x t
  | .tup ds, _, _, _, d, e, r => by
    obtain ⟨a, vs, rfl, lies, items⟩ := d
    obtain ⟨ks, q, rfl⟩ := Option.map_eq_some_iff.mp e
    cases r
    obtain ⟨its, rel, ⟨o, at_a, cl, n, dt⟩, _⟩ := inv.tuple (TupAt.sq (lies.imp (fun z => z.2) id))
    exact .tup at_a cl dt (by simpa using nests_of inv ds items q rel)
  | .lst _, _, _, _, _, e, _ => nomatch e
  | .scr _, _, _, _, _, e, _ => nomatch e
  | .dct _ _, _, _, _, _, e, _ => nomatch e
  | .obj _ _ _, _, _, _, _, e, _ => nomatch e
  | .glo _, _, _, _, _, e, _ => nomatch e
  | .ty _, _, _, _, _, e, _ => nomatch e
  | .dkn _, _, _, _, _, e, _ => nomatch e
  | .dkv _ _, _, _, _, _, e, _ => nomatch e
  | .exc _ _ _, _, _, _, _, e, _ => nomatch e
theorem nests_of (inv : Inv X pins σ H s) : ∀ (xs : List D) {vs : List V} {ks : List NestedKey} {us : List Value}, DenL X.wd X.mg L H xs vs → nks xs = some ks → Vals vs us → NestedAll s.heap ks us
  | [], _, _, _, d, e, r => by cases e; cases (show _ = [] from d); cases r; exact .nil
  | x :: xs, _, _, _, d, e, r => by
    obtain ⟨v, vr, rfl, d1, d2⟩ := d
    cases r with
    | cons r1 r2 =>
      simp only [nks] at e
      split at e
      · rename_i k ks q1 q2
        cases e
        exact .cons (nest_of inv x d1 q1 r1) (nests_of inv xs d2 q2 r2)
      · exact nomatch e
end
end
theorem keys_lie {X : Cx} {pins : List (Addr × Obj)} {σ : L2.St} {H : Hp} {s : Shared} {L : Addr → Prop} (inv : Inv X pins σ H s) : ∀ {kds : List D} {es : List (NestedKey × Addr × Value)}, tks kds = some (es.map (·.1)) → DenL X.wd X.mg L H kds (es.map fun x => V.ref x.2.1) → ∀ x ∈ es, (nestedKind X.prog X.w).is s.heap x.1 x.2.1
  | _, [], _, _, x, mem => nomatch mem
  | [], e :: es, t, _, _, _ => nomatch (show some ([] : List NestedKey) = some (e.1 :: es.map (·.1)) from t)
  | kd :: kds, e :: es, t, d, x, mem => by
    obtain ⟨v, vr, q, d1, d2⟩ := d
    rw [List.map_cons] at q
    cases q
    simp only [tks] at t
    split at t
    · rename_i k ks t1 t2
      simp only [List.map_cons, Option.some.injEq, List.cons.injEq] at t
      obtain ⟨rfl, rfl⟩ := t
      obtain ⟨_, is_k, deep⟩ := tk_is t1
      rcases List.mem_cons.mp mem with z | z
      · rw [z]
        exact ⟨nest_of inv kd d1 is_k rfl, deep⟩
      · exact keys_lie inv t2 d2 x z
    · exact nomatch t
theorem tup_back {K : Wd} {mg : Str → Option Value} {ca : Ca} {H : Hp} {cc : Cs} (hc : CsOk K mg ca H cc) {a : Addr} {vs : List V} {ds : List D} (h1 : TupAt K H a vs) (h2 : DenL K mg (Live ca) H ds vs) : DenD K mg (Live ca) H (.tup ds) (.ref a) := by
  refine ⟨a, vs, rfl, h1.elim (fun z => .inl ⟨fun l => ?_, z⟩) .inr, h2⟩
  obtain ⟨o, e, m⟩ := hc.mut l
  rw [z] at e
  cases e
  exact m
theorem key_back {K : Wd} {mg : Str → Option Value} {ca : Ca} {H : Hp} {cc : Cs} (hc : CsOk K mg ca H cc) {x : D} {k : NestedKey} {v : V} (t : tk x = some k) (d : DenT K mg ca H x v) : DenD K mg (Live ca) H x v := by
  obtain ⟨⟨ds, rfl⟩, _, _⟩ := tk_is t
  obtain ⟨a, vs, rfl, h1, h2⟩ := d
  exact tup_back hc h1 h2
/-! ### texts compared, fast -/
def eqL : List Nat → List Nat → Bool
  | [], [] => true
  | a :: r, b :: t => Nat.beq a b && eqL r t
  | _, _ => false
theorem eqL_iff : ∀ {a b : List Nat}, eqL a b = true ↔ a = b
  | [], [] => by simp [eqL]
  | [], _ :: _ => by simp [eqL]
  | _ :: _, [] => by simp [eqL]
  | a :: r, b :: t => by
    simp only [eqL, Bool.and_eq_true, eqL_iff (a := r) (b := t), List.cons.injEq]
    exact ⟨fun h => ⟨Nat.eq_of_beq_eq_true h.1, h.2⟩, fun h => ⟨by rw [h.1]; exact Nat.beq_refl b, h.2⟩⟩
def eqS (a b : Str) : Bool := eqL a.cps.toList b.cps.toList
theorem eqS_iff {a b : Str} : eqS a b = true ↔ a = b := by
  unfold eqS
  rw [eqL_iff]
  constructor
  · intro h
    obtain ⟨x⟩ := a
    obtain ⟨y⟩ := b
    rw [show x = y from Array.toList_inj.mp h]
  · intro h
    rw [h]
/-! ### keys -/
def asKey : D → Option Key
  | .int i => some (.inl i)
  | .str x => some (.inr x)
  | _ => none
theorem asKey_ok {K : Wd} {mg : Str → Option Value} {ca : Ca} {H : Hp} {x : D} {k : Key} {v : V} (e : asKey x = some k) (d : DenT K mg ca H x v) : v = kV k ∧ x = keyD k := by
  unfold asKey at e
  split at e
  · cases e; exact ⟨d, rfl⟩
  · cases e; exact ⟨d, rfl⟩
  · cases e
/-- is this data the key? -/
def isKey : D → Key → Bool
  | .int i, .inl j => decide (i = j)
  | .str x, .inr y => eqS x y
  | _, _ => false
theorem isKey_iff (k' k : Key) : isKey (keyD k') k = decide (k' = k) := by
  cases k' <;> cases k <;> simp [isKey, keyD]
  rw [Bool.eq_iff_iff, eqS_iff]
  simp
/-- the value at a key -/
def look {α : Type} : List D → List α → Key → Option α
  | x :: ks, v :: vs, k => if isKey x k = true then some v else look ks vs k
  | _, _, _ => none
theorem look_kv (k : Key) : ∀ kvs : List (Key × V), look (kvs.map fun p => keyD p.1) (kvs.map (·.2)) k = valV kvs k
  | [] => rfl
  | p :: r => by
    simp only [List.map_cons, look, isKey_iff, decide_eq_true_eq]
    by_cases e : p.1 = k
    · rw [if_pos e, valV_pos e]
    · rw [if_neg e, valV_neg e, look_kv k r]
theorem look_denW {K : Wd} {mg : Str → Option Value} {ca : Ca} {H : Hp} {k : Key} : ∀ {ks : List D} {ws : List W} {vs : List V} {w : W}, DenWs K mg ca H ws vs → look ks ws k = some w → ∃ v, look ks vs k = some v ∧ DenW K mg ca H w v
  | [], _, _, _, _, e => by simp [look] at e
  | _ :: _, [], _, _, _, e => by simp [look] at e
  | x :: ks, u :: ws, vs, w, d, e => by
    obtain ⟨v, vr, rfl, d1, d2⟩ := d
    simp only [look] at e ⊢
    split at e
    · rename_i h
      cases e
      exact ⟨v, by rw [if_pos h], d1⟩
    · rename_i h
      rw [if_neg h]
      exact look_denW d2 e
theorem look_denL {K : Wd} {mg : Str → Option Value} {ca : Ca} {H : Hp} {k : Key} : ∀ {ks : List D} {ws : List D} {vs : List V} {w : D}, DenL K mg (Live ca) H ws vs → look ks ws k = some w → ∃ v, look ks vs k = some v ∧ DenD K mg (Live ca) H w v
  | [], _, _, _, _, e => by simp [look] at e
  | _ :: _, [], _, _, _, e => by simp [look] at e
  | x :: ks, u :: ws, vs, w, d, e => by
    obtain ⟨v, vr, rfl, d1, d2⟩ := d
    simp only [look] at e ⊢
    split at e
    · rename_i h
      cases e
      exact ⟨v, by rw [if_pos h], d1⟩
    · rename_i h
      rw [if_neg h]
      exact look_denL d2 e

/-- the value of a key -/
def lookN {α : Type} : List D → List α → NestedKey → Option α
  | k :: ks, v :: vs, q => if tk k = some q then some v else lookN ks vs q
  | _, _, _ => none
def hasN (ks : List D) (q : NestedKey) : Bool := ks.any fun k => decide (tk k = some q)
def LookOk : Option V → Option (Addr × Value) → Prop
  | some v, some p => RelV v p.2
  | none, none => True
  | _, _ => False
theorem at_cons {x : NestedKey × Addr × Value} {xs : List (NestedKey × Addr × Value)} {k : NestedKey} : atKey (x :: xs) k = if x.1 = k then some x.2 else atKey xs k := by
  unfold atKey
  by_cases h : x.1 = k
  · rw [List.find?_cons_of_pos (by simpa using h), if_pos h]
    rfl
  · rw [List.find?_cons_of_neg (by simpa using h), if_neg h]
theorem look_at (k : NestedKey) : ∀ {ks : List D} {vs : List V} {es : List (NestedKey × Addr × Value)}, tks ks = some (es.map (·.1)) → Vals vs (es.map fun x => x.2.2) → LookOk (lookN ks vs k) (atKey es k)
  | [], vs, es, t, r => by
    have e : es = [] := by
      cases es with
      | nil => rfl
      | cons e es => exact nomatch (show some ([] : List NestedKey) = some (e.1 :: es.map (·.1)) from t)
    subst e
    exact True.intro
  | x :: ks, vs, [], t, r => by
    simp only [tks] at t
    split at t
    · cases t
    · cases t
  | x :: ks, vs, e :: es, t, r => by
    simp only [tks] at t
    split at t
    · rename_i q qs t1 t2
      simp only [List.map_cons, Option.some.injEq, List.cons.injEq] at t
      obtain ⟨rfl, rfl⟩ := t
      rw [List.map_cons] at r
      cases r with
      | cons r1 r2 =>
        rw [at_cons, lookN, t1]
        by_cases h : e.1 = k
        · rw [if_pos (by rw [h]), if_pos h]
          exact r1
        · rw [if_neg (fun z => h (Option.some.inj z)), if_neg h]
          exact look_at k t2 r2
    · cases t
theorem has_at (k : NestedKey) : ∀ {ks : List D} {es : List (NestedKey × Addr × Value)}, tks ks = some (es.map (·.1)) → (atKey es k).isSome = hasN ks k
  | [], es, t => by
    have e : es = [] := by
      cases es with
      | nil => rfl
      | cons e es => exact nomatch (show some ([] : List NestedKey) = some (e.1 :: es.map (·.1)) from t)
    subst e
    rfl
  | x :: ks, [], t => by
    simp only [tks] at t
    split at t
    · cases t
    · cases t
  | x :: ks, e :: es, t => by
    simp only [tks] at t
    split at t
    · rename_i q qs t1 t2
      simp only [List.map_cons, Option.some.injEq, List.cons.injEq] at t
      obtain ⟨rfl, rfl⟩ := t
      rw [at_cons]
      unfold hasN
      rw [List.any_cons, t1]
      by_cases h : e.1 = k
      · rw [if_pos h, h, decide_eq_true rfl, Bool.true_or]
        rfl
      · rw [if_neg h, decide_eq_false (fun z => h (Option.some.inj z)), Bool.false_or, has_at k t2]
        rfl
    · cases t
theorem lookN_denW {K : Wd} {mg : Str → Option Value} {ca : Ca} {H : Hp} {k : NestedKey} : ∀ {ks : List D} {ws : List W} {vs : List V} {w : W}, DenWs K mg ca H ws vs → lookN ks ws k = some w → ∃ v, lookN ks vs k = some v ∧ DenW K mg ca H w v
  | [], _, _, _, _, e => by cases e
  | x :: ks, [], _, _, _, e => by cases e
  | x :: ks, w' :: ws, vs, w, d, e => by
    obtain ⟨v, vr, rfl, d1, d2⟩ := d
    rw [lookN] at e ⊢
    split at e
    · rename_i h
      cases e
      exact ⟨v, by rw [if_pos h], d1⟩
    · rename_i h
      rw [if_neg h]
      exact lookN_denW d2 e
theorem lookN_denL {K : Wd} {mg : Str → Option Value} {L : Addr → Prop} {H : Hp} {k : NestedKey} : ∀ {ks : List D} {ws : List D} {vs : List V} {w : D}, DenL K mg L H ws vs → lookN ks ws k = some w → ∃ v, lookN ks vs k = some v ∧ DenD K mg L H w v
  | [], _, _, _, _, e => by cases e
  | x :: ks, [], _, _, _, e => by cases e
  | x :: ks, w' :: ws, vs, w, d, e => by
    obtain ⟨v, vr, rfl, d1, d2⟩ := d
    rw [lookN] at e ⊢
    split at e
    · rename_i h
      cases e
      exact ⟨v, by rw [if_pos h], d1⟩
    · rename_i h
      rw [if_neg h]
      exact lookN_denL d2 e
section
variable {X : Cx} {pins : List (Addr × Obj)} {σ : L2.St} {H : Hp} {s : Shared} {ca : Ca} {a : Addr} {ks : List D} {vs : List V}
theorem nat_dict (inv : Inv X pins σ H s) (h : NAt X.wd X.mg ca H a ks vs) : ∃ es : List (NestedKey × Addr × Value), (a == sysModules) = false ∧ es.length ≤ sizeLine ∧ H a = some (RawD a (entsN X.prog X.w es)) ∧ s.heap.DictOfH (nestedKind X.prog X.w) a es ∧ tks ks = some (es.map (·.1)) ∧ Vals vs (es.map fun x => x.2.2) := by
  obtain ⟨es, here, t, once, d, rel⟩ := h
  obtain ⟨⟨noSys, few, o, ep, at_, exact_, lies⟩, _⟩ := (show ObjOk X.prog X.w H s.heap a (RawD a (entsN X.prog X.w es)) from inv.hok a _ here)
  refine ⟨es, noSys, ?_, here, ⟨o, _, ep, at_, exact_, lies, rfl, keys_lie inv t d, once⟩, t, rel⟩
  unfold entsN at few
  rwa [List.length_map] at few
/-- a key in hand -/
theorem key_now {kd : D} {k : NestedKey} {y : V} {u : Value} {L : Addr → Prop} (inv : Inv X pins σ H s) (t : tk kd = some k) (d : DenD X.wd X.mg L H kd y) (r : RelV y u) : ∃ b, y = .ref b ∧ u = .ref b ∧ (nestedKind X.prog X.w).is s.heap k b := by
  obtain ⟨⟨ds, rfl⟩, isk, deep⟩ := tk_is t
  obtain ⟨b, us, rfl, _⟩ := id d
  cases r
  exact ⟨b, rfl, rfl, nest_of inv _ d isk rfl, deep⟩
end
theorem stored_old {es : List (NestedKey × Addr × Value)} {k : NestedKey} {b : Addr} {r : Value} (mem : k ∈ es.map (·.1)) : (storedH es k b r).map (fun x => (x.1, x.2.1)) = es.map fun x => (x.1, x.2.1) := by
  obtain ⟨x, at_x, e⟩ := List.mem_map.mp mem
  have found : (atKey es k).isSome = true := by
    unfold atKey
    rw [Option.isSome_map, List.find?_isSome]
    exact ⟨x, at_x, decide_eq_true e⟩
  unfold storedH
  rw [if_pos found, List.map_map]
  apply List.map_congr_left; intro y _
  unfold Function.comp putAt
  split <;> rfl
theorem stored_new {es : List (NestedKey × Addr × Value)} {k : NestedKey} {b : Addr} {r : Value} (out : k ∉ es.map (·.1)) : storedH es k b r = es ++ [(k, b, r)] := by
  apply storedH_new
  unfold atKey
  rw [Option.map_eq_none_iff, List.find?_eq_none]
  intro x mem e
  exact out (List.mem_map.mpr ⟨x, mem, of_decide_eq_true e⟩)
/-- d[k] = v, by data -/
def putN {α : Type} (ks : List D) (vs : List α) (k : NestedKey) (kd : D) (v : α) : List D × List α :=
  if hasN ks k = true then (ks, List.zipWith (fun x u => if tk x = some k then v else u) ks vs) else (ks ++ [kd], vs ++ [v])
theorem has_mem {k : NestedKey} {ks : List D} {es : List (NestedKey × Addr × Value)} (t : tks ks = some (es.map (·.1))) : hasN ks k = true ↔ k ∈ es.map (·.1) := by
  rw [← has_at k t]
  unfold atKey
  rw [Option.isSome_map, List.find?_isSome]
  constructor
  · rintro ⟨x, m, e⟩
    exact List.mem_map.mpr ⟨x, m, of_decide_eq_true e⟩
  · intro m
    obtain ⟨x, m, e⟩ := List.mem_map.mp m
    exact ⟨x, m, decide_eq_true e⟩
theorem vals_put {k : NestedKey} {v : V} {r : Value} (rel : RelV v r) : ∀ {ks : List D} {vs : List V} {es : List (NestedKey × Addr × Value)}, tks ks = some (es.map (·.1)) → Vals vs (es.map fun x => x.2.2) →
    Vals (List.zipWith (fun x u => if tk x = some k then v else u) ks vs) ((es.map (putAt k r)).map fun x => x.2.2)
  | [], vs, es, t, rs => by
    have e : es = [] := by
      cases es with
      | nil => rfl
      | cons e es => exact nomatch (show some ([] : List NestedKey) = some (e.1 :: es.map (·.1)) from t)
    subst e
    exact .nil
  | x :: ks, vs, [], t, rs => by
    simp only [tks] at t
    split at t
    · cases t
    · cases t
  | x :: ks, vs, e :: es, t, rs => by
    simp only [tks] at t
    split at t
    · rename_i q qs t1 t2
      simp only [List.map_cons, Option.some.injEq, List.cons.injEq] at t
      obtain ⟨rfl, rfl⟩ := t
      rw [List.map_cons] at rs
      cases rs with
      | cons r1 r2 =>
        rw [List.zipWith_cons_cons, List.map_cons, List.map_cons]
        refine .cons ?_ (vals_put rel t2 r2)
        rw [t1]
        unfold putAt
        by_cases h : e.1 = k
        · rw [if_pos (by rw [h]), if_pos h]
          exact rel
        · rw [if_neg (fun z => h (Option.some.inj z)), if_neg h]
          exact r1
    · cases t
theorem vals_snoc : ∀ {vs : List V} {us : List Value} {v : V} {u : Value}, Vals vs us → RelV v u → Vals (vs ++ [v]) (us ++ [u])
  | [], _, _, _, h, r => by cases h; exact .cons r .nil
  | _ :: _, _, _, _, h, r => by
    cases h with
    | cons r1 r2 => exact .cons r1 (vals_snoc r2 r)
/-! ### rules -/
def rNG (K : Wd) (mg : Str → Option Value) : R2 := fun x y H Q => ∃ (a : Addr) (ca : Ca) (L : Addr → Prop) (ks : List D) (vs : List V) (kd : D) (k : NestedKey) (v : V), x = .ref a ∧ NAt K mg ca H a ks vs ∧ tk kd = some k ∧ DenD K mg L H kd y ∧ lookN ks vs k = some v ∧ Q v H
def rDIn (neg : Bool) : R2 := fun x y H Q => ∃ (a : Addr) (o : Option V), y = .ref a ∧ DGet H a x o ∧ Q (.bl (neg != o.isSome)) H
def rNIn (K : Wd) (mg : Str → Option Value) (neg : Bool) : R2 := fun x y H Q => rDIn neg x y H Q ∨ ∃ (a : Addr) (ca : Ca) (L : Addr → Prop) (ks : List D) (vs : List V) (kd : D) (k : NestedKey), y = .ref a ∧ NAt K mg ca H a ks vs ∧ tk kd = some k ∧ DenD K mg L H kd x ∧ Q (.bl (neg != hasN ks k)) H
section
variable {X : Cx}
theorem room_nest (hu : X.A.units + 65 < cLine) : (nestedKind X.prog X.w).room X.A.in1 := by
  show X.A.units + 1 + 8 < cLine
  omega
theorem ix_nest (hu : X.A.units + 65 < cLine) : IxR X (rNG X.wd X.mg) := by
  rintro value slice pins s σ H x y v u Q I rx ry ⟨a, ca, L, ks, vs, kd, k, w, rfl, n, t, d, l, q⟩ hs
  cases rx
  obtain ⟨b, rfl, rfl, isK⟩ := key_now I t d ry
  obtain ⟨es, noSys, few, here, dd, tt, rel⟩ := nat_dict I n
  have lk := look_at k tt rel
  rw [l] at lk
  cases e : atKey es k with
  | none => rw [e] at lk; exact lk.elim
  | some p =>
    rw [e] at lk
    exact tail_any (ops := [.ref a, .ref b]) dd.typeIs PySem.F.slot_dict_getitem.lookup (wpAny_getItem_heap (room_nest hu) isK dd e ⟨w, H, I.tok _, lk, q⟩) hs
theorem op_inN (hu : X.A.units + 65 < cLine) : OpR X (compareOp .In) (rNIn X.wd X.mg false) := by
  rintro pins s σ H x y v u Q I rx ry (⟨a, o, rfl, g, q⟩ | ⟨a, ca, L, ks, vs, kd, k, rfl, n, t, d, q⟩)
  · cases ry
    exact d_in (by omega) I g rx fun s3 I3 => ⟨.bl o.isSome, H, I3, rfl, by simpa using q⟩
  cases ry
  obtain ⟨b, rfl, rfl, isK⟩ := key_now I t d rx
  obtain ⟨es, noSys, few, here, dd, tt, rel⟩ := nat_dict I n
  refine wpAny_in_heap (room_nest hu) isK noSys dd ⟨.bl (hasN ks k), H, I.tok _, ?_, by simpa using q⟩
  rw [has_at k tt]
  exact rfl
end
end DL
set_option Elab.async false
set_option linter.all false
set_option maxRecDepth 100000
set_option maxHeartbeats 1900000
/-! DL3: operators, comparisons, subscripts, slices, built-ins. -/
namespace DL
open L2 PyProof.Rows PySem PySem.Spec

/-! ### data as the library compares it -/
mutual
/-- as the library's data (what it has no word for: None) -/
def py : D → PyData
  | .bl b => .bool b
  | .int i => .int i
  | .str x => .str x
  | .tup ds => .tuple (pys ds)
  | .lst ds => .list (pys ds)
  | _ => .none
def pys : List D → List PyData
  | [] => []
  | x :: xs => py x :: pys xs
end
mutual
/-- the library has a word for it -/
def isPy : D → Bool
  | .non => true
  | .bl _ => true
  | .int _ => true
  | .str _ => true
  | .tup ds => arePy ds
  | .lst ds => arePy ds
  | _ => false
def arePy : List D → Bool
  | [] => true
  | x :: xs => isPy x && arePy xs
end
section
variable {K : Wd} {mg : Str → Option Value} {ca : Ca} {H : Hp}
mutual
theorem dp_of : ∀ (x : D) (v : V), DenD K mg (Live ca) H x v → isPy x = true → Dp K H v (py x)
  | .non, _, h, _ => by cases (show _ = V.non from h); exact .non
  | .bl b, _, h, _ => by cases (show _ = V.bl b from h); exact .bl b
  | .int i, _, h, _ => by cases (show _ = V.int i from h); exact .int i
  | .str x, _, h, _ => by cases (show _ = V.str x from h); exact .str x
  | .tup ds, _, h, e => by
    simp only [DenD] at h
    obtain ⟨a, vs, rfl, h1, h2⟩ := h
    exact .tup (h1.elim (fun z => .inl (.inl z.2)) .inr) (dps_of ds vs h2 e)
  | .lst ds, _, h, e => by
    simp only [DenD] at h
    obtain ⟨a, vs, rfl, _, h1, h2⟩ := h
    exact .lst (.inl (.inl h1)) (dps_of ds vs h2 e)
  | .scr _, _, _, e => by cases e
  | .dct _ _, _, _, e => by cases e
  | .obj _ _ _, _, _, e => by cases e
  | .glo _, _, _, e => by cases e
  | .ty _, _, _, e => by cases e
  | .dkn _, _, _, e => by cases e
  | .dkv _ _, _, _, e => by cases e
  | .exc _ _ _, _, _, e => by cases e
theorem dps_of : ∀ (xs : List D) (vs : List V), DenL K mg (Live ca) H xs vs → arePy xs = true → DpAll K H vs (pys xs)
  | [], _, h, _ => by cases (show _ = [] from h); exact .nil
  | x :: xs, _, h, e => by
    simp only [DenL] at h
    obtain ⟨v, vr, rfl, h1, h2⟩ := h
    simp only [arePy, Bool.and_eq_true] at e
    exact .cons (dp_of x v h1 e.1) (dps_of xs vr h2 e.2)
end
theorem dp_t {x : D} {v : V} (h : DenT K mg ca H x v) (e : isPy x = true) : Dp K H v (py x) := by
  cases x with
  | tup ds =>
    obtain ⟨a, vs, rfl, h1, h2⟩ := h
    exact .tup h1.sq (dps_of ds vs h2 e)
  | lst ds =>
    obtain ⟨a, vs, rfl, h1, h2⟩ := h
    exact .lst (.inl (.inl h1)) (dps_of ds vs h2 e)
  | dct ks ds => cases e
  | dkv ks ds => cases e
  | _ => exact dp_of (mg := mg) (ca := ca) _ v h e
end
/-! ### data compared, fast -/
def b01 (b : Bool) : Int := if b = true then 1 else 0
mutual
def eqD : D → D → Bool
  | .non, .non => true
  | .bl a, .bl b => a == b
  | .bl a, .int j => decide (b01 a = j)
  | .int i, .bl b => decide (i = b01 b)
  | .int i, .int j => decide (i = j)
  | .str x, .str y => eqS x y
  | .lst xs, .lst ys => eqDs xs ys
  | .tup xs, .tup ys => eqDs xs ys
  | _, _ => false
def eqDs : List D → List D → Bool
  | [], [] => true
  | x :: xs, y :: ys => eqD x y && eqDs xs ys
  | _, _ => false
end
mutual
/-- may be compared: n levels deep -/
def ck : D → Nat → Bool
  | .non, _ => true
  | .bl _, _ => true
  | .int _, _ => true
  | .str x, _ => x.cps.toList.all fun c => Nat.blt c 0x110000
  | .tup ds, n => Nat.blt 0 n && cks ds (n - 1)
  | .lst ds, n => Nat.blt 0 n && cks ds (n - 1)
  | _, _ => false
def cks : List D → Nat → Bool
  | [], _ => true
  | x :: xs, n => ck x n && cks xs n
end
mutual
theorem eqD_ok : ∀ (x y : D), isPy x = true → isPy y = true → PyData.eqv (py x) (py y) = eqD x y
  | .non, y, _, h => by cases y <;> first | rfl | cases h
  | .bl a, y, _, h => by cases y <;> first | rfl | cases h
  | .int i, y, _, h => by cases y <;> first | rfl | cases h
  | .str x, y, _, h => by
    cases y <;> first | rfl | cases h | skip
    rename_i z
    simp only [py, PyData.eqv, eqD]
    rw [Bool.eq_iff_iff, eqS_iff]
    exact beq_iff_eq
  | .tup xs, y, h1, h2 => by
    cases y <;> first | rfl | cases h2 | skip
    all_goals first | rfl | skip
    rename_i ys
    simp only [py, PyData.eqv, eqD]
    exact eqDs_ok xs ys h1 h2
  | .lst xs, y, h1, h2 => by
    cases y <;> first | rfl | cases h2 | skip
    all_goals first | rfl | skip
    rename_i ys
    simp only [py, PyData.eqv, eqD]
    exact eqDs_ok xs ys h1 h2
  | .scr _, _, h, _ => by cases h
  | .dct _ _, _, h, _ => by cases h
  | .obj _ _ _, _, h, _ => by cases h
  | .glo _, _, h, _ => by cases h
  | .ty _, _, h, _ => by cases h
  | .dkn _, _, h, _ => by cases h
  | .dkv _ _, _, h, _ => by cases h
  | .exc _ _ _, _, h, _ => by cases h
theorem eqDs_ok : ∀ (xs ys : List D), arePy xs = true → arePy ys = true → PyData.eqvAll (pys xs) (pys ys) = eqDs xs ys
  | [], [], _, _ => rfl
  | [], _ :: _, _, _ => rfl
  | _ :: _, [], _, _ => rfl
  | x :: xs, y :: ys, h1, h2 => by
    simp only [arePy, Bool.and_eq_true] at h1 h2
    simp only [pys, PyData.eqvAll, eqDs]
    rw [eqD_ok x y h1.1 h2.1, eqDs_ok xs ys h1.2 h2.2]
end
mutual
theorem ck_ok : ∀ (x : D) (n : Nat), ck x n = true → isPy x = true ∧ PyData.canLay0 (py x) = true ∧ PyData.depth (py x) ≤ n
  | .non, n, _ => ⟨rfl, rfl, Nat.zero_le _⟩
  | .bl _, n, _ => ⟨rfl, rfl, Nat.zero_le _⟩
  | .int _, n, _ => ⟨rfl, rfl, Nat.zero_le _⟩
  | .str x, n, h => by
    refine ⟨rfl, ?_, Nat.zero_le _⟩
    show x.cps.all (fun c => decide (c < 0x110000)) = true
    rw [← Array.all_toList]
    simp only [ck, List.all_eq_true] at h ⊢
    intro c hc
    have := h c hc
    simp only [Nat.blt, Nat.ble_eq] at this
    exact decide_eq_true this
  | .tup ds, n, h => by
    simp only [ck, Bool.and_eq_true, Nat.blt, Nat.ble_eq] at h
    obtain ⟨h1, h2, h3⟩ := cks_ok ds (n - 1) h.2
    exact ⟨h1, h2, by show PyData.depthAll (pys ds) + 1 ≤ n; omega⟩
  | .lst ds, n, h => by
    simp only [ck, Bool.and_eq_true, Nat.blt, Nat.ble_eq] at h
    obtain ⟨h1, h2, h3⟩ := cks_ok ds (n - 1) h.2
    exact ⟨h1, h2, by show PyData.depthAll (pys ds) + 1 ≤ n; omega⟩
  | .scr _, _, h => by cases h
  | .dct _ _, _, h => by cases h
  | .obj _ _ _, _, h => by cases h
  | .glo _, _, h => by cases h
  | .ty _, _, h => by cases h
  | .dkn _, _, h => by cases h
  | .dkv _ _, _, h => by cases h
  | .exc _ _ _, _, h => by cases h
theorem cks_ok : ∀ (xs : List D) (n : Nat), cks xs n = true → arePy xs = true ∧ PyData.canLayAll0 (pys xs) = true ∧ PyData.depthAll (pys xs) ≤ n
  | [], n, _ => ⟨rfl, rfl, Nat.zero_le _⟩
  | x :: xs, n, h => by
    simp only [cks, Bool.and_eq_true] at h
    obtain ⟨a1, a2, a3⟩ := ck_ok x n h.1
    obtain ⟨b1, b2, b3⟩ := cks_ok xs n h.2
    refine ⟨?_, ?_, ?_⟩
    · simp [arePy, a1, b1]
    · simp [pys, PyData.canLayAll0, a2, b2]
    · show max (PyData.depth (py x)) (PyData.depthAll (pys xs)) ≤ n
      omega
end
/-- what can be compared -/
def cmpD (x : D) : Bool := ck x 64
theorem cmpD_ok {x : D} (h : cmpD x = true) : isPy x = true ∧ SeqAt.shaped (py x) = true := by
  obtain ⟨h1, h2, h3⟩ := ck_ok x 64 h
  exact ⟨h1, Bool.and_eq_true_iff.mpr ⟨h2, decide_eq_true h3⟩⟩
theorem any_eqD {ds : List D} {x : D} (h1 : arePy ds = true) (h2 : isPy x = true) : ((pys ds).any fun z => PyData.eqv z (py x)) = ds.any fun z => eqD z x := by
  induction ds with
  | nil => rfl
  | cons d ds ih =>
    simp only [arePy, Bool.and_eq_true] at h1
    simp only [pys, List.any_cons, eqD_ok d x h1.1 h2, ih h1.2]
def dEqB (x y : D) : Option Bool := if cmpD x = true ∧ cmpD y = true then some (eqD x y) else none
def dEq (x y : D) : Option D := (dEqB x y).map .bl
def dNe (x y : D) : Option D := (dEqB x y).map fun b => .bl (!b)
/-- a sign, a text in a text -/
def inStr (a b : Str) : Bool := match a.cps.toList with
  | [c] => b.cps.toList.any fun d => Nat.beq d c
  | _ => !(Builtin.Str.occurrences b a 0 b.length 1).isEmpty
theorem inStr_eq (a b : Str) : inStr a b = !(Builtin.Str.occurrences b a 0 b.length 1).isEmpty := by
  unfold inStr
  split
  · rename_i c h
    have e : a = ⟨#[c]⟩ := by
      obtain ⟨x⟩ := a
      have h' : x.toList = [c] := h
      rw [show x = #[c] from Array.toList_inj.mp h']
    subst e
    rw [PySem.StrLaws.found_one]
    rw [Bool.eq_iff_iff]
    simp only [List.any_eq_true, decide_eq_true_eq]
    constructor
    · rintro ⟨d, hd, e⟩
      rw [← Nat.eq_of_beq_eq_true e]
      exact hd
    · intro hd
      exact ⟨c, hd, Nat.beq_refl c⟩
  · rfl
def dIn0 (x y : D) : Option Bool := match x, y with
  | .str a, .str b => some (inStr a b)
  | x, .lst ds => if cmpD x = true ∧ cmpD (.lst ds) = true then some (ds.any fun z => eqD z x) else none
  | x, .tup ds => if cmpD x = true ∧ cmpD (.tup ds) = true then some (ds.any fun z => eqD z x) else none
  | x, .dct ks vs => if ks.length = vs.length then (asKey x).map fun k => ks.any fun z => isKey z k else none
  | x, .dkv ks _ => (tk x).map fun k => hasN ks k
  | _, _ => none
def dIn (x y : D) : Option D := (dIn0 x y).map .bl
def small (i : Int) : Bool := decide (-(2 ^ 64) < i ∧ i < 2 ^ 64)
def dAdd (x y : D) : Option D := match x, y with
  | .int i, .int j => some (.int (i + j))
  | .str a, .str b => if a.length + b.length ≤ CAP then some (.str (a ++ b)) else none
  | .tup a, .tup b => if a.length + b.length ≤ CAP then some (.tup (a ++ b)) else none
  | .lst a, .lst b => if a.length + b.length ≤ CAP then some (.lst (a ++ b)) else none
  | _, _ => none
def repL (n : Nat) (ds : List D) : List D := (List.replicate n ds).flatten
/-- an operator on data -/
def OpD (X : Cx) (r : R2) (g : D → D → Option D) : Prop :=
  ∀ {ca : Ca} {cc : Cs} {H : Hp} {x y z : D} {v u : V} {Q : VK}, CsOk X.wd X.mg ca H cc → DenT X.wd X.mg ca H x v → DenT X.wd X.mg ca H y u → g x y = some z →
    (∀ v' H', Stp ca H ca H' → CsOk X.wd X.mg ca H' cc → DenD X.wd X.mg (Live ca) H' z v' → Q v' H') → r v u H Q
def mOp (g : D → D → Option D) (a b : ME) : ME := fun env cc => (a env cc).bind fun w c => (b env c).bind fun u c2 => match see c2 w, see c2 u with
  | some x, some y => match g x y with
    | some z => .ok (.d z) c2
    | none => .stuck
  | _, _ => .stuck
section
variable {X : Cx} {Wx : WX} {a b : Expr} {ma mb : ME} {r : R2} {g : D → D → Option D} {pos : Pos}
theorem op_read {σ : L2.St} {H : Hp} {Q : VK} (hd : OpD X r g) (h : EvE X Wx (mOp g ma mb) σ H Q) : tOp r (EvE X Wx ma) (EvE X Wx mb) σ H Q :=
  Ev.bind h fun env ca w cc v H' he hc d hk => ⟨env, ca, cc, he, hc, KS.bind hk fun u c2 v2 H2 ca2 p hc2 d2 hk2 => by
    split at hk2
    · rename_i x y e1 e2
      split at hk2
      · rename_i z e3
        exact hd hc2 (see_ok hc2 (d.mono p) e1) (see_ok hc2 d2 e2) e3 fun v' H' q1 q2 q3 => hk2.now q1 q2 q3
      · exact hk2.elim
    · exact hk2.elim⟩
theorem pv_op {op : Operator} (ho : OpR X (binaryOp op) r) (hd : OpD X r g) (ha : PEv X Wx a ma) (hb : PEv X Wx b mb) : PEv X Wx (.BinOp a op b pos) (mOp g ma mb) := (pe_op ho ha hb).imp fun _ _ _ h => op_read hd h
theorem pv_cmp {op : CmpOp} (ho : OpR X (compareOp op) r) (hd : OpD X r g) (ha : PEv X Wx a ma) (hb : PEv X Wx b mb) (hm : behindInMarks op b = false) : PEv X Wx (.Compare a [op] [b] pos) (mOp g ma mb) := (pe_cmpR ho ha hb hm).imp fun _ _ _ h => op_read hd h
theorem tv_cmp {op : CmpOp} (ho : OpR X (compareOp op) r) (hd : OpD X r g) (ha : PEv X Wx a ma) (hb : PEv X Wx b mb) (hm : behindInMarks op b = false) : PTv X Wx (.Compare a [op] [b] pos) (mT (mOp g ma mb)) :=
  (pt_cmpR ho ha hb hm).imp fun _ _ _ h => op_read hd (EvB.of h)
end
section
variable {X : Cx}
theorem opd_of {r : R2} {g : D → D → Option D} (h : ∀ {ca : Ca} {H : Hp} {x y z : D} {v u : V} {Q : VK}, DenT X.wd X.mg ca H x v → DenT X.wd X.mg ca H y u → g x y = some z → (∀ v', (∀ ca : Ca, DenD X.wd X.mg (Live ca) H z v') → Q v' H) → r v u H Q) : OpD X r g :=
  fun hc dx dy e k => h dx dy e fun v' d => k v' _ (Stp.refl _ _) hc (d _)
theorem opd_eq : OpD X (rEqD X.K) dEq := opd_of fun {ca H x y z v u Q} dx dy e k => by
  unfold dEq dEqB at e
  split at e
  · rename_i hh
    cases e
    have h1 := cmpD_ok hh.1
    have h2 := cmpD_ok hh.2
    refine ⟨_, _, dp_t dx h1.1, dp_t dy h2.1, h1.2, h2.2, ?_⟩
    rw [eqD_ok _ _ h1.1 h2.1]
    exact k _ fun _ => rfl
  · cases e
theorem opd_ne : OpD X (rNeD X.K) dNe := opd_of fun {ca H x y z v u Q} dx dy e k => by
  unfold dNe dEqB at e
  split at e
  · rename_i hh
    cases e
    have h1 := cmpD_ok hh.1
    have h2 := cmpD_ok hh.2
    refine ⟨_, _, dp_t dx h1.1, dp_t dy h2.1, h1.2, h2.2, ?_⟩
    rw [eqD_ok _ _ h1.1 h2.1]
    exact k _ fun _ => rfl
  · cases e
/-- x in y: texts; a list, a tuple of data; a dict with such keys -/
def rInA (K : Wd) (mg : Str → Option Value) (neg : Bool) : R2 := fun x y H Q => rNIn K mg neg x y H Q ∨ (∃ i j, x = .str i ∧ y = .str j ∧ Q (.bl (neg != !(Builtin.Str.occurrences j i 0 j.length 1).isEmpty)) H) ∨
  (∃ d ds, Dp K H x d ∧ (Dp K H y (.list ds) ∨ Dp K H y (.tuple ds)) ∧ SeqAt.shaped d = true ∧ PyData.canLayAll0 ds = true ∧ Q (.bl (neg != ds.any fun z => PyData.eqv z d)) H)
theorem op_inA (hu : X.A.units + 65 < cLine) : OpR X (compareOp .In) (rInA X.wd X.mg false) := by
  rintro pins s σ H x y v u Q I rx ry h
  rcases h with h | ⟨i, j, e1, e2, q⟩ | ⟨d, ds, hd, he, sd, sl, q⟩
  · exact op_inN hu pins s σ H x y v u Q I rx ry h
  · exact op_in_str pins s σ H x y v u Q I rx ry ⟨i, j, e1, e2, by simpa using q⟩
  · obtain ⟨as, r1⟩ := Dp.reads I d x v hd rx
    rcases he with he | he
    · obtain ⟨bs, r2⟩ := Dp.reads I (.list ds) y u he ry
      exact SeqAt.in_list_reads r2 r1 sl (SeqAt.canLay_of_shaped sd) (room_in_shaped sd hu) ⟨.bl _, H, I, rfl, by simpa using q⟩
    · obtain ⟨bs, r2⟩ := Dp.reads I (.tuple ds) y u he ry
      exact SeqAt.in_tuple_reads r2 r1 sl (SeqAt.canLay_of_shaped sd) (room_in_shaped sd hu) ⟨.bl _, H, I, rfl, by simpa using q⟩
theorem look_any {α : Type} (k : Key) : ∀ {ks : List D} {vs : List α}, ks.length = vs.length → (look ks vs k).isSome = ks.any fun z => isKey z k
  | [], [], _ => rfl
  | x :: ks, v :: vs, h => by
    rw [look, List.any_cons]
    cases q : isKey x k with
    | true => rw [if_pos rfl, Bool.true_or]; rfl
    | false => rw [if_neg Bool.false_ne_true, Bool.false_or, look_any k (by simpa using h)]
theorem inA_of {ca : Ca} {cc : Cs} {H : Hp} {x y : D} {b neg : Bool} {v u : V} {Q : VK} (hc : CsOk X.wd X.mg ca H cc) (dx : DenT X.wd X.mg ca H x v) (dy : DenT X.wd X.mg ca H y u) (e : dIn0 x y = some b) (k : Q (.bl (neg != b)) H) : rInA X.wd X.mg neg v u H Q := by
  unfold dIn0 at e
  split at e
  · rename_i i j
    cases e
    rw [inStr_eq] at k
    exact .inr (.inl ⟨i, j, dx, dy, k⟩)
  · split at e
    · rename_i hh
      cases e
      have h1 := cmpD_ok hh.1
      have h2 := cmpD_ok hh.2
      rw [← any_eqD (by simpa [isPy] using h2.1) h1.1] at k
      exact .inr (.inr ⟨_, _, dp_t dx h1.1, .inl (dp_t dy h2.1), h1.2, by simpa [PyData.canLay0, py] using SeqAt.canLay_of_shaped h2.2, k⟩)
    · cases e
  · split at e
    · rename_i hh
      cases e
      have h1 := cmpD_ok hh.1
      have h2 := cmpD_ok hh.2
      rw [← any_eqD (by simpa [isPy] using h2.1) h1.1] at k
      exact .inr (.inr ⟨_, _, dp_t dx h1.1, .inr (dp_t dy h2.1), h1.2, by simpa [PyData.canLay0, py] using SeqAt.canLay_of_shaped h2.2, k⟩)
    · cases e
  · rename_i ks ds
    split at e
    · rename_i hl
      obtain ⟨kk, hk, rfl⟩ := Option.map_eq_some_iff.mp e
      obtain ⟨rfl, rfl⟩ := asKey_ok hk dx
      obtain ⟨a, us, rfl, ⟨kvs, h1, h2, h3⟩, h4⟩ := dy
      refine .inl (.inl ⟨a, _, rfl, DGet.k h1, ?_⟩)
      have e2 := look_kv kk kvs
      rw [h2, h3] at e2
      rw [← e2, look_any kk (by rw [h4.length, hl])]
      exact k
    · cases e
  · rename_i ks ds
    obtain ⟨kk, hk, rfl⟩ := Option.map_eq_some_iff.mp e
    obtain ⟨a, us, rfl, n, _⟩ := dy
    exact .inl (.inr ⟨a, ca, Live ca, ks, us, x, kk, rfl, n, hk, key_back hc hk dx, k⟩)
  · cases e
theorem opd_in : OpD X (rInA X.wd X.mg false) dIn := fun {ca cc H x y z v u Q} hc dx dy e k => by
  unfold dIn at e
  cases q : dIn0 x y with
  | none => rw [q] at e; exact nomatch e
  | some b =>
    rw [q] at e
    cases e
    exact inA_of hc dx dy q (by simpa using k (.bl b) H (Stp.refl _ _) hc rfl)
/-- + of numbers, texts, tuples, lists -/
def rAddA (K : PySem.W.Frag) : R2 := fun x y H Q => (rI0 fun i j => .int (i + j)) x y H Q ∨ (fun x y H Q => ∃ i j, x = V.str i ∧ y = V.str j ∧ i.length + j.length ≤ sizeLine ∧ Q (.str (i ++ j)) H) x y H Q ∨ rCatA K x y H Q ∨ rCat x y H Q
theorem op_addA : OpR X (binaryOp .Add) (rAddA X.K) := op_add.or (op_add_str.or (op_catA.or op_cat))
theorem opd_add : OpD X (rAddA X.K) dAdd := fun {ca cc H x y z v u Q} hc dx dy e k => by
  unfold dAdd at e
  split at e
  · rename_i i j
    cases e
    exact .inl ⟨i, j, dx, dy, k _ _ (Stp.refl _ _) hc rfl⟩
  · rename_i i j
    split at e
    · rename_i hl
      cases e
      exact .inr (.inl ⟨i, j, dx, dy, cap_ok hl, k _ _ (Stp.refl _ _) hc rfl⟩)
    · cases e
  · rename_i i j
    split at e
    · rename_i hl
      cases e
      obtain ⟨a, vs, rfl, h1, h2⟩ := dx
      obtain ⟨b, us, rfl, h3, h4⟩ := dy
      have back := @tup_back X.wd X.mg ca H cc hc
      refine .inr (.inr (.inl ⟨a, b, vs, us, rfl, rfl, h1.sq, h3.sq, cap_ok (by rw [h2.length, h4.length]; exact hl), fun e => ?_, fun n e => ?_, fun n1 n2 p hp => ?_⟩))
      · subst e
        have e1 : i = [] := by have := h2.length; simpa using this.symm
        subst e1
        exact k _ _ (Stp.refl _ _) hc (back h3 h4)
      · subst e
        have e1 : j = [] := by have := h4.length; simpa using this.symm
        subst e1
        exact k _ _ (Stp.refl _ _) hc (by simpa using back h1 h2)
      · exact k _ _ (Stp.new hc hp) (hc.new hp) (den_tup_new hc (h2.append h4) hp)
    · cases e
  · rename_i i j
    split at e
    · rename_i hl
      cases e
      obtain ⟨a, vs, rfl, h1, h2⟩ := dx
      obtain ⟨b, us, rfl, h3, h4⟩ := dy
      exact .inr (.inr (.inr ⟨a, b, vs, us, rfl, rfl, h1, h3, cap_ok (by rw [h2.length, h4.length]; exact hl), fun p hp => k _ _ (Stp.new hc hp) (hc.new hp) (den_lst_new hc (h2.append h4) hp)⟩))
    · cases e
  · cases e
end
end DL
set_option Elab.async false
set_option linter.all false
set_option maxRecDepth 100000
set_option maxHeartbeats 1900000
/-! DL4: subscripts, slices, dicts, built-ins. -/
namespace DL
open L2 PyProof.Rows PySem PySem.Spec

/-! ### subscripts -/
def dIx : D → D → Option D
  | .lst ds, .int i => atI ds i
  | .tup ds, .int i => atI ds i
  | .scr ds, .int i => atI ds i
  | .str x, .int i => if x.length ≤ CAP then (atI x.cps.toList i).map fun c => .str ⟨#[c]⟩ else none
  | .dct ks ds, y => match asKey y with
    | some k => look ks ds k
    | none => none
  | .dkv ks ds, y => match tk y with
    | some k => lookN ks ds k
    | none => none
  | _, _ => none
/-- a subscript: an item may be a changing thing -/
def wIx (cc : Cs) (w u : W) : Option W := match w, see cc u with
  | .cell n, some y => match cc[n]? with
    | some (some (.dct ks ws)) => match asKey y with
      | some k => look ks ws k
      | none => none
    | some (some (.lst ds)) => (dIx (.lst ds) y).map .d
    | some (some (.dkv ks ws)) => match tk y with
      | some k => lookN ks ws k
      | none => none
    | _ => none
  | .d x, some y => (dIx x y).map .d
  | _, none => none
def mIx (a b : ME) : ME := fun env cc => (a env cc).bind fun w c => (b env c).bind fun u c2 => match wIx c2 w u with
  | some r => .ok r c2
  | none => .stuck
def rDG : R2 := fun x y H Q => ∃ a v, x = .ref a ∧ DGet H a y (some v) ∧ Q v H
theorem atI_den {K : Wd} {mg : Str → Option Value} {L : Addr → Prop} {H : Hp} {ds : List D} {vs : List V} {i : Int} {x : D} (d : DenL K mg L H ds vs) (e : atI ds i = some x) : ∃ v, atI vs i = some v ∧ DenD K mg L H x v := by
  unfold atI at e ⊢
  rw [d.length]
  cases q : ixN ds.length i with
  | none => rw [q] at e; exact nomatch e
  | some j =>
    rw [q] at e
    exact d.get e
section
variable {X : Cx} {Wx : WX} {a b : Expr} {ma mb : ME} {pos : Pos}
theorem ix_dict (hu : X.A.units + 1 < cLine) : IxR X rDG := by
  rintro value slice pins s σ H x y v u Q I rx ry h hs
  obtain ⟨a, w, rfl, g, q⟩ := h
  cases rx
  exact tail_any (ops := [.ref a, u]) (dict_typeIs I g) PySem.F.slot_dict_getitem.lookup (d_getItem hu I g ry fun w' s3 I3 rw' => ⟨w, H, I3, rw', q⟩) hs
def rIxA (K : Wd) (mg : Str → Option Value) : R2 := fun x y H Q => rIx K x y H Q ∨ rDG x y H Q ∨ rNG K mg x y H Q
theorem ix_all (hu : X.A.units + 65 < cLine) : IxR X (rIxA X.wd X.mg) := ix_seq.or ((ix_dict (by omega)).or (ix_nest hu))
theorem dget_of {H : Hp} {a : Addr} {ks : List D} {vs : List V} {k : Key} {v : V} {kvs : List (Key × V)} (h : H a = some (.dK kvs)) (hk : kvs.map (fun p => keyD p.1) = ks) (hv : kvs.map (·.2) = vs) (e : look ks vs k = some v) : DGet H a (kV k) (some v) := by
  subst hk hv
  rw [look_kv] at e
  rw [← e]
  exact DGet.k h
theorem dIx_ok {ca : Ca} {cc : Cs} {H : Hp} {x y z : D} {v u : V} {Q : VK} (hc : CsOk X.wd X.mg ca H cc) (dx : DenT X.wd X.mg ca H x v) (dy : DenT X.wd X.mg ca H y u) (e : dIx x y = some z) (k : ∀ v', DenD X.wd X.mg (Live ca) H z v' → Q v' H) : rIxA X.wd X.mg v u H Q := by
  unfold dIx at e
  split at e
  · rename_i ds i
    obtain ⟨a, vs, rfl, h1, h2⟩ := dx
    obtain ⟨v', e1, d1⟩ := atI_den h2 e
    exact .inl (.inl ⟨a, vs, i, v', rfl, dy, SqL.of h1, e1, k _ d1⟩)
  · rename_i ds i
    obtain ⟨a, vs, rfl, h1, h2⟩ := dx
    obtain ⟨v', e1, d1⟩ := atI_den h2 e
    exact .inl (.inr (.inl ⟨a, vs, i, v', rfl, dy, h1.sq, e1, k _ d1⟩))
  · rename_i ds i
    have dx' : DenD X.wd X.mg (Live ca) H (.scr ds) v := dx
    simp only [DenD] at dx'
    obtain ⟨a, vs, rfl, h1, h2⟩ := dx'
    obtain ⟨v', e1, d1⟩ := atI_den h2 e
    exact .inl (.inl ⟨a, vs, i, v', rfl, dy, lst_sq h1, e1, k _ d1⟩)
  · rename_i w i
    split at e
    · rename_i hl
      cases q : atI w.cps.toList i with
      | none => rw [q] at e; exact nomatch e
      | some c =>
        rw [q] at e
        cases e
        exact .inl (.inr (.inr ⟨w, i, c, dx, dy, cap_ok hl, q, k _ rfl⟩))
    · cases e
  · rename_i ks ds _
    split at e
    · rename_i kk hk
      obtain ⟨rfl, rfl⟩ := asKey_ok hk dy
      obtain ⟨a, vs, rfl, ⟨kvs, h1, h2, h3⟩, h4⟩ := dx
      obtain ⟨v', e1, d1⟩ := look_denL h4 e
      exact .inr (.inl ⟨a, v', rfl, dget_of h1 h2 h3 e1, k _ d1⟩)
    · cases e
  · rename_i ks ds yy
    split at e
    · rename_i kk hk
      obtain ⟨a, vs, rfl, n, h4⟩ := dx
      obtain ⟨v', e1, d1⟩ := lookN_denL h4 e
      exact .inr (.inr ⟨a, ca, Live ca, _, vs, _, kk, v', rfl, n, hk, key_back hc hk dy, e1, k _ d1⟩)
    · cases e
  · cases e
theorem pv_ix (hu : X.A.units + 65 < cLine) (ha : PEv X Wx a ma) (hb : PEv X Wx b mb) (hs : PlainIx b := by intro _ _; rfl) : PEv X Wx (.Subscript a b pos) (mIx ma mb) := (pe_ix (ix_all hu) ha hb hs).imp fun σ H Q h =>
  Ev.bind h fun env ca w cc v H' he hc d hk => ⟨env, ca, cc, he, hc, KS.bind hk fun u c2 v2 H2 ca2 p hc2 d2 hk2 => by
    have d1 := d.mono p
    split at hk2
    · rename_i r e
      unfold wIx at e
      split at e
      · rename_i n y e1
        have dy := see_ok hc2 d2 e1
        split at e
        · rename_i ks ws e2
          split at e
          · rename_i kk hkk
            obtain ⟨rfl, rfl⟩ := asKey_ok hkk dy
            obtain ⟨a, ha, rfl, kvs, h3, h4, h5⟩ := cell_at hc2 d1 e2
            obtain ⟨v', e3, d3⟩ := look_denW h5 e
            exact .inr (.inl ⟨a, v', rfl, dget_of h3 h4 rfl e3, hk2.now (Stp.refl _ _) hc2 d3⟩)
          · cases e
        · rename_i ds e2
          cases q : dIx (.lst ds) y with
          | none => rw [q] at e; exact nomatch e
          | some z =>
            rw [q] at e
            cases e
            exact dIx_ok hc2 (see_ok hc2 d1 (by simp [see, e2])) dy q fun v' d' => hk2.now (Stp.refl _ _) hc2 d'
        · rename_i ks ws e2
          split at e
          · rename_i kk hkk
            obtain ⟨a, ha, rfl, vs, n, h5⟩ := cell_at hc2 d1 e2
            obtain ⟨v', e3, d3⟩ := lookN_denW h5 e
            exact .inr (.inr ⟨a, ca2, Live ca2, ks, vs, y, kk, v', rfl, n, hkk, key_back hc2 hkk dy, e3, hk2.now (Stp.refl _ _) hc2 d3⟩)
          · cases e
        · cases e
      · rename_i x y e1
        cases q : dIx x y with
        | none => rw [q] at e; exact nomatch e
        | some z =>
          rw [q] at e
          cases e
          exact dIx_ok hc2 (DenD.t d1) (see_ok hc2 d2 e1) q fun v' d' => hk2.now (Stp.refl _ _) hc2 d'
      · cases e
    · exact hk2.elim⟩
end

/-! ### slices -/
abbrev MO := Env → M (Option Int)
section
variable {X : Cx} {Wx : WX} {e : Expr} {lo hi : Option Expr} {m : ME} {ml mh : MO} {pos p2 : Pos}
theorem _root_.L2.PO.imp {X : Cx} {e : Option Expr} {t t' : TO} (h : PO X e t) (i : ∀ σ H Q, t' σ H Q → t σ H Q) : PO X e t' := ⟨fun pins s σ H Q I q => h.run pins s σ H Q I (i σ H Q q)⟩
end

/-! ### built-ins, by data -/
def seeAll (cc : Cs) : List W → Option (List D)
  | [] => some []
  | w :: ws => match see cc w, seeAll cc ws with
    | some x, some xs => some (x :: xs)
    | _, _ => none
def DenTs (K : Wd) (mg : Str → Option Value) (ca : Ca) (H : Hp) : List D → List V → Prop
  | [], vs => vs = []
  | x :: xs, vs => ∃ v vr, vs = v :: vr ∧ DenT K mg ca H x v ∧ DenTs K mg ca H xs vr
theorem seeAll_ok {K : Wd} {mg : Str → Option Value} {ca : Ca} {H : Hp} {cc : Cs} (hc : CsOk K mg ca H cc) : ∀ {ws : List W} {xs : List D} {vs : List V}, DenWs K mg ca H ws vs → seeAll cc ws = some xs → DenTs K mg ca H xs vs
  | [], xs, vs, d, e => by
    simp only [seeAll, Option.some.injEq] at e
    subst e
    exact d
  | w :: ws, xs, vs, d, e => by
    obtain ⟨v, vr, rfl, d1, d2⟩ := d
    simp only [seeAll] at e
    split at e
    · rename_i x xs' e1 e2
      cases e
      exact ⟨v, vr, rfl, see_ok hc d1 e1, seeAll_ok hc d2 e2⟩
    · cases e
def CallD (X : Cx) (r : List V → Hp → VK → Prop) (g : List D → Option D) : Prop :=
  ∀ {ca : Ca} {cc : Cs} {H : Hp} {xs : List D} {z : D} {vs : List V} {Q : VK}, CsOk X.wd X.mg ca H cc → DenTs X.wd X.mg ca H xs vs → g xs = some z →
    (∀ v' H', Stp ca H ca H' → CsOk X.wd X.mg ca H' cc → DenD X.wd X.mg (Live ca) H' z v' → Q v' H') → r vs H Q
def mB (g : List D → Option D) (r : Env → M (List W)) : ME := fun env cc => (r env cc).bind fun ws c => match seeAll c ws with
  | some xs => match g xs with
    | some z => .ok (.d z) c
    | none => .stuck
  | none => .stuck
section
variable {X : Cx} {Wx : WX} {x : Str} {p pos : Pos} {e : Expr} {es : List Expr} {r : Env → M (List W)} {id T : String} {rc : List V → Hp → VK → Prop} {g : List D → Option D}
theorem b_read {σ : L2.St} {H : Hp} {Q : VK} (hd : CallD X rc g) (h : EvE X Wx (mB g r) σ H Q) : tCB rc (EvA X Wx r) σ H Q :=
  Ev.bind h fun env ca ws cc vs H' he hc d hk => by
    split at hk
    · rename_i xs e1
      split at hk
      · rename_i z e2
        exact hd hc (seeAll_ok hc d e1) e2 fun v' H' q1 q2 q3 => hk.now q1 q2 q3
      · exact hk.elim
    · exact hk.elim
theorem pv_callB (hc : CallR X (.builtin id) rc) (hd : CallD X rc g) (hg : Gl X x) (hm : X.mg x = none) (hv : bootBuiltins x = some (.builtin id)) (ha : PAv X Wx (e :: es) r) (hn : x ≠ "__name__" := by decide) (hdb : (x == ("__debug__" : Str)) = false := by decide)
    (he : ArgAt X e es := by rfl) (hpl : FlatAt X pos es := by rfl) : PEv X Wx (.Call (.Name x p) (e :: es) [] pos) (mB g r) :=
  (pe_callB hc hg hm hv ha hn hdb he hpl).imp fun _ _ _ h => b_read hd h
theorem d1 {K : Wd} {mg : Str → Option Value} {ca : Ca} {H : Hp} {x : D} {vs : List V} (d : DenTs K mg ca H [x] vs) : ∃ v, vs = [v] ∧ DenT K mg ca H x v := by
  obtain ⟨v, vr, rfl, d1, d2⟩ := d
  have e : vr = [] := d2
  exact ⟨v, by rw [e], d1⟩
theorem d2 {K : Wd} {mg : Str → Option Value} {ca : Ca} {H : Hp} {x y : D} {vs : List V} (d : DenTs K mg ca H [x, y] vs) : ∃ v u, vs = [v, u] ∧ DenT K mg ca H x v ∧ DenT K mg ca H y u := by
  obtain ⟨v, vr, rfl, h1, h2⟩ := d
  obtain ⟨u, rfl, h3⟩ := d1 h2
  exact ⟨v, u, rfl, h1, h3⟩
/-- len -/
theorem _root_.PySem.wpAny_len_body_raw {prog : Program} {w : World} {A : Around} {E : Value → Shared → Prop} {s : Shared} {d : Addr} {es : Array DictEntry} {ep : Nat} {Q : Value → Shared → Prop} (hd : (d == sysModules) = false) (hm : s.heap.DictRaw d es ep) (hfit : (es.size : Int) < 2 ^ 63)
    (h : Q (.int es.size (s.toks + 1)) { s with toks := s.toks + 1 + 1 }) : wpAny (model prog w) A (Builtin.«len» ⟨[.ref d], []⟩) (fun fin s' => ∃ r, fin = .done (.ret r) ∧ Q r s') E s := by
  obtain ⟨o, at_d, cls, more⟩ := id hm
  have isD : s.TypeIs (.ref d) "dict" := ⟨o, at_d, cls.1⟩
  unfold Builtin.«len»
  apply wpAny_bind (m := oneArg "len" _); apply wpAny_pure
  apply wpAny_bind (m := callSpecial? (.ref d) (Str.ofString "__len__"))
  apply wpAny_callSpecial?_slot (name := Str.ofString "__len__") isD PySem.F.slot_dict_len
  apply call_meetsIn PySem.F.slot_dict_len isD PySem.F.entry_dict_len (PySem.F.args_dict_len_1 _) (meets_dict_len_raw d hd)
  refine ⟨es, ep, hm, show wpAny _ _ _ _ _ ⟨s.heap, s.gens, s.drawn, s.toks + 1, s.os⟩ from ?_⟩
  apply wpAny_bind; apply wpAny_holding; apply wpAny_pure
  apply wpAny_bind; apply wpAny_letGo
  have nn : ¬ ((es.size : Nat) : Int) < 0 := by omega
  have fits : ¬ ((es.size : Nat) : Int) ≥ 2 ^ 63 := by omega
  simp only [nn, fits, if_false]
  apply wpAny_bind; apply wpAny_mkInt
  exact wpAny_pure ⟨_, rfl, h⟩
def dLen : List D → Option D
  | [.lst ds] => some (.int ds.length)
  | [.tup ds] => some (.int ds.length)
  | [.scr ds] => some (.int ds.length)
  | [.dct ks _] => some (.int ks.length)
  | [.dkn n] => some (.int n)
  | [.str x] => if x.length ≤ CAP then some (.int x.length) else none
  | _ => none
def rLenA (K : PySem.W.Frag) : List V → Hp → VK → Prop := fun xs H Q => (∃ p ys, xs = [.ref p] ∧ (SqL K H p ys ∨ SqT K H p ys) ∧ Q (.int ys.length) H) ∨ (∃ z, xs = [.str z] ∧ z.length ≤ sizeLine ∧ Q (.int z.length) H) ∨ (∃ a kvs, xs = [.ref a] ∧ H a = some (.dK kvs) ∧ Q (.int kvs.length) H) ∨ (∃ a es, xs = [.ref a] ∧ H a = some (RawD a es) ∧ Q (.int es.length) H)
theorem call_lenA : CallR X (.builtin "len") (rLenA X.K) := by
  rintro pins s σ H xs us Q I r h
  rcases h with h | h | ⟨a, kvs, rfl, h, q⟩ | ⟨a, es, rfl, h, q⟩
  · exact call_len_seq pins s σ H xs us Q I r h
  · exact call_len_str pins s σ H xs us Q I r h
  · obtain ⟨u, rfl, r1⟩ := (vals1 r)
    cases r1
    exact d_len I (.inl h) fun t s' I' => ⟨.int kvs.length, H, I', ⟨t, rfl⟩, q⟩
  · obtain ⟨u, rfl, r1⟩ := (vals1 r)
    cases r1
    obtain ⟨⟨hm, hz, o, ep, h1, h2, h3⟩, _, _⟩ := (show ObjOk X.prog X.w H s.heap a (RawD a es) from I.hok a _ h)
    refine Calls.call_function_entry kind_len plain_len entry_len (args_len1 _) (PySem.wpAny_len_body_raw hm ⟨o, h1, h2, h3⟩ (by rw [sizeLine_eq] at hz; simp; omega) ?_)
    exact ⟨.int es.length, H, I.tok _, ⟨s.toks + 1, by simp⟩, q⟩
theorem bd_len : CallD X (rLenA X.K) dLen := fun {ca cc H xs z vs Q} hc d e k => by
  unfold dLen at e
  split at e
  · cases e
    obtain ⟨v, rfl, a, vs, rfl, h1, h2⟩ := d1 d
    exact .inl ⟨a, vs, rfl, .inl (SqL.of h1), k _ _ (Stp.refl _ _) hc (by rw [h2.length]; rfl)⟩
  · cases e
    obtain ⟨v, rfl, a, vs, rfl, h1, h2⟩ := d1 d
    exact .inl ⟨a, vs, rfl, .inr h1.sq, k _ _ (Stp.refl _ _) hc (by rw [h2.length]; rfl)⟩
  · rename_i ds
    cases e
    obtain ⟨v, rfl, dx⟩ := d1 d
    have dx' : DenD X.wd X.mg (Live ca) H (.scr ds) v := dx
    simp only [DenD] at dx'
    obtain ⟨a, vs, rfl, h1, h2⟩ := dx'
    exact .inl ⟨a, vs, rfl, .inl (lst_sq h1), k _ _ (Stp.refl _ _) hc (by rw [h2.length]; rfl)⟩
  · cases e
    obtain ⟨v, rfl, a, vs, rfl, ⟨kvs, h1, h2, h3⟩, h4⟩ := d1 d
    exact .inr (.inr (.inl ⟨a, kvs, rfl, h1, k _ _ (Stp.refl _ _) hc (by rw [← h2]; simp [DenD])⟩))
  · cases e
    obtain ⟨v, rfl, dx⟩ := d1 d
    have dx' : DenD X.wd X.mg (Live ca) H (.dkn _) v := dx
    simp only [DenD] at dx'
    obtain ⟨a, es, rfl, _, h1, h2⟩ := dx'
    exact .inr (.inr (.inr ⟨a, es, rfl, h1, k _ _ (Stp.refl _ _) hc (by rw [h2]; rfl)⟩))
  · split at e
    · rename_i hl
      cases e
      obtain ⟨v, rfl, dx⟩ := d1 d
      cases (show v = .str _ from dx)
      exact .inr (.inl ⟨_, rfl, cap_ok hl, k _ _ (Stp.refl _ _) hc rfl⟩)
    · cases e
  · cases e
/-- the classes that are asked for -/
inductive Kd where | int | str | bool | tuple | list | dict
def Kd.name : Kd → String
  | .int => "int" | .str => "str" | .bool => "bool" | .tuple => "tuple" | .list => "list" | .dict => "dict"
def isK : Kd → D → Option Bool
  | .int, .int _ => some true
  | .int, .bl _ => some true
  | .str, .str _ => some true
  | .bool, .bl _ => some true
  | .tuple, .tup _ => some true
  | .list, .lst _ => some true
  | .dict, .dct _ _ => some true
  | _, .obj _ _ _ => none
  | _, .dkn _ => none
  | _, .dkv _ _ => none
  | _, .exc _ _ _ => none
  | _, .glo _ => none
  | _, .ty _ => none
  | _, .scr _ => none
  | _, _ => some false
end
end DL
set_option Elab.async false
set_option linter.all false
set_option maxRecDepth 100000
set_option maxHeartbeats 1900000
/-! DL5: targets, loops, comprehensions. -/
namespace DL
open L2 PyProof.Rows PySem PySem.Spec

/-! ### targets -/
abbrev Tg := W → Env → Cs → Option Env
abbrev Tgs := List W → Env → Cs → Option Env
/-- only the slots js were stored -/
def But (js : List Nat) (σ σ' : L2.St) : Prop := σ'.length = σ.length ∧ ∀ j, j ∉ js → σ'[j]? = σ[j]?
theorem But.refl (js : List Nat) (σ : L2.St) : But js σ σ := ⟨rfl, fun _ _ => rfl⟩
theorem But.trans {a b : List Nat} {σ σ1 σ2 : L2.St} (p : But a σ σ1) (q : But b σ1 σ2) : But (a ++ b) σ σ2 :=
  ⟨q.1.trans p.1, fun j h => (q.2 j fun z => h (List.mem_append_right _ z)).trans (p.2 j fun z => h (List.mem_append_left _ z))⟩
theorem wipe_get {σ : L2.St} {j : Nat} : ∀ {vs : List Nat}, (wipe σ vs)[j]? = if j ∈ vs ∧ j < σ.length then some none else σ[j]?
  | [] => by simp [wipe]
  | v :: vs => by
    unfold wipe
    by_cases e : v = j
    · subst e
      by_cases hl : v < σ.length
      · rw [List.getElem?_set_self (by rw [wipe_length]; exact hl), if_pos ⟨List.mem_cons_self, hl⟩]
      · rw [List.getElem?_eq_none (by rw [List.length_set, wipe_length]; omega), if_neg fun z => hl z.2, List.getElem?_eq_none (by omega)]
    · rw [List.getElem?_set_ne e, wipe_get (vs := vs)]
      have h : (j ∈ v :: vs) ↔ j ∈ vs := by simp [List.mem_cons, Ne.symm e]
      simp only [h]
theorem But.wipe {js vs : List Nat} {σ σ' : L2.St} (b : But js σ σ') (h : ∀ j ∈ js, j ∈ vs) : wipe σ' vs = wipe σ vs := by
  apply List.ext_getElem?; intro j
  rw [wipe_get, wipe_get, b.1]
  by_cases hj : j ∈ vs ∧ j < σ.length
  · rw [if_pos hj, if_pos hj]
  · rw [if_neg hj, if_neg hj]
    by_cases hl : j < σ.length
    · exact b.2 j fun z => hj ⟨h j z, hl⟩
    · rw [List.getElem?_eq_none (by rw [b.1]; omega), List.getElem?_eq_none (by omega)]
def EvG (K : Wd) (mg : Str → Option Value) (js : List Nat) (G : Tg) : TG := fun v σ H Q =>
  ∃ env ca cc w env', EnvOk K mg ca H env σ ∧ CsOk K mg ca H cc ∧ DenW K mg ca H w v ∧ G w env cc = some env' ∧ ∀ σ', EnvOk K mg ca H env' σ' → But js σ σ' → Q σ' H
def EvGs (K : Wd) (mg : Str → Option Value) (js : List Nat) (G : Tgs) : TGs := fun vs σ H Q =>
  ∃ env ca cc ws env', EnvOk K mg ca H env σ ∧ CsOk K mg ca H cc ∧ DenWs K mg ca H ws vs ∧ G ws env cc = some env' ∧ ∀ σ', EnvOk K mg ca H env' σ' → But js σ σ' → Q σ' H
abbrev PGv (X : Cx) (tg : Expr) (js : List Nat) (G : Tg) : Prop := PG X tg (EvG X.wd X.mg js G)
abbrev PGsv (X : Cx) (tg : List Expr) (js : List Nat) (G : Tgs) : Prop := PGs X tg (EvGs X.wd X.mg js G)
theorem _root_.L2.PG.imp {X : Cx} {e : Expr} {t t' : TG} (h : PG X e t) (i : ∀ v σ H Q, t' v σ H Q → t v σ H Q) : PG X e t' := ⟨fun pins s σ H v u Q I r q => h.run pins s σ H v u Q I r (i v σ H Q q)⟩
theorem _root_.L2.PGs.imp {X : Cx} {e : List Expr} {t t' : TGs} (h : PGs X e t) (i : ∀ v σ H Q, t' v σ H Q → t v σ H Q) : PGs X e t' := ⟨fun pins s σ H v u Q I r q => h.run pins s σ H v u Q I r (i v σ H Q q)⟩
def gvName (i : Nat) : Tg := fun w env _ => some (env.set i (some w))
def gvNil : Tgs := fun ws env _ => match ws with
  | [] => some env
  | _ => none
def gvCons (a : Tg) (b : Tgs) : Tgs := fun ws env cc => match ws with
  | w :: r => match a w env cc with
    | some env' => b r env' cc
    | none => none
  | [] => none
def gvTup (n : Nat) (b : Tgs) : Tg := fun w env cc => match starOf cc w with
  | some ds => if ds.length = n then b (ds.map .d) env cc else none
  | none => none
section
variable {X : Cx} {pos : Pos}
theorem But.set {σ : L2.St} {i : Nat} {v : Option V} : But [i] σ (σ.set i v) := ⟨by simp, fun j h => List.getElem?_set_ne (fun z => h (by simp [z]))⟩
theorem gg_name {i : Nat} {x : Str} (hN : X.N.Nodup) (hi : X.N[i]? = some x) (hx : Loc X.env.scope x) (hf : X.fn x = true ∨ X.env.scope.names.lookup x = some .local := by first | exact .inl rfl | exact .inr rfl | assumption) : PGv X (.Name x pos) [i] (gvName i) :=
  (pg_name hN hi hx hf).imp fun v σ H Q h => by
    obtain ⟨env, ca, cc, w, env', he, hc, d, e, k⟩ := h
    cases e
    exact k _ (he.set d) But.set
theorem gg_nil : PGsv X [] [] gvNil := pgs_nil.imp fun vs σ H Q h => by
  obtain ⟨env, ca, cc, ws, env', he, hc, d, e, k⟩ := h
  unfold gvNil at e
  split at e
  · cases e
    exact ⟨d, k _ he (But.refl _ _)⟩
  · cases e
theorem gg_cons {e : Expr} {es : List Expr} {js ks : List Nat} {a : Tg} {b : Tgs} (h1 : PGv X e js a) (h2 : PGsv X es ks b) (hs : (assignEach (e :: es) X.env).map (·.2) = assign e X.env :: (assignEach es X.env).map (·.2) := by rfl) : PGsv X (e :: es) (js ++ ks) (gvCons a b) :=
  (pgs_cons h1 h2 hs).imp fun vs σ H Q h => by
    obtain ⟨env, ca, cc, ws, env', he, hc, d, e, k⟩ := h
    unfold gvCons at e
    split at e
    · rename_i w r
      obtain ⟨v, vr, rfl, d1, d2⟩ := d
      split at e
      · rename_i env1 e1
        exact ⟨v, vr, rfl, env, ca, cc, w, env1, he, hc, d1, e1, fun σ1 he1 b1 => ⟨env1, ca, cc, r, env', he1, hc, d2, e, fun σ2 he2 b2 => k σ2 he2 (b1.trans b2)⟩⟩
      · cases e
    · cases e
/-- a tuple or a list goes to several names -/
theorem pg_unA {es : List Expr} {k : Nat} {t : TGs} {n : Nat} (hc : X.calm = true) (h : PGs X es t) (hn : (assignEach es X.env).length = n := by rfl) (hst : (assignEach es X.env).findIdx? (·.1) = none := by rfl) :
    PG X (.Tuple es k pos) (fun v σ H Q => gTup X.K n t v σ H Q ∨ gUnl X.K n t v σ H Q) :=
  ⟨fun pins s σ H v u Q I r hw => hw.elim (fun q => (pg_tup hc h hn hst).run pins s σ H v u Q I r q) fun q => (pg_unl hc h hn hst).run pins s σ H v u Q I r q⟩
theorem gg_tup {es : List Expr} {k : Nat} {js : List Nat} {b : Tgs} {n : Nat} (hc : X.calm = true) (h : PGsv X es js b) (hn : (assignEach es X.env).length = n := by rfl) (hst : (assignEach es X.env).findIdx? (·.1) = none := by rfl) : PGv X (.Tuple es k pos) js (gvTup n b) :=
  (pg_unA hc h hn hst).imp fun v σ H Q h => by
    obtain ⟨env, ca, cc, w, env', he, hc, d, e, k⟩ := h
    unfold gvTup at e
    split at e
    · rename_i ds e1
      obtain ⟨a, vs, rfl, h1, h2⟩ := starOf_ok hc d e1
      split at e
      · rename_i hl
        have q : EvGs X.wd X.mg js b vs σ H Q := ⟨env, ca, cc, _, env', he, hc, h2.ws, e, k⟩
        rcases h1 with h1 | h1
        · exact .inl ⟨a, vs, rfl, h1, h2.length.trans hl, q⟩
        · exact .inr ⟨a, vs, rfl, h1, h2.length.trans hl, q⟩
      · cases e
    · cases e
end

/-! ### what is walked -/
/-- J gives the data xs, one behind the other, from (ca, H) on -/
def ItD (K : Wd) (mg : Str → Option Value) (ca₀ : Ca) (H₀ : Hp) (xs : List D) (J : It) : Prop :=
  ∃ (G : Hp → Prop) (Y : Nat → Hp → V → Hp → Prop), Walk J xs.length G Y ∧ (∀ ca H, Mn ca₀ H₀ ca H → G H) ∧
    ∀ i H v H' ca cc, i < xs.length → Mn ca₀ H₀ ca H → CsOk K mg ca H cc → Y i H v H' → Stp ca H ca H' ∧ CsOk K mg ca H' cc ∧ ∃ d, xs[i]? = some d ∧ DenD K mg (Live ca) H' d v
abbrev denI (K : Wd) (mg : Str → Option Value) : Ca → Hp → List D → It → Prop := fun ca H xs J => ItD K mg ca H xs J
abbrev PIv (X : Cx) (Wx : WX) (tg iter : Expr) (m : Env → M (List D)) : Prop := PI X tg iter (Ev X.wd X.mg (denI X.wd X.mg) Wx m)
theorem _root_.L2.PI.imp {X : Cx} {tg e : Expr} {t t' : TI} (h : PI X tg e t) (i : ∀ σ H Q, t' σ H Q → t σ H Q) : PI X tg e t' := ⟨fun pins s σ H Q I q => h.run pins s σ H Q I (i σ H Q q)⟩
theorem ItD.step {K : Wd} {mg : Str → Option Value} {ca ca' : Ca} {H H' : Hp} {xs : List D} {J : It} (p : Stp ca H ca' H') (h : ItD K mg ca H xs J) : ItD K mg ca' H' xs J := by
  obtain ⟨G, Y, w, g, y⟩ := h
  exact ⟨G, Y, w, fun ca H q => g ca H (p.toMn.trans q), fun i H v H' ca cc hi q => y i H v H' ca cc hi (p.toMn.trans q)⟩
/-- a text's signs -/
def signs (x : Str) : List D := x.cps.toList.map fun c => .str ⟨#[c]⟩
section
variable {K : Wd} {mg : Str → Option Value} {ca : Ca} {H : Hp}
theorem itd_list {a : Addr} {ds : List D} {vs : List V} (n : ¬ Live ca a) (h : H a = some (.lst vs)) (d : DenL K mg (Live ca) H ds vs) : ItD K mg ca H ds (Itl K a) := by
  refine ⟨_, _, by rw [← d.length]; exact walk_list (xs := vs), fun ca' H' p => SqL.of (p.kp a _ h nofun n).1, fun i H1 v H' ca' cc hi p hc y => ?_⟩
  obtain ⟨rfl, y⟩ := y
  obtain ⟨x, hx⟩ : ∃ x, ds[i]? = some x := ⟨_, List.getElem?_eq_getElem hi⟩
  obtain ⟨v', e1, d1⟩ := d.get hx
  rw [y] at e1
  cases e1
  exact ⟨Stp.refl _ _, hc, x, hx, DenD.mono p.kp _ _ d1⟩
theorem itd_tup {a : Addr} {ds : List D} {vs : List V} (h : (¬ Live ca a ∧ H a = some (.tup vs)) ∨ KTup K a vs) (d : DenL K mg (Live ca) H ds vs) : ItD K mg ca H ds (Itt K a) := by
  refine ⟨fun H => SqT K H a vs, _, by rw [← d.length]; exact walk_tup (xs := vs), fun ca' H' p => h.elim (fun z => Or.inl (.inl (p.kp a _ z.2 nofun z.1).1)) Or.inr, fun i H1 v H' ca' cc hi p hc y => ?_⟩
  obtain ⟨rfl, y⟩ := y
  obtain ⟨x, hx⟩ : ∃ x, ds[i]? = some x := ⟨_, List.getElem?_eq_getElem hi⟩
  obtain ⟨v', e1, d1⟩ := d.get hx
  rw [y] at e1
  cases e1
  exact ⟨Stp.refl _ _, hc, x, hx, DenD.mono p.kp _ _ d1⟩
theorem itd_str {z : Str} : ItD K mg ca H (signs z) (Its z) := by
  refine ⟨_, _, by simp only [signs, List.length_map, Array.length_toList]; exact walk_str, fun _ _ _ => True.intro, fun i H1 v H' ca' cc hi p hc y => ?_⟩
  obtain ⟨rfl, c, h1, rfl⟩ := y
  exact ⟨Stp.refl _ _, hc, .str ⟨#[c]⟩, by simp [signs, h1], rfl⟩
theorem itd_range {lo : Int} {n : Nat} : ItD K mg ca H ((List.range n).map fun i : Nat => D.int (lo + (i : Int))) (Itr lo n) := by
  refine ⟨_, _, by simp only [List.length_map, List.length_range]; exact walk_range, fun _ _ _ => True.intro, fun i H1 v H' ca' cc hi p hc y => ?_⟩
  obtain ⟨rfl, rfl⟩ := y
  have hi' : i < n := by simpa using hi
  exact ⟨Stp.refl _ _, hc, .int (lo + i), by simp [hi'], rfl⟩
end
/-- the items of what is walked by itself -/
def itemsD : D → Option (List D)
  | .lst ds => some ds
  | .tup ds => some ds
  | .str x => some (signs x)
  | _ => none
def mIt (m : ME) : Env → M (List D) := fun env cc => (m env cc).bind fun w c => match w with
  | .d x => match itemsD x with
    | some ds => .ok ds c
    | none => .stuck
  | .cell _ => .stuck
section
variable {X : Cx} {Wx : WX} {tg e : Expr} {m : ME}
def iAny (K : PySem.W.Frag) (tl : TE) : TI := fun σ H R => tl σ H fun x H1 => (∃ a, x = .ref a ∧ (∃ xs, SqL K H1 a xs) ∧ R (Itl K a) H1) ∨ (∃ a, x = .ref a ∧ (∃ xs, SqT K H1 a xs) ∧ R (Itt K a) H1) ∨ ∃ z, x = .str z ∧ R (Its z) H1
/-- a fresh iterator at the heap's end may be stepped -/
theorem fresh_fp {pins : List (Addr × Obj)} {σ : L2.St} {H : Hp} {s : Shared} (inv : Inv X pins σ H s) : ∀ b ∈ [s.heap.objs.size], FpOk X pins H b := by
  intro b mem
  rw [List.mem_singleton.mp mem]
  exact inv.fpOk (Nat.le_refl _) (inv.hok.fresh (Nat.le_refl _))
theorem pi_any {tl : TE} (hl : PE X e tl) : PI X tg e (iAny X.K tl) := by
  constructor
  intro pins s σ H R inv left
  apply thn (hl.run pins s σ H _ inv left)
  rintro v s1 ⟨x, H1, I1, r1, ⟨a, rfl, ⟨xs, known⟩, q⟩ | ⟨a, rfl, ⟨xs, known⟩, q⟩ | ⟨z, ex, q⟩⟩
  · cases r1
    obtain ⟨_, _, lay, _⟩ := I1.list known
    apply wpAny_pyIter_list lay.isList
    exact ⟨_, _, _, _, H1, rfl, I1.kept (t' := s1.toks) (fun b o e => Heap.get?_push_of_some _ e), turn_list a _, ⟨_, Heap.get?_push_size _ rfl, rfl, rfl⟩, fresh_fp I1, q⟩
  · cases r1
    obtain ⟨its, _, lay, _⟩ := I1.tuple known
    have isT : s1.heap.IsTuple a its.toArray := lay
    apply wpAny_pyIter_tuple isT
    exact ⟨_, _, _, _, H1, rfl, I1.kept (t' := s1.toks) (fun b o e => Heap.get?_push_of_some _ e), turn_tuple a _, ⟨_, Heap.get?_push_size _ rfl, rfl, rfl⟩, fresh_fp I1, q⟩
  · subst ex
    obtain ⟨t, rfl⟩ := r1
    cases ha : z.cps.all (· < 128)
    · exact wpAny_pyIter_wide ha (pi_one (tk := s1.toks) I1 _ (turn_str _ z t "str_iterator" (.inr rfl)) ⟨_, Heap.get?_push_size _ rfl, rfl, rfl⟩ q)
    · exact wpAny_pyIter_ascii ha (pi_one (tk := s1.toks) I1 _ (turn_str _ z t "str_ascii_iterator" (.inl rfl)) ⟨_, Heap.get?_push_size _ rfl, rfl, rfl⟩ q)
theorem iv_any (h : PEv X Wx e m) : PIv X Wx tg e (mIt m) := (pi_any h).imp fun σ H R h =>
  Ev.bind h fun env ca w cc v H' he hc d hk => by
    split at hk
    · rename_i x
      split at hk
      · rename_i ds e1
        have d' : DenD X.wd X.mg (Live ca) H' x v := d
        unfold itemsD at e1
        split at e1
        · cases e1
          simp only [DenD] at d'
          obtain ⟨a, vs, rfl, n, h1, h2⟩ := d'
          exact .inl ⟨a, rfl, ⟨vs, SqL.of h1⟩, hk.now (Stp.refl _ _) hc (itd_list n h1 h2)⟩
        · cases e1
          simp only [DenD] at d'
          obtain ⟨a, vs, rfl, h1, h2⟩ := d'
          exact .inr (.inl ⟨a, rfl, ⟨vs, TupAt.sq (h1.imp (fun z => z.2) fun z => z)⟩, hk.now (Stp.refl _ _) hc (itd_tup h1 h2)⟩)
        · cases e1
          exact .inr (.inr ⟨_, d', hk.now (Stp.refl _ _) hc itd_str⟩)
        · cases e1
      · exact hk.elim
    · exact hk.elim
/-- range(n), range(m, n) -/
def okR (i : Int) : Bool := decide (-(2 ^ 62) ≤ i ∧ i < 2 ^ 62)
def rangeOf (lo : Int) (n : Nat) : List D := (List.range n).map fun i : Nat => D.int (lo + (i : Int))
def mRng1 (a : ME) : Env → M (List D) := fun env cc => (a env cc).bind fun w c => match w with
  | .d (.int j) => if okR j = true then .ok (rangeOf 0 j.toNat) c else .stuck
  | _ => .stuck
theorem iv_range1 {a : Expr} {ma : ME} {p pos : Pos} (hg : Gl X "range") (hm : X.mg "range" = none) (ha : PEv X Wx a ma) (hst : starEach [a] X.env = [(false, eval a X.env)] := by rfl) : PIv X Wx tg (.Call (.Name "range" p) [a] [] pos) (mRng1 ma) :=
  (pi_range1 hg hm (pa_cons ha pa_nil hst) hst).imp fun σ H R h => Ev.bind h fun env ca w cc v H' he hc d hk => by
    split at hk
    · rename_i j
      split at hk
      · rename_i hl
        have hl' := of_decide_eq_true hl
        exact ⟨j, by rw [show v = .int j from d], hl'.1, hl'.2, hk.now (Stp.refl _ _) hc itd_range⟩
      · exact hk.elim
    · exact hk.elim
end

/-! ### for, while -/
def forL (G : Tg) (b : MS) : List D → Env → Cs → SR
  | [], env, cc => .nx env cc
  | x :: xs, env, cc => match G (.d x) env cc with
    | none => .stuck
    | some env' => match b env' cc with
      | .nx e c => forL G b xs e c
      | .ct e c => forL G b xs e c
      | .bk e c => .nx e c
      | .rt w c => .rt w c
      | .raise x e c => .raise x e c
      | .stuck => .stuck
def sFor (mi : Env → M (List D)) (G : Tg) (b : MS) : MS := fun env cc => (mi env cc).thenS env fun xs c => forL G b xs env c
section
variable {X : Cx} {Wx : WX} {tg iter c : Expr} {body : List Stmt} {mi : Env → M (List D)} {js : List Nat} {G : Tg} {b : MS} {t : Env → M Bool} {pos : Pos}
theorem drop_cons' {α : Type} {xs : List α} {i : Nat} {d : α} (h : xs[i]? = some d) : xs.drop i = d :: xs.drop (i + 1) := by
  obtain ⟨lt, e⟩ := List.getElem?_eq_some_iff.mp h
  rw [List.drop_eq_getElem_cons lt, e]
theorem sv_for (hp : PassesOwn (model X.prog X.w) X.A X.env X.xe) (hc : X.calm = true) (hi : PIv X Wx tg iter mi) (hg : PGv X tg js G) (hb : PSsv X Wx body b) (hs : ∀ x, foldedSetIterable iter X.env x = pure x := by intro _; rfl) :
    PSv X Wx (.For tg iter body [] pos) (sFor mi G b) := (ps_for hp hc hi hg hb hs).imp fun Dn σ H h =>
  EvSt.bind h fun env ca xs cc J H' he hc itd hk => by
    obtain ⟨Gp, Y, w, g, y⟩ := itd
    refine for_it w (fun i σ H => ∃ env1 ca1 cc1, Stp ca H' ca1 H ∧ EnvOk X.wd X.mg ca1 H env1 σ ∧ CsOk X.wd X.mg ca1 H cc1 ∧ KSt X.wd X.mg Wx ca1 H Dn (forL G b (xs.drop i) env1 cc1)) ⟨env, ca, cc, Stp.refl _ _, he, hc, hk⟩
      (fun i σ H _ ⟨_, ca1, _, p, _⟩ => g ca1 H p.toMn) (fun i v σ H H2 hi ⟨env1, ca1, cc1, p, he1, hc1, hk1⟩ yy => ?_) fun σ H ⟨env1, ca1, cc1, p, he1, hc1, hk1⟩ => ?_
    · obtain ⟨p2, hc2, d, hd, dd⟩ := y i H v H2 ca1 cc1 hi p.toMn hc1 yy
      rw [drop_cons' hd] at hk1
      simp only [forL] at hk1
      split at hk1
      · exact hk1.elim
      · rename_i env' e1
        refine ⟨env1, ca1, cc1, .d d, env', he1.mono p2, hc2, dd, e1, fun σ' he' _ => ⟨env', ca1, cc1, he', hc2, ?_⟩⟩
        have hk2 := KSt.step p2 hk1
        cases q : b env' cc1 with
        | nx e c => rw [q] at hk2; exact fun σ'' H3 ca3 p3 he3 hc3 => ⟨e, ca3, c, (p.trans p2).trans p3, he3, hc3, KSt.step p3 hk2⟩
        | ct e c => rw [q] at hk2; exact fun σ'' H3 ca3 p3 he3 hc3 => ⟨e, ca3, c, (p.trans p2).trans p3, he3, hc3, KSt.step p3 hk2⟩
        | bk e c => rw [q] at hk2; exact hk2
        | rt w c => rw [q] at hk2; exact hk2
        | raise x e c => rw [q] at hk2; exact hk2
        | stuck => rw [q] at hk2; exact hk2.elim
    · rw [List.drop_length] at hk1
      exact hk1 σ H ca1 (Stp.refl _ _) he1 hc1
end

/-! ### comprehensions -/
/-- no exception leaves -/
abbrev W0 : WX := fun _ _ _ _ => False
def wipeE (env : Env) : List Nat → Env
  | [] => env
  | v :: vs => (wipeE env vs).set v none
theorem EnvOk.wipe {K : Wd} {mg : Str → Option Value} {ca : Ca} {H : Hp} {env : Env} {σ : L2.St} (h : EnvOk K mg ca H env σ) : ∀ vs : List Nat, EnvOk K mg ca H (wipeE env vs) (wipe σ vs)
  | [] => h
  | v :: vs => (EnvOk.wipe h vs).unset
/-- the turns of a comprehension: what each gives, those left out by the test skipped -/
def lcL (G : Tg) (t : Env → M Bool) (m : ME) (env : Env) : List D → M (List D)
  | [], cc => .ok [] cc
  | x :: xs, cc => match G (.d x) env cc with
    | none => .stuck
    | some env' => match t env' cc with
      | .ok true c1 => match m env' c1 with
        | .ok (.d y) c2 => match lcL G t m env xs c2 with
          | .ok ys c3 => .ok (y :: ys) c3
          | _ => .stuck
        | _ => .stuck
      | .ok false c1 => lcL G t m env xs c1
      | _ => .stuck
def mLc (mi : Env → M (List D)) (vs : List Nat) (G : Tg) (t : Env → M Bool) (m : ME) : ME := fun env cc => (mi env cc).bind fun xs c => match lcL G t m (wipeE env vs) xs c with
  | .ok ys c2 => if xs.length ≤ CAP then .ok (.d (.lst ys)) c2 else .stuck
  | _ => .stuck
abbrev PTsv (X : Cx) (Wx : WX) (es : List Expr) (m : Env → M Bool) : Prop := PTs X es (EvB X Wx m)
def tvYes : Env → M Bool := fun _ cc => .ok true cc
section
variable {X : Cx} {Wx : WX}
theorem _root_.L2.PTs.imp {X : Cx} {e : List Expr} {t t' : TT} (h : PTs X e t) (i : ∀ σ H Q, t' σ H Q → t σ H Q) : PTs X e t' := ⟨fun pins s σ H Q I q => h.run pins s σ H Q I (i σ H Q q)⟩
theorem tsv_nil : PTsv X Wx [] tvYes := pts_nil.imp fun σ H Q h => by
  obtain ⟨env, ca, cc, he, hc, hk⟩ := h
  exact hk.now (Stp.refl _ _) hc rfl
end
/-- with one more address that nobody sees -/
def Ca.hide (ca : Ca) (p : Addr) : Ca := ⟨ca.l, fun a => ca.g a ∨ a = p⟩
section
variable {K : Wd} {mg : Str → Option Value} {ca ca' : Ca} {H H' : Hp} {cc : Cs}
theorem live_hide {p a : Addr} : Live (ca.hide p) a ↔ Live ca a ∨ a = p := by
  unfold Live Ca.hide
  simp only [or_assoc]
/-- the new list is laid, hidden -/
theorem Kp.hide {p : Addr} {o : HO} (hp : H p = none) : Kp (Live ca) H (Live (ca.hide p)) (upd H p o) := fun a u e _ l => ⟨by rw [upd_ne (ne_of_none e hp)]; exact e, fun z => by
  rcases live_hide.mp z with z | z
  · exact l z
  · exact ne_of_none e hp z⟩
theorem Mn.hide {p : Addr} {o : HO} (hp : H p = none) : Mn ca H (ca.hide p) (upd H p o) := ⟨Nat.le_refl _, fun _ _ _ e => e, Kp.hide hp⟩
theorem CsOk.hide {p : Addr} {o : HO} (h : CsOk K mg ca H cc) (hp : H p = none) (mu : Mut (some o)) : CsOk K mg (ca.hide p) (upd H p o) cc := by
  have ne : ∀ {n : Nat} {a : Addr}, ca.l[n]? = some (some a) → a ≠ p := fun e => by
    obtain ⟨u, hu⟩ := h.tracked (Live.of e)
    exact ne_of_none hu hp
  refine ⟨h.len, fun n a e => ?_, h.live, h.inj, fun a g => ?_, fun n a e g => ?_, h.tabs.step (Mn.hide hp).kp (tbl_new hp)⟩
  · obtain ⟨c, e1, d⟩ := h.at_ n a e
    exact ⟨c, e1, d.mn (Mn.hide hp) (upd_ne (ne e))⟩
  · rcases g with g | rfl
    · obtain ⟨u, e, m⟩ := h.gh a g
      exact ⟨u, by rw [upd_ne (ne_of_none e hp)]; exact e, m⟩
    · exact ⟨o, upd_same, mu⟩
  · rcases g with g | g
    · exact h.gd n a e g
    · exact ne e g
/-- a hidden thing is written -/
theorem Mn.gwrite {p : Addr} {o : HO} (g : ca.g p) : Mn ca H ca (upd H p o) := ⟨Nat.le_refl _, fun _ _ _ e => e, fun a u e _ l => ⟨by have ne : a ≠ p := fun z => l (.inr (z ▸ g)); rw [upd_ne ne]; exact e, l⟩⟩
theorem CsOk.gwrite {p : Addr} {o : HO} (h : CsOk K mg ca H cc) (g : ca.g p) (mu : Mut (some o)) : CsOk K mg ca (upd H p o) cc := by
  have tabs : Tbs (tabsK K.K) (Live ca) (upd H p o) := by
    obtain ⟨u, e, m⟩ := h.gh p g
    exact h.tabs.step (Mn.gwrite g).kp (tbl_write e m)
  refine ⟨h.len, fun n a e => ?_, h.live, h.inj, fun a ga => ?_, h.gd, tabs⟩
  · obtain ⟨c, e1, d⟩ := h.at_ n a e
    exact ⟨c, e1, d.mn (Mn.gwrite g) (upd_ne fun z => h.gd n a e (z ▸ g))⟩
  · by_cases e : a = p
    · subst e
      exact ⟨o, upd_same, mu⟩
    · obtain ⟨u, e1, m⟩ := h.gh a ga
      exact ⟨u, by rw [upd_ne e]; exact e1, m⟩
/-- shown again -/
def Ca.back (ca : Ca) (g : Addr → Prop) : Ca := ⟨ca.l, g⟩
theorem live_back {g : Addr → Prop} (hg : ∀ a, g a → ca.g a) {a : Addr} (l : Live (ca.back g) a) : Live ca a := l.imp (fun z => z) (hg a)
theorem Mn.back {g : Addr → Prop} (hg : ∀ a, g a → ca.g a) : Mn ca H (ca.back g) H := ⟨Nat.le_refl _, fun _ _ _ e => e, fun a u e _ l => ⟨e, fun z => l (live_back hg z)⟩⟩
theorem CsOk.back {g : Addr → Prop} (h : CsOk K mg ca H cc) (hg : ∀ a, g a → ca.g a) : CsOk K mg (ca.back g) H cc :=
  ⟨h.len, fun n a e => let ⟨c, e1, d⟩ := h.at_ n a e; ⟨c, e1, d.mn (Mn.back hg) rfl⟩, h.live, h.inj, fun a ga => h.gh a (hg a ga), fun n a e ga => h.gd n a e (hg a ga), h.tabs.step (Mn.back hg).kp fun _ _ z => z⟩
end
theorem wipe_wipe {σ : L2.St} {vs : List Nat} : wipe (wipe σ vs) vs = wipe σ vs := by
  apply List.ext_getElem?; intro j
  rw [wipe_get, wipe_get, wipe_length]
  by_cases h : j ∈ vs ∧ j < σ.length
  · rw [if_pos h, if_pos h]
  · rw [if_neg h, if_neg h]
section
variable {X : Cx} {Wx : WX} {elt tg iter : Expr} {ifs : List Expr} {scope : Scope} {own : List (Str × Nat)} {pos : Pos} {mi : Env → M (List D)} {js : List Nat} {G : Tg} {t : Env → M Bool} {m : ME}
theorem lc_read {σ : L2.St} {H : Hp} {Q : VK} (hjs : ∀ j ∈ js, j ∈ own.map (·.2)) (h : EvE X Wx (mLc mi (own.map (·.2)) G t m) σ H Q) :
    tLc (Ev X.wd X.mg (denI X.wd X.mg) Wx mi) (EvG X.wd X.mg js G) (Ev X.wd X.mg denB W0 t) (Ev X.wd X.mg (denV X.wd X.mg) W0 m) (own.map (·.2)) σ H Q :=
  Ev.bind h fun env ca xs cc J H1 he hc itd hk => by
    intro L hL
    generalize hvs : own.map (·.2) = vs at hk hjs ⊢
    split at hk
    · rename_i ys0 c0 e0
      split at hk
      · rename_i hcap
        obtain ⟨Gp, Y, w, g, y⟩ := itd
        refine lc_it w (fun i H => ∃ ca1 cc1 acc us ys, ca1.g = (ca.hide L).g ∧ Mn ca H1 ca1 H ∧ (∀ a, ca.g a → H a = H1 a) ∧ H L = some (.lst us) ∧ DenL X.wd X.mg (Live ca1) H acc us ∧ acc.length ≤ i ∧ CsOk X.wd X.mg ca1 H cc1 ∧
          EnvOk X.wd X.mg ca1 H (wipeE env vs) (wipe σ vs) ∧ acc ++ ys = ys0 ∧ lcL G t m (wipeE env vs) (xs.drop i) cc1 = .ok ys c0) ?_ ?_ ?_ ?_
        · refine ⟨ca.hide L, cc, [], [], ys0, rfl, Mn.hide hL, fun a ga => upd_ne fun z => hc.gNew hL (z ▸ ga), upd_same, rfl, Nat.le_refl _, hc.hide hL True.intro, (he.wipe vs).mn (Mn.hide hL), rfl, ?_⟩
          simpa using e0
        · rintro i H _ ⟨ca1, cc1, acc, us, ys, hg1, mn, _⟩
          exact g ca1 H mn
        · rintro i v H H2 hi ⟨ca1, cc1, acc, us, ys, hg1, mn, gk, hLu, dL, hlen, hc1, he1, hys, hrest⟩ yy
          obtain ⟨p2, hc2, d, hd, dd⟩ := y i H v H2 ca1 cc1 hi mn hc1 yy
          have gL : ca1.g L := by rw [hg1]; exact .inr rfl
          rw [drop_cons' hd] at hrest
          simp only [lcL] at hrest
          split at hrest
          · cases hrest
          · rename_i env' e1
            refine ⟨wipeE env vs, ca1, cc1, .d d, env', he1.mono p2, hc2, dd, e1, fun σ2 he2 b2 => ⟨(b2.wipe hjs).trans wipe_wipe, env', ca1, cc1, he2, hc2, ?_⟩⟩
            split at hrest
            · rename_i c1 e2
              rw [e2]
              intro b H4 ca4 p4 hc4 hb
              have hb' : true = b := hb
              subst hb'
              rw [if_pos rfl]
              refine ⟨env', ca4, c1, he2.mono p4, hc4, ?_⟩
              split at hrest
              · rename_i y' c2 e3
                rw [e3]
                intro v5 H5 ca5 p5 hc5 d5
                have pp := (p2.trans p4).trans p5
                have hLu5 : H5 L = some (.lst us) := (pp.gKp L gL).trans hLu
                have gL5 : ca5.g L := by rw [pp.gEq]; exact gL
                split at hrest
                · rename_i ys1 c3 e4
                  simp only [R.ok.injEq] at hrest
                  obtain ⟨rfl, rfl⟩ := hrest
                  refine ⟨us, hLu5, ?_, ca5, c2, acc ++ [y'], us ++ [v5], ys1, by rw [pp.gEq]; exact hg1, (mn.trans pp.toMn).trans (Mn.gwrite gL5), fun a ga => ?_, upd_same, ?_, ?_, hc5.gwrite gL5 True.intro, (he1.mono pp).mn (Mn.gwrite gL5), ?_, e4⟩
                  · have := dL.length
                    have h1 : us.length < CAP := by omega
                    rw [sizeLine_eq]
                    exact h1
                  · have ne : a ≠ L := fun z => hc.gNew hL (z ▸ ga)
                    rw [upd_ne ne, pp.gKp a (by rw [hg1]; exact .inl ga)]
                    exact gk a ga
                  · exact (DenL.mono (Mn.gwrite gL5).kp _ _ ((DenL.mono pp.kp _ _ dL).snoc d5))
                  · simp; omega
                  · rw [← hys]; simp
                · cases hrest
              · cases hrest
            · rename_i c1 e2
              rw [e2]
              intro b H4 ca4 p4 hc4 hb
              have hb' : false = b := hb
              subst hb'
              rw [if_neg (by decide : ¬ false = true)]
              have pp := p2.trans p4
              exact ⟨ca4, c1, acc, us, ys, by rw [pp.gEq]; exact hg1, mn.trans pp.toMn, fun a ga => (pp.gKp a (by rw [hg1]; exact .inl ga)).trans (gk a ga), (pp.gKp L gL).trans hLu, DenL.mono pp.kp _ _ dL, by omega, hc4, he1.mono pp, hys, hrest⟩
            · cases hrest
        · rintro H ⟨ca1, cc1, acc, us, ys, hg1, mn, gk, hLu, dL, hlen, hc1, he1, hys, hrest⟩
          rw [List.drop_length] at hrest
          simp only [lcL, R.ok.injEq] at hrest
          obtain ⟨rfl, rfl⟩ := hrest
          rw [List.append_nil] at hys
          subst hys
          have hgs : ∀ a, ca.g a → ca1.g a := fun a ga => by rw [hg1]; exact .inl ga
          refine hk (.ref L) H (ca1.back ca.g) ⟨mn.trans (Mn.back hgs), rfl, gk⟩ (hc1.back hgs) ⟨L, us, rfl, fun z => ?_, hLu, DenL.mono (Mn.back hgs).kp _ _ dL⟩
          rcases z with z | z
          · obtain ⟨n, hn⟩ := List.getElem?_of_mem z
            exact hc1.gd n L hn (by rw [hg1]; exact .inr rfl)
          · exact hc.gNew hL z
      · exact hk.elim
    · exact hk.elim
theorem pv_lc (hc : X.calm = true) (hN : X.N.Nodup) (hi : PIv X Wx tg iter mi) (ok : BlkOk X.N X.env.scope scope own)
    (hg : ∀ (s : Shared) (H : Hp) (C : Addr) (cl : List (Str × Addr)) (fp : List Addr), PGv (X.blk s H scope (compEnvC scope cl C X.env) fp) tg js G) (hjs : ∀ j ∈ js, j ∈ own.map (·.2))
    (ht : ∀ (s : Shared) (H : Hp) (C : Addr) (cl : List (Str × Addr)) (fp : List Addr), PTsv (X.blk s H scope (compEnvC scope cl C X.env) fp) W0 ifs t)
    (he : ∀ (s : Shared) (H : Hp) (C : Addr) (cl : List (Str × Addr)) (fp : List Addr), PEv (X.blk s H scope (compEnvC scope cl C X.env) fp) W0 elt m) (hs : ∀ x, foldedSetIterable iter X.env x = pure x := by intro _; rfl) :
    PEv X Wx (.ListComp elt [⟨tg, iter, ifs, 0⟩] scope pos) (mLc mi (own.map (·.2)) G t m) := (pe_lc hc hN hi ok hg ht he hs).imp fun σ H Q h => lc_read hjs h
end
end DL
set_option Elab.async false
set_option linter.all false
set_option maxRecDepth 100000
set_option maxHeartbeats 1900000
/-! DL6: own objects, methods, changing lists and dicts. -/
namespace DL
open L2 PyProof.Rows PySem PySem.Spec

/-! ### fields -/
/-- what the text says of a class -/
structure ClsF (K : PySem.W.Frag) (mg : Str → Option Value) (c : Str) (Cl : Addr) : Prop where
  mg : mg c = some (.ref Cl)
  cl : Cls K Cl
theorem ClsF.eq {K : PySem.W.Frag} {mg : Str → Option Value} {c : Str} {Cl Cl' : Addr} (h : ClsF K mg c Cl) (e : mg c = some (.ref Cl')) : Cl' = Cl := by
  have q := h.mg.symm.trans e
  cases q
  rfl
section
variable {X : Cx} {Wx : WX} {o e value : Expr} {c f : Str} {Cl : Addr} {m mo mv : ME} {pos pos' : Pos}
end

/-! ### methods of own classes -/
section
variable {X : Cx} {Wx : WX} {k n : Nat} {f Cl : Addr} {fd : FuncData} {ps : List Str} {F : Fn} {dvs : List V} {dfl : List W} {ds : List Value} {c m : Str} {apos pos : Pos} {o e : Expr} {es : List Expr} {mo : ME} {r : Env → M (List W)} {CX : CXT} {sp : Sp} {E : L2.St → XK} {ta : TE} {t : TA}
/-! ### a new object -/
end
section
variable {X : Cx} {Wx : WX} {k n : Nat} {f Cl : Addr} {fd : FuncData} {ps : List Str} {F : Fn} {dvs : List V} {dfl : List W} {ds : List Value} {c x : Str} {p pos : Pos} {e : Expr} {es : List Expr} {r : Env → M (List W)} {CX : CXT} {sp : Sp} {E : L2.St → XK} {t : TA}
end

/-! ### lists that change -/
section
variable {X : Cx} {Wx : WX} {o e : Expr} {es : List Expr} {mo : ME} {r : Env → M (List W)} {apos cpos : Pos} {rm : V → List V → Hp → VK → Prop} {g : List D → List D → Option (D × List D)} {name : Str} {id : String}
end
end DL
set_option Elab.async false
set_option linter.all false
set_option maxRecDepth 100000
set_option maxHeartbeats 1900000
/-! CL: the clauses of a comprehension, one at a time, whatever stands inside. -/
namespace L2
open PyProof.Rows PySem PySem.Spec
/-- inner code, with what is run behind it: it runs from slots and heap to slots and heap -/
structure PN (X : Cx) (code : Sem Fin → Sem Fin) (t : St → Hp → (St → Hp → Prop) → Prop) : Prop where
  run : ∀ {pins : List (Addr × Obj)} {s : Shared} {σ : St} {H : Hp} {R : St → Hp → Prop} {more : Sem Fin} {Q : Fin → Shared → Prop}, Inv X pins σ H s → t σ H R →
    (∀ s' σ' H', Inv X pins σ' H' s' → R σ' H' → wpAny (model X.prog X.w) X.A more Q X.xe s') → wpAny (model X.prog X.w) X.A (code more) Q X.xe s
section
variable {B : Cx} {pins : List (Addr × Obj)} {s : Shared} {σ : St} {H : Hp} {fp : List Addr} {it : Addr} {tn : Nat → Heap → Prop} {J : It} {tg : Expr} {ifs : List Expr} {place : Pos} {inner : Sem Fin → Sem Fin} {code : Code} {g : TG} {tt : TT} {tin : St → Hp → (St → Hp → Prop) → Prop}
end
section
variable {prog : Program} {w : World} {A : Around} {R : (Result → Shared → Prop)} {s : Shared}
end
end L2
set_option Elab.async false
set_option linter.all false
set_option maxRecDepth 100000
set_option maxHeartbeats 1900000
/-! CB: into a comprehension's block and out of it; the loop is given. -/
namespace L2
open PyProof.Rows PySem PySem.Spec
section
variable {X : Cx} {pins : List (Addr × Obj)} {s : Shared} {σ : St} {H : Hp}
end
end L2
set_option Elab.async false
set_option linter.all false
set_option maxRecDepth 100000
set_option maxHeartbeats 1900000
/-! CC: a comprehension as a value, or stored at once; its inner code given. -/
namespace L2
open PyProof.Rows PySem PySem.Spec
section
variable {X : Cx} {pins : List (Addr × Obj)} {σ : St} {s' : Shared} {H' : Hp} {L C : Addr}
end
/-- inner code's meaning, the hidden thing given -/
abbrev TN := Addr → St → Hp → (St → Hp → Prop) → Prop
section
variable {X : Cx} {e tg iter : Expr} {ifs : List Expr} {rest : List Comprehension} {scope : Scope} {own : List (Str × Nat)} {place : Pos} {wi : TI} {u : Addr → HO} {newAcc : Sem Value} {g : TG} {tt : TT} {tin : TN} {inner : Env → Addr → Sem Fin → Sem Fin}
end
end L2
set_option Elab.async false
set_option linter.all false
set_option maxRecDepth 100000
set_option maxHeartbeats 1900000
/-! CN: comprehensions over data: inner code by what it hands to the hidden thing. -/
namespace DL
open L2 PyProof.Rows PySem PySem.Spec
/-- as Stp, but the hidden thing at L may be written -/
structure Gst (L : Addr) (ca : Ca) (H : Hp) (ca' : Ca) (H' : Hp) : Prop extends Mn ca H ca' H' where
  same : ca'.g = ca.g
  hold : ∀ a, a ≠ L → ca.g a → H' a = H a
theorem Stp.gst {L : Addr} {ca ca' : Ca} {H H' : Hp} (p : Stp ca H ca' H') : Gst L ca H ca' H' := ⟨p.toMn, p.gEq, fun a _ ga => p.gKp a ga⟩
theorem Gst.trans {L : Addr} {ca ca1 ca2 : Ca} {H H1 H2 : Hp} (p : Gst L ca H ca1 H1) (q : Gst L ca1 H1 ca2 H2) : Gst L ca H ca2 H2 := by
  refine ⟨p.toMn.trans q.toMn, q.same.trans p.same, ?_⟩
  intro a ne ga
  rw [q.hold a ne (by rw [p.same]; exact ga), p.hold a ne ga]
theorem Gst.refl (L : Addr) (ca : Ca) (H : Hp) : Gst L ca H ca H := (Stp.refl ca H).gst
/-- what the hidden thing holds: `holds` what was handed so far, `fits` what may be handed in all -/
structure Acc (K : Wd) (mg : Str → Option Value) (α : Type) where
  holds : Ca → Hp → Addr → List α → Prop
  fits : List α → Prop
  keep : ∀ {ca H ca' H' L ys}, ca.g L → Stp ca H ca' H' → holds ca H L ys → holds ca' H' L ys
  less : ∀ {xs ys}, fits (xs ++ ys) → fits xs
section
variable {K : Wd} {mg : Str → Option Value} {α : Type}
end
theorem _root_.L2.PN.imp {X : Cx} {code : Sem Fin → Sem Fin} {t t' : L2.St → Hp → (L2.St → Hp → Prop) → Prop} (h : PN X code t) (i : ∀ σ H R, t' σ H R → t σ H R) : PN X code t' := ⟨fun inv left goOn => h.run inv (i _ _ _ left) goOn⟩
end DL
set_option Elab.async false
set_option linter.all false
set_option maxRecDepth 100000
set_option maxHeartbeats 1900000
/-! CD: dict comprehensions over data. -/
namespace L2
open PyProof.Rows PySem PySem.Spec
section
variable {B : Cx} {kx vx : Expr} {tk tv : TE} {L : Addr}
end
end L2
namespace DL
open L2 PyProof.Rows PySem PySem.Spec
/-! ### keys that are texts or ints -/
/-- kvs[k] = v -/
def putG {β : Type} (kvs : List (Key × β)) (k : Key) (v : β) : List (Key × β) := if (kvs.any fun p => decide (p.1 = k)) = true then kvs.map (fun p => if p.1 = k then (p.1, v) else p) else kvs ++ [(k, v)]
section
variable {K : Wd} {mg : Str → Option Value} {L L' : Addr → Prop} {H H' : Hp}
/-- pairs of a key and data lie as pairs of a key and a value -/
def Lie2 (K : Wd) (mg : Str → Option Value) (L : Addr → Prop) (H : Hp) : List (Key × D) → List (Key × V) → Prop
  | [], vs => vs = []
  | p :: ps, vs => ∃ v vr, vs = (p.1, v) :: vr ∧ DenD K mg L H p.2 v ∧ Lie2 K mg L H ps vr
theorem Lie2.mono (p : Kp L H L' H') : ∀ {ps : List (Key × D)} {vs : List (Key × V)}, Lie2 K mg L H ps vs → Lie2 K mg L' H' ps vs
  | [], _, h => h
  | _ :: _, _, ⟨v, vr, e, d, r⟩ => ⟨v, vr, e, DenD.mono p _ _ d, Lie2.mono p r⟩
theorem Lie2.keys : ∀ {ps : List (Key × D)} {vs : List (Key × V)}, Lie2 K mg L H ps vs → vs.map (·.1) = ps.map (·.1)
  | [], _, h => by rw [show _ = [] from h]; rfl
  | _ :: _, _, ⟨v, vr, e, _, r⟩ => by rw [e, List.map_cons, List.map_cons, r.keys]
theorem Lie2.any (k : Key) : ∀ {ps : List (Key × D)} {vs : List (Key × V)}, Lie2 K mg L H ps vs → (vs.any fun p => decide (p.1 = k)) = ps.any fun p => decide (p.1 = k)
  | [], _, h => by rw [show _ = [] from h]; rfl
  | _ :: _, _, ⟨v, vr, e, _, r⟩ => by rw [e, List.any_cons, List.any_cons, r.any k]
theorem Lie2.snoc {k : Key} {x : D} {v : V} (d : DenD K mg L H x v) : ∀ {ps : List (Key × D)} {vs : List (Key × V)}, Lie2 K mg L H ps vs → Lie2 K mg L H (ps ++ [(k, x)]) (vs ++ [(k, v)])
  | [], _, h => by rw [show _ = [] from h]; exact ⟨v, [], rfl, d, rfl⟩
  | _ :: _, _, ⟨u, vr, e, d1, r⟩ => by rw [e]; exact ⟨u, _, rfl, d1, r.snoc d⟩
theorem Lie2.swap {k : Key} {x : D} {v : V} (d : DenD K mg L H x v) : ∀ {ps : List (Key × D)} {vs : List (Key × V)}, Lie2 K mg L H ps vs → Lie2 K mg L H (ps.map fun p => if p.1 = k then (p.1, x) else p) (vs.map fun p => if p.1 = k then (p.1, v) else p)
  | [], _, h => by rw [show _ = [] from h]; rfl
  | p :: _, _, ⟨u, vr, e, d1, r⟩ => by
    rw [e, List.map_cons, List.map_cons]
    by_cases q : p.1 = k
    · rw [if_pos q, if_pos q]
      exact ⟨v, _, rfl, d, r.swap d⟩
    · rw [if_neg q, if_neg q]
      exact ⟨u, _, rfl, d1, r.swap d⟩
theorem Lie2.put {k : Key} {x : D} {v : V} (d : DenD K mg L H x v) {ps : List (Key × D)} {vs : List (Key × V)} (h : Lie2 K mg L H ps vs) : Lie2 K mg L H (putG ps k x) (putK vs k v) := by
  unfold putG putK
  rw [h.any k]
  split
  · exact h.swap d
  · exact h.snoc d
theorem Lie2.length : ∀ {ps : List (Key × D)} {vs : List (Key × V)}, Lie2 K mg L H ps vs → vs.length = ps.length
  | [], _, h => by rw [show _ = [] from h]; rfl
  | _ :: _, _, ⟨v, vr, e, _, r⟩ => by rw [e, List.length_cons, List.length_cons, r.length]
end
/-! ### keys that are tuples -/
section
variable (P : Program) (w : World) (K : Wd) (mg : Str → Option Value)
end
end DL
set_option Elab.async false
set_option linter.all false
set_option maxRecDepth 100000
set_option maxHeartbeats 1900000
/-! CE: dict comprehensions of one clause or two, as values and stored at once. -/
namespace DL
open L2 PyProof.Rows PySem PySem.Spec
section
variable {P : Program} {w : World} {K : Wd} {mg : (Str → Option Value)}
end
section
variable {X : Cx} {Wx : WX} {kx vx tg iter tg1 iter1 : Expr} {ifs ifs1 : List Expr} {scope : Scope} {own : List (Str × Nat)} {pos spos py p2 : Pos} {mi mi1 : Env → M (List D)} {js js1 : List Nat} {G G1 : Tg} {t t1 : Env → M Bool} {m mv : ME} {bv : Bool} {vs1 : List Nat} {i j : Nat} {y : Str}
end
end DL
set_option Elab.async false
set_option linter.all false
set_option maxRecDepth 100000
set_option maxHeartbeats 1900000
/-! DE: enumerate of a tuple: the library's walk over new pairs, brought into the layer. -/
namespace PySem
/-- enumerate's object over a begun iterator at it -/
def enumObj (it : Addr) : Obj := { cls := .type "enumerate", data := .fields #[.none, .bool false, .ref it, rawInt 0, .none, .none] }
/-- the making of enumerate of one thing -/
theorem make_enum {v : Value} {o : Obj} {T : Heap → Prop} (begin : Begins v o T) :
    Meets (Builtin.«enumerate.__new__» ⟨[.type "enumerate", v], []⟩) (fun _ after s => T s.heap ∧ after (.ok (.ret (.ref (s.heap.push o).objs.size))) { s with heap := (s.heap.push o).push (enumObj s.heap.objs.size) }) := by
  apply Meets.of_wp
  rintro prog w A R ⟨h0, gens, drawn, toks, os⟩ ⟨there, goal⟩
  have sub := sub_enumerate
  have iterates : ∀ {A' : Around} {E Q : Value → Shared → Prop}, Q (.ref h0.objs.size) ⟨h0.push o, gens, drawn, toks, os⟩ → wpAny (model prog w) A' (pyIter v) Q E ⟨h0, gens, drawn, toks, os⟩ := by
    intro A' E Q q
    exact begin.iter prog w A' E _ Q there q
  wp_walk using iterates
  apply wpAny_stack_any
  intro acts
  apply wpAny_pure
  split
  · rename_i c _ _ _ _ _
    rcases Bool.eq_false_or_eq_true (c == Value.type "enumerate") with yes | no
    · rw [yes]
      wp_walk using iterates
      exact ⟨_, rfl, goal⟩
    · rw [no]
      wp_walk using iterates
      exact ⟨_, rfl, goal⟩
  · wp_walk using iterates
    exact ⟨_, rfl, goal⟩
/-- enumerate(v) makes an iterator and its own object -/
theorem call_enum {prog : Program} {w : World} {A : Around} {E Q : Value → Shared → Prop} {s : Shared} {v : Value} {o : Obj} {T : Heap → Prop} (begin : Begins v o T) (there : T s.heap)
    (next : ∀ h', IsEnum h' (s.heap.objs.size + 1) s.heap.objs.size 0 .none → h'.get? s.heap.objs.size = some o → (∀ b u, s.heap.get? b = some u → h'.get? b = some u) → Q (.ref (s.heap.objs.size + 1)) { s with heap := h' }) :
    wpAny (model prog w) A (call (.type "enumerate") [v]) Q E s := by
  have size1 : (s.heap.push o).objs.size = s.heap.objs.size + 1 := Heap.size_push ..
  have made : IsEnum ((s.heap.push o).push (enumObj s.heap.objs.size)) (s.heap.objs.size + 1) s.heap.objs.size 0 .none := by
    rw [← size1]
    exact Heap.get?_push_size (s.heap.push o) rfl
  have old := next _ made (Heap.get?_push_of_some _ (Heap.get?_push_size _ begin.free)) fun b u at_b => Heap.get?_push_of_some _ (Heap.get?_push_of_some _ at_b)
  apply callType_new F.called_enumerate (by decide) (F.typeCall_enumerate_1 _) (F.newCall_enumerate_1 _) (fun obj => F.args_object_init_2 obj _) F.entry_enumerate_new (make_enum begin)
  refine ⟨there, ?_⟩
  rw [size1]
  exact ⟨⟨_, made, rfl⟩, old⟩
end PySem
namespace L2
open PyProof.Rows PySem PySem.Spec
/-- what enumerate of the tuple at a hands out -/
def IteT (K : PySem.W.Frag) (a : Addr) : It where
  go i H := ∃ (xs : List V) (x : V), SqT K H a xs ∧ xs[i]? = some x
  yld i H v H' := ∃ T x, v = .ref T ∧ H T = none ∧ H' = upd H T (.tup [.int (i : Nat), x]) ∧ ∀ xs, SqT K H a xs → xs[i]? = some x
  stop i H := ∃ xs : List V, SqT K H a xs ∧ xs.length ≤ i
/-- the two objects behind it -/
def EnumAt (a e it : Addr) (i : Nat) (h : Heap) : Prop := (∃ old, IsEnum h e it (0 + ((i : Nat) : Int)) old) ∧ h.IsTupleIter it a i ∧ e ≠ it ∧ a ≠ it ∧ a ≠ e
theorem turn_enumT {P : Program} {w : World} {K : PySem.W.Frag} {elts : List Expr} {kk : Nat} {tpos : Pos} (a e it : Addr) : Turn P w K (.Tuple elts kk tpos) (IteT K a) [e, it] e (EnumAt a e it) := by
  have two : ∀ {b : Addr}, b ∈ [e, it] → b = e ∨ b = it := by
    intro b mem
    simpa using mem
  constructor
  · exact List.mem_cons_self
  · rintro i h ⟨⟨_, en⟩, ⟨_, at_it, _, dt⟩, _⟩ b mem
    rcases two mem with rfl | rfl
    · refine ⟨_, en, ?_⟩
      intro _ z
      exact nomatch z
    · refine ⟨_, at_it, ?_⟩
      intro _ z
      exact nomatch dt.symm.trans z
  · rintro i h h' ⟨⟨old, en⟩, tup, apart⟩ keep
    exact ⟨⟨old, keep e List.mem_cons_self _ en⟩, tup.at (keep it (List.mem_cons_of_mem _ List.mem_cons_self)), apart⟩
  · rintro X rfl rfl rfl calm i pins s σ H E inv foot ⟨en, tup, ne1, ne2, ne3⟩ ⟨xs, x, known, at_i⟩
    obtain ⟨its, rel, lies, _⟩ := inv.tuple known
    obtain ⟨u, at_u, ru⟩ := rel.get at_i
    have lt : i < its.toArray.size := by simpa using (List.getElem?_eq_some_iff.mp at_u).1
    have walk := GoesN.enumFrom (prog := X.prog) (w := X.w) (A := X.A) (elts := elts) (x1 := kk) (pos := tpos) 0 (Draws.tuple (prog := X.prog) (w := X.w) (A := X.A.in1) (inv.ok.hd calm) it a ne2 its.toArray) e ne1 (by simpa using ⟨ne1, Ne.symm ne3⟩) (by simp)
    refine walk.goes i s _ E lt ⟨en, tup, lies⟩ ?_
    rintro v h' tk ⟨T, t, u', rfl, high, drawn, pair⟩ ⟨en', tup', _⟩ kept _
    have same : u' = u := Option.some.inj ((by simpa using drawn.symm : some u' = its[i]?).trans at_u)
    subst same
    have off : H T = none := inv.hok.fresh high
    have lies2 : ObjOk X.prog X.w (upd H T (.tup [.int (i : Nat), x])) h' T (.tup [.int (i : Nat), x]) := by
      rw [Int.zero_add] at pair
      exact ⟨show 2 ≤ sizeLine by decide, [.int i t, u'], .cons ⟨_, rfl⟩ (.cons ru .nil), pair⟩
    refine ⟨.ref T, _, inv.turnedNew kept foot high lies2, rfl, ⟨T, x, rfl, off, rfl, ?_⟩, ⟨en', tup', ne1, ne2, ne3⟩, ?_⟩
    · intro ys also
      rw [inv.tuple_inj also known]
      exact at_i
    · intro b mem
      have below : b < s.heap.objs.size := by
        rcases two mem with rfl | rfl
        · exact Heap.lt_size en.choose_spec
        · exact Heap.lt_size tup.choose_spec.1
      rw [upd_ne (Nat.ne_of_lt (Nat.lt_of_lt_of_le below high))]
      exact (foot b mem).1
  · rintro X rfl rfl rfl calm i pins s σ H E inv foot ⟨en, tup, ne1, ne2, ne3⟩ ⟨xs, known, over⟩
    obtain ⟨its, rel, lies, _⟩ := inv.tuple known
    obtain ⟨a0, a1, a2, a3, a4, a5⟩ := foot it (List.mem_cons_of_mem _ List.mem_cons_self)
    have none_left : its.toArray[i]? = none := by
      rw [List.getElem?_toArray, List.getElem?_eq_none]
      rw [← rel.length]
      exact over
    obtain ⟨old, en⟩ := en
    have ty : s.TypeIs (.ref e) "enumerate" := ⟨_, en, rfl⟩
    unfold pyNext
    apply wpAny_bind
    apply wpAny_attempt
    apply wpAny_callSpecial?_slot (name := Str.ofString "__next__") ty F.slot_enumerate_next
    apply wpAny_call_entry F.slot_enumerate_next ty F.entry_enumerate_next _ (F.args_enumerate_next_1 _)
    show wpAny _ _ (bind (field (.ref e) 2) _) _ _ s
    apply wpAny_bind
    apply wpAny_field en rfl (x := .ref it) rfl
    apply wpAny_bind
    apply wpAny_nextOf_tuple_end (A := X.A.in1) (inv.ok.hd calm) tup lies none_left
    rintro h' y kept ⟨oy, at_y, cl⟩
    apply wpAny_bind
    refine wpAny_isInstance (b := true) (T := "StopIteration") ⟨oy, at_y, cl⟩ isSubtype_stop (wpAny_pure ?_)
    exact ⟨rfl, inv.turned (t' := s.toks) kept a0 a1 a3 a4 a5⟩
  · rintro A i s Q E ⟨⟨old, en⟩, _⟩ q
    exact wpAny_pyIter_enum en q
/-- enumerate of a list or a tuple -/
def iEnumA (K : PySem.W.Frag) (ta : TA) : TI := fun σ H R => ta σ H fun vs H1 => ∃ a xs, vs = [.ref a] ∧ ((SqL K H1 a xs ∧ R (Ite K a) H1) ∨ (SqT K H1 a xs ∧ R (IteT K a) H1))
theorem pi_enumA {X : Cx} {e : Expr} {ta : TA} {p pos tpos : Pos} {elts : List Expr} {kk : Nat} (hg : Gl X "enumerate") (hm : X.mg "enumerate" = none) (pa : PA X [e] ta) (hs : OneAt X e := by rfl) :
    PI X (.Tuple elts kk tpos) (.Call (.Name "enumerate" p) [e] [] pos) (iEnumA X.K ta) := by
  constructor
  intro pins s σ H R inv left
  refine Call_ (ld_blt inv hg hm boot_enumerate ?_)
  apply PyProof.Rows.callWith_type1 _ hs rfl
  apply wpAny_mono (pa.run pos pins s σ H _ inv left) _ (fun _ _ f => f)
  rintro us s1 ⟨vs, H1, inv1, rels, a, xs, rfl, which⟩
  cases rels with
  | cons r rr =>
    cases rr
    cases r
    have fresh : ∀ b ∈ [s1.heap.objs.size + 1, s1.heap.objs.size], FpOk X pins H1 b := by
      intro b mem
      have high : s1.heap.objs.size ≤ b := by
        simp only [List.mem_cons, List.not_mem_nil, or_false] at mem
        omega
      exact inv1.fpOk high (inv1.hok.fresh high)
    rcases which with ⟨known, q⟩ | ⟨known, q⟩
    · obtain ⟨its, rel, lies, _⟩ := inv1.list known
      apply call_enumerate_list lies.isList
      intro h' en iter _ kept
      apply wpAny_pyIter_enum en
      exact ⟨_, _, _, _, H1, rfl, inv1.kept (t' := s1.toks) kept, turn_enum a _ _, ⟨⟨.none, en⟩, iter, Nat.succ_ne_self _⟩, fresh, q⟩
    · obtain ⟨its, rel, lies, _⟩ := inv1.tuple known
      have isT : s1.heap.IsTuple a its.toArray := lies
      have low : a < s1.heap.objs.size := Heap.lt_size isT.choose_spec.1
      apply call_enum (begins_tuple a its.toArray) isT
      intro h' en iter kept
      apply wpAny_pyIter_enum en
      exact ⟨_, _, _, _, H1, rfl, inv1.kept (t' := s1.toks) kept, turn_enumT a _ _, ⟨⟨.none, en⟩, ⟨_, iter, rfl, rfl⟩, Nat.succ_ne_self _, Nat.ne_of_lt low, Nat.ne_of_lt (Nat.lt_succ_of_lt low)⟩, fresh, q⟩
theorem walk_enumT {K : PySem.W.Frag} {a : Addr} {xs : List V} : Walk (IteT K a) xs.length (fun H => SqT K H a xs) (YPair (fun i => some (.int (i : Nat))) (fun i => xs[i]?)) := by
  constructor
  · intro i H lt known
    exact ⟨xs, xs[i], known, List.getElem?_eq_getElem lt⟩
  · intro H known
    exact ⟨xs, known, Nat.le_refl _⟩
  · rintro i H v H' _ known ⟨T, x, e1, e2, e3, all⟩
    exact ⟨T, .int (i : Nat), x, e1, e2, e3, rfl, all xs known⟩
end L2
set_option Elab.async false
set_option linter.all false
set_option maxRecDepth 100000
set_option maxHeartbeats 1900000
/-! DZ: dict(zip(a, b)) of two tuples. -/
namespace PySem
/-- where zip of the tuples l1 and l2 stands: i pairs were given out -/
structure TwoAt (l1 l2 TI i1 i2 : Addr) (xs ys : Array Value) (i : Nat) (h : Heap) : Prop where
  its : IsPair h TI (.ref i1) (.ref i2)
  fst : h.IsTupleIter i1 l1 i
  snd : h.IsTupleIter i2 l2 i
  one : h.IsTuple l1 xs
  two : h.IsTuple l2 ys
theorem TwoAt.later {l1 l2 TI i1 i2 : Addr} {xs ys : Array Value} {i : Nat} {h h' : Heap} (t : TwoAt l1 l2 TI i1 i2 xs ys i h) (k : ∀ b ∈ [TI, i1, i2, l1, l2], ∀ o, h.get? b = some o → h'.get? b = some o) : TwoAt l1 l2 TI i1 i2 xs ys i h' :=
  ⟨k TI (by simp) _ t.its, t.fst.at (k i1 (by simp)), t.snd.at (k i2 (by simp)), t.one.at (k l1 (by simp)), t.two.at (k l2 (by simp))⟩
section
variable {prog : Program} {w : World} {A : Around} {E : Value → Shared → Prop} {s : Shared} {z TI TO T i1 i2 l1 l2 : Addr} {f : Bool} {oT : Obj} {i : Nat} {xs ys : Array Value}
end
end PySem
set_option Elab.async false
set_option linter.all false
set_option maxRecDepth 100000
set_option maxHeartbeats 1900000
/-! DZ2: dict(zip(a, b)). -/
namespace L2
open PyProof.Rows PySem PySem.Spec
end L2
set_option Elab.async false
set_option linter.all false
set_option maxRecDepth 100000
set_option maxHeartbeats 1900000
/-! DL7: chains, enumerate, dict comprehensions. -/
namespace DL
open L2 PyProof.Rows PySem PySem.Spec
section
variable {X : Cx} {Wx : WX} {a b c : Expr} {ma mb mc : ME} {r r' : R2} {g g' : D → D → Option D} {pos : Pos}
end

/-! ### enumerate -/
def enumD : Nat → List D → List D
  | _, [] => []
  | i, x :: xs => .tup [.int i, x] :: enumD (i + 1) xs
theorem enumD_len : ∀ (i : Nat) (xs : List D), (enumD i xs).length = xs.length
  | _, [] => rfl
  | i, x :: xs => by simp [enumD, enumD_len (i + 1) xs]
theorem enumD_at : ∀ (k : Nat) (xs : List D) (i : Nat), (enumD k xs)[i]? = xs[i]?.map fun x => D.tup [.int ((k + i : Nat) : Int), x]
  | _, [], i => by simp [enumD]
  | k, x :: xs, 0 => by simp [enumD]
  | k, x :: xs, i + 1 => by
    simp only [enumD, List.getElem?_cons_succ]
    rw [enumD_at (k + 1) xs i, show k + 1 + i = k + (i + 1) by omega]
def mEnum (m : ME) : Env → M (List D) := fun env cc => (m env cc).bind fun w c => match w with
  | .d (.lst ds) => .ok (enumD 0 ds) c
  | .d (.tup ds) => .ok (enumD 0 ds) c
  | _ => .stuck
section
variable {K : Wd} {mg : Str → Option Value} {ca : Ca} {H : Hp}
theorem itd_pair {ds : List D} {vs : List V} {J : It} {G : Hp → Prop} (w : Walk J vs.length G (YPair (fun i => some (.int (i : Nat))) (fun i => vs[i]?))) (hG : ∀ ca' H', Mn ca H ca' H' → G H') (d : DenL K mg (Live ca) H ds vs) : ItD K mg ca H (enumD 0 ds) J := by
  refine ⟨G, _, by rw [enumD_len, ← d.length]; exact w, hG, fun i H1 v H' ca' cc hi p hc y => ?_⟩
  rw [enumD_len] at hi
  obtain ⟨T, x, z, rfl, hT, rfl, h1, h2⟩ := y
  cases h1
  obtain ⟨x, hx⟩ : ∃ x, ds[i]? = some x := ⟨_, List.getElem?_eq_getElem hi⟩
  obtain ⟨v', e1, d1⟩ := d.get hx
  rw [show vs[i]? = some z from h2] at e1
  cases e1
  have st : Stp ca' H1 ca' (upd H1 T (.tup [.int (i : Nat), z])) := Stp.new hc hT
  have dl : DenL K mg (Live ca') H1 [.int ((i : Nat) : Int), x] [.int (i : Nat), z] := ⟨_, _, rfl, rfl, _, _, rfl, DenD.mono p.kp _ _ d1, rfl⟩
  refine ⟨st, hc.new hT, _, by rw [enumD_at, hx]; rfl, ?_⟩
  show DenD K mg (Live ca') _ (.tup [.int ((0 + i : Nat) : Int), x]) _
  rw [Nat.zero_add]
  exact den_tup_new hc dl hT
end
section
variable {X : Cx} {Wx : WX} {e : Expr} {m : ME} {p pos tpos : Pos} {elts : List Expr} {kk : Nat}
theorem iv_enum (hg : Gl X "enumerate") (hm : X.mg "enumerate" = none) (he : PEv X Wx e m) (hs : OneAt X e := by rfl) : PIv X Wx (.Tuple elts kk tpos) (.Call (.Name "enumerate" p) [e] [] pos) (mEnum m) :=
  (pi_enumA hg hm (pa_cons he pa_nil hs) hs).imp fun σ H R h =>
    Ev.bind h fun env ca w cc v H' he hc d hk => by
      split at hk
      · rename_i ds
        have d' : DenD X.wd X.mg (Live ca) H' (.lst ds) v := d
        simp only [DenD] at d'
        obtain ⟨a, vs, rfl, n, h1, h2⟩ := d'
        exact ⟨a, vs, rfl, .inl ⟨SqL.of h1, hk.now (Stp.refl _ _) hc (itd_pair walk_enum (fun ca' H' p => SqL.of (p.kp a _ h1 nofun n).1) h2)⟩⟩
      · rename_i ds
        have d' : DenD X.wd X.mg (Live ca) H' (.tup ds) v := d
        simp only [DenD] at d'
        obtain ⟨a, vs, rfl, h1, h2⟩ := d'
        exact ⟨a, vs, rfl, .inr ⟨TupAt.sq (h1.imp (fun z => z.2) fun z => z), hk.now (Stp.refl _ _) hc (itd_pair walk_enumT (fun ca' H' p => h1.elim (fun z => Or.inl (.inl (p.kp a _ z.2 nofun z.1).1)) Or.inr) h2)⟩⟩
      · exact hk.elim
end

end DL
set_option Elab.async false
set_option linter.all false
set_option maxRecDepth 100000
set_option maxHeartbeats 1900000
/-! DL9: more built-ins, methods; keys of dicts. -/
namespace DL
open L2 PyProof.Rows PySem PySem.Spec

/-! ### sorted texts -/
section
variable {X : Cx}
end

/-! ### methods of texts -/
section
variable {X : Cx} {Wx : WX} {o e : Expr} {mo me : ME} {apos pos : Pos} {name : Str} {id : String} {r : V → List V → Hp → VK → Prop} {g : Str → D → Option D}
end

/-! ### count -/
section
variable {X : Cx} {Wx : WX} {o e : Expr} {es : List Expr} {mo me : ME} {apos cpos : Pos}
end

/-! ### dict(zip(..)) -/
section
variable {X : Cx} {Wx : WX} {e1 e2 : Expr} {r : Env → M (List W)} {p1 p2 pos1 pos2 : Pos}
end
end DL
set_option Elab.async false
set_option linter.all false
set_option maxRecDepth 100000
set_option maxHeartbeats 1900000
/-! DL10: keys of a dict walked, keyword makes, pairs of stores, stores by index, kept results. -/
namespace DL
open L2 PyProof.Rows PySem PySem.Spec

/-! ### [.. for k in d] -/
section
variable {K : Wd} {mg : Str → Option Value} {ca : Ca} {H H' : Hp} {cc : Cs}
end
section
variable {X : Cx} {Wx : WX} {elt tg : Expr} {ifs : List Expr} {scope : Scope} {own : List (Str × Nat)} {pos p1 : Pos} {i : Nat} {x : Str} {js : List Nat} {G : Tg} {t : Env → M Bool} {m : ME}
end

/-! ### a, b = x, y -/
section
variable {X : Cx} {Wx : WX} {i j l : Nat} {x y z : Str} {a b c : Expr} {r : Env → M (List W)} {px py pz pt pos : Pos} {kt k2 pt2}
end

/-! ### o[i] = value -/
theorem _root_.L2.PSet.or {X : Cx} {t t' : TSet} (h : PSet X t) (h' : PSet X t') : PSet X (fun o i v H Q => t o i v H Q ∨ t' o i v H Q) := fun pins s σ H o i v ov iv u Q I ro ri rv q => q.elim (h pins s σ H o i v ov iv u Q I ro ri rv) (h' pins s σ H o i v ov iv u Q I ro ri rv)
section
variable {X : Cx} {Wx : WX} {o i e : Expr} {mo mi mv : ME} {pos pos' : Pos}
end

/-! ### a def that gives its own new list -/
section
variable {K : Wd} {mg : Str → Option Value} {ca : Ca} {H : Hp} {cc : Cs}
end
section
variable {P : Program} {w : World} {K : PySem.W.Frag} {mg : (Str → Option Value)} {base : Heap}
end
end DL
set_option Elab.async false
set_option linter.all false
set_option maxRecDepth 100000
set_option maxHeartbeats 1900000
/-! DL11: keywords. -/
namespace DL
open L2 PyProof.Rows PySem PySem.Spec
theorem _root_.L2.PK.imp {X : Cx} {e : List Keyword} {t t' : TA} (h : PK X e t) (i : ∀ σ H Q, t' σ H Q → t σ H Q) : PK X e t' := ⟨fun pos pins s σ H Q I q => h.run pos pins s σ H Q I (i σ H Q q)⟩
section
variable {X : Cx} {Wx : WX} {e : Expr} {kws : List Keyword} {nm : Option Str} {kpos : Pos} {a : ME} {r : Env → M (List W)}
end
theorem passes0 {X : Cx} : Passes (L2.CX X.prog X.w) X (fun _ _ _ => False) := fun _ _ _ _ _ _ _ h => by
  obtain ⟨_, _, _, _, _, _, _, _, _, _, _, _, h⟩ := h
  exact h.elim
section
variable {X : Cx} {Wx : WX} {k n np : Nat} {f Cl : Addr} {fd : FuncData} {ps ks : List Str} {F : Fn} {c : Str} {p pos : Pos} {e : Expr} {es : List Expr} {kws : List Keyword} {r rk : Env → M (List W)} {g : List W → List W → List W} {gv : List Value → List Value → List Value} {gV : List V → List V → List V}
end
end DL
set_option Elab.async false
set_option linter.all false
set_option maxRecDepth 100000
set_option maxHeartbeats 1900000
/-! HX: the head's facts in parts, each part by a run of its own. -/
namespace HX
open PySem PySem.Spec PySem.Calls PyProof.Rows L2 HandSHeadRun
/-- the object at 0 is no def -/
def z0 (K : PySem.W.Frag) : Bool := match K.lookup 0 with
  | some ⟨_, _, .func _, _⟩ => false
  | _ => true
structure Part where
  fa : List He.Fa
  fn : List He.DefD
  ex : PySem.W.Frag → Bool
  tab : Bool
/-- the tables of the law's own defs: there, empty, one name each -/
def tabsB (g : Addr → Option Obj) (K : PySem.W.Frag) : Bool := (DL.tabs3 K).all fun t => PySem.W.codeHdIn K t.1 t.2.1 && ((match g t.2.1 with
  | some o => He.emptyTab o
  | none => false) && (DL.tabs3 K).all fun u => !(u.2.1 == t.2.1) || (u.2.2 == t.2.2))
structure TabF (K : PySem.W.Frag) (h : Heap) : Prop where
  hd : ∀ t ∈ DL.tabs3 K, PySem.W.codeHdIn K t.1 t.2.1 = true
  out : ∀ t ∈ DL.tabs3 K, K.lookup t.2.1 = none
  empty : ∀ t ∈ DL.tabs3 K, h.get? t.2.1 = some { cls := .none, data := .fields #[] }
  one : ∀ t ∈ DL.tabs3 K, ∀ u ∈ DL.tabs3 K, u.2.1 = t.2.1 → u.2.2 = t.2.2
theorem tabF_of {h : Heap} {as : List Addr} (e : tabsB h.get? (He.frT h.get? as) = true) : TabF (He.frT h.get? as) h := by
  have at_ : ∀ t ∈ DL.tabs3 (He.frT h.get? as), PySem.W.codeHdIn (He.frT h.get? as) t.1 t.2.1 = true ∧ (∃ o, h.get? t.2.1 = some o ∧ He.emptyTab o = true) ∧ ∀ u ∈ DL.tabs3 (He.frT h.get? as), u.2.1 = t.2.1 → u.2.2 = t.2.2 := by
    intro t mt
    have q := List.all_eq_true.mp e t mt
    (obtain ⟨q1, q2⟩ := Bool.and_eq_true_iff.mp q)
    obtain ⟨q2, q3⟩ := Bool.and_eq_true_iff.mp q2
    refine ⟨q1, ?_, ?_⟩
    · cases g : h.get? t.2.1 with
      | none => rw [g] at q2; cases q2
      | some o => rw [g] at q2; exact ⟨o, rfl, q2⟩
    · intro u mu same
      have q := List.all_eq_true.mp q3 u mu
      rw [show (u.2.1 == t.2.1) = true from beq_iff_eq.mpr same] at q
      exact beq_iff_eq.mp (by simpa using q)
  refine ⟨fun t m => (at_ t m).1, fun t m => ?_, fun t m => ?_, fun t m => (at_ t m).2.2⟩
  · obtain ⟨o, g, z⟩ := (at_ t m).2.1
    exact He.frT_none g z
  · obtain ⟨o, g, z⟩ := (at_ t m).2.1
    rw [g, He.emptyTab_eq z]
/-- the places that are looked at -/
def asX (n : Nat) : List Addr := mainGlobals :: List.range n
abbrev Al1 : Type := Bool × He.AlD
def obs1 (p : Part) (g : Addr → Option Obj) (K : PySem.W.Frag) : Al1 := (p.ex K && (z0 K && (!p.tab || tabsB g K)), He.obsD p.fa p.fn K)
def val1 (p : Part) : Al1 := (true, He.valD p.fn)
def obsP (n : Nat) (ps : List Part) (g : Addr → Option Obj) : List Al1 := ps.map fun p => obs1 p g (He.frT g (asX n))
structure Says (ps : List Part) (K : PySem.W.Frag) : Prop where
  all : ∀ p ∈ ps, (p.ex K && z0 K) = true ∧ He.obsD p.fa p.fn K = He.valD p.fn
def hookP (n : Nat) (ps : List Part) : PySem.W.Hook where
  α := List Al1
  obs := fun s => obsP n ps s.heap.get?
  val := fun _ => ps.map val1
  says := fun _ h => ∃ K : PySem.W.Frag, K.In h ∧ Says ps K ∧ (ps.any (·.tab) = true → TabF K h)
  of := fun _ s e => by
    have at_ : ∀ p ∈ ps, obs1 p s.heap.get? (He.frT s.heap.get? (asX n)) = val1 p := by
      intro p hp
      obtain ⟨i, hi, e2⟩ := List.mem_iff_getElem.mp hp
      have e3 : (ps.map fun p => obs1 p s.heap.get? (He.frT s.heap.get? (asX n)))[i]? = (ps.map val1)[i]? := congrArg (fun l : List Al1 => l[i]?) e
      rw [List.getElem?_map, List.getElem?_map, List.getElem?_eq_getElem hi, e2] at e3
      exact Option.some.inj e3
    have first : ∀ p ∈ ps, (p.ex (He.frT s.heap.get? (asX n)) && (z0 (He.frT s.heap.get? (asX n)) && (!p.tab || tabsB s.heap.get? (He.frT s.heap.get? (asX n))))) = true := fun p hp => congrArg (fun z : Al1 => z.1) (at_ p hp)
    refine ⟨He.frT s.heap.get? (asX n), He.frT_in, ⟨fun p hp => ⟨?_, congrArg (fun z : Al1 => z.2) (at_ p hp)⟩⟩, fun any => ?_⟩
    · have q := first p hp
      simp only [Bool.and_eq_true] at q ⊢
      exact ⟨q.1, q.2.1⟩
    · obtain ⟨p, hp, tp⟩ := List.any_eq_true.mp any
      have q := first p hp
      simp only [Bool.and_eq_true] at q
      refine tabF_of ?_
      have q2 := q.2.2
      rw [tp] at q2
      simpa using q2
  keeps := by
    rintro _ _ _ ⟨K, inside, c, t⟩ k
    exact ⟨K, PySem.W.Frag.In.keeps inside k, c, fun any => ⟨(t any).hd, (t any).out, fun u m => k _ _ ((t any).empty u m), (t any).one⟩⟩
def ob (n : Nat) (ps : List Part) (s : PySem.W.SharedT) : List Al1 := obsP n ps (getT s)
theorem ob_eq (n : Nat) (ps : List Part) (s : PySem.W.SharedT) : ob n ps s = (hookP n ps).obs s.abs := by
  have e : getT s = s.abs.heap.get? := funext (getT_eq s)
  show obsP n ps (getT s) = obsP n ps s.abs.heap.get?
  rw [e]
def ob1 (n : Nat) (p : Part) (s : PySem.W.SharedT) : Al1 := obs1 p (getT s) (He.frT (getT s) (asX n))
open PySem.W in
/-- the run, what is known of it by itself -/
def RunL (r : PySem.W.OpenRow) (M : Nat) (w : World) : Prop :=
  ∀ os : OsState, (endF (stepQ (denQ tabQ) r.prog w) M r.prog w os).map (fun s => looksF r.prog (boot_heap w.params) s.abs) = some true
open PySem.W in
/-- the run, what the law may look at -/
def RunS (r : PySem.W.OpenRow) (q : Program) (M : Nat) (loose : List PySem.Str) (w : World) : Prop :=
  ∀ os : OsState, (endF (stepQ (denQ tabQ) r.prog w) M r.prog w os).map (fun s => seenQ q loose (importedModules r.prog.main.body) (fun s => PySem.W.xlAt q [] s && PySem.W.recOk r.toRowW.records s) s.abs) = some (PySem.W.openGood q loose)
/-- another part's run -/
def RunP (r : PySem.W.OpenRow) (n : Nat) (p : Part) (M : Nat) (w : World) : Prop :=
  ∀ os : OsState, (endF (stepQ (denQ tabQ) r.prog w) M r.prog w os).map (ob1 n p) = some (val1 p)
def RunAll (r : PySem.W.OpenRow) (n : Nat) (M : Nat) (w : World) : List Part → Prop
  | [] => True
  | p :: ps => RunP r n p M w ∧ RunAll r n M w ps
theorem runAll_at {r : PySem.W.OpenRow} {n : Nat} {M : Nat} {w : World} {os : OsState} {s : PySem.W.SharedT} (e : endF (stepQ (denQ tabQ) r.prog w) M r.prog w os = some s) : ∀ {ps : List Part}, RunAll r n M w ps → ps.map (fun p => ob1 n p s) = ps.map val1
  | [], _ => rfl
  | p :: ps, h => by
    have h1 := h.1 os
    rw [e] at h1
    have h2 : ob1 n p s = val1 p := Option.some.inj h1
    simp only [List.map_cons]
    rw [h2, runAll_at e h.2]
theorem join {r : PySem.W.OpenRow} {q : Program} {n : Nat} {ps : List Part} {M : Nat} {loose : List PySem.Str} {w : World} (hl : RunL r M w) (hs : RunS r q M loose w) (h : RunAll r n M w ps) : RunEq r q (hookP n ps) (ob n ps) M loose w := by
  intro os
  have z1 := hl os
  have z2 := hs os
  cases e : endF (stepQ (denQ tabQ) r.prog w) M r.prog w os with
  | none =>
    rw [e] at z1
    cases z1
  | some s =>
    rw [e] at z1 z2
    exact congrArg some (Prod.ext (Option.some.inj z1) (Prod.ext (Option.some.inj z2) (runAll_at e h)))
section
variable {ps : List Part} {K : PySem.W.Frag}
theorem Says.part (c : Says ps K) (i : Nat) {p : Part} (h : ps[i]? = some p := by rfl) : He.SaysD p.fa p.fn K ∧ p.ex K = true ∧ z0 K = true := by
  obtain ⟨e1, e2⟩ := c.all p (List.mem_of_getElem? h)
  obtain ⟨h1, h2⟩ := Bool.and_eq_true_iff.mp e1
  exact ⟨e2, h1, h2⟩
/-- a def of the module stands at its name -/
theorem glo_of {h : Heap} {mg : Str → Option Value} {x nm : Str} {q : Str} {ps : Arguments} {b : List Stmt} {sc : Scope} {dv : List V} {kd : List (Str × V)} {fd : FuncData} (X : K.In h) (G : h.Ns mainGlobals mg) (z : z0 K = true)
    (F : FunD K nm q ps b sc dv kd (He.fAd K (x, none)) fd) : mg x = some (.ref (He.ga K x)) := by
  obtain ⟨oc, od, dV, kV, doc, pm, an, cdv, ct, osl, e, lk, _⟩ := F.ex
  have lk2 : K.lookup (He.ga K x) = some _ := lk
  cases q2 : PySem.W.nsIn K mainGlobals x with
  | none =>
    have e0 : He.ga K x = 0 := by unfold He.ga; rw [q2]
    rw [e0] at lk2
    unfold z0 at z
    rw [lk2] at z
    cases z
  | some o =>
    cases o with
    | none =>
      have e0 : He.ga K x = 0 := by unfold He.ga; rw [q2]
      rw [e0] at lk2
      unfold z0 at z
      rw [lk2] at z
      cases z
    | some v =>
      cases v with
      | ref a =>
        have e0 : He.ga K x = a := by unfold He.ga; rw [q2]
        rw [e0]
        exact PySem.W.mg_of X G q2
      | _ =>
        have e0 : He.ga K x = 0 := by unfold He.ga; rw [q2]
        rw [e0] at lk2
        unfold z0 at z
        rw [lk2] at z
        cases z
end
end HX
set_option Elab.async false
set_option linter.all false
set_option maxRecDepth 100000
set_option maxHeartbeats 1900000
/-! DL12: small things the printed derivations lean on. -/
namespace DL
open L2 PyProof.Rows PySem PySem.Spec
theorem room65 {k : Nat} {A : Around} (r : Room k A) : A.units + 65 < cLine := by have := r.un; omega
theorem room1 {k : Nat} {A : Around} (r : Room k A) : A.units + 1 < cLine := by have := r.un; omega
section
variable {X : Cx} {Wx : WX} {e a : Expr} {m : ME} {pos : Pos}
theorem tv_w {m : Env → M Bool} (h : PWv X Wx e m) : PTv X Wx e m := h.pt
end
theorem DenWs.tk {K : Wd} {mg : Str → Option Value} {ca : Ca} {H : Hp} : ∀ {ws : List W} {vs : List V} (n : Nat), DenWs K mg ca H ws vs → DenWs K mg ca H (ws.take n) (vs.take n)
  | _, _, 0, _ => by simp only [List.take_zero]; exact rfl
  | [], _, n + 1, h => by
    cases (show _ = [] from h)
    exact rfl
  | _ :: _, _, n + 1, ⟨v, vr, e, h1, h2⟩ => by
    subst e
    exact ⟨v, vr.take n, rfl, h1, DenWs.tk n h2⟩
theorem DenWs.cs {K : Wd} {mg : Str → Option Value} {ca : Ca} {H : Hp} {w : W} {v : V} {ws : List W} {vs : List V} (h : DenW K mg ca H w v) (h2 : DenWs K mg ca H ws vs) : DenWs K mg ca H (w :: ws) (v :: vs) := ⟨v, vs, rfl, h, h2⟩
/-- no name holds a cell from n on -/
def envBelow (n : Nat) (env : Env) : Bool := env.all fun o => match o with
  | some w => okBelow1 n w
  | none => true
theorem EnvOk.take {K : Wd} {mg : Str → Option Value} {ca : Ca} {H : Hp} {env : Env} {σ : L2.St} {n : Nat} (h : EnvOk K mg ca H env σ) (hl : n ≤ ca.l.length) (ok : envBelow n env = true) : EnvOk K mg (ca.cut n) H env σ := ⟨h.len, fun i w e => by
  obtain ⟨v, e1, d⟩ := h.at_ i w e
  refine ⟨v, e1, d.take hl ?_⟩
  have := List.all_eq_true.mp ok (some w) (List.mem_of_getElem? e)
  exact this⟩
/-- what a def of the module is known to be -/
structure DefF (K : PySem.W.Frag) (mg : Str → Option Value) (x : Str) (st : Stmt) (dvs : List V) (kws : List (Str × V)) : Prop where
  fd : ∃ fd, FunD K x x (defArgs st) (defBody st) (defScope st) dvs kws (He.ga K x) fd
  mg : mg x = some (.ref (He.ga K x))
/-- a method of a class -/
structure MetF (K : PySem.W.Frag) (c m q : Str) (st : Stmt) (dvs : List V) (kws : List (Str × V)) : Prop where
  fd : ∃ fd, FunD K m q (defArgs st) (defBody st) (defScope st) dvs kws (He.ma K (He.ga K c) m) fd
  me : Meth K (He.ga K c) m (He.ma K (He.ga K c) m)
/-- a def, by what it computes -/
def DefOk (P : Program) (w : World) (K : PySem.W.Frag) (mg : Str → Option Value) (base : Heap) (k : Nat) (x : Str) (ps : List Str) (F : Fn) : Prop :=
  ∃ fd, FnOk P w K mg base (L2.CX P w) k (He.ga K x) fd ps (spOf (wd P w K) mg ps.length F) ∧ Binds K fd ps [] ∧ mg x = some (.ref (He.ga K x)) ∧ PySem.W.keepIn K (.ref (He.ga K x)) = true
/-- the law's def -/
def LawOk (P : Program) (w : World) (K : PySem.W.Frag) (mg : (Str → Option Value)) (base : Heap) (k : Nat) (ps : List Str) (F : Fn) (st : Stmt) : Prop :=
  ∃ fd, FunD K "law" "law" (defArgs st) (defBody st) (defScope st) [] [] (He.ga K "law") fd ∧ FnOk P w K mg base (L2.CX P w) k (He.ga K "law") fd ps (spOf (wd P w K) mg ps.length F) ∧ mg "law" = some (.ref (He.ga K "law"))
end DL
set_option Elab.async false
set_option linter.all false
set_option maxRecDepth 100000
set_option maxHeartbeats 1900000
/-! DL13: dicts written out, with keys that are written. -/
namespace DL
open L2 PyProof.Rows PySem PySem.Spec
section
variable {X : Cx} {Wx : WX}
end
end DL
set_option Elab.async false
set_option linter.all false
set_option maxRecDepth 100000
set_option maxHeartbeats 1900000
/-! CF: list comprehensions of two clauses. -/
namespace L2
open PyProof.Rows PySem PySem.Spec
end L2
namespace DL
open L2 PyProof.Rows PySem PySem.Spec
section
variable {X : Cx} {Wx : WX} {elt tg iter tg1 iter1 : Expr} {ifs ifs1 : List Expr} {scope : Scope} {own : List (Str × Nat)} {pos spos py : Pos} {mi mi1 : Env → M (List D)} {js js1 : List Nat} {G G1 : Tg} {t t1 : Env → M Bool} {m : ME} {vs1 : List Nat} {i : Nat} {y : Str}
end
end DL
set_option Elab.async false
set_option linter.all false
set_option maxRecDepth 100000
set_option maxHeartbeats 1900000
/-! DL14: lists from behind. -/
namespace DL
open L2 PyProof.Rows PySem PySem.Spec
end DL
set_option Elab.async false
set_option linter.all false
set_option maxRecDepth 100000
set_option maxHeartbeats 1900000
/-! DL15: dict displays that will change; stores by index, two at once. -/
namespace DL
open L2 PyProof.Rows PySem PySem.Spec
section
variable {K : Wd} {mg : Str → Option Value} {ca : Ca} {H : Hp} {cc : Cs} {g : Addr → Prop} {p : Addr}
/-- a hidden thing becomes a cell -/
theorem Mn.bare (hg : ∀ a, g a → ca.g a) (gp : ca.g p) : Mn ca H ((ca.back g).snoc p) H := by
  refine ⟨by rw [snoc_len]; exact Nat.le_succ _, ?_, ?_⟩
  · intro n a lt e
    rwa [snoc_lt (ca := ca.back g) lt] at e
  · intro a u e _ out
    refine ⟨e, fun l => out ?_⟩
    rcases live_snoc.mp l with l | rfl
    · exact live_back hg l
    · exact .inr gp
theorem CsOk.bare {c : C} (h : CsOk K mg ca H cc) (hg : ∀ a, g a → ca.g a) (gp : ca.g p) (np : ¬ g p) (d : DenC K mg ((ca.back g).snoc p) H c p) : CsOk K mg ((ca.back g).snoc p) H (cc ++ [some c]) := by
  have apart : ∀ n, ca.l[n]? ≠ some (some p) := fun n e => h.gd n p e gp
  have len : (ca.back g).l.length = cc.length := h.len
  refine ⟨by rw [snoc_len, len]; simp, ?_, ?_, ?_, fun a ga => h.gh a (hg a ga), ?_, h.tabs.step (Mn.bare hg gp).kp fun _ _ z => z⟩
  · intro n a e
    rcases snoc_split e with e | ⟨rfl, rfl⟩
    · obtain ⟨c', at_n, d'⟩ := h.at_ n a e
      refine ⟨c', ?_, d'.mn (Mn.bare hg gp) rfl⟩
      rw [List.getElem?_append_left (List.getElem?_eq_some_iff.mp at_n).1, at_n]
    · refine ⟨c, ?_, d⟩
      rw [len, List.getElem?_append_right (Nat.le_refl _), Nat.sub_self]
      rfl
  · intro n c' e
    rcases Nat.lt_or_ge n cc.length with lt | ge
    · rw [List.getElem?_append_left lt] at e
      obtain ⟨a, q⟩ := h.live n c' e
      exact ⟨a, by rw [snoc_lt (ca := ca.back g) (by rw [len]; exact lt)]; exact q⟩
    · have here : n = cc.length := by
        have := (List.getElem?_eq_some_iff.mp e).1
        rw [List.length_append, List.length_singleton] at this
        omega
      exact ⟨p, by rw [here, ← len]; exact snoc_eq⟩
  · intro n m a e1 e2
    rcases snoc_split e1 with q1 | ⟨q1, r1⟩
    · rcases snoc_split e2 with q2 | ⟨q2, r2⟩
      · exact h.inj n m a q1 q2
      · exact absurd (r2 ▸ q1) (apart n)
    · rcases snoc_split e2 with q2 | ⟨q2, r2⟩
      · exact absurd (r1 ▸ q2) (apart m)
      · exact q1.trans q2.symm
  · intro n a e
    rcases snoc_split e with e | ⟨_, rfl⟩
    · exact fun ga => h.gd n a e (hg a ga)
    · exact np
end
section
variable {X : Cx} {Wx : WX}
end
section
variable {X : Cx} {Wx : WX} {o i o2 i2 : Expr} {es : List Expr} {mo mi mp mj : ME} {r : Env → M (List W)} {pa pb pos p1 p2 : Pos} {k x1}
end
end DL
set_option Elab.async false
set_option linter.all false
set_option maxRecDepth 100000
set_option maxHeartbeats 1900000
/-! DL16: list(range(n)). -/
namespace DL
open L2 PyProof.Rows PySem PySem.Spec
end DL
set_option Elab.async false
set_option linter.all false
set_option maxRecDepth 100000
set_option maxHeartbeats 1900000
/-! DN1: comprehensions of dicts whose keys are tuples; comprehensions that are changed later; d.get. -/
namespace DL
open L2 PyProof.Rows PySem PySem.Spec
/-! ### what is filled becomes a cell -/
section
variable {K : Wd} {mg : Str → Option Value} {α : Type}
end
/-! ### keys that are tuples, with values -/
section
variable {X : Cx} {Wx : WX} {kx vx elt tg iter tg1 iter1 : Expr} {ifs ifs1 : List Expr} {scope : Scope} {own : List (Str × Nat)} {pos spos py p2 : Pos} {mi mi1 : Env → M (List D)} {js js1 : List Nat} {G G1 : Tg} {t t1 : Env → M Bool} {m mv : ME} {vs1 : List Nat} {i j : Nat} {y : Str}
end
/-! ### {}, list(d), d.get -/
section
variable {X : Cx} {Wx : WX} {o e f : Expr} {mo me mz : ME} {apos cpos pos : Pos} {td ty tx : TE}
end
end DL
set_option Elab.async false
set_option linter.all false
set_option maxRecDepth 100000
set_option maxHeartbeats 1900000
/-! DN2: dict(pairs), the keys tuples. -/
namespace DL
open L2 PyProof.Rows PySem PySem.Spec
/-- entries and what they tell -/
structure NP (K : Wd) (mg : Str → Option Value) (L : Addr → Prop) (H : Hp) (ks : List D) (vs : List V) (es : List (NestedKey × Addr × Value)) : Prop where
  t : tks ks = some (es.map (·.1))
  once : (es.map (·.1)).Nodup
  d : DenL K mg L H ks (es.map fun x => V.ref x.2.1)
  rel : Vals vs (es.map fun x => x.2.2)
theorem NP.put {K : Wd} {mg : Str → Option Value} {L : Addr → Prop} {H : Hp} {b : Addr} {ks : List D} {vs : List V} {es : List (NestedKey × Addr × Value)} {kd : D} {k : NestedKey} {v : V} {r : Value} (h : NP K mg L H ks vs es) (tkd : tk kd = some k) (dk : DenD K mg L H kd (.ref b)) (rv : RelV v r) :
    NP K mg L H (putN ks vs k kd v).1 (putN ks vs k kd v).2 (storedH es k b r) := by
  unfold putN
  by_cases m : k ∈ es.map (·.1)
  · rw [if_pos ((has_mem h.t).mpr m)]
    have both := stored_old (b := b) (r := r) m
    have ones : (storedH es k b r).map (·.1) = es.map (·.1) := by
      have := congrArg (List.map (·.1)) both
      simpa [List.map_map, Function.comp_def] using this
    have twos : (storedH es k b r).map (fun x => V.ref x.2.1) = es.map fun x => V.ref x.2.1 := by
      have := congrArg (List.map fun p => V.ref p.2) both
      simpa [List.map_map, Function.comp_def] using this
    have e : storedH es k b r = es.map (putAt k r) := by
      unfold storedH
      rw [if_pos]
      rw [has_at k h.t]
      exact (has_mem h.t).mpr m
    refine ⟨by rw [ones]; exact h.t, by rw [ones]; exact h.once, by rw [twos]; exact h.d, ?_⟩
    rw [e]
    exact vals_put rv h.t h.rel
  · rw [if_neg (fun z => m ((has_mem h.t).mp z)), stored_new (b := b) (r := r) m]
    refine ⟨?_, ?_, ?_, ?_⟩
    · rw [List.map_append]
      exact tks_snoc h.t tkd
    · (rw [List.map_append, List.nodup_append])
      refine ⟨h.once, List.nodup_cons.mpr ⟨List.not_mem_nil, List.nodup_nil⟩, ?_⟩
      intro x mx y my z
      have e2 : y = k := by simpa using my
      rw [z, e2] at mx
      exact m mx
    · rw [List.map_append]
      exact h.d.snoc dk
    · rw [List.map_append]
      exact vals_snoc h.rel rv
section
variable {X : Cx} {pins : List (Addr × Obj)} {σ : L2.St} {H : Hp} {s : Shared} {L : Addr → Prop}
end
section
variable {X : Cx} {Wx : WX} {p pos : Pos} {e : Expr} {es : List Expr} {r : Env → M (List W)}
end
end DL
set_option Elab.async false
set_option linter.all false
set_option maxRecDepth 100000
set_option maxHeartbeats 1900000
/-! DN3: a list times a number. -/
namespace DL
open L2 PyProof.Rows PySem PySem.Spec
def dRep (x y : D) : Option D := match x, y with
  | .lst ds, .int j => if 0 ≤ j ∧ j ≤ 1000 ∧ ds.length ≤ 1000 then some (.lst (repL j.toNat ds)) else none
  | _, _ => none
theorem denL_rep {K : Wd} {mg : Str → Option Value} {L : Addr → Prop} {H : Hp} {ds : List D} {vs : List V} (d : DenL K mg L H ds vs) : ∀ n : Nat, DenL K mg L H (repL n ds) (List.replicate n vs).flatten
  | 0 => rfl
  | n + 1 => by
    have h := denL_rep d n
    unfold repL at h ⊢
    rw [List.replicate_succ, List.flatten_cons, List.replicate_succ, List.flatten_cons]
    exact d.append h
variable {X : Cx}
theorem opd_rep : OpD X rRep dRep := fun {ca cc H x y z v u Q} hc dx dy e k => by
  unfold dRep at e
  split at e
  · rename_i ds j
    split at e
    · rename_i hl
      cases e
      obtain ⟨a, vs, rfl, h2, h3⟩ := dx
      obtain ⟨j0, j1, few⟩ := hl
      have room : vs.length * j.toNat ≤ sizeLine := by
        have a1 : vs.length * j.toNat ≤ 1000 * 1000 := Nat.mul_le_mul (by rw [h3.length]; exact few) (by omega)
        have a2 := sizeLine_eq
        omega
      refine ⟨a, j, vs, rfl, dy, h2, ?_, ?_, room, fun p hp => k _ _ (Stp.new hc hp) (hc.new hp) (den_lst_new hc (denL_rep h3 j.toNat) hp)⟩
      · omega
      · omega
    · cases e
  · cases e
end DL
set_option Elab.async false
set_option linter.all false
set_option maxRecDepth 100000
set_option maxHeartbeats 1900000
/-! DN4: sorted(..) of data, as one list. -/
namespace DL
open L2 PyProof.Rows PySem PySem.Spec
section
variable {X : Cx}
end
end DL
set_option Elab.async false
set_option linter.all false
set_option maxRecDepth 100000
set_option maxHeartbeats 1900000
/-! DN5: operators of own classes. -/
namespace DL
open L2 PyProof.Rows PySem PySem.Spec
section
variable {X : Cx} {a b : Expr} {pos : Pos} {ta tb : TE}
end
section
variable {X : Cx} {Wx : WX} {c : Str} {Cl f : Addr} {F : Fn} {a b : Expr} {ma mb : ME} {k : Nat} {fd : FuncData} {ps : List Str} {pos : Pos} {op : Operator}
end
end DL
set_option Elab.async false
set_option linter.all false
set_option maxRecDepth 100000
set_option maxHeartbeats 1900000
/-! DN6: own classes as values; isinstance of an own class. -/
namespace DL
open L2 PyProof.Rows PySem PySem.Spec
section
variable {X : Cx} {Wx : WX} {c : Str} {Cl : Addr} {pos : Pos}
end
/-- a def that a module knows by another name -/
structure DefA (K : PySem.W.Frag) (mg : Str → Option Value) (x y : Str) (st : Stmt) (dvs : List V) (kws : List (Str × V)) : Prop where
  fd : ∃ fd, FunD K y y (defArgs st) (defBody st) (defScope st) dvs kws (He.ga K x) fd
  mg : mg x = some (.ref (He.ga K x))
end DL
set_option Elab.async false
set_option linter.all false
set_option maxRecDepth 100000
set_option maxHeartbeats 1900000
/-! DN7: x in an object by its class; list.extend. -/
namespace DL
open L2 PyProof.Rows PySem PySem.Spec
section
variable {X : Cx} {a b : Expr} {ta tb : TE} {C f : Addr} {CX : CXT} {k : Nat} {fd : FuncData} {ps : List Str} {sp : Sp} {E : L2.St → XK}
end
section
variable {X : Cx} {Wx : WX} {c : Str} {Cl f : Addr} {F : Fn} {a b : Expr} {ma mb : ME} {k : Nat} {fd : FuncData} {ps : List Str} {pos : Pos}
end
/-! ### xs.extend(ys) -/
end DL
set_option Elab.async false
set_option linter.all false
set_option maxRecDepth 100000
set_option maxHeartbeats 1900000
/-! HY: the facts that the printed derivations ask for, from the head's parts. -/
namespace DL
open L2 PyProof.Rows PySem PySem.Spec
mutual
/-- the value of the text is this data -/
def ckD (K : PySem.W.Frag) : D → Value → Bool
  | .non, .none => true
  | .bl b, .bool c => b == c
  | .int i, .int k _ => decide (i = k)
  | .str x, .str y _ => eqS x y
  | .tup ds, .ref a => (match K.lookup a with
    | some ⟨.type c, _, .seq its _, _⟩ => decide (c = "tuple") && (decide (its.size ≤ sizeLine) && ckDs K ds its.toList)
    | _ => false)
  | _, _ => false
def ckDs (K : PySem.W.Frag) : List D → List Value → Bool
  | [], [] => true
  | d :: ds, v :: vs => ckD K d v && ckDs K ds vs
  | _, _ => false
end
section
variable {K : PySem.W.Frag}
mutual
theorem ckD_ok : ∀ (d : D) (v : Value), ckD K d v = true → ∃ u, RelV u v ∧ ∀ (P : Program) (w : World) mg L H, DenD (wd P w K) mg L H d u
  | .non, v, h => by
    cases v <;> first | exact ⟨.non, rfl, fun _ _ _ _ _ => rfl⟩ | cases h
  | .bl b, v, h => by
    cases v <;> first | cases h | skip
    rename_i c
    have e : b = c := by simpa [ckD] using h
    subst e
    exact ⟨.bl b, rfl, fun _ _ _ _ _ => rfl⟩
  | .int i, v, h => by
    cases v <;> first | cases h | skip
    rename_i j t
    have e : i = j := by simpa [ckD] using h
    subst e
    exact ⟨.int i, ⟨t, rfl⟩, fun _ _ _ _ _ => rfl⟩
  | .str x, v, h => by
    cases v <;> first | cases h | skip
    rename_i y t
    have e : x = y := eqS_iff.mp (by simpa [ckD] using h)
    subst e
    exact ⟨.str x, ⟨t, rfl⟩, fun _ _ _ _ _ => rfl⟩
  | .tup ds, v, h => by
    cases v <;> first | cases h | skip
    rename_i a
    simp only [ckD] at h
    split at h
    · rename_i c _ its n _ q
      simp only [decide_eq_true_eq, Bool.and_eq_true] at h
      obtain ⟨h1, h2, h3⟩ := h
      subst h1
      obtain ⟨us, r, d⟩ := ckDs_ok ds its.toList h3
      exact ⟨.ref a, rfl, fun P w mg L H => ⟨a, us, rfl, .inr ⟨_, its, n, q, rfl, rfl, h2, r⟩, d P w mg L H⟩⟩
    · cases h
  | .lst _, v, h => by cases v <;> cases h
  | .scr _, v, h => by cases v <;> cases h
  | .dct _ _, v, h => by cases v <;> cases h
  | .obj _ _ _, v, h => by cases v <;> cases h
  | .glo _, v, h => by cases v <;> cases h
  | .ty _, v, h => by cases v <;> cases h
  | .dkn _, v, h => by cases v <;> cases h
  | .dkv _ _, v, h => by cases v <;> cases h
  | .exc _ _ _, v, h => by cases v <;> cases h
theorem ckDs_ok : ∀ (ds : List D) (vs : List Value), ckDs K ds vs = true → ∃ us, Vals us vs ∧ ∀ (P : Program) (w : World) mg L H, DenL (wd P w K) mg L H ds us
  | [], [], _ => ⟨[], .nil, fun _ _ _ _ _ => rfl⟩
  | [], _ :: _, h => by cases h
  | _ :: _, [], h => by cases h
  | d :: ds, v :: vs, h => by
    simp only [ckDs, Bool.and_eq_true] at h
    obtain ⟨u, r, e⟩ := ckD_ok d v h.1
    obtain ⟨us, rs, es⟩ := ckDs_ok ds vs h.2
    exact ⟨u :: us, .cons r rs, fun P w mg L H => ⟨u, us, rfl, e P w mg L H, es P w mg L H⟩⟩
end
structure ConF (K : PySem.W.Frag) (mg : Str → Option Value) (x : Str) (d : D) : Prop where
  ex : ∃ u v, mg x = some v ∧ RelV u v ∧ ∀ (P : Program) (w : World) L H, DenD (wd P w K) mg L H d u
end
end DL
set_option Elab.async false
set_option linter.all false
set_option maxRecDepth 100000
set_option maxHeartbeats 1900000
/-! DH: a law's def called by the claim's caller, its code tables empty. -/
namespace DL
open L2 PyProof.Rows PySem PySem.Spec
/-- what the abstract heap of the caller tracks: the tables, perhaps the script -/
structure Tracks (K : PySem.W.Frag) (s : Shared) (a : Addr) (T : List Addr) (H : Hp) : Prop where
  tabs : ∀ b ∈ T, H b = some (.tbl #[])
  kind : ∀ b, H b = none ∨ b ∈ T ∨ ∃ o xs, H b = some (.frz o (.lst xs))
  only : ∀ b, H b ≠ none → b = a ∨ b ∈ T
  out : H a ≠ none → K.lookup a = none
section
variable {P : Program} {w : World} {K : PySem.W.Frag} {mg mb : Str → Option Value} {CX : CXT} {k : Nat} {fa a : Addr} {cs : List (Addr × Addr)} {fd : FuncData} {x : Str} {sp : Sp} {s : Shared} {vs : List Value} {ns : List Int}
theorem hid_free {H : Hp} {b : Addr} {o : Obj} {T : List Addr} (tr : Tracks K s a T H) (at_a : s.heap.get? a = some { cls := .type "list", data := .seq vs.toArray }) (at_T : ∀ b ∈ T, s.heap.get? b = some { cls := .none, data := .fields #[] }) (e : s.heap.get? b = some o) (n1 : ∀ vs n, o.data ≠ .seq vs n) (n2 : o.data ≠ .fields #[]) :
    H b = none := by
  rcases hb : H b with _ | u
  · rfl
  · exfalso
    rcases tr.only b (fun z => nomatch hb.symm.trans z) with rfl | m
    · have q := Option.some.inj (at_a.symm.trans e)
      exact n1 _ _ (by rw [← q])
    · have q := Option.some.inj ((at_T b m).symm.trans e)
      exact n2 (by rw [← q])
theorem ends_core {H : Hp} (tr : Tracks K s a (cs.map (·.2)) H) (kin : K.In s.heap) (hns : s.heap.Ns mainGlobals mg) (hb : s.heap.Ns builtinsNs mb) (hbb : ∀ x : Str, x ≠ "__name__" → mb x = bootBuiltins x) (lim : s.heap.NoLimit) (gens : s.gens = #[])
    (hT : ∀ p ∈ cs, s.heap.get? p.2 = some { cls := .none, data := .fields #[] }) (nT : ∀ p ∈ cs, K.lookup p.2 = none) (C : ∀ p ∈ cs, PySem.W.CodeHd s.heap p.1 p.2)
    (hbm : ∃ (bm : Addr) (ob : Obj), mg "__builtins__" = some (.ref bm) ∧ bm ≠ builtinsNs ∧ s.heap.get? bm = some ob ∧ ob.cls = .type "module" ∧ ob.dict = some builtinsNs ∧ ob.data = .plain)
    (ha : s.heap.get? a = some { cls := .type "list", data := .seq vs.toArray }) (room : Room k callerA) (F : ∀ base : Heap, K.In base → base.Ns mainGlobals mg → (∀ p ∈ cs, LamX.TabB base mg p.1 p.2) → FnOk P w K mg base CX k fa fd [x] sp) (bind : ∀ (s : Shared) (u : Value), BindsTo s fd ⟨[u], []⟩ [(x, u)])
    (hok : HOk P w H s.heap) (goes : sp [.ref a] H (fun v _ => v = .bl true) fun _ _ _ => False) (hCX : ∀ H e s', CX [] H s (fun _ _ _ => False) e s' → False) :
    codeAny (model P w) callerA (.call (.ref fa) ⟨[.ref a], []⟩) (fun r s' => r = .ok (.ret (.bool true)) ∧ OldK s.heap s'.heap ∧ s'.os = s.os ∧ AllBare s'.gens) s := by
  have at_T : ∀ b ∈ cs.map (·.2), s.heap.get? b = some { cls := .none, data := .fields #[] } := by
    rintro b m
    obtain ⟨p, mp, rfl⟩ := List.mem_map.mp m
    exact hT p mp
  have fre := @hid_free K a s vs H
  have base_of : ∀ {b : Addr} {o : Obj}, s.heap.get? b = some o → H b = none → (hidT s.heap H).get? b = some o := fun e n => hidT_get e n
  have dict_of : ∀ {b : Addr} {o : Obj} {es : Array DictEntry} {ep : Nat}, s.heap.get? b = some o → o.data = .dict es ep → H b = none := fun {b o es ep} e d => fre tr ha at_T e (fun _ _ z => nomatch d.symm.trans z) fun z => nomatch d.symm.trans z
  have ns_of : ∀ {b : Addr} {m : Str → Option Value}, s.heap.Ns b m → (hidT s.heap H).Ns b m := by
    rintro b m ⟨o, es, ep, e, d, more⟩
    exact ⟨o, es, ep, base_of e (dict_of e d), d, more⟩
  have kin2 : K.In (hidT s.heap H) := by
    intro b o e
    refine base_of (kin b o e) ?_
    rcases hb : H b with _ | u
    · rfl
    · exfalso
      rcases tr.only b (fun z => nomatch hb.symm.trans z) with rfl | m
      · exact nomatch (tr.out (fun z => nomatch hb.symm.trans z)).symm.trans e
      · obtain ⟨p, mp, rfl⟩ := List.mem_map.mp m
        exact nomatch (nT p mp).symm.trans e
  have main : L2.Mod K mg (hidT s.heap H) := ⟨kin2, ns_of hns, ⟨mb, ns_of hb, hbb⟩, by
    obtain ⟨mc, h1, h2⟩ := lim
    exact ⟨mc, ns_of h1, h2⟩⟩
  have tabs : ∀ p ∈ cs, LamX.TabB (hidT s.heap H) mg p.1 p.2 := by
    intro p mp
    have tp := hT p mp
    refine ⟨?_, ?_, ?_⟩
    · obtain ⟨o, us, file, tf, flags, tg, inF, text, tt, e1, r1, r2, r3, more⟩ := C p mp
      refine ⟨o, us, file, tf, flags, tg, inF, text, tt, base_of e1 (fre tr ha at_T e1 (fun _ _ z => nomatch r2.symm.trans z) fun z => ?_), r1, r2, r3, more⟩
      have q := Data.fields.inj (r2.symm.trans z)
      rw [q] at r3
      simp at r3
    · (obtain ⟨bm, ob, b1, b2, b3, b4, b5, b6⟩ := hbm)
      refine ⟨bm, ob, b1, b2, ?_, ?_, base_of b3 (fre tr ha at_T b3 (fun _ _ z => nomatch b6.symm.trans z) fun z => nomatch b6.symm.trans z), b4, b5, b6⟩
      · rintro rfl
        obtain ⟨o, es, ep, e, d, _⟩ := hns
        have q := Option.some.inj (b3.symm.trans e)
        rw [q, d] at b6
        exact nomatch b6
      · rintro rfl
        have q := Option.some.inj (b3.symm.trans tp)
        rw [q] at b6
        exact nomatch b6
    · intro z
      obtain ⟨o, es, ep, e, d, _⟩ := hns
      rw [z] at e
      have q := Option.some.inj (tp.symm.trans e)
      rw [← q] at d
      exact nomatch d
  have start : Env0 P w K mg (hidT s.heap H) callerA [] s H := ⟨rfl, main, fun b o e => of_hidT e, Nat.le_of_eq (hidT_size _ _), trivial, (fun b m => absurd (show b ∈ ([] : List Addr) from m) List.not_mem_nil), hok, AllBare.of_eq gens⟩
  refine codeAny_mono ((F _ kin2 (ns_of hns) tabs).run callerA [] s H ⟨[.ref a], []⟩ [.ref a] [.ref a] _ _ room start (bind s (.ref a)) (.cons rfl .nil) goes) ?_
  rintro (e | fl) s' got
  · exact (hCX H e s' got).elim
  · cases fl with
    | ret u =>
      obtain ⟨v, H', os, bare, un, ok2, rel, q⟩ := got
      have q : v = .bl true := q
      subst q
      have eu : u = Value.bool true := rel
      subst eu
      have grown : ∀ p ∈ cs, ∃ more : Array Value, s'.heap.get? p.2 = some { cls := .none, data := .fields more } := fun p mp => by
        obtain ⟨more, z⟩ := un.tbls p.2 #[] (tr.tabs p.2 (List.mem_map.mpr ⟨p, mp, rfl⟩))
        exact ⟨_, ok2 p.2 _ z⟩
      have stay : ∀ b o, b ∉ cs.map (·.2) → s.heap.get? b = some o → s'.heap.get? b = some o := by
        intro b o no e
        rcases tr.kind b with z | z | ⟨ob, xs, z⟩
        · exact un.keep b o e z (fun m => nomatch m) (fun m => nomatch m)
        · exact absurd z no
        · obtain ⟨e1, _⟩ := hok b _ z
          obtain ⟨e2, _⟩ := ok2 b _ (un.frzs b ob _ z)
          rw [Option.some.inj (e.symm.trans e1)]
          exact e2
      (refine ⟨rfl, ⟨fun b o e => ?_, fun b o e => ?_⟩, os, bare⟩)
      · by_cases m : b ∈ cs.map (·.2)
        · obtain ⟨p, mp, rfl⟩ := List.mem_map.mp m
          obtain ⟨more, hm⟩ := grown p mp
          have q := Option.some.inj ((hT p mp).symm.trans e)
          subst q
          exact .inr (.inl ⟨((C p mp).tab (hT p mp)).isCodeTable, rfl, #[], more, rfl, by rw [Array.empty_append]; exact hm⟩)
        · exact .inl (stay b o m e)
      · by_cases m : b ∈ cs.map (·.2)
        · obtain ⟨p, mp, rfl⟩ := List.mem_map.mp m
          obtain ⟨more, hm⟩ := grown p mp
          exact ⟨_, hm⟩
        · exact ⟨o, stay b o m e⟩
    | _ => exact False.elim got
theorem law_ends (kin : K.In s.heap) (hns : s.heap.Ns mainGlobals mg) (hb : s.heap.Ns builtinsNs mb) (hbb : ∀ x : Str, x ≠ "__name__" → mb x = bootBuiltins x) (lim : s.heap.NoLimit) (gens : s.gens = #[])
    (hT : ∀ p ∈ cs, s.heap.get? p.2 = some { cls := .none, data := .fields #[] }) (nT : ∀ p ∈ cs, K.lookup p.2 = none) (C : ∀ p ∈ cs, PySem.W.CodeHd s.heap p.1 p.2)
    (hbm : ∃ (bm : Addr) (ob : Obj), mg "__builtins__" = some (.ref bm) ∧ bm ≠ builtinsNs ∧ s.heap.get? bm = some ob ∧ ob.cls = .type "module" ∧ ob.dict = some builtinsNs ∧ ob.data = .plain)
    (ha : s.heap.get? a = some { cls := .type "list", data := .seq vs.toArray }) (hi : IntsAre vs ns) (few : ns.length ≤ sizeLine) (room : Room k callerA) (F : ∀ base : Heap, K.In base → base.Ns mainGlobals mg → (∀ p ∈ cs, LamX.TabB base mg p.1 p.2) → FnOk P w K mg base CX k fa fd [x] sp)
    (bind : ∀ (s : Shared) (u : Value), BindsTo s fd ⟨[u], []⟩ [(x, u)]) (goes : ∀ H : Hp, (∀ p ∈ cs, H p.2 = some (.tbl #[])) → SqL K H a (ns.map V.int) → sp [.ref a] H (fun v _ => v = .bl true) fun _ _ _ => False) (hCX : ∀ H e s', CX [] H s (fun _ _ _ => False) e s' → False) :
    codeAny (model P w) callerA (.call (.ref fa) ⟨[.ref a], []⟩) (fun r s' => r = .ok (.ret (.bool true)) ∧ OldK s.heap s'.heap ∧ s'.os = s.os ∧ AllBare s'.gens) s := by
  have rel := vals_ints hi
  have lenV := hi.length
  have at_T : ∀ b ∈ cs.map (·.2), s.heap.get? b = some { cls := .none, data := .fields #[] } := by
    rintro b m
    obtain ⟨p, mp, rfl⟩ := List.mem_map.mp m
    exact hT p mp
  have a_out : a ∉ cs.map (·.2) := fun m => by
    have q := congrArg Obj.data (Option.some.inj (ha.symm.trans (at_T a m)))
    exact nomatch q
  have of_mem : ∀ p ∈ cs, p.2 ∈ cs.map (·.2) := fun p mp => List.mem_map.mpr ⟨p, mp, rfl⟩
  cases hk : K.lookup a with
  | some o =>
    have e := Option.some.inj (ha.symm.trans (kin a o hk))
    subst e
    have tr : Tracks K s a (cs.map (·.2)) fun b => if b ∈ cs.map (·.2) then some (.tbl #[]) else none := by
      refine ⟨fun b m => if_pos m, fun b => ?_, fun b n => ?_, fun n => ?_⟩
      · by_cases m : b ∈ cs.map (·.2)
        · exact .inr (.inl m)
        · exact .inl (if_neg m)
      · by_cases m : b ∈ cs.map (·.2)
        · exact .inr m
        · exact absurd (if_neg m) n
      · exact absurd (if_neg a_out) n
    refine ends_core tr kin hns hb hbb lim gens hT nT C hbm ha room F bind (fun b u z => ?_) (goes _ (fun p mp => if_pos (of_mem p mp)) (.inr ⟨_, vs.toArray, _, hk, rfl, rfl, rfl, by rw [List.size_toArray, lenV]; exact few, by simpa using rel⟩)) hCX
    by_cases m : b ∈ cs.map (·.2)
    · have q := Option.some.inj ((if_pos m).symm.trans z)
      subst q
      exact at_T b m
    · exact nomatch (if_neg m).symm.trans z
  | none =>
    have tr : Tracks K s a (cs.map (·.2)) fun b => if b = a then some (.frz { cls := .type "list", data := .seq vs.toArray } (.lst (ns.map V.int))) else if b ∈ cs.map (·.2) then some (.tbl #[]) else none := by
      refine ⟨fun b m => (if_neg (show ¬ b = a from fun z => a_out (by rw [← z]; exact m))).trans (if_pos m), fun b => ?_, fun b n => ?_, fun _ => hk⟩
      · by_cases e : b = a
        · exact .inr (.inr ⟨_, _, if_pos e⟩)
        · by_cases m : b ∈ cs.map (·.2)
          · exact .inr (.inl m)
          · exact .inl ((if_neg e).trans (if_neg m))
      · by_cases e : b = a
        · exact .inl e
        · by_cases m : b ∈ cs.map (·.2)
          · exact .inr m
          · exact absurd ((if_neg e).trans (if_neg m)) n
    refine ends_core tr kin hns hb hbb lim gens hT nT C hbm ha room F bind (fun b u z => ?_) (goes _ (fun p mp => (if_neg (show ¬ p.2 = a from fun z => a_out (by rw [← z]; exact of_mem p mp))).trans (if_pos (of_mem p mp))) (.inl (.inr ⟨{ cls := .type "list", data := .seq vs.toArray }, if_pos rfl⟩))) hCX
    by_cases e : b = a
    · have q := Option.some.inj ((if_pos e).symm.trans z)
      subst q
      subst e
      exact ⟨ha, by rw [List.length_map]; exact few, vs, _, rel, ha⟩
    · have z1 := (if_neg e).symm.trans z
      by_cases m : b ∈ cs.map (·.2)
      · have q := Option.some.inj ((if_pos m).symm.trans z1)
        subst q
        exact at_T b m
      · exact nomatch (if_neg m).symm.trans z1
end
/-- what is known of the law's promise at the head's heap -/
def LawEnds (l : PySem.W.OpenLaw) (w : World) (K : PySem.W.Frag) (CX : CXT) (k n : Nat) (x : Str) (mg : Str → Option Value) (fa : Addr) (h : Heap) : Prop :=
  ∃ (fd : FuncData) (cs : List (Addr × Addr)) (sp : Sp), (∀ p ∈ cs, h.get? p.2 = some { cls := .none, data := .fields #[] }) ∧ (∀ p
      ∈ cs, K.lookup p.2 = none) ∧ (∀ p ∈ cs, PySem.W.CodeHd h p.1 p.2) ∧ (∀ (s : Shared) (u : Value), BindsTo s fd ⟨[u], []⟩ [(x, u)]) ∧
    (∀ (H : Hp) (a : Addr) (ns : List Int), ns.length ≤ n → (∀ z ∈ ns, Builtin.Int.intBits z ≤ 1048576) → (∀ p ∈ cs, H
        p.2 = some (.tbl #[])) → SqL K H a (ns.map V.int) → sp [.ref a] H (fun v _ => v = .bl true) fun _ _ _ => False) ∧
    ∀ base : Heap, K.In base → base.Ns mainGlobals mg → (∀ p ∈ cs, LamX.TabB base mg p.1 p.2) → FnOk l.prog w K mg base CX k fa fd [x] sp
theorem walk_ends {l : PySem.W.OpenLaw} {n k : Nat} {q : Program} {loose : List Str} {XP : (Str → Option Value) → Heap → Prop} {YP : World → Heap → Prop} {d : DefRec} {CX : World → CXT} {x : Str} (most : l.most = some n) (fits : n ≤ sizeLine) (plain : d.params.defaults = []) (room : Room k callerA)
    (F : ∀ (w : World) (mg : Str → Option Value) (fa : Addr) (h : Heap), YP w h → h.Ns mainGlobals mg → mg d.name = some (.ref fa) → ∃ K : PySem.W.Frag, K.In h ∧ LawEnds l w K (CX w) k n x mg fa h) (hCX : ∀ (w : World) (H : Hp) (s : Shared) (e : Value) (s' : Shared), CX w [] H s (fun _ _ _ => False) e s' → False) :
    PySem.W.WalkO q loose XP YP l.row.toRowW
        d [] (fun f vs => PySem.call f vs) := by
  refine Att.attach_callB most plain fun w s₀ s₁ mg mb fa o pm cd doc a vs ns G Y ho hd hcd hmg hobj isI len bits gens => ?_
  obtain ⟨K, kin, fd, cs, sp, hT, nT, C, bind, goes, ok⟩ := F w mg fa _ Y G.T.g hmg
  exact law_ends kin G.T.g G.T.b G.T.builtins G.T.nolimit gens hT nT C G.T.bmain hobj isI (Nat.le_trans len fits) room ok bind (fun H h1 h2 => goes H a ns len bits h1 h2) fun H e s' => hCX w H s₁ e s'
end DL
set_option Elab.async false
set_option linter.all false
set_option maxRecDepth 100000
set_option maxHeartbeats 1900000
/-! HZ: the end of a law over the D-layer. -/
namespace DL
open L2 PyProof.Rows PySem PySem.Spec
/-- nothing is raised -/
abbrev XN : CXT := fun _ _ _ _ _ _ => False
theorem fn_noX {P : Program} {w : World} {K : PySem.W.Frag} {mg : (Str → Option Value)} {base : Heap} {k : Nat} {f : Addr} {fd : FuncData} {ps : List Str} {sp : Sp} (F : FnOk P w K mg base (L2.CX P w) k f fd ps sp) :
    FnOk P w K mg base XN k f fd ps (fun vs H Q _ => sp vs H Q fun _ _ _ => False) := by
  refine ⟨fun vs H Q _ q => F.len vs H Q _ q, ?_⟩
  intro A outer s H args us vs Q E room env binds rel q
  refine codeAny_mono (F.run A outer s H args us vs Q _ room env binds rel q) ?_
  rintro (e | fl) s' got
  · obtain ⟨_, _, _, _, _, _, _, _, _, _, _, _, z⟩ := got
    exact z.elim
  · cases fl <;> exact got
/-- one record, one def -/
theorem fd_same {K : PySem.W.Frag} {x q : Str} {a : Arguments} {b : List Stmt} {sc : Scope} {dv : List V} {kw : List (Str × V)} {f : Addr} {fd fd' : FuncData} (F : FunD K x q a b sc dv kw f fd) (F' : FunD K x q a b sc dv kw f fd') : fd = fd' := by
  obtain ⟨_, _, _, _, _, _, _, _, _, _, _, at_f, _⟩ := F.ex
  obtain ⟨_, _, _, _, _, _, _, _, _, _, _, at_f', _⟩ := F'.ex
  have e := at_f.symm.trans at_f'
  simp only [Option.some.injEq, Obj.mk.injEq, Data.func.injEq] at e
  exact e.2.2.1
/-- the tables as the law finds them -/
theorem tbs_start {K : PySem.W.Frag} {H : Hp} {L : Addr → Prop} (h : ∀ p ∈ (tabs3 K).map (fun t => (t.1, t.2.1)), H p.2 = some (.tbl #[])) : Tbs (tabsK K) L H := by
  intro p hp
  obtain ⟨t, mt, rfl⟩ := List.mem_map.mp hp
  refine ⟨#[], h (t.1, t.2.1) (List.mem_map.mpr ⟨t, mt, rfl⟩), True.intro, fun pos cv hc => ?_⟩
  have none_there : codeAmong pos [] = some cv := hc
  simp [codeAmong] at none_there
theorem no_cells {K : Wd} {mg : (Str → Option Value)} {H : Hp} (h : ∀ p ∈ (tabs3 K.K).map (fun t => (t.1, t.2.1)), H p.2 = some (.tbl #[])) : CsOk K mg ⟨[], fun _ => False⟩ H [] := by
  refine ⟨rfl, ?_, ?_, ?_, ?_, ?_, tbs_start h⟩
  · intro n a e
    simp at e
  · intro n c e
    simp at e
  · intro n m a e
    simp at e
  · exact fun _ z => z.elim
  · exact fun _ _ _ z => z
/-- the script of a law is data -/
theorem den_script {K : Wd} {mg : (Str → Option Value)} {H : Hp} {a : Addr} {ns : List Int} (known : SqL K H a (ns.map V.int)) : DenD K mg (Live ⟨[], fun _ => False⟩) H (.scr (ns.map .int)) (.ref a) := by
  have items : ∀ ns : List Int, DenL K mg (Live ⟨[], fun _ => False⟩) H (ns.map .int) (ns.map V.int) := by
    intro ns
    induction ns with
    | nil => exact rfl
    | cons n ns ih => exact ⟨_, _, rfl, rfl, ih⟩
  refine ⟨a, _, rfl, ?_, items ns⟩
  have free : ¬ Live ⟨[], fun _ => False⟩ a := by
    rintro (z | z)
    · exact nomatch z
    · exact z
  rcases known with h | h
  · exact .inl ⟨free, h⟩
  · exact .inr h
/-- the def `law` gives True at every script: what its promise then says -/
theorem law_says {K : Wd} {mg : (Str → Option Value)} {F : Fn} {H : Hp} {a : Addr} {ns : List Int} {cc : Cs} (tabs : ∀ p ∈ (tabs3 K.K).map (fun t => (t.1, t.2.1)), H p.2 = some (.tbl #[])) (known : SqL K H a (ns.map V.int)) (law : F [.d (.scr (ns.map .int))] [] = .ok (.d (.bl true)) cc) :
    spOf K mg 1 F [.ref a] H (fun v _ => v = .bl true) fun _ _ _ => False := by
  refine ⟨[.d (.scr (ns.map .int))], ⟨[], fun _ => False⟩, [], rfl, ⟨_, _, rfl, den_script known, rfl⟩, no_cells tabs, ?_⟩
  rw [law]
  intro v H' ca' _ _ d
  exact d
/-- what the making of lambdas asks for -/
structure TbF (K : PySem.W.Frag) (mg : Str → Option Value) (base : Heap) : Prop where
  tb : ∀ t ∈ tabs3 K, LamX.TabB base mg t.1 t.2.1
  one : ∀ t ∈ tabs3 K, ∀ u ∈ tabs3 K, u.2.1 = t.2.1 → u.2.2 = t.2.2
end DL
set_option Elab.async false
set_option linter.all false
set_option maxRecDepth 100000
set_option maxHeartbeats 1900000
/-! OV: a def's mirror put aside for a plainer one. -/
namespace DL
open L2 PyProof.Rows PySem PySem.Spec
/-- on states that can be, F does as G, or says nothing -/
def FnLe (F G : Fn) : Prop := ∀ ws cc, okBelow cc.length cc = true → (∀ w ∈ ws, okBelow1 cc.length w = true) → F ws cc = .stuck ∨ F ws cc = G ws cc
section
variable {K : Wd} {mg : (Str → Option Value)} {ca : Ca} {H : Hp} {cc : Cs}
theorem denW_below : ∀ {w : W} {v : V}, DenW K mg ca H w v → okBelow1 ca.l.length w = true
  | .d _, _, _ => rfl
  | .cell _, _, h => decide_eq_true h.1
theorem denWs_below : ∀ {ws : List W} {vs : List V}, DenWs K mg ca H ws vs → ∀ w ∈ ws, okBelow1 ca.l.length w = true
  | [], _, _, _, m => nomatch m
  | _ :: _, _, ⟨_, _, _, d, ds⟩, w, m => by
    rcases List.mem_cons.mp m with rfl | m
    · exact denW_below d
    · exact denWs_below ds w m
theorem okBelow_of {n : Nat} : ∀ {cs : Cs}, (∀ (i : Nat) (c : C), cs[i]? = some (some c) → match c with | .lst _ => True | .dct _ ws => ∀ w ∈ ws, okBelow1 n w = true | .obj _ _ ws => ∀ w ∈ ws, okBelow1 n w = true | .dkv _ ws => ∀ w ∈ ws, okBelow1 n w = true) → okBelow n cs = true
  | [], _ => rfl
  | none :: cs, h => by
    rw [okBelow]
    exact okBelow_of fun i c e => h (i + 1) c e
  | some c :: cs, h => by
    have rest : okBelow n cs = true := okBelow_of fun i c e => h (i + 1) c e
    have here := h 0 c rfl
    cases c with
    | lst ds => exact rest
    | dct ks ws =>
      rw [okBelow, Bool.and_eq_true]
      exact ⟨List.all_eq_true.mpr here, rest⟩
    | obj cn ns ws =>
      rw [okBelow, Bool.and_eq_true]
      exact ⟨List.all_eq_true.mpr here, rest⟩
    | dkv ks ws =>
      rw [okBelow, Bool.and_eq_true]
      exact ⟨List.all_eq_true.mpr here, rest⟩
theorem CsOk.below (h : CsOk K mg ca H cc) : okBelow cc.length cc = true := by
  apply okBelow_of
  intro i c e
  obtain ⟨a, at_i⟩ := h.live i c e
  obtain ⟨c', e', d⟩ := h.at_ i a at_i
  cases e.symm.trans e'
  rw [← h.len]
  cases c with
  | lst ds => exact True.intro
  | dct ks ws =>
    obtain ⟨_, _, _, d⟩ := d
    exact denWs_below d
  | obj cn ns ws =>
    obtain ⟨_, _, _, _, _, _, d⟩ := d
    exact denWs_below d
  | dkv ks ws =>
    obtain ⟨_, _, d⟩ := d
    exact denWs_below d
theorem spOf_le {F G : Fn} {n : Nat} {vs : List V} {Q : VK} {E : XK} (le : FnLe F G) (h : spOf K mg n F vs H Q E) : spOf K mg n G vs H Q E := by
  obtain ⟨ws, ca, cc, len, d, c, k⟩ := h
  refine ⟨ws, ca, cc, len, d, c, ?_⟩
  rcases le ws cc c.below (by rw [← c.len]; exact denWs_below d) with e | e
  · rw [e] at k
    exact k.elim
  · rw [e] at k
    exact k
end
section
variable {P : Program} {w : World} {K : PySem.W.Frag} {mg : (Str → Option Value)} {base : Heap} {k n : Nat} {f : Addr} {fd : FuncData} {ps : List Str} {F G : Fn} {x : Str}
theorem fnOk_le (le : FnLe F G) (h : FnOk P w K mg base (L2.CX P w) k f fd ps (spOf (wd P w K) mg n G)) : FnOk P w K mg base (L2.CX P w) k f fd ps (spOf (wd P w K) mg n F) := h.imp fun _ _ _ _ q => spOf_le le q
theorem DefOk.le (le : FnLe F G) (h : DefOk P w K mg base k x ps G) : DefOk P w K mg base k x ps F := by
  obtain ⟨fd, ok, more⟩ := h
  exact ⟨fd, fnOk_le le ok, more⟩
end
/-- a def of data alone, that may raise -/
def px (g : List D → Option (Except Ex D)) : Fn := fun ws cc => match allD ws with
  | some xs => match g xs with
    | some (.ok z) => .ok (.d z) cc
    | some (.error e) => .raise e cc
    | none => .stuck
  | none => .stuck
/-- how a body ends that made no cells -/
theorem fnOf_rt {n : Nat} {b : MS} {ws : List W} {cc : Cs} {z : D} (ok : okBelow cc.length cc = true) (h : b (env0 n ws) cc = .rt (.d z) cc) : fnOf n b ws cc = .ok (.d z) cc := by
  unfold fnOf
  rw [h]
  simp only [endFn, cut, List.take_length]
  exact if_pos ⟨ok, rfl⟩
end DL
set_option Elab.async false
set_option linter.all false
set_option maxRecDepth 100000
set_option maxHeartbeats 1900000
/-! DX: own errors: super().__init__(text), one field. -/
namespace DL
open L2 PyProof.Rows PySem PySem.Spec
/-- the frame of a method that has the cell of its class -/
abbrev supEnv (qual : Str) (scope : Scope) (L f : Addr) (cd : Value) (cc : Addr) : PySem.Env := PySem.W.envX qual scope L f cd [("__class__", cc)]
/-- its context -/
def supCx (CX : CXT) (P : Program) (w : World) (K : PySem.W.Frag) (mg : Str → Option Value) (base : Heap) (N : List Str) (qual : Str) (scope : Scope) (f : Addr) (cd : Value) (cc : Addr) (A : Around) (outer : List PySem.Env) (s : Shared) (H : Hp) (E : XK) : Cx where
  prog := P
  w := w
  K := K
  mg := mg
  base := base
  A := A.deeper (supEnv qual scope s.heap.objs.size f cd cc)
  N := N
  s_0 := s
  H_0 := H
  env := supEnv qual scope s.heap.objs.size f cd cc
  outer := outer
  stack := supEnv qual scope s.heap.objs.size f cd cc :: outer
  ex := []
  fn := fun _ => false
  calm := true
  pn := []
  xe := fun e s' => wpAny (model P w) (A.deeper (supEnv qual scope s.heap.objs.size f cd cc)) (leaving (supEnv qual scope s.heap.objs.size f cd cc) e) (fun _ s'' => CX outer H s E e s'') (fun e' s'' => CX outer H s E e' s'') s'
/-- the text of such an __init__ -/
def iniBody (m n : Str) (p0 p1 p2 p3 p4 p5 p6 p7 p8 p9 : Pos) (j : Nat) : List Stmt :=
  [.Expr (.Call (.Attribute (.Call (.Name "super" p0) [] [] p1) "__init__" p2) [.Constant (.str m) j p3] [] p4) p5, .Assign [.Attribute (.Name "self" p6) n p7] (.Name n p8) p9]
/-- what the written part says of such an __init__ -/
structure IniF (file : Str) (K : PySem.W.Frag) (C f : Addr) (fd : FuncData) (n : Str) : Prop where
  ex : ∃ (name qual m : Str) (params : Arguments) (scope : Scope) (dV kV doc pm ct oc : Value) (an od : Option Addr) (osl : Array (Option Value)) (cc cda : Addr) (p0 p1 p2 p3 p4 p5 p6 p7 p8 p9 : Pos) (j : Nat) (ar : Arg) (ccl cl : Value) (cdd cld : Option Addr) (ccs csl : Array (Option Value)) (vs : Array Value) (tf : Tok),
    fd = PySem.W.fnX name qual params (iniBody m n p0 p1 p2 p3 p4 p5 p6 p7 p8 p9 j) scope [("__class__", cc)] dV kV doc pm an (.ref cda) ct ∧ K.lookup f = some ⟨oc, od, .func fd, osl⟩ ∧ PySem.W.codeIn K (.ref cda) qual = true ∧
    (params.posonlyargs ++ params.args).head? = some ar ∧ ar.arg = "self" ∧ K.lookup cda = some ⟨ccl, cdd, .fields vs, ccs⟩ ∧ vs[2]? = some (.str file tf) ∧ K.lookup cc = some ⟨cl, cld, .cell (some (.ref C)), csl⟩ ∧
    scope.kind = .function ∧ scope.isCoroutine = false ∧ scope.isGenerator = false ∧ scope.names.lookup ("self" : Str) = some .local ∧ scope.names.lookup n = some .local ∧ scope.names.lookup ("super" : Str) = some .globalImplicit ∧ scope.names.lookup ("__class__" : Str) = some .free ∧
    (∀ y ∈ scope.names, y.2 ≠ .cell) ∧ (∀ y ∈ scope.names, y.2 = .free → y.1 = "__class__") ∧ (p2.endLine == p4.line) = true
/-- what it says of the class -/
structure ErrC (K : PySem.W.Frag) (C : Addr) (n : Str) : Prop where
  oex : OexC K C
  sup : PySem.W.ks_superIn K C C "__init__" = some (some (.builtin "ValueError.__init__"))
  val : PySem.W.subIn K (.ref C) (.type "ValueError") = some true
  me : PySem.W.mroIn K C (.ref C) = some true
  loose : PySem.W.nsIn K PySem.cStatics "thirdparty.any" = some none
  no : PySem.W.findIn K (.ref C) n = some none
def spIni (C : Addr) (n : Str) : Sp := fun vs H Q _ => ∃ a v, vs = [.ref a, v] ∧ H a = some (exo a C none) ∧ ∀ dx, H dx = none → dx ≠ a → Q .non (upd (upd H dx (exd dx [(n, v)])) a (exo a C (some dx)))
section
variable {CX : CXT} {P : Program} {w : World} {K : PySem.W.Frag} {mg : Str → Option Value} {base : Heap} {qual n : Str} {scope : Scope} {f cc C : Addr} {cd : Value} {A : Around} {outer : List PySem.Env} {s : Shared} {H : Hp} {E : XK}
theorem sup_start {h₁ : Heap} {tk : Nat} {u1 u2 : Value} {v1 v2 : V} (e0 : Env0 P w K mg base A outer s H) (hd : A.handled = none) (kind : scope.kind = .function) (nn : n ≠ "self") (l1 : scope.names.lookup ("self" : Str) = some .local) (l2 : scope.names.lookup n = some .local) (nc : ∀ y ∈ scope.names, y.2 ≠ .cell) (nf : ∀ y ∈ scope.names, y.2 = .free → y.1 = "__class__")
    (hcc : ∃ o v, base.get? cc = some o ∧ o.data = .cell (some v)) (hns : h₁.Ns s.heap.objs.size fun x => (([("self", u1), (n, u2)] : List (Str × Value)).reverse.lookup x)) (kp : ∀ b o, s.heap.get? b = some o → h₁.get? b = some o) (r1 : RelV v1 u1) (r2 : RelV v2 u2) :
    Inv (supCx CX P w K mg base ["self", n] qual scope f cd cc A outer s H E) [] [some v1, some v2] H { s with heap := h₁, toks := tk } := by
  have noA : ∀ b : Addr, b ∉ (supCx CX P w K mg base ["self", n] qual scope f cd cc A outer s H E).ex := fun b z => absurd (show b ∈ ([] : List Addr) from z) List.not_mem_nil
  obtain ⟨oc, vc, hc, dc⟩ := hcc
  obtain ⟨hc1, hc2⟩ := e0.bs cc oc hc
  have one : ∀ {y c}, ([("__class__", cc)] : List (Str × Addr)).lookup y = some c → y = "__class__" ∧ c = cc := fun {y c} e => by
    simp only [List.lookup] at e
    split at e
    · rename_i q
      exact ⟨by simpa using q, (Option.some.inj e).symm⟩
    · exact nomatch e
  refine ⟨⟨e0.mod, kind, rfl, rfl, Nat.le_refl _, fun y z c h1 h2 => (one h1).1.trans (one h2).1.symm, fun y hy => ?_, fun y c h _ => ?_, fun _ => hd, Around.frames_deeper e0.frames, .inr ⟨rfl, rfl⟩, fun b z => absurd z (noA b), e0.bs, e0.bsz, fun b _ _ => noA b, fun b z => absurd z (noA b), e0.funs, e0.frf⟩,
    rfl, e0.bare, Un.kept kp, ⟨_, hns, fun i y v h1 h2 h3 => ?_⟩, fun y c h => ⟨some vc, oc, kp _ _ (by rw [(one h).2]; exact hc1), dc⟩, e0.hok.fresh (Nat.le_refl _), fun y c h => by rw [(one h).2]; exact hc2, fun p hp => absurd (show p ∈ ([] : List (Addr × Obj)) from hp) List.not_mem_nil, e0.hok.kept kp, rfl⟩
  · have hy : scope.names.lookup y = some .cell
      ∨ scope.names.lookup y = some .free := hy
    rcases hy with hy | hy
    · exact absurd rfl (nc _ (PySem.mem_of_lookup hy))
    · have e := nf _ (PySem.mem_of_lookup hy) rfl
      exact ⟨cc, by
        show ([("__class__", cc)] : List (Str × Addr)).lookup y = some cc
        rw [show y = "__class__" from e]
        rfl⟩
  · exact nomatch (show false = true from h)
  · have here : ∀ i : Nat, ([some v1, some v2] : List (Option V))[i]? = some (some v) → (["self", n] : List Str)[i]? = some y → (i = 0 ∧ y = "self" ∧ v = v1) ∨ (i = 1 ∧ y = n ∧ v = v2) := by
      intro i e1 e2
      match i with
      | 0 =>
        simp only [List.getElem?_cons_zero, Option.some.injEq] at e1 e2
        exact .inl ⟨rfl, e2.symm, e1.symm⟩
      | 1 =>
        simp only [List.getElem?_cons_succ, List.getElem?_cons_zero, Option.some.injEq] at e1 e2
        exact .inr ⟨rfl, e2.symm, e1.symm⟩
      | k + 2 => exact nomatch e1
    rcases here i h2 h1 with ⟨rfl, rfl, rfl⟩ | ⟨rfl, rfl, rfl⟩
    · refine ⟨u1, r1, .inl ⟨l1, ?_⟩⟩
      show ([(n, u2), ("self", u1)] : List (Str × Value)).lookup ("self" : Str) = some u1
      have ne : (("self" : Str) == n) = false := beq_false_of_ne (Ne.symm nn)
      simp only [List.lookup, ne]
      rfl
    · refine ⟨u2, r2, .inl ⟨l2, ?_⟩⟩
      show ([(y, u2), ("self", u1)] : List (Str × Value)).lookup y = some u2
      simp [List.lookup]
end
/-- the wrapper's call: BaseException.__init__ of the object -/
theorem wrap_call {X : Cx} {pins : List (Addr × Obj)} {σ : L2.St} {H : Hp} {s : Shared} {C a u : Addr} {us : List Value} {Q : Value → Shared → Prop} {E : Value → Shared → Prop} {A : Around} (T : OexC X.K C) (I : Inv X pins σ H s) (e : H a = some (exo a C none)) (hu : s.heap.get? u = some (PySem.W.kxs_mw "ValueError.__init__" a)) (few : us.length ≤ sizeLine)
    (h : ∀ s', Inv X pins σ H s' → Q .none s') : wpAny (model X.prog X.w) A (call (.ref u) us) Q E s := by
  (obtain ⟨nm, q, N, bs, bm, sn, sub, ab, col, dd, k0, k1, k2, k3, k5, hC, hbm⟩ := T.cls)
  (obtain ⟨t1, ho⟩ := exo_at I.hok e)
  have hC := I.kIn _ _ hC
  obtain ⟨hp, g, d, t, os⟩ := s
  (refine wpAny_call (codeAny_of_tree ?_))
  show wpAny _ A.in1 (callAny (.ref u) ⟨us, []⟩) _ _ _
  simp only [callAny]
  (refine wpAny_bind (wpAny_load hu ?_))
  simp only [PySem.W.kxs_mw, show (Value.type "method-wrapper" == Value.type "method" || Value.type "method-wrapper" == Value.type "builtin_function_or_method" || Value.type "method-wrapper" == Value.type "method-wrapper") = true by decide, if_true]
  (refine PySem.W.KFB.if_so (by decide) ?_)
  refine wpAny_bind (PySem.W.check_bound_init PySem.F.excBase_ValueError.toExcCallFacts hC ho rfl ?_)
  (refine wpAny_bind (wpAny_pure (wpAny_pure ?_)))
  refine ⟨plainId_quiet PySem.F.excBase_ValueError.init.plain _, codeAny_builtin PySem.F.excBase_ValueError.initEntry ?_⟩
  refine PySem.W.exc_init_tree (cls := .ref C) (t0 := t1) (dv := none) (c2 := .none) (c3 := .none) (b4 := .bool false) ho few fun h' k hx _ => ?_
  have J := I.write (t' := t) (x := a) (e := a) (o := exo a C none)
      (by rw [e]; exact True.intro) (.inl rfl) k ⟨_, hx⟩ (exo_ok hx)
  have same : upd H a (exo a C none) = H := by
    funext b
    by_cases hb : b = a
    · rw [hb, upd_same, e]
    · rw [upd_ne hb]
  rw [same] at J
  exact h _ J
section
variable {CX : CXT} {P : Program} {w : World} {K : PySem.W.Frag} {mg : Str → Option Value} {base : Heap} {qual n m file : Str} {scope : Scope} {f cc cda C a : Addr} {A : Around} {outer : List PySem.Env} {s0 s : Shared} {H0 H : Hp} {E : XK} {pins : List (Addr × Obj)} {σ : L2.St} {fd : FuncData} {oc ccl cl : Value} {od cdd cld : Option Addr} {osl ccs csl : Array (Option Value)} {vs : Array Value} {tf : Tok} {ar : Arg}
  {p0 p1 p2 p3 p4 p5 : Pos} {j : Nat} {Q : Flow → Shared → Prop}
theorem sup_stmt (I : Inv (supCx CX P w K mg base ["self", n] qual scope f (.ref cda) cc A outer s0 H0 E) pins σ H s) (hσ : σ[0]? = some (some (.ref a))) (ha : H a = some (exo a C none)) (T : ErrC K C n) (hmain : P.main.file = file) (htop : (P.main.scope.names.lookup ("super" : Str)).isSome = false) (hsup : mg "super" = none)
    (lf : K.lookup f = some ⟨oc, od, .func fd, osl⟩) (hp : (fd.params.posonlyargs ++ fd.params.args).head? = some ar) (har : ar.arg = "self") (lc : K.lookup cda = some ⟨ccl, cdd, .fields vs, ccs⟩) (hvs : vs[2]? = some (.str file tf)) (lcc : K.lookup cc = some ⟨cl, cld, .cell (some (.ref C)), csl⟩)
    (kind : scope.kind = .function) (l1 : scope.names.lookup ("self" : Str) = some .local) (hks : scope.names.lookup ("super" : Str) = some .globalImplicit) (hkc : scope.names.lookup ("__class__" : Str) = some .free) (body : List Stmt) (line : (p2.endLine == p4.line) = true)
    (h : ∀ s', Inv (supCx CX P w K mg base ["self", n] qual scope f (.ref cda) cc A outer s0 H0 E) pins σ H s' → Q .next s') :
    _root_.PySem.wpAt (model P w) (A.deeper (supEnv qual scope s0.heap.objs.size f (.ref cda) cc)) (.func body (supEnv qual scope s0.heap.objs.size f (.ref cda) cc)) (exec (.Expr (.Call (.Attribute (.Call (.Name "super" p0) [] [] p1) "__init__" p2) [.Constant (.str m) j p3] [] p4) p5) (supEnv qual scope s0.heap.objs.size f (.ref cda) cc))
      Q (supCx CX P w K mg base ["self", n] qual scope f (.ref cda) cc A outer s0 H0 E).xe s := by
  obtain ⟨nm, q, N, bs, bm, sn, sub, ab, col, dd, k0, k1, k2, k3, k5, hC, hbm⟩ := T.oex.cls
  have kin := I.kIn
  have hfile : ((P.main.file : Str) == file) = true := by rw [hmain]; exact beq_self_eq_true _
  have shape : eval (.Call (.Attribute (.Call (.Name "super" p0) [] [] p1) "__init__" p2) [.Constant (.str m) j p3] [] p4) (supEnv qual scope s0.heap.objs.size f (.ref cda) cc) = (do
      let ov ← attributeBase (.Call (.Name "super" p0) [] [] p1) "__init__" (supEnv qual scope s0.heap.objs.size f (.ref cda) cc) (eval (.Call (.Name "super" p0) [] [] p1) (supEnv qual scope s0.heap.objs.size f (.ref cda) cc))
      standAt p2.atName
      let (f', first) ← holding [ov] (getMethod ov "__init__" (plainOf (.Call (.Name "super" p0) [] [] p1) (supEnv qual scope s0.heap.objs.size f (.ref cda) cc)))
      callWith p4 f' first (backTo p4 (starEach [.Constant (.str m) j p3] (supEnv qual scope s0.heap.objs.size f (.ref cda) cc))) []) := by
    rw [arm_eval_Call]
    refine congrArg (Bind.bind _) (funext fun ov => congrArg (Bind.bind _) (funext fun _ => ?_))
    exact mcall_line rfl line
  have still : interactive (supEnv qual scope s0.heap.objs.size f (.ref cda) cc) = false := by
    show (scope.kind == .module && _) = false
    rw [kind]
    rfl
  refine PySem.ks_wpAt_Expr_any (hi := still) (PySem.ks_wpAt_MethodCall (he := shape) (PySem.ks_wpAt_super_base (env := supEnv qual scope s0.heap.objs.size f (.ref cda) cc) hks hkc rfl rfl (kin _ _ lf) rfl hp rfl (kin _ _ lc) rfl hvs hfile htop ?_))
  obtain ⟨mb, hb1, hb2⟩ := I.mod.blt
  refine PySem.W.ks_loadName_global kind hks (Calls.loadGlobal_builtin (I.mod.glob.keeps I.bk) hsup (hb1.keeps I.bk) ((hb2 "super" (by decide)).trans (show bootBuiltins "super" = some (.type "super") by decide +kernel)) ⟨rfl, ?_⟩)
  refine wpAny_loadName_free kind hkc rfl ⟨_, kin _ _ lcc, rfl⟩ ?_
  obtain ⟨mL, hn, hlk⟩ := I.loc
  obtain ⟨u, ru, look⟩ := hlk 0 "self" (.ref a) rfl hσ (.inl l1)
  have eu : u = Value.ref a := ru
  subst eu
  have at_self : mL "self" = some (.ref a) := by
    rcases look with ⟨_, q⟩ | ⟨q, _⟩
    · exact q
    · have q : scope.names.lookup ("self" : Str) = some .cell ∨ scope.names.lookup ("self" : Str) = some .free := q
      rw [l1] at q
      rcases q with q | q <;> exact nomatch q
  rw [har]
  refine wpAny_loadName_local kind l1 hn at_self ?_
  have hC := kin _ _ hC
  refine PySem.ks_wpAny_isType_cls hC rfl ⟨rfl, ?_⟩
  obtain ⟨t1, ho⟩ := exo_at I.hok ha
  obtain ⟨hh, g, d, t, os⟩ := s
  refine PySem.ks_wpAny_call_super hC rfl ho rfl (fun c z => nomatch z) (PySem.W.looks_mroIn kin T.me) fun h' so k => ?_
  have kin2 : K.In h' := kin.keeps k
  have I2 := I.kept (t' := t) (h' := h') k
  cases hc : PySem.W.clsIn K C with
  | none =>
    have z := T.sup
    unfold PySem.W.ks_superIn at z
    rw [hc] at z
    exact nomatch z
  | some cdC =>
    have found := T.sup
    unfold PySem.W.ks_superIn at found
    rw [hc] at found
    have J : PySem.W.InstAt h' a _ C none := ⟨k _ _ ho, rfl, rfl, trivial⟩
    refine PySem.W.kxs_getMethod PySem.W.kxs_ValueError so (PySem.W.looks_opaque kin2 T.loose) (l₀ := cdC.mro) (fun A Q E s k q => wpAny_bind ((PySem.W.looks_clsIn kin2 hc) A _ E s k (wpAny_pure q))) rfl kin2 found (J.type.andThen (PySem.W.looks_subIn kin2 T.val)) (PySem.W.ks_ne kin2 J hc) rfl ?_
    have I3 := I2.kept (t' := t + 1) (h' := h'.push (PySem.W.kxs_mw "ValueError.__init__" a)) fun b o e => Heap.get?_push_of_some _ e
    have at_u : (h'.push (PySem.W.kxs_mw "ValueError.__init__" a)).get? h'.objs.size = some (PySem.W.kxs_mw "ValueError.__init__" a) := Heap.get?_push_size _ rfl
    refine PySem.W.kxs_callWith (i := "ValueError.__init__") (x := a) rfl (Calls.evalArgs_plain (Calls.spliced_cons (Calls.Constant_str (pos := p3) (k := j) (Calls.spliced_nil ⟨at_u, ?_⟩))))
    exact wrap_call T.oex (I3.tok _) ha at_u (by show 1 ≤ sizeLine; decide) fun s' J => h s' J
end

section
variable {CX : CXT} {P : Program} {w : World} {K : PySem.W.Frag} {mg : Str → Option Value} {base : Heap} {n file : Str} {f C : Addr} {k : Nat} {fd : FuncData}
/-- such an __init__ keeps: the object's field is what it got -/
theorem ini_ok (F : IniF file K C f fd n) (T : ErrC K C n) (hmain : P.main.file = file) (htop : (P.main.scope.names.lookup ("super" : Str)).isSome = false) (hsup : mg "super" = none) (nn : n ≠ "self") (nd : (n == ("__debug__" : Str)) = false) (ncd : (n == ("__classdict__" : Str)) = false) :
    L2.FnOk P w K mg base CX (k + 1) f fd ["self", n] (spIni C n) := by
  obtain ⟨name, qual, m, params, scope, dV, kV, doc, pm, ct, oc, an, od, osl, cc, cda, p0, p1, p2, p3, p4, p5, p6, p7, p8, p9, j, ar, ccl, cl, cdd, cld, ccs, csl, vs0, tf, rfl, lf, hcd, hp, har, lc, hvs, lcc, kind, hco, hgen, l1, l2, hks, hkc, nc, nf, line⟩ := F.ex
  refine ⟨fun vs H Q E h => by obtain ⟨a, v, rfl, _⟩ := h; rfl, fun A outer s H args us vs Q E hr e0 hb r hsp => ?_⟩
  obtain ⟨a, v, rfl, ha, hq⟩ := hsp
  cases r with
  | @cons _ u1 _ us1 r1 r' =>
    cases r' with
    | @cons _ u2 _ us2 r2 r'' =>
      cases r'' with
      | nil =>
        have KX : K.In s.heap := e0.mod.kin.keeps
            fun b o e => (e0.bs b o e).1
        have lim : s.heap.NoLimit := e0.mod.nolimit.keeps
            fun b o e => (e0.bs b o e).1
        refine PySem.ks_codeAny_call_defAt (body := iniBody m n p0 p1 p2 p3 p4 p5 p6 p7 p8 p9 j) hr.depth (KX _ _ lf) rfl lim (PySem.W.codeRec_of KX hcd) rfl hb nc ?_ (fun h₁ hns kp => ?_) hco hgen kind
        · intro y hy
          (rcases List.mem_cons.mp hy with rfl | hy)
          · exact l1
          · (rcases List.mem_cons.mp hy with rfl | hy)
            · exact l2
            · exact absurd hy List.not_mem_nil
        · have I : Inv (supCx CX P w K mg base ["self", n] qual scope f (.ref cda) cc A outer s H E) [] [some (.ref a), some v] H { s with heap := h₁, toks := s.toks + 2 } :=
            sup_start e0 hr.hd kind nn l1 l2 nc nf ⟨_, _, e0.mod.kin _ _ lcc, rfl⟩ hns kp r1 r2
          refine PySem.ks_wpAt_execs_cons (sup_stmt (CX := CX) (E := E) (H0 := H) (s0 := s) (A := A) (outer := outer) (pins := []) (σ := [some (.ref a), some v]) I rfl ha T hmain htop hsup lf hp har lc hvs lcc kind l1 hks hkc _ line fun s' J => ?_)
          have v0 : PE (supCx CX P w K mg base ["self", n] qual scope f (.ref cda) cc A outer s H E) (.Name "self" p6) (tVar 0) := pe_var (i := 0) rfl (.inl l1)
          have v1 : PE (supCx CX P w K mg base ["self", n] qual scope f (.ref cda) cc A outer s H E) (.Name n p8) (tVar 1) := pe_var (i := 1) rfl (.inl l2) nd ncd
          have st : PS (supCx CX P w K mg base ["self", n] qual scope f (.ref cda) cc A outer s H E) (.Assign [.Attribute (.Name "self" p6) n p7] (.Name n p8) p9) (tOst K n (tVar 0) (tVar 1)) := ps_ost v0 v1
          have goes := (pss_cons st pss_nil).run [] s' [some (.ref a), some v] H { nx := fun _ H' => Q .non H', rt := Q } J ⟨v, rfl, .ref a, rfl, a, C, rfl, T.oex, T.no, .inl ⟨ha, fun dx hd ne => hq dx hd ne⟩⟩
          refine wpAt_of_wpAny (wpAny_mono goes (fun fl s2 hs => ?_) fun e s2 hs => hs)
          cases fl with
          | ret u =>
            obtain ⟨v', σ', H', J', rv, q⟩ := hs
            exact ⟨v', H', J'.os, J'.bare, J'.base, J'.hok, rv, q⟩
          | next =>
            obtain ⟨σ', H', J', q⟩ := hs
            exact ⟨V.non, H', J'.os, J'.bare, J'.base, J'.hok, rfl, q⟩
          | brk =>
            obtain ⟨_, _, _, q⟩ := hs
            exact False.elim q
          | cont =>
            obtain ⟨_, _, _, q⟩ := hs
            exact False.elim q
end

/-! ### raise C(e) -/
section
variable {X : Cx} {Wx : WX} {c n : Str} {m : ME} {e : Expr} {f C : Addr} {k : Nat} {fd : FuncData} {p pos pos' : Pos}
end
end DL
set_option Elab.async false
set_option linter.all false
set_option maxRecDepth 100000
set_option maxHeartbeats 1900000
/-! DX2: what the written part says of own errors, by one check. -/
namespace DL
open L2 PyProof.Rows PySem PySem.Spec
def iniBodyB (n : Str) (b : List Stmt) : Bool := match b with
  | [.Expr (.Call (.Attribute (.Call (.Name sp p0) [] [] p1) im p2) [.Constant (.str m) j p3] [] p4) p5, .Assign [.Attribute (.Name se p6) n1 p7] (.Name n2 p8) p9] =>
    sp == "super" && (im == "__init__" && (se == "self" && (n1 == n && (n2 == n && (p2.endLine == p4.line)))))
  | _ => false
theorem iniBody_of {n : Str} {b : List Stmt} (h : iniBodyB n b = true) : ∃ (m : Str) (p0 p1 p2 p3 p4 p5 p6 p7 p8 p9 : Pos) (j : Nat), b = iniBody m n p0 p1 p2 p3 p4 p5 p6 p7 p8 p9 j ∧ (p2.endLine == p4.line) = true := by
  unfold iniBodyB at h
  split at h
  · rename_i sp p0 p1 im p2 m j p3 p4 p5 se p6 n1 p7 n2 p8 p9
    simp only [Bool.and_eq_true, beq_iff_eq] at h
    obtain ⟨rfl, rfl, rfl, rfl, rfl, e⟩ := h
    exact ⟨m, p0, p1, p2, p3, p4, p5, p6, p7, p8, p9, j, rfl, by simpa using e⟩
  · cases h
def iniParB (n : Str) (a : Arguments) : Bool := match a with
  | ⟨[], [⟨s, _, _⟩, ⟨n1, _, _⟩], none, [], [], none, []⟩ => s == "self" && n1 == n
  | _ => false
theorem iniPar_of {n : Str} {a : Arguments} (h : iniParB n a = true) : ∃ e1 q1 e2 q2, a = ⟨[], [⟨"self", e1, q1⟩, ⟨n, e2, q2⟩], none, [], [], none, []⟩ := by
  unfold iniParB at h
  split at h
  · rename_i s e1 q1 n1 e2 q2
    simp only [Bool.and_eq_true, beq_iff_eq] at h
    obtain ⟨rfl, rfl⟩ := h
    exact ⟨e1, q1, e2, q2, rfl⟩
  · cases h
def iniCloB (K : PySem.W.Frag) (C : Addr) (cl : List (Str × Addr)) : Bool := match cl with
  | [(x, cc)] => x == "__class__" && (match K.lookup cc with
    | some ⟨_, _, .cell (some (.ref C')), _⟩ => C' == C
    | _ => false)
  | _ => false
theorem iniClo_of {K : PySem.W.Frag} {C : Addr} {cl : List (Str × Addr)} (h : iniCloB K C cl = true) : ∃ cc o d sl, cl = [(("__class__" : Str), cc)] ∧ K.lookup cc = some ⟨o, d, .cell (some (.ref C)), sl⟩ := by
  unfold iniCloB at h
  split at h
  · rename_i x cc
    simp only [Bool.and_eq_true, beq_iff_eq] at h
    obtain ⟨rfl, h⟩ := h
    split at h
    · rename_i o d C' sl hl
      have e : C' = C := eq_of_beq h
      subst e
      exact ⟨cc, o, d, sl, rfl, hl⟩
    · cases h
  · cases h
def strAt (file : Str) (v : Option Value) : Bool := match v with
  | some (.str fl _) => fl == file
  | _ => false
theorem strAt_of {file : Str} {v : Option Value} (h : strAt file v = true) : ∃ tf, v = some (.str file tf) := by
  unfold strAt at h
  split at h
  · rename_i fl tf
    have e : fl = file := eq_of_beq h
    subst e
    exact ⟨tf, rfl⟩
  · cases h
def iniCodB (file : Str) (K : PySem.W.Frag) (q : Str) (cd : Value) : Bool := match cd with
  | .ref cda => PySem.W.codeIn K (.ref cda) q && (match K.lookup cda with
    | some ⟨_, _, .fields vs, _⟩ => strAt file vs[2]?
    | _ => false)
  | _ => false
theorem iniCod_of {file : Str} {K : PySem.W.Frag} {q : Str} {cd : Value} (h : iniCodB file K q cd = true) : ∃ cda o d vs sl tf, cd = .ref cda ∧ PySem.W.codeIn K (.ref cda) q = true ∧ K.lookup cda = some ⟨o, d, .fields vs, sl⟩ ∧ vs[2]? = some (.str file tf) := by
  unfold iniCodB at h
  split at h
  · rename_i cda
    (obtain ⟨h1, h⟩ := Bool.and_eq_true_iff.mp h)
    split at h
    · rename_i o d vs sl hl
      obtain ⟨tf, e⟩ := strAt_of h
      exact ⟨cda, o, d, vs, sl, tf, rfl, h1, hl, e⟩
    · cases h
  · cases h
def iniScB (n : Str) (sc : Scope) : Bool :=
  sc.kind == .function && (!sc.isCoroutine && (!sc.isGenerator && (sc.names.lookup ("self" : Str) == some .local && (sc.names.lookup n == some .local && (sc.names.lookup ("super" : Str) == some .globalImplicit && (sc.names.lookup ("__class__" : Str) == some .free &&
    (sc.names.all (fun y => y.2 != .cell) && sc.names.all (fun y => y.2 != .free || y.1 == "__class__"))))))))
def fdB (file : Str) (K : PySem.W.Frag) (C : Addr) (n : Str) (fd : FuncData) : Bool :=
  fd.globals == mainGlobals && (fd.builtins == builtinsNs && ((match fd.body with | .stmts b => iniBodyB n b | _ => false) && (iniParB n fd.params && (iniCloB K C fd.closure && (iniCodB file K fd.qualname fd.code && (iniScB n fd.scope && ((match fd.defaults with | .none => true | _ => false) && (n != "self" && (n != "__debug__" && n != "__classdict__")))))))))
def oexB (K : PySem.W.Frag) (C : Addr) : Bool := (match K.lookup C with
  | some ⟨.type "type", _, .cls cd,
      sl⟩ => (match cd.mro, sl.toList with
    | .ref C' :: bm, [_, _, _, _, some (.builtin n), _] => C' == C && (n == "ValueError.__new__" && (!cd.hasDel && (cd.hasDict && PySem.HandSPX.refsVE bm)))
    | _, _ => false)
  | _ => false) && (PySem.W.findIn K (.ref C) "__setattr__" == some (some (.builtin "object.__setattr__")) && (PySem.W.subIn K (.ref C) (.type "BaseException") == some true && (PySem.W.typeIn K (.ref C) == some (.type "type") && PySem.W.keepIn K (.ref C))))
theorem oexB_ok {K : PySem.W.Frag} {C : Addr} (h : oexB K C = true) : OexC K C := by
  unfold oexB at h
  simp only [Bool.and_eq_true, beq_iff_eq] at h
  obtain ⟨h0, h1, h2, h3, h4⟩ := h
  refine ⟨?_, h1, h2, h3, h4⟩
  split at h0
  · rename_i dd cd sl ho
    split at h0
    · (rename_i C' bm k0 k1 k2 k3 n k5 hm hs)
      simp only [Bool.and_eq_true, beq_iff_eq, Bool.not_eq_true'] at h0
      obtain ⟨rfl, rfl, hdel, hdict, hr⟩ := h0
      (obtain ⟨nm, bs, mro, ns, qn, hd, sn, sub, ab, col, del⟩ := cd)
      dsimp only at hm hdel hdict
      subst hm hdel hdict
      have hsl : sl = #[k0, k1, k2, k3, some (.builtin "ValueError.__new__"), k5] := by
        obtain ⟨l⟩ := sl
        simp only at hs
        rw [hs]
      subst hsl
      exact ⟨nm, qn, ns, bs, bm, sn, sub, ab, col, dd, k0, k1, k2, k3, k5, ho, hr⟩
    · cases h0
  · cases h0
theorem bind_two {name qual n : Str} {e1 e2 : Option Expr} {q1 q2 : Pos} {body : List Stmt} {scope : Scope} {cl : List (Str × Addr)} {kV doc pm cdv ct u1 u2 : Value} {an : Option Addr} (ne : n ≠ "self") :
    bindArgs (PySem.W.fnX name qual ⟨[], [⟨"self", e1, q1⟩, ⟨n, e2, q2⟩], none, [], [], none, []⟩ body scope cl .none kV doc pm an cdv ct) ⟨[u1, u2], []⟩ = pure [(("self" : Str), u1), (n, u2)] := by
  have b1 : (n == ("self" : Str)) = false := beq_false_of_ne ne
  have b2 : (n == n) = true := beq_self_eq_true n
  have b3 : (("self" : Str) == ("self" : Str)) = true := beq_self_eq_true _
  have l1 : ([(("self" : Str), u1), (n, u2)] : List (Str × Value)).lookup ("self" : Str) = some u1 := by simp only [List.lookup, b3]
  have l2 : ([(("self" : Str), u1), (n, u2)] : List (Str × Value)).lookup n = some u2 := by simp only [List.lookup, b1, b2]
  have m1 : (List.filter (fun x => (([(("self" : Str), u1), (n, u2)] : List (Str × Value)).lookup x).isNone) [("self" : Str), n]) = [] := by
    simp only [List.filter, l1, l2, Option.isNone_some]
  have m2 : (List.filterMap (fun x => (([(("self" : Str), u1), (n, u2)] : List (Str × Value)).lookup x).map (x, ·)) [("self" : Str), n]) = [(("self" : Str), u1), (n, u2)] := by
    simp only [List.filterMap, l1, l2, Option.map_some]
  unfold bindArgs
  show (do
    let missing := List.filter (fun x => (([(("self" : Str), u1), (n, u2)] : List (Str × Value)).lookup x).isNone) [("self" : Str), n]
    if !missing.isEmpty then
      (rule "call.bind.missing-positional")
      theBinderRefuses _
    let binds := List.filterMap (fun x => (([(("self" : Str), u1), (n, u2)] : List (Str × Value)).lookup x).map (x, ·)) [("self" : Str), n]
    pure binds) = _
  rw [m1, m2]
  rfl
/-- all of an own error: its class, its __init__ -/
structure ErrA (file : Str) (K : PySem.W.Frag) (C f : Addr) (n : Str) : Prop where
  cls : ErrC K C n
  ini : ∃ fd, IniF file K C f fd n ∧ Binds K fd ["self", n] []
  iC : PySem.W.findIn K (.ref C) "__init__" = some (some (.ref f))
  tI : PySem.W.typeIn K (.ref f) = some (.type "function")
  nn : n ≠ "self"
  nd : (n == ("__debug__" : Str)) = false
  nc : (n == ("__classdict__" : Str)) = false
  xf : XfC K C
def errB (file : Str) (K : PySem.W.Frag) (C f : Addr) (n : Str) : Bool :=
  (match K.lookup f with
  | some ⟨_, _, .func fd, _⟩ => fdB file K C n fd
  | _ => false) && (oexB K C && (PySem.W.ks_superIn K C C "__init__" == some (some (.builtin "ValueError.__init__")) && (PySem.W.subIn K (.ref C) (.type "ValueError") == some true && (PySem.W.mroIn K C (.ref C) == some true && (PySem.W.nsIn K PySem.cStatics "thirdparty.any" == some none &&
    (PySem.W.findIn K (.ref C) n == some none && (PySem.W.findIn K (.ref C) "__init__" == some (some (.ref f)) && (PySem.W.typeIn K (.ref f) == some (.type "function") && xfB K C))))))))
theorem errB_ok {file : Str} {K : PySem.W.Frag} {C f : Addr} {n : Str} (h : errB file K C f n = true) : ErrA file K C f n := by
  unfold errB at h
  simp only [Bool.and_eq_true, beq_iff_eq] at h
  obtain ⟨h0, h1, h2, h3, h4, h5, h6, h7, h8, h9⟩ := h
  split at h0
  · rename_i oc od fd osl ho
    unfold fdB at h0
    simp only [Bool.and_eq_true, beq_iff_eq, bne_iff_ne, ne_eq] at h0
    obtain ⟨g0, g1, g2, g3, g4, g5, g6, g7, g8, g9, g10⟩ := h0
    obtain ⟨name, qual, params, body, scope, gl, clo, dV, kV, doc, pm, an, cdv, ct, bt⟩ := fd
    dsimp only at g0 g1 g2 g3 g4 g5 g6 g7
    subst g0 g1
    cases body with
    | stmts b =>
      obtain ⟨m, p0, p1, p2, p3, p4, p5, p6, p7, p8, p9, j, rfl, line⟩ := iniBody_of g2
      obtain ⟨e1, q1, e2, q2, rfl⟩ := iniPar_of g3
      obtain ⟨cc, cl, cld, csl, rfl, lcc⟩ := iniClo_of g4
      obtain ⟨cda, ccl, cdd, vs, ccs, tf, rfl, hcd, lc, hvs⟩ := iniCod_of g5
      have d : dV = .none := by
        revert g7
        cases dV <;> simp
      subst d
      unfold iniScB at g6
      simp only [Bool.and_eq_true, beq_iff_eq, Bool.not_eq_true'] at g6
      obtain ⟨k0, k1, k2, k3, k4, k5, k6, k7, k8⟩ := g6
      refine ⟨⟨oexB_ok h1, h2, h3, h4, h5, h6⟩, ⟨_, ⟨name, qual, m, _, scope, .none, kV, doc, pm, ct, oc, an, od, osl, cc, cda, p0, p1, p2, p3, p4, p5, p6, p7, p8, p9, j, ⟨"self", e1, q1⟩, ccl, cl, cdd, cld, ccs, csl, vs, tf, rfl, ho, hcd, rfl, rfl, lc, hvs, lcc, k0, k1, k2, k3, k4, k5, k6, ?_, ?_, line⟩, ?_⟩, h7, h8, g8, beq_false_of_ne g9, beq_false_of_ne g10, xfB_ok h9⟩
      · intro y hy
        have z := List.all_eq_true.mp k7 y hy
        exact fun e => by rw [e] at z; exact absurd z (by decide)
      · intro y hy e
        have z := List.all_eq_true.mp k8 y hy
        rw [e] at z
        simpa using z
      · exact Binds.all fun us hl => match us, hl with | [u1, u2], _ => bind_two g8
    | _ => cases g2
  · cases h0
end DL
set_option Elab.async false
set_option linter.all false
set_option maxRecDepth 100000
set_option maxHeartbeats 1900000
/-! DX3: a lambda made and called, its own code object new or of the table. -/
namespace DL
open L2 PyProof.Rows PySem PySem.Spec
section
variable {X : Cx} {pins : List (Addr ×
    Obj)} {σ : L2.St} {H : Hp} {s : Shared}
end
end DL
set_option Elab.async false
set_option linter.all false
set_option maxRecDepth 100000
set_option maxHeartbeats 1900000
/-! DX4: several except clauses that name what they caught. -/
namespace DL
open L2 PyProof.Rows PySem PySem.Spec
/-- the ends of a suite: the slot of the name is empty behind it -/
abbrev behind (D : Ends) (i : Nat) : Ends := { nx := fun σ' H' => D.nx (σ'.set i none) H', rt := D.rt, bk := fun σ' H' => D.bk (σ'.set i none) H', ct := fun σ' H' => D.ct (σ'.set i none) H' }
inductive NamesOk (X : Cx) (n : Str) : List ExceptHandler → List (Value × (Addr → Value → Option Addr → TS)) → Prop
  | nil : NamesOk X n [] []
  | cons {x : Str} {c : Value} {ts : Addr → Value → Option Addr → TS} {b₀ : Stmt} {suite : List Stmt} {np pos' : Pos} {hds : List ExceptHandler} {l : List (Value × (Addr → Value → Option Addr → TS))} (named : Names X x c)
      (runs : ∀ (a : Addr) (oe : Obj) (cls : Value) (d : Option Addr) (pn : List (Addr × Obj)), Zc cls d oe → (∃ vs, oe.data = .fields vs) → PSs (X.suite a ((a, oe) :: pn)) (b₀ :: suite) (ts a cls d)) (more : NamesOk X n hds l) :
      NamesOk X n (.ExceptHandler (some (.Name x np)) (some n) (b₀ :: suite) pos' :: hds) ((c, ts) :: l)
section
variable {X : Cx} {body : List Stmt} {n : Str} {i : Nat} {first : ExceptHandler} {hds : List ExceptHandler} {l : List (Value × (Addr → Value → Option Addr → TS))} {pos : Pos} {tb : WX → TS} {Wout : WX}
end
end DL
set_option Elab.async false
set_option linter.all false
set_option maxRecDepth 100000
set_option maxHeartbeats 1900000
/-! DX5: what data is told as (repr); isinstance of what was caught. -/
namespace DL
open L2 PyProof.Rows PySem PySem.Spec
/-- it may be told: ints not too long, not deep, not long -/
def fitsR (d : PyData) : Bool := d.showable && (!d.hasDict && (Nat.ble d.depth 20 && Nat.ble d.shown.length 700000))
/-- an empty dict -/
def isNil : D → Bool
  | .dkv [] [] => true
  | _ => false
mutual
/-- no list, no dict in it -/
def flatP : PyData → Bool
  | .none => true
  | .bool _ => true
  | .int _ => true
  | .str _ => true
  | .tuple ds => flatPs ds
  | .list _ => false
  | .dict _ => false
def flatPs : List PyData → Bool
  | [] => true
  | d :: ds => flatP d && flatPs ds
end
/-- a tuple of such, and of empty dicts -/
def mixB : List D → Bool
  | [] => true
  | d :: ds => (isNil d || (isPy d && flatP (py d))) && mixB ds
def pyN (d : D) : PyData := if isNil d = true then .dict [] else py d
def fitsM (d : PyData) : Bool := d.showable && (Nat.ble d.depth 20 && Nat.ble d.shown.length 700000)
def repM : D → Option Str
  | .tup ds => if (mixB ds && fitsM (.tuple (ds.map pyN))) = true then some (PyData.tuple (ds.map pyN)).shown else none
  | _ => none
/-- what it is told as -/
def rep1 (x : D) : Option Str := if isNil x = true then some (PyData.dict []).shown else if (isPy x && fitsR (py x)) = true then some (py x).shown else repM x
section
variable {X : Cx} {pins : List (Addr ×
    Obj)} {σ : L2.St} {H : Hp} {s : Shared}
mutual
theorem reads0 (I : Inv X pins σ H s) : ∀ (d : PyData) (v : V) (u : Value), flatP d = true → Dp X.K H v d → RelV v u → Reads s.heap u d []
  | .none, _, _, _, h, r => by
    cases h
    cases r
    exact .none
  | .bool b, _, _, _, h, r => by
    cases h
    cases r
    exact .bool b
  | .int i, _, _, _, h, r => by
    cases h
    obtain ⟨t, rfl⟩ := r
    exact .int i t
  | .str x, _, _, _, h, r => by
    cases h
    obtain ⟨t, rfl⟩ := r
    exact .str x t
  | .tuple ds, _, _, f, h, r => by
    cases h with
    | tup hs ha =>
      cases r
      (obtain ⟨its, rv, ⟨o, ho, hc, n, hd⟩, _⟩ := I.tuple hs)
      exact .tuple ho hc hd (reads0s I ds _ its (by simpa only [flatP] using f) ha rv)
  | .list _, _, _, f, _, _ => by simp [flatP] at f
  | .dict _, _, _, f, _, _ => by simp [flatP] at f
theorem reads0s (I : Inv X pins σ H s) : ∀ (ds : List PyData) (vs : List V) (us : List Value), flatPs ds = true → DpAll X.K H vs ds → Vals vs us → ReadsAll s.heap us ds []
  | [], _, _, _, h, r => by
    cases h
    cases r
    exact .nil
  | d :: ds, _, _, f, h, r => by
    simp only [flatPs, Bool.and_eq_true] at f
    cases h with
    | cons h1 h2 =>
      cases r with
      | cons r1 r2 => exact ReadsAll.cons (as := []) (bs := []) (reads0 I d _ _ f.1 h1 r1) (reads0s I ds _ _ f.2 h2 r2)
end
end
def rRep (K : Wd) (mg : Str → Option Value) : List V → Hp → VK → Prop := fun xs H Q => ∃ (v : V) (x : D) (t : Str) (ca : Ca), xs = [v] ∧ DenT K mg ca H x v ∧ rep1 x = some t ∧ Q (.str t) H
/-! ### isinstance of a caught error, its dict there -/
end DL
set_option Elab.async false
set_option linter.all false
set_option maxRecDepth 100000
set_option maxHeartbeats 1900000
/-! DX6: what except clauses tell of an error: texts, its field told, questions of its class. -/
namespace DL
open L2 PyProof.Rows PySem PySem.Spec
inductive Hel where
  | txt (s : Str) | rep (f : Str) | isi (b : Bool)
def hel (x : Ex) : Hel → Option D
  | .txt s => some (.str s)
  | .rep f => match (x.ns.zip x.ds).lookup f with
    | some y => match rep1 y with
      | some t => some (.str t)
      | none => none
    | none => none
  | .isi b => some (.bl b)
def hels (x : Ex) : List Hel → Option (List D)
  | [] => some []
  | h :: r => match hel x h, hels x r with
    | some d, some ds
        => some (d :: ds)
    | _, _ => none
def vOf : D → V
  | .str s => .str s
  | .bl b => .bl b
  | _ => .non
/-- the suite's state: what was caught stands in slot i -/
structure Caught (X : Cx) (a : Addr) (cls : Value) (d : Option Addr) (i : Nat) (c : Str) (x : Ex) (σ : L2.St) (H : Hp) : Prop where
  slot : σ[i]? = some (some (.ref a))
  lies : ∃ ca, ExOk X.wd X.mg ca H x cls d
  its : x.c = c
def tClause (X : Cx) (i : Nat) (c : Str) (l : List Hel) (a : Addr) (cls : Value) (d : Option Addr) : TS := fun D σ H => ∃ x zs, Caught X a cls d i c x σ H ∧ hels x l = some zs ∧ zs.length ≤ sizeLine ∧ ∀ p, H p = none → D.rt (.ref p) (upd H p (.lst (zs.map vOf)))
section
variable {X : Cx} {a : Addr} {cls : Value} {d : Option Addr} {i : Nat} {c : Str} {oe : Obj} {pn : List (Addr × Obj)} {p pe pa pos pos' : Pos} {e : Expr} {es : List Expr} {h : Hel} {l : List Hel} {n f : Str}
end
/-! ### the clauses, one behind the other -/
structure Hdl where
  c : Str
  els : List Hel
/-- the errors' classes: known, none below another -/
structure ErrS (K : PySem.W.Frag) (mg : Str → Option Value) (errs : List Str) (ad : Str → Addr) : Prop where
  glo : ∀ c ∈ errs, mg c = some (.ref (ad c))
  sub : ∀ c ∈ errs, ∀ c' ∈ errs, PySem.W.exmOne K (.ref (ad c)) (.ref (ad c')) = some (eqS c c')
abbrev clauses (X : Cx) (i : Nat) (ad : Str → Addr) (hs : List Hdl) : List (Value × (Addr → Value → Option Addr → TS)) := hs.map fun h => (.ref (ad h.c), fun a cls d => tClause X i h.c h.els a cls d)
def memS (c : Str) (l : List Str) : Bool := l.any fun y => eqS y c
theorem memS_mem {c : Str} {l : List Str} (h : memS c l = true) : c ∈ l := by
  obtain ⟨y, hy, e⟩ := List.any_eq_true.mp h
  exact eqS_iff.mp e ▸ hy
end DL
set_option Elab.async false
set_option linter.all false
set_option maxRecDepth 100000
set_option maxHeartbeats 1900000
/-! DX7: f(lambda: e), f a def that tries what it got and tells the errors. -/
namespace DL
open L2 PyProof.Rows PySem PySem.Spec
section
variable {X : Cx} {Wx : WX}
end
end DL
set_option Elab.async false
set_option linter.all false
set_option maxRecDepth 100000
set_option maxHeartbeats 1900000
/-! DX8: own errors in a law: facts by checks, rules with them. -/
namespace DL
open L2 PyProof.Rows PySem PySem.Spec
/-- what a law with errors asks of the program -/
structure TbP (P : Program) (file : Str) (K : PySem.W.Frag) (mg : Str → Option Value) (base : Heap) : Prop extends TbF K mg base where
  file : P.main.file = file
  top : (P.main.scope.names.lookup ("super" : Str)).isSome = false
def excB (K : PySem.W.Frag) (D : Addr) : Bool :=
  PySem.W.findIn K (.ref D) "__getattribute__" == some (some (.builtin "BaseException.__getattribute__")) && (PySem.W.findIn K (.ref D) "__getattr__" == some none && (PySem.W.subIn K (.ref D) (.type "BaseException") == some true && (PySem.W.hasDictIn K D &&
    (PySem.W.findIn K (.ref D) "__class__" == some (some (.builtin "object.__class__")) && (PySem.W.specialIn K (.builtin "object.__class__") "__get__" == some (some (.builtin "getset_descriptor.__get__")) && (PySem.W.takesIn K (.builtin "object.__class__") == some true && PySem.W.mroIn K D (.type "object") == some true))))))
theorem excB_ok {K : PySem.W.Frag} {D : Addr} (h : excB K D = true) : ExcC K D := by
  unfold excB at h
  simp only [Bool.and_eq_true, beq_iff_eq] at h
  obtain ⟨h1, h2, h3, h4, h5, h6, h7, h8⟩ := h
  exact ⟨h1, h2, h3, h4, h5, h6, h7, h8⟩
def errSB (K : PySem.W.Frag) (errs : List Str) : Bool := errs.all fun c => PySem.W.nsIn K mainGlobals c == some (some (.ref (He.ga K c))) && errs.all fun c' => PySem.W.exmOne K (.ref (He.ga K c)) (.ref (He.ga K c')) == some (eqS c c')
theorem errSB_ok {K : PySem.W.Frag} {h : Heap} {mg : Str → Option Value} {errs : List Str} (X : K.In h) (G : h.Ns mainGlobals mg) (e : errSB K errs = true) : ErrS K mg errs (He.ga K) := by
  unfold errSB at e
  refine ⟨fun c m => ?_, fun c m c' m' => ?_⟩
  · have z := List.all_eq_true.mp e c m
    simp only [Bool.and_eq_true, beq_iff_eq] at z
    exact PySem.W.mg_of X G z.1
  · have z := List.all_eq_true.mp e c m
    simp only [Bool.and_eq_true] at z
    have y := List.all_eq_true.mp z.2 c' m'
    exact beq_iff_eq.mp y
/-- a class whose errors' field n may be told -/
def xhB (K : PySem.W.Frag) (C : Addr) (n : Str) : Bool := xfB K C && (PySem.W.findIn K (.ref C) n == some none)
theorem xhB_ok {K : PySem.W.Frag} {C : Addr} {n : Str} (h : xhB K C n = true) : XfC K C ∧ PySem.W.findIn K (.ref C) n = some none := by
  unfold xhB at h
  rw [Bool.and_eq_true, beq_iff_eq] at h
  exact ⟨xfB_ok h.1, h.2⟩
def kitB (K : PySem.W.Frag) (D : Addr) (cv : Value) (b : Bool) : Bool := PySem.W.kitOne K (.ref D) cv == some b
theorem kitB_ok {K : PySem.W.Frag} {D : Addr} {cv : Value} {b : Bool} (h : kitB K D cv b = true) : PySem.W.kitOne K (.ref D) cv = some b := beq_iff_eq.mp h
section
variable {X : Cx} {Wx : WX} {c n file : Str} {m : ME} {e : Expr} {f C : Addr} {p pos pos' : Pos}
end
end DL
set_option Elab.async false
set_option linter.all false
set_option maxRecDepth 100000
set_option maxHeartbeats 1900000
/-! DX9: what is told of plain data fits: signs, length, depth. -/
namespace DL
open L2 PyProof.Rows PySem PySem.Spec
structure FineS (t : Str) (k : Nat) : Prop where
  len : t.length ≤ k
  ok : ∀ c ∈ t.cps.toList, c < 0x110000
theorem FineS.mono {t : Str} {j k : Nat} (h : FineS t j) (le : j ≤ k) : FineS t k := ⟨Nat.le_trans h.len le, h.ok⟩
theorem FineS.add {a b : Str} {j k : Nat} (h : FineS a j) (g : FineS b k) : FineS (a ++ b) (j + k) := by
  have e : (a ++ b).cps = a.cps ++ b.cps := rfl
  refine ⟨?_, fun c m => ?_⟩
  · show (a ++ b).cps.size ≤ _
    rw [e, Array.size_append]
    exact Nat.add_le_add h.len g.len
  · rw [e, Array.toList_append] at m
    exact (List.mem_append.mp m).elim (h.ok c) (g.ok c)
theorem char_small (ch : Char) : ch.toNat < 0x110000 := by
  have v := ch.valid
  rcases v with v | ⟨_, v⟩
  · exact Nat.lt_trans v (by decide)
  · exact v
theorem fine_of (s : String) {k : Nat} (h : s.toList.length ≤ k) : FineS (Str.ofString s) k := by
  rw [Str.ofString_eq_toList]
  refine ⟨by show ((s.toList.map Char.toNat).toArray).size ≤ k; simpa using h, fun c m => ?_⟩
  have m' : c ∈ s.toList.map Char.toNat := by simpa using m
  obtain ⟨ch, _, rfl⟩ := List.mem_map.mp m'
  exact char_small ch
theorem reprChar_small {q c d : Nat} (hc : c < 0x110000) (m : d ∈ PySem.Builtin.Str.reprChar q c) : d < 0x110000 := by
  have hx : ∀ w : Nat, ∀ x ∈ List.replicate (w - ((Nat.toDigits 16 c).map Char.toNat).length) 48 ++ (Nat.toDigits 16 c).map Char.toNat, x < 0x110000 := by
    intro w x mx
    rcases List.mem_append.mp mx with z | z
    · rw [List.eq_of_mem_replicate z]
      decide
    · obtain ⟨ch, _, rfl⟩ := List.mem_map.mp z
      exact char_small ch
  unfold PySem.Builtin.Str.reprChar at m
  dsimp only at m
  repeat' split at m
  all_goals
    simp only [List.mem_append, List.mem_cons, List.not_mem_nil, or_false] at m
    try rcases m with (m | m) | m
    all_goals first
      | omega
      | exact hx _ d (List.mem_append.mpr m)
      | (rcases m with m | m <;> omega)
theorem reprs_small {q : Nat} : ∀ (l : List Nat) (acc : Array Nat), (∀ c ∈ l, c < 0x110000) → (∀ c ∈ acc.toList, c < 0x110000) → ∀ c ∈ (l.foldl (fun out c => out ++ (PySem.Builtin.Str.reprChar q c).toArray) acc).toList, c < 0x110000
  | [], acc, _, h => h
  | x :: l, acc, hl, h => by
    rw [List.foldl_cons]
    refine reprs_small l _ (fun c m => hl c (List.mem_cons_of_mem _ m)) fun c m => ?_
    rw [Array.toList_append] at m
    rcases List.mem_append.mp m with z | z
    · exact h c z
    · exact reprChar_small (hl x List.mem_cons_self) (by simpa using z)
theorem fine_repr {x : Str} (h : ∀ c ∈ x.cps.toList, c < 0x110000) : FineS (reprText x) (10 * x.length + 2) := by
  refine ⟨StrLaws.reprText_len x fun c m => Nat.lt_trans (h c m) (by decide), fun c m => ?_⟩
  have q : reprQuote x < 0x110000 := by
    unfold reprQuote
    split <;> decide
  unfold reprText at m
  rw [Array.toList_push] at m
  rcases List.mem_append.mp m with z | z
  · rw [← Array.foldl_toList] at z
    refine reprs_small _ _ h ?_ c z
    intro d md
    have : d = reprQuote x := by simpa using md
    rw [this]
    exact q
  · have : c = reprQuote x := by simpa using z
    rw [this]
    exact q
/-- texts laid side by side -/
structure FineJ (ts : List Str) (k : Nat) : Prop where
  join : FineS (Str.join ", " ts) k
  walk : ∀ (j : Nat) (acc : Str) (a : Nat), FineS acc a → FineS (textFrom j acc ts) (a + k)
theorem fineJ_nil : FineJ [] 0 := ⟨⟨Nat.zero_le _, fun c m => by simp [Str.join, Str.empty] at m⟩, fun j acc a h => h⟩
theorem fineJ_cons {t : Str} {ts : List Str} {j k : Nat} (h : FineS t j) (g : FineJ ts k) : FineJ (t :: ts) (j + 2 + k) := by
  refine ⟨?_, fun i acc a q => ?_⟩
  · cases ts with
    | nil => exact h.mono (by omega)
    | cons y r => exact ((h.add (fine_of ", " (k := 2) (by decide))).add g.join).mono (by omega)
  · refine (g.walk (i + 1) (acc ++ (if i > 0 then ", " else "" : String) ++ t) (a + 2 + j) ?_).mono (by omega)
    refine (q.add (k := 2) ?_).add h
    split
    · exact fine_of ", " (by decide)
    · exact fine_of "" (by decide)
theorem fine_tuple {k : Nat} {ts : List Str} (h : FineJ ts k) : FineS (tupleText ts) (k + 3) := by
  unfold tupleText
  refine (((fine_of "(" (k := 1) (by decide)).add h.join).add (k := 2) ?_).mono (by omega)
  split
  · exact fine_of ",)" (by decide)
  · exact fine_of ")" (by decide)
theorem fine_list {k : Nat} {ts : List Str} (h : FineJ ts k) : FineS (listText ts) (k + 2) := by
  unfold listText
  exact ((h.walk 0 _ 1 (fine_of "[" (by decide))).add (fine_of "]" (k := 1) (by decide))).mono (by omega)
theorem fine_int {i : Int} (h : i.natAbs < 2 ^ 40) : FineS (toString i : String) 60 := by
  have l : i.natAbs.log2 < 41 := by
    by_cases z : i.natAbs = 0
    · rw [z]
      decide
    · exact (Nat.log2_lt z).mpr (Nat.lt_trans h (by decide))
  exact fine_of _ (Nat.le_trans (int_text_length_le (k := 41) (by decide) l) (by decide))
/-! ### plain data -/
mutual
/-- at most n deep, ints of 40 bits -/
def okT : D → Nat → Bool
  | .non, _ => true
  | .bl _, _ => true
  | .int i, _ => Nat.blt i.natAbs (2 ^ 40)
  | .str x, _ => x.cps.toList.all fun c => Nat.blt c 0x110000
  | .tup ds, n + 1 => okTs ds n
  | .lst ds, n + 1 => okTs ds n
  | _, _ => false
def okTs : List D → Nat → Bool
  | [], _ => true
  | x :: xs, n => okT x n && okTs xs n
end
mutual
/-- no longer than so -/
def rsz : D → Nat
  | .int _ => 60
  | .str x => 10 * x.length + 2
  | .tup ds => rszs ds + 3
  | .lst ds => rszs ds + 3
  | _ => 5
def rszs : List D → Nat
  | [] => 0
  | x :: xs => rsz x + 2 + rszs xs
end
structure Told (x : D) (n : Nat) : Prop where
  py : isPy x = true
  show_ : (DL.py x).showable = true
  flat : (DL.py x).hasDict = false
  deep : (DL.py x).depth ≤ n
  fine : FineS (DL.py x).shown (rsz x)
structure Tolds (xs : List D) (n : Nat) : Prop where
  py : arePy xs = true
  show_ : PyData.showableAll (DL.pys xs) = true
  flat : PyData.hasDictAll (DL.pys xs) = false
  deep : PyData.depthAll (DL.pys xs) ≤ n
  fine : FineJ (PyData.shownAll (DL.pys xs)) (rszs xs)
mutual
theorem told_ok : ∀ (x : D) (n : Nat), okT x n = true → Told x n
  | .non, n, _ => ⟨rfl, by simp only [DL.py, PyData.showable], by simp only [DL.py, PyData.hasDict], by simp only [DL.py, PyData.depth]; omega, by simp only [DL.py, PyData.shown]; exact fine_of "None" (by decide)⟩
  | .bl true, n, _ => ⟨rfl, by simp only [DL.py, PyData.showable], by simp only [DL.py, PyData.hasDict], by simp only [DL.py, PyData.depth]; omega, by simp only [DL.py, PyData.shown]; exact fine_of "True" (by decide)⟩
  | .bl false, n, _ => ⟨rfl, by simp only [DL.py, PyData.showable], by simp only [DL.py, PyData.hasDict], by simp only [DL.py, PyData.depth]; omega, by simp only [DL.py, PyData.shown]; exact fine_of "False" (by decide)⟩
  | .int i, n, h => by
    have s : i.natAbs < 2 ^ 40 := by simpa [okT, Nat.blt_eq] using h
    have l : i.natAbs.log2 < 1920 := by
      by_cases z : i.natAbs = 0
      · rw [z]; decide
      · exact Nat.lt_trans ((Nat.log2_lt z).mpr s) (by decide)
    exact ⟨rfl, by simp only [DL.py, PyData.showable]; exact decide_eq_true l, by simp only [DL.py, PyData.hasDict], by simp only [DL.py, PyData.depth]; omega, by simp only [DL.py, PyData.shown]; exact fine_int s⟩
  | .str x, n, h => by
    simp only [okT, List.all_eq_true, Nat.blt_eq] at h
    exact ⟨rfl, by simp only [DL.py, PyData.showable], by simp only [DL.py, PyData.hasDict], by simp only [DL.py, PyData.depth]; omega, by simp only [DL.py, PyData.shown]; exact fine_repr h⟩
  | .tup ds, n + 1, h => by
    have r := tolds_ok ds n (by simpa only [okT] using h)
    refine ⟨r.py, by simp only [DL.py, PyData.showable]; exact r.show_, by simp only [DL.py, PyData.hasDict]; exact r.flat, by simp only [DL.py, PyData.depth]; have := r.deep; omega, ?_⟩
    simp only [DL.py, PyData.shown]
    exact fine_tuple r.fine
  | .lst ds, n + 1, h => by
    have r := tolds_ok ds n (by simpa only [okT] using h)
    refine ⟨r.py, by simp only [DL.py, PyData.showable]; exact r.show_, by simp only [DL.py, PyData.hasDict]; exact r.flat, by simp only [DL.py, PyData.depth]; have := r.deep; omega, ?_⟩
    simp only [DL.py, PyData.shown]
    exact (fine_list r.fine).mono (by show _ ≤ rszs ds + 3; omega)
  | .tup _, 0, h => nomatch h
  | .lst _, 0, h => nomatch h
  | .scr _, _, h => by simp [okT] at h
  | .dct _ _, _, h => by simp [okT] at h
  | .obj _ _ _, _, h => by simp [okT] at h
  | .glo _, _, h => by simp [okT] at h
  | .ty _, _, h => by simp [okT] at h
  | .dkn _, _, h => by simp [okT] at h
  | .dkv _ _, _, h => by simp [okT] at h
  | .exc _ _ _, _, h => by simp [okT] at h
theorem tolds_ok : ∀ (xs : List D) (n : Nat), okTs xs n = true → Tolds xs n
  | [], n, _ => ⟨rfl, by simp only [DL.pys, PyData.showableAll], by simp only [DL.pys, PyData.hasDictAll], by simp only [DL.pys, PyData.depthAll]; omega, by simp only [DL.pys, PyData.shownAll]; exact fineJ_nil⟩
  | x :: xs, n, h => by
    simp only [okTs, Bool.and_eq_true] at h
    have a := told_ok x n h.1
    have r := tolds_ok xs n h.2
    refine ⟨?_, ?_, ?_, ?_, ?_⟩
    · simp only [arePy, a.py, r.py, Bool.and_self]
    · simp only [DL.pys, PyData.showableAll, a.show_, r.show_, Bool.and_self]
    · simp only [DL.pys, PyData.hasDictAll, a.flat, r.flat, Bool.or_self]
    · simp only [DL.pys, PyData.depthAll]
      exact Nat.max_le.mpr ⟨a.deep, r.deep⟩
    · simp only [DL.pys, PyData.shownAll]
      exact fineJ_cons a.fine r.fine
end
/-! ### a tuple with empty dicts in it -/
structure ToldM (x : D) (n : Nat) : Prop where
  show_ : (pyN x).showable = true
  deep : (pyN x).depth ≤ n + 1
  fine : FineS (pyN x).shown (rsz x)
structure ToldMs (xs : List D) (n : Nat) : Prop where
  show_ : PyData.showableAll (xs.map pyN) = true
  deep : PyData.depthAll (xs.map pyN) ≤ n + 1
  fine : FineJ (PyData.shownAll (xs.map pyN)) (rszs xs)
end DL
set_option Elab.async false
set_option linter.all false
set_option maxRecDepth 100000
set_option maxHeartbeats 1900000
/-! DXO: own errors right over OverflowError: super().__init__(text), one field. -/
namespace DL
open L2 PyProof.Rows PySem PySem.Spec Builtin Builtin.ObjectAttr
abbrev oflTail : List Value := [.type "OverflowError", .type "ArithmeticError", .type "Exception", .type "BaseException", .type "object"]
/-- what the written part says of such a class -/
structure OflC (K : PySem.W.Frag) (C : Addr) : Prop where
  cls : ∃ (nm q : Str) (N : Addr) (bs : List Value) (sn : List Str) (sub : List Value) (ab : Bool) (col : Option Bool) (dd : Option Addr) (k0 k1 k2 k3 k5 : Option Value), K.lookup C = some (excClassObj nm q C N bs oflTail true sn sub ab col dd k0 k1 k2 k3 k5 "OverflowError.__new__")
  sa : PySem.W.findIn K (.ref C) "__setattr__"
      = some (some (.builtin "object.__setattr__"))
  exC : PySem.W.subIn K (.ref C)
      (.type "BaseException") = some true
  tyC : PySem.W.typeIn K (.ref
      C) = some (.type "type")
  kC : PySem.W.keepIn
      K (.ref C) = true
structure ErrO (K : PySem.W.Frag) (C : Addr) (n : Str) : Prop where
  oex : OflC K C
  sup : PySem.W.ks_superIn K C C "__init__" = some (some (.builtin "OverflowError.__init__"))
  val : PySem.W.subIn K (.ref C) (.type "OverflowError") = some true
  me : PySem.W.mroIn K C (.ref C) = some true
  loose : PySem.W.nsIn K PySem.cStatics "thirdparty.any" = some none
  no : PySem.W.findIn K (.ref C) n = some none
theorem kxs_ofl : PySem.W.KxsFacts "OverflowError" "OverflowError.__init__" := ⟨by
  show builtinType _ = _
  rw [builtinType_eq_fast]
  kernel_rfl, by first | kernel_rfl | rfl⟩
/-! ### the field is set -/
section
variable {X : Cx} {pins : List (Addr × Obj)} {σ : L2.St} {H : Hp} {s : Shared} {a C : Addr} {f : Str} {y : V} {u : Value} {Q : Unit → Shared → Prop} {E : Value → Shared → Prop} {A : Around}
theorem ofl_store {K : PySem.W.Frag} {prog : Program} {w : World} {st : Shared} {tk : Tok} {fv : Array Value} {R : Result → Shared → Prop} (T : OflC K C) (kin : K.In st.heap) (at_a : st.heap.get? a = some { cls := .ref C, data := .fields fv }) (no : PySem.W.findIn K (.ref C) f = some none)
    (fin : ∀ (g : Heap) (dx : Addr) (t' : Nat), (∀ b o, b ≠ a → st.heap.get? b = some o → g.get? b = some o) → st.heap.objs.size ≤ dx → dx ≠ a → g.get? a = some { cls := .ref C, dict := some dx, data := .fields fv } → g.Ns1 dx (fun y => if y = f then some u else none) →
      R (.ok (.ret .none)) { st with heap := g, toks := t' }) :
    codeAny (model prog w) A (.call (.builtin "object.__setattr__") ⟨[.ref a, .str f tk, u], []⟩) R st := by
  obtain ⟨nm, q, N, bs, sn, sub, ab, col, dd, k0, k1, k2, k3, k5, lk⟩ := T.cls
  have cd : PySem.W.clsIn K C = some { name := nm, bases := bs, mro := .ref C :: oflTail, ns := N, qualname := q, hasDict := true, slotNames := sn, subclasses := sub, abstract := ab, collection := col, hasDel := false } := by
    unfold PySem.W.clsIn
    rw [lk]
  have over : PySem.W.excOver K C oflTail = true := by
    unfold PySem.W.excOver
    rw [cd]
    show ((C == C) && PySem.W.excTail oflTail oflTail) = true
    rw [beq_self_eq_true]
    rfl
  have taker : PySem.W.takerIn K C f = some none := by
    unfold PySem.W.takerIn
    rw [no]
    rfl
  obtain ⟨hp, g0, d0, t0, os0⟩ := st
  refine PySem.W.osa_openX PySem.F.store_OverflowError kin (od := none) ⟨at_a, rfl, rfl, trivial⟩ over taker fun b => ?_
  have far : a ≠ hp.objs.size := Nat.ne_of_lt (Heap.lt_size at_a)
  have hcls := PySem.W.looks_clsIn (M := model prog w) kin cd
  show wpAny _ _ (storeInOwnDict (.ref a) (.ref C) (.str f tk) f u b) _ _ _
  (unfold storeInOwnDict ownDictForStores)
  repeat (first | with_reducible refine PySem.HandSPX.store_in_new ?_ ?_ | with_reducible refine wpAny_loadPart_at at_a ?_ | with_reducible refine hcls.at ?_ | wp_step)
  · exact ⟨_, #[], _, (Heap.get?_update_ne _ _ _ _ far.symm).trans (Heap.get?_push_at rfl rfl), rfl, (fun e he => absurd he (by simp)), fun _ => rfl⟩
  · intro g t' ns but
    have later : (hp.push { cls := .type "dict", data := .dict #[] }).get? a = some { cls := .ref C, data := .fields fv } := Heap.get?_push_of_some _ at_a
    refine fin g hp.objs.size t' (fun b o ne q => ?_) (Nat.le_refl _) far.symm ((but.2 a far).trans (Heap.get?_update_self _ later rfl)) ns
    exact (but.2 b (Nat.ne_of_lt (Heap.lt_size q))).trans ((Heap.get?_update_ne _ _ _ _ ne).trans (Heap.get?_push_of_some _ q))
theorem ofl_set (T : OflC X.K C) (I : Inv X pins σ H s) (e : H a = some (exo a C none)) (no : PySem.W.findIn X.K (.ref C) f = some none) (ry : RelV y u)
    (go : ∀ dx s', H dx = none → dx ≠ a → Inv X pins σ (upd (upd H dx (exd dx [(f, y)])) a (exo a C (some dx))) s' → Q () s') : wpAny (model X.prog X.w) A (setAttr (.ref a) f u) Q E s := by
  obtain ⟨t1, at_a⟩ := exo_at I.hok e
  refine PySem.W.set_plain I.kIn (od := none) ⟨at_a, rfl, rfl, trivial⟩ T.sa ?_
  refine ofl_store T I.kIn at_a no fun g dx t' kept far ne at_g ns => ?_
  -- the heap with the dict laid, the object as it was
  have mid : ∃ g1 : Heap, g1.get? a = s.heap.get? a ∧ (∀ b, b ≠ a → g1.get? b = g.get? b) := by
    refine ⟨g.update a fun _ => { cls := .ref C, dict := none, data := .fields #[.ref t1, .none, .none, .none, .bool false, .none] }, ?_, fun b nb => Heap.get?_update_ne _ _ _ _ nb⟩
    rw [at_a]
    exact Heap.get?_update_self _ at_g rfl
  obtain ⟨g1, same, others⟩ := mid
  have lies : ∃ mA, g1.Ns1 dx mA ∧ ∀ z, RelO ([(f, y)].lookup z) (mA z) := by
    refine ⟨_, ns.at fun o q => (others dx ne).trans q, fun z => ?_⟩
    exact relO_put (fs := []) (mA := fun _ => none) ry (fun _ => True.intro) z
  obtain ⟨mA, ns1, rel⟩ := lies
  have J1 : Inv X pins σ (upd H dx (exd dx [(f, y)])) { s with heap := g1, toks := t' } := I.laid (fun b o q => by
    by_cases hb : b = a
    · rw [hb] at q ⊢
      rw [same, q]
    · rw [others b hb]
      exact kept b o hb q) far (exd_ok ns1 rel)
  have e1 : upd H dx (exd dx [(f, y)]) a = some (exo a C none) := by rw [upd_ne (Ne.symm ne)]; exact e
  have J2 := J1.write (h' := g) (t' := t') (x := a) (e := a) (o := exo a C (some dx)) (by rw [e1]; exact True.intro) (.inl rfl) (fun b o nb q => (others b nb) ▸ q) ⟨_, at_g⟩ (exo_ok at_g)
  exact go dx _ (I.hok.fresh far) ne J2
end
/-- self.f = e, the first one -/
def tOstO (K : PySem.W.Frag) (f : Str) (to te : TE) : TS := fun D σ H => te σ H fun y H1 => to σ H1 fun x H2 => ∃ a C : Addr, x = .ref a ∧ OflC K C ∧ PySem.W.findIn K (.ref C) f = some none ∧
  (H2 a = some (exo a C none) ∧ ∀ dx, H2 dx = none → dx ≠ a → D.nx σ (upd (upd H2 dx (exd dx [(f, y)])) a (exo a C (some dx))))
section
variable {X : Cx} {o e : Expr} {es : List Expr} {to
    te : TE} {ta : TA} {f : Str} {p p' p1 p2 pos : Pos}
theorem ps_ostO (ho : PE X o to) (he : PE X e te) (hs : swapsWith e (some (.Attribute o f p')) pos.line X.env = pure false := by rfl) : PS X (.Assign [.Attribute o f p'] e pos) (tOstO X.K f to te) := ⟨fun pins s σ H D I h =>
  plainObj_wpAny_Assign_Attribute (thn (he.run pins s σ H _ I h) fun v s1 h1 => by
    obtain ⟨y, H1, I1, r1, q1⟩ := h1
    refine thn (ho.run pins s1 σ H1 _ I1 q1) fun u s2 h2 => ?_
    obtain ⟨x, H2, I2, r2, a, C, rfl, T, no, ea, q⟩ := h2
    cases r2
    exact ofl_set T I2 ea no r1 fun dx s' n ne J => ⟨σ, _, J, q dx n ne⟩) hs⟩
end
/-- the wrapper's call: BaseException.__init__ of the object -/
theorem wrap_callO {X : Cx} {pins : List (Addr × Obj)} {σ : L2.St} {H : Hp} {s : Shared} {C a u : Addr} {us : List Value} {Q : Value → Shared → Prop} {E : Value → Shared → Prop} {A : Around} (T : OflC X.K C) (I : Inv X pins σ H s) (e : H a = some (exo a C none)) (hu : s.heap.get? u = some (PySem.W.kxs_mw "OverflowError.__init__" a)) (few : us.length ≤ sizeLine)
    (h : ∀ s', Inv X pins σ H s' → Q .none s') : wpAny (model X.prog X.w) A (call (.ref u) us) Q E s := by
  (obtain ⟨nm, q, N, bs, sn, sub, ab, col, dd, k0, k1, k2, k3, k5, hC⟩ := T.cls)
  (obtain ⟨t1, ho⟩ := exo_at I.hok e)
  have hC := I.kIn _ _ hC
  obtain ⟨hp, g, d, t, os⟩ := s
  (refine wpAny_call (codeAny_of_tree ?_))
  show wpAny _ A.in1 (callAny (.ref u) ⟨us, []⟩) _ _ _
  simp only [callAny]
  (refine wpAny_bind (wpAny_load hu ?_))
  simp only [PySem.W.kxs_mw, show (Value.type "method-wrapper" == Value.type "method" || Value.type "method-wrapper" == Value.type "builtin_function_or_method" || Value.type "method-wrapper" == Value.type "method-wrapper") = true by decide, if_true]
  (refine PySem.W.KFB.if_so (by decide) ?_)
  refine wpAny_bind (PySem.W.check_bound_init PySem.F.excBase_OverflowError.toExcCallFacts hC ho rfl ?_)
  (refine wpAny_bind (wpAny_pure (wpAny_pure ?_)))
  refine ⟨plainId_quiet PySem.F.excBase_OverflowError.init.plain _, codeAny_builtin PySem.F.excBase_OverflowError.initEntry ?_⟩
  refine PySem.W.exc_init_tree (cls := .ref C) (t0 := t1) (dv := none) (c2 := .none) (c3 := .none) (b4 := .bool false) ho few fun h' k hx _ => ?_
  have J := I.write (t' := t) (x := a) (e := a) (o := exo a C none)
      (by rw [e]; exact True.intro) (.inl rfl) k ⟨_, hx⟩ (exo_ok hx)
  have same : upd H a (exo a C none) = H := by
    funext b
    by_cases hb : b = a
    · rw [hb, upd_same, e]
    · rw [upd_ne hb]
  rw [same] at J
  exact h _ J
section
variable {CX : CXT} {P : Program} {w : World} {K : PySem.W.Frag} {mg : Str → Option Value} {base : Heap} {qual n m file : Str} {scope : Scope} {f cc cda C a : Addr} {A : Around} {outer : List PySem.Env} {s0 s : Shared} {H0 H : Hp} {E : XK} {pins : List (Addr × Obj)} {σ : L2.St} {fd : FuncData} {oc ccl cl : Value} {od cdd cld : Option Addr} {osl ccs csl : Array (Option Value)} {vs : Array Value} {tf : Tok} {ar : Arg}
  {p0 p1 p2 p3 p4 p5 : Pos} {j : Nat} {Q : Flow → Shared → Prop}
theorem sup_stmtO (I : Inv (supCx CX P w K mg base ["self", n] qual scope f (.ref cda) cc A outer s0 H0 E) pins σ H s) (hσ : σ[0]? = some (some (.ref a))) (ha : H a = some (exo a C none)) (T : ErrO K C n) (hmain : P.main.file = file) (htop : (P.main.scope.names.lookup ("super" : Str)).isSome = false) (hsup : mg "super" = none)
    (lf : K.lookup f = some ⟨oc, od, .func fd, osl⟩) (hp : (fd.params.posonlyargs ++ fd.params.args).head? = some ar) (har : ar.arg = "self") (lc : K.lookup cda = some ⟨ccl, cdd, .fields vs, ccs⟩) (hvs : vs[2]? = some (.str file tf)) (lcc : K.lookup cc = some ⟨cl, cld, .cell (some (.ref C)), csl⟩)
    (kind : scope.kind = .function) (l1 : scope.names.lookup ("self" : Str) = some .local) (hks : scope.names.lookup ("super" : Str) = some .globalImplicit) (hkc : scope.names.lookup ("__class__" : Str) = some .free) (body : List Stmt) (line : (p2.endLine == p4.line) = true)
    (h : ∀ s', Inv (supCx CX P w K mg base ["self", n] qual scope f (.ref cda) cc A outer s0 H0 E) pins σ H s' → Q .next s') :
    _root_.PySem.wpAt (model P w) (A.deeper (supEnv qual scope s0.heap.objs.size f (.ref cda) cc)) (.func body (supEnv qual scope s0.heap.objs.size f (.ref cda) cc)) (exec (.Expr (.Call (.Attribute (.Call (.Name "super" p0) [] [] p1) "__init__" p2) [.Constant (.str m) j p3] [] p4) p5) (supEnv qual scope s0.heap.objs.size f (.ref cda) cc))
      Q (supCx CX P w K mg base ["self", n] qual scope f (.ref cda) cc A outer s0 H0 E).xe s := by
  obtain ⟨nm, q, N, bs, sn, sub, ab, col, dd, k0, k1, k2, k3, k5, hC⟩ := T.oex.cls
  have kin := I.kIn
  have hfile : ((P.main.file : Str) == file) = true := by rw [hmain]; exact beq_self_eq_true _
  have shape : eval (.Call (.Attribute (.Call (.Name "super" p0) [] [] p1) "__init__" p2) [.Constant (.str m) j p3] [] p4) (supEnv qual scope s0.heap.objs.size f (.ref cda) cc) = (do
      let ov ← attributeBase (.Call (.Name "super" p0) [] [] p1) "__init__" (supEnv qual scope s0.heap.objs.size f (.ref cda) cc) (eval (.Call (.Name "super" p0) [] [] p1) (supEnv qual scope s0.heap.objs.size f (.ref cda) cc))
      standAt p2.atName
      let (f', first) ← holding [ov] (getMethod ov "__init__" (plainOf (.Call (.Name "super" p0) [] [] p1) (supEnv qual scope s0.heap.objs.size f (.ref cda) cc)))
      callWith p4 f' first (backTo p4 (starEach [.Constant (.str m) j p3] (supEnv qual scope s0.heap.objs.size f (.ref cda) cc))) []) := by
    rw [arm_eval_Call]
    refine congrArg (Bind.bind _) (funext fun ov => congrArg (Bind.bind _) (funext fun _ => ?_))
    exact mcall_line rfl line
  have still : interactive (supEnv qual scope s0.heap.objs.size f (.ref cda) cc) = false := by
    show (scope.kind == .module && _) = false
    rw [kind]
    rfl
  refine PySem.ks_wpAt_Expr_any (hi := still) (PySem.ks_wpAt_MethodCall (he := shape) (PySem.ks_wpAt_super_base (env := supEnv qual scope s0.heap.objs.size f (.ref cda) cc) hks hkc rfl rfl (kin _ _ lf) rfl hp rfl (kin _ _ lc) rfl hvs hfile htop ?_))
  obtain ⟨mb, hb1, hb2⟩ := I.mod.blt
  refine PySem.W.ks_loadName_global kind hks (Calls.loadGlobal_builtin (I.mod.glob.keeps I.bk) hsup (hb1.keeps I.bk) ((hb2 "super" (by decide)).trans (show bootBuiltins "super" = some (.type "super") by decide +kernel)) ⟨rfl, ?_⟩)
  refine wpAny_loadName_free kind hkc rfl ⟨_, kin _ _ lcc, rfl⟩ ?_
  obtain ⟨mL, hn, hlk⟩ := I.loc
  obtain ⟨u, ru, look⟩ := hlk 0 "self" (.ref a) rfl hσ (.inl l1)
  have eu : u = Value.ref a := ru
  subst eu
  have at_self : mL "self" = some (.ref a) := by
    rcases look with ⟨_, q⟩ | ⟨q, _⟩
    · exact q
    · have q : scope.names.lookup ("self" : Str) = some .cell ∨ scope.names.lookup ("self" : Str) = some .free := q
      rw [l1] at q
      rcases q with q | q <;> exact nomatch q
  rw [har]
  refine wpAny_loadName_local kind l1 hn at_self ?_
  have hC := kin _ _ hC
  refine PySem.ks_wpAny_isType_cls hC rfl ⟨rfl, ?_⟩
  obtain ⟨t1, ho⟩ := exo_at I.hok ha
  obtain ⟨hh, g, d, t, os⟩ := s
  refine PySem.ks_wpAny_call_super hC rfl ho rfl (fun c z => nomatch z) (PySem.W.looks_mroIn kin T.me) fun h' so k => ?_
  have kin2 : K.In h' := kin.keeps k
  have I2 := I.kept (t' := t) (h' := h') k
  cases hc : PySem.W.clsIn K C with
  | none =>
    have z := T.sup
    unfold PySem.W.ks_superIn at z
    rw [hc] at z
    exact nomatch z
  | some cdC =>
    have found := T.sup
    unfold PySem.W.ks_superIn at found
    rw [hc] at found
    have J : PySem.W.InstAt h' a _ C none := ⟨k _ _ ho, rfl, rfl, trivial⟩
    refine PySem.W.kxs_getMethod kxs_ofl so (PySem.W.looks_opaque kin2 T.loose) (l₀ := cdC.mro) (fun A Q E s k q => wpAny_bind ((PySem.W.looks_clsIn kin2 hc) A _ E s k (wpAny_pure q))) rfl kin2 found (J.type.andThen (PySem.W.looks_subIn kin2 T.val)) (PySem.W.ks_ne kin2 J hc) rfl ?_
    have I3 := I2.kept (t' := t + 1) (h' := h'.push (PySem.W.kxs_mw "OverflowError.__init__" a)) fun b o e => Heap.get?_push_of_some _ e
    have at_u : (h'.push (PySem.W.kxs_mw "OverflowError.__init__" a)).get? h'.objs.size = some (PySem.W.kxs_mw "OverflowError.__init__" a) := Heap.get?_push_size _ rfl
    refine PySem.W.kxs_callWith (i := "OverflowError.__init__") (x := a) rfl (Calls.evalArgs_plain (Calls.spliced_cons (Calls.Constant_str (pos := p3) (k := j) (Calls.spliced_nil ⟨at_u, ?_⟩))))
    exact wrap_callO T.oex (I3.tok _) ha at_u (by show 1 ≤ sizeLine; decide) fun s' J => h s' J
end

section
variable {CX : CXT} {P : Program} {w : World} {K : PySem.W.Frag} {mg : Str → Option Value} {base : Heap} {n file : Str} {f C : Addr} {k : Nat} {fd : FuncData}
/-- such an __init__ keeps: the object's field is what it got -/
theorem ini_okO (F : IniF file K C f fd n) (T : ErrO K C n) (hmain : P.main.file = file) (htop : (P.main.scope.names.lookup ("super" : Str)).isSome = false) (hsup : mg "super" = none) (nn : n ≠ "self") (nd : (n == ("__debug__" : Str)) = false) (ncd : (n == ("__classdict__" : Str)) = false) :
    L2.FnOk P w K mg base CX (k + 1) f fd ["self", n] (spIni C n) := by
  obtain ⟨name, qual, m, params, scope, dV, kV, doc, pm, ct, oc, an, od, osl, cc, cda, p0, p1, p2, p3, p4, p5, p6, p7, p8, p9, j, ar, ccl, cl, cdd, cld, ccs, csl, vs0, tf, rfl, lf, hcd, hp, har, lc, hvs, lcc, kind, hco, hgen, l1, l2, hks, hkc, nc, nf, line⟩ := F.ex
  refine ⟨fun vs H Q E h => by obtain ⟨a, v, rfl, _⟩ := h; rfl, fun A outer s H args us vs Q E hr e0 hb r hsp => ?_⟩
  obtain ⟨a, v, rfl, ha, hq⟩ := hsp
  cases r with
  | @cons _ u1 _ us1 r1 r' =>
    cases r' with
    | @cons _ u2 _ us2 r2 r'' =>
      cases r'' with
      | nil =>
        have KX : K.In s.heap := e0.mod.kin.keeps
            fun b o e => (e0.bs b o e).1
        have lim : s.heap.NoLimit := e0.mod.nolimit.keeps
            fun b o e => (e0.bs b o e).1
        refine PySem.ks_codeAny_call_defAt (body := iniBody m n p0 p1 p2 p3 p4 p5 p6 p7 p8 p9 j) hr.depth (KX _ _ lf) rfl lim (PySem.W.codeRec_of KX hcd) rfl hb nc ?_ (fun h₁ hns kp => ?_) hco hgen kind
        · intro y hy
          (rcases List.mem_cons.mp hy with rfl | hy)
          · exact l1
          · (rcases List.mem_cons.mp hy with rfl | hy)
            · exact l2
            · exact absurd hy List.not_mem_nil
        · have I : Inv (supCx CX P w K mg base ["self", n] qual scope f (.ref cda) cc A outer s H E) [] [some (.ref a), some v] H { s with heap := h₁, toks := s.toks + 2 } :=
            sup_start e0 hr.hd kind nn l1 l2 nc nf ⟨_, _, e0.mod.kin _ _ lcc, rfl⟩ hns kp r1 r2
          refine PySem.ks_wpAt_execs_cons (sup_stmtO (CX := CX) (E := E) (H0 := H) (s0 := s) (A := A) (outer := outer) (pins := []) (σ := [some (.ref a), some v]) I rfl ha T hmain htop hsup lf hp har lc hvs lcc kind l1 hks hkc _ line fun s' J => ?_)
          have v0 : PE (supCx CX P w K mg base ["self", n] qual scope f (.ref cda) cc A outer s H E) (.Name "self" p6) (tVar 0) := pe_var (i := 0) rfl (.inl l1)
          have v1 : PE (supCx CX P w K mg base ["self", n] qual scope f (.ref cda) cc A outer s H E) (.Name n p8) (tVar 1) := pe_var (i := 1) rfl (.inl l2) nd ncd
          have st : PS (supCx CX P w K mg base ["self", n] qual scope f (.ref cda) cc A outer s H E) (.Assign [.Attribute (.Name "self" p6) n p7] (.Name n p8) p9) (tOstO K n (tVar 0) (tVar 1)) := ps_ostO v0 v1
          have goes := (pss_cons st pss_nil).run [] s' [some (.ref a), some v] H { nx := fun _ H' => Q .non H', rt := Q } J ⟨v, rfl, .ref a, rfl, a, C, rfl, T.oex, T.no, ha, fun dx hd ne => hq dx hd ne⟩
          refine wpAt_of_wpAny (wpAny_mono goes (fun fl s2 hs => ?_) fun e s2 hs => hs)
          cases fl with
          | ret u =>
            obtain ⟨v', σ', H', J', rv, q⟩ := hs
            exact ⟨v', H', J'.os, J'.bare, J'.base, J'.hok, rv, q⟩
          | next =>
            obtain ⟨σ', H', J', q⟩ := hs
            exact ⟨V.non, H', J'.os, J'.bare, J'.base, J'.hok, rfl, q⟩
          | brk =>
            obtain ⟨_, _, _, q⟩ := hs
            exact False.elim q
          | cont =>
            obtain ⟨_, _, _, q⟩ := hs
            exact False.elim q
end

section
variable {X : Cx} {Wx : WX} {c n : Str} {m : ME} {e : Expr} {f C : Addr} {k : Nat} {fd : FuncData} {p pos pos' : Pos}
end
/-! ### what the written part says, by one check -/
def oflB (K : PySem.W.Frag) (C : Addr) : Bool := (match K.lookup C with
  | some ⟨.type "type", _, .cls cd,
      sl⟩ => (match cd.mro, sl.toList with
    | .ref C' :: bm, [_, _, _, _, some (.builtin n), _] => C' == C && (n == "OverflowError.__new__" && (!cd.hasDel && (cd.hasDict && bm == oflTail)))
    | _, _ => false)
  | _ => false) && (PySem.W.findIn K (.ref C) "__setattr__" == some (some (.builtin "object.__setattr__")) && (PySem.W.subIn K (.ref C) (.type "BaseException") == some true && (PySem.W.typeIn K (.ref C) == some (.type "type") && PySem.W.keepIn K (.ref C))))
theorem oflB_ok {K : PySem.W.Frag} {C : Addr} (h : oflB K C = true) : OflC K C := by
  unfold oflB at h
  simp only [Bool.and_eq_true, beq_iff_eq] at h
  obtain ⟨h0, h1, h2, h3, h4⟩ := h
  refine ⟨?_, h1, h2, h3, h4⟩
  split at h0
  · rename_i dd cd sl ho
    split at h0
    · (rename_i C' bm k0 k1 k2 k3 n k5 hm hs)
      simp only [Bool.and_eq_true, beq_iff_eq, Bool.not_eq_true'] at h0
      obtain ⟨rfl, rfl, hdel, hdict, rfl⟩ := h0
      (obtain ⟨nm, bs, mro, ns, qn, hd, sn, sub, ab, col, del⟩ := cd)
      dsimp only at hm hdel hdict
      subst hm hdel hdict
      have hsl : sl = #[k0, k1, k2, k3, some (.builtin "OverflowError.__new__"), k5] := by
        obtain ⟨l⟩ := sl
        simp only at hs
        rw [hs]
      subst hsl
      exact ⟨nm, qn, ns, bs, sn, sub, ab, col, dd, k0, k1, k2, k3, k5, ho⟩
    · cases h0
  · cases h0
structure ErrAO (file : Str) (K : PySem.W.Frag) (C f : Addr) (n : Str) : Prop where
  cls : ErrO K C n
  ini : ∃ fd, IniF file K C f fd n ∧ Binds K fd ["self", n] []
  iC : PySem.W.findIn K (.ref C) "__init__" = some (some (.ref f))
  tI : PySem.W.typeIn K (.ref f) = some (.type "function")
  nn : n ≠ "self"
  nd : (n == ("__debug__" : Str)) = false
  nc : (n == ("__classdict__" : Str)) = false
  xf : XfC K C
def errBO (file : Str) (K : PySem.W.Frag) (C f : Addr) (n : Str) : Bool :=
  (match K.lookup f with
  | some ⟨_, _, .func fd, _⟩ => fdB file K C n fd
  | _ => false) && (oflB K C && (PySem.W.ks_superIn K C C "__init__" == some (some (.builtin "OverflowError.__init__")) && (PySem.W.subIn K (.ref C) (.type "OverflowError") == some true && (PySem.W.mroIn K C (.ref C) == some true && (PySem.W.nsIn K PySem.cStatics "thirdparty.any" == some none &&
    (PySem.W.findIn K (.ref C) n == some none && (PySem.W.findIn K (.ref C) "__init__" == some (some (.ref f)) && (PySem.W.typeIn K (.ref f) == some (.type "function") && xfB K C))))))))
theorem errBO_ok {file : Str} {K : PySem.W.Frag} {C f : Addr} {n : Str} (h : errBO file K C f n = true) : ErrAO file K C f n := by
  unfold errBO at h
  simp only [Bool.and_eq_true, beq_iff_eq] at h
  obtain ⟨h0, h1, h2, h3, h4, h5, h6, h7, h8, h9⟩ := h
  split at h0
  · rename_i oc od fd osl ho
    unfold fdB at h0
    simp only [Bool.and_eq_true, beq_iff_eq, bne_iff_ne, ne_eq] at h0
    obtain ⟨g0, g1, g2, g3, g4, g5, g6, g7, g8, g9, g10⟩ := h0
    obtain ⟨name, qual, params, body, scope, gl, clo, dV, kV, doc, pm, an, cdv, ct, bt⟩ := fd
    dsimp only at g0 g1 g2 g3 g4 g5 g6 g7
    subst g0 g1
    cases body with
    | stmts b =>
      obtain ⟨m, p0, p1, p2, p3, p4, p5, p6, p7, p8, p9, j, rfl, line⟩ := iniBody_of g2
      obtain ⟨e1, q1, e2, q2, rfl⟩ := iniPar_of g3
      obtain ⟨cc, cl, cld, csl, rfl, lcc⟩ := iniClo_of g4
      obtain ⟨cda, ccl, cdd, vs, ccs, tf, rfl, hcd, lc, hvs⟩ := iniCod_of g5
      have d : dV = .none := by
        revert g7
        cases dV <;> simp
      subst d
      unfold iniScB at g6
      simp only [Bool.and_eq_true, beq_iff_eq, Bool.not_eq_true'] at g6
      obtain ⟨k0, k1, k2, k3, k4, k5, k6, k7, k8⟩ := g6
      refine ⟨⟨oflB_ok h1, h2, h3, h4, h5, h6⟩, ⟨_, ⟨name, qual, m, _, scope, .none, kV, doc, pm, ct, oc, an, od, osl, cc, cda, p0, p1, p2, p3, p4, p5, p6, p7, p8, p9, j, ⟨"self", e1, q1⟩, ccl, cl, cdd, cld, ccs, csl, vs, tf, rfl, ho, hcd, rfl, rfl, lc, hvs, lcc, k0, k1, k2, k3, k4, k5, k6, ?_, ?_, line⟩, ?_⟩, h7, h8, g8, beq_false_of_ne g9, beq_false_of_ne g10, xfB_ok h9⟩
      · intro y hy
        have z := List.all_eq_true.mp k7 y hy
        exact fun e => by rw [e] at z; exact absurd z (by decide)
      · intro y hy e
        have z := List.all_eq_true.mp k8 y hy
        rw [e] at z
        simpa using z
      · exact Binds.all fun us hl => match us, hl with | [u1, u2], _ => bind_two g8
    | _ => cases g2
  · cases h0
section
variable {X : Cx} {Wx : WX} {c n file : Str} {m : ME} {e : Expr} {f C : Addr} {p pos pos' : Pos}
end
end DL
set_option Elab.async false
set_option linter.all false
set_option maxRecDepth 100000
set_option maxHeartbeats 1900000
/-! DXE: own errors as values: made by place, by name; their field; isinstance. -/
namespace PySem
namespace HandSPX
open Builtin
    Builtin.ObjectAttr
/-! ### C(..), C an own class of errors, with keywords -/
section
variable {M : Model} {A : Around} {E : Value → Shared → Prop} {hp : Heap} {gs : Array GenState} {dr : Drawn} {tk : Nat} {os : OsState}
variable {nm q : Str} {C N : Addr} {bs bm bmB : List Value} {hdct : Bool} {sn : List Str} {sub : List Value}
    {ab : Bool} {col : Option Bool} {dd : Option Addr} {k0 k1 k2 k3 k5 : Option Value} {B newId initId : String}
theorem new_checked (F : ExcBaseFacts B newId initId bmB) (same : ∀ Y : String, bm.contains (.type Y) = bmB.contains (.type Y)) {us : List Value} {kw : List (Str × Value)} {Q : Unit → Shared → Prop}
    (at_C : hp.get? C = some (excClassObj nm q C N bs bm hdct sn sub ab col dd k0 k1 k2 k3 k5 newId)) (go : Q () ⟨hp, gs, dr, tk, os⟩) : wpAny M A (checkBuiltinCall newId ⟨.ref C :: us, kw⟩) Q E ⟨hp, gs, dr, tk, os⟩ := by
  have over : (Value.ref C :: bm).contains (.type B) = true := by
    rw [List.contains_cons, same, F.hasB]
    exact Bool.or_true _
  have st := F.noStar
  (simp only [checkBuiltinCall, F.newKind, F.newSplit, F.newRow])
  repeat (first | refine wpAny_loadPart_at at_C ?_ | (refine wpAny_isSubtype_exc at_C ?_; rw [over]) | refine wpAny_staticBase_exc at_C ?_ | refine wpAny_madeBy_exc at_C ?_ | simp only [bne_self_eq_false, Bool.false_eq_true, if_false] | wp_step)
  first
    | exact go
    | skip
end
section
variable {prog : Program} {w : World} {A : Around} {E : Value → Shared → Prop} {R : Result → Shared → Prop} {hp : Heap} {gs : Array GenState} {dr : Drawn} {tk : Nat} {os : OsState}
variable {nm q : Str} {C N : Addr} {bs bm bmB : List Value} {hdct : Bool} {sn : List Str} {sub : List Value}
    {ab : Bool} {col : Option Bool} {dd : Option Addr} {k0 k1 k2 k3 k5 : Option Value} {B newId initId : String}
/-- the object is laid; what is given by name nobody looks at -/
theorem new_laid (F : ExcBaseFacts B newId initId bmB) (same : ∀ Y : String, bm.contains (.type Y) = bmB.contains (.type Y)) {us : List Value} {kw : List (Str × Value)}
    (at_C : hp.get? C = some (excClassObj nm q C N bs bm hdct sn sub ab col dd k0 k1 k2 k3 k5 newId)) (few : us.length ≤ sizeLine)
    (go : R (.ok (.ret (.ref (hp.objs.size + 1)))) ⟨(hp.push (W.kdv_tup us)).push (excO C hp.objs.size), gs, dr, tk, os⟩) :
    codeAny (model prog w) A (.builtin newId ⟨.ref C :: us, kw⟩) R ⟨hp, gs, dr, tk, os⟩ := by
  have over : (Value.ref C :: bm).contains (.type B) = true := by
    rw [List.contains_cons, same, F.hasB]
    exact Bool.or_true _
  have noA : (Value.ref C :: bm).contains (.type "AttributeError") = false := by
    rw [List.contains_cons, same, F.noAttr]
    rfl
  have noN : (Value.ref C :: bm).contains (.type "NameError") = false := by
    rw [List.contains_cons, same, F.noName]
    rfl
  have st := F.ends
  (refine codeAny_builtinAt F.entry ?_)
  (unfold Builtin.«BaseException.__new__»)
  refine wpAt_bind ?_
  (show wpAt _ _ _ (stack >>= _) _ _ _)
  (refine wpAt_bind (wpAt_stack fun p below => wpAt_of_wpAny ?_))
  wp_walk
  refine wpAt_of_wpAny ?_
  rw [F.owner]
  repeat (first | with_reducible refine wpAny_madeHere_exc F.canon at_C ?_ | with_reducible refine wpAny_loadPart_at at_C ?_ | (with_reducible refine wpAny_isSubtype_exc at_C ?_; first | rw [over] | rw [noA] | rw [noN]) | wp_step)
  (show R _ _)
  rw [Heap.size_push]
  exact go
theorem made_own (F : ExcBaseFacts B newId initId bmB) (same : ∀ Y : String, bm.contains (.type Y) = bmB.contains (.type Y)) {us : List Value} {kw : List (Str × Value)} {fI : Addr} {Q : Fin → Shared → Prop}
    (at_C : hp.get? C = some (excClassObj nm q C N bs bm hdct sn sub ab col dd k0 k1 k2 k3 k5 newId)) (few : us.length ≤ sizeLine)
    (init : W.Looks (model prog w) hp (typeLookup (.ref C) "__init__") (some (.ref fI))) (bind : ∀ self, W.Looks (model prog w) hp (bindSpecial (.ref fI) self) (.ref fI, [self]))
    (run : codeAny (model prog w) A (.call (.ref fI) ⟨.ref (hp.objs.size + 1) :: us, kw⟩)
      (fun r s' => match r with | .ok (.ret v) => v = .none ∧ Q (.done (.ret (.ref (hp.objs.size + 1)))) s' | .ok _ => False | .error e => E e s')
      ⟨(hp.push (W.kdv_tup us)).push (excO C hp.objs.size), gs, dr, tk, os⟩) :
    wpAny (model prog w) A (Builtin.«type.__call__» ⟨.ref C :: us, kw⟩) Q E ⟨hp, gs, dr, tk, os⟩ := by
  repeat (first | with_reducible refine wpAny_loadPart_at at_C ?_ | with_reducible refine wpAny_madeBy_exc at_C ?_ | wp_step)
  refine codeAny_call_builtin_code (Code.quiet_builtin _ F.quiet) (new_checked F same at_C ?_)
  refine new_laid F same at_C few ?_
  (show wpAny _ _ _ _ _ _)
  have kp : ∀ b o, hp.get? b = some o → ((hp.push (W.kdv_tup us)).push (excO C hp.objs.size)).get? b = some o := fun b o z => Heap.get?_push_of_some _ (Heap.get?_push_of_some _ z)
  have later := kp _ _ at_C
  have new : ((hp.push (W.kdv_tup us)).push (excO C hp.objs.size)).get? (hp.objs.size + 1) = some (excO C hp.objs.size) := by heap_get
  have selfC : (Value.ref C :: bm).contains (.ref C) = true := by simp
  have look := init.keeps kp
  have bound := (bind (.ref (hp.objs.size + 1))).keeps kp
  unfold isInstance
  repeat (first | with_reducible refine wpAny_loadPart_at new ?_ | (with_reducible refine wpAny_isSubtype_exc later ?_; rw [selfC]) | wp_step)
  (show wpAny _ _ (typeLookup (.ref C) _) _ _ _)
  refine look.at ?_
  refine wpAny_holding (wpAny_bind (bound.at ?_))
  refine wpAny_bind (wpAny_call (codeAny_mono run fun r s' z => ?_))
  match r, z with
  | .error _, z => exact z
  | .ok (.ret v), z =>
    obtain ⟨rfl, z⟩ := z
    first
      | exact wpAny_pure
          (wpAny_pure z)
      | (wp_walk; exact z)
theorem call_made (F : ExcBaseFacts B newId initId bmB) (same : ∀ Y : String, bm.contains (.type Y) = bmB.contains (.type Y)) {us : List Value} {kw : List (Str × Value)} {fI : Addr}
    (at_C : hp.get? C = some (excClassObj nm q C N bs bm hdct sn sub ab col dd k0 k1 k2 k3 k5 newId)) (few : us.length ≤ sizeLine)
    (init : W.Looks (model prog w) hp (typeLookup (.ref C) "__init__") (some (.ref fI))) (bind : ∀ self, W.Looks (model prog w) hp (bindSpecial (.ref fI) self) (.ref fI, [self]))
    (run : codeAny (model prog w) (A.under (.builtin "type.__call__" ⟨.ref C :: us, kw⟩)) (.call (.ref fI) ⟨.ref (hp.objs.size + 1) :: us, kw⟩) (W.InitBack (hp.objs.size + 1) R)
      ⟨(hp.push (W.kdv_tup us)).push (excO C hp.objs.size), gs, dr, tk, os⟩) :
    codeAny (model prog w) A (.call (.ref C) ⟨us, kw⟩) R ⟨hp, gs, dr, tk, os⟩ := by
  have l1 := tc_lookup
  have l2 := tc_bind (.ref C)
  have ty : (⟨hp, gs, dr, tk, os⟩ : Shared).TypeIs (.ref C) "type" := ⟨_, at_C, rfl⟩
  (refine codeAny_of_tree ?_)
  (show wpAny _ _ (callAny (.ref C) _) _ _ _)
  repeat (any_goals (first | assumption | with_reducible refine wpAny_loadPart_at at_C ?_ | wp_step))
  refine ⟨rfl, ?_⟩
  refine codeAny_call_builtin_at (Code.quiet_builtin _ (by decide +kernel)) entry_typeCall (wpAny_check_type_call_sub at_C (made_own F same at_C few init bind ?_))
  refine codeAny_mono run fun r s' z => ?_
  match r, z with
  | .error _, z => exact z
  | .ok (.ret _), z => exact z
end
end HandSPX
end PySem
namespace DL
open L2 PyProof.Rows PySem PySem.Spec
def Makes (P : Program) (w : World) (K : PySem.W.Frag) (C : Addr) : Prop := ∀ {A : Around} {R : Result → Shared → Prop} {hp : Heap} {gs : Array GenState} {dr : Drawn} {tk : Nat} {os : OsState} (us : List Value) (kw : List (Str × Value)) (fI : Addr), K.In hp →
  PySem.W.findIn K (.ref C) "__init__" = some (some (.ref fI)) → PySem.W.typeIn K (.ref fI) = some (.type "function") → us.length ≤ sizeLine →
  codeAny (model P w) (A.under (.builtin "type.__call__" ⟨.ref C :: us, kw⟩)) (.call (.ref fI) ⟨.ref (hp.objs.size + 1) :: us, kw⟩) (PySem.W.InitBack (hp.objs.size + 1) R) ⟨(hp.push (PySem.W.kdv_tup us)).push (PySem.HandSPX.excO C hp.objs.size), gs, dr, tk, os⟩ →
  codeAny (model P w) A (.call (.ref C) ⟨us, kw⟩) R ⟨hp, gs, dr, tk, os⟩
theorem makes_val {P : Program} {w : World} {K : PySem.W.Frag} {C : Addr} (T : OexC K C) : Makes P w K C := by
  obtain ⟨nm, q, N, bs, bm, sn, sub, ab, col, dd, k0, k1, k2, k3, k5, lk, over⟩ := T.cls
  exact fun us kw fI kin init fn few run => PySem.HandSPX.call_made F.excBase_ValueError (fun Y => PySem.HandSPX.refsVE_contains Y bm over) (kin _ _ lk) few (PySem.W.looks_findIn kin init) (fun self => PySem.W.bind_fn kin self fn) run
theorem makes_ofl {P : Program} {w : World} {K : PySem.W.Frag} {C : Addr} (T : OflC K C) : Makes P w K C := by
  obtain ⟨nm, q, N, bs, sn, sub, ab, col, dd, k0, k1, k2, k3, k5, lk⟩ := T.cls
  exact fun us kw fI kin init fn few run => PySem.HandSPX.call_made F.excBase_OverflowError (fun Y => rfl) (kin _ _ lk) few (PySem.W.looks_findIn kin init) (fun self => PySem.W.bind_fn kin self fn) run
/-- what a made error needs of its class -/
structure ErrV (P : Program) (w : World) (K : PySem.W.Frag) (mg : Str → Option Value) (base : Heap) (C fI : Addr) (fd : FuncData) (n : Str) : Prop where
  makes : Makes P w K C
  iC : PySem.W.findIn K (.ref C) "__init__" = some (some (.ref fI))
  tI : PySem.W.typeIn K (.ref fI) = some (.type "function")
  kC : PySem.W.keepIn
      K (.ref C) = true
  run : L2.FnOk P w K mg base (L2.CX P w) 2 fI fd ["self", n] (spIni C n)
section
variable {X : Cx} {C fI : Addr} {fd : FuncData} {n c : Str} {e : Expr} {te : TE} {p pos kp : Pos}
theorem exc_run {pins : List (Addr × Obj)} {σ : L2.St} {H : Hp} {s : Shared} {Q : VK} {us : List Value} {kw : List (Str × Value)} {v : V} {u : Value} (T : ErrV X.prog X.w X.K X.mg X.base C fI fd n) (hr : L2.Room 3 X.A) (few : us.length ≤ sizeLine)
    (bind : ∀ (s' : Shared) (a : Addr), X.K.In s'.heap → BindsTo s' fd ⟨.ref a :: us, kw⟩ ((["self", n] : List Str).zip [.ref a, u])) (I : Inv X pins σ H s) (r : RelV v u)
    (go : ∀ a dx, H a = none → H dx = none → dx ≠ a → Q (.ref a) (upd (upd H dx (exd dx [(n, v)])) a (exo a C (some dx)))) :
    wpAny (model X.prog X.w) X.A (call (.ref C) us kw) (EP X pins σ Q) X.xe s := by
  (obtain ⟨h1, gs, dr, tk, os⟩ := s)
  have le : h1.objs.size ≤ h1.objs.size + 1 := Nat.le_add_right _ _
  have na : H (h1.objs.size + 1) = none := I.hok.fresh le
  have kp : ∀ b o, h1.get? b = some o → ((h1.push (PySem.W.kdv_tup us)).push (PySem.HandSPX.excO C h1.objs.size)).get? b = some o := fun b o z => Heap.get?_push_of_some _ (Heap.get?_push_of_some _ z)
  have new : ((h1.push (PySem.W.kdv_tup us)).push (PySem.HandSPX.excO C h1.objs.size)).get? (h1.objs.size + 1) = some (PySem.HandSPX.excO C h1.objs.size) := by heap_get
  have I2 := I.laid (t' := tk) (a := h1.objs.size + 1) (o := exo (h1.objs.size + 1) C none) kp le (exo_ok new)
  have all : Vals [V.ref (h1.objs.size + 1), v] [Value.ref (h1.objs.size + 1), u] := .cons rfl (.cons r .nil)
  have sp : spIni C n [V.ref (h1.objs.size + 1), v] (upd H (h1.objs.size + 1) (exo (h1.objs.size + 1) C none)) (fun x H2 => x = .non ∧ Q (.ref (h1.objs.size + 1)) H2) (fun _ _ _ => False) := by
    refine ⟨_, v, rfl, upd_same, fun dx nd ne => ⟨rfl, ?_⟩⟩
    have nd' : H dx = none := by
      rw [upd_ne ne] at nd
      exact nd
    have eh : upd (upd (upd H (h1.objs.size + 1) (exo (h1.objs.size + 1) C none)) dx (exd dx [(n, v)])) (h1.objs.size + 1) (exo (h1.objs.size + 1) C (some dx)) = upd (upd H dx (exd dx [(n, v)])) (h1.objs.size + 1) (exo (h1.objs.size + 1) C (some dx)) := by
      funext b
      by_cases hb : b = h1.objs.size + 1
      · rw [hb, upd_same, upd_same]
      · rw [upd_ne hb, upd_ne hb]
        by_cases hd : b = dx
        · rw [hd, upd_same, upd_same]
        · rw [upd_ne hd, upd_ne hd, upd_ne hb]
    rw [eh]
    exact go _ dx na nd' ne
  refine wpAny_call (T.makes us kw fI I.kIn T.iC T.tI few (codeAny_mono (T.run.run _ X.stack _ _ ⟨Value.ref (h1.objs.size + 1) :: us, kw⟩ [Value.ref (h1.objs.size + 1), u] _ _ (fun _ _ _ => False) (hr.make C us kw) (I2.env0.make C us kw) (bind _ _ I2.kIn) all sp) fun r s' got => ?_))
  match r, got with
  | .error er, got => exact passes0 pins σ _ _ er s' I2 got
  | .ok (.ret z), got =>
    obtain ⟨x, H2, I3, rx, ex, q⟩ := I2.after got
    subst ex
    exact ⟨rx, V.ref (h1.objs.size + 1), H2, I3, rfl, q⟩
def tExc (C : Addr) (n : Str) (te : TE) : TE := fun σ H Q => te σ H fun v H1 => ∀ a dx, H1 a = none → H1 dx = none → dx ≠ a → Q (.ref a) (upd (upd H1 dx (exd dx [(n, v)])) a (exo a C (some dx)))
def excPost (C : Addr) (n : Str) (Q : VK) : List V → Hp → Prop := fun vs H1 => match vs with
  | [v] => ∀ a dx, H1 a = none → H1 dx = none → dx ≠ a → Q (.ref a) (upd (upd H1 dx (exd dx [(n, v)])) a (exo a C (some dx)))
  | _ => False
/-- C(e) -/
theorem pe_exc (T : ErrV X.prog X.w X.K X.mg X.base C fI fd n) (hb : Binds X.K fd ["self", n] []) (hr : L2.Room 3 X.A) (hg : Gl X c) (hm : X.mg c = some (.ref C)) (he : PE X e te) (hdb : (c == ("__debug__" : Str)) = false := by decide) (hs : ArgAt X e [] := by rfl) (hpl : FlatAt X pos [] := by rfl) :
    PE X (.Call (.Name c p) [e] [] pos) (tExc C n te) := ⟨fun pins s σ H Q I h => by
  (refine wpAny_Call_Name_kw (ld_glob I hg hm ?_ hdb))
  refine PySem.W.callWith_K (h₀ := X.base) I.ok.mod.kin T.kC (thn ((pa_cons he pa_nil hs).run pos pins s σ H (excPost C n Q) I h) fun us s1 got => ?_) hs hpl
  obtain ⟨vs, H1, I1, r1, q⟩ := got
  cases r1 with
  | nil => exact False.elim q
  | cons r rr =>
    cases rr with
    | nil => exact ⟨I1.kIn, exc_run T hr (by rw [sizeLine_eq]; show 1 ≤ _; omega) (fun s' a kin => hb s' [.ref a, _] kin rfl) I1 r q⟩
    | cons _ _ => exact False.elim q⟩
/-- how such an __init__ binds what is given by name -/
def NameB (K : PySem.W.Frag) (fd : FuncData) (n : Str) : Prop := ∀ (s : Shared) (a : Addr) (u : Value), K.In s.heap → BindsTo s fd ⟨[.ref a], [(n, u)]⟩ ((["self", n] : List Str).zip [.ref a, u])
/-- C(n = e) -/
theorem pe_excK (T : ErrV X.prog X.w X.K X.mg X.base C fI fd n) (hb : NameB X.K fd n) (hr : L2.Room 3 X.A) (hg : Gl X c) (hm : X.mg c = some (.ref C)) (he : PE X e te) (hdb : (c == ("__debug__" : Str)) = false := by decide)
    (hall : KwAt X pos [⟨some n, e, kp⟩] := by rfl) (hks : KwNames X pos [⟨some n, e, kp⟩] [n] := by rfl) (hpl : FlatKw X pos [] [⟨some n, e, kp⟩] := by rfl) :
    PE X (.Call (.Name c p) [] [⟨some n, e, kp⟩] pos) (tExc C n te) := ⟨fun pins s σ H Q I h => by
  (refine wpAny_Call_Name_kw (ld_glob I hg hm ?_ hdb))
  refine PySem.W.callWith_KW0 (h₀ := X.base) I.ok.mod.kin T.kC hall (thn ((pk_cons (nm := some n) (kpos := kp) he pk_nil).run pos pins s σ H (excPost C n Q) I h) fun us s1 got => ?_) hpl
  obtain ⟨vs, H1, I1, r1, q⟩ := got
  rw [hks]
  cases r1 with
  | nil => exact False.elim q
  | @cons _ u _ _ r rr =>
    cases rr with
    | nil => exact ⟨I1.kIn, exc_run (us := []) (kw := [(n, u)]) T hr (Nat.zero_le _) (fun s' a kin => hb s' a u kin) I1 r q⟩
    | cons _ _ => exact False.elim q⟩
end
/-! ### as data -/
def mExc (c n : Str) (m : ME) : ME := fun env cc => (m env cc).bind fun w c1 => match w with
  | .d x => .ok (.d (.exc c n x)) c1
  | .cell _ => .stuck
section
variable {X : Cx} {Wx : WX} {C fI : Addr} {fd : FuncData} {n c : Str} {e : Expr} {m : ME} {p pos kp : Pos}
theorem exc_read {σ : L2.St} {H : Hp} {Q : VK} (hm : X.mg c = some (.ref C)) (h : EvE X Wx (mExc c n m) σ H Q) : tExc C n (EvE X Wx m) σ H Q :=
  Ev.bind h fun env ca w cc v H' he hc d run => by
    cases w with
    | cell _ => exact run.elim
    | d x =>
      intro a dx na nd ne
      have s1 : Stp ca H' ca (upd H' dx (exd dx [(n, v)])) := Stp.new hc nd
      have hc1 := hc.new (o := exd dx [(n, v)]) nd
      have na' : upd H' dx (exd dx [(n, v)]) a = none := by rw [upd_ne (Ne.symm ne)]; exact na
      have s2 : Stp ca (upd H' dx (exd dx [(n, v)])) ca (upd (upd H' dx (exd dx [(n, v)])) a (exo a C (some dx))) := Stp.new hc1 na'
      have no : ∀ {b : Addr}, H' b = none → ¬ Live ca b := fun nb l => by
        obtain ⟨o, q⟩ := hc.tracked l
        rw [nb] at q
        cases q
      exact run.now (s1.trans s2) (hc1.new na') ⟨a, C, dx, v, rfl, no na, no nd, hm, upd_same, by rw [upd_ne ne, upd_same], (DenW.mono (s1.trans s2) (w := .d x) d)⟩
theorem pv_exc (T : ErrV X.prog X.w X.K X.mg X.base C fI fd n) (hb : Binds X.K fd ["self", n] []) (hr : L2.Room 3 X.A) (hg : Gl X c) (hm : X.mg c = some (.ref C)) (he : PEv X Wx e m) (hdb : (c == ("__debug__" : Str)) = false := by decide) (hs : ArgAt X e [] := by rfl) (hpl : FlatAt X pos [] := by rfl) :
    PEv X Wx (.Call (.Name c p) [e] [] pos) (mExc c n m) := (pe_exc T hb hr hg hm he hdb hs hpl).imp fun _ _ _ h => exc_read hm h
theorem pv_excK (T : ErrV X.prog X.w X.K X.mg X.base C fI fd n) (hb : NameB X.K fd n) (hr : L2.Room 3 X.A) (hg : Gl X c) (hm : X.mg c = some (.ref C)) (he : PEv X Wx e m) (hdb : (c == ("__debug__" : Str)) = false := by decide)
    (hall : KwAt X pos [⟨some n, e, kp⟩] := by rfl) (hks : KwNames X pos [⟨some n, e, kp⟩] [n] := by rfl) (hpl : FlatKw X pos [] [⟨some n, e, kp⟩] := by rfl) :
    PEv X Wx (.Call (.Name c p) [] [⟨some n, e, kp⟩] pos) (mExc c n m) := (pe_excK T hb hr hg hm he hdb hall hks hpl).imp fun _ _ _ h => exc_read hm h
end
end DL
set_option Elab.async false
set_option linter.all false
set_option maxRecDepth 100000
set_option maxHeartbeats 1900000
namespace DL
open L2 PyProof.Rows PySem PySem.Spec
theorem bind_name {name qual n : Str} {e1 e2 : Option Expr} {q1 q2 : Pos} {body : List Stmt} {scope : Scope} {cl : List (Str × Addr)} {kV doc pm cdv ct u1 u2 : Value} {an : Option Addr} (ne : n ≠ "self") :
    bindArgs (PySem.W.fnX name qual ⟨[], [⟨"self", e1, q1⟩, ⟨n, e2, q2⟩], none, [], [], none, []⟩ body scope cl .none kV doc pm an cdv ct) ⟨[u1], [(n, u2)]⟩ = pure [(("self" : Str), u1), (n, u2)] := by
  have b1 : (n == ("self" : Str)) = false := beq_false_of_ne ne
  have b2 : (n == n) = true := beq_self_eq_true n
  have b3 : (("self" : Str) == ("self" : Str)) = true := beq_self_eq_true _
  have l0 : ([(("self" : Str), u1)] : List (Str × Value)).lookup n = none := by simp only [List.lookup, b1]
  have l1 : ([(("self" : Str), u1), (n, u2)] : List (Str × Value)).lookup ("self" : Str) = some u1 := by simp only [List.lookup, b3]
  have l2 : ([(("self" : Str), u1), (n, u2)] : List (Str × Value)).lookup n = some u2 := by simp only [List.lookup, b1, b2]
  have m1 : (List.filter (fun x => (([(("self" : Str), u1), (n, u2)] : List (Str × Value)).lookup x).isNone) [("self" : Str), n]) = [] := by
    simp only [List.filter, l1, l2, Option.isNone_some]
  have m2 : (List.filterMap (fun x => (([(("self" : Str), u1), (n, u2)] : List (Str × Value)).lookup x).map (x, ·)) [("self" : Str), n]) = [(("self" : Str), u1), (n, u2)] := by
    simp only [List.filterMap, l1, l2, Option.map_some]
  have c1 : ([("self" : Str), n] : List Str).contains n = true := by simp
  unfold bindArgs
  simp only [PySem.W.fnX, List.map_cons, List.map_nil, List.nil_append, List.zip_cons_cons, List.zip_nil_right, List.forIn_cons, List.forIn_nil, c1, l0, Bool.true_or, if_true, Option.isSome_none, Bool.false_eq_true, if_false, pure_bind, List.cons_append]
  show (do
    let missing := List.filter (fun x => (([(("self" : Str), u1), (n, u2)] : List (Str × Value)).lookup x).isNone) [("self" : Str), n]
    if !missing.isEmpty then
      (rule "call.bind.missing-positional")
      theBinderRefuses _
    let binds := List.filterMap (fun x => (([(("self" : Str), u1), (n, u2)] : List (Str × Value)).lookup x).map (x, ·)) [("self" : Str), n]
    pure binds) = _
  rw [m1, m2]
  rfl

theorem name_of {file : Str} {K : PySem.W.Frag} {C f : Addr} {fd : FuncData} {n : Str} (lk : ∃ oc od osl, K.lookup f = some ⟨oc, od, .func fd, osl⟩) (h : (match K.lookup f with
  | some ⟨_, _, .func fd, _⟩ => fdB file K C n fd
  | _ => false) = true) : NameB K fd n := by
  obtain ⟨oc, od, osl, lk⟩ := lk
  rw [lk] at h
  have h0 : fdB file K C n fd = true := h
  unfold fdB at h0
  simp only [Bool.and_eq_true, beq_iff_eq, bne_iff_ne, ne_eq] at h0
  obtain ⟨g0, g1, g2, g3, g4, g5, g6, g7, g8, _, _⟩ := h0
  obtain ⟨name, qual, params, body, scope, gl, clo, dV, kV, doc, pm, an, cdv, ct, bt⟩ := fd
  dsimp only at g0 g1 g2 g3 g4 g5 g6 g7
  subst g0 g1
  cases body with
  | stmts b =>
    obtain ⟨e1, q1, e2, q2, rfl⟩ := iniPar_of g3
    have d : dV = .none := by
      revert g7
      cases dV <;> simp
    subst d
    intro s a u kin
    exact BindsTo.of_looks fun M => by
      refine .of_pure ?_
      exact bind_name g8
  | _ => cases g2
section
variable {P : Program} {w : World} {K : PySem.W.Frag} {mg : Str → Option Value} {base : Heap} {C f : Addr} {n file : Str}
/-- what a made error needs, and how its __init__ binds -/
def ErrN (P : Program) (w : World) (K : PySem.W.Frag) (mg : Str → Option Value) (base : Heap) (C f : Addr) (n : Str) : Prop := ∃ fd, ErrV P w K mg base C f fd n ∧ Binds K fd ["self", n] [] ∧ NameB K fd n
theorem err_val (h : errB file K C f n = true) (hfile : P.main.file = file) (htop : (P.main.scope.names.lookup ("super" : Str)).isSome = false) (hsup : mg "super" = none) : ErrN P w K mg base C f n := by
  have A := errB_ok h
  obtain ⟨fd, F, B⟩ := A.ini
  refine ⟨fd, ⟨makes_val A.cls.oex, A.iC, A.tI, A.cls.oex.kC, ini_ok F A.cls hfile htop hsup A.nn A.nd A.nc⟩, B, ?_⟩
  unfold errB at h
  rw [Bool.and_eq_true] at h
  obtain ⟨name, qual, m, params, scope, dV, kV, doc, pm, ct, oc, an, od, osl, cc, cda, p0, p1, p2, p3, p4, p5, p6, p7, p8, p9, j, ar, ccl, cl, cdd, cld, ccs, csl, vs, tf, rfl, lf, _⟩ := F.ex
  exact name_of ⟨_, _, _, lf⟩ h.1
theorem err_ofl (h : errBO file K C f n = true) (hfile : P.main.file = file) (htop : (P.main.scope.names.lookup ("super" : Str)).isSome = false) (hsup : mg "super" = none) : ErrN P w K mg base C f n := by
  have A := errBO_ok h
  obtain ⟨fd, F, B⟩ := A.ini
  refine ⟨fd, ⟨makes_ofl A.cls.oex, A.iC, A.tI, A.cls.oex.kC, ini_okO F A.cls hfile htop hsup A.nn A.nd A.nc⟩, B, ?_⟩
  unfold errBO at h
  rw [Bool.and_eq_true] at h
  obtain ⟨name, qual, m, params, scope, dV, kV, doc, pm, ct, oc, an, od, osl, cc, cda, p0, p1, p2, p3, p4, p5, p6, p7, p8, p9, j, ar, ccl, cl, cdd, cld, ccs, csl, vs, tf, rfl, lf, _⟩ := F.ex
  exact name_of ⟨_, _, _, lf⟩ h.1
end
section
variable {X : Cx} {Wx : WX} {C f : Addr} {n c : Str} {e : Expr} {m : ME} {p pos kp : Pos}
theorem pv_excE (T : ErrN X.prog X.w X.K X.mg X.base C f n) (hr : Room 3 X.A) (hg : Gl X c) (hm : X.mg c = some (.ref C)) (he : PEv X Wx e m) (hdb : (c == ("__debug__" : Str)) = false := by decide) (hs : ArgAt X e [] := by rfl) (hpl : FlatAt X pos [] := by rfl) :
    PEv X Wx (.Call (.Name c p) [e] [] pos) (mExc c n m) := by
  obtain ⟨fd, V, B, _⟩ := T
  exact pv_exc V B hr.toRoom hg hm he hdb hs hpl
theorem pv_excN (T : ErrN X.prog X.w X.K X.mg X.base C f n) (hr : Room 3 X.A) (hg : Gl X c) (hm : X.mg c = some (.ref C)) (he : PEv X Wx e m) (hdb : (c == ("__debug__" : Str)) = false := by decide)
    (hall : KwAt X pos [⟨some n, e, kp⟩] := by rfl) (hks : KwNames X pos [⟨some n, e, kp⟩] [n] := by rfl) (hpl : FlatKw X pos [] [⟨some n, e, kp⟩] := by rfl) :
    PEv X Wx (.Call (.Name c p) [] [⟨some n, e, kp⟩] pos) (mExc c n m) := by
  obtain ⟨fd, V, _, B⟩ := T
  exact pv_excK V B hr.toRoom hg hm he hdb hall hks hpl
end
/-! ### the field of an error -/
def tExfs (K : PySem.W.Frag) (n : Str) (te : TE) : TE := fun σ H Q => te σ H fun x H1 => ∃ (C a dx : Addr) (fs : List (Str × V)) (v : V), XfC K C ∧ PySem.W.findIn K (.ref C) n = some none ∧ x = .ref a ∧ H1 a = some (exo a C (some dx)) ∧ H1 dx = some (exd dx fs) ∧ fs.lookup n = some v ∧ Q v H1
theorem pe_exf {X : Cx} {e : Expr} {te : TE} {pos : Pos} {n : Str} (he : PE X e te) (hb : BaseAt X e n := by rfl) : PE X (.Attribute e n pos) (tExfs X.K n te) := ⟨fun pins s σ H Q I h => by
  (refine attr_of hb (thn (he.run pins s σ H _ I h) fun u s1 hh => ?_))
  obtain ⟨x, H1, I1, rx, C, a, dx, fs, v, T, no, rfl, ea, ed, l, q⟩ := hh
  cases rx
  obtain ⟨t1, at_a⟩ := exo_at I1.hok ea
  obtain ⟨mA, ns, rel⟩ := exd_at I1.hok ed
  obtain ⟨od, at_d, look⟩ := lookIn_ns ns
  obtain ⟨u, hu, ru⟩ := RelO.some_of (v := v) (o := mA n) (by rw [← l]; exact rel n)
  have J : PySem.W.InstAt s1.heap a _ C (some od) := ⟨at_a, rfl, rfl, at_d⟩
  exact HandSPX.exc_get I1.kIn J T.ga T.gg T.exC (PySem.W.findObj_own T.hdC no rfl (by rw [look, hu])) (handed_of ru) ⟨v, H1, I1.tok _, ru, q⟩⟩
def mExf (cs : List Str) (f : Str) (m : ME) : ME := fun env cc => (m env cc).bind fun w c1 => match w with
  | .d (.exc c n x) => if memS c cs = true ∧ eqS n f = true then .ok (.d x) c1 else .stuck
  | _ => .stuck
def exfB (K : PySem.W.Frag) (cs : List Str) (f : Str) : Bool := cs.all fun c => xhB K (He.ga K c) f
section
variable {X : Cx} {Wx : WX} {errs cs : List Str} {f k : Str} {e : Expr} {m : ME} {p pos pc : Pos}
theorem pv_exf (S : ErrS X.K X.mg errs (He.ga X.K)) (sub : cs.all (fun c => memS c errs) = true) (hx : exfB X.K cs f = true) (he : PEv X Wx e m) (hb : BaseAt X e f := by rfl) : PEv X Wx (.Attribute e f pos) (mExf cs f m) :=
  (pe_exf he hb).imp fun σ H Q h => Ev.bind h fun env ca w cc v H' he hc d run => by
    split at run
    · rename_i c n x
      split at run
      · rename_i g
        obtain ⟨a, C, dx, u, rfl, na, nd, hm, h1, h2, dx2⟩ := (show DenD X.wd X.mg (Live ca) H' (.exc c n x) v from d)
        have en := eqS_iff.mp g.2
        subst en
        have mc := memS_mem g.1
        have me := memS_mem (List.all_eq_true.mp sub c mc)
        have eC : C = He.ga X.K c := by
          have q := (S.glo c me).symm.trans hm
          injection q with q
          injection q with q
          exact q.symm
        subst eC
        have xh := xhB_ok (List.all_eq_true.mp hx c mc)
        refine ⟨_, a, dx, [(n, u)], u, xh.1, xh.2, rfl, h1, h2, ?_, run.now (Stp.refl _ _) hc dx2⟩
        rw [List.lookup_cons, beq_self_eq_true]
      · exact run.elim
    · exact run.elim
end
/-! ### isinstance of an error -/
def rIsV (K : PySem.W.Frag) : List V → Hp → VK → Prop := fun xs H Q => ∃ (C a dx : Addr) (fs : List (Str × V)) (c : V) (cv : Value) (b : Bool), ExcC K C ∧ xs = [.ref a, c] ∧ H a = some (exo a C (some dx)) ∧ H dx = some (exd dx fs) ∧ (∀ u, RelV c u → u = cv) ∧ PySem.W.kitOne K (.ref C) cv = some b ∧ Q (.bl b) H
theorem call_isV {X : Cx} : CallR X (.builtin "isinstance") (rIsV X.K) := by
  (intro pins s σ H xs us Q I r h)
  obtain ⟨C, a, dx, fs, c, cv, b, T, rfl, ea, ed, only, e, q⟩ := h
  cases r with
  | cons r1 rr =>
    cases rr with
    | cons r2 rr =>
      cases rr
      cases r1
      cases only _ r2
      obtain ⟨t1, at_a⟩ := exo_at I.hok ea
      obtain ⟨mA, ns, _⟩ := exd_at I.hok ed
      obtain ⟨od, at_d, _⟩ := lookIn_ns ns
      have J : PySem.W.InstAt s.heap a _ C (some od) := ⟨at_a, rfl, rfl, at_d⟩
      have some_cls : (PySem.W.clsIn X.K C).isSome = true := by
        obtain ⟨cl, at_, _⟩ := PySem.W.any_some T.hd
        rw [at_]
        rfl
      exact PySem.W.kia_one (PySem.W.kitx_exc some_cls T.hg T.hk T.hs T.ha T.hn T.ht T.hm) I.kIn J e (fun z => nomatch z) fun tk => ⟨.bl b, H, I.kept (t' := tk) fun _ _ z => z, rfl, q⟩
def tabIs (tab : List (Str × Bool)) (c : Str) : Option Bool := (tab.find? fun p => eqS p.1 c).map (·.2)
def mIsX (tab : List (Str × Bool)) (m : ME) : ME := fun env cc => (m env cc).bind fun w c1 => match w with
  | .d (.exc c _ _) => match tabIs tab c with
    | some b => .ok (.d (.bl b)) c1
    | none => .stuck
  | _ => .stuck
def isxB (K : PySem.W.Frag) (tab : List (Str × Bool)) (cv : Value) : Bool := tab.all fun p => excB K (He.ga K p.1) && kitB K (He.ga K p.1) cv p.2
section
variable {X : Cx} {Wx : WX} {errs : List Str} {tab : List (Str × Bool)} {k : Str} {e : Expr} {m : ME} {p pos pc : Pos} {v : V} {cv : Value}
theorem pv_isx (S : ErrS X.K X.mg errs (He.ga X.K)) (sub : tab.all (fun p => memS p.1 errs) = true) (ht : isxB X.K tab cv = true) (hk : PE X (.Name k pc) (tC v)) (only : ∀ u, RelV v u → u = cv) (hg : Gl X "isinstance") (hmr : X.mg "isinstance" = none) (hb : bootBuiltins "isinstance" = some (.builtin "isinstance"))
    (he : PEv X Wx e m) (hs : starEach [e, .Name k pc] X.env = (false, eval e X.env) :: starEach [.Name k pc] X.env := by rfl) (hs2 : starEach [.Name k pc] X.env = (false, eval (.Name k pc) X.env) :: starEach [] X.env := by rfl) (hpl : (backTo pos (starEach [.Name k pc] X.env)).any (·.1) = false := by rfl) :
    PEv X Wx (.Call (.Name "isinstance" p) [e, .Name k pc] [] pos) (mIsX tab m) :=
  (pe_callB (p := p) (pos := pos) call_isV hg hmr hb (pa_cons he (pa_cons hk pa_nil hs2) hs) (he := hs) (hpl := hpl)).imp fun σ H Q h => Ev.bind h fun env ca w cc v' H' he hc d run => by
    split at run
    · rename_i c n x
      split at run
      · rename_i b eb
        obtain ⟨a, C, dx, u, rfl, na, nd, hm, h1, h2, dx2⟩ := (show DenD X.wd X.mg (Live ca) H' (.exc c n x) v' from d)
        unfold tabIs at eb
        obtain ⟨q, fq, rfl⟩ := Option.map_eq_some_iff.mp eb
        have mq := List.mem_of_find?_eq_some fq
        have ec := eqS_iff.mp (List.find?_some (p := fun p : Str × Bool => eqS p.1 c) fq)
        have me := memS_mem (List.all_eq_true.mp sub q mq)
        have eC : C = He.ga X.K c := by
          rw [ec] at me
          have z := (S.glo c me).symm.trans hm
          injection z with z
          injection z with z
          exact z.symm
        subst eC
        have z := List.all_eq_true.mp ht q mq
        rw [Bool.and_eq_true, ec] at z
        exact ⟨_, a, dx, _, v, cv, q.2, excB_ok z.1, rfl, h1, h2, only, kitB_ok z.2, run.now (Stp.refl _ _) hc rfl⟩
      · exact run.elim
    · exact run.elim
end
end DL
set_option Elab.async false
set_option linter.all false
set_option maxRecDepth 100000
set_option maxHeartbeats 0
noncomputable section NC
namespace Lw
open PySem PySem.Spec PyProof.Rows L2 DL
abbrev prog : Program := PySem.Challenge.pw_visitslips_k82_errors_told
def top (i : Nat) : Stmt := prog.main.body.getD i (.Pass ⟨0, 0, 0, 0⟩)
def errs : List PySem.Str := ["NoSlip", "NoRules", "NoLand", "NoHost", "NoReader", "NoVisit", "NoStore", "NoDeed", "NoPlan", "NoGuard", "NoTrouble", "NoCase", "NoNote", "NothingBack", "NoNumber", "NoMenu", "TooMany"]
end Lw

end NC
set_option Elab.async false
set_option linter.all false
set_option maxRecDepth 100000
set_option maxHeartbeats 0
namespace Lw
open PySem PySem.Spec PyProof.Rows L2 DL
def nm0 : List PySem.Str := ["SlipError", "NoHost", "NoLand", "NoRules", "NoSlip", "NoDeed", "NoStore", "NoVisit", "NoReader", "NoCase", "NoTrouble", "NoGuard", "NoPlan", "NoMenu"]
def nm1 : List PySem.Str := ["NoNumber", "NothingBack", "NoNote", "TooMany", "_law_by_place", "_law_by_name", "_law_kept", "_law_kinds"]
def names : List PySem.Str := nm0 ++ nm1
def fa0 : List He.Fa := [.free "len", .free "super", .free "enumerate", .free "isinstance", .free "ValueError", .free "range", .free "OverflowError", .glo "NoSlip", .glo "NoRules", .glo "NoLand", .glo "NoHost", .glo "NoReader", .glo "NoVisit", .glo "NoStore"] ++ [.glo "NoDeed", .glo "NoPlan", .glo "NoGuard", .glo "NoTrouble", .glo "NoCase", .glo "NoNote"]
def fa1 : List He.Fa := [.glo "NothingBack", .glo "NoNumber", .glo "NoMenu", .glo "SlipError", .glo "TooMany"]
def d_fn__law_by_name : He.DefD := ⟨("_law_by_name", none), "_law_by_name", "_law_by_name", defArgs (top 21), defBody (top 21), defScope (top 21), [], []⟩
def d_fn__law_by_place : He.DefD := ⟨("_law_by_place", none), "_law_by_place", "_law_by_place", defArgs (top 20), defBody (top 20), defScope (top 20), [], []⟩
def d_fn__law_kept : He.DefD := ⟨("_law_kept", none), "_law_kept", "_law_kept", defArgs (top 22), defBody (top 22), defScope (top 22), [], []⟩
def d_fn__law_kinds : He.DefD := ⟨("_law_kinds", none), "_law_kinds", "_law_kinds", defArgs (top 23), defBody (top 23), defScope (top 23), [], []⟩
def d_fn_law : He.DefD := ⟨("law", none), "law", "law", defArgs (top 24), defBody (top 24), defScope (top 24), [], []⟩
def ex (K : PySem.W.Frag) : Bool := errB prog.main.file K (He.ga K "NoSlip") (He.ma K (He.ga K "NoSlip") "__init__") "slip" && (errB prog.main.file K (He.ga K "NoRules") (He.ma K (He.ga K "NoRules") "__init__") "part" && (errB prog.main.file K (He.ga K "NoLand") (He.ma K (He.ga K "NoLand") "__init__") "part" && (errB prog.main.file K (He.ga K "NoHost") (He.ma K (He.ga K "NoHost") "__init__") "host" && (errB prog.main.file K (He.ga K "NoReader") (He.ma K (He.ga K "NoReader") "__init__") "reader" && (errB prog.main.file K (He.ga K "NoVisit") (He.ma K (He.ga K "NoVisit") "__init__") "visit" && (errB prog.main.file K (He.ga K "NoStore") (He.ma K (He.ga K "NoStore") "__init__") "store" && (errB prog.main.file K (He.ga K "NoDeed") (He.ma K (He.ga K "NoDeed") "__init__") "deed" && (errB prog.main.file K (He.ga K "NoPlan") (He.ma K (He.ga K "NoPlan") "__init__") "part" && (errB prog.main.file K (He.ga K "NoGuard") (He.ma K (He.ga K "NoGuard") "__init__") "guard" && (errB prog.main.file K (He.ga K "NoTrouble") (He.ma K (He.ga K "NoTrouble") "__init__") "trouble" && (errB prog.main.file K (He.ga K "NoCase") (He.ma K (He.ga K "NoCase") "__init__") "part" && (errB prog.main.file K (He.ga K "NoNote") (He.ma K (He.ga K "NoNote") "__init__") "line" && (errB prog.main.file K (He.ga K "NothingBack") (He.ma K (He.ga K "NothingBack") "__init__") "many" && (errB prog.main.file K (He.ga K "NoNumber") (He.ma K (He.ga K "NoNumber") "__init__") "value" && (errB prog.main.file K (He.ga K "NoMenu") (He.ma K (He.ga K "NoMenu") "__init__") "menu" && (exfB K ["NoSlip"] "slip" && (exfB K ["NoLand", "NoRules", "NoCase", "NoPlan"] "part" && (exfB K ["NoHost"] "host" && (exfB K ["NoReader"] "reader" && (exfB K ["NoVisit"] "visit" && (exfB K ["NoStore"] "store" && (exfB K ["NoDeed"] "deed" && (exfB K ["NoGuard"] "guard" && (exfB K ["NoTrouble"] "trouble" && (exfB K ["NoNote"] "line" && (exfB K ["NothingBack"] "many" && (exfB K ["NoNumber"] "value" && (exfB K ["NoMenu"] "menu" && (isxB K [("NoHost", true), ("NoLand", true), ("NoRules", true), ("NoSlip", true), ("NoDeed", true), ("NoStore", true), ("NoVisit", true), ("NoReader", true), ("NoCase", true), ("NoTrouble", true), ("NoGuard", true), ("NoPlan", true), ("NoMenu", true), ("NoNumber", true), ("NothingBack", true), ("NoNote", true), ("TooMany", false)] (.ref (He.ga K "SlipError")) && (isxB K [("NoHost", true), ("NoLand", true), ("NoRules", true), ("NoSlip", true), ("NoDeed", true), ("NoStore", true), ("NoVisit", true), ("NoReader", true), ("NoCase", true), ("NoTrouble", true), ("NoGuard", true), ("NoPlan", true), ("NoMenu", true), ("NoNumber", true), ("NothingBack", true), ("NoNote", true), ("TooMany", false)] (.type "ValueError") && (isxB K [("NoHost", false), ("NoLand", false), ("NoRules", false), ("NoSlip", true), ("NoDeed", false), ("NoStore", false), ("NoVisit", false), ("NoReader", false), ("NoCase", false), ("NoTrouble", false), ("NoGuard", false), ("NoPlan", false), ("NoMenu", false), ("NoNumber", false), ("NothingBack", false), ("NoNote", false), ("TooMany", false)] (.ref (He.ga K "NoSlip")) && (isxB K [("NoHost", false), ("NoLand", false), ("NoRules", true), ("NoSlip", false), ("NoDeed", false), ("NoStore", false), ("NoVisit", false), ("NoReader", false), ("NoCase", false), ("NoTrouble", false), ("NoGuard", false), ("NoPlan", false), ("NoMenu", false), ("NoNumber", false), ("NothingBack", false), ("NoNote", false), ("TooMany", false)] (.ref (He.ga K "NoRules")) && (isxB K [("NoHost", false), ("NoLand", true), ("NoRules", false), ("NoSlip", false), ("NoDeed", false), ("NoStore", false), ("NoVisit", false), ("NoReader", false), ("NoCase", false), ("NoTrouble", false), ("NoGuard", false), ("NoPlan", false), ("NoMenu", false), ("NoNumber", false), ("NothingBack", false), ("NoNote", false), ("TooMany", false)] (.ref (He.ga K "NoLand")) && (isxB K [("NoHost", true), ("NoLand", false), ("NoRules", false), ("NoSlip", false), ("NoDeed", false), ("NoStore", false), ("NoVisit", false), ("NoReader", false), ("NoCase", false), ("NoTrouble", false), ("NoGuard", false), ("NoPlan", false), ("NoMenu", false), ("NoNumber", false), ("NothingBack", false), ("NoNote", false), ("TooMany", false)] (.ref (He.ga K "NoHost")) && (isxB K [("NoHost", false), ("NoLand", false), ("NoRules", false), ("NoSlip", false), ("NoDeed", false), ("NoStore", false), ("NoVisit", false), ("NoReader", true), ("NoCase", false), ("NoTrouble", false), ("NoGuard", false), ("NoPlan", false), ("NoMenu", false), ("NoNumber", false), ("NothingBack", false), ("NoNote", false), ("TooMany", false)] (.ref (He.ga K "NoReader")) && (isxB K [("NoHost", false), ("NoLand", false), ("NoRules", false), ("NoSlip", false), ("NoDeed", false), ("NoStore", false), ("NoVisit", true), ("NoReader", false), ("NoCase", false), ("NoTrouble", false), ("NoGuard", false), ("NoPlan", false), ("NoMenu", false), ("NoNumber", false), ("NothingBack", false), ("NoNote", false), ("TooMany", false)] (.ref (He.ga K "NoVisit")) && (isxB K [("NoHost", false), ("NoLand", false), ("NoRules", false), ("NoSlip", false), ("NoDeed", false), ("NoStore", true), ("NoVisit", false), ("NoReader", false), ("NoCase", false), ("NoTrouble", false), ("NoGuard", false), ("NoPlan", false), ("NoMenu", false), ("NoNumber", false), ("NothingBack", false), ("NoNote", false), ("TooMany", false)] (.ref (He.ga K "NoStore")) && (isxB K [("NoHost", false), ("NoLand", false), ("NoRules", false), ("NoSlip", false), ("NoDeed", true), ("NoStore", false), ("NoVisit", false), ("NoReader", false), ("NoCase", false), ("NoTrouble", false), ("NoGuard", false), ("NoPlan", false), ("NoMenu", false), ("NoNumber", false), ("NothingBack", false), ("NoNote", false), ("TooMany", false)] (.ref (He.ga K "NoDeed")) && (isxB K [("NoHost", false), ("NoLand", false), ("NoRules", false), ("NoSlip", false), ("NoDeed", false), ("NoStore", false), ("NoVisit", false), ("NoReader", false), ("NoCase", false), ("NoTrouble", false), ("NoGuard", false), ("NoPlan", true), ("NoMenu", false), ("NoNumber", false), ("NothingBack", false), ("NoNote", false), ("TooMany", false)] (.ref (He.ga K "NoPlan")) && (isxB K [("NoHost", false), ("NoLand", false), ("NoRules", false), ("NoSlip", false), ("NoDeed", false), ("NoStore", false), ("NoVisit", false), ("NoReader", false), ("NoCase", false), ("NoTrouble", false), ("NoGuard", true), ("NoPlan", false), ("NoMenu", false), ("NoNumber", false), ("NothingBack", false), ("NoNote", false), ("TooMany", false)] (.ref (He.ga K "NoGuard")) && (isxB K [("NoHost", false), ("NoLand", false), ("NoRules", false), ("NoSlip", false), ("NoDeed", false), ("NoStore", false), ("NoVisit", false), ("NoReader", false), ("NoCase", false), ("NoTrouble", true), ("NoGuard", false), ("NoPlan", false), ("NoMenu", false), ("NoNumber", false), ("NothingBack", false), ("NoNote", false), ("TooMany", false)] (.ref (He.ga K "NoTrouble")) && (isxB K [("NoHost", false), ("NoLand", false), ("NoRules", false), ("NoSlip", false), ("NoDeed", false), ("NoStore", false), ("NoVisit", false), ("NoReader", false), ("NoCase", true), ("NoTrouble", false), ("NoGuard", false), ("NoPlan", false), ("NoMenu", false), ("NoNumber", false), ("NothingBack", false), ("NoNote", false), ("TooMany", false)] (.ref (He.ga K "NoCase")) && (isxB K [("NoHost", false), ("NoLand", false), ("NoRules", false), ("NoSlip", false), ("NoDeed", false), ("NoStore", false), ("NoVisit", false), ("NoReader", false), ("NoCase", false), ("NoTrouble", false), ("NoGuard", false), ("NoPlan", false), ("NoMenu", false), ("NoNumber", false), ("NothingBack", false), ("NoNote", true), ("TooMany", false)] (.ref (He.ga K "NoNote")) && (isxB K [("NoHost", false), ("NoLand", false), ("NoRules", false), ("NoSlip", false), ("NoDeed", false), ("NoStore", false), ("NoVisit", false), ("NoReader", false), ("NoCase", false), ("NoTrouble", false), ("NoGuard", false), ("NoPlan", false), ("NoMenu", false), ("NoNumber", false), ("NothingBack", true), ("NoNote", false), ("TooMany", false)] (.ref (He.ga K "NothingBack")) && (isxB K [("NoHost", false), ("NoLand", false), ("NoRules", false), ("NoSlip", false), ("NoDeed", false), ("NoStore", false), ("NoVisit", false), ("NoReader", false), ("NoCase", false), ("NoTrouble", false), ("NoGuard", false), ("NoPlan", false), ("NoMenu", false), ("NoNumber", true), ("NothingBack", false), ("NoNote", false), ("TooMany", false)] (.ref (He.ga K "NoNumber")) && (isxB K [("NoHost", false), ("NoLand", false), ("NoRules", false), ("NoSlip", false), ("NoDeed", false), ("NoStore", false), ("NoVisit", false), ("NoReader", false), ("NoCase", false), ("NoTrouble", false), ("NoGuard", false), ("NoPlan", false), ("NoMenu", true), ("NoNumber", false), ("NothingBack", false), ("NoNote", false), ("TooMany", false)] (.ref (He.ga K "NoMenu")) && (errBO prog.main.file K (He.ga K "TooMany") (He.ma K (He.ga K "TooMany") "__init__") "most" && (exfB K ["TooMany"] "most" && (isxB K [("NoHost", false), ("NoLand", false), ("NoRules", false), ("NoSlip", false), ("NoDeed", false), ("NoStore", false), ("NoVisit", false), ("NoReader", false), ("NoCase", false), ("NoTrouble", false), ("NoGuard", false), ("NoPlan", false), ("NoMenu", false), ("NoNumber", false), ("NothingBack", false), ("NoNote", false), ("TooMany", true)] (.type "OverflowError") && (errSB K errs && (true)))))))))))))))))))))))))))))))))))))))))))))))))))
def p0 : HX.Part := ⟨fa0, [], fun _ => true, true⟩
def p1 : HX.Part := ⟨fa1, [], ex, false⟩
def p2 : HX.Part := ⟨[], [d_fn__law_by_name, d_fn__law_by_place, d_fn__law_kept, d_fn__law_kinds, d_fn_law], fun _ => true, false⟩
abbrev R : PySem.W.OpenRow := PySem.W.OpenLaw.row PySem.Challenge.rw_visitslips_k82_errors_told
end Lw
set_option Elab.async false
set_option linter.all false
set_option maxRecDepth 100000
set_option maxHeartbeats 0
namespace Lw
open PySem PySem.Spec PyProof.Rows L2 DL
theorem runL (w : World) : HX.RunL R 9000 w := by
  intro os
  kernel_rfl
end Lw
set_option Elab.async false
set_option linter.all false
set_option maxRecDepth 100000
set_option maxHeartbeats 0
namespace Lw
open PySem PySem.Spec PyProof.Rows L2 DL
theorem runS (w : World) : HX.RunS R (PySem.W.view R.prog [24]) 9000 names w := by
  intro os
  kernel_rfl
end Lw
set_option Elab.async false
set_option linter.all false
set_option maxRecDepth 100000
set_option maxHeartbeats 0
namespace Lw
open PySem PySem.Spec PyProof.Rows L2 DL
theorem run0 (w : World) : HX.RunP R 550 p0 9000 w := by
  intro os
  kernel_rfl
end Lw
set_option Elab.async false
set_option linter.all false
set_option maxRecDepth 100000
set_option maxHeartbeats 0
namespace Lw
open PySem PySem.Spec PyProof.Rows L2 DL
theorem run1 (w : World) : HX.RunP R 550 p1 9000 w := by
  intro os
  kernel_rfl
end Lw
set_option Elab.async false
set_option linter.all false
set_option maxRecDepth 100000
set_option maxHeartbeats 0
namespace Lw
open PySem PySem.Spec PyProof.Rows L2 DL
theorem run2 (w : World) : HX.RunP R 550 p2 9000 w := by
  intro os
  kernel_rfl
end Lw
set_option Elab.async false
set_option linter.all false
set_option maxRecDepth 100000
set_option maxHeartbeats 3900000
/-! TY: the program's things as plain Lean, and how they stand as data. -/
namespace Ty
open PySem DL
abbrev Words := List PySem.Str
/-- a word -/
def okW (x : PySem.Str) : Bool := Nat.ble 1 x.cps.toList.length && (Nat.ble x.cps.toList.length 8 && x.cps.toList.all fun c => Nat.ble 97 c && Nat.ble c 122)
def okWs (lo hi : Nat) (xs : Words) : Bool := Nat.ble lo xs.length && (Nat.ble xs.length hi && xs.all okW)
def okHost (h : Words) : Bool := okWs 1 4 h
def okPath (h : Words) : Bool := okWs 0 3 h
def eqH : Words → Words → Bool
  | [], [] => true
  | x :: xs, y :: ys => eqS x y && eqH xs ys
  | _, _ => false
structure Slip where
  name : PySem.Str
  worth : PySem.Str
  host : Words
  wide : Bool
  path : Words
  fin : Option Int
  marks : Words
structure Rl where
  most : Int
  wideKey : Bool
  renewed : Bool
  guarded : Bool
  drop : PySem.Str
  first : PySem.Str
  names : List (PySem.Str × Words)
structure Ld where
  houses : List Words
  common : List Words
structure Store where
  day : Int
  slips : List Slip
inductive Deed where
  | put (house : Words) (closed : Bool) (slip : Slip)
  | wait (days : Int)
/-! as data -/
/-! what is right -/
def okEnd : Option Int → Bool
  | none => true
  | some i => decide (1 ≤ i) && decide (i ≤ 9999)
def marksW : Words := ["closed", "hidden", "near"]
def condsW : Words := ["closed", "own", "whole"]
/-- just those of some words, in their order -/
def okOf (words xs : Words) : Bool := eqH xs (words.filter fun w => xs.any fun x => eqS x w)
/-! ### what can be compared -/
structure SlipOk (s : Slip) : Prop where
  name : okW s.name = true
  worth : okW s.worth = true
  host : okHost s.host = true
  path : okPath s.path = true
  fin : okEnd s.fin = true
  marks : okOf marksW s.marks = true
end Ty
namespace Ty
open PySem DL
/-! ### lands -/
structure LdOk (l : Ld) : Prop where
  houses : l.houses.all okHost = true
  common : l.common.all okHost = true
  few : l.houses.length ≤ 1000
  few2 : l.common.length ≤ 1000
def begins (row longer : Words) : Bool := eqH (longer.take row.length) row
def startsOf (h : Words) : List Words := (List.range h.length).map fun i => h.take (i + 1)
def isCommon (l : Ld) (h : Words) : Bool := l.common.any fun z => eqH z h
def roundOf (l : Ld) (h : Words) : Words := match (startsOf h).filter fun s => !isCommon l s with
  | [] => h
  | s :: _ => s
/-! ### keys -/
def sameKy (r : Rl) (a b : Slip) : Bool := eqS a.name b.name && (eqH a.host b.host && ((!r.wideKey || (a.wide == b.wide)) && eqH a.path b.path))
/-! ### puts -/
def overOn (s : Slip) (day : Int) : Bool := match s.fin with
  | none => false
  | some e => decide (e ≤ day)
def hasMark (s : Slip) (m : PySem.Str) : Bool := s.marks.any fun x => eqS x m
/-- a condition is asked of a name -/
def asks (r : Rl) (name cond : PySem.Str) : Bool := r.names.any fun p => Txt.startswith name p.1 && p.2.any fun c => eqS c cond
def hasRight (l : Ld) (house : Words) (s : Slip) : Bool := if s.wide then begins s.host house && !isCommon l s.host else eqH s.host house
def meetsNames (r : Rl) (s : Slip) : Bool :=
  if (asks r s.name "own" && s.wide) || (asks r s.name "whole" && !s.path.isEmpty) then false else !asks r s.name "closed" || hasMark s "closed"
def allowed (l : Ld) (r : Rl) (house : Words) (closed : Bool) (s : Slip) : Bool :=
  if !hasRight l house s || (hasMark s "closed" && !closed) then false else meetsNames r s
def isPlain (s : Slip) : Bool := !hasMark s "closed"
/-- the places of the slips of a kind -/
def spots (p : Slip → Bool) (ss : List Slip) : List Nat := (ss.zipIdx.filter fun q => p q.1).map (·.2)
def foundAt (r : Rl) (ss : List Slip) (s : Slip) : Option Nat := (spots (fun x => sameKy r x s) ss).head?
/-- the first place of a slip of a circle (that is plain, if any is and it matters) -/
def dropSpot (l : Ld) (r : Rl) (ss : List Slip) (one : Words) : Nat :=
  let inOne := fun s : Slip => eqH (roundOf l s.host) one
  if eqS r.drop "plain" then (spots (fun s => inOne s && isPlain s) ss ++ spots inOne ss).headD 0 else (spots inOne ss).headD 0
def withNew (l : Ld) (r : Rl) (ss : List Slip) (s : Slip) : List Slip :=
  let later := ss ++ [s]
  let one := roundOf l s.host
  if ((later.countP fun x => eqH (roundOf l x.host) one : Nat) : Int) ≤ r.most then later else later.eraseIdx (dropSpot l r later one)
def exchanged (r : Rl) (ss : List Slip) (n : Nat) (s : Slip) : List Slip := if r.renewed then ss.eraseIdx n ++ [s] else ss.set n s
def putIn (l : Ld) (r : Rl) (st : Store) (house : Words) (closed : Bool) (s : Slip) : Store :=
  if !allowed l r house closed s then st else match foundAt r st.slips s with
    | some n => if r.guarded && ((st.slips[n]?.map fun x => hasMark x "closed").getD false && !closed) then st
      else if overOn s st.day then ⟨st.day, st.slips.eraseIdx n⟩ else ⟨st.day, exchanged r st.slips n s⟩
    | none => if overOn s st.day then st else ⟨st.day, withNew l r st.slips s⟩
def behind (l : Ld) (r : Rl) (st : Store) : Deed → Store
  | .put h c s => putIn l r st h c s
  | .wait n => let day := if st.day + n < 9999 then st.day + n else 9999
    ⟨day, st.slips.filter fun s => !overOn s day⟩
structure RlOk (r : Rl) : Prop where
  low : 1 ≤ r.most
  high : r.most ≤ 6
  drop : r.drop = "eldest" ∨ r.drop = "plain"
  first : r.first = "elder" ∨ r.first = "younger"
  names : ∀ p ∈ r.names, okW p.1 = true ∧ okOf condsW p.2 = true
  few : r.names.length ≤ 6
end Ty
namespace Ty
end Ty
namespace Ty
open PySem DL
/-! ### visits -/
structure Visit where
  host : Words
  path : Words
  page : Option Words
  helper : Bool
  closed : Bool
structure VisitOk (v : Visit) : Prop where
  host : okHost v.host = true
  path : okPath v.path = true
  page : ∀ h, v.page = some h → okHost h = true
end Ty
set_option Elab.async false
set_option linter.all false
set_option maxRecDepth 100000
set_option maxHeartbeats 0
noncomputable section NC
namespace Lw
open PySem PySem.Spec PyProof.Rows L2 DL

end Lw

end NC
set_option Elab.async false
set_option linter.all false
set_option maxRecDepth 100000
set_option maxHeartbeats 3900000
/-! S1: what the program's small functions tell of right things. -/
namespace Lw
open PySem PySem.Spec PyProof.Rows L2 DL Ty
section
variable {env env' : DL.Env} {cc c c2 : Cs} {a b : MS} {m : ME} {t : DL.Env → M Bool} {w : W} {i : Nat}
theorem if_no (h : t env cc = .ok false c) : sIf t a b env cc = b env c := by
  unfold sIf
  rw [h]
  rfl
theorem seq_if_no (h : t env cc = .ok false cc) : sSeq (sIf t a sNext) b env cc = b env cc := by
  unfold sSeq
  rw [if_no h]
  rfl
theorem seq_to (h : a env cc = .nx env' c) : sSeq a b env cc = b env' c := by
  unfold sSeq
  rw [h]
  rfl
end
section
variable {cc : Cs} (ok : okBelow cc.length cc = true)
include ok
end
end Lw
set_option Elab.async false
set_option linter.all false
set_option maxRecDepth 100000
set_option maxHeartbeats 3900000
/-! SR: how a form runs on data, the cells left alone. -/
namespace Lw
open PySem PySem.Spec PyProof.Rows L2 DL Ty
section
variable {env : DL.Env} {cc : Cs} {m n : ME} {t u : DL.Env → M Bool} {x y z : D} {w w2 : W} {ws us : List W} {r : DL.Env → M (List W)} {a b : Bool}
/-- the expression tells this value, nothing changes -/
abbrev Tells (env : DL.Env) (cc : Cs) (m : ME) (x : D) : Prop := m env cc = .ok (.d x) cc
abbrev Holds (env : DL.Env) (cc : Cs) (t : DL.Env → M Bool) (a : Bool) : Prop := t env cc = .ok a cc
theorem op_ok {g : D → D → Option D} (h : Tells env cc m x) (k : Tells env cc n y) (q : g x y = some z) : Tells env cc (mOp g m n) z := by
  unfold Tells mOp
  rw [h]
  simp only [R.bind]
  rw [k]
  simp only [see, q]
theorem args0 : mNil env cc = .ok [] cc := rfl
theorem args {w : W} (h : m env cc = .ok w cc) (k : r env cc = .ok ws cc) : mCons m r env cc = .ok (w :: ws) cc := by
  unfold mCons
  rw [h]
  simp only [R.bind]
  rw [k]
theorem t_ok (h : Tells env cc m (.bl a)) : Holds env cc (mT m) a := by
  unfold Holds mT
  rw [h]
  rfl
theorem or_ok (h : Holds env cc t a) (k : a = false → Holds env cc u b) : Holds env cc (mOr t u) (a || b) := by
  unfold Holds mOr mIf
  rw [h]
  cases a with
  | true => rfl
  | false => exact k rfl
theorem call_ok {F : Fn} {k : Nat} {dfl : List W} (h : r env cc = .ok ws cc) (hl : (ws ++ dfl).length = k) (run : F (ws ++ dfl) cc = .ok w cc) : mCall F k r dfl env cc = .ok w cc := by
  unfold mCall
  rw [h]
  simp only [R.bind, hl, if_true, run]
theorem call1 {F : Fn} (h : m env cc = .ok w2 cc) (run : F [w2] cc = .ok w cc) : mCall F 1 (mCons m mNil) [] env cc = .ok w cc := call_ok (args h args0) rfl run
theorem allD_map : ∀ ds : List D, allD (ds.map .d) = some ds
  | [] => rfl
  | x :: xs => by
    show (match allD (xs.map .d) with | some l => some (x :: l) | none => none) = _
    rw [allD_map xs]
theorem it_ok {ds : List D} (h : Tells env cc m x) (q : itemsD x = some ds) : mIt m env cc = .ok ds cc := by
  unfold mIt
  rw [h]
  simp only [R.bind, q]
end
end Lw
set_option Elab.async false
set_option linter.all false
set_option maxRecDepth 100000
set_option maxHeartbeats 0
noncomputable section NC
namespace Lw
open PySem PySem.Spec PyProof.Rows L2 DL
def fn__law_by_name_b : MS := (sSeq (sSet 1 (mLst (mCons (mExc "NoHost" "host" (mVar 0)) (mCons (mExc "NoLand" "part" (mVar 0)) (mCons (mExc "NoRules" "part" (mVar 0)) (mCons (mExc "NoSlip" "slip" (mVar 0)) mNil))))))
    (sSeq (sSet 1 (mOp dAdd (mVar 1) (mLst (mCons (mExc "NoDeed" "deed" (mVar 0)) (mCons (mExc "NoStore" "store" (mVar 0)) (mCons (mExc "NoVisit" "visit" (mVar 0)) (mCons (mExc "NoReader" "reader" (mVar 0)) mNil)))))))
    (sSeq (sSet 1 (mOp dAdd (mVar 1) (mLst (mCons (mExc "NoCase" "part" (mVar 0)) (mCons (mExc "NoTrouble" "trouble" (mVar 0)) (mCons (mExc "NoGuard" "guard" (mVar 0)) (mCons (mExc "NoPlan" "part" (mVar 0)) mNil)))))))
    (sRet (mOp dAdd (mVar 1) (mLst (mCons (mExc "NoMenu" "menu" (mVar 0)) (mCons (mExc "NoNumber" "value" (mVar 0)) (mCons (mExc "NothingBack" "many" (mVar 0)) (mCons (mExc "NoNote" "line" (mVar 0)) mNil))))))))))
def fn__law_by_name : Fn := fnOf 2 fn__law_by_name_b
def fn__law_by_place_b : MS := (sSeq (sSet 1 (mLst (mCons (mExc "NoHost" "host" (mVar 0)) (mCons (mExc "NoLand" "part" (mVar 0)) (mCons (mExc "NoRules" "part" (mVar 0)) (mCons (mExc "NoSlip" "slip" (mVar 0)) mNil))))))
    (sSeq (sSet 1 (mOp dAdd (mVar 1) (mLst (mCons (mExc "NoDeed" "deed" (mVar 0)) (mCons (mExc "NoStore" "store" (mVar 0)) (mCons (mExc "NoVisit" "visit" (mVar 0)) (mCons (mExc "NoReader" "reader" (mVar 0)) mNil)))))))
    (sSeq (sSet 1 (mOp dAdd (mVar 1) (mLst (mCons (mExc "NoCase" "part" (mVar 0)) (mCons (mExc "NoTrouble" "trouble" (mVar 0)) (mCons (mExc "NoGuard" "guard" (mVar 0)) (mCons (mExc "NoPlan" "part" (mVar 0)) mNil)))))))
    (sRet (mOp dAdd (mVar 1) (mLst (mCons (mExc "NoMenu" "menu" (mVar 0)) (mCons (mExc "NoNumber" "value" (mVar 0)) (mCons (mExc "NothingBack" "many" (mVar 0)) (mCons (mExc "NoNote" "line" (mVar 0)) mNil))))))))))
def fn__law_by_place : Fn := fnOf 2 fn__law_by_place_b
def fn__law_kept_b : MS := (sSeq (sSet 1 (mLst (mCons (mExf ["NoHost"] "host" (mIx (mVar 0) (mC (.int 0)))) (mCons (mExf ["NoLand", "NoRules", "NoCase", "NoPlan"] "part" (mIx (mVar 0) (mC (.int 1)))) (mCons (mExf ["NoLand", "NoRules", "NoCase", "NoPlan"] "part" (mIx (mVar 0) (mC (.int 2)))) (mCons (mExf ["NoSlip"] "slip" (mIx (mVar 0) (mC (.int 3)))) mNil))))))
    (sSeq (sSet 1 (mOp dAdd (mVar 1) (mLst (mCons (mExf ["NoDeed"] "deed" (mIx (mVar 0) (mC (.int 4)))) (mCons (mExf ["NoStore"] "store" (mIx (mVar 0) (mC (.int 5)))) (mCons (mExf ["NoVisit"] "visit" (mIx (mVar 0) (mC (.int 6)))) (mCons (mExf ["NoReader"] "reader" (mIx (mVar 0) (mC (.int 7)))) mNil)))))))
    (sSeq (sSet 1 (mOp dAdd (mVar 1) (mLst (mCons (mExf ["NoLand", "NoRules", "NoCase", "NoPlan"] "part" (mIx (mVar 0) (mC (.int 8)))) (mCons (mExf ["NoTrouble"] "trouble" (mIx (mVar 0) (mC (.int 9)))) (mCons (mExf ["NoGuard"] "guard" (mIx (mVar 0) (mC (.int 10)))) (mCons (mExf ["NoLand", "NoRules", "NoCase", "NoPlan"] "part" (mIx (mVar 0) (mC (.int 11)))) mNil)))))))
    (sRet (mOp dAdd (mVar 1) (mLst (mCons (mExf ["NoMenu"] "menu" (mIx (mVar 0) (mC (.int 12)))) (mCons (mExf ["NoNumber"] "value" (mIx (mVar 0) (mC (.int 13)))) (mCons (mExf ["NothingBack"] "many" (mIx (mVar 0) (mC (.int 14)))) (mCons (mExf ["NoNote"] "line" (mIx (mVar 0) (mC (.int 15)))) mNil))))))))))
def fn__law_kept : Fn := fnOf 2 fn__law_kept_b
def fn__law_kinds_b : MS := (sSeq (sSet 1 (mLst (mCons (mIsX [("NoHost", true), ("NoLand", false), ("NoRules", false), ("NoSlip", false), ("NoDeed", false), ("NoStore", false), ("NoVisit", false), ("NoReader", false), ("NoCase", false), ("NoTrouble", false), ("NoGuard", false), ("NoPlan", false), ("NoMenu", false), ("NoNumber", false), ("NothingBack", false), ("NoNote", false), ("TooMany", false)] (mVar 0)) (mCons (mIsX [("NoHost", false), ("NoLand", true), ("NoRules", false), ("NoSlip", false), ("NoDeed", false), ("NoStore", false), ("NoVisit", false), ("NoReader", false), ("NoCase", false), ("NoTrouble", false), ("NoGuard", false), ("NoPlan", false), ("NoMenu", false), ("NoNumber", false), ("NothingBack", false), ("NoNote", false), ("TooMany", false)] (mVar 0)) (mCons (mIsX [("NoHost", false), ("NoLand", false), ("NoRules", true), ("NoSlip", false), ("NoDeed", false), ("NoStore", false), ("NoVisit", false), ("NoReader", false), ("NoCase", false), ("NoTrouble", false), ("NoGuard", false), ("NoPlan", false), ("NoMenu", false), ("NoNumber", false), ("NothingBack", false), ("NoNote", false), ("TooMany", false)] (mVar 0)) (mCons (mIsX [("NoHost", false), ("NoLand", false), ("NoRules", false), ("NoSlip", true), ("NoDeed", false), ("NoStore", false), ("NoVisit", false), ("NoReader", false), ("NoCase", false), ("NoTrouble", false), ("NoGuard", false), ("NoPlan", false), ("NoMenu", false), ("NoNumber", false), ("NothingBack", false), ("NoNote", false), ("TooMany", false)] (mVar 0)) mNil))))))
    (sSeq (sSet 1 (mOp dAdd (mVar 1) (mLst (mCons (mIsX [("NoHost", false), ("NoLand", false), ("NoRules", false), ("NoSlip", false), ("NoDeed", true), ("NoStore", false), ("NoVisit", false), ("NoReader", false), ("NoCase", false), ("NoTrouble", false), ("NoGuard", false), ("NoPlan", false), ("NoMenu", false), ("NoNumber", false), ("NothingBack", false), ("NoNote", false), ("TooMany", false)] (mVar 0)) (mCons (mIsX [("NoHost", false), ("NoLand", false), ("NoRules", false), ("NoSlip", false), ("NoDeed", false), ("NoStore", true), ("NoVisit", false), ("NoReader", false), ("NoCase", false), ("NoTrouble", false), ("NoGuard", false), ("NoPlan", false), ("NoMenu", false), ("NoNumber", false), ("NothingBack", false), ("NoNote", false), ("TooMany", false)] (mVar 0)) (mCons (mIsX [("NoHost", false), ("NoLand", false), ("NoRules", false), ("NoSlip", false), ("NoDeed", false), ("NoStore", false), ("NoVisit", true), ("NoReader", false), ("NoCase", false), ("NoTrouble", false), ("NoGuard", false), ("NoPlan", false), ("NoMenu", false), ("NoNumber", false), ("NothingBack", false), ("NoNote", false), ("TooMany", false)] (mVar 0)) (mCons (mIsX [("NoHost", false), ("NoLand", false), ("NoRules", false), ("NoSlip", false), ("NoDeed", false), ("NoStore", false), ("NoVisit", false), ("NoReader", true), ("NoCase", false), ("NoTrouble", false), ("NoGuard", false), ("NoPlan", false), ("NoMenu", false), ("NoNumber", false), ("NothingBack", false), ("NoNote", false), ("TooMany", false)] (mVar 0)) mNil)))))))
    (sSeq (sSet 1 (mOp dAdd (mVar 1) (mLst (mCons (mIsX [("NoHost", false), ("NoLand", false), ("NoRules", false), ("NoSlip", false), ("NoDeed", false), ("NoStore", false), ("NoVisit", false), ("NoReader", false), ("NoCase", true), ("NoTrouble", false), ("NoGuard", false), ("NoPlan", false), ("NoMenu", false), ("NoNumber", false), ("NothingBack", false), ("NoNote", false), ("TooMany", false)] (mVar 0)) (mCons (mIsX [("NoHost", false), ("NoLand", false), ("NoRules", false), ("NoSlip", false), ("NoDeed", false), ("NoStore", false), ("NoVisit", false), ("NoReader", false), ("NoCase", false), ("NoTrouble", true), ("NoGuard", false), ("NoPlan", false), ("NoMenu", false), ("NoNumber", false), ("NothingBack", false), ("NoNote", false), ("TooMany", false)] (mVar 0)) (mCons (mIsX [("NoHost", false), ("NoLand", false), ("NoRules", false), ("NoSlip", false), ("NoDeed", false), ("NoStore", false), ("NoVisit", false), ("NoReader", false), ("NoCase", false), ("NoTrouble", false), ("NoGuard", true), ("NoPlan", false), ("NoMenu", false), ("NoNumber", false), ("NothingBack", false), ("NoNote", false), ("TooMany", false)] (mVar 0)) (mCons (mIsX [("NoHost", false), ("NoLand", false), ("NoRules", false), ("NoSlip", false), ("NoDeed", false), ("NoStore", false), ("NoVisit", false), ("NoReader", false), ("NoCase", false), ("NoTrouble", false), ("NoGuard", false), ("NoPlan", true), ("NoMenu", false), ("NoNumber", false), ("NothingBack", false), ("NoNote", false), ("TooMany", false)] (mVar 0)) mNil)))))))
    (sRet (mOp dAdd (mVar 1) (mLst (mCons (mIsX [("NoHost", false), ("NoLand", false), ("NoRules", false), ("NoSlip", false), ("NoDeed", false), ("NoStore", false), ("NoVisit", false), ("NoReader", false), ("NoCase", false), ("NoTrouble", false), ("NoGuard", false), ("NoPlan", false), ("NoMenu", true), ("NoNumber", false), ("NothingBack", false), ("NoNote", false), ("TooMany", false)] (mVar 0)) (mCons (mIsX [("NoHost", false), ("NoLand", false), ("NoRules", false), ("NoSlip", false), ("NoDeed", false), ("NoStore", false), ("NoVisit", false), ("NoReader", false), ("NoCase", false), ("NoTrouble", false), ("NoGuard", false), ("NoPlan", false), ("NoMenu", false), ("NoNumber", true), ("NothingBack", false), ("NoNote", false), ("TooMany", false)] (mVar 0)) (mCons (mIsX [("NoHost", false), ("NoLand", false), ("NoRules", false), ("NoSlip", false), ("NoDeed", false), ("NoStore", false), ("NoVisit", false), ("NoReader", false), ("NoCase", false), ("NoTrouble", false), ("NoGuard", false), ("NoPlan", false), ("NoMenu", false), ("NoNumber", false), ("NothingBack", true), ("NoNote", false), ("TooMany", false)] (mVar 0)) (mCons (mIsX [("NoHost", false), ("NoLand", false), ("NoRules", false), ("NoSlip", false), ("NoDeed", false), ("NoStore", false), ("NoVisit", false), ("NoReader", false), ("NoCase", false), ("NoTrouble", false), ("NoGuard", false), ("NoPlan", false), ("NoMenu", false), ("NoNumber", false), ("NothingBack", false), ("NoNote", true), ("TooMany", false)] (mVar 0)) mNil))))))))))
def fn__law_kinds : Fn := fnOf 2 fn__law_kinds_b
def fn_law_b : MS := (sSeq (sFor (mIt (mLst (mCons (mB dLen (mCons (mVar 0) mNil)) (mCons (mC .non) (mCons (mC (.str "a")) (mCons (mLst (mCons (mC (.int 1)) (mCons (mC (.str "b")) mNil))) (mCons (mTup (mCons (mC (.int 2)) mNil)) (mCons (mC (.bl true)) mNil)))))))) (gvName 1) (sSeq (sFor (mIt (mLst (mCons (mCall fn__law_by_place 1 (mCons (mVar 1) mNil) []) (mCons (mCall fn__law_by_name 1 (mCons (mVar 1) mNil) []) mNil)))) (gvName 2) (sSeq (sIf (mT (mOp dNe (mCall fn__law_kept 1 (mCons (mVar 2) mNil) []) (mOp dRep (mLst (mCons (mVar 1) mNil)) (mC (.int 16))))) (sRet (mC (.bl false))) sNext)
    (sFor (mEnum (mVar 2)) (gvTup 2 (gvCons (gvName 3) (gvCons (gvName 4) gvNil))) (sSeq (sIf (mOr (mNot (mT (mIsX [("NoHost", true), ("NoLand", true), ("NoRules", true), ("NoSlip", true), ("NoDeed", true), ("NoStore", true), ("NoVisit", true), ("NoReader", true), ("NoCase", true), ("NoTrouble", true), ("NoGuard", true), ("NoPlan", true), ("NoMenu", true), ("NoNumber", true), ("NothingBack", true), ("NoNote", true), ("TooMany", false)] (mVar 4)))) (mNot (mT (mIsX [("NoHost", true), ("NoLand", true), ("NoRules", true), ("NoSlip", true), ("NoDeed", true), ("NoStore", true), ("NoVisit", true), ("NoReader", true), ("NoCase", true), ("NoTrouble", true), ("NoGuard", true), ("NoPlan", true), ("NoMenu", true), ("NoNumber", true), ("NothingBack", true), ("NoNote", true), ("TooMany", false)] (mVar 4))))) (sRet (mC (.bl false))) sNext)
    (sIf (mT (mOp dNe (mCall fn__law_kinds 1 (mCons (mVar 4) mNil) []) (mLc (mRng1 (mC (.int 16))) [5] (gvName 5) tvYes (mOp dEq (mVar 5) (mVar 3))))) (sRet (mC (.bl false))) sNext)))))
    (sFor (mIt (mLst (mCons (mExc "TooMany" "most" (mVar 1)) (mCons (mExc "TooMany" "most" (mVar 1)) mNil)))) (gvName 4) (sIf (mOr (mT (mOp dNe (mExf ["TooMany"] "most" (mVar 4)) (mVar 1))) (mOr (mNot (mT (mIsX [("NoHost", false), ("NoLand", false), ("NoRules", false), ("NoSlip", false), ("NoDeed", false), ("NoStore", false), ("NoVisit", false), ("NoReader", false), ("NoCase", false), ("NoTrouble", false), ("NoGuard", false), ("NoPlan", false), ("NoMenu", false), ("NoNumber", false), ("NothingBack", false), ("NoNote", false), ("TooMany", true)] (mVar 4)))) (mOr (mT (mIsX [("NoHost", true), ("NoLand", true), ("NoRules", true), ("NoSlip", true), ("NoDeed", true), ("NoStore", true), ("NoVisit", true), ("NoReader", true), ("NoCase", true), ("NoTrouble", true), ("NoGuard", true), ("NoPlan", true), ("NoMenu", true), ("NoNumber", true), ("NothingBack", true), ("NoNote", true), ("TooMany", false)] (mVar 4))) (mT (mOp dIn (mC (.bl true)) (mCall fn__law_kinds 1 (mCons (mVar 4) mNil) [])))))) (sRet (mC (.bl false))) sNext))))
    (sRet (mC (.bl true))))
def fn_law : Fn := fnOf 6 fn_law_b
end Lw

end NC
set_option Elab.async false
set_option linter.all false
set_option maxRecDepth 100000
set_option maxHeartbeats 0
namespace Lw
open PySem PySem.Spec PyProof.Rows L2 DL
theorem bt_len : bootBuiltins "len" = some (.builtin "len") := by decide +kernel
theorem bt_isinstance : bootBuiltins "isinstance" = some (.builtin "isinstance") := by decide +kernel
theorem bt_ValueError : bootBuiltins "ValueError" = some (.type "ValueError") := by decide +kernel
theorem bt_OverflowError : bootBuiltins "OverflowError" = some (.type "OverflowError") := by decide +kernel
structure Fx (K : PySem.W.Frag) (mg : Str → Option Value) : Prop where
  m_len : mg "len" = none
  m_super : mg "super" = none
  m_enumerate : mg "enumerate" = none
  m_isinstance : mg "isinstance" = none
  m_ValueError : mg "ValueError" = none
  m_range : mg "range" = none
  m_OverflowError : mg "OverflowError" = none
  d_fn__law_by_name : DefF K mg "_law_by_name" (top 21) [] []
  d_fn__law_by_place : DefF K mg "_law_by_place" (top 20) [] []
  d_fn__law_kept : DefF K mg "_law_kept" (top 22) [] []
  d_fn__law_kinds : DefF K mg "_law_kinds" (top 23) [] []
  d_fn_law : DefF K mg "law" (top 24) [] []
  er_NoSlip : errB prog.main.file K (He.ga K "NoSlip") (He.ma K (He.ga K "NoSlip") "__init__") "slip" = true
  er_NoRules : errB prog.main.file K (He.ga K "NoRules") (He.ma K (He.ga K "NoRules") "__init__") "part" = true
  er_NoLand : errB prog.main.file K (He.ga K "NoLand") (He.ma K (He.ga K "NoLand") "__init__") "part" = true
  er_NoHost : errB prog.main.file K (He.ga K "NoHost") (He.ma K (He.ga K "NoHost") "__init__") "host" = true
  er_NoReader : errB prog.main.file K (He.ga K "NoReader") (He.ma K (He.ga K "NoReader") "__init__") "reader" = true
  er_NoVisit : errB prog.main.file K (He.ga K "NoVisit") (He.ma K (He.ga K "NoVisit") "__init__") "visit" = true
  er_NoStore : errB prog.main.file K (He.ga K "NoStore") (He.ma K (He.ga K "NoStore") "__init__") "store" = true
  er_NoDeed : errB prog.main.file K (He.ga K "NoDeed") (He.ma K (He.ga K "NoDeed") "__init__") "deed" = true
  er_NoPlan : errB prog.main.file K (He.ga K "NoPlan") (He.ma K (He.ga K "NoPlan") "__init__") "part" = true
  er_NoGuard : errB prog.main.file K (He.ga K "NoGuard") (He.ma K (He.ga K "NoGuard") "__init__") "guard" = true
  er_NoTrouble : errB prog.main.file K (He.ga K "NoTrouble") (He.ma K (He.ga K "NoTrouble") "__init__") "trouble" = true
  er_NoCase : errB prog.main.file K (He.ga K "NoCase") (He.ma K (He.ga K "NoCase") "__init__") "part" = true
  er_NoNote : errB prog.main.file K (He.ga K "NoNote") (He.ma K (He.ga K "NoNote") "__init__") "line" = true
  er_NothingBack : errB prog.main.file K (He.ga K "NothingBack") (He.ma K (He.ga K "NothingBack") "__init__") "many" = true
  er_NoNumber : errB prog.main.file K (He.ga K "NoNumber") (He.ma K (He.ga K "NoNumber") "__init__") "value" = true
  er_NoMenu : errB prog.main.file K (He.ga K "NoMenu") (He.ma K (He.ga K "NoMenu") "__init__") "menu" = true
  xf_slip : exfB K ["NoSlip"] "slip" = true
  xf_part : exfB K ["NoLand", "NoRules", "NoCase", "NoPlan"] "part" = true
  xf_host : exfB K ["NoHost"] "host" = true
  xf_reader : exfB K ["NoReader"] "reader" = true
  xf_visit : exfB K ["NoVisit"] "visit" = true
  xf_store : exfB K ["NoStore"] "store" = true
  xf_deed : exfB K ["NoDeed"] "deed" = true
  xf_guard : exfB K ["NoGuard"] "guard" = true
  xf_trouble : exfB K ["NoTrouble"] "trouble" = true
  xf_line : exfB K ["NoNote"] "line" = true
  xf_many : exfB K ["NothingBack"] "many" = true
  xf_value : exfB K ["NoNumber"] "value" = true
  xf_menu : exfB K ["NoMenu"] "menu" = true
  ix_SlipError : isxB K [("NoHost", true), ("NoLand", true), ("NoRules", true), ("NoSlip", true), ("NoDeed", true), ("NoStore", true), ("NoVisit", true), ("NoReader", true), ("NoCase", true), ("NoTrouble", true), ("NoGuard", true), ("NoPlan", true), ("NoMenu", true), ("NoNumber", true), ("NothingBack", true), ("NoNote", true), ("TooMany", false)] (.ref (He.ga K "SlipError")) = true
  ix_ValueError : isxB K [("NoHost", true), ("NoLand", true), ("NoRules", true), ("NoSlip", true), ("NoDeed", true), ("NoStore", true), ("NoVisit", true), ("NoReader", true), ("NoCase", true), ("NoTrouble", true), ("NoGuard", true), ("NoPlan", true), ("NoMenu", true), ("NoNumber", true), ("NothingBack", true), ("NoNote", true), ("TooMany", false)] (.type "ValueError") = true
  ix_NoSlip : isxB K [("NoHost", false), ("NoLand", false), ("NoRules", false), ("NoSlip", true), ("NoDeed", false), ("NoStore", false), ("NoVisit", false), ("NoReader", false), ("NoCase", false), ("NoTrouble", false), ("NoGuard", false), ("NoPlan", false), ("NoMenu", false), ("NoNumber", false), ("NothingBack", false), ("NoNote", false), ("TooMany", false)] (.ref (He.ga K "NoSlip")) = true
  ix_NoRules : isxB K [("NoHost", false), ("NoLand", false), ("NoRules", true), ("NoSlip", false), ("NoDeed", false), ("NoStore", false), ("NoVisit", false), ("NoReader", false), ("NoCase", false), ("NoTrouble", false), ("NoGuard", false), ("NoPlan", false), ("NoMenu", false), ("NoNumber", false), ("NothingBack", false), ("NoNote", false), ("TooMany", false)] (.ref (He.ga K "NoRules")) = true
  ix_NoLand : isxB K [("NoHost", false), ("NoLand", true), ("NoRules", false), ("NoSlip", false), ("NoDeed", false), ("NoStore", false), ("NoVisit", false), ("NoReader", false), ("NoCase", false), ("NoTrouble", false), ("NoGuard", false), ("NoPlan", false), ("NoMenu", false), ("NoNumber", false), ("NothingBack", false), ("NoNote", false), ("TooMany", false)] (.ref (He.ga K "NoLand")) = true
  ix_NoHost : isxB K [("NoHost", true), ("NoLand", false), ("NoRules", false), ("NoSlip", false), ("NoDeed", false), ("NoStore", false), ("NoVisit", false), ("NoReader", false), ("NoCase", false), ("NoTrouble", false), ("NoGuard", false), ("NoPlan", false), ("NoMenu", false), ("NoNumber", false), ("NothingBack", false), ("NoNote", false), ("TooMany", false)] (.ref (He.ga K "NoHost")) = true
  ix_NoReader : isxB K [("NoHost", false), ("NoLand", false), ("NoRules", false), ("NoSlip", false), ("NoDeed", false), ("NoStore", false), ("NoVisit", false), ("NoReader", true), ("NoCase", false), ("NoTrouble", false), ("NoGuard", false), ("NoPlan", false), ("NoMenu", false), ("NoNumber", false), ("NothingBack", false), ("NoNote", false), ("TooMany", false)] (.ref (He.ga K "NoReader")) = true
  ix_NoVisit : isxB K [("NoHost", false), ("NoLand", false), ("NoRules", false), ("NoSlip", false), ("NoDeed", false), ("NoStore", false), ("NoVisit", true), ("NoReader", false), ("NoCase", false), ("NoTrouble", false), ("NoGuard", false), ("NoPlan", false), ("NoMenu", false), ("NoNumber", false), ("NothingBack", false), ("NoNote", false), ("TooMany", false)] (.ref (He.ga K "NoVisit")) = true
  ix_NoStore : isxB K [("NoHost", false), ("NoLand", false), ("NoRules", false), ("NoSlip", false), ("NoDeed", false), ("NoStore", true), ("NoVisit", false), ("NoReader", false), ("NoCase", false), ("NoTrouble", false), ("NoGuard", false), ("NoPlan", false), ("NoMenu", false), ("NoNumber", false), ("NothingBack", false), ("NoNote", false), ("TooMany", false)] (.ref (He.ga K "NoStore")) = true
  ix_NoDeed : isxB K [("NoHost", false), ("NoLand", false), ("NoRules", false), ("NoSlip", false), ("NoDeed", true), ("NoStore", false), ("NoVisit", false), ("NoReader", false), ("NoCase", false), ("NoTrouble", false), ("NoGuard", false), ("NoPlan", false), ("NoMenu", false), ("NoNumber", false), ("NothingBack", false), ("NoNote", false), ("TooMany", false)] (.ref (He.ga K "NoDeed")) = true
  ix_NoPlan : isxB K [("NoHost", false), ("NoLand", false), ("NoRules", false), ("NoSlip", false), ("NoDeed", false), ("NoStore", false), ("NoVisit", false), ("NoReader", false), ("NoCase", false), ("NoTrouble", false), ("NoGuard", false), ("NoPlan", true), ("NoMenu", false), ("NoNumber", false), ("NothingBack", false), ("NoNote", false), ("TooMany", false)] (.ref (He.ga K "NoPlan")) = true
  ix_NoGuard : isxB K [("NoHost", false), ("NoLand", false), ("NoRules", false), ("NoSlip", false), ("NoDeed", false), ("NoStore", false), ("NoVisit", false), ("NoReader", false), ("NoCase", false), ("NoTrouble", false), ("NoGuard", true), ("NoPlan", false), ("NoMenu", false), ("NoNumber", false), ("NothingBack", false), ("NoNote", false), ("TooMany", false)] (.ref (He.ga K "NoGuard")) = true
  ix_NoTrouble : isxB K [("NoHost", false), ("NoLand", false), ("NoRules", false), ("NoSlip", false), ("NoDeed", false), ("NoStore", false), ("NoVisit", false), ("NoReader", false), ("NoCase", false), ("NoTrouble", true), ("NoGuard", false), ("NoPlan", false), ("NoMenu", false), ("NoNumber", false), ("NothingBack", false), ("NoNote", false), ("TooMany", false)] (.ref (He.ga K "NoTrouble")) = true
  ix_NoCase : isxB K [("NoHost", false), ("NoLand", false), ("NoRules", false), ("NoSlip", false), ("NoDeed", false), ("NoStore", false), ("NoVisit", false), ("NoReader", false), ("NoCase", true), ("NoTrouble", false), ("NoGuard", false), ("NoPlan", false), ("NoMenu", false), ("NoNumber", false), ("NothingBack", false), ("NoNote", false), ("TooMany", false)] (.ref (He.ga K "NoCase")) = true
  ix_NoNote : isxB K [("NoHost", false), ("NoLand", false), ("NoRules", false), ("NoSlip", false), ("NoDeed", false), ("NoStore", false), ("NoVisit", false), ("NoReader", false), ("NoCase", false), ("NoTrouble", false), ("NoGuard", false), ("NoPlan", false), ("NoMenu", false), ("NoNumber", false), ("NothingBack", false), ("NoNote", true), ("TooMany", false)] (.ref (He.ga K "NoNote")) = true
  ix_NothingBack : isxB K [("NoHost", false), ("NoLand", false), ("NoRules", false), ("NoSlip", false), ("NoDeed", false), ("NoStore", false), ("NoVisit", false), ("NoReader", false), ("NoCase", false), ("NoTrouble", false), ("NoGuard", false), ("NoPlan", false), ("NoMenu", false), ("NoNumber", false), ("NothingBack", true), ("NoNote", false), ("TooMany", false)] (.ref (He.ga K "NothingBack")) = true
  ix_NoNumber : isxB K [("NoHost", false), ("NoLand", false), ("NoRules", false), ("NoSlip", false), ("NoDeed", false), ("NoStore", false), ("NoVisit", false), ("NoReader", false), ("NoCase", false), ("NoTrouble", false), ("NoGuard", false), ("NoPlan", false), ("NoMenu", false), ("NoNumber", true), ("NothingBack", false), ("NoNote", false), ("TooMany", false)] (.ref (He.ga K "NoNumber")) = true
  ix_NoMenu : isxB K [("NoHost", false), ("NoLand", false), ("NoRules", false), ("NoSlip", false), ("NoDeed", false), ("NoStore", false), ("NoVisit", false), ("NoReader", false), ("NoCase", false), ("NoTrouble", false), ("NoGuard", false), ("NoPlan", false), ("NoMenu", true), ("NoNumber", false), ("NothingBack", false), ("NoNote", false), ("TooMany", false)] (.ref (He.ga K "NoMenu")) = true
  er_TooMany : errBO prog.main.file K (He.ga K "TooMany") (He.ma K (He.ga K "TooMany") "__init__") "most" = true
  xf_most : exfB K ["TooMany"] "most" = true
  ix_OverflowError : isxB K [("NoHost", false), ("NoLand", false), ("NoRules", false), ("NoSlip", false), ("NoDeed", false), ("NoStore", false), ("NoVisit", false), ("NoReader", false), ("NoCase", false), ("NoTrouble", false), ("NoGuard", false), ("NoPlan", false), ("NoMenu", false), ("NoNumber", false), ("NothingBack", false), ("NoNote", false), ("TooMany", true)] (.type "OverflowError") = true
  ge_NoSlip : mg "NoSlip" = some (.ref (He.ga K "NoSlip"))
  ge_NoRules : mg "NoRules" = some (.ref (He.ga K "NoRules"))
  ge_NoLand : mg "NoLand" = some (.ref (He.ga K "NoLand"))
  ge_NoHost : mg "NoHost" = some (.ref (He.ga K "NoHost"))
  ge_NoReader : mg "NoReader" = some (.ref (He.ga K "NoReader"))
  ge_NoVisit : mg "NoVisit" = some (.ref (He.ga K "NoVisit"))
  ge_NoStore : mg "NoStore" = some (.ref (He.ga K "NoStore"))
  ge_NoDeed : mg "NoDeed" = some (.ref (He.ga K "NoDeed"))
  ge_NoPlan : mg "NoPlan" = some (.ref (He.ga K "NoPlan"))
  ge_NoGuard : mg "NoGuard" = some (.ref (He.ga K "NoGuard"))
  ge_NoTrouble : mg "NoTrouble" = some (.ref (He.ga K "NoTrouble"))
  ge_NoCase : mg "NoCase" = some (.ref (He.ga K "NoCase"))
  ge_NoNote : mg "NoNote" = some (.ref (He.ga K "NoNote"))
  ge_NothingBack : mg "NothingBack" = some (.ref (He.ga K "NothingBack"))
  ge_NoNumber : mg "NoNumber" = some (.ref (He.ga K "NoNumber"))
  ge_NoMenu : mg "NoMenu" = some (.ref (He.ga K "NoMenu"))
  ge_SlipError : mg "SlipError" = some (.ref (He.ga K "SlipError"))
  ge_TooMany : mg "TooMany" = some (.ref (He.ga K "TooMany"))
  es : ErrS K mg errs (He.ga K)
section
variable {P : Program} {w : World} {K : PySem.W.Frag} {mg : (Str → Option Value)} {base : Heap}
end
end Lw
set_option Elab.async false
set_option linter.all false
set_option maxRecDepth 100000
set_option maxHeartbeats 0
namespace Lw
open PySem PySem.Spec PyProof.Rows L2 DL
section
variable {P : Program} {w : World} {K : PySem.W.Frag} {mg : (Str → Option Value)} {base : Heap}
theorem sc_fn__law_by_name : FnScope (["_law_thing", "_law_found"]) ["_law_thing"] (defScope (top 21)) := C8.fnScope_by (by decide +kernel)
theorem ok_fn__law_by_name (Z : Fx K mg) (T : TbP P prog.main.file K mg base) : DefOk P w K mg base 4 "_law_by_name" ["_law_thing"] fn__law_by_name := by
  obtain ⟨fd, F⟩ := Z.d_fn__law_by_name.fd
  have S := sc_fn__law_by_name
  have G : DL.FnOk P w K mg base (L2.CX P w) 4 (He.ga K "_law_by_name") fd ["_law_thing"] (spOf (wd P w K) mg 1 fn__law_by_name) := fn_ok F S (by decide) fun cdv cod A outer s H E hr tk => by
    have hu := room65 hr
    have hu1 := room1 hr
    have hu64 := hr.units
    exact (ssv_cons (sv_set S.nd (i := 1) rfl (by first | exact .inl rfl | exact .inr rfl) (pv_lst (av_cons (pv_excN (err_val Z.er_NoHost T.file T.top Z.m_super) (hr.mono (by decide)) rfl Z.ge_NoHost (pv_var (i := 0) rfl (by first | exact .inl rfl | exact .inr (.inl rfl) | exact .inr (.inr rfl)))) (av_cons (pv_excN (err_val Z.er_NoLand T.file T.top Z.m_super) (hr.mono (by decide)) rfl Z.ge_NoLand (pv_var (i := 0) rfl (by first | exact .inl rfl | exact .inr (.inl rfl) | exact .inr (.inr rfl)))) (av_cons (pv_excN (err_val Z.er_NoRules T.file T.top Z.m_super) (hr.mono (by decide)) rfl Z.ge_NoRules (pv_var (i := 0) rfl (by first | exact .inl rfl | exact .inr (.inl rfl) | exact .inr (.inr rfl)))) (av_cons (pv_excN (err_val Z.er_NoSlip T.file T.top Z.m_super) (hr.mono (by decide)) rfl Z.ge_NoSlip (pv_var (i := 0) rfl (by first | exact .inl rfl | exact .inr (.inl rfl) | exact .inr (.inr rfl)))) av_nil))))))
    (ssv_cons (sv_set S.nd (i := 1) rfl (by first | exact .inl rfl | exact .inr rfl) (pv_op op_addA opd_add (pv_var (i := 1) rfl (by first | exact .inl rfl | exact .inr (.inl rfl) | exact .inr (.inr rfl))) (pv_lst (av_cons (pv_excN (err_val Z.er_NoDeed T.file T.top Z.m_super) (hr.mono (by decide)) rfl Z.ge_NoDeed (pv_var (i := 0) rfl (by first | exact .inl rfl | exact .inr (.inl rfl) | exact .inr (.inr rfl)))) (av_cons (pv_excN (err_val Z.er_NoStore T.file T.top Z.m_super) (hr.mono (by decide)) rfl Z.ge_NoStore (pv_var (i := 0) rfl (by first | exact .inl rfl | exact .inr (.inl rfl) | exact .inr (.inr rfl)))) (av_cons (pv_excN (err_val Z.er_NoVisit T.file T.top Z.m_super) (hr.mono (by decide)) rfl Z.ge_NoVisit (pv_var (i := 0) rfl (by first | exact .inl rfl | exact .inr (.inl rfl) | exact .inr (.inr rfl)))) (av_cons (pv_excN (err_val Z.er_NoReader T.file T.top Z.m_super) (hr.mono (by decide)) rfl Z.ge_NoReader (pv_var (i := 0) rfl (by first | exact .inl rfl | exact .inr (.inl rfl) | exact .inr (.inr rfl)))) av_nil)))))))
    (ssv_cons (sv_set S.nd (i := 1) rfl (by first | exact .inl rfl | exact .inr rfl) (pv_op op_addA opd_add (pv_var (i := 1) rfl (by first | exact .inl rfl | exact .inr (.inl rfl) | exact .inr (.inr rfl))) (pv_lst (av_cons (pv_excN (err_val Z.er_NoCase T.file T.top Z.m_super) (hr.mono (by decide)) rfl Z.ge_NoCase (pv_var (i := 0) rfl (by first | exact .inl rfl | exact .inr (.inl rfl) | exact .inr (.inr rfl)))) (av_cons (pv_excN (err_val Z.er_NoTrouble T.file T.top Z.m_super) (hr.mono (by decide)) rfl Z.ge_NoTrouble (pv_var (i := 0) rfl (by first | exact .inl rfl | exact .inr (.inl rfl) | exact .inr (.inr rfl)))) (av_cons (pv_excN (err_val Z.er_NoGuard T.file T.top Z.m_super) (hr.mono (by decide)) rfl Z.ge_NoGuard (pv_var (i := 0) rfl (by first | exact .inl rfl | exact .inr (.inl rfl) | exact .inr (.inr rfl)))) (av_cons (pv_excN (err_val Z.er_NoPlan T.file T.top Z.m_super) (hr.mono (by decide)) rfl Z.ge_NoPlan (pv_var (i := 0) rfl (by first | exact .inl rfl | exact .inr (.inl rfl) | exact .inr (.inr rfl)))) av_nil)))))))
    (ssv_one (sv_ret (pv_op op_addA opd_add (pv_var (i := 1) rfl (by first | exact .inl rfl | exact .inr (.inl rfl) | exact .inr (.inr rfl))) (pv_lst (av_cons (pv_excN (err_val Z.er_NoMenu T.file T.top Z.m_super) (hr.mono (by decide)) rfl Z.ge_NoMenu (pv_var (i := 0) rfl (by first | exact .inl rfl | exact .inr (.inl rfl) | exact .inr (.inr rfl)))) (av_cons (pv_excN (err_val Z.er_NoNumber T.file T.top Z.m_super) (hr.mono (by decide)) rfl Z.ge_NoNumber (pv_var (i := 0) rfl (by first | exact .inl rfl | exact .inr (.inl rfl) | exact .inr (.inr rfl)))) (av_cons (pv_excN (err_val Z.er_NothingBack T.file T.top Z.m_super) (hr.mono (by decide)) rfl Z.ge_NothingBack (pv_var (i := 0) rfl (by first | exact .inl rfl | exact .inr (.inl rfl) | exact .inr (.inr rfl)))) (av_cons (pv_excN (err_val Z.er_NoNote T.file T.top Z.m_super) (hr.mono (by decide)) rfl Z.ge_NoNote (pv_var (i := 0) rfl (by first | exact .inl rfl | exact .inr (.inl rfl) | exact .inr (.inr rfl)))) av_nil)))))))))))
  exact ⟨fd, G, F.bindsN fun _ _ _ _ _ _ us hl => match us, hl with | [_], _ => rfl, Z.d_fn__law_by_name.mg, F.kp⟩
theorem sc_fn__law_by_place : FnScope (["_law_thing", "_law_found"]) ["_law_thing"] (defScope (top 20)) := C8.fnScope_by (by decide +kernel)
theorem ok_fn__law_by_place (Z : Fx K mg) (T : TbP P prog.main.file K mg base) : DefOk P w K mg base 4 "_law_by_place" ["_law_thing"] fn__law_by_place := by
  obtain ⟨fd, F⟩ := Z.d_fn__law_by_place.fd
  have S := sc_fn__law_by_place
  have G : DL.FnOk P w K mg base (L2.CX P w) 4 (He.ga K "_law_by_place") fd ["_law_thing"] (spOf (wd P w K) mg 1 fn__law_by_place) := fn_ok F S (by decide) fun cdv cod A outer s H E hr tk => by
    have hu := room65 hr
    have hu1 := room1 hr
    have hu64 := hr.units
    exact (ssv_cons (sv_set S.nd (i := 1) rfl (by first | exact .inl rfl | exact .inr rfl) (pv_lst (av_cons (pv_excE (err_val Z.er_NoHost T.file T.top Z.m_super) (hr.mono (by decide)) rfl Z.ge_NoHost (pv_var (i := 0) rfl (by first | exact .inl rfl | exact .inr (.inl rfl) | exact .inr (.inr rfl)))) (av_cons (pv_excE (err_val Z.er_NoLand T.file T.top Z.m_super) (hr.mono (by decide)) rfl Z.ge_NoLand (pv_var (i := 0) rfl (by first | exact .inl rfl | exact .inr (.inl rfl) | exact .inr (.inr rfl)))) (av_cons (pv_excE (err_val Z.er_NoRules T.file T.top Z.m_super) (hr.mono (by decide)) rfl Z.ge_NoRules (pv_var (i := 0) rfl (by first | exact .inl rfl | exact .inr (.inl rfl) | exact .inr (.inr rfl)))) (av_cons (pv_excE (err_val Z.er_NoSlip T.file T.top Z.m_super) (hr.mono (by decide)) rfl Z.ge_NoSlip (pv_var (i := 0) rfl (by first | exact .inl rfl | exact .inr (.inl rfl) | exact .inr (.inr rfl)))) av_nil))))))
    (ssv_cons (sv_set S.nd (i := 1) rfl (by first | exact .inl rfl | exact .inr rfl) (pv_op op_addA opd_add (pv_var (i := 1) rfl (by first | exact .inl rfl | exact .inr (.inl rfl) | exact .inr (.inr rfl))) (pv_lst (av_cons (pv_excE (err_val Z.er_NoDeed T.file T.top Z.m_super) (hr.mono (by decide)) rfl Z.ge_NoDeed (pv_var (i := 0) rfl (by first | exact .inl rfl | exact .inr (.inl rfl) | exact .inr (.inr rfl)))) (av_cons (pv_excE (err_val Z.er_NoStore T.file T.top Z.m_super) (hr.mono (by decide)) rfl Z.ge_NoStore (pv_var (i := 0) rfl (by first | exact .inl rfl | exact .inr (.inl rfl) | exact .inr (.inr rfl)))) (av_cons (pv_excE (err_val Z.er_NoVisit T.file T.top Z.m_super) (hr.mono (by decide)) rfl Z.ge_NoVisit (pv_var (i := 0) rfl (by first | exact .inl rfl | exact .inr (.inl rfl) | exact .inr (.inr rfl)))) (av_cons (pv_excE (err_val Z.er_NoReader T.file T.top Z.m_super) (hr.mono (by decide)) rfl Z.ge_NoReader (pv_var (i := 0) rfl (by first | exact .inl rfl | exact .inr (.inl rfl) | exact .inr (.inr rfl)))) av_nil)))))))
    (ssv_cons (sv_set S.nd (i := 1) rfl (by first | exact .inl rfl | exact .inr rfl) (pv_op op_addA opd_add (pv_var (i := 1) rfl (by first | exact .inl rfl | exact .inr (.inl rfl) | exact .inr (.inr rfl))) (pv_lst (av_cons (pv_excE (err_val Z.er_NoCase T.file T.top Z.m_super) (hr.mono (by decide)) rfl Z.ge_NoCase (pv_var (i := 0) rfl (by first | exact .inl rfl | exact .inr (.inl rfl) | exact .inr (.inr rfl)))) (av_cons (pv_excE (err_val Z.er_NoTrouble T.file T.top Z.m_super) (hr.mono (by decide)) rfl Z.ge_NoTrouble (pv_var (i := 0) rfl (by first | exact .inl rfl | exact .inr (.inl rfl) | exact .inr (.inr rfl)))) (av_cons (pv_excE (err_val Z.er_NoGuard T.file T.top Z.m_super) (hr.mono (by decide)) rfl Z.ge_NoGuard (pv_var (i := 0) rfl (by first | exact .inl rfl | exact .inr (.inl rfl) | exact .inr (.inr rfl)))) (av_cons (pv_excE (err_val Z.er_NoPlan T.file T.top Z.m_super) (hr.mono (by decide)) rfl Z.ge_NoPlan (pv_var (i := 0) rfl (by first | exact .inl rfl | exact .inr (.inl rfl) | exact .inr (.inr rfl)))) av_nil)))))))
    (ssv_one (sv_ret (pv_op op_addA opd_add (pv_var (i := 1) rfl (by first | exact .inl rfl | exact .inr (.inl rfl) | exact .inr (.inr rfl))) (pv_lst (av_cons (pv_excE (err_val Z.er_NoMenu T.file T.top Z.m_super) (hr.mono (by decide)) rfl Z.ge_NoMenu (pv_var (i := 0) rfl (by first | exact .inl rfl | exact .inr (.inl rfl) | exact .inr (.inr rfl)))) (av_cons (pv_excE (err_val Z.er_NoNumber T.file T.top Z.m_super) (hr.mono (by decide)) rfl Z.ge_NoNumber (pv_var (i := 0) rfl (by first | exact .inl rfl | exact .inr (.inl rfl) | exact .inr (.inr rfl)))) (av_cons (pv_excE (err_val Z.er_NothingBack T.file T.top Z.m_super) (hr.mono (by decide)) rfl Z.ge_NothingBack (pv_var (i := 0) rfl (by first | exact .inl rfl | exact .inr (.inl rfl) | exact .inr (.inr rfl)))) (av_cons (pv_excE (err_val Z.er_NoNote T.file T.top Z.m_super) (hr.mono (by decide)) rfl Z.ge_NoNote (pv_var (i := 0) rfl (by first | exact .inl rfl | exact .inr (.inl rfl) | exact .inr (.inr rfl)))) av_nil)))))))))))
  exact ⟨fd, G, F.bindsN fun _ _ _ _ _ _ us hl => match us, hl with | [_], _ => rfl, Z.d_fn__law_by_place.mg, F.kp⟩
theorem sc_fn__law_kept : FnScope (["_law_found", "_law_told"]) ["_law_found"] (defScope (top 22)) := C8.fnScope_by (by decide +kernel)
theorem ok_fn__law_kept (Z : Fx K mg) (T : TbP P prog.main.file K mg base) : DefOk P w K mg base 1 "_law_kept" ["_law_found"] fn__law_kept := by
  obtain ⟨fd, F⟩ := Z.d_fn__law_kept.fd
  have S := sc_fn__law_kept
  have G : DL.FnOk P w K mg base (L2.CX P w) 1 (He.ga K "_law_kept") fd ["_law_found"] (spOf (wd P w K) mg 1 fn__law_kept) := fn_ok F S (by decide) fun cdv cod A outer s H E hr tk => by
    have hu := room65 hr
    have hu1 := room1 hr
    have hu64 := hr.units
    exact (ssv_cons (sv_set S.nd (i := 1) rfl (by first | exact .inl rfl | exact .inr rfl) (pv_lst (av_cons (pv_exf Z.es (by decide +kernel) Z.xf_host (pv_ix hu (pv_var (i := 0) rfl (by first | exact .inl rfl | exact .inr (.inl rfl) | exact .inr (.inr rfl))) pv_int)) (av_cons (pv_exf Z.es (by decide +kernel) Z.xf_part (pv_ix hu (pv_var (i := 0) rfl (by first | exact .inl rfl | exact .inr (.inl rfl) | exact .inr (.inr rfl))) pv_int)) (av_cons (pv_exf Z.es (by decide +kernel) Z.xf_part (pv_ix hu (pv_var (i := 0) rfl (by first | exact .inl rfl | exact .inr (.inl rfl) | exact .inr (.inr rfl))) pv_int)) (av_cons (pv_exf Z.es (by decide +kernel) Z.xf_slip (pv_ix hu (pv_var (i := 0) rfl (by first | exact .inl rfl | exact .inr (.inl rfl) | exact .inr (.inr rfl))) pv_int)) av_nil))))))
    (ssv_cons (sv_set S.nd (i := 1) rfl (by first | exact .inl rfl | exact .inr rfl) (pv_op op_addA opd_add (pv_var (i := 1) rfl (by first | exact .inl rfl | exact .inr (.inl rfl) | exact .inr (.inr rfl))) (pv_lst (av_cons (pv_exf Z.es (by decide +kernel) Z.xf_deed (pv_ix hu (pv_var (i := 0) rfl (by first | exact .inl rfl | exact .inr (.inl rfl) | exact .inr (.inr rfl))) pv_int)) (av_cons (pv_exf Z.es (by decide +kernel) Z.xf_store (pv_ix hu (pv_var (i := 0) rfl (by first | exact .inl rfl | exact .inr (.inl rfl) | exact .inr (.inr rfl))) pv_int)) (av_cons (pv_exf Z.es (by decide +kernel) Z.xf_visit (pv_ix hu (pv_var (i := 0) rfl (by first | exact .inl rfl | exact .inr (.inl rfl) | exact .inr (.inr rfl))) pv_int)) (av_cons (pv_exf Z.es (by decide +kernel) Z.xf_reader (pv_ix hu (pv_var (i := 0) rfl (by first | exact .inl rfl | exact .inr (.inl rfl) | exact .inr (.inr rfl))) pv_int)) av_nil)))))))
    (ssv_cons (sv_set S.nd (i := 1) rfl (by first | exact .inl rfl | exact .inr rfl) (pv_op op_addA opd_add (pv_var (i := 1) rfl (by first | exact .inl rfl | exact .inr (.inl rfl) | exact .inr (.inr rfl))) (pv_lst (av_cons (pv_exf Z.es (by decide +kernel) Z.xf_part (pv_ix hu (pv_var (i := 0) rfl (by first | exact .inl rfl | exact .inr (.inl rfl) | exact .inr (.inr rfl))) pv_int)) (av_cons (pv_exf Z.es (by decide +kernel) Z.xf_trouble (pv_ix hu (pv_var (i := 0) rfl (by first | exact .inl rfl | exact .inr (.inl rfl) | exact .inr (.inr rfl))) pv_int)) (av_cons (pv_exf Z.es (by decide +kernel) Z.xf_guard (pv_ix hu (pv_var (i := 0) rfl (by first | exact .inl rfl | exact .inr (.inl rfl) | exact .inr (.inr rfl))) pv_int)) (av_cons (pv_exf Z.es (by decide +kernel) Z.xf_part (pv_ix hu (pv_var (i := 0) rfl (by first | exact .inl rfl | exact .inr (.inl rfl) | exact .inr (.inr rfl))) pv_int)) av_nil)))))))
    (ssv_one (sv_ret (pv_op op_addA opd_add (pv_var (i := 1) rfl (by first | exact .inl rfl | exact .inr (.inl rfl) | exact .inr (.inr rfl))) (pv_lst (av_cons (pv_exf Z.es (by decide +kernel) Z.xf_menu (pv_ix hu (pv_var (i := 0) rfl (by first | exact .inl rfl | exact .inr (.inl rfl) | exact .inr (.inr rfl))) pv_int)) (av_cons (pv_exf Z.es (by decide +kernel) Z.xf_value (pv_ix hu (pv_var (i := 0) rfl (by first | exact .inl rfl | exact .inr (.inl rfl) | exact .inr (.inr rfl))) pv_int)) (av_cons (pv_exf Z.es (by decide +kernel) Z.xf_many (pv_ix hu (pv_var (i := 0) rfl (by first | exact .inl rfl | exact .inr (.inl rfl) | exact .inr (.inr rfl))) pv_int)) (av_cons (pv_exf Z.es (by decide +kernel) Z.xf_line (pv_ix hu (pv_var (i := 0) rfl (by first | exact .inl rfl | exact .inr (.inl rfl) | exact .inr (.inr rfl))) pv_int)) av_nil)))))))))))
  exact ⟨fd, G, F.bindsN fun _ _ _ _ _ _ us hl => match us, hl with | [_], _ => rfl, Z.d_fn__law_kept.mg, F.kp⟩
theorem sc_fn__law_kinds : FnScope (["_law_e", "_law_told"]) ["_law_e"] (defScope (top 23)) := C8.fnScope_by (by decide +kernel)
theorem ok_fn__law_kinds (Z : Fx K mg) (T : TbP P prog.main.file K mg base) : DefOk P w K mg base 1 "_law_kinds" ["_law_e"] fn__law_kinds := by
  obtain ⟨fd, F⟩ := Z.d_fn__law_kinds.fd
  have S := sc_fn__law_kinds
  have G : DL.FnOk P w K mg base (L2.CX P w) 1 (He.ga K "_law_kinds") fd ["_law_e"] (spOf (wd P w K) mg 1 fn__law_kinds) := fn_ok F S (by decide) fun cdv cod A outer s H E hr tk => by
    have hu := room65 hr
    have hu1 := room1 hr
    have hu64 := hr.units
    exact (ssv_cons (sv_set S.nd (i := 1) rfl (by first | exact .inl rfl | exact .inr rfl) (pv_lst (av_cons (pv_isx Z.es (by decide +kernel) Z.ix_NoHost (pe_glob (v := .ref (He.ga K "NoHost")) rfl Z.ge_NoHost rfl) (fun u r => r) rfl Z.m_isinstance bt_isinstance (pv_var (i := 0) rfl (by first | exact .inl rfl | exact .inr (.inl rfl) | exact .inr (.inr rfl)))) (av_cons (pv_isx Z.es (by decide +kernel) Z.ix_NoLand (pe_glob (v := .ref (He.ga K "NoLand")) rfl Z.ge_NoLand rfl) (fun u r => r) rfl Z.m_isinstance bt_isinstance (pv_var (i := 0) rfl (by first | exact .inl rfl | exact .inr (.inl rfl) | exact .inr (.inr rfl)))) (av_cons (pv_isx Z.es (by decide +kernel) Z.ix_NoRules (pe_glob (v := .ref (He.ga K "NoRules")) rfl Z.ge_NoRules rfl) (fun u r => r) rfl Z.m_isinstance bt_isinstance (pv_var (i := 0) rfl (by first | exact .inl rfl | exact .inr (.inl rfl) | exact .inr (.inr rfl)))) (av_cons (pv_isx Z.es (by decide +kernel) Z.ix_NoSlip (pe_glob (v := .ref (He.ga K "NoSlip")) rfl Z.ge_NoSlip rfl) (fun u r => r) rfl Z.m_isinstance bt_isinstance (pv_var (i := 0) rfl (by first | exact .inl rfl | exact .inr (.inl rfl) | exact .inr (.inr rfl)))) av_nil))))))
    (ssv_cons (sv_set S.nd (i := 1) rfl (by first | exact .inl rfl | exact .inr rfl) (pv_op op_addA opd_add (pv_var (i := 1) rfl (by first | exact .inl rfl | exact .inr (.inl rfl) | exact .inr (.inr rfl))) (pv_lst (av_cons (pv_isx Z.es (by decide +kernel) Z.ix_NoDeed (pe_glob (v := .ref (He.ga K "NoDeed")) rfl Z.ge_NoDeed rfl) (fun u r => r) rfl Z.m_isinstance bt_isinstance (pv_var (i := 0) rfl (by first | exact .inl rfl | exact .inr (.inl rfl) | exact .inr (.inr rfl)))) (av_cons (pv_isx Z.es (by decide +kernel) Z.ix_NoStore (pe_glob (v := .ref (He.ga K "NoStore")) rfl Z.ge_NoStore rfl) (fun u r => r) rfl Z.m_isinstance bt_isinstance (pv_var (i := 0) rfl (by first | exact .inl rfl | exact .inr (.inl rfl) | exact .inr (.inr rfl)))) (av_cons (pv_isx Z.es (by decide +kernel) Z.ix_NoVisit (pe_glob (v := .ref (He.ga K "NoVisit")) rfl Z.ge_NoVisit rfl) (fun u r => r) rfl Z.m_isinstance bt_isinstance (pv_var (i := 0) rfl (by first | exact .inl rfl | exact .inr (.inl rfl) | exact .inr (.inr rfl)))) (av_cons (pv_isx Z.es (by decide +kernel) Z.ix_NoReader (pe_glob (v := .ref (He.ga K "NoReader")) rfl Z.ge_NoReader rfl) (fun u r => r) rfl Z.m_isinstance bt_isinstance (pv_var (i := 0) rfl (by first | exact .inl rfl | exact .inr (.inl rfl) | exact .inr (.inr rfl)))) av_nil)))))))
    (ssv_cons (sv_set S.nd (i := 1) rfl (by first | exact .inl rfl | exact .inr rfl) (pv_op op_addA opd_add (pv_var (i := 1) rfl (by first | exact .inl rfl | exact .inr (.inl rfl) | exact .inr (.inr rfl))) (pv_lst (av_cons (pv_isx Z.es (by decide +kernel) Z.ix_NoCase (pe_glob (v := .ref (He.ga K "NoCase")) rfl Z.ge_NoCase rfl) (fun u r => r) rfl Z.m_isinstance bt_isinstance (pv_var (i := 0) rfl (by first | exact .inl rfl | exact .inr (.inl rfl) | exact .inr (.inr rfl)))) (av_cons (pv_isx Z.es (by decide +kernel) Z.ix_NoTrouble (pe_glob (v := .ref (He.ga K "NoTrouble")) rfl Z.ge_NoTrouble rfl) (fun u r => r) rfl Z.m_isinstance bt_isinstance (pv_var (i := 0) rfl (by first | exact .inl rfl | exact .inr (.inl rfl) | exact .inr (.inr rfl)))) (av_cons (pv_isx Z.es (by decide +kernel) Z.ix_NoGuard (pe_glob (v := .ref (He.ga K "NoGuard")) rfl Z.ge_NoGuard rfl) (fun u r => r) rfl Z.m_isinstance bt_isinstance (pv_var (i := 0) rfl (by first | exact .inl rfl | exact .inr (.inl rfl) | exact .inr (.inr rfl)))) (av_cons (pv_isx Z.es (by decide +kernel) Z.ix_NoPlan (pe_glob (v := .ref (He.ga K "NoPlan")) rfl Z.ge_NoPlan rfl) (fun u r => r) rfl Z.m_isinstance bt_isinstance (pv_var (i := 0) rfl (by first | exact .inl rfl | exact .inr (.inl rfl) | exact .inr (.inr rfl)))) av_nil)))))))
    (ssv_one (sv_ret (pv_op op_addA opd_add (pv_var (i := 1) rfl (by first | exact .inl rfl | exact .inr (.inl rfl) | exact .inr (.inr rfl))) (pv_lst (av_cons (pv_isx Z.es (by decide +kernel) Z.ix_NoMenu (pe_glob (v := .ref (He.ga K "NoMenu")) rfl Z.ge_NoMenu rfl) (fun u r => r) rfl Z.m_isinstance bt_isinstance (pv_var (i := 0) rfl (by first | exact .inl rfl | exact .inr (.inl rfl) | exact .inr (.inr rfl)))) (av_cons (pv_isx Z.es (by decide +kernel) Z.ix_NoNumber (pe_glob (v := .ref (He.ga K "NoNumber")) rfl Z.ge_NoNumber rfl) (fun u r => r) rfl Z.m_isinstance bt_isinstance (pv_var (i := 0) rfl (by first | exact .inl rfl | exact .inr (.inl rfl) | exact .inr (.inr rfl)))) (av_cons (pv_isx Z.es (by decide +kernel) Z.ix_NothingBack (pe_glob (v := .ref (He.ga K "NothingBack")) rfl Z.ge_NothingBack rfl) (fun u r => r) rfl Z.m_isinstance bt_isinstance (pv_var (i := 0) rfl (by first | exact .inl rfl | exact .inr (.inl rfl) | exact .inr (.inr rfl)))) (av_cons (pv_isx Z.es (by decide +kernel) Z.ix_NoNote (pe_glob (v := .ref (He.ga K "NoNote")) rfl Z.ge_NoNote rfl) (fun u r => r) rfl Z.m_isinstance bt_isinstance (pv_var (i := 0) rfl (by first | exact .inl rfl | exact .inr (.inl rfl) | exact .inr (.inr rfl)))) av_nil)))))))))))
  exact ⟨fd, G, F.bindsN fun _ _ _ _ _ _ us hl => match us, hl with | [_], _ => rfl, Z.d_fn__law_kinds.mg, F.kp⟩
theorem sc_fn_law : FnScope (["_law_script", "_law_thing", "_law_found", "_law_own", "_law_e", "_law_spot"]) ["_law_script"] (defScope (top 24)) := C8.fnScope_by (by decide +kernel)
theorem ok_fn_law (Z : Fx K mg) (T : TbP P prog.main.file K mg base) : LawOk P w K mg base 5 ["_law_script"] fn_law (top 24) := by
  obtain ⟨fd, F⟩ := Z.d_fn_law.fd
  obtain ⟨fd_fn__law_by_name, G_fn__law_by_name, B_fn__law_by_name, M_fn__law_by_name, K_fn__law_by_name⟩ := ok_fn__law_by_name (P := P) (w := w) (base := base) Z T
  obtain ⟨fd_fn__law_by_place, G_fn__law_by_place, B_fn__law_by_place, M_fn__law_by_place, K_fn__law_by_place⟩ := ok_fn__law_by_place (P := P) (w := w) (base := base) Z T
  obtain ⟨fd_fn__law_kept, G_fn__law_kept, B_fn__law_kept, M_fn__law_kept, K_fn__law_kept⟩ := ok_fn__law_kept (P := P) (w := w) (base := base) Z T
  obtain ⟨fd_fn__law_kinds, G_fn__law_kinds, B_fn__law_kinds, M_fn__law_kinds, K_fn__law_kinds⟩ := ok_fn__law_kinds (P := P) (w := w) (base := base) Z T
  have S := sc_fn_law
  have G : DL.FnOk P w K mg base (L2.CX P w) 5 (He.ga K "law") fd ["_law_script"] (spOf (wd P w K) mg 1 fn_law) := fn_ok F S (by decide) fun cdv cod A outer s H E hr tk => by
    have hu := room65 hr
    have hu1 := room1 hr
    have hu64 := hr.units
    exact (ssv_cons (sv_for (passes_of rfl) rfl (iv_any (pv_lst (av_cons (pv_callB call_lenA bd_len rfl Z.m_len bt_len (av_cons (pv_var (i := 0) rfl (by first | exact .inl rfl | exact .inr (.inl rfl) | exact .inr (.inr rfl))) av_nil)) (av_cons pv_non (av_cons pv_str (av_cons (pv_lst (av_cons pv_int (av_cons pv_str av_nil))) (av_cons (pv_tup (av_cons pv_int av_nil)) (av_cons pv_bl av_nil)))))))) (gg_name S.nd (i := 1) rfl (by first | exact .inl rfl | exact .inr rfl)) (ssv_cons (sv_for (passes_of rfl) rfl (iv_any (pv_lst (av_cons (pv_call G_fn__law_by_place (hr.mono (by decide)) rfl M_fn__law_by_place K_fn__law_by_place B_fn__law_by_place .nil DflW.nil tk (av_cons (pv_var (i := 1) rfl (by first | exact .inl rfl | exact .inr (.inl rfl) | exact .inr (.inr rfl))) av_nil)) (av_cons (pv_call G_fn__law_by_name (hr.mono (by decide)) rfl M_fn__law_by_name K_fn__law_by_name B_fn__law_by_name .nil DflW.nil tk (av_cons (pv_var (i := 1) rfl (by first | exact .inl rfl | exact .inr (.inl rfl) | exact .inr (.inr rfl))) av_nil)) av_nil)))) (gg_name S.nd (i := 2) rfl (by first | exact .inl rfl | exact .inr rfl)) (ssv_cons (sv_if (tv_cmp (op_neD hu64) opd_ne (pv_call G_fn__law_kept (hr.mono (by decide)) rfl M_fn__law_kept K_fn__law_kept B_fn__law_kept .nil DflW.nil tk (av_cons (pv_var (i := 2) rfl (by first | exact .inl rfl | exact .inr (.inl rfl) | exact .inr (.inr rfl))) av_nil)) (pv_op op_rep opd_rep (pv_lst (av_cons (pv_var (i := 1) rfl (by first | exact .inl rfl | exact .inr (.inl rfl) | exact .inr (.inr rfl))) av_nil)) pv_int) (by with_unfolding_all rfl)) (ssv_one (sv_ret pv_bl)) ssv_nil)
    (ssv_one (sv_for (passes_of rfl) rfl (iv_enum rfl Z.m_enumerate (pv_var (i := 2) rfl (by first | exact .inl rfl | exact .inr (.inl rfl) | exact .inr (.inr rfl)))) (gg_tup rfl (gg_cons (gg_name S.nd (i := 3) rfl (by first | exact .inl rfl | exact .inr rfl)) (gg_cons (gg_name S.nd (i := 4) rfl (by first | exact .inl rfl | exact .inr rfl)) gg_nil))) (ssv_cons (sv_if (tv_w (wv_or (tv_not (tv_val (pv_isx Z.es (by decide +kernel) Z.ix_SlipError (pe_glob (v := .ref (He.ga K "SlipError")) rfl Z.ge_SlipError rfl) (fun u r => r) rfl Z.m_isinstance bt_isinstance (pv_var (i := 4) rfl (by first | exact .inl rfl | exact .inr (.inl rfl) | exact .inr (.inr rfl)))))) (wv_or1 (tv_not (tv_val (pv_isx Z.es (by decide +kernel) Z.ix_ValueError (pe_bltn (v := .ty "ValueError") rfl Z.m_ValueError bt_ValueError rfl) (fun u r => r) rfl Z.m_isinstance bt_isinstance (pv_var (i := 4) rfl (by first | exact .inl rfl | exact .inr (.inl rfl) | exact .inr (.inr rfl))))))))) (ssv_one (sv_ret pv_bl)) ssv_nil)
    (ssv_one (sv_if (tv_cmp (op_neD hu64) opd_ne (pv_call G_fn__law_kinds (hr.mono (by decide)) rfl M_fn__law_kinds K_fn__law_kinds B_fn__law_kinds .nil DflW.nil tk (av_cons (pv_var (i := 4) rfl (by first | exact .inl rfl | exact .inr (.inl rfl) | exact .inr (.inr rfl))) av_nil)) (pv_lc (own := [("_law_spot", 5)]) rfl S.nd (iv_range1 rfl Z.m_range pv_int) (blkOk_by (by kernel_rfl)) (fun _ _ _ _ _ => (gg_name S.nd (i := 5) rfl (by first | exact .inl rfl | exact .inr rfl))) (by decide) (fun _ _ _ _ _ => tsv_nil) (fun _ _ _ _ _ => (pv_cmp (op_eqD hu64) opd_eq (pv_var (i := 5) rfl (by first | exact .inl rfl | exact .inr (.inl rfl) | exact .inr (.inr rfl))) (pv_var (i := 3) rfl (by first | exact .inl rfl | exact .inr (.inl rfl) | exact .inr (.inr rfl))) (by with_unfolding_all rfl)))) (by with_unfolding_all rfl)) (ssv_one (sv_ret pv_bl)) ssv_nil)))))))
    (ssv_one (sv_for (passes_of rfl) rfl (iv_any (pv_lst (av_cons (pv_excE (err_ofl Z.er_TooMany T.file T.top Z.m_super) (hr.mono (by decide)) rfl Z.ge_TooMany (pv_var (i := 1) rfl (by first | exact .inl rfl | exact .inr (.inl rfl) | exact .inr (.inr rfl)))) (av_cons (pv_excN (err_ofl Z.er_TooMany T.file T.top Z.m_super) (hr.mono (by decide)) rfl Z.ge_TooMany (pv_var (i := 1) rfl (by first | exact .inl rfl | exact .inr (.inl rfl) | exact .inr (.inr rfl)))) av_nil)))) (gg_name S.nd (i := 4) rfl (by first | exact .inl rfl | exact .inr rfl)) (ssv_one (sv_if (tv_w (wv_or (tv_cmp (op_neD hu64) opd_ne (pv_exf Z.es (by decide +kernel) Z.xf_most (pv_var (i := 4) rfl (by first | exact .inl rfl | exact .inr (.inl rfl) | exact .inr (.inr rfl)))) (pv_var (i := 1) rfl (by first | exact .inl rfl | exact .inr (.inl rfl) | exact .inr (.inr rfl))) (by with_unfolding_all rfl)) (wv_or (tv_not (tv_val (pv_isx Z.es (by decide +kernel) Z.ix_OverflowError (pe_bltn (v := .ty "OverflowError") rfl Z.m_OverflowError bt_OverflowError rfl) (fun u r => r) rfl Z.m_isinstance bt_isinstance (pv_var (i := 4) rfl (by first | exact .inl rfl | exact .inr (.inl rfl) | exact .inr (.inr rfl)))))) (wv_or (tv_val (pv_isx Z.es (by decide +kernel) Z.ix_SlipError (pe_glob (v := .ref (He.ga K "SlipError")) rfl Z.ge_SlipError rfl) (fun u r => r) rfl Z.m_isinstance bt_isinstance (pv_var (i := 4) rfl (by first | exact .inl rfl | exact .inr (.inl rfl) | exact .inr (.inr rfl))))) (wv_or1 (tv_cmp (op_inA hu) opd_in pv_bl (pv_call G_fn__law_kinds (hr.mono (by decide)) rfl M_fn__law_kinds K_fn__law_kinds B_fn__law_kinds .nil DflW.nil tk (av_cons (pv_var (i := 4) rfl (by first | exact .inl rfl | exact .inr (.inl rfl) | exact .inr (.inr rfl))) av_nil)) (by with_unfolding_all rfl))))))) (ssv_one (sv_ret pv_bl)) ssv_nil))))))
    (ssv_one (sv_ret pv_bl)))
  exact ⟨fd, F, G, Z.d_fn_law.mg⟩
end
end Lw
set_option Elab.async false
set_option linter.all false
set_option maxRecDepth 100000
set_option maxHeartbeats 0
namespace Lw
open PySem PySem.Spec PyProof.Rows L2 DL

abbrev parts : List HX.Part := [p0, p1, p2]
theorem ba {p q : Bool} (both : (p && q) = true) : p = true ∧ q = true := Bool.and_eq_true_iff.mp both
theorem fx {K : PySem.W.Frag} {h : Heap} {mg : Str → Option Value} (X : K.In h) (G : h.Ns mainGlobals mg) (c : HX.Says parts K) : Fx K mg := by
  obtain ⟨c0, _, _⟩ := c.part 0 (p := p0) rfl
  obtain ⟨c1, hex, z⟩ := c.part 1 (p := p1) rfl
  obtain ⟨c2, _, _⟩ := c.part 2 (p := p2) rfl
  have e0 : ex K = true := hex
  obtain ⟨x0, e1⟩ := ba e0
  obtain ⟨x1, e2⟩ := ba e1
  obtain ⟨x2, e3⟩ := ba e2
  obtain ⟨x3, e4⟩ := ba e3
  obtain ⟨x4, e5⟩ := ba e4
  obtain ⟨x5, e6⟩ := ba e5
  obtain ⟨x6, e7⟩ := ba e6
  obtain ⟨x7, e8⟩ := ba e7
  obtain ⟨x8, e9⟩ := ba e8
  obtain ⟨x9, e10⟩ := ba e9
  obtain ⟨x10, e11⟩ := ba e10
  obtain ⟨x11, e12⟩ := ba e11
  obtain ⟨x12, e13⟩ := ba e12
  obtain ⟨x13, e14⟩ := ba e13
  obtain ⟨x14, e15⟩ := ba e14
  obtain ⟨x15, e16⟩ := ba e15
  obtain ⟨x16, e17⟩ := ba e16
  obtain ⟨x17, e18⟩ := ba e17
  obtain ⟨x18, e19⟩ := ba e18
  obtain ⟨x19, e20⟩ := ba e19
  obtain ⟨x20, e21⟩ := ba e20
  obtain ⟨x21, e22⟩ := ba e21
  obtain ⟨x22, e23⟩ := ba e22
  obtain ⟨x23, e24⟩ := ba e23
  obtain ⟨x24, e25⟩ := ba e24
  obtain ⟨x25, e26⟩ := ba e25
  obtain ⟨x26, e27⟩ := ba e26
  obtain ⟨x27, e28⟩ := ba e27
  obtain ⟨x28, e29⟩ := ba e28
  obtain ⟨x29, e30⟩ := ba e29
  obtain ⟨x30, e31⟩ := ba e30
  obtain ⟨x31, e32⟩ := ba e31
  obtain ⟨x32, e33⟩ := ba e32
  obtain ⟨x33, e34⟩ := ba e33
  obtain ⟨x34, e35⟩ := ba e34
  obtain ⟨x35, e36⟩ := ba e35
  obtain ⟨x36, e37⟩ := ba e36
  obtain ⟨x37, e38⟩ := ba e37
  obtain ⟨x38, e39⟩ := ba e38
  obtain ⟨x39, e40⟩ := ba e39
  obtain ⟨x40, e41⟩ := ba e40
  obtain ⟨x41, e42⟩ := ba e41
  obtain ⟨x42, e43⟩ := ba e42
  obtain ⟨x43, e44⟩ := ba e43
  obtain ⟨x44, e45⟩ := ba e44
  obtain ⟨x45, e46⟩ := ba e45
  obtain ⟨x46, e47⟩ := ba e46
  obtain ⟨x47, e48⟩ := ba e47
  obtain ⟨x48, e49⟩ := ba e48
  obtain ⟨x49, e50⟩ := ba e49
  obtain ⟨x50, e51⟩ := ba e50
  obtain ⟨f_fn__law_by_name, F_fn__law_by_name⟩ := c2.def_ 0 (d := d_fn__law_by_name) rfl
  obtain ⟨f_fn__law_by_place, F_fn__law_by_place⟩ := c2.def_ 1 (d := d_fn__law_by_place) rfl
  obtain ⟨f_fn__law_kept, F_fn__law_kept⟩ := c2.def_ 2 (d := d_fn__law_kept) rfl
  obtain ⟨f_fn__law_kinds, F_fn__law_kinds⟩ := c2.def_ 3 (d := d_fn__law_kinds) rfl
  obtain ⟨f_fn_law, F_fn_law⟩ := c2.def_ 4 (d := d_fn_law) rfl
  exact {
    m_len := He.free_ok X G (c0.fact 0 (f := .free "len") rfl)
    m_super := He.free_ok X G (c0.fact 1 (f := .free "super") rfl)
    m_enumerate := He.free_ok X G (c0.fact 2 (f := .free "enumerate") rfl)
    m_isinstance := He.free_ok X G (c0.fact 3 (f := .free "isinstance") rfl)
    m_ValueError := He.free_ok X G (c0.fact 4 (f := .free "ValueError") rfl)
    m_range := He.free_ok X G (c0.fact 5 (f := .free "range") rfl)
    m_OverflowError := He.free_ok X G (c0.fact 6 (f := .free "OverflowError") rfl)
    d_fn__law_by_name := ⟨⟨f_fn__law_by_name, F_fn__law_by_name⟩, HX.glo_of X G z F_fn__law_by_name⟩
    d_fn__law_by_place := ⟨⟨f_fn__law_by_place, F_fn__law_by_place⟩, HX.glo_of X G z F_fn__law_by_place⟩
    d_fn__law_kept := ⟨⟨f_fn__law_kept, F_fn__law_kept⟩, HX.glo_of X G z F_fn__law_kept⟩
    d_fn__law_kinds := ⟨⟨f_fn__law_kinds, F_fn__law_kinds⟩, HX.glo_of X G z F_fn__law_kinds⟩
    d_fn_law := ⟨⟨f_fn_law, F_fn_law⟩, HX.glo_of X G z F_fn_law⟩
    er_NoSlip := x0
    er_NoRules := x1
    er_NoLand := x2
    er_NoHost := x3
    er_NoReader := x4
    er_NoVisit := x5
    er_NoStore := x6
    er_NoDeed := x7
    er_NoPlan := x8
    er_NoGuard := x9
    er_NoTrouble := x10
    er_NoCase := x11
    er_NoNote := x12
    er_NothingBack := x13
    er_NoNumber := x14
    er_NoMenu := x15
    xf_slip := x16
    xf_part := x17
    xf_host := x18
    xf_reader := x19
    xf_visit := x20
    xf_store := x21
    xf_deed := x22
    xf_guard := x23
    xf_trouble := x24
    xf_line := x25
    xf_many := x26
    xf_value := x27
    xf_menu := x28
    ix_SlipError := x29
    ix_ValueError := x30
    ix_NoSlip := x31
    ix_NoRules := x32
    ix_NoLand := x33
    ix_NoHost := x34
    ix_NoReader := x35
    ix_NoVisit := x36
    ix_NoStore := x37
    ix_NoDeed := x38
    ix_NoPlan := x39
    ix_NoGuard := x40
    ix_NoTrouble := x41
    ix_NoCase := x42
    ix_NoNote := x43
    ix_NothingBack := x44
    ix_NoNumber := x45
    ix_NoMenu := x46
    er_TooMany := x47
    xf_most := x48
    ix_OverflowError := x49
    ge_NoSlip := He.glo_ok X G (c0.fact 7 (f := .glo "NoSlip") rfl)
    ge_NoRules := He.glo_ok X G (c0.fact 8 (f := .glo "NoRules") rfl)
    ge_NoLand := He.glo_ok X G (c0.fact 9 (f := .glo "NoLand") rfl)
    ge_NoHost := He.glo_ok X G (c0.fact 10 (f := .glo "NoHost") rfl)
    ge_NoReader := He.glo_ok X G (c0.fact 11 (f := .glo "NoReader") rfl)
    ge_NoVisit := He.glo_ok X G (c0.fact 12 (f := .glo "NoVisit") rfl)
    ge_NoStore := He.glo_ok X G (c0.fact 13 (f := .glo "NoStore") rfl)
    ge_NoDeed := He.glo_ok X G (c0.fact 14 (f := .glo "NoDeed") rfl)
    ge_NoPlan := He.glo_ok X G (c0.fact 15 (f := .glo "NoPlan") rfl)
    ge_NoGuard := He.glo_ok X G (c0.fact 16 (f := .glo "NoGuard") rfl)
    ge_NoTrouble := He.glo_ok X G (c0.fact 17 (f := .glo "NoTrouble") rfl)
    ge_NoCase := He.glo_ok X G (c0.fact 18 (f := .glo "NoCase") rfl)
    ge_NoNote := He.glo_ok X G (c0.fact 19 (f := .glo "NoNote") rfl)
    ge_NothingBack := He.glo_ok X G (c1.fact 0 (f := .glo "NothingBack") rfl)
    ge_NoNumber := He.glo_ok X G (c1.fact 1 (f := .glo "NoNumber") rfl)
    ge_NoMenu := He.glo_ok X G (c1.fact 2 (f := .glo "NoMenu") rfl)
    ge_SlipError := He.glo_ok X G (c1.fact 3 (f := .glo "SlipError") rfl)
    ge_TooMany := He.glo_ok X G (c1.fact 4 (f := .glo "TooMany") rfl)
    es := errSB_ok X G x50 }
end Lw
set_option Elab.async false
set_option linter.all false
set_option maxRecDepth 100000
set_option maxHeartbeats 0
namespace Lw
open PySem PySem.W PySem.Calls PyProof.Rows DL
theorem facts_law {P : Program} {w : World} {K : PySem.W.Frag} {h : Heap} {mg : (PySem.Str → Option Value)} {f : Addr} (X : K.In h) (G : h.Ns mainGlobals mg) (at_law : mg ("law" : PySem.Str) = some (.ref f)) (c : HX.Says parts K) (tf : HX.TabF K h) (hfile : P.main.file = prog.main.file) (htop : (P.main.scope.names.lookup ("super" : PySem.Str)).isSome = false) :
    ∃ fd : FuncData, (∀ (s : Shared) (v : Value), BindsTo s fd ⟨[v], []⟩ [("_law_script", v)]) ∧ ∀ base : Heap, K.In base → base.Ns mainGlobals mg → (∀ p ∈ (tabs3 K).map (fun t => (t.1, t.2.1)), LamX.TabB base mg p.1 p.2) → DL.FnOk P w K mg base XN 5 f fd ["_law_script"] (fun vs H Q _ => spOf (wd P w K) mg 1 fn_law vs H Q fun _ _ _ => False) := by
  have Z := fx X G c
  obtain ⟨fd, F⟩ := Z.d_fn_law.fd
  have b := L2.FunD.bindsA (ps := ["_law_script"]) F fun _ _ _ _ _ _ us hl => match us, hl with | [_], _ => rfl
  refine ⟨fd, fun s v => b s [v] rfl, ?_⟩
  intro base _ _ tb
  obtain ⟨fd', F', ok, at_law'⟩ := ok_fn_law (P := P) (w := w) (base := base) Z ⟨⟨fun t m => tb (t.1, t.2.1) (List.mem_map.mpr ⟨t, m, rfl⟩), tf.one⟩, hfile, htop⟩
  have e := at_law.symm.trans at_law'
  cases e
  cases fd_same F F'
  exact fn_noX ok
theorem join (plain : ∀ ns : List Int, ns.length ≤ 63 → ∃ cc, fn_law [.d (.scr (ns.map .int))] [] = .ok (.d (.bl true)) cc) : PySem.Challenge.rw_visitslips_k82_errors_told.Holds := by
  w_on; o_law
  refine HandSHeadRun.head_any (r := R) (q := view R.prog [24]) (H := HX.hookP 550 parts) (ob := HX.ob 550 parts) (M := 9000) (loose := names) (d := HandSHeadRun.topDef R.prog 24) (kwd := []) (HX.ob_eq 550 parts)
    (by kernel_rfl) (fun s => by kernel_rfl) (fun w => HX.join (Lw.runL w) (Lw.runS w) ⟨Lw.run0 w, ⟨Lw.run1 w, ⟨Lw.run2 w, trivial⟩⟩⟩) (by kernel_rfl) (by kernel_rfl) (by kernel_rfl) (by rfl) (by first | assumption | decide +kernel) (by decide +kernel) ⟨rfl, rfl, rfl, rfl, rfl, by decide +kernel⟩ ?hw ?hc
  case hw => w_witness2
  case hc =>
    refine DL.walk_ends (l := PySem.Challenge.rw_visitslips_k82_errors_told) (n := 63) (k := 5) (x := "_law_script") (CX := fun _ => XN) rfl (by decide) (by kernel_rfl) ⟨⟨rfl, by decide, by decide⟩, rfl⟩ ?F (fun _ _ _ _ _ z => z)
    rintro w mg fa h ⟨K, KX, c, tf⟩ G at_name
    have tf := tf rfl
    have at_law : mg ("law" : PySem.Str) = some (.ref fa) := by
      have e : (HandSHeadRun.topDef R.prog 24).name = ("law" : PySem.Str) := by kernel_rfl
      exact e ▸ at_name
    obtain ⟨fd, binds, ok⟩ := facts_law (P := PySem.Challenge.pw_visitslips_k82_errors_told) (w := w) KX G at_law c tf rfl (by decide +kernel)
    refine ⟨K, KX, fd, (tabs3 K).map (fun t => (t.1, t.2.1)), _, ?_, ?_, ?_, binds, ?_, ok⟩
    · intro p mp
      obtain ⟨t, mt, rfl⟩ := List.mem_map.mp mp
      exact tf.empty t mt
    · intro p mp
      obtain ⟨t, mt, rfl⟩ := List.mem_map.mp mp
      exact tf.out t mt
    · intro p mp
      obtain ⟨t, mt, rfl⟩ := List.mem_map.mp mp
      exact PySem.W.codeHd_of_K KX (tf.hd t mt)
    intro H a ns le _ tabs known
    obtain ⟨cc, e⟩ := plain ns le
    exact law_says tabs known e
end Lw
set_option Elab.async false
set_option linter.all false
set_option maxRecDepth 100000
set_option maxHeartbeats 777000
/-! P82: errors told. -/
namespace Lw
open PySem PySem.Spec PyProof.Rows L2 DL
def made (x : D) : List D := [.exc "NoHost" "host" x, .exc "NoLand" "part" x, .exc "NoRules" "part" x, .exc "NoSlip" "slip" x, .exc "NoDeed" "deed" x, .exc "NoStore" "store" x, .exc "NoVisit" "visit" x, .exc "NoReader" "reader" x, .exc "NoCase" "part" x, .exc "NoTrouble" "trouble" x, .exc "NoGuard" "guard" x, .exc "NoPlan" "part" x, .exc "NoMenu" "menu" x, .exc "NoNumber" "value" x, .exc "NothingBack" "many" x, .exc "NoNote" "line" x]
def bitsOf (j : Nat) : D := .lst ((List.range 16).map fun i => .bl (Nat.beq i j))
section
variable {env : DL.Env} {cc : Cs} {t : DL.Env → M Bool} {A : MS} {m n : ME}
theorem off82 (h : Holds env cc t false) : sIf t A sNext env cc = .nx env cc := if_no h
theorem same82 {G : Tg} {b : MS} (P : DL.Env → Prop) : ∀ {xs : List D}, (∀ x ∈ xs, ∀ env, P env → ∃ e0 env', G (.d x) env cc = some e0 ∧ b e0 cc = .nx env' cc ∧ P env') → ∀ {env : DL.Env}, P env → ∃ env', forL G b xs env cc = .nx env' cc ∧ P env'
  | [], _, env, h => ⟨env, rfl, h⟩
  | x :: xs, step, env, h => by
    obtain ⟨e0, e1, g, run, p⟩ := step x List.mem_cons_self env h
    obtain ⟨e2, more, p2⟩ := same82 P (xs := xs) (fun y m => step y (List.mem_cons_of_mem _ m)) p
    exact ⟨e2, by simp only [forL, g, run, more], p2⟩
theorem loop82 {mi : DL.Env → M (List D)} {G : Tg} {b : MS} {xs : List D} {env' : DL.Env} (h : mi env cc = .ok xs cc) (r : forL G b xs env cc = .nx env' cc) : sFor mi G b env cc = .nx env' cc := by
  unfold sFor
  rw [h]
  exact r
end
/-- a thing that is compared well -/
structure Th (x : D) : Prop where
  ck : ck x 63 = true
  cmp : cmpD x = true
  eq : eqD x x = true
theorem ne82 {x : D} (c : cmpD x = true) (e : eqD x x = true) : dNe x x = some (.bl false) := by
  show (if cmpD x = true ∧ cmpD x = true then some (eqD x x) else none).map (fun b => D.bl (!b)) = _
  rw [if_pos ⟨c, c⟩, e]
  rfl
section
variable {x : D} {cc : Cs} (ok : okBelow cc.length cc = true)
include ok
theorem place82 : fn__law_by_place [.d x] cc = .ok (.d (.lst (made x))) cc := fnOf_rt (n := 2) (b := fn__law_by_place_b) ok (by kernel_rfl)
theorem name82 : fn__law_by_name [.d x] cc = .ok (.d (.lst (made x))) cc := fnOf_rt (n := 2) (b := fn__law_by_name_b) ok (by kernel_rfl)
theorem kept82 : fn__law_kept [.d (.lst (made x))] cc = .ok (.d (.lst [x, x, x, x, x, x, x, x, x, x, x, x, x, x, x, x])) cc := fnOf_rt (n := 2) (b := fn__law_kept_b) ok (by kernel_rfl)
theorem kinds82 (j : Nat) (h : j < 16) {e : D} (at_ : (made x)[j]? = some e) : fn__law_kinds [.d e] cc = .ok (.d (bitsOf j)) cc := by
  have go : ∀ (j : Nat) (h : j < 16), fn__law_kinds [.d ((made x).getD j .non)] cc = .ok (.d (bitsOf j)) cc := fun j h => by
    match j, h with
  | 0, _ => exact fnOf_rt (n := 2) (b := fn__law_kinds_b) ok (by kernel_rfl)
  | 1, _ => exact fnOf_rt (n := 2) (b := fn__law_kinds_b) ok (by kernel_rfl)
  | 2, _ => exact fnOf_rt (n := 2) (b := fn__law_kinds_b) ok (by kernel_rfl)
  | 3, _ => exact fnOf_rt (n := 2) (b := fn__law_kinds_b) ok (by kernel_rfl)
  | 4, _ => exact fnOf_rt (n := 2) (b := fn__law_kinds_b) ok (by kernel_rfl)
  | 5, _ => exact fnOf_rt (n := 2) (b := fn__law_kinds_b) ok (by kernel_rfl)
  | 6, _ => exact fnOf_rt (n := 2) (b := fn__law_kinds_b) ok (by kernel_rfl)
  | 7, _ => exact fnOf_rt (n := 2) (b := fn__law_kinds_b) ok (by kernel_rfl)
  | 8, _ => exact fnOf_rt (n := 2) (b := fn__law_kinds_b) ok (by kernel_rfl)
  | 9, _ => exact fnOf_rt (n := 2) (b := fn__law_kinds_b) ok (by kernel_rfl)
  | 10, _ => exact fnOf_rt (n := 2) (b := fn__law_kinds_b) ok (by kernel_rfl)
  | 11, _ => exact fnOf_rt (n := 2) (b := fn__law_kinds_b) ok (by kernel_rfl)
  | 12, _ => exact fnOf_rt (n := 2) (b := fn__law_kinds_b) ok (by kernel_rfl)
  | 13, _ => exact fnOf_rt (n := 2) (b := fn__law_kinds_b) ok (by kernel_rfl)
  | 14, _ => exact fnOf_rt (n := 2) (b := fn__law_kinds_b) ok (by kernel_rfl)
  | 15, _ => exact fnOf_rt (n := 2) (b := fn__law_kinds_b) ok (by kernel_rfl)
  | j + 16, h => exact absurd h (by omega)
  have eq : (made x).getD j .non = e := by
    rw [List.getD_eq_getElem?_getD, at_]
    rfl
  rw [← eq]
  exact go j h
theorem many82 : fn__law_kinds [.d (.exc "TooMany" "most" x)] cc = .ok (.d (.lst ((List.range 16).map fun _ => .bl false))) cc := fnOf_rt (n := 2) (b := fn__law_kinds_b) ok (by kernel_rfl)
theorem turn82 (T : Th x) {ns : List Int} {o2 o3 o4 o5 : Option W} : ∃ p2 p3 p4 p5, (sSeq (sFor (mIt (mLst (mCons (mCall fn__law_by_place 1 (mCons (mVar 1) mNil) []) (mCons (mCall fn__law_by_name 1 (mCons (mVar 1) mNil) []) mNil)))) (gvName 2) (sSeq (sIf (mT (mOp dNe (mCall fn__law_kept 1 (mCons (mVar 2) mNil) []) (mOp dRep (mLst (mCons (mVar 1) mNil)) (mC (.int 16))))) (sRet (mC (.bl false))) sNext)
    (sFor (mEnum (mVar 2)) (gvTup 2 (gvCons (gvName 3) (gvCons (gvName 4) gvNil))) (sSeq (sIf (mOr (mNot (mT (mIsX [("NoHost", true), ("NoLand", true), ("NoRules", true), ("NoSlip", true), ("NoDeed", true), ("NoStore", true), ("NoVisit", true), ("NoReader", true), ("NoCase", true), ("NoTrouble", true), ("NoGuard", true), ("NoPlan", true), ("NoMenu", true), ("NoNumber", true), ("NothingBack", true), ("NoNote", true), ("TooMany", false)] (mVar 4)))) (mNot (mT (mIsX [("NoHost", true), ("NoLand", true), ("NoRules", true), ("NoSlip", true), ("NoDeed", true), ("NoStore", true), ("NoVisit", true), ("NoReader", true), ("NoCase", true), ("NoTrouble", true), ("NoGuard", true), ("NoPlan", true), ("NoMenu", true), ("NoNumber", true), ("NothingBack", true), ("NoNote", true), ("TooMany", false)] (mVar 4))))) (sRet (mC (.bl false))) sNext)
    (sIf (mT (mOp dNe (mCall fn__law_kinds 1 (mCons (mVar 4) mNil) []) (mLc (mRng1 (mC (.int 16))) [5] (gvName 5) tvYes (mOp dEq (mVar 5) (mVar 3))))) (sRet (mC (.bl false))) sNext)))))
    (sFor (mIt (mLst (mCons (mExc "TooMany" "most" (mVar 1)) (mCons (mExc "TooMany" "most" (mVar 1)) mNil)))) (gvName 4) (sIf (mOr (mT (mOp dNe (mExf ["TooMany"] "most" (mVar 4)) (mVar 1))) (mOr (mNot (mT (mIsX [("NoHost", false), ("NoLand", false), ("NoRules", false), ("NoSlip", false), ("NoDeed", false), ("NoStore", false), ("NoVisit", false), ("NoReader", false), ("NoCase", false), ("NoTrouble", false), ("NoGuard", false), ("NoPlan", false), ("NoMenu", false), ("NoNumber", false), ("NothingBack", false), ("NoNote", false), ("TooMany", true)] (mVar 4)))) (mOr (mT (mIsX [("NoHost", true), ("NoLand", true), ("NoRules", true), ("NoSlip", true), ("NoDeed", true), ("NoStore", true), ("NoVisit", true), ("NoReader", true), ("NoCase", true), ("NoTrouble", true), ("NoGuard", true), ("NoPlan", true), ("NoMenu", true), ("NoNumber", true), ("NothingBack", true), ("NoNote", true), ("TooMany", false)] (mVar 4))) (mT (mOp dIn (mC (.bl true)) (mCall fn__law_kinds 1 (mCons (mVar 4) mNil) [])))))) (sRet (mC (.bl false))) sNext))) [some (.d (.scr (ns.map .int))), some (.d x), o2, o3, o4, o5] cc = .nx [some (.d (.scr (ns.map .int))), some (.d x), p2, p3, p4, p5] cc := by
  have in3 : ∀ {o3 o4 o5 : Option W}, ∃ p3 p4 p5, (sSeq (sIf (mT (mOp dNe (mCall fn__law_kept 1 (mCons (mVar 2) mNil) []) (mOp dRep (mLst (mCons (mVar 1) mNil)) (mC (.int 16))))) (sRet (mC (.bl false))) sNext)
    (sFor (mEnum (mVar 2)) (gvTup 2 (gvCons (gvName 3) (gvCons (gvName 4) gvNil))) (sSeq (sIf (mOr (mNot (mT (mIsX [("NoHost", true), ("NoLand", true), ("NoRules", true), ("NoSlip", true), ("NoDeed", true), ("NoStore", true), ("NoVisit", true), ("NoReader", true), ("NoCase", true), ("NoTrouble", true), ("NoGuard", true), ("NoPlan", true), ("NoMenu", true), ("NoNumber", true), ("NothingBack", true), ("NoNote", true), ("TooMany", false)] (mVar 4)))) (mNot (mT (mIsX [("NoHost", true), ("NoLand", true), ("NoRules", true), ("NoSlip", true), ("NoDeed", true), ("NoStore", true), ("NoVisit", true), ("NoReader", true), ("NoCase", true), ("NoTrouble", true), ("NoGuard", true), ("NoPlan", true), ("NoMenu", true), ("NoNumber", true), ("NothingBack", true), ("NoNote", true), ("TooMany", false)] (mVar 4))))) (sRet (mC (.bl false))) sNext)
    (sIf (mT (mOp dNe (mCall fn__law_kinds 1 (mCons (mVar 4) mNil) []) (mLc (mRng1 (mC (.int 16))) [5] (gvName 5) tvYes (mOp dEq (mVar 5) (mVar 3))))) (sRet (mC (.bl false))) sNext)))) [some (.d (.scr (ns.map .int))), some (.d x), some (.d (.lst (made x))), o3, o4, o5] cc = .nx [some (.d (.scr (ns.map .int))), some (.d x), some (.d (.lst (made x))), p3, p4, p5] cc := fun {o3 o4 o5} => by
    have rp : Tells [some (.d (.scr (ns.map .int))), some (.d x), some (.d (.lst (made x))), o3, o4, o5] cc (mOp dRep (mLst (mCons (mVar 1) mNil)) (mC (.int 16))) (.lst [x, x, x, x, x, x, x, x, x, x, x, x, x, x, x, x]) := by kernel_rfl
    have c16 : cmpD (.lst [x, x, x, x, x, x, x, x, x, x, x, x, x, x, x, x]) = true := by
      show (Nat.blt 0 64 && cks [x, x, x, x, x, x, x, x, x, x, x, x, x, x, x, x] 63) = true
      simp only [cks, T.ck, Bool.and_true, Bool.true_and]
      rfl
    have e16 : eqD (.lst [x, x, x, x, x, x, x, x, x, x, x, x, x, x, x, x]) (.lst [x, x, x, x, x, x, x, x, x, x, x, x, x, x, x, x]) = true := by
      show eqDs [x, x, x, x, x, x, x, x, x, x, x, x, x, x, x, x] [x, x, x, x, x, x, x, x, x, x, x, x, x, x, x, x] = true
      simp only [eqDs, T.eq, Bool.and_true, Bool.true_and]
    have kt : Holds [some (.d (.scr (ns.map .int))), some (.d x), some (.d (.lst (made x))), o3, o4, o5] cc (mT (mOp dNe (mCall fn__law_kept 1 (mCons (mVar 2) mNil) []) (mOp dRep (mLst (mCons (mVar 1) mNil)) (mC (.int 16))))) false := t_ok (op_ok (call1 (w2 := .d (.lst (made x))) rfl (kept82 ok)) rp (ne82 c16 e16))
    have it3 : mEnum (mVar 2) [some (.d (.scr (ns.map .int))), some (.d x), some (.d (.lst (made x))), o3, o4, o5] cc = .ok [.tup [.int 0, .exc "NoHost" "host" x], .tup [.int 1, .exc "NoLand" "part" x], .tup [.int 2, .exc "NoRules" "part" x], .tup [.int 3, .exc "NoSlip" "slip" x], .tup [.int 4, .exc "NoDeed" "deed" x], .tup [.int 5, .exc "NoStore" "store" x], .tup [.int 6, .exc "NoVisit" "visit" x], .tup [.int 7, .exc "NoReader" "reader" x], .tup [.int 8, .exc "NoCase" "part" x], .tup [.int 9, .exc "NoTrouble" "trouble" x], .tup [.int 10, .exc "NoGuard" "guard" x], .tup [.int 11, .exc "NoPlan" "part" x], .tup [.int 12, .exc "NoMenu" "menu" x], .tup [.int 13, .exc "NoNumber" "value" x], .tup [.int 14, .exc "NothingBack" "many" x], .tup [.int 15, .exc "NoNote" "line" x]] cc := by kernel_rfl
    obtain ⟨env', run, p3, p4, p5, rfl⟩ := same82 (cc := cc) (G := (gvTup 2 (gvCons (gvName 3) (gvCons (gvName 4) gvNil)))) (b := (sSeq (sIf (mOr (mNot (mT (mIsX [("NoHost", true), ("NoLand", true), ("NoRules", true), ("NoSlip", true), ("NoDeed", true), ("NoStore", true), ("NoVisit", true), ("NoReader", true), ("NoCase", true), ("NoTrouble", true), ("NoGuard", true), ("NoPlan", true), ("NoMenu", true), ("NoNumber", true), ("NothingBack", true), ("NoNote", true), ("TooMany", false)] (mVar 4)))) (mNot (mT (mIsX [("NoHost", true), ("NoLand", true), ("NoRules", true), ("NoSlip", true), ("NoDeed", true), ("NoStore", true), ("NoVisit", true), ("NoReader", true), ("NoCase", true), ("NoTrouble", true), ("NoGuard", true), ("NoPlan", true), ("NoMenu", true), ("NoNumber", true), ("NothingBack", true), ("NoNote", true), ("TooMany", false)] (mVar 4))))) (sRet (mC (.bl false))) sNext)
    (sIf (mT (mOp dNe (mCall fn__law_kinds 1 (mCons (mVar 4) mNil) []) (mLc (mRng1 (mC (.int 16))) [5] (gvName 5) tvYes (mOp dEq (mVar 5) (mVar 3))))) (sRet (mC (.bl false))) sNext))) (xs := [.tup [.int 0, .exc "NoHost" "host" x], .tup [.int 1, .exc "NoLand" "part" x], .tup [.int 2, .exc "NoRules" "part" x], .tup [.int 3, .exc "NoSlip" "slip" x], .tup [.int 4, .exc "NoDeed" "deed" x], .tup [.int 5, .exc "NoStore" "store" x], .tup [.int 6, .exc "NoVisit" "visit" x], .tup [.int 7, .exc "NoReader" "reader" x], .tup [.int 8, .exc "NoCase" "part" x], .tup [.int 9, .exc "NoTrouble" "trouble" x], .tup [.int 10, .exc "NoGuard" "guard" x], .tup [.int 11, .exc "NoPlan" "part" x], .tup [.int 12, .exc "NoMenu" "menu" x], .tup [.int 13, .exc "NoNumber" "value" x], .tup [.int 14, .exc "NothingBack" "many" x], .tup [.int 15, .exc "NoNote" "line" x]]) (fun env => ∃ o3 o4 o5, env = [some (.d (.scr (ns.map .int))), some (.d x), some (.d (.lst (made x))), o3, o4, o5]) (by
    rintro y my env ⟨o3, o4, o5, rfl⟩
    simp only [List.mem_cons, List.not_mem_nil, or_false] at my
    rcases my with rfl | rfl | rfl | rfl | rfl | rfl | rfl | rfl | rfl | rfl | rfl | rfl | rfl | rfl | rfl | rfl
    · exact ⟨_, [some (.d (.scr (ns.map .int))), some (.d x), some (.d (.lst (made x))), some (.d (.int 0)), some (.d (.exc "NoHost" "host" x)), o5], rfl, (seq_if_no (show Holds [some (.d (.scr (ns.map .int))), some (.d x), some (.d (.lst (made x))), some (.d (.int 0)), some (.d (.exc "NoHost" "host" x)), o5] cc (mOr (mNot (mT (mIsX [("NoHost", true), ("NoLand", true), ("NoRules", true), ("NoSlip", true), ("NoDeed", true), ("NoStore", true), ("NoVisit", true), ("NoReader", true), ("NoCase", true), ("NoTrouble", true), ("NoGuard", true), ("NoPlan", true), ("NoMenu", true), ("NoNumber", true), ("NothingBack", true), ("NoNote", true), ("TooMany", false)] (mVar 4)))) (mNot (mT (mIsX [("NoHost", true), ("NoLand", true), ("NoRules", true), ("NoSlip", true), ("NoDeed", true), ("NoStore", true), ("NoVisit", true), ("NoReader", true), ("NoCase", true), ("NoTrouble", true), ("NoGuard", true), ("NoPlan", true), ("NoMenu", true), ("NoNumber", true), ("NothingBack", true), ("NoNote", true), ("TooMany", false)] (mVar 4))))) false by kernel_rfl)).trans (off82 (t_ok (op_ok (call1 (w2 := .d (.exc "NoHost" "host" x)) rfl (kinds82 ok 0 (by decide) rfl)) (show Tells [some (.d (.scr (ns.map .int))), some (.d x), some (.d (.lst (made x))), some (.d (.int 0)), some (.d (.exc "NoHost" "host" x)), o5] cc (mLc (mRng1 (mC (.int 16))) [5] (gvName 5) tvYes (mOp dEq (mVar 5) (mVar 3))) (.lst [.bl true, .bl false, .bl false, .bl false, .bl false, .bl false, .bl false, .bl false, .bl false, .bl false, .bl false, .bl false, .bl false, .bl false, .bl false, .bl false]) by kernel_rfl) (by kernel_rfl)))), _, _, _, rfl⟩
    · exact ⟨_, [some (.d (.scr (ns.map .int))), some (.d x), some (.d (.lst (made x))), some (.d (.int 1)), some (.d (.exc "NoLand" "part" x)), o5], rfl, (seq_if_no (show Holds [some (.d (.scr (ns.map .int))), some (.d x), some (.d (.lst (made x))), some (.d (.int 1)), some (.d (.exc "NoLand" "part" x)), o5] cc (mOr (mNot (mT (mIsX [("NoHost", true), ("NoLand", true), ("NoRules", true), ("NoSlip", true), ("NoDeed", true), ("NoStore", true), ("NoVisit", true), ("NoReader", true), ("NoCase", true), ("NoTrouble", true), ("NoGuard", true), ("NoPlan", true), ("NoMenu", true), ("NoNumber", true), ("NothingBack", true), ("NoNote", true), ("TooMany", false)] (mVar 4)))) (mNot (mT (mIsX [("NoHost", true), ("NoLand", true), ("NoRules", true), ("NoSlip", true), ("NoDeed", true), ("NoStore", true), ("NoVisit", true), ("NoReader", true), ("NoCase", true), ("NoTrouble", true), ("NoGuard", true), ("NoPlan", true), ("NoMenu", true), ("NoNumber", true), ("NothingBack", true), ("NoNote", true), ("TooMany", false)] (mVar 4))))) false by kernel_rfl)).trans (off82 (t_ok (op_ok (call1 (w2 := .d (.exc "NoLand" "part" x)) rfl (kinds82 ok 1 (by decide) rfl)) (show Tells [some (.d (.scr (ns.map .int))), some (.d x), some (.d (.lst (made x))), some (.d (.int 1)), some (.d (.exc "NoLand" "part" x)), o5] cc (mLc (mRng1 (mC (.int 16))) [5] (gvName 5) tvYes (mOp dEq (mVar 5) (mVar 3))) (.lst [.bl false, .bl true, .bl false, .bl false, .bl false, .bl false, .bl false, .bl false, .bl false, .bl false, .bl false, .bl false, .bl false, .bl false, .bl false, .bl false]) by kernel_rfl) (by kernel_rfl)))), _, _, _, rfl⟩
    · exact ⟨_, [some (.d (.scr (ns.map .int))), some (.d x), some (.d (.lst (made x))), some (.d (.int 2)), some (.d (.exc "NoRules" "part" x)), o5], rfl, (seq_if_no (show Holds [some (.d (.scr (ns.map .int))), some (.d x), some (.d (.lst (made x))), some (.d (.int 2)), some (.d (.exc "NoRules" "part" x)), o5] cc (mOr (mNot (mT (mIsX [("NoHost", true), ("NoLand", true), ("NoRules", true), ("NoSlip", true), ("NoDeed", true), ("NoStore", true), ("NoVisit", true), ("NoReader", true), ("NoCase", true), ("NoTrouble", true), ("NoGuard", true), ("NoPlan", true), ("NoMenu", true), ("NoNumber", true), ("NothingBack", true), ("NoNote", true), ("TooMany", false)] (mVar 4)))) (mNot (mT (mIsX [("NoHost", true), ("NoLand", true), ("NoRules", true), ("NoSlip", true), ("NoDeed", true), ("NoStore", true), ("NoVisit", true), ("NoReader", true), ("NoCase", true), ("NoTrouble", true), ("NoGuard", true), ("NoPlan", true), ("NoMenu", true), ("NoNumber", true), ("NothingBack", true), ("NoNote", true), ("TooMany", false)] (mVar 4))))) false by kernel_rfl)).trans (off82 (t_ok (op_ok (call1 (w2 := .d (.exc "NoRules" "part" x)) rfl (kinds82 ok 2 (by decide) rfl)) (show Tells [some (.d (.scr (ns.map .int))), some (.d x), some (.d (.lst (made x))), some (.d (.int 2)), some (.d (.exc "NoRules" "part" x)), o5] cc (mLc (mRng1 (mC (.int 16))) [5] (gvName 5) tvYes (mOp dEq (mVar 5) (mVar 3))) (.lst [.bl false, .bl false, .bl true, .bl false, .bl false, .bl false, .bl false, .bl false, .bl false, .bl false, .bl false, .bl false, .bl false, .bl false, .bl false, .bl false]) by kernel_rfl) (by kernel_rfl)))), _, _, _, rfl⟩
    · exact ⟨_, [some (.d (.scr (ns.map .int))), some (.d x), some (.d (.lst (made x))), some (.d (.int 3)), some (.d (.exc "NoSlip" "slip" x)), o5], rfl, (seq_if_no (show Holds [some (.d (.scr (ns.map .int))), some (.d x), some (.d (.lst (made x))), some (.d (.int 3)), some (.d (.exc "NoSlip" "slip" x)), o5] cc (mOr (mNot (mT (mIsX [("NoHost", true), ("NoLand", true), ("NoRules", true), ("NoSlip", true), ("NoDeed", true), ("NoStore", true), ("NoVisit", true), ("NoReader", true), ("NoCase", true), ("NoTrouble", true), ("NoGuard", true), ("NoPlan", true), ("NoMenu", true), ("NoNumber", true), ("NothingBack", true), ("NoNote", true), ("TooMany", false)] (mVar 4)))) (mNot (mT (mIsX [("NoHost", true), ("NoLand", true), ("NoRules", true), ("NoSlip", true), ("NoDeed", true), ("NoStore", true), ("NoVisit", true), ("NoReader", true), ("NoCase", true), ("NoTrouble", true), ("NoGuard", true), ("NoPlan", true), ("NoMenu", true), ("NoNumber", true), ("NothingBack", true), ("NoNote", true), ("TooMany", false)] (mVar 4))))) false by kernel_rfl)).trans (off82 (t_ok (op_ok (call1 (w2 := .d (.exc "NoSlip" "slip" x)) rfl (kinds82 ok 3 (by decide) rfl)) (show Tells [some (.d (.scr (ns.map .int))), some (.d x), some (.d (.lst (made x))), some (.d (.int 3)), some (.d (.exc "NoSlip" "slip" x)), o5] cc (mLc (mRng1 (mC (.int 16))) [5] (gvName 5) tvYes (mOp dEq (mVar 5) (mVar 3))) (.lst [.bl false, .bl false, .bl false, .bl true, .bl false, .bl false, .bl false, .bl false, .bl false, .bl false, .bl false, .bl false, .bl false, .bl false, .bl false, .bl false]) by kernel_rfl) (by kernel_rfl)))), _, _, _, rfl⟩
    · exact ⟨_, [some (.d (.scr (ns.map .int))), some (.d x), some (.d (.lst (made x))), some (.d (.int 4)), some (.d (.exc "NoDeed" "deed" x)), o5], rfl, (seq_if_no (show Holds [some (.d (.scr (ns.map .int))), some (.d x), some (.d (.lst (made x))), some (.d (.int 4)), some (.d (.exc "NoDeed" "deed" x)), o5] cc (mOr (mNot (mT (mIsX [("NoHost", true), ("NoLand", true), ("NoRules", true), ("NoSlip", true), ("NoDeed", true), ("NoStore", true), ("NoVisit", true), ("NoReader", true), ("NoCase", true), ("NoTrouble", true), ("NoGuard", true), ("NoPlan", true), ("NoMenu", true), ("NoNumber", true), ("NothingBack", true), ("NoNote", true), ("TooMany", false)] (mVar 4)))) (mNot (mT (mIsX [("NoHost", true), ("NoLand", true), ("NoRules", true), ("NoSlip", true), ("NoDeed", true), ("NoStore", true), ("NoVisit", true), ("NoReader", true), ("NoCase", true), ("NoTrouble", true), ("NoGuard", true), ("NoPlan", true), ("NoMenu", true), ("NoNumber", true), ("NothingBack", true), ("NoNote", true), ("TooMany", false)] (mVar 4))))) false by kernel_rfl)).trans (off82 (t_ok (op_ok (call1 (w2 := .d (.exc "NoDeed" "deed" x)) rfl (kinds82 ok 4 (by decide) rfl)) (show Tells [some (.d (.scr (ns.map .int))), some (.d x), some (.d (.lst (made x))), some (.d (.int 4)), some (.d (.exc "NoDeed" "deed" x)), o5] cc (mLc (mRng1 (mC (.int 16))) [5] (gvName 5) tvYes (mOp dEq (mVar 5) (mVar 3))) (.lst [.bl false, .bl false, .bl false, .bl false, .bl true, .bl false, .bl false, .bl false, .bl false, .bl false, .bl false, .bl false, .bl false, .bl false, .bl false, .bl false]) by kernel_rfl) (by kernel_rfl)))), _, _, _, rfl⟩
    · exact ⟨_, [some (.d (.scr (ns.map .int))), some (.d x), some (.d (.lst (made x))), some (.d (.int 5)), some (.d (.exc "NoStore" "store" x)), o5], rfl, (seq_if_no (show Holds [some (.d (.scr (ns.map .int))), some (.d x), some (.d (.lst (made x))), some (.d (.int 5)), some (.d (.exc "NoStore" "store" x)), o5] cc (mOr (mNot (mT (mIsX [("NoHost", true), ("NoLand", true), ("NoRules", true), ("NoSlip", true), ("NoDeed", true), ("NoStore", true), ("NoVisit", true), ("NoReader", true), ("NoCase", true), ("NoTrouble", true), ("NoGuard", true), ("NoPlan", true), ("NoMenu", true), ("NoNumber", true), ("NothingBack", true), ("NoNote", true), ("TooMany", false)] (mVar 4)))) (mNot (mT (mIsX [("NoHost", true), ("NoLand", true), ("NoRules", true), ("NoSlip", true), ("NoDeed", true), ("NoStore", true), ("NoVisit", true), ("NoReader", true), ("NoCase", true), ("NoTrouble", true), ("NoGuard", true), ("NoPlan", true), ("NoMenu", true), ("NoNumber", true), ("NothingBack", true), ("NoNote", true), ("TooMany", false)] (mVar 4))))) false by kernel_rfl)).trans (off82 (t_ok (op_ok (call1 (w2 := .d (.exc "NoStore" "store" x)) rfl (kinds82 ok 5 (by decide) rfl)) (show Tells [some (.d (.scr (ns.map .int))), some (.d x), some (.d (.lst (made x))), some (.d (.int 5)), some (.d (.exc "NoStore" "store" x)), o5] cc (mLc (mRng1 (mC (.int 16))) [5] (gvName 5) tvYes (mOp dEq (mVar 5) (mVar 3))) (.lst [.bl false, .bl false, .bl false, .bl false, .bl false, .bl true, .bl false, .bl false, .bl false, .bl false, .bl false, .bl false, .bl false, .bl false, .bl false, .bl false]) by kernel_rfl) (by kernel_rfl)))), _, _, _, rfl⟩
    · exact ⟨_, [some (.d (.scr (ns.map .int))), some (.d x), some (.d (.lst (made x))), some (.d (.int 6)), some (.d (.exc "NoVisit" "visit" x)), o5], rfl, (seq_if_no (show Holds [some (.d (.scr (ns.map .int))), some (.d x), some (.d (.lst (made x))), some (.d (.int 6)), some (.d (.exc "NoVisit" "visit" x)), o5] cc (mOr (mNot (mT (mIsX [("NoHost", true), ("NoLand", true), ("NoRules", true), ("NoSlip", true), ("NoDeed", true), ("NoStore", true), ("NoVisit", true), ("NoReader", true), ("NoCase", true), ("NoTrouble", true), ("NoGuard", true), ("NoPlan", true), ("NoMenu", true), ("NoNumber", true), ("NothingBack", true), ("NoNote", true), ("TooMany", false)] (mVar 4)))) (mNot (mT (mIsX [("NoHost", true), ("NoLand", true), ("NoRules", true), ("NoSlip", true), ("NoDeed", true), ("NoStore", true), ("NoVisit", true), ("NoReader", true), ("NoCase", true), ("NoTrouble", true), ("NoGuard", true), ("NoPlan", true), ("NoMenu", true), ("NoNumber", true), ("NothingBack", true), ("NoNote", true), ("TooMany", false)] (mVar 4))))) false by kernel_rfl)).trans (off82 (t_ok (op_ok (call1 (w2 := .d (.exc "NoVisit" "visit" x)) rfl (kinds82 ok 6 (by decide) rfl)) (show Tells [some (.d (.scr (ns.map .int))), some (.d x), some (.d (.lst (made x))), some (.d (.int 6)), some (.d (.exc "NoVisit" "visit" x)), o5] cc (mLc (mRng1 (mC (.int 16))) [5] (gvName 5) tvYes (mOp dEq (mVar 5) (mVar 3))) (.lst [.bl false, .bl false, .bl false, .bl false, .bl false, .bl false, .bl true, .bl false, .bl false, .bl false, .bl false, .bl false, .bl false, .bl false, .bl false, .bl false]) by kernel_rfl) (by kernel_rfl)))), _, _, _, rfl⟩
    · exact ⟨_, [some (.d (.scr (ns.map .int))), some (.d x), some (.d (.lst (made x))), some (.d (.int 7)), some (.d (.exc "NoReader" "reader" x)), o5], rfl, (seq_if_no (show Holds [some (.d (.scr (ns.map .int))), some (.d x), some (.d (.lst (made x))), some (.d (.int 7)), some (.d (.exc "NoReader" "reader" x)), o5] cc (mOr (mNot (mT (mIsX [("NoHost", true), ("NoLand", true), ("NoRules", true), ("NoSlip", true), ("NoDeed", true), ("NoStore", true), ("NoVisit", true), ("NoReader", true), ("NoCase", true), ("NoTrouble", true), ("NoGuard", true), ("NoPlan", true), ("NoMenu", true), ("NoNumber", true), ("NothingBack", true), ("NoNote", true), ("TooMany", false)] (mVar 4)))) (mNot (mT (mIsX [("NoHost", true), ("NoLand", true), ("NoRules", true), ("NoSlip", true), ("NoDeed", true), ("NoStore", true), ("NoVisit", true), ("NoReader", true), ("NoCase", true), ("NoTrouble", true), ("NoGuard", true), ("NoPlan", true), ("NoMenu", true), ("NoNumber", true), ("NothingBack", true), ("NoNote", true), ("TooMany", false)] (mVar 4))))) false by kernel_rfl)).trans (off82 (t_ok (op_ok (call1 (w2 := .d (.exc "NoReader" "reader" x)) rfl (kinds82 ok 7 (by decide) rfl)) (show Tells [some (.d (.scr (ns.map .int))), some (.d x), some (.d (.lst (made x))), some (.d (.int 7)), some (.d (.exc "NoReader" "reader" x)), o5] cc (mLc (mRng1 (mC (.int 16))) [5] (gvName 5) tvYes (mOp dEq (mVar 5) (mVar 3))) (.lst [.bl false, .bl false, .bl false, .bl false, .bl false, .bl false, .bl false, .bl true, .bl false, .bl false, .bl false, .bl false, .bl false, .bl false, .bl false, .bl false]) by kernel_rfl) (by kernel_rfl)))), _, _, _, rfl⟩
    · exact ⟨_, [some (.d (.scr (ns.map .int))), some (.d x), some (.d (.lst (made x))), some (.d (.int 8)), some (.d (.exc "NoCase" "part" x)), o5], rfl, (seq_if_no (show Holds [some (.d (.scr (ns.map .int))), some (.d x), some (.d (.lst (made x))), some (.d (.int 8)), some (.d (.exc "NoCase" "part" x)), o5] cc (mOr (mNot (mT (mIsX [("NoHost", true), ("NoLand", true), ("NoRules", true), ("NoSlip", true), ("NoDeed", true), ("NoStore", true), ("NoVisit", true), ("NoReader", true), ("NoCase", true), ("NoTrouble", true), ("NoGuard", true), ("NoPlan", true), ("NoMenu", true), ("NoNumber", true), ("NothingBack", true), ("NoNote", true), ("TooMany", false)] (mVar 4)))) (mNot (mT (mIsX [("NoHost", true), ("NoLand", true), ("NoRules", true), ("NoSlip", true), ("NoDeed", true), ("NoStore", true), ("NoVisit", true), ("NoReader", true), ("NoCase", true), ("NoTrouble", true), ("NoGuard", true), ("NoPlan", true), ("NoMenu", true), ("NoNumber", true), ("NothingBack", true), ("NoNote", true), ("TooMany", false)] (mVar 4))))) false by kernel_rfl)).trans (off82 (t_ok (op_ok (call1 (w2 := .d (.exc "NoCase" "part" x)) rfl (kinds82 ok 8 (by decide) rfl)) (show Tells [some (.d (.scr (ns.map .int))), some (.d x), some (.d (.lst (made x))), some (.d (.int 8)), some (.d (.exc "NoCase" "part" x)), o5] cc (mLc (mRng1 (mC (.int 16))) [5] (gvName 5) tvYes (mOp dEq (mVar 5) (mVar 3))) (.lst [.bl false, .bl false, .bl false, .bl false, .bl false, .bl false, .bl false, .bl false, .bl true, .bl false, .bl false, .bl false, .bl false, .bl false, .bl false, .bl false]) by kernel_rfl) (by kernel_rfl)))), _, _, _, rfl⟩
    · exact ⟨_, [some (.d (.scr (ns.map .int))), some (.d x), some (.d (.lst (made x))), some (.d (.int 9)), some (.d (.exc "NoTrouble" "trouble" x)), o5], rfl, (seq_if_no (show Holds [some (.d (.scr (ns.map .int))), some (.d x), some (.d (.lst (made x))), some (.d (.int 9)), some (.d (.exc "NoTrouble" "trouble" x)), o5] cc (mOr (mNot (mT (mIsX [("NoHost", true), ("NoLand", true), ("NoRules", true), ("NoSlip", true), ("NoDeed", true), ("NoStore", true), ("NoVisit", true), ("NoReader", true), ("NoCase", true), ("NoTrouble", true), ("NoGuard", true), ("NoPlan", true), ("NoMenu", true), ("NoNumber", true), ("NothingBack", true), ("NoNote", true), ("TooMany", false)] (mVar 4)))) (mNot (mT (mIsX [("NoHost", true), ("NoLand", true), ("NoRules", true), ("NoSlip", true), ("NoDeed", true), ("NoStore", true), ("NoVisit", true), ("NoReader", true), ("NoCase", true), ("NoTrouble", true), ("NoGuard", true), ("NoPlan", true), ("NoMenu", true), ("NoNumber", true), ("NothingBack", true), ("NoNote", true), ("TooMany", false)] (mVar 4))))) false by kernel_rfl)).trans (off82 (t_ok (op_ok (call1 (w2 := .d (.exc "NoTrouble" "trouble" x)) rfl (kinds82 ok 9 (by decide) rfl)) (show Tells [some (.d (.scr (ns.map .int))), some (.d x), some (.d (.lst (made x))), some (.d (.int 9)), some (.d (.exc "NoTrouble" "trouble" x)), o5] cc (mLc (mRng1 (mC (.int 16))) [5] (gvName 5) tvYes (mOp dEq (mVar 5) (mVar 3))) (.lst [.bl false, .bl false, .bl false, .bl false, .bl false, .bl false, .bl false, .bl false, .bl false, .bl true, .bl false, .bl false, .bl false, .bl false, .bl false, .bl false]) by kernel_rfl) (by kernel_rfl)))), _, _, _, rfl⟩
    · exact ⟨_, [some (.d (.scr (ns.map .int))), some (.d x), some (.d (.lst (made x))), some (.d (.int 10)), some (.d (.exc "NoGuard" "guard" x)), o5], rfl, (seq_if_no (show Holds [some (.d (.scr (ns.map .int))), some (.d x), some (.d (.lst (made x))), some (.d (.int 10)), some (.d (.exc "NoGuard" "guard" x)), o5] cc (mOr (mNot (mT (mIsX [("NoHost", true), ("NoLand", true), ("NoRules", true), ("NoSlip", true), ("NoDeed", true), ("NoStore", true), ("NoVisit", true), ("NoReader", true), ("NoCase", true), ("NoTrouble", true), ("NoGuard", true), ("NoPlan", true), ("NoMenu", true), ("NoNumber", true), ("NothingBack", true), ("NoNote", true), ("TooMany", false)] (mVar 4)))) (mNot (mT (mIsX [("NoHost", true), ("NoLand", true), ("NoRules", true), ("NoSlip", true), ("NoDeed", true), ("NoStore", true), ("NoVisit", true), ("NoReader", true), ("NoCase", true), ("NoTrouble", true), ("NoGuard", true), ("NoPlan", true), ("NoMenu", true), ("NoNumber", true), ("NothingBack", true), ("NoNote", true), ("TooMany", false)] (mVar 4))))) false by kernel_rfl)).trans (off82 (t_ok (op_ok (call1 (w2 := .d (.exc "NoGuard" "guard" x)) rfl (kinds82 ok 10 (by decide) rfl)) (show Tells [some (.d (.scr (ns.map .int))), some (.d x), some (.d (.lst (made x))), some (.d (.int 10)), some (.d (.exc "NoGuard" "guard" x)), o5] cc (mLc (mRng1 (mC (.int 16))) [5] (gvName 5) tvYes (mOp dEq (mVar 5) (mVar 3))) (.lst [.bl false, .bl false, .bl false, .bl false, .bl false, .bl false, .bl false, .bl false, .bl false, .bl false, .bl true, .bl false, .bl false, .bl false, .bl false, .bl false]) by kernel_rfl) (by kernel_rfl)))), _, _, _, rfl⟩
    · exact ⟨_, [some (.d (.scr (ns.map .int))), some (.d x), some (.d (.lst (made x))), some (.d (.int 11)), some (.d (.exc "NoPlan" "part" x)), o5], rfl, (seq_if_no (show Holds [some (.d (.scr (ns.map .int))), some (.d x), some (.d (.lst (made x))), some (.d (.int 11)), some (.d (.exc "NoPlan" "part" x)), o5] cc (mOr (mNot (mT (mIsX [("NoHost", true), ("NoLand", true), ("NoRules", true), ("NoSlip", true), ("NoDeed", true), ("NoStore", true), ("NoVisit", true), ("NoReader", true), ("NoCase", true), ("NoTrouble", true), ("NoGuard", true), ("NoPlan", true), ("NoMenu", true), ("NoNumber", true), ("NothingBack", true), ("NoNote", true), ("TooMany", false)] (mVar 4)))) (mNot (mT (mIsX [("NoHost", true), ("NoLand", true), ("NoRules", true), ("NoSlip", true), ("NoDeed", true), ("NoStore", true), ("NoVisit", true), ("NoReader", true), ("NoCase", true), ("NoTrouble", true), ("NoGuard", true), ("NoPlan", true), ("NoMenu", true), ("NoNumber", true), ("NothingBack", true), ("NoNote", true), ("TooMany", false)] (mVar 4))))) false by kernel_rfl)).trans (off82 (t_ok (op_ok (call1 (w2 := .d (.exc "NoPlan" "part" x)) rfl (kinds82 ok 11 (by decide) rfl)) (show Tells [some (.d (.scr (ns.map .int))), some (.d x), some (.d (.lst (made x))), some (.d (.int 11)), some (.d (.exc "NoPlan" "part" x)), o5] cc (mLc (mRng1 (mC (.int 16))) [5] (gvName 5) tvYes (mOp dEq (mVar 5) (mVar 3))) (.lst [.bl false, .bl false, .bl false, .bl false, .bl false, .bl false, .bl false, .bl false, .bl false, .bl false, .bl false, .bl true, .bl false, .bl false, .bl false, .bl false]) by kernel_rfl) (by kernel_rfl)))), _, _, _, rfl⟩
    · exact ⟨_, [some (.d (.scr (ns.map .int))), some (.d x), some (.d (.lst (made x))), some (.d (.int 12)), some (.d (.exc "NoMenu" "menu" x)), o5], rfl, (seq_if_no (show Holds [some (.d (.scr (ns.map .int))), some (.d x), some (.d (.lst (made x))), some (.d (.int 12)), some (.d (.exc "NoMenu" "menu" x)), o5] cc (mOr (mNot (mT (mIsX [("NoHost", true), ("NoLand", true), ("NoRules", true), ("NoSlip", true), ("NoDeed", true), ("NoStore", true), ("NoVisit", true), ("NoReader", true), ("NoCase", true), ("NoTrouble", true), ("NoGuard", true), ("NoPlan", true), ("NoMenu", true), ("NoNumber", true), ("NothingBack", true), ("NoNote", true), ("TooMany", false)] (mVar 4)))) (mNot (mT (mIsX [("NoHost", true), ("NoLand", true), ("NoRules", true), ("NoSlip", true), ("NoDeed", true), ("NoStore", true), ("NoVisit", true), ("NoReader", true), ("NoCase", true), ("NoTrouble", true), ("NoGuard", true), ("NoPlan", true), ("NoMenu", true), ("NoNumber", true), ("NothingBack", true), ("NoNote", true), ("TooMany", false)] (mVar 4))))) false by kernel_rfl)).trans (off82 (t_ok (op_ok (call1 (w2 := .d (.exc "NoMenu" "menu" x)) rfl (kinds82 ok 12 (by decide) rfl)) (show Tells [some (.d (.scr (ns.map .int))), some (.d x), some (.d (.lst (made x))), some (.d (.int 12)), some (.d (.exc "NoMenu" "menu" x)), o5] cc (mLc (mRng1 (mC (.int 16))) [5] (gvName 5) tvYes (mOp dEq (mVar 5) (mVar 3))) (.lst [.bl false, .bl false, .bl false, .bl false, .bl false, .bl false, .bl false, .bl false, .bl false, .bl false, .bl false, .bl false, .bl true, .bl false, .bl false, .bl false]) by kernel_rfl) (by kernel_rfl)))), _, _, _, rfl⟩
    · exact ⟨_, [some (.d (.scr (ns.map .int))), some (.d x), some (.d (.lst (made x))), some (.d (.int 13)), some (.d (.exc "NoNumber" "value" x)), o5], rfl, (seq_if_no (show Holds [some (.d (.scr (ns.map .int))), some (.d x), some (.d (.lst (made x))), some (.d (.int 13)), some (.d (.exc "NoNumber" "value" x)), o5] cc (mOr (mNot (mT (mIsX [("NoHost", true), ("NoLand", true), ("NoRules", true), ("NoSlip", true), ("NoDeed", true), ("NoStore", true), ("NoVisit", true), ("NoReader", true), ("NoCase", true), ("NoTrouble", true), ("NoGuard", true), ("NoPlan", true), ("NoMenu", true), ("NoNumber", true), ("NothingBack", true), ("NoNote", true), ("TooMany", false)] (mVar 4)))) (mNot (mT (mIsX [("NoHost", true), ("NoLand", true), ("NoRules", true), ("NoSlip", true), ("NoDeed", true), ("NoStore", true), ("NoVisit", true), ("NoReader", true), ("NoCase", true), ("NoTrouble", true), ("NoGuard", true), ("NoPlan", true), ("NoMenu", true), ("NoNumber", true), ("NothingBack", true), ("NoNote", true), ("TooMany", false)] (mVar 4))))) false by kernel_rfl)).trans (off82 (t_ok (op_ok (call1 (w2 := .d (.exc "NoNumber" "value" x)) rfl (kinds82 ok 13 (by decide) rfl)) (show Tells [some (.d (.scr (ns.map .int))), some (.d x), some (.d (.lst (made x))), some (.d (.int 13)), some (.d (.exc "NoNumber" "value" x)), o5] cc (mLc (mRng1 (mC (.int 16))) [5] (gvName 5) tvYes (mOp dEq (mVar 5) (mVar 3))) (.lst [.bl false, .bl false, .bl false, .bl false, .bl false, .bl false, .bl false, .bl false, .bl false, .bl false, .bl false, .bl false, .bl false, .bl true, .bl false, .bl false]) by kernel_rfl) (by kernel_rfl)))), _, _, _, rfl⟩
    · exact ⟨_, [some (.d (.scr (ns.map .int))), some (.d x), some (.d (.lst (made x))), some (.d (.int 14)), some (.d (.exc "NothingBack" "many" x)), o5], rfl, (seq_if_no (show Holds [some (.d (.scr (ns.map .int))), some (.d x), some (.d (.lst (made x))), some (.d (.int 14)), some (.d (.exc "NothingBack" "many" x)), o5] cc (mOr (mNot (mT (mIsX [("NoHost", true), ("NoLand", true), ("NoRules", true), ("NoSlip", true), ("NoDeed", true), ("NoStore", true), ("NoVisit", true), ("NoReader", true), ("NoCase", true), ("NoTrouble", true), ("NoGuard", true), ("NoPlan", true), ("NoMenu", true), ("NoNumber", true), ("NothingBack", true), ("NoNote", true), ("TooMany", false)] (mVar 4)))) (mNot (mT (mIsX [("NoHost", true), ("NoLand", true), ("NoRules", true), ("NoSlip", true), ("NoDeed", true), ("NoStore", true), ("NoVisit", true), ("NoReader", true), ("NoCase", true), ("NoTrouble", true), ("NoGuard", true), ("NoPlan", true), ("NoMenu", true), ("NoNumber", true), ("NothingBack", true), ("NoNote", true), ("TooMany", false)] (mVar 4))))) false by kernel_rfl)).trans (off82 (t_ok (op_ok (call1 (w2 := .d (.exc "NothingBack" "many" x)) rfl (kinds82 ok 14 (by decide) rfl)) (show Tells [some (.d (.scr (ns.map .int))), some (.d x), some (.d (.lst (made x))), some (.d (.int 14)), some (.d (.exc "NothingBack" "many" x)), o5] cc (mLc (mRng1 (mC (.int 16))) [5] (gvName 5) tvYes (mOp dEq (mVar 5) (mVar 3))) (.lst [.bl false, .bl false, .bl false, .bl false, .bl false, .bl false, .bl false, .bl false, .bl false, .bl false, .bl false, .bl false, .bl false, .bl false, .bl true, .bl false]) by kernel_rfl) (by kernel_rfl)))), _, _, _, rfl⟩
    · exact ⟨_, [some (.d (.scr (ns.map .int))), some (.d x), some (.d (.lst (made x))), some (.d (.int 15)), some (.d (.exc "NoNote" "line" x)), o5], rfl, (seq_if_no (show Holds [some (.d (.scr (ns.map .int))), some (.d x), some (.d (.lst (made x))), some (.d (.int 15)), some (.d (.exc "NoNote" "line" x)), o5] cc (mOr (mNot (mT (mIsX [("NoHost", true), ("NoLand", true), ("NoRules", true), ("NoSlip", true), ("NoDeed", true), ("NoStore", true), ("NoVisit", true), ("NoReader", true), ("NoCase", true), ("NoTrouble", true), ("NoGuard", true), ("NoPlan", true), ("NoMenu", true), ("NoNumber", true), ("NothingBack", true), ("NoNote", true), ("TooMany", false)] (mVar 4)))) (mNot (mT (mIsX [("NoHost", true), ("NoLand", true), ("NoRules", true), ("NoSlip", true), ("NoDeed", true), ("NoStore", true), ("NoVisit", true), ("NoReader", true), ("NoCase", true), ("NoTrouble", true), ("NoGuard", true), ("NoPlan", true), ("NoMenu", true), ("NoNumber", true), ("NothingBack", true), ("NoNote", true), ("TooMany", false)] (mVar 4))))) false by kernel_rfl)).trans (off82 (t_ok (op_ok (call1 (w2 := .d (.exc "NoNote" "line" x)) rfl (kinds82 ok 15 (by decide) rfl)) (show Tells [some (.d (.scr (ns.map .int))), some (.d x), some (.d (.lst (made x))), some (.d (.int 15)), some (.d (.exc "NoNote" "line" x)), o5] cc (mLc (mRng1 (mC (.int 16))) [5] (gvName 5) tvYes (mOp dEq (mVar 5) (mVar 3))) (.lst [.bl false, .bl false, .bl false, .bl false, .bl false, .bl false, .bl false, .bl false, .bl false, .bl false, .bl false, .bl false, .bl false, .bl false, .bl false, .bl true]) by kernel_rfl) (by kernel_rfl)))), _, _, _, rfl⟩) ⟨o3, o4, o5, rfl⟩
    exact ⟨p3, p4, p5, (seq_if_no kt).trans (loop82 it3 run)⟩
  have it2 : ∀ {o2 o3 o4 o5 : Option W}, (mIt (mLst (mCons (mCall fn__law_by_place 1 (mCons (mVar 1) mNil) []) (mCons (mCall fn__law_by_name 1 (mCons (mVar 1) mNil) []) mNil)))) [some (.d (.scr (ns.map .int))), some (.d x), o2, o3, o4, o5] cc = .ok [.lst (made x), .lst (made x)] cc := fun {o2 o3 o4 o5} => it_ok (x := .lst [.lst (made x), .lst (made x)]) (by
    unfold Tells mLst
    rw [args (call1 (w2 := .d x) rfl (place82 ok)) (args (call1 (w2 := .d x) rfl (name82 ok)) args0)]
    rfl) rfl
  obtain ⟨env', run, p2, p3, p4, p5, rfl⟩ := same82 (cc := cc) (G := gvName 2) (b := (sSeq (sIf (mT (mOp dNe (mCall fn__law_kept 1 (mCons (mVar 2) mNil) []) (mOp dRep (mLst (mCons (mVar 1) mNil)) (mC (.int 16))))) (sRet (mC (.bl false))) sNext)
    (sFor (mEnum (mVar 2)) (gvTup 2 (gvCons (gvName 3) (gvCons (gvName 4) gvNil))) (sSeq (sIf (mOr (mNot (mT (mIsX [("NoHost", true), ("NoLand", true), ("NoRules", true), ("NoSlip", true), ("NoDeed", true), ("NoStore", true), ("NoVisit", true), ("NoReader", true), ("NoCase", true), ("NoTrouble", true), ("NoGuard", true), ("NoPlan", true), ("NoMenu", true), ("NoNumber", true), ("NothingBack", true), ("NoNote", true), ("TooMany", false)] (mVar 4)))) (mNot (mT (mIsX [("NoHost", true), ("NoLand", true), ("NoRules", true), ("NoSlip", true), ("NoDeed", true), ("NoStore", true), ("NoVisit", true), ("NoReader", true), ("NoCase", true), ("NoTrouble", true), ("NoGuard", true), ("NoPlan", true), ("NoMenu", true), ("NoNumber", true), ("NothingBack", true), ("NoNote", true), ("TooMany", false)] (mVar 4))))) (sRet (mC (.bl false))) sNext)
    (sIf (mT (mOp dNe (mCall fn__law_kinds 1 (mCons (mVar 4) mNil) []) (mLc (mRng1 (mC (.int 16))) [5] (gvName 5) tvYes (mOp dEq (mVar 5) (mVar 3))))) (sRet (mC (.bl false))) sNext))))) (xs := [.lst (made x), .lst (made x)]) (fun env => ∃ o2 o3 o4 o5, env = [some (.d (.scr (ns.map .int))), some (.d x), o2, o3, o4, o5]) (by
    rintro y my env ⟨o2, o3, o4, o5, rfl⟩
    simp only [List.mem_cons, List.not_mem_nil, or_false, or_self] at my
    subst my
    obtain ⟨q3, q4, q5, go⟩ := in3 (o3 := o3) (o4 := o4) (o5 := o5)
    exact ⟨_, _, rfl, go, _, _, _, _, rfl⟩) ⟨o2, o3, o4, o5, rfl⟩
  have it4 : ∀ {o2 o3 o4 o5 : Option W}, (mIt (mLst (mCons (mExc "TooMany" "most" (mVar 1)) (mCons (mExc "TooMany" "most" (mVar 1)) mNil)))) [some (.d (.scr (ns.map .int))), some (.d x), o2, o3, o4, o5] cc = .ok [.exc "TooMany" "most" x, .exc "TooMany" "most" x] cc := rfl
  obtain ⟨env4, run4, q2, q3, q4, q5, rfl⟩ := same82 (cc := cc) (G := gvName 4) (b := (sIf (mOr (mT (mOp dNe (mExf ["TooMany"] "most" (mVar 4)) (mVar 1))) (mOr (mNot (mT (mIsX [("NoHost", false), ("NoLand", false), ("NoRules", false), ("NoSlip", false), ("NoDeed", false), ("NoStore", false), ("NoVisit", false), ("NoReader", false), ("NoCase", false), ("NoTrouble", false), ("NoGuard", false), ("NoPlan", false), ("NoMenu", false), ("NoNumber", false), ("NothingBack", false), ("NoNote", false), ("TooMany", true)] (mVar 4)))) (mOr (mT (mIsX [("NoHost", true), ("NoLand", true), ("NoRules", true), ("NoSlip", true), ("NoDeed", true), ("NoStore", true), ("NoVisit", true), ("NoReader", true), ("NoCase", true), ("NoTrouble", true), ("NoGuard", true), ("NoPlan", true), ("NoMenu", true), ("NoNumber", true), ("NothingBack", true), ("NoNote", true), ("TooMany", false)] (mVar 4))) (mT (mOp dIn (mC (.bl true)) (mCall fn__law_kinds 1 (mCons (mVar 4) mNil) [])))))) (sRet (mC (.bl false))) sNext)) (xs := [.exc "TooMany" "most" x, .exc "TooMany" "most" x]) (fun env => ∃ o2 o3 o4 o5, env = [some (.d (.scr (ns.map .int))), some (.d x), o2, o3, o4, o5]) (by
    rintro y my env ⟨o2, o3, o4, o5, rfl⟩
    simp only [List.mem_cons, List.not_mem_nil, or_false, or_self] at my
    subst my
    have t1 : Holds [some (.d (.scr (ns.map .int))), some (.d x), o2, o3, some (.d (.exc "TooMany" "most" x)), o5] cc (mT (mOp dNe (mExf ["TooMany"] "most" (mVar 4)) (mVar 1))) false := t_ok (op_ok (x := x) (by kernel_rfl) rfl (ne82 T.cmp T.eq))
    have t2 : Holds [some (.d (.scr (ns.map .int))), some (.d x), o2, o3, some (.d (.exc "TooMany" "most" x)), o5] cc (mOr (mNot (mT (mIsX [("NoHost", false), ("NoLand", false), ("NoRules", false), ("NoSlip", false), ("NoDeed", false), ("NoStore", false), ("NoVisit", false), ("NoReader", false), ("NoCase", false), ("NoTrouble", false), ("NoGuard", false), ("NoPlan", false), ("NoMenu", false), ("NoNumber", false), ("NothingBack", false), ("NoNote", false), ("TooMany", true)] (mVar 4)))) (mOr (mT (mIsX [("NoHost", true), ("NoLand", true), ("NoRules", true), ("NoSlip", true), ("NoDeed", true), ("NoStore", true), ("NoVisit", true), ("NoReader", true), ("NoCase", true), ("NoTrouble", true), ("NoGuard", true), ("NoPlan", true), ("NoMenu", true), ("NoNumber", true), ("NothingBack", true), ("NoNote", true), ("TooMany", false)] (mVar 4))) (mT (mOp dIn (mC (.bl true)) (mCall fn__law_kinds 1 (mCons (mVar 4) mNil) []))))) false := or_ok (a := false) (b := false) (by kernel_rfl) fun _ => or_ok (a := false) (b := false) (by kernel_rfl) fun _ => t_ok (op_ok (x := .bl true) rfl (call1 (w2 := .d (.exc "TooMany" "most" x)) rfl (many82 ok)) (by kernel_rfl))
    exact ⟨_, [some (.d (.scr (ns.map .int))), some (.d x), o2, o3, some (.d (.exc "TooMany" "most" x)), o5], rfl, off82 (or_ok (a := false) (b := false) t1 fun _ => t2), _, _, _, _, rfl⟩) ⟨p2, p3, p4, p5, rfl⟩
  exact ⟨q2, q3, q4, q5, (seq_to (loop82 it2 run)).trans (loop82 it4 run4)⟩
end
def things (n : Int) : List D := [.int n, .non, .str "a", .lst [.int 1, .str "b"], .tup [.int 2], .bl true]
theorem things_ok {n : Int} {x : D} (m : x ∈ things n) : Th x := by
  unfold things at m
  simp only [List.mem_cons, List.not_mem_nil, or_false] at m
  rcases m with rfl | rfl | rfl | rfl | rfl | rfl
  · exact ⟨rfl, rfl, decide_eq_true rfl⟩
  · exact ⟨by decide +kernel, by decide +kernel, by decide +kernel⟩
  · exact ⟨by decide +kernel, by decide +kernel, by decide +kernel⟩
  · exact ⟨by decide +kernel, by decide +kernel, by decide +kernel⟩
  · exact ⟨by decide +kernel, by decide +kernel, by decide +kernel⟩
  · exact ⟨by decide +kernel, by decide +kernel, by decide +kernel⟩
theorem plain (ns : List Int) (_ : ns.length ≤ 63) : ∃ cc, fn_law [.d (.scr (ns.map .int))] [] = .ok (.d (.bl true)) cc := by
  refine ⟨[], fnOf_rt (n := 6) (b := fn_law_b) rfl ?_⟩
  have it1 : (mIt (mLst (mCons (mB dLen (mCons (mVar 0) mNil)) (mCons (mC .non) (mCons (mC (.str "a")) (mCons (mLst (mCons (mC (.int 1)) (mCons (mC (.str "b")) mNil))) (mCons (mTup (mCons (mC (.int 2)) mNil)) (mCons (mC (.bl true)) mNil)))))))) (env0 6 [.d (.scr (ns.map .int))]) [] = .ok (things ((ns.map D.int).length : Int)) [] := rfl
  obtain ⟨env', run, _⟩ := same82 (cc := []) (G := gvName 1) (b := (sSeq (sFor (mIt (mLst (mCons (mCall fn__law_by_place 1 (mCons (mVar 1) mNil) []) (mCons (mCall fn__law_by_name 1 (mCons (mVar 1) mNil) []) mNil)))) (gvName 2) (sSeq (sIf (mT (mOp dNe (mCall fn__law_kept 1 (mCons (mVar 2) mNil) []) (mOp dRep (mLst (mCons (mVar 1) mNil)) (mC (.int 16))))) (sRet (mC (.bl false))) sNext)
    (sFor (mEnum (mVar 2)) (gvTup 2 (gvCons (gvName 3) (gvCons (gvName 4) gvNil))) (sSeq (sIf (mOr (mNot (mT (mIsX [("NoHost", true), ("NoLand", true), ("NoRules", true), ("NoSlip", true), ("NoDeed", true), ("NoStore", true), ("NoVisit", true), ("NoReader", true), ("NoCase", true), ("NoTrouble", true), ("NoGuard", true), ("NoPlan", true), ("NoMenu", true), ("NoNumber", true), ("NothingBack", true), ("NoNote", true), ("TooMany", false)] (mVar 4)))) (mNot (mT (mIsX [("NoHost", true), ("NoLand", true), ("NoRules", true), ("NoSlip", true), ("NoDeed", true), ("NoStore", true), ("NoVisit", true), ("NoReader", true), ("NoCase", true), ("NoTrouble", true), ("NoGuard", true), ("NoPlan", true), ("NoMenu", true), ("NoNumber", true), ("NothingBack", true), ("NoNote", true), ("TooMany", false)] (mVar 4))))) (sRet (mC (.bl false))) sNext)
    (sIf (mT (mOp dNe (mCall fn__law_kinds 1 (mCons (mVar 4) mNil) []) (mLc (mRng1 (mC (.int 16))) [5] (gvName 5) tvYes (mOp dEq (mVar 5) (mVar 3))))) (sRet (mC (.bl false))) sNext)))))
    (sFor (mIt (mLst (mCons (mExc "TooMany" "most" (mVar 1)) (mCons (mExc "TooMany" "most" (mVar 1)) mNil)))) (gvName 4) (sIf (mOr (mT (mOp dNe (mExf ["TooMany"] "most" (mVar 4)) (mVar 1))) (mOr (mNot (mT (mIsX [("NoHost", false), ("NoLand", false), ("NoRules", false), ("NoSlip", false), ("NoDeed", false), ("NoStore", false), ("NoVisit", false), ("NoReader", false), ("NoCase", false), ("NoTrouble", false), ("NoGuard", false), ("NoPlan", false), ("NoMenu", false), ("NoNumber", false), ("NothingBack", false), ("NoNote", false), ("TooMany", true)] (mVar 4)))) (mOr (mT (mIsX [("NoHost", true), ("NoLand", true), ("NoRules", true), ("NoSlip", true), ("NoDeed", true), ("NoStore", true), ("NoVisit", true), ("NoReader", true), ("NoCase", true), ("NoTrouble", true), ("NoGuard", true), ("NoPlan", true), ("NoMenu", true), ("NoNumber", true), ("NothingBack", true), ("NoNote", true), ("TooMany", false)] (mVar 4))) (mT (mOp dIn (mC (.bl true)) (mCall fn__law_kinds 1 (mCons (mVar 4) mNil) [])))))) (sRet (mC (.bl false))) sNext)))) (xs := things ((ns.map D.int).length : Int)) (fun env => ∃ o1 o2 o3 o4 o5, env = [some (.d (.scr (ns.map .int))), o1, o2, o3, o4, o5]) (by
    rintro x mx env ⟨o1, o2, o3, o4, o5, rfl⟩
    obtain ⟨p2, p3, p4, p5, go⟩ := turn82 (cc := []) rfl (things_ok mx) (ns := ns) (o2 := o2) (o3 := o3) (o4 := o4) (o5 := o5)
    exact ⟨_, _, rfl, go, _, _, _, _, _, rfl⟩) ⟨none, none, none, none, none, rfl⟩
  exact (seq_to (loop82 it1 run)).trans rfl
end Lw
theorem PySem.Challenge.cw_visitslips_k82_errors_told_holds : PySem.Challenge.rw_visitslips_k82_errors_told.Holds := by
  exact Lw.join Lw.plain
